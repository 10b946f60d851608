import PyProof.Rows.All
import Wide.All
import OpenK.AllK
import Wide.FinOn
import HandS.Base
import HandS.Call
import HandS.List
import HandS.Comp
import HandS.Exc
import HandS.Hot
import HandS.HotCalls
import HandS.Lambda
import HandS.ExcIs
import HandS.Words
import HandS.Wide
import HandS.ForMost
import HandS.EndTab
import HandS.IsInst
import HandS.Style
import HandS.SortInts
import HandS.More
import HandS.Small
import PySem.Challenge.RW_wirestrands_k41_whole_two_lives
set_option Elab.async false
set_option linter.all false
set_option maxRecDepth 100000
set_option maxHeartbeats 4000000
namespace Ws
open PySem PySem.Spec PyProof.Rows L2 HotX
section
variable {prog : Program} {w : World} {A : Around} {E : Value → Shared → Prop} {s : Shared}
/-- the end of a list's walk while an exception is handled -/
theorem next_end_hot {it l x1 : Addr} {i : Nat} {items : Array Value} {Q : Option Value → Shared → Prop} (hot : HotAt A x1 s.heap) (nx : x1 ≠ it)
    (hit : s.heap.IsListIter it l i) (hl : s.heap.IsList l items) (hx : items[i]? = none)
    (hQ : ∀ h', Heap.ExtBut it s.heap h' → Q none { s with heap := h' }) : wpAny (model prog w) A (pyNext (.ref it)) Q E s := by
  obtain ⟨o, ho, hc, hd⟩ := id hit
  obtain ⟨ol, hol, _, nl, hdl⟩ := hl
  obtain ⟨hh, o1, vs1, h1, d1, c1⟩ := hot
  unfold pyNext
  refine wpAny_bind (wpAny_attempt (wpAny_callSpecial?_slot (name := Str.ofString "__next__") hit.typeIs slot_listiter_next
    (wpAny_call_entry slot_listiter_next hit.typeIs entry_listiter_next ?_ (args_listiter_next _))))
  refine wpAny_bind (m := field (.ref it) 0) (wpAny_field ho hd (x := .ref l) rfl ?_)
  rw [if_neg (show ¬ ((Value.ref l == Value.none) = true) from Bool.false_ne_true)]
  refine wpAny_bind (m := field (.ref it) 1) (wpAny_field ho hd (x := .int i 0) rfl ?_)
  refine wpAny_bind (m := seqItems? (.ref l)) (wpAny_seqItems hol hdl ?_)
  simp only [Int.toNat_natCast, hx]
  refine wpAny_bind (wpAny_rule (wpAny_bind (wpAny_setField ho hd (by simp) ?_)))
  refine wpAny_bind (m := newExc (.type "StopIteration") []) ?_
  simp only [newExc, newTuple]
  refine wpAny_bind (wpAny_newObj_type ?_ (by size_fits))
  refine wpAny_bind (m := firstArgMember _ _) (wpAny_of_eq (a := Value.none) (by first | rfl | (simp only [firstArgMember]; rfl)) ?_)
  refine wpAny_newObj_type ?_ (by size_fits)
  have h1' : (s.heap.update it (Obj.mapFields (·.setIfInBounds 0 Value.none))).get? x1 = some o1 := by
    rw [Heap.get?_update_other _ _ (Ne.symm nx)]; exact h1
  refine raiseNew_hot ⟨hh, o1, vs1, Heap.get?_push_of_some _ (Heap.get?_push_of_some _ h1'), d1, c1⟩ (Nat.ne_of_lt (Heap.lt_size (Heap.get?_push_of_some _ h1'))) (Heap.get?_push_size _ rfl) rfl (by first | (simp; done) | (simp; omega) | (simp only [Array.size_append]; simp; omega)) ?_
  refine wpAny_bind (wpAny_isInstance (T := "StopIteration") (b := true) ⟨_, Heap.get?_update_self _ (Heap.get?_push_size _ rfl) rfl, rfl⟩ isSubtype_stop ?_)
  refine wpAny_pure (hQ _ fun b o hb e => ?_)
  have e' : (s.heap.update it (Obj.mapFields (·.setIfInBounds 0 Value.none))).get? b = some o := by
    rw [Heap.get?_update_other _ _ (Ne.symm hb)]; exact e
  rw [Heap.get?_update_other _ _ (Nat.ne_of_gt (Heap.lt_size (Heap.get?_push_of_some _ e')))]
  exact Heap.get?_push_of_some _ (Heap.get?_push_of_some _ e')
end

section
variable {prog : Program} {w : World} {A : Around}
theorem walks_hot {x1 : Addr} {o1 : Obj} {vs1 : Array Value} (hh : A.handled = some (.ref x1)) (d1 : o1.data = .fields vs1) (c1 : vs1[2]? = some .none) (it ax : Addr) (hne : ax ≠ it) (hx : x1 ≠ it) (items : Array Value) :
    Walks prog w A it [it, ax, x1] [it] items.size (fun i v => items[i]? = some v) (fun i h => h.IsListIter it ax i ∧ h.IsList ax items ∧ h.get? x1 = some o1) where
  sub := fun b hb => by simp at hb; simp [hb]
  frame := fun _ _ _ st hk => ⟨st.1.at fun o e => hk it (by simp) o e, st.2.1.at fun o e => hk ax (by simp) o e, hk x1 (by simp) _ st.2.2⟩
  item := fun i s Q E hi st hQ => by
    refine wpAny_pyNext_list_item st.1 st.2.1 (x := items[i]) (by simp [hi]) fun h' hit' hs' => ?_
    exact hQ _ h' s.toks (by simp [hi]) ⟨hit', st.2.1.extBut hs'.extBut hne, hs'.extBut _ _ hx st.2.2⟩ fun b o hb e => hs'.extBut b o (fun h => hb (by simp [h])) e
  done := fun s Q E st hQ => next_end_hot ⟨hh, o1, vs1, st.2.2, d1, c1⟩ hx st.1 st.2.1 (by simp) fun h' eb => hQ h' s.toks fun b o hb e => eb b o (by simpa using hb) e
  self := fun i s Q E st hQ => wpAny_pyIter_listiter st.1 hQ
end
section
variable {X : Cx}
/-- sum of a list of ints while an exception is handled -/
theorem cr_sumH (hc : L2H.HotC X) : CallR X (.builtin "sum") (rSum X.K) := by
  intro pins s σ H vs us Q I r h
  obtain ⟨a, ns, rfl, hs, q⟩ := h
  obtain ⟨its, rv, hl, _⟩ := I.list hs
  rw [Vals.ref1 r]
  have hi : IntsAre its ns := rv.ints
  obtain ⟨xs, e⟩ := hi.allInts.items
  have hn : numsOf (intItems xs).toList = ns := by rw [← e]; exact hi.numsOf
  rw [nums_intItems] at hn
  have hl := hl.isList
  rw [e] at hl
  obtain ⟨p, ⟨hh, v1, e1, c1⟩, hp⟩ := hc
  have hget := (I.pin p (List.mem_append_left _ hp)).1
  refine call_sum_walkG (iter_intList hl fun s₂ e₂ st hfp hlI => ?_)
  subst e₂
  have hne : p.1 ≠ s.heap.objs.size := Nat.ne_of_lt (Heap.lt_size hget)
  refine ⟨_, _, _, _, _, _, numAt xs, rfl, walks_hot (A := X.A.in1) (x1 := p.1) (o1 := p.2) hh e1 c1 _ a hlI hne (intItems xs), ⟨st.1, st.2, Heap.get?_push_of_some _ hget⟩, fun b hb => ?_, (fun _ _ => intItems_at), fun h' tk t' hk => ?_⟩
  · have hb' : b = s.heap.objs.size ∨ b = a ∨ b = p.1 := by simpa using hb
    rcases hb' with z | z | z
    · exact hfp b (by simp [z])
    · exact hfp b (by simp [z])
    · rw [z]; exact Heap.lt_size (Heap.get?_push_of_some _ hget)
  · have hk' : ∀ b o, s.heap.get? b = some o → h'.get? b = some o := old_kept hk
    have ee : preSum (numAt xs) (intItems xs).size = ns.sum := by
      rw [show (intItems xs).size = xs.size by simp [intItems], preSum_eq, List.take_of_length_le (by simp), hn]
    rw [ee]
    exact ⟨.int _, H, I.kept hk', ⟨_, rfl⟩, q⟩
end
end Ws

set_option Elab.async false
set_option linter.all false
set_option maxRecDepth 100000
set_option maxHeartbeats 4000000
namespace Ws
open PySem PySem.Spec PyProof.Rows L2 HotX
section
variable {X : Cx}
/-- a list made of a list, item by item, by a reading that touches nothing -/
def tMapH (K : PySem.W.Frag) (tl : TE) (g : TG) (te : TE) (vs : List Nat) : TE := fun σ H Q => tl σ H fun x H1 => ∃ (a : Addr) (xs : List V) (f : V → V), x = .ref a ∧ SqL K H1 a xs ∧ xs.length < sizeLine ∧
  (∀ (v : V) (H : Hp), v ∈ xs → g v (wipe σ vs) H fun σ2 H2 => H2 = H ∧ wipe σ2 vs = wipe σ vs ∧ te σ2 H2 fun y H3 => H3 = H ∧ y = f v) ∧
  ∀ D, H1 D = none → Q (.ref D) (upd H1 D (.lst (xs.map f)))
theorem sql_new {K : PySem.W.Frag} {H : Hp} {a D : Addr} {xs : List V} {o : HO} (h : SqL K H a xs) (hD : H D = none) : SqL K (upd H D o) a xs := by
  rcases h with (h | ⟨ob, h⟩) | h
  · exact .inl (.inl (by rw [upd_ne (ne_of_none h hD)]; exact h))
  · exact .inl (.inr ⟨ob, by rw [upd_ne (ne_of_none h hD)]; exact h⟩)
  · exact .inr h
theorem pe_mapH {elt tg iter : Expr} {scope : Scope} {own : List (Str × Nat)} {pos : Pos} {tl : TE} {g : TG} {te : TE} (hc : L2H.HotC X) (hN : X.N.Nodup) (hi : PE X iter tl) (ok : BlkOk X.N X.env.scope scope own)
    (hg : ∀ (s : Shared) (H : Hp) (C : Addr) (cl : List (Str × Addr)) (fp : List Addr), PG (X.blk s H scope (compEnvC scope cl C X.env) fp) tg g)
    (he : ∀ (s : Shared) (H : Hp) (C : Addr) (cl : List (Str × Addr)) (fp : List Addr), PE (X.blk s H scope (compEnvC scope cl C X.env) fp) elt te) (hs : ∀ x, foldedSetIterable iter X.env x = pure x := by intro _; rfl) :
    PE X (.ListComp elt [⟨tg, iter, [], 0⟩] scope pos) (tMapH X.K tl g te (own.map (·.2))) := by
  refine ⟨fun pins s σ H Q I h => ?_⟩
  rw [eval_ListComp]
  have hfree : ∀ y ∈ scope.names, y.2 = .free → ∃ c, X.env.cells.lookup y.1 = some c := fun y hy e => by
    rcases ok.free y hy e with k | k
    · exact I.ok.has _ (.inl k)
    · exact I.ok.has _ (.inr k)
  refine wpAny_comprehension_free (use := Option.none) rfl hs (closure_ok hfree) ok.kind (fun y hy e => by rw [ok.uniq y hy, e])
    (thn (hi.run pins s σ H _ I h) fun xv s1 hx => ?_)
  obtain ⟨x, H1, I1, rx, a, xs, f, ex, hsq, hlen, hel, hq⟩ := hx
  subst ex
  cases rx
  obtain ⟨its, rv, p, hz⟩ := I1.list hsq
  refine wpAny_pyIter_list p.isList ?_
  have hvl := rv.length
  -- the iterator
  generalize hit : s1.heap.objs.size = it
  generalize hs2 : ({ s1 with heap := s1.heap.push { cls := .type "list_iterator", data := .fields #[.ref a, .int 0 0] } } : Shared) = s2
  have I2 : Inv X pins σ H1 s2 := by
    rw [← hs2]
    exact I1.kept (t' := s1.toks) fun b o e => Heap.get?_push_of_some _ e
  have st2 : s2.heap.IsListIter it a 0 := by
    rw [← hs2, ← hit]
    exact ⟨_, Heap.get?_push_size _ rfl, rfl, rfl⟩
  have f2 : FpOk X pins H1 it := by
    have z := I1.fpOk (b := it) (Nat.le_of_eq hit) (I1.hok.fresh (Nat.le_of_eq hit))
    exact z
  refine wpAny_newObj_type (newEnv_comp ?_) (by show 0 ≤ sizeLine; decide)
  generalize hD : s2.heap.objs.size = D
  have hDn : H1 D = none := I2.hok.fresh (Nat.le_of_eq hD)
  generalize hs3 : ({ s2 with heap := s2.heap.push { cls := .type "list", data := .seq ([] : List Value).toArray } } : Shared) = s3
  have h3 : s3.heap = s2.heap.push { cls := .type "list", data := .seq ([] : List Value).toArray } := by rw [← hs3]
  have I3 : Inv X pins σ (upd H1 D (.lst [])) s3 := by
    rw [← hs3]
    refine I2.laid (t' := s2.toks) (fun b o e => Heap.get?_push_of_some _ e) (Nat.le_of_eq hD) ⟨Nat.zero_le _, [], 0, .nil, ?_⟩
    rw [← hD]
    exact Heap.get?_push_size _ rfl
  have hitlt : it < s2.heap.objs.size := by
    obtain ⟨o, e, _⟩ := st2
    exact Heap.lt_size e
  have f3 : FpOk X pins (upd H1 D (.lst [])) it ∧ it < s3.heap.objs.size := by
    refine ⟨⟨?_, f2.2⟩, by rw [h3, Heap.size_push]; exact Nat.lt_succ_of_lt hitlt⟩
    rw [upd_ne (by rw [← hD]; exact Nat.ne_of_lt hitlt)]
    exact f2.1
  have f3' : ∀ b ∈ [it], FpOk X pins (upd H1 D (.lst [])) b ∧ b < s3.heap.objs.size := fun b hb => by
    have e : b = it := by simpa using hb
    rw [e]; exact f3
  have st3 : s3.heap.IsListIter it a 0 := st2.at fun o e => by rw [h3]; exact Heap.get?_push_of_some _ e
  have I4 := block_start I3 ok hN f3'
  have pg := hg s3 (upd H1 D (.lst [])) s3.heap.objs.size (cellsFrom (s3.heap.objs.size + 1) scope.names (cloFrom X.env.cells scope.names [])) [it]
  have pe := he s3 (upd H1 D (.lst [])) s3.heap.objs.size (cellsFrom (s3.heap.objs.size + 1) scope.names (cloFrom X.env.cells scope.names [])) [it]
  -- the handled exception
  obtain ⟨px, ⟨hh, v1, e1, c1⟩, hp⟩ := hc
  have P3 := I3.pin px (List.mem_append_left _ hp)
  show codeAny _ _ (.compStart (.ListComp elt [⟨tg, iter, [], 0⟩] scope pos) 0 (.ref it) (.ref D) (compEnvC scope (cellsFrom (s3.heap.objs.size + 1) scope.names (cloFrom X.env.cells scope.names [])) s3.heap.objs.size X.env)) (compPost (model X.prog X.w) X.A X.xe Option.none (EP X pins σ Q) (.ref D) s3.heap.objs.size) { s3 with heap := pushCells (s3.heap.push { cls := .type "dict", data := .dict #[] }) scope.names }
  generalize hce : compEnvC scope (cellsFrom (s3.heap.objs.size + 1) scope.names (cloFrom X.env.cells scope.names [])) s3.heap.objs.size X.env = ce at I4 pg pe ⊢
  have cL : ce.locals = s3.heap.objs.size := by subst hce; rfl
  generalize hH3 : upd H1 D (.lst []) = H3 at I3 I4 pg pe f3 f3' P3
  generalize hs4 : ({ s3 with heap := pushCells (s3.heap.push { cls := .type "dict", data := .dict #[] }) scope.names } : Shared) = s4 at I4 ⊢
  have st4 : s4.heap.IsListIter it a 0 := st3.at fun o e => by rw [← hs4]; exact pushCells_keeps _ _ _ _ (Heap.get?_push_of_some _ e)
  have stat : ∀ {σ' : L2.St} {H' : Hp} {s' : Shared}, Inv (X.blk s3 H3 scope ce [it]) [] σ' H' s' → H' it = none → FpOk (X.blk s3 H3 scope ce [it]) [] H' it := fun {σ' H' s'} I' hn =>
    ⟨hn, (I'.ok.exf it (by simp)).1, I'.ok.exfs it (by simp), .inl (by simp), fun x c e => (I'.ok.exf it (by simp)).2 x c e, fun p hp => absurd (show p ∈ ([] : List (Addr × Obj)) ++ [] from hp) (by simp)⟩
  have nxit : px.1 ≠ it := fun z => by
    have q : px.1 < s1.heap.objs.size := Heap.lt_size (I1.pin px (List.mem_append_left _ hp)).1
    rw [z, ← hit] at q
    exact Nat.lt_irrefl _ q
  have hotB : ∀ {σ' : L2.St} {H' : Hp} {s' : Shared}, Inv (X.blk s3 H3 scope ce [it]) [] σ' H' s' → HotAt X.A px.1 s'.heap := fun {σ' H' s'} I' => by
    refine ⟨hh, px.2, v1, I'.base.keep px.1 px.2 P3.1 P3.2.1 ?_ (by simpa using nxit), e1, c1⟩
    intro hm
    have hm' : px.1 ∈ frs X.stack := hm
    rcases List.mem_cons.mp (I3.stkSub px.1 hm') with z | z
    · exact P3.2.2.1 z
    · exact P3.2.2.2.1 z
  have Hi : ∀ i, i ≤ xs.length → Hp := fun i _ => upd H1 D (.lst ((xs.take i).map f))
  have loop : codeAny (model X.prog X.w) X.A (.compLoop (.ListComp elt [⟨tg, iter, [], 0⟩] scope pos) 0 (.ref it) (.ref D) ce) (compPost (model X.prog X.w) X.A X.xe Option.none (EP X pins σ Q) (.ref D) s3.heap.objs.size) s4 := by
    refine compLoop_any (fun n s' => ∃ i H', n = xs.length - i ∧ i ≤ xs.length ∧ Inv (X.blk s3 H3 scope ce [it]) [] (wipe σ (own.map (·.2))) H' s' ∧ s'.heap.IsListIter it a i ∧ H' = upd H1 D (.lst ((xs.take i).map f))) ?_ xs.length ⟨0, H3, by simp, Nat.zero_le _, I4, st4, by rw [← hH3]; simp⟩
    rintro n s5 ⟨i, H5, rfl, hil, I5, st5, eH5⟩
    have nit : H5 it = none := by
      rw [eH5, upd_ne (by rw [← hD]; exact Nat.ne_of_lt hitlt)]
      exact f2.1
    obtain ⟨g0, g1, g2, g3, g4, g5⟩ := stat I5 nit
    have hsq5 : SqL X.K H5 a xs := by rw [eH5]; exact sql_new hsq hDn
    obtain ⟨its5, rv5, p5, hz5⟩ := I5.list hsq5
    have hvl5 := rv5.length
    by_cases hlt : i < xs.length
    · obtain ⟨u, hu, ru⟩ := rv5.get (i := i) (x := xs[i]) (by simp [hlt])
      refine wpAny_pyNext_list_item st5 p5.isList (x := u) (by simpa using hu) fun h' st' sb => ?_
      have I6 : Inv (X.blk s3 H3 scope ce [it]) [] (wipe σ (own.map (·.2))) H5 { s5 with heap := h' } := I5.turned (t' := s5.toks) (fun b o hb e => (sb.2 b hb).trans e) g0 g1 g3 g4 g5
      obtain ⟨o, e, c, d⟩ := id st'
      refine go_of (s := { s5 with heap := h' }) e c d (by decide) ?_
      have I6' := I6.pinned (fp := [it]) (fun b hb => by
        have eb : b = it := by simpa using hb
        rw [eb]
        exact ⟨g0, g1, g2, g3, g4, g5⟩) (fun b hb => by
        have eb : b = it := by simpa using hb
        rw [eb]
        exact ⟨o, e, fun v z => by rw [d] at z; cases z⟩)
      refine thnF (pg.run _ _ _ H5 xs[i] u _ I6' ru (hel xs[i] H5 (List.getElem_mem hlt))) fun _ s8 ⟨σ8, H8, I8, e8, hw8, q8⟩ => ?_
      subst e8
      refine wpAny_tests_nil ?_
      rw [if_pos rfl]
      refine thnF (pe.run _ s8 σ8 _ _ I8 q8) fun z s10 ⟨yv, H10, I10, r10, e10, ey⟩ => ?_
      subst e10 ey
      have hD10 : H10 D = some (.lst ((xs.take i).map f)) := by rw [eH5]; exact upd_same
      refine app_ok (X := X.blk s3 H3 scope ce [it]) I10 hD10 (by rw [List.length_map, List.length_take]; omega) r10 fun s11 I11 => ?_
      have pin' : s11.heap.get? it = some o ∧ _ := I11.pin (it, o) (List.mem_append_right _ (List.mem_append_right _ (mem_pinsAt (by simp) e)))
      refine ⟨xs.length - (i + 1), by omega, i + 1, _, rfl, hlt, (I11.unpinned (pins := [])).weak (by rw [← hw8, wipe_length]) (fun j v e => ?_), ⟨o, pin'.1, c, d⟩, ?_⟩
      · rw [← hw8] at e
        exact (wipe_some e).1
      · have et : xs.take (i + 1) = xs.take i ++ [xs[i]] := by
          rw [List.take_add_one, List.getElem?_eq_getElem hlt]
          rfl
        rw [eH5, upd_upd, et, List.map_append]
        rfl
    · have ei : i = xs.length := by omega
      refine next_end_hot (hotB I5) nxit st5 p5.isList (by simp; omega) fun h' eb => ?_
      have I6 : Inv (X.blk s3 H3 scope ce [it]) [] (wipe σ (own.map (·.2))) H5 { s5 with heap := h' } := I5.turned (t' := s5.toks) (fun b o hb e => eb b o hb e) g0 g1 g3 g4 g5
      have I7 : Inv X pins σ H5 { s5 with heap := h' } := I3.call' (ch := [it]) I6.os I6.base I6.hok I6.bare fun b hb => ⟨(f3' b hb).1.2.2.2.1, (f3' b hb).1.2.1, (f3' b hb).1.2.2.2.2.1, (f3' b hb).1.2.2.2.2.2⟩
      have nC : H5 s3.heap.objs.size = none := by
        have z : H5 ce.locals = none := I6.free
        rw [cL] at z
        exact z
      obtain ⟨m, hn, _⟩ := I6.loc
      have hn : ({ s5 with heap := h' } : Shared).heap.Ns ce.locals m := hn
      rw [cL] at hn
      obtain ⟨k0, k1, k2, k3, k4, k5⟩ := I3.fpOk (b := s3.heap.objs.size) (Nat.le_refl _) nC
      refine ⟨m, hn, fun h'' sb => ⟨.ref D, H5, I7.turned (t' := s5.toks) (fun b o hb e => (sb.2 b hb).trans e) k0 k1 k3 k4 k5, rfl, ?_⟩⟩
      rw [eH5, ei, List.take_length]
      exact hq D hDn
  exact codeAny_compStart_list loop (wpAny_pyIter_listiter st4 loop)
end
end Ws

set_option Elab.async false
set_option linter.all false
set_option maxRecDepth 100000
set_option maxHeartbeats 4000000
namespace Ws
open PySem PySem.Spec PyProof.Rows L2 HotX LamX
/-! ### a def called while an exception is handled, told of the very state -/
theorem run_hot {CX : CXT} {P : Program} {w : World} {K : PySem.W.Frag} {mg : Str → Option Value} {base : Heap} {k : Nat} {f : Addr} {name qual : Str} {params : Arguments} {body : List Stmt} {scope : Scope} {dV kV doc pm cdv ct oc : Value} {an od : Option Addr}
    {osl : Array (Option Value)} {N ps : List Str} (lk : K.lookup f = some ⟨oc, od, .func (PySem.W.fnOf name qual params body scope dV kV doc pm an cdv ct), osl⟩) (hcd : PySem.W.codeIn K cdv qual = true) (S : FnScope N ps scope)
    {A : Around} {outer : List Env} {s : Shared} {H : Hp} {args : Args} {us : List Value} {vs : List V} {Q : VK} {E : XK} {p : Addr × Obj} (hr : L2H.RoomH (k + 1) A) (hpin : L2H.PinOk outer H s p) (e0 : Env0 P w K mg base A outer s H)
    (hb : BindsTo s (PySem.W.fnOf name qual params body scope dV kV doc pm an cdv ct) args (ps.zip us)) (r : Vals vs us) (hl : vs.length = ps.length)
    (hbody : L2H.RoomH k (A.deeper (envOfC qual scope s.heap.objs.size f cdv)) → ∃ t, PSs (L2H.cxH CX P w K mg base N qual scope f cdv A outer s H E p) body t ∧ t { nx := fun _ H' => Q .non H', rt := Q } (L2.start N vs) H) :
    codeAny (model P w) A (.call (.ref f) args) (CR CX outer P w H s Q E) s := by
  have KX : K.In s.heap := e0.mod.kin.keeps fun b o e => (e0.bs b o e).1
  have lim : s.heap.NoLimit := e0.mod.nolimit.keeps fun b o e => (e0.bs b o e).1
  have hkind : ∀ y ∈ ps.zip us, scope.names.lookup y.1 = some .local ∨ (scope.names.lookup y.1 = some .cell ∧ ((cellsFrom (s.heap.objs.size + 1) scope.names []).lookup y.1).isSome = true) := fun ⟨n, v⟩ hy => by
    rcases S.par n (List.of_mem_zip hy).1 with q | q
    · exact .inl q
    · exact .inr ⟨q, PySem.W.cellsFrom_some _ _ _ (.inl q)⟩
  refine codeAny_call_function hr.depth (KX _ _ lk) rfl S.co S.gen rfl (PySem.W.codeRec_of KX hcd) (hb _ _ _ _ ?_)
  refine wpAny_newFunctionEnv_cells S.kind hkind fun env he s1 x => ?_
  subst he
  refine ⟨lim.keeps x.toInCall.keep, codeAny_func ?_⟩
  obtain ⟨t, ht, hq⟩ := hbody (hr.deeper _)
  have I : L2.Inv (L2H.cxH CX P w K mg base N qual scope f cdv A outer s H E p) [] (L2.start N vs) H s1 := L2H.inv_startH S hpin e0 hl r x
  refine wpAny_mono (ht.run [] s1 (L2.start N vs) H _ I hq) (fun fl s' hs => ?_) fun e s' hs => hs
  have fin : ∀ {σ' : L2.St} {H' : Hp} {v : V} {u : Value}, L2.Inv (L2H.cxH CX P w K mg base N qual scope f cdv A outer s H E p) [] σ' H' s' → L2.RelV v u → Q v H' → CE outer P w H s Q u s' :=
    fun {σ' H' v u} J rv q => ⟨v, H', J.os, J.bare, J.base, J.hok, rv, q⟩
  cases fl with
  | ret u =>
    obtain ⟨v, σ', H', J, rv, q⟩ := hs
    exact fin J rv q
  | next =>
    obtain ⟨σ', H', J, q⟩ := hs
    exact fin (v := V.non) (u := Value.none) J rfl q
  | brk =>
    obtain ⟨_, _, _, q⟩ := hs
    exact False.elim q
  | cont =>
    obtain ⟨_, _, _, q⟩ := hs
    exact False.elim q
/-- x(e), x a def of one parameter, in an except suite; sp: what it makes of its argument, the handled exception known -/
theorem pe_hot1 {X : Cx} {sp : List V → Hp → VK → Prop} {x a1 : Str} {g : Addr} {k : Nat} {pg : Arguments} {bg : List Stmt} {sg : Scope} {kV doc pm cdv ct oc : Value} {an od : Option Addr} {osl : Array (Option Value)} {Ng : List Str} {e : Expr} {t : TA} {p0 pos : Pos} {p : Addr × Obj}
    (hg : Gl X x) (hm : X.mg x = some (.ref g)) (hk : PySem.W.keepIn X.K (.ref g) = true)
    (lk : X.K.lookup g = some ⟨oc, od, .func (PySem.W.fnOf x x pg bg sg .none kV doc pm an cdv ct), osl⟩) (hcg : PySem.W.codeIn X.K cdv x = true) (hb : L2.Binds X.K (PySem.W.fnOf x x pg bg sg .none kV doc pm an cdv ct) [a1] []) (Sg : FnScope Ng [a1] sg)
    (hr : L2H.RoomH (k + 1) X.A) (hp : p ∈ X.pn) (ha : PA X [e] t) (hlen : ∀ vs H Q, sp vs H Q → vs.length = 1)
    (hbody : ∀ (s : Shared) (H : Hp) (vs : List V) (Q : VK), sp vs H Q → L2H.RoomH k (X.A.deeper (envOfC x sg s.heap.objs.size g cdv)) → ∃ t, PSs (L2H.cxH CX0 X.prog X.w X.K X.mg X.base Ng x sg g cdv X.A X.stack s H E0 p) bg t ∧ t { nx := fun _ H' => Q .non H', rt := Q } (L2.start Ng vs) H)
    (hdb : (x == ("__debug__" : Str)) = false := by decide) (hst : starEach (e :: []) X.env = (false, eval e X.env) :: starEach [] X.env := by rfl) (hpl : (backTo pos (starEach [] X.env)).any (·.1) = false := by rfl) :
    PE X (.Call (.Name x p0) [e] [] pos) (fun σ H Q => t σ H fun vs H1 => sp vs H1 Q) := by
  refine ⟨fun pins s σ H Q I h => ?_⟩
  refine wpAny_Call_Name_kw (ld_glob I hg hm ?_ hdb)
  refine PySem.W.callWith_K (h₀ := X.base) I.ok.mod.kin hk (thn (ha.run pos pins s σ H _ I h) fun us s1 hh => ?_) hst hpl
  obtain ⟨vs, H1, I1, r1, q⟩ := hh
  refine ⟨I1.kIn, ?_⟩
  have P1 := I1.pin p (List.mem_append_left _ hp)
  have hpin : L2H.PinOk X.stack H1 s1 p := ⟨P1.1, P1.2.1, fun hm => (List.mem_cons.mp (I1.stkSub p.1 hm)).elim P1.2.2.1 P1.2.2.2.1, P1.2.2.2.2⟩
  have hl1 := hlen _ _ _ q
  have hlu : us.length = 1 := by rw [← r1.length]; exact hl1
  have b := hb s1 us I1.kIn (by rw [List.append_nil]; exact hlu)
  rw [List.append_nil] at b
  refine wpAny_call (codeAny_mono (run_hot (N := Ng) (ps := [a1]) (us := us) (vs := vs) (Q := Q) (E := E0) lk hcg Sg hr hpin I1.env0 b r1 hl1 (fun hr' => hbody s1 H1 vs Q q hr')) fun r s2 hq => ?_)
  cases r with
  | error e => exact (show False from hq).elim
  | ok fl =>
    cases fl with
    | ret u => exact I1.after hq
    | next => exact False.elim hq
    | brk => exact False.elim hq
    | cont => exact False.elim hq
/-- isinstance(e, c), e a pinned exception -/
theorem call_isP {X : Cx} {a D : Addr} {oe : Obj} (C : ExcC X.K D) (hz : Zc (.ref D) none oe) (hf : ∃ vs, oe.data = .fields vs) (hp : (a, oe) ∈ X.pn) : CallR X (.builtin "isinstance") (rIsE X.K D a) := by
  intro pins s σ H xs us Q I r h
  obtain ⟨c, cv, b, rfl, hcv, e, q⟩ := h
  cases r with
  | cons rx rr =>
    cases rr with
    | cons rt rr =>
      cases rr
      cases rx
      have ec := hcv _ rt
      subst ec
      obtain ⟨hget, _⟩ := I.pin (a, oe) (List.mem_append.mpr (.inl hp))
      obtain ⟨vs, hv⟩ := hf
      have J : PySem.W.InstAt s.heap a oe D none := by
        obtain ⟨oc, od, oda, osl⟩ := oe
        obtain ⟨h1, h2⟩ := hz
        dsimp only at h1 h2 hv
        subst h1 h2 hv
        exact ⟨hget, rfl, rfl, trivial⟩
      exact PySem.W.kia_one (PySem.W.handS_kitx_exc C.hg C.hk C.hs C.hd C.ha C.hn C.ht C.hm) I.kIn J e (fun z => nomatch z) fun tk => ⟨.bl b, H, I.kept (t' := tk) fun _ _ z => z, rfl, q⟩
/-! ### lambdas, the exceptions' contexts known -/
def lamCxN (X : Cx) (A : Around) (outer : List Env) (s : Shared) (H : Hp) (E : XK) (scope : Scope) (f c' : Addr) : Cx :=
  (lamCx X A outer s H E scope f c').wish (fun e s' => wpAny (model X.prog X.w) (A.deeper (lamEnv X scope s.heap.objs.size f c')) (leaving (lamEnv X scope s.heap.objs.size f c') e) (fun _ s'' => L2N.CX X.prog X.w outer H s E e s'') (fun e' s'' => L2N.CX X.prog X.w outer H s E e' s'') s')
theorem pe_actN {X : Cx} {pins : List (Addr × Obj)} {σ : L2.St} {H : Hp} {s : Shared} {CXg : CXT} {Eg : XK} {Ng : List Str} {qg : Str} {sg : Scope} {g f c' : Addr} {cdg pm ctv : Value} {params : Arguments} {body : Expr} {scope : Scope} {k i : Nat} {a : Str} {pn : List (Addr × Obj)} {xe : Value → Shared → Prop} {W : WX} {E : XK} {tb : TE} {p1 p2 : Pos}
    (I : L2.Inv X pins σ H s) (L : LamS X.env.scope scope) (hf : s.heap.get? f = some (PySem.W.kla_obj "<lambda>" (X.env.qual ++ "<lambda>") params body scope (cloFrom X.env.cells scope.names []) pm c' ctv)) (hfn : H f = none) (hfr : f ∉ frs X.stack)
    (hbind : bindArgs (PySem.W.kla_fn "<lambda>" (X.env.qual ++ "<lambda>") params body scope (cloFrom X.env.cells scope.names []) pm (.ref c') ctv) ⟨[], []⟩ = pure [])
    (tk : L2N.Takes ((cxOf CXg X.prog X.w X.K X.mg X.base Ng qg sg g cdg X.A X.stack s H Eg).tr pn xe) W) (hW : ∀ cls d σ' H', E cls d H' → W cls d σ' H') (hr : Room (k + 1) (X.A.deeper (envOfC qg sg s.heap.objs.size g cdg)))
    (hbody : ∀ (A : Around) (outer : List Env) (s : Shared) (H : Hp), Room k (A.deeper (lamEnv X scope s.heap.objs.size f c')) → PE (lamCxN X A outer s H E scope f c') body tb)
    (hN : Ng[i]? = some a) (hv : Vis sg a) (hd : (a == ("__debug__" : Str)) = false := by decide) (hcd : (a == ("__classdict__" : Str)) = false := by decide) :
    PE ((cxOf CXg X.prog X.w X.K X.mg X.base Ng qg sg g cdg X.A X.stack s H Eg).tr pn xe) (.Call (.Name a p1) [] [] p2)
      (fun σZ HZ Q => σZ[i]? = some (some (.ref f)) ∧ HZ c' = some (CodeO c' (X.env.qual ++ "<lambda>")) ∧ tb σ HZ Q) := by
  refine ⟨fun pinsZ sZ σZ HZ Q IZ h => ?_⟩
  obtain ⟨hs, hc, ht⟩ := h
  refine wpAny_Call_Name_kw (thn ((pe_var (pos := p1) (i := i) hN hv hd hcd).run pinsZ sZ σZ HZ (fun v H1 => v = .ref f ∧ H1 = HZ) IZ ⟨.ref f, hs, rfl, rfl⟩) fun u s1 ⟨v, H1, I1, r1, q1⟩ => ?_)
  obtain ⟨ev, eH⟩ := q1
  subst ev
  rw [eH] at I1
  obtain rfl : u = Value.ref f := r1
  have of1 : s1.heap.get? f = some (PySem.W.kla_obj "<lambda>" (X.env.qual ++ "<lambda>") params body scope (cloFrom X.env.cells scope.names []) pm c' ctv) := I1.base.keep f _ hf hfn hfr (fun z => nomatch (show f ∈ ([] : List Addr) from z))
  refine PySem.W.callWith_F0 ⟨_, _, _, _, of1⟩ ?_
  have un : Un (frs X.stack) [] H HZ s.heap s1.heap := I1.base
  obtain ⟨⟨oc, vs, t, hoc, hdc, hvc⟩, _, _⟩ := I1.hok c' _ hc
  have rc : codeAny (model X.prog X.w) (X.A.deeper (envOfC qg sg s.heap.objs.size g cdg)) (.call (.ref f) ⟨[], []⟩) (CR (L2N.CX X.prog X.w) (envOfC qg sg s.heap.objs.size g cdg :: X.stack) X.prog X.w HZ s1 Q E) s1 := by
    refine PySem.W.kla_callFunE hr.depth of1 rfl L.co L.gen rfl ⟨c', oc, vs, t, rfl, hoc, hdc, hvc⟩ ?_
    rw [hbind]
    refine wpAny_pure (wpAny_newFunctionEnv (fun y hy => (L.own y hy).2) (fun y hy => absurd hy (by simp)) (fun h₁ hns hsb => ⟨I1.nolimit.fresh _ hsb, ?_⟩) L.kind)
    show codeAny _ _ (.expr body (lamEnv X scope s1.heap.objs.size f c')) _ _
    have kp : ∀ b o, s1.heap.get? b = some o → h₁.get? b = some o := fun b o e => hsb.extBut b o (Nat.ne_of_lt (Heap.lt_size e)) (Heap.get?_push_of_some _ e)
    have J0 : L2.Inv (lamCx X (X.A.deeper (envOfC qg sg s.heap.objs.size g cdg)) (envOfC qg sg s.heap.objs.size g cdg :: X.stack) s1 HZ E scope f c') [] σ HZ { s1 with heap := h₁, toks := s1.toks + ([] : List (Str × Value)).length } :=
      lam_start2 I L I1.env0 hr.hd un hns kp
    have J : L2.Inv (lamCxN X (X.A.deeper (envOfC qg sg s.heap.objs.size g cdg)) (envOfC qg sg s.heap.objs.size g cdg :: X.stack) s1 HZ E scope f c') [] σ HZ { s1 with heap := h₁, toks := s1.toks + ([] : List (Str × Value)).length } := J0.wish _
    refine PySem.W.kla_codeExpr (wpAny_mono ((hbody _ _ s1 HZ (hr.deeper _)).run [] _ _ HZ Q J ht) (fun v s' hq => ?_) fun e s' hq => hq)
    obtain ⟨w', H', J', rv, q⟩ := hq
    exact ⟨w', H', J'.os, J'.bare, J'.base, J'.hok, rv, q⟩
  have hx : Passes (L2N.CX X.prog X.w) ((cxOf CXg X.prog X.w X.K X.mg X.base Ng qg sg g cdg X.A X.stack s H Eg).tr pn xe) E := L2N.passes_call tk hW
  refine wpAny_call (codeAny_mono rc fun r s' hq => ?_)
  cases r with
  | error e => exact hx pinsZ σZ HZ s1 e s' I1 hq
  | ok fl =>
    cases fl with
    | ret u => exact I1.after hq
    | next => exact False.elim hq
    | brk => exact False.elim hq
    | cont => exact False.elim hq
/-- the def that calls what it got: a calls it; TT: what it makes of the lambda's reading -/
def GivesN (X : Cx) (k : Nat) (Ng : List Str) (x : Str) (sg : Scope) (g : Addr) (cdg : Value) (bg : List Stmt) (a : Str) (q : Str) (TT : (XK → Hp → VK → Prop) → Hp → VK → Prop) : Prop :=
  ∀ (f c' : Addr) (s : Shared) (H : Hp) (Q : VK) (tl : XK → Hp → VK → Prop), Room (k + 1) (X.A.deeper (envOfC x sg s.heap.objs.size g cdg)) →
    (∀ (W : WX) (pn : List (Addr × Obj)) (xe : Value → Shared → Prop) (E : XK) (p1 p2 : Pos), L2N.Takes ((cxOf CX0 X.prog X.w X.K X.mg X.base Ng x sg g cdg X.A X.stack s H E0).tr pn xe) W → (∀ cls d σ' H', E cls d H' → W cls d σ' H') →
      PE ((cxOf CX0 X.prog X.w X.K X.mg X.base Ng x sg g cdg X.A X.stack s H E0).tr pn xe) (.Call (.Name a p1) [] [] p2) (fun σZ HZ Q => σZ[0]? = some (some (.ref f)) ∧ HZ c' = some (CodeO c' q) ∧ tl E HZ Q)) →
    H c' = some (CodeO c' q) → TT tl H Q →
    ∃ t, PSs (cxOf CX0 X.prog X.w X.K X.mg X.base Ng x sg g cdg X.A X.stack s H E0).nox bg t ∧ t { nx := fun _ H' => Q .non H', rt := Q } (L2.start Ng [.ref f]) H
/-- x(lambda: body) -/
theorem pe_lamN {X : Cx} {T : List (Addr × Str)} {TT : (XK → Hp → VK → Prop) → Hp → VK → Prop} {x a : Str} {g c P : Addr} {k : Nat} {pg : Arguments} {bg : List Stmt} {sg : Scope} {kV doc pm cdv ct oc : Value} {an od : Option Addr} {osl : Array (Option Value)} {Ng : List Str}
    {params : Arguments} {body : Expr} {scope : Scope} {t : XK → TE} {p lpos pos : Pos} (hg : Gl X x) (hm : X.mg x = some (.ref g)) (hk : PySem.W.keepIn X.K (.ref g) = true)
    (lk : X.K.lookup g = some ⟨oc, od, .func (PySem.W.fnOf x x pg bg sg .none kV doc pm an cdv ct), osl⟩) (hcg : PySem.W.codeIn X.K cdv x = true) (hb : L2.Binds X.K (PySem.W.fnOf x x pg bg sg .none kV doc pm an cdv ct) [a] []) (Sg : FnScope Ng [a] sg) (hNg : Ng[0]? = some a) (hva : Vis sg a)
    (hG : GivesN X k Ng x sg g cdv bg a (X.env.qual ++ "<lambda>") TT)
    (TB : TabB X.base X.mg c P) (hcode : X.env.code = .ref c) (hmT : (P, X.env.qual ++ "<lambda>") ∈ T) (hu : ∀ p ∈ T, p.1 = P → p.2 = X.env.qual ++ "<lambda>") (hr : Room (k + 2) X.A) (L : LamS X.env.scope scope) (hdef : defaultsOf params X.env = ([], []))
    (hbind : ∀ (q : Str) (cl : List (Str × Addr)) (pm cv ctv : Value), bindArgs (PySem.W.kla_fn "<lambda>" q params body scope cl pm cv ctv) ⟨[], []⟩ = pure [])
    (hbody : ∀ (A : Around) (outer : List Env) (s : Shared) (H : Hp) (E : XK) (f c' : Addr), Room k (A.deeper (lamEnv X scope s.heap.objs.size f c')) → PE (lamCxN X A outer s H E scope f c') body (t E))
    (hdb : (x == ("__debug__" : Str)) = false := by decide) (hd : (a == ("__debug__" : Str)) = false := by decide) (hcd : (a == ("__classdict__" : Str)) = false := by decide) :
    PE X (.Call (.Name x p) [.Lambda params body scope lpos] [] pos) (tLam T TT t) := by
  refine ⟨fun pins s σ H Q I h => ?_⟩
  obtain ⟨hT, h⟩ := h
  refine wpAny_Call_Name_kw (ld_glob I hg hm ?_ hdb)
  refine PySem.W.callWith_K (h₀ := X.base) I.ok.mod.kin hk ?_ (by rfl) (by rfl)
  show wpAny _ _ (spliced ((false, eval (.Lambda params body scope lpos) X.env) :: backTo pos (starEach [] X.env))) _ _ s
  refine Calls.spliced_cons (lam_make2 I TB hcode hmT hu hT hdef (L.has I.ok) fun f c' pm' ctv H1 s' I1 eN T1 hf hfn hfr hco => ?_)
  refine Calls.spliced_nil ⟨I1.kIn, ?_⟩
  have rc : codeAny (model X.prog X.w) X.A (.call (.ref g) ⟨[.ref f], []⟩) (CR CX0 X.stack X.prog X.w H1 s' Q E0) s' := by
    refine run_ofS (N := Ng) (ps := [a]) (us := [.ref f]) (vs := [.ref f]) lk hcg Sg hr I1.env0 (hb s' [.ref f] I1.kIn rfl) (.cons rfl .nil) rfl fun hr' => ?_
    obtain ⟨t', ht', hq'⟩ := hG f c' s' H1 Q (fun E H' Q' => t E σ H' Q') hr' (fun W pn xe E p1 p2 tk hW => pe_actN (i := 0) I1 L hf hfn hfr (hbind _ _ _ _ _) tk hW hr' (fun A outer s H hr2 => hbody A outer s H E f c' hr2) hNg hva hd hcd) hco (h H1 eN T1)
    exact ⟨t', ht'.nox, hq'⟩
  refine wpAny_call (codeAny_mono rc fun r s2 hq => ?_)
  cases r with
  | error e => exact (show False from hq).elim
  | ok fl =>
    cases fl with
    | ret u => exact I1.after hq
    | next => exact False.elim hq
    | brk => exact False.elim hq
    | cont => exact False.elim hq
/-- as Fun.okX, the contexts known -/
theorem okN {P : Program} {w : World} {K : PySem.W.Frag} {mg : Str → Option Value} {base : Heap} {x qual : Str} {st : Stmt} {f : Addr} {fd : FuncData} {N ps : List Str} {k : Nat} {sp : Sp} (F : Fun K x qual st f fd) (S : FnScope N ps (defScope st)) (len : ∀ vs H Q E, sp vs H Q E → vs.length = ps.length)
    (hbody : ∀ (cdv : Value) (A : Around) (outer : List Env) (s : Shared) (H : Hp) (vs : List V) (Q : VK) (E : XK), Room k (A.deeper (envOfC qual (defScope st) s.heap.objs.size f cdv)) → sp vs H Q E →
      ∃ t, PSs (cxOf (L2N.CX P w) P w K mg base N qual (defScope st) f cdv A outer s H E) (defBody st) t ∧ t { nx := fun _ H' => Q .non H', rt := Q } (L2.start N vs) H) : FnOk P w K mg base (L2N.CX P w) (k + 1) f fd ps sp := by
  obtain ⟨oc, od, kV, doc, pm, an, cdv, ct, osl, rfl, lk, hcd⟩ := F.ex
  exact fn_of lk hcd S len fun A outer s H vs Q E hr hsp => hbody cdv A outer s H vs Q E hr hsp
end Ws

set_option Elab.async false
set_option linter.all false
set_option maxRecDepth 100000
set_option maxHeartbeats 4000000
namespace Ws
open PySem PySem.Spec PyProof.Rows L2 HotX LamX
/-! ### defs, methods, classes by what they promise; what they raise has no context -/
structure Fn (P : Program) (w : World) (K : PySem.W.Frag) (mg : Str → Option Value) (base : Heap) (k : Nat) (x : Str) (sp : Sp) : Prop where
  ex : ∃ (f : Addr) (fd : FuncData) (ps : List Str), FnOk P w K mg base (L2N.CX P w) k f fd ps sp ∧ mg x = some (.ref f) ∧ PySem.W.keepIn K (.ref f) = true ∧ L2.Binds K fd ps []
structure Mt (P : Program) (w : World) (K : PySem.W.Frag) (mg : Str → Option Value) (base : Heap) (k : Nat) (C : Addr) (m : Str) (sp : Sp) : Prop where
  ex : ∃ (f : Addr) (fd : FuncData) (ps : List Str), FnOk P w K mg base (L2N.CX P w) k f fd ps sp ∧ Meth K C m f ∧ L2.Binds K fd ps [] ∧ Cls K C
structure Mr (P : Program) (w : World) (K : PySem.W.Frag) (mg : Str → Option Value) (base : Heap) (k : Nat) (x : Str) (C : Addr) (sp : Sp) : Prop where
  ex : ∃ (f : Addr) (fd : FuncData) (ps : List Str), FnOk P w K mg base (L2N.CX P w) k f fd ps sp ∧ Mk K C f ∧ mg x = some (.ref C) ∧ L2.Binds K fd ps []
structure DefAt (K : PySem.W.Frag) (mg : Str → Option Value) (x : Str) (st : Stmt) : Prop where
  ex : ∃ (f : Addr) (fd : FuncData), Fun K x x st f fd ∧ mg x = some (.ref f)
structure MethAt (K : PySem.W.Frag) (C : Addr) (m qual : Str) (st : Stmt) : Prop where
  ex : ∃ (f : Addr) (fd : FuncData), Fun K m qual st f fd ∧ PySem.W.findIn K (.ref C) m = some (some (.ref f)) ∧ PySem.W.isFn K (.ref f) = true
section
variable {P : Program} {w : World} {K : PySem.W.Frag} {mg : Str → Option Value} {base : Heap}
theorem fn_mk {x : Str} {st : Stmt} {ps : List Str} {k : Nat} {sp : Sp} (D : DefAt K mg x st)
    (hb : ∀ (kV doc pm : Value) (an : Option Addr) (cdv ct : Value) (us : List Value), us.length = ps.length → bindArgs (PySem.W.fnOf x x (defArgs st) (defBody st) (defScope st) .none kV doc pm an cdv ct) ⟨us, []⟩ = pure (ps.zip us))
    (ok : ∀ f fd, Fun K x x st f fd → FnOk P w K mg base (L2N.CX P w) k f fd ps sp) : Fn P w K mg base k x sp := by
  obtain ⟨f, fd, F, hm⟩ := D.ex
  exact ⟨f, fd, ps, ok f fd F, hm, F.kp, F.binds hb⟩
theorem mt_mk {C : Addr} {m qual : Str} {st : Stmt} {ps : List Str} {k : Nat} {sp : Sp} (D : MethAt K C m qual st) (cl : Cls K C)
    (hb : ∀ (kV doc pm : Value) (an : Option Addr) (cdv ct : Value) (us : List Value), us.length = ps.length → bindArgs (PySem.W.fnOf m qual (defArgs st) (defBody st) (defScope st) .none kV doc pm an cdv ct) ⟨us, []⟩ = pure (ps.zip us))
    (ok : ∀ f fd, Fun K m qual st f fd → FnOk P w K mg base (L2N.CX P w) k f fd ps sp) : Mt P w K mg base k C m sp := by
  obtain ⟨f, fd, F, h1, h2⟩ := D.ex
  exact ⟨f, fd, ps, ok f fd F, ⟨h1, h2, F.kp⟩, F.binds hb, cl⟩
theorem mr_mk {C : Addr} {x qual : Str} {st : Stmt} {ps : List Str} {k : Nat} {sp : Sp} (D : MethAt K C "__init__" qual st) (hm : mg x = some (.ref C)) (mk : PySem.W.makesIn K C = true) (kc : PySem.W.keepIn K (.ref C) = true)
    (hb : ∀ (kV doc pm : Value) (an : Option Addr) (cdv ct : Value) (us : List Value), us.length = ps.length → bindArgs (PySem.W.fnOf "__init__" qual (defArgs st) (defBody st) (defScope st) .none kV doc pm an cdv ct) ⟨us, []⟩ = pure (ps.zip us))
    (ok : ∀ f fd, Fun K "__init__" qual st f fd → FnOk P w K mg base (L2N.CX P w) k f fd ps sp) : Mr P w K mg base k x C sp := by
  obtain ⟨f, fd, F, h1, h2⟩ := D.ex
  exact ⟨f, fd, ps, ok f fd F, ⟨mk, h1, h2, kc⟩, hm, F.binds hb⟩
end
theorem pass0N {X : Cx} : Passes (L2N.CX X.prog X.w) X E0 := fun _ _ _ _ _ _ _ h => by
  obtain ⟨_, _, _, _, _, _, _, _, _, _, _, _, z⟩ := h
  exact z.elim
section
variable {X : Cx} {k j : Nat} {C : Addr} {sp : Sp} {E : XK} {x m : Str} {p pos apos : Pos} {e o : Expr} {es : List Expr} {ta : TE} {t : TA}
theorem pe_fn (F : Fn X.prog X.w X.K X.mg X.base k x sp) (hr : Room j X.A) (hg : Gl X x) (hx : Passes (L2N.CX X.prog X.w) X E) (ha : PA X (e :: es) t) (hk : k ≤ j := by decide) (hdb : (x == ("__debug__" : Str)) = false := by decide)
    (he : starEach (e :: es) X.env = (false, eval e X.env) :: starEach es X.env := by rfl) (hpl : (backTo pos (starEach es X.env)).any (·.1) = false := by rfl) : PE X (.Call (.Name x p) (e :: es) [] pos) (tCall sp [] E t) := by
  obtain ⟨f, fd, ps, F1, hm, hkp, hb⟩ := F.ex
  exact pe_call F1 (hr.mono hk) hg hm hkp hb .nil hx ha hdb he hpl
theorem pe_fn0 (F : Fn X.prog X.w X.K X.mg X.base k x sp) (hr : Room j X.A) (hg : Gl X x) (hx : Passes (L2N.CX X.prog X.w) X E) (hk : k ≤ j := by decide) (hdb : (x == ("__debug__" : Str)) = false := by decide) :
    PE X (.Call (.Name x p) [] [] pos) (tCall sp [] E tNil) := by
  obtain ⟨f, fd, ps, F1, hm, hkp, hb⟩ := F.ex
  exact pe_call0 F1 (hr.mono hk) hg hm hkp hb .nil hx hdb
theorem pe_md {pl : Sem Bool} (F : Mt X.prog X.w X.K X.mg X.base k C m sp) (hr : Room j X.A) (hx : Passes (L2N.CX X.prog X.w) X E) (he : PE X o ta) (ha : PA X (e :: es) t) (hk : k ≤ j := by decide)
    (hst : starEach (e :: es) X.env = (false, eval e X.env) :: starEach es X.env := by rfl) (hpl : (backTo pos (starEach es X.env)).any (·.1) = false := by rfl)
    (ht : eval (.Call (.Attribute o m apos) (e :: es) [] pos) X.env = (do
      let ov ← eval o X.env
      standAt apos.atName
      let (f, first) ← holding [ov] (getMethod ov m pl)
      callWith pos f first (backTo pos (starEach (e :: es) X.env)) (backToKw pos (keywordEach [] X.env))) := by rfl) :
    PE X (.Call (.Attribute o m apos) (e :: es) [] pos) (tMeth C m sp [] E ta t) := by
  obtain ⟨f, fd, ps, F1, hm, hb, cl⟩ := F.ex
  exact pe_meth he cl hm F1 (hr.mono hk) hb .nil hx ha hst hpl ht
theorem pe_md0 {pl : Sem Bool} (F : Mt X.prog X.w X.K X.mg X.base k C m sp) (hr : Room j X.A) (hx : Passes (L2N.CX X.prog X.w) X E) (he : PE X o ta) (hk : k ≤ j := by decide)
    (ht : eval (.Call (.Attribute o m apos) [] [] pos) X.env = (do
      let ov ← eval o X.env
      standAt apos.atName
      let (f, first) ← holding [ov] (getMethod ov m pl)
      callWith pos f first (backTo pos (starEach [] X.env)) (backToKw pos (keywordEach [] X.env))) := by rfl) :
    PE X (.Call (.Attribute o m apos) [] [] pos) (tMeth C m sp [] E ta tNil) := by
  obtain ⟨f, fd, ps, F1, hm, hb, cl⟩ := F.ex
  exact pe_meth0 he cl hm F1 (hr.mono hk) hb .nil hx ht
theorem pe_mr (F : Mr X.prog X.w X.K X.mg X.base k x C sp) (hr : Room j X.A) (hg : Gl X x) (hx : Passes (L2N.CX X.prog X.w) X E) (ha : PA X (e :: es) t) (hk : k + 1 ≤ j := by decide) (hdb : (x == ("__debug__" : Str)) = false := by decide)
    (he : starEach (e :: es) X.env = (false, eval e X.env) :: starEach es X.env := by rfl) (hpl : (backTo pos (starEach es X.env)).any (·.1) = false := by rfl) : PE X (.Call (.Name x p) (e :: es) [] pos) (tMake C sp [] E t) := by
  obtain ⟨f, fd, ps, F1, hm, hmg, hb⟩ := F.ex
  exact pe_make hm F1 (hr.mono hk) hg hmg hb .nil hx ha hdb he hpl
theorem pe_mr0 (F : Mr X.prog X.w X.K X.mg X.base k x C sp) (hr : Room j X.A) (hg : Gl X x) (hx : Passes (L2N.CX X.prog X.w) X E) (hk : k + 1 ≤ j := by decide) (hdb : (x == ("__debug__" : Str)) = false := by decide) :
    PE X (.Call (.Name x p) [] [] pos) (tMake C sp [] E tNil) := by
  obtain ⟨f, fd, ps, F1, hm, hmg, hb⟩ := F.ex
  exact pe_make0 hm F1 (hr.mono hk) hg hmg hb .nil hx hdb
end
/-! ### readings, a step at a time -/
def rFld (K : PySem.W.Frag) (f : Str) : V → Hp → VK → Prop := fun x H Q => ∃ a C dx fs v, x = .ref a ∧ H a = some (.ins C dx fs) ∧ Cls K C ∧ NoAttr K C f ∧ fs.lookup f = some v ∧ Q v H
def rSetF (K : PySem.W.Frag) (f : Str) : V → V → Hp → (Hp → Prop) → Prop := fun x y H R => ∃ a C dx fs, x = .ref a ∧ H a = some (.ins C dx fs) ∧ Cls K C ∧ NoAttr K C f ∧ fs.length < 1000 ∧ R (upd H a (.ins C dx (putF f y fs)))
def rMth (C : Addr) (m : Str) (x : V) (H : Hp) (R : Prop) : Prop := ∃ a dx fs, x = .ref a ∧ H a = some (.ins C dx fs) ∧ fs.lookup m = none ∧ R
section
variable {σ : L2.St} {H : Hp} {Q : VK} {D : Ends} {te ta tb tc : TE} {r r' : R2}
theorem x_var {i : Nat} {v : V} (h : σ[i]? = some (some v)) (k : Q v H) : tVar i σ H Q := ⟨v, h, k⟩
theorem x_c {v : V} (k : Q v H) : tC v σ H Q := k
theorem x_op (k : ta σ H fun x H1 => tb σ H1 fun y H2 => r x y H2 Q) : tOp r ta tb σ H Q := k
theorem x_un {u : V → Hp → VK → Prop} (k : ta σ H fun x H1 => u x H1 Q) : tUn u ta σ H Q := k
theorem x_rU {g : Int → V} {i : Int} (k : Q (g i) H) : rU g (.int i) H Q := ⟨i, rfl, k⟩
theorem x_rI0 {g : Int → Int → V} {i j : Int} (k : Q (g i j) H) : rI0 g (.int i) (.int j) H Q := ⟨i, j, rfl, rfl, k⟩
theorem x_rI {C : Int → Int → Prop} {g : Int → Int → V} {i j : Int} (c : C i j) (k : Q (g i j) H) : rI C g (.int i) (.int j) H Q := ⟨i, j, rfl, rfl, c, k⟩
theorem x_rEq {x y : V} (c : scal x y = true) (k : Q (.bl (decide (x = y))) H) : rEq x y H Q := ⟨c, k⟩
theorem x_rNe {x y : V} (c : scal x y = true) (k : Q (.bl (!decide (x = y))) H) : rNe x y H Q := ⟨c, k⟩
theorem x_chain (k : ta σ H fun x H1 => tb σ H1 fun y H2 => r x y H2 fun z H3 => ∃ k, z = .bl k ∧ (if k = true then tc σ H3 fun w' H4 => r' y w' H4 Q else Q (.bl false) H3)) : tChain r r' ta tb tc σ H Q := k
theorem x_ex {F : Bool → Prop} {b : Bool} (k : F b) : ∃ c, V.bl b = V.bl c ∧ F c := ⟨b, rfl, k⟩
theorem x_test {R : Bool → Hp → Prop} (k : te σ H fun x H' => ∃ k, x = .bl k ∧ R k H') : tTest te σ H R := k
theorem x_tB {R : Bool → Hp → Prop} (k : te σ H fun x H' => ∃ k, x = .bl k ∧ R k H') : tB te σ H R := k
theorem x_tAnd {t u : TT} {R : Bool → Hp → Prop} (k : t σ H fun c H1 => if c = true then u σ H1 R else R false H1) : tAnd t u σ H R := k
theorem x_tOr {t u : TT} {R : Bool → Hp → Prop} (k : t σ H fun c H1 => if c = true then R true H1 else u σ H1 R) : tOr t u σ H R := k
theorem x_tNot {t : TT} {R : Bool → Hp → Prop} (k : t σ H fun c H1 => R (!c) H1) : tNot t σ H R := k
theorem x_andV (k : ta σ H fun x H1 => ∃ c, x = .bl c ∧ if c = true then tb σ H1 Q else Q (.bl false) H1) : tAndV ta tb σ H Q := k
theorem x_orV (k : ta σ H fun x H1 => ∃ c, x = .bl c ∧ if c = true then Q (.bl true) H1 else tb σ H1 Q) : tOrV ta tb σ H Q := k
theorem x_notV (k : ta σ H fun x H1 => ∃ c, x = .bl c ∧ Q (.bl (!c)) H1) : tNotV ta σ H Q := k
theorem x_tIf {t : TT} (k : t σ H fun c H1 => if c = true then ta σ H1 Q else tb σ H1 Q) : tIf t ta tb σ H Q := k
theorem x_T {A B : Prop} (k : A) : if true = true then A else B := by rw [if_pos rfl]; exact k
theorem x_F {A B : Prop} (k : B) : if false = true then A else B := by rw [if_neg Bool.false_ne_true]; exact k
theorem x_2 {A B c : Prop} [Decidable c] (h1 : c → A) (h2 : ¬ c → B) : if decide c = true then A else B := by
  by_cases h : c
  · rw [decide_eq_true h, if_pos rfl]; exact h1 h
  · rw [decide_eq_false h, if_neg Bool.false_ne_true]; exact h2 h
theorem x_2n {A B c : Prop} [Decidable c] (h1 : ¬ c → A) (h2 : c → B) : if (!decide c) = true then A else B := by
  by_cases h : c
  · rw [decide_eq_true h]; exact x_F (h2 h)
  · rw [decide_eq_false h]; exact x_T (h1 h)
theorem x_b {A B : Prop} {b : Bool} (h1 : b = true → A) (h2 : b = false → B) : if b = true then A else B := by
  cases b with
  | true => exact x_T (h1 rfl)
  | false => exact x_F (h2 rfl)
theorem x_seq {t u : TS} (k : t { D with nx := u D } σ H) : tSeq t u D σ H := k
theorem x_next (k : D.nx σ H) : tNext D σ H := k
theorem x_asg {g : TG} (k : te σ H fun x H1 => g x σ H1 D.nx) : tAsg te g D σ H := k
theorem x_name {i : Nat} {v : V} {R : L2.St → Hp → Prop} (k : R (σ.set i (some v)) H) : gName i v σ H R := k
theorem x_ret (k : te σ H D.rt) : tRet te D σ H := k
theorem x_retN (k : D.rt .non H) : tRetN D σ H := k
theorem x_ifS {c : TT} {t u : TS} (k : c σ H fun b H1 => if b = true then t D σ H1 else u D σ H1) : tIfS c t u D σ H := k
theorem x_drop (k : te σ H fun _ H1 => D.nx σ H1) : tDrop te D σ H := k
theorem x_nil {R : List V → Hp → Prop} (k : R [] H) : tNil σ H R := k
theorem x_cons {tr : TA} {R : List V → Hp → Prop} (k : ta σ H fun x H1 => tr σ H1 fun xs H2 => R (x :: xs) H2) : tCons ta tr σ H R := k
theorem x_tup {t : TA} (k : t σ H fun xs H1 => xs.length ≤ sizeLine ∧ ∀ p, H1 p = none → Q (.ref p) (upd H1 p (.tup xs))) : tTup t σ H Q := k
theorem x_lst {t : TA} (k : t σ H fun xs H1 => xs.length ≤ sizeLine ∧ ∀ p, H1 p = none → Q (.ref p) (upd H1 p (.lst xs))) : tLst t σ H Q := k
theorem x_call {sp : Sp} {E : XK} {t : TA} (k : t σ H fun vs H1 => sp (vs ++ []) H1 Q E) : tCall sp [] E t σ H Q := k
theorem x_cb {rr : List V → Hp → VK → Prop} {t : TA} (k : t σ H fun vs H1 => rr vs H1 Q) : tCB rr t σ H Q := k
theorem x_meth {C : Addr} {m : Str} {sp : Sp} {E : XK} {t : TA} (k : ta σ H fun x H1 => rMth C m x H1 (t σ H1 fun vs H2 => sp (x :: (vs ++ [])) H2 Q E)) : tMeth C m sp [] E ta t σ H Q := k
theorem x_make {C : Addr} {sp : Sp} {E : XK} {t : TA} (k : t σ H fun vs H1 => ∀ x dx, H1 x = none → H1 dx = none → dx ≠ x → sp (.ref x :: (vs ++ [])) (upd (upd H1 dx (.own x)) x (.ins C dx [])) (fun v H2 => v = .non ∧ Q (.ref x) H2) E) : tMake C sp [] E t σ H Q := k
theorem x_fld {K : PySem.W.Frag} {f : Str} (k : ta σ H fun x H1 => rFld K f x H1 Q) : tFld K ta f σ H Q := k
theorem x_rfld {K : PySem.W.Frag} {f : Str} {a C dx : Addr} {fs : List (Str × V)} {v : V} (h : H a = some (.ins C dx fs)) (c : Cls K C) (n : NoAttr K C f) (l : fs.lookup f = some v) (k : Q v H) : rFld K f (.ref a) H Q := ⟨a, C, dx, fs, v, rfl, h, c, n, l, k⟩
theorem x_sfld {K : PySem.W.Frag} {f : Str} {tv : TE} (k : tv σ H fun y H1 => ta σ H1 fun x H2 => rSetF K f x y H2 (D.nx σ)) : sFld K ta tv f D σ H := k
theorem x_rsfld {K : PySem.W.Frag} {f : Str} {a C dx : Addr} {fs : List (Str × V)} {R : Hp → Prop} {y : V} (h : H a = some (.ins C dx fs)) (c : Cls K C) (n : NoAttr K C f) (l : fs.length < 1000) (k : R (upd H a (.ins C dx (putF f y fs)))) : rSetF K f (.ref a) y H R := ⟨a, C, dx, fs, rfl, h, c, n, l, k⟩
theorem x_rmeth {C a dx : Addr} {fs : List (Str × V)} {m : Str} {R : Prop} (h : H a = some (.ins C dx fs)) (l : fs.lookup m = none) (k : R) : rMth C m (.ref a) H R := ⟨a, dx, fs, rfl, h, l, k⟩
theorem x_bm {K : PySem.W.Frag} {T : String} {rr : V → List V → Hp → VK → Prop} {to : TE} {t : TA} (k : to σ H fun x H1 => tyV K T x H1 ∧ t σ H1 fun xs H2 => rr x xs H2 Q) : tBM K T rr to t σ H Q := k
theorem x_bm0 {K : PySem.W.Frag} {T : String} {rr : V → List V → Hp → VK → Prop} {to : TE} (k : to σ H fun x H1 => tyV K T x H1 ∧ rr x [] H1 Q) : tBM0 K T rr to σ H Q := k
theorem x_sl {rr : V → Option Int → Option Int → Hp → VK → Prop} {tl th : TO} (k : te σ H fun x H1 => tl σ H1 fun l H2 => th σ H2 fun u H3 => rr x l u H3 Q) : tSl rr te tl th σ H Q := k
theorem x_part {R : Option Int → Hp → Prop} (k : te σ H fun x H1 => ∃ i, x = .int i ∧ R (some i) H1) : tPart te σ H R := k
theorem x_iex {F : Int → Prop} {b : Int} (k : F b) : ∃ c, V.int b = V.int c ∧ F c := ⟨b, rfl, k⟩
theorem x_nopart {R : Option Int → Hp → Prop} (k : R none H) : tNoPart σ H R := k
/-! ### heaps -/
theorem upd_old {p q : Addr} {o o' : HO} (hq : H q = none) (hp : H p = some o') : upd H q o p = some o' := by rw [upd_ne (ne_of_none hp hq)]; exact hp
theorem same_upd {q : Addr} {o : HO} (hq : H q = none) : Same H (upd H q o) := fun b u e => upd_old hq e
theorem sql_old {K : PySem.W.Frag} {H' : Hp} {a : Addr} {xs : List V} (e : ExtN H H') (h : SqL K H a xs) : SqL K H' a xs := by
  rcases h with (h | ⟨o, h⟩) | h
  · exact .inl (.inl (e _ _ h (fun _ z => nomatch z)))
  · exact .inl (.inr ⟨o, e _ _ h (fun _ z => nomatch z)⟩)
  · exact .inr h
end
end Ws

set_option Elab.async false
set_option linter.all false
set_option maxRecDepth 100000
set_option maxHeartbeats 4000000
namespace Ws
open PySem PySem.Spec PyProof.Rows L2 HotX LamX
theorem bb_len : bootBuiltins "len" = some (.builtin "len") := by decide +kernel
theorem bb_max : bootBuiltins "max" = some (.builtin "max") := by decide +kernel
theorem bb_min : bootBuiltins "min" = some (.builtin "min") := by decide +kernel
theorem bb_sum : bootBuiltins "sum" = some (.builtin "sum") := by decide +kernel
theorem bb_all : bootBuiltins "all" = some (.builtin "all") := by decide +kernel
theorem bb_any : bootBuiltins "any" = some (.builtin "any") := by decide +kernel
theorem bb_ord : bootBuiltins "ord" = some (.builtin "ord") := by decide +kernel
theorem bb_sorted : bootBuiltins "sorted" = some (.builtin "sorted") := by decide +kernel
theorem bb_isinstance : bootBuiltins "isinstance" = some (.builtin "isinstance") := by decide +kernel
theorem bb_int : bootBuiltins "int" = some (.type "int") := by decide +kernel
theorem bb_bool : bootBuiltins "bool" = some (.type "bool") := by decide +kernel
theorem bb_str : bootBuiltins "str" = some (.type "str") := by decide +kernel
theorem bb_list : bootBuiltins "list" = some (.type "list") := by decide +kernel
theorem bb_tuple : bootBuiltins "tuple" = some (.type "tuple") := by decide +kernel
theorem bb_dict : bootBuiltins "dict" = some (.type "dict") := by decide +kernel
theorem bb_range : bootBuiltins "range" = some (.type "range") := by decide +kernel
theorem bb_ValueError : bootBuiltins "ValueError" = some (.type "ValueError") := by decide +kernel
section
variable {X : Cx} {x : Str} {pos p : Pos} {e : Expr} {es : List Expr} {t : TA} {k j : Nat} {C : Addr} {sp : Sp} {E : XK}
theorem q_ref {a : Addr} (hm : X.mg x = some (.ref a)) (hg : Gl X x := by rfl) (hd : (x == ("__debug__" : Str)) = false := by decide) : PE X (.Name x pos) (tC (.ref a)) := pe_glob hg hm rfl hd
theorem q_int {i : Int} (hm : ∃ t, X.mg x = some (.int i t)) (hg : Gl X x := by rfl) (hd : (x == ("__debug__" : Str)) = false := by decide) : PE X (.Name x pos) (tC (.int i)) := by
  obtain ⟨t, hm⟩ := hm
  exact pe_glob hg hm ⟨t, rfl⟩ hd
theorem q_str {i : Str} (hm : ∃ t, X.mg x = some (.str i t)) (hg : Gl X x := by rfl) (hd : (x == ("__debug__" : Str)) = false := by decide) : PE X (.Name x pos) (tC (.str i)) := by
  obtain ⟨t, hm⟩ := hm
  exact pe_glob hg hm ⟨t, rfl⟩ hd
theorem q_ty {T : String} (hm : X.mg x = none) (hv : bootBuiltins x = some (.type T)) (hg : Gl X x := by rfl) (hn : x ≠ "__name__" := by decide) (hd : (x == ("__debug__" : Str)) = false := by decide) : PE X (.Name x pos) (tC (.ty T)) := pe_bltn hg hm hv rfl hn hd
theorem q_cb {id : String} {r : List V → Hp → VK → Prop} (hc : CallR X (.builtin id) r) (hm : X.mg x = none) (hv : bootBuiltins x = some (.builtin id)) (ha : PA X (e :: es) t) (hg : Gl X x := by rfl) (hn : x ≠ "__name__" := by decide) (hdb : (x == ("__debug__" : Str)) = false := by decide)
    (he : starEach (e :: es) X.env = (false, eval e X.env) :: starEach es X.env := by rfl) (hpl : (backTo pos (starEach es X.env)).any (·.1) = false := by rfl) : PE X (.Call (.Name x p) (e :: es) [] pos) (tCB r t) := pe_callB hc hg hm hv ha hn hdb he hpl
theorem q_ct {T : String} {r : List V → Hp → VK → Prop} (hc : CallR X (.type T) r) (hm : X.mg x = none) (hv : bootBuiltins x = some (.type T)) (ha : PA X (e :: es) t) (hg : Gl X x := by rfl) (hn : x ≠ "__name__" := by decide) (hdb : (x == ("__debug__" : Str)) = false := by decide)
    (he : starEach (e :: es) X.env = (false, eval e X.env) :: starEach es X.env := by rfl) (hpl : (backTo pos (starEach es X.env)).any (·.1) = false := by rfl) : PE X (.Call (.Name x p) (e :: es) [] pos) (tCB r t) := pe_callTy hc hg hm hv ha hn hdb he hpl
theorem q_fn (F : Fn X.prog X.w X.K X.mg X.base k x sp) (hr : Room j X.A) (hx : Passes (L2N.CX X.prog X.w) X E) (ha : PA X (e :: es) t) (hk : k ≤ j := by decide) (hg : Gl X x := by rfl) (hdb : (x == ("__debug__" : Str)) = false := by decide)
    (he : starEach (e :: es) X.env = (false, eval e X.env) :: starEach es X.env := by rfl) (hpl : (backTo pos (starEach es X.env)).any (·.1) = false := by rfl) : PE X (.Call (.Name x p) (e :: es) [] pos) (tCall sp [] E t) := pe_fn F hr hg hx ha hk hdb he hpl
theorem q_fn0 (F : Fn X.prog X.w X.K X.mg X.base k x sp) (hr : Room j X.A) (hx : Passes (L2N.CX X.prog X.w) X E) (hk : k ≤ j := by decide) (hg : Gl X x := by rfl) (hdb : (x == ("__debug__" : Str)) = false := by decide) :
    PE X (.Call (.Name x p) [] [] pos) (tCall sp [] E tNil) := pe_fn0 F hr hg hx hk hdb
theorem q_mr (F : Mr X.prog X.w X.K X.mg X.base k x C sp) (hr : Room j X.A) (hx : Passes (L2N.CX X.prog X.w) X E) (ha : PA X (e :: es) t) (hk : k + 1 ≤ j := by decide) (hg : Gl X x := by rfl) (hdb : (x == ("__debug__" : Str)) = false := by decide)
    (he : starEach (e :: es) X.env = (false, eval e X.env) :: starEach es X.env := by rfl) (hpl : (backTo pos (starEach es X.env)).any (·.1) = false := by rfl) : PE X (.Call (.Name x p) (e :: es) [] pos) (tMake C sp [] E t) := pe_mr F hr hg hx ha hk hdb he hpl
theorem q_mr0 (F : Mr X.prog X.w X.K X.mg X.base k x C sp) (hr : Room j X.A) (hx : Passes (L2N.CX X.prog X.w) X E) (hk : k + 1 ≤ j := by decide) (hg : Gl X x := by rfl) (hdb : (x == ("__debug__" : Str)) = false := by decide) :
    PE X (.Call (.Name x p) [] [] pos) (tMake C sp [] E tNil) := pe_mr0 F hr hg hx hk hdb
end
/-! ### the six refusals -/
abbrev veT : List Value := [.type "ValueError", .type "Exception", .type "BaseException", .type "object"]
def errIn (K : PySem.W.Frag) (D W : Addr) : Bool :=
  PySem.W.findIn K (.ref D) "__getattribute__" == some (some (.builtin "BaseException.__getattribute__")) && (PySem.W.findIn K (.ref D) "__getattr__" == some none &&
  (PySem.W.subIn K (.ref D) (.type "BaseException") == some true && (PySem.W.hasDictIn K D &&
  (PySem.W.findIn K (.ref D) "__class__" == some (some (.builtin "object.__class__")) &&
  (PySem.W.specialIn K (.builtin "object.__class__") "__get__" == some (some (.builtin "getset_descriptor.__get__")) &&
  (PySem.W.takesIn K (.builtin "object.__class__") == some true && (PySem.W.mroIn K D (.type "object") == some true &&
  (PySem.W.excIn K D veT "ValueError.__new__" && (PySem.W.keepIn K (.ref D) && (PySem.W.typeIn K (.ref D) == some (.type "type") &&
  (PySem.W.kitOne K (.ref D) (.type "ValueError") == some true && PySem.W.exmOne K (.ref D) (.ref W) == some true)))))))))))
structure ErrC (K : PySem.W.Frag) (D W : Addr) : Prop where
  exc : ExcC K D
  xin : PySem.W.excIn K D veT "ValueError.__new__" = true
  kp : PySem.W.keepIn K (.ref D) = true
  ty : PySem.W.typeIn K (.ref D) = some (.type "type")
  kv : PySem.W.kitOne K (.ref D) (.type "ValueError") = some true
  ex : PySem.W.exmOne K (.ref D) (.ref W) = some true
theorem errC_of {K : PySem.W.Frag} {D W : Addr} (h : errIn K D W = true) : ErrC K D W := by
  unfold errIn at h
  simp only [Bool.and_eq_true, beq_iff_eq] at h
  obtain ⟨h1, h2, h3, h4, h5, h6, h7, h8, h9, h10, h11, h12, h13⟩ := h
  exact ⟨⟨h1, h2, h3, h4, h5, h6, h7, h8⟩, h9, h10, h11, h12, h13⟩
def nmE : Nat → Str
  | 0 => "BadBook" | 1 => "BadBytes" | 2 => "BadRank" | 3 => "BadRoom" | 4 => "BadSheet" | _ => "BadTurn"
def errsIn (K : PySem.W.Frag) (c : Nat → Addr) : Bool :=
  (List.range 6).all fun i => errIn K (c i) (c 6) && (List.range 6).all fun j => PySem.W.kitOne K (.ref (c i)) (.ref (c j)) == some (decide (i = j))
structure Errs (K : PySem.W.Frag) (mg : Str → Option Value) (c : Nat → Addr) : Prop where
  g : ∀ i, i < 6 → mg (nmE i) = some (.ref (c i))
  gW : mg "WireError" = some (.ref (c 6))
  cls : ∀ i, i < 6 → ErrC K (c i) (c 6)
  kit : ∀ i j, i < 6 → j < 6 → PySem.W.kitOne K (.ref (c i)) (.ref (c j)) = some (decide (i = j))
theorem errs_of {K : PySem.W.Frag} {mg : Str → Option Value} {c : Nat → Addr} (h : errsIn K c = true) (g0 : mg "BadBook" = some (.ref (c 0))) (g1 : mg "BadBytes" = some (.ref (c 1))) (g2 : mg "BadRank" = some (.ref (c 2))) (g3 : mg "BadRoom" = some (.ref (c 3)))
    (g4 : mg "BadSheet" = some (.ref (c 4))) (g5 : mg "BadTurn" = some (.ref (c 5))) (gW : mg "WireError" = some (.ref (c 6))) : Errs K mg c := by
  unfold errsIn at h
  simp only [List.all_eq_true, List.mem_range, Bool.and_eq_true, beq_iff_eq] at h
  refine ⟨fun i hi => ?_, gW, fun i hi => errC_of (h i hi).1, fun i j hi hj => (h i hi).2 j hj⟩
  match i, hi with
  | 0, _ => exact g0
  | 1, _ => exact g1
  | 2, _ => exact g2
  | 3, _ => exact g3
  | 4, _ => exact g4
  | 5, _ => exact g5
theorem Errs.mk_ {K : PySem.W.Frag} {mg : Str → Option Value} {c : Nat → Addr} (T : Errs K mg c) {X : Cx} (eK : X.K = K) (em : X.mg = mg) (i : Nat) (hi : i < 6) {m : Str} {j : Nat} {p p2 pos : Pos} (hg : Gl X (nmE i)) (hd : (nmE i == ("__debug__" : Str)) = false) :
    L2N.PMk X (.Call (.Name (nmE i) p) [.Constant (.str m) j p2] [] pos) (fun _ H Q => Q (.ref (c i)) none H) := by
  subst eK em
  have C := T.cls i hi
  refine L2N.pmk_own PySem.F.excBase_ValueError C.xin (T.g i hi) C.kp (fun M h KX => ⟨?_, ?_⟩) hg hd
  · exact PySem.W.looks_subIn KX C.exc.hs
  · exact PySem.W.looks_typeIn KX C.ty
section
variable {H : Hp} {Q : VK} {R : L2.St → Hp → Prop} {v : V}
theorem x_v0 {l : L2.St} (k : Q v H) : tVar 0 (some v :: l) H Q := ⟨v, rfl, k⟩
theorem x_n0 {b : Option V} {l : L2.St} (k : R (some v :: l) H) : gName 0 v (b :: l) H R := k
theorem x_v1 {a0 : Option V} {l : L2.St} (k : Q v H) : tVar 1 (a0 :: some v :: l) H Q := ⟨v, rfl, k⟩
theorem x_n1 {a0 : Option V} {b : Option V} {l : L2.St} (k : R (a0 :: some v :: l) H) : gName 1 v (a0 :: b :: l) H R := k
theorem x_v2 {a0 a1 : Option V} {l : L2.St} (k : Q v H) : tVar 2 (a0 :: a1 :: some v :: l) H Q := ⟨v, rfl, k⟩
theorem x_n2 {a0 a1 : Option V} {b : Option V} {l : L2.St} (k : R (a0 :: a1 :: some v :: l) H) : gName 2 v (a0 :: a1 :: b :: l) H R := k
theorem x_v3 {a0 a1 a2 : Option V} {l : L2.St} (k : Q v H) : tVar 3 (a0 :: a1 :: a2 :: some v :: l) H Q := ⟨v, rfl, k⟩
theorem x_n3 {a0 a1 a2 : Option V} {b : Option V} {l : L2.St} (k : R (a0 :: a1 :: a2 :: some v :: l) H) : gName 3 v (a0 :: a1 :: a2 :: b :: l) H R := k
theorem x_v4 {a0 a1 a2 a3 : Option V} {l : L2.St} (k : Q v H) : tVar 4 (a0 :: a1 :: a2 :: a3 :: some v :: l) H Q := ⟨v, rfl, k⟩
theorem x_n4 {a0 a1 a2 a3 : Option V} {b : Option V} {l : L2.St} (k : R (a0 :: a1 :: a2 :: a3 :: some v :: l) H) : gName 4 v (a0 :: a1 :: a2 :: a3 :: b :: l) H R := k
theorem x_v5 {a0 a1 a2 a3 a4 : Option V} {l : L2.St} (k : Q v H) : tVar 5 (a0 :: a1 :: a2 :: a3 :: a4 :: some v :: l) H Q := ⟨v, rfl, k⟩
theorem x_n5 {a0 a1 a2 a3 a4 : Option V} {b : Option V} {l : L2.St} (k : R (a0 :: a1 :: a2 :: a3 :: a4 :: some v :: l) H) : gName 5 v (a0 :: a1 :: a2 :: a3 :: a4 :: b :: l) H R := k
theorem x_v6 {a0 a1 a2 a3 a4 a5 : Option V} {l : L2.St} (k : Q v H) : tVar 6 (a0 :: a1 :: a2 :: a3 :: a4 :: a5 :: some v :: l) H Q := ⟨v, rfl, k⟩
theorem x_n6 {a0 a1 a2 a3 a4 a5 : Option V} {b : Option V} {l : L2.St} (k : R (a0 :: a1 :: a2 :: a3 :: a4 :: a5 :: some v :: l) H) : gName 6 v (a0 :: a1 :: a2 :: a3 :: a4 :: a5 :: b :: l) H R := k
theorem x_v7 {a0 a1 a2 a3 a4 a5 a6 : Option V} {l : L2.St} (k : Q v H) : tVar 7 (a0 :: a1 :: a2 :: a3 :: a4 :: a5 :: a6 :: some v :: l) H Q := ⟨v, rfl, k⟩
theorem x_n7 {a0 a1 a2 a3 a4 a5 a6 : Option V} {b : Option V} {l : L2.St} (k : R (a0 :: a1 :: a2 :: a3 :: a4 :: a5 :: a6 :: some v :: l) H) : gName 7 v (a0 :: a1 :: a2 :: a3 :: a4 :: a5 :: a6 :: b :: l) H R := k
theorem x_v8 {a0 a1 a2 a3 a4 a5 a6 a7 : Option V} {l : L2.St} (k : Q v H) : tVar 8 (a0 :: a1 :: a2 :: a3 :: a4 :: a5 :: a6 :: a7 :: some v :: l) H Q := ⟨v, rfl, k⟩
theorem x_n8 {a0 a1 a2 a3 a4 a5 a6 a7 : Option V} {b : Option V} {l : L2.St} (k : R (a0 :: a1 :: a2 :: a3 :: a4 :: a5 :: a6 :: a7 :: some v :: l) H) : gName 8 v (a0 :: a1 :: a2 :: a3 :: a4 :: a5 :: a6 :: a7 :: b :: l) H R := k
theorem x_v9 {a0 a1 a2 a3 a4 a5 a6 a7 a8 : Option V} {l : L2.St} (k : Q v H) : tVar 9 (a0 :: a1 :: a2 :: a3 :: a4 :: a5 :: a6 :: a7 :: a8 :: some v :: l) H Q := ⟨v, rfl, k⟩
theorem x_n9 {a0 a1 a2 a3 a4 a5 a6 a7 a8 : Option V} {b : Option V} {l : L2.St} (k : R (a0 :: a1 :: a2 :: a3 :: a4 :: a5 :: a6 :: a7 :: a8 :: some v :: l) H) : gName 9 v (a0 :: a1 :: a2 :: a3 :: a4 :: a5 :: a6 :: a7 :: a8 :: b :: l) H R := k
theorem x_v10 {a0 a1 a2 a3 a4 a5 a6 a7 a8 a9 : Option V} {l : L2.St} (k : Q v H) : tVar 10 (a0 :: a1 :: a2 :: a3 :: a4 :: a5 :: a6 :: a7 :: a8 :: a9 :: some v :: l) H Q := ⟨v, rfl, k⟩
theorem x_n10 {a0 a1 a2 a3 a4 a5 a6 a7 a8 a9 : Option V} {b : Option V} {l : L2.St} (k : R (a0 :: a1 :: a2 :: a3 :: a4 :: a5 :: a6 :: a7 :: a8 :: a9 :: some v :: l) H) : gName 10 v (a0 :: a1 :: a2 :: a3 :: a4 :: a5 :: a6 :: a7 :: a8 :: a9 :: b :: l) H R := k
theorem x_v11 {a0 a1 a2 a3 a4 a5 a6 a7 a8 a9 a10 : Option V} {l : L2.St} (k : Q v H) : tVar 11 (a0 :: a1 :: a2 :: a3 :: a4 :: a5 :: a6 :: a7 :: a8 :: a9 :: a10 :: some v :: l) H Q := ⟨v, rfl, k⟩
theorem x_n11 {a0 a1 a2 a3 a4 a5 a6 a7 a8 a9 a10 : Option V} {b : Option V} {l : L2.St} (k : R (a0 :: a1 :: a2 :: a3 :: a4 :: a5 :: a6 :: a7 :: a8 :: a9 :: a10 :: some v :: l) H) : gName 11 v (a0 :: a1 :: a2 :: a3 :: a4 :: a5 :: a6 :: a7 :: a8 :: a9 :: a10 :: b :: l) H R := k
theorem x_v12 {a0 a1 a2 a3 a4 a5 a6 a7 a8 a9 a10 a11 : Option V} {l : L2.St} (k : Q v H) : tVar 12 (a0 :: a1 :: a2 :: a3 :: a4 :: a5 :: a6 :: a7 :: a8 :: a9 :: a10 :: a11 :: some v :: l) H Q := ⟨v, rfl, k⟩
theorem x_n12 {a0 a1 a2 a3 a4 a5 a6 a7 a8 a9 a10 a11 : Option V} {b : Option V} {l : L2.St} (k : R (a0 :: a1 :: a2 :: a3 :: a4 :: a5 :: a6 :: a7 :: a8 :: a9 :: a10 :: a11 :: some v :: l) H) : gName 12 v (a0 :: a1 :: a2 :: a3 :: a4 :: a5 :: a6 :: a7 :: a8 :: a9 :: a10 :: a11 :: b :: l) H R := k
theorem x_v13 {a0 a1 a2 a3 a4 a5 a6 a7 a8 a9 a10 a11 a12 : Option V} {l : L2.St} (k : Q v H) : tVar 13 (a0 :: a1 :: a2 :: a3 :: a4 :: a5 :: a6 :: a7 :: a8 :: a9 :: a10 :: a11 :: a12 :: some v :: l) H Q := ⟨v, rfl, k⟩
theorem x_n13 {a0 a1 a2 a3 a4 a5 a6 a7 a8 a9 a10 a11 a12 : Option V} {b : Option V} {l : L2.St} (k : R (a0 :: a1 :: a2 :: a3 :: a4 :: a5 :: a6 :: a7 :: a8 :: a9 :: a10 :: a11 :: a12 :: some v :: l) H) : gName 13 v (a0 :: a1 :: a2 :: a3 :: a4 :: a5 :: a6 :: a7 :: a8 :: a9 :: a10 :: a11 :: a12 :: b :: l) H R := k
theorem x_v14 {a0 a1 a2 a3 a4 a5 a6 a7 a8 a9 a10 a11 a12 a13 : Option V} {l : L2.St} (k : Q v H) : tVar 14 (a0 :: a1 :: a2 :: a3 :: a4 :: a5 :: a6 :: a7 :: a8 :: a9 :: a10 :: a11 :: a12 :: a13 :: some v :: l) H Q := ⟨v, rfl, k⟩
theorem x_n14 {a0 a1 a2 a3 a4 a5 a6 a7 a8 a9 a10 a11 a12 a13 : Option V} {b : Option V} {l : L2.St} (k : R (a0 :: a1 :: a2 :: a3 :: a4 :: a5 :: a6 :: a7 :: a8 :: a9 :: a10 :: a11 :: a12 :: a13 :: some v :: l) H) : gName 14 v (a0 :: a1 :: a2 :: a3 :: a4 :: a5 :: a6 :: a7 :: a8 :: a9 :: a10 :: a11 :: a12 :: a13 :: b :: l) H R := k
theorem x_v15 {a0 a1 a2 a3 a4 a5 a6 a7 a8 a9 a10 a11 a12 a13 a14 : Option V} {l : L2.St} (k : Q v H) : tVar 15 (a0 :: a1 :: a2 :: a3 :: a4 :: a5 :: a6 :: a7 :: a8 :: a9 :: a10 :: a11 :: a12 :: a13 :: a14 :: some v :: l) H Q := ⟨v, rfl, k⟩
theorem x_n15 {a0 a1 a2 a3 a4 a5 a6 a7 a8 a9 a10 a11 a12 a13 a14 : Option V} {b : Option V} {l : L2.St} (k : R (a0 :: a1 :: a2 :: a3 :: a4 :: a5 :: a6 :: a7 :: a8 :: a9 :: a10 :: a11 :: a12 :: a13 :: a14 :: some v :: l) H) : gName 15 v (a0 :: a1 :: a2 :: a3 :: a4 :: a5 :: a6 :: a7 :: a8 :: a9 :: a10 :: a11 :: a12 :: a13 :: a14 :: b :: l) H R := k
theorem x_v16 {a0 a1 a2 a3 a4 a5 a6 a7 a8 a9 a10 a11 a12 a13 a14 a15 : Option V} {l : L2.St} (k : Q v H) : tVar 16 (a0 :: a1 :: a2 :: a3 :: a4 :: a5 :: a6 :: a7 :: a8 :: a9 :: a10 :: a11 :: a12 :: a13 :: a14 :: a15 :: some v :: l) H Q := ⟨v, rfl, k⟩
theorem x_n16 {a0 a1 a2 a3 a4 a5 a6 a7 a8 a9 a10 a11 a12 a13 a14 a15 : Option V} {b : Option V} {l : L2.St} (k : R (a0 :: a1 :: a2 :: a3 :: a4 :: a5 :: a6 :: a7 :: a8 :: a9 :: a10 :: a11 :: a12 :: a13 :: a14 :: a15 :: some v :: l) H) : gName 16 v (a0 :: a1 :: a2 :: a3 :: a4 :: a5 :: a6 :: a7 :: a8 :: a9 :: a10 :: a11 :: a12 :: a13 :: a14 :: a15 :: b :: l) H R := k
theorem x_v17 {a0 a1 a2 a3 a4 a5 a6 a7 a8 a9 a10 a11 a12 a13 a14 a15 a16 : Option V} {l : L2.St} (k : Q v H) : tVar 17 (a0 :: a1 :: a2 :: a3 :: a4 :: a5 :: a6 :: a7 :: a8 :: a9 :: a10 :: a11 :: a12 :: a13 :: a14 :: a15 :: a16 :: some v :: l) H Q := ⟨v, rfl, k⟩
theorem x_n17 {a0 a1 a2 a3 a4 a5 a6 a7 a8 a9 a10 a11 a12 a13 a14 a15 a16 : Option V} {b : Option V} {l : L2.St} (k : R (a0 :: a1 :: a2 :: a3 :: a4 :: a5 :: a6 :: a7 :: a8 :: a9 :: a10 :: a11 :: a12 :: a13 :: a14 :: a15 :: a16 :: some v :: l) H) : gName 17 v (a0 :: a1 :: a2 :: a3 :: a4 :: a5 :: a6 :: a7 :: a8 :: a9 :: a10 :: a11 :: a12 :: a13 :: a14 :: a15 :: a16 :: b :: l) H R := k
theorem x_v18 {a0 a1 a2 a3 a4 a5 a6 a7 a8 a9 a10 a11 a12 a13 a14 a15 a16 a17 : Option V} {l : L2.St} (k : Q v H) : tVar 18 (a0 :: a1 :: a2 :: a3 :: a4 :: a5 :: a6 :: a7 :: a8 :: a9 :: a10 :: a11 :: a12 :: a13 :: a14 :: a15 :: a16 :: a17 :: some v :: l) H Q := ⟨v, rfl, k⟩
theorem x_n18 {a0 a1 a2 a3 a4 a5 a6 a7 a8 a9 a10 a11 a12 a13 a14 a15 a16 a17 : Option V} {b : Option V} {l : L2.St} (k : R (a0 :: a1 :: a2 :: a3 :: a4 :: a5 :: a6 :: a7 :: a8 :: a9 :: a10 :: a11 :: a12 :: a13 :: a14 :: a15 :: a16 :: a17 :: some v :: l) H) : gName 18 v (a0 :: a1 :: a2 :: a3 :: a4 :: a5 :: a6 :: a7 :: a8 :: a9 :: a10 :: a11 :: a12 :: a13 :: a14 :: a15 :: a16 :: a17 :: b :: l) H R := k
theorem x_v19 {a0 a1 a2 a3 a4 a5 a6 a7 a8 a9 a10 a11 a12 a13 a14 a15 a16 a17 a18 : Option V} {l : L2.St} (k : Q v H) : tVar 19 (a0 :: a1 :: a2 :: a3 :: a4 :: a5 :: a6 :: a7 :: a8 :: a9 :: a10 :: a11 :: a12 :: a13 :: a14 :: a15 :: a16 :: a17 :: a18 :: some v :: l) H Q := ⟨v, rfl, k⟩
theorem x_n19 {a0 a1 a2 a3 a4 a5 a6 a7 a8 a9 a10 a11 a12 a13 a14 a15 a16 a17 a18 : Option V} {b : Option V} {l : L2.St} (k : R (a0 :: a1 :: a2 :: a3 :: a4 :: a5 :: a6 :: a7 :: a8 :: a9 :: a10 :: a11 :: a12 :: a13 :: a14 :: a15 :: a16 :: a17 :: a18 :: some v :: l) H) : gName 19 v (a0 :: a1 :: a2 :: a3 :: a4 :: a5 :: a6 :: a7 :: a8 :: a9 :: a10 :: a11 :: a12 :: a13 :: a14 :: a15 :: a16 :: a17 :: a18 :: b :: l) H R := k
theorem x_v20 {a0 a1 a2 a3 a4 a5 a6 a7 a8 a9 a10 a11 a12 a13 a14 a15 a16 a17 a18 a19 : Option V} {l : L2.St} (k : Q v H) : tVar 20 (a0 :: a1 :: a2 :: a3 :: a4 :: a5 :: a6 :: a7 :: a8 :: a9 :: a10 :: a11 :: a12 :: a13 :: a14 :: a15 :: a16 :: a17 :: a18 :: a19 :: some v :: l) H Q := ⟨v, rfl, k⟩
theorem x_n20 {a0 a1 a2 a3 a4 a5 a6 a7 a8 a9 a10 a11 a12 a13 a14 a15 a16 a17 a18 a19 : Option V} {b : Option V} {l : L2.St} (k : R (a0 :: a1 :: a2 :: a3 :: a4 :: a5 :: a6 :: a7 :: a8 :: a9 :: a10 :: a11 :: a12 :: a13 :: a14 :: a15 :: a16 :: a17 :: a18 :: a19 :: some v :: l) H) : gName 20 v (a0 :: a1 :: a2 :: a3 :: a4 :: a5 :: a6 :: a7 :: a8 :: a9 :: a10 :: a11 :: a12 :: a13 :: a14 :: a15 :: a16 :: a17 :: a18 :: a19 :: b :: l) H R := k
theorem x_v21 {a0 a1 a2 a3 a4 a5 a6 a7 a8 a9 a10 a11 a12 a13 a14 a15 a16 a17 a18 a19 a20 : Option V} {l : L2.St} (k : Q v H) : tVar 21 (a0 :: a1 :: a2 :: a3 :: a4 :: a5 :: a6 :: a7 :: a8 :: a9 :: a10 :: a11 :: a12 :: a13 :: a14 :: a15 :: a16 :: a17 :: a18 :: a19 :: a20 :: some v :: l) H Q := ⟨v, rfl, k⟩
theorem x_n21 {a0 a1 a2 a3 a4 a5 a6 a7 a8 a9 a10 a11 a12 a13 a14 a15 a16 a17 a18 a19 a20 : Option V} {b : Option V} {l : L2.St} (k : R (a0 :: a1 :: a2 :: a3 :: a4 :: a5 :: a6 :: a7 :: a8 :: a9 :: a10 :: a11 :: a12 :: a13 :: a14 :: a15 :: a16 :: a17 :: a18 :: a19 :: a20 :: some v :: l) H) : gName 21 v (a0 :: a1 :: a2 :: a3 :: a4 :: a5 :: a6 :: a7 :: a8 :: a9 :: a10 :: a11 :: a12 :: a13 :: a14 :: a15 :: a16 :: a17 :: a18 :: a19 :: a20 :: b :: l) H R := k
theorem x_v22 {a0 a1 a2 a3 a4 a5 a6 a7 a8 a9 a10 a11 a12 a13 a14 a15 a16 a17 a18 a19 a20 a21 : Option V} {l : L2.St} (k : Q v H) : tVar 22 (a0 :: a1 :: a2 :: a3 :: a4 :: a5 :: a6 :: a7 :: a8 :: a9 :: a10 :: a11 :: a12 :: a13 :: a14 :: a15 :: a16 :: a17 :: a18 :: a19 :: a20 :: a21 :: some v :: l) H Q := ⟨v, rfl, k⟩
theorem x_n22 {a0 a1 a2 a3 a4 a5 a6 a7 a8 a9 a10 a11 a12 a13 a14 a15 a16 a17 a18 a19 a20 a21 : Option V} {b : Option V} {l : L2.St} (k : R (a0 :: a1 :: a2 :: a3 :: a4 :: a5 :: a6 :: a7 :: a8 :: a9 :: a10 :: a11 :: a12 :: a13 :: a14 :: a15 :: a16 :: a17 :: a18 :: a19 :: a20 :: a21 :: some v :: l) H) : gName 22 v (a0 :: a1 :: a2 :: a3 :: a4 :: a5 :: a6 :: a7 :: a8 :: a9 :: a10 :: a11 :: a12 :: a13 :: a14 :: a15 :: a16 :: a17 :: a18 :: a19 :: a20 :: a21 :: b :: l) H R := k
theorem x_v23 {a0 a1 a2 a3 a4 a5 a6 a7 a8 a9 a10 a11 a12 a13 a14 a15 a16 a17 a18 a19 a20 a21 a22 : Option V} {l : L2.St} (k : Q v H) : tVar 23 (a0 :: a1 :: a2 :: a3 :: a4 :: a5 :: a6 :: a7 :: a8 :: a9 :: a10 :: a11 :: a12 :: a13 :: a14 :: a15 :: a16 :: a17 :: a18 :: a19 :: a20 :: a21 :: a22 :: some v :: l) H Q := ⟨v, rfl, k⟩
theorem x_n23 {a0 a1 a2 a3 a4 a5 a6 a7 a8 a9 a10 a11 a12 a13 a14 a15 a16 a17 a18 a19 a20 a21 a22 : Option V} {b : Option V} {l : L2.St} (k : R (a0 :: a1 :: a2 :: a3 :: a4 :: a5 :: a6 :: a7 :: a8 :: a9 :: a10 :: a11 :: a12 :: a13 :: a14 :: a15 :: a16 :: a17 :: a18 :: a19 :: a20 :: a21 :: a22 :: some v :: l) H) : gName 23 v (a0 :: a1 :: a2 :: a3 :: a4 :: a5 :: a6 :: a7 :: a8 :: a9 :: a10 :: a11 :: a12 :: a13 :: a14 :: a15 :: a16 :: a17 :: a18 :: a19 :: a20 :: a21 :: a22 :: b :: l) H R := k
theorem x_v24 {a0 a1 a2 a3 a4 a5 a6 a7 a8 a9 a10 a11 a12 a13 a14 a15 a16 a17 a18 a19 a20 a21 a22 a23 : Option V} {l : L2.St} (k : Q v H) : tVar 24 (a0 :: a1 :: a2 :: a3 :: a4 :: a5 :: a6 :: a7 :: a8 :: a9 :: a10 :: a11 :: a12 :: a13 :: a14 :: a15 :: a16 :: a17 :: a18 :: a19 :: a20 :: a21 :: a22 :: a23 :: some v :: l) H Q := ⟨v, rfl, k⟩
theorem x_n24 {a0 a1 a2 a3 a4 a5 a6 a7 a8 a9 a10 a11 a12 a13 a14 a15 a16 a17 a18 a19 a20 a21 a22 a23 : Option V} {b : Option V} {l : L2.St} (k : R (a0 :: a1 :: a2 :: a3 :: a4 :: a5 :: a6 :: a7 :: a8 :: a9 :: a10 :: a11 :: a12 :: a13 :: a14 :: a15 :: a16 :: a17 :: a18 :: a19 :: a20 :: a21 :: a22 :: a23 :: some v :: l) H) : gName 24 v (a0 :: a1 :: a2 :: a3 :: a4 :: a5 :: a6 :: a7 :: a8 :: a9 :: a10 :: a11 :: a12 :: a13 :: a14 :: a15 :: a16 :: a17 :: a18 :: a19 :: a20 :: a21 :: a22 :: a23 :: b :: l) H R := k
theorem x_v25 {a0 a1 a2 a3 a4 a5 a6 a7 a8 a9 a10 a11 a12 a13 a14 a15 a16 a17 a18 a19 a20 a21 a22 a23 a24 : Option V} {l : L2.St} (k : Q v H) : tVar 25 (a0 :: a1 :: a2 :: a3 :: a4 :: a5 :: a6 :: a7 :: a8 :: a9 :: a10 :: a11 :: a12 :: a13 :: a14 :: a15 :: a16 :: a17 :: a18 :: a19 :: a20 :: a21 :: a22 :: a23 :: a24 :: some v :: l) H Q := ⟨v, rfl, k⟩
theorem x_n25 {a0 a1 a2 a3 a4 a5 a6 a7 a8 a9 a10 a11 a12 a13 a14 a15 a16 a17 a18 a19 a20 a21 a22 a23 a24 : Option V} {b : Option V} {l : L2.St} (k : R (a0 :: a1 :: a2 :: a3 :: a4 :: a5 :: a6 :: a7 :: a8 :: a9 :: a10 :: a11 :: a12 :: a13 :: a14 :: a15 :: a16 :: a17 :: a18 :: a19 :: a20 :: a21 :: a22 :: a23 :: a24 :: some v :: l) H) : gName 25 v (a0 :: a1 :: a2 :: a3 :: a4 :: a5 :: a6 :: a7 :: a8 :: a9 :: a10 :: a11 :: a12 :: a13 :: a14 :: a15 :: a16 :: a17 :: a18 :: a19 :: a20 :: a21 :: a22 :: a23 :: a24 :: b :: l) H R := k
theorem x_v26 {a0 a1 a2 a3 a4 a5 a6 a7 a8 a9 a10 a11 a12 a13 a14 a15 a16 a17 a18 a19 a20 a21 a22 a23 a24 a25 : Option V} {l : L2.St} (k : Q v H) : tVar 26 (a0 :: a1 :: a2 :: a3 :: a4 :: a5 :: a6 :: a7 :: a8 :: a9 :: a10 :: a11 :: a12 :: a13 :: a14 :: a15 :: a16 :: a17 :: a18 :: a19 :: a20 :: a21 :: a22 :: a23 :: a24 :: a25 :: some v :: l) H Q := ⟨v, rfl, k⟩
theorem x_n26 {a0 a1 a2 a3 a4 a5 a6 a7 a8 a9 a10 a11 a12 a13 a14 a15 a16 a17 a18 a19 a20 a21 a22 a23 a24 a25 : Option V} {b : Option V} {l : L2.St} (k : R (a0 :: a1 :: a2 :: a3 :: a4 :: a5 :: a6 :: a7 :: a8 :: a9 :: a10 :: a11 :: a12 :: a13 :: a14 :: a15 :: a16 :: a17 :: a18 :: a19 :: a20 :: a21 :: a22 :: a23 :: a24 :: a25 :: some v :: l) H) : gName 26 v (a0 :: a1 :: a2 :: a3 :: a4 :: a5 :: a6 :: a7 :: a8 :: a9 :: a10 :: a11 :: a12 :: a13 :: a14 :: a15 :: a16 :: a17 :: a18 :: a19 :: a20 :: a21 :: a22 :: a23 :: a24 :: a25 :: b :: l) H R := k
theorem x_v27 {a0 a1 a2 a3 a4 a5 a6 a7 a8 a9 a10 a11 a12 a13 a14 a15 a16 a17 a18 a19 a20 a21 a22 a23 a24 a25 a26 : Option V} {l : L2.St} (k : Q v H) : tVar 27 (a0 :: a1 :: a2 :: a3 :: a4 :: a5 :: a6 :: a7 :: a8 :: a9 :: a10 :: a11 :: a12 :: a13 :: a14 :: a15 :: a16 :: a17 :: a18 :: a19 :: a20 :: a21 :: a22 :: a23 :: a24 :: a25 :: a26 :: some v :: l) H Q := ⟨v, rfl, k⟩
theorem x_n27 {a0 a1 a2 a3 a4 a5 a6 a7 a8 a9 a10 a11 a12 a13 a14 a15 a16 a17 a18 a19 a20 a21 a22 a23 a24 a25 a26 : Option V} {b : Option V} {l : L2.St} (k : R (a0 :: a1 :: a2 :: a3 :: a4 :: a5 :: a6 :: a7 :: a8 :: a9 :: a10 :: a11 :: a12 :: a13 :: a14 :: a15 :: a16 :: a17 :: a18 :: a19 :: a20 :: a21 :: a22 :: a23 :: a24 :: a25 :: a26 :: some v :: l) H) : gName 27 v (a0 :: a1 :: a2 :: a3 :: a4 :: a5 :: a6 :: a7 :: a8 :: a9 :: a10 :: a11 :: a12 :: a13 :: a14 :: a15 :: a16 :: a17 :: a18 :: a19 :: a20 :: a21 :: a22 :: a23 :: a24 :: a25 :: a26 :: b :: l) H R := k
end
section
variable {K : PySem.W.Frag} {H : Hp} {Q : VK}
theorem x_isE {D a C : Addr} {b : Bool} (e : PySem.W.kitOne K (.ref D) (.ref C) = some b) (k : Q (.bl b) H) : rIsE K D a [.ref a, .ref C] H Q := ⟨.ref C, .ref C, b, rfl, fun _ r => r, e, k⟩
theorem x_isET {D a : Addr} {T : String} {b : Bool} (e : PySem.W.kitOne K (.ref D) (.type T) = some b) (k : Q (.bl b) H) : rIsE K D a [.ref a, .ty T] H Q := ⟨.ty T, .type T, b, rfl, fun _ r => r, e, k⟩
theorem x_cat {l b : Addr} {xs zs : List V} (h1 : H l = some (.lst xs)) (h2 : H b = some (.lst zs)) (hz : xs.length + zs.length ≤ sizeLine) (k : ∀ p, H p = none → Q (.ref p) (upd H p (.lst (xs ++ zs)))) : rCat (.ref l) (.ref b) H Q := ⟨l, b, xs, zs, rfl, rfl, h1, h2, hz, k⟩
theorem x_sum {a : Addr} {ns : List Int} (h : SqL K H a (ns.map V.int)) (k : Q (.int ns.sum) H) : rSum K [.ref a] H Q := ⟨a, ns, rfl, h, k⟩
theorem x_ixL {p : Addr} {xs : List V} {i : Int} {v : V} (h : SqL K H p xs) (hi : atI xs i = some v) (k : Q v H) : rIxL K (.ref p) (.int i) H Q := ⟨p, xs, i, v, rfl, rfl, h, hi, k⟩
theorem x_ixT {p : Addr} {xs : List V} {i : Int} {v : V} (h : SqT K H p xs) (hi : atI xs i = some v) (k : Q v H) : rIxT K (.ref p) (.int i) H Q := ⟨p, xs, i, v, rfl, rfl, h, hi, k⟩
theorem x_index {a : Addr} {ys : List V} {y z : V} {j : Nat} (h : SqL K H a ys) (f1 : flatV y = true) (f2 : ys.all flatV = true) (hj : ys[j]? = some z) (e : eqV z y = true) (no : ∀ (m : Nat) (z' : V), m < j → ys[m]? = some z' → eqV z' y = false) (k : Q (.int (j : Nat)) H) :
    rIndex K (.ref a) [y] H Q := ⟨a, ys, y, j, z, rfl, rfl, h, f1, f2, hj, e, no, k⟩
theorem x_append {l : Addr} {xs : List V} {y : V} (h : H l = some (.lst xs)) (hz : xs.length < sizeLine) (k : Q .non (upd H l (.lst (xs ++ [y])))) : rAppend (.ref l) [y] H Q := ⟨l, xs, y, rfl, rfl, h, hz, k⟩
end
/-- the one flag that is set -/
def flg (i : Nat) (j : Nat) : Bool := decide (i = j)
def flgs (i : Nat) : List V := [.bl (flg i 0), .bl (flg i 1), .bl (flg i 2), .bl (flg i 3), .bl (flg i 4), .bl (flg i 5)]
def fInt : V → V
  | .bl b => .int (if b = true then 1 else 0)
  | v => v
def flgN (i : Nat) : List Int := [if flg i 0 = true then 1 else 0, if flg i 1 = true then 1 else 0, if flg i 2 = true then 1 else 0, if flg i 3 = true then 1 else 0, if flg i 4 = true then 1 else 0, if flg i 5 = true then 1 else 0]
theorem flgN_sum : ∀ i, i < 6 → (flgN i).sum = 1 := by decide
theorem flgs_at : ∀ i, i < 6 → (flgs i)[i]? = some (.bl true) := by decide
theorem flgs_no : ∀ i, i < 6 → ∀ m, m < i → (flgs i)[m]? = some (.bl false) := by decide
theorem nm_at : ∀ i, i < 6 → atI [V.str "BadBook", V.str "BadBytes", V.str "BadRank", V.str "BadRoom", V.str "BadSheet", V.str "BadTurn"] ((i : Nat) : Int) = some (.str (nmE i)) := by
  intro i hi
  match i, hi with
  | 0, _ => rfl
  | 1, _ => rfl
  | 2, _ => rfl
  | 3, _ => rfl
  | 4, _ => rfl
  | 5, _ => rfl
section
variable {K : PySem.W.Frag} {H : Hp} {Q : VK}
theorem x_isi {v : V} {T U : String} {b : Bool} (h : TyX K H v (.type T)) (e : kitB T U = some b) (k : Q (.bl b) H) : rIsi K [v, .ty U] H Q := ⟨v, .ty U, .type T, .type U, b, rfl, .ty U, h, kit_ty e, k⟩
end
def tyN : List String := ["NoneType", "bool", "int", "str", "list", "tuple", "dict"]
theorem kb_int : ∀ T ∈ tyN, kitB T "int" = some (T == "int" || T == "bool") := by decide +kernel
theorem kb_bool : ∀ T ∈ tyN, kitB T "bool" = some (T == "bool") := by decide +kernel
theorem kb_str : ∀ T ∈ tyN, kitB T "str" = some (T == "str") := by decide +kernel
theorem kb_list : ∀ T ∈ tyN, kitB T "list" = some (T == "list") := by decide +kernel
theorem kb_tuple : ∀ T ∈ tyN, kitB T "tuple" = some (T == "tuple") := by decide +kernel
/-- a value's kind is one of the seven -/
def Ty7 (K : PySem.W.Frag) (H : Hp) (v : V) : Prop := ∃ T ∈ tyN, TyX K H v (.type T)
theorem tyx_int {K : PySem.W.Frag} {H : Hp} {v : V} {t : Value} (h : TyX K H v t) (e : t = .type "int") : ∃ i, v = .int i := by
  have no : ∀ T : String, T ≠ "int" → Value.type T = .type "int" → False := fun T hT z => hT (Value.type.inj z)
  cases h with
  | base h => cases h <;> first | exact ⟨_, rfl⟩ | exact (no _ (by decide) e).elim | (cases e)
  | _ => exact (no _ (by decide) e).elim
theorem tyx_bool {K : PySem.W.Frag} {H : Hp} {v : V} {t : Value} (h : TyX K H v t) (e : t = .type "bool") : ∃ i, v = .bl i := by
  have no : ∀ T : String, T ≠ "bool" → Value.type T = .type "bool" → False := fun T hT z => hT (Value.type.inj z)
  cases h with
  | base h => cases h <;> first | exact ⟨_, rfl⟩ | exact (no _ (by decide) e).elim | (cases e)
  | _ => exact (no _ (by decide) e).elim
theorem tyx_str {K : PySem.W.Frag} {H : Hp} {v : V} {t : Value} (h : TyX K H v t) (e : t = .type "str") : ∃ i, v = .str i := by
  have no : ∀ T : String, T ≠ "str" → Value.type T = .type "str" → False := fun T hT z => hT (Value.type.inj z)
  cases h with
  | base h => cases h <;> first | exact ⟨_, rfl⟩ | exact (no _ (by decide) e).elim | (cases e)
  | _ => exact (no _ (by decide) e).elim
theorem tyx_of_int {K : PySem.W.Frag} {H : Hp} {i : Int} {T : Value} (h : TyX K H (.int i) T) : T = .type "int" := by
  cases h with
  | base h => cases h; rfl
theorem tyx_of_bl {K : PySem.W.Frag} {H : Hp} {i : Bool} {T : Value} (h : TyX K H (.bl i) T) : T = .type "bool" := by
  cases h with
  | base h => cases h; rfl
theorem tyx_of_str {K : PySem.W.Frag} {H : Hp} {i : Str} {T : Value} (h : TyX K H (.str i) T) : T = .type "str" := by
  cases h with
  | base h => cases h; rfl
theorem ty7_int {K : PySem.W.Frag} {H : Hp} (i : Int) : Ty7 K H (.int i) := ⟨"int", by decide, .base (.int i)⟩
theorem ty7_bl {K : PySem.W.Frag} {H : Hp} (i : Bool) : Ty7 K H (.bl i) := ⟨"bool", by decide, .base (.bl i)⟩
theorem ty7_str {K : PySem.W.Frag} {H : Hp} (i : Str) : Ty7 K H (.str i) := ⟨"str", by decide, .base (.str i)⟩
theorem ty7_non {K : PySem.W.Frag} {H : Hp} : Ty7 K H .non := ⟨"NoneType", by decide, .base .non⟩
/-- a whole number between two bounds -/
def isW : V → Int → Int → Bool
  | .int i, lo, hi => decide (lo ≤ i) && decide (i ≤ hi)
  | _, _, _ => false
theorem isW_not {v : V} {lo hi : Int} (h : ∀ i, v ≠ .int i) : isW v lo hi = false := by
  cases v with
  | int i => exact absurd rfl (h i)
  | _ => rfl
/-! ### a drawn number -/
def drawn (cell k : Int) : Int :=
  let a := (cell * 6364136223846793005 + (k + 1) * 1442695040888963407) % 340282366920938463463374607431768211507
  let b := a * a % 340282366920938463463374607431768211297
  let d := (b % 18446744073709551557 + 1) * (b / 18446744073709551557 + 1) * b
  d % 340282366920938463463374607431768211507
theorem drawn_lo (cell k : Int) : 0 ≤ drawn cell k := Int.emod_nonneg _ (by decide)
theorem drawn_hi (cell k : Int) : drawn cell k < 340282366920938463463374607431768211507 := Int.emod_lt_of_pos _ (by decide)
theorem nat_lt_of {i : Int} {n : Nat} (h0 : 0 ≤ i) (h : i < (n : Int)) : i.natAbs < n := by omega
/-! ### data -/
theorem depth_ints : ∀ ns : List Int, PyData.depthAll (ns.map PyData.int) = 0
  | [] => by simp [PyData.depthAll]
  | n :: r => by simp [PyData.depthAll, PyData.depth, depth_ints r]
theorem lay_ints : ∀ ns : List Int, PyData.canLayAll0 (ns.map PyData.int) = true
  | [] => by simp [PyData.canLayAll0]
  | n :: r => by simp [PyData.canLayAll0, PyData.canLay0, lay_ints r]
theorem shp_ints (ns : List Int) : SeqAt.shaped (.list (ns.map PyData.int)) = true := by
  simp [SeqAt.shaped, PyData.canLay0, PyData.depth, lay_ints, depth_ints]
theorem shp_tints (ns : List Int) : SeqAt.shaped (.tuple (ns.map PyData.int)) = true := by
  simp [SeqAt.shaped, PyData.canLay0, PyData.depth, lay_ints, depth_ints]
theorem eqv_ints (ns ms : List Int) : PyData.eqv (.list (ns.map PyData.int)) (.list (ms.map PyData.int)) = decide (ns = ms) := by
  rw [PyData.eqv]
  exact PySem.W.ked_eqvAll ns ms
theorem dpa_ints {K : PySem.W.Frag} {H : Hp} : ∀ ns : List Int, DpAll K H (ns.map V.int) (ns.map PyData.int)
  | [] => .nil
  | n :: r => .cons (.int n) (dpa_ints r)
theorem x_eqD {K : PySem.W.Frag} {H : Hp} {Q : VK} {x y : V} {d e : PyData} (h1 : Dp K H x d) (h2 : Dp K H y e) (s1 : SeqAt.shaped d = true) (s2 : SeqAt.shaped e = true) (k : Q (.bl (PyData.eqv d e)) H) : rEqD K x y H Q := ⟨d, e, h1, h2, s1, s2, k⟩
theorem x_neD {K : PySem.W.Frag} {H : Hp} {Q : VK} {x y : V} {d e : PyData} (h1 : Dp K H x d) (h2 : Dp K H y e) (s1 : SeqAt.shaped d = true) (s2 : SeqAt.shaped e = true) (k : Q (.bl (!PyData.eqv d e)) H) : rNeD K x y H Q := ⟨d, e, h1, h2, s1, s2, k⟩
def rLn (K : PySem.W.Frag) : List V → Hp → VK → Prop := fun xs H Q => ∃ p ys, xs = [.ref p] ∧ (SqL K H p ys ∨ SqT K H p ys) ∧ Q (.int ys.length) H
theorem c_len {X : Cx} : CallR X (.builtin "len") (rLn X.K) := call_len_seq
theorem x_lenL {K : PySem.W.Frag} {H : Hp} {Q : VK} {a : Addr} {xs : List V} (h : SqL K H a xs) (k : Q (.int xs.length) H) : rLn K [.ref a] H Q := ⟨a, xs, rfl, .inl h, k⟩
theorem x_lenT {K : PySem.W.Frag} {H : Hp} {Q : VK} {a : Addr} {xs : List V} (h : SqT K H a xs) (k : Q (.int xs.length) H) : rLn K [.ref a] H Q := ⟨a, xs, rfl, .inr h, k⟩
def rLnS : List V → Hp → VK → Prop := fun xs H Q => ∃ z, xs = [.str z] ∧ z.length ≤ sizeLine ∧ Q (.int z.length) H
theorem c_lenS {X : Cx} : CallR X (.builtin "len") rLnS := call_len_str
theorem x_lenS {H : Hp} {Q : VK} {z : Str} (h : z.length ≤ sizeLine) (k : Q (.int z.length) H) : rLnS [.str z] H Q := ⟨z, rfl, h, k⟩
def rMx : List V → Hp → VK → Prop := fun xs H Q => ∃ i j, xs = [.int i, .int j] ∧ Q (.int (if j > i then j else i)) H
def rMn : List V → Hp → VK → Prop := fun xs H Q => ∃ i j, xs = [.int i, .int j] ∧ Q (.int (if j < i then j else i)) H
theorem c_max {X : Cx} (hc : X.calm = true) : CallR X (.builtin "max") rMx := call_max2 hc
theorem c_min {X : Cx} (hc : X.calm = true) : CallR X (.builtin "min") rMn := call_min2 hc
theorem x_max {H : Hp} {Q : VK} {i j : Int} (k : Q (.int (max i j)) H) : rMx [.int i, .int j] H Q := ⟨i, j, rfl, by
  have e : (if j > i then j else i) = max i j := by omega
  rw [e]; exact k⟩
theorem x_min {H : Hp} {Q : VK} {i j : Int} (k : Q (.int (min i j)) H) : rMn [.int i, .int j] H Q := ⟨i, j, rfl, by
  have e : (if j < i then j else i) = min i j := by omega
  rw [e]; exact k⟩
def rTpl (K : PySem.W.Frag) : List V → Hp → VK → Prop := fun xs H Q => ∃ p ys, xs = [.ref p] ∧ ((SqL K H p ys ∧ ∀ l, H l = none → Q (.ref l) (upd H l (.tup ys))) ∨ (SqT K H p ys ∧ Q (.ref p) H))
theorem c_tuple {X : Cx} : CallR X (.type "tuple") (rTpl X.K) := call_tuple_of
theorem x_tplL {K : PySem.W.Frag} {H : Hp} {Q : VK} {a : Addr} {xs : List V} (h : SqL K H a xs) (k : ∀ l, H l = none → Q (.ref l) (upd H l (.tup xs))) : rTpl K [.ref a] H Q := ⟨a, xs, rfl, .inl ⟨h, k⟩⟩
def rLsO (K : PySem.W.Frag) : List V → Hp → VK → Prop := fun xs H Q => ∃ p ys, xs = [.ref p] ∧ (SqL K H p ys ∨ SqT K H p ys) ∧ ∀ l, H l = none → Q (.ref l) (upd H l (.lst ys))
theorem c_list {X : Cx} : CallR X (.type "list") (rLsO X.K) := call_list_of
def rOrd : List V → Hp → VK → Prop := fun xs H Q => ∃ x, xs = [.str x] ∧ x.length = 1 ∧ Q (.int (x.cps.getD 0 0 : Nat)) H
theorem c_ord {X : Cx} : CallR X (.builtin "ord") rOrd := call_ord
def rInt1 : List V → Hp → VK → Prop := fun xs H Q => (∃ i, xs = [.int i] ∧ Q (.int i) H) ∨ ∃ k, xs = [.bl k] ∧ Q (.int (if k then 1 else 0)) H
theorem c_int {X : Cx} : CallR X (.type "int") rInt1 := call_int1
theorem atI_get {α : Type} {xs : List α} {i : Int} {v : α} (h0 : 0 ≤ i) (h : xs[i.toNat]? = some v) : atI xs i = some v := by
  have hl : i.toNat < xs.length := (List.getElem?_eq_some_iff.mp h).1
  unfold atI ixN
  rw [if_pos h0, if_pos (by omega)]
  exact h
end Ws

set_option Elab.async false
set_option linter.all false
set_option maxRecDepth 100000
set_option maxHeartbeats 4000000
namespace Ws
open PySem PySem.Spec PyProof.Rows L2 HotX LamX
/-! ### a word between a statement and the rest -/
def tMid (t u : TS) : TS := fun D σ H => ∃ Mid : L2.St → Hp → Prop, t { D with nx := Mid } σ H ∧ ∀ σ' H', Mid σ' H' → u D σ' H'
theorem pss_mid {X : Cx} {st : Stmt} {rest : List Stmt} {t u : TS} (h1 : PS X st t) (h2 : PSs X rest u) : PSs X (st :: rest) (tMid t u) := by
  refine ⟨fun pins s σ H D I h => ?_⟩
  obtain ⟨Mid, hm, hu⟩ := h
  refine wpAny_execs_cons (thn (h1.run pins s σ H { D with nx := Mid } I hm) fun f s1 q => ?_)
  cases f with
  | next =>
    obtain ⟨σ', H', I', q⟩ := q
    exact h2.run pins s1 σ' H' D I' (hu σ' H' q)
  | ret v => exact q
  | brk => exact q
  | cont => exact q
theorem x_mid {t u : TS} {D : Ends} {σ : L2.St} {H : Hp} (Mid : L2.St → Hp → Prop) (h1 : t { D with nx := Mid } σ H) (h2 : ∀ σ' H', Mid σ' H' → u D σ' H') : tMid t u D σ H := ⟨Mid, h1, h2⟩
/-! ### what stays through the law: the script, the tables of code objects -/
def ScU (K : PySem.W.Frag) (a : Addr) (xs : List V) (u : Option HO) : Prop := (∃ v, u = some v ∧ (v = .lst xs ∨ ∃ o, v = .frz o (.lst xs))) ∨ ∀ H, SqL K H a xs
structure Sv (a : Addr) (u : Option HO) (Tb : List (Addr × Str)) (H : Hp) : Prop where
  keep : ∀ v, u = some v → H a = some v
  tabs : Tabs Tb H
theorem scU_of {K : PySem.W.Frag} {H : Hp} {a : Addr} {xs : List V} (h : SqL K H a xs) : ∃ u, ScU K a xs u ∧ (∀ v, u = some v → H a = some v) := by
  rcases h with (h | ⟨o, h⟩) | h
  · exact ⟨some (.lst xs), .inl ⟨_, rfl, .inl rfl⟩, fun v e => by cases e; exact h⟩
  · exact ⟨some (.frz o (.lst xs)), .inl ⟨_, rfl, .inr ⟨o, rfl⟩⟩, fun v e => by cases e; exact h⟩
  · exact ⟨none, .inr fun _ => .inr h, fun v e => nomatch e⟩
section
variable {K : PySem.W.Frag} {a : Addr} {xs : List V} {u : Option HO} {Tb : List (Addr × Str)} {H H' : Hp}
theorem Sv.seq (S : Sv a u Tb H) (h : ScU K a xs u) : SqL K H a xs := by
  rcases h with ⟨v, e, rfl | ⟨o, rfl⟩⟩ | h
  · exact .inl (.inl (S.keep _ e))
  · exact .inl (.inr ⟨o, S.keep _ e⟩)
  · exact h H
theorem ScU.ntbl {v : HO} (h : ScU K a xs u) (e : u = some v) (hk : ¬ ∀ H, SqL K H a xs) : ∀ ps, v ≠ .tbl ps := by
  rcases h with ⟨v', e', rfl | ⟨o, rfl⟩⟩ | h
  · rw [e'] at e; cases e; exact fun ps z => nomatch z
  · rw [e'] at e; cases e; exact fun ps z => nomatch z
  · exact absurd h hk
def NoT (u : Option HO) : Prop := ∀ v, u = some v → ∀ ps, v ≠ .tbl ps
theorem Sv.ext (S : Sv a u Tb H) (n : NoT u) (e : ExtN H H') (t : Tabs Tb H') : Sv a u Tb H' := ⟨fun v q => e _ _ (S.keep v q) (n v q), t⟩
theorem Sv.same (S : Sv a u Tb H) (e : Same H H') : Sv a u Tb H' := ⟨fun v q => e _ _ (S.keep v q), S.tabs.ext e⟩
theorem Sv.apart (S : Sv a u Tb H) {p : Addr} (h : H p = none) : ∀ v, u = some v → a ≠ p := fun v q => ne_of_none (S.keep v q) h
/-- an object that may be written -/
def Wr : HO → Bool
  | .lst _ => true | .dK _ => true | .ins _ _ _ => true | _ => false
theorem Sv.mut (S : Sv a u Tb H) {p : Addr} {o o' : HO} (h : H p = some o) (hw : Wr o = true) (n : ∀ v, u = some v → a ≠ p) : Sv a u Tb (upd H p o') := by
  refine ⟨fun v q => by rw [upd_ne (n v q)]; exact S.keep v q, fun t ht => ?_⟩
  obtain ⟨ps, h1, h2, h3⟩ := S.tabs t ht
  refine ⟨ps, by rw [upd_ne (ne_of h1 h (by intro z; rw [← z] at hw; cases hw))]; exact h1, h2, fun pos cv hc => ?_⟩
  obtain ⟨c, e1, e2⟩ := h3 pos cv hc
  refine ⟨c, e1, ?_⟩
  rw [upd_ne (ne_of e2 h (by intro z; rw [← z] at hw; cases hw))]
  exact e2
end
theorem scU_noT {K : PySem.W.Frag} {H : Hp} {a : Addr} {xs : List V} (h : SqL K H a xs) : ∃ u, ScU K a xs u ∧ NoT u ∧ (∀ v, u = some v → H a = some v) := by
  rcases h with (h | ⟨o, h⟩) | h
  · exact ⟨some (.lst xs), .inl ⟨_, rfl, .inl rfl⟩, (fun v e ps z => by cases e; cases z), fun v e => by cases e; exact h⟩
  · exact ⟨some (.frz o (.lst xs)), .inl ⟨_, rfl, .inr ⟨o, rfl⟩⟩, (fun v e ps z => by cases e; cases z), fun v e => by cases e; exact h⟩
  · exact ⟨none, .inr fun _ => .inr h, (fun v e => nomatch e), (fun v e => nomatch e)⟩
abbrev qL (x : Str) : Str := x ++ ".<locals>." ++ "<lambda>"
/-- a def that makes lambdas: where its code object stands -/
structure LamAt (K : PySem.W.Frag) (mg : Str → Option Value) (x : Str) (st : Stmt) (cc : Addr) : Prop where
  ex : ∃ (f : Addr) (oc : Value) (od : Option Addr) (kV doc pm : Value) (an : Option Addr) (ct : Value) (osl : Array (Option Value)),
    K.lookup f = some ⟨oc, od, .func (PySem.W.fnOf x x (defArgs st) (defBody st) (defScope st) .none kV doc pm an (.ref cc) ct), osl⟩ ∧ PySem.W.codeIn K (.ref cc) x = true ∧ PySem.W.keepIn K (.ref f) = true ∧ mg x = some (.ref f)
theorem x_lam {T : List (Addr × Str)} {TT : (XK → Hp → VK → Prop) → Hp → VK → Prop} {t : XK → TE} {σ : L2.St} {H : Hp} {Q : VK} (h1 : Tabs T H) (h2 : ∀ H1, ExtN H H1 → Tabs T H1 → TT (fun E H' Q' => t E σ H' Q') H1 Q) : tLam T TT t σ H Q := ⟨h1, h2⟩
theorem x_rep {l : Addr} {xs : List V} {k : Int} {H : Hp} {Q : VK} (h : H l = some (.lst xs)) (k0 : 0 ≤ k) (k1 : k < 1000) (hz : xs.length * k.toNat ≤ sizeLine) (q : ∀ p, H p = none → Q (.ref p) (upd H p (.lst (List.replicate k.toNat xs).flatten))) : rRep (.ref l) (.int k) H Q := ⟨l, k, xs, rfl, rfl, h, by omega, by omega, hz, q⟩
theorem okL {P : Program} {w : World} {K : PySem.W.Frag} {mg : Str → Option Value} {base : Heap} {x : Str} {st : Stmt} {f cc : Addr} {N ps : List Str} {k : Nat} {sp : Sp} {oc : Value} {od an : Option Addr} {osl : Array (Option Value)} {kV doc pm ct : Value}
    (lk : K.lookup f = some ⟨oc, od, .func (PySem.W.fnOf x x (defArgs st) (defBody st) (defScope st) .none kV doc pm an (.ref cc) ct), osl⟩) (hcd : PySem.W.codeIn K (.ref cc) x = true) (S : FnScope N ps (defScope st)) (len : ∀ vs H Q E, sp vs H Q E → vs.length = ps.length)
    (hbody : ∀ (A : Around) (outer : List Env) (s : Shared) (H : Hp) (vs : List V) (Q : VK) (E : XK), Room k (A.deeper (envOfC x (defScope st) s.heap.objs.size f (.ref cc))) → sp vs H Q E →
      ∃ t, PSs (cxOf (L2N.CX P w) P w K mg base N x (defScope st) f (.ref cc) A outer s H E) (defBody st) t ∧ t { nx := fun _ H' => Q .non H', rt := Q } (L2.start N vs) H) :
    FnOk P w K mg base (L2N.CX P w) (k + 1) f (PySem.W.fnOf x x (defArgs st) (defBody st) (defScope st) .none kV doc pm an (.ref cc) ct) ps sp := fn_of lk hcd S len hbody
/-! ### loops -/
def rForR (g : TG) (tb : TS) (D : Ends) (σ : L2.St) (vs : List V) (H : Hp) : Prop := ∃ j : Int, vs = [.int j] ∧ -(2 ^ 62) ≤ j ∧ j < 2 ^ 62 ∧ ∃ W : Nat → Nat → L2.St → Hp → Prop, (∃ m, W 0 m σ H) ∧ ∀ i m σ H, W i m σ H →
  ((Itr 0 j.toNat).stop i H ∧ D.nx σ H) ∨ ((Itr 0 j.toNat).go i H ∧ ∃ N : L2.St → Hp → Prop, (∀ σ' H', N σ' H' → ∃ m', m' < m ∧ W (i + 1) m' σ' H') ∧ ∀ x H', (Itr 0 j.toNat).yld i H x H' → g x σ H' fun σ2 H2 => tb { D with nx := N, ct := N, bk := D.nx } σ2 H2)
def rForL (K : PySem.W.Frag) (g : TG) (tb : TS) (D : Ends) (σ : L2.St) (x : V) (H : Hp) : Prop := ∃ a, x = .ref a ∧ (∃ xs, SqL K H a xs) ∧ ∃ W : Nat → Nat → L2.St → Hp → Prop, (∃ m, W 0 m σ H) ∧ ∀ i m σ H, W i m σ H →
  ((Itl K a).stop i H ∧ D.nx σ H) ∨ ((Itl K a).go i H ∧ ∃ N : L2.St → Hp → Prop, (∀ σ' H', N σ' H' → ∃ m', m' < m ∧ W (i + 1) m' σ' H') ∧ ∀ x H', (Itl K a).yld i H x H' → g x σ H' fun σ2 H2 => tb { D with nx := N, ct := N, bk := D.nx } σ2 H2)
section
variable {K : PySem.W.Frag} {g : TG} {tb : TS} {D : Ends} {σ : L2.St} {H : Hp}
theorem x_forR {ta : TA} (k : ta σ H fun vs H1 => rForR g tb D σ vs H1) : tFor (iRng1 ta) g tb D σ H := k
theorem x_rforR {j : Int} (n : Nat) (e : j = n) (hn : n < 2 ^ 62) (Pv : Nat → L2.St → Hp → Prop) (h0 : Pv 0 σ H)
    (hs : ∀ (i : Nat) σ H, i < n → Pv i σ H → g (.int i) σ H fun σ2 H2 => tb { D with nx := Pv (i + 1), ct := Pv (i + 1), bk := D.nx } σ2 H2) (hd : ∀ σ H, Pv n σ H → D.nx σ H) : rForR g tb D σ [.int j] H := by
  subst e
  refine ⟨_, rfl, by omega, by omega, ?_⟩
  rw [Int.toNat_natCast]
  exact for_range Pv h0 (fun i σ H hi p => by rw [Int.zero_add]; exact hs i σ H hi p) hd
theorem x_forL {tl : TE} (k : tl σ H fun x H1 => rForL K g tb D σ x H1) : tFor (iList K tl) g tb D σ H := k
theorem x_rforL {a : Addr} (xs : List V) (Pv : Nat → L2.St → Hp → Prop) (h0 : Pv 0 σ H) (hl : ∀ i σ H, Pv i σ H → SqL K H a xs)
    (hs : ∀ i x σ H, xs[i]? = some x → Pv i σ H → g x σ H fun σ2 H2 => tb { D with nx := Pv (i + 1), ct := Pv (i + 1), bk := D.nx } σ2 H2) (hd : ∀ σ H, Pv xs.length σ H → D.nx σ H) : rForL K g tb D σ (.ref a) H :=
  ⟨a, rfl, ⟨xs, hl 0 _ _ h0⟩, for_list Pv h0 (fun i σ H _ p => hl i σ H p) hs hd⟩
end
theorem pickI (ls : List Int) (i : Int) (h0 : 0 ≤ i) (h1 : i < ls.length) : ∃ z ∈ ls, atI (ls.map V.int) i = some (.int z) := by
  have hlt : i.toNat < ls.length := by omega
  exact ⟨ls[i.toNat], List.getElem_mem hlt, atI_get h0 (by rw [List.getElem?_map, List.getElem?_eq_getElem hlt]; rfl)⟩
theorem szle {n : Nat} (h : n ≤ 100000) : n ≤ sizeLine := Nat.le_trans h (by decide)
theorem szlt {n : Nat} (h : n ≤ 100000) : n < sizeLine := Nat.lt_of_le_of_lt h (by decide)
theorem made_same {H : Hp} {x dx : Addr} {o : HO} (nx : H x = none) (nd : H dx = none) (ne : dx ≠ x) : Same H (upd (upd H dx (.own x)) x o) := fun b u e => by
  rw [upd_ne (ne_of_none e nx), upd_ne (ne_of_none e nd)]
  exact e
theorem not_t {A B : Prop} (k : B) : if (!true) = true then A else B := x_F k
theorem not_f {A B : Prop} (k : A) : if (!false) = true then A else B := x_T k
end Ws

set_option Elab.async false
set_option linter.all false
set_option maxRecDepth 100000
set_option maxHeartbeats 4000000
namespace Ws
open PySem PySem.Spec PyProof.Rows L2 HotX LamX
/-! ### targets of several names -/
section
variable {K : PySem.W.Frag} {σ : L2.St} {H : Hp} {R : L2.St → Hp → Prop} {t : TG} {u : TGs}
theorem x_gnil (k : R σ H) : gNil [] σ H R := ⟨rfl, k⟩
theorem x_gcons {v : V} {r : List V} (k : t v σ H fun σ' H' => u r σ' H' R) : gCons t u (v :: r) σ H R := ⟨v, r, rfl, k⟩
theorem x_gtup {n : Nat} {a : Addr} {xs : List V} (h : SqT K H a xs) (hn : xs.length = n) (k : u xs σ H R) : gTup K n u (.ref a) σ H R := ⟨a, xs, rfl, h, hn, k⟩
end
/-! ### for over enumerate(list) -/
def rForE (K : PySem.W.Frag) (g : TG) (tb : TS) (D : Ends) (σ : L2.St) (vs : List V) (H : Hp) : Prop := ∃ a xs, vs = [.ref a] ∧ SqL K H a xs ∧ ∃ W : Nat → Nat → L2.St → Hp → Prop, (∃ m, W 0 m σ H) ∧ ∀ i m σ H, W i m σ H →
  ((Ite K a).stop i H ∧ D.nx σ H) ∨ ((Ite K a).go i H ∧ ∃ N : L2.St → Hp → Prop, (∀ σ' H', N σ' H' → ∃ m', m' < m ∧ W (i + 1) m' σ' H') ∧ ∀ x H', (Ite K a).yld i H x H' → g x σ H' fun σ2 H2 => tb { D with nx := N, ct := N, bk := D.nx } σ2 H2)
section
variable {K : PySem.W.Frag} {g : TG} {tb : TS} {D : Ends} {σ : L2.St} {H : Hp}
theorem x_forE {ta : TA} (k : ta σ H fun vs H1 => rForE K g tb D σ vs H1) : tFor (iEnum K ta) g tb D σ H := k
theorem x_rforE {a : Addr} (xs : List V) (Pv : Nat → L2.St → Hp → Prop) (h0 : Pv 0 σ H) (hl : ∀ i σ H, Pv i σ H → SqL K H a xs)
    (hs : ∀ (i : Nat) x σ H T, xs[i]? = some x → Pv i σ H → H T = none → g (.ref T) σ (upd H T (.tup [.int i, x])) fun σ2 H2 => tb { D with nx := Pv (i + 1), ct := Pv (i + 1), bk := D.nx } σ2 H2) (hd : ∀ σ H, Pv xs.length σ H → D.nx σ H) : rForE K g tb D σ [.ref a] H := by
  refine ⟨a, xs, rfl, hl 0 _ _ h0, fun i m σ H => m = xs.length - i ∧ i ≤ xs.length ∧ Pv i σ H, ⟨xs.length, by simp, Nat.zero_le _, h0⟩, ?_⟩
  rintro i m σ H ⟨rfl, hi, p⟩
  have q := hl i σ H p
  by_cases hlt : i < xs.length
  · refine .inr ⟨⟨xs, xs[i], q, by simp [hlt]⟩, Pv (i + 1), fun σ' H' p' => ⟨xs.length - (i + 1), by omega, rfl, hlt, p'⟩, fun v H' y => ?_⟩
    obtain ⟨T, x, rfl, hT, rfl, hx⟩ := y
    exact hs i x σ H T (hx xs q) p hT
  · have e : i = xs.length := by omega
    subst e
    exact .inl ⟨⟨xs, q, Nat.le_refl _⟩, hd σ H p⟩
end
/-! ### comprehensions over a list, over a range -/
def LcOut (J : It) (g : TG) (tt : TT) (te : TE) (vs : List Nat) (σ : L2.St) (H1 : Hp) (Q : VK) : Prop := ∀ D, H1 D = none → ∃ W : Nat → Nat → Hp → Prop, (∃ m, W 0 m (upd H1 D (.lst []))) ∧ ∀ i m H, W i m H →
  (J.stop i H ∧ Q (.ref D) H) ∨ (J.go i H ∧ ∃ Nx : Hp → Prop, (∀ H', Nx H' → ∃ m', m' < m ∧ W (i + 1) m' H') ∧ ∀ x H', J.yld i H x H' → g x (wipe σ vs) H' fun σ2 H2 => wipe σ2 vs = wipe σ vs ∧ tt σ2 H2 fun b H3 =>
    if b = true then te σ2 H3 fun y H4 => ∃ acc, H4 D = some (.lst acc) ∧ acc.length < sizeLine ∧ Nx (upd H4 D (.lst (acc ++ [y]))) else Nx H3)
def rLcL (K : PySem.W.Frag) (g : TG) (tt : TT) (te : TE) (vs : List Nat) (σ : L2.St) (x : V) (H : Hp) (Q : VK) : Prop := ∃ a, x = .ref a ∧ (∃ xs, SqL K H a xs) ∧ LcOut (Itl K a) g tt te vs σ H Q
def rLcR (g : TG) (tt : TT) (te : TE) (vs : List Nat) (σ : L2.St) (xs : List V) (H : Hp) (Q : VK) : Prop := ∃ j : Int, xs = [.int j] ∧ -(2 ^ 62) ≤ j ∧ j < 2 ^ 62 ∧ LcOut (Itr 0 j.toNat) g tt te vs σ H Q
section
variable {K : PySem.W.Frag} {g : TG} {tt : TT} {te : TE} {vs : List Nat} {σ : L2.St} {H : Hp} {Q : VK}
theorem x_lcL {tl : TE} (k : tl σ H fun x H1 => rLcL K g tt te vs σ x H1 Q) : tLc (iList K tl) g tt te vs σ H Q := k
theorem x_lcR {ta : TA} (k : ta σ H fun xs H1 => rLcR g tt te vs σ xs H1 Q) : tLc (iRng1 ta) g tt te vs σ H Q := k
end
/-- all but the lists stay -/
def SameT (H H' : Hp) : Prop := ∀ b o, H b = some o → (∀ xs, o ≠ .lst xs) → H' b = some o
theorem same_t {H H' : Hp} (s : Same H H') : SameT H H' := fun b o e _ => s b o e
theorem sameT_upd {H : Hp} {D : Addr} {acc : List V} {o : HO} (h : H D = some (.lst acc)) : SameT H (upd H D o) := fun b u e n => by
  rw [upd_ne (ne_of e h (n acc))]
  exact e
/-- a comprehension's state at the turn i: the list at D holds acc -/
structure LcI (H : Hp) (R : Nat → List V → Hp → Prop) (D : Addr) (i : Nat) (acc : List V) (H1 : Hp) : Prop where
  new : H D = none
  same : Same H H1
  at_ : H1 D = some (.lst acc)
  len : acc.length ≤ i
  r : R i acc H1
def LcY (H : Hp) (R : Nat → List V → Hp → Prop) (D : Addr) (i : Nat) (y : V) (H4 : Hp) : Prop := ∃ acc, H4 D = some (.lst acc) ∧ acc.length < sizeLine ∧ ∃ acc', LcI H R D (i + 1) acc' (upd H4 D (.lst (acc ++ [y])))
def LcN (H : Hp) (R : Nat → List V → Hp → Prop) (D : Addr) (i : Nat) (H3 : Hp) : Prop := ∃ acc, LcI H R D (i + 1) acc H3
section
variable {K : PySem.W.Frag} {H H1 H4 : Hp} {R : Nat → List V → Hp → Prop} {D : Addr} {i : Nat} {acc : List V} {y : V}
theorem LcI.add (I : LcI H R D i acc H1) (hR : ∀ i acc H1 H2, SameT H1 H2 → R i acc H1 → R i acc H2) (hz : i < sizeLine) (s : Same H1 H4) (r : R (i + 1) (acc ++ [y]) H4) : LcY H R D i y H4 := by
  have h4 := s _ _ I.at_
  refine ⟨acc, h4, Nat.lt_of_le_of_lt I.len hz, acc ++ [y], I.new, fun b o e => ?_, upd_same, by rw [List.length_append]; exact Nat.succ_le_succ I.len, hR _ _ _ _ (sameT_upd h4) r⟩
  rw [upd_ne (ne_of_none e I.new)]
  exact s _ _ (I.same _ _ e)
theorem LcI.skip (I : LcI H R D i acc H1) (s : Same H1 H4) (r : R (i + 1) acc H4) : LcN H R D i H4 := ⟨acc, I.new, I.same.trans s, s _ _ I.at_, Nat.le_succ_of_le I.len, r⟩
variable {g : TG} {tt : TT} {te : TE} {vs : List Nat} {σ : L2.St} {Q : VK}
theorem x_rlcL {a : Addr} {xs : List V} (hS : SqL K H a xs) (R : Nat → List V → Hp → Prop) (h0 : ∀ H1, SameT H H1 → R 0 [] H1)
    (hs : ∀ D i x acc H1, xs[i]? = some x → LcI H R D i acc H1 → g x (wipe σ vs) H1 fun σ2 H2 => wipe σ2 vs = wipe σ vs ∧ tt σ2 H2 fun b H3 => if b = true then te σ2 H3 fun y H4 => LcY H R D i y H4 else LcN H R D i H3)
    (hd : ∀ p H1 acc, H p = none → Same H H1 → H1 p = some (.lst acc) → R xs.length acc H1 → Q (.ref p) H1) : rLcL K g tt te vs σ (.ref a) H Q := by
  refine ⟨a, rfl, ⟨xs, hS⟩, fun D hD => lc_list (xs := xs) (fun i H1 => ∃ acc, LcI H R D i acc H1) ⟨[], hD, same_upd hD, upd_same, Nat.le_refl _, h0 _ (same_t (same_upd hD))⟩ (fun i H1 _ ⟨acc, I⟩ => I.same.seq hS) (fun i x H1 hx ⟨acc, I⟩ => hs D i x acc H1 hx I) fun H1 ⟨acc, I⟩ => hd D H1 acc I.new I.same I.at_ I.r⟩
theorem x_rlcR {j : Int} (n : Nat) (e : j = n) (hn : n < 2 ^ 62) (R : Nat → List V → Hp → Prop) (h0 : ∀ H1, SameT H H1 → R 0 [] H1)
    (hs : ∀ D (i : Nat) acc H1, i < n → LcI H R D i acc H1 → g (.int i) (wipe σ vs) H1 fun σ2 H2 => wipe σ2 vs = wipe σ vs ∧ tt σ2 H2 fun b H3 => if b = true then te σ2 H3 fun y H4 => LcY H R D i y H4 else LcN H R D i H3)
    (hd : ∀ p H1 acc, H p = none → Same H H1 → H1 p = some (.lst acc) → R n acc H1 → Q (.ref p) H1) : rLcR g tt te vs σ [.int j] H Q := by
  subst e
  refine ⟨_, rfl, by omega, by omega, fun D hD => ?_⟩
  rw [Int.toNat_natCast]
  refine ⟨fun i m H1 => m = n - i ∧ i ≤ n ∧ ∃ acc, LcI H R D i acc H1, ⟨n, by simp, Nat.zero_le _, [], hD, same_upd hD, upd_same, Nat.le_refl _, h0 _ (same_t (same_upd hD))⟩, ?_⟩
  rintro i m H1 ⟨rfl, hi, acc, I⟩
  by_cases hlt : i < n
  · refine .inr ⟨hlt, LcN H R D i, fun H' ⟨acc', I'⟩ => ⟨n - (i + 1), by omega, rfl, hlt, acc', I'⟩, fun x H' y => ?_⟩
    obtain ⟨rfl, rfl⟩ := y
    rw [Int.zero_add]
    exact hs D i acc _ hlt I
  · have e : i = n := by omega
    subst e
    exact .inl ⟨Nat.le_refl _, hd D H1 acc I.new I.same I.at_ I.r⟩
theorem x_yes {R : Bool → Hp → Prop} (k : R true H) : tYes σ H R := k
theorem x_and {A B : Prop} (a : A) (b : B) : A ∧ B := ⟨a, b⟩
/-! ### slices -/
theorem x_slL {a : Addr} {xs : List V} {lo hi : Option Int} (h : SqL K H a xs) (k : ∀ p, H p = none → Q (.ref p) (upd H p (.lst (cutV xs lo hi)))) : rSlL K (.ref a) lo hi H Q := ⟨a, xs, rfl, h, k⟩
theorem cut_to (xs : List V) {i : Int} (h : 0 ≤ i) : cutV xs none (some i) = xs.take i.toNat := by
  obtain ⟨n, rfl⟩ := Int.eq_ofNat_of_zero_le h
  unfold cutV
  rw [HT.sIx_none, HT.sIx_nat, List.drop_zero, Nat.sub_zero, Int.toNat_natCast]
  by_cases hn : n ≤ xs.length
  · rw [Nat.min_eq_left hn]
  · rw [Nat.min_eq_right (by omega), List.take_of_length_le (Nat.le_refl _), List.take_of_length_le (by omega)]
theorem cut_from (xs : List V) {i : Int} (h : 0 ≤ i) : cutV xs (some i) none = xs.drop i.toNat := by
  obtain ⟨n, rfl⟩ := Int.eq_ofNat_of_zero_le h
  unfold cutV
  rw [HT.sIx_none, HT.sIx_nat, Int.toNat_natCast]
  rw [List.take_of_length_le (by rw [List.length_drop]; omega)]
  by_cases hn : n ≤ xs.length
  · rw [Nat.min_eq_left hn]
  · rw [Nat.min_eq_right (by omega), List.drop_of_length_le (Nat.le_refl _), List.drop_of_length_le (by omega)]
theorem cut_mid (xs : List V) {i j : Int} (h : 0 ≤ i) (h2 : i ≤ j) : cutV xs (some i) (some j) = (xs.drop i.toNat).take (j - i).toNat := by
  obtain ⟨n, rfl⟩ := Int.eq_ofNat_of_zero_le h
  obtain ⟨m, rfl⟩ := Int.eq_ofNat_of_zero_le (Int.le_trans h h2)
  unfold cutV
  rw [HT.sIx_nat, HT.sIx_nat, Int.toNat_natCast]
  have e : ((m : Int) - (n : Int)).toNat = m - n := by omega
  rw [e]
  by_cases hn : n ≤ xs.length
  · rw [Nat.min_eq_left hn]
    by_cases hm : m ≤ xs.length
    · rw [Nat.min_eq_left hm]
    · rw [Nat.min_eq_right (by omega), List.take_of_length_le (by rw [List.length_drop]; omega), List.take_of_length_le (by rw [List.length_drop]; omega)]
  · rw [List.drop_of_length_le (i := n) (by omega), List.drop_of_length_le (by omega)]
    simp
def rRevL (K : PySem.W.Frag) : V → Hp → VK → Prop := fun x H Q => ∃ a xs, x = .ref a ∧ SqL K H a xs ∧ ∀ p, H p = none → Q (.ref p) (upd H p (.lst xs.reverse))
theorem x_revL {ta : TE} (k : ta σ H fun x H1 => rRevL K x H1 Q) : tRevL K ta σ H Q := k
theorem x_rrevL {a : Addr} {xs : List V} (h : SqL K H a xs) (k : ∀ p, H p = none → Q (.ref p) (upd H p (.lst xs.reverse))) : rRevL K (.ref a) H Q := ⟨a, xs, rfl, h, k⟩
def rIsNt : R2 := fun x y H Q => y = .non ∧ Q (.bl (!decide (x = .non))) H
theorem o_notN {X : Cx} : OpR X (compareOp .IsNot) rIsNt := op_notN
theorem x_notN {x : V} (k : Q (.bl (!decide (x = .non))) H) : rIsNt x .non H Q := ⟨rfl, k⟩
def rIsNo : R2 := fun x y H Q => y = .non ∧ Q (.bl (decide (x = .non))) H
theorem o_isN {X : Cx} : OpR X (compareOp .Is) rIsNo := op_isN
theorem x_isN {x : V} (k : Q (.bl (decide (x = .non))) H) : rIsNo x .non H Q := ⟨rfl, k⟩
theorem x_all {a : Addr} {bs : List Bool} (h : SqL K H a (bs.map V.bl)) (k : Q (.bl (bs.all id)) H) : rAll K [.ref a] H Q := ⟨a, bs, rfl, h, k⟩
theorem x_any {a : Addr} {bs : List Bool} (h : SqL K H a (bs.map V.bl)) (k : Q (.bl (bs.any id)) H) : rAny K [.ref a] H Q := ⟨a, bs, rfl, h, k⟩
end
theorem pickV (xs : List V) (i : Int) (h0 : 0 ≤ i) (h1 : i < xs.length) : ∃ v ∈ xs, atI xs i = some v := by
  have hlt : i.toNat < xs.length := by omega
  exact ⟨xs[i.toNat], List.getElem_mem hlt, atI_get h0 (List.getElem?_eq_getElem hlt)⟩
theorem take_snoc {α : Type} {xs : List α} {i : Nat} {x : α} (h : xs[i]? = some x) : xs.take (i + 1) = xs.take i ++ [x] := by
  obtain ⟨hlt, e⟩ := List.getElem?_eq_some_iff.mp h
  rw [List.take_add_one, h]
  rfl
end Ws

set_option Elab.async false
set_option linter.all false
set_option maxRecDepth 100000
set_option maxHeartbeats 4000000
namespace Ws
open PySem PySem.Spec PyProof.Rows L2 HotX LamX
/-! ### the rules, the written part named -/
section
variable {X : Cx} (K : PySem.W.Frag)
theorem kx_list (h : X.K = K := by rfl) : IxR X (rIxL K) := by subst h; exact ix_list
theorem kx_tup (h : X.K = K := by rfl) : IxR X (rIxT K) := by subst h; exact ix_tup
theorem ks_list (h : X.K = K := by rfl) : SlR X (rSlL K) := by subst h; exact sl_list
theorem kc_len (h : X.K = K := by rfl) : CallR X (.builtin "len") (rLn K) := by subst h; exact c_len
theorem kc_sum (hc : X.calm = true) (h : X.K = K := by rfl) : CallR X (.builtin "sum") (rSum K) := by subst h; exact cr_sum hc
theorem kc_all (hc : X.calm = true) (h : X.K = K := by rfl) : CallR X (.builtin "all") (rAll K) := by subst h; exact cr_all hc
theorem kc_any (hc : X.calm = true) (h : X.K = K := by rfl) : CallR X (.builtin "any") (rAny K) := by subst h; exact cr_any hc
theorem kc_tuple (h : X.K = K := by rfl) : CallR X (.type "tuple") (rTpl K) := by subst h; exact c_tuple
theorem kc_list (h : X.K = K := by rfl) : CallR X (.type "list") (rLsO K) := by subst h; exact c_list
theorem kc_isi (h : X.K = K := by rfl) : CallR X (.builtin "isinstance") (rIsi K) := by subst h; exact call_isi
theorem kc_isiT (h : X.K = K := by rfl) : CallR X (.builtin "isinstance") (rIsiT K) := by subst h; exact call_isiT
theorem kc_sorted (h : X.K = K := by rfl) : CallR X (.builtin "sorted") (rSortedI K) := by subst h; exact cr_sortedI
theorem ko_eqD (hu : X.A.units + 64 < cLine) (h : X.K = K := by rfl) : OpR X (compareOp .Eq) (rEqD K) := by subst h; exact op_eqD hu
theorem ko_neD (hu : X.A.units + 64 < cLine) (h : X.K = K := by rfl) : OpR X (compareOp .NotEq) (rNeD K) := by subst h; exact op_neD hu
theorem ko_in (h : X.K = K := by rfl) : OpR X (compareOp .In) (rIn K false) := by subst h; exact op_in_seq
theorem ko_notIn (h : X.K = K := by rfl) : OpR X (compareOp .NotIn) (rIn K true) := by subst h; exact op_notIn_seq
theorem km_index (h : X.K = K := by rfl) : MtR X "list.index" (rIndex K) := by subst h; exact mt_index
theorem k_fld {e : Expr} {f : Str} {pos : Pos} {ta : TE} (he : PE X e ta) (hb : attributeBase e f X.env (eval e X.env) = eval e X.env := by rfl) (h : X.K = K := by rfl) : PE X (.Attribute e f pos) (tFld K ta f) := by subst h; exact pe_fld he hb
theorem k_setf {o value : Expr} {f : Str} {pos pos' : Pos} {ta tv : TE} (ha : PE X o ta) (hv : PE X value tv) (hs : swapsWith value (some (.Attribute o f pos')) pos.line X.env = pure false := by rfl) (h : X.K = K := by rfl) : PS X (.Assign [.Attribute o f pos'] value pos) (sFld K ta tv f) := by subst h; exact ps_fld ha hv hs
theorem ki_list {tg l : Expr} {tl : TE} (hl : PE X l tl) (h : X.K = K := by rfl) : PI X tg l (iList K tl) := by subst h; exact pi_list hl
theorem ki_tup {tg l : Expr} {tl : TE} (hl : PE X l tl) (h : X.K = K := by rfl) : PI X tg l (iTup K tl) := by subst h; exact pi_tup hl
theorem ki_enum {e : Expr} {ta : TA} {p pos tpos : Pos} {elts : List Expr} {kk : Nat} (hm : X.mg "enumerate" = none) (ha : PA X [e] ta) (hg : Gl X "enumerate" := by rfl) (h : X.K = K := by rfl) (hs : starEach [e] X.env = [(false, eval e X.env)] := by rfl) :
    PI X (.Tuple elts kk tpos) (.Call (.Name "enumerate" p) [e] [] pos) (iEnum K ta) := by subst h; exact pi_enum hg hm ha hs
theorem kg_tup {es : List Expr} {k : Nat} {t : TGs} {n : Nat} {pos : Pos} (hc : X.calm = true) (h : PGs X es t) (hK : X.K = K := by rfl) (hn : (assignEach es X.env).length = n := by rfl) (hst : (assignEach es X.env).findIdx? (·.1) = none := by rfl) : PG X (.Tuple es k pos) (gTup K n t) := by subst hK; exact pg_tup hc h hn hst
theorem k_rev {e : Expr} {te : TE} {k : Nat} {p1 p2 p3 pos : Pos} (he : PE X e te) (h : X.K = K := by rfl) : PE X (.Subscript e (.Slice none none (some (.UnaryOp .USub (.Constant (.int 1) k p1) p2)) p3) pos) (tRevL K te) := by subst h; exact pe_revL he
theorem q_range {tg a : Expr} {ta : TA} {p pos : Pos} (hm : X.mg "range" = none) (ha : PA X [a] ta) (hg : Gl X "range" := by rfl) (hs : starEach [a] X.env = [(false, eval a X.env)] := by rfl) : PI X tg (.Call (.Name "range" p) [a] [] pos) (iRng1 ta) := pi_range1 hg hm ha hs
theorem k_bm {T id : String} {name : Str} {r : V → List V → Hp → VK → Prop} {o e : Expr} {es : List Expr} {to : TE} {t : TA} {apos cpos : Pos} (pa : PlainAttrs T) (slot : Slot T name id) (hty : typeOf (.builtin id) = pure (.type "method_descriptor")) (hm : MtR X id r) (ho : PE X o to) (ha : PA X (e :: es) t) (h : X.K = K := by rfl)
    (hbase : attributeBase o name X.env (eval o X.env) = eval o X.env := by rfl)
    (hfew : ((backTo cpos (starEach (e :: es) X.env)).all (fun x => !x.1) && (backToKw cpos (keywordEach [] X.env)).all (fun x => x.1.isSome) && decide ((e :: es).length + ([] : List Keyword).length + (if ([] : List Keyword).isEmpty then 0 else 1) < 30)) = true := by rfl)
    (hline : (apos.endLine == cpos.line) = true := by rfl) (hs : starEach (e :: es) X.env = (false, eval e X.env) :: starEach es X.env := by rfl) (hplain : (backTo cpos (starEach es X.env)).any (·.1) = false := by rfl) :
    PE X (.Call (.Attribute o name apos) (e :: es) [] cpos) (tBM K T r to t) := by subst h; exact pe_bm pa slot hty hm ho ha hbase hfew hline hs hplain
end
end Ws

set_option Elab.async false
set_option linter.all false
set_option maxRecDepth 100000
set_option maxHeartbeats 4000000
namespace Ws
open PySem PySem.Spec PyProof.Rows L2 HotX LamX
/-! ### dicts: their readings step by step -/
section
variable {K : PySem.W.Frag} {w : World} {σ : L2.St} {H : Hp} {Q : VK} {D : Ends}
def rDGet : V → V → Hp → VK → Prop := fun x y H Q => ∃ a v, x = .ref a ∧ DGet H a y (some v) ∧ Q v H
theorem x_dget {td ty : TE} (k : td σ H fun x H1 => ty σ H1 fun y H2 => rDGet x y H2 Q) : tDGet td ty σ H Q := k
theorem x_rdgetS {a : Addr} {kvs : List (Key × V)} {s : Str} {v : V} (h : H a = some (.dK kvs)) (e : valV kvs (Sum.inr s) = some v) (q : Q v H) : rDGet (.ref a) (.str s) H Q := ⟨a, v, rfl, .inl ⟨kvs, .inr s, .inl h, rfl, e.symm⟩, q⟩
theorem x_rdgetI {a : Addr} {kvs : List (Key × V)} {s : Int} {v : V} (h : H a = some (.dK kvs)) (e : valV kvs (Sum.inl s) = some v) (q : Q v H) : rDGet (.ref a) (.int s) H Q := ⟨a, v, rfl, .inl ⟨kvs, .inl s, .inl h, rfl, e.symm⟩, q⟩
def rDPut : V → V → V → Hp → (Hp → Prop) → Prop := fun x y v H R => ∃ a H', x = .ref a ∧ DPut H a y v H' ∧ R H'
theorem x_sdput {td ty tv : TE} (k : tv σ H fun v H1 => td σ H1 fun x H2 => ty σ H2 fun y H3 => rDPut x y v H3 (D.nx σ)) : sDPut td ty tv D σ H := k
theorem x_rdputS {a : Addr} {kvs : List (Key × V)} {s : Str} {v : V} {R : Hp → Prop} (h : H a = some (.dK kvs)) (hz : kvs.length < sizeLine) (q : R (upd H a (.dK (putK kvs (Sum.inr s) v)))) : rDPut (.ref a) (.str s) v H R := ⟨a, _, rfl, .inl ⟨kvs, .inr s, h, rfl, hz, rfl⟩, q⟩
theorem x_rdputI {a : Addr} {kvs : List (Key × V)} {s : Int} {v : V} {R : Hp → Prop} (h : H a = some (.dK kvs)) (hz : kvs.length < sizeLine) (q : R (upd H a (.dK (putK kvs (Sum.inl s) v)))) : rDPut (.ref a) (.int s) v H R := ⟨a, _, rfl, .inl ⟨kvs, .inl s, h, rfl, hz, rfl⟩, q⟩
theorem x_gsub {to ti : TE} {t : TSet} {v : V} {R : L2.St → Hp → Prop} (k : to σ H fun o H1 => ti σ H1 fun i H2 => t o i v H2 fun H3 => R σ H3) : gSub to ti t v σ H R := k
theorem x_setD {x y v : V} {R : Hp → Prop} (k : rDPut x y v H R) : rSetD x y v H R := k
theorem x_disp {trs : List (TE × TE)} (k : ∀ p, H p = none → tPairs trs σ (upd H p (.dK [])) fun ps H2 => H2 p = some (.dK []) ∧ ∃ kvs : List (Key × V), ps = kvs.map (fun kv => (kV kv.1, kv.2)) ∧ kvs.length ≤ 15 ∧ Q (.ref p) (upd H2 p (.dK (mergeK [] kvs)))) : tDisp trs σ H Q := k
theorem x_pcons {tk tv : TE} {r : List (TE × TE)} {R : List (V × V) → Hp → Prop} (k : tk σ H fun x H1 => tv σ H1 fun y H2 => tPairs r σ H2 fun ps H3 => R ((x, y) :: ps) H3) : tPairs ((tk, tv) :: r) σ H R := k
theorem x_pnil {R : List (V × V) → Hp → Prop} (k : R [] H) : tPairs [] σ H R := k
/-! what a dict of the written part holds -/
theorem kx_kd {X : Cx} (K : PySem.W.Frag) (w : World) (h : X.K = K := by rfl) (h' : X.w = w := by rfl) : IxR X (rIxD K w) := by subst h; subst h'; exact ix_kdict
theorem x_ixKD {p : Addr} {z : Str} {v : V} (h : KDct K w p z v) (k : Q v H) : rIxD K w (.ref p) (.str z) H Q := ⟨p, z, v, rfl, rfl, h, k⟩
/-! `in` a tuple or list of texts, of numbers -/
theorem inV_strs (x : Str) (ys : List Str) : inV (.str x) (ys.map V.str) = decide (x ∈ ys) := by
  unfold inV
  induction ys with
  | nil => simp
  | cons y r ih =>
    rw [List.map_cons, List.any_cons, ih]
    show ((y == x) || _) = _
    by_cases e : x = y
    · subst e; simp
    · have e' : ¬ y = x := fun z => e z.symm
      simp [e, e']
theorem inV_ints (x : Int) (ys : List Int) : inV (.int x) (ys.map V.int) = decide (x ∈ ys) := by
  unfold inV
  induction ys with
  | nil => simp
  | cons y r ih =>
    rw [List.map_cons, List.any_cons, ih]
    show ((y == x) || _) = _
    by_cases e : x = y
    · subst e; simp
    · have e' : ¬ y = x := fun z => e z.symm
      simp [e, e']
theorem flat_strs (ys : List Str) : (ys.map V.str).all flatV = true := by rw [List.all_eq_true]; intro v h; obtain ⟨s, _, rfl⟩ := List.mem_map.mp h; rfl
theorem flat_ints (ys : List Int) : (ys.map V.int).all flatV = true := by rw [List.all_eq_true]; intro v h; obtain ⟨s, _, rfl⟩ := List.mem_map.mp h; rfl
theorem x_inTS {p : Addr} (ys : List Str) {x : Str} (h : SqT K H p (ys.map V.str)) (k : Q (.bl (decide (x ∈ ys))) H) : rIn K false (.str x) (.ref p) H Q := ⟨p, _, rfl, .inr h, rfl, flat_strs ys, by rw [inV_strs]; exact k⟩
theorem x_ninTS {p : Addr} (ys : List Str) {x : Str} (h : SqT K H p (ys.map V.str)) (k : Q (.bl (!decide (x ∈ ys))) H) : rIn K true (.str x) (.ref p) H Q := ⟨p, _, rfl, .inr h, rfl, flat_strs ys, by rw [inV_strs]; exact k⟩
theorem x_inLI {p : Addr} (ys : List Int) {x : Int} (h : SqL K H p (ys.map V.int)) (k : Q (.bl (decide (x ∈ ys))) H) : rIn K false (.int x) (.ref p) H Q := ⟨p, _, rfl, .inl h, rfl, flat_ints ys, by rw [inV_ints]; exact k⟩
theorem x_ninLI {p : Addr} (ys : List Int) {x : Int} (h : SqL K H p (ys.map V.int)) (k : Q (.bl (!decide (x ∈ ys))) H) : rIn K true (.int x) (.ref p) H Q := ⟨p, _, rfl, .inl h, rfl, flat_ints ys, by rw [inV_ints]; exact k⟩
theorem x_inTI {p : Addr} (ys : List Int) {x : Int} (h : SqT K H p (ys.map V.int)) (k : Q (.bl (decide (x ∈ ys))) H) : rIn K false (.int x) (.ref p) H Q := ⟨p, _, rfl, .inr h, rfl, flat_ints ys, by rw [inV_ints]; exact k⟩
theorem x_ninTI {p : Addr} (ys : List Int) {x : Int} (h : SqT K H p (ys.map V.int)) (k : Q (.bl (!decide (x ∈ ys))) H) : rIn K true (.int x) (.ref p) H Q := ⟨p, _, rfl, .inr h, rfl, flat_ints ys, by rw [inV_ints]; exact k⟩
theorem ko_catT {X : Cx} (K : PySem.W.Frag) (h : X.K = K := by rfl) : OpR X (binaryOp .Add) (rCatT K) := by subst h; exact op_catT
theorem x_catT {a b : Addr} {xs ys : List V} (h1 : SqT K H a xs) (h2 : SqT K H b ys) (n1 : xs ≠ []) (n2 : ys ≠ []) (hz : xs.length + ys.length ≤ sizeLine) (k : ∀ p, H p = none → Q (.ref p) (upd H p (.tup (xs ++ ys)))) : rCatT K (.ref a) (.ref b) H Q := ⟨a, b, xs, ys, rfl, rfl, h1, h2, n1, hz, fun e => absurd e n2, fun _ => k⟩
end
end Ws

set_option Elab.async false
set_option linter.all false
set_option maxRecDepth 100000
set_option maxHeartbeats 4000000
namespace Ws
open PySem PySem.Spec PyProof.Rows L2 HotX LamX
/-! ### the joining of ways within a test, within an expression -/
def tTMid (t : TT) : TT := fun σ H R => ∃ M : Bool → Hp → Prop, t σ H M ∧ ∀ b H', M b H' → R b H'
theorem pt_mid {X : Cx} {e : Expr} {t : TT} (h : PT X e t) : PT X e (tTMid t) := ⟨fun pins s σ H Q I z => by
  obtain ⟨M, hm, hk⟩ := z
  refine thn (h.run pins s σ H M I hm) fun b s1 q => ?_
  obtain ⟨H', I', q⟩ := q
  exact ⟨H', I', hk b H' q⟩⟩
theorem x_tmid {t : TT} {σ : L2.St} {H : Hp} {R : Bool → Hp → Prop} (M : Bool → Hp → Prop) (h1 : t σ H M) (h2 : ∀ b H', M b H' → R b H') : tTMid t σ H R := ⟨M, h1, h2⟩
def tEMid (t : TE) : TE := fun σ H Q => ∃ M : VK, t σ H M ∧ ∀ v H', M v H' → Q v H'
theorem pe_mid {X : Cx} {e : Expr} {t : TE} (h : PE X e t) : PE X e (tEMid t) := ⟨fun pins s σ H Q I z => by
  obtain ⟨M, hm, hk⟩ := z
  refine thn (h.run pins s σ H M I hm) fun b s1 q => ?_
  obtain ⟨v, H', I', r, q⟩ := q
  exact ⟨v, H', I', r, hk v H' q⟩⟩
theorem x_emid {t : TE} {σ : L2.St} {H : Hp} {Q : VK} (M : VK) (h1 : t σ H M) (h2 : ∀ v H', M v H' → Q v H') : tEMid t σ H Q := ⟨M, h1, h2⟩
theorem x_cont {D : Ends} {σ : L2.St} {H : Hp} (k : D.ct σ H) : tCont D σ H := k
theorem x_popAt {l : Addr} {xs : List V} {i : Int} {k : Nat} {y : V} {H : Hp} {Q : VK} (h : H l = some (.lst xs)) (i0 : -(2 ^ 63) ≤ i) (i1 : i < 2 ^ 63) (e : seqIndex? i xs.length = some k) (hy : xs[k]? = some y) (q : Q y (upd H l (.lst (xs.eraseIdx k)))) : rPopAt (.ref l) [.int i] H Q := ⟨l, xs, i, k, y, rfl, rfl, h, i0, i1, e, hy, q⟩
theorem x_pop {l : Addr} {xs : List V} {y : V} {H : Hp} {Q : VK} (h : H l = some (.lst xs)) (hy : xs[xs.length - 1]? = some y) (q : Q y (upd H l (.lst xs.dropLast))) : rPop (.ref l) [] H Q := ⟨l, xs, y, rfl, rfl, h, hy, q⟩
def rDGet2 : Addr → V → V → Hp → VK → Prop := fun a y z H Q => ∃ o, DGet H a y o ∧ Q (o.getD z) H
theorem x_dget2 {td ty tx : TE} {σ : L2.St} {H : Hp} {Q : VK} (k : td σ H fun x H1 => ∃ a, x = .ref a ∧ IsD H1 a ∧ ty σ H1 fun y H2 => tx σ H2 fun z H3 => rDGet2 a y z H3 Q) : tDGet2 td ty tx σ H Q := k
theorem x_rdget2S {a : Addr} {kvs : List (Key × V)} {s : Str} {z : V} {H : Hp} {Q : VK} (h : H a = some (.dK kvs)) (q : Q ((valV kvs (Sum.inr s)).getD z) H) : rDGet2 a (.str s) z H Q := ⟨_, .inl ⟨kvs, .inr s, .inl h, rfl, rfl⟩, q⟩
theorem tyL {K : PySem.W.Frag} {H : Hp} {a : Addr} {xs : List V} (h : H a = some (.lst xs)) : tyV K "list" (.ref a) H := Or.inl ⟨rfl, _, SqL.of h⟩
end Ws

set_option Elab.async false
set_option linter.all false
set_option maxRecDepth 100000
set_option maxHeartbeats 4000000
namespace Lw
open PySem PySem.Spec PyProof.Rows L2 HotX LamX Ws
local macro_rules | `(tactic| walk_at "sv") => `(tactic| (with_reducible first
  | refine x_v0 ?_ | refine x_v1 ?_ | refine x_v2 ?_ | refine x_v3 ?_ | refine x_v4 ?_ | refine x_v5 ?_ | refine x_v6 ?_ | refine x_v7 ?_ | refine x_v8 ?_ | refine x_v9 ?_ | refine x_v10 ?_ | refine x_v11 ?_ | refine x_v12 ?_ | refine x_v13 ?_ | refine x_v14 ?_ | refine x_v15 ?_ | refine x_v16 ?_ | refine x_v17 ?_ | refine x_v18 ?_ | refine x_v19 ?_ | refine x_v20 ?_ | refine x_v21 ?_ | refine x_v22 ?_ | refine x_v23 ?_ | refine x_v24 ?_ | refine x_v25 ?_ | refine x_v26 ?_ | refine x_v27 ?_))
local macro_rules | `(tactic| walk_at "sn") => `(tactic| (with_reducible first
  | refine x_n0 ?_ | refine x_n1 ?_ | refine x_n2 ?_ | refine x_n3 ?_ | refine x_n4 ?_ | refine x_n5 ?_ | refine x_n6 ?_ | refine x_n7 ?_ | refine x_n8 ?_ | refine x_n9 ?_ | refine x_n10 ?_ | refine x_n11 ?_ | refine x_n12 ?_ | refine x_n13 ?_ | refine x_n14 ?_ | refine x_n15 ?_ | refine x_n16 ?_ | refine x_n17 ?_ | refine x_n18 ?_ | refine x_n19 ?_ | refine x_n20 ?_ | refine x_n21 ?_ | refine x_n22 ?_ | refine x_n23 ?_ | refine x_n24 ?_ | refine x_n25 ?_ | refine x_n26 ?_ | refine x_n27 ?_))
local macro_rules | `(tactic| walk_at "s1") => `(tactic| (first | (with_reducible first
  | refine x_c ?_ | refine x_op ?_ | refine x_un ?_ | refine x_rU ?_ | refine x_rI0 ?_ | refine x_chain ?_ | refine x_ex ?_ | refine x_test ?_ | refine x_tB ?_
  | refine x_tAnd ?_ | refine x_tOr ?_ | refine x_tNot ?_ | refine x_andV ?_ | refine x_orV ?_ | refine x_notV ?_ | refine x_tIf ?_ | refine x_T ?_ | refine x_F ?_ | refine x_seq ?_ | refine x_next ?_ | refine x_asg ?_
  | refine x_ret ?_ | refine x_retN ?_ | refine x_ifS ?_ | refine x_drop ?_ | refine x_nil ?_ | refine x_cons ?_ | refine x_tup ?_ | refine x_lst ?_ | refine x_call ?_ | refine x_cb ?_ | refine x_meth ?_ | refine x_make ?_ | refine x_fld ?_ | refine x_sfld ?_
  | refine x_bm ?_ | refine x_bm0 ?_ | refine x_sl ?_ | refine x_part ?_ | refine x_iex ?_ | refine x_nopart ?_ | refine x_forR ?_ | refine x_forL ?_ | refine x_forE ?_ | refine x_lcL ?_ | refine x_lcR ?_ | refine x_gcons ?_ | refine x_gnil ?_ | refine x_revL ?_ | refine x_notN ?_ | refine x_isN ?_ | refine x_yes ?_ | refine x_dget ?_ | refine x_sdput ?_ | refine x_gsub ?_ | refine x_setD ?_ | refine x_pcons ?_ | refine x_pnil ?_ | refine x_cont ?_ | refine x_dget2 ?_) | walk_at "sv" | walk_at "sn"))
local macro_rules | `(tactic| walk_at "sx") => `(tactic| repeat walk_at "s1")
def top (i : Nat) : Stmt := PySem.Challenge.pw_wirestrands_k41_whole_two_lives.main.body.getD i (.Pass ⟨0, 0, 0, 0⟩)
abbrev s_need : Stmt := top 13
abbrev s_Life_init : Stmt := inClass (top 14) 0
abbrev s_Life_state : Stmt := inClass (top 14) 1
abbrev s_Life_may : Stmt := inClass (top 14) 2
abbrev s_Life_may_say : Stmt := inClass (top 14) 3
abbrev s_Life_says : Stmt := inClass (top 14) 4
abbrev s_Life_hears : Stmt := inClass (top 14) 5
abbrev s__law_cell : Stmt := top 16
abbrev s__law_drawn : Stmt := top 17
abbrev s__law_word : Stmt := top 18
abbrev s__law_told : Stmt := top 19
abbrev s_law : Stmt := top 20
theorem sc_need : FnScope ["good"] ["good"] (defScope s_need) := ⟨rfl, rfl, rfl, by decide +kernel, rfl, by decide +kernel, by decide +kernel⟩
theorem sc_Life_init : FnScope ["self"] ["self"] (defScope s_Life_init) := ⟨rfl, rfl, rfl, by decide +kernel, rfl, by decide +kernel, by decide +kernel⟩
theorem sc_Life_state : FnScope ["self"] ["self"] (defScope s_Life_state) := ⟨rfl, rfl, rfl, by decide +kernel, rfl, by decide +kernel, by decide +kernel⟩
theorem sc_Life_may : FnScope ["self", "word", "is_last", "has_begun", "stages"] ["self", "word", "is_last", "has_begun", "stages"] (defScope s_Life_may) := ⟨rfl, rfl, rfl, by decide +kernel, rfl, by decide +kernel, by decide +kernel⟩
theorem sc_Life_may_say : FnScope ["self", "word", "is_last"] ["self", "word", "is_last"] (defScope s_Life_may_say) := ⟨rfl, rfl, rfl, by decide +kernel, rfl, by decide +kernel, by decide +kernel⟩
theorem sc_Life_says : FnScope ["self", "word", "is_last"] ["self", "word", "is_last"] (defScope s_Life_says) := ⟨rfl, rfl, rfl, by decide +kernel, rfl, by decide +kernel, by decide +kernel⟩
theorem sc_Life_hears : FnScope ["self", "word", "is_last"] ["self", "word", "is_last"] (defScope s_Life_hears) := ⟨rfl, rfl, rfl, by decide +kernel, rfl, by decide +kernel, by decide +kernel⟩
theorem sc__law_cell : FnScope ["script", "k"] ["script", "k"] (defScope s__law_cell) := ⟨rfl, rfl, rfl, by decide +kernel, rfl, by decide +kernel, by decide +kernel⟩
theorem sc__law_drawn : FnScope ["cell", "k", "more"] ["cell", "k"] (defScope s__law_drawn) := ⟨rfl, rfl, rfl, by decide +kernel, rfl, by decide +kernel, by decide +kernel⟩
theorem sc__law_word : FnScope ["e", "flags", "flag"] ["e"] (defScope s__law_word) := ⟨rfl, rfl, rfl, by decide +kernel, rfl, by decide +kernel, by decide +kernel⟩
theorem sc__law_told : FnScope ["deed", "e"] ["deed"] (defScope s__law_told) := ⟨rfl, rfl, rfl, by decide +kernel, rfl, by decide +kernel, by decide +kernel⟩
theorem sc_law : FnScope ["script", "k", "more", "lives", "roads", "is_cut", "j", "here", "at", "word", "is_last", "states", "mirror", "life"] ["script"] (defScope s_law) := ⟨rfl, rfl, rfl, by decide +kernel, rfl, by decide +kernel, by decide +kernel⟩
/-! ### the law's own helpers -/
section
variable {P : Program} {w : World} {K : PySem.W.Frag} {mg : Str → Option Value} {base : Heap}
/-- the names that the helpers read -/
structure Hlp (K : PySem.W.Frag) (mg : Str → Option Value) (c : Nat → Addr) : Prop where
  er : Errs K mg c
  n_isinstance : mg "isinstance" = none
  n_sum : mg "sum" = none
  n_int : mg "int" = none
  n_len : mg "len" = none
  n_ValueError : mg "ValueError" = none
  dW : DefAt K mg "_law_word" s__law_word
  dT : DefAt K mg "_law_told" s__law_told
  dC : DefAt K mg "_law_cell" s__law_cell
  dD : DefAt K mg "_law_drawn" s__law_drawn
/-- what the refused tells -/
def Rf (i : Nat) : List V := [.str "refused", .str (nmE i)]
def spWord (c : Nat → Addr) (a : Addr) (i : Nat) : List V → Hp → VK → Prop := fun vs H Q => vs = [.ref a] ∧ ∀ p H', Same H H' → H p = none → H' p = some (.tup (Rf i)) → Q (.ref p) H'
theorem word_body {c : Nat → Addr} {a : Addr} {oe : Obj} {i : Nat} (T : Hlp K mg c) (hi : i < 6) (hz : L2N.Zn (.ref (c i)) none oe) (hf : ∃ vs, oe.data = .fields vs) {f : Addr} {cdv : Value} {A : Around} {outer : List Env} {s : Shared} {H : Hp} {k : Nat} {vs : List V} {Q : VK} (hA : A.handled = some (.ref a)) (h : spWord c a i vs H Q) (hr : L2H.RoomH k (A.deeper (envOfC "_law_word" (defScope s__law_word) s.heap.objs.size f cdv))) :
    ∃ t, PSs (L2H.cxH CX0 P w K mg base ["e", "flags", "flag"] "_law_word" (defScope s__law_word) f cdv A outer s H E0 (a, oe)) (defBody s__law_word) t ∧ t { nx := fun _ H' => Q .non H', rt := Q } (L2.start ["e", "flags", "flag"] vs) H := by
  obtain ⟨rfl, k⟩ := h
  have hc : L2H.HotC (L2H.cxH CX0 P w K mg base ["e", "flags", "flag"] "_law_word" (defScope s__law_word) f cdv A outer s H E0 (a, oe)) := by
    obtain ⟨vs, hv⟩ := hf
    exact ⟨(a, oe), ⟨hA, vs, hv, hz.2.2 vs hv⟩, List.mem_cons_self⟩
  have C := T.er.cls i hi
  have is_ : CallR (L2H.cxH CX0 P w K mg base ["e", "flags", "flag"] "_law_word" (defScope s__law_word) f cdv A outer s H E0 (a, oe)) (.builtin "isinstance") (rIsE K (c i) a) := call_isP C.exc hz.zc hf List.mem_cons_self
  refine ⟨_, pss_cons (ps_set (i := 1) sc__law_word.nd rfl (Or.inl rfl) (pe_lst
      (pa_cons (q_cb is_ T.n_isinstance bb_isinstance (pa_cons (pv 0) (pa_cons (q_ref (T.er.g 0 (by decide))) pa_nil)))
      (pa_cons (q_cb is_ T.n_isinstance bb_isinstance (pa_cons (pv 0) (pa_cons (q_ref (T.er.g 1 (by decide))) pa_nil)))
      (pa_cons (q_cb is_ T.n_isinstance bb_isinstance (pa_cons (pv 0) (pa_cons (q_ref (T.er.g 2 (by decide))) pa_nil)))
      (pa_cons (q_cb is_ T.n_isinstance bb_isinstance (pa_cons (pv 0) (pa_cons (q_ref (T.er.g 3 (by decide))) pa_nil))) pa_nil))))))
    (pss_cons (ps_set (i := 1) sc__law_word.nd rfl (Or.inl rfl) (pe_op op_cat (pv 1) (pe_lst
      (pa_cons (q_cb is_ T.n_isinstance bb_isinstance (pa_cons (pv 0) (pa_cons (q_ref (T.er.g 4 (by decide))) pa_nil)))
      (pa_cons (q_cb is_ T.n_isinstance bb_isinstance (pa_cons (pv 0) (pa_cons (q_ref (T.er.g 5 (by decide))) pa_nil))) pa_nil)))))
    (pss_cons (ps_if (pw_or (pt_cmpR op_ne (q_cb (cr_sumH hc) T.n_sum bb_sum (pa_cons
        (pe_mapH (own := [("flag", 2)]) hc sc__law_word.nd (pv 1) (blkOk_by (N := ["e", "flags", "flag"]) (sc := defScope s__law_word) (by decide +kernel)) (fun _ _ _ _ _ => pg_name (i := 2) sc__law_word.nd rfl (Or.inl rfl))
          (fun _ _ _ _ _ => q_ct call_int1 T.n_int bb_int (pa_cons (pv 2) pa_nil))) pa_nil)) pe_int (nomark _))
        (pw_or1 (pt_not (pt_val (q_cb is_ T.n_isinstance bb_isinstance (pa_cons (pv 0) (pa_cons (q_ty T.n_ValueError bb_ValueError) pa_nil))))))).pt
      (pss_one (ps_ret (pe_tup (pa_cons pe_str (pa_cons pe_str pa_nil))))) pss_nil)
    (pss_one (ps_ret (pe_tup (pa_cons pe_str (pa_cons (pe_ix ix_list (pe_lst (pa_cons pe_str (pa_cons pe_str (pa_cons pe_str (pa_cons pe_str (pa_cons pe_str (pa_cons pe_str pa_nil)))))))
      (pe_bm PySem.F.plainAttrs_list PySem.F.slot_list_index PySem.F.type_list_index mt_index (pv 1) (pa_cons pe_bl pa_nil)) (fun _ _ => rfl)) pa_nil))))))), ?_⟩
  rw [show L2.start ["e", "flags", "flag"] [V.ref a] = [some (.ref a), none, none] from rfl]
  walk_at "sx"
  refine x_isE (T.er.kit i 0 hi (by decide)) ?_
  walk_at "sx"
  refine x_isE (T.er.kit i 1 hi (by decide)) ?_
  walk_at "sx"
  refine x_isE (T.er.kit i 2 hi (by decide)) ?_
  walk_at "sx"
  refine x_isE (T.er.kit i 3 hi (by decide)) ?_
  walk_at "sx"
  refine ⟨by show 4 ≤ sizeLine; decide, fun p1 n1 => ?_⟩
  walk_at "sx"
  refine x_isE (T.er.kit i 4 hi (by decide)) ?_
  walk_at "sx"
  refine x_isE (T.er.kit i 5 hi (by decide)) ?_
  walk_at "sx"
  refine ⟨by show 2 ≤ sizeLine; decide, fun p2 n2 => ?_⟩
  refine x_cat (upd_old n2 upd_same) upd_same (by show 4 + 2 ≤ sizeLine; decide) fun p3 n3 => ?_
  walk_at "sx"
  generalize e3 : upd (upd (upd H p1 _) p2 _) p3 _ = H3
  have s3 : Same H H3 := by
    rw [← e3]
    exact ((same_upd n1).trans (same_upd n2)).trans (same_upd n3)
  have h3 : H3 p3 = some (.lst (flgs i)) := by rw [← e3]; exact upd_same
  clear e3
  refine ⟨.ref p3, rfl, p3, flgs i, fInt, rfl, SqL.of h3, by show 6 < sizeLine; decide, fun v H' hv => ?_, fun p4 n4 => ?_⟩
  · obtain ⟨b, rfl⟩ : ∃ b, v = V.bl b := by
      simp only [flgs, List.mem_cons, List.not_mem_nil, or_false] at hv
      rcases hv with h | h | h | h | h | h <;> exact ⟨_, h⟩
    exact ⟨rfl, rfl, ⟨.bl b, rfl, .inr ⟨b, rfl, rfl, rfl⟩⟩⟩
  walk_at "sx"
  refine x_sum (ns := flgN i) (SqL.of (by rw [upd_same]; rfl)) ?_
  walk_at "sx"
  refine x_rNe rfl ?_
  rw [flgN_sum i hi]
  walk_at "sx"
  refine (show if (!decide (V.int 1 = V.int 1)) = true then _ else _ from ?_)
  rw [decide_eq_true rfl]
  refine x_F ?_
  walk_at "sx"
  refine x_isET (T.er.cls i hi).kv ?_
  walk_at "sx"
  refine (show if (!true) = true then _ else _ from x_F ?_)
  walk_at "sx"
  refine ⟨by show 6 ≤ sizeLine; decide, fun p5 n5 => ?_⟩
  walk_at "sx"
  refine ⟨?_, ?_⟩
  · exact Or.inl ⟨rfl, _, SqL.of (upd_old n5 (upd_old n4 h3))⟩
  walk_at "sx"
  refine x_index (SqL.of (upd_old n5 (upd_old n4 h3))) rfl ?_ (flgs_at i hi) rfl (fun m z' hm hz' => ?_) ?_
  · rfl
  · rw [flgs_no i hi m hm] at hz'
    cases hz'
    rfl
  refine x_ixL (SqL.of upd_same) (nm_at i hi) ?_
  walk_at "sx"
  refine ⟨by show 2 ≤ sizeLine; decide, fun p6 n6 => ?_⟩
  exact k p6 _ (((s3.trans (same_upd n4)).trans (same_upd n5)).trans (same_upd n6)) (((s3.trans (same_upd n4)).trans (same_upd n5)).free n6) upd_same
/-- what _law_told makes of a deed: what it tells, or how it is refused -/
def TW (c : Nat → Addr) : (XK → Hp → VK → Prop) → Hp → VK → Prop := fun tl H Q =>
  tl (fun cls d H' => ∃ i, i < 6 ∧ cls = .ref (c i) ∧ d = none ∧ ∀ p H'', Same H' H'' → H' p = none → H'' p = some (.tup (Rf i)) → Q (.ref p) H'') H Q
theorem x_TW {c : Nat → Addr} {tl : XK → Hp → VK → Prop} {H : Hp} {Q : VK} (k : tl (fun cls d H' => ∃ i, i < 6 ∧ cls = .ref (c i) ∧ d = none ∧ ∀ p H'', Same H' H'' → H' p = none → H'' p = some (.tup (Rf i)) → Q (.ref p) H'') H Q) : TW c tl H Q := k
theorem dp_rf {K : PySem.W.Frag} {H : Hp} (i : Nat) : DpAll K H (Rf i) [.str "refused", .str (nmE i)] := .cons (.str _) (.cons (.str _) .nil)
theorem takes0N {X : Cx} : L2N.Takes X (fun _ _ _ _ => False) := fun _ _ x => by
  obtain ⟨_, _, _, _, _, _, _, _, _, _, _, _, _, _, _, _, z⟩ := x
  exact z.elim
theorem run_of {X : Cx} {pins : List (Addr × Obj)} {s : Shared} {σ : L2.St} {H : Hp} {D : Ends} {st : List Stmt} (I : L2.Inv X pins σ H s) (h : ∃ t, PSs X st t ∧ t D σ H) : wpAny (model X.prog X.w) X.A (execs st X.env) (SP X pins D) X.xe s := by
  obtain ⟨t, p, q⟩ := h
  exact p.run pins s σ H D I q
theorem told_gives {X : Cx} {c : Nat → Addr} (T : Hlp X.K X.mg c) {k : Nat} {g : Addr} {cdv : Value} {q : Str} : GivesN X k ["deed", "e"] "_law_told" (defScope s__law_told) g cdv (defBody s__law_told) "deed" q (TW c) := by
  intro f c' s H Q tl hr act hc h
  obtain ⟨fW, fdW, FW, hmW⟩ := T.dW.ex
  obtain ⟨oc, od, kV, doc, pm, an, cdW, ct, osl, efd, lkW, hcW⟩ := FW.ex
  have bW := FW.binds (ps := ["e"]) fun _ _ _ _ _ _ us hl => match us, hl with | [_], _ => rfl
  rw [efd] at lkW bW
  refine ⟨_, pss_one (L2N.ps_try_as (i := 1) (c := .ref (c 6))
      (tb := fun W D σ H => ∃ Ech : XK, (∀ cls d σ' H', Ech cls d H' → W cls d σ' H') ∧ σ[0]? = some (some (.ref f)) ∧ H c' = some (CodeO c' q) ∧ tl Ech H D.rt)
      (ts := fun a cls d D σ H => ∃ i, i < 6 ∧ cls = .ref (c i) ∧ d = none ∧ (σ.length = 2 → σ[1]? = some (some (.ref a))) ∧ ∀ p H', Same H H' → H p = none → H' p = some (.tup (Rf i)) → D.rt (.ref p) H')
      rfl rfl sc__law_told.nd rfl rfl ⟨rfl, by decide, .inl T.er.gW⟩ takes0N (fun W pn xe tk _ => ?_) (fun a oe cls d pn hz hf => ?_)), ?_⟩
  · refine ⟨fun pins s' σ H' D I h' => ?_⟩
    obtain ⟨Ech, hW, h1, h2, h3⟩ := h'
    exact (pss_one (ps_ret (act W pn xe Ech _ _ tk hW))).run pins s' σ H' D I ⟨h1, h2, h3⟩
  · refine ⟨fun pins s' σ H' D I h' => ?_⟩
    obtain ⟨i, hi, rfl, rfl, hs, hq⟩ := h'
    have hs := hs I.len
    refine run_of I ⟨_, pss_one (ps_ret (pe_hot1 (k := k) (sp := spWord c a i) (Ng := ["e", "flags", "flag"]) (p := (a, oe)) (by rfl) hmW FW.kp lkW hcW bW sc__law_word ⟨hr.dp, hr.un⟩ List.mem_cons_self (pa_cons (pv 1) pa_nil) (fun vs H Q z => by rw [z.1]; rfl)
      (fun s H vs Q z hr' => word_body T hi hz hf rfl z hr'))), ?_⟩
    exact ⟨.ref a, hs, rfl, hq⟩
  · refine ⟨fun cls d H' => ∃ i, i < 6 ∧ cls = .ref (c i) ∧ d = none ∧ ∀ p H'', Same H' H'' → H' p = none → H'' p = some (.tup (Rf i)) → Q (.ref p) H'', fun cls d σ' H' hx => ?_, rfl, hc, h⟩
    obtain ⟨i, hi, rfl, rfl, hq⟩ := hx
    refine ⟨true, (T.er.cls i hi).ex, fun _ a ha => ⟨i, hi, rfl, rfl, ?_, hq⟩, fun z => nomatch z⟩
    intro hl
    have hl' : σ'.length = 2 := by rw [List.length_set] at hl; exact hl
    rw [List.getElem?_set_self (by omega)]
/-- _law_told(lambda: body) -/
theorem pe_told {X : Cx} {c : Nat → Addr} {cc PP : Addr} {Tb : List (Addr × Str)} {k : Nat} {params : Arguments} {body : Expr} {scope : Scope} {t : XK → TE} {p lpos pos : Pos} (T : Hlp X.K X.mg c) (TB : TabB X.base X.mg cc PP) (hcode : X.env.code = .ref cc)
    (hmT : (PP, X.env.qual ++ "<lambda>") ∈ Tb) (hu : ∀ p ∈ Tb, p.1 = PP → p.2 = X.env.qual ++ "<lambda>") (hr : Room (k + 2) X.A)
    (hbody : ∀ (A : Around) (outer : List Env) (s : Shared) (H : Hp) (E : XK) (f c' : Addr), Room k (A.deeper (lamEnv X scope s.heap.objs.size f c')) → PE (lamCxN X A outer s H E scope f c') body (t E))
    (L : LamS X.env.scope scope := by exact lamS_by (by kernel_rfl)) (hdef : defaultsOf params X.env = ([], []) := by rfl)
    (hbind : ∀ (q : Str) (cl : List (Str × Addr)) (pm cv ctv : Value), bindArgs (PySem.W.kla_fn "<lambda>" q params body scope cl pm cv ctv) ⟨[], []⟩ = pure [] := by intros; rfl) (hg : Gl X "_law_told" := by rfl) :
    PE X (.Call (.Name "_law_told" p) [.Lambda params body scope lpos] [] pos) (tLam Tb (TW c) t) := by
  obtain ⟨f, fd, F, hm⟩ := T.dT.ex
  obtain ⟨oc, od, kV, doc, pm, an, cdv, ct, osl, efd, lk, hcd⟩ := F.ex
  have b := F.binds (ps := ["deed"]) fun _ _ _ _ _ _ us hl => match us, hl with | [_], _ => rfl
  rw [efd] at lk b
  exact pe_lamN (Ng := ["deed", "e"]) hg hm F.kp lk hcd b sc__law_told rfl (.inl rfl) (told_gives T) TB hcode hmT hu hr L hdef hbind hbody
/-! cells and draws -/
def spCell (K : PySem.W.Frag) : Sp := fun vs H Q _ => ∃ (a : Addr) (ns : List Int) (k : Int), vs = [.ref a, .int k] ∧ SqL K H a (ns.map V.int) ∧ ns.length ≤ 63 ∧ 0 ≤ k ∧ k < 1000 ∧ ∀ z H', Same H H' → Q (.int z) H'
theorem ok_cell {c : Nat → Addr} (T : Hlp K mg c) : Fn P w K mg base 1 "_law_cell" (spCell K) := by
  refine fn_mk (ps := ["script", "k"]) T.dC (fun _ _ _ _ _ _ us hl => match us, hl with | [_, _], _ => rfl) fun f fd F => okN F sc__law_cell (fun vs H Q E h => by obtain ⟨a, ns, k, rfl, _⟩ := h; rfl) fun cdv A outer s H vs Q E hr h => ?_
  obtain ⟨a, ns, k, rfl, hS, hl, h0, h1, q⟩ := h
  have hu : A.units + 3 + 64 < cLine := by have := hr.un; show _; have e : (A.deeper (envOfC "_law_cell" (defScope s__law_cell) s.heap.objs.size f cdv)).units = A.units + 3 := rfl; omega
  refine ⟨_, (pss_cons (ps_if (pt_cmpR (ko_eqD K hu) (pv 0) (pe_lst pa_nil) (nomark _))
    (pss_one (ps_ret (pe_op op_mul (pv 1) pe_int)))
    pss_nil)
    (pss_one (ps_ret (pe_op op_add (pe_ix (kx_list K) (pv 0) (pe_op op_mod (pv 1) (q_cb (kc_len K) T.n_len bb_len (pa_cons (pv 0) pa_nil))) (fun _ _ => rfl)) (pe_op op_mul (pe_op op_fdiv (pv 1) (q_cb (kc_len K) T.n_len bb_len (pa_cons (pv 0) pa_nil))) pe_int))))), ?_⟩
  rw [show L2.start ["script", "k"] [V.ref a, V.int k] = [some (.ref a), some (.int k)] from rfl]
  walk_at "sx"
  refine ⟨by show 0 ≤ sizeLine; decide, fun p np => ?_⟩
  have hS1 : SqL K (upd H p (.lst [])) a (ns.map V.int) := (same_upd np).seq hS
  refine x_eqD (.lst hS1 (dpa_ints ns)) (.lst (SqL.of upd_same) .nil) (shp_ints ns) rfl ?_
  rw [show PyData.list [] = PyData.list (([] : List Int).map PyData.int) from rfl, eqv_ints]
  walk_at "sx"
  refine x_2 (fun he => ?_) fun he => ?_
  · walk_at "sx"
    refine x_rI (.inr ⟨by decide, by decide⟩) ?_
    exact q _ _ (same_upd np)
  · have hpos : 0 < ns.length := by
      cases ns with
      | nil => exact absurd rfl he
      | cons _ _ => exact Nat.succ_pos _
    have hls : (ns.map V.int).length = ns.length := List.length_map _
    walk_at "sx"
    refine x_lenL hS1 ?_
    rw [hls]
    refine x_rI (by omega) ?_
    have hm0 : 0 ≤ k % (ns.length : Int) := Int.emod_nonneg _ (by omega)
    have hm1 : k % (ns.length : Int) < ns.length := Int.emod_lt_of_pos _ (by omega)
    have hlt : (k % (ns.length : Int)).toNat < ns.length := by omega
    refine x_ixL hS1 (v := V.int (ns[(k % (ns.length : Int)).toNat])) (atI_get hm0 (by rw [List.getElem?_map, List.getElem?_eq_getElem hlt]; rfl)) ?_
    walk_at "sx"
    refine x_lenL hS1 ?_
    rw [hls]
    refine x_rI ⟨by omega, by omega⟩ ?_
    walk_at "sx"
    refine x_rI (.inr ⟨by decide, by decide⟩) ?_
    walk_at "sx"
    exact q _ _ (same_upd np)
def spDrawn : Sp := fun vs H Q _ => ∃ (c k : Int), vs = [.int c, .int k] ∧ -1000000 < k ∧ k < 1000000 ∧ Q (.int (drawn c k)) H
theorem ok_drawn {c : Nat → Addr} (T : Hlp K mg c) : Fn P w K mg base 1 "_law_drawn" spDrawn := by
  refine fn_mk (ps := ["cell", "k"]) T.dD (fun _ _ _ _ _ _ us hl => match us, hl with | [_, _], _ => rfl) fun f fd F => okN F sc__law_drawn (fun vs H Q E h => by obtain ⟨a, k, rfl, _⟩ := h; rfl) fun cdv A outer s H vs Q E hr h => ?_
  obtain ⟨a, k, rfl, h0, h1, q⟩ := h
  refine ⟨_, (pss_cons (ps_set (i := 2) sc__law_drawn.nd rfl (by first | exact Or.inl rfl | exact Or.inr rfl) (pe_op op_mod (pe_op op_add (pe_op op_mul (pv 0) pe_int) (pe_op op_mul (pe_op op_add (pv 1) pe_int) pe_int)) pe_int))
    (pss_cons (ps_set (i := 2) sc__law_drawn.nd rfl (by first | exact Or.inl rfl | exact Or.inr rfl) (pe_op op_mod (pe_op op_mulW (pv 2) (pv 2)) pe_int))
    (pss_cons (ps_set (i := 2) sc__law_drawn.nd rfl (by first | exact Or.inl rfl | exact Or.inr rfl) (pe_op op_mulW (pe_op op_mulW (pe_op op_add (pe_op op_mod (pv 2) pe_int) pe_int) (pe_op op_add (pe_op op_fdivW (pv 2) pe_int) pe_int)) (pv 2)))
    (pss_one (ps_ret (pe_op op_mod (pv 2) pe_int)))))), ?_⟩
  rw [show L2.start ["cell", "k", "more"] [V.int a, V.int k] = [some (.int a), some (.int k), none] from rfl]
  walk_at "sx"
  refine x_rI (.inr ⟨by decide, by decide⟩) ?_
  walk_at "sx"
  refine x_rI (.inr ⟨by decide, by decide⟩) ?_
  walk_at "sx"
  refine x_rI (by decide) ?_
  walk_at "sx"
  generalize e1 : (a * 6364136223846793005 + (k + 1) * 1442695040888963407) % 340282366920938463463374607431768211507 = m1
  have l1 : 0 ≤ m1 := by rw [← e1]; exact Int.emod_nonneg _ (by decide)
  have u1 : m1 < 340282366920938463463374607431768211507 := by rw [← e1]; exact Int.emod_lt_of_pos _ (by decide)
  have b1 : m1.natAbs < 2 ^ 129 := nat_lt_of l1 (Int.lt_trans u1 (by decide))
  refine x_rI (wide_mul b1 b1 (by decide) (by decide) (by decide)) ?_
  walk_at "sx"
  refine x_rI (by decide) ?_
  walk_at "sx"
  generalize e2 : m1 * m1 % 340282366920938463463374607431768211297 = m2
  have l2 : 0 ≤ m2 := by rw [← e2]; exact Int.emod_nonneg _ (by decide)
  have u2 : m2 < 340282366920938463463374607431768211297 := by rw [← e2]; exact Int.emod_lt_of_pos _ (by decide)
  have b2 : m2.natAbs < 2 ^ 128 := nat_lt_of l2 (Int.lt_trans u2 (by decide))
  refine x_rI (by decide) ?_
  walk_at "sx"
  refine x_rI (wide_div (b := 64) (by decide) (by decide) (by decide) (by decide)) ?_
  walk_at "sx"
  have l3 : 0 ≤ m2 % 18446744073709551557 := Int.emod_nonneg _ (by decide)
  have u3 : m2 % 18446744073709551557 < 18446744073709551557 := Int.emod_lt_of_pos _ (by decide)
  have b3 : (m2 % 18446744073709551557 + 1).natAbs < 2 ^ 65 := nat_lt_of (by omega) (Int.lt_trans (Int.add_lt_add_right u3 1) (by decide))
  have l4 : 0 ≤ m2 / 18446744073709551557 := Int.ediv_nonneg l2 (by decide)
  have u4 : m2 / 18446744073709551557 ≤ m2 := Int.ediv_le_self _ l2
  have b4 : (m2 / 18446744073709551557 + 1).natAbs < 2 ^ 129 := nat_lt_of (by omega) (Int.lt_of_le_of_lt (Int.add_le_add_right (Int.le_trans u4 (Int.le_of_lt u2)) 1) (by decide))
  refine x_rI (wide_mul b3 b4 (by decide) (by decide) (by decide)) ?_
  walk_at "sx"
  refine x_rI (wide_mul (wide_lt b3 b4) b2 (by decide) (by decide) (by decide)) ?_
  walk_at "sx"
  refine x_rI (by decide) ?_
  have e : drawn a k = (m2 % 18446744073709551557 + 1) * (m2 / 18446744073709551557 + 1) * m2 % 340282366920938463463374607431768211507 := by
    rw [← e2, ← e1]
    rfl
  rw [← e]
  exact q
end
end Lw

set_option Elab.async false
set_option linter.all false
set_option maxRecDepth 100000
set_option maxHeartbeats 4000000
namespace Lw
open PySem PySem.Spec PyProof.Rows L2 HotX LamX Ws
local macro_rules | `(tactic| walk_at "sv") => `(tactic| (with_reducible first
  | refine x_v0 ?_ | refine x_v1 ?_ | refine x_v2 ?_ | refine x_v3 ?_ | refine x_v4 ?_ | refine x_v5 ?_ | refine x_v6 ?_ | refine x_v7 ?_ | refine x_v8 ?_ | refine x_v9 ?_ | refine x_v10 ?_ | refine x_v11 ?_ | refine x_v12 ?_ | refine x_v13 ?_ | refine x_v14 ?_ | refine x_v15 ?_ | refine x_v16 ?_ | refine x_v17 ?_ | refine x_v18 ?_ | refine x_v19 ?_ | refine x_v20 ?_ | refine x_v21 ?_ | refine x_v22 ?_ | refine x_v23 ?_ | refine x_v24 ?_ | refine x_v25 ?_ | refine x_v26 ?_ | refine x_v27 ?_))
local macro_rules | `(tactic| walk_at "sn") => `(tactic| (with_reducible first
  | refine x_n0 ?_ | refine x_n1 ?_ | refine x_n2 ?_ | refine x_n3 ?_ | refine x_n4 ?_ | refine x_n5 ?_ | refine x_n6 ?_ | refine x_n7 ?_ | refine x_n8 ?_ | refine x_n9 ?_ | refine x_n10 ?_ | refine x_n11 ?_ | refine x_n12 ?_ | refine x_n13 ?_ | refine x_n14 ?_ | refine x_n15 ?_ | refine x_n16 ?_ | refine x_n17 ?_ | refine x_n18 ?_ | refine x_n19 ?_ | refine x_n20 ?_ | refine x_n21 ?_ | refine x_n22 ?_ | refine x_n23 ?_ | refine x_n24 ?_ | refine x_n25 ?_ | refine x_n26 ?_ | refine x_n27 ?_))
local macro_rules | `(tactic| walk_at "s1") => `(tactic| (first | (with_reducible first
  | refine x_c ?_ | refine x_op ?_ | refine x_un ?_ | refine x_rU ?_ | refine x_rI0 ?_ | refine x_chain ?_ | refine x_ex ?_ | refine x_test ?_ | refine x_tB ?_
  | refine x_tAnd ?_ | refine x_tOr ?_ | refine x_tNot ?_ | refine x_andV ?_ | refine x_orV ?_ | refine x_notV ?_ | refine x_tIf ?_ | refine x_T ?_ | refine x_F ?_ | refine x_seq ?_ | refine x_next ?_ | refine x_asg ?_
  | refine x_ret ?_ | refine x_retN ?_ | refine x_ifS ?_ | refine x_drop ?_ | refine x_nil ?_ | refine x_cons ?_ | refine x_tup ?_ | refine x_lst ?_ | refine x_call ?_ | refine x_cb ?_ | refine x_meth ?_ | refine x_make ?_ | refine x_fld ?_ | refine x_sfld ?_
  | refine x_bm ?_ | refine x_bm0 ?_ | refine x_sl ?_ | refine x_part ?_ | refine x_iex ?_ | refine x_nopart ?_ | refine x_forR ?_ | refine x_forL ?_ | refine x_forE ?_ | refine x_lcL ?_ | refine x_lcR ?_ | refine x_gcons ?_ | refine x_gnil ?_ | refine x_revL ?_ | refine x_notN ?_ | refine x_isN ?_ | refine x_yes ?_ | refine x_dget ?_ | refine x_sdput ?_ | refine x_gsub ?_ | refine x_setD ?_ | refine x_pcons ?_ | refine x_pnil ?_ | refine x_cont ?_ | refine x_dget2 ?_) | walk_at "sv" | walk_at "sn"))
local macro_rules | `(tactic| walk_at "sx") => `(tactic| repeat walk_at "s1")
/-! ### lives -/
structure Lf where
  st : Str
  hs : Bool
  hh : Bool
  ct : Bool
deriving DecidableEq
abbrev lfF (l : Lf) : List (Str × V) := [("stage", .str l.st), ("has_said", .bl l.hs), ("has_heard", .bl l.hh), ("is_cut", .bl l.ct)]
abbrev LfO (C dx : Addr) (l : Lf) : HO := .ins C dx (lfF l)
def lmay (st word : Str) (last begun : Bool) (s1 s2 : Str) : Bool :=
  if word = "cut" then !decide (st ∈ (["idle", "over"] : List Str)) else if word = "heads" ∧ begun = false then decide (st ∈ (["idle", s1, s2] : List Str)) else begun && decide (st ∈ [s1, s2]) && (decide (word = "piece") || last)
abbrev wds : List Str := ["heads", "piece", "cut"]
def maySay (l : Lf) (word : Str) (last : Bool) : Bool := decide (word ∈ wds) && lmay l.st word last l.hs "open" "heard"
def behind (s : Str) : Str := if s = "idle" then "said" else if s = "open" then "said" else "over"
def heardS (s : Str) : Str := if s = "idle" then "heard" else if s = "open" then "heard" else "over"
def lsays (l : Lf) (word : Str) (last : Bool) : Lf := if word = "cut" then { l with st := "over", ct := true } else { l with hs := true, st := if last then behind l.st else if l.st = "idle" then "open" else l.st }
def lhears (l : Lf) (word : Str) (last : Bool) : Lf := if word = "cut" then { l with st := "over" } else { l with hh := true, st := if last then heardS l.st else if l.st = "idle" then "open" else l.st }
def hearsR (l : Lf) (word : Str) (last : Bool) : Option Bool × Lf :=
  if ¬ word ∈ wds then (none, l) else if l.st = "over" ∧ (l.ct = true ∨ word = "cut") then (some false, l) else if lmay l.st word last l.hh "open" "said" = false then (none, l) else (some true, lhears l word last)
section
variable {P : Program} {w : World} {K : PySem.W.Frag} {mg : Str → Option Value} {base : Heap} {c : Nat → Addr} {cL : Addr}
theorem f1 : (("has_said" : Str) == "stage") = false := by decide +kernel
theorem f2 : (("has_heard" : Str) == "stage") = false := by decide +kernel
theorem f3 : (("is_cut" : Str) == "stage") = false := by decide +kernel
theorem f4 : (("has_heard" : Str) == "has_said") = false := by decide +kernel
theorem f5 : (("is_cut" : Str) == "has_said") = false := by decide +kernel
theorem f6 : (("is_cut" : Str) == "has_heard") = false := by decide +kernel
theorem lk_st (l : Lf) : List.lookup ("stage" : Str) (lfF l) = some (.str l.st) := by simp [List.lookup]
theorem lk_hs (l : Lf) : List.lookup ("has_said" : Str) (lfF l) = some (.bl l.hs) := by simp [List.lookup, f1]
theorem lk_hh (l : Lf) : List.lookup ("has_heard" : Str) (lfF l) = some (.bl l.hh) := by simp [List.lookup, f2, f4]
theorem lk_ct (l : Lf) : List.lookup ("is_cut" : Str) (lfF l) = some (.bl l.ct) := by simp [List.lookup, f3, f5, f6]
theorem lk_no {m : Str} (l : Lf) (h : m ∉ (["stage", "has_said", "has_heard", "is_cut"] : List Str)) : List.lookup m (lfF l) = none := by
  simp only [List.mem_cons, not_or] at h
  have e1 : (m == ("stage" : Str)) = false := by simp [h.1]
  have e2 : (m == ("has_said" : Str)) = false := by simp [h.2.1]
  have e3 : (m == ("has_heard" : Str)) = false := by simp [h.2.2.1]
  have e4 : (m == ("is_cut" : Str)) = false := by simp [h.2.2.2.1]
  simp [List.lookup, e1, e2, e3, e4]
theorem pt_st (l : Lf) (z : Str) : putF ("stage" : Str) (.str z) (lfF l) = lfF { l with st := z } := by rfl
theorem pt_hs (l : Lf) (z : Bool) : putF ("has_said" : Str) (.bl z) (lfF l) = lfF { l with hs := z } := by rfl
theorem pt_hh (l : Lf) (z : Bool) : putF ("has_heard" : Str) (.bl z) (lfF l) = lfF { l with hh := z } := by rfl
theorem pt_ct (l : Lf) (z : Bool) : putF ("is_cut" : Str) (.bl z) (lfF l) = lfF { l with ct := z } := by rfl
structure TxV (w : World) (K : PySem.W.Frag) (mg : Str → Option Value) (c : Nat → Addr) (cL : Addr) : Prop where
  er : Errs K mg c
  gW : ∃ a, mg "WORDS" = some (.ref a) ∧ ∀ H, SqT K H a (wds.map V.str)
  gB : ∃ a, mg "BEHIND" = some (.ref a) ∧ KDct K w a "idle" (.str "said") ∧ KDct K w a "open" (.str "said") ∧ KDct K w a "heard" (.str "over")
  gH : ∃ a, mg "HEARD" = some (.ref a) ∧ KDct K w a "idle" (.str "heard") ∧ KDct K w a "open" (.str "heard") ∧ KDct K w a "said" (.str "over")
  dNeed : DefAt K mg "need" s_need
  cl : Cls K cL
  n1 : NoAttr K cL "stage"
  n2 : NoAttr K cL "has_said"
  n3 : NoAttr K cL "has_heard"
  n4 : NoAttr K cL "is_cut"
  gL : mg "Life" = some (.ref cL)
  mkL : PySem.W.makesIn K cL = true
  kpL : PySem.W.keepIn K (.ref cL) = true
  mI : MethAt K cL "__init__" "Life.__init__" s_Life_init
  mSt : MethAt K cL "state" "Life.state" s_Life_state
  mMay : MethAt K cL "may" "Life.may" s_Life_may
  mMs : MethAt K cL "may_say" "Life.may_say" s_Life_may_say
  mSay : MethAt K cL "says" "Life.says" s_Life_says
  mHear : MethAt K cL "hears" "Life.hears" s_Life_hears
def spNeed (c : Nat → Addr) (i : Nat) : Sp := fun vs H Q E => ∃ b : Bool, vs = [.bl b] ∧ (b = true → Q .non H) ∧ (b = false → E (.ref (c i)) none H)
abbrev pN {X : Cx} {E : XK} {E₁ : Value → Shared → Prop} (hs : X.stack = X.env :: X.outer) (hf : X.env.frame = some X.env.locals) (hex : X.ex = []) (hx : X.xe = fun e s' => wpAny (model X.prog X.w) X.A (leaving X.env e) (fun _ s'' => L2N.CX X.prog X.w X.outer X.H_0 X.s_0 E e s'') E₁ s') : Passes (L2N.CX X.prog X.w) X E :=
  L2N.passes_call (L2N.takes_of hs hf hex hx) (fun _ _ _ _ h => h)
theorem ok_need (T : TxV w K mg c cL) : Fn P w K mg base 1 "need" (spNeed c 5) := by
  refine fn_mk (ps := ["good"]) T.dNeed (fun _ _ _ _ _ _ us hl => match us, hl with | [_], _ => rfl) fun f fd F => okN F sc_need (fun vs H Q E h => by obtain ⟨b, rfl, _⟩ := h; rfl) fun cdv A outer s H vs Q E hr h => ?_
  obtain ⟨b, rfl, h1, h2⟩ := h
  refine ⟨_, pss_one (ps_if (pt_not (pt_val (pv 0))) (pss_one (L2N.ps_raise rfl (L2N.takes_of rfl rfl rfl rfl) (T.er.mk_ rfl rfl 5 (by decide) rfl (by decide)))) pss_nil), ?_⟩
  rw [show L2.start ["good"] [V.bl b] = [some (.bl b)] from rfl]
  walk_at "sx"
  cases b with
  | true => exact x_F (h1 rfl)
  | false => exact x_T (h2 rfl)
def spLInit (C : Addr) : Sp := fun vs H Q _ => ∃ (p dx : Addr), vs = [.ref p] ∧ H p = some (.ins C dx []) ∧ Q .non (upd H p (LfO C dx ⟨"idle", false, false, false⟩))
theorem ok_linit (T : TxV w K mg c cL) : Mr P w K mg base 1 "Life" cL (spLInit cL) := by
  refine mr_mk (ps := ["self"]) T.mI T.gL T.mkL T.kpL (fun _ _ _ _ _ _ us hl => match us, hl with | [_], _ => rfl) fun f fd F => okN F sc_Life_init (fun vs H Q E h => by obtain ⟨a, b, rfl, _⟩ := h; rfl) fun cdv A outer s H vs Q E hr h => ?_
  obtain ⟨p, dx, rfl, hp, q⟩ := h
  refine ⟨_, (pss_cons (k_setf K (pv 0) pe_str)
    (pss_cons (k_setf K (pv 0) pe_bl)
    (pss_cons (k_setf K (pv 0) pe_bl)
    (pss_one (k_setf K (pv 0) pe_bl))))), ?_⟩
  rw [show L2.start ["self"] [V.ref p] = [some (.ref p)] from rfl]
  walk_at "sx"
  refine x_rsfld hp T.cl T.n1 (by show 0 < 1000; decide) ?_
  walk_at "sx"
  refine x_rsfld upd_same T.cl T.n2 (by show 1 < 1000; decide) ?_
  rw [upd_upd]
  walk_at "sx"
  refine x_rsfld upd_same T.cl T.n3 (by show 2 < 1000; decide) ?_
  rw [upd_upd]
  walk_at "sx"
  refine x_rsfld upd_same T.cl T.n4 (by show 3 < 1000; decide) ?_
  rw [upd_upd]
  exact q
def spLState (C : Addr) : Sp := fun vs H Q _ => ∃ (p dx : Addr) (l : Lf), vs = [.ref p] ∧ H p = some (LfO C dx l) ∧ Q (.str l.st) H
theorem ok_lstate (T : TxV w K mg c cL) : Mt P w K mg base 1 cL "state" (spLState cL) := by
  refine mt_mk (ps := ["self"]) T.mSt T.cl (fun _ _ _ _ _ _ us hl => match us, hl with | [_], _ => rfl) fun f fd F => okN F sc_Life_state (fun vs H Q E h => by obtain ⟨a, b, d, rfl, _⟩ := h; rfl) fun cdv A outer s H vs Q E hr h => ?_
  obtain ⟨p, dx, l, rfl, hp, q⟩ := h
  refine ⟨_, (pss_one (ps_ret (k_fld K (pv 0)))), ?_⟩
  rw [show L2.start ["self"] [V.ref p] = [some (.ref p)] from rfl]
  walk_at "sx"
  exact x_rfld hp T.cl T.n1 (lk_st _) q
def spLMay (K : PySem.W.Frag) (C : Addr) : Sp := fun vs H Q _ => ∃ (p dx : Addr) (l : Lf) (word : Str) (last begun : Bool) (t : Addr) (s1 s2 : Str), vs = [.ref p, .str word, .bl last, .bl begun, .ref t] ∧ H p = some (LfO C dx l) ∧ SqT K H t [.str s1, .str s2] ∧ ∀ H', Same H H' → Q (.bl (lmay l.st word last begun s1 s2)) H'
theorem sqt_same {H H' : Hp} {a : Addr} {xs : List V} (s : Same H H') (h : SqT K H a xs) : SqT K H' a xs := by
  rcases h with (h | ⟨o, h⟩) | h
  · exact .inl (.inl (s _ _ h))
  · exact .inl (.inr ⟨o, s _ _ h⟩)
  · exact .inr h
theorem ok_lmay (T : TxV w K mg c cL) : Mt P w K mg base 1 cL "may" (spLMay K cL) := by
  refine mt_mk (ps := ["self", "word", "is_last", "has_begun", "stages"]) T.mMay T.cl (fun _ _ _ _ _ _ us hl => match us, hl with | [_, _, _, _, _], _ => rfl) fun f fd F => okN F sc_Life_may (fun vs H Q E h => by obtain ⟨a, b, d, e, g, i, j, k, l, rfl, _⟩ := h; rfl) fun cdv A outer s H vs Q E hr h => ?_
  obtain ⟨p, dx, l, word, last, begun, t, s1, s2, rfl, hp, ht, q⟩ := h
  refine ⟨_, (pss_cons (ps_if (pt_cmpR op_eq (pv 1) pe_str (nomark _))
    (pss_one (ps_ret (pe_cmpR (ko_notIn K) (k_fld K (pv 0)) (pe_tup (pa_cons pe_str (pa_cons pe_str pa_nil))) rfl)))
    pss_nil)
    (pss_cons (ps_if ((pw_and (pt_cmpR op_eq (pv 1) pe_str (nomark _)) (pw_and1 (pt_not (pt_val (pv 3)))))).pt
    (pss_one (ps_ret (pe_cmpR (ko_in K) (k_fld K (pv 0)) (pe_op (ko_catT K) (pe_tup (pa_cons pe_str pa_nil)) (pv 4)) rfl)))
    pss_nil)
    (pss_one (ps_ret (pe_and (pv 3) (pe_and (pe_cmpR (ko_in K) (k_fld K (pv 0)) (pv 4) rfl) (pe_one (pe_or (pe_cmpR op_eq (pv 1) pe_str (nomark _)) (pe_one (pv 2)))))))))), ?_⟩
  rw [show L2.start ["self", "word", "is_last", "has_begun", "stages"] [V.ref p, .str word, .bl last, .bl begun, .ref t] = [some (.ref p), some (.str word), some (.bl last), some (.bl begun), some (.ref t)] from rfl]
  walk_at "sx"
  refine x_rEq rfl ?_
  walk_at "sx"
  refine x_2 (fun e1 => ?_) fun e1 => ?_
  · have e1' : word = "cut" := V.str.inj e1
    walk_at "sx"
    refine x_rfld hp T.cl T.n1 (lk_st _) ?_
    walk_at "sx"
    refine ⟨szle (by show 2 ≤ 100000; decide), fun p1 m1 => ?_⟩
    refine x_ninTS ["idle", "over"] (SqT.of upd_same) ?_
    have := q _ (same_upd (o := .tup [.str "idle", .str "over"]) m1)
    rw [lmay, if_pos e1'] at this
    exact this
  · have e1' : ¬ word = "cut" := fun z => e1 (by rw [z])
    walk_at "sx"
    refine x_rEq rfl ?_
    walk_at "sx"
    have w2 : ¬ (word = "heads" ∧ begun = false) → if begun = true then if decide (l.st ∈ [s1, s2]) = true then if decide (word = "piece") = true then Q (.bl true) H else Q (.bl last) H else Q (.bl false) H else Q (.bl false) H := fun e2 => by
      have := q H (Same.refl _)
      rw [lmay, if_neg e1', if_neg e2] at this
      refine x_b (fun h1 => ?_) fun h1 => ?_
      · refine x_2 (fun h2 => ?_) fun h2 => ?_
        · refine x_2 (fun h3 => ?_) fun h3 => ?_
          · simpa [h1, h2, h3] using this
          · simpa [h1, h2, h3] using this
        · simpa [h1, h2] using this
      · simpa [h1] using this
    have w3 : ¬ (word = "heads" ∧ begun = false) → tAndV (tVar 3) (tAndV (tOp (rIn K false) (tFld K (tVar 0) "stage") (tVar 4)) (tOrV (tOp rEq (tVar 1) (tC (.str "piece"))) (tVar 2))) [some (.ref p), some (.str word), some (.bl last), some (.bl begun), some (.ref t)] H Q := fun e2 => by
      have := w2 e2
      walk_at "sx"
      refine x_b (fun h1 => ?_) fun h1 => ?_
      · rw [if_pos h1] at this
        walk_at "sx"
        refine x_rfld hp T.cl T.n1 (lk_st _) ?_
        walk_at "sx"
        refine x_inTS [s1, s2] ht ?_
        walk_at "sx"
        refine x_2 (fun h2 => ?_) fun h2 => ?_
        · rw [if_pos (decide_eq_true h2)] at this
          walk_at "sx"
          refine x_rEq rfl ?_
          walk_at "sx"
          refine x_2 (fun h3 => ?_) fun h3 => ?_
          · rw [if_pos (decide_eq_true (V.str.inj h3))] at this
            exact this
          · rw [if_neg (by rw [decide_eq_true_iff]; exact fun z => h3 (by rw [z]))] at this
            walk_at "sx"
            exact this
        · rw [if_neg (by rw [decide_eq_true_iff]; exact h2)] at this
          exact this
      · rw [if_neg (by rw [h1]; exact Bool.false_ne_true)] at this
        exact this
    refine x_2 (fun e2 => ?_) fun e2 => ?_
    · have e2' : word = "heads" := V.str.inj e2
      walk_at "sx"
      cases begun with
      | false =>
        refine not_f ?_
        walk_at "sx"
        refine x_rfld hp T.cl T.n1 (lk_st _) ?_
        walk_at "sx"
        refine ⟨szle (by show 1 ≤ 100000; decide), fun p1 m1 => ?_⟩
        walk_at "sx"
        refine x_catT (SqT.of upd_same) (sqt_same (same_upd m1) ht) (by simp) (by simp) (szle (by show 3 ≤ 100000; decide)) fun p2 m2 => ?_
        refine x_inTS ["idle", s1, s2] (SqT.of upd_same) ?_
        have := q _ ((same_upd (o := .tup [.str "idle"]) m1).trans (same_upd (o := .tup [.str "idle", .str s1, .str s2]) m2))
        rw [lmay, if_neg e1', if_pos ⟨e2', rfl⟩] at this
        exact this
      | true =>
        refine not_t ?_
        exact w3 (fun z => nomatch z.2)
    · have e2' : ¬ word = "heads" := fun z => e2 (by rw [z])
      exact w3 (fun z => e2' z.1)
def spLMaySay (K : PySem.W.Frag) (C : Addr) : Sp := fun vs H Q _ => ∃ (p dx : Addr) (l : Lf) (word : Str) (last : Bool), vs = [.ref p, .str word, .bl last] ∧ H p = some (LfO C dx l) ∧ ∀ H', Same H H' → Q (.bl (maySay l word last)) H'
theorem ok_lmaysay (T : TxV w K mg c cL) : Mt P w K mg base 2 cL "may_say" (spLMaySay K cL) := by
  have MM : Mt P w K mg base 1 cL "may" (spLMay K cL) := ok_lmay T
  obtain ⟨aW, gW, hW⟩ := T.gW
  refine mt_mk (ps := ["self", "word", "is_last"]) T.mMs T.cl (fun _ _ _ _ _ _ us hl => match us, hl with | [_, _, _], _ => rfl) fun f fd F => okN F sc_Life_may_say (fun vs H Q E h => by obtain ⟨a, b, d, e, g, rfl, _⟩ := h; rfl) fun cdv A outer s H vs Q E hr h => ?_
  obtain ⟨p, dx, l, word, last, rfl, hp, q⟩ := h
  refine ⟨_, (pss_one (ps_ret (pe_and (pe_cmpR (ko_in K) (pv 1) (q_ref gW) rfl) (pe_one (pe_md MM hr pass0N (pv 0) (pa_cons (pv 1) (pa_cons (pv 2) (pa_cons (k_fld K (pv 0)) (pa_cons (pe_tup (pa_cons pe_str (pa_cons pe_str pa_nil))) pa_nil))))))))), ?_⟩
  rw [show L2.start ["self", "word", "is_last"] [V.ref p, .str word, .bl last] = [some (.ref p), some (.str word), some (.bl last)] from rfl]
  walk_at "sx"
  refine x_inTS wds (hW _) ?_
  walk_at "sx"
  refine x_2 (fun e1 => ?_) fun e1 => ?_
  · walk_at "sx"
    refine x_rmeth hp (lk_no l (by decide +kernel)) ?_
    walk_at "sx"
    refine x_rfld hp T.cl T.n2 (lk_hs _) ?_
    walk_at "sx"
    refine ⟨szle (by show 2 ≤ 100000; decide), fun p1 m1 => ?_⟩
    walk_at "sx"
    refine ⟨p, dx, l, word, last, l.hs, p1, "open", "heard", rfl, upd_old m1 hp, SqT.of upd_same, fun H' s' => ?_⟩
    have := q H' ((same_upd m1).trans s')
    rw [maySay, decide_eq_true e1, Bool.true_and] at this
    exact this
  · have := q H (Same.refl _)
    rw [maySay, decide_eq_false e1, Bool.false_and] at this
    exact this
def spLSays (K : PySem.W.Frag) (c : Nat → Addr) (C : Addr) : Sp := fun vs H Q E => ∃ (p dx : Addr) (l : Lf) (word : Str) (last : Bool), vs = [.ref p, .str word, .bl last] ∧ H p = some (LfO C dx l) ∧ (maySay l word last = true → ∀ H', Same H H' → Q .non (upd H' p (LfO C dx (lsays l word last)))) ∧ (maySay l word last = false → ∀ H', Same H H' → E (.ref (c 5)) none H')
theorem lmay_st {st word : Str} {last begun : Bool} {s1 s2 : Str} (h : lmay st word last begun s1 s2 = true) (hw : ¬ word = "cut") : st = "idle" ∨ st = s1 ∨ st = s2 := by
  unfold lmay at h
  rw [if_neg hw] at h
  split at h
  · simpa using h
  · simp at h
    exact .inr h.1.2
theorem ok_lsays (T : TxV w K mg c cL) : Mt P w K mg base 3 cL "says" (spLSays K c cL) := by
  have MM : Mt P w K mg base 2 cL "may_say" (spLMaySay K cL) := ok_lmaysay T
  have Fn : Fn P w K mg base 1 "need" (spNeed c 5) := ok_need T
  obtain ⟨aB, gB, b1, b2, b3⟩ := T.gB
  refine mt_mk (ps := ["self", "word", "is_last"]) T.mSay T.cl (fun _ _ _ _ _ _ us hl => match us, hl with | [_, _, _], _ => rfl) fun f fd F => okN F sc_Life_says (fun vs H Q E h => by obtain ⟨a, b, d, e, g, rfl, _⟩ := h; rfl) fun cdv A outer s H vs Q E hr h => ?_
  obtain ⟨p, dx, l, word, last, rfl, hp, q1, q2⟩ := h
  refine ⟨_, (pss_cons (ps_expr (q_fn Fn hr (pN rfl rfl rfl rfl) (pa_cons (pe_md MM hr pass0N (pv 0) (pa_cons (pv 1) (pa_cons (pv 2) pa_nil))) pa_nil)))
    (pss_cons (ps_if (pt_cmpR op_eq (pv 1) pe_str (nomark _))
    (pss_cons (k_setf K (pv 0) pe_str)
      (pss_cons (k_setf K (pv 0) pe_bl)
      (pss_one ps_retN)))
    pss_nil)
    (pss_cons (k_setf K (pv 0) pe_bl)
    (pss_one (ps_if (pt_val (pv 2))
    (pss_one (k_setf K (pv 0) (pe_ix (kx_kd K w) (q_ref gB) (k_fld K (pv 0)) (fun _ _ => rfl))))
    (pss_one (ps_if (pt_cmpR op_eq (k_fld K (pv 0)) pe_str (nomark _))
      (pss_one (k_setf K (pv 0) pe_str))
      pss_nil))))))), ?_⟩
  rw [show L2.start ["self", "word", "is_last"] [V.ref p, .str word, .bl last] = [some (.ref p), some (.str word), some (.bl last)] from rfl]
  walk_at "sx"
  refine x_rmeth hp (lk_no l (by decide +kernel)) ?_
  walk_at "sx"
  refine ⟨p, dx, l, word, last, rfl, hp, fun H1 s1 => ?_⟩
  have hp1 := s1 _ _ hp
  refine ⟨_, rfl, fun hg => ?_, fun hg => q2 hg H1 s1⟩
  have q1 := q1 hg H1 s1
  walk_at "sx"
  refine x_rEq rfl ?_
  walk_at "sx"
  refine x_2 (fun e1 => ?_) fun e1 => ?_
  · have e1' : word = "cut" := V.str.inj e1
    walk_at "sx"
    refine x_rsfld hp1 T.cl T.n1 (by show 4 < 1000; decide) ?_
    rw [pt_st]
    walk_at "sx"
    refine x_rsfld upd_same T.cl T.n4 (by show 4 < 1000; decide) ?_
    rw [pt_ct, upd_upd]
    walk_at "sx"
    rw [lsays, if_pos e1'] at q1
    exact q1
  · have e1' : ¬ word = "cut" := fun z => e1 (by rw [z])
    rw [lsays, if_neg e1'] at q1
    have hst : l.st = "idle" ∨ l.st = "open" ∨ l.st = "heard" := by
      unfold maySay at hg
      rw [Bool.and_eq_true] at hg
      exact lmay_st hg.2 e1'
    walk_at "sx"
    refine x_rsfld hp1 T.cl T.n2 (by show 4 < 1000; decide) ?_
    rw [pt_hs]
    walk_at "sx"
    refine x_b (fun h1 => ?_) fun h1 => ?_
    · rw [h1] at q1
      walk_at "sx"
      refine x_rfld upd_same T.cl T.n1 (lk_st _) ?_
      have kd : KDct K w aB l.st (.str (behind l.st)) := by
        rcases hst with h | h | h <;> rw [h]
        · exact b1
        · exact b2
        · exact b3
      refine x_ixKD kd ?_
      walk_at "sx"
      refine x_rsfld upd_same T.cl T.n1 (by show 4 < 1000; decide) ?_
      rw [pt_st, upd_upd]
      walk_at "sx"
      exact q1
    · rw [h1, if_neg Bool.false_ne_true] at q1
      walk_at "sx"
      refine x_rfld upd_same T.cl T.n1 (lk_st _) ?_
      walk_at "sx"
      refine x_rEq rfl ?_
      walk_at "sx"
      refine x_2 (fun h2 => ?_) fun h2 => ?_
      · walk_at "sx"
        refine x_rsfld upd_same T.cl T.n1 (by show 4 < 1000; decide) ?_
        rw [pt_st, upd_upd]
        walk_at "sx"
        rw [if_pos (V.str.inj h2)] at q1
        exact q1
      · rw [if_neg (fun z => h2 (by show V.str l.st = _; rw [z]))] at q1
        walk_at "sx"
        exact q1
def spLHears (K : PySem.W.Frag) (c : Nat → Addr) (C : Addr) : Sp := fun vs H Q E => ∃ (p dx : Addr) (l : Lf) (word : Str) (last : Bool), vs = [.ref p, .str word, .bl last] ∧ H p = some (LfO C dx l) ∧ (∀ b, (hearsR l word last).1 = some b → ∀ H', Same H H' → Q (.bl b) (upd H' p (LfO C dx (hearsR l word last).2))) ∧ ((hearsR l word last).1 = none → ∀ H', Same H H' → E (.ref (c 5)) none H')
theorem upd_self {H : Hp} {p : Addr} {o : HO} (h : H p = some o) : upd H p o = H := by
  funext b
  by_cases e : b = p
  · subst e; rw [upd_same, h]
  · rw [upd_ne e]
theorem ok_lhears (T : TxV w K mg c cL) : Mt P w K mg base 2 cL "hears" (spLHears K c cL) := by
  have MM : Mt P w K mg base 1 cL "may" (spLMay K cL) := ok_lmay T
  have Fn : Fn P w K mg base 1 "need" (spNeed c 5) := ok_need T
  obtain ⟨aW, gW, hW⟩ := T.gW
  obtain ⟨aB, gH, b1, b2, b3⟩ := T.gH
  refine mt_mk (ps := ["self", "word", "is_last"]) T.mHear T.cl (fun _ _ _ _ _ _ us hl => match us, hl with | [_, _, _], _ => rfl) fun f fd F => okN F sc_Life_hears (fun vs H Q E h => by obtain ⟨a, b, d, e, g, rfl, _⟩ := h; rfl) fun cdv A outer s H vs Q E hr h => ?_
  obtain ⟨p, dx, l, word, last, rfl, hp, q1, q2⟩ := h
  refine ⟨_, (pss_cons (ps_expr (q_fn Fn hr (pN rfl rfl rfl rfl) (pa_cons (pe_cmpR (ko_in K) (pv 1) (q_ref gW) rfl) pa_nil)))
    (pss_mid (ps_if ((pw_and (pt_cmpR op_eq (k_fld K (pv 0)) pe_str (nomark _)) (pw_and1 ((pw_or (pt_val (k_fld K (pv 0))) (pw_or1 (pt_cmpR op_eq (pv 1) pe_str (nomark _))))).pt))).pt
    (pss_one (ps_ret pe_bl))
    pss_nil)
    (pss_cons (ps_expr (q_fn Fn hr (pN rfl rfl rfl rfl) (pa_cons (pe_md MM hr pass0N (pv 0) (pa_cons (pv 1) (pa_cons (pv 2) (pa_cons (k_fld K (pv 0)) (pa_cons (pe_tup (pa_cons pe_str (pa_cons pe_str pa_nil))) pa_nil))))) pa_nil)))
    (pss_cons (ps_if (pt_cmpR op_eq (pv 1) pe_str (nomark _))
    (pss_cons (k_setf K (pv 0) pe_str)
      (pss_one (ps_ret pe_bl)))
    pss_nil)
    (pss_cons (k_setf K (pv 0) pe_bl)
    (pss_mid (ps_if (pt_val (pv 2))
    (pss_one (k_setf K (pv 0) (pe_ix (kx_kd K w) (q_ref gH) (k_fld K (pv 0)) (fun _ _ => rfl))))
    (pss_one (ps_if (pt_cmpR op_eq (k_fld K (pv 0)) pe_str (nomark _))
      (pss_one (k_setf K (pv 0) pe_str))
      pss_nil)))
    (pss_one (ps_ret pe_bl)))))))), ?_⟩
  rw [show L2.start ["self", "word", "is_last"] [V.ref p, .str word, .bl last] = [some (.ref p), some (.str word), some (.bl last)] from rfl]
  walk_at "sx"
  refine x_inTS wds (hW _) ?_
  refine ⟨_, rfl, fun hw => ?_, fun hw => q2 (by rw [hearsR, if_pos (of_decide_eq_false hw)]) H (Same.refl _)⟩
  have hw := of_decide_eq_true hw
  have go : ¬ (l.st = "over" ∧ (l.ct = true ∨ word = "cut")) → ∀ b H', Same H H' → (lmay l.st word last l.hh "open" "said" = b) → (b = true → Q (.bl true) (upd H' p (LfO cL dx (lhears l word last)))) ∧ (b = false → E (.ref (c 5)) none H') := by
    intro hn b H' s' hb
    refine ⟨fun h => ?_, fun h => ?_⟩
    · have := q1 true (by rw [hearsR, if_neg (fun z => z hw), if_neg hn, if_neg (by rw [hb, h]; simp)]) H' s'
      rw [hearsR, if_neg (fun z => z hw), if_neg hn, if_neg (by rw [hb, h]; simp)] at this
      exact this
    · exact q2 (by rw [hearsR, if_neg (fun z => z hw), if_neg hn, if_pos (by rw [hb, h])]) H' s'
  refine x_mid (fun σ H2 => σ = [some (.ref p), some (.str word), some (.bl last)] ∧ H2 = H ∧ ¬ (l.st = "over" ∧ (l.ct = true ∨ word = "cut"))) ?_ ?_
  · have no : (l.st = "over" ∧ (l.ct = true ∨ word = "cut")) → Q (.bl false) H := fun hn => by
      have := q1 false (by rw [hearsR, if_neg (fun z => z hw), if_pos hn]) H (Same.refl _)
      rw [hearsR, if_neg (fun z => z hw), if_pos hn, upd_self hp] at this
      exact this
    walk_at "sx"
    refine x_rfld hp T.cl T.n1 (lk_st _) ?_
    walk_at "sx"
    refine x_rEq rfl ?_
    walk_at "sx"
    refine x_2 (fun h1 => ?_) fun h1 => ?_
    · have h1' : l.st = "over" := V.str.inj h1
      walk_at "sx"
      refine x_rfld hp T.cl T.n4 (lk_ct _) ?_
      walk_at "sx"
      refine x_b (fun h2 => ?_) fun h2 => ?_
      · walk_at "sx"
        exact no ⟨h1', .inl h2⟩
      · walk_at "sx"
        refine x_rEq rfl ?_
        walk_at "sx"
        refine x_2 (fun h3 => ?_) fun h3 => ?_
        · walk_at "sx"
          exact no ⟨h1', .inr (V.str.inj h3)⟩
        · walk_at "sx"
          refine ⟨rfl, rfl, fun z => z.2.elim (fun e => absurd (h2.symm.trans e) Bool.false_ne_true) (fun e => h3 (by rw [e]))⟩
    · walk_at "sx"
      exact ⟨rfl, rfl, fun z => h1 (by rw [z.1])⟩
  rintro σ H2 ⟨rfl, rfl, hn⟩
  walk_at "sx"
  refine x_rmeth hp (lk_no l (by decide +kernel)) ?_
  walk_at "sx"
  refine x_rfld hp T.cl T.n3 (lk_hh _) ?_
  walk_at "sx"
  refine ⟨szle (by show 2 ≤ 100000; decide), fun p1 m1 => ?_⟩
  walk_at "sx"
  refine ⟨p, dx, l, word, last, l.hh, p1, "open", "said", rfl, upd_old m1 hp, SqT.of upd_same, fun H1 s1 => ?_⟩
  have s2 := (same_upd m1).trans s1
  have hp1 := s2 _ _ hp
  obtain ⟨g1, g2⟩ := go hn _ H1 s2 rfl
  refine ⟨_, rfl, fun hg => ?_, g2⟩
  have q1 := g1 hg
  walk_at "sx"
  refine x_rEq rfl ?_
  walk_at "sx"
  refine x_2 (fun e1 => ?_) fun e1 => ?_
  · have e1' : word = "cut" := V.str.inj e1
    walk_at "sx"
    refine x_rsfld hp1 T.cl T.n1 (by show 4 < 1000; decide) ?_
    rw [pt_st]
    walk_at "sx"
    rw [lhears, if_pos e1'] at q1
    exact q1
  · have e1' : ¬ word = "cut" := fun z => e1 (by rw [z])
    rw [lhears, if_neg e1'] at q1
    have hst : l.st = "idle" ∨ l.st = "open" ∨ l.st = "said" := lmay_st hg e1'
    walk_at "sx"
    refine x_rsfld hp1 T.cl T.n3 (by show 4 < 1000; decide) ?_
    rw [pt_hh]
    refine x_mid (fun σ H2 => σ = [some (.ref p), some (.str word), some (.bl last)] ∧ Q (.bl true) H2) ?_ ?_
    · walk_at "sx"
      refine x_b (fun h1 => ?_) fun h1 => ?_
      · rw [h1] at q1
        walk_at "sx"
        refine x_rfld upd_same T.cl T.n1 (lk_st _) ?_
        have kd : KDct K w aB l.st (.str (heardS l.st)) := by
          rcases hst with h | h | h <;> rw [h]
          · exact b1
          · exact b2
          · exact b3
        refine x_ixKD kd ?_
        walk_at "sx"
        refine x_rsfld upd_same T.cl T.n1 (by show 4 < 1000; decide) ?_
        rw [pt_st, upd_upd]
        walk_at "sx"
        exact ⟨rfl, q1⟩
      · rw [h1, if_neg Bool.false_ne_true] at q1
        walk_at "sx"
        refine x_rfld upd_same T.cl T.n1 (lk_st _) ?_
        walk_at "sx"
        refine x_rEq rfl ?_
        walk_at "sx"
        refine x_2 (fun h2 => ?_) fun h2 => ?_
        · walk_at "sx"
          refine x_rsfld upd_same T.cl T.n1 (by show 4 < 1000; decide) ?_
          rw [pt_st, upd_upd]
          walk_at "sx"
          rw [if_pos (V.str.inj h2)] at q1
          exact ⟨rfl, q1⟩
        · rw [if_neg (fun z => h2 (by show V.str l.st = _; rw [z]))] at q1
          walk_at "sx"
          exact ⟨rfl, q1⟩
    rintro σ H2 ⟨rfl, q⟩
    walk_at "sx"
    exact q
end
end Lw

set_option Elab.async false
set_option linter.all false
set_option maxRecDepth 100000
set_option maxHeartbeats 4000000
namespace Lw
open PySem PySem.Spec PyProof.Rows L2 HotX LamX Ws
local macro_rules | `(tactic| walk_at "sv") => `(tactic| (with_reducible first
  | refine x_v0 ?_ | refine x_v1 ?_ | refine x_v2 ?_ | refine x_v3 ?_ | refine x_v4 ?_ | refine x_v5 ?_ | refine x_v6 ?_ | refine x_v7 ?_ | refine x_v8 ?_ | refine x_v9 ?_ | refine x_v10 ?_ | refine x_v11 ?_ | refine x_v12 ?_ | refine x_v13 ?_ | refine x_v14 ?_ | refine x_v15 ?_ | refine x_v16 ?_ | refine x_v17 ?_ | refine x_v18 ?_ | refine x_v19 ?_ | refine x_v20 ?_ | refine x_v21 ?_ | refine x_v22 ?_ | refine x_v23 ?_ | refine x_v24 ?_ | refine x_v25 ?_ | refine x_v26 ?_ | refine x_v27 ?_))
local macro_rules | `(tactic| walk_at "sn") => `(tactic| (with_reducible first
  | refine x_n0 ?_ | refine x_n1 ?_ | refine x_n2 ?_ | refine x_n3 ?_ | refine x_n4 ?_ | refine x_n5 ?_ | refine x_n6 ?_ | refine x_n7 ?_ | refine x_n8 ?_ | refine x_n9 ?_ | refine x_n10 ?_ | refine x_n11 ?_ | refine x_n12 ?_ | refine x_n13 ?_ | refine x_n14 ?_ | refine x_n15 ?_ | refine x_n16 ?_ | refine x_n17 ?_ | refine x_n18 ?_ | refine x_n19 ?_ | refine x_n20 ?_ | refine x_n21 ?_ | refine x_n22 ?_ | refine x_n23 ?_ | refine x_n24 ?_ | refine x_n25 ?_ | refine x_n26 ?_ | refine x_n27 ?_))
local macro_rules | `(tactic| walk_at "s1") => `(tactic| (first | (with_reducible first
  | refine x_c ?_ | refine x_op ?_ | refine x_un ?_ | refine x_rU ?_ | refine x_rI0 ?_ | refine x_chain ?_ | refine x_ex ?_ | refine x_test ?_ | refine x_tB ?_
  | refine x_tAnd ?_ | refine x_tOr ?_ | refine x_tNot ?_ | refine x_andV ?_ | refine x_orV ?_ | refine x_notV ?_ | refine x_tIf ?_ | refine x_T ?_ | refine x_F ?_ | refine x_seq ?_ | refine x_next ?_ | refine x_asg ?_
  | refine x_ret ?_ | refine x_retN ?_ | refine x_ifS ?_ | refine x_drop ?_ | refine x_nil ?_ | refine x_cons ?_ | refine x_tup ?_ | refine x_lst ?_ | refine x_call ?_ | refine x_cb ?_ | refine x_meth ?_ | refine x_make ?_ | refine x_fld ?_ | refine x_sfld ?_
  | refine x_bm ?_ | refine x_bm0 ?_ | refine x_sl ?_ | refine x_part ?_ | refine x_iex ?_ | refine x_nopart ?_ | refine x_forR ?_ | refine x_forL ?_ | refine x_forE ?_ | refine x_lcL ?_ | refine x_lcR ?_ | refine x_gcons ?_ | refine x_gnil ?_ | refine x_revL ?_ | refine x_notN ?_ | refine x_isN ?_ | refine x_yes ?_ | refine x_dget ?_ | refine x_sdput ?_ | refine x_gsub ?_ | refine x_setD ?_ | refine x_pcons ?_ | refine x_pnil ?_ | refine x_cont ?_ | refine x_dget2 ?_) | walk_at "sv" | walk_at "sn"))
local macro_rules | `(tactic| walk_at "sx") => `(tactic| repeat walk_at "s1")
/-! ### a life by the law's own table: the plain law -/
structure Ow where
  s : Fin 3
  h : Fin 3
  o : Bool
  c : Bool
deriving DecidableEq
def Ow.inv (o : Ow) : Bool := !o.c || o.o
def stO (o : Ow) : Str := if o.o = true then "over" else if (o.s.val : Int) = 2 ∧ (o.h.val : Int) = 2 then "over" else if (o.s.val : Int) = 2 then "said" else if (o.h.val : Int) = 2 then "heard" else if (o.s.val : Int) + (o.h.val : Int) = 0 then "idle" else "open"
def valO (o : Ow) (sd : Str) : Int := if sd = "said" then o.s.val else o.h.val
def mayO (o : Ow) (sd word : Str) (last : Bool) : Bool :=
  if stO o = "over" ∨ ¬ word ∈ wds then false else if word = "cut" then !decide (stO o = "idle") else if valO o sd = 0 then decide (word = "heads") else decide (valO o sd = 1) && (decide (word = "piece") || last)
def lifeOf (o : Ow) : Lf := ⟨stO o, decide (o.s ≠ 0), decide (o.h ≠ 0), o.c⟩
def isOver (o : Ow) (word : Str) : Bool := o.c || (decide (word = "cut") && decide (stO o = "over"))
def dmO (o : Ow) (sd word : Str) (last : Bool) : Option (Option Bool) × Bool :=
  if sd = "heard" ∧ word ≠ "rank" ∧ isOver o word = true then (some (some false), false) else if sd = "heard" ∧ mayO o sd word last = true then (some (some true), mayO o sd word last) else (if mayO o sd word last = true then some none else none, mayO o sd word last)
def nextO (o : Ow) (sd word : Str) (last : Bool) : Ow :=
  if (dmO o sd word last).2 = true ∧ word = "cut" then { o with o := true, c := decide (sd = "said") } else if (dmO o sd word last).2 = true then (if sd = "said" then { o with s := if last then 2 else 1 } else { o with h := if last then 2 else 1 }) else o
def upO : Ow := ⟨0, 0, true, true⟩
theorem all_ow {p : Ow → Prop} (h : ∀ s h : Fin 3, ∀ o c : Bool, p ⟨s, h, o, c⟩) (o : Ow) : p o := by cases o; exact h ..
theorem pl_say (o : Ow) : ∀ word ∈ (["heads", "piece", "cut", "rank", ""] : List Str), ∀ last : Bool, maySay (lifeOf o) word last = mayO o "said" word last := by
  revert o
  refine all_ow ?_
  decide +kernel
theorem pl_dm (o : Ow) : ∀ word ∈ (["heads", "piece", "cut", "rank"] : List Str), ∀ last : Bool, (dmO o "said" word last).2 = mayO o "said" word last ∧ (dmO o "said" word last).1 = (if mayO o "said" word last = true then some none else none) ∧ (mayO o "said" word last = true → lsays (lifeOf o) word last = lifeOf (nextO o "said" word last)) ∧ (mayO o "said" word last = false → nextO o "said" word last = o) := by
  revert o
  refine all_ow ?_
  decide +kernel
theorem pl_hear (o : Ow) : o.inv = true → ∀ word ∈ (["heads", "piece", "cut", "rank"] : List Str), ∀ last : Bool, (hearsR (lifeOf o) word last).2 = lifeOf (nextO o "heard" word last) ∧ (∀ b : Bool, (hearsR (lifeOf o) word last).1 = some b → (dmO o "heard" word last).1 = some (some b)) ∧ ((hearsR (lifeOf o) word last).1 = none → (dmO o "heard" word last).1 = none ∧ nextO o "heard" word last = o) := by
  revert o
  refine all_ow ?_
  decide +kernel
theorem pl_inv (o : Ow) : o.inv = true → ∀ sd ∈ (["said", "heard"] : List Str), ∀ word ∈ (["heads", "piece", "cut", "rank"] : List Str), ∀ last : Bool, (nextO o sd word last).inv = true := by
  revert o
  refine all_ow ?_
  decide +kernel
theorem pl_up (o : Ow) : lifeOf { o with o := true, c := true } = { lifeOf o with st := "over", ct := true } := by
  revert o
  refine all_ow ?_
  decide +kernel
/-! ### two lives: the plain law -/
def nxt (l : Bool) : Fin 3 := if l = true then 2 else 1
def validW (h : Fin 3) (w : Str) (l : Bool) : Bool := if h = 0 then decide (w = "heads") else decide (h = 1) && (decide (w = "piece") || l)
def walkR : Fin 3 → List (Str × Bool) → Option (Fin 3 × Bool)
  | h, [] => some (h, false)
  | h, p :: r => if p.1 = "cut" then (if r = [] then some (h, true) else none) else if validW h p.1 p.2 = true then walkR (nxt p.2) r else none
theorem walkR_cons (h : Fin 3) (p : Str × Bool) (r : List (Str × Bool)) : walkR h (p :: r) = if p.1 = "cut" then (if r = [] then some (h, true) else none) else if validW h p.1 p.2 = true then walkR (nxt p.2) r else none := rfl
structure Dir (a b : Ow) (r : List (Str × Bool)) : Prop where
  main : b.c = true ∨ (stO b = "over" ∧ r = [] ∧ a.c = true) ∨ (b.o = false ∧ walkR b.h r = some (a.s, a.c))
  wd : ∀ p ∈ r, p.1 ∈ wds
  be : a.h ≠ 0 → b.s ≠ 0
  ov : a.o = true → a.c = true ∨ b.c = true
  ct : a.c = true → a.s ≠ 0 ∨ a.h ≠ 0
  inv : a.inv = true
theorem walkR_app (w : Str) (l : Bool) : ∀ (r : List (Str × Bool)) (h x : Fin 3), walkR h r = some (x, false) → walkR h (r ++ [(w, l)]) = if w = "cut" then some (x, true) else if validW x w l = true then some (nxt l, false) else none
  | [], h, x, e => by
    cases e
    rw [List.nil_append, walkR_cons, if_pos (rfl : ([] : List (Str × Bool)) = [])]
    rfl
  | p :: r, h, x, e => by
    rw [walkR_cons] at e
    by_cases hc : p.1 = "cut"
    · rw [if_pos hc] at e
      split at e <;> cases e
    · rw [if_neg hc] at e
      by_cases hv : validW h p.1 p.2 = true
      · rw [if_pos hv] at e
        rw [List.cons_append, walkR_cons, if_neg hc, if_pos hv]
        exact walkR_app w l r _ _ e
      · rw [if_neg hv] at e
        cases e
theorem walkR_le : ∀ (r : List (Str × Bool)) (h x : Fin 3) (c : Bool), walkR h r = some (x, c) → h ≠ 0 → x ≠ 0
  | [], h, x, c, e, n => by cases e; exact n
  | p :: r, h, x, c, e, n => by
    rw [walkR_cons] at e
    split at e
    · split at e
      · cases e; exact n
      · cases e
    · split at e
      · exact walkR_le r _ _ _ e (by unfold nxt; split <;> decide)
      · cases e
theorem f_say (a : Ow) : a.inv = true → ∀ w ∈ wds, ∀ l : Bool, mayO a "said" w l = true → a.o = false ∧ a.c = false ∧ (nextO a "said" w l).h = a.h ∧ (nextO a "said" w l).inv = true ∧ (w = "cut" → (nextO a "said" w l).s = a.s ∧ (nextO a "said" w l).c = true ∧ (nextO a "said" w l).o = true ∧ (a.s ≠ 0 ∨ a.h ≠ 0)) ∧ (w ≠ "cut" → validW a.s w l = true ∧ (nextO a "said" w l).s = nxt l ∧ (nextO a "said" w l).c = false ∧ (nextO a "said" w l).o = false) := by
  revert a
  refine all_ow ?_
  decide +kernel
theorem say_ok {a b : Ow} {r r2 : List (Str × Bool)} (D1 : Dir a b r) (D2 : Dir b a r2) {w : Str} {l : Bool} (hw : w ∈ wds) (hm : mayO a "said" w l = true) :
    Dir (nextO a "said" w l) b (r ++ [(w, l)]) ∧ Dir b (nextO a "said" w l) r2 ∧ (nextO a "said" w l).c = decide (w = "cut") := by
  obtain ⟨f1, f2, f3, f4, f5, f6⟩ := f_say a D1.inv w hw l hm
  generalize nextO a "said" w l = a' at *
  have hs : b.h ≠ 0 → a'.s ≠ 0 := fun h => by
    have := D2.be h
    by_cases hc : w = "cut"
    · rw [(f5 hc).1]; exact this
    · rw [(f6 hc).2.1]; unfold nxt; split <;> decide
  refine ⟨⟨?_, ?_, ?_, ?_, ?_, f4⟩, ⟨?_, D2.wd, hs, ?_, D2.ct, D2.inv⟩, ?_⟩
  · rcases D1.main with h | ⟨_, _, h⟩ | ⟨h1, h2⟩
    · exact .inl h
    · rw [f2] at h; cases h
    · refine .inr (.inr ⟨h1, ?_⟩)
      rw [f2] at h2
      rw [walkR_app w l r b.h a.s h2]
      by_cases hc : w = "cut"
      · rw [if_pos hc, (f5 hc).1, (f5 hc).2.1]
      · rw [if_neg hc, if_pos (f6 hc).1, (f6 hc).2.1, (f6 hc).2.2.1]
  · intro p hp
    rcases List.mem_append.mp hp with h | h
    · exact D1.wd p h
    · rw [List.mem_singleton.mp h]; exact hw
  · intro h; rw [f3] at h; exact D1.be h
  · intro h
    by_cases hc : w = "cut"
    · exact .inl (f5 hc).2.1
    · rw [(f6 hc).2.2.2] at h; cases h
  · intro h
    by_cases hc : w = "cut"
    · rw [(f5 hc).1, f3]; exact (f5 hc).2.2.2
    · rw [(f6 hc).2.2.1] at h; cases h
  · by_cases hc : w = "cut"
    · exact .inl (f5 hc).2.1
    · rcases D2.main with h | ⟨h1, h2, h3⟩ | ⟨h1, h2⟩
      · rw [f2] at h; cases h
      · have := D2.inv
        unfold Ow.inv at this
        rw [h3] at this
        rcases D2.ov (by simpa using this) with _ | h
        · exfalso
          -- a is not over
          have hno : ∀ a : Ow, ∀ w ∈ wds, ∀ l : Bool, mayO a "said" w l = true → stO a ≠ "over" := by
            refine all_ow ?_
            decide +kernel
          exact hno a w hw l hm h1
        · rw [f2] at h; cases h
      · refine .inr (.inr ⟨(f6 hc).2.2.2, ?_⟩)
        rw [f3]; exact h2
  · intro h
    rcases D2.ov h with h | h
    · exact .inl h
    · rw [f2] at h; cases h
  · by_cases hc : w = "cut"
    · rw [(f5 hc).2.1, decide_eq_true hc]
    · rw [(f6 hc).2.2.1, decide_eq_false hc]
theorem f_hear1 (b : Ow) : b.inv = true → ∀ w ∈ wds, ∀ l : Bool, b.c = true → (hearsR (lifeOf b) w l).1 = some false ∧ nextO b "heard" w l = b := by
  revert b
  refine all_ow ?_
  decide +kernel
theorem f_hear2 (b : Ow) : b.inv = true → ∀ w ∈ wds, ∀ l : Bool, (b.o = false ∧ w = "cut" ∧ stO b = "over") → (hearsR (lifeOf b) w l).1 = some false ∧ nextO b "heard" w l = b := by
  revert b
  refine all_ow ?_
  decide +kernel
theorem f_hear3 (b : Ow) : b.inv = true → ∀ w ∈ wds, ∀ l : Bool, (b.o = false ∧ w = "cut" ∧ stO b ≠ "over" ∧ (b.s ≠ 0 ∨ b.h ≠ 0)) → (hearsR (lifeOf b) w l).1 = some true ∧ nextO b "heard" w l = { b with o := true, c := false } := by
  revert b
  refine all_ow ?_
  decide +kernel
theorem f_hear4 (b : Ow) : b.inv = true → ∀ w ∈ wds, ∀ l : Bool, (b.o = false ∧ w ≠ "cut" ∧ validW b.h w l = true) → (hearsR (lifeOf b) w l).1 = some true ∧ nextO b "heard" w l = { b with h := nxt l } := by
  revert b
  refine all_ow ?_
  decide +kernel
theorem st_up (s h : Fin 3) (c : Bool) : stO ⟨s, h, true, c⟩ = "over" := rfl
theorem hear_ok {a b : Ow} {r r2 : List (Str × Bool)} {p : Str × Bool} (D1 : Dir a b (p :: r)) (D2 : Dir b a r2) :
    (∃ x, (hearsR (lifeOf b) p.1 p.2).1 = some x) ∧ Dir a (nextO b "heard" p.1 p.2) r ∧ Dir (nextO b "heard" p.1 p.2) a r2 ∧ (nextO b "heard" p.1 p.2).c = b.c := by
  have hw := D1.wd p List.mem_cons_self
  have g1 := f_hear1 b D2.inv p.1 hw p.2
  have g2 := f_hear2 b D2.inv p.1 hw p.2
  have g3 := f_hear3 b D2.inv p.1 hw p.2
  have g4 := f_hear4 b D2.inv p.1 hw p.2
  have wd : ∀ p ∈ r, p.1 ∈ wds := fun q hq => D1.wd q (List.mem_cons_of_mem _ hq)
  rcases D1.main with h | ⟨_, h, _⟩ | ⟨h1, h2⟩
  · obtain ⟨e1, e2⟩ := g1 h
    rw [e2]
    exact ⟨⟨_, e1⟩, ⟨.inl h, wd, D1.be, D1.ov, D1.ct, D1.inv⟩, D2, rfl⟩
  · cases h
  · have hbc : b.c = false := by
      have := D2.inv
      unfold Ow.inv at this
      rw [h1] at this
      simpa using this
    rw [walkR_cons] at h2
    by_cases hc : p.1 = "cut"
    · rw [if_pos hc] at h2
      by_cases hr : r = []
      · rw [if_pos hr] at h2
        have e1 : b.h = a.s := by injection h2 with h2; exact (Prod.mk.inj h2).1
        have e2 : a.c = true := by injection h2 with h2; exact (Prod.mk.inj h2).2.symm
        by_cases ho : stO b = "over"
        · obtain ⟨x1, x2⟩ := g2 ⟨h1, hc, ho⟩
          rw [x2]
          exact ⟨⟨_, x1⟩, ⟨.inr (.inl ⟨ho, hr, e2⟩), wd, D1.be, D1.ov, D1.ct, D1.inv⟩, D2, rfl⟩
        · have hsh : b.s ≠ 0 ∨ b.h ≠ 0 := by
            rcases D1.ct e2 with h | h
            · exact .inr (by rw [e1]; exact h)
            · exact .inl (D1.be h)
          obtain ⟨x1, x2⟩ := g3 ⟨h1, hc, ho, hsh⟩
          rw [x2]
          refine ⟨⟨_, x1⟩, ⟨.inr (.inl ⟨st_up _ _ _, hr, e2⟩), wd, D1.be, fun _ => .inl e2, D1.ct, D1.inv⟩, ⟨.inl e2, D2.wd, D2.be, fun _ => .inr e2, (fun h => nomatch h), rfl⟩, hbc.symm⟩
      · rw [if_neg hr] at h2
        cases h2
    · rw [if_neg hc] at h2
      by_cases hv : validW b.h p.1 p.2 = true
      · rw [if_pos hv] at h2
        obtain ⟨x1, x2⟩ := g4 ⟨h1, hc, hv⟩
        rw [x2]
        have hn : nxt p.2 ≠ 0 := by unfold nxt; split <;> decide
        refine ⟨⟨_, x1⟩, ⟨.inr (.inr ⟨h1, h2⟩), wd, D1.be, D1.ov, D1.ct, D1.inv⟩, ⟨D2.main, D2.wd, fun _ => walkR_le _ _ _ _ h2 hn, D2.ov, ?_, ?_⟩, rfl⟩
        · intro h
          exact .inr hn
        · exact D2.inv
      · rw [if_neg hv] at h2
        cases h2
def mirS (s : Str) : Str := if s = "said" then "heard" else if s = "heard" then "said" else s
theorem st_ov (a : Ow) : a.inv = true → a.c = true → stO a = "over" := by
  revert a
  refine all_ow ?_
  decide +kernel
theorem st_mir : ∀ s h : Fin 3, stO ⟨h, s, false, false⟩ = mirS (stO ⟨s, h, false, false⟩) := by decide +kernel
theorem end_cut {a b : Ow} (D1 : Dir a b []) (D2 : Dir b a []) (h : a.c = true) : stO a = "over" ∧ stO b = "over" := by
  refine ⟨st_ov a D1.inv h, ?_⟩
  rcases D1.main with h1 | ⟨h1, _⟩ | ⟨h1, h2⟩
  · exact st_ov b D2.inv h1
  · exact h1
  · rw [h] at h2
    have h3 : some (b.h, false) = some (a.s, true) := h2
    injection h3 with h3
    exact absurd (Prod.mk.inj h3).2 Bool.false_ne_true
theorem end_mir {a b : Ow} (D1 : Dir a b []) (D2 : Dir b a []) (h1 : a.c = false) (h2 : b.c = false) : stO b = mirS (stO a) := by
  have o1 : a.o = false := by
    cases e : a.o with
    | false => rfl
    | true => rcases D1.ov e with h | h <;> simp_all
  have o2 : b.o = false := by
    cases e : b.o with
    | false => rfl
    | true => rcases D2.ov e with h | h <;> simp_all
  have e1 : b.h = a.s := by
    rcases D1.main with h | ⟨_, _, h⟩ | ⟨_, h⟩
    · rw [h2] at h; cases h
    · rw [h1] at h; cases h
    · injection h with h; exact (Prod.mk.inj h).1
  have e2 : a.h = b.s := by
    rcases D2.main with h | ⟨_, _, h⟩ | ⟨_, h⟩
    · rw [h1] at h; cases h
    · rw [h2] at h; cases h
    · injection h with h; exact (Prod.mk.inj h).1
  obtain ⟨as, ah, ao, ac⟩ := a
  obtain ⟨bs, bh, bo, bc⟩ := b
  dsimp only at *
  subst h1 h2 o1 o2 e1 e2
  exact st_mir _ _
end Lw

set_option Elab.async false
set_option linter.all false
set_option maxRecDepth 100000
set_option maxHeartbeats 4000000
namespace Lw
open PySem PySem.Spec PyProof.Rows L2 HotX LamX Ws
local macro_rules | `(tactic| walk_at "sv") => `(tactic| (with_reducible first
  | refine x_v0 ?_ | refine x_v1 ?_ | refine x_v2 ?_ | refine x_v3 ?_ | refine x_v4 ?_ | refine x_v5 ?_ | refine x_v6 ?_ | refine x_v7 ?_ | refine x_v8 ?_ | refine x_v9 ?_ | refine x_v10 ?_ | refine x_v11 ?_ | refine x_v12 ?_ | refine x_v13 ?_ | refine x_v14 ?_ | refine x_v15 ?_ | refine x_v16 ?_ | refine x_v17 ?_ | refine x_v18 ?_ | refine x_v19 ?_ | refine x_v20 ?_ | refine x_v21 ?_ | refine x_v22 ?_ | refine x_v23 ?_ | refine x_v24 ?_ | refine x_v25 ?_ | refine x_v26 ?_ | refine x_v27 ?_))
local macro_rules | `(tactic| walk_at "sn") => `(tactic| (with_reducible first
  | refine x_n0 ?_ | refine x_n1 ?_ | refine x_n2 ?_ | refine x_n3 ?_ | refine x_n4 ?_ | refine x_n5 ?_ | refine x_n6 ?_ | refine x_n7 ?_ | refine x_n8 ?_ | refine x_n9 ?_ | refine x_n10 ?_ | refine x_n11 ?_ | refine x_n12 ?_ | refine x_n13 ?_ | refine x_n14 ?_ | refine x_n15 ?_ | refine x_n16 ?_ | refine x_n17 ?_ | refine x_n18 ?_ | refine x_n19 ?_ | refine x_n20 ?_ | refine x_n21 ?_ | refine x_n22 ?_ | refine x_n23 ?_ | refine x_n24 ?_ | refine x_n25 ?_ | refine x_n26 ?_ | refine x_n27 ?_))
local macro_rules | `(tactic| walk_at "s1") => `(tactic| (first | (with_reducible first
  | refine x_c ?_ | refine x_op ?_ | refine x_un ?_ | refine x_rU ?_ | refine x_rI0 ?_ | refine x_chain ?_ | refine x_ex ?_ | refine x_test ?_ | refine x_tB ?_
  | refine x_tAnd ?_ | refine x_tOr ?_ | refine x_tNot ?_ | refine x_andV ?_ | refine x_orV ?_ | refine x_notV ?_ | refine x_tIf ?_ | refine x_T ?_ | refine x_F ?_ | refine x_seq ?_ | refine x_next ?_ | refine x_asg ?_
  | refine x_ret ?_ | refine x_retN ?_ | refine x_ifS ?_ | refine x_drop ?_ | refine x_nil ?_ | refine x_cons ?_ | refine x_tup ?_ | refine x_lst ?_ | refine x_call ?_ | refine x_cb ?_ | refine x_meth ?_ | refine x_make ?_ | refine x_fld ?_ | refine x_sfld ?_
  | refine x_bm ?_ | refine x_bm0 ?_ | refine x_sl ?_ | refine x_part ?_ | refine x_iex ?_ | refine x_nopart ?_ | refine x_forR ?_ | refine x_forL ?_ | refine x_forE ?_ | refine x_lcL ?_ | refine x_lcR ?_ | refine x_gcons ?_ | refine x_gnil ?_ | refine x_revL ?_ | refine x_notN ?_ | refine x_isN ?_ | refine x_yes ?_ | refine x_dget ?_ | refine x_sdput ?_ | refine x_gsub ?_ | refine x_setD ?_ | refine x_pcons ?_ | refine x_pnil ?_ | refine x_cont ?_ | refine x_dget2 ?_) | walk_at "sv" | walk_at "sn"))
local macro_rules | `(tactic| walk_at "sx") => `(tactic| repeat walk_at "s1")
section
variable {P : Program} {w : World} {K : PySem.W.Frag} {mg : Str → Option Value} {base : Heap} {c : Nat → Addr} {cL cc PP : Addr}
structure TxL (w : World) (K : PySem.W.Frag) (mg : Str → Option Value) (c : Nat → Addr) (cL cc : Addr) : Prop where
  h : Hlp K mg c
  v : TxV w K mg c cL
  n_range : mg "range" = none
  n_max : mg "max" = none
  n_min : mg "min" = none
  n_len : mg "len" = none
  n_isinstance : mg "isinstance" = none
  n_bool : mg "bool" = none
  dL : LamAt K mg "law" s_law cc
abbrev Tb (PP : Addr) : List (Addr × Str) := [(PP, qL "law")]
theorem mT {PP : Addr} : (PP, qL "law") ∈ Tb PP := List.mem_cons_self
theorem uT {PP : Addr} : ∀ p ∈ Tb PP, p.1 = PP → p.2 = qL "law" := fun p hp _ => by rw [List.mem_singleton.mp hp]
def spLaw (K : PySem.W.Frag) (PP : Addr) : Sp := fun vs H Q _ => ∃ (a : Addr) (ns : List Int), vs = [.ref a] ∧ SqL K H a (ns.map V.int) ∧ ns.length ≤ 63 ∧ H PP = some (.tbl #[]) ∧ ∀ H', Q (.bl true) H'
theorem tabs_mut {T : List (Addr × Str)} {H : Hp} {p : Addr} {o o' : HO} (t : Tabs T H) (h : H p = some o) (hw : Wr o = true) : Tabs T (upd H p o') := ((⟨(fun v e => nomatch e), t⟩ : Sv 0 none T H).mut h hw (fun v e => nomatch e)).tabs
theorem pickS (ls : List Str) (i : Int) (h0 : 0 ≤ i) (h1 : i < ls.length) : ∃ z ∈ ls, atI (ls.map V.str) i = some (.str z) := by
  have hl : i.toNat < ls.length := by omega
  exact ⟨ls[i.toNat], List.getElem_mem hl, atI_get h0 (by rw [List.getElem?_map, List.getElem?_eq_getElem hl]; rfl)⟩
/-! words on a road -/
def Wd (H : Hp) (v : V) (d : Str × Bool) : Prop := ∃ p, v = .ref p ∧ H p = some (.tup [.str d.1, .bl d.2])
theorem prd_app {α β : Type} {F : α → β → Prop} : ∀ {xs xs' : List α} {ys ys' : List β}, Paired F xs ys → Paired F xs' ys' → Paired F (xs ++ xs') (ys ++ ys')
  | _, _, _, _, .nil, s => s
  | _, _, _, _, .cons r t, s => .cons r (prd_app t s)
theorem prd_get {α β : Type} {F : α → β → Prop} : ∀ {xs : List α} {ys : List β} {i : Nat} {x : α}, Paired F xs ys → xs[i]? = some x → ∃ y, ys[i]? = some y ∧ F x y
  | _, _, _, _, .nil, e => by simp at e
  | _, _, 0, _, .cons r _, e => by simp at e; subst e; exact ⟨_, rfl, r⟩
  | _, _, i + 1, x, .cons _ t, e => by
    obtain ⟨u, h1, h2⟩ := prd_get (i := i) (x := x) t (by simpa using e)
    exact ⟨u, by simpa using h1, h2⟩
abbrev pdW (d : Str × Bool) : PyData := .tuple [.str d.1, .bool d.2]
theorem ok_wds : ∀ x ∈ wds, PyData.strOk x = true := by decide +kernel
theorem lay_ws : ∀ r : List (Str × Bool), (∀ p ∈ r, p.1 ∈ wds) → PyData.canLayAll0 (r.map pdW) = true
  | [], _ => by simp [PyData.canLayAll0]
  | n :: r, h => by
    have := lay_ws r fun p hp => h p (List.mem_cons_of_mem _ hp)
    have h2 := ok_wds n.1 (h n List.mem_cons_self)
    simp [PyData.canLayAll0, PyData.canLay0, this, h2]
theorem depth_ws : ∀ r : List (Str × Bool), PyData.depthAll (r.map pdW) ≤ 1
  | [] => by simp [PyData.depthAll]
  | n :: r => by
    have := depth_ws r
    simp [PyData.depthAll, PyData.depth]
    omega
theorem shp_ws (r : List (Str × Bool)) (h : ∀ p ∈ r, p.1 ∈ wds) : SeqAt.shaped (.list (r.map pdW)) = true := by
  have := depth_ws r
  simp [SeqAt.shaped, PyData.canLay0, PyData.depth, lay_ws r h]
  omega
theorem dpa_ws {H : Hp} : ∀ {xs : List V} {r : List (Str × Bool)}, Paired (Wd H) xs r → DpAll K H xs (r.map pdW)
  | _, _, .nil => .nil
  | _, _, .cons ⟨p, e, h⟩ t => by subst e; exact .cons (.tup (SqT.of h) (.cons (.str _) (.cons (.bl _) .nil))) (dpa_ws t)
theorem eqv_nil (r : List (Str × Bool)) : PyData.eqv (.list (r.map pdW)) (.list []) = decide (r = []) := by
  cases r with
  | nil => simp [PyData.eqv, PyData.eqvAll]
  | cons p r => simp [PyData.eqv, PyData.eqvAll]
/-! two lives, two roads -/
def setB {α : Type} (f : Bool → α) (t : Bool) (v : α) : Bool → α := fun u => if u = t then v else f u
theorem setB_at {α : Type} (f : Bool → α) (t : Bool) (v : α) : setB f t v t = v := by simp [setB]
theorem setB_no {α : Type} (f : Bool → α) (t : Bool) (v : α) : setB f t v (!t) = f (!t) := by cases t <;> simp [setB]
structure Sy (C : Addr) (H : Hp) (x dx q : Bool → Addr) (o : Bool → Ow) (xs : Bool → List V) (r : Bool → List (Str × Bool)) : Prop where
  lf : ∀ t, H (x t) = some (LfO C (dx t) (lifeOf (o t)))
  rd : ∀ t, H (q t) = some (.lst (xs t))
  pr : ∀ t, Paired (Wd H) (xs t) (r t)
  nx : ∀ t, x t ≠ x (!t)
  nq : ∀ t, q t ≠ q (!t)
theorem Sy.ext {C : Addr} {H H' : Hp} {x dx q : Bool → Addr} {o : Bool → Ow} {xs : Bool → List V} {r : Bool → List (Str × Bool)} (S : Sy C H x dx q o xs r) (e : ExtN H H') : Sy C H' x dx q o xs r :=
  ⟨fun t => e _ _ (S.lf t) (fun _ z => nomatch z), fun t => e _ _ (S.rd t) (fun _ z => nomatch z), fun t => Paired.mapP (S.pr t) fun _ _ ⟨p, a, b⟩ => ⟨p, a, e _ _ b (fun _ z => nomatch z)⟩, S.nx, S.nq⟩
theorem Sy.life {C : Addr} {H : Hp} {x dx q : Bool → Addr} {o : Bool → Ow} {xs : Bool → List V} {r : Bool → List (Str × Bool)} (S : Sy C H x dx q o xs r) (t : Bool) (o' : Ow) : Sy C (upd H (x t) (LfO C (dx t) (lifeOf o'))) x dx q (setB o t o') xs r := by
  have no : ∀ b u, H b = some u → (∀ c d f, u ≠ .ins c d f) → upd H (x t) (LfO C (dx t) (lifeOf o')) b = some u := fun b u h n => by
    rw [upd_ne (fun z => by rw [z, S.lf t] at h; injection h with h; exact n _ _ _ h.symm)]; exact h
  refine ⟨fun s => ?_, fun s => no _ _ (S.rd s) (fun _ _ _ z => nomatch z), fun s => Paired.mapP (S.pr s) fun _ _ ⟨p, a, b⟩ => ⟨p, a, no _ _ b (fun _ _ _ z => nomatch z)⟩, S.nx, S.nq⟩
  by_cases hs : s = t
  · subst hs; rw [setB_at, upd_same]
  · have hs : s = !t := by cases s <;> cases t <;> simp_all
    subst hs
    rw [setB_no, upd_ne (fun z => S.nx t z.symm)]
    exact S.lf _
theorem Sy.road {C : Addr} {H : Hp} {x dx q : Bool → Addr} {o : Bool → Ow} {xs : Bool → List V} {r : Bool → List (Str × Bool)} (S : Sy C H x dx q o xs r) (t : Bool) {ys : List V} {r' : List (Str × Bool)} (h : Paired (Wd H) ys r') : Sy C (upd H (q t) (.lst ys)) x dx q o (setB xs t ys) (setB r t r') := by
  have no : ∀ b u, H b = some u → (∀ l, u ≠ .lst l) → upd H (q t) (.lst ys) b = some u := fun b u h n => by
    rw [upd_ne (fun z => by rw [z, S.rd t] at h; injection h with h; exact n _ h.symm)]; exact h
  have ww : ∀ {v d}, Wd H v d → Wd (upd H (q t) (.lst ys)) v d := fun ⟨p, a, b⟩ => ⟨p, a, no _ _ b (fun _ z => nomatch z)⟩
  refine ⟨fun s => no _ _ (S.lf s) (fun _ z => nomatch z), fun s => ?_, fun s => ?_, S.nx, S.nq⟩
  · by_cases hs : s = t
    · subst hs; rw [setB_at, upd_same]
    · have hs : s = !t := by cases s <;> cases t <;> simp_all
      subst hs
      rw [setB_no, upd_ne (fun z => S.nq t z.symm)]
      exact S.rd _
  · by_cases hs : s = t
    · subst hs; rw [setB_at, setB_at]; exact Paired.mapP h fun _ _ z => ww z
    · have hs : s = !t := by cases s <;> cases t <;> simp_all
      subst hs
      rw [setB_no, setB_no]
      exact Paired.mapP (S.pr _) fun _ _ z => ww z
abbrev Dirs (o : Bool → Ow) (r : Bool → List (Str × Bool)) : Prop := ∀ t, Dir (o t) (o (!t)) (r t)
theorem dirs_say {o : Bool → Ow} {r : Bool → List (Str × Bool)} (D : Dirs o r) (t : Bool) {wd : Str} {l : Bool} (hw : wd ∈ wds) (hm : mayO (o t) "said" wd l = true) :
    Dirs (setB o t (nextO (o t) "said" wd l)) (setB r t (r t ++ [(wd, l)])) ∧ (nextO (o t) "said" wd l).c = decide (wd = "cut") := by
  have D2 := D (!t)
  rw [Bool.not_not] at D2
  obtain ⟨h1, h2, h3⟩ := say_ok (D t) D2 hw hm
  refine ⟨fun s => ?_, h3⟩
  by_cases hs : s = t
  · subst hs; rw [setB_at, setB_at, setB_no]; exact h1
  · have hs : s = !t := by cases s <;> cases t <;> simp_all
    subst hs
    rw [setB_no, setB_no, Bool.not_not, setB_at]; exact h2
theorem dirs_hear {o : Bool → Ow} {r : Bool → List (Str × Bool)} (D : Dirs o r) (t : Bool) {p : Str × Bool} {r' : List (Str × Bool)} (hr : r (!t) = p :: r') :
    (∃ b, (hearsR (lifeOf (o t)) p.1 p.2).1 = some b) ∧ Dirs (setB o t (nextO (o t) "heard" p.1 p.2)) (setB r (!t) r') ∧ (nextO (o t) "heard" p.1 p.2).c = (o t).c := by
  have D2 := D (!t)
  rw [Bool.not_not, hr] at D2
  obtain ⟨h0, h1, h2, h3⟩ := hear_ok D2 (D t)
  refine ⟨h0, fun s => ?_, h3⟩
  by_cases hs : s = t
  · subst hs
    rw [setB_at, setB_no]
    have : setB r (!s) r' s = r s := by cases s <;> rfl
    rw [this]; exact h2
  · have hs : s = !t := by cases s <;> cases t <;> simp_all
    subst hs
    rw [setB_at, setB_no, Bool.not_not, setB_at]; exact h1
abbrev bi (t : Bool) : Int := if t = true then 1 else 0
theorem at_bi (f : Bool → Addr) (t : Bool) : atI [V.ref (f false), .ref (f true)] (bi t) = some (.ref (f t)) := by cases t <;> rfl
theorem at_bi1 (f : Bool → Addr) (t : Bool) : atI [V.ref (f false), .ref (f true)] (1 - bi t) = some (.ref (f (!t))) := by cases t <;> rfl
theorem setB_setB {α : Type} (f : Bool → α) (t : Bool) (v v' : α) : setB (setB f t v) t v' = setB f t v' := by
  funext u
  unfold setB
  split <;> rfl
abbrev remN (r : Bool → List (Str × Bool)) (n : Nat) : Bool → List (Str × Bool) := fun t => if (t = true ∧ 1 ≤ n) ∨ (t = false ∧ 2 ≤ n) then [] else r t
theorem remN_set (r : Bool → List (Str × Bool)) : setB (remN r 0) true [] = remN r 1 ∧ setB (remN r 1) false [] = remN r 2 := by
  constructor <;> (funext u; cases u <;> simp [setB, remN])
theorem val_mir (s : Str) : (valV [((Sum.inr "said" : Key), V.str "heard"), (Sum.inr "heard", .str "said")] (Sum.inr s)).getD (.str s) = .str (mirS s) := by
  by_cases h1 : s = "said"
  · subst h1; rfl
  · by_cases h2 : s = "heard"
    · subst h2; rfl
    · have e1 : ¬ ((Sum.inr "said" : Key) = Sum.inr s) := fun z => h1 (Sum.inr.inj z).symm
      have e2 : ¬ ((Sum.inr "heard" : Key) = Sum.inr s) := fun z => h2 (Sum.inr.inj z).symm
      rw [mirS, if_neg h1, if_neg h2, valV, List.find?_cons_of_neg (by simpa using e1), List.find?_cons_of_neg (by simpa using e2)]
      rfl
theorem ok_law (T : TxL w K mg c cL cc) (TB : TabB base mg cc PP) {f : Addr} {oc : Value} {od an : Option Addr} {osl : Array (Option Value)} {kV doc pm ct : Value} (lk : K.lookup f = some ⟨oc, od, .func (PySem.W.fnOf "law" "law" (defArgs s_law) (defBody s_law) (defScope s_law) .none kV doc pm an (.ref cc) ct), osl⟩) (hcd : PySem.W.codeIn K (.ref cc) "law" = true) :
    FnOk P w K mg base (L2N.CX P w) 7 f (PySem.W.fnOf "law" "law" (defArgs s_law) (defBody s_law) (defScope s_law) .none kV doc pm an (.ref cc) ct) ["script"] (spLaw K PP) := by
  have FC : Fn P w K mg base 1 "_law_cell" (spCell K) := ok_cell T.h
  have FD : Fn P w K mg base 1 "_law_drawn" spDrawn := ok_drawn T.h
  have MI : Mr P w K mg base 1 "Life" cL (spLInit cL) := ok_linit T.v
  have MS : Mt P w K mg base 1 cL "state" (spLState cL) := ok_lstate T.v
  have MM : Mt P w K mg base 2 cL "may_say" (spLMaySay K cL) := ok_lmaysay T.v
  have MY : Mt P w K mg base 3 cL "says" (spLSays K c cL) := ok_lsays T.v
  have MH : Mt P w K mg base 2 cL "hears" (spLHears K c cL) := ok_lhears T.v
  refine okL lk hcd sc_law (fun vs H Q E h => by obtain ⟨a, ns, rfl, _⟩ := h; rfl) fun A outer s H vs Q E hr h => ?_
  obtain ⟨a, ns, rfl, hS, hlen, hP, q⟩ := h
  have hu : A.units + 3 + 64 < cLine := by have := hr.un; have e : (A.deeper (envOfC "law" (defScope s_law) s.heap.objs.size f (.ref cc))).units = A.units + 3 := rfl; omega
  have hv : A.units + 3 + 1 < cLine := by omega
  have hrT : Room (3 + 2) _ := hr.mono (j := 5) (by decide)
  refine ⟨_, (pss_cons (ps_for PassesOwn.leaving rfl (q_range T.n_range (pa_cons (q_cb (c_max rfl) T.n_max bb_max (pa_cons pe_int (pa_cons (q_cb (c_min rfl) T.n_min bb_min (pa_cons pe_int (pa_cons (q_cb (kc_len K) T.n_len bb_len (pa_cons (pv 0) pa_nil)) pa_nil))) pa_nil))) pa_nil)) (pg_name (i := 1) sc_law.nd rfl (by first | exact Or.inl rfl | exact Or.inr rfl))
    (pss_cons (ps_set (i := 2) sc_law.nd rfl (by first | exact Or.inl rfl | exact Or.inr rfl) (q_fn FD hr pass0N (pa_cons (q_fn FC hr pass0N (pa_cons (pv 0) (pa_cons (pv 1) pa_nil))) (pa_cons (pv 1) pa_nil))))
      (pss_cons (ps_set (i := 3) sc_law.nd rfl (by first | exact Or.inl rfl | exact Or.inr rfl) (pe_lst (pa_cons (q_mr0 MI hr pass0N) (pa_cons (q_mr0 MI hr pass0N) pa_nil))))
      (pss_cons (ps_set (i := 4) sc_law.nd rfl (by first | exact Or.inl rfl | exact Or.inr rfl) (pe_lst (pa_cons (pe_lst pa_nil) (pa_cons (pe_lst pa_nil) pa_nil))))
      (pss_cons (ps_set (i := 5) sc_law.nd rfl (by first | exact Or.inl rfl | exact Or.inr rfl) pe_bl)
      (pss_cons (ps_for PassesOwn.leaving rfl (q_range T.n_range (pa_cons (pe_op op_add pe_int (pe_op op_mod (pv 2) pe_int)) pa_nil)) (pg_name (i := 6) sc_law.nd rfl (by first | exact Or.inl rfl | exact Or.inr rfl))
      (pss_cons (ps_set (i := 7) sc_law.nd rfl (by first | exact Or.inl rfl | exact Or.inr rfl) (q_fn FD hr pass0N (pa_cons (pv 2) (pa_cons (pe_op op_add pe_int (pv 6)) pa_nil))))
        (pss_cons (ps_set (i := 8) sc_law.nd rfl (by first | exact Or.inl rfl | exact Or.inr rfl) (pe_op op_mod (pv 7) pe_int))
        (pss_one (ps_if (pt_mid ((pw_and (pt_cmpR op_eq (pe_op op_mod (pe_op op_fdiv (pv 7) pe_int) pe_int) pe_int (nomark _)) (pw_and1 (pt_cmpR (ko_neD K hu) (pe_ix (kx_list K) (pv 4) (pe_op op_sub pe_int (pv 8)) (fun _ _ => rfl)) (pe_lst pa_nil) (nomark _))))).pt)
        (pss_cons (ps_asg (k_bm K PySem.F.plainAttrs_list PySem.F.slot_list_pop PySem.F.type_list_pop mt_popAt (pe_ix (kx_list K) (pv 4) (pe_op op_sub pe_int (pv 8)) (fun _ _ => rfl)) (pa_cons pe_int pa_nil)) (kg_tup K (n := 2) rfl (pgs_cons (pg_name (i := 9) sc_law.nd rfl (by first | exact Or.inl rfl | exact Or.inr rfl)) (pgs_cons (pg_name (i := 10) sc_law.nd rfl (by first | exact Or.inl rfl | exact Or.inr rfl)) pgs_nil))))
          (pss_one (ps_if (pt_not (pt_val (q_cb (kc_isi K) T.n_isinstance bb_isinstance (pa_cons (pe_told (k := 3) T.h TB rfl mT uT hrT (fun A outer s H E f c hrL => by exact (pe_md MH hrL (pN rfl rfl rfl rfl) (pe_ix (kx_list K) (pv 3) (pv 8) (fun _ _ => rfl)) (pa_cons (pv 9) (pa_cons (pv 10) pa_nil))))) (pa_cons (q_ty T.n_bool bb_bool) pa_nil)))))
          (pss_one (ps_ret pe_bl))
          pss_nil)))
        (pss_cons (ps_set (i := 9) sc_law.nd rfl (by first | exact Or.inl rfl | exact Or.inr rfl) (pe_ix (kx_list K) (pe_lst (pa_cons pe_str (pa_cons pe_str (pa_cons pe_str (pa_cons pe_str (pa_cons pe_str pa_nil)))))) (pe_op op_mod (pe_op op_fdiv (pv 7) pe_int) (pe_ix (kx_list K) (pe_lst (pa_cons pe_int (pa_cons pe_int (pa_cons pe_int pa_nil)))) (pe_op op_mod (pe_op op_fdiv (pv 7) pe_int) pe_int) (fun _ _ => rfl))) (fun _ _ => rfl)))
          (pss_cons (ps_set (i := 10) sc_law.nd rfl (by first | exact Or.inl rfl | exact Or.inr rfl) (pe_cmpR op_eq (pe_op op_mod (pe_op op_fdiv (pv 7) pe_int) pe_int) pe_int (nomark _)))
          (pss_mid (ps_if ((pw_and (pt_cmpR op_eq (pv 8) pe_int (nomark _)) (pw_and1 (pt_cmpR op_eq (pe_md0 MS hr pass0N (pe_ix (kx_list K) (pv 3) pe_int (fun _ _ => rfl))) pe_str (nomark _))))).pt
          (pss_one ps_continue)
          pss_nil)
          (pss_one (ps_if (pt_val (pe_md MM hr pass0N (pe_ix (kx_list K) (pv 3) (pv 8) (fun _ _ => rfl)) (pa_cons (pv 9) (pa_cons (pv 10) pa_nil))))
          (pss_cons (ps_expr (pe_md MY hr pass0N (pe_ix (kx_list K) (pv 3) (pv 8) (fun _ _ => rfl)) (pa_cons (pv 9) (pa_cons (pv 10) pa_nil))))
            (pss_cons (ps_expr (k_bm K PySem.F.plainAttrs_list PySem.F.slot_list_append PySem.F.type_list_append mt_append (pe_ix (kx_list K) (pv 4) (pv 8) (fun _ _ => rfl)) (pa_cons (pe_tup (pa_cons (pv 9) (pa_cons (pv 10) pa_nil))) pa_nil)))
            (pss_one (ps_set (i := 5) sc_law.nd rfl (by first | exact Or.inl rfl | exact Or.inr rfl) (pe_or (pv 5) (pe_one (pe_cmpR op_eq (pv 9) pe_str (nomark _))))))))
          pss_nil))))))))))
      (pss_cons (ps_for PassesOwn.leaving rfl (q_range T.n_range (pa_cons pe_int pa_nil)) (pg_name (i := 8) sc_law.nd rfl (by first | exact Or.inl rfl | exact Or.inr rfl))
      (pss_one (ps_for PassesOwn.leaving rfl (ki_list K (pe_ix (kx_list K) (pv 4) (pe_op op_sub pe_int (pv 8)) (fun _ _ => rfl))) (kg_tup K (n := 2) rfl (pgs_cons (pg_name (i := 9) sc_law.nd rfl (by first | exact Or.inl rfl | exact Or.inr rfl)) (pgs_cons (pg_name (i := 10) sc_law.nd rfl (by first | exact Or.inl rfl | exact Or.inr rfl)) pgs_nil)))
        (pss_one (ps_if (pt_not (pt_val (q_cb (kc_isi K) T.n_isinstance bb_isinstance (pa_cons (pe_told (k := 3) T.h TB rfl mT uT hrT (fun A outer s H E f c hrL => by exact (pe_md MH hrL (pN rfl rfl rfl rfl) (pe_ix (kx_list K) (pv 3) (pv 8) (fun _ _ => rfl)) (pa_cons (pv 9) (pa_cons (pv 10) pa_nil))))) (pa_cons (q_ty T.n_bool bb_bool) pa_nil)))))
          (pss_one (ps_ret pe_bl))
          pss_nil)))))
      (pss_cons (ps_setLc (i := 11) (own := [("life", 13)]) rfl sc_law.nd rfl rfl (sw_true rfl rfl rfl (by decide +kernel)) (ki_list K (pv 3)) (blkOk_by (N := ["script", "k", "more", "lives", "roads", "is_cut", "j", "here", "at", "word", "is_last", "states", "mirror", "life"]) (sc := defScope s_law) (by decide +kernel)) (fun _ _ _ _ _ => by exact (pg_name (i := 13) sc_law.nd rfl (by first | exact Or.inl rfl | exact Or.inr rfl))) (fun _ _ _ _ _ => by exact pts_nil) (fun _ _ _ _ _ => by exact (pe_md0 MS hr pass0N (pv 13))))
      (pss_mid (ps_if ((pw_and (pt_val (pv 5)) (pw_and1 (pt_cmpR (ko_neD K hu) (pv 11) (pe_lst (pa_cons pe_str (pa_cons pe_str pa_nil))) (nomark _))))).pt
      (pss_one (ps_ret pe_bl))
      pss_nil)
      (pss_cons (ps_set (i := 12) sc_law.nd rfl (by first | exact Or.inl rfl | exact Or.inr rfl) (pe_disp (pps_cons pe_str pe_str (pps_cons pe_str pe_str pps_nil)) (by rfl) (by rfl) (fun z => by cases z) (by decide)))
      (pss_one (ps_if ((pw_and (pt_not (pt_val (pv 5))) (pw_and1 (pt_cmpR op_ne (pe_ix (kx_list K) (pv 11) pe_int (fun _ _ => rfl)) (pe_dget2 hv (pv 12) (pe_ix (kx_list K) (pv 11) pe_int (fun _ _ => rfl)) (pe_ix (kx_list K) (pv 11) pe_int (fun _ _ => rfl)) ⟨rfl, rfl, rfl, rfl⟩) (nomark _))))).pt
      (pss_one (ps_ret pe_bl))
      pss_nil))))))))))))
    (pss_one (ps_ret pe_bl))), ?_⟩
  obtain ⟨u, hU, hNT, hk⟩ := scU_noT hS
  have S0 : Sv a u (Tb PP) H := ⟨hk, fun p hp => by rw [List.mem_singleton.mp hp]; exact TabS.nil hP⟩
  rw [show L2.start ["script", "k", "more", "lives", "roads", "is_cut", "j", "here", "at", "word", "is_last", "states", "mirror", "life"] [V.ref a] = [some (.ref a), none, none, none, none, none, none, none, none, none, none, none, none, none] from rfl]
  walk_at "sx"
  refine x_lenL (S0.seq hU) ?_
  walk_at "sx"
  refine x_min ?_
  walk_at "sx"
  refine x_max ?_
  walk_at "sx"
  rw [List.length_map]
  refine x_rforR (max 1 (min 4 (ns.length : Int))).toNat (by omega) (by omega) (fun _ σ H => ∃ (o1 o2 o3 o4 o5 o6 o7 o8 o9 o10 o11 o12 o13 : Option V), σ = [some (.ref a), o1, o2, o3, o4, o5, o6, o7, o8, o9, o10, o11, o12, o13] ∧ Sv a u (Tb PP) H) ⟨_, _, _, _, _, _, _, _, _, _, _, _, _, rfl, S0⟩ ?_ ?_
  rotate_left
  · rintro σ H1 ⟨o1, o2, o3, o4, o5, o6, o7, o8, o9, o10, o11, o12, o13, rfl, S1⟩
    walk_at "sx"
    exact q _
  rintro i σ H1 hi ⟨o1, o2, o3, o4, o5, o6, o7, o8, o9, o10, o11, o12, o13, rfl, S1⟩
  walk_at "sx"
  refine ⟨a, ns, i, rfl, S1.seq hU, hlen, by omega, by omega, fun z H2 s2 => ?_⟩
  walk_at "sx"
  refine ⟨z, i, rfl, by omega, by omega, ?_⟩
  generalize em : drawn z i = m
  have m0 : 0 ≤ m := by rw [← em]; exact drawn_lo _ _
  have S2 := S1.same s2
  clear S1 s2 em
  walk_at "sx"
  intro x0 dx0 nx0 ndx0 nex0
  refine ⟨x0, dx0, rfl, upd_same, rfl, ?_⟩
  rw [upd_upd]
  have s3 := made_same (o := LfO cL dx0 ⟨"idle", false, false, false⟩) nx0 ndx0 nex0
  have nsx0 : ∀ v, u = some v → a ≠ x0 := S2.apart nx0
  have hx0 : (upd (upd H2 dx0 (.own x0)) x0 (LfO cL dx0 ⟨"idle", false, false, false⟩)) x0 = some (LfO cL dx0 (lifeOf ⟨0, 0, false, false⟩)) := upd_same
  have S3 := S2.same s3
  generalize upd (upd H2 dx0 (.own x0)) x0 (LfO cL dx0 ⟨"idle", false, false, false⟩) = H3 at *
  clear S2 s3 nx0 ndx0 nex0
  walk_at "sx"
  intro x1 dx1 nx1 ndx1 nex1
  refine ⟨x1, dx1, rfl, upd_same, rfl, ?_⟩
  rw [upd_upd]
  have s3 := made_same (o := LfO cL dx1 ⟨"idle", false, false, false⟩) nx1 ndx1 nex1
  have nsx1 : ∀ v, u = some v → a ≠ x1 := S3.apart nx1
  have hx1 : (upd (upd H3 dx1 (.own x1)) x1 (LfO cL dx1 ⟨"idle", false, false, false⟩)) x1 = some (LfO cL dx1 (lifeOf ⟨0, 0, false, false⟩)) := upd_same
  have n01 : x0 ≠ x1 := fun e => by rw [e, nx1] at hx0; cases hx0
  have hx0 := s3 _ _ hx0
  have S4 := S3.same s3
  generalize upd (upd H3 dx1 (.own x1)) x1 (LfO cL dx1 ⟨"idle", false, false, false⟩) = H4 at *
  clear S3 s3 nx1 ndx1 nex1
  walk_at "sx"
  refine ⟨szle (by show 2 ≤ 100000; decide), fun lv n1 => ?_⟩
  walk_at "sx"
  refine ⟨szle (by show 0 ≤ 100000; decide), fun q0 n2 => ?_⟩
  walk_at "sx"
  refine ⟨szle (by show 0 ≤ 100000; decide), fun q1 n3 => ?_⟩
  walk_at "sx"
  refine ⟨szle (by show 2 ≤ 100000; decide), fun rv n4 => ?_⟩
  have t1 := same_upd (o := .lst [.ref x0, .ref x1]) n1
  have t2 := same_upd (o := .lst []) n2
  have t3 := same_upd (o := .lst []) n3
  have t4 := same_upd (o := .lst [.ref q0, .ref q1]) n4
  have nsq0 : ∀ v, u = some v → a ≠ q0 := (S4.same t1).apart n2
  have nsq1 : ∀ v, u = some v → a ≠ q1 := ((S4.same t1).same t2).apart n3
  have n23 : q0 ≠ q1 := ne_of_none upd_same n3
  have nl0 : lv ≠ q0 := ne_of_none upd_same n2
  have nl1 : lv ≠ q1 := ne_of_none (upd_old n2 upd_same) n3
  have nr0 : rv ≠ q0 := (ne_of_none (upd_old n3 upd_same) n4).symm
  have nr1 : rv ≠ q1 := (ne_of_none upd_same n4).symm
  have S5 := S4.same (((t1.trans t2).trans t3).trans t4)
  have hlv := (((t2.trans t3).trans t4) _ _ upd_same : _ = some (HO.lst [V.ref x0, .ref x1]))
  have hq0 := ((t3.trans t4) _ _ upd_same : _ = some (HO.lst []))
  have hq1 := (t4 _ _ upd_same : _ = some (HO.lst []))
  have hx0 := (((t1.trans t2).trans t3).trans t4) _ _ hx0
  have hx1 := (((t1.trans t2).trans t3).trans t4) _ _ hx1
  have hrv : (upd (upd (upd (upd H4 lv (.lst [.ref x0, .ref x1])) q0 (.lst [])) q1 (.lst [])) rv (.lst [.ref q0, .ref q1])) rv = some (.lst [.ref q0, .ref q1]) := upd_same
  generalize (upd (upd (upd (upd H4 lv (.lst [.ref x0, .ref x1])) q0 (.lst [])) q1 (.lst [])) rv (.lst [.ref q0, .ref q1])) = H5 at *
  clear t1 t2 t3 t4 n1 n2 n3 n4 S4
  obtain ⟨x, ex0, ex1⟩ : ∃ x : Bool → Addr, x false = x0 ∧ x true = x1 := ⟨fun b => if b = true then x1 else x0, rfl, rfl⟩
  obtain ⟨dx, ed0, ed1⟩ : ∃ x : Bool → Addr, x false = dx0 ∧ x true = dx1 := ⟨fun b => if b = true then dx1 else dx0, rfl, rfl⟩
  obtain ⟨qa, eq0, eq1⟩ : ∃ x : Bool → Addr, x false = q0 ∧ x true = q1 := ⟨fun b => if b = true then q1 else q0, rfl, rfl⟩
  have Y5 : Sy cL H5 x dx qa (fun _ => ⟨0, 0, false, false⟩) (fun _ => []) (fun _ => []) := by
    refine ⟨fun t => ?_, fun t => ?_, fun t => .nil, fun t => ?_, fun t => ?_⟩
    · cases t
      · rw [ex0, ed0]; exact hx0
      · rw [ex1, ed1]; exact hx1
    · cases t
      · rw [eq0]; exact hq0
      · rw [eq1]; exact hq1
    · cases t
      · show x false ≠ x true; rw [ex0, ex1]; exact n01
      · show x true ≠ x false; rw [ex0, ex1]; exact n01.symm
    · cases t
      · show qa false ≠ qa true; rw [eq0, eq1]; exact n23
      · show qa true ≠ qa false; rw [eq0, eq1]; exact n23.symm
  have D5 : Dirs (fun _ => ⟨0, 0, false, false⟩) (fun _ => []) := fun t => ⟨.inr (.inr ⟨rfl, rfl⟩), (fun p hp => nomatch hp), (fun h => absurd rfl h), (fun h => nomatch h), (fun h => nomatch h), rfl⟩
  have nsx : ∀ t v, u = some v → a ≠ x t := fun t => by
    cases t
    · rw [ex0]; exact nsx0
    · rw [ex1]; exact nsx1
  have nsq : ∀ t v, u = some v → a ≠ qa t := fun t => by
    cases t
    · rw [eq0]; exact nsq0
    · rw [eq1]; exact nsq1
  have nlq : ∀ t, lv ≠ qa t := fun t => by
    cases t
    · rw [eq0]; exact nl0
    · rw [eq1]; exact nl1
  have nrq : ∀ t, rv ≠ qa t := fun t => by
    cases t
    · rw [eq0]; exact nr0
    · rw [eq1]; exact nr1
  rw [← ex0, ← ex1] at hlv
  rw [← eq0, ← eq1] at hrv
  clear hx0 hx1 hq0 hq1 ex0 ex1 eq0 eq1 ed0 ed1 n01 n23 nl0 nl1 nr0 nr1 nsx0 nsx1 nsq0 nsq1
  walk_at "sx"
  refine x_rI (by decide) ?_
  walk_at "sx"
  have hm1 : 0 ≤ m % 21 := Int.emod_nonneg _ (by decide)
  have hm2 : m % 21 < 21 := Int.emod_lt_of_pos _ (by decide)
  refine x_rforR (10 + m % 21).toNat (by omega) (by omega) (fun j σ H => ∃ (o6 o7 o8 o9 o10 o11 o12 o13 : Option V) (o : Bool → Ow) (xs : Bool → List V) (r : Bool → List (Str × Bool)), σ = [some (.ref a), some (.int i), some (.int m), some (.ref lv), some (.ref rv), some (.bl ((o false).c || (o true).c)), o6, o7, o8, o9, o10, o11, o12, o13] ∧ Sv a u (Tb PP) H ∧ H lv = some (.lst [.ref (x false), .ref (x true)]) ∧ H rv = some (.lst [.ref (qa false), .ref (qa true)]) ∧ Sy cL H x dx qa o xs r ∧ Dirs o r ∧ ∀ t, (xs t).length ≤ j) ⟨_, _, _, _, _, _, _, _, _, _, _, rfl, S5, hlv, hrv, Y5, D5, fun _ => Nat.le_refl _⟩ ?_ ?_
  · clear S5 hlv hrv Y5 D5
    rintro j σ H6 hj ⟨o6, o7, o8, o9, o10, o11, o12, o13, o, xs, r, rfl, S6, hlv, hrv, Y6, D6, hb6⟩
    walk_at "sx"
    refine ⟨m, 10 + j, rfl, by omega, by omega, ?_⟩
    generalize eh : drawn m (10 + j) = hh
    have hh0 : 0 ≤ hh := by rw [← eh]; exact drawn_lo _ _
    clear eh
    walk_at "sx"
    refine x_rI (by decide) ?_
    obtain ⟨t, ht⟩ : ∃ t : Bool, hh % 2 = bi t := by
      rcases Int.emod_two_eq hh with h | h
      · exact ⟨false, h⟩
      · exact ⟨true, h⟩
    rw [ht]
    walk_at "sx"
    have hnl : ∀ H7, Same H6 H7 → Sv a u (Tb PP) H7 ∧ H7 lv = some (.lst [.ref (x false), .ref (x true)]) ∧ H7 rv = some (.lst [.ref (qa false), .ref (qa true)]) ∧ Sy cL H7 x dx qa o xs r := fun H7 s7 => ⟨S6.same s7, s7 _ _ hlv, s7 _ _ hrv, Y6.ext (.of s7)⟩
    refine x_tmid (fun b H7 => Same H6 H7 ∧ (b = true → r (!t) ≠ [])) ?_ ?_
    · walk_at "sx"
      refine x_rI ⟨by decide, by decide⟩ ?_
      walk_at "sx"
      refine x_rI (by decide) ?_
      walk_at "sx"
      refine x_rEq rfl ?_
      walk_at "sx"
      refine x_2 (fun h1 => ?_) fun h1 => ?_
      · walk_at "sx"
        refine x_ixL (SqL.of hrv) (at_bi1 qa t) ?_
        walk_at "sx"
        refine ⟨szle (by show 0 ≤ 100000; decide), fun p1 m1 => ?_⟩
        have sm := same_upd (o := .lst []) m1
        have Y7 := Y6.ext (.of sm)
        refine x_neD (.lst (SqL.of (Y7.rd (!t))) (dpa_ws (Y7.pr (!t)))) (.lst (SqL.of upd_same) .nil) (shp_ws _ (D6 (!t)).wd) rfl ?_
        rw [eqv_nil]
        walk_at "sx"
        refine ⟨sm, fun h => ?_⟩
        simpa using h
      · walk_at "sx"
        exact ⟨Same.refl _, (fun h => nomatch h)⟩
    rintro b H7 ⟨s7, hb⟩
    obtain ⟨S7, hlv7, hrv7, Y7⟩ := hnl H7 s7
    clear hnl S6 hlv hrv Y6 s7
    cases b with
    | true =>
      have hr0 := hb rfl
      refine x_T ?_
      obtain ⟨p, r', er⟩ : ∃ p r', r (!t) = p :: r' := by
        cases e : r (!t) with
        | nil => exact absurd e hr0
        | cons p r' => exact ⟨p, r', rfl⟩
      have hpr := Y7.pr (!t)
      rw [er] at hpr
      obtain ⟨y, ys, exs, ⟨pt, rfl, hpt⟩, hys⟩ : ∃ y ys, xs (!t) = y :: ys ∧ Wd H7 y p ∧ Paired (Wd H7) ys r' := by
        cases e : xs (!t) with
        | nil => rw [e] at hpr; cases hpr
        | cons y ys => rw [e] at hpr; cases hpr with | cons h1 h2 => exact ⟨y, ys, rfl, h1, h2⟩
      walk_at "sx"
      refine x_ixL (SqL.of hrv7) (at_bi1 qa t) ?_
      refine ⟨tyL (Y7.rd (!t)), ?_⟩
      walk_at "sx"
      have hrd := Y7.rd (!t)
      rw [exs] at hrd
      refine x_popAt hrd (by decide) (by decide) (k := 0) (y := .ref pt) (by simp [seqIndex?]) rfl ?_
      have Y8 := Y7.road (!t) hys
      have hpt8 : upd H7 (qa (!t)) (.lst ys) pt = some (.tup [.str p.1, .bl p.2]) := by
        rw [upd_ne (fun z => by rw [z, hrd] at hpt; cases hpt)]; exact hpt
      have S8 := S7.mut (o' := .lst ys) hrd rfl (nsq (!t))
      have hlv8 : upd H7 (qa (!t)) (.lst ys) lv = some (.lst [.ref (x false), .ref (x true)]) := by
        rw [upd_ne (nlq (!t))]
        exact hlv7
      have hrv8 : upd H7 (qa (!t)) (.lst ys) rv = some (.lst [.ref (qa false), .ref (qa true)]) := by rw [upd_ne (nrq (!t))]; exact hrv7
      have hln : ∀ t', (setB xs (!t) ys t').length ≤ j := fun t' => by
        by_cases e : t' = !t
        · rw [e, setB_at]
          have := hb6 (!t)
          rw [exs, List.length_cons] at this
          omega
        · have e : t' = t := by cases t' <;> cases t <;> simp_all
          rw [e]
          have : setB xs (!t) ys t = xs t := by cases t <;> rfl
          rw [this]; exact hb6 t
      obtain ⟨⟨b0, hb0⟩, D9, c9⟩ := dirs_hear D6 t er
      have hw9 := (D6 (!t)).wd p (by rw [er]; exact List.mem_cons_self)
      have hw4 : p.1 ∈ (["heads", "piece", "cut", "rank"] : List Str) := by simp only [List.mem_cons, List.not_mem_nil, or_false] at hw9 ⊢; rcases hw9 with h | h | h <;> simp [h]
      obtain ⟨g1, _, _⟩ := pl_hear (o t) (D6 t).inv p.1 hw4 p.2
      refine x_gtup (SqT.of hpt8) rfl ?_
      walk_at "sx"
      rw [show (V.ref pt :: ys).eraseIdx 0 = ys from rfl]
      refine x_lam S8.tabs fun H9 e9 t9 => x_TW ?_
      have Y9 := Y8.ext e9
      have S9 := S8.ext hNT e9 t9
      have hlv9 := e9 _ _ hlv8 (fun _ z => nomatch z)
      have hrv9 := e9 _ _ hrv8 (fun _ z => nomatch z)
      walk_at "sx"
      refine x_ixL (SqL.of hlv9) (at_bi x t) ?_
      walk_at "sx"
      refine x_rmeth (Y9.lf t) (lk_no _ (by decide +kernel)) ?_
      walk_at "sx"
      refine ⟨x t, dx t, _, p.1, p.2, rfl, Y9.lf t, fun b hb H10 s10 => ?_, fun hb => absurd (hb0.symm.trans hb) (by simp)⟩
      have Y10 := (Y9.ext (.of s10)).life t (nextO (o t) "heard" p.1 p.2)
      have S10 := (S9.same s10).mut (o' := LfO cL (dx t) (lifeOf (nextO (o t) "heard" p.1 p.2))) ((Y9.ext (.of s10)).lf t) rfl (nsx t)
      have hl10 : upd H10 (x t) (LfO cL (dx t) (lifeOf (nextO (o t) "heard" p.1 p.2))) lv = some (.lst [.ref (x false), .ref (x true)]) := by
        rw [upd_ne (fun z => by have := s10 _ _ hlv9; rw [z, (Y9.ext (.of s10)).lf t] at this; cases this)]; exact s10 _ _ hlv9
      have hr10 : upd H10 (x t) (LfO cL (dx t) (lifeOf (nextO (o t) "heard" p.1 p.2))) rv = some (.lst [.ref (qa false), .ref (qa true)]) := by
        rw [upd_ne (fun z => by have := s10 _ _ hrv9; rw [z, (Y9.ext (.of s10)).lf t] at this; cases this)]; exact s10 _ _ hrv9
      rw [g1]
      walk_at "sx"
      refine x_isi (.base (.bl _)) (kb_bool _ (by decide)) ?_
      walk_at "sx"
      refine (show if (!true) = true then _ else _ from not_t ?_)
      walk_at "sx"
      have : ((setB o t (nextO (o t) "heard" p.1 p.2)) false).c = (o false).c ∧ ((setB o t (nextO (o t) "heard" p.1 p.2)) true).c = (o true).c := by
        cases t
        · exact ⟨c9, rfl⟩
        · exact ⟨rfl, c9⟩
      rw [← this.1, ← this.2]
      exact ⟨_, _, _, _, _, _, _, _, _, _, _, rfl, S10, hl10, hr10, Y10, D9, fun t' => Nat.le_succ_of_le (hln t')⟩
    | false =>
      refine x_F ?_
      clear hb
      walk_at "sx"
      refine ⟨szle (by show 5 ≤ 100000; decide), fun p1 m1 => ?_⟩
      walk_at "sx"
      refine x_rI ⟨by decide, by decide⟩ ?_
      walk_at "sx"
      refine ⟨szle (by show 3 ≤ 100000; decide), fun p2 m2 => ?_⟩
      walk_at "sx"
      refine x_rI ⟨by decide, by decide⟩ ?_
      walk_at "sx"
      refine x_rI (by decide) ?_
      obtain ⟨z0, hz0, ez0⟩ := pickI [4, 4, 5] (hh / 64 % 3) (Int.emod_nonneg _ (by decide)) (Int.emod_lt_of_pos _ (by decide))
      refine x_ixL (SqL.of upd_same) ez0 ?_
      have b0 : z0 = 4 ∨ z0 = 5 := by
        simp only [List.mem_cons, List.not_mem_nil, or_false] at hz0
        omega
      walk_at "sx"
      refine x_rI (by omega) ?_
      obtain ⟨wd, hwd, ewd⟩ := pickS ["heads", "piece", "piece", "heads", "cut"] (hh / 8 % z0) (Int.emod_nonneg _ (by omega)) (Int.lt_of_lt_of_le (Int.emod_lt_of_pos _ (by omega)) (by show z0 ≤ 5; omega))
      refine x_ixL (SqL.of (upd_old m2 upd_same)) ewd ?_
      have hwd : wd ∈ wds := by
        simp only [List.mem_cons, List.not_mem_nil, or_false] at hwd ⊢
        rcases hwd with h | h | h | h | h <;> simp [h]
      clear ewd ez0 hz0
      walk_at "sx"
      refine x_rI ⟨by decide, by decide⟩ ?_
      walk_at "sx"
      refine x_rI (by decide) ?_
      walk_at "sx"
      refine x_rEq rfl ?_
      generalize decide (V.int (hh / 512 % 4) = V.int 0) = last
      walk_at "sx"
      have sm := (same_upd (o := .lst [.str "heads", .str "piece", .str "piece", .str "heads", .str "cut"]) m1).trans (same_upd (o := .lst [.int 4, .int 4, .int 5]) m2)
      have S8 := S7.same sm
      have hlv8 := sm _ _ hlv7
      have hrv8 := sm _ _ hrv7
      have Y8 := Y7.ext (.of sm)
      generalize (upd (upd H7 p1 (.lst [.str "heads", .str "piece", .str "piece", .str "heads", .str "cut"])) p2 (.lst [.int 4, .int 4, .int 5])) = H8 at *
      clear sm S7 hlv7 hrv7 Y7 m1 m2
      refine x_mid (fun σ H9 => σ = [some (.ref a), some (.int i), some (.int m), some (.ref lv), some (.ref rv), some (.bl ((o false).c || (o true).c)), some (.int j), some (.int hh), some (.int (bi t)), some (.str wd), some (.bl last), o11, o12, o13] ∧ H9 = H8) ?_ ?_
      · walk_at "sx"
        refine x_rEq rfl ?_
        walk_at "sx"
        refine x_2 (fun h1 => ?_) fun h1 => ?_
        · walk_at "sx"
          refine x_ixL (SqL.of hlv8) (v := .ref (x true)) rfl ?_
          walk_at "sx"
          refine x_rmeth (Y8.lf true) (lk_no _ (by decide +kernel)) ?_
          walk_at "sx"
          refine ⟨x true, dx true, _, rfl, Y8.lf true, ?_⟩
          walk_at "sx"
          refine x_rEq rfl ?_
          walk_at "sx"
          refine x_2 (fun h2 => ?_) fun h2 => ?_
          · walk_at "sx"
            exact ⟨_, _, _, _, _, _, _, _, o, xs, r, rfl, S8, hlv8, hrv8, Y8, D6, fun t' => Nat.le_succ_of_le (hb6 t')⟩
          · walk_at "sx"
            exact ⟨rfl, rfl⟩
        · walk_at "sx"
          exact ⟨rfl, rfl⟩
      rintro σ H9 ⟨rfl, rfl⟩
      walk_at "sx"
      refine x_ixL (SqL.of hlv8) (at_bi x t) ?_
      walk_at "sx"
      refine x_rmeth (Y8.lf t) (lk_no _ (by decide +kernel)) ?_
      walk_at "sx"
      refine ⟨x t, dx t, _, wd, last, rfl, Y8.lf t, fun H9 s9 => ?_⟩
      have Y9 := Y8.ext (.of s9)
      have hms := pl_say (o t) wd (by simp only [List.mem_cons, List.not_mem_nil, or_false] at hwd ⊢; rcases hwd with h | h | h <;> simp [h]) last
      walk_at "sx"
      refine x_b (fun h1 => ?_) fun h1 => ?_
      rotate_left
      · walk_at "sx"
        exact ⟨_, _, _, _, _, _, _, _, o, xs, r, rfl, S8.same s9, s9 _ _ hlv8, s9 _ _ hrv8, Y9, D6, fun t' => Nat.le_succ_of_le (hb6 t')⟩
      walk_at "sx"
      refine x_ixL (SqL.of (s9 _ _ hlv8)) (at_bi x t) ?_
      walk_at "sx"
      refine x_rmeth (Y9.lf t) (lk_no _ (by decide +kernel)) ?_
      walk_at "sx"
      refine ⟨x t, dx t, _, wd, last, rfl, Y9.lf t, fun _ H10 s10 => ?_, fun h => absurd (h1.symm.trans h) (by decide)⟩
      rw [hms] at h1
      have hw4 : wd ∈ (["heads", "piece", "cut", "rank"] : List Str) := by simp only [List.mem_cons, List.not_mem_nil, or_false] at hwd ⊢; rcases hwd with h | h | h <;> simp [h]
      obtain ⟨_, _, d3, _⟩ := pl_dm (o t) wd hw4 last
      rw [d3 h1]
      obtain ⟨D10, c10⟩ := dirs_say D6 t hwd h1
      have s11 := s9.trans s10
      have Y10 := (Y8.ext (.of s11)).life t (nextO (o t) "said" wd last)
      have S10 := (S8.same s11).mut (o' := LfO cL (dx t) (lifeOf (nextO (o t) "said" wd last))) ((Y8.ext (.of s11)).lf t) rfl (nsx t)
      have hl10 : upd H10 (x t) (LfO cL (dx t) (lifeOf (nextO (o t) "said" wd last))) lv = some (.lst [.ref (x false), .ref (x true)]) := by
        rw [upd_ne (fun z => by have := s11 _ _ hlv8; rw [z, (Y8.ext (.of s11)).lf t] at this; cases this)]; exact s11 _ _ hlv8
      have hr10 : upd H10 (x t) (LfO cL (dx t) (lifeOf (nextO (o t) "said" wd last))) rv = some (.lst [.ref (qa false), .ref (qa true)]) := by
        rw [upd_ne (fun z => by have := s11 _ _ hrv8; rw [z, (Y8.ext (.of s11)).lf t] at this; cases this)]; exact s11 _ _ hrv8
      generalize upd H10 (x t) (LfO cL (dx t) (lifeOf (nextO (o t) "said" wd last))) = H11 at *
      clear S8 hlv8 hrv8 Y8 Y9 s9 s10 s11
      walk_at "sx"
      refine x_ixL (SqL.of hr10) (at_bi qa t) ?_
      refine ⟨tyL (Y10.rd t), ?_⟩
      walk_at "sx"
      refine ⟨szle (by show 2 ≤ 100000; decide), fun p3 m3 => ?_⟩
      have t3 := same_upd (o := .tup [.str wd, .bl last]) m3
      have Y12 := Y10.ext (.of t3)
      walk_at "sx"
      refine x_append (Y12.rd t) (szlt (by have := hb6 t; omega)) ?_
      have Y13 := Y12.road t (prd_app (Y12.pr t) (.cons (show Wd _ _ (wd, last) from ⟨p3, rfl, upd_same⟩) .nil))
      have S13 := (S10.same t3).mut (o' := .lst (xs t ++ [.ref p3])) (Y12.rd t) rfl (nsq t)
      have hl13 : upd (upd H11 p3 (.tup [.str wd, .bl last])) (qa t) (.lst (xs t ++ [.ref p3])) lv = some (.lst [.ref (x false), .ref (x true)]) := by rw [upd_ne (nlq t)]; exact t3 _ _ hl10
      have hr13 : upd (upd H11 p3 (.tup [.str wd, .bl last])) (qa t) (.lst (xs t ++ [.ref p3])) rv = some (.lst [.ref (qa false), .ref (qa true)]) := by rw [upd_ne (nrq t)]; exact t3 _ _ hr10
      have hln : ∀ t', (setB xs t (xs t ++ [.ref p3]) t').length ≤ j + 1 := fun t' => by
        by_cases e : t' = t
        · rw [e, setB_at, List.length_append, List.length_singleton]
          have := hb6 t
          omega
        · have e : t' = !t := by cases t' <;> cases t <;> simp_all
          rw [e, setB_no]
          exact Nat.le_succ_of_le (hb6 _)
      have hc13 : ((setB o t (nextO (o t) "said" wd last)) false).c = ((o false).c || (decide (wd = "cut") && !t)) ∧ ((setB o t (nextO (o t) "said" wd last)) true).c = ((o true).c || (decide (wd = "cut") && t)) := by
        have h0 : (o t).c = false := (f_say (o t) (D6 t).inv wd hwd last h1).2.1
        cases t
        · refine ⟨?_, by simp [setB]⟩
          rw [show setB o false (nextO (o false) "said" wd last) false = nextO (o false) "said" wd last from rfl, c10, h0]; simp
        · refine ⟨by simp [setB], ?_⟩
          rw [show setB o true (nextO (o true) "said" wd last) true = nextO (o true) "said" wd last from rfl, c10, h0]; simp
      walk_at "sx"
      refine x_b (fun h2 => ?_) fun h2 => ?_
      · walk_at "sx"
        have e13 : V.bl true = V.bl (((setB o t (nextO (o t) "said" wd last)) false).c || ((setB o t (nextO (o t) "said" wd last)) true).c) := by
          rw [hc13.1, hc13.2]
          congr 1
          cases t <;> cases h3 : (o false).c <;> cases h4 : (o true).c <;> simp_all
        rw [e13]
        exact ⟨_, _, _, _, _, _, _, _, _, _, _, rfl, S13, hl13, hr13, Y13, D10, hln⟩
      · walk_at "sx"
        refine x_rEq rfl ?_
        walk_at "sx"
        have e13 : decide (V.str wd = V.str "cut") = (((setB o t (nextO (o t) "said" wd last)) false).c || ((setB o t (nextO (o t) "said" wd last)) true).c) := by
          rw [hc13.1, hc13.2, show decide (V.str wd = V.str "cut") = decide (wd = "cut") from by simp]
          cases t <;> cases h3 : (o false).c <;> cases h4 : (o true).c <;> simp_all
        rw [e13]
        exact ⟨_, _, _, _, _, _, _, _, _, _, _, rfl, S13, hl13, hr13, Y13, D10, hln⟩
  clear S5 hlv hrv Y5 D5
  rintro σ H6 ⟨o6, o7, o8, o9, o10, o11, o12, o13, o, xs, r, rfl, S6, hlv, hrv, Y6, D6, hb6⟩
  walk_at "sx"
  refine x_rforR 2 rfl (by decide) (fun n σ H => ∃ (o6 o7 o8 o9 o10 o11 o12 o13 : Option V) (o : Bool → Ow), σ = [some (.ref a), some (.int i), some (.int m), some (.ref lv), some (.ref rv), some (.bl ((o false).c || (o true).c)), o6, o7, o8, o9, o10, o11, o12, o13] ∧ Sv a u (Tb PP) H ∧ H lv = some (.lst [.ref (x false), .ref (x true)]) ∧ H rv = some (.lst [.ref (qa false), .ref (qa true)]) ∧ Sy cL H x dx qa o xs r ∧ Dirs o (remN r n)) ⟨_, _, _, _, _, _, _, _, o, rfl, S6, hlv, hrv, Y6, by
      have : remN r 0 = r := by funext t; cases t <;> simp [remN]
      rw [this]; exact D6⟩ ?_ ?_
  · clear S6 hlv hrv Y6 D6 o
    rintro n σ H6 hn ⟨o6, o7, o8, o9, o10, o11, o12, o13, o, rfl, S6, hlv, hrv, Y6, D6⟩
    obtain ⟨t, ht, hrt, hst⟩ : ∃ t : Bool, ((n : Nat) : Int) = bi t ∧ remN r n (!t) = r (!t) ∧ setB (remN r n) (!t) [] = remN r (n + 1) := by
      rcases (by omega : n = 0 ∨ n = 1) with rfl | rfl
      · exact ⟨false, rfl, rfl, (remN_set r).1⟩
      · exact ⟨true, rfl, rfl, (remN_set r).2⟩
    rw [ht]
    walk_at "sx"
    refine x_ixL (SqL.of hrv) (at_bi1 qa t) ?_
    walk_at "sx"
    refine x_rforL (xs (!t)) (fun e σ H => ∃ (o6 o7 o9 o10 o11 o12 o13 : Option V) (o : Bool → Ow), σ = [some (.ref a), some (.int i), some (.int m), some (.ref lv), some (.ref rv), some (.bl ((o false).c || (o true).c)), o6, o7, some (.int (bi t)), o9, o10, o11, o12, o13] ∧ Sv a u (Tb PP) H ∧ H lv = some (.lst [.ref (x false), .ref (x true)]) ∧ H rv = some (.lst [.ref (qa false), .ref (qa true)]) ∧ Sy cL H x dx qa o xs r ∧ Dirs o (setB (remN r n) (!t) ((r (!t)).drop e))) ⟨_, _, _, _, _, _, _, o, rfl, S6, hlv, hrv, Y6, by
        have : setB (remN r n) (!t) ((r (!t)).drop 0) = remN r n := by
          funext t'
          unfold setB
          split
          · rename_i e; rw [e, hrt]; rfl
          · rfl
        rw [this]; exact D6⟩ (fun e σ H ⟨o6, o7, o9, o10, o11, o12, o13, _, _, _, _, _, Y, _⟩ => SqL.of (Y.rd (!t))) ?_ ?_
    · clear S6 hlv hrv Y6 D6 o
      rintro e v σ H6 hve ⟨o6, o7, o9, o10, o11, o12, o13, o, rfl, S8, hlv8, hrv8, Y8, D6⟩
      obtain ⟨p, hp, pt, rfl, hpt8⟩ := prd_get (Y8.pr (!t)) hve
      have er : setB (remN r n) (!t) ((r (!t)).drop e) (!t) = p :: (r (!t)).drop (e + 1) := by
        rw [setB_at]
        obtain ⟨hlt, he⟩ := List.getElem?_eq_some_iff.mp hp
        rw [← he]
        exact List.drop_eq_getElem_cons hlt
      obtain ⟨⟨b0, hb0⟩, D9, c9⟩ := dirs_hear D6 t er
      rw [setB_setB] at D9
      have hw9 := (D6 (!t)).wd p (by rw [er]; exact List.mem_cons_self)
      have hw4 : p.1 ∈ (["heads", "piece", "cut", "rank"] : List Str) := by simp only [List.mem_cons, List.not_mem_nil, or_false] at hw9 ⊢; rcases hw9 with h | h | h <;> simp [h]
      obtain ⟨g1, _, _⟩ := pl_hear (o t) (D6 t).inv p.1 hw4 p.2
      refine x_gtup (SqT.of hpt8) rfl ?_
      walk_at "sx"
      refine x_lam S8.tabs fun H9 e9 t9 => x_TW ?_
      have Y9 := Y8.ext e9
      have S9 := S8.ext hNT e9 t9
      have hlv9 := e9 _ _ hlv8 (fun _ z => nomatch z)
      have hrv9 := e9 _ _ hrv8 (fun _ z => nomatch z)
      walk_at "sx"
      refine x_ixL (SqL.of hlv9) (at_bi x t) ?_
      walk_at "sx"
      refine x_rmeth (Y9.lf t) (lk_no _ (by decide +kernel)) ?_
      walk_at "sx"
      refine ⟨x t, dx t, _, p.1, p.2, rfl, Y9.lf t, fun b hb H10 s10 => ?_, fun hb => absurd (hb0.symm.trans hb) (by simp)⟩
      have Y10 := (Y9.ext (.of s10)).life t (nextO (o t) "heard" p.1 p.2)
      have S10 := (S9.same s10).mut (o' := LfO cL (dx t) (lifeOf (nextO (o t) "heard" p.1 p.2))) ((Y9.ext (.of s10)).lf t) rfl (nsx t)
      have hl10 : upd H10 (x t) (LfO cL (dx t) (lifeOf (nextO (o t) "heard" p.1 p.2))) lv = some (.lst [.ref (x false), .ref (x true)]) := by
        rw [upd_ne (fun z => by have := s10 _ _ hlv9; rw [z, (Y9.ext (.of s10)).lf t] at this; cases this)]; exact s10 _ _ hlv9
      have hr10 : upd H10 (x t) (LfO cL (dx t) (lifeOf (nextO (o t) "heard" p.1 p.2))) rv = some (.lst [.ref (qa false), .ref (qa true)]) := by
        rw [upd_ne (fun z => by have := s10 _ _ hrv9; rw [z, (Y9.ext (.of s10)).lf t] at this; cases this)]; exact s10 _ _ hrv9
      rw [g1]
      walk_at "sx"
      refine x_isi (.base (.bl _)) (kb_bool _ (by decide)) ?_
      walk_at "sx"
      refine (show if (!true) = true then _ else _ from not_t ?_)
      walk_at "sx"
      have : ((setB o t (nextO (o t) "heard" p.1 p.2)) false).c = (o false).c ∧ ((setB o t (nextO (o t) "heard" p.1 p.2)) true).c = (o true).c := by
        cases t
        · exact ⟨c9, rfl⟩
        · exact ⟨rfl, c9⟩
      rw [← this.1, ← this.2]
      exact ⟨_, _, _, _, _, _, _, _, rfl, S10, hl10, hr10, Y10, D9⟩
    · clear S6 hlv hrv D6
      have hlx := Paired.length (Y6.pr (!t))
      clear Y6 o
      rintro σ H6 ⟨o6, o7, o9, o10, o11, o12, o13, o, rfl, S8, hlv8, hrv8, Y8, D8⟩
      rw [hlx, List.drop_of_length_le (Nat.le_refl _), hst] at D8
      walk_at "sx"
      exact ⟨_, _, _, _, _, _, _, _, o, rfl, S8, hlv8, hrv8, Y8, D8⟩
  clear S6 hlv hrv Y6 D6 o
  rintro σ H6 ⟨o6, o7, o8, o9, o10, o11, o12, o13, o, rfl, S6, hlv, hrv, Y6, D6⟩
  have Dab : Dir (o false) (o true) [] := D6 false
  have Dba : Dir (o true) (o false) [] := D6 true
  walk_at "sx"
  refine x_rlcL (SqL.of hlv) (fun n acc H => acc = [V.str (stO (o false)), .str (stO (o true))].take n) (fun H1 _ => rfl) ?_ ?_
  · intro D n v acc H7 hv7 I7
    obtain ⟨t, rfl, hn⟩ : ∃ t : Bool, v = .ref (x t) ∧ (n : Int) = bi t := by
      match n, hv7 with
      | 0, h => exact ⟨false, (Option.some.inj h).symm, rfl⟩
      | 1, h => exact ⟨true, (Option.some.inj h).symm, rfl⟩
      | n + 2, h => simp at h
    simp only [wipe, List.map_cons, List.map_nil, List.set_cons_succ, List.set_cons_zero]
    walk_at "sx"
    refine ⟨rfl, ?_⟩
    walk_at "sx"
    have hlf := I7.same _ _ (Y6.lf t)
    refine x_rmeth hlf (lk_no _ (by decide +kernel)) ?_
    walk_at "sx"
    refine ⟨x t, dx t, _, rfl, hlf, ?_⟩
    refine I7.add (fun i acc H1 H2 s r => r) (szlt (by cases t <;> simp [bi] at hn <;> omega)) (Same.refl _) ?_
    rw [I7.r]
    cases t
    · have : n = 0 := by simp [bi] at hn; exact hn
      subst this; rfl
    · have : n = 1 := by simp [bi] at hn; omega
      subst this; rfl
  intro ls H7 ys nls s7 hls hys
  have hys : ys = [V.str (stO (o false)), .str (stO (o true))] := hys
  subst hys
  have S7 := S6.same s7
  walk_at "sx"
  refine x_mid (fun σ H8 => ∃ (o6 o7 o8 o9 o10 o12 o13 : Option V), σ = [some (.ref a), some (.int i), some (.int m), some (.ref lv), some (.ref rv), some (.bl ((o false).c || (o true).c)), o6, o7, o8, o9, o10, some (.ref ls), o12, o13] ∧ Same H7 H8) ?_ ?_
  · walk_at "sx"
    refine x_b (fun h1 => ?_) fun h1 => ?_
    · have hov : stO (o false) = "over" ∧ stO (o true) = "over" := by
        rcases (Bool.or_eq_true _ _).mp h1 with h | h
        · exact end_cut Dab Dba h
        · exact (end_cut Dba Dab h).symm
      walk_at "sx"
      refine ⟨szle (by show 2 ≤ 100000; decide), fun p3 m3 => ?_⟩
      rw [hov.1, hov.2] at hls
      refine x_neD (.lst (SqL.of (upd_old m3 hls)) (.cons (.str _) (.cons (.str _) .nil))) (.lst (SqL.of upd_same) (.cons (.str _) (.cons (.str _) .nil))) (by decide +kernel) (by decide +kernel) ?_
      rw [show PyData.eqv (.list [.str "over", .str "over"]) (.list [.str "over", .str "over"]) = true from by decide +kernel]
      walk_at "sx"
      refine not_t ?_
      walk_at "sx"
      exact ⟨_, _, _, _, _, _, _, rfl, same_upd m3⟩
    · walk_at "sx"
      exact ⟨_, _, _, _, _, _, _, rfl, Same.refl _⟩
  rintro σ H8 ⟨o6, o7, o8, o9, o10, o12, o13, rfl, s8⟩
  walk_at "sx"
  refine x_disp fun y ny => ?_
  walk_at "sx"
  refine ⟨upd_same, [(.inr "said", .str "heard"), (.inr "heard", .str "said")], rfl, by show 2 ≤ 15; decide, ?_⟩
  rw [upd_upd, show mergeK [] [((Sum.inr "said" : Key), V.str "heard"), (.inr "heard", .str "said")] = [(.inr "said", .str "heard"), (.inr "heard", .str "said")] from rfl]
  have s9 := s8.trans (same_upd (o := .dK [(.inr "said", .str "heard"), (.inr "heard", .str "said")]) ny)
  have S9 := S7.same s9
  have hls9 := s9 _ _ hls
  walk_at "sx"
  refine x_b (fun h1 => ?_) fun h1 => ?_
  · have hcc : ((o false).c || (o true).c) = false := by simpa using h1
    have hc1 : (o false).c = false := (Bool.or_eq_false_iff.mp hcc).1
    have hc2 : (o true).c = false := (Bool.or_eq_false_iff.mp hcc).2
    walk_at "sx"
    refine x_ixL (SqL.of hls9) (v := .str (stO (o true))) rfl ?_
    walk_at "sx"
    refine ⟨y, rfl, .inl ⟨_, .inl upd_same⟩, ?_⟩
    walk_at "sx"
    refine x_ixL (SqL.of hls9) (v := .str (stO (o false))) rfl ?_
    walk_at "sx"
    refine x_ixL (SqL.of hls9) (v := .str (stO (o false))) rfl ?_
    refine x_rdget2S upd_same ?_
    rw [val_mir, ← end_mir Dab Dba hc1 hc2]
    refine x_rNe rfl ?_
    walk_at "sx"
    refine x_2n (fun h => absurd rfl h) fun _ => ?_
    walk_at "sx"
    exact ⟨_, _, _, _, _, _, _, _, _, _, _, _, _, rfl, S9⟩
  · refine x_F ?_
    walk_at "sx"
    exact ⟨_, _, _, _, _, _, _, _, _, _, _, _, _, rfl, S9⟩
end
end Lw

set_option Elab.async false
set_option linter.all false
set_option maxRecDepth 100000
set_option maxHeartbeats 4000000
namespace Lw
open PySem PySem.Spec PyProof.Rows L2 HotX LamX Ws
theorem mk_law {w : World} {K : PySem.W.Frag} {h : Heap} {mg : Str → Option Value} {fa : Addr} {e0 e1 e2 e3 e4 e5 e6 t_WORDS d_BEHIND d_HEARD f_need f__law_cell f__law_drawn f__law_word f__law_told f_law cc_law PP_law C_Life f_Life___init__ f_Life_state f_Life_may f_Life_may_say f_Life_says f_Life_hears : Addr} {oc_need kV_need dc_need pm_need ct_need cd_need oc__law_cell kV__law_cell dc__law_cell pm__law_cell ct__law_cell cd__law_cell oc__law_drawn kV__law_drawn dc__law_drawn pm__law_drawn ct__law_drawn cd__law_drawn oc__law_word kV__law_word dc__law_word pm__law_word ct__law_word cd__law_word oc__law_told kV__law_told dc__law_told pm__law_told ct__law_told cd__law_told oc_law kV_law dc_law pm_law ct_law oc_Life___init__ kV_Life___init__ dc_Life___init__ pm_Life___init__ ct_Life___init__ cd_Life___init__ oc_Life_state kV_Life_state dc_Life_state pm_Life_state ct_Life_state cd_Life_state oc_Life_may kV_Life_may dc_Life_may pm_Life_may ct_Life_may cd_Life_may oc_Life_may_say kV_Life_may_say dc_Life_may_say pm_Life_may_say ct_Life_may_say cd_Life_may_say oc_Life_says kV_Life_says dc_Life_says pm_Life_says ct_Life_says cd_Life_says oc_Life_hears kV_Life_hears dc_Life_hears pm_Life_hears ct_Life_hears cd_Life_hears : Value} {td_WORDS od_need an_need od__law_cell an__law_cell od__law_drawn an__law_drawn od__law_word an__law_word od__law_told an__law_told od_law an_law od_Life___init__ an_Life___init__ od_Life_state an_Life_state od_Life_may an_Life_may od_Life_may_say an_Life_may_say od_Life_says an_Life_says od_Life_hears an_Life_hears : Option Addr} {ts_WORDS sl_need sl__law_cell sl__law_drawn sl__law_word sl__law_told sl_law sl_Life___init__ sl_Life_state sl_Life_may sl_Life_may_say sl_Life_says sl_Life_hears : Array (Option Value)} {tk0_WORDS tk1_WORDS tk2_WORDS dt0_BEHIND dt1_BEHIND dt2_BEHIND dt0_HEARD dt1_HEARD dt2_HEARD : Tok} {tn_WORDS dn_BEHIND dn_HEARD : Nat} {de_BEHIND de_HEARD : Array DictEntry} (X : K.In h) (G : h.Ns mainGlobals mg) (hfa : mg "law" = some (.ref fa)) (KT : ∀ q ∈ [PP_law], h.get? q = some (PySem.W.tabObj #[])) 
    (ae0 : PySem.W.nsIn K mainGlobals "BadBook" = some (some (.ref e0)))
    (ae1 : PySem.W.nsIn K mainGlobals "BadBytes" = some (some (.ref e1)))
    (ae2 : PySem.W.nsIn K mainGlobals "BadRank" = some (some (.ref e2)))
    (ae3 : PySem.W.nsIn K mainGlobals "BadRoom" = some (some (.ref e3)))
    (ae4 : PySem.W.nsIn K mainGlobals "BadSheet" = some (some (.ref e4)))
    (ae5 : PySem.W.nsIn K mainGlobals "BadTurn" = some (some (.ref e5)))
    (ae6 : PySem.W.nsIn K mainGlobals "WireError" = some (some (.ref e6)))
    (er : errsIn K (fun i => [e0, e1, e2, e3, e4, e5, e6].getD i 0) = true)
    (z_isinstance : PySem.W.nsIn K mainGlobals "isinstance" = some none)
    (z_sum : PySem.W.nsIn K mainGlobals "sum" = some none)
    (z_int : PySem.W.nsIn K mainGlobals "int" = some none)
    (z_len : PySem.W.nsIn K mainGlobals "len" = some none)
    (z_ValueError : PySem.W.nsIn K mainGlobals "ValueError" = some none)
    (z_max : PySem.W.nsIn K mainGlobals "max" = some none)
    (z_min : PySem.W.nsIn K mainGlobals "min" = some none)
    (z_range : PySem.W.nsIn K mainGlobals "range" = some none)
    (z_bool : PySem.W.nsIn K mainGlobals "bool" = some none)
    (a_WORDS : PySem.W.nsIn K mainGlobals "WORDS" = some (some (.ref t_WORDS)))
    (l_WORDS : K.lookup t_WORDS = some ⟨.type "tuple", td_WORDS, .seq #[.str "heads" tk0_WORDS, .str "piece" tk1_WORDS, .str "cut" tk2_WORDS] tn_WORDS, ts_WORDS⟩)
    (a_BEHIND : PySem.W.nsIn K mainGlobals "BEHIND" = some (some (.ref d_BEHIND)))
    (l_BEHIND : K.lookup d_BEHIND = some { cls := .type "dict", data := .dict de_BEHIND dn_BEHIND })
    (k_BEHIND : PySem.W.KeysLit w.params de_BEHIND.toList)
    (v0_BEHIND : PySem.W.nsIn K d_BEHIND "idle" = some (some (.str "said" dt0_BEHIND)))
    (v1_BEHIND : PySem.W.nsIn K d_BEHIND "open" = some (some (.str "said" dt1_BEHIND)))
    (v2_BEHIND : PySem.W.nsIn K d_BEHIND "heard" = some (some (.str "over" dt2_BEHIND)))
    (a_HEARD : PySem.W.nsIn K mainGlobals "HEARD" = some (some (.ref d_HEARD)))
    (l_HEARD : K.lookup d_HEARD = some { cls := .type "dict", data := .dict de_HEARD dn_HEARD })
    (k_HEARD : PySem.W.KeysLit w.params de_HEARD.toList)
    (v0_HEARD : PySem.W.nsIn K d_HEARD "idle" = some (some (.str "heard" dt0_HEARD)))
    (v1_HEARD : PySem.W.nsIn K d_HEARD "open" = some (some (.str "heard" dt1_HEARD)))
    (v2_HEARD : PySem.W.nsIn K d_HEARD "said" = some (some (.str "over" dt2_HEARD)))
    (a_need : PySem.W.nsIn K mainGlobals "need" = some (some (.ref f_need)))
    (l_need : K.lookup f_need = some ⟨oc_need, od_need, .func (PySem.W.fnOf "need" "need" (defArgs s_need) (defBody s_need) (defScope s_need) .none kV_need dc_need pm_need an_need cd_need ct_need), sl_need⟩)
    (c_need : PySem.W.codeIn K cd_need "need" = true)
    (k_need : PySem.W.keepIn K (.ref f_need) = true)
    (a__law_cell : PySem.W.nsIn K mainGlobals "_law_cell" = some (some (.ref f__law_cell)))
    (l__law_cell : K.lookup f__law_cell = some ⟨oc__law_cell, od__law_cell, .func (PySem.W.fnOf "_law_cell" "_law_cell" (defArgs s__law_cell) (defBody s__law_cell) (defScope s__law_cell) .none kV__law_cell dc__law_cell pm__law_cell an__law_cell cd__law_cell ct__law_cell), sl__law_cell⟩)
    (c__law_cell : PySem.W.codeIn K cd__law_cell "_law_cell" = true)
    (k__law_cell : PySem.W.keepIn K (.ref f__law_cell) = true)
    (a__law_drawn : PySem.W.nsIn K mainGlobals "_law_drawn" = some (some (.ref f__law_drawn)))
    (l__law_drawn : K.lookup f__law_drawn = some ⟨oc__law_drawn, od__law_drawn, .func (PySem.W.fnOf "_law_drawn" "_law_drawn" (defArgs s__law_drawn) (defBody s__law_drawn) (defScope s__law_drawn) .none kV__law_drawn dc__law_drawn pm__law_drawn an__law_drawn cd__law_drawn ct__law_drawn), sl__law_drawn⟩)
    (c__law_drawn : PySem.W.codeIn K cd__law_drawn "_law_drawn" = true)
    (k__law_drawn : PySem.W.keepIn K (.ref f__law_drawn) = true)
    (a__law_word : PySem.W.nsIn K mainGlobals "_law_word" = some (some (.ref f__law_word)))
    (l__law_word : K.lookup f__law_word = some ⟨oc__law_word, od__law_word, .func (PySem.W.fnOf "_law_word" "_law_word" (defArgs s__law_word) (defBody s__law_word) (defScope s__law_word) .none kV__law_word dc__law_word pm__law_word an__law_word cd__law_word ct__law_word), sl__law_word⟩)
    (c__law_word : PySem.W.codeIn K cd__law_word "_law_word" = true)
    (k__law_word : PySem.W.keepIn K (.ref f__law_word) = true)
    (a__law_told : PySem.W.nsIn K mainGlobals "_law_told" = some (some (.ref f__law_told)))
    (l__law_told : K.lookup f__law_told = some ⟨oc__law_told, od__law_told, .func (PySem.W.fnOf "_law_told" "_law_told" (defArgs s__law_told) (defBody s__law_told) (defScope s__law_told) .none kV__law_told dc__law_told pm__law_told an__law_told cd__law_told ct__law_told), sl__law_told⟩)
    (c__law_told : PySem.W.codeIn K cd__law_told "_law_told" = true)
    (k__law_told : PySem.W.keepIn K (.ref f__law_told) = true)
    (a_law : PySem.W.nsIn K mainGlobals "law" = some (some (.ref f_law)))
    (l_law : K.lookup f_law = some ⟨oc_law, od_law, .func (PySem.W.fnOf "law" "law" (defArgs s_law) (defBody s_law) (defScope s_law) .none kV_law dc_law pm_law an_law (.ref cc_law) ct_law), sl_law⟩)
    (c_law : PySem.W.codeIn K (.ref cc_law) "law" = true)
    (k_law : PySem.W.keepIn K (.ref f_law) = true)
    (aC_Life : PySem.W.nsIn K mainGlobals "Life" = some (some (.ref C_Life)))
    (pgC_Life : PySem.W.plainGet K C_Life Str.empty = true)
    (hdC_Life : PySem.W.hasDictIn K C_Life = true)
    (poC_Life : PySem.W.plainOver K C_Life = true)
    (saC_Life : PySem.W.findIn K (.ref C_Life) "__setattr__" = some (some (.builtin "object.__setattr__")))
    (mkC_Life : PySem.W.makesIn K C_Life = true)
    (kcC_Life : PySem.W.keepIn K (.ref C_Life) = true)
    (nC_Life_stage : PySem.W.findIn K (.ref C_Life) "stage" = some none)
    (nC_Life_has_said : PySem.W.findIn K (.ref C_Life) "has_said" = some none)
    (nC_Life_has_heard : PySem.W.findIn K (.ref C_Life) "has_heard" = some none)
    (nC_Life_is_cut : PySem.W.findIn K (.ref C_Life) "is_cut" = some none)
    (a_Life___init__ : PySem.W.findIn K (.ref C_Life) "__init__" = some (some (.ref f_Life___init__)))
    (i_Life___init__ : PySem.W.isFn K (.ref f_Life___init__) = true)
    (l_Life___init__ : K.lookup f_Life___init__ = some ⟨oc_Life___init__, od_Life___init__, .func (PySem.W.fnOf "__init__" "Life.__init__" (defArgs s_Life_init) (defBody s_Life_init) (defScope s_Life_init) .none kV_Life___init__ dc_Life___init__ pm_Life___init__ an_Life___init__ cd_Life___init__ ct_Life___init__), sl_Life___init__⟩)
    (c_Life___init__ : PySem.W.codeIn K cd_Life___init__ "Life.__init__" = true)
    (k_Life___init__ : PySem.W.keepIn K (.ref f_Life___init__) = true)
    (a_Life_state : PySem.W.findIn K (.ref C_Life) "state" = some (some (.ref f_Life_state)))
    (i_Life_state : PySem.W.isFn K (.ref f_Life_state) = true)
    (l_Life_state : K.lookup f_Life_state = some ⟨oc_Life_state, od_Life_state, .func (PySem.W.fnOf "state" "Life.state" (defArgs s_Life_state) (defBody s_Life_state) (defScope s_Life_state) .none kV_Life_state dc_Life_state pm_Life_state an_Life_state cd_Life_state ct_Life_state), sl_Life_state⟩)
    (c_Life_state : PySem.W.codeIn K cd_Life_state "Life.state" = true)
    (k_Life_state : PySem.W.keepIn K (.ref f_Life_state) = true)
    (a_Life_may : PySem.W.findIn K (.ref C_Life) "may" = some (some (.ref f_Life_may)))
    (i_Life_may : PySem.W.isFn K (.ref f_Life_may) = true)
    (l_Life_may : K.lookup f_Life_may = some ⟨oc_Life_may, od_Life_may, .func (PySem.W.fnOf "may" "Life.may" (defArgs s_Life_may) (defBody s_Life_may) (defScope s_Life_may) .none kV_Life_may dc_Life_may pm_Life_may an_Life_may cd_Life_may ct_Life_may), sl_Life_may⟩)
    (c_Life_may : PySem.W.codeIn K cd_Life_may "Life.may" = true)
    (k_Life_may : PySem.W.keepIn K (.ref f_Life_may) = true)
    (a_Life_may_say : PySem.W.findIn K (.ref C_Life) "may_say" = some (some (.ref f_Life_may_say)))
    (i_Life_may_say : PySem.W.isFn K (.ref f_Life_may_say) = true)
    (l_Life_may_say : K.lookup f_Life_may_say = some ⟨oc_Life_may_say, od_Life_may_say, .func (PySem.W.fnOf "may_say" "Life.may_say" (defArgs s_Life_may_say) (defBody s_Life_may_say) (defScope s_Life_may_say) .none kV_Life_may_say dc_Life_may_say pm_Life_may_say an_Life_may_say cd_Life_may_say ct_Life_may_say), sl_Life_may_say⟩)
    (c_Life_may_say : PySem.W.codeIn K cd_Life_may_say "Life.may_say" = true)
    (k_Life_may_say : PySem.W.keepIn K (.ref f_Life_may_say) = true)
    (a_Life_says : PySem.W.findIn K (.ref C_Life) "says" = some (some (.ref f_Life_says)))
    (i_Life_says : PySem.W.isFn K (.ref f_Life_says) = true)
    (l_Life_says : K.lookup f_Life_says = some ⟨oc_Life_says, od_Life_says, .func (PySem.W.fnOf "says" "Life.says" (defArgs s_Life_says) (defBody s_Life_says) (defScope s_Life_says) .none kV_Life_says dc_Life_says pm_Life_says an_Life_says cd_Life_says ct_Life_says), sl_Life_says⟩)
    (c_Life_says : PySem.W.codeIn K cd_Life_says "Life.says" = true)
    (k_Life_says : PySem.W.keepIn K (.ref f_Life_says) = true)
    (a_Life_hears : PySem.W.findIn K (.ref C_Life) "hears" = some (some (.ref f_Life_hears)))
    (i_Life_hears : PySem.W.isFn K (.ref f_Life_hears) = true)
    (l_Life_hears : K.lookup f_Life_hears = some ⟨oc_Life_hears, od_Life_hears, .func (PySem.W.fnOf "hears" "Life.hears" (defArgs s_Life_hears) (defBody s_Life_hears) (defScope s_Life_hears) .none kV_Life_hears dc_Life_hears pm_Life_hears an_Life_hears cd_Life_hears ct_Life_hears), sl_Life_hears⟩)
    (c_Life_hears : PySem.W.codeIn K cd_Life_hears "Life.hears" = true)
    (k_Life_hears : PySem.W.keepIn K (.ref f_Life_hears) = true)
    (ch_law : PySem.W.codeHdIn K cc_law PP_law = true)
    (nl_law : K.lookup PP_law = none) :
    LamX.LawAtS PySem.Challenge.rw_wirestrands_k41_whole_two_lives w K (L2N.CX PySem.Challenge.pw_wirestrands_k41_whole_two_lives w) 7 63 "script" mg fa h := by
  have E : Errs K mg (fun i => [e0, e1, e2, e3, e4, e5, e6].getD i 0) := errs_of er (PySem.W.mg_of X G ae0) (PySem.W.mg_of X G ae1) (PySem.W.mg_of X G ae2) (PySem.W.mg_of X G ae3) (PySem.W.mg_of X G ae4) (PySem.W.mg_of X G ae5) (PySem.W.mg_of X G ae6)
  have n_isinstance := PySem.W.mg_none_of X G z_isinstance
  have n_sum := PySem.W.mg_none_of X G z_sum
  have n_int := PySem.W.mg_none_of X G z_int
  have n_len := PySem.W.mg_none_of X G z_len
  have n_ValueError := PySem.W.mg_none_of X G z_ValueError
  have n_max := PySem.W.mg_none_of X G z_max
  have n_min := PySem.W.mg_none_of X G z_min
  have n_range := PySem.W.mg_none_of X G z_range
  have n_bool := PySem.W.mg_none_of X G z_bool
  have S_WORDS : ∀ H, SqT K H t_WORDS ((["heads", "piece", "cut"] : List Str).map V.str) := fun H => .inr ⟨_, _, _, l_WORDS, rfl, rfl, szle (by show 3 ≤ 100000; decide), .cons ⟨_, rfl⟩ (.cons ⟨_, rfl⟩ (.cons ⟨_, rfl⟩ (.nil)))⟩
  have G_WORDS := PySem.W.mg_of X G a_WORDS
  have G_BEHIND := PySem.W.mg_of X G a_BEHIND
  have D0_BEHIND : KDct K w d_BEHIND "idle" (.str "said") := ⟨_, _, _, l_BEHIND, k_BEHIND, v0_BEHIND, ⟨_, rfl⟩⟩
  have D1_BEHIND : KDct K w d_BEHIND "open" (.str "said") := ⟨_, _, _, l_BEHIND, k_BEHIND, v1_BEHIND, ⟨_, rfl⟩⟩
  have D2_BEHIND : KDct K w d_BEHIND "heard" (.str "over") := ⟨_, _, _, l_BEHIND, k_BEHIND, v2_BEHIND, ⟨_, rfl⟩⟩
  have G_HEARD := PySem.W.mg_of X G a_HEARD
  have D0_HEARD : KDct K w d_HEARD "idle" (.str "heard") := ⟨_, _, _, l_HEARD, k_HEARD, v0_HEARD, ⟨_, rfl⟩⟩
  have D1_HEARD : KDct K w d_HEARD "open" (.str "heard") := ⟨_, _, _, l_HEARD, k_HEARD, v1_HEARD, ⟨_, rfl⟩⟩
  have D2_HEARD : KDct K w d_HEARD "said" (.str "over") := ⟨_, _, _, l_HEARD, k_HEARD, v2_HEARD, ⟨_, rfl⟩⟩
  have D_need : DefAt K mg "need" s_need := ⟨f_need, _, fun_mk (st := s_need) l_need c_need k_need, PySem.W.mg_of X G a_need⟩
  have D__law_cell : DefAt K mg "_law_cell" s__law_cell := ⟨f__law_cell, _, fun_mk (st := s__law_cell) l__law_cell c__law_cell k__law_cell, PySem.W.mg_of X G a__law_cell⟩
  have D__law_drawn : DefAt K mg "_law_drawn" s__law_drawn := ⟨f__law_drawn, _, fun_mk (st := s__law_drawn) l__law_drawn c__law_drawn k__law_drawn, PySem.W.mg_of X G a__law_drawn⟩
  have D__law_word : DefAt K mg "_law_word" s__law_word := ⟨f__law_word, _, fun_mk (st := s__law_word) l__law_word c__law_word k__law_word, PySem.W.mg_of X G a__law_word⟩
  have D__law_told : DefAt K mg "_law_told" s__law_told := ⟨f__law_told, _, fun_mk (st := s__law_told) l__law_told c__law_told k__law_told, PySem.W.mg_of X G a__law_told⟩
  have D_law : LamAt K mg "law" s_law cc_law := ⟨f_law, _, _, _, _, _, _, _, _, l_law, c_law, k_law, PySem.W.mg_of X G a_law⟩
  have cC_Life : Cls K C_Life := ⟨pgC_Life, hdC_Life, poC_Life, saC_Life⟩
  have gC_Life := PySem.W.mg_of X G aC_Life
  have D_Life___init__ : MethAt K C_Life "__init__" "Life.__init__" s_Life_init := ⟨f_Life___init__, _, fun_mk (st := s_Life_init) l_Life___init__ c_Life___init__ k_Life___init__, a_Life___init__, i_Life___init__⟩
  have D_Life_state : MethAt K C_Life "state" "Life.state" s_Life_state := ⟨f_Life_state, _, fun_mk (st := s_Life_state) l_Life_state c_Life_state k_Life_state, a_Life_state, i_Life_state⟩
  have D_Life_may : MethAt K C_Life "may" "Life.may" s_Life_may := ⟨f_Life_may, _, fun_mk (st := s_Life_may) l_Life_may c_Life_may k_Life_may, a_Life_may, i_Life_may⟩
  have D_Life_may_say : MethAt K C_Life "may_say" "Life.may_say" s_Life_may_say := ⟨f_Life_may_say, _, fun_mk (st := s_Life_may_say) l_Life_may_say c_Life_may_say k_Life_may_say, a_Life_may_say, i_Life_may_say⟩
  have D_Life_says : MethAt K C_Life "says" "Life.says" s_Life_says := ⟨f_Life_says, _, fun_mk (st := s_Life_says) l_Life_says c_Life_says k_Life_says, a_Life_says, i_Life_says⟩
  have D_Life_hears : MethAt K C_Life "hears" "Life.hears" s_Life_hears := ⟨f_Life_hears, _, fun_mk (st := s_Life_hears) l_Life_hears c_Life_hears k_Life_hears, a_Life_hears, i_Life_hears⟩
  have e := hfa.symm.trans (PySem.W.mg_of X G a_law)
  cases e
  have HL : Hlp K mg (fun i => [e0, e1, e2, e3, e4, e5, e6].getD i 0) := ⟨E, n_isinstance, n_sum, n_int, n_len, n_ValueError, D__law_word, D__law_told, D__law_cell, D__law_drawn⟩
  have TV : TxV w K mg (fun i => [e0, e1, e2, e3, e4, e5, e6].getD i 0) C_Life := ⟨E, ⟨_, G_WORDS, S_WORDS⟩, ⟨_, G_BEHIND, D0_BEHIND, D1_BEHIND, D2_BEHIND⟩, ⟨_, G_HEARD, D0_HEARD, D1_HEARD, D2_HEARD⟩, D_need, cC_Life, nC_Life_stage, nC_Life_has_said, nC_Life_has_heard, nC_Life_is_cut, gC_Life, mkC_Life, kcC_Life, D_Life___init__, D_Life_state, D_Life_may, D_Life_may_say, D_Life_says, D_Life_hears⟩
  have TL : TxL w K mg (fun i => [e0, e1, e2, e3, e4, e5, e6].getD i 0) C_Life cc_law := ⟨HL, TV, n_range, n_max, n_min, n_len, n_isinstance, n_bool, D_law⟩
  refine ⟨PySem.W.fnOf "law" "law" (defArgs s_law) (defBody s_law) (defScope s_law) .none kV_law dc_law pm_law an_law (.ref cc_law) ct_law, [(cc_law, PP_law)], spLaw K PP_law, fun p hp => ?_, fun p hp => ?_, fun p hp => ?_, fun s u => .of_eq rfl, fun H a ns hl hb hT hS => ?_, fun base _ _ TB => ?_⟩
  · rw [List.mem_singleton.mp hp]; exact KT _ List.mem_cons_self
  · rw [List.mem_singleton.mp hp]; exact nl_law
  · rw [List.mem_singleton.mp hp]; exact PySem.W.codeHd_of_K X ch_law
  · exact ⟨a, ns, rfl, hS, hl, hT _ List.mem_cons_self, fun _ => rfl⟩
  · exact ok_law TL (TB _ List.mem_cons_self) l_law c_law
end Lw
open PySem PySem.W PyProof.Rows
set_option maxRecDepth 100000 in
set_option maxHeartbeats 0 in
theorem PySem.Challenge.cw_wirestrands_k41_whole_two_lives_holds : PySem.Challenge.rw_wirestrands_k41_whole_two_lives.Holds := by
  w_on; o_law; k_head; (case hw => w_witness2)
  k_fill
  refine LamX.walk_ofTs (l := PySem.Challenge.rw_wirestrands_k41_whole_two_lives) (n := 63) (k := 7) (x := "script") (CX := fun w => L2N.CX PySem.Challenge.pw_wirestrands_k41_whole_two_lives w) rfl (by decide) rfl ⟨rfl, by decide, by decide⟩ (fun w h Y => PySem.W.km_in_of Y) ?F (fun w H s e s' z => by obtain ⟨_, _, _, _, _, _, _, _, _, _, _, _, q⟩ := z; exact q)
  case F =>
    intro w mg fa h Y KX G hmg
    have KT := PySem.W.km_tabs_of Y
    clear Y
    refine' Lw.mk_law KX G hmg KT ?ae0 ?ae1 ?ae2 ?ae3 ?ae4 ?ae5 ?ae6 ?er ?z_isinstance ?z_sum ?z_int ?z_len ?z_ValueError ?z_max ?z_min ?z_range ?z_bool ?a_WORDS ?l_WORDS ?a_BEHIND ?l_BEHIND ?k_BEHIND ?v0_BEHIND ?v1_BEHIND ?v2_BEHIND ?a_HEARD ?l_HEARD ?k_HEARD ?v0_HEARD ?v1_HEARD ?v2_HEARD ?a_need ?l_need ?c_need ?k_need ?a__law_cell ?l__law_cell ?c__law_cell ?k__law_cell ?a__law_drawn ?l__law_drawn ?c__law_drawn ?k__law_drawn ?a__law_word ?l__law_word ?c__law_word ?k__law_word ?a__law_told ?l__law_told ?c__law_told ?k__law_told ?a_law ?l_law ?c_law ?k_law ?aC_Life ?pgC_Life ?hdC_Life ?poC_Life ?saC_Life ?mkC_Life ?kcC_Life ?nC_Life_stage ?nC_Life_has_said ?nC_Life_has_heard ?nC_Life_is_cut ?a_Life___init__ ?i_Life___init__ ?l_Life___init__ ?c_Life___init__ ?k_Life___init__ ?a_Life_state ?i_Life_state ?l_Life_state ?c_Life_state ?k_Life_state ?a_Life_may ?i_Life_may ?l_Life_may ?c_Life_may ?k_Life_may ?a_Life_may_say ?i_Life_may_say ?l_Life_may_say ?c_Life_may_say ?k_Life_may_say ?a_Life_says ?i_Life_says ?l_Life_says ?c_Life_says ?k_Life_says ?a_Life_hears ?i_Life_hears ?l_Life_hears ?c_Life_hears ?k_Life_hears ?ch_law ?nl_law
    (case ae0 => k_is)
    (case ae1 => k_is)
    (case ae2 => k_is)
    (case ae3 => k_is)
    (case ae4 => k_is)
    (case ae5 => k_is)
    (case ae6 => k_is)
    (case er => kernel_rfl)
    (case z_isinstance => k_is)
    (case z_sum => k_is)
    (case z_int => k_is)
    (case z_len => k_is)
    (case z_ValueError => k_is)
    (case z_max => k_is)
    (case z_min => k_is)
    (case z_range => k_is)
    (case z_bool => k_is)
    (case a_WORDS => k_is)
    (case l_WORDS => k_is)
    (case a_BEHIND => k_is)
    (case l_BEHIND => k_is)
    (case k_BEHIND => exact ⟨⟨_, _, rfl, rfl⟩, ⟨_, _, rfl, rfl⟩, ⟨_, _, rfl, rfl⟩, trivial⟩)
    (case v0_BEHIND => k_is)
    (case v1_BEHIND => k_is)
    (case v2_BEHIND => k_is)
    (case a_HEARD => k_is)
    (case l_HEARD => k_is)
    (case k_HEARD => exact ⟨⟨_, _, rfl, rfl⟩, ⟨_, _, rfl, rfl⟩, ⟨_, _, rfl, rfl⟩, trivial⟩)
    (case v0_HEARD => k_is)
    (case v1_HEARD => k_is)
    (case v2_HEARD => k_is)
    (case a_need => k_is)
    (case l_need => k_is)
    (case c_need => k_is)
    (case k_need => k_is)
    (case a__law_cell => k_is)
    (case l__law_cell => k_is)
    (case c__law_cell => k_is)
    (case k__law_cell => k_is)
    (case a__law_drawn => k_is)
    (case l__law_drawn => k_is)
    (case c__law_drawn => k_is)
    (case k__law_drawn => k_is)
    (case a__law_word => k_is)
    (case l__law_word => k_is)
    (case c__law_word => k_is)
    (case k__law_word => k_is)
    (case a__law_told => k_is)
    (case l__law_told => k_is)
    (case c__law_told => k_is)
    (case k__law_told => k_is)
    (case a_law => k_is)
    (case l_law => k_is)
    (case c_law => k_is)
    (case k_law => k_is)
    (case aC_Life => k_is)
    (case pgC_Life => k_is)
    (case hdC_Life => k_is)
    (case poC_Life => k_is)
    (case saC_Life => k_is)
    (case mkC_Life => k_is)
    (case kcC_Life => k_is)
    (case nC_Life_stage => k_is)
    (case nC_Life_has_said => k_is)
    (case nC_Life_has_heard => k_is)
    (case nC_Life_is_cut => k_is)
    (case a_Life___init__ => k_is)
    (case i_Life___init__ => k_is)
    (case l_Life___init__ => k_is)
    (case c_Life___init__ => k_is)
    (case k_Life___init__ => k_is)
    (case a_Life_state => k_is)
    (case i_Life_state => k_is)
    (case l_Life_state => k_is)
    (case c_Life_state => k_is)
    (case k_Life_state => k_is)
    (case a_Life_may => k_is)
    (case i_Life_may => k_is)
    (case l_Life_may => k_is)
    (case c_Life_may => k_is)
    (case k_Life_may => k_is)
    (case a_Life_may_say => k_is)
    (case i_Life_may_say => k_is)
    (case l_Life_may_say => k_is)
    (case c_Life_may_say => k_is)
    (case k_Life_may_say => k_is)
    (case a_Life_says => k_is)
    (case i_Life_says => k_is)
    (case l_Life_says => k_is)
    (case c_Life_says => k_is)
    (case k_Life_says => k_is)
    (case a_Life_hears => k_is)
    (case i_Life_hears => k_is)
    (case l_Life_hears => k_is)
    (case c_Life_hears => k_is)
    (case k_Life_hears => k_is)
    (case ch_law => kernel_rfl)
    (case nl_law => kernel_rfl)
#print axioms PySem.Challenge.cw_wirestrands_k41_whole_two_lives_holds
