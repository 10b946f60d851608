import PyProof.Rows.All
import Wide.All
import OpenK.AllK
import Wide.FinOn
import HandS.Base
import HandS.Call
import HandS.List
import HandS.Comp
import HandS.Exc
import HandS.Hot
import HandS.HotCalls
import HandS.Lambda
import HandS.ExcIs
import HandS.Words
import HandS.Wide
import HandS.ForMost
import HandS.EndTab
import HandS.IsInst
import HandS.Style
import HandS.SortInts
import HandS.More
import HandS.Small
import PySem.Challenge.RW_wirestrands_k11_numbers_refused
set_option Elab.async false
set_option linter.all false
set_option maxRecDepth 100000
set_option maxHeartbeats 4000000
namespace Ws
open PySem PySem.Spec PyProof.Rows L2 HotX
section
variable {prog : Program} {w : World} {A : Around} {E : Value → Shared → Prop} {s : Shared}
/-- the end of a list's walk while an exception is handled -/
theorem next_end_hot {it l x1 : Addr} {i : Nat} {items : Array Value} {Q : Option Value → Shared → Prop} (hot : HotAt A x1 s.heap) (nx : x1 ≠ it)
    (hit : s.heap.IsListIter it l i) (hl : s.heap.IsList l items) (hx : items[i]? = none)
    (hQ : ∀ h', Heap.ExtBut it s.heap h' → Q none { s with heap := h' }) : wpAny (model prog w) A (pyNext (.ref it)) Q E s := by
  obtain ⟨o, ho, hc, hd⟩ := id hit
  obtain ⟨ol, hol, _, nl, hdl⟩ := hl
  obtain ⟨hh, o1, vs1, h1, d1, c1⟩ := hot
  unfold pyNext
  refine wpAny_bind (wpAny_attempt (wpAny_callSpecial?_slot (name := Str.ofString "__next__") hit.typeIs slot_listiter_next
    (wpAny_call_entry slot_listiter_next hit.typeIs entry_listiter_next ?_ (args_listiter_next _))))
  refine wpAny_bind (m := field (.ref it) 0) (wpAny_field ho hd (x := .ref l) rfl ?_)
  rw [if_neg (show ¬ ((Value.ref l == Value.none) = true) from Bool.false_ne_true)]
  refine wpAny_bind (m := field (.ref it) 1) (wpAny_field ho hd (x := .int i 0) rfl ?_)
  refine wpAny_bind (m := seqItems? (.ref l)) (wpAny_seqItems hol hdl ?_)
  simp only [Int.toNat_natCast, hx]
  refine wpAny_bind (wpAny_rule (wpAny_bind (wpAny_setField ho hd (by simp) ?_)))
  refine wpAny_bind (m := newExc (.type "StopIteration") []) ?_
  simp only [newExc, newTuple]
  refine wpAny_bind (wpAny_newObj_type ?_ (by size_fits))
  refine wpAny_bind (m := firstArgMember _ _) (wpAny_of_eq (a := Value.none) (by first | rfl | (simp only [firstArgMember]; rfl)) ?_)
  refine wpAny_newObj_type ?_ (by size_fits)
  have h1' : (s.heap.update it (Obj.mapFields (·.setIfInBounds 0 Value.none))).get? x1 = some o1 := by
    rw [Heap.get?_update_other _ _ (Ne.symm nx)]; exact h1
  refine raiseNew_hot ⟨hh, o1, vs1, Heap.get?_push_of_some _ (Heap.get?_push_of_some _ h1'), d1, c1⟩ (Nat.ne_of_lt (Heap.lt_size (Heap.get?_push_of_some _ h1'))) (Heap.get?_push_size _ rfl) rfl (by first | (simp; done) | (simp; omega) | (simp only [Array.size_append]; simp; omega)) ?_
  refine wpAny_bind (wpAny_isInstance (T := "StopIteration") (b := true) ⟨_, Heap.get?_update_self _ (Heap.get?_push_size _ rfl) rfl, rfl⟩ isSubtype_stop ?_)
  refine wpAny_pure (hQ _ fun b o hb e => ?_)
  have e' : (s.heap.update it (Obj.mapFields (·.setIfInBounds 0 Value.none))).get? b = some o := by
    rw [Heap.get?_update_other _ _ (Ne.symm hb)]; exact e
  rw [Heap.get?_update_other _ _ (Nat.ne_of_gt (Heap.lt_size (Heap.get?_push_of_some _ e')))]
  exact Heap.get?_push_of_some _ (Heap.get?_push_of_some _ e')
end

section
variable {prog : Program} {w : World} {A : Around}
theorem walks_hot {x1 : Addr} {o1 : Obj} {vs1 : Array Value} (hh : A.handled = some (.ref x1)) (d1 : o1.data = .fields vs1) (c1 : vs1[2]? = some .none) (it ax : Addr) (hne : ax ≠ it) (hx : x1 ≠ it) (items : Array Value) :
    Walks prog w A it [it, ax, x1] [it] items.size (fun i v => items[i]? = some v) (fun i h => h.IsListIter it ax i ∧ h.IsList ax items ∧ h.get? x1 = some o1) where
  sub := fun b hb => by simp at hb; simp [hb]
  frame := fun _ _ _ st hk => ⟨st.1.at fun o e => hk it (by simp) o e, st.2.1.at fun o e => hk ax (by simp) o e, hk x1 (by simp) _ st.2.2⟩
  item := fun i s Q E hi st hQ => by
    refine wpAny_pyNext_list_item st.1 st.2.1 (x := items[i]) (by simp [hi]) fun h' hit' hs' => ?_
    exact hQ _ h' s.toks (by simp [hi]) ⟨hit', st.2.1.extBut hs'.extBut hne, hs'.extBut _ _ hx st.2.2⟩ fun b o hb e => hs'.extBut b o (fun h => hb (by simp [h])) e
  done := fun s Q E st hQ => next_end_hot ⟨hh, o1, vs1, st.2.2, d1, c1⟩ hx st.1 st.2.1 (by simp) fun h' eb => hQ h' s.toks fun b o hb e => eb b o (by simpa using hb) e
  self := fun i s Q E st hQ => wpAny_pyIter_listiter st.1 hQ
end
section
variable {X : Cx}
/-- sum of a list of ints while an exception is handled -/
theorem cr_sumH (hc : L2H.HotC X) : CallR X (.builtin "sum") (rSum X.K) := by
  intro pins s σ H vs us Q I r h
  obtain ⟨a, ns, rfl, hs, q⟩ := h
  obtain ⟨its, rv, hl, _⟩ := I.list hs
  rw [Vals.ref1 r]
  have hi : IntsAre its ns := rv.ints
  obtain ⟨xs, e⟩ := hi.allInts.items
  have hn : numsOf (intItems xs).toList = ns := by rw [← e]; exact hi.numsOf
  rw [nums_intItems] at hn
  have hl := hl.isList
  rw [e] at hl
  obtain ⟨p, ⟨hh, v1, e1, c1⟩, hp⟩ := hc
  have hget := (I.pin p (List.mem_append_left _ hp)).1
  refine call_sum_walkG (iter_intList hl fun s₂ e₂ st hfp hlI => ?_)
  subst e₂
  have hne : p.1 ≠ s.heap.objs.size := Nat.ne_of_lt (Heap.lt_size hget)
  refine ⟨_, _, _, _, _, _, numAt xs, rfl, walks_hot (A := X.A.in1) (x1 := p.1) (o1 := p.2) hh e1 c1 _ a hlI hne (intItems xs), ⟨st.1, st.2, Heap.get?_push_of_some _ hget⟩, fun b hb => ?_, (fun _ _ => intItems_at), fun h' tk t' hk => ?_⟩
  · have hb' : b = s.heap.objs.size ∨ b = a ∨ b = p.1 := by simpa using hb
    rcases hb' with z | z | z
    · exact hfp b (by simp [z])
    · exact hfp b (by simp [z])
    · rw [z]; exact Heap.lt_size (Heap.get?_push_of_some _ hget)
  · have hk' : ∀ b o, s.heap.get? b = some o → h'.get? b = some o := old_kept hk
    have ee : preSum (numAt xs) (intItems xs).size = ns.sum := by
      rw [show (intItems xs).size = xs.size by simp [intItems], preSum_eq, List.take_of_length_le (by simp), hn]
    rw [ee]
    exact ⟨.int _, H, I.kept hk', ⟨_, rfl⟩, q⟩
end
end Ws

set_option Elab.async false
set_option linter.all false
set_option maxRecDepth 100000
set_option maxHeartbeats 4000000
namespace Ws
open PySem PySem.Spec PyProof.Rows L2 HotX
section
variable {X : Cx}
/-- a list made of a list, item by item, by a reading that touches nothing -/
def tMapH (K : PySem.W.Frag) (tl : TE) (g : TG) (te : TE) (vs : List Nat) : TE := fun σ H Q => tl σ H fun x H1 => ∃ (a : Addr) (xs : List V) (f : V → V), x = .ref a ∧ SqL K H1 a xs ∧ xs.length < sizeLine ∧
  (∀ (v : V) (H : Hp), v ∈ xs → g v (wipe σ vs) H fun σ2 H2 => H2 = H ∧ wipe σ2 vs = wipe σ vs ∧ te σ2 H2 fun y H3 => H3 = H ∧ y = f v) ∧
  ∀ D, H1 D = none → Q (.ref D) (upd H1 D (.lst (xs.map f)))
theorem sql_new {K : PySem.W.Frag} {H : Hp} {a D : Addr} {xs : List V} {o : HO} (h : SqL K H a xs) (hD : H D = none) : SqL K (upd H D o) a xs := by
  rcases h with (h | ⟨ob, h⟩) | h
  · exact .inl (.inl (by rw [upd_ne (ne_of_none h hD)]; exact h))
  · exact .inl (.inr ⟨ob, by rw [upd_ne (ne_of_none h hD)]; exact h⟩)
  · exact .inr h
theorem pe_mapH {elt tg iter : Expr} {scope : Scope} {own : List (Str × Nat)} {pos : Pos} {tl : TE} {g : TG} {te : TE} (hc : L2H.HotC X) (hN : X.N.Nodup) (hi : PE X iter tl) (ok : BlkOk X.N X.env.scope scope own)
    (hg : ∀ (s : Shared) (H : Hp) (C : Addr) (cl : List (Str × Addr)) (fp : List Addr), PG (X.blk s H scope (compEnvC scope cl C X.env) fp) tg g)
    (he : ∀ (s : Shared) (H : Hp) (C : Addr) (cl : List (Str × Addr)) (fp : List Addr), PE (X.blk s H scope (compEnvC scope cl C X.env) fp) elt te) (hs : ∀ x, foldedSetIterable iter X.env x = pure x := by intro _; rfl) :
    PE X (.ListComp elt [⟨tg, iter, [], 0⟩] scope pos) (tMapH X.K tl g te (own.map (·.2))) := by
  refine ⟨fun pins s σ H Q I h => ?_⟩
  rw [eval_ListComp]
  have hfree : ∀ y ∈ scope.names, y.2 = .free → ∃ c, X.env.cells.lookup y.1 = some c := fun y hy e => by
    rcases ok.free y hy e with k | k
    · exact I.ok.has _ (.inl k)
    · exact I.ok.has _ (.inr k)
  refine wpAny_comprehension_free (use := Option.none) rfl hs (closure_ok hfree) ok.kind (fun y hy e => by rw [ok.uniq y hy, e])
    (thn (hi.run pins s σ H _ I h) fun xv s1 hx => ?_)
  obtain ⟨x, H1, I1, rx, a, xs, f, ex, hsq, hlen, hel, hq⟩ := hx
  subst ex
  cases rx
  obtain ⟨its, rv, p, hz⟩ := I1.list hsq
  refine wpAny_pyIter_list p.isList ?_
  have hvl := rv.length
  -- the iterator
  generalize hit : s1.heap.objs.size = it
  generalize hs2 : ({ s1 with heap := s1.heap.push { cls := .type "list_iterator", data := .fields #[.ref a, .int 0 0] } } : Shared) = s2
  have I2 : Inv X pins σ H1 s2 := by
    rw [← hs2]
    exact I1.kept (t' := s1.toks) fun b o e => Heap.get?_push_of_some _ e
  have st2 : s2.heap.IsListIter it a 0 := by
    rw [← hs2, ← hit]
    exact ⟨_, Heap.get?_push_size _ rfl, rfl, rfl⟩
  have f2 : FpOk X pins H1 it := by
    have z := I1.fpOk (b := it) (Nat.le_of_eq hit) (I1.hok.fresh (Nat.le_of_eq hit))
    exact z
  refine wpAny_newObj_type (newEnv_comp ?_) (by show 0 ≤ sizeLine; decide)
  generalize hD : s2.heap.objs.size = D
  have hDn : H1 D = none := I2.hok.fresh (Nat.le_of_eq hD)
  generalize hs3 : ({ s2 with heap := s2.heap.push { cls := .type "list", data := .seq ([] : List Value).toArray } } : Shared) = s3
  have h3 : s3.heap = s2.heap.push { cls := .type "list", data := .seq ([] : List Value).toArray } := by rw [← hs3]
  have I3 : Inv X pins σ (upd H1 D (.lst [])) s3 := by
    rw [← hs3]
    refine I2.laid (t' := s2.toks) (fun b o e => Heap.get?_push_of_some _ e) (Nat.le_of_eq hD) ⟨Nat.zero_le _, [], 0, .nil, ?_⟩
    rw [← hD]
    exact Heap.get?_push_size _ rfl
  have hitlt : it < s2.heap.objs.size := by
    obtain ⟨o, e, _⟩ := st2
    exact Heap.lt_size e
  have f3 : FpOk X pins (upd H1 D (.lst [])) it ∧ it < s3.heap.objs.size := by
    refine ⟨⟨?_, f2.2⟩, by rw [h3, Heap.size_push]; exact Nat.lt_succ_of_lt hitlt⟩
    rw [upd_ne (by rw [← hD]; exact Nat.ne_of_lt hitlt)]
    exact f2.1
  have f3' : ∀ b ∈ [it], FpOk X pins (upd H1 D (.lst [])) b ∧ b < s3.heap.objs.size := fun b hb => by
    have e : b = it := by simpa using hb
    rw [e]; exact f3
  have st3 : s3.heap.IsListIter it a 0 := st2.at fun o e => by rw [h3]; exact Heap.get?_push_of_some _ e
  have I4 := block_start I3 ok hN f3'
  have pg := hg s3 (upd H1 D (.lst [])) s3.heap.objs.size (cellsFrom (s3.heap.objs.size + 1) scope.names (cloFrom X.env.cells scope.names [])) [it]
  have pe := he s3 (upd H1 D (.lst [])) s3.heap.objs.size (cellsFrom (s3.heap.objs.size + 1) scope.names (cloFrom X.env.cells scope.names [])) [it]
  -- the handled exception
  obtain ⟨px, ⟨hh, v1, e1, c1⟩, hp⟩ := hc
  have P3 := I3.pin px (List.mem_append_left _ hp)
  show codeAny _ _ (.compStart (.ListComp elt [⟨tg, iter, [], 0⟩] scope pos) 0 (.ref it) (.ref D) (compEnvC scope (cellsFrom (s3.heap.objs.size + 1) scope.names (cloFrom X.env.cells scope.names [])) s3.heap.objs.size X.env)) (compPost (model X.prog X.w) X.A X.xe Option.none (EP X pins σ Q) (.ref D) s3.heap.objs.size) { s3 with heap := pushCells (s3.heap.push { cls := .type "dict", data := .dict #[] }) scope.names }
  generalize hce : compEnvC scope (cellsFrom (s3.heap.objs.size + 1) scope.names (cloFrom X.env.cells scope.names [])) s3.heap.objs.size X.env = ce at I4 pg pe ⊢
  have cL : ce.locals = s3.heap.objs.size := by subst hce; rfl
  generalize hH3 : upd H1 D (.lst []) = H3 at I3 I4 pg pe f3 f3' P3
  generalize hs4 : ({ s3 with heap := pushCells (s3.heap.push { cls := .type "dict", data := .dict #[] }) scope.names } : Shared) = s4 at I4 ⊢
  have st4 : s4.heap.IsListIter it a 0 := st3.at fun o e => by rw [← hs4]; exact pushCells_keeps _ _ _ _ (Heap.get?_push_of_some _ e)
  have stat : ∀ {σ' : L2.St} {H' : Hp} {s' : Shared}, Inv (X.blk s3 H3 scope ce [it]) [] σ' H' s' → H' it = none → FpOk (X.blk s3 H3 scope ce [it]) [] H' it := fun {σ' H' s'} I' hn =>
    ⟨hn, (I'.ok.exf it (by simp)).1, I'.ok.exfs it (by simp), .inl (by simp), fun x c e => (I'.ok.exf it (by simp)).2 x c e, fun p hp => absurd (show p ∈ ([] : List (Addr × Obj)) ++ [] from hp) (by simp)⟩
  have nxit : px.1 ≠ it := fun z => by
    have q : px.1 < s1.heap.objs.size := Heap.lt_size (I1.pin px (List.mem_append_left _ hp)).1
    rw [z, ← hit] at q
    exact Nat.lt_irrefl _ q
  have hotB : ∀ {σ' : L2.St} {H' : Hp} {s' : Shared}, Inv (X.blk s3 H3 scope ce [it]) [] σ' H' s' → HotAt X.A px.1 s'.heap := fun {σ' H' s'} I' => by
    refine ⟨hh, px.2, v1, I'.base.keep px.1 px.2 P3.1 P3.2.1 ?_ (by simpa using nxit), e1, c1⟩
    intro hm
    have hm' : px.1 ∈ frs X.stack := hm
    rcases List.mem_cons.mp (I3.stkSub px.1 hm') with z | z
    · exact P3.2.2.1 z
    · exact P3.2.2.2.1 z
  have Hi : ∀ i, i ≤ xs.length → Hp := fun i _ => upd H1 D (.lst ((xs.take i).map f))
  have loop : codeAny (model X.prog X.w) X.A (.compLoop (.ListComp elt [⟨tg, iter, [], 0⟩] scope pos) 0 (.ref it) (.ref D) ce) (compPost (model X.prog X.w) X.A X.xe Option.none (EP X pins σ Q) (.ref D) s3.heap.objs.size) s4 := by
    refine compLoop_any (fun n s' => ∃ i H', n = xs.length - i ∧ i ≤ xs.length ∧ Inv (X.blk s3 H3 scope ce [it]) [] (wipe σ (own.map (·.2))) H' s' ∧ s'.heap.IsListIter it a i ∧ H' = upd H1 D (.lst ((xs.take i).map f))) ?_ xs.length ⟨0, H3, by simp, Nat.zero_le _, I4, st4, by rw [← hH3]; simp⟩
    rintro n s5 ⟨i, H5, rfl, hil, I5, st5, eH5⟩
    have nit : H5 it = none := by
      rw [eH5, upd_ne (by rw [← hD]; exact Nat.ne_of_lt hitlt)]
      exact f2.1
    obtain ⟨g0, g1, g2, g3, g4, g5⟩ := stat I5 nit
    have hsq5 : SqL X.K H5 a xs := by rw [eH5]; exact sql_new hsq hDn
    obtain ⟨its5, rv5, p5, hz5⟩ := I5.list hsq5
    have hvl5 := rv5.length
    by_cases hlt : i < xs.length
    · obtain ⟨u, hu, ru⟩ := rv5.get (i := i) (x := xs[i]) (by simp [hlt])
      refine wpAny_pyNext_list_item st5 p5.isList (x := u) (by simpa using hu) fun h' st' sb => ?_
      have I6 : Inv (X.blk s3 H3 scope ce [it]) [] (wipe σ (own.map (·.2))) H5 { s5 with heap := h' } := I5.turned (t' := s5.toks) (fun b o hb e => (sb.2 b hb).trans e) g0 g1 g3 g4 g5
      obtain ⟨o, e, c, d⟩ := id st'
      refine go_of (s := { s5 with heap := h' }) e c d (by decide) ?_
      have I6' := I6.pinned (fp := [it]) (fun b hb => by
        have eb : b = it := by simpa using hb
        rw [eb]
        exact ⟨g0, g1, g2, g3, g4, g5⟩) (fun b hb => by
        have eb : b = it := by simpa using hb
        rw [eb]
        exact ⟨o, e, fun v z => by rw [d] at z; cases z⟩)
      refine thnF (pg.run _ _ _ H5 xs[i] u _ I6' ru (hel xs[i] H5 (List.getElem_mem hlt))) fun _ s8 ⟨σ8, H8, I8, e8, hw8, q8⟩ => ?_
      subst e8
      refine wpAny_tests_nil ?_
      rw [if_pos rfl]
      refine thnF (pe.run _ s8 σ8 _ _ I8 q8) fun z s10 ⟨yv, H10, I10, r10, e10, ey⟩ => ?_
      subst e10 ey
      have hD10 : H10 D = some (.lst ((xs.take i).map f)) := by rw [eH5]; exact upd_same
      refine app_ok (X := X.blk s3 H3 scope ce [it]) I10 hD10 (by rw [List.length_map, List.length_take]; omega) r10 fun s11 I11 => ?_
      have pin' : s11.heap.get? it = some o ∧ _ := I11.pin (it, o) (List.mem_append_right _ (List.mem_append_right _ (mem_pinsAt (by simp) e)))
      refine ⟨xs.length - (i + 1), by omega, i + 1, _, rfl, hlt, (I11.unpinned (pins := [])).weak (by rw [← hw8, wipe_length]) (fun j v e => ?_), ⟨o, pin'.1, c, d⟩, ?_⟩
      · rw [← hw8] at e
        exact (wipe_some e).1
      · have et : xs.take (i + 1) = xs.take i ++ [xs[i]] := by
          rw [List.take_add_one, List.getElem?_eq_getElem hlt]
          rfl
        rw [eH5, upd_upd, et, List.map_append]
        rfl
    · have ei : i = xs.length := by omega
      refine next_end_hot (hotB I5) nxit st5 p5.isList (by simp; omega) fun h' eb => ?_
      have I6 : Inv (X.blk s3 H3 scope ce [it]) [] (wipe σ (own.map (·.2))) H5 { s5 with heap := h' } := I5.turned (t' := s5.toks) (fun b o hb e => eb b o hb e) g0 g1 g3 g4 g5
      have I7 : Inv X pins σ H5 { s5 with heap := h' } := I3.call' (ch := [it]) I6.os I6.base I6.hok I6.bare fun b hb => ⟨(f3' b hb).1.2.2.2.1, (f3' b hb).1.2.1, (f3' b hb).1.2.2.2.2.1, (f3' b hb).1.2.2.2.2.2⟩
      have nC : H5 s3.heap.objs.size = none := by
        have z : H5 ce.locals = none := I6.free
        rw [cL] at z
        exact z
      obtain ⟨m, hn, _⟩ := I6.loc
      have hn : ({ s5 with heap := h' } : Shared).heap.Ns ce.locals m := hn
      rw [cL] at hn
      obtain ⟨k0, k1, k2, k3, k4, k5⟩ := I3.fpOk (b := s3.heap.objs.size) (Nat.le_refl _) nC
      refine ⟨m, hn, fun h'' sb => ⟨.ref D, H5, I7.turned (t' := s5.toks) (fun b o hb e => (sb.2 b hb).trans e) k0 k1 k3 k4 k5, rfl, ?_⟩⟩
      rw [eH5, ei, List.take_length]
      exact hq D hDn
  exact codeAny_compStart_list loop (wpAny_pyIter_listiter st4 loop)
end
end Ws

set_option Elab.async false
set_option linter.all false
set_option maxRecDepth 100000
set_option maxHeartbeats 4000000
namespace Ws
open PySem PySem.Spec PyProof.Rows L2 HotX LamX
/-! ### a def called while an exception is handled, told of the very state -/
theorem run_hot {CX : CXT} {P : Program} {w : World} {K : PySem.W.Frag} {mg : Str → Option Value} {base : Heap} {k : Nat} {f : Addr} {name qual : Str} {params : Arguments} {body : List Stmt} {scope : Scope} {dV kV doc pm cdv ct oc : Value} {an od : Option Addr}
    {osl : Array (Option Value)} {N ps : List Str} (lk : K.lookup f = some ⟨oc, od, .func (PySem.W.fnOf name qual params body scope dV kV doc pm an cdv ct), osl⟩) (hcd : PySem.W.codeIn K cdv qual = true) (S : FnScope N ps scope)
    {A : Around} {outer : List Env} {s : Shared} {H : Hp} {args : Args} {us : List Value} {vs : List V} {Q : VK} {E : XK} {p : Addr × Obj} (hr : L2H.RoomH (k + 1) A) (hpin : L2H.PinOk outer H s p) (e0 : Env0 P w K mg base A outer s H)
    (hb : BindsTo s (PySem.W.fnOf name qual params body scope dV kV doc pm an cdv ct) args (ps.zip us)) (r : Vals vs us) (hl : vs.length = ps.length)
    (hbody : L2H.RoomH k (A.deeper (envOfC qual scope s.heap.objs.size f cdv)) → ∃ t, PSs (L2H.cxH CX P w K mg base N qual scope f cdv A outer s H E p) body t ∧ t { nx := fun _ H' => Q .non H', rt := Q } (L2.start N vs) H) :
    codeAny (model P w) A (.call (.ref f) args) (CR CX outer P w H s Q E) s := by
  have KX : K.In s.heap := e0.mod.kin.keeps fun b o e => (e0.bs b o e).1
  have lim : s.heap.NoLimit := e0.mod.nolimit.keeps fun b o e => (e0.bs b o e).1
  have hkind : ∀ y ∈ ps.zip us, scope.names.lookup y.1 = some .local ∨ (scope.names.lookup y.1 = some .cell ∧ ((cellsFrom (s.heap.objs.size + 1) scope.names []).lookup y.1).isSome = true) := fun ⟨n, v⟩ hy => by
    rcases S.par n (List.of_mem_zip hy).1 with q | q
    · exact .inl q
    · exact .inr ⟨q, PySem.W.cellsFrom_some _ _ _ (.inl q)⟩
  refine codeAny_call_function hr.depth (KX _ _ lk) rfl S.co S.gen rfl (PySem.W.codeRec_of KX hcd) (hb _ _ _ _ ?_)
  refine wpAny_newFunctionEnv_cells S.kind hkind fun env he s1 x => ?_
  subst he
  refine ⟨lim.keeps x.toInCall.keep, codeAny_func ?_⟩
  obtain ⟨t, ht, hq⟩ := hbody (hr.deeper _)
  have I : L2.Inv (L2H.cxH CX P w K mg base N qual scope f cdv A outer s H E p) [] (L2.start N vs) H s1 := L2H.inv_startH S hpin e0 hl r x
  refine wpAny_mono (ht.run [] s1 (L2.start N vs) H _ I hq) (fun fl s' hs => ?_) fun e s' hs => hs
  have fin : ∀ {σ' : L2.St} {H' : Hp} {v : V} {u : Value}, L2.Inv (L2H.cxH CX P w K mg base N qual scope f cdv A outer s H E p) [] σ' H' s' → L2.RelV v u → Q v H' → CE outer P w H s Q u s' :=
    fun {σ' H' v u} J rv q => ⟨v, H', J.os, J.bare, J.base, J.hok, rv, q⟩
  cases fl with
  | ret u =>
    obtain ⟨v, σ', H', J, rv, q⟩ := hs
    exact fin J rv q
  | next =>
    obtain ⟨σ', H', J, q⟩ := hs
    exact fin (v := V.non) (u := Value.none) J rfl q
  | brk =>
    obtain ⟨_, _, _, q⟩ := hs
    exact False.elim q
  | cont =>
    obtain ⟨_, _, _, q⟩ := hs
    exact False.elim q
/-- x(e), x a def of one parameter, in an except suite; sp: what it makes of its argument, the handled exception known -/
theorem pe_hot1 {X : Cx} {sp : List V → Hp → VK → Prop} {x a1 : Str} {g : Addr} {k : Nat} {pg : Arguments} {bg : List Stmt} {sg : Scope} {kV doc pm cdv ct oc : Value} {an od : Option Addr} {osl : Array (Option Value)} {Ng : List Str} {e : Expr} {t : TA} {p0 pos : Pos} {p : Addr × Obj}
    (hg : Gl X x) (hm : X.mg x = some (.ref g)) (hk : PySem.W.keepIn X.K (.ref g) = true)
    (lk : X.K.lookup g = some ⟨oc, od, .func (PySem.W.fnOf x x pg bg sg .none kV doc pm an cdv ct), osl⟩) (hcg : PySem.W.codeIn X.K cdv x = true) (hb : L2.Binds X.K (PySem.W.fnOf x x pg bg sg .none kV doc pm an cdv ct) [a1] []) (Sg : FnScope Ng [a1] sg)
    (hr : L2H.RoomH (k + 1) X.A) (hp : p ∈ X.pn) (ha : PA X [e] t) (hlen : ∀ vs H Q, sp vs H Q → vs.length = 1)
    (hbody : ∀ (s : Shared) (H : Hp) (vs : List V) (Q : VK), sp vs H Q → L2H.RoomH k (X.A.deeper (envOfC x sg s.heap.objs.size g cdv)) → ∃ t, PSs (L2H.cxH CX0 X.prog X.w X.K X.mg X.base Ng x sg g cdv X.A X.stack s H E0 p) bg t ∧ t { nx := fun _ H' => Q .non H', rt := Q } (L2.start Ng vs) H)
    (hdb : (x == ("__debug__" : Str)) = false := by decide) (hst : starEach (e :: []) X.env = (false, eval e X.env) :: starEach [] X.env := by rfl) (hpl : (backTo pos (starEach [] X.env)).any (·.1) = false := by rfl) :
    PE X (.Call (.Name x p0) [e] [] pos) (fun σ H Q => t σ H fun vs H1 => sp vs H1 Q) := by
  refine ⟨fun pins s σ H Q I h => ?_⟩
  refine wpAny_Call_Name_kw (ld_glob I hg hm ?_ hdb)
  refine PySem.W.callWith_K (h₀ := X.base) I.ok.mod.kin hk (thn (ha.run pos pins s σ H _ I h) fun us s1 hh => ?_) hst hpl
  obtain ⟨vs, H1, I1, r1, q⟩ := hh
  refine ⟨I1.kIn, ?_⟩
  have P1 := I1.pin p (List.mem_append_left _ hp)
  have hpin : L2H.PinOk X.stack H1 s1 p := ⟨P1.1, P1.2.1, fun hm => (List.mem_cons.mp (I1.stkSub p.1 hm)).elim P1.2.2.1 P1.2.2.2.1, P1.2.2.2.2⟩
  have hl1 := hlen _ _ _ q
  have hlu : us.length = 1 := by rw [← r1.length]; exact hl1
  have b := hb s1 us I1.kIn (by rw [List.append_nil]; exact hlu)
  rw [List.append_nil] at b
  refine wpAny_call (codeAny_mono (run_hot (N := Ng) (ps := [a1]) (us := us) (vs := vs) (Q := Q) (E := E0) lk hcg Sg hr hpin I1.env0 b r1 hl1 (fun hr' => hbody s1 H1 vs Q q hr')) fun r s2 hq => ?_)
  cases r with
  | error e => exact (show False from hq).elim
  | ok fl =>
    cases fl with
    | ret u => exact I1.after hq
    | next => exact False.elim hq
    | brk => exact False.elim hq
    | cont => exact False.elim hq
/-- isinstance(e, c), e a pinned exception -/
theorem call_isP {X : Cx} {a D : Addr} {oe : Obj} (C : ExcC X.K D) (hz : Zc (.ref D) none oe) (hf : ∃ vs, oe.data = .fields vs) (hp : (a, oe) ∈ X.pn) : CallR X (.builtin "isinstance") (rIsE X.K D a) := by
  intro pins s σ H xs us Q I r h
  obtain ⟨c, cv, b, rfl, hcv, e, q⟩ := h
  cases r with
  | cons rx rr =>
    cases rr with
    | cons rt rr =>
      cases rr
      cases rx
      have ec := hcv _ rt
      subst ec
      obtain ⟨hget, _⟩ := I.pin (a, oe) (List.mem_append.mpr (.inl hp))
      obtain ⟨vs, hv⟩ := hf
      have J : PySem.W.InstAt s.heap a oe D none := by
        obtain ⟨oc, od, oda, osl⟩ := oe
        obtain ⟨h1, h2⟩ := hz
        dsimp only at h1 h2 hv
        subst h1 h2 hv
        exact ⟨hget, rfl, rfl, trivial⟩
      exact PySem.W.kia_one (PySem.W.handS_kitx_exc C.hg C.hk C.hs C.hd C.ha C.hn C.ht C.hm) I.kIn J e (fun z => nomatch z) fun tk => ⟨.bl b, H, I.kept (t' := tk) fun _ _ z => z, rfl, q⟩
/-! ### lambdas, the exceptions' contexts known -/
def lamCxN (X : Cx) (A : Around) (outer : List Env) (s : Shared) (H : Hp) (E : XK) (scope : Scope) (f c' : Addr) : Cx :=
  (lamCx X A outer s H E scope f c').wish (fun e s' => wpAny (model X.prog X.w) (A.deeper (lamEnv X scope s.heap.objs.size f c')) (leaving (lamEnv X scope s.heap.objs.size f c') e) (fun _ s'' => L2N.CX X.prog X.w outer H s E e s'') (fun e' s'' => L2N.CX X.prog X.w outer H s E e' s'') s')
theorem pe_actN {X : Cx} {pins : List (Addr × Obj)} {σ : L2.St} {H : Hp} {s : Shared} {CXg : CXT} {Eg : XK} {Ng : List Str} {qg : Str} {sg : Scope} {g f c' : Addr} {cdg pm ctv : Value} {params : Arguments} {body : Expr} {scope : Scope} {k i : Nat} {a : Str} {pn : List (Addr × Obj)} {xe : Value → Shared → Prop} {W : WX} {E : XK} {tb : TE} {p1 p2 : Pos}
    (I : L2.Inv X pins σ H s) (L : LamS X.env.scope scope) (hf : s.heap.get? f = some (PySem.W.kla_obj "<lambda>" (X.env.qual ++ "<lambda>") params body scope (cloFrom X.env.cells scope.names []) pm c' ctv)) (hfn : H f = none) (hfr : f ∉ frs X.stack)
    (hbind : bindArgs (PySem.W.kla_fn "<lambda>" (X.env.qual ++ "<lambda>") params body scope (cloFrom X.env.cells scope.names []) pm (.ref c') ctv) ⟨[], []⟩ = pure [])
    (tk : L2N.Takes ((cxOf CXg X.prog X.w X.K X.mg X.base Ng qg sg g cdg X.A X.stack s H Eg).tr pn xe) W) (hW : ∀ cls d σ' H', E cls d H' → W cls d σ' H') (hr : Room (k + 1) (X.A.deeper (envOfC qg sg s.heap.objs.size g cdg)))
    (hbody : ∀ (A : Around) (outer : List Env) (s : Shared) (H : Hp), Room k (A.deeper (lamEnv X scope s.heap.objs.size f c')) → PE (lamCxN X A outer s H E scope f c') body tb)
    (hN : Ng[i]? = some a) (hv : Vis sg a) (hd : (a == ("__debug__" : Str)) = false := by decide) (hcd : (a == ("__classdict__" : Str)) = false := by decide) :
    PE ((cxOf CXg X.prog X.w X.K X.mg X.base Ng qg sg g cdg X.A X.stack s H Eg).tr pn xe) (.Call (.Name a p1) [] [] p2)
      (fun σZ HZ Q => σZ[i]? = some (some (.ref f)) ∧ HZ c' = some (CodeO c' (X.env.qual ++ "<lambda>")) ∧ tb σ HZ Q) := by
  refine ⟨fun pinsZ sZ σZ HZ Q IZ h => ?_⟩
  obtain ⟨hs, hc, ht⟩ := h
  refine wpAny_Call_Name_kw (thn ((pe_var (pos := p1) (i := i) hN hv hd hcd).run pinsZ sZ σZ HZ (fun v H1 => v = .ref f ∧ H1 = HZ) IZ ⟨.ref f, hs, rfl, rfl⟩) fun u s1 ⟨v, H1, I1, r1, q1⟩ => ?_)
  obtain ⟨ev, eH⟩ := q1
  subst ev
  rw [eH] at I1
  obtain rfl : u = Value.ref f := r1
  have of1 : s1.heap.get? f = some (PySem.W.kla_obj "<lambda>" (X.env.qual ++ "<lambda>") params body scope (cloFrom X.env.cells scope.names []) pm c' ctv) := I1.base.keep f _ hf hfn hfr (fun z => nomatch (show f ∈ ([] : List Addr) from z))
  refine PySem.W.callWith_F0 ⟨_, _, _, _, of1⟩ ?_
  have un : Un (frs X.stack) [] H HZ s.heap s1.heap := I1.base
  obtain ⟨⟨oc, vs, t, hoc, hdc, hvc⟩, _, _⟩ := I1.hok c' _ hc
  have rc : codeAny (model X.prog X.w) (X.A.deeper (envOfC qg sg s.heap.objs.size g cdg)) (.call (.ref f) ⟨[], []⟩) (CR (L2N.CX X.prog X.w) (envOfC qg sg s.heap.objs.size g cdg :: X.stack) X.prog X.w HZ s1 Q E) s1 := by
    refine PySem.W.kla_callFunE hr.depth of1 rfl L.co L.gen rfl ⟨c', oc, vs, t, rfl, hoc, hdc, hvc⟩ ?_
    rw [hbind]
    refine wpAny_pure (wpAny_newFunctionEnv (fun y hy => (L.own y hy).2) (fun y hy => absurd hy (by simp)) (fun h₁ hns hsb => ⟨I1.nolimit.fresh _ hsb, ?_⟩) L.kind)
    show codeAny _ _ (.expr body (lamEnv X scope s1.heap.objs.size f c')) _ _
    have kp : ∀ b o, s1.heap.get? b = some o → h₁.get? b = some o := fun b o e => hsb.extBut b o (Nat.ne_of_lt (Heap.lt_size e)) (Heap.get?_push_of_some _ e)
    have J0 : L2.Inv (lamCx X (X.A.deeper (envOfC qg sg s.heap.objs.size g cdg)) (envOfC qg sg s.heap.objs.size g cdg :: X.stack) s1 HZ E scope f c') [] σ HZ { s1 with heap := h₁, toks := s1.toks + ([] : List (Str × Value)).length } :=
      lam_start2 I L I1.env0 hr.hd un hns kp
    have J : L2.Inv (lamCxN X (X.A.deeper (envOfC qg sg s.heap.objs.size g cdg)) (envOfC qg sg s.heap.objs.size g cdg :: X.stack) s1 HZ E scope f c') [] σ HZ { s1 with heap := h₁, toks := s1.toks + ([] : List (Str × Value)).length } := J0.wish _
    refine PySem.W.kla_codeExpr (wpAny_mono ((hbody _ _ s1 HZ (hr.deeper _)).run [] _ _ HZ Q J ht) (fun v s' hq => ?_) fun e s' hq => hq)
    obtain ⟨w', H', J', rv, q⟩ := hq
    exact ⟨w', H', J'.os, J'.bare, J'.base, J'.hok, rv, q⟩
  have hx : Passes (L2N.CX X.prog X.w) ((cxOf CXg X.prog X.w X.K X.mg X.base Ng qg sg g cdg X.A X.stack s H Eg).tr pn xe) E := L2N.passes_call tk hW
  refine wpAny_call (codeAny_mono rc fun r s' hq => ?_)
  cases r with
  | error e => exact hx pinsZ σZ HZ s1 e s' I1 hq
  | ok fl =>
    cases fl with
    | ret u => exact I1.after hq
    | next => exact False.elim hq
    | brk => exact False.elim hq
    | cont => exact False.elim hq
/-- the def that calls what it got: a calls it; TT: what it makes of the lambda's reading -/
def GivesN (X : Cx) (k : Nat) (Ng : List Str) (x : Str) (sg : Scope) (g : Addr) (cdg : Value) (bg : List Stmt) (a : Str) (q : Str) (TT : (XK → Hp → VK → Prop) → Hp → VK → Prop) : Prop :=
  ∀ (f c' : Addr) (s : Shared) (H : Hp) (Q : VK) (tl : XK → Hp → VK → Prop), Room (k + 1) (X.A.deeper (envOfC x sg s.heap.objs.size g cdg)) →
    (∀ (W : WX) (pn : List (Addr × Obj)) (xe : Value → Shared → Prop) (E : XK) (p1 p2 : Pos), L2N.Takes ((cxOf CX0 X.prog X.w X.K X.mg X.base Ng x sg g cdg X.A X.stack s H E0).tr pn xe) W → (∀ cls d σ' H', E cls d H' → W cls d σ' H') →
      PE ((cxOf CX0 X.prog X.w X.K X.mg X.base Ng x sg g cdg X.A X.stack s H E0).tr pn xe) (.Call (.Name a p1) [] [] p2) (fun σZ HZ Q => σZ[0]? = some (some (.ref f)) ∧ HZ c' = some (CodeO c' q) ∧ tl E HZ Q)) →
    H c' = some (CodeO c' q) → TT tl H Q →
    ∃ t, PSs (cxOf CX0 X.prog X.w X.K X.mg X.base Ng x sg g cdg X.A X.stack s H E0).nox bg t ∧ t { nx := fun _ H' => Q .non H', rt := Q } (L2.start Ng [.ref f]) H
/-- x(lambda: body) -/
theorem pe_lamN {X : Cx} {T : List (Addr × Str)} {TT : (XK → Hp → VK → Prop) → Hp → VK → Prop} {x a : Str} {g c P : Addr} {k : Nat} {pg : Arguments} {bg : List Stmt} {sg : Scope} {kV doc pm cdv ct oc : Value} {an od : Option Addr} {osl : Array (Option Value)} {Ng : List Str}
    {params : Arguments} {body : Expr} {scope : Scope} {t : XK → TE} {p lpos pos : Pos} (hg : Gl X x) (hm : X.mg x = some (.ref g)) (hk : PySem.W.keepIn X.K (.ref g) = true)
    (lk : X.K.lookup g = some ⟨oc, od, .func (PySem.W.fnOf x x pg bg sg .none kV doc pm an cdv ct), osl⟩) (hcg : PySem.W.codeIn X.K cdv x = true) (hb : L2.Binds X.K (PySem.W.fnOf x x pg bg sg .none kV doc pm an cdv ct) [a] []) (Sg : FnScope Ng [a] sg) (hNg : Ng[0]? = some a) (hva : Vis sg a)
    (hG : GivesN X k Ng x sg g cdv bg a (X.env.qual ++ "<lambda>") TT)
    (TB : TabB X.base X.mg c P) (hcode : X.env.code = .ref c) (hmT : (P, X.env.qual ++ "<lambda>") ∈ T) (hu : ∀ p ∈ T, p.1 = P → p.2 = X.env.qual ++ "<lambda>") (hr : Room (k + 2) X.A) (L : LamS X.env.scope scope) (hdef : defaultsOf params X.env = ([], []))
    (hbind : ∀ (q : Str) (cl : List (Str × Addr)) (pm cv ctv : Value), bindArgs (PySem.W.kla_fn "<lambda>" q params body scope cl pm cv ctv) ⟨[], []⟩ = pure [])
    (hbody : ∀ (A : Around) (outer : List Env) (s : Shared) (H : Hp) (E : XK) (f c' : Addr), Room k (A.deeper (lamEnv X scope s.heap.objs.size f c')) → PE (lamCxN X A outer s H E scope f c') body (t E))
    (hdb : (x == ("__debug__" : Str)) = false := by decide) (hd : (a == ("__debug__" : Str)) = false := by decide) (hcd : (a == ("__classdict__" : Str)) = false := by decide) :
    PE X (.Call (.Name x p) [.Lambda params body scope lpos] [] pos) (tLam T TT t) := by
  refine ⟨fun pins s σ H Q I h => ?_⟩
  obtain ⟨hT, h⟩ := h
  refine wpAny_Call_Name_kw (ld_glob I hg hm ?_ hdb)
  refine PySem.W.callWith_K (h₀ := X.base) I.ok.mod.kin hk ?_ (by rfl) (by rfl)
  show wpAny _ _ (spliced ((false, eval (.Lambda params body scope lpos) X.env) :: backTo pos (starEach [] X.env))) _ _ s
  refine Calls.spliced_cons (lam_make2 I TB hcode hmT hu hT hdef (L.has I.ok) fun f c' pm' ctv H1 s' I1 eN T1 hf hfn hfr hco => ?_)
  refine Calls.spliced_nil ⟨I1.kIn, ?_⟩
  have rc : codeAny (model X.prog X.w) X.A (.call (.ref g) ⟨[.ref f], []⟩) (CR CX0 X.stack X.prog X.w H1 s' Q E0) s' := by
    refine run_ofS (N := Ng) (ps := [a]) (us := [.ref f]) (vs := [.ref f]) lk hcg Sg hr I1.env0 (hb s' [.ref f] I1.kIn rfl) (.cons rfl .nil) rfl fun hr' => ?_
    obtain ⟨t', ht', hq'⟩ := hG f c' s' H1 Q (fun E H' Q' => t E σ H' Q') hr' (fun W pn xe E p1 p2 tk hW => pe_actN (i := 0) I1 L hf hfn hfr (hbind _ _ _ _ _) tk hW hr' (fun A outer s H hr2 => hbody A outer s H E f c' hr2) hNg hva hd hcd) hco (h H1 eN T1)
    exact ⟨t', ht'.nox, hq'⟩
  refine wpAny_call (codeAny_mono rc fun r s2 hq => ?_)
  cases r with
  | error e => exact (show False from hq).elim
  | ok fl =>
    cases fl with
    | ret u => exact I1.after hq
    | next => exact False.elim hq
    | brk => exact False.elim hq
    | cont => exact False.elim hq
/-- as Fun.okX, the contexts known -/
theorem okN {P : Program} {w : World} {K : PySem.W.Frag} {mg : Str → Option Value} {base : Heap} {x qual : Str} {st : Stmt} {f : Addr} {fd : FuncData} {N ps : List Str} {k : Nat} {sp : Sp} (F : Fun K x qual st f fd) (S : FnScope N ps (defScope st)) (len : ∀ vs H Q E, sp vs H Q E → vs.length = ps.length)
    (hbody : ∀ (cdv : Value) (A : Around) (outer : List Env) (s : Shared) (H : Hp) (vs : List V) (Q : VK) (E : XK), Room k (A.deeper (envOfC qual (defScope st) s.heap.objs.size f cdv)) → sp vs H Q E →
      ∃ t, PSs (cxOf (L2N.CX P w) P w K mg base N qual (defScope st) f cdv A outer s H E) (defBody st) t ∧ t { nx := fun _ H' => Q .non H', rt := Q } (L2.start N vs) H) : FnOk P w K mg base (L2N.CX P w) (k + 1) f fd ps sp := by
  obtain ⟨oc, od, kV, doc, pm, an, cdv, ct, osl, rfl, lk, hcd⟩ := F.ex
  exact fn_of lk hcd S len fun A outer s H vs Q E hr hsp => hbody cdv A outer s H vs Q E hr hsp
end Ws

set_option Elab.async false
set_option linter.all false
set_option maxRecDepth 100000
set_option maxHeartbeats 4000000
namespace Ws
open PySem PySem.Spec PyProof.Rows L2 HotX LamX
/-! ### defs, methods, classes by what they promise; what they raise has no context -/
structure Fn (P : Program) (w : World) (K : PySem.W.Frag) (mg : Str → Option Value) (base : Heap) (k : Nat) (x : Str) (sp : Sp) : Prop where
  ex : ∃ (f : Addr) (fd : FuncData) (ps : List Str), FnOk P w K mg base (L2N.CX P w) k f fd ps sp ∧ mg x = some (.ref f) ∧ PySem.W.keepIn K (.ref f) = true ∧ L2.Binds K fd ps []
structure Mt (P : Program) (w : World) (K : PySem.W.Frag) (mg : Str → Option Value) (base : Heap) (k : Nat) (C : Addr) (m : Str) (sp : Sp) : Prop where
  ex : ∃ (f : Addr) (fd : FuncData) (ps : List Str), FnOk P w K mg base (L2N.CX P w) k f fd ps sp ∧ Meth K C m f ∧ L2.Binds K fd ps [] ∧ Cls K C
structure Mr (P : Program) (w : World) (K : PySem.W.Frag) (mg : Str → Option Value) (base : Heap) (k : Nat) (x : Str) (C : Addr) (sp : Sp) : Prop where
  ex : ∃ (f : Addr) (fd : FuncData) (ps : List Str), FnOk P w K mg base (L2N.CX P w) k f fd ps sp ∧ Mk K C f ∧ mg x = some (.ref C) ∧ L2.Binds K fd ps []
structure DefAt (K : PySem.W.Frag) (mg : Str → Option Value) (x : Str) (st : Stmt) : Prop where
  ex : ∃ (f : Addr) (fd : FuncData), Fun K x x st f fd ∧ mg x = some (.ref f)
structure MethAt (K : PySem.W.Frag) (C : Addr) (m qual : Str) (st : Stmt) : Prop where
  ex : ∃ (f : Addr) (fd : FuncData), Fun K m qual st f fd ∧ PySem.W.findIn K (.ref C) m = some (some (.ref f)) ∧ PySem.W.isFn K (.ref f) = true
section
variable {P : Program} {w : World} {K : PySem.W.Frag} {mg : Str → Option Value} {base : Heap}
theorem fn_mk {x : Str} {st : Stmt} {ps : List Str} {k : Nat} {sp : Sp} (D : DefAt K mg x st)
    (hb : ∀ (kV doc pm : Value) (an : Option Addr) (cdv ct : Value) (us : List Value), us.length = ps.length → bindArgs (PySem.W.fnOf x x (defArgs st) (defBody st) (defScope st) .none kV doc pm an cdv ct) ⟨us, []⟩ = pure (ps.zip us))
    (ok : ∀ f fd, Fun K x x st f fd → FnOk P w K mg base (L2N.CX P w) k f fd ps sp) : Fn P w K mg base k x sp := by
  obtain ⟨f, fd, F, hm⟩ := D.ex
  exact ⟨f, fd, ps, ok f fd F, hm, F.kp, F.binds hb⟩
theorem mt_mk {C : Addr} {m qual : Str} {st : Stmt} {ps : List Str} {k : Nat} {sp : Sp} (D : MethAt K C m qual st) (cl : Cls K C)
    (hb : ∀ (kV doc pm : Value) (an : Option Addr) (cdv ct : Value) (us : List Value), us.length = ps.length → bindArgs (PySem.W.fnOf m qual (defArgs st) (defBody st) (defScope st) .none kV doc pm an cdv ct) ⟨us, []⟩ = pure (ps.zip us))
    (ok : ∀ f fd, Fun K m qual st f fd → FnOk P w K mg base (L2N.CX P w) k f fd ps sp) : Mt P w K mg base k C m sp := by
  obtain ⟨f, fd, F, h1, h2⟩ := D.ex
  exact ⟨f, fd, ps, ok f fd F, ⟨h1, h2, F.kp⟩, F.binds hb, cl⟩
theorem mr_mk {C : Addr} {x qual : Str} {st : Stmt} {ps : List Str} {k : Nat} {sp : Sp} (D : MethAt K C "__init__" qual st) (hm : mg x = some (.ref C)) (mk : PySem.W.makesIn K C = true) (kc : PySem.W.keepIn K (.ref C) = true)
    (hb : ∀ (kV doc pm : Value) (an : Option Addr) (cdv ct : Value) (us : List Value), us.length = ps.length → bindArgs (PySem.W.fnOf "__init__" qual (defArgs st) (defBody st) (defScope st) .none kV doc pm an cdv ct) ⟨us, []⟩ = pure (ps.zip us))
    (ok : ∀ f fd, Fun K "__init__" qual st f fd → FnOk P w K mg base (L2N.CX P w) k f fd ps sp) : Mr P w K mg base k x C sp := by
  obtain ⟨f, fd, F, h1, h2⟩ := D.ex
  exact ⟨f, fd, ps, ok f fd F, ⟨mk, h1, h2, kc⟩, hm, F.binds hb⟩
end
theorem pass0N {X : Cx} : Passes (L2N.CX X.prog X.w) X E0 := fun _ _ _ _ _ _ _ h => by
  obtain ⟨_, _, _, _, _, _, _, _, _, _, _, _, z⟩ := h
  exact z.elim
section
variable {X : Cx} {k j : Nat} {C : Addr} {sp : Sp} {E : XK} {x m : Str} {p pos apos : Pos} {e o : Expr} {es : List Expr} {ta : TE} {t : TA}
theorem pe_fn (F : Fn X.prog X.w X.K X.mg X.base k x sp) (hr : Room j X.A) (hg : Gl X x) (hx : Passes (L2N.CX X.prog X.w) X E) (ha : PA X (e :: es) t) (hk : k ≤ j := by decide) (hdb : (x == ("__debug__" : Str)) = false := by decide)
    (he : starEach (e :: es) X.env = (false, eval e X.env) :: starEach es X.env := by rfl) (hpl : (backTo pos (starEach es X.env)).any (·.1) = false := by rfl) : PE X (.Call (.Name x p) (e :: es) [] pos) (tCall sp [] E t) := by
  obtain ⟨f, fd, ps, F1, hm, hkp, hb⟩ := F.ex
  exact pe_call F1 (hr.mono hk) hg hm hkp hb .nil hx ha hdb he hpl
theorem pe_fn0 (F : Fn X.prog X.w X.K X.mg X.base k x sp) (hr : Room j X.A) (hg : Gl X x) (hx : Passes (L2N.CX X.prog X.w) X E) (hk : k ≤ j := by decide) (hdb : (x == ("__debug__" : Str)) = false := by decide) :
    PE X (.Call (.Name x p) [] [] pos) (tCall sp [] E tNil) := by
  obtain ⟨f, fd, ps, F1, hm, hkp, hb⟩ := F.ex
  exact pe_call0 F1 (hr.mono hk) hg hm hkp hb .nil hx hdb
theorem pe_md {pl : Sem Bool} (F : Mt X.prog X.w X.K X.mg X.base k C m sp) (hr : Room j X.A) (hx : Passes (L2N.CX X.prog X.w) X E) (he : PE X o ta) (ha : PA X (e :: es) t) (hk : k ≤ j := by decide)
    (hst : starEach (e :: es) X.env = (false, eval e X.env) :: starEach es X.env := by rfl) (hpl : (backTo pos (starEach es X.env)).any (·.1) = false := by rfl)
    (ht : eval (.Call (.Attribute o m apos) (e :: es) [] pos) X.env = (do
      let ov ← eval o X.env
      standAt apos.atName
      let (f, first) ← holding [ov] (getMethod ov m pl)
      callWith pos f first (backTo pos (starEach (e :: es) X.env)) (backToKw pos (keywordEach [] X.env))) := by rfl) :
    PE X (.Call (.Attribute o m apos) (e :: es) [] pos) (tMeth C m sp [] E ta t) := by
  obtain ⟨f, fd, ps, F1, hm, hb, cl⟩ := F.ex
  exact pe_meth he cl hm F1 (hr.mono hk) hb .nil hx ha hst hpl ht
theorem pe_md0 {pl : Sem Bool} (F : Mt X.prog X.w X.K X.mg X.base k C m sp) (hr : Room j X.A) (hx : Passes (L2N.CX X.prog X.w) X E) (he : PE X o ta) (hk : k ≤ j := by decide)
    (ht : eval (.Call (.Attribute o m apos) [] [] pos) X.env = (do
      let ov ← eval o X.env
      standAt apos.atName
      let (f, first) ← holding [ov] (getMethod ov m pl)
      callWith pos f first (backTo pos (starEach [] X.env)) (backToKw pos (keywordEach [] X.env))) := by rfl) :
    PE X (.Call (.Attribute o m apos) [] [] pos) (tMeth C m sp [] E ta tNil) := by
  obtain ⟨f, fd, ps, F1, hm, hb, cl⟩ := F.ex
  exact pe_meth0 he cl hm F1 (hr.mono hk) hb .nil hx ht
theorem pe_mr (F : Mr X.prog X.w X.K X.mg X.base k x C sp) (hr : Room j X.A) (hg : Gl X x) (hx : Passes (L2N.CX X.prog X.w) X E) (ha : PA X (e :: es) t) (hk : k + 1 ≤ j := by decide) (hdb : (x == ("__debug__" : Str)) = false := by decide)
    (he : starEach (e :: es) X.env = (false, eval e X.env) :: starEach es X.env := by rfl) (hpl : (backTo pos (starEach es X.env)).any (·.1) = false := by rfl) : PE X (.Call (.Name x p) (e :: es) [] pos) (tMake C sp [] E t) := by
  obtain ⟨f, fd, ps, F1, hm, hmg, hb⟩ := F.ex
  exact pe_make hm F1 (hr.mono hk) hg hmg hb .nil hx ha hdb he hpl
theorem pe_mr0 (F : Mr X.prog X.w X.K X.mg X.base k x C sp) (hr : Room j X.A) (hg : Gl X x) (hx : Passes (L2N.CX X.prog X.w) X E) (hk : k + 1 ≤ j := by decide) (hdb : (x == ("__debug__" : Str)) = false := by decide) :
    PE X (.Call (.Name x p) [] [] pos) (tMake C sp [] E tNil) := by
  obtain ⟨f, fd, ps, F1, hm, hmg, hb⟩ := F.ex
  exact pe_make0 hm F1 (hr.mono hk) hg hmg hb .nil hx hdb
end
/-! ### readings, a step at a time -/
def rFld (K : PySem.W.Frag) (f : Str) : V → Hp → VK → Prop := fun x H Q => ∃ a C dx fs v, x = .ref a ∧ H a = some (.ins C dx fs) ∧ Cls K C ∧ NoAttr K C f ∧ fs.lookup f = some v ∧ Q v H
def rSetF (K : PySem.W.Frag) (f : Str) : V → V → Hp → (Hp → Prop) → Prop := fun x y H R => ∃ a C dx fs, x = .ref a ∧ H a = some (.ins C dx fs) ∧ Cls K C ∧ NoAttr K C f ∧ fs.length < 1000 ∧ R (upd H a (.ins C dx (putF f y fs)))
def rMth (C : Addr) (m : Str) (x : V) (H : Hp) (R : Prop) : Prop := ∃ a dx fs, x = .ref a ∧ H a = some (.ins C dx fs) ∧ fs.lookup m = none ∧ R
section
variable {σ : L2.St} {H : Hp} {Q : VK} {D : Ends} {te ta tb tc : TE} {r r' : R2}
theorem x_var {i : Nat} {v : V} (h : σ[i]? = some (some v)) (k : Q v H) : tVar i σ H Q := ⟨v, h, k⟩
theorem x_c {v : V} (k : Q v H) : tC v σ H Q := k
theorem x_op (k : ta σ H fun x H1 => tb σ H1 fun y H2 => r x y H2 Q) : tOp r ta tb σ H Q := k
theorem x_un {u : V → Hp → VK → Prop} (k : ta σ H fun x H1 => u x H1 Q) : tUn u ta σ H Q := k
theorem x_rU {g : Int → V} {i : Int} (k : Q (g i) H) : rU g (.int i) H Q := ⟨i, rfl, k⟩
theorem x_rI0 {g : Int → Int → V} {i j : Int} (k : Q (g i j) H) : rI0 g (.int i) (.int j) H Q := ⟨i, j, rfl, rfl, k⟩
theorem x_rI {C : Int → Int → Prop} {g : Int → Int → V} {i j : Int} (c : C i j) (k : Q (g i j) H) : rI C g (.int i) (.int j) H Q := ⟨i, j, rfl, rfl, c, k⟩
theorem x_rEq {x y : V} (c : scal x y = true) (k : Q (.bl (decide (x = y))) H) : rEq x y H Q := ⟨c, k⟩
theorem x_rNe {x y : V} (c : scal x y = true) (k : Q (.bl (!decide (x = y))) H) : rNe x y H Q := ⟨c, k⟩
theorem x_chain (k : ta σ H fun x H1 => tb σ H1 fun y H2 => r x y H2 fun z H3 => ∃ k, z = .bl k ∧ (if k = true then tc σ H3 fun w' H4 => r' y w' H4 Q else Q (.bl false) H3)) : tChain r r' ta tb tc σ H Q := k
theorem x_ex {F : Bool → Prop} {b : Bool} (k : F b) : ∃ c, V.bl b = V.bl c ∧ F c := ⟨b, rfl, k⟩
theorem x_test {R : Bool → Hp → Prop} (k : te σ H fun x H' => ∃ k, x = .bl k ∧ R k H') : tTest te σ H R := k
theorem x_tB {R : Bool → Hp → Prop} (k : te σ H fun x H' => ∃ k, x = .bl k ∧ R k H') : tB te σ H R := k
theorem x_tAnd {t u : TT} {R : Bool → Hp → Prop} (k : t σ H fun c H1 => if c = true then u σ H1 R else R false H1) : tAnd t u σ H R := k
theorem x_tOr {t u : TT} {R : Bool → Hp → Prop} (k : t σ H fun c H1 => if c = true then R true H1 else u σ H1 R) : tOr t u σ H R := k
theorem x_tNot {t : TT} {R : Bool → Hp → Prop} (k : t σ H fun c H1 => R (!c) H1) : tNot t σ H R := k
theorem x_andV (k : ta σ H fun x H1 => ∃ c, x = .bl c ∧ if c = true then tb σ H1 Q else Q (.bl false) H1) : tAndV ta tb σ H Q := k
theorem x_orV (k : ta σ H fun x H1 => ∃ c, x = .bl c ∧ if c = true then Q (.bl true) H1 else tb σ H1 Q) : tOrV ta tb σ H Q := k
theorem x_notV (k : ta σ H fun x H1 => ∃ c, x = .bl c ∧ Q (.bl (!c)) H1) : tNotV ta σ H Q := k
theorem x_tIf {t : TT} (k : t σ H fun c H1 => if c = true then ta σ H1 Q else tb σ H1 Q) : tIf t ta tb σ H Q := k
theorem x_T {A B : Prop} (k : A) : if true = true then A else B := by rw [if_pos rfl]; exact k
theorem x_F {A B : Prop} (k : B) : if false = true then A else B := by rw [if_neg Bool.false_ne_true]; exact k
theorem x_2 {A B c : Prop} [Decidable c] (h1 : c → A) (h2 : ¬ c → B) : if decide c = true then A else B := by
  by_cases h : c
  · rw [decide_eq_true h, if_pos rfl]; exact h1 h
  · rw [decide_eq_false h, if_neg Bool.false_ne_true]; exact h2 h
theorem x_2n {A B c : Prop} [Decidable c] (h1 : ¬ c → A) (h2 : c → B) : if (!decide c) = true then A else B := by
  by_cases h : c
  · rw [decide_eq_true h]; exact x_F (h2 h)
  · rw [decide_eq_false h]; exact x_T (h1 h)
theorem x_b {A B : Prop} {b : Bool} (h1 : b = true → A) (h2 : b = false → B) : if b = true then A else B := by
  cases b with
  | true => exact x_T (h1 rfl)
  | false => exact x_F (h2 rfl)
theorem x_seq {t u : TS} (k : t { D with nx := u D } σ H) : tSeq t u D σ H := k
theorem x_next (k : D.nx σ H) : tNext D σ H := k
theorem x_asg {g : TG} (k : te σ H fun x H1 => g x σ H1 D.nx) : tAsg te g D σ H := k
theorem x_name {i : Nat} {v : V} {R : L2.St → Hp → Prop} (k : R (σ.set i (some v)) H) : gName i v σ H R := k
theorem x_ret (k : te σ H D.rt) : tRet te D σ H := k
theorem x_retN (k : D.rt .non H) : tRetN D σ H := k
theorem x_ifS {c : TT} {t u : TS} (k : c σ H fun b H1 => if b = true then t D σ H1 else u D σ H1) : tIfS c t u D σ H := k
theorem x_drop (k : te σ H fun _ H1 => D.nx σ H1) : tDrop te D σ H := k
theorem x_nil {R : List V → Hp → Prop} (k : R [] H) : tNil σ H R := k
theorem x_cons {tr : TA} {R : List V → Hp → Prop} (k : ta σ H fun x H1 => tr σ H1 fun xs H2 => R (x :: xs) H2) : tCons ta tr σ H R := k
theorem x_tup {t : TA} (k : t σ H fun xs H1 => xs.length ≤ sizeLine ∧ ∀ p, H1 p = none → Q (.ref p) (upd H1 p (.tup xs))) : tTup t σ H Q := k
theorem x_lst {t : TA} (k : t σ H fun xs H1 => xs.length ≤ sizeLine ∧ ∀ p, H1 p = none → Q (.ref p) (upd H1 p (.lst xs))) : tLst t σ H Q := k
theorem x_call {sp : Sp} {E : XK} {t : TA} (k : t σ H fun vs H1 => sp (vs ++ []) H1 Q E) : tCall sp [] E t σ H Q := k
theorem x_cb {rr : List V → Hp → VK → Prop} {t : TA} (k : t σ H fun vs H1 => rr vs H1 Q) : tCB rr t σ H Q := k
theorem x_meth {C : Addr} {m : Str} {sp : Sp} {E : XK} {t : TA} (k : ta σ H fun x H1 => rMth C m x H1 (t σ H1 fun vs H2 => sp (x :: (vs ++ [])) H2 Q E)) : tMeth C m sp [] E ta t σ H Q := k
theorem x_make {C : Addr} {sp : Sp} {E : XK} {t : TA} (k : t σ H fun vs H1 => ∀ x dx, H1 x = none → H1 dx = none → dx ≠ x → sp (.ref x :: (vs ++ [])) (upd (upd H1 dx (.own x)) x (.ins C dx [])) (fun v H2 => v = .non ∧ Q (.ref x) H2) E) : tMake C sp [] E t σ H Q := k
theorem x_fld {K : PySem.W.Frag} {f : Str} (k : ta σ H fun x H1 => rFld K f x H1 Q) : tFld K ta f σ H Q := k
theorem x_rfld {K : PySem.W.Frag} {f : Str} {a C dx : Addr} {fs : List (Str × V)} {v : V} (h : H a = some (.ins C dx fs)) (c : Cls K C) (n : NoAttr K C f) (l : fs.lookup f = some v) (k : Q v H) : rFld K f (.ref a) H Q := ⟨a, C, dx, fs, v, rfl, h, c, n, l, k⟩
theorem x_sfld {K : PySem.W.Frag} {f : Str} {tv : TE} (k : tv σ H fun y H1 => ta σ H1 fun x H2 => rSetF K f x y H2 (D.nx σ)) : sFld K ta tv f D σ H := k
theorem x_rsfld {K : PySem.W.Frag} {f : Str} {a C dx : Addr} {fs : List (Str × V)} {R : Hp → Prop} {y : V} (h : H a = some (.ins C dx fs)) (c : Cls K C) (n : NoAttr K C f) (l : fs.length < 1000) (k : R (upd H a (.ins C dx (putF f y fs)))) : rSetF K f (.ref a) y H R := ⟨a, C, dx, fs, rfl, h, c, n, l, k⟩
theorem x_rmeth {C a dx : Addr} {fs : List (Str × V)} {m : Str} {R : Prop} (h : H a = some (.ins C dx fs)) (l : fs.lookup m = none) (k : R) : rMth C m (.ref a) H R := ⟨a, dx, fs, rfl, h, l, k⟩
theorem x_bm {K : PySem.W.Frag} {T : String} {rr : V → List V → Hp → VK → Prop} {to : TE} {t : TA} (k : to σ H fun x H1 => tyV K T x H1 ∧ t σ H1 fun xs H2 => rr x xs H2 Q) : tBM K T rr to t σ H Q := k
theorem x_bm0 {K : PySem.W.Frag} {T : String} {rr : V → List V → Hp → VK → Prop} {to : TE} (k : to σ H fun x H1 => tyV K T x H1 ∧ rr x [] H1 Q) : tBM0 K T rr to σ H Q := k
theorem x_sl {rr : V → Option Int → Option Int → Hp → VK → Prop} {tl th : TO} (k : te σ H fun x H1 => tl σ H1 fun l H2 => th σ H2 fun u H3 => rr x l u H3 Q) : tSl rr te tl th σ H Q := k
theorem x_part {R : Option Int → Hp → Prop} (k : te σ H fun x H1 => ∃ i, x = .int i ∧ R (some i) H1) : tPart te σ H R := k
theorem x_iex {F : Int → Prop} {b : Int} (k : F b) : ∃ c, V.int b = V.int c ∧ F c := ⟨b, rfl, k⟩
theorem x_nopart {R : Option Int → Hp → Prop} (k : R none H) : tNoPart σ H R := k
/-! ### heaps -/
theorem upd_old {p q : Addr} {o o' : HO} (hq : H q = none) (hp : H p = some o') : upd H q o p = some o' := by rw [upd_ne (ne_of_none hp hq)]; exact hp
theorem same_upd {q : Addr} {o : HO} (hq : H q = none) : Same H (upd H q o) := fun b u e => upd_old hq e
theorem sql_old {K : PySem.W.Frag} {H' : Hp} {a : Addr} {xs : List V} (e : ExtN H H') (h : SqL K H a xs) : SqL K H' a xs := by
  rcases h with (h | ⟨o, h⟩) | h
  · exact .inl (.inl (e _ _ h (fun _ z => nomatch z)))
  · exact .inl (.inr ⟨o, e _ _ h (fun _ z => nomatch z)⟩)
  · exact .inr h
end
end Ws

set_option Elab.async false
set_option linter.all false
set_option maxRecDepth 100000
set_option maxHeartbeats 4000000
namespace Ws
open PySem PySem.Spec PyProof.Rows L2 HotX LamX
theorem bb_len : bootBuiltins "len" = some (.builtin "len") := by decide +kernel
theorem bb_max : bootBuiltins "max" = some (.builtin "max") := by decide +kernel
theorem bb_min : bootBuiltins "min" = some (.builtin "min") := by decide +kernel
theorem bb_sum : bootBuiltins "sum" = some (.builtin "sum") := by decide +kernel
theorem bb_all : bootBuiltins "all" = some (.builtin "all") := by decide +kernel
theorem bb_any : bootBuiltins "any" = some (.builtin "any") := by decide +kernel
theorem bb_ord : bootBuiltins "ord" = some (.builtin "ord") := by decide +kernel
theorem bb_sorted : bootBuiltins "sorted" = some (.builtin "sorted") := by decide +kernel
theorem bb_isinstance : bootBuiltins "isinstance" = some (.builtin "isinstance") := by decide +kernel
theorem bb_int : bootBuiltins "int" = some (.type "int") := by decide +kernel
theorem bb_bool : bootBuiltins "bool" = some (.type "bool") := by decide +kernel
theorem bb_str : bootBuiltins "str" = some (.type "str") := by decide +kernel
theorem bb_list : bootBuiltins "list" = some (.type "list") := by decide +kernel
theorem bb_tuple : bootBuiltins "tuple" = some (.type "tuple") := by decide +kernel
theorem bb_dict : bootBuiltins "dict" = some (.type "dict") := by decide +kernel
theorem bb_range : bootBuiltins "range" = some (.type "range") := by decide +kernel
theorem bb_ValueError : bootBuiltins "ValueError" = some (.type "ValueError") := by decide +kernel
section
variable {X : Cx} {x : Str} {pos p : Pos} {e : Expr} {es : List Expr} {t : TA} {k j : Nat} {C : Addr} {sp : Sp} {E : XK}
theorem q_ref {a : Addr} (hm : X.mg x = some (.ref a)) (hg : Gl X x := by rfl) (hd : (x == ("__debug__" : Str)) = false := by decide) : PE X (.Name x pos) (tC (.ref a)) := pe_glob hg hm rfl hd
theorem q_int {i : Int} (hm : ∃ t, X.mg x = some (.int i t)) (hg : Gl X x := by rfl) (hd : (x == ("__debug__" : Str)) = false := by decide) : PE X (.Name x pos) (tC (.int i)) := by
  obtain ⟨t, hm⟩ := hm
  exact pe_glob hg hm ⟨t, rfl⟩ hd
theorem q_str {i : Str} (hm : ∃ t, X.mg x = some (.str i t)) (hg : Gl X x := by rfl) (hd : (x == ("__debug__" : Str)) = false := by decide) : PE X (.Name x pos) (tC (.str i)) := by
  obtain ⟨t, hm⟩ := hm
  exact pe_glob hg hm ⟨t, rfl⟩ hd
theorem q_ty {T : String} (hm : X.mg x = none) (hv : bootBuiltins x = some (.type T)) (hg : Gl X x := by rfl) (hn : x ≠ "__name__" := by decide) (hd : (x == ("__debug__" : Str)) = false := by decide) : PE X (.Name x pos) (tC (.ty T)) := pe_bltn hg hm hv rfl hn hd
theorem q_cb {id : String} {r : List V → Hp → VK → Prop} (hc : CallR X (.builtin id) r) (hm : X.mg x = none) (hv : bootBuiltins x = some (.builtin id)) (ha : PA X (e :: es) t) (hg : Gl X x := by rfl) (hn : x ≠ "__name__" := by decide) (hdb : (x == ("__debug__" : Str)) = false := by decide)
    (he : starEach (e :: es) X.env = (false, eval e X.env) :: starEach es X.env := by rfl) (hpl : (backTo pos (starEach es X.env)).any (·.1) = false := by rfl) : PE X (.Call (.Name x p) (e :: es) [] pos) (tCB r t) := pe_callB hc hg hm hv ha hn hdb he hpl
theorem q_ct {T : String} {r : List V → Hp → VK → Prop} (hc : CallR X (.type T) r) (hm : X.mg x = none) (hv : bootBuiltins x = some (.type T)) (ha : PA X (e :: es) t) (hg : Gl X x := by rfl) (hn : x ≠ "__name__" := by decide) (hdb : (x == ("__debug__" : Str)) = false := by decide)
    (he : starEach (e :: es) X.env = (false, eval e X.env) :: starEach es X.env := by rfl) (hpl : (backTo pos (starEach es X.env)).any (·.1) = false := by rfl) : PE X (.Call (.Name x p) (e :: es) [] pos) (tCB r t) := pe_callTy hc hg hm hv ha hn hdb he hpl
theorem q_fn (F : Fn X.prog X.w X.K X.mg X.base k x sp) (hr : Room j X.A) (hx : Passes (L2N.CX X.prog X.w) X E) (ha : PA X (e :: es) t) (hk : k ≤ j := by decide) (hg : Gl X x := by rfl) (hdb : (x == ("__debug__" : Str)) = false := by decide)
    (he : starEach (e :: es) X.env = (false, eval e X.env) :: starEach es X.env := by rfl) (hpl : (backTo pos (starEach es X.env)).any (·.1) = false := by rfl) : PE X (.Call (.Name x p) (e :: es) [] pos) (tCall sp [] E t) := pe_fn F hr hg hx ha hk hdb he hpl
theorem q_fn0 (F : Fn X.prog X.w X.K X.mg X.base k x sp) (hr : Room j X.A) (hx : Passes (L2N.CX X.prog X.w) X E) (hk : k ≤ j := by decide) (hg : Gl X x := by rfl) (hdb : (x == ("__debug__" : Str)) = false := by decide) :
    PE X (.Call (.Name x p) [] [] pos) (tCall sp [] E tNil) := pe_fn0 F hr hg hx hk hdb
theorem q_mr (F : Mr X.prog X.w X.K X.mg X.base k x C sp) (hr : Room j X.A) (hx : Passes (L2N.CX X.prog X.w) X E) (ha : PA X (e :: es) t) (hk : k + 1 ≤ j := by decide) (hg : Gl X x := by rfl) (hdb : (x == ("__debug__" : Str)) = false := by decide)
    (he : starEach (e :: es) X.env = (false, eval e X.env) :: starEach es X.env := by rfl) (hpl : (backTo pos (starEach es X.env)).any (·.1) = false := by rfl) : PE X (.Call (.Name x p) (e :: es) [] pos) (tMake C sp [] E t) := pe_mr F hr hg hx ha hk hdb he hpl
theorem q_mr0 (F : Mr X.prog X.w X.K X.mg X.base k x C sp) (hr : Room j X.A) (hx : Passes (L2N.CX X.prog X.w) X E) (hk : k + 1 ≤ j := by decide) (hg : Gl X x := by rfl) (hdb : (x == ("__debug__" : Str)) = false := by decide) :
    PE X (.Call (.Name x p) [] [] pos) (tMake C sp [] E tNil) := pe_mr0 F hr hg hx hk hdb
end
/-! ### the six refusals -/
abbrev veT : List Value := [.type "ValueError", .type "Exception", .type "BaseException", .type "object"]
def errIn (K : PySem.W.Frag) (D W : Addr) : Bool :=
  PySem.W.findIn K (.ref D) "__getattribute__" == some (some (.builtin "BaseException.__getattribute__")) && (PySem.W.findIn K (.ref D) "__getattr__" == some none &&
  (PySem.W.subIn K (.ref D) (.type "BaseException") == some true && (PySem.W.hasDictIn K D &&
  (PySem.W.findIn K (.ref D) "__class__" == some (some (.builtin "object.__class__")) &&
  (PySem.W.specialIn K (.builtin "object.__class__") "__get__" == some (some (.builtin "getset_descriptor.__get__")) &&
  (PySem.W.takesIn K (.builtin "object.__class__") == some true && (PySem.W.mroIn K D (.type "object") == some true &&
  (PySem.W.excIn K D veT "ValueError.__new__" && (PySem.W.keepIn K (.ref D) && (PySem.W.typeIn K (.ref D) == some (.type "type") &&
  (PySem.W.kitOne K (.ref D) (.type "ValueError") == some true && PySem.W.exmOne K (.ref D) (.ref W) == some true)))))))))))
structure ErrC (K : PySem.W.Frag) (D W : Addr) : Prop where
  exc : ExcC K D
  xin : PySem.W.excIn K D veT "ValueError.__new__" = true
  kp : PySem.W.keepIn K (.ref D) = true
  ty : PySem.W.typeIn K (.ref D) = some (.type "type")
  kv : PySem.W.kitOne K (.ref D) (.type "ValueError") = some true
  ex : PySem.W.exmOne K (.ref D) (.ref W) = some true
theorem errC_of {K : PySem.W.Frag} {D W : Addr} (h : errIn K D W = true) : ErrC K D W := by
  unfold errIn at h
  simp only [Bool.and_eq_true, beq_iff_eq] at h
  obtain ⟨h1, h2, h3, h4, h5, h6, h7, h8, h9, h10, h11, h12, h13⟩ := h
  exact ⟨⟨h1, h2, h3, h4, h5, h6, h7, h8⟩, h9, h10, h11, h12, h13⟩
def nmE : Nat → Str
  | 0 => "BadBook" | 1 => "BadBytes" | 2 => "BadRank" | 3 => "BadRoom" | 4 => "BadSheet" | _ => "BadTurn"
def errsIn (K : PySem.W.Frag) (c : Nat → Addr) : Bool :=
  (List.range 6).all fun i => errIn K (c i) (c 6) && (List.range 6).all fun j => PySem.W.kitOne K (.ref (c i)) (.ref (c j)) == some (decide (i = j))
structure Errs (K : PySem.W.Frag) (mg : Str → Option Value) (c : Nat → Addr) : Prop where
  g : ∀ i, i < 6 → mg (nmE i) = some (.ref (c i))
  gW : mg "WireError" = some (.ref (c 6))
  cls : ∀ i, i < 6 → ErrC K (c i) (c 6)
  kit : ∀ i j, i < 6 → j < 6 → PySem.W.kitOne K (.ref (c i)) (.ref (c j)) = some (decide (i = j))
theorem errs_of {K : PySem.W.Frag} {mg : Str → Option Value} {c : Nat → Addr} (h : errsIn K c = true) (g0 : mg "BadBook" = some (.ref (c 0))) (g1 : mg "BadBytes" = some (.ref (c 1))) (g2 : mg "BadRank" = some (.ref (c 2))) (g3 : mg "BadRoom" = some (.ref (c 3)))
    (g4 : mg "BadSheet" = some (.ref (c 4))) (g5 : mg "BadTurn" = some (.ref (c 5))) (gW : mg "WireError" = some (.ref (c 6))) : Errs K mg c := by
  unfold errsIn at h
  simp only [List.all_eq_true, List.mem_range, Bool.and_eq_true, beq_iff_eq] at h
  refine ⟨fun i hi => ?_, gW, fun i hi => errC_of (h i hi).1, fun i j hi hj => (h i hi).2 j hj⟩
  match i, hi with
  | 0, _ => exact g0
  | 1, _ => exact g1
  | 2, _ => exact g2
  | 3, _ => exact g3
  | 4, _ => exact g4
  | 5, _ => exact g5
theorem Errs.mk_ {K : PySem.W.Frag} {mg : Str → Option Value} {c : Nat → Addr} (T : Errs K mg c) {X : Cx} (eK : X.K = K) (em : X.mg = mg) (i : Nat) (hi : i < 6) {m : Str} {j : Nat} {p p2 pos : Pos} (hg : Gl X (nmE i)) (hd : (nmE i == ("__debug__" : Str)) = false) :
    L2N.PMk X (.Call (.Name (nmE i) p) [.Constant (.str m) j p2] [] pos) (fun _ H Q => Q (.ref (c i)) none H) := by
  subst eK em
  have C := T.cls i hi
  refine L2N.pmk_own PySem.F.excBase_ValueError C.xin (T.g i hi) C.kp (fun M h KX => ⟨?_, ?_⟩) hg hd
  · exact PySem.W.looks_subIn KX C.exc.hs
  · exact PySem.W.looks_typeIn KX C.ty
section
variable {H : Hp} {Q : VK} {R : L2.St → Hp → Prop} {v : V}
theorem x_v0 {l : L2.St} (k : Q v H) : tVar 0 (some v :: l) H Q := ⟨v, rfl, k⟩
theorem x_n0 {b : Option V} {l : L2.St} (k : R (some v :: l) H) : gName 0 v (b :: l) H R := k
theorem x_v1 {a0 : Option V} {l : L2.St} (k : Q v H) : tVar 1 (a0 :: some v :: l) H Q := ⟨v, rfl, k⟩
theorem x_n1 {a0 : Option V} {b : Option V} {l : L2.St} (k : R (a0 :: some v :: l) H) : gName 1 v (a0 :: b :: l) H R := k
theorem x_v2 {a0 a1 : Option V} {l : L2.St} (k : Q v H) : tVar 2 (a0 :: a1 :: some v :: l) H Q := ⟨v, rfl, k⟩
theorem x_n2 {a0 a1 : Option V} {b : Option V} {l : L2.St} (k : R (a0 :: a1 :: some v :: l) H) : gName 2 v (a0 :: a1 :: b :: l) H R := k
theorem x_v3 {a0 a1 a2 : Option V} {l : L2.St} (k : Q v H) : tVar 3 (a0 :: a1 :: a2 :: some v :: l) H Q := ⟨v, rfl, k⟩
theorem x_n3 {a0 a1 a2 : Option V} {b : Option V} {l : L2.St} (k : R (a0 :: a1 :: a2 :: some v :: l) H) : gName 3 v (a0 :: a1 :: a2 :: b :: l) H R := k
theorem x_v4 {a0 a1 a2 a3 : Option V} {l : L2.St} (k : Q v H) : tVar 4 (a0 :: a1 :: a2 :: a3 :: some v :: l) H Q := ⟨v, rfl, k⟩
theorem x_n4 {a0 a1 a2 a3 : Option V} {b : Option V} {l : L2.St} (k : R (a0 :: a1 :: a2 :: a3 :: some v :: l) H) : gName 4 v (a0 :: a1 :: a2 :: a3 :: b :: l) H R := k
theorem x_v5 {a0 a1 a2 a3 a4 : Option V} {l : L2.St} (k : Q v H) : tVar 5 (a0 :: a1 :: a2 :: a3 :: a4 :: some v :: l) H Q := ⟨v, rfl, k⟩
theorem x_n5 {a0 a1 a2 a3 a4 : Option V} {b : Option V} {l : L2.St} (k : R (a0 :: a1 :: a2 :: a3 :: a4 :: some v :: l) H) : gName 5 v (a0 :: a1 :: a2 :: a3 :: a4 :: b :: l) H R := k
theorem x_v6 {a0 a1 a2 a3 a4 a5 : Option V} {l : L2.St} (k : Q v H) : tVar 6 (a0 :: a1 :: a2 :: a3 :: a4 :: a5 :: some v :: l) H Q := ⟨v, rfl, k⟩
theorem x_n6 {a0 a1 a2 a3 a4 a5 : Option V} {b : Option V} {l : L2.St} (k : R (a0 :: a1 :: a2 :: a3 :: a4 :: a5 :: some v :: l) H) : gName 6 v (a0 :: a1 :: a2 :: a3 :: a4 :: a5 :: b :: l) H R := k
theorem x_v7 {a0 a1 a2 a3 a4 a5 a6 : Option V} {l : L2.St} (k : Q v H) : tVar 7 (a0 :: a1 :: a2 :: a3 :: a4 :: a5 :: a6 :: some v :: l) H Q := ⟨v, rfl, k⟩
theorem x_n7 {a0 a1 a2 a3 a4 a5 a6 : Option V} {b : Option V} {l : L2.St} (k : R (a0 :: a1 :: a2 :: a3 :: a4 :: a5 :: a6 :: some v :: l) H) : gName 7 v (a0 :: a1 :: a2 :: a3 :: a4 :: a5 :: a6 :: b :: l) H R := k
theorem x_v8 {a0 a1 a2 a3 a4 a5 a6 a7 : Option V} {l : L2.St} (k : Q v H) : tVar 8 (a0 :: a1 :: a2 :: a3 :: a4 :: a5 :: a6 :: a7 :: some v :: l) H Q := ⟨v, rfl, k⟩
theorem x_n8 {a0 a1 a2 a3 a4 a5 a6 a7 : Option V} {b : Option V} {l : L2.St} (k : R (a0 :: a1 :: a2 :: a3 :: a4 :: a5 :: a6 :: a7 :: some v :: l) H) : gName 8 v (a0 :: a1 :: a2 :: a3 :: a4 :: a5 :: a6 :: a7 :: b :: l) H R := k
theorem x_v9 {a0 a1 a2 a3 a4 a5 a6 a7 a8 : Option V} {l : L2.St} (k : Q v H) : tVar 9 (a0 :: a1 :: a2 :: a3 :: a4 :: a5 :: a6 :: a7 :: a8 :: some v :: l) H Q := ⟨v, rfl, k⟩
theorem x_n9 {a0 a1 a2 a3 a4 a5 a6 a7 a8 : Option V} {b : Option V} {l : L2.St} (k : R (a0 :: a1 :: a2 :: a3 :: a4 :: a5 :: a6 :: a7 :: a8 :: some v :: l) H) : gName 9 v (a0 :: a1 :: a2 :: a3 :: a4 :: a5 :: a6 :: a7 :: a8 :: b :: l) H R := k
theorem x_v10 {a0 a1 a2 a3 a4 a5 a6 a7 a8 a9 : Option V} {l : L2.St} (k : Q v H) : tVar 10 (a0 :: a1 :: a2 :: a3 :: a4 :: a5 :: a6 :: a7 :: a8 :: a9 :: some v :: l) H Q := ⟨v, rfl, k⟩
theorem x_n10 {a0 a1 a2 a3 a4 a5 a6 a7 a8 a9 : Option V} {b : Option V} {l : L2.St} (k : R (a0 :: a1 :: a2 :: a3 :: a4 :: a5 :: a6 :: a7 :: a8 :: a9 :: some v :: l) H) : gName 10 v (a0 :: a1 :: a2 :: a3 :: a4 :: a5 :: a6 :: a7 :: a8 :: a9 :: b :: l) H R := k
theorem x_v11 {a0 a1 a2 a3 a4 a5 a6 a7 a8 a9 a10 : Option V} {l : L2.St} (k : Q v H) : tVar 11 (a0 :: a1 :: a2 :: a3 :: a4 :: a5 :: a6 :: a7 :: a8 :: a9 :: a10 :: some v :: l) H Q := ⟨v, rfl, k⟩
theorem x_n11 {a0 a1 a2 a3 a4 a5 a6 a7 a8 a9 a10 : Option V} {b : Option V} {l : L2.St} (k : R (a0 :: a1 :: a2 :: a3 :: a4 :: a5 :: a6 :: a7 :: a8 :: a9 :: a10 :: some v :: l) H) : gName 11 v (a0 :: a1 :: a2 :: a3 :: a4 :: a5 :: a6 :: a7 :: a8 :: a9 :: a10 :: b :: l) H R := k
theorem x_v12 {a0 a1 a2 a3 a4 a5 a6 a7 a8 a9 a10 a11 : Option V} {l : L2.St} (k : Q v H) : tVar 12 (a0 :: a1 :: a2 :: a3 :: a4 :: a5 :: a6 :: a7 :: a8 :: a9 :: a10 :: a11 :: some v :: l) H Q := ⟨v, rfl, k⟩
theorem x_n12 {a0 a1 a2 a3 a4 a5 a6 a7 a8 a9 a10 a11 : Option V} {b : Option V} {l : L2.St} (k : R (a0 :: a1 :: a2 :: a3 :: a4 :: a5 :: a6 :: a7 :: a8 :: a9 :: a10 :: a11 :: some v :: l) H) : gName 12 v (a0 :: a1 :: a2 :: a3 :: a4 :: a5 :: a6 :: a7 :: a8 :: a9 :: a10 :: a11 :: b :: l) H R := k
theorem x_v13 {a0 a1 a2 a3 a4 a5 a6 a7 a8 a9 a10 a11 a12 : Option V} {l : L2.St} (k : Q v H) : tVar 13 (a0 :: a1 :: a2 :: a3 :: a4 :: a5 :: a6 :: a7 :: a8 :: a9 :: a10 :: a11 :: a12 :: some v :: l) H Q := ⟨v, rfl, k⟩
theorem x_n13 {a0 a1 a2 a3 a4 a5 a6 a7 a8 a9 a10 a11 a12 : Option V} {b : Option V} {l : L2.St} (k : R (a0 :: a1 :: a2 :: a3 :: a4 :: a5 :: a6 :: a7 :: a8 :: a9 :: a10 :: a11 :: a12 :: some v :: l) H) : gName 13 v (a0 :: a1 :: a2 :: a3 :: a4 :: a5 :: a6 :: a7 :: a8 :: a9 :: a10 :: a11 :: a12 :: b :: l) H R := k
theorem x_v14 {a0 a1 a2 a3 a4 a5 a6 a7 a8 a9 a10 a11 a12 a13 : Option V} {l : L2.St} (k : Q v H) : tVar 14 (a0 :: a1 :: a2 :: a3 :: a4 :: a5 :: a6 :: a7 :: a8 :: a9 :: a10 :: a11 :: a12 :: a13 :: some v :: l) H Q := ⟨v, rfl, k⟩
theorem x_n14 {a0 a1 a2 a3 a4 a5 a6 a7 a8 a9 a10 a11 a12 a13 : Option V} {b : Option V} {l : L2.St} (k : R (a0 :: a1 :: a2 :: a3 :: a4 :: a5 :: a6 :: a7 :: a8 :: a9 :: a10 :: a11 :: a12 :: a13 :: some v :: l) H) : gName 14 v (a0 :: a1 :: a2 :: a3 :: a4 :: a5 :: a6 :: a7 :: a8 :: a9 :: a10 :: a11 :: a12 :: a13 :: b :: l) H R := k
theorem x_v15 {a0 a1 a2 a3 a4 a5 a6 a7 a8 a9 a10 a11 a12 a13 a14 : Option V} {l : L2.St} (k : Q v H) : tVar 15 (a0 :: a1 :: a2 :: a3 :: a4 :: a5 :: a6 :: a7 :: a8 :: a9 :: a10 :: a11 :: a12 :: a13 :: a14 :: some v :: l) H Q := ⟨v, rfl, k⟩
theorem x_n15 {a0 a1 a2 a3 a4 a5 a6 a7 a8 a9 a10 a11 a12 a13 a14 : Option V} {b : Option V} {l : L2.St} (k : R (a0 :: a1 :: a2 :: a3 :: a4 :: a5 :: a6 :: a7 :: a8 :: a9 :: a10 :: a11 :: a12 :: a13 :: a14 :: some v :: l) H) : gName 15 v (a0 :: a1 :: a2 :: a3 :: a4 :: a5 :: a6 :: a7 :: a8 :: a9 :: a10 :: a11 :: a12 :: a13 :: a14 :: b :: l) H R := k
theorem x_v16 {a0 a1 a2 a3 a4 a5 a6 a7 a8 a9 a10 a11 a12 a13 a14 a15 : Option V} {l : L2.St} (k : Q v H) : tVar 16 (a0 :: a1 :: a2 :: a3 :: a4 :: a5 :: a6 :: a7 :: a8 :: a9 :: a10 :: a11 :: a12 :: a13 :: a14 :: a15 :: some v :: l) H Q := ⟨v, rfl, k⟩
theorem x_n16 {a0 a1 a2 a3 a4 a5 a6 a7 a8 a9 a10 a11 a12 a13 a14 a15 : Option V} {b : Option V} {l : L2.St} (k : R (a0 :: a1 :: a2 :: a3 :: a4 :: a5 :: a6 :: a7 :: a8 :: a9 :: a10 :: a11 :: a12 :: a13 :: a14 :: a15 :: some v :: l) H) : gName 16 v (a0 :: a1 :: a2 :: a3 :: a4 :: a5 :: a6 :: a7 :: a8 :: a9 :: a10 :: a11 :: a12 :: a13 :: a14 :: a15 :: b :: l) H R := k
theorem x_v17 {a0 a1 a2 a3 a4 a5 a6 a7 a8 a9 a10 a11 a12 a13 a14 a15 a16 : Option V} {l : L2.St} (k : Q v H) : tVar 17 (a0 :: a1 :: a2 :: a3 :: a4 :: a5 :: a6 :: a7 :: a8 :: a9 :: a10 :: a11 :: a12 :: a13 :: a14 :: a15 :: a16 :: some v :: l) H Q := ⟨v, rfl, k⟩
theorem x_n17 {a0 a1 a2 a3 a4 a5 a6 a7 a8 a9 a10 a11 a12 a13 a14 a15 a16 : Option V} {b : Option V} {l : L2.St} (k : R (a0 :: a1 :: a2 :: a3 :: a4 :: a5 :: a6 :: a7 :: a8 :: a9 :: a10 :: a11 :: a12 :: a13 :: a14 :: a15 :: a16 :: some v :: l) H) : gName 17 v (a0 :: a1 :: a2 :: a3 :: a4 :: a5 :: a6 :: a7 :: a8 :: a9 :: a10 :: a11 :: a12 :: a13 :: a14 :: a15 :: a16 :: b :: l) H R := k
theorem x_v18 {a0 a1 a2 a3 a4 a5 a6 a7 a8 a9 a10 a11 a12 a13 a14 a15 a16 a17 : Option V} {l : L2.St} (k : Q v H) : tVar 18 (a0 :: a1 :: a2 :: a3 :: a4 :: a5 :: a6 :: a7 :: a8 :: a9 :: a10 :: a11 :: a12 :: a13 :: a14 :: a15 :: a16 :: a17 :: some v :: l) H Q := ⟨v, rfl, k⟩
theorem x_n18 {a0 a1 a2 a3 a4 a5 a6 a7 a8 a9 a10 a11 a12 a13 a14 a15 a16 a17 : Option V} {b : Option V} {l : L2.St} (k : R (a0 :: a1 :: a2 :: a3 :: a4 :: a5 :: a6 :: a7 :: a8 :: a9 :: a10 :: a11 :: a12 :: a13 :: a14 :: a15 :: a16 :: a17 :: some v :: l) H) : gName 18 v (a0 :: a1 :: a2 :: a3 :: a4 :: a5 :: a6 :: a7 :: a8 :: a9 :: a10 :: a11 :: a12 :: a13 :: a14 :: a15 :: a16 :: a17 :: b :: l) H R := k
theorem x_v19 {a0 a1 a2 a3 a4 a5 a6 a7 a8 a9 a10 a11 a12 a13 a14 a15 a16 a17 a18 : Option V} {l : L2.St} (k : Q v H) : tVar 19 (a0 :: a1 :: a2 :: a3 :: a4 :: a5 :: a6 :: a7 :: a8 :: a9 :: a10 :: a11 :: a12 :: a13 :: a14 :: a15 :: a16 :: a17 :: a18 :: some v :: l) H Q := ⟨v, rfl, k⟩
theorem x_n19 {a0 a1 a2 a3 a4 a5 a6 a7 a8 a9 a10 a11 a12 a13 a14 a15 a16 a17 a18 : Option V} {b : Option V} {l : L2.St} (k : R (a0 :: a1 :: a2 :: a3 :: a4 :: a5 :: a6 :: a7 :: a8 :: a9 :: a10 :: a11 :: a12 :: a13 :: a14 :: a15 :: a16 :: a17 :: a18 :: some v :: l) H) : gName 19 v (a0 :: a1 :: a2 :: a3 :: a4 :: a5 :: a6 :: a7 :: a8 :: a9 :: a10 :: a11 :: a12 :: a13 :: a14 :: a15 :: a16 :: a17 :: a18 :: b :: l) H R := k
theorem x_v20 {a0 a1 a2 a3 a4 a5 a6 a7 a8 a9 a10 a11 a12 a13 a14 a15 a16 a17 a18 a19 : Option V} {l : L2.St} (k : Q v H) : tVar 20 (a0 :: a1 :: a2 :: a3 :: a4 :: a5 :: a6 :: a7 :: a8 :: a9 :: a10 :: a11 :: a12 :: a13 :: a14 :: a15 :: a16 :: a17 :: a18 :: a19 :: some v :: l) H Q := ⟨v, rfl, k⟩
theorem x_n20 {a0 a1 a2 a3 a4 a5 a6 a7 a8 a9 a10 a11 a12 a13 a14 a15 a16 a17 a18 a19 : Option V} {b : Option V} {l : L2.St} (k : R (a0 :: a1 :: a2 :: a3 :: a4 :: a5 :: a6 :: a7 :: a8 :: a9 :: a10 :: a11 :: a12 :: a13 :: a14 :: a15 :: a16 :: a17 :: a18 :: a19 :: some v :: l) H) : gName 20 v (a0 :: a1 :: a2 :: a3 :: a4 :: a5 :: a6 :: a7 :: a8 :: a9 :: a10 :: a11 :: a12 :: a13 :: a14 :: a15 :: a16 :: a17 :: a18 :: a19 :: b :: l) H R := k
theorem x_v21 {a0 a1 a2 a3 a4 a5 a6 a7 a8 a9 a10 a11 a12 a13 a14 a15 a16 a17 a18 a19 a20 : Option V} {l : L2.St} (k : Q v H) : tVar 21 (a0 :: a1 :: a2 :: a3 :: a4 :: a5 :: a6 :: a7 :: a8 :: a9 :: a10 :: a11 :: a12 :: a13 :: a14 :: a15 :: a16 :: a17 :: a18 :: a19 :: a20 :: some v :: l) H Q := ⟨v, rfl, k⟩
theorem x_n21 {a0 a1 a2 a3 a4 a5 a6 a7 a8 a9 a10 a11 a12 a13 a14 a15 a16 a17 a18 a19 a20 : Option V} {b : Option V} {l : L2.St} (k : R (a0 :: a1 :: a2 :: a3 :: a4 :: a5 :: a6 :: a7 :: a8 :: a9 :: a10 :: a11 :: a12 :: a13 :: a14 :: a15 :: a16 :: a17 :: a18 :: a19 :: a20 :: some v :: l) H) : gName 21 v (a0 :: a1 :: a2 :: a3 :: a4 :: a5 :: a6 :: a7 :: a8 :: a9 :: a10 :: a11 :: a12 :: a13 :: a14 :: a15 :: a16 :: a17 :: a18 :: a19 :: a20 :: b :: l) H R := k
theorem x_v22 {a0 a1 a2 a3 a4 a5 a6 a7 a8 a9 a10 a11 a12 a13 a14 a15 a16 a17 a18 a19 a20 a21 : Option V} {l : L2.St} (k : Q v H) : tVar 22 (a0 :: a1 :: a2 :: a3 :: a4 :: a5 :: a6 :: a7 :: a8 :: a9 :: a10 :: a11 :: a12 :: a13 :: a14 :: a15 :: a16 :: a17 :: a18 :: a19 :: a20 :: a21 :: some v :: l) H Q := ⟨v, rfl, k⟩
theorem x_n22 {a0 a1 a2 a3 a4 a5 a6 a7 a8 a9 a10 a11 a12 a13 a14 a15 a16 a17 a18 a19 a20 a21 : Option V} {b : Option V} {l : L2.St} (k : R (a0 :: a1 :: a2 :: a3 :: a4 :: a5 :: a6 :: a7 :: a8 :: a9 :: a10 :: a11 :: a12 :: a13 :: a14 :: a15 :: a16 :: a17 :: a18 :: a19 :: a20 :: a21 :: some v :: l) H) : gName 22 v (a0 :: a1 :: a2 :: a3 :: a4 :: a5 :: a6 :: a7 :: a8 :: a9 :: a10 :: a11 :: a12 :: a13 :: a14 :: a15 :: a16 :: a17 :: a18 :: a19 :: a20 :: a21 :: b :: l) H R := k
theorem x_v23 {a0 a1 a2 a3 a4 a5 a6 a7 a8 a9 a10 a11 a12 a13 a14 a15 a16 a17 a18 a19 a20 a21 a22 : Option V} {l : L2.St} (k : Q v H) : tVar 23 (a0 :: a1 :: a2 :: a3 :: a4 :: a5 :: a6 :: a7 :: a8 :: a9 :: a10 :: a11 :: a12 :: a13 :: a14 :: a15 :: a16 :: a17 :: a18 :: a19 :: a20 :: a21 :: a22 :: some v :: l) H Q := ⟨v, rfl, k⟩
theorem x_n23 {a0 a1 a2 a3 a4 a5 a6 a7 a8 a9 a10 a11 a12 a13 a14 a15 a16 a17 a18 a19 a20 a21 a22 : Option V} {b : Option V} {l : L2.St} (k : R (a0 :: a1 :: a2 :: a3 :: a4 :: a5 :: a6 :: a7 :: a8 :: a9 :: a10 :: a11 :: a12 :: a13 :: a14 :: a15 :: a16 :: a17 :: a18 :: a19 :: a20 :: a21 :: a22 :: some v :: l) H) : gName 23 v (a0 :: a1 :: a2 :: a3 :: a4 :: a5 :: a6 :: a7 :: a8 :: a9 :: a10 :: a11 :: a12 :: a13 :: a14 :: a15 :: a16 :: a17 :: a18 :: a19 :: a20 :: a21 :: a22 :: b :: l) H R := k
theorem x_v24 {a0 a1 a2 a3 a4 a5 a6 a7 a8 a9 a10 a11 a12 a13 a14 a15 a16 a17 a18 a19 a20 a21 a22 a23 : Option V} {l : L2.St} (k : Q v H) : tVar 24 (a0 :: a1 :: a2 :: a3 :: a4 :: a5 :: a6 :: a7 :: a8 :: a9 :: a10 :: a11 :: a12 :: a13 :: a14 :: a15 :: a16 :: a17 :: a18 :: a19 :: a20 :: a21 :: a22 :: a23 :: some v :: l) H Q := ⟨v, rfl, k⟩
theorem x_n24 {a0 a1 a2 a3 a4 a5 a6 a7 a8 a9 a10 a11 a12 a13 a14 a15 a16 a17 a18 a19 a20 a21 a22 a23 : Option V} {b : Option V} {l : L2.St} (k : R (a0 :: a1 :: a2 :: a3 :: a4 :: a5 :: a6 :: a7 :: a8 :: a9 :: a10 :: a11 :: a12 :: a13 :: a14 :: a15 :: a16 :: a17 :: a18 :: a19 :: a20 :: a21 :: a22 :: a23 :: some v :: l) H) : gName 24 v (a0 :: a1 :: a2 :: a3 :: a4 :: a5 :: a6 :: a7 :: a8 :: a9 :: a10 :: a11 :: a12 :: a13 :: a14 :: a15 :: a16 :: a17 :: a18 :: a19 :: a20 :: a21 :: a22 :: a23 :: b :: l) H R := k
theorem x_v25 {a0 a1 a2 a3 a4 a5 a6 a7 a8 a9 a10 a11 a12 a13 a14 a15 a16 a17 a18 a19 a20 a21 a22 a23 a24 : Option V} {l : L2.St} (k : Q v H) : tVar 25 (a0 :: a1 :: a2 :: a3 :: a4 :: a5 :: a6 :: a7 :: a8 :: a9 :: a10 :: a11 :: a12 :: a13 :: a14 :: a15 :: a16 :: a17 :: a18 :: a19 :: a20 :: a21 :: a22 :: a23 :: a24 :: some v :: l) H Q := ⟨v, rfl, k⟩
theorem x_n25 {a0 a1 a2 a3 a4 a5 a6 a7 a8 a9 a10 a11 a12 a13 a14 a15 a16 a17 a18 a19 a20 a21 a22 a23 a24 : Option V} {b : Option V} {l : L2.St} (k : R (a0 :: a1 :: a2 :: a3 :: a4 :: a5 :: a6 :: a7 :: a8 :: a9 :: a10 :: a11 :: a12 :: a13 :: a14 :: a15 :: a16 :: a17 :: a18 :: a19 :: a20 :: a21 :: a22 :: a23 :: a24 :: some v :: l) H) : gName 25 v (a0 :: a1 :: a2 :: a3 :: a4 :: a5 :: a6 :: a7 :: a8 :: a9 :: a10 :: a11 :: a12 :: a13 :: a14 :: a15 :: a16 :: a17 :: a18 :: a19 :: a20 :: a21 :: a22 :: a23 :: a24 :: b :: l) H R := k
theorem x_v26 {a0 a1 a2 a3 a4 a5 a6 a7 a8 a9 a10 a11 a12 a13 a14 a15 a16 a17 a18 a19 a20 a21 a22 a23 a24 a25 : Option V} {l : L2.St} (k : Q v H) : tVar 26 (a0 :: a1 :: a2 :: a3 :: a4 :: a5 :: a6 :: a7 :: a8 :: a9 :: a10 :: a11 :: a12 :: a13 :: a14 :: a15 :: a16 :: a17 :: a18 :: a19 :: a20 :: a21 :: a22 :: a23 :: a24 :: a25 :: some v :: l) H Q := ⟨v, rfl, k⟩
theorem x_n26 {a0 a1 a2 a3 a4 a5 a6 a7 a8 a9 a10 a11 a12 a13 a14 a15 a16 a17 a18 a19 a20 a21 a22 a23 a24 a25 : Option V} {b : Option V} {l : L2.St} (k : R (a0 :: a1 :: a2 :: a3 :: a4 :: a5 :: a6 :: a7 :: a8 :: a9 :: a10 :: a11 :: a12 :: a13 :: a14 :: a15 :: a16 :: a17 :: a18 :: a19 :: a20 :: a21 :: a22 :: a23 :: a24 :: a25 :: some v :: l) H) : gName 26 v (a0 :: a1 :: a2 :: a3 :: a4 :: a5 :: a6 :: a7 :: a8 :: a9 :: a10 :: a11 :: a12 :: a13 :: a14 :: a15 :: a16 :: a17 :: a18 :: a19 :: a20 :: a21 :: a22 :: a23 :: a24 :: a25 :: b :: l) H R := k
theorem x_v27 {a0 a1 a2 a3 a4 a5 a6 a7 a8 a9 a10 a11 a12 a13 a14 a15 a16 a17 a18 a19 a20 a21 a22 a23 a24 a25 a26 : Option V} {l : L2.St} (k : Q v H) : tVar 27 (a0 :: a1 :: a2 :: a3 :: a4 :: a5 :: a6 :: a7 :: a8 :: a9 :: a10 :: a11 :: a12 :: a13 :: a14 :: a15 :: a16 :: a17 :: a18 :: a19 :: a20 :: a21 :: a22 :: a23 :: a24 :: a25 :: a26 :: some v :: l) H Q := ⟨v, rfl, k⟩
theorem x_n27 {a0 a1 a2 a3 a4 a5 a6 a7 a8 a9 a10 a11 a12 a13 a14 a15 a16 a17 a18 a19 a20 a21 a22 a23 a24 a25 a26 : Option V} {b : Option V} {l : L2.St} (k : R (a0 :: a1 :: a2 :: a3 :: a4 :: a5 :: a6 :: a7 :: a8 :: a9 :: a10 :: a11 :: a12 :: a13 :: a14 :: a15 :: a16 :: a17 :: a18 :: a19 :: a20 :: a21 :: a22 :: a23 :: a24 :: a25 :: a26 :: some v :: l) H) : gName 27 v (a0 :: a1 :: a2 :: a3 :: a4 :: a5 :: a6 :: a7 :: a8 :: a9 :: a10 :: a11 :: a12 :: a13 :: a14 :: a15 :: a16 :: a17 :: a18 :: a19 :: a20 :: a21 :: a22 :: a23 :: a24 :: a25 :: a26 :: b :: l) H R := k
end
section
variable {K : PySem.W.Frag} {H : Hp} {Q : VK}
theorem x_isE {D a C : Addr} {b : Bool} (e : PySem.W.kitOne K (.ref D) (.ref C) = some b) (k : Q (.bl b) H) : rIsE K D a [.ref a, .ref C] H Q := ⟨.ref C, .ref C, b, rfl, fun _ r => r, e, k⟩
theorem x_isET {D a : Addr} {T : String} {b : Bool} (e : PySem.W.kitOne K (.ref D) (.type T) = some b) (k : Q (.bl b) H) : rIsE K D a [.ref a, .ty T] H Q := ⟨.ty T, .type T, b, rfl, fun _ r => r, e, k⟩
theorem x_cat {l b : Addr} {xs zs : List V} (h1 : H l = some (.lst xs)) (h2 : H b = some (.lst zs)) (hz : xs.length + zs.length ≤ sizeLine) (k : ∀ p, H p = none → Q (.ref p) (upd H p (.lst (xs ++ zs)))) : rCat (.ref l) (.ref b) H Q := ⟨l, b, xs, zs, rfl, rfl, h1, h2, hz, k⟩
theorem x_sum {a : Addr} {ns : List Int} (h : SqL K H a (ns.map V.int)) (k : Q (.int ns.sum) H) : rSum K [.ref a] H Q := ⟨a, ns, rfl, h, k⟩
theorem x_ixL {p : Addr} {xs : List V} {i : Int} {v : V} (h : SqL K H p xs) (hi : atI xs i = some v) (k : Q v H) : rIxL K (.ref p) (.int i) H Q := ⟨p, xs, i, v, rfl, rfl, h, hi, k⟩
theorem x_ixT {p : Addr} {xs : List V} {i : Int} {v : V} (h : SqT K H p xs) (hi : atI xs i = some v) (k : Q v H) : rIxT K (.ref p) (.int i) H Q := ⟨p, xs, i, v, rfl, rfl, h, hi, k⟩
theorem x_index {a : Addr} {ys : List V} {y z : V} {j : Nat} (h : SqL K H a ys) (f1 : flatV y = true) (f2 : ys.all flatV = true) (hj : ys[j]? = some z) (e : eqV z y = true) (no : ∀ (m : Nat) (z' : V), m < j → ys[m]? = some z' → eqV z' y = false) (k : Q (.int (j : Nat)) H) :
    rIndex K (.ref a) [y] H Q := ⟨a, ys, y, j, z, rfl, rfl, h, f1, f2, hj, e, no, k⟩
theorem x_append {l : Addr} {xs : List V} {y : V} (h : H l = some (.lst xs)) (hz : xs.length < sizeLine) (k : Q .non (upd H l (.lst (xs ++ [y])))) : rAppend (.ref l) [y] H Q := ⟨l, xs, y, rfl, rfl, h, hz, k⟩
end
/-- the one flag that is set -/
def flg (i : Nat) (j : Nat) : Bool := decide (i = j)
def flgs (i : Nat) : List V := [.bl (flg i 0), .bl (flg i 1), .bl (flg i 2), .bl (flg i 3), .bl (flg i 4), .bl (flg i 5)]
def fInt : V → V
  | .bl b => .int (if b = true then 1 else 0)
  | v => v
def flgN (i : Nat) : List Int := [if flg i 0 = true then 1 else 0, if flg i 1 = true then 1 else 0, if flg i 2 = true then 1 else 0, if flg i 3 = true then 1 else 0, if flg i 4 = true then 1 else 0, if flg i 5 = true then 1 else 0]
theorem flgN_sum : ∀ i, i < 6 → (flgN i).sum = 1 := by decide
theorem flgs_at : ∀ i, i < 6 → (flgs i)[i]? = some (.bl true) := by decide
theorem flgs_no : ∀ i, i < 6 → ∀ m, m < i → (flgs i)[m]? = some (.bl false) := by decide
theorem nm_at : ∀ i, i < 6 → atI [V.str "BadBook", V.str "BadBytes", V.str "BadRank", V.str "BadRoom", V.str "BadSheet", V.str "BadTurn"] ((i : Nat) : Int) = some (.str (nmE i)) := by
  intro i hi
  match i, hi with
  | 0, _ => rfl
  | 1, _ => rfl
  | 2, _ => rfl
  | 3, _ => rfl
  | 4, _ => rfl
  | 5, _ => rfl
section
variable {K : PySem.W.Frag} {H : Hp} {Q : VK}
theorem x_isi {v : V} {T U : String} {b : Bool} (h : TyX K H v (.type T)) (e : kitB T U = some b) (k : Q (.bl b) H) : rIsi K [v, .ty U] H Q := ⟨v, .ty U, .type T, .type U, b, rfl, .ty U, h, kit_ty e, k⟩
end
def tyN : List String := ["NoneType", "bool", "int", "str", "list", "tuple", "dict"]
theorem kb_int : ∀ T ∈ tyN, kitB T "int" = some (T == "int" || T == "bool") := by decide +kernel
theorem kb_bool : ∀ T ∈ tyN, kitB T "bool" = some (T == "bool") := by decide +kernel
theorem kb_str : ∀ T ∈ tyN, kitB T "str" = some (T == "str") := by decide +kernel
theorem kb_list : ∀ T ∈ tyN, kitB T "list" = some (T == "list") := by decide +kernel
theorem kb_tuple : ∀ T ∈ tyN, kitB T "tuple" = some (T == "tuple") := by decide +kernel
/-- a value's kind is one of the seven -/
def Ty7 (K : PySem.W.Frag) (H : Hp) (v : V) : Prop := ∃ T ∈ tyN, TyX K H v (.type T)
theorem tyx_int {K : PySem.W.Frag} {H : Hp} {v : V} {t : Value} (h : TyX K H v t) (e : t = .type "int") : ∃ i, v = .int i := by
  have no : ∀ T : String, T ≠ "int" → Value.type T = .type "int" → False := fun T hT z => hT (Value.type.inj z)
  cases h with
  | base h => cases h <;> first | exact ⟨_, rfl⟩ | exact (no _ (by decide) e).elim | (cases e)
  | _ => exact (no _ (by decide) e).elim
theorem tyx_bool {K : PySem.W.Frag} {H : Hp} {v : V} {t : Value} (h : TyX K H v t) (e : t = .type "bool") : ∃ i, v = .bl i := by
  have no : ∀ T : String, T ≠ "bool" → Value.type T = .type "bool" → False := fun T hT z => hT (Value.type.inj z)
  cases h with
  | base h => cases h <;> first | exact ⟨_, rfl⟩ | exact (no _ (by decide) e).elim | (cases e)
  | _ => exact (no _ (by decide) e).elim
theorem tyx_str {K : PySem.W.Frag} {H : Hp} {v : V} {t : Value} (h : TyX K H v t) (e : t = .type "str") : ∃ i, v = .str i := by
  have no : ∀ T : String, T ≠ "str" → Value.type T = .type "str" → False := fun T hT z => hT (Value.type.inj z)
  cases h with
  | base h => cases h <;> first | exact ⟨_, rfl⟩ | exact (no _ (by decide) e).elim | (cases e)
  | _ => exact (no _ (by decide) e).elim
theorem tyx_of_int {K : PySem.W.Frag} {H : Hp} {i : Int} {T : Value} (h : TyX K H (.int i) T) : T = .type "int" := by
  cases h with
  | base h => cases h; rfl
theorem tyx_of_bl {K : PySem.W.Frag} {H : Hp} {i : Bool} {T : Value} (h : TyX K H (.bl i) T) : T = .type "bool" := by
  cases h with
  | base h => cases h; rfl
theorem tyx_of_str {K : PySem.W.Frag} {H : Hp} {i : Str} {T : Value} (h : TyX K H (.str i) T) : T = .type "str" := by
  cases h with
  | base h => cases h; rfl
theorem ty7_int {K : PySem.W.Frag} {H : Hp} (i : Int) : Ty7 K H (.int i) := ⟨"int", by decide, .base (.int i)⟩
theorem ty7_bl {K : PySem.W.Frag} {H : Hp} (i : Bool) : Ty7 K H (.bl i) := ⟨"bool", by decide, .base (.bl i)⟩
theorem ty7_str {K : PySem.W.Frag} {H : Hp} (i : Str) : Ty7 K H (.str i) := ⟨"str", by decide, .base (.str i)⟩
theorem ty7_non {K : PySem.W.Frag} {H : Hp} : Ty7 K H .non := ⟨"NoneType", by decide, .base .non⟩
/-- a whole number between two bounds -/
def isW : V → Int → Int → Bool
  | .int i, lo, hi => decide (lo ≤ i) && decide (i ≤ hi)
  | _, _, _ => false
theorem isW_not {v : V} {lo hi : Int} (h : ∀ i, v ≠ .int i) : isW v lo hi = false := by
  cases v with
  | int i => exact absurd rfl (h i)
  | _ => rfl
/-! ### a drawn number -/
def drawn (cell k : Int) : Int :=
  let a := (cell * 6364136223846793005 + (k + 1) * 1442695040888963407) % 340282366920938463463374607431768211507
  let b := a * a % 340282366920938463463374607431768211297
  let d := (b % 18446744073709551557 + 1) * (b / 18446744073709551557 + 1) * b
  d % 340282366920938463463374607431768211507
theorem drawn_lo (cell k : Int) : 0 ≤ drawn cell k := Int.emod_nonneg _ (by decide)
theorem drawn_hi (cell k : Int) : drawn cell k < 340282366920938463463374607431768211507 := Int.emod_lt_of_pos _ (by decide)
theorem nat_lt_of {i : Int} {n : Nat} (h0 : 0 ≤ i) (h : i < (n : Int)) : i.natAbs < n := by omega
/-! ### data -/
theorem depth_ints : ∀ ns : List Int, PyData.depthAll (ns.map PyData.int) = 0
  | [] => by simp [PyData.depthAll]
  | n :: r => by simp [PyData.depthAll, PyData.depth, depth_ints r]
theorem lay_ints : ∀ ns : List Int, PyData.canLayAll0 (ns.map PyData.int) = true
  | [] => by simp [PyData.canLayAll0]
  | n :: r => by simp [PyData.canLayAll0, PyData.canLay0, lay_ints r]
theorem shp_ints (ns : List Int) : SeqAt.shaped (.list (ns.map PyData.int)) = true := by
  simp [SeqAt.shaped, PyData.canLay0, PyData.depth, lay_ints, depth_ints]
theorem shp_tints (ns : List Int) : SeqAt.shaped (.tuple (ns.map PyData.int)) = true := by
  simp [SeqAt.shaped, PyData.canLay0, PyData.depth, lay_ints, depth_ints]
theorem eqv_ints (ns ms : List Int) : PyData.eqv (.list (ns.map PyData.int)) (.list (ms.map PyData.int)) = decide (ns = ms) := by
  rw [PyData.eqv]
  exact PySem.W.ked_eqvAll ns ms
theorem dpa_ints {K : PySem.W.Frag} {H : Hp} : ∀ ns : List Int, DpAll K H (ns.map V.int) (ns.map PyData.int)
  | [] => .nil
  | n :: r => .cons (.int n) (dpa_ints r)
theorem x_eqD {K : PySem.W.Frag} {H : Hp} {Q : VK} {x y : V} {d e : PyData} (h1 : Dp K H x d) (h2 : Dp K H y e) (s1 : SeqAt.shaped d = true) (s2 : SeqAt.shaped e = true) (k : Q (.bl (PyData.eqv d e)) H) : rEqD K x y H Q := ⟨d, e, h1, h2, s1, s2, k⟩
theorem x_neD {K : PySem.W.Frag} {H : Hp} {Q : VK} {x y : V} {d e : PyData} (h1 : Dp K H x d) (h2 : Dp K H y e) (s1 : SeqAt.shaped d = true) (s2 : SeqAt.shaped e = true) (k : Q (.bl (!PyData.eqv d e)) H) : rNeD K x y H Q := ⟨d, e, h1, h2, s1, s2, k⟩
def rLn (K : PySem.W.Frag) : List V → Hp → VK → Prop := fun xs H Q => ∃ p ys, xs = [.ref p] ∧ (SqL K H p ys ∨ SqT K H p ys) ∧ Q (.int ys.length) H
theorem c_len {X : Cx} : CallR X (.builtin "len") (rLn X.K) := call_len_seq
theorem x_lenL {K : PySem.W.Frag} {H : Hp} {Q : VK} {a : Addr} {xs : List V} (h : SqL K H a xs) (k : Q (.int xs.length) H) : rLn K [.ref a] H Q := ⟨a, xs, rfl, .inl h, k⟩
theorem x_lenT {K : PySem.W.Frag} {H : Hp} {Q : VK} {a : Addr} {xs : List V} (h : SqT K H a xs) (k : Q (.int xs.length) H) : rLn K [.ref a] H Q := ⟨a, xs, rfl, .inr h, k⟩
def rLnS : List V → Hp → VK → Prop := fun xs H Q => ∃ z, xs = [.str z] ∧ z.length ≤ sizeLine ∧ Q (.int z.length) H
theorem c_lenS {X : Cx} : CallR X (.builtin "len") rLnS := call_len_str
theorem x_lenS {H : Hp} {Q : VK} {z : Str} (h : z.length ≤ sizeLine) (k : Q (.int z.length) H) : rLnS [.str z] H Q := ⟨z, rfl, h, k⟩
def rMx : List V → Hp → VK → Prop := fun xs H Q => ∃ i j, xs = [.int i, .int j] ∧ Q (.int (if j > i then j else i)) H
def rMn : List V → Hp → VK → Prop := fun xs H Q => ∃ i j, xs = [.int i, .int j] ∧ Q (.int (if j < i then j else i)) H
theorem c_max {X : Cx} (hc : X.calm = true) : CallR X (.builtin "max") rMx := call_max2 hc
theorem c_min {X : Cx} (hc : X.calm = true) : CallR X (.builtin "min") rMn := call_min2 hc
theorem x_max {H : Hp} {Q : VK} {i j : Int} (k : Q (.int (max i j)) H) : rMx [.int i, .int j] H Q := ⟨i, j, rfl, by
  have e : (if j > i then j else i) = max i j := by omega
  rw [e]; exact k⟩
theorem x_min {H : Hp} {Q : VK} {i j : Int} (k : Q (.int (min i j)) H) : rMn [.int i, .int j] H Q := ⟨i, j, rfl, by
  have e : (if j < i then j else i) = min i j := by omega
  rw [e]; exact k⟩
def rTpl (K : PySem.W.Frag) : List V → Hp → VK → Prop := fun xs H Q => ∃ p ys, xs = [.ref p] ∧ ((SqL K H p ys ∧ ∀ l, H l = none → Q (.ref l) (upd H l (.tup ys))) ∨ (SqT K H p ys ∧ Q (.ref p) H))
theorem c_tuple {X : Cx} : CallR X (.type "tuple") (rTpl X.K) := call_tuple_of
theorem x_tplL {K : PySem.W.Frag} {H : Hp} {Q : VK} {a : Addr} {xs : List V} (h : SqL K H a xs) (k : ∀ l, H l = none → Q (.ref l) (upd H l (.tup xs))) : rTpl K [.ref a] H Q := ⟨a, xs, rfl, .inl ⟨h, k⟩⟩
def rLsO (K : PySem.W.Frag) : List V → Hp → VK → Prop := fun xs H Q => ∃ p ys, xs = [.ref p] ∧ (SqL K H p ys ∨ SqT K H p ys) ∧ ∀ l, H l = none → Q (.ref l) (upd H l (.lst ys))
theorem c_list {X : Cx} : CallR X (.type "list") (rLsO X.K) := call_list_of
def rOrd : List V → Hp → VK → Prop := fun xs H Q => ∃ x, xs = [.str x] ∧ x.length = 1 ∧ Q (.int (x.cps.getD 0 0 : Nat)) H
theorem c_ord {X : Cx} : CallR X (.builtin "ord") rOrd := call_ord
def rInt1 : List V → Hp → VK → Prop := fun xs H Q => (∃ i, xs = [.int i] ∧ Q (.int i) H) ∨ ∃ k, xs = [.bl k] ∧ Q (.int (if k then 1 else 0)) H
theorem c_int {X : Cx} : CallR X (.type "int") rInt1 := call_int1
theorem atI_get {α : Type} {xs : List α} {i : Int} {v : α} (h0 : 0 ≤ i) (h : xs[i.toNat]? = some v) : atI xs i = some v := by
  have hl : i.toNat < xs.length := (List.getElem?_eq_some_iff.mp h).1
  unfold atI ixN
  rw [if_pos h0, if_pos (by omega)]
  exact h
end Ws

set_option Elab.async false
set_option linter.all false
set_option maxRecDepth 100000
set_option maxHeartbeats 4000000
namespace Ws
open PySem PySem.Spec PyProof.Rows L2 HotX LamX
/-! ### a word between a statement and the rest -/
def tMid (t u : TS) : TS := fun D σ H => ∃ Mid : L2.St → Hp → Prop, t { D with nx := Mid } σ H ∧ ∀ σ' H', Mid σ' H' → u D σ' H'
theorem pss_mid {X : Cx} {st : Stmt} {rest : List Stmt} {t u : TS} (h1 : PS X st t) (h2 : PSs X rest u) : PSs X (st :: rest) (tMid t u) := by
  refine ⟨fun pins s σ H D I h => ?_⟩
  obtain ⟨Mid, hm, hu⟩ := h
  refine wpAny_execs_cons (thn (h1.run pins s σ H { D with nx := Mid } I hm) fun f s1 q => ?_)
  cases f with
  | next =>
    obtain ⟨σ', H', I', q⟩ := q
    exact h2.run pins s1 σ' H' D I' (hu σ' H' q)
  | ret v => exact q
  | brk => exact q
  | cont => exact q
theorem x_mid {t u : TS} {D : Ends} {σ : L2.St} {H : Hp} (Mid : L2.St → Hp → Prop) (h1 : t { D with nx := Mid } σ H) (h2 : ∀ σ' H', Mid σ' H' → u D σ' H') : tMid t u D σ H := ⟨Mid, h1, h2⟩
/-! ### what stays through the law: the script, the tables of code objects -/
def ScU (K : PySem.W.Frag) (a : Addr) (xs : List V) (u : Option HO) : Prop := (∃ v, u = some v ∧ (v = .lst xs ∨ ∃ o, v = .frz o (.lst xs))) ∨ ∀ H, SqL K H a xs
structure Sv (a : Addr) (u : Option HO) (Tb : List (Addr × Str)) (H : Hp) : Prop where
  keep : ∀ v, u = some v → H a = some v
  tabs : Tabs Tb H
theorem scU_of {K : PySem.W.Frag} {H : Hp} {a : Addr} {xs : List V} (h : SqL K H a xs) : ∃ u, ScU K a xs u ∧ (∀ v, u = some v → H a = some v) := by
  rcases h with (h | ⟨o, h⟩) | h
  · exact ⟨some (.lst xs), .inl ⟨_, rfl, .inl rfl⟩, fun v e => by cases e; exact h⟩
  · exact ⟨some (.frz o (.lst xs)), .inl ⟨_, rfl, .inr ⟨o, rfl⟩⟩, fun v e => by cases e; exact h⟩
  · exact ⟨none, .inr fun _ => .inr h, fun v e => nomatch e⟩
section
variable {K : PySem.W.Frag} {a : Addr} {xs : List V} {u : Option HO} {Tb : List (Addr × Str)} {H H' : Hp}
theorem Sv.seq (S : Sv a u Tb H) (h : ScU K a xs u) : SqL K H a xs := by
  rcases h with ⟨v, e, rfl | ⟨o, rfl⟩⟩ | h
  · exact .inl (.inl (S.keep _ e))
  · exact .inl (.inr ⟨o, S.keep _ e⟩)
  · exact h H
theorem ScU.ntbl {v : HO} (h : ScU K a xs u) (e : u = some v) (hk : ¬ ∀ H, SqL K H a xs) : ∀ ps, v ≠ .tbl ps := by
  rcases h with ⟨v', e', rfl | ⟨o, rfl⟩⟩ | h
  · rw [e'] at e; cases e; exact fun ps z => nomatch z
  · rw [e'] at e; cases e; exact fun ps z => nomatch z
  · exact absurd h hk
def NoT (u : Option HO) : Prop := ∀ v, u = some v → ∀ ps, v ≠ .tbl ps
theorem Sv.ext (S : Sv a u Tb H) (n : NoT u) (e : ExtN H H') (t : Tabs Tb H') : Sv a u Tb H' := ⟨fun v q => e _ _ (S.keep v q) (n v q), t⟩
theorem Sv.same (S : Sv a u Tb H) (e : Same H H') : Sv a u Tb H' := ⟨fun v q => e _ _ (S.keep v q), S.tabs.ext e⟩
theorem Sv.apart (S : Sv a u Tb H) {p : Addr} (h : H p = none) : ∀ v, u = some v → a ≠ p := fun v q => ne_of_none (S.keep v q) h
/-- an object that may be written -/
def Wr : HO → Bool
  | .lst _ => true | .dK _ => true | .ins _ _ _ => true | _ => false
theorem Sv.mut (S : Sv a u Tb H) {p : Addr} {o o' : HO} (h : H p = some o) (hw : Wr o = true) (n : ∀ v, u = some v → a ≠ p) : Sv a u Tb (upd H p o') := by
  refine ⟨fun v q => by rw [upd_ne (n v q)]; exact S.keep v q, fun t ht => ?_⟩
  obtain ⟨ps, h1, h2, h3⟩ := S.tabs t ht
  refine ⟨ps, by rw [upd_ne (ne_of h1 h (by intro z; rw [← z] at hw; cases hw))]; exact h1, h2, fun pos cv hc => ?_⟩
  obtain ⟨c, e1, e2⟩ := h3 pos cv hc
  refine ⟨c, e1, ?_⟩
  rw [upd_ne (ne_of e2 h (by intro z; rw [← z] at hw; cases hw))]
  exact e2
end
theorem scU_noT {K : PySem.W.Frag} {H : Hp} {a : Addr} {xs : List V} (h : SqL K H a xs) : ∃ u, ScU K a xs u ∧ NoT u ∧ (∀ v, u = some v → H a = some v) := by
  rcases h with (h | ⟨o, h⟩) | h
  · exact ⟨some (.lst xs), .inl ⟨_, rfl, .inl rfl⟩, (fun v e ps z => by cases e; cases z), fun v e => by cases e; exact h⟩
  · exact ⟨some (.frz o (.lst xs)), .inl ⟨_, rfl, .inr ⟨o, rfl⟩⟩, (fun v e ps z => by cases e; cases z), fun v e => by cases e; exact h⟩
  · exact ⟨none, .inr fun _ => .inr h, (fun v e => nomatch e), (fun v e => nomatch e)⟩
abbrev qL (x : Str) : Str := x ++ ".<locals>." ++ "<lambda>"
/-- a def that makes lambdas: where its code object stands -/
structure LamAt (K : PySem.W.Frag) (mg : Str → Option Value) (x : Str) (st : Stmt) (cc : Addr) : Prop where
  ex : ∃ (f : Addr) (oc : Value) (od : Option Addr) (kV doc pm : Value) (an : Option Addr) (ct : Value) (osl : Array (Option Value)),
    K.lookup f = some ⟨oc, od, .func (PySem.W.fnOf x x (defArgs st) (defBody st) (defScope st) .none kV doc pm an (.ref cc) ct), osl⟩ ∧ PySem.W.codeIn K (.ref cc) x = true ∧ PySem.W.keepIn K (.ref f) = true ∧ mg x = some (.ref f)
theorem x_lam {T : List (Addr × Str)} {TT : (XK → Hp → VK → Prop) → Hp → VK → Prop} {t : XK → TE} {σ : L2.St} {H : Hp} {Q : VK} (h1 : Tabs T H) (h2 : ∀ H1, ExtN H H1 → Tabs T H1 → TT (fun E H' Q' => t E σ H' Q') H1 Q) : tLam T TT t σ H Q := ⟨h1, h2⟩
theorem x_rep {l : Addr} {xs : List V} {k : Int} {H : Hp} {Q : VK} (h : H l = some (.lst xs)) (k0 : 0 ≤ k) (k1 : k < 1000) (hz : xs.length * k.toNat ≤ sizeLine) (q : ∀ p, H p = none → Q (.ref p) (upd H p (.lst (List.replicate k.toNat xs).flatten))) : rRep (.ref l) (.int k) H Q := ⟨l, k, xs, rfl, rfl, h, by omega, by omega, hz, q⟩
theorem okL {P : Program} {w : World} {K : PySem.W.Frag} {mg : Str → Option Value} {base : Heap} {x : Str} {st : Stmt} {f cc : Addr} {N ps : List Str} {k : Nat} {sp : Sp} {oc : Value} {od an : Option Addr} {osl : Array (Option Value)} {kV doc pm ct : Value}
    (lk : K.lookup f = some ⟨oc, od, .func (PySem.W.fnOf x x (defArgs st) (defBody st) (defScope st) .none kV doc pm an (.ref cc) ct), osl⟩) (hcd : PySem.W.codeIn K (.ref cc) x = true) (S : FnScope N ps (defScope st)) (len : ∀ vs H Q E, sp vs H Q E → vs.length = ps.length)
    (hbody : ∀ (A : Around) (outer : List Env) (s : Shared) (H : Hp) (vs : List V) (Q : VK) (E : XK), Room k (A.deeper (envOfC x (defScope st) s.heap.objs.size f (.ref cc))) → sp vs H Q E →
      ∃ t, PSs (cxOf (L2N.CX P w) P w K mg base N x (defScope st) f (.ref cc) A outer s H E) (defBody st) t ∧ t { nx := fun _ H' => Q .non H', rt := Q } (L2.start N vs) H) :
    FnOk P w K mg base (L2N.CX P w) (k + 1) f (PySem.W.fnOf x x (defArgs st) (defBody st) (defScope st) .none kV doc pm an (.ref cc) ct) ps sp := fn_of lk hcd S len hbody
/-! ### loops -/
def rForR (g : TG) (tb : TS) (D : Ends) (σ : L2.St) (vs : List V) (H : Hp) : Prop := ∃ j : Int, vs = [.int j] ∧ -(2 ^ 62) ≤ j ∧ j < 2 ^ 62 ∧ ∃ W : Nat → Nat → L2.St → Hp → Prop, (∃ m, W 0 m σ H) ∧ ∀ i m σ H, W i m σ H →
  ((Itr 0 j.toNat).stop i H ∧ D.nx σ H) ∨ ((Itr 0 j.toNat).go i H ∧ ∃ N : L2.St → Hp → Prop, (∀ σ' H', N σ' H' → ∃ m', m' < m ∧ W (i + 1) m' σ' H') ∧ ∀ x H', (Itr 0 j.toNat).yld i H x H' → g x σ H' fun σ2 H2 => tb { D with nx := N, ct := N, bk := D.nx } σ2 H2)
def rForL (K : PySem.W.Frag) (g : TG) (tb : TS) (D : Ends) (σ : L2.St) (x : V) (H : Hp) : Prop := ∃ a, x = .ref a ∧ (∃ xs, SqL K H a xs) ∧ ∃ W : Nat → Nat → L2.St → Hp → Prop, (∃ m, W 0 m σ H) ∧ ∀ i m σ H, W i m σ H →
  ((Itl K a).stop i H ∧ D.nx σ H) ∨ ((Itl K a).go i H ∧ ∃ N : L2.St → Hp → Prop, (∀ σ' H', N σ' H' → ∃ m', m' < m ∧ W (i + 1) m' σ' H') ∧ ∀ x H', (Itl K a).yld i H x H' → g x σ H' fun σ2 H2 => tb { D with nx := N, ct := N, bk := D.nx } σ2 H2)
section
variable {K : PySem.W.Frag} {g : TG} {tb : TS} {D : Ends} {σ : L2.St} {H : Hp}
theorem x_forR {ta : TA} (k : ta σ H fun vs H1 => rForR g tb D σ vs H1) : tFor (iRng1 ta) g tb D σ H := k
theorem x_rforR {j : Int} (n : Nat) (e : j = n) (hn : n < 2 ^ 62) (Pv : Nat → L2.St → Hp → Prop) (h0 : Pv 0 σ H)
    (hs : ∀ (i : Nat) σ H, i < n → Pv i σ H → g (.int i) σ H fun σ2 H2 => tb { D with nx := Pv (i + 1), ct := Pv (i + 1), bk := D.nx } σ2 H2) (hd : ∀ σ H, Pv n σ H → D.nx σ H) : rForR g tb D σ [.int j] H := by
  subst e
  refine ⟨_, rfl, by omega, by omega, ?_⟩
  rw [Int.toNat_natCast]
  exact for_range Pv h0 (fun i σ H hi p => by rw [Int.zero_add]; exact hs i σ H hi p) hd
theorem x_forL {tl : TE} (k : tl σ H fun x H1 => rForL K g tb D σ x H1) : tFor (iList K tl) g tb D σ H := k
theorem x_rforL {a : Addr} (xs : List V) (Pv : Nat → L2.St → Hp → Prop) (h0 : Pv 0 σ H) (hl : ∀ i σ H, Pv i σ H → SqL K H a xs)
    (hs : ∀ i x σ H, xs[i]? = some x → Pv i σ H → g x σ H fun σ2 H2 => tb { D with nx := Pv (i + 1), ct := Pv (i + 1), bk := D.nx } σ2 H2) (hd : ∀ σ H, Pv xs.length σ H → D.nx σ H) : rForL K g tb D σ (.ref a) H :=
  ⟨a, rfl, ⟨xs, hl 0 _ _ h0⟩, for_list Pv h0 (fun i σ H _ p => hl i σ H p) hs hd⟩
end
theorem pickI (ls : List Int) (i : Int) (h0 : 0 ≤ i) (h1 : i < ls.length) : ∃ z ∈ ls, atI (ls.map V.int) i = some (.int z) := by
  have hlt : i.toNat < ls.length := by omega
  exact ⟨ls[i.toNat], List.getElem_mem hlt, atI_get h0 (by rw [List.getElem?_map, List.getElem?_eq_getElem hlt]; rfl)⟩
theorem szle {n : Nat} (h : n ≤ 100000) : n ≤ sizeLine := Nat.le_trans h (by decide)
theorem szlt {n : Nat} (h : n ≤ 100000) : n < sizeLine := Nat.lt_of_le_of_lt h (by decide)
theorem made_same {H : Hp} {x dx : Addr} {o : HO} (nx : H x = none) (nd : H dx = none) (ne : dx ≠ x) : Same H (upd (upd H dx (.own x)) x o) := fun b u e => by
  rw [upd_ne (ne_of_none e nx), upd_ne (ne_of_none e nd)]
  exact e
theorem not_t {A B : Prop} (k : B) : if (!true) = true then A else B := x_F k
theorem not_f {A B : Prop} (k : A) : if (!false) = true then A else B := x_T k
end Ws

set_option Elab.async false
set_option linter.all false
set_option maxRecDepth 100000
set_option maxHeartbeats 4000000
namespace Ws
open PySem PySem.Spec PyProof.Rows L2 HotX LamX
/-! ### targets of several names -/
section
variable {K : PySem.W.Frag} {σ : L2.St} {H : Hp} {R : L2.St → Hp → Prop} {t : TG} {u : TGs}
theorem x_gnil (k : R σ H) : gNil [] σ H R := ⟨rfl, k⟩
theorem x_gcons {v : V} {r : List V} (k : t v σ H fun σ' H' => u r σ' H' R) : gCons t u (v :: r) σ H R := ⟨v, r, rfl, k⟩
theorem x_gtup {n : Nat} {a : Addr} {xs : List V} (h : SqT K H a xs) (hn : xs.length = n) (k : u xs σ H R) : gTup K n u (.ref a) σ H R := ⟨a, xs, rfl, h, hn, k⟩
end
/-! ### for over enumerate(list) -/
def rForE (K : PySem.W.Frag) (g : TG) (tb : TS) (D : Ends) (σ : L2.St) (vs : List V) (H : Hp) : Prop := ∃ a xs, vs = [.ref a] ∧ SqL K H a xs ∧ ∃ W : Nat → Nat → L2.St → Hp → Prop, (∃ m, W 0 m σ H) ∧ ∀ i m σ H, W i m σ H →
  ((Ite K a).stop i H ∧ D.nx σ H) ∨ ((Ite K a).go i H ∧ ∃ N : L2.St → Hp → Prop, (∀ σ' H', N σ' H' → ∃ m', m' < m ∧ W (i + 1) m' σ' H') ∧ ∀ x H', (Ite K a).yld i H x H' → g x σ H' fun σ2 H2 => tb { D with nx := N, ct := N, bk := D.nx } σ2 H2)
section
variable {K : PySem.W.Frag} {g : TG} {tb : TS} {D : Ends} {σ : L2.St} {H : Hp}
theorem x_forE {ta : TA} (k : ta σ H fun vs H1 => rForE K g tb D σ vs H1) : tFor (iEnum K ta) g tb D σ H := k
theorem x_rforE {a : Addr} (xs : List V) (Pv : Nat → L2.St → Hp → Prop) (h0 : Pv 0 σ H) (hl : ∀ i σ H, Pv i σ H → SqL K H a xs)
    (hs : ∀ (i : Nat) x σ H T, xs[i]? = some x → Pv i σ H → H T = none → g (.ref T) σ (upd H T (.tup [.int i, x])) fun σ2 H2 => tb { D with nx := Pv (i + 1), ct := Pv (i + 1), bk := D.nx } σ2 H2) (hd : ∀ σ H, Pv xs.length σ H → D.nx σ H) : rForE K g tb D σ [.ref a] H := by
  refine ⟨a, xs, rfl, hl 0 _ _ h0, fun i m σ H => m = xs.length - i ∧ i ≤ xs.length ∧ Pv i σ H, ⟨xs.length, by simp, Nat.zero_le _, h0⟩, ?_⟩
  rintro i m σ H ⟨rfl, hi, p⟩
  have q := hl i σ H p
  by_cases hlt : i < xs.length
  · refine .inr ⟨⟨xs, xs[i], q, by simp [hlt]⟩, Pv (i + 1), fun σ' H' p' => ⟨xs.length - (i + 1), by omega, rfl, hlt, p'⟩, fun v H' y => ?_⟩
    obtain ⟨T, x, rfl, hT, rfl, hx⟩ := y
    exact hs i x σ H T (hx xs q) p hT
  · have e : i = xs.length := by omega
    subst e
    exact .inl ⟨⟨xs, q, Nat.le_refl _⟩, hd σ H p⟩
end
/-! ### comprehensions over a list, over a range -/
def LcOut (J : It) (g : TG) (tt : TT) (te : TE) (vs : List Nat) (σ : L2.St) (H1 : Hp) (Q : VK) : Prop := ∀ D, H1 D = none → ∃ W : Nat → Nat → Hp → Prop, (∃ m, W 0 m (upd H1 D (.lst []))) ∧ ∀ i m H, W i m H →
  (J.stop i H ∧ Q (.ref D) H) ∨ (J.go i H ∧ ∃ Nx : Hp → Prop, (∀ H', Nx H' → ∃ m', m' < m ∧ W (i + 1) m' H') ∧ ∀ x H', J.yld i H x H' → g x (wipe σ vs) H' fun σ2 H2 => wipe σ2 vs = wipe σ vs ∧ tt σ2 H2 fun b H3 =>
    if b = true then te σ2 H3 fun y H4 => ∃ acc, H4 D = some (.lst acc) ∧ acc.length < sizeLine ∧ Nx (upd H4 D (.lst (acc ++ [y]))) else Nx H3)
def rLcL (K : PySem.W.Frag) (g : TG) (tt : TT) (te : TE) (vs : List Nat) (σ : L2.St) (x : V) (H : Hp) (Q : VK) : Prop := ∃ a, x = .ref a ∧ (∃ xs, SqL K H a xs) ∧ LcOut (Itl K a) g tt te vs σ H Q
def rLcR (g : TG) (tt : TT) (te : TE) (vs : List Nat) (σ : L2.St) (xs : List V) (H : Hp) (Q : VK) : Prop := ∃ j : Int, xs = [.int j] ∧ -(2 ^ 62) ≤ j ∧ j < 2 ^ 62 ∧ LcOut (Itr 0 j.toNat) g tt te vs σ H Q
section
variable {K : PySem.W.Frag} {g : TG} {tt : TT} {te : TE} {vs : List Nat} {σ : L2.St} {H : Hp} {Q : VK}
theorem x_lcL {tl : TE} (k : tl σ H fun x H1 => rLcL K g tt te vs σ x H1 Q) : tLc (iList K tl) g tt te vs σ H Q := k
theorem x_lcR {ta : TA} (k : ta σ H fun xs H1 => rLcR g tt te vs σ xs H1 Q) : tLc (iRng1 ta) g tt te vs σ H Q := k
end
/-- all but the lists stay -/
def SameT (H H' : Hp) : Prop := ∀ b o, H b = some o → (∀ xs, o ≠ .lst xs) → H' b = some o
theorem same_t {H H' : Hp} (s : Same H H') : SameT H H' := fun b o e _ => s b o e
theorem sameT_upd {H : Hp} {D : Addr} {acc : List V} {o : HO} (h : H D = some (.lst acc)) : SameT H (upd H D o) := fun b u e n => by
  rw [upd_ne (ne_of e h (n acc))]
  exact e
/-- a comprehension's state at the turn i: the list at D holds acc -/
structure LcI (H : Hp) (R : Nat → List V → Hp → Prop) (D : Addr) (i : Nat) (acc : List V) (H1 : Hp) : Prop where
  new : H D = none
  same : Same H H1
  at_ : H1 D = some (.lst acc)
  len : acc.length ≤ i
  r : R i acc H1
def LcY (H : Hp) (R : Nat → List V → Hp → Prop) (D : Addr) (i : Nat) (y : V) (H4 : Hp) : Prop := ∃ acc, H4 D = some (.lst acc) ∧ acc.length < sizeLine ∧ ∃ acc', LcI H R D (i + 1) acc' (upd H4 D (.lst (acc ++ [y])))
def LcN (H : Hp) (R : Nat → List V → Hp → Prop) (D : Addr) (i : Nat) (H3 : Hp) : Prop := ∃ acc, LcI H R D (i + 1) acc H3
section
variable {K : PySem.W.Frag} {H H1 H4 : Hp} {R : Nat → List V → Hp → Prop} {D : Addr} {i : Nat} {acc : List V} {y : V}
theorem LcI.add (I : LcI H R D i acc H1) (hR : ∀ i acc H1 H2, SameT H1 H2 → R i acc H1 → R i acc H2) (hz : i < sizeLine) (s : Same H1 H4) (r : R (i + 1) (acc ++ [y]) H4) : LcY H R D i y H4 := by
  have h4 := s _ _ I.at_
  refine ⟨acc, h4, Nat.lt_of_le_of_lt I.len hz, acc ++ [y], I.new, fun b o e => ?_, upd_same, by rw [List.length_append]; exact Nat.succ_le_succ I.len, hR _ _ _ _ (sameT_upd h4) r⟩
  rw [upd_ne (ne_of_none e I.new)]
  exact s _ _ (I.same _ _ e)
theorem LcI.skip (I : LcI H R D i acc H1) (s : Same H1 H4) (r : R (i + 1) acc H4) : LcN H R D i H4 := ⟨acc, I.new, I.same.trans s, s _ _ I.at_, Nat.le_succ_of_le I.len, r⟩
variable {g : TG} {tt : TT} {te : TE} {vs : List Nat} {σ : L2.St} {Q : VK}
theorem x_rlcL {a : Addr} {xs : List V} (hS : SqL K H a xs) (R : Nat → List V → Hp → Prop) (h0 : ∀ H1, SameT H H1 → R 0 [] H1)
    (hs : ∀ D i x acc H1, xs[i]? = some x → LcI H R D i acc H1 → g x (wipe σ vs) H1 fun σ2 H2 => wipe σ2 vs = wipe σ vs ∧ tt σ2 H2 fun b H3 => if b = true then te σ2 H3 fun y H4 => LcY H R D i y H4 else LcN H R D i H3)
    (hd : ∀ p H1 acc, H p = none → Same H H1 → H1 p = some (.lst acc) → R xs.length acc H1 → Q (.ref p) H1) : rLcL K g tt te vs σ (.ref a) H Q := by
  refine ⟨a, rfl, ⟨xs, hS⟩, fun D hD => lc_list (xs := xs) (fun i H1 => ∃ acc, LcI H R D i acc H1) ⟨[], hD, same_upd hD, upd_same, Nat.le_refl _, h0 _ (same_t (same_upd hD))⟩ (fun i H1 _ ⟨acc, I⟩ => I.same.seq hS) (fun i x H1 hx ⟨acc, I⟩ => hs D i x acc H1 hx I) fun H1 ⟨acc, I⟩ => hd D H1 acc I.new I.same I.at_ I.r⟩
theorem x_rlcR {j : Int} (n : Nat) (e : j = n) (hn : n < 2 ^ 62) (R : Nat → List V → Hp → Prop) (h0 : ∀ H1, SameT H H1 → R 0 [] H1)
    (hs : ∀ D (i : Nat) acc H1, i < n → LcI H R D i acc H1 → g (.int i) (wipe σ vs) H1 fun σ2 H2 => wipe σ2 vs = wipe σ vs ∧ tt σ2 H2 fun b H3 => if b = true then te σ2 H3 fun y H4 => LcY H R D i y H4 else LcN H R D i H3)
    (hd : ∀ p H1 acc, H p = none → Same H H1 → H1 p = some (.lst acc) → R n acc H1 → Q (.ref p) H1) : rLcR g tt te vs σ [.int j] H Q := by
  subst e
  refine ⟨_, rfl, by omega, by omega, fun D hD => ?_⟩
  rw [Int.toNat_natCast]
  refine ⟨fun i m H1 => m = n - i ∧ i ≤ n ∧ ∃ acc, LcI H R D i acc H1, ⟨n, by simp, Nat.zero_le _, [], hD, same_upd hD, upd_same, Nat.le_refl _, h0 _ (same_t (same_upd hD))⟩, ?_⟩
  rintro i m H1 ⟨rfl, hi, acc, I⟩
  by_cases hlt : i < n
  · refine .inr ⟨hlt, LcN H R D i, fun H' ⟨acc', I'⟩ => ⟨n - (i + 1), by omega, rfl, hlt, acc', I'⟩, fun x H' y => ?_⟩
    obtain ⟨rfl, rfl⟩ := y
    rw [Int.zero_add]
    exact hs D i acc _ hlt I
  · have e : i = n := by omega
    subst e
    exact .inl ⟨Nat.le_refl _, hd D H1 acc I.new I.same I.at_ I.r⟩
theorem x_yes {R : Bool → Hp → Prop} (k : R true H) : tYes σ H R := k
theorem x_and {A B : Prop} (a : A) (b : B) : A ∧ B := ⟨a, b⟩
/-! ### slices -/
theorem x_slL {a : Addr} {xs : List V} {lo hi : Option Int} (h : SqL K H a xs) (k : ∀ p, H p = none → Q (.ref p) (upd H p (.lst (cutV xs lo hi)))) : rSlL K (.ref a) lo hi H Q := ⟨a, xs, rfl, h, k⟩
theorem cut_to (xs : List V) {i : Int} (h : 0 ≤ i) : cutV xs none (some i) = xs.take i.toNat := by
  obtain ⟨n, rfl⟩ := Int.eq_ofNat_of_zero_le h
  unfold cutV
  rw [HT.sIx_none, HT.sIx_nat, List.drop_zero, Nat.sub_zero, Int.toNat_natCast]
  by_cases hn : n ≤ xs.length
  · rw [Nat.min_eq_left hn]
  · rw [Nat.min_eq_right (by omega), List.take_of_length_le (Nat.le_refl _), List.take_of_length_le (by omega)]
theorem cut_from (xs : List V) {i : Int} (h : 0 ≤ i) : cutV xs (some i) none = xs.drop i.toNat := by
  obtain ⟨n, rfl⟩ := Int.eq_ofNat_of_zero_le h
  unfold cutV
  rw [HT.sIx_none, HT.sIx_nat, Int.toNat_natCast]
  rw [List.take_of_length_le (by rw [List.length_drop]; omega)]
  by_cases hn : n ≤ xs.length
  · rw [Nat.min_eq_left hn]
  · rw [Nat.min_eq_right (by omega), List.drop_of_length_le (Nat.le_refl _), List.drop_of_length_le (by omega)]
theorem cut_mid (xs : List V) {i j : Int} (h : 0 ≤ i) (h2 : i ≤ j) : cutV xs (some i) (some j) = (xs.drop i.toNat).take (j - i).toNat := by
  obtain ⟨n, rfl⟩ := Int.eq_ofNat_of_zero_le h
  obtain ⟨m, rfl⟩ := Int.eq_ofNat_of_zero_le (Int.le_trans h h2)
  unfold cutV
  rw [HT.sIx_nat, HT.sIx_nat, Int.toNat_natCast]
  have e : ((m : Int) - (n : Int)).toNat = m - n := by omega
  rw [e]
  by_cases hn : n ≤ xs.length
  · rw [Nat.min_eq_left hn]
    by_cases hm : m ≤ xs.length
    · rw [Nat.min_eq_left hm]
    · rw [Nat.min_eq_right (by omega), List.take_of_length_le (by rw [List.length_drop]; omega), List.take_of_length_le (by rw [List.length_drop]; omega)]
  · rw [List.drop_of_length_le (i := n) (by omega), List.drop_of_length_le (by omega)]
    simp
def rRevL (K : PySem.W.Frag) : V → Hp → VK → Prop := fun x H Q => ∃ a xs, x = .ref a ∧ SqL K H a xs ∧ ∀ p, H p = none → Q (.ref p) (upd H p (.lst xs.reverse))
theorem x_revL {ta : TE} (k : ta σ H fun x H1 => rRevL K x H1 Q) : tRevL K ta σ H Q := k
theorem x_rrevL {a : Addr} {xs : List V} (h : SqL K H a xs) (k : ∀ p, H p = none → Q (.ref p) (upd H p (.lst xs.reverse))) : rRevL K (.ref a) H Q := ⟨a, xs, rfl, h, k⟩
def rIsNt : R2 := fun x y H Q => y = .non ∧ Q (.bl (!decide (x = .non))) H
theorem o_notN {X : Cx} : OpR X (compareOp .IsNot) rIsNt := op_notN
theorem x_notN {x : V} (k : Q (.bl (!decide (x = .non))) H) : rIsNt x .non H Q := ⟨rfl, k⟩
def rIsNo : R2 := fun x y H Q => y = .non ∧ Q (.bl (decide (x = .non))) H
theorem o_isN {X : Cx} : OpR X (compareOp .Is) rIsNo := op_isN
theorem x_isN {x : V} (k : Q (.bl (decide (x = .non))) H) : rIsNo x .non H Q := ⟨rfl, k⟩
theorem x_all {a : Addr} {bs : List Bool} (h : SqL K H a (bs.map V.bl)) (k : Q (.bl (bs.all id)) H) : rAll K [.ref a] H Q := ⟨a, bs, rfl, h, k⟩
theorem x_any {a : Addr} {bs : List Bool} (h : SqL K H a (bs.map V.bl)) (k : Q (.bl (bs.any id)) H) : rAny K [.ref a] H Q := ⟨a, bs, rfl, h, k⟩
end
theorem pickV (xs : List V) (i : Int) (h0 : 0 ≤ i) (h1 : i < xs.length) : ∃ v ∈ xs, atI xs i = some v := by
  have hlt : i.toNat < xs.length := by omega
  exact ⟨xs[i.toNat], List.getElem_mem hlt, atI_get h0 (List.getElem?_eq_getElem hlt)⟩
theorem take_snoc {α : Type} {xs : List α} {i : Nat} {x : α} (h : xs[i]? = some x) : xs.take (i + 1) = xs.take i ++ [x] := by
  obtain ⟨hlt, e⟩ := List.getElem?_eq_some_iff.mp h
  rw [List.take_add_one, h]
  rfl
end Ws

set_option Elab.async false
set_option linter.all false
set_option maxRecDepth 100000
set_option maxHeartbeats 4000000
namespace Ws
open PySem PySem.Spec PyProof.Rows L2 HotX LamX
/-! ### the rules, the written part named -/
section
variable {X : Cx} (K : PySem.W.Frag)
theorem kx_list (h : X.K = K := by rfl) : IxR X (rIxL K) := by subst h; exact ix_list
theorem kx_tup (h : X.K = K := by rfl) : IxR X (rIxT K) := by subst h; exact ix_tup
theorem ks_list (h : X.K = K := by rfl) : SlR X (rSlL K) := by subst h; exact sl_list
theorem kc_len (h : X.K = K := by rfl) : CallR X (.builtin "len") (rLn K) := by subst h; exact c_len
theorem kc_sum (hc : X.calm = true) (h : X.K = K := by rfl) : CallR X (.builtin "sum") (rSum K) := by subst h; exact cr_sum hc
theorem kc_all (hc : X.calm = true) (h : X.K = K := by rfl) : CallR X (.builtin "all") (rAll K) := by subst h; exact cr_all hc
theorem kc_any (hc : X.calm = true) (h : X.K = K := by rfl) : CallR X (.builtin "any") (rAny K) := by subst h; exact cr_any hc
theorem kc_tuple (h : X.K = K := by rfl) : CallR X (.type "tuple") (rTpl K) := by subst h; exact c_tuple
theorem kc_list (h : X.K = K := by rfl) : CallR X (.type "list") (rLsO K) := by subst h; exact c_list
theorem kc_isi (h : X.K = K := by rfl) : CallR X (.builtin "isinstance") (rIsi K) := by subst h; exact call_isi
theorem kc_isiT (h : X.K = K := by rfl) : CallR X (.builtin "isinstance") (rIsiT K) := by subst h; exact call_isiT
theorem kc_sorted (h : X.K = K := by rfl) : CallR X (.builtin "sorted") (rSortedI K) := by subst h; exact cr_sortedI
theorem ko_eqD (hu : X.A.units + 64 < cLine) (h : X.K = K := by rfl) : OpR X (compareOp .Eq) (rEqD K) := by subst h; exact op_eqD hu
theorem ko_neD (hu : X.A.units + 64 < cLine) (h : X.K = K := by rfl) : OpR X (compareOp .NotEq) (rNeD K) := by subst h; exact op_neD hu
theorem ko_in (h : X.K = K := by rfl) : OpR X (compareOp .In) (rIn K false) := by subst h; exact op_in_seq
theorem ko_notIn (h : X.K = K := by rfl) : OpR X (compareOp .NotIn) (rIn K true) := by subst h; exact op_notIn_seq
theorem km_index (h : X.K = K := by rfl) : MtR X "list.index" (rIndex K) := by subst h; exact mt_index
theorem k_fld {e : Expr} {f : Str} {pos : Pos} {ta : TE} (he : PE X e ta) (hb : attributeBase e f X.env (eval e X.env) = eval e X.env := by rfl) (h : X.K = K := by rfl) : PE X (.Attribute e f pos) (tFld K ta f) := by subst h; exact pe_fld he hb
theorem k_setf {o value : Expr} {f : Str} {pos pos' : Pos} {ta tv : TE} (ha : PE X o ta) (hv : PE X value tv) (hs : swapsWith value (some (.Attribute o f pos')) pos.line X.env = pure false := by rfl) (h : X.K = K := by rfl) : PS X (.Assign [.Attribute o f pos'] value pos) (sFld K ta tv f) := by subst h; exact ps_fld ha hv hs
theorem ki_list {tg l : Expr} {tl : TE} (hl : PE X l tl) (h : X.K = K := by rfl) : PI X tg l (iList K tl) := by subst h; exact pi_list hl
theorem ki_tup {tg l : Expr} {tl : TE} (hl : PE X l tl) (h : X.K = K := by rfl) : PI X tg l (iTup K tl) := by subst h; exact pi_tup hl
theorem ki_enum {e : Expr} {ta : TA} {p pos tpos : Pos} {elts : List Expr} {kk : Nat} (hm : X.mg "enumerate" = none) (ha : PA X [e] ta) (hg : Gl X "enumerate" := by rfl) (h : X.K = K := by rfl) (hs : starEach [e] X.env = [(false, eval e X.env)] := by rfl) :
    PI X (.Tuple elts kk tpos) (.Call (.Name "enumerate" p) [e] [] pos) (iEnum K ta) := by subst h; exact pi_enum hg hm ha hs
theorem kg_tup {es : List Expr} {k : Nat} {t : TGs} {n : Nat} {pos : Pos} (hc : X.calm = true) (h : PGs X es t) (hK : X.K = K := by rfl) (hn : (assignEach es X.env).length = n := by rfl) (hst : (assignEach es X.env).findIdx? (·.1) = none := by rfl) : PG X (.Tuple es k pos) (gTup K n t) := by subst hK; exact pg_tup hc h hn hst
theorem k_rev {e : Expr} {te : TE} {k : Nat} {p1 p2 p3 pos : Pos} (he : PE X e te) (h : X.K = K := by rfl) : PE X (.Subscript e (.Slice none none (some (.UnaryOp .USub (.Constant (.int 1) k p1) p2)) p3) pos) (tRevL K te) := by subst h; exact pe_revL he
theorem q_range {tg a : Expr} {ta : TA} {p pos : Pos} (hm : X.mg "range" = none) (ha : PA X [a] ta) (hg : Gl X "range" := by rfl) (hs : starEach [a] X.env = [(false, eval a X.env)] := by rfl) : PI X tg (.Call (.Name "range" p) [a] [] pos) (iRng1 ta) := pi_range1 hg hm ha hs
theorem k_bm {T id : String} {name : Str} {r : V → List V → Hp → VK → Prop} {o e : Expr} {es : List Expr} {to : TE} {t : TA} {apos cpos : Pos} (pa : PlainAttrs T) (slot : Slot T name id) (hty : typeOf (.builtin id) = pure (.type "method_descriptor")) (hm : MtR X id r) (ho : PE X o to) (ha : PA X (e :: es) t) (h : X.K = K := by rfl)
    (hbase : attributeBase o name X.env (eval o X.env) = eval o X.env := by rfl)
    (hfew : ((backTo cpos (starEach (e :: es) X.env)).all (fun x => !x.1) && (backToKw cpos (keywordEach [] X.env)).all (fun x => x.1.isSome) && decide ((e :: es).length + ([] : List Keyword).length + (if ([] : List Keyword).isEmpty then 0 else 1) < 30)) = true := by rfl)
    (hline : (apos.endLine == cpos.line) = true := by rfl) (hs : starEach (e :: es) X.env = (false, eval e X.env) :: starEach es X.env := by rfl) (hplain : (backTo cpos (starEach es X.env)).any (·.1) = false := by rfl) :
    PE X (.Call (.Attribute o name apos) (e :: es) [] cpos) (tBM K T r to t) := by subst h; exact pe_bm pa slot hty hm ho ha hbase hfew hline hs hplain
end
end Ws

set_option Elab.async false
set_option linter.all false
set_option maxRecDepth 100000
set_option maxHeartbeats 4000000
namespace Ws
open PySem PySem.Spec PyProof.Rows L2 HotX LamX
/-! ### dicts: their readings step by step -/
section
variable {K : PySem.W.Frag} {w : World} {σ : L2.St} {H : Hp} {Q : VK} {D : Ends}
def rDGet : V → V → Hp → VK → Prop := fun x y H Q => ∃ a v, x = .ref a ∧ DGet H a y (some v) ∧ Q v H
theorem x_dget {td ty : TE} (k : td σ H fun x H1 => ty σ H1 fun y H2 => rDGet x y H2 Q) : tDGet td ty σ H Q := k
theorem x_rdgetS {a : Addr} {kvs : List (Key × V)} {s : Str} {v : V} (h : H a = some (.dK kvs)) (e : valV kvs (Sum.inr s) = some v) (q : Q v H) : rDGet (.ref a) (.str s) H Q := ⟨a, v, rfl, .inl ⟨kvs, .inr s, .inl h, rfl, e.symm⟩, q⟩
theorem x_rdgetI {a : Addr} {kvs : List (Key × V)} {s : Int} {v : V} (h : H a = some (.dK kvs)) (e : valV kvs (Sum.inl s) = some v) (q : Q v H) : rDGet (.ref a) (.int s) H Q := ⟨a, v, rfl, .inl ⟨kvs, .inl s, .inl h, rfl, e.symm⟩, q⟩
def rDPut : V → V → V → Hp → (Hp → Prop) → Prop := fun x y v H R => ∃ a H', x = .ref a ∧ DPut H a y v H' ∧ R H'
theorem x_sdput {td ty tv : TE} (k : tv σ H fun v H1 => td σ H1 fun x H2 => ty σ H2 fun y H3 => rDPut x y v H3 (D.nx σ)) : sDPut td ty tv D σ H := k
theorem x_rdputS {a : Addr} {kvs : List (Key × V)} {s : Str} {v : V} {R : Hp → Prop} (h : H a = some (.dK kvs)) (hz : kvs.length < sizeLine) (q : R (upd H a (.dK (putK kvs (Sum.inr s) v)))) : rDPut (.ref a) (.str s) v H R := ⟨a, _, rfl, .inl ⟨kvs, .inr s, h, rfl, hz, rfl⟩, q⟩
theorem x_rdputI {a : Addr} {kvs : List (Key × V)} {s : Int} {v : V} {R : Hp → Prop} (h : H a = some (.dK kvs)) (hz : kvs.length < sizeLine) (q : R (upd H a (.dK (putK kvs (Sum.inl s) v)))) : rDPut (.ref a) (.int s) v H R := ⟨a, _, rfl, .inl ⟨kvs, .inl s, h, rfl, hz, rfl⟩, q⟩
theorem x_gsub {to ti : TE} {t : TSet} {v : V} {R : L2.St → Hp → Prop} (k : to σ H fun o H1 => ti σ H1 fun i H2 => t o i v H2 fun H3 => R σ H3) : gSub to ti t v σ H R := k
theorem x_setD {x y v : V} {R : Hp → Prop} (k : rDPut x y v H R) : rSetD x y v H R := k
theorem x_disp {trs : List (TE × TE)} (k : ∀ p, H p = none → tPairs trs σ (upd H p (.dK [])) fun ps H2 => H2 p = some (.dK []) ∧ ∃ kvs : List (Key × V), ps = kvs.map (fun kv => (kV kv.1, kv.2)) ∧ kvs.length ≤ 15 ∧ Q (.ref p) (upd H2 p (.dK (mergeK [] kvs)))) : tDisp trs σ H Q := k
theorem x_pcons {tk tv : TE} {r : List (TE × TE)} {R : List (V × V) → Hp → Prop} (k : tk σ H fun x H1 => tv σ H1 fun y H2 => tPairs r σ H2 fun ps H3 => R ((x, y) :: ps) H3) : tPairs ((tk, tv) :: r) σ H R := k
theorem x_pnil {R : List (V × V) → Hp → Prop} (k : R [] H) : tPairs [] σ H R := k
/-! what a dict of the written part holds -/
theorem kx_kd {X : Cx} (K : PySem.W.Frag) (w : World) (h : X.K = K := by rfl) (h' : X.w = w := by rfl) : IxR X (rIxD K w) := by subst h; subst h'; exact ix_kdict
theorem x_ixKD {p : Addr} {z : Str} {v : V} (h : KDct K w p z v) (k : Q v H) : rIxD K w (.ref p) (.str z) H Q := ⟨p, z, v, rfl, rfl, h, k⟩
/-! `in` a tuple or list of texts, of numbers -/
theorem inV_strs (x : Str) (ys : List Str) : inV (.str x) (ys.map V.str) = decide (x ∈ ys) := by
  unfold inV
  induction ys with
  | nil => simp
  | cons y r ih =>
    rw [List.map_cons, List.any_cons, ih]
    show ((y == x) || _) = _
    by_cases e : x = y
    · subst e; simp
    · have e' : ¬ y = x := fun z => e z.symm
      simp [e, e']
theorem inV_ints (x : Int) (ys : List Int) : inV (.int x) (ys.map V.int) = decide (x ∈ ys) := by
  unfold inV
  induction ys with
  | nil => simp
  | cons y r ih =>
    rw [List.map_cons, List.any_cons, ih]
    show ((y == x) || _) = _
    by_cases e : x = y
    · subst e; simp
    · have e' : ¬ y = x := fun z => e z.symm
      simp [e, e']
theorem flat_strs (ys : List Str) : (ys.map V.str).all flatV = true := by rw [List.all_eq_true]; intro v h; obtain ⟨s, _, rfl⟩ := List.mem_map.mp h; rfl
theorem flat_ints (ys : List Int) : (ys.map V.int).all flatV = true := by rw [List.all_eq_true]; intro v h; obtain ⟨s, _, rfl⟩ := List.mem_map.mp h; rfl
theorem x_inTS {p : Addr} (ys : List Str) {x : Str} (h : SqT K H p (ys.map V.str)) (k : Q (.bl (decide (x ∈ ys))) H) : rIn K false (.str x) (.ref p) H Q := ⟨p, _, rfl, .inr h, rfl, flat_strs ys, by rw [inV_strs]; exact k⟩
theorem x_ninTS {p : Addr} (ys : List Str) {x : Str} (h : SqT K H p (ys.map V.str)) (k : Q (.bl (!decide (x ∈ ys))) H) : rIn K true (.str x) (.ref p) H Q := ⟨p, _, rfl, .inr h, rfl, flat_strs ys, by rw [inV_strs]; exact k⟩
theorem x_inLI {p : Addr} (ys : List Int) {x : Int} (h : SqL K H p (ys.map V.int)) (k : Q (.bl (decide (x ∈ ys))) H) : rIn K false (.int x) (.ref p) H Q := ⟨p, _, rfl, .inl h, rfl, flat_ints ys, by rw [inV_ints]; exact k⟩
theorem x_ninLI {p : Addr} (ys : List Int) {x : Int} (h : SqL K H p (ys.map V.int)) (k : Q (.bl (!decide (x ∈ ys))) H) : rIn K true (.int x) (.ref p) H Q := ⟨p, _, rfl, .inl h, rfl, flat_ints ys, by rw [inV_ints]; exact k⟩
theorem x_inTI {p : Addr} (ys : List Int) {x : Int} (h : SqT K H p (ys.map V.int)) (k : Q (.bl (decide (x ∈ ys))) H) : rIn K false (.int x) (.ref p) H Q := ⟨p, _, rfl, .inr h, rfl, flat_ints ys, by rw [inV_ints]; exact k⟩
theorem x_ninTI {p : Addr} (ys : List Int) {x : Int} (h : SqT K H p (ys.map V.int)) (k : Q (.bl (!decide (x ∈ ys))) H) : rIn K true (.int x) (.ref p) H Q := ⟨p, _, rfl, .inr h, rfl, flat_ints ys, by rw [inV_ints]; exact k⟩
theorem ko_catT {X : Cx} (K : PySem.W.Frag) (h : X.K = K := by rfl) : OpR X (binaryOp .Add) (rCatT K) := by subst h; exact op_catT
theorem x_catT {a b : Addr} {xs ys : List V} (h1 : SqT K H a xs) (h2 : SqT K H b ys) (n1 : xs ≠ []) (n2 : ys ≠ []) (hz : xs.length + ys.length ≤ sizeLine) (k : ∀ p, H p = none → Q (.ref p) (upd H p (.tup (xs ++ ys)))) : rCatT K (.ref a) (.ref b) H Q := ⟨a, b, xs, ys, rfl, rfl, h1, h2, n1, hz, fun e => absurd e n2, fun _ => k⟩
end
end Ws

set_option Elab.async false
set_option linter.all false
set_option maxRecDepth 100000
set_option maxHeartbeats 4000000
namespace Ws
open PySem PySem.Spec PyProof.Rows L2 HotX LamX
/-! ### the joining of ways within a test, within an expression -/
def tTMid (t : TT) : TT := fun σ H R => ∃ M : Bool → Hp → Prop, t σ H M ∧ ∀ b H', M b H' → R b H'
theorem pt_mid {X : Cx} {e : Expr} {t : TT} (h : PT X e t) : PT X e (tTMid t) := ⟨fun pins s σ H Q I z => by
  obtain ⟨M, hm, hk⟩ := z
  refine thn (h.run pins s σ H M I hm) fun b s1 q => ?_
  obtain ⟨H', I', q⟩ := q
  exact ⟨H', I', hk b H' q⟩⟩
theorem x_tmid {t : TT} {σ : L2.St} {H : Hp} {R : Bool → Hp → Prop} (M : Bool → Hp → Prop) (h1 : t σ H M) (h2 : ∀ b H', M b H' → R b H') : tTMid t σ H R := ⟨M, h1, h2⟩
def tEMid (t : TE) : TE := fun σ H Q => ∃ M : VK, t σ H M ∧ ∀ v H', M v H' → Q v H'
theorem pe_mid {X : Cx} {e : Expr} {t : TE} (h : PE X e t) : PE X e (tEMid t) := ⟨fun pins s σ H Q I z => by
  obtain ⟨M, hm, hk⟩ := z
  refine thn (h.run pins s σ H M I hm) fun b s1 q => ?_
  obtain ⟨v, H', I', r, q⟩ := q
  exact ⟨v, H', I', r, hk v H' q⟩⟩
theorem x_emid {t : TE} {σ : L2.St} {H : Hp} {Q : VK} (M : VK) (h1 : t σ H M) (h2 : ∀ v H', M v H' → Q v H') : tEMid t σ H Q := ⟨M, h1, h2⟩
theorem x_cont {D : Ends} {σ : L2.St} {H : Hp} (k : D.ct σ H) : tCont D σ H := k
theorem x_popAt {l : Addr} {xs : List V} {i : Int} {k : Nat} {y : V} {H : Hp} {Q : VK} (h : H l = some (.lst xs)) (i0 : -(2 ^ 63) ≤ i) (i1 : i < 2 ^ 63) (e : seqIndex? i xs.length = some k) (hy : xs[k]? = some y) (q : Q y (upd H l (.lst (xs.eraseIdx k)))) : rPopAt (.ref l) [.int i] H Q := ⟨l, xs, i, k, y, rfl, rfl, h, i0, i1, e, hy, q⟩
theorem x_pop {l : Addr} {xs : List V} {y : V} {H : Hp} {Q : VK} (h : H l = some (.lst xs)) (hy : xs[xs.length - 1]? = some y) (q : Q y (upd H l (.lst xs.dropLast))) : rPop (.ref l) [] H Q := ⟨l, xs, y, rfl, rfl, h, hy, q⟩
def rDGet2 : Addr → V → V → Hp → VK → Prop := fun a y z H Q => ∃ o, DGet H a y o ∧ Q (o.getD z) H
theorem x_dget2 {td ty tx : TE} {σ : L2.St} {H : Hp} {Q : VK} (k : td σ H fun x H1 => ∃ a, x = .ref a ∧ IsD H1 a ∧ ty σ H1 fun y H2 => tx σ H2 fun z H3 => rDGet2 a y z H3 Q) : tDGet2 td ty tx σ H Q := k
theorem x_rdget2S {a : Addr} {kvs : List (Key × V)} {s : Str} {z : V} {H : Hp} {Q : VK} (h : H a = some (.dK kvs)) (q : Q ((valV kvs (Sum.inr s)).getD z) H) : rDGet2 a (.str s) z H Q := ⟨_, .inl ⟨kvs, .inr s, .inl h, rfl, rfl⟩, q⟩
theorem tyL {K : PySem.W.Frag} {H : Hp} {a : Addr} {xs : List V} (h : H a = some (.lst xs)) : tyV K "list" (.ref a) H := Or.inl ⟨rfl, _, SqL.of h⟩
end Ws

set_option Elab.async false
set_option linter.all false
set_option maxRecDepth 100000
set_option maxHeartbeats 4000000
namespace Ws
open PySem PySem.Spec PyProof.Rows L2 HotX LamX
/-! ### either of two readings -/
def rOr (r1 r2 : R2) : R2 := fun x y H Q => r1 x y H Q ∨ r2 x y H Q
theorem ix_or {X : Cx} {r1 r2 : R2} (h1 : IxR X r1) (h2 : IxR X r2) : IxR X (rOr r1 r2) := fun value slice pins s σ H x y v u Q I rv ru r e => by
  rcases r with r | r
  · exact h1 value slice pins s σ H x y v u Q I rv ru r e
  · exact h2 value slice pins s σ H x y v u Q I rv ru r e
theorem op_or {X : Cx} {f : Value → Value → Sem Value} {r1 r2 : R2} (h1 : OpR X f r1) (h2 : OpR X f r2) : OpR X f (rOr r1 r2) := fun pins s σ H x y v u Q I rv ru r => by
  rcases r with r | r
  · exact h1 pins s σ H x y v u Q I rv ru r
  · exact h2 pins s σ H x y v u Q I rv ru r
def rOr1 (r1 r2 : List V → Hp → VK → Prop) : List V → Hp → VK → Prop := fun xs H Q => r1 xs H Q ∨ r2 xs H Q
theorem cr_or {X : Cx} {f : Value} {r1 r2 : List V → Hp → VK → Prop} (h1 : CallR X f r1) (h2 : CallR X f r2) : CallR X f (rOr1 r1 r2) := fun pins s σ H xs us Q I rv r => by
  rcases r with r | r
  · exact h1 pins s σ H xs us Q I rv r
  · exact h2 pins s σ H xs us Q I rv r
def rOrS (r1 r2 : V → Option Int → Option Int → Hp → VK → Prop) : V → Option Int → Option Int → Hp → VK → Prop := fun x l h H Q => r1 x l h H Q ∨ r2 x l h H Q
theorem sl_or {X : Cx} {r1 r2 : V → Option Int → Option Int → Hp → VK → Prop} (h1 : SlR X r1) (h2 : SlR X r2) : SlR X (rOrS r1 r2) := fun pins s σ H x v vl vu lo hi sl Q I rv hs p1 p2 r => by
  rcases r with r | r
  · exact h1 pins s σ H x v vl vu lo hi sl Q I rv hs p1 p2 r
  · exact h2 pins s σ H x v vl vu lo hi sl Q I rv hs p1 p2 r
theorem kx_seq {X : Cx} (K : PySem.W.Frag) (h : X.K = K := by rfl) : IxR X (rOr (rIxL K) (rIxT K)) := ix_or (kx_list K h) (kx_tup K h)
/-! ### a row: a list or a tuple -/
def Row (K : PySem.W.Frag) (H : Hp) (a : Addr) (xs : List V) : Prop := SqL K H a xs ∨ SqT K H a xs
section
variable {K : PySem.W.Frag} {H H' : Hp} {Q : VK} {a : Addr} {xs : List V}
theorem sql_same (s : Same H H') (h : SqL K H a xs) : SqL K H' a xs := by
  rcases h with (h | ⟨o, h⟩) | h
  · exact .inl (.inl (s _ _ h))
  · exact .inl (.inr ⟨o, s _ _ h⟩)
  · exact .inr h
theorem sqt_same (s : Same H H') (h : SqT K H a xs) : SqT K H' a xs := by
  rcases h with (h | ⟨o, h⟩) | h
  · exact .inl (.inl (s _ _ h))
  · exact .inl (.inr ⟨o, s _ _ h⟩)
  · exact .inr h
theorem Row.same (s : Same H H') (h : Row K H a xs) : Row K H' a xs := h.elim (fun h => .inl (sql_same s h)) (fun h => .inr (sqt_same s h))
theorem tyx_sql (h : SqL K H a xs) : TyX K H (.ref a) (.type "list") := by
  rcases h with (h | ⟨o, h⟩) | ⟨o, its, n, h, hc, _⟩
  · exact .base (.lst h)
  · exact .base (.frz h)
  · exact .kList h hc
theorem tyx_sqt (h : SqT K H a xs) : TyX K H (.ref a) (.type "tuple") := by
  rcases h with (h | ⟨o, h⟩) | ⟨o, its, n, h, hc, _⟩
  · exact .base (.tup h)
  · exact .fTuple h
  · exact .kTuple h hc
theorem tyx_same {v : V} {t : Value} (s : Same H H') (h : TyX K H v t) : TyX K H' v t := by
  cases h with
  | base h =>
    refine .base ?_
    cases h with
    | non => exact .non
    | bl x => exact .bl x
    | int x => exact .int x
    | str x => exact .str x
    | flt x => exact .flt x
    | lst h => exact .lst (s _ _ h)
    | frz h => exact .frz (s _ _ h)
    | tup h => exact .tup (s _ _ h)
    | dK h => exact .dK (s _ _ h)
    | dT h => exact .dT (s _ _ h)
    | ins h h1 h2 h3 h4 h5 => exact .ins (s _ _ h) h1 h2 h3 h4 h5
  | byt b => exact .byt b
  | set h => exact .set (s _ _ h)
  | kList h1 h2 => exact .kList h1 h2
  | kTuple h1 h2 => exact .kTuple h1 h2
  | kDict h1 h2 => exact .kDict h1 h2
  | fTuple h => exact .fTuple (s _ _ h)
  | fDict h => exact .fDict (s _ _ h)
theorem Ty7.same {v : V} (s : Same H H') (h : Ty7 K H v) : Ty7 K H' v := by
  obtain ⟨T, h1, h2⟩ := h
  exact ⟨T, h1, tyx_same s h2⟩
theorem kit_lt {T : String} (h : T ∈ tyN) : PySem.W.kitAny K (.type T) [.type "list", .type "tuple"] = some (T == "list" || T == "tuple") := by
  have h1 := kit_ty (K := K) (kb_list T h)
  have h2 := kit_ty (K := K) (kb_tuple T h)
  unfold PySem.W.kitAny
  rw [h1]
  cases e : (T == "list") with
  | true => rfl
  | false =>
    show (match some false with | some true => some true | some false => PySem.W.kitAny K (.type T) [.type "tuple"] | none => none) = _
    show PySem.W.kitAny K (.type T) [.type "tuple"] = _
    unfold PySem.W.kitAny
    rw [h2]
    cases e2 : (T == "tuple") with
    | true => rfl
    | false => rfl
theorem x_isLT {v : V} {T : String} {tp : Addr} (h : T ∈ tyN) (ht : TyX K H v (.type T)) (hp : H tp = some (.tup [.ty "list", .ty "tuple"])) (q : Q (.bl (T == "list" || T == "tuple")) H) : rIsiT K [v, .ref tp] H Q :=
  ⟨v, tp, _, .type T, _, _, rfl, hp, .cons (.ty _) (.cons (.ty _) .nil), ht, kit_lt h, q⟩
theorem x_lenR (h : Row K H a xs) (k : Q (.int xs.length) H) : rLn K [.ref a] H Q := ⟨a, xs, rfl, h, k⟩
theorem x_ixR {i : Int} {v : V} (h : Row K H a xs) (hi : atI xs i = some v) (k : Q v H) : rOr (rIxL K) (rIxT K) (.ref a) (.int i) H Q := by
  rcases h with h | h
  · exact .inl (x_ixL h hi k)
  · exact .inr (x_ixT h hi k)
theorem Row.ty (h : Row K H a xs) : ∃ T ∈ tyN, TyX K H (.ref a) (.type T) ∧ (T == "list" || T == "tuple") = true := by
  rcases h with h | h
  · exact ⟨"list", by decide, tyx_sql h, rfl⟩
  · exact ⟨"tuple", by decide, tyx_sqt h, rfl⟩
end
/-! ### while -/
theorem x_while {c : TT} {tb : TS} {D : Ends} {σ : L2.St} {H : Hp} (Pv : Nat → L2.St → Hp → Prop) (m : Nat) (h0 : Pv m σ H)
    (hs : ∀ m σ H, Pv m σ H → c σ H fun b H1 => if b = true then ∃ N, (∀ σ' H', N σ' H' → ∃ m', m' < m ∧ Pv m' σ' H') ∧ tb { nx := N, rt := D.rt, bk := D.nx, ct := N } σ H1 else D.nx σ H1) : tWhile c tb D σ H :=
  ⟨Pv, ⟨m, h0⟩, hs⟩
theorem x_wb {tb : TS} {D : Ends} {σ : L2.St} {H1 : Hp} {Pv : Nat → L2.St → Hp → Prop} {m : Nat} (k : tb { nx := fun σ' H' => ∃ m', m' < m ∧ Pv m' σ' H', rt := D.rt, bk := D.nx, ct := fun σ' H' => ∃ m', m' < m ∧ Pv m' σ' H' } σ H1) :
    ∃ N, (∀ σ' H', N σ' H' → ∃ m', m' < m ∧ Pv m' σ' H') ∧ tb { nx := N, rt := D.rt, bk := D.nx, ct := N } σ H1 := ⟨_, fun _ _ q => q, k⟩
end Ws

set_option Elab.async false
set_option linter.all false
set_option maxRecDepth 100000
set_option maxHeartbeats 4000000
namespace Ws
open PySem PySem.Spec PyProof.Rows L2 HotX LamX
theorem sIx_neg1 (n d : Nat) : HT.sIx n d (some (-1)) = n - 1 := by
  unfold HT.sIx
  simp
  omega
theorem cut_dl (xs : List V) : cutV xs none (some (-1)) = xs.dropLast := by
  unfold cutV
  rw [HT.sIx_none, sIx_neg1, List.drop_zero, Nat.sub_zero, List.dropLast_eq_take]
theorem cut_last (xs : List V) : cutV xs (some (-1)) none = xs.drop (xs.length - 1) := by
  unfold cutV
  rw [HT.sIx_none, sIx_neg1]
  rw [List.take_of_length_le (by rw [List.length_drop]; omega)]
section
variable {D : Ends} {σ : L2.St} {H : Hp} {g : TG} {tb : TS}
theorem x_rforRi {j : Int} (b1 : -(2 ^ 62) ≤ j) (b2 : j < 2 ^ 62) (Pv : Nat → L2.St → Hp → Prop) (h0 : Pv 0 σ H)
    (hs : ∀ (i : Nat) σ H, i < j.toNat → Pv i σ H → g (.int i) σ H fun σ2 H2 => tb { D with nx := Pv (i + 1), ct := Pv (i + 1), bk := D.nx } σ2 H2) (hd : ∀ σ H, Pv j.toNat σ H → D.nx σ H) : rForR g tb D σ [.int j] H :=
  ⟨j, rfl, b1, b2, for_range Pv h0 (fun i σ H hi p => by rw [Int.zero_add]; exact hs i σ H hi p) hd⟩
end
end Ws

set_option Elab.async false
set_option linter.all false
set_option maxRecDepth 100000
set_option maxHeartbeats 4000000
namespace Lw
open PySem PySem.Spec PyProof.Rows L2 HotX LamX Ws
local macro_rules | `(tactic| walk_at "sv") => `(tactic| (with_reducible first
  | refine x_v0 ?_ | refine x_v1 ?_ | refine x_v2 ?_ | refine x_v3 ?_ | refine x_v4 ?_ | refine x_v5 ?_ | refine x_v6 ?_ | refine x_v7 ?_ | refine x_v8 ?_ | refine x_v9 ?_ | refine x_v10 ?_ | refine x_v11 ?_ | refine x_v12 ?_ | refine x_v13 ?_ | refine x_v14 ?_ | refine x_v15 ?_ | refine x_v16 ?_ | refine x_v17 ?_ | refine x_v18 ?_ | refine x_v19 ?_ | refine x_v20 ?_ | refine x_v21 ?_ | refine x_v22 ?_ | refine x_v23 ?_ | refine x_v24 ?_ | refine x_v25 ?_ | refine x_v26 ?_ | refine x_v27 ?_))
local macro_rules | `(tactic| walk_at "sn") => `(tactic| (with_reducible first
  | refine x_n0 ?_ | refine x_n1 ?_ | refine x_n2 ?_ | refine x_n3 ?_ | refine x_n4 ?_ | refine x_n5 ?_ | refine x_n6 ?_ | refine x_n7 ?_ | refine x_n8 ?_ | refine x_n9 ?_ | refine x_n10 ?_ | refine x_n11 ?_ | refine x_n12 ?_ | refine x_n13 ?_ | refine x_n14 ?_ | refine x_n15 ?_ | refine x_n16 ?_ | refine x_n17 ?_ | refine x_n18 ?_ | refine x_n19 ?_ | refine x_n20 ?_ | refine x_n21 ?_ | refine x_n22 ?_ | refine x_n23 ?_ | refine x_n24 ?_ | refine x_n25 ?_ | refine x_n26 ?_ | refine x_n27 ?_))
local macro_rules | `(tactic| walk_at "s1") => `(tactic| (first | (with_reducible first
  | refine x_c ?_ | refine x_op ?_ | refine x_un ?_ | refine x_rU ?_ | refine x_rI0 ?_ | refine x_chain ?_ | refine x_ex ?_ | refine x_test ?_ | refine x_tB ?_
  | refine x_tAnd ?_ | refine x_tOr ?_ | refine x_tNot ?_ | refine x_andV ?_ | refine x_orV ?_ | refine x_notV ?_ | refine x_tIf ?_ | refine x_T ?_ | refine x_F ?_ | refine x_seq ?_ | refine x_next ?_ | refine x_asg ?_
  | refine x_ret ?_ | refine x_retN ?_ | refine x_ifS ?_ | refine x_drop ?_ | refine x_nil ?_ | refine x_cons ?_ | refine x_tup ?_ | refine x_lst ?_ | refine x_call ?_ | refine x_cb ?_ | refine x_meth ?_ | refine x_make ?_ | refine x_fld ?_ | refine x_sfld ?_
  | refine x_bm ?_ | refine x_bm0 ?_ | refine x_sl ?_ | refine x_part ?_ | refine x_iex ?_ | refine x_nopart ?_ | refine x_forR ?_ | refine x_forL ?_ | refine x_forE ?_ | refine x_lcL ?_ | refine x_lcR ?_ | refine x_gcons ?_ | refine x_gnil ?_ | refine x_revL ?_ | refine x_notN ?_ | refine x_isN ?_ | refine x_yes ?_ | refine x_dget ?_ | refine x_sdput ?_ | refine x_gsub ?_ | refine x_setD ?_ | refine x_pcons ?_ | refine x_pnil ?_ | refine x_cont ?_ | refine x_dget2 ?_) | walk_at "sv" | walk_at "sn"))
local macro_rules | `(tactic| walk_at "sx") => `(tactic| repeat walk_at "s1")
def top (i : Nat) : Stmt := PySem.Challenge.pw_wirestrands_k11_numbers_refused.main.body.getD i (.Pass ⟨0, 0, 0, 0⟩)
abbrev s_need : Stmt := top 10
abbrev s_is_whole : Stmt := top 11
abbrev s_full_of : Stmt := top 12
abbrev s_number_bytes : Stmt := top 13
abbrev s_byte_at : Stmt := top 14
abbrev s_read_number : Stmt := top 15
abbrev s__law_cell : Stmt := top 17
abbrev s__law_drawn : Stmt := top 18
abbrev s__law_word : Stmt := top 19
abbrev s__law_told : Stmt := top 20
abbrev s_law : Stmt := top 21
theorem sc_need : FnScope ["good"] ["good"] (defScope s_need) := ⟨rfl, rfl, rfl, by decide +kernel, rfl, by decide +kernel, by decide +kernel⟩
theorem sc_is_whole : FnScope ["thing", "least", "most"] ["thing", "least", "most"] (defScope s_is_whole) := ⟨rfl, rfl, rfl, by decide +kernel, rfl, by decide +kernel, by decide +kernel⟩
theorem sc_full_of : FnScope ["bits", "found", "bit"] ["bits"] (defScope s_full_of) := ⟨rfl, rfl, rfl, by decide +kernel, rfl, by decide +kernel, by decide +kernel⟩
theorem sc_number_bytes : FnScope ["number", "bits", "head", "full", "found", "rest"] ["number", "bits", "head"] (defScope s_number_bytes) := ⟨rfl, rfl, rfl, by decide +kernel, rfl, by decide +kernel, by decide +kernel⟩
theorem sc_byte_at : FnScope ["row", "at"] ["row", "at"] (defScope s_byte_at) := ⟨rfl, rfl, rfl, by decide +kernel, rfl, by decide +kernel, by decide +kernel⟩
theorem sc_read_number : FnScope ["row", "at", "bits", "full", "found", "by", "more"] ["row", "at", "bits"] (defScope s_read_number) := ⟨rfl, rfl, rfl, by decide +kernel, rfl, by decide +kernel, by decide +kernel⟩
theorem sc__law_cell : FnScope ["script", "k"] ["script", "k"] (defScope s__law_cell) := ⟨rfl, rfl, rfl, by decide +kernel, rfl, by decide +kernel, by decide +kernel⟩
theorem sc__law_drawn : FnScope ["cell", "k", "more"] ["cell", "k"] (defScope s__law_drawn) := ⟨rfl, rfl, rfl, by decide +kernel, rfl, by decide +kernel, by decide +kernel⟩
theorem sc__law_word : FnScope ["e", "flags", "flag"] ["e"] (defScope s__law_word) := ⟨rfl, rfl, rfl, by decide +kernel, rfl, by decide +kernel, by decide +kernel⟩
theorem sc__law_told : FnScope ["deed", "e"] ["deed"] (defScope s__law_told) := ⟨rfl, rfl, rfl, by decide +kernel, rfl, by decide +kernel, by decide +kernel⟩
theorem sc_law : FnScope ["script", "k", "more", "bits", "full", "none", "number", "some", "head", "bad", "row", "j", "here", "told", "behind", "n"] ["script"] (defScope s_law) := ⟨rfl, rfl, rfl, by decide +kernel, rfl, by decide +kernel, by decide +kernel⟩
/-! ### the law's own helpers -/
section
variable {P : Program} {w : World} {K : PySem.W.Frag} {mg : Str → Option Value} {base : Heap}
/-- the names that the helpers read -/
structure Hlp (K : PySem.W.Frag) (mg : Str → Option Value) (c : Nat → Addr) : Prop where
  er : Errs K mg c
  n_isinstance : mg "isinstance" = none
  n_sum : mg "sum" = none
  n_int : mg "int" = none
  n_len : mg "len" = none
  n_ValueError : mg "ValueError" = none
  dW : DefAt K mg "_law_word" s__law_word
  dT : DefAt K mg "_law_told" s__law_told
  dC : DefAt K mg "_law_cell" s__law_cell
  dD : DefAt K mg "_law_drawn" s__law_drawn
/-- what the refused tells -/
def Rf (i : Nat) : List V := [.str "refused", .str (nmE i)]
def spWord (c : Nat → Addr) (a : Addr) (i : Nat) : List V → Hp → VK → Prop := fun vs H Q => vs = [.ref a] ∧ ∀ p H', Same H H' → H p = none → H' p = some (.tup (Rf i)) → Q (.ref p) H'
theorem word_body {c : Nat → Addr} {a : Addr} {oe : Obj} {i : Nat} (T : Hlp K mg c) (hi : i < 6) (hz : L2N.Zn (.ref (c i)) none oe) (hf : ∃ vs, oe.data = .fields vs) {f : Addr} {cdv : Value} {A : Around} {outer : List Env} {s : Shared} {H : Hp} {k : Nat} {vs : List V} {Q : VK} (hA : A.handled = some (.ref a)) (h : spWord c a i vs H Q) (hr : L2H.RoomH k (A.deeper (envOfC "_law_word" (defScope s__law_word) s.heap.objs.size f cdv))) :
    ∃ t, PSs (L2H.cxH CX0 P w K mg base ["e", "flags", "flag"] "_law_word" (defScope s__law_word) f cdv A outer s H E0 (a, oe)) (defBody s__law_word) t ∧ t { nx := fun _ H' => Q .non H', rt := Q } (L2.start ["e", "flags", "flag"] vs) H := by
  obtain ⟨rfl, k⟩ := h
  have hc : L2H.HotC (L2H.cxH CX0 P w K mg base ["e", "flags", "flag"] "_law_word" (defScope s__law_word) f cdv A outer s H E0 (a, oe)) := by
    obtain ⟨vs, hv⟩ := hf
    exact ⟨(a, oe), ⟨hA, vs, hv, hz.2.2 vs hv⟩, List.mem_cons_self⟩
  have C := T.er.cls i hi
  have is_ : CallR (L2H.cxH CX0 P w K mg base ["e", "flags", "flag"] "_law_word" (defScope s__law_word) f cdv A outer s H E0 (a, oe)) (.builtin "isinstance") (rIsE K (c i) a) := call_isP C.exc hz.zc hf List.mem_cons_self
  refine ⟨_, pss_cons (ps_set (i := 1) sc__law_word.nd rfl (Or.inl rfl) (pe_lst (pa_cons (q_cb is_ T.n_isinstance bb_isinstance (pa_cons (pv 0) (pa_cons (q_ref (T.er.g 0 (by decide))) pa_nil))) (pa_cons (q_cb is_ T.n_isinstance bb_isinstance (pa_cons (pv 0) (pa_cons (q_ref (T.er.g 1 (by decide))) pa_nil))) (pa_cons (q_cb is_ T.n_isinstance bb_isinstance (pa_cons (pv 0) (pa_cons (q_ref (T.er.g 2 (by decide))) pa_nil))) pa_nil)))))
    (pss_cons (ps_set (i := 1) sc__law_word.nd rfl (Or.inl rfl) (pe_op op_cat (pv 1) (pe_lst (pa_cons (q_cb is_ T.n_isinstance bb_isinstance (pa_cons (pv 0) (pa_cons (q_ref (T.er.g 3 (by decide))) pa_nil))) pa_nil))))
    (pss_cons (ps_set (i := 1) sc__law_word.nd rfl (Or.inl rfl) (pe_op op_cat (pv 1) (pe_lst (pa_cons (q_cb is_ T.n_isinstance bb_isinstance (pa_cons (pv 0) (pa_cons (q_ref (T.er.g 4 (by decide))) pa_nil))) (pa_cons (q_cb is_ T.n_isinstance bb_isinstance (pa_cons (pv 0) (pa_cons (q_ref (T.er.g 5 (by decide))) pa_nil))) pa_nil)))))
    (pss_cons (ps_if (pw_or (pt_cmpR op_ne (q_cb (cr_sumH hc) T.n_sum bb_sum (pa_cons
        (pe_mapH (own := [("flag", 2)]) hc sc__law_word.nd (pv 1) (blkOk_by (N := ["e", "flags", "flag"]) (sc := defScope s__law_word) (by decide +kernel)) (fun _ _ _ _ _ => pg_name (i := 2) sc__law_word.nd rfl (Or.inl rfl))
          (fun _ _ _ _ _ => q_ct call_int1 T.n_int bb_int (pa_cons (pv 2) pa_nil))) pa_nil)) pe_int (nomark _))
        (pw_or1 (pt_not (pt_val (q_cb is_ T.n_isinstance bb_isinstance (pa_cons (pv 0) (pa_cons (q_ty T.n_ValueError bb_ValueError) pa_nil))))))).pt
      (pss_one (ps_ret (pe_tup (pa_cons pe_str (pa_cons pe_str pa_nil))))) pss_nil)
    (pss_one (ps_ret (pe_tup (pa_cons pe_str (pa_cons (pe_ix ix_list (pe_lst (pa_cons pe_str (pa_cons pe_str (pa_cons pe_str (pa_cons pe_str (pa_cons pe_str (pa_cons pe_str pa_nil)))))))
      (pe_bm PySem.F.plainAttrs_list PySem.F.slot_list_index PySem.F.type_list_index mt_index (pv 1) (pa_cons pe_bl pa_nil)) (fun _ _ => rfl)) pa_nil)))))))), ?_⟩
  rw [show L2.start ["e", "flags", "flag"] [V.ref a] = [some (.ref a), none, none] from rfl]
  walk_at "sx"
  refine x_isE (T.er.kit i 0 hi (by decide)) ?_
  walk_at "sx"
  refine x_isE (T.er.kit i 1 hi (by decide)) ?_
  walk_at "sx"
  refine x_isE (T.er.kit i 2 hi (by decide)) ?_
  walk_at "sx"
  refine ⟨by show 3 ≤ sizeLine; decide, fun p1 n1 => ?_⟩
  walk_at "sx"
  refine x_isE (T.er.kit i 3 hi (by decide)) ?_
  walk_at "sx"
  refine ⟨by show 1 ≤ sizeLine; decide, fun q2 k2 => ?_⟩
  refine x_cat (upd_old k2 upd_same) upd_same (by show 3 + 1 ≤ sizeLine; decide) fun q3 k3 => ?_
  walk_at "sx"
  refine x_isE (T.er.kit i 4 hi (by decide)) ?_
  walk_at "sx"
  refine x_isE (T.er.kit i 5 hi (by decide)) ?_
  walk_at "sx"
  refine ⟨by show 2 ≤ sizeLine; decide, fun p2 n2 => ?_⟩
  refine x_cat (upd_old n2 upd_same) upd_same (by show 4 + 2 ≤ sizeLine; decide) fun p3 n3 => ?_
  walk_at "sx"
  generalize e3 : upd (upd (upd (upd (upd H p1 _) q2 _) q3 _) p2 _) p3 _ = H3
  have s3 : Same H H3 := by
    rw [← e3]
    exact ((((same_upd n1).trans (same_upd k2)).trans (same_upd k3)).trans (same_upd n2)).trans (same_upd n3)
  have h3 : H3 p3 = some (.lst (flgs i)) := by rw [← e3]; exact upd_same
  clear e3
  refine ⟨.ref p3, rfl, p3, flgs i, fInt, rfl, SqL.of h3, by show 6 < sizeLine; decide, fun v H' hv => ?_, fun p4 n4 => ?_⟩
  · obtain ⟨b, rfl⟩ : ∃ b, v = V.bl b := by
      simp only [flgs, List.mem_cons, List.not_mem_nil, or_false] at hv
      rcases hv with h | h | h | h | h | h <;> exact ⟨_, h⟩
    exact ⟨rfl, rfl, ⟨.bl b, rfl, .inr ⟨b, rfl, rfl, rfl⟩⟩⟩
  walk_at "sx"
  refine x_sum (ns := flgN i) (SqL.of (by rw [upd_same]; rfl)) ?_
  walk_at "sx"
  refine x_rNe rfl ?_
  rw [flgN_sum i hi]
  walk_at "sx"
  refine (show if (!decide (V.int 1 = V.int 1)) = true then _ else _ from ?_)
  rw [decide_eq_true rfl]
  refine x_F ?_
  walk_at "sx"
  refine x_isET (T.er.cls i hi).kv ?_
  walk_at "sx"
  refine (show if (!true) = true then _ else _ from x_F ?_)
  walk_at "sx"
  refine ⟨by show 6 ≤ sizeLine; decide, fun p5 n5 => ?_⟩
  walk_at "sx"
  refine ⟨?_, ?_⟩
  · exact Or.inl ⟨rfl, _, SqL.of (upd_old n5 (upd_old n4 h3))⟩
  walk_at "sx"
  refine x_index (SqL.of (upd_old n5 (upd_old n4 h3))) rfl ?_ (flgs_at i hi) rfl (fun m z' hm hz' => ?_) ?_
  · rfl
  · rw [flgs_no i hi m hm] at hz'
    cases hz'
    rfl
  refine x_ixL (SqL.of upd_same) (nm_at i hi) ?_
  walk_at "sx"
  refine ⟨by show 2 ≤ sizeLine; decide, fun p6 n6 => ?_⟩
  exact k p6 _ (((s3.trans (same_upd n4)).trans (same_upd n5)).trans (same_upd n6)) (((s3.trans (same_upd n4)).trans (same_upd n5)).free n6) upd_same
/-- what _law_told makes of a deed: what it tells, or how it is refused -/
def TW (c : Nat → Addr) : (XK → Hp → VK → Prop) → Hp → VK → Prop := fun tl H Q =>
  tl (fun cls d H' => ∃ i, i < 6 ∧ cls = .ref (c i) ∧ d = none ∧ ∀ p H'', Same H' H'' → H' p = none → H'' p = some (.tup (Rf i)) → Q (.ref p) H'') H Q
theorem x_TW {c : Nat → Addr} {tl : XK → Hp → VK → Prop} {H : Hp} {Q : VK} (k : tl (fun cls d H' => ∃ i, i < 6 ∧ cls = .ref (c i) ∧ d = none ∧ ∀ p H'', Same H' H'' → H' p = none → H'' p = some (.tup (Rf i)) → Q (.ref p) H'') H Q) : TW c tl H Q := k
theorem dp_rf {K : PySem.W.Frag} {H : Hp} (i : Nat) : DpAll K H (Rf i) [.str "refused", .str (nmE i)] := .cons (.str _) (.cons (.str _) .nil)
theorem takes0N {X : Cx} : L2N.Takes X (fun _ _ _ _ => False) := fun _ _ x => by
  obtain ⟨_, _, _, _, _, _, _, _, _, _, _, _, _, _, _, _, z⟩ := x
  exact z.elim
theorem run_of {X : Cx} {pins : List (Addr × Obj)} {s : Shared} {σ : L2.St} {H : Hp} {D : Ends} {st : List Stmt} (I : L2.Inv X pins σ H s) (h : ∃ t, PSs X st t ∧ t D σ H) : wpAny (model X.prog X.w) X.A (execs st X.env) (SP X pins D) X.xe s := by
  obtain ⟨t, p, q⟩ := h
  exact p.run pins s σ H D I q
theorem told_gives {X : Cx} {c : Nat → Addr} (T : Hlp X.K X.mg c) {k : Nat} {g : Addr} {cdv : Value} {q : Str} : GivesN X k ["deed", "e"] "_law_told" (defScope s__law_told) g cdv (defBody s__law_told) "deed" q (TW c) := by
  intro f c' s H Q tl hr act hc h
  obtain ⟨fW, fdW, FW, hmW⟩ := T.dW.ex
  obtain ⟨oc, od, kV, doc, pm, an, cdW, ct, osl, efd, lkW, hcW⟩ := FW.ex
  have bW := FW.binds (ps := ["e"]) fun _ _ _ _ _ _ us hl => match us, hl with | [_], _ => rfl
  rw [efd] at lkW bW
  refine ⟨_, pss_one (L2N.ps_try_as (i := 1) (c := .ref (c 6))
      (tb := fun W D σ H => ∃ Ech : XK, (∀ cls d σ' H', Ech cls d H' → W cls d σ' H') ∧ σ[0]? = some (some (.ref f)) ∧ H c' = some (CodeO c' q) ∧ tl Ech H D.rt)
      (ts := fun a cls d D σ H => ∃ i, i < 6 ∧ cls = .ref (c i) ∧ d = none ∧ (σ.length = 2 → σ[1]? = some (some (.ref a))) ∧ ∀ p H', Same H H' → H p = none → H' p = some (.tup (Rf i)) → D.rt (.ref p) H')
      rfl rfl sc__law_told.nd rfl rfl ⟨rfl, by decide, .inl T.er.gW⟩ takes0N (fun W pn xe tk _ => ?_) (fun a oe cls d pn hz hf => ?_)), ?_⟩
  · refine ⟨fun pins s' σ H' D I h' => ?_⟩
    obtain ⟨Ech, hW, h1, h2, h3⟩ := h'
    exact (pss_one (ps_ret (act W pn xe Ech _ _ tk hW))).run pins s' σ H' D I ⟨h1, h2, h3⟩
  · refine ⟨fun pins s' σ H' D I h' => ?_⟩
    obtain ⟨i, hi, rfl, rfl, hs, hq⟩ := h'
    have hs := hs I.len
    refine run_of I ⟨_, pss_one (ps_ret (pe_hot1 (k := k) (sp := spWord c a i) (Ng := ["e", "flags", "flag"]) (p := (a, oe)) (by rfl) hmW FW.kp lkW hcW bW sc__law_word ⟨hr.dp, hr.un⟩ List.mem_cons_self (pa_cons (pv 1) pa_nil) (fun vs H Q z => by rw [z.1]; rfl)
      (fun s H vs Q z hr' => word_body T hi hz hf rfl z hr'))), ?_⟩
    exact ⟨.ref a, hs, rfl, hq⟩
  · refine ⟨fun cls d H' => ∃ i, i < 6 ∧ cls = .ref (c i) ∧ d = none ∧ ∀ p H'', Same H' H'' → H' p = none → H'' p = some (.tup (Rf i)) → Q (.ref p) H'', fun cls d σ' H' hx => ?_, rfl, hc, h⟩
    obtain ⟨i, hi, rfl, rfl, hq⟩ := hx
    refine ⟨true, (T.er.cls i hi).ex, fun _ a ha => ⟨i, hi, rfl, rfl, ?_, hq⟩, fun z => nomatch z⟩
    intro hl
    have hl' : σ'.length = 2 := by rw [List.length_set] at hl; exact hl
    rw [List.getElem?_set_self (by omega)]
/-- _law_told(lambda: body) -/
theorem pe_told {X : Cx} {c : Nat → Addr} {cc PP : Addr} {Tb : List (Addr × Str)} {k : Nat} {params : Arguments} {body : Expr} {scope : Scope} {t : XK → TE} {p lpos pos : Pos} (T : Hlp X.K X.mg c) (TB : TabB X.base X.mg cc PP) (hcode : X.env.code = .ref cc)
    (hmT : (PP, X.env.qual ++ "<lambda>") ∈ Tb) (hu : ∀ p ∈ Tb, p.1 = PP → p.2 = X.env.qual ++ "<lambda>") (hr : Room (k + 2) X.A)
    (hbody : ∀ (A : Around) (outer : List Env) (s : Shared) (H : Hp) (E : XK) (f c' : Addr), Room k (A.deeper (lamEnv X scope s.heap.objs.size f c')) → PE (lamCxN X A outer s H E scope f c') body (t E))
    (L : LamS X.env.scope scope := by exact lamS_by (by kernel_rfl)) (hdef : defaultsOf params X.env = ([], []) := by rfl)
    (hbind : ∀ (q : Str) (cl : List (Str × Addr)) (pm cv ctv : Value), bindArgs (PySem.W.kla_fn "<lambda>" q params body scope cl pm cv ctv) ⟨[], []⟩ = pure [] := by intros; rfl) (hg : Gl X "_law_told" := by rfl) :
    PE X (.Call (.Name "_law_told" p) [.Lambda params body scope lpos] [] pos) (tLam Tb (TW c) t) := by
  obtain ⟨f, fd, F, hm⟩ := T.dT.ex
  obtain ⟨oc, od, kV, doc, pm, an, cdv, ct, osl, efd, lk, hcd⟩ := F.ex
  have b := F.binds (ps := ["deed"]) fun _ _ _ _ _ _ us hl => match us, hl with | [_], _ => rfl
  rw [efd] at lk b
  exact pe_lamN (Ng := ["deed", "e"]) hg hm F.kp lk hcd b sc__law_told rfl (.inl rfl) (told_gives T) TB hcode hmT hu hr L hdef hbind hbody
/-! cells and draws -/
def spCell (K : PySem.W.Frag) : Sp := fun vs H Q _ => ∃ (a : Addr) (ns : List Int) (k : Int), vs = [.ref a, .int k] ∧ SqL K H a (ns.map V.int) ∧ ns.length ≤ 63 ∧ 0 ≤ k ∧ k < 1000 ∧ ∀ z H', Same H H' → Q (.int z) H'
theorem ok_cell {c : Nat → Addr} (T : Hlp K mg c) : Fn P w K mg base 1 "_law_cell" (spCell K) := by
  refine fn_mk (ps := ["script", "k"]) T.dC (fun _ _ _ _ _ _ us hl => match us, hl with | [_, _], _ => rfl) fun f fd F => okN F sc__law_cell (fun vs H Q E h => by obtain ⟨a, ns, k, rfl, _⟩ := h; rfl) fun cdv A outer s H vs Q E hr h => ?_
  obtain ⟨a, ns, k, rfl, hS, hl, h0, h1, q⟩ := h
  have hu : A.units + 3 + 64 < cLine := by have := hr.un; show _; have e : (A.deeper (envOfC "_law_cell" (defScope s__law_cell) s.heap.objs.size f cdv)).units = A.units + 3 := rfl; omega
  refine ⟨_, (pss_cons (ps_if (pt_cmpR (ko_eqD K hu) (pv 0) (pe_lst pa_nil) (nomark _))
    (pss_one (ps_ret (pe_op op_mul (pv 1) pe_int)))
    pss_nil)
    (pss_one (ps_ret (pe_op op_add (pe_ix (kx_list K) (pv 0) (pe_op op_mod (pv 1) (q_cb (kc_len K) T.n_len bb_len (pa_cons (pv 0) pa_nil))) (fun _ _ => rfl)) (pe_op op_mul (pe_op op_fdiv (pv 1) (q_cb (kc_len K) T.n_len bb_len (pa_cons (pv 0) pa_nil))) pe_int))))), ?_⟩
  rw [show L2.start ["script", "k"] [V.ref a, V.int k] = [some (.ref a), some (.int k)] from rfl]
  walk_at "sx"
  refine ⟨by show 0 ≤ sizeLine; decide, fun p np => ?_⟩
  have hS1 : SqL K (upd H p (.lst [])) a (ns.map V.int) := (same_upd np).seq hS
  refine x_eqD (.lst hS1 (dpa_ints ns)) (.lst (SqL.of upd_same) .nil) (shp_ints ns) rfl ?_
  rw [show PyData.list [] = PyData.list (([] : List Int).map PyData.int) from rfl, eqv_ints]
  walk_at "sx"
  refine x_2 (fun he => ?_) fun he => ?_
  · walk_at "sx"
    refine x_rI (.inr ⟨by decide, by decide⟩) ?_
    exact q _ _ (same_upd np)
  · have hpos : 0 < ns.length := by
      cases ns with
      | nil => exact absurd rfl he
      | cons _ _ => exact Nat.succ_pos _
    have hls : (ns.map V.int).length = ns.length := List.length_map _
    walk_at "sx"
    refine x_lenL hS1 ?_
    rw [hls]
    refine x_rI (by omega) ?_
    have hm0 : 0 ≤ k % (ns.length : Int) := Int.emod_nonneg _ (by omega)
    have hm1 : k % (ns.length : Int) < ns.length := Int.emod_lt_of_pos _ (by omega)
    have hlt : (k % (ns.length : Int)).toNat < ns.length := by omega
    refine x_ixL hS1 (v := V.int (ns[(k % (ns.length : Int)).toNat])) (atI_get hm0 (by rw [List.getElem?_map, List.getElem?_eq_getElem hlt]; rfl)) ?_
    walk_at "sx"
    refine x_lenL hS1 ?_
    rw [hls]
    refine x_rI ⟨by omega, by omega⟩ ?_
    walk_at "sx"
    refine x_rI (.inr ⟨by decide, by decide⟩) ?_
    walk_at "sx"
    exact q _ _ (same_upd np)
def spDrawn : Sp := fun vs H Q _ => ∃ (c k : Int), vs = [.int c, .int k] ∧ -1000000 < k ∧ k < 1000000 ∧ Q (.int (drawn c k)) H
theorem ok_drawn {c : Nat → Addr} (T : Hlp K mg c) : Fn P w K mg base 1 "_law_drawn" spDrawn := by
  refine fn_mk (ps := ["cell", "k"]) T.dD (fun _ _ _ _ _ _ us hl => match us, hl with | [_, _], _ => rfl) fun f fd F => okN F sc__law_drawn (fun vs H Q E h => by obtain ⟨a, k, rfl, _⟩ := h; rfl) fun cdv A outer s H vs Q E hr h => ?_
  obtain ⟨a, k, rfl, h0, h1, q⟩ := h
  refine ⟨_, (pss_cons (ps_set (i := 2) sc__law_drawn.nd rfl (by first | exact Or.inl rfl | exact Or.inr rfl) (pe_op op_mod (pe_op op_add (pe_op op_mul (pv 0) pe_int) (pe_op op_mul (pe_op op_add (pv 1) pe_int) pe_int)) pe_int))
    (pss_cons (ps_set (i := 2) sc__law_drawn.nd rfl (by first | exact Or.inl rfl | exact Or.inr rfl) (pe_op op_mod (pe_op op_mulW (pv 2) (pv 2)) pe_int))
    (pss_cons (ps_set (i := 2) sc__law_drawn.nd rfl (by first | exact Or.inl rfl | exact Or.inr rfl) (pe_op op_mulW (pe_op op_mulW (pe_op op_add (pe_op op_mod (pv 2) pe_int) pe_int) (pe_op op_add (pe_op op_fdivW (pv 2) pe_int) pe_int)) (pv 2)))
    (pss_one (ps_ret (pe_op op_mod (pv 2) pe_int)))))), ?_⟩
  rw [show L2.start ["cell", "k", "more"] [V.int a, V.int k] = [some (.int a), some (.int k), none] from rfl]
  walk_at "sx"
  refine x_rI (.inr ⟨by decide, by decide⟩) ?_
  walk_at "sx"
  refine x_rI (.inr ⟨by decide, by decide⟩) ?_
  walk_at "sx"
  refine x_rI (by decide) ?_
  walk_at "sx"
  generalize e1 : (a * 6364136223846793005 + (k + 1) * 1442695040888963407) % 340282366920938463463374607431768211507 = m1
  have l1 : 0 ≤ m1 := by rw [← e1]; exact Int.emod_nonneg _ (by decide)
  have u1 : m1 < 340282366920938463463374607431768211507 := by rw [← e1]; exact Int.emod_lt_of_pos _ (by decide)
  have b1 : m1.natAbs < 2 ^ 129 := nat_lt_of l1 (Int.lt_trans u1 (by decide))
  refine x_rI (wide_mul b1 b1 (by decide) (by decide) (by decide)) ?_
  walk_at "sx"
  refine x_rI (by decide) ?_
  walk_at "sx"
  generalize e2 : m1 * m1 % 340282366920938463463374607431768211297 = m2
  have l2 : 0 ≤ m2 := by rw [← e2]; exact Int.emod_nonneg _ (by decide)
  have u2 : m2 < 340282366920938463463374607431768211297 := by rw [← e2]; exact Int.emod_lt_of_pos _ (by decide)
  have b2 : m2.natAbs < 2 ^ 128 := nat_lt_of l2 (Int.lt_trans u2 (by decide))
  refine x_rI (by decide) ?_
  walk_at "sx"
  refine x_rI (wide_div (b := 64) (by decide) (by decide) (by decide) (by decide)) ?_
  walk_at "sx"
  have l3 : 0 ≤ m2 % 18446744073709551557 := Int.emod_nonneg _ (by decide)
  have u3 : m2 % 18446744073709551557 < 18446744073709551557 := Int.emod_lt_of_pos _ (by decide)
  have b3 : (m2 % 18446744073709551557 + 1).natAbs < 2 ^ 65 := nat_lt_of (by omega) (Int.lt_trans (Int.add_lt_add_right u3 1) (by decide))
  have l4 : 0 ≤ m2 / 18446744073709551557 := Int.ediv_nonneg l2 (by decide)
  have u4 : m2 / 18446744073709551557 ≤ m2 := Int.ediv_le_self _ l2
  have b4 : (m2 / 18446744073709551557 + 1).natAbs < 2 ^ 129 := nat_lt_of (by omega) (Int.lt_of_le_of_lt (Int.add_le_add_right (Int.le_trans u4 (Int.le_of_lt u2)) 1) (by decide))
  refine x_rI (wide_mul b3 b4 (by decide) (by decide) (by decide)) ?_
  walk_at "sx"
  refine x_rI (wide_mul (wide_lt b3 b4) b2 (by decide) (by decide) (by decide)) ?_
  walk_at "sx"
  refine x_rI (by decide) ?_
  have e : drawn a k = (m2 % 18446744073709551557 + 1) * (m2 / 18446744073709551557 + 1) * m2 % 340282366920938463463374607431768211507 := by
    rw [← e2, ← e1]
    rfl
  rw [← e]
  exact q
end
end Lw

set_option Elab.async false
set_option linter.all false
set_option maxRecDepth 100000
set_option maxHeartbeats 4000000
namespace Lw
open PySem PySem.Spec PyProof.Rows L2 HotX LamX Ws
local macro_rules | `(tactic| walk_at "sv") => `(tactic| (with_reducible first
  | refine x_v0 ?_ | refine x_v1 ?_ | refine x_v2 ?_ | refine x_v3 ?_ | refine x_v4 ?_ | refine x_v5 ?_ | refine x_v6 ?_ | refine x_v7 ?_ | refine x_v8 ?_ | refine x_v9 ?_ | refine x_v10 ?_ | refine x_v11 ?_ | refine x_v12 ?_ | refine x_v13 ?_ | refine x_v14 ?_ | refine x_v15 ?_ | refine x_v16 ?_ | refine x_v17 ?_ | refine x_v18 ?_ | refine x_v19 ?_ | refine x_v20 ?_ | refine x_v21 ?_ | refine x_v22 ?_ | refine x_v23 ?_ | refine x_v24 ?_ | refine x_v25 ?_ | refine x_v26 ?_ | refine x_v27 ?_))
local macro_rules | `(tactic| walk_at "sn") => `(tactic| (with_reducible first
  | refine x_n0 ?_ | refine x_n1 ?_ | refine x_n2 ?_ | refine x_n3 ?_ | refine x_n4 ?_ | refine x_n5 ?_ | refine x_n6 ?_ | refine x_n7 ?_ | refine x_n8 ?_ | refine x_n9 ?_ | refine x_n10 ?_ | refine x_n11 ?_ | refine x_n12 ?_ | refine x_n13 ?_ | refine x_n14 ?_ | refine x_n15 ?_ | refine x_n16 ?_ | refine x_n17 ?_ | refine x_n18 ?_ | refine x_n19 ?_ | refine x_n20 ?_ | refine x_n21 ?_ | refine x_n22 ?_ | refine x_n23 ?_ | refine x_n24 ?_ | refine x_n25 ?_ | refine x_n26 ?_ | refine x_n27 ?_))
local macro_rules | `(tactic| walk_at "s1") => `(tactic| (first | (with_reducible first
  | refine x_c ?_ | refine x_op ?_ | refine x_un ?_ | refine x_rU ?_ | refine x_rI0 ?_ | refine x_chain ?_ | refine x_ex ?_ | refine x_test ?_ | refine x_tB ?_
  | refine x_tAnd ?_ | refine x_tOr ?_ | refine x_tNot ?_ | refine x_andV ?_ | refine x_orV ?_ | refine x_notV ?_ | refine x_tIf ?_ | refine x_T ?_ | refine x_F ?_ | refine x_seq ?_ | refine x_next ?_ | refine x_asg ?_
  | refine x_ret ?_ | refine x_retN ?_ | refine x_ifS ?_ | refine x_drop ?_ | refine x_nil ?_ | refine x_cons ?_ | refine x_tup ?_ | refine x_lst ?_ | refine x_call ?_ | refine x_cb ?_ | refine x_meth ?_ | refine x_make ?_ | refine x_fld ?_ | refine x_sfld ?_
  | refine x_bm ?_ | refine x_bm0 ?_ | refine x_sl ?_ | refine x_part ?_ | refine x_iex ?_ | refine x_nopart ?_ | refine x_forR ?_ | refine x_forL ?_ | refine x_forE ?_ | refine x_lcL ?_ | refine x_lcR ?_ | refine x_gcons ?_ | refine x_gnil ?_ | refine x_revL ?_ | refine x_notN ?_ | refine x_isN ?_ | refine x_yes ?_ | refine x_dget ?_ | refine x_sdput ?_ | refine x_gsub ?_ | refine x_setD ?_ | refine x_pcons ?_ | refine x_pnil ?_ | refine x_cont ?_ | refine x_dget2 ?_) | walk_at "sv" | walk_at "sn"))
local macro_rules | `(tactic| walk_at "sx") => `(tactic| repeat walk_at "s1")
/-! ### numbers as bytes: the plain part -/
def fullN (b : Nat) : Int := (2 ^ b : Nat) - 1
theorem fullN_succ (b : Nat) : fullN (b + 1) = 2 * fullN b + 1 := by
  unfold fullN
  rw [Nat.pow_succ]
  have : (1 : Nat) ≤ 2 ^ b := Nat.one_le_two_pow
  push_cast
  omega
theorem fullN_pos (b : Nat) : 0 ≤ fullN b := by
  unfold fullN
  have : (1 : Nat) ≤ 2 ^ b := Nat.one_le_two_pow
  omega
theorem fullN_le {b : Nat} (h : b ≤ 8) : fullN b ≤ 255 := by
  unfold fullN
  have : 2 ^ b ≤ 2 ^ 8 := Nat.pow_le_pow_right (by decide) h
  have e : (2 : Nat) ^ 8 = 256 := by decide
  omega
def tlB (r : Nat) : List Int := if h : 128 ≤ r then (128 + ((r % 128 : Nat) : Int)) :: tlB (r / 128) else [(r : Int)]
termination_by r
decreasing_by omega
theorem tlB_ge {r : Nat} (h : 128 ≤ r) : tlB r = (128 + ((r % 128 : Nat) : Int)) :: tlB (r / 128) := by rw [tlB, dif_pos h]
theorem tlB_lt {r : Nat} (h : ¬ 128 ≤ r) : tlB r = [(r : Int)] := by rw [tlB, dif_neg h]
theorem tlB_len : ∀ (k r : Nat), r < 128 ^ (k + 1) → (tlB r).length ≤ k + 1
  | 0, r, h => by rw [tlB_lt (by simpa using h)]; exact Nat.le_refl _
  | k + 1, r, h => by
    by_cases e : 128 ≤ r
    · rw [tlB_ge e, List.length_cons]
      have := tlB_len k (r / 128) (by rw [Nat.div_lt_iff_lt_mul (by decide)]; rw [Nat.pow_succ] at h; exact h)
      omega
    · rw [tlB_lt e]; exact Nat.le_add_left 1 _
def numB (n : Int) (b : Nat) (hd : Int) : List Int := if n < fullN b then [hd + n] else (hd + fullN b) :: tlB (n - fullN b).toNat
theorem numB_len {n h : Int} {b : Nat} (h0 : 0 ≤ n) (h1 : n ≤ 268435455) : (numB n b h).length ≤ 5 := by
  unfold numB
  split
  · exact Nat.le_add_left 1 4
  · have := tlB_len 3 (n - fullN b).toNat (by have := fullN_pos b; have e : (128 : Nat) ^ (3 + 1) = 268435456 := by decide
                                              omega)
    rw [List.length_cons]; omega
def byteO (xs : List V) (n : Nat) : Option Int := match xs[n]? with
  | some v => if isW v 0 255 = true then (match v with | .int b => some b | _ => none) else none
  | none => none
def rdL : List V → Int → Int → Nat → Option (Int × Nat)
  | [], _, _, _ => none
  | v :: r, found, by_, at_ => match byteO [v] 0 with
    | none => none
    | some m => if found + m % 128 * by_ ≤ 268435455 ∧ (0 < m ∨ by_ = 1) then (if 128 ≤ m then rdL r (found + m % 128 * by_) (by_ * 128) (at_ + 1) else some (found + m % 128 * by_, at_ + 1)) else none
def readN (xs : List V) (at_ b : Nat) : Option (Int × Nat) := match byteO xs at_ with
  | none => none
  | some m => if m % (fullN b + 1) < fullN b then some (m % (fullN b + 1), at_ + 1) else rdL (xs.drop (at_ + 1)) (m % (fullN b + 1)) 1 (at_ + 1)
theorem byteO_drop (xs : List V) (n : Nat) : byteO xs n = match xs.drop n with | [] => none | v :: _ => byteO [v] 0 := by
  unfold byteO
  cases e : xs.drop n with
  | nil =>
    have : xs.length ≤ n := List.drop_eq_nil_iff.mp e
    rw [List.getElem?_eq_none this]
  | cons v r =>
    have : xs[n]? = some v := by rw [← List.head?_drop, e]; rfl
    rw [this]
    rfl
section
variable {P : Program} {w : World} {K : PySem.W.Frag} {mg : Str → Option Value} {base : Heap} {c : Nat → Addr}
structure TxN (K : PySem.W.Frag) (mg : Str → Option Value) (c : Nat → Addr) : Prop where
  er : Errs K mg c
  n_isinstance : mg "isinstance" = none
  n_int : mg "int" = none
  n_bool : mg "bool" = none
  n_list : mg "list" = none
  n_tuple : mg "tuple" = none
  n_len : mg "len" = none
  n_range : mg "range" = none
  gMOST : ∃ t, mg "MOST_NUMBER" = some (.int 268435455 t)
  dNeed : DefAt K mg "need" s_need
  dWhole : DefAt K mg "is_whole" s_is_whole
  dFull : DefAt K mg "full_of" s_full_of
  dNumB : DefAt K mg "number_bytes" s_number_bytes
  dByte : DefAt K mg "byte_at" s_byte_at
  dRead : DefAt K mg "read_number" s_read_number
def spWhole (K : PySem.W.Frag) : Sp := fun vs H Q _ => ∃ (v : V) (lo hi : Int), vs = [v, .int lo, .int hi] ∧ Ty7 K H v ∧ Q (.bl (isW v lo hi)) H
theorem ok_whole (n1 : mg "isinstance" = none) (n2 : mg "int" = none) (n3 : mg "bool" = none) (D : DefAt K mg "is_whole" s_is_whole) : Fn P w K mg base 1 "is_whole" (spWhole K) := by
  refine fn_mk (ps := ["thing", "least", "most"]) D (fun _ _ _ _ _ _ us hl => match us, hl with | [_, _, _], _ => rfl) fun f fd F => okN F sc_is_whole (fun vs H Q E h => by obtain ⟨a, b, d, rfl, _⟩ := h; rfl) fun cdv A outer s H vs Q E hr h => ?_
  obtain ⟨v, lo, hi, rfl, ⟨T7, hT, ht⟩, q⟩ := h
  refine ⟨_, pss_one (ps_ret (pe_and (q_cb call_isi n1 bb_isinstance (pa_cons (pv 0) (pa_cons (q_ty n2 bb_int) pa_nil))) (pe_and (pe_not (q_cb call_isi n1 bb_isinstance (pa_cons (pv 0) (pa_cons (q_ty n3 bb_bool) pa_nil)))) (pe_one (pe_chain op_le op_le (pv 1) (pv 0) (pv 2)))))), ?_⟩
  rw [show L2.start ["thing", "least", "most"] [v, V.int lo, V.int hi] = [some v, some (.int lo), some (.int hi)] from rfl]
  walk_at "sx"
  refine x_isi ht (kb_int _ hT) ?_
  walk_at "sx"
  by_cases e1 : T7 = "int"
  · subst e1
    obtain ⟨i, rfl⟩ := tyx_int ht rfl
    refine (show if true = true then _ else _ from x_T ?_)
    walk_at "sx"
    refine x_isi ht (kb_bool _ hT) ?_
    walk_at "sx"
    refine (show if (!false) = true then _ else _ from x_T ?_)
    walk_at "sx"
    refine x_2 (fun h1 => ?_) fun h1 => ?_
    · walk_at "sx"
      have e : isW (.int i) lo hi = decide (i ≤ hi) := by simp [isW, h1]
      rw [← e]; exact q
    · have e : isW (.int i) lo hi = false := by simp [isW, h1]
      rw [← e]; exact q
  · have e : isW v lo hi = false := isW_not fun i hi => by
      subst hi
      have z := tyx_of_int ht
      exact e1 (Value.type.inj z)
    rw [e] at q
    by_cases e2 : T7 = "bool"
    · subst e2
      refine (show if true = true then _ else _ from x_T ?_)
      walk_at "sx"
      refine x_isi ht (kb_bool _ hT) ?_
      walk_at "sx"
      refine (show if (!true) = true then _ else _ from x_F ?_)
      exact q
    · have e3 : (T7 == "int" || T7 == "bool") = false := by simp [e1, e2]
      rw [e3]
      exact x_F q
def spNeed (c : Nat → Addr) (i : Nat) : Sp := fun vs H Q E => ∃ b : Bool, vs = [.bl b] ∧ (b = true → Q .non H) ∧ (b = false → E (.ref (c i)) none H)
theorem isW_true {v : V} {lo hi : Int} (h : isW v lo hi = true) : ∃ i, v = .int i ∧ lo ≤ i ∧ i ≤ hi := by
  cases v with
  | int i =>
    simp [isW] at h
    exact ⟨i, rfl, h.1, h.2⟩
  | _ => simp [isW] at h
abbrev pN {X : Cx} {E : XK} {E₁ : Value → Shared → Prop} (hs : X.stack = X.env :: X.outer) (hf : X.env.frame = some X.env.locals) (hex : X.ex = []) (hx : X.xe = fun e s' => wpAny (model X.prog X.w) X.A (leaving X.env e) (fun _ s'' => L2N.CX X.prog X.w X.outer X.H_0 X.s_0 E e s'') E₁ s') : Passes (L2N.CX X.prog X.w) X E :=
  L2N.passes_call (L2N.takes_of hs hf hex hx) (fun _ _ _ _ h => h)
theorem ok_need (er : Errs K mg c) (D : DefAt K mg "need" s_need) : Fn P w K mg base 1 "need" (spNeed c 1) := by
  refine fn_mk (ps := ["good"]) D (fun _ _ _ _ _ _ us hl => match us, hl with | [_], _ => rfl) fun f fd F => okN F sc_need (fun vs H Q E h => by obtain ⟨b, rfl, _⟩ := h; rfl) fun cdv A outer s H vs Q E hr h => ?_
  obtain ⟨b, rfl, h1, h2⟩ := h
  refine ⟨_, pss_one (ps_if (pt_not (pt_val (pv 0))) (pss_one (L2N.ps_raise rfl (L2N.takes_of rfl rfl rfl rfl) (er.mk_ rfl rfl 1 (by decide) rfl (by decide)))) pss_nil), ?_⟩
  rw [show L2.start ["good"] [V.bl b] = [some (.bl b)] from rfl]
  walk_at "sx"
  cases b with
  | true => exact x_F (h1 rfl)
  | false => exact x_T (h2 rfl)
def spFull : Sp := fun vs H Q _ => ∃ b : Nat, vs = [.int b] ∧ b ≤ 8 ∧ Q (.int (fullN b)) H
theorem ok_full (T : TxN K mg c) : Fn P w K mg base 1 "full_of" spFull := by
  refine fn_mk (ps := ["bits"]) T.dFull (fun _ _ _ _ _ _ us hl => match us, hl with | [_], _ => rfl) fun f fd F => okN F sc_full_of (fun vs H Q E h => by obtain ⟨b, rfl, _⟩ := h; rfl) fun cdv A outer s H vs Q E hr h => ?_
  obtain ⟨b, rfl, hb, q⟩ := h
  refine ⟨_, (pss_cons (ps_set (i := 1) sc_full_of.nd rfl (by first | exact Or.inl rfl | exact Or.inr rfl) pe_int)
    (pss_cons (ps_for PassesOwn.leaving rfl (q_range T.n_range (pa_cons (pv 0) pa_nil)) (pg_name (i := 2) sc_full_of.nd rfl (by first | exact Or.inl rfl | exact Or.inr rfl))
    (pss_one (ps_set (i := 1) sc_full_of.nd rfl (by first | exact Or.inl rfl | exact Or.inr rfl) (pe_op op_add (pe_op op_mul pe_int (pv 1)) pe_int))))
    (pss_one (ps_ret (pv 1))))), ?_⟩
  rw [show L2.start ["bits", "found", "bit"] [V.int b] = [some (.int b), none, none] from rfl]
  walk_at "sx"
  refine x_rforR b rfl (by omega) (fun i σ H1 => ∃ o2, σ = [some (.int b), some (.int (fullN i)), o2] ∧ H1 = H) ⟨_, rfl, rfl⟩ ?_ ?_
  · rintro i σ H1 hi ⟨o2, rfl, rfl⟩
    walk_at "sx"
    refine x_rI (.inl ⟨by decide, by decide⟩) ?_
    walk_at "sx"
    rw [← fullN_succ]
    exact ⟨_, rfl, rfl⟩
  · rintro σ H1 ⟨o2, rfl, rfl⟩
    walk_at "sx"
    exact q
def numOk (nv bv hv : V) : Bool := isW bv 1 8 && (isW hv 0 255 && isW nv 0 268435455)
def numGood (nv bv hv : V) : Bool := match nv, bv, hv with
  | .int n, .int b, .int h => numOk nv bv hv && decide (h % (fullN b.toNat + 1) = 0)
  | _, _, _ => false
def spNumB (K : PySem.W.Frag) (c : Nat → Addr) : Sp := fun vs H Q E => ∃ (nv bv hv : V), vs = [nv, bv, hv] ∧ Ty7 K H nv ∧ Ty7 K H bv ∧ Ty7 K H hv ∧
  (∀ (n h : Int) (b : Nat), nv = .int n → bv = .int b → hv = .int h → 1 ≤ b → b ≤ 8 → 0 ≤ h → h ≤ 255 → 0 ≤ n → n ≤ 268435455 → h % (fullN b + 1) = 0 → ∀ p H', Same H H' → H p = none → H' p = some (.lst ((numB n b h).map V.int)) → Q (.ref p) H') ∧ (numGood nv bv hv = false → E (.ref (c 1)) none H)
theorem ok_numB (T : TxN K mg c) : Fn P w K mg base 2 "number_bytes" (spNumB K c) := by
  have Fw : Fn P w K mg base 1 "is_whole" (spWhole K) := ok_whole T.n_isinstance T.n_int T.n_bool T.dWhole
  have Fd : Fn P w K mg base 1 "need" (spNeed c 1) := ok_need T.er T.dNeed
  have Ff : Fn P w K mg base 1 "full_of" spFull := ok_full T
  refine fn_mk (ps := ["number", "bits", "head"]) T.dNumB (fun _ _ _ _ _ _ us hl => match us, hl with | [_, _, _], _ => rfl) fun f fd F => okN F sc_number_bytes (fun vs H Q E h => by obtain ⟨a, b, d, rfl, _⟩ := h; rfl) fun cdv A outer s H vs Q E hr h => ?_
  obtain ⟨nv, bv, hv, rfl, t1, t2, t3, q1, q2⟩ := h
  refine ⟨_, (pss_cons (ps_expr (q_fn Fd hr (pN rfl rfl rfl rfl) (pa_cons (pe_and (q_fn Fw hr pass0N (pa_cons (pv 1) (pa_cons pe_int (pa_cons pe_int pa_nil)))) (pe_and (q_fn Fw hr pass0N (pa_cons (pv 2) (pa_cons pe_int (pa_cons pe_int pa_nil)))) (pe_one (q_fn Fw hr pass0N (pa_cons (pv 0) (pa_cons pe_int (pa_cons (q_int T.gMOST) pa_nil))))))) pa_nil)))
    (pss_cons (ps_set (i := 3) sc_number_bytes.nd rfl (by first | exact Or.inl rfl | exact Or.inr rfl) (q_fn Ff hr pass0N (pa_cons (pv 1) pa_nil)))
    (pss_cons (ps_expr (q_fn Fd hr (pN rfl rfl rfl rfl) (pa_cons (pe_cmpR op_eq (pe_op op_mod (pv 2) (pe_op op_add (pv 3) pe_int)) pe_int (nomark _)) pa_nil)))
    (pss_cons (ps_if (pt_cmpR op_lt (pv 0) (pv 3) (nomark _))
    (pss_one (ps_ret (pe_lst (pa_cons (pe_op op_add (pv 2) (pv 0)) pa_nil))))
    pss_nil)
    (pss_cons (ps_set (i := 4) sc_number_bytes.nd rfl (by first | exact Or.inl rfl | exact Or.inr rfl) (pe_lst (pa_cons (pe_op op_add (pv 2) (pv 3)) pa_nil)))
    (pss_cons (ps_set (i := 5) sc_number_bytes.nd rfl (by first | exact Or.inl rfl | exact Or.inr rfl) (pe_op op_sub (pv 0) (pv 3)))
    (pss_cons (ps_while PassesOwn.leaving (pt_cmpR op_ge (pv 5) pe_int (nomark _))
    (pss_cons (ps_expr (k_bm K PySem.F.plainAttrs_list PySem.F.slot_list_append PySem.F.type_list_append mt_append (pv 4) (pa_cons (pe_op op_add pe_int (pe_op op_mod (pv 5) pe_int)) pa_nil)))
      (pss_one (ps_set (i := 5) sc_number_bytes.nd rfl (by first | exact Or.inl rfl | exact Or.inr rfl) (pe_op op_fdiv (pv 5) pe_int)))))
    (pss_one (ps_ret (pe_op op_cat (pv 4) (pe_lst (pa_cons (pv 5) pa_nil)))))))))))), ?_⟩
  rw [show L2.start ["number", "bits", "head", "full", "found", "rest"] [nv, bv, hv] = [some nv, some bv, some hv, none, none, none] from rfl]
  have bad : numOk nv bv hv = false → E (.ref (c 1)) none H := fun h => q2 (by
    unfold numGood
    split
    · rw [h]; rfl
    · rfl)
  walk_at "sx"
  refine ⟨bv, 1, 8, rfl, t2, ?_⟩
  walk_at "sx"
  refine x_b (fun e1 => ?_) fun e1 => ?_
  rotate_left
  · refine ⟨false, rfl, (fun e => nomatch e), fun _ => bad (by rw [numOk, e1]; rfl)⟩
  walk_at "sx"
  refine ⟨hv, 0, 255, rfl, t3, ?_⟩
  walk_at "sx"
  refine x_b (fun e2 => ?_) fun e2 => ?_
  rotate_left
  · refine ⟨false, rfl, (fun e => nomatch e), fun _ => bad (by rw [numOk, e1, e2]; rfl)⟩
  walk_at "sx"
  refine ⟨nv, 0, 268435455, rfl, t1, ?_⟩
  refine ⟨_, rfl, fun e3 => ?_, fun e3 => bad (by rw [numOk, e1, e2, e3]; rfl)⟩
  obtain ⟨bi, rfl, b1, b2⟩ := isW_true e1
  obtain ⟨h, rfl, h1, h2⟩ := isW_true e2
  obtain ⟨n, rfl, n1, n2⟩ := isW_true e3
  obtain ⟨b, rfl⟩ : ∃ b : Nat, bi = b := ⟨bi.toNat, by omega⟩
  walk_at "sx"
  refine ⟨b, rfl, by omega, ?_⟩
  have f0 := fullN_pos b
  have f1 := fullN_le (b := b) (by omega)
  walk_at "sx"
  refine x_rI (by omega) ?_
  walk_at "sx"
  refine x_rEq rfl ?_
  refine ⟨_, rfl, fun e4 => ?_, fun e4 => q2 (by
    unfold numGood
    have : decide (h % (fullN b + 1) = 0) = false := by simpa using e4
    show (numOk _ _ _ && decide (h % (fullN (b : Int).toNat + 1) = 0)) = false
    rw [Int.toNat_natCast, this, Bool.and_false])⟩
  have e4 : h % (fullN b + 1) = 0 := V.int.inj (of_decide_eq_true e4)
  have q := q1 n h b rfl rfl rfl (by omega) (by omega) h1 h2 n1 n2 e4
  walk_at "sx"
  refine x_2 (fun e5 => ?_) fun e5 => ?_
  · walk_at "sx"
    refine ⟨szle (by show 1 ≤ 100000; decide), fun p np => ?_⟩
    refine q p _ (same_upd np) np ?_
    rw [numB, if_pos e5]
    exact upd_same
  walk_at "sx"
  refine ⟨szle (by show 1 ≤ 100000; decide), fun p np => ?_⟩
  walk_at "sx"
  obtain ⟨r0, hr0⟩ : ∃ r0 : Nat, n - fullN b = r0 := ⟨(n - fullN b).toNat, by omega⟩
  rw [hr0]
  refine x_while (fun m σ H1 => ∃ (r : Nat) (ys : List Int), r = m ∧ σ = [some (.int n), some (.int b), some (.int h), some (.int (fullN b)), some (.ref p), some (.int r)] ∧ H1 = upd H p (.lst (ys.map V.int)) ∧ ys ++ tlB r = numB n b h) r0 ⟨r0, [h + fullN b], rfl, rfl, rfl, ?_⟩ ?_
  · rw [numB, if_neg e5, hr0, Int.toNat_natCast]
    rfl
  rintro m σ H1 ⟨r, ys, rfl, rfl, rfl, ey⟩
  have hl : ys.length ≤ 5 := by
    have := numB_len (b := b) (h := h) n1 n2
    rw [← ey, List.length_append] at this
    omega
  walk_at "sx"
  refine x_2 (fun e6 => ?_) fun e6 => ?_
  · have hlt : r / 128 < r := Nat.div_lt_self (by omega) (by decide)
    refine x_wb ?_
    walk_at "sx"
    refine ⟨tyL upd_same, ?_⟩
    walk_at "sx"
    refine x_rI (by decide) ?_
    walk_at "sx"
    refine x_append upd_same (Nat.lt_of_le_of_lt (m := 1000) (by rw [List.length_map]; omega) (by decide)) ?_
    rw [upd_upd]
    walk_at "sx"
    refine x_rI ⟨by decide, by decide⟩ ?_
    walk_at "sx"
    have er : (r : Int) / 128 = ((r / 128 : Nat) : Int) := by omega
    have er2 : (r : Int) % 128 = ((r % 128 : Nat) : Int) := by omega
    rw [er, er2]
    refine ⟨r / 128, hlt, r / 128, ys ++ [128 + ((r % 128 : Nat) : Int)], rfl, rfl, ?_, ?_⟩
    · rw [List.map_append]; rfl
    · rw [← ey, tlB_ge (r := r) (by omega), List.append_assoc]; rfl
  · walk_at "sx"
    refine ⟨szle (by show 1 ≤ 100000; decide), fun p2 m2 => ?_⟩
    refine x_cat (upd_old m2 upd_same) upd_same (szle (by rw [List.length_map, List.length_singleton]; omega)) fun p3 m3 => ?_
    have n3 : H p3 = none := (same_upd np).free ((same_upd m2).free m3)
    refine q p3 _ (((same_upd np).trans (same_upd m2)).trans (same_upd m3)) n3 ?_
    rw [upd_same, ← ey, tlB_lt (by omega), List.map_append]
    rfl
/-- the byte at a place -/
def spByte (K : PySem.W.Frag) (c : Nat → Addr) : Sp := fun vs H Q E => ∃ (rv : V) (i : Nat), vs = [rv, .int i] ∧
  ((∃ a xs, rv = .ref a ∧ Row K H a xs ∧ (∀ x ∈ xs, Ty7 K H x) ∧ (∀ b, byteO xs i = some b → ∀ H', Same H H' → Q (.int b) H') ∧ (byteO xs i = none → ∀ H', Same H H' → E (.ref (c 1)) none H')) ∨
   ((∃ T ∈ tyN, TyX K H rv (.type T) ∧ (T == "list" || T == "tuple") = false) ∧ ∀ H', Same H H' → E (.ref (c 1)) none H'))
theorem ok_byte (T : TxN K mg c) : Fn P w K mg base 2 "byte_at" (spByte K c) := by
  have Fw : Fn P w K mg base 1 "is_whole" (spWhole K) := ok_whole T.n_isinstance T.n_int T.n_bool T.dWhole
  have Fd : Fn P w K mg base 1 "need" (spNeed c 1) := ok_need T.er T.dNeed
  refine fn_mk (ps := ["row", "at"]) T.dByte (fun _ _ _ _ _ _ us hl => match us, hl with | [_, _], _ => rfl) fun f fd F => okN F sc_byte_at (fun vs H Q E h => by obtain ⟨a, b, rfl, _⟩ := h; rfl) fun cdv A outer s H vs Q E hr h => ?_
  obtain ⟨rv, i, rfl, h⟩ := h
  refine ⟨_, (pss_cons (ps_expr (q_fn Fd hr (pN rfl rfl rfl rfl) (pa_cons (pe_and (q_cb (kc_isiT K) T.n_isinstance bb_isinstance (pa_cons (pv 0) (pa_cons (pe_tup (pa_cons (q_ty T.n_list bb_list) (pa_cons (q_ty T.n_tuple bb_tuple) pa_nil))) pa_nil))) (pe_and (pe_cmpR op_lt (pv 1) (q_cb (kc_len K) T.n_len bb_len (pa_cons (pv 0) pa_nil)) (nomark _)) (pe_one (q_fn Fw hr pass0N (pa_cons (pe_ix (kx_seq K) (pv 0) (pv 1) (fun _ _ => rfl)) (pa_cons pe_int (pa_cons pe_int pa_nil))))))) pa_nil)))
    (pss_one (ps_ret (pe_ix (kx_seq K) (pv 0) (pv 1) (fun _ _ => rfl))))), ?_⟩
  rw [show L2.start ["row", "at"] [rv, V.int i] = [some rv, some (.int i)] from rfl]
  walk_at "sx"
  refine ⟨szle (by show 2 ≤ 100000; decide), fun p np => ?_⟩
  have sp := same_upd (o := .tup [.ty "list", .ty "tuple"]) np
  walk_at "sx"
  rcases h with ⟨a, xs, rfl, hR, ht, q1, q2⟩ | ⟨⟨T7, hT, ht, hn⟩, q2⟩
  · have hR1 := hR.same sp
    obtain ⟨T7, hT, h7, h8⟩ := hR1.ty
    refine x_isLT hT h7 upd_same ?_
    rw [h8]
    walk_at "sx"
    refine x_lenR hR1 ?_
    walk_at "sx"
    refine x_2 (fun e1 => ?_) fun e1 => ?_
    · have hi : i < xs.length := by omega
      have hx : xs[i]? = some xs[i] := List.getElem?_eq_getElem hi
      have hat : atI xs (i : Int) = some xs[i] := atI_get (by omega) (by rw [Int.toNat_natCast]; exact hx)
      walk_at "sx"
      refine x_ixR hR1 hat ?_
      walk_at "sx"
      refine ⟨xs[i], 0, 255, rfl, (ht _ (List.getElem_mem hi)).same sp, ?_⟩
      refine ⟨_, rfl, fun e2 => ?_, fun e2 => q2 (by unfold byteO; rw [hx]; simp only; rw [if_neg (by rw [e2]; exact Bool.false_ne_true)]) _ sp⟩
      obtain ⟨b, eb, b0, b1⟩ := isW_true e2
      walk_at "sx"
      refine x_ixR hR1 hat ?_
      rw [eb]
      exact q1 b (by unfold byteO; rw [hx]; simp only; rw [if_pos e2, eb]) _ sp
    · walk_at "sx"
      refine ⟨false, rfl, (fun e => nomatch e), fun _ => q2 ?_ _ sp⟩
      unfold byteO
      rw [List.getElem?_eq_none (by omega)]
  · refine x_isLT hT (tyx_same sp ht) upd_same ?_
    rw [hn]
    walk_at "sx"
    exact ⟨false, rfl, (fun e => nomatch e), fun _ => q2 _ sp⟩
def rdRes (K : PySem.W.Frag) (c : Nat → Addr) (r : Option (Int × Nat)) (H : Hp) (Q : VK) (E : XK) : Prop :=
  (∀ n e, r = some (n, e) → ∀ p H', Same H H' → H p = none → H' p = some (.tup [.int n, .int (e : Nat)]) → Q (.ref p) H') ∧ (r = none → ∀ H', Same H H' → E (.ref (c 1)) none H')
def spRead (K : PySem.W.Frag) (c : Nat → Addr) : Sp := fun vs H Q E => ∃ (rv bv : V) (i : Nat), vs = [rv, .int i, bv] ∧ Ty7 K H bv ∧
  ((∃ a xs, rv = .ref a ∧ Row K H a xs ∧ (∀ x ∈ xs, Ty7 K H x) ∧ (∀ b : Nat, bv = .int b → 1 ≤ b → b ≤ 8 → rdRes K c (readN xs i b) H Q E) ∧ (isW bv 1 8 = false → E (.ref (c 1)) none H)) ∨
   ((∃ T ∈ tyN, TyX K H rv (.type T) ∧ (T == "list" || T == "tuple") = false) ∧ ∀ H', Same H H' → E (.ref (c 1)) none H'))
theorem byteO_le {xs : List V} {n : Nat} {b : Int} (h : byteO xs n = some b) : 0 ≤ b ∧ b ≤ 255 := by
  unfold byteO at h
  split at h
  · split at h
    · rename_i v _ hw
      obtain ⟨i, rfl, h0, h1⟩ := isW_true hw
      cases h
      exact ⟨h0, h1⟩
    · cases h
  · cases h
theorem ok_read (T : TxN K mg c) : Fn P w K mg base 3 "read_number" (spRead K c) := by
  have Fw : Fn P w K mg base 1 "is_whole" (spWhole K) := ok_whole T.n_isinstance T.n_int T.n_bool T.dWhole
  have Fd : Fn P w K mg base 1 "need" (spNeed c 1) := ok_need T.er T.dNeed
  have Ff : Fn P w K mg base 1 "full_of" spFull := ok_full T
  have Fb : Fn P w K mg base 2 "byte_at" (spByte K c) := ok_byte T
  refine fn_mk (ps := ["row", "at", "bits"]) T.dRead (fun _ _ _ _ _ _ us hl => match us, hl with | [_, _, _], _ => rfl) fun f fd F => okN F sc_read_number (fun vs H Q E h => by obtain ⟨a, b, d, rfl, _⟩ := h; rfl) fun cdv A outer s H vs Q E hr h => ?_
  obtain ⟨rv, bv, i, rfl, t1, h⟩ := h
  refine ⟨_, (pss_cons (ps_expr (q_fn Fd hr (pN rfl rfl rfl rfl) (pa_cons (q_fn Fw hr pass0N (pa_cons (pv 2) (pa_cons pe_int (pa_cons pe_int pa_nil)))) pa_nil)))
    (pss_cons (ps_set (i := 3) sc_read_number.nd rfl (by first | exact Or.inl rfl | exact Or.inr rfl) (q_fn Ff hr pass0N (pa_cons (pv 2) pa_nil)))
    (pss_cons (ps_set (i := 4) sc_read_number.nd rfl (by first | exact Or.inl rfl | exact Or.inr rfl) (pe_op op_mod (q_fn Fb hr (pN rfl rfl rfl rfl) (pa_cons (pv 0) (pa_cons (pv 1) pa_nil))) (pe_op op_add (pv 3) pe_int)))
    (pss_cons (ps_set (i := 1) sc_read_number.nd rfl (by first | exact Or.inl rfl | exact Or.inr rfl) (pe_op op_add (pv 1) pe_int))
    (pss_cons (ps_if (pt_cmpR op_lt (pv 4) (pv 3) (nomark _))
    (pss_one (ps_ret (pe_tup (pa_cons (pv 4) (pa_cons (pv 1) pa_nil)))))
    pss_nil)
    (pss_cons (ps_set (i := 5) sc_read_number.nd rfl (by first | exact Or.inl rfl | exact Or.inr rfl) pe_int)
    (pss_cons (ps_set (i := 6) sc_read_number.nd rfl (by first | exact Or.inl rfl | exact Or.inr rfl) pe_int)
    (pss_cons (ps_while PassesOwn.leaving (pt_cmpR op_ge (pv 6) pe_int (nomark _))
    (pss_cons (ps_set (i := 6) sc_read_number.nd rfl (by first | exact Or.inl rfl | exact Or.inr rfl) (q_fn Fb hr (pN rfl rfl rfl rfl) (pa_cons (pv 0) (pa_cons (pv 1) pa_nil))))
      (pss_cons (ps_set (i := 4) sc_read_number.nd rfl (by first | exact Or.inl rfl | exact Or.inr rfl) (pe_op op_add (pv 4) (pe_op op_mul (pe_op op_mod (pv 6) pe_int) (pv 5))))
      (pss_cons (ps_expr (q_fn Fd hr (pN rfl rfl rfl rfl) (pa_cons (pe_mid (pe_and (pe_cmpR op_le (pv 4) (q_int T.gMOST) (nomark _)) (pe_one (pe_or (pe_cmpR op_gt (pv 6) pe_int (nomark _)) (pe_one (pe_cmpR op_eq (pv 5) pe_int (nomark _))))))) pa_nil)))
      (pss_cons (ps_set (i := 5) sc_read_number.nd rfl (by first | exact Or.inl rfl | exact Or.inr rfl) (pe_op op_mul (pv 5) pe_int))
      (pss_one (ps_set (i := 1) sc_read_number.nd rfl (by first | exact Or.inl rfl | exact Or.inr rfl) (pe_op op_add (pv 1) pe_int))))))))
    (pss_one (ps_ret (pe_tup (pa_cons (pv 4) (pa_cons (pv 1) pa_nil))))))))))))), ?_⟩
  rw [show L2.start ["row", "at", "bits", "full", "found", "by", "more"] [rv, V.int i, bv] = [some rv, some (.int i), some bv, none, none, none, none] from rfl]
  walk_at "sx"
  refine ⟨bv, 1, 8, rfl, t1, ?_⟩
  rcases h with ⟨a, xs, rfl, hR, ht, q1, q2⟩ | ⟨hn, q2⟩
  rotate_left
  · refine ⟨_, rfl, fun e1 => ?_, fun e1 => q2 _ (Same.refl _)⟩
    obtain ⟨bi, rfl, b1, b2⟩ := isW_true e1
    obtain ⟨b, rfl⟩ : ∃ b : Nat, bi = b := ⟨bi.toNat, by omega⟩
    walk_at "sx"
    refine ⟨b, rfl, by omega, ?_⟩
    walk_at "sx"
    exact ⟨rv, i, rfl, .inr ⟨hn, q2⟩⟩
  refine ⟨_, rfl, fun e1 => ?_, q2⟩
  obtain ⟨bi, rfl, b1, b2⟩ := isW_true e1
  obtain ⟨b, rfl⟩ : ∃ b : Nat, bi = b := ⟨bi.toNat, by omega⟩
  obtain ⟨q1, q2⟩ := q1 b rfl (by omega) (by omega)
  have f0 := fullN_pos b
  have f1 := fullN_le (b := b) (by omega)
  walk_at "sx"
  refine ⟨b, rfl, by omega, ?_⟩
  walk_at "sx"
  refine ⟨.ref a, i, rfl, .inl ⟨a, xs, rfl, hR, ht, fun m hm H1 s1 => ?_, fun hm => q2 (by rw [readN, hm])⟩⟩
  rw [readN, hm] at q1 q2
  simp only at q1 q2
  walk_at "sx"
  refine x_rI (by omega) ?_
  walk_at "sx"
  refine x_2 (fun e2 => ?_) fun e2 => ?_
  · walk_at "sx"
    refine ⟨szle (by show 2 ≤ 100000; decide), fun p np => ?_⟩
    exact q1 _ (i + 1) (by rw [if_pos e2]) p _ (s1.trans (same_upd np)) (s1.free np) upd_same
  rw [if_neg e2] at q1 q2
  generalize m % (fullN b + 1) = f0 at *
  walk_at "sx"
  refine x_while (fun d σ H2 => ∃ (e : Nat) (found by_ more : Int), σ = [some (.ref a), some (.int e), some (.int b), some (.int (fullN b)), some (.int found), some (.int by_), some (.int more)] ∧ Same H H2 ∧ d + e = xs.length + i + 2 ∧ e ≤ xs.length + i + 2 ∧ rdL (xs.drop (i + 1)) f0 1 (i + 1) = if 128 ≤ more then rdL (xs.drop e) found by_ e else some (found, e)) (xs.length + 1) ⟨i + 1, f0, 1, 255, rfl, s1, by omega, by omega, rfl⟩ ?_
  rintro d σ H2 ⟨e, found, by_, more, rfl, s2, hd, he, hr⟩
  walk_at "sx"
  refine x_2 (fun e3 => ?_) fun e3 => ?_
  · rw [if_pos e3] at hr
    refine x_wb ?_
    walk_at "sx"
    refine ⟨.ref a, e, rfl, .inl ⟨a, xs, rfl, hR.same s2, fun x hx => (ht x hx).same s2, fun m2 hm2 H3 s3 => ?_, fun hm2 H3 s3 => q2 ?_ _ (s2.trans s3)⟩⟩
    · have hb2 := byteO_le hm2
      have hel : e < xs.length := by
        rcases Nat.lt_or_ge e xs.length with h | h
        · exact h
        · unfold byteO at hm2
          rw [List.getElem?_eq_none h] at hm2
          cases hm2
      rw [byteO_drop] at hm2
      have hdr : xs.drop e = xs[e] :: xs.drop (e + 1) := List.drop_eq_getElem_cons hel
      rw [hdr] at hm2 hr
      simp only at hm2
      rw [rdL, hm2] at hr
      simp only at hr
      walk_at "sx"
      refine x_rI (by decide) ?_
      walk_at "sx"
      refine x_rI (.inl ⟨by omega, by omega⟩) ?_
      walk_at "sx"
      refine x_emid (fun v H4 => v = .bl (decide (found + m2 % 128 * by_ ≤ 268435455 ∧ (0 < m2 ∨ by_ = 1))) ∧ H4 = H3) ?_ ?_
      · walk_at "sx"
        refine x_2 (fun e4 => ?_) fun e4 => ?_
        · walk_at "sx"
          refine x_2 (fun e5 => ?_) fun e5 => ?_
          · exact ⟨by rw [decide_eq_true ⟨e4, .inl e5⟩], rfl⟩
          · walk_at "sx"
            refine x_rEq rfl ?_
            refine ⟨?_, rfl⟩
            by_cases e6 : by_ = 1
            · rw [show decide (V.int by_ = V.int 1) = true from decide_eq_true (by rw [e6]), show decide (found + m2 % 128 * by_ ≤ 268435455 ∧ (0 < m2 ∨ by_ = 1)) = true from decide_eq_true ⟨e4, .inr e6⟩]
            · rw [show decide (V.int by_ = V.int 1) = false from decide_eq_false (fun z => e6 (V.int.inj z)), show decide (found + m2 % 128 * by_ ≤ 268435455 ∧ (0 < m2 ∨ by_ = 1)) = false from decide_eq_false (fun z => z.2.elim e5 e6)]
        · exact ⟨by rw [decide_eq_false (fun z => e4 z.1)], rfl⟩
      rintro v H4 ⟨rfl, rfl⟩
      walk_at "sx"
      refine ⟨_, rfl, fun e4 => ?_, fun e4 => q2 (by rw [hr, if_neg (of_decide_eq_false e4)]) _ (s2.trans s3)⟩
      rw [if_pos (of_decide_eq_true e4)] at hr
      walk_at "sx"
      refine x_rI (.inr ⟨by decide, by decide⟩) ?_
      walk_at "sx"
      exact ⟨d - 1, by omega, e + 1, _, _, _, rfl, s2.trans s3, by omega, by omega, hr⟩
    · rw [hr]
      rw [byteO_drop] at hm2
      cases edr : xs.drop e with
      | nil => rfl
      | cons v r =>
        rw [edr] at hm2
        simp only at hm2
        rw [rdL, hm2]
  · rw [if_neg e3] at hr
    walk_at "sx"
    refine ⟨szle (by show 2 ≤ 100000; decide), fun p np => ?_⟩
    exact q1 found e hr p _ (s2.trans (same_upd np)) (s2.free np) upd_same
end
end Lw

set_option Elab.async false
set_option linter.all false
set_option maxRecDepth 100000
set_option maxHeartbeats 4000000
namespace Lw
open PySem PySem.Spec PyProof.Rows L2 HotX LamX Ws
local macro_rules | `(tactic| walk_at "sv") => `(tactic| (with_reducible first
  | refine x_v0 ?_ | refine x_v1 ?_ | refine x_v2 ?_ | refine x_v3 ?_ | refine x_v4 ?_ | refine x_v5 ?_ | refine x_v6 ?_ | refine x_v7 ?_ | refine x_v8 ?_ | refine x_v9 ?_ | refine x_v10 ?_ | refine x_v11 ?_ | refine x_v12 ?_ | refine x_v13 ?_ | refine x_v14 ?_ | refine x_v15 ?_ | refine x_v16 ?_ | refine x_v17 ?_ | refine x_v18 ?_ | refine x_v19 ?_ | refine x_v20 ?_ | refine x_v21 ?_ | refine x_v22 ?_ | refine x_v23 ?_ | refine x_v24 ?_ | refine x_v25 ?_ | refine x_v26 ?_ | refine x_v27 ?_))
local macro_rules | `(tactic| walk_at "sn") => `(tactic| (with_reducible first
  | refine x_n0 ?_ | refine x_n1 ?_ | refine x_n2 ?_ | refine x_n3 ?_ | refine x_n4 ?_ | refine x_n5 ?_ | refine x_n6 ?_ | refine x_n7 ?_ | refine x_n8 ?_ | refine x_n9 ?_ | refine x_n10 ?_ | refine x_n11 ?_ | refine x_n12 ?_ | refine x_n13 ?_ | refine x_n14 ?_ | refine x_n15 ?_ | refine x_n16 ?_ | refine x_n17 ?_ | refine x_n18 ?_ | refine x_n19 ?_ | refine x_n20 ?_ | refine x_n21 ?_ | refine x_n22 ?_ | refine x_n23 ?_ | refine x_n24 ?_ | refine x_n25 ?_ | refine x_n26 ?_ | refine x_n27 ?_))
local macro_rules | `(tactic| walk_at "s1") => `(tactic| (first | (with_reducible first
  | refine x_c ?_ | refine x_op ?_ | refine x_un ?_ | refine x_rU ?_ | refine x_rI0 ?_ | refine x_chain ?_ | refine x_ex ?_ | refine x_test ?_ | refine x_tB ?_
  | refine x_tAnd ?_ | refine x_tOr ?_ | refine x_tNot ?_ | refine x_andV ?_ | refine x_orV ?_ | refine x_notV ?_ | refine x_tIf ?_ | refine x_T ?_ | refine x_F ?_ | refine x_seq ?_ | refine x_next ?_ | refine x_asg ?_
  | refine x_ret ?_ | refine x_retN ?_ | refine x_ifS ?_ | refine x_drop ?_ | refine x_nil ?_ | refine x_cons ?_ | refine x_tup ?_ | refine x_lst ?_ | refine x_call ?_ | refine x_cb ?_ | refine x_meth ?_ | refine x_make ?_ | refine x_fld ?_ | refine x_sfld ?_
  | refine x_bm ?_ | refine x_bm0 ?_ | refine x_sl ?_ | refine x_part ?_ | refine x_iex ?_ | refine x_nopart ?_ | refine x_forR ?_ | refine x_forL ?_ | refine x_forE ?_ | refine x_lcL ?_ | refine x_lcR ?_ | refine x_gcons ?_ | refine x_gnil ?_ | refine x_revL ?_ | refine x_notN ?_ | refine x_isN ?_ | refine x_yes ?_ | refine x_dget ?_ | refine x_sdput ?_ | refine x_gsub ?_ | refine x_setD ?_ | refine x_pcons ?_ | refine x_pnil ?_ | refine x_cont ?_ | refine x_dget2 ?_) | walk_at "sv" | walk_at "sn"))
local macro_rules | `(tactic| walk_at "sx") => `(tactic| repeat walk_at "s1")
/-! ### numbers as bytes: the plain law -/
theorem fullN_1 : fullN 1 = 1 := by decide
theorem fullN_2 : fullN 2 = 3 := by decide
theorem fullN_3 : fullN 3 = 7 := by decide
theorem fullN_4 : fullN 4 = 15 := by decide
theorem fullN_5 : fullN 5 = 31 := by decide
theorem fullN_6 : fullN 6 = 63 := by decide
theorem fullN_7 : fullN 7 = 127 := by decide
theorem fullN_8 : fullN 8 = 255 := by decide
theorem bits8 {b : Nat} {p : Nat → Prop} (h0 : 1 ≤ b) (h1 : b ≤ 8) (h : p 1 ∧ p 2 ∧ p 3 ∧ p 4 ∧ p 5 ∧ p 6 ∧ p 7 ∧ p 8) : p b := by
  obtain ⟨a1, a2, a3, a4, a5, a6, a7, a8⟩ := h
  match b, h0, h1 with
  | 1, _, _ => exact a1
  | 2, _, _ => exact a2
  | 3, _, _ => exact a3
  | 4, _, _ => exact a4
  | 5, _, _ => exact a5
  | 6, _, _ => exact a6
  | 7, _, _ => exact a7
  | 8, _, _ => exact a8
theorem head_fit {b : Nat} (h0 : 1 ≤ b) (h1 : b ≤ 8) : ∀ h : Int, 0 ≤ h → h ≤ 255 → h % (fullN b + 1) = 0 → h + fullN b ≤ 255 := by
  refine bits8 (p := fun b => ∀ h : Int, 0 ≤ h → h ≤ 255 → h % (fullN b + 1) = 0 → h + fullN b ≤ 255) h0 h1 ⟨?_, ?_, ?_, ?_, ?_, ?_, ?_, ?_⟩
  · rw [fullN_1]; intros; omega
  · rw [fullN_2]; intros; omega
  · rw [fullN_3]; intros; omega
  · rw [fullN_4]; intros; omega
  · rw [fullN_5]; intros; omega
  · rw [fullN_6]; intros; omega
  · rw [fullN_7]; intros; omega
  · rw [fullN_8]; intros; omega
theorem head_made {b : Nat} (h0 : 1 ≤ b) (h1 : b ≤ 8) : ∀ x : Int, 0 ≤ x % (256 / (fullN b + 1)) * (fullN b + 1) ∧ x % (256 / (fullN b + 1)) * (fullN b + 1) ≤ 255 ∧ x % (256 / (fullN b + 1)) * (fullN b + 1) % (fullN b + 1) = 0 ∧ 0 < 256 / (fullN b + 1) ∧ 256 / (fullN b + 1) ≤ 256 := by
  refine bits8 (p := fun b => ∀ x : Int, 0 ≤ x % (256 / (fullN b + 1)) * (fullN b + 1) ∧ x % (256 / (fullN b + 1)) * (fullN b + 1) ≤ 255 ∧ x % (256 / (fullN b + 1)) * (fullN b + 1) % (fullN b + 1) = 0 ∧ 0 < 256 / (fullN b + 1) ∧ 256 / (fullN b + 1) ≤ 256) h0 h1 ⟨?_, ?_, ?_, ?_, ?_, ?_, ?_, ?_⟩
  · rw [fullN_1]; intros; omega
  · rw [fullN_2]; intros; omega
  · rw [fullN_3]; intros; omega
  · rw [fullN_4]; intros; omega
  · rw [fullN_5]; intros; omega
  · rw [fullN_6]; intros; omega
  · rw [fullN_7]; intros; omega
  · rw [fullN_8]; intros; omega
theorem step_at {b : Nat} (h0 : 1 ≤ b) (h1 : b ≤ 8) : atI [V.int 0, .int 2, .int 4, .int 8, .int 16, .int 32, .int 64, .int 128, .int 256] (b : Int) = some (.int (fullN b + 1)) :=
  bits8 (p := fun b => atI [V.int 0, .int 2, .int 4, .int 8, .int 16, .int 32, .int 64, .int 128, .int 256] (b : Int) = some (.int (fullN b + 1))) h0 h1 ⟨rfl, rfl, rfl, rfl, rfl, rfl, rfl, rfl⟩
theorem byteO_int {m : Int} (h0 : 0 ≤ m) (h1 : m ≤ 255) : byteO [V.int m] 0 = some m := by
  unfold byteO
  simp [isW, h0, h1]
theorem rdL_tl (suf : List Int) : ∀ (r : Nat) (found by_ : Int) (at_ : Nat), 1 ≤ by_ → found + r * by_ ≤ 268435455 → (by_ = 1 ∨ 0 < r) → rdL ((tlB r ++ suf).map V.int) found by_ at_ = some (found + r * by_, at_ + (tlB r).length) := by
  intro r
  induction r using Nat.strongRecOn with
  | ind r ih =>
    intro found by_ at_ hb hf hz
    by_cases e : 128 ≤ r
    · have hm0 : (r % 128 : Nat) < 128 := Nat.mod_lt _ (by decide)
      have e1 : (128 + ((r % 128 : Nat) : Int)) % 128 = ((r % 128 : Nat) : Int) := by omega
      have hr : (r : Int) = ((r % 128 : Nat) : Int) + 128 * ((r / 128 : Nat) : Int) := by omega
      have e2 : found + ((r % 128 : Nat) : Int) * by_ + ((r / 128 : Nat) : Int) * (by_ * 128) = found + r * by_ := by
        rw [hr, Int.add_mul]
        have : 128 * ((r / 128 : Nat) : Int) * by_ = ((r / 128 : Nat) : Int) * (by_ * 128) := by
          rw [Int.mul_comm 128, Int.mul_assoc, Int.mul_comm 128 by_]
        omega
      have hge : 0 ≤ ((r / 128 : Nat) : Int) * (by_ * 128) := Int.mul_nonneg (by omega) (by omega)
      rw [tlB_ge e, List.cons_append, List.map_cons, rdL, byteO_int (by omega) (by omega)]
      simp only
      rw [e1, if_pos ⟨by omega, .inl (by omega)⟩, if_pos (by omega), ih (r / 128) (Nat.div_lt_self (by omega) (by decide)) _ _ _ (by omega) (by omega) (.inr (Nat.div_pos e (by decide))), e2, List.length_cons]
      congr 2
      omega
    · have e1 : (r : Int) % 128 = r := by omega
      rw [tlB_lt e, List.cons_append, List.map_cons, rdL, byteO_int (by omega) (by omega)]
      simp only
      rw [e1, if_pos ⟨hf, by omega⟩, if_neg (by omega)]
      rfl
theorem readN_numB {n h : Int} {b : Nat} (pre suf : List Int) (b0 : 1 ≤ b) (b1 : b ≤ 8) (n0 : 0 ≤ n) (n1 : n ≤ 268435455) (h0 : 0 ≤ h) (h1 : h ≤ 255) (hm : h % (fullN b + 1) = 0) :
    readN ((pre ++ numB n b h ++ suf).map V.int) pre.length b = some (n, pre.length + (numB n b h).length) := by
  have f0 := fullN_pos b
  have hf := head_fit b0 b1 h h0 h1 hm
  have key : ∀ x : Int, 0 ≤ x → x ≤ fullN b → (h + x) % (fullN b + 1) = x := fun x x0 x1 => by
    rw [Int.add_emod, hm, Int.zero_add, Int.emod_emod_of_dvd _ (Int.dvd_refl _)]
    exact Int.emod_eq_of_lt x0 (by omega)
  have hd : ∀ (m : Int) (t : List Int), ((pre ++ (m :: t) ++ suf).map V.int).drop pre.length = V.int m :: (t ++ suf).map V.int := fun m t => by
    rw [List.append_assoc, List.map_append, List.drop_append_of_le_length (by rw [List.length_map]; exact Nat.le_refl _), List.drop_of_length_le (by rw [List.length_map]; exact Nat.le_refl _)]
    rfl
  unfold readN
  rw [byteO_drop]
  by_cases e : n < fullN b
  · have en : numB n b h = [h + n] := by rw [numB, if_pos e]
    rw [en, hd]
    simp only
    rw [byteO_int (by omega) (by omega)]
    simp only
    rw [key n n0 (by omega), if_pos e]
    rfl
  · have en : numB n b h = (h + fullN b) :: tlB (n - fullN b).toNat := by rw [numB, if_neg e]
    rw [en]
    have hd2 : ((pre ++ (h + fullN b) :: tlB (n - fullN b).toNat ++ suf).map V.int).drop (pre.length + 1) = (tlB (n - fullN b).toNat ++ suf).map V.int := by
      rw [← List.drop_drop, hd]; rfl
    rw [hd2, hd]
    simp only
    rw [byteO_int (by omega) (by omega)]
    simp only
    rw [key (fullN b) f0 (Int.le_refl _), if_neg (Int.lt_irrefl _), rdL_tl suf _ _ _ _ (by decide) (by omega) (.inl rfl), List.length_cons]
    congr 2
    · omega
    · first | omega | rfl
/-! the law's own parting -/
def dgB (r : Nat) : List Int := if h : 128 ≤ r then ((r % 128 : Nat) : Int) :: dgB (r / 128) else [(r : Int)]
termination_by r
decreasing_by omega
theorem dgB_ge {r : Nat} (h : 128 ≤ r) : dgB r = ((r % 128 : Nat) : Int) :: dgB (r / 128) := by rw [dgB, dif_pos h]
theorem dgB_lt {r : Nat} (h : ¬ 128 ≤ r) : dgB r = [(r : Int)] := by rw [dgB, dif_neg h]
theorem dgB_ne (r : Nat) : dgB r ≠ [] := by
  by_cases h : 128 ≤ r
  · rw [dgB_ge h]; simp
  · rw [dgB_lt h]; simp
theorem dgB_len : ∀ r : Nat, (dgB r).length = (tlB r).length := by
  intro r
  induction r using Nat.strongRecOn with
  | ind r ih =>
    by_cases e : 128 ≤ r
    · rw [dgB_ge e, tlB_ge e, List.length_cons, List.length_cons, ih _ (Nat.div_lt_self (by omega) (by decide))]
    · rw [dgB_lt e, tlB_lt e]
theorem tl_dg : ∀ r : Nat, tlB r = (dgB r).dropLast.map (fun d => d + 128) ++ (dgB r).drop ((dgB r).length - 1) := by
  intro r
  induction r using Nat.strongRecOn with
  | ind r ih =>
    by_cases e : 128 ≤ r
    · have hne := dgB_ne (r / 128)
      have hl : 0 < (dgB (r / 128)).length := List.length_pos_iff.mpr hne
      rw [tlB_ge e, dgB_ge e, List.dropLast_cons_of_ne_nil hne, List.map_cons, List.length_cons, Nat.add_sub_cancel, ih _ (Nat.div_lt_self (by omega) (by decide)), List.cons_append]
      congr 1
      · omega
      · congr 1
        obtain ⟨k, hk⟩ : ∃ k, (dgB (r / 128)).length = k + 1 := ⟨(dgB (r / 128)).length - 1, by omega⟩
        rw [hk]; rfl
    · rw [tlB_lt e, dgB_lt e]; rfl
theorem numB_h (n h : Int) (b : Nat) : (numB n b h).length = (numB n b 0).length := by
  unfold numB
  split <;> rfl
/-! ### numbers refused: the plain law -/
theorem rdL_inv : ∀ (ys : List Int) (found by_ n : Int) (at_ e : Nat), (∀ y ∈ ys, 0 ≤ y ∧ y ≤ 255) → 1 ≤ by_ → rdL (ys.map V.int) found by_ at_ = some (n, e) →
    ∃ r : Nat, n = found + r * by_ ∧ n ≤ 268435455 ∧ at_ ≤ e ∧ tlB r = ys.take (e - at_) ∧ (by_ = 1 ∨ 0 < r)
  | [], found, by_, n, at_, e, _, _, h => by simp [rdL] at h
  | m :: ys, found, by_, n, at_, e, hy, hb, h => by
    have hm := hy m List.mem_cons_self
    rw [List.map_cons, rdL, byteO_int hm.1 hm.2] at h
    simp only at h
    split at h
    · rename_i hc
      split at h
      · rename_i hm2
        obtain ⟨r, h1, h2, h3, h4, h5⟩ := rdL_inv ys _ _ n (at_ + 1) e (fun y hy' => hy y (List.mem_cons_of_mem _ hy')) (by omega) h
        have hr : 0 < r := h5.resolve_left (by omega)
        obtain ⟨m', rfl⟩ : ∃ m' : Nat, m = m' := ⟨m.toNat, by omega⟩
        refine ⟨m' % 128 + 128 * r, ?_, h2, by omega, ?_, .inr (by omega)⟩
        · rw [h1]
          have : (((m' % 128 + 128 * r : Nat) : Int)) * by_ = (m' : Int) % 128 * by_ + r * (by_ * 128) := by
            push_cast
            rw [Int.add_mul]
            congr 1
            rw [Int.mul_comm 128, Int.mul_assoc, Int.mul_comm 128 by_]
          omega
        · have e1 : (m' % 128 + 128 * r) % 128 = m' % 128 := by omega
          have e2 : (m' % 128 + 128 * r) / 128 = r := by omega
          rw [tlB_ge (by omega), e1, e2, h4]
          obtain ⟨k, hk⟩ : ∃ k, e - at_ = k + 1 := ⟨e - at_ - 1, by omega⟩
          have hk2 : e - (at_ + 1) = k := by omega
          rw [hk, hk2, List.take_succ_cons]
          congr 1
          omega
      · rename_i hm2
        cases h
        obtain ⟨m', rfl⟩ : ∃ m' : Nat, m = m' := ⟨m.toNat, by omega⟩
        have e1 : (m' : Int) % 128 = m' := by omega
        refine ⟨m', by rw [e1], hc.1, by omega, ?_, by omega⟩
        rw [tlB_lt (by omega), show at_ + 1 - at_ = 1 from by omega]
        rfl
    · cases h
theorem readN_inv {ys : List Int} {b e : Nat} {n : Int} (b0 : 1 ≤ b) (b1 : b ≤ 8) (hy : ∀ y ∈ ys, 0 ≤ y ∧ y ≤ 255) (h : readN (ys.map V.int) 0 b = some (n, e)) :
    ∃ m, ys[0]? = some m ∧ 0 ≤ n ∧ n ≤ 268435455 ∧ 0 ≤ m / (fullN b + 1) * (fullN b + 1) ∧ m / (fullN b + 1) * (fullN b + 1) ≤ 255 ∧ (m / (fullN b + 1) * (fullN b + 1)) % (fullN b + 1) = 0 ∧ numB n b (m / (fullN b + 1) * (fullN b + 1)) = ys.take e := by
  have f0 := fullN_pos b
  have f1 := fullN_le b1
  cases ys with
  | nil => simp [readN, byteO] at h
  | cons m r =>
    have hm := hy m List.mem_cons_self
    rw [readN, byteO_drop] at h
    rw [List.map_cons, List.drop_zero] at h
    simp only at h
    rw [byteO_int hm.1 hm.2] at h
    simp only at h
    have hd := Int.emod_add_mul_ediv m (fullN b + 1)
    have hmm : m / (fullN b + 1) * (fullN b + 1) = m - m % (fullN b + 1) := by rw [Int.mul_comm]; omega
    have hm0 := Int.emod_nonneg m (b := fullN b + 1) (by omega)
    have hm1 := Int.emod_lt_of_pos m (b := fullN b + 1) (by omega)
    have hq : 0 ≤ m / (fullN b + 1) * (fullN b + 1) := Int.mul_nonneg (Int.ediv_nonneg hm.1 (by omega)) (by omega)
    refine ⟨m, rfl, ?_⟩
    split at h
    · rename_i hlt
      cases h
      refine ⟨hm0, by omega, hq, by omega, Int.mul_emod_left _ _, ?_⟩
      rw [numB, if_pos hlt, hmm]
      show [_] = [m]
      congr 1
      omega
    · rename_i hlt
      have hfl : m % (fullN b + 1) = fullN b := by omega
      rw [hfl] at h
      rw [show ((0 : Nat) + 1) = 1 from rfl, List.drop_succ_cons, List.drop_zero] at h
      obtain ⟨s, h1, h2, h3, h4, _⟩ := rdL_inv r _ 1 n 1 e (fun y hy' => hy y (List.mem_cons_of_mem _ hy')) (by decide) h
      refine ⟨by omega, h2, hq, by omega, Int.mul_emod_left _ _, ?_⟩
      rw [numB, if_neg (by omega), hmm, hfl]
      have hs : (n - fullN b).toNat = s := by omega
      rw [hs, h4]
      obtain ⟨k, hk⟩ : ∃ k, e = k + 1 := ⟨e - 1, by omega⟩
      subst hk
      rw [List.take_succ_cons, Nat.add_sub_cancel]
      congr 1
      omega
abbrev badR (b : Nat) : List (List V) := [[], [.int (fullN b)], [.int (fullN b), .int 128], [.int (fullN b), .int 255, .int 255], [.int (fullN b), .int 128, .int 0], [.int (fullN b), .int 200, .int 128, .int 0],
  [.int (fullN b), .int 255, .int 255, .int 255, .int 255, .int 1], [.int (fullN b), .int 256], [.int (fullN b), .int (-1)], [.non], [.int 256], [.int (fullN b), .int 128, .int 128, .int 128, .int 128, .int 1]]
theorem bad_rows {b : Nat} (b0 : 1 ≤ b) (b1 : b ≤ 8) : ∀ xs ∈ badR b, readN xs 0 b = none := by
  refine bits8 (p := fun b => ∀ xs ∈ badR b, readN xs 0 b = none) b0 b1 ⟨?_, ?_, ?_, ?_, ?_, ?_, ?_, ?_⟩ <;>
  · intro xs hx
    simp only [List.mem_cons, List.not_mem_nil, or_false] at hx
    rcases hx with rfl | rfl | rfl | rfl | rfl | rfl | rfl | rfl | rfl | rfl | rfl | rfl <;> rfl
theorem bad_tys {K : PySem.W.Frag} {H : Hp} {b : Nat} : ∀ xs ∈ badR b, ∀ x ∈ xs, Ty7 K H x := by
  intro xs hx x hxs
  simp only [List.mem_cons, List.not_mem_nil, or_false] at hx
  rcases hx with rfl | rfl | rfl | rfl | rfl | rfl | rfl | rfl | rfl | rfl | rfl | rfl <;> simp only [List.mem_cons, List.not_mem_nil, or_false] at hxs <;>
    first
    | exact hxs.elim
    | (rcases hxs with rfl | rfl | rfl | rfl | rfl | rfl <;> exact ty7_int _)
    | (rcases hxs with rfl | rfl | rfl | rfl <;> exact ty7_int _)
    | (rcases hxs with rfl | rfl | rfl <;> exact ty7_int _)
    | (rcases hxs with rfl | rfl <;> exact ty7_int _)
    | (subst hxs; first | exact ty7_int _ | exact ty7_non)
abbrev badN (b : Nat) : List (V × V × V) := [(.int (-1), .int b, .int 0), (.int 268435456, .int b, .int 0), (.non, .int b, .int 0), (.bl true, .int b, .int 0), (.int 5, .int 0, .int 0), (.int 5, .int 9, .int 0)]
theorem bad_nums {b : Nat} (b0 : 1 ≤ b) (b1 : b ≤ 8) : ∀ t ∈ badN b, numGood t.1 t.2.1 t.2.2 = false := by
  intro t ht
  simp only [List.mem_cons, List.not_mem_nil, or_false] at ht
  rcases ht with rfl | rfl | rfl | rfl | rfl | rfl <;> simp [numGood, numOk, isW]
abbrev badH (b : Nat) : List V := [.int (-1), .int 256, .int (if 1 < (b : Int) then 1 else 3), .int (fullN b), .non, .int (if 1 < (b : Int) then 128 + fullN b / 2 + 1 else 129)]
theorem bad_heads {b : Nat} (b0 : 1 ≤ b) (b1 : b ≤ 8) : ∀ v ∈ badH b, numGood (.int 0) (.int b) v = false ∧ v ≠ .int 0 := by
  refine bits8 (p := fun b => ∀ v ∈ badH b, numGood (.int 0) (.int b) v = false ∧ v ≠ .int 0) b0 b1 ⟨?_, ?_, ?_, ?_, ?_, ?_, ?_, ?_⟩ <;>
  · intro xs hx
    simp only [List.mem_cons, List.not_mem_nil, or_false] at hx
    rcases hx with rfl | rfl | rfl | rfl | rfl | rfl <;> refine ⟨by rfl, by intro h; first | (injection h with h; revert h; decide) | cases h⟩
theorem full_at {b : Nat} (h0 : 1 ≤ b) (h1 : b ≤ 8) : atI [V.int 0, .int 1, .int 3, .int 7, .int 15, .int 31, .int 63, .int 127, .int 255] (b : Int) = some (.int (fullN b)) :=
  bits8 (p := fun b => atI [V.int 0, .int 1, .int 3, .int 7, .int 15, .int 31, .int 63, .int 127, .int 255] (b : Int) = some (.int (fullN b))) h0 h1 ⟨rfl, rfl, rfl, rfl, rfl, rfl, rfl, rfl⟩
end Lw

set_option Elab.async false
set_option linter.all false
set_option maxRecDepth 100000
set_option maxHeartbeats 4000000
namespace Lw
open PySem PySem.Spec PyProof.Rows L2 HotX LamX Ws
local macro_rules | `(tactic| walk_at "sv") => `(tactic| (with_reducible first
  | refine x_v0 ?_ | refine x_v1 ?_ | refine x_v2 ?_ | refine x_v3 ?_ | refine x_v4 ?_ | refine x_v5 ?_ | refine x_v6 ?_ | refine x_v7 ?_ | refine x_v8 ?_ | refine x_v9 ?_ | refine x_v10 ?_ | refine x_v11 ?_ | refine x_v12 ?_ | refine x_v13 ?_ | refine x_v14 ?_ | refine x_v15 ?_ | refine x_v16 ?_ | refine x_v17 ?_ | refine x_v18 ?_ | refine x_v19 ?_ | refine x_v20 ?_ | refine x_v21 ?_ | refine x_v22 ?_ | refine x_v23 ?_ | refine x_v24 ?_ | refine x_v25 ?_ | refine x_v26 ?_ | refine x_v27 ?_))
local macro_rules | `(tactic| walk_at "sn") => `(tactic| (with_reducible first
  | refine x_n0 ?_ | refine x_n1 ?_ | refine x_n2 ?_ | refine x_n3 ?_ | refine x_n4 ?_ | refine x_n5 ?_ | refine x_n6 ?_ | refine x_n7 ?_ | refine x_n8 ?_ | refine x_n9 ?_ | refine x_n10 ?_ | refine x_n11 ?_ | refine x_n12 ?_ | refine x_n13 ?_ | refine x_n14 ?_ | refine x_n15 ?_ | refine x_n16 ?_ | refine x_n17 ?_ | refine x_n18 ?_ | refine x_n19 ?_ | refine x_n20 ?_ | refine x_n21 ?_ | refine x_n22 ?_ | refine x_n23 ?_ | refine x_n24 ?_ | refine x_n25 ?_ | refine x_n26 ?_ | refine x_n27 ?_))
local macro_rules | `(tactic| walk_at "s1") => `(tactic| (first | (with_reducible first
  | refine x_c ?_ | refine x_op ?_ | refine x_un ?_ | refine x_rU ?_ | refine x_rI0 ?_ | refine x_chain ?_ | refine x_ex ?_ | refine x_test ?_ | refine x_tB ?_
  | refine x_tAnd ?_ | refine x_tOr ?_ | refine x_tNot ?_ | refine x_andV ?_ | refine x_orV ?_ | refine x_notV ?_ | refine x_tIf ?_ | refine x_T ?_ | refine x_F ?_ | refine x_seq ?_ | refine x_next ?_ | refine x_asg ?_
  | refine x_ret ?_ | refine x_retN ?_ | refine x_ifS ?_ | refine x_drop ?_ | refine x_nil ?_ | refine x_cons ?_ | refine x_tup ?_ | refine x_lst ?_ | refine x_call ?_ | refine x_cb ?_ | refine x_meth ?_ | refine x_make ?_ | refine x_fld ?_ | refine x_sfld ?_
  | refine x_bm ?_ | refine x_bm0 ?_ | refine x_sl ?_ | refine x_part ?_ | refine x_iex ?_ | refine x_nopart ?_ | refine x_forR ?_ | refine x_forL ?_ | refine x_forE ?_ | refine x_lcL ?_ | refine x_lcR ?_ | refine x_gcons ?_ | refine x_gnil ?_ | refine x_revL ?_ | refine x_notN ?_ | refine x_isN ?_ | refine x_yes ?_ | refine x_dget ?_ | refine x_sdput ?_ | refine x_gsub ?_ | refine x_setD ?_ | refine x_pcons ?_ | refine x_pnil ?_ | refine x_cont ?_ | refine x_dget2 ?_) | walk_at "sv" | walk_at "sn"))
local macro_rules | `(tactic| walk_at "sx") => `(tactic| repeat walk_at "s1")
section
variable {P : Program} {w : World} {K : PySem.W.Frag} {mg : Str → Option Value} {base : Heap} {c : Nat → Addr} {cc PP : Addr}
structure TxL (K : PySem.W.Frag) (mg : Str → Option Value) (c : Nat → Addr) (cc : Addr) : Prop where
  h : Hlp K mg c
  n : TxN K mg c
  n_range : mg "range" = none
  n_max : mg "max" = none
  n_min : mg "min" = none
  n_len : mg "len" = none
  dL : LamAt K mg "law" s_law cc
abbrev Tb (PP : Addr) : List (Addr × Str) := [(PP, qL "law")]
theorem mT {PP : Addr} : (PP, qL "law") ∈ Tb PP := List.mem_cons_self
theorem uT {PP : Addr} : ∀ p ∈ Tb PP, p.1 = PP → p.2 = qL "law" := fun p hp _ => by rw [List.mem_singleton.mp hp]
def spLaw (K : PySem.W.Frag) (PP : Addr) : Sp := fun vs H Q _ => ∃ (a : Addr) (ns : List Int), vs = [.ref a] ∧ SqL K H a (ns.map V.int) ∧ ns.length ≤ 63 ∧ H PP = some (.tbl #[]) ∧ ∀ H', Q (.bl true) H'
theorem eqv_tints (ns ms : List Int) : PyData.eqv (.tuple (ns.map PyData.int)) (.tuple (ms.map PyData.int)) = decide (ns = ms) := by
  rw [PyData.eqv]
  exact PySem.W.ked_eqvAll ns ms
theorem eqv_rf1 : PyData.eqv (.tuple [.str "refused", .str (nmE 1)]) (.tuple [.str "refused", .str (nmE 1)]) = true := by decide +kernel
theorem eqv_int (a b : Int) : PyData.eqv (.int a) (.int b) = decide (a = b) := by
  by_cases h : a = b
  · subst h; simp [PyData.eqv]
  · simp [PyData.eqv, h]
theorem shp_int (z : Int) : SeqAt.shaped (.int z) = true := by simp [SeqAt.shaped, PyData.canLay0, PyData.depth]
theorem ty_ints {H : Hp} {ns : List Int} : ∀ x ∈ ns.map V.int, Ty7 K H x := fun x hx => by
  obtain ⟨i, _, rfl⟩ := List.mem_map.mp hx
  exact ty7_int i
theorem numGood_of {n h : Int} {b : Nat} (b0 : 1 ≤ b) (b1 : b ≤ 8) (h0 : 0 ≤ h) (h1 : h ≤ 255) (n0 : 0 ≤ n) (n1 : n ≤ 268435455) (hm : h % (fullN b + 1) = 0) : numGood (.int n) (.int b) (.int h) = true := by
  have e8 : isW (.int (b : Int)) 1 8 = true := by simp [isW]; omega
  have e9 : isW (.int h) 0 255 = true := by simp [isW]; omega
  have e10 : isW (.int n) 0 268435455 = true := by simp [isW]; omega
  show (numOk _ _ _ && decide (h % (fullN (b : Int).toNat + 1) = 0)) = true
  rw [Int.toNat_natCast, numOk, e8, e9, e10, decide_eq_true hm]; rfl
theorem bad_ntys {H : Hp} {b : Nat} : ∀ t ∈ badN b, Ty7 K H t.1 ∧ Ty7 K H t.2.1 ∧ Ty7 K H t.2.2 := by
  intro t ht
  simp only [List.mem_cons, List.not_mem_nil, or_false] at ht
  rcases ht with rfl | rfl | rfl | rfl | rfl | rfl <;> exact ⟨by first | exact ty7_int _ | exact ty7_non | exact ty7_bl _, ty7_int _, ty7_int _⟩
theorem bad_htys {H : Hp} {b : Nat} : ∀ v ∈ badH b, (∃ z, v = .int z) ∨ v = .non := by
  intro t ht
  simp only [List.mem_cons, List.not_mem_nil, or_false] at ht
  rcases ht with rfl | rfl | rfl | rfl | rfl | rfl <;> first | exact .inl ⟨_, rfl⟩ | exact .inr rfl
theorem ok_law (T : TxL K mg c cc) (TB : TabB base mg cc PP) {f : Addr} {oc : Value} {od an : Option Addr} {osl : Array (Option Value)} {kV doc pm ct : Value} (lk : K.lookup f = some ⟨oc, od, .func (PySem.W.fnOf "law" "law" (defArgs s_law) (defBody s_law) (defScope s_law) .none kV doc pm an (.ref cc) ct), osl⟩) (hcd : PySem.W.codeIn K (.ref cc) "law" = true) :
    FnOk P w K mg base (L2N.CX P w) 7 f (PySem.W.fnOf "law" "law" (defArgs s_law) (defBody s_law) (defScope s_law) .none kV doc pm an (.ref cc) ct) ["script"] (spLaw K PP) := by
  have FC : Fn P w K mg base 1 "_law_cell" (spCell K) := ok_cell T.h
  have FD : Fn P w K mg base 1 "_law_drawn" spDrawn := ok_drawn T.h
  have FN : Fn P w K mg base 2 "number_bytes" (spNumB K c) := ok_numB T.n
  have FR : Fn P w K mg base 3 "read_number" (spRead K c) := ok_read T.n
  refine okL lk hcd sc_law (fun vs H Q E h => by obtain ⟨a, ns, rfl, _⟩ := h; rfl) fun A outer s H vs Q E hr h => ?_
  obtain ⟨a, ns, rfl, hS, hlen, hP, q⟩ := h
  have hu : A.units + 3 + 64 < cLine := by have := hr.un; have e : (A.deeper (envOfC "law" (defScope s_law) s.heap.objs.size f (.ref cc))).units = A.units + 3 := rfl; omega
  have hrT : Room (3 + 2) _ := hr.mono (j := 5) (by decide)
  refine ⟨_, (pss_cons (ps_for PassesOwn.leaving rfl (q_range T.n_range (pa_cons (q_cb (c_max rfl) T.n_max bb_max (pa_cons pe_int (pa_cons (q_cb (c_min rfl) T.n_min bb_min (pa_cons pe_int (pa_cons (q_cb (kc_len K) T.n_len bb_len (pa_cons (pv 0) pa_nil)) pa_nil))) pa_nil))) pa_nil)) (pg_name (i := 1) sc_law.nd rfl (by first | exact Or.inl rfl | exact Or.inr rfl))
    (pss_cons (ps_set (i := 2) sc_law.nd rfl (by first | exact Or.inl rfl | exact Or.inr rfl) (q_fn FD hr pass0N (pa_cons (q_fn FC hr pass0N (pa_cons (pv 0) (pa_cons (pv 1) pa_nil))) (pa_cons (pv 1) pa_nil))))
      (pss_cons (ps_set (i := 3) sc_law.nd rfl (by first | exact Or.inl rfl | exact Or.inr rfl) (pe_op op_add pe_int (pe_op op_mod (pv 2) pe_int)))
      (pss_cons (ps_set (i := 4) sc_law.nd rfl (by first | exact Or.inl rfl | exact Or.inr rfl) (pe_ix (kx_list K) (pe_lst (pa_cons pe_int (pa_cons pe_int (pa_cons pe_int (pa_cons pe_int (pa_cons pe_int (pa_cons pe_int (pa_cons pe_int (pa_cons pe_int (pa_cons pe_int pa_nil)))))))))) (pv 3) (fun _ _ => rfl)))
      (pss_cons (ps_set (i := 5) sc_law.nd rfl (by first | exact Or.inl rfl | exact Or.inr rfl) (pe_lst (pa_cons (pe_tup (pa_cons (pe_un un_neg pe_int) (pa_cons (pv 3) (pa_cons pe_int pa_nil)))) (pa_cons (pe_tup (pa_cons pe_int (pa_cons (pv 3) (pa_cons pe_int pa_nil)))) (pa_cons (pe_tup (pa_cons pe_non (pa_cons (pv 3) (pa_cons pe_int pa_nil)))) (pa_cons (pe_tup (pa_cons pe_bl (pa_cons (pv 3) (pa_cons pe_int pa_nil)))) (pa_cons (pe_tup (pa_cons pe_int (pa_cons pe_int (pa_cons pe_int pa_nil)))) (pa_cons (pe_tup (pa_cons pe_int (pa_cons pe_int (pa_cons pe_int pa_nil)))) pa_nil))))))))
      (pss_cons (ps_for PassesOwn.leaving rfl (ki_list K (pv 5)) (kg_tup K (n := 3) rfl (pgs_cons (pg_name (i := 6) sc_law.nd rfl (by first | exact Or.inl rfl | exact Or.inr rfl)) (pgs_cons (pg_name (i := 7) sc_law.nd rfl (by first | exact Or.inl rfl | exact Or.inr rfl)) (pgs_cons (pg_name (i := 8) sc_law.nd rfl (by first | exact Or.inl rfl | exact Or.inr rfl)) pgs_nil))))
      (pss_one (ps_if (pt_cmpR (ko_neD K hu) (pe_told (k := 3) T.h TB rfl mT uT hrT (fun A outer s H E f c hrL => by exact (q_fn FN hrL (pN rfl rfl rfl rfl) (pa_cons (pv 6) (pa_cons (pv 7) (pa_cons (pv 8) pa_nil)))))) (pe_tup (pa_cons pe_str (pa_cons pe_str pa_nil))) (nomark _))
        (pss_one (ps_ret pe_bl))
        pss_nil)))
      (pss_cons (ps_for PassesOwn.leaving rfl (ki_list K (pe_lst (pa_cons (pe_un un_neg pe_int) (pa_cons pe_int (pa_cons (pe_mid (pe_ifExp (pt_cmpR op_gt (pv 3) pe_int (nomark _)) pe_int pe_int)) (pa_cons (pv 4) (pa_cons pe_non (pa_cons (pe_mid (pe_ifExp (pt_cmpR op_gt (pv 3) pe_int (nomark _)) (pe_op op_add (pe_op op_add pe_int (pe_op op_fdiv (pv 4) pe_int)) pe_int) pe_int)) pa_nil)))))))) (pg_name (i := 8) sc_law.nd rfl (by first | exact Or.inl rfl | exact Or.inr rfl))
      (pss_one (ps_if (PW.pt (pw_and (pt_cmpR (ko_neD K hu) (pv 8) pe_int (nomark _)) (pw_and1 (pt_cmpR (ko_neD K hu) (pe_told (k := 3) T.h TB rfl mT uT hrT (fun A outer s H E f c hrL => by exact (q_fn FN hrL (pN rfl rfl rfl rfl) (pa_cons pe_int (pa_cons (pv 3) (pa_cons (pv 8) pa_nil)))))) (pe_tup (pa_cons pe_str (pa_cons pe_str pa_nil))) (nomark _)))))
        (pss_one (ps_ret pe_bl))
        pss_nil)))
      (pss_cons (ps_set (i := 9) sc_law.nd rfl (by first | exact Or.inl rfl | exact Or.inr rfl) (pe_lst (pa_cons (pe_lst pa_nil) (pa_cons (pe_lst (pa_cons (pv 4) pa_nil)) (pa_cons (pe_lst (pa_cons (pv 4) (pa_cons pe_int pa_nil))) (pa_cons (pe_lst (pa_cons (pv 4) (pa_cons pe_int (pa_cons pe_int pa_nil)))) (pa_cons (pe_lst (pa_cons (pv 4) (pa_cons pe_int (pa_cons pe_int pa_nil)))) (pa_cons (pe_lst (pa_cons (pv 4) (pa_cons pe_int (pa_cons pe_int (pa_cons pe_int pa_nil))))) pa_nil))))))))
      (pss_cons (ps_set (i := 9) sc_law.nd rfl (by first | exact Or.inl rfl | exact Or.inr rfl) (pe_op op_cat (pv 9) (pe_lst (pa_cons (pe_lst (pa_cons (pv 4) (pa_cons pe_int (pa_cons pe_int (pa_cons pe_int (pa_cons pe_int (pa_cons pe_int pa_nil))))))) pa_nil))))
      (pss_cons (ps_set (i := 9) sc_law.nd rfl (by first | exact Or.inl rfl | exact Or.inr rfl) (pe_op op_cat (pv 9) (pe_lst (pa_cons (pe_lst (pa_cons (pv 4) (pa_cons pe_int pa_nil))) (pa_cons (pe_lst (pa_cons (pv 4) (pa_cons (pe_un un_neg pe_int) pa_nil))) (pa_cons (pe_lst (pa_cons pe_non pa_nil)) (pa_cons (pe_lst (pa_cons pe_int pa_nil)) (pa_cons (pe_lst (pa_cons (pv 4) (pa_cons pe_int (pa_cons pe_int (pa_cons pe_int (pa_cons pe_int (pa_cons pe_int pa_nil))))))) pa_nil))))))))
      (pss_cons (ps_for PassesOwn.leaving rfl (ki_list K (pv 9)) (pg_name (i := 10) sc_law.nd rfl (by first | exact Or.inl rfl | exact Or.inr rfl))
      (pss_one (ps_if (pt_cmpR (ko_neD K hu) (pe_told (k := 3) T.h TB rfl mT uT hrT (fun A outer s H E f c hrL => by exact (q_fn FR hrL (pN rfl rfl rfl rfl) (pa_cons (pv 10) (pa_cons pe_int (pa_cons (pv 3) pa_nil)))))) (pe_tup (pa_cons pe_str (pa_cons pe_str pa_nil))) (nomark _))
        (pss_one (ps_ret pe_bl))
        pss_nil)))
      (pss_cons (ps_for PassesOwn.leaving rfl (ki_list K (pe_lst (pa_cons pe_int (pa_cons pe_int (pa_cons pe_non pa_nil))))) (pg_name (i := 7) sc_law.nd rfl (by first | exact Or.inl rfl | exact Or.inr rfl))
      (pss_one (ps_if (pt_cmpR (ko_neD K hu) (pe_told (k := 3) T.h TB rfl mT uT hrT (fun A outer s H E f c hrL => by exact (q_fn FR hrL (pN rfl rfl rfl rfl) (pa_cons (pe_lst (pa_cons pe_int (pa_cons pe_int pa_nil))) (pa_cons pe_int (pa_cons (pv 7) pa_nil)))))) (pe_tup (pa_cons pe_str (pa_cons pe_str pa_nil))) (nomark _))
        (pss_one (ps_ret pe_bl))
        pss_nil)))
      (pss_one (ps_for PassesOwn.leaving rfl (q_range T.n_range (pa_cons pe_int pa_nil)) (pg_name (i := 11) sc_law.nd rfl (by first | exact Or.inl rfl | exact Or.inr rfl))
      (pss_cons (ps_set (i := 12) sc_law.nd rfl (by first | exact Or.inl rfl | exact Or.inr rfl) (q_fn FD hr pass0N (pa_cons (pv 2) (pa_cons (pv 11) pa_nil))))
        (pss_cons (ps_set (i := 10) sc_law.nd rfl (by first | exact Or.inl rfl | exact Or.inr rfl) (pe_lc (own := [("n", 15)]) rfl sc_law.nd (q_range T.n_range (pa_cons (pe_op op_mod (pv 12) pe_int) pa_nil)) (blkOk_by (N := ["script", "k", "more", "bits", "full", "none", "number", "some", "head", "bad", "row", "j", "here", "told", "behind", "n"]) (sc := defScope s_law) (by decide +kernel)) (fun _ _ _ _ _ => by exact (pg_name (i := 15) sc_law.nd rfl (by first | exact Or.inl rfl | exact Or.inr rfl))) (fun _ _ _ _ _ => by exact pts_nil) (fun _ _ _ _ _ => by exact (pe_op op_mod (q_fn FD hr pass0N (pa_cons (pv 12) (pa_cons (pv 15) pa_nil))) (pe_ix (kx_list K) (pe_lst (pa_cons pe_int (pa_cons pe_int (pa_cons pe_int pa_nil)))) (pe_op op_mod (pv 15) pe_int) (fun _ _ => rfl))))))
        (pss_mid (ps_if (PW.pt (pw_and (pt_cmpR (ko_neD K hu) (pv 10) (pe_lst pa_nil) (nomark _)) (pw_and1 (pt_cmpR op_eq (pe_op op_mod (pe_op op_fdiv (pv 12) pe_int) pe_int) pe_int (nomark _)))))
        (pss_one (ps_asg (pe_op op_add (pe_op op_mul (pe_op op_fdiv (pe_ix (kx_list K) (pv 10) pe_int (fun _ _ => rfl)) (pe_op op_add (pv 4) pe_int)) (pe_op op_add (pv 4) pe_int)) (pv 4)) (pg_sub (pv 10) pe_int set_list)))
        pss_nil)
        (pss_cons (ps_set (i := 13) sc_law.nd rfl (by first | exact Or.inl rfl | exact Or.inr rfl) (pe_told (k := 3) T.h TB rfl mT uT hrT (fun A outer s H E f c hrL => by exact (q_fn FR hrL (pN rfl rfl rfl rfl) (pa_cons (pv 10) (pa_cons pe_int (pa_cons (pv 3) pa_nil)))))))
        (pss_one (ps_if (pt_cmpR (ko_neD K hu) (pv 13) (pe_tup (pa_cons pe_str (pa_cons pe_str pa_nil))) (nomark _))
        (pss_cons (ps_asg (pv 13) (kg_tup K (n := 2) rfl (pgs_cons (pg_name (i := 6) sc_law.nd rfl (by first | exact Or.inl rfl | exact Or.inr rfl)) (pgs_cons (pg_name (i := 14) sc_law.nd rfl (by first | exact Or.inl rfl | exact Or.inr rfl)) pgs_nil))))
          (pss_one (ps_if (pt_cmpR (ko_neD K hu) (q_fn FN hr pass0N (pa_cons (pv 6) (pa_cons (pv 3) (pa_cons (pe_op op_mul (pe_op op_fdiv (pe_ix (kx_list K) (pv 10) pe_int (fun _ _ => rfl)) (pe_op op_add (pv 4) pe_int)) (pe_op op_add (pv 4) pe_int)) pa_nil)))) (pe_slice (ks_list K) (pv 10) po_none (po_some (pv 14))) (nomark _))
          (pss_one (ps_ret pe_bl))
          pss_nil)))
        pss_nil))))))))))))))))))))
    (pss_one (ps_ret pe_bl))), ?_⟩
  obtain ⟨u, hU, hNT, hk⟩ := scU_noT hS
  have S0 : Sv a u (Tb PP) H := ⟨hk, fun p hp => by rw [List.mem_singleton.mp hp]; exact TabS.nil hP⟩
  rw [show L2.start ["script", "k", "more", "bits", "full", "none", "number", "some", "head", "bad", "row", "j", "here", "told", "behind", "n"] [V.ref a] = [some (.ref a), none, none, none, none, none, none, none, none, none, none, none, none, none, none, none] from rfl]
  walk_at "sx"
  refine x_lenL (S0.seq hU) ?_
  walk_at "sx"
  refine x_min ?_
  walk_at "sx"
  refine x_max ?_
  walk_at "sx"
  rw [List.length_map]
  refine x_rforR (max 1 (min 5 (ns.length : Int))).toNat (by omega) (by omega) (fun _ σ H => ∃ (o1 o2 o3 o4 o5 o6 o7 o8 o9 o10 o11 o12 o13 o14 o15 : Option V), σ = [some (.ref a), o1, o2, o3, o4, o5, o6, o7, o8, o9, o10, o11, o12, o13, o14, o15] ∧ Sv a u (Tb PP) H) ⟨_, _, _, _, _, _, _, _, _, _, _, _, _, _, _, rfl, S0⟩ ?_ ?_
  rotate_left
  · rintro σ H1 ⟨o1, o2, o3, o4, o5, o6, o7, o8, o9, o10, o11, o12, o13, o14, o15, rfl, S1⟩
    walk_at "sx"
    exact q _
  rintro i σ H1 hi ⟨o1, o2, o3, o4, o5, o6, o7, o8, o9, o10, o11, o12, o13, o14, o15, rfl, S1⟩
  walk_at "sx"
  refine ⟨a, ns, i, rfl, S1.seq hU, hlen, by omega, by omega, fun z H2 s2 => ?_⟩
  walk_at "sx"
  refine ⟨z, i, rfl, by omega, by omega, ?_⟩
  generalize em : drawn z i = m
  have m0 : 0 ≤ m := by rw [← em]; exact drawn_lo _ _
  have S2 := S1.same s2
  clear S1 s2 em
  walk_at "sx"
  refine x_rI (by decide) ?_
  walk_at "sx"
  obtain ⟨b, hb, b0, b1⟩ : ∃ b : Nat, 1 + m % 8 = b ∧ 1 ≤ b ∧ b ≤ 8 := ⟨(1 + m % 8).toNat, by omega, by omega, by omega⟩
  rw [hb]
  have f0 := fullN_pos b
  have f1 := fullN_le b1
  refine ⟨szle (by show 9 ≤ 100000; decide), fun pf mf => ?_⟩
  walk_at "sx"
  refine x_ixL (SqL.of upd_same) (full_at b0 b1) ?_
  have S2 := S2.same (same_upd (o := .lst [.int 0, .int 1, .int 3, .int 7, .int 15, .int 31, .int 63, .int 127, .int 255]) mf)
  generalize upd H2 pf _ = H2 at S2 ⊢
  clear mf
  walk_at "sx"
  refine ⟨szle (by show 3 ≤ 100000; decide), fun p0 m0 => ?_⟩
  walk_at "sx"
  refine ⟨szle (by show 3 ≤ 100000; decide), fun p1 m1 => ?_⟩
  walk_at "sx"
  refine ⟨szle (by show 3 ≤ 100000; decide), fun p2 m2 => ?_⟩
  walk_at "sx"
  refine ⟨szle (by show 3 ≤ 100000; decide), fun p3 m3 => ?_⟩
  walk_at "sx"
  refine ⟨szle (by show 3 ≤ 100000; decide), fun p4 m4 => ?_⟩
  walk_at "sx"
  refine ⟨szle (by show 3 ≤ 100000; decide), fun p5 m5 => ?_⟩
  walk_at "sx"
  refine ⟨szle (by show 6 ≤ 100000; decide), fun ln m6 => ?_⟩
  generalize eH : upd _ ln _ = H3
  have sA : Same H2 H3 := by
    rw [← eH]
    exact (((((((same_upd m0).trans (same_upd m1)).trans (same_upd m2)).trans (same_upd m3)).trans (same_upd m4)).trans (same_upd m5)).trans (same_upd (o := _) m6))
  have hln : H3 ln = some (.lst [.ref p0, .ref p1, .ref p2, .ref p3, .ref p4, .ref p5]) := by rw [← eH]; exact upd_same
  have hA : ∀ v ∈ ([.ref p0, .ref p1, .ref p2, .ref p3, .ref p4, .ref p5] : List V), ∃ p t, v = .ref p ∧ H3 p = some (.tup [t.1, t.2.1, t.2.2]) ∧ t ∈ badN b := by
    rw [← eH]
    intro v hv
    simp only [List.mem_cons, List.not_mem_nil, or_false] at hv
    rcases hv with rfl | rfl | rfl | rfl | rfl | rfl
    · exact ⟨p0, (.int (-1), .int b, .int 0), rfl, (upd_old m6 (upd_old m5 (upd_old m4 (upd_old m3 (upd_old m2 (upd_old m1 upd_same)))))), by simp⟩
    · exact ⟨p1, (.int 268435456, .int b, .int 0), rfl, (upd_old m6 (upd_old m5 (upd_old m4 (upd_old m3 (upd_old m2 upd_same))))), by simp⟩
    · exact ⟨p2, (.non, .int b, .int 0), rfl, (upd_old m6 (upd_old m5 (upd_old m4 (upd_old m3 upd_same)))), by simp⟩
    · exact ⟨p3, (.bl true, .int b, .int 0), rfl, (upd_old m6 (upd_old m5 (upd_old m4 upd_same))), by simp⟩
    · exact ⟨p4, (.int 5, .int 0, .int 0), rfl, (upd_old m6 (upd_old m5 upd_same)), by simp⟩
    · exact ⟨p5, (.int 5, .int 9, .int 0), rfl, (upd_old m6 upd_same), by simp⟩
  have S3 := S2.same sA
  clear eH sA S2 m0 m1 m2 m3 m4 m5 m6
  walk_at "sx"
  refine x_rforL _ (fun e σ H => ∃ (o5 o6 o7 o8 o9 o10 o11 o12 o13 o14 o15 : Option V), σ = [some (.ref a), some (.int i), some (.int m), some (.int b), some (.int (fullN b)), o5, o6, o7, o8, o9, o10, o11, o12, o13, o14, o15] ∧ ExtN H3 H ∧ Tabs (Tb PP) H) ⟨_, _, _, _, _, _, _, _, _, _, _, rfl, ExtN.refl _, S3.tabs⟩ (fun e σ H ⟨o5, o6, o7, o8, o9, o10, o11, o12, o13, o14, o15, _, x, _⟩ => SqL.of (x _ _ hln (fun _ z => nomatch z))) ?_ ?_
  · rintro e v σ H4 hv ⟨o5, o6, o7, o8, o9, o10, o11, o12, o13, o14, o15, rfl, e4, t4⟩
    obtain ⟨p, t, rfl, hp, ht⟩ := hA v (List.mem_of_getElem? hv)
    refine x_gtup (SqT.of (e4 _ _ hp (fun _ z => nomatch z))) rfl ?_
    walk_at "sx"
    refine x_lam t4 fun H6 e6 t6 => x_TW ?_
    walk_at "sx"
    obtain ⟨y1, y2, y3⟩ := bad_ntys (K := K) (H := H6) t ht
    have hb := bad_nums b0 b1 t ht
    refine ⟨t.1, t.2.1, t.2.2, rfl, y1, y2, y3, fun n' h' b' e1 e2 e3 c1 c2 c3 c4 c5 c6 c7 => ?_, fun _ => ⟨1, by decide, rfl, rfl, fun q7 H7 s7 n7 h7 => ?_⟩⟩
    · rw [e1, e2, e3, numGood_of c1 c2 c3 c4 c5 c6 c7] at hb
      cases hb
    walk_at "sx"
    refine ⟨szle (by show 2 ≤ 100000; decide), fun p8 m8 => ?_⟩
    refine x_neD (.tup (SqT.of (upd_old m8 h7)) (dp_rf 1)) (.tup (SqT.of upd_same) (dp_rf 1)) (by decide +kernel) (by decide +kernel) ?_
    rw [eqv_rf1]
    walk_at "sx"
    refine not_t ?_
    walk_at "sx"
    have s8 := s7.trans (same_upd (o := .tup [.str "refused", .str "BadBytes"]) m8)
    exact ⟨_, _, _, _, _, _, _, _, _, _, _, rfl, (e4.trans e6).trans (.of s8), t6.ext s8⟩
  rintro σ H4 ⟨o5, o6, o7, o8, o9, o10, o11, o12, o13, o14, o15, rfl, e4, t4⟩
  have S4 := S3.ext hNT e4 t4
  clear S3 hA hln e4 t4
  walk_at "sx"
  refine x_emid (fun v H5 => v = .int (if 1 < (b : Int) then 1 else 3) ∧ H4 = H5) ?_ ?_
  · walk_at "sx"
    refine x_2 (fun e => ?_) fun e => ?_
    · walk_at "sx"
      exact ⟨by rw [if_pos e], rfl⟩
    · walk_at "sx"
      exact ⟨by rw [if_neg e], rfl⟩
  rintro v H5 ⟨rfl, rfl⟩
  walk_at "sx"
  refine x_emid (fun v H5 => v = .int (if 1 < (b : Int) then 128 + fullN b / 2 + 1 else 129) ∧ H4 = H5) ?_ ?_
  · walk_at "sx"
    refine x_2 (fun e => ?_) fun e => ?_
    · walk_at "sx"
      refine x_rI ⟨by decide, by decide⟩ ?_
      walk_at "sx"
      exact ⟨by rw [if_pos e], rfl⟩
    · walk_at "sx"
      exact ⟨by rw [if_neg e], rfl⟩
  rintro v H5 ⟨rfl, rfl⟩
  walk_at "sx"
  refine ⟨szle (by show 6 ≤ 100000; decide), fun lh mh => ?_⟩
  have S5 := S4.same (same_upd (o := .lst (badH b)) mh)
  have hlh : upd H4 lh (.lst (badH b)) lh = some (.lst (badH b)) := upd_same
  refine (show _ from ?_)
  generalize upd H4 lh (.lst (badH b)) = H5 at S5 hlh ⊢
  clear S4 mh
  walk_at "sx"
  refine x_rforL (badH b) (fun e σ H => ∃ (o5 o6 o7 o8 o9 o10 o11 o12 o13 o14 o15 : Option V), σ = [some (.ref a), some (.int i), some (.int m), some (.int b), some (.int (fullN b)), o5, o6, o7, o8, o9, o10, o11, o12, o13, o14, o15] ∧ ExtN H5 H ∧ Tabs (Tb PP) H) ⟨_, _, _, _, _, _, _, _, _, _, _, rfl, ExtN.refl _, S5.tabs⟩ (fun e σ H ⟨o5, o6, o7, o8, o9, o10, o11, o12, o13, o14, o15, _, x, _⟩ => SqL.of (x _ _ hlh (fun _ z => nomatch z))) ?_ ?_
  · rintro e v σ H6 hv ⟨o5, o6, o7, o8, o9, o10, o11, o12, o13, o14, o15, rfl, e4, t4⟩
    have hmem := List.mem_of_getElem? hv
    obtain ⟨hb, hne⟩ := bad_heads b0 b1 v hmem
    walk_at "sx"
    have hty : Ty7 K H6 v ∧ ∃ d, Dp K H6 v d ∧ SeqAt.shaped d = true ∧ PyData.eqv d (.int 0) = false := by
      rcases bad_htys (H := H6) v hmem with ⟨z, rfl⟩ | rfl
      · exact ⟨ty7_int z, .int z, .int z, shp_int z, by rw [eqv_int]; exact decide_eq_false fun e => hne (by rw [e])⟩
      · exact ⟨ty7_non, .none, .non, rfl, by simp [PyData.eqv]⟩
    obtain ⟨ty, d, hd, hsh, hq⟩ := hty
    refine x_neD hd (.int 0) hsh (shp_int 0) ?_
    rw [hq]
    walk_at "sx"
    refine not_f ?_
    walk_at "sx"
    refine x_lam t4 fun H7 e6 t6 => x_TW ?_
    walk_at "sx"
    refine ⟨.int 0, .int b, v, rfl, ty7_int _, ty7_int _, ?_, fun n' h' b' e1 e2 e3 c1 c2 c3 c4 c5 c6 c7 => ?_, fun _ => ⟨1, by decide, rfl, rfl, fun q7 H7 s7 n7 h7 => ?_⟩⟩
    · rcases bad_htys (H := H6) v hmem with ⟨z, rfl⟩ | rfl
      · exact ty7_int z
      · exact ty7_non
    · rw [e1, e2, e3, numGood_of c1 c2 c3 c4 c5 c6 c7] at hb
      cases hb
    walk_at "sx"
    refine ⟨szle (by show 2 ≤ 100000; decide), fun p8 m8 => ?_⟩
    refine x_neD (.tup (SqT.of (upd_old m8 h7)) (dp_rf 1)) (.tup (SqT.of upd_same) (dp_rf 1)) (by decide +kernel) (by decide +kernel) ?_
    rw [eqv_rf1]
    walk_at "sx"
    refine not_t ?_
    walk_at "sx"
    have s8 := s7.trans (same_upd (o := .tup [.str "refused", .str "BadBytes"]) m8)
    exact ⟨_, _, _, _, _, _, _, _, _, _, _, rfl, (e4.trans e6).trans (.of s8), t6.ext s8⟩
  rintro σ H4 ⟨o5, o6, o7, o8, o9, o10, o11, o12, o13, o14, o15, rfl, e4, t4⟩
  have S4 := S5.ext hNT e4 t4
  clear S5 hlh e4 t4
  walk_at "sx"
  refine ⟨szle (by show 0 ≤ 100000; decide), fun r0 k_r0 => ?_⟩
  walk_at "sx"
  refine ⟨szle (by show 1 ≤ 100000; decide), fun r1 k_r1 => ?_⟩
  walk_at "sx"
  refine ⟨szle (by show 2 ≤ 100000; decide), fun r2 k_r2 => ?_⟩
  walk_at "sx"
  refine ⟨szle (by show 3 ≤ 100000; decide), fun r3 k_r3 => ?_⟩
  walk_at "sx"
  refine ⟨szle (by show 3 ≤ 100000; decide), fun r4 k_r4 => ?_⟩
  walk_at "sx"
  refine ⟨szle (by show 4 ≤ 100000; decide), fun r5 k_r5 => ?_⟩
  walk_at "sx"
  refine ⟨szle (by show 6 ≤ 100000; decide), fun l1 k_l1 => ?_⟩
  walk_at "sx"
  refine ⟨szle (by show 6 ≤ 100000; decide), fun r6 k_r6 => ?_⟩
  walk_at "sx"
  refine ⟨szle (by show 1 ≤ 100000; decide), fun l2 k_l2 => ?_⟩
  refine x_cat (upd_old k_l2 (upd_old k_r6 upd_same)) upd_same (szle (by show 6 + 1 ≤ 100000; decide)) fun l3 k_l3 => ?_
  walk_at "sx"
  refine ⟨szle (by show 2 ≤ 100000; decide), fun r7 k_r7 => ?_⟩
  walk_at "sx"
  refine ⟨szle (by show 2 ≤ 100000; decide), fun r8 k_r8 => ?_⟩
  walk_at "sx"
  refine ⟨szle (by show 1 ≤ 100000; decide), fun r9 k_r9 => ?_⟩
  walk_at "sx"
  refine ⟨szle (by show 1 ≤ 100000; decide), fun r10 k_r10 => ?_⟩
  walk_at "sx"
  refine ⟨szle (by show 6 ≤ 100000; decide), fun r11 k_r11 => ?_⟩
  walk_at "sx"
  refine ⟨szle (by show 5 ≤ 100000; decide), fun l4 k_l4 => ?_⟩
  refine x_cat (upd_old k_l4 (upd_old k_r11 (upd_old k_r10 (upd_old k_r9 (upd_old k_r8 (upd_old k_r7 upd_same)))))) upd_same (szle (by show 7 + 5 ≤ 100000; decide)) fun l5 k_l5 => ?_
  generalize eH : upd _ l5 _ = H5
  have sB : Same H4 H5 := by
    rw [← eH]
    exact (((((((((((((((((same_upd k_r0).trans (same_upd k_r1)).trans (same_upd k_r2)).trans (same_upd k_r3)).trans (same_upd k_r4)).trans (same_upd k_r5)).trans (same_upd k_l1)).trans (same_upd k_r6)).trans (same_upd k_l2)).trans (same_upd k_l3)).trans (same_upd k_r7)).trans (same_upd k_r8)).trans (same_upd k_r9)).trans (same_upd k_r10)).trans (same_upd k_r11)).trans (same_upd k_l4)).trans (same_upd (o := _) k_l5))
  have hl5 : H5 l5 = some (.lst [.ref r0, .ref r1, .ref r2, .ref r3, .ref r4, .ref r5, .ref r6, .ref r7, .ref r8, .ref r9, .ref r10, .ref r11]) := by rw [← eH]; exact upd_same
  have hB : ∀ v ∈ ([.ref r0, .ref r1, .ref r2, .ref r3, .ref r4, .ref r5, .ref r6, .ref r7, .ref r8, .ref r9, .ref r10, .ref r11] : List V), ∃ l xs, v = .ref l ∧ H5 l = some (.lst xs) ∧ xs ∈ badR b := by
    rw [← eH]
    intro v hv
    simp only [List.mem_cons, List.not_mem_nil, or_false] at hv
    rcases hv with rfl | rfl | rfl | rfl | rfl | rfl | rfl | rfl | rfl | rfl | rfl | rfl
    · exact ⟨r0, [], rfl, (upd_old k_l5 (upd_old k_l4 (upd_old k_r11 (upd_old k_r10 (upd_old k_r9 (upd_old k_r8 (upd_old k_r7 (upd_old k_l3 (upd_old k_l2 (upd_old k_r6 (upd_old k_l1 (upd_old k_r5 (upd_old k_r4 (upd_old k_r3 (upd_old k_r2 (upd_old k_r1 upd_same)))))))))))))))), by simp⟩
    · exact ⟨r1, [.int (fullN b)], rfl, (upd_old k_l5 (upd_old k_l4 (upd_old k_r11 (upd_old k_r10 (upd_old k_r9 (upd_old k_r8 (upd_old k_r7 (upd_old k_l3 (upd_old k_l2 (upd_old k_r6 (upd_old k_l1 (upd_old k_r5 (upd_old k_r4 (upd_old k_r3 (upd_old k_r2 upd_same))))))))))))))), by simp⟩
    · exact ⟨r2, [.int (fullN b), .int 128], rfl, (upd_old k_l5 (upd_old k_l4 (upd_old k_r11 (upd_old k_r10 (upd_old k_r9 (upd_old k_r8 (upd_old k_r7 (upd_old k_l3 (upd_old k_l2 (upd_old k_r6 (upd_old k_l1 (upd_old k_r5 (upd_old k_r4 (upd_old k_r3 upd_same)))))))))))))), by simp⟩
    · exact ⟨r3, [.int (fullN b), .int 255, .int 255], rfl, (upd_old k_l5 (upd_old k_l4 (upd_old k_r11 (upd_old k_r10 (upd_old k_r9 (upd_old k_r8 (upd_old k_r7 (upd_old k_l3 (upd_old k_l2 (upd_old k_r6 (upd_old k_l1 (upd_old k_r5 (upd_old k_r4 upd_same))))))))))))), by simp⟩
    · exact ⟨r4, [.int (fullN b), .int 128, .int 0], rfl, (upd_old k_l5 (upd_old k_l4 (upd_old k_r11 (upd_old k_r10 (upd_old k_r9 (upd_old k_r8 (upd_old k_r7 (upd_old k_l3 (upd_old k_l2 (upd_old k_r6 (upd_old k_l1 (upd_old k_r5 upd_same)))))))))))), by simp⟩
    · exact ⟨r5, [.int (fullN b), .int 200, .int 128, .int 0], rfl, (upd_old k_l5 (upd_old k_l4 (upd_old k_r11 (upd_old k_r10 (upd_old k_r9 (upd_old k_r8 (upd_old k_r7 (upd_old k_l3 (upd_old k_l2 (upd_old k_r6 (upd_old k_l1 upd_same))))))))))), by simp⟩
    · exact ⟨r6, [.int (fullN b), .int 255, .int 255, .int 255, .int 255, .int 1], rfl, (upd_old k_l5 (upd_old k_l4 (upd_old k_r11 (upd_old k_r10 (upd_old k_r9 (upd_old k_r8 (upd_old k_r7 (upd_old k_l3 (upd_old k_l2 upd_same))))))))), by simp⟩
    · exact ⟨r7, [.int (fullN b), .int 256], rfl, (upd_old k_l5 (upd_old k_l4 (upd_old k_r11 (upd_old k_r10 (upd_old k_r9 (upd_old k_r8 upd_same)))))), by simp⟩
    · exact ⟨r8, [.int (fullN b), .int (-1)], rfl, (upd_old k_l5 (upd_old k_l4 (upd_old k_r11 (upd_old k_r10 (upd_old k_r9 upd_same))))), by simp⟩
    · exact ⟨r9, [.non], rfl, (upd_old k_l5 (upd_old k_l4 (upd_old k_r11 (upd_old k_r10 upd_same)))), by simp⟩
    · exact ⟨r10, [.int 256], rfl, (upd_old k_l5 (upd_old k_l4 (upd_old k_r11 upd_same))), by simp⟩
    · exact ⟨r11, [.int (fullN b), .int 128, .int 128, .int 128, .int 128, .int 1], rfl, (upd_old k_l5 (upd_old k_l4 upd_same)), by simp⟩
  have S5 := S4.same sB
  clear eH sB S4 k_r0 k_r1 k_r2 k_r3 k_r4 k_r5 k_l1 k_r6 k_l2 k_l3 k_r7 k_r8 k_r9 k_r10 k_r11 k_l4 k_l5
  walk_at "sx"
  have hW : ∀ (h : isW (.int (b : Int)) 1 8 = false), False := fun h => by
    simp [isW] at h
    omega
  refine x_rforL _ (fun e σ H => ∃ (o5 o6 o7 o8 o9 o10 o11 o12 o13 o14 o15 : Option V), σ = [some (.ref a), some (.int i), some (.int m), some (.int b), some (.int (fullN b)), o5, o6, o7, o8, o9, o10, o11, o12, o13, o14, o15] ∧ ExtN H5 H ∧ Tabs (Tb PP) H) ⟨_, _, _, _, _, _, _, _, _, _, _, rfl, ExtN.refl _, S5.tabs⟩ (fun e σ H ⟨o5, o6, o7, o8, o9, o10, o11, o12, o13, o14, o15, _, x, _⟩ => SqL.of (x _ _ hl5 (fun _ z => nomatch z))) ?_ ?_
  · rintro e v σ H6 hv ⟨o5, o6, o7, o8, o9, o10, o11, o12, o13, o14, o15, rfl, e4, t4⟩
    obtain ⟨l, xs, rfl, hl, hx⟩ := hB v (List.mem_of_getElem? hv)
    walk_at "sx"
    refine x_lam t4 fun H7 e6 t6 => x_TW ?_
    walk_at "sx"
    refine ⟨.ref l, .int b, 0, rfl, ty7_int _, .inl ⟨l, xs, rfl, .inl (SqL.of ((e4.trans e6) _ _ hl (fun _ z => nomatch z))), bad_tys xs hx, fun b' eb _ _ => ?_, fun h => (hW h).elim⟩⟩
    have eb : b' = b := by injection eb with eb; omega
    subst eb
    rw [bad_rows b0 b1 xs hx]
    refine ⟨(fun n e h => nomatch h), fun _ H8 s8' => ⟨1, by decide, rfl, rfl, fun q7 H9 s7 n7 h7 => ?_⟩⟩
    walk_at "sx"
    refine ⟨szle (by show 2 ≤ 100000; decide), fun p8 m8 => ?_⟩
    refine x_neD (.tup (SqT.of (upd_old m8 h7)) (dp_rf 1)) (.tup (SqT.of upd_same) (dp_rf 1)) (by decide +kernel) (by decide +kernel) ?_
    rw [eqv_rf1]
    walk_at "sx"
    refine not_t ?_
    walk_at "sx"
    have s8 := (s8'.trans s7).trans (same_upd (o := .tup [.str "refused", .str "BadBytes"]) m8)
    exact ⟨_, _, _, _, _, _, _, _, _, _, _, rfl, (e4.trans e6).trans (.of s8), t6.ext s8⟩
  rintro σ H4 ⟨o5, o6, o7, o8, o9, o10, o11, o12, o13, o14, o15, rfl, e4, t4⟩
  have S4 := S5.ext hNT e4 t4
  clear S5 hB hl5 e4 t4
  walk_at "sx"
  refine ⟨szle (by show 3 ≤ 100000; decide), fun lh mh => ?_⟩
  have S5 := S4.same (same_upd (o := .lst [.int 0, .int 9, .non]) mh)
  have hlh : upd H4 lh (.lst [.int 0, .int 9, .non]) lh = some (.lst [.int 0, .int 9, .non]) := upd_same
  generalize upd H4 lh (.lst [.int 0, .int 9, .non]) = H5 at S5 hlh ⊢
  clear S4 mh
  walk_at "sx"
  refine x_rforL [.int 0, .int 9, .non] (fun e σ H => ∃ (o5 o6 o7 o8 o9 o10 o11 o12 o13 o14 o15 : Option V), σ = [some (.ref a), some (.int i), some (.int m), some (.int b), some (.int (fullN b)), o5, o6, o7, o8, o9, o10, o11, o12, o13, o14, o15] ∧ ExtN H5 H ∧ Tabs (Tb PP) H) ⟨_, _, _, _, _, _, _, _, _, _, _, rfl, ExtN.refl _, S5.tabs⟩ (fun e σ H ⟨o5, o6, o7, o8, o9, o10, o11, o12, o13, o14, o15, _, x, _⟩ => SqL.of (x _ _ hlh (fun _ z => nomatch z))) ?_ ?_
  · rintro e v σ H6 hv ⟨o5, o6, o7, o8, o9, o10, o11, o12, o13, o14, o15, rfl, e4, t4⟩
    have hmem := List.mem_of_getElem? hv
    have hw : isW v 1 8 = false ∧ ∀ H : Hp, Ty7 K H v := by
      simp only [List.mem_cons, List.not_mem_nil, or_false] at hmem
      rcases hmem with rfl | rfl | rfl
      · exact ⟨by simp [isW], fun _ => ty7_int _⟩
      · exact ⟨by simp [isW], fun _ => ty7_int _⟩
      · exact ⟨by simp [isW], fun _ => ty7_non⟩
    walk_at "sx"
    refine x_lam t4 fun H7 e6 t6 => x_TW ?_
    walk_at "sx"
    refine ⟨szle (by show 2 ≤ 100000; decide), fun p9 m9 => ?_⟩
    walk_at "sx"
    refine ⟨.ref p9, v, 0, rfl, hw.2 _, .inl ⟨p9, [.int 1, .int 2], rfl, .inl (SqL.of upd_same), ty_ints (ns := [1, 2]), fun b' eb c1 c2 => ?_, fun _ => ⟨1, by decide, rfl, rfl, fun q7 H9 s7 n7 h7 => ?_⟩⟩⟩
    · exfalso
      rw [eb] at hw
      have := hw.1
      simp [isW] at this
      omega
    walk_at "sx"
    refine ⟨szle (by show 2 ≤ 100000; decide), fun p8 m8 => ?_⟩
    refine x_neD (.tup (SqT.of (upd_old m8 h7)) (dp_rf 1)) (.tup (SqT.of upd_same) (dp_rf 1)) (by decide +kernel) (by decide +kernel) ?_
    rw [eqv_rf1]
    walk_at "sx"
    refine not_t ?_
    walk_at "sx"
    have s8 := ((same_upd m9).trans s7).trans (same_upd (o := .tup [.str "refused", .str "BadBytes"]) m8)
    exact ⟨_, _, _, _, _, _, _, _, _, _, _, rfl, (e4.trans e6).trans (.of s8), t6.ext s8⟩
  rintro σ H4 ⟨o5, o6, o7, o8, o9, o10, o11, o12, o13, o14, o15, rfl, e4, t4⟩
  have S4 := S5.ext hNT e4 t4
  clear S5 hlh e4 t4
  walk_at "sx"
  refine x_rforR 5 rfl (by decide) (fun e σ H => ∃ (o5 o6 o7 o8 o9 o10 o11 o12 o13 o14 o15 : Option V), σ = [some (.ref a), some (.int i), some (.int m), some (.int b), some (.int (fullN b)), o5, o6, o7, o8, o9, o10, o11, o12, o13, o14, o15] ∧ Sv a u (Tb PP) H) ⟨_, _, _, _, _, _, _, _, _, _, _, rfl, S4⟩ ?_ ?_
  rotate_left
  · rintro σ H5 ⟨o5, o6, o7, o8, o9, o10, o11, o12, o13, o14, o15, rfl, S5⟩
    walk_at "sx"
    exact ⟨_, _, _, _, _, _, _, _, _, _, _, _, _, _, _, rfl, S5⟩
  clear S4
  rintro j σ H5 hj ⟨o5, o6, o7, o8, o9, o10, o11, o12, o13, o14, o15, rfl, S5⟩
  walk_at "sx"
  refine ⟨m, j, rfl, by omega, by omega, ?_⟩
  generalize eh : drawn m j = hh
  have hh0 : 0 ≤ hh := by rw [← eh]; exact drawn_lo _ _
  clear eh
  walk_at "sx"
  refine x_rI (by decide) ?_
  walk_at "sx"
  refine x_rlcR (hh % 6).toNat (by omega) (by omega) (fun n acc H => ∃ ys : List Int, acc = ys.map V.int ∧ ys.length = n ∧ ∀ y ∈ ys, 0 ≤ y ∧ y ≤ 255) (fun _ _ => ⟨[], rfl, rfl, (fun y h => nomatch h)⟩) ?_ ?_
  · intro D n acc H6 hn I6
    obtain ⟨ys, rfl, hyl, hys⟩ := I6.r
    simp only [wipe, List.map_cons, List.map_nil, List.set_cons_succ, List.set_cons_zero]
    walk_at "sx"
    refine ⟨rfl, ?_⟩
    walk_at "sx"
    refine ⟨hh, n, rfl, by omega, by omega, ?_⟩
    walk_at "sx"
    refine ⟨szle (by show 3 ≤ 100000; decide), fun p1 m1 => ?_⟩
    walk_at "sx"
    refine x_rI (by decide) ?_
    obtain ⟨z0, hz0, ez0⟩ := pickI [256, 256, 130] ((n : Int) % 3) (Int.emod_nonneg _ (by decide)) (Int.emod_lt_of_pos _ (by decide))
    refine x_ixL (SqL.of upd_same) ez0 ?_
    have hz : z0 = 256 ∨ z0 = 130 := by
      simp only [List.mem_cons, List.not_mem_nil, or_false] at hz0
      omega
    refine x_rI (by omega) ?_
    generalize drawn hh n = dd
    have d0 := Int.emod_nonneg dd (b := z0) (by omega)
    have d1 := Int.emod_lt_of_pos dd (b := z0) (by omega)
    refine I6.add (fun i acc H1 H2 s r => r) (szlt (by omega)) (same_upd m1) ?_
    refine ⟨ys ++ [dd % z0], by rw [List.map_append]; rfl, by rw [List.length_append, hyl]; rfl, fun y hy => ?_⟩
    rcases List.mem_append.mp hy with h | h
    · exact hys y h
    · rw [List.mem_singleton.mp h]; omega
  rintro l6 H6 acc n6 s6 h6 ⟨ys, rfl, hyl, hys⟩
  have S6 := S5.same s6
  have nsl : ∀ v, u = some v → a ≠ l6 := S5.apart n6
  walk_at "sx"
  refine x_mid (fun σ H7 => ∃ (o5 o6 o7 o8 o9 o13 o14 o15 : Option V) (ys : List Int), σ = [some (.ref a), some (.int i), some (.int m), some (.int b), some (.int (fullN b)), o5, o6, o7, o8, o9, some (.ref l6), some (.int j), some (.int hh), o13, o14, o15] ∧ Sv a u (Tb PP) H7 ∧ H7 l6 = some (.lst (ys.map V.int)) ∧ ∀ y ∈ ys, 0 ≤ y ∧ y ≤ 255) ?_ ?_
  · walk_at "sx"
    refine ⟨szle (by show 0 ≤ 100000; decide), fun p1 m1 => ?_⟩
    have t1 := same_upd (o := .lst []) m1
    have S7 := S6.same t1
    have h7 := t1 _ _ h6
    refine x_neD (.lst (SqL.of h7) (dpa_ints ys)) (.lst (SqL.of upd_same) (dpa_ints [])) (shp_ints ys) (shp_ints []) ?_
    rw [eqv_ints]
    generalize upd H6 p1 (.lst []) = H7 at S7 h7 ⊢
    walk_at "sx"
    refine x_2n (fun h1 => ?_) fun h1 => ?_
    rotate_left
    · walk_at "sx"
      exact ⟨_, _, _, _, _, _, _, _, ys, rfl, S7, h7, hys⟩
    walk_at "sx"
    refine x_rI ⟨by decide, by decide⟩ ?_
    walk_at "sx"
    refine x_rI (by decide) ?_
    walk_at "sx"
    refine x_rEq rfl ?_
    walk_at "sx"
    refine x_2 (fun h2 => ?_) fun h2 => ?_
    rotate_left
    · walk_at "sx"
      exact ⟨_, _, _, _, _, _, _, _, ys, rfl, S7, h7, hys⟩
    obtain ⟨y0, yr, rfl⟩ : ∃ y0 yr, ys = y0 :: yr := by
      cases ys with
      | nil => exact absurd rfl h1
      | cons y0 yr => exact ⟨y0, yr, rfl⟩
    have hy0 := hys y0 List.mem_cons_self
    walk_at "sx"
    refine x_ixL (SqL.of h7) (v := .int y0) (atI_get (by decide) rfl) ?_
    walk_at "sx"
    refine x_rI ⟨by omega, by omega⟩ ?_
    walk_at "sx"
    refine x_rI (.inr ⟨by omega, by omega⟩) ?_
    walk_at "sx"
    refine ⟨l6, _, 0, 0, rfl, rfl, h7, by simp [ixN], ?_⟩
    have hd := Int.emod_add_mul_ediv y0 (fullN b + 1)
    have hm0 := Int.emod_nonneg y0 (b := fullN b + 1) (by omega)
    have hq : 0 ≤ y0 / (fullN b + 1) * (fullN b + 1) := Int.mul_nonneg (Int.ediv_nonneg hy0.1 (by omega)) (by omega)
    have hfit := head_fit b0 b1 (y0 / (fullN b + 1) * (fullN b + 1)) hq (by rw [Int.mul_comm]; omega) (Int.mul_emod_left _ _)
    refine ⟨_, _, _, _, _, _, _, _, (y0 / (fullN b + 1) * (fullN b + 1) + fullN b) :: yr, rfl, S7.mut h7 rfl nsl, upd_same, fun y hy => ?_⟩
    rcases List.mem_cons.mp hy with rfl | h
    · omega
    · exact hys y (List.mem_cons_of_mem _ h)
  clear S6 h6 hyl hys ys s6 S5 n6
  rintro σ H7 ⟨o5, o6, o7, o8, o9, o13, o14, o15, ys, rfl, S7, h7, hys⟩
  walk_at "sx"
  refine x_lam S7.tabs fun H8 e8 t8 => x_TW ?_
  have S8 := S7.ext hNT e8 t8
  have h8 := e8 _ _ h7 (fun _ z => nomatch z)
  walk_at "sx"
  refine ⟨.ref l6, .int b, 0, rfl, ty7_int _, .inl ⟨l6, _, rfl, .inl (SqL.of h8), ty_ints, fun b' eb _ _ => ?_, fun h => (hW h).elim⟩⟩
  have eb : b' = b := by injection eb with eb; omega
  subst eb
  refine ⟨fun n e hr p9 H9 s9 n9 h9 => ?_, fun hr H9 s9 => ⟨1, by decide, rfl, rfl, fun q9 H10 s10 n10 h10 => ?_⟩⟩
  rotate_left
  · walk_at "sx"
    refine ⟨szle (by show 2 ≤ 100000; decide), fun p8 m8 => ?_⟩
    refine x_neD (.tup (SqT.of (upd_old m8 h10)) (dp_rf 1)) (.tup (SqT.of upd_same) (dp_rf 1)) (by decide +kernel) (by decide +kernel) ?_
    rw [eqv_rf1]
    walk_at "sx"
    refine not_t ?_
    walk_at "sx"
    exact ⟨_, _, _, _, _, _, _, _, _, _, _, rfl, S8.same ((s9.trans s10).trans (same_upd m8))⟩
  have S9 := S8.same s9
  have h89 := s9 _ _ h8
  obtain ⟨y0, hy0, n0, n1, g0, g1, g2, g3⟩ := readN_inv b0 b1 hys hr
  walk_at "sx"
  refine ⟨szle (by show 2 ≤ 100000; decide), fun p8 m8 => ?_⟩
  have t10 := same_upd (o := .tup [.str "refused", .str "BadBytes"]) m8
  refine x_neD (.tup (SqT.of (upd_old m8 h9)) (dpa_ints [n, (e : Int)])) (.tup (SqT.of upd_same) (dp_rf 1)) (shp_tints [n, (e : Int)]) (by decide +kernel) ?_
  rw [show PyData.eqv (.tuple ([n, (e : Int)].map PyData.int)) (.tuple [.str "refused", .str (nmE 1)]) = false from by simp [PyData.eqv, PyData.eqvAll]]
  walk_at "sx"
  refine not_f ?_
  walk_at "sx"
  refine x_gtup (SqT.of (upd_old m8 h9)) rfl ?_
  walk_at "sx"
  have h10 := t10 _ _ h89
  have S10 := S9.same t10
  generalize upd H9 p8 (.tup [.str "refused", .str "BadBytes"]) = H10 at S10 h10 ⊢
  refine x_ixL (SqL.of h10) (v := .int y0) (atI_get (by decide) (by rw [List.getElem?_map]; show (ys[0]?).map _ = _; rw [hy0]; rfl)) ?_
  walk_at "sx"
  refine x_rI ⟨by omega, by omega⟩ ?_
  walk_at "sx"
  refine x_rI (.inr ⟨by omega, by omega⟩) ?_
  walk_at "sx"
  refine ⟨.int n, .int b', .int _, rfl, ty7_int _, ty7_int _, ty7_int _, fun n' h' b'' e1 e2 e3 _ _ _ _ _ _ _ p11 H11 s11 n11 h11 => ?_, fun e => ?_⟩
  rotate_left
  · rw [numGood_of b0 b1 g0 g1 n0 n1 g2] at e
    cases e
  cases e1
  cases e3
  have e2 : b'' = b' := by injection e2 with e2; omega
  subst e2
  rw [g3] at h11
  walk_at "sx"
  refine x_slL (SqL.of (s11 _ _ h10)) fun p12 m12 => ?_
  rw [cut_to _ (by omega), Int.toNat_natCast, ← List.map_take]
  refine x_neD (.lst (SqL.of (upd_old m12 h11)) (dpa_ints _)) (.lst (SqL.of upd_same) (dpa_ints _)) (shp_ints _) (shp_ints _) ?_
  rw [eqv_ints, decide_eq_true rfl]
  walk_at "sx"
  refine not_t ?_
  walk_at "sx"
  exact ⟨_, _, _, _, _, _, _, _, _, _, _, rfl, S10.same (s11.trans (same_upd m12))⟩
end
end Lw

set_option Elab.async false
set_option linter.all false
set_option maxRecDepth 100000
set_option maxHeartbeats 4000000
namespace Lw
open PySem PySem.Spec PyProof.Rows L2 HotX LamX Ws
theorem mk_law {w : World} {K : PySem.W.Frag} {h : Heap} {mg : Str → Option Value} {fa : Addr} {e0 e1 e2 e3 e4 e5 e6 f_need f_is_whole f_full_of f_number_bytes f_byte_at f_read_number f__law_cell f__law_drawn f__law_word f__law_told f_law cc_law PP_law : Addr} {oc_need kV_need dc_need pm_need ct_need cd_need oc_is_whole kV_is_whole dc_is_whole pm_is_whole ct_is_whole cd_is_whole oc_full_of kV_full_of dc_full_of pm_full_of ct_full_of cd_full_of oc_number_bytes kV_number_bytes dc_number_bytes pm_number_bytes ct_number_bytes cd_number_bytes oc_byte_at kV_byte_at dc_byte_at pm_byte_at ct_byte_at cd_byte_at oc_read_number kV_read_number dc_read_number pm_read_number ct_read_number cd_read_number oc__law_cell kV__law_cell dc__law_cell pm__law_cell ct__law_cell cd__law_cell oc__law_drawn kV__law_drawn dc__law_drawn pm__law_drawn ct__law_drawn cd__law_drawn oc__law_word kV__law_word dc__law_word pm__law_word ct__law_word cd__law_word oc__law_told kV__law_told dc__law_told pm__law_told ct__law_told cd__law_told oc_law kV_law dc_law pm_law ct_law : Value} {od_need an_need od_is_whole an_is_whole od_full_of an_full_of od_number_bytes an_number_bytes od_byte_at an_byte_at od_read_number an_read_number od__law_cell an__law_cell od__law_drawn an__law_drawn od__law_word an__law_word od__law_told an__law_told od_law an_law : Option Addr} {sl_need sl_is_whole sl_full_of sl_number_bytes sl_byte_at sl_read_number sl__law_cell sl__law_drawn sl__law_word sl__law_told sl_law : Array (Option Value)} {tk_MOST_NUMBER : Tok} (X : K.In h) (G : h.Ns mainGlobals mg) (hfa : mg "law" = some (.ref fa)) (KT : ∀ q ∈ [PP_law], h.get? q = some (PySem.W.tabObj #[])) 
    (ae0 : PySem.W.nsIn K mainGlobals "BadBook" = some (some (.ref e0)))
    (ae1 : PySem.W.nsIn K mainGlobals "BadBytes" = some (some (.ref e1)))
    (ae2 : PySem.W.nsIn K mainGlobals "BadRank" = some (some (.ref e2)))
    (ae3 : PySem.W.nsIn K mainGlobals "BadRoom" = some (some (.ref e3)))
    (ae4 : PySem.W.nsIn K mainGlobals "BadSheet" = some (some (.ref e4)))
    (ae5 : PySem.W.nsIn K mainGlobals "BadTurn" = some (some (.ref e5)))
    (ae6 : PySem.W.nsIn K mainGlobals "WireError" = some (some (.ref e6)))
    (er : errsIn K (fun i => [e0, e1, e2, e3, e4, e5, e6].getD i 0) = true)
    (z_isinstance : PySem.W.nsIn K mainGlobals "isinstance" = some none)
    (z_sum : PySem.W.nsIn K mainGlobals "sum" = some none)
    (z_int : PySem.W.nsIn K mainGlobals "int" = some none)
    (z_len : PySem.W.nsIn K mainGlobals "len" = some none)
    (z_ValueError : PySem.W.nsIn K mainGlobals "ValueError" = some none)
    (z_max : PySem.W.nsIn K mainGlobals "max" = some none)
    (z_min : PySem.W.nsIn K mainGlobals "min" = some none)
    (z_range : PySem.W.nsIn K mainGlobals "range" = some none)
    (z_bool : PySem.W.nsIn K mainGlobals "bool" = some none)
    (z_list : PySem.W.nsIn K mainGlobals "list" = some none)
    (z_tuple : PySem.W.nsIn K mainGlobals "tuple" = some none)
    (g_MOST_NUMBER : PySem.W.nsIn K mainGlobals "MOST_NUMBER" = some (some (.int 268435455 tk_MOST_NUMBER)))
    (a_need : PySem.W.nsIn K mainGlobals "need" = some (some (.ref f_need)))
    (l_need : K.lookup f_need = some ⟨oc_need, od_need, .func (PySem.W.fnOf "need" "need" (defArgs s_need) (defBody s_need) (defScope s_need) .none kV_need dc_need pm_need an_need cd_need ct_need), sl_need⟩)
    (c_need : PySem.W.codeIn K cd_need "need" = true)
    (k_need : PySem.W.keepIn K (.ref f_need) = true)
    (a_is_whole : PySem.W.nsIn K mainGlobals "is_whole" = some (some (.ref f_is_whole)))
    (l_is_whole : K.lookup f_is_whole = some ⟨oc_is_whole, od_is_whole, .func (PySem.W.fnOf "is_whole" "is_whole" (defArgs s_is_whole) (defBody s_is_whole) (defScope s_is_whole) .none kV_is_whole dc_is_whole pm_is_whole an_is_whole cd_is_whole ct_is_whole), sl_is_whole⟩)
    (c_is_whole : PySem.W.codeIn K cd_is_whole "is_whole" = true)
    (k_is_whole : PySem.W.keepIn K (.ref f_is_whole) = true)
    (a_full_of : PySem.W.nsIn K mainGlobals "full_of" = some (some (.ref f_full_of)))
    (l_full_of : K.lookup f_full_of = some ⟨oc_full_of, od_full_of, .func (PySem.W.fnOf "full_of" "full_of" (defArgs s_full_of) (defBody s_full_of) (defScope s_full_of) .none kV_full_of dc_full_of pm_full_of an_full_of cd_full_of ct_full_of), sl_full_of⟩)
    (c_full_of : PySem.W.codeIn K cd_full_of "full_of" = true)
    (k_full_of : PySem.W.keepIn K (.ref f_full_of) = true)
    (a_number_bytes : PySem.W.nsIn K mainGlobals "number_bytes" = some (some (.ref f_number_bytes)))
    (l_number_bytes : K.lookup f_number_bytes = some ⟨oc_number_bytes, od_number_bytes, .func (PySem.W.fnOf "number_bytes" "number_bytes" (defArgs s_number_bytes) (defBody s_number_bytes) (defScope s_number_bytes) .none kV_number_bytes dc_number_bytes pm_number_bytes an_number_bytes cd_number_bytes ct_number_bytes), sl_number_bytes⟩)
    (c_number_bytes : PySem.W.codeIn K cd_number_bytes "number_bytes" = true)
    (k_number_bytes : PySem.W.keepIn K (.ref f_number_bytes) = true)
    (a_byte_at : PySem.W.nsIn K mainGlobals "byte_at" = some (some (.ref f_byte_at)))
    (l_byte_at : K.lookup f_byte_at = some ⟨oc_byte_at, od_byte_at, .func (PySem.W.fnOf "byte_at" "byte_at" (defArgs s_byte_at) (defBody s_byte_at) (defScope s_byte_at) .none kV_byte_at dc_byte_at pm_byte_at an_byte_at cd_byte_at ct_byte_at), sl_byte_at⟩)
    (c_byte_at : PySem.W.codeIn K cd_byte_at "byte_at" = true)
    (k_byte_at : PySem.W.keepIn K (.ref f_byte_at) = true)
    (a_read_number : PySem.W.nsIn K mainGlobals "read_number" = some (some (.ref f_read_number)))
    (l_read_number : K.lookup f_read_number = some ⟨oc_read_number, od_read_number, .func (PySem.W.fnOf "read_number" "read_number" (defArgs s_read_number) (defBody s_read_number) (defScope s_read_number) .none kV_read_number dc_read_number pm_read_number an_read_number cd_read_number ct_read_number), sl_read_number⟩)
    (c_read_number : PySem.W.codeIn K cd_read_number "read_number" = true)
    (k_read_number : PySem.W.keepIn K (.ref f_read_number) = true)
    (a__law_cell : PySem.W.nsIn K mainGlobals "_law_cell" = some (some (.ref f__law_cell)))
    (l__law_cell : K.lookup f__law_cell = some ⟨oc__law_cell, od__law_cell, .func (PySem.W.fnOf "_law_cell" "_law_cell" (defArgs s__law_cell) (defBody s__law_cell) (defScope s__law_cell) .none kV__law_cell dc__law_cell pm__law_cell an__law_cell cd__law_cell ct__law_cell), sl__law_cell⟩)
    (c__law_cell : PySem.W.codeIn K cd__law_cell "_law_cell" = true)
    (k__law_cell : PySem.W.keepIn K (.ref f__law_cell) = true)
    (a__law_drawn : PySem.W.nsIn K mainGlobals "_law_drawn" = some (some (.ref f__law_drawn)))
    (l__law_drawn : K.lookup f__law_drawn = some ⟨oc__law_drawn, od__law_drawn, .func (PySem.W.fnOf "_law_drawn" "_law_drawn" (defArgs s__law_drawn) (defBody s__law_drawn) (defScope s__law_drawn) .none kV__law_drawn dc__law_drawn pm__law_drawn an__law_drawn cd__law_drawn ct__law_drawn), sl__law_drawn⟩)
    (c__law_drawn : PySem.W.codeIn K cd__law_drawn "_law_drawn" = true)
    (k__law_drawn : PySem.W.keepIn K (.ref f__law_drawn) = true)
    (a__law_word : PySem.W.nsIn K mainGlobals "_law_word" = some (some (.ref f__law_word)))
    (l__law_word : K.lookup f__law_word = some ⟨oc__law_word, od__law_word, .func (PySem.W.fnOf "_law_word" "_law_word" (defArgs s__law_word) (defBody s__law_word) (defScope s__law_word) .none kV__law_word dc__law_word pm__law_word an__law_word cd__law_word ct__law_word), sl__law_word⟩)
    (c__law_word : PySem.W.codeIn K cd__law_word "_law_word" = true)
    (k__law_word : PySem.W.keepIn K (.ref f__law_word) = true)
    (a__law_told : PySem.W.nsIn K mainGlobals "_law_told" = some (some (.ref f__law_told)))
    (l__law_told : K.lookup f__law_told = some ⟨oc__law_told, od__law_told, .func (PySem.W.fnOf "_law_told" "_law_told" (defArgs s__law_told) (defBody s__law_told) (defScope s__law_told) .none kV__law_told dc__law_told pm__law_told an__law_told cd__law_told ct__law_told), sl__law_told⟩)
    (c__law_told : PySem.W.codeIn K cd__law_told "_law_told" = true)
    (k__law_told : PySem.W.keepIn K (.ref f__law_told) = true)
    (a_law : PySem.W.nsIn K mainGlobals "law" = some (some (.ref f_law)))
    (l_law : K.lookup f_law = some ⟨oc_law, od_law, .func (PySem.W.fnOf "law" "law" (defArgs s_law) (defBody s_law) (defScope s_law) .none kV_law dc_law pm_law an_law (.ref cc_law) ct_law), sl_law⟩)
    (c_law : PySem.W.codeIn K (.ref cc_law) "law" = true)
    (k_law : PySem.W.keepIn K (.ref f_law) = true)
    (ch_law : PySem.W.codeHdIn K cc_law PP_law = true)
    (nl_law : K.lookup PP_law = none) :
    LamX.LawAtS PySem.Challenge.rw_wirestrands_k11_numbers_refused w K (L2N.CX PySem.Challenge.pw_wirestrands_k11_numbers_refused w) 7 63 "script" mg fa h := by
  have E : Errs K mg (fun i => [e0, e1, e2, e3, e4, e5, e6].getD i 0) := errs_of er (PySem.W.mg_of X G ae0) (PySem.W.mg_of X G ae1) (PySem.W.mg_of X G ae2) (PySem.W.mg_of X G ae3) (PySem.W.mg_of X G ae4) (PySem.W.mg_of X G ae5) (PySem.W.mg_of X G ae6)
  have n_isinstance := PySem.W.mg_none_of X G z_isinstance
  have n_sum := PySem.W.mg_none_of X G z_sum
  have n_int := PySem.W.mg_none_of X G z_int
  have n_len := PySem.W.mg_none_of X G z_len
  have n_ValueError := PySem.W.mg_none_of X G z_ValueError
  have n_max := PySem.W.mg_none_of X G z_max
  have n_min := PySem.W.mg_none_of X G z_min
  have n_range := PySem.W.mg_none_of X G z_range
  have n_bool := PySem.W.mg_none_of X G z_bool
  have n_list := PySem.W.mg_none_of X G z_list
  have n_tuple := PySem.W.mg_none_of X G z_tuple
  have G_MOST_NUMBER := PySem.W.mg_of X G g_MOST_NUMBER
  have D_need : DefAt K mg "need" s_need := ⟨f_need, _, fun_mk (st := s_need) l_need c_need k_need, PySem.W.mg_of X G a_need⟩
  have D_is_whole : DefAt K mg "is_whole" s_is_whole := ⟨f_is_whole, _, fun_mk (st := s_is_whole) l_is_whole c_is_whole k_is_whole, PySem.W.mg_of X G a_is_whole⟩
  have D_full_of : DefAt K mg "full_of" s_full_of := ⟨f_full_of, _, fun_mk (st := s_full_of) l_full_of c_full_of k_full_of, PySem.W.mg_of X G a_full_of⟩
  have D_number_bytes : DefAt K mg "number_bytes" s_number_bytes := ⟨f_number_bytes, _, fun_mk (st := s_number_bytes) l_number_bytes c_number_bytes k_number_bytes, PySem.W.mg_of X G a_number_bytes⟩
  have D_byte_at : DefAt K mg "byte_at" s_byte_at := ⟨f_byte_at, _, fun_mk (st := s_byte_at) l_byte_at c_byte_at k_byte_at, PySem.W.mg_of X G a_byte_at⟩
  have D_read_number : DefAt K mg "read_number" s_read_number := ⟨f_read_number, _, fun_mk (st := s_read_number) l_read_number c_read_number k_read_number, PySem.W.mg_of X G a_read_number⟩
  have D__law_cell : DefAt K mg "_law_cell" s__law_cell := ⟨f__law_cell, _, fun_mk (st := s__law_cell) l__law_cell c__law_cell k__law_cell, PySem.W.mg_of X G a__law_cell⟩
  have D__law_drawn : DefAt K mg "_law_drawn" s__law_drawn := ⟨f__law_drawn, _, fun_mk (st := s__law_drawn) l__law_drawn c__law_drawn k__law_drawn, PySem.W.mg_of X G a__law_drawn⟩
  have D__law_word : DefAt K mg "_law_word" s__law_word := ⟨f__law_word, _, fun_mk (st := s__law_word) l__law_word c__law_word k__law_word, PySem.W.mg_of X G a__law_word⟩
  have D__law_told : DefAt K mg "_law_told" s__law_told := ⟨f__law_told, _, fun_mk (st := s__law_told) l__law_told c__law_told k__law_told, PySem.W.mg_of X G a__law_told⟩
  have D_law : LamAt K mg "law" s_law cc_law := ⟨f_law, _, _, _, _, _, _, _, _, l_law, c_law, k_law, PySem.W.mg_of X G a_law⟩
  have e := hfa.symm.trans (PySem.W.mg_of X G a_law)
  cases e
  have HL : Hlp K mg (fun i => [e0, e1, e2, e3, e4, e5, e6].getD i 0) := ⟨E, n_isinstance, n_sum, n_int, n_len, n_ValueError, D__law_word, D__law_told, D__law_cell, D__law_drawn⟩
  have TN : TxN K mg (fun i => [e0, e1, e2, e3, e4, e5, e6].getD i 0) := ⟨E, n_isinstance, n_int, n_bool, n_list, n_tuple, n_len, n_range, ⟨_, G_MOST_NUMBER⟩, D_need, D_is_whole, D_full_of, D_number_bytes, D_byte_at, D_read_number⟩
  have TL : TxL K mg (fun i => [e0, e1, e2, e3, e4, e5, e6].getD i 0) cc_law := ⟨HL, TN, n_range, n_max, n_min, n_len, D_law⟩
  refine ⟨PySem.W.fnOf "law" "law" (defArgs s_law) (defBody s_law) (defScope s_law) .none kV_law dc_law pm_law an_law (.ref cc_law) ct_law, [(cc_law, PP_law)], spLaw K PP_law, fun p hp => ?_, fun p hp => ?_, fun p hp => ?_, fun s u => .of_eq rfl, fun H a ns hl hb hT hS => ?_, fun base _ _ TB => ?_⟩
  · rw [List.mem_singleton.mp hp]; exact KT _ List.mem_cons_self
  · rw [List.mem_singleton.mp hp]; exact nl_law
  · rw [List.mem_singleton.mp hp]; exact PySem.W.codeHd_of_K X ch_law
  · exact ⟨a, ns, rfl, hS, hl, hT _ List.mem_cons_self, fun _ => rfl⟩
  · exact ok_law TL (TB _ List.mem_cons_self) l_law c_law
end Lw
open PySem PySem.W PyProof.Rows
set_option maxRecDepth 100000 in
set_option maxHeartbeats 0 in
theorem PySem.Challenge.cw_wirestrands_k11_numbers_refused_holds : PySem.Challenge.rw_wirestrands_k11_numbers_refused.Holds := by
  w_on; o_law; k_head; (case hw => w_witness2)
  k_fill
  refine LamX.walk_ofTs (l := PySem.Challenge.rw_wirestrands_k11_numbers_refused) (n := 63) (k := 7) (x := "script") (CX := fun w => L2N.CX PySem.Challenge.pw_wirestrands_k11_numbers_refused w) rfl (by decide) rfl ⟨rfl, by decide, by decide⟩ (fun w h Y => PySem.W.km_in_of Y) ?F (fun w H s e s' z => by obtain ⟨_, _, _, _, _, _, _, _, _, _, _, _, q⟩ := z; exact q)
  case F =>
    intro w mg fa h Y KX G hmg
    have KT := PySem.W.km_tabs_of Y
    clear Y
    refine' Lw.mk_law KX G hmg KT ?ae0 ?ae1 ?ae2 ?ae3 ?ae4 ?ae5 ?ae6 ?er ?z_isinstance ?z_sum ?z_int ?z_len ?z_ValueError ?z_max ?z_min ?z_range ?z_bool ?z_list ?z_tuple ?g_MOST_NUMBER ?a_need ?l_need ?c_need ?k_need ?a_is_whole ?l_is_whole ?c_is_whole ?k_is_whole ?a_full_of ?l_full_of ?c_full_of ?k_full_of ?a_number_bytes ?l_number_bytes ?c_number_bytes ?k_number_bytes ?a_byte_at ?l_byte_at ?c_byte_at ?k_byte_at ?a_read_number ?l_read_number ?c_read_number ?k_read_number ?a__law_cell ?l__law_cell ?c__law_cell ?k__law_cell ?a__law_drawn ?l__law_drawn ?c__law_drawn ?k__law_drawn ?a__law_word ?l__law_word ?c__law_word ?k__law_word ?a__law_told ?l__law_told ?c__law_told ?k__law_told ?a_law ?l_law ?c_law ?k_law ?ch_law ?nl_law
    (case ae0 => k_is)
    (case ae1 => k_is)
    (case ae2 => k_is)
    (case ae3 => k_is)
    (case ae4 => k_is)
    (case ae5 => k_is)
    (case ae6 => k_is)
    (case er => kernel_rfl)
    (case z_isinstance => k_is)
    (case z_sum => k_is)
    (case z_int => k_is)
    (case z_len => k_is)
    (case z_ValueError => k_is)
    (case z_max => k_is)
    (case z_min => k_is)
    (case z_range => k_is)
    (case z_bool => k_is)
    (case z_list => k_is)
    (case z_tuple => k_is)
    (case g_MOST_NUMBER => k_is)
    (case a_need => k_is)
    (case l_need => k_is)
    (case c_need => k_is)
    (case k_need => k_is)
    (case a_is_whole => k_is)
    (case l_is_whole => k_is)
    (case c_is_whole => k_is)
    (case k_is_whole => k_is)
    (case a_full_of => k_is)
    (case l_full_of => k_is)
    (case c_full_of => k_is)
    (case k_full_of => k_is)
    (case a_number_bytes => k_is)
    (case l_number_bytes => k_is)
    (case c_number_bytes => k_is)
    (case k_number_bytes => k_is)
    (case a_byte_at => k_is)
    (case l_byte_at => k_is)
    (case c_byte_at => k_is)
    (case k_byte_at => k_is)
    (case a_read_number => k_is)
    (case l_read_number => k_is)
    (case c_read_number => k_is)
    (case k_read_number => k_is)
    (case a__law_cell => k_is)
    (case l__law_cell => k_is)
    (case c__law_cell => k_is)
    (case k__law_cell => k_is)
    (case a__law_drawn => k_is)
    (case l__law_drawn => k_is)
    (case c__law_drawn => k_is)
    (case k__law_drawn => k_is)
    (case a__law_word => k_is)
    (case l__law_word => k_is)
    (case c__law_word => k_is)
    (case k__law_word => k_is)
    (case a__law_told => k_is)
    (case l__law_told => k_is)
    (case c__law_told => k_is)
    (case k__law_told => k_is)
    (case a_law => k_is)
    (case l_law => k_is)
    (case c_law => k_is)
    (case k_law => k_is)
    (case ch_law => kernel_rfl)
    (case nl_law => kernel_rfl)
#print axioms PySem.Challenge.cw_wirestrands_k11_numbers_refused_holds
