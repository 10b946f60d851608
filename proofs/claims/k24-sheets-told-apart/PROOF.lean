import PyProof.Rows.All
import Wide.All
import OpenK.AllK
import Wide.FinOn
import HandS.Base
import HandS.Call
import HandS.List
import HandS.Comp
import HandS.Exc
import HandS.Hot
import HandS.HotCalls
import HandS.Lambda
import HandS.ExcIs
import HandS.Words
import HandS.Wide
import HandS.ForMost
import HandS.EndTab
import HandS.IsInst
import HandS.Style
import HandS.SortInts
import HandS.More
import HandS.Small
import HandS.NoneIn
import HandS.Deep
import HandS.TupAny
import HandS.Strs
import HandS.Codes
import HandS.WordsDict
import HandS.TupMul
import HandS.SortKw
import KE.DataMinMax
import HandS.Conv
import HandS.Iter
import HandS.DictComp
import PySem.Challenge.RW_wirestrands_k24_whole_sheets_told_apart
set_option Elab.async false
set_option linter.all false
set_option maxRecDepth 100000
set_option maxHeartbeats 4000000
namespace Ws
open PySem PySem.Spec PyProof.Rows L2 HotX
section
variable {prog : Program} {w : World} {A : Around} {E : Value → Shared → Prop} {s : Shared}
/-- the end of a list's walk while an exception is handled -/
theorem next_end_hot {it l x1 : Addr} {i : Nat} {items : Array Value} {Q : Option Value → Shared → Prop} (hot : HotAt A x1 s.heap) (nx : x1 ≠ it)
    (hit : s.heap.IsListIter it l i) (hl : s.heap.IsList l items) (hx : items[i]? = none)
    (hQ : ∀ h', Heap.ExtBut it s.heap h' → Q none { s with heap := h' }) : wpAny (model prog w) A (pyNext (.ref it)) Q E s := by
  obtain ⟨o, ho, hc, hd⟩ := id hit
  obtain ⟨ol, hol, _, nl, hdl⟩ := hl
  obtain ⟨hh, o1, vs1, h1, d1, c1⟩ := hot
  unfold pyNext
  refine wpAny_bind (wpAny_attempt (wpAny_callSpecial?_slot (name := Str.ofString "__next__") hit.typeIs slot_listiter_next
    (wpAny_call_entry slot_listiter_next hit.typeIs entry_listiter_next ?_ (args_listiter_next _))))
  refine wpAny_bind (m := field (.ref it) 0) (wpAny_field ho hd (x := .ref l) rfl ?_)
  rw [if_neg (show ¬ ((Value.ref l == Value.none) = true) from Bool.false_ne_true)]
  refine wpAny_bind (m := field (.ref it) 1) (wpAny_field ho hd (x := .int i 0) rfl ?_)
  refine wpAny_bind (m := seqItems? (.ref l)) (wpAny_seqItems hol hdl ?_)
  simp only [Int.toNat_natCast, hx]
  refine wpAny_bind (wpAny_rule (wpAny_bind (wpAny_setField ho hd (by simp) ?_)))
  refine wpAny_bind (m := newExc (.type "StopIteration") []) ?_
  simp only [newExc, newTuple]
  refine wpAny_bind (wpAny_newObj_type ?_ (by size_fits))
  refine wpAny_bind (m := firstArgMember _ _) (wpAny_of_eq (a := Value.none) (by first | rfl | (simp only [firstArgMember]; rfl)) ?_)
  refine wpAny_newObj_type ?_ (by size_fits)
  have h1' : (s.heap.update it (Obj.mapFields (·.setIfInBounds 0 Value.none))).get? x1 = some o1 := by
    rw [Heap.get?_update_other _ _ (Ne.symm nx)]; exact h1
  refine raiseNew_hot ⟨hh, o1, vs1, Heap.get?_push_of_some _ (Heap.get?_push_of_some _ h1'), d1, c1⟩ (Nat.ne_of_lt (Heap.lt_size (Heap.get?_push_of_some _ h1'))) (Heap.get?_push_size _ rfl) rfl (by first | (simp; done) | (simp; omega) | (simp only [Array.size_append]; simp; omega)) ?_
  refine wpAny_bind (wpAny_isInstance (T := "StopIteration") (b := true) ⟨_, Heap.get?_update_self _ (Heap.get?_push_size _ rfl) rfl, rfl⟩ isSubtype_stop ?_)
  refine wpAny_pure (hQ _ fun b o hb e => ?_)
  have e' : (s.heap.update it (Obj.mapFields (·.setIfInBounds 0 Value.none))).get? b = some o := by
    rw [Heap.get?_update_other _ _ (Ne.symm hb)]; exact e
  rw [Heap.get?_update_other _ _ (Nat.ne_of_gt (Heap.lt_size (Heap.get?_push_of_some _ e')))]
  exact Heap.get?_push_of_some _ (Heap.get?_push_of_some _ e')
end

section
variable {prog : Program} {w : World} {A : Around}
theorem walks_hot {x1 : Addr} {o1 : Obj} {vs1 : Array Value} (hh : A.handled = some (.ref x1)) (d1 : o1.data = .fields vs1) (c1 : vs1[2]? = some .none) (it ax : Addr) (hne : ax ≠ it) (hx : x1 ≠ it) (items : Array Value) :
    Walks prog w A it [it, ax, x1] [it] items.size (fun i v => items[i]? = some v) (fun i h => h.IsListIter it ax i ∧ h.IsList ax items ∧ h.get? x1 = some o1) where
  sub := fun b hb => by simp at hb; simp [hb]
  frame := fun _ _ _ st hk => ⟨st.1.at fun o e => hk it (by simp) o e, st.2.1.at fun o e => hk ax (by simp) o e, hk x1 (by simp) _ st.2.2⟩
  item := fun i s Q E hi st hQ => by
    refine wpAny_pyNext_list_item st.1 st.2.1 (x := items[i]) (by simp [hi]) fun h' hit' hs' => ?_
    exact hQ _ h' s.toks (by simp [hi]) ⟨hit', st.2.1.extBut hs'.extBut hne, hs'.extBut _ _ hx st.2.2⟩ fun b o hb e => hs'.extBut b o (fun h => hb (by simp [h])) e
  done := fun s Q E st hQ => next_end_hot ⟨hh, o1, vs1, st.2.2, d1, c1⟩ hx st.1 st.2.1 (by simp) fun h' eb => hQ h' s.toks fun b o hb e => eb b o (by simpa using hb) e
  self := fun i s Q E st hQ => wpAny_pyIter_listiter st.1 hQ
end
section
variable {X : Cx}
/-- sum of a list of ints while an exception is handled -/
theorem cr_sumH (hc : L2H.HotC X) : CallR X (.builtin "sum") (rSum X.K) := by
  intro pins s σ H vs us Q I r h
  obtain ⟨a, ns, rfl, hs, q⟩ := h
  obtain ⟨its, rv, hl, _⟩ := I.list hs
  rw [Vals.ref1 r]
  have hi : IntsAre its ns := rv.ints
  obtain ⟨xs, e⟩ := hi.allInts.items
  have hn : numsOf (intItems xs).toList = ns := by rw [← e]; exact hi.numsOf
  rw [nums_intItems] at hn
  have hl := hl.isList
  rw [e] at hl
  obtain ⟨p, ⟨hh, v1, e1, c1⟩, hp⟩ := hc
  have hget := (I.pin p (List.mem_append_left _ hp)).1
  refine call_sum_walkG (iter_intList hl fun s₂ e₂ st hfp hlI => ?_)
  subst e₂
  have hne : p.1 ≠ s.heap.objs.size := Nat.ne_of_lt (Heap.lt_size hget)
  refine ⟨_, _, _, _, _, _, numAt xs, rfl, walks_hot (A := X.A.in1) (x1 := p.1) (o1 := p.2) hh e1 c1 _ a hlI hne (intItems xs), ⟨st.1, st.2, Heap.get?_push_of_some _ hget⟩, fun b hb => ?_, (fun _ _ => intItems_at), fun h' tk t' hk => ?_⟩
  · have hb' : b = s.heap.objs.size ∨ b = a ∨ b = p.1 := by simpa using hb
    rcases hb' with z | z | z
    · exact hfp b (by simp [z])
    · exact hfp b (by simp [z])
    · rw [z]; exact Heap.lt_size (Heap.get?_push_of_some _ hget)
  · have hk' : ∀ b o, s.heap.get? b = some o → h'.get? b = some o := old_kept hk
    have ee : preSum (numAt xs) (intItems xs).size = ns.sum := by
      rw [show (intItems xs).size = xs.size by simp [intItems], preSum_eq, List.take_of_length_le (by simp), hn]
    rw [ee]
    exact ⟨.int _, H, I.kept hk', ⟨_, rfl⟩, q⟩
end
end Ws

set_option Elab.async false
set_option linter.all false
set_option maxRecDepth 100000
set_option maxHeartbeats 4000000
namespace Ws
open PySem PySem.Spec PyProof.Rows L2 HotX
section
variable {X : Cx}
/-- a list made of a list, item by item, by a reading that touches nothing -/
def tMapH (K : PySem.W.Frag) (tl : TE) (g : TG) (te : TE) (vs : List Nat) : TE := fun σ H Q => tl σ H fun x H1 => ∃ (a : Addr) (xs : List V) (f : V → V), x = .ref a ∧ SqL K H1 a xs ∧ xs.length < sizeLine ∧
  (∀ (v : V) (H : Hp), v ∈ xs → g v (wipe σ vs) H fun σ2 H2 => H2 = H ∧ wipe σ2 vs = wipe σ vs ∧ te σ2 H2 fun y H3 => H3 = H ∧ y = f v) ∧
  ∀ D, H1 D = none → Q (.ref D) (upd H1 D (.lst (xs.map f)))
theorem sql_new {K : PySem.W.Frag} {H : Hp} {a D : Addr} {xs : List V} {o : HO} (h : SqL K H a xs) (hD : H D = none) : SqL K (upd H D o) a xs := by
  rcases h with (h | ⟨ob, h⟩) | h
  · exact .inl (.inl (by rw [upd_ne (ne_of_none h hD)]; exact h))
  · exact .inl (.inr ⟨ob, by rw [upd_ne (ne_of_none h hD)]; exact h⟩)
  · exact .inr h
theorem pe_mapH {elt tg iter : Expr} {scope : Scope} {own : List (Str × Nat)} {pos : Pos} {tl : TE} {g : TG} {te : TE} (hc : L2H.HotC X) (hN : X.N.Nodup) (hi : PE X iter tl) (ok : BlkOk X.N X.env.scope scope own)
    (hg : ∀ (s : Shared) (H : Hp) (C : Addr) (cl : List (Str × Addr)) (fp : List Addr), PG (X.blk s H scope (compEnvC scope cl C X.env) fp) tg g)
    (he : ∀ (s : Shared) (H : Hp) (C : Addr) (cl : List (Str × Addr)) (fp : List Addr), PE (X.blk s H scope (compEnvC scope cl C X.env) fp) elt te) (hs : ∀ x, foldedSetIterable iter X.env x = pure x := by intro _; rfl) :
    PE X (.ListComp elt [⟨tg, iter, [], 0⟩] scope pos) (tMapH X.K tl g te (own.map (·.2))) := by
  refine ⟨fun pins s σ H Q I h => ?_⟩
  rw [eval_ListComp]
  have hfree : ∀ y ∈ scope.names, y.2 = .free → ∃ c, X.env.cells.lookup y.1 = some c := fun y hy e => by
    rcases ok.free y hy e with k | k
    · exact I.ok.has _ (.inl k)
    · exact I.ok.has _ (.inr k)
  refine wpAny_comprehension_free (use := Option.none) rfl hs (closure_ok hfree) ok.kind (fun y hy e => by rw [ok.uniq y hy, e])
    (thn (hi.run pins s σ H _ I h) fun xv s1 hx => ?_)
  obtain ⟨x, H1, I1, rx, a, xs, f, ex, hsq, hlen, hel, hq⟩ := hx
  subst ex
  cases rx
  obtain ⟨its, rv, p, hz⟩ := I1.list hsq
  refine wpAny_pyIter_list p.isList ?_
  have hvl := rv.length
  -- the iterator
  generalize hit : s1.heap.objs.size = it
  generalize hs2 : ({ s1 with heap := s1.heap.push { cls := .type "list_iterator", data := .fields #[.ref a, .int 0 0] } } : Shared) = s2
  have I2 : Inv X pins σ H1 s2 := by
    rw [← hs2]
    exact I1.kept (t' := s1.toks) fun b o e => Heap.get?_push_of_some _ e
  have st2 : s2.heap.IsListIter it a 0 := by
    rw [← hs2, ← hit]
    exact ⟨_, Heap.get?_push_size _ rfl, rfl, rfl⟩
  have f2 : FpOk X pins H1 it := by
    have z := I1.fpOk (b := it) (Nat.le_of_eq hit) (I1.hok.fresh (Nat.le_of_eq hit))
    exact z
  refine wpAny_newObj_type (newEnv_comp ?_) (by show 0 ≤ sizeLine; decide)
  generalize hD : s2.heap.objs.size = D
  have hDn : H1 D = none := I2.hok.fresh (Nat.le_of_eq hD)
  generalize hs3 : ({ s2 with heap := s2.heap.push { cls := .type "list", data := .seq ([] : List Value).toArray } } : Shared) = s3
  have h3 : s3.heap = s2.heap.push { cls := .type "list", data := .seq ([] : List Value).toArray } := by rw [← hs3]
  have I3 : Inv X pins σ (upd H1 D (.lst [])) s3 := by
    rw [← hs3]
    refine I2.laid (t' := s2.toks) (fun b o e => Heap.get?_push_of_some _ e) (Nat.le_of_eq hD) ⟨Nat.zero_le _, [], 0, .nil, ?_⟩
    rw [← hD]
    exact Heap.get?_push_size _ rfl
  have hitlt : it < s2.heap.objs.size := by
    obtain ⟨o, e, _⟩ := st2
    exact Heap.lt_size e
  have f3 : FpOk X pins (upd H1 D (.lst [])) it ∧ it < s3.heap.objs.size := by
    refine ⟨⟨?_, f2.2⟩, by rw [h3, Heap.size_push]; exact Nat.lt_succ_of_lt hitlt⟩
    rw [upd_ne (by rw [← hD]; exact Nat.ne_of_lt hitlt)]
    exact f2.1
  have f3' : ∀ b ∈ [it], FpOk X pins (upd H1 D (.lst [])) b ∧ b < s3.heap.objs.size := fun b hb => by
    have e : b = it := by simpa using hb
    rw [e]; exact f3
  have st3 : s3.heap.IsListIter it a 0 := st2.at fun o e => by rw [h3]; exact Heap.get?_push_of_some _ e
  have I4 := block_start I3 ok hN f3'
  have pg := hg s3 (upd H1 D (.lst [])) s3.heap.objs.size (cellsFrom (s3.heap.objs.size + 1) scope.names (cloFrom X.env.cells scope.names [])) [it]
  have pe := he s3 (upd H1 D (.lst [])) s3.heap.objs.size (cellsFrom (s3.heap.objs.size + 1) scope.names (cloFrom X.env.cells scope.names [])) [it]
  -- the handled exception
  obtain ⟨px, ⟨hh, v1, e1, c1⟩, hp⟩ := hc
  have P3 := I3.pin px (List.mem_append_left _ hp)
  show codeAny _ _ (.compStart (.ListComp elt [⟨tg, iter, [], 0⟩] scope pos) 0 (.ref it) (.ref D) (compEnvC scope (cellsFrom (s3.heap.objs.size + 1) scope.names (cloFrom X.env.cells scope.names [])) s3.heap.objs.size X.env)) (compPost (model X.prog X.w) X.A X.xe Option.none (EP X pins σ Q) (.ref D) s3.heap.objs.size) { s3 with heap := pushCells (s3.heap.push { cls := .type "dict", data := .dict #[] }) scope.names }
  generalize hce : compEnvC scope (cellsFrom (s3.heap.objs.size + 1) scope.names (cloFrom X.env.cells scope.names [])) s3.heap.objs.size X.env = ce at I4 pg pe ⊢
  have cL : ce.locals = s3.heap.objs.size := by subst hce; rfl
  generalize hH3 : upd H1 D (.lst []) = H3 at I3 I4 pg pe f3 f3' P3
  generalize hs4 : ({ s3 with heap := pushCells (s3.heap.push { cls := .type "dict", data := .dict #[] }) scope.names } : Shared) = s4 at I4 ⊢
  have st4 : s4.heap.IsListIter it a 0 := st3.at fun o e => by rw [← hs4]; exact pushCells_keeps _ _ _ _ (Heap.get?_push_of_some _ e)
  have stat : ∀ {σ' : L2.St} {H' : Hp} {s' : Shared}, Inv (X.blk s3 H3 scope ce [it]) [] σ' H' s' → H' it = none → FpOk (X.blk s3 H3 scope ce [it]) [] H' it := fun {σ' H' s'} I' hn =>
    ⟨hn, (I'.ok.exf it (by simp)).1, I'.ok.exfs it (by simp), .inl (by simp), fun x c e => (I'.ok.exf it (by simp)).2 x c e, fun p hp => absurd (show p ∈ ([] : List (Addr × Obj)) ++ [] from hp) (by simp)⟩
  have nxit : px.1 ≠ it := fun z => by
    have q : px.1 < s1.heap.objs.size := Heap.lt_size (I1.pin px (List.mem_append_left _ hp)).1
    rw [z, ← hit] at q
    exact Nat.lt_irrefl _ q
  have hotB : ∀ {σ' : L2.St} {H' : Hp} {s' : Shared}, Inv (X.blk s3 H3 scope ce [it]) [] σ' H' s' → HotAt X.A px.1 s'.heap := fun {σ' H' s'} I' => by
    refine ⟨hh, px.2, v1, I'.base.keep px.1 px.2 P3.1 P3.2.1 ?_ (by simpa using nxit), e1, c1⟩
    intro hm
    have hm' : px.1 ∈ frs X.stack := hm
    rcases List.mem_cons.mp (I3.stkSub px.1 hm') with z | z
    · exact P3.2.2.1 z
    · exact P3.2.2.2.1 z
  have Hi : ∀ i, i ≤ xs.length → Hp := fun i _ => upd H1 D (.lst ((xs.take i).map f))
  have loop : codeAny (model X.prog X.w) X.A (.compLoop (.ListComp elt [⟨tg, iter, [], 0⟩] scope pos) 0 (.ref it) (.ref D) ce) (compPost (model X.prog X.w) X.A X.xe Option.none (EP X pins σ Q) (.ref D) s3.heap.objs.size) s4 := by
    refine compLoop_any (fun n s' => ∃ i H', n = xs.length - i ∧ i ≤ xs.length ∧ Inv (X.blk s3 H3 scope ce [it]) [] (wipe σ (own.map (·.2))) H' s' ∧ s'.heap.IsListIter it a i ∧ H' = upd H1 D (.lst ((xs.take i).map f))) ?_ xs.length ⟨0, H3, by simp, Nat.zero_le _, I4, st4, by rw [← hH3]; simp⟩
    rintro n s5 ⟨i, H5, rfl, hil, I5, st5, eH5⟩
    have nit : H5 it = none := by
      rw [eH5, upd_ne (by rw [← hD]; exact Nat.ne_of_lt hitlt)]
      exact f2.1
    obtain ⟨g0, g1, g2, g3, g4, g5⟩ := stat I5 nit
    have hsq5 : SqL X.K H5 a xs := by rw [eH5]; exact sql_new hsq hDn
    obtain ⟨its5, rv5, p5, hz5⟩ := I5.list hsq5
    have hvl5 := rv5.length
    by_cases hlt : i < xs.length
    · obtain ⟨u, hu, ru⟩ := rv5.get (i := i) (x := xs[i]) (by simp [hlt])
      refine wpAny_pyNext_list_item st5 p5.isList (x := u) (by simpa using hu) fun h' st' sb => ?_
      have I6 : Inv (X.blk s3 H3 scope ce [it]) [] (wipe σ (own.map (·.2))) H5 { s5 with heap := h' } := I5.turned (t' := s5.toks) (fun b o hb e => (sb.2 b hb).trans e) g0 g1 g3 g4 g5
      obtain ⟨o, e, c, d⟩ := id st'
      refine go_of (s := { s5 with heap := h' }) e c d (by decide) ?_
      have I6' := I6.pinned (fp := [it]) (fun b hb => by
        have eb : b = it := by simpa using hb
        rw [eb]
        exact ⟨g0, g1, g2, g3, g4, g5⟩) (fun b hb => by
        have eb : b = it := by simpa using hb
        rw [eb]
        exact ⟨o, e, fun v z => by rw [d] at z; cases z⟩)
      refine thnF (pg.run _ _ _ H5 xs[i] u _ I6' ru (hel xs[i] H5 (List.getElem_mem hlt))) fun _ s8 ⟨σ8, H8, I8, e8, hw8, q8⟩ => ?_
      subst e8
      refine wpAny_tests_nil ?_
      rw [if_pos rfl]
      refine thnF (pe.run _ s8 σ8 _ _ I8 q8) fun z s10 ⟨yv, H10, I10, r10, e10, ey⟩ => ?_
      subst e10 ey
      have hD10 : H10 D = some (.lst ((xs.take i).map f)) := by rw [eH5]; exact upd_same
      refine app_ok (X := X.blk s3 H3 scope ce [it]) I10 hD10 (by rw [List.length_map, List.length_take]; omega) r10 fun s11 I11 => ?_
      have pin' : s11.heap.get? it = some o ∧ _ := I11.pin (it, o) (List.mem_append_right _ (List.mem_append_right _ (mem_pinsAt (by simp) e)))
      refine ⟨xs.length - (i + 1), by omega, i + 1, _, rfl, hlt, (I11.unpinned (pins := [])).weak (by rw [← hw8, wipe_length]) (fun j v e => ?_), ⟨o, pin'.1, c, d⟩, ?_⟩
      · rw [← hw8] at e
        exact (wipe_some e).1
      · have et : xs.take (i + 1) = xs.take i ++ [xs[i]] := by
          rw [List.take_add_one, List.getElem?_eq_getElem hlt]
          rfl
        rw [eH5, upd_upd, et, List.map_append]
        rfl
    · have ei : i = xs.length := by omega
      refine next_end_hot (hotB I5) nxit st5 p5.isList (by simp; omega) fun h' eb => ?_
      have I6 : Inv (X.blk s3 H3 scope ce [it]) [] (wipe σ (own.map (·.2))) H5 { s5 with heap := h' } := I5.turned (t' := s5.toks) (fun b o hb e => eb b o hb e) g0 g1 g3 g4 g5
      have I7 : Inv X pins σ H5 { s5 with heap := h' } := I3.call' (ch := [it]) I6.os I6.base I6.hok I6.bare fun b hb => ⟨(f3' b hb).1.2.2.2.1, (f3' b hb).1.2.1, (f3' b hb).1.2.2.2.2.1, (f3' b hb).1.2.2.2.2.2⟩
      have nC : H5 s3.heap.objs.size = none := by
        have z : H5 ce.locals = none := I6.free
        rw [cL] at z
        exact z
      obtain ⟨m, hn, _⟩ := I6.loc
      have hn : ({ s5 with heap := h' } : Shared).heap.Ns ce.locals m := hn
      rw [cL] at hn
      obtain ⟨k0, k1, k2, k3, k4, k5⟩ := I3.fpOk (b := s3.heap.objs.size) (Nat.le_refl _) nC
      refine ⟨m, hn, fun h'' sb => ⟨.ref D, H5, I7.turned (t' := s5.toks) (fun b o hb e => (sb.2 b hb).trans e) k0 k1 k3 k4 k5, rfl, ?_⟩⟩
      rw [eH5, ei, List.take_length]
      exact hq D hDn
  exact codeAny_compStart_list loop (wpAny_pyIter_listiter st4 loop)
end
end Ws

set_option Elab.async false
set_option linter.all false
set_option maxRecDepth 100000
set_option maxHeartbeats 4000000
namespace Ws
open PySem PySem.Spec PyProof.Rows L2 HotX LamX
/-! ### a def called while an exception is handled, told of the very state -/
theorem run_hot {CX : CXT} {P : Program} {w : World} {K : PySem.W.Frag} {mg : Str → Option Value} {base : Heap} {k : Nat} {f : Addr} {name qual : Str} {params : Arguments} {body : List Stmt} {scope : Scope} {dV kV doc pm cdv ct oc : Value} {an od : Option Addr}
    {osl : Array (Option Value)} {N ps : List Str} (lk : K.lookup f = some ⟨oc, od, .func (PySem.W.fnOf name qual params body scope dV kV doc pm an cdv ct), osl⟩) (hcd : PySem.W.codeIn K cdv qual = true) (S : FnScope N ps scope)
    {A : Around} {outer : List Env} {s : Shared} {H : Hp} {args : Args} {us : List Value} {vs : List V} {Q : VK} {E : XK} {p : Addr × Obj} (hr : L2H.RoomH (k + 1) A) (hpin : L2H.PinOk outer H s p) (e0 : Env0 P w K mg base A outer s H)
    (hb : BindsTo s (PySem.W.fnOf name qual params body scope dV kV doc pm an cdv ct) args (ps.zip us)) (r : Vals vs us) (hl : vs.length = ps.length)
    (hbody : L2H.RoomH k (A.deeper (envOfC qual scope s.heap.objs.size f cdv)) → ∃ t, PSs (L2H.cxH CX P w K mg base N qual scope f cdv A outer s H E p) body t ∧ t { nx := fun _ H' => Q .non H', rt := Q } (L2.start N vs) H) :
    codeAny (model P w) A (.call (.ref f) args) (CR CX outer P w H s Q E) s := by
  have KX : K.In s.heap := e0.mod.kin.keeps fun b o e => (e0.bs b o e).1
  have lim : s.heap.NoLimit := e0.mod.nolimit.keeps fun b o e => (e0.bs b o e).1
  have hkind : ∀ y ∈ ps.zip us, scope.names.lookup y.1 = some .local ∨ (scope.names.lookup y.1 = some .cell ∧ ((cellsFrom (s.heap.objs.size + 1) scope.names []).lookup y.1).isSome = true) := fun ⟨n, v⟩ hy => by
    rcases S.par n (List.of_mem_zip hy).1 with q | q
    · exact .inl q
    · exact .inr ⟨q, PySem.W.cellsFrom_some _ _ _ (.inl q)⟩
  refine codeAny_call_function hr.depth (KX _ _ lk) rfl S.co S.gen rfl (PySem.W.codeRec_of KX hcd) (hb _ _ _ _ ?_)
  refine wpAny_newFunctionEnv_cells S.kind hkind fun env he s1 x => ?_
  subst he
  refine ⟨lim.keeps x.toInCall.keep, codeAny_func ?_⟩
  obtain ⟨t, ht, hq⟩ := hbody (hr.deeper _)
  have I : L2.Inv (L2H.cxH CX P w K mg base N qual scope f cdv A outer s H E p) [] (L2.start N vs) H s1 := L2H.inv_startH S hpin e0 hl r x
  refine wpAny_mono (ht.run [] s1 (L2.start N vs) H _ I hq) (fun fl s' hs => ?_) fun e s' hs => hs
  have fin : ∀ {σ' : L2.St} {H' : Hp} {v : V} {u : Value}, L2.Inv (L2H.cxH CX P w K mg base N qual scope f cdv A outer s H E p) [] σ' H' s' → L2.RelV v u → Q v H' → CE outer P w H s Q u s' :=
    fun {σ' H' v u} J rv q => ⟨v, H', J.os, J.bare, J.base, J.hok, rv, q⟩
  cases fl with
  | ret u =>
    obtain ⟨v, σ', H', J, rv, q⟩ := hs
    exact fin J rv q
  | next =>
    obtain ⟨σ', H', J, q⟩ := hs
    exact fin (v := V.non) (u := Value.none) J rfl q
  | brk =>
    obtain ⟨_, _, _, q⟩ := hs
    exact False.elim q
  | cont =>
    obtain ⟨_, _, _, q⟩ := hs
    exact False.elim q
/-- x(e), x a def of one parameter, in an except suite; sp: what it makes of its argument, the handled exception known -/
theorem pe_hot1 {X : Cx} {sp : List V → Hp → VK → Prop} {x a1 : Str} {g : Addr} {k : Nat} {pg : Arguments} {bg : List Stmt} {sg : Scope} {kV doc pm cdv ct oc : Value} {an od : Option Addr} {osl : Array (Option Value)} {Ng : List Str} {e : Expr} {t : TA} {p0 pos : Pos} {p : Addr × Obj}
    (hg : Gl X x) (hm : X.mg x = some (.ref g)) (hk : PySem.W.keepIn X.K (.ref g) = true)
    (lk : X.K.lookup g = some ⟨oc, od, .func (PySem.W.fnOf x x pg bg sg .none kV doc pm an cdv ct), osl⟩) (hcg : PySem.W.codeIn X.K cdv x = true) (hb : L2.Binds X.K (PySem.W.fnOf x x pg bg sg .none kV doc pm an cdv ct) [a1] []) (Sg : FnScope Ng [a1] sg)
    (hr : L2H.RoomH (k + 1) X.A) (hp : p ∈ X.pn) (ha : PA X [e] t) (hlen : ∀ vs H Q, sp vs H Q → vs.length = 1)
    (hbody : ∀ (s : Shared) (H : Hp) (vs : List V) (Q : VK), sp vs H Q → L2H.RoomH k (X.A.deeper (envOfC x sg s.heap.objs.size g cdv)) → ∃ t, PSs (L2H.cxH CX0 X.prog X.w X.K X.mg X.base Ng x sg g cdv X.A X.stack s H E0 p) bg t ∧ t { nx := fun _ H' => Q .non H', rt := Q } (L2.start Ng vs) H)
    (hdb : (x == ("__debug__" : Str)) = false := by decide) (hst : starEach (e :: []) X.env = (false, eval e X.env) :: starEach [] X.env := by rfl) (hpl : (backTo pos (starEach [] X.env)).any (·.1) = false := by rfl) :
    PE X (.Call (.Name x p0) [e] [] pos) (fun σ H Q => t σ H fun vs H1 => sp vs H1 Q) := by
  refine ⟨fun pins s σ H Q I h => ?_⟩
  refine wpAny_Call_Name_kw (ld_glob I hg hm ?_ hdb)
  refine PySem.W.callWith_K (h₀ := X.base) I.ok.mod.kin hk (thn (ha.run pos pins s σ H _ I h) fun us s1 hh => ?_) hst hpl
  obtain ⟨vs, H1, I1, r1, q⟩ := hh
  refine ⟨I1.kIn, ?_⟩
  have P1 := I1.pin p (List.mem_append_left _ hp)
  have hpin : L2H.PinOk X.stack H1 s1 p := ⟨P1.1, P1.2.1, fun hm => (List.mem_cons.mp (I1.stkSub p.1 hm)).elim P1.2.2.1 P1.2.2.2.1, P1.2.2.2.2⟩
  have hl1 := hlen _ _ _ q
  have hlu : us.length = 1 := by rw [← r1.length]; exact hl1
  have b := hb s1 us I1.kIn (by rw [List.append_nil]; exact hlu)
  rw [List.append_nil] at b
  refine wpAny_call (codeAny_mono (run_hot (N := Ng) (ps := [a1]) (us := us) (vs := vs) (Q := Q) (E := E0) lk hcg Sg hr hpin I1.env0 b r1 hl1 (fun hr' => hbody s1 H1 vs Q q hr')) fun r s2 hq => ?_)
  cases r with
  | error e => exact (show False from hq).elim
  | ok fl =>
    cases fl with
    | ret u => exact I1.after hq
    | next => exact False.elim hq
    | brk => exact False.elim hq
    | cont => exact False.elim hq
/-- isinstance(e, c), e a pinned exception -/
theorem call_isP {X : Cx} {a D : Addr} {oe : Obj} (C : ExcC X.K D) (hz : Zc (.ref D) none oe) (hf : ∃ vs, oe.data = .fields vs) (hp : (a, oe) ∈ X.pn) : CallR X (.builtin "isinstance") (rIsE X.K D a) := by
  intro pins s σ H xs us Q I r h
  obtain ⟨c, cv, b, rfl, hcv, e, q⟩ := h
  cases r with
  | cons rx rr =>
    cases rr with
    | cons rt rr =>
      cases rr
      cases rx
      have ec := hcv _ rt
      subst ec
      obtain ⟨hget, _⟩ := I.pin (a, oe) (List.mem_append.mpr (.inl hp))
      obtain ⟨vs, hv⟩ := hf
      have J : PySem.W.InstAt s.heap a oe D none := by
        obtain ⟨oc, od, oda, osl⟩ := oe
        obtain ⟨h1, h2⟩ := hz
        dsimp only at h1 h2 hv
        subst h1 h2 hv
        exact ⟨hget, rfl, rfl, trivial⟩
      exact PySem.W.kia_one (PySem.W.handS_kitx_exc C.hg C.hk C.hs C.hd C.ha C.hn C.ht C.hm) I.kIn J e (fun z => nomatch z) fun tk => ⟨.bl b, H, I.kept (t' := tk) fun _ _ z => z, rfl, q⟩
/-! ### lambdas, the exceptions' contexts known -/
def lamCxN (X : Cx) (A : Around) (outer : List Env) (s : Shared) (H : Hp) (E : XK) (scope : Scope) (f c' : Addr) : Cx :=
  (lamCx X A outer s H E scope f c').wish (fun e s' => wpAny (model X.prog X.w) (A.deeper (lamEnv X scope s.heap.objs.size f c')) (leaving (lamEnv X scope s.heap.objs.size f c') e) (fun _ s'' => L2N.CX X.prog X.w outer H s E e s'') (fun e' s'' => L2N.CX X.prog X.w outer H s E e' s'') s')
theorem pe_actN {X : Cx} {pins : List (Addr × Obj)} {σ : L2.St} {H : Hp} {s : Shared} {CXg : CXT} {Eg : XK} {Ng : List Str} {qg : Str} {sg : Scope} {g f c' : Addr} {cdg pm ctv : Value} {params : Arguments} {body : Expr} {scope : Scope} {k i : Nat} {a : Str} {pn : List (Addr × Obj)} {xe : Value → Shared → Prop} {W : WX} {E : XK} {tb : TE} {p1 p2 : Pos}
    (I : L2.Inv X pins σ H s) (L : LamS X.env.scope scope) (hf : s.heap.get? f = some (PySem.W.kla_obj "<lambda>" (X.env.qual ++ "<lambda>") params body scope (cloFrom X.env.cells scope.names []) pm c' ctv)) (hfn : H f = none) (hfr : f ∉ frs X.stack)
    (hbind : bindArgs (PySem.W.kla_fn "<lambda>" (X.env.qual ++ "<lambda>") params body scope (cloFrom X.env.cells scope.names []) pm (.ref c') ctv) ⟨[], []⟩ = pure [])
    (tk : L2N.Takes ((cxOf CXg X.prog X.w X.K X.mg X.base Ng qg sg g cdg X.A X.stack s H Eg).tr pn xe) W) (hW : ∀ cls d σ' H', E cls d H' → W cls d σ' H') (hr : Room (k + 1) (X.A.deeper (envOfC qg sg s.heap.objs.size g cdg)))
    (hbody : ∀ (A : Around) (outer : List Env) (s : Shared) (H : Hp), Room k (A.deeper (lamEnv X scope s.heap.objs.size f c')) → PE (lamCxN X A outer s H E scope f c') body tb)
    (hN : Ng[i]? = some a) (hv : Vis sg a) (hd : (a == ("__debug__" : Str)) = false := by decide) (hcd : (a == ("__classdict__" : Str)) = false := by decide) :
    PE ((cxOf CXg X.prog X.w X.K X.mg X.base Ng qg sg g cdg X.A X.stack s H Eg).tr pn xe) (.Call (.Name a p1) [] [] p2)
      (fun σZ HZ Q => σZ[i]? = some (some (.ref f)) ∧ HZ c' = some (CodeO c' (X.env.qual ++ "<lambda>")) ∧ tb σ HZ Q) := by
  refine ⟨fun pinsZ sZ σZ HZ Q IZ h => ?_⟩
  obtain ⟨hs, hc, ht⟩ := h
  refine wpAny_Call_Name_kw (thn ((pe_var (pos := p1) (i := i) hN hv hd hcd).run pinsZ sZ σZ HZ (fun v H1 => v = .ref f ∧ H1 = HZ) IZ ⟨.ref f, hs, rfl, rfl⟩) fun u s1 ⟨v, H1, I1, r1, q1⟩ => ?_)
  obtain ⟨ev, eH⟩ := q1
  subst ev
  rw [eH] at I1
  obtain rfl : u = Value.ref f := r1
  have of1 : s1.heap.get? f = some (PySem.W.kla_obj "<lambda>" (X.env.qual ++ "<lambda>") params body scope (cloFrom X.env.cells scope.names []) pm c' ctv) := I1.base.keep f _ hf hfn hfr (fun z => nomatch (show f ∈ ([] : List Addr) from z))
  refine PySem.W.callWith_F0 ⟨_, _, _, _, of1⟩ ?_
  have un : Un (frs X.stack) [] H HZ s.heap s1.heap := I1.base
  obtain ⟨⟨oc, vs, t, hoc, hdc, hvc⟩, _, _⟩ := I1.hok c' _ hc
  have rc : codeAny (model X.prog X.w) (X.A.deeper (envOfC qg sg s.heap.objs.size g cdg)) (.call (.ref f) ⟨[], []⟩) (CR (L2N.CX X.prog X.w) (envOfC qg sg s.heap.objs.size g cdg :: X.stack) X.prog X.w HZ s1 Q E) s1 := by
    refine PySem.W.kla_callFunE hr.depth of1 rfl L.co L.gen rfl ⟨c', oc, vs, t, rfl, hoc, hdc, hvc⟩ ?_
    rw [hbind]
    refine wpAny_pure (wpAny_newFunctionEnv (fun y hy => (L.own y hy).2) (fun y hy => absurd hy (by simp)) (fun h₁ hns hsb => ⟨I1.nolimit.fresh _ hsb, ?_⟩) L.kind)
    show codeAny _ _ (.expr body (lamEnv X scope s1.heap.objs.size f c')) _ _
    have kp : ∀ b o, s1.heap.get? b = some o → h₁.get? b = some o := fun b o e => hsb.extBut b o (Nat.ne_of_lt (Heap.lt_size e)) (Heap.get?_push_of_some _ e)
    have J0 : L2.Inv (lamCx X (X.A.deeper (envOfC qg sg s.heap.objs.size g cdg)) (envOfC qg sg s.heap.objs.size g cdg :: X.stack) s1 HZ E scope f c') [] σ HZ { s1 with heap := h₁, toks := s1.toks + ([] : List (Str × Value)).length } :=
      lam_start2 I L I1.env0 hr.hd un hns kp
    have J : L2.Inv (lamCxN X (X.A.deeper (envOfC qg sg s.heap.objs.size g cdg)) (envOfC qg sg s.heap.objs.size g cdg :: X.stack) s1 HZ E scope f c') [] σ HZ { s1 with heap := h₁, toks := s1.toks + ([] : List (Str × Value)).length } := J0.wish _
    refine PySem.W.kla_codeExpr (wpAny_mono ((hbody _ _ s1 HZ (hr.deeper _)).run [] _ _ HZ Q J ht) (fun v s' hq => ?_) fun e s' hq => hq)
    obtain ⟨w', H', J', rv, q⟩ := hq
    exact ⟨w', H', J'.os, J'.bare, J'.base, J'.hok, rv, q⟩
  have hx : Passes (L2N.CX X.prog X.w) ((cxOf CXg X.prog X.w X.K X.mg X.base Ng qg sg g cdg X.A X.stack s H Eg).tr pn xe) E := L2N.passes_call tk hW
  refine wpAny_call (codeAny_mono rc fun r s' hq => ?_)
  cases r with
  | error e => exact hx pinsZ σZ HZ s1 e s' I1 hq
  | ok fl =>
    cases fl with
    | ret u => exact I1.after hq
    | next => exact False.elim hq
    | brk => exact False.elim hq
    | cont => exact False.elim hq
/-- the def that calls what it got: a calls it; TT: what it makes of the lambda's reading -/
def GivesN (X : Cx) (k : Nat) (Ng : List Str) (x : Str) (sg : Scope) (g : Addr) (cdg : Value) (bg : List Stmt) (a : Str) (q : Str) (TT : (XK → Hp → VK → Prop) → Hp → VK → Prop) : Prop :=
  ∀ (f c' : Addr) (s : Shared) (H : Hp) (Q : VK) (tl : XK → Hp → VK → Prop), Room (k + 1) (X.A.deeper (envOfC x sg s.heap.objs.size g cdg)) →
    (∀ (W : WX) (pn : List (Addr × Obj)) (xe : Value → Shared → Prop) (E : XK) (p1 p2 : Pos), L2N.Takes ((cxOf CX0 X.prog X.w X.K X.mg X.base Ng x sg g cdg X.A X.stack s H E0).tr pn xe) W → (∀ cls d σ' H', E cls d H' → W cls d σ' H') →
      PE ((cxOf CX0 X.prog X.w X.K X.mg X.base Ng x sg g cdg X.A X.stack s H E0).tr pn xe) (.Call (.Name a p1) [] [] p2) (fun σZ HZ Q => σZ[0]? = some (some (.ref f)) ∧ HZ c' = some (CodeO c' q) ∧ tl E HZ Q)) →
    H c' = some (CodeO c' q) → TT tl H Q →
    ∃ t, PSs (cxOf CX0 X.prog X.w X.K X.mg X.base Ng x sg g cdg X.A X.stack s H E0).nox bg t ∧ t { nx := fun _ H' => Q .non H', rt := Q } (L2.start Ng [.ref f]) H
/-- x(lambda: body) -/
theorem pe_lamN {X : Cx} {T : List (Addr × Str)} {TT : (XK → Hp → VK → Prop) → Hp → VK → Prop} {x a : Str} {g c P : Addr} {k : Nat} {pg : Arguments} {bg : List Stmt} {sg : Scope} {kV doc pm cdv ct oc : Value} {an od : Option Addr} {osl : Array (Option Value)} {Ng : List Str}
    {params : Arguments} {body : Expr} {scope : Scope} {t : XK → TE} {p lpos pos : Pos} (hg : Gl X x) (hm : X.mg x = some (.ref g)) (hk : PySem.W.keepIn X.K (.ref g) = true)
    (lk : X.K.lookup g = some ⟨oc, od, .func (PySem.W.fnOf x x pg bg sg .none kV doc pm an cdv ct), osl⟩) (hcg : PySem.W.codeIn X.K cdv x = true) (hb : L2.Binds X.K (PySem.W.fnOf x x pg bg sg .none kV doc pm an cdv ct) [a] []) (Sg : FnScope Ng [a] sg) (hNg : Ng[0]? = some a) (hva : Vis sg a)
    (hG : GivesN X k Ng x sg g cdv bg a (X.env.qual ++ "<lambda>") TT)
    (TB : TabB X.base X.mg c P) (hcode : X.env.code = .ref c) (hmT : (P, X.env.qual ++ "<lambda>") ∈ T) (hu : ∀ p ∈ T, p.1 = P → p.2 = X.env.qual ++ "<lambda>") (hr : Room (k + 2) X.A) (L : LamS X.env.scope scope) (hdef : defaultsOf params X.env = ([], []))
    (hbind : ∀ (q : Str) (cl : List (Str × Addr)) (pm cv ctv : Value), bindArgs (PySem.W.kla_fn "<lambda>" q params body scope cl pm cv ctv) ⟨[], []⟩ = pure [])
    (hbody : ∀ (A : Around) (outer : List Env) (s : Shared) (H : Hp) (E : XK) (f c' : Addr), Room k (A.deeper (lamEnv X scope s.heap.objs.size f c')) → PE (lamCxN X A outer s H E scope f c') body (t E))
    (hdb : (x == ("__debug__" : Str)) = false := by decide) (hd : (a == ("__debug__" : Str)) = false := by decide) (hcd : (a == ("__classdict__" : Str)) = false := by decide) :
    PE X (.Call (.Name x p) [.Lambda params body scope lpos] [] pos) (tLam T TT t) := by
  refine ⟨fun pins s σ H Q I h => ?_⟩
  obtain ⟨hT, h⟩ := h
  refine wpAny_Call_Name_kw (ld_glob I hg hm ?_ hdb)
  refine PySem.W.callWith_K (h₀ := X.base) I.ok.mod.kin hk ?_ (by rfl) (by rfl)
  show wpAny _ _ (spliced ((false, eval (.Lambda params body scope lpos) X.env) :: backTo pos (starEach [] X.env))) _ _ s
  refine Calls.spliced_cons (lam_make2 I TB hcode hmT hu hT hdef (L.has I.ok) fun f c' pm' ctv H1 s' I1 eN T1 hf hfn hfr hco => ?_)
  refine Calls.spliced_nil ⟨I1.kIn, ?_⟩
  have rc : codeAny (model X.prog X.w) X.A (.call (.ref g) ⟨[.ref f], []⟩) (CR CX0 X.stack X.prog X.w H1 s' Q E0) s' := by
    refine run_ofS (N := Ng) (ps := [a]) (us := [.ref f]) (vs := [.ref f]) lk hcg Sg hr I1.env0 (hb s' [.ref f] I1.kIn rfl) (.cons rfl .nil) rfl fun hr' => ?_
    obtain ⟨t', ht', hq'⟩ := hG f c' s' H1 Q (fun E H' Q' => t E σ H' Q') hr' (fun W pn xe E p1 p2 tk hW => pe_actN (i := 0) I1 L hf hfn hfr (hbind _ _ _ _ _) tk hW hr' (fun A outer s H hr2 => hbody A outer s H E f c' hr2) hNg hva hd hcd) hco (h H1 eN T1)
    exact ⟨t', ht'.nox, hq'⟩
  refine wpAny_call (codeAny_mono rc fun r s2 hq => ?_)
  cases r with
  | error e => exact (show False from hq).elim
  | ok fl =>
    cases fl with
    | ret u => exact I1.after hq
    | next => exact False.elim hq
    | brk => exact False.elim hq
    | cont => exact False.elim hq
/-- as Fun.okX, the contexts known -/
theorem okN {P : Program} {w : World} {K : PySem.W.Frag} {mg : Str → Option Value} {base : Heap} {x qual : Str} {st : Stmt} {f : Addr} {fd : FuncData} {N ps : List Str} {k : Nat} {sp : Sp} (F : Fun K x qual st f fd) (S : FnScope N ps (defScope st)) (len : ∀ vs H Q E, sp vs H Q E → vs.length = ps.length)
    (hbody : ∀ (cdv : Value) (A : Around) (outer : List Env) (s : Shared) (H : Hp) (vs : List V) (Q : VK) (E : XK), Room k (A.deeper (envOfC qual (defScope st) s.heap.objs.size f cdv)) → sp vs H Q E →
      ∃ t, PSs (cxOf (L2N.CX P w) P w K mg base N qual (defScope st) f cdv A outer s H E) (defBody st) t ∧ t { nx := fun _ H' => Q .non H', rt := Q } (L2.start N vs) H) : FnOk P w K mg base (L2N.CX P w) (k + 1) f fd ps sp := by
  obtain ⟨oc, od, kV, doc, pm, an, cdv, ct, osl, rfl, lk, hcd⟩ := F.ex
  exact fn_of lk hcd S len fun A outer s H vs Q E hr hsp => hbody cdv A outer s H vs Q E hr hsp
end Ws

set_option Elab.async false
set_option linter.all false
set_option maxRecDepth 100000
set_option maxHeartbeats 4000000
namespace Ws
open PySem PySem.Spec PyProof.Rows L2 HotX LamX
/-! ### defs, methods, classes by what they promise; what they raise has no context -/
structure Fn (P : Program) (w : World) (K : PySem.W.Frag) (mg : Str → Option Value) (base : Heap) (k : Nat) (x : Str) (sp : Sp) : Prop where
  ex : ∃ (f : Addr) (fd : FuncData) (ps : List Str), FnOk P w K mg base (L2N.CX P w) k f fd ps sp ∧ mg x = some (.ref f) ∧ PySem.W.keepIn K (.ref f) = true ∧ L2.Binds K fd ps []
structure Mt (P : Program) (w : World) (K : PySem.W.Frag) (mg : Str → Option Value) (base : Heap) (k : Nat) (C : Addr) (m : Str) (sp : Sp) : Prop where
  ex : ∃ (f : Addr) (fd : FuncData) (ps : List Str), FnOk P w K mg base (L2N.CX P w) k f fd ps sp ∧ Meth K C m f ∧ L2.Binds K fd ps [] ∧ Cls K C
structure Mr (P : Program) (w : World) (K : PySem.W.Frag) (mg : Str → Option Value) (base : Heap) (k : Nat) (x : Str) (C : Addr) (sp : Sp) : Prop where
  ex : ∃ (f : Addr) (fd : FuncData) (ps : List Str), FnOk P w K mg base (L2N.CX P w) k f fd ps sp ∧ Mk K C f ∧ mg x = some (.ref C) ∧ L2.Binds K fd ps []
structure DefAt (K : PySem.W.Frag) (mg : Str → Option Value) (x : Str) (st : Stmt) : Prop where
  ex : ∃ (f : Addr) (fd : FuncData), Fun K x x st f fd ∧ mg x = some (.ref f)
structure MethAt (K : PySem.W.Frag) (C : Addr) (m qual : Str) (st : Stmt) : Prop where
  ex : ∃ (f : Addr) (fd : FuncData), Fun K m qual st f fd ∧ PySem.W.findIn K (.ref C) m = some (some (.ref f)) ∧ PySem.W.isFn K (.ref f) = true
section
variable {P : Program} {w : World} {K : PySem.W.Frag} {mg : Str → Option Value} {base : Heap}
theorem fn_mk {x : Str} {st : Stmt} {ps : List Str} {k : Nat} {sp : Sp} (D : DefAt K mg x st)
    (hb : ∀ (kV doc pm : Value) (an : Option Addr) (cdv ct : Value) (us : List Value), us.length = ps.length → bindArgs (PySem.W.fnOf x x (defArgs st) (defBody st) (defScope st) .none kV doc pm an cdv ct) ⟨us, []⟩ = pure (ps.zip us))
    (ok : ∀ f fd, Fun K x x st f fd → FnOk P w K mg base (L2N.CX P w) k f fd ps sp) : Fn P w K mg base k x sp := by
  obtain ⟨f, fd, F, hm⟩ := D.ex
  exact ⟨f, fd, ps, ok f fd F, hm, F.kp, F.binds hb⟩
theorem mt_mk {C : Addr} {m qual : Str} {st : Stmt} {ps : List Str} {k : Nat} {sp : Sp} (D : MethAt K C m qual st) (cl : Cls K C)
    (hb : ∀ (kV doc pm : Value) (an : Option Addr) (cdv ct : Value) (us : List Value), us.length = ps.length → bindArgs (PySem.W.fnOf m qual (defArgs st) (defBody st) (defScope st) .none kV doc pm an cdv ct) ⟨us, []⟩ = pure (ps.zip us))
    (ok : ∀ f fd, Fun K m qual st f fd → FnOk P w K mg base (L2N.CX P w) k f fd ps sp) : Mt P w K mg base k C m sp := by
  obtain ⟨f, fd, F, h1, h2⟩ := D.ex
  exact ⟨f, fd, ps, ok f fd F, ⟨h1, h2, F.kp⟩, F.binds hb, cl⟩
theorem mr_mk {C : Addr} {x qual : Str} {st : Stmt} {ps : List Str} {k : Nat} {sp : Sp} (D : MethAt K C "__init__" qual st) (hm : mg x = some (.ref C)) (mk : PySem.W.makesIn K C = true) (kc : PySem.W.keepIn K (.ref C) = true)
    (hb : ∀ (kV doc pm : Value) (an : Option Addr) (cdv ct : Value) (us : List Value), us.length = ps.length → bindArgs (PySem.W.fnOf "__init__" qual (defArgs st) (defBody st) (defScope st) .none kV doc pm an cdv ct) ⟨us, []⟩ = pure (ps.zip us))
    (ok : ∀ f fd, Fun K "__init__" qual st f fd → FnOk P w K mg base (L2N.CX P w) k f fd ps sp) : Mr P w K mg base k x C sp := by
  obtain ⟨f, fd, F, h1, h2⟩ := D.ex
  exact ⟨f, fd, ps, ok f fd F, ⟨mk, h1, h2, kc⟩, hm, F.binds hb⟩
end
theorem pass0N {X : Cx} : Passes (L2N.CX X.prog X.w) X E0 := fun _ _ _ _ _ _ _ h => by
  obtain ⟨_, _, _, _, _, _, _, _, _, _, _, _, z⟩ := h
  exact z.elim
section
variable {X : Cx} {k j : Nat} {C : Addr} {sp : Sp} {E : XK} {x m : Str} {p pos apos : Pos} {e o : Expr} {es : List Expr} {ta : TE} {t : TA}
theorem pe_fn (F : Fn X.prog X.w X.K X.mg X.base k x sp) (hr : Room j X.A) (hg : Gl X x) (hx : Passes (L2N.CX X.prog X.w) X E) (ha : PA X (e :: es) t) (hk : k ≤ j := by decide) (hdb : (x == ("__debug__" : Str)) = false := by decide)
    (he : starEach (e :: es) X.env = (false, eval e X.env) :: starEach es X.env := by rfl) (hpl : (backTo pos (starEach es X.env)).any (·.1) = false := by rfl) : PE X (.Call (.Name x p) (e :: es) [] pos) (tCall sp [] E t) := by
  obtain ⟨f, fd, ps, F1, hm, hkp, hb⟩ := F.ex
  exact pe_call F1 (hr.mono hk) hg hm hkp hb .nil hx ha hdb he hpl
theorem pe_fn0 (F : Fn X.prog X.w X.K X.mg X.base k x sp) (hr : Room j X.A) (hg : Gl X x) (hx : Passes (L2N.CX X.prog X.w) X E) (hk : k ≤ j := by decide) (hdb : (x == ("__debug__" : Str)) = false := by decide) :
    PE X (.Call (.Name x p) [] [] pos) (tCall sp [] E tNil) := by
  obtain ⟨f, fd, ps, F1, hm, hkp, hb⟩ := F.ex
  exact pe_call0 F1 (hr.mono hk) hg hm hkp hb .nil hx hdb
theorem pe_md {pl : Sem Bool} (F : Mt X.prog X.w X.K X.mg X.base k C m sp) (hr : Room j X.A) (hx : Passes (L2N.CX X.prog X.w) X E) (he : PE X o ta) (ha : PA X (e :: es) t) (hk : k ≤ j := by decide)
    (hst : starEach (e :: es) X.env = (false, eval e X.env) :: starEach es X.env := by rfl) (hpl : (backTo pos (starEach es X.env)).any (·.1) = false := by rfl)
    (ht : eval (.Call (.Attribute o m apos) (e :: es) [] pos) X.env = (do
      let ov ← eval o X.env
      standAt apos.atName
      let (f, first) ← holding [ov] (getMethod ov m pl)
      callWith pos f first (backTo pos (starEach (e :: es) X.env)) (backToKw pos (keywordEach [] X.env))) := by rfl) :
    PE X (.Call (.Attribute o m apos) (e :: es) [] pos) (tMeth C m sp [] E ta t) := by
  obtain ⟨f, fd, ps, F1, hm, hb, cl⟩ := F.ex
  exact pe_meth he cl hm F1 (hr.mono hk) hb .nil hx ha hst hpl ht
theorem pe_md0 {pl : Sem Bool} (F : Mt X.prog X.w X.K X.mg X.base k C m sp) (hr : Room j X.A) (hx : Passes (L2N.CX X.prog X.w) X E) (he : PE X o ta) (hk : k ≤ j := by decide)
    (ht : eval (.Call (.Attribute o m apos) [] [] pos) X.env = (do
      let ov ← eval o X.env
      standAt apos.atName
      let (f, first) ← holding [ov] (getMethod ov m pl)
      callWith pos f first (backTo pos (starEach [] X.env)) (backToKw pos (keywordEach [] X.env))) := by rfl) :
    PE X (.Call (.Attribute o m apos) [] [] pos) (tMeth C m sp [] E ta tNil) := by
  obtain ⟨f, fd, ps, F1, hm, hb, cl⟩ := F.ex
  exact pe_meth0 he cl hm F1 (hr.mono hk) hb .nil hx ht
theorem pe_mr (F : Mr X.prog X.w X.K X.mg X.base k x C sp) (hr : Room j X.A) (hg : Gl X x) (hx : Passes (L2N.CX X.prog X.w) X E) (ha : PA X (e :: es) t) (hk : k + 1 ≤ j := by decide) (hdb : (x == ("__debug__" : Str)) = false := by decide)
    (he : starEach (e :: es) X.env = (false, eval e X.env) :: starEach es X.env := by rfl) (hpl : (backTo pos (starEach es X.env)).any (·.1) = false := by rfl) : PE X (.Call (.Name x p) (e :: es) [] pos) (tMake C sp [] E t) := by
  obtain ⟨f, fd, ps, F1, hm, hmg, hb⟩ := F.ex
  exact pe_make hm F1 (hr.mono hk) hg hmg hb .nil hx ha hdb he hpl
theorem pe_mr0 (F : Mr X.prog X.w X.K X.mg X.base k x C sp) (hr : Room j X.A) (hg : Gl X x) (hx : Passes (L2N.CX X.prog X.w) X E) (hk : k + 1 ≤ j := by decide) (hdb : (x == ("__debug__" : Str)) = false := by decide) :
    PE X (.Call (.Name x p) [] [] pos) (tMake C sp [] E tNil) := by
  obtain ⟨f, fd, ps, F1, hm, hmg, hb⟩ := F.ex
  exact pe_make0 hm F1 (hr.mono hk) hg hmg hb .nil hx hdb
end
/-! ### readings, a step at a time -/
def rFld (K : PySem.W.Frag) (f : Str) : V → Hp → VK → Prop := fun x H Q => ∃ a C dx fs v, x = .ref a ∧ H a = some (.ins C dx fs) ∧ Cls K C ∧ NoAttr K C f ∧ fs.lookup f = some v ∧ Q v H
def rSetF (K : PySem.W.Frag) (f : Str) : V → V → Hp → (Hp → Prop) → Prop := fun x y H R => ∃ a C dx fs, x = .ref a ∧ H a = some (.ins C dx fs) ∧ Cls K C ∧ NoAttr K C f ∧ fs.length < 1000 ∧ R (upd H a (.ins C dx (putF f y fs)))
def rMth (C : Addr) (m : Str) (x : V) (H : Hp) (R : Prop) : Prop := ∃ a dx fs, x = .ref a ∧ H a = some (.ins C dx fs) ∧ fs.lookup m = none ∧ R
section
variable {σ : L2.St} {H : Hp} {Q : VK} {D : Ends} {te ta tb tc : TE} {r r' : R2}
theorem x_var {i : Nat} {v : V} (h : σ[i]? = some (some v)) (k : Q v H) : tVar i σ H Q := ⟨v, h, k⟩
theorem x_c {v : V} (k : Q v H) : tC v σ H Q := k
theorem x_op (k : ta σ H fun x H1 => tb σ H1 fun y H2 => r x y H2 Q) : tOp r ta tb σ H Q := k
theorem x_un {u : V → Hp → VK → Prop} (k : ta σ H fun x H1 => u x H1 Q) : tUn u ta σ H Q := k
theorem x_rU {g : Int → V} {i : Int} (k : Q (g i) H) : rU g (.int i) H Q := ⟨i, rfl, k⟩
theorem x_rI0 {g : Int → Int → V} {i j : Int} (k : Q (g i j) H) : rI0 g (.int i) (.int j) H Q := ⟨i, j, rfl, rfl, k⟩
theorem x_rI {C : Int → Int → Prop} {g : Int → Int → V} {i j : Int} (c : C i j) (k : Q (g i j) H) : rI C g (.int i) (.int j) H Q := ⟨i, j, rfl, rfl, c, k⟩
theorem x_rEq {x y : V} (c : scal x y = true) (k : Q (.bl (decide (x = y))) H) : rEq x y H Q := ⟨c, k⟩
theorem x_rNe {x y : V} (c : scal x y = true) (k : Q (.bl (!decide (x = y))) H) : rNe x y H Q := ⟨c, k⟩
theorem x_chain (k : ta σ H fun x H1 => tb σ H1 fun y H2 => r x y H2 fun z H3 => ∃ k, z = .bl k ∧ (if k = true then tc σ H3 fun w' H4 => r' y w' H4 Q else Q (.bl false) H3)) : tChain r r' ta tb tc σ H Q := k
theorem x_ex {F : Bool → Prop} {b : Bool} (k : F b) : ∃ c, V.bl b = V.bl c ∧ F c := ⟨b, rfl, k⟩
theorem x_test {R : Bool → Hp → Prop} (k : te σ H fun x H' => ∃ k, x = .bl k ∧ R k H') : tTest te σ H R := k
theorem x_tB {R : Bool → Hp → Prop} (k : te σ H fun x H' => ∃ k, x = .bl k ∧ R k H') : tB te σ H R := k
theorem x_tAnd {t u : TT} {R : Bool → Hp → Prop} (k : t σ H fun c H1 => if c = true then u σ H1 R else R false H1) : tAnd t u σ H R := k
theorem x_tOr {t u : TT} {R : Bool → Hp → Prop} (k : t σ H fun c H1 => if c = true then R true H1 else u σ H1 R) : tOr t u σ H R := k
theorem x_tNot {t : TT} {R : Bool → Hp → Prop} (k : t σ H fun c H1 => R (!c) H1) : tNot t σ H R := k
theorem x_andV (k : ta σ H fun x H1 => ∃ c, x = .bl c ∧ if c = true then tb σ H1 Q else Q (.bl false) H1) : tAndV ta tb σ H Q := k
theorem x_orV (k : ta σ H fun x H1 => ∃ c, x = .bl c ∧ if c = true then Q (.bl true) H1 else tb σ H1 Q) : tOrV ta tb σ H Q := k
theorem x_notV (k : ta σ H fun x H1 => ∃ c, x = .bl c ∧ Q (.bl (!c)) H1) : tNotV ta σ H Q := k
theorem x_tIf {t : TT} (k : t σ H fun c H1 => if c = true then ta σ H1 Q else tb σ H1 Q) : tIf t ta tb σ H Q := k
theorem x_T {A B : Prop} (k : A) : if true = true then A else B := by rw [if_pos rfl]; exact k
theorem x_F {A B : Prop} (k : B) : if false = true then A else B := by rw [if_neg Bool.false_ne_true]; exact k
theorem x_2 {A B c : Prop} [Decidable c] (h1 : c → A) (h2 : ¬ c → B) : if decide c = true then A else B := by
  by_cases h : c
  · rw [decide_eq_true h, if_pos rfl]; exact h1 h
  · rw [decide_eq_false h, if_neg Bool.false_ne_true]; exact h2 h
theorem x_2n {A B c : Prop} [Decidable c] (h1 : ¬ c → A) (h2 : c → B) : if (!decide c) = true then A else B := by
  by_cases h : c
  · rw [decide_eq_true h]; exact x_F (h2 h)
  · rw [decide_eq_false h]; exact x_T (h1 h)
theorem x_b {A B : Prop} {b : Bool} (h1 : b = true → A) (h2 : b = false → B) : if b = true then A else B := by
  cases b with
  | true => exact x_T (h1 rfl)
  | false => exact x_F (h2 rfl)
theorem x_seq {t u : TS} (k : t { D with nx := u D } σ H) : tSeq t u D σ H := k
theorem x_next (k : D.nx σ H) : tNext D σ H := k
theorem x_asg {g : TG} (k : te σ H fun x H1 => g x σ H1 D.nx) : tAsg te g D σ H := k
theorem x_name {i : Nat} {v : V} {R : L2.St → Hp → Prop} (k : R (σ.set i (some v)) H) : gName i v σ H R := k
theorem x_ret (k : te σ H D.rt) : tRet te D σ H := k
theorem x_retN (k : D.rt .non H) : tRetN D σ H := k
theorem x_ifS {c : TT} {t u : TS} (k : c σ H fun b H1 => if b = true then t D σ H1 else u D σ H1) : tIfS c t u D σ H := k
theorem x_drop (k : te σ H fun _ H1 => D.nx σ H1) : tDrop te D σ H := k
theorem x_nil {R : List V → Hp → Prop} (k : R [] H) : tNil σ H R := k
theorem x_cons {tr : TA} {R : List V → Hp → Prop} (k : ta σ H fun x H1 => tr σ H1 fun xs H2 => R (x :: xs) H2) : tCons ta tr σ H R := k
theorem x_tup {t : TA} (k : t σ H fun xs H1 => xs.length ≤ sizeLine ∧ ∀ p, H1 p = none → Q (.ref p) (upd H1 p (.tup xs))) : tTup t σ H Q := k
theorem x_lst {t : TA} (k : t σ H fun xs H1 => xs.length ≤ sizeLine ∧ ∀ p, H1 p = none → Q (.ref p) (upd H1 p (.lst xs))) : tLst t σ H Q := k
theorem x_call {sp : Sp} {E : XK} {t : TA} (k : t σ H fun vs H1 => sp (vs ++ []) H1 Q E) : tCall sp [] E t σ H Q := k
theorem x_cb {rr : List V → Hp → VK → Prop} {t : TA} (k : t σ H fun vs H1 => rr vs H1 Q) : tCB rr t σ H Q := k
theorem x_meth {C : Addr} {m : Str} {sp : Sp} {E : XK} {t : TA} (k : ta σ H fun x H1 => rMth C m x H1 (t σ H1 fun vs H2 => sp (x :: (vs ++ [])) H2 Q E)) : tMeth C m sp [] E ta t σ H Q := k
theorem x_make {C : Addr} {sp : Sp} {E : XK} {t : TA} (k : t σ H fun vs H1 => ∀ x dx, H1 x = none → H1 dx = none → dx ≠ x → sp (.ref x :: (vs ++ [])) (upd (upd H1 dx (.own x)) x (.ins C dx [])) (fun v H2 => v = .non ∧ Q (.ref x) H2) E) : tMake C sp [] E t σ H Q := k
theorem x_fld {K : PySem.W.Frag} {f : Str} (k : ta σ H fun x H1 => rFld K f x H1 Q) : tFld K ta f σ H Q := k
theorem x_rfld {K : PySem.W.Frag} {f : Str} {a C dx : Addr} {fs : List (Str × V)} {v : V} (h : H a = some (.ins C dx fs)) (c : Cls K C) (n : NoAttr K C f) (l : fs.lookup f = some v) (k : Q v H) : rFld K f (.ref a) H Q := ⟨a, C, dx, fs, v, rfl, h, c, n, l, k⟩
theorem x_sfld {K : PySem.W.Frag} {f : Str} {tv : TE} (k : tv σ H fun y H1 => ta σ H1 fun x H2 => rSetF K f x y H2 (D.nx σ)) : sFld K ta tv f D σ H := k
theorem x_rsfld {K : PySem.W.Frag} {f : Str} {a C dx : Addr} {fs : List (Str × V)} {R : Hp → Prop} {y : V} (h : H a = some (.ins C dx fs)) (c : Cls K C) (n : NoAttr K C f) (l : fs.length < 1000) (k : R (upd H a (.ins C dx (putF f y fs)))) : rSetF K f (.ref a) y H R := ⟨a, C, dx, fs, rfl, h, c, n, l, k⟩
theorem x_rmeth {C a dx : Addr} {fs : List (Str × V)} {m : Str} {R : Prop} (h : H a = some (.ins C dx fs)) (l : fs.lookup m = none) (k : R) : rMth C m (.ref a) H R := ⟨a, dx, fs, rfl, h, l, k⟩
theorem x_bm {K : PySem.W.Frag} {T : String} {rr : V → List V → Hp → VK → Prop} {to : TE} {t : TA} (k : to σ H fun x H1 => tyV K T x H1 ∧ t σ H1 fun xs H2 => rr x xs H2 Q) : tBM K T rr to t σ H Q := k
theorem x_bm0 {K : PySem.W.Frag} {T : String} {rr : V → List V → Hp → VK → Prop} {to : TE} (k : to σ H fun x H1 => tyV K T x H1 ∧ rr x [] H1 Q) : tBM0 K T rr to σ H Q := k
theorem x_sl {rr : V → Option Int → Option Int → Hp → VK → Prop} {tl th : TO} (k : te σ H fun x H1 => tl σ H1 fun l H2 => th σ H2 fun u H3 => rr x l u H3 Q) : tSl rr te tl th σ H Q := k
theorem x_part {R : Option Int → Hp → Prop} (k : te σ H fun x H1 => ∃ i, x = .int i ∧ R (some i) H1) : tPart te σ H R := k
theorem x_iex {F : Int → Prop} {b : Int} (k : F b) : ∃ c, V.int b = V.int c ∧ F c := ⟨b, rfl, k⟩
theorem x_nopart {R : Option Int → Hp → Prop} (k : R none H) : tNoPart σ H R := k
/-! ### heaps -/
theorem upd_old {p q : Addr} {o o' : HO} (hq : H q = none) (hp : H p = some o') : upd H q o p = some o' := by rw [upd_ne (ne_of_none hp hq)]; exact hp
theorem same_upd {q : Addr} {o : HO} (hq : H q = none) : Same H (upd H q o) := fun b u e => upd_old hq e
theorem sql_old {K : PySem.W.Frag} {H' : Hp} {a : Addr} {xs : List V} (e : ExtN H H') (h : SqL K H a xs) : SqL K H' a xs := by
  rcases h with (h | ⟨o, h⟩) | h
  · exact .inl (.inl (e _ _ h (fun _ z => nomatch z)))
  · exact .inl (.inr ⟨o, e _ _ h (fun _ z => nomatch z)⟩)
  · exact .inr h
end
end Ws

set_option Elab.async false
set_option linter.all false
set_option maxRecDepth 100000
set_option maxHeartbeats 4000000
namespace Ws
open PySem PySem.Spec PyProof.Rows L2 HotX LamX
theorem bb_len : bootBuiltins "len" = some (.builtin "len") := by decide +kernel
theorem bb_max : bootBuiltins "max" = some (.builtin "max") := by decide +kernel
theorem bb_min : bootBuiltins "min" = some (.builtin "min") := by decide +kernel
theorem bb_sum : bootBuiltins "sum" = some (.builtin "sum") := by decide +kernel
theorem bb_all : bootBuiltins "all" = some (.builtin "all") := by decide +kernel
theorem bb_any : bootBuiltins "any" = some (.builtin "any") := by decide +kernel
theorem bb_ord : bootBuiltins "ord" = some (.builtin "ord") := by decide +kernel
theorem bb_sorted : bootBuiltins "sorted" = some (.builtin "sorted") := by decide +kernel
theorem bb_isinstance : bootBuiltins "isinstance" = some (.builtin "isinstance") := by decide +kernel
theorem bb_int : bootBuiltins "int" = some (.type "int") := by decide +kernel
theorem bb_bool : bootBuiltins "bool" = some (.type "bool") := by decide +kernel
theorem bb_str : bootBuiltins "str" = some (.type "str") := by decide +kernel
theorem bb_list : bootBuiltins "list" = some (.type "list") := by decide +kernel
theorem bb_tuple : bootBuiltins "tuple" = some (.type "tuple") := by decide +kernel
theorem bb_dict : bootBuiltins "dict" = some (.type "dict") := by decide +kernel
theorem bb_range : bootBuiltins "range" = some (.type "range") := by decide +kernel
theorem bb_ValueError : bootBuiltins "ValueError" = some (.type "ValueError") := by decide +kernel
section
variable {X : Cx} {x : Str} {pos p : Pos} {e : Expr} {es : List Expr} {t : TA} {k j : Nat} {C : Addr} {sp : Sp} {E : XK}
theorem q_ref {a : Addr} (hm : X.mg x = some (.ref a)) (hg : Gl X x := by rfl) (hd : (x == ("__debug__" : Str)) = false := by decide) : PE X (.Name x pos) (tC (.ref a)) := pe_glob hg hm rfl hd
theorem q_int {i : Int} (hm : ∃ t, X.mg x = some (.int i t)) (hg : Gl X x := by rfl) (hd : (x == ("__debug__" : Str)) = false := by decide) : PE X (.Name x pos) (tC (.int i)) := by
  obtain ⟨t, hm⟩ := hm
  exact pe_glob hg hm ⟨t, rfl⟩ hd
theorem q_str {i : Str} (hm : ∃ t, X.mg x = some (.str i t)) (hg : Gl X x := by rfl) (hd : (x == ("__debug__" : Str)) = false := by decide) : PE X (.Name x pos) (tC (.str i)) := by
  obtain ⟨t, hm⟩ := hm
  exact pe_glob hg hm ⟨t, rfl⟩ hd
theorem q_ty {T : String} (hm : X.mg x = none) (hv : bootBuiltins x = some (.type T)) (hg : Gl X x := by rfl) (hn : x ≠ "__name__" := by decide) (hd : (x == ("__debug__" : Str)) = false := by decide) : PE X (.Name x pos) (tC (.ty T)) := pe_bltn hg hm hv rfl hn hd
theorem q_cb {id : String} {r : List V → Hp → VK → Prop} (hc : CallR X (.builtin id) r) (hm : X.mg x = none) (hv : bootBuiltins x = some (.builtin id)) (ha : PA X (e :: es) t) (hg : Gl X x := by rfl) (hn : x ≠ "__name__" := by decide) (hdb : (x == ("__debug__" : Str)) = false := by decide)
    (he : starEach (e :: es) X.env = (false, eval e X.env) :: starEach es X.env := by rfl) (hpl : (backTo pos (starEach es X.env)).any (·.1) = false := by rfl) : PE X (.Call (.Name x p) (e :: es) [] pos) (tCB r t) := pe_callB hc hg hm hv ha hn hdb he hpl
theorem q_ct {T : String} {r : List V → Hp → VK → Prop} (hc : CallR X (.type T) r) (hm : X.mg x = none) (hv : bootBuiltins x = some (.type T)) (ha : PA X (e :: es) t) (hg : Gl X x := by rfl) (hn : x ≠ "__name__" := by decide) (hdb : (x == ("__debug__" : Str)) = false := by decide)
    (he : starEach (e :: es) X.env = (false, eval e X.env) :: starEach es X.env := by rfl) (hpl : (backTo pos (starEach es X.env)).any (·.1) = false := by rfl) : PE X (.Call (.Name x p) (e :: es) [] pos) (tCB r t) := pe_callTy hc hg hm hv ha hn hdb he hpl
theorem q_fn (F : Fn X.prog X.w X.K X.mg X.base k x sp) (hr : Room j X.A) (hx : Passes (L2N.CX X.prog X.w) X E) (ha : PA X (e :: es) t) (hk : k ≤ j := by decide) (hg : Gl X x := by rfl) (hdb : (x == ("__debug__" : Str)) = false := by decide)
    (he : starEach (e :: es) X.env = (false, eval e X.env) :: starEach es X.env := by rfl) (hpl : (backTo pos (starEach es X.env)).any (·.1) = false := by rfl) : PE X (.Call (.Name x p) (e :: es) [] pos) (tCall sp [] E t) := pe_fn F hr hg hx ha hk hdb he hpl
theorem q_fn0 (F : Fn X.prog X.w X.K X.mg X.base k x sp) (hr : Room j X.A) (hx : Passes (L2N.CX X.prog X.w) X E) (hk : k ≤ j := by decide) (hg : Gl X x := by rfl) (hdb : (x == ("__debug__" : Str)) = false := by decide) :
    PE X (.Call (.Name x p) [] [] pos) (tCall sp [] E tNil) := pe_fn0 F hr hg hx hk hdb
theorem q_mr (F : Mr X.prog X.w X.K X.mg X.base k x C sp) (hr : Room j X.A) (hx : Passes (L2N.CX X.prog X.w) X E) (ha : PA X (e :: es) t) (hk : k + 1 ≤ j := by decide) (hg : Gl X x := by rfl) (hdb : (x == ("__debug__" : Str)) = false := by decide)
    (he : starEach (e :: es) X.env = (false, eval e X.env) :: starEach es X.env := by rfl) (hpl : (backTo pos (starEach es X.env)).any (·.1) = false := by rfl) : PE X (.Call (.Name x p) (e :: es) [] pos) (tMake C sp [] E t) := pe_mr F hr hg hx ha hk hdb he hpl
theorem q_mr0 (F : Mr X.prog X.w X.K X.mg X.base k x C sp) (hr : Room j X.A) (hx : Passes (L2N.CX X.prog X.w) X E) (hk : k + 1 ≤ j := by decide) (hg : Gl X x := by rfl) (hdb : (x == ("__debug__" : Str)) = false := by decide) :
    PE X (.Call (.Name x p) [] [] pos) (tMake C sp [] E tNil) := pe_mr0 F hr hg hx hk hdb
end
/-! ### the six refusals -/
abbrev veT : List Value := [.type "ValueError", .type "Exception", .type "BaseException", .type "object"]
def errIn (K : PySem.W.Frag) (D W : Addr) : Bool :=
  PySem.W.findIn K (.ref D) "__getattribute__" == some (some (.builtin "BaseException.__getattribute__")) && (PySem.W.findIn K (.ref D) "__getattr__" == some none &&
  (PySem.W.subIn K (.ref D) (.type "BaseException") == some true && (PySem.W.hasDictIn K D &&
  (PySem.W.findIn K (.ref D) "__class__" == some (some (.builtin "object.__class__")) &&
  (PySem.W.specialIn K (.builtin "object.__class__") "__get__" == some (some (.builtin "getset_descriptor.__get__")) &&
  (PySem.W.takesIn K (.builtin "object.__class__") == some true && (PySem.W.mroIn K D (.type "object") == some true &&
  (PySem.W.excIn K D veT "ValueError.__new__" && (PySem.W.keepIn K (.ref D) && (PySem.W.typeIn K (.ref D) == some (.type "type") &&
  (PySem.W.kitOne K (.ref D) (.type "ValueError") == some true && PySem.W.exmOne K (.ref D) (.ref W) == some true)))))))))))
structure ErrC (K : PySem.W.Frag) (D W : Addr) : Prop where
  exc : ExcC K D
  xin : PySem.W.excIn K D veT "ValueError.__new__" = true
  kp : PySem.W.keepIn K (.ref D) = true
  ty : PySem.W.typeIn K (.ref D) = some (.type "type")
  kv : PySem.W.kitOne K (.ref D) (.type "ValueError") = some true
  ex : PySem.W.exmOne K (.ref D) (.ref W) = some true
theorem errC_of {K : PySem.W.Frag} {D W : Addr} (h : errIn K D W = true) : ErrC K D W := by
  unfold errIn at h
  simp only [Bool.and_eq_true, beq_iff_eq] at h
  obtain ⟨h1, h2, h3, h4, h5, h6, h7, h8, h9, h10, h11, h12, h13⟩ := h
  exact ⟨⟨h1, h2, h3, h4, h5, h6, h7, h8⟩, h9, h10, h11, h12, h13⟩
def nmE : Nat → Str
  | 0 => "BadBook" | 1 => "BadBytes" | 2 => "BadRank" | 3 => "BadRoom" | 4 => "BadSheet" | _ => "BadTurn"
def errsIn (K : PySem.W.Frag) (c : Nat → Addr) : Bool :=
  (List.range 6).all fun i => errIn K (c i) (c 6) && (List.range 6).all fun j => PySem.W.kitOne K (.ref (c i)) (.ref (c j)) == some (decide (i = j))
structure Errs (K : PySem.W.Frag) (mg : Str → Option Value) (c : Nat → Addr) : Prop where
  g : ∀ i, i < 6 → mg (nmE i) = some (.ref (c i))
  gW : mg "WireError" = some (.ref (c 6))
  cls : ∀ i, i < 6 → ErrC K (c i) (c 6)
  kit : ∀ i j, i < 6 → j < 6 → PySem.W.kitOne K (.ref (c i)) (.ref (c j)) = some (decide (i = j))
theorem errs_of {K : PySem.W.Frag} {mg : Str → Option Value} {c : Nat → Addr} (h : errsIn K c = true) (g0 : mg "BadBook" = some (.ref (c 0))) (g1 : mg "BadBytes" = some (.ref (c 1))) (g2 : mg "BadRank" = some (.ref (c 2))) (g3 : mg "BadRoom" = some (.ref (c 3)))
    (g4 : mg "BadSheet" = some (.ref (c 4))) (g5 : mg "BadTurn" = some (.ref (c 5))) (gW : mg "WireError" = some (.ref (c 6))) : Errs K mg c := by
  unfold errsIn at h
  simp only [List.all_eq_true, List.mem_range, Bool.and_eq_true, beq_iff_eq] at h
  refine ⟨fun i hi => ?_, gW, fun i hi => errC_of (h i hi).1, fun i j hi hj => (h i hi).2 j hj⟩
  match i, hi with
  | 0, _ => exact g0
  | 1, _ => exact g1
  | 2, _ => exact g2
  | 3, _ => exact g3
  | 4, _ => exact g4
  | 5, _ => exact g5
theorem Errs.mk_ {K : PySem.W.Frag} {mg : Str → Option Value} {c : Nat → Addr} (T : Errs K mg c) {X : Cx} (eK : X.K = K) (em : X.mg = mg) (i : Nat) (hi : i < 6) {m : Str} {j : Nat} {p p2 pos : Pos} (hg : Gl X (nmE i)) (hd : (nmE i == ("__debug__" : Str)) = false) :
    L2N.PMk X (.Call (.Name (nmE i) p) [.Constant (.str m) j p2] [] pos) (fun _ H Q => Q (.ref (c i)) none H) := by
  subst eK em
  have C := T.cls i hi
  refine L2N.pmk_own PySem.F.excBase_ValueError C.xin (T.g i hi) C.kp (fun M h KX => ⟨?_, ?_⟩) hg hd
  · exact PySem.W.looks_subIn KX C.exc.hs
  · exact PySem.W.looks_typeIn KX C.ty
section
variable {H : Hp} {Q : VK} {R : L2.St → Hp → Prop} {v : V}
theorem x_v0 {l : L2.St} (k : Q v H) : tVar 0 (some v :: l) H Q := ⟨v, rfl, k⟩
theorem x_n0 {b : Option V} {l : L2.St} (k : R (some v :: l) H) : gName 0 v (b :: l) H R := k
theorem x_v1 {a0 : Option V} {l : L2.St} (k : Q v H) : tVar 1 (a0 :: some v :: l) H Q := ⟨v, rfl, k⟩
theorem x_n1 {a0 : Option V} {b : Option V} {l : L2.St} (k : R (a0 :: some v :: l) H) : gName 1 v (a0 :: b :: l) H R := k
theorem x_v2 {a0 a1 : Option V} {l : L2.St} (k : Q v H) : tVar 2 (a0 :: a1 :: some v :: l) H Q := ⟨v, rfl, k⟩
theorem x_n2 {a0 a1 : Option V} {b : Option V} {l : L2.St} (k : R (a0 :: a1 :: some v :: l) H) : gName 2 v (a0 :: a1 :: b :: l) H R := k
theorem x_v3 {a0 a1 a2 : Option V} {l : L2.St} (k : Q v H) : tVar 3 (a0 :: a1 :: a2 :: some v :: l) H Q := ⟨v, rfl, k⟩
theorem x_n3 {a0 a1 a2 : Option V} {b : Option V} {l : L2.St} (k : R (a0 :: a1 :: a2 :: some v :: l) H) : gName 3 v (a0 :: a1 :: a2 :: b :: l) H R := k
theorem x_v4 {a0 a1 a2 a3 : Option V} {l : L2.St} (k : Q v H) : tVar 4 (a0 :: a1 :: a2 :: a3 :: some v :: l) H Q := ⟨v, rfl, k⟩
theorem x_n4 {a0 a1 a2 a3 : Option V} {b : Option V} {l : L2.St} (k : R (a0 :: a1 :: a2 :: a3 :: some v :: l) H) : gName 4 v (a0 :: a1 :: a2 :: a3 :: b :: l) H R := k
theorem x_v5 {a0 a1 a2 a3 a4 : Option V} {l : L2.St} (k : Q v H) : tVar 5 (a0 :: a1 :: a2 :: a3 :: a4 :: some v :: l) H Q := ⟨v, rfl, k⟩
theorem x_n5 {a0 a1 a2 a3 a4 : Option V} {b : Option V} {l : L2.St} (k : R (a0 :: a1 :: a2 :: a3 :: a4 :: some v :: l) H) : gName 5 v (a0 :: a1 :: a2 :: a3 :: a4 :: b :: l) H R := k
theorem x_v6 {a0 a1 a2 a3 a4 a5 : Option V} {l : L2.St} (k : Q v H) : tVar 6 (a0 :: a1 :: a2 :: a3 :: a4 :: a5 :: some v :: l) H Q := ⟨v, rfl, k⟩
theorem x_n6 {a0 a1 a2 a3 a4 a5 : Option V} {b : Option V} {l : L2.St} (k : R (a0 :: a1 :: a2 :: a3 :: a4 :: a5 :: some v :: l) H) : gName 6 v (a0 :: a1 :: a2 :: a3 :: a4 :: a5 :: b :: l) H R := k
theorem x_v7 {a0 a1 a2 a3 a4 a5 a6 : Option V} {l : L2.St} (k : Q v H) : tVar 7 (a0 :: a1 :: a2 :: a3 :: a4 :: a5 :: a6 :: some v :: l) H Q := ⟨v, rfl, k⟩
theorem x_n7 {a0 a1 a2 a3 a4 a5 a6 : Option V} {b : Option V} {l : L2.St} (k : R (a0 :: a1 :: a2 :: a3 :: a4 :: a5 :: a6 :: some v :: l) H) : gName 7 v (a0 :: a1 :: a2 :: a3 :: a4 :: a5 :: a6 :: b :: l) H R := k
theorem x_v8 {a0 a1 a2 a3 a4 a5 a6 a7 : Option V} {l : L2.St} (k : Q v H) : tVar 8 (a0 :: a1 :: a2 :: a3 :: a4 :: a5 :: a6 :: a7 :: some v :: l) H Q := ⟨v, rfl, k⟩
theorem x_n8 {a0 a1 a2 a3 a4 a5 a6 a7 : Option V} {b : Option V} {l : L2.St} (k : R (a0 :: a1 :: a2 :: a3 :: a4 :: a5 :: a6 :: a7 :: some v :: l) H) : gName 8 v (a0 :: a1 :: a2 :: a3 :: a4 :: a5 :: a6 :: a7 :: b :: l) H R := k
theorem x_v9 {a0 a1 a2 a3 a4 a5 a6 a7 a8 : Option V} {l : L2.St} (k : Q v H) : tVar 9 (a0 :: a1 :: a2 :: a3 :: a4 :: a5 :: a6 :: a7 :: a8 :: some v :: l) H Q := ⟨v, rfl, k⟩
theorem x_n9 {a0 a1 a2 a3 a4 a5 a6 a7 a8 : Option V} {b : Option V} {l : L2.St} (k : R (a0 :: a1 :: a2 :: a3 :: a4 :: a5 :: a6 :: a7 :: a8 :: some v :: l) H) : gName 9 v (a0 :: a1 :: a2 :: a3 :: a4 :: a5 :: a6 :: a7 :: a8 :: b :: l) H R := k
theorem x_v10 {a0 a1 a2 a3 a4 a5 a6 a7 a8 a9 : Option V} {l : L2.St} (k : Q v H) : tVar 10 (a0 :: a1 :: a2 :: a3 :: a4 :: a5 :: a6 :: a7 :: a8 :: a9 :: some v :: l) H Q := ⟨v, rfl, k⟩
theorem x_n10 {a0 a1 a2 a3 a4 a5 a6 a7 a8 a9 : Option V} {b : Option V} {l : L2.St} (k : R (a0 :: a1 :: a2 :: a3 :: a4 :: a5 :: a6 :: a7 :: a8 :: a9 :: some v :: l) H) : gName 10 v (a0 :: a1 :: a2 :: a3 :: a4 :: a5 :: a6 :: a7 :: a8 :: a9 :: b :: l) H R := k
theorem x_v11 {a0 a1 a2 a3 a4 a5 a6 a7 a8 a9 a10 : Option V} {l : L2.St} (k : Q v H) : tVar 11 (a0 :: a1 :: a2 :: a3 :: a4 :: a5 :: a6 :: a7 :: a8 :: a9 :: a10 :: some v :: l) H Q := ⟨v, rfl, k⟩
theorem x_n11 {a0 a1 a2 a3 a4 a5 a6 a7 a8 a9 a10 : Option V} {b : Option V} {l : L2.St} (k : R (a0 :: a1 :: a2 :: a3 :: a4 :: a5 :: a6 :: a7 :: a8 :: a9 :: a10 :: some v :: l) H) : gName 11 v (a0 :: a1 :: a2 :: a3 :: a4 :: a5 :: a6 :: a7 :: a8 :: a9 :: a10 :: b :: l) H R := k
theorem x_v12 {a0 a1 a2 a3 a4 a5 a6 a7 a8 a9 a10 a11 : Option V} {l : L2.St} (k : Q v H) : tVar 12 (a0 :: a1 :: a2 :: a3 :: a4 :: a5 :: a6 :: a7 :: a8 :: a9 :: a10 :: a11 :: some v :: l) H Q := ⟨v, rfl, k⟩
theorem x_n12 {a0 a1 a2 a3 a4 a5 a6 a7 a8 a9 a10 a11 : Option V} {b : Option V} {l : L2.St} (k : R (a0 :: a1 :: a2 :: a3 :: a4 :: a5 :: a6 :: a7 :: a8 :: a9 :: a10 :: a11 :: some v :: l) H) : gName 12 v (a0 :: a1 :: a2 :: a3 :: a4 :: a5 :: a6 :: a7 :: a8 :: a9 :: a10 :: a11 :: b :: l) H R := k
theorem x_v13 {a0 a1 a2 a3 a4 a5 a6 a7 a8 a9 a10 a11 a12 : Option V} {l : L2.St} (k : Q v H) : tVar 13 (a0 :: a1 :: a2 :: a3 :: a4 :: a5 :: a6 :: a7 :: a8 :: a9 :: a10 :: a11 :: a12 :: some v :: l) H Q := ⟨v, rfl, k⟩
theorem x_n13 {a0 a1 a2 a3 a4 a5 a6 a7 a8 a9 a10 a11 a12 : Option V} {b : Option V} {l : L2.St} (k : R (a0 :: a1 :: a2 :: a3 :: a4 :: a5 :: a6 :: a7 :: a8 :: a9 :: a10 :: a11 :: a12 :: some v :: l) H) : gName 13 v (a0 :: a1 :: a2 :: a3 :: a4 :: a5 :: a6 :: a7 :: a8 :: a9 :: a10 :: a11 :: a12 :: b :: l) H R := k
theorem x_v14 {a0 a1 a2 a3 a4 a5 a6 a7 a8 a9 a10 a11 a12 a13 : Option V} {l : L2.St} (k : Q v H) : tVar 14 (a0 :: a1 :: a2 :: a3 :: a4 :: a5 :: a6 :: a7 :: a8 :: a9 :: a10 :: a11 :: a12 :: a13 :: some v :: l) H Q := ⟨v, rfl, k⟩
theorem x_n14 {a0 a1 a2 a3 a4 a5 a6 a7 a8 a9 a10 a11 a12 a13 : Option V} {b : Option V} {l : L2.St} (k : R (a0 :: a1 :: a2 :: a3 :: a4 :: a5 :: a6 :: a7 :: a8 :: a9 :: a10 :: a11 :: a12 :: a13 :: some v :: l) H) : gName 14 v (a0 :: a1 :: a2 :: a3 :: a4 :: a5 :: a6 :: a7 :: a8 :: a9 :: a10 :: a11 :: a12 :: a13 :: b :: l) H R := k
theorem x_v15 {a0 a1 a2 a3 a4 a5 a6 a7 a8 a9 a10 a11 a12 a13 a14 : Option V} {l : L2.St} (k : Q v H) : tVar 15 (a0 :: a1 :: a2 :: a3 :: a4 :: a5 :: a6 :: a7 :: a8 :: a9 :: a10 :: a11 :: a12 :: a13 :: a14 :: some v :: l) H Q := ⟨v, rfl, k⟩
theorem x_n15 {a0 a1 a2 a3 a4 a5 a6 a7 a8 a9 a10 a11 a12 a13 a14 : Option V} {b : Option V} {l : L2.St} (k : R (a0 :: a1 :: a2 :: a3 :: a4 :: a5 :: a6 :: a7 :: a8 :: a9 :: a10 :: a11 :: a12 :: a13 :: a14 :: some v :: l) H) : gName 15 v (a0 :: a1 :: a2 :: a3 :: a4 :: a5 :: a6 :: a7 :: a8 :: a9 :: a10 :: a11 :: a12 :: a13 :: a14 :: b :: l) H R := k
theorem x_v16 {a0 a1 a2 a3 a4 a5 a6 a7 a8 a9 a10 a11 a12 a13 a14 a15 : Option V} {l : L2.St} (k : Q v H) : tVar 16 (a0 :: a1 :: a2 :: a3 :: a4 :: a5 :: a6 :: a7 :: a8 :: a9 :: a10 :: a11 :: a12 :: a13 :: a14 :: a15 :: some v :: l) H Q := ⟨v, rfl, k⟩
theorem x_n16 {a0 a1 a2 a3 a4 a5 a6 a7 a8 a9 a10 a11 a12 a13 a14 a15 : Option V} {b : Option V} {l : L2.St} (k : R (a0 :: a1 :: a2 :: a3 :: a4 :: a5 :: a6 :: a7 :: a8 :: a9 :: a10 :: a11 :: a12 :: a13 :: a14 :: a15 :: some v :: l) H) : gName 16 v (a0 :: a1 :: a2 :: a3 :: a4 :: a5 :: a6 :: a7 :: a8 :: a9 :: a10 :: a11 :: a12 :: a13 :: a14 :: a15 :: b :: l) H R := k
theorem x_v17 {a0 a1 a2 a3 a4 a5 a6 a7 a8 a9 a10 a11 a12 a13 a14 a15 a16 : Option V} {l : L2.St} (k : Q v H) : tVar 17 (a0 :: a1 :: a2 :: a3 :: a4 :: a5 :: a6 :: a7 :: a8 :: a9 :: a10 :: a11 :: a12 :: a13 :: a14 :: a15 :: a16 :: some v :: l) H Q := ⟨v, rfl, k⟩
theorem x_n17 {a0 a1 a2 a3 a4 a5 a6 a7 a8 a9 a10 a11 a12 a13 a14 a15 a16 : Option V} {b : Option V} {l : L2.St} (k : R (a0 :: a1 :: a2 :: a3 :: a4 :: a5 :: a6 :: a7 :: a8 :: a9 :: a10 :: a11 :: a12 :: a13 :: a14 :: a15 :: a16 :: some v :: l) H) : gName 17 v (a0 :: a1 :: a2 :: a3 :: a4 :: a5 :: a6 :: a7 :: a8 :: a9 :: a10 :: a11 :: a12 :: a13 :: a14 :: a15 :: a16 :: b :: l) H R := k
theorem x_v18 {a0 a1 a2 a3 a4 a5 a6 a7 a8 a9 a10 a11 a12 a13 a14 a15 a16 a17 : Option V} {l : L2.St} (k : Q v H) : tVar 18 (a0 :: a1 :: a2 :: a3 :: a4 :: a5 :: a6 :: a7 :: a8 :: a9 :: a10 :: a11 :: a12 :: a13 :: a14 :: a15 :: a16 :: a17 :: some v :: l) H Q := ⟨v, rfl, k⟩
theorem x_n18 {a0 a1 a2 a3 a4 a5 a6 a7 a8 a9 a10 a11 a12 a13 a14 a15 a16 a17 : Option V} {b : Option V} {l : L2.St} (k : R (a0 :: a1 :: a2 :: a3 :: a4 :: a5 :: a6 :: a7 :: a8 :: a9 :: a10 :: a11 :: a12 :: a13 :: a14 :: a15 :: a16 :: a17 :: some v :: l) H) : gName 18 v (a0 :: a1 :: a2 :: a3 :: a4 :: a5 :: a6 :: a7 :: a8 :: a9 :: a10 :: a11 :: a12 :: a13 :: a14 :: a15 :: a16 :: a17 :: b :: l) H R := k
theorem x_v19 {a0 a1 a2 a3 a4 a5 a6 a7 a8 a9 a10 a11 a12 a13 a14 a15 a16 a17 a18 : Option V} {l : L2.St} (k : Q v H) : tVar 19 (a0 :: a1 :: a2 :: a3 :: a4 :: a5 :: a6 :: a7 :: a8 :: a9 :: a10 :: a11 :: a12 :: a13 :: a14 :: a15 :: a16 :: a17 :: a18 :: some v :: l) H Q := ⟨v, rfl, k⟩
theorem x_n19 {a0 a1 a2 a3 a4 a5 a6 a7 a8 a9 a10 a11 a12 a13 a14 a15 a16 a17 a18 : Option V} {b : Option V} {l : L2.St} (k : R (a0 :: a1 :: a2 :: a3 :: a4 :: a5 :: a6 :: a7 :: a8 :: a9 :: a10 :: a11 :: a12 :: a13 :: a14 :: a15 :: a16 :: a17 :: a18 :: some v :: l) H) : gName 19 v (a0 :: a1 :: a2 :: a3 :: a4 :: a5 :: a6 :: a7 :: a8 :: a9 :: a10 :: a11 :: a12 :: a13 :: a14 :: a15 :: a16 :: a17 :: a18 :: b :: l) H R := k
theorem x_v20 {a0 a1 a2 a3 a4 a5 a6 a7 a8 a9 a10 a11 a12 a13 a14 a15 a16 a17 a18 a19 : Option V} {l : L2.St} (k : Q v H) : tVar 20 (a0 :: a1 :: a2 :: a3 :: a4 :: a5 :: a6 :: a7 :: a8 :: a9 :: a10 :: a11 :: a12 :: a13 :: a14 :: a15 :: a16 :: a17 :: a18 :: a19 :: some v :: l) H Q := ⟨v, rfl, k⟩
theorem x_n20 {a0 a1 a2 a3 a4 a5 a6 a7 a8 a9 a10 a11 a12 a13 a14 a15 a16 a17 a18 a19 : Option V} {b : Option V} {l : L2.St} (k : R (a0 :: a1 :: a2 :: a3 :: a4 :: a5 :: a6 :: a7 :: a8 :: a9 :: a10 :: a11 :: a12 :: a13 :: a14 :: a15 :: a16 :: a17 :: a18 :: a19 :: some v :: l) H) : gName 20 v (a0 :: a1 :: a2 :: a3 :: a4 :: a5 :: a6 :: a7 :: a8 :: a9 :: a10 :: a11 :: a12 :: a13 :: a14 :: a15 :: a16 :: a17 :: a18 :: a19 :: b :: l) H R := k
theorem x_v21 {a0 a1 a2 a3 a4 a5 a6 a7 a8 a9 a10 a11 a12 a13 a14 a15 a16 a17 a18 a19 a20 : Option V} {l : L2.St} (k : Q v H) : tVar 21 (a0 :: a1 :: a2 :: a3 :: a4 :: a5 :: a6 :: a7 :: a8 :: a9 :: a10 :: a11 :: a12 :: a13 :: a14 :: a15 :: a16 :: a17 :: a18 :: a19 :: a20 :: some v :: l) H Q := ⟨v, rfl, k⟩
theorem x_n21 {a0 a1 a2 a3 a4 a5 a6 a7 a8 a9 a10 a11 a12 a13 a14 a15 a16 a17 a18 a19 a20 : Option V} {b : Option V} {l : L2.St} (k : R (a0 :: a1 :: a2 :: a3 :: a4 :: a5 :: a6 :: a7 :: a8 :: a9 :: a10 :: a11 :: a12 :: a13 :: a14 :: a15 :: a16 :: a17 :: a18 :: a19 :: a20 :: some v :: l) H) : gName 21 v (a0 :: a1 :: a2 :: a3 :: a4 :: a5 :: a6 :: a7 :: a8 :: a9 :: a10 :: a11 :: a12 :: a13 :: a14 :: a15 :: a16 :: a17 :: a18 :: a19 :: a20 :: b :: l) H R := k
theorem x_v22 {a0 a1 a2 a3 a4 a5 a6 a7 a8 a9 a10 a11 a12 a13 a14 a15 a16 a17 a18 a19 a20 a21 : Option V} {l : L2.St} (k : Q v H) : tVar 22 (a0 :: a1 :: a2 :: a3 :: a4 :: a5 :: a6 :: a7 :: a8 :: a9 :: a10 :: a11 :: a12 :: a13 :: a14 :: a15 :: a16 :: a17 :: a18 :: a19 :: a20 :: a21 :: some v :: l) H Q := ⟨v, rfl, k⟩
theorem x_n22 {a0 a1 a2 a3 a4 a5 a6 a7 a8 a9 a10 a11 a12 a13 a14 a15 a16 a17 a18 a19 a20 a21 : Option V} {b : Option V} {l : L2.St} (k : R (a0 :: a1 :: a2 :: a3 :: a4 :: a5 :: a6 :: a7 :: a8 :: a9 :: a10 :: a11 :: a12 :: a13 :: a14 :: a15 :: a16 :: a17 :: a18 :: a19 :: a20 :: a21 :: some v :: l) H) : gName 22 v (a0 :: a1 :: a2 :: a3 :: a4 :: a5 :: a6 :: a7 :: a8 :: a9 :: a10 :: a11 :: a12 :: a13 :: a14 :: a15 :: a16 :: a17 :: a18 :: a19 :: a20 :: a21 :: b :: l) H R := k
theorem x_v23 {a0 a1 a2 a3 a4 a5 a6 a7 a8 a9 a10 a11 a12 a13 a14 a15 a16 a17 a18 a19 a20 a21 a22 : Option V} {l : L2.St} (k : Q v H) : tVar 23 (a0 :: a1 :: a2 :: a3 :: a4 :: a5 :: a6 :: a7 :: a8 :: a9 :: a10 :: a11 :: a12 :: a13 :: a14 :: a15 :: a16 :: a17 :: a18 :: a19 :: a20 :: a21 :: a22 :: some v :: l) H Q := ⟨v, rfl, k⟩
theorem x_n23 {a0 a1 a2 a3 a4 a5 a6 a7 a8 a9 a10 a11 a12 a13 a14 a15 a16 a17 a18 a19 a20 a21 a22 : Option V} {b : Option V} {l : L2.St} (k : R (a0 :: a1 :: a2 :: a3 :: a4 :: a5 :: a6 :: a7 :: a8 :: a9 :: a10 :: a11 :: a12 :: a13 :: a14 :: a15 :: a16 :: a17 :: a18 :: a19 :: a20 :: a21 :: a22 :: some v :: l) H) : gName 23 v (a0 :: a1 :: a2 :: a3 :: a4 :: a5 :: a6 :: a7 :: a8 :: a9 :: a10 :: a11 :: a12 :: a13 :: a14 :: a15 :: a16 :: a17 :: a18 :: a19 :: a20 :: a21 :: a22 :: b :: l) H R := k
theorem x_v24 {a0 a1 a2 a3 a4 a5 a6 a7 a8 a9 a10 a11 a12 a13 a14 a15 a16 a17 a18 a19 a20 a21 a22 a23 : Option V} {l : L2.St} (k : Q v H) : tVar 24 (a0 :: a1 :: a2 :: a3 :: a4 :: a5 :: a6 :: a7 :: a8 :: a9 :: a10 :: a11 :: a12 :: a13 :: a14 :: a15 :: a16 :: a17 :: a18 :: a19 :: a20 :: a21 :: a22 :: a23 :: some v :: l) H Q := ⟨v, rfl, k⟩
theorem x_n24 {a0 a1 a2 a3 a4 a5 a6 a7 a8 a9 a10 a11 a12 a13 a14 a15 a16 a17 a18 a19 a20 a21 a22 a23 : Option V} {b : Option V} {l : L2.St} (k : R (a0 :: a1 :: a2 :: a3 :: a4 :: a5 :: a6 :: a7 :: a8 :: a9 :: a10 :: a11 :: a12 :: a13 :: a14 :: a15 :: a16 :: a17 :: a18 :: a19 :: a20 :: a21 :: a22 :: a23 :: some v :: l) H) : gName 24 v (a0 :: a1 :: a2 :: a3 :: a4 :: a5 :: a6 :: a7 :: a8 :: a9 :: a10 :: a11 :: a12 :: a13 :: a14 :: a15 :: a16 :: a17 :: a18 :: a19 :: a20 :: a21 :: a22 :: a23 :: b :: l) H R := k
theorem x_v25 {a0 a1 a2 a3 a4 a5 a6 a7 a8 a9 a10 a11 a12 a13 a14 a15 a16 a17 a18 a19 a20 a21 a22 a23 a24 : Option V} {l : L2.St} (k : Q v H) : tVar 25 (a0 :: a1 :: a2 :: a3 :: a4 :: a5 :: a6 :: a7 :: a8 :: a9 :: a10 :: a11 :: a12 :: a13 :: a14 :: a15 :: a16 :: a17 :: a18 :: a19 :: a20 :: a21 :: a22 :: a23 :: a24 :: some v :: l) H Q := ⟨v, rfl, k⟩
theorem x_n25 {a0 a1 a2 a3 a4 a5 a6 a7 a8 a9 a10 a11 a12 a13 a14 a15 a16 a17 a18 a19 a20 a21 a22 a23 a24 : Option V} {b : Option V} {l : L2.St} (k : R (a0 :: a1 :: a2 :: a3 :: a4 :: a5 :: a6 :: a7 :: a8 :: a9 :: a10 :: a11 :: a12 :: a13 :: a14 :: a15 :: a16 :: a17 :: a18 :: a19 :: a20 :: a21 :: a22 :: a23 :: a24 :: some v :: l) H) : gName 25 v (a0 :: a1 :: a2 :: a3 :: a4 :: a5 :: a6 :: a7 :: a8 :: a9 :: a10 :: a11 :: a12 :: a13 :: a14 :: a15 :: a16 :: a17 :: a18 :: a19 :: a20 :: a21 :: a22 :: a23 :: a24 :: b :: l) H R := k
theorem x_v26 {a0 a1 a2 a3 a4 a5 a6 a7 a8 a9 a10 a11 a12 a13 a14 a15 a16 a17 a18 a19 a20 a21 a22 a23 a24 a25 : Option V} {l : L2.St} (k : Q v H) : tVar 26 (a0 :: a1 :: a2 :: a3 :: a4 :: a5 :: a6 :: a7 :: a8 :: a9 :: a10 :: a11 :: a12 :: a13 :: a14 :: a15 :: a16 :: a17 :: a18 :: a19 :: a20 :: a21 :: a22 :: a23 :: a24 :: a25 :: some v :: l) H Q := ⟨v, rfl, k⟩
theorem x_n26 {a0 a1 a2 a3 a4 a5 a6 a7 a8 a9 a10 a11 a12 a13 a14 a15 a16 a17 a18 a19 a20 a21 a22 a23 a24 a25 : Option V} {b : Option V} {l : L2.St} (k : R (a0 :: a1 :: a2 :: a3 :: a4 :: a5 :: a6 :: a7 :: a8 :: a9 :: a10 :: a11 :: a12 :: a13 :: a14 :: a15 :: a16 :: a17 :: a18 :: a19 :: a20 :: a21 :: a22 :: a23 :: a24 :: a25 :: some v :: l) H) : gName 26 v (a0 :: a1 :: a2 :: a3 :: a4 :: a5 :: a6 :: a7 :: a8 :: a9 :: a10 :: a11 :: a12 :: a13 :: a14 :: a15 :: a16 :: a17 :: a18 :: a19 :: a20 :: a21 :: a22 :: a23 :: a24 :: a25 :: b :: l) H R := k
theorem x_v27 {a0 a1 a2 a3 a4 a5 a6 a7 a8 a9 a10 a11 a12 a13 a14 a15 a16 a17 a18 a19 a20 a21 a22 a23 a24 a25 a26 : Option V} {l : L2.St} (k : Q v H) : tVar 27 (a0 :: a1 :: a2 :: a3 :: a4 :: a5 :: a6 :: a7 :: a8 :: a9 :: a10 :: a11 :: a12 :: a13 :: a14 :: a15 :: a16 :: a17 :: a18 :: a19 :: a20 :: a21 :: a22 :: a23 :: a24 :: a25 :: a26 :: some v :: l) H Q := ⟨v, rfl, k⟩
theorem x_n27 {a0 a1 a2 a3 a4 a5 a6 a7 a8 a9 a10 a11 a12 a13 a14 a15 a16 a17 a18 a19 a20 a21 a22 a23 a24 a25 a26 : Option V} {b : Option V} {l : L2.St} (k : R (a0 :: a1 :: a2 :: a3 :: a4 :: a5 :: a6 :: a7 :: a8 :: a9 :: a10 :: a11 :: a12 :: a13 :: a14 :: a15 :: a16 :: a17 :: a18 :: a19 :: a20 :: a21 :: a22 :: a23 :: a24 :: a25 :: a26 :: some v :: l) H) : gName 27 v (a0 :: a1 :: a2 :: a3 :: a4 :: a5 :: a6 :: a7 :: a8 :: a9 :: a10 :: a11 :: a12 :: a13 :: a14 :: a15 :: a16 :: a17 :: a18 :: a19 :: a20 :: a21 :: a22 :: a23 :: a24 :: a25 :: a26 :: b :: l) H R := k
end
section
variable {K : PySem.W.Frag} {H : Hp} {Q : VK}
theorem x_isE {D a C : Addr} {b : Bool} (e : PySem.W.kitOne K (.ref D) (.ref C) = some b) (k : Q (.bl b) H) : rIsE K D a [.ref a, .ref C] H Q := ⟨.ref C, .ref C, b, rfl, fun _ r => r, e, k⟩
theorem x_isET {D a : Addr} {T : String} {b : Bool} (e : PySem.W.kitOne K (.ref D) (.type T) = some b) (k : Q (.bl b) H) : rIsE K D a [.ref a, .ty T] H Q := ⟨.ty T, .type T, b, rfl, fun _ r => r, e, k⟩
theorem x_cat {l b : Addr} {xs zs : List V} (h1 : H l = some (.lst xs)) (h2 : H b = some (.lst zs)) (hz : xs.length + zs.length ≤ sizeLine) (k : ∀ p, H p = none → Q (.ref p) (upd H p (.lst (xs ++ zs)))) : rCat (.ref l) (.ref b) H Q := ⟨l, b, xs, zs, rfl, rfl, h1, h2, hz, k⟩
theorem x_sum {a : Addr} {ns : List Int} (h : SqL K H a (ns.map V.int)) (k : Q (.int ns.sum) H) : rSum K [.ref a] H Q := ⟨a, ns, rfl, h, k⟩
theorem x_ixL {p : Addr} {xs : List V} {i : Int} {v : V} (h : SqL K H p xs) (hi : atI xs i = some v) (k : Q v H) : rIxL K (.ref p) (.int i) H Q := ⟨p, xs, i, v, rfl, rfl, h, hi, k⟩
theorem x_ixT {p : Addr} {xs : List V} {i : Int} {v : V} (h : SqT K H p xs) (hi : atI xs i = some v) (k : Q v H) : rIxT K (.ref p) (.int i) H Q := ⟨p, xs, i, v, rfl, rfl, h, hi, k⟩
theorem x_index {a : Addr} {ys : List V} {y z : V} {j : Nat} (h : SqL K H a ys) (f1 : flatV y = true) (f2 : ys.all flatV = true) (hj : ys[j]? = some z) (e : eqV z y = true) (no : ∀ (m : Nat) (z' : V), m < j → ys[m]? = some z' → eqV z' y = false) (k : Q (.int (j : Nat)) H) :
    rIndex K (.ref a) [y] H Q := ⟨a, ys, y, j, z, rfl, rfl, h, f1, f2, hj, e, no, k⟩
theorem x_append {l : Addr} {xs : List V} {y : V} (h : H l = some (.lst xs)) (hz : xs.length < sizeLine) (k : Q .non (upd H l (.lst (xs ++ [y])))) : rAppend (.ref l) [y] H Q := ⟨l, xs, y, rfl, rfl, h, hz, k⟩
end
/-- the one flag that is set -/
def flg (i : Nat) (j : Nat) : Bool := decide (i = j)
def flgs (i : Nat) : List V := [.bl (flg i 0), .bl (flg i 1), .bl (flg i 2), .bl (flg i 3), .bl (flg i 4), .bl (flg i 5)]
def fInt : V → V
  | .bl b => .int (if b = true then 1 else 0)
  | v => v
def flgN (i : Nat) : List Int := [if flg i 0 = true then 1 else 0, if flg i 1 = true then 1 else 0, if flg i 2 = true then 1 else 0, if flg i 3 = true then 1 else 0, if flg i 4 = true then 1 else 0, if flg i 5 = true then 1 else 0]
theorem flgN_sum : ∀ i, i < 6 → (flgN i).sum = 1 := by decide
theorem flgs_at : ∀ i, i < 6 → (flgs i)[i]? = some (.bl true) := by decide
theorem flgs_no : ∀ i, i < 6 → ∀ m, m < i → (flgs i)[m]? = some (.bl false) := by decide
theorem nm_at : ∀ i, i < 6 → atI [V.str "BadBook", V.str "BadBytes", V.str "BadRank", V.str "BadRoom", V.str "BadSheet", V.str "BadTurn"] ((i : Nat) : Int) = some (.str (nmE i)) := by
  intro i hi
  match i, hi with
  | 0, _ => rfl
  | 1, _ => rfl
  | 2, _ => rfl
  | 3, _ => rfl
  | 4, _ => rfl
  | 5, _ => rfl
section
variable {K : PySem.W.Frag} {H : Hp} {Q : VK}
theorem x_isi {v : V} {T U : String} {b : Bool} (h : TyX K H v (.type T)) (e : kitB T U = some b) (k : Q (.bl b) H) : rIsi K [v, .ty U] H Q := ⟨v, .ty U, .type T, .type U, b, rfl, .ty U, h, kit_ty e, k⟩
end
def tyN : List String := ["NoneType", "bool", "int", "str", "list", "tuple", "dict"]
theorem kb_int : ∀ T ∈ tyN, kitB T "int" = some (T == "int" || T == "bool") := by decide +kernel
theorem kb_bool : ∀ T ∈ tyN, kitB T "bool" = some (T == "bool") := by decide +kernel
theorem kb_str : ∀ T ∈ tyN, kitB T "str" = some (T == "str") := by decide +kernel
theorem kb_list : ∀ T ∈ tyN, kitB T "list" = some (T == "list") := by decide +kernel
theorem kb_tuple : ∀ T ∈ tyN, kitB T "tuple" = some (T == "tuple") := by decide +kernel
/-- a value's kind is one of the seven -/
def Ty7 (K : PySem.W.Frag) (H : Hp) (v : V) : Prop := ∃ T ∈ tyN, TyX K H v (.type T)
theorem tyx_int {K : PySem.W.Frag} {H : Hp} {v : V} {t : Value} (h : TyX K H v t) (e : t = .type "int") : ∃ i, v = .int i := by
  have no : ∀ T : String, T ≠ "int" → Value.type T = .type "int" → False := fun T hT z => hT (Value.type.inj z)
  cases h with
  | base h => cases h <;> first | exact ⟨_, rfl⟩ | exact (no _ (by decide) e).elim | (cases e)
  | _ => exact (no _ (by decide) e).elim
theorem tyx_bool {K : PySem.W.Frag} {H : Hp} {v : V} {t : Value} (h : TyX K H v t) (e : t = .type "bool") : ∃ i, v = .bl i := by
  have no : ∀ T : String, T ≠ "bool" → Value.type T = .type "bool" → False := fun T hT z => hT (Value.type.inj z)
  cases h with
  | base h => cases h <;> first | exact ⟨_, rfl⟩ | exact (no _ (by decide) e).elim | (cases e)
  | _ => exact (no _ (by decide) e).elim
theorem tyx_str {K : PySem.W.Frag} {H : Hp} {v : V} {t : Value} (h : TyX K H v t) (e : t = .type "str") : ∃ i, v = .str i := by
  have no : ∀ T : String, T ≠ "str" → Value.type T = .type "str" → False := fun T hT z => hT (Value.type.inj z)
  cases h with
  | base h => cases h <;> first | exact ⟨_, rfl⟩ | exact (no _ (by decide) e).elim | (cases e)
  | _ => exact (no _ (by decide) e).elim
theorem tyx_of_int {K : PySem.W.Frag} {H : Hp} {i : Int} {T : Value} (h : TyX K H (.int i) T) : T = .type "int" := by
  cases h with
  | base h => cases h; rfl
theorem tyx_of_bl {K : PySem.W.Frag} {H : Hp} {i : Bool} {T : Value} (h : TyX K H (.bl i) T) : T = .type "bool" := by
  cases h with
  | base h => cases h; rfl
theorem tyx_of_str {K : PySem.W.Frag} {H : Hp} {i : Str} {T : Value} (h : TyX K H (.str i) T) : T = .type "str" := by
  cases h with
  | base h => cases h; rfl
theorem ty7_int {K : PySem.W.Frag} {H : Hp} (i : Int) : Ty7 K H (.int i) := ⟨"int", by decide, .base (.int i)⟩
theorem ty7_bl {K : PySem.W.Frag} {H : Hp} (i : Bool) : Ty7 K H (.bl i) := ⟨"bool", by decide, .base (.bl i)⟩
theorem ty7_str {K : PySem.W.Frag} {H : Hp} (i : Str) : Ty7 K H (.str i) := ⟨"str", by decide, .base (.str i)⟩
theorem ty7_non {K : PySem.W.Frag} {H : Hp} : Ty7 K H .non := ⟨"NoneType", by decide, .base .non⟩
/-- a whole number between two bounds -/
def isW : V → Int → Int → Bool
  | .int i, lo, hi => decide (lo ≤ i) && decide (i ≤ hi)
  | _, _, _ => false
theorem isW_not {v : V} {lo hi : Int} (h : ∀ i, v ≠ .int i) : isW v lo hi = false := by
  cases v with
  | int i => exact absurd rfl (h i)
  | _ => rfl
/-! ### a drawn number -/
def drawn (cell k : Int) : Int :=
  let a := (cell * 6364136223846793005 + (k + 1) * 1442695040888963407) % 340282366920938463463374607431768211507
  let b := a * a % 340282366920938463463374607431768211297
  let d := (b % 18446744073709551557 + 1) * (b / 18446744073709551557 + 1) * b
  d % 340282366920938463463374607431768211507
theorem drawn_lo (cell k : Int) : 0 ≤ drawn cell k := Int.emod_nonneg _ (by decide)
theorem drawn_hi (cell k : Int) : drawn cell k < 340282366920938463463374607431768211507 := Int.emod_lt_of_pos _ (by decide)
theorem nat_lt_of {i : Int} {n : Nat} (h0 : 0 ≤ i) (h : i < (n : Int)) : i.natAbs < n := by omega
/-! ### data -/
theorem depth_ints : ∀ ns : List Int, PyData.depthAll (ns.map PyData.int) = 0
  | [] => by simp [PyData.depthAll]
  | n :: r => by simp [PyData.depthAll, PyData.depth, depth_ints r]
theorem lay_ints : ∀ ns : List Int, PyData.canLayAll0 (ns.map PyData.int) = true
  | [] => by simp [PyData.canLayAll0]
  | n :: r => by simp [PyData.canLayAll0, PyData.canLay0, lay_ints r]
theorem shp_ints (ns : List Int) : SeqAt.shaped (.list (ns.map PyData.int)) = true := by
  simp [SeqAt.shaped, PyData.canLay0, PyData.depth, lay_ints, depth_ints]
theorem shp_tints (ns : List Int) : SeqAt.shaped (.tuple (ns.map PyData.int)) = true := by
  simp [SeqAt.shaped, PyData.canLay0, PyData.depth, lay_ints, depth_ints]
theorem eqv_ints (ns ms : List Int) : PyData.eqv (.list (ns.map PyData.int)) (.list (ms.map PyData.int)) = decide (ns = ms) := by
  rw [PyData.eqv]
  exact PySem.W.ked_eqvAll ns ms
theorem dpa_ints {K : PySem.W.Frag} {H : Hp} : ∀ ns : List Int, DpAll K H (ns.map V.int) (ns.map PyData.int)
  | [] => .nil
  | n :: r => .cons (.int n) (dpa_ints r)
theorem x_eqD {K : PySem.W.Frag} {H : Hp} {Q : VK} {x y : V} {d e : PyData} (h1 : Dp K H x d) (h2 : Dp K H y e) (s1 : SeqAt.shaped d = true) (s2 : SeqAt.shaped e = true) (k : Q (.bl (PyData.eqv d e)) H) : rEqD K x y H Q := ⟨d, e, h1, h2, s1, s2, k⟩
theorem x_neD {K : PySem.W.Frag} {H : Hp} {Q : VK} {x y : V} {d e : PyData} (h1 : Dp K H x d) (h2 : Dp K H y e) (s1 : SeqAt.shaped d = true) (s2 : SeqAt.shaped e = true) (k : Q (.bl (!PyData.eqv d e)) H) : rNeD K x y H Q := ⟨d, e, h1, h2, s1, s2, k⟩
def rLn (K : PySem.W.Frag) : List V → Hp → VK → Prop := fun xs H Q => ∃ p ys, xs = [.ref p] ∧ (SqL K H p ys ∨ SqT K H p ys) ∧ Q (.int ys.length) H
theorem c_len {X : Cx} : CallR X (.builtin "len") (rLn X.K) := call_len_seq
theorem x_lenL {K : PySem.W.Frag} {H : Hp} {Q : VK} {a : Addr} {xs : List V} (h : SqL K H a xs) (k : Q (.int xs.length) H) : rLn K [.ref a] H Q := ⟨a, xs, rfl, .inl h, k⟩
theorem x_lenT {K : PySem.W.Frag} {H : Hp} {Q : VK} {a : Addr} {xs : List V} (h : SqT K H a xs) (k : Q (.int xs.length) H) : rLn K [.ref a] H Q := ⟨a, xs, rfl, .inr h, k⟩
def rLnS : List V → Hp → VK → Prop := fun xs H Q => ∃ z, xs = [.str z] ∧ z.length ≤ sizeLine ∧ Q (.int z.length) H
theorem c_lenS {X : Cx} : CallR X (.builtin "len") rLnS := call_len_str
theorem x_lenS {H : Hp} {Q : VK} {z : Str} (h : z.length ≤ sizeLine) (k : Q (.int z.length) H) : rLnS [.str z] H Q := ⟨z, rfl, h, k⟩
def rMx : List V → Hp → VK → Prop := fun xs H Q => ∃ i j, xs = [.int i, .int j] ∧ Q (.int (if j > i then j else i)) H
def rMn : List V → Hp → VK → Prop := fun xs H Q => ∃ i j, xs = [.int i, .int j] ∧ Q (.int (if j < i then j else i)) H
theorem c_max {X : Cx} (hc : X.calm = true) : CallR X (.builtin "max") rMx := call_max2 hc
theorem c_min {X : Cx} (hc : X.calm = true) : CallR X (.builtin "min") rMn := call_min2 hc
theorem x_max {H : Hp} {Q : VK} {i j : Int} (k : Q (.int (max i j)) H) : rMx [.int i, .int j] H Q := ⟨i, j, rfl, by
  have e : (if j > i then j else i) = max i j := by omega
  rw [e]; exact k⟩
theorem x_min {H : Hp} {Q : VK} {i j : Int} (k : Q (.int (min i j)) H) : rMn [.int i, .int j] H Q := ⟨i, j, rfl, by
  have e : (if j < i then j else i) = min i j := by omega
  rw [e]; exact k⟩
def rTpl (K : PySem.W.Frag) : List V → Hp → VK → Prop := fun xs H Q => ∃ p ys, xs = [.ref p] ∧ ((SqL K H p ys ∧ ∀ l, H l = none → Q (.ref l) (upd H l (.tup ys))) ∨ (SqT K H p ys ∧ Q (.ref p) H))
theorem c_tuple {X : Cx} : CallR X (.type "tuple") (rTpl X.K) := call_tuple_of
theorem x_tplL {K : PySem.W.Frag} {H : Hp} {Q : VK} {a : Addr} {xs : List V} (h : SqL K H a xs) (k : ∀ l, H l = none → Q (.ref l) (upd H l (.tup xs))) : rTpl K [.ref a] H Q := ⟨a, xs, rfl, .inl ⟨h, k⟩⟩
def rLsO (K : PySem.W.Frag) : List V → Hp → VK → Prop := fun xs H Q => ∃ p ys, xs = [.ref p] ∧ (SqL K H p ys ∨ SqT K H p ys) ∧ ∀ l, H l = none → Q (.ref l) (upd H l (.lst ys))
theorem c_list {X : Cx} : CallR X (.type "list") (rLsO X.K) := call_list_of
def rOrd : List V → Hp → VK → Prop := fun xs H Q => ∃ x, xs = [.str x] ∧ x.length = 1 ∧ Q (.int (x.cps.getD 0 0 : Nat)) H
theorem c_ord {X : Cx} : CallR X (.builtin "ord") rOrd := call_ord
def rInt1 : List V → Hp → VK → Prop := fun xs H Q => (∃ i, xs = [.int i] ∧ Q (.int i) H) ∨ ∃ k, xs = [.bl k] ∧ Q (.int (if k then 1 else 0)) H
theorem c_int {X : Cx} : CallR X (.type "int") rInt1 := call_int1
theorem atI_get {α : Type} {xs : List α} {i : Int} {v : α} (h0 : 0 ≤ i) (h : xs[i.toNat]? = some v) : atI xs i = some v := by
  have hl : i.toNat < xs.length := (List.getElem?_eq_some_iff.mp h).1
  unfold atI ixN
  rw [if_pos h0, if_pos (by omega)]
  exact h
end Ws

set_option Elab.async false
set_option linter.all false
set_option maxRecDepth 100000
set_option maxHeartbeats 4000000
namespace Ws
open PySem PySem.Spec PyProof.Rows L2 HotX LamX
/-! ### a word between a statement and the rest -/
def tMid (t u : TS) : TS := fun D σ H => ∃ Mid : L2.St → Hp → Prop, t { D with nx := Mid } σ H ∧ ∀ σ' H', Mid σ' H' → u D σ' H'
theorem pss_mid {X : Cx} {st : Stmt} {rest : List Stmt} {t u : TS} (h1 : PS X st t) (h2 : PSs X rest u) : PSs X (st :: rest) (tMid t u) := by
  refine ⟨fun pins s σ H D I h => ?_⟩
  obtain ⟨Mid, hm, hu⟩ := h
  refine wpAny_execs_cons (thn (h1.run pins s σ H { D with nx := Mid } I hm) fun f s1 q => ?_)
  cases f with
  | next =>
    obtain ⟨σ', H', I', q⟩ := q
    exact h2.run pins s1 σ' H' D I' (hu σ' H' q)
  | ret v => exact q
  | brk => exact q
  | cont => exact q
theorem x_mid {t u : TS} {D : Ends} {σ : L2.St} {H : Hp} (Mid : L2.St → Hp → Prop) (h1 : t { D with nx := Mid } σ H) (h2 : ∀ σ' H', Mid σ' H' → u D σ' H') : tMid t u D σ H := ⟨Mid, h1, h2⟩
/-! ### what stays through the law: the script, the tables of code objects -/
def ScU (K : PySem.W.Frag) (a : Addr) (xs : List V) (u : Option HO) : Prop := (∃ v, u = some v ∧ (v = .lst xs ∨ ∃ o, v = .frz o (.lst xs))) ∨ ∀ H, SqL K H a xs
structure Sv (a : Addr) (u : Option HO) (Tb : List (Addr × Str)) (H : Hp) : Prop where
  keep : ∀ v, u = some v → H a = some v
  tabs : Tabs Tb H
theorem scU_of {K : PySem.W.Frag} {H : Hp} {a : Addr} {xs : List V} (h : SqL K H a xs) : ∃ u, ScU K a xs u ∧ (∀ v, u = some v → H a = some v) := by
  rcases h with (h | ⟨o, h⟩) | h
  · exact ⟨some (.lst xs), .inl ⟨_, rfl, .inl rfl⟩, fun v e => by cases e; exact h⟩
  · exact ⟨some (.frz o (.lst xs)), .inl ⟨_, rfl, .inr ⟨o, rfl⟩⟩, fun v e => by cases e; exact h⟩
  · exact ⟨none, .inr fun _ => .inr h, fun v e => nomatch e⟩
section
variable {K : PySem.W.Frag} {a : Addr} {xs : List V} {u : Option HO} {Tb : List (Addr × Str)} {H H' : Hp}
theorem Sv.seq (S : Sv a u Tb H) (h : ScU K a xs u) : SqL K H a xs := by
  rcases h with ⟨v, e, rfl | ⟨o, rfl⟩⟩ | h
  · exact .inl (.inl (S.keep _ e))
  · exact .inl (.inr ⟨o, S.keep _ e⟩)
  · exact h H
theorem ScU.ntbl {v : HO} (h : ScU K a xs u) (e : u = some v) (hk : ¬ ∀ H, SqL K H a xs) : ∀ ps, v ≠ .tbl ps := by
  rcases h with ⟨v', e', rfl | ⟨o, rfl⟩⟩ | h
  · rw [e'] at e; cases e; exact fun ps z => nomatch z
  · rw [e'] at e; cases e; exact fun ps z => nomatch z
  · exact absurd h hk
def NoT (u : Option HO) : Prop := ∀ v, u = some v → ∀ ps, v ≠ .tbl ps
theorem Sv.ext (S : Sv a u Tb H) (n : NoT u) (e : ExtN H H') (t : Tabs Tb H') : Sv a u Tb H' := ⟨fun v q => e _ _ (S.keep v q) (n v q), t⟩
theorem Sv.same (S : Sv a u Tb H) (e : Same H H') : Sv a u Tb H' := ⟨fun v q => e _ _ (S.keep v q), S.tabs.ext e⟩
theorem Sv.apart (S : Sv a u Tb H) {p : Addr} (h : H p = none) : ∀ v, u = some v → a ≠ p := fun v q => ne_of_none (S.keep v q) h
/-- an object that may be written -/
def Wr : HO → Bool
  | .lst _ => true | .dK _ => true | .ins _ _ _ => true | _ => false
theorem Sv.mut (S : Sv a u Tb H) {p : Addr} {o o' : HO} (h : H p = some o) (hw : Wr o = true) (n : ∀ v, u = some v → a ≠ p) : Sv a u Tb (upd H p o') := by
  refine ⟨fun v q => by rw [upd_ne (n v q)]; exact S.keep v q, fun t ht => ?_⟩
  obtain ⟨ps, h1, h2, h3⟩ := S.tabs t ht
  refine ⟨ps, by rw [upd_ne (ne_of h1 h (by intro z; rw [← z] at hw; cases hw))]; exact h1, h2, fun pos cv hc => ?_⟩
  obtain ⟨c, e1, e2⟩ := h3 pos cv hc
  refine ⟨c, e1, ?_⟩
  rw [upd_ne (ne_of e2 h (by intro z; rw [← z] at hw; cases hw))]
  exact e2
end
theorem scU_noT {K : PySem.W.Frag} {H : Hp} {a : Addr} {xs : List V} (h : SqL K H a xs) : ∃ u, ScU K a xs u ∧ NoT u ∧ (∀ v, u = some v → H a = some v) := by
  rcases h with (h | ⟨o, h⟩) | h
  · exact ⟨some (.lst xs), .inl ⟨_, rfl, .inl rfl⟩, (fun v e ps z => by cases e; cases z), fun v e => by cases e; exact h⟩
  · exact ⟨some (.frz o (.lst xs)), .inl ⟨_, rfl, .inr ⟨o, rfl⟩⟩, (fun v e ps z => by cases e; cases z), fun v e => by cases e; exact h⟩
  · exact ⟨none, .inr fun _ => .inr h, (fun v e => nomatch e), (fun v e => nomatch e)⟩
abbrev qL (x : Str) : Str := x ++ ".<locals>." ++ "<lambda>"
/-- a def that makes lambdas: where its code object stands -/
structure LamAt (K : PySem.W.Frag) (mg : Str → Option Value) (x : Str) (st : Stmt) (cc : Addr) : Prop where
  ex : ∃ (f : Addr) (oc : Value) (od : Option Addr) (kV doc pm : Value) (an : Option Addr) (ct : Value) (osl : Array (Option Value)),
    K.lookup f = some ⟨oc, od, .func (PySem.W.fnOf x x (defArgs st) (defBody st) (defScope st) .none kV doc pm an (.ref cc) ct), osl⟩ ∧ PySem.W.codeIn K (.ref cc) x = true ∧ PySem.W.keepIn K (.ref f) = true ∧ mg x = some (.ref f)
theorem x_lam {T : List (Addr × Str)} {TT : (XK → Hp → VK → Prop) → Hp → VK → Prop} {t : XK → TE} {σ : L2.St} {H : Hp} {Q : VK} (h1 : Tabs T H) (h2 : ∀ H1, ExtN H H1 → Tabs T H1 → TT (fun E H' Q' => t E σ H' Q') H1 Q) : tLam T TT t σ H Q := ⟨h1, h2⟩
theorem x_rep {l : Addr} {xs : List V} {k : Int} {H : Hp} {Q : VK} (h : H l = some (.lst xs)) (k0 : 0 ≤ k) (k1 : k < 1000) (hz : xs.length * k.toNat ≤ sizeLine) (q : ∀ p, H p = none → Q (.ref p) (upd H p (.lst (List.replicate k.toNat xs).flatten))) : rRep (.ref l) (.int k) H Q := ⟨l, k, xs, rfl, rfl, h, by omega, by omega, hz, q⟩
theorem okL {P : Program} {w : World} {K : PySem.W.Frag} {mg : Str → Option Value} {base : Heap} {x : Str} {st : Stmt} {f cc : Addr} {N ps : List Str} {k : Nat} {sp : Sp} {oc : Value} {od an : Option Addr} {osl : Array (Option Value)} {kV doc pm ct : Value}
    (lk : K.lookup f = some ⟨oc, od, .func (PySem.W.fnOf x x (defArgs st) (defBody st) (defScope st) .none kV doc pm an (.ref cc) ct), osl⟩) (hcd : PySem.W.codeIn K (.ref cc) x = true) (S : FnScope N ps (defScope st)) (len : ∀ vs H Q E, sp vs H Q E → vs.length = ps.length)
    (hbody : ∀ (A : Around) (outer : List Env) (s : Shared) (H : Hp) (vs : List V) (Q : VK) (E : XK), Room k (A.deeper (envOfC x (defScope st) s.heap.objs.size f (.ref cc))) → sp vs H Q E →
      ∃ t, PSs (cxOf (L2N.CX P w) P w K mg base N x (defScope st) f (.ref cc) A outer s H E) (defBody st) t ∧ t { nx := fun _ H' => Q .non H', rt := Q } (L2.start N vs) H) :
    FnOk P w K mg base (L2N.CX P w) (k + 1) f (PySem.W.fnOf x x (defArgs st) (defBody st) (defScope st) .none kV doc pm an (.ref cc) ct) ps sp := fn_of lk hcd S len hbody
/-! ### loops -/
def rForR (g : TG) (tb : TS) (D : Ends) (σ : L2.St) (vs : List V) (H : Hp) : Prop := ∃ j : Int, vs = [.int j] ∧ -(2 ^ 62) ≤ j ∧ j < 2 ^ 62 ∧ ∃ W : Nat → Nat → L2.St → Hp → Prop, (∃ m, W 0 m σ H) ∧ ∀ i m σ H, W i m σ H →
  ((Itr 0 j.toNat).stop i H ∧ D.nx σ H) ∨ ((Itr 0 j.toNat).go i H ∧ ∃ N : L2.St → Hp → Prop, (∀ σ' H', N σ' H' → ∃ m', m' < m ∧ W (i + 1) m' σ' H') ∧ ∀ x H', (Itr 0 j.toNat).yld i H x H' → g x σ H' fun σ2 H2 => tb { D with nx := N, ct := N, bk := D.nx } σ2 H2)
def rForL (K : PySem.W.Frag) (g : TG) (tb : TS) (D : Ends) (σ : L2.St) (x : V) (H : Hp) : Prop := ∃ a, x = .ref a ∧ (∃ xs, SqL K H a xs) ∧ ∃ W : Nat → Nat → L2.St → Hp → Prop, (∃ m, W 0 m σ H) ∧ ∀ i m σ H, W i m σ H →
  ((Itl K a).stop i H ∧ D.nx σ H) ∨ ((Itl K a).go i H ∧ ∃ N : L2.St → Hp → Prop, (∀ σ' H', N σ' H' → ∃ m', m' < m ∧ W (i + 1) m' σ' H') ∧ ∀ x H', (Itl K a).yld i H x H' → g x σ H' fun σ2 H2 => tb { D with nx := N, ct := N, bk := D.nx } σ2 H2)
section
variable {K : PySem.W.Frag} {g : TG} {tb : TS} {D : Ends} {σ : L2.St} {H : Hp}
theorem x_forR {ta : TA} (k : ta σ H fun vs H1 => rForR g tb D σ vs H1) : tFor (iRng1 ta) g tb D σ H := k
theorem x_rforR {j : Int} (n : Nat) (e : j = n) (hn : n < 2 ^ 62) (Pv : Nat → L2.St → Hp → Prop) (h0 : Pv 0 σ H)
    (hs : ∀ (i : Nat) σ H, i < n → Pv i σ H → g (.int i) σ H fun σ2 H2 => tb { D with nx := Pv (i + 1), ct := Pv (i + 1), bk := D.nx } σ2 H2) (hd : ∀ σ H, Pv n σ H → D.nx σ H) : rForR g tb D σ [.int j] H := by
  subst e
  refine ⟨_, rfl, by omega, by omega, ?_⟩
  rw [Int.toNat_natCast]
  exact for_range Pv h0 (fun i σ H hi p => by rw [Int.zero_add]; exact hs i σ H hi p) hd
theorem x_forL {tl : TE} (k : tl σ H fun x H1 => rForL K g tb D σ x H1) : tFor (iList K tl) g tb D σ H := k
theorem x_rforL {a : Addr} (xs : List V) (Pv : Nat → L2.St → Hp → Prop) (h0 : Pv 0 σ H) (hl : ∀ i σ H, Pv i σ H → SqL K H a xs)
    (hs : ∀ i x σ H, xs[i]? = some x → Pv i σ H → g x σ H fun σ2 H2 => tb { D with nx := Pv (i + 1), ct := Pv (i + 1), bk := D.nx } σ2 H2) (hd : ∀ σ H, Pv xs.length σ H → D.nx σ H) : rForL K g tb D σ (.ref a) H :=
  ⟨a, rfl, ⟨xs, hl 0 _ _ h0⟩, for_list Pv h0 (fun i σ H _ p => hl i σ H p) hs hd⟩
end
theorem pickI (ls : List Int) (i : Int) (h0 : 0 ≤ i) (h1 : i < ls.length) : ∃ z ∈ ls, atI (ls.map V.int) i = some (.int z) := by
  have hlt : i.toNat < ls.length := by omega
  exact ⟨ls[i.toNat], List.getElem_mem hlt, atI_get h0 (by rw [List.getElem?_map, List.getElem?_eq_getElem hlt]; rfl)⟩
theorem szle {n : Nat} (h : n ≤ 100000) : n ≤ sizeLine := Nat.le_trans h (by decide)
theorem szlt {n : Nat} (h : n ≤ 100000) : n < sizeLine := Nat.lt_of_le_of_lt h (by decide)
theorem made_same {H : Hp} {x dx : Addr} {o : HO} (nx : H x = none) (nd : H dx = none) (ne : dx ≠ x) : Same H (upd (upd H dx (.own x)) x o) := fun b u e => by
  rw [upd_ne (ne_of_none e nx), upd_ne (ne_of_none e nd)]
  exact e
theorem not_t {A B : Prop} (k : B) : if (!true) = true then A else B := x_F k
theorem not_f {A B : Prop} (k : A) : if (!false) = true then A else B := x_T k
end Ws

set_option Elab.async false
set_option linter.all false
set_option maxRecDepth 100000
set_option maxHeartbeats 4000000
namespace Ws
open PySem PySem.Spec PyProof.Rows L2 HotX LamX
/-! ### targets of several names -/
section
variable {K : PySem.W.Frag} {σ : L2.St} {H : Hp} {R : L2.St → Hp → Prop} {t : TG} {u : TGs}
theorem x_gnil (k : R σ H) : gNil [] σ H R := ⟨rfl, k⟩
theorem x_gcons {v : V} {r : List V} (k : t v σ H fun σ' H' => u r σ' H' R) : gCons t u (v :: r) σ H R := ⟨v, r, rfl, k⟩
theorem x_gtup {n : Nat} {a : Addr} {xs : List V} (h : SqT K H a xs) (hn : xs.length = n) (k : u xs σ H R) : gTup K n u (.ref a) σ H R := ⟨a, xs, rfl, h, hn, k⟩
end
/-! ### for over enumerate(list) -/
def rForE (K : PySem.W.Frag) (g : TG) (tb : TS) (D : Ends) (σ : L2.St) (vs : List V) (H : Hp) : Prop := ∃ a xs, vs = [.ref a] ∧ SqL K H a xs ∧ ∃ W : Nat → Nat → L2.St → Hp → Prop, (∃ m, W 0 m σ H) ∧ ∀ i m σ H, W i m σ H →
  ((Ite K a).stop i H ∧ D.nx σ H) ∨ ((Ite K a).go i H ∧ ∃ N : L2.St → Hp → Prop, (∀ σ' H', N σ' H' → ∃ m', m' < m ∧ W (i + 1) m' σ' H') ∧ ∀ x H', (Ite K a).yld i H x H' → g x σ H' fun σ2 H2 => tb { D with nx := N, ct := N, bk := D.nx } σ2 H2)
section
variable {K : PySem.W.Frag} {g : TG} {tb : TS} {D : Ends} {σ : L2.St} {H : Hp}
theorem x_forE {ta : TA} (k : ta σ H fun vs H1 => rForE K g tb D σ vs H1) : tFor (iEnum K ta) g tb D σ H := k
theorem x_rforE {a : Addr} (xs : List V) (Pv : Nat → L2.St → Hp → Prop) (h0 : Pv 0 σ H) (hl : ∀ i σ H, Pv i σ H → SqL K H a xs)
    (hs : ∀ (i : Nat) x σ H T, xs[i]? = some x → Pv i σ H → H T = none → g (.ref T) σ (upd H T (.tup [.int i, x])) fun σ2 H2 => tb { D with nx := Pv (i + 1), ct := Pv (i + 1), bk := D.nx } σ2 H2) (hd : ∀ σ H, Pv xs.length σ H → D.nx σ H) : rForE K g tb D σ [.ref a] H := by
  refine ⟨a, xs, rfl, hl 0 _ _ h0, fun i m σ H => m = xs.length - i ∧ i ≤ xs.length ∧ Pv i σ H, ⟨xs.length, by simp, Nat.zero_le _, h0⟩, ?_⟩
  rintro i m σ H ⟨rfl, hi, p⟩
  have q := hl i σ H p
  by_cases hlt : i < xs.length
  · refine .inr ⟨⟨xs, xs[i], q, by simp [hlt]⟩, Pv (i + 1), fun σ' H' p' => ⟨xs.length - (i + 1), by omega, rfl, hlt, p'⟩, fun v H' y => ?_⟩
    obtain ⟨T, x, rfl, hT, rfl, hx⟩ := y
    exact hs i x σ H T (hx xs q) p hT
  · have e : i = xs.length := by omega
    subst e
    exact .inl ⟨⟨xs, q, Nat.le_refl _⟩, hd σ H p⟩
end
/-! ### comprehensions over a list, over a range -/
def LcOut (J : It) (g : TG) (tt : TT) (te : TE) (vs : List Nat) (σ : L2.St) (H1 : Hp) (Q : VK) : Prop := ∀ D, H1 D = none → ∃ W : Nat → Nat → Hp → Prop, (∃ m, W 0 m (upd H1 D (.lst []))) ∧ ∀ i m H, W i m H →
  (J.stop i H ∧ Q (.ref D) H) ∨ (J.go i H ∧ ∃ Nx : Hp → Prop, (∀ H', Nx H' → ∃ m', m' < m ∧ W (i + 1) m' H') ∧ ∀ x H', J.yld i H x H' → g x (wipe σ vs) H' fun σ2 H2 => wipe σ2 vs = wipe σ vs ∧ tt σ2 H2 fun b H3 =>
    if b = true then te σ2 H3 fun y H4 => ∃ acc, H4 D = some (.lst acc) ∧ acc.length < sizeLine ∧ Nx (upd H4 D (.lst (acc ++ [y]))) else Nx H3)
def rLcL (K : PySem.W.Frag) (g : TG) (tt : TT) (te : TE) (vs : List Nat) (σ : L2.St) (x : V) (H : Hp) (Q : VK) : Prop := ∃ a, x = .ref a ∧ (∃ xs, SqL K H a xs) ∧ LcOut (Itl K a) g tt te vs σ H Q
def rLcR (g : TG) (tt : TT) (te : TE) (vs : List Nat) (σ : L2.St) (xs : List V) (H : Hp) (Q : VK) : Prop := ∃ j : Int, xs = [.int j] ∧ -(2 ^ 62) ≤ j ∧ j < 2 ^ 62 ∧ LcOut (Itr 0 j.toNat) g tt te vs σ H Q
section
variable {K : PySem.W.Frag} {g : TG} {tt : TT} {te : TE} {vs : List Nat} {σ : L2.St} {H : Hp} {Q : VK}
theorem x_lcL {tl : TE} (k : tl σ H fun x H1 => rLcL K g tt te vs σ x H1 Q) : tLc (iList K tl) g tt te vs σ H Q := k
theorem x_lcR {ta : TA} (k : ta σ H fun xs H1 => rLcR g tt te vs σ xs H1 Q) : tLc (iRng1 ta) g tt te vs σ H Q := k
end
/-- all but the lists stay -/
def SameT (H H' : Hp) : Prop := ∀ b o, H b = some o → (∀ xs, o ≠ .lst xs) → H' b = some o
theorem same_t {H H' : Hp} (s : Same H H') : SameT H H' := fun b o e _ => s b o e
theorem sameT_upd {H : Hp} {D : Addr} {acc : List V} {o : HO} (h : H D = some (.lst acc)) : SameT H (upd H D o) := fun b u e n => by
  rw [upd_ne (ne_of e h (n acc))]
  exact e
/-- a comprehension's state at the turn i: the list at D holds acc -/
structure LcI (H : Hp) (R : Nat → List V → Hp → Prop) (D : Addr) (i : Nat) (acc : List V) (H1 : Hp) : Prop where
  new : H D = none
  same : Same H H1
  at_ : H1 D = some (.lst acc)
  len : acc.length ≤ i
  r : R i acc H1
def LcY (H : Hp) (R : Nat → List V → Hp → Prop) (D : Addr) (i : Nat) (y : V) (H4 : Hp) : Prop := ∃ acc, H4 D = some (.lst acc) ∧ acc.length < sizeLine ∧ ∃ acc', LcI H R D (i + 1) acc' (upd H4 D (.lst (acc ++ [y])))
def LcN (H : Hp) (R : Nat → List V → Hp → Prop) (D : Addr) (i : Nat) (H3 : Hp) : Prop := ∃ acc, LcI H R D (i + 1) acc H3
section
variable {K : PySem.W.Frag} {H H1 H4 : Hp} {R : Nat → List V → Hp → Prop} {D : Addr} {i : Nat} {acc : List V} {y : V}
theorem LcI.add (I : LcI H R D i acc H1) (hR : ∀ i acc H1 H2, SameT H1 H2 → R i acc H1 → R i acc H2) (hz : i < sizeLine) (s : Same H1 H4) (r : R (i + 1) (acc ++ [y]) H4) : LcY H R D i y H4 := by
  have h4 := s _ _ I.at_
  refine ⟨acc, h4, Nat.lt_of_le_of_lt I.len hz, acc ++ [y], I.new, fun b o e => ?_, upd_same, by rw [List.length_append]; exact Nat.succ_le_succ I.len, hR _ _ _ _ (sameT_upd h4) r⟩
  rw [upd_ne (ne_of_none e I.new)]
  exact s _ _ (I.same _ _ e)
theorem LcI.skip (I : LcI H R D i acc H1) (s : Same H1 H4) (r : R (i + 1) acc H4) : LcN H R D i H4 := ⟨acc, I.new, I.same.trans s, s _ _ I.at_, Nat.le_succ_of_le I.len, r⟩
variable {g : TG} {tt : TT} {te : TE} {vs : List Nat} {σ : L2.St} {Q : VK}
theorem x_rlcL {a : Addr} {xs : List V} (hS : SqL K H a xs) (R : Nat → List V → Hp → Prop) (h0 : ∀ H1, SameT H H1 → R 0 [] H1)
    (hs : ∀ D i x acc H1, xs[i]? = some x → LcI H R D i acc H1 → g x (wipe σ vs) H1 fun σ2 H2 => wipe σ2 vs = wipe σ vs ∧ tt σ2 H2 fun b H3 => if b = true then te σ2 H3 fun y H4 => LcY H R D i y H4 else LcN H R D i H3)
    (hd : ∀ p H1 acc, H p = none → Same H H1 → H1 p = some (.lst acc) → R xs.length acc H1 → Q (.ref p) H1) : rLcL K g tt te vs σ (.ref a) H Q := by
  refine ⟨a, rfl, ⟨xs, hS⟩, fun D hD => lc_list (xs := xs) (fun i H1 => ∃ acc, LcI H R D i acc H1) ⟨[], hD, same_upd hD, upd_same, Nat.le_refl _, h0 _ (same_t (same_upd hD))⟩ (fun i H1 _ ⟨acc, I⟩ => I.same.seq hS) (fun i x H1 hx ⟨acc, I⟩ => hs D i x acc H1 hx I) fun H1 ⟨acc, I⟩ => hd D H1 acc I.new I.same I.at_ I.r⟩
theorem x_rlcR {j : Int} (n : Nat) (e : j = n) (hn : n < 2 ^ 62) (R : Nat → List V → Hp → Prop) (h0 : ∀ H1, SameT H H1 → R 0 [] H1)
    (hs : ∀ D (i : Nat) acc H1, i < n → LcI H R D i acc H1 → g (.int i) (wipe σ vs) H1 fun σ2 H2 => wipe σ2 vs = wipe σ vs ∧ tt σ2 H2 fun b H3 => if b = true then te σ2 H3 fun y H4 => LcY H R D i y H4 else LcN H R D i H3)
    (hd : ∀ p H1 acc, H p = none → Same H H1 → H1 p = some (.lst acc) → R n acc H1 → Q (.ref p) H1) : rLcR g tt te vs σ [.int j] H Q := by
  subst e
  refine ⟨_, rfl, by omega, by omega, fun D hD => ?_⟩
  rw [Int.toNat_natCast]
  refine ⟨fun i m H1 => m = n - i ∧ i ≤ n ∧ ∃ acc, LcI H R D i acc H1, ⟨n, by simp, Nat.zero_le _, [], hD, same_upd hD, upd_same, Nat.le_refl _, h0 _ (same_t (same_upd hD))⟩, ?_⟩
  rintro i m H1 ⟨rfl, hi, acc, I⟩
  by_cases hlt : i < n
  · refine .inr ⟨hlt, LcN H R D i, fun H' ⟨acc', I'⟩ => ⟨n - (i + 1), by omega, rfl, hlt, acc', I'⟩, fun x H' y => ?_⟩
    obtain ⟨rfl, rfl⟩ := y
    rw [Int.zero_add]
    exact hs D i acc _ hlt I
  · have e : i = n := by omega
    subst e
    exact .inl ⟨Nat.le_refl _, hd D H1 acc I.new I.same I.at_ I.r⟩
theorem x_yes {R : Bool → Hp → Prop} (k : R true H) : tYes σ H R := k
theorem x_and {A B : Prop} (a : A) (b : B) : A ∧ B := ⟨a, b⟩
/-! ### slices -/
theorem x_slL {a : Addr} {xs : List V} {lo hi : Option Int} (h : SqL K H a xs) (k : ∀ p, H p = none → Q (.ref p) (upd H p (.lst (cutV xs lo hi)))) : rSlL K (.ref a) lo hi H Q := ⟨a, xs, rfl, h, k⟩
theorem cut_to (xs : List V) {i : Int} (h : 0 ≤ i) : cutV xs none (some i) = xs.take i.toNat := by
  obtain ⟨n, rfl⟩ := Int.eq_ofNat_of_zero_le h
  unfold cutV
  rw [HT.sIx_none, HT.sIx_nat, List.drop_zero, Nat.sub_zero, Int.toNat_natCast]
  by_cases hn : n ≤ xs.length
  · rw [Nat.min_eq_left hn]
  · rw [Nat.min_eq_right (by omega), List.take_of_length_le (Nat.le_refl _), List.take_of_length_le (by omega)]
theorem cut_from (xs : List V) {i : Int} (h : 0 ≤ i) : cutV xs (some i) none = xs.drop i.toNat := by
  obtain ⟨n, rfl⟩ := Int.eq_ofNat_of_zero_le h
  unfold cutV
  rw [HT.sIx_none, HT.sIx_nat, Int.toNat_natCast]
  rw [List.take_of_length_le (by rw [List.length_drop]; omega)]
  by_cases hn : n ≤ xs.length
  · rw [Nat.min_eq_left hn]
  · rw [Nat.min_eq_right (by omega), List.drop_of_length_le (Nat.le_refl _), List.drop_of_length_le (by omega)]
theorem cut_mid (xs : List V) {i j : Int} (h : 0 ≤ i) (h2 : i ≤ j) : cutV xs (some i) (some j) = (xs.drop i.toNat).take (j - i).toNat := by
  obtain ⟨n, rfl⟩ := Int.eq_ofNat_of_zero_le h
  obtain ⟨m, rfl⟩ := Int.eq_ofNat_of_zero_le (Int.le_trans h h2)
  unfold cutV
  rw [HT.sIx_nat, HT.sIx_nat, Int.toNat_natCast]
  have e : ((m : Int) - (n : Int)).toNat = m - n := by omega
  rw [e]
  by_cases hn : n ≤ xs.length
  · rw [Nat.min_eq_left hn]
    by_cases hm : m ≤ xs.length
    · rw [Nat.min_eq_left hm]
    · rw [Nat.min_eq_right (by omega), List.take_of_length_le (by rw [List.length_drop]; omega), List.take_of_length_le (by rw [List.length_drop]; omega)]
  · rw [List.drop_of_length_le (i := n) (by omega), List.drop_of_length_le (by omega)]
    simp
def rRevL (K : PySem.W.Frag) : V → Hp → VK → Prop := fun x H Q => ∃ a xs, x = .ref a ∧ SqL K H a xs ∧ ∀ p, H p = none → Q (.ref p) (upd H p (.lst xs.reverse))
theorem x_revL {ta : TE} (k : ta σ H fun x H1 => rRevL K x H1 Q) : tRevL K ta σ H Q := k
theorem x_rrevL {a : Addr} {xs : List V} (h : SqL K H a xs) (k : ∀ p, H p = none → Q (.ref p) (upd H p (.lst xs.reverse))) : rRevL K (.ref a) H Q := ⟨a, xs, rfl, h, k⟩
def rIsNt : R2 := fun x y H Q => y = .non ∧ Q (.bl (!decide (x = .non))) H
theorem o_notN {X : Cx} : OpR X (compareOp .IsNot) rIsNt := op_notN
theorem x_notN {x : V} (k : Q (.bl (!decide (x = .non))) H) : rIsNt x .non H Q := ⟨rfl, k⟩
def rIsNo : R2 := fun x y H Q => y = .non ∧ Q (.bl (decide (x = .non))) H
theorem o_isN {X : Cx} : OpR X (compareOp .Is) rIsNo := op_isN
theorem x_isN {x : V} (k : Q (.bl (decide (x = .non))) H) : rIsNo x .non H Q := ⟨rfl, k⟩
theorem x_all {a : Addr} {bs : List Bool} (h : SqL K H a (bs.map V.bl)) (k : Q (.bl (bs.all id)) H) : rAll K [.ref a] H Q := ⟨a, bs, rfl, h, k⟩
theorem x_any {a : Addr} {bs : List Bool} (h : SqL K H a (bs.map V.bl)) (k : Q (.bl (bs.any id)) H) : rAny K [.ref a] H Q := ⟨a, bs, rfl, h, k⟩
end
theorem pickV (xs : List V) (i : Int) (h0 : 0 ≤ i) (h1 : i < xs.length) : ∃ v ∈ xs, atI xs i = some v := by
  have hlt : i.toNat < xs.length := by omega
  exact ⟨xs[i.toNat], List.getElem_mem hlt, atI_get h0 (List.getElem?_eq_getElem hlt)⟩
theorem take_snoc {α : Type} {xs : List α} {i : Nat} {x : α} (h : xs[i]? = some x) : xs.take (i + 1) = xs.take i ++ [x] := by
  obtain ⟨hlt, e⟩ := List.getElem?_eq_some_iff.mp h
  rw [List.take_add_one, h]
  rfl
end Ws

set_option Elab.async false
set_option linter.all false
set_option maxRecDepth 100000
set_option maxHeartbeats 4000000
namespace Ws
open PySem PySem.Spec PyProof.Rows L2 HotX LamX
/-! ### the rules, the written part named -/
section
variable {X : Cx} (K : PySem.W.Frag)
theorem kx_list (h : X.K = K := by rfl) : IxR X (rIxL K) := by subst h; exact ix_list
theorem kx_tup (h : X.K = K := by rfl) : IxR X (rIxT K) := by subst h; exact ix_tup
theorem ks_list (h : X.K = K := by rfl) : SlR X (rSlL K) := by subst h; exact sl_list
theorem kc_len (h : X.K = K := by rfl) : CallR X (.builtin "len") (rLn K) := by subst h; exact c_len
theorem kc_sum (hc : X.calm = true) (h : X.K = K := by rfl) : CallR X (.builtin "sum") (rSum K) := by subst h; exact cr_sum hc
theorem kc_all (hc : X.calm = true) (h : X.K = K := by rfl) : CallR X (.builtin "all") (rAll K) := by subst h; exact cr_all hc
theorem kc_any (hc : X.calm = true) (h : X.K = K := by rfl) : CallR X (.builtin "any") (rAny K) := by subst h; exact cr_any hc
theorem kc_tuple (h : X.K = K := by rfl) : CallR X (.type "tuple") (rTpl K) := by subst h; exact c_tuple
theorem kc_list (h : X.K = K := by rfl) : CallR X (.type "list") (rLsO K) := by subst h; exact c_list
theorem kc_isi (h : X.K = K := by rfl) : CallR X (.builtin "isinstance") (rIsi K) := by subst h; exact call_isi
theorem kc_isiT (h : X.K = K := by rfl) : CallR X (.builtin "isinstance") (rIsiT K) := by subst h; exact call_isiT
theorem kc_sorted (h : X.K = K := by rfl) : CallR X (.builtin "sorted") (rSortedI K) := by subst h; exact cr_sortedI
theorem ko_eqD (hu : X.A.units + 64 < cLine) (h : X.K = K := by rfl) : OpR X (compareOp .Eq) (rEqD K) := by subst h; exact op_eqD hu
theorem ko_neD (hu : X.A.units + 64 < cLine) (h : X.K = K := by rfl) : OpR X (compareOp .NotEq) (rNeD K) := by subst h; exact op_neD hu
theorem ko_in (h : X.K = K := by rfl) : OpR X (compareOp .In) (rIn K false) := by subst h; exact op_in_seq
theorem ko_notIn (h : X.K = K := by rfl) : OpR X (compareOp .NotIn) (rIn K true) := by subst h; exact op_notIn_seq
theorem km_index (h : X.K = K := by rfl) : MtR X "list.index" (rIndex K) := by subst h; exact mt_index
theorem k_fld {e : Expr} {f : Str} {pos : Pos} {ta : TE} (he : PE X e ta) (hb : attributeBase e f X.env (eval e X.env) = eval e X.env := by rfl) (h : X.K = K := by rfl) : PE X (.Attribute e f pos) (tFld K ta f) := by subst h; exact pe_fld he hb
theorem k_setf {o value : Expr} {f : Str} {pos pos' : Pos} {ta tv : TE} (ha : PE X o ta) (hv : PE X value tv) (hs : swapsWith value (some (.Attribute o f pos')) pos.line X.env = pure false := by rfl) (h : X.K = K := by rfl) : PS X (.Assign [.Attribute o f pos'] value pos) (sFld K ta tv f) := by subst h; exact ps_fld ha hv hs
theorem ki_list {tg l : Expr} {tl : TE} (hl : PE X l tl) (h : X.K = K := by rfl) : PI X tg l (iList K tl) := by subst h; exact pi_list hl
theorem ki_tup {tg l : Expr} {tl : TE} (hl : PE X l tl) (h : X.K = K := by rfl) : PI X tg l (iTup K tl) := by subst h; exact pi_tup hl
theorem ki_enum {e : Expr} {ta : TA} {p pos tpos : Pos} {elts : List Expr} {kk : Nat} (hm : X.mg "enumerate" = none) (ha : PA X [e] ta) (hg : Gl X "enumerate" := by rfl) (h : X.K = K := by rfl) (hs : starEach [e] X.env = [(false, eval e X.env)] := by rfl) :
    PI X (.Tuple elts kk tpos) (.Call (.Name "enumerate" p) [e] [] pos) (iEnum K ta) := by subst h; exact pi_enum hg hm ha hs
theorem kg_tup {es : List Expr} {k : Nat} {t : TGs} {n : Nat} {pos : Pos} (hc : X.calm = true) (h : PGs X es t) (hK : X.K = K := by rfl) (hn : (assignEach es X.env).length = n := by rfl) (hst : (assignEach es X.env).findIdx? (·.1) = none := by rfl) : PG X (.Tuple es k pos) (gTup K n t) := by subst hK; exact pg_tup hc h hn hst
theorem k_rev {e : Expr} {te : TE} {k : Nat} {p1 p2 p3 pos : Pos} (he : PE X e te) (h : X.K = K := by rfl) : PE X (.Subscript e (.Slice none none (some (.UnaryOp .USub (.Constant (.int 1) k p1) p2)) p3) pos) (tRevL K te) := by subst h; exact pe_revL he
theorem q_range {tg a : Expr} {ta : TA} {p pos : Pos} (hm : X.mg "range" = none) (ha : PA X [a] ta) (hg : Gl X "range" := by rfl) (hs : starEach [a] X.env = [(false, eval a X.env)] := by rfl) : PI X tg (.Call (.Name "range" p) [a] [] pos) (iRng1 ta) := pi_range1 hg hm ha hs
theorem k_bm {T id : String} {name : Str} {r : V → List V → Hp → VK → Prop} {o e : Expr} {es : List Expr} {to : TE} {t : TA} {apos cpos : Pos} (pa : PlainAttrs T) (slot : Slot T name id) (hty : typeOf (.builtin id) = pure (.type "method_descriptor")) (hm : MtR X id r) (ho : PE X o to) (ha : PA X (e :: es) t) (h : X.K = K := by rfl)
    (hbase : attributeBase o name X.env (eval o X.env) = eval o X.env := by rfl)
    (hfew : ((backTo cpos (starEach (e :: es) X.env)).all (fun x => !x.1) && (backToKw cpos (keywordEach [] X.env)).all (fun x => x.1.isSome) && decide ((e :: es).length + ([] : List Keyword).length + (if ([] : List Keyword).isEmpty then 0 else 1) < 30)) = true := by rfl)
    (hline : (apos.endLine == cpos.line) = true := by rfl) (hs : starEach (e :: es) X.env = (false, eval e X.env) :: starEach es X.env := by rfl) (hplain : (backTo cpos (starEach es X.env)).any (·.1) = false := by rfl) :
    PE X (.Call (.Attribute o name apos) (e :: es) [] cpos) (tBM K T r to t) := by subst h; exact pe_bm pa slot hty hm ho ha hbase hfew hline hs hplain
end
end Ws

set_option Elab.async false
set_option linter.all false
set_option maxRecDepth 100000
set_option maxHeartbeats 4000000
namespace Ws
open PySem PySem.Spec PyProof.Rows L2 HotX LamX
/-! ### dicts: their readings step by step -/
section
variable {K : PySem.W.Frag} {w : World} {σ : L2.St} {H : Hp} {Q : VK} {D : Ends}
def rDGet : V → V → Hp → VK → Prop := fun x y H Q => ∃ a v, x = .ref a ∧ DGet H a y (some v) ∧ Q v H
theorem x_dget {td ty : TE} (k : td σ H fun x H1 => ty σ H1 fun y H2 => rDGet x y H2 Q) : tDGet td ty σ H Q := k
theorem x_rdgetS {a : Addr} {kvs : List (Key × V)} {s : Str} {v : V} (h : H a = some (.dK kvs)) (e : valV kvs (Sum.inr s) = some v) (q : Q v H) : rDGet (.ref a) (.str s) H Q := ⟨a, v, rfl, .inl ⟨kvs, .inr s, .inl h, rfl, e.symm⟩, q⟩
theorem x_rdgetI {a : Addr} {kvs : List (Key × V)} {s : Int} {v : V} (h : H a = some (.dK kvs)) (e : valV kvs (Sum.inl s) = some v) (q : Q v H) : rDGet (.ref a) (.int s) H Q := ⟨a, v, rfl, .inl ⟨kvs, .inl s, .inl h, rfl, e.symm⟩, q⟩
def rDPut : V → V → V → Hp → (Hp → Prop) → Prop := fun x y v H R => ∃ a H', x = .ref a ∧ DPut H a y v H' ∧ R H'
theorem x_sdput {td ty tv : TE} (k : tv σ H fun v H1 => td σ H1 fun x H2 => ty σ H2 fun y H3 => rDPut x y v H3 (D.nx σ)) : sDPut td ty tv D σ H := k
theorem x_rdputS {a : Addr} {kvs : List (Key × V)} {s : Str} {v : V} {R : Hp → Prop} (h : H a = some (.dK kvs)) (hz : kvs.length < sizeLine) (q : R (upd H a (.dK (putK kvs (Sum.inr s) v)))) : rDPut (.ref a) (.str s) v H R := ⟨a, _, rfl, .inl ⟨kvs, .inr s, h, rfl, hz, rfl⟩, q⟩
theorem x_rdputI {a : Addr} {kvs : List (Key × V)} {s : Int} {v : V} {R : Hp → Prop} (h : H a = some (.dK kvs)) (hz : kvs.length < sizeLine) (q : R (upd H a (.dK (putK kvs (Sum.inl s) v)))) : rDPut (.ref a) (.int s) v H R := ⟨a, _, rfl, .inl ⟨kvs, .inl s, h, rfl, hz, rfl⟩, q⟩
theorem x_gsub {to ti : TE} {t : TSet} {v : V} {R : L2.St → Hp → Prop} (k : to σ H fun o H1 => ti σ H1 fun i H2 => t o i v H2 fun H3 => R σ H3) : gSub to ti t v σ H R := k
theorem x_setD {x y v : V} {R : Hp → Prop} (k : rDPut x y v H R) : rSetD x y v H R := k
theorem x_disp {trs : List (TE × TE)} (k : ∀ p, H p = none → tPairs trs σ (upd H p (.dK [])) fun ps H2 => H2 p = some (.dK []) ∧ ∃ kvs : List (Key × V), ps = kvs.map (fun kv => (kV kv.1, kv.2)) ∧ kvs.length ≤ 15 ∧ Q (.ref p) (upd H2 p (.dK (mergeK [] kvs)))) : tDisp trs σ H Q := k
theorem x_pcons {tk tv : TE} {r : List (TE × TE)} {R : List (V × V) → Hp → Prop} (k : tk σ H fun x H1 => tv σ H1 fun y H2 => tPairs r σ H2 fun ps H3 => R ((x, y) :: ps) H3) : tPairs ((tk, tv) :: r) σ H R := k
theorem x_pnil {R : List (V × V) → Hp → Prop} (k : R [] H) : tPairs [] σ H R := k
/-! what a dict of the written part holds -/
theorem kx_kd {X : Cx} (K : PySem.W.Frag) (w : World) (h : X.K = K := by rfl) (h' : X.w = w := by rfl) : IxR X (rIxD K w) := by subst h; subst h'; exact ix_kdict
theorem x_ixKD {p : Addr} {z : Str} {v : V} (h : KDct K w p z v) (k : Q v H) : rIxD K w (.ref p) (.str z) H Q := ⟨p, z, v, rfl, rfl, h, k⟩
/-! `in` a tuple or list of texts, of numbers -/
theorem inV_strs (x : Str) (ys : List Str) : inV (.str x) (ys.map V.str) = decide (x ∈ ys) := by
  unfold inV
  induction ys with
  | nil => simp
  | cons y r ih =>
    rw [List.map_cons, List.any_cons, ih]
    show ((y == x) || _) = _
    by_cases e : x = y
    · subst e; simp
    · have e' : ¬ y = x := fun z => e z.symm
      simp [e, e']
theorem inV_ints (x : Int) (ys : List Int) : inV (.int x) (ys.map V.int) = decide (x ∈ ys) := by
  unfold inV
  induction ys with
  | nil => simp
  | cons y r ih =>
    rw [List.map_cons, List.any_cons, ih]
    show ((y == x) || _) = _
    by_cases e : x = y
    · subst e; simp
    · have e' : ¬ y = x := fun z => e z.symm
      simp [e, e']
theorem flat_strs (ys : List Str) : (ys.map V.str).all flatV = true := by rw [List.all_eq_true]; intro v h; obtain ⟨s, _, rfl⟩ := List.mem_map.mp h; rfl
theorem flat_ints (ys : List Int) : (ys.map V.int).all flatV = true := by rw [List.all_eq_true]; intro v h; obtain ⟨s, _, rfl⟩ := List.mem_map.mp h; rfl
theorem x_inTS {p : Addr} (ys : List Str) {x : Str} (h : SqT K H p (ys.map V.str)) (k : Q (.bl (decide (x ∈ ys))) H) : rIn K false (.str x) (.ref p) H Q := ⟨p, _, rfl, .inr h, rfl, flat_strs ys, by rw [inV_strs]; exact k⟩
theorem x_ninTS {p : Addr} (ys : List Str) {x : Str} (h : SqT K H p (ys.map V.str)) (k : Q (.bl (!decide (x ∈ ys))) H) : rIn K true (.str x) (.ref p) H Q := ⟨p, _, rfl, .inr h, rfl, flat_strs ys, by rw [inV_strs]; exact k⟩
theorem x_inLI {p : Addr} (ys : List Int) {x : Int} (h : SqL K H p (ys.map V.int)) (k : Q (.bl (decide (x ∈ ys))) H) : rIn K false (.int x) (.ref p) H Q := ⟨p, _, rfl, .inl h, rfl, flat_ints ys, by rw [inV_ints]; exact k⟩
theorem x_ninLI {p : Addr} (ys : List Int) {x : Int} (h : SqL K H p (ys.map V.int)) (k : Q (.bl (!decide (x ∈ ys))) H) : rIn K true (.int x) (.ref p) H Q := ⟨p, _, rfl, .inl h, rfl, flat_ints ys, by rw [inV_ints]; exact k⟩
theorem x_inTI {p : Addr} (ys : List Int) {x : Int} (h : SqT K H p (ys.map V.int)) (k : Q (.bl (decide (x ∈ ys))) H) : rIn K false (.int x) (.ref p) H Q := ⟨p, _, rfl, .inr h, rfl, flat_ints ys, by rw [inV_ints]; exact k⟩
theorem x_ninTI {p : Addr} (ys : List Int) {x : Int} (h : SqT K H p (ys.map V.int)) (k : Q (.bl (!decide (x ∈ ys))) H) : rIn K true (.int x) (.ref p) H Q := ⟨p, _, rfl, .inr h, rfl, flat_ints ys, by rw [inV_ints]; exact k⟩
theorem ko_catT {X : Cx} (K : PySem.W.Frag) (h : X.K = K := by rfl) : OpR X (binaryOp .Add) (rCatT K) := by subst h; exact op_catT
theorem x_catT {a b : Addr} {xs ys : List V} (h1 : SqT K H a xs) (h2 : SqT K H b ys) (n1 : xs ≠ []) (n2 : ys ≠ []) (hz : xs.length + ys.length ≤ sizeLine) (k : ∀ p, H p = none → Q (.ref p) (upd H p (.tup (xs ++ ys)))) : rCatT K (.ref a) (.ref b) H Q := ⟨a, b, xs, ys, rfl, rfl, h1, h2, n1, hz, fun e => absurd e n2, fun _ => k⟩
end
end Ws

set_option Elab.async false
set_option linter.all false
set_option maxRecDepth 100000
set_option maxHeartbeats 4000000
namespace Ws
open PySem PySem.Spec PyProof.Rows L2 HotX LamX
/-! ### the joining of ways within a test, within an expression -/
def tTMid (t : TT) : TT := fun σ H R => ∃ M : Bool → Hp → Prop, t σ H M ∧ ∀ b H', M b H' → R b H'
theorem pt_mid {X : Cx} {e : Expr} {t : TT} (h : PT X e t) : PT X e (tTMid t) := ⟨fun pins s σ H Q I z => by
  obtain ⟨M, hm, hk⟩ := z
  refine thn (h.run pins s σ H M I hm) fun b s1 q => ?_
  obtain ⟨H', I', q⟩ := q
  exact ⟨H', I', hk b H' q⟩⟩
theorem x_tmid {t : TT} {σ : L2.St} {H : Hp} {R : Bool → Hp → Prop} (M : Bool → Hp → Prop) (h1 : t σ H M) (h2 : ∀ b H', M b H' → R b H') : tTMid t σ H R := ⟨M, h1, h2⟩
def tEMid (t : TE) : TE := fun σ H Q => ∃ M : VK, t σ H M ∧ ∀ v H', M v H' → Q v H'
theorem pe_mid {X : Cx} {e : Expr} {t : TE} (h : PE X e t) : PE X e (tEMid t) := ⟨fun pins s σ H Q I z => by
  obtain ⟨M, hm, hk⟩ := z
  refine thn (h.run pins s σ H M I hm) fun b s1 q => ?_
  obtain ⟨v, H', I', r, q⟩ := q
  exact ⟨v, H', I', r, hk v H' q⟩⟩
theorem x_emid {t : TE} {σ : L2.St} {H : Hp} {Q : VK} (M : VK) (h1 : t σ H M) (h2 : ∀ v H', M v H' → Q v H') : tEMid t σ H Q := ⟨M, h1, h2⟩
theorem x_cont {D : Ends} {σ : L2.St} {H : Hp} (k : D.ct σ H) : tCont D σ H := k
theorem x_popAt {l : Addr} {xs : List V} {i : Int} {k : Nat} {y : V} {H : Hp} {Q : VK} (h : H l = some (.lst xs)) (i0 : -(2 ^ 63) ≤ i) (i1 : i < 2 ^ 63) (e : seqIndex? i xs.length = some k) (hy : xs[k]? = some y) (q : Q y (upd H l (.lst (xs.eraseIdx k)))) : rPopAt (.ref l) [.int i] H Q := ⟨l, xs, i, k, y, rfl, rfl, h, i0, i1, e, hy, q⟩
theorem x_pop {l : Addr} {xs : List V} {y : V} {H : Hp} {Q : VK} (h : H l = some (.lst xs)) (hy : xs[xs.length - 1]? = some y) (q : Q y (upd H l (.lst xs.dropLast))) : rPop (.ref l) [] H Q := ⟨l, xs, y, rfl, rfl, h, hy, q⟩
def rDGet2 : Addr → V → V → Hp → VK → Prop := fun a y z H Q => ∃ o, DGet H a y o ∧ Q (o.getD z) H
theorem x_dget2 {td ty tx : TE} {σ : L2.St} {H : Hp} {Q : VK} (k : td σ H fun x H1 => ∃ a, x = .ref a ∧ IsD H1 a ∧ ty σ H1 fun y H2 => tx σ H2 fun z H3 => rDGet2 a y z H3 Q) : tDGet2 td ty tx σ H Q := k
theorem x_rdget2S {a : Addr} {kvs : List (Key × V)} {s : Str} {z : V} {H : Hp} {Q : VK} (h : H a = some (.dK kvs)) (q : Q ((valV kvs (Sum.inr s)).getD z) H) : rDGet2 a (.str s) z H Q := ⟨_, .inl ⟨kvs, .inr s, .inl h, rfl, rfl⟩, q⟩
theorem tyL {K : PySem.W.Frag} {H : Hp} {a : Addr} {xs : List V} (h : H a = some (.lst xs)) : tyV K "list" (.ref a) H := Or.inl ⟨rfl, _, SqL.of h⟩
end Ws

set_option Elab.async false
set_option linter.all false
set_option maxRecDepth 100000
set_option maxHeartbeats 4000000
namespace Ws
open PySem PySem.Spec PyProof.Rows L2 HotX LamX
/-! ### either of two readings -/
def rOr (r1 r2 : R2) : R2 := fun x y H Q => r1 x y H Q ∨ r2 x y H Q
theorem ix_or {X : Cx} {r1 r2 : R2} (h1 : IxR X r1) (h2 : IxR X r2) : IxR X (rOr r1 r2) := fun value slice pins s σ H x y v u Q I rv ru r e => by
  rcases r with r | r
  · exact h1 value slice pins s σ H x y v u Q I rv ru r e
  · exact h2 value slice pins s σ H x y v u Q I rv ru r e
theorem op_or {X : Cx} {f : Value → Value → Sem Value} {r1 r2 : R2} (h1 : OpR X f r1) (h2 : OpR X f r2) : OpR X f (rOr r1 r2) := fun pins s σ H x y v u Q I rv ru r => by
  rcases r with r | r
  · exact h1 pins s σ H x y v u Q I rv ru r
  · exact h2 pins s σ H x y v u Q I rv ru r
def rOr1 (r1 r2 : List V → Hp → VK → Prop) : List V → Hp → VK → Prop := fun xs H Q => r1 xs H Q ∨ r2 xs H Q
theorem cr_or {X : Cx} {f : Value} {r1 r2 : List V → Hp → VK → Prop} (h1 : CallR X f r1) (h2 : CallR X f r2) : CallR X f (rOr1 r1 r2) := fun pins s σ H xs us Q I rv r => by
  rcases r with r | r
  · exact h1 pins s σ H xs us Q I rv r
  · exact h2 pins s σ H xs us Q I rv r
def rOrS (r1 r2 : V → Option Int → Option Int → Hp → VK → Prop) : V → Option Int → Option Int → Hp → VK → Prop := fun x l h H Q => r1 x l h H Q ∨ r2 x l h H Q
theorem sl_or {X : Cx} {r1 r2 : V → Option Int → Option Int → Hp → VK → Prop} (h1 : SlR X r1) (h2 : SlR X r2) : SlR X (rOrS r1 r2) := fun pins s σ H x v vl vu lo hi sl Q I rv hs p1 p2 r => by
  rcases r with r | r
  · exact h1 pins s σ H x v vl vu lo hi sl Q I rv hs p1 p2 r
  · exact h2 pins s σ H x v vl vu lo hi sl Q I rv hs p1 p2 r
theorem kx_seq {X : Cx} (K : PySem.W.Frag) (h : X.K = K := by rfl) : IxR X (rOr (rIxL K) (rIxT K)) := ix_or (kx_list K h) (kx_tup K h)
/-! ### a row: a list or a tuple -/
def Row (K : PySem.W.Frag) (H : Hp) (a : Addr) (xs : List V) : Prop := SqL K H a xs ∨ SqT K H a xs
section
variable {K : PySem.W.Frag} {H H' : Hp} {Q : VK} {a : Addr} {xs : List V}
theorem sql_same (s : Same H H') (h : SqL K H a xs) : SqL K H' a xs := by
  rcases h with (h | ⟨o, h⟩) | h
  · exact .inl (.inl (s _ _ h))
  · exact .inl (.inr ⟨o, s _ _ h⟩)
  · exact .inr h
theorem sqt_same (s : Same H H') (h : SqT K H a xs) : SqT K H' a xs := by
  rcases h with (h | ⟨o, h⟩) | h
  · exact .inl (.inl (s _ _ h))
  · exact .inl (.inr ⟨o, s _ _ h⟩)
  · exact .inr h
theorem Row.same (s : Same H H') (h : Row K H a xs) : Row K H' a xs := h.elim (fun h => .inl (sql_same s h)) (fun h => .inr (sqt_same s h))
theorem tyx_sql (h : SqL K H a xs) : TyX K H (.ref a) (.type "list") := by
  rcases h with (h | ⟨o, h⟩) | ⟨o, its, n, h, hc, _⟩
  · exact .base (.lst h)
  · exact .base (.frz h)
  · exact .kList h hc
theorem tyx_sqt (h : SqT K H a xs) : TyX K H (.ref a) (.type "tuple") := by
  rcases h with (h | ⟨o, h⟩) | ⟨o, its, n, h, hc, _⟩
  · exact .base (.tup h)
  · exact .fTuple h
  · exact .kTuple h hc
theorem tyx_same {v : V} {t : Value} (s : Same H H') (h : TyX K H v t) : TyX K H' v t := by
  cases h with
  | base h =>
    refine .base ?_
    cases h with
    | non => exact .non
    | bl x => exact .bl x
    | int x => exact .int x
    | str x => exact .str x
    | flt x => exact .flt x
    | lst h => exact .lst (s _ _ h)
    | frz h => exact .frz (s _ _ h)
    | tup h => exact .tup (s _ _ h)
    | dK h => exact .dK (s _ _ h)
    | dT h => exact .dT (s _ _ h)
    | ins h h1 h2 h3 h4 h5 => exact .ins (s _ _ h) h1 h2 h3 h4 h5
  | byt b => exact .byt b
  | set h => exact .set (s _ _ h)
  | kList h1 h2 => exact .kList h1 h2
  | kTuple h1 h2 => exact .kTuple h1 h2
  | kDict h1 h2 => exact .kDict h1 h2
  | fTuple h => exact .fTuple (s _ _ h)
  | fDict h => exact .fDict (s _ _ h)
theorem Ty7.same {v : V} (s : Same H H') (h : Ty7 K H v) : Ty7 K H' v := by
  obtain ⟨T, h1, h2⟩ := h
  exact ⟨T, h1, tyx_same s h2⟩
theorem kit_lt {T : String} (h : T ∈ tyN) : PySem.W.kitAny K (.type T) [.type "list", .type "tuple"] = some (T == "list" || T == "tuple") := by
  have h1 := kit_ty (K := K) (kb_list T h)
  have h2 := kit_ty (K := K) (kb_tuple T h)
  unfold PySem.W.kitAny
  rw [h1]
  cases e : (T == "list") with
  | true => rfl
  | false =>
    show (match some false with | some true => some true | some false => PySem.W.kitAny K (.type T) [.type "tuple"] | none => none) = _
    show PySem.W.kitAny K (.type T) [.type "tuple"] = _
    unfold PySem.W.kitAny
    rw [h2]
    cases e2 : (T == "tuple") with
    | true => rfl
    | false => rfl
theorem x_isLT {v : V} {T : String} {tp : Addr} (h : T ∈ tyN) (ht : TyX K H v (.type T)) (hp : H tp = some (.tup [.ty "list", .ty "tuple"])) (q : Q (.bl (T == "list" || T == "tuple")) H) : rIsiT K [v, .ref tp] H Q :=
  ⟨v, tp, _, .type T, _, _, rfl, hp, .cons (.ty _) (.cons (.ty _) .nil), ht, kit_lt h, q⟩
theorem x_lenR (h : Row K H a xs) (k : Q (.int xs.length) H) : rLn K [.ref a] H Q := ⟨a, xs, rfl, h, k⟩
theorem x_ixR {i : Int} {v : V} (h : Row K H a xs) (hi : atI xs i = some v) (k : Q v H) : rOr (rIxL K) (rIxT K) (.ref a) (.int i) H Q := by
  rcases h with h | h
  · exact .inl (x_ixL h hi k)
  · exact .inr (x_ixT h hi k)
theorem Row.ty (h : Row K H a xs) : ∃ T ∈ tyN, TyX K H (.ref a) (.type T) ∧ (T == "list" || T == "tuple") = true := by
  rcases h with h | h
  · exact ⟨"list", by decide, tyx_sql h, rfl⟩
  · exact ⟨"tuple", by decide, tyx_sqt h, rfl⟩
end
/-! ### while -/
theorem x_while {c : TT} {tb : TS} {D : Ends} {σ : L2.St} {H : Hp} (Pv : Nat → L2.St → Hp → Prop) (m : Nat) (h0 : Pv m σ H)
    (hs : ∀ m σ H, Pv m σ H → c σ H fun b H1 => if b = true then ∃ N, (∀ σ' H', N σ' H' → ∃ m', m' < m ∧ Pv m' σ' H') ∧ tb { nx := N, rt := D.rt, bk := D.nx, ct := N } σ H1 else D.nx σ H1) : tWhile c tb D σ H :=
  ⟨Pv, ⟨m, h0⟩, hs⟩
theorem x_wb {tb : TS} {D : Ends} {σ : L2.St} {H1 : Hp} {Pv : Nat → L2.St → Hp → Prop} {m : Nat} (k : tb { nx := fun σ' H' => ∃ m', m' < m ∧ Pv m' σ' H', rt := D.rt, bk := D.nx, ct := fun σ' H' => ∃ m', m' < m ∧ Pv m' σ' H' } σ H1) :
    ∃ N, (∀ σ' H', N σ' H' → ∃ m', m' < m ∧ Pv m' σ' H') ∧ tb { nx := N, rt := D.rt, bk := D.nx, ct := N } σ H1 := ⟨_, fun _ _ q => q, k⟩
end Ws

set_option Elab.async false
set_option linter.all false
set_option maxRecDepth 100000
set_option maxHeartbeats 4000000
namespace Ws
open PySem PySem.Spec PyProof.Rows L2 HotX LamX
theorem sIx_neg1 (n d : Nat) : HT.sIx n d (some (-1)) = n - 1 := by
  unfold HT.sIx
  simp
  omega
theorem cut_dl (xs : List V) : cutV xs none (some (-1)) = xs.dropLast := by
  unfold cutV
  rw [HT.sIx_none, sIx_neg1, List.drop_zero, Nat.sub_zero, List.dropLast_eq_take]
theorem cut_last (xs : List V) : cutV xs (some (-1)) none = xs.drop (xs.length - 1) := by
  unfold cutV
  rw [HT.sIx_none, sIx_neg1]
  rw [List.take_of_length_le (by rw [List.length_drop]; omega)]
section
variable {D : Ends} {σ : L2.St} {H : Hp} {g : TG} {tb : TS}
theorem x_rforRi {j : Int} (b1 : -(2 ^ 62) ≤ j) (b2 : j < 2 ^ 62) (Pv : Nat → L2.St → Hp → Prop) (h0 : Pv 0 σ H)
    (hs : ∀ (i : Nat) σ H, i < j.toNat → Pv i σ H → g (.int i) σ H fun σ2 H2 => tb { D with nx := Pv (i + 1), ct := Pv (i + 1), bk := D.nx } σ2 H2) (hd : ∀ σ H, Pv j.toNat σ H → D.nx σ H) : rForR g tb D σ [.int j] H :=
  ⟨j, rfl, b1, b2, for_range Pv h0 (fun i σ H hi p => by rw [Int.zero_add]; exact hs i σ H hi p) hd⟩
end
end Ws

set_option Elab.async false
set_option linter.all false
set_option maxRecDepth 100000
set_option maxHeartbeats 4000000
namespace Ws
open PySem PySem.Spec PyProof.Rows L2 HotX LamX
/-! ### texts: comprehensions over their signs, in, index, join -/
section
variable {K : PySem.W.Frag} {g : TG} {tt : TT} {te : TE} {vs : List Nat} {σ : L2.St} {H : Hp} {Q : VK}
def rLcS (g : TG) (tt : TT) (te : TE) (vs : List Nat) (σ : L2.St) (x : V) (H : Hp) (Q : VK) : Prop := ∃ z, x = .str z ∧ LcOut (Its z) g tt te vs σ H Q
theorem x_lcS {tl : TE} (k : tl σ H fun x H1 => rLcS g tt te vs σ x H1 Q) : tLc (iStr tl) g tt te vs σ H Q := k
theorem x_rlcS {z : Str} (R : Nat → List V → Hp → Prop) (h0 : ∀ H1, SameT H H1 → R 0 [] H1)
    (hs : ∀ D (i : Nat) (c : Nat) acc H1, z.cps[i]? = some c → LcI H R D i acc H1 → g (.str ⟨#[c]⟩) (wipe σ vs) H1 fun σ2 H2 => wipe σ2 vs = wipe σ vs ∧ tt σ2 H2 fun b H3 => if b = true then te σ2 H3 fun y H4 => LcY H R D i y H4 else LcN H R D i H3)
    (hd : ∀ p H1 acc, H p = none → Same H H1 → H1 p = some (.lst acc) → R z.cps.size acc H1 → Q (.ref p) H1) : rLcS g tt te vs σ (.str z) H Q := by
  refine ⟨_, rfl, fun D hD => ?_⟩
  refine ⟨fun i m H1 => m = z.cps.size - i ∧ i ≤ z.cps.size ∧ ∃ acc, LcI H R D i acc H1, ⟨z.cps.size, by simp, Nat.zero_le _, [], hD, same_upd hD, upd_same, Nat.le_refl _, h0 _ (same_t (same_upd hD))⟩, ?_⟩
  rintro i m H1 ⟨rfl, hi, acc, I⟩
  by_cases hlt : i < z.cps.size
  · refine .inr ⟨hlt, LcN H R D i, fun H' ⟨acc', I'⟩ => ⟨z.cps.size - (i + 1), by omega, rfl, hlt, acc', I'⟩, fun x H' y => ?_⟩
    obtain ⟨rfl, c, hc, rfl⟩ := y
    exact hs D i c acc _ hc I
  · have e : i = z.cps.size := by omega
    subst e
    exact .inl ⟨Nat.le_refl _, hd D H1 acc I.new I.same I.at_ I.r⟩
def rInSg : R2 := fun x y H Q => ∃ (c : Nat) (z : Str), x = .str ⟨#[c]⟩ ∧ y = .str z ∧ Q (.bl (decide (c ∈ z.cps.toList))) H
theorem ko_inSg {X : Cx} : OpR X (compareOp .In) rInSg := op_in_sign
theorem x_inSg {c : Nat} {z : Str} (k : Q (.bl (decide (c ∈ z.cps.toList))) H) : rInSg (.str ⟨#[c]⟩) (.str z) H Q := ⟨c, z, rfl, rfl, k⟩
theorem x_ord1 {c : Nat} (k : Q (.int c) H) : rOrd [.str ⟨#[c]⟩] H Q := ⟨_, rfl, rfl, k⟩
theorem kx_str {X : Cx} : IxR X rIxS := ix_str
theorem x_ixS {z : Str} {i : Int} {c : Nat} (hz : z.length ≤ sizeLine) (h : atI z.cps.toList i = some c) (k : Q (.str ⟨#[c]⟩) H) : rIxS (.str z) (.int i) H Q := ⟨z, i, c, rfl, rfl, hz, h, k⟩
def rJn (K : PySem.W.Frag) : V → List V → Hp → VK → Prop := fun x xs H Q => ∃ a p, ∃ ys : List Str, x = .str a ∧ xs = [.ref p] ∧ (SqL K H p (ys.map V.str) ∨ SqT K H p (ys.map V.str)) ∧ (ys.map (·.length)).sum + ys.length * a.length ≤ 16777216 ∧ Q (.str (Txt.join a ys)) H
theorem k_join {X : Cx} (K : PySem.W.Frag) {o e : Expr} {to te : TE} {apos pos : Pos} (ho : PE X o to) (he : PE X e te) (h : X.K = K := by rfl) (h1 : starEach [e] X.env = [(false, eval e X.env)] := by rfl) (h2 : attributeBase o "join" X.env (eval o X.env) = eval o X.env := by rfl) (h3 : (apos.endLine == pos.line) = true := by rfl) :
    PE X (.Call (.Attribute o "join" apos) [e] [] pos) (tM1 (rJn K) to te) := by subst h; exact pe_join ho he h1 h2 h3
theorem x_m1 {r : V → List V → Hp → VK → Prop} {to te : TE} (k : to σ H fun x H1 => (∃ a, x = .str a) ∧ te σ H1 fun y H2 => r x [y] H2 Q) : tM1 r to te σ H Q := k
abbrev sgs (cs : List Nat) : List Str := cs.map fun c => ⟨#[c]⟩
theorem glue_fold : ∀ (cs : List Nat) (a : Array Nat), List.foldl (fun acc (p : Str) => acc ++ (#[] : Array Nat) ++ p.cps) a (sgs cs) = a ++ cs.toArray
  | [], a => by simp
  | c :: cs, a => by
    rw [show sgs (c :: cs) = ⟨#[c]⟩ :: sgs cs from rfl, List.foldl_cons, glue_fold cs]
    simp
theorem glued_sgs (cs : List Nat) : Txt.join Str.empty (sgs cs) = ⟨cs.toArray⟩ := by
  show (⟨_⟩ : Str) = _
  cases cs with
  | nil => rfl
  | cons c cs =>
    show (⟨List.foldl (fun acc (p : Str) => acc ++ (#[] : Array Nat) ++ p.cps) #[c] (sgs cs)⟩ : Str) = _
    rw [glue_fold]
    simp
theorem sgs_len (cs : List Nat) : ((sgs cs).map (·.length)).sum = cs.length := by
  induction cs with
  | nil => rfl
  | cons c cs ih => rw [show sgs (c :: cs) = ⟨#[c]⟩ :: sgs cs from rfl, List.map_cons, List.sum_cons, ih, List.length_cons]; show 1 + _ = _; omega
theorem x_join {p : Addr} (cs : List Nat) {e : Str} (he : e = Str.empty) (h : SqL K H p ((sgs cs).map V.str)) (hz : cs.length ≤ 100000) (k : Q (.str ⟨cs.toArray⟩) H) : rJn K (.str e) [.ref p] H Q := by
  subst he
  refine ⟨Str.empty, p, sgs cs, rfl, rfl, .inl h, ?_, by rw [glued_sgs]; exact k⟩
  rw [sgs_len]
  show cs.length + _ * 0 ≤ _
  omega
/-! `in` a dict of numbers, of a number or of None -/
def rDInN : V → V → Hp → VK → Prop := fun y x H Q => (∃ a o, x = .ref a ∧ DGet H a y o ∧ Q (.bl o.isSome) H) ∨ ∃ a kvs, x = .ref a ∧ y = .non ∧ Rd H a (.dK kvs) ∧ Q (.bl false) H
theorem x_dinN {ty td : TE} (k : ty σ H fun y H1 => td σ H1 fun x H2 => rDInN y x H2 Q) : tDInN ty td σ H Q := k
theorem x_rdinI {a : Addr} {kvs : List (Key × V)} {i : Int} (h : H a = some (.dK kvs)) (k : Q (.bl (valV kvs (Sum.inl i)).isSome) H) : rDInN (.int i) (.ref a) H Q := .inl ⟨a, _, rfl, .inl ⟨kvs, .inl i, .inl h, rfl, rfl⟩, k⟩
theorem x_rdin0 {a : Addr} {kvs : List (Key × V)} (h : H a = some (.dK kvs)) (k : Q (.bl false) H) : rDInN .non (.ref a) H Q := .inr ⟨a, kvs, rfl, rfl, .inl h, k⟩
def rDin : V → V → Hp → VK → Prop := fun y x H Q => ∃ a o, x = .ref a ∧ DGet H a y o ∧ Q (.bl o.isSome) H
theorem x_din {ty td : TE} (k : ty σ H fun y H1 => td σ H1 fun x H2 => rDin y x H2 Q) : tDIn ty td σ H Q := k
theorem x_rdin {a : Addr} {kvs : List (Key × V)} {i : Int} (h : H a = some (.dK kvs)) (k : Q (.bl (valV kvs (Sum.inl i)).isSome) H) : rDin (.int i) (.ref a) H Q := ⟨a, _, rfl, .inl ⟨kvs, .inl i, .inl h, rfl, rfl⟩, k⟩
/-! dict(pairs) -/
def rDctP (K : PySem.W.Frag) : List V → Hp → VK → Prop := fun xs H Q => ∃ (a : Addr) (ps : List Addr) (kvs : List (Key × V)), xs = [.ref a] ∧ SqL K H a (ps.map V.ref) ∧ Paired (fun p kv => SqT K H p [kV kv.1, kv.2]) ps kvs ∧ ∀ p, H p = none → Q (.ref p) (upd H p (.dK (mergeK [] kvs)))
theorem kc_dict {X : Cx} (K : PySem.W.Frag) (hc : X.calm = true) (h : X.K = K := by rfl) : CallR X (.type "dict") (rDctP K) := by subst h; exact call_dictP hc
end
end Ws

set_option Elab.async false
set_option linter.all false
set_option maxRecDepth 100000
set_option maxHeartbeats 4000000
namespace Mi
open PySem PySem.Spec PyProof.Rows L2 HotX LamX Ws
/-- a test that is never reckoned, only shown -/
noncomputable def cB (p : Prop) : Bool := @decide p (Classical.propDecidable p)
theorem cB_iff {p : Prop} : (cB p = true) ↔ p := by unfold cB; exact @decide_eq_true_iff p (Classical.propDecidable p)
theorem cB_eq {p : Prop} [h : Decidable p] : cB p = decide p := by
  by_cases z : p
  · rw [cB_iff.mpr z, decide_eq_true z]
  · rw [decide_eq_false z]
    cases q : cB p with
    | true => exact absurd (cB_iff.mp q) z
    | false => rfl
theorem cB_t {p : Prop} (h : p) : cB p = true := cB_iff.mpr h
theorem cB_f {p : Prop} (h : ¬ p) : cB p = false := by
  cases q : cB p with
  | true => exact absurd (cB_iff.mp q) h
  | false => rfl
/-! ### data without addresses; what may be written stands in a list of things, told by its place there -/
inductive D where
  | non | bl (b : Bool) | int (i : Int) | str (s : Str) | tup (xs : List D) | lst (xs : List D) | frz (xs : List D) | ref (h : Nat)
  deriving Inhabited
inductive Ob where
  | lst (xs : List D) | dct (kvs : List (Key × D)) | ins (c : Nat) (fs : List (Str × D)) | dlk (kvs : List (Key × D)) (o : HO)
  deriving Inhabited
abbrev Env := List (Option D)
abbrev Own := List Ob
structure Cn where
  K : PySem.W.Frag
  cl : Nat → Addr
  ec : Nat → Addr
  Tb : List (Addr × Str)
  hid : List Addr
/-- the heap without what may be written, and without what is hidden -/
def fz (C : Cn) (ι : List Addr) (H : Hp) : Hp := fun a => if a ∈ ι ∨ a ∈ C.hid then none else H a
mutual
inductive Rp (K : PySem.W.Frag) (ω : Hp) (ι : List Addr) : V → D → Prop
  | non : Rp K ω ι .non .non
  | bl (b : Bool) : Rp K ω ι (.bl b) (.bl b)
  | int (i : Int) : Rp K ω ι (.int i) (.int i)
  | str (x : Str) : Rp K ω ι (.str x) (.str x)
  | ref {h : Nat} {a : Addr} : ι[h]? = some a → Rp K ω ι (.ref a) (.ref h)
  | tup {a : Addr} {vs : List V} {ds : List D} : SqT K ω a vs → RpAll K ω ι vs ds → Rp K ω ι (.ref a) (.tup ds)
  | lst {a : Addr} {vs : List V} {ds : List D} : ω a = some (.lst vs) → RpAll K ω ι vs ds → Rp K ω ι (.ref a) (.lst ds)
  | frz {a : Addr} {vs : List V} {ds : List D} : SqL K ω a vs → RpAll K ω ι vs ds → Rp K ω ι (.ref a) (.frz ds)
inductive RpAll (K : PySem.W.Frag) (ω : Hp) (ι : List Addr) : List V → List D → Prop
  | nil : RpAll K ω ι [] []
  | cons {v : V} {vs : List V} {d : D} {ds : List D} : Rp K ω ι v d → RpAll K ω ι vs ds → RpAll K ω ι (v :: vs) (d :: ds)
end
/-- what is read stays: all but the tables -/
def Sub (ω ω' : Hp) : Prop := ∀ a o, ω a = some o → (∀ ps, o ≠ .tbl ps) → ω' a = some o
theorem Sub.refl {ω : Hp} : Sub ω ω := fun _ _ h _ => h
theorem Sub.trans {a b c : Hp} (h : Sub a b) (h' : Sub b c) : Sub a c := fun p o e n => h' p o (h p o e n) n
theorem sqt_sub {K : PySem.W.Frag} {ω ω' : Hp} {a : Addr} {xs : List V} (s : Sub ω ω') (h : SqT K ω a xs) : SqT K ω' a xs := by
  rcases h with (h | ⟨o, h⟩) | h
  · exact .inl (.inl (s _ _ h (fun _ z => nomatch z)))
  · exact .inl (.inr ⟨o, s _ _ h (fun _ z => nomatch z)⟩)
  · exact .inr h
theorem sql_sub {K : PySem.W.Frag} {ω ω' : Hp} {a : Addr} {xs : List V} (s : Sub ω ω') (h : SqL K ω a xs) : SqL K ω' a xs := by
  rcases h with (h | ⟨o, h⟩) | h
  · exact .inl (.inl (s _ _ h (fun _ z => nomatch z)))
  · exact .inl (.inr ⟨o, s _ _ h (fun _ z => nomatch z)⟩)
  · exact .inr h
theorem fz_sub {C : Cn} {ι : List Addr} {H : Hp} : Sub (fz C ι H) H := fun a o e _ => by
  unfold fz at e
  split at e
  · cases e
  · exact e
section
variable {K : PySem.W.Frag} {ω ω' : Hp} {ι ι' : List Addr}
mutual
theorem Rp.mono (s : Sub ω ω') (p : ι <+: ι') {v : V} {d : D} : Rp K ω ι v d → Rp K ω' ι' v d
  | .non => .non
  | .bl b => .bl b
  | .int i => .int i
  | .str x => .str x
  | .ref h => .ref (by
      obtain ⟨r, rfl⟩ := p
      rw [List.getElem?_append_left (List.getElem?_eq_some_iff.mp h).1]
      exact h)
  | .tup h a => .tup (sqt_sub s h) (RpAll.mono s p a)
  | .lst h a => .lst (s _ _ h (fun _ z => nomatch z)) (RpAll.mono s p a)
  | .frz h a => .frz (sql_sub s h) (RpAll.mono s p a)
theorem RpAll.mono (s : Sub ω ω') (p : ι <+: ι') {vs : List V} {ds : List D} : RpAll K ω ι vs ds → RpAll K ω' ι' vs ds
  | .nil => .nil
  | .cons h t => .cons (Rp.mono s p h) (RpAll.mono s p t)
end
theorem RpAll.len {vs : List V} {ds : List D} (h : RpAll K ω ι vs ds) : vs.length = ds.length := by
  induction vs generalizing ds with
  | nil => cases h; rfl
  | cons v vs ih => cases h with | cons a b => simp [ih b]
theorem RpAll.get {vs : List V} {ds : List D} (h : RpAll K ω ι vs ds) {i : Nat} {d : D} (e : ds[i]? = some d) : ∃ v, vs[i]? = some v ∧ Rp K ω ι v d := by
  induction vs generalizing ds i with
  | nil => cases h; simp at e
  | cons v vs ih =>
    cases h with
    | cons a b =>
      cases i with
      | zero => simp at e; subst e; exact ⟨v, rfl, a⟩
      | succ i => simp at e; simpa using ih b e
theorem RpAll.getV {vs : List V} {ds : List D} (h : RpAll K ω ι vs ds) {i : Nat} {v : V} (e : vs[i]? = some v) : ∃ d, ds[i]? = some d ∧ Rp K ω ι v d := by
  have hl : i < ds.length := by rw [← h.len]; exact (List.getElem?_eq_some_iff.mp e).1
  obtain ⟨v', e', r⟩ := h.get (List.getElem?_eq_getElem hl)
  rw [e] at e'
  cases e'
  exact ⟨_, List.getElem?_eq_getElem hl, r⟩
theorem RpAll.append {vs ws : List V} {ds es : List D} (h : RpAll K ω ι vs ds) (h' : RpAll K ω ι ws es) : RpAll K ω ι (vs ++ ws) (ds ++ es) := by
  induction vs generalizing ds with
  | nil => cases h; exact h'
  | cons v vs ih => cases h with | cons a b => exact .cons a (ih b)
theorem RpAll.take {vs : List V} {ds : List D} (h : RpAll K ω ι vs ds) (n : Nat) : RpAll K ω ι (vs.take n) (ds.take n) := by
  induction vs generalizing ds n with
  | nil => cases h; simp; exact .nil
  | cons v vs ih => cases h with | cons a b => cases n with
    | zero => exact .nil
    | succ n => exact .cons a (ih b n)
theorem RpAll.drop {vs : List V} {ds : List D} (h : RpAll K ω ι vs ds) (n : Nat) : RpAll K ω ι (vs.drop n) (ds.drop n) := by
  induction vs generalizing ds n with
  | nil => cases h; simp; exact .nil
  | cons v vs ih => cases h with | cons a b => cases n with
    | zero => exact .cons a b
    | succ n => exact ih b n
theorem RpAll.set {vs : List V} {ds : List D} (h : RpAll K ω ι vs ds) {v : V} {d : D} (r : Rp K ω ι v d) (n : Nat) : RpAll K ω ι (vs.set n v) (ds.set n d) := by
  induction vs generalizing ds n with
  | nil => cases h; exact .nil
  | cons w vs ih => cases h with | cons a b => cases n with
    | zero => exact .cons r b
    | succ n => exact .cons a (ih b n)
theorem RpAll.reverse {vs : List V} {ds : List D} (h : RpAll K ω ι vs ds) : RpAll K ω ι vs.reverse ds.reverse := by
  induction vs generalizing ds with
  | nil => cases h; exact .nil
  | cons w vs ih => cases h with | cons a b => simpa using (ih b).append (.cons a .nil)
theorem RpAll.one {v : V} {d : D} (r : Rp K ω ι v d) : RpAll K ω ι [v] [d] := .cons r .nil
theorem RpAll.ints : ∀ ns : List Int, RpAll K ω ι (ns.map V.int) (ns.map D.int)
  | [] => .nil
  | n :: r => .cons (.int n) (RpAll.ints r)
theorem RpAll.strs : ∀ ns : List Str, RpAll K ω ι (ns.map V.str) (ns.map D.str)
  | [] => .nil
  | n :: r => .cons (.str n) (RpAll.strs r)
/-- fields, entries: the same names, each read -/
def RpKV {κ : Type} (K : PySem.W.Frag) (ω : Hp) (ι : List Addr) (fs : List (κ × V)) (gs : List (κ × D)) : Prop := Paired (fun p q => p.1 = q.1 ∧ Rp K ω ι p.2 q.2) fs gs
theorem RpKV.mono {κ : Type} (s : Sub ω ω') (p : ι <+: ι') {fs : List (κ × V)} {gs : List (κ × D)} (h : RpKV K ω ι fs gs) : RpKV K ω' ι' fs gs := Paired.mapP h fun _ _ z => ⟨z.1, z.2.mono s p⟩
theorem RpKV.len {κ : Type} {fs : List (κ × V)} {gs : List (κ × D)} (h : RpKV K ω ι fs gs) : fs.length = gs.length := Paired.length h
end
def ObR (C : Cn) (ω : Hp) (ι : List Addr) (H : Hp) (a : Addr) : Ob → Prop
  | .lst ds => ∃ vs, H a = some (.lst vs) ∧ RpAll C.K ω ι vs ds
  | .dct kvs => ∃ kvs', H a = some (.dK kvs') ∧ RpKV C.K ω ι kvs' kvs
  | .ins c fs => ∃ dx fs', H a = some (.ins (C.cl c) dx fs') ∧ RpKV C.K ω ι fs' fs
  | .dlk kvs o => ∃ od kvs', o = .frz od (.dK kvs') ∧ H a = some o ∧ RpKV C.K ω ι kvs' kvs
structure Rel (C : Cn) (ι : List Addr) (own : Own) (H : Hp) : Prop where
  nd : ι.Nodup
  len : ι.length = own.length
  ob : ∀ (i : Nat) (a : Addr) (o : Ob), ι[i]? = some a → own[i]? = some o → ObR C (fz C ι H) ι H a o
  tabs : Tabs C.Tb H
  hidN : ∀ a ∈ C.hid, ∃ vs, H a = some (.lst vs)
  hidD : ∀ a ∈ C.hid, a ∉ ι
structure RelE (K : PySem.W.Frag) (ω : Hp) (ι : List Addr) (σ : L2.St) (env : Env) : Prop where
  len : σ.length = env.length
  at_ : ∀ (i : Nat) (d : D), env[i]? = some (some d) → ∃ v, σ[i]? = some (some v) ∧ Rp K ω ι v d
theorem RelE.mono {K : PySem.W.Frag} {ω ω' : Hp} {ι ι' : List Addr} {σ : L2.St} {env : Env} (s : Sub ω ω') (p : ι <+: ι') (h : RelE K ω ι σ env) : RelE K ω' ι' σ env := ⟨h.len, fun i d e => by
  obtain ⟨v, e1, r⟩ := h.at_ i d e
  exact ⟨v, e1, r.mono s p⟩⟩
theorem RelE.set {K : PySem.W.Frag} {ω : Hp} {ι : List Addr} {σ : L2.St} {env : Env} (h : RelE K ω ι σ env) (i : Nat) {v : V} {d : D} (r : Rp K ω ι v d) : RelE K ω ι (σ.set i (some v)) (env.set i (some d)) := ⟨by simp [h.len], fun j d' e => by
  by_cases hj : i = j
  · subst hj
    by_cases hi : i < env.length
    · rw [List.getElem?_set_self hi] at e
      cases e
      exact ⟨v, by rw [List.getElem?_set_self (by rw [h.len]; exact hi)], r⟩
    · rw [List.getElem?_eq_none (by simpa using hi)] at e; cases e
  · rw [List.getElem?_set_ne hj] at e ⊢
    exact h.at_ j d' e⟩
/-- forgetting -/
def wipeD (env : Env) : List Nat → Env
  | [] => env
  | v :: vs => (wipeD env vs).set v none
theorem wipeD_length (env : Env) : ∀ vs : List Nat, (wipeD env vs).length = env.length
  | [] => rfl
  | v :: vs => by unfold wipeD; rw [List.length_set, wipeD_length env vs]
theorem wipeD_some {env : Env} {i : Nat} {d : D} : ∀ {vs : List Nat}, (wipeD env vs)[i]? = some (some d) → env[i]? = some (some d) ∧ i ∉ vs
  | [], h => ⟨h, by simp⟩
  | v :: vs, h => by
    unfold wipeD at h
    by_cases hi : v = i
    · subst hi
      by_cases hv : v < (wipeD env vs).length
      · rw [List.getElem?_set_self hv] at h; cases h
      · rw [List.getElem?_eq_none (by simpa using hv)] at h; cases h
    · rw [List.getElem?_set_ne hi] at h
      obtain ⟨h1, h2⟩ := wipeD_some h
      exact ⟨h1, by simp only [List.mem_cons, not_or]; exact ⟨fun e => hi e.symm, h2⟩⟩
theorem wipe_get {σ : L2.St} {i : Nat} : ∀ {vs : List Nat}, i ∉ vs → (wipe σ vs)[i]? = σ[i]?
  | [], _ => rfl
  | v :: vs, h => by
    simp only [List.mem_cons, not_or] at h
    unfold wipe
    rw [List.getElem?_set_ne (fun e => h.1 e.symm), wipe_get h.2]
theorem RelE.wipe {K : PySem.W.Frag} {ω : Hp} {ι : List Addr} {σ : L2.St} {env : Env} (h : RelE K ω ι σ env) (vs : List Nat) : RelE K ω ι (L2.wipe σ vs) (wipeD env vs) := ⟨by rw [wipe_length, wipeD_length, h.len], fun i d e => by
  obtain ⟨e1, e2⟩ := wipeD_some e
  rw [wipe_get e2]
  exact h.at_ i d e1⟩
theorem RelE.forget {K : PySem.W.Frag} {ω : Hp} {ι : List Addr} {σ : L2.St} {env : Env} (h : RelE K ω ι σ env) (vs : List Nat) : RelE K ω ι σ (wipeD env vs) := ⟨by rw [wipeD_length, h.len], fun i d e => h.at_ i d (wipeD_some e).1⟩
/-! ### how a run ends -/
inductive R (α : Type) where
  | ok (a : α) (own : Own) | exc (c : Nat) (own : Own) | bad
abbrev M (α : Type) := Env → Own → R α
def R.bind {α β : Type} (r : R α) (k : α → Own → R β) : R β := match r with
  | .ok a o => k a o
  | .exc c o => .exc c o
  | .bad => .bad
/-- the state grew -/
structure Gr (C : Cn) (ι : List Addr) (H : Hp) (ι' : List Addr) (H' : Hp) : Prop where
  pre : ι <+: ι'
  sub : Sub (fz C ι H) (fz C ι' H')
  hid : ∀ a ∈ C.hid, H' a = H a
theorem Gr.refl {C : Cn} {ι : List Addr} {H : Hp} : Gr C ι H ι H := ⟨List.prefix_refl _, .refl, fun _ _ => rfl⟩
theorem Gr.trans {C : Cn} {a b c : List Addr} {H H1 H2 : Hp} (h : Gr C a H b H1) (h' : Gr C b H1 c H2) : Gr C a H c H2 := ⟨h.pre.trans h'.pre, h.sub.trans h'.sub, fun a ha => (h'.hid a ha).trans (h.hid a ha)⟩
/-- how a value is read -/
abbrev Rd3 (β α : Type) := Hp → List Addr → β → α → Prop
def Post {α β : Type} (rep : Rd3 β α) (C : Cn) (E : XK) (ι : List Addr) (H : Hp) (r : R α) (Q : β → Hp → Prop) : Prop := match r with
  | .ok d own' => ∀ v ι' H', Gr C ι H ι' H' → Rel C ι' own' H' → rep (fz C ι' H') ι' v d → Q v H'
  | .exc c own' => c < 6 ∧ ∀ ι' H', Gr C ι H ι' H' → Rel C ι' own' H' → E (.ref (C.ec c)) none H'
  | .bad => False
theorem Post.gr {α β : Type} {rep : Rd3 β α} {C : Cn} {E : XK} {ι ι' : List Addr} {H H' : Hp} {r : R α} {Q : β → Hp → Prop} (h : Post rep C E ι H r Q) (g : Gr C ι H ι' H') : Post rep C E ι' H' r Q := by
  cases r with
  | ok d o => exact fun v ι2 H2 g2 rl rp => h v ι2 H2 (g.trans g2) rl rp
  | exc c o => exact ⟨h.1, fun ι2 H2 g2 rl => h.2 ι2 H2 (g.trans g2) rl⟩
  | bad => exact h
theorem Post.imp {α β : Type} {rep : Rd3 β α} {C : Cn} {E : XK} {ι : List Addr} {H : Hp} {r : R α} {Q Q' : β → Hp → Prop} (h : Post rep C E ι H r Q) (q : ∀ v H', Q v H' → Q' v H') : Post rep C E ι H r Q' := by
  cases r with
  | ok d o => exact fun v ι2 H2 g2 rl rp => q _ _ (h v ι2 H2 g2 rl rp)
  | exc c o => exact h
  | bad => exact h
theorem Post.bind {α β α' β' : Type} {rep : Rd3 β α} {rep' : Rd3 β' α'} {C : Cn} {E : XK} {ι : List Addr} {H : Hp} {r : R α} {k : α → Own → R α'} {Q : β' → Hp → Prop} (h : Post rep' C E ι H (r.bind k) Q) :
    Post rep C E ι H r fun v H' => ∃ ι' own' a, Gr C ι H ι' H' ∧ Rel C ι' own' H' ∧ rep (fz C ι' H') ι' v a ∧ Post rep' C E ι' H' (k a own') Q := by
  cases r with
  | ok d o => exact fun v ι2 H2 g2 rl rp => ⟨ι2, o, d, g2, rl, rp, Post.gr (show Post rep' C E ι H (k d o) Q from h) g2⟩
  | exc c o => exact h
  | bad => exact h
/-- what is wanted of a run from here: the things, the names, the heap -/
structure At (C : Cn) (ι : List Addr) (env : Env) (own : Own) (σ : L2.St) (H : Hp) : Prop where
  e : RelE C.K (fz C ι H) ι σ env
  r : Rel C ι own H
theorem At.go {C : Cn} {ι ι' : List Addr} {env : Env} {own own' : Own} {σ : L2.St} {H H' : Hp} (a : At C ι env own σ H) (g : Gr C ι H ι' H') (r : Rel C ι' own' H') : At C ι' env own' σ H' := ⟨a.e.mono g.sub g.pre, r⟩
def lf {α β : Type} (rep : Rd3 β α) (C : Cn) (E : XK) (m : M α) : L2.St → Hp → (β → Hp → Prop) → Prop := fun σ H Q => ∃ ι env own, At C ι env own σ H ∧ Post rep C E ι H (m env own) Q
abbrev rV (K : PySem.W.Frag) : Rd3 V D := Rp K
abbrev rVs (K : PySem.W.Frag) : Rd3 (List V) (List D) := RpAll K
abbrev rBo : Rd3 Bool Bool := fun _ _ b c => b = c
abbrev rOi : Rd3 (Option Int) (Option Int) := fun _ _ b c => b = c
abbrev lE (C : Cn) (E : XK) (m : M D) : TE := lf (rV C.K) C E m
abbrev lT (C : Cn) (E : XK) (m : M Bool) : TT := lf rBo C E m
abbrev lA (C : Cn) (E : XK) (m : M (List D)) : TA := lf (rVs C.K) C E m
abbrev lO (C : Cn) (E : XK) (m : M (Option Int)) : L2.St → Hp → (Option Int → Hp → Prop) → Prop := lf rOi C E m
def mB {α β : Type} (m : M α) (k : α → M β) : M β := fun env own => (m env own).bind fun a o => k a env o
/-- the first part of a run -/
theorem lf_bind {α β α' β' : Type} {rep : Rd3 β α} {rep' : Rd3 β' α'} {C : Cn} {E : XK} {m : M α} {k : α → M α'} {σ : L2.St} {H : Hp} {Q : β' → Hp → Prop} (h : lf rep' C E (mB m k) σ H Q) :
    lf rep C E m σ H fun v H' => ∃ ι' env own' a, At C ι' env own' σ H' ∧ rep (fz C ι' H') ι' v a ∧ Post rep' C E ι' H' (k a env own') Q := by
  obtain ⟨ι, env, own, A, p⟩ := h
  refine ⟨ι, env, own, A, p.bind.imp fun v H' ⟨ι', own', a, g, rl, rp, q⟩ => ⟨ι', env, own', a, A.go g rl, rp, q⟩⟩
theorem lf_imp {α β : Type} {rep : Rd3 β α} {C : Cn} {E : XK} {m : M α} {σ : L2.St} {H : Hp} {Q Q' : β → Hp → Prop} (h : lf rep C E m σ H Q) (q : ∀ v H', Q v H' → Q' v H') : lf rep C E m σ H Q' := by
  obtain ⟨ι, env, own, A, p⟩ := h
  exact ⟨ι, env, own, A, p.imp q⟩
/-- weaker readings -/
theorem pe_w {X : Cx} {e : Expr} {t t' : TE} (h : PE X e t) (w : ∀ σ H Q, t' σ H Q → t σ H Q) : PE X e t' := ⟨fun pins s σ H Q I z => h.run pins s σ H Q I (w σ H Q z)⟩
theorem pt_w {X : Cx} {e : Expr} {t t' : TT} (h : PT X e t) (w : ∀ σ H Q, t' σ H Q → t σ H Q) : PT X e t' := ⟨fun pins s σ H Q I z => h.run pins s σ H Q I (w σ H Q z)⟩
theorem pw_w {X : Cx} {e : Expr} {t t' : TT} (h : PW X e t) (w : ∀ σ H Q, t' σ H Q → t σ H Q) : PW X e t' := ⟨fun wh pins s σ H Q I z => h.run wh pins s σ H Q I (w σ H Q z)⟩
theorem pa_w {X : Cx} {e : List Expr} {t t' : TA} (h : PA X e t) (w : ∀ σ H Q, t' σ H Q → t σ H Q) : PA X e t' := ⟨fun pos pins s σ H Q I z => h.run pos pins s σ H Q I (w σ H Q z)⟩
theorem ps_w {X : Cx} {e : Stmt} {t t' : TS} (h : PS X e t) (w : ∀ D σ H, t' D σ H → t D σ H) : PS X e t' := ⟨fun pins s σ H D I z => h.run pins s σ H D I (w D σ H z)⟩
theorem pss_w {X : Cx} {e : List Stmt} {t t' : TS} (h : PSs X e t) (w : ∀ D σ H, t' D σ H → t D σ H) : PSs X e t' := ⟨fun pins s σ H D I z => h.run pins s σ H D I (w D σ H z)⟩
/-! ### the heap grows -/
section
variable {C : Cn} {ι : List Addr} {own : Own} {H : Hp}
theorem Rel.nn (r : Rel C ι own H) {a : Addr} (h : a ∈ ι) : H a ≠ none := by
  obtain ⟨i, hi, e⟩ := List.mem_iff_getElem.mp h
  have h1 : ι[i]? = Option.some a := by rw [List.getElem?_eq_getElem hi, e]
  have hi' : i < own.length := by rw [← r.len]; exact hi
  have h2 : own[i]? = Option.some own[i] := List.getElem?_eq_getElem hi'
  have := r.ob i a _ h1 h2
  generalize own[i] = o at this
  cases o with
  | lst ds => obtain ⟨vs, e, _⟩ := this; rw [e]; exact fun z => nomatch z
  | dct ds => obtain ⟨vs, e, _⟩ := this; rw [e]; exact fun z => nomatch z
  | ins c fs => obtain ⟨dx, vs, e, _⟩ := this; rw [e]; exact fun z => nomatch z
  | dlk ds o => obtain ⟨od, vs, _, e, _⟩ := this; rw [e]; exact fun z => nomatch z
theorem Rel.fresh (r : Rel C ι own H) {p : Addr} (h : H p = none) : p ∉ ι := fun z => r.nn z h
theorem Rel.freshH (r : Rel C ι own H) {p : Addr} (h : H p = none) : p ∉ C.hid := fun z => by
  obtain ⟨vs, e⟩ := r.hidN p z
  rw [h] at e
  cases e
theorem sub_new {p : Addr} {o : HO} (h : H p = none) : Sub (fz C ι H) (fz C ι (upd H p o)) := fun a u e _ => by
  unfold fz at e ⊢
  split
  · rename_i z; rw [if_pos z] at e; cases e
  · rename_i z
    rw [if_neg z] at e
    rw [upd_ne (ne_of_none e h)]
    exact e
theorem ObR.stay {C : Cn} {ω ω' : Hp} {ι ι' : List Addr} {H H' : Hp} {a : Addr} {o : Ob} (h : ObR C ω ι H a o) (s : Sub ω ω') (p : ι <+: ι') (e : H' a = H a) : ObR C ω' ι' H' a o := by
  cases o with
  | lst ds => obtain ⟨vs, e1, r⟩ := h; exact ⟨vs, e.trans e1, r.mono s p⟩
  | dct ds => obtain ⟨vs, e1, r⟩ := h; exact ⟨vs, e.trans e1, r.mono s p⟩
  | ins c fs => obtain ⟨dx, vs, e1, r⟩ := h; exact ⟨dx, vs, e.trans e1, r.mono s p⟩
  | dlk ds o => obtain ⟨od, vs, e0, e1, r⟩ := h; exact ⟨od, vs, e0, e.trans e1, r.mono s p⟩
/-- a new thing that is only read -/
theorem Rel.new (r : Rel C ι own H) {p : Addr} {o : HO} (h : H p = none) : Rel C ι own (upd H p o) ∧ Gr C ι H ι (upd H p o) := by
  refine ⟨⟨r.nd, r.len, fun i a ob e1 e2 => (r.ob i a ob e1 e2).stay (sub_new h) (List.prefix_refl _) (upd_ne ?_), r.tabs.ext fun b o' e => ?_, fun a ha => ?_, r.hidD⟩, List.prefix_refl _, sub_new h, fun a ha => upd_ne (by rintro rfl; exact r.freshH h ha)⟩
  · rintro rfl; exact r.fresh h (List.mem_of_getElem? e1)
  · rw [upd_ne (ne_of_none e h)]; exact e
  · rw [upd_ne (by rintro rfl; exact r.freshH h ha)]; exact r.hidN a ha
theorem fz_new (r : Rel C ι own H) {p : Addr} {o : HO} (h : H p = none) : fz C ι (upd H p o) p = some o := by
  unfold fz
  rw [if_neg (fun z => z.elim (r.fresh h) (r.freshH h)), upd_same]
theorem sub_newO {p : Addr} {o : HO} (h : H p = none) : Sub (fz C ι H) (fz C (ι ++ [p]) (upd H p o)) := fun a u e _ => by
    unfold fz at e ⊢
    by_cases z : a ∈ ι ∨ a ∈ C.hid
    · rw [if_pos z] at e; cases e
    · rw [if_neg z] at e
      have ha : a ≠ p := ne_of_none e h
      rw [not_or] at z
      rw [if_neg (by simp [z.1, z.2, ha]), upd_ne ha]
      exact e
theorem gr_newO (r : Rel C ι own H) {p : Addr} {o : HO} (h : H p = none) : Gr C ι H (ι ++ [p]) (upd H p o) := ⟨⟨[p], rfl⟩, sub_newO h, fun a ha => upd_ne (by rintro rfl; exact r.freshH h ha)⟩
/-- a new thing that may be written -/
theorem Rel.newO (r : Rel C ι own H) {p : Addr} {o : HO} {ob : Ob} (h : H p = none) (hr : ObR C (fz C (ι ++ [p]) (upd H p o)) (ι ++ [p]) (upd H p o) p ob) : Rel C (ι ++ [p]) (own ++ [ob]) (upd H p o) := by
  have hs : Sub (fz C ι H) (fz C (ι ++ [p]) (upd H p o)) := sub_newO h
  refine ⟨?_, by simp [r.len], fun i a ob' e1 e2 => ?_, r.tabs.ext fun b o' e => ?_, fun a ha => ?_, fun a ha => ?_⟩
  · rw [List.nodup_append]
    exact ⟨r.nd, by simp, fun a ha b hb => by simp at hb; subst hb; rintro rfl; exact r.fresh h ha⟩
  · by_cases hi : i < ι.length
    · rw [List.getElem?_append_left hi] at e1
      rw [List.getElem?_append_left (by rw [← r.len]; exact hi)] at e2
      exact (r.ob i a ob' e1 e2).stay hs ⟨[p], rfl⟩ (upd_ne (by rintro rfl; exact r.fresh h (List.mem_of_getElem? e1)))
    · rw [List.getElem?_append_right (by omega)] at e1
      rw [List.getElem?_append_right (by rw [← r.len]; omega), ← r.len] at e2
      have : i - ι.length = 0 := by
        have := (List.getElem?_eq_some_iff.mp e1).1
        simp at this
        omega
      rw [this] at e1 e2
      simp at e1 e2
      subst e1 e2
      exact hr
  · rw [upd_ne (ne_of_none e h)]; exact e
  · rw [upd_ne (by rintro rfl; exact r.freshH h ha)]; exact r.hidN a ha
  · simp only [List.mem_append, List.mem_singleton, not_or]
    exact ⟨r.hidD a ha, by rintro rfl; exact r.freshH h ha⟩
theorem fz_upd {a : Addr} {o : HO} (h : a ∈ ι ∨ a ∈ C.hid) : fz C ι (upd H a o) = fz C ι H := by
  funext b
  unfold fz
  split
  · rfl
  · rename_i z
    rw [upd_ne (by rintro rfl; exact z h)]
theorem tabs_put {T : List (Addr × Str)} {a : Addr} {o o0 : HO} (t : Tabs T H) (h0 : H a = some o0) (hw : Wr o0 = true) : Tabs T (upd H a o) := by
  intro t' ht
  obtain ⟨ps, h1, h2, h3⟩ := t t' ht
  refine ⟨ps, by rw [upd_ne (ne_of h1 h0 (by intro z; rw [← z] at hw; cases hw))]; exact h1, h2, fun pos cv hc => ?_⟩
  obtain ⟨c, e1, e2⟩ := h3 pos cv hc
  refine ⟨c, e1, ?_⟩
  rw [upd_ne (ne_of e2 h0 (by intro z; rw [← z] at hw; cases hw))]
  exact e2
/-- a thing written -/
theorem Rel.put (r : Rel C ι own H) {i : Nat} {a : Addr} {o o0 : HO} {ob : Ob} (e : ι[i]? = some a) (h0 : H a = some o0) (hw : Wr o0 = true) (hr : ObR C (fz C ι H) ι (upd H a o) a ob) : Rel C ι (own.set i ob) (upd H a o) ∧ Gr C ι H ι (upd H a o) := by
  have hm := List.mem_of_getElem? e
  refine ⟨⟨r.nd, by simp [r.len], fun j b ob' e1 e2 => ?_, tabs_put r.tabs h0 hw, fun b hb => ?_, r.hidD⟩, List.prefix_refl _, by rw [fz_upd (.inl hm)]; exact .refl, fun b hb => upd_ne (by rintro rfl; exact r.hidD _ hb hm)⟩
  · rw [fz_upd (.inl hm)]
    by_cases hj : i = j
    · subst hj
      rw [e] at e1
      cases e1
      rw [List.getElem?_set_self (by rw [← r.len]; exact (List.getElem?_eq_some_iff.mp e).1)] at e2
      cases e2
      exact hr
    · rw [List.getElem?_set_ne hj] at e2
      refine (r.ob j b ob' e1 e2).stay .refl (List.prefix_refl _) (upd_ne ?_)
      rintro rfl
      obtain ⟨h1, e1'⟩ := List.getElem?_eq_some_iff.mp e
      obtain ⟨h2, e2'⟩ := List.getElem?_eq_some_iff.mp e1
      exact hj ((List.getElem_inj r.nd).mp (e1'.trans e2'.symm))
  · rw [upd_ne (by rintro rfl; exact r.hidD _ hb hm)]; exact r.hidN b hb
end
end Mi

set_option Elab.async false
set_option linter.all false
set_option maxRecDepth 100000
set_option maxHeartbeats 4000000
namespace Mi
open PySem PySem.Spec PyProof.Rows L2 HotX LamX Ws
theorem szM {n : Nat} (h : n ≤ 1000000) : n ≤ sizeLine := Nat.le_trans h (by decide)
theorem szN {n : Nat} (h : n < 1000000) : n < sizeLine := Nat.lt_of_lt_of_le h (by decide)
section
variable {α β : Type} {rep : Rd3 β α} {C : Cn} {E : XK} {ι : List Addr} {own : Own} {H : Hp} {Q : β → Hp → Prop} {d : α}
theorem Post.here (h : Post rep C E ι H (.ok d own) Q) (r : Rel C ι own H) {v : β} (p : rep (fz C ι H) ι v d) : Q v H := h v ι H .refl r p
end
section
variable {C : Cn} {E : XK} {ι : List Addr} {own : Own} {H : Hp} {Q : VK}
theorem Rp.up {v : V} {d : D} (h : Rp C.K (fz C ι H) ι v d) : Rp C.K H ι v d := h.mono fz_sub (List.prefix_refl _)
theorem RpAll.up {v : List V} {d : List D} (h : RpAll C.K (fz C ι H) ι v d) : RpAll C.K H ι v d := h.mono fz_sub (List.prefix_refl _)
theorem Post.newT {vs : List V} {ds : List D} (h : Post (rV C.K) C E ι H (.ok (.tup ds) own) Q) (r : Rel C ι own H) (a : RpAll C.K (fz C ι H) ι vs ds) {p : Addr} (hp : H p = none) : Q (.ref p) (upd H p (.tup vs)) := by
  obtain ⟨r', g⟩ := r.new (o := .tup vs) hp
  exact h _ _ _ g r' (.tup (SqT.of (fz_new r hp)) (a.mono g.sub g.pre))
theorem Post.newL {vs : List V} {ds : List D} (h : Post (rV C.K) C E ι H (.ok (.lst ds) own) Q) (r : Rel C ι own H) (a : RpAll C.K (fz C ι H) ι vs ds) {p : Addr} (hp : H p = none) : Q (.ref p) (upd H p (.lst vs)) := by
  obtain ⟨r', g⟩ := r.new (o := .lst vs) hp
  exact h _ _ _ g r' (.lst (fz_new r hp) (a.mono g.sub g.pre))
theorem Post.newOL {vs : List V} {ds : List D} (h : Post (rV C.K) C E ι H (.ok (.ref own.length) (own ++ [.lst ds])) Q) (r : Rel C ι own H) (a : RpAll C.K (fz C ι H) ι vs ds) {p : Addr} (hp : H p = none) : Q (.ref p) (upd H p (.lst vs)) := by
  have g := gr_newO (o := .lst vs) r hp
  exact h _ _ _ g (r.newO hp ⟨vs, upd_same, a.mono g.sub g.pre⟩) (.ref (by rw [← r.len]; simp))
end
/-! ### what an operation on values is, as one on data -/
def Ad1 (C : Cn) (E : XK) (r : V → Hp → VK → Prop) (f : D → Own → R D) : Prop := ∀ ι own H x d Q, Rel C ι own H → Rp C.K (fz C ι H) ι x d → Post (rV C.K) C E ι H (f d own) Q → r x H Q
def Ad2 (C : Cn) (E : XK) (r : R2) (f : D → D → Own → R D) : Prop := ∀ ι own H x y d e Q, Rel C ι own H → Rp C.K (fz C ι H) ι x d → Rp C.K (fz C ι H) ι y e → Post (rV C.K) C E ι H (f d e own) Q → r x y H Q
def AdL (C : Cn) (E : XK) (r : List V → Hp → VK → Prop) (f : List D → Own → R D) : Prop := ∀ ι own H xs ds Q, Rel C ι own H → RpAll C.K (fz C ι H) ι xs ds → Post (rV C.K) C E ι H (f ds own) Q → r xs H Q
def AdM (C : Cn) (E : XK) (r : V → List V → Hp → VK → Prop) (f : D → List D → Own → R D) : Prop := ∀ ι own H x xs d ds Q, Rel C ι own H → Rp C.K (fz C ι H) ι x d → RpAll C.K (fz C ι H) ι xs ds → Post (rV C.K) C E ι H (f d ds own) Q → r x xs H Q
def mV (i : Nat) : M D := fun env own => match env[i]? with
  | some (some d) => .ok d own
  | _ => .bad
def mC (d : D) : M D := fun _ own => .ok d own
def m1 (f : D → Own → R D) (a : M D) : M D := mB a fun d _ own => f d own
def m2 (f : D → D → Own → R D) (a b : M D) : M D := mB a fun d => mB b fun e _ own => f d e own
def mNil : M (List D) := fun _ own => .ok [] own
def mCons (a : M D) (r : M (List D)) : M (List D) := mB a fun d => mB r fun ds _ own => .ok (d :: ds) own
def mL (f : List D → Own → R D) (a : M (List D)) : M D := mB a fun ds _ own => f ds own
def mM (f : D → List D → Own → R D) (a : M D) (r : M (List D)) : M D := mB a fun d => mB r fun ds _ own => f d ds own
def tupF (ds : List D) (own : Own) : R D := if ds.length ≤ 1000000 then .ok (.tup ds) own else .bad
def lstF (ds : List D) (own : Own) : R D := if ds.length ≤ 1000000 then .ok (.lst ds) own else .bad
def lstO (ds : List D) (own : Own) : R D := if ds.length ≤ 1000000 then .ok (.ref own.length) (own ++ [.lst ds]) else .bad
section
variable {X : Cx} {C : Cn} {E : XK} {a b c : Expr} {ma mb mc : M D} {pos : Pos} {es : List Expr} {ms : M (List D)}
theorem me_v (i : Nat) {x : Str} {pos : Pos} (hN : X.N[i]? = some x := by rfl) (hv : Vis X.env.scope x := by first | exact Or.inl rfl | exact Or.inr (Or.inl rfl) | exact Or.inr (Or.inr rfl)) (hd : (x == ("__debug__" : Str)) = false := by decide) (hcd : (x == ("__classdict__" : Str)) = false := by decide) :
    PE X (.Name x pos) (lE C E (mV i)) := pe_w (pe_var hN hv hd hcd) fun σ H Q h => by
  obtain ⟨ι, env, own, A, p⟩ := h
  unfold mV at p
  split at p
  · rename_i d e
    obtain ⟨v, e1, r⟩ := A.e.at_ i d e
    exact ⟨v, e1, p.here A.r r⟩
  · exact p.elim
theorem me_c {e : Expr} {v : V} {d : D} (h : PE X e (tC v)) (r : ∀ ω ι, Rp C.K ω ι v d) : PE X e (lE C E (mC d)) := pe_w h fun σ H Q h => by
  obtain ⟨ι, env, own, A, p⟩ := h
  exact p.here A.r (r _ _)
theorem me_int {i j} : PE X (.Constant (.int i) j pos) (lE C E (mC (.int i))) := me_c pe_int fun _ _ => .int _
theorem me_bl {i j} : PE X (.Constant (.bool i) j pos) (lE C E (mC (.bl i))) := me_c pe_bl fun _ _ => .bl _
theorem me_non {j} : PE X (.Constant .none j pos) (lE C E (mC .non)) := me_c pe_non fun _ _ => .non
theorem me_str {i j} : PE X (.Constant (.str i) j pos) (lE C E (mC (.str i))) := me_c pe_str fun _ _ => .str _
theorem me_gint {x : Str} {i : Int} (hm : ∃ t, X.mg x = some (.int i t)) (hg : Gl X x := by rfl) (hd : (x == ("__debug__" : Str)) = false := by decide) : PE X (.Name x pos) (lE C E (mC (.int i))) := me_c (q_int hm hg hd) fun _ _ => .int _
theorem me_gstr {x : Str} {i : Str} (hm : ∃ t, X.mg x = some (.str i t)) (hg : Gl X x := by rfl) (hd : (x == ("__debug__" : Str)) = false := by decide) : PE X (.Name x pos) (lE C E (mC (.str i))) := me_c (q_str hm hg hd) fun _ _ => .str _
theorem me_gtup {x : Str} {d : D} (hm : ∃ p, X.mg x = some (.ref p) ∧ ∀ ω ι, Rp C.K ω ι (.ref p) d) (hg : Gl X x := by rfl) (hd : (x == ("__debug__" : Str)) = false := by decide) : PE X (.Name x pos) (lE C E (mC d)) := by
  obtain ⟨p, h1, h2⟩ := hm
  exact me_c (q_ref h1 hg hd) h2
theorem lf_2 {r : R2} {f : D → D → Own → R D} (ad : Ad2 C E r f) {σ : L2.St} {H : Hp} {Q : VK} (h : lE C E (m2 f ma mb) σ H Q) : tOp r (lE C E ma) (lE C E mb) σ H Q := by
  refine lf_imp (lf_bind h) ?_
  rintro x H1 ⟨ι1, env1, own1, d, A1, rx, p1⟩
  refine ⟨ι1, env1, own1, A1, p1.bind.imp ?_⟩
  rintro y H2 ⟨ι2, own2, e, g2, r2, ry, p2⟩
  exact ad ι2 own2 H2 x y d e Q r2 (rx.mono g2.sub g2.pre) ry p2
theorem me_op {op : Operator} {r : R2} {f : D → D → Own → R D} (ho : OpR X (binaryOp op) r) (ad : Ad2 C E r f) (ha : PE X a (lE C E ma)) (hb : PE X b (lE C E mb)) : PE X (.BinOp a op b pos) (lE C E (m2 f ma mb)) := pe_w (pe_op ho ha hb) fun σ H Q h => lf_2 ad h
theorem me_cmp {op : CmpOp} {r : R2} {f : D → D → Own → R D} (ho : OpR X (compareOp op) r) (ad : Ad2 C E r f) (ha : PE X a (lE C E ma)) (hb : PE X b (lE C E mb)) (hm : behindInMarks op b = false) : PE X (.Compare a [op] [b] pos) (lE C E (m2 f ma mb)) := pe_w (pe_cmpR ho ha hb hm) fun σ H Q h => lf_2 ad h
theorem me_ix {r : R2} {f : D → D → Own → R D} (ho : IxR X r) (ad : Ad2 C E r f) (ha : PE X a (lE C E ma)) (hb : PE X b (lE C E mb)) (hs : PlainIx b := by exact fun _ _ => rfl) : PE X (.Subscript a b pos) (lE C E (m2 f ma mb)) := pe_w (pe_ix ho ha hb hs) fun σ H Q h => lf_2 ad h
theorem me_un {op : UnaryOp} {r : V → Hp → VK → Prop} {f : D → Own → R D} (ho : UnR X (unaryOp op) r) (ad : Ad1 C E r f) (ha : PE X a (lE C E ma)) : PE X (.UnaryOp op a pos) (lE C E (m1 f ma)) := pe_w (pe_un ho ha) fun σ H Q h => by
  refine lf_imp (lf_bind h) ?_
  rintro x H1 ⟨ι1, env1, own1, d, A1, rx, p1⟩
  exact ad ι1 own1 H1 x d Q A1.r rx p1
theorem me_nil : PA X [] (lA C E mNil) := pa_w pa_nil fun σ H Q h => by
  obtain ⟨ι, env, own, A, p⟩ := h
  exact p.here A.r .nil
theorem me_cons (ha : PE X a (lE C E ma)) (hr : PA X es (lA C E ms)) (hs : starEach (a :: es) X.env = (false, eval a X.env) :: starEach es X.env := by rfl) : PA X (a :: es) (lA C E (mCons ma ms)) := pa_w (pa_cons ha hr hs) fun σ H Q h => by
  refine lf_imp (lf_bind h) ?_
  rintro x H1 ⟨ι1, env1, own1, d, A1, rx, p1⟩
  refine ⟨ι1, env1, own1, A1, p1.bind.imp ?_⟩
  rintro y H2 ⟨ι2, own2, e, g2, r2, ry, p2⟩
  exact p2.here r2 (.cons (rx.mono g2.sub g2.pre) ry)
theorem me_tup {k} (h : PA X es (lA C E ms)) : PE X (.Tuple es k pos) (lE C E (mL tupF ms)) := pe_w (pe_tup h) fun σ H Q h => by
  refine lf_imp (lf_bind h) ?_
  rintro x H1 ⟨ι1, env1, own1, ds, A1, rx, p1⟩
  unfold tupF at p1
  split at p1
  · rename_i hz
    exact ⟨szM (by rw [rx.len]; exact hz), fun p hp => p1.newT A1.r rx hp⟩
  · exact p1.elim
theorem me_lst (h : PA X es (lA C E ms)) : PE X (.List es pos) (lE C E (mL lstF ms)) := pe_w (pe_lst h) fun σ H Q h => by
  refine lf_imp (lf_bind h) ?_
  rintro x H1 ⟨ι1, env1, own1, ds, A1, rx, p1⟩
  unfold lstF at p1
  split at p1
  · rename_i hz
    exact ⟨szM (by rw [rx.len]; exact hz), fun p hp => p1.newL A1.r rx hp⟩
  · exact p1.elim
theorem me_lstO (h : PA X es (lA C E ms)) : PE X (.List es pos) (lE C E (mL lstO ms)) := pe_w (pe_lst h) fun σ H Q h => by
  refine lf_imp (lf_bind h) ?_
  rintro x H1 ⟨ι1, env1, own1, ds, A1, rx, p1⟩
  unfold lstO at p1
  split at p1
  · rename_i hz
    exact ⟨szM (by rw [rx.len]; exact hz), fun p hp => p1.newOL A1.r rx hp⟩
  · exact p1.elim
theorem me_call {id : String} {x : Str} {p : Pos} {r : List V → Hp → VK → Prop} {f : List D → Own → R D} (hc : CallR X (.builtin id) r) (ad : AdL C E r f) (hm : X.mg x = none) (hv : bootBuiltins x = some (.builtin id)) (ha : PA X (a :: es) (lA C E ms)) (hg : Gl X x := by rfl) (hn : x ≠ "__name__" := by decide) (hdb : (x == ("__debug__" : Str)) = false := by decide)
    (he : starEach (a :: es) X.env = (false, eval a X.env) :: starEach es X.env := by rfl) (hpl : (backTo pos (starEach es X.env)).any (·.1) = false := by rfl) : PE X (.Call (.Name x p) (a :: es) [] pos) (lE C E (mL f ms)) := pe_w (q_cb hc hm hv ha hg hn hdb he hpl) fun σ H Q h => by
  refine lf_imp (lf_bind h) ?_
  rintro x H1 ⟨ι1, env1, own1, ds, A1, rx, p1⟩
  exact ad ι1 own1 H1 x ds Q A1.r rx p1
theorem me_callT {T : String} {x : Str} {p : Pos} {r : List V → Hp → VK → Prop} {f : List D → Own → R D} (hc : CallR X (.type T) r) (ad : AdL C E r f) (hm : X.mg x = none) (hv : bootBuiltins x = some (.type T)) (ha : PA X (a :: es) (lA C E ms)) (hg : Gl X x := by rfl) (hn : x ≠ "__name__" := by decide) (hdb : (x == ("__debug__" : Str)) = false := by decide)
    (he : starEach (a :: es) X.env = (false, eval a X.env) :: starEach es X.env := by rfl) (hpl : (backTo pos (starEach es X.env)).any (·.1) = false := by rfl) : PE X (.Call (.Name x p) (a :: es) [] pos) (lE C E (mL f ms)) := pe_w (q_ct hc hm hv ha hg hn hdb he hpl) fun σ H Q h => by
  refine lf_imp (lf_bind h) ?_
  rintro x H1 ⟨ι1, env1, own1, ds, A1, rx, p1⟩
  exact ad ι1 own1 H1 x ds Q A1.r rx p1
/-! tests, and, or, not, chains, if else -/
def toB (d : D) (own : Own) : R Bool := match d with
  | .bl b => .ok b own
  | _ => .bad
def mT (a : M D) : M Bool := mB a fun d _ own => toB d own
def mNotT (t : M Bool) : M Bool := mB t fun b _ own => .ok (!b) own
def mAndT (t u : M Bool) : M Bool := mB t fun b => if b = true then u else fun _ own => .ok false own
def mOrT (t u : M Bool) : M Bool := mB t fun b => if b = true then (fun _ own => .ok true own) else u
def mIte {α : Type} (t : M Bool) (a b : M α) : M α := mB t fun c => if c = true then a else b
def mAnd (a b : M D) : M D := mB a fun d => mB (fun _ own => toB d own) fun c => if c = true then b else mC (.bl false)
def mOr (a b : M D) : M D := mB a fun d => mB (fun _ own => toB d own) fun c => if c = true then mC (.bl true) else b
def mNot (a : M D) : M D := mB a fun d => mB (fun _ own => toB d own) fun c => mC (.bl (!c))
def mChain (f g : D → D → Own → R D) (a b c : M D) : M D := mB a fun d => mB b fun e => mB (fun _ own => f d e own) fun z => mB (fun _ own => toB z own) fun k => if k = true then mB c fun w _ own => g e w own else mC (.bl false)
theorem toB_ok {ι : List Addr} {own : Own} {H : Hp} {α β : Type} {rep : Rd3 β α} {d : D} {k : Bool → Own → R α} {Q : β → Hp → Prop} {v : V} (p : Post rep C E ι H ((toB d own).bind k) Q) (r : Rp C.K (fz C ι H) ι v d) : ∃ b, v = .bl b ∧ d = .bl b ∧ Post rep C E ι H (k b own) Q := by
  cases d with
  | bl b => cases r; exact ⟨b, rfl, rfl, p⟩
  | _ => exact (show False from p).elim
theorem mt_val (h : PE X a (lE C E ma)) (he : ∀ whole, isTrue a X.env whole = (do let v ← whole; standAt a.pos; holding [v] (truthy v)) := by intro _; rfl) : PT X a (lT C E (mT ma)) := pt_w (pt_val h he) fun σ H Q h => by
  refine lf_imp (lf_bind h) ?_
  rintro x H1 ⟨ι1, env1, own1, d, A1, rx, p1⟩
  obtain ⟨b, rfl, rfl, _⟩ := toB_ok (rep := rBo) (k := fun b o => .ok b o) (Q := Q) (by cases d <;> exact p1) rx
  exact ⟨b, rfl, p1.here A1.r rfl⟩
theorem mt_cmp {op : CmpOp} {r : R2} {f : D → D → Own → R D} (ho : OpR X (compareOp op) r) (ad : Ad2 C E r f) (ha : PE X a (lE C E ma)) (hb : PE X b (lE C E mb)) (hm : behindInMarks op b = false) : PT X (.Compare a [op] [b] pos) (lT C E (mT (m2 f ma mb))) := pt_w (pt_cmpR ho ha hb hm) fun σ H Q h => by
  show tOp r (lE C E ma) (lE C E mb) σ H _
  refine lf_2 ad (lf_imp (lf_bind h) ?_)
  rintro x H1 ⟨ι1, env1, own1, d, A1, rx, p1⟩
  obtain ⟨b, rfl, rfl, _⟩ := toB_ok (rep := rBo) (k := fun b o => .ok b o) (Q := Q) (by cases d <;> exact p1) rx
  exact ⟨b, rfl, p1.here A1.r rfl⟩
variable {ta tb : M Bool} {rest : List Expr}
theorem mt_not (h : PT X a (lT C E ta)) : PT X (.UnaryOp .Not a pos) (lT C E (mNotT ta)) := pt_w (pt_not h) fun σ H Q h => by
  refine lf_imp (lf_bind h) ?_
  rintro x H1 ⟨ι1, env1, own1, d, A1, rfl, p1⟩
  exact p1.here A1.r rfl
theorem mw_and1 (h : PT X a (lT C E ta)) : PW X (.BoolOp .And [a] pos) (lT C E ta) := pw_and1 h
theorem mw_or1 (h : PT X a (lT C E ta)) : PW X (.BoolOp .Or [a] pos) (lT C E ta) := pw_or1 h
theorem lf_at {α β : Type} {rep : Rd3 β α} {m : M α} {σ : L2.St} {ι : List Addr} {env : Env} {own : Own} {H : Hp} {Q : β → Hp → Prop} (A : At C ι env own σ H) (p : Post rep C E ι H (m env own) Q) : lf rep C E m σ H Q := ⟨ι, env, own, A, p⟩
theorem mw_and (h : PT X a (lT C E ta)) (h' : PW X (.BoolOp .And (b :: rest) pos) (lT C E tb)) : PW X (.BoolOp .And (a :: b :: rest) pos) (lT C E (mAndT ta tb)) := pw_w (pw_and h h') fun σ H Q h => by
  refine lf_imp (lf_bind h) ?_
  rintro x H1 ⟨ι1, env1, own1, d, A1, rfl, p1⟩
  cases x with
  | true => rw [if_pos rfl]; exact lf_at A1 p1
  | false => rw [if_neg Bool.false_ne_true]; exact p1.here A1.r rfl
theorem mw_or (h : PT X a (lT C E ta)) (h' : PW X (.BoolOp .Or (b :: rest) pos) (lT C E tb)) : PW X (.BoolOp .Or (a :: b :: rest) pos) (lT C E (mOrT ta tb)) := pw_w (pw_or h h') fun σ H Q h => by
  refine lf_imp (lf_bind h) ?_
  rintro x H1 ⟨ι1, env1, own1, d, A1, rfl, p1⟩
  cases x with
  | true => rw [if_pos rfl]; exact p1.here A1.r rfl
  | false => rw [if_neg Bool.false_ne_true]; exact lf_at A1 p1
theorem me_one {op} (h : PE X a (lE C E ma)) : PE X (.BoolOp op [a] pos) (lE C E ma) := pe_one h
theorem me_and (h : PE X a (lE C E ma)) (h' : PE X (.BoolOp .And (b :: rest) pos) (lE C E mb)) : PE X (.BoolOp .And (a :: b :: rest) pos) (lE C E (mAnd ma mb)) := pe_w (pe_and h h') fun σ H Q h => by
  refine lf_imp (lf_bind h) ?_
  rintro x H1 ⟨ι1, env1, own1, d, A1, rx, p1⟩
  obtain ⟨c, rfl, rfl, p2⟩ := toB_ok p1 rx
  refine ⟨c, rfl, ?_⟩
  cases c with
  | true => rw [if_pos rfl]; exact lf_at A1 p2
  | false => rw [if_neg Bool.false_ne_true]; exact Post.here p2 A1.r (.bl _)
theorem me_or (h : PE X a (lE C E ma)) (h' : PE X (.BoolOp .Or (b :: rest) pos) (lE C E mb)) : PE X (.BoolOp .Or (a :: b :: rest) pos) (lE C E (mOr ma mb)) := pe_w (pe_or h h') fun σ H Q h => by
  refine lf_imp (lf_bind h) ?_
  rintro x H1 ⟨ι1, env1, own1, d, A1, rx, p1⟩
  obtain ⟨c, rfl, rfl, p2⟩ := toB_ok p1 rx
  refine ⟨c, rfl, ?_⟩
  cases c with
  | true => rw [if_pos rfl]; exact Post.here p2 A1.r (.bl _)
  | false => rw [if_neg Bool.false_ne_true]; exact lf_at A1 p2
theorem me_not (h : PE X a (lE C E ma)) : PE X (.UnaryOp .Not a pos) (lE C E (mNot ma)) := pe_w (pe_not h) fun σ H Q h => by
  refine lf_imp (lf_bind h) ?_
  rintro x H1 ⟨ι1, env1, own1, d, A1, rx, p1⟩
  obtain ⟨c, rfl, rfl, p2⟩ := toB_ok p1 rx
  exact ⟨c, rfl, Post.here p2 A1.r (.bl _)⟩
theorem me_if (h : PT X c (lT C E ta)) (h1 : PE X a (lE C E ma)) (h2 : PE X b (lE C E mb)) : PE X (.IfExp c a b pos) (lE C E (mIte ta ma mb)) := pe_w (pe_ifExp h h1 h2) fun σ H Q h => by
  refine lf_imp (lf_bind h) ?_
  rintro x H1 ⟨ι1, env1, own1, d, A1, rfl, p1⟩
  cases x with
  | true => rw [if_pos rfl]; exact lf_at A1 p1
  | false => rw [if_neg Bool.false_ne_true]; exact lf_at A1 p1
theorem lf_chain {r r' : R2} {f g : D → D → Own → R D} (ad : Ad2 C E r f) (ad' : Ad2 C E r' g) {σ : L2.St} {H : Hp} {Q : VK} (h : lE C E (mChain f g ma mb mc) σ H Q) : tChain r r' (lE C E ma) (lE C E mb) (lE C E mc) σ H Q := by
  refine lf_imp (lf_bind h) ?_
  rintro x H1 ⟨ι1, env1, own1, d, A1, rx, p1⟩
  refine ⟨ι1, env1, own1, A1, p1.bind.imp ?_⟩
  rintro y H2 ⟨ι2, own2, e, g2, r2, ry, p2⟩
  refine ad ι2 own2 H2 x y d e _ r2 (rx.mono g2.sub g2.pre) ry (Post.imp p2.bind ?_)
  rintro z H3 ⟨ι3, own3, k, g3, r3, rz, p3⟩
  obtain ⟨c, rfl, rfl, p3⟩ := toB_ok p3 rz
  refine ⟨c, rfl, ?_⟩
  have A3 : At C ι3 env1 own3 σ H3 := A1.go (g2.trans g3) r3
  cases c with
  | true =>
    rw [if_pos rfl]
    refine ⟨ι3, env1, own3, A3, Post.imp (Post.bind (r := mc env1 own3) p3) ?_⟩
    rintro w H4 ⟨ι4, own4, u, g4, r4, rw', p4⟩
    exact ad' ι4 own4 H4 y w e u Q r4 (ry.mono (g3.trans g4).sub (g3.trans g4).pre) rw' p4
  | false => rw [if_neg Bool.false_ne_true]; exact Post.here p3 A3.r (.bl _)
theorem me_chain {op op' : CmpOp} {r r' : R2} {f g : D → D → Own → R D} (ho : OpR X (compareOp op) r) (ho' : OpR X (compareOp op') r') (ad : Ad2 C E r f) (ad' : Ad2 C E r' g) (ha : PE X a (lE C E ma)) (hb : PE X b (lE C E mb)) (hc : PE X c (lE C E mc)) (hm : lastMarks [op, op'] [b, c] = false := by rfl) : PE X (.Compare a [op, op'] [b, c] pos) (lE C E (mChain f g ma mb mc)) :=
  pe_w (pe_chain ho ho' ha hb hc hm) fun σ H Q h => lf_chain ad ad' h
theorem mt_chain {op op' : CmpOp} {r r' : R2} {f g : D → D → Own → R D} (ho : OpR X (compareOp op) r) (ho' : OpR X (compareOp op') r') (ad : Ad2 C E r f) (ad' : Ad2 C E r' g) (ha : PE X a (lE C E ma)) (hb : PE X b (lE C E mb)) (hc : PE X c (lE C E mc)) (hm : lastMarks [op, op'] [b, c] = false := by rfl) : PT X (.Compare a [op, op'] [b, c] pos) (lT C E (mT (mChain f g ma mb mc))) :=
  pt_w (pt_chain ho ho' ha hb hc hm) fun σ H Q h => by
    show tChain r r' (lE C E ma) (lE C E mb) (lE C E mc) σ H _
    refine lf_chain ad ad' (lf_imp (lf_bind h) ?_)
    rintro x H1 ⟨ι1, env1, own1, d, A1, rx, p1⟩
    obtain ⟨b, rfl, rfl, _⟩ := toB_ok (rep := rBo) (k := fun b o => .ok b o) (Q := Q) (by cases d <;> exact p1) rx
    exact ⟨b, rfl, p1.here A1.r rfl⟩
end
end Mi

set_option Elab.async false
set_option linter.all false
set_option maxRecDepth 100000
set_option maxHeartbeats 4000000
namespace Mi
open PySem PySem.Spec PyProof.Rows L2 HotX LamX Ws
/-! ### reading data -/
def atO (own : Own) (h : Nat) : Option Ob := own[h]?
/-- a list that may be joined to another -/
def lstD (own : Own) : D → Option (List D)
  | .lst xs => some xs
  | .ref h => match own[h]? with
    | some (.lst xs) => some xs
    | _ => none
  | _ => none
/-- a list that may be read -/
def seqD (own : Own) : D → Option (List D)
  | .frz xs => some xs
  | d => lstD own d
mutual
def toPy : D → Option PyData
  | .non => some .none
  | .bl b => some (.bool b)
  | .int i => some (.int i)
  | .str s => some (.str s)
  | .tup xs => (toPyAll xs).map .tuple
  | .lst xs => (toPyAll xs).map .list
  | .frz xs => (toPyAll xs).map .list
  | .ref _ => none
def toPyAll : List D → Option (List PyData)
  | [] => some []
  | d :: ds => match toPy d, toPyAll ds with
    | some x, some xs => some (x :: xs)
    | _, _ => none
end
def toPyT (own : Own) (d : D) : Option PyData := match d with
  | .ref h => match own[h]? with
    | some (.lst xs) => (toPyAll xs).map .list
    | _ => none
  | d => toPy d
section
variable {C : Cn} {E : XK} {ι : List Addr} {own : Own} {H : Hp} {x : V} {d : D}
theorem lstD_ok (r : Rel C ι own H) (h : Rp C.K (fz C ι H) ι x d) {ds : List D} (e : lstD own d = some ds) : ∃ a vs, x = .ref a ∧ H a = some (.lst vs) ∧ RpAll C.K (fz C ι H) ι vs ds := by
  cases h with
  | lst h a => cases e; exact ⟨_, _, rfl, fz_sub _ _ h (fun _ z => nomatch z), a⟩
  | ref h =>
    simp only [lstD] at e
    split at e
    · rename_i xs e2
      cases e
      obtain ⟨vs, h1, h2⟩ := r.ob _ _ _ h e2
      exact ⟨_, vs, rfl, h1, h2⟩
    · cases e
  | _ => cases e
theorem seqD_ok (r : Rel C ι own H) (h : Rp C.K (fz C ι H) ι x d) {ds : List D} (e : seqD own d = some ds) : ∃ a vs, x = .ref a ∧ SqL C.K H a vs ∧ RpAll C.K (fz C ι H) ι vs ds := by
  cases h with
  | frz h a => cases e; exact ⟨_, _, rfl, sql_sub fz_sub h, a⟩
  | lst h a => cases e; exact ⟨_, _, rfl, SqL.of (fz_sub _ _ h (fun _ z => nomatch z)), a⟩
  | ref h =>
    obtain ⟨a, vs, h1, h2, h3⟩ := lstD_ok r (.ref h) e
    exact ⟨a, vs, h1, SqL.of h2, h3⟩
  | _ => cases e
theorem tup_ok (h : Rp C.K (fz C ι H) ι x (.tup ds)) : ∃ a vs, x = .ref a ∧ SqT C.K H a vs ∧ RpAll C.K (fz C ι H) ι vs ds := by
  cases h with
  | tup h a => exact ⟨_, _, rfl, sqt_sub fz_sub h, a⟩
mutual
theorem toPy_ok {K : PySem.W.Frag} {ω : Hp} {ι : List Addr} {x : V} : ∀ {d : D} {p : PyData}, Rp K ω ι x d → toPy d = some p → Dp K ω x p
  | _, _, .non, e => by cases e; exact .non
  | _, _, .bl b, e => by cases e; exact .bl b
  | _, _, .int i, e => by cases e; exact .int i
  | _, _, .str s, e => by cases e; exact .str s
  | _, p, .tup (ds := ds) h a, e => by
    cases q : toPyAll ds with
    | none => simp [toPy, q] at e
    | some l => simp [toPy, q] at e; subst e; exact .tup h (toPyAll_ok a q)
  | _, p, .lst (ds := ds) h a, e => by
    cases q : toPyAll ds with
    | none => simp [toPy, q] at e
    | some l => simp [toPy, q] at e; subst e; exact .lst (SqL.of h) (toPyAll_ok a q)
  | _, p, .frz (ds := ds) h a, e => by
    cases q : toPyAll ds with
    | none => simp [toPy, q] at e
    | some l => simp [toPy, q] at e; subst e; exact .lst h (toPyAll_ok a q)
  | _, _, .ref h, e => by cases e
theorem toPyAll_ok {K : PySem.W.Frag} {ω : Hp} {ι : List Addr} {vs : List V} : ∀ {ds : List D} {ps : List PyData}, RpAll K ω ι vs ds → toPyAll ds = some ps → DpAll K ω vs ps
  | _, _, .nil, e => by cases e; exact .nil
  | _, _, .cons (d := d) (ds := ds) h t, e => by
    cases q1 : toPy d with
    | none => simp [toPyAll, q1] at e
    | some p =>
      cases q2 : toPyAll ds with
      | none => simp [toPyAll, q1, q2] at e
      | some ps => simp [toPyAll, q1, q2] at e; subst e; exact .cons (toPy_ok h q1) (toPyAll_ok t q2)
end
theorem toPyT_ok (r : Rel C ι own H) (h : Rp C.K (fz C ι H) ι x d) {p : PyData} (e : toPyT own d = some p) : Dp C.K H x p := by
  cases h with
  | ref h =>
    simp only [toPyT] at e
    split at e
    · rename_i xs e2
      obtain ⟨vs, h1, h2⟩ := r.ob _ _ _ h e2
      cases q : toPyAll xs with
      | none => simp [q] at e
      | some l => simp [q] at e; subst e; exact .lst (SqL.of h1) (toPyAll_ok h2.up q)
    · cases e
  | _ => exact toPy_ok (Rp.up (ι := ι) (by constructor <;> assumption)) e
end
/-! ### arithmetic -/
noncomputable def mulOk (i j : Int) : Bool := cB (((-18446744073709551616 < i ∧ i < 18446744073709551616) ∨ (-18446744073709551616 < j ∧ j < 18446744073709551616)) ∨ i.natAbs.log2 + j.natAbs.log2 < 1000000)
def addF (d e : D) (own : Own) : R D := match d, e with
  | .int i, .int j => .ok (.int (i + j)) own
  | .str i, .str j => if i.length + j.length ≤ 1000000 then .ok (.str (i ++ j)) own else .bad
  | .tup i, .tup j => if i.length + j.length ≤ 1000000 then .ok (.tup (i ++ j)) own else .bad
  | d, e => match lstD own d, lstD own e with
    | some i, some j => if i.length + j.length ≤ 1000000 then .ok (.lst (i ++ j)) own else .bad
    | _, _ => .bad
def subF (d e : D) (own : Own) : R D := match d, e with
  | .int i, .int j => .ok (.int (i - j)) own
  | _, _ => .bad
noncomputable def mulF (d e : D) (own : Own) : R D := match d, e with
  | .int i, .int j => if mulOk i j = true then .ok (.int (i * j)) own else .bad
  | d, .int k => match lstD own d with
    | some xs => if cB (k < 1000000 ∧ xs.length * k.toNat ≤ 1000000) = true then (if cB (-1000000 ≤ k) = true then .ok (.lst (List.replicate k.toNat xs).flatten) own else .bad) else .bad
    | none => .bad
  | _, _ => .bad
noncomputable def fdivF (d e : D) (own : Own) : R D := match d, e with
  | .int i, .int j => if cB (0 < j ∧ j < 18446744073709551616) = true then .ok (.int (i / j)) own else .bad
  | _, _ => .bad
noncomputable def modF (d e : D) (own : Own) : R D := match d, e with
  | .int i, .int j => if cB (0 < j) = true then .ok (.int (i % j)) own else .bad
  | _, _ => .bad
noncomputable def powF (d e : D) (own : Own) : R D := match d, e with
  | .int i, .int j => if cB (0 ≤ j ∧ j ≤ 1000 ∧ -1000000 < i ∧ i < 1000000) = true then .ok (.int (i ^ j.toNat)) own else .bad
  | _, _ => .bad
def negF (d : D) (own : Own) : R D := match d with
  | .int i => .ok (.int (-i)) own
  | _ => .bad
noncomputable def ltF (d e : D) (own : Own) : R D := match d, e with
  | .int i, .int j => .ok (.bl (cB (i < j))) own
  | _, _ => .bad
noncomputable def leF (d e : D) (own : Own) : R D := match d, e with
  | .int i, .int j => .ok (.bl (cB (i ≤ j))) own
  | _, _ => .bad
noncomputable def gtF (d e : D) (own : Own) : R D := match d, e with
  | .int i, .int j => .ok (.bl (cB (j < i))) own
  | _, _ => .bad
noncomputable def geF (d e : D) (own : Own) : R D := match d, e with
  | .int i, .int j => .ok (.bl (cB (j ≤ i))) own
  | _, _ => .bad
/-- == of two that are no rows -/
noncomputable def sclEq : D → D → Option Bool
  | .non, .non => some true
  | .int a, .int b => some (cB (a = b))
  | .bl a, .bl b => some (a == b)
  | .str a, .str b => some (cB (a = b))
  | .non, .int _ => some false
  | .int _, .non => some false
  | .non, .bl _ => some false
  | .bl _, .non => some false
  | .non, .str _ => some false
  | .str _, .non => some false
  | .int _, .str _ => some false
  | .str _, .int _ => some false
  | .bl _, .str _ => some false
  | .str _, .bl _ => some false
  | _, _ => none
noncomputable def eqF (d e : D) (own : Own) : R D := match sclEq d e with
  | some b => .ok (.bl b) own
  | none => (match toPyT own d, toPyT own e with
    | some x, some y => if SeqAt.shaped x = true ∧ SeqAt.shaped y = true then .ok (.bl (PyData.eqv x y)) own else .bad
    | _, _ => .bad)
noncomputable def neF (d e : D) (own : Own) : R D := match sclEq d e with
  | some b => .ok (.bl (!b)) own
  | none => (match toPyT own d, toPyT own e with
    | some x, some y => if SeqAt.shaped x = true ∧ SeqAt.shaped y = true then .ok (.bl (!PyData.eqv x y)) own else .bad
    | _, _ => .bad)
def D.isN : D → Bool
  | .non => true
  | _ => false
def isNF (d e : D) (own : Own) : R D := match e with
  | .non => .ok (.bl d.isN) own
  | _ => .bad
def notNF (d e : D) (own : Own) : R D := match e with
  | .non => .ok (.bl (!d.isN)) own
  | _ => .bad
theorem two64 : (2 : Int) ^ 64 = 18446744073709551616 := by decide
abbrev rCatS0 : R2 := fun x y H Q => ∃ i j, x = .str i ∧ y = .str j ∧ i.length + j.length ≤ sizeLine ∧ Q (.str (i ++ j)) H
section
variable {X : Cx} {C : Cn} {E : XK}
theorem oa_add (K : PySem.W.Frag) (h : X.K = K := by rfl) : OpR X (binaryOp .Add) (rOr (rI0 fun i j => .int (i + j)) (rOr rCatS0 (rOr rCat (rCatA K)))) := by subst h; exact Ws.op_or op_add (Ws.op_or op_add_str (Ws.op_or op_cat op_catA))
theorem ad_add : Ad2 C E (rOr (rI0 fun i j => .int (i + j)) (rOr rCatS0 (rOr rCat (rCatA C.K)))) addF := by
  intro ι own H x y d e Q r rx ry p
  unfold addF at p
  split at p
  · cases rx; cases ry
    exact .inl ⟨_, _, rfl, rfl, p.here r (.int _)⟩
  · cases rx; cases ry
    split at p
    · rename_i hz
      exact .inr (.inl ⟨_, _, rfl, rfl, szM hz, p.here r (.str _)⟩)
    · exact p.elim
  · split at p
    · rename_i hz
      obtain ⟨a, vs, rfl, h1, a1⟩ := tup_ok rx
      obtain ⟨b, ws, rfl, h2, a2⟩ := tup_ok ry
      refine .inr (.inr (.inr ⟨a, b, vs, ws, rfl, rfl, h1, h2, szM (by rw [a1.len, a2.len]; exact hz), fun e => ?_, fun e1 e2 => ?_, fun _ _ q hq => p.newT r (a1.append a2) hq⟩))
      · subst e; cases a1; exact p.here r ry
      · subst e2; cases a2; rw [List.append_nil] at p; exact p.here r rx
    · exact p.elim
  · split at p
    · rename_i e1 e2
      split at p
      · rename_i hz
        obtain ⟨a, vs, rfl, h1, a1⟩ := lstD_ok r rx e1
        obtain ⟨b, ws, rfl, h2, a2⟩ := lstD_ok r ry e2
        exact .inr (.inr (.inl ⟨a, b, vs, ws, rfl, rfl, h1, h2, szM (by rw [a1.len, a2.len]; exact hz), fun q hq => p.newL r (a1.append a2) hq⟩))
      · exact p.elim
    · exact p.elim
theorem ad_I0 {g : Int → Int → V} {f : D → D → Own → R D} (hf : ∀ d e own, f d e own = match d, e with | .int i, .int j => .ok (match g i j with | .int k => .int k | .bl k => .bl k | _ => .non) own | _, _ => .bad) (hg : ∀ i j, (∃ k, g i j = .int k) ∨ ∃ k, g i j = .bl k) : Ad2 C E (rI0 g) f := by
  intro ι own H x y d e Q r rx ry p
  rw [hf] at p
  split at p
  · rename_i i j
    cases rx; cases ry
    refine ⟨_, _, rfl, rfl, ?_⟩
    rcases hg i j with ⟨k, e⟩ | ⟨k, e⟩ <;> rw [e] at p ⊢
    · exact p.here r (.int _)
    · exact p.here r (.bl _)
  · exact p.elim
theorem ad_sub : Ad2 C E (rI0 fun i j => .int (i - j)) subF := ad_I0 (fun d e own => by unfold subF; rfl) fun i j => .inl ⟨_, rfl⟩
theorem ad_lt : Ad2 C E (rI0 fun i j => .bl (decide (i < j))) ltF := ad_I0 (fun d e own => by unfold ltF; simp only [cB_eq]) fun i j => .inr ⟨_, rfl⟩
theorem ad_le : Ad2 C E (rI0 fun i j => .bl (decide (i ≤ j))) leF := ad_I0 (fun d e own => by unfold leF; simp only [cB_eq]) fun i j => .inr ⟨_, rfl⟩
theorem ad_gt : Ad2 C E (rI0 fun i j => .bl (decide (j < i))) gtF := ad_I0 (fun d e own => by unfold gtF; simp only [cB_eq]) fun i j => .inr ⟨_, rfl⟩
theorem ad_ge : Ad2 C E (rI0 fun i j => .bl (decide (j ≤ i))) geF := ad_I0 (fun d e own => by unfold geF; simp only [cB_eq]) fun i j => .inr ⟨_, rfl⟩
theorem oa_mul : OpR X (binaryOp .Mult) (rOr (rI CMul fun i j => .int (i * j)) (rOr (rI CMulW fun i j => .int (i * j)) rRep)) := Ws.op_or op_mul (Ws.op_or op_mulW op_rep)
theorem ad_mul : Ad2 C E (rOr (rI CMul fun i j => .int (i * j)) (rOr (rI CMulW fun i j => .int (i * j)) rRep)) mulF := by
  intro ι own H x y d e Q r rx ry p
  unfold mulF at p
  split at p
  · rename_i i j
    cases rx; cases ry
    split at p
    · rename_i hz
      unfold mulOk at hz
      rw [cB_iff] at hz
      rcases hz with hz | hz
      · exact .inl ⟨_, _, rfl, rfl, by unfold CMul; rw [two64]; exact hz, p.here r (.int _)⟩
      · exact .inr (.inl ⟨_, _, rfl, rfl, hz, p.here r (.int _)⟩)
    · exact p.elim
  · rename_i k _
    split at p
    · rename_i xs e1
      split at p
      · rename_i hz
        split at p
        · rename_i hk
          rw [cB_iff] at hz hk
          obtain ⟨a, vs, rfl, h1, a1⟩ := lstD_ok r rx e1
          cases ry
          refine .inr (.inr ⟨a, k, vs, rfl, rfl, h1, by omega, by omega, szM (by rw [a1.len]; exact hz.2), fun q hq => p.newL r ?_ hq⟩)
          generalize k.toNat = n
          clear p hz hk hq
          induction n with
          | zero => exact .nil
          | succ n ih => rw [List.replicate_succ, List.replicate_succ, List.flatten_cons, List.flatten_cons]; exact a1.append ih
        · exact p.elim
      · exact p.elim
    · exact p.elim
  · exact p.elim
theorem ad_fdiv : Ad2 C E (rI CDivW fun i j => .int (i / j)) fdivF := by
  intro ι own H x y d e Q r rx ry p
  unfold fdivF at p
  split at p
  · cases rx; cases ry
    split at p
    · rename_i hz; rw [cB_iff] at hz; exact ⟨_, _, rfl, rfl, wide_div (b := 64) hz.1 (by omega) (by decide) (by decide), p.here r (.int _)⟩
    · exact p.elim
  · exact p.elim
theorem ad_mod : Ad2 C E (rI (fun _ j => 0 < j) fun i j => .int (i % j)) modF := by
  intro ι own H x y d e Q r rx ry p
  unfold modF at p
  split at p
  · cases rx; cases ry
    split at p
    · rename_i hz; exact ⟨_, _, rfl, rfl, cB_iff.mp hz, p.here r (.int _)⟩
    · exact p.elim
  · exact p.elim
theorem ad_pow : Ad2 C E (rI CPow fun i j => .int (i ^ j.toNat)) powF := by
  intro ι own H x y d e Q r rx ry p
  unfold powF at p
  split at p
  · cases rx; cases ry
    split at p
    · rename_i hz; rw [cB_iff] at hz; exact ⟨_, _, rfl, rfl, ⟨hz.1, by omega, by omega⟩, p.here r (.int _)⟩
    · exact p.elim
  · exact p.elim
theorem ad_neg : Ad1 C E (rU fun i => .int (-i)) negF := by
  intro ι own H x d Q r rx p
  unfold negF at p
  split at p
  · cases rx; exact ⟨_, rfl, p.here r (.int _)⟩
  · exact p.elim
theorem scl_ok {K : PySem.W.Frag} {ω : Hp} {ι : List Addr} {x y : V} {d e : D} {b : Bool} (rx : Rp K ω ι x d) (ry : Rp K ω ι y e) (h : sclEq d e = some b) : scal x y = true ∧ decide (x = y) = b := by
  unfold sclEq at h
  split at h <;> first | (cases h; done) | (cases h; cases rx; cases ry; refine ⟨rfl, ?_⟩; first | rfl | (rw [cB_eq]; first | exact dec_int | (apply decide_eq_decide.mpr; constructor <;> intro z <;> first | (cases z; rfl) | (rw [z]))) | (rename_i a b; cases a <;> cases b <;> rfl))
theorem oa_eq (K : PySem.W.Frag) (hu : X.A.units + 64 < cLine) (h : X.K = K := by rfl) : OpR X (compareOp .Eq) (rOr rEq (rEqD K)) := by subst h; exact Ws.op_or op_eq (op_eqD hu)
theorem oa_ne (K : PySem.W.Frag) (hu : X.A.units + 64 < cLine) (h : X.K = K := by rfl) : OpR X (compareOp .NotEq) (rOr rNe (rNeD K)) := by subst h; exact Ws.op_or op_ne (op_neD hu)
theorem ad_eq : Ad2 C E (rOr rEq (rEqD C.K)) eqF := by
  intro ι own H x y d e Q r rx ry p
  unfold eqF at p
  split at p
  · rename_i b h
    obtain ⟨h1, h2⟩ := scl_ok rx ry h
    refine .inl ⟨h1, ?_⟩
    rw [h2]
    exact p.here r (.bl _)
  · split at p
    · rename_i e1 e2
      split at p
      · rename_i hz; exact .inr ⟨_, _, toPyT_ok r rx e1, toPyT_ok r ry e2, hz.1, hz.2, p.here r (.bl _)⟩
      · exact p.elim
    · exact p.elim
theorem ad_ne : Ad2 C E (rOr rNe (rNeD C.K)) neF := by
  intro ι own H x y d e Q r rx ry p
  unfold neF at p
  split at p
  · rename_i b h
    obtain ⟨h1, h2⟩ := scl_ok rx ry h
    refine .inl ⟨h1, ?_⟩
    rw [h2]
    exact p.here r (.bl _)
  · split at p
    · rename_i e1 e2
      split at p
      · rename_i hz; exact .inr ⟨_, _, toPyT_ok r rx e1, toPyT_ok r ry e2, hz.1, hz.2, p.here r (.bl _)⟩
      · exact p.elim
    · exact p.elim
theorem isN_ok {K : PySem.W.Frag} {ω : Hp} {ι : List Addr} {x : V} {d : D} (h : Rp K ω ι x d) : decide (x = .non) = d.isN := by
  cases h <;> rfl
abbrev rIsN0 : R2 := fun x y H Q => y = .non ∧ Q (.bl (decide (x = .non))) H
abbrev rNotN0 : R2 := fun x y H Q => y = .non ∧ Q (.bl (!decide (x = .non))) H
theorem ad_isN : Ad2 C E rIsN0 isNF := by
  intro ι own H x y d e Q r rx ry p
  unfold isNF at p
  split at p
  · cases ry; refine ⟨rfl, ?_⟩; rw [isN_ok rx]; exact p.here r (.bl _)
  · exact p.elim
theorem ad_notN : Ad2 C E rNotN0 notNF := by
  intro ι own H x y d e Q r rx ry p
  unfold notNF at p
  split at p
  · cases ry; refine ⟨rfl, ?_⟩; rw [isN_ok rx]; exact p.here r (.bl _)
  · exact p.elim
end
/-! ### in -/
def D.flat : D → Bool
  | .non => true | .bl _ => true | .int _ => true | .str _ => true | _ => false
def D.eqf : D → D → Bool
  | .non, .non => true
  | .bl a, .bl b => a == b
  | .bl a, .int b => (if a then 1 else 0) == b
  | .int a, .bl b => a == (if b then 1 else 0)
  | .int a, .int b => a == b
  | .str a, .str b => a == b
  | _, _ => false
def rowD (own : Own) : D → Option (List D)
  | .tup xs => some xs
  | d => seqD own d
/-- in a row of flat things, in a list of any -/
def inF (d e : D) (own : Own) : R D := match rowD own e with
  | some ds => if d.flat = true ∧ ds.all D.flat = true then .ok (.bl (ds.any fun z => z.eqf d)) own else .bad
  | none => .bad
def ninF (d e : D) (own : Own) : R D := match rowD own e with
  | some ds => if d.flat = true ∧ ds.all D.flat = true then .ok (.bl (!ds.any fun z => z.eqf d)) own else .bad
  | none => .bad
/-- in a list, at any depth -/
def inDF (d e : D) (own : Own) : R D := match toPyT own d, toPyT own e with
  | some x, some (.list ys) => if SeqAt.shaped x = true ∧ SeqAt.shaped (.list ys) = true then .ok (.bl (ys.any fun z => PyData.eqv z x)) own else .bad
  | _, _ => .bad
def inSF (d e : D) (own : Own) : R D := match d, e with
  | .str s, .str z => match s.cps.toList with
    | [c] => .ok (.bl (decide (c ∈ z.cps.toList))) own
    | _ => .bad
  | _, _ => .bad
section
variable {X : Cx} {C : Cn} {E : XK} {ι : List Addr} {own : Own} {H : Hp}
theorem rowD_ok {x : V} {d : D} (r : Rel C ι own H) (h : Rp C.K (fz C ι H) ι x d) {ds : List D} (e : rowD own d = some ds) : ∃ a vs, x = .ref a ∧ (SqL C.K H a vs ∨ SqT C.K H a vs) ∧ RpAll C.K (fz C ι H) ι vs ds := by
  cases d with
  | tup xs =>
    cases e
    obtain ⟨a, vs, h1, h2, h3⟩ := tup_ok h
    exact ⟨a, vs, h1, .inr h2, h3⟩
  | _ =>
    obtain ⟨a, vs, h1, h2, h3⟩ := seqD_ok r h e
    exact ⟨a, vs, h1, .inl h2, h3⟩
theorem flat_ok {K : PySem.W.Frag} {ω : Hp} {x : V} {d : D} (h : Rp K ω ι x d) (e : d.flat = true) : flatV x = true := by
  cases h <;> first | rfl | cases e
theorem flatAll_ok {K : PySem.W.Frag} {ω : Hp} {xs : List V} {ds : List D} (h : RpAll K ω ι xs ds) (e : ds.all D.flat = true) : xs.all flatV = true := by
  induction xs generalizing ds with
  | nil => rfl
  | cons x xs ih =>
    cases h with
    | cons a b =>
      rw [List.all_cons, Bool.and_eq_true] at e ⊢
      exact ⟨flat_ok a e.1, ih b e.2⟩
theorem eqf_ok {K : PySem.W.Frag} {ω : Hp} {x y : V} {d e : D} (h : Rp K ω ι x d) (h' : Rp K ω ι y e) (f : d.flat = true) : eqV x y = d.eqf e := by
  cases h <;> first | (cases h' <;> rfl) | cases f
theorem inV_ok {K : PySem.W.Frag} {ω : Hp} {y : V} {e : D} {xs : List V} {ds : List D} (h : RpAll K ω ι xs ds) (h' : Rp K ω ι y e) (f : ds.all D.flat = true) : inV y xs = ds.any fun z => z.eqf e := by
  unfold inV
  induction xs generalizing ds with
  | nil => cases h; rfl
  | cons x xs ih =>
    cases h with
    | cons a b =>
      rw [List.all_cons, Bool.and_eq_true] at f
      rw [List.any_cons, List.any_cons, ih b f.2, eqf_ok a h' f.1]
theorem ad_in : Ad2 C E (rIn C.K false) inF := by
  intro ι own H x y d e Q r rx ry p
  unfold inF at p
  split at p
  · rename_i ds e1
    split at p
    · rename_i hz
      obtain ⟨a, vs, rfl, h1, h2⟩ := rowD_ok r ry e1
      refine ⟨a, vs, rfl, h1, flat_ok rx hz.1, flatAll_ok h2 hz.2, ?_⟩
      show Q (.bl (inV x vs)) H
      rw [inV_ok h2 rx hz.2]
      exact p.here r (.bl _)
    · exact p.elim
  · exact p.elim
theorem ad_nin : Ad2 C E (rIn C.K true) ninF := by
  intro ι own H x y d e Q r rx ry p
  unfold ninF at p
  split at p
  · rename_i ds e1
    split at p
    · rename_i hz
      obtain ⟨a, vs, rfl, h1, h2⟩ := rowD_ok r ry e1
      refine ⟨a, vs, rfl, h1, flat_ok rx hz.1, flatAll_ok h2 hz.2, ?_⟩
      show Q (.bl (!inV x vs)) H
      rw [inV_ok h2 rx hz.2]
      exact p.here r (.bl _)
    · exact p.elim
  · exact p.elim
theorem ad_inD : Ad2 C E (rInD C.K) inDF := by
  intro ι own H x y d e Q r rx ry p
  unfold inDF at p
  split at p
  · rename_i e1 e2
    split at p
    · rename_i hz; exact ⟨_, _, toPyT_ok r rx e1, toPyT_ok r ry e2, hz.1, hz.2, p.here r (.bl _)⟩
    · exact p.elim
  · exact p.elim
theorem ad_inS : Ad2 C E rInSg inSF := by
  intro ι own H x y d e Q r rx ry p
  unfold inSF at p
  split at p
  · rename_i s z
    split at p
    · rename_i c e
      cases rx; cases ry
      refine ⟨c, z, ?_, rfl, p.here r (.bl _)⟩
      have : s = ⟨#[c]⟩ := by
        have := congrArg List.toArray e
        simp at this
        cases s; simp at this; rw [this]
      rw [this]
    · exact p.elim
  · exact p.elim
end
/-! ### places -/
def ixF (d e : D) (own : Own) : R D := match d, e with
  | .str s, .int i => if s.length ≤ 1000000 then (match atI s.cps.toList i with
    | some c => .ok (.str ⟨#[c]⟩) own
    | none => .bad) else .bad
  | d, .int i => match rowD own d with
    | some ds => match atI ds i with
      | some v => .ok v own
      | none => .bad
    | none => .bad
  | _, _ => .bad
section
variable {X : Cx} {C : Cn} {E : XK}
theorem oa_ix (K : PySem.W.Frag) (h : X.K = K := by rfl) : IxR X (rOr (rIxL K) (rOr (rIxT K) rIxS)) := by subst h; exact Ws.ix_or ix_list (Ws.ix_or ix_tup ix_str)
theorem atI_ok {K : PySem.W.Frag} {ω : Hp} {ι : List Addr} {vs : List V} {ds : List D} {i : Int} {d : D} (h : RpAll K ω ι vs ds) (e : atI ds i = some d) : ∃ v, atI vs i = some v ∧ Rp K ω ι v d := by
  unfold atI at e ⊢
  rw [h.len]
  cases q : ixN ds.length i with
  | none => rw [q] at e; cases e
  | some j => rw [q] at e; exact h.get e
theorem ad_ix : Ad2 C E (rOr (rIxL C.K) (rOr (rIxT C.K) rIxS)) ixF := by
  intro ι own H x y d e Q r rx ry p
  unfold ixF at p
  split at p
  · split at p
    · rename_i hz
      split at p
      · rename_i c e1
        cases rx; cases ry
        exact .inr (.inr ⟨_, _, _, rfl, rfl, szM hz, e1, p.here r (.str _)⟩)
      · exact p.elim
    · exact p.elim
  · split at p
    · rename_i ds e1
      split at p
      · rename_i v e2
        cases ry
        obtain ⟨a, vs, rfl, h1, h2⟩ := rowD_ok r rx e1
        obtain ⟨w, e3, rw'⟩ := atI_ok h2 e2
        rcases h1 with h1 | h1
        · exact .inl ⟨a, vs, _, w, rfl, rfl, h1, e3, p.here r rw'⟩
        · exact .inr (.inl ⟨a, vs, _, w, rfl, rfl, h1, e3, p.here r rw'⟩)
      · exact p.elim
    · exact p.elim
  · exact p.elim
end
/-! ### parts -/
def cutD (xs : List D) (lo hi : Option Int) : List D := (xs.drop (HT.sIx xs.length 0 lo)).take (HT.sIx xs.length xs.length hi - HT.sIx xs.length 0 lo)
theorem cut_ok {K : PySem.W.Frag} {ω : Hp} {ι : List Addr} {vs : List V} {ds : List D} (h : RpAll K ω ι vs ds) (lo hi : Option Int) : RpAll K ω ι (cutV vs lo hi) (cutD ds lo hi) := by
  unfold cutV cutD
  rw [h.len]
  exact (h.drop _).take _
def slF (d : D) (lo hi : Option Int) (own : Own) : R D := match d with
  | .str s => if s.length ≤ 1000000 then .ok (.str (Txt.slice s lo hi)) own else .bad
  | .tup xs => .ok (.tup (cutD xs lo hi)) own
  | d => match seqD own d with
    | some xs => .ok (.lst (cutD xs lo hi)) own
    | none => .bad
def mPart (a : M D) : M (Option Int) := mB a fun d _ own => match d with
  | .int i => .ok (some i) own
  | _ => .bad
def mNoPart : M (Option Int) := fun _ own => .ok none own
def mSl (a : M D) (l h : M (Option Int)) : M D := mB a fun d => mB l fun lo => mB h fun hi _ own => slF d lo hi own
section
variable {X : Cx} {C : Cn} {E : XK} {a : Expr} {ma : M D} {pos p2 : Pos} {lo hi : Option Expr} {ml mh : M (Option Int)}
theorem po_w {X : Cx} {e : Option Expr} {t t' : TO} (h : PO X e t) (w : ∀ σ H Q, t' σ H Q → t σ H Q) : PO X e t' := ⟨fun pins s σ H Q I z => h.run pins s σ H Q I (w σ H Q z)⟩
theorem me_part (h : PE X a (lE C E ma)) : PO X (some a) (lO C E (mPart ma)) := po_w (po_some h) fun σ H Q h => by
  refine lf_imp (lf_bind h) ?_
  rintro x H1 ⟨ι1, env1, own1, d, A1, rx, p1⟩
  cases d with
  | int i => cases rx; exact ⟨i, rfl, Post.here p1 A1.r rfl⟩
  | _ => exact (show False from p1).elim
theorem me_nopart : PO X none (lO C E mNoPart) := po_w po_none fun σ H Q h => by
  obtain ⟨ι, env, own, A, p⟩ := h
  exact Post.here p A.r rfl
theorem oa_sl (K : PySem.W.Frag) (h : X.K = K := by rfl) : SlR X (rOrS (rSlL K) (rOrS (rSlA K) C8.rSlX)) := by subst h; exact sl_or sl_list (sl_or sl_tupA C8.sl_txt)
theorem me_sl (he : PE X a (lE C E ma)) (hl : PO X lo (lO C E ml)) (hh : PO X hi (lO C E mh)) (hX : X.K = C.K := by rfl) : PE X (.Subscript a (.Slice lo hi none p2) pos) (lE C E (mSl ma ml mh)) := pe_w (pe_slice (oa_sl C.K hX) he hl hh) fun σ H Q h => by
  refine lf_imp (lf_bind h) ?_
  rintro x H1 ⟨ι1, env1, own1, d, A1, rx, p1⟩
  refine ⟨ι1, env1, own1, A1, p1.bind.imp ?_⟩
  rintro l H2 ⟨ι2, own2, l', g2, r2, rfl, p2⟩
  refine ⟨ι2, env1, own2, A1.go g2 r2, Post.imp (Post.bind (r := mh env1 own2) p2) ?_⟩
  rintro u H3 ⟨ι3, own3, u', g3, r3, rfl, p3⟩
  replace rx := rx.mono (g2.trans g3).sub (g2.trans g3).pre
  have p3 : Post (rV C.K) C E ι3 H3 (slF d l u own3) Q := p3
  clear p2 p1 h
  unfold slF at p3
  split at p3
  · split at p3
    · rename_i hz; cases rx; exact .inr (.inr ⟨_, rfl, szM hz, p3.here r3 (.str _)⟩)
    · exact p3.elim
  · rename_i xs _
    obtain ⟨b, vs, rfl, h1, h2⟩ := tup_ok rx
    refine .inr (.inl ⟨b, vs, rfl, h1, fun e => ?_, fun _ p hp => p3.newT r3 (cut_ok h2 _ _) hp⟩)
    have : cutD xs l u = xs := by
      unfold cutD
      rw [h2.len] at e
      rw [e.1, e.2]
      simp
    rw [this] at p3
    exact p3.here r3 rx
  · split at p3
    · rename_i xs e1
      obtain ⟨b, vs, rfl, h1, h2⟩ := seqD_ok r3 rx e1
      exact .inl ⟨b, vs, rfl, h1, fun p hp => p3.newL r3 (cut_ok h2 _ _) hp⟩
    · exact p3.elim
end
end Mi

set_option Elab.async false
set_option linter.all false
set_option maxRecDepth 100000
set_option maxHeartbeats 4000000
namespace Mi
open PySem PySem.Spec PyProof.Rows L2 HotX LamX Ws
/-! ### statements -/
inductive RS where
  | nx (env : Env) (own : Own) | rt (d : D) (own : Own) | bk (env : Env) (own : Own) | ct (env : Env) (own : Own) | exc (c : Nat) (own : Own) | bad
abbrev MS := Env → Own → RS
def PostS (C : Cn) (E : XK) (ι : List Addr) (H : Hp) (r : RS) (Dn : Ends) : Prop := match r with
  | .nx env own' => ∀ σ' ι' H', Gr C ι H ι' H' → At C ι' env own' σ' H' → Dn.nx σ' H'
  | .rt d own' => ∀ v ι' H', Gr C ι H ι' H' → Rel C ι' own' H' → Rp C.K (fz C ι' H') ι' v d → Dn.rt v H'
  | .bk env own' => ∀ σ' ι' H', Gr C ι H ι' H' → At C ι' env own' σ' H' → Dn.bk σ' H'
  | .ct env own' => ∀ σ' ι' H', Gr C ι H ι' H' → At C ι' env own' σ' H' → Dn.ct σ' H'
  | .exc c own' => c < 6 ∧ ∀ ι' H', Gr C ι H ι' H' → Rel C ι' own' H' → E (.ref (C.ec c)) none H'
  | .bad => False
theorem PostS.gr {C : Cn} {E : XK} {ι ι' : List Addr} {H H' : Hp} {r : RS} {Dn : Ends} (h : PostS C E ι H r Dn) (g : Gr C ι H ι' H') : PostS C E ι' H' r Dn := by
  cases r with
  | nx e o => exact fun σ2 ι2 H2 g2 a => h σ2 ι2 H2 (g.trans g2) a
  | rt d o => exact fun v ι2 H2 g2 rl rp => h v ι2 H2 (g.trans g2) rl rp
  | bk e o => exact fun σ2 ι2 H2 g2 a => h σ2 ι2 H2 (g.trans g2) a
  | ct e o => exact fun σ2 ι2 H2 g2 a => h σ2 ι2 H2 (g.trans g2) a
  | exc c o => exact ⟨h.1, fun ι2 H2 g2 rl => h.2 ι2 H2 (g.trans g2) rl⟩
  | bad => exact h
def lS (C : Cn) (E : XK) (m : MS) : TS := fun Dn σ H => ∃ ι env own, At C ι env own σ H ∧ PostS C E ι H (m env own) Dn
theorem lS_at {C : Cn} {E : XK} {m : MS} {σ : L2.St} {ι : List Addr} {env : Env} {own : Own} {H : Hp} {Dn : Ends} (A : At C ι env own σ H) (p : PostS C E ι H (m env own) Dn) : lS C E m Dn σ H := ⟨ι, env, own, A, p⟩
/-- an expression, then more -/
def sB {α : Type} (m : M α) (k : α → MS) : MS := fun env own => match m env own with
  | .ok a o => k a env o
  | .exc c o => .exc c o
  | .bad => .bad
theorem lS_bind {α β : Type} {rep : Rd3 β α} {C : Cn} {E : XK} {m : M α} {k : α → MS} {σ : L2.St} {H : Hp} {Dn : Ends} (h : lS C E (sB m k) Dn σ H) :
    lf rep C E m σ H fun v H' => ∃ ι' env own' a, At C ι' env own' σ H' ∧ rep (fz C ι' H') ι' v a ∧ PostS C E ι' H' (k a env own') Dn := by
  obtain ⟨ι, env, own, A, p⟩ := h
  refine ⟨ι, env, own, A, ?_⟩
  unfold sB at p
  cases q : m env own with
  | ok d o => rw [q] at p; exact fun v ι' H' g rl rp => ⟨ι', env, o, d, A.go g rl, rp, PostS.gr p g⟩
  | exc c o => rw [q] at p; exact p
  | bad => rw [q] at p; exact p
def sSeq (a b : MS) : MS := fun env own => match a env own with
  | .nx e o => b e o
  | r => r
def sNil : MS := fun env own => .nx env own
def sExp (a : M D) : MS := sB a fun _ env own => .nx env own
def sRet (a : M D) : MS := sB a fun d _ own => .rt d own
def sRetN : MS := fun _ own => .rt .non own
def sIf (t : M Bool) (a b : MS) : MS := sB t fun c => if c = true then a else b
/-- forgetting names, ahead of a statement -/
def sWipe (vs : List Nat) (a : MS) : MS := fun env own => a (wipeD env vs) own
abbrev MG := D → MS
def sAsg (a : M D) (g : MG) : MS := sB a g
def gN (i : Nat) : MG := fun d env own => .nx (env.set i (some d)) own
def sRaise (c : Nat) : MS := fun _ own => .exc c own
def sBrk : MS := fun env own => .bk env own
def sCont : MS := fun env own => .ct env own
def sWhile (t : M Bool) (b : MS) : Nat → MS
  | 0 => fun _ _ => .bad
  | n + 1 => sB t fun c => if c = true then (fun env own => match b env own with
      | .nx e o => sWhile t b n e o
      | .ct e o => sWhile t b n e o
      | .bk e o => .nx e o
      | r => r) else sNil
/-- a target's meaning; it may not return -/
def PostN (C : Cn) (E : XK) (ι : List Addr) (H : Hp) (r : RS) (Rn : L2.St → Hp → Prop) : Prop := match r with
  | .nx env own' => ∀ σ' ι' H', Gr C ι H ι' H' → At C ι' env own' σ' H' → Rn σ' H'
  | .exc c own' => c < 6 ∧ ∀ ι' H', Gr C ι H ι' H' → Rel C ι' own' H' → E (.ref (C.ec c)) none H'
  | _ => False
def lG (C : Cn) (E : XK) (g : MG) : TG := fun v σ H Rn => ∃ ι env own d, At C ι env own σ H ∧ Rp C.K (fz C ι H) ι v d ∧ PostN C E ι H (g d env own) Rn
/-- a target whose run never returns, breaks .. -/
def GOk (g : MG) : Prop := ∀ d env own, match g d env own with
  | .nx _ _ => True | .exc _ _ => True | .bad => True | _ => False
theorem PostS.toN {C : Cn} {E : XK} {ι : List Addr} {H : Hp} {g : MG} (ok : GOk g) {d : D} {env : Env} {own : Own} {Dn : Ends} (h : PostS C E ι H (g d env own) Dn) : PostN C E ι H (g d env own) Dn.nx := by
  have := ok d env own
  cases q : g d env own with
  | nx e o => rw [q] at h; exact h
  | exc c o => rw [q] at h; exact h
  | bad => rw [q] at h; exact h
  | _ => rw [q] at this; exact this.elim
section
variable {X : Cx} {C : Cn} {E : XK} {a b c : Expr} {ma : M D} {ta : M Bool} {pos : Pos} {st : Stmt} {rest body orelse : List Stmt} {m1' m2' : MS} {tg : Expr} {g : MG}
theorem ms_nil : PSs X [] (lS C E sNil) := pss_w pss_nil fun Dn σ H h => by
  obtain ⟨ι, env, own, A, p⟩ := h
  exact p σ ι H .refl A
theorem ms_cons (h1 : PS X st (lS C E m1')) (h2 : PSs X rest (lS C E m2')) : PSs X (st :: rest) (lS C E (sSeq m1' m2')) := pss_w (pss_cons h1 h2) fun Dn σ H h => by
  obtain ⟨ι, env, own, A, p⟩ := h
  refine ⟨ι, env, own, A, ?_⟩
  unfold sSeq at p
  cases q : m1' env own with
  | nx e o => rw [q] at p; exact fun σ2 ι2 H2 g2 a2 => ⟨ι2, e, o, a2, PostS.gr p g2⟩
  | rt d o => rw [q] at p; exact p
  | bk e o => rw [q] at p; exact p
  | ct e o => rw [q] at p; exact p
  | exc c o => rw [q] at p; exact p
  | bad => rw [q] at p; exact p
theorem ms_one (h : PS X st (lS C E m1')) : PSs X [st] (lS C E m1') := pss_one h
theorem ms_wipe (vs : List Nat) (h : PS X st (lS C E m1')) : PS X st (lS C E (sWipe vs m1')) := ps_w h fun Dn σ H h => by
  obtain ⟨ι, env, own, A, p⟩ := h
  exact ⟨ι, wipeD env vs, own, ⟨A.e.forget vs, A.r⟩, p⟩
theorem ms_wipeB (vs : List Nat) (h : PSs X rest (lS C E m1')) : PSs X rest (lS C E (sWipe vs m1')) := pss_w h fun Dn σ H h => by
  obtain ⟨ι, env, own, A, p⟩ := h
  exact ⟨ι, wipeD env vs, own, ⟨A.e.forget vs, A.r⟩, p⟩
theorem ms_expr (h : PE X a (lE C E ma)) (hs : swapsWith a none pos.line X.env = pure false := by rfl) : PS X (.Expr a pos) (lS C E (sExp ma)) := ps_w (ps_expr h hs) fun Dn σ H h => by
  refine lf_imp (lS_bind h) ?_
  rintro x H1 ⟨ι1, env1, own1, d, A1, rx, p1⟩
  exact p1 σ ι1 H1 .refl A1
theorem ms_ret (h : PE X a (lE C E ma)) : PS X (.Return (some a) pos) (lS C E (sRet ma)) := ps_w (ps_ret h) fun Dn σ H h => by
  refine lf_imp (lS_bind h) ?_
  rintro x H1 ⟨ι1, env1, own1, d, A1, rx, p1⟩
  exact p1 x ι1 H1 .refl A1.r rx
theorem ms_retN : PS X (.Return none pos) (lS C E sRetN) := ps_w ps_retN fun Dn σ H h => by
  obtain ⟨ι, env, own, A, p⟩ := h
  exact p .non ι H .refl A.r .non
theorem ms_if (h : PT X c (lT C E ta)) (h1 : PSs X body (lS C E m1')) (h2 : PSs X orelse (lS C E m2')) : PS X (.If c body orelse pos) (lS C E (sIf ta m1' m2')) := ps_w (ps_if h h1 h2) fun Dn σ H h => by
  refine lf_imp (lS_bind h) ?_
  rintro x H1 ⟨ι1, env1, own1, d, A1, rfl, p1⟩
  cases x with
  | true => rw [if_pos rfl]; exact lS_at A1 p1
  | false => rw [if_neg Bool.false_ne_true]; exact lS_at A1 p1
theorem ms_pass : PS X (.Pass pos) (lS C E sNil) := ps_w ps_pass fun Dn σ H h => by
  obtain ⟨ι, env, own, A, p⟩ := h
  exact p σ ι H .refl A
theorem ms_cont : PS X (.Continue pos) (lS C E sCont) := ps_w ps_continue fun Dn σ H h => by
  obtain ⟨ι, env, own, A, p⟩ := h
  exact p σ ι H .refl A
theorem ms_set {i : Nat} {x : Str} {pos' : Pos} (hN : X.N.Nodup) (hi : X.N[i]? = some x) (hx : Loc X.env.scope x) (he : PE X a (lE C E ma)) (hs : swapsWith a (some (.Name x pos')) pos.line X.env = pure false := by rfl) (hf : X.fn x = true ∨ X.env.scope.names.lookup x = some .local := by first | exact .inl rfl | exact .inr rfl | assumption) :
    PS X (.Assign [.Name x pos'] a pos) (lS C E (sAsg ma (gN i))) := ps_w (ps_set hN hi hx he hs hf) fun Dn σ H h => by
  refine lf_imp (lS_bind h) ?_
  rintro x H1 ⟨ι1, env1, own1, d, A1, rx, p1⟩
  exact p1 _ ι1 H1 .refl ⟨A1.e.set i rx, A1.r⟩
theorem pg_w {X : Cx} {e : Expr} {t t' : TG} (h : PG X e t) (w : ∀ v σ H Q, t' v σ H Q → t v σ H Q) : PG X e t' := ⟨fun pins s σ H v u Q I r z => h.run pins s σ H v u Q I r (w v σ H Q z)⟩
theorem ms_asg (ok : GOk g) (he : PE X a (lE C E ma)) (hg : PG X tg (lG C E g)) (hs : swapsWithSole [tg] a pos.line X.env = pure false := by rfl) (hw : swappedStores [tg] a X.env = pure none := by rfl)
    (h1 : (assignEach [tg] X.env).map (·.2) = [assign tg X.env] := by rfl) : PS X (.Assign [tg] a pos) (lS C E (sAsg ma g)) := ps_w (ps_asg he hg hs hw h1) fun Dn σ H h => by
  refine lf_imp (lS_bind h) ?_
  rintro x H1 ⟨ι1, env1, own1, d, A1, rx, p1⟩
  exact ⟨ι1, env1, own1, d, A1, rx, p1.toN ok⟩
theorem mg_n {i : Nat} {x : Str} (hN : X.N.Nodup) (hi : X.N[i]? = some x) (hx : Loc X.env.scope x) (hf : X.fn x = true ∨ X.env.scope.names.lookup x = some .local := by first | exact .inl rfl | exact .inr rfl | assumption) : PG X (.Name x pos) (lG C E (gN i)) := pg_w (pg_name hN hi hx hf) fun v σ H Rn h => by
  obtain ⟨ι, env, own, d, A, r, p⟩ := h
  exact p _ ι H .refl ⟨A.e.set i r, A.r⟩
theorem gok_n {i : Nat} : GOk (gN i) := fun d env own => trivial
/-! several names at once -/
def gsNil : List D → MS := fun ds env own => match ds with
  | [] => .nx env own
  | _ => .bad
def gsCons (g : MG) (r : List D → MS) : List D → MS := fun ds env own => match ds with
  | d :: ds => (match g d env own with
    | .nx e o => r ds e o
    | z => z)
  | _ => .bad
def gT (n : Nat) (r : List D → MS) : MG := fun d env own => match d with
  | .tup ds => if ds.length = n then r ds env own else .bad
  | _ => .bad
def lGs (C : Cn) (E : XK) (g : List D → MS) : TGs := fun vs σ H Rn => ∃ ι env own ds, At C ι env own σ H ∧ RpAll C.K (fz C ι H) ι vs ds ∧ PostN C E ι H (g ds env own) Rn
theorem pgs_w {X : Cx} {e : List Expr} {t t' : TGs} (h : PGs X e t) (w : ∀ v σ H Q, t' v σ H Q → t v σ H Q) : PGs X e t' := ⟨fun pins s σ H v u Q I r z => h.run pins s σ H v u Q I r (w v σ H Q z)⟩
theorem PostN.gr {ι ι' : List Addr} {H H' : Hp} {r : RS} {Rn : L2.St → Hp → Prop} (h : PostN C E ι H r Rn) (g : Gr C ι H ι' H') : PostN C E ι' H' r Rn := by
  cases r with
  | nx e o => exact fun σ2 ι2 H2 g2 a => h σ2 ι2 H2 (g.trans g2) a
  | exc c o => exact ⟨h.1, fun ι2 H2 g2 rl => h.2 ι2 H2 (g.trans g2) rl⟩
  | _ => exact h
theorem mgs_nil : PGs X [] (lGs C E gsNil) := pgs_w pgs_nil fun vs σ H Rn h => by
  obtain ⟨ι, env, own, ds, A, r, p⟩ := h
  cases r with
  | nil => exact ⟨rfl, p σ ι H .refl A⟩
  | cons _ _ => exact (show False from p).elim
theorem mgs_cons {es : List Expr} {rs : List D → MS} (h1 : PG X a (lG C E g)) (h2 : PGs X es (lGs C E rs)) (hs : (assignEach (a :: es) X.env).map (·.2) = assign a X.env :: (assignEach es X.env).map (·.2) := by rfl) : PGs X (a :: es) (lGs C E (gsCons g rs)) := pgs_w (pgs_cons h1 h2 hs) fun vs σ H Rn h => by
  obtain ⟨ι, env, own, ds, A, r, p⟩ := h
  cases r with
  | nil => exact (show False from p).elim
  | cons r rr =>
    rename_i v vs d ds
    refine ⟨v, vs, rfl, ι, env, own, d, A, r, ?_⟩
    have p : PostN C E ι H (match g d env own with | .nx e o => rs ds e o | z => z) Rn := p
    cases q : g d env own with
    | nx e o => rw [q] at p; exact fun σ2 ι2 H2 g2 a2 => ⟨ι2, e, o, ds, a2, rr.mono g2.sub g2.pre, PostN.gr p g2⟩
    | exc c o => rw [q] at p; exact p
    | rt d o => rw [q] at p; exact p
    | bk d o => rw [q] at p; exact p
    | ct d o => rw [q] at p; exact p
    | bad => rw [q] at p; exact p
theorem mg_t {es : List Expr} {k : Nat} {n : Nat} {rs : List D → MS} (hc : X.calm = true) (h : PGs X es (lGs C E rs)) (hX : X.K = C.K := by rfl) (hn : (assignEach es X.env).length = n := by rfl) (hst : (assignEach es X.env).findIdx? (·.1) = none := by rfl) : PG X (.Tuple es k pos) (lG C E (gT n rs)) := pg_w (kg_tup C.K hc h hX hn hst) fun v σ H Rn h => by
  obtain ⟨ι, env, own, d, A, r, p⟩ := h
  unfold gT at p
  split at p
  · split at p
    · rename_i hl
      obtain ⟨a, vs, rfl, h1, h2⟩ := tup_ok r
      exact ⟨a, vs, rfl, h1, by rw [h2.len]; exact hl, ι, env, own, _, A, h2, p⟩
    · exact p.elim
  · exact p.elim
theorem gsok_nil : ∀ d env own, match gsNil d env own with | .nx _ _ => True | .exc _ _ => True | .bad => True | _ => False := fun d env own => by
  unfold gsNil
  cases d <;> trivial
theorem gsok_cons {rs : List D → MS} (ok : GOk g) (h : ∀ d env own, match rs d env own with | .nx _ _ => True | .exc _ _ => True | .bad => True | _ => False) : ∀ d env own, match gsCons g rs d env own with | .nx _ _ => True | .exc _ _ => True | .bad => True | _ => False := fun ds env own => by
  unfold gsCons
  cases ds with
  | nil => trivial
  | cons d ds =>
    have := ok d env own
    dsimp only
    cases q : g d env own with
    | nx e o => exact h ds e o
    | exc c o => trivial
    | bad => trivial
    | _ => rw [q] at this; exact this.elim
theorem gok_t {n : Nat} {rs : List D → MS} (h : ∀ d env own, match rs d env own with | .nx _ _ => True | .exc _ _ => True | .bad => True | _ => False) : GOk (gT n rs) := fun d env own => by
  unfold gT
  cases d with
  | tup ds =>
    dsimp only
    by_cases e : ds.length = n
    · rw [if_pos e]; exact h ds env own
    · rw [if_neg e]; trivial
  | _ => trivial
/-! ### while -/
theorem ms_while (n : Nat) (hp : PassesOwn (model X.prog X.w) X.A X.env X.xe) (hc : PT X c (lT C E ta)) (hb : PSs X body (lS C E m1')) : PS X (.While c body [] pos) (lS C E (sWhile ta m1' n)) := ps_w (ps_while hp hc hb) fun Dn σ H h => by
  refine ⟨fun m σ H => lS C E (sWhile ta m1' m) Dn σ H, ⟨n, h⟩, fun m σ H h => ?_⟩
  cases m with
  | zero => obtain ⟨ι, env, own, A, p⟩ := h; exact (show False from p).elim
  | succ m =>
    unfold sWhile at h
    refine lf_imp (lS_bind h) ?_
    rintro x H1 ⟨ι1, env1, own1, d, A1, rfl, p1⟩
    cases x with
    | false => rw [if_neg Bool.false_ne_true]; exact p1 σ ι1 H1 .refl A1
    | true =>
      rw [if_pos rfl]
      refine ⟨fun σ' H' => lS C E (sWhile ta m1' m) Dn σ' H', fun σ' H' z => ⟨m, Nat.lt_succ_self m, z⟩, ι1, env1, own1, A1, ?_⟩
      rw [if_pos rfl] at p1
      cases q : m1' env1 own1 with
      | nx e o => rw [q] at p1; exact fun σ2 ι2 H2 g2 a2 => ⟨ι2, e, o, a2, PostS.gr p1 g2⟩
      | ct e o => rw [q] at p1; exact fun σ2 ι2 H2 g2 a2 => ⟨ι2, e, o, a2, PostS.gr p1 g2⟩
      | bk e o => rw [q] at p1; exact p1
      | rt d o => rw [q] at p1; exact p1
      | exc c o => rw [q] at p1; exact p1
      | bad => rw [q] at p1; exact p1
end
/-! ### for: what is walked is a list of data -/
def Cn.wh (C : Cn) (h : List Addr) : Cn := { C with hid := h }
/-- things that stay as they are while they are walked -/
abbrev Wt := List (Nat × Ob)
def Held (W : Wt) (own : Own) : Prop := ∀ p ∈ W, own[p.1]? = some p.2
theorem held_nil {own : Own} : Held [] own := fun p hp => nomatch hp
theorem held_one {h : Nat} {o : Ob} {own : Own} : Held [(h, o)] own ↔ own[h]? = some o := ⟨fun z => z _ List.mem_cons_self, fun z p hp => by rw [List.mem_singleton.mp hp]; exact z⟩
/-- what is walked: data, and what has to stay -/
abbrev Wk := List D × Wt
/-- the iterator J gives the data ds, one a turn, whatever grows meanwhile -/
def JOk (C : Cn) (J : It) (ι : List Addr) (H : Hp) (W : Wt) (ds : List D) : Prop := ∀ (hd : List Addr) (ι' : List Addr) (own' : Own) (H' : Hp) (i : Nat), ι <+: ι' → Sub (fz C ι H) (fz (C.wh hd) ι' H') → Rel (C.wh hd) ι' own' H' → Held W own' →
  (i = ds.length → J.stop i H') ∧ ∀ d, ds[i]? = some d → J.go i H' ∧ ∀ x H'', J.yld i H' x H'' → Gr (C.wh hd) ι' H' ι' H'' ∧ Rel (C.wh hd) ι' own' H'' ∧ Rp C.K (fz (C.wh hd) ι' H'') ι' x d
def PostI (C : Cn) (E : XK) (ι : List Addr) (H : Hp) (r : R Wk) (Rn : It → Hp → Prop) : Prop := match r with
  | .ok ds own' => ∀ J ι' H', Gr C ι H ι' H' → Rel C ι' own' H' → JOk C J ι' H' ds.2 ds.1 → Rn J H'
  | .exc c own' => c < 6 ∧ ∀ ι' H', Gr C ι H ι' H' → Rel C ι' own' H' → E (.ref (C.ec c)) none H'
  | .bad => False
theorem PostI.gr {C : Cn} {E : XK} {ι ι' : List Addr} {H H' : Hp} {r : R Wk} {Rn : It → Hp → Prop} (h : PostI C E ι H r Rn) (g : Gr C ι H ι' H') : PostI C E ι' H' r Rn := by
  cases r with
  | ok e o => exact fun J ι2 H2 g2 a j => h J ι2 H2 (g.trans g2) a j
  | exc c o => exact ⟨h.1, fun ι2 H2 g2 rl => h.2 ι2 H2 (g.trans g2) rl⟩
  | bad => exact h
def lI (C : Cn) (E : XK) (m : M Wk) : TI := fun σ H Rn => ∃ ι env own, At C ι env own σ H ∧ PostI C E ι H (m env own) Rn
theorem lI_bind {α β : Type} {rep : Rd3 β α} {C : Cn} {E : XK} {m : M α} {k : α → M Wk} {σ : L2.St} {H : Hp} {Rn : It → Hp → Prop} (h : lI C E (mB m k) σ H Rn) :
    lf rep C E m σ H fun v H' => ∃ ι' env own' a, At C ι' env own' σ H' ∧ rep (fz C ι' H') ι' v a ∧ PostI C E ι' H' (k a env own') Rn := by
  obtain ⟨ι, env, own, A, p⟩ := h
  refine ⟨ι, env, own, A, ?_⟩
  unfold mB at p
  cases q : m env own with
  | ok d o => rw [q] at p; exact fun v ι' H' g rl rp => ⟨ι', env, o, d, A.go g rl, rp, PostI.gr (show PostI C E ι H (k d env o) Rn from p) g⟩
  | exc c o => rw [q] at p; exact p
  | bad => rw [q] at p; exact p
open Classical in
noncomputable def sLoop (g : MG) (b : MS) (W : Wt) : List D → MS
  | [] => fun env own => if Held W own then .nx env own else .bad
  | d :: ds => fun env own => if Held W own then (match g d env own with
    | .nx e o => (match b e o with
      | .nx e o => sLoop g b W ds e o
      | .ct e o => sLoop g b W ds e o
      | .bk e o => .nx e o
      | r => r)
    | r => r) else .bad
noncomputable def sFor (m : M Wk) (g : MG) (b : MS) : MS := sB m fun ds => sLoop g b ds.2 ds.1
theorem pi_w {X : Cx} {tg e : Expr} {t t' : TI} (h : PI X tg e t) (w : ∀ σ H Q, t' σ H Q → t σ H Q) : PI X tg e t' := ⟨fun pins s σ H Q I z => h.run pins s σ H Q I (w σ H Q z)⟩
section
variable {X : Cx} {C : Cn} {E : XK} {a b c tg iter : Expr} {ma : M D} {pos : Pos} {body : List Stmt} {mb : MS} {mi : M Wk} {g : MG}
theorem ms_for (ok : GOk g) (hp : PassesOwn (model X.prog X.w) X.A X.env X.xe) (hc : X.calm = true) (hi : PI X tg iter (lI C E mi)) (hg : PG X tg (lG C E g)) (hb : PSs X body (lS C E mb)) (hs : ∀ x, foldedSetIterable iter X.env x = pure x := by intro _; rfl) : PS X (.For tg iter body [] pos) (lS C E (sFor mi g mb)) := ps_w (ps_for hp hc hi hg hb hs) fun Dn σ H h => by
  obtain ⟨ι, env, own, A, p⟩ := h
  refine ⟨ι, env, own, A, ?_⟩
  unfold sFor sB at p
  cases q : mi env own with
  | exc c o => rw [q] at p; exact p
  | bad => rw [q] at p; exact p
  | ok dw o =>
    obtain ⟨ds, W⟩ := dw
    rw [q] at p
    intro J ι1 H1 g1 r1 j
    refine ⟨fun i m σ H => m = ds.length - i ∧ i ≤ ds.length ∧ ∃ ι2 env2 own2, Gr C ι1 H1 ι2 H ∧ At C ι2 env2 own2 σ H ∧ PostS C E ι2 H (sLoop g mb W (ds.drop i) env2 own2) Dn, ⟨ds.length, rfl, Nat.zero_le _, ι1, env, o, .refl, A.go g1 r1, PostS.gr p g1⟩, ?_⟩
    rintro i m σ H2 ⟨rfl, hi, ι2, env2, own2, g2, A2, p2⟩
    have hW : Held W own2 := by
      by_cases z : Held W own2
      · exact z
      · exfalso
        cases q9 : ds.drop i with
        | nil => rw [q9] at p2; unfold sLoop at p2; rw [if_neg z] at p2; exact p2
        | cons _ _ => rw [q9] at p2; unfold sLoop at p2; rw [if_neg z] at p2; exact p2
    obtain ⟨js, jg⟩ := j C.hid ι2 own2 H2 i g2.pre g2.sub A2.r hW
    by_cases hlt : i < ds.length
    · obtain ⟨go, yl⟩ := jg ds[i] (List.getElem?_eq_getElem hlt)
      rw [List.drop_eq_getElem_cons hlt] at p2
      refine .inr ⟨go, fun σ' H' => ∃ ι2 env2 own2, Gr C ι1 H1 ι2 H' ∧ At C ι2 env2 own2 σ' H' ∧ PostS C E ι2 H' (sLoop g mb W (ds.drop (i + 1)) env2 own2) Dn, fun σ' H' z => ⟨ds.length - (i + 1), by omega, rfl, hlt, z⟩, fun x H' y => ?_⟩
      obtain ⟨g3, r3, rp⟩ := yl x H' y
      refine ⟨ι2, env2, own2, ds[i], A2.go g3 r3, rp, ?_⟩
      unfold sLoop at p2
      rw [if_pos hW] at p2
      have gk := ok ds[i] env2 own2
      cases q1 : g ds[i] env2 own2 with
      | nx e3 o3 =>
        rw [q1] at p2
        intro σ4 ι4 H4 g4 A4
        refine ⟨ι4, e3, o3, A4, ?_⟩
        have g14 := (g2.trans g3).trans g4
        have p2 := PostS.gr p2 (g3.trans g4)
        dsimp only at p2
        cases q2 : mb e3 o3 with
        | nx e o => rw [q2] at p2; exact fun σ5 ι5 H5 g5 A5 => ⟨ι5, e, o, g14.trans g5, A5, PostS.gr p2 g5⟩
        | ct e o => rw [q2] at p2; exact fun σ5 ι5 H5 g5 A5 => ⟨ι5, e, o, g14.trans g5, A5, PostS.gr p2 g5⟩
        | bk e o => rw [q2] at p2; exact p2
        | rt d o => rw [q2] at p2; exact p2
        | exc c o => rw [q2] at p2; exact p2
        | bad => rw [q2] at p2; exact p2
      | exc c o => rw [q1] at p2; exact PostN.gr (r := .exc c o) (Rn := fun _ _ => True) p2 g3
      | bad => rw [q1] at p2; exact p2
      | _ => rw [q1] at gk; exact gk.elim
    · have e : i = ds.length := by omega
      subst e
      rw [List.drop_length] at p2
      unfold sLoop at p2
      rw [if_pos hW] at p2
      exact .inl ⟨js rfl, p2 σ ι2 H2 .refl A2⟩
/-- a list that is only read, a tuple, a text -/
def itD (d : D) (own : Own) : R Wk := match d with
  | .lst xs => .ok (xs, []) own
  | .frz xs => .ok (xs, []) own
  | .tup xs => .ok (xs, []) own
  | .str s => .ok (s.cps.toList.map fun c => .str ⟨#[c]⟩, []) own
  | .ref h => (match own[h]? with
    | some (.lst xs) => .ok (xs, [(h, .lst xs)]) own
    | _ => .bad)
  | _ => .bad
def mIt (a : M D) : M Wk := mB a fun d _ own => itD d own
def iAny (K : PySem.W.Frag) (tl : TE) : TI := fun σ H R => tl σ H fun x H1 => (∃ a, x = .ref a ∧ (∃ xs, SqL K H1 a xs) ∧ R (Itl K a) H1) ∨ (∃ a, x = .ref a ∧ (∃ xs, SqT K H1 a xs) ∧ R (Itt K a) H1) ∨ ∃ z, x = .str z ∧ R (Its z) H1
theorem pi_any {tl : TE} (hl : PE X a tl) : PI X tg a (iAny X.K tl) := by
  refine ⟨fun pins s σ H R I h => ?_⟩
  refine thn (hl.run pins s σ H _ I h) fun v s1 ⟨x, H1, I1, r1, q1⟩ => ?_
  rcases q1 with ⟨a, e, ⟨xs, hq⟩, q⟩ | ⟨a, e, ⟨xs, hq⟩, q⟩ | ⟨z, e, q⟩
  · subst e
    cases r1
    obtain ⟨its, rv, p, hz⟩ := I1.list hq
    refine wpAny_pyIter_list p.isList ?_
    refine ⟨s1.heap.objs.size, [s1.heap.objs.size], _, _, H1, rfl, I1.kept (t' := s1.toks) fun b o e => Heap.get?_push_of_some _ e, turn_list a _, ⟨_, Heap.get?_push_size _ rfl, rfl, rfl⟩, fun b hb => ?_, q⟩
    have e : b = s1.heap.objs.size := by simpa using hb
    subst e
    exact I1.fpOk (Nat.le_refl _) (I1.hok.fresh (Nat.le_refl _))
  · subst e
    cases r1
    obtain ⟨its, rv, p, hz⟩ := I1.tuple hq
    refine wpAny_pyIter_tuple (show s1.heap.IsTuple a its.toArray from p) ?_
    refine ⟨s1.heap.objs.size, [s1.heap.objs.size], _, _, H1, rfl, I1.kept (t' := s1.toks) fun b o e => Heap.get?_push_of_some _ e, turn_tuple a _, ⟨_, Heap.get?_push_size _ rfl, rfl, rfl⟩, fun b hb => ?_, q⟩
    have e : b = s1.heap.objs.size := by simpa using hb
    subst e
    exact I1.fpOk (Nat.le_refl _) (I1.hok.fresh (Nat.le_refl _))
  · subst e
    obtain ⟨t, rfl⟩ := r1
    cases ha : z.cps.all (· < 128)
    · exact wpAny_pyIter_wide ha (pi_one (tk := s1.toks) I1 _ (turn_str _ z t "str_iterator" (.inr rfl)) ⟨_, Heap.get?_push_size _ rfl, rfl, rfl⟩ q)
    · exact wpAny_pyIter_ascii ha (pi_one (tk := s1.toks) I1 _ (turn_str _ z t "str_ascii_iterator" (.inl rfl)) ⟨_, Heap.get?_push_size _ rfl, rfl, rfl⟩ q)
theorem rel_same {hd : List Addr} {ι : List Addr} {own : Own} {H : Hp} (r : Rel C ι own H) : Gr C ι H ι H ∧ Rel C ι own H := ⟨.refl, r⟩
theorem jok_same {J : It} {ι : List Addr} {H : Hp} {W : Wt} {ds : List D} (h : ∀ (hd : List Addr) (ι' : List Addr) (H' : Hp) (i : Nat), ι <+: ι' → Sub (fz C ι H) (fz (C.wh hd) ι' H') → (i = ds.length → J.stop i H') ∧ ∀ d, ds[i]? = some d → J.go i H' ∧ ∀ x H'', J.yld i H' x H'' → H'' = H' ∧ Rp C.K (fz (C.wh hd) ι' H') ι' x d) : JOk C J ι H W ds := by
  intro hd ι' own' H' i p s r _
  obtain ⟨h1, h2⟩ := h hd ι' H' i p s
  refine ⟨h1, fun d e => ?_⟩
  obtain ⟨h3, h4⟩ := h2 d e
  refine ⟨h3, fun x H'' y => ?_⟩
  obtain ⟨rfl, h5⟩ := h4 x H'' y
  exact ⟨.refl, r, h5⟩
theorem jok_list {ι : List Addr} {H : Hp} {l : Addr} {vs : List V} {ds : List D} (h : SqL C.K (fz C ι H) l vs) (a : RpAll C.K (fz C ι H) ι vs ds) : JOk C (Itl C.K l) ι H [] ds := jok_same fun hd ι' H' i p s => by
  have h' : SqL C.K H' l vs := sql_sub (s.trans fz_sub) h
  refine ⟨fun e => ⟨vs, h', by rw [a.len, e]; exact Nat.le_refl _⟩, fun d e => ?_⟩
  obtain ⟨v, e1, r⟩ := a.get e
  refine ⟨⟨vs, v, h', e1⟩, fun x H'' y => ⟨y.1, ?_⟩⟩
  have := y.2 vs h'
  rw [e1] at this
  cases this
  exact r.mono s p
theorem jok_tup {ι : List Addr} {H : Hp} {l : Addr} {vs : List V} {ds : List D} (h : SqT C.K (fz C ι H) l vs) (a : RpAll C.K (fz C ι H) ι vs ds) : JOk C (Itt C.K l) ι H [] ds := jok_same fun hd ι' H' i p s => by
  have h' : SqT C.K H' l vs := sqt_sub (s.trans fz_sub) h
  refine ⟨fun e => ⟨vs, h', by rw [a.len, e]; exact Nat.le_refl _⟩, fun d e => ?_⟩
  obtain ⟨v, e1, r⟩ := a.get e
  refine ⟨⟨vs, v, h', e1⟩, fun x H'' y => ⟨y.1, ?_⟩⟩
  have := y.2 vs h'
  rw [e1] at this
  cases this
  exact r.mono s p
theorem jok_str {ι : List Addr} {H : Hp} {z : Str} : JOk C (Its z) ι H [] (z.cps.toList.map fun c => .str ⟨#[c]⟩) := jok_same fun hd ι' H' i p s => by
  refine ⟨fun e => ?_, fun d e => ?_⟩
  · simp at e; exact Nat.le_of_eq e.symm
  · rw [List.getElem?_map] at e
    cases q : z.cps.toList[i]? with
    | none => rw [q] at e; cases e
    | some c =>
      rw [q] at e
      cases e
      rw [Array.getElem?_toList] at q
      refine ⟨(Array.getElem?_eq_some_iff.mp q).1, fun x H'' y => ⟨y.1, ?_⟩⟩
      obtain ⟨_, c', e1, rfl⟩ := y
      rw [q] at e1
      cases e1
      exact .str _
theorem jok_rng {ι : List Addr} {H : Hp} {lo : Int} {n : Nat} : JOk C (Itr lo n) ι H [] ((List.range n).map fun (i : Nat) => .int (lo + (i : Int))) := jok_same fun hd ι' H' i p s => by
  refine ⟨fun e => ?_, fun d e => ?_⟩
  · simp at e; exact Nat.le_of_eq e.symm
  · rw [List.getElem?_map] at e
    cases q : (List.range n)[i]? with
    | none => rw [q] at e; cases e
    | some j =>
      rw [q] at e
      cases e
      obtain ⟨h1, h2⟩ := List.getElem?_eq_some_iff.mp q
      simp at h1 h2
      subst h2
      refine ⟨h1, fun x H'' y => ⟨y.1, ?_⟩⟩
      rw [y.2]
      exact .int _
theorem jok_own {ι : List Addr} {H : Hp} {l : Addr} {h : Nat} {ds : List D} (hi : ι[h]? = some l) : JOk C (Itl C.K l) ι H [(h, .lst ds)] ds := by
  intro hd ι' own' H' i p s r hW
  have hi' : ι'[h]? = some l := by
    obtain ⟨r, rfl⟩ := p
    rw [List.getElem?_append_left (List.getElem?_eq_some_iff.mp hi).1]
    exact hi
  obtain ⟨vs, e1, a⟩ := r.ob h l _ hi' (held_one.mp hW)
  have h' : SqL C.K H' l vs := SqL.of e1
  refine ⟨fun e => ⟨vs, h', by rw [a.len, e]; exact Nat.le_refl _⟩, fun d e => ?_⟩
  obtain ⟨v, e2, r'⟩ := a.get e
  refine ⟨⟨vs, v, h', e2⟩, fun x H'' y => ?_⟩
  obtain ⟨rfl, y2⟩ := y
  have := y2 vs h'
  rw [e2] at this
  cases this
  exact ⟨.refl, r, r'⟩
theorem mi_any (h : PE X a (lE C E ma)) (hX : X.K = C.K := by rfl) : PI X tg a (lI C E (mIt ma)) := by
  refine pi_w (pi_any h) fun σ H Rn h => lf_imp (lI_bind h) ?_
  rintro x H1 ⟨ι1, env1, own1, d, A1, rp, p⟩
  rw [hX]
  cases rp with
  | lst h a => exact .inl ⟨_, rfl, ⟨_, SqL.of (fz_sub _ _ h (fun _ z => nomatch z))⟩, p _ ι1 H1 .refl A1.r (jok_list (SqL.of h) a)⟩
  | frz h a => exact .inl ⟨_, rfl, ⟨_, sql_sub fz_sub h⟩, p _ ι1 H1 .refl A1.r (jok_list h a)⟩
  | tup h a => exact .inr (.inl ⟨_, rfl, ⟨_, sqt_sub fz_sub h⟩, p _ ι1 H1 .refl A1.r (jok_tup h a)⟩)
  | str z => exact .inr (.inr ⟨_, rfl, p _ ι1 H1 .refl A1.r jok_str⟩)
  | @ref hh _ h =>
    have p : PostI C E ι1 H1 (match own1[hh]? with | some (.lst xs) => R.ok (xs, [(hh, Ob.lst xs)]) own1 | _ => .bad) Rn := p
    split at p
    · rename_i xs e
      obtain ⟨vs, h1, h2⟩ := A1.r.ob _ _ _ h e
      exact .inl ⟨_, rfl, ⟨vs, SqL.of h1⟩, p _ ι1 H1 .refl A1.r (jok_own h)⟩
    · exact p.elim
  | _ => exact (show False from p).elim
def rngL (lo hi : Int) : List D := (List.range (hi - lo).toNat).map fun (i : Nat) => .int (lo + (i : Int))
noncomputable def rng1F (d : D) (own : Own) : R Wk := match d with
  | .int j => if cB (-1000000000 ≤ j ∧ j < 1000000000) = true then .ok (rngL 0 j, []) own else .bad
  | _ => .bad
noncomputable def rng2F (d e : D) (own : Own) : R Wk := match d, e with
  | .int i, .int j => if cB (-1000000000 ≤ i ∧ i < 1000000000 ∧ -1000000000 ≤ j ∧ j < 1000000000) = true then .ok (rngL i j, []) own else .bad
  | _, _ => .bad
noncomputable def mRng1 (a : M D) : M Wk := mB a fun d _ own => rng1F d own
noncomputable def mRng2 (a b : M D) : M Wk := mB a fun d => mB b fun e _ own => rng2F d e own
theorem mi_rng1 {p : Pos} (hm : X.mg "range" = none) (ha : PE X a (lE C E ma)) (hg : Gl X "range" := by rfl) (hs : starEach [a] X.env = [(false, eval a X.env)] := by rfl) : PI X tg (.Call (.Name "range" p) [a] [] pos) (lI C E (mRng1 ma)) := pi_w (pi_range1 hg hm (pa_cons ha pa_nil hs) hs) fun σ H Rn h => by
  show lE C E ma σ H _
  refine lf_imp (lI_bind h) ?_
  rintro x H1 ⟨ι1, env1, own1, d, A1, rp, p⟩
  show ∃ j : Int, _
  unfold rng1F at p
  split at p
  · split at p
    · rename_i hz
      rw [cB_iff] at hz
      cases rp
      refine ⟨_, rfl, by omega, by omega, p _ ι1 H1 .refl A1.r ?_⟩
      show JOk C _ ι1 H1 [] (rngL 0 _)
      rw [rngL, Int.sub_zero]
      exact jok_rng
    · exact p.elim
  · exact p.elim
theorem mi_rng2 {mb : M D} {p : Pos} (hm : X.mg "range" = none) (ha : PE X a (lE C E ma)) (hb : PE X b (lE C E mb)) (hg : Gl X "range" := by rfl) (hs : starEach [a, b] X.env = [(false, eval a X.env), (false, eval b X.env)] := by rfl) (hs2 : starEach [b] X.env = [(false, eval b X.env)] := by rfl) :
    PI X tg (.Call (.Name "range" p) [a, b] [] pos) (lI C E (mRng2 ma mb)) := pi_w (pi_range2 hg hm (pa_cons ha (pa_cons hb pa_nil hs2) (by rw [hs, hs2])) hs hs2) fun σ H Rn h => by
  show lE C E ma σ H fun _ H1 => lE C E mb σ H1 _
  refine lf_imp (lI_bind h) ?_
  rintro x H1 ⟨ι1, env1, own1, d, A1, rp, p⟩
  refine lf_imp (lI_bind (m := mb) ⟨ι1, env1, own1, A1, p⟩) ?_
  rintro y H2 ⟨ι2, env2, own2, e, A2, ry, p⟩
  show ∃ i j : Int, _
  have p : PostI C E ι2 H2 (rng2F d e own2) Rn := p
  unfold rng2F at p
  split at p
  · split at p
    · rename_i hz
      rw [cB_iff] at hz
      cases rp
      cases ry
      exact ⟨_, _, rfl, ⟨by omega, by omega, by omega, by omega⟩, p _ ι2 H2 .refl A2.r jok_rng⟩
    · exact p.elim
  · exact p.elim
/-! ### comprehensions -/
open Classical in
noncomputable def lcGo (g : MG) (t : M Bool) (e : M D) (env0 : Env) (W : Wt) : List D → List D → Own → R (List D)
  | [], acc, own => if Held W own then .ok acc own else .bad
  | d :: ds, acc, own => if Held W own then (match g d env0 own with
    | .nx env1 o1 => (match t env1 o1 with
      | .ok true o2 => (match e env1 o2 with
        | .ok y o3 => if acc.length < 1000000 then lcGo g t e env0 W ds (acc ++ [y]) o3 else .bad
        | _ => .bad)
      | .ok false o2 => lcGo g t e env0 W ds acc o2
      | _ => .bad)
    | _ => .bad) else .bad
noncomputable def mLc (mi : M Wk) (g : MG) (t : M Bool) (e : M D) (vs : List Nat) : M D := mB mi fun ds env own => (lcGo g t e (wipeD env vs) ds.2 ds.1 [] own).bind fun ys o => .ok (.lst ys) o
/-- a target of a comprehension: its own names -/
def LcT (C : Cn) (tg : TG) (g : MG) (vs : List Nat) : Prop := ∀ hd ι own H v d σ env Rn, At (C.wh hd) ι env own (L2.wipe σ vs) H → Rp C.K (fz (C.wh hd) ι H) ι v d →
  (match g d env own with
    | .nx env' own' => own' = own ∧ ∀ σ', At (C.wh hd) ι env' own σ' H → L2.wipe σ' vs = L2.wipe σ vs → Rn σ' H
    | _ => False) → tg v (L2.wipe σ vs) H Rn
theorem wipe_mem {σ : L2.St} {i : Nat} : ∀ {vs : List Nat}, i ∈ vs → i < σ.length → (L2.wipe σ vs)[i]? = some none
  | v :: vs, h, hl => by
    unfold L2.wipe
    by_cases e : v = i
    · subst e; rw [List.getElem?_set_self (by rw [wipe_length]; exact hl)]
    · rw [List.getElem?_set_ne e]
      rcases List.mem_cons.mp h with z | z
      · exact absurd z.symm e
      · exact wipe_mem z hl
theorem wipe_set {σ : L2.St} {i : Nat} {v : Option V} {vs : List Nat} (h : i ∈ vs) : L2.wipe ((L2.wipe σ vs).set i v) vs = L2.wipe σ vs := by
  apply List.ext_getElem?
  intro j
  by_cases hj : j ∈ vs
  · by_cases hl : j < σ.length
    · rw [wipe_mem hj (by rw [List.length_set, wipe_length]; exact hl), wipe_mem hj hl]
    · rw [List.getElem?_eq_none (by rw [wipe_length, List.length_set, wipe_length]; omega), List.getElem?_eq_none (by rw [wipe_length]; omega)]
  · rw [wipe_get hj, List.getElem?_set_ne (by rintro rfl; exact hj h)]
theorem wipe_wipe {σ : L2.St} {vs : List Nat} : L2.wipe (L2.wipe σ vs) vs = L2.wipe σ vs := by
  apply List.ext_getElem?
  intro j
  by_cases hj : j ∈ vs
  · by_cases hl : j < σ.length
    · rw [wipe_mem hj (by rw [wipe_length]; exact hl), wipe_mem hj hl]
    · rw [List.getElem?_eq_none (by rw [wipe_length, wipe_length]; omega), List.getElem?_eq_none (by rw [wipe_length]; omega)]
  · rw [wipe_get hj]
theorem lct_n {i : Nat} {vs : List Nat} (h : i ∈ vs) : LcT C (gName i) (gN i) vs := by
  intro hd ι own H v d σ env Rn A r p
  exact p.2 _ ⟨A.e.set i r, A.r⟩ (wipe_set h)
theorem wipe_set2 {σ τ : L2.St} {i : Nat} {v : Option V} {vs : List Nat} (h : i ∈ vs) (e : L2.wipe τ vs = L2.wipe σ vs) : L2.wipe (τ.set i v) vs = L2.wipe σ vs := by
  rw [← e]
  apply List.ext_getElem?
  intro j
  by_cases hj : j ∈ vs
  · by_cases hl : j < τ.length
    · rw [wipe_mem hj (by rw [List.length_set]; exact hl), wipe_mem hj hl]
    · rw [List.getElem?_eq_none (by rw [wipe_length, List.length_set]; omega), List.getElem?_eq_none (by rw [wipe_length]; omega)]
  · rw [wipe_get hj, wipe_get hj, List.getElem?_set_ne (by rintro rfl; exact hj h)]
theorem lct_t2 {i j : Nat} {vs : List Nat} (hi : i ∈ vs) (hj : j ∈ vs) : LcT C (gTup C.K 2 (gCons (gName i) (gCons (gName j) gNil))) (gT 2 (gsCons (gN i) (gsCons (gN j) gsNil))) vs := by
  intro hd ι own H v d σ env Rn A r p
  unfold gT at p
  cases d with
  | tup ds =>
    dsimp only at p
    obtain ⟨a, ws, rfl, h1, h2⟩ := tup_ok (C := C.wh hd) r
    match ds, p with
    | [x, y], p =>
      rcases h2 with _ | ⟨r1, _ | ⟨r2, ⟨⟩⟩⟩
      refine ⟨a, _, rfl, h1, rfl, _, _, rfl, _, _, rfl, rfl, ?_⟩
      exact p.2 _ ⟨(A.e.set i r1).set j r2, A.r⟩ (wipe_set2 hj (wipe_set hi))
    | [], p => exact (show False from p).elim
    | [x], p => exact (show False from p).elim
    | x :: y :: z :: l, p =>
      rw [if_neg (by simp)] at p
      exact p.elim
  | _ => exact (show False from p).elim
/-- a reading whatever is hidden -/
def anyH {β : Type} (t : List Addr → L2.St → Hp → (β → Hp → Prop) → Prop) : L2.St → Hp → (β → Hp → Prop) → Prop := fun σ H Q => ∃ hd, t hd σ H Q
/-- what is hidden is written -/
theorem Rel.putH {ι : List Addr} {own : Own} {H : Hp} (r : Rel C ι own H) {a : Addr} {vs : List V} {o0 : HO} (ha : a ∈ C.hid) (h0 : H a = some o0) (hw : Wr o0 = true) : Rel C ι own (upd H a (.lst vs)) := by
  refine ⟨r.nd, r.len, fun i b ob e1 e2 => ?_, tabs_put r.tabs h0 hw, fun b hb => ?_, r.hidD⟩
  · rw [fz_upd (.inr ha)]
    exact (r.ob i b ob e1 e2).stay .refl (List.prefix_refl _) (upd_ne (by rintro rfl; exact r.hidD _ ha (List.mem_of_getElem? e1)))
  · by_cases e : b = a
    · subst e; exact ⟨_, upd_same⟩
    · rw [upd_ne e]; exact r.hidN b hb
def GKp (g : MG) : Prop := ∀ d env own env' own', g d env own = .nx env' own' → own' = own
theorem lf_lc {tg : TG} {t : M Bool} {e : M D} {vs : List Nat} (hT : LcT C tg g vs) (hG : GKp g) {σ : L2.St} {H : Hp} {Q : VK} (h : lE C E (mLc mi g t e vs) σ H Q) :
    tLc (lI C E mi) tg (anyH fun hd => lT (C.wh hd) L2.E0 t) (anyH fun hd => lE (C.wh hd) L2.E0 e) vs σ H Q := by
  obtain ⟨ι, env, own, A, p⟩ := h
  refine ⟨ι, env, own, A, ?_⟩
  unfold mLc mB at p
  cases q : mi env own with
  | exc c o => rw [q] at p; exact p
  | bad => rw [q] at p; exact p
  | ok dw o =>
    obtain ⟨ds, W⟩ := dw
    rw [q] at p
    intro J ι1 H1 g1 r1 j Dd hD
    have p : Post (rV C.K) C E ι1 H1 ((lcGo g t e (wipeD env vs) W ds [] o).bind fun ys o => .ok (.lst ys) o) Q := Post.gr p g1
    refine ⟨fun i m H => m = ds.length - i ∧ i ≤ ds.length ∧ ∃ ι2 own2 acc accV, ι1 <+: ι2 ∧ Sub (fz C ι1 H1) (fz (C.wh (Dd :: C.hid)) ι2 H) ∧ (∀ a ∈ C.hid, H a = H1 a) ∧ Rel (C.wh (Dd :: C.hid)) ι2 own2 H ∧ H Dd = some (.lst accV) ∧ RpAll C.K (fz (C.wh (Dd :: C.hid)) ι2 H) ι2 accV acc ∧
      Post (rV C.K) C E ι1 H1 ((lcGo g t e (wipeD env vs) W (ds.drop i) acc own2).bind fun ys o => .ok (.lst ys) o) Q, ⟨ds.length, rfl, Nat.zero_le _, ι1, o, [], [], List.prefix_refl _, ?_, ?_, ?_, upd_same, .nil, p⟩, ?_⟩
    · intro a u e' _
      unfold fz at e' ⊢
      by_cases z : a ∈ ι1 ∨ a ∈ C.hid
      · rw [if_pos z] at e'; cases e'
      · rw [if_neg z] at e'
        have ha : a ≠ Dd := ne_of_none e' hD
        rw [not_or] at z
        rw [if_neg (by show ¬ (a ∈ ι1 ∨ a ∈ Dd :: C.hid); simp [z.1, z.2, ha]), upd_ne ha]
        exact e'
    · intro a ha
      exact upd_ne (by rintro rfl; exact r1.freshH hD ha)
    · obtain ⟨r2, _⟩ := r1.new (o := .lst []) hD
      refine ⟨r2.nd, r2.len, fun i a ob e1 e2 => (r1.ob i a ob e1 e2).stay ?_ (List.prefix_refl _) (upd_ne ?_), r2.tabs, fun a ha => ?_, fun a ha => ?_⟩
      · intro a u e' _
        unfold fz at e' ⊢
        by_cases z : a ∈ ι1 ∨ a ∈ C.hid
        · rw [if_pos z] at e'; cases e'
        · rw [if_neg z] at e'
          have ha : a ≠ Dd := ne_of_none e' hD
          rw [not_or] at z
          rw [if_neg (by show ¬ (a ∈ ι1 ∨ a ∈ Dd :: C.hid); simp [z.1, z.2, ha]), upd_ne ha]
          exact e'
      · rintro rfl; exact r1.fresh hD (List.mem_of_getElem? e1)
      · rcases List.mem_cons.mp ha with rfl | ha
        · exact ⟨_, upd_same⟩
        · exact r2.hidN a ha
      · rcases List.mem_cons.mp ha with rfl | ha
        · exact r1.fresh hD
        · exact r2.hidD a ha
    rintro i m H2 ⟨rfl, hi, ι2, own2, acc, accV, pre, sb, hh, r2, hDd, ra, p2⟩
    have hW : Held W own2 := by
      by_cases z : Held W own2
      · exact z
      · exfalso
        cases q9 : ds.drop i with
        | nil => rw [q9] at p2; unfold lcGo at p2; rw [if_neg z] at p2; exact p2
        | cons _ _ => rw [q9] at p2; unfold lcGo at p2; rw [if_neg z] at p2; exact p2
    obtain ⟨js, jg⟩ := j (Dd :: C.hid) ι2 own2 H2 i pre sb r2 hW
    by_cases hlt : i < ds.length
    · obtain ⟨go, yl⟩ := jg ds[i] (List.getElem?_eq_getElem hlt)
      rw [List.drop_eq_getElem_cons hlt] at p2
      refine .inr ⟨go, fun H' => ∃ ι2 own2 acc accV, ι1 <+: ι2 ∧ Sub (fz C ι1 H1) (fz (C.wh (Dd :: C.hid)) ι2 H') ∧ (∀ a ∈ C.hid, H' a = H1 a) ∧ Rel (C.wh (Dd :: C.hid)) ι2 own2 H' ∧ H' Dd = some (.lst accV) ∧ RpAll C.K (fz (C.wh (Dd :: C.hid)) ι2 H') ι2 accV acc ∧
        Post (rV C.K) C E ι1 H1 ((lcGo g t e (wipeD env vs) W (ds.drop (i + 1)) acc own2).bind fun ys o => .ok (.lst ys) o) Q, fun H' z => ⟨ds.length - (i + 1), by omega, rfl, hlt, z⟩, fun x H' y => ?_⟩
      obtain ⟨g3, r3, rp⟩ := yl x H' y
      have sb3 := sb.trans g3.sub
      have A3 : At (C.wh (Dd :: C.hid)) ι2 (wipeD env vs) own2 (L2.wipe σ vs) H' := ⟨((A.e.mono g1.sub g1.pre).wipe vs).mono sb3 pre, r3⟩
      refine hT (Dd :: C.hid) ι2 own2 H' x ds[i] σ (wipeD env vs) _ A3 rp ?_
      unfold lcGo at p2
      rw [if_pos hW] at p2
      cases q1 : g ds[i] (wipeD env vs) own2 with
      | nx env4 own4 =>
        rw [q1] at p2
        have e4 := hG _ _ _ _ _ q1
        subst e4
        have p2 : Post (rV C.K) C E ι1 H1 ((match t env4 own4 with
          | .ok true o2 => (match e env4 o2 with
            | .ok y o3 => if acc.length < 1000000 then lcGo g t e (wipeD env vs) W (ds.drop (i + 1)) (acc ++ [y]) o3 else .bad
            | _ => .bad)
          | .ok false o2 => lcGo g t e (wipeD env vs) W (ds.drop (i + 1)) acc o2
          | _ => .bad).bind fun ys o => .ok (.lst ys) o) Q := p2
        refine ⟨rfl, fun σ' A4 hw => ⟨hw, Dd :: C.hid, ι2, env4, own4, A4, ?_⟩⟩
        have hDd3 : H' Dd = some (.lst accV) := (g3.hid Dd List.mem_cons_self).trans hDd
        have ra3 := ra.mono g3.sub g3.pre
        cases q2 : t env4 own4 with
        | exc c o => rw [q2] at p2; exact p2.elim
        | bad => rw [q2] at p2; exact p2
        | ok b o2 =>
          rw [q2] at p2
          rintro b' ι5 H5 g5 r5 rfl
          have hDd5 : H5 Dd = some (.lst accV) := (g5.hid Dd List.mem_cons_self).trans hDd3
          cases b' with
          | false =>
            rw [if_neg Bool.false_ne_true]
            exact ⟨ι5, o2, acc, accV, pre.trans g5.pre, sb3.trans g5.sub, fun a ha => ((g5.hid a (List.mem_cons_of_mem _ ha)).trans (g3.hid a (List.mem_cons_of_mem _ ha))).trans (hh a ha), r5, hDd5, ra3.mono g5.sub g5.pre, p2⟩
          | true =>
            rw [if_pos rfl]
            refine ⟨Dd :: C.hid, ι5, env4, o2, A4.go g5 r5, ?_⟩
            have p2 : Post (rV C.K) C E ι1 H1 ((match e env4 o2 with
              | .ok y o3 => if acc.length < 1000000 then lcGo g t e (wipeD env vs) W (ds.drop (i + 1)) (acc ++ [y]) o3 else .bad
              | _ => .bad).bind fun ys o => .ok (.lst ys) o) Q := p2
            cases q3 : e env4 o2 with
            | exc c o => rw [q3] at p2; exact p2.elim
            | bad => rw [q3] at p2; exact p2
            | ok y o3 =>
              rw [q3] at p2
              have p2 : Post (rV C.K) C E ι1 H1 ((if acc.length < 1000000 then lcGo g t e (wipeD env vs) W (ds.drop (i + 1)) (acc ++ [y]) o3 else .bad).bind fun ys o => .ok (.lst ys) o) Q := p2
              intro yv ι6 H6 g6 r6 ry
              have hDd6 : H6 Dd = some (.lst accV) := (g6.hid Dd List.mem_cons_self).trans hDd5
              have ra6 := (ra3.mono g5.sub g5.pre).mono g6.sub g6.pre
              split at p2
              · rename_i hz
                refine ⟨accV, hDd6, szN (by rw [ra6.len]; exact hz), ι6, o3, acc ++ [y], accV ++ [yv], (pre.trans g5.pre).trans g6.pre, ?_, fun a ha => ?_, r6.putH List.mem_cons_self hDd6 rfl, upd_same, ?_, p2⟩
                · rw [fz_upd (.inr List.mem_cons_self)]
                  exact (sb3.trans g5.sub).trans g6.sub
                · rw [upd_ne (by rintro rfl; exact r1.freshH hD ha)]
                  exact ((g6.hid a (List.mem_cons_of_mem _ ha)).trans ((g5.hid a (List.mem_cons_of_mem _ ha)).trans (g3.hid a (List.mem_cons_of_mem _ ha)))).trans (hh a ha)
                · rw [fz_upd (.inr List.mem_cons_self)]
                  exact ra6.append (.one ry)
              · exact p2.elim
      | _ => rw [q1] at p2; exact p2
    · have e' : i = ds.length := by omega
      subst e'
      rw [List.drop_length] at p2
      unfold lcGo at p2
      rw [if_pos hW] at p2
      refine .inl ⟨js rfl, ?_⟩
      have nD : Dd ∉ ι2 := r2.hidD Dd List.mem_cons_self
      have sC : Sub (fz (C.wh (Dd :: C.hid)) ι2 H2) (fz C ι2 H2) := fun a u e' _ => by
        have e' : (if a ∈ ι2 ∨ a ∈ Dd :: C.hid then none else H2 a) = some u := e'
        unfold fz
        by_cases z : a ∈ ι2 ∨ a ∈ C.hid
        · rw [if_pos (z.imp id fun z => List.mem_cons_of_mem _ z)] at e'; cases e'
        · rw [if_neg z]
          split at e'
          · cases e'
          · exact e'
      refine p2 _ ι2 H2 ⟨pre, sb.trans sC, hh⟩ ⟨r2.nd, r2.len, fun i a ob e1 e2 => (r2.ob i a ob e1 e2).stay sC (List.prefix_refl _) rfl, r2.tabs, fun a ha => r2.hidN a (List.mem_cons_of_mem _ ha), fun a ha => r2.hidD a (List.mem_cons_of_mem _ ha)⟩ (.lst ?_ (ra.mono sC (List.prefix_refl _)))
      unfold fz
      rw [if_neg (fun z => z.elim nD (r1.freshH hD))]
      exact hDd
theorem gk_n {i : Nat} : GKp (gN i) := fun d env own env' own' e => by cases e; rfl
theorem gk_t2 {i j : Nat} : GKp (gT 2 (gsCons (gN i) (gsCons (gN j) gsNil))) := fun d env own env' own' e => by
  unfold gT at e
  split at e
  · rename_i ds
    match ds, e with
    | [x, y], e => cases e; rfl
    | [], e => cases e
    | [x], e => cases e
    | x :: y :: z :: l, e => rw [if_neg (by simp)] at e; cases e
  · cases e
def tYesM : M Bool := fun _ own => .ok true own
variable {elt : Expr} {ifs : List Expr} {scope : Scope} {vs : List (Str × Nat)} {t : M Bool} {e : M D} {tG : TG}
theorem mts_nil {hd : List Addr} : PTs X [] (lT (C.wh hd) E tYesM) := by
  refine ⟨fun pins s σ H Q I h => pts_nil.run pins s σ H Q I ?_⟩
  obtain ⟨ι, env, own, A, p⟩ := h
  exact Post.here p A.r rfl
theorem me_lc (hc : X.calm = true) (hN : X.N.Nodup) (hT : LcT C tG g (vs.map (·.2))) (hG : GKp g) (hi : PI X tg iter (lI C E mi)) (ok : BlkOk X.N X.env.scope scope vs)
    (hg : ∀ (s : Shared) (H : Hp) (c : Addr) (cl : List (Str × Addr)) (fp : List Addr), PG (X.blk s H scope (compEnvC scope cl c X.env) fp) tg tG) (ht : ∀ (hd : List Addr) (s : Shared) (H : Hp) (c : Addr) (cl : List (Str × Addr)) (fp : List Addr), PTs (X.blk s H scope (compEnvC scope cl c X.env) fp) ifs (lT (C.wh hd) L2.E0 t))
    (he : ∀ (hd : List Addr) (s : Shared) (H : Hp) (c : Addr) (cl : List (Str × Addr)) (fp : List Addr), PE (X.blk s H scope (compEnvC scope cl c X.env) fp) elt (lE (C.wh hd) L2.E0 e)) (hs : ∀ x, foldedSetIterable iter X.env x = pure x := by intro _; rfl) :
    PE X (.ListComp elt [⟨tg, iter, ifs, 0⟩] scope pos) (lE C E (mLc mi g t e (vs.map (·.2)))) :=
  pe_w (pe_lc hc hN hi ok hg (fun s H c cl fp => ⟨fun pins s σ H Q I h => let ⟨hd, h⟩ := h; (ht hd _ _ _ _ _).run pins s σ H Q I h⟩) (fun s H c cl fp => ⟨fun pins s σ H Q I h => let ⟨hd, h⟩ := h; (he hd _ _ _ _ _).run pins s σ H Q I h⟩) hs) fun σ H Q h => lf_lc hT hG h
theorem ms_setLc {i : Nat} {y : Str} {py spos : Pos} (hc : X.calm = true) (hN : X.N.Nodup) (hy : X.N[i]? = some y) (hyl : X.env.scope.names.lookup y = some .local)
    (hsw : swapsWith (.ListComp elt [⟨tg, iter, ifs, 0⟩] scope pos) (some (.Name y py)) spos.line X.env = pure true) (hT : LcT C tG g (vs.map (·.2))) (hG : GKp g) (hi : PI X tg iter (lI C E mi)) (ok : BlkOk X.N X.env.scope scope vs)
    (hg : ∀ (s : Shared) (H : Hp) (c : Addr) (cl : List (Str × Addr)) (fp : List Addr), PG (X.blk s H scope (compEnvC scope cl c X.env) fp) tg tG) (ht : ∀ (hd : List Addr) (s : Shared) (H : Hp) (c : Addr) (cl : List (Str × Addr)) (fp : List Addr), PTs (X.blk s H scope (compEnvC scope cl c X.env) fp) ifs (lT (C.wh hd) L2.E0 t))
    (he : ∀ (hd : List Addr) (s : Shared) (H : Hp) (c : Addr) (cl : List (Str × Addr)) (fp : List Addr), PE (X.blk s H scope (compEnvC scope cl c X.env) fp) elt (lE (C.wh hd) L2.E0 e)) (hs : ∀ x, foldedSetIterable iter X.env x = pure x := by intro _; rfl) :
    PS X (.Assign [.Name y py] (.ListComp elt [⟨tg, iter, ifs, 0⟩] scope pos) spos) (lS C E (sAsg (mLc mi g t e (vs.map (·.2))) (gN i))) :=
  ps_w (ps_setLc (tt := anyH fun hd => lT (C.wh hd) L2.E0 t) (te := anyH fun hd => lE (C.wh hd) L2.E0 e) hc hN hy hyl hsw hi ok hg (fun s H c cl fp => ⟨fun pins s σ H Q I h => let ⟨hd, h⟩ := h; (ht hd _ _ _ _ _).run pins s σ H Q I h⟩) (fun s H c cl fp => ⟨fun pins s σ H Q I h => let ⟨hd, h⟩ := h; (he hd _ _ _ _ _).run pins s σ H Q I h⟩) hs) fun Dn σ H h => by
    show tLc _ _ _ _ _ σ H _
    refine lf_lc hT hG (lf_imp (lS_bind h) ?_)
    rintro x H1 ⟨ι1, env1, own1, d, A1, rx, p1⟩
    exact p1 _ ι1 H1 .refl ⟨A1.e.set i rx, A1.r⟩
end
end Mi

set_option Elab.async false
set_option linter.all false
set_option maxRecDepth 100000
set_option maxHeartbeats 4000000
namespace Mi
open PySem PySem.Spec PyProof.Rows L2 HotX LamX Ws
/-! ### defs -/
abbrev MF := List D → Own → R D
def spM (C : Cn) (n : Nat) (F : MF) : Sp := fun vs H Q E => ∃ ι own ds, ds.length = n ∧ Rel C ι own H ∧ RpAll C.K (fz C ι H) ι vs ds ∧ Post (rV C.K) C E ι H (F ds own) Q
def endF (r : RS) : R D := match r with
  | .nx _ o => .ok .non o
  | .rt d o => .ok d o
  | .exc c o => .exc c o
  | _ => .bad
def runF (n : Nat) (m : MS) : MF := fun ds own => endF (m (ds.map some ++ List.replicate (n - ds.length) none) own)
theorem start_rel {K : PySem.W.Frag} {ω : Hp} {ι : List Addr} {N : List Str} {vs : List V} {ds : List D} (h : RpAll K ω ι vs ds) : RelE K ω ι (L2.start N vs) (ds.map some ++ List.replicate (N.length - ds.length) none) := by
  refine ⟨by simp [L2.start, h.len], fun i d e => ?_⟩
  unfold L2.start
  by_cases hi : i < ds.length
  · rw [List.getElem?_append_left (by simpa using hi), List.getElem?_map] at e
    rw [List.getElem?_append_left (by simp [h.len]; exact hi), List.getElem?_map]
    cases q : ds[i]? with
    | none => rw [q] at e; cases e
    | some d' =>
      rw [q] at e
      cases e
      obtain ⟨v, e1, r⟩ := h.get q
      exact ⟨v, by rw [e1]; rfl, r⟩
  · rw [List.getElem?_append_right (by simpa using hi), List.getElem?_replicate] at e
    split at e <;> cases e
theorem endF_ok {C : Cn} {E : XK} {ι : List Addr} {H : Hp} {r : RS} {Q : VK} (p : Post (rV C.K) C E ι H (endF r) Q) : PostS C E ι H r { nx := fun _ H' => Q .non H', rt := Q } := by
  cases r with
  | nx e o => exact fun σ' ι' H' g A => p .non ι' H' g A.r .non
  | rt d o => exact p
  | exc c o => exact p
  | _ => exact p.elim
section
variable {P : Program} {w : World} {K : PySem.W.Frag} {mg : Str → Option Value} {base : Heap} {C : Cn}
theorem spM_len {C : Cn} {n : Nat} {F : MF} {vs : List V} {H : Hp} {Q : VK} {E : XK} (h : spM C n F vs H Q E) : vs.length = n := by
  obtain ⟨ι, own, ds, hn, _, a, _⟩ := h
  rw [a.len, hn]
theorem spM_body {N : List Str} {n : Nat} {m : MS} {vs : List V} {H : Hp} {Q : VK} {E : XK} (h : spM C n (runF N.length m) vs H Q E) : lS C E m { nx := fun _ H' => Q .non H', rt := Q } (L2.start N vs) H := by
  obtain ⟨ι, own, ds, hn, r, a, p⟩ := h
  exact ⟨ι, _, own, ⟨start_rel a, r⟩, endF_ok p⟩
/-- a def -/
theorem fnM {x : Str} {st : Stmt} {ps N : List Str} {k : Nat} {m : MS} (D : DefAt K mg x st)
    (hb : ∀ (kV doc pm : Value) (an : Option Addr) (cdv ct : Value) (us : List Value), us.length = ps.length → bindArgs (PySem.W.fnOf x x (defArgs st) (defBody st) (defScope st) .none kV doc pm an cdv ct) ⟨us, []⟩ = pure (ps.zip us)) (S : FnScope N ps (defScope st))
    (hbody : ∀ (f : Addr) (cdv : Value) (A : Around) (outer : List PySem.Env) (s : Shared) (H : Hp) (E : XK), Room k (A.deeper (envOfC x (defScope st) s.heap.objs.size f cdv)) → PSs (cxOf (L2N.CX P w) P w K mg base N x (defScope st) f cdv A outer s H E) (defBody st) (lS C E m)) :
    Fn P w K mg base (k + 1) x (spM C ps.length (runF N.length m)) :=
  fn_mk (ps := ps) D hb fun f fd F => okN F S (fun vs H Q E h => spM_len h) fun cdv A outer s H vs Q E hr h => ⟨_, hbody f cdv A outer s H E hr, spM_body h⟩
theorem mtM {c : Addr} {mn qual : Str} {st : Stmt} {ps N : List Str} {k : Nat} {m : MS} (D : MethAt K c mn qual st) (cl : Cls K c)
    (hb : ∀ (kV doc pm : Value) (an : Option Addr) (cdv ct : Value) (us : List Value), us.length = ps.length → bindArgs (PySem.W.fnOf mn qual (defArgs st) (defBody st) (defScope st) .none kV doc pm an cdv ct) ⟨us, []⟩ = pure (ps.zip us)) (S : FnScope N ps (defScope st))
    (hbody : ∀ (f : Addr) (cdv : Value) (A : Around) (outer : List PySem.Env) (s : Shared) (H : Hp) (E : XK), Room k (A.deeper (envOfC qual (defScope st) s.heap.objs.size f cdv)) → PSs (cxOf (L2N.CX P w) P w K mg base N qual (defScope st) f cdv A outer s H E) (defBody st) (lS C E m)) :
    Mt P w K mg base (k + 1) c mn (spM C ps.length (runF N.length m)) :=
  mt_mk (ps := ps) D cl hb fun f fd F => okN F S (fun vs H Q E h => spM_len h) fun cdv A outer s H vs Q E hr h => ⟨_, hbody f cdv A outer s H E hr, spM_body h⟩
theorem mrM {c : Addr} {x qual : Str} {st : Stmt} {ps N : List Str} {k : Nat} {m : MS} (D : MethAt K c "__init__" qual st) (hm : mg x = some (.ref c)) (mk : PySem.W.makesIn K c = true) (kc : PySem.W.keepIn K (.ref c) = true)
    (hb : ∀ (kV doc pm : Value) (an : Option Addr) (cdv ct : Value) (us : List Value), us.length = ps.length → bindArgs (PySem.W.fnOf "__init__" qual (defArgs st) (defBody st) (defScope st) .none kV doc pm an cdv ct) ⟨us, []⟩ = pure (ps.zip us)) (S : FnScope N ps (defScope st))
    (hbody : ∀ (f : Addr) (cdv : Value) (A : Around) (outer : List PySem.Env) (s : Shared) (H : Hp) (E : XK), Room k (A.deeper (envOfC qual (defScope st) s.heap.objs.size f cdv)) → PSs (cxOf (L2N.CX P w) P w K mg base N qual (defScope st) f cdv A outer s H E) (defBody st) (lS C E m)) :
    Mr P w K mg base (k + 1) x c (spM C ps.length (runF N.length m)) :=
  mr_mk (ps := ps) D hm mk kc hb fun f fd F => okN F S (fun vs H Q E h => spM_len h) fun cdv A outer s H vs Q E hr h => ⟨_, hbody f cdv A outer s H E hr, spM_body h⟩
end
theorem fnL {P : Program} {w : World} {mg : Str → Option Value} {base : Heap} {C : Cn} {x : Str} {st : Stmt} {ps N : List Str} {k : Nat} {m : MS} {cc : Addr} (D : LamAt C.K mg x st cc)
    (hb : ∀ (kV doc pm : Value) (an : Option Addr) (cdv ct : Value) (us : List Value), us.length = ps.length → bindArgs (PySem.W.fnOf x x (defArgs st) (defBody st) (defScope st) .none kV doc pm an cdv ct) ⟨us, []⟩ = pure (ps.zip us)) (S : FnScope N ps (defScope st))
    (hbody : ∀ (f : Addr) (A : Around) (outer : List PySem.Env) (s : Shared) (H : Hp) (E : XK), Room k (A.deeper (envOfC x (defScope st) s.heap.objs.size f (.ref cc))) → PSs (cxOf (L2N.CX P w) P w C.K mg base N x (defScope st) f (.ref cc) A outer s H E) (defBody st) (lS C E m)) :
    Fn P w C.K mg base (k + 1) x (spM C ps.length (runF N.length m)) := by
  obtain ⟨f, oc, od, kV, doc, pm, an, ct, osl, lk, hc, hk, hm⟩ := D.ex
  have F : Fun C.K x x st f _ := fun_mk lk hc hk
  exact ⟨f, _, ps, okL lk hc S (fun vs H Q E h => spM_len h) (fun A outer s H vs Q E hr h => ⟨_, hbody f A outer s H E hr, spM_body h⟩), hm, hk, F.binds hb⟩
abbrev pN {X : Cx} {E : XK} {E₁ : Value → Shared → Prop} (hs : X.stack = X.env :: X.outer) (hf : X.env.frame = some X.env.locals) (hex : X.ex = []) (hx : X.xe = fun e s' => wpAny (model X.prog X.w) X.A (leaving X.env e) (fun _ s'' => L2N.CX X.prog X.w X.outer X.H_0 X.s_0 E e s'') E₁ s') : Passes (L2N.CX X.prog X.w) X E :=
  L2N.passes_call (L2N.takes_of hs hf hex hx) fun _ _ _ _ h => h
def callF (n : Nat) (F : MF) (ds : List D) (own : Own) : R D := if ds.length = n then F ds own else .bad
def mCall (n : Nat) (F : MF) (ms : M (List D)) : M D := mL (callF n F) ms
/-- a method of the thing at a place -/
def mMeth (c : Nat) (mn : Str) (n : Nat) (F : MF) (ma : M D) (ms : M (List D)) : M D := mB ma fun d env own => match d with
  | .ref h => (match own[h]? with
    | some (.ins c' fs) => if c' = c ∧ fs.lookup mn = none then (mB ms fun ds _ own => callF n F (d :: ds) own) env own else .bad
    | _ => .bad)
  | _ => .bad
def mMake (c : Nat) (n : Nat) (F : MF) (ms : M (List D)) : M D := mB ms fun ds _ own => (callF n F (.ref own.length :: ds) (own ++ [.ins c []])).bind fun d o => match d with
  | .non => .ok (.ref own.length) o
  | _ => .bad
def fldF (f : Str) (cs : List Nat) (d : D) (own : Own) : R D := match d with
  | .ref h => (match own[h]? with
    | some (.ins c fs) => if c ∈ cs then (match fs.lookup f with
      | some v => .ok v own
      | none => .bad) else .bad
    | _ => .bad)
  | _ => .bad
def putFD (f : Str) (v : D) : List (Str × D) → List (Str × D)
  | [] => [(f, v)]
  | (g, x) :: r => if g = f then (g, v) :: r else (g, x) :: putFD f v r
def setFld (f : Str) (cs : List Nat) (v d : D) (env : Env) (own : Own) : RS := match d with
  | .ref h => (match own[h]? with
    | some (.ins c fs) => if c ∈ cs ∧ fs.length < 1000 then .nx env (own.set h (.ins c (putFD f v fs))) else .bad
    | _ => .bad)
  | _ => .bad
def sFld' (f : Str) (cs : List Nat) (ma mv : M D) : MS := sB mv fun v => sB ma fun d env own => setFld f cs v d env own
section
variable {κ : Type} {K : PySem.W.Frag} {ω : Hp} {ι : List Addr}
theorem RpKV.look {f : Str} : ∀ {fs : List (Str × V)} {gs : List (Str × D)}, RpKV K ω ι fs gs → (gs.lookup f = none → fs.lookup f = none) ∧ ∀ d, gs.lookup f = some d → ∃ v, fs.lookup f = some v ∧ Rp K ω ι v d
  | _, _, .nil => ⟨fun _ => rfl, fun d e => by cases e⟩
  | (a, v) :: fs, (b, d) :: gs, .cons h t => by
    obtain ⟨e, r⟩ := h
    have e : a = b := e
    subst e
    obtain ⟨i1, i2⟩ := RpKV.look (f := f) t
    rw [List.lookup_cons, List.lookup_cons]
    cases q : f == a with
    | true => exact ⟨fun z => by simp at z, fun d' z => by simp at z; subst z; exact ⟨v, rfl, r⟩⟩
    | false => exact ⟨i1, i2⟩
theorem RpKV.put {f : Str} {v : V} {d : D} (r : Rp K ω ι v d) : ∀ {fs : List (Str × V)} {gs : List (Str × D)}, RpKV K ω ι fs gs → RpKV K ω ι (putF f v fs) (putFD f d gs)
  | _, _, .nil => .cons ⟨rfl, r⟩ .nil
  | (a, x) :: fs, (b, y) :: gs, .cons h t => by
    obtain ⟨e, q⟩ := h
    have e : a = b := e
    subst e
    unfold putF putFD
    split
    · exact .cons ⟨rfl, r⟩ t
    · exact .cons ⟨rfl, q⟩ (RpKV.put r t)
end
section
variable {X : Cx} {C : Cn} {E : XK} {a b c : Expr} {ma mb : M D} {pos apos p : Pos} {e : Expr} {es : List Expr} {ms : M (List D)} {k j n : Nat} {F : MF} {x m : Str}
theorem me_fn (Ff : Fn X.prog X.w X.K X.mg X.base k x (spM C n F)) (hr : Room j X.A) (hx : Passes (L2N.CX X.prog X.w) X E) (ha : PA X (e :: es) (lA C E ms)) (hk : k ≤ j := by decide) (hg : Gl X x := by rfl) (hdb : (x == ("__debug__" : Str)) = false := by decide)
    (he : starEach (e :: es) X.env = (false, eval e X.env) :: starEach es X.env := by rfl) (hpl : (backTo pos (starEach es X.env)).any (·.1) = false := by rfl) : PE X (.Call (.Name x p) (e :: es) [] pos) (lE C E (mCall n F ms)) := pe_w (q_fn Ff hr hx ha hk hg hdb he hpl) fun σ H Q h => by
  refine lf_imp (lf_bind h) ?_
  rintro vs H1 ⟨ι1, env1, own1, ds, A1, rx, p1⟩
  rw [List.append_nil]
  unfold callF at p1
  split at p1
  · rename_i hn; exact ⟨ι1, own1, ds, hn, A1.r, rx, p1⟩
  · exact p1.elim
theorem me_fn0 (Ff : Fn X.prog X.w X.K X.mg X.base k x (spM C n F)) (hr : Room j X.A) (hx : Passes (L2N.CX X.prog X.w) X E) (hk : k ≤ j := by decide) (hg : Gl X x := by rfl) (hdb : (x == ("__debug__" : Str)) = false := by decide) :
    PE X (.Call (.Name x p) [] [] pos) (lE C E (mCall n F mNil)) := pe_w (q_fn0 Ff hr hx hk hg hdb) fun σ H Q h => by
  obtain ⟨ι, env, own, A, p⟩ := h
  have p : Post (rV C.K) C E ι H (callF n F [] own) Q := p
  show spM C n F [] H Q E
  unfold callF at p
  split at p
  · rename_i hn; exact ⟨ι, own, [], hn, A.r, .nil, p⟩
  · exact p.elim
theorem PostS.bind {α β : Type} {rep : Rd3 β α} {m : M α} {k : α → MS} {ι : List Addr} {env : Env} {own : Own} {H : Hp} {Dn : Ends} (p : PostS C E ι H (sB m k env own) Dn) :
    Post rep C E ι H (m env own) fun v H' => ∃ ι' own' a, Gr C ι H ι' H' ∧ Rel C ι' own' H' ∧ rep (fz C ι' H') ι' v a ∧ PostS C E ι' H' (k a env own') Dn := by
  unfold sB at p
  cases q : m env own with
  | ok d o => rw [q] at p; exact fun v ι' H' g rl rp => ⟨ι', o, d, g, rl, rp, PostS.gr p g⟩
  | exc c o => rw [q] at p; exact p
  | bad => rw [q] at p; exact p
theorem ob_ins {ι : List Addr} {own : Own} {H : Hp} {v : V} {h : Nat} {c : Nat} {fs : List (Str × D)} (r : Rel C ι own H) (rp : Rp C.K (fz C ι H) ι v (.ref h)) (e : own[h]? = some (.ins c fs)) : ∃ a dx fs', v = .ref a ∧ ι[h]? = some a ∧ H a = some (.ins (C.cl c) dx fs') ∧ RpKV C.K (fz C ι H) ι fs' fs := by
  cases rp with
  | ref h1 =>
    obtain ⟨dx, fs', h2, h3⟩ := r.ob _ _ _ h1 e
    exact ⟨_, dx, fs', rfl, h1, h2, h3⟩
theorem me_md {pl : Sem Bool} {cn : Nat} (Ff : Mt X.prog X.w X.K X.mg X.base k (C.cl cn) m (spM C n F)) (hr : Room j X.A) (hx : Passes (L2N.CX X.prog X.w) X E) (ho : PE X a (lE C E ma)) (ha : PA X (e :: es) (lA C E ms)) (hk : k ≤ j := by decide)
    (hst : starEach (e :: es) X.env = (false, eval e X.env) :: starEach es X.env := by rfl) (hpl : (backTo pos (starEach es X.env)).any (·.1) = false := by rfl)
    (ht : eval (.Call (.Attribute a m apos) (e :: es) [] pos) X.env = (do
      let ov ← eval a X.env
      standAt apos.atName
      let (f, first) ← holding [ov] (getMethod ov m pl)
      callWith pos f first (backTo pos (starEach (e :: es) X.env)) (backToKw pos (keywordEach [] X.env))) := by rfl) :
    PE X (.Call (.Attribute a m apos) (e :: es) [] pos) (lE C E (mMeth cn m n F ma ms)) := pe_w (pe_md Ff hr hx ho ha hk hst hpl ht) fun σ H Q h => by
  refine lf_imp (lf_bind h) ?_
  rintro v H1 ⟨ι1, env1, own1, d, A1, rx, p1⟩
  split at p1
  · rename_i h'
    split at p1
    · rename_i c' fs eo
      split at p1
      · rename_i hc
        obtain ⟨a', dx, fs', rfl, h1, h2, h3⟩ := ob_ins A1.r rx eo
        rw [hc.1] at h2
        refine ⟨a', dx, fs', rfl, h2, h3.look.1 hc.2, ι1, env1, own1, A1, Post.imp (Post.bind (r := ms env1 own1) p1) ?_⟩
        rintro vs H2 ⟨ι2, own2, ds, g2, r2, ra, p2⟩
        rw [List.append_nil]
        have p2 : Post (rV C.K) C E ι2 H2 (callF n F (.ref h' :: ds) own2) Q := p2
        unfold callF at p2
        split at p2
        · rename_i hn; exact ⟨ι2, own2, _, hn, r2, .cons (rx.mono g2.sub g2.pre) ra, p2⟩
        · exact p2.elim
      · exact p1.elim
    · exact p1.elim
  · exact p1.elim
theorem me_md0 {pl : Sem Bool} {cn : Nat} (Ff : Mt X.prog X.w X.K X.mg X.base k (C.cl cn) m (spM C n F)) (hr : Room j X.A) (hx : Passes (L2N.CX X.prog X.w) X E) (ho : PE X a (lE C E ma)) (hk : k ≤ j := by decide)
    (ht : eval (.Call (.Attribute a m apos) [] [] pos) X.env = (do
      let ov ← eval a X.env
      standAt apos.atName
      let (f, first) ← holding [ov] (getMethod ov m pl)
      callWith pos f first (backTo pos (starEach [] X.env)) (backToKw pos (keywordEach [] X.env))) := by rfl) :
    PE X (.Call (.Attribute a m apos) [] [] pos) (lE C E (mMeth cn m n F ma mNil)) := pe_w (pe_md0 Ff hr hx ho hk ht) fun σ H Q h => by
  refine lf_imp (lf_bind h) ?_
  rintro v H1 ⟨ι1, env1, own1, d, A1, rx, p1⟩
  split at p1
  · rename_i h'
    split at p1
    · rename_i c' fs eo
      split at p1
      · rename_i hc
        obtain ⟨a', dx, fs', rfl, h1, h2, h3⟩ := ob_ins A1.r rx eo
        rw [hc.1] at h2
        refine ⟨a', dx, fs', rfl, h2, h3.look.1 hc.2, ?_⟩
        have p1 : Post (rV C.K) C E ι1 H1 (callF n F [.ref h'] own1) Q := p1
        show spM C n F [.ref a'] H1 Q E
        unfold callF at p1
        split at p1
        · rename_i hn; exact ⟨ι1, own1, _, hn, A1.r, .one rx, p1⟩
        · exact p1.elim
      · exact p1.elim
    · exact p1.elim
  · exact p1.elim
theorem make_ok {ι : List Addr} {own : Own} {H : Hp} {Q : VK} {cn : Nat} {vs : List V} {ds : List D} (r : Rel C ι own H) (ra : RpAll C.K (fz C ι H) ι vs ds)
    (p : Post (rV C.K) C E ι H ((callF n F (.ref own.length :: ds) (own ++ [.ins cn []])).bind fun d o => match d with | .non => .ok (.ref own.length) o | _ => .bad) Q) (x dx : Addr) (nx : H x = none) (nd : H dx = none) (ne : dx ≠ x) :
    spM C n F (.ref x :: vs) (upd (upd H dx (.own x)) x (.ins (C.cl cn) dx [])) (fun v H2 => v = .non ∧ Q (.ref x) H2) E := by
  obtain ⟨r1, g1⟩ := r.new (o := .own x) nd
  have nx1 : upd H dx (.own x) x = none := by rw [upd_ne (Ne.symm ne)]; exact nx
  have g2 := gr_newO (o := .ins (C.cl cn) dx []) r1 nx1
  have r2 : Rel C (ι ++ [x]) (own ++ [.ins cn []]) (upd (upd H dx (.own x)) x (.ins (C.cl cn) dx [])) := r1.newO nx1 ⟨dx, [], upd_same, .nil⟩
  have g := g1.trans g2
  have hx : (ι ++ [x])[own.length]? = some x := by rw [← r.len]; simp
  unfold callF at p
  split at p
  · rename_i hn
    refine ⟨ι ++ [x], own ++ [.ins cn []], .ref own.length :: ds, hn, r2, .cons (.ref hx) (ra.mono g.sub g.pre), ?_⟩
    refine Post.imp (Post.bind (Post.gr p g)) ?_
    rintro v H3 ⟨ι3, own3, d, g3, r3, rp, p3⟩
    cases d with
    | non =>
      cases rp
      refine ⟨rfl, p3.here r3 (.ref ?_)⟩
      obtain ⟨l, rfl⟩ := g3.pre
      rw [List.getElem?_append_left (by rw [← r.len]; simp)]
      exact hx
    | _ => exact (show False from p3).elim
  · exact (show False from p).elim
theorem me_mr {cn : Nat} (Ff : Mr X.prog X.w X.K X.mg X.base k x (C.cl cn) (spM C n F)) (hr : Room j X.A) (hx : Passes (L2N.CX X.prog X.w) X E) (ha : PA X (e :: es) (lA C E ms)) (hk : k + 1 ≤ j := by decide) (hg : Gl X x := by rfl) (hdb : (x == ("__debug__" : Str)) = false := by decide)
    (he : starEach (e :: es) X.env = (false, eval e X.env) :: starEach es X.env := by rfl) (hpl : (backTo pos (starEach es X.env)).any (·.1) = false := by rfl) : PE X (.Call (.Name x p) (e :: es) [] pos) (lE C E (mMake cn n F ms)) := pe_w (q_mr Ff hr hx ha hk hg hdb he hpl) fun σ H Q h => by
  refine lf_imp (lf_bind h) ?_
  rintro vs H1 ⟨ι1, env1, own1, ds, A1, rx, p1⟩
  rw [List.append_nil]
  exact make_ok A1.r rx p1
theorem me_mr0 {cn : Nat} (Ff : Mr X.prog X.w X.K X.mg X.base k x (C.cl cn) (spM C n F)) (hr : Room j X.A) (hx : Passes (L2N.CX X.prog X.w) X E) (hk : k + 1 ≤ j := by decide) (hg : Gl X x := by rfl) (hdb : (x == ("__debug__" : Str)) = false := by decide) :
    PE X (.Call (.Name x p) [] [] pos) (lE C E (mMake cn n F mNil)) := pe_w (q_mr0 Ff hr hx hk hg hdb) fun σ H Q h => by
  obtain ⟨ι, env, own, A, p⟩ := h
  exact make_ok A.r .nil p
/-! fields -/
theorem me_fld {f : Str} {cs : List Nat} (hc : ∀ c ∈ cs, Cls C.K (C.cl c) ∧ NoAttr C.K (C.cl c) f) (he : PE X a (lE C E ma)) (hb : attributeBase a f X.env (eval a X.env) = eval a X.env := by rfl) (hX : X.K = C.K := by rfl) : PE X (.Attribute a f pos) (lE C E (m1 (fldF f cs) ma)) := pe_w (k_fld C.K he hb hX) fun σ H Q h => by
  refine lf_imp (lf_bind h) ?_
  rintro v H1 ⟨ι1, env1, own1, d, A1, rx, p1⟩
  unfold fldF at p1
  split at p1
  · split at p1
    · rename_i c fs eo
      split at p1
      · rename_i hm
        split at p1
        · rename_i y el
          obtain ⟨a', dx, fs', rfl, h1, h2, h3⟩ := ob_ins A1.r rx eo
          obtain ⟨w', l, rw'⟩ := h3.look.2 _ el
          exact ⟨a', _, dx, fs', w', rfl, h2, (hc c hm).1, (hc c hm).2, l, p1.here A1.r rw'⟩
        · exact p1.elim
      · exact p1.elim
    · exact p1.elim
  · exact p1.elim
theorem ms_fld {f : Str} {pos' : Pos} {cs : List Nat} (hc : ∀ c ∈ cs, Cls C.K (C.cl c) ∧ NoAttr C.K (C.cl c) f) (ha : PE X a (lE C E ma)) (hv : PE X b (lE C E mb)) (hs : swapsWith b (some (.Attribute a f pos')) pos.line X.env = pure false := by rfl) (hX : X.K = C.K := by rfl) : PS X (.Assign [.Attribute a f pos'] b pos) (lS C E (sFld' f cs ma mb)) := ps_w (k_setf C.K ha hv hs hX) fun Dn σ H h => by
  refine lf_imp (lS_bind h) ?_
  rintro y H1 ⟨ι1, env1, own1, dv, A1, ry, p1⟩
  refine ⟨ι1, env1, own1, A1, Post.imp (PostS.bind p1) ?_⟩
  rintro v H2 ⟨ι2, own2, d, g2, r2, rx, p2⟩
  replace ry := ry.mono g2.sub g2.pre
  unfold setFld at p2
  split at p2
  · split at p2
    · rename_i c fs eo
      split at p2
      · rename_i hm
        obtain ⟨a', dx, fs', rfl, h1, h2, h3⟩ := ob_ins r2 rx eo
        have hR := r2.put (o := .ins (C.cl c) dx (putF f y fs')) h1 h2 rfl (ob := .ins c (putFD f dv fs)) ⟨dx, _, upd_same, h3.put ry⟩
        exact ⟨a', _, dx, fs', rfl, h2, (hc c hm.1).1, (hc c hm.1).2, by rw [h3.len]; exact hm.2, p2 σ ι2 _ hR.2 ((A1.go g2 r2).go hR.2 hR.1)⟩
      · exact p2.elim
    · exact p2.elim
  · exact p2.elim
/-! ### raise -/
theorem ms_raise {i : Nat} {nm : Str} {msg : Str} {j' : Nat} {q1 q2 q3 q4 : Pos} {E₁ : Value → Shared → Prop} {K : PySem.W.Frag} {mg : Str → Option Value} (T : Errs K mg C.ec) (hn : nm = nmE i) (hi : i < 6) (hc : X.calm = true) (eK : X.K = K) (em : X.mg = mg) (hg : Gl X (nmE i)) (hd : (nmE i == ("__debug__" : Str)) = false)
    (hs : X.stack = X.env :: X.outer) (hf : X.env.frame = some X.env.locals) (hex : X.ex = []) (hx : X.xe = fun e s' => wpAny (model X.prog X.w) X.A (leaving X.env e) (fun _ s'' => L2N.CX X.prog X.w X.outer X.H_0 X.s_0 E e s'') E₁ s') :
    PS X (.Raise (some (.Call (.Name nm q1) [.Constant (.str msg) j' q2] [] q3)) none q4) (lS C E (sRaise i)) := by
  subst hn
  refine ps_w (L2N.ps_raise hc (L2N.takes_of hs hf hex hx) (T.mk_ eK em i hi hg hd)) fun Dn σ H h => ?_
  obtain ⟨ι, env, own, A, p⟩ := h
  exact p.2 ι H .refl A.r
/-! ### _law_told(lambda: ..) -/
def toldR (r : R D) : R D := match r with
  | .exc c o => if c < 6 then .ok (.tup [.str "refused", .str (nmE c)]) o else .bad
  | r => r
def mTold (m : M D) : M D := fun env own => toldR (m env own)
theorem Rel.extN {ι : List Addr} {own : Own} {H H' : Hp} (r : Rel C ι own H) (e : ExtN H H') (t : Tabs C.Tb H') : Rel C ι own H' ∧ Gr C ι H ι H' := by
  have hs : Sub (fz C ι H) (fz C ι H') := fun a o h n => by
    unfold fz at h ⊢
    split at h
    · cases h
    · rename_i z; rw [if_neg z]; exact e a o h n
  have ho : ∀ (i : Nat) (a : Addr) (o : Ob), ι[i]? = some a → own[i]? = some o → H' a = H a := fun i a o e1 e2 => by
    have := r.ob i a o e1 e2
    cases o with
    | lst ds => obtain ⟨vs, h, _⟩ := this; rw [h]; exact e _ _ h (fun _ z => nomatch z)
    | dct ds => obtain ⟨vs, h, _⟩ := this; rw [h]; exact e _ _ h (fun _ z => nomatch z)
    | ins c fs => obtain ⟨dx, vs, h, _⟩ := this; rw [h]; exact e _ _ h (fun _ z => nomatch z)
    | dlk ds o => obtain ⟨od, vs, e0, h, _⟩ := this; rw [h]; exact e _ _ h (fun _ z => by rw [e0] at z; cases z)
  have hh : ∀ a ∈ C.hid, H' a = H a := fun a ha => by
    obtain ⟨vs, h⟩ := r.hidN a ha
    rw [h]; exact e _ _ h (fun _ z => nomatch z)
  refine ⟨⟨r.nd, r.len, fun i a o e1 e2 => (r.ob i a o e1 e2).stay hs (List.prefix_refl _) (ho i a o e1 e2), t, fun a ha => ?_, r.hidD⟩, List.prefix_refl _, hs, hh⟩
  rw [hh a ha]; exact r.hidN a ha
/-- what a deed tells -/
theorem told_ok {ι : List Addr} {own : Own} {H : Hp} {m : M D} {σ : L2.St} {Q : VK} {TW : (XK → Hp → VK → Prop) → Hp → VK → Prop}
    (hTW : ∀ tl H Q, tl (fun cls d H' => ∃ i, i < 6 ∧ cls = .ref (C.ec i) ∧ d = none ∧ ∀ p H'', Same H' H'' → H' p = none → H'' p = some (.tup [.str "refused", .str (nmE i)]) → Q (.ref p) H'') H Q → TW tl H Q)
    (h : lE C E (mTold m) σ H Q) : tLam C.Tb TW (fun E => lE C E m) σ H Q := by
  obtain ⟨ι, env, own, A, p⟩ := h
  refine ⟨A.r.tabs, fun H1 e1 t1 => hTW _ _ _ ?_⟩
  obtain ⟨r1, g1⟩ := A.r.extN e1 t1
  refine ⟨ι, env, own, A.go g1 r1, ?_⟩
  unfold mTold at p
  cases q : m env own with
  | bad => rw [q] at p; exact p
  | ok d o => rw [q] at p; exact fun v ι' H' g r rp => p v ι' H' (g1.trans g) r rp
  | exc c o =>
    rw [q] at p
    unfold toldR at p
    by_cases hc : c < 6
    · dsimp only at p
      rw [if_pos hc] at p
      refine ⟨hc, fun ι' H' g r => ⟨c, hc, rfl, rfl, fun z H'' s np hp => ?_⟩⟩
      obtain ⟨r2, g2⟩ := r.extN (ExtN.of s) (r.tabs.ext s)
      refine p (.ref z) ι' H'' ((g1.trans g).trans g2) r2 (.tup (SqT.of ?_) (.cons (.str _) (.cons (.str _) .nil)))
      unfold fz
      rw [if_neg (fun y => y.elim (r.fresh np) (r.freshH np))]
      exact hp
    · dsimp only at p
      rw [if_neg hc] at p
      exact p.elim
end
end Mi

set_option Elab.async false
set_option linter.all false
set_option maxRecDepth 100000
set_option maxHeartbeats 4000000
namespace Mi
open PySem PySem.Spec PyProof.Rows L2 HotX LamX Ws
/-! ### built-in calls on data -/
def lenF (ds : List D) (own : Own) : R D := match ds with
  | [.str s] => if s.length ≤ 1000000 then .ok (.int s.length) own else .bad
  | [.ref h] => (match own[h]? with
    | some (.lst xs) => .ok (.int xs.length) own
    | some (.dct kvs) => .ok (.int kvs.length) own
    | _ => .bad)
  | [d] => (match rowD own d with
    | some xs => .ok (.int xs.length) own
    | none => .bad)
  | _ => .bad
abbrev rLenV (K : PySem.W.Frag) : List V → Hp → VK → Prop := fun xs H Q => ∃ x n, xs = [x] ∧ LenV K x H n ∧ Q (.int n) H
abbrev rLenD : List V → Hp → VK → Prop := fun xs H Q => ∃ a kvs, xs = [V.ref a] ∧ H a = some (.dK kvs) ∧ Q (.int kvs.length) H
def intsD : List D → Option (List Int)
  | [] => some []
  | .int i :: r => (intsD r).map (i :: ·)
  | _ => none
def blsD : List D → Option (List Bool)
  | [] => some []
  | .bl i :: r => (blsD r).map (i :: ·)
  | _ => none
def strsD : List D → Option (List Str)
  | [] => some []
  | .str i :: r => (strsD r).map (i :: ·)
  | _ => none
def minF (ds : List D) (own : Own) : R D := match ds with
  | [.int i, .int j] => .ok (.int (min i j)) own
  | _ => .bad
def maxF (ds : List D) (own : Own) : R D := match ds with
  | [.int i, .int j] => .ok (.int (max i j)) own
  | _ => .bad
def seq1 (ds : List D) (own : Own) : Option (List D) := match ds with
  | [d] => seqD own d
  | _ => none
def sumF (ds : List D) (own : Own) : R D := match (seq1 ds own).bind intsD with
  | some ns => .ok (.int ns.sum) own
  | none => .bad
def allF (ds : List D) (own : Own) : R D := match (seq1 ds own).bind blsD with
  | some bs => .ok (.bl (bs.all id)) own
  | none => .bad
def anyF (ds : List D) (own : Own) : R D := match (seq1 ds own).bind blsD with
  | some bs => .ok (.bl (bs.any id)) own
  | none => .bad
def srt (ns : List Int) : List Int := ns.mergeSort (fun a b => decide (a ≤ b))
def sortedF (ds : List D) (own : Own) : R D := match (seq1 ds own).bind intsD with
  | some ns => .ok (.lst ((srt ns).map D.int)) own
  | none => .bad
def tupleF (ds : List D) (own : Own) : R D := match ds with
  | [.tup xs] => .ok (.tup xs) own
  | [d] => (match seqD own d with
    | some xs => .ok (.tup xs) own
    | none => .bad)
  | _ => .bad
def listF (ds : List D) (own : Own) : R D := match ds with
  | [d] => (match rowD own d with
    | some xs => .ok (.lst xs) own
    | none => .bad)
  | _ => .bad
def listO (ds : List D) (own : Own) : R D := match ds with
  | [d] => (match rowD own d with
    | some xs => .ok (.ref own.length) (own ++ [.lst xs])
    | none => .bad)
  | _ => .bad
def intF (ds : List D) (own : Own) : R D := match ds with
  | [.int i] => .ok (.int i) own
  | [.bl b] => .ok (.int (if b then 1 else 0)) own
  | _ => .bad
def ordF (ds : List D) (own : Own) : R D := match ds with
  | [.str s] => if s.length = 1 then .ok (.int (s.cps.getD 0 0 : Nat)) own else .bad
  | _ => .bad
section
variable {K : PySem.W.Frag} {ω : Hp} {ι : List Addr}
theorem ints_ok : ∀ {ds : List D} {vs : List V} {ns : List Int}, RpAll K ω ι vs ds → intsD ds = some ns → vs = ns.map V.int
  | [], _, _, .nil, e => by cases e; rfl
  | .int i :: ds, _, ns, .cons h t, e => by
    simp only [intsD] at e
    cases q : intsD ds with
    | none => rw [q] at e; cases e
    | some l => rw [q] at e; cases e; cases h; rw [ints_ok t q]; rfl
  | .non :: _, _, _, .cons _ _, e => by cases e
  | .bl _ :: _, _, _, .cons _ _, e => by cases e
  | .str _ :: _, _, _, .cons _ _, e => by cases e
  | .tup _ :: _, _, _, .cons _ _, e => by cases e
  | .lst _ :: _, _, _, .cons _ _, e => by cases e
  | .frz _ :: _, _, _, .cons _ _, e => by cases e
  | .ref _ :: _, _, _, .cons _ _, e => by cases e
theorem bls_ok : ∀ {ds : List D} {vs : List V} {ns : List Bool}, RpAll K ω ι vs ds → blsD ds = some ns → vs = ns.map V.bl
  | [], _, _, .nil, e => by cases e; rfl
  | .bl i :: ds, _, ns, .cons h t, e => by
    simp only [blsD] at e
    cases q : blsD ds with
    | none => rw [q] at e; cases e
    | some l => rw [q] at e; cases e; cases h; rw [bls_ok t q]; rfl
  | .non :: _, _, _, .cons _ _, e => by cases e
  | .int _ :: _, _, _, .cons _ _, e => by cases e
  | .str _ :: _, _, _, .cons _ _, e => by cases e
  | .tup _ :: _, _, _, .cons _ _, e => by cases e
  | .lst _ :: _, _, _, .cons _ _, e => by cases e
  | .frz _ :: _, _, _, .cons _ _, e => by cases e
  | .ref _ :: _, _, _, .cons _ _, e => by cases e
theorem strs_ok : ∀ {ds : List D} {vs : List V} {ns : List Str}, RpAll K ω ι vs ds → strsD ds = some ns → vs = ns.map V.str
  | [], _, _, .nil, e => by cases e; rfl
  | .str i :: ds, _, ns, .cons h t, e => by
    simp only [strsD] at e
    cases q : strsD ds with
    | none => rw [q] at e; cases e
    | some l => rw [q] at e; cases e; cases h; rw [strs_ok t q]; rfl
  | .non :: _, _, _, .cons _ _, e => by cases e
  | .bl _ :: _, _, _, .cons _ _, e => by cases e
  | .int _ :: _, _, _, .cons _ _, e => by cases e
  | .tup _ :: _, _, _, .cons _ _, e => by cases e
  | .lst _ :: _, _, _, .cons _ _, e => by cases e
  | .frz _ :: _, _, _, .cons _ _, e => by cases e
  | .ref _ :: _, _, _, .cons _ _, e => by cases e
end
theorem srt_of {ns ns' : List Int} (hp : ns'.Perm ns) (hs : ns'.Pairwise (· ≤ ·)) : ns' = srt ns := by
  have h1 : (srt ns).Perm ns := List.mergeSort_perm _ _
  have h2 : (srt ns).Pairwise (· ≤ ·) := by
    have := List.pairwise_mergeSort (le := fun a b : Int => decide (a ≤ b)) (by intro a b c; simp; omega) (by intro a b; simp; omega) ns
    exact this.imp (by intro a b h; simpa using h)
  exact List.Perm.eq_of_pairwise (fun a b _ _ h1 h2 => Int.le_antisymm h1 h2) hs h2 (hp.trans h1.symm)
section
variable {X : Cx} {C : Cn} {E : XK} {ι : List Addr} {own : Own} {H : Hp}
theorem oa_len (K : PySem.W.Frag) (h : X.K = K := by rfl) : CallR X (.builtin "len") (rOr1 (rLenV K) rLenD) := by subst h; exact cr_or call_len call_lenD
theorem ad_len : AdL C E (rOr1 (rLenV C.K) rLenD) lenF := by
  intro ι own H xs ds Q r ra p
  unfold lenF at p
  split at p
  · rcases ra with _ | ⟨r1, ⟨⟩⟩
    cases r1
    split at p
    · rename_i hz; exact .inl ⟨_, _, rfl, ⟨szM hz, rfl⟩, p.here r (.int _)⟩
    · exact p.elim
  · rcases ra with _ | ⟨r1, ⟨⟩⟩
    cases r1 with
    | ref hi =>
      split at p
      · rename_i xs e
        obtain ⟨vs, h1, h2⟩ := r.ob _ _ _ hi e
        refine .inl ⟨_, vs.length, rfl, .inl ⟨vs, SqL.of h1, rfl⟩, ?_⟩
        rw [h2.len]
        exact p.here r (.int _)
      · rename_i kvs e
        obtain ⟨vs, h1, h2⟩ := r.ob _ _ _ hi e
        refine .inr ⟨_, vs, rfl, h1, ?_⟩
        rw [h2.len]
        exact p.here r (.int _)
      · exact p.elim
  · rcases ra with _ | ⟨r1, ⟨⟩⟩
    split at p
    · rename_i xs e
      obtain ⟨a, vs, rfl, h1, h2⟩ := rowD_ok r r1 e
      refine .inl ⟨_, vs.length, rfl, h1.imp (fun h => ⟨vs, h, rfl⟩) (fun h => ⟨vs, h, rfl⟩), ?_⟩
      rw [h2.len]
      exact p.here r (.int _)
    · exact p.elim
  · exact p.elim
theorem ad_min : AdL C E rMn minF := by
  intro ι own H xs ds Q r ra p
  unfold minF at p
  split at p
  · rcases ra with _ | ⟨r1, _ | ⟨r2, ⟨⟩⟩⟩
    cases r1; cases r2
    exact x_min (p.here r (.int _))
  · exact p.elim
theorem ad_max : AdL C E rMx maxF := by
  intro ι own H xs ds Q r ra p
  unfold maxF at p
  split at p
  · rcases ra with _ | ⟨r1, _ | ⟨r2, ⟨⟩⟩⟩
    cases r1; cases r2
    exact x_max (p.here r (.int _))
  · exact p.elim
theorem seq1_ok {α : Type} {f : List D → Option α} {xs : List V} {ds : List D} {y : α} (r : Rel C ι own H) (ra : RpAll C.K (fz C ι H) ι xs ds) (e : (seq1 ds own).bind f = some y) : ∃ a vs es, xs = [.ref a] ∧ SqL C.K H a vs ∧ RpAll C.K (fz C ι H) ι vs es ∧ f es = some y := by
  match ds, ra, e with
  | [], _, e => cases e
  | _ :: _ :: _, _, e => cases e
  | [d], ra, e =>
    rcases ra with _ | ⟨r1, ⟨⟩⟩
    cases q : seqD own d with
    | none => rw [seq1, q] at e; cases e
    | some es =>
      rw [seq1, q] at e
      obtain ⟨a, vs, rfl, h1, h2⟩ := seqD_ok r r1 q
      exact ⟨a, vs, es, rfl, h1, h2, e⟩
theorem ad_sum : AdL C E (rSum C.K) sumF := by
  intro ι own H xs ds Q r ra p
  unfold sumF at p
  split at p
  · rename_i ns e
    obtain ⟨a, vs, es, rfl, h1, h2, h3⟩ := seq1_ok r ra e
    rw [ints_ok h2 h3] at h1
    exact ⟨a, ns, rfl, h1, p.here r (.int _)⟩
  · exact p.elim
theorem ad_all : AdL C E (rAll C.K) allF := by
  intro ι own H xs ds Q r ra p
  unfold allF at p
  split at p
  · rename_i ns e
    obtain ⟨a, vs, es, rfl, h1, h2, h3⟩ := seq1_ok r ra e
    rw [bls_ok h2 h3] at h1
    exact ⟨a, ns, rfl, h1, p.here r (.bl _)⟩
  · exact p.elim
theorem ad_any : AdL C E (rAny C.K) anyF := by
  intro ι own H xs ds Q r ra p
  unfold anyF at p
  split at p
  · rename_i ns e
    obtain ⟨a, vs, es, rfl, h1, h2, h3⟩ := seq1_ok r ra e
    rw [bls_ok h2 h3] at h1
    exact ⟨a, ns, rfl, h1, p.here r (.bl _)⟩
  · exact p.elim
theorem ad_sorted : AdL C E (rSortedI C.K) sortedF := by
  intro ι own H xs ds Q r ra p
  unfold sortedF at p
  split at p
  · rename_i ns e
    obtain ⟨a, vs, es, rfl, h1, h2, h3⟩ := seq1_ok r ra e
    rw [ints_ok h2 h3] at h1
    refine ⟨a, ns, rfl, h1, fun ns' q hp hs hq => ?_⟩
    rw [srt_of hp hs]
    exact p.newL r (.ints _) hq
  · exact p.elim
theorem ad_tuple : AdL C E (rTpl C.K) tupleF := by
  intro ι own H xs ds Q r ra p
  unfold tupleF at p
  split at p
  · rcases ra with _ | ⟨r1, ⟨⟩⟩
    obtain ⟨a, vs, rfl, h1, h2⟩ := tup_ok r1
    exact ⟨a, vs, rfl, .inr ⟨h1, p.here r r1⟩⟩
  · rcases ra with _ | ⟨r1, ⟨⟩⟩
    split at p
    · rename_i es e
      obtain ⟨a, vs, rfl, h1, h2⟩ := seqD_ok r r1 e
      exact ⟨a, vs, rfl, .inl ⟨h1, fun q hq => p.newT r h2 hq⟩⟩
    · exact p.elim
  · exact p.elim
theorem ad_list : AdL C E (rLsO C.K) listF := by
  intro ι own H xs ds Q r ra p
  unfold listF at p
  split at p
  · rcases ra with _ | ⟨r1, ⟨⟩⟩
    split at p
    · rename_i es e
      obtain ⟨a, vs, rfl, h1, h2⟩ := rowD_ok r r1 e
      exact ⟨a, vs, rfl, h1, fun q hq => p.newL r h2 hq⟩
    · exact p.elim
  · exact p.elim
theorem ad_listO : AdL C E (rLsO C.K) listO := by
  intro ι own H xs ds Q r ra p
  unfold listO at p
  split at p
  · rcases ra with _ | ⟨r1, ⟨⟩⟩
    split at p
    · rename_i es e
      obtain ⟨a, vs, rfl, h1, h2⟩ := rowD_ok r r1 e
      exact ⟨a, vs, rfl, h1, fun q hq => p.newOL r h2 hq⟩
    · exact p.elim
  · exact p.elim
theorem ad_int : AdL C E rInt1 intF := by
  intro ι own H xs ds Q r ra p
  unfold intF at p
  split at p
  · rcases ra with _ | ⟨r1, ⟨⟩⟩; cases r1; exact .inl ⟨_, rfl, p.here r (.int _)⟩
  · rcases ra with _ | ⟨r1, ⟨⟩⟩; cases r1; exact .inr ⟨_, rfl, p.here r (.int _)⟩
  · exact p.elim
theorem ad_ord : AdL C E rOrd ordF := by
  intro ι own H xs ds Q r ra p
  unfold ordF at p
  split at p
  · rcases ra with _ | ⟨r1, ⟨⟩⟩; cases r1
    split at p
    · rename_i hz; exact ⟨_, rfl, hz, p.here r (.int _)⟩
    · exact p.elim
  · exact p.elim
end
/-! ### isinstance -/
def tyD (own : Own) : D → Option String
  | .non => some "NoneType"
  | .bl _ => some "bool"
  | .int _ => some "int"
  | .str _ => some "str"
  | .tup _ => some "tuple"
  | .lst _ => some "list"
  | .frz _ => some "list"
  | .ref h => match own[h]? with
    | some (.lst _) => some "list"
    | some (.dct _) => some "dict"
    | _ => none
def isiB (T U : String) : Bool := T == U || (T == "bool" && U == "int")
theorem isiB_ok : ∀ T ∈ tyN, ∀ U ∈ ["int", "bool", "str", "list", "tuple"], kitB T U = some (isiB T U) := by decide +kernel
def isiF (U : String) (d : D) (own : Own) : R D := match tyD own d with
  | some T => .ok (.bl (isiB T U)) own
  | none => .bad
def isi2F (d : D) (own : Own) : R D := match tyD own d with
  | some T => .ok (.bl (T == "list" || T == "tuple")) own
  | none => .bad
section
variable {X : Cx} {C : Cn} {E : XK} {a : Expr} {ma : M D} {pos p p2 p3 pt : Pos} {U : String} {u : Str}
theorem tyD_ok {ι : List Addr} {own : Own} {H : Hp} {x : V} {d : D} {T : String} (r : Rel C ι own H) (rx : Rp C.K (fz C ι H) ι x d) (e : tyD own d = some T) : T ∈ tyN ∧ TyX C.K H x (.type T) := by
  cases rx with
  | non => cases e; exact ⟨by decide, .base .non⟩
  | bl b => cases e; exact ⟨by decide, .base (.bl b)⟩
  | int i => cases e; exact ⟨by decide, .base (.int i)⟩
  | str i => cases e; exact ⟨by decide, .base (.str i)⟩
  | tup h t => cases e; exact ⟨by decide, tyx_sqt (sqt_sub fz_sub h)⟩
  | lst h t => cases e; exact ⟨by decide, tyx_sql (SqL.of (fz_sub _ _ h (fun _ z => nomatch z)))⟩
  | frz h t => cases e; exact ⟨by decide, tyx_sql (sql_sub fz_sub h)⟩
  | ref h =>
    simp only [tyD] at e
    split at e
    · rename_i q; cases e; obtain ⟨vs, h1, _⟩ := r.ob _ _ _ h q; exact ⟨by decide, .base (.lst h1)⟩
    · rename_i q; cases e; obtain ⟨vs, h1, _⟩ := r.ob _ _ _ h q; exact ⟨by decide, .base (.dK h1)⟩
    · cases e
theorem me_isi (hU : U ∈ ["int", "bool", "str", "list", "tuple"]) (hm : X.mg "isinstance" = none) (hu : X.mg u = none) (hb : bootBuiltins u = some (.type U)) (he : PE X a (lE C E ma)) (hX : X.K = C.K := by rfl) (hg : Gl X "isinstance" := by rfl) (hg2 : Gl X u := by rfl) (hn : u ≠ "__name__" := by decide) (hdb : (u == ("__debug__" : Str)) = false := by decide)
    (h1 : starEach [a, .Name u p2] X.env = (false, eval a X.env) :: starEach [.Name u p2] X.env := by rfl) (h2 : starEach [.Name u p2] X.env = (false, eval (.Name u p2) X.env) :: starEach [] X.env := by rfl) (hpl : (backTo pos (starEach [.Name u p2] X.env)).any (·.1) = false := by rfl) :
    PE X (.Call (.Name "isinstance" p) [a, .Name u p2] [] pos) (lE C E (m1 (isiF U) ma)) := pe_w (q_cb (kc_isi C.K hX) hm bb_isinstance (pa_cons he (pa_cons (q_ty hu hb hg2 hn hdb) pa_nil h2) h1) hg (by decide) (by decide) h1 hpl) fun σ H Q h => by
  show lE C E ma σ H fun x H1 => rIsi C.K [x, .ty U] H1 Q
  refine lf_imp (lf_bind h) ?_
  rintro x H1 ⟨ι1, env1, own1, d, A1, rx, p1⟩
  unfold isiF at p1
  split at p1
  · rename_i T e
    obtain ⟨h1, h2⟩ := tyD_ok A1.r rx e
    exact x_isi h2 (isiB_ok T h1 U hU) (p1.here A1.r (.bl _))
  · exact p1.elim
theorem me_isi2 {kk : Nat} (hm : X.mg "isinstance" = none) (hl : X.mg "list" = none) (ht : X.mg "tuple" = none) (he : PE X a (lE C E ma)) (hX : X.K = C.K := by rfl) (hg : Gl X "isinstance" := by rfl) (hg2 : Gl X "list" := by rfl) (hg3 : Gl X "tuple" := by rfl)
    (h1 : starEach [a, .Tuple [.Name "list" p2, .Name "tuple" p3] kk pt] X.env = (false, eval a X.env) :: starEach [.Tuple [.Name "list" p2, .Name "tuple" p3] kk pt] X.env := by rfl) (h2 : starEach [.Tuple [.Name "list" p2, .Name "tuple" p3] kk pt] X.env = (false, eval (.Tuple [.Name "list" p2, .Name "tuple" p3] kk pt) X.env) :: starEach [] X.env := by rfl)
    (hpl : (backTo pos (starEach [.Tuple [.Name "list" p2, .Name "tuple" p3] kk pt] X.env)).any (·.1) = false := by rfl) (h3 : starEach [.Name "list" p2, .Name "tuple" p3] X.env = (false, eval (.Name "list" p2) X.env) :: starEach [.Name "tuple" p3] X.env := by rfl) (h4 : starEach [.Name "tuple" p3] X.env = (false, eval (.Name "tuple" p3) X.env) :: starEach [] X.env := by rfl) :
    PE X (.Call (.Name "isinstance" p) [a, .Tuple [.Name "list" p2, .Name "tuple" p3] kk pt] [] pos) (lE C E (m1 isi2F ma)) := pe_w (q_cb (kc_isiT C.K hX) hm bb_isinstance (pa_cons he (pa_cons (pe_tup (pa_cons (q_ty hl bb_list hg2 (by decide) (by decide)) (pa_cons (q_ty ht bb_tuple hg3 (by decide) (by decide)) pa_nil h4) h3)) pa_nil h2) h1) hg (by decide) (by decide) h1 hpl) fun σ H Q h => by
  show lE C E ma σ H fun x H1 => (2 ≤ sizeLine ∧ ∀ q, H1 q = none → rIsiT C.K [x, .ref q] (upd H1 q (.tup [.ty "list", .ty "tuple"])) Q)
  refine lf_imp (lf_bind h) ?_
  rintro x H1 ⟨ι1, env1, own1, d, A1, rx, p1⟩
  refine ⟨by decide, fun q hq => ?_⟩
  obtain ⟨r2, g2⟩ := A1.r.new (o := .tup [.ty "list", .ty "tuple"]) hq
  unfold isi2F at p1
  split at p1
  · rename_i T e
    obtain ⟨h1, h2⟩ := tyD_ok A1.r rx e
    exact x_isLT h1 (tyx_same (same_upd hq) h2) upd_same (Post.here (p1.gr g2) r2 (.bl _))
  · exact p1.elim
end
/-! ### methods of lists, texts -/
def appF (d : D) (ds : List D) (own : Own) : R D := match d, ds with
  | .ref h, [y] => (match own[h]? with
    | some (.lst xs) => if xs.length < 1000000 then .ok .non (own.set h (.lst (xs ++ [y]))) else .bad
    | _ => .bad)
  | _, _ => .bad
def popF (d : D) (ds : List D) (own : Own) : R D := match d, ds with
  | .ref h, [] => (match own[h]? with
    | some (.lst xs) => (match xs[xs.length - 1]? with
      | some y => .ok y (own.set h (.lst xs.dropLast))
      | none => .bad)
    | _ => .bad)
  | _, _ => .bad
noncomputable def popAtF (d : D) (ds : List D) (own : Own) : R D := match d, ds with
  | .ref h, [.int i] => (match own[h]? with
    | some (.lst xs) => if cB (-1000000000 ≤ i ∧ i < 1000000000) = true then (match seqIndex? i xs.length with
      | some k => (match xs[k]? with
        | some y => .ok y (own.set h (.lst (xs.eraseIdx k)))
        | none => .bad)
      | none => .bad) else .bad
    | _ => .bad)
  | _, _ => .bad
/-- the first place of an equal one -/
def findE (x : PyData) : List PyData → Nat → Option Nat
  | [], _ => none
  | z :: r, n => if PyData.eqv z x = true then some n else findE x r (n + 1)
def indexF (d : D) (ds : List D) (own : Own) : R D := match ds with
  | [y] => (match toPyT own d, toPyT own y with
    | some (.list xs), some x => if SeqAt.shaped (.list xs) = true ∧ SeqAt.shaped x = true then (match findE x xs 0 with
      | some j => .ok (.int (j : Nat)) own
      | none => .bad) else .bad
    | _, _ => .bad)
  | _ => .bad
def joinF (d : D) (ds : List D) (own : Own) : R D := match d, ds with
  | .str a, [e] => (match (rowD own e).bind strsD with
    | some ys => if (ys.map (·.length)).sum + ys.length * a.length ≤ 1000000 then .ok (.str (Txt.join a ys)) own else .bad
    | none => .bad)
  | _, _ => .bad
theorem findE_ok {x : PyData} : ∀ {xs : List PyData} {n j : Nat}, findE x xs n = some j → ∃ k z, j = n + k ∧ xs[k]? = some z ∧ PyData.eqv z x = true ∧ ∀ (m : Nat) (z' : PyData), m < k → xs[m]? = some z' → PyData.eqv z' x = false
  | [], _, _, e => by cases e
  | z :: r, n, j, e => by
    unfold findE at e
    split at e
    · rename_i h; cases e; exact ⟨0, z, rfl, rfl, h, fun m z' hm => absurd hm (Nat.not_lt_zero _)⟩
    · rename_i h
      obtain ⟨k, z1, e1, e2, e3, e4⟩ := findE_ok e
      refine ⟨k + 1, z1, by omega, e2, e3, fun m z' hm hz => ?_⟩
      cases m with
      | zero => simp at hz; subst hz; simpa using h
      | succ m => exact e4 m z' (by omega) (by simpa using hz)
section
variable {X : Cx} {C : Cn} {E : XK} {a e : Expr} {es : List Expr} {ma : M D} {ms : M (List D)} {apos cpos : Pos} {ι : List Addr} {own : Own} {H : Hp}
theorem ob_lst {v : V} {h : Nat} {xs : List D} (r : Rel C ι own H) (rp : Rp C.K (fz C ι H) ι v (.ref h)) (e : own[h]? = some (.lst xs)) : ∃ a vs, v = .ref a ∧ ι[h]? = some a ∧ H a = some (.lst vs) ∧ RpAll C.K (fz C ι H) ι vs xs := by
  cases rp with
  | ref h1 =>
    obtain ⟨vs, h2, h3⟩ := r.ob _ _ _ h1 e
    exact ⟨_, vs, rfl, h1, h2, h3⟩
theorem put_lst {h : Nat} {a : Addr} {vs ws : List V} {ds : List D} (r : Rel C ι own H) (hi : ι[h]? = some a) (ha : H a = some (.lst vs)) (hr : RpAll C.K (fz C ι H) ι ws ds) : Rel C ι (own.set h (.lst ds)) (upd H a (.lst ws)) ∧ Gr C ι H ι (upd H a (.lst ws)) := r.put hi ha rfl ⟨ws, upd_same, hr⟩
theorem RpAll.dropLast {K : PySem.W.Frag} {ω : Hp} {vs : List V} {ds : List D} (h : RpAll K ω ι vs ds) : RpAll K ω ι vs.dropLast ds.dropLast := by
  rw [List.dropLast_eq_take, List.dropLast_eq_take, h.len]; exact h.take _
theorem RpAll.eraseIdx {K : PySem.W.Frag} {ω : Hp} {vs : List V} {ds : List D} (h : RpAll K ω ι vs ds) (k : Nat) : RpAll K ω ι (vs.eraseIdx k) (ds.eraseIdx k) := by
  rw [List.eraseIdx_eq_take_drop_succ, List.eraseIdx_eq_take_drop_succ]; exact (h.take _).append (h.drop _)
theorem ad_app : AdM C E rAppend appF := by
  intro ι own H x xs d ds Q r rx ra p
  unfold appF at p
  split at p
  · split at p
    · rename_i zs eo
      split at p
      · rename_i hz
        rcases ra with _ | ⟨r1, ⟨⟩⟩
        obtain ⟨a, vs, rfl, hi, ha, hv⟩ := ob_lst r rx eo
        obtain ⟨r2, g2⟩ := put_lst r hi ha (hv.append (.one r1))
        exact ⟨a, vs, _, rfl, rfl, ha, szN (by rw [hv.len]; exact hz), p _ _ _ g2 r2 .non⟩
      · exact p.elim
    · exact p.elim
  · exact p.elim
theorem ad_pop : AdM C E rPop popF := by
  intro ι own H x xs d ds Q r rx ra p
  unfold popF at p
  split at p
  · split at p
    · rename_i zs eo
      split at p
      · rename_i y ey
        cases ra
        obtain ⟨a, vs, rfl, hi, ha, hv⟩ := ob_lst r rx eo
        obtain ⟨r2, g2⟩ := put_lst r hi ha hv.dropLast
        rw [← hv.len] at ey
        obtain ⟨w, ew, rw'⟩ := hv.get ey
        exact ⟨a, vs, w, rfl, rfl, ha, ew, p _ _ _ g2 r2 (rw'.mono g2.sub g2.pre)⟩
      · exact p.elim
    · exact p.elim
  · exact p.elim
theorem ad_popAt : AdM C E rPopAt popAtF := by
  intro ι own H x xs d ds Q r rx ra p
  unfold popAtF at p
  split at p
  · split at p
    · rename_i zs eo
      split at p
      · rename_i hz
        split at p
        · rename_i k ek
          split at p
          · rename_i y ey
            rcases ra with _ | ⟨r1, ⟨⟩⟩
            cases r1
            obtain ⟨a, vs, rfl, hi, ha, hv⟩ := ob_lst r rx eo
            obtain ⟨r2, g2⟩ := put_lst r hi ha (hv.eraseIdx k)
            obtain ⟨w, ew, rw'⟩ := hv.get ey
            exact ⟨a, vs, _, k, w, rfl, rfl, ha, by rw [cB_iff] at hz; omega, by rw [cB_iff] at hz; omega, by rw [hv.len]; exact ek, ew, p _ _ _ g2 r2 (rw'.mono g2.sub g2.pre)⟩
          · exact p.elim
        · exact p.elim
      · exact p.elim
    · exact p.elim
  · exact p.elim
theorem ad_index : AdM C E (rIndexD C.K) indexF := by
  intro ι own H x xs d ds Q r rx ra p
  unfold indexF at p
  split at p
  · rcases ra with _ | ⟨r1, ⟨⟩⟩
    split at p
    · rename_i e1 e2
      split at p
      · rename_i hz
        split at p
        · rename_i j ej
          obtain ⟨k, z, e3, e4, e5, e6⟩ := findE_ok ej
          have h1 := toPyT_ok r rx e1
          obtain ⟨a, rfl⟩ : ∃ a, x = .ref a := by cases h1; exact ⟨_, rfl⟩
          rw [Nat.zero_add] at e3
          subst e3
          exact ⟨a, _, _, _, j, z, rfl, rfl, h1, toPyT_ok r r1 e2, hz.1, hz.2, e4, e5, e6, p.here r (.int _)⟩
        · exact p.elim
      · exact p.elim
    · exact p.elim
  · exact p.elim
def mBm (f : D → List D → Own → R D) (ma : M D) (ms : M (List D)) : M D := mB ma fun d env own => match seqD own d with
  | some _ => (ms env own).bind fun ds o => f d ds o
  | none => .bad
theorem me_bm {id : String} {name : Str} {rr : V → List V → Hp → VK → Prop} {f : D → List D → Own → R D} (pa : PlainAttrs "list") (slot : Slot "list" name id) (hty : typeOf (.builtin id) = pure (.type "method_descriptor")) (hm : MtR X id rr) (ad : AdM C E rr f) (ho : PE X a (lE C E ma)) (ha : PA X (e :: es) (lA C E ms)) (hX : X.K = C.K := by rfl)
    (hbase : attributeBase a name X.env (eval a X.env) = eval a X.env := by rfl)
    (hfew : ((backTo cpos (starEach (e :: es) X.env)).all (fun x => !x.1) && (backToKw cpos (keywordEach [] X.env)).all (fun x => x.1.isSome) && decide ((e :: es).length + ([] : List Keyword).length + (if ([] : List Keyword).isEmpty then 0 else 1) < 30)) = true := by rfl)
    (hline : (apos.endLine == cpos.line) = true := by rfl) (hs : starEach (e :: es) X.env = (false, eval e X.env) :: starEach es X.env := by rfl) (hplain : (backTo cpos (starEach es X.env)).any (·.1) = false := by rfl) :
    PE X (.Call (.Attribute a name apos) (e :: es) [] cpos) (lE C E (mBm f ma ms)) := pe_w (k_bm C.K pa slot hty hm ho ha hX hbase hfew hline hs hplain) fun σ H Q h => by
  refine lf_imp (lf_bind h) ?_
  rintro x H1 ⟨ι1, env1, own1, d, A1, rx, p1⟩
  split at p1
  · rename_i ys q
    obtain ⟨b, vs, rfl, h1, h2⟩ := seqD_ok A1.r rx q
    refine ⟨Or.inl ⟨rfl, vs, h1⟩, ι1, env1, own1, A1, Post.imp (Post.bind p1) ?_⟩
    rintro xs H2 ⟨ι2, own2, ds, g2, r2, ra, p2⟩
    exact ad ι2 own2 H2 _ xs d ds Q r2 (rx.mono g2.sub g2.pre) ra p2
  · exact p1.elim
theorem me_append (ho : PE X a (lE C E ma)) (ha : PA X [e] (lA C E ms)) (hX : X.K = C.K := by rfl) (hbase : attributeBase a "append" X.env (eval a X.env) = eval a X.env := by rfl)
    (hfew : ((backTo cpos (starEach [e] X.env)).all (fun x => !x.1) && (backToKw cpos (keywordEach [] X.env)).all (fun x => x.1.isSome) && decide (([e] : List Expr).length + ([] : List Keyword).length + (if ([] : List Keyword).isEmpty then 0 else 1) < 30)) = true := by rfl)
    (hline : (apos.endLine == cpos.line) = true := by rfl) (hs : starEach [e] X.env = (false, eval e X.env) :: starEach [] X.env := by rfl) (hplain : (backTo cpos (starEach [] X.env)).any (·.1) = false := by rfl) :
    PE X (.Call (.Attribute a "append" apos) [e] [] cpos) (lE C E (mBm appF ma ms)) := me_bm PySem.F.plainAttrs_list PySem.F.slot_list_append PySem.F.type_list_append mt_append ad_app ho ha hX hbase hfew hline hs hplain
theorem me_index (hu : X.A.units + 65 < cLine) (ho : PE X a (lE C E ma)) (ha : PA X [e] (lA C E ms)) (hX : X.K = C.K := by rfl) (hbase : attributeBase a "index" X.env (eval a X.env) = eval a X.env := by rfl)
    (hfew : ((backTo cpos (starEach [e] X.env)).all (fun x => !x.1) && (backToKw cpos (keywordEach [] X.env)).all (fun x => x.1.isSome) && decide (([e] : List Expr).length + ([] : List Keyword).length + (if ([] : List Keyword).isEmpty then 0 else 1) < 30)) = true := by rfl)
    (hline : (apos.endLine == cpos.line) = true := by rfl) (hs : starEach [e] X.env = (false, eval e X.env) :: starEach [] X.env := by rfl) (hplain : (backTo cpos (starEach [] X.env)).any (·.1) = false := by rfl) :
    PE X (.Call (.Attribute a "index" apos) [e] [] cpos) (lE C E (mBm indexF ma ms)) := by
  refine me_bm PySem.F.plainAttrs_list PySem.F.slot_list_index PySem.F.type_list_index (mt_indexD hu) (by rw [hX]; exact ad_index) ho ha hX hbase hfew hline hs hplain
theorem me_popAt (ho : PE X a (lE C E ma)) (ha : PA X [e] (lA C E ms)) (hX : X.K = C.K := by rfl) (hbase : attributeBase a "pop" X.env (eval a X.env) = eval a X.env := by rfl)
    (hfew : ((backTo cpos (starEach [e] X.env)).all (fun x => !x.1) && (backToKw cpos (keywordEach [] X.env)).all (fun x => x.1.isSome) && decide (([e] : List Expr).length + ([] : List Keyword).length + (if ([] : List Keyword).isEmpty then 0 else 1) < 30)) = true := by rfl)
    (hline : (apos.endLine == cpos.line) = true := by rfl) (hs : starEach [e] X.env = (false, eval e X.env) :: starEach [] X.env := by rfl) (hplain : (backTo cpos (starEach [] X.env)).any (·.1) = false := by rfl) :
    PE X (.Call (.Attribute a "pop" apos) [e] [] cpos) (lE C E (mBm popAtF ma ms)) := me_bm PySem.F.plainAttrs_list PySem.F.slot_list_pop PySem.F.type_list_pop mt_popAt ad_popAt ho ha hX hbase hfew hline hs hplain
def mJoin (ma mb : M D) : M D := mB ma fun d env own => match d with
  | .str s => (mb env own).bind fun e o => joinF (.str s) [e] o
  | _ => .bad
theorem me_join {mb : M D} (ho : PE X a (lE C E ma)) (he : PE X e (lE C E mb)) (hX : X.K = C.K := by rfl) (h1 : starEach [e] X.env = [(false, eval e X.env)] := by rfl) (h2 : attributeBase a "join" X.env (eval a X.env) = eval a X.env := by rfl) (h3 : (apos.endLine == cpos.line) = true := by rfl) :
    PE X (.Call (.Attribute a "join" apos) [e] [] cpos) (lE C E (mJoin ma mb)) := pe_w (k_join C.K ho he hX h1 h2 h3) fun σ H Q h => by
  refine lf_imp (lf_bind h) ?_
  rintro x H1 ⟨ι1, env1, own1, d, A1, rx, p1⟩
  cases d with
  | str s =>
    cases rx
    refine ⟨⟨_, rfl⟩, ι1, env1, own1, A1, Post.imp (Post.bind p1) ?_⟩
    rintro y H2 ⟨ι2, own2, e2, g2, r2, ry, p2⟩
    have p2 : Post (rV C.K) C E ι2 H2 (joinF (.str s) [e2] own2) Q := p2
    unfold joinF at p2
    dsimp only at p2
    split at p2
    · rename_i ys ey
      split at p2
      · rename_i hz
        cases q : rowD own2 e2 with
        | none => rw [q] at ey; cases ey
        | some es =>
          rw [q] at ey
          obtain ⟨b, vs, rfl, k1, k2⟩ := rowD_ok r2 ry q
          rw [strs_ok k2 ey] at k1
          exact ⟨s, b, ys, rfl, rfl, k1, Nat.le_trans hz (by decide), p2.here r2 (.str _)⟩
      · exact p2.elim
    · exact p2.elim
  | _ => exact (show False from p1).elim
end
end Mi

set_option Elab.async false
set_option linter.all false
set_option maxRecDepth 100000
set_option maxHeartbeats 4000000
namespace Mi
open PySem PySem.Spec PyProof.Rows L2 HotX LamX Ws
/-! ### dicts whose keys are numbers and texts -/
def keyD : D → Option Key
  | .int i => some (.inl i)
  | .str s => some (.inr s)
  | _ => none
def keyV : Key → D
  | .inl i => .int i
  | .inr s => .str s
def valD (kvs : List (Key × D)) (k : Key) : Option D := (kvs.find? fun kv => decide (kv.1 = k)).map (·.2)
def putD (kvs : List (Key × D)) (k : Key) (v : D) : List (Key × D) :=
  if (kvs.any fun kv => decide (kv.1 = k)) = true then kvs.map (fun kv => if kv.1 = k then (kv.1, v) else kv) else kvs ++ [(k, v)]
def dropD (kvs : List (Key × D)) (k : Key) : List (Key × D) := kvs.filter fun kv => decide (kv.1 ≠ k)
def mergeD (kvs more : List (Key × D)) : List (Key × D) := more.foldl (fun acc kv => putD acc kv.1 kv.2) kvs
def dctD (own : Own) : D → Option (List (Key × D))
  | .ref h => match own[h]? with
    | some (.dct kvs) => some kvs
    | some (.dlk kvs _) => some kvs
    | _ => none
  | _ => none
def dgetF (d e : D) (own : Own) : R D := match dctD own d, keyD e with
  | some kvs, some k => (match valD kvs k with
    | some v => .ok v own
    | none => .bad)
  | _, _ => .bad
def dinF (e d : D) (own : Own) : R D := match dctD own d with
  | some kvs => (match e with
    | .non => .ok (.bl false) own
    | e => (match keyD e with
      | some k => .ok (.bl (valD kvs k).isSome) own
      | none => .bad))
  | none => .bad
def dninF (e d : D) (own : Own) : R D := match dctD own d with
  | some kvs => (match e with
    | .non => .ok (.bl true) own
    | e => (match keyD e with
      | some k => .ok (.bl (!(valD kvs k).isSome)) own
      | none => .bad))
  | none => .bad
def dnewF (own : Own) : R D := .ok (.ref own.length) (own ++ [.dct []])
def mDNew : M D := fun _ own => dnewF own
def pairsD : List D → Option (List (Key × D))
  | [] => some []
  | .tup [a, b] :: r => match keyD a, pairsD r with
    | some k, some l => some ((k, b) :: l)
    | _, _ => none
  | _ => none
def dictPF (ds : List D) (own : Own) : R D := match (seq1 ds own).bind pairsD with
  | some kvs => .ok (.ref own.length) (own ++ [.dct (mergeD [] kvs)])
  | none => .bad
def dputF (v d e : D) (env : Env) (own : Own) : RS := match d with
  | .ref h => (match own[h]?, keyD e with
    | some (.dct kvs), some k => if kvs.length < 1000000 then .nx env (own.set h (.dct (putD kvs k v))) else .bad
    | _, _ => .bad)
  | _ => .bad
def sDput (mv md me : M D) : MS := sB mv fun v => sB md fun d => sB me fun e env own => dputF v d e env own
def dpopF (d e : D) (own : Own) : R D := match d with
  | .ref h => (match own[h]?, keyD e with
    | some (.dct kvs), some k => (match valD kvs k with
      | some v => .ok v (own.set h (.dct (dropD kvs k)))
      | none => .bad)
    | _, _ => .bad)
  | _ => .bad
def mDpop (md me : M D) : M D := mB md fun d env own => match dctD own d with
  | some _ => (me env own).bind fun e o => dpopF d e o
  | none => .bad
def dget2F (d e x : D) (own : Own) : R D := match dctD own d, keyD e with
  | some kvs, some k => .ok ((valD kvs k).getD x) own
  | _, _ => .bad
def mDget2 (md me mx : M D) : M D := mB md fun d env own => match dctD own d with
  | some _ => (me env own).bind fun e o => (mx env o).bind fun x o => dget2F d e x o
  | none => .bad
section
variable {K : PySem.W.Frag} {ω : Hp} {ι : List Addr}
theorem key_ok {x : V} {d : D} {k : Key} (h : Rp K ω ι x d) (e : keyD d = some k) : x = kV k := by
  cases h <;> cases e <;> rfl
theorem val_ok {k : Key} : ∀ {fs : List (Key × V)} {gs : List (Key × D)}, RpKV K ω ι fs gs → (valD gs k = none → valV fs k = none) ∧ ∀ d, valD gs k = some d → ∃ v, valV fs k = some v ∧ Rp K ω ι v d
  | _, _, .nil => ⟨fun _ => rfl, fun d e => by cases e⟩
  | (a, v) :: fs, (b, d) :: gs, .cons h t => by
    obtain ⟨e, r⟩ := h
    have e : a = b := e
    subst e
    obtain ⟨i1, i2⟩ := val_ok (k := k) t
    unfold valD valV at *
    rw [List.find?_cons, List.find?_cons]
    by_cases q : a = k
    · simp only [q, decide_true]
      refine ⟨fun z => (nomatch z), fun d' z => ?_⟩
      cases z
      exact ⟨v, rfl, r⟩
    · simp only [q, decide_false]; exact ⟨i1, i2⟩
theorem val_some {k : Key} {fs : List (Key × V)} {gs : List (Key × D)} (h : RpKV K ω ι fs gs) : (valV fs k).isSome = (valD gs k).isSome := by
  obtain ⟨h1, h2⟩ := val_ok (k := k) h
  cases e : valD gs k with
  | none => rw [h1 e]; rfl
  | some d => obtain ⟨v, e2, _⟩ := h2 d e; rw [e2]; rfl
theorem any_ok {k : Key} : ∀ {fs : List (Key × V)} {gs : List (Key × D)}, RpKV K ω ι fs gs → (fs.any fun kv => decide (kv.1 = k)) = gs.any fun kv => decide (kv.1 = k)
  | _, _, .nil => rfl
  | (a, v) :: fs, (b, d) :: gs, .cons h t => by
    obtain ⟨e, r⟩ := h
    have e : a = b := e
    subst e
    rw [List.any_cons, List.any_cons, any_ok t]
theorem put_ok {k : Key} {v : V} {d : D} (r : Rp K ω ι v d) {fs : List (Key × V)} {gs : List (Key × D)} (h : RpKV K ω ι fs gs) : RpKV K ω ι (putK fs k v) (putD gs k d) := by
  unfold putK putD
  rw [any_ok h]
  have hm : RpKV K ω ι (fs.map fun kv => if kv.1 = k then (kv.1, v) else kv) (gs.map fun kv => if kv.1 = k then (kv.1, d) else kv) := by
    induction h with
    | nil => exact .nil
    | @cons p q ps qs h t ih =>
      obtain ⟨p1, p2⟩ := p
      obtain ⟨q1, q2⟩ := q
      obtain ⟨e, rr⟩ := h
      have e : p1 = q1 := e
      subst e
      rw [List.map_cons, List.map_cons]
      refine .cons ?_ ih
      dsimp only
      split
      · exact ⟨rfl, r⟩
      · exact ⟨rfl, rr⟩
  have ha : RpKV K ω ι (fs ++ [(k, v)]) (gs ++ [(k, d)]) := by
    clear hm
    induction h with
    | nil => exact .cons ⟨rfl, r⟩ .nil
    | cons h t ih => exact .cons h ih
  split
  · exact hm
  · exact ha
theorem drop_ok {k : Key} {fs : List (Key × V)} {gs : List (Key × D)} (h : RpKV K ω ι fs gs) : RpKV K ω ι (dropK fs k) (dropD gs k) := by
  unfold dropK dropD
  induction h with
  | nil => exact .nil
  | @cons p q ps qs h t ih =>
    obtain ⟨p1, p2⟩ := p
    obtain ⟨q1, q2⟩ := q
    obtain ⟨e, rr⟩ := h
    have e : p1 = q1 := e
    subst e
    rw [List.filter_cons, List.filter_cons]
    dsimp only
    split
    · exact .cons ⟨rfl, rr⟩ ih
    · exact ih
theorem merge_ok {fs : List (Key × V)} {gs : List (Key × D)} (h : RpKV K ω ι fs gs) {fs' : List (Key × V)} {gs' : List (Key × D)} (h' : RpKV K ω ι fs' gs') : RpKV K ω ι (mergeK fs fs') (mergeD gs gs') := by
  unfold mergeK mergeD
  unfold RpKV at h'
  induction h' generalizing fs gs with
  | nil => exact h
  | @cons p q ps qs hh t ih =>
    obtain ⟨e, rr⟩ := hh
    rw [List.foldl_cons, List.foldl_cons]
    refine ih ?_
    rw [e]
    exact put_ok rr h
theorem pairs_ok {ω : Hp} : ∀ {ds : List D} {vs : List V} {kvs : List (Key × D)}, RpAll K ω ι vs ds → pairsD ds = some kvs → ∃ (ps : List Addr) (kvs' : List (Key × V)), vs = ps.map V.ref ∧ Paired (fun p (kv : Key × V) => SqT K ω p [kV kv.1, kv.2]) ps kvs' ∧ RpKV K ω ι kvs' kvs
  | [], _, _, .nil, e => by cases e; exact ⟨[], [], rfl, .nil, .nil⟩
  | .tup [a, b] :: ds, _, kvs, .cons h t, e => by
    simp only [pairsD] at e
    split at e
    · rename_i k l e1 e2
      cases e
      obtain ⟨ps, kvs', rfl, h1, h2⟩ := pairs_ok t e2
      cases h with
      | @tup p ws _ hs ha =>
        rcases ha with _ | ⟨r1, _ | ⟨r2, ⟨⟩⟩⟩
        rename_i v1 v2
        refine ⟨p :: ps, (k, v2) :: kvs', rfl, .cons ?_ h1, .cons ⟨rfl, r2⟩ h2⟩
        have := key_ok r1 e1
        subst this
        exact hs
    · cases e
  | .non :: _, _, _, .cons _ _, e => by cases e
  | .bl _ :: _, _, _, .cons _ _, e => by cases e
  | .str _ :: _, _, _, .cons _ _, e => by cases e
  | .int _ :: _, _, _, .cons _ _, e => by cases e
  | .lst _ :: _, _, _, .cons _ _, e => by cases e
  | .frz _ :: _, _, _, .cons _ _, e => by cases e
  | .ref _ :: _, _, _, .cons _ _, e => by cases e
  | .tup [] :: _, _, _, .cons _ _, e => by cases e
  | .tup [_] :: _, _, _, .cons _ _, e => by cases e
  | .tup (_ :: _ :: _ :: _) :: _, _, _, .cons _ _, e => by cases e
end
section
variable {X : Cx} {C : Cn} {E : XK} {a b c e : Expr} {ma mb mc : M D} {pos pos' apos cpos : Pos} {ι : List Addr} {own : Own} {H : Hp}
theorem dct_ok {x : V} {d : D} {kvs : List (Key × D)} (r : Rel C ι own H) (rx : Rp C.K (fz C ι H) ι x d) (e : dctD own d = some kvs) : ∃ h a kvs', d = .ref h ∧ (own[h]? = some (.dct kvs) ∧ H a = some (.dK kvs') ∨ ∃ o, own[h]? = some (.dlk kvs o)) ∧ x = .ref a ∧ ι[h]? = some a ∧ Rd H a (.dK kvs') ∧ RpKV C.K (fz C ι H) ι kvs' kvs := by
  cases rx with
  | ref h1 =>
    simp only [dctD] at e
    split at e
    · rename_i q
      cases e
      obtain ⟨vs, h2, h3⟩ := r.ob _ _ _ h1 q
      exact ⟨_, _, vs, rfl, .inl ⟨q, h2⟩, rfl, h1, .inl h2, h3⟩
    · rename_i o q
      cases e
      obtain ⟨od, vs, rfl, h2, h3⟩ := r.ob _ _ _ h1 q
      exact ⟨_, _, vs, rfl, .inr ⟨_, q⟩, rfl, h1, .inr ⟨od, h2⟩, h3⟩
    · cases e
  | _ => cases e
theorem dgetR {H : Hp} {a : Addr} {kvs : List (Key × V)} {k : Key} (e : Rd H a (.dK kvs)) : DGet H a (kV k) (valV kvs k) := .inl ⟨kvs, k, e, rfl, rfl⟩
theorem dget_of {x y : V} {d e : D} {Q : VK} (r : Rel C ι own H) (rx : Rp C.K (fz C ι H) ι x d) (ry : Rp C.K (fz C ι H) ι y e) (p : Post (rV C.K) C E ι H (dgetF d e own) Q) : ∃ a v, x = .ref a ∧ DGet H a y (some v) ∧ Q v H := by
  unfold dgetF at p
  split at p
  · rename_i e1 e2
    split at p
    · rename_i v e3
      obtain ⟨h, a, kvs', rfl, _, rfl, hi, ha, hr⟩ := dct_ok r rx e1
      obtain ⟨w, e4, rw'⟩ := (val_ok hr).2 _ e3
      refine ⟨a, w, rfl, ?_, p.here r rw'⟩
      rw [key_ok ry e2, ← e4]
      exact dgetR ha
    · exact p.elim
  · exact p.elim
theorem me_dget (hu : X.A.units + 1 < cLine) (ha : PE X a (lE C E ma)) (hb : PE X b (lE C E mb)) (hs : NoSl b := by exact fun _ _ => rfl) : PE X (.Subscript a b pos) (lE C E (m2 dgetF ma mb)) := pe_w (pe_dget hu ha hb hs) fun σ H Q h => by
  refine lf_imp (lf_bind h) ?_
  rintro x H1 ⟨ι1, env1, own1, d, A1, rx, p1⟩
  refine ⟨ι1, env1, own1, A1, p1.bind.imp ?_⟩
  rintro y H2 ⟨ι2, own2, e, g2, r2, ry, p2⟩
  exact dget_of r2 (rx.mono g2.sub g2.pre) ry p2
theorem me_din (hu : X.A.units + 1 < cLine) (ha : PE X a (lE C E ma)) (hb : PE X b (lE C E mb)) : PC X .In a b (lE C E (m2 dinF ma mb)) := ⟨fun pins s σ H Q I h => (pc_dinN hu ha hb).run pins s σ H Q I (by
  refine lf_imp (lf_bind h) ?_
  rintro y H1 ⟨ι1, env1, own1, e, A1, ry, p1⟩
  refine ⟨ι1, env1, own1, A1, p1.bind.imp ?_⟩
  rintro x H2 ⟨ι2, own2, d, g2, r2, rx, p2⟩
  replace ry := ry.mono g2.sub g2.pre
  replace p2 : Post (rV C.K) C E ι2 H2 (dinF e d own2) Q := p2
  clear p1 h
  unfold dinF at p2
  split at p2
  · rename_i kvs e1
    obtain ⟨h, a, kvs', ed, _, rfl, hi, ha, hr⟩ := dct_ok r2 rx e1
    split at p2
    · cases ry; exact .inr ⟨a, kvs', rfl, rfl, ha, p2.here r2 (.bl _)⟩
    · split at p2
      · rename_i k e2
        refine .inl ⟨a, _, rfl, by rw [key_ok ry e2]; exact dgetR ha, ?_⟩
        rw [val_some hr]
        exact p2.here r2 (.bl _)
      · exact p2.elim
  · exact p2.elim)⟩
theorem me_dnin (hu : X.A.units + 1 < cLine) (ha : PE X a (lE C E ma)) (hb : PE X b (lE C E mb)) : PC X .NotIn a b (lE C E (m2 dninF ma mb)) := ⟨fun pins s σ H Q I h => (pc_dnotinN hu ha hb).run pins s σ H Q I (by
  refine lf_imp (lf_bind h) ?_
  rintro y H1 ⟨ι1, env1, own1, e, A1, ry, p1⟩
  refine ⟨ι1, env1, own1, A1, p1.bind.imp ?_⟩
  rintro x H2 ⟨ι2, own2, d, g2, r2, rx, p2⟩
  replace ry := ry.mono g2.sub g2.pre
  replace p2 : Post (rV C.K) C E ι2 H2 (dninF e d own2) Q := p2
  clear p1 h
  unfold dninF at p2
  split at p2
  · rename_i kvs e1
    obtain ⟨h, a, kvs', ed, _, rfl, hi, ha, hr⟩ := dct_ok r2 rx e1
    split at p2
    · cases ry; exact .inr ⟨a, kvs', rfl, rfl, ha, p2.here r2 (.bl _)⟩
    · split at p2
      · rename_i k e2
        refine .inl ⟨a, _, rfl, by rw [key_ok ry e2]; exact dgetR ha, ?_⟩
        rw [val_some hr]
        exact p2.here r2 (.bl _)
      · exact p2.elim
  · exact p2.elim)⟩
theorem me_pc {op : CmpOp} {m : M D} (h : PC X op a b (lE C E m)) (h1 : behindInMarks op b = false := by rfl) : PE X (.Compare a [op] [b] pos) (lE C E m) := pe_cmp h h1
theorem mt_pc {op : CmpOp} {m : M D} (h : PC X op a b (lE C E m)) (h1 : behindInMarks op b = false := by rfl) : PT X (.Compare a [op] [b] pos) (lT C E (mT m)) := pt_w (pt_cmp h h1) fun σ H Q h => by
  refine lf_imp (lf_bind h) ?_
  rintro x H1 ⟨ι1, env1, own1, d, A1, rx, p1⟩
  obtain ⟨b, rfl, rfl, _⟩ := toB_ok (rep := rBo) (k := fun b o => .ok b o) (Q := Q) (by cases d <;> exact p1) rx
  exact ⟨b, rfl, p1.here A1.r rfl⟩
theorem Post.newOD {kvs' : List (Key × V)} {kvs : List (Key × D)} {Q : VK} (h : Post (rV C.K) C E ι H (.ok (.ref own.length) (own ++ [.dct kvs])) Q) (r : Rel C ι own H) (a : RpKV C.K (fz C ι H) ι kvs' kvs) {p : Addr} (hp : H p = none) : Q (.ref p) (upd H p (.dK kvs')) := by
  have g := gr_newO (o := .dK kvs') r hp
  exact h _ _ _ g (r.newO hp ⟨kvs', upd_same, a.mono g.sub g.pre⟩) (.ref (by rw [← r.len]; simp))
theorem me_dnew : PE X (.Dict [] [] pos) (lE C E mDNew) := pe_w pe_dnewK fun σ H Q h => by
  obtain ⟨ι, env, own, A, p⟩ := h
  exact fun q hq => Post.newOD p A.r .nil hq
theorem ad_dictP : AdL C E (rDctP C.K) dictPF := by
  intro ι own H xs ds Q r ra p
  unfold dictPF at p
  split at p
  · rename_i kvs e
    obtain ⟨a, vs, es, rfl, h1, h2, h3⟩ := seq1_ok r ra e
    obtain ⟨ps, kvs', rfl, h4, h5⟩ := pairs_ok h2 h3
    exact ⟨a, ps, kvs', rfl, h1, Paired.mapP h4 fun _ _ z => sqt_sub fz_sub z, fun q hq => Post.newOD p r (merge_ok .nil h5) hq⟩
  · exact p.elim
theorem ms_dput (hu : X.A.units + 1 < cLine) (ha : PE X a (lE C E ma)) (hb : PE X b (lE C E mb)) (hv : PE X c (lE C E mc)) (hs : swapsWith c (some (.Subscript a b pos')) pos.line X.env = pure false := by rfl) : PS X (.Assign [.Subscript a b pos'] c pos) (lS C E (sDput mc ma mb)) := ps_w (ps_dput hu ha hb hv hs) fun Dn σ H h => by
  refine lf_imp (lS_bind h) ?_
  rintro v H1 ⟨ι1, env1, own1, dv, A1, rv, p1⟩
  refine ⟨ι1, env1, own1, A1, Post.imp (PostS.bind p1) ?_⟩
  rintro x H2 ⟨ι2, own2, d, g2, r2, rx, p2⟩
  refine ⟨ι2, env1, own2, A1.go g2 r2, Post.imp (PostS.bind p2) ?_⟩
  rintro y H3 ⟨ι3, own3, e, g3, r3, ry, p3⟩
  have g23 := g2.trans g3
  replace rv := rv.mono g23.sub g23.pre
  replace rx := rx.mono g3.sub g3.pre
  have p3 : PostS C E ι3 H3 (dputF dv d e env1 own3) Dn := p3
  unfold dputF at p3
  split at p3
  · rename_i h
    split at p3
    · rename_i kvs k e1 e2
      split at p3
      · rename_i hz
        cases rx with
        | ref h1 =>
          obtain ⟨kvs', h2, h3⟩ := r3.ob _ _ _ h1 e1
          have hR := r3.put (o := .dK (putK kvs' k v)) h1 h2 rfl (ob := .dct (putD kvs k dv)) ⟨_, upd_same, put_ok rv h3⟩
          refine ⟨_, _, rfl, .inl ⟨kvs', k, h2, key_ok ry e2, szN (by rw [h3.len]; exact hz), rfl⟩, p3 σ ι3 _ hR.2 ((A1.go g23 r3).go hR.2 hR.1)⟩
      · exact p3.elim
    · exact p3.elim
  · exact p3.elim
theorem me_dpop (ha : PE X a (lE C E ma)) (hb : PE X b (lE C E mb)) (m : M1 X a "pop" apos b cpos := by exact ⟨rfl, rfl, rfl, rfl⟩) : PE X (.Call (.Attribute a "pop" apos) [b] [] cpos) (lE C E (mDpop ma mb)) := pe_w (pe_dpop1 ha hb m) fun σ H Q h => by
  refine lf_imp (lf_bind h) ?_
  rintro x H1 ⟨ι1, env1, own1, d, A1, rx, p1⟩
  split at p1
  · rename_i kvs e1
    obtain ⟨h, a', kvs', rfl, _, rfl, hi, ha', hr⟩ := dct_ok A1.r rx e1
    refine ⟨a', rfl, Or.inl ⟨kvs', ha'⟩, ι1, env1, own1, A1, Post.imp (Post.bind p1) ?_⟩
    rintro y H2 ⟨ι2, own2, e, g2, r2, ry, p2⟩
    replace rx := rx.mono g2.sub g2.pre
    unfold dpopF at p2
    dsimp only at p2
    split at p2
    · rename_i kvs2 k e3 e4
      split at p2
      · rename_i v e5
        cases rx with
        | ref h1 =>
          obtain ⟨kvs2', h2, h3⟩ := r2.ob _ _ _ h1 e3
          obtain ⟨w, e6, rw'⟩ := (val_ok h3).2 _ e5
          have hR := r2.put (o := .dK (dropK kvs2' k)) h1 h2 rfl (ob := .dct (dropD kvs2 k)) ⟨_, upd_same, drop_ok h3⟩
          exact ⟨kvs2', k, w, h2, key_ok ry e4, e6, p2 w ι2 _ hR.2 hR.1 (rw'.mono hR.2.sub hR.2.pre)⟩
      · exact p2.elim
    · exact p2.elim
  · exact p1.elim
theorem me_dget2 (hu : X.A.units + 1 < cLine) (ha : PE X a (lE C E ma)) (hb : PE X b (lE C E mb)) (hc : PE X c (lE C E mc)) (m : M2 X a "get" apos b c cpos := by exact ⟨rfl, rfl, rfl, rfl⟩) : PE X (.Call (.Attribute a "get" apos) [b, c] [] cpos) (lE C E (mDget2 ma mb mc)) := pe_w (pe_dget2 hu ha hb hc m) fun σ H Q h => by
  refine lf_imp (lf_bind h) ?_
  rintro x H1 ⟨ι1, env1, own1, d, A1, rx, p1⟩
  split at p1
  · rename_i kvs e1
    obtain ⟨h, a', kvs', rfl, _, rfl, hi, ha', hr⟩ := dct_ok A1.r rx e1
    refine ⟨a', rfl, Or.inl ⟨kvs', ha'⟩, ι1, env1, own1, A1, Post.imp (Post.bind p1) ?_⟩
    rintro y H2 ⟨ι2, own2, e, g2, r2, ry, p2⟩
    refine ⟨ι2, env1, own2, A1.go g2 r2, Post.imp (Post.bind p2) ?_⟩
    rintro z H3 ⟨ι3, own3, x3, g3, r3, rz, p3⟩
    have g23 := g2.trans g3
    replace rx := rx.mono g23.sub g23.pre
    replace ry := ry.mono g3.sub g3.pre
    unfold dget2F at p3
    split at p3
    · rename_i kvs2 k e3 e4
      obtain ⟨h, a2, kvs2', e5, _, e6, hi2, ha2, hr2⟩ := dct_ok r3 rx e3
      cases e6
      refine ⟨valV kvs2' k, by rw [key_ok ry e4]; exact dgetR ha2, p3.here r3 ?_⟩
      obtain ⟨v1, v2⟩ := val_ok (k := k) hr2
      cases q : valD kvs2 k with
      | none => rw [v1 q]; exact rz
      | some u => obtain ⟨w, e7, rw'⟩ := v2 u q; rw [e7]; exact rw'
    · exact p3.elim
  · exact p1.elim
end
end Mi

set_option Elab.async false
set_option linter.all false
set_option maxRecDepth 100000
set_option maxHeartbeats 4000000
namespace Mi
open PySem PySem.Spec PyProof.Rows L2 HotX LamX Ws
theorem un1 {k : Nat} {A : Around} (r : Room k A) : A.units + 1 < cLine := by have := r.un; omega
theorem un65 {k : Nat} {A : Around} (r : Room k A) : A.units + 65 < cLine := by have := r.un; omega
/-! ### x[i] = v -/
def putF' (v d e : D) (env : Env) (own : Own) : RS := match d with
  | .ref h => (match own[h]? with
    | some (.dct kvs) => (match keyD e with
      | some k => if kvs.length < 1000000 then .nx env (own.set h (.dct (putD kvs k v))) else .bad
      | none => .bad)
    | some (.lst xs) => (match e with
      | .int i => (match ixN xs.length i with
        | some j => .nx env (own.set h (.lst (xs.set j v)))
        | none => .bad)
      | _ => .bad)
    | _ => .bad)
  | _ => .bad
def gSubM (md me : M D) : MG := fun v => sB md fun d => sB me fun e env own => putF' v d e env own
theorem sB_ok {α : Type} {m : M α} {k : α → MS} (h : ∀ a env own, match k a env own with | .nx _ _ => True | .exc _ _ => True | .bad => True | _ => False) : ∀ env own, match sB m k env own with | .nx _ _ => True | .exc _ _ => True | .bad => True | _ => False := fun env own => by
  unfold sB
  cases m env own with
  | ok a o => exact h a env o
  | exc c o => trivial
  | bad => trivial
theorem putF_or (v d e : D) (env : Env) (own : Own) : (∃ e' o', putF' v d e env own = .nx e' o') ∨ putF' v d e env own = .bad := by
  unfold putF'
  repeat' split
  all_goals first | exact .inl ⟨_, _, rfl⟩ | exact .inr rfl
theorem gok_sub {md me : M D} : GOk (gSubM md me) := fun v env own => sB_ok (fun d env own => sB_ok (fun e env own => by
  rcases putF_or v d e env own with ⟨_, _, q⟩ | q <;> rw [q] <;> trivial) env own) env own
section
variable {X : Cx} {C : Cn} {E : XK} {a b : Expr} {ma mb : M D} {pos : Pos}
theorem pset_or {X : Cx} {t u : TSet} (h : PSet X t) (h' : PSet X u) : PSet X (fun o i v H Q => t o i v H Q ∨ u o i v H Q) := by
  intro pins s σ H o i v ov iv u' Q I ro ri rv z
  rcases z with z | z
  · exact h pins s σ H o i v ov iv u' Q I ro ri rv z
  · exact h' pins s σ H o i v ov iv u' Q I ro ri rv z
theorem mg_sub (hu : X.A.units + 1 < cLine) (ha : PE X a (lE C E ma)) (hb : PE X b (lE C E mb)) (hh : ∀ v, assign (.Subscript a b pos) X.env v = (do
      let ov ← holding [v] (eval a X.env)
      let iv ← holding [v, ov] (eval b X.env)
      standAt pos
      holding [v, ov, iv] (setItem ov iv v)
      release [v, ov, iv] []) := by intro _; rfl) : PG X (.Subscript a b pos) (lG C E (gSubM ma mb)) := pg_w (pg_sub ha hb (pset_or set_list (set_dict hu)) hh) fun v σ H Rn h => by
  obtain ⟨ι, env, own, dv, A, rv, p⟩ := h
  have p : PostS C E ι H (gSubM ma mb dv env own) { nx := Rn, rt := fun _ _ => False } := by
    have := gok_sub (md := ma) (me := mb) dv env own
    cases q : gSubM ma mb dv env own with
    | nx e o => rw [q] at p; exact p
    | exc c o => rw [q] at p; exact p
    | bad => rw [q] at p; exact p
    | _ => rw [q] at this; exact this.elim
  refine ⟨ι, env, own, A, Post.imp (PostS.bind p) ?_⟩
  rintro x H2 ⟨ι2, own2, d, g2, r2, rx, p2⟩
  refine ⟨ι2, env, own2, A.go g2 r2, Post.imp (PostS.bind p2) ?_⟩
  rintro y H3 ⟨ι3, own3, e, g3, r3, ry, p3⟩
  have g23 := g2.trans g3
  replace rv := rv.mono g23.sub g23.pre
  replace rx := rx.mono g3.sub g3.pre
  replace p3 : PostS C E ι3 H3 (putF' dv d e env own3) { nx := Rn, rt := fun _ _ => False } := p3
  clear p2 p
  unfold putF' at p3
  split at p3
  · rename_i h
    cases rx with
    | ref h1 =>
      split at p3
      · rename_i kvs e1
        split at p3
        · rename_i k e2
          split at p3
          · rename_i hz
            obtain ⟨kvs', h2, h3⟩ := r3.ob _ _ _ h1 e1
            have hR := r3.put (o := .dK (putK kvs' k v)) h1 h2 rfl (ob := .dct (putD kvs k dv)) ⟨_, upd_same, put_ok rv h3⟩
            refine .inr ⟨_, _, rfl, .inl ⟨kvs', k, h2, key_ok ry e2, szN (by rw [h3.len]; exact hz), rfl⟩, p3 σ ι3 _ hR.2 ((A.go g23 r3).go hR.2 hR.1)⟩
          · exact p3.elim
        · exact p3.elim
      · rename_i xs e1
        split at p3
        · split at p3
          · rename_i j ej
            cases ry
            obtain ⟨vs, h2, h3⟩ := r3.ob _ _ _ h1 e1
            have hR := put_lst r3 h1 h2 (h3.set rv j)
            exact .inl ⟨_, vs, _, j, rfl, rfl, h2, by rw [h3.len]; exact ej, p3 σ ι3 _ hR.2 ((A.go g23 r3).go hR.2 hR.1)⟩
          · exact p3.elim
        · exact p3.elim
      · exact p3.elim
  · exact p3.elim
end
/-! ### a def that leaves all as it was: what it made is forgotten -/
mutual
def D.lt (n : Nat) : D → Bool
  | .ref h => decide (h < n)
  | .tup xs => ltAll n xs
  | .lst xs => ltAll n xs
  | .frz xs => ltAll n xs
  | _ => true
def ltAll (n : Nat) : List D → Bool
  | [] => true
  | d :: ds => D.lt n d && ltAll n ds
end
section
variable {K : PySem.W.Frag} {ω ω' : Hp} {ι ι' : List Addr}
mutual
theorem Rp.lt {v : V} {d : D} : Rp K ω ι v d → D.lt ι.length d = true
  | .non => by simp [D.lt]
  | .bl _ => by simp [D.lt]
  | .int _ => by simp [D.lt]
  | .str _ => by simp [D.lt]
  | .ref h => by simp [D.lt]; exact (List.getElem?_eq_some_iff.mp h).1
  | .tup _ a => by simp [D.lt]; exact RpAll.lt a
  | .lst _ a => by simp [D.lt]; exact RpAll.lt a
  | .frz _ a => by simp [D.lt]; exact RpAll.lt a
theorem RpAll.lt {vs : List V} {ds : List D} : RpAll K ω ι vs ds → ltAll ι.length ds = true
  | .nil => by simp [ltAll]
  | .cons h t => by simp [ltAll, Rp.lt h, RpAll.lt t]
end
mutual
theorem Rp.down (s : Sub ω ω') (p : ι' <+: ι) {v : V} {d : D} : Rp K ω ι v d → D.lt ι'.length d = true → Rp K ω' ι' v d
  | .non, _ => .non
  | .bl b, _ => .bl b
  | .int i, _ => .int i
  | .str x, _ => .str x
  | .ref h, e => .ref (by
      simp [D.lt] at e
      obtain ⟨r, rfl⟩ := p
      rw [List.getElem?_append_left e] at h
      exact h)
  | .tup h a, e => .tup (sqt_sub s h) (RpAll.down s p a (by simpa [D.lt] using e))
  | .lst h a, e => .lst (s _ _ h (fun _ z => nomatch z)) (RpAll.down s p a (by simpa [D.lt] using e))
  | .frz h a, e => .frz (sql_sub s h) (RpAll.down s p a (by simpa [D.lt] using e))
theorem RpAll.down (s : Sub ω ω') (p : ι' <+: ι) {vs : List V} {ds : List D} : RpAll K ω ι vs ds → ltAll ι'.length ds = true → RpAll K ω' ι' vs ds
  | .nil, _ => .nil
  | .cons h t, e => by
    simp [ltAll] at e
    exact .cons (Rp.down s p h e.1) (RpAll.down s p t e.2)
end
theorem RpKV.down {κ : Type} (s : Sub ω ω') (p : ι' <+: ι) {fs fs0 : List (κ × V)} {gs : List (κ × D)} {ω0 : Hp} (h : RpKV K ω ι fs gs) (h0 : RpKV K ω0 ι' fs0 gs) : RpKV K ω' ι' fs gs := by
  unfold RpKV at h h0 ⊢
  induction h generalizing fs0 with
  | nil => exact .nil
  | cons a t ih =>
    cases h0 with
    | cons b u => exact .cons ⟨a.1, a.2.down s p b.2.lt⟩ (ih u)
end
/-- what is told, without what was made -/
def cln (n : Nat) (o : Own) (d : D) : Option D := if d.lt n = true then some d else match d with
  | .ref h => (match o[h]? with
    | some (.lst xs) => if n ≤ h ∧ ltAll n xs = true then some (.lst xs) else none
    | _ => none)
  | _ => none
open Classical in
noncomputable def trP (own : Own) (r : R D) : R D := match r with
  | .ok d o => if o.take own.length = own then (match cln own.length o d with
    | some d => .ok d own
    | none => .bad) else .bad
  | .exc c o => if o.take own.length = own then .exc c own else .bad
  | .bad => .bad
section
variable {C : Cn} {E : XK} {ι ι' : List Addr} {own o : Own} {H H' : Hp}
theorem sub_less (p : ι <+: ι') : Sub (fz C ι' H') (fz C ι H') := fun a u e _ => by
  unfold fz at e ⊢
  split at e
  · cases e
  · rename_i z
    rw [if_neg (fun y => z (y.imp (fun q => p.subset q) id))]
    exact e
theorem rel_less (r0 : Rel C ι own H) (g : Gr C ι H ι' H') (r : Rel C ι' o H') (e : o.take own.length = own) : Rel C ι own H' ∧ Gr C ι H ι H' := by
  refine ⟨⟨r0.nd, r0.len, fun i a ob e1 e2 => ?_, r.tabs, r.hidN, r0.hidD⟩, List.prefix_refl _, g.sub.trans (sub_less g.pre), g.hid⟩
  have hi : i < own.length := (List.getElem?_eq_some_iff.mp e2).1
  have e1' : ι'[i]? = some a := by
    obtain ⟨t, rfl⟩ := g.pre
    rw [List.getElem?_append_left (by rw [r0.len]; exact hi)]
    exact e1
  have e2' : o[i]? = some ob := by
    have := congrArg (fun l => l[i]?) e
    simp only [List.getElem?_take, hi, if_true] at this
    rw [this]; exact e2
  have h := r.ob i a ob e1' e2'
  have h0 := r0.ob i a ob e1 e2
  cases ob with
  | lst ds =>
    obtain ⟨vs, k1, k2⟩ := h
    obtain ⟨ws, k3, k4⟩ := h0
    exact ⟨vs, k1, k2.down (sub_less g.pre) g.pre k4.lt⟩
  | dct kvs =>
    obtain ⟨vs, k1, k2⟩ := h
    obtain ⟨ws, k3, k4⟩ := h0
    exact ⟨vs, k1, k2.down (sub_less g.pre) g.pre k4⟩
  | ins c fs =>
    obtain ⟨dx, vs, k1, k2⟩ := h
    obtain ⟨dx', ws, k3, k4⟩ := h0
    exact ⟨dx, vs, k1, k2.down (sub_less g.pre) g.pre k4⟩
  | dlk kvs oo =>
    obtain ⟨od, vs, k0, k1, k2⟩ := h
    obtain ⟨od', ws, k0', k3, k4⟩ := h0
    exact ⟨od, vs, k0, k1, k2.down (sub_less g.pre) g.pre k4⟩
theorem cln_ok (r0 : Rel C ι own H) (g : Gr C ι H ι' H') (r : Rel C ι' o H') {v : V} {d d' : D} (rp : Rp C.K (fz C ι' H') ι' v d) (e : cln own.length o d = some d') : Rp C.K (fz C ι H') ι v d' := by
  unfold cln at e
  split at e
  · rename_i hl
    cases e
    exact rp.down (sub_less g.pre) g.pre (by rw [r0.len]; exact hl)
  · split at e
    · rename_i h _
      split at e
      · rename_i xs eo
        split at e
        · rename_i hz
          cases e
          cases rp with
          | ref h1 =>
            obtain ⟨vs, k1, k2⟩ := r.ob _ _ _ h1 eo
            refine .lst ?_ (k2.down (sub_less g.pre) g.pre (by rw [r0.len]; exact hz.2))
            unfold fz
            rw [if_neg]
            · exact k1
            · rintro (z | z)
              · obtain ⟨t, rfl⟩ := g.pre
                obtain ⟨i, hi, e3⟩ := List.mem_iff_getElem.mp z
                obtain ⟨h2, e4⟩ := List.getElem?_eq_some_iff.mp h1
                have : i = h := (List.getElem_inj r.nd (h₀ := by rw [List.length_append]; omega) (h₁ := h2)).mp (by rw [e4, List.getElem_append_left hi]; exact e3)
                rw [r0.len] at hi
                omega
              · exact r.hidD _ z (List.mem_of_getElem? h1)
        · cases e
      · cases e
    · cases e
theorem post_trP {r : R D} {Q : VK} (r0 : Rel C ι own H) (p : Post (rV C.K) C E ι H (trP own r) Q) : Post (rV C.K) C E ι H r Q := by
  cases r with
  | bad => exact p
  | exc c o =>
    unfold trP at p
    dsimp only at p
    split at p
    · rename_i e
      refine ⟨p.1, fun ι' H' g rl => ?_⟩
      obtain ⟨r1, g1⟩ := rel_less r0 g rl e
      exact p.2 ι H' g1 r1
    · exact p.elim
  | ok d o =>
    unfold trP at p
    dsimp only at p
    split at p
    · rename_i e
      split at p
      · rename_i d' ed
        intro v ι' H' g rl rp
        obtain ⟨r1, g1⟩ := rel_less r0 g rl e
        exact p v ι H' g1 r1 (cln_ok r0 g rl rp ed)
      · exact p.elim
    · exact p.elim
end
noncomputable def runP (n : Nat) (m : MS) : MF := fun ds own => trP own (runF n m ds own)
theorem sp_tr {C : Cn} {n k : Nat} {m : MS} {vs : List V} {H : Hp} {Q : VK} {E : XK} (h : spM C n (runP k m) vs H Q E) : spM C n (runF k m) vs H Q E := by
  obtain ⟨ι, own, ds, hn, r, a, p⟩ := h
  exact ⟨ι, own, ds, hn, r, a, post_trP r p⟩
theorem fn_w {P : Program} {w : World} {K : PySem.W.Frag} {mg : Str → Option Value} {base : Heap} {k : Nat} {x : Str} {sp sp' : Sp} (F : Fn P w K mg base k x sp) (h : ∀ vs H Q E, sp' vs H Q E → sp vs H Q E) : Fn P w K mg base k x sp' := by
  obtain ⟨f, fd, ps, F1, h1, h2, h3⟩ := F.ex
  exact ⟨f, fd, ps, F1.imp h, h1, h2, h3⟩
theorem fn_P {P : Program} {w : World} {K : PySem.W.Frag} {mg : Str → Option Value} {base : Heap} {C : Cn} {k n l : Nat} {x : Str} {m : MS} (F : Fn P w K mg base k x (spM C n (runF l m))) : Fn P w K mg base k x (spM C n (runP l m)) := fn_w F fun _ _ _ _ => sp_tr
/-! ### names that nobody reads any more are forgotten -/
def sEndW (vs : List Nat) (m : MS) : MS := fun env own => match m env own with
  | .nx e o => .nx (wipeD e vs) o
  | .ct e o => .ct (wipeD e vs) o
  | r => r
theorem endW_ok {C : Cn} {E : XK} {ι : List Addr} {H : Hp} {vs : List Nat} {m : MS} {env : Env} {own : Own} {Dn : Ends} (p : PostS C E ι H (sEndW vs m env own) Dn) : PostS C E ι H (m env own) Dn := by
  unfold sEndW at p
  cases q : m env own with
  | nx e o => rw [q] at p; exact fun σ' ι' H' g A => p σ' ι' H' g ⟨A.e.forget vs, A.r⟩
  | ct e o => rw [q] at p; exact fun σ' ι' H' g A => p σ' ι' H' g ⟨A.e.forget vs, A.r⟩
  | rt d o => rw [q] at p; exact p
  | bk d o => rw [q] at p; exact p
  | exc c o => rw [q] at p; exact p
  | bad => rw [q] at p; exact p
theorem ms_endW {X : Cx} {C : Cn} {E : XK} {st : Stmt} {m : MS} (vs : List Nat) (h : PS X st (lS C E m)) : PS X st (lS C E (sEndW vs m)) := ps_w h fun Dn σ H h => by
  obtain ⟨ι, env, own, A, p⟩ := h
  exact ⟨ι, env, own, A, endW_ok p⟩
theorem ms_endWB {X : Cx} {C : Cn} {E : XK} {st : List Stmt} {m : MS} (vs : List Nat) (h : PSs X st (lS C E m)) : PSs X st (lS C E (sEndW vs m)) := pss_w h fun Dn σ H h => by
  obtain ⟨ι, env, own, A, p⟩ := h
  exact ⟨ι, env, own, A, endW_ok p⟩
end Mi

set_option Elab.async false
set_option linter.all false
set_option maxRecDepth 100000
set_option maxHeartbeats 4000000
namespace Mi
open PySem PySem.Spec PyProof.Rows L2 HotX LamX Ws
/-! ### a list that is put together and then owned -/
def addO (d e : D) (own : Own) : R D := match lstD own d, lstD own e with
  | some xs, some ys => if xs.length + ys.length ≤ 1000000 then .ok (.ref own.length) (own ++ [.lst (xs ++ ys)]) else .bad
  | _, _ => .bad
section
variable {X : Cx} {C : Cn} {E : XK}
theorem ad_addO : Ad2 C E (rOr (rI0 fun i j => .int (i + j)) (rOr rCatS0 (rOr rCat (rCatA C.K)))) addO := by
  intro ι own H x y d e Q r rx ry p
  unfold addO at p
  split at p
  · rename_i e1 e2
    split at p
    · rename_i hz
      obtain ⟨a, vs, rfl, h1, a1⟩ := lstD_ok r rx e1
      obtain ⟨b, ws, rfl, h2, a2⟩ := lstD_ok r ry e2
      exact .inr (.inr (.inl ⟨a, b, vs, ws, rfl, rfl, h1, h2, szM (by rw [a1.len, a2.len]; exact hz), fun q hq => p.newOL r (a1.append a2) hq⟩))
    · exact p.elim
  · exact p.elim
end
theorem mt_w {P : Program} {w : World} {K : PySem.W.Frag} {mg : Str → Option Value} {base : Heap} {k : Nat} {c : Addr} {x : Str} {sp sp' : Sp} (F : Mt P w K mg base k c x sp) (h : ∀ vs H Q E, sp' vs H Q E → sp vs H Q E) : Mt P w K mg base k c x sp' := by
  obtain ⟨f, fd, ps, F1, h1, h2, h3⟩ := F.ex
  exact ⟨f, fd, ps, F1.imp h, h1, h2, h3⟩
theorem mt_P {P : Program} {w : World} {K : PySem.W.Frag} {mg : Str → Option Value} {base : Heap} {C : Cn} {k n l : Nat} {c : Addr} {x : Str} {m : MS} (F : Mt P w K mg base k c x (spM C n (runF l m))) : Mt P w K mg base k c x (spM C n (runP l m)) := mt_w F fun _ _ _ _ => sp_tr
end Mi

set_option Elab.async false
set_option linter.all false
set_option maxRecDepth 100000
set_option maxHeartbeats 4000000
namespace Mi
open PySem L2
/-! ### runs of loops, by what stays -/
theorem loop_gen {Pst : RS → Prop} {g : MG} {b : MS} {W : Wt} (I : Nat → Env → Own → Prop) {ds : List D} {env : Env} {own : Own} (h0 : I 0 env own)
    (step : ∀ i d env own, ds[i]? = some d → I i env own → Held W own ∧ ∃ e o, g d env own = .nx e o ∧ match b e o with
      | .nx e' o' => I (i + 1) e' o'
      | .ct e' o' => I (i + 1) e' o'
      | .bk e' o' => Pst (.nx e' o')
      | r => Pst r)
    (done : ∀ env own, I ds.length env own → Held W own ∧ Pst (.nx env own)) : Pst (sLoop g b W ds env own) := by
  suffices h : ∀ (k : Nat) (env : Env) (own : Own), k ≤ ds.length → I k env own → Pst (sLoop g b W (ds.drop k) env own) by
    have := h 0 env own (Nat.zero_le _) h0
    rwa [List.drop_zero] at this
  intro k
  generalize hm : ds.length - k = m
  induction m generalizing k with
  | zero =>
    intro env own hk hI
    have : k = ds.length := by omega
    subst this
    rw [List.drop_length]
    obtain ⟨h1, h2⟩ := done env own hI
    unfold sLoop
    rw [if_pos h1]
    exact h2
  | succ m ih =>
    intro env own hk hI
    have hlt : k < ds.length := by omega
    rw [List.drop_eq_getElem_cons hlt]
    obtain ⟨h1, e, o, h2, h3⟩ := step k ds[k] env own (List.getElem?_eq_getElem hlt) hI
    unfold sLoop
    rw [if_pos h1, h2]
    dsimp only
    cases q : b e o with
    | nx e' o' => rw [q] at h3; exact ih (k + 1) (by omega) e' o' hlt h3
    | ct e' o' => rw [q] at h3; exact ih (k + 1) (by omega) e' o' hlt h3
    | bk e' o' => rw [q] at h3; exact h3
    | rt d o => rw [q] at h3; exact h3
    | exc c o => rw [q] at h3; exact h3
    | bad => rw [q] at h3; exact h3
theorem while_gen {Pst : RS → Prop} {t : M Bool} {b : MS} (I : Nat → Env → Own → Prop)
    (step : ∀ m env own, I m env own → ∃ c o, t env own = .ok c o ∧ if c = true then (match b env o with
      | .nx e' o' => ∃ m', m' < m ∧ I m' e' o'
      | .ct e' o' => ∃ m', m' < m ∧ I m' e' o'
      | .bk e' o' => Pst (.nx e' o')
      | r => Pst r) else Pst (.nx env o)) : ∀ (n m : Nat) (env : Env) (own : Own), I m env own → m < n → Pst (sWhile t b n env own) := by
  intro n
  induction n with
  | zero => intro m env own _ h; exact absurd h (Nat.not_lt_zero _)
  | succ n ih =>
    intro m env own hI hm
    obtain ⟨c, o, h1, h2⟩ := step m env own hI
    unfold sWhile sB
    rw [h1]
    dsimp only
    cases c with
    | false => exact h2
    | true =>
      rw [if_pos rfl] at h2 ⊢
      cases q : b env o with
      | nx e' o' => rw [q] at h2; obtain ⟨m', h3, h4⟩ := h2; exact ih m' e' o' h4 (by omega)
      | ct e' o' => rw [q] at h2; obtain ⟨m', h3, h4⟩ := h2; exact ih m' e' o' h4 (by omega)
      | bk e' o' => rw [q] at h2; exact h2
      | rt d o => rw [q] at h2; exact h2
      | exc c o => rw [q] at h2; exact h2
      | bad => rw [q] at h2; exact h2
theorem rngL_len (lo hi : Int) : (rngL lo hi).length = (hi - lo).toNat := by simp [rngL]
theorem rngL_get {lo hi : Int} {i : Nat} {d : D} (h : (rngL lo hi)[i]? = some d) : i < (hi - lo).toNat ∧ d = .int (lo + (i : Int)) := by
  unfold rngL at h
  rw [List.getElem?_map] at h
  cases q : (List.range (hi - lo).toNat)[i]? with
  | none => rw [q] at h; cases h
  | some j =>
    rw [q] at h
    cases h
    obtain ⟨h1, h2⟩ := List.getElem?_eq_some_iff.mp q
    simp at h1 h2
    subst h2
    exact ⟨by omega, rfl⟩
/-- for k in range(n), a name as the target -/
theorem rng_nx {j : Nat} {b : MS} (n : Nat) (I : Nat → Env → Own → Prop) {lo hi : Int} {env : Env} {own : Own} (hn : hi = lo + n) (h0 : I 0 env own)
    (step : ∀ (i : Nat) env own, i < n → I i env own → ∃ e' o', b (env.set j (some (.int (lo + (i : Int))))) own = .nx e' o' ∧ I (i + 1) e' o') : ∃ e' o', sLoop (gN j) b [] (rngL lo hi) env own = .nx e' o' ∧ I n e' o' := by
  have hl : (rngL lo hi).length = n := by rw [rngL_len]; omega
  refine loop_gen (Pst := fun r => ∃ e' o', r = .nx e' o' ∧ I n e' o') I h0 ?_ ?_
  · intro i d env own hd hI
    obtain ⟨h1, rfl⟩ := rngL_get hd
    obtain ⟨e', o', h2, h3⟩ := step i env own (by omega) hI
    refine ⟨held_nil, _, _, rfl, ?_⟩
    rw [h2]
    exact h3
  · intro env own hI
    rw [hl] at hI
    exact ⟨held_nil, env, own, rfl, hI⟩
/-- for x in .., a name as the target -/
theorem for_nx {j : Nat} {b : MS} {W : Wt} {ds : List D} (I : Nat → Env → Own → Prop) {env : Env} {own : Own} (h0 : I 0 env own)
    (step : ∀ (i : Nat) d env own, ds[i]? = some d → I i env own → Held W own ∧ ∃ e' o', b (env.set j (some d)) own = .nx e' o' ∧ I (i + 1) e' o') (hW : ∀ env own, I ds.length env own → Held W own) : ∃ e' o', sLoop (gN j) b W ds env own = .nx e' o' ∧ I ds.length e' o' := by
  refine loop_gen (Pst := fun r => ∃ e' o', r = .nx e' o' ∧ I ds.length e' o') I h0 ?_ ?_
  · intro i d env own hd hI
    obtain ⟨h1, e', o', h2, h3⟩ := step i d env own hd hI
    refine ⟨h1, _, _, rfl, ?_⟩
    rw [h2]
    exact h3
  · intro env own hI
    exact ⟨hW env own hI, env, own, rfl, hI⟩
/-! ### comprehensions whose parts leave all as it was -/
theorem lc_gen {α : Type} {g : MG} {t : M Bool} {e : M D} {env0 : Env} {W : Wt} {own : Own} (h : α → D) (p : α → Bool) (f : α → D) : ∀ (l : List α) (acc : List D), Held W own → (∀ a ∈ l, ∃ env1, g (h a) env0 own = .nx env1 own ∧ t env1 own = .ok (p a) own ∧ (p a = true → e env1 own = .ok (f a) own)) → acc.length + l.length ≤ 1000000 →
    lcGo g t e env0 W (l.map h) acc own = .ok (acc ++ (l.filter p).map f) own
  | [], acc, hW, _, _ => by rw [List.map_nil]; unfold lcGo; rw [if_pos hW]; simp
  | d :: ds, acc, hW, hh, hl => by
    obtain ⟨env1, h1, h2, h3⟩ := hh d List.mem_cons_self
    rw [List.length_cons] at hl
    rw [List.map_cons]
    unfold lcGo
    rw [if_pos hW, h1]
    dsimp only
    rw [h2]
    cases q : p d with
    | true =>
      dsimp only
      rw [h3 q]
      dsimp only
      rw [if_pos (by omega), lc_gen h p f ds (acc ++ [f d]) hW (fun d' h' => hh d' (List.mem_cons_of_mem _ h')) (by rw [List.length_append, List.length_singleton]; omega), List.filter_cons_of_pos q]
      simp
    | false =>
      dsimp only
      rw [lc_gen h p f ds acc hW (fun d' h' => hh d' (List.mem_cons_of_mem _ h')) (by omega), List.filter_cons_of_neg (by simp [q])]
theorem lc_map {α : Type} {g : MG} {e : M D} {env0 : Env} {W : Wt} {own : Own} (h : α → D) (f : α → D) (l : List α) (hW : Held W own) (hh : ∀ a ∈ l, ∃ env1, g (h a) env0 own = .nx env1 own ∧ e env1 own = .ok (f a) own) (hl : l.length ≤ 1000000) :
    lcGo g tYesM e env0 W (l.map h) [] own = .ok (l.map f) own := by
  rw [lc_gen h (fun _ => true) f l [] hW (fun d hd => by obtain ⟨env1, h1, h2⟩ := hh d hd; exact ⟨env1, h1, rfl, fun _ => h2⟩) (by simpa using hl), List.filter_eq_self.mpr (fun _ _ => rfl)]
  rfl
theorem lc_id {g : MG} {e : M D} {env0 : Env} {W : Wt} {own : Own} (f : D → D) (l : List D) (hW : Held W own) (hh : ∀ a ∈ l, ∃ env1, g a env0 own = .nx env1 own ∧ e env1 own = .ok (f a) own) (hl : l.length ≤ 1000000) :
    lcGo g tYesM e env0 W l [] own = .ok (l.map f) own := by
  have := lc_map (h := id) f l hW hh hl
  rwa [List.map_id] at this
/-- the target is a name -/
theorem lcN {α : Type} {j : Nat} {e : M D} {env0 : Env} {W : Wt} {own : Own} (h : α → D) (f : α → D) (l : List α) (hW : Held W own) (hh : ∀ a ∈ l, e (env0.set j (some (h a))) own = .ok (f a) own) (hl : l.length ≤ 1000000) :
    lcGo (gN j) tYesM e env0 W (l.map h) [] own = .ok (l.map f) own := lc_map h f l hW (fun a ha => ⟨_, rfl, hh a ha⟩) hl
theorem lcNi {j : Nat} {e : M D} {env0 : Env} {W : Wt} {own : Own} (f : D → D) (l : List D) (hW : Held W own) (hh : ∀ a ∈ l, e (env0.set j (some a)) own = .ok (f a) own) (hl : l.length ≤ 1000000) :
    lcGo (gN j) tYesM e env0 W l [] own = .ok (l.map f) own := lc_id f l hW (fun a ha => ⟨_, rfl, hh a ha⟩) hl
theorem lcF {α : Type} {j : Nat} {t : M Bool} {e : M D} {env0 : Env} {W : Wt} {own : Own} (h : α → D) (p : α → Bool) (f : α → D) (l : List α) (hW : Held W own) (ht : ∀ a ∈ l, t (env0.set j (some (h a))) own = .ok (p a) own) (hh : ∀ a ∈ l, p a = true → e (env0.set j (some (h a))) own = .ok (f a) own) (hl : l.length ≤ 1000000) :
    lcGo (gN j) t e env0 W (l.map h) [] own = .ok ((l.filter p).map f) own := by
  rw [lc_gen h p f l [] hW (fun a ha => ⟨_, rfl, ht a ha, hh a ha⟩) (by simpa using hl)]
  rfl
/-! ### small facts -/
theorem blsD_map (l : List Bool) : blsD (l.map D.bl) = some l := by
  induction l with
  | nil => rfl
  | cons b l ih => rw [List.map_cons, blsD, ih]; rfl
theorem intsD_map (l : List Int) : intsD (l.map D.int) = some l := by
  induction l with
  | nil => rfl
  | cons b l ih => rw [List.map_cons, intsD, ih]; rfl
theorem strsD_map (l : List Str) : strsD (l.map D.str) = some l := by
  induction l with
  | nil => rfl
  | cons b l ih => rw [List.map_cons, strsD, ih]; rfl
theorem all_map_bl {α : Type} (l : List α) (p : α → Bool) : (l.map p).all id = l.all p := by rw [List.all_map]; rfl
theorem any_map_bl {α : Type} (l : List α) (p : α → Bool) : (l.map p).any id = l.any p := by rw [List.any_map]; rfl
theorem ltAll_ints (n : Nat) (l : List Int) : ltAll n (l.map D.int) = true := by
  induction l with
  | nil => simp [ltAll]
  | cons b l ih => simp [ltAll, D.lt, ih]
theorem toPy_ints (l : List Int) : toPyAll (l.map D.int) = some (l.map PyData.int) := by
  induction l with
  | nil => simp [toPyAll]
  | cons b l ih => simp [toPyAll, toPy, ih]
theorem own_get (base : Own) (o : Ob) : (base ++ [o])[base.length]? = some o := by simp
theorem own_set (base : Own) (o o' : Ob) : (base ++ [o]).set base.length o' = base ++ [o'] := by simp
theorem own_take (base : Own) (more : Own) : (base ++ more).take base.length = base := by simp
theorem mulOk_l {i j : Int} (h : -18446744073709551616 < i ∧ i < 18446744073709551616) : mulOk i j = true := cB_t (.inl (.inl h))
theorem mulOk_r {i j : Int} (h : -18446744073709551616 < j ∧ j < 18446744073709551616) : mulOk i j = true := cB_t (.inl (.inr h))
/-- whatever is walked is one of the sixty-three .. -/
theorem eqF_ints {own : Own} (x y : List Int) : eqF (.lst (x.map D.int)) (.lst (y.map D.int)) own = .ok (.bl (decide (x = y))) own := by
  unfold eqF toPyT
  simp only [sclEq, toPy, toPy_ints, Option.map_some]
  rw [if_pos ⟨Ws.shp_ints x, Ws.shp_ints y⟩, Ws.eqv_ints]
theorem neF_ints {own : Own} (x y : List Int) : neF (.lst (x.map D.int)) (.lst (y.map D.int)) own = .ok (.bl (!decide (x = y))) own := by
  unfold neF toPyT
  simp only [sclEq, toPy, toPy_ints, Option.map_some]
  rw [if_pos ⟨Ws.shp_ints x, Ws.shp_ints y⟩, Ws.eqv_ints]
/-! ### == of plain data: none, numbers, texts, lists and tuples of them -/
mutual
def D.pn : D → Bool
  | .non => true
  | .int _ => true
  | .str s => PyData.strOk s
  | .tup xs => pnAll xs
  | .lst xs => pnAll xs
  | _ => false
def pnAll : List D → Bool
  | [] => true
  | d :: ds => D.pn d && pnAll ds
end
mutual
def D.dp : D → Nat
  | .tup xs => dpAll xs + 1
  | .lst xs => dpAll xs + 1
  | _ => 0
def dpAll : List D → Nat
  | [] => 0
  | d :: ds => max (D.dp d) (dpAll ds)
end
mutual
theorem pn_py : ∀ (d : D), d.pn = true → ∃ x, toPy d = some x ∧ x.canLay0 = true ∧ x.depth = d.dp
  | .non, _ => ⟨.none, rfl, rfl, rfl⟩
  | .int i, _ => ⟨.int i, rfl, rfl, rfl⟩
  | .str i, h => ⟨.str i, rfl, by simpa [D.pn, PyData.canLay0] using h, rfl⟩
  | .tup xs, h => by
    obtain ⟨ys, h1, h2, h3⟩ := pnAll_py xs (by simpa [D.pn] using h)
    exact ⟨.tuple ys, by simp [toPy, h1], by simpa [PyData.canLay0] using h2, by simp [PyData.depth, D.dp, h3]⟩
  | .lst xs, h => by
    obtain ⟨ys, h1, h2, h3⟩ := pnAll_py xs (by simpa [D.pn] using h)
    exact ⟨.list ys, by simp [toPy, h1], by simpa [PyData.canLay0] using h2, by simp [PyData.depth, D.dp, h3]⟩
  | .bl _, h => by simp [D.pn] at h
  | .frz _, h => by simp [D.pn] at h
  | .ref _, h => by simp [D.pn] at h
theorem pnAll_py : ∀ (ds : List D), pnAll ds = true → ∃ xs, toPyAll ds = some xs ∧ PyData.canLayAll0 xs = true ∧ PyData.depthAll xs = dpAll ds
  | [], _ => ⟨[], by simp [toPyAll], by simp [PyData.canLayAll0], by simp [PyData.depthAll, dpAll]⟩
  | d :: ds, h => by
    simp [pnAll] at h
    obtain ⟨x, h1, h2, h3⟩ := pn_py d h.1
    obtain ⟨xs, h4, h5, h6⟩ := pnAll_py ds h.2
    exact ⟨x :: xs, by simp [toPyAll, h1, h4], by simp [PyData.canLayAll0, h2, h5], by simp [PyData.depthAll, dpAll, h3, h6]⟩
end
mutual
theorem pn_eqv : ∀ (d e : D) (x y : PyData), d.pn = true → e.pn = true → toPy d = some x → toPy e = some y → (PyData.eqv x y = true ↔ d = e)
  | d, e, x, y, hd, he, ex, ey => by
    cases d with
    | non =>
      cases e <;> first | (simp [D.pn] at he; done) | (simp [toPy] at ex ey; subst ex; subst ey; simp [PyData.eqv]; done) | (simp [toPy] at ex ey; obtain ⟨_, _, rfl⟩ := ey; subst ex; simp [PyData.eqv])
    | int i =>
      cases e <;> first | (simp [D.pn] at he; done) | (simp [toPy] at ex ey; subst ex; subst ey; simp [PyData.eqv]; done) | (simp [toPy] at ex ey; obtain ⟨_, _, rfl⟩ := ey; subst ex; simp [PyData.eqv])
    | str i =>
      cases e <;> first | (simp [D.pn] at he; done) | (simp [toPy] at ex ey; subst ex; subst ey; simp [PyData.eqv]; done) | (simp [toPy] at ex ey; obtain ⟨_, _, rfl⟩ := ey; subst ex; simp [PyData.eqv])
    | tup xs =>
      simp [toPy] at ex
      obtain ⟨l, h1, rfl⟩ := ex
      cases e with
      | tup ys =>
        simp [toPy] at ey
        obtain ⟨m, h2, rfl⟩ := ey
        simp [PyData.eqv]
        exact pnAll_eqv xs ys l m (by simpa [D.pn] using hd) (by simpa [D.pn] using he) h1 h2
      | lst ys => simp [toPy] at ey; obtain ⟨m, h2, rfl⟩ := ey; simp [PyData.eqv]
      | _ => first | (simp [D.pn] at he; done) | (simp [toPy] at ey; subst ey; simp [PyData.eqv])
    | lst xs =>
      simp [toPy] at ex
      obtain ⟨l, h1, rfl⟩ := ex
      cases e with
      | lst ys =>
        simp [toPy] at ey
        obtain ⟨m, h2, rfl⟩ := ey
        simp [PyData.eqv]
        exact pnAll_eqv xs ys l m (by simpa [D.pn] using hd) (by simpa [D.pn] using he) h1 h2
      | tup ys => simp [toPy] at ey; obtain ⟨m, h2, rfl⟩ := ey; simp [PyData.eqv]
      | _ => first | (simp [D.pn] at he; done) | (simp [toPy] at ey; subst ey; simp [PyData.eqv])
    | bl _ => simp [D.pn] at hd
    | frz _ => simp [D.pn] at hd
    | ref _ => simp [D.pn] at hd
theorem pnAll_eqv : ∀ (ds es : List D) (xs ys : List PyData), pnAll ds = true → pnAll es = true → toPyAll ds = some xs → toPyAll es = some ys → (PyData.eqvAll xs ys = true ↔ ds = es)
  | [], [], xs, ys, _, _, ex, ey => by simp [toPyAll] at ex ey; subst ex; subst ey; simp [PyData.eqvAll]
  | [], e :: es, xs, ys, _, he, ex, ey => by
    simp [pnAll] at he
    obtain ⟨y, h1, _⟩ := pn_py e he.1
    obtain ⟨l, h2, _⟩ := pnAll_py es he.2
    simp [toPyAll, h1, h2] at ex ey; subst ex; subst ey; simp [PyData.eqvAll]
  | d :: ds, [], xs, ys, hd, _, ex, ey => by
    simp [pnAll] at hd
    obtain ⟨y, h1, _⟩ := pn_py d hd.1
    obtain ⟨l, h2, _⟩ := pnAll_py ds hd.2
    simp [toPyAll, h1, h2] at ex ey; subst ex; subst ey; simp [PyData.eqvAll]
  | d :: ds, e :: es, xs, ys, hd, he, ex, ey => by
    simp [pnAll] at hd he
    obtain ⟨x, h1, _⟩ := pn_py d hd.1
    obtain ⟨l, h2, _⟩ := pnAll_py ds hd.2
    obtain ⟨y, h3, _⟩ := pn_py e he.1
    obtain ⟨m, h4, _⟩ := pnAll_py es he.2
    simp [toPyAll, h1, h2] at ex
    simp [toPyAll, h3, h4] at ey
    subst ex; subst ey
    rw [PyData.eqvAll, Bool.and_eq_true, pn_eqv d e x y hd.1 he.1 h1 h3, pnAll_eqv ds es l m hd.2 he.2 h2 h4]
    simp
end
theorem pn_shaped {d : D} {x : PyData} (h : d.pn = true) (hd : d.dp ≤ 64) (e : toPy d = some x) : SeqAt.shaped x = true := by
  obtain ⟨y, h1, h2, h3⟩ := pn_py d h
  rw [e] at h1
  cases h1
  unfold SeqAt.shaped
  rw [h2, h3, decide_eq_true hd]
  rfl
theorem pn_top {own : Own} {d : D} (h : d.pn = true) : toPyT own d = toPy d := by
  cases d <;> first | rfl | simp [D.pn] at h
theorem sclEq_pn {d e : D} {b : Bool} (pd : d.pn = true) (pe : e.pn = true) (h : sclEq d e = some b) : b = cB (d = e) := by
  unfold sclEq at h
  split at h <;> first | (simp [D.pn] at pd; done) | (cases h; done) | (cases h; simp [cB_t, cB_f]; done) | (cases h; congr 1; apply propext; constructor <;> intro z <;> first | (cases z; rfl) | (rw [z]))
theorem eqF_pn {own : Own} {d e : D} (pd : d.pn = true) (pe : e.pn = true) (hd : d.dp ≤ 64) (he : e.dp ≤ 64) : eqF d e own = .ok (.bl (cB (d = e))) own := by
  obtain ⟨x, h1, _⟩ := pn_py d pd
  obtain ⟨y, h2, _⟩ := pn_py e pe
  unfold eqF
  cases q : sclEq d e with
  | some b => rw [sclEq_pn pd pe q]
  | none =>
  rw [pn_top pd, pn_top pe, h1, h2]
  dsimp only
  rw [if_pos ⟨pn_shaped pd hd h1, pn_shaped pe he h2⟩]
  have := pn_eqv d e x y pd pe h1 h2
  by_cases z : d = e
  · rw [cB_t z, this.mpr z]
  · rw [cB_f z, Bool.eq_false_iff.mpr (fun q => z (this.mp q))]
theorem neF_pn {own : Own} {d e : D} (pd : d.pn = true) (pe : e.pn = true) (hd : d.dp ≤ 64) (he : e.dp ≤ 64) : neF d e own = .ok (.bl (!cB (d = e))) own := by
  obtain ⟨x, h1, _⟩ := pn_py d pd
  obtain ⟨y, h2, _⟩ := pn_py e pe
  unfold neF
  cases q : sclEq d e with
  | some b => rw [sclEq_pn pd pe q]
  | none =>
  rw [pn_top pd, pn_top pe, h1, h2]
  dsimp only
  rw [if_pos ⟨pn_shaped pd hd h1, pn_shaped pe he h2⟩]
  have := pn_eqv d e x y pd pe h1 h2
  by_cases z : d = e
  · rw [cB_t z, this.mpr z]
  · rw [cB_f z, Bool.eq_false_iff.mpr (fun q => z (this.mp q))]
theorem pnAll_ints (l : List Int) : pnAll (l.map D.int) = true := by
  induction l with
  | nil => simp [pnAll]
  | cons b l ih => simp [pnAll, D.pn, ih]
theorem dpAll_ints (l : List Int) : dpAll (l.map D.int) = 0 := by
  induction l with
  | nil => simp [dpAll]
  | cons b l ih => simp [dpAll, D.dp, ih]
theorem map_int_inj {x y : List Int} : x.map D.int = y.map D.int ↔ x = y := by
  constructor
  · intro h
    exact List.map_inj_right (fun a b e => by cases e; rfl) |>.mp h
  · rintro rfl; rfl
/-! ### dicts of pairs whose keys are all other -/
theorem putD_new {kvs : List (Key × D)} {k : Key} {v : D} (h : k ∉ kvs.map (·.1)) : putD kvs k v = kvs ++ [(k, v)] := by
  unfold putD
  rw [if_neg]
  intro z
  rw [List.any_eq_true] at z
  obtain ⟨x, h1, h2⟩ := z
  exact h (List.mem_map.mpr ⟨x, h1, by simpa using h2⟩)
theorem mergeD_nodup : ∀ (kvs acc : List (Key × D)), ((acc ++ kvs).map (·.1)).Nodup → mergeD acc kvs = acc ++ kvs
  | [], acc, _ => by simp [mergeD]
  | (k, v) :: kvs, acc, h => by
    have h1 : k ∉ acc.map (·.1) := by
      intro z
      rw [List.map_append, List.nodup_append] at h
      exact h.2.2 k z k (by simp) rfl
    show mergeD (putD acc k v) kvs = _
    rw [putD_new h1, mergeD_nodup kvs (acc ++ [(k, v)]) (by simpa using h)]
    simp
theorem valD_nodup {kvs : List (Key × D)} {k : Key} {v : D} (h : (kvs.map (·.1)).Nodup) (hm : (k, v) ∈ kvs) : valD kvs k = some v := by
  unfold valD
  induction kvs with
  | nil => cases hm
  | cons p r ih =>
    rw [List.map_cons, List.nodup_cons] at h
    rw [List.find?_cons]
    rcases List.mem_cons.mp hm with e | hm
    · subst e; simp
    · have : p.1 ≠ k := by
        rintro rfl
        exact h.1 (List.mem_map.mpr ⟨_, hm, rfl⟩)
      simp only [this, decide_false]
      exact ih h.2 hm
theorem valD_none {kvs : List (Key × D)} {k : Key} (h : k ∉ kvs.map (·.1)) : valD kvs k = none := by
  unfold valD
  rw [List.find?_eq_none.mpr]
  · rfl
  · intro x hx
    simp only [decide_eq_true_eq]
    rintro rfl
    exact h (List.mem_map.mpr ⟨x, hx, rfl⟩)
end Mi

set_option Elab.async false
set_option linter.all false
set_option maxRecDepth 100000
set_option maxHeartbeats 4000000
namespace Mi
open PySem L2
/-! ### runs, step by step: equations in which nothing is looked into before its turn -/
def R.bindS {α : Type} (r : R α) (k : α → Own → RS) : RS := match r with
  | .ok a o => k a o
  | .exc c o => .exc c o
  | .bad => .bad
def RS.seq (r : RS) (k : Env → Own → RS) : RS := match r with
  | .nx e o => k e o
  | r => r
def RS.endw (r : RS) (vs : List Nat) : RS := match r with
  | .nx e o => .nx (wipeD e vs) o
  | .ct e o => .ct (wipeD e vs) o
  | r => r
section
variable {α β : Type} {r r' : R α} {s s' : RS}
theorem bind_congr {k : α → Own → R β} (h : r = r') : r.bind k = r'.bind k := by rw [h]
theorem bindS_congr {k : α → Own → RS} (h : r = r') : r.bindS k = r'.bindS k := by rw [h]
theorem seq_congr' {k : Env → Own → RS} (h : s = s') : s.seq k = s'.seq k := by rw [h]
theorem bind_ok {a : α} {o : Own} {k : α → Own → R β} : (R.ok a o).bind k = k a o := rfl
theorem bind_exc {c : Nat} {o : Own} {k : α → Own → R β} : (R.exc c o : R α).bind k = .exc c o := rfl
theorem bind_bad {k : α → Own → R β} : (R.bad : R α).bind k = .bad := rfl
theorem bindS_ok {a : α} {o : Own} {k : α → Own → RS} : (R.ok a o).bindS k = k a o := rfl
theorem bindS_exc {c : Nat} {o : Own} {k : α → Own → RS} : (R.exc c o : R α).bindS k = .exc c o := rfl
theorem seq_nx {e : Env} {o : Own} {k : Env → Own → RS} : (RS.nx e o).seq k = k e o := rfl
theorem seq_rt {d : D} {o : Own} {k : Env → Own → RS} : (RS.rt d o).seq k = .rt d o := rfl
theorem seq_exc {c : Nat} {o : Own} {k : Env → Own → RS} : (RS.exc c o).seq k = .exc c o := rfl
theorem seq_ct {e : Env} {o : Own} {k : Env → Own → RS} : (RS.ct e o).seq k = .ct e o := rfl
theorem endw_nx {e : Env} {o : Own} {vs : List Nat} : (RS.nx e o).endw vs = .nx (wipeD e vs) o := rfl
theorem endw_rt {d : D} {o : Own} {vs : List Nat} : (RS.rt d o).endw vs = .rt d o := rfl
theorem endw_exc {c : Nat} {o : Own} {vs : List Nat} : (RS.exc c o).endw vs = .exc c o := rfl
theorem endw_ct {e : Env} {o : Own} {vs : List Nat} : (RS.ct e o).endw vs = .ct (wipeD e vs) o := rfl
theorem endF_nx {e : Env} {o : Own} : endF (.nx e o) = .ok .non o := rfl
theorem endF_rt {d : D} {o : Own} : endF (.rt d o) = .ok d o := rfl
theorem endF_exc {c : Nat} {o : Own} : endF (.exc c o) = .exc c o := rfl
theorem wipe_nil {e : Env} : wipeD e [] = e := rfl
theorem wipe_cons {e : Env} {v : Nat} {vs : List Nat} : wipeD e (v :: vs) = (wipeD e vs).set v none := rfl
variable {env : Env} {own : Own}
theorem sB_ev {m : M α} {k : α → MS} : sB m k env own = (m env own).bindS fun a o => k a env o := rfl
theorem mB_ev {m : M α} {k : α → M β} : mB m k env own = (m env own).bind fun a o => k a env o := rfl
theorem sSeq_ev {a b : MS} : sSeq a b env own = (a env own).seq b := by unfold sSeq RS.seq; rfl
theorem sEndW_ev {m : MS} {vs : List Nat} : sEndW vs m env own = (m env own).endw vs := by unfold sEndW RS.endw; rfl
theorem sNil_ev : sNil env own = .nx env own := rfl
theorem sExp_ev {a : M D} : sExp a env own = (a env own).bindS fun _ o => .nx env o := rfl
theorem sRet_ev {a : M D} : sRet a env own = (a env own).bindS fun d o => .rt d o := rfl
theorem sRetN_ev : sRetN env own = .rt .non own := rfl
theorem sIf_ev {t : M Bool} {a b : MS} : sIf t a b env own = (t env own).bindS fun c o => if c = true then a env o else b env o := by
  show (t env own).bindS (fun c o => (if c = true then a else b) env o) = _
  congr; funext c o; cases c <;> rfl
theorem sAsg_ev {a : M D} {g : MG} : sAsg a g env own = (a env own).bindS fun d o => g d env o := rfl
theorem gN_ev {i : Nat} {d : D} : gN i d env own = .nx (env.set i (some d)) own := rfl
theorem gT_ev {n : Nat} {k : List D → MS} {ds : List D} : gT n k (.tup ds) env own = if ds.length = n then k ds env own else .bad := rfl
theorem gsCons_ev {g : MG} {k : List D → MS} {d : D} {ds : List D} : gsCons g k (d :: ds) env own = (g d env own).seq fun e o => k ds e o := by
  show (match g d env own with | .nx e o => k ds e o | z => z) = _
  unfold RS.seq; rfl
theorem gsNil_ev : gsNil [] env own = .nx env own := rfl
theorem sRaise_ev {c : Nat} : sRaise c env own = .exc c own := rfl
theorem sCont_ev : sCont env own = .ct env own := rfl
theorem runF_ev {n : Nat} {m : MS} {ds : List D} : runF n m ds own = endF (m (ds.map some ++ List.replicate (n - ds.length) none) own) := rfl
theorem mV_ev {i : Nat} : mV i env own = match env[i]? with | some (some d) => .ok d own | _ => .bad := rfl
theorem mC_ev {d : D} : mC d env own = .ok d own := rfl
theorem m1_ev {f : D → Own → R D} {a : M D} : m1 f a env own = (a env own).bind fun d o => f d o := rfl
theorem m2_ev {f : D → D → Own → R D} {a b : M D} : m2 f a b env own = (a env own).bind fun d o => (b env o).bind fun e o => f d e o := rfl
theorem mNil_ev : mNil env own = .ok [] own := rfl
theorem mCons_ev {a : M D} {r : M (List D)} : mCons a r env own = (a env own).bind fun d o => (r env o).bind fun ds o => .ok (d :: ds) o := rfl
theorem mL_ev {f : List D → Own → R D} {a : M (List D)} : mL f a env own = (a env own).bind fun ds o => f ds o := rfl
theorem mT_ev {a : M D} : mT a env own = (a env own).bind fun d o => toB d o := rfl
theorem toB_bl {b : Bool} : toB (.bl b) own = .ok b own := rfl
theorem mNotT_ev {t : M Bool} : mNotT t env own = (t env own).bind fun b o => .ok (!b) o := rfl
theorem mAndT_ev {t u : M Bool} : mAndT t u env own = (t env own).bind fun b o => if b = true then u env o else .ok false o := by
  show (t env own).bind (fun c o => (if c = true then u else fun _ own => .ok false own) env o) = _
  congr; funext c o; cases c <;> rfl
theorem mOrT_ev {t u : M Bool} : mOrT t u env own = (t env own).bind fun b o => if b = true then .ok true o else u env o := by
  show (t env own).bind (fun c o => (if c = true then (fun _ own => .ok true own) else u) env o) = _
  congr; funext c o; cases c <;> rfl
theorem mIte_ev {t : M Bool} {a b : M α} : mIte t a b env own = (t env own).bind fun c o => if c = true then a env o else b env o := by
  show (t env own).bind (fun c o => (if c = true then a else b) env o) = _
  congr; funext c o; cases c <;> rfl
theorem mAnd_ev {a b : M D} : mAnd a b env own = (a env own).bind fun d o => (toB d o).bind fun c o => if c = true then b env o else .ok (.bl false) o := by
  show (a env own).bind (fun d o => (toB d o).bind fun c o => (if c = true then b else mC (.bl false)) env o) = _
  congr; funext d o; congr; funext c o; cases c <;> rfl
theorem mOr_ev {a b : M D} : mOr a b env own = (a env own).bind fun d o => (toB d o).bind fun c o => if c = true then .ok (.bl true) o else b env o := by
  show (a env own).bind (fun d o => (toB d o).bind fun c o => (if c = true then mC (.bl true) else b) env o) = _
  congr; funext d o; congr; funext c o; cases c <;> rfl
theorem mNot_ev {a : M D} : mNot a env own = (a env own).bind fun d o => (toB d o).bind fun c o => .ok (.bl (!c)) o := rfl
theorem mChain_ev {f g : D → D → Own → R D} {a b c : M D} : mChain f g a b c env own = (a env own).bind fun d o => (b env o).bind fun e o => (f d e o).bind fun z o => (toB z o).bind fun k o => if k = true then (c env o).bind fun w o => g e w o else .ok (.bl false) o := by
  show (a env own).bind (fun d o => (b env o).bind fun e o => (f d e o).bind fun z o => (toB z o).bind fun k o => (if k = true then mB c fun w _ own => g e w own else mC (.bl false)) env o) = _
  congr; funext d o; congr; funext e o; congr; funext z o; congr; funext k o; cases k <;> rfl
theorem mCall_ev {n : Nat} {F : MF} {ms : M (List D)} : mCall n F ms env own = (ms env own).bind fun ds o => callF n F ds o := rfl
theorem callF_ev {n : Nat} {F : MF} {ds : List D} : callF n F ds own = if ds.length = n then F ds own else .bad := rfl
theorem mTold_ev {m : M D} : mTold m env own = toldR (m env own) := rfl
theorem told_okR {d : D} : toldR (.ok d own) = .ok d own := rfl
theorem told_excR {c : Nat} : toldR (.exc c own) = if c < 6 then .ok (.tup [.str "refused", .str (Ws.nmE c)]) own else .bad := rfl
theorem sFor_ev {m : M Wk} {g : MG} {b : MS} : sFor m g b env own = (m env own).bindS fun ds o => sLoop g b ds.2 ds.1 env o := rfl
theorem mIt_ev {a : M D} : mIt a env own = (a env own).bind fun d o => itD d o := rfl
theorem it_lst {xs : List D} : itD (.lst xs) own = .ok (xs, []) own := rfl
theorem it_tup {xs : List D} : itD (.tup xs) own = .ok (xs, []) own := rfl
theorem it_str {s : Str} : itD (.str s) own = .ok (s.cps.toList.map fun c => .str ⟨#[c]⟩, []) own := rfl
theorem mRng1_ev {a : M D} : mRng1 a env own = (a env own).bind fun d o => rng1F d o := rfl
theorem mRng2_ev {a b : M D} : mRng2 a b env own = (a env own).bind fun d o => (b env o).bind fun e o => rng2F d e o := rfl
theorem rng1_ev {j : Int} : rng1F (.int j) own = if cB (-1000000000 ≤ j ∧ j < 1000000000) = true then .ok (rngL 0 j, []) own else .bad := rfl
theorem rng2_ev {i j : Int} : rng2F (.int i) (.int j) own = if cB (-1000000000 ≤ i ∧ i < 1000000000 ∧ -1000000000 ≤ j ∧ j < 1000000000) = true then .ok (rngL i j, []) own else .bad := rfl
theorem mPart_ev {a : M D} : mPart a env own = (a env own).bind fun d o => match d with | .int i => .ok (some i) o | _ => .bad := rfl
theorem mNoPart_ev : mNoPart env own = .ok none own := rfl
theorem mSl_ev {a : M D} {l h : M (Option Int)} : mSl a l h env own = (a env own).bind fun d o => (l env o).bind fun lo o => (h env o).bind fun hi o => slF d lo hi o := rfl
theorem sl_lst {xs : List D} {lo hi : Option Int} : slF (.lst xs) lo hi own = .ok (.lst (cutD xs lo hi)) own := rfl
theorem sl_tup {xs : List D} {lo hi : Option Int} : slF (.tup xs) lo hi own = .ok (.tup (cutD xs lo hi)) own := rfl
theorem sl_ref {h : Nat} {xs : List D} {lo hi : Option Int} (e : own[h]? = some (.lst xs)) : slF (.ref h) lo hi own = .ok (.lst (cutD xs lo hi)) own := by simp only [slF, seqD, lstD, e]
theorem sl_str {s : Str} {lo hi : Option Int} : slF (.str s) lo hi own = if s.length ≤ 1000000 then .ok (.str (Txt.slice s lo hi)) own else .bad := rfl
theorem mLc_ev {mi : M Wk} {g : MG} {t : M Bool} {e : M D} {vs : List Nat} : mLc mi g t e vs env own = (mi env own).bind fun ds o => (lcGo g t e (wipeD env vs) ds.2 ds.1 [] o).bind fun ys o => .ok (.lst ys) o := rfl
theorem mBm_ev {f : D → List D → Own → R D} {ma : M D} {ms : M (List D)} : mBm f ma ms env own = (ma env own).bind fun d o => match seqD o d with | some _ => (ms env o).bind fun ds o => f d ds o | none => .bad := rfl
theorem mJoin_ev {ma mb : M D} : mJoin ma mb env own = (ma env own).bind fun d o => match d with | .str s => (mb env o).bind fun e o => joinF (.str s) [e] o | _ => .bad := rfl
theorem seq_lst {xs : List D} : seqD own (.lst xs) = some xs := rfl
theorem seq_frz {xs : List D} : seqD own (.frz xs) = some xs := rfl
theorem seq_ref {h : Nat} {xs : List D} (e : own[h]? = some (.lst xs)) : seqD own (.ref h) = some xs := by simp only [seqD, lstD, e]
theorem row_tup {xs : List D} : rowD own (.tup xs) = some xs := rfl
theorem row_lst {xs : List D} : rowD own (.lst xs) = some xs := rfl
theorem row_ref {h : Nat} {xs : List D} (e : own[h]? = some (.lst xs)) : rowD own (.ref h) = some xs := by simp only [rowD, seqD, lstD, e]
theorem add_int {i j : Int} : addF (.int i) (.int j) own = .ok (.int (i + j)) own := rfl
theorem add_str {i j : Str} : addF (.str i) (.str j) own = if i.length + j.length ≤ 1000000 then .ok (.str (i ++ j)) own else .bad := rfl
theorem add_lst {i j : List D} : addF (.lst i) (.lst j) own = if i.length + j.length ≤ 1000000 then .ok (.lst (i ++ j)) own else .bad := rfl
theorem add_tup {i j : List D} : addF (.tup i) (.tup j) own = if i.length + j.length ≤ 1000000 then .ok (.tup (i ++ j)) own else .bad := rfl
theorem add_ref {h : Nat} {xs j : List D} (e : own[h]? = some (.lst xs)) : addF (.ref h) (.lst j) own = if xs.length + j.length ≤ 1000000 then .ok (.lst (xs ++ j)) own else .bad := by simp only [addF, lstD, e]
theorem sub_int {i j : Int} : subF (.int i) (.int j) own = .ok (.int (i - j)) own := rfl
theorem mul_int {i j : Int} : mulF (.int i) (.int j) own = if mulOk i j = true then .ok (.int (i * j)) own else .bad := rfl
theorem fdiv_int {i j : Int} : fdivF (.int i) (.int j) own = if cB (0 < j ∧ j < 18446744073709551616) = true then .ok (.int (i / j)) own else .bad := rfl
theorem mod_int {i j : Int} : modF (.int i) (.int j) own = if cB (0 < j) = true then .ok (.int (i % j)) own else .bad := rfl
theorem neg_int {i : Int} : negF (.int i) own = .ok (.int (-i)) own := rfl
theorem lt_int {i j : Int} : ltF (.int i) (.int j) own = .ok (.bl (cB (i < j))) own := rfl
theorem le_int {i j : Int} : leF (.int i) (.int j) own = .ok (.bl (cB (i ≤ j))) own := rfl
theorem gt_int {i j : Int} : gtF (.int i) (.int j) own = .ok (.bl (cB (j < i))) own := rfl
theorem ge_int {i j : Int} : geF (.int i) (.int j) own = .ok (.bl (cB (j ≤ i))) own := rfl
theorem eq_int {i j : Int} : eqF (.int i) (.int j) own = .ok (.bl (cB (i = j))) own := rfl
theorem ne_int {i j : Int} : neF (.int i) (.int j) own = .ok (.bl (!cB (i = j))) own := rfl
theorem eq_str {i j : Str} : eqF (.str i) (.str j) own = .ok (.bl (cB (i = j))) own := rfl
theorem ne_str {i j : Str} : neF (.str i) (.str j) own = .ok (.bl (!cB (i = j))) own := rfl
theorem isN_ev {d : D} : isNF d .non own = .ok (.bl d.isN) own := rfl
theorem notN_ev {d : D} : notNF d .non own = .ok (.bl (!d.isN)) own := rfl
theorem len_str {s : Str} : lenF [.str s] own = if s.length ≤ 1000000 then .ok (.int s.length) own else .bad := rfl
theorem len_lst {xs : List D} : lenF [.lst xs] own = .ok (.int xs.length) own := rfl
theorem len_frz {xs : List D} : lenF [.frz xs] own = .ok (.int xs.length) own := rfl
theorem len_tup {xs : List D} : lenF [.tup xs] own = .ok (.int xs.length) own := rfl
theorem len_ref {h : Nat} {xs : List D} (e : own[h]? = some (.lst xs)) : lenF [.ref h] own = .ok (.int xs.length) own := by simp only [lenF, e]
theorem min_int {i j : Int} : minF [.int i, .int j] own = .ok (.int (min i j)) own := rfl
theorem max_int {i j : Int} : maxF [.int i, .int j] own = .ok (.int (max i j)) own := rfl
theorem int_int {i : Int} : intF [.int i] own = .ok (.int i) own := rfl
theorem int_bl {b : Bool} : intF [.bl b] own = .ok (.int (if b then 1 else 0)) own := rfl
theorem tup_ev {ds : List D} : tupF ds own = if ds.length ≤ 1000000 then .ok (.tup ds) own else .bad := rfl
theorem lst_ev {ds : List D} : lstF ds own = if ds.length ≤ 1000000 then .ok (.lst ds) own else .bad := rfl
theorem lstO_ev {ds : List D} : lstO ds own = if ds.length ≤ 1000000 then .ok (.ref own.length) (own ++ [.lst ds]) else .bad := rfl
theorem ix_lst {ds : List D} {i : Int} : ixF (.lst ds) (.int i) own = match atI ds i with | some v => .ok v own | none => .bad := rfl
theorem ix_tup {ds : List D} {i : Int} : ixF (.tup ds) (.int i) own = match atI ds i with | some v => .ok v own | none => .bad := rfl
theorem ix_frz {ds : List D} {i : Int} : ixF (.frz ds) (.int i) own = match atI ds i with | some v => .ok v own | none => .bad := rfl
theorem ix_str {s : Str} {i : Int} : ixF (.str s) (.int i) own = if s.length ≤ 1000000 then (match atI s.cps.toList i with | some c => .ok (.str ⟨#[c]⟩) own | none => .bad) else .bad := rfl
theorem ix_ref {h : Nat} {ds : List D} {i : Int} (e : own[h]? = some (.lst ds)) : ixF (.ref h) (.int i) own = match atI ds i with | some v => .ok v own | none => .bad := by
  show (match rowD own (.ref h) with | some ds => (match atI ds i with | some v => R.ok v own | none => .bad) | none => .bad) = _
  rw [row_ref e]
theorem app_ref {h : Nat} {xs : List D} {y : D} (e : own[h]? = some (.lst xs)) : appF (.ref h) [y] own = if xs.length < 1000000 then .ok .non (own.set h (.lst (xs ++ [y]))) else .bad := by simp only [appF, e]
theorem tuple_tup {xs : List D} : tupleF [.tup xs] own = .ok (.tup xs) own := rfl
theorem tuple_lst {xs : List D} : tupleF [.lst xs] own = .ok (.tup xs) own := rfl
theorem tuple_ref {h : Nat} {xs : List D} (e : own[h]? = some (.lst xs)) : tupleF [.ref h] own = .ok (.tup xs) own := by simp only [tupleF, seq_ref e]
theorem list_ev {d : D} : listF [d] own = match rowD own d with | some xs => .ok (.lst xs) own | none => .bad := rfl
theorem listO_ev {d : D} : listO [d] own = match rowD own d with | some xs => .ok (.ref own.length) (own ++ [.lst xs]) | none => .bad := rfl
theorem isi_non {U : String} : isiF U .non own = .ok (.bl (isiB "NoneType" U)) own := rfl
theorem isi2_non : isi2F .non own = .ok (.bl false) own := rfl
theorem isi_bl {b : Bool} {U : String} : isiF U (.bl b) own = .ok (.bl (isiB "bool" U)) own := rfl
theorem isi2_bl {b : Bool} : isi2F (.bl b) own = .ok (.bl false) own := rfl
theorem isi_int {i : Int} {U : String} : isiF U (.int i) own = .ok (.bl (isiB "int" U)) own := rfl
theorem isi2_int {i : Int} : isi2F (.int i) own = .ok (.bl false) own := rfl
theorem isi_str {x : Str} {U : String} : isiF U (.str x) own = .ok (.bl (isiB "str" U)) own := rfl
theorem isi2_str {x : Str} : isi2F (.str x) own = .ok (.bl false) own := rfl
theorem isi_tup {xs : List D} {U : String} : isiF U (.tup xs) own = .ok (.bl (isiB "tuple" U)) own := rfl
theorem isi2_tup {xs : List D} : isi2F (.tup xs) own = .ok (.bl true) own := rfl
theorem isi_lst {xs : List D} {U : String} : isiF U (.lst xs) own = .ok (.bl (isiB "list" U)) own := rfl
theorem isi2_lst {xs : List D} : isi2F (.lst xs) own = .ok (.bl true) own := rfl
theorem isi_frz {xs : List D} {U : String} : isiF U (.frz xs) own = .ok (.bl (isiB "list" U)) own := rfl
theorem isi2_frz {xs : List D} : isi2F (.frz xs) own = .ok (.bl true) own := rfl
theorem isi_ev {U : String} {d : D} : isiF U d own = match tyD own d with | some T => .ok (.bl (isiB T U)) own | none => .bad := rfl
theorem isi2_ev {d : D} : isi2F d own = match tyD own d with | some T => .ok (.bl (T == "list" || T == "tuple")) own | none => .bad := rfl
theorem isi_ref {h : Nat} {xs : List D} {U : String} (e : own[h]? = some (.lst xs)) : isiF U (.ref h) own = .ok (.bl (isiB "list" U)) own := by simp only [isiF, tyD, e]
theorem pow_int {i j : Int} : powF (.int i) (.int j) own = if cB (0 ≤ j ∧ j ≤ 1000 ∧ -1000000 < i ∧ i < 1000000) = true then .ok (.int (i ^ j.toNat)) own else .bad := rfl
theorem gSub_ev {md me : M D} {v : D} : gSubM md me v env own = (md env own).bindS fun d o => (me env o).bindS fun e o => putF' v d e env o := rfl
theorem put_ref {h : Nat} {xs : List D} {v : D} {i : Int} (e : own[h]? = some (.lst xs)) : putF' v (.ref h) (.int i) env own = match ixN xs.length i with | some j => .nx env (own.set h (.lst (xs.set j v))) | none => .bad := by
  simp only [putF', e] <;> (cases ixN xs.length i <;> rfl)
theorem mul_lst {xs : List D} {k : Int} : mulF (.lst xs) (.int k) own = if cB (k < 1000000 ∧ xs.length * k.toNat ≤ 1000000) = true then (if cB (-1000000 ≤ k) = true then .ok (.lst (List.replicate k.toNat xs).flatten) own else .bad) else .bad := rfl
theorem at0 {α : Type} {a : α} {l : List α} : atI (a :: l) 0 = some a := Ws.atI_get (by decide) rfl
theorem at1 {α : Type} {a b : α} {l : List α} : atI (a :: b :: l) 1 = some b := Ws.atI_get (by decide) rfl
theorem at2 {α : Type} {a b c : α} {l : List α} : atI (a :: b :: c :: l) 2 = some c := Ws.atI_get (by decide) rfl
theorem at3 {α : Type} {a b c d : α} {l : List α} : atI (a :: b :: c :: d :: l) 3 = some d := Ws.atI_get (by decide) rfl
theorem ixN_in {n : Nat} {i : Int} (h0 : 0 ≤ i) (h1 : i < n) : ixN n i = some i.toNat := by unfold ixN; rw [if_pos h0, if_pos (by omega)]
theorem cB_True : cB True = true := cB_t trivial
theorem cB_False : cB False = false := cB_f id
theorem while_t {t : M Bool} {b : MS} {n : Nat} {o e' o'} (ht : t env own = .ok true o) (hb : b env o = .nx e' o') : sWhile t b (n + 1) env own = sWhile t b n e' o' := by
  rw [sWhile.eq_2]
  simp only [sB, ht, if_true, hb]
theorem while_f {t : M Bool} {b : MS} {n : Nat} {o} (ht : t env own = .ok false o) : sWhile t b (n + 1) env own = .nx env o := by
  rw [sWhile.eq_2]
  simp only [sB, ht, Bool.false_eq_true, if_false, sNil]
theorem while_rt {t : M Bool} {b : MS} {n : Nat} {o d o'} (ht : t env own = .ok true o) (hb : b env o = .rt d o') : sWhile t b (n + 1) env own = .rt d o' := by
  rw [sWhile.eq_2]
  simp only [sB, ht, if_true, hb]
theorem while_exc {t : M Bool} {b : MS} {n : Nat} {o c o'} (ht : t env own = .ok true o) (hb : b env o = .exc c o') : sWhile t b (n + 1) env own = .exc c o' := by
  rw [sWhile.eq_2]
  simp only [sB, ht, if_true, hb]
end
end Mi

set_option Elab.async false
set_option linter.all false
set_option maxRecDepth 100000
set_option maxHeartbeats 4000000
namespace Mi
open PySem L2
/-- a whole number between two bounds -/
noncomputable def isWD : D → Int → Int → Bool
  | .int i, lo, hi => cB (lo ≤ i ∧ i ≤ hi)
  | _, _, _ => false
theorem isWD_true {v : D} {lo hi : Int} (h : isWD v lo hi = true) : ∃ i, v = .int i ∧ lo ≤ i ∧ i ≤ hi := by
  cases v with
  | int i => exact ⟨i, rfl, cB_iff.mp h⟩
  | _ => cases h
theorem isWD_in {i lo hi : Int} (h0 : lo ≤ i) (h1 : i ≤ hi) : isWD (.int i) lo hi = true := cB_t ⟨h0, h1⟩
theorem isWD_out {i lo hi : Int} (h : i < lo ∨ hi < i) : isWD (.int i) lo hi = false := cB_f (by omega)
/-! ### numbers as bytes: the plain part -/
def fullN (b : Nat) : Int := (2 ^ b : Nat) - 1
theorem fullN_succ (b : Nat) : fullN (b + 1) = 2 * fullN b + 1 := by
  unfold fullN
  rw [Nat.pow_succ]
  have : (1 : Nat) ≤ 2 ^ b := Nat.one_le_two_pow
  push_cast
  omega
theorem fullN_pos (b : Nat) : 0 ≤ fullN b := by
  unfold fullN
  have : (1 : Nat) ≤ 2 ^ b := Nat.one_le_two_pow
  omega
theorem fullN_le {b : Nat} (h : b ≤ 8) : fullN b ≤ 255 := by
  unfold fullN
  have : 2 ^ b ≤ 2 ^ 8 := Nat.pow_le_pow_right (by decide) h
  have e : (2 : Nat) ^ 8 = 256 := by decide
  omega
def tlB (r : Nat) : List Int := if h : 128 ≤ r then (128 + ((r % 128 : Nat) : Int)) :: tlB (r / 128) else [(r : Int)]
termination_by r
decreasing_by omega
theorem tlB_ge {r : Nat} (h : 128 ≤ r) : tlB r = (128 + ((r % 128 : Nat) : Int)) :: tlB (r / 128) := by rw [tlB, dif_pos h]
theorem tlB_lt {r : Nat} (h : ¬ 128 ≤ r) : tlB r = [(r : Int)] := by rw [tlB, dif_neg h]
theorem tlB_len : ∀ (k r : Nat), r < 128 ^ (k + 1) → (tlB r).length ≤ k + 1
  | 0, r, h => by rw [tlB_lt (by simpa using h)]; exact Nat.le_refl _
  | k + 1, r, h => by
    by_cases e : 128 ≤ r
    · rw [tlB_ge e, List.length_cons]
      have := tlB_len k (r / 128) (by rw [Nat.div_lt_iff_lt_mul (by decide)]; rw [Nat.pow_succ] at h; exact h)
      omega
    · rw [tlB_lt e]; exact Nat.le_add_left 1 _
def numB (n : Int) (b : Nat) (hd : Int) : List Int := if n < fullN b then [hd + n] else (hd + fullN b) :: tlB (n - fullN b).toNat
theorem numB_len {n h : Int} {b : Nat} (h0 : 0 ≤ n) (h1 : n ≤ 268435455) : (numB n b h).length ≤ 5 := by
  unfold numB
  split
  · exact Nat.le_add_left 1 4
  · have := tlB_len 3 (n - fullN b).toNat (by have := fullN_pos b; have e : (128 : Nat) ^ (3 + 1) = 268435456 := by decide
                                              omega)
    rw [List.length_cons]; omega
noncomputable def byteO (xs : List D) (n : Nat) : Option Int := match xs[n]? with
  | some v => if isWD v 0 255 = true then (match v with | .int b => some b | _ => none) else none
  | none => none
noncomputable def rdL : List D → Int → Int → Nat → Option (Int × Nat)
  | [], _, _, _ => none
  | v :: r, found, by_, at_ => match byteO [v] 0 with
    | none => none
    | some m => if found + m % 128 * by_ ≤ 268435455 ∧ (0 < m ∨ by_ = 1) then (if 128 ≤ m then rdL r (found + m % 128 * by_) (by_ * 128) (at_ + 1) else some (found + m % 128 * by_, at_ + 1)) else none
noncomputable def readN (xs : List D) (at_ b : Nat) : Option (Int × Nat) := match byteO xs at_ with
  | none => none
  | some m => if m % (fullN b + 1) < fullN b then some (m % (fullN b + 1), at_ + 1) else rdL (xs.drop (at_ + 1)) (m % (fullN b + 1)) 1 (at_ + 1)
theorem byteO_drop (xs : List D) (n : Nat) : byteO xs n = match xs.drop n with | [] => none | v :: _ => byteO [v] 0 := by
  unfold byteO
  cases e : xs.drop n with
  | nil =>
    have : xs.length ≤ n := List.drop_eq_nil_iff.mp e
    rw [List.getElem?_eq_none this]
  | cons v r =>
    have : xs[n]? = some v := by rw [← List.head?_drop, e]; rfl
    rw [this]
    rfl
/-! ### numbers as bytes: the plain law -/
theorem fullN_1 : fullN 1 = 1 := by decide
theorem fullN_2 : fullN 2 = 3 := by decide
theorem fullN_3 : fullN 3 = 7 := by decide
theorem fullN_4 : fullN 4 = 15 := by decide
theorem fullN_5 : fullN 5 = 31 := by decide
theorem fullN_6 : fullN 6 = 63 := by decide
theorem fullN_7 : fullN 7 = 127 := by decide
theorem fullN_8 : fullN 8 = 255 := by decide
theorem bits8 {b : Nat} {p : Nat → Prop} (h0 : 1 ≤ b) (h1 : b ≤ 8) (h : p 1 ∧ p 2 ∧ p 3 ∧ p 4 ∧ p 5 ∧ p 6 ∧ p 7 ∧ p 8) : p b := by
  obtain ⟨a1, a2, a3, a4, a5, a6, a7, a8⟩ := h
  match b, h0, h1 with
  | 1, _, _ => exact a1
  | 2, _, _ => exact a2
  | 3, _, _ => exact a3
  | 4, _, _ => exact a4
  | 5, _, _ => exact a5
  | 6, _, _ => exact a6
  | 7, _, _ => exact a7
  | 8, _, _ => exact a8
theorem head_fit {b : Nat} (h0 : 1 ≤ b) (h1 : b ≤ 8) : ∀ h : Int, 0 ≤ h → h ≤ 255 → h % (fullN b + 1) = 0 → h + fullN b ≤ 255 := by
  refine bits8 (p := fun b => ∀ h : Int, 0 ≤ h → h ≤ 255 → h % (fullN b + 1) = 0 → h + fullN b ≤ 255) h0 h1 ⟨?_, ?_, ?_, ?_, ?_, ?_, ?_, ?_⟩
  · rw [fullN_1]; intros; omega
  · rw [fullN_2]; intros; omega
  · rw [fullN_3]; intros; omega
  · rw [fullN_4]; intros; omega
  · rw [fullN_5]; intros; omega
  · rw [fullN_6]; intros; omega
  · rw [fullN_7]; intros; omega
  · rw [fullN_8]; intros; omega
theorem head_made {b : Nat} (h0 : 1 ≤ b) (h1 : b ≤ 8) : ∀ x : Int, 0 ≤ x % (256 / (fullN b + 1)) * (fullN b + 1) ∧ x % (256 / (fullN b + 1)) * (fullN b + 1) ≤ 255 ∧ x % (256 / (fullN b + 1)) * (fullN b + 1) % (fullN b + 1) = 0 ∧ 0 < 256 / (fullN b + 1) ∧ 256 / (fullN b + 1) ≤ 256 := by
  refine bits8 (p := fun b => ∀ x : Int, 0 ≤ x % (256 / (fullN b + 1)) * (fullN b + 1) ∧ x % (256 / (fullN b + 1)) * (fullN b + 1) ≤ 255 ∧ x % (256 / (fullN b + 1)) * (fullN b + 1) % (fullN b + 1) = 0 ∧ 0 < 256 / (fullN b + 1) ∧ 256 / (fullN b + 1) ≤ 256) h0 h1 ⟨?_, ?_, ?_, ?_, ?_, ?_, ?_, ?_⟩
  · rw [fullN_1]; intros; omega
  · rw [fullN_2]; intros; omega
  · rw [fullN_3]; intros; omega
  · rw [fullN_4]; intros; omega
  · rw [fullN_5]; intros; omega
  · rw [fullN_6]; intros; omega
  · rw [fullN_7]; intros; omega
  · rw [fullN_8]; intros; omega
theorem step_at {b : Nat} (h0 : 1 ≤ b) (h1 : b ≤ 8) : atI [D.int 0, .int 2, .int 4, .int 8, .int 16, .int 32, .int 64, .int 128, .int 256] (b : Int) = some (.int (fullN b + 1)) :=
  bits8 (p := fun b => atI [D.int 0, .int 2, .int 4, .int 8, .int 16, .int 32, .int 64, .int 128, .int 256] (b : Int) = some (.int (fullN b + 1))) h0 h1 ⟨rfl, rfl, rfl, rfl, rfl, rfl, rfl, rfl⟩
theorem byteO_int {m : Int} (h0 : 0 ≤ m) (h1 : m ≤ 255) : byteO [D.int m] 0 = some m := by
  unfold byteO
  simp [isWD_in h0 h1]
theorem rdL_tl (suf : List Int) : ∀ (r : Nat) (found by_ : Int) (at_ : Nat), 1 ≤ by_ → found + r * by_ ≤ 268435455 → (by_ = 1 ∨ 0 < r) → rdL ((tlB r ++ suf).map D.int) found by_ at_ = some (found + r * by_, at_ + (tlB r).length) := by
  intro r
  induction r using Nat.strongRecOn with
  | ind r ih =>
    intro found by_ at_ hb hf hz
    by_cases e : 128 ≤ r
    · have hm0 : (r % 128 : Nat) < 128 := Nat.mod_lt _ (by decide)
      have e1 : (128 + ((r % 128 : Nat) : Int)) % 128 = ((r % 128 : Nat) : Int) := by omega
      have hr : (r : Int) = ((r % 128 : Nat) : Int) + 128 * ((r / 128 : Nat) : Int) := by omega
      have e2 : found + ((r % 128 : Nat) : Int) * by_ + ((r / 128 : Nat) : Int) * (by_ * 128) = found + r * by_ := by
        rw [hr, Int.add_mul]
        have : 128 * ((r / 128 : Nat) : Int) * by_ = ((r / 128 : Nat) : Int) * (by_ * 128) := by
          rw [Int.mul_comm 128, Int.mul_assoc, Int.mul_comm 128 by_]
        omega
      have hge : 0 ≤ ((r / 128 : Nat) : Int) * (by_ * 128) := Int.mul_nonneg (by omega) (by omega)
      rw [tlB_ge e, List.cons_append, List.map_cons, rdL, byteO_int (by omega) (by omega)]
      simp only
      rw [e1, if_pos ⟨by omega, .inl (by omega)⟩, if_pos (by omega), ih (r / 128) (Nat.div_lt_self (by omega) (by decide)) _ _ _ (by omega) (by omega) (.inr (Nat.div_pos e (by decide))), e2, List.length_cons]
      congr 2
      omega
    · have e1 : (r : Int) % 128 = r := by omega
      rw [tlB_lt e, List.cons_append, List.map_cons, rdL, byteO_int (by omega) (by omega)]
      simp only
      rw [e1, if_pos ⟨hf, by omega⟩, if_neg (by omega)]
      rfl
theorem readN_numB {n h : Int} {b : Nat} (pre suf : List Int) (b0 : 1 ≤ b) (b1 : b ≤ 8) (n0 : 0 ≤ n) (n1 : n ≤ 268435455) (h0 : 0 ≤ h) (h1 : h ≤ 255) (hm : h % (fullN b + 1) = 0) :
    readN ((pre ++ numB n b h ++ suf).map D.int) pre.length b = some (n, pre.length + (numB n b h).length) := by
  have f0 := fullN_pos b
  have hf := head_fit b0 b1 h h0 h1 hm
  have key : ∀ x : Int, 0 ≤ x → x ≤ fullN b → (h + x) % (fullN b + 1) = x := fun x x0 x1 => by
    rw [Int.add_emod, hm, Int.zero_add, Int.emod_emod_of_dvd _ (Int.dvd_refl _)]
    exact Int.emod_eq_of_lt x0 (by omega)
  have hd : ∀ (m : Int) (t : List Int), ((pre ++ (m :: t) ++ suf).map D.int).drop pre.length = D.int m :: (t ++ suf).map D.int := fun m t => by
    rw [List.append_assoc, List.map_append, List.drop_append_of_le_length (by rw [List.length_map]; exact Nat.le_refl _), List.drop_of_length_le (by rw [List.length_map]; exact Nat.le_refl _)]
    rfl
  unfold readN
  rw [byteO_drop]
  by_cases e : n < fullN b
  · have en : numB n b h = [h + n] := by rw [numB, if_pos e]
    rw [en, hd]
    simp only
    rw [byteO_int (by omega) (by omega)]
    simp only
    rw [key n n0 (by omega), if_pos e]
    rfl
  · have en : numB n b h = (h + fullN b) :: tlB (n - fullN b).toNat := by rw [numB, if_neg e]
    rw [en]
    have hd2 : ((pre ++ (h + fullN b) :: tlB (n - fullN b).toNat ++ suf).map D.int).drop (pre.length + 1) = (tlB (n - fullN b).toNat ++ suf).map D.int := by
      rw [← List.drop_drop, hd]; rfl
    rw [hd2, hd]
    simp only
    rw [byteO_int (by omega) (by omega)]
    simp only
    rw [key (fullN b) f0 (Int.le_refl _), if_neg (Int.lt_irrefl _), rdL_tl suf _ _ _ _ (by decide) (by omega) (.inl rfl), List.length_cons]
    congr 2
    · omega
    · first | omega | rfl
/-! the law's own parting -/
def dgB (r : Nat) : List Int := if h : 128 ≤ r then ((r % 128 : Nat) : Int) :: dgB (r / 128) else [(r : Int)]
termination_by r
decreasing_by omega
theorem dgB_ge {r : Nat} (h : 128 ≤ r) : dgB r = ((r % 128 : Nat) : Int) :: dgB (r / 128) := by rw [dgB, dif_pos h]
theorem dgB_lt {r : Nat} (h : ¬ 128 ≤ r) : dgB r = [(r : Int)] := by rw [dgB, dif_neg h]
theorem dgB_ne (r : Nat) : dgB r ≠ [] := by
  by_cases h : 128 ≤ r
  · rw [dgB_ge h]; simp
  · rw [dgB_lt h]; simp
theorem dgB_len : ∀ r : Nat, (dgB r).length = (tlB r).length := by
  intro r
  induction r using Nat.strongRecOn with
  | ind r ih =>
    by_cases e : 128 ≤ r
    · rw [dgB_ge e, tlB_ge e, List.length_cons, List.length_cons, ih _ (Nat.div_lt_self (by omega) (by decide))]
    · rw [dgB_lt e, tlB_lt e]
theorem tl_dg : ∀ r : Nat, tlB r = (dgB r).dropLast.map (fun d => d + 128) ++ (dgB r).drop ((dgB r).length - 1) := by
  intro r
  induction r using Nat.strongRecOn with
  | ind r ih =>
    by_cases e : 128 ≤ r
    · have hne := dgB_ne (r / 128)
      have hl : 0 < (dgB (r / 128)).length := List.length_pos_iff.mpr hne
      rw [tlB_ge e, dgB_ge e, List.dropLast_cons_of_ne_nil hne, List.map_cons, List.length_cons, Nat.add_sub_cancel, ih _ (Nat.div_lt_self (by omega) (by decide)), List.cons_append]
      congr 1
      · omega
      · congr 1
        obtain ⟨k, hk⟩ : ∃ k, (dgB (r / 128)).length = k + 1 := ⟨(dgB (r / 128)).length - 1, by omega⟩
        rw [hk]; rfl
    · rw [tlB_lt e, dgB_lt e]; rfl
theorem numB_h (n h : Int) (b : Nat) : (numB n b h).length = (numB n b 0).length := by
  unfold numB
  split <;> rfl
/-! ### numbers refused: the plain law -/
theorem rdL_inv : ∀ (ys : List Int) (found by_ n : Int) (at_ e : Nat), (∀ y ∈ ys, 0 ≤ y ∧ y ≤ 255) → 1 ≤ by_ → rdL (ys.map D.int) found by_ at_ = some (n, e) →
    ∃ r : Nat, n = found + r * by_ ∧ n ≤ 268435455 ∧ at_ ≤ e ∧ tlB r = ys.take (e - at_) ∧ (by_ = 1 ∨ 0 < r)
  | [], found, by_, n, at_, e, _, _, h => by simp [rdL] at h
  | m :: ys, found, by_, n, at_, e, hy, hb, h => by
    have hm := hy m List.mem_cons_self
    rw [List.map_cons, rdL, byteO_int hm.1 hm.2] at h
    simp only at h
    split at h
    · rename_i hc
      split at h
      · rename_i hm2
        obtain ⟨r, h1, h2, h3, h4, h5⟩ := rdL_inv ys _ _ n (at_ + 1) e (fun y hy' => hy y (List.mem_cons_of_mem _ hy')) (by omega) h
        have hr : 0 < r := h5.resolve_left (by omega)
        obtain ⟨m', rfl⟩ : ∃ m' : Nat, m = m' := ⟨m.toNat, by omega⟩
        refine ⟨m' % 128 + 128 * r, ?_, h2, by omega, ?_, .inr (by omega)⟩
        · rw [h1]
          have : (((m' % 128 + 128 * r : Nat) : Int)) * by_ = (m' : Int) % 128 * by_ + r * (by_ * 128) := by
            push_cast
            rw [Int.add_mul]
            congr 1
            rw [Int.mul_comm 128, Int.mul_assoc, Int.mul_comm 128 by_]
          omega
        · have e1 : (m' % 128 + 128 * r) % 128 = m' % 128 := by omega
          have e2 : (m' % 128 + 128 * r) / 128 = r := by omega
          rw [tlB_ge (by omega), e1, e2, h4]
          obtain ⟨k, hk⟩ : ∃ k, e - at_ = k + 1 := ⟨e - at_ - 1, by omega⟩
          have hk2 : e - (at_ + 1) = k := by omega
          rw [hk, hk2, List.take_succ_cons]
          congr 1
          omega
      · rename_i hm2
        cases h
        obtain ⟨m', rfl⟩ : ∃ m' : Nat, m = m' := ⟨m.toNat, by omega⟩
        have e1 : (m' : Int) % 128 = m' := by omega
        refine ⟨m', by rw [e1], hc.1, by omega, ?_, by omega⟩
        rw [tlB_lt (by omega), show at_ + 1 - at_ = 1 from by omega]
        rfl
    · cases h
theorem readN_inv {ys : List Int} {b e : Nat} {n : Int} (b0 : 1 ≤ b) (b1 : b ≤ 8) (hy : ∀ y ∈ ys, 0 ≤ y ∧ y ≤ 255) (h : readN (ys.map D.int) 0 b = some (n, e)) :
    ∃ m, ys[0]? = some m ∧ 0 ≤ n ∧ n ≤ 268435455 ∧ 0 ≤ m / (fullN b + 1) * (fullN b + 1) ∧ m / (fullN b + 1) * (fullN b + 1) ≤ 255 ∧ (m / (fullN b + 1) * (fullN b + 1)) % (fullN b + 1) = 0 ∧ numB n b (m / (fullN b + 1) * (fullN b + 1)) = ys.take e := by
  have f0 := fullN_pos b
  have f1 := fullN_le b1
  cases ys with
  | nil => simp [readN, byteO] at h
  | cons m r =>
    have hm := hy m List.mem_cons_self
    rw [readN, byteO_drop] at h
    rw [List.map_cons, List.drop_zero] at h
    simp only at h
    rw [byteO_int hm.1 hm.2] at h
    simp only at h
    have hd := Int.emod_add_mul_ediv m (fullN b + 1)
    have hmm : m / (fullN b + 1) * (fullN b + 1) = m - m % (fullN b + 1) := by rw [Int.mul_comm]; omega
    have hm0 := Int.emod_nonneg m (b := fullN b + 1) (by omega)
    have hm1 := Int.emod_lt_of_pos m (b := fullN b + 1) (by omega)
    have hq : 0 ≤ m / (fullN b + 1) * (fullN b + 1) := Int.mul_nonneg (Int.ediv_nonneg hm.1 (by omega)) (by omega)
    refine ⟨m, rfl, ?_⟩
    split at h
    · rename_i hlt
      cases h
      refine ⟨hm0, by omega, hq, by omega, Int.mul_emod_left _ _, ?_⟩
      rw [numB, if_pos hlt, hmm]
      show [_] = [m]
      congr 1
      omega
    · rename_i hlt
      have hfl : m % (fullN b + 1) = fullN b := by omega
      rw [hfl] at h
      rw [show ((0 : Nat) + 1) = 1 from rfl, List.drop_succ_cons, List.drop_zero] at h
      obtain ⟨s, h1, h2, h3, h4, _⟩ := rdL_inv r _ 1 n 1 e (fun y hy' => hy y (List.mem_cons_of_mem _ hy')) (by decide) h
      refine ⟨by omega, h2, hq, by omega, Int.mul_emod_left _ _, ?_⟩
      rw [numB, if_neg (by omega), hmm, hfl]
      have hs : (n - fullN b).toNat = s := by omega
      rw [hs, h4]
      obtain ⟨k, hk⟩ : ∃ k, e = k + 1 := ⟨e - 1, by omega⟩
      subst hk
      rw [List.take_succ_cons, Nat.add_sub_cancel]
      congr 1
      omega
end Mi

set_option Elab.async false
set_option linter.all false
set_option maxRecDepth 100000
set_option maxHeartbeats 4000000
namespace Mi
open PySem L2
/-! ### texts as bytes: the plain part -/
def sg : List Nat := (" !\"#$&'()*+,-./0123456789:;<=>?@ABCDEFGHIJKLMNOPQRSTUVWXYZ[\\]^_`abcdefghijklmnopqrstuvwxyz{|}~" : Str).cps.toList
theorem sg_def : (Str.ofString " !\"#$&'()*+,-./0123456789:;<=>?@ABCDEFGHIJKLMNOPQRSTUVWXYZ[\\]^_`abcdefghijklmnopqrstuvwxyz{|}~").cps.toList = sg := rfl
theorem str_len (s : Str) : s.cps.toList.length = s.length := by simp [Str.length]
theorem sg_nodup : sg.Nodup := by decide +kernel
theorem sg_in : ∀ c ∈ sg, 32 ≤ c ∧ c ≤ 126 := by decide +kernel
theorem sg_len : sg.length = 94 := by decide +kernel
noncomputable def isTx (d : D) (m : Int) : Bool := match d with
  | .str s => cB ((s.length : Int) ≤ m) && s.cps.toList.all (fun c => decide (c ∈ sg))
  | _ => false
noncomputable def codeOf : D → Option Nat
  | .int i => if cB (0 ≤ i ∧ i.toNat ∈ sg) = true then some i.toNat else none
  | _ => none
noncomputable def textO : List D → Option (List Nat)
  | [] => some []
  | d :: ds => match codeOf d, textO ds with
    | some c, some cs => some (c :: cs)
    | _, _ => none
/-- a text's bytes -/
def textB (cs : List Nat) : List Int := numB cs.length 7 0 ++ cs.map fun (c : Nat) => (c : Int)
noncomputable def readT (xs : List D) (n : Nat) : Option (List Nat × Nat) := match byteO xs n with
  | none => none
  | some b => if cB (b < 128) = true then (match readN xs n 7 with
    | none => none
    | some (v, e) => if cB ((e : Int) + v ≤ xs.length) = true then (match textO ((xs.drop e).take v.toNat) with
      | some cs => some (cs, e + v.toNat)
      | none => none) else none) else none
theorem codeOf_in {c : Nat} (h : c ∈ sg) : codeOf (.int c) = some c := by
  unfold codeOf
  dsimp only
  rw [cB_t ⟨by omega, by rw [Int.toNat_natCast]; exact h⟩]
  simp
theorem codeOf_some {d : D} {c : Nat} (h : codeOf d = some c) : d = .int c ∧ c ∈ sg := by
  unfold codeOf at h
  split at h
  · split at h
    · rename_i i hz
      rw [cB_iff] at hz
      cases h
      exact ⟨by rw [Int.toNat_of_nonneg hz.1], hz.2⟩
    · cases h
  · cases h
theorem textO_codes : ∀ {cs : List Nat}, (∀ c ∈ cs, c ∈ sg) → textO (cs.map fun (c : Nat) => D.int c) = some cs
  | [], _ => rfl
  | c :: cs, h => by
    rw [List.map_cons, textO, codeOf_in (h c List.mem_cons_self), textO_codes fun c hc => h c (List.mem_cons_of_mem _ hc)]
theorem textO_some : ∀ {ds : List D} {cs : List Nat}, textO ds = some cs → ds = cs.map (fun (c : Nat) => D.int c) ∧ ∀ c ∈ cs, c ∈ sg
  | [], cs, h => by cases h; exact ⟨rfl, fun _ h => nomatch h⟩
  | d :: ds, cs, h => by
    rw [textO] at h
    split at h
    · rename_i c cs' h1 h2
      cases h
      obtain ⟨e1, e2⟩ := codeOf_some h1
      obtain ⟨e3, e4⟩ := textO_some h2
      rw [e1, e3]
      exact ⟨rfl, fun x hx => by
        rcases List.mem_cons.mp hx with rfl | hx
        · exact e2
        · exact e4 x hx⟩
    · cases h
theorem textO_all : ∀ (ds : List D), (textO ds).isSome = ds.all fun d => (codeOf d).isSome
  | [] => rfl
  | d :: ds => by
    rw [textO, List.all_cons, ← textO_all ds]
    cases codeOf d <;> cases textO ds <;> rfl
theorem numB7_head {n : Int} (h0 : 0 ≤ n) : ∃ m l, numB n 7 0 = m :: l ∧ 0 ≤ m ∧ m < 128 := by
  unfold numB
  rw [fullN_7]
  split
  · exact ⟨_, _, rfl, by omega, by omega⟩
  · exact ⟨_, _, rfl, by decide, by decide⟩
theorem byteO_at {pre : List Int} {m : Int} {l : List Int} (h0 : 0 ≤ m) (h1 : m ≤ 255) : byteO ((pre ++ m :: l).map D.int) pre.length = some m := by
  rw [byteO_drop, List.map_append, List.drop_append_of_le_length (by simp), List.drop_of_length_le (by simp)]
  exact byteO_int h0 h1
theorem readT_textB (pre suf : List Int) {cs : List Nat} (hc : ∀ c ∈ cs, c ∈ sg) (hl : cs.length ≤ 268435455) : readT ((pre ++ textB cs ++ suf).map D.int) pre.length = some (cs, pre.length + (textB cs).length) := by
  obtain ⟨m, l, e, m0, m1⟩ := numB7_head (n := cs.length) (by omega)
  have er : pre ++ textB cs ++ suf = pre ++ numB cs.length 7 0 ++ (cs.map (fun (c : Nat) => (c : Int)) ++ suf) := by unfold textB; simp
  unfold readT
  have e1 : byteO ((pre ++ textB cs ++ suf).map D.int) pre.length = some m := by
    rw [er, e, List.append_assoc]
    exact byteO_at m0 (by omega)
  rw [e1]
  dsimp only
  rw [cB_t m1, er, readN_numB pre _ (by decide) (by decide) (by omega) (by omega) (by decide) (by decide) (by decide)]
  simp only [if_true]
  rw [cB_t (by simp only [List.map_append, List.length_append, List.length_map]; omega)]
  simp only [if_true]
  have e2 : (List.map D.int (pre ++ numB (cs.length : Int) 7 0 ++ (cs.map (fun (c : Nat) => (c : Int)) ++ suf))).drop (pre.length + (numB (cs.length : Int) 7 0).length) = cs.map (fun (c : Nat) => D.int c) ++ suf.map D.int := by
    rw [List.map_append, List.drop_append_of_le_length (by simp), List.drop_of_length_le (by simp)]
    simp [List.map_append, List.map_map, Function.comp_def]
  rw [e2, Int.toNat_natCast, List.take_append_of_le_length (by simp), List.take_of_length_le (by simp), textO_codes hc]
  simp only [Option.some.injEq, Prod.mk.injEq, true_and]
  unfold textB
  simp
  omega
theorem readT_short (pre : List Int) {cs : List Nat} (hc : ∀ c ∈ cs, c ∈ sg) (hl : cs.length ≤ 268435455) : readT (((pre ++ textB cs).dropLast).map D.int) pre.length = none := by
  have hne : textB cs ≠ [] := by
    unfold textB
    obtain ⟨m, l, e, _⟩ := numB7_head (n := cs.length) (by omega)
    rw [e]; simp
  rw [List.dropLast_append_of_ne_nil hne]
  cases cs with
  | nil =>
    have : textB [] = [0] := by decide
    rw [this]
    unfold readT byteO
    rw [List.getElem?_eq_none (by simp)]
  | cons c cs =>
    have er : (textB (c :: cs)).dropLast = numB ((c :: cs).length : Int) 7 0 ++ ((c :: cs).map (fun (c : Nat) => (c : Int))).dropLast := by
      unfold textB
      rw [List.dropLast_append_of_ne_nil (by simp)]
    obtain ⟨m, l, e, m0, m1⟩ := numB7_head (n := (c :: cs).length) (by omega)
    unfold readT
    have e1 : byteO ((pre ++ (textB (c :: cs)).dropLast).map D.int) pre.length = some m := by
      rw [er, e]
      exact byteO_at m0 (by omega)
    rw [e1]
    dsimp only
    rw [cB_t m1, er, ← List.append_assoc, readN_numB pre _ (by decide) (by decide) (by omega) (by omega) (by decide) (by decide) (by decide)]
    simp only [if_true]
    rw [cB_f]
    · rfl
    · simp only [List.map_append, List.length_append, List.length_map, List.length_dropLast, List.length_cons]
      omega
theorem readT_inv {ys : List Int} {cs : List Nat} {e : Nat} (hy : ∀ y ∈ ys, 0 ≤ y ∧ y ≤ 255) (h : readT (ys.map D.int) 0 = some (cs, e)) : textB cs = ys.take e ∧ (∀ c ∈ cs, c ∈ sg) ∧ cs.length ≤ 268435455 := by
  unfold readT at h
  split at h
  · cases h
  · rename_i b hb
    split at h
    · rename_i hb2
      rw [cB_iff] at hb2
      split at h
      · cases h
      · rename_i v e' hr
        split at h
        · rename_i hle
          rw [cB_iff, List.length_map] at hle
          split at h
          · rename_i cs' ht
            cases h
            obtain ⟨t1, t2⟩ := textO_some ht
            obtain ⟨m, hm, n0, n1, h1, h2, h3, h4⟩ := readN_inv (by decide) (by decide) hy hr
            have hv : v.toNat = cs.length := by
              have := congrArg List.length t1
              simp at this
              omega
            have hm0 : m / (fullN 7 + 1) * (fullN 7 + 1) = 0 := by
              have hbm : b = m := by
                rw [byteO_drop, List.drop_zero] at hb
                cases ys with
                | nil => simp at hm
                | cons y ys =>
                  simp at hm
                  subst hm
                  have hy0 := hy y List.mem_cons_self
                  rw [List.map_cons] at hb
                  simp only at hb
                  rw [byteO_int hy0.1 hy0.2] at hb
                  cases hb
                  rfl
              have hm' := hy m (List.mem_of_getElem? hm)
              rw [fullN_7]
              omega
            rw [hm0] at h4
            have hve : v = cs.length := by omega
            refine ⟨?_, t2, by omega⟩
            unfold textB
            rw [← hve, h4, hv]
            rw [List.take_add]
            congr 1
            have : ((ys.drop e').take cs.length).map D.int = (cs.map fun (c : Nat) => (c : Int)).map D.int := by
              rw [hv] at t1
              rw [List.map_take, List.map_drop, t1, List.map_map]
              rfl
            exact (map_int_inj.mp this).symm
          · cases h
        · cases h
    · cases h
theorem textB_in {cs : List Nat} (hc : ∀ c ∈ cs, c ∈ sg) (hl : cs.length ≤ 268435455) : ∀ y ∈ textB cs, 0 ≤ y ∧ y ≤ 255 := by
  have htl : ∀ r : Nat, ∀ y ∈ tlB r, 0 ≤ y ∧ y ≤ 255 := by
    intro r
    induction r using Nat.strongRecOn with
    | ind r ih =>
      intro y hy
      by_cases e : 128 ≤ r
      · rw [tlB_ge e] at hy
        rcases List.mem_cons.mp hy with rfl | hy
        · omega
        · exact ih _ (Nat.div_lt_self (by omega) (by decide)) y hy
      · rw [tlB_lt e] at hy
        simp at hy
        omega
  intro y hy
  unfold textB at hy
  rcases List.mem_append.mp hy with hy | hy
  · unfold numB at hy
    rw [fullN_7] at hy
    split at hy
    · simp at hy; omega
    · rcases List.mem_cons.mp hy with rfl | hy
      · decide
      · exact htl _ y hy
  · obtain ⟨c, h1, rfl⟩ := List.mem_map.mp hy
    have := sg_in c (hc c h1)
    omega
theorem byteO_nn {xs : List D} {n : Nat} {m : Int} (h : byteO xs n = some m) : 0 ≤ m ∧ m ≤ 255 := by
  unfold byteO at h
  split at h
  · split at h
    · rename_i hw
      obtain ⟨i, rfl, h0, h1⟩ := isWD_true hw
      cases h
      exact ⟨h0, h1⟩
    · cases h
  · cases h
theorem rdL_nn : ∀ (xs : List D) (f by_ : Int) (n : Nat) (v : Int) (e : Nat), 0 ≤ f → 1 ≤ by_ → rdL xs f by_ n = some (v, e) → 0 ≤ v ∧ n ≤ e
  | [], _, _, _, _, _, _, _, h => by simp [rdL] at h
  | x :: xs, f, by_, n, v, e, h0, h1, h => by
    rw [rdL] at h
    split at h
    · cases h
    · rename_i m hm
      have hm := byteO_nn hm
      have hp : 0 ≤ m % 128 * by_ := Int.mul_nonneg (by omega) (by omega)
      split at h
      · split at h
        · have := rdL_nn xs _ _ _ v e (by omega) (by omega) h
          exact ⟨this.1, by omega⟩
        · cases h; exact ⟨by omega, by omega⟩
      · cases h
theorem readN_nn {xs : List D} {n b : Nat} {v : Int} {e : Nat} (h : readN xs n b = some (v, e)) : 0 ≤ v ∧ n ≤ e := by
  unfold readN at h
  have f0 := fullN_pos b
  split at h
  · cases h
  · rename_i m hm
    have hm := byteO_nn hm
    have := Int.emod_nonneg m (b := fullN b + 1) (by omega)
    split at h
    · cases h; exact ⟨this, by omega⟩
    · have := rdL_nn _ _ _ _ v e this (by decide) h
      exact ⟨this.1, by omega⟩
end Mi

set_option Elab.async false
set_option linter.all false
set_option maxRecDepth 100000
set_option maxHeartbeats 4000000
namespace Mi
open PySem L2
/-! ### what is read stays read when the row goes on -/
theorem byteO_mono {xs ys : List D} {n : Nat} {m : Int} (h : byteO xs n = some m) : n < xs.length ∧ byteO (xs ++ ys) n = some m := by
  have hl : n < xs.length := by
    unfold byteO at h
    split at h
    · rename_i e; exact (List.getElem?_eq_some_iff.mp e).1
    · cases h
  refine ⟨hl, ?_⟩
  unfold byteO at h ⊢
  rw [List.getElem?_append_left hl]
  exact h
theorem rdL_mono (ys : List D) : ∀ (xs : List D) (f by_ : Int) (n : Nat) (v : Int) (e : Nat), rdL xs f by_ n = some (v, e) → e ≤ n + xs.length ∧ rdL (xs ++ ys) f by_ n = some (v, e)
  | [], _, _, _, _, _, h => by cases h
  | x :: xs, f, by_, n, v, e, h => by
    rw [List.cons_append, rdL]
    rw [rdL] at h
    split at h
    · cases h
    · rename_i m q
      split at h
      · rename_i hc
        split at h
        · rename_i h2
          have := rdL_mono ys xs _ _ _ _ _ h
          rw [if_pos hc, if_pos h2, List.length_cons]
          exact ⟨by omega, this.2⟩
        · rename_i h2
          rw [if_pos hc, if_neg h2, List.length_cons]
          cases h
          exact ⟨by omega, rfl⟩
      · cases h
theorem readN_mono {xs ys : List D} {n b : Nat} {v : Int} {e : Nat} (h : readN xs n b = some (v, e)) : e ≤ xs.length ∧ readN (xs ++ ys) n b = some (v, e) := by
  unfold readN at h ⊢
  cases q : byteO xs n with
  | none => rw [q] at h; cases h
  | some m =>
    obtain ⟨hl, hb⟩ := byteO_mono (ys := ys) q
    rw [q] at h
    rw [hb]
    dsimp only at h ⊢
    split at h
    · rename_i hc
      rw [if_pos hc]
      cases h
      exact ⟨hl, rfl⟩
    · rename_i hc
      rw [if_neg hc, List.drop_append_of_le_length hl]
      have := rdL_mono ys _ _ _ _ _ _ h
      rw [List.length_drop] at this
      exact ⟨by omega, this.2⟩
theorem readT_mono {xs ys : List D} {n : Nat} {cs : List Nat} {e : Nat} (h : readT xs n = some (cs, e)) : e ≤ xs.length ∧ readT (xs ++ ys) n = some (cs, e) := by
  unfold readT at h ⊢
  cases q : byteO xs n with
  | none => rw [q] at h; cases h
  | some m =>
    obtain ⟨hl, hb⟩ := byteO_mono (ys := ys) q
    rw [q] at h
    rw [hb]
    dsimp only at h ⊢
    split at h
    · rename_i hc
      rw [if_pos hc]
      cases q2 : readN xs n 7 with
      | none => rw [q2] at h; cases h
      | some ve =>
        obtain ⟨v, e1⟩ := ve
        obtain ⟨h1, h2⟩ := readN_mono (ys := ys) q2
        have h3 := readN_nn q2
        rw [q2] at h
        rw [h2]
        dsimp only at h ⊢
        split at h
        · rename_i hc2
          rw [cB_iff] at hc2
          rw [cB_t (show (e1 : Int) + v ≤ (xs ++ ys).length by rw [List.length_append]; omega), if_pos rfl]
          have : ((xs ++ ys).drop e1).take v.toNat = (xs.drop e1).take v.toNat := by
            rw [List.drop_append_of_le_length h1, List.take_append_of_le_length (by rw [List.length_drop]; omega)]
          rw [this]
          split at h
          · rename_i q3
            cases h
            exact ⟨by omega, rfl⟩
          · cases h
        · cases h
    · cases h
/-! ### one worth, by its kind: 0 is a text's, 1 to 8 a number's -/
noncomputable def oneR (xs : List D) (n b : Nat) : Option (D × Nat) := if b = 0 then (readT xs n).map (fun p => (.str ⟨p.1.toArray⟩, p.2)) else (readN xs n b).map (fun p => (.int p.1, p.2))
theorem oneR_mono {xs ys : List D} {n b : Nat} {w : D} {e : Nat} (h : oneR xs n b = some (w, e)) : e ≤ xs.length ∧ oneR (xs ++ ys) n b = some (w, e) := by
  unfold oneR at h ⊢
  split at h
  · rename_i hb
    rw [if_pos hb]
    obtain ⟨⟨cs, e'⟩, q, hq⟩ := Option.map_eq_some_iff.mp h
    cases hq
    obtain ⟨h1, h2⟩ := readT_mono (ys := ys) q
    exact ⟨h1, by rw [h2]; rfl⟩
  · rename_i hb
    rw [if_neg hb]
    obtain ⟨⟨v, e'⟩, q, hq⟩ := Option.map_eq_some_iff.mp h
    cases hq
    obtain ⟨h1, h2⟩ := readN_mono (ys := ys) q
    exact ⟨h1, by rw [h2]; rfl⟩
/-- a kind, its worth, its bytes -/
def Good (b : Nat) (w : D) (bs : List Int) : Prop := (b = 0 ∧ ∃ cs : List Nat, w = .str ⟨cs.toArray⟩ ∧ bs = textB cs ∧ (∀ c ∈ cs, c ∈ sg) ∧ cs.length ≤ 300) ∨ (1 ≤ b ∧ b ≤ 8 ∧ ∃ n : Int, w = .int n ∧ 0 ≤ n ∧ n ≤ 268435455 ∧ bs = numB n b 0)
theorem good_read {b : Nat} {w : D} {bs : List Int} (h : Good b w bs) (pre suf : List Int) : oneR ((pre ++ bs ++ suf).map D.int) pre.length b = some (w, pre.length + bs.length) := by
  unfold oneR
  rcases h with ⟨rfl, cs, rfl, rfl, hc, hl⟩ | ⟨b0, b1, n, rfl, n0, n1, rfl⟩
  · rw [if_pos rfl, readT_textB pre suf hc (by omega)]
    rfl
  · rw [if_neg (by omega), readN_numB pre suf b0 b1 n0 n1 (by decide) (by decide) (Int.zero_emod _)]
    rfl
theorem good_short {b : Nat} {w : D} {bs : List Int} (h : Good b w bs) (pre : List Int) {c : Nat} (hc : c < bs.length) : oneR ((pre ++ bs.take c).map D.int) pre.length b = none := by
  cases q : oneR ((pre ++ bs.take c).map D.int) pre.length b with
  | none => rfl
  | some we =>
    obtain ⟨w', e⟩ := we
    obtain ⟨h1, h2⟩ := oneR_mono (ys := (bs.drop c).map D.int) q
    rw [← List.map_append, List.append_assoc, List.take_append_drop] at h2
    have h3 := good_read h pre []
    rw [List.append_nil] at h3
    rw [h3] at h2
    cases h2
    rw [List.length_map, List.length_append, List.length_take] at h1
    omega
theorem good_pos {b : Nat} {w : D} {bs : List Int} (h : Good b w bs) : 0 < bs.length ∧ bs.length ≤ 400 := by
  rcases h with ⟨rfl, cs, rfl, rfl, hc, hl⟩ | ⟨b0, b1, n, rfl, n0, n1, rfl⟩
  · obtain ⟨m, l, e, _⟩ := numB7_head (n := (cs.length : Nat)) (by omega)
    have := numB_len (n := (cs.length : Nat)) (b := 7) (h := 0) (by omega) (by omega)
    unfold textB
    rw [List.length_append, List.length_map]
    refine ⟨by rw [e, List.length_cons]; omega, by omega⟩
  · have := numB_len (h := 0) (b := b) n0 n1
    refine ⟨?_, by omega⟩
    unfold numB
    split <;> simp
/-! ### a row of worths -/
abbrev Itm := Nat × D × List Int
def byts : List Itm → List Int := fun l => (l.map fun i => i.2.2).flatten
def Goods (l : List Itm) : Prop := ∀ i ∈ l, Good i.1 i.2.1 i.2.2
/-- reading by the kinds: what was found, and whether all were -/
noncomputable def allR (xs : List D) : List Nat → Nat → List D × Bool
  | [], _ => ([], true)
  | b :: bs, n => match oneR xs n b with
    | none => ([], false)
    | some (w, e) => ((w :: (allR xs bs e).1), (allR xs bs e).2)
theorem allR_full : ∀ (l : List Itm) (pre : List Int), Goods l → allR ((pre ++ byts l).map D.int) (l.map fun i => i.1) pre.length = (l.map fun i => i.2.1, true)
  | [], _, _ => rfl
  | i :: l, pre, h => by
    have h1 := good_read (h i List.mem_cons_self) pre (byts l)
    have ih := allR_full l (pre ++ i.2.2) fun j hj => h j (List.mem_cons_of_mem _ hj)
    have e : pre ++ byts (i :: l) = pre ++ i.2.2 ++ byts l := by rw [List.append_assoc]; rfl
    rw [e, List.map_cons, allR, h1]
    rw [List.length_append] at ih
    dsimp only
    rw [ih]
    rfl
/-- how many ends lie within a cut -/
def within : List Itm → Nat → Nat → Nat
  | [], _, _ => 0
  | i :: l, n, c => (if n + i.2.2.length ≤ c then 1 else 0) + within l (n + i.2.2.length) c
theorem within_0 : ∀ (l : List Itm) (n c : Nat), c < n → within l n c = 0
  | [], _, _, _ => rfl
  | i :: l, n, c, h => by rw [within, if_neg (by omega), within_0 l _ c (by omega)]
theorem allR_cut : ∀ (l : List Itm) (pre : List Int) (c : Nat), Goods l → pre.length ≤ c → c < (pre ++ byts l).length → allR (((pre ++ byts l).take c).map D.int) (l.map fun i => i.1) pre.length = ((l.map fun i => i.2.1).take (within l pre.length c), false)
  | [], pre, c, _, h0, h1 => by simp [byts] at h1; omega
  | i :: l, pre, c, h, h0, h1 => by
    have e : pre ++ byts (i :: l) = pre ++ i.2.2 ++ byts l := by rw [List.append_assoc]; rfl
    rw [e] at h1 ⊢
    by_cases hc : pre.length + i.2.2.length ≤ c
    · have hp : (pre ++ i.2.2).length ≤ c := by rw [List.length_append]; exact hc
      have ih := allR_cut l (pre ++ i.2.2) c (fun j hj => h j (List.mem_cons_of_mem _ hj)) hp h1
      have e2 : (pre ++ i.2.2 ++ byts l).take c = pre ++ i.2.2 ++ (byts l).take (c - (pre ++ i.2.2).length) := by
        rw [List.take_append, List.take_of_length_le hp]
      have hr := good_read (h i List.mem_cons_self) pre ((byts l).take (c - (pre ++ i.2.2).length))
      rw [← e2] at hr
      rw [List.map_cons, allR, hr]
      rw [List.length_append] at ih
      dsimp only
      rw [ih, within, if_pos hc, Nat.add_comm 1, List.map_cons, List.take_succ_cons]
    · have e2 : (pre ++ i.2.2 ++ byts l).take c = pre ++ i.2.2.take (c - pre.length) := by
        rw [List.append_assoc, List.take_append, List.take_of_length_le h0, List.take_append_of_le_length (by omega)]
      rw [e2, List.map_cons, allR, good_short (h i List.mem_cons_self) pre (by omega), within, if_neg hc, within_0 _ _ _ (by omega)]
      rfl
/-- the ends -/
def ends : List Itm → Nat → List Nat
  | [], _ => []
  | i :: l, n => (n + i.2.2.length) :: ends l (n + i.2.2.length)
theorem ends_len : ∀ (l : List Itm) (n : Nat), (ends l n).length = l.length
  | [], _ => rfl
  | i :: l, n => by rw [ends, List.length_cons, List.length_cons, ends_len l]
theorem ends_snoc : ∀ (l : List Itm) (n : Nat) (i : Itm), ends (l ++ [i]) n = ends l n ++ [n + (byts (l ++ [i])).length]
  | [], n, i => by simp [ends, byts]
  | j :: l, n, i => by
    rw [List.cons_append, ends, ends_snoc l, ends, List.cons_append]
    congr 3
    simp [byts]
    omega
theorem within_ends : ∀ (l : List Itm) (n c : Nat), ((ends l n).filter fun e => decide (e ≤ c)).length = within l n c
  | [], _, _ => rfl
  | i :: l, n, c => by
    rw [ends, within, List.filter_cons]
    by_cases h : n + i.2.2.length ≤ c
    · rw [if_pos (by simpa using h), if_pos h, List.length_cons, within_ends l]
      omega
    · rw [if_neg (by simpa using h), if_neg h, within_ends l]
      omega
theorem byts_snoc (l : List Itm) (i : Itm) : byts (l ++ [i]) = byts l ++ i.2.2 := by simp [byts]
theorem goods_snoc {l : List Itm} {i : Itm} (h : Goods l) (hi : Good i.1 i.2.1 i.2.2) : Goods (l ++ [i]) := fun j hj => by
  rcases List.mem_append.mp hj with hj | hj
  · exact h j hj
  · rw [List.mem_singleton.mp hj]; exact hi
/-! ### lists that are owned stand for what they hold -/
theorem neF_refL {own : Own} {h : Nat} {xs : List D} {e : D} (eh : own[h]? = some (.lst xs)) : neF (.ref h) e own = neF (.lst xs) e own := by
  unfold neF
  have : toPyT own (.ref h) = toPyT own (.lst xs) := by simp only [toPyT, eh, toPy]
  rw [this]
  cases e <;> rfl
theorem neF_refR {own : Own} {h : Nat} {xs : List D} {e : D} (eh : own[h]? = some (.lst xs)) : neF e (.ref h) own = neF e (.lst xs) own := by
  unfold neF
  have : toPyT own (.ref h) = toPyT own (.lst xs) := by simp only [toPyT, eh, toPy]
  rw [this]
  cases e <;> rfl
theorem loop_nil {j : Nat} {b : MS} {W : Wt} {env : Env} {own : Own} (hW : Held W own) : sLoop (gN j) b W [] env own = .nx env own := by
  rw [sLoop]
  exact if_pos hW
theorem loop_cons {j : Nat} {b : MS} {W : Wt} {d : D} {ds : List D} {env : Env} {own : Own} (hW : Held W own) : sLoop (gN j) b W (d :: ds) env own = match b (env.set j (some d)) own with
    | .nx e o => sLoop (gN j) b W ds e o
    | .ct e o => sLoop (gN j) b W ds e o
    | .bk e o => .nx e o
    | r => r := by
  rw [sLoop]
  refine Eq.trans (if_pos hW) ?_
  rfl
theorem it_ref {own : Own} {h : Nat} {xs : List D} (eh : own[h]? = some (.lst xs)) : itD (.ref h) own = .ok (xs, [(h, .lst xs)]) own := by simp only [itD, eh]
end Mi

set_option Elab.async false
set_option linter.all false
set_option maxRecDepth 100000
set_option maxHeartbeats 4000000
namespace Mi
open PySem L2
/-! ### objects, step by step -/
section
variable {env : Env} {own : Own}
def methR (c : Nat) (mn : Str) (n : Nat) (F : MF) (d : D) (ms : M (List D)) (env : Env) (own : Own) : R D := match d with
  | .ref h => (match own[h]? with
    | some (.ins c' fs) => if c' = c ∧ fs.lookup mn = none then (ms env own).bind fun ds o => callF n F (d :: ds) o else .bad
    | _ => .bad)
  | _ => .bad
theorem mMeth_ev {c : Nat} {mn : Str} {n : Nat} {F : MF} {ma : M D} {ms : M (List D)} : mMeth c mn n F ma ms env own = (ma env own).bind fun d o => methR c mn n F d ms env o := rfl
theorem meth_ref {c : Nat} {mn : Str} {n : Nat} {F : MF} {h : Nat} {ms : M (List D)} {fs : List (Str × D)} (e : own[h]? = some (.ins c fs)) (hl : fs.lookup mn = none) : methR c mn n F (.ref h) ms env own = (ms env own).bind fun ds o => callF n F (.ref h :: ds) o := by
  simp only [methR, e]
  exact if_pos ⟨by trivial, hl⟩
theorem mMake_ev {c n : Nat} {F : MF} {ms : M (List D)} : mMake c n F ms env own = (ms env own).bind fun ds o => (callF n F (.ref o.length :: ds) (o ++ [.ins c []])).bind fun d o' => match d with
  | .non => .ok (.ref o.length) o'
  | _ => .bad := rfl
theorem fld_ref {f : Str} {cs : List Nat} {h c : Nat} {fs : List (Str × D)} {v : D} (e : own[h]? = some (.ins c fs)) (hc : c ∈ cs) (hf : fs.lookup f = some v) : fldF f cs (.ref h) own = .ok v own := by
  simp only [fldF, e, hf]
  exact if_pos hc
theorem sFld_ev {f : Str} {cs : List Nat} {ma mv : M D} : sFld' f cs ma mv env own = (mv env own).bindS fun v o => (ma env o).bindS fun d o => setFld f cs v d env o := rfl
theorem set_ref {f : Str} {cs : List Nat} {h c : Nat} {fs : List (Str × D)} {v : D} (e : own[h]? = some (.ins c fs)) (hc : c ∈ cs) (hl : fs.length < 1000) : setFld f cs v (.ref h) env own = .nx env (own.set h (.ins c (putFD f v fs))) := by
  simp only [setFld, e]
  exact if_pos ⟨hc, hl⟩
theorem addO_ev {d e : D} {xs ys : List D} (h1 : lstD own d = some xs) (h2 : lstD own e = some ys) (hl : xs.length + ys.length ≤ 1000000) : addO d e own = .ok (.ref own.length) (own ++ [.lst (xs ++ ys)]) := by
  simp only [addO, h1, h2]
  exact if_pos hl
end
end Mi

set_option Elab.async false
set_option linter.all false
set_option maxRecDepth 100000
set_option maxHeartbeats 4000000
namespace Mi
open PySem L2
/-! ### books: the plain part -/
abbrev Hd := Str × Str
abbrev hdD (h : Hd) : D := .tup [.str h.1, .str h.2]
def wt (h : Hd) : Nat := h.1.length + h.2.length + 8
def szH (l : List Hd) : Nat := (l.map wt).sum
/-- what a scan from the front lets by -/
def fit0 : Nat → List Hd → Nat → List Hd
  | _, [], _ => []
  | s, h :: t, m => if m < s + wt h then [] else h :: fit0 (s + wt h) t m
theorem szH_snoc (l : List Hd) (x : Hd) : szH (l ++ [x]) = szH l + wt x := by simp [szH]
theorem fit0_all : ∀ (l : List Hd) (s m : Nat), s + szH l ≤ m → fit0 s l m = l
  | [], _, _, _ => rfl
  | h :: t, s, m, hm => by
    have e : szH (h :: t) = wt h + szH t := by simp [szH]
    rw [fit0, if_neg (by omega), fit0_all t _ m (by omega)]
theorem fit0_snoc : ∀ (l : List Hd) (x : Hd) (s m : Nat), m < s + szH (l ++ [x]) → fit0 s (l ++ [x]) m = fit0 s l m
  | [], x, s, m, h => by
    have e : szH ([] ++ [x]) = wt x := by simp [szH]
    rw [e] at h
    show (if m < s + wt x then [] else _) = []
    exact if_pos h
  | y :: t, x, s, m, h => by
    have e : szH (y :: t ++ [x]) = wt y + szH (t ++ [x]) := by simp [szH]
    rw [List.cons_append, fit0, fit0]
    split
    · rfl
    · rw [fit0_snoc t x _ m (by omega)]
theorem fit0_len : ∀ (l : List Hd) (s m : Nat), (fit0 s l m).length ≤ l.length
  | [], _, _ => Nat.le_refl _
  | h :: t, s, m => by
    rw [fit0]
    split
    · simp
    · have := fit0_len t (s + wt h) m; simp; omega
theorem fit0_mem : ∀ (l : List Hd) (s m : Nat) (x : Hd), x ∈ fit0 s l m → x ∈ l
  | h :: t, s, m, x, hx => by
    rw [fit0] at hx
    split at hx
    · cases hx
    · rcases List.mem_cons.mp hx with rfl | hx
      · exact List.mem_cons_self
      · exact List.mem_cons_of_mem _ (fit0_mem t _ m x hx)
end Mi

set_option Elab.async false
set_option linter.all false
set_option maxRecDepth 100000
set_option maxHeartbeats 4000000
namespace Mi
open PySem L2
/-! ### what stands at a handle, told once it is known -/
section
variable {env : Env} {own : Own} {h : Nat}
def lsO : Option Ob → Option (List D)
  | some (.lst xs) => some xs
  | _ => none
theorem lsO_l {xs : List D} : lsO (some (.lst xs)) = some xs := rfl
theorem lst_r : lstD own (.ref h) = lsO own[h]? := rfl
theorem lst_l {xs : List D} : lstD own (.lst xs) = some xs := rfl
theorem seq_r : seqD own (.ref h) = lsO own[h]? := rfl
theorem row_r : rowD own (.ref h) = lsO own[h]? := rfl
theorem row_frz {xs : List D} : rowD own (.frz xs) = some xs := rfl
def lenO (o : Option Ob) (own : Own) : R D := match o with
  | some (.lst xs) => .ok (.int xs.length) own
  | some (.dct kvs) => .ok (.int kvs.length) own
  | _ => .bad
theorem len_r : lenF [.ref h] own = lenO own[h]? own := rfl
theorem lenO_l {xs : List D} : lenO (some (.lst xs)) own = .ok (.int xs.length) own := rfl
theorem lenO_d {xs : List (Key × D)} : lenO (some (.dct xs)) own = .ok (.int xs.length) own := rfl
def appO (o : Option Ob) (h : Nat) (y : D) (own : Own) : R D := match o with
  | some (.lst xs) => if xs.length < 1000000 then .ok .non (own.set h (.lst (xs ++ [y]))) else .bad
  | _ => .bad
theorem app_r {y : D} : appF (.ref h) [y] own = appO own[h]? h y own := rfl
theorem appO_l {xs : List D} {y : D} : appO (some (.lst xs)) h y own = if xs.length < 1000000 then .ok .non (own.set h (.lst (xs ++ [y]))) else .bad := rfl
def addL (a b : Option (List D)) (own : Own) : R D := match a, b with
  | some i, some j => if i.length + j.length ≤ 1000000 then .ok (.lst (i ++ j)) own else .bad
  | _, _ => .bad
theorem addL_ev {i j : List D} : addL (some i) (some j) own = if i.length + j.length ≤ 1000000 then .ok (.lst (i ++ j)) own else .bad := rfl
theorem add_r1 {e : D} : addF (.ref h) e own = addL (lsO own[h]?) (lstD own e) own := rfl
theorem add_r2 {xs : List D} : addF (.lst xs) (.ref h) own = addL (some xs) (lsO own[h]?) own := rfl
def addLO (a b : Option (List D)) (own : Own) : R D := match a, b with
  | some xs, some ys => if xs.length + ys.length ≤ 1000000 then .ok (.ref own.length) (own ++ [.lst (xs ++ ys)]) else .bad
  | _, _ => .bad
theorem addO_r {d e : D} : addO d e own = addLO (lstD own d) (lstD own e) own := rfl
theorem addLO_ev {xs ys : List D} : addLO (some xs) (some ys) own = if xs.length + ys.length ≤ 1000000 then .ok (.ref own.length) (own ++ [.lst (xs ++ ys)]) else .bad := rfl
def pkI {α : Type} (o : Option α) (own : Own) : R α := match o with
  | some v => .ok v own
  | none => .bad
theorem pk_some {α : Type} {v : α} : pkI (some v) own = .ok v own := rfl
theorem ixP_lst {ds : List D} {i : Int} : ixF (.lst ds) (.int i) own = pkI (atI ds i) own := by rw [ix_lst]; cases atI ds i <;> rfl
theorem ixP_tup {ds : List D} {i : Int} : ixF (.tup ds) (.int i) own = pkI (atI ds i) own := by rw [ix_tup]; cases atI ds i <;> rfl
theorem ixP_frz {ds : List D} {i : Int} : ixF (.frz ds) (.int i) own = pkI (atI ds i) own := by rw [ix_frz]; cases atI ds i <;> rfl
def ixL (o : Option (List D)) (i : Int) (own : Own) : R D := match o with
  | some ds => pkI (atI ds i) own
  | none => .bad
theorem ix_r {i : Int} : ixF (.ref h) (.int i) own = ixL (lsO own[h]?) i own := by
  show (match rowD own (.ref h) with | some ds => (match atI ds i with | some v => R.ok v own | none => .bad) | none => .bad) = _
  rw [row_r]
  cases lsO own[h]? with
  | none => rfl
  | some ds => show (match atI ds i with | some v => R.ok v own | none => .bad) = pkI (atI ds i) own; cases atI ds i <;> rfl
theorem ixL_ev {ds : List D} {i : Int} : ixL (some ds) i own = pkI (atI ds i) own := rfl
def slL (o : Option (List D)) (lo hi : Option Int) (own : Own) : R D := match o with
  | some xs => .ok (.lst (cutD xs lo hi)) own
  | none => .bad
theorem sl_r {lo hi : Option Int} : slF (.ref h) lo hi own = slL (lsO own[h]?) lo hi own := rfl
theorem slL_ev {xs : List D} {lo hi : Option Int} : slL (some xs) lo hi own = .ok (.lst (cutD xs lo hi)) own := rfl
def itO (o : Option Ob) (h : Nat) (own : Own) : R Wk := match o with
  | some (.lst xs) => .ok (xs, [(h, .lst xs)]) own
  | _ => .bad
theorem it_r : itD (.ref h) own = itO own[h]? h own := rfl
theorem itO_l {xs : List D} : itO (some (.lst xs)) h own = .ok (xs, [(h, .lst xs)]) own := rfl
theorem it_frz {xs : List D} : itD (.frz xs) own = .ok (xs, []) own := rfl
def tupL (o : Option (List D)) (own : Own) : R D := match o with
  | some xs => .ok (.tup xs) own
  | none => .bad
theorem tuple_r : tupleF [.ref h] own = tupL (lsO own[h]?) own := rfl
theorem tupL_ev {xs : List D} : tupL (some xs) own = .ok (.tup xs) own := rfl
def lstL (o : Option (List D)) (own : Own) : R D := match o with
  | some xs => .ok (.lst xs) own
  | none => .bad
theorem list_r {d : D} : listF [d] own = lstL (rowD own d) own := rfl
theorem lstL_ev {xs : List D} : lstL (some xs) own = .ok (.lst xs) own := rfl
def lstOL (o : Option (List D)) (own : Own) : R D := match o with
  | some xs => .ok (.ref own.length) (own ++ [.lst xs])
  | none => .bad
theorem listO_r {d : D} : listO [d] own = lstOL (rowD own d) own := rfl
theorem lstOL_ev {xs : List D} : lstOL (some xs) own = .ok (.ref own.length) (own ++ [.lst xs]) := rfl
theorem seq1_ev {d : D} : seq1 [d] own = seqD own d := rfl
def sumL (o : Option (List D)) (own : Own) : R D := match o.bind intsD with
  | some ns => .ok (.int ns.sum) own
  | none => .bad
def allL (o : Option (List D)) (own : Own) : R D := match o.bind blsD with
  | some ns => .ok (.bl (ns.all id)) own
  | none => .bad
def anyL (o : Option (List D)) (own : Own) : R D := match o.bind blsD with
  | some ns => .ok (.bl (ns.any id)) own
  | none => .bad
def sortL (o : Option (List D)) (own : Own) : R D := match o.bind intsD with
  | some ns => .ok (.lst ((srt ns).map D.int)) own
  | none => .bad
theorem sum_r {d : D} : sumF [d] own = sumL (seqD own d) own := rfl
theorem all_r {d : D} : allF [d] own = allL (seqD own d) own := rfl
theorem any_r {d : D} : anyF [d] own = anyL (seqD own d) own := rfl
theorem sort_r {d : D} : sortedF [d] own = sortL (seqD own d) own := rfl
theorem sumL_ev {ns : List Int} : sumL (some (ns.map D.int)) own = .ok (.int ns.sum) own := by unfold sumL; rw [Option.bind_some, intsD_map]
theorem allL_ev {ns : List Bool} : allL (some (ns.map D.bl)) own = .ok (.bl (ns.all id)) own := by unfold allL; rw [Option.bind_some, blsD_map]
theorem anyL_ev {ns : List Bool} : anyL (some (ns.map D.bl)) own = .ok (.bl (ns.any id)) own := by unfold anyL; rw [Option.bind_some, blsD_map]
theorem sortL_ev {ns : List Int} : sortL (some (ns.map D.int)) own = .ok (.lst ((srt ns).map D.int)) own := by unfold sortL; rw [Option.bind_some, intsD_map]
theorem sumL_mp {α : Type} {l : List α} {f : α → Int} : sumL (some (l.map fun a => D.int (f a))) own = .ok (.int (l.map f).sum) own := by
  have := sumL_ev (ns := l.map f) (own := own); rwa [List.map_map] at this
theorem allL_mp {α : Type} {l : List α} {f : α → Bool} : allL (some (l.map fun a => D.bl (f a))) own = .ok (.bl (l.all f)) own := by
  have := allL_ev (ns := l.map f) (own := own); rw [List.map_map, all_map_bl] at this; exact this
theorem anyL_mp {α : Type} {l : List α} {f : α → Bool} : anyL (some (l.map fun a => D.bl (f a))) own = .ok (.bl (l.any f)) own := by
  have := anyL_ev (ns := l.map f) (own := own); rw [List.map_map, any_map_bl] at this; exact this
def isiO (U : String) (o : Option Ob) (own : Own) : R D := match o with
  | some (.lst _) => .ok (.bl (isiB "list" U)) own
  | _ => .bad
theorem isi_r {U : String} {xs : List D} (e : own[h]? = some (.lst xs)) : isiF U (.ref h) own = .ok (.bl (isiB "list" U)) own := isi_ref e
/-! objects -/
def fldO (f : Str) (cs : List Nat) (o : Option Ob) (own : Own) : R D := match o with
  | some (.ins c fs) => if c ∈ cs then (match fs.lookup f with
      | some v => .ok v own
      | none => .bad) else .bad
  | _ => .bad
theorem fld_r {f : Str} {cs : List Nat} : fldF f cs (.ref h) own = fldO f cs own[h]? own := rfl
theorem fldO_ev {f : Str} {cs : List Nat} {c : Nat} {fs : List (Str × D)} {v : D} (hc : c ∈ cs) (hf : fs.lookup f = some v) : fldO f cs (some (.ins c fs)) own = .ok v own := by
  unfold fldO; simp only [hf]; exact if_pos hc
def setO (f : Str) (cs : List Nat) (v : D) (o : Option Ob) (h : Nat) (env : Env) (own : Own) : RS := match o with
  | some (.ins c fs) => if c ∈ cs ∧ fs.length < 1000 then .nx env (own.set h (.ins c (putFD f v fs))) else .bad
  | _ => .bad
theorem set_r {f : Str} {cs : List Nat} {v : D} : setFld f cs v (.ref h) env own = setO f cs v own[h]? h env own := rfl
theorem setO_ev {f : Str} {cs : List Nat} {v : D} {c : Nat} {fs fs' : List (Str × D)} (hc : c ∈ cs) (hl : fs.length < 1000) (hp : putFD f v fs = fs') : setO f cs v (some (.ins c fs)) h env own = .nx env (own.set h (.ins c fs')) := by
  subst hp; exact if_pos ⟨hc, hl⟩
def methO (c : Nat) (mn : Str) (n : Nat) (F : MF) (o : Option Ob) (h : Nat) (ms : M (List D)) (env : Env) (own : Own) : R D := match o with
  | some (.ins c' fs) => if c' = c ∧ fs.lookup mn = none then (ms env own).bind fun ds o => callF n F (.ref h :: ds) o else .bad
  | _ => .bad
theorem meth_r {c : Nat} {mn : Str} {n : Nat} {F : MF} {ms : M (List D)} : methR c mn n F (.ref h) ms env own = methO c mn n F own[h]? h ms env own := rfl
theorem methO_ev {c : Nat} {mn : Str} {n : Nat} {F : MF} {ms : M (List D)} {fs : List (Str × D)} (hl : fs.lookup mn = none) : methO c mn n F (some (.ins c fs)) h ms env own = (ms env own).bind fun ds o => callF n F (.ref h :: ds) o := if_pos ⟨rfl, hl⟩
def nonK (d : D) (h : Nat) (own : Own) : R D := match d with
  | .non => .ok (.ref h) own
  | _ => .bad
theorem nonK_ev : nonK .non h own = .ok (.ref h) own := rfl
theorem make_r {c n : Nat} {F : MF} {ms : M (List D)} : mMake c n F ms env own = (ms env own).bind fun ds o => (callF n F (.ref o.length :: ds) (o ++ [.ins c []])).bind fun d o' => nonK d o.length o' := rfl
theorem ite_t {α : Type} {c : Prop} [Decidable c] {a b : α} (hc : c) : (if c then a else b) = a := if_pos hc
theorem ite_f {α : Type} {c : Prop} [Decidable c] {a b : α} (hc : ¬ c) : (if c then a else b) = b := if_neg hc
def bmO (f : D → List D → Own → R D) (o : Option (List D)) (d : D) (ms : M (List D)) (env : Env) (own : Own) : R D := match o with
  | some _ => (ms env own).bind fun ds o => f d ds o
  | none => .bad
theorem bm_ev {f : D → List D → Own → R D} {ma : M D} {ms : M (List D)} : mBm f ma ms env own = (ma env own).bind fun d o => bmO f (seqD o d) d ms env o := rfl
theorem bmO_ev {f : D → List D → Own → R D} {xs : List D} {d : D} {ms : M (List D)} : bmO f (some xs) d ms env own = (ms env own).bind fun ds o => f d ds o := rfl
theorem runP_ev {n : Nat} {m : MS} {ds : List D} : runP n m ds own = trP own (endF (m (ds.map some ++ List.replicate (n - ds.length) none) own)) := rfl
theorem trP_ok {d d' : D} {o : Own} (h1 : o.take own.length = own) (h2 : cln own.length o d = some d') : trP own (.ok d o) = .ok d' own := by
  unfold trP; simp only [h1, h2, if_true]
theorem trP_exc {c : Nat} {o : Own} (h1 : o.take own.length = own) : trP own (.exc c o) = .exc c own := by
  unfold trP; simp only [h1, if_true]
mutual
theorem D.lt_mono : ∀ (d : D) {n m : Nat}, d.lt n = true → n ≤ m → d.lt m = true
  | .ref h, n, m, hd, hm => by simp only [D.lt, decide_eq_true_eq] at hd ⊢; omega
  | .tup xs, n, m, hd, hm => by simp only [D.lt] at hd ⊢; exact ltAll_mono xs hd hm
  | .lst xs, n, m, hd, hm => by simp only [D.lt] at hd ⊢; exact ltAll_mono xs hd hm
  | .frz xs, n, m, hd, hm => by simp only [D.lt] at hd ⊢; exact ltAll_mono xs hd hm
  | .non, n, m, hd, hm => by simp only [D.lt]
  | .bl _, n, m, hd, hm => by simp only [D.lt]
  | .int _, n, m, hd, hm => by simp only [D.lt]
  | .str _, n, m, hd, hm => by simp only [D.lt]
theorem ltAll_mono : ∀ (ds : List D) {n m : Nat}, ltAll n ds = true → n ≤ m → ltAll m ds = true
  | [], n, m, hd, hm => by simp only [ltAll]
  | d :: ds, n, m, hd, hm => by simp only [ltAll, Bool.and_eq_true] at hd ⊢; exact ⟨D.lt_mono d hd.1 hm, ltAll_mono ds hd.2 hm⟩
end
mutual
theorem D.pn_lt : ∀ (d : D) (n : Nat), d.pn = true → d.lt n = true
  | .ref h, n, hd => by simp [D.pn] at hd
  | .tup xs, n, hd => by simp only [D.lt]; exact pnAll_lt xs n (by simpa [D.pn] using hd)
  | .lst xs, n, hd => by simp only [D.lt]; exact pnAll_lt xs n (by simpa [D.pn] using hd)
  | .frz xs, n, hd => by simp [D.pn] at hd
  | .non, n, hd => by simp only [D.lt]
  | .bl _, n, hd => by simp only [D.lt]
  | .int _, n, hd => by simp only [D.lt]
  | .str _, n, hd => by simp only [D.lt]
theorem pnAll_lt : ∀ (ds : List D) (n : Nat), pnAll ds = true → ltAll n ds = true
  | [], n, hd => by simp only [ltAll]
  | d :: ds, n, hd => by simp only [pnAll, Bool.and_eq_true] at hd; simp only [ltAll, Bool.and_eq_true]; exact ⟨D.pn_lt d n hd.1, pnAll_lt ds n hd.2⟩
end
theorem trP_ok0 {d : D} {o : Own} (h1 : o.take own.length = own) (h2 : d.lt 0 = true) : trP own (.ok d o) = .ok d own := trP_ok h1 (by
  unfold cln
  rw [if_pos (D.lt_mono d h2 (Nat.zero_le _))])
theorem trP_ref {k : Nat} {xs : List D} {o : Own} (h1 : o.take own.length = own) (hk : own.length ≤ k) (h2 : o[k]? = some (.lst xs)) (h3 : ltAll 0 xs = true) : trP own (.ok (.ref k) o) = .ok (.lst xs) own := trP_ok h1 (by
  unfold cln
  rw [if_neg (by simp only [D.lt, decide_eq_true_eq]; omega)]
  simp only [h2]
  exact if_pos ⟨hk, ltAll_mono xs h3 (Nat.zero_le _)⟩)
theorem take_app {z : Own} : (own ++ z).take own.length = own := by simp
theorem setI {f : Str} {cs : List Nat} {v : D} {c : Nat} {fs : List (Str × D)} : setO f cs v (some (.ins c fs)) h env own = if c ∈ cs ∧ fs.length < 1000 then .nx env (own.set h (.ins c (putFD f v fs))) else .bad := rfl
theorem eq_r1 {e : D} {xs : List D} (eh : own[h]? = some (.lst xs)) : eqF (.ref h) e own = eqF (.lst xs) e own := by
  unfold eqF
  have : sclEq (.ref h) e = sclEq (.lst xs) e := by cases e <;> rfl
  rw [this]
  simp only [toPyT, eh, toPy]
theorem eq_r2 {e : D} {xs : List D} (eh : own[h]? = some (.lst xs)) : eqF e (.ref h) own = eqF e (.lst xs) own := by
  unfold eqF
  have : sclEq e (.ref h) = sclEq e (.lst xs) := by cases e <;> rfl
  rw [this]
  simp only [toPyT, eh, toPy]
end
end Mi

set_option Elab.async false
set_option linter.all false
set_option maxRecDepth 100000
set_option maxHeartbeats 4000000
namespace Mi
open PySem PySem.Spec PyProof.Rows L2 HotX LamX Ws
/-! ### a text, a tuple so many times -/
noncomputable def mulSF (d e : D) (own : Own) : R D := match d, e with
  | .str x, .int n => if cB (0 ≤ n ∧ n ≤ 1000000 ∧ x.length * n.toNat ≤ 1000000) = true then .ok (.str (Txt.mul x n)) own else .bad
  | _, _ => .bad
noncomputable def mulTF (d e : D) (own : Own) : R D := match d, e with
  | .tup x, .int n => if cB (2 ≤ n ∧ n ≤ 1000 ∧ x.length ≤ 1000) = true then (if x.isEmpty then .bad else .ok (.tup (List.replicate n.toNat x).flatten) own) else .bad
  | _, _ => .bad
abbrev rRepS : R2 := fun x y H Q => ∃ i n, x = .str i ∧ y = .int n ∧ 0 ≤ n ∧ n ≤ 1000000 ∧ i.length * n.toNat ≤ 1000000 ∧ Q (.str (Txt.mul i n)) H
section
variable {X : Cx} {C : Cn} {E : XK}
theorem op_repS : OpR X (binaryOp .Mult) rRepS := by
  intro pins s σ H x y v u Q I rx ry h
  obtain ⟨i, n, rfl, rfl, h0, h1, h2, q⟩ := h
  obtain ⟨t, rfl⟩ := rx
  obtain ⟨t', rfl⟩ := ry
  refine SB.mul ⟨?_, ?_, ?_⟩ (fun t' k => ⟨.str _, H, I.tok _, ⟨_, rfl⟩, q⟩)
  · rw [decide_eq_false (by omega), decide_eq_false (by omega)]; rfl
  · intro z1 z2 z3
    have z4 : (2 ^ 63 - 1) / n * 1 ≥ 9223372036854 := by
      rw [Int.mul_one]
      exact (Int.le_ediv_iff_mul_le (by omega)).mpr (by omega)
    have z5 : i.length ≤ i.length * n.toNat := Nat.le_mul_of_pos_right _ (by omega)
    omega
  · intro _ _
    have : sizeLine = sizeLine := rfl
    unfold Builtin.Str.tooLong
    exact decide_eq_false (by have := (szM (n := i.length * n.toNat) h2); omega)
theorem ad_mulS : Ad2 C E rRepS mulSF := by
  intro ι own H x y d e Q r rx ry p
  unfold mulSF at p
  split at p
  · cases rx; cases ry
    split at p
    · rename_i hz; rw [cB_iff] at hz; exact ⟨_, _, rfl, rfl, hz.1, hz.2.1, hz.2.2, p.here r (.str _)⟩
    · exact p.elim
  · exact p.elim
theorem oa_mulT (K : PySem.W.Frag) (h : X.K = K := by rfl) : OpR X (binaryOp .Mult) (rRepT K) := by subst h; exact op_repT
theorem ad_mulT : Ad2 C E (rRepT C.K) mulTF := by
  intro ι own H x y d e Q r rx ry p
  unfold mulTF at p
  split at p
  · rename_i xs n
    cases rx with
    | tup hs ha =>
    rename_i a vs
    cases ry
    split at p
    · rename_i hz
      rw [cB_iff] at hz
      split at p
      · exact p.elim
      · rename_i hne
        refine ⟨a, n, vs, rfl, rfl, sqt_sub fz_sub hs, ?_, hz.1, hz.2.1, by rw [ha.len]; exact hz.2.2, fun q hq => p.newT r ?_ hq⟩
        · rintro rfl
          cases ha
          exact hne rfl
        · generalize n.toNat = k
          clear p hz hq
          induction k with
          | zero => exact .nil
          | succ n ih => rw [List.replicate_succ, List.replicate_succ, List.flatten_cons, List.flatten_cons]; exact ha.append ih
    · exact p.elim
  · exact p.elim
end
section
variable {own : Own}
theorem mulS_ev {x : Str} {n : Int} : mulSF (.str x) (.int n) own = if cB (0 ≤ n ∧ n ≤ 1000000 ∧ x.length * n.toNat ≤ 1000000) = true then .ok (.str (Txt.mul x n)) own else .bad := rfl
theorem mulT_ev {x : List D} {n : Int} : mulTF (.tup x) (.int n) own = if cB (2 ≤ n ∧ n ≤ 1000 ∧ x.length ≤ 1000) = true then (if x.isEmpty then .bad else .ok (.tup (List.replicate n.toNat x).flatten) own) else .bad := rfl
theorem txt_mul1 {c : Nat} {n : Int} (h : 0 ≤ n) : Txt.mul ⟨#[c]⟩ n = ⟨(List.replicate n.toNat c).toArray⟩ := by
  have hf : ∀ (k : Nat) (a : Array Nat), (List.replicate k #[c]).foldl (· ++ ·) a = a ++ (List.replicate k c).toArray := by
    intro k
    induction k with
    | zero => intro a; simp
    | succ k ih => intro a; rw [List.replicate_succ, List.foldl_cons, ih, List.replicate_succ]; apply Array.toList_inj.mp; simp
  unfold Txt.mul
  by_cases h1 : n < 1
  · rw [if_pos h1]
    have : n = 0 := by omega
    subst this
    rfl
  · rw [if_neg h1]
    by_cases h2 : n = 1
    · subst h2; rfl
    · rw [if_neg (by simp only [Bool.or_eq_true, beq_iff_eq]; rintro (z | z); exact h2 z; cases z)]
      have := hf n.toNat #[]
      simp only [Array.empty_append] at this
      rw [this]
end
end Mi

set_option Elab.async false
set_option linter.all false
set_option maxRecDepth 100000
set_option maxHeartbeats 4000000
namespace Mi
open PySem PySem.Spec PyProof.Rows L2 HotX LamX Ws
/-! ### a def that is known by another name -/
structure DefAs (K : PySem.W.Frag) (mg : Str → Option Value) (y x : Str) (st : Stmt) : Prop where
  ex : ∃ (f : Addr) (fd : FuncData), Fun K x x st f fd ∧ mg y = some (.ref f)
theorem fnAs {P : Program} {w : World} {K : PySem.W.Frag} {mg : Str → Option Value} {base : Heap} {C : Cn} {y x : Str} {st : Stmt} {ps N : List Str} {k : Nat} {m : MS} (D : DefAs K mg y x st)
    (hb : ∀ (kV doc pm : Value) (an : Option Addr) (cdv ct : Value) (us : List Value), us.length = ps.length → bindArgs (PySem.W.fnOf x x (defArgs st) (defBody st) (defScope st) .none kV doc pm an cdv ct) ⟨us, []⟩ = pure (ps.zip us)) (S : FnScope N ps (defScope st))
    (hbody : ∀ (f : Addr) (cdv : Value) (A : Around) (outer : List PySem.Env) (s : Shared) (H : Hp) (E : XK), Room k (A.deeper (envOfC x (defScope st) s.heap.objs.size f cdv)) → PSs (cxOf (L2N.CX P w) P w K mg base N x (defScope st) f cdv A outer s H E) (defBody st) (lS C E m)) :
    Fn P w K mg base (k + 1) y (spM C ps.length (runF N.length m)) := by
  obtain ⟨f, fd, F, hm⟩ := D.ex
  exact ⟨f, fd, ps, okN F S (fun vs H Q E h => spM_len h) fun cdv A outer s H vs Q E hr h => ⟨_, hbody f cdv A outer s H E hr, spM_body h⟩, hm, F.kp, F.binds hb⟩
end Mi

set_option Elab.async false
set_option linter.all false
set_option maxRecDepth 100000
set_option maxHeartbeats 4000000
namespace Mi
open PySem PySem.Spec PyProof.Rows L2 HotX LamX Ws
/-! ### sorted(dict), min(list, default=number), list.pop() -/
def keysI : List (Key × D) → Option (List Int)
  | [] => some []
  | (.inl i, _) :: r => (keysI r).map (i :: ·)
  | _ => none
def sortedDF (ds : List D) (own : Own) : R D := match ds with
  | [d] => (match (dctD own d).bind keysI with
    | some ks => if ks.length < 64 then .ok (.lst ((srt ks).map D.int)) own else .bad
    | none => .bad)
  | _ => .bad
def minO (d : Int) : List Int → Int
  | [] => d
  | n :: r => r.foldl min n
def minDF (ds es : List D) (own : Own) : R D := match ds, es with
  | [d], [.int z] => (match (seqD own d).bind intsD with
    | some ns => .ok (.int (minO z ns)) own
    | none => .bad)
  | _, _ => .bad
def mLK (f : List D → List D → Own → R D) (a b : M (List D)) : M D := mB a fun ds => mB b fun es _ own => f ds es own
def rSortD : List V → Hp → VK → Prop := fun xs H Q => ∃ (a : Addr) (kvs : List (Key × V)) (ks : List Int), xs = [.ref a] ∧ Rd H a (.dK kvs) ∧ kvs.map (·.1) = ks.map Sum.inl ∧ ks.length < 64 ∧
    ∀ (ys : List Int) (p : Addr), ys.Perm ks → ys.Pairwise (· ≤ ·) → H p = none → Q (.ref p) (upd H p (.lst (ys.map V.int)))
def rMinD (K : PySem.W.Frag) : List V → List V → Hp → VK → Prop := fun xs zs H Q => ∃ (a : Addr) (ns : List Int) (d : Int), xs = [.ref a] ∧ zs = [.int d] ∧ SqL K H a (ns.map V.int) ∧ Q (.int (minO d ns)) H
section
variable {X : Cx} {C : Cn} {E : XK} {a : Expr} {ma : M D} {apos cpos pos p : Pos} {es : List Expr} {kws : List Keyword} {ms mk : M (List D)}
theorem keysI_ok : ∀ {kvs : List (Key × D)} {ks : List Int}, keysI kvs = some ks → kvs.map (·.1) = ks.map Sum.inl
  | [], ks, h => by cases h; rfl
  | (.inl i, d) :: r, ks, h => by
    unfold keysI at h
    obtain ⟨l, h1, rfl⟩ := Option.map_eq_some_iff.mp h
    simp [keysI_ok h1]
  | (.inr i, d) :: r, ks, h => by simp [keysI] at h
theorem kv_keys {κ : Type} {K : PySem.W.Frag} {ω : Hp} {ι : List Addr} : ∀ {fs : List (κ × V)} {gs : List (κ × D)}, RpKV K ω ι fs gs → fs.map (·.1) = gs.map (·.1)
  | _, _, .nil => rfl
  | _, _, .cons h t => by simp [h.1, kv_keys t]
theorem kc_sortD (hc : X.calm = true) : CallR X (.builtin "sorted") rSortD := call_sortedDI hc
theorem ad_sortD : AdL C E rSortD sortedDF := by
  intro ι own H xs ds Q r ra p
  unfold sortedDF at p
  split at p
  · rename_i d
    split at p
    · rename_i ks e
      split at p
      · rename_i hz
        obtain ⟨kvs, e1, e2⟩ := Option.bind_eq_some_iff.mp e
        rcases ra with _ | ⟨rx, ⟨⟩⟩
        obtain ⟨h, a, kvs', rfl, h1, rfl, h2, h3, h4⟩ := dct_ok r rx e1
        refine ⟨a, kvs', ks, rfl, h3, by rw [kv_keys h4]; exact keysI_ok e2, hz, fun ys q hp hs hq => ?_⟩
        rw [srt_of hp hs]
        exact p.newL r (.ints _) hq
      · exact p.elim
    · exact p.elim
  · exact p.elim
theorem reads_ints {h : Heap} : ∀ {ns : List Int} {us : List Value}, Vals (ns.map V.int) us → ReadsAll h us (ns.map PyData.int) []
  | [], _, .nil => .nil
  | n :: r, _, .cons x t => by
    obtain ⟨t', rfl⟩ := x
    have := ReadsAll.cons (Reads.int (h := h) n t') (reads_ints t)
    exact this
theorem dp_ints : ∀ ns : List Int, PyData.depthAll (ns.map PyData.int) = 0
  | [] => rfl
  | n :: r => by simp [PyData.depthAll, PyData.depth, dp_ints r]
theorem kc_minD (K : PySem.W.Frag) (hc : X.calm = true) (hu : X.A.units + 1 < cLine) (h : X.K = K := by rfl) : CallRK X (.builtin "min") [Str.ofString "default"] (rMinD K) := by
  subst h
  intro pins s σ H xs zs us ws Q I rx rz h
  obtain ⟨a, ns, d, rfl, rfl, hs, q⟩ := h
  obtain ⟨its, rv, hl, _⟩ := I.list hs
  rw [Vals.ref1 rx]
  obtain ⟨t, rfl⟩ : ∃ t, ws = [.int d t] := by
    rcases rz with _ | ⟨⟨t, rfl⟩, ⟨⟩⟩
    exact ⟨t, rfl⟩
  have hdp : PyData.depthAll (ns.map PyData.int) = 0 := by
    exact dp_ints ns
  refine PySem.W.min_list_default (I.ok.hd hc) hl.isList (xs := ns.map PyData.int) (as := []) (by simpa using reads_ints rv) ⟨fun x hx y hy => by obtain ⟨i, _, rfl⟩ := List.mem_map.mp hx; obtain ⟨j, _, rfl⟩ := List.mem_map.mp hy; simp [PySem.W.alike], fun x hx => by obtain ⟨i, _, rfl⟩ := List.mem_map.mp hx; exact fun z => by cases z⟩ (by rw [hdp]; omega) (fun e h' tk hk => ?_) (fun y ys i v h' tk bs e hi r hk => ?_)
  · have : ns = [] := by simpa using e
    subst this
    exact ⟨.int d, H, I.kept hk, ⟨t, rfl⟩, q⟩
  · cases ns with
    | nil => cases e
    | cons n l =>
      simp only [List.map_cons, List.cons.injEq] at e
      obtain ⟨rfl, rfl⟩ := e
      rw [PySem.W.minD_ints] at r
      cases r with
      | int i t => exact ⟨.int _, H, I.kept hk, ⟨t, rfl⟩, q⟩
theorem me_minD (hc : X.calm = true) (hu : X.A.units + 1 < cLine) (hm : X.mg "min" = none) (ha : PA X (a :: es) (lA C E ms)) (hk : PK X kws (lA C E mk)) (hg : Gl X "min" := by rfl)
    (he : backTo pos (starEach (a :: es) X.env) = (false, eval a X.env) :: backTo pos (starEach es X.env) := by rfl) (hpl : (backTo pos (starEach (a :: es) X.env)).any (·.1) = false := by rfl)
    (hall : (backToKw pos (keywordEach kws X.env)).all (·.1.isSome) = true := by rfl) (hnone : (backToKw pos (keywordEach kws X.env)).any (·.1.isNone) = false := by rfl) (hks : (backToKw pos (keywordEach kws X.env)).filterMap (·.1) = [Str.ofString "default"] := by rfl) (hX : X.K = C.K := by rfl) :
    PE X (.Call (.Name "min" p) (a :: es) kws pos) (lE C E (mLK minDF ms mk)) := pe_w (pe_callBK (kc_minD C.K hc hu hX) hg hm (by decide +kernel) ha hk (by decide) (by decide) he hpl hall hnone hks) fun σ H Q h => by
  refine lf_imp (lf_bind h) ?_
  rintro xs H1 ⟨ι1, env1, own1, ds, A1, rx, p1⟩
  refine ⟨ι1, env1, own1, A1, p1.bind.imp ?_⟩
  rintro zs H2 ⟨ι2, own2, es', g2, r2, rz, p2⟩
  change Post _ _ _ _ _ (minDF ds es' own2) _ at p2
  unfold minDF at p2
  split at p2
  · rename_i d z
    split at p2
    · rename_i ns e
      obtain ⟨l, e1, e2⟩ := Option.bind_eq_some_iff.mp e
      rcases rx with _ | ⟨rx, ⟨⟩⟩
      rcases rz with _ | ⟨rz, ⟨⟩⟩
      cases rz
      obtain ⟨b, vs, rfl, h1, h2⟩ := seqD_ok r2 (rx.mono g2.sub g2.pre) e1
      rw [ints_ok h2 e2] at h1
      exact ⟨b, ns, z, rfl, rfl, h1, p2.here r2 (.int _)⟩
    · exact p2.elim
  · exact p2.elim
theorem mk_nil : PK X [] (lA C E mNil) := ⟨fun pos pins s σ H Q I h => pk_nil.run pos pins s σ H Q I (by
  obtain ⟨ι, env, own, A, p⟩ := h
  exact p.here A.r .nil)⟩
theorem mk_cons {kpos : Pos} {nm : Option Str} (ha : PE X a (lE C E ma)) (hr : PK X kws (lA C E mk)) : PK X (⟨nm, a, kpos⟩ :: kws) (lA C E (mCons ma mk)) := ⟨fun pos pins s σ H Q I h => (pk_cons ha hr).run pos pins s σ H Q I (by
  refine lf_imp (lf_bind h) ?_
  rintro x H1 ⟨ι1, env1, own1, d, A1, rx, p1⟩
  refine ⟨ι1, env1, own1, A1, p1.bind.imp ?_⟩
  rintro y H2 ⟨ι2, own2, e, g2, r2, ry, p2⟩
  exact p2.here r2 (.cons (rx.mono g2.sub g2.pre) ry))⟩
/-! xs.pop() -/
def mBm0 (f : D → List D → Own → R D) (ma : M D) : M D := mB ma fun d _ own => match seqD own d with
  | some _ => f d [] own
  | none => .bad
theorem k_bm0 (K : PySem.W.Frag) {T id : String} {name : Str} {r : V → List V → Hp → VK → Prop} {to : TE} (pa : PlainAttrs T) (slot : Slot T name id) (hty : typeOf (.builtin id) = pure (.type "method_descriptor")) (hm : MtR X id r) (ho : PE X a to) (h : X.K = K := by rfl)
    (hbase : attributeBase a name X.env (eval a X.env) = eval a X.env := by rfl) (hline : (apos.endLine == cpos.line) = true := by rfl) : PE X (.Call (.Attribute a name apos) [] [] cpos) (tBM0 K T r to) := by subst h; exact pe_bm0 pa slot hty hm ho hbase hline
theorem me_pop0 (ho : PE X a (lE C E ma)) (hX : X.K = C.K := by rfl) (hbase : attributeBase a "pop" X.env (eval a X.env) = eval a X.env := by rfl) (hline : (apos.endLine == cpos.line) = true := by rfl) :
    PE X (.Call (.Attribute a "pop" apos) [] [] cpos) (lE C E (mBm0 popF ma)) := pe_w (k_bm0 C.K PySem.F.plainAttrs_list PySem.F.slot_list_pop PySem.F.type_list_pop mt_pop ho hX hbase hline) fun σ H Q h => by
  refine lf_imp (lf_bind h) ?_
  rintro x H1 ⟨ι1, env1, own1, d, A1, rx, p1⟩
  split at p1
  · rename_i ys q
    obtain ⟨b, vs, rfl, h1, h2⟩ := seqD_ok A1.r rx q
    exact ⟨Or.inl ⟨rfl, vs, h1⟩, ad_pop ι1 own1 H1 _ [] d [] Q A1.r rx .nil p1⟩
  · exact p1.elim
end
/-! step by step -/
section
variable {env : Mi.Env} {own : Own} {h : Nat}
def dcO : Option Ob → Option (List (Key × D))
  | some (.dct kvs) => some kvs
  | some (.dlk kvs _) => some kvs
  | _ => none
theorem dct_r : dctD own (.ref h) = dcO own[h]? := rfl
theorem dcO_l {kvs : List (Key × D)} {o : HO} : dcO (some (.dlk kvs o)) = some kvs := rfl
theorem dcO_d {kvs : List (Key × D)} : dcO (some (.dct kvs)) = some kvs := rfl
def sortDO (o : Option (List Int)) (own : Own) : R D := match o with
  | some ks => if ks.length < 64 then .ok (.lst ((srt ks).map D.int)) own else .bad
  | none => .bad
theorem sortD_r {d : D} : sortedDF [d] own = sortDO ((dctD own d).bind keysI) own := rfl
theorem sortDO_ev {ks : List Int} : sortDO (some ks) own = if ks.length < 64 then .ok (.lst ((srt ks).map D.int)) own else .bad := rfl
theorem mLK_ev {f : List D → List D → Own → R D} {a b : M (List D)} : mLK f a b env own = (a env own).bind fun ds o => (b env o).bind fun es o => f ds es o := rfl
def minDO (z : Int) (o : Option (List Int)) (own : Own) : R D := match o with
  | some ns => .ok (.int (minO z ns)) own
  | none => .bad
theorem minD_r {d : D} {z : Int} : minDF [d] [.int z] own = minDO z ((seqD own d).bind intsD) own := rfl
theorem minDO_ev {z : Int} {ns : List Int} : minDO z (some ns) own = .ok (.int (minO z ns)) own := rfl
def bm0O (f : D → List D → Own → R D) (o : Option (List D)) (d : D) (own : Own) : R D := match o with
  | some _ => f d [] own
  | none => .bad
theorem bm0_ev {f : D → List D → Own → R D} {ma : M D} : mBm0 f ma env own = (ma env own).bind fun d o => bm0O f (seqD o d) d o := rfl
theorem bm0O_ev {f : D → List D → Own → R D} {xs : List D} {d : D} : bm0O f (some xs) d own = f d [] own := rfl
def popO (o : Option Ob) (h : Nat) (own : Own) : R D := match o with
  | some (.lst xs) => (match xs[xs.length - 1]? with
    | some y => .ok y (own.set h (.lst xs.dropLast))
    | none => .bad)
  | _ => .bad
theorem pop_r : popF (.ref h) [] own = popO own[h]? h own := rfl
theorem popO_ev {xs : List D} {y : D} : popO (some (.lst (xs ++ [y]))) h own = .ok y (own.set h (.lst xs)) := by
  unfold popO
  have : (xs ++ [y])[(xs ++ [y]).length - 1]? = some y := by simp
  simp only [this, List.dropLast_concat]
/-- dicts -/
def dinO (e : D) (o : Option (List (Key × D))) (own : Own) : R D := match o with
  | some kvs => (match e with
    | .non => .ok (.bl false) own
    | e => (match keyD e with
      | some k => .ok (.bl (valD kvs k).isSome) own
      | none => .bad))
  | none => .bad
theorem din_r {e d : D} : dinF e d own = dinO e (dctD own d) own := rfl
theorem dinO_i {i : Int} {kvs : List (Key × D)} : dinO (.int i) (some kvs) own = .ok (.bl (valD kvs (.inl i)).isSome) own := rfl
theorem dinO_n {kvs : List (Key × D)} : dinO .non (some kvs) own = .ok (.bl false) own := rfl
def dgO (o : Option D) (own : Own) : R D := match o with
  | some v => .ok v own
  | none => .bad
theorem dgO_s {v : D} : dgO (some v) own = .ok v own := rfl
def dgetO (o : Option (List (Key × D))) (k : Option Key) (own : Own) : R D := match o, k with
  | some kvs, some k => dgO (valD kvs k) own
  | _, _ => .bad
theorem dget_r {d e : D} : dgetF d e own = dgetO (dctD own d) (keyD e) own := by
  unfold dgetF dgetO
  cases dctD own d <;> cases keyD e <;> try rfl
theorem dgetO_ev {kvs : List (Key × D)} {k : Key} : dgetO (some kvs) (some k) own = dgO (valD kvs k) own := rfl
theorem key_i {i : Int} : keyD (.int i) = some (.inl i) := rfl
theorem key_s {s : Str} : keyD (.str s) = some (.inr s) := rfl
def putO (v e : D) (o : Option Ob) (h : Nat) (env : Mi.Env) (own : Own) : RS := match o with
  | some (.dct kvs) => (match keyD e with
    | some k => if kvs.length < 1000000 then .nx env (own.set h (.dct (putD kvs k v))) else .bad
    | none => .bad)
  | some (.lst xs) => (match e with
    | .int i => (match ixN xs.length i with
      | some j => .nx env (own.set h (.lst (xs.set j v)))
      | none => .bad)
    | _ => .bad)
  | _ => .bad
theorem put_r {v e : D} : putF' v (.ref h) e env own = putO v e own[h]? h env own := rfl
theorem putO_d {v : D} {i : Int} {kvs : List (Key × D)} : putO v (.int i) (some (.dct kvs)) h env own = if kvs.length < 1000000 then .nx env (own.set h (.dct (putD kvs (.inl i) v))) else .bad := rfl
def dpO (o : Option (List (Key × D))) (d : D) (me : M D) (env : Mi.Env) (own : Own) : R D := match o with
  | some _ => (me env own).bind fun e o => dpopF d e o
  | none => .bad
theorem dpop_ev {md me : M D} : mDpop md me env own = (md env own).bind fun d o => dpO (dctD o d) d me env o := rfl
theorem dpO_ev {kvs : List (Key × D)} {d : D} {me : M D} : dpO (some kvs) d me env own = (me env own).bind fun e o => dpopF d e o := rfl
def dpopO (o : Option (List (Key × D))) (k : Key) (h : Nat) (own : Own) : R D := match o with
  | some kvs => (match valD kvs k with
      | some v => .ok v (own.set h (.dct (dropD kvs k)))
      | none => .bad)
  | none => .bad
def dcW : Option Ob → Option (List (Key × D))
  | some (.dct kvs) => some kvs
  | _ => none
theorem dcW_d {kvs : List (Key × D)} : dcW (some (.dct kvs)) = some kvs := rfl
theorem dpop_r {i : Int} : dpopF (.ref h) (.int i) own = dpopO (dcW own[h]?) (.inl i) h own := by
  simp only [dpopF, keyD, dpopO, dcW]
  cases own[h]? with
  | none => rfl
  | some o => cases o <;> rfl
theorem dpopO_ev {kvs : List (Key × D)} {k : Key} {v : D} (e : valD kvs k = some v) : dpopO (some kvs) k h own = .ok v (own.set h (.dct (dropD kvs k))) := by
  simp only [dpopO, e]
theorem dnew_ev : mDNew env own = .ok (.ref own.length) (own ++ [.dct []]) := rfl
end
end Mi

set_option Elab.async false
set_option linter.all false
set_option maxRecDepth 100000
set_option maxHeartbeats 4000000
namespace Mi
open PySem PySem.Spec PyProof.Rows L2 HotX LamX Ws
/-! ### raise, where only some of the refusals stand in the module -/
structure Err1 (K : PySem.W.Frag) (mg : Str → Option Value) (c : Nat → Addr) (i : Nat) : Prop where
  g : mg (nmE i) = some (.ref (c i))
  cls : ∃ W, ErrC K (c i) W
theorem ms_raise1 {X : Cx} {C : Cn} {E : XK} {i : Nat} {nm : Str} {msg : Str} {j' : Nat} {q1 q2 q3 q4 : Pos} {E₁ : Value → Shared → Prop} {K : PySem.W.Frag} {mg : Str → Option Value} (T : Err1 K mg C.ec i) (hn : nm = nmE i) (hi : i < 6) (hc : X.calm = true) (eK : X.K = K) (em : X.mg = mg) (hg : Gl X (nmE i)) (hd : (nmE i == ("__debug__" : Str)) = false)
    (hs : X.stack = X.env :: X.outer) (hf : X.env.frame = some X.env.locals) (hex : X.ex = []) (hx : X.xe = fun e s' => wpAny (model X.prog X.w) X.A (leaving X.env e) (fun _ s'' => L2N.CX X.prog X.w X.outer X.H_0 X.s_0 E e s'') E₁ s') :
    PS X (.Raise (some (.Call (.Name nm q1) [.Constant (.str msg) j' q2] [] q3)) none q4) (lS C E (sRaise i)) := by
  subst hn
  subst eK em
  obtain ⟨W, CC⟩ := T.cls
  refine ps_w (L2N.ps_raise hc (L2N.takes_of hs hf hex hx) (L2N.pmk_own PySem.F.excBase_ValueError CC.xin T.g CC.kp (fun M h KX => ⟨PySem.W.looks_subIn KX CC.exc.hs, PySem.W.looks_typeIn KX CC.ty⟩) hg hd)) fun Dn σ H h => ?_
  obtain ⟨ι, env, own, A, p⟩ := h
  exact p.2 ι H .refl A.r
end Mi

set_option Elab.async false
set_option linter.all false
set_option maxRecDepth 100000
set_option maxHeartbeats 4000000
namespace Mi
open PySem PySem.Spec PyProof.Rows L2 HotX LamX Ws
/-! ### list(range(a, b)), xs[::c] -/
noncomputable def lrF (lo hi : Int) (own : Own) : R D := if cB (0 ≤ lo ∧ lo ≤ 16777216 ∧ 0 ≤ hi ∧ hi ≤ 16777216) = true then .ok (.lst (rngL lo hi)) own else .bad
noncomputable def lr2F (d e : D) (own : Own) : R D := match d, e with
  | .int i, .int j => lrF i j own
  | _, _ => .bad
noncomputable def lr1F (d : D) (own : Own) : R D := match d with
  | .int j => lrF 0 j own
  | _ => .bad
def stepF (d e : D) (own : Own) : R D := match seqD own d, e with
  | some xs, .int c => if c = 1 then .ok (.lst xs) own else if c = -1 then .ok (.lst xs.reverse) own else .bad
  | _, _ => .bad
def mStep (ma ms : M D) : M D := mB ma fun d env own => match seqD own d with
  | some _ => (ms env own).bind fun e o => stepF d e o
  | none => .bad
def tStep (K : PySem.W.Frag) (te ts : TE) : TE := fun σ H Q => te σ H fun x H1 => ∃ a, x = .ref a ∧ ts σ H1 fun y H2 => ∃ i, y = .int i ∧ ∃ xs c, some i = some c ∧ SqL K H2 a xs ∧ ((c = 1 ∧ ∀ p, H2 p = none → Q (.ref p) (upd H2 p (.lst xs))) ∨ (c = -1 ∧ ∀ p, H2 p = none → Q (.ref p) (upd H2 p (.lst xs.reverse))))
section
variable {X : Cx} {C : Cn} {E : XK} {a b st : Expr} {ma mb : M D} {p pos p3 p2 pos2 : Pos}
theorem rgV_map (lo hi : Int) : rgV lo hi = ((List.range (hi - lo).toNat).map fun (i : Nat) => lo + (i : Int)).map V.int := by unfold rgV; rw [List.map_map]; rfl
theorem rngL_map2 (lo hi : Int) : rngL lo hi = ((List.range (hi - lo).toNat).map fun (i : Nat) => lo + (i : Int)).map D.int := by unfold rngL; rw [List.map_map]; rfl
theorem lr_ok {ι : List Addr} {own : Own} {H : Hp} {Q : VK} {lo hi : Int} (r : Rel C ι own H) (p : Post (rV C.K) C E ι H (lrF lo hi own) Q) : RgOk lo hi ∧ ∀ q, H q = none → Q (.ref q) (upd H q (.lst (rgV lo hi))) := by
  unfold lrF at p
  split at p
  · rename_i hz
    rw [cB_iff] at hz
    refine ⟨.of_le hz.1 hz.2.2.2 hz.2.1 hz.2.2.1, fun q hq => ?_⟩
    rw [rgV_map]
    rw [rngL_map2] at p
    exact p.newL r (.ints _) hq
  · exact p.elim
theorem me_lr2 (hc : X.calm = true) (hm : X.mg "list" = none) (hr : X.mg "range" = none) (ha : PE X a (lE C E ma)) (hb : PE X b (lE C E mb)) (hg : Gl X "list" := by rfl) (hg2 : Gl X "range" := by rfl) (na : starEach [a, b] X.env = (false, eval a X.env) :: starEach [b] X.env := by rfl)
    (nb : starEach [b] X.env = (false, eval b X.env) :: starEach [] X.env := by rfl) (hp : (backTo pos (starEach [b] X.env)).any (·.1) = false := by rfl) (nr : starEach [.Call (.Name "range" p2) [a, b] [] pos] X.env = (false, eval (.Call (.Name "range" p2) [a, b] [] pos) X.env) :: starEach [] X.env := by rfl) :
    PE X (.Call (.Name "list" p) [.Call (.Name "range" p2) [a, b] [] pos] [] pos2) (lE C E (m2 lr2F ma mb)) := pe_w (pe_listRg hc hg hm (prg_2 hg2 hr ha hb na nb hp) nr) fun σ H Q h => by
  refine lf_imp (lf_bind h) ?_
  rintro x H1 ⟨ι1, env1, own1, d, A1, rx, p1⟩
  refine ⟨ι1, env1, own1, A1, p1.bind.imp ?_⟩
  rintro y H2 ⟨ι2, own2, e, g2, r2, ry, p2⟩
  change Post _ _ _ _ _ (lr2F d e own2) _ at p2
  unfold lr2F at p2
  split at p2
  · cases rx; cases ry
    exact ⟨_, _, rfl, rfl, lr_ok r2 p2⟩
  · exact p2.elim
theorem me_lr1 (hc : X.calm = true) (hm : X.mg "list" = none) (hr : X.mg "range" = none) (ha : PE X a (lE C E ma)) (hg : Gl X "list" := by rfl) (hg2 : Gl X "range" := by rfl) (na : starEach [a] X.env = (false, eval a X.env) :: starEach [] X.env := by rfl)
    (nr : starEach [.Call (.Name "range" p2) [a] [] pos] X.env = (false, eval (.Call (.Name "range" p2) [a] [] pos) X.env) :: starEach [] X.env := by rfl) :
    PE X (.Call (.Name "list" p) [.Call (.Name "range" p2) [a] [] pos] [] pos2) (lE C E (m1 lr1F ma)) := pe_w (pe_listRg hc hg hm (prg_1 hg2 hr ha na) nr) fun σ H Q h => by
  refine lf_imp (lf_bind h) ?_
  rintro x H1 ⟨ι1, env1, own1, d, A1, rx, p1⟩
  change Post _ _ _ _ _ (lr1F d own1) _ at p1
  unfold lr1F at p1
  split at p1
  · cases rx
    exact ⟨_, rfl, lr_ok A1.r p1⟩
  · exact p1.elim
theorem pe_step {te ts : TE} (he : PE X a te) (hs : PE X st ts) : PE X (.Subscript a (.Slice none none (some st) p3) pos) (tStep X.K te ts) := by
  refine ⟨fun pins s σ H Q I h => ?_⟩
  refine Subscript_ (thn (he.run pins s σ H _ I h) fun v s1 ⟨x, H1, I1, r1, q1⟩ => ?_)
  obtain ⟨a, ex, q⟩ := q1
  subst ex
  cases r1
  have hst : PO X (some st) (tPart ts) := po_some hs
  refine wpAny_Slice (thn (po_none.run pins s1 σ H1 (fun o H2 => o = none ∧ H2 = H1) I1 ⟨rfl, rfl⟩) fun vl s2 ⟨l, H2, I2, pl, el, e2⟩ => ?_)
  subst el e2
  refine thn (po_none.run pins s2 σ H2 (fun o H3 => o = none ∧ H3 = H2) I2 ⟨rfl, rfl⟩) fun vu s3 ⟨u, H3, I3, pu, eu, e3⟩ => ?_
  subst eu e3
  refine thn (hst.run pins s3 σ H3 (fun o H4 => ∃ xs c, o = some c ∧ SqL X.K H4 a xs ∧ ((c = 1 ∧ ∀ p, H4 p = none → Q (.ref p) (upd H4 p (.lst xs))) ∨ (c = -1 ∧ ∀ p, H4 p = none → Q (.ref p) (upd H4 p (.lst xs.reverse))))) I3 ?_) fun vs s4 ⟨o, H4, I4, ps, xs, c, eo, hx, q4⟩ => ?_
  · exact q
  subst eo
  have I5 : Inv X pins σ H4 { s4 with heap := s4.heap.push { cls := .type "slice", data := .fields #[vl, vu, vs] } } := I4.kept (t' := s4.toks) fun b ob q => Heap.get?_push_of_some _ q
  obtain ⟨its, r, ht, hz⟩ := I5.list hx
  have hlen := r.length
  show wpAny (model X.prog X.w) X.A (subscriptTail _ (.Slice none none (some st) p3) (.ref a) (.ref s4.heap.objs.size)) (EP X pins σ Q) X.xe { s4 with heap := s4.heap.push { cls := .type "slice", data := .fields #[vl, vu, vs] } }
  refine tail_any (ops := [.ref a, .ref s4.heap.objs.size]) ht.isList.typeIs (PySem.slot_list_getitem.lookup) ?_ (by with_unfolding_all rfl)
  rcases q4 with ⟨rfl, q⟩ | ⟨rfl, q⟩
  · refine wpAny_getItem_list_slice ht.isList (Heap.IsSliceOf.new _ vl vu vs) pl pu ps (by decide) ?_ (by rw [List.size_toArray]; omega)
    rw [show slicePick its.toArray none none (some 1) = its.toArray from slicePick_all _]
    refine ⟨.ref _, _, I5.laid (t' := s4.toks) (o := .lst xs) (fun b ob q => Heap.get?_push_of_some _ q) (Nat.le_refl _) ?_, rfl, q _ (I5.hok.fresh (Nat.le_refl _))⟩
    exact ⟨hz, _, 0, r, Heap.get?_push_size _ rfl⟩
  · refine wpAny_getItem_list_slice ht.isList (Heap.IsSliceOf.new _ vl vu vs) pl pu ps (by decide) ?_ (by rw [List.size_toArray]; omega)
    rw [PySem.W.krv_pick]
    refine ⟨.ref _, _, I5.laid (t' := s4.toks) (o := .lst xs.reverse) (fun b ob q => Heap.get?_push_of_some _ q) (Nat.le_refl _) ?_, rfl, q _ (I5.hok.fresh (Nat.le_refl _))⟩
    exact ⟨by rw [List.length_reverse]; exact hz, _, 0, r.reverse, Heap.get?_push_size _ rfl⟩
theorem k_step (K : PySem.W.Frag) {te ts : TE} (he : PE X a te) (hs : PE X st ts) (h : X.K = K := by rfl) : PE X (.Subscript a (.Slice none none (some st) p3) pos) (tStep K te ts) := by subst h; exact pe_step he hs
theorem me_step (ha : PE X a (lE C E ma)) (hs : PE X st (lE C E mb)) (hX : X.K = C.K := by rfl) : PE X (.Subscript a (.Slice none none (some st) p3) pos) (lE C E (mStep ma mb)) := pe_w (k_step C.K ha hs hX) fun σ H Q h => by
  refine lf_imp (lf_bind h) ?_
  rintro x H1 ⟨ι1, env1, own1, d, A1, rx, p1⟩
  split at p1
  · rename_i ys q
    obtain ⟨b, vs, rfl, h1, h2⟩ := seqD_ok A1.r rx q
    refine ⟨b, rfl, ι1, env1, own1, A1, Post.imp (Post.bind p1) ?_⟩
    rintro y H2 ⟨ι2, own2, e, g2, r2, ry, p2⟩
    unfold stepF at p2
    split at p2
    · rename_i zs c q2
      cases ry
      obtain ⟨b', ws, eb, h3, h4⟩ := seqD_ok r2 (rx.mono g2.sub g2.pre) q2
      cases eb
      refine ⟨_, rfl, ws, _, rfl, h3, ?_⟩
      split at p2
      · rename_i z
        exact .inl ⟨z, fun q hq => p2.newL r2 h4 hq⟩
      · split at p2
        · rename_i z
          exact .inr ⟨z, fun q hq => p2.newL r2 h4.reverse hq⟩
        · exact p2.elim
    · exact p2.elim
  · exact p1.elim
end
section
variable {env : Mi.Env} {own : Own}
theorem lr2_ev {i j : Int} : lr2F (.int i) (.int j) own = lrF i j own := rfl
theorem lr1_ev {j : Int} : lr1F (.int j) own = lrF 0 j own := rfl
theorem lrF_ev {i j : Int} : lrF i j own = if cB (0 ≤ i ∧ i ≤ 16777216 ∧ 0 ≤ j ∧ j ≤ 16777216) = true then .ok (.lst (rngL i j)) own else .bad := rfl
def stepO (o : Option (List D)) (d : D) (ms : M D) (env : Mi.Env) (own : Own) : R D := match o with
  | some _ => (ms env own).bind fun e o => stepF d e o
  | none => .bad
theorem step_ev {ma ms : M D} : mStep ma ms env own = (ma env own).bind fun d o => stepO (seqD o d) d ms env o := rfl
theorem stepO_ev {xs : List D} {d : D} {ms : M D} : stepO (some xs) d ms env own = (ms env own).bind fun e o => stepF d e o := rfl
theorem step_1 {xs : List D} : stepF (.lst xs) (.int 1) own = .ok (.lst xs) own := rfl
theorem step_m {xs : List D} : stepF (.lst xs) (.int (-1)) own = .ok (.lst xs.reverse) own := rfl
end
end Mi

set_option Elab.async false
set_option linter.all false
set_option maxRecDepth 100000
set_option maxHeartbeats 4000000
namespace Mi
open PySem PySem.Spec PyProof.Rows L2 HotX LamX Ws
/-! ### a dict that is walked: locked all the while -/
section
variable {X : Cx} {C : Cn} {E : XK} {ι : List Addr} {own : Own} {H : Hp}
theorem tabs_put2 {T : List (Addr × Str)} {a : Addr} {o : HO} {od : Obj} {u : HO} (t : Tabs T H) (h0 : H a = some (.frz od u)) : Tabs T (upd H a o) := by
  intro t' ht
  obtain ⟨ps, h1, h2, h3⟩ := t t' ht
  refine ⟨ps, by rw [upd_ne (ne_of h1 h0 (by intro z; cases z))]; exact h1, h2, fun pos cv hc => ?_⟩
  obtain ⟨c, e1, e2⟩ := h3 pos cv hc
  refine ⟨c, e1, ?_⟩
  rw [upd_ne (ne_of e2 h0 (by intro z; cases z))]
  exact e2
theorem Rel.put2 (r : Rel C ι own H) {i : Nat} {a : Addr} {o : HO} {od : Obj} {u : HO} {ob : Ob} (e : ι[i]? = some a) (h0 : H a = some (.frz od u)) (hr : ObR C (fz C ι H) ι (upd H a o) a ob) : Rel C ι (own.set i ob) (upd H a o) ∧ Gr C ι H ι (upd H a o) := by
  have hm := List.mem_of_getElem? e
  refine ⟨⟨r.nd, by simp [r.len], fun j b ob' e1 e2 => ?_, tabs_put2 r.tabs h0, fun b hb => ?_, r.hidD⟩, List.prefix_refl _, by rw [fz_upd (.inl hm)]; exact .refl, fun b hb => upd_ne (by rintro rfl; exact r.hidD _ hb hm)⟩
  · rw [fz_upd (.inl hm)]
    by_cases hj : i = j
    · subst hj
      rw [e] at e1
      cases e1
      rw [List.getElem?_set_self (by rw [← r.len]; exact (List.getElem?_eq_some_iff.mp e).1)] at e2
      cases e2
      exact hr
    · rw [List.getElem?_set_ne hj] at e2
      refine (r.ob j b ob' e1 e2).stay .refl (List.prefix_refl _) (upd_ne ?_)
      rintro rfl
      obtain ⟨h1, e1'⟩ := List.getElem?_eq_some_iff.mp e
      obtain ⟨h2, e2'⟩ := List.getElem?_eq_some_iff.mp e1
      exact hj ((List.getElem_inj r.nd).mp (e1'.trans e2'.symm))
  · rw [upd_ne (by rintro rfl; exact r.hidD _ hb hm)]; exact r.hidN b hb
end
open Classical in
noncomputable def mLockE (md m : M D) : M D := fun env own => match md env own with
  | .ok (.ref h) _ => (match own[h]? with
    | some (.dct kvs) => if hx : ∃ v own', own'[h]? = some (.dct kvs) ∧ ∀ o, m env (own.set h (.dlk kvs o)) = .ok v (own'.set h (.dlk kvs o)) then .ok hx.choose hx.choose_spec.choose else .bad
    | _ => .bad)
  | _ => .bad
/-- how a statement ends, the dict told again -/
def relock (h : Nat) (ob : Ob) : RS → RS
  | .nx e o => .nx e (o.set h ob)
  | .rt d o => .rt d (o.set h ob)
  | .bk e o => .bk e (o.set h ob)
  | .ct e o => .ct e (o.set h ob)
  | r => r
def RS.own? : RS → Option Own
  | .nx _ o => some o
  | .rt _ o => some o
  | .bk _ o => some o
  | .ct _ o => some o
  | _ => none
open Classical in
noncomputable def sLock (md : M D) (m : MS) : MS := fun env own => match md env own with
  | .ok (.ref h) _ => (match own[h]? with
    | some (.dct kvs) => if hx : ∃ r own', RS.own? r = some own' ∧ own'[h]? = some (.dct kvs) ∧ ∀ o, m env (own.set h (.dlk kvs o)) = relock h (.dlk kvs o) r then hx.choose else .bad
    | _ => .bad)
  | _ => .bad
section
variable {X : Cx} {C : Cn} {E : XK} {e : Expr} {st : Stmt} {md m : M D} {ms : MS}
theorem unlock_ok {ι ι0 : List Addr} {own' : Own} {H0 H : Hp} {h : Nat} {a : Addr} {kvs : List (Key × D)} {od : Obj} {kvs' : List (Key × V)} (hi : ι0[h]? = some a) (g : Gr C ι0 H0 ι H) (r : Rel C ι (own'.set h (.dlk kvs (.frz od (.dK kvs')))) H) (ho : own'[h]? = some (.dct kvs)) :
    H a = some (.frz od (.dK kvs')) ∧ Rel C ι own' (upd H a (.dK kvs')) ∧ Gr C ι H ι (upd H a (.dK kvs')) := by
  have hi' : ι[h]? = some a := by
    obtain ⟨t, rfl⟩ := g.pre
    rw [List.getElem?_append_left (List.getElem?_eq_some_iff.mp hi).1]
    exact hi
  have hlt := (List.getElem?_eq_some_iff.mp ho).1
  obtain ⟨od', vs, e0, e1, e2⟩ := r.ob h a _ hi' (List.getElem?_set_self hlt)
  cases e0
  have := r.put2 (o := .dK kvs') (ob := .dct kvs) hi' e1 ⟨kvs', upd_same, e2⟩
  rw [List.set_set] at this
  have es : own'.set h (.dct kvs) = own' := by
    obtain ⟨h1, h2⟩ := List.getElem?_eq_some_iff.mp ho
    rw [← h2]
    exact List.set_getElem_self h1
  rw [es] at this
  exact ⟨e1, this.1, this.2⟩
theorem me_lock (md : M D) (h : PE X e (lE C E m)) : PE X e (lE C E (mLockE md m)) := pe_w (pe_lock h) fun σ H Q z => by
  obtain ⟨ι, env, own, A, p⟩ := z
  unfold mLockE at p
  split at p
  · rename_i hh _ _
    split at p
    · rename_i kvs ek
      split at p
      · rename_i hx
        have h2 := hx.choose_spec.choose_spec
        generalize hx.choose_spec.choose = own' at *
        generalize hx.choose = v at *
        have hl := (List.getElem?_eq_some_iff.mp ek).1
        obtain ⟨a, hi⟩ : ∃ a, ι[hh]? = some a := ⟨_, List.getElem?_eq_getElem (by rw [A.r.len]; exact hl)⟩
        obtain ⟨kvs', k1, k2⟩ := A.r.ob hh a _ hi ek
        refine ⟨a, .dK kvs', k1, trivial, fun od => ?_⟩
        have hp := A.r.put (o := .frz od (.dK kvs')) (ob := .dlk kvs (.frz od (.dK kvs'))) hi k1 rfl ⟨od, kvs', rfl, upd_same, k2⟩
        refine ⟨ι, env, own.set hh (.dlk kvs (.frz od (.dK kvs'))), A.go hp.2 hp.1, ?_⟩
        rw [h2.2]
        intro v' ι' H' g r rp
        obtain ⟨u1, u2, u3⟩ := unlock_ok hi g r h2.1
        exact ⟨u1, p v' ι' _ ((hp.2.trans g).trans u3) u2 (rp.mono u3.sub u3.pre)⟩
      · exact p.elim
    · exact p.elim
  · exact p.elim
theorem ms_lock (md : M D) (h : PS X st (lS C E ms)) : PS X st (lS C E (sLock md ms)) := ps_w (ps_lock h) fun Dn σ H z => by
  obtain ⟨ι, env, own, A, p⟩ := z
  unfold sLock at p
  split at p
  · rename_i hh _ _
    split at p
    · rename_i kvs ek
      split at p
      · rename_i hx
        obtain ⟨own', h1, h2, h3⟩ := hx.choose_spec
        generalize hx.choose = r at *
        have hl := (List.getElem?_eq_some_iff.mp ek).1
        obtain ⟨a, hi⟩ : ∃ a, ι[hh]? = some a := ⟨_, List.getElem?_eq_getElem (by rw [A.r.len]; exact hl)⟩
        obtain ⟨kvs', k1, k2⟩ := A.r.ob hh a _ hi ek
        refine ⟨a, .dK kvs', k1, trivial, fun od => ?_⟩
        have hp := A.r.put (o := .frz od (.dK kvs')) (ob := .dlk kvs (.frz od (.dK kvs'))) hi k1 rfl ⟨od, kvs', rfl, upd_same, k2⟩
        refine ⟨ι, env, own.set hh (.dlk kvs (.frz od (.dK kvs'))), A.go hp.2 hp.1, ?_⟩
        rw [h3]
        cases r with
        | nx e o =>
          cases h1
          intro σ' ι' H' g A'
          obtain ⟨u1, u2, u3⟩ := unlock_ok hi g A'.r h2
          exact ⟨u1, p σ' ι' _ ((hp.2.trans g).trans u3) (A'.go u3 u2)⟩
        | bk e o =>
          cases h1
          intro σ' ι' H' g A'
          obtain ⟨u1, u2, u3⟩ := unlock_ok hi g A'.r h2
          exact ⟨u1, p σ' ι' _ ((hp.2.trans g).trans u3) (A'.go u3 u2)⟩
        | ct e o =>
          cases h1
          intro σ' ι' H' g A'
          obtain ⟨u1, u2, u3⟩ := unlock_ok hi g A'.r h2
          exact ⟨u1, p σ' ι' _ ((hp.2.trans g).trans u3) (A'.go u3 u2)⟩
        | rt d o =>
          cases h1
          intro v ι' H' g r rp
          obtain ⟨u1, u2, u3⟩ := unlock_ok hi g r h2
          exact ⟨u1, p v ι' _ ((hp.2.trans g).trans u3) u2 (rp.mono u3.sub u3.pre)⟩
        | exc c o => cases h1
        | bad => cases h1
      · exact p.elim
    · exact p.elim
  · exact p.elim
end
/-! ### min of a list -/
def min1F (ds : List D) (own : Own) : R D := match (seq1 ds own).bind intsD with
  | some (n :: r) => .ok (.int (r.foldl min n)) own
  | _ => .bad
theorem foldl_min (r : List Int) : ∀ n : Int, (r.foldl min n = n ∨ r.foldl min n ∈ r) ∧ r.foldl min n ≤ n ∧ ∀ x ∈ r, r.foldl min n ≤ x := by
  induction r with
  | nil => intro n; exact ⟨.inl rfl, Int.le_refl _, fun x hx => nomatch hx⟩
  | cons a r ih =>
    intro n
    obtain ⟨h1, h2, h3⟩ := ih (min n a)
    rw [List.foldl_cons]
    refine ⟨?_, by omega, fun x hx => ?_⟩
    · rcases h1 with h1 | h1
      · by_cases z : n ≤ a
        · exact .inl (by rw [h1]; omega)
        · exact .inr (by rw [h1, show min n a = a by omega]; exact List.mem_cons_self)
      · exact .inr (List.mem_cons_of_mem _ h1)
    · rcases List.mem_cons.mp hx with rfl | hx
      · omega
      · exact h3 x hx
section
variable {X : Cx} {C : Cn} {E : XK}
theorem kc_min1 (K : PySem.W.Frag) (hc : X.calm = true) (h : X.K = K := by rfl) : CallR X (.builtin "min") (rMin K) := by subst h; exact cr_min hc
theorem ad_min1 : AdL C E (rMin C.K) min1F := by
  intro ι own H xs ds Q r ra p
  unfold min1F at p
  split at p
  · rename_i n l e
    obtain ⟨a, vs, es, rfl, h1, h2, h3⟩ := seq1_ok r ra e
    rw [ints_ok h2 h3] at h1
    refine ⟨a, n :: l, rfl, h1, by simp, fun m hm hle => ?_⟩
    have em : m = l.foldl min n := by
      obtain ⟨q1, q2, q3⟩ := foldl_min l n
      have a1 : m ≤ l.foldl min n := by
        rcases q1 with q | q
        · rw [q]; exact hle n List.mem_cons_self
        · exact hle _ (List.mem_cons_of_mem _ q)
      have a2 : l.foldl min n ≤ m := by
        rcases List.mem_cons.mp hm with q | q
        · rw [q]; exact q2
        · exact q3 m q
      omega
    rw [em]
    exact p.here r (.int _)
  · exact p.elim
end
theorem min1_ev {own : Own} {n : Int} {l : List Int} : min1F [.lst ((n :: l).map D.int)] own = .ok (.int (l.foldl min n)) own := by
  unfold min1F
  rw [show seq1 [D.lst ((n :: l).map D.int)] own = some ((n :: l).map D.int) from rfl, Option.bind_some, intsD_map]
/-! ### a def that does nothing that is known -/
theorem fn_bad {P : Program} {w : World} {K : PySem.W.Frag} {mg : Str → Option Value} {base : Heap} {C : Cn} {x : Str} {st : Stmt} {ps N : List Str} (D : DefAt K mg x st)
    (hb : ∀ (kV doc pm : Value) (an : Option Addr) (cdv ct : Value) (us : List Value), us.length = ps.length → bindArgs (PySem.W.fnOf x x (defArgs st) (defBody st) (defScope st) .none kV doc pm an cdv ct) ⟨us, []⟩ = pure (ps.zip us)) (S : FnScope N ps (defScope st)) :
    Fn P w K mg base 1 x (spM C ps.length (fun _ _ => .bad)) :=
  fn_mk (ps := ps) D hb fun f fd F => okN (k := 0) F S (fun vs H Q E h => spM_len h) fun cdv A outer s H vs Q E hr h => by
    obtain ⟨ι, own, ds, hn, r, a, p⟩ := h
    exact p.elim
/-! ### the keys of a locked dict -/
def itK (d : D) (own : Own) : R Wk := match d with
  | .ref h => (match own[h]? with
    | some (.dlk kvs o) => .ok (kvs.map fun p => keyV p.1, [(h, .dlk kvs o)]) own
    | _ => .bad)
  | _ => .bad
def mItK (a : M D) : M Wk := mB a fun d _ own => itK d own
section
variable {X : Cx} {C : Cn} {E : XK} {a tg : Expr} {ma : M D}
theorem kv_get {κ : Type} {K : PySem.W.Frag} {ω : Hp} {ι : List Addr} {fs : List (κ × V)} {gs : List (κ × D)} (h : RpKV K ω ι fs gs) (i : Nat) : (fs[i]?).map (·.1) = (gs[i]?).map (·.1) := by
  have := kv_keys h
  rw [← List.getElem?_map, ← List.getElem?_map, this]
theorem mi_keys (ha : PE X a (lE C E ma)) : PI X tg a (lI C E (mItK ma)) := pi_w (pi_keys ha) fun σ H Rn h => by
  refine lf_imp (lI_bind h) ?_
  rintro x H1 ⟨ι1, env1, own1, d, A1, rx, p1⟩
  unfold itK at p1
  split at p1
  · rename_i hh
    split at p1
    · rename_i kvs o ek
      cases rx with
      | ref hi =>
        rename_i ad
        obtain ⟨od, kvs', e0, e1, e2⟩ := A1.r.ob hh ad _ hi ek
        subst e0
        refine ⟨ad, od, rfl, .inl ⟨kvs', e1, p1 _ ι1 H1 .refl A1.r ?_⟩⟩
        intro hd ι' own' H' i p s r hW
        have hi' : ι'[hh]? = some ad := by
          obtain ⟨t, rfl⟩ := p
          rw [List.getElem?_append_left (List.getElem?_eq_some_iff.mp hi).1]
          exact hi
        obtain ⟨od2, kvs2, f0, f1, f2⟩ := r.ob hh ad _ hi' (held_one.mp hW)
        cases f0
        have hlen := e2.len
        refine ⟨fun e => ⟨f1, by rw [hlen, e, List.length_map]; exact Nat.le_refl _⟩, fun d e => ?_⟩
        have hlt : i < kvs.length := by have := (List.getElem?_eq_some_iff.mp e).1; simpa using this
        refine ⟨⟨f1, by rw [hlen]; exact hlt⟩, fun x H'' y => ?_⟩
        obtain ⟨rfl, k, v, y1, y2⟩ := y
        refine ⟨.refl, r, ?_⟩
        have hk := kv_get e2 i
        rw [y1, List.getElem?_eq_getElem hlt] at hk
        rw [List.getElem?_map, List.getElem?_eq_getElem hlt] at e
        simp only [Option.map_some, Option.some.injEq] at hk e
        subst e y2
        rw [hk]
        cases kvs[i].1 with
        | inl i => exact .int _
        | inr i => exact .str _
    · exact p1.elim
  · exact p1.elim
end
/-! step by step -/
section
variable {env : Mi.Env} {own : Own}
theorem set_inj {own' own'' : Own} {h : Nat} {a b : Ob} (e : own'.set h a = own''.set h a) (h1 : own'[h]? = some b) (h2 : own''[h]? = some b) : own' = own'' := by
  have e1 := congrArg (fun l => l.set h b) e
  simp only [List.set_set] at e1
  obtain ⟨l1, g1⟩ := List.getElem?_eq_some_iff.mp h1
  obtain ⟨l2, g2⟩ := List.getElem?_eq_some_iff.mp h2
  have f1 : own'.set h b = own' := by rw [← g1]; exact List.set_getElem_self l1
  have f2 : own''.set h b = own'' := by rw [← g2]; exact List.set_getElem_self l2
  rwa [f1, f2] at e1
theorem lockE_ev {md m : M D} {h : Nat} {kvs : List (Key × D)} {v : D} {own' own1 : Own} (h1 : md env own = .ok (.ref h) own1) (h2 : own[h]? = some (.dct kvs)) (h3 : own'[h]? = some (.dct kvs)) (h4 : ∀ o, m env (own.set h (.dlk kvs o)) = .ok v (own'.set h (.dlk kvs o))) : mLockE md m env own = .ok v own' := by
  have hx : ∃ (v : D) (own' : Own), own'[h]? = some (.dct kvs) ∧ ∀ o, m env (own.set h (.dlk kvs o)) = .ok v (own'.set h (.dlk kvs o)) := ⟨v, own', h3, h4⟩
  unfold mLockE
  simp only [h1, h2]
  rw [dif_pos hx]
  have hs := hx.choose_spec.choose_spec
  have e := (h4 (.lst [])).symm.trans (hs.2 (.lst []))
  injection e with e1 e2
  exact congr (congrArg R.ok e1.symm) (set_inj e2 h3 hs.1).symm
/-- the parts are read, nothing is written -/
theorem lockE_same {md m : M D} {h : Nat} {kvs : List (Key × D)} {v : D} {own1 : Own} (h1 : md env own = .ok (.ref h) own1) (h2 : own[h]? = some (.dct kvs)) (h4 : ∀ o, m env (own.set h (.dlk kvs o)) = .ok v (own.set h (.dlk kvs o))) : mLockE md m env own = .ok v own := lockE_ev h1 h2 h2 h4
theorem lock_ev {md : M D} {m : MS} {h : Nat} {kvs : List (Key × D)} {e' : Mi.Env} {own' own1 : Own} (h1 : md env own = .ok (.ref h) own1) (h2 : own[h]? = some (.dct kvs)) (h3 : own'[h]? = some (.dct kvs)) (h4 : ∀ o, m env (own.set h (.dlk kvs o)) = .nx e' (own'.set h (.dlk kvs o))) : sLock md m env own = .nx e' own' := by
  have hx : ∃ (r : RS) (own' : Own), RS.own? r = some own' ∧ own'[h]? = some (.dct kvs) ∧ ∀ o, m env (own.set h (.dlk kvs o)) = relock h (.dlk kvs o) r := ⟨.nx e' own', own', rfl, h3, h4⟩
  unfold sLock
  simp only [h1, h2]
  rw [dif_pos hx]
  obtain ⟨o2, s1, s2, s3⟩ := hx.choose_spec
  have e := (h4 (.lst [])).symm.trans (s3 (.lst []))
  generalize hx.choose = r at *
  cases r with
  | nx e3 o3 =>
    injection e with e1 e2
    cases s1
    exact congr (congrArg RS.nx e1.symm) (set_inj e2 h3 s2).symm
  | _ => cases e
theorem itK_ev {h : Nat} {kvs : List (Key × D)} {o : HO} (e : own[h]? = some (.dlk kvs o)) : itK (.ref h) own = .ok (kvs.map fun p => keyV p.1, [(h, .dlk kvs o)]) own := by simp only [itK, e]
theorem mItK_ev {a : M D} : mItK a env own = (a env own).bind fun d o => itK d o := rfl
end
end Mi


set_option Elab.async false
set_option linter.all false
set_option maxRecDepth 100000
set_option maxHeartbeats 4000000
namespace Mi
open PySem L2
/-! ### places in rows of plain data -/
open Classical in
noncomputable def idxD (d : D) : List D → Nat
  | [] => 0
  | x :: r => if x = d then 0 else idxD d r + 1
noncomputable def posD (d : D) (xs : List D) : Int := if cB (d ∈ xs) = true then (idxD d xs : Nat) + 1 else 0
theorem idxD_lt {d : D} : ∀ {xs : List D}, d ∈ xs → idxD d xs < xs.length ∧ xs[idxD d xs]? = some d
  | x :: r, h => by
    unfold idxD
    by_cases e : x = d
    · rw [if_pos e]; exact ⟨by simp, by simp [e]⟩
    · rw [if_neg e]
      have h' : d ∈ r := by
        rcases List.mem_cons.mp h with z | z
        · exact absurd z.symm e
        · exact z
      obtain ⟨h1, h2⟩ := idxD_lt h'
      exact ⟨by simp; omega, by simpa using h2⟩
theorem pnAll_mem {xs : List D} (h : pnAll xs = true) : ∀ x ∈ xs, x.pn = true := by
  induction xs with
  | nil => intro x hx; cases hx
  | cons a r ih =>
    simp only [pnAll, Bool.and_eq_true] at h
    intro x hx
    rcases List.mem_cons.mp hx with rfl | hx
    · exact h.1
    · exact ih h.2 x hx
theorem any_pn {d : D} {x : PyData} (hd : d.pn = true) (ex : toPy d = some x) : ∀ {xs : List D} {ys : List PyData}, pnAll xs = true → toPyAll xs = some ys → ys.any (fun z => PyData.eqv z x) = cB (d ∈ xs)
  | [], ys, _, e => by simp [toPyAll] at e; subst e; rw [cB_f (by simp)]; rfl
  | a :: r, ys, h, e => by
    simp only [pnAll, Bool.and_eq_true] at h
    obtain ⟨y, h1, _⟩ := pn_py a h.1
    obtain ⟨l, h2, _⟩ := pnAll_py r h.2
    simp [toPyAll, h1, h2] at e
    subst e
    rw [List.any_cons, any_pn hd ex h.2 h2]
    have := pn_eqv a d y x h.1 hd h1 ex
    by_cases z : a = d
    · rw [this.mpr z, cB_t (show d ∈ a :: r by simp [z])]; rfl
    · rw [Bool.eq_false_iff.mpr (fun q => z (this.mp q)), Bool.false_or]
      by_cases z2 : d ∈ r
      · rw [cB_t z2, cB_t (List.mem_cons_of_mem _ z2)]
      · rw [cB_f z2, cB_f (by simp only [List.mem_cons, not_or]; exact ⟨fun q => z q.symm, z2⟩)]
theorem find_pn {d : D} {x : PyData} (hd : d.pn = true) (ex : toPy d = some x) : ∀ {xs : List D} {ys : List PyData} (n : Nat), pnAll xs = true → toPyAll xs = some ys → d ∈ xs → findE x ys n = some (n + idxD d xs)
  | a :: r, ys, n, h, e, hm => by
    simp only [pnAll, Bool.and_eq_true] at h
    obtain ⟨y, h1, _⟩ := pn_py a h.1
    obtain ⟨l, h2, _⟩ := pnAll_py r h.2
    simp [toPyAll, h1, h2] at e
    subst e
    have := pn_eqv a d y x h.1 hd h1 ex
    unfold findE idxD
    by_cases z : a = d
    · rw [if_pos (this.mpr z), if_pos z]; rfl
    · rw [if_neg (fun q => z (this.mp q)), if_neg z, find_pn hd ex (n + 1) h.2 h2 (by
        rcases List.mem_cons.mp hm with q | q
        · exact absurd q.symm z
        · exact q)]
      congr 1
      omega
theorem dp_all {xs : List D} {n : Nat} (h : dpAll xs ≤ n) : D.dp (.lst xs) ≤ n + 1 := by simp [D.dp]; exact h
section
variable {own : Own} {d : D} {xs : List D}
theorem inD_pn (hd : d.pn = true) (hx : pnAll xs = true) (h1 : d.dp ≤ 60) (h2 : dpAll xs ≤ 60) : inDF d (.lst xs) own = .ok (.bl (cB (d ∈ xs))) own := by
  obtain ⟨x, e1, _⟩ := pn_py d hd
  obtain ⟨ys, e2, _⟩ := pnAll_py xs hx
  have e3 : toPy (.lst xs) = some (.list ys) := by simp [toPy, e2]
  unfold inDF
  rw [pn_top hd, pn_top (d := .lst xs) (by simpa [D.pn] using hx), e1, e3]
  dsimp only
  rw [if_pos ⟨pn_shaped hd (by omega) e1, pn_shaped (d := .lst xs) (by simpa [D.pn] using hx) (by have := dp_all h2; omega) e3⟩, any_pn hd e1 hx e2]
theorem inD_r {h : Nat} (e : own[h]? = some (.lst xs)) (hd : d.pn = true) : inDF d (.ref h) own = inDF d (.lst xs) own := by
  unfold inDF
  have : toPyT own (.ref h) = toPyT own (.lst xs) := by simp only [toPyT, e, toPy]
  rw [this]
theorem index_pn (hd : d.pn = true) (hx : pnAll xs = true) (h1 : d.dp ≤ 60) (h2 : dpAll xs ≤ 60) (hm : d ∈ xs) : indexF (.lst xs) [d] own = .ok (.int (idxD d xs : Nat)) own := by
  obtain ⟨x, e1, _⟩ := pn_py d hd
  obtain ⟨ys, e2, _⟩ := pnAll_py xs hx
  have e3 : toPy (.lst xs) = some (.list ys) := by simp [toPy, e2]
  unfold indexF
  dsimp only
  rw [pn_top hd, pn_top (d := .lst xs) (by simpa [D.pn] using hx), e1, e3]
  dsimp only
  rw [if_pos ⟨pn_shaped (d := .lst xs) (by simpa [D.pn] using hx) (by have := dp_all h2; omega) e3, pn_shaped hd (by omega) e1⟩, find_pn hd e1 0 hx e2 hm, Nat.zero_add]
theorem index_r {h : Nat} (e : own[h]? = some (.lst xs)) : indexF (.ref h) [d] own = indexF (.lst xs) [d] own := by
  unfold indexF
  have : toPyT own (.ref h) = toPyT own (.lst xs) := by simp only [toPyT, e, toPy]
  rw [this]
theorem inF_strs {a : Str} (hx : ∀ x ∈ xs, ∃ s, x = .str s) : inF (.str a) (.lst xs) own = .ok (.bl (cB (.str a ∈ xs))) own := by
  have h1 : xs.all D.flat = true := by
    rw [List.all_eq_true]
    intro x h
    obtain ⟨s, rfl⟩ := hx x h
    rfl
  have h2 : (xs.any fun z => z.eqf (.str a)) = cB (.str a ∈ xs) := by
    by_cases z : D.str a ∈ xs
    · rw [cB_t z, List.any_eq_true]
      exact ⟨_, z, by simp [D.eqf]⟩
    · rw [cB_f z, Bool.eq_false_iff]
      intro q
      rw [List.any_eq_true] at q
      obtain ⟨x, h3, h4⟩ := q
      obtain ⟨s, rfl⟩ := hx x h3
      simp [D.eqf] at h4
      exact z (h4 ▸ h3)
  unfold inF
  simp only [row_lst, h1, D.flat, and_self, if_true, h2]
theorem set_same {k : Nat} {o : Ob} (h : own[k]? = some o) : own.set k o = own := by
  obtain ⟨h1, h2⟩ := List.getElem?_eq_some_iff.mp h
  subst h2
  exact List.set_getElem_self h1
end
theorem fit0_nil {s m : Nat} (h : m < s) : ∀ l, fit0 s l m = []
  | [] => rfl
  | x :: t => by rw [fit0, if_pos (by omega)]
theorem fit0_cons (h : Hd) (hs : List Hd) (m : Nat) : fit0 0 (h :: hs) m = if wt h ≤ m then h :: fit0 (wt h) hs m else fit0 (wt h) hs m := by
  rw [fit0, Nat.zero_add]
  by_cases z : wt h ≤ m
  · rw [if_neg (by omega), if_pos z]
  · rw [if_pos (by omega), if_neg z, fit0_nil (by omega)]
theorem fit0_sz : ∀ (l : List Hd) (s m : Nat), s ≤ m → s + szH (fit0 s l m) ≤ m
  | [], s, m, h => by simpa [fit0, szH] using h
  | x :: t, s, m, h => by
    rw [fit0]
    split
    · simpa [szH] using h
    · have := fit0_sz t (s + wt x) m (by omega)
      simp only [szH, List.map_cons, List.sum_cons] at this ⊢
      omega
theorem szH_len : ∀ l : List Hd, 8 * l.length ≤ szH l
  | [] => by simp [szH]
  | x :: t => by
    have := szH_len t
    simp only [szH, List.map_cons, List.sum_cons, List.length_cons, wt] at this ⊢
    omega
end Mi

set_option Elab.async false
set_option linter.all false
set_option maxRecDepth 100000
set_option maxHeartbeats 4000000
namespace Mi
open PySem L2
/-! ### maps from numbers to numbers -/
abbrev IM := List (Int × Int)
def dI (m : IM) : List (Key × D) := m.map fun p => (Sum.inl p.1, D.int p.2)
def gI (m : IM) (k : Int) : Option Int := (m.find? fun p => decide (p.1 = k)).map (·.2)
def pI (m : IM) (k v : Int) : IM := if (m.any fun p => decide (p.1 = k)) = true then m.map (fun p => if p.1 = k then (p.1, v) else p) else m ++ [(k, v)]
def xI (m : IM) (k : Int) : IM := m.filter fun p => decide (p.1 ≠ k)
abbrev kI (m : IM) : List Int := m.map (·.1)
theorem val_I (m : IM) (k : Int) : valD (dI m) (.inl k) = (gI m k).map D.int := by
  unfold valD dI gI
  induction m with
  | nil => rfl
  | cons p r ih =>
    rw [List.map_cons, List.find?_cons, List.find?_cons]
    by_cases h : p.1 = k
    · simp [h]
    · simp only [Sum.inl.injEq, h, decide_false]
      exact ih
theorem put_I (m : IM) (k v : Int) : putD (dI m) (.inl k) (.int v) = dI (pI m k v) := by
  have e : ((dI m).any fun kv => decide (kv.1 = Sum.inl k)) = m.any fun p => decide (p.1 = k) := by
    unfold dI
    rw [List.any_map]
    congr 1
    funext p
    simp
  unfold putD pI
  rw [e]
  split
  · unfold dI
    rw [List.map_map, List.map_map]
    apply List.map_congr_left
    intro p _
    simp only [Function.comp]
    by_cases h : p.1 = k
    · simp [h]
    · simp [h]
  · unfold dI
    rw [List.map_append]
    rfl
theorem drop_I (m : IM) (k : Int) : dropD (dI m) (.inl k) = dI (xI m k) := by
  unfold dropD dI xI
  rw [List.filter_map]
  congr 1
  apply List.filter_congr
  intro p _
  simp
theorem keys_I (m : IM) : keysI (dI m) = some (kI m) := by
  induction m with
  | nil => rfl
  | cons p r ih =>
    show (keysI (dI r)).map (p.1 :: ·) = _
    rw [ih]
    rfl
theorem dI_len (m : IM) : (dI m).length = m.length := by simp [dI]
theorem gI_mem {m : IM} {k : Int} : (gI m k).isSome = true ↔ k ∈ kI m := by
  unfold gI
  rw [Option.isSome_map, List.find?_isSome]
  simp only [decide_eq_true_eq, List.mem_map]
theorem gI_none {m : IM} {k : Int} : gI m k = none ↔ k ∉ kI m := by
  rw [← gI_mem]
  cases gI m k <;> simp
theorem gI_some {m : IM} {k : Int} (h : k ∈ kI m) : ∃ v, gI m k = some v := Option.isSome_iff_exists.mp (gI_mem.mpr h)
theorem gI_key {m : IM} {k v : Int} (h : gI m k = some v) : k ∈ kI m := gI_mem.mp (by rw [h]; rfl)
theorem any_key {m : IM} {k : Int} : (m.any fun p => decide (p.1 = k)) = true ↔ k ∈ kI m := by simp [List.any_eq_true, List.mem_map]
theorem kI_put (m : IM) (k v : Int) : kI (pI m k v) = if k ∈ kI m then kI m else kI m ++ [k] := by
  unfold pI
  by_cases h : k ∈ kI m
  · rw [if_pos (any_key.mpr h), if_pos h]
    unfold kI
    rw [List.map_map]
    apply List.map_congr_left
    intro p _
    simp only [Function.comp]
    split <;> rfl
  · rw [if_neg (fun z => h (any_key.mp z)), if_neg h]
    simp
theorem mem_put {m : IM} {k v x : Int} : x ∈ kI (pI m k v) ↔ x = k ∨ x ∈ kI m := by
  rw [kI_put]
  split
  · rename_i h
    constructor
    · exact .inr
    · rintro (rfl | h')
      · exact h
      · exact h'
  · rw [List.mem_append, List.mem_singleton]
    exact Or.comm
theorem nd_put {m : IM} {k v : Int} (h : (kI m).Nodup) : (kI (pI m k v)).Nodup := by
  rw [kI_put]
  split
  · exact h
  · rename_i h'
    rw [List.nodup_append]
    exact ⟨h, by simp, fun a ha b hb => by rw [List.mem_singleton.mp hb]; rintro rfl; exact h' ha⟩
theorem gI_put (m : IM) (k v x : Int) : gI (pI m k v) x = if x = k then some v else gI m x := by
  unfold pI
  by_cases h : k ∈ kI m
  · rw [if_pos (any_key.mpr h)]
    unfold gI
    induction m with
    | nil => simp at h
    | cons p r ih =>
      rw [List.map_cons, List.find?_cons, List.find?_cons]
      by_cases hp : p.1 = k
      · rw [if_pos hp]
        by_cases hx : x = k
        · subst hx; simp [hp]
        · rw [if_neg hx]
          have : p.1 ≠ x := fun z => hx (z.symm.trans hp)
          simp only [this, decide_false]
          by_cases hr : k ∈ kI r
          · rw [ih hr, if_neg hx]
          · congr 1
            clear ih h
            induction r with
            | nil => rfl
            | cons q t iht =>
              simp only [kI, List.map_cons, List.mem_cons, not_or] at hr
              rw [List.map_cons, List.find?_cons, List.find?_cons, if_neg (fun z => hr.1 z.symm)]
              split
              · rfl
              · exact iht (by simpa [kI] using hr.2)
      · rw [if_neg hp]
        have hr : k ∈ kI r := by
          simp only [kI, List.map_cons, List.mem_cons] at h
          rcases h with h | h
          · exact absurd h.symm hp
          · simpa [kI] using h
        by_cases hx : p.1 = x
        · have : x ≠ k := fun z => hp (hx.trans z)
          simp [hx, this]
        · simp only [hx, decide_false]
          exact ih hr
  · rw [if_neg (fun z => h (any_key.mp z))]
    unfold gI
    rw [List.find?_append]
    by_cases hx : x = k
    · subst hx
      rw [if_pos rfl]
      have : m.find? (fun p => decide (p.1 = x)) = none := by
        rw [List.find?_eq_none]
        intro p hp
        simp only [decide_eq_true_eq]
        rintro rfl
        exact h (List.mem_map.mpr ⟨p, hp, rfl⟩)
      rw [this]
      simp
    · rw [if_neg hx]
      have : ([(k, v)] : IM).find? (fun p => decide (p.1 = x)) = none := by
        have : k ≠ x := fun z => hx z.symm
        simp [this]
      rw [this]
      simp
theorem gI_drop (m : IM) (k x : Int) : gI (xI m k) x = if x = k then none else gI m x := by
  unfold gI xI
  induction m with
  | nil => simp
  | cons p r ih =>
    rw [List.filter_cons]
    by_cases hp : p.1 = k
    · rw [if_neg (by simpa using hp), ih]
      by_cases hx : x = k
      · simp [hx]
      · rw [if_neg hx, if_neg hx, List.find?_cons]
        have : p.1 ≠ x := fun z => hx (z.symm.trans hp)
        simp [this]
    · rw [if_pos (by simpa using hp), List.find?_cons, List.find?_cons]
      by_cases hx : p.1 = x
      · have : x ≠ k := fun z => hp (hx.trans z)
        simp [hx, this]
      · simp only [hx, decide_false]
        exact ih
theorem kI_drop (m : IM) (k : Int) : kI (xI m k) = (kI m).filter fun x => decide (x ≠ k) := by
  unfold xI kI
  rw [List.filter_map]
  rfl
theorem mem_drop {m : IM} {k x : Int} : x ∈ kI (xI m k) ↔ x ≠ k ∧ x ∈ kI m := by
  rw [kI_drop, List.mem_filter]
  simp [and_comm]
theorem nd_drop {m : IM} {k : Int} (h : (kI m).Nodup) : (kI (xI m k)).Nodup := by
  rw [kI_drop]
  exact h.filter _
theorem srt_mem {l : List Int} {x : Int} : x ∈ srt l ↔ x ∈ l := by unfold srt; exact List.mem_mergeSort
theorem srt_nodup {l : List Int} (h : l.Nodup) : (srt l).Nodup := (List.mergeSort_perm l _).nodup_iff.mpr h
theorem srt_perm {l l' : List Int} (h : l.Perm l') : srt l = srt l' := by
  have h2 : (srt l).Pairwise (· ≤ ·) := by
    have := List.pairwise_mergeSort (le := fun a b : Int => decide (a ≤ b)) (by intro a b c; simp; omega) (by intro a b; simp; omega) l
    exact this.imp (by intro a b; simp)
  exact srt_of ((List.mergeSort_perm l _).trans h) h2
theorem srt_len (l : List Int) : (srt l).length = l.length := by unfold srt; simp
/-! ### who is under whom -/
def belN (A : IM) (y : Int) : Nat → Int → Bool
  | 0, _ => false
  | n + 1, x => match gI A x with
    | none => false
    | some p => if p = y then true else belN A y n p
/-- heights: what one is under is lower -/
def Hgt (A : IM) (f : Int → Nat) : Prop := ∀ k p, gI A k = some p → f p < f k
def bel (A : IM) (x y : Int) : Prop := ∃ n, belN A y n x = true
theorem belN_lt {A : IM} {f : Int → Nat} (h : Hgt A f) {y : Int} : ∀ {n : Nat} {x : Int}, belN A y n x = true → f y < f x
  | n + 1, x, e => by
    unfold belN at e
    cases q : gI A x with
    | none => rw [q] at e; cases e
    | some p =>
      rw [q] at e
      dsimp only at e
      have := h x p q
      split at e
      · rename_i z; subst z; exact this
      · have := belN_lt h e; omega
theorem bel_step {A : IM} {x p y : Int} (h : gI A x = some p) : bel A x y ↔ p = y ∨ bel A p y := by
  constructor
  · rintro ⟨n, e⟩
    cases n with
    | zero => cases e
    | succ n =>
      unfold belN at e
      rw [h] at e
      dsimp only at e
      split at e
      · rename_i z; exact .inl z
      · exact .inr ⟨n, e⟩
  · rintro (rfl | ⟨n, e⟩)
    · exact ⟨1, by unfold belN; rw [h]; simp⟩
    · refine ⟨n + 1, ?_⟩
      unfold belN
      rw [h]
      dsimp only
      split
      · rfl
      · exact e
theorem bel_none {A : IM} {x y : Int} (h : gI A x = none) : ¬ bel A x y := by
  rintro ⟨n, e⟩
  cases n with
  | zero => cases e
  | succ n => unfold belN at e; rw [h] at e; cases e
theorem bel_lt {A : IM} {f : Int → Nat} (h : Hgt A f) {x y : Int} : bel A x y → f y < f x := fun ⟨_, e⟩ => belN_lt h e
/-- a strand put where it is not above -/
theorem hgt_put {A : IM} {f : Int → Nat} (h : Hgt A f) {s a : Int} (hne : a ≠ s) (hb : ¬ bel A a s) : ∃ g, Hgt (pI A s a) g := by
  classical
  refine ⟨fun x => if x = s ∨ bel A x s then f x + f a + 1 else f x, ?_⟩
  intro k p hk
  rw [gI_put] at hk
  by_cases hks : k = s
  · rw [if_pos hks] at hk
    cases hk
    subst hks
    show (if a = k ∨ bel A a k then _ else _) < (if k = k ∨ bel A k k then _ else _)
    rw [if_neg (by rintro (z | z); exact hne z; exact hb z), if_pos (.inl rfl)]
    omega
  · rw [if_neg hks] at hk
    have hlt := h k p hk
    show (if p = s ∨ bel A p s then _ else _) < (if k = s ∨ bel A k s then _ else _)
    by_cases hd : bel A k s
    · have hp : p = s ∨ bel A p s := (bel_step hk).mp hd
      rw [if_pos hp, if_pos (.inr hd)]
      omega
    · have hp : ¬ (p = s ∨ bel A p s) := fun z => hd ((bel_step hk).mpr z)
      rw [if_neg hp, if_neg (by rintro (z | z); exact hks z; exact hd z)]
      exact hlt
/-- the heights may be small -/
theorem hgt_small {A : IM} {f : Int → Nat} (h : Hgt A f) : ∃ g, Hgt A g ∧ ∀ x, g x ≤ A.length + 1 := by
  classical
  refine ⟨fun x => ((kI A).filter fun q => decide (f q < f x)).length + (if x ∈ kI A then 1 else 0), ?_, ?_⟩
  · intro k p hk
    have hlt := h k p hk
    have hkk := gI_key hk
    show _ + (if p ∈ kI A then 1 else 0) < _ + (if k ∈ kI A then 1 else 0)
    rw [if_pos hkk]
    have mono : ∀ l : List Int, (l.filter fun q => decide (f q < f p)).length ≤ (l.filter fun q => decide (f q < f k)).length := fun l => by
      induction l with
      | nil => simp
      | cons a r ih =>
        rw [List.filter_cons, List.filter_cons]
        by_cases z : f a < f p
        · rw [if_pos (by simpa using z), if_pos (by simp; omega)]; simp; exact ih
        · rw [if_neg (by simpa using z)]
          split
          · simp; omega
          · exact ih
    split
    · rename_i hp
      have strict : ∀ l : List Int, p ∈ l → (l.filter fun q => decide (f q < f p)).length < (l.filter fun q => decide (f q < f k)).length := fun l => by
        induction l with
        | nil => intro z; cases z
        | cons a r ih =>
          intro z
          rw [List.filter_cons, List.filter_cons]
          by_cases za : a = p
          · subst za
            rw [if_neg (by simp), if_pos (by simpa using hlt)]
            have := mono r
            simp; omega
          · have zr : p ∈ r := by
              rcases List.mem_cons.mp z with z | z
              · exact absurd z.symm za
              · exact z
            have := ih zr
            by_cases z1 : f a < f p
            · rw [if_pos (by simpa using z1), if_pos (by simp; omega)]; simp; exact this
            · rw [if_neg (by simpa using z1)]
              split
              · simp; omega
              · exact this
      have := strict (kI A) hp
      omega
    · have := mono (kI A)
      omega
  · intro x
    have h1 := List.length_filter_le (fun q => decide (f q < f x)) (kI A)
    have h2 : (kI A).length = A.length := by simp [kI]
    show _ + (if x ∈ kI A then 1 else 0) ≤ _
    split <;> omega
/-- a strand's own place is taken by the one below it that it is put under -/
theorem not_bel_after {A : IM} {f : Int → Nat} (h : Hgt A f) {s a g : Int} (hs : gI A s = some g) (hb : bel A a s) : ¬ bel (pI A a g) a s ∧ g ≠ a ∧ ¬ bel A g a := by
  have h1 := bel_lt h hb
  have h2 := h s g hs
  have hga : g ≠ a := by rintro rfl; omega
  have low : ∀ n x, f x < f s → belN (pI A a g) s n x = false := by
    intro n
    induction n with
    | zero => intro x _; rfl
    | succ n ih =>
      intro x hx
      have hxa : x ≠ a := by rintro rfl; omega
      unfold belN
      rw [gI_put, if_neg hxa]
      cases q : gI A x with
      | none => rfl
      | some p =>
        have := h x p q
        dsimp only
        rw [if_neg (by rintro rfl; omega)]
        exact ih p (by omega)
  refine ⟨?_, hga, fun z => by have := bel_lt h z; omega⟩
  intro z
  rw [bel_step (p := g) (by rw [gI_put, if_pos rfl])] at z
  rcases z with rfl | ⟨n, z⟩
  · omega
  · rw [low n g (by omega)] at z
    cases z
/-- all strands hang under 0 -/
structure Tree (A : IM) : Prop where
  nd : (kI A).Nodup
  h : ∃ f, Hgt A f
  cl : ∀ k p, gI A k = some p → p = 0 ∨ p ∈ kI A
  z : (0 : Int) ∉ kI A
theorem Tree.nil : Tree [] := ⟨List.nodup_nil, ⟨fun _ => 0, fun k p h => by cases h⟩, fun k p h => (by cases h), by simp⟩
theorem Tree.put0 {A : IM} (T : Tree A) {s a : Int} (hs : s ≠ 0) (hne : a ≠ s) (ha : a = 0 ∨ a ∈ kI A) (hb : ¬ bel A a s) : Tree (pI A s a) := by
  obtain ⟨f, hf⟩ := T.h
  refine ⟨nd_put T.nd, hgt_put hf hne hb, fun k p hk => ?_, fun z => ?_⟩
  · rw [gI_put] at hk
    split at hk
    · cases hk
      rcases ha with h | h
      · exact .inl h
      · exact .inr (mem_put.mpr (.inr h))
    · rcases T.cl k p hk with h | h
      · exact .inl h
      · exact .inr (mem_put.mpr (.inr h))
  · rcases mem_put.mp z with h | h
    · exact hs h.symm
    · exact T.z h
theorem Tree.ne {A : IM} (T : Tree A) {k p : Int} (h : gI A k = some p) : p ≠ k := by
  obtain ⟨f, hf⟩ := T.h
  have := hf k p h
  rintro rfl
  omega
open Classical in
noncomputable def putA (A : IM) (s a : Int) : IM :=
  let a' := if a ∈ kI A then a else 0
  let A1 := if bel A a' s then pI A a' ((gI A s).getD 0) else A
  pI A1 s a'
theorem belN_key {A : IM} (T : Tree A) {y : Int} : ∀ (n : Nat) (x : Int), belN A y n x = true → y = 0 ∨ y ∈ kI A
  | 0, x, e => by cases e
  | n + 1, x, e => by
    unfold belN at e
    cases q : gI A x with
    | none => rw [q] at e; cases e
    | some p =>
      rw [q] at e
      dsimp only at e
      split at e
      · rename_i z; subst z; exact T.cl _ _ q
      · exact belN_key T n p e
theorem bel_key {A : IM} (T : Tree A) {x y : Int} : bel A x y → y = 0 ∨ y ∈ kI A := fun ⟨n, e⟩ => belN_key T n x e
theorem bel_top {A : IM} {x y : Int} (h : bel A x y) : x ∈ kI A := by
  cases q : gI A x with
  | none => exact absurd h (bel_none q)
  | some p => exact gI_key q
theorem Tree.put {A : IM} (T : Tree A) {s a : Int} (hs : s ≠ 0) (hne : a ≠ s) : Tree (putA A s a) := by
  classical
  obtain ⟨f, hf⟩ := T.h
  unfold putA
  have ha : ∀ a', a' = (if a ∈ kI A then a else 0) → a' ≠ s ∧ (a' = 0 ∨ a' ∈ kI A) := by
    intro a' h
    split at h
    · rename_i z; subst h; exact ⟨hne, .inr z⟩
    · subst h; exact ⟨fun z => hs z.symm, .inl rfl⟩
  generalize e : (if a ∈ kI A then a else 0) = a'
  obtain ⟨h1, h2⟩ := ha a' e.symm
  dsimp only
  by_cases hb : bel A a' s
  · rw [if_pos hb]
    obtain ⟨g, hg⟩ := gI_some (m := A) (k := s) (by
      rcases bel_key T hb with z | z
      · exact absurd z hs
      · exact z)
    rw [hg]
    obtain ⟨n1, n2, n3⟩ := not_bel_after hf hg hb
    have hk := bel_top hb
    have T1 : Tree (pI A a' g) := T.put0 (by rintro rfl; exact T.z hk) n2 (T.cl _ _ hg) n3
    exact T1.put0 hs h1 (.inr (mem_put.mpr (.inl rfl))) n1
  · rw [if_neg hb]
    exact T.put0 hs h1 h2 hb
theorem putA_get {A : IM} {s a : Int} : gI (putA A s a) s = some (if a ∈ kI A then a else 0) := by
  unfold putA
  dsimp only
  rw [gI_put, if_pos rfl]
theorem putA_mem {A : IM} (T : Tree A) {s a x : Int} : x ∈ kI (putA A s a) ↔ x = s ∨ x ∈ kI A := by
  classical
  unfold putA
  dsimp only
  rw [mem_put]
  generalize (if a ∈ kI A then a else 0) = a'
  split
  · rename_i hb
    rw [mem_put]
    have := bel_top hb
    constructor
    · rintro (h | rfl | h)
      · exact .inl h
      · exact .inr this
      · exact .inr h
    · rintro (h | h)
      · exact .inl h
      · exact .inr (.inr h)
  · exact Iff.rfl
/-! letting go -/
def foldA (g : Int) (cs : List Int) (A : IM) : IM := cs.foldl (fun A c => pI A c g) A
theorem foldA_get (g : Int) : ∀ (cs : List Int) (A : IM) (x : Int), gI (foldA g cs A) x = if x ∈ cs then some g else gI A x
  | [], A, x => by simp [foldA]
  | c :: cs, A, x => by
    show gI (foldA g cs (pI A c g)) x = _
    rw [foldA_get g cs, gI_put]
    by_cases h1 : x ∈ cs
    · rw [if_pos h1, if_pos (List.mem_cons_of_mem _ h1)]
    · rw [if_neg h1]
      by_cases h2 : x = c
      · rw [if_pos h2, if_pos (by simp [h2])]
      · rw [if_neg h2, if_neg (by simp [h1, h2])]
theorem foldA_keys (g : Int) : ∀ (cs : List Int) (A : IM), (∀ c ∈ cs, c ∈ kI A) → kI (foldA g cs A) = kI A
  | [], A, _ => rfl
  | c :: cs, A, h => by
    have e : kI (pI A c g) = kI A := by rw [kI_put, if_pos (h c List.mem_cons_self)]
    show kI (foldA g cs (pI A c g)) = _
    rw [foldA_keys g cs _ (fun x hx => by rw [e]; exact h x (List.mem_cons_of_mem _ hx)), e]
def kids (A : IM) (s : Int) : List Int := (srt (kI A)).filter fun o => decide (gI A o = some s)
def dropA (A : IM) (s : Int) : IM := foldA ((gI A s).getD 0) (kids (xI A s) s) (xI A s)
theorem kids_mem {A : IM} {s x : Int} : x ∈ kids A s ↔ gI A x = some s := by
  unfold kids
  rw [List.mem_filter, srt_mem, decide_eq_true_eq]
  exact ⟨fun h => h.2, fun h => ⟨gI_key h, h⟩⟩
theorem dropA_keys (A : IM) (s : Int) : kI (dropA A s) = kI (xI A s) := foldA_keys _ _ _ fun c hc => gI_key (kids_mem.mp hc)
theorem Tree.drop {A : IM} (T : Tree A) {s : Int} (hs : s ∈ kI A) : Tree (dropA A s) := by
  obtain ⟨f, hf⟩ := T.h
  obtain ⟨g, hg⟩ := gI_some hs
  have get : ∀ x, gI (dropA A s) x = if x = s then none else if gI A x = some s then some g else gI A x := fun x => by
    unfold dropA
    rw [foldA_get, hg, Option.getD_some]
    by_cases h1 : x = s
    · rw [if_pos h1, if_neg (fun z => by have := kids_mem.mp z; rw [gI_drop, if_pos h1] at this; cases this), gI_drop, if_pos h1]
    · rw [if_neg h1]
      by_cases h2 : gI A x = some s
      · rw [if_pos h2, if_pos (kids_mem.mpr (by rw [gI_drop, if_neg h1]; exact h2))]
      · rw [if_neg h2, if_neg (fun z => h2 (by have := kids_mem.mp z; rwa [gI_drop, if_neg h1] at this)), gI_drop, if_neg h1]
  have hgs := T.ne hg
  refine ⟨by rw [dropA_keys]; exact nd_drop T.nd, ⟨f, fun k p hk => ?_⟩, fun k p hk => ?_, by rw [dropA_keys, mem_drop]; exact fun z => T.z z.2⟩
  · rw [get] at hk
    split at hk
    · cases hk
    · split at hk
      · rename_i h2
        cases hk
        have := hf _ _ h2
        have := hf _ _ hg
        omega
      · exact hf _ _ hk
  · rw [dropA_keys, mem_drop]
    rw [get] at hk
    split at hk
    · cases hk
    · split at hk
      · cases hk
        rcases T.cl _ _ hg with h | h
        · exact .inl h
        · exact .inr ⟨hgs, h⟩
      · rename_i h2
        rcases T.cl _ _ hk with h | h
        · exact .inl h
        · exact .inr ⟨fun z => h2 (by rw [hk, z]), h⟩
end Mi

set_option Elab.async false
set_option linter.all false
set_option maxRecDepth 100000
set_option maxHeartbeats 4000000
namespace Mi
open PySem L2
/-! ### who goes next -/
def rdy (A : IM) (ready : List Int) (x : Int) : Prop := ∃ o ∈ ready, o = x ∨ bel A o x
def optD : Option Int → D
  | none => .non
  | some i => .int i
abbrev gV (m : IM) (k : Int) : Int := (gI m k).getD 0
noncomputable def bestF (A W S : IM) (ready : List Int) (b : Option Int) (x : Int) : Option Int := if cB (rdy A ready x) = true then (match b with
  | none => some x
  | some c => if gV S x * gV W c < gV S c * gV W x then some x else some c) else b
noncomputable def best (A W S : IM) (ready : List Int) (x : Int) : Option Int := (kids A x).foldl (bestF A W S ready) none
inductive Nx (A W S : IM) (ready : List Int) : Int → Option Int → Prop
  | none {x} : best A W S ready x = none → Nx A W S ready x none
  | stop {x b} : best A W S ready x = some b → b ∈ ready → Nx A W S ready x (some b)
  | go {x b r} : best A W S ready x = some b → b ∉ ready → Nx A W S ready b r → Nx A W S ready x r
section
variable {A W S : IM} {ready : List Int}
theorem best_in (l : List Int) : ∀ (b : Option Int) (z : Int), l.foldl (bestF A W S ready) b = some z → b = some z ∨ (z ∈ l ∧ rdy A ready z) := by
  induction l with
  | nil => intro b z h; exact .inl h
  | cons a r ih =>
    intro b z h
    rcases ih _ z h with h1 | ⟨h1, h2⟩
    · unfold bestF at h1
      split at h1
      · rename_i hr
        have hr := cB_iff.mp hr
        cases b with
        | none => cases h1; exact .inr ⟨List.mem_cons_self, hr⟩
        | some c =>
          dsimp only at h1
          split at h1
          · cases h1; exact .inr ⟨List.mem_cons_self, hr⟩
          · exact .inl h1
      · exact .inl h1
    · exact .inr ⟨List.mem_cons_of_mem _ h1, h2⟩
theorem best_none (l : List Int) : ∀ (b : Option Int), l.foldl (bestF A W S ready) b = none → b = none ∧ ∀ z ∈ l, ¬ rdy A ready z := by
  induction l with
  | nil => intro b h; exact ⟨h, fun z hz => nomatch hz⟩
  | cons a r ih =>
    intro b h
    obtain ⟨h1, h2⟩ := ih _ h
    unfold bestF at h1
    split at h1
    · cases b with
      | none => cases h1
      | some c => dsimp only at h1; split at h1 <;> cases h1
    · rename_i hr
      refine ⟨h1, fun z hz => ?_⟩
      rcases List.mem_cons.mp hz with rfl | hz
      · exact fun q => hr (cB_t q)
      · exact h2 z hz
theorem best_some {x b : Int} (h : best A W S ready x = some b) : gI A b = some x ∧ rdy A ready b := by
  rcases best_in _ _ _ h with h1 | ⟨h1, h2⟩
  · cases h1
  · exact ⟨kids_mem.mp h1, h2⟩
theorem best_no {x : Int} (h : best A W S ready x = none) : ∀ z, gI A z = some x → ¬ rdy A ready z := fun z hz => (best_none _ _ h).2 z (kids_mem.mpr hz)
/-- the least by weight -/
theorem best_min (l : List Int) (hw : ∀ z ∈ l, 0 < gV W z) : ∀ (b : Option Int) (y : Int), (∀ c, b = some c → 0 < gV W c) → l.foldl (bestF A W S ready) b = some y → (∀ c, b = some c → gV S y * gV W c ≤ gV S c * gV W y) ∧ ∀ z ∈ l, rdy A ready z → gV S y * gV W z ≤ gV S z * gV W y := by
  induction l with
  | nil =>
    intro b y hb h
    refine ⟨fun c hc => ?_, fun z hz => nomatch hz⟩
    have h : b = some y := h
    rw [hc] at h
    cases h
    exact Int.le_refl _
  | cons a r ih =>
    intro b y hb h
    have wa := hw a List.mem_cons_self
    have hr := fun z hz => hw z (List.mem_cons_of_mem _ hz)
    have hb' : ∀ c, bestF A W S ready b a = some c → 0 < gV W c := by
      intro c hc
      unfold bestF at hc
      split at hc
      · cases b with
        | none => cases hc; exact wa
        | some d => dsimp only at hc; split at hc <;> cases hc; exact wa; exact hb _ rfl
      · exact hb c hc
    obtain ⟨i1, i2⟩ := ih hr (bestF A W S ready b a) y hb' h
    have wy : 0 < gV W y := by
      rcases best_in r _ _ h with q | ⟨q, _⟩
      · exact hb' y q
      · exact hr y q
    have tr : ∀ u v w : Int, 0 < gV W u → 0 < gV W v → 0 < gV W w → gV S u * gV W v ≤ gV S v * gV W u → gV S v * gV W w ≤ gV S w * gV W v → gV S u * gV W w ≤ gV S w * gV W u := by
      intro u v w hu hv hw h1 h2
      have e1 : (gV S u * gV W v) * gV W w ≤ (gV S v * gV W u) * gV W w := Int.mul_le_mul_of_nonneg_right h1 (by omega)
      have e2 : (gV S v * gV W w) * gV W u ≤ (gV S w * gV W v) * gV W u := Int.mul_le_mul_of_nonneg_right h2 (by omega)
      have e3 : (gV S u * gV W w) * gV W v ≤ (gV S w * gV W u) * gV W v := by
        have a1 : (gV S u * gV W w) * gV W v = (gV S u * gV W v) * gV W w := by rw [Int.mul_assoc, Int.mul_comm (gV W w), ← Int.mul_assoc]
        have a2 : (gV S w * gV W u) * gV W v = (gV S w * gV W v) * gV W u := by rw [Int.mul_assoc, Int.mul_comm (gV W u), ← Int.mul_assoc]
        have a3 : (gV S v * gV W u) * gV W w = (gV S v * gV W w) * gV W u := by rw [Int.mul_assoc, Int.mul_comm (gV W u), ← Int.mul_assoc]
        rw [a1, a2]
        rw [a3] at e1
        exact Int.le_trans e1 e2
      exact Int.le_of_mul_le_mul_right e3 hv
    have step : (∀ c, b = some c → ∃ d, bestF A W S ready b a = some d ∧ 0 < gV W d ∧ gV S d * gV W c ≤ gV S c * gV W d) ∧ (rdy A ready a → ∃ d, bestF A W S ready b a = some d ∧ 0 < gV W d ∧ gV S d * gV W a ≤ gV S a * gV W d) := by
      unfold bestF
      refine ⟨fun c hc => ?_, fun ha => ?_⟩
      · subst hc
        have wc := hb c rfl
        split
        · dsimp only
          split
          · rename_i q; exact ⟨a, rfl, wa, by omega⟩
          · exact ⟨c, rfl, wc, Int.le_refl _⟩
        · exact ⟨c, rfl, wc, Int.le_refl _⟩
      · rw [if_pos (cB_t ha)]
        cases b with
        | none => exact ⟨a, rfl, wa, Int.le_refl _⟩
        | some c =>
          dsimp only
          split
          · exact ⟨a, rfl, wa, Int.le_refl _⟩
          · rename_i q; exact ⟨c, rfl, hb c rfl, by omega⟩
    refine ⟨fun c hc => ?_, fun z hz hrz => ?_⟩
    · obtain ⟨d, d1, d2, d3⟩ := step.1 c hc
      exact tr y d c wy d2 (hb c hc) (i1 d d1) d3
    · rcases List.mem_cons.mp hz with rfl | hz
      · obtain ⟨d, d1, d2, d3⟩ := step.2 hrz
        exact tr y d z wy d2 wa (i1 d d1) d3
      · exact i2 z hz hrz
theorem rdy_up {x z : Int} (hz : gI A z = some x) (h : rdy A ready z) : rdy A ready x := by
  obtain ⟨o, ho, q⟩ := h
  refine ⟨o, ho, .inr ?_⟩
  rcases q with rfl | q
  · exact (bel_step hz).mpr (.inl rfl)
  · obtain ⟨n, q⟩ := q
    suffices h : ∀ (n : Nat) (o : Int), belN A z n o = true → bel A o x from h n o q
    intro n
    induction n with
    | zero => intro o e; cases e
    | succ n ih =>
      intro o e
      unfold belN at e
      cases q : gI A o with
      | none => rw [q] at e; cases e
      | some p =>
        rw [q] at e
        dsimp only at e
        rw [bel_step q]
        split at e
        · rename_i z'; subst z'; exact .inr ((bel_step hz).mpr (.inl rfl))
        · exact .inr (ih p e)
/-- below a strand there is a way by one right under it -/
theorem bel_down {x : Int} : ∀ (n : Nat) (o : Int), belN A x n o = true → ∃ z, gI A z = some x ∧ (o = z ∨ bel A o z)
  | 0, o, e => by cases e
  | n + 1, o, e => by
    unfold belN at e
    cases q : gI A o with
    | none => rw [q] at e; cases e
    | some p =>
      rw [q] at e
      dsimp only at e
      split at e
      · rename_i z; subst z; exact ⟨o, q, .inl rfl⟩
      · obtain ⟨z, h1, h2⟩ := bel_down n p e
        refine ⟨z, h1, .inr ?_⟩
        rw [bel_step q]
        rcases h2 with rfl | h2
        · exact .inl rfl
        · exact .inr h2
theorem best_ex {x : Int} (h : rdy A ready x) (hx : x ∉ ready) : ∃ b, best A W S ready x = some b := by
  cases q : best A W S ready x with
  | some b => exact ⟨b, rfl⟩
  | none =>
    obtain ⟨o, ho, z⟩ := h
    rcases z with rfl | ⟨n, z⟩
    · exact absurd ho hx
    · obtain ⟨c, h1, h2⟩ := bel_down n o z
      exact absurd ⟨o, ho, h2⟩ (best_no q c h1)
/-- from the top -/
theorem top_ex (T : Tree A) {o : Int} (h : o ∈ kI A) : bel A o 0 := by
  obtain ⟨f, hf⟩ := T.h
  suffices m : ∀ (n : Nat) (o : Int), f o < n → o ∈ kI A → bel A o 0 from m _ o (Nat.lt_succ_self _) h
  intro n
  induction n with
  | zero => intro o h; omega
  | succ n ih =>
    intro o hn ho
    obtain ⟨p, hp⟩ := gI_some ho
    have := hf o p hp
    rw [bel_step hp]
    rcases T.cl o p hp with z | z
    · exact .inl z
    · exact .inr (ih p (by omega) z)
/-- who goes next is ready, and nobody above it is -/
theorem nx_ok {x : Int} {r : Option Int} (h : Nx A W S ready x r) (hx : ∀ a, (a = x ∨ bel A x a) → a ∉ ready) :
    ∀ b, r = some b → b ∈ ready ∧ ∀ a, bel A b a → a ∉ ready := by
  induction h with
  | none _ => intro b e; cases e
  | stop h1 h2 =>
    intro b e
    cases e
    obtain ⟨h3, _⟩ := best_some h1
    refine ⟨h2, fun a ha => hx a ?_⟩
    rcases (bel_step h3).mp ha with z | z
    · exact .inl z.symm
    · exact .inr z
  | go h1 h2 _ ih =>
    obtain ⟨h3, _⟩ := best_some h1
    refine ih fun a ha => ?_
    rcases ha with rfl | ha
    · exact h2
    · rcases (bel_step h3).mp ha with z | z
      · exact hx a (.inl z.symm)
      · exact hx a (.inr z)
theorem nx_some {x : Int} {r : Option Int} (h : Nx A W S ready x r) (hr : rdy A ready x) (hx : x ∉ ready) : ∃ b, r = some b := by
  induction h with
  | none h1 =>
    obtain ⟨b, hb⟩ := best_ex (W := W) (S := S) hr hx
    rw [h1] at hb
    cases hb
  | stop _ _ => exact ⟨_, rfl⟩
  | go h1 h2 _ ih => exact ih (best_some h1).2 h2
theorem nx_nil {x : Int} {r : Option Int} (h : Nx A W S [] x r) : r = none := by
  cases h with
  | none _ => rfl
  | stop _ h => cases h
  | go h1 _ _ =>
    obtain ⟨_, o, ho, _⟩ := best_some h1
    cases ho
end
end Mi

set_option Elab.async false
set_option linter.all false
set_option maxRecDepth 100000
set_option maxHeartbeats 4000000
namespace Mi
open PySem L2
/-! ### the law's own ranks -/
theorem minO_spec (z : Int) : ∀ (l : List Int), l ≠ [] → minO z l ∈ l ∧ ∀ x ∈ l, minO z l ≤ x
  | n :: r, _ => by
    obtain ⟨h1, h2, h3⟩ := foldl_min r n
    refine ⟨?_, fun x hx => ?_⟩
    · rcases h1 with h | h
      · show r.foldl min n ∈ n :: r
        rw [h]; exact List.mem_cons_self
      · exact List.mem_cons_of_mem _ h
    · rcases List.mem_cons.mp hx with rfl | hx
      · exact h2
      · exact h3 x hx
theorem minO_mem {z : Int} {l l' : List Int} (h : ∀ x, x ∈ l ↔ x ∈ l') : minO z l = minO z l' := by
  by_cases e : l = []
  · subst e
    have : l' = [] := List.eq_nil_iff_forall_not_mem.mpr fun x hx => by have := (h x).mpr hx; cases this
    rw [this]
  · have e' : l' ≠ [] := by
      rintro rfl
      exact e (List.eq_nil_iff_forall_not_mem.mpr fun x hx => by have := (h x).mp hx; cases this)
    obtain ⟨a1, a2⟩ := minO_spec z l e
    obtain ⟨b1, b2⟩ := minO_spec z l' e'
    have := a2 _ ((h _).mpr b1)
    have := b2 _ ((h _).mp a1)
    omega
def frs (A W S : IM) (s a : Int) : Int := minO 0 (((kids A a).filter fun o => decide (o ≠ s)).map fun o => (gI S o).getD 0 / (gI W o).getD 1)
theorem frs_congr {A W S A' W' S' : IM} {s a : Int} (hA : ∀ o, o ≠ s → gI A o = gI A' o) (hW : ∀ o, o ≠ s → gI W o = gI W' o) (hS : ∀ o, o ≠ s → gI S o = gI S' o) : frs A W S s a = frs A' W' S' s a := by
  unfold frs
  apply minO_mem
  intro x
  constructor
  · intro hx
    obtain ⟨o, ho, rfl⟩ := List.mem_map.mp hx
    rw [List.mem_filter, kids_mem, decide_eq_true_eq] at ho
    exact List.mem_map.mpr ⟨o, by rw [List.mem_filter, kids_mem, decide_eq_true_eq, ← hA o ho.2]; exact ho, by rw [hS o ho.2, hW o ho.2]⟩
  · intro hx
    obtain ⟨o, ho, rfl⟩ := List.mem_map.mp hx
    rw [List.mem_filter, kids_mem, decide_eq_true_eq] at ho
    exact List.mem_map.mpr ⟨o, by rw [List.mem_filter, kids_mem, decide_eq_true_eq, hA o ho.2]; exact ho, by rw [hS o ho.2, hW o ho.2]⟩
theorem nx_det {A W S : IM} {ready : List Int} {x : Int} {r r' : Option Int} (h : Nx A W S ready x r) (h' : Nx A W S ready x r') : r = r' := by
  induction h generalizing r' with
  | none h1 =>
    cases h' with
    | none _ => rfl
    | stop h2 _ => rw [h1] at h2; cases h2
    | go h2 _ _ => rw [h1] at h2; cases h2
  | stop h1 h2 =>
    cases h' with
    | none h3 => rw [h1] at h3; cases h3
    | stop h3 _ => rw [h1] at h3; cases h3; rfl
    | go h3 h4 _ => rw [h1] at h3; cases h3; exact absurd h2 h4
  | go h1 h2 _ ih =>
    cases h' with
    | none h3 => rw [h1] at h3; cases h3
    | stop h3 h4 => rw [h1] at h3; cases h3; exact absurd h4 h2
    | go h3 _ h5 => rw [h1] at h3; cases h3; exact ih h5
/-- the least by weight, from the first one on -/
noncomputable def lsF (W S : IM) (b x : Int) : Int := if gV S x * gV W b < gV S b * gV W x then x else b
theorem best_ls {A W S : IM} {ready : List Int} (l : List Int) : ∀ b : Int, l.foldl (bestF A W S ready) (some b) = some ((l.filter fun o => cB (rdy A ready o)).foldl (lsF W S) b) := by
  induction l with
  | nil => intro b; rfl
  | cons a r ih =>
    intro b
    rw [List.foldl_cons]
    by_cases h : rdy A ready a
    · rw [List.filter_cons_of_pos (p := fun o => cB (rdy A ready o)) (cB_t h), List.foldl_cons, ← ih]
      congr 1
      unfold bestF lsF
      rw [if_pos (cB_t h)]
      dsimp only
      split <;> rfl
    · rw [List.filter_cons_of_neg (p := fun o => cB (rdy A ready o)) (by rw [cB_f h]; exact Bool.false_ne_true), ← ih]
      congr 1
      unfold bestF
      rw [cB_f h]
      rfl
theorem best_some_list {A W S : IM} {ready : List Int} (l : List Int) : l.foldl (bestF A W S ready) none = match (l.filter fun o => cB (rdy A ready o)) with
    | [] => none
    | c :: cs => some ((c :: cs).foldl (lsF W S) c) := by
  induction l with
  | nil => rfl
  | cons a r ih =>
    rw [List.foldl_cons]
    by_cases h : rdy A ready a
    · rw [List.filter_cons_of_pos (p := fun o => cB (rdy A ready o)) (cB_t h)]
      have e : bestF A W S ready none a = some a := by unfold bestF; rw [if_pos (cB_t h)]
      rw [e, best_ls]
      show some _ = some _
      rw [List.foldl_cons]
      congr 2
      unfold lsF
      rw [if_neg (Int.lt_irrefl _)]
    · rw [List.filter_cons_of_neg (p := fun o => cB (rdy A ready o)) (by rw [cB_f h]; exact Bool.false_ne_true)]
      have e : bestF A W S ready none a = none := by unfold bestF; rw [cB_f h]; rfl
      rw [e, ih]
/-! the dict of rows -/
abbrev OL := List (Int × Nat)
def oD (O : OL) : List (Key × D) := O.map fun p => (Sum.inl p.1, D.ref p.2)
theorem oD_keys (O : OL) : (oD O).map (·.1) = (O.map (·.1)).map Sum.inl := by unfold oD; rw [List.map_map, List.map_map]; rfl
theorem oD_nodup {O : OL} (h : (O.map (·.1)).Nodup) : ((oD O).map (·.1)).Nodup := by
  rw [oD_keys]
  exact List.Pairwise.map _ (fun a b hab z => hab (Sum.inl.inj z)) h
theorem val_O {O : OL} (h : (O.map (·.1)).Nodup) {k : Int} {g : Nat} (hm : (k, g) ∈ O) : valD (oD O) (.inl k) = some (.ref g) := valD_nodup (oD_nodup h) (List.mem_map.mpr ⟨(k, g), hm, rfl⟩)
theorem val_On {O : OL} {k : Int} (hm : k ∉ O.map (·.1)) : valD (oD O) (.inl k) = none := valD_none (by
  rw [oD_keys]
  intro z
  obtain ⟨x, h1, h2⟩ := List.mem_map.mp z
  cases h2
  exact hm h1)
theorem keys_O (O : OL) : keysI (oD O) = some (O.map (·.1)) := by
  induction O with
  | nil => rfl
  | cons p r ih =>
    show (keysI (oD r)).map (p.1 :: ·) = _
    rw [ih]
    rfl
theorem oD_len (O : OL) : (oD O).length = O.length := by simp [oD]
theorem oD_kv (O : OL) : (oD O).map (fun p => keyV p.1) = (O.map (·.1)).map D.int := by unfold oD; rw [List.map_map, List.map_map]; rfl
/-- one more row, or another one -/
def pO (O : OL) (k : Int) (g : Nat) : OL := if k ∈ O.map (·.1) then O.map (fun p => if p.1 = k then (p.1, g) else p) else O ++ [(k, g)]
theorem put_O (O : OL) (k : Int) (g : Nat) : putD (oD O) (.inl k) (.ref g) = oD (pO O k g) := by
  have e : ((oD O).any fun kv => decide (kv.1 = Sum.inl k)) = true ↔ k ∈ O.map (·.1) := by
    unfold oD
    rw [List.any_map, List.any_eq_true, List.mem_map]
    constructor
    · rintro ⟨p, h1, h2⟩
      simp at h2
      exact ⟨p, h1, h2⟩
    · rintro ⟨p, h1, h2⟩
      exact ⟨p, h1, by simp [h2]⟩
  unfold putD pO
  by_cases h : k ∈ O.map (·.1)
  · rw [if_pos (e.mpr h), if_pos h]
    unfold oD
    rw [List.map_map, List.map_map]
    apply List.map_congr_left
    intro p _
    simp only [Function.comp]
    by_cases h : p.1 = k
    · simp [h]
    · simp [h]
  · rw [if_neg (fun z => h (e.mp z)), if_neg h]
    unfold oD
    rw [List.map_append]
    rfl
theorem pO_keys (O : OL) (k : Int) (g : Nat) : (pO O k g).map (·.1) = if k ∈ O.map (·.1) then O.map (·.1) else O.map (·.1) ++ [k] := by
  unfold pO
  split
  · rw [List.map_map]
    apply List.map_congr_left
    intro p _
    simp only [Function.comp]
    split <;> rfl
  · simp
theorem pO_mem {O : OL} {k x : Int} {g gx : Nat} (h : (x, gx) ∈ pO O k g) : (x = k ∧ gx = g) ∨ (x ≠ k ∧ (x, gx) ∈ O) := by
  unfold pO at h
  split at h
  · obtain ⟨p, h1, h2⟩ := List.mem_map.mp h
    split at h2
    · rename_i e
      cases h2
      exact .inl ⟨e, rfl⟩
    · rename_i e
      subst h2
      exact .inr ⟨e, h1⟩
  · rename_i hn
    rcases List.mem_append.mp h with q | q
    · refine .inr ⟨fun z => hn ?_, q⟩
      rw [← z]
      exact List.mem_map.mpr ⟨_, q, rfl⟩
    · rw [List.mem_singleton] at q
      cases q
      exact .inl ⟨rfl, rfl⟩
theorem drop_O (O : OL) (k : Int) : dropD (oD O) (.inl k) = oD (O.filter fun p => decide (p.1 ≠ k)) := by
  unfold dropD oD
  rw [List.filter_map]
  congr 1
  apply List.filter_congr
  intro p _
  simp
end Mi

set_option Elab.async false
set_option linter.all false
set_option maxRecDepth 100000
set_option maxHeartbeats 4000000
namespace Mi
open PySem PySem.Spec PyProof.Rows L2 HotX LamX Ws
/-! ### {"a": x, ..}: a display whose keys are texts -/
abbrev kvZ (ks : List Str) (ds : List D) : List (L2.Key × D) := (ks.zip ds).map fun p => (Sum.inr p.1, p.2)
def dispF (h : Nat) (ks : List Str) (ds : List D) (o : Own) : R D := match o[h]? with
  | some (.dct []) => if ds.length = ks.length ∧ ks.length ≤ 15 then .ok (.ref h) (o.set h (.dct (mergeD [] (kvZ ks ds)))) else .bad
  | _ => .bad
def mDisp (ks : List Str) (ms : M (List D)) : M D := fun env own => (ms env (own ++ [.dct []])).bind fun ds o => dispF own.length ks ds o
section
variable {X : Cx} {C : Cn} {E : XK} {pos : Pos}
def PD (X : Cx) (C : Cn) (E : XK) (pos : Pos) (keys : List (Option Expr)) (values : List Expr) (ks : List Str) (ms : M (List D)) : Prop :=
  ∃ trs, PPs X pos keys values trs ∧ ∀ σ H (Q : List (V × V) → Hp → Prop), lA C E ms σ H (fun vs H' => Q ((ks.zip vs).map fun p => (V.str p.1, p.2)) H') → tPairs trs σ H Q
theorem pd_nil : PD X C E pos [] [] [] mNil := ⟨[], pps_nil, fun σ H Q h => by
  obtain ⟨ι, env, own, A, p⟩ := h
  exact p.here A.r .nil⟩
theorem pd_cons {k : Str} {j} {p : Pos} {v : Expr} {m : M D} {keys : List (Option Expr)} {values : List Expr} {ks : List Str} {ms : M (List D)} (hv : PE X v (lE C E m)) (hr : PD X C E pos keys values ks ms) : PD X C E pos (some (.Constant (.str k) j p) :: keys) (v :: values) (k :: ks) (mCons m ms) := by
  obtain ⟨trs, h1, h2⟩ := hr
  refine ⟨_, pps_cons pe_str hv h1, fun σ H Q h => ?_⟩
  show lE C E m σ H fun y H2 => tPairs trs σ H2 fun ps H3 => Q ((V.str k, y) :: ps) H3
  refine lf_imp (lf_bind h) ?_
  rintro x H1 ⟨ι1, env1, own1, d, A1, rx, p1⟩
  refine h2 σ H1 _ ⟨ι1, env1, own1, A1, p1.bind.imp ?_⟩
  rintro y H2 ⟨ι2, own2, e, g2, r2, ry, p2⟩
  exact p2.here r2 (.cons (rx.mono g2.sub g2.pre) ry)
theorem zip_ok {K : PySem.W.Frag} {ω : Hp} {ι : List Addr} : ∀ (ks : List Str) {vs : List V} {ds : List D}, RpAll K ω ι vs ds → RpKV K ω ι ((ks.zip vs).map fun p => ((Sum.inr p.1 : L2.Key), p.2)) (kvZ ks ds)
  | [], _, _, _ => .nil
  | _ :: _, _, _, .nil => .nil
  | k :: ks, _, _, .cons r t => .cons ⟨rfl, r⟩ (zip_ok ks t)
theorem me_disp {keys : List (Option Expr)} {values : List Expr} {ks : List Str} {ms : M (List D)} (h : PD X C E pos keys values ks ms) (hall : keys.all (·.isSome) = true := by rfl) (hl : keys.length = values.length := by rfl) (h0 : keys ≠ [] := by exact List.cons_ne_nil _ _) (h15 : keys.length ≤ 15 := by decide) : PE X (.Dict keys values pos) (lE C E (mDisp ks ms)) := by
  obtain ⟨trs, h1, h2⟩ := h
  refine pe_w (pe_disp h1 hall hl h0 h15) fun σ H Q h => ?_
  obtain ⟨ι, env, own, A, p⟩ := h
  intro q hq
  have g := gr_newO (o := .dK []) A.r hq
  have r1 := A.r.newO (o := .dK []) (ob := .dct []) hq ⟨[], upd_same, .nil⟩
  refine h2 σ _ _ ⟨ι ++ [q], env, own ++ [.dct []], A.go g r1, (Post.gr p g).bind.imp ?_⟩
  rintro y H2 ⟨ι2, own2, ds, g2, r2, ry, p2⟩
  unfold dispF at p2
  split at p2
  · rename_i e1
    split at p2
    · rename_i hz
      have hi : ι2[own.length]? = some q := by
        obtain ⟨z, ez⟩ := g2.pre
        rw [← ez, ← A.r.len, List.append_assoc, List.getElem?_append_right (Nat.le_refl _), Nat.sub_self]
        rfl
      obtain ⟨kvs', k1, k2⟩ := r2.ob _ _ _ hi e1
      cases k2
      have hR := r2.put (o := .dK (mergeK [] ((ks.zip y).map fun p => ((Sum.inr p.1 : L2.Key), p.2)))) hi k1 rfl (ob := .dct (mergeD [] (kvZ ks ds))) ⟨_, upd_same, merge_ok .nil (zip_ok ks ry)⟩
      refine ⟨k1, (ks.zip y).map fun p => ((Sum.inr p.1 : L2.Key), p.2), by rw [List.map_map]; rfl, by rw [List.length_map, List.length_zip]; omega, ?_⟩
      exact p2 _ ι2 _ hR.2 hR.1 (.ref hi)
    · exact p2.elim
  · exact p2.elim
/-! d.pop(k, z) -/
def dpop2F (d e z : D) (own : Own) : R D := match d with
  | .ref h => (match own[h]?, keyD e with
    | some (.dct kvs), some k => (match valD kvs k with
      | some v => .ok v (own.set h (.dct (dropD kvs k)))
      | none => .ok z own)
    | _, _ => .bad)
  | _ => .bad
def mDpop2 (ma mb mc : M D) : M D := mB ma fun d env own => match dctD own d with
  | some _ => (mb env own).bind fun e o => (mc env o).bind fun z o' => dpop2F d e z o'
  | none => .bad
variable {a b c : Expr} {ma mb mc : M D} {apos cpos : Pos}
theorem me_dpop2 (ha : PE X a (lE C E ma)) (hb : PE X b (lE C E mb)) (hc : PE X c (lE C E mc)) (m : M2 X a "pop" apos b c cpos := by exact ⟨rfl, rfl, rfl, rfl⟩) : PE X (.Call (.Attribute a "pop" apos) [b, c] [] cpos) (lE C E (mDpop2 ma mb mc)) := pe_w (pe_dpop2 ha hb hc m) fun σ H Q h => by
  refine lf_imp (lf_bind h) ?_
  rintro x H1 ⟨ι1, env1, own1, d, A1, rx, p1⟩
  split at p1
  · rename_i kvs e1
    obtain ⟨h, a', kvs', rfl, _, rfl, hi, ha', hr⟩ := dct_ok A1.r rx e1
    refine ⟨a', rfl, Or.inl ⟨kvs', ha'⟩, ι1, env1, own1, A1, Post.imp (Post.bind p1) ?_⟩
    rintro y H2 ⟨ι2, own2, e, g2, r2, ry, p2⟩
    refine ⟨ι2, env1, own2, A1.go g2 r2, Post.imp (Post.bind p2) ?_⟩
    rintro z H3 ⟨ι3, own3, x3, g3, r3, rz, p3⟩
    have g23 := g2.trans g3
    replace rx := rx.mono g23.sub g23.pre
    replace ry := ry.mono g3.sub g3.pre
    unfold dpop2F at p3
    dsimp only at p3
    split at p3
    · rename_i kvs2 k e3 e4
      cases rx with
      | ref h1 =>
        obtain ⟨kvs2', k2, k3⟩ := r3.ob _ _ _ h1 e3
        obtain ⟨v1, v2⟩ := val_ok (k := k) k3
        cases q : valD kvs2 k with
        | none =>
          rw [q] at p3
          refine ⟨kvs2', k, k2, key_ok ry e4, fun v hv => ?_, fun _ => p3.here r3 rz⟩
          rw [v1 q] at hv
          cases hv
        | some u =>
          rw [q] at p3
          obtain ⟨w, e7, rw'⟩ := v2 u q
          have hR := r3.put (o := .dK (dropK kvs2' k)) h1 k2 rfl (ob := .dct (dropD kvs2 k)) ⟨_, upd_same, drop_ok k3⟩
          refine ⟨kvs2', k, k2, key_ok ry e4, fun v hv => ?_, fun hn => ?_⟩
          · rw [e7] at hv
            cases hv
            exact p3 w ι3 _ hR.2 hR.1 (rw'.mono hR.2.sub hR.2.pre)
          · rw [e7] at hn
            cases hn
    · exact p3.elim
  · exact p1.elim
end
section
variable {env : Env} {own : Own}
theorem disp_ev {ks : List Str} {ms : M (List D)} : mDisp ks ms env own = (ms env (own ++ [.dct []])).bind fun ds o => dispF own.length ks ds o := rfl
def dpop2O (o : Option Ob) (k : Option L2.Key) (h : Nat) (z : D) (own : Own) : R D := match o, k with
  | some (.dct kvs), some k => (match valD kvs k with
    | some v => .ok v (own.set h (.dct (dropD kvs k)))
    | none => .ok z own)
  | _, _ => .bad
theorem dpop2_r {h : Nat} {e z : D} : dpop2F (.ref h) e z own = dpop2O own[h]? (keyD e) h z own := rfl
theorem dpop2_s {kvs : List (L2.Key × D)} {k : L2.Key} {h : Nat} {z v : D} (hv : valD kvs k = some v) : dpop2O (some (.dct kvs)) (some k) h z own = .ok v (own.set h (.dct (dropD kvs k))) := by unfold dpop2O; simp only [hv]
theorem dpop2_n {kvs : List (L2.Key × D)} {k : L2.Key} {h : Nat} {z : D} (hv : valD kvs k = none) : dpop2O (some (.dct kvs)) (some k) h z own = .ok z own := by unfold dpop2O; simp only [hv]
end
end Mi

set_option Elab.async false
set_option linter.all false
set_option maxRecDepth 100000
set_option maxHeartbeats 4000000
namespace Mi
open PySem PySem.Spec PyProof.Rows L2 HotX LamX Ws
/-! ### min of four numbers -/
def minTo (f : Nat → Int) : Nat → Int
  | 0 => f 0
  | m + 1 => min (minTo f m) (f (m + 1))
theorem bestArg_min (f : Nat → Int) : ∀ m, f (argBest (fun i j => decide (f i < f j)) m) = minTo f m
  | 0 => rfl
  | m + 1 => by
    have ih := bestArg_min f m
    unfold argBest minTo
    by_cases h : f (m + 1) < f (argBest (fun i j => decide (f i < f j)) m)
    · rw [if_pos (by simpa using h)]; omega
    · rw [if_neg (by simpa using h)]; omega
section
variable {P : Program} {w : World} {A : Around} {E : Value → Shared → Prop} {s : Shared}
theorem min4_args (a b c d : Value) : argsOk "min" ⟨[a, b, c, d], []⟩ := by unfold argsOk; kernel_rfl
theorem min4_ints {n1 n2 n3 n4 : Int} {t1 t2 t3 t4 : Tok} {Q : Value → Shared → Prop} (hh : A.handled = none)
    (k : ∀ g tk t, (∀ b o, s.heap.get? b = some o → g.get? b = some o) → Q (.int (min (min (min n1 n2) n3) n4) t) { s with heap := g, toks := tk }) : wpAny (model P w) A (call (.builtin "min") [.int n1 t1, .int n2 t2, .int n3 t3, .int n4 t4]) Q E s := by
  have nm : (toString "min" ++ toString ".loop" : String) = "min.loop" := by decide
  have arr : intItems #[(n1, t1), (n2, t2), (n3, t3), (n4, t4)] = #[.int n1 t1, .int n2 t2, .int n3 t3, .int n4 t4] := by simp [intItems]
  obtain ⟨tp, etp⟩ : ∃ o : Obj, o = { cls := .type "tuple", data := .seq #[.int n1 t1, .int n2 t2, .int n3 t3, .int n4 t4] } := ⟨_, rfl⟩
  have isT : (s.heap.push tp).IsTuple s.heap.objs.size (intItems #[(n1, t1), (n2, t2), (n3, t3), (n4, t4)]) := by subst etp; exact ⟨_, Heap.get?_push_size _ rfl, rfl, 0, by rw [arr]⟩
  have sz : (s.heap.push tp).objs.size = s.heap.objs.size + 1 := Heap.size_push ..
  refine call_function_tree F.kind_min F.plain_min F.entry_min (min4_args _ _ _ _) (show wpAny _ A.in1 (Builtin.Builtins.bindParams "min" ["key", "default"] 0 ⟨[], []⟩ >>= _) _ _ s from ?_)
  refine wpAny_bind (wpAny_of_eq (show Builtin.Builtins.bindParams "min" ["key", "default"] 0 ⟨[], []⟩ = pure [none, none] from rfl) (show wpAny _ A.in1 (newTuple [.int n1 t1, .int n2 t2, .int n3 t3, .int n4 t4] >>= _) _ _ s from ?_))
  refine wpAny_bind (wpAny_newObj_type ?_)
  rw [← etp]
  refine wpAny_bind (wpAny_pyIter_tuple isT (wpAny_bind (wpAny_newObj_type ?_)))
  rw [nm]
  have ne1 : s.heap.objs.size ≠ (s.heap.push tp).objs.size := sz ▸ Nat.ne_of_lt (Nat.lt_succ_self _)
  refine wpAny_pure ⟨plainId_quiet F.plain_min_loop _, codeAny_min_loop_first (Walks.tuple (A := A.in1) hh _ s.heap.objs.size ne1 (intItems #[(n1, t1), (n2, t2), (n3, t3), (n4, t4)])) _ (CmpOf.ints_lt (numAt #[(n1, t1), (n2, t2), (n3, t3), (n4, t4)]) (fun _ _ => intItems_at)) _ ?_ (by simp [intItems]) ?_ (Heap.get?_push_size _ rfl) fun v g tk hP hk => ?_⟩
  · show ((s.heap.push tp).push _).objs.size ∉ [(s.heap.push tp).objs.size, s.heap.objs.size]
    have z2 := Heap.size_push (s.heap.push tp) { cls := Value.type "tuple_iterator", data := Data.fields #[Value.ref s.heap.objs.size, Value.int 0 0] }
    rw [z2, sz]
    simp only [List.mem_cons, List.not_mem_nil, or_false, not_or]
    exact ⟨Nat.ne_of_gt (Nat.lt_succ_self _), Nat.ne_of_gt (Nat.lt_succ_of_lt (Nat.lt_succ_self _))⟩
  · exact ⟨⟨_, Heap.get?_push_of_some _ (Heap.get?_push_size _ rfl), rfl, rfl⟩, (isT.push _).push _⟩
  · obtain ⟨t, rfl⟩ := intItems_at hP
    have e : numAt #[(n1, t1), (n2, t2), (n3, t3), (n4, t4)] (argBest (fun i j => decide (numAt #[(n1, t1), (n2, t2), (n3, t3), (n4, t4)] i < numAt #[(n1, t1), (n2, t2), (n3, t3), (n4, t4)] j)) ((intItems #[(n1, t1), (n2, t2), (n3, t3), (n4, t4)]).size - 1)) = min (min (min n1 n2) n3) n4 := by
      rw [bestArg_min (numAt #[(n1, t1), (n2, t2), (n3, t3), (n4, t4)]), arr]
      rfl
    rw [e]
    refine k g tk t fun b o q => hk b o ?_ ?_ (Heap.get?_push_of_some _ (Heap.get?_push_of_some _ (Heap.get?_push_of_some _ q)))
    · have := Heap.lt_size q
      rw [List.mem_singleton, sz]
      exact Nat.ne_of_lt (Nat.lt_succ_of_lt this)
    · have := Heap.lt_size q
      show b ≠ ((s.heap.push tp).push _).objs.size
      have z2 := Heap.size_push (s.heap.push tp) { cls := Value.type "tuple_iterator", data := Data.fields #[Value.ref s.heap.objs.size, Value.int 0 0] }
      rw [z2, sz]
      exact Nat.ne_of_lt (Nat.lt_succ_of_lt (Nat.lt_succ_of_lt this))
end
def rMin4 : List V → Hp → VK → Prop := fun xs H Q => ∃ a b c d, xs = [.int a, .int b, .int c, .int d] ∧ Q (.int (min (min (min a b) c) d)) H
def min4F (ds : List D) (own : Own) : R D := match ds with
  | [.int a, .int b, .int c, .int d] => .ok (.int (min (min (min a b) c) d)) own
  | _ => .bad
section
variable {X : Cx} {C : Cn} {E : XK}
theorem c_min4 (hc : X.calm = true) : CallR X (.builtin "min") rMin4 := by
  intro pins s σ H xs us Q I r h
  obtain ⟨a, b, c, d, rfl, q⟩ := h
  rcases r with _ | ⟨⟨t1, rfl⟩, _ | ⟨⟨t2, rfl⟩, _ | ⟨⟨t3, rfl⟩, _ | ⟨⟨t4, rfl⟩, ⟨⟩⟩⟩⟩⟩
  exact min4_ints (I.ok.hd hc) fun g tk t kk => ⟨.int (min (min (min a b) c) d), H, I.kept kk, ⟨t, rfl⟩, q⟩
theorem ad_min4 : AdL C E rMin4 min4F := by
  intro ι own H xs ds Q r ra p
  unfold min4F at p
  split at p
  · rcases ra with _ | ⟨r1, _ | ⟨r2, _ | ⟨r3, _ | ⟨r4, ⟨⟩⟩⟩⟩⟩
    cases r1; cases r2; cases r3; cases r4
    exact ⟨_, _, _, _, rfl, p.here r (.int _)⟩
  · exact p.elim
/-! x not in rows of rows -/
def ninDF (d e : D) (own : Own) : R D := match toPyT own d, toPyT own e with
  | some x, some (.list ys) => if SeqAt.shaped x = true ∧ SeqAt.shaped (.list ys) = true then .ok (.bl (!ys.any fun z => PyData.eqv z x)) own else .bad
  | _, _ => .bad
theorem op_ninD (K : PySem.W.Frag) (hu : X.A.units + 65 < cLine) (h : X.K = K := by rfl) : OpR X (compareOp .NotIn) (rNotInD K) := by subst h; exact op_notInD hu
theorem ad_ninD : Ad2 C E (rNotInD C.K) ninDF := by
  intro ι own H x y d e Q r rx ry p
  unfold ninDF at p
  split at p
  · rename_i e1 e2
    split at p
    · rename_i hz
      exact ⟨_, _, toPyT_ok r rx e1, toPyT_ok r ry e2, hz.1, hz.2, p.here r (.bl _)⟩
    · exact p.elim
  · exact p.elim
/-! a number of a dict of the module -/
theorem me_kd {x z : Str} {v : Int} {j} {p1 p2 pos : Pos} (hm : ∃ p, X.mg x = some (.ref p) ∧ KDct X.K X.w p z (.int v)) (hg : Gl X x := by rfl) (hd : (x == ("__debug__" : Str)) = false := by decide) : PE X (.Subscript (.Name x p1) (.Constant (.str z) j p2) pos) (lE C E (mC (.int v))) := by
  obtain ⟨q, h1, h2⟩ := hm
  refine pe_w (pe_ix ix_kdict (q_ref h1 hg hd) pe_str (fun _ _ => rfl)) fun σ H Q h => ?_
  obtain ⟨ι, env, own, A, p⟩ := h
  exact ⟨q, z, .int v, rfl, rfl, h2, p.here A.r (.int _)⟩
end
theorem min4_ev {own : Own} {a b c d : Int} : min4F [.int a, .int b, .int c, .int d] own = .ok (.int (min (min (min a b) c) d)) own := rfl
theorem ninD_of {own : Own} {d e : D} {b : Bool} (h : inDF d e own = .ok (.bl b) own) : ninDF d e own = .ok (.bl (!b)) own := by
  unfold inDF at h
  unfold ninDF
  split at h
  · rename_i e1 e2
    split at h
    · rename_i hz
      try rw [e1, e2]
      try dsimp only
      rw [if_pos hz]
      injection h with h1
      injection h1 with h1
      rw [h1]
    · cases h
  · cases h
/-! a, b = x, y: two plain names -/
def par2 (i j : Nat) (ds : List D) : MS := fun env own => match ds with
  | [d, e] => .nx ((env.set i (some d)).set j (some e)) own
  | _ => .bad
def sPar (i j : Nat) (ms : M (List D)) : MS := sB ms fun ds => par2 i j ds
section
variable {X : Cx} {C : Cn} {E : XK}
theorem ms_par {i j : Nat} {x y : Str} {a b : Expr} {ms : M (List D)} {px py pt pos : Pos} {kt k2 pt2} (hc : X.calm = true) (hN : X.N.Nodup) (hi : X.N[i]? = some x) (hj : X.N[j]? = some y) (hij : i ≠ j)
    (hx : X.env.scope.names.lookup x = some .local) (hy : X.env.scope.names.lookup y = some .local) (ha : PA X [a, b] (lA C E ms))
    (hw : swappedStores [.Tuple [.Name x px, .Name y py] kt pt] (.Tuple [a, b] k2 pt2) X.env = pure (some [x, y]) := by rfl)
    (hs : swapsWithSole [.Tuple [.Name x px, .Name y py] kt pt] (.Tuple [a, b] k2 pt2) pos.line X.env = pure false := by rfl) :
    PS X (.Assign [.Tuple [.Name x px, .Name y py] kt pt] (.Tuple [a, b] k2 pt2) pos) (lS C E (sPar i j ms)) := ps_w (ps_par hc hN hi hj hij hx hy ha hw hs) fun Dn σ H h => by
  refine lf_imp (lS_bind h) ?_
  rintro vs H1 ⟨ι1, env1, own1, ds, A1, rx, p1⟩
  unfold par2 at p1
  split at p1
  · rcases rx with _ | ⟨r1, _ | ⟨r2, ⟨⟩⟩⟩
    exact ⟨_, _, rfl, p1 _ ι1 H1 .refl ⟨(A1.e.set i r1).set j r2, A1.r⟩⟩
  · exact p1.elim
end
theorem sPar_ev {i j : Nat} {ms : M (List D)} {env : Env} {own : Own} : sPar i j ms env own = (ms env own).bindS fun ds o => par2 i j ds env o := rfl
theorem par2_ev {i j : Nat} {d e : D} {env : Env} {own : Own} : par2 i j [d, e] env own = .nx ((env.set i (some d)).set j (some e)) own := rfl
end Mi

set_option Elab.async false
set_option linter.all false
set_option maxRecDepth 100000
set_option maxHeartbeats 4000000
namespace Mi
open PySem PySem.Spec PyProof.Rows L2 HotX LamX Ws
/-! ### x.startswith(y) -/
def startsF (d e : D) (own : Own) : R D := match d, e with
  | .str s, .str t => .ok (.bl (Txt.startswith s t)) own
  | _, _ => .bad
def mStarts (ma mb : M D) : M D := mB ma fun d env own => match d with
  | .str s => (mb env own).bind fun e o => startsF (.str s) e o
  | _ => .bad
section
variable {X : Cx} {C : Cn} {E : XK} {pos apos cpos : Pos} {a e : Expr} {ma : M D}
theorem me_starts {mb : M D} (ho : PE X a (lE C E ma)) (he : PE X e (lE C E mb)) (h1 : starEach [e] X.env = [(false, eval e X.env)] := by rfl) (h2 : attributeBase a "startswith" X.env (eval a X.env) = eval a X.env := by rfl) (h3 : (apos.endLine == cpos.line) = true := by rfl) :
    PE X (.Call (.Attribute a "startswith" apos) [e] [] cpos) (lE C E (mStarts ma mb)) := pe_w (pe_m1 F.slot_str_startswith F.type_str_startswith mt_startswith ho he h1 h2 h3) fun σ H Q h => by
  refine lf_imp (lf_bind h) ?_
  rintro x H1 ⟨ι1, env1, own1, d, A1, rx, p1⟩
  cases d with
  | str s =>
    cases rx
    refine ⟨⟨_, rfl⟩, ι1, env1, own1, A1, Post.imp (Post.bind p1) ?_⟩
    rintro y H2 ⟨ι2, own2, e2, g2, r2, ry, p2⟩
    have p2 : Post (rV C.K) C E ι2 H2 (startsF (.str s) e2 own2) Q := p2
    unfold startsF at p2
    split at p2
    · rename_i q1 q2
      cases q1
      cases ry
      exact ⟨_, _, rfl, rfl, p2.here r2 (.bl _)⟩
    · exact p2.elim
  | _ => exact p1.elim
end
theorem starts_ev {ma mb : M D} {env : Env} {own : Own} : mStarts ma mb env own = (ma env own).bind fun d o => (match d with | .str s => (mb env o).bind fun e o => startsF (.str s) e o | _ => .bad) := rfl
theorem startsF_ev {s t : Str} {own : Own} : startsF (.str s) (.str t) own = .ok (.bl (Txt.startswith s t)) own := rfl
/-! ### {k: x}: a display with one number -/
def dispIF (h : Nat) (k : Int) (d : D) (o : Own) : R D := match o[h]? with
  | some (.dct []) => .ok (.ref h) (o.set h (.dct [(.inl k, d)]))
  | _ => .bad
def mDispI (k : Int) (m : M D) : M D := fun env own => (m env (own ++ [.dct []])).bind fun d o => dispIF own.length k d o
section
variable {X : Cx} {C : Cn} {E : XK} {pos p : Pos}
theorem me_dispI {k : Int} {j} {v : Expr} {m : M D} (hv : PE X v (lE C E m)) : PE X (.Dict [some (.Constant (.int k) j p)] [v] pos) (lE C E (mDispI k m)) := by
  refine pe_w (pe_disp (pps_cons pe_int hv pps_nil) rfl rfl (List.cons_ne_nil _ _) (by simp)) fun σ H Q h => ?_
  obtain ⟨ι, env, own, A, p⟩ := h
  intro q hq
  have g := gr_newO (o := .dK []) A.r hq
  have r1 := A.r.newO (o := .dK []) (ob := .dct []) hq ⟨[], upd_same, .nil⟩
  refine ⟨ι ++ [q], env, own ++ [.dct []], A.go g r1, (Post.gr p g).bind.imp ?_⟩
  rintro y H2 ⟨ι2, own2, d, g2, r2, ry, p2⟩
  unfold dispIF at p2
  split at p2
  · rename_i e1
    have hi : ι2[own.length]? = some q := by
      obtain ⟨z, ez⟩ := g2.pre
      rw [← ez, ← A.r.len, List.append_assoc, List.getElem?_append_right (Nat.le_refl _), Nat.sub_self]
      rfl
    obtain ⟨kvs', k1, k2⟩ := r2.ob _ _ _ hi e1
    cases k2
    have hR := r2.put (o := .dK (mergeK [] [((Sum.inl k : L2.Key), y)])) hi k1 rfl (ob := .dct (mergeD [] [((Sum.inl k : L2.Key), d)])) ⟨_, upd_same, merge_ok .nil (.cons ⟨rfl, ry⟩ .nil)⟩
    refine ⟨k1, [((Sum.inl k : L2.Key), y)], rfl, by simp, ?_⟩
    exact p2 _ ι2 _ hR.2 hR.1 (.ref hi)
  · exact p2.elim
end
theorem dispI_ev {k : Int} {m : M D} {env : Env} {own : Own} : mDispI k m env own = (m env (own ++ [.dct []])).bind fun d o => dispIF own.length k d o := rfl
theorem dispIF_ev {h : Nat} {k : Int} {d : D} {o : Own} (e : o[h]? = some (.dct [])) : dispIF h k d o = .ok (.ref h) (o.set h (.dct [(.inl k, d)])) := by unfold dispIF; rw [e]
/-! ### two dicts of texts that are the same -/
noncomputable def neDF (d e : D) (own : Own) : R D := match d, e with
  | .ref i, .ref j => (match own[i]?, own[j]? with
    | some (.dct ks), some (.dct ls) => if cB (ks.length = ls.length ∧ ∀ p ∈ ks, ∃ s : Str, p.2 = .str s ∧ valD ls p.1 = some (.str s)) = true then .ok (.bl false) own else .bad
    | _, _ => .bad)
  | _, _ => .bad
theorem RpKV_mem {κ : Type} {K : PySem.W.Frag} {ω : Hp} {ι : List Addr} {fs : List (κ × V)} {gs : List (κ × D)} (h : RpKV K ω ι fs gs) : ∀ p ∈ fs, ∃ q ∈ gs, p.1 = q.1 ∧ Rp K ω ι p.2 q.2 := by
  unfold RpKV at h
  induction h with
  | nil => intro p hp; cases hp
  | cons r t ih =>
    intro p hp
    rcases List.mem_cons.mp hp with rfl | hp
    · exact ⟨_, List.mem_cons_self, r⟩
    · obtain ⟨q, h1, h2⟩ := ih p hp
      exact ⟨q, List.mem_cons_of_mem _ h1, h2⟩
section
variable {X : Cx} {C : Cn} {E : XK}
theorem ad_neD : Ad2 C E rNeDA neDF := by
  intro ι own H x y d e Q r rx ry p
  unfold neDF at p
  split at p
  · split at p
    · rename_i e1 e2
      split at p
      · rename_i hz
        rw [cB_iff] at hz
        cases rx with
        | ref h1 =>
          cases ry with
          | ref h2 =>
            obtain ⟨ks, k1, k2⟩ := r.ob _ _ _ h1 e1
            obtain ⟨ls, l1, l2⟩ := r.ob _ _ _ h2 e2
            refine ⟨_, _, ks, ls, rfl, rfl, k1, l1, by rw [k2.len, l2.len]; exact hz.1, fun p hp => ?_, p.here r (.bl _)⟩
            obtain ⟨q, q1, q2, q3⟩ := RpKV_mem k2 p hp
            obtain ⟨s, s1, s2⟩ := hz.2 q q1
            obtain ⟨v, v1, v2⟩ := (val_ok (k := q.1) l2).2 _ s2
            rw [s1] at q3
            rw [q2, v1]
            generalize p.2 = pv at *
            cases q3
            cases v2
            exact ⟨rfl, rfl⟩
      · exact p.elim
    · exact p.elim
  · exact p.elim
theorem op_neD (hu : X.A.units + 65 < cLine) : OpR X (compareOp .NotEq) rNeDA := op_ne_dictA (by omega)
end
theorem neD_ev {i j : Nat} {ks ls : List (L2.Key × D)} {own : Own} (h1 : own[i]? = some (.dct ks)) (h2 : own[j]? = some (.dct ls)) (hl : ks.length = ls.length) (hp : ∀ p ∈ ks, ∃ s : Str, p.2 = .str s ∧ valD ls p.1 = some (.str s)) : neDF (.ref i) (.ref j) own = .ok (.bl false) own := by
  unfold neDF
  simp only [h1, h2]
  rw [if_pos (cB_t ⟨hl, hp⟩)]
/-! ### a table by numbers -/
def tD (l : List Int) (g : Int → D) : List (L2.Key × D) := l.map fun k => (Sum.inl k, g k)
def fU {α : Type} (g : Int → α) (k : Int) (v : α) : Int → α := fun x => if x = k then v else g x
theorem fU_self {α : Type} (g : Int → α) (k : Int) (v : α) : fU g k v k = v := if_pos rfl
theorem fU_ne {α : Type} (g : Int → α) {k x : Int} (v : α) (h : x ≠ k) : fU g k v x = g x := if_neg h
theorem fU_map {α β : Type} (g : Int → α) (k : Int) (v : α) (f : α → β) : (fun x => f (fU g k v x)) = fU (fun x => f (g x)) k (f v) := by
  funext x
  unfold fU
  split <;> rfl
theorem val_tD (l : List Int) (g : Int → D) (k : Int) : valD (tD l g) (.inl k) = if k ∈ l then some (g k) else none := by
  induction l with
  | nil => rfl
  | cons x r ih =>
    unfold valD tD at *
    rw [List.map_cons, List.find?_cons]
    by_cases h : x = k
    · rw [decide_eq_true (by rw [h]), if_pos (by rw [h]; exact List.mem_cons_self), h]; rfl
    · have n : ¬ (Sum.inl x : L2.Key) = Sum.inl k := fun z => h (Sum.inl.inj z)
      rw [decide_eq_false n]
      dsimp only
      rw [ih]
      by_cases hm : k ∈ r
      · rw [if_pos hm, if_pos (List.mem_cons_of_mem _ hm)]
      · rw [if_neg hm, if_neg (by simp only [List.mem_cons, not_or]; exact ⟨fun z => h z.symm, hm⟩)]
theorem val_tD_in {l : List Int} {g : Int → D} {k : Int} (h : k ∈ l) : valD (tD l g) (.inl k) = some (g k) := by rw [val_tD, if_pos h]
theorem any_tD (l : List Int) (g : Int → D) (k : Int) : ((tD l g).any fun kv => decide (kv.1 = Sum.inl k)) = decide (k ∈ l) := by
  induction l with
  | nil => rfl
  | cons x r ih =>
    unfold tD at *
    rw [List.map_cons, List.any_cons, ih]
    by_cases h : x = k
    · subst h
      rw [show (decide ((Sum.inl x : L2.Key) = Sum.inl x)) = true from decide_eq_true rfl, Bool.true_or]; simp
    · have n : ¬ (Sum.inl x : L2.Key) = Sum.inl k := fun z => h (Sum.inl.inj z)
      rw [decide_eq_false n, Bool.false_or]
      have : (k ∈ x :: r) ↔ k ∈ r := by simp only [List.mem_cons]; exact ⟨fun z => z.resolve_left (fun y => h y.symm), .inr⟩
      simp only [this]
theorem put_tD_in {l : List Int} {g : Int → D} {k : Int} (h : k ∈ l) (v : D) : putD (tD l g) (.inl k) v = tD l (fU g k v) := by
  unfold putD
  rw [any_tD, decide_eq_true h]
  unfold tD
  simp only [if_true, List.map_map]
  refine List.map_congr_left fun x _ => ?_
  simp only [Function.comp]
  by_cases e : x = k
  · subst e; rw [if_pos rfl, fU_self]
  · rw [if_neg (fun z => e (Sum.inl.inj z)), fU_ne _ _ e]
theorem put_tD_new {l : List Int} {g : Int → D} {k : Int} (h : k ∉ l) (v : D) : putD (tD l g) (.inl k) v = tD (l ++ [k]) (fU g k v) := by
  unfold putD
  rw [any_tD, decide_eq_false h]
  unfold tD
  simp only [Bool.false_eq_true, if_false, List.map_append, List.map_cons, List.map_nil, fU_self]
  congr 1
  refine List.map_congr_left fun x hx => ?_
  rw [fU_ne]
  rintro rfl
  exact h hx
theorem tD_len (l : List Int) (g : Int → D) : (tD l g).length = l.length := by simp [tD]
theorem keys_tD (l : List Int) (g : Int → D) : (tD l g).map (fun p => keyV p.1) = l.map D.int := by
  unfold tD
  rw [List.map_map]
  rfl
theorem starts_app (a b : Str) : Txt.startswith (a ++ b) a = true := by
  have e : (a ++ b).cps = a.cps ++ b.cps := rfl
  unfold Txt.startswith Builtin.Str.subAt Str.length
  rw [e]
  simp
end Mi

set_option Elab.async false
set_option linter.all false
set_option maxRecDepth 100000
set_option maxHeartbeats 4000000
namespace Mi
open PySem PySem.Spec PyProof.Rows L2 HotX LamX Ws
/-! ### enumerate, zip, range with a step -/
def enumL (ds : List D) : List D := (List.range ds.length).zip ds |>.map fun p => .tup [.int (p.1 : Nat), p.2]
def zipL (ds es : List D) : List D := (ds.zip es).map fun p => .tup [p.1, p.2]
def lsD : D → Option (List D)
  | .lst xs => some xs
  | .frz xs => some xs
  | _ => none
def enumF (d : D) (own : Own) : R Wk := match lsD d with
  | some xs => .ok (enumL xs, []) own
  | none => .bad
def zipF (d e : D) (own : Own) : R Wk := match lsD d, lsD e with
  | some xs, some ys => .ok (zipL xs ys, []) own
  | _, _ => .bad
def rng4L (n : Nat) : List D := (List.range ((n + 3) / 4)).map fun (i : Nat) => .int (0 + (i : Int) * 4)
noncomputable def rng4F (d : D) (own : Own) : R Wk := match d with
  | .int j => if cB (0 ≤ j ∧ j < 1000000000) = true then .ok (rng4L j.toNat, []) own else .bad
  | _ => .bad
def mEnum (a : M D) : M Wk := mB a fun d _ own => enumF d own
def mZip (a b : M D) : M Wk := mB a fun d => mB b fun e _ own => zipF d e own
noncomputable def mRng4 (a : M D) : M Wk := mB a fun d _ own => rng4F d own
section
variable {X : Cx} {C : Cn} {E : XK} {a b c tg iter : Expr} {ma mb : M D} {p pos tpos : Pos} {elts : List Expr} {kk : Nat}
theorem lsD_ok {ι : List Addr} {H : Hp} {x : V} {d : D} (h : Rp C.K (fz C ι H) ι x d) {ds : List D} (e : lsD d = some ds) : ∃ a vs, x = .ref a ∧ SqL C.K (fz C ι H) a vs ∧ RpAll C.K (fz C ι H) ι vs ds := by
  cases h with
  | frz h a => cases e; exact ⟨_, _, rfl, h, a⟩
  | lst h a => cases e; exact ⟨_, _, rfl, SqL.of h, a⟩
  | _ => cases e
theorem rp_pair {K : PySem.W.Frag} {ω : Hp} {ι : List Addr} {T : Addr} {x y : V} {d e : D} (h : ω T = some (.tup [x, y])) (hx : Rp K ω ι x d) (hy : Rp K ω ι y e) : Rp K ω ι (.ref T) (.tup [d, e]) := .tup (SqT.of h) (.cons hx (.one hy))
theorem jok_enum {ι : List Addr} {H : Hp} {l : Addr} {vs : List V} {ds : List D} (h : SqL C.K (fz C ι H) l vs) (a : RpAll C.K (fz C ι H) ι vs ds) : JOk C (Ite C.K l) ι H [] (enumL ds) := by
  intro hd ι' own' H' i p s r _
  have h' : SqL C.K H' l vs := sql_sub (s.trans fz_sub) h
  have hl : (enumL ds).length = ds.length := by simp [enumL]
  refine ⟨fun e => ⟨vs, h', by rw [a.len, e, hl]; exact Nat.le_refl _⟩, fun d e => ?_⟩
  have hi : i < ds.length := by rw [← hl]; exact (List.getElem?_eq_some_iff.mp e).1
  have ed : d = .tup [.int (i : Nat), ds[i]] := by
    unfold enumL at e
    rw [List.getElem?_map, List.getElem?_zip_eq_some (z := (i, ds[i])) |>.mpr ⟨List.getElem?_range hi, List.getElem?_eq_getElem hi⟩] at e
    simpa using e.symm
  subst ed
  obtain ⟨v, e1, rv⟩ := a.get (List.getElem?_eq_getElem hi)
  refine ⟨⟨vs, v, h', e1⟩, ?_⟩
  rintro x H'' ⟨T, y, rfl, hT, rfl, hy⟩
  have e2 := hy vs h'
  rw [e1] at e2
  cases e2
  obtain ⟨r', g⟩ := r.new (o := .tup [.int (i : Nat), v]) hT
  exact ⟨g, r', rp_pair (fz_new r hT) (.int _) ((rv.mono s p).mono g.sub g.pre)⟩
theorem jok_zip {ι : List Addr} {H : Hp} {l m : Addr} {vs ws : List V} {ds es : List D} (h : SqL C.K (fz C ι H) l vs) (a : RpAll C.K (fz C ι H) ι vs ds) (h2 : SqL C.K (fz C ι H) m ws) (a2 : RpAll C.K (fz C ι H) ι ws es) : JOk C (Itz C.K l m) ι H [] (zipL ds es) := by
  intro hd ι' own' H' i p s r _
  have h' : SqL C.K H' l vs := sql_sub (s.trans fz_sub) h
  have h2' : SqL C.K H' m ws := sql_sub (s.trans fz_sub) h2
  have hl : (zipL ds es).length = min ds.length es.length := by simp [zipL]
  refine ⟨fun e => ⟨vs, ws, h', h2', by rw [a.len, a2.len]; omega⟩, fun d e => ?_⟩
  have hi : i < min ds.length es.length := by rw [← hl]; exact (List.getElem?_eq_some_iff.mp e).1
  have hi1 : i < ds.length := by omega
  have hi2 : i < es.length := by omega
  have ed : d = .tup [ds[i], es[i]] := by
    unfold zipL at e
    rw [List.getElem?_map, List.getElem?_zip_eq_some (z := (ds[i], es[i])) |>.mpr ⟨List.getElem?_eq_getElem hi1, List.getElem?_eq_getElem hi2⟩] at e
    simpa using e.symm
  subst ed
  obtain ⟨v, e1, rv⟩ := a.get (List.getElem?_eq_getElem hi1)
  obtain ⟨u, e2, ru⟩ := a2.get (List.getElem?_eq_getElem hi2)
  refine ⟨⟨vs, ws, v, u, h', h2', e1, e2⟩, ?_⟩
  rintro x H'' ⟨T, y, z, rfl, hT, rfl, hy, hz⟩
  have e3 := hy vs h'
  have e4 := hz ws h2'
  rw [e1] at e3
  rw [e2] at e4
  cases e3
  cases e4
  obtain ⟨r', g⟩ := r.new (o := .tup [v, u]) hT
  exact ⟨g, r', rp_pair (fz_new r hT) ((rv.mono s p).mono g.sub g.pre) ((ru.mono s p).mono g.sub g.pre)⟩
theorem jok_rngC {ι : List Addr} {H : Hp} {lo c : Int} {n : Nat} : JOk C (Itc lo c n) ι H [] ((List.range n).map fun (i : Nat) => .int (lo + (i : Int) * c)) := jok_same fun hd ι' H' i p s => by
  refine ⟨fun e => ?_, fun d e => ?_⟩
  · simp at e; exact Nat.le_of_eq e.symm
  · rw [List.getElem?_map] at e
    cases q : (List.range n)[i]? with
    | none => rw [q] at e; cases e
    | some j =>
      rw [q] at e
      cases e
      obtain ⟨h1, h2⟩ := List.getElem?_eq_some_iff.mp q
      simp at h1 h2
      subst h2
      refine ⟨h1, fun x H'' y => ⟨y.1, ?_⟩⟩
      rw [y.2]
      exact .int _
theorem mi_enum (hm : X.mg "enumerate" = none) (ha : PE X a (lE C E ma)) (hX : X.K = C.K := by rfl) (hg : Gl X "enumerate" := by rfl) (hs : starEach [a] X.env = [(false, eval a X.env)] := by rfl) : PI X (.Tuple elts kk tpos) (.Call (.Name "enumerate" p) [a] [] pos) (lI C E (mEnum ma)) := pi_w (pi_enum hg hm (pa_cons ha pa_nil hs) hs) fun σ H Rn h => by
  show lE C E ma σ H _
  refine lf_imp (lI_bind h) ?_
  rintro x H1 ⟨ι1, env1, own1, d, A1, rp, pp⟩
  unfold enumF at pp
  split at pp
  · rename_i xs e
    obtain ⟨l, vs, rfl, h1, h2⟩ := lsD_ok rp e
    refine ⟨l, vs, rfl, by rw [hX]; exact sql_sub fz_sub h1, ?_⟩
    rw [hX]
    exact pp _ ι1 H1 .refl A1.r (jok_enum h1 h2)
  · exact pp.elim
theorem mi_zip (hm : X.mg "zip" = none) (ha : PE X a (lE C E ma)) (hb : PE X b (lE C E mb)) (hX : X.K = C.K := by rfl) (hg : Gl X "zip" := by rfl) (hs : starEach [a, b] X.env = (false, eval a X.env) :: starEach [b] X.env := by rfl) (hs2 : starEach [b] X.env = [(false, eval b X.env)] := by rfl) (hpl : (backTo pos (starEach [b] X.env)).any (·.1) = false := by rfl) : PI X (.Tuple elts kk tpos) (.Call (.Name "zip" p) [a, b] [] pos) (lI C E (mZip ma mb)) := pi_w (pi_zip hg hm (pa_cons ha (pa_cons hb pa_nil hs2) hs) hs hpl) fun σ H Rn h => by
  show lE C E ma σ H _
  refine lf_imp (lI_bind h) ?_
  rintro x H1 ⟨ι1, env1, own1, d, A1, rp, pp⟩
  show lE C E mb σ H1 _
  refine ⟨ι1, env1, own1, A1, ?_⟩
  have pp : PostI C E ι1 H1 ((mb env1 own1).bind fun e o => zipF d e o) Rn := pp
  cases q : mb env1 own1 with
  | exc c o => rw [q] at pp; exact pp
  | bad => rw [q] at pp; exact pp
  | ok e o =>
    rw [q] at pp
    have pp : PostI C E ι1 H1 (zipF d e o) Rn := pp
    intro y ι2 H2 g2 r2 rp2
    have rp' := rp.mono g2.sub g2.pre
    unfold zipF at pp
    split at pp
    · rename_i xs ys e1 e2
      obtain ⟨l, vs, rfl, h1, h2⟩ := lsD_ok rp' e1
      obtain ⟨m, ws, rfl, h3, h4⟩ := lsD_ok rp2 e2
      refine ⟨l, m, vs, ws, rfl, by rw [hX]; exact sql_sub fz_sub h1, by rw [hX]; exact sql_sub fz_sub h3, ?_⟩
      rw [hX]
      exact pp _ ι2 H2 g2 r2 (jok_zip h1 h2 h3 h4)
    · exact pp.elim
theorem rgC4 {j : Int} (h0 : 0 ≤ j) (h1 : j < 1000000000) : RgC 0 j 4 ((j.toNat + 3) / 4) := by
  have hs : Builtin.Range.rangeSize 0 j 4 = (((j.toNat + 3) / 4 : Nat) : Int) := by
    rw [PyProof.Rows.rangeSize_pos (by decide) h0]
    omega
  refine ⟨by decide, by decide, ?_, hs⟩
  unfold Builtin.Range.small
  rw [hs]
  simp only [Builtin.Range.rangeFitsLong, Bool.and_eq_true, Bool.or_eq_true, decide_eq_true_eq, beq_iff_eq, show ((4 : Int) > 0) by decide, if_true]
  omega
theorem mi_rng4 {i1 i2 p1 p2} (hm : X.mg "range" = none) (ha : PE X a (lE C E ma)) (hg : Gl X "range" := by rfl) (hs : starEach [.Constant (.int 0) i1 p1, a, .Constant (.int 4) i2 p2] X.env = (false, eval (.Constant (.int 0) i1 p1) X.env) :: starEach [a, .Constant (.int 4) i2 p2] X.env := by rfl) (hs2 : starEach [a, .Constant (.int 4) i2 p2] X.env = (false, eval a X.env) :: starEach [.Constant (.int 4) i2 p2] X.env := by rfl) (hs3 : starEach [.Constant (.int 4) i2 p2] X.env = [(false, eval (.Constant (.int 4) i2 p2) X.env)] := by rfl) (hpl : (backTo pos (starEach [a, .Constant (.int 4) i2 p2] X.env)).any (·.1) = false := by rfl) : PI X tg (.Call (.Name "range" p) [.Constant (.int 0) i1 p1, a, .Constant (.int 4) i2 p2] [] pos) (lI C E (mRng4 ma)) := pi_w (pi_range3 hg hm (pa_cons pe_int (pa_cons ha (pa_cons pe_int pa_nil hs3) hs2) hs) hs hpl) fun σ H Rn h => by
  show lE C E ma σ H _
  refine lf_imp (lI_bind h) ?_
  rintro x H1 ⟨ι1, env1, own1, d, A1, rp, pp⟩
  unfold rng4F at pp
  split at pp
  · split at pp
    · rename_i hz
      rw [cB_iff] at hz
      cases rp
      exact ⟨_, _, _, _, rfl, rgC4 hz.1 hz.2, pp _ ι1 H1 .refl A1.r jok_rngC⟩
    · exact pp.elim
  · exact pp.elim
/-! ### every fourth of a list -/
def ix4 (n : Nat) : List Nat := sliceRange (sliceBounds none none (some 4) n).1 (sliceBounds none none (some 4) n).2.1 (sliceBounds none none (some 4) n).2.2
theorem ix4_is (n : Nat) : ix4 n = (List.range ((n + 3) / 4)).map fun k => 4 * k := by
  unfold ix4 sliceBounds sliceRange
  dsimp only [Option.getD]
  simp only [show ((4 : Int) > 0) by decide, if_true]
  have hc : (if (0 : Int) < (n : Int) then ((n : Int) - 0 + 4 - 1) / 4 else 0).toNat = (n + 3) / 4 := by
    split <;> omega
  rw [hc]
  exact List.map_congr_left fun k _ => by omega
def pk4 {α : Type} (xs : List α) : List α := (ix4 xs.length).filterMap (xs[·]?)
theorem pick4 (its : List Value) : slicePick its.toArray none none (some 4) = (pk4 its).toArray := by
  unfold slicePick pk4 ix4
  simp only [List.size_toArray]
  congr 2
  funext i
  simp
theorem fmap_vals : ∀ {ix : List Nat} {xs : List V} {us : List Value}, Vals xs us → Vals (ix.filterMap (xs[·]?)) (ix.filterMap (us[·]?))
  | [], _, _, _ => .nil
  | i :: ix, xs, us, h => by
    rw [List.filterMap_cons, List.filterMap_cons]
    cases e : xs[i]? with
    | none =>
      have : us[i]? = none := by
        have h1 := List.getElem?_eq_none_iff.mp e
        exact List.getElem?_eq_none_iff.mpr (by rw [← h.length]; exact h1)
      rw [this]
      exact fmap_vals h
    | some x =>
      obtain ⟨u, hu, r⟩ := h.get e
      rw [hu]
      exact .cons r (fmap_vals h)
theorem fmap_rp {K : PySem.W.Frag} {ω : Hp} {ι : List Addr} : ∀ {ix : List Nat} {vs : List V} {ds : List D}, RpAll K ω ι vs ds → RpAll K ω ι (ix.filterMap (vs[·]?)) (ix.filterMap (ds[·]?))
  | [], _, _, _ => .nil
  | i :: ix, vs, ds, h => by
    rw [List.filterMap_cons, List.filterMap_cons]
    cases e : ds[i]? with
    | none =>
      have : vs[i]? = none := by
        have h1 := List.getElem?_eq_none_iff.mp e
        exact List.getElem?_eq_none_iff.mpr (by rw [h.len]; exact h1)
      rw [this]
      exact fmap_rp h
    | some d =>
      obtain ⟨v, hv, r⟩ := h.get e
      rw [hv]
      exact .cons r (fmap_rp h)
theorem pk4_len {α : Type} (xs : List α) : (pk4 xs).length ≤ xs.length := by
  unfold pk4
  refine Nat.le_trans (List.length_filterMap_le _ _) ?_
  rw [ix4_is, List.length_map, List.length_range]
  omega
abbrev tS4 (K : PySem.W.Frag) (te : TE) : TE := fun σ H Q => te σ H fun x H1 => ∃ a xs, x = .ref a ∧ SqL K H1 a xs ∧ ∀ p, H1 p = none → Q (.ref p) (upd H1 p (.lst (pk4 xs)))
theorem pe_s4 {te : TE} {i1 p1 p3} (he : PE X a te) : PE X (.Subscript a (.Slice none none (some (.Constant (.int 4) i1 p1)) p3) pos) (tS4 X.K te) := by
  refine ⟨fun pins s σ H Q I h => ?_⟩
  refine Subscript_ (thn (he.run pins s σ H _ I h) fun v s1 ⟨x, H1, I1, r1, q1⟩ => ?_)
  obtain ⟨a, xs, ex, hx, q⟩ := q1
  subst ex
  cases r1
  have hst : PO X (some (.Constant (.int 4) i1 p1)) (tPart (tC (.int 4))) := po_some pe_int
  refine wpAny_Slice (thn (po_none.run pins s1 σ H1 (fun o H2 => o = none ∧ H2 = H1) I1 ⟨rfl, rfl⟩) fun vl s2 ⟨l, H2, I2, pl, el, e2⟩ => ?_)
  subst el e2
  refine thn (po_none.run pins s2 σ H2 (fun o H3 => o = none ∧ H3 = H2) I2 ⟨rfl, rfl⟩) fun vu s3 ⟨u, H3, I3, pu, eu, e3⟩ => ?_
  subst eu e3
  refine thn (hst.run pins s3 σ H3 (fun o H4 => o = some 4 ∧ H4 = H3) I3 ⟨_, rfl, rfl, rfl⟩) fun vs s4 ⟨o, H4, I4, ps, eo, e4⟩ => ?_
  subst eo e4
  have I5 : Inv X pins σ H4 { s4 with heap := s4.heap.push { cls := .type "slice", data := .fields #[vl, vu, vs] } } := I4.kept (t' := s4.toks) fun b ob q => Heap.get?_push_of_some _ q
  obtain ⟨its, r, ht, hz⟩ := I5.list hx
  have hlen := r.length
  show wpAny (model X.prog X.w) X.A (subscriptTail _ (.Slice none none (some _) p3) (.ref a) (.ref s4.heap.objs.size)) (EP X pins σ Q) X.xe { s4 with heap := s4.heap.push { cls := .type "slice", data := .fields #[vl, vu, vs] } }
  refine tail_any (ops := [.ref a, .ref s4.heap.objs.size]) ht.isList.typeIs (PySem.slot_list_getitem.lookup) ?_ (by with_unfolding_all rfl)
  refine wpAny_getItem_list_slice ht.isList (Heap.IsSliceOf.new _ vl vu vs) pl pu ps (by decide) ?_ (by rw [List.size_toArray]; omega)
  rw [pick4]
  have rv : Vals (pk4 xs) (pk4 its) := by
    unfold pk4
    rw [hlen]
    exact fmap_vals r
  refine ⟨.ref _, _, I5.laid (t' := s4.toks) (o := .lst (pk4 xs)) (fun b ob q => Heap.get?_push_of_some _ q) (Nat.le_refl _) ?_, rfl, q _ (I5.hok.fresh (Nat.le_refl _))⟩
  exact ⟨Nat.le_trans (pk4_len xs) hz, _, 0, rv, Heap.get?_push_size _ rfl⟩
theorem k_s4 (K : PySem.W.Frag) {te : TE} {i1 p1 p3} (he : PE X a te) (h : X.K = K := by rfl) : PE X (.Subscript a (.Slice none none (some (.Constant (.int 4) i1 p1)) p3) pos) (tS4 K te) := by subst h; exact pe_s4 he
def st4F (d : D) (own : Own) : R D := match seqD own d with
  | some xs => .ok (.lst (pk4 xs)) own
  | none => .bad
theorem me_s4 {i1 p1 p3} (ha : PE X a (lE C E ma)) (hX : X.K = C.K := by rfl) : PE X (.Subscript a (.Slice none none (some (.Constant (.int 4) i1 p1)) p3) pos) (lE C E (m1 st4F ma)) := pe_w (k_s4 C.K ha hX) fun σ H Q h => by
  refine lf_imp (lf_bind h) ?_
  rintro x H1 ⟨ι1, env1, own1, d, A1, rx, p1⟩
  unfold st4F at p1
  split at p1
  · rename_i ys q
    obtain ⟨b, vs, rfl, h1, h2⟩ := seqD_ok A1.r rx q
    refine ⟨b, vs, rfl, h1, fun p hp => p1.newL A1.r ?_ hp⟩
    unfold pk4
    rw [h2.len]
    exact fmap_rp h2
  · exact p1.elim
/-! ### the place of a text in a tuple of texts of the module -/
def TupO (K : PySem.W.Frag) (p : Addr) : Prop := ∃ o, K.lookup p = some o ∧ o.cls = .type "tuple" ∧ o.dict = none
def TupG (K : PySem.W.Frag) (mg : Str → Option Value) (x : Str) (d : D) : Prop := ∃ p, mg x = some (.ref p) ∧ (∀ ω ι, Rp K ω ι (.ref p) d) ∧ TupO K p
theorem TupG.g {K : PySem.W.Frag} {mg : Str → Option Value} {x : Str} {d : D} (h : TupG K mg x d) : ∃ p, mg x = some (.ref p) ∧ ∀ ω ι, Rp K ω ι (.ref p) d := by
  obtain ⟨p, h1, h2, _⟩ := h
  exact ⟨p, h1, h2⟩
def tidxF (ys : List Str) (d : D) (own : Own) : R D := match d with
  | .str z => (match ys.findIdx? (fun y => decide (y = z)) with
    | some j => .ok (.int (j : Nat)) own
    | none => .bad)
  | _ => .bad
theorem k_tidx (K : PySem.W.Frag) {to : TE} {t : TA} {e : Expr} {apos cpos : Pos} (ho : PE X a to) (ha : PA X [e] t) (h : X.K = K := by rfl) (hbase : attributeBase a "index" X.env (eval a X.env) = eval a X.env := by rfl)
    (hfew : ((backTo cpos (starEach [e] X.env)).all (fun x => !x.1) && (backToKw cpos (keywordEach [] X.env)).all (fun x => x.1.isSome) && decide (([e] : List Expr).length + ([] : List Keyword).length + (if ([] : List Keyword).isEmpty then 0 else 1) < 30)) = true := by rfl)
    (hline : (apos.endLine == cpos.line) = true := by rfl) (hs : starEach [e] X.env = (false, eval e X.env) :: starEach [] X.env := by rfl) (hplain : (backTo cpos (starEach [] X.env)).any (·.1) = false := by rfl) :
    PE X (.Call (.Attribute a "index" apos) [e] [] cpos) (tBM K "tuple" (fun x xs H Q => ∃ p, ∃ ys : List Str, ∃ z j, x = .ref p ∧ xs = [.str z] ∧ SqT K H p (ys.map V.str) ∧ ys[j]? = some z ∧ (∀ m, m < j → ys[m]? ≠ some z) ∧ Q (.int (j : Nat)) H) to t) := by
  subst h
  exact pe_bm PySem.F.plainAttrs_tuple PySem.F.slot_tuple_index PySem.F.type_tuple_index mt_tup_index ho ha hbase hfew hline hs hplain
theorem me_tidx {x : Str} {ys : List Str} {e : Expr} {p1 apos cpos : Pos} (hm : TupG X.K X.mg x (.tup (ys.map D.str))) (he : PE X e (lE C E mb)) (hX : X.K = C.K := by rfl) (hg : Gl X x := by rfl) (hd : (x == ("__debug__" : Str)) = false := by decide) (hbase : attributeBase (.Name x p1) "index" X.env (eval (.Name x p1) X.env) = eval (.Name x p1) X.env := by rfl)
    (hfew : ((backTo cpos (starEach [e] X.env)).all (fun x => !x.1) && (backToKw cpos (keywordEach [] X.env)).all (fun x => x.1.isSome) && decide (([e] : List Expr).length + ([] : List Keyword).length + (if ([] : List Keyword).isEmpty then 0 else 1) < 30)) = true := by rfl)
    (hline : (apos.endLine == cpos.line) = true := by rfl) (hs : starEach [e] X.env = (false, eval e X.env) :: starEach [] X.env := by rfl) (hplain : (backTo cpos (starEach [] X.env)).any (·.1) = false := by rfl) :
    PE X (.Call (.Attribute (.Name x p1) "index" apos) [e] [] cpos) (lE C E (m1 (tidxF ys) mb)) := by
  obtain ⟨q, h1, h2, h3⟩ := hm
  refine pe_w (k_tidx C.K (q_ref h1 hg hd) (pa_cons he pa_nil hs) hX hbase hfew hline hs hplain) fun σ H Q h => ?_
  rw [hX] at h2 h3
  refine ⟨Or.inr (Or.inl ⟨rfl, h3⟩), ?_⟩
  show lE C E mb σ H _
  refine lf_imp (lf_bind h) ?_
  rintro y H1 ⟨ι1, env1, own1, d, A1, ry, p2⟩
  unfold tidxF at p2
  split at p2
  · rename_i z
    split at p2
    · rename_i j ej
      cases ry
      obtain ⟨b', vs', eb, h3, h4⟩ := tup_ok (C := C) (H := H1) (ι := ι1) (h2 _ _)
      cases eb
      rw [strs_ok h4 (strsD_map ys)] at h3
      obtain ⟨hj, hj1, hj2⟩ := List.findIdx?_eq_some_iff_getElem.mp ej
      refine ⟨_, ys, z, j, rfl, rfl, h3, ?_, fun m hm hz => ?_, p2.here A1.r (.int _)⟩
      · rw [List.getElem?_eq_getElem hj]
        simp only [decide_eq_true_eq] at hj1
        rw [hj1]
      · have hml : m < ys.length := by omega
        rw [List.getElem?_eq_getElem hml] at hz
        have := hj2 m hm
        simp only [decide_eq_true_eq] at this
        exact this (Option.some.inj hz)
    · exact p2.elim
  · exact p2.elim
/-! ### a dict of the module: numbers by texts -/
def valT (tab : List (Str × Int)) (z : Str) : Option Int := (tab.find? fun p => decide (p.1 = z)).map (·.2)
structure KTab (K : PySem.W.Frag) (w : World) (d : Addr) (tab : List (Str × Int)) : Prop where
  kd : ∃ es n, KDict K w d es n
  at_ : ∀ z v, valT tab z = some v → ∃ t, PySem.W.nsIn K d z = some (some (.int v t))
  no : ∀ z, valT tab z = none → PySem.W.nsIn K d z = some none
def tabB : List DictEntry → List (Str × Int) → Bool
  | [], [] => true
  | e :: es, (k, v) :: t => (match e.key, e.val with
    | .str s _, .int i _ => decide (s = k) && decide (i = v)
    | _, _ => false) && tabB es t
  | _, _ => false
theorem tabB_find : ∀ {es : List DictEntry} {tab : List (Str × Int)} (z : Str), tabB es tab = true → (es.any (·.refKey)) = false ∧ ((valT tab z = none ∧ es.find? (·.key.isStr z) = none) ∨ ∃ v e t, valT tab z = some v ∧ es.find? (·.key.isStr z) = some e ∧ e.val = .int v t)
  | [], [], z, _ => ⟨rfl, .inl ⟨rfl, rfl⟩⟩
  | [], _ :: _, z, h => by cases h
  | _ :: _, [], z, h => by cases h
  | e :: es, (k, v) :: t, z, h => by
    unfold tabB at h
    rw [Bool.and_eq_true] at h
    obtain ⟨h1, h2⟩ := h
    split at h1
    · rename_i s tk i tv ek ev
      rw [Bool.and_eq_true, decide_eq_true_eq, decide_eq_true_eq] at h1
      obtain ⟨rfl, rfl⟩ := h1
      obtain ⟨r1, r2⟩ := tabB_find z h2
      refine ⟨?_, ?_⟩
      · rw [List.any_cons, r1, Bool.or_false]
        unfold DictEntry.refKey
        rw [ek]
      · by_cases hz : s = z
        · subst hz
          refine .inr ⟨i, e, tv, ?_, ?_, ev⟩
          · unfold valT; rw [List.find?_cons]; simp
          · rw [List.find?_cons, ek]; simp [Value.isStr]
        · have e1 : valT ((s, i) :: t) z = valT t z := by unfold valT; rw [List.find?_cons]; simp [hz]
          have e2 : List.find? (·.key.isStr z) (e :: es) = List.find? (·.key.isStr z) es := by rw [List.find?_cons, ek, show Value.isStr (.str s tk) z = false from beq_eq_false_iff_ne.mpr hz]
          rw [e1, e2]
          exact r2
    · cases h1
theorem ktab_of {K : PySem.W.Frag} {w : World} {d : Addr} {es : Array DictEntry} {n : Nat} {tab : List (Str × Int)} (hl : K.lookup d = some ⟨.type "dict", none, .dict es n, #[]⟩) (hk : PySem.W.KeysLit w.params es.toList) (lo : (d == sysModules) = false) (hb : tabB es.toList tab = true) : KTab K w d tab := by
  refine ⟨⟨es, n, hl, hk, lo⟩, fun z v hv => ?_, fun z hv => ?_⟩
  · obtain ⟨_, h2⟩ := tabB_find z hb
    rcases h2 with ⟨h3, _⟩ | ⟨v', e, t, h3, h4, h5⟩
    · rw [hv] at h3; cases h3
    · rw [hv] at h3
      cases h3
      refine ⟨t, ?_⟩
      unfold PySem.W.nsIn
      rw [hl]
      dsimp only
      rw [h4]
      dsimp only
      rw [h5]
  · obtain ⟨h1, h2⟩ := tabB_find z hb
    rcases h2 with ⟨_, h4⟩ | ⟨v', e, t, h3, _⟩
    · unfold PySem.W.nsIn
      rw [hl]
      dsimp only
      rw [h4]
      dsimp only
      rw [h1]
      rfl
    · rw [hv] at h3; cases h3
def tgetF (tab : List (Str × Int)) (d : D) (own : Own) : R D := match d with
  | .str z => (match valT tab z with
    | some v => .ok (.int v) own
    | none => .bad)
  | _ => .bad
def tinF (tab : List (Str × Int)) (d : D) (own : Own) : R D := match d with
  | .str z => .ok (.bl (valT tab z).isSome) own
  | _ => .bad
theorem me_tget {x : Str} {tab : List (Str × Int)} {p1 : Pos} (hm : ∃ p, X.mg x = some (.ref p) ∧ KTab X.K X.w p tab) (ha : PE X a (lE C E ma)) (hg : Gl X x := by rfl) (hd : (x == ("__debug__" : Str)) = false := by decide) (hs : PlainIx a := by exact fun _ _ => rfl) : PE X (.Subscript (.Name x p1) a pos) (lE C E (m1 (tgetF tab) ma)) := by
  obtain ⟨q, h1, h2⟩ := hm
  refine pe_w (pe_ix ix_kdict (q_ref h1 hg hd) ha hs) fun σ H Q h => ?_
  show lE C E ma σ H _
  refine lf_imp (lf_bind h) ?_
  rintro x H1 ⟨ι1, env1, own1, d, A1, rx, p1⟩
  unfold tgetF at p1
  split at p1
  · rename_i z
    split at p1
    · rename_i v hv
      cases rx
      obtain ⟨t, ht⟩ := h2.at_ z v hv
      obtain ⟨es, n, kd⟩ := h2.kd
      exact ⟨q, z, .int v, rfl, rfl, ⟨es, n, _, kd.at_, kd.lit, ht, ⟨t, rfl⟩⟩, p1.here A1.r (.int _)⟩
    · exact p1.elim
  · exact p1.elim
theorem tin_ok {x : Str} {tab : List (Str × Int)} {q : Addr} (h2 : KTab X.K X.w q tab) {σ : L2.St} {H : Hp} {Q : VK} (h : lE C E (m1 (tinF tab) ma) σ H Q) : lE C E ma σ H fun v H1 => ∃ (z : Str) (r : Option Value), v = .str z ∧ PySem.W.nsIn X.K q z = some r ∧ Q (.bl r.isSome) H1 := by
  refine lf_imp (lf_bind h) ?_
  rintro x H1 ⟨ι1, env1, own1, d, A1, rx, p1⟩
  unfold tinF at p1
  split at p1
  · rename_i z
    cases rx
    cases e : valT tab z with
    | none => rw [e] at p1; exact ⟨z, none, rfl, h2.no z e, p1.here A1.r (.bl _)⟩
    | some v =>
      rw [e] at p1
      obtain ⟨t, ht⟩ := h2.at_ z v e
      exact ⟨z, _, rfl, ht, p1.here A1.r (.bl _)⟩
  · exact p1.elim
theorem me_tin {x : Str} {tab : List (Str × Int)} {p1 : Pos} (hm : ∃ p, X.mg x = some (.ref p) ∧ KTab X.K X.w p tab) (ha : PE X a (lE C E ma)) (hg : Gl X x := by rfl) (hd : (x == ("__debug__" : Str)) = false := by decide) : PE X (.Compare a [.In] [.Name x p1] pos) (lE C E (m1 (tinF tab) ma)) := by
  obtain ⟨q, h1, h2⟩ := hm
  obtain ⟨es, n, kd⟩ := h2.kd
  refine pe_w (pe_cmpR (op_in_kd kd) ha (q_ref h1 hg hd) rfl) fun σ H Q h => ?_
  refine lf_imp (tin_ok (x := x) h2 h) ?_
  rintro v H1 ⟨z, r, rfl, e, q1⟩
  exact ⟨z, r, rfl, rfl, e, q1⟩
end
end Mi

set_option Elab.async false
set_option linter.all false
set_option maxRecDepth 100000
set_option maxHeartbeats 4000000
namespace Mi
open PySem PySem.Spec PyProof.Rows L2 HotX LamX Ws
/-! ### == of plain data with truths -/
mutual
def D.pb : D → Bool
  | .non => true
  | .bl _ => true
  | .int _ => true
  | .str s => PyData.strOk s
  | .tup xs => pbAll xs
  | .lst xs => pbAll xs
  | _ => false
def pbAll : List D → Bool
  | [] => true
  | d :: ds => D.pb d && pbAll ds
end
mutual
/-- a truth counts as a number -/
def D.nrm : D → D
  | .bl b => .int (if b then 1 else 0)
  | .tup xs => .tup (nrmAll xs)
  | .lst xs => .lst (nrmAll xs)
  | d => d
def nrmAll : List D → List D
  | [] => []
  | d :: ds => D.nrm d :: nrmAll ds
end
mutual
theorem pb_py : ∀ (d : D), d.pb = true → ∃ x, toPy d = some x ∧ x.canLay0 = true ∧ x.depth = d.dp
  | .non, _ => ⟨.none, rfl, rfl, rfl⟩
  | .bl b, _ => ⟨.bool b, rfl, rfl, rfl⟩
  | .int i, _ => ⟨.int i, rfl, rfl, rfl⟩
  | .str i, h => ⟨.str i, rfl, by simpa [D.pb, PyData.canLay0] using h, rfl⟩
  | .tup xs, h => by
    obtain ⟨ys, h1, h2, h3⟩ := pbAll_py xs (by simpa [D.pb] using h)
    exact ⟨.tuple ys, by simp [toPy, h1], by simpa [PyData.canLay0] using h2, by simp [PyData.depth, D.dp, h3]⟩
  | .lst xs, h => by
    obtain ⟨ys, h1, h2, h3⟩ := pbAll_py xs (by simpa [D.pb] using h)
    exact ⟨.list ys, by simp [toPy, h1], by simpa [PyData.canLay0] using h2, by simp [PyData.depth, D.dp, h3]⟩
  | .frz _, h => by simp [D.pb] at h
  | .ref _, h => by simp [D.pb] at h
theorem pbAll_py : ∀ (ds : List D), pbAll ds = true → ∃ xs, toPyAll ds = some xs ∧ PyData.canLayAll0 xs = true ∧ PyData.depthAll xs = dpAll ds
  | [], _ => ⟨[], by simp [toPyAll], by simp [PyData.canLayAll0], by simp [PyData.depthAll, dpAll]⟩
  | d :: ds, h => by
    simp [pbAll] at h
    obtain ⟨x, h1, h2, h3⟩ := pb_py d h.1
    obtain ⟨xs, h4, h5, h6⟩ := pbAll_py ds h.2
    exact ⟨x :: xs, by simp [toPyAll, h1, h4], by simp [PyData.canLayAll0, h2, h5], by simp [PyData.depthAll, dpAll, h3, h6]⟩
end
mutual
theorem pb_eqv : ∀ (d e : D) (x y : PyData), d.pb = true → e.pb = true → toPy d = some x → toPy e = some y → (PyData.eqv x y = true ↔ d.nrm = e.nrm)
  | d, e, x, y, hd, he, ex, ey => by
    cases d with
    | non =>
      cases e <;> first | (simp [D.pb] at he; done) | (simp [toPy] at ex ey; subst ex; subst ey; simp [PyData.eqv, D.nrm]; done) | (simp [toPy] at ex ey; obtain ⟨_, _, rfl⟩ := ey; subst ex; simp [PyData.eqv, D.nrm])
    | bl i =>
      cases e <;> first | (simp [D.pb] at he; done) | (simp [toPy] at ex ey; subst ex; subst ey; simp [PyData.eqv, D.nrm]; done) | (simp [toPy] at ex ey; subst ex; subst ey; rename_i j; cases i <;> cases j <;> simp [PyData.eqv, D.nrm]; done) | (simp [toPy] at ex ey; obtain ⟨_, _, rfl⟩ := ey; subst ex; simp [PyData.eqv, D.nrm])
    | int i =>
      cases e <;> first | (simp [D.pb] at he; done) | (simp [toPy] at ex ey; subst ex; subst ey; simp [PyData.eqv, D.nrm]; done) | (simp [toPy] at ex ey; obtain ⟨_, _, rfl⟩ := ey; subst ex; simp [PyData.eqv, D.nrm])
    | str i =>
      cases e <;> first | (simp [D.pb] at he; done) | (simp [toPy] at ex ey; subst ex; subst ey; simp [PyData.eqv, D.nrm]; done) | (simp [toPy] at ex ey; obtain ⟨_, _, rfl⟩ := ey; subst ex; simp [PyData.eqv, D.nrm])
    | tup xs =>
      simp [toPy] at ex
      obtain ⟨l, h1, rfl⟩ := ex
      cases e with
      | tup ys =>
        simp [toPy] at ey
        obtain ⟨m, h2, rfl⟩ := ey
        simp [PyData.eqv, D.nrm]
        exact pbAll_eqv xs ys l m (by simpa [D.pb] using hd) (by simpa [D.pb] using he) h1 h2
      | lst ys => simp [toPy] at ey; obtain ⟨m, h2, rfl⟩ := ey; simp [PyData.eqv, D.nrm]
      | _ => first | (simp [D.pb] at he; done) | (simp [toPy] at ey; subst ey; simp [PyData.eqv, D.nrm])
    | lst xs =>
      simp [toPy] at ex
      obtain ⟨l, h1, rfl⟩ := ex
      cases e with
      | lst ys =>
        simp [toPy] at ey
        obtain ⟨m, h2, rfl⟩ := ey
        simp [PyData.eqv, D.nrm]
        exact pbAll_eqv xs ys l m (by simpa [D.pb] using hd) (by simpa [D.pb] using he) h1 h2
      | tup ys => simp [toPy] at ey; obtain ⟨m, h2, rfl⟩ := ey; simp [PyData.eqv, D.nrm]
      | _ => first | (simp [D.pb] at he; done) | (simp [toPy] at ey; subst ey; simp [PyData.eqv, D.nrm])
    | frz _ => simp [D.pb] at hd
    | ref _ => simp [D.pb] at hd
theorem pbAll_eqv : ∀ (ds es : List D) (xs ys : List PyData), pbAll ds = true → pbAll es = true → toPyAll ds = some xs → toPyAll es = some ys → (PyData.eqvAll xs ys = true ↔ nrmAll ds = nrmAll es)
  | [], [], xs, ys, _, _, ex, ey => by simp [toPyAll] at ex ey; subst ex; subst ey; simp [PyData.eqvAll, nrmAll]
  | [], e :: es, xs, ys, _, he, ex, ey => by
    simp [pbAll] at he
    obtain ⟨y, h1, _⟩ := pb_py e he.1
    obtain ⟨l, h2, _⟩ := pbAll_py es he.2
    simp [toPyAll, h1, h2] at ex ey; subst ex; subst ey; simp [PyData.eqvAll, nrmAll]
  | d :: ds, [], xs, ys, hd, _, ex, ey => by
    simp [pbAll] at hd
    obtain ⟨y, h1, _⟩ := pb_py d hd.1
    obtain ⟨l, h2, _⟩ := pbAll_py ds hd.2
    simp [toPyAll, h1, h2] at ex ey; subst ex; subst ey; simp [PyData.eqvAll, nrmAll]
  | d :: ds, e :: es, xs, ys, hd, he, ex, ey => by
    simp [pbAll] at hd he
    obtain ⟨x, h1, _⟩ := pb_py d hd.1
    obtain ⟨l, h2, _⟩ := pbAll_py ds hd.2
    obtain ⟨y, h3, _⟩ := pb_py e he.1
    obtain ⟨m, h4, _⟩ := pbAll_py es he.2
    simp [toPyAll, h1, h2] at ex
    simp [toPyAll, h3, h4] at ey
    subst ex; subst ey
    rw [PyData.eqvAll, Bool.and_eq_true, pb_eqv d e x y hd.1 he.1 h1 h3, pbAll_eqv ds es l m hd.2 he.2 h2 h4]
    simp [nrmAll]
end
theorem pb_shaped {d : D} {x : PyData} (h : d.pb = true) (hd : d.dp ≤ 64) (e : toPy d = some x) : SeqAt.shaped x = true := by
  obtain ⟨y, h1, h2, h3⟩ := pb_py d h
  rw [e] at h1
  cases h1
  unfold SeqAt.shaped
  rw [h2, h3, decide_eq_true hd]
  rfl
theorem pb_top {own : Own} {d : D} (h : d.pb = true) : toPyT own d = toPy d := by
  cases d <;> first | rfl | simp [D.pb] at h
theorem sclEq_pb {d e : D} {b : Bool} (pd : d.pb = true) (pe : e.pb = true) (h : sclEq d e = some b) : b = cB (d.nrm = e.nrm) := by
  unfold sclEq at h
  split at h <;> first | (simp [D.pb] at pd; done) | (cases h; done) | (cases h; simp [cB_t, cB_f, D.nrm]; done) | (cases h; congr 1; apply propext; constructor <;> intro z <;> first | (cases z; rfl) | (rw [z])) | skip
  all_goals (rename_i x y; cases h; cases x <;> cases y <;> simp [cB_t, cB_f, D.nrm])
theorem eqF_pb {own : Own} {d e : D} (pd : d.pb = true) (pe : e.pb = true) (hd : d.dp ≤ 64) (he : e.dp ≤ 64) : eqF d e own = .ok (.bl (cB (d.nrm = e.nrm))) own := by
  obtain ⟨x, h1, _⟩ := pb_py d pd
  obtain ⟨y, h2, _⟩ := pb_py e pe
  unfold eqF
  cases q : sclEq d e with
  | some b => rw [sclEq_pb pd pe q]
  | none =>
  rw [pb_top pd, pb_top pe, h1, h2]
  dsimp only
  rw [if_pos ⟨pb_shaped pd hd h1, pb_shaped pe he h2⟩]
  have := pb_eqv d e x y pd pe h1 h2
  by_cases z : d.nrm = e.nrm
  · rw [cB_t z, this.mpr z]
  · rw [cB_f z, Bool.eq_false_iff.mpr (fun q => z (this.mp q))]
theorem neF_pb {own : Own} {d e : D} (pd : d.pb = true) (pe : e.pb = true) (hd : d.dp ≤ 64) (he : e.dp ≤ 64) : neF d e own = .ok (.bl (!cB (d.nrm = e.nrm))) own := by
  obtain ⟨x, h1, _⟩ := pb_py d pd
  obtain ⟨y, h2, _⟩ := pb_py e pe
  unfold neF
  cases q : sclEq d e with
  | some b => rw [sclEq_pb pd pe q]
  | none =>
  rw [pb_top pd, pb_top pe, h1, h2]
  dsimp only
  rw [if_pos ⟨pb_shaped pd hd h1, pb_shaped pe he h2⟩]
  have := pb_eqv d e x y pd pe h1 h2
  by_cases z : d.nrm = e.nrm
  · rw [cB_t z, this.mpr z]
  · rw [cB_f z, Bool.eq_false_iff.mpr (fun q => z (this.mp q))]
theorem nrm_ints (l : List Int) : nrmAll (l.map D.int) = l.map D.int := by
  induction l with
  | nil => simp [nrmAll]
  | cons b l ih => simp [nrmAll, D.nrm, ih]
theorem pb_ints (l : List Int) : pbAll (l.map D.int) = true := by
  induction l with
  | nil => simp [pbAll]
  | cons b l ih => simp [pbAll, D.pb, ih]
/-! ### sheets -/
inductive Sh where
  | piece (s : Int) (t : Str) (l : Bool)
  | heads (s : Int) (b : List Int) (l : Bool)
  | rank (s a w : Int)
  | cut (s c : Int)
  | terms (ps : List (Nat × Int))
  | heard
  | knock (n : Int)
  | knocked (n : Int)
  | last (s c : Int)
  | room (s n : Int)
def tn (i : Nat) : Str := ([("piece" : Str), "room", "strands", "book"] : List Str).getD i "book"
def tlo (i : Nat) : Int := if i = 0 then 1 else 0
def thi (i : Nat) : Int := [(16384 : Int), 65535, 255, 4096].getD i 4096
def tD4 (p : Nat × Int) : D := .tup [.str (tn p.1), .int p.2]
def Sh.d : Sh → D
  | .piece s t l => .tup [.str "piece", .int s, .str t, .bl l]
  | .heads s b l => .tup [.str "heads", .int s, .tup (b.map D.int), .bl l]
  | .rank s a w => .tup [.str "rank", .int s, .int a, .int w]
  | .cut s c => .tup [.str "cut", .int s, .int c]
  | .terms ps => .tup [.str "terms", .tup (ps.map tD4)]
  | .heard => .tup [.str "heard"]
  | .knock n => .tup [.str "knock", .int n]
  | .knocked n => .tup [.str "knocked", .int n]
  | .last s c => .tup [.str "last", .int s, .int c]
  | .room s n => .tup [.str "room", .int s, .int n]
def Sh.word : Sh → Str
  | .piece .. => "piece" | .heads .. => "heads" | .rank .. => "rank" | .cut .. => "cut" | .terms _ => "terms" | .heard => "heard" | .knock _ => "knock" | .knocked _ => "knocked" | .last .. => "last" | .room .. => "room"
def Sh.parts : Sh → List D
  | .piece s t l => [.int s, .str t, .bl l]
  | .heads s b l => [.int s, .tup (b.map D.int), .bl l]
  | .rank s a w => [.int s, .int a, .int w]
  | .cut s c => [.int s, .int c]
  | .terms ps => [.tup (ps.map tD4)]
  | .heard => []
  | .knock n => [.int n]
  | .knocked n => [.int n]
  | .last s c => [.int s, .int c]
  | .room s n => [.int s, .int n]
theorem Sh.d_is (s : Sh) : s.d = .tup (.str s.word :: s.parts) := by cases s <;> rfl
def strd (s : Int) : Prop := 1 ≤ s ∧ s ≤ 16777215
def num3 (n : Int) : Prop := 0 ≤ n ∧ n ≤ 16777215
def codeP (c : Int) : Prop := 0 ≤ c ∧ c ≤ 9
def Sh.ok : Sh → Prop
  | .piece s t _ => strd s ∧ isTx (.str t) 65535 = true
  | .heads s b _ => strd s ∧ b.length ≤ 65535 ∧ ∀ x ∈ b, 0 ≤ x ∧ x ≤ 255
  | .rank s a w => strd s ∧ num3 a ∧ a ≠ s ∧ 1 ≤ w ∧ w ≤ 256
  | .cut s c => strd s ∧ codeP c
  | .terms ps => (∀ p ∈ ps, tlo p.1 ≤ p.2 ∧ p.2 ≤ thi p.1) ∧ ps.Pairwise fun p q => p.1 < q.1
  | .heard => True
  | .knock n => num3 n
  | .knocked n => num3 n
  | .last s c => num3 s ∧ codeP c
  | .room s n => num3 s ∧ 1 ≤ n ∧ n ≤ 16777215
/-- its shape is right, and it is not too long to be looked at -/
def Sh.wf : Sh → Prop
  | .piece _ t _ => t.length ≤ 100000
  | .heads _ b _ => b.length ≤ 100000
  | .terms ps => ps.length ≤ 100000 ∧ ∀ p ∈ ps, p.1 < 4
  | _ => True
def th (n : Int) : List Int := [n / 65536, n / 256 % 256, n % 256]
def Sh.kind : Sh → Int
  | .piece .. => 0 | .heads .. => 1 | .rank .. => 2 | .cut .. => 3 | .terms _ => 4 | .heard => 4 | .knock _ => 5 | .knocked _ => 5 | .last .. => 6 | .room .. => 7
def Sh.mark : Sh → Bool
  | .piece _ _ l => l | .heads _ _ l => l | .heard => true | .knocked _ => true | _ => false
def Sh.strand : Sh → Int
  | .piece s _ _ => s | .heads s _ _ => s | .rank s _ _ => s | .cut s _ => s | .room s _ => s | _ => 0
def Sh.rest : Sh → List Int
  | .piece _ t _ => t.cps.toList.map Int.ofNat
  | .heads _ b _ => b
  | .rank _ a w => th a ++ [w - 1]
  | .cut _ c => [c]
  | .terms ps => ps.flatMap fun p => (p.1 : Int) :: th p.2
  | .heard => []
  | .knock n => th n
  | .knocked n => th n
  | .last s c => th s ++ [c]
  | .room _ n => th n
def bI (b : Bool) : Int := if b then 1 else 0
def Sh.hd (s : Sh) (n : Nat) : List Int := [(n : Int) / 256, (n : Int) % 256, s.kind, bI s.mark] ++ th s.strand
def Sh.by (s : Sh) : List Int := s.hd s.rest.length ++ s.rest
theorem th_inj {a b : Int} (ha : num3 a) (hb : num3 b) (h : th a = th b) : a = b := by
  unfold th num3 at *
  simp only [List.cons.injEq, and_true] at h
  omega
theorem bI_inj {a b : Bool} (h : bI a = bI b) : a = b := by
  cases a <;> cases b <;> simp [bI] at h <;> rfl
theorem by_hd (s : Sh) : s.by.length = 7 + s.rest.length := by simp [Sh.by, Sh.hd, th]; omega
theorem ofNat_inj {x y : List Nat} (h : x.map Int.ofNat = y.map Int.ofNat) : x = y := List.map_inj_right (fun a b e => Int.ofNat.inj e) |>.mp h
theorem flat_inj : ∀ {ps qs : List (Nat × Int)}, (∀ p ∈ ps, num3 p.2) → (∀ p ∈ qs, num3 p.2) → (ps.flatMap fun p => (p.1 : Int) :: th p.2) = (qs.flatMap fun p => (p.1 : Int) :: th p.2) → ps = qs
  | [], [], _, _, _ => rfl
  | [], q :: qs, _, _, h => by simp [th] at h
  | p :: ps, [], _, _, h => by simp [th] at h
  | p :: ps, q :: qs, hp, hq, h => by
    have h1 := hp p List.mem_cons_self
    have h2 := hq q List.mem_cons_self
    unfold num3 at h1 h2
    simp only [List.flatMap_cons, th, List.cons_append, List.nil_append, List.cons.injEq] at h
    have e : p = q := by
      obtain ⟨a, b⟩ := p
      obtain ⟨c, d⟩ := q
      simp only at *
      have : a = c := by omega
      have : b = d := by omega
      subst_vars
      rfl
    rw [e, flat_inj (fun x hx => hp x (List.mem_cons_of_mem _ hx)) (fun x hx => hq x (List.mem_cons_of_mem _ hx)) h.2.2.2.2]
theorem ok_terms {ps : List (Nat × Int)} (h : (Sh.terms ps).ok) : ∀ p ∈ ps, num3 p.2 := fun p hp => by
  have h1 := h.1 p hp
  have h0 : 0 ≤ tlo p.1 := by unfold tlo; split <;> omega
  have h2 : thi p.1 ≤ 16777215 := by
    unfold thi
    match p.1 with
    | 0 => decide
    | 1 => decide
    | 2 => decide
    | 3 => decide
    | n + 4 => simp
  unfold num3
  omega
theorem by_inj {s s' : Sh} (o : s.ok) (o' : s'.ok) (h : s.by = s'.by) : s = s' := by
  have hl : s.rest.length = s'.rest.length := by
    have := congrArg List.length h
    rw [by_hd, by_hd] at this
    omega
  unfold Sh.by at h
  have hh := List.append_inj h (by simp [Sh.hd, th]); clear h
  obtain ⟨h1, h2⟩ := hh
  unfold Sh.hd th at h1
  simp only [List.cons_append, List.nil_append, List.cons.injEq, and_true] at h1
  obtain ⟨x1, x2, hk, hm, hs⟩ := h1
  clear x1 x2 hl
  replace hm := bI_inj hm
  cases s <;> cases s' <;> simp only [Sh.kind] at hk <;> first | (exfalso; revert hk; decide) | (simp only [Sh.mark] at hm; first | (exfalso; revert hm; decide) | skip)
  case piece.piece =>
    simp only [Sh.ok, strd, Sh.strand, Sh.rest] at *
    rename_i a t l b u m
    have e1 : a = b := by omega
    have e2 := ofNat_inj h2
    have e3 : t = u := by cases t; cases u; simp only [Array.toList_inj] at e2; rw [e2]
    subst e1 e3 hm
    rfl
  case heads.heads =>
    simp only [Sh.ok, strd, Sh.strand, Sh.rest] at *
    rename_i a t l b u m
    have e1 : a = b := by omega
    subst e1 h2 hm
    rfl
  case rank.rank =>
    simp only [Sh.ok, strd, num3, Sh.strand, Sh.rest, th, List.cons_append, List.nil_append, List.cons.injEq, and_true] at *
    rename_i a b c a' b' c'
    have e1 : a = a' := by omega
    have e2 : b = b' := by omega
    have e3 : c = c' := by omega
    subst e1 e2 e3
    rfl
  case cut.cut =>
    simp only [Sh.ok, strd, codeP, Sh.strand, Sh.rest, List.cons.injEq, and_true] at *
    rename_i a b a' b'
    have e1 : a = a' := by omega
    subst e1 h2
    rfl
  case terms.terms =>
    rename_i ps qs
    rw [flat_inj (ok_terms o) (ok_terms o') h2]
  case heard.heard => rfl
  case knock.knock =>
    rename_i a b
    rw [th_inj (a := a) (b := b) o o' h2]
  case knocked.knocked =>
    rename_i a b
    rw [th_inj (a := a) (b := b) o o' h2]
  case last.last =>
    simp only [Sh.ok, num3, codeP, Sh.strand, Sh.rest, th, List.cons_append, List.nil_append, List.cons.injEq, and_true] at *
    rename_i a b a' b'
    have e1 : a = a' := by omega
    have e2 : b = b' := by omega
    subst e1 e2
    rfl
  case room.room =>
    simp only [Sh.ok, num3, Sh.strand, Sh.rest, th, List.cons.injEq, and_true] at *
    rename_i a b a' b'
    have e1 : a = a' := by omega
    have e2 : b = b' := by omega
    subst e1 e2
    rfl
theorem isTx_len {t : Str} (h : isTx (.str t) 65535 = true) : t.length ≤ 65535 ∧ ∀ c ∈ t.cps.toList, c ∈ sg := by
  unfold isTx at h
  rw [Bool.and_eq_true, cB_iff, List.all_eq_true] at h
  exact ⟨by omega, fun c hc => of_decide_eq_true (h.2 c hc)⟩
theorem terms_le : ∀ {ps : List (Nat × Int)} {n m : Nat}, (ps.Pairwise fun p q => p.1 < q.1) → (∀ p ∈ ps, n ≤ p.1 ∧ p.1 < m) → ps.length ≤ m - n
  | [], _, _, _, _ => Nat.zero_le _
  | p :: ps, n, m, hp, h => by
    rw [List.pairwise_cons] at hp
    have h1 := h p List.mem_cons_self
    have := terms_le (n := p.1 + 1) (m := m) hp.2 fun q hq => ⟨hp.1 q hq, (h q (List.mem_cons_of_mem _ hq)).2⟩
    rw [List.length_cons]
    omega
theorem terms_len {ps : List (Nat × Int)} (hp : ps.Pairwise fun p q => p.1 < q.1) (h4 : ∀ p ∈ ps, p.1 < 4) : ps.length ≤ 4 := terms_le hp fun p h => ⟨Nat.zero_le _, h4 p h⟩
theorem sum_four {α : Type} : ∀ l : List α, (l.map fun _ => 4).sum = 4 * l.length
  | [] => rfl
  | a :: l => by rw [List.map_cons, List.sum_cons, sum_four l, List.length_cons]; omega
theorem rest_len {s : Sh} (o : s.ok) (w : s.wf) : s.rest.length ≤ 65535 := by
  cases s with
  | piece s t l => simp only [Sh.rest, List.length_map]; exact (isTx_len o.2).1
  | heads s b l => exact o.2.1
  | terms ps =>
    have := terms_len o.2 w.2
    simp only [Sh.rest, List.length_flatMap]
    have : (ps.map fun p => ((p.1 : Int) :: th p.2).length) = ps.map fun _ => 4 := List.map_congr_left fun p _ => by simp [th]
    rw [this]
    rw [sum_four]
    omega
  | _ => simp [Sh.rest, th]
/-- how long it is stands in the first two -/
theorem by_len {s : Sh} (o : s.ok) (w : s.wf) : ∃ r, s.by = (s.rest.length : Int) / 256 :: (s.rest.length : Int) % 256 :: r ∧ (s.by.length : Int) = 7 + 256 * ((s.rest.length : Int) / 256) + (s.rest.length : Int) % 256 := by
  refine ⟨_, rfl, ?_⟩
  rw [by_hd]
  omega
theorem by_pre {s s' : Sh} (o : s.ok) (o' : s'.ok) (w : s.wf) (w' : s'.wf) (h : s'.by.take s.by.length = s.by) : s = s' := by
  obtain ⟨r, h1, h2⟩ := by_len o w
  obtain ⟨r', h3, h4⟩ := by_len o' w'
  have hh := by_hd s
  have hl : s.by.length = s'.by.length := by
    have e1 : s'.by.take 2 = s.by.take 2 := by
      rw [← h, List.take_take, Nat.min_eq_left (by omega)]
    rw [h1, h3] at e1
    simp only [List.take_succ_cons, List.take_zero, List.cons.injEq, and_true] at e1
    omega
  rw [hl, List.take_length] at h
  exact by_inj o o' h.symm
/-! ### == of sheets -/
theorem tn_ok (i : Nat) : PyData.strOk (tn i) = true := by
  match i with
  | 0 => decide +kernel
  | 1 => decide +kernel
  | 2 => decide +kernel
  | 3 => decide +kernel
  | n + 4 => exact (by decide +kernel : PyData.strOk (Str.ofString "book") = true)
theorem tn_inj {i j : Nat} (hi : i < 4) (hj : j < 4) (h : tn i = tn j) : i = j := by
  match i, j, hi, hj with
  | 0, 0, _, _ => rfl
  | 1, 1, _, _ => rfl
  | 2, 2, _, _ => rfl
  | 3, 3, _, _ => rfl
  | 0, 1, _, _ => revert h; decide
  | 0, 2, _, _ => revert h; decide
  | 0, 3, _, _ => revert h; decide
  | 1, 0, _, _ => revert h; decide
  | 1, 2, _, _ => revert h; decide
  | 1, 3, _, _ => revert h; decide
  | 2, 0, _, _ => revert h; decide
  | 2, 1, _, _ => revert h; decide
  | 2, 3, _, _ => revert h; decide
  | 3, 0, _, _ => revert h; decide
  | 3, 1, _, _ => revert h; decide
  | 3, 2, _, _ => revert h; decide
theorem pb_tD4 (ps : List (Nat × Int)) : pbAll (ps.map tD4) = true := by
  induction ps with
  | nil => simp [pbAll]
  | cons p ps ih => simp [pbAll, tD4, D.pb, ih, tn_ok]
theorem nrm_tD4 (ps : List (Nat × Int)) : nrmAll (ps.map tD4) = ps.map tD4 := by
  induction ps with
  | nil => simp [nrmAll]
  | cons p ps ih => simp [nrmAll, tD4, D.nrm, ih]
theorem dp_tD4 (ps : List (Nat × Int)) : dpAll (ps.map tD4) ≤ 1 := by
  induction ps with
  | nil => simp [dpAll]
  | cons p ps ih => simp [dpAll, tD4, D.dp]; omega
theorem tD4_inj : ∀ {ps qs : List (Nat × Int)}, (∀ p ∈ ps, p.1 < 4) → (∀ p ∈ qs, p.1 < 4) → ps.map tD4 = qs.map tD4 → ps = qs
  | [], [], _, _, _ => rfl
  | [], q :: qs, _, _, h => by cases h
  | p :: ps, [], _, _, h => by cases h
  | p :: ps, q :: qs, hp, hq, h => by
    rw [List.map_cons, List.map_cons, List.cons.injEq] at h
    have h1 := h.1
    unfold tD4 at h1
    simp only [D.tup.injEq, List.cons.injEq, D.str.injEq, D.int.injEq, and_true] at h1
    have e : p = q := Prod.ext (tn_inj (hp p List.mem_cons_self) (hq q List.mem_cons_self) h1.1) h1.2
    rw [e, tD4_inj (fun x hx => hp x (List.mem_cons_of_mem _ hx)) (fun x hx => hq x (List.mem_cons_of_mem _ hx)) h.2]
theorem sg_lt : ∀ c ∈ sg, c < 128 := by decide +kernel
theorem sg_ok {t : Str} (h : ∀ c ∈ t.cps.toList, c ∈ sg) : PyData.strOk t = true := by
  unfold PyData.strOk
  rw [Array.all_eq_true_iff_forall_mem]
  intro c hc
  have := sg_lt c (h c (by simpa using hc))
  simp
  omega
theorem word_ok (s : Sh) : PyData.strOk s.word = true := by cases s <;> simp only [Sh.word] <;> decide +kernel
theorem sh_pb {s : Sh} (o : s.ok) : s.d.pb = true ∧ s.d.dp ≤ 3 := by
  have hw := word_ok s
  rw [s.d_is]
  have : pbAll s.parts = true ∧ dpAll s.parts ≤ 2 := by
    cases s with
    | piece s t l => simp [Sh.parts, pbAll, D.pb, sg_ok (isTx_len o.2).2, dpAll, D.dp]
    | heads s b l => simp [Sh.parts, pbAll, D.pb, pb_ints, dpAll, D.dp, dpAll_ints]
    | terms ps => have := dp_tD4 ps; simp [Sh.parts, pbAll, D.pb, pb_tD4, dpAll, D.dp]; omega
    | _ => simp [Sh.parts, pbAll, D.pb, dpAll, D.dp]
  simp [D.pb, pbAll, hw, this.1, D.dp, dpAll]
  exact this.2
theorem bI_d {a b : Bool} (h : (if a = true then (1 : Int) else 0) = if b = true then 1 else 0) : a = b := by cases a <;> cases b <;> simp at h <;> rfl
theorem sh_nrm {s s' : Sh} (w : s.wf) (w' : s'.wf) : s.d.nrm = s'.d.nrm ↔ s = s' := by
  constructor
  · intro h
    rw [s.d_is, s'.d_is] at h
    simp only [D.nrm, nrmAll, D.tup.injEq, List.cons.injEq, D.str.injEq] at h
    obtain ⟨h1, h2⟩ := h
    cases s <;> cases s' <;> simp only [Sh.word] at h1 <;> first | (exfalso; revert h1; decide) | skip
    all_goals simp only [Sh.parts, nrmAll, D.nrm, nrm_ints, nrm_tD4, List.cons.injEq, D.int.injEq, D.str.injEq, D.tup.injEq, and_true] at h2
    · obtain ⟨a, b, c⟩ := h2; rw [a, b, bI_d c]
    · obtain ⟨a, b, c⟩ := h2; rw [a, map_int_inj.mp b, bI_d c]
    · obtain ⟨a, b, c⟩ := h2; rw [a, b, c]
    · obtain ⟨a, b⟩ := h2; rw [a, b]
    · rw [tD4_inj w.2 w'.2 h2]
    · rfl
    · rw [h2]
    · rw [h2]
    · obtain ⟨a, b⟩ := h2; rw [a, b]
    · obtain ⟨a, b⟩ := h2; rw [a, b]
  · rintro rfl; rfl
theorem eqF_sh {own : Own} {s s' : Sh} (o : s.ok) (o' : s'.ok) (w : s.wf) (w' : s'.wf) : eqF s.d s'.d own = .ok (.bl (cB (s = s'))) own := by
  rw [eqF_pb (sh_pb o).1 (sh_pb o').1 (by have := (sh_pb o).2; omega) (by have := (sh_pb o').2; omega), propext (sh_nrm w w')]
theorem by_bytes {s : Sh} (o : s.ok) (w : s.wf) : ∀ x ∈ s.by, 0 ≤ x ∧ x ≤ 255 := by
  have hl := rest_len o w
  have th_b : ∀ n : Int, num3 n → ∀ x ∈ th n, 0 ≤ x ∧ x ≤ 255 := fun n hn x hx => by
    unfold num3 at hn
    unfold th at hx
    simp only [List.mem_cons, List.not_mem_nil, or_false] at hx
    omega
  have hs : num3 s.strand := by
    unfold num3
    cases s <;> simp only [Sh.strand] <;> simp only [Sh.ok, strd, num3] at o <;> omega
  have hk : 0 ≤ s.kind ∧ s.kind ≤ 7 := by cases s <;> simp [Sh.kind]
  have hm : 0 ≤ bI s.mark ∧ bI s.mark ≤ 1 := by unfold bI; split <;> omega
  have hr : ∀ x ∈ s.rest, 0 ≤ x ∧ x ≤ 255 := by
    intro x hx
    cases s with
    | piece s t l =>
      obtain ⟨c, hc, rfl⟩ := List.mem_map.mp hx
      have := sg_lt c ((isTx_len o.2).2 c hc)
      constructor
      · exact Int.natCast_nonneg c
      · show (c : Int) ≤ 255; omega
    | heads s b l => exact o.2.2 x hx
    | rank s a w' =>
      rcases List.mem_append.mp hx with hx | hx
      · exact th_b a o.2.1 x hx
      · have := o.2.2.2; rw [List.mem_singleton] at hx; omega
    | cut s c => have hx := List.mem_singleton.mp hx; have := o.2; unfold codeP at this; omega
    | terms ps =>
      obtain ⟨p, hp, hx⟩ := List.mem_flatMap.mp hx
      have h4 := w.2 p hp
      rcases List.mem_cons.mp hx with rfl | hx
      · omega
      · exact th_b p.2 (ok_terms o p hp) x hx
    | heard => cases hx
    | knock n => exact th_b n o x hx
    | knocked n => exact th_b n o x hx
    | last s c =>
      rcases List.mem_append.mp hx with hx | hx
      · exact th_b s o.1 x hx
      · have := o.2; unfold codeP at this; rw [List.mem_singleton] at hx; omega
    | room s n => exact th_b n ⟨by have := o.2.1; omega, o.2.2⟩ x hx
  intro x hx
  unfold Sh.by Sh.hd at hx
  rcases List.mem_append.mp hx with hx | hx
  · rcases List.mem_append.mp hx with hx | hx
    · simp only [List.mem_cons, List.not_mem_nil, or_false] at hx
      omega
    · exact th_b _ hs x hx
  · exact hr x hx
end Mi

set_option Elab.async false
set_option linter.all false
set_option maxRecDepth 100000
set_option maxHeartbeats 4000000
namespace Lw
open PySem PySem.Spec PyProof.Rows L2 HotX LamX Ws Mi
local macro_rules | `(tactic| walk_at "sv") => `(tactic| (with_reducible first
  | refine x_v0 ?_ | refine x_v1 ?_ | refine x_v2 ?_ | refine x_v3 ?_ | refine x_v4 ?_ | refine x_v5 ?_ | refine x_v6 ?_ | refine x_v7 ?_ | refine x_v8 ?_ | refine x_v9 ?_ | refine x_v10 ?_ | refine x_v11 ?_ | refine x_v12 ?_ | refine x_v13 ?_ | refine x_v14 ?_ | refine x_v15 ?_ | refine x_v16 ?_ | refine x_v17 ?_ | refine x_v18 ?_ | refine x_v19 ?_ | refine x_v20 ?_ | refine x_v21 ?_ | refine x_v22 ?_ | refine x_v23 ?_ | refine x_v24 ?_ | refine x_v25 ?_ | refine x_v26 ?_ | refine x_v27 ?_))
local macro_rules | `(tactic| walk_at "sn") => `(tactic| (with_reducible first
  | refine x_n0 ?_ | refine x_n1 ?_ | refine x_n2 ?_ | refine x_n3 ?_ | refine x_n4 ?_ | refine x_n5 ?_ | refine x_n6 ?_ | refine x_n7 ?_ | refine x_n8 ?_ | refine x_n9 ?_ | refine x_n10 ?_ | refine x_n11 ?_ | refine x_n12 ?_ | refine x_n13 ?_ | refine x_n14 ?_ | refine x_n15 ?_ | refine x_n16 ?_ | refine x_n17 ?_ | refine x_n18 ?_ | refine x_n19 ?_ | refine x_n20 ?_ | refine x_n21 ?_ | refine x_n22 ?_ | refine x_n23 ?_ | refine x_n24 ?_ | refine x_n25 ?_ | refine x_n26 ?_ | refine x_n27 ?_))
local macro_rules | `(tactic| walk_at "s1") => `(tactic| (first | (with_reducible first
  | refine x_c ?_ | refine x_op ?_ | refine x_un ?_ | refine x_rU ?_ | refine x_rI0 ?_ | refine x_chain ?_ | refine x_ex ?_ | refine x_test ?_ | refine x_tB ?_
  | refine x_tAnd ?_ | refine x_tOr ?_ | refine x_tNot ?_ | refine x_andV ?_ | refine x_orV ?_ | refine x_notV ?_ | refine x_tIf ?_ | refine x_T ?_ | refine x_F ?_ | refine x_seq ?_ | refine x_next ?_ | refine x_asg ?_
  | refine x_ret ?_ | refine x_retN ?_ | refine x_ifS ?_ | refine x_drop ?_ | refine x_nil ?_ | refine x_cons ?_ | refine x_tup ?_ | refine x_lst ?_ | refine x_call ?_ | refine x_cb ?_ | refine x_meth ?_ | refine x_make ?_ | refine x_fld ?_ | refine x_sfld ?_
  | refine x_bm ?_ | refine x_bm0 ?_ | refine x_sl ?_ | refine x_part ?_ | refine x_iex ?_ | refine x_nopart ?_ | refine x_forR ?_ | refine x_forL ?_ | refine x_forE ?_ | refine x_lcL ?_ | refine x_lcR ?_ | refine x_gcons ?_ | refine x_gnil ?_ | refine x_revL ?_ | refine x_notN ?_ | refine x_isN ?_ | refine x_yes ?_ | refine x_dget ?_ | refine x_sdput ?_ | refine x_gsub ?_ | refine x_setD ?_ | refine x_pcons ?_ | refine x_pnil ?_ | refine x_cont ?_ | refine x_dget2 ?_) | walk_at "sv" | walk_at "sn"))
local macro_rules | `(tactic| walk_at "sx") => `(tactic| repeat walk_at "s1")
def top (i : Nat) : Stmt := PySem.Challenge.pw_wirestrands_k24_whole_sheets_told_apart.main.body.getD i (.Pass ⟨0, 0, 0, 0⟩)
abbrev s_is_whole : Stmt := top 5
abbrev s_is_text : Stmt := top 6
abbrev s_codes_of : Stmt := top 7
abbrev s_refuse : Stmt := top 18
abbrev s_is_strand : Stmt := top 19
abbrev s_is_block : Stmt := top 20
abbrev s_are_terms : Stmt := top 21
abbrev s_is_right : Stmt := top 22
abbrev s_look_sheet : Stmt := top 23
abbrev s_three : Stmt := top 24
abbrev s_rest_of : Stmt := top 25
abbrev s_kind_of : Stmt := top 26
abbrev s_written_sheet : Stmt := top 27
abbrev s__law_cell : Stmt := top 29
abbrev s__law_drawn : Stmt := top 30
abbrev s__law_signs : Stmt := top 31
abbrev s__law_text : Stmt := top 32
abbrev s__law_sheet : Stmt := top 33
abbrev s__law_near : Stmt := top 34
abbrev s_law : Stmt := top 35
theorem sc_is_whole : FnScope ["thing", "least", "most"] ["thing", "least", "most"] (defScope s_is_whole) := ⟨rfl, rfl, rfl, by decide +kernel, rfl, by decide +kernel, by decide +kernel⟩
theorem sc_is_text : FnScope ["thing", "most", "sign"] ["thing", "most"] (defScope s_is_text) := ⟨rfl, rfl, rfl, by decide +kernel, rfl, by decide +kernel, by decide +kernel⟩
theorem sc_codes_of : FnScope ["text", "sign"] ["text"] (defScope s_codes_of) := ⟨rfl, rfl, rfl, by decide +kernel, rfl, by decide +kernel, by decide +kernel⟩
theorem sc_refuse : FnScope ["good"] ["good"] (defScope s_refuse) := ⟨rfl, rfl, rfl, by decide +kernel, rfl, by decide +kernel, by decide +kernel⟩
theorem sc_is_strand : FnScope ["thing"] ["thing"] (defScope s_is_strand) := ⟨rfl, rfl, rfl, by decide +kernel, rfl, by decide +kernel, by decide +kernel⟩
theorem sc_is_block : FnScope ["thing", "one"] ["thing"] (defScope s_is_block) := ⟨rfl, rfl, rfl, by decide +kernel, rfl, by decide +kernel, by decide +kernel⟩
theorem sc_are_terms : FnScope ["thing", "pair", "places", "one", "other"] ["thing"] (defScope s_are_terms) := ⟨rfl, rfl, rfl, by decide +kernel, rfl, by decide +kernel, by decide +kernel⟩
theorem sc_is_right : FnScope ["sheet", "word"] ["sheet"] (defScope s_is_right) := ⟨rfl, rfl, rfl, by decide +kernel, rfl, by decide +kernel, by decide +kernel⟩
theorem sc_look_sheet : FnScope ["sheet"] ["sheet"] (defScope s_look_sheet) := ⟨rfl, rfl, rfl, by decide +kernel, rfl, by decide +kernel, by decide +kernel⟩
theorem sc_three : FnScope ["number"] ["number"] (defScope s_three) := ⟨rfl, rfl, rfl, by decide +kernel, rfl, by decide +kernel, by decide +kernel⟩
theorem sc_rest_of : FnScope ["sheet", "word", "found", "name", "number"] ["sheet"] (defScope s_rest_of) := ⟨rfl, rfl, rfl, by decide +kernel, rfl, by decide +kernel, by decide +kernel⟩
theorem sc_kind_of : FnScope ["word", "marked"] ["word"] (defScope s_kind_of) := ⟨rfl, rfl, rfl, by decide +kernel, rfl, by decide +kernel, by decide +kernel⟩
theorem sc_written_sheet : FnScope ["sheet", "word", "kind", "is_marked", "strand", "rest"] ["sheet"] (defScope s_written_sheet) := ⟨rfl, rfl, rfl, by decide +kernel, rfl, by decide +kernel, by decide +kernel⟩
theorem sc__law_cell : FnScope ["script", "k"] ["script", "k"] (defScope s__law_cell) := ⟨rfl, rfl, rfl, by decide +kernel, rfl, by decide +kernel, by decide +kernel⟩
theorem sc__law_drawn : FnScope ["cell", "k", "more"] ["cell", "k"] (defScope s__law_drawn) := ⟨rfl, rfl, rfl, by decide +kernel, rfl, by decide +kernel, by decide +kernel⟩
theorem sc__law_signs : FnScope [] [] (defScope s__law_signs) := ⟨rfl, rfl, rfl, by decide +kernel, rfl, by decide +kernel, by decide +kernel⟩
theorem sc__law_text : FnScope ["more", "most", "signs", "j"] ["more", "most"] (defScope s__law_text) := ⟨rfl, rfl, rfl, by decide +kernel, rfl, by decide +kernel, by decide +kernel⟩
theorem sc__law_sheet : FnScope ["more", "here", "strand", "number", "way", "tops", "found", "j", "name"] ["more"] (defScope s__law_sheet) := ⟨rfl, rfl, rfl, by decide +kernel, rfl, by decide +kernel, by decide +kernel⟩
theorem sc__law_near : FnScope ["sheet", "more", "word"] ["sheet", "more"] (defScope s__law_near) := ⟨rfl, rfl, rfl, by decide +kernel, rfl, by decide +kernel, by decide +kernel⟩
theorem sc_law : FnScope ["script", "k", "more", "sheets", "j", "sheet", "rows", "one", "row", "other", "far", "byte"] ["script"] (defScope s_law) := ⟨rfl, rfl, rfl, by decide +kernel, rfl, by decide +kernel, by decide +kernel⟩
/-! ### the law's own helpers -/
section
variable {P : Program} {w : World} {K : PySem.W.Frag} {mg : Str → Option Value} {base : Heap}
structure Hlp (K : PySem.W.Frag) (mg : Str → Option Value) (c : Nat → Addr) : Prop where
  dD : DefAt K mg "_law_drawn" s__law_drawn
def spDrawn : Sp := fun vs H Q _ => ∃ (c k : Int), vs = [.int c, .int k] ∧ -1000000 < k ∧ k < 1000000 ∧ Q (.int (drawn c k)) H
theorem ok_drawn {c : Nat → Addr} (T : Hlp K mg c) : Fn P w K mg base 1 "_law_drawn" spDrawn := by
  refine fn_mk (ps := ["cell", "k"]) T.dD (fun _ _ _ _ _ _ us hl => match us, hl with | [_, _], _ => rfl) fun f fd F => okN F sc__law_drawn (fun vs H Q E h => by obtain ⟨a, k, rfl, _⟩ := h; rfl) fun cdv A outer s H vs Q E hr h => ?_
  obtain ⟨a, k, rfl, h0, h1, q⟩ := h
  refine ⟨_, (pss_cons (ps_set (i := 2) sc__law_drawn.nd rfl (by first | exact Or.inl rfl | exact Or.inr rfl) (pe_op op_mod (pe_op op_add (pe_op op_mul (pv 0) pe_int) (pe_op op_mul (pe_op op_add (pv 1) pe_int) pe_int)) pe_int))
    (pss_cons (ps_set (i := 2) sc__law_drawn.nd rfl (by first | exact Or.inl rfl | exact Or.inr rfl) (pe_op op_mod (pe_op op_mulW (pv 2) (pv 2)) pe_int))
    (pss_cons (ps_set (i := 2) sc__law_drawn.nd rfl (by first | exact Or.inl rfl | exact Or.inr rfl) (pe_op op_mulW (pe_op op_mulW (pe_op op_add (pe_op op_mod (pv 2) pe_int) pe_int) (pe_op op_add (pe_op op_fdivW (pv 2) pe_int) pe_int)) (pv 2)))
    (pss_one (ps_ret (pe_op op_mod (pv 2) pe_int)))))), ?_⟩
  rw [show L2.start ["cell", "k", "more"] [V.int a, V.int k] = [some (.int a), some (.int k), none] from rfl]
  walk_at "sx"
  refine x_rI (.inr ⟨by decide, by decide⟩) ?_
  walk_at "sx"
  refine x_rI (.inr ⟨by decide, by decide⟩) ?_
  walk_at "sx"
  refine x_rI (by decide) ?_
  walk_at "sx"
  generalize e1 : (a * 6364136223846793005 + (k + 1) * 1442695040888963407) % 340282366920938463463374607431768211507 = m1
  have l1 : 0 ≤ m1 := by rw [← e1]; exact Int.emod_nonneg _ (by decide)
  have u1 : m1 < 340282366920938463463374607431768211507 := by rw [← e1]; exact Int.emod_lt_of_pos _ (by decide)
  have b1 : m1.natAbs < 2 ^ 129 := nat_lt_of l1 (Int.lt_trans u1 (by decide))
  refine x_rI (wide_mul b1 b1 (by decide) (by decide) (by decide)) ?_
  walk_at "sx"
  refine x_rI (by decide) ?_
  walk_at "sx"
  generalize e2 : m1 * m1 % 340282366920938463463374607431768211297 = m2
  have l2 : 0 ≤ m2 := by rw [← e2]; exact Int.emod_nonneg _ (by decide)
  have u2 : m2 < 340282366920938463463374607431768211297 := by rw [← e2]; exact Int.emod_lt_of_pos _ (by decide)
  have b2 : m2.natAbs < 2 ^ 128 := nat_lt_of l2 (Int.lt_trans u2 (by decide))
  refine x_rI (by decide) ?_
  walk_at "sx"
  refine x_rI (wide_div (b := 64) (by decide) (by decide) (by decide) (by decide)) ?_
  walk_at "sx"
  have l3 : 0 ≤ m2 % 18446744073709551557 := Int.emod_nonneg _ (by decide)
  have u3 : m2 % 18446744073709551557 < 18446744073709551557 := Int.emod_lt_of_pos _ (by decide)
  have b3 : (m2 % 18446744073709551557 + 1).natAbs < 2 ^ 65 := nat_lt_of (by omega) (Int.lt_trans (Int.add_lt_add_right u3 1) (by decide))
  have l4 : 0 ≤ m2 / 18446744073709551557 := Int.ediv_nonneg l2 (by decide)
  have u4 : m2 / 18446744073709551557 ≤ m2 := Int.ediv_le_self _ l2
  have b4 : (m2 / 18446744073709551557 + 1).natAbs < 2 ^ 129 := nat_lt_of (by omega) (Int.lt_of_le_of_lt (Int.add_le_add_right (Int.le_trans u4 (Int.le_of_lt u2)) 1) (by decide))
  refine x_rI (wide_mul b3 b4 (by decide) (by decide) (by decide)) ?_
  walk_at "sx"
  refine x_rI (wide_mul (wide_lt b3 b4) b2 (by decide) (by decide) (by decide)) ?_
  walk_at "sx"
  refine x_rI (by decide) ?_
  have e : drawn a k = (m2 % 18446744073709551557 + 1) * (m2 / 18446744073709551557 + 1) * m2 % 340282366920938463463374607431768211507 := by
    rw [← e2, ← e1]
    rfl
  rw [← e]
  exact q
end
end Lw

set_option Elab.async false
set_option linter.all false
set_option maxRecDepth 100000
set_option maxHeartbeats 4000000
namespace Lw
open PySem PySem.Spec PyProof.Rows L2 HotX LamX Ws Mi
abbrev l_TERMS : List Str := ["piece", "room", "strands", "book"]
abbrev c_TERMS : D := .tup (l_TERMS.map D.str)
def tab_MOSTS : List (Str × Int) := [("piece", 16384), ("room", 65535), ("strands", 255), ("book", 4096)]
def tab_LEASTS : List (Str × Int) := [("piece", 1), ("room", 0), ("strands", 0), ("book", 0)]
def tab_LENGTHS : List (Str × Int) := [("piece", 4), ("heads", 4), ("rank", 4), ("cut", 3), ("terms", 2), ("heard", 1), ("knock", 2), ("knocked", 2), ("last", 3), ("room", 3)]
abbrev l_KINDS : List Str := ["piece", "heads", "rank", "cut", "terms", "knock", "last", "room"]
abbrev c_KINDS : D := .tup (l_KINDS.map D.str)
structure Tx (C : Cn) (mg : Str → Option Value) (w : World) : Prop where
  h : Hlp C.K mg C.ec
  er_4 : Err1 C.K mg C.ec 4
  n_isinstance : mg "isinstance" = none
  n_bool : mg "bool" = none
  n_int : mg "int" = none
  n_all : mg "all" = none
  n_len : mg "len" = none
  n_str : mg "str" = none
  n_ord : mg "ord" = none
  n_tuple : mg "tuple" = none
  n_zip : mg "zip" = none
  n_list : mg "list" = none
  n_range : mg "range" = none
  n_enumerate : mg "enumerate" = none
  n_max : mg "max" = none
  n_min : mg "min" = none
  g_SIGNS : ∃ t, mg "SIGNS" = some (.str " !\"#$&'()*+,-./0123456789:;<=>?@ABCDEFGHIJKLMNOPQRSTUVWXYZ[\\]^_`abcdefghijklmnopqrstuvwxyz{|}~" t)
  g_MOST_STRAND : ∃ t, mg "MOST_STRAND" = some (.int 16777215 t)
  g_MOST_LENGTH : ∃ t, mg "MOST_LENGTH" = some (.int 65535 t)
  g_TERMS : TupG C.K mg "TERMS" c_TERMS
  g_MOSTS : ∃ p, mg "MOSTS" = some (.ref p) ∧ KTab C.K w p tab_MOSTS
  g_LEASTS : ∃ p, mg "LEASTS" = some (.ref p) ∧ KTab C.K w p tab_LEASTS
  g_MOST_CODE : ∃ t, mg "MOST_CODE" = some (.int 9 t)
  g_MOST_WEIGHT : ∃ t, mg "MOST_WEIGHT" = some (.int 256 t)
  g_LENGTHS : ∃ p, mg "LENGTHS" = some (.ref p) ∧ KTab C.K w p tab_LENGTHS
  g_KINDS : TupG C.K mg "KINDS" c_KINDS
  d_is_whole : DefAt C.K mg "is_whole" s_is_whole
  d_is_text : DefAt C.K mg "is_text" s_is_text
  d_codes_of : DefAt C.K mg "codes_of" s_codes_of
  d_refuse : DefAt C.K mg "refuse" s_refuse
  d_is_strand : DefAt C.K mg "is_strand" s_is_strand
  d_is_block : DefAt C.K mg "is_block" s_is_block
  d_are_terms : DefAt C.K mg "are_terms" s_are_terms
  d_is_right : DefAt C.K mg "is_right" s_is_right
  d_look_sheet : DefAt C.K mg "look_sheet" s_look_sheet
  d_three : DefAt C.K mg "three" s_three
  d_rest_of : DefAt C.K mg "rest_of" s_rest_of
  d_kind_of : DefAt C.K mg "kind_of" s_kind_of
  d_written_sheet : DefAt C.K mg "written_sheet" s_written_sheet
  d_law_cell : DefAt C.K mg "_law_cell" s__law_cell
  d_law_signs : DefAt C.K mg "_law_signs" s__law_signs
  d_law_text : DefAt C.K mg "_law_text" s__law_text
  d_law_sheet : DefAt C.K mg "_law_sheet" s__law_sheet
  d_law_near : DefAt C.K mg "_law_near" s__law_near
structure Lm (C : Cn) (mg : Str → Option Value) (base : Heap) : Prop where
  triv : True
section
variable {P : Program} {w : World} {mg : Str → Option Value} {base : Heap} {C : Cn}
noncomputable def F_law_drawn : MF := fun ds own => match ds with
  | [.int c, .int k] => if cB (-1000000 < k ∧ k < 1000000) = true then .ok (.int (drawn c k)) own else .bad
  | _ => .bad
theorem ok_law_drawn (T : Tx C mg w) (LM : Lm C mg base) (hd : List Addr) : Fn P w C.K mg base 1 "_law_drawn" (spM (C.wh hd) 2 F_law_drawn) := fn_w (ok_drawn T.h) fun vs H Q E h => by
  obtain ⟨ι, own, ds, hn, r, ra, p⟩ := h
  unfold F_law_drawn at p
  split at p
  · rcases ra with _ | ⟨r1, _ | ⟨r2, ⟨⟩⟩⟩
    cases r1; cases r2
    split at p
    · rename_i hz; rw [cB_iff] at hz; exact ⟨_, _, rfl, hz.1, hz.2, p.here r (.int _)⟩
    · exact p.elim
  · exact p.elim
noncomputable def m_is_whole : MS := (sRet (mAnd (m1 (isiF "int") (mV 0)) (mAnd (mNot (m1 (isiF "bool") (mV 0))) (mChain leF leF (mV 1) (mV 0) (mV 2)))))
noncomputable def F_is_whole : MF := runF 3 m_is_whole
theorem ok_is_whole (T : Tx C mg w) (LM : Lm C mg base) (hd : List Addr) : Fn P w C.K mg base 1 "is_whole" (spM (C.wh hd) 3 F_is_whole) := fnM (C := C.wh hd) (k := 0) T.d_is_whole (fun _ _ _ _ _ _ us hl => match us, hl with | [_, _, _], _ => rfl) sc_is_whole fun f cdv A outer s H E hr => (ms_one (ms_ret (me_and (me_isi (by decide) T.n_isinstance T.n_int bb_int (me_v 0)) (me_and (me_not (me_isi (by decide) T.n_isinstance T.n_bool bb_bool (me_v 0))) (me_one (me_chain op_le op_le ad_le ad_le (me_v 1) (me_v 0) (me_v 2)))))))
noncomputable def m_is_text : MS := (sRet (mAnd (m1 (isiF "str") (mV 0)) (mAnd (m2 leF (mL lenF (mCons (mV 0) mNil)) (mV 1)) (mL allF (mCons (mLc (mIt (mV 0)) (gN 2) tYesM (m2 inSF (mV 2) (mC (.str " !\"#$&'()*+,-./0123456789:;<=>?@ABCDEFGHIJKLMNOPQRSTUVWXYZ[\\]^_`abcdefghijklmnopqrstuvwxyz{|}~"))) [2]) mNil)))))
noncomputable def F_is_text : MF := runF 3 m_is_text
theorem ok_is_text (T : Tx C mg w) (LM : Lm C mg base) (hd : List Addr) : Fn P w C.K mg base 1 "is_text" (spM (C.wh hd) 2 F_is_text) := fnM (C := C.wh hd) (k := 0) T.d_is_text (fun _ _ _ _ _ _ us hl => match us, hl with | [_, _], _ => rfl) sc_is_text fun f cdv A outer s H E hr => (ms_one (ms_ret (me_and (me_isi (by decide) T.n_isinstance T.n_str bb_str (me_v 0)) (me_and (me_cmp op_le ad_le (me_call (oa_len C.K) ad_len T.n_len bb_len (me_cons (me_v 0) me_nil)) (me_v 1) (nomark _)) (me_one (me_call (kc_all C.K rfl) ad_all T.n_all bb_all (me_cons (me_lc rfl sc_is_text.nd (vs := [("sign", 2)]) (lct_n (by decide)) gk_n (mi_any (me_v 0)) (blkOk_by (N := ["thing", "most", "sign"]) (sc := defScope s_is_text) (by decide +kernel)) (fun _ _ _ _ _ => by exact (pg_name (i := 2) sc_is_text.nd rfl (by first | exact Or.inl rfl | exact Or.inr rfl))) (fun hd _ _ _ _ _ => by exact mts_nil) (fun hd _ _ _ _ _ => by exact (me_cmp ko_inSg ad_inS (me_v 2) (me_gstr T.g_SIGNS) rfl))) me_nil)))))))
noncomputable def m_codes_of : MS := (sRet (mLc (mIt (mV 0)) (gN 1) tYesM (mL ordF (mCons (mV 1) mNil)) [1]))
noncomputable def F_codes_of : MF := runF 2 m_codes_of
theorem ok_codes_of (T : Tx C mg w) (LM : Lm C mg base) (hd : List Addr) : Fn P w C.K mg base 1 "codes_of" (spM (C.wh hd) 1 F_codes_of) := fnM (C := C.wh hd) (k := 0) T.d_codes_of (fun _ _ _ _ _ _ us hl => match us, hl with | [_], _ => rfl) sc_codes_of fun f cdv A outer s H E hr => (ms_one (ms_ret (me_lc rfl sc_codes_of.nd (vs := [("sign", 1)]) (lct_n (by decide)) gk_n (mi_any (me_v 0)) (blkOk_by (N := ["text", "sign"]) (sc := defScope s_codes_of) (by decide +kernel)) (fun _ _ _ _ _ => by exact (pg_name (i := 1) sc_codes_of.nd rfl (by first | exact Or.inl rfl | exact Or.inr rfl))) (fun hd _ _ _ _ _ => by exact mts_nil) (fun hd _ _ _ _ _ => by exact (me_call c_ord ad_ord T.n_ord bb_ord (me_cons (me_v 1) me_nil))))))
noncomputable def m_refuse : MS := (sIf (mNotT (mT (mV 0)))
    (sRaise 4)
    sNil)
noncomputable def F_refuse : MF := runF 1 m_refuse
theorem ok_refuse (T : Tx C mg w) (LM : Lm C mg base) (hd : List Addr) : Fn P w C.K mg base 1 "refuse" (spM (C.wh hd) 1 F_refuse) := fnM (C := C.wh hd) (k := 0) T.d_refuse (fun _ _ _ _ _ _ us hl => match us, hl with | [_], _ => rfl) sc_refuse fun f cdv A outer s H E hr => (ms_one (ms_if (mt_not (mt_val (me_v 0)))
    (ms_one (ms_raise1 (i := 4) T.er_4 rfl (by decide) rfl rfl rfl rfl (by decide) rfl rfl rfl rfl))
    ms_nil))
noncomputable def m_is_strand : MS := (sRet (mCall 3 F_is_whole (mCons (mV 0) (mCons (mC (.int 1)) (mCons (mC (.int 16777215)) mNil)))))
noncomputable def F_is_strand : MF := runF 1 m_is_strand
theorem ok_is_strand (T : Tx C mg w) (LM : Lm C mg base) (hd : List Addr) : Fn P w C.K mg base 2 "is_strand" (spM (C.wh hd) 1 F_is_strand) := fnM (C := C.wh hd) (k := 1) T.d_is_strand (fun _ _ _ _ _ _ us hl => match us, hl with | [_], _ => rfl) sc_is_strand fun f cdv A outer s H E hr => (ms_one (ms_ret (me_fn (ok_is_whole T LM hd) hr (pN rfl rfl rfl rfl) (me_cons (me_v 0) (me_cons me_int (me_cons (me_gint T.g_MOST_STRAND) me_nil))))))
noncomputable def m_is_block : MS := (sRet (mAnd (m1 (isiF "tuple") (mV 0)) (mAnd (m2 leF (mL lenF (mCons (mV 0) mNil)) (mC (.int 65535))) (mL allF (mCons (mLc (mIt (mV 0)) (gN 1) tYesM (mCall 3 F_is_whole (mCons (mV 1) (mCons (mC (.int 0)) (mCons (mC (.int 255)) mNil)))) [1]) mNil)))))
noncomputable def F_is_block : MF := runF 2 m_is_block
theorem ok_is_block (T : Tx C mg w) (LM : Lm C mg base) (hd : List Addr) : Fn P w C.K mg base 2 "is_block" (spM (C.wh hd) 1 F_is_block) := fnM (C := C.wh hd) (k := 1) T.d_is_block (fun _ _ _ _ _ _ us hl => match us, hl with | [_], _ => rfl) sc_is_block fun f cdv A outer s H E hr => (ms_one (ms_ret (me_and (me_isi (by decide) T.n_isinstance T.n_tuple bb_tuple (me_v 0)) (me_and (me_cmp op_le ad_le (me_call (oa_len C.K) ad_len T.n_len bb_len (me_cons (me_v 0) me_nil)) (me_gint T.g_MOST_LENGTH) (nomark _)) (me_one (me_call (kc_all C.K rfl) ad_all T.n_all bb_all (me_cons (me_lc rfl sc_is_block.nd (vs := [("one", 1)]) (lct_n (by decide)) gk_n (mi_any (me_v 0)) (blkOk_by (N := ["thing", "one"]) (sc := defScope s_is_block) (by decide +kernel)) (fun _ _ _ _ _ => by exact (pg_name (i := 1) sc_is_block.nd rfl (by first | exact Or.inl rfl | exact Or.inr rfl))) (fun hd _ _ _ _ _ => by exact mts_nil) (fun hd _ _ _ _ _ => by exact (me_fn (ok_is_whole T LM hd) hr pass0N (me_cons (me_v 1) (me_cons me_int (me_cons me_int me_nil)))))) me_nil)))))))
noncomputable def b_are_terms_1 : MS := (sSeq (sIf (mOrT (mNotT (mT (m1 (isiF "tuple") (mV 1)))) (mOrT (mT (m2 neF (mL lenF (mCons (mV 1) mNil)) (mC (.int 2)))) (mT (m2 ninF (m2 ixF (mV 1) (mC (.int 0))) (mC c_TERMS)))))
      (sRet (mC (.bl false)))
      sNil)
      (sIf (mNotT (mT (mCall 3 F_is_whole (mCons (m2 ixF (mV 1) (mC (.int 1))) (mCons (m1 (tgetF tab_LEASTS) (m2 ixF (mV 1) (mC (.int 0)))) (mCons (m1 (tgetF tab_MOSTS) (m2 ixF (mV 1) (mC (.int 0)))) mNil))))))
      (sRet (mC (.bl false)))
      sNil))
noncomputable def l_are_terms_1 : MS := sFor (mIt (mV 0)) (gN 1) b_are_terms_1
noncomputable def m_are_terms : MS := (sSeq (sIf (mNotT (mT (m1 (isiF "tuple") (mV 0))))
    (sRet (mC (.bl false)))
    sNil)
    (sSeq l_are_terms_1
    (sSeq (sAsg (mLc (mIt (mV 0)) (gN 1) tYesM (m1 (tidxF l_TERMS) (m2 ixF (mV 1) (mC (.int 0)))) [1]) (gN 2))
    (sRet (mL allF (mCons (mLc (mZip (mV 2) (mSl (mV 2) (mPart (mC (.int 1))) mNoPart)) (gT 2 (gsCons (gN 3) (gsCons (gN 4) gsNil))) tYesM (m2 ltF (mV 3) (mV 4)) [3, 4]) mNil))))))
noncomputable def F_are_terms : MF := runF 5 m_are_terms
theorem ok_are_terms (T : Tx C mg w) (LM : Lm C mg base) (hd : List Addr) : Fn P w C.K mg base 2 "are_terms" (spM (C.wh hd) 1 F_are_terms) := fnM (C := C.wh hd) (k := 1) T.d_are_terms (fun _ _ _ _ _ _ us hl => match us, hl with | [_], _ => rfl) sc_are_terms fun f cdv A outer s H E hr => (ms_cons (ms_if (mt_not (mt_val (me_isi (by decide) T.n_isinstance T.n_tuple bb_tuple (me_v 0))))
    (ms_one (ms_ret me_bl))
    ms_nil)
    (ms_cons (ms_for gok_n PassesOwn.leaving rfl (mi_any (me_v 0)) (mg_n (i := 1) sc_are_terms.nd rfl (by first | exact Or.inl rfl | exact Or.inr rfl))
    (ms_cons (ms_if (PW.pt (mw_or (mt_not (mt_val (me_isi (by decide) T.n_isinstance T.n_tuple bb_tuple (me_v 1)))) (mw_or (mt_cmp (oa_ne C.K hr.units) ad_ne (me_call (oa_len C.K) ad_len T.n_len bb_len (me_cons (me_v 1) me_nil)) me_int (nomark _)) (mw_or1 (mt_cmp (ko_notIn C.K) ad_nin (me_ix (oa_ix C.K) ad_ix (me_v 1) me_int) (me_gtup T.g_TERMS.g) rfl)))))
      (ms_one (ms_ret me_bl))
      ms_nil)
      (ms_one (ms_if (mt_not (mt_val (me_fn (ok_is_whole T LM hd) hr (pN rfl rfl rfl rfl) (me_cons (me_ix (oa_ix C.K) ad_ix (me_v 1) me_int) (me_cons (me_tget T.g_LEASTS (me_ix (oa_ix C.K) ad_ix (me_v 1) me_int)) (me_cons (me_tget T.g_MOSTS (me_ix (oa_ix C.K) ad_ix (me_v 1) me_int)) me_nil))))))
      (ms_one (ms_ret me_bl))
      ms_nil))))
    (ms_cons (ms_setLc (i := 2) rfl sc_are_terms.nd rfl rfl (sw_true rfl rfl rfl (by decide +kernel)) (vs := [("pair", 1)]) (lct_n (by decide)) gk_n (mi_any (me_v 0)) (blkOk_by (N := ["thing", "pair", "places", "one", "other"]) (sc := defScope s_are_terms) (by decide +kernel)) (fun _ _ _ _ _ => by exact (pg_name (i := 1) sc_are_terms.nd rfl (by first | exact Or.inl rfl | exact Or.inr rfl))) (fun hd _ _ _ _ _ => by exact mts_nil) (fun hd _ _ _ _ _ => by exact (me_tidx T.g_TERMS (me_ix (oa_ix C.K) ad_ix (me_v 1) me_int))))
    (ms_one (ms_ret (me_call (kc_all C.K rfl) ad_all T.n_all bb_all (me_cons (me_lc rfl sc_are_terms.nd (vs := [("one", 3), ("other", 4)]) (lct_t2 (by decide) (by decide)) gk_t2 (mi_zip T.n_zip (me_v 2) (me_sl (me_v 2) (me_part me_int) me_nopart)) (blkOk_by (N := ["thing", "pair", "places", "one", "other"]) (sc := defScope s_are_terms) (by decide +kernel)) (fun _ _ _ _ _ => by exact (kg_tup C.K rfl (pgs_cons (pg_name (i := 3) sc_are_terms.nd rfl (by first | exact Or.inl rfl | exact Or.inr rfl)) (pgs_cons (pg_name (i := 4) sc_are_terms.nd rfl (by first | exact Or.inl rfl | exact Or.inr rfl)) pgs_nil)))) (fun hd _ _ _ _ _ => by exact mts_nil) (fun hd _ _ _ _ _ => by exact (me_cmp op_lt ad_lt (me_v 3) (me_v 4) (nomark _)))) me_nil)))))))
noncomputable def m_is_right : MS := (sSeq (sAsg (m2 ixF (mV 0) (mC (.int 0))) (gN 1))
    (sSeq (sIf (mT (m2 inF (mV 1) (mL tupF (mCons (mC (.str "knock")) (mCons (mC (.str "knocked")) mNil)))))
    (sRet (mCall 3 F_is_whole (mCons (m2 ixF (mV 0) (mC (.int 1))) (mCons (mC (.int 0)) (mCons (mC (.int 16777215)) mNil)))))
    sNil)
    (sSeq (sIf (mT (m2 eqF (mV 1) (mC (.str "terms"))))
    (sRet (mCall 1 F_are_terms (mCons (m2 ixF (mV 0) (mC (.int 1))) mNil)))
    sNil)
    (sSeq (sIf (mT (m2 eqF (mV 1) (mC (.str "heard"))))
    (sRet (mC (.bl true)))
    sNil)
    (sSeq (sIf (mT (m2 eqF (mV 1) (mC (.str "room"))))
    (sRet (mAnd (mCall 3 F_is_whole (mCons (m2 ixF (mV 0) (mC (.int 1))) (mCons (mC (.int 0)) (mCons (mC (.int 16777215)) mNil)))) (mCall 3 F_is_whole (mCons (m2 ixF (mV 0) (mC (.int 2))) (mCons (mC (.int 1)) (mCons (mC (.int 16777215)) mNil))))))
    sNil)
    (sSeq (sIf (mT (m2 eqF (mV 1) (mC (.str "last"))))
    (sRet (mAnd (mCall 3 F_is_whole (mCons (m2 ixF (mV 0) (mC (.int 1))) (mCons (mC (.int 0)) (mCons (mC (.int 16777215)) mNil)))) (mCall 3 F_is_whole (mCons (m2 ixF (mV 0) (mC (.int 2))) (mCons (mC (.int 0)) (mCons (mC (.int 9)) mNil))))))
    sNil)
    (sSeq (sIf (mNotT (mT (mCall 1 F_is_strand (mCons (m2 ixF (mV 0) (mC (.int 1))) mNil))))
    (sRet (mC (.bl false)))
    sNil)
    (sSeq (sIf (mT (m2 eqF (mV 1) (mC (.str "cut"))))
    (sRet (mCall 3 F_is_whole (mCons (m2 ixF (mV 0) (mC (.int 2))) (mCons (mC (.int 0)) (mCons (mC (.int 9)) mNil)))))
    sNil)
    (sSeq (sIf (mT (m2 eqF (mV 1) (mC (.str "rank"))))
    (sRet (mAnd (mCall 3 F_is_whole (mCons (m2 ixF (mV 0) (mC (.int 2))) (mCons (mC (.int 0)) (mCons (mC (.int 16777215)) mNil)))) (mAnd (m2 neF (m2 ixF (mV 0) (mC (.int 2))) (m2 ixF (mV 0) (mC (.int 1)))) (mCall 3 F_is_whole (mCons (m2 ixF (mV 0) (mC (.int 3))) (mCons (mC (.int 1)) (mCons (mC (.int 256)) mNil)))))))
    sNil)
    (sSeq (sIf (mNotT (mT (m1 (isiF "bool") (m2 ixF (mV 0) (mC (.int 3))))))
    (sRet (mC (.bl false)))
    sNil)
    (sRet (mIte (mT (m2 eqF (mV 1) (mC (.str "piece")))) (mCall 2 F_is_text (mCons (m2 ixF (mV 0) (mC (.int 2))) (mCons (mC (.int 65535)) mNil))) (mCall 1 F_is_block (mCons (m2 ixF (mV 0) (mC (.int 2))) mNil))))))))))))))
noncomputable def F_is_right : MF := runF 2 m_is_right
theorem ok_is_right (T : Tx C mg w) (LM : Lm C mg base) (hd : List Addr) : Fn P w C.K mg base 3 "is_right" (spM (C.wh hd) 1 F_is_right) := fnM (C := C.wh hd) (k := 2) T.d_is_right (fun _ _ _ _ _ _ us hl => match us, hl with | [_], _ => rfl) sc_is_right fun f cdv A outer s H E hr => (ms_cons (ms_set (i := 1) sc_is_right.nd rfl (by first | exact Or.inl rfl | exact Or.inr rfl) (me_ix (oa_ix C.K) ad_ix (me_v 0) me_int))
    (ms_cons (ms_if (mt_cmp (ko_in C.K) ad_in (me_v 1) (me_tup (me_cons me_str (me_cons me_str me_nil))) rfl)
    (ms_one (ms_ret (me_fn (ok_is_whole T LM hd) hr (pN rfl rfl rfl rfl) (me_cons (me_ix (oa_ix C.K) ad_ix (me_v 0) me_int) (me_cons me_int (me_cons (me_gint T.g_MOST_STRAND) me_nil))))))
    ms_nil)
    (ms_cons (ms_if (mt_cmp (oa_eq C.K hr.units) ad_eq (me_v 1) me_str (nomark _))
    (ms_one (ms_ret (me_fn (ok_are_terms T LM hd) hr (pN rfl rfl rfl rfl) (me_cons (me_ix (oa_ix C.K) ad_ix (me_v 0) me_int) me_nil))))
    ms_nil)
    (ms_cons (ms_if (mt_cmp (oa_eq C.K hr.units) ad_eq (me_v 1) me_str (nomark _))
    (ms_one (ms_ret me_bl))
    ms_nil)
    (ms_cons (ms_if (mt_cmp (oa_eq C.K hr.units) ad_eq (me_v 1) me_str (nomark _))
    (ms_one (ms_ret (me_and (me_fn (ok_is_whole T LM hd) hr (pN rfl rfl rfl rfl) (me_cons (me_ix (oa_ix C.K) ad_ix (me_v 0) me_int) (me_cons me_int (me_cons (me_gint T.g_MOST_STRAND) me_nil)))) (me_one (me_fn (ok_is_whole T LM hd) hr (pN rfl rfl rfl rfl) (me_cons (me_ix (oa_ix C.K) ad_ix (me_v 0) me_int) (me_cons me_int (me_cons (me_gint T.g_MOST_STRAND) me_nil))))))))
    ms_nil)
    (ms_cons (ms_if (mt_cmp (oa_eq C.K hr.units) ad_eq (me_v 1) me_str (nomark _))
    (ms_one (ms_ret (me_and (me_fn (ok_is_whole T LM hd) hr (pN rfl rfl rfl rfl) (me_cons (me_ix (oa_ix C.K) ad_ix (me_v 0) me_int) (me_cons me_int (me_cons (me_gint T.g_MOST_STRAND) me_nil)))) (me_one (me_fn (ok_is_whole T LM hd) hr (pN rfl rfl rfl rfl) (me_cons (me_ix (oa_ix C.K) ad_ix (me_v 0) me_int) (me_cons me_int (me_cons (me_gint T.g_MOST_CODE) me_nil))))))))
    ms_nil)
    (ms_cons (ms_if (mt_not (mt_val (me_fn (ok_is_strand T LM hd) hr (pN rfl rfl rfl rfl) (me_cons (me_ix (oa_ix C.K) ad_ix (me_v 0) me_int) me_nil))))
    (ms_one (ms_ret me_bl))
    ms_nil)
    (ms_cons (ms_if (mt_cmp (oa_eq C.K hr.units) ad_eq (me_v 1) me_str (nomark _))
    (ms_one (ms_ret (me_fn (ok_is_whole T LM hd) hr (pN rfl rfl rfl rfl) (me_cons (me_ix (oa_ix C.K) ad_ix (me_v 0) me_int) (me_cons me_int (me_cons (me_gint T.g_MOST_CODE) me_nil))))))
    ms_nil)
    (ms_cons (ms_if (mt_cmp (oa_eq C.K hr.units) ad_eq (me_v 1) me_str (nomark _))
    (ms_one (ms_ret (me_and (me_fn (ok_is_whole T LM hd) hr (pN rfl rfl rfl rfl) (me_cons (me_ix (oa_ix C.K) ad_ix (me_v 0) me_int) (me_cons me_int (me_cons (me_gint T.g_MOST_STRAND) me_nil)))) (me_and (me_cmp (oa_ne C.K hr.units) ad_ne (me_ix (oa_ix C.K) ad_ix (me_v 0) me_int) (me_ix (oa_ix C.K) ad_ix (me_v 0) me_int) (nomark _)) (me_one (me_fn (ok_is_whole T LM hd) hr (pN rfl rfl rfl rfl) (me_cons (me_ix (oa_ix C.K) ad_ix (me_v 0) me_int) (me_cons me_int (me_cons (me_gint T.g_MOST_WEIGHT) me_nil)))))))))
    ms_nil)
    (ms_cons (ms_if (mt_not (mt_val (me_isi (by decide) T.n_isinstance T.n_bool bb_bool (me_ix (oa_ix C.K) ad_ix (me_v 0) me_int))))
    (ms_one (ms_ret me_bl))
    ms_nil)
    (ms_one (ms_ret (me_if (mt_cmp (oa_eq C.K hr.units) ad_eq (me_v 1) me_str (nomark _)) (me_fn (ok_is_text T LM hd) hr (pN rfl rfl rfl rfl) (me_cons (me_ix (oa_ix C.K) ad_ix (me_v 0) me_int) (me_cons (me_gint T.g_MOST_LENGTH) me_nil))) (me_fn (ok_is_block T LM hd) hr (pN rfl rfl rfl rfl) (me_cons (me_ix (oa_ix C.K) ad_ix (me_v 0) me_int) me_nil)))))))))))))))
noncomputable def m_look_sheet : MS := (sSeq (sExp (mCall 1 F_refuse (mCons (mAnd (m1 (isiF "tuple") (mV 0)) (mAnd (m2 gtF (mL lenF (mCons (mV 0) mNil)) (mC (.int 0))) (mAnd (m1 (isiF "str") (m2 ixF (mV 0) (mC (.int 0)))) (m1 (tinF tab_LENGTHS) (m2 ixF (mV 0) (mC (.int 0))))))) mNil)))
    (sExp (mCall 1 F_refuse (mCons (mAnd (m2 eqF (mL lenF (mCons (mV 0) mNil)) (m1 (tgetF tab_LENGTHS) (m2 ixF (mV 0) (mC (.int 0))))) (mCall 1 F_is_right (mCons (mV 0) mNil))) mNil))))
noncomputable def F_look_sheet : MF := runF 1 m_look_sheet
theorem ok_look_sheet (T : Tx C mg w) (LM : Lm C mg base) (hd : List Addr) : Fn P w C.K mg base 4 "look_sheet" (spM (C.wh hd) 1 F_look_sheet) := fnM (C := C.wh hd) (k := 3) T.d_look_sheet (fun _ _ _ _ _ _ us hl => match us, hl with | [_], _ => rfl) sc_look_sheet fun f cdv A outer s H E hr => (ms_cons (ms_expr (me_fn (ok_refuse T LM hd) hr (pN rfl rfl rfl rfl) (me_cons (me_and (me_isi (by decide) T.n_isinstance T.n_tuple bb_tuple (me_v 0)) (me_and (me_cmp op_gt ad_gt (me_call (oa_len C.K) ad_len T.n_len bb_len (me_cons (me_v 0) me_nil)) me_int (nomark _)) (me_and (me_isi (by decide) T.n_isinstance T.n_str bb_str (me_ix (oa_ix C.K) ad_ix (me_v 0) me_int)) (me_one (me_tin T.g_LENGTHS (me_ix (oa_ix C.K) ad_ix (me_v 0) me_int)))))) me_nil)))
    (ms_one (ms_expr (me_fn (ok_refuse T LM hd) hr (pN rfl rfl rfl rfl) (me_cons (me_and (me_cmp (oa_eq C.K hr.units) ad_eq (me_call (oa_len C.K) ad_len T.n_len bb_len (me_cons (me_v 0) me_nil)) (me_tget T.g_LENGTHS (me_ix (oa_ix C.K) ad_ix (me_v 0) me_int)) (nomark _)) (me_one (me_fn (ok_is_right T LM hd) hr (pN rfl rfl rfl rfl) (me_cons (me_v 0) me_nil)))) me_nil)))))
noncomputable def m_three : MS := (sRet (mL lstF (mCons (m2 fdivF (mV 0) (mC (.int 65536))) (mCons (m2 modF (m2 fdivF (mV 0) (mC (.int 256))) (mC (.int 256))) (mCons (m2 modF (mV 0) (mC (.int 256))) mNil)))))
noncomputable def F_three : MF := runF 1 m_three
theorem ok_three (T : Tx C mg w) (LM : Lm C mg base) (hd : List Addr) : Fn P w C.K mg base 1 "three" (spM (C.wh hd) 1 F_three) := fnM (C := C.wh hd) (k := 0) T.d_three (fun _ _ _ _ _ _ us hl => match us, hl with | [_], _ => rfl) sc_three fun f cdv A outer s H E hr => (ms_one (ms_ret (me_lst (me_cons (me_op op_fdivW ad_fdiv (me_v 0) me_int) (me_cons (me_op op_mod ad_mod (me_op op_fdivW ad_fdiv (me_v 0) me_int) me_int) (me_cons (me_op op_mod ad_mod (me_v 0) me_int) me_nil))))))
noncomputable def b_rest_of_1 : MS := (sEndW [3, 4] (sAsg (m2 addF (m2 addF (mV 2) (mL lstF (mCons (m1 (tidxF l_TERMS) (mV 3)) mNil))) (mCall 1 F_three (mCons (mV 4) mNil))) (gN 2)))
noncomputable def l_rest_of_1 : MS := sFor (mIt (m2 ixF (mV 0) (mC (.int 1)))) (gT 2 (gsCons (gN 3) (gsCons (gN 4) gsNil))) b_rest_of_1
noncomputable def m_rest_of : MS := (sSeq (sAsg (m2 ixF (mV 0) (mC (.int 0))) (gN 1))
    (sSeq (sIf (mT (m2 eqF (mV 1) (mC (.str "piece"))))
    (sRet (mCall 1 F_codes_of (mCons (m2 ixF (mV 0) (mC (.int 2))) mNil)))
    sNil)
    (sSeq (sIf (mT (m2 eqF (mV 1) (mC (.str "heads"))))
    (sRet (mL listF (mCons (m2 ixF (mV 0) (mC (.int 2))) mNil)))
    sNil)
    (sSeq (sIf (mT (m2 eqF (mV 1) (mC (.str "rank"))))
    (sRet (m2 addF (mCall 1 F_three (mCons (m2 ixF (mV 0) (mC (.int 2))) mNil)) (mL lstF (mCons (m2 subF (m2 ixF (mV 0) (mC (.int 3))) (mC (.int 1))) mNil))))
    sNil)
    (sSeq (sIf (mT (m2 eqF (mV 1) (mC (.str "cut"))))
    (sRet (mL lstF (mCons (m2 ixF (mV 0) (mC (.int 2))) mNil)))
    sNil)
    (sSeq (sEndW [2, 3, 4] (sIf (mT (m2 eqF (mV 1) (mC (.str "terms"))))
    (sSeq (sAsg (mL lstF mNil) (gN 2))
      (sSeq (sEndW [3, 4] l_rest_of_1)
      (sRet (mV 2))))
    sNil))
    (sSeq (sIf (mT (m2 inF (mV 1) (mL tupF (mCons (mC (.str "knock")) (mCons (mC (.str "knocked")) mNil)))))
    (sRet (mCall 1 F_three (mCons (m2 ixF (mV 0) (mC (.int 1))) mNil)))
    sNil)
    (sSeq (sIf (mT (m2 eqF (mV 1) (mC (.str "last"))))
    (sRet (m2 addF (mCall 1 F_three (mCons (m2 ixF (mV 0) (mC (.int 1))) mNil)) (mL lstF (mCons (m2 ixF (mV 0) (mC (.int 2))) mNil))))
    sNil)
    (sRet (mIte (mT (m2 eqF (mV 1) (mC (.str "room")))) (mCall 1 F_three (mCons (m2 ixF (mV 0) (mC (.int 2))) mNil)) (mL lstF mNil)))))))))))
noncomputable def F_rest_of : MF := runF 5 m_rest_of
theorem ok_rest_of (T : Tx C mg w) (LM : Lm C mg base) (hd : List Addr) : Fn P w C.K mg base 2 "rest_of" (spM (C.wh hd) 1 F_rest_of) := fnM (C := C.wh hd) (k := 1) T.d_rest_of (fun _ _ _ _ _ _ us hl => match us, hl with | [_], _ => rfl) sc_rest_of fun f cdv A outer s H E hr => (ms_cons (ms_set (i := 1) sc_rest_of.nd rfl (by first | exact Or.inl rfl | exact Or.inr rfl) (me_ix (oa_ix C.K) ad_ix (me_v 0) me_int))
    (ms_cons (ms_if (mt_cmp (oa_eq C.K hr.units) ad_eq (me_v 1) me_str (nomark _))
    (ms_one (ms_ret (me_fn (ok_codes_of T LM hd) hr (pN rfl rfl rfl rfl) (me_cons (me_ix (oa_ix C.K) ad_ix (me_v 0) me_int) me_nil))))
    ms_nil)
    (ms_cons (ms_if (mt_cmp (oa_eq C.K hr.units) ad_eq (me_v 1) me_str (nomark _))
    (ms_one (ms_ret (me_callT (kc_list C.K) ad_list T.n_list bb_list (me_cons (me_ix (oa_ix C.K) ad_ix (me_v 0) me_int) me_nil))))
    ms_nil)
    (ms_cons (ms_if (mt_cmp (oa_eq C.K hr.units) ad_eq (me_v 1) me_str (nomark _))
    (ms_one (ms_ret (me_op (oa_add C.K) ad_add (me_fn (ok_three T LM hd) hr (pN rfl rfl rfl rfl) (me_cons (me_ix (oa_ix C.K) ad_ix (me_v 0) me_int) me_nil)) (me_lst (me_cons (me_op op_sub ad_sub (me_ix (oa_ix C.K) ad_ix (me_v 0) me_int) me_int) me_nil)))))
    ms_nil)
    (ms_cons (ms_if (mt_cmp (oa_eq C.K hr.units) ad_eq (me_v 1) me_str (nomark _))
    (ms_one (ms_ret (me_lst (me_cons (me_ix (oa_ix C.K) ad_ix (me_v 0) me_int) me_nil))))
    ms_nil)
    (ms_cons (ms_endW [2, 3, 4] (ms_if (mt_cmp (oa_eq C.K hr.units) ad_eq (me_v 1) me_str (nomark _))
    (ms_cons (ms_set (i := 2) sc_rest_of.nd rfl (by first | exact Or.inl rfl | exact Or.inr rfl) (me_lst me_nil))
      (ms_cons (ms_endW [3, 4] (ms_for (gok_t (gsok_cons gok_n (gsok_cons gok_n gsok_nil))) PassesOwn.leaving rfl (mi_any (me_ix (oa_ix C.K) ad_ix (me_v 0) me_int)) (mg_t (n := 2) rfl (mgs_cons (mg_n (i := 3) sc_rest_of.nd rfl (by first | exact Or.inl rfl | exact Or.inr rfl)) (mgs_cons (mg_n (i := 4) sc_rest_of.nd rfl (by first | exact Or.inl rfl | exact Or.inr rfl)) mgs_nil)))
      (ms_endWB [3, 4] (ms_one (ms_set (i := 2) sc_rest_of.nd rfl (by first | exact Or.inl rfl | exact Or.inr rfl) (me_op (oa_add C.K) ad_add (me_op (oa_add C.K) ad_add (me_v 2) (me_lst (me_cons (me_tidx T.g_TERMS (me_v 3)) me_nil))) (me_fn (ok_three T LM hd) hr (pN rfl rfl rfl rfl) (me_cons (me_v 4) me_nil))))))))
      (ms_one (ms_ret (me_v 2)))))
    ms_nil))
    (ms_cons (ms_if (mt_cmp (ko_in C.K) ad_in (me_v 1) (me_tup (me_cons me_str (me_cons me_str me_nil))) rfl)
    (ms_one (ms_ret (me_fn (ok_three T LM hd) hr (pN rfl rfl rfl rfl) (me_cons (me_ix (oa_ix C.K) ad_ix (me_v 0) me_int) me_nil))))
    ms_nil)
    (ms_cons (ms_if (mt_cmp (oa_eq C.K hr.units) ad_eq (me_v 1) me_str (nomark _))
    (ms_one (ms_ret (me_op (oa_add C.K) ad_add (me_fn (ok_three T LM hd) hr (pN rfl rfl rfl rfl) (me_cons (me_ix (oa_ix C.K) ad_ix (me_v 0) me_int) me_nil)) (me_lst (me_cons (me_ix (oa_ix C.K) ad_ix (me_v 0) me_int) me_nil)))))
    ms_nil)
    (ms_one (ms_ret (me_if (mt_cmp (oa_eq C.K hr.units) ad_eq (me_v 1) me_str (nomark _)) (me_fn (ok_three T LM hd) hr (pN rfl rfl rfl rfl) (me_cons (me_ix (oa_ix C.K) ad_ix (me_v 0) me_int) me_nil)) (me_lst me_nil))))))))))))
noncomputable def m_kind_of : MS := (sSeq (sAsg (mDisp ["heard", "knocked"] (mCons (mC (.str "terms")) (mCons (mC (.str "knock")) mNil))) (gN 1))
    (sRet (mL tupF (mCons (m1 (tidxF l_KINDS) (mDget2 (mV 1) (mV 0) (mV 0))) (mCons (m2 dinF (mV 0) (mV 1)) mNil)))))
noncomputable def F_kind_of : MF := runP 2 m_kind_of
theorem ok_kind_of (T : Tx C mg w) (LM : Lm C mg base) (hd : List Addr) : Fn P w C.K mg base 1 "kind_of" (spM (C.wh hd) 1 F_kind_of) := fn_P (fnM (C := C.wh hd) (k := 0) T.d_kind_of (fun _ _ _ _ _ _ us hl => match us, hl with | [_], _ => rfl) sc_kind_of fun f cdv A outer s H E hr => (ms_cons (ms_set (i := 1) sc_kind_of.nd rfl (by first | exact Or.inl rfl | exact Or.inr rfl) (me_disp (pd_cons me_str (pd_cons me_str pd_nil))))
    (ms_one (ms_ret (me_tup (me_cons (me_tidx T.g_KINDS (me_dget2 (un1 hr) (me_v 1) (me_v 0) (me_v 0))) (me_cons (me_pc (me_din (un1 hr) (me_v 0) (me_v 1))) me_nil)))))))
noncomputable def m_written_sheet : MS := (sSeq (sExp (mCall 1 F_look_sheet (mCons (mV 0) mNil)))
    (sSeq (sAsg (m2 ixF (mV 0) (mC (.int 0))) (gN 1))
    (sSeq (sAsg (mCall 1 F_kind_of (mCons (mV 1) mNil)) (gT 2 (gsCons (gN 2) (gsCons (gN 3) gsNil))))
    (sSeq (sIf (mT (m2 inF (mV 1) (mL tupF (mCons (mC (.str "piece")) (mCons (mC (.str "heads")) mNil)))))
    (sAsg (m2 ixF (mV 0) (mC (.int 3))) (gN 3))
    sNil)
    (sSeq (sAsg (mIte (mT (m2 inF (mV 1) (mL tupF (mCons (mC (.str "piece")) (mCons (mC (.str "heads")) (mCons (mC (.str "rank")) (mCons (mC (.str "cut")) (mCons (mC (.str "room")) mNil)))))))) (m2 ixF (mV 0) (mC (.int 1))) (mC (.int 0))) (gN 4))
    (sSeq (sAsg (mCall 1 F_rest_of (mCons (mV 0) mNil)) (gN 5))
    (sRet (m2 addF (m2 addF (mL lstF (mCons (m2 fdivF (mL lenF (mCons (mV 5) mNil)) (mC (.int 256))) (mCons (m2 modF (mL lenF (mCons (mV 5) mNil)) (mC (.int 256))) (mCons (mV 2) (mCons (mL intF (mCons (mV 3) mNil)) mNil))))) (mCall 1 F_three (mCons (mV 4) mNil))) (mV 5)))))))))
noncomputable def F_written_sheet : MF := runF 6 m_written_sheet
theorem ok_written_sheet (T : Tx C mg w) (LM : Lm C mg base) (hd : List Addr) : Fn P w C.K mg base 5 "written_sheet" (spM (C.wh hd) 1 F_written_sheet) := fnM (C := C.wh hd) (k := 4) T.d_written_sheet (fun _ _ _ _ _ _ us hl => match us, hl with | [_], _ => rfl) sc_written_sheet fun f cdv A outer s H E hr => (ms_cons (ms_expr (me_fn (ok_look_sheet T LM hd) hr (pN rfl rfl rfl rfl) (me_cons (me_v 0) me_nil)))
    (ms_cons (ms_set (i := 1) sc_written_sheet.nd rfl (by first | exact Or.inl rfl | exact Or.inr rfl) (me_ix (oa_ix C.K) ad_ix (me_v 0) me_int))
    (ms_cons (ms_asg (gok_t (gsok_cons gok_n (gsok_cons gok_n gsok_nil))) (me_fn (ok_kind_of T LM hd) hr (pN rfl rfl rfl rfl) (me_cons (me_v 1) me_nil)) (mg_t (n := 2) rfl (mgs_cons (mg_n (i := 2) sc_written_sheet.nd rfl (by first | exact Or.inl rfl | exact Or.inr rfl)) (mgs_cons (mg_n (i := 3) sc_written_sheet.nd rfl (by first | exact Or.inl rfl | exact Or.inr rfl)) mgs_nil))))
    (ms_cons (ms_if (mt_cmp (ko_in C.K) ad_in (me_v 1) (me_tup (me_cons me_str (me_cons me_str me_nil))) rfl)
    (ms_one (ms_set (i := 3) sc_written_sheet.nd rfl (by first | exact Or.inl rfl | exact Or.inr rfl) (me_ix (oa_ix C.K) ad_ix (me_v 0) me_int)))
    ms_nil)
    (ms_cons (ms_set (i := 4) sc_written_sheet.nd rfl (by first | exact Or.inl rfl | exact Or.inr rfl) (me_if (mt_cmp (ko_in C.K) ad_in (me_v 1) (me_tup (me_cons me_str (me_cons me_str (me_cons me_str (me_cons me_str (me_cons me_str me_nil)))))) rfl) (me_ix (oa_ix C.K) ad_ix (me_v 0) me_int) me_int))
    (ms_cons (ms_set (i := 5) sc_written_sheet.nd rfl (by first | exact Or.inl rfl | exact Or.inr rfl) (me_fn (ok_rest_of T LM hd) hr (pN rfl rfl rfl rfl) (me_cons (me_v 0) me_nil)))
    (ms_one (ms_ret (me_op (oa_add C.K) ad_add (me_op (oa_add C.K) ad_add (me_lst (me_cons (me_op op_fdivW ad_fdiv (me_call (oa_len C.K) ad_len T.n_len bb_len (me_cons (me_v 5) me_nil)) me_int) (me_cons (me_op op_mod ad_mod (me_call (oa_len C.K) ad_len T.n_len bb_len (me_cons (me_v 5) me_nil)) me_int) (me_cons (me_v 2) (me_cons (me_callT c_int ad_int T.n_int bb_int (me_cons (me_v 3) me_nil)) me_nil))))) (me_fn (ok_three T LM hd) hr (pN rfl rfl rfl rfl) (me_cons (me_v 4) me_nil))) (me_v 5))))))))))
noncomputable def m_law_cell : MS := (sSeq (sIf (mT (m2 eqF (mV 0) (mL lstF mNil)))
    (sRet (m2 mulF (mV 1) (mC (.int 7919))))
    sNil)
    (sRet (m2 addF (m2 ixF (mV 0) (m2 modF (mV 1) (mL lenF (mCons (mV 0) mNil)))) (m2 mulF (m2 fdivF (mV 1) (mL lenF (mCons (mV 0) mNil))) (mC (.int 104729))))))
noncomputable def F_law_cell : MF := runF 2 m_law_cell
theorem ok_law_cell (T : Tx C mg w) (LM : Lm C mg base) (hd : List Addr) : Fn P w C.K mg base 1 "_law_cell" (spM (C.wh hd) 2 F_law_cell) := fnM (C := C.wh hd) (k := 0) T.d_law_cell (fun _ _ _ _ _ _ us hl => match us, hl with | [_, _], _ => rfl) sc__law_cell fun f cdv A outer s H E hr => (ms_cons (ms_if (mt_cmp (oa_eq C.K hr.units) ad_eq (me_v 0) (me_lst me_nil) (nomark _))
    (ms_one (ms_ret (me_op oa_mul ad_mul (me_v 1) me_int)))
    ms_nil)
    (ms_one (ms_ret (me_op (oa_add C.K) ad_add (me_ix (oa_ix C.K) ad_ix (me_v 0) (me_op op_mod ad_mod (me_v 1) (me_call (oa_len C.K) ad_len T.n_len bb_len (me_cons (me_v 0) me_nil)))) (me_op oa_mul ad_mul (me_op op_fdivW ad_fdiv (me_v 1) (me_call (oa_len C.K) ad_len T.n_len bb_len (me_cons (me_v 0) me_nil))) me_int)))))
noncomputable def m_law_signs : MS := (sRet (mC (.str " !#$&'()*+,-./0123456789:;<=>?@ABCDEFGHIJKLMNOPQRSTUVWXYZ[\\]^_`abcdefghijklmnopqrstuvwxyz{|}~")))
noncomputable def F_law_signs : MF := runF 0 m_law_signs
theorem ok_law_signs (T : Tx C mg w) (LM : Lm C mg base) (hd : List Addr) : Fn P w C.K mg base 1 "_law_signs" (spM (C.wh hd) 0 F_law_signs) := fnM (C := C.wh hd) (k := 0) T.d_law_signs (fun _ _ _ _ _ _ us hl => match us, hl with | [], _ => rfl) sc__law_signs fun f cdv A outer s H E hr => (ms_one (ms_ret me_str))
noncomputable def m_law_text : MS := (sSeq (sAsg (mCall 0 F_law_signs mNil) (gN 2))
    (sRet (mJoin (mC (.str "")) (mLc (mRng1 (m2 modF (mV 0) (m2 addF (mV 1) (mC (.int 1))))) (gN 3) tYesM (m2 ixF (mV 2) (m2 modF (mCall 2 F_law_drawn (mCons (mV 0) (mCons (mV 3) mNil))) (mL lenF (mCons (mV 2) mNil)))) [3]))))
noncomputable def F_law_text : MF := runF 4 m_law_text
theorem ok_law_text (T : Tx C mg w) (LM : Lm C mg base) (hd : List Addr) : Fn P w C.K mg base 2 "_law_text" (spM (C.wh hd) 2 F_law_text) := fnM (C := C.wh hd) (k := 1) T.d_law_text (fun _ _ _ _ _ _ us hl => match us, hl with | [_, _], _ => rfl) sc__law_text fun f cdv A outer s H E hr => (ms_cons (ms_set (i := 2) sc__law_text.nd rfl (by first | exact Or.inl rfl | exact Or.inr rfl) (me_fn0 (ok_law_signs T LM hd) hr (pN rfl rfl rfl rfl)))
    (ms_one (ms_ret (me_join me_str (me_lc rfl sc__law_text.nd (vs := [("j", 3)]) (lct_n (by decide)) gk_n (mi_rng1 T.n_range (me_op op_mod ad_mod (me_v 0) (me_op (oa_add C.K) ad_add (me_v 1) me_int))) (blkOk_by (N := ["more", "most", "signs", "j"]) (sc := defScope s__law_text) (by decide +kernel)) (fun _ _ _ _ _ => by exact (pg_name (i := 3) sc__law_text.nd rfl (by first | exact Or.inl rfl | exact Or.inr rfl))) (fun hd _ _ _ _ _ => by exact mts_nil) (fun hd _ _ _ _ _ => by exact (me_ix (oa_ix C.K) ad_ix (me_v 2) (me_op op_mod ad_mod (me_fn (ok_law_drawn T LM hd) hr pass0N (me_cons (me_v 0) (me_cons (me_v 3) me_nil))) (me_call (oa_len C.K) ad_len T.n_len bb_len (me_cons (me_v 2) me_nil))))))))))
noncomputable def b_law_sheet_1 : MS := (sEndW [7, 8] (sIf (mT (m2 eqF (m2 modF (mCall 2 F_law_drawn (mCons (mV 1) (mCons (mV 7) mNil))) (mC (.int 2))) (mC (.int 0))))
        (sExp (mBm appF (mV 6) (mCons (mL tupF (mCons (mV 8) (mCons (m2 ixF (mL lstF (mCons (mC (.int 1)) (mCons (m2 subF (m2 dgetF (mV 5) (mV 8)) (mC (.int 1))) (mCons (m2 addF (mC (.int 1)) (m2 modF (mV 1) (m2 subF (m2 dgetF (mV 5) (mV 8)) (mC (.int 1))))) mNil)))) (m2 modF (m2 fdivF (mCall 2 F_law_drawn (mCons (mV 1) (mCons (mV 7) mNil))) (mC (.int 4))) (mC (.int 3)))) mNil))) mNil)))
        sNil))
noncomputable def l_law_sheet_1 : MS := sFor (mEnum (mL lstF (mCons (mC (.str "piece")) (mCons (mC (.str "room")) (mCons (mC (.str "strands")) (mCons (mC (.str "book")) mNil)))))) (gT 2 (gsCons (gN 7) (gsCons (gN 8) gsNil))) b_law_sheet_1
noncomputable def m_law_sheet : MS := (sSeq (sAsg (m2 fdivF (mV 0) (mC (.int 64))) (gN 1))
    (sSeq (sAsg (m2 ixF (mL lstF (mCons (mC (.int 1)) (mCons (mC (.int 2)) (mCons (mC (.int 3)) (mCons (mC (.int 255)) (mCons (mC (.int 256)) (mCons (mC (.int 65536)) (mCons (mC (.int 16777215)) (mCons (m2 addF (mC (.int 1)) (m2 modF (mV 1) (mC (.int 16777215)))) mNil))))))))) (m2 modF (mV 1) (mC (.int 8)))) (gN 2))
    (sSeq (sAsg (m2 ixF (mL lstF (mCons (mC (.int 0)) (mCons (mC (.int 1)) (mCons (mC (.int 255)) (mCons (mC (.int 256)) (mCons (mC (.int 65535)) (mCons (mC (.int 16777215)) (mCons (m2 modF (m2 fdivF (mV 1) (mC (.int 8))) (mC (.int 16777216))) mNil)))))))) (m2 modF (m2 fdivF (mV 1) (mC (.int 8))) (mC (.int 7)))) (gN 3))
    (sSeq (sAsg (m2 modF (mV 0) (mC (.int 11))) (gN 4))
    (sSeq (sIf (mT (m2 ltF (mV 4) (mC (.int 2))))
    (sRet (mL tupF (mCons (mC (.str "piece")) (mCons (mV 2) (mCons (mCall 2 F_law_text (mCons (mV 1) (mCons (mC (.int 40)) mNil))) (mCons (m2 eqF (m2 modF (mV 1) (mC (.int 2))) (mC (.int 0))) mNil))))))
    sNil)
    (sSeq (sIf (mT (m2 eqF (mV 4) (mC (.int 2))))
    (sRet (mL tupF (mCons (mC (.str "heads")) (mCons (mV 2) (mCons (mL tupleF (mCons (mLc (mRng1 (m2 modF (mV 1) (mC (.int 300)))) (gN 7) tYesM (m2 modF (mCall 2 F_law_drawn (mCons (mV 1) (mCons (mV 7) mNil))) (mC (.int 256))) [7]) mNil)) (mCons (m2 eqF (m2 modF (mV 1) (mC (.int 2))) (mC (.int 0))) mNil))))))
    sNil)
    (sSeq (sIf (mT (m2 eqF (mV 4) (mC (.int 3))))
    (sRet (mL tupF (mCons (mC (.str "rank")) (mCons (mV 2) (mCons (mIte (mT (m2 neF (mV 3) (mV 2))) (mV 3) (mC (.int 0))) (mCons (m2 addF (mC (.int 1)) (m2 modF (m2 fdivF (mV 1) (mC (.int 16))) (mC (.int 256)))) mNil))))))
    sNil)
    (sSeq (sIf (mT (m2 eqF (mV 4) (mC (.int 4))))
    (sRet (mL tupF (mCons (mC (.str "cut")) (mCons (mV 2) (mCons (m2 modF (mV 1) (mC (.int 10))) mNil)))))
    sNil)
    (sSeq (sEndW [5, 6, 7, 8] (sIf (mT (m2 eqF (mV 4) (mC (.int 5))))
    (sSeq (sAsg (mDisp ["piece", "room", "strands", "book"] (mCons (mC (.int 16384)) (mCons (mC (.int 65536)) (mCons (mC (.int 256)) (mCons (mC (.int 4097)) mNil))))) (gN 5))
      (sSeq (sAsg (mL lstO mNil) (gN 6))
      (sSeq (sEndW [7, 8] l_law_sheet_1)
      (sRet (mL tupF (mCons (mC (.str "terms")) (mCons (mL tupleF (mCons (mV 6) mNil)) mNil)))))))
    sNil))
    (sSeq (sIf (mT (m2 eqF (mV 4) (mC (.int 6))))
    (sRet (mL tupF (mCons (mC (.str "heard")) mNil)))
    sNil)
    (sSeq (sIf (mT (m2 ltF (mV 4) (mC (.int 9))))
    (sRet (mL tupF (mCons (m2 ixF (mL lstF (mCons (mC (.str "knock")) (mCons (mC (.str "knocked")) mNil))) (m2 subF (mV 4) (mC (.int 7)))) (mCons (mV 3) mNil))))
    sNil)
    (sRet (mIte (mT (m2 eqF (mV 4) (mC (.int 9)))) (mL tupF (mCons (mC (.str "last")) (mCons (mV 3) (mCons (m2 modF (mV 1) (mC (.int 10))) mNil)))) (mL tupF (mCons (mC (.str "room")) (mCons (m2 ixF (mL lstF (mCons (mC (.int 0)) (mCons (mV 2) mNil))) (m2 modF (mV 1) (mC (.int 2)))) (mCons (mL maxF (mCons (mC (.int 1)) (mCons (mV 3) mNil))) mNil)))))))))))))))))
noncomputable def F_law_sheet : MF := runP 9 m_law_sheet
theorem ok_law_sheet (T : Tx C mg w) (LM : Lm C mg base) (hd : List Addr) : Fn P w C.K mg base 3 "_law_sheet" (spM (C.wh hd) 1 F_law_sheet) := fn_P (fnM (C := C.wh hd) (k := 2) T.d_law_sheet (fun _ _ _ _ _ _ us hl => match us, hl with | [_], _ => rfl) sc__law_sheet fun f cdv A outer s H E hr => (ms_cons (ms_set (i := 1) sc__law_sheet.nd rfl (by first | exact Or.inl rfl | exact Or.inr rfl) (me_op op_fdivW ad_fdiv (me_v 0) me_int))
    (ms_cons (ms_set (i := 2) sc__law_sheet.nd rfl (by first | exact Or.inl rfl | exact Or.inr rfl) (me_ix (oa_ix C.K) ad_ix (me_lst (me_cons me_int (me_cons me_int (me_cons me_int (me_cons me_int (me_cons me_int (me_cons me_int (me_cons me_int (me_cons (me_op (oa_add C.K) ad_add me_int (me_op op_mod ad_mod (me_v 1) me_int)) me_nil))))))))) (me_op op_mod ad_mod (me_v 1) me_int)))
    (ms_cons (ms_set (i := 3) sc__law_sheet.nd rfl (by first | exact Or.inl rfl | exact Or.inr rfl) (me_ix (oa_ix C.K) ad_ix (me_lst (me_cons me_int (me_cons me_int (me_cons me_int (me_cons me_int (me_cons me_int (me_cons me_int (me_cons (me_op op_mod ad_mod (me_op op_fdivW ad_fdiv (me_v 1) me_int) me_int) me_nil)))))))) (me_op op_mod ad_mod (me_op op_fdivW ad_fdiv (me_v 1) me_int) me_int)))
    (ms_cons (ms_set (i := 4) sc__law_sheet.nd rfl (by first | exact Or.inl rfl | exact Or.inr rfl) (me_op op_mod ad_mod (me_v 0) me_int))
    (ms_cons (ms_if (mt_cmp op_lt ad_lt (me_v 4) me_int (nomark _))
    (ms_one (ms_ret (me_tup (me_cons me_str (me_cons (me_v 2) (me_cons (me_fn (ok_law_text T LM hd) hr (pN rfl rfl rfl rfl) (me_cons (me_v 1) (me_cons me_int me_nil))) (me_cons (me_cmp (oa_eq C.K hr.units) ad_eq (me_op op_mod ad_mod (me_v 1) me_int) me_int (nomark _)) me_nil)))))))
    ms_nil)
    (ms_cons (ms_if (mt_cmp (oa_eq C.K hr.units) ad_eq (me_v 4) me_int (nomark _))
    (ms_one (ms_ret (me_tup (me_cons me_str (me_cons (me_v 2) (me_cons (me_callT (kc_tuple C.K) ad_tuple T.n_tuple bb_tuple (me_cons (me_lc rfl sc__law_sheet.nd (vs := [("j", 7)]) (lct_n (by decide)) gk_n (mi_rng1 T.n_range (me_op op_mod ad_mod (me_v 1) me_int)) (blkOk_by (N := ["more", "here", "strand", "number", "way", "tops", "found", "j", "name"]) (sc := defScope s__law_sheet) (by decide +kernel)) (fun _ _ _ _ _ => by exact (pg_name (i := 7) sc__law_sheet.nd rfl (by first | exact Or.inl rfl | exact Or.inr rfl))) (fun hd _ _ _ _ _ => by exact mts_nil) (fun hd _ _ _ _ _ => by exact (me_op op_mod ad_mod (me_fn (ok_law_drawn T LM hd) hr pass0N (me_cons (me_v 1) (me_cons (me_v 7) me_nil))) me_int))) me_nil)) (me_cons (me_cmp (oa_eq C.K hr.units) ad_eq (me_op op_mod ad_mod (me_v 1) me_int) me_int (nomark _)) me_nil)))))))
    ms_nil)
    (ms_cons (ms_if (mt_cmp (oa_eq C.K hr.units) ad_eq (me_v 4) me_int (nomark _))
    (ms_one (ms_ret (me_tup (me_cons me_str (me_cons (me_v 2) (me_cons (me_if (mt_cmp (oa_ne C.K hr.units) ad_ne (me_v 3) (me_v 2) (nomark _)) (me_v 3) me_int) (me_cons (me_op (oa_add C.K) ad_add me_int (me_op op_mod ad_mod (me_op op_fdivW ad_fdiv (me_v 1) me_int) me_int)) me_nil)))))))
    ms_nil)
    (ms_cons (ms_if (mt_cmp (oa_eq C.K hr.units) ad_eq (me_v 4) me_int (nomark _))
    (ms_one (ms_ret (me_tup (me_cons me_str (me_cons (me_v 2) (me_cons (me_op op_mod ad_mod (me_v 1) me_int) me_nil))))))
    ms_nil)
    (ms_cons (ms_endW [5, 6, 7, 8] (ms_if (mt_cmp (oa_eq C.K hr.units) ad_eq (me_v 4) me_int (nomark _))
    (ms_cons (ms_set (i := 5) sc__law_sheet.nd rfl (by first | exact Or.inl rfl | exact Or.inr rfl) (me_disp (pd_cons me_int (pd_cons me_int (pd_cons me_int (pd_cons me_int pd_nil))))))
      (ms_cons (ms_set (i := 6) sc__law_sheet.nd rfl (by first | exact Or.inl rfl | exact Or.inr rfl) (me_lstO me_nil))
      (ms_cons (ms_endW [7, 8] (ms_for (gok_t (gsok_cons gok_n (gsok_cons gok_n gsok_nil))) PassesOwn.leaving rfl (mi_enum T.n_enumerate (me_lst (me_cons me_str (me_cons me_str (me_cons me_str (me_cons me_str me_nil)))))) (mg_t (n := 2) rfl (mgs_cons (mg_n (i := 7) sc__law_sheet.nd rfl (by first | exact Or.inl rfl | exact Or.inr rfl)) (mgs_cons (mg_n (i := 8) sc__law_sheet.nd rfl (by first | exact Or.inl rfl | exact Or.inr rfl)) mgs_nil)))
      (ms_endWB [7, 8] (ms_one (ms_if (mt_cmp (oa_eq C.K hr.units) ad_eq (me_op op_mod ad_mod (me_fn (ok_law_drawn T LM hd) hr (pN rfl rfl rfl rfl) (me_cons (me_v 1) (me_cons (me_v 7) me_nil))) me_int) me_int (nomark _))
        (ms_one (ms_expr (me_append (me_v 6) (me_cons (me_tup (me_cons (me_v 8) (me_cons (me_ix (oa_ix C.K) ad_ix (me_lst (me_cons me_int (me_cons (me_op op_sub ad_sub (me_dget (un1 hr) (me_v 5) (me_v 8)) me_int) (me_cons (me_op (oa_add C.K) ad_add me_int (me_op op_mod ad_mod (me_v 1) (me_op op_sub ad_sub (me_dget (un1 hr) (me_v 5) (me_v 8)) me_int))) me_nil)))) (me_op op_mod ad_mod (me_op op_fdivW ad_fdiv (me_fn (ok_law_drawn T LM hd) hr (pN rfl rfl rfl rfl) (me_cons (me_v 1) (me_cons (me_v 7) me_nil))) me_int) me_int)) me_nil))) me_nil))))
        ms_nil)))))
      (ms_one (ms_ret (me_tup (me_cons me_str (me_cons (me_callT (kc_tuple C.K) ad_tuple T.n_tuple bb_tuple (me_cons (me_v 6) me_nil)) me_nil))))))))
    ms_nil))
    (ms_cons (ms_if (mt_cmp (oa_eq C.K hr.units) ad_eq (me_v 4) me_int (nomark _))
    (ms_one (ms_ret (me_tup (me_cons me_str me_nil))))
    ms_nil)
    (ms_cons (ms_if (mt_cmp op_lt ad_lt (me_v 4) me_int (nomark _))
    (ms_one (ms_ret (me_tup (me_cons (me_ix (oa_ix C.K) ad_ix (me_lst (me_cons me_str (me_cons me_str me_nil))) (me_op op_sub ad_sub (me_v 4) me_int)) (me_cons (me_v 3) me_nil)))))
    ms_nil)
    (ms_one (ms_ret (me_if (mt_cmp (oa_eq C.K hr.units) ad_eq (me_v 4) me_int (nomark _)) (me_tup (me_cons me_str (me_cons (me_v 3) (me_cons (me_op op_mod ad_mod (me_v 1) me_int) me_nil)))) (me_tup (me_cons me_str (me_cons (me_ix (oa_ix C.K) ad_ix (me_lst (me_cons me_int (me_cons (me_v 2) me_nil))) (me_op op_mod ad_mod (me_v 1) me_int)) (me_cons (me_call (c_max rfl) ad_max T.n_max bb_max (me_cons me_int (me_cons (me_v 3) me_nil))) me_nil)))))))))))))))))))
noncomputable def m_law_near : MS := (sSeq (sAsg (m2 ixF (mV 0) (mC (.int 0))) (gN 2))
    (sSeq (sIf (mT (m2 inF (mV 2) (mL tupF (mCons (mC (.str "piece")) (mCons (mC (.str "heads")) mNil)))))
    (sRet (m2 addF (mSl (mV 0) mNoPart (mPart (mC (.int 3)))) (mL tupF (mCons (mNot (m2 ixF (mV 0) (mC (.int 3)))) mNil))))
    sNil)
    (sSeq (sIf (mT (m2 eqF (mV 2) (mC (.str "terms"))))
    (sRet (mL tupF (mCons (mC (.str "terms")) (mCons (mSl (m2 ixF (mV 0) (mC (.int 1))) mNoPart (mPart (m1 negF (mC (.int 1))))) mNil))))
    sNil)
    (sSeq (sIf (mT (m2 inF (mV 2) (mL tupF (mCons (mC (.str "knock")) (mCons (mC (.str "knocked")) mNil)))))
    (sRet (mL tupF (mCons (m2 ixF (mL lstF (mCons (mC (.str "knocked")) (mCons (mC (.str "knock")) mNil))) (mL intF (mCons (m2 eqF (mV 2) (mC (.str "knocked"))) mNil))) (mCons (m2 ixF (mV 0) (mC (.int 1))) mNil))))
    sNil)
    (sSeq (sIf (mT (m2 eqF (mV 2) (mC (.str "heard"))))
    (sRet (mL tupF (mCons (mC (.str "terms")) (mCons (mL tupF mNil) mNil))))
    sNil)
    (sSeq (sIf (mT (m2 eqF (mV 2) (mC (.str "last"))))
    (sRet (mL tupF (mCons (mC (.str "last")) (mCons (m2 ixF (mV 0) (mC (.int 1))) (mCons (m2 modF (m2 addF (m2 ixF (mV 0) (mC (.int 2))) (mC (.int 1))) (mC (.int 10))) mNil)))))
    sNil)
    (sSeq (sIf (mT (m2 eqF (mV 2) (mC (.str "cut"))))
    (sRet (mL tupF (mCons (mC (.str "cut")) (mCons (m2 addF (m2 modF (m2 ixF (mV 0) (mC (.int 1))) (mC (.int 16777215))) (mC (.int 1))) (mCons (m2 ixF (mV 0) (mC (.int 2))) mNil)))))
    sNil)
    (sRet (mIte (mT (m2 eqF (mV 2) (mC (.str "rank")))) (m2 addF (mSl (mV 0) mNoPart (mPart (m1 negF (mC (.int 1))))) (mL tupF (mCons (m2 addF (m2 modF (m2 ixF (mV 0) (m1 negF (mC (.int 1)))) (mC (.int 256))) (mC (.int 1))) mNil))) (m2 addF (mSl (mV 0) mNoPart (mPart (m1 negF (mC (.int 1))))) (mL tupF (mCons (m2 addF (m2 fdivF (m2 ixF (mV 0) (m1 negF (mC (.int 1)))) (mC (.int 2))) (mC (.int 1))) mNil))))))))))))
noncomputable def F_law_near : MF := runF 3 m_law_near
theorem ok_law_near (T : Tx C mg w) (LM : Lm C mg base) (hd : List Addr) : Fn P w C.K mg base 1 "_law_near" (spM (C.wh hd) 2 F_law_near) := fnM (C := C.wh hd) (k := 0) T.d_law_near (fun _ _ _ _ _ _ us hl => match us, hl with | [_, _], _ => rfl) sc__law_near fun f cdv A outer s H E hr => (ms_cons (ms_set (i := 2) sc__law_near.nd rfl (by first | exact Or.inl rfl | exact Or.inr rfl) (me_ix (oa_ix C.K) ad_ix (me_v 0) me_int))
    (ms_cons (ms_if (mt_cmp (ko_in C.K) ad_in (me_v 2) (me_tup (me_cons me_str (me_cons me_str me_nil))) rfl)
    (ms_one (ms_ret (me_op (oa_add C.K) ad_add (me_sl (me_v 0) me_nopart (me_part me_int)) (me_tup (me_cons (me_not (me_ix (oa_ix C.K) ad_ix (me_v 0) me_int)) me_nil)))))
    ms_nil)
    (ms_cons (ms_if (mt_cmp (oa_eq C.K hr.units) ad_eq (me_v 2) me_str (nomark _))
    (ms_one (ms_ret (me_tup (me_cons me_str (me_cons (me_sl (me_ix (oa_ix C.K) ad_ix (me_v 0) me_int) me_nopart (me_part (me_un un_neg ad_neg me_int))) me_nil)))))
    ms_nil)
    (ms_cons (ms_if (mt_cmp (ko_in C.K) ad_in (me_v 2) (me_tup (me_cons me_str (me_cons me_str me_nil))) rfl)
    (ms_one (ms_ret (me_tup (me_cons (me_ix (oa_ix C.K) ad_ix (me_lst (me_cons me_str (me_cons me_str me_nil))) (me_callT c_int ad_int T.n_int bb_int (me_cons (me_cmp (oa_eq C.K hr.units) ad_eq (me_v 2) me_str (nomark _)) me_nil))) (me_cons (me_ix (oa_ix C.K) ad_ix (me_v 0) me_int) me_nil)))))
    ms_nil)
    (ms_cons (ms_if (mt_cmp (oa_eq C.K hr.units) ad_eq (me_v 2) me_str (nomark _))
    (ms_one (ms_ret (me_tup (me_cons me_str (me_cons (me_tup me_nil) me_nil)))))
    ms_nil)
    (ms_cons (ms_if (mt_cmp (oa_eq C.K hr.units) ad_eq (me_v 2) me_str (nomark _))
    (ms_one (ms_ret (me_tup (me_cons me_str (me_cons (me_ix (oa_ix C.K) ad_ix (me_v 0) me_int) (me_cons (me_op op_mod ad_mod (me_op (oa_add C.K) ad_add (me_ix (oa_ix C.K) ad_ix (me_v 0) me_int) me_int) me_int) me_nil))))))
    ms_nil)
    (ms_cons (ms_if (mt_cmp (oa_eq C.K hr.units) ad_eq (me_v 2) me_str (nomark _))
    (ms_one (ms_ret (me_tup (me_cons me_str (me_cons (me_op (oa_add C.K) ad_add (me_op op_mod ad_mod (me_ix (oa_ix C.K) ad_ix (me_v 0) me_int) me_int) me_int) (me_cons (me_ix (oa_ix C.K) ad_ix (me_v 0) me_int) me_nil))))))
    ms_nil)
    (ms_one (ms_ret (me_if (mt_cmp (oa_eq C.K hr.units) ad_eq (me_v 2) me_str (nomark _)) (me_op (oa_add C.K) ad_add (me_sl (me_v 0) me_nopart (me_part (me_un un_neg ad_neg me_int))) (me_tup (me_cons (me_op (oa_add C.K) ad_add (me_op op_mod ad_mod (me_ix (oa_ix C.K) ad_ix (me_v 0) (me_un un_neg ad_neg me_int)) me_int) me_int) me_nil))) (me_op (oa_add C.K) ad_add (me_sl (me_v 0) me_nopart (me_part (me_un un_neg ad_neg me_int))) (me_tup (me_cons (me_op (oa_add C.K) ad_add (me_op op_fdivW ad_fdiv (me_ix (oa_ix C.K) ad_ix (me_v 0) (me_un un_neg ad_neg me_int)) me_int) me_int) me_nil)))))))))))))
noncomputable def b_law_1 : MS := (sEndW [4] (sSeq (sAsg (mCall 1 F_law_sheet (mCons (mCall 2 F_law_drawn (mCons (mV 2) (mCons (mV 4) mNil))) mNil)) (gN 5))
        (sAsg (m2 addF (mV 3) (mL lstF (mCons (mV 5) (mCons (mCall 2 F_law_near (mCons (mV 5) (mCons (mV 2) mNil))) mNil)))) (gN 3))))
noncomputable def l_law_1 : MS := sFor (mRng1 (m2 addF (mC (.int 1)) (m2 modF (mV 2) (mC (.int 6))))) (gN 4) b_law_1
noncomputable def b_law_2 : MS := (sEndW [9, 10] (sIf (mOrT (mT (m2 neF (m2 eqF (mV 8) (mV 10)) (m2 eqF (mV 7) (mV 9)))) (mAndT (mT (m2 neF (mV 8) (mV 10))) (mT (m2 eqF (mSl (mV 10) mNoPart (mPart (mL lenF (mCons (mV 8) mNil)))) (mV 8)))))
          (sRet (mC (.bl false)))
          sNil))
noncomputable def l_law_2 : MS := sFor (mZip (mV 3) (mV 6)) (gT 2 (gsCons (gN 9) (gsCons (gN 10) gsNil))) b_law_2
noncomputable def b_law_3 : MS := (sEndW [7, 8, 9, 10] (sSeq (sIf (mOrT (mT (m2 neF (mL lenF (mCons (mV 8) mNil)) (m2 addF (m2 addF (mC (.int 7)) (m2 mulF (mC (.int 256)) (m2 ixF (mV 8) (mC (.int 0))))) (m2 ixF (mV 8) (mC (.int 1)))))) (mNotT (mT (mL allF (mCons (mLc (mIt (mV 8)) (gN 11) tYesM (mChain leF leF (mC (.int 0)) (mV 11) (mC (.int 255))) [11]) mNil)))))
        (sRet (mC (.bl false)))
        sNil)
        (sEndW [9, 10] l_law_2)))
noncomputable def l_law_3 : MS := sFor (mZip (mV 3) (mV 6)) (gT 2 (gsCons (gN 7) (gsCons (gN 8) gsNil))) b_law_3
noncomputable def b_law_4 : MS := (sEndW [1, 2, 3, 4, 6, 7, 8, 9, 10] (sSeq (sAsg (mCall 2 F_law_drawn (mCons (mCall 2 F_law_cell (mCons (mV 0) (mCons (mV 1) mNil))) (mCons (mV 1) mNil))) (gN 2))
      (sSeq (sAsg (mL lstF mNil) (gN 3))
      (sSeq (sEndW [4] l_law_1)
      (sSeq (sAsg (mLc (mIt (mV 3)) (gN 5) tYesM (mCall 1 F_written_sheet (mCons (mV 5) mNil)) [5]) (gN 6))
      (sEndW [7, 8, 9, 10] l_law_3))))))
noncomputable def l_law_4 : MS := sFor (mRng1 (mL maxF (mCons (mC (.int 1)) (mCons (mL minF (mCons (mC (.int 3)) (mCons (mL lenF (mCons (mV 0) mNil)) mNil))) mNil)))) (gN 1) b_law_4
noncomputable def m_law : MS := (sSeq (sEndW [1, 2, 3, 4, 6, 7, 8, 9, 10] l_law_4)
    (sRet (mC (.bl true))))
noncomputable def F_law : MF := runF 12 m_law
theorem ok_law (T : Tx C mg w) (LM : Lm C mg base) {f : Addr} {fd : FuncData} (F : Fun C.K "law" "law" s_law f fd) (hd : List Addr) : FnOk P w C.K mg base (L2N.CX P w) 6 f fd ["script"] (spM (C.wh hd) 1 F_law) :=
  okN (k := 5) F sc_law (fun vs H Q E h => spM_len h) fun cdv A outer s H vs Q E hr h => ⟨lS (C.wh hd) E m_law, (ms_cons (ms_endW [1, 2, 3, 4, 6, 7, 8, 9, 10] (ms_for gok_n PassesOwn.leaving rfl (mi_rng1 T.n_range (me_call (c_max rfl) ad_max T.n_max bb_max (me_cons me_int (me_cons (me_call (c_min rfl) ad_min T.n_min bb_min (me_cons me_int (me_cons (me_call (oa_len C.K) ad_len T.n_len bb_len (me_cons (me_v 0) me_nil)) me_nil))) me_nil)))) (mg_n (i := 1) sc_law.nd rfl (by first | exact Or.inl rfl | exact Or.inr rfl))
    (ms_endWB [1, 2, 3, 4, 6, 7, 8, 9, 10] (ms_cons (ms_set (i := 2) sc_law.nd rfl (by first | exact Or.inl rfl | exact Or.inr rfl) (me_fn (ok_law_drawn T LM hd) hr (pN rfl rfl rfl rfl) (me_cons (me_fn (ok_law_cell T LM hd) hr (pN rfl rfl rfl rfl) (me_cons (me_v 0) (me_cons (me_v 1) me_nil))) (me_cons (me_v 1) me_nil))))
      (ms_cons (ms_set (i := 3) sc_law.nd rfl (by first | exact Or.inl rfl | exact Or.inr rfl) (me_lst me_nil))
      (ms_cons (ms_endW [4] (ms_for gok_n PassesOwn.leaving rfl (mi_rng1 T.n_range (me_op (oa_add C.K) ad_add me_int (me_op op_mod ad_mod (me_v 2) me_int))) (mg_n (i := 4) sc_law.nd rfl (by first | exact Or.inl rfl | exact Or.inr rfl))
      (ms_endWB [4] (ms_cons (ms_set (i := 5) sc_law.nd rfl (by first | exact Or.inl rfl | exact Or.inr rfl) (me_fn (ok_law_sheet T LM hd) hr (pN rfl rfl rfl rfl) (me_cons (me_fn (ok_law_drawn T LM hd) hr (pN rfl rfl rfl rfl) (me_cons (me_v 2) (me_cons (me_v 4) me_nil))) me_nil)))
        (ms_one (ms_set (i := 3) sc_law.nd rfl (by first | exact Or.inl rfl | exact Or.inr rfl) (me_op (oa_add C.K) ad_add (me_v 3) (me_lst (me_cons (me_v 5) (me_cons (me_fn (ok_law_near T LM hd) hr (pN rfl rfl rfl rfl) (me_cons (me_v 5) (me_cons (me_v 2) me_nil))) me_nil))))))))))
      (ms_cons (ms_setLc (i := 6) rfl sc_law.nd rfl rfl (sw_true rfl rfl rfl (by decide +kernel)) (vs := [("sheet", 5)]) (lct_n (by decide)) gk_n (mi_any (me_v 3)) (blkOk_by (N := ["script", "k", "more", "sheets", "j", "sheet", "rows", "one", "row", "other", "far", "byte"]) (sc := defScope s_law) (by decide +kernel)) (fun _ _ _ _ _ => by exact (pg_name (i := 5) sc_law.nd rfl (by first | exact Or.inl rfl | exact Or.inr rfl))) (fun hd _ _ _ _ _ => by exact mts_nil) (fun hd _ _ _ _ _ => by exact (me_fn (ok_written_sheet T LM hd) hr pass0N (me_cons (me_v 5) me_nil))))
      (ms_one (ms_endW [7, 8, 9, 10] (ms_for (gok_t (gsok_cons gok_n (gsok_cons gok_n gsok_nil))) PassesOwn.leaving rfl (mi_zip T.n_zip (me_v 3) (me_v 6)) (mg_t (n := 2) rfl (mgs_cons (mg_n (i := 7) sc_law.nd rfl (by first | exact Or.inl rfl | exact Or.inr rfl)) (mgs_cons (mg_n (i := 8) sc_law.nd rfl (by first | exact Or.inl rfl | exact Or.inr rfl)) mgs_nil)))
      (ms_endWB [7, 8, 9, 10] (ms_cons (ms_if (PW.pt (mw_or (mt_cmp (oa_ne C.K hr.units) ad_ne (me_call (oa_len C.K) ad_len T.n_len bb_len (me_cons (me_v 8) me_nil)) (me_op (oa_add C.K) ad_add (me_op (oa_add C.K) ad_add me_int (me_op oa_mul ad_mul me_int (me_ix (oa_ix C.K) ad_ix (me_v 8) me_int))) (me_ix (oa_ix C.K) ad_ix (me_v 8) me_int)) (nomark _)) (mw_or1 (mt_not (mt_val (me_call (kc_all C.K rfl) ad_all T.n_all bb_all (me_cons (me_lc rfl sc_law.nd (vs := [("byte", 11)]) (lct_n (by decide)) gk_n (mi_any (me_v 8)) (blkOk_by (N := ["script", "k", "more", "sheets", "j", "sheet", "rows", "one", "row", "other", "far", "byte"]) (sc := defScope s_law) (by decide +kernel)) (fun _ _ _ _ _ => by exact (pg_name (i := 11) sc_law.nd rfl (by first | exact Or.inl rfl | exact Or.inr rfl))) (fun hd _ _ _ _ _ => by exact mts_nil) (fun hd _ _ _ _ _ => by exact (me_chain op_le op_le ad_le ad_le me_int (me_v 11) me_int))) me_nil)))))))
        (ms_one (ms_ret me_bl))
        ms_nil)
        (ms_one (ms_endW [9, 10] (ms_for (gok_t (gsok_cons gok_n (gsok_cons gok_n gsok_nil))) PassesOwn.leaving rfl (mi_zip T.n_zip (me_v 3) (me_v 6)) (mg_t (n := 2) rfl (mgs_cons (mg_n (i := 9) sc_law.nd rfl (by first | exact Or.inl rfl | exact Or.inr rfl)) (mgs_cons (mg_n (i := 10) sc_law.nd rfl (by first | exact Or.inl rfl | exact Or.inr rfl)) mgs_nil)))
        (ms_endWB [9, 10] (ms_one (ms_if (PW.pt (mw_or (mt_cmp (oa_ne C.K hr.units) ad_ne (me_cmp (oa_eq C.K hr.units) ad_eq (me_v 8) (me_v 10) (nomark _)) (me_cmp (oa_eq C.K hr.units) ad_eq (me_v 7) (me_v 9) (nomark _)) (nomark _)) (mw_or1 (PW.pt (mw_and (mt_cmp (oa_ne C.K hr.units) ad_ne (me_v 8) (me_v 10) (nomark _)) (mw_and1 (mt_cmp (oa_eq C.K hr.units) ad_eq (me_sl (me_v 10) me_nopart (me_part (me_call (oa_len C.K) ad_len T.n_len bb_len (me_cons (me_v 8) me_nil)))) (me_v 8) (nomark _))))))))
          (ms_one (ms_ret me_bl))
          ms_nil))))))))))))))))))
    (ms_one (ms_ret me_bl))), spM_body h⟩
end
def spLaw (K : PySem.W.Frag) (Tb : List (Addr × Str)) : Sp := fun vs H Q _ => ∃ (a : Addr) (ns : List Int), vs = [.ref a] ∧ SqL K H a (ns.map V.int) ∧ ns.length ≤ 63 ∧ (∀ p ∈ Tb, H p.1 = some (.tbl #[])) ∧ ∀ H', Q (.bl true) H'
theorem law_to {K : PySem.W.Frag} {cl ec : Nat → Addr} {Tb : List (Addr × Str)} {vs : List V} {H : Hp} {Q : VK} {E : XK} (pure : ∀ ns : List Int, ns.length ≤ 63 → ∃ own, F_law [.frz (ns.map D.int)] [] = .ok (.bl true) own) (h : spLaw K Tb vs H Q E) : spM (Cn.mk K cl ec Tb []) 1 F_law vs H Q E := by
  obtain ⟨a, ns, rfl, hS, hl, hP, q⟩ := h
  obtain ⟨own, e⟩ := pure ns hl
  refine ⟨[], [], [.frz (ns.map D.int)], rfl, ⟨List.nodup_nil, rfl, (fun i a o e => by simp at e), (fun p hp => TabS.nil (hP p hp)), (fun a ha => nomatch ha), (fun a ha => nomatch ha)⟩, .one (.frz ?_ (.ints ns)), ?_⟩
  · exact sql_sub (fun a o e _ => e) hS
  · rw [e]
    intro v ι' H' g r rp
    cases rp
    exact q H'
end Lw

set_option Elab.async false
set_option linter.all false
set_option maxRecDepth 100000
set_option maxHeartbeats 4000000
namespace Lw
open PySem Mi
local macro_rules | `(tactic| walk_at "ev") => `(tactic| simp only [Mi.bind_ok, Mi.bind_exc, Mi.bind_bad, Mi.bindS_ok, Mi.bindS_exc, Mi.seq_nx, Mi.seq_rt, Mi.seq_exc, Mi.seq_ct, Mi.endw_nx, Mi.endw_rt, Mi.endw_exc, Mi.endw_ct, Mi.endF_nx, Mi.endF_rt, Mi.endF_exc, Mi.wipe_nil, Mi.wipe_cons, Mi.sB_ev, Mi.mB_ev, Mi.sSeq_ev, Mi.sEndW_ev, Mi.sNil_ev, Mi.sExp_ev, Mi.sRet_ev, Mi.sRetN_ev, Mi.sIf_ev, Mi.sAsg_ev, Mi.gN_ev, Mi.gT_ev, Mi.gsCons_ev, Mi.gsNil_ev, Mi.sRaise_ev, Mi.sCont_ev, Mi.runF_ev, Mi.mV_ev, Mi.mC_ev, Mi.m1_ev, Mi.m2_ev, Mi.mNil_ev, Mi.mCons_ev, Mi.mL_ev, Mi.mT_ev, Mi.toB_bl, Mi.mNotT_ev, Mi.mAndT_ev, Mi.mOrT_ev, Mi.mIte_ev, Mi.mAnd_ev, Mi.mOr_ev, Mi.mNot_ev, Mi.mChain_ev, Mi.mCall_ev, Mi.callF_ev, Mi.mTold_ev, Mi.told_okR, Mi.told_excR, Mi.sFor_ev, Mi.mIt_ev, Mi.it_lst, Mi.it_tup, Mi.it_str, Mi.mRng1_ev, Mi.mRng2_ev, Mi.rng1_ev, Mi.rng2_ev, Mi.mPart_ev, Mi.mNoPart_ev, Mi.mSl_ev, Mi.sl_lst, Mi.sl_tup, Mi.sl_str, Mi.mLc_ev, Mi.mBm_ev, Mi.mJoin_ev, Mi.seq_lst, Mi.seq_frz, Mi.row_tup, Mi.row_lst,
  Mi.add_int, Mi.add_str, Mi.add_lst, Mi.add_tup, Mi.sub_int, Mi.mul_int, Mi.fdiv_int, Mi.mod_int, Mi.neg_int, Mi.pow_int, Mi.gSub_ev, Mi.at0, Mi.at1, Mi.at2, Mi.at3, Int.reduceToNat, Int.reducePow, Mi.lt_int, Mi.le_int, Mi.gt_int, Mi.ge_int, Mi.eq_int, Mi.ne_int, Mi.eq_str, Mi.ne_str, Mi.isN_ev, Mi.notN_ev, Mi.D.isN, Mi.len_str, Mi.len_lst, Mi.len_frz, Mi.len_tup, Mi.min_int, Mi.max_int, Mi.int_int, Mi.int_bl, Mi.tup_ev, Mi.lst_ev, Mi.lstO_ev, Mi.ix_lst, Mi.ix_tup, Mi.ix_frz, Mi.ix_str, Mi.tuple_tup, Mi.tuple_lst, Mi.list_ev, Mi.listO_ev, Mi.isi_non, Mi.isi2_non, Mi.isi_bl, Mi.isi2_bl, Mi.isi_int, Mi.isi2_int, Mi.isi_str, Mi.isi2_str, Mi.isi_tup, Mi.isi2_tup, Mi.isi_lst, Mi.isi2_lst, Mi.isi_frz, Mi.isi2_frz, Mi.isiB, Mi.cB_True, Mi.cB_False,
  List.map_cons, List.map_nil, List.cons_append, List.nil_append, List.getElem?_cons_zero, List.getElem?_cons_succ, List.getElem?_nil, List.set_cons_zero, List.set_cons_succ, List.set_nil, List.length_cons, List.length_nil, List.replicate_succ, List.replicate_zero, Nat.reduceAdd, Nat.reduceSub, Nat.reduceLT, Nat.reduceLeDiff, Nat.reduceEqDiff, reduceIte, Bool.not_true, Bool.not_false, Bool.false_eq_true, Bool.true_and, Bool.false_and, Bool.and_true, Bool.and_false, beq_self_eq_true, String.reduceBEq, Bool.or_false, Bool.or_true, Bool.false_or, Bool.true_or, Int.reduceLT, Int.reduceLE, Int.reduceNeg, Int.reduceEq, Option.isSome_some, Option.isSome_none, Nat.reduceMul, true_and, and_true, List.flatten_cons, List.flatten_nil, List.append_nil, and_self])
local macro_rules | `(tactic| walk_at "go") => `(tactic| simp (disch := (first | assumption | omega | (simp only [List.length_append, List.length_cons, List.length_nil, List.length_map, List.length_take, List.length_drop, List.length_set, List.length_singleton, List.length_dropLast, List.length_reverse, List.length_range]; omega) | exact Option.some_ne_none _ | decide)) only [Mi.bind_ok, Mi.bind_exc, Mi.bind_bad, Mi.bindS_ok, Mi.bindS_exc, Mi.seq_nx, Mi.seq_rt, Mi.seq_exc, Mi.seq_ct, Mi.endw_nx, Mi.endw_rt, Mi.endw_exc, Mi.endw_ct, Mi.endF_nx, Mi.endF_rt, Mi.endF_exc, Mi.wipe_nil, Mi.wipe_cons, Mi.sB_ev, Mi.mB_ev, Mi.sSeq_ev, Mi.sEndW_ev, Mi.sNil_ev, Mi.sExp_ev, Mi.sRet_ev, Mi.sRetN_ev, Mi.sIf_ev, Mi.sAsg_ev, Mi.gN_ev, Mi.gT_ev, Mi.gsCons_ev, Mi.gsNil_ev, Mi.sRaise_ev, Mi.sCont_ev, Mi.runF_ev, Mi.mV_ev, Mi.mC_ev, Mi.m1_ev, Mi.m2_ev, Mi.mNil_ev, Mi.mCons_ev, Mi.mL_ev, Mi.mT_ev, Mi.toB_bl, Mi.mNotT_ev, Mi.mAndT_ev, Mi.mOrT_ev, Mi.mIte_ev, Mi.mAnd_ev, Mi.mOr_ev, Mi.mNot_ev, Mi.mChain_ev, Mi.mCall_ev, Mi.callF_ev, Mi.mTold_ev, Mi.told_okR, Mi.told_excR, Mi.sFor_ev, Mi.mIt_ev, Mi.it_lst, Mi.it_tup, Mi.it_str, Mi.mRng1_ev, Mi.mRng2_ev, Mi.rng1_ev, Mi.rng2_ev, Mi.mPart_ev, Mi.mNoPart_ev, Mi.mSl_ev, Mi.sl_lst, Mi.sl_tup, Mi.sl_str, Mi.mLc_ev, Mi.mJoin_ev, Mi.seq_lst, Mi.seq_frz, Mi.row_tup, Mi.row_lst, Mi.add_int, Mi.add_str, Mi.add_lst, Mi.add_tup, Mi.sub_int, Mi.mul_int, Mi.fdiv_int, Mi.mod_int, Mi.neg_int, Mi.pow_int, Mi.gSub_ev, Mi.at0, Mi.at1, Mi.at2, Mi.at3, Int.reduceToNat, Int.reducePow, Mi.lt_int, Mi.le_int, Mi.gt_int, Mi.ge_int, Mi.eq_int, Mi.ne_int, Mi.eq_str, Mi.ne_str, Mi.isN_ev, Mi.notN_ev, Mi.D.isN, Mi.len_str, Mi.len_lst, Mi.len_frz, Mi.len_tup, Mi.min_int, Mi.max_int, Mi.int_int, Mi.int_bl, Mi.tup_ev, Mi.lst_ev, Mi.lstO_ev, Mi.ix_str, Mi.tuple_tup, Mi.tuple_lst, Mi.isi_non, Mi.isi2_non, Mi.isi_bl, Mi.isi2_bl, Mi.isi_int, Mi.isi2_int, Mi.isi_str, Mi.isi2_str, Mi.isi_tup, Mi.isi2_tup, Mi.isi_lst, Mi.isi2_lst, Mi.isi_frz, Mi.isi2_frz, Mi.isiB, Mi.cB_True, Mi.cB_False, List.map_cons, List.map_nil, List.cons_append, List.nil_append, List.getElem?_cons_zero, List.getElem?_cons_succ, List.getElem?_nil, List.set_cons_zero, List.set_cons_succ, List.set_nil, List.length_cons, List.length_nil, List.replicate_succ, List.replicate_zero, Nat.reduceAdd, Nat.reduceSub, Nat.reduceLT, Nat.reduceLeDiff, Nat.reduceEqDiff, reduceIte, Bool.not_true, Bool.not_false, Bool.false_eq_true, Bool.true_and, Bool.false_and, Bool.and_true, Bool.and_false, beq_self_eq_true, String.reduceBEq, Bool.or_false, Bool.or_true, Bool.false_or, Bool.true_or, Int.reduceLT, Int.reduceLE, Int.reduceNeg, Int.reduceEq, Option.isSome_some, Option.isSome_none, Nat.reduceMul, true_and, and_true, List.flatten_cons, List.flatten_nil, List.append_nil, and_self, Mi.lsO_l, Mi.lst_r, Mi.lst_l, Mi.seq_r, Mi.row_r, Mi.row_frz, Mi.len_r, Mi.lenO_l, Mi.lenO_d, Mi.app_r, Mi.appO_l, Mi.addL_ev, Mi.add_r1, Mi.add_r2, Mi.addO_r, Mi.addLO_ev, Mi.pk_some, Mi.ixP_lst, Mi.ixP_tup, Mi.ixP_frz, Mi.ix_r, Mi.ixL_ev, Mi.sl_r, Mi.slL_ev, Mi.it_r, Mi.itO_l, Mi.it_frz, Mi.tuple_r, Mi.tupL_ev, Mi.list_r, Mi.lstL_ev, Mi.listO_r, Mi.lstOL_ev, Mi.sum_r, Mi.all_r, Mi.any_r, Mi.sort_r, Mi.sumL_ev, Mi.allL_ev, Mi.anyL_ev, Mi.sortL_ev, Mi.fld_r, Mi.set_r, Mi.meth_r, Mi.nonK_ev, Mi.make_r, Mi.bm_ev, Mi.bmO_ev, Mi.mMeth_ev, Mi.sFld_ev, Mi.ite_t, Mi.ite_f, Mi.cB_t, Mi.cB_f, Mi.mulOk_l, Mi.mulOk_r, Mi.dct_r, Mi.dcO_d, Mi.dcO_l, Mi.dcW_d, Mi.sortD_r, Mi.sortDO_ev, Mi.mLK_ev, Mi.minD_r, Mi.minDO_ev, Mi.bm0_ev, Mi.bm0O_ev, Mi.pop_r, Mi.popO_ev, Mi.din_r, Mi.dinO_i, Mi.dinO_n, Mi.dgO_s, Mi.dget_r, Mi.dgetO_ev, Mi.key_i, Mi.key_s, Mi.put_r, Mi.putO_d, Mi.dpop_ev, Mi.dpO_ev, Mi.dpop_r, Mi.dnew_ev, Mi.lr2_ev, Mi.lr1_ev, Mi.lrF_ev, Mi.step_ev, Mi.stepO_ev, Mi.step_1, Mi.step_m, List.getElem?_set_self', List.getElem?_set_ne, List.getElem?_append_left, List.getElem?_append_right, List.set_append_left, List.set_append_right, List.length_set, List.length_append, List.append_assoc, Nat.add_sub_cancel_left, Nat.sub_self, Function.const_apply, Option.map_some, Option.map_eq_map, Option.bind_some, Nat.add_zero, Nat.zero_add, List.set_set])
local macro_rules | `(tactic| walk_at "gos") => `(tactic| simp (disch := (first | assumption | omega | (simp only [List.length_append, List.length_cons, List.length_nil, List.length_map, List.length_take, List.length_drop, List.length_set, List.length_singleton, List.length_dropLast, List.length_reverse, List.length_range]; omega) | exact Option.some_ne_none _ | decide)) only [Mi.bind_ok, Mi.bind_exc, Mi.bind_bad, Mi.bindS_ok, Mi.bindS_exc, Mi.seq_nx, Mi.seq_rt, Mi.seq_exc, Mi.seq_ct, Mi.endw_nx, Mi.endw_rt, Mi.endw_exc, Mi.endw_ct, Mi.endF_nx, Mi.endF_rt, Mi.endF_exc, Mi.wipe_nil, Mi.wipe_cons, Mi.sB_ev, Mi.mB_ev, Mi.sSeq_ev, Mi.sEndW_ev, Mi.sNil_ev, Mi.sExp_ev, Mi.sRet_ev, Mi.sRetN_ev, Mi.sIf_ev, Mi.sAsg_ev, Mi.gN_ev, Mi.gT_ev, Mi.gsCons_ev, Mi.gsNil_ev, Mi.sRaise_ev, Mi.sCont_ev, Mi.runF_ev, Mi.mV_ev, Mi.mC_ev, Mi.m1_ev, Mi.m2_ev, Mi.mNil_ev, Mi.mCons_ev, Mi.mL_ev, Mi.mT_ev, Mi.toB_bl, Mi.mNotT_ev, Mi.mAndT_ev, Mi.mOrT_ev, Mi.mIte_ev, Mi.mAnd_ev, Mi.mOr_ev, Mi.mNot_ev, Mi.mChain_ev, Mi.mCall_ev, Mi.callF_ev, Mi.mTold_ev, Mi.told_okR, Mi.told_excR, Mi.sFor_ev, Mi.mIt_ev, Mi.it_lst, Mi.it_tup, Mi.it_str, Mi.mRng1_ev, Mi.mRng2_ev, Mi.rng1_ev, Mi.rng2_ev, Mi.mPart_ev, Mi.mNoPart_ev, Mi.mSl_ev, Mi.sl_lst, Mi.sl_tup, Mi.sl_str, Mi.mLc_ev, Mi.mJoin_ev, Mi.seq_lst, Mi.seq_frz, Mi.row_tup, Mi.row_lst, Mi.add_int, Mi.add_str, Mi.add_lst, Mi.add_tup, Mi.sub_int, Mi.mul_int, Mi.fdiv_int, Mi.mod_int, Mi.neg_int, Mi.pow_int, Mi.gSub_ev, Mi.at0, Mi.at1, Mi.at2, Mi.at3, Int.reduceToNat, Int.reducePow, Mi.lt_int, Mi.le_int, Mi.gt_int, Mi.ge_int, Mi.eq_int, Mi.ne_int, Mi.eq_str, Mi.ne_str, Mi.isN_ev, Mi.notN_ev, Mi.D.isN, Mi.len_str, Mi.len_lst, Mi.len_frz, Mi.len_tup, Mi.min_int, Mi.max_int, Mi.int_int, Mi.int_bl, Mi.tup_ev, Mi.lst_ev, Mi.lstO_ev, Mi.ix_str, Mi.tuple_tup, Mi.tuple_lst, Mi.isi_non, Mi.isi2_non, Mi.isi_bl, Mi.isi2_bl, Mi.isi_int, Mi.isi2_int, Mi.isi_str, Mi.isi2_str, Mi.isi_tup, Mi.isi2_tup, Mi.isi_lst, Mi.isi2_lst, Mi.isi_frz, Mi.isi2_frz, Mi.isiB, Mi.cB_True, Mi.cB_False, List.map_cons, List.map_nil, List.cons_append, List.nil_append, List.getElem?_cons_zero, List.getElem?_cons_succ, List.getElem?_nil, List.set_cons_zero, List.set_cons_succ, List.set_nil, List.length_cons, List.length_nil, List.replicate_succ, List.replicate_zero, Nat.reduceAdd, Nat.reduceSub, Nat.reduceLT, Nat.reduceLeDiff, Nat.reduceEqDiff, reduceIte, Bool.not_true, Bool.not_false, Bool.false_eq_true, Bool.true_and, Bool.false_and, Bool.and_true, Bool.and_false, beq_self_eq_true, String.reduceBEq, Bool.or_false, Bool.or_true, Bool.false_or, Bool.true_or, Int.reduceLT, Int.reduceLE, Int.reduceNeg, Int.reduceEq, Option.isSome_some, Option.isSome_none, Nat.reduceMul, true_and, and_true, List.flatten_cons, List.flatten_nil, List.append_nil, and_self, Mi.lsO_l, Mi.lst_r, Mi.lst_l, Mi.seq_r, Mi.row_r, Mi.row_frz, Mi.len_r, Mi.lenO_l, Mi.lenO_d, Mi.app_r, Mi.appO_l, Mi.addL_ev, Mi.add_r1, Mi.add_r2, Mi.addO_r, Mi.addLO_ev, Mi.pk_some, Mi.ixP_lst, Mi.ixP_tup, Mi.ixP_frz, Mi.ix_r, Mi.ixL_ev, Mi.sl_r, Mi.slL_ev, Mi.it_r, Mi.itO_l, Mi.it_frz, Mi.tuple_r, Mi.tupL_ev, Mi.list_r, Mi.lstL_ev, Mi.listO_r, Mi.lstOL_ev, Mi.sum_r, Mi.all_r, Mi.any_r, Mi.sort_r, Mi.sumL_ev, Mi.allL_ev, Mi.anyL_ev, Mi.sortL_ev, Mi.fld_r, Mi.set_r, Mi.meth_r, Mi.nonK_ev, Mi.make_r, Mi.bm_ev, Mi.bmO_ev, Mi.mMeth_ev, Mi.sFld_ev, Mi.ite_t, Mi.ite_f, Mi.cB_t, Mi.cB_f, Mi.mulOk_l, Mi.mulOk_r, Mi.dct_r, Mi.dcO_d, Mi.dcO_l, Mi.dcW_d, Mi.sortD_r, Mi.sortDO_ev, Mi.mLK_ev, Mi.minD_r, Mi.minDO_ev, Mi.bm0_ev, Mi.bm0O_ev, Mi.pop_r, Mi.popO_ev, Mi.din_r, Mi.dinO_i, Mi.dinO_n, Mi.dgO_s, Mi.dget_r, Mi.dgetO_ev, Mi.key_i, Mi.key_s, Mi.put_r, Mi.putO_d, Mi.dpop_ev, Mi.dpO_ev, Mi.dpop_r, Mi.dnew_ev, Mi.lr2_ev, Mi.lr1_ev, Mi.lrF_ev, Mi.step_ev, Mi.stepO_ev, Mi.step_1, Mi.step_m, List.getElem?_set_self', List.getElem?_set_ne, List.getElem?_append_left, List.getElem?_append_right, List.set_append_left, List.set_append_right, List.length_set, List.length_append, List.append_assoc, Nat.add_sub_cancel_left, Nat.sub_self, Function.const_apply, Option.map_some, Option.map_eq_map, Option.bind_some, Nat.add_zero, Nat.zero_add, List.set_set, *])
theorem e_is_whole (d : D) (lo hi : Int) (own : Own) (h : tyD own d ≠ none) : F_is_whole [d, .int lo, .int hi] own = .ok (.bl (isWD d lo hi)) own := by
  unfold F_is_whole m_is_whole
  cases d with
  | int i =>
    walk_at "ev"
    by_cases h : lo ≤ i
    · rw [cB_t h]
      walk_at "ev"
      rw [isWD]
      congr 2
      by_cases h' : i ≤ hi
      · rw [cB_t h', cB_t ⟨h, h'⟩]
      · rw [cB_f h', cB_f (fun z => h' z.2)]
    · rw [cB_f h]
      walk_at "ev"
      rw [isWD, cB_f (fun z => h z.1)]
  | ref k =>
    simp only [tyD] at h
    walk_at "ev"
    simp only [isiF, tyD]
    split at h <;> first | exact absurd rfl h | (rename_i e; simp only [e]; walk_at "ev"; rfl)
  | _ => walk_at "ev"; rfl
theorem atI_nat {α : Type} (xs : List α) (n : Nat) : L2.atI xs (n : Int) = xs[n]? := by
  by_cases h : n < xs.length
  · rw [List.getElem?_eq_getElem h]
    exact Ws.atI_get (by omega) (by rw [Int.toNat_natCast, List.getElem?_eq_getElem h])
  · rw [List.getElem?_eq_none (by omega)]
    unfold L2.atI L2.ixN
    rw [if_pos (by omega), if_neg (by omega)]
    rfl
/-! ### what the texts' defs do -/
theorem all_ev {xs : List D} {own : Own} : allF [.lst xs] own = match blsD xs with | some bs => .ok (.bl (bs.all id)) own | none => .bad := rfl
theorem inS_ev {c : Nat} {z : Str} {own : Own} : inSF (.str ⟨#[c]⟩) (.str z) own = .ok (.bl (decide (c ∈ z.cps.toList))) own := rfl
theorem ord_ev {c : Nat} {own : Own} : ordF [.str ⟨#[c]⟩] own = .ok (.int c) own := rfl
theorem e_is_text (d : D) (m : Int) (own : Own) (h : tyD own d ≠ none) (hl : ∀ s, d = .str s → s.length ≤ 1000000) : F_is_text [d, .int m] own = .ok (.bl (isTx d m)) own := by
  unfold F_is_text m_is_text
  cases d with
  | str s =>
    have hs := hl s rfl
    walk_at "ev"
    rw [if_pos hs]
    walk_at "ev"
    by_cases h1 : (s.length : Int) ≤ m
    · rw [cB_t h1]
      walk_at "ev"
      rw [lcN (fun c => .str ⟨#[c]⟩) (fun c => .bl (decide (c ∈ sg))) s.cps.toList held_nil (fun c _ => by walk_at "ev"; rfl) (by rw [str_len]; exact hs)]
      walk_at "ev"
      rw [all_ev, show (s.cps.toList.map fun c => D.bl (decide (c ∈ sg))) = (s.cps.toList.map fun c => decide (c ∈ sg)).map D.bl by rw [List.map_map]; rfl, blsD_map]
      walk_at "ev"
      rw [isTx, cB_t h1, all_map_bl]
      rfl
    · rw [cB_f h1]
      walk_at "ev"
      rw [isTx, cB_f h1]
      rfl
  | ref k =>
    simp only [tyD] at h
    walk_at "ev"
    simp only [isiF, tyD]
    split at h <;> first | exact absurd rfl h | (rename_i e; simp only [e]; walk_at "ev"; rfl)
  | _ => walk_at "ev"; rfl
theorem e_codes_of (s : Str) (own : Own) (hs : s.length ≤ 1000000) : F_codes_of [.str s] own = .ok (.lst (s.cps.toList.map fun (c : Nat) => .int c)) own := by
  unfold F_codes_of m_codes_of
  walk_at "ev"
  rw [lcN (fun c => .str ⟨#[c]⟩) (fun (c : Nat) => .int c) s.cps.toList held_nil (fun c _ => by walk_at "ev"; rfl) (by rw [str_len]; exact hs)]
  walk_at "ev"
def kvS : List (L2.Key × D) := sg.map fun (c : Nat) => (Sum.inl (c : Int), .str ⟨#[c]⟩)
theorem pairs_S : ∀ l : List Nat, pairsD (l.map fun (c : Nat) => .tup [.int c, .str ⟨#[c]⟩]) = some (l.map fun (c : Nat) => (Sum.inl (c : Int), .str ⟨#[c]⟩))
  | [] => rfl
  | c :: l => by rw [List.map_cons, pairsD, pairs_S l]; rfl
theorem kvS_nodup : (kvS.map (·.1)).Nodup := by decide +kernel
theorem val_S (d : D) (own : Own) (h : d = .non ∨ ∃ i, d = .int i) : dinF d (.ref own.length) (own ++ [.dct kvS]) = .ok (.bl (codeOf d).isSome) (own ++ [.dct kvS]) := by
  have hd : dctD (own ++ [.dct kvS]) (.ref own.length) = some kvS := by simp [dctD]
  rcases h with rfl | ⟨i, rfl⟩
  · simp [dinF, hd, codeOf]
  · simp only [dinF, hd, keyD]
    congr 2
    unfold codeOf
    dsimp only
    by_cases h : 0 ≤ i ∧ i.toNat ∈ sg
    · rw [cB_t h, valD_nodup kvS_nodup (v := .str ⟨#[i.toNat]⟩)]
      · rfl
      · exact List.mem_map.mpr ⟨i.toNat, h.2, by rw [Int.toNat_of_nonneg h.1]⟩
    · rw [cB_f h, valD_none]
      · rfl
      · intro z
        unfold kvS at z
        rw [List.map_map] at z
        obtain ⟨c, h1, h2⟩ := List.mem_map.mp z
        have h2 : (c : Int) = i := Sum.inl.inj h2
        exact h ⟨by omega, by rw [← h2, Int.toNat_natCast]; exact h1⟩
theorem get_S {d : D} {c : Nat} (own : Own) (h : codeOf d = some c) : dgetF (.ref own.length) d (own ++ [.dct kvS]) = .ok (.str ⟨#[c]⟩) (own ++ [.dct kvS]) := by
  have hd : dctD (own ++ [.dct kvS]) (.ref own.length) = some kvS := by simp [dctD]
  obtain ⟨rfl, hc⟩ := codeOf_some h
  simp only [dgetF, hd, keyD]
  rw [valD_nodup kvS_nodup (v := .str ⟨#[c]⟩)]
  exact List.mem_map.mpr ⟨c, hc, rfl⟩
/-! ### sheets: how steps go -/
theorem enum_ev {ma : M D} {env : Mi.Env} {own : Own} : mEnum ma env own = (ma env own).bind fun d o => enumF d o := rfl
theorem enumF_l {xs : List D} {own : Own} : enumF (.lst xs) own = .ok (enumL xs, []) own := rfl
theorem zip_ev {ma mb : M D} {env : Mi.Env} {own : Own} : mZip ma mb env own = (ma env own).bind fun d o => (mb env o).bind fun e o => zipF d e o := rfl
theorem zipF_l {xs ys : List D} {own : Own} : zipF (.lst xs) (.lst ys) own = .ok (zipL xs ys, []) own := rfl
theorem tget_s {tab : List (Str × Int)} {z : Str} {v : Int} {own : Own} (h : valT tab z = some v) : tgetF tab (.str z) own = .ok (.int v) own := by unfold tgetF; dsimp only; rw [h]
theorem tin_s {tab : List (Str × Int)} {z : Str} {b : Bool} {own : Own} (h : (valT tab z).isSome = b) : tinF tab (.str z) own = .ok (.bl b) own := by unfold tinF; dsimp only; rw [h]
theorem tidx_s {ys : List Str} {z : Str} {j : Nat} {own : Own} (h : ys.findIdx? (fun y => decide (y = z)) = some j) : tidxF ys (.str z) own = .ok (.int (j : Nat)) own := by unfold tidxF; dsimp only; rw [h]
theorem eqf_s (u x : Str) : D.eqf (.str u) (.str x) = cB (x = u) := by
  rw [cB_eq]
  by_cases h : x = u
  · subst h; simp [D.eqf]
  · have h' : ¬ u = x := fun z => h z.symm
    simp [D.eqf, h, h']
theorem in_s2 {x a b : Str} {own : Own} : inF (.str x) (.tup [.str a, .str b]) own = .ok (.bl (cB (x = a) || cB (x = b))) own := by
  unfold inF
  show (if _ then _ else _) = _
  rw [if_pos ⟨rfl, rfl⟩]
  congr 2
  simp only [List.any_cons, List.any_nil, Bool.or_false, eqf_s]
theorem in_s5 {x a b c d e : Str} {own : Own} : inF (.str x) (.tup [.str a, .str b, .str c, .str d, .str e]) own = .ok (.bl (cB (x = a) || cB (x = b) || cB (x = c) || cB (x = d) || cB (x = e))) own := by
  unfold inF
  show (if _ then _ else _) = _
  rw [if_pos ⟨rfl, rfl⟩]
  congr 2
  simp only [List.any_cons, List.any_nil, Bool.or_false, eqf_s, Bool.or_assoc]
theorem nin_l {x : Str} {ys : List Str} {own : Own} : ninF (.str x) (.tup (ys.map D.str)) own = .ok (.bl (!decide (x ∈ ys))) own := by
  unfold ninF
  show (if _ then _ else _) = _
  rw [if_pos ⟨rfl, by rw [List.all_map]; exact List.all_eq_true.mpr fun _ _ => rfl⟩]
  congr 2
  congr 1
  rw [List.any_map]
  induction ys with
  | nil => simp
  | cons y r ih =>
    rw [List.any_cons, ih]
    show (D.eqf (.str y) (.str x) || _) = _
    rw [eqf_s, cB_eq]
    by_cases e : x = y <;> simp [e]
theorem e_refuse (b : Bool) (own : Own) : F_refuse [.bl b] own = if b = true then .ok .non own else .exc 4 own := by
  unfold F_refuse m_refuse
  walk_at "go"
  cases b <;> rfl
theorem e_is_strand (d : D) (own : Own) (h : tyD own d ≠ none) : F_is_strand [d] own = .ok (.bl (isWD d 1 16777215)) own := by
  unfold F_is_strand m_is_strand
  walk_at "go"
  rw [e_is_whole d 1 16777215 own h]
  walk_at "go"
theorem isWD_i {i lo hi : Int} : isWD (.int i) lo hi = cB (lo ≤ i ∧ i ≤ hi) := rfl
theorem cB_congr {p q : Prop} (h : p ↔ q) : cB p = cB q := by rw [propext h]
theorem allL_bl {α : Type} (l : List α) (p : α → Prop) (own : Own) : allF [.lst (l.map fun a => D.bl (cB (p a)))] own = .ok (.bl (cB (∀ a ∈ l, p a))) own := by
  have e : allF [.lst (l.map fun a => D.bl (cB (p a)))] own = .ok (.bl (l.all fun a => cB (p a))) own := by
    walk_at "go"
    rw [allL_mp]
  rw [e]
  congr 2
  by_cases h : ∀ a ∈ l, p a
  · rw [cB_t h, List.all_eq_true]; exact fun a ha => cB_t (h a ha)
  · rw [cB_f h, Bool.eq_false_iff]
    exact fun z => h fun a ha => cB_iff.mp (List.all_eq_true.mp z a ha)
theorem allL_blL {α : Type} (l : List α) (p : α → Prop) (own : Own) : allL (some (l.map fun a => D.bl (cB (p a)))) own = .ok (.bl (cB (∀ a ∈ l, p a))) own := allL_bl l p own
theorem e_is_block (b : List Int) (own : Own) (hb : b.length ≤ 100000) : F_is_block [.tup (b.map D.int)] own = .ok (.bl (cB (b.length ≤ 65535 ∧ ∀ x ∈ b, 0 ≤ x ∧ x ≤ 255))) own := by
  unfold F_is_block m_is_block
  walk_at "go"
  rw [List.length_map]
  by_cases h : (b.length : Int) ≤ 65535
  · rw [cB_t h]
    walk_at "go"
    rw [lcN D.int (fun i => D.bl (cB (0 ≤ i ∧ i ≤ 255))) b held_nil (fun i hi => by
      walk_at "go"
      rw [e_is_whole _ _ _ _ (by simp [tyD]), isWD_i]) (by omega)]
    walk_at "go"
    first | rw [allL_bl] | rw [show allL (some (b.map fun i => D.bl (cB (0 ≤ i ∧ i ≤ 255)))) own = allF [.lst (b.map fun i => D.bl (cB (0 ≤ i ∧ i ≤ 255)))] own from rfl, allL_bl] | skip
    walk_at "go"
    exact congrArg (fun x => R.ok (D.bl x) own) (cB_congr ⟨fun z => ⟨by omega, z⟩, fun z => z.2⟩)
  · rw [cB_f h]
    walk_at "go"
    first | rw [cB_f (by omega)] | skip
end Lw

set_option Elab.async false
set_option linter.all false
set_option maxRecDepth 100000
set_option maxHeartbeats 4000000
namespace Lw
open PySem Mi
local macro_rules | `(tactic| walk_at "ev") => `(tactic| simp only [Mi.bind_ok, Mi.bind_exc, Mi.bind_bad, Mi.bindS_ok, Mi.bindS_exc, Mi.seq_nx, Mi.seq_rt, Mi.seq_exc, Mi.seq_ct, Mi.endw_nx, Mi.endw_rt, Mi.endw_exc, Mi.endw_ct, Mi.endF_nx, Mi.endF_rt, Mi.endF_exc, Mi.wipe_nil, Mi.wipe_cons, Mi.sB_ev, Mi.mB_ev, Mi.sSeq_ev, Mi.sEndW_ev, Mi.sNil_ev, Mi.sExp_ev, Mi.sRet_ev, Mi.sRetN_ev, Mi.sIf_ev, Mi.sAsg_ev, Mi.gN_ev, Mi.gT_ev, Mi.gsCons_ev, Mi.gsNil_ev, Mi.sRaise_ev, Mi.sCont_ev, Mi.runF_ev, Mi.mV_ev, Mi.mC_ev, Mi.m1_ev, Mi.m2_ev, Mi.mNil_ev, Mi.mCons_ev, Mi.mL_ev, Mi.mT_ev, Mi.toB_bl, Mi.mNotT_ev, Mi.mAndT_ev, Mi.mOrT_ev, Mi.mIte_ev, Mi.mAnd_ev, Mi.mOr_ev, Mi.mNot_ev, Mi.mChain_ev, Mi.mCall_ev, Mi.callF_ev, Mi.mTold_ev, Mi.told_okR, Mi.told_excR, Mi.sFor_ev, Mi.mIt_ev, Mi.it_lst, Mi.it_tup, Mi.it_str, Mi.mRng1_ev, Mi.mRng2_ev, Mi.rng1_ev, Mi.rng2_ev, Mi.mPart_ev, Mi.mNoPart_ev, Mi.mSl_ev, Mi.sl_lst, Mi.sl_tup, Mi.sl_str, Mi.mLc_ev, Mi.mBm_ev, Mi.mJoin_ev, Mi.seq_lst, Mi.seq_frz, Mi.row_tup, Mi.row_lst,
  Mi.add_int, Mi.add_str, Mi.add_lst, Mi.add_tup, Mi.sub_int, Mi.mul_int, Mi.fdiv_int, Mi.mod_int, Mi.neg_int, Mi.pow_int, Mi.gSub_ev, Mi.at0, Mi.at1, Mi.at2, Mi.at3, Int.reduceToNat, Int.reducePow, Mi.lt_int, Mi.le_int, Mi.gt_int, Mi.ge_int, Mi.eq_int, Mi.ne_int, Mi.eq_str, Mi.ne_str, Mi.isN_ev, Mi.notN_ev, Mi.D.isN, Mi.len_str, Mi.len_lst, Mi.len_frz, Mi.len_tup, Mi.min_int, Mi.max_int, Mi.int_int, Mi.int_bl, Mi.tup_ev, Mi.lst_ev, Mi.lstO_ev, Mi.ix_lst, Mi.ix_tup, Mi.ix_frz, Mi.ix_str, Mi.tuple_tup, Mi.tuple_lst, Mi.list_ev, Mi.listO_ev, Mi.isi_non, Mi.isi2_non, Mi.isi_bl, Mi.isi2_bl, Mi.isi_int, Mi.isi2_int, Mi.isi_str, Mi.isi2_str, Mi.isi_tup, Mi.isi2_tup, Mi.isi_lst, Mi.isi2_lst, Mi.isi_frz, Mi.isi2_frz, Mi.isiB, Mi.cB_True, Mi.cB_False,
  List.map_cons, List.map_nil, List.cons_append, List.nil_append, List.getElem?_cons_zero, List.getElem?_cons_succ, List.getElem?_nil, List.set_cons_zero, List.set_cons_succ, List.set_nil, List.length_cons, List.length_nil, List.replicate_succ, List.replicate_zero, Nat.reduceAdd, Nat.reduceSub, Nat.reduceLT, Nat.reduceLeDiff, Nat.reduceEqDiff, reduceIte, Bool.not_true, Bool.not_false, Bool.false_eq_true, Bool.true_and, Bool.false_and, Bool.and_true, Bool.and_false, beq_self_eq_true, String.reduceBEq, Bool.or_false, Bool.or_true, Bool.false_or, Bool.true_or, Int.reduceLT, Int.reduceLE, Int.reduceNeg, Int.reduceEq, Option.isSome_some, Option.isSome_none, Nat.reduceMul, true_and, and_true, List.flatten_cons, List.flatten_nil, List.append_nil, and_self])
local macro_rules | `(tactic| walk_at "go") => `(tactic| simp (disch := (first | assumption | omega | (simp only [List.length_append, List.length_cons, List.length_nil, List.length_map, List.length_take, List.length_drop, List.length_set, List.length_singleton, List.length_dropLast, List.length_reverse, List.length_range]; omega) | exact Option.some_ne_none _ | decide)) only [Mi.bind_ok, Mi.bind_exc, Mi.bind_bad, Mi.bindS_ok, Mi.bindS_exc, Mi.seq_nx, Mi.seq_rt, Mi.seq_exc, Mi.seq_ct, Mi.endw_nx, Mi.endw_rt, Mi.endw_exc, Mi.endw_ct, Mi.endF_nx, Mi.endF_rt, Mi.endF_exc, Mi.wipe_nil, Mi.wipe_cons, Mi.sB_ev, Mi.mB_ev, Mi.sSeq_ev, Mi.sEndW_ev, Mi.sNil_ev, Mi.sExp_ev, Mi.sRet_ev, Mi.sRetN_ev, Mi.sIf_ev, Mi.sAsg_ev, Mi.gN_ev, Mi.gT_ev, Mi.gsCons_ev, Mi.gsNil_ev, Mi.sRaise_ev, Mi.sCont_ev, Mi.runF_ev, Mi.mV_ev, Mi.mC_ev, Mi.m1_ev, Mi.m2_ev, Mi.mNil_ev, Mi.mCons_ev, Mi.mL_ev, Mi.mT_ev, Mi.toB_bl, Mi.mNotT_ev, Mi.mAndT_ev, Mi.mOrT_ev, Mi.mIte_ev, Mi.mAnd_ev, Mi.mOr_ev, Mi.mNot_ev, Mi.mChain_ev, Mi.mCall_ev, Mi.callF_ev, Mi.mTold_ev, Mi.told_okR, Mi.told_excR, Mi.sFor_ev, Mi.mIt_ev, Mi.it_lst, Mi.it_tup, Mi.it_str, Mi.mRng1_ev, Mi.mRng2_ev, Mi.rng1_ev, Mi.rng2_ev, Mi.mPart_ev, Mi.mNoPart_ev, Mi.mSl_ev, Mi.sl_lst, Mi.sl_tup, Mi.sl_str, Mi.mLc_ev, Mi.mJoin_ev, Mi.seq_lst, Mi.seq_frz, Mi.row_tup, Mi.row_lst, Mi.add_int, Mi.add_str, Mi.add_lst, Mi.add_tup, Mi.sub_int, Mi.mul_int, Mi.fdiv_int, Mi.mod_int, Mi.neg_int, Mi.pow_int, Mi.gSub_ev, Mi.at0, Mi.at1, Mi.at2, Mi.at3, Int.reduceToNat, Int.reducePow, Mi.lt_int, Mi.le_int, Mi.gt_int, Mi.ge_int, Mi.eq_int, Mi.ne_int, Mi.eq_str, Mi.ne_str, Mi.isN_ev, Mi.notN_ev, Mi.D.isN, Mi.len_str, Mi.len_lst, Mi.len_frz, Mi.len_tup, Mi.min_int, Mi.max_int, Mi.int_int, Mi.int_bl, Mi.tup_ev, Mi.lst_ev, Mi.lstO_ev, Mi.ix_str, Mi.tuple_tup, Mi.tuple_lst, Mi.isi_non, Mi.isi2_non, Mi.isi_bl, Mi.isi2_bl, Mi.isi_int, Mi.isi2_int, Mi.isi_str, Mi.isi2_str, Mi.isi_tup, Mi.isi2_tup, Mi.isi_lst, Mi.isi2_lst, Mi.isi_frz, Mi.isi2_frz, Mi.isiB, Mi.cB_True, Mi.cB_False, List.map_cons, List.map_nil, List.cons_append, List.nil_append, List.getElem?_cons_zero, List.getElem?_cons_succ, List.getElem?_nil, List.set_cons_zero, List.set_cons_succ, List.set_nil, List.length_cons, List.length_nil, List.replicate_succ, List.replicate_zero, Nat.reduceAdd, Nat.reduceSub, Nat.reduceLT, Nat.reduceLeDiff, Nat.reduceEqDiff, reduceIte, Bool.not_true, Bool.not_false, Bool.false_eq_true, Bool.true_and, Bool.false_and, Bool.and_true, Bool.and_false, beq_self_eq_true, String.reduceBEq, Bool.or_false, Bool.or_true, Bool.false_or, Bool.true_or, Int.reduceLT, Int.reduceLE, Int.reduceNeg, Int.reduceEq, Option.isSome_some, Option.isSome_none, Nat.reduceMul, true_and, and_true, List.flatten_cons, List.flatten_nil, List.append_nil, and_self, Mi.lsO_l, Mi.lst_r, Mi.lst_l, Mi.seq_r, Mi.row_r, Mi.row_frz, Mi.len_r, Mi.lenO_l, Mi.lenO_d, Mi.app_r, Mi.appO_l, Mi.addL_ev, Mi.add_r1, Mi.add_r2, Mi.addO_r, Mi.addLO_ev, Mi.pk_some, Mi.ixP_lst, Mi.ixP_tup, Mi.ixP_frz, Mi.ix_r, Mi.ixL_ev, Mi.sl_r, Mi.slL_ev, Mi.it_r, Mi.itO_l, Mi.it_frz, Mi.tuple_r, Mi.tupL_ev, Mi.list_r, Mi.lstL_ev, Mi.listO_r, Mi.lstOL_ev, Mi.sum_r, Mi.all_r, Mi.any_r, Mi.sort_r, Mi.sumL_ev, Mi.allL_ev, Mi.anyL_ev, Mi.sortL_ev, Mi.fld_r, Mi.set_r, Mi.meth_r, Mi.nonK_ev, Mi.make_r, Mi.bm_ev, Mi.bmO_ev, Mi.mMeth_ev, Mi.sFld_ev, Mi.ite_t, Mi.ite_f, Mi.cB_t, Mi.cB_f, Mi.mulOk_l, Mi.mulOk_r, Mi.dct_r, Mi.dcO_d, Mi.dcO_l, Mi.dcW_d, Mi.sortD_r, Mi.sortDO_ev, Mi.mLK_ev, Mi.minD_r, Mi.minDO_ev, Mi.bm0_ev, Mi.bm0O_ev, Mi.pop_r, Mi.popO_ev, Mi.din_r, Mi.dinO_i, Mi.dinO_n, Mi.dgO_s, Mi.dget_r, Mi.dgetO_ev, Mi.key_i, Mi.key_s, Mi.put_r, Mi.putO_d, Mi.dpop_ev, Mi.dpO_ev, Mi.dpop_r, Mi.dnew_ev, Mi.lr2_ev, Mi.lr1_ev, Mi.lrF_ev, Mi.step_ev, Mi.stepO_ev, Mi.step_1, Mi.step_m, List.getElem?_set_self', List.getElem?_set_ne, List.getElem?_append_left, List.getElem?_append_right, List.set_append_left, List.set_append_right, List.length_set, List.length_append, List.append_assoc, Nat.add_sub_cancel_left, Nat.sub_self, Function.const_apply, Option.map_some, Option.map_eq_map, Option.bind_some, Nat.add_zero, Nat.zero_add, List.set_set])
local macro_rules | `(tactic| walk_at "gos") => `(tactic| simp (disch := (first | assumption | omega | (simp only [List.length_append, List.length_cons, List.length_nil, List.length_map, List.length_take, List.length_drop, List.length_set, List.length_singleton, List.length_dropLast, List.length_reverse, List.length_range]; omega) | exact Option.some_ne_none _ | decide)) only [Mi.bind_ok, Mi.bind_exc, Mi.bind_bad, Mi.bindS_ok, Mi.bindS_exc, Mi.seq_nx, Mi.seq_rt, Mi.seq_exc, Mi.seq_ct, Mi.endw_nx, Mi.endw_rt, Mi.endw_exc, Mi.endw_ct, Mi.endF_nx, Mi.endF_rt, Mi.endF_exc, Mi.wipe_nil, Mi.wipe_cons, Mi.sB_ev, Mi.mB_ev, Mi.sSeq_ev, Mi.sEndW_ev, Mi.sNil_ev, Mi.sExp_ev, Mi.sRet_ev, Mi.sRetN_ev, Mi.sIf_ev, Mi.sAsg_ev, Mi.gN_ev, Mi.gT_ev, Mi.gsCons_ev, Mi.gsNil_ev, Mi.sRaise_ev, Mi.sCont_ev, Mi.runF_ev, Mi.mV_ev, Mi.mC_ev, Mi.m1_ev, Mi.m2_ev, Mi.mNil_ev, Mi.mCons_ev, Mi.mL_ev, Mi.mT_ev, Mi.toB_bl, Mi.mNotT_ev, Mi.mAndT_ev, Mi.mOrT_ev, Mi.mIte_ev, Mi.mAnd_ev, Mi.mOr_ev, Mi.mNot_ev, Mi.mChain_ev, Mi.mCall_ev, Mi.callF_ev, Mi.mTold_ev, Mi.told_okR, Mi.told_excR, Mi.sFor_ev, Mi.mIt_ev, Mi.it_lst, Mi.it_tup, Mi.it_str, Mi.mRng1_ev, Mi.mRng2_ev, Mi.rng1_ev, Mi.rng2_ev, Mi.mPart_ev, Mi.mNoPart_ev, Mi.mSl_ev, Mi.sl_lst, Mi.sl_tup, Mi.sl_str, Mi.mLc_ev, Mi.mJoin_ev, Mi.seq_lst, Mi.seq_frz, Mi.row_tup, Mi.row_lst, Mi.add_int, Mi.add_str, Mi.add_lst, Mi.add_tup, Mi.sub_int, Mi.mul_int, Mi.fdiv_int, Mi.mod_int, Mi.neg_int, Mi.pow_int, Mi.gSub_ev, Mi.at0, Mi.at1, Mi.at2, Mi.at3, Int.reduceToNat, Int.reducePow, Mi.lt_int, Mi.le_int, Mi.gt_int, Mi.ge_int, Mi.eq_int, Mi.ne_int, Mi.eq_str, Mi.ne_str, Mi.isN_ev, Mi.notN_ev, Mi.D.isN, Mi.len_str, Mi.len_lst, Mi.len_frz, Mi.len_tup, Mi.min_int, Mi.max_int, Mi.int_int, Mi.int_bl, Mi.tup_ev, Mi.lst_ev, Mi.lstO_ev, Mi.ix_str, Mi.tuple_tup, Mi.tuple_lst, Mi.isi_non, Mi.isi2_non, Mi.isi_bl, Mi.isi2_bl, Mi.isi_int, Mi.isi2_int, Mi.isi_str, Mi.isi2_str, Mi.isi_tup, Mi.isi2_tup, Mi.isi_lst, Mi.isi2_lst, Mi.isi_frz, Mi.isi2_frz, Mi.isiB, Mi.cB_True, Mi.cB_False, List.map_cons, List.map_nil, List.cons_append, List.nil_append, List.getElem?_cons_zero, List.getElem?_cons_succ, List.getElem?_nil, List.set_cons_zero, List.set_cons_succ, List.set_nil, List.length_cons, List.length_nil, List.replicate_succ, List.replicate_zero, Nat.reduceAdd, Nat.reduceSub, Nat.reduceLT, Nat.reduceLeDiff, Nat.reduceEqDiff, reduceIte, Bool.not_true, Bool.not_false, Bool.false_eq_true, Bool.true_and, Bool.false_and, Bool.and_true, Bool.and_false, beq_self_eq_true, String.reduceBEq, Bool.or_false, Bool.or_true, Bool.false_or, Bool.true_or, Int.reduceLT, Int.reduceLE, Int.reduceNeg, Int.reduceEq, Option.isSome_some, Option.isSome_none, Nat.reduceMul, true_and, and_true, List.flatten_cons, List.flatten_nil, List.append_nil, and_self, Mi.lsO_l, Mi.lst_r, Mi.lst_l, Mi.seq_r, Mi.row_r, Mi.row_frz, Mi.len_r, Mi.lenO_l, Mi.lenO_d, Mi.app_r, Mi.appO_l, Mi.addL_ev, Mi.add_r1, Mi.add_r2, Mi.addO_r, Mi.addLO_ev, Mi.pk_some, Mi.ixP_lst, Mi.ixP_tup, Mi.ixP_frz, Mi.ix_r, Mi.ixL_ev, Mi.sl_r, Mi.slL_ev, Mi.it_r, Mi.itO_l, Mi.it_frz, Mi.tuple_r, Mi.tupL_ev, Mi.list_r, Mi.lstL_ev, Mi.listO_r, Mi.lstOL_ev, Mi.sum_r, Mi.all_r, Mi.any_r, Mi.sort_r, Mi.sumL_ev, Mi.allL_ev, Mi.anyL_ev, Mi.sortL_ev, Mi.fld_r, Mi.set_r, Mi.meth_r, Mi.nonK_ev, Mi.make_r, Mi.bm_ev, Mi.bmO_ev, Mi.mMeth_ev, Mi.sFld_ev, Mi.ite_t, Mi.ite_f, Mi.cB_t, Mi.cB_f, Mi.mulOk_l, Mi.mulOk_r, Mi.dct_r, Mi.dcO_d, Mi.dcO_l, Mi.dcW_d, Mi.sortD_r, Mi.sortDO_ev, Mi.mLK_ev, Mi.minD_r, Mi.minDO_ev, Mi.bm0_ev, Mi.bm0O_ev, Mi.pop_r, Mi.popO_ev, Mi.din_r, Mi.dinO_i, Mi.dinO_n, Mi.dgO_s, Mi.dget_r, Mi.dgetO_ev, Mi.key_i, Mi.key_s, Mi.put_r, Mi.putO_d, Mi.dpop_ev, Mi.dpO_ev, Mi.dpop_r, Mi.dnew_ev, Mi.lr2_ev, Mi.lr1_ev, Mi.lrF_ev, Mi.step_ev, Mi.stepO_ev, Mi.step_1, Mi.step_m, List.getElem?_set_self', List.getElem?_set_ne, List.getElem?_append_left, List.getElem?_append_right, List.set_append_left, List.set_append_right, List.length_set, List.length_append, List.append_assoc, Nat.add_sub_cancel_left, Nat.sub_self, Function.const_apply, Option.map_some, Option.map_eq_map, Option.bind_some, Nat.add_zero, Nat.zero_add, List.set_set, *])
local macro_rules | `(tactic| walk_at "go") => `(tactic| simp (disch := (first | assumption | omega | (simp only [List.length_append, List.length_cons, List.length_nil, List.length_map, List.length_take, List.length_drop, List.length_set, List.length_singleton, List.length_dropLast, List.length_reverse, List.length_range]; omega) | exact Option.some_ne_none _ | decide)) only [Mi.bind_ok, Mi.bind_exc, Mi.bind_bad, Mi.bindS_ok, Mi.bindS_exc, Mi.seq_nx, Mi.seq_rt, Mi.seq_exc, Mi.seq_ct, Mi.endw_nx, Mi.endw_rt, Mi.endw_exc, Mi.endw_ct, Mi.endF_nx, Mi.endF_rt, Mi.endF_exc, Mi.wipe_nil, Mi.wipe_cons, Mi.sB_ev, Mi.mB_ev, Mi.sSeq_ev, Mi.sEndW_ev, Mi.sNil_ev, Mi.sExp_ev, Mi.sRet_ev, Mi.sRetN_ev, Mi.sIf_ev, Mi.sAsg_ev, Mi.gN_ev, Mi.gT_ev, Mi.gsCons_ev, Mi.gsNil_ev, Mi.sRaise_ev, Mi.sCont_ev, Mi.runF_ev, Mi.mV_ev, Mi.mC_ev, Mi.m1_ev, Mi.m2_ev, Mi.mNil_ev, Mi.mCons_ev, Mi.mL_ev, Mi.mT_ev, Mi.toB_bl, Mi.mNotT_ev, Mi.mAndT_ev, Mi.mOrT_ev, Mi.mIte_ev, Mi.mAnd_ev, Mi.mOr_ev, Mi.mNot_ev, Mi.mChain_ev, Mi.mCall_ev, Mi.callF_ev, Mi.mTold_ev, Mi.told_okR, Mi.told_excR, Mi.sFor_ev, Mi.mIt_ev, Mi.it_lst, Mi.it_tup, Mi.it_str, Mi.mRng1_ev, Mi.mRng2_ev, Mi.rng1_ev, Mi.rng2_ev, Mi.mPart_ev, Mi.mNoPart_ev, Mi.mSl_ev, Mi.sl_lst, Mi.sl_tup, Mi.sl_str, Mi.mLc_ev, Mi.mJoin_ev, Mi.seq_lst, Mi.seq_frz, Mi.row_tup, Mi.row_lst, Mi.add_int, Mi.add_str, Mi.add_lst, Mi.add_tup, Mi.sub_int, Mi.mul_int, Mi.fdiv_int, Mi.mod_int, Mi.neg_int, Mi.pow_int, Mi.gSub_ev, Mi.at0, Mi.at1, Mi.at2, Mi.at3, Int.reduceToNat, Int.reducePow, Mi.lt_int, Mi.le_int, Mi.gt_int, Mi.ge_int, Mi.eq_int, Mi.ne_int, Mi.eq_str, Mi.ne_str, Mi.isN_ev, Mi.notN_ev, Mi.D.isN, Mi.len_str, Mi.len_lst, Mi.len_frz, Mi.len_tup, Mi.min_int, Mi.max_int, Mi.int_int, Mi.int_bl, Mi.tup_ev, Mi.lst_ev, Mi.lstO_ev, Mi.ix_str, Mi.tuple_tup, Mi.tuple_lst, Mi.isi_non, Mi.isi2_non, Mi.isi_bl, Mi.isi2_bl, Mi.isi_int, Mi.isi2_int, Mi.isi_str, Mi.isi2_str, Mi.isi_tup, Mi.isi2_tup, Mi.isi_lst, Mi.isi2_lst, Mi.isi_frz, Mi.isi2_frz, Mi.isiB, Mi.cB_True, Mi.cB_False, List.map_cons, List.map_nil, List.cons_append, List.nil_append, List.getElem?_cons_zero, List.getElem?_cons_succ, List.getElem?_nil, List.set_cons_zero, List.set_cons_succ, List.set_nil, List.length_cons, List.length_nil, List.replicate_succ, List.replicate_zero, Nat.reduceAdd, Nat.reduceSub, Nat.reduceLT, Nat.reduceLeDiff, Nat.reduceEqDiff, reduceIte, Bool.not_true, Bool.not_false, Bool.false_eq_true, Bool.true_and, Bool.false_and, Bool.and_true, Bool.and_false, beq_self_eq_true, String.reduceBEq, Bool.or_false, Bool.or_true, Bool.false_or, Bool.true_or, Int.reduceLT, Int.reduceLE, Int.reduceNeg, Int.reduceEq, Option.isSome_some, Option.isSome_none, Nat.reduceMul, true_and, and_true, List.flatten_cons, List.flatten_nil, List.append_nil, and_self, Mi.lsO_l, Mi.lst_r, Mi.lst_l, Mi.seq_r, Mi.row_r, Mi.row_frz, Mi.len_r, Mi.lenO_l, Mi.lenO_d, Mi.app_r, Mi.appO_l, Mi.addL_ev, Mi.add_r1, Mi.add_r2, Mi.addO_r, Mi.addLO_ev, Mi.pk_some, Mi.ixP_lst, Mi.ixP_tup, Mi.ixP_frz, Mi.ix_r, Mi.ixL_ev, Mi.sl_r, Mi.slL_ev, Mi.it_r, Mi.itO_l, Mi.it_frz, Mi.tuple_r, Mi.tupL_ev, Mi.list_r, Mi.lstL_ev, Mi.listO_r, Mi.lstOL_ev, Mi.sum_r, Mi.all_r, Mi.any_r, Mi.sort_r, Mi.sumL_ev, Mi.allL_ev, Mi.anyL_ev, Mi.sortL_ev, Mi.fld_r, Mi.set_r, Mi.meth_r, Mi.nonK_ev, Mi.make_r, Mi.bm_ev, Mi.bmO_ev, Mi.mMeth_ev, Mi.sFld_ev, Mi.ite_t, Mi.ite_f, Mi.cB_t, Mi.cB_f, Mi.mulOk_l, Mi.mulOk_r, Mi.dct_r, Mi.dcO_d, Mi.dcO_l, Mi.dcW_d, Mi.sortD_r, Mi.sortDO_ev, Mi.mLK_ev, Mi.minD_r, Mi.minDO_ev, Mi.bm0_ev, Mi.bm0O_ev, Mi.pop_r, Mi.popO_ev, Mi.din_r, Mi.dinO_i, Mi.dinO_n, Mi.dgO_s, Mi.dget_r, Mi.dgetO_ev, Mi.key_i, Mi.key_s, Mi.put_r, Mi.putO_d, Mi.dpop_ev, Mi.dpO_ev, Mi.dpop_r, Mi.dnew_ev, Mi.lr2_ev, Mi.lr1_ev, Mi.lrF_ev, Mi.step_ev, Mi.stepO_ev, Mi.step_1, Mi.step_m, List.getElem?_set_self', List.getElem?_set_ne, List.getElem?_append_left, List.getElem?_append_right, List.set_append_left, List.set_append_right, List.length_set, List.length_append, List.append_assoc, Nat.add_sub_cancel_left, Nat.sub_self, Function.const_apply, Option.map_some, Option.map_eq_map, Option.bind_some, Nat.add_zero, Nat.zero_add, List.set_set, enum_ev, enumF_l, zip_ev, zipF_l, in_s2, in_s5, Bool.or_true, Bool.true_or, Bool.or_false, Bool.false_or])
local macro_rules | `(tactic| walk_at "gos") => `(tactic| simp (disch := (first | assumption | omega | (simp only [List.length_append, List.length_cons, List.length_nil, List.length_map, List.length_take, List.length_drop, List.length_set, List.length_singleton, List.length_dropLast, List.length_reverse, List.length_range]; omega) | exact Option.some_ne_none _ | decide)) only [Mi.bind_ok, Mi.bind_exc, Mi.bind_bad, Mi.bindS_ok, Mi.bindS_exc, Mi.seq_nx, Mi.seq_rt, Mi.seq_exc, Mi.seq_ct, Mi.endw_nx, Mi.endw_rt, Mi.endw_exc, Mi.endw_ct, Mi.endF_nx, Mi.endF_rt, Mi.endF_exc, Mi.wipe_nil, Mi.wipe_cons, Mi.sB_ev, Mi.mB_ev, Mi.sSeq_ev, Mi.sEndW_ev, Mi.sNil_ev, Mi.sExp_ev, Mi.sRet_ev, Mi.sRetN_ev, Mi.sIf_ev, Mi.sAsg_ev, Mi.gN_ev, Mi.gT_ev, Mi.gsCons_ev, Mi.gsNil_ev, Mi.sRaise_ev, Mi.sCont_ev, Mi.runF_ev, Mi.mV_ev, Mi.mC_ev, Mi.m1_ev, Mi.m2_ev, Mi.mNil_ev, Mi.mCons_ev, Mi.mL_ev, Mi.mT_ev, Mi.toB_bl, Mi.mNotT_ev, Mi.mAndT_ev, Mi.mOrT_ev, Mi.mIte_ev, Mi.mAnd_ev, Mi.mOr_ev, Mi.mNot_ev, Mi.mChain_ev, Mi.mCall_ev, Mi.callF_ev, Mi.mTold_ev, Mi.told_okR, Mi.told_excR, Mi.sFor_ev, Mi.mIt_ev, Mi.it_lst, Mi.it_tup, Mi.it_str, Mi.mRng1_ev, Mi.mRng2_ev, Mi.rng1_ev, Mi.rng2_ev, Mi.mPart_ev, Mi.mNoPart_ev, Mi.mSl_ev, Mi.sl_lst, Mi.sl_tup, Mi.sl_str, Mi.mLc_ev, Mi.mJoin_ev, Mi.seq_lst, Mi.seq_frz, Mi.row_tup, Mi.row_lst, Mi.add_int, Mi.add_str, Mi.add_lst, Mi.add_tup, Mi.sub_int, Mi.mul_int, Mi.fdiv_int, Mi.mod_int, Mi.neg_int, Mi.pow_int, Mi.gSub_ev, Mi.at0, Mi.at1, Mi.at2, Mi.at3, Int.reduceToNat, Int.reducePow, Mi.lt_int, Mi.le_int, Mi.gt_int, Mi.ge_int, Mi.eq_int, Mi.ne_int, Mi.eq_str, Mi.ne_str, Mi.isN_ev, Mi.notN_ev, Mi.D.isN, Mi.len_str, Mi.len_lst, Mi.len_frz, Mi.len_tup, Mi.min_int, Mi.max_int, Mi.int_int, Mi.int_bl, Mi.tup_ev, Mi.lst_ev, Mi.lstO_ev, Mi.ix_str, Mi.tuple_tup, Mi.tuple_lst, Mi.isi_non, Mi.isi2_non, Mi.isi_bl, Mi.isi2_bl, Mi.isi_int, Mi.isi2_int, Mi.isi_str, Mi.isi2_str, Mi.isi_tup, Mi.isi2_tup, Mi.isi_lst, Mi.isi2_lst, Mi.isi_frz, Mi.isi2_frz, Mi.isiB, Mi.cB_True, Mi.cB_False, List.map_cons, List.map_nil, List.cons_append, List.nil_append, List.getElem?_cons_zero, List.getElem?_cons_succ, List.getElem?_nil, List.set_cons_zero, List.set_cons_succ, List.set_nil, List.length_cons, List.length_nil, List.replicate_succ, List.replicate_zero, Nat.reduceAdd, Nat.reduceSub, Nat.reduceLT, Nat.reduceLeDiff, Nat.reduceEqDiff, reduceIte, Bool.not_true, Bool.not_false, Bool.false_eq_true, Bool.true_and, Bool.false_and, Bool.and_true, Bool.and_false, beq_self_eq_true, String.reduceBEq, Bool.or_false, Bool.or_true, Bool.false_or, Bool.true_or, Int.reduceLT, Int.reduceLE, Int.reduceNeg, Int.reduceEq, Option.isSome_some, Option.isSome_none, Nat.reduceMul, true_and, and_true, List.flatten_cons, List.flatten_nil, List.append_nil, and_self, Mi.lsO_l, Mi.lst_r, Mi.lst_l, Mi.seq_r, Mi.row_r, Mi.row_frz, Mi.len_r, Mi.lenO_l, Mi.lenO_d, Mi.app_r, Mi.appO_l, Mi.addL_ev, Mi.add_r1, Mi.add_r2, Mi.addO_r, Mi.addLO_ev, Mi.pk_some, Mi.ixP_lst, Mi.ixP_tup, Mi.ixP_frz, Mi.ix_r, Mi.ixL_ev, Mi.sl_r, Mi.slL_ev, Mi.it_r, Mi.itO_l, Mi.it_frz, Mi.tuple_r, Mi.tupL_ev, Mi.list_r, Mi.lstL_ev, Mi.listO_r, Mi.lstOL_ev, Mi.sum_r, Mi.all_r, Mi.any_r, Mi.sort_r, Mi.sumL_ev, Mi.allL_ev, Mi.anyL_ev, Mi.sortL_ev, Mi.fld_r, Mi.set_r, Mi.meth_r, Mi.nonK_ev, Mi.make_r, Mi.bm_ev, Mi.bmO_ev, Mi.mMeth_ev, Mi.sFld_ev, Mi.ite_t, Mi.ite_f, Mi.cB_t, Mi.cB_f, Mi.mulOk_l, Mi.mulOk_r, Mi.dct_r, Mi.dcO_d, Mi.dcO_l, Mi.dcW_d, Mi.sortD_r, Mi.sortDO_ev, Mi.mLK_ev, Mi.minD_r, Mi.minDO_ev, Mi.bm0_ev, Mi.bm0O_ev, Mi.pop_r, Mi.popO_ev, Mi.din_r, Mi.dinO_i, Mi.dinO_n, Mi.dgO_s, Mi.dget_r, Mi.dgetO_ev, Mi.key_i, Mi.key_s, Mi.put_r, Mi.putO_d, Mi.dpop_ev, Mi.dpO_ev, Mi.dpop_r, Mi.dnew_ev, Mi.lr2_ev, Mi.lr1_ev, Mi.lrF_ev, Mi.step_ev, Mi.stepO_ev, Mi.step_1, Mi.step_m, List.getElem?_set_self', List.getElem?_set_ne, List.getElem?_append_left, List.getElem?_append_right, List.set_append_left, List.set_append_right, List.length_set, List.length_append, List.append_assoc, Nat.add_sub_cancel_left, Nat.sub_self, Function.const_apply, Option.map_some, Option.map_eq_map, Option.bind_some, Nat.add_zero, Nat.zero_add, List.set_set, enum_ev, enumF_l, zip_ev, zipF_l, in_s2, in_s5, Bool.or_true, Bool.true_or, Bool.or_false, Bool.false_or, *])
/-! ### terms -/
theorem tn_mem {i : Nat} (h : i < 4) : tn i ∈ l_TERMS ∧ l_TERMS.findIdx? (fun y => decide (y = tn i)) = some i ∧ valT tab_LEASTS (tn i) = some (tlo i) ∧ valT tab_MOSTS (tn i) = some (thi i) := by
  match i, h with
  | 0, _ => decide
  | 1, _ => decide
  | 2, _ => decide
  | 3, _ => decide
def tOk (p : Nat × Int) : Prop := tlo p.1 ≤ p.2 ∧ p.2 ≤ thi p.1
theorem e_terms_b (p : Nat × Int) (hp : p.1 < 4) (z0 z2 z3 z4 : Option D) (own : Own) : b_are_terms_1 [z0, some (tD4 p), z2, z3, z4] own = if cB (tOk p) = true then .nx [z0, some (tD4 p), z2, z3, z4] own else .rt (.bl false) own := by
  obtain ⟨t1, t2, t3, t4⟩ := tn_mem hp
  unfold b_are_terms_1 tD4
  walk_at "go"
  rw [nin_l, decide_eq_true t1]
  walk_at "go"
  rw [tget_s t3]
  walk_at "go"
  rw [tget_s t4]
  walk_at "go"
  rw [e_is_whole _ _ _ _ (by simp [tyD]), isWD_i, show cB (tlo p.1 ≤ p.2 ∧ p.2 ≤ thi p.1) = cB (tOk p) from rfl]
  by_cases h : tOk p
  · rw [cB_t h]
    walk_at "go"
  · rw [cB_f h]
    walk_at "go"
theorem e_terms_l (z0 z2 z3 z4 : Option D) (own : Own) : ∀ (ps : List (Nat × Int)) (z1 : Option D), (∀ p ∈ ps, p.1 < 4) → (∃ z', sLoop (gN 1) b_are_terms_1 [] (ps.map tD4) [z0, z1, z2, z3, z4] own = .nx [z0, z', z2, z3, z4] own ∧ ∀ p ∈ ps, tOk p) ∨ (sLoop (gN 1) b_are_terms_1 [] (ps.map tD4) [z0, z1, z2, z3, z4] own = .rt (.bl false) own ∧ ¬ ∀ p ∈ ps, tOk p)
  | [], z1, _ => .inl ⟨z1, by rw [List.map_nil, loop_nil held_nil], fun p hp => nomatch hp⟩
  | p :: ps, z1, h => by
    rw [List.map_cons, loop_cons held_nil, show ([z0, z1, z2, z3, z4] : Mi.Env).set 1 (some (tD4 p)) = [z0, some (tD4 p), z2, z3, z4] from rfl, e_terms_b p (h p List.mem_cons_self)]
    by_cases hp : tOk p
    · rw [cB_t hp, if_pos rfl]
      rcases e_terms_l z0 z2 z3 z4 own ps (some (tD4 p)) (fun q hq => h q (List.mem_cons_of_mem _ hq)) with ⟨z', e, a⟩ | ⟨e, a⟩
      · exact .inl ⟨z', e, fun q hq => by rcases List.mem_cons.mp hq with rfl | hq; exact hp; exact a q hq⟩
      · exact .inr ⟨e, fun y => a fun q hq => y q (List.mem_cons_of_mem _ hq)⟩
    · rw [cB_f hp, if_neg Bool.false_ne_true]
      exact .inr ⟨rfl, fun y => hp (y p List.mem_cons_self)⟩
theorem zip_ints (a b : List Int) : zipL (a.map D.int) (b.map D.int) = (a.zip b).map fun p => .tup [.int p.1, .int p.2] := by
  unfold zipL
  rw [List.zip_map, List.map_map]
  rfl
theorem rise_iff : ∀ {l : List Nat}, (∀ p ∈ (l.map (Int.ofNat ·)).zip ((l.map (Int.ofNat ·)).drop 1), p.1 < p.2) ↔ l.Pairwise (· < ·)
  | [] => by simp
  | [a] => by simp
  | a :: b :: l => by
    have ih := rise_iff (l := b :: l)
    simp only [List.map_cons, List.drop_succ_cons, List.drop_zero, List.zip_cons_cons, List.mem_cons, forall_eq_or_imp] at ih ⊢
    rw [ih, List.pairwise_cons (a := a)]
    constructor
    · rintro ⟨h1, h2⟩
      refine ⟨fun x hx => ?_, h2⟩
      rcases List.mem_cons.mp hx with rfl | hx
      · exact Int.ofNat_lt.mp h1
      · exact Nat.lt_trans (Int.ofNat_lt.mp h1) ((List.pairwise_cons.mp h2).1 x hx)
    · rintro ⟨h1, h2⟩
      exact ⟨Int.ofNat_lt.mpr (h1 b List.mem_cons_self), h2⟩
theorem cut_fr (xs : List D) (e : Nat) : cutD xs (some (e : Int)) none = xs.drop e := by
  unfold cutD
  rw [HT.sIx_none, HT.sIx_nat, List.take_of_length_le (by simp)]
  by_cases h : e ≤ xs.length
  · rw [Nat.min_eq_left h]
  · rw [Nat.min_eq_right (by omega), List.drop_eq_nil_of_le (Nat.le_refl _), List.drop_eq_nil_of_le (by omega)]
theorem cut1 (l : List D) : cutD l (some 1) none = l.drop 1 := cut_fr l 1
theorem e_are_terms (ps : List (Nat × Int)) (own : Own) (hl : ps.length ≤ 100000) (hp : ∀ p ∈ ps, p.1 < 4) : F_are_terms [.tup (ps.map tD4)] own = .ok (.bl (cB ((∀ p ∈ ps, tlo p.1 ≤ p.2 ∧ p.2 ≤ thi p.1) ∧ ps.Pairwise fun p q => p.1 < q.1))) own := by
  unfold F_are_terms m_are_terms l_are_terms_1
  walk_at "go"
  rcases e_terms_l (some (.tup (ps.map tD4))) none none none own ps none hp with ⟨z', e, a⟩ | ⟨e, a⟩
  · rw [e]
    walk_at "go"
    rw [lcN tD4 (fun p => D.int (Int.ofNat p.1)) ps held_nil (fun p hq => by
      unfold tD4
      walk_at "go"
      rw [tidx_s (tn_mem (hp p hq)).2.1]
      rfl) (by omega)]
    walk_at "go"
    rw [cut1, show (ps.map fun p => D.int (Int.ofNat p.1)) = ((ps.map (·.1)).map (Int.ofNat ·)).map D.int by rw [List.map_map, List.map_map]; rfl, ← List.map_drop, zip_ints]
    rw [lc_map (fun p : Int × Int => D.tup [.int p.1, .int p.2]) (fun p => D.bl (cB (p.1 < p.2))) _ held_nil (fun p hq => ⟨[some (.tup (ps.map tD4)), z', some (.lst (((ps.map (·.1)).map (Int.ofNat ·)).map D.int)), some (.int p.1), some (.int p.2)], by walk_at "go", by walk_at "go"⟩) (by simp; omega)]
    walk_at "go"
    rw [allL_blL]
    walk_at "go"
    refine congrArg (fun x => R.ok (D.bl x) own) (cB_congr ?_)
    rw [rise_iff, List.pairwise_map]
    exact ⟨fun z => ⟨a, z⟩, fun z => z.2⟩
  · rw [e]
    walk_at "go"
    rw [cB_f fun z => a z.1]
end Lw

set_option Elab.async false
set_option linter.all false
set_option maxRecDepth 100000
set_option maxHeartbeats 4000000
namespace Lw
open PySem Mi
local macro_rules | `(tactic| walk_at "ev") => `(tactic| simp only [Mi.bind_ok, Mi.bind_exc, Mi.bind_bad, Mi.bindS_ok, Mi.bindS_exc, Mi.seq_nx, Mi.seq_rt, Mi.seq_exc, Mi.seq_ct, Mi.endw_nx, Mi.endw_rt, Mi.endw_exc, Mi.endw_ct, Mi.endF_nx, Mi.endF_rt, Mi.endF_exc, Mi.wipe_nil, Mi.wipe_cons, Mi.sB_ev, Mi.mB_ev, Mi.sSeq_ev, Mi.sEndW_ev, Mi.sNil_ev, Mi.sExp_ev, Mi.sRet_ev, Mi.sRetN_ev, Mi.sIf_ev, Mi.sAsg_ev, Mi.gN_ev, Mi.gT_ev, Mi.gsCons_ev, Mi.gsNil_ev, Mi.sRaise_ev, Mi.sCont_ev, Mi.runF_ev, Mi.mV_ev, Mi.mC_ev, Mi.m1_ev, Mi.m2_ev, Mi.mNil_ev, Mi.mCons_ev, Mi.mL_ev, Mi.mT_ev, Mi.toB_bl, Mi.mNotT_ev, Mi.mAndT_ev, Mi.mOrT_ev, Mi.mIte_ev, Mi.mAnd_ev, Mi.mOr_ev, Mi.mNot_ev, Mi.mChain_ev, Mi.mCall_ev, Mi.callF_ev, Mi.mTold_ev, Mi.told_okR, Mi.told_excR, Mi.sFor_ev, Mi.mIt_ev, Mi.it_lst, Mi.it_tup, Mi.it_str, Mi.mRng1_ev, Mi.mRng2_ev, Mi.rng1_ev, Mi.rng2_ev, Mi.mPart_ev, Mi.mNoPart_ev, Mi.mSl_ev, Mi.sl_lst, Mi.sl_tup, Mi.sl_str, Mi.mLc_ev, Mi.mBm_ev, Mi.mJoin_ev, Mi.seq_lst, Mi.seq_frz, Mi.row_tup, Mi.row_lst,
  Mi.add_int, Mi.add_str, Mi.add_lst, Mi.add_tup, Mi.sub_int, Mi.mul_int, Mi.fdiv_int, Mi.mod_int, Mi.neg_int, Mi.pow_int, Mi.gSub_ev, Mi.at0, Mi.at1, Mi.at2, Mi.at3, Int.reduceToNat, Int.reducePow, Mi.lt_int, Mi.le_int, Mi.gt_int, Mi.ge_int, Mi.eq_int, Mi.ne_int, Mi.eq_str, Mi.ne_str, Mi.isN_ev, Mi.notN_ev, Mi.D.isN, Mi.len_str, Mi.len_lst, Mi.len_frz, Mi.len_tup, Mi.min_int, Mi.max_int, Mi.int_int, Mi.int_bl, Mi.tup_ev, Mi.lst_ev, Mi.lstO_ev, Mi.ix_lst, Mi.ix_tup, Mi.ix_frz, Mi.ix_str, Mi.tuple_tup, Mi.tuple_lst, Mi.list_ev, Mi.listO_ev, Mi.isi_non, Mi.isi2_non, Mi.isi_bl, Mi.isi2_bl, Mi.isi_int, Mi.isi2_int, Mi.isi_str, Mi.isi2_str, Mi.isi_tup, Mi.isi2_tup, Mi.isi_lst, Mi.isi2_lst, Mi.isi_frz, Mi.isi2_frz, Mi.isiB, Mi.cB_True, Mi.cB_False,
  List.map_cons, List.map_nil, List.cons_append, List.nil_append, List.getElem?_cons_zero, List.getElem?_cons_succ, List.getElem?_nil, List.set_cons_zero, List.set_cons_succ, List.set_nil, List.length_cons, List.length_nil, List.replicate_succ, List.replicate_zero, Nat.reduceAdd, Nat.reduceSub, Nat.reduceLT, Nat.reduceLeDiff, Nat.reduceEqDiff, reduceIte, Bool.not_true, Bool.not_false, Bool.false_eq_true, Bool.true_and, Bool.false_and, Bool.and_true, Bool.and_false, beq_self_eq_true, String.reduceBEq, Bool.or_false, Bool.or_true, Bool.false_or, Bool.true_or, Int.reduceLT, Int.reduceLE, Int.reduceNeg, Int.reduceEq, Option.isSome_some, Option.isSome_none, Nat.reduceMul, true_and, and_true, List.flatten_cons, List.flatten_nil, List.append_nil, and_self])
local macro_rules | `(tactic| walk_at "go") => `(tactic| simp (disch := (first | assumption | omega | (simp only [List.length_append, List.length_cons, List.length_nil, List.length_map, List.length_take, List.length_drop, List.length_set, List.length_singleton, List.length_dropLast, List.length_reverse, List.length_range]; omega) | exact Option.some_ne_none _ | decide)) only [Mi.bind_ok, Mi.bind_exc, Mi.bind_bad, Mi.bindS_ok, Mi.bindS_exc, Mi.seq_nx, Mi.seq_rt, Mi.seq_exc, Mi.seq_ct, Mi.endw_nx, Mi.endw_rt, Mi.endw_exc, Mi.endw_ct, Mi.endF_nx, Mi.endF_rt, Mi.endF_exc, Mi.wipe_nil, Mi.wipe_cons, Mi.sB_ev, Mi.mB_ev, Mi.sSeq_ev, Mi.sEndW_ev, Mi.sNil_ev, Mi.sExp_ev, Mi.sRet_ev, Mi.sRetN_ev, Mi.sIf_ev, Mi.sAsg_ev, Mi.gN_ev, Mi.gT_ev, Mi.gsCons_ev, Mi.gsNil_ev, Mi.sRaise_ev, Mi.sCont_ev, Mi.runF_ev, Mi.mV_ev, Mi.mC_ev, Mi.m1_ev, Mi.m2_ev, Mi.mNil_ev, Mi.mCons_ev, Mi.mL_ev, Mi.mT_ev, Mi.toB_bl, Mi.mNotT_ev, Mi.mAndT_ev, Mi.mOrT_ev, Mi.mIte_ev, Mi.mAnd_ev, Mi.mOr_ev, Mi.mNot_ev, Mi.mChain_ev, Mi.mCall_ev, Mi.callF_ev, Mi.mTold_ev, Mi.told_okR, Mi.told_excR, Mi.sFor_ev, Mi.mIt_ev, Mi.it_lst, Mi.it_tup, Mi.it_str, Mi.mRng1_ev, Mi.mRng2_ev, Mi.rng1_ev, Mi.rng2_ev, Mi.mPart_ev, Mi.mNoPart_ev, Mi.mSl_ev, Mi.sl_lst, Mi.sl_tup, Mi.sl_str, Mi.mLc_ev, Mi.mJoin_ev, Mi.seq_lst, Mi.seq_frz, Mi.row_tup, Mi.row_lst, Mi.add_int, Mi.add_str, Mi.add_lst, Mi.add_tup, Mi.sub_int, Mi.mul_int, Mi.fdiv_int, Mi.mod_int, Mi.neg_int, Mi.pow_int, Mi.gSub_ev, Mi.at0, Mi.at1, Mi.at2, Mi.at3, Int.reduceToNat, Int.reducePow, Mi.lt_int, Mi.le_int, Mi.gt_int, Mi.ge_int, Mi.eq_int, Mi.ne_int, Mi.eq_str, Mi.ne_str, Mi.isN_ev, Mi.notN_ev, Mi.D.isN, Mi.len_str, Mi.len_lst, Mi.len_frz, Mi.len_tup, Mi.min_int, Mi.max_int, Mi.int_int, Mi.int_bl, Mi.tup_ev, Mi.lst_ev, Mi.lstO_ev, Mi.ix_str, Mi.tuple_tup, Mi.tuple_lst, Mi.isi_non, Mi.isi2_non, Mi.isi_bl, Mi.isi2_bl, Mi.isi_int, Mi.isi2_int, Mi.isi_str, Mi.isi2_str, Mi.isi_tup, Mi.isi2_tup, Mi.isi_lst, Mi.isi2_lst, Mi.isi_frz, Mi.isi2_frz, Mi.isiB, Mi.cB_True, Mi.cB_False, List.map_cons, List.map_nil, List.cons_append, List.nil_append, List.getElem?_cons_zero, List.getElem?_cons_succ, List.getElem?_nil, List.set_cons_zero, List.set_cons_succ, List.set_nil, List.length_cons, List.length_nil, List.replicate_succ, List.replicate_zero, Nat.reduceAdd, Nat.reduceSub, Nat.reduceLT, Nat.reduceLeDiff, Nat.reduceEqDiff, reduceIte, Bool.not_true, Bool.not_false, Bool.false_eq_true, Bool.true_and, Bool.false_and, Bool.and_true, Bool.and_false, beq_self_eq_true, String.reduceBEq, Bool.or_false, Bool.or_true, Bool.false_or, Bool.true_or, Int.reduceLT, Int.reduceLE, Int.reduceNeg, Int.reduceEq, Option.isSome_some, Option.isSome_none, Nat.reduceMul, true_and, and_true, List.flatten_cons, List.flatten_nil, List.append_nil, and_self, Mi.lsO_l, Mi.lst_r, Mi.lst_l, Mi.seq_r, Mi.row_r, Mi.row_frz, Mi.len_r, Mi.lenO_l, Mi.lenO_d, Mi.app_r, Mi.appO_l, Mi.addL_ev, Mi.add_r1, Mi.add_r2, Mi.addO_r, Mi.addLO_ev, Mi.pk_some, Mi.ixP_lst, Mi.ixP_tup, Mi.ixP_frz, Mi.ix_r, Mi.ixL_ev, Mi.sl_r, Mi.slL_ev, Mi.it_r, Mi.itO_l, Mi.it_frz, Mi.tuple_r, Mi.tupL_ev, Mi.list_r, Mi.lstL_ev, Mi.listO_r, Mi.lstOL_ev, Mi.sum_r, Mi.all_r, Mi.any_r, Mi.sort_r, Mi.sumL_ev, Mi.allL_ev, Mi.anyL_ev, Mi.sortL_ev, Mi.fld_r, Mi.set_r, Mi.meth_r, Mi.nonK_ev, Mi.make_r, Mi.bm_ev, Mi.bmO_ev, Mi.mMeth_ev, Mi.sFld_ev, Mi.ite_t, Mi.ite_f, Mi.cB_t, Mi.cB_f, Mi.mulOk_l, Mi.mulOk_r, Mi.dct_r, Mi.dcO_d, Mi.dcO_l, Mi.dcW_d, Mi.sortD_r, Mi.sortDO_ev, Mi.mLK_ev, Mi.minD_r, Mi.minDO_ev, Mi.bm0_ev, Mi.bm0O_ev, Mi.pop_r, Mi.popO_ev, Mi.din_r, Mi.dinO_i, Mi.dinO_n, Mi.dgO_s, Mi.dget_r, Mi.dgetO_ev, Mi.key_i, Mi.key_s, Mi.put_r, Mi.putO_d, Mi.dpop_ev, Mi.dpO_ev, Mi.dpop_r, Mi.dnew_ev, Mi.lr2_ev, Mi.lr1_ev, Mi.lrF_ev, Mi.step_ev, Mi.stepO_ev, Mi.step_1, Mi.step_m, List.getElem?_set_self', List.getElem?_set_ne, List.getElem?_append_left, List.getElem?_append_right, List.set_append_left, List.set_append_right, List.length_set, List.length_append, List.append_assoc, Nat.add_sub_cancel_left, Nat.sub_self, Function.const_apply, Option.map_some, Option.map_eq_map, Option.bind_some, Nat.add_zero, Nat.zero_add, List.set_set])
local macro_rules | `(tactic| walk_at "gos") => `(tactic| simp (disch := (first | assumption | omega | (simp only [List.length_append, List.length_cons, List.length_nil, List.length_map, List.length_take, List.length_drop, List.length_set, List.length_singleton, List.length_dropLast, List.length_reverse, List.length_range]; omega) | exact Option.some_ne_none _ | decide)) only [Mi.bind_ok, Mi.bind_exc, Mi.bind_bad, Mi.bindS_ok, Mi.bindS_exc, Mi.seq_nx, Mi.seq_rt, Mi.seq_exc, Mi.seq_ct, Mi.endw_nx, Mi.endw_rt, Mi.endw_exc, Mi.endw_ct, Mi.endF_nx, Mi.endF_rt, Mi.endF_exc, Mi.wipe_nil, Mi.wipe_cons, Mi.sB_ev, Mi.mB_ev, Mi.sSeq_ev, Mi.sEndW_ev, Mi.sNil_ev, Mi.sExp_ev, Mi.sRet_ev, Mi.sRetN_ev, Mi.sIf_ev, Mi.sAsg_ev, Mi.gN_ev, Mi.gT_ev, Mi.gsCons_ev, Mi.gsNil_ev, Mi.sRaise_ev, Mi.sCont_ev, Mi.runF_ev, Mi.mV_ev, Mi.mC_ev, Mi.m1_ev, Mi.m2_ev, Mi.mNil_ev, Mi.mCons_ev, Mi.mL_ev, Mi.mT_ev, Mi.toB_bl, Mi.mNotT_ev, Mi.mAndT_ev, Mi.mOrT_ev, Mi.mIte_ev, Mi.mAnd_ev, Mi.mOr_ev, Mi.mNot_ev, Mi.mChain_ev, Mi.mCall_ev, Mi.callF_ev, Mi.mTold_ev, Mi.told_okR, Mi.told_excR, Mi.sFor_ev, Mi.mIt_ev, Mi.it_lst, Mi.it_tup, Mi.it_str, Mi.mRng1_ev, Mi.mRng2_ev, Mi.rng1_ev, Mi.rng2_ev, Mi.mPart_ev, Mi.mNoPart_ev, Mi.mSl_ev, Mi.sl_lst, Mi.sl_tup, Mi.sl_str, Mi.mLc_ev, Mi.mJoin_ev, Mi.seq_lst, Mi.seq_frz, Mi.row_tup, Mi.row_lst, Mi.add_int, Mi.add_str, Mi.add_lst, Mi.add_tup, Mi.sub_int, Mi.mul_int, Mi.fdiv_int, Mi.mod_int, Mi.neg_int, Mi.pow_int, Mi.gSub_ev, Mi.at0, Mi.at1, Mi.at2, Mi.at3, Int.reduceToNat, Int.reducePow, Mi.lt_int, Mi.le_int, Mi.gt_int, Mi.ge_int, Mi.eq_int, Mi.ne_int, Mi.eq_str, Mi.ne_str, Mi.isN_ev, Mi.notN_ev, Mi.D.isN, Mi.len_str, Mi.len_lst, Mi.len_frz, Mi.len_tup, Mi.min_int, Mi.max_int, Mi.int_int, Mi.int_bl, Mi.tup_ev, Mi.lst_ev, Mi.lstO_ev, Mi.ix_str, Mi.tuple_tup, Mi.tuple_lst, Mi.isi_non, Mi.isi2_non, Mi.isi_bl, Mi.isi2_bl, Mi.isi_int, Mi.isi2_int, Mi.isi_str, Mi.isi2_str, Mi.isi_tup, Mi.isi2_tup, Mi.isi_lst, Mi.isi2_lst, Mi.isi_frz, Mi.isi2_frz, Mi.isiB, Mi.cB_True, Mi.cB_False, List.map_cons, List.map_nil, List.cons_append, List.nil_append, List.getElem?_cons_zero, List.getElem?_cons_succ, List.getElem?_nil, List.set_cons_zero, List.set_cons_succ, List.set_nil, List.length_cons, List.length_nil, List.replicate_succ, List.replicate_zero, Nat.reduceAdd, Nat.reduceSub, Nat.reduceLT, Nat.reduceLeDiff, Nat.reduceEqDiff, reduceIte, Bool.not_true, Bool.not_false, Bool.false_eq_true, Bool.true_and, Bool.false_and, Bool.and_true, Bool.and_false, beq_self_eq_true, String.reduceBEq, Bool.or_false, Bool.or_true, Bool.false_or, Bool.true_or, Int.reduceLT, Int.reduceLE, Int.reduceNeg, Int.reduceEq, Option.isSome_some, Option.isSome_none, Nat.reduceMul, true_and, and_true, List.flatten_cons, List.flatten_nil, List.append_nil, and_self, Mi.lsO_l, Mi.lst_r, Mi.lst_l, Mi.seq_r, Mi.row_r, Mi.row_frz, Mi.len_r, Mi.lenO_l, Mi.lenO_d, Mi.app_r, Mi.appO_l, Mi.addL_ev, Mi.add_r1, Mi.add_r2, Mi.addO_r, Mi.addLO_ev, Mi.pk_some, Mi.ixP_lst, Mi.ixP_tup, Mi.ixP_frz, Mi.ix_r, Mi.ixL_ev, Mi.sl_r, Mi.slL_ev, Mi.it_r, Mi.itO_l, Mi.it_frz, Mi.tuple_r, Mi.tupL_ev, Mi.list_r, Mi.lstL_ev, Mi.listO_r, Mi.lstOL_ev, Mi.sum_r, Mi.all_r, Mi.any_r, Mi.sort_r, Mi.sumL_ev, Mi.allL_ev, Mi.anyL_ev, Mi.sortL_ev, Mi.fld_r, Mi.set_r, Mi.meth_r, Mi.nonK_ev, Mi.make_r, Mi.bm_ev, Mi.bmO_ev, Mi.mMeth_ev, Mi.sFld_ev, Mi.ite_t, Mi.ite_f, Mi.cB_t, Mi.cB_f, Mi.mulOk_l, Mi.mulOk_r, Mi.dct_r, Mi.dcO_d, Mi.dcO_l, Mi.dcW_d, Mi.sortD_r, Mi.sortDO_ev, Mi.mLK_ev, Mi.minD_r, Mi.minDO_ev, Mi.bm0_ev, Mi.bm0O_ev, Mi.pop_r, Mi.popO_ev, Mi.din_r, Mi.dinO_i, Mi.dinO_n, Mi.dgO_s, Mi.dget_r, Mi.dgetO_ev, Mi.key_i, Mi.key_s, Mi.put_r, Mi.putO_d, Mi.dpop_ev, Mi.dpO_ev, Mi.dpop_r, Mi.dnew_ev, Mi.lr2_ev, Mi.lr1_ev, Mi.lrF_ev, Mi.step_ev, Mi.stepO_ev, Mi.step_1, Mi.step_m, List.getElem?_set_self', List.getElem?_set_ne, List.getElem?_append_left, List.getElem?_append_right, List.set_append_left, List.set_append_right, List.length_set, List.length_append, List.append_assoc, Nat.add_sub_cancel_left, Nat.sub_self, Function.const_apply, Option.map_some, Option.map_eq_map, Option.bind_some, Nat.add_zero, Nat.zero_add, List.set_set, *])
local macro_rules | `(tactic| walk_at "go") => `(tactic| simp (disch := (first | assumption | omega | (simp only [List.length_append, List.length_cons, List.length_nil, List.length_map, List.length_take, List.length_drop, List.length_set, List.length_singleton, List.length_dropLast, List.length_reverse, List.length_range]; omega) | exact Option.some_ne_none _ | decide)) only [Mi.bind_ok, Mi.bind_exc, Mi.bind_bad, Mi.bindS_ok, Mi.bindS_exc, Mi.seq_nx, Mi.seq_rt, Mi.seq_exc, Mi.seq_ct, Mi.endw_nx, Mi.endw_rt, Mi.endw_exc, Mi.endw_ct, Mi.endF_nx, Mi.endF_rt, Mi.endF_exc, Mi.wipe_nil, Mi.wipe_cons, Mi.sB_ev, Mi.mB_ev, Mi.sSeq_ev, Mi.sEndW_ev, Mi.sNil_ev, Mi.sExp_ev, Mi.sRet_ev, Mi.sRetN_ev, Mi.sIf_ev, Mi.sAsg_ev, Mi.gN_ev, Mi.gT_ev, Mi.gsCons_ev, Mi.gsNil_ev, Mi.sRaise_ev, Mi.sCont_ev, Mi.runF_ev, Mi.mV_ev, Mi.mC_ev, Mi.m1_ev, Mi.m2_ev, Mi.mNil_ev, Mi.mCons_ev, Mi.mL_ev, Mi.mT_ev, Mi.toB_bl, Mi.mNotT_ev, Mi.mAndT_ev, Mi.mOrT_ev, Mi.mIte_ev, Mi.mAnd_ev, Mi.mOr_ev, Mi.mNot_ev, Mi.mChain_ev, Mi.mCall_ev, Mi.callF_ev, Mi.mTold_ev, Mi.told_okR, Mi.told_excR, Mi.sFor_ev, Mi.mIt_ev, Mi.it_lst, Mi.it_tup, Mi.it_str, Mi.mRng1_ev, Mi.mRng2_ev, Mi.rng1_ev, Mi.rng2_ev, Mi.mPart_ev, Mi.mNoPart_ev, Mi.mSl_ev, Mi.sl_lst, Mi.sl_tup, Mi.sl_str, Mi.mLc_ev, Mi.mJoin_ev, Mi.seq_lst, Mi.seq_frz, Mi.row_tup, Mi.row_lst, Mi.add_int, Mi.add_str, Mi.add_lst, Mi.add_tup, Mi.sub_int, Mi.mul_int, Mi.fdiv_int, Mi.mod_int, Mi.neg_int, Mi.pow_int, Mi.gSub_ev, Mi.at0, Mi.at1, Mi.at2, Mi.at3, Int.reduceToNat, Int.reducePow, Mi.lt_int, Mi.le_int, Mi.gt_int, Mi.ge_int, Mi.eq_int, Mi.ne_int, Mi.eq_str, Mi.ne_str, Mi.isN_ev, Mi.notN_ev, Mi.D.isN, Mi.len_str, Mi.len_lst, Mi.len_frz, Mi.len_tup, Mi.min_int, Mi.max_int, Mi.int_int, Mi.int_bl, Mi.tup_ev, Mi.lst_ev, Mi.lstO_ev, Mi.ix_str, Mi.tuple_tup, Mi.tuple_lst, Mi.isi_non, Mi.isi2_non, Mi.isi_bl, Mi.isi2_bl, Mi.isi_int, Mi.isi2_int, Mi.isi_str, Mi.isi2_str, Mi.isi_tup, Mi.isi2_tup, Mi.isi_lst, Mi.isi2_lst, Mi.isi_frz, Mi.isi2_frz, Mi.isiB, Mi.cB_True, Mi.cB_False, List.map_cons, List.map_nil, List.cons_append, List.nil_append, List.getElem?_cons_zero, List.getElem?_cons_succ, List.getElem?_nil, List.set_cons_zero, List.set_cons_succ, List.set_nil, List.length_cons, List.length_nil, List.replicate_succ, List.replicate_zero, Nat.reduceAdd, Nat.reduceSub, Nat.reduceLT, Nat.reduceLeDiff, Nat.reduceEqDiff, reduceIte, Bool.not_true, Bool.not_false, Bool.false_eq_true, Bool.true_and, Bool.false_and, Bool.and_true, Bool.and_false, beq_self_eq_true, String.reduceBEq, Bool.or_false, Bool.or_true, Bool.false_or, Bool.true_or, Int.reduceLT, Int.reduceLE, Int.reduceNeg, Int.reduceEq, Option.isSome_some, Option.isSome_none, Nat.reduceMul, true_and, and_true, List.flatten_cons, List.flatten_nil, List.append_nil, and_self, Mi.lsO_l, Mi.lst_r, Mi.lst_l, Mi.seq_r, Mi.row_r, Mi.row_frz, Mi.len_r, Mi.lenO_l, Mi.lenO_d, Mi.app_r, Mi.appO_l, Mi.addL_ev, Mi.add_r1, Mi.add_r2, Mi.addO_r, Mi.addLO_ev, Mi.pk_some, Mi.ixP_lst, Mi.ixP_tup, Mi.ixP_frz, Mi.ix_r, Mi.ixL_ev, Mi.sl_r, Mi.slL_ev, Mi.it_r, Mi.itO_l, Mi.it_frz, Mi.tuple_r, Mi.tupL_ev, Mi.list_r, Mi.lstL_ev, Mi.listO_r, Mi.lstOL_ev, Mi.sum_r, Mi.all_r, Mi.any_r, Mi.sort_r, Mi.sumL_ev, Mi.allL_ev, Mi.anyL_ev, Mi.sortL_ev, Mi.fld_r, Mi.set_r, Mi.meth_r, Mi.nonK_ev, Mi.make_r, Mi.bm_ev, Mi.bmO_ev, Mi.mMeth_ev, Mi.sFld_ev, Mi.ite_t, Mi.ite_f, Mi.cB_t, Mi.cB_f, Mi.mulOk_l, Mi.mulOk_r, Mi.dct_r, Mi.dcO_d, Mi.dcO_l, Mi.dcW_d, Mi.sortD_r, Mi.sortDO_ev, Mi.mLK_ev, Mi.minD_r, Mi.minDO_ev, Mi.bm0_ev, Mi.bm0O_ev, Mi.pop_r, Mi.popO_ev, Mi.din_r, Mi.dinO_i, Mi.dinO_n, Mi.dgO_s, Mi.dget_r, Mi.dgetO_ev, Mi.key_i, Mi.key_s, Mi.put_r, Mi.putO_d, Mi.dpop_ev, Mi.dpO_ev, Mi.dpop_r, Mi.dnew_ev, Mi.lr2_ev, Mi.lr1_ev, Mi.lrF_ev, Mi.step_ev, Mi.stepO_ev, Mi.step_1, Mi.step_m, List.getElem?_set_self', List.getElem?_set_ne, List.getElem?_append_left, List.getElem?_append_right, List.set_append_left, List.set_append_right, List.length_set, List.length_append, List.append_assoc, Nat.add_sub_cancel_left, Nat.sub_self, Function.const_apply, Option.map_some, Option.map_eq_map, Option.bind_some, Nat.add_zero, Nat.zero_add, List.set_set, enum_ev, enumF_l, zip_ev, zipF_l, in_s2, in_s5, Bool.or_true, Bool.true_or, Bool.or_false, Bool.false_or])
local macro_rules | `(tactic| walk_at "gos") => `(tactic| simp (disch := (first | assumption | omega | (simp only [List.length_append, List.length_cons, List.length_nil, List.length_map, List.length_take, List.length_drop, List.length_set, List.length_singleton, List.length_dropLast, List.length_reverse, List.length_range]; omega) | exact Option.some_ne_none _ | decide)) only [Mi.bind_ok, Mi.bind_exc, Mi.bind_bad, Mi.bindS_ok, Mi.bindS_exc, Mi.seq_nx, Mi.seq_rt, Mi.seq_exc, Mi.seq_ct, Mi.endw_nx, Mi.endw_rt, Mi.endw_exc, Mi.endw_ct, Mi.endF_nx, Mi.endF_rt, Mi.endF_exc, Mi.wipe_nil, Mi.wipe_cons, Mi.sB_ev, Mi.mB_ev, Mi.sSeq_ev, Mi.sEndW_ev, Mi.sNil_ev, Mi.sExp_ev, Mi.sRet_ev, Mi.sRetN_ev, Mi.sIf_ev, Mi.sAsg_ev, Mi.gN_ev, Mi.gT_ev, Mi.gsCons_ev, Mi.gsNil_ev, Mi.sRaise_ev, Mi.sCont_ev, Mi.runF_ev, Mi.mV_ev, Mi.mC_ev, Mi.m1_ev, Mi.m2_ev, Mi.mNil_ev, Mi.mCons_ev, Mi.mL_ev, Mi.mT_ev, Mi.toB_bl, Mi.mNotT_ev, Mi.mAndT_ev, Mi.mOrT_ev, Mi.mIte_ev, Mi.mAnd_ev, Mi.mOr_ev, Mi.mNot_ev, Mi.mChain_ev, Mi.mCall_ev, Mi.callF_ev, Mi.mTold_ev, Mi.told_okR, Mi.told_excR, Mi.sFor_ev, Mi.mIt_ev, Mi.it_lst, Mi.it_tup, Mi.it_str, Mi.mRng1_ev, Mi.mRng2_ev, Mi.rng1_ev, Mi.rng2_ev, Mi.mPart_ev, Mi.mNoPart_ev, Mi.mSl_ev, Mi.sl_lst, Mi.sl_tup, Mi.sl_str, Mi.mLc_ev, Mi.mJoin_ev, Mi.seq_lst, Mi.seq_frz, Mi.row_tup, Mi.row_lst, Mi.add_int, Mi.add_str, Mi.add_lst, Mi.add_tup, Mi.sub_int, Mi.mul_int, Mi.fdiv_int, Mi.mod_int, Mi.neg_int, Mi.pow_int, Mi.gSub_ev, Mi.at0, Mi.at1, Mi.at2, Mi.at3, Int.reduceToNat, Int.reducePow, Mi.lt_int, Mi.le_int, Mi.gt_int, Mi.ge_int, Mi.eq_int, Mi.ne_int, Mi.eq_str, Mi.ne_str, Mi.isN_ev, Mi.notN_ev, Mi.D.isN, Mi.len_str, Mi.len_lst, Mi.len_frz, Mi.len_tup, Mi.min_int, Mi.max_int, Mi.int_int, Mi.int_bl, Mi.tup_ev, Mi.lst_ev, Mi.lstO_ev, Mi.ix_str, Mi.tuple_tup, Mi.tuple_lst, Mi.isi_non, Mi.isi2_non, Mi.isi_bl, Mi.isi2_bl, Mi.isi_int, Mi.isi2_int, Mi.isi_str, Mi.isi2_str, Mi.isi_tup, Mi.isi2_tup, Mi.isi_lst, Mi.isi2_lst, Mi.isi_frz, Mi.isi2_frz, Mi.isiB, Mi.cB_True, Mi.cB_False, List.map_cons, List.map_nil, List.cons_append, List.nil_append, List.getElem?_cons_zero, List.getElem?_cons_succ, List.getElem?_nil, List.set_cons_zero, List.set_cons_succ, List.set_nil, List.length_cons, List.length_nil, List.replicate_succ, List.replicate_zero, Nat.reduceAdd, Nat.reduceSub, Nat.reduceLT, Nat.reduceLeDiff, Nat.reduceEqDiff, reduceIte, Bool.not_true, Bool.not_false, Bool.false_eq_true, Bool.true_and, Bool.false_and, Bool.and_true, Bool.and_false, beq_self_eq_true, String.reduceBEq, Bool.or_false, Bool.or_true, Bool.false_or, Bool.true_or, Int.reduceLT, Int.reduceLE, Int.reduceNeg, Int.reduceEq, Option.isSome_some, Option.isSome_none, Nat.reduceMul, true_and, and_true, List.flatten_cons, List.flatten_nil, List.append_nil, and_self, Mi.lsO_l, Mi.lst_r, Mi.lst_l, Mi.seq_r, Mi.row_r, Mi.row_frz, Mi.len_r, Mi.lenO_l, Mi.lenO_d, Mi.app_r, Mi.appO_l, Mi.addL_ev, Mi.add_r1, Mi.add_r2, Mi.addO_r, Mi.addLO_ev, Mi.pk_some, Mi.ixP_lst, Mi.ixP_tup, Mi.ixP_frz, Mi.ix_r, Mi.ixL_ev, Mi.sl_r, Mi.slL_ev, Mi.it_r, Mi.itO_l, Mi.it_frz, Mi.tuple_r, Mi.tupL_ev, Mi.list_r, Mi.lstL_ev, Mi.listO_r, Mi.lstOL_ev, Mi.sum_r, Mi.all_r, Mi.any_r, Mi.sort_r, Mi.sumL_ev, Mi.allL_ev, Mi.anyL_ev, Mi.sortL_ev, Mi.fld_r, Mi.set_r, Mi.meth_r, Mi.nonK_ev, Mi.make_r, Mi.bm_ev, Mi.bmO_ev, Mi.mMeth_ev, Mi.sFld_ev, Mi.ite_t, Mi.ite_f, Mi.cB_t, Mi.cB_f, Mi.mulOk_l, Mi.mulOk_r, Mi.dct_r, Mi.dcO_d, Mi.dcO_l, Mi.dcW_d, Mi.sortD_r, Mi.sortDO_ev, Mi.mLK_ev, Mi.minD_r, Mi.minDO_ev, Mi.bm0_ev, Mi.bm0O_ev, Mi.pop_r, Mi.popO_ev, Mi.din_r, Mi.dinO_i, Mi.dinO_n, Mi.dgO_s, Mi.dget_r, Mi.dgetO_ev, Mi.key_i, Mi.key_s, Mi.put_r, Mi.putO_d, Mi.dpop_ev, Mi.dpO_ev, Mi.dpop_r, Mi.dnew_ev, Mi.lr2_ev, Mi.lr1_ev, Mi.lrF_ev, Mi.step_ev, Mi.stepO_ev, Mi.step_1, Mi.step_m, List.getElem?_set_self', List.getElem?_set_ne, List.getElem?_append_left, List.getElem?_append_right, List.set_append_left, List.set_append_right, List.length_set, List.length_append, List.append_assoc, Nat.add_sub_cancel_left, Nat.sub_self, Function.const_apply, Option.map_some, Option.map_eq_map, Option.bind_some, Nat.add_zero, Nat.zero_add, List.set_set, enum_ev, enumF_l, zip_ev, zipF_l, in_s2, in_s5, Bool.or_true, Bool.true_or, Bool.or_false, Bool.false_or, *])
/-! ### a sheet is looked at, and written -/
section
variable {own : Own}
theorem tx_bnd {t : Str} (h : t.length ≤ 100000) : ∀ s, D.str t = .str s → s.length ≤ 1000000 := fun s e => by cases e; omega
theorem e_is_right (s : Sh) (w : s.wf) (own : Own) : F_is_right [s.d] own = .ok (.bl (cB s.ok)) own := by
  have nt : ∀ {p q : Prop}, (p ↔ q) → (R.ok (D.bl (cB p)) own : R D) = .ok (.bl (cB q)) own := fun h => congrArg (fun x => R.ok (D.bl x) own) (cB_congr h)
  have tyi : ∀ i : Int, tyD own (.int i) ≠ none := fun i => by simp [tyD]
  unfold F_is_right m_is_right
  cases s with
  | piece s t l =>
    unfold Sh.d
    walk_at "go"
    rw [e_is_strand _ _ (tyi s), isWD_i]
    by_cases h : strd s
    · rw [show cB (1 ≤ s ∧ s ≤ 16777215) = true from cB_t h]
      walk_at "go"
      rw [e_is_text _ _ _ (by simp [tyD]) (tx_bnd w)]
      walk_at "go"
      have : isTx (.str t) 65535 = cB (isTx (.str t) 65535 = true) := by
        cases e : isTx (.str t) 65535
        · rw [cB_f (by simp)]
        · rw [cB_t rfl]
      rw [this]
      exact nt ⟨fun z => ⟨h, z⟩, fun z => z.2⟩
    · rw [show cB (1 ≤ s ∧ s ≤ 16777215) = false from cB_f h]
      walk_at "go"
      rw [cB_f (fun z : (Sh.piece s t l).ok => h z.1)]
  | heads s b l =>
    unfold Sh.d
    walk_at "go"
    rw [e_is_strand _ _ (tyi s), isWD_i]
    by_cases h : strd s
    · rw [show cB (1 ≤ s ∧ s ≤ 16777215) = true from cB_t h]
      walk_at "go"
      rw [e_is_block b own w]
      walk_at "go"
      exact nt ⟨fun z => ⟨h, z⟩, fun z => z.2⟩
    · rw [show cB (1 ≤ s ∧ s ≤ 16777215) = false from cB_f h]
      walk_at "go"
      rw [cB_f (fun z : (Sh.heads s b l).ok => h z.1)]
  | rank s a w' =>
    unfold Sh.d
    walk_at "go"
    rw [e_is_strand _ _ (tyi s), isWD_i]
    by_cases h : strd s
    · rw [show cB (1 ≤ s ∧ s ≤ 16777215) = true from cB_t h]
      walk_at "go"
      rw [e_is_whole _ _ _ _ (tyi a), isWD_i]
      by_cases h2 : num3 a
      · rw [show cB (0 ≤ a ∧ a ≤ 16777215) = true from cB_t h2]
        walk_at "go"
        by_cases h3 : a = s
        · rw [cB_t h3]
          walk_at "go"
          rw [cB_f (fun z : (Sh.rank s a w').ok => z.2.2.1 h3)]
        · rw [cB_f h3]
          walk_at "go"
          rw [e_is_whole _ _ _ _ (tyi w'), isWD_i]
          walk_at "go"
          exact nt ⟨fun z => ⟨h, h2, h3, z⟩, fun z => z.2.2.2⟩
      · rw [show cB (0 ≤ a ∧ a ≤ 16777215) = false from cB_f h2]
        walk_at "go"
        rw [cB_f (fun z : (Sh.rank s a w').ok => h2 z.2.1)]
    · rw [show cB (1 ≤ s ∧ s ≤ 16777215) = false from cB_f h]
      walk_at "go"
      rw [cB_f (fun z : (Sh.rank s a w').ok => h z.1)]
  | cut s c =>
    unfold Sh.d
    walk_at "go"
    rw [e_is_strand _ _ (tyi s), isWD_i]
    by_cases h : strd s
    · rw [show cB (1 ≤ s ∧ s ≤ 16777215) = true from cB_t h]
      walk_at "go"
      rw [e_is_whole _ _ _ _ (tyi c), isWD_i]
      walk_at "go"
      exact nt ⟨fun z => ⟨h, z⟩, fun z => z.2⟩
    · rw [show cB (1 ≤ s ∧ s ≤ 16777215) = false from cB_f h]
      walk_at "go"
      rw [cB_f (fun z : (Sh.cut s c).ok => h z.1)]
  | terms ps =>
    unfold Sh.d
    walk_at "go"
    rw [e_are_terms ps own w.1 w.2]
    walk_at "go"
    rfl
  | heard =>
    unfold Sh.d
    walk_at "go"
    rw [cB_t (show Sh.heard.ok from trivial)]
  | knock n =>
    unfold Sh.d
    walk_at "go"
    rw [e_is_whole _ _ _ _ (tyi n), isWD_i]
    walk_at "go"
    rfl
  | knocked n =>
    unfold Sh.d
    walk_at "go"
    rw [e_is_whole _ _ _ _ (tyi n), isWD_i]
    walk_at "go"
    rfl
  | last s c =>
    unfold Sh.d
    walk_at "go"
    rw [e_is_whole _ _ _ _ (tyi s), isWD_i]
    by_cases h : num3 s
    · rw [show cB (0 ≤ s ∧ s ≤ 16777215) = true from cB_t h]
      walk_at "go"
      rw [e_is_whole _ _ _ _ (tyi c), isWD_i]
      walk_at "go"
      exact nt ⟨fun z => ⟨h, z⟩, fun z => z.2⟩
    · rw [show cB (0 ≤ s ∧ s ≤ 16777215) = false from cB_f h]
      walk_at "go"
      rw [cB_f (fun z : (Sh.last s c).ok => h z.1)]
  | room s n =>
    unfold Sh.d
    walk_at "go"
    rw [e_is_whole _ _ _ _ (tyi s), isWD_i]
    by_cases h : num3 s
    · rw [show cB (0 ≤ s ∧ s ≤ 16777215) = true from cB_t h]
      walk_at "go"
      rw [e_is_whole _ _ _ _ (tyi n), isWD_i]
      walk_at "go"
      exact nt ⟨fun z => ⟨h, z⟩, fun z => z.2⟩
    · rw [show cB (0 ≤ s ∧ s ≤ 16777215) = false from cB_f h]
      walk_at "go"
      rw [cB_f (fun z : (Sh.room s n).ok => h z.1)]
theorem len_T (s : Sh) : valT tab_LENGTHS s.word = some ((s.parts.length : Int) + 1) := by cases s <;> simp only [Sh.word, Sh.parts, List.length_cons, List.length_nil] <;> decide
theorem at_0 (d : D) (ds : List D) : L2.atI (d :: ds) 0 = some d := by rw [show (0 : Int) = ((0 : Nat) : Int) from rfl, atI_nat]; rfl
theorem e_look (s : Sh) (w : s.wf) (own : Own) : F_look_sheet [s.d] own = if cB s.ok = true then .ok .non own else .exc 4 own := by
  have hr := e_is_right s w own
  have hT := len_T s
  unfold F_look_sheet m_look_sheet
  rw [s.d_is] at hr ⊢
  generalize s.word = wd at *
  generalize s.parts = ps at *
  walk_at "go"
  rw [tin_s (b := true) (by rw [hT]; rfl)]
  walk_at "go"
  rw [e_refuse]
  walk_at "go"
  rw [tget_s hT]
  walk_at "go"
  rw [hr]
  walk_at "go"
  rw [e_refuse]
  by_cases h : s.ok
  · rw [cB_t h]; walk_at "go"
  · rw [cB_f h]; walk_at "go"
end
end Lw

set_option Elab.async false
set_option linter.all false
set_option maxRecDepth 100000
set_option maxHeartbeats 4000000
namespace Lw
open PySem Mi
local macro_rules | `(tactic| walk_at "ev") => `(tactic| simp only [Mi.bind_ok, Mi.bind_exc, Mi.bind_bad, Mi.bindS_ok, Mi.bindS_exc, Mi.seq_nx, Mi.seq_rt, Mi.seq_exc, Mi.seq_ct, Mi.endw_nx, Mi.endw_rt, Mi.endw_exc, Mi.endw_ct, Mi.endF_nx, Mi.endF_rt, Mi.endF_exc, Mi.wipe_nil, Mi.wipe_cons, Mi.sB_ev, Mi.mB_ev, Mi.sSeq_ev, Mi.sEndW_ev, Mi.sNil_ev, Mi.sExp_ev, Mi.sRet_ev, Mi.sRetN_ev, Mi.sIf_ev, Mi.sAsg_ev, Mi.gN_ev, Mi.gT_ev, Mi.gsCons_ev, Mi.gsNil_ev, Mi.sRaise_ev, Mi.sCont_ev, Mi.runF_ev, Mi.mV_ev, Mi.mC_ev, Mi.m1_ev, Mi.m2_ev, Mi.mNil_ev, Mi.mCons_ev, Mi.mL_ev, Mi.mT_ev, Mi.toB_bl, Mi.mNotT_ev, Mi.mAndT_ev, Mi.mOrT_ev, Mi.mIte_ev, Mi.mAnd_ev, Mi.mOr_ev, Mi.mNot_ev, Mi.mChain_ev, Mi.mCall_ev, Mi.callF_ev, Mi.mTold_ev, Mi.told_okR, Mi.told_excR, Mi.sFor_ev, Mi.mIt_ev, Mi.it_lst, Mi.it_tup, Mi.it_str, Mi.mRng1_ev, Mi.mRng2_ev, Mi.rng1_ev, Mi.rng2_ev, Mi.mPart_ev, Mi.mNoPart_ev, Mi.mSl_ev, Mi.sl_lst, Mi.sl_tup, Mi.sl_str, Mi.mLc_ev, Mi.mBm_ev, Mi.mJoin_ev, Mi.seq_lst, Mi.seq_frz, Mi.row_tup, Mi.row_lst,
  Mi.add_int, Mi.add_str, Mi.add_lst, Mi.add_tup, Mi.sub_int, Mi.mul_int, Mi.fdiv_int, Mi.mod_int, Mi.neg_int, Mi.pow_int, Mi.gSub_ev, Mi.at0, Mi.at1, Mi.at2, Mi.at3, Int.reduceToNat, Int.reducePow, Mi.lt_int, Mi.le_int, Mi.gt_int, Mi.ge_int, Mi.eq_int, Mi.ne_int, Mi.eq_str, Mi.ne_str, Mi.isN_ev, Mi.notN_ev, Mi.D.isN, Mi.len_str, Mi.len_lst, Mi.len_frz, Mi.len_tup, Mi.min_int, Mi.max_int, Mi.int_int, Mi.int_bl, Mi.tup_ev, Mi.lst_ev, Mi.lstO_ev, Mi.ix_lst, Mi.ix_tup, Mi.ix_frz, Mi.ix_str, Mi.tuple_tup, Mi.tuple_lst, Mi.list_ev, Mi.listO_ev, Mi.isi_non, Mi.isi2_non, Mi.isi_bl, Mi.isi2_bl, Mi.isi_int, Mi.isi2_int, Mi.isi_str, Mi.isi2_str, Mi.isi_tup, Mi.isi2_tup, Mi.isi_lst, Mi.isi2_lst, Mi.isi_frz, Mi.isi2_frz, Mi.isiB, Mi.cB_True, Mi.cB_False,
  List.map_cons, List.map_nil, List.cons_append, List.nil_append, List.getElem?_cons_zero, List.getElem?_cons_succ, List.getElem?_nil, List.set_cons_zero, List.set_cons_succ, List.set_nil, List.length_cons, List.length_nil, List.replicate_succ, List.replicate_zero, Nat.reduceAdd, Nat.reduceSub, Nat.reduceLT, Nat.reduceLeDiff, Nat.reduceEqDiff, reduceIte, Bool.not_true, Bool.not_false, Bool.false_eq_true, Bool.true_and, Bool.false_and, Bool.and_true, Bool.and_false, beq_self_eq_true, String.reduceBEq, Bool.or_false, Bool.or_true, Bool.false_or, Bool.true_or, Int.reduceLT, Int.reduceLE, Int.reduceNeg, Int.reduceEq, Option.isSome_some, Option.isSome_none, Nat.reduceMul, true_and, and_true, List.flatten_cons, List.flatten_nil, List.append_nil, and_self])
local macro_rules | `(tactic| walk_at "go") => `(tactic| simp (disch := (first | assumption | omega | (simp only [List.length_append, List.length_cons, List.length_nil, List.length_map, List.length_take, List.length_drop, List.length_set, List.length_singleton, List.length_dropLast, List.length_reverse, List.length_range]; omega) | exact Option.some_ne_none _ | decide)) only [Mi.bind_ok, Mi.bind_exc, Mi.bind_bad, Mi.bindS_ok, Mi.bindS_exc, Mi.seq_nx, Mi.seq_rt, Mi.seq_exc, Mi.seq_ct, Mi.endw_nx, Mi.endw_rt, Mi.endw_exc, Mi.endw_ct, Mi.endF_nx, Mi.endF_rt, Mi.endF_exc, Mi.wipe_nil, Mi.wipe_cons, Mi.sB_ev, Mi.mB_ev, Mi.sSeq_ev, Mi.sEndW_ev, Mi.sNil_ev, Mi.sExp_ev, Mi.sRet_ev, Mi.sRetN_ev, Mi.sIf_ev, Mi.sAsg_ev, Mi.gN_ev, Mi.gT_ev, Mi.gsCons_ev, Mi.gsNil_ev, Mi.sRaise_ev, Mi.sCont_ev, Mi.runF_ev, Mi.mV_ev, Mi.mC_ev, Mi.m1_ev, Mi.m2_ev, Mi.mNil_ev, Mi.mCons_ev, Mi.mL_ev, Mi.mT_ev, Mi.toB_bl, Mi.mNotT_ev, Mi.mAndT_ev, Mi.mOrT_ev, Mi.mIte_ev, Mi.mAnd_ev, Mi.mOr_ev, Mi.mNot_ev, Mi.mChain_ev, Mi.mCall_ev, Mi.callF_ev, Mi.mTold_ev, Mi.told_okR, Mi.told_excR, Mi.sFor_ev, Mi.mIt_ev, Mi.it_lst, Mi.it_tup, Mi.it_str, Mi.mRng1_ev, Mi.mRng2_ev, Mi.rng1_ev, Mi.rng2_ev, Mi.mPart_ev, Mi.mNoPart_ev, Mi.mSl_ev, Mi.sl_lst, Mi.sl_tup, Mi.sl_str, Mi.mLc_ev, Mi.mJoin_ev, Mi.seq_lst, Mi.seq_frz, Mi.row_tup, Mi.row_lst, Mi.add_int, Mi.add_str, Mi.add_lst, Mi.add_tup, Mi.sub_int, Mi.mul_int, Mi.fdiv_int, Mi.mod_int, Mi.neg_int, Mi.pow_int, Mi.gSub_ev, Mi.at0, Mi.at1, Mi.at2, Mi.at3, Int.reduceToNat, Int.reducePow, Mi.lt_int, Mi.le_int, Mi.gt_int, Mi.ge_int, Mi.eq_int, Mi.ne_int, Mi.eq_str, Mi.ne_str, Mi.isN_ev, Mi.notN_ev, Mi.D.isN, Mi.len_str, Mi.len_lst, Mi.len_frz, Mi.len_tup, Mi.min_int, Mi.max_int, Mi.int_int, Mi.int_bl, Mi.tup_ev, Mi.lst_ev, Mi.lstO_ev, Mi.ix_str, Mi.tuple_tup, Mi.tuple_lst, Mi.isi_non, Mi.isi2_non, Mi.isi_bl, Mi.isi2_bl, Mi.isi_int, Mi.isi2_int, Mi.isi_str, Mi.isi2_str, Mi.isi_tup, Mi.isi2_tup, Mi.isi_lst, Mi.isi2_lst, Mi.isi_frz, Mi.isi2_frz, Mi.isiB, Mi.cB_True, Mi.cB_False, List.map_cons, List.map_nil, List.cons_append, List.nil_append, List.getElem?_cons_zero, List.getElem?_cons_succ, List.getElem?_nil, List.set_cons_zero, List.set_cons_succ, List.set_nil, List.length_cons, List.length_nil, List.replicate_succ, List.replicate_zero, Nat.reduceAdd, Nat.reduceSub, Nat.reduceLT, Nat.reduceLeDiff, Nat.reduceEqDiff, reduceIte, Bool.not_true, Bool.not_false, Bool.false_eq_true, Bool.true_and, Bool.false_and, Bool.and_true, Bool.and_false, beq_self_eq_true, String.reduceBEq, Bool.or_false, Bool.or_true, Bool.false_or, Bool.true_or, Int.reduceLT, Int.reduceLE, Int.reduceNeg, Int.reduceEq, Option.isSome_some, Option.isSome_none, Nat.reduceMul, true_and, and_true, List.flatten_cons, List.flatten_nil, List.append_nil, and_self, Mi.lsO_l, Mi.lst_r, Mi.lst_l, Mi.seq_r, Mi.row_r, Mi.row_frz, Mi.len_r, Mi.lenO_l, Mi.lenO_d, Mi.app_r, Mi.appO_l, Mi.addL_ev, Mi.add_r1, Mi.add_r2, Mi.addO_r, Mi.addLO_ev, Mi.pk_some, Mi.ixP_lst, Mi.ixP_tup, Mi.ixP_frz, Mi.ixL_ev, Mi.sl_r, Mi.slL_ev, Mi.it_r, Mi.itO_l, Mi.it_frz, Mi.tuple_r, Mi.tupL_ev, Mi.list_r, Mi.lstL_ev, Mi.listO_r, Mi.lstOL_ev, Mi.sum_r, Mi.all_r, Mi.any_r, Mi.sort_r, Mi.sumL_ev, Mi.allL_ev, Mi.anyL_ev, Mi.sortL_ev, Mi.fld_r, Mi.set_r, Mi.meth_r, Mi.nonK_ev, Mi.make_r, Mi.bm_ev, Mi.bmO_ev, Mi.mMeth_ev, Mi.sFld_ev, Mi.ite_t, Mi.ite_f, Mi.cB_t, Mi.cB_f, Mi.mulOk_l, Mi.mulOk_r, Mi.dct_r, Mi.dcO_d, Mi.dcO_l, Mi.dcW_d, Mi.sortD_r, Mi.sortDO_ev, Mi.mLK_ev, Mi.minD_r, Mi.minDO_ev, Mi.bm0_ev, Mi.bm0O_ev, Mi.pop_r, Mi.popO_ev, Mi.dinO_i, Mi.dinO_n, Mi.dgO_s, Mi.dgetO_ev, Mi.key_i, Mi.key_s, Mi.put_r, Mi.putO_d, Mi.dpop_ev, Mi.dpO_ev, Mi.dpop_r, Mi.dnew_ev, Mi.lr2_ev, Mi.lr1_ev, Mi.lrF_ev, Mi.step_ev, Mi.stepO_ev, Mi.step_1, Mi.step_m, List.getElem?_set_self', List.getElem?_set_ne, List.getElem?_append_left, List.getElem?_append_right, List.set_append_left, List.set_append_right, List.length_set, List.length_append, List.append_assoc, Nat.add_sub_cancel_left, Nat.sub_self, Function.const_apply, Option.map_some, Option.map_eq_map, Option.bind_some, Nat.add_zero, Nat.zero_add, List.set_set])
local macro_rules | `(tactic| walk_at "gos") => `(tactic| simp (disch := (first | assumption | omega | (simp only [List.length_append, List.length_cons, List.length_nil, List.length_map, List.length_take, List.length_drop, List.length_set, List.length_singleton, List.length_dropLast, List.length_reverse, List.length_range]; omega) | exact Option.some_ne_none _ | decide)) only [Mi.bind_ok, Mi.bind_exc, Mi.bind_bad, Mi.bindS_ok, Mi.bindS_exc, Mi.seq_nx, Mi.seq_rt, Mi.seq_exc, Mi.seq_ct, Mi.endw_nx, Mi.endw_rt, Mi.endw_exc, Mi.endw_ct, Mi.endF_nx, Mi.endF_rt, Mi.endF_exc, Mi.wipe_nil, Mi.wipe_cons, Mi.sB_ev, Mi.mB_ev, Mi.sSeq_ev, Mi.sEndW_ev, Mi.sNil_ev, Mi.sExp_ev, Mi.sRet_ev, Mi.sRetN_ev, Mi.sIf_ev, Mi.sAsg_ev, Mi.gN_ev, Mi.gT_ev, Mi.gsCons_ev, Mi.gsNil_ev, Mi.sRaise_ev, Mi.sCont_ev, Mi.runF_ev, Mi.mV_ev, Mi.mC_ev, Mi.m1_ev, Mi.m2_ev, Mi.mNil_ev, Mi.mCons_ev, Mi.mL_ev, Mi.mT_ev, Mi.toB_bl, Mi.mNotT_ev, Mi.mAndT_ev, Mi.mOrT_ev, Mi.mIte_ev, Mi.mAnd_ev, Mi.mOr_ev, Mi.mNot_ev, Mi.mChain_ev, Mi.mCall_ev, Mi.callF_ev, Mi.mTold_ev, Mi.told_okR, Mi.told_excR, Mi.sFor_ev, Mi.mIt_ev, Mi.it_lst, Mi.it_tup, Mi.it_str, Mi.mRng1_ev, Mi.mRng2_ev, Mi.rng1_ev, Mi.rng2_ev, Mi.mPart_ev, Mi.mNoPart_ev, Mi.mSl_ev, Mi.sl_lst, Mi.sl_tup, Mi.sl_str, Mi.mLc_ev, Mi.mJoin_ev, Mi.seq_lst, Mi.seq_frz, Mi.row_tup, Mi.row_lst, Mi.add_int, Mi.add_str, Mi.add_lst, Mi.add_tup, Mi.sub_int, Mi.mul_int, Mi.fdiv_int, Mi.mod_int, Mi.neg_int, Mi.pow_int, Mi.gSub_ev, Mi.at0, Mi.at1, Mi.at2, Mi.at3, Int.reduceToNat, Int.reducePow, Mi.lt_int, Mi.le_int, Mi.gt_int, Mi.ge_int, Mi.eq_int, Mi.ne_int, Mi.eq_str, Mi.ne_str, Mi.isN_ev, Mi.notN_ev, Mi.D.isN, Mi.len_str, Mi.len_lst, Mi.len_frz, Mi.len_tup, Mi.min_int, Mi.max_int, Mi.int_int, Mi.int_bl, Mi.tup_ev, Mi.lst_ev, Mi.lstO_ev, Mi.ix_str, Mi.tuple_tup, Mi.tuple_lst, Mi.isi_non, Mi.isi2_non, Mi.isi_bl, Mi.isi2_bl, Mi.isi_int, Mi.isi2_int, Mi.isi_str, Mi.isi2_str, Mi.isi_tup, Mi.isi2_tup, Mi.isi_lst, Mi.isi2_lst, Mi.isi_frz, Mi.isi2_frz, Mi.isiB, Mi.cB_True, Mi.cB_False, List.map_cons, List.map_nil, List.cons_append, List.nil_append, List.getElem?_cons_zero, List.getElem?_cons_succ, List.getElem?_nil, List.set_cons_zero, List.set_cons_succ, List.set_nil, List.length_cons, List.length_nil, List.replicate_succ, List.replicate_zero, Nat.reduceAdd, Nat.reduceSub, Nat.reduceLT, Nat.reduceLeDiff, Nat.reduceEqDiff, reduceIte, Bool.not_true, Bool.not_false, Bool.false_eq_true, Bool.true_and, Bool.false_and, Bool.and_true, Bool.and_false, beq_self_eq_true, String.reduceBEq, Bool.or_false, Bool.or_true, Bool.false_or, Bool.true_or, Int.reduceLT, Int.reduceLE, Int.reduceNeg, Int.reduceEq, Option.isSome_some, Option.isSome_none, Nat.reduceMul, true_and, and_true, List.flatten_cons, List.flatten_nil, List.append_nil, and_self, Mi.lsO_l, Mi.lst_r, Mi.lst_l, Mi.seq_r, Mi.row_r, Mi.row_frz, Mi.len_r, Mi.lenO_l, Mi.lenO_d, Mi.app_r, Mi.appO_l, Mi.addL_ev, Mi.add_r1, Mi.add_r2, Mi.addO_r, Mi.addLO_ev, Mi.pk_some, Mi.ixP_lst, Mi.ixP_tup, Mi.ixP_frz, Mi.ixL_ev, Mi.sl_r, Mi.slL_ev, Mi.it_r, Mi.itO_l, Mi.it_frz, Mi.tuple_r, Mi.tupL_ev, Mi.list_r, Mi.lstL_ev, Mi.listO_r, Mi.lstOL_ev, Mi.sum_r, Mi.all_r, Mi.any_r, Mi.sort_r, Mi.sumL_ev, Mi.allL_ev, Mi.anyL_ev, Mi.sortL_ev, Mi.fld_r, Mi.set_r, Mi.meth_r, Mi.nonK_ev, Mi.make_r, Mi.bm_ev, Mi.bmO_ev, Mi.mMeth_ev, Mi.sFld_ev, Mi.ite_t, Mi.ite_f, Mi.cB_t, Mi.cB_f, Mi.mulOk_l, Mi.mulOk_r, Mi.dct_r, Mi.dcO_d, Mi.dcO_l, Mi.dcW_d, Mi.sortD_r, Mi.sortDO_ev, Mi.mLK_ev, Mi.minD_r, Mi.minDO_ev, Mi.bm0_ev, Mi.bm0O_ev, Mi.pop_r, Mi.popO_ev, Mi.dinO_i, Mi.dinO_n, Mi.dgO_s, Mi.dgetO_ev, Mi.key_i, Mi.key_s, Mi.put_r, Mi.putO_d, Mi.dpop_ev, Mi.dpO_ev, Mi.dpop_r, Mi.dnew_ev, Mi.lr2_ev, Mi.lr1_ev, Mi.lrF_ev, Mi.step_ev, Mi.stepO_ev, Mi.step_1, Mi.step_m, List.getElem?_set_self', List.getElem?_set_ne, List.getElem?_append_left, List.getElem?_append_right, List.set_append_left, List.set_append_right, List.length_set, List.length_append, List.append_assoc, Nat.add_sub_cancel_left, Nat.sub_self, Function.const_apply, Option.map_some, Option.map_eq_map, Option.bind_some, Nat.add_zero, Nat.zero_add, List.set_set, *])
theorem loopg_nil {g : MG} {b : MS} {W : Wt} {env : Mi.Env} {own : Own} (hW : Held W own) : sLoop g b W [] env own = .nx env own := by
  unfold sLoop
  exact if_pos hW
theorem loopg_cons {g : MG} {b : MS} {W : Wt} {d : D} {ds : List D} {env e1 e2 : Mi.Env} {own o1 o2 : Own} (hW : Held W own) (hg : g d env own = .nx e1 o1) (hb : b e1 o1 = .nx e2 o2) : sLoop g b W (d :: ds) env own = sLoop g b W ds e2 o2 := by
  conv => lhs; unfold sLoop
  rw [if_pos hW, hg]
  dsimp only
  rw [hb]
def g2M (o : Option (List (L2.Key × D))) (me mx : M D) (d : D) (env : Mi.Env) (own : Own) : Mi.R D := match o with
  | some _ => (me env own).bind fun e o => (mx env o).bind fun x o => dget2F d e x o
  | none => .bad
theorem mDget2_ev {md me mx : M D} {env : Mi.Env} {own : Own} : mDget2 md me mx env own = (md env own).bind fun d o => g2M (dctD o d) me mx d env o := rfl
theorem g2M_ev {kvs : List (L2.Key × D)} {me mx : M D} {d : D} {env : Mi.Env} {own : Own} : g2M (some kvs) me mx d env own = (me env own).bind fun e o => (mx env o).bind fun x o => dget2F d e x o := rfl
local macro_rules | `(tactic| walk_at "go") => `(tactic| simp (disch := (first | assumption | omega | (simp only [List.length_append, List.length_cons, List.length_nil, List.length_map, List.length_take, List.length_drop, List.length_set, List.length_singleton, List.length_dropLast, List.length_reverse, List.length_range]; omega) | exact Option.some_ne_none _ | decide)) only [Mi.bind_ok, Mi.bind_exc, Mi.bind_bad, Mi.bindS_ok, Mi.bindS_exc, Mi.seq_nx, Mi.seq_rt, Mi.seq_exc, Mi.seq_ct, Mi.endw_nx, Mi.endw_rt, Mi.endw_exc, Mi.endw_ct, Mi.endF_nx, Mi.endF_rt, Mi.endF_exc, Mi.wipe_nil, Mi.wipe_cons, Mi.sB_ev, Mi.mB_ev, Mi.sSeq_ev, Mi.sEndW_ev, Mi.sNil_ev, Mi.sExp_ev, Mi.sRet_ev, Mi.sRetN_ev, Mi.sIf_ev, Mi.sAsg_ev, Mi.gN_ev, Mi.gT_ev, Mi.gsCons_ev, Mi.gsNil_ev, Mi.sRaise_ev, Mi.sCont_ev, Mi.runF_ev, Mi.mV_ev, Mi.mC_ev, Mi.m1_ev, Mi.m2_ev, Mi.mNil_ev, Mi.mCons_ev, Mi.mL_ev, Mi.mT_ev, Mi.toB_bl, Mi.mNotT_ev, Mi.mAndT_ev, Mi.mOrT_ev, Mi.mIte_ev, Mi.mAnd_ev, Mi.mOr_ev, Mi.mNot_ev, Mi.mChain_ev, Mi.mCall_ev, Mi.callF_ev, Mi.mTold_ev, Mi.told_okR, Mi.told_excR, Mi.sFor_ev, Mi.mIt_ev, Mi.it_lst, Mi.it_tup, Mi.it_str, Mi.mRng1_ev, Mi.mRng2_ev, Mi.rng1_ev, Mi.rng2_ev, Mi.mPart_ev, Mi.mNoPart_ev, Mi.mSl_ev, Mi.sl_lst, Mi.sl_tup, Mi.sl_str, Mi.mLc_ev, Mi.mJoin_ev, Mi.seq_lst, Mi.seq_frz, Mi.row_tup, Mi.row_lst, Mi.add_int, Mi.add_str, Mi.add_lst, Mi.add_tup, Mi.sub_int, Mi.mul_int, Mi.fdiv_int, Mi.mod_int, Mi.neg_int, Mi.pow_int, Mi.gSub_ev, Mi.at0, Mi.at1, Mi.at2, Mi.at3, Int.reduceToNat, Int.reducePow, Mi.lt_int, Mi.le_int, Mi.gt_int, Mi.ge_int, Mi.eq_int, Mi.ne_int, Mi.eq_str, Mi.ne_str, Mi.isN_ev, Mi.notN_ev, Mi.D.isN, Mi.len_str, Mi.len_lst, Mi.len_frz, Mi.len_tup, Mi.min_int, Mi.max_int, Mi.int_int, Mi.int_bl, Mi.tup_ev, Mi.lst_ev, Mi.lstO_ev, Mi.ix_str, Mi.tuple_tup, Mi.tuple_lst, Mi.isi_non, Mi.isi2_non, Mi.isi_bl, Mi.isi2_bl, Mi.isi_int, Mi.isi2_int, Mi.isi_str, Mi.isi2_str, Mi.isi_tup, Mi.isi2_tup, Mi.isi_lst, Mi.isi2_lst, Mi.isi_frz, Mi.isi2_frz, Mi.isiB, Mi.cB_True, Mi.cB_False, List.map_cons, List.map_nil, List.cons_append, List.nil_append, List.getElem?_cons_zero, List.getElem?_cons_succ, List.getElem?_nil, List.set_cons_zero, List.set_cons_succ, List.set_nil, List.length_cons, List.length_nil, List.replicate_succ, List.replicate_zero, Nat.reduceAdd, Nat.reduceSub, Nat.reduceLT, Nat.reduceLeDiff, Nat.reduceEqDiff, reduceIte, Bool.not_true, Bool.not_false, Bool.false_eq_true, Bool.true_and, Bool.false_and, Bool.and_true, Bool.and_false, beq_self_eq_true, String.reduceBEq, Bool.or_false, Bool.or_true, Bool.false_or, Bool.true_or, Int.reduceLT, Int.reduceLE, Int.reduceNeg, Int.reduceEq, Option.isSome_some, Option.isSome_none, Nat.reduceMul, true_and, and_true, List.flatten_cons, List.flatten_nil, List.append_nil, and_self, Mi.lsO_l, Mi.lst_r, Mi.lst_l, Mi.seq_r, Mi.row_r, Mi.row_frz, Mi.len_r, Mi.lenO_l, Mi.lenO_d, Mi.app_r, Mi.appO_l, Mi.addL_ev, Mi.add_r1, Mi.add_r2, Mi.addO_r, Mi.addLO_ev, Mi.pk_some, Mi.ixP_lst, Mi.ixP_tup, Mi.ixP_frz, Mi.ixL_ev, Mi.sl_r, Mi.slL_ev, Mi.it_r, Mi.itO_l, Mi.it_frz, Mi.tuple_r, Mi.tupL_ev, Mi.list_r, Mi.lstL_ev, Mi.listO_r, Mi.lstOL_ev, Mi.sum_r, Mi.all_r, Mi.any_r, Mi.sort_r, Mi.sumL_ev, Mi.allL_ev, Mi.anyL_ev, Mi.sortL_ev, Mi.fld_r, Mi.set_r, Mi.meth_r, Mi.nonK_ev, Mi.make_r, Mi.bm_ev, Mi.bmO_ev, Mi.mMeth_ev, Mi.sFld_ev, Mi.ite_t, Mi.ite_f, Mi.cB_t, Mi.cB_f, Mi.mulOk_l, Mi.mulOk_r, Mi.dct_r, Mi.dcO_d, Mi.dcO_l, Mi.dcW_d, Mi.sortD_r, Mi.sortDO_ev, Mi.mLK_ev, Mi.minD_r, Mi.minDO_ev, Mi.bm0_ev, Mi.bm0O_ev, Mi.pop_r, Mi.popO_ev, Mi.dinO_i, Mi.dinO_n, Mi.dgO_s, Mi.dgetO_ev, Mi.key_i, Mi.key_s, Mi.put_r, Mi.putO_d, Mi.dpop_ev, Mi.dpO_ev, Mi.dpop_r, Mi.dnew_ev, Mi.lr2_ev, Mi.lr1_ev, Mi.lrF_ev, Mi.step_ev, Mi.stepO_ev, Mi.step_1, Mi.step_m, List.getElem?_set_self', List.getElem?_set_ne, List.getElem?_append_left, List.getElem?_append_right, List.set_append_left, List.set_append_right, List.length_set, List.length_append, List.append_assoc, Nat.add_sub_cancel_left, Nat.sub_self, Function.const_apply, Option.map_some, Option.map_eq_map, Option.bind_some, Nat.add_zero, Nat.zero_add, List.set_set, enum_ev, enumF_l, zip_ev, zipF_l, disp_ev, dispI_ev, mDget2_ev, g2M_ev, in_s2, in_s5, Bool.or_true, Bool.true_or, Bool.or_false, Bool.false_or])
local macro_rules | `(tactic| walk_at "gos") => `(tactic| simp (disch := (first | assumption | omega | (simp only [List.length_append, List.length_cons, List.length_nil, List.length_map, List.length_take, List.length_drop, List.length_set, List.length_singleton, List.length_dropLast, List.length_reverse, List.length_range]; omega) | exact Option.some_ne_none _ | decide)) only [Mi.bind_ok, Mi.bind_exc, Mi.bind_bad, Mi.bindS_ok, Mi.bindS_exc, Mi.seq_nx, Mi.seq_rt, Mi.seq_exc, Mi.seq_ct, Mi.endw_nx, Mi.endw_rt, Mi.endw_exc, Mi.endw_ct, Mi.endF_nx, Mi.endF_rt, Mi.endF_exc, Mi.wipe_nil, Mi.wipe_cons, Mi.sB_ev, Mi.mB_ev, Mi.sSeq_ev, Mi.sEndW_ev, Mi.sNil_ev, Mi.sExp_ev, Mi.sRet_ev, Mi.sRetN_ev, Mi.sIf_ev, Mi.sAsg_ev, Mi.gN_ev, Mi.gT_ev, Mi.gsCons_ev, Mi.gsNil_ev, Mi.sRaise_ev, Mi.sCont_ev, Mi.runF_ev, Mi.mV_ev, Mi.mC_ev, Mi.m1_ev, Mi.m2_ev, Mi.mNil_ev, Mi.mCons_ev, Mi.mL_ev, Mi.mT_ev, Mi.toB_bl, Mi.mNotT_ev, Mi.mAndT_ev, Mi.mOrT_ev, Mi.mIte_ev, Mi.mAnd_ev, Mi.mOr_ev, Mi.mNot_ev, Mi.mChain_ev, Mi.mCall_ev, Mi.callF_ev, Mi.mTold_ev, Mi.told_okR, Mi.told_excR, Mi.sFor_ev, Mi.mIt_ev, Mi.it_lst, Mi.it_tup, Mi.it_str, Mi.mRng1_ev, Mi.mRng2_ev, Mi.rng1_ev, Mi.rng2_ev, Mi.mPart_ev, Mi.mNoPart_ev, Mi.mSl_ev, Mi.sl_lst, Mi.sl_tup, Mi.sl_str, Mi.mLc_ev, Mi.mJoin_ev, Mi.seq_lst, Mi.seq_frz, Mi.row_tup, Mi.row_lst, Mi.add_int, Mi.add_str, Mi.add_lst, Mi.add_tup, Mi.sub_int, Mi.mul_int, Mi.fdiv_int, Mi.mod_int, Mi.neg_int, Mi.pow_int, Mi.gSub_ev, Mi.at0, Mi.at1, Mi.at2, Mi.at3, Int.reduceToNat, Int.reducePow, Mi.lt_int, Mi.le_int, Mi.gt_int, Mi.ge_int, Mi.eq_int, Mi.ne_int, Mi.eq_str, Mi.ne_str, Mi.isN_ev, Mi.notN_ev, Mi.D.isN, Mi.len_str, Mi.len_lst, Mi.len_frz, Mi.len_tup, Mi.min_int, Mi.max_int, Mi.int_int, Mi.int_bl, Mi.tup_ev, Mi.lst_ev, Mi.lstO_ev, Mi.ix_str, Mi.tuple_tup, Mi.tuple_lst, Mi.isi_non, Mi.isi2_non, Mi.isi_bl, Mi.isi2_bl, Mi.isi_int, Mi.isi2_int, Mi.isi_str, Mi.isi2_str, Mi.isi_tup, Mi.isi2_tup, Mi.isi_lst, Mi.isi2_lst, Mi.isi_frz, Mi.isi2_frz, Mi.isiB, Mi.cB_True, Mi.cB_False, List.map_cons, List.map_nil, List.cons_append, List.nil_append, List.getElem?_cons_zero, List.getElem?_cons_succ, List.getElem?_nil, List.set_cons_zero, List.set_cons_succ, List.set_nil, List.length_cons, List.length_nil, List.replicate_succ, List.replicate_zero, Nat.reduceAdd, Nat.reduceSub, Nat.reduceLT, Nat.reduceLeDiff, Nat.reduceEqDiff, reduceIte, Bool.not_true, Bool.not_false, Bool.false_eq_true, Bool.true_and, Bool.false_and, Bool.and_true, Bool.and_false, beq_self_eq_true, String.reduceBEq, Bool.or_false, Bool.or_true, Bool.false_or, Bool.true_or, Int.reduceLT, Int.reduceLE, Int.reduceNeg, Int.reduceEq, Option.isSome_some, Option.isSome_none, Nat.reduceMul, true_and, and_true, List.flatten_cons, List.flatten_nil, List.append_nil, and_self, Mi.lsO_l, Mi.lst_r, Mi.lst_l, Mi.seq_r, Mi.row_r, Mi.row_frz, Mi.len_r, Mi.lenO_l, Mi.lenO_d, Mi.app_r, Mi.appO_l, Mi.addL_ev, Mi.add_r1, Mi.add_r2, Mi.addO_r, Mi.addLO_ev, Mi.pk_some, Mi.ixP_lst, Mi.ixP_tup, Mi.ixP_frz, Mi.ixL_ev, Mi.sl_r, Mi.slL_ev, Mi.it_r, Mi.itO_l, Mi.it_frz, Mi.tuple_r, Mi.tupL_ev, Mi.list_r, Mi.lstL_ev, Mi.listO_r, Mi.lstOL_ev, Mi.sum_r, Mi.all_r, Mi.any_r, Mi.sort_r, Mi.sumL_ev, Mi.allL_ev, Mi.anyL_ev, Mi.sortL_ev, Mi.fld_r, Mi.set_r, Mi.meth_r, Mi.nonK_ev, Mi.make_r, Mi.bm_ev, Mi.bmO_ev, Mi.mMeth_ev, Mi.sFld_ev, Mi.ite_t, Mi.ite_f, Mi.cB_t, Mi.cB_f, Mi.mulOk_l, Mi.mulOk_r, Mi.dct_r, Mi.dcO_d, Mi.dcO_l, Mi.dcW_d, Mi.sortD_r, Mi.sortDO_ev, Mi.mLK_ev, Mi.minD_r, Mi.minDO_ev, Mi.bm0_ev, Mi.bm0O_ev, Mi.pop_r, Mi.popO_ev, Mi.dinO_i, Mi.dinO_n, Mi.dgO_s, Mi.dgetO_ev, Mi.key_i, Mi.key_s, Mi.put_r, Mi.putO_d, Mi.dpop_ev, Mi.dpO_ev, Mi.dpop_r, Mi.dnew_ev, Mi.lr2_ev, Mi.lr1_ev, Mi.lrF_ev, Mi.step_ev, Mi.stepO_ev, Mi.step_1, Mi.step_m, List.getElem?_set_self', List.getElem?_set_ne, List.getElem?_append_left, List.getElem?_append_right, List.set_append_left, List.set_append_right, List.length_set, List.length_append, List.append_assoc, Nat.add_sub_cancel_left, Nat.sub_self, Function.const_apply, Option.map_some, Option.map_eq_map, Option.bind_some, Nat.add_zero, Nat.zero_add, List.set_set, enum_ev, enumF_l, zip_ev, zipF_l, disp_ev, dispI_ev, mDget2_ev, g2M_ev, in_s2, in_s5, Bool.or_true, Bool.true_or, Bool.or_false, Bool.false_or, *])
theorem e_three (n : Int) (own : Own) : F_three [.int n] own = .ok (.lst ((th n).map D.int)) own := by
  unfold F_three m_three
  walk_at "go"
  rfl
theorem e_rest_l (own : Own) (z0 z1 : Option D) : ∀ (ps : List (Nat × Int)) (acc : List Int), (∀ p ∈ ps, p.1 < 4) → acc.length + 4 * ps.length ≤ 900000 → sLoop (gT 2 (gsCons (gN 3) (gsCons (gN 4) gsNil))) b_rest_of_1 [] (ps.map tD4) [z0, z1, some (.lst (acc.map D.int)), none, none] own = .nx [z0, z1, some (.lst ((acc ++ ps.flatMap fun p => (p.1 : Int) :: th p.2).map D.int)), none, none] own
  | [], acc, _, _ => by rw [List.map_nil, loopg_nil held_nil]; simp
  | p :: ps, acc, hp, hl => by
    rw [List.length_cons] at hl
    obtain ⟨t1, t2, t3, t4⟩ := tn_mem (hp p List.mem_cons_self)
    rw [List.map_cons]
    refine (loopg_cons held_nil (e1 := [z0, z1, some (.lst (acc.map D.int)), some (.str (tn p.1)), some (.int p.2)]) (o1 := own) (e2 := [z0, z1, some (.lst ((acc ++ ((p.1 : Int) :: th p.2)).map D.int)), none, none]) (o2 := own) ?_ ?_).trans ?_
    · unfold tD4
      walk_at "go"
    · unfold b_rest_of_1
      walk_at "go"
      rw [tidx_s t2]
      walk_at "go"
      rw [e_three]
      unfold th
      walk_at "go"
      simp
    · rw [e_rest_l own z0 z1 ps _ (fun q hq => hp q (List.mem_cons_of_mem _ hq)) (by simp [th]; omega)]
      simp
theorem e_rest (s : Sh) (w : s.wf) (own : Own) : F_rest_of [s.d] own = .ok (.lst (s.rest.map D.int)) own := by
  unfold F_rest_of m_rest_of
  cases s with
  | piece s t l =>
    have w : t.length ≤ 100000 := w
    unfold Sh.d
    walk_at "go"
    rw [e_codes_of t own (by omega)]
    walk_at "go"
    simp [Sh.rest]
  | heads s b l =>
    unfold Sh.d
    walk_at "go"
    rfl
  | rank s a w' =>
    unfold Sh.d
    walk_at "go"
    rw [e_three]
    unfold th
    walk_at "go"
    rfl
  | cut s c =>
    unfold Sh.d
    walk_at "go"
    rfl
  | terms ps =>
    have w1 : ps.length ≤ 100000 := w.1
    unfold Sh.d l_rest_of_1
    walk_at "go"
    have := e_rest_l own (some (.tup [.str "terms", .tup (ps.map tD4)])) (some (.str "terms")) ps [] w.2 (by simp; omega)
    rw [List.nil_append, List.map_nil] at this
    rw [this]
    walk_at "go"
    rfl
  | heard =>
    unfold Sh.d
    walk_at "go"
    rfl
  | knock n =>
    unfold Sh.d
    walk_at "go"
    rw [e_three]
    walk_at "go"
    rfl
  | knocked n =>
    unfold Sh.d
    walk_at "go"
    rw [e_three]
    walk_at "go"
    rfl
  | last s c =>
    unfold Sh.d
    walk_at "go"
    rw [e_three]
    unfold th
    walk_at "go"
    rfl
  | room s n =>
    unfold Sh.d
    walk_at "go"
    rw [e_three]
    walk_at "go"
    rfl
/-! ### the bytes of a sheet -/
theorem dget2_d {own : Own} {h : Nat} {kvs : List (L2.Key × D)} {z : Str} {x : D} (e : own[h]? = some (.dct kvs)) : dget2F (.ref h) (.str z) x own = .ok ((valD kvs (.inr z)).getD x) own := by
  unfold dget2F
  rw [dct_r, e]
  rfl
theorem din_d {own : Own} {h : Nat} {kvs : List (L2.Key × D)} {z : Str} (e : own[h]? = some (.dct kvs)) : dinF (.str z) (.ref h) own = .ok (.bl (valD kvs (.inr z)).isSome) own := by
  unfold dinF
  rw [dct_r, e]
  rfl
abbrev mkD : List (L2.Key × D) := [(.inr "heard", .str "terms"), (.inr "knocked", .str "knock")]
theorem e_kind_w (own : Own) (wd kd : Str) (j : Nat) (b : Bool) (h1 : (valD mkD (.inr wd)).getD (.str wd) = D.str kd) (h2 : l_KINDS.findIdx? (fun y => decide (y = kd)) = some j) (h3 : (valD mkD (.inr wd)).isSome = b) : F_kind_of [.str wd] own = .ok (.tup [.int (j : Nat), .bl b]) own := by
  unfold F_kind_of runP m_kind_of
  walk_at "go"
  have hd : dispF own.length [Str.ofString "heard", Str.ofString "knocked"] [.str "terms", .str "knock"] (own ++ [.dct []]) = .ok (.ref own.length) (own ++ [.dct mkD]) := by
    unfold dispF
    rw [List.getElem?_append_right (Nat.le_refl _), Nat.sub_self]
    simp only [List.getElem?_cons_zero, List.length_cons, List.length_nil]
    rw [if_pos ⟨by trivial, by omega⟩, List.set_append_right _ _ (Nat.le_refl _), Nat.sub_self]
    rfl
  rw [hd]
  have hg := own_get own (.dct mkD)
  walk_at "go"
  rw [dget2_d hg, h1]
  walk_at "go"
  rw [tidx_s h2]
  walk_at "go"
  rw [din_d hg, h3]
  walk_at "go"
  rw [trP_ok0 (by simp) (by simp [D.lt, ltAll])]
theorem e_kind (s : Sh) (own : Own) : F_kind_of [.str s.word] own = .ok (.tup [.int s.kind, .bl (match s with | .heard => true | .knocked _ => true | _ => false)]) own := by
  cases s with
  | piece s t l => exact e_kind_w own "piece" "piece" 0 _ rfl (by decide) rfl
  | heads s t l => exact e_kind_w own "heads" "heads" 1 _ rfl (by decide) rfl
  | rank s t l => exact e_kind_w own "rank" "rank" 2 _ rfl (by decide) rfl
  | cut s t => exact e_kind_w own "cut" "cut" 3 _ rfl (by decide) rfl
  | terms s => exact e_kind_w own "terms" "terms" 4 _ rfl (by decide) rfl
  | heard => exact e_kind_w own "heard" "terms" 4 _ rfl (by decide) rfl
  | knock s => exact e_kind_w own "knock" "knock" 5 _ rfl (by decide) rfl
  | knocked s => exact e_kind_w own "knocked" "knock" 5 _ rfl (by decide) rfl
  | last s t => exact e_kind_w own "last" "last" 6 _ rfl (by decide) rfl
  | room s t => exact e_kind_w own "room" "room" 7 _ rfl (by decide) rfl
theorem e_written_no (s : Sh) (w : s.wf) (o : ¬ s.ok) (own : Own) : F_written_sheet [s.d] own = .exc 4 own := by
  unfold F_written_sheet m_written_sheet
  walk_at "go"
  rw [e_look s w, cB_f o]
  walk_at "go"
theorem e_written (s : Sh) (w : s.wf) (o : s.ok) (own : Own) : F_written_sheet [s.d] own = .ok (.lst (s.by.map D.int)) own := by
  have hl := e_look s w own
  have hr := e_rest s w own
  have hk := e_kind s own
  have rl := rest_len o w
  have by_ : s.by.map D.int = [.int ((s.rest.length : Int) / 256), .int ((s.rest.length : Int) % 256), .int s.kind, .int (bI s.mark)] ++ (th s.strand).map D.int ++ s.rest.map D.int := by
    unfold Sh.by Sh.hd
    simp
  rw [cB_t o] at hl
  rw [by_]
  unfold F_written_sheet m_written_sheet
  generalize hrest : s.rest = rs at *
  cases s <;> simp only [Sh.d, Sh.word, Sh.kind, Sh.mark, Sh.strand] at hl hr hk ⊢ <;>
    (walk_at "go"; rw [hl]; walk_at "go"; rw [hk]; walk_at "go"; rw [hr]; walk_at "go"; rw [e_three]; unfold th; walk_at "go"; rw [List.length_map]; rfl)
end Lw

set_option Elab.async false
set_option linter.all false
set_option maxRecDepth 100000
set_option maxHeartbeats 4000000
namespace Lw
open PySem Mi
local macro_rules | `(tactic| walk_at "ev") => `(tactic| simp only [Mi.bind_ok, Mi.bind_exc, Mi.bind_bad, Mi.bindS_ok, Mi.bindS_exc, Mi.seq_nx, Mi.seq_rt, Mi.seq_exc, Mi.seq_ct, Mi.endw_nx, Mi.endw_rt, Mi.endw_exc, Mi.endw_ct, Mi.endF_nx, Mi.endF_rt, Mi.endF_exc, Mi.wipe_nil, Mi.wipe_cons, Mi.sB_ev, Mi.mB_ev, Mi.sSeq_ev, Mi.sEndW_ev, Mi.sNil_ev, Mi.sExp_ev, Mi.sRet_ev, Mi.sRetN_ev, Mi.sIf_ev, Mi.sAsg_ev, Mi.gN_ev, Mi.gT_ev, Mi.gsCons_ev, Mi.gsNil_ev, Mi.sRaise_ev, Mi.sCont_ev, Mi.runF_ev, Mi.mV_ev, Mi.mC_ev, Mi.m1_ev, Mi.m2_ev, Mi.mNil_ev, Mi.mCons_ev, Mi.mL_ev, Mi.mT_ev, Mi.toB_bl, Mi.mNotT_ev, Mi.mAndT_ev, Mi.mOrT_ev, Mi.mIte_ev, Mi.mAnd_ev, Mi.mOr_ev, Mi.mNot_ev, Mi.mChain_ev, Mi.mCall_ev, Mi.callF_ev, Mi.mTold_ev, Mi.told_okR, Mi.told_excR, Mi.sFor_ev, Mi.mIt_ev, Mi.it_lst, Mi.it_tup, Mi.it_str, Mi.mRng1_ev, Mi.mRng2_ev, Mi.rng1_ev, Mi.rng2_ev, Mi.mPart_ev, Mi.mNoPart_ev, Mi.mSl_ev, Mi.sl_lst, Mi.sl_tup, Mi.sl_str, Mi.mLc_ev, Mi.mBm_ev, Mi.mJoin_ev, Mi.seq_lst, Mi.seq_frz, Mi.row_tup, Mi.row_lst,
  Mi.add_int, Mi.add_str, Mi.add_lst, Mi.add_tup, Mi.sub_int, Mi.mul_int, Mi.fdiv_int, Mi.mod_int, Mi.neg_int, Mi.pow_int, Mi.gSub_ev, Mi.at0, Mi.at1, Mi.at2, Mi.at3, Int.reduceToNat, Int.reducePow, Mi.lt_int, Mi.le_int, Mi.gt_int, Mi.ge_int, Mi.eq_int, Mi.ne_int, Mi.eq_str, Mi.ne_str, Mi.isN_ev, Mi.notN_ev, Mi.D.isN, Mi.len_str, Mi.len_lst, Mi.len_frz, Mi.len_tup, Mi.min_int, Mi.max_int, Mi.int_int, Mi.int_bl, Mi.tup_ev, Mi.lst_ev, Mi.lstO_ev, Mi.ix_lst, Mi.ix_tup, Mi.ix_frz, Mi.ix_str, Mi.tuple_tup, Mi.tuple_lst, Mi.list_ev, Mi.listO_ev, Mi.isi_non, Mi.isi2_non, Mi.isi_bl, Mi.isi2_bl, Mi.isi_int, Mi.isi2_int, Mi.isi_str, Mi.isi2_str, Mi.isi_tup, Mi.isi2_tup, Mi.isi_lst, Mi.isi2_lst, Mi.isi_frz, Mi.isi2_frz, Mi.isiB, Mi.cB_True, Mi.cB_False,
  List.map_cons, List.map_nil, List.cons_append, List.nil_append, List.getElem?_cons_zero, List.getElem?_cons_succ, List.getElem?_nil, List.set_cons_zero, List.set_cons_succ, List.set_nil, List.length_cons, List.length_nil, List.replicate_succ, List.replicate_zero, Nat.reduceAdd, Nat.reduceSub, Nat.reduceLT, Nat.reduceLeDiff, Nat.reduceEqDiff, reduceIte, Bool.not_true, Bool.not_false, Bool.false_eq_true, Bool.true_and, Bool.false_and, Bool.and_true, Bool.and_false, beq_self_eq_true, String.reduceBEq, Bool.or_false, Bool.or_true, Bool.false_or, Bool.true_or, Int.reduceLT, Int.reduceLE, Int.reduceNeg, Int.reduceEq, Option.isSome_some, Option.isSome_none, Nat.reduceMul, true_and, and_true, List.flatten_cons, List.flatten_nil, List.append_nil, and_self])
local macro_rules | `(tactic| walk_at "go") => `(tactic| simp (disch := (first | assumption | omega | (simp only [List.length_append, List.length_cons, List.length_nil, List.length_map, List.length_take, List.length_drop, List.length_set, List.length_singleton, List.length_dropLast, List.length_reverse, List.length_range]; omega) | exact Option.some_ne_none _ | decide)) only [Mi.bind_ok, Mi.bind_exc, Mi.bind_bad, Mi.bindS_ok, Mi.bindS_exc, Mi.seq_nx, Mi.seq_rt, Mi.seq_exc, Mi.seq_ct, Mi.endw_nx, Mi.endw_rt, Mi.endw_exc, Mi.endw_ct, Mi.endF_nx, Mi.endF_rt, Mi.endF_exc, Mi.wipe_nil, Mi.wipe_cons, Mi.sB_ev, Mi.mB_ev, Mi.sSeq_ev, Mi.sEndW_ev, Mi.sNil_ev, Mi.sExp_ev, Mi.sRet_ev, Mi.sRetN_ev, Mi.sIf_ev, Mi.sAsg_ev, Mi.gN_ev, Mi.gT_ev, Mi.gsCons_ev, Mi.gsNil_ev, Mi.sRaise_ev, Mi.sCont_ev, Mi.runF_ev, Mi.mV_ev, Mi.mC_ev, Mi.m1_ev, Mi.m2_ev, Mi.mNil_ev, Mi.mCons_ev, Mi.mL_ev, Mi.mT_ev, Mi.toB_bl, Mi.mNotT_ev, Mi.mAndT_ev, Mi.mOrT_ev, Mi.mIte_ev, Mi.mAnd_ev, Mi.mOr_ev, Mi.mNot_ev, Mi.mChain_ev, Mi.mCall_ev, Mi.callF_ev, Mi.mTold_ev, Mi.told_okR, Mi.told_excR, Mi.sFor_ev, Mi.mIt_ev, Mi.it_lst, Mi.it_tup, Mi.it_str, Mi.mRng1_ev, Mi.mRng2_ev, Mi.rng1_ev, Mi.rng2_ev, Mi.mPart_ev, Mi.mNoPart_ev, Mi.mSl_ev, Mi.sl_lst, Mi.sl_tup, Mi.sl_str, Mi.mLc_ev, Mi.mJoin_ev, Mi.seq_lst, Mi.seq_frz, Mi.row_tup, Mi.row_lst, Mi.add_int, Mi.add_str, Mi.add_lst, Mi.add_tup, Mi.sub_int, Mi.mul_int, Mi.fdiv_int, Mi.mod_int, Mi.neg_int, Mi.pow_int, Mi.gSub_ev, Mi.at0, Mi.at1, Mi.at2, Mi.at3, Int.reduceToNat, Int.reducePow, Mi.lt_int, Mi.le_int, Mi.gt_int, Mi.ge_int, Mi.eq_int, Mi.ne_int, Mi.eq_str, Mi.ne_str, Mi.isN_ev, Mi.notN_ev, Mi.D.isN, Mi.len_str, Mi.len_lst, Mi.len_frz, Mi.len_tup, Mi.min_int, Mi.max_int, Mi.int_int, Mi.int_bl, Mi.tup_ev, Mi.lst_ev, Mi.lstO_ev, Mi.ix_str, Mi.tuple_tup, Mi.tuple_lst, Mi.isi_non, Mi.isi2_non, Mi.isi_bl, Mi.isi2_bl, Mi.isi_int, Mi.isi2_int, Mi.isi_str, Mi.isi2_str, Mi.isi_tup, Mi.isi2_tup, Mi.isi_lst, Mi.isi2_lst, Mi.isi_frz, Mi.isi2_frz, Mi.isiB, Mi.cB_True, Mi.cB_False, List.map_cons, List.map_nil, List.cons_append, List.nil_append, List.getElem?_cons_zero, List.getElem?_cons_succ, List.getElem?_nil, List.set_cons_zero, List.set_cons_succ, List.set_nil, List.length_cons, List.length_nil, List.replicate_succ, List.replicate_zero, Nat.reduceAdd, Nat.reduceSub, Nat.reduceLT, Nat.reduceLeDiff, Nat.reduceEqDiff, reduceIte, Bool.not_true, Bool.not_false, Bool.false_eq_true, Bool.true_and, Bool.false_and, Bool.and_true, Bool.and_false, beq_self_eq_true, String.reduceBEq, Bool.or_false, Bool.or_true, Bool.false_or, Bool.true_or, Int.reduceLT, Int.reduceLE, Int.reduceNeg, Int.reduceEq, Option.isSome_some, Option.isSome_none, Nat.reduceMul, true_and, and_true, List.flatten_cons, List.flatten_nil, List.append_nil, and_self, Mi.lsO_l, Mi.lst_r, Mi.lst_l, Mi.seq_r, Mi.row_r, Mi.row_frz, Mi.len_r, Mi.lenO_l, Mi.lenO_d, Mi.app_r, Mi.appO_l, Mi.addL_ev, Mi.add_r1, Mi.add_r2, Mi.addO_r, Mi.addLO_ev, Mi.pk_some, Mi.ixP_lst, Mi.ixP_tup, Mi.ixP_frz, Mi.ixL_ev, Mi.sl_r, Mi.slL_ev, Mi.it_r, Mi.itO_l, Mi.it_frz, Mi.tuple_r, Mi.tupL_ev, Mi.list_r, Mi.lstL_ev, Mi.listO_r, Mi.lstOL_ev, Mi.sum_r, Mi.all_r, Mi.any_r, Mi.sort_r, Mi.sumL_ev, Mi.allL_ev, Mi.anyL_ev, Mi.sortL_ev, Mi.fld_r, Mi.set_r, Mi.meth_r, Mi.nonK_ev, Mi.make_r, Mi.bm_ev, Mi.bmO_ev, Mi.mMeth_ev, Mi.sFld_ev, Mi.ite_t, Mi.ite_f, Mi.cB_t, Mi.cB_f, Mi.mulOk_l, Mi.mulOk_r, Mi.dct_r, Mi.dcO_d, Mi.dcO_l, Mi.dcW_d, Mi.sortD_r, Mi.sortDO_ev, Mi.mLK_ev, Mi.minD_r, Mi.minDO_ev, Mi.bm0_ev, Mi.bm0O_ev, Mi.pop_r, Mi.popO_ev, Mi.dinO_i, Mi.dinO_n, Mi.dgO_s, Mi.dgetO_ev, Mi.key_i, Mi.key_s, Mi.put_r, Mi.putO_d, Mi.dpop_ev, Mi.dpO_ev, Mi.dpop_r, Mi.dnew_ev, Mi.lr2_ev, Mi.lr1_ev, Mi.lrF_ev, Mi.step_ev, Mi.stepO_ev, Mi.step_1, Mi.step_m, List.getElem?_set_self', List.getElem?_set_ne, List.getElem?_append_left, List.getElem?_append_right, List.set_append_left, List.set_append_right, List.length_set, List.length_append, List.append_assoc, Nat.add_sub_cancel_left, Nat.sub_self, Function.const_apply, Option.map_some, Option.map_eq_map, Option.bind_some, Nat.add_zero, Nat.zero_add, List.set_set])
local macro_rules | `(tactic| walk_at "gos") => `(tactic| simp (disch := (first | assumption | omega | (simp only [List.length_append, List.length_cons, List.length_nil, List.length_map, List.length_take, List.length_drop, List.length_set, List.length_singleton, List.length_dropLast, List.length_reverse, List.length_range]; omega) | exact Option.some_ne_none _ | decide)) only [Mi.bind_ok, Mi.bind_exc, Mi.bind_bad, Mi.bindS_ok, Mi.bindS_exc, Mi.seq_nx, Mi.seq_rt, Mi.seq_exc, Mi.seq_ct, Mi.endw_nx, Mi.endw_rt, Mi.endw_exc, Mi.endw_ct, Mi.endF_nx, Mi.endF_rt, Mi.endF_exc, Mi.wipe_nil, Mi.wipe_cons, Mi.sB_ev, Mi.mB_ev, Mi.sSeq_ev, Mi.sEndW_ev, Mi.sNil_ev, Mi.sExp_ev, Mi.sRet_ev, Mi.sRetN_ev, Mi.sIf_ev, Mi.sAsg_ev, Mi.gN_ev, Mi.gT_ev, Mi.gsCons_ev, Mi.gsNil_ev, Mi.sRaise_ev, Mi.sCont_ev, Mi.runF_ev, Mi.mV_ev, Mi.mC_ev, Mi.m1_ev, Mi.m2_ev, Mi.mNil_ev, Mi.mCons_ev, Mi.mL_ev, Mi.mT_ev, Mi.toB_bl, Mi.mNotT_ev, Mi.mAndT_ev, Mi.mOrT_ev, Mi.mIte_ev, Mi.mAnd_ev, Mi.mOr_ev, Mi.mNot_ev, Mi.mChain_ev, Mi.mCall_ev, Mi.callF_ev, Mi.mTold_ev, Mi.told_okR, Mi.told_excR, Mi.sFor_ev, Mi.mIt_ev, Mi.it_lst, Mi.it_tup, Mi.it_str, Mi.mRng1_ev, Mi.mRng2_ev, Mi.rng1_ev, Mi.rng2_ev, Mi.mPart_ev, Mi.mNoPart_ev, Mi.mSl_ev, Mi.sl_lst, Mi.sl_tup, Mi.sl_str, Mi.mLc_ev, Mi.mJoin_ev, Mi.seq_lst, Mi.seq_frz, Mi.row_tup, Mi.row_lst, Mi.add_int, Mi.add_str, Mi.add_lst, Mi.add_tup, Mi.sub_int, Mi.mul_int, Mi.fdiv_int, Mi.mod_int, Mi.neg_int, Mi.pow_int, Mi.gSub_ev, Mi.at0, Mi.at1, Mi.at2, Mi.at3, Int.reduceToNat, Int.reducePow, Mi.lt_int, Mi.le_int, Mi.gt_int, Mi.ge_int, Mi.eq_int, Mi.ne_int, Mi.eq_str, Mi.ne_str, Mi.isN_ev, Mi.notN_ev, Mi.D.isN, Mi.len_str, Mi.len_lst, Mi.len_frz, Mi.len_tup, Mi.min_int, Mi.max_int, Mi.int_int, Mi.int_bl, Mi.tup_ev, Mi.lst_ev, Mi.lstO_ev, Mi.ix_str, Mi.tuple_tup, Mi.tuple_lst, Mi.isi_non, Mi.isi2_non, Mi.isi_bl, Mi.isi2_bl, Mi.isi_int, Mi.isi2_int, Mi.isi_str, Mi.isi2_str, Mi.isi_tup, Mi.isi2_tup, Mi.isi_lst, Mi.isi2_lst, Mi.isi_frz, Mi.isi2_frz, Mi.isiB, Mi.cB_True, Mi.cB_False, List.map_cons, List.map_nil, List.cons_append, List.nil_append, List.getElem?_cons_zero, List.getElem?_cons_succ, List.getElem?_nil, List.set_cons_zero, List.set_cons_succ, List.set_nil, List.length_cons, List.length_nil, List.replicate_succ, List.replicate_zero, Nat.reduceAdd, Nat.reduceSub, Nat.reduceLT, Nat.reduceLeDiff, Nat.reduceEqDiff, reduceIte, Bool.not_true, Bool.not_false, Bool.false_eq_true, Bool.true_and, Bool.false_and, Bool.and_true, Bool.and_false, beq_self_eq_true, String.reduceBEq, Bool.or_false, Bool.or_true, Bool.false_or, Bool.true_or, Int.reduceLT, Int.reduceLE, Int.reduceNeg, Int.reduceEq, Option.isSome_some, Option.isSome_none, Nat.reduceMul, true_and, and_true, List.flatten_cons, List.flatten_nil, List.append_nil, and_self, Mi.lsO_l, Mi.lst_r, Mi.lst_l, Mi.seq_r, Mi.row_r, Mi.row_frz, Mi.len_r, Mi.lenO_l, Mi.lenO_d, Mi.app_r, Mi.appO_l, Mi.addL_ev, Mi.add_r1, Mi.add_r2, Mi.addO_r, Mi.addLO_ev, Mi.pk_some, Mi.ixP_lst, Mi.ixP_tup, Mi.ixP_frz, Mi.ixL_ev, Mi.sl_r, Mi.slL_ev, Mi.it_r, Mi.itO_l, Mi.it_frz, Mi.tuple_r, Mi.tupL_ev, Mi.list_r, Mi.lstL_ev, Mi.listO_r, Mi.lstOL_ev, Mi.sum_r, Mi.all_r, Mi.any_r, Mi.sort_r, Mi.sumL_ev, Mi.allL_ev, Mi.anyL_ev, Mi.sortL_ev, Mi.fld_r, Mi.set_r, Mi.meth_r, Mi.nonK_ev, Mi.make_r, Mi.bm_ev, Mi.bmO_ev, Mi.mMeth_ev, Mi.sFld_ev, Mi.ite_t, Mi.ite_f, Mi.cB_t, Mi.cB_f, Mi.mulOk_l, Mi.mulOk_r, Mi.dct_r, Mi.dcO_d, Mi.dcO_l, Mi.dcW_d, Mi.sortD_r, Mi.sortDO_ev, Mi.mLK_ev, Mi.minD_r, Mi.minDO_ev, Mi.bm0_ev, Mi.bm0O_ev, Mi.pop_r, Mi.popO_ev, Mi.dinO_i, Mi.dinO_n, Mi.dgO_s, Mi.dgetO_ev, Mi.key_i, Mi.key_s, Mi.put_r, Mi.putO_d, Mi.dpop_ev, Mi.dpO_ev, Mi.dpop_r, Mi.dnew_ev, Mi.lr2_ev, Mi.lr1_ev, Mi.lrF_ev, Mi.step_ev, Mi.stepO_ev, Mi.step_1, Mi.step_m, List.getElem?_set_self', List.getElem?_set_ne, List.getElem?_append_left, List.getElem?_append_right, List.set_append_left, List.set_append_right, List.length_set, List.length_append, List.append_assoc, Nat.add_sub_cancel_left, Nat.sub_self, Function.const_apply, Option.map_some, Option.map_eq_map, Option.bind_some, Nat.add_zero, Nat.zero_add, List.set_set, *])
/-! ### the law's own helpers -/
theorem e_drawn (c k : Int) (own : Own) (h0 : -1000000 < k) (h1 : k < 1000000) : F_law_drawn [.int c, .int k] own = .ok (.int (Ws.drawn c k)) own := by
  unfold F_law_drawn
  dsimp only
  rw [cB_t ⟨h0, h1⟩]
  rfl
theorem eqF_frz {own : Own} (ns : List Int) : eqF (.frz (ns.map D.int)) (.lst []) own = .ok (.bl (cB (ns = []))) own := by
  unfold eqF toPyT
  simp only [sclEq, toPy, toPy_ints, Option.map_some, toPyAll]
  rw [if_pos ⟨Ws.shp_ints ns, by decide⟩, show PyData.list [] = PyData.list (([] : List Int).map PyData.int) from rfl, Ws.eqv_ints, cB_eq]
theorem e_cell (ns : List Int) (k : Nat) (own : Own) (hn : ns.length ≤ 63) (hk : k ≤ 1000) : ∃ z : Int, F_law_cell [.frz (ns.map D.int), .int k] own = .ok (.int z) own := by
  unfold F_law_cell m_law_cell
  walk_at "ev"
  rw [eqF_frz]
  walk_at "ev"
  by_cases h : ns = []
  · rw [cB_t h]
    walk_at "ev"
    rw [mulOk_r (by decide)]
    walk_at "ev"
    exact ⟨_, rfl⟩
  · rw [cB_f h]
    have hl : 0 < ns.length := List.length_pos_iff.mpr h
    walk_at "ev"
    simp only [List.length_map]
    rw [cB_t (show (0 : Int) < (ns.length : Int) by omega)]
    walk_at "ev"
    obtain ⟨i, hi, hi2⟩ : ∃ i : Nat, (k : Int) % (ns.length : Int) = i ∧ i < ns.length := ⟨((k : Int) % (ns.length : Int)).toNat, by have := Int.emod_nonneg (k : Int) (b := (ns.length : Int)) (by omega); omega, by have := Int.emod_nonneg (k : Int) (b := (ns.length : Int)) (by omega); have := Int.emod_lt_of_pos (k : Int) (b := (ns.length : Int)) (by omega); omega⟩
    rw [hi, atI_nat, List.getElem?_map, List.getElem?_eq_getElem hi2]
    simp only [Option.map_some]
    walk_at "ev"
    rw [cB_t (show (0 : Int) < (ns.length : Int) ∧ (ns.length : Int) < 18446744073709551616 by omega)]
    walk_at "ev"
    rw [mulOk_r (by decide)]
    walk_at "ev"
    exact ⟨_, rfl⟩
theorem pickD (ls : List Int) (i : Int) (h0 : 0 ≤ i) (h1 : i < ls.length) : ∃ z ∈ ls, L2.atI (ls.map D.int) i = some (.int z) := by
  have hlt : i.toNat < ls.length := by omega
  exact ⟨ls[i.toNat], List.getElem_mem hlt, Ws.atI_get h0 (by rw [List.getElem?_map, List.getElem?_eq_getElem hlt]; rfl)⟩
def lsg : List Nat := (Str.ofString " !#$&'()*+,-./0123456789:;<=>?@ABCDEFGHIJKLMNOPQRSTUVWXYZ[\\]^_`abcdefghijklmnopqrstuvwxyz{|}~").cps.toList
theorem lsg_in : ∀ c ∈ lsg, c ∈ sg := by decide +kernel
theorem lsg_len : lsg.length = 93 := by decide +kernel
theorem e_law_text (m : Int) (most : Nat) (own : Own) (h0 : 0 ≤ m) (h1 : most ≤ 1000) : ∃ cs : List Nat, (∀ c ∈ cs, c ∈ sg) ∧ cs.length ≤ most ∧ F_law_text [.int m, .int most] own = .ok (.str ⟨cs.toArray⟩) own := by
  have hs : F_law_signs [] own = .ok (.str (Str.ofString " !#$&'()*+,-./0123456789:;<=>?@ABCDEFGHIJKLMNOPQRSTUVWXYZ[\\]^_`abcdefghijklmnopqrstuvwxyz{|}~")) own := by
    unfold F_law_signs m_law_signs
    walk_at "ev"
  have hlen : (Str.ofString " !#$&'()*+,-./0123456789:;<=>?@ABCDEFGHIJKLMNOPQRSTUVWXYZ[\\]^_`abcdefghijklmnopqrstuvwxyz{|}~").length = 93 := by decide +kernel
  have hcp : (Str.ofString " !#$&'()*+,-./0123456789:;<=>?@ABCDEFGHIJKLMNOPQRSTUVWXYZ[\\]^_`abcdefghijklmnopqrstuvwxyz{|}~").cps.toList = lsg := rfl
  generalize Str.ofString " !#$&'()*+,-./0123456789:;<=>?@ABCDEFGHIJKLMNOPQRSTUVWXYZ[\\]^_`abcdefghijklmnopqrstuvwxyz{|}~" = S at *
  obtain ⟨n, hn, hn2⟩ : ∃ n : Nat, m % ((most : Int) + 1) = n ∧ n ≤ most := ⟨(m % ((most : Int) + 1)).toNat, by have := Int.emod_nonneg m (b := (most : Int) + 1) (by omega); omega, by have := Int.emod_lt_of_pos m (b := (most : Int) + 1) (by omega); have := Int.emod_nonneg m (b := (most : Int) + 1) (by omega); omega⟩
  refine ⟨(List.range n).map fun (i : Nat) => lsg.getD ((Ws.drawn m i) % 93).toNat 32, ?_, by simpa using hn2, ?_⟩
  · intro c hc
    obtain ⟨i, _, rfl⟩ := List.mem_map.mp hc
    have h2 := Int.emod_nonneg (Ws.drawn m i) (b := 93) (by decide)
    have h3 := Int.emod_lt_of_pos (Ws.drawn m i) (b := 93) (by decide)
    have hlt : ((Ws.drawn m i) % 93).toNat < lsg.length := by rw [lsg_len]; omega
    rw [List.getD_eq_getElem?_getD, List.getElem?_eq_getElem hlt]
    exact lsg_in _ (List.getElem_mem hlt)
  · unfold F_law_text m_law_text
    walk_at "ev"
    rw [hs]
    walk_at "ev"
    rw [cB_t (show (0 : Int) < (most : Int) + 1 by omega)]
    walk_at "ev"
    rw [hn, cB_t (show (-1000000000 : Int) ≤ (n : Int) ∧ (n : Int) < 1000000000 by omega)]
    walk_at "ev"
    rw [show rngL 0 (n : Int) = (List.range n).map fun (i : Nat) => D.int (0 + (i : Int)) by unfold rngL; rw [Int.sub_zero, Int.toNat_natCast]]
    rw [lcN (fun (i : Nat) => D.int (0 + (i : Int))) (fun (i : Nat) => .str ⟨#[lsg.getD ((Ws.drawn m i) % 93).toNat 32]⟩) (List.range n) held_nil (fun i hi => by
      have hi := List.mem_range.mp hi
      walk_at "ev"
      rw [Int.zero_add, e_drawn m i own (by omega) (by omega)]
      walk_at "ev"
      rw [hlen, show ((93 : Nat) : Int) = 93 from rfl]
      walk_at "ev"
      have h2 := Int.emod_nonneg (Ws.drawn m i) (b := 93) (by decide)
      have h3 := Int.emod_lt_of_pos (Ws.drawn m i) (b := 93) (by decide)
      have hlt : ((Ws.drawn m i) % 93).toNat < lsg.length := by rw [lsg_len]; omega
      rw [hlen, hcp, Ws.atI_get h2 (List.getElem?_eq_getElem hlt), List.getD_eq_getElem?_getD, List.getElem?_eq_getElem hlt]
      rfl) (by simp; omega)]
    walk_at "ev"
    have : ((List.range n).map fun (i : Nat) => D.str ⟨#[lsg.getD ((Ws.drawn m i) % 93).toNat 32]⟩) = (Ws.sgs ((List.range n).map fun (i : Nat) => lsg.getD ((Ws.drawn m i) % 93).toNat 32)).map D.str := by
      simp only [List.map_map]; rfl
    rw [this]
    simp only [joinF, row_lst, Option.bind_some, strsD_map]
    rw [if_pos]
    · rw [show Str.ofString "" = Str.empty from rfl, Ws.glued_sgs]
      walk_at "ev"
    · rw [Ws.sgs_len]
      show _ + _ * 0 ≤ 1000000
      simp
      omega
theorem cs_tx {cs : List Nat} (h : ∀ c ∈ cs, c ∈ sg) (hl : cs.length ≤ 1000) : isTx (.str ⟨cs.toArray⟩) 65535 = true := by
  show (cB _ && _) = true
  rw [show Str.length ⟨cs.toArray⟩ = cs.length from by simp [Str.length], cB_t (by omega), Bool.true_and, List.all_eq_true]
  intro x hx
  rw [List.toList_toArray] at hx
  exact decide_eq_true (h x hx)
local macro_rules | `(tactic| walk_at "go") => `(tactic| simp (disch := (first | assumption | omega | (simp only [List.length_append, List.length_cons, List.length_nil, List.length_map, List.length_take, List.length_drop, List.length_set, List.length_singleton, List.length_dropLast, List.length_reverse, List.length_range]; omega) | exact Option.some_ne_none _ | decide)) only [Mi.bind_ok, Mi.bind_exc, Mi.bind_bad, Mi.bindS_ok, Mi.bindS_exc, Mi.seq_nx, Mi.seq_rt, Mi.seq_exc, Mi.seq_ct, Mi.endw_nx, Mi.endw_rt, Mi.endw_exc, Mi.endw_ct, Mi.endF_nx, Mi.endF_rt, Mi.endF_exc, Mi.wipe_nil, Mi.wipe_cons, Mi.sB_ev, Mi.mB_ev, Mi.sSeq_ev, Mi.sEndW_ev, Mi.sNil_ev, Mi.sExp_ev, Mi.sRet_ev, Mi.sRetN_ev, Mi.sIf_ev, Mi.sAsg_ev, Mi.gN_ev, Mi.gT_ev, Mi.gsCons_ev, Mi.gsNil_ev, Mi.sRaise_ev, Mi.sCont_ev, Mi.runF_ev, Mi.mV_ev, Mi.mC_ev, Mi.m1_ev, Mi.m2_ev, Mi.mNil_ev, Mi.mCons_ev, Mi.mL_ev, Mi.mT_ev, Mi.toB_bl, Mi.mNotT_ev, Mi.mAndT_ev, Mi.mOrT_ev, Mi.mIte_ev, Mi.mAnd_ev, Mi.mOr_ev, Mi.mNot_ev, Mi.mChain_ev, Mi.mCall_ev, Mi.callF_ev, Mi.mTold_ev, Mi.told_okR, Mi.told_excR, Mi.sFor_ev, Mi.mIt_ev, Mi.it_lst, Mi.it_tup, Mi.it_str, Mi.mRng1_ev, Mi.mRng2_ev, Mi.rng1_ev, Mi.rng2_ev, Mi.mPart_ev, Mi.mNoPart_ev, Mi.mSl_ev, Mi.sl_lst, Mi.sl_tup, Mi.sl_str, Mi.mLc_ev, Mi.mJoin_ev, Mi.seq_lst, Mi.seq_frz, Mi.row_tup, Mi.row_lst, Mi.add_int, Mi.add_str, Mi.add_lst, Mi.add_tup, Mi.sub_int, Mi.mul_int, Mi.fdiv_int, Mi.mod_int, Mi.neg_int, Mi.pow_int, Mi.gSub_ev, Mi.at0, Mi.at1, Mi.at2, Mi.at3, Int.reduceToNat, Int.reducePow, Mi.lt_int, Mi.le_int, Mi.gt_int, Mi.ge_int, Mi.eq_int, Mi.ne_int, Mi.eq_str, Mi.ne_str, Mi.isN_ev, Mi.notN_ev, Mi.D.isN, Mi.len_str, Mi.len_lst, Mi.len_frz, Mi.len_tup, Mi.min_int, Mi.max_int, Mi.int_int, Mi.int_bl, Mi.tup_ev, Mi.lst_ev, Mi.lstO_ev, Mi.ix_str, Mi.tuple_tup, Mi.tuple_lst, Mi.isi_non, Mi.isi2_non, Mi.isi_bl, Mi.isi2_bl, Mi.isi_int, Mi.isi2_int, Mi.isi_str, Mi.isi2_str, Mi.isi_tup, Mi.isi2_tup, Mi.isi_lst, Mi.isi2_lst, Mi.isi_frz, Mi.isi2_frz, Mi.isiB, Mi.cB_True, Mi.cB_False, List.map_cons, List.map_nil, List.cons_append, List.nil_append, List.getElem?_cons_zero, List.getElem?_cons_succ, List.getElem?_nil, List.set_cons_zero, List.set_cons_succ, List.set_nil, List.length_cons, List.length_nil, List.replicate_succ, List.replicate_zero, Nat.reduceAdd, Nat.reduceSub, Nat.reduceLT, Nat.reduceLeDiff, Nat.reduceEqDiff, reduceIte, Bool.not_true, Bool.not_false, Bool.false_eq_true, Bool.true_and, Bool.false_and, Bool.and_true, Bool.and_false, beq_self_eq_true, String.reduceBEq, Bool.or_false, Bool.or_true, Bool.false_or, Bool.true_or, Int.reduceLT, Int.reduceLE, Int.reduceNeg, Int.reduceEq, Option.isSome_some, Option.isSome_none, Nat.reduceMul, true_and, and_true, List.flatten_cons, List.flatten_nil, List.append_nil, and_self, Mi.lsO_l, Mi.lst_r, Mi.lst_l, Mi.seq_r, Mi.row_r, Mi.row_frz, Mi.len_r, Mi.lenO_l, Mi.lenO_d, Mi.app_r, Mi.appO_l, Mi.addL_ev, Mi.add_r1, Mi.add_r2, Mi.addO_r, Mi.addLO_ev, Mi.pk_some, Mi.ixP_lst, Mi.ixP_tup, Mi.ixP_frz, Mi.ixL_ev, Mi.sl_r, Mi.slL_ev, Mi.it_r, Mi.itO_l, Mi.it_frz, Mi.tuple_r, Mi.tupL_ev, Mi.list_r, Mi.lstL_ev, Mi.listO_r, Mi.lstOL_ev, Mi.sum_r, Mi.all_r, Mi.any_r, Mi.sort_r, Mi.sumL_ev, Mi.allL_ev, Mi.anyL_ev, Mi.sortL_ev, Mi.fld_r, Mi.set_r, Mi.meth_r, Mi.nonK_ev, Mi.make_r, Mi.bm_ev, Mi.bmO_ev, Mi.mMeth_ev, Mi.sFld_ev, Mi.ite_t, Mi.ite_f, Mi.cB_t, Mi.cB_f, Mi.mulOk_l, Mi.mulOk_r, Mi.dct_r, Mi.dcO_d, Mi.dcO_l, Mi.dcW_d, Mi.sortD_r, Mi.sortDO_ev, Mi.mLK_ev, Mi.minD_r, Mi.minDO_ev, Mi.bm0_ev, Mi.bm0O_ev, Mi.pop_r, Mi.popO_ev, Mi.dinO_i, Mi.dinO_n, Mi.dgO_s, Mi.dgetO_ev, Mi.key_i, Mi.key_s, Mi.put_r, Mi.putO_d, Mi.dpop_ev, Mi.dpO_ev, Mi.dpop_r, Mi.dnew_ev, Mi.lr2_ev, Mi.lr1_ev, Mi.lrF_ev, Mi.step_ev, Mi.stepO_ev, Mi.step_1, Mi.step_m, List.getElem?_set_self', List.getElem?_set_ne, List.getElem?_append_left, List.getElem?_append_right, List.set_append_left, List.set_append_right, List.length_set, List.length_append, List.append_assoc, Nat.add_sub_cancel_left, Nat.sub_self, Function.const_apply, Option.map_some, Option.map_eq_map, Option.bind_some, Nat.add_zero, Nat.zero_add, List.set_set, enum_ev, enumF_l, zip_ev, zipF_l, disp_ev, dispI_ev, mDget2_ev, g2M_ev, in_s2, in_s5, Bool.or_true, Bool.true_or, Bool.or_false, Bool.false_or])
local macro_rules | `(tactic| walk_at "gos") => `(tactic| simp (disch := (first | assumption | omega | (simp only [List.length_append, List.length_cons, List.length_nil, List.length_map, List.length_take, List.length_drop, List.length_set, List.length_singleton, List.length_dropLast, List.length_reverse, List.length_range]; omega) | exact Option.some_ne_none _ | decide)) only [Mi.bind_ok, Mi.bind_exc, Mi.bind_bad, Mi.bindS_ok, Mi.bindS_exc, Mi.seq_nx, Mi.seq_rt, Mi.seq_exc, Mi.seq_ct, Mi.endw_nx, Mi.endw_rt, Mi.endw_exc, Mi.endw_ct, Mi.endF_nx, Mi.endF_rt, Mi.endF_exc, Mi.wipe_nil, Mi.wipe_cons, Mi.sB_ev, Mi.mB_ev, Mi.sSeq_ev, Mi.sEndW_ev, Mi.sNil_ev, Mi.sExp_ev, Mi.sRet_ev, Mi.sRetN_ev, Mi.sIf_ev, Mi.sAsg_ev, Mi.gN_ev, Mi.gT_ev, Mi.gsCons_ev, Mi.gsNil_ev, Mi.sRaise_ev, Mi.sCont_ev, Mi.runF_ev, Mi.mV_ev, Mi.mC_ev, Mi.m1_ev, Mi.m2_ev, Mi.mNil_ev, Mi.mCons_ev, Mi.mL_ev, Mi.mT_ev, Mi.toB_bl, Mi.mNotT_ev, Mi.mAndT_ev, Mi.mOrT_ev, Mi.mIte_ev, Mi.mAnd_ev, Mi.mOr_ev, Mi.mNot_ev, Mi.mChain_ev, Mi.mCall_ev, Mi.callF_ev, Mi.mTold_ev, Mi.told_okR, Mi.told_excR, Mi.sFor_ev, Mi.mIt_ev, Mi.it_lst, Mi.it_tup, Mi.it_str, Mi.mRng1_ev, Mi.mRng2_ev, Mi.rng1_ev, Mi.rng2_ev, Mi.mPart_ev, Mi.mNoPart_ev, Mi.mSl_ev, Mi.sl_lst, Mi.sl_tup, Mi.sl_str, Mi.mLc_ev, Mi.mJoin_ev, Mi.seq_lst, Mi.seq_frz, Mi.row_tup, Mi.row_lst, Mi.add_int, Mi.add_str, Mi.add_lst, Mi.add_tup, Mi.sub_int, Mi.mul_int, Mi.fdiv_int, Mi.mod_int, Mi.neg_int, Mi.pow_int, Mi.gSub_ev, Mi.at0, Mi.at1, Mi.at2, Mi.at3, Int.reduceToNat, Int.reducePow, Mi.lt_int, Mi.le_int, Mi.gt_int, Mi.ge_int, Mi.eq_int, Mi.ne_int, Mi.eq_str, Mi.ne_str, Mi.isN_ev, Mi.notN_ev, Mi.D.isN, Mi.len_str, Mi.len_lst, Mi.len_frz, Mi.len_tup, Mi.min_int, Mi.max_int, Mi.int_int, Mi.int_bl, Mi.tup_ev, Mi.lst_ev, Mi.lstO_ev, Mi.ix_str, Mi.tuple_tup, Mi.tuple_lst, Mi.isi_non, Mi.isi2_non, Mi.isi_bl, Mi.isi2_bl, Mi.isi_int, Mi.isi2_int, Mi.isi_str, Mi.isi2_str, Mi.isi_tup, Mi.isi2_tup, Mi.isi_lst, Mi.isi2_lst, Mi.isi_frz, Mi.isi2_frz, Mi.isiB, Mi.cB_True, Mi.cB_False, List.map_cons, List.map_nil, List.cons_append, List.nil_append, List.getElem?_cons_zero, List.getElem?_cons_succ, List.getElem?_nil, List.set_cons_zero, List.set_cons_succ, List.set_nil, List.length_cons, List.length_nil, List.replicate_succ, List.replicate_zero, Nat.reduceAdd, Nat.reduceSub, Nat.reduceLT, Nat.reduceLeDiff, Nat.reduceEqDiff, reduceIte, Bool.not_true, Bool.not_false, Bool.false_eq_true, Bool.true_and, Bool.false_and, Bool.and_true, Bool.and_false, beq_self_eq_true, String.reduceBEq, Bool.or_false, Bool.or_true, Bool.false_or, Bool.true_or, Int.reduceLT, Int.reduceLE, Int.reduceNeg, Int.reduceEq, Option.isSome_some, Option.isSome_none, Nat.reduceMul, true_and, and_true, List.flatten_cons, List.flatten_nil, List.append_nil, and_self, Mi.lsO_l, Mi.lst_r, Mi.lst_l, Mi.seq_r, Mi.row_r, Mi.row_frz, Mi.len_r, Mi.lenO_l, Mi.lenO_d, Mi.app_r, Mi.appO_l, Mi.addL_ev, Mi.add_r1, Mi.add_r2, Mi.addO_r, Mi.addLO_ev, Mi.pk_some, Mi.ixP_lst, Mi.ixP_tup, Mi.ixP_frz, Mi.ixL_ev, Mi.sl_r, Mi.slL_ev, Mi.it_r, Mi.itO_l, Mi.it_frz, Mi.tuple_r, Mi.tupL_ev, Mi.list_r, Mi.lstL_ev, Mi.listO_r, Mi.lstOL_ev, Mi.sum_r, Mi.all_r, Mi.any_r, Mi.sort_r, Mi.sumL_ev, Mi.allL_ev, Mi.anyL_ev, Mi.sortL_ev, Mi.fld_r, Mi.set_r, Mi.meth_r, Mi.nonK_ev, Mi.make_r, Mi.bm_ev, Mi.bmO_ev, Mi.mMeth_ev, Mi.sFld_ev, Mi.ite_t, Mi.ite_f, Mi.cB_t, Mi.cB_f, Mi.mulOk_l, Mi.mulOk_r, Mi.dct_r, Mi.dcO_d, Mi.dcO_l, Mi.dcW_d, Mi.sortD_r, Mi.sortDO_ev, Mi.mLK_ev, Mi.minD_r, Mi.minDO_ev, Mi.bm0_ev, Mi.bm0O_ev, Mi.pop_r, Mi.popO_ev, Mi.dinO_i, Mi.dinO_n, Mi.dgO_s, Mi.dgetO_ev, Mi.key_i, Mi.key_s, Mi.put_r, Mi.putO_d, Mi.dpop_ev, Mi.dpO_ev, Mi.dpop_r, Mi.dnew_ev, Mi.lr2_ev, Mi.lr1_ev, Mi.lrF_ev, Mi.step_ev, Mi.stepO_ev, Mi.step_1, Mi.step_m, List.getElem?_set_self', List.getElem?_set_ne, List.getElem?_append_left, List.getElem?_append_right, List.set_append_left, List.set_append_right, List.length_set, List.length_append, List.append_assoc, Nat.add_sub_cancel_left, Nat.sub_self, Function.const_apply, Option.map_some, Option.map_eq_map, Option.bind_some, Nat.add_zero, Nat.zero_add, List.set_set, enum_ev, enumF_l, zip_ev, zipF_l, disp_ev, dispI_ev, mDget2_ev, g2M_ev, in_s2, in_s5, Bool.or_true, Bool.true_or, Bool.or_false, Bool.false_or, *])
/-! ### the law's own sheets -/
abbrev tpD : List (L2.Key × D) := [(.inr "piece", .int 16384), (.inr "room", .int 65536), (.inr "strands", .int 256), (.inr "book", .int 4097)]
def tp (i : Nat) : Int := [(16384 : Int), 65536, 256, 4097].getD i 4097
theorem tp_val {i : Nat} (h : i < 4) : valD tpD (.inr (tn i)) = some (.int (tp i)) ∧ 2 ≤ tp i ∧ tp i - 1 ≤ thi i ∧ tp i ≤ 100000 ∧ tlo i ≤ 1 := by
  match i, h with
  | 0, _ => exact ⟨rfl, by decide, by decide, by decide, by decide⟩
  | 1, _ => exact ⟨rfl, by decide, by decide, by decide, by decide⟩
  | 2, _ => exact ⟨rfl, by decide, by decide, by decide, by decide⟩
  | 3, _ => exact ⟨rfl, by decide, by decide, by decide, by decide⟩
theorem e_ls_l (here : Int) (h0 : 0 ≤ here) (z0 z2 z3 z4 : Option D) {hT hF : Nat} (hne : hT ≠ hF) : ∀ (is : List Nat) (acc : List (Nat × Int)) (own : Own), own[hT]? = some (.dct tpD) → own[hF]? = some (.lst (acc.map tD4)) → (∀ i ∈ is, i < 4) → is.Pairwise (· < ·) → acc.length + is.length ≤ 100 → (∀ p ∈ acc, p.1 < 4 ∧ tOk p ∧ ∀ i ∈ is, p.1 < i) → (acc.Pairwise fun p q => p.1 < q.1) → ∃ (acc' : List (Nat × Int)) (own' : Own), (∀ p ∈ acc', p.1 < 4 ∧ tOk p) ∧ (acc'.Pairwise fun p q => p.1 < q.1) ∧ acc'.length ≤ 100 ∧ own' = own.set hF (.lst (acc'.map tD4)) ∧
    sLoop (gT 2 (gsCons (gN 7) (gsCons (gN 8) gsNil))) b_law_sheet_1 [] (is.map fun i => D.tup [.int (i : Nat), .str (tn i)]) [z0, some (.int here), z2, z3, z4, some (.ref hT), some (.ref hF), none, none] own = .nx [z0, some (.int here), z2, z3, z4, some (.ref hT), some (.ref hF), none, none] own'
  | [], acc, own, eT, eF, _, _, hl, ha, hp => ⟨acc, own, fun p hp => ⟨(ha p hp).1, (ha p hp).2.1⟩, hp, by simpa using hl, (set_same eF).symm, by rw [List.map_nil, loopg_nil held_nil]⟩
  | i :: is, acc, own, eT, eF, hi, hr, hl, ha, hp => by
    rw [List.length_cons] at hl
    rw [List.pairwise_cons] at hr
    have hi0 := hi i List.mem_cons_self
    obtain ⟨t1, t2, t3, t4, t5⟩ := tp_val hi0
    have lF := (List.getElem?_eq_some_iff.mp eF).1
    have dg : dgetF (.ref hT) (.str (tn i)) own = .ok (.int (tp i)) own := by
      rw [dget_r, dct_r, eT]
      show dgetO (some tpD) (keyD (.str (tn i))) own = _
      rw [show keyD (.str (tn i)) = some (.inr (tn i)) from rfl, dgetO_ev, t1]
      rfl
    have step : ∃ acc1 : List (Nat × Int), (∀ p ∈ acc1, p.1 < 4 ∧ tOk p ∧ ∀ i ∈ is, p.1 < i) ∧ (acc1.Pairwise fun p q => p.1 < q.1) ∧ acc1.length + is.length ≤ 100 ∧ b_law_sheet_1 [z0, some (.int here), z2, z3, z4, some (.ref hT), some (.ref hF), some (.int (i : Nat)), some (.str (tn i))] own = .nx [z0, some (.int here), z2, z3, z4, some (.ref hT), some (.ref hF), none, none] (own.set hF (.lst (acc1.map tD4))) := by
      have ed := e_drawn here i own (by omega) (by omega)
      have hlo := Ws.drawn_lo here i
      generalize Ws.drawn here i = dr at *
      unfold b_law_sheet_1
      walk_at "go"
      rw [ed]
      walk_at "go"
      by_cases c : dr % 2 = 0
      · obtain ⟨v, hv, ev⟩ := pickD [1, tp i - 1, 1 + here % (tp i - 1)] (dr / 4 % 3) (by omega) (by simp; omega)
        have hv2 : tOk (i, v) := by
          have := Int.emod_nonneg here (b := tp i - 1) (by omega)
          have := Int.emod_lt_of_pos here (b := tp i - 1) (by omega)
          unfold tOk
          simp only [List.mem_cons, List.not_mem_nil, or_false] at hv
          dsimp only
          omega
        walk_at "go"
        rw [eF]
        walk_at "go"
        rw [dg]
        walk_at "go"
        rw [dg]
        walk_at "go"
        rw [ed]
        walk_at "go"
        rw [show L2.atI [D.int 1, D.int (tp i - 1), D.int (1 + here % (tp i - 1))] (dr / 4 % 3) = some (.int v) from ev]
        walk_at "go"
        rw [eF]
        walk_at "go"
        refine ⟨acc ++ [(i, v)], fun p hp => ?_, ?_, by simp; omega, ?_⟩
        · rcases List.mem_append.mp hp with hp | hp
          · exact ⟨(ha p hp).1, (ha p hp).2.1, fun j hj => (ha p hp).2.2 j (List.mem_cons_of_mem _ hj)⟩
          · cases List.mem_singleton.mp hp
            exact ⟨hi0, hv2, fun j hj => hr.1 j hj⟩
        · rw [List.pairwise_append]
          exact ⟨hp, by simp, fun a h1 b h2 => by cases List.mem_singleton.mp h2; exact (ha a h1).2.2 i List.mem_cons_self⟩
        · rw [List.map_append]
          rfl
      · walk_at "go"
        exact ⟨acc, fun p hp => ⟨(ha p hp).1, (ha p hp).2.1, fun j hj => (ha p hp).2.2 j (List.mem_cons_of_mem _ hj)⟩, hp, by omega, by rw [set_same eF]⟩
    obtain ⟨acc1, s1, s2, s3, s4⟩ := step
    obtain ⟨acc2, own2, a1, a2, a3, a4, a5⟩ := e_ls_l here h0 z0 z2 z3 z4 hne is acc1 (own.set hF (.lst (acc1.map tD4))) (by rw [List.getElem?_set_ne (Ne.symm hne)]; exact eT) (List.getElem?_set_self lF) (fun j hj => hi j (List.mem_cons_of_mem _ hj)) hr.2 s3 s1 s2
    refine ⟨acc2, own2, a1, a2, a3, by rw [a4, List.set_set], ?_⟩
    rw [List.map_cons]
    exact (loopg_cons held_nil (e1 := [z0, some (.int here), z2, z3, z4, some (.ref hT), some (.ref hF), some (.int (i : Nat)), some (.str (tn i))]) (o1 := own) (by walk_at "go") s4).trans a5
theorem pickS (ls : List Str) (i : Int) (h0 : 0 ≤ i) (h1 : i < ls.length) : ∃ z ∈ ls, L2.atI (ls.map D.str) i = some (.str z) := by
  have hlt : i.toNat < ls.length := by omega
  exact ⟨ls[i.toNat], List.getElem_mem hlt, Ws.atI_get h0 (by rw [List.getElem?_map, List.getElem?_eq_getElem hlt]; rfl)⟩
theorem lt_tD4 (ps : List (Nat × Int)) : ltAll 0 (ps.map tD4) = true := by
  induction ps with
  | nil => simp [ltAll]
  | cons p ps ih => simp [ltAll, tD4, D.lt, ih]
theorem sh_lt0 (s : Sh) : s.d.lt 0 = true := by cases s <;> simp [Sh.d, D.lt, ltAll, ltAll_ints, lt_tD4]
theorem e_law_sheet (m : Int) (h0 : 0 ≤ m) (own : Own) : ∃ s : Sh, s.ok ∧ s.wf ∧ F_law_sheet [.int m] own = .ok s.d own := by
  unfold F_law_sheet runP m_law_sheet
  walk_at "go"
  have hh : 0 ≤ m / 64 := by omega
  generalize m / 64 = here at *
  obtain ⟨st, hs, e1⟩ := pickD [1, 2, 3, 255, 256, 65536, 16777215, 1 + here % 16777215] (here % 8) (by omega) (by simp; omega)
  have hs2 : strd st := by
    unfold strd
    simp only [List.mem_cons, List.not_mem_nil, or_false] at hs
    omega
  rw [show L2.atI [D.int 1, D.int 2, D.int 3, D.int 255, D.int 256, D.int 65536, D.int 16777215, D.int (1 + here % 16777215)] (here % 8) = some (.int st) from e1]
  walk_at "go"
  obtain ⟨nu, hn, e2⟩ := pickD [0, 1, 255, 256, 65535, 16777215, here / 8 % 16777216] (here / 8 % 7) (by omega) (by simp; omega)
  have hn2 : num3 nu := by
    unfold num3
    simp only [List.mem_cons, List.not_mem_nil, or_false] at hn
    omega
  rw [show L2.atI [D.int 0, D.int 1, D.int 255, D.int 256, D.int 65535, D.int 16777215, D.int (here / 8 % 16777216)] (here / 8 % 7) = some (.int nu) from e2]
  clear e1 e2 hs hn
  walk_at "go"
  have hw : 0 ≤ m % 11 ∧ m % 11 < 11 := by omega
  generalize m % 11 = way at *
  have tr : ∀ (s : Sh) (o : Own), trP own (.ok s.d (own ++ o)) = .ok s.d own := fun s o => trP_ok0 (by simp) (sh_lt0 s)
  have tr0 : ∀ (s : Sh), trP own (.ok s.d own) = .ok s.d own := fun s => trP_ok0 (by simp) (sh_lt0 s)
  by_cases w1 : way < 2
  · walk_at "go"
    obtain ⟨cs, y1, y2, y3⟩ := e_law_text here 40 own hh (by omega)
    rw [show ((40 : Nat) : Int) = 40 from rfl] at y3
    rw [y3]
    walk_at "go"
    exact ⟨.piece st ⟨cs.toArray⟩ (cB (here % 2 = 0)), ⟨hs2, cs_tx y1 (by omega)⟩, by show Str.length ⟨cs.toArray⟩ ≤ 100000; simp [Str.length]; omega, tr0 (.piece st ⟨cs.toArray⟩ (cB (here % 2 = 0)))⟩
  by_cases w2 : way = 2
  · walk_at "go"
    obtain ⟨n, hn3, hn4⟩ : ∃ n : Nat, here % 300 = n ∧ n ≤ 300 := ⟨(here % 300).toNat, by omega, by omega⟩
    rw [hn3, show rngL 0 (n : Int) = (List.range n).map fun (i : Nat) => D.int (0 + (i : Int)) by unfold rngL; rw [Int.sub_zero, Int.toNat_natCast]]
    rw [lcN (fun (i : Nat) => D.int (0 + (i : Int))) (fun (i : Nat) => D.int (Ws.drawn here i % 256)) (List.range n) held_nil (fun i hi => by
      have hi := List.mem_range.mp hi
      walk_at "go"
      rw [Int.zero_add, e_drawn here i own (by omega) (by omega)]
      walk_at "go") (by simp; omega)]
    walk_at "go"
    have e3 : ((List.range n).map fun (i : Nat) => D.int (Ws.drawn here i % 256)) = ((List.range n).map fun (i : Nat) => Ws.drawn here i % 256).map D.int := by rw [List.map_map]; rfl
    rw [e3]
    refine ⟨.heads st ((List.range n).map fun (i : Nat) => Ws.drawn here i % 256) (cB (here % 2 = 0)), ⟨hs2, by simp; omega, fun x hx => ?_⟩, by show (List.map _ _).length ≤ 100000; simp; omega, tr0 (.heads st ((List.range n).map fun (i : Nat) => Ws.drawn here i % 256) (cB (here % 2 = 0)))⟩
    obtain ⟨i, _, rfl⟩ := List.mem_map.mp hx
    omega
  by_cases w3 : way = 3
  · walk_at "go"
    by_cases c : nu = st
    · walk_at "go"
      exact ⟨.rank st 0 (1 + here / 16 % 256), ⟨hs2, by unfold num3; omega, by unfold strd at hs2; omega, by omega, by omega⟩, trivial, tr0 (.rank st 0 (1 + here / 16 % 256))⟩
    · walk_at "go"
      exact ⟨.rank st nu (1 + here / 16 % 256), ⟨hs2, hn2, c, by omega, by omega⟩, trivial, tr0 (.rank st nu (1 + here / 16 % 256))⟩
  by_cases w4 : way = 4
  · walk_at "go"
    exact ⟨.cut st (here % 10), ⟨hs2, by unfold codeP; omega⟩, trivial, tr0 (.cut st (here % 10))⟩
  by_cases w5 : way = 5
  · unfold l_law_sheet_1
    walk_at "go"
    have hd : dispF own.length [Str.ofString "piece", Str.ofString "room", Str.ofString "strands", Str.ofString "book"] [.int 16384, .int 65536, .int 256, .int 4097] (own ++ [.dct []]) = .ok (.ref own.length) (own ++ [.dct tpD]) := by
      unfold dispF
      rw [List.getElem?_append_right (Nat.le_refl _), Nat.sub_self]
      simp only [List.getElem?_cons_zero, List.length_cons, List.length_nil]
      rw [if_pos ⟨by trivial, by omega⟩, List.set_append_right _ _ (Nat.le_refl _), Nat.sub_self]
      rfl
    rw [hd]
    walk_at "go"
    have hb : (own ++ [.dct tpD, .lst []])[own.length]? = some (.dct tpD) := by simp
    have hc : (own ++ [.dct tpD, .lst []])[own.length + 1]? = some (.lst (([] : List (Nat × Int)).map tD4)) := by simp
    obtain ⟨acc, own', a1, a2, a3, a4, a5⟩ := e_ls_l here hh (some (.int m)) (some (.int st)) (some (.int nu)) (some (.int way)) (by omega : own.length ≠ own.length + 1) [0, 1, 2, 3] [] (own ++ [.dct tpD, .lst []]) hb hc (by decide) (by decide) (by decide) (fun p hp => nomatch hp) List.Pairwise.nil
    rw [show enumL [D.str (Str.ofString "piece"), D.str (Str.ofString "room"), D.str (Str.ofString "strands"), D.str (Str.ofString "book")] = [0, 1, 2, 3].map fun (i : Nat) => D.tup [.int (i : Nat), .str (tn i)] from rfl]
    rw [a5]
    have hf : own'[own.length + 1]? = some (.lst (acc.map tD4)) := by rw [a4]; exact List.getElem?_set_self (List.getElem?_eq_some_iff.mp hc).1
    walk_at "go"
    rw [hf]
    walk_at "go"
    refine ⟨.terms acc, ⟨fun p hp => (a1 p hp).2, a2⟩, ⟨by omega, fun p hp => (a1 p hp).1⟩, trP_ok0 ?_ (sh_lt0 (.terms acc))⟩
    rw [a4, List.take_set_of_le (by omega)]
    simp
  by_cases w6 : way = 6
  · walk_at "go"
    exact ⟨.heard, trivial, trivial, tr0 .heard⟩
  by_cases w7 : way = 7
  · subst w7
    walk_at "go"
    exact ⟨.knock nu, hn2, trivial, tr0 (.knock nu)⟩
  by_cases w8 : way = 8
  · subst w8
    walk_at "go"
    exact ⟨.knocked nu, hn2, trivial, tr0 (.knocked nu)⟩
  by_cases w9 : way = 9
  · walk_at "go"
    exact ⟨.last nu (here % 10), ⟨hn2, by unfold codeP; omega⟩, trivial, tr0 (.last nu (here % 10))⟩
  · walk_at "go"
    obtain ⟨s0, hs0, e3⟩ := pickD [0, st] (here % 2) (by omega) (by simp; omega)
    rw [show L2.atI [D.int 0, D.int st] (here % 2) = some (.int s0) from e3]
    walk_at "go"
    have : num3 s0 := by
      unfold num3 strd at *
      simp only [List.mem_cons, List.not_mem_nil, or_false] at hs0
      omega
    exact ⟨.room s0 (max 1 nu), ⟨this, by unfold num3 at hn2; omega, by unfold num3 at hn2; omega⟩, trivial, tr0 (.room s0 (max 1 nu))⟩
end Lw

set_option Elab.async false
set_option linter.all false
set_option maxRecDepth 100000
set_option maxHeartbeats 4000000
namespace Lw
open PySem Mi
local macro_rules | `(tactic| walk_at "ev") => `(tactic| simp only [Mi.bind_ok, Mi.bind_exc, Mi.bind_bad, Mi.bindS_ok, Mi.bindS_exc, Mi.seq_nx, Mi.seq_rt, Mi.seq_exc, Mi.seq_ct, Mi.endw_nx, Mi.endw_rt, Mi.endw_exc, Mi.endw_ct, Mi.endF_nx, Mi.endF_rt, Mi.endF_exc, Mi.wipe_nil, Mi.wipe_cons, Mi.sB_ev, Mi.mB_ev, Mi.sSeq_ev, Mi.sEndW_ev, Mi.sNil_ev, Mi.sExp_ev, Mi.sRet_ev, Mi.sRetN_ev, Mi.sIf_ev, Mi.sAsg_ev, Mi.gN_ev, Mi.gT_ev, Mi.gsCons_ev, Mi.gsNil_ev, Mi.sRaise_ev, Mi.sCont_ev, Mi.runF_ev, Mi.mV_ev, Mi.mC_ev, Mi.m1_ev, Mi.m2_ev, Mi.mNil_ev, Mi.mCons_ev, Mi.mL_ev, Mi.mT_ev, Mi.toB_bl, Mi.mNotT_ev, Mi.mAndT_ev, Mi.mOrT_ev, Mi.mIte_ev, Mi.mAnd_ev, Mi.mOr_ev, Mi.mNot_ev, Mi.mChain_ev, Mi.mCall_ev, Mi.callF_ev, Mi.mTold_ev, Mi.told_okR, Mi.told_excR, Mi.sFor_ev, Mi.mIt_ev, Mi.it_lst, Mi.it_tup, Mi.it_str, Mi.mRng1_ev, Mi.mRng2_ev, Mi.rng1_ev, Mi.rng2_ev, Mi.mPart_ev, Mi.mNoPart_ev, Mi.mSl_ev, Mi.sl_lst, Mi.sl_tup, Mi.sl_str, Mi.mLc_ev, Mi.mBm_ev, Mi.mJoin_ev, Mi.seq_lst, Mi.seq_frz, Mi.row_tup, Mi.row_lst,
  Mi.add_int, Mi.add_str, Mi.add_lst, Mi.add_tup, Mi.sub_int, Mi.mul_int, Mi.fdiv_int, Mi.mod_int, Mi.neg_int, Mi.pow_int, Mi.gSub_ev, Mi.at0, Mi.at1, Mi.at2, Mi.at3, Int.reduceToNat, Int.reducePow, Mi.lt_int, Mi.le_int, Mi.gt_int, Mi.ge_int, Mi.eq_int, Mi.ne_int, Mi.eq_str, Mi.ne_str, Mi.isN_ev, Mi.notN_ev, Mi.D.isN, Mi.len_str, Mi.len_lst, Mi.len_frz, Mi.len_tup, Mi.min_int, Mi.max_int, Mi.int_int, Mi.int_bl, Mi.tup_ev, Mi.lst_ev, Mi.lstO_ev, Mi.ix_lst, Mi.ix_tup, Mi.ix_frz, Mi.ix_str, Mi.tuple_tup, Mi.tuple_lst, Mi.list_ev, Mi.listO_ev, Mi.isi_non, Mi.isi2_non, Mi.isi_bl, Mi.isi2_bl, Mi.isi_int, Mi.isi2_int, Mi.isi_str, Mi.isi2_str, Mi.isi_tup, Mi.isi2_tup, Mi.isi_lst, Mi.isi2_lst, Mi.isi_frz, Mi.isi2_frz, Mi.isiB, Mi.cB_True, Mi.cB_False,
  List.map_cons, List.map_nil, List.cons_append, List.nil_append, List.getElem?_cons_zero, List.getElem?_cons_succ, List.getElem?_nil, List.set_cons_zero, List.set_cons_succ, List.set_nil, List.length_cons, List.length_nil, List.replicate_succ, List.replicate_zero, Nat.reduceAdd, Nat.reduceSub, Nat.reduceLT, Nat.reduceLeDiff, Nat.reduceEqDiff, reduceIte, Bool.not_true, Bool.not_false, Bool.false_eq_true, Bool.true_and, Bool.false_and, Bool.and_true, Bool.and_false, beq_self_eq_true, String.reduceBEq, Bool.or_false, Bool.or_true, Bool.false_or, Bool.true_or, Int.reduceLT, Int.reduceLE, Int.reduceNeg, Int.reduceEq, Option.isSome_some, Option.isSome_none, Nat.reduceMul, true_and, and_true, List.flatten_cons, List.flatten_nil, List.append_nil, and_self])
local macro_rules | `(tactic| walk_at "go") => `(tactic| simp (disch := (first | assumption | omega | (simp only [List.length_append, List.length_cons, List.length_nil, List.length_map, List.length_take, List.length_drop, List.length_set, List.length_singleton, List.length_dropLast, List.length_reverse, List.length_range]; omega) | exact Option.some_ne_none _ | decide)) only [Mi.bind_ok, Mi.bind_exc, Mi.bind_bad, Mi.bindS_ok, Mi.bindS_exc, Mi.seq_nx, Mi.seq_rt, Mi.seq_exc, Mi.seq_ct, Mi.endw_nx, Mi.endw_rt, Mi.endw_exc, Mi.endw_ct, Mi.endF_nx, Mi.endF_rt, Mi.endF_exc, Mi.wipe_nil, Mi.wipe_cons, Mi.sB_ev, Mi.mB_ev, Mi.sSeq_ev, Mi.sEndW_ev, Mi.sNil_ev, Mi.sExp_ev, Mi.sRet_ev, Mi.sRetN_ev, Mi.sIf_ev, Mi.sAsg_ev, Mi.gN_ev, Mi.gT_ev, Mi.gsCons_ev, Mi.gsNil_ev, Mi.sRaise_ev, Mi.sCont_ev, Mi.runF_ev, Mi.mV_ev, Mi.mC_ev, Mi.m1_ev, Mi.m2_ev, Mi.mNil_ev, Mi.mCons_ev, Mi.mL_ev, Mi.mT_ev, Mi.toB_bl, Mi.mNotT_ev, Mi.mAndT_ev, Mi.mOrT_ev, Mi.mIte_ev, Mi.mAnd_ev, Mi.mOr_ev, Mi.mNot_ev, Mi.mChain_ev, Mi.mCall_ev, Mi.callF_ev, Mi.mTold_ev, Mi.told_okR, Mi.told_excR, Mi.sFor_ev, Mi.mIt_ev, Mi.it_lst, Mi.it_tup, Mi.it_str, Mi.mRng1_ev, Mi.mRng2_ev, Mi.rng1_ev, Mi.rng2_ev, Mi.mPart_ev, Mi.mNoPart_ev, Mi.mSl_ev, Mi.sl_lst, Mi.sl_tup, Mi.sl_str, Mi.mLc_ev, Mi.mJoin_ev, Mi.seq_lst, Mi.seq_frz, Mi.row_tup, Mi.row_lst, Mi.add_int, Mi.add_str, Mi.add_lst, Mi.add_tup, Mi.sub_int, Mi.mul_int, Mi.fdiv_int, Mi.mod_int, Mi.neg_int, Mi.pow_int, Mi.gSub_ev, Mi.at0, Mi.at1, Mi.at2, Mi.at3, Int.reduceToNat, Int.reducePow, Mi.lt_int, Mi.le_int, Mi.gt_int, Mi.ge_int, Mi.eq_int, Mi.ne_int, Mi.eq_str, Mi.ne_str, Mi.isN_ev, Mi.notN_ev, Mi.D.isN, Mi.len_str, Mi.len_lst, Mi.len_frz, Mi.len_tup, Mi.min_int, Mi.max_int, Mi.int_int, Mi.int_bl, Mi.tup_ev, Mi.lst_ev, Mi.lstO_ev, Mi.ix_str, Mi.tuple_tup, Mi.tuple_lst, Mi.isi_non, Mi.isi2_non, Mi.isi_bl, Mi.isi2_bl, Mi.isi_int, Mi.isi2_int, Mi.isi_str, Mi.isi2_str, Mi.isi_tup, Mi.isi2_tup, Mi.isi_lst, Mi.isi2_lst, Mi.isi_frz, Mi.isi2_frz, Mi.isiB, Mi.cB_True, Mi.cB_False, List.map_cons, List.map_nil, List.cons_append, List.nil_append, List.getElem?_cons_zero, List.getElem?_cons_succ, List.getElem?_nil, List.set_cons_zero, List.set_cons_succ, List.set_nil, List.length_cons, List.length_nil, List.replicate_succ, List.replicate_zero, Nat.reduceAdd, Nat.reduceSub, Nat.reduceLT, Nat.reduceLeDiff, Nat.reduceEqDiff, reduceIte, Bool.not_true, Bool.not_false, Bool.false_eq_true, Bool.true_and, Bool.false_and, Bool.and_true, Bool.and_false, beq_self_eq_true, String.reduceBEq, Bool.or_false, Bool.or_true, Bool.false_or, Bool.true_or, Int.reduceLT, Int.reduceLE, Int.reduceNeg, Int.reduceEq, Option.isSome_some, Option.isSome_none, Nat.reduceMul, true_and, and_true, List.flatten_cons, List.flatten_nil, List.append_nil, and_self, Mi.lsO_l, Mi.lst_r, Mi.lst_l, Mi.seq_r, Mi.row_r, Mi.row_frz, Mi.len_r, Mi.lenO_l, Mi.lenO_d, Mi.app_r, Mi.appO_l, Mi.addL_ev, Mi.add_r1, Mi.add_r2, Mi.addO_r, Mi.addLO_ev, Mi.pk_some, Mi.ixP_lst, Mi.ixP_tup, Mi.ixP_frz, Mi.ixL_ev, Mi.sl_r, Mi.slL_ev, Mi.it_r, Mi.itO_l, Mi.it_frz, Mi.tuple_r, Mi.tupL_ev, Mi.list_r, Mi.lstL_ev, Mi.listO_r, Mi.lstOL_ev, Mi.sum_r, Mi.all_r, Mi.any_r, Mi.sort_r, Mi.sumL_ev, Mi.allL_ev, Mi.anyL_ev, Mi.sortL_ev, Mi.fld_r, Mi.set_r, Mi.meth_r, Mi.nonK_ev, Mi.make_r, Mi.bm_ev, Mi.bmO_ev, Mi.mMeth_ev, Mi.sFld_ev, Mi.ite_t, Mi.ite_f, Mi.cB_t, Mi.cB_f, Mi.mulOk_l, Mi.mulOk_r, Mi.dct_r, Mi.dcO_d, Mi.dcO_l, Mi.dcW_d, Mi.sortD_r, Mi.sortDO_ev, Mi.mLK_ev, Mi.minD_r, Mi.minDO_ev, Mi.bm0_ev, Mi.bm0O_ev, Mi.pop_r, Mi.popO_ev, Mi.dinO_i, Mi.dinO_n, Mi.dgO_s, Mi.dgetO_ev, Mi.key_i, Mi.key_s, Mi.put_r, Mi.putO_d, Mi.dpop_ev, Mi.dpO_ev, Mi.dpop_r, Mi.dnew_ev, Mi.lr2_ev, Mi.lr1_ev, Mi.lrF_ev, Mi.step_ev, Mi.stepO_ev, Mi.step_1, Mi.step_m, List.getElem?_set_self', List.getElem?_set_ne, List.getElem?_append_left, List.getElem?_append_right, List.set_append_left, List.set_append_right, List.length_set, List.length_append, List.append_assoc, Nat.add_sub_cancel_left, Nat.sub_self, Function.const_apply, Option.map_some, Option.map_eq_map, Option.bind_some, Nat.add_zero, Nat.zero_add, List.set_set])
local macro_rules | `(tactic| walk_at "gos") => `(tactic| simp (disch := (first | assumption | omega | (simp only [List.length_append, List.length_cons, List.length_nil, List.length_map, List.length_take, List.length_drop, List.length_set, List.length_singleton, List.length_dropLast, List.length_reverse, List.length_range]; omega) | exact Option.some_ne_none _ | decide)) only [Mi.bind_ok, Mi.bind_exc, Mi.bind_bad, Mi.bindS_ok, Mi.bindS_exc, Mi.seq_nx, Mi.seq_rt, Mi.seq_exc, Mi.seq_ct, Mi.endw_nx, Mi.endw_rt, Mi.endw_exc, Mi.endw_ct, Mi.endF_nx, Mi.endF_rt, Mi.endF_exc, Mi.wipe_nil, Mi.wipe_cons, Mi.sB_ev, Mi.mB_ev, Mi.sSeq_ev, Mi.sEndW_ev, Mi.sNil_ev, Mi.sExp_ev, Mi.sRet_ev, Mi.sRetN_ev, Mi.sIf_ev, Mi.sAsg_ev, Mi.gN_ev, Mi.gT_ev, Mi.gsCons_ev, Mi.gsNil_ev, Mi.sRaise_ev, Mi.sCont_ev, Mi.runF_ev, Mi.mV_ev, Mi.mC_ev, Mi.m1_ev, Mi.m2_ev, Mi.mNil_ev, Mi.mCons_ev, Mi.mL_ev, Mi.mT_ev, Mi.toB_bl, Mi.mNotT_ev, Mi.mAndT_ev, Mi.mOrT_ev, Mi.mIte_ev, Mi.mAnd_ev, Mi.mOr_ev, Mi.mNot_ev, Mi.mChain_ev, Mi.mCall_ev, Mi.callF_ev, Mi.mTold_ev, Mi.told_okR, Mi.told_excR, Mi.sFor_ev, Mi.mIt_ev, Mi.it_lst, Mi.it_tup, Mi.it_str, Mi.mRng1_ev, Mi.mRng2_ev, Mi.rng1_ev, Mi.rng2_ev, Mi.mPart_ev, Mi.mNoPart_ev, Mi.mSl_ev, Mi.sl_lst, Mi.sl_tup, Mi.sl_str, Mi.mLc_ev, Mi.mJoin_ev, Mi.seq_lst, Mi.seq_frz, Mi.row_tup, Mi.row_lst, Mi.add_int, Mi.add_str, Mi.add_lst, Mi.add_tup, Mi.sub_int, Mi.mul_int, Mi.fdiv_int, Mi.mod_int, Mi.neg_int, Mi.pow_int, Mi.gSub_ev, Mi.at0, Mi.at1, Mi.at2, Mi.at3, Int.reduceToNat, Int.reducePow, Mi.lt_int, Mi.le_int, Mi.gt_int, Mi.ge_int, Mi.eq_int, Mi.ne_int, Mi.eq_str, Mi.ne_str, Mi.isN_ev, Mi.notN_ev, Mi.D.isN, Mi.len_str, Mi.len_lst, Mi.len_frz, Mi.len_tup, Mi.min_int, Mi.max_int, Mi.int_int, Mi.int_bl, Mi.tup_ev, Mi.lst_ev, Mi.lstO_ev, Mi.ix_str, Mi.tuple_tup, Mi.tuple_lst, Mi.isi_non, Mi.isi2_non, Mi.isi_bl, Mi.isi2_bl, Mi.isi_int, Mi.isi2_int, Mi.isi_str, Mi.isi2_str, Mi.isi_tup, Mi.isi2_tup, Mi.isi_lst, Mi.isi2_lst, Mi.isi_frz, Mi.isi2_frz, Mi.isiB, Mi.cB_True, Mi.cB_False, List.map_cons, List.map_nil, List.cons_append, List.nil_append, List.getElem?_cons_zero, List.getElem?_cons_succ, List.getElem?_nil, List.set_cons_zero, List.set_cons_succ, List.set_nil, List.length_cons, List.length_nil, List.replicate_succ, List.replicate_zero, Nat.reduceAdd, Nat.reduceSub, Nat.reduceLT, Nat.reduceLeDiff, Nat.reduceEqDiff, reduceIte, Bool.not_true, Bool.not_false, Bool.false_eq_true, Bool.true_and, Bool.false_and, Bool.and_true, Bool.and_false, beq_self_eq_true, String.reduceBEq, Bool.or_false, Bool.or_true, Bool.false_or, Bool.true_or, Int.reduceLT, Int.reduceLE, Int.reduceNeg, Int.reduceEq, Option.isSome_some, Option.isSome_none, Nat.reduceMul, true_and, and_true, List.flatten_cons, List.flatten_nil, List.append_nil, and_self, Mi.lsO_l, Mi.lst_r, Mi.lst_l, Mi.seq_r, Mi.row_r, Mi.row_frz, Mi.len_r, Mi.lenO_l, Mi.lenO_d, Mi.app_r, Mi.appO_l, Mi.addL_ev, Mi.add_r1, Mi.add_r2, Mi.addO_r, Mi.addLO_ev, Mi.pk_some, Mi.ixP_lst, Mi.ixP_tup, Mi.ixP_frz, Mi.ixL_ev, Mi.sl_r, Mi.slL_ev, Mi.it_r, Mi.itO_l, Mi.it_frz, Mi.tuple_r, Mi.tupL_ev, Mi.list_r, Mi.lstL_ev, Mi.listO_r, Mi.lstOL_ev, Mi.sum_r, Mi.all_r, Mi.any_r, Mi.sort_r, Mi.sumL_ev, Mi.allL_ev, Mi.anyL_ev, Mi.sortL_ev, Mi.fld_r, Mi.set_r, Mi.meth_r, Mi.nonK_ev, Mi.make_r, Mi.bm_ev, Mi.bmO_ev, Mi.mMeth_ev, Mi.sFld_ev, Mi.ite_t, Mi.ite_f, Mi.cB_t, Mi.cB_f, Mi.mulOk_l, Mi.mulOk_r, Mi.dct_r, Mi.dcO_d, Mi.dcO_l, Mi.dcW_d, Mi.sortD_r, Mi.sortDO_ev, Mi.mLK_ev, Mi.minD_r, Mi.minDO_ev, Mi.bm0_ev, Mi.bm0O_ev, Mi.pop_r, Mi.popO_ev, Mi.dinO_i, Mi.dinO_n, Mi.dgO_s, Mi.dgetO_ev, Mi.key_i, Mi.key_s, Mi.put_r, Mi.putO_d, Mi.dpop_ev, Mi.dpO_ev, Mi.dpop_r, Mi.dnew_ev, Mi.lr2_ev, Mi.lr1_ev, Mi.lrF_ev, Mi.step_ev, Mi.stepO_ev, Mi.step_1, Mi.step_m, List.getElem?_set_self', List.getElem?_set_ne, List.getElem?_append_left, List.getElem?_append_right, List.set_append_left, List.set_append_right, List.length_set, List.length_append, List.append_assoc, Nat.add_sub_cancel_left, Nat.sub_self, Function.const_apply, Option.map_some, Option.map_eq_map, Option.bind_some, Nat.add_zero, Nat.zero_add, List.set_set, *])
local macro_rules | `(tactic| walk_at "go") => `(tactic| simp (disch := (first | assumption | omega | (simp only [List.length_append, List.length_cons, List.length_nil, List.length_map, List.length_take, List.length_drop, List.length_set, List.length_singleton, List.length_dropLast, List.length_reverse, List.length_range]; omega) | exact Option.some_ne_none _ | decide)) only [Mi.bind_ok, Mi.bind_exc, Mi.bind_bad, Mi.bindS_ok, Mi.bindS_exc, Mi.seq_nx, Mi.seq_rt, Mi.seq_exc, Mi.seq_ct, Mi.endw_nx, Mi.endw_rt, Mi.endw_exc, Mi.endw_ct, Mi.endF_nx, Mi.endF_rt, Mi.endF_exc, Mi.wipe_nil, Mi.wipe_cons, Mi.sB_ev, Mi.mB_ev, Mi.sSeq_ev, Mi.sEndW_ev, Mi.sNil_ev, Mi.sExp_ev, Mi.sRet_ev, Mi.sRetN_ev, Mi.sIf_ev, Mi.sAsg_ev, Mi.gN_ev, Mi.gT_ev, Mi.gsCons_ev, Mi.gsNil_ev, Mi.sRaise_ev, Mi.sCont_ev, Mi.runF_ev, Mi.mV_ev, Mi.mC_ev, Mi.m1_ev, Mi.m2_ev, Mi.mNil_ev, Mi.mCons_ev, Mi.mL_ev, Mi.mT_ev, Mi.toB_bl, Mi.mNotT_ev, Mi.mAndT_ev, Mi.mOrT_ev, Mi.mIte_ev, Mi.mAnd_ev, Mi.mOr_ev, Mi.mNot_ev, Mi.mChain_ev, Mi.mCall_ev, Mi.callF_ev, Mi.mTold_ev, Mi.told_okR, Mi.told_excR, Mi.sFor_ev, Mi.mIt_ev, Mi.it_lst, Mi.it_tup, Mi.it_str, Mi.mRng1_ev, Mi.mRng2_ev, Mi.rng1_ev, Mi.rng2_ev, Mi.mPart_ev, Mi.mNoPart_ev, Mi.mSl_ev, Mi.sl_lst, Mi.sl_tup, Mi.sl_str, Mi.mLc_ev, Mi.mJoin_ev, Mi.seq_lst, Mi.seq_frz, Mi.row_tup, Mi.row_lst, Mi.add_int, Mi.add_str, Mi.add_lst, Mi.add_tup, Mi.sub_int, Mi.mul_int, Mi.fdiv_int, Mi.mod_int, Mi.neg_int, Mi.pow_int, Mi.gSub_ev, Mi.at0, Mi.at1, Mi.at2, Mi.at3, Int.reduceToNat, Int.reducePow, Mi.lt_int, Mi.le_int, Mi.gt_int, Mi.ge_int, Mi.eq_int, Mi.ne_int, Mi.eq_str, Mi.ne_str, Mi.isN_ev, Mi.notN_ev, Mi.D.isN, Mi.len_str, Mi.len_lst, Mi.len_frz, Mi.len_tup, Mi.min_int, Mi.max_int, Mi.int_int, Mi.int_bl, Mi.tup_ev, Mi.lst_ev, Mi.lstO_ev, Mi.ix_str, Mi.tuple_tup, Mi.tuple_lst, Mi.isi_non, Mi.isi2_non, Mi.isi_bl, Mi.isi2_bl, Mi.isi_int, Mi.isi2_int, Mi.isi_str, Mi.isi2_str, Mi.isi_tup, Mi.isi2_tup, Mi.isi_lst, Mi.isi2_lst, Mi.isi_frz, Mi.isi2_frz, Mi.isiB, Mi.cB_True, Mi.cB_False, List.map_cons, List.map_nil, List.cons_append, List.nil_append, List.getElem?_cons_zero, List.getElem?_cons_succ, List.getElem?_nil, List.set_cons_zero, List.set_cons_succ, List.set_nil, List.length_cons, List.length_nil, List.replicate_succ, List.replicate_zero, Nat.reduceAdd, Nat.reduceSub, Nat.reduceLT, Nat.reduceLeDiff, Nat.reduceEqDiff, reduceIte, Bool.not_true, Bool.not_false, Bool.false_eq_true, Bool.true_and, Bool.false_and, Bool.and_true, Bool.and_false, beq_self_eq_true, String.reduceBEq, Bool.or_false, Bool.or_true, Bool.false_or, Bool.true_or, Int.reduceLT, Int.reduceLE, Int.reduceNeg, Int.reduceEq, Option.isSome_some, Option.isSome_none, Nat.reduceMul, true_and, and_true, List.flatten_cons, List.flatten_nil, List.append_nil, and_self, Mi.lsO_l, Mi.lst_r, Mi.lst_l, Mi.seq_r, Mi.row_r, Mi.row_frz, Mi.len_r, Mi.lenO_l, Mi.lenO_d, Mi.app_r, Mi.appO_l, Mi.addL_ev, Mi.add_r1, Mi.add_r2, Mi.addO_r, Mi.addLO_ev, Mi.pk_some, Mi.ixP_lst, Mi.ixP_tup, Mi.ixP_frz, Mi.ixL_ev, Mi.sl_r, Mi.slL_ev, Mi.it_r, Mi.itO_l, Mi.it_frz, Mi.tuple_r, Mi.tupL_ev, Mi.list_r, Mi.lstL_ev, Mi.listO_r, Mi.lstOL_ev, Mi.sum_r, Mi.all_r, Mi.any_r, Mi.sort_r, Mi.sumL_ev, Mi.allL_ev, Mi.anyL_ev, Mi.sortL_ev, Mi.fld_r, Mi.set_r, Mi.meth_r, Mi.nonK_ev, Mi.make_r, Mi.bm_ev, Mi.bmO_ev, Mi.mMeth_ev, Mi.sFld_ev, Mi.ite_t, Mi.ite_f, Mi.cB_t, Mi.cB_f, Mi.mulOk_l, Mi.mulOk_r, Mi.dct_r, Mi.dcO_d, Mi.dcO_l, Mi.dcW_d, Mi.sortD_r, Mi.sortDO_ev, Mi.mLK_ev, Mi.minD_r, Mi.minDO_ev, Mi.bm0_ev, Mi.bm0O_ev, Mi.pop_r, Mi.popO_ev, Mi.dinO_i, Mi.dinO_n, Mi.dgO_s, Mi.dgetO_ev, Mi.key_i, Mi.key_s, Mi.put_r, Mi.putO_d, Mi.dpop_ev, Mi.dpO_ev, Mi.dpop_r, Mi.dnew_ev, Mi.lr2_ev, Mi.lr1_ev, Mi.lrF_ev, Mi.step_ev, Mi.stepO_ev, Mi.step_1, Mi.step_m, List.getElem?_set_self', List.getElem?_set_ne, List.getElem?_append_left, List.getElem?_append_right, List.set_append_left, List.set_append_right, List.length_set, List.length_append, List.append_assoc, Nat.add_sub_cancel_left, Nat.sub_self, Function.const_apply, Option.map_some, Option.map_eq_map, Option.bind_some, Nat.add_zero, Nat.zero_add, List.set_set, enum_ev, enumF_l, zip_ev, zipF_l, disp_ev, dispI_ev, mDget2_ev, g2M_ev, in_s2, in_s5, Bool.or_true, Bool.true_or, Bool.or_false, Bool.false_or])
local macro_rules | `(tactic| walk_at "gos") => `(tactic| simp (disch := (first | assumption | omega | (simp only [List.length_append, List.length_cons, List.length_nil, List.length_map, List.length_take, List.length_drop, List.length_set, List.length_singleton, List.length_dropLast, List.length_reverse, List.length_range]; omega) | exact Option.some_ne_none _ | decide)) only [Mi.bind_ok, Mi.bind_exc, Mi.bind_bad, Mi.bindS_ok, Mi.bindS_exc, Mi.seq_nx, Mi.seq_rt, Mi.seq_exc, Mi.seq_ct, Mi.endw_nx, Mi.endw_rt, Mi.endw_exc, Mi.endw_ct, Mi.endF_nx, Mi.endF_rt, Mi.endF_exc, Mi.wipe_nil, Mi.wipe_cons, Mi.sB_ev, Mi.mB_ev, Mi.sSeq_ev, Mi.sEndW_ev, Mi.sNil_ev, Mi.sExp_ev, Mi.sRet_ev, Mi.sRetN_ev, Mi.sIf_ev, Mi.sAsg_ev, Mi.gN_ev, Mi.gT_ev, Mi.gsCons_ev, Mi.gsNil_ev, Mi.sRaise_ev, Mi.sCont_ev, Mi.runF_ev, Mi.mV_ev, Mi.mC_ev, Mi.m1_ev, Mi.m2_ev, Mi.mNil_ev, Mi.mCons_ev, Mi.mL_ev, Mi.mT_ev, Mi.toB_bl, Mi.mNotT_ev, Mi.mAndT_ev, Mi.mOrT_ev, Mi.mIte_ev, Mi.mAnd_ev, Mi.mOr_ev, Mi.mNot_ev, Mi.mChain_ev, Mi.mCall_ev, Mi.callF_ev, Mi.mTold_ev, Mi.told_okR, Mi.told_excR, Mi.sFor_ev, Mi.mIt_ev, Mi.it_lst, Mi.it_tup, Mi.it_str, Mi.mRng1_ev, Mi.mRng2_ev, Mi.rng1_ev, Mi.rng2_ev, Mi.mPart_ev, Mi.mNoPart_ev, Mi.mSl_ev, Mi.sl_lst, Mi.sl_tup, Mi.sl_str, Mi.mLc_ev, Mi.mJoin_ev, Mi.seq_lst, Mi.seq_frz, Mi.row_tup, Mi.row_lst, Mi.add_int, Mi.add_str, Mi.add_lst, Mi.add_tup, Mi.sub_int, Mi.mul_int, Mi.fdiv_int, Mi.mod_int, Mi.neg_int, Mi.pow_int, Mi.gSub_ev, Mi.at0, Mi.at1, Mi.at2, Mi.at3, Int.reduceToNat, Int.reducePow, Mi.lt_int, Mi.le_int, Mi.gt_int, Mi.ge_int, Mi.eq_int, Mi.ne_int, Mi.eq_str, Mi.ne_str, Mi.isN_ev, Mi.notN_ev, Mi.D.isN, Mi.len_str, Mi.len_lst, Mi.len_frz, Mi.len_tup, Mi.min_int, Mi.max_int, Mi.int_int, Mi.int_bl, Mi.tup_ev, Mi.lst_ev, Mi.lstO_ev, Mi.ix_str, Mi.tuple_tup, Mi.tuple_lst, Mi.isi_non, Mi.isi2_non, Mi.isi_bl, Mi.isi2_bl, Mi.isi_int, Mi.isi2_int, Mi.isi_str, Mi.isi2_str, Mi.isi_tup, Mi.isi2_tup, Mi.isi_lst, Mi.isi2_lst, Mi.isi_frz, Mi.isi2_frz, Mi.isiB, Mi.cB_True, Mi.cB_False, List.map_cons, List.map_nil, List.cons_append, List.nil_append, List.getElem?_cons_zero, List.getElem?_cons_succ, List.getElem?_nil, List.set_cons_zero, List.set_cons_succ, List.set_nil, List.length_cons, List.length_nil, List.replicate_succ, List.replicate_zero, Nat.reduceAdd, Nat.reduceSub, Nat.reduceLT, Nat.reduceLeDiff, Nat.reduceEqDiff, reduceIte, Bool.not_true, Bool.not_false, Bool.false_eq_true, Bool.true_and, Bool.false_and, Bool.and_true, Bool.and_false, beq_self_eq_true, String.reduceBEq, Bool.or_false, Bool.or_true, Bool.false_or, Bool.true_or, Int.reduceLT, Int.reduceLE, Int.reduceNeg, Int.reduceEq, Option.isSome_some, Option.isSome_none, Nat.reduceMul, true_and, and_true, List.flatten_cons, List.flatten_nil, List.append_nil, and_self, Mi.lsO_l, Mi.lst_r, Mi.lst_l, Mi.seq_r, Mi.row_r, Mi.row_frz, Mi.len_r, Mi.lenO_l, Mi.lenO_d, Mi.app_r, Mi.appO_l, Mi.addL_ev, Mi.add_r1, Mi.add_r2, Mi.addO_r, Mi.addLO_ev, Mi.pk_some, Mi.ixP_lst, Mi.ixP_tup, Mi.ixP_frz, Mi.ixL_ev, Mi.sl_r, Mi.slL_ev, Mi.it_r, Mi.itO_l, Mi.it_frz, Mi.tuple_r, Mi.tupL_ev, Mi.list_r, Mi.lstL_ev, Mi.listO_r, Mi.lstOL_ev, Mi.sum_r, Mi.all_r, Mi.any_r, Mi.sort_r, Mi.sumL_ev, Mi.allL_ev, Mi.anyL_ev, Mi.sortL_ev, Mi.fld_r, Mi.set_r, Mi.meth_r, Mi.nonK_ev, Mi.make_r, Mi.bm_ev, Mi.bmO_ev, Mi.mMeth_ev, Mi.sFld_ev, Mi.ite_t, Mi.ite_f, Mi.cB_t, Mi.cB_f, Mi.mulOk_l, Mi.mulOk_r, Mi.dct_r, Mi.dcO_d, Mi.dcO_l, Mi.dcW_d, Mi.sortD_r, Mi.sortDO_ev, Mi.mLK_ev, Mi.minD_r, Mi.minDO_ev, Mi.bm0_ev, Mi.bm0O_ev, Mi.pop_r, Mi.popO_ev, Mi.dinO_i, Mi.dinO_n, Mi.dgO_s, Mi.dgetO_ev, Mi.key_i, Mi.key_s, Mi.put_r, Mi.putO_d, Mi.dpop_ev, Mi.dpO_ev, Mi.dpop_r, Mi.dnew_ev, Mi.lr2_ev, Mi.lr1_ev, Mi.lrF_ev, Mi.step_ev, Mi.stepO_ev, Mi.step_1, Mi.step_m, List.getElem?_set_self', List.getElem?_set_ne, List.getElem?_append_left, List.getElem?_append_right, List.set_append_left, List.set_append_right, List.length_set, List.length_append, List.append_assoc, Nat.add_sub_cancel_left, Nat.sub_self, Function.const_apply, Option.map_some, Option.map_eq_map, Option.bind_some, Nat.add_zero, Nat.zero_add, List.set_set, enum_ev, enumF_l, zip_ev, zipF_l, disp_ev, dispI_ev, mDget2_ev, g2M_ev, in_s2, in_s5, Bool.or_true, Bool.true_or, Bool.or_false, Bool.false_or, *])
/-! ### nearly the same -/
theorem cut_to (xs : List D) {e : Nat} : cutD xs none (some (e : Int)) = xs.take e := by
  unfold cutD
  rw [HT.sIx_none, HT.sIx_nat, List.drop_zero, Nat.sub_zero]
  by_cases h : e ≤ xs.length
  · rw [Nat.min_eq_left h]
  · rw [Nat.min_eq_right (by omega), List.take_of_length_le (Nat.le_refl _), List.take_of_length_le (by omega)]
theorem cut_last1 (xs : List D) : cutD xs none (some (-1)) = xs.dropLast := by
  unfold cutD
  rw [HT.sIx_none, Ws.sIx_neg1, List.drop_zero, Nat.sub_zero, List.dropLast_eq_take]
theorem cut3 (xs : List D) : cutD xs none (some 3) = xs.take 3 := cut_to xs (e := 3)
theorem at_m1 (xs : List D) (d : D) : L2.atI (xs ++ [d]) (-1) = some d := by
  unfold L2.atI L2.ixN
  simp
  rw [if_pos (by omega), show (-1 + ((xs.length : Int) + 1)).toNat = xs.length by omega]
  simp
local macro_rules | `(tactic| walk_at "go") => `(tactic| simp (disch := (first | assumption | omega | (simp only [List.length_append, List.length_cons, List.length_nil, List.length_map, List.length_take, List.length_drop, List.length_set, List.length_singleton, List.length_dropLast, List.length_reverse, List.length_range]; omega) | exact Option.some_ne_none _ | decide)) only [Mi.bind_ok, Mi.bind_exc, Mi.bind_bad, Mi.bindS_ok, Mi.bindS_exc, Mi.seq_nx, Mi.seq_rt, Mi.seq_exc, Mi.seq_ct, Mi.endw_nx, Mi.endw_rt, Mi.endw_exc, Mi.endw_ct, Mi.endF_nx, Mi.endF_rt, Mi.endF_exc, Mi.wipe_nil, Mi.wipe_cons, Mi.sB_ev, Mi.mB_ev, Mi.sSeq_ev, Mi.sEndW_ev, Mi.sNil_ev, Mi.sExp_ev, Mi.sRet_ev, Mi.sRetN_ev, Mi.sIf_ev, Mi.sAsg_ev, Mi.gN_ev, Mi.gT_ev, Mi.gsCons_ev, Mi.gsNil_ev, Mi.sRaise_ev, Mi.sCont_ev, Mi.runF_ev, Mi.mV_ev, Mi.mC_ev, Mi.m1_ev, Mi.m2_ev, Mi.mNil_ev, Mi.mCons_ev, Mi.mL_ev, Mi.mT_ev, Mi.toB_bl, Mi.mNotT_ev, Mi.mAndT_ev, Mi.mOrT_ev, Mi.mIte_ev, Mi.mAnd_ev, Mi.mOr_ev, Mi.mNot_ev, Mi.mChain_ev, Mi.mCall_ev, Mi.callF_ev, Mi.mTold_ev, Mi.told_okR, Mi.told_excR, Mi.sFor_ev, Mi.mIt_ev, Mi.it_lst, Mi.it_tup, Mi.it_str, Mi.mRng1_ev, Mi.mRng2_ev, Mi.rng1_ev, Mi.rng2_ev, Mi.mPart_ev, Mi.mNoPart_ev, Mi.mSl_ev, Mi.sl_lst, Mi.sl_tup, Mi.sl_str, Mi.mLc_ev, Mi.mJoin_ev, Mi.seq_lst, Mi.seq_frz, Mi.row_tup, Mi.row_lst, Mi.add_int, Mi.add_str, Mi.add_lst, Mi.add_tup, Mi.sub_int, Mi.mul_int, Mi.fdiv_int, Mi.mod_int, Mi.neg_int, Mi.pow_int, Mi.gSub_ev, Mi.at0, Mi.at1, Mi.at2, Mi.at3, Int.reduceToNat, Int.reducePow, Mi.lt_int, Mi.le_int, Mi.gt_int, Mi.ge_int, Mi.eq_int, Mi.ne_int, Mi.eq_str, Mi.ne_str, Mi.isN_ev, Mi.notN_ev, Mi.D.isN, Mi.len_str, Mi.len_lst, Mi.len_frz, Mi.len_tup, Mi.min_int, Mi.max_int, Mi.int_int, Mi.int_bl, Mi.tup_ev, Mi.lst_ev, Mi.lstO_ev, Mi.ix_str, Mi.tuple_tup, Mi.tuple_lst, Mi.isi_non, Mi.isi2_non, Mi.isi_bl, Mi.isi2_bl, Mi.isi_int, Mi.isi2_int, Mi.isi_str, Mi.isi2_str, Mi.isi_tup, Mi.isi2_tup, Mi.isi_lst, Mi.isi2_lst, Mi.isi_frz, Mi.isi2_frz, Mi.isiB, Mi.cB_True, Mi.cB_False, List.map_cons, List.map_nil, List.cons_append, List.nil_append, List.getElem?_cons_zero, List.getElem?_cons_succ, List.getElem?_nil, List.set_cons_zero, List.set_cons_succ, List.set_nil, List.length_cons, List.length_nil, List.replicate_succ, List.replicate_zero, Nat.reduceAdd, Nat.reduceSub, Nat.reduceLT, Nat.reduceLeDiff, Nat.reduceEqDiff, reduceIte, Bool.not_true, Bool.not_false, Bool.false_eq_true, Bool.true_and, Bool.false_and, Bool.and_true, Bool.and_false, beq_self_eq_true, String.reduceBEq, Bool.or_false, Bool.or_true, Bool.false_or, Bool.true_or, Int.reduceLT, Int.reduceLE, Int.reduceNeg, Int.reduceEq, Option.isSome_some, Option.isSome_none, Nat.reduceMul, true_and, and_true, List.flatten_cons, List.flatten_nil, List.append_nil, and_self, Mi.lsO_l, Mi.lst_r, Mi.lst_l, Mi.seq_r, Mi.row_r, Mi.row_frz, Mi.len_r, Mi.lenO_l, Mi.lenO_d, Mi.app_r, Mi.appO_l, Mi.addL_ev, Mi.add_r1, Mi.add_r2, Mi.addO_r, Mi.addLO_ev, Mi.pk_some, Mi.ixP_lst, Mi.ixP_tup, Mi.ixP_frz, Mi.ixL_ev, Mi.sl_r, Mi.slL_ev, Mi.it_r, Mi.itO_l, Mi.it_frz, Mi.tuple_r, Mi.tupL_ev, Mi.list_r, Mi.lstL_ev, Mi.listO_r, Mi.lstOL_ev, Mi.sum_r, Mi.all_r, Mi.any_r, Mi.sort_r, Mi.sumL_ev, Mi.allL_ev, Mi.anyL_ev, Mi.sortL_ev, Mi.fld_r, Mi.set_r, Mi.meth_r, Mi.nonK_ev, Mi.make_r, Mi.bm_ev, Mi.bmO_ev, Mi.mMeth_ev, Mi.sFld_ev, Mi.ite_t, Mi.ite_f, Mi.cB_t, Mi.cB_f, Mi.mulOk_l, Mi.mulOk_r, Mi.dct_r, Mi.dcO_d, Mi.dcO_l, Mi.dcW_d, Mi.sortD_r, Mi.sortDO_ev, Mi.mLK_ev, Mi.minD_r, Mi.minDO_ev, Mi.bm0_ev, Mi.bm0O_ev, Mi.pop_r, Mi.popO_ev, Mi.dinO_i, Mi.dinO_n, Mi.dgO_s, Mi.dgetO_ev, Mi.key_i, Mi.key_s, Mi.put_r, Mi.putO_d, Mi.dpop_ev, Mi.dpO_ev, Mi.dpop_r, Mi.dnew_ev, Mi.lr2_ev, Mi.lr1_ev, Mi.lrF_ev, Mi.step_ev, Mi.stepO_ev, Mi.step_1, Mi.step_m, List.getElem?_set_self', List.getElem?_set_ne, List.getElem?_append_left, List.getElem?_append_right, List.set_append_left, List.set_append_right, List.length_set, List.length_append, List.append_assoc, Nat.add_sub_cancel_left, Nat.sub_self, Function.const_apply, Option.map_some, Option.map_eq_map, Option.bind_some, Nat.add_zero, Nat.zero_add, List.set_set, enum_ev, enumF_l, zip_ev, zipF_l, disp_ev, dispI_ev, mDget2_ev, g2M_ev, in_s2, in_s5, Bool.or_true, Bool.true_or, Bool.or_false, Bool.false_or, cut3, cut_last1, sl_tup])
local macro_rules | `(tactic| walk_at "gos") => `(tactic| simp (disch := (first | assumption | omega | (simp only [List.length_append, List.length_cons, List.length_nil, List.length_map, List.length_take, List.length_drop, List.length_set, List.length_singleton, List.length_dropLast, List.length_reverse, List.length_range]; omega) | exact Option.some_ne_none _ | decide)) only [Mi.bind_ok, Mi.bind_exc, Mi.bind_bad, Mi.bindS_ok, Mi.bindS_exc, Mi.seq_nx, Mi.seq_rt, Mi.seq_exc, Mi.seq_ct, Mi.endw_nx, Mi.endw_rt, Mi.endw_exc, Mi.endw_ct, Mi.endF_nx, Mi.endF_rt, Mi.endF_exc, Mi.wipe_nil, Mi.wipe_cons, Mi.sB_ev, Mi.mB_ev, Mi.sSeq_ev, Mi.sEndW_ev, Mi.sNil_ev, Mi.sExp_ev, Mi.sRet_ev, Mi.sRetN_ev, Mi.sIf_ev, Mi.sAsg_ev, Mi.gN_ev, Mi.gT_ev, Mi.gsCons_ev, Mi.gsNil_ev, Mi.sRaise_ev, Mi.sCont_ev, Mi.runF_ev, Mi.mV_ev, Mi.mC_ev, Mi.m1_ev, Mi.m2_ev, Mi.mNil_ev, Mi.mCons_ev, Mi.mL_ev, Mi.mT_ev, Mi.toB_bl, Mi.mNotT_ev, Mi.mAndT_ev, Mi.mOrT_ev, Mi.mIte_ev, Mi.mAnd_ev, Mi.mOr_ev, Mi.mNot_ev, Mi.mChain_ev, Mi.mCall_ev, Mi.callF_ev, Mi.mTold_ev, Mi.told_okR, Mi.told_excR, Mi.sFor_ev, Mi.mIt_ev, Mi.it_lst, Mi.it_tup, Mi.it_str, Mi.mRng1_ev, Mi.mRng2_ev, Mi.rng1_ev, Mi.rng2_ev, Mi.mPart_ev, Mi.mNoPart_ev, Mi.mSl_ev, Mi.sl_lst, Mi.sl_tup, Mi.sl_str, Mi.mLc_ev, Mi.mJoin_ev, Mi.seq_lst, Mi.seq_frz, Mi.row_tup, Mi.row_lst, Mi.add_int, Mi.add_str, Mi.add_lst, Mi.add_tup, Mi.sub_int, Mi.mul_int, Mi.fdiv_int, Mi.mod_int, Mi.neg_int, Mi.pow_int, Mi.gSub_ev, Mi.at0, Mi.at1, Mi.at2, Mi.at3, Int.reduceToNat, Int.reducePow, Mi.lt_int, Mi.le_int, Mi.gt_int, Mi.ge_int, Mi.eq_int, Mi.ne_int, Mi.eq_str, Mi.ne_str, Mi.isN_ev, Mi.notN_ev, Mi.D.isN, Mi.len_str, Mi.len_lst, Mi.len_frz, Mi.len_tup, Mi.min_int, Mi.max_int, Mi.int_int, Mi.int_bl, Mi.tup_ev, Mi.lst_ev, Mi.lstO_ev, Mi.ix_str, Mi.tuple_tup, Mi.tuple_lst, Mi.isi_non, Mi.isi2_non, Mi.isi_bl, Mi.isi2_bl, Mi.isi_int, Mi.isi2_int, Mi.isi_str, Mi.isi2_str, Mi.isi_tup, Mi.isi2_tup, Mi.isi_lst, Mi.isi2_lst, Mi.isi_frz, Mi.isi2_frz, Mi.isiB, Mi.cB_True, Mi.cB_False, List.map_cons, List.map_nil, List.cons_append, List.nil_append, List.getElem?_cons_zero, List.getElem?_cons_succ, List.getElem?_nil, List.set_cons_zero, List.set_cons_succ, List.set_nil, List.length_cons, List.length_nil, List.replicate_succ, List.replicate_zero, Nat.reduceAdd, Nat.reduceSub, Nat.reduceLT, Nat.reduceLeDiff, Nat.reduceEqDiff, reduceIte, Bool.not_true, Bool.not_false, Bool.false_eq_true, Bool.true_and, Bool.false_and, Bool.and_true, Bool.and_false, beq_self_eq_true, String.reduceBEq, Bool.or_false, Bool.or_true, Bool.false_or, Bool.true_or, Int.reduceLT, Int.reduceLE, Int.reduceNeg, Int.reduceEq, Option.isSome_some, Option.isSome_none, Nat.reduceMul, true_and, and_true, List.flatten_cons, List.flatten_nil, List.append_nil, and_self, Mi.lsO_l, Mi.lst_r, Mi.lst_l, Mi.seq_r, Mi.row_r, Mi.row_frz, Mi.len_r, Mi.lenO_l, Mi.lenO_d, Mi.app_r, Mi.appO_l, Mi.addL_ev, Mi.add_r1, Mi.add_r2, Mi.addO_r, Mi.addLO_ev, Mi.pk_some, Mi.ixP_lst, Mi.ixP_tup, Mi.ixP_frz, Mi.ixL_ev, Mi.sl_r, Mi.slL_ev, Mi.it_r, Mi.itO_l, Mi.it_frz, Mi.tuple_r, Mi.tupL_ev, Mi.list_r, Mi.lstL_ev, Mi.listO_r, Mi.lstOL_ev, Mi.sum_r, Mi.all_r, Mi.any_r, Mi.sort_r, Mi.sumL_ev, Mi.allL_ev, Mi.anyL_ev, Mi.sortL_ev, Mi.fld_r, Mi.set_r, Mi.meth_r, Mi.nonK_ev, Mi.make_r, Mi.bm_ev, Mi.bmO_ev, Mi.mMeth_ev, Mi.sFld_ev, Mi.ite_t, Mi.ite_f, Mi.cB_t, Mi.cB_f, Mi.mulOk_l, Mi.mulOk_r, Mi.dct_r, Mi.dcO_d, Mi.dcO_l, Mi.dcW_d, Mi.sortD_r, Mi.sortDO_ev, Mi.mLK_ev, Mi.minD_r, Mi.minDO_ev, Mi.bm0_ev, Mi.bm0O_ev, Mi.pop_r, Mi.popO_ev, Mi.dinO_i, Mi.dinO_n, Mi.dgO_s, Mi.dgetO_ev, Mi.key_i, Mi.key_s, Mi.put_r, Mi.putO_d, Mi.dpop_ev, Mi.dpO_ev, Mi.dpop_r, Mi.dnew_ev, Mi.lr2_ev, Mi.lr1_ev, Mi.lrF_ev, Mi.step_ev, Mi.stepO_ev, Mi.step_1, Mi.step_m, List.getElem?_set_self', List.getElem?_set_ne, List.getElem?_append_left, List.getElem?_append_right, List.set_append_left, List.set_append_right, List.length_set, List.length_append, List.append_assoc, Nat.add_sub_cancel_left, Nat.sub_self, Function.const_apply, Option.map_some, Option.map_eq_map, Option.bind_some, Nat.add_zero, Nat.zero_add, List.set_set, enum_ev, enumF_l, zip_ev, zipF_l, disp_ev, dispI_ev, mDget2_ev, g2M_ev, in_s2, in_s5, Bool.or_true, Bool.true_or, Bool.or_false, Bool.false_or, cut3, cut_last1, sl_tup, *])
theorem e_law_near (s : Sh) (o : s.ok) (w : s.wf) (z : D) (own : Own) : ∃ s' : Sh, s'.ok ∧ s'.wf ∧ F_law_near [s.d, z] own = .ok s'.d own := by
  unfold F_law_near m_law_near
  cases s with
  | piece s t l =>
    unfold Sh.d
    walk_at "go"
    exact ⟨.piece s t (!l), o, w, rfl⟩
  | heads s b l =>
    unfold Sh.d
    walk_at "go"
    exact ⟨.heads s b (!l), o, w, rfl⟩
  | rank s a w' =>
    obtain ⟨o1, o2, o3, o4, o5⟩ := o
    unfold Sh.d
    walk_at "go"
    rw [show L2.atI [D.str (Str.ofString "rank"), D.int s, D.int a, D.int w'] (-1) = some (.int w') from at_m1 [D.str (Str.ofString "rank"), D.int s, D.int a] _, show [D.str (Str.ofString "rank"), D.int s, D.int a, D.int w'].dropLast = [D.str (Str.ofString "rank"), D.int s, D.int a] from rfl]
    walk_at "go"
    exact ⟨.rank s a (w' % 256 + 1), ⟨o1, o2, o3, by omega, by omega⟩, trivial, rfl⟩
  | cut s c =>
    obtain ⟨o1, o2⟩ := o
    unfold Sh.d
    walk_at "go"
    exact ⟨.cut (s % 16777215 + 1) c, ⟨by unfold strd; omega, o2⟩, trivial, rfl⟩
  | terms ps =>
    unfold Sh.d
    walk_at "go"
    refine ⟨.terms ps.dropLast, ⟨fun p hp => o.1 p ((List.dropLast_sublist ps).subset hp), o.2.sublist (List.dropLast_sublist _)⟩, ⟨?_, fun p hp => w.2 p ((List.dropLast_sublist ps).subset hp)⟩, ?_⟩
    · have := w.1
      rw [List.length_dropLast]; omega
    · simp only [List.map_dropLast]
  | heard =>
    unfold Sh.d
    walk_at "go"
    exact ⟨.terms [], ⟨fun p hp => (nomatch hp), List.Pairwise.nil⟩, ⟨by simp, fun p hp => nomatch hp⟩, rfl⟩
  | knock n =>
    unfold Sh.d
    walk_at "go"
    exact ⟨.knocked n, o, trivial, rfl⟩
  | knocked n =>
    unfold Sh.d
    walk_at "go"
    exact ⟨.knock n, o, trivial, rfl⟩
  | last s c =>
    obtain ⟨o1, o2⟩ := o
    unfold codeP at o2
    unfold Sh.d
    walk_at "go"
    exact ⟨.last s ((c + 1) % 10), ⟨o1, by unfold codeP; omega⟩, trivial, rfl⟩
  | room s n =>
    obtain ⟨o1, o2, o3⟩ := o
    unfold Sh.d
    walk_at "go"
    rw [show L2.atI [D.str (Str.ofString "room"), D.int s, D.int n] (-1) = some (.int n) from at_m1 [D.str (Str.ofString "room"), D.int s] _, show [D.str (Str.ofString "room"), D.int s, D.int n].dropLast = [D.str (Str.ofString "room"), D.int s] from rfl]
    walk_at "go"
    exact ⟨.room s (n / 2 + 1), ⟨o1, by omega, by omega⟩, trivial, rfl⟩
/-! ### the law -/
end Lw

set_option Elab.async false
set_option linter.all false
set_option maxRecDepth 100000
set_option maxHeartbeats 4000000
namespace Lw
open PySem Mi
local macro_rules | `(tactic| walk_at "ev") => `(tactic| simp only [Mi.bind_ok, Mi.bind_exc, Mi.bind_bad, Mi.bindS_ok, Mi.bindS_exc, Mi.seq_nx, Mi.seq_rt, Mi.seq_exc, Mi.seq_ct, Mi.endw_nx, Mi.endw_rt, Mi.endw_exc, Mi.endw_ct, Mi.endF_nx, Mi.endF_rt, Mi.endF_exc, Mi.wipe_nil, Mi.wipe_cons, Mi.sB_ev, Mi.mB_ev, Mi.sSeq_ev, Mi.sEndW_ev, Mi.sNil_ev, Mi.sExp_ev, Mi.sRet_ev, Mi.sRetN_ev, Mi.sIf_ev, Mi.sAsg_ev, Mi.gN_ev, Mi.gT_ev, Mi.gsCons_ev, Mi.gsNil_ev, Mi.sRaise_ev, Mi.sCont_ev, Mi.runF_ev, Mi.mV_ev, Mi.mC_ev, Mi.m1_ev, Mi.m2_ev, Mi.mNil_ev, Mi.mCons_ev, Mi.mL_ev, Mi.mT_ev, Mi.toB_bl, Mi.mNotT_ev, Mi.mAndT_ev, Mi.mOrT_ev, Mi.mIte_ev, Mi.mAnd_ev, Mi.mOr_ev, Mi.mNot_ev, Mi.mChain_ev, Mi.mCall_ev, Mi.callF_ev, Mi.mTold_ev, Mi.told_okR, Mi.told_excR, Mi.sFor_ev, Mi.mIt_ev, Mi.it_lst, Mi.it_tup, Mi.it_str, Mi.mRng1_ev, Mi.mRng2_ev, Mi.rng1_ev, Mi.rng2_ev, Mi.mPart_ev, Mi.mNoPart_ev, Mi.mSl_ev, Mi.sl_lst, Mi.sl_tup, Mi.sl_str, Mi.mLc_ev, Mi.mBm_ev, Mi.mJoin_ev, Mi.seq_lst, Mi.seq_frz, Mi.row_tup, Mi.row_lst,
  Mi.add_int, Mi.add_str, Mi.add_lst, Mi.add_tup, Mi.sub_int, Mi.mul_int, Mi.fdiv_int, Mi.mod_int, Mi.neg_int, Mi.pow_int, Mi.gSub_ev, Mi.at0, Mi.at1, Mi.at2, Mi.at3, Int.reduceToNat, Int.reducePow, Mi.lt_int, Mi.le_int, Mi.gt_int, Mi.ge_int, Mi.eq_int, Mi.ne_int, Mi.eq_str, Mi.ne_str, Mi.isN_ev, Mi.notN_ev, Mi.D.isN, Mi.len_str, Mi.len_lst, Mi.len_frz, Mi.len_tup, Mi.min_int, Mi.max_int, Mi.int_int, Mi.int_bl, Mi.tup_ev, Mi.lst_ev, Mi.lstO_ev, Mi.ix_lst, Mi.ix_tup, Mi.ix_frz, Mi.ix_str, Mi.tuple_tup, Mi.tuple_lst, Mi.list_ev, Mi.listO_ev, Mi.isi_non, Mi.isi2_non, Mi.isi_bl, Mi.isi2_bl, Mi.isi_int, Mi.isi2_int, Mi.isi_str, Mi.isi2_str, Mi.isi_tup, Mi.isi2_tup, Mi.isi_lst, Mi.isi2_lst, Mi.isi_frz, Mi.isi2_frz, Mi.isiB, Mi.cB_True, Mi.cB_False,
  List.map_cons, List.map_nil, List.cons_append, List.nil_append, List.getElem?_cons_zero, List.getElem?_cons_succ, List.getElem?_nil, List.set_cons_zero, List.set_cons_succ, List.set_nil, List.length_cons, List.length_nil, List.replicate_succ, List.replicate_zero, Nat.reduceAdd, Nat.reduceSub, Nat.reduceLT, Nat.reduceLeDiff, Nat.reduceEqDiff, reduceIte, Bool.not_true, Bool.not_false, Bool.false_eq_true, Bool.true_and, Bool.false_and, Bool.and_true, Bool.and_false, beq_self_eq_true, String.reduceBEq, Bool.or_false, Bool.or_true, Bool.false_or, Bool.true_or, Int.reduceLT, Int.reduceLE, Int.reduceNeg, Int.reduceEq, Option.isSome_some, Option.isSome_none, Nat.reduceMul, true_and, and_true, List.flatten_cons, List.flatten_nil, List.append_nil, and_self])
local macro_rules | `(tactic| walk_at "go") => `(tactic| simp (disch := (first | assumption | omega | (simp only [List.length_append, List.length_cons, List.length_nil, List.length_map, List.length_take, List.length_drop, List.length_set, List.length_singleton, List.length_dropLast, List.length_reverse, List.length_range]; omega) | exact Option.some_ne_none _ | decide)) only [Mi.bind_ok, Mi.bind_exc, Mi.bind_bad, Mi.bindS_ok, Mi.bindS_exc, Mi.seq_nx, Mi.seq_rt, Mi.seq_exc, Mi.seq_ct, Mi.endw_nx, Mi.endw_rt, Mi.endw_exc, Mi.endw_ct, Mi.endF_nx, Mi.endF_rt, Mi.endF_exc, Mi.wipe_nil, Mi.wipe_cons, Mi.sB_ev, Mi.mB_ev, Mi.sSeq_ev, Mi.sEndW_ev, Mi.sNil_ev, Mi.sExp_ev, Mi.sRet_ev, Mi.sRetN_ev, Mi.sIf_ev, Mi.sAsg_ev, Mi.gN_ev, Mi.gT_ev, Mi.gsCons_ev, Mi.gsNil_ev, Mi.sRaise_ev, Mi.sCont_ev, Mi.runF_ev, Mi.mV_ev, Mi.mC_ev, Mi.m1_ev, Mi.m2_ev, Mi.mNil_ev, Mi.mCons_ev, Mi.mL_ev, Mi.mT_ev, Mi.toB_bl, Mi.mNotT_ev, Mi.mAndT_ev, Mi.mOrT_ev, Mi.mIte_ev, Mi.mAnd_ev, Mi.mOr_ev, Mi.mNot_ev, Mi.mChain_ev, Mi.mCall_ev, Mi.callF_ev, Mi.mTold_ev, Mi.told_okR, Mi.told_excR, Mi.sFor_ev, Mi.mIt_ev, Mi.it_lst, Mi.it_tup, Mi.it_str, Mi.mRng1_ev, Mi.mRng2_ev, Mi.rng1_ev, Mi.rng2_ev, Mi.mPart_ev, Mi.mNoPart_ev, Mi.mSl_ev, Mi.sl_lst, Mi.sl_tup, Mi.sl_str, Mi.mLc_ev, Mi.mJoin_ev, Mi.seq_lst, Mi.seq_frz, Mi.row_tup, Mi.row_lst, Mi.add_int, Mi.add_str, Mi.add_lst, Mi.add_tup, Mi.sub_int, Mi.mul_int, Mi.fdiv_int, Mi.mod_int, Mi.neg_int, Mi.pow_int, Mi.gSub_ev, Mi.at0, Mi.at1, Mi.at2, Mi.at3, Int.reduceToNat, Int.reducePow, Mi.lt_int, Mi.le_int, Mi.gt_int, Mi.ge_int, Mi.eq_int, Mi.ne_int, Mi.eq_str, Mi.ne_str, Mi.isN_ev, Mi.notN_ev, Mi.D.isN, Mi.len_str, Mi.len_lst, Mi.len_frz, Mi.len_tup, Mi.min_int, Mi.max_int, Mi.int_int, Mi.int_bl, Mi.tup_ev, Mi.lst_ev, Mi.lstO_ev, Mi.ix_str, Mi.tuple_tup, Mi.tuple_lst, Mi.isi_non, Mi.isi2_non, Mi.isi_bl, Mi.isi2_bl, Mi.isi_int, Mi.isi2_int, Mi.isi_str, Mi.isi2_str, Mi.isi_tup, Mi.isi2_tup, Mi.isi_lst, Mi.isi2_lst, Mi.isi_frz, Mi.isi2_frz, Mi.isiB, Mi.cB_True, Mi.cB_False, List.map_cons, List.map_nil, List.cons_append, List.nil_append, List.getElem?_cons_zero, List.getElem?_cons_succ, List.getElem?_nil, List.set_cons_zero, List.set_cons_succ, List.set_nil, List.length_cons, List.length_nil, List.replicate_succ, List.replicate_zero, Nat.reduceAdd, Nat.reduceSub, Nat.reduceLT, Nat.reduceLeDiff, Nat.reduceEqDiff, reduceIte, Bool.not_true, Bool.not_false, Bool.false_eq_true, Bool.true_and, Bool.false_and, Bool.and_true, Bool.and_false, beq_self_eq_true, String.reduceBEq, Bool.or_false, Bool.or_true, Bool.false_or, Bool.true_or, Int.reduceLT, Int.reduceLE, Int.reduceNeg, Int.reduceEq, Option.isSome_some, Option.isSome_none, Nat.reduceMul, true_and, and_true, List.flatten_cons, List.flatten_nil, List.append_nil, and_self, Mi.lsO_l, Mi.lst_r, Mi.lst_l, Mi.seq_r, Mi.row_r, Mi.row_frz, Mi.len_r, Mi.lenO_l, Mi.lenO_d, Mi.app_r, Mi.appO_l, Mi.addL_ev, Mi.add_r1, Mi.add_r2, Mi.addO_r, Mi.addLO_ev, Mi.pk_some, Mi.ixP_lst, Mi.ixP_tup, Mi.ixP_frz, Mi.ixL_ev, Mi.sl_r, Mi.slL_ev, Mi.it_r, Mi.itO_l, Mi.it_frz, Mi.tuple_r, Mi.tupL_ev, Mi.list_r, Mi.lstL_ev, Mi.listO_r, Mi.lstOL_ev, Mi.sum_r, Mi.all_r, Mi.any_r, Mi.sort_r, Mi.sumL_ev, Mi.allL_ev, Mi.anyL_ev, Mi.sortL_ev, Mi.fld_r, Mi.set_r, Mi.meth_r, Mi.nonK_ev, Mi.make_r, Mi.bm_ev, Mi.bmO_ev, Mi.mMeth_ev, Mi.sFld_ev, Mi.ite_t, Mi.ite_f, Mi.cB_t, Mi.cB_f, Mi.mulOk_l, Mi.mulOk_r, Mi.dct_r, Mi.dcO_d, Mi.dcO_l, Mi.dcW_d, Mi.sortD_r, Mi.sortDO_ev, Mi.mLK_ev, Mi.minD_r, Mi.minDO_ev, Mi.bm0_ev, Mi.bm0O_ev, Mi.pop_r, Mi.popO_ev, Mi.dinO_i, Mi.dinO_n, Mi.dgO_s, Mi.dgetO_ev, Mi.key_i, Mi.key_s, Mi.put_r, Mi.putO_d, Mi.dpop_ev, Mi.dpO_ev, Mi.dpop_r, Mi.dnew_ev, Mi.lr2_ev, Mi.lr1_ev, Mi.lrF_ev, Mi.step_ev, Mi.stepO_ev, Mi.step_1, Mi.step_m, List.getElem?_set_self', List.getElem?_set_ne, List.getElem?_append_left, List.getElem?_append_right, List.set_append_left, List.set_append_right, List.length_set, List.length_append, List.append_assoc, Nat.add_sub_cancel_left, Nat.sub_self, Function.const_apply, Option.map_some, Option.map_eq_map, Option.bind_some, Nat.add_zero, Nat.zero_add, List.set_set])
local macro_rules | `(tactic| walk_at "gos") => `(tactic| simp (disch := (first | assumption | omega | (simp only [List.length_append, List.length_cons, List.length_nil, List.length_map, List.length_take, List.length_drop, List.length_set, List.length_singleton, List.length_dropLast, List.length_reverse, List.length_range]; omega) | exact Option.some_ne_none _ | decide)) only [Mi.bind_ok, Mi.bind_exc, Mi.bind_bad, Mi.bindS_ok, Mi.bindS_exc, Mi.seq_nx, Mi.seq_rt, Mi.seq_exc, Mi.seq_ct, Mi.endw_nx, Mi.endw_rt, Mi.endw_exc, Mi.endw_ct, Mi.endF_nx, Mi.endF_rt, Mi.endF_exc, Mi.wipe_nil, Mi.wipe_cons, Mi.sB_ev, Mi.mB_ev, Mi.sSeq_ev, Mi.sEndW_ev, Mi.sNil_ev, Mi.sExp_ev, Mi.sRet_ev, Mi.sRetN_ev, Mi.sIf_ev, Mi.sAsg_ev, Mi.gN_ev, Mi.gT_ev, Mi.gsCons_ev, Mi.gsNil_ev, Mi.sRaise_ev, Mi.sCont_ev, Mi.runF_ev, Mi.mV_ev, Mi.mC_ev, Mi.m1_ev, Mi.m2_ev, Mi.mNil_ev, Mi.mCons_ev, Mi.mL_ev, Mi.mT_ev, Mi.toB_bl, Mi.mNotT_ev, Mi.mAndT_ev, Mi.mOrT_ev, Mi.mIte_ev, Mi.mAnd_ev, Mi.mOr_ev, Mi.mNot_ev, Mi.mChain_ev, Mi.mCall_ev, Mi.callF_ev, Mi.mTold_ev, Mi.told_okR, Mi.told_excR, Mi.sFor_ev, Mi.mIt_ev, Mi.it_lst, Mi.it_tup, Mi.it_str, Mi.mRng1_ev, Mi.mRng2_ev, Mi.rng1_ev, Mi.rng2_ev, Mi.mPart_ev, Mi.mNoPart_ev, Mi.mSl_ev, Mi.sl_lst, Mi.sl_tup, Mi.sl_str, Mi.mLc_ev, Mi.mJoin_ev, Mi.seq_lst, Mi.seq_frz, Mi.row_tup, Mi.row_lst, Mi.add_int, Mi.add_str, Mi.add_lst, Mi.add_tup, Mi.sub_int, Mi.mul_int, Mi.fdiv_int, Mi.mod_int, Mi.neg_int, Mi.pow_int, Mi.gSub_ev, Mi.at0, Mi.at1, Mi.at2, Mi.at3, Int.reduceToNat, Int.reducePow, Mi.lt_int, Mi.le_int, Mi.gt_int, Mi.ge_int, Mi.eq_int, Mi.ne_int, Mi.eq_str, Mi.ne_str, Mi.isN_ev, Mi.notN_ev, Mi.D.isN, Mi.len_str, Mi.len_lst, Mi.len_frz, Mi.len_tup, Mi.min_int, Mi.max_int, Mi.int_int, Mi.int_bl, Mi.tup_ev, Mi.lst_ev, Mi.lstO_ev, Mi.ix_str, Mi.tuple_tup, Mi.tuple_lst, Mi.isi_non, Mi.isi2_non, Mi.isi_bl, Mi.isi2_bl, Mi.isi_int, Mi.isi2_int, Mi.isi_str, Mi.isi2_str, Mi.isi_tup, Mi.isi2_tup, Mi.isi_lst, Mi.isi2_lst, Mi.isi_frz, Mi.isi2_frz, Mi.isiB, Mi.cB_True, Mi.cB_False, List.map_cons, List.map_nil, List.cons_append, List.nil_append, List.getElem?_cons_zero, List.getElem?_cons_succ, List.getElem?_nil, List.set_cons_zero, List.set_cons_succ, List.set_nil, List.length_cons, List.length_nil, List.replicate_succ, List.replicate_zero, Nat.reduceAdd, Nat.reduceSub, Nat.reduceLT, Nat.reduceLeDiff, Nat.reduceEqDiff, reduceIte, Bool.not_true, Bool.not_false, Bool.false_eq_true, Bool.true_and, Bool.false_and, Bool.and_true, Bool.and_false, beq_self_eq_true, String.reduceBEq, Bool.or_false, Bool.or_true, Bool.false_or, Bool.true_or, Int.reduceLT, Int.reduceLE, Int.reduceNeg, Int.reduceEq, Option.isSome_some, Option.isSome_none, Nat.reduceMul, true_and, and_true, List.flatten_cons, List.flatten_nil, List.append_nil, and_self, Mi.lsO_l, Mi.lst_r, Mi.lst_l, Mi.seq_r, Mi.row_r, Mi.row_frz, Mi.len_r, Mi.lenO_l, Mi.lenO_d, Mi.app_r, Mi.appO_l, Mi.addL_ev, Mi.add_r1, Mi.add_r2, Mi.addO_r, Mi.addLO_ev, Mi.pk_some, Mi.ixP_lst, Mi.ixP_tup, Mi.ixP_frz, Mi.ixL_ev, Mi.sl_r, Mi.slL_ev, Mi.it_r, Mi.itO_l, Mi.it_frz, Mi.tuple_r, Mi.tupL_ev, Mi.list_r, Mi.lstL_ev, Mi.listO_r, Mi.lstOL_ev, Mi.sum_r, Mi.all_r, Mi.any_r, Mi.sort_r, Mi.sumL_ev, Mi.allL_ev, Mi.anyL_ev, Mi.sortL_ev, Mi.fld_r, Mi.set_r, Mi.meth_r, Mi.nonK_ev, Mi.make_r, Mi.bm_ev, Mi.bmO_ev, Mi.mMeth_ev, Mi.sFld_ev, Mi.ite_t, Mi.ite_f, Mi.cB_t, Mi.cB_f, Mi.mulOk_l, Mi.mulOk_r, Mi.dct_r, Mi.dcO_d, Mi.dcO_l, Mi.dcW_d, Mi.sortD_r, Mi.sortDO_ev, Mi.mLK_ev, Mi.minD_r, Mi.minDO_ev, Mi.bm0_ev, Mi.bm0O_ev, Mi.pop_r, Mi.popO_ev, Mi.dinO_i, Mi.dinO_n, Mi.dgO_s, Mi.dgetO_ev, Mi.key_i, Mi.key_s, Mi.put_r, Mi.putO_d, Mi.dpop_ev, Mi.dpO_ev, Mi.dpop_r, Mi.dnew_ev, Mi.lr2_ev, Mi.lr1_ev, Mi.lrF_ev, Mi.step_ev, Mi.stepO_ev, Mi.step_1, Mi.step_m, List.getElem?_set_self', List.getElem?_set_ne, List.getElem?_append_left, List.getElem?_append_right, List.set_append_left, List.set_append_right, List.length_set, List.length_append, List.append_assoc, Nat.add_sub_cancel_left, Nat.sub_self, Function.const_apply, Option.map_some, Option.map_eq_map, Option.bind_some, Nat.add_zero, Nat.zero_add, List.set_set, *])
local macro_rules | `(tactic| walk_at "go") => `(tactic| simp (disch := (first | assumption | omega | (simp only [List.length_append, List.length_cons, List.length_nil, List.length_map, List.length_take, List.length_drop, List.length_set, List.length_singleton, List.length_dropLast, List.length_reverse, List.length_range]; omega) | exact Option.some_ne_none _ | decide)) only [Mi.bind_ok, Mi.bind_exc, Mi.bind_bad, Mi.bindS_ok, Mi.bindS_exc, Mi.seq_nx, Mi.seq_rt, Mi.seq_exc, Mi.seq_ct, Mi.endw_nx, Mi.endw_rt, Mi.endw_exc, Mi.endw_ct, Mi.endF_nx, Mi.endF_rt, Mi.endF_exc, Mi.wipe_nil, Mi.wipe_cons, Mi.sB_ev, Mi.mB_ev, Mi.sSeq_ev, Mi.sEndW_ev, Mi.sNil_ev, Mi.sExp_ev, Mi.sRet_ev, Mi.sRetN_ev, Mi.sIf_ev, Mi.sAsg_ev, Mi.gN_ev, Mi.gT_ev, Mi.gsCons_ev, Mi.gsNil_ev, Mi.sRaise_ev, Mi.sCont_ev, Mi.runF_ev, Mi.mV_ev, Mi.mC_ev, Mi.m1_ev, Mi.m2_ev, Mi.mNil_ev, Mi.mCons_ev, Mi.mL_ev, Mi.mT_ev, Mi.toB_bl, Mi.mNotT_ev, Mi.mAndT_ev, Mi.mOrT_ev, Mi.mIte_ev, Mi.mAnd_ev, Mi.mOr_ev, Mi.mNot_ev, Mi.mChain_ev, Mi.mCall_ev, Mi.callF_ev, Mi.mTold_ev, Mi.told_okR, Mi.told_excR, Mi.sFor_ev, Mi.mIt_ev, Mi.it_lst, Mi.it_tup, Mi.it_str, Mi.mRng1_ev, Mi.mRng2_ev, Mi.rng1_ev, Mi.rng2_ev, Mi.mPart_ev, Mi.mNoPart_ev, Mi.mSl_ev, Mi.sl_lst, Mi.sl_tup, Mi.sl_str, Mi.mLc_ev, Mi.mJoin_ev, Mi.seq_lst, Mi.seq_frz, Mi.row_tup, Mi.row_lst, Mi.add_int, Mi.add_str, Mi.add_lst, Mi.add_tup, Mi.sub_int, Mi.mul_int, Mi.fdiv_int, Mi.mod_int, Mi.neg_int, Mi.pow_int, Mi.gSub_ev, Mi.at0, Mi.at1, Mi.at2, Mi.at3, Int.reduceToNat, Int.reducePow, Mi.lt_int, Mi.le_int, Mi.gt_int, Mi.ge_int, Mi.eq_int, Mi.ne_int, Mi.eq_str, Mi.ne_str, Mi.isN_ev, Mi.notN_ev, Mi.D.isN, Mi.len_str, Mi.len_lst, Mi.len_frz, Mi.len_tup, Mi.min_int, Mi.max_int, Mi.int_int, Mi.int_bl, Mi.tup_ev, Mi.lst_ev, Mi.lstO_ev, Mi.ix_str, Mi.tuple_tup, Mi.tuple_lst, Mi.isi_non, Mi.isi2_non, Mi.isi_bl, Mi.isi2_bl, Mi.isi_int, Mi.isi2_int, Mi.isi_str, Mi.isi2_str, Mi.isi_tup, Mi.isi2_tup, Mi.isi_lst, Mi.isi2_lst, Mi.isi_frz, Mi.isi2_frz, Mi.isiB, Mi.cB_True, Mi.cB_False, List.map_cons, List.map_nil, List.cons_append, List.nil_append, List.getElem?_cons_zero, List.getElem?_cons_succ, List.getElem?_nil, List.set_cons_zero, List.set_cons_succ, List.set_nil, List.length_cons, List.length_nil, List.replicate_succ, List.replicate_zero, Nat.reduceAdd, Nat.reduceSub, Nat.reduceLT, Nat.reduceLeDiff, Nat.reduceEqDiff, reduceIte, Bool.not_true, Bool.not_false, Bool.false_eq_true, Bool.true_and, Bool.false_and, Bool.and_true, Bool.and_false, beq_self_eq_true, String.reduceBEq, Bool.or_false, Bool.or_true, Bool.false_or, Bool.true_or, Int.reduceLT, Int.reduceLE, Int.reduceNeg, Int.reduceEq, Option.isSome_some, Option.isSome_none, Nat.reduceMul, true_and, and_true, List.flatten_cons, List.flatten_nil, List.append_nil, and_self, Mi.lsO_l, Mi.lst_r, Mi.lst_l, Mi.seq_r, Mi.row_r, Mi.row_frz, Mi.len_r, Mi.lenO_l, Mi.lenO_d, Mi.app_r, Mi.appO_l, Mi.addL_ev, Mi.add_r1, Mi.add_r2, Mi.addO_r, Mi.addLO_ev, Mi.pk_some, Mi.ixP_lst, Mi.ixP_tup, Mi.ixP_frz, Mi.ixL_ev, Mi.sl_r, Mi.slL_ev, Mi.it_r, Mi.itO_l, Mi.it_frz, Mi.tuple_r, Mi.tupL_ev, Mi.list_r, Mi.lstL_ev, Mi.listO_r, Mi.lstOL_ev, Mi.sum_r, Mi.all_r, Mi.any_r, Mi.sort_r, Mi.sumL_ev, Mi.allL_ev, Mi.anyL_ev, Mi.sortL_ev, Mi.fld_r, Mi.set_r, Mi.meth_r, Mi.nonK_ev, Mi.make_r, Mi.bm_ev, Mi.bmO_ev, Mi.mMeth_ev, Mi.sFld_ev, Mi.ite_t, Mi.ite_f, Mi.cB_t, Mi.cB_f, Mi.mulOk_l, Mi.mulOk_r, Mi.dct_r, Mi.dcO_d, Mi.dcO_l, Mi.dcW_d, Mi.sortD_r, Mi.sortDO_ev, Mi.mLK_ev, Mi.minD_r, Mi.minDO_ev, Mi.bm0_ev, Mi.bm0O_ev, Mi.pop_r, Mi.popO_ev, Mi.dinO_i, Mi.dinO_n, Mi.dgO_s, Mi.dgetO_ev, Mi.key_i, Mi.key_s, Mi.put_r, Mi.putO_d, Mi.dpop_ev, Mi.dpO_ev, Mi.dpop_r, Mi.dnew_ev, Mi.lr2_ev, Mi.lr1_ev, Mi.lrF_ev, Mi.step_ev, Mi.stepO_ev, Mi.step_1, Mi.step_m, List.getElem?_set_self', List.getElem?_set_ne, List.getElem?_append_left, List.getElem?_append_right, List.set_append_left, List.set_append_right, List.length_set, List.length_append, List.append_assoc, Nat.add_sub_cancel_left, Nat.sub_self, Function.const_apply, Option.map_some, Option.map_eq_map, Option.bind_some, Nat.add_zero, Nat.zero_add, List.set_set, enum_ev, enumF_l, zip_ev, zipF_l, disp_ev, dispI_ev, mDget2_ev, g2M_ev, in_s2, in_s5, Bool.or_true, Bool.true_or, Bool.or_false, Bool.false_or])
local macro_rules | `(tactic| walk_at "gos") => `(tactic| simp (disch := (first | assumption | omega | (simp only [List.length_append, List.length_cons, List.length_nil, List.length_map, List.length_take, List.length_drop, List.length_set, List.length_singleton, List.length_dropLast, List.length_reverse, List.length_range]; omega) | exact Option.some_ne_none _ | decide)) only [Mi.bind_ok, Mi.bind_exc, Mi.bind_bad, Mi.bindS_ok, Mi.bindS_exc, Mi.seq_nx, Mi.seq_rt, Mi.seq_exc, Mi.seq_ct, Mi.endw_nx, Mi.endw_rt, Mi.endw_exc, Mi.endw_ct, Mi.endF_nx, Mi.endF_rt, Mi.endF_exc, Mi.wipe_nil, Mi.wipe_cons, Mi.sB_ev, Mi.mB_ev, Mi.sSeq_ev, Mi.sEndW_ev, Mi.sNil_ev, Mi.sExp_ev, Mi.sRet_ev, Mi.sRetN_ev, Mi.sIf_ev, Mi.sAsg_ev, Mi.gN_ev, Mi.gT_ev, Mi.gsCons_ev, Mi.gsNil_ev, Mi.sRaise_ev, Mi.sCont_ev, Mi.runF_ev, Mi.mV_ev, Mi.mC_ev, Mi.m1_ev, Mi.m2_ev, Mi.mNil_ev, Mi.mCons_ev, Mi.mL_ev, Mi.mT_ev, Mi.toB_bl, Mi.mNotT_ev, Mi.mAndT_ev, Mi.mOrT_ev, Mi.mIte_ev, Mi.mAnd_ev, Mi.mOr_ev, Mi.mNot_ev, Mi.mChain_ev, Mi.mCall_ev, Mi.callF_ev, Mi.mTold_ev, Mi.told_okR, Mi.told_excR, Mi.sFor_ev, Mi.mIt_ev, Mi.it_lst, Mi.it_tup, Mi.it_str, Mi.mRng1_ev, Mi.mRng2_ev, Mi.rng1_ev, Mi.rng2_ev, Mi.mPart_ev, Mi.mNoPart_ev, Mi.mSl_ev, Mi.sl_lst, Mi.sl_tup, Mi.sl_str, Mi.mLc_ev, Mi.mJoin_ev, Mi.seq_lst, Mi.seq_frz, Mi.row_tup, Mi.row_lst, Mi.add_int, Mi.add_str, Mi.add_lst, Mi.add_tup, Mi.sub_int, Mi.mul_int, Mi.fdiv_int, Mi.mod_int, Mi.neg_int, Mi.pow_int, Mi.gSub_ev, Mi.at0, Mi.at1, Mi.at2, Mi.at3, Int.reduceToNat, Int.reducePow, Mi.lt_int, Mi.le_int, Mi.gt_int, Mi.ge_int, Mi.eq_int, Mi.ne_int, Mi.eq_str, Mi.ne_str, Mi.isN_ev, Mi.notN_ev, Mi.D.isN, Mi.len_str, Mi.len_lst, Mi.len_frz, Mi.len_tup, Mi.min_int, Mi.max_int, Mi.int_int, Mi.int_bl, Mi.tup_ev, Mi.lst_ev, Mi.lstO_ev, Mi.ix_str, Mi.tuple_tup, Mi.tuple_lst, Mi.isi_non, Mi.isi2_non, Mi.isi_bl, Mi.isi2_bl, Mi.isi_int, Mi.isi2_int, Mi.isi_str, Mi.isi2_str, Mi.isi_tup, Mi.isi2_tup, Mi.isi_lst, Mi.isi2_lst, Mi.isi_frz, Mi.isi2_frz, Mi.isiB, Mi.cB_True, Mi.cB_False, List.map_cons, List.map_nil, List.cons_append, List.nil_append, List.getElem?_cons_zero, List.getElem?_cons_succ, List.getElem?_nil, List.set_cons_zero, List.set_cons_succ, List.set_nil, List.length_cons, List.length_nil, List.replicate_succ, List.replicate_zero, Nat.reduceAdd, Nat.reduceSub, Nat.reduceLT, Nat.reduceLeDiff, Nat.reduceEqDiff, reduceIte, Bool.not_true, Bool.not_false, Bool.false_eq_true, Bool.true_and, Bool.false_and, Bool.and_true, Bool.and_false, beq_self_eq_true, String.reduceBEq, Bool.or_false, Bool.or_true, Bool.false_or, Bool.true_or, Int.reduceLT, Int.reduceLE, Int.reduceNeg, Int.reduceEq, Option.isSome_some, Option.isSome_none, Nat.reduceMul, true_and, and_true, List.flatten_cons, List.flatten_nil, List.append_nil, and_self, Mi.lsO_l, Mi.lst_r, Mi.lst_l, Mi.seq_r, Mi.row_r, Mi.row_frz, Mi.len_r, Mi.lenO_l, Mi.lenO_d, Mi.app_r, Mi.appO_l, Mi.addL_ev, Mi.add_r1, Mi.add_r2, Mi.addO_r, Mi.addLO_ev, Mi.pk_some, Mi.ixP_lst, Mi.ixP_tup, Mi.ixP_frz, Mi.ixL_ev, Mi.sl_r, Mi.slL_ev, Mi.it_r, Mi.itO_l, Mi.it_frz, Mi.tuple_r, Mi.tupL_ev, Mi.list_r, Mi.lstL_ev, Mi.listO_r, Mi.lstOL_ev, Mi.sum_r, Mi.all_r, Mi.any_r, Mi.sort_r, Mi.sumL_ev, Mi.allL_ev, Mi.anyL_ev, Mi.sortL_ev, Mi.fld_r, Mi.set_r, Mi.meth_r, Mi.nonK_ev, Mi.make_r, Mi.bm_ev, Mi.bmO_ev, Mi.mMeth_ev, Mi.sFld_ev, Mi.ite_t, Mi.ite_f, Mi.cB_t, Mi.cB_f, Mi.mulOk_l, Mi.mulOk_r, Mi.dct_r, Mi.dcO_d, Mi.dcO_l, Mi.dcW_d, Mi.sortD_r, Mi.sortDO_ev, Mi.mLK_ev, Mi.minD_r, Mi.minDO_ev, Mi.bm0_ev, Mi.bm0O_ev, Mi.pop_r, Mi.popO_ev, Mi.dinO_i, Mi.dinO_n, Mi.dgO_s, Mi.dgetO_ev, Mi.key_i, Mi.key_s, Mi.put_r, Mi.putO_d, Mi.dpop_ev, Mi.dpO_ev, Mi.dpop_r, Mi.dnew_ev, Mi.lr2_ev, Mi.lr1_ev, Mi.lrF_ev, Mi.step_ev, Mi.stepO_ev, Mi.step_1, Mi.step_m, List.getElem?_set_self', List.getElem?_set_ne, List.getElem?_append_left, List.getElem?_append_right, List.set_append_left, List.set_append_right, List.length_set, List.length_append, List.append_assoc, Nat.add_sub_cancel_left, Nat.sub_self, Function.const_apply, Option.map_some, Option.map_eq_map, Option.bind_some, Nat.add_zero, Nat.zero_add, List.set_set, enum_ev, enumF_l, zip_ev, zipF_l, disp_ev, dispI_ev, mDget2_ev, g2M_ev, in_s2, in_s5, Bool.or_true, Bool.true_or, Bool.or_false, Bool.false_or, *])
/-! ### the law -/
theorem loopg_same {g : MG} {b : MS} {env : Mi.Env} {own : Own} : ∀ {ds : List D}, (∀ d ∈ ds, ∃ e1, g d env own = .nx e1 own ∧ b e1 own = .nx env own) → sLoop g b [] ds env own = .nx env own
  | [], _ => loopg_nil held_nil
  | d :: ds, h => by
    obtain ⟨e1, h1, h2⟩ := h d List.mem_cons_self
    exact (loopg_cons held_nil h1 h2).trans (loopg_same fun d' hd => h d' (List.mem_cons_of_mem _ hd))
abbrev rowD_ (s : Sh) : D := .lst (s.by.map D.int)
abbrev SOk (s : Sh) : Prop := s.ok ∧ s.wf ∧ s.by.length ≤ 100000
theorem ne_bl {own : Own} {a b : Bool} : neF (.bl a) (.bl b) own = .ok (.bl (!(a == b))) own := rfl
theorem zip_sh (ss : List Sh) : zipL (ss.map Sh.d) (ss.map rowD_) = ss.map fun s => .tup [s.d, rowD_ s] := by
  unfold zipL
  rw [List.zip_map', List.map_map]
  rfl
theorem law_b2 {s s' : Sh} (o : SOk s) (o' : SOk s') (z0 z1 z2 z3 z4 z5 z6 z11 : Option D) (own : Own) : b_law_2 [z0, z1, z2, z3, z4, z5, z6, some s.d, some (rowD_ s), some s'.d, some (rowD_ s'), z11] own = .nx [z0, z1, z2, z3, z4, z5, z6, some s.d, some (rowD_ s), none, none, z11] own := by
  have hl := o.2.2
  unfold b_law_2
  walk_at "go"
  rw [eqF_ints]
  walk_at "go"
  rw [eqF_sh o.1 o'.1 o.2.1 o'.2.1]
  by_cases h : s = s'
  · subst h
    rw [decide_eq_true rfl, cB_t rfl]
    walk_at "go"
    rw [ne_bl]
    walk_at "go"
    rw [neF_ints, decide_eq_true rfl]
    walk_at "go"
  · have hb : s.by ≠ s'.by := fun z => h (by_inj o.1 o'.1 z)
    rw [decide_eq_false hb, cB_f h]
    walk_at "go"
    rw [ne_bl]
    walk_at "go"
    rw [neF_ints, decide_eq_false hb]
    walk_at "go"
    rw [List.length_map, cut_to, ← List.map_take, eqF_ints, decide_eq_false (fun z => h (by_pre o.1 o'.1 o.2.1 o'.2.1 z))]
    walk_at "go"
theorem law_b3 {s : Sh} {ss : List Sh} (o : SOk s) (os : ∀ x ∈ ss, SOk x) (z0 z1 z2 z4 z5 z11 : Option D) (own : Own) : b_law_3 [z0, z1, z2, some (.lst (ss.map Sh.d)), z4, z5, some (.lst (ss.map rowD_)), some s.d, some (rowD_ s), none, none, z11] own = .nx [z0, z1, z2, some (.lst (ss.map Sh.d)), z4, z5, some (.lst (ss.map rowD_)), none, none, none, none, z11] own := by
  have hl := o.2.2
  obtain ⟨r, h1, h2⟩ := by_len o.1 o.2.1
  have hb := by_bytes o.1 o.2.1
  have a0 : L2.atI (s.by.map D.int) 0 = some (.int ((s.rest.length : Int) / 256)) := by rw [h1]; rw [show (0 : Int) = ((0 : Nat) : Int) from rfl, atI_nat]; rfl
  have a1 : L2.atI (s.by.map D.int) 1 = some (.int ((s.rest.length : Int) % 256)) := by rw [h1]; rw [show (1 : Int) = ((1 : Nat) : Int) from rfl, atI_nat]; rfl
  unfold b_law_3 l_law_2
  walk_at "go"
  rw [a0]
  walk_at "go"
  rw [a1]
  walk_at "go"
  rw [lcN D.int (fun i => D.bl (cB (0 ≤ i ∧ i ≤ 255))) s.by held_nil (fun i hi => by
    have := hb i hi
    walk_at "go") (by omega)]
  walk_at "go"
  rw [allL_blL, cB_t (fun a ha => hb a ha)]
  walk_at "go"
  rw [zip_sh]
  rw [loopg_same (fun d hd => by
    obtain ⟨s', hs', rfl⟩ := List.mem_map.mp hd
    exact ⟨_, by walk_at "go", law_b2 o (os s' hs') z0 z1 z2 (some (.lst (ss.map Sh.d))) z4 z5 (some (.lst (ss.map rowD_))) z11 own⟩)]
  walk_at "go"
theorem law_b1 {ss : List Sh} (os : ∀ x ∈ ss, x.ok ∧ x.wf) (hl : ss.length ≤ 1000) (more : Int) (j : Nat) (hj : j ≤ 1000) (z0 z1 z5 z6 z7 z8 z9 z10 z11 : Option D) (own : Own) : ∃ s s' z', s.ok ∧ s.wf ∧ s'.ok ∧ s'.wf ∧ b_law_1 [z0, z1, some (.int more), some (.lst (ss.map Sh.d)), some (.int (0 + (j : Int))), z5, z6, z7, z8, z9, z10, z11] own = .nx [z0, z1, some (.int more), some (.lst ((ss ++ [s, s']).map Sh.d)), none, z', z6, z7, z8, z9, z10, z11] own := by
  unfold b_law_1
  walk_at "go"
  rw [e_drawn more _ own (by omega) (by omega)]
  have hlo := Ws.drawn_lo more (0 + (j : Int))
  generalize Ws.drawn more (0 + (j : Int)) = here at *
  obtain ⟨s, a1, a2, a3⟩ := e_law_sheet here hlo own
  obtain ⟨s', b1, b2, b3⟩ := e_law_near s a1 a2 (.int more) own
  walk_at "go"
  rw [a3]
  walk_at "go"
  rw [b3]
  walk_at "go"
  exact ⟨s, s', some s.d, a1, a2, b1, b2, by simp⟩
theorem sh_len {s : Sh} (o : s.ok) (w : s.wf) : s.by.length ≤ 100000 := by rw [by_hd]; have := rest_len o w; omega
theorem law_b4 (ns : List Int) (i : Nat) (own : Own) (hn : ns.length ≤ 63) (hi : i ≤ 100) (z5 z11 : Option D) : ∃ z', b_law_4 [some (.frz (ns.map D.int)), some (.int (0 + (i : Int))), none, none, none, z5, none, none, none, none, none, z11] own = .nx [some (.frz (ns.map D.int)), none, none, none, none, z', none, none, none, none, none, z11] own := by
  unfold b_law_4 l_law_1 l_law_3
  walk_at "go"
  rw [Int.zero_add]
  obtain ⟨z, hz⟩ := e_cell ns i own hn (by omega)
  rw [hz]
  walk_at "go"
  rw [e_drawn z i own (by omega) (by omega)]
  generalize Ws.drawn z i = more
  walk_at "go"
  obtain ⟨c, hc, hc2⟩ : ∃ c : Nat, 1 + more % 6 = c ∧ c ≤ 6 := ⟨(1 + more % 6).toNat, by omega, by omega⟩
  rw [hc]
  obtain ⟨e', own3, g1, h1, ss, y5, os, hl, rfl⟩ := rng_nx (j := 4) (b := b_law_1) (lo := 0) (hi := c) c (fun t env o => o = own ∧ ∃ (ss : List Sh) (z5 : Option D), (∀ x ∈ ss, x.ok ∧ x.wf) ∧ ss.length ≤ 2 * t ∧ env = [some (.frz (ns.map D.int)), some (.int i), some (.int more), some (.lst (ss.map Sh.d)), none, z5, none, none, none, none, none, z11]) (by omega)
    (env := [some (.frz (ns.map D.int)), some (.int i), some (.int more), some (.lst []), none, z5, none, none, none, none, none, z11]) (own := own) ⟨rfl, [], z5, (fun x hx => nomatch hx), by simp, rfl⟩ (by
    rintro t env o ht ⟨rfl, ss, z5, os, hl, rfl⟩
    obtain ⟨s, s', z', a1, a2, a3, a4, e⟩ := law_b1 os (by omega) more t (by omega) (some (.frz (ns.map D.int))) (some (.int i)) z5 none none none none none z11 o
    refine ⟨_, _, e, rfl, ss ++ [s, s'], z', fun x hx => ?_, by simp; omega, rfl⟩
    rcases List.mem_append.mp hx with hx | hx
    · exact os x hx
    · simp only [List.mem_cons, List.not_mem_nil, or_false] at hx
      rcases hx with rfl | rfl
      · exact ⟨a1, a2⟩
      · exact ⟨a3, a4⟩)
  rw [g1, h1]
  clear g1
  walk_at "go"
  rw [lcN Sh.d rowD_ ss held_nil (fun s hs => by
    walk_at "go"
    rw [e_written s (os s hs).2 (os s hs).1]) (by omega)]
  walk_at "go"
  rw [zip_sh]
  have ok : ∀ x ∈ ss, SOk x := fun x hx => ⟨(os x hx).1, (os x hx).2, sh_len (os x hx).1 (os x hx).2⟩
  rw [loopg_same (fun d hd => by
    obtain ⟨s', hs', rfl⟩ := List.mem_map.mp hd
    exact ⟨_, by walk_at "go", law_b3 (ok s' hs') ok (some (.frz (ns.map D.int))) (some (.int i)) (some (.int more)) none y5 z11 own⟩)]
  walk_at "go"
  exact ⟨_, rfl⟩
theorem law_pure (ns : List Int) (hn : ns.length ≤ 63) : ∃ own, F_law [.frz (ns.map D.int)] [] = .ok (.bl true) own := by
  unfold F_law m_law l_law_4
  obtain ⟨n, hn2, hn3⟩ : ∃ n : Nat, max 1 (min 3 (ns.length : Int)) = n ∧ n ≤ 5 := ⟨(max 1 (min 3 (ns.length : Int))).toNat, by omega, by omega⟩
  walk_at "go"
  rw [List.length_map, hn2]
  obtain ⟨e', o', h1, z5, h2⟩ := rng_nx (j := 1) (b := b_law_4) (lo := 0) (hi := n) n (fun _ env _ => ∃ z5, env = [some (.frz (ns.map D.int)), none, none, none, none, z5, none, none, none, none, none, none]) (by omega) ⟨none, rfl⟩ (env := [some (.frz (ns.map D.int)), none, none, none, none, none, none, none, none, none, none, none]) (own := []) (by
    rintro i env o hi ⟨z5, rfl⟩
    obtain ⟨z', h⟩ := law_b4 ns i o hn (by omega) z5 none
    exact ⟨_, _, h, z', rfl⟩)
  rw [h1, h2]
  walk_at "go"
  exact ⟨_, rfl⟩
end Lw

set_option Elab.async false
set_option linter.all false
set_option maxRecDepth 100000
set_option maxHeartbeats 4000000
namespace Lw
open PySem PySem.Spec PyProof.Rows L2 HotX LamX Ws Mi
theorem mk_law {w : World} {K : PySem.W.Frag} {h : Heap} {mg : Str → Option Value} {fa : Addr} {e4 eW4 t_TERMS d_MOSTS d_LEASTS d_LENGTHS t_KINDS f_is_whole f_is_text f_codes_of f_refuse f_is_strand f_is_block f_are_terms f_is_right f_look_sheet f_three f_rest_of f_kind_of f_written_sheet f__law_cell f__law_signs f__law_text f__law_sheet f__law_near f__law_drawn f_law : Addr} {oc_is_whole kV_is_whole dc_is_whole pm_is_whole ct_is_whole cd_is_whole oc_is_text kV_is_text dc_is_text pm_is_text ct_is_text cd_is_text oc_codes_of kV_codes_of dc_codes_of pm_codes_of ct_codes_of cd_codes_of oc_refuse kV_refuse dc_refuse pm_refuse ct_refuse cd_refuse oc_is_strand kV_is_strand dc_is_strand pm_is_strand ct_is_strand cd_is_strand oc_is_block kV_is_block dc_is_block pm_is_block ct_is_block cd_is_block oc_are_terms kV_are_terms dc_are_terms pm_are_terms ct_are_terms cd_are_terms oc_is_right kV_is_right dc_is_right pm_is_right ct_is_right cd_is_right oc_look_sheet kV_look_sheet dc_look_sheet pm_look_sheet ct_look_sheet cd_look_sheet oc_three kV_three dc_three pm_three ct_three cd_three oc_rest_of kV_rest_of dc_rest_of pm_rest_of ct_rest_of cd_rest_of oc_kind_of kV_kind_of dc_kind_of pm_kind_of ct_kind_of cd_kind_of oc_written_sheet kV_written_sheet dc_written_sheet pm_written_sheet ct_written_sheet cd_written_sheet oc__law_cell kV__law_cell dc__law_cell pm__law_cell ct__law_cell cd__law_cell oc__law_signs kV__law_signs dc__law_signs pm__law_signs ct__law_signs cd__law_signs oc__law_text kV__law_text dc__law_text pm__law_text ct__law_text cd__law_text oc__law_sheet kV__law_sheet dc__law_sheet pm__law_sheet ct__law_sheet cd__law_sheet oc__law_near kV__law_near dc__law_near pm__law_near ct__law_near cd__law_near oc__law_drawn kV__law_drawn dc__law_drawn pm__law_drawn ct__law_drawn cd__law_drawn oc_law kV_law dc_law pm_law ct_law cd_law : Value} {od_is_whole an_is_whole od_is_text an_is_text od_codes_of an_codes_of od_refuse an_refuse od_is_strand an_is_strand od_is_block an_is_block od_are_terms an_are_terms od_is_right an_is_right od_look_sheet an_look_sheet od_three an_three od_rest_of an_rest_of od_kind_of an_kind_of od_written_sheet an_written_sheet od__law_cell an__law_cell od__law_signs an__law_signs od__law_text an__law_text od__law_sheet an__law_sheet od__law_near an__law_near od__law_drawn an__law_drawn od_law an_law : Option Addr} {ts_TERMS ts_KINDS sl_is_whole sl_is_text sl_codes_of sl_refuse sl_is_strand sl_is_block sl_are_terms sl_is_right sl_look_sheet sl_three sl_rest_of sl_kind_of sl_written_sheet sl__law_cell sl__law_signs sl__law_text sl__law_sheet sl__law_near sl__law_drawn sl_law : Array (Option Value)} {tk_SIGNS tk_MOST_STRAND tk_MOST_LENGTH tk0_TERMS tk1_TERMS tk2_TERMS tk3_TERMS tk_MOST_CODE tk_MOST_WEIGHT tk0_KINDS tk1_KINDS tk2_KINDS tk3_KINDS tk4_KINDS tk5_KINDS tk6_KINDS tk7_KINDS : Tok} {tn_TERMS dn_MOSTS dn_LEASTS dn_LENGTHS tn_KINDS : Nat} {de_MOSTS de_LEASTS de_LENGTHS : Array DictEntry} (X : K.In h) (G : h.Ns mainGlobals mg) (hfa : mg "law" = some (.ref fa)) 
    (ae4 : PySem.W.nsIn K mainGlobals "BadSheet" = some (some (.ref e4)))
    (aw4 : PySem.W.nsIn K mainGlobals "WireError" = some (some (.ref eW4)))
    (er4 : errIn K e4 eW4 = true)
    (z_isinstance : PySem.W.nsIn K mainGlobals "isinstance" = some none)
    (z_bool : PySem.W.nsIn K mainGlobals "bool" = some none)
    (z_int : PySem.W.nsIn K mainGlobals "int" = some none)
    (z_all : PySem.W.nsIn K mainGlobals "all" = some none)
    (z_len : PySem.W.nsIn K mainGlobals "len" = some none)
    (z_str : PySem.W.nsIn K mainGlobals "str" = some none)
    (z_ord : PySem.W.nsIn K mainGlobals "ord" = some none)
    (z_tuple : PySem.W.nsIn K mainGlobals "tuple" = some none)
    (z_zip : PySem.W.nsIn K mainGlobals "zip" = some none)
    (z_list : PySem.W.nsIn K mainGlobals "list" = some none)
    (z_range : PySem.W.nsIn K mainGlobals "range" = some none)
    (z_enumerate : PySem.W.nsIn K mainGlobals "enumerate" = some none)
    (z_max : PySem.W.nsIn K mainGlobals "max" = some none)
    (z_min : PySem.W.nsIn K mainGlobals "min" = some none)
    (g_SIGNS : PySem.W.nsIn K mainGlobals "SIGNS" = some (some (.str " !\"#$&'()*+,-./0123456789:;<=>?@ABCDEFGHIJKLMNOPQRSTUVWXYZ[\\]^_`abcdefghijklmnopqrstuvwxyz{|}~" tk_SIGNS)))
    (g_MOST_STRAND : PySem.W.nsIn K mainGlobals "MOST_STRAND" = some (some (.int 16777215 tk_MOST_STRAND)))
    (g_MOST_LENGTH : PySem.W.nsIn K mainGlobals "MOST_LENGTH" = some (some (.int 65535 tk_MOST_LENGTH)))
    (a_TERMS : PySem.W.nsIn K mainGlobals "TERMS" = some (some (.ref t_TERMS)))
    (l_TERMS : K.lookup t_TERMS = some ⟨.type "tuple", none, .seq #[.str "piece" tk0_TERMS, .str "room" tk1_TERMS, .str "strands" tk2_TERMS, .str "book" tk3_TERMS] tn_TERMS, ts_TERMS⟩)
    (a_MOSTS : PySem.W.nsIn K mainGlobals "MOSTS" = some (some (.ref d_MOSTS)))
    (l_MOSTS : K.lookup d_MOSTS = some { cls := .type "dict", data := .dict de_MOSTS dn_MOSTS })
    (k_MOSTS : PySem.W.KeysLit w.params de_MOSTS.toList)
    (s_MOSTS : (d_MOSTS == sysModules) = false)
    (b_MOSTS : tabB de_MOSTS.toList tab_MOSTS = true)
    (a_LEASTS : PySem.W.nsIn K mainGlobals "LEASTS" = some (some (.ref d_LEASTS)))
    (l_LEASTS : K.lookup d_LEASTS = some { cls := .type "dict", data := .dict de_LEASTS dn_LEASTS })
    (k_LEASTS : PySem.W.KeysLit w.params de_LEASTS.toList)
    (s_LEASTS : (d_LEASTS == sysModules) = false)
    (b_LEASTS : tabB de_LEASTS.toList tab_LEASTS = true)
    (g_MOST_CODE : PySem.W.nsIn K mainGlobals "MOST_CODE" = some (some (.int 9 tk_MOST_CODE)))
    (g_MOST_WEIGHT : PySem.W.nsIn K mainGlobals "MOST_WEIGHT" = some (some (.int 256 tk_MOST_WEIGHT)))
    (a_LENGTHS : PySem.W.nsIn K mainGlobals "LENGTHS" = some (some (.ref d_LENGTHS)))
    (l_LENGTHS : K.lookup d_LENGTHS = some { cls := .type "dict", data := .dict de_LENGTHS dn_LENGTHS })
    (k_LENGTHS : PySem.W.KeysLit w.params de_LENGTHS.toList)
    (s_LENGTHS : (d_LENGTHS == sysModules) = false)
    (b_LENGTHS : tabB de_LENGTHS.toList tab_LENGTHS = true)
    (a_KINDS : PySem.W.nsIn K mainGlobals "KINDS" = some (some (.ref t_KINDS)))
    (l_KINDS : K.lookup t_KINDS = some ⟨.type "tuple", none, .seq #[.str "piece" tk0_KINDS, .str "heads" tk1_KINDS, .str "rank" tk2_KINDS, .str "cut" tk3_KINDS, .str "terms" tk4_KINDS, .str "knock" tk5_KINDS, .str "last" tk6_KINDS, .str "room" tk7_KINDS] tn_KINDS, ts_KINDS⟩)
    (a_is_whole : PySem.W.nsIn K mainGlobals "is_whole" = some (some (.ref f_is_whole)))
    (l_is_whole : K.lookup f_is_whole = some ⟨oc_is_whole, od_is_whole, .func (PySem.W.fnOf "is_whole" "is_whole" (defArgs s_is_whole) (defBody s_is_whole) (defScope s_is_whole) .none kV_is_whole dc_is_whole pm_is_whole an_is_whole cd_is_whole ct_is_whole), sl_is_whole⟩)
    (c_is_whole : PySem.W.codeIn K cd_is_whole "is_whole" = true)
    (k_is_whole : PySem.W.keepIn K (.ref f_is_whole) = true)
    (a_is_text : PySem.W.nsIn K mainGlobals "is_text" = some (some (.ref f_is_text)))
    (l_is_text : K.lookup f_is_text = some ⟨oc_is_text, od_is_text, .func (PySem.W.fnOf "is_text" "is_text" (defArgs s_is_text) (defBody s_is_text) (defScope s_is_text) .none kV_is_text dc_is_text pm_is_text an_is_text cd_is_text ct_is_text), sl_is_text⟩)
    (c_is_text : PySem.W.codeIn K cd_is_text "is_text" = true)
    (k_is_text : PySem.W.keepIn K (.ref f_is_text) = true)
    (a_codes_of : PySem.W.nsIn K mainGlobals "codes_of" = some (some (.ref f_codes_of)))
    (l_codes_of : K.lookup f_codes_of = some ⟨oc_codes_of, od_codes_of, .func (PySem.W.fnOf "codes_of" "codes_of" (defArgs s_codes_of) (defBody s_codes_of) (defScope s_codes_of) .none kV_codes_of dc_codes_of pm_codes_of an_codes_of cd_codes_of ct_codes_of), sl_codes_of⟩)
    (c_codes_of : PySem.W.codeIn K cd_codes_of "codes_of" = true)
    (k_codes_of : PySem.W.keepIn K (.ref f_codes_of) = true)
    (a_refuse : PySem.W.nsIn K mainGlobals "refuse" = some (some (.ref f_refuse)))
    (l_refuse : K.lookup f_refuse = some ⟨oc_refuse, od_refuse, .func (PySem.W.fnOf "refuse" "refuse" (defArgs s_refuse) (defBody s_refuse) (defScope s_refuse) .none kV_refuse dc_refuse pm_refuse an_refuse cd_refuse ct_refuse), sl_refuse⟩)
    (c_refuse : PySem.W.codeIn K cd_refuse "refuse" = true)
    (k_refuse : PySem.W.keepIn K (.ref f_refuse) = true)
    (a_is_strand : PySem.W.nsIn K mainGlobals "is_strand" = some (some (.ref f_is_strand)))
    (l_is_strand : K.lookup f_is_strand = some ⟨oc_is_strand, od_is_strand, .func (PySem.W.fnOf "is_strand" "is_strand" (defArgs s_is_strand) (defBody s_is_strand) (defScope s_is_strand) .none kV_is_strand dc_is_strand pm_is_strand an_is_strand cd_is_strand ct_is_strand), sl_is_strand⟩)
    (c_is_strand : PySem.W.codeIn K cd_is_strand "is_strand" = true)
    (k_is_strand : PySem.W.keepIn K (.ref f_is_strand) = true)
    (a_is_block : PySem.W.nsIn K mainGlobals "is_block" = some (some (.ref f_is_block)))
    (l_is_block : K.lookup f_is_block = some ⟨oc_is_block, od_is_block, .func (PySem.W.fnOf "is_block" "is_block" (defArgs s_is_block) (defBody s_is_block) (defScope s_is_block) .none kV_is_block dc_is_block pm_is_block an_is_block cd_is_block ct_is_block), sl_is_block⟩)
    (c_is_block : PySem.W.codeIn K cd_is_block "is_block" = true)
    (k_is_block : PySem.W.keepIn K (.ref f_is_block) = true)
    (a_are_terms : PySem.W.nsIn K mainGlobals "are_terms" = some (some (.ref f_are_terms)))
    (l_are_terms : K.lookup f_are_terms = some ⟨oc_are_terms, od_are_terms, .func (PySem.W.fnOf "are_terms" "are_terms" (defArgs s_are_terms) (defBody s_are_terms) (defScope s_are_terms) .none kV_are_terms dc_are_terms pm_are_terms an_are_terms cd_are_terms ct_are_terms), sl_are_terms⟩)
    (c_are_terms : PySem.W.codeIn K cd_are_terms "are_terms" = true)
    (k_are_terms : PySem.W.keepIn K (.ref f_are_terms) = true)
    (a_is_right : PySem.W.nsIn K mainGlobals "is_right" = some (some (.ref f_is_right)))
    (l_is_right : K.lookup f_is_right = some ⟨oc_is_right, od_is_right, .func (PySem.W.fnOf "is_right" "is_right" (defArgs s_is_right) (defBody s_is_right) (defScope s_is_right) .none kV_is_right dc_is_right pm_is_right an_is_right cd_is_right ct_is_right), sl_is_right⟩)
    (c_is_right : PySem.W.codeIn K cd_is_right "is_right" = true)
    (k_is_right : PySem.W.keepIn K (.ref f_is_right) = true)
    (a_look_sheet : PySem.W.nsIn K mainGlobals "look_sheet" = some (some (.ref f_look_sheet)))
    (l_look_sheet : K.lookup f_look_sheet = some ⟨oc_look_sheet, od_look_sheet, .func (PySem.W.fnOf "look_sheet" "look_sheet" (defArgs s_look_sheet) (defBody s_look_sheet) (defScope s_look_sheet) .none kV_look_sheet dc_look_sheet pm_look_sheet an_look_sheet cd_look_sheet ct_look_sheet), sl_look_sheet⟩)
    (c_look_sheet : PySem.W.codeIn K cd_look_sheet "look_sheet" = true)
    (k_look_sheet : PySem.W.keepIn K (.ref f_look_sheet) = true)
    (a_three : PySem.W.nsIn K mainGlobals "three" = some (some (.ref f_three)))
    (l_three : K.lookup f_three = some ⟨oc_three, od_three, .func (PySem.W.fnOf "three" "three" (defArgs s_three) (defBody s_three) (defScope s_three) .none kV_three dc_three pm_three an_three cd_three ct_three), sl_three⟩)
    (c_three : PySem.W.codeIn K cd_three "three" = true)
    (k_three : PySem.W.keepIn K (.ref f_three) = true)
    (a_rest_of : PySem.W.nsIn K mainGlobals "rest_of" = some (some (.ref f_rest_of)))
    (l_rest_of : K.lookup f_rest_of = some ⟨oc_rest_of, od_rest_of, .func (PySem.W.fnOf "rest_of" "rest_of" (defArgs s_rest_of) (defBody s_rest_of) (defScope s_rest_of) .none kV_rest_of dc_rest_of pm_rest_of an_rest_of cd_rest_of ct_rest_of), sl_rest_of⟩)
    (c_rest_of : PySem.W.codeIn K cd_rest_of "rest_of" = true)
    (k_rest_of : PySem.W.keepIn K (.ref f_rest_of) = true)
    (a_kind_of : PySem.W.nsIn K mainGlobals "kind_of" = some (some (.ref f_kind_of)))
    (l_kind_of : K.lookup f_kind_of = some ⟨oc_kind_of, od_kind_of, .func (PySem.W.fnOf "kind_of" "kind_of" (defArgs s_kind_of) (defBody s_kind_of) (defScope s_kind_of) .none kV_kind_of dc_kind_of pm_kind_of an_kind_of cd_kind_of ct_kind_of), sl_kind_of⟩)
    (c_kind_of : PySem.W.codeIn K cd_kind_of "kind_of" = true)
    (k_kind_of : PySem.W.keepIn K (.ref f_kind_of) = true)
    (a_written_sheet : PySem.W.nsIn K mainGlobals "written_sheet" = some (some (.ref f_written_sheet)))
    (l_written_sheet : K.lookup f_written_sheet = some ⟨oc_written_sheet, od_written_sheet, .func (PySem.W.fnOf "written_sheet" "written_sheet" (defArgs s_written_sheet) (defBody s_written_sheet) (defScope s_written_sheet) .none kV_written_sheet dc_written_sheet pm_written_sheet an_written_sheet cd_written_sheet ct_written_sheet), sl_written_sheet⟩)
    (c_written_sheet : PySem.W.codeIn K cd_written_sheet "written_sheet" = true)
    (k_written_sheet : PySem.W.keepIn K (.ref f_written_sheet) = true)
    (a__law_cell : PySem.W.nsIn K mainGlobals "_law_cell" = some (some (.ref f__law_cell)))
    (l__law_cell : K.lookup f__law_cell = some ⟨oc__law_cell, od__law_cell, .func (PySem.W.fnOf "_law_cell" "_law_cell" (defArgs s__law_cell) (defBody s__law_cell) (defScope s__law_cell) .none kV__law_cell dc__law_cell pm__law_cell an__law_cell cd__law_cell ct__law_cell), sl__law_cell⟩)
    (c__law_cell : PySem.W.codeIn K cd__law_cell "_law_cell" = true)
    (k__law_cell : PySem.W.keepIn K (.ref f__law_cell) = true)
    (a__law_signs : PySem.W.nsIn K mainGlobals "_law_signs" = some (some (.ref f__law_signs)))
    (l__law_signs : K.lookup f__law_signs = some ⟨oc__law_signs, od__law_signs, .func (PySem.W.fnOf "_law_signs" "_law_signs" (defArgs s__law_signs) (defBody s__law_signs) (defScope s__law_signs) .none kV__law_signs dc__law_signs pm__law_signs an__law_signs cd__law_signs ct__law_signs), sl__law_signs⟩)
    (c__law_signs : PySem.W.codeIn K cd__law_signs "_law_signs" = true)
    (k__law_signs : PySem.W.keepIn K (.ref f__law_signs) = true)
    (a__law_text : PySem.W.nsIn K mainGlobals "_law_text" = some (some (.ref f__law_text)))
    (l__law_text : K.lookup f__law_text = some ⟨oc__law_text, od__law_text, .func (PySem.W.fnOf "_law_text" "_law_text" (defArgs s__law_text) (defBody s__law_text) (defScope s__law_text) .none kV__law_text dc__law_text pm__law_text an__law_text cd__law_text ct__law_text), sl__law_text⟩)
    (c__law_text : PySem.W.codeIn K cd__law_text "_law_text" = true)
    (k__law_text : PySem.W.keepIn K (.ref f__law_text) = true)
    (a__law_sheet : PySem.W.nsIn K mainGlobals "_law_sheet" = some (some (.ref f__law_sheet)))
    (l__law_sheet : K.lookup f__law_sheet = some ⟨oc__law_sheet, od__law_sheet, .func (PySem.W.fnOf "_law_sheet" "_law_sheet" (defArgs s__law_sheet) (defBody s__law_sheet) (defScope s__law_sheet) .none kV__law_sheet dc__law_sheet pm__law_sheet an__law_sheet cd__law_sheet ct__law_sheet), sl__law_sheet⟩)
    (c__law_sheet : PySem.W.codeIn K cd__law_sheet "_law_sheet" = true)
    (k__law_sheet : PySem.W.keepIn K (.ref f__law_sheet) = true)
    (a__law_near : PySem.W.nsIn K mainGlobals "_law_near" = some (some (.ref f__law_near)))
    (l__law_near : K.lookup f__law_near = some ⟨oc__law_near, od__law_near, .func (PySem.W.fnOf "_law_near" "_law_near" (defArgs s__law_near) (defBody s__law_near) (defScope s__law_near) .none kV__law_near dc__law_near pm__law_near an__law_near cd__law_near ct__law_near), sl__law_near⟩)
    (c__law_near : PySem.W.codeIn K cd__law_near "_law_near" = true)
    (k__law_near : PySem.W.keepIn K (.ref f__law_near) = true)
    (a__law_drawn : PySem.W.nsIn K mainGlobals "_law_drawn" = some (some (.ref f__law_drawn)))
    (l__law_drawn : K.lookup f__law_drawn = some ⟨oc__law_drawn, od__law_drawn, .func (PySem.W.fnOf "_law_drawn" "_law_drawn" (defArgs s__law_drawn) (defBody s__law_drawn) (defScope s__law_drawn) .none kV__law_drawn dc__law_drawn pm__law_drawn an__law_drawn cd__law_drawn ct__law_drawn), sl__law_drawn⟩)
    (c__law_drawn : PySem.W.codeIn K cd__law_drawn "_law_drawn" = true)
    (k__law_drawn : PySem.W.keepIn K (.ref f__law_drawn) = true)
    (a_law : PySem.W.nsIn K mainGlobals "law" = some (some (.ref f_law)))
    (l_law : K.lookup f_law = some ⟨oc_law, od_law, .func (PySem.W.fnOf "law" "law" (defArgs s_law) (defBody s_law) (defScope s_law) .none kV_law dc_law pm_law an_law cd_law ct_law), sl_law⟩)
    (c_law : PySem.W.codeIn K cd_law "law" = true)
    (k_law : PySem.W.keepIn K (.ref f_law) = true) :
    LamX.LawAtS PySem.Challenge.rw_wirestrands_k24_whole_sheets_told_apart w K (L2N.CX PySem.Challenge.pw_wirestrands_k24_whole_sheets_told_apart w) 6 63 "script" mg fa h := by
  have E_4 : Err1 K mg (fun i => [0, 0, 0, 0, e4, 0, 0].getD i 0) 4 := ⟨PySem.W.mg_of X G ae4, _, errC_of er4⟩
  have n_isinstance := PySem.W.mg_none_of X G z_isinstance
  have n_bool := PySem.W.mg_none_of X G z_bool
  have n_int := PySem.W.mg_none_of X G z_int
  have n_all := PySem.W.mg_none_of X G z_all
  have n_len := PySem.W.mg_none_of X G z_len
  have n_str := PySem.W.mg_none_of X G z_str
  have n_ord := PySem.W.mg_none_of X G z_ord
  have n_tuple := PySem.W.mg_none_of X G z_tuple
  have n_zip := PySem.W.mg_none_of X G z_zip
  have n_list := PySem.W.mg_none_of X G z_list
  have n_range := PySem.W.mg_none_of X G z_range
  have n_enumerate := PySem.W.mg_none_of X G z_enumerate
  have n_max := PySem.W.mg_none_of X G z_max
  have n_min := PySem.W.mg_none_of X G z_min
  have G_SIGNS := PySem.W.mg_of X G g_SIGNS
  have G_MOST_STRAND := PySem.W.mg_of X G g_MOST_STRAND
  have G_MOST_LENGTH := PySem.W.mg_of X G g_MOST_LENGTH
  have S_TERMS : ∀ H, SqT K H t_TERMS ((["piece", "room", "strands", "book"] : List Str).map V.str) := fun H => .inr ⟨_, _, _, l_TERMS, rfl, rfl, szle (by show 4 ≤ 100000; decide), .cons ⟨_, rfl⟩ (.cons ⟨_, rfl⟩ (.cons ⟨_, rfl⟩ (.cons ⟨_, rfl⟩ (.nil))))⟩
  have TC_TERMS : TupG K mg "TERMS" c_TERMS := ⟨t_TERMS, PySem.W.mg_of X G a_TERMS, fun ω ι => .tup (S_TERMS _) (RpAll.strs _), _, l_TERMS, rfl, rfl⟩
  have G_MOSTS := PySem.W.mg_of X G a_MOSTS
  have D0_MOSTS : KTab K w d_MOSTS tab_MOSTS := ktab_of l_MOSTS k_MOSTS s_MOSTS b_MOSTS
  have G_LEASTS := PySem.W.mg_of X G a_LEASTS
  have D0_LEASTS : KTab K w d_LEASTS tab_LEASTS := ktab_of l_LEASTS k_LEASTS s_LEASTS b_LEASTS
  have G_MOST_CODE := PySem.W.mg_of X G g_MOST_CODE
  have G_MOST_WEIGHT := PySem.W.mg_of X G g_MOST_WEIGHT
  have G_LENGTHS := PySem.W.mg_of X G a_LENGTHS
  have D0_LENGTHS : KTab K w d_LENGTHS tab_LENGTHS := ktab_of l_LENGTHS k_LENGTHS s_LENGTHS b_LENGTHS
  have S_KINDS : ∀ H, SqT K H t_KINDS ((["piece", "heads", "rank", "cut", "terms", "knock", "last", "room"] : List Str).map V.str) := fun H => .inr ⟨_, _, _, l_KINDS, rfl, rfl, szle (by show 8 ≤ 100000; decide), .cons ⟨_, rfl⟩ (.cons ⟨_, rfl⟩ (.cons ⟨_, rfl⟩ (.cons ⟨_, rfl⟩ (.cons ⟨_, rfl⟩ (.cons ⟨_, rfl⟩ (.cons ⟨_, rfl⟩ (.cons ⟨_, rfl⟩ (.nil))))))))⟩
  have TC_KINDS : TupG K mg "KINDS" c_KINDS := ⟨t_KINDS, PySem.W.mg_of X G a_KINDS, fun ω ι => .tup (S_KINDS _) (RpAll.strs _), _, l_KINDS, rfl, rfl⟩
  have D_is_whole : DefAt K mg "is_whole" s_is_whole := ⟨f_is_whole, _, fun_mk (st := s_is_whole) l_is_whole c_is_whole k_is_whole, PySem.W.mg_of X G a_is_whole⟩
  have D_is_text : DefAt K mg "is_text" s_is_text := ⟨f_is_text, _, fun_mk (st := s_is_text) l_is_text c_is_text k_is_text, PySem.W.mg_of X G a_is_text⟩
  have D_codes_of : DefAt K mg "codes_of" s_codes_of := ⟨f_codes_of, _, fun_mk (st := s_codes_of) l_codes_of c_codes_of k_codes_of, PySem.W.mg_of X G a_codes_of⟩
  have D_refuse : DefAt K mg "refuse" s_refuse := ⟨f_refuse, _, fun_mk (st := s_refuse) l_refuse c_refuse k_refuse, PySem.W.mg_of X G a_refuse⟩
  have D_is_strand : DefAt K mg "is_strand" s_is_strand := ⟨f_is_strand, _, fun_mk (st := s_is_strand) l_is_strand c_is_strand k_is_strand, PySem.W.mg_of X G a_is_strand⟩
  have D_is_block : DefAt K mg "is_block" s_is_block := ⟨f_is_block, _, fun_mk (st := s_is_block) l_is_block c_is_block k_is_block, PySem.W.mg_of X G a_is_block⟩
  have D_are_terms : DefAt K mg "are_terms" s_are_terms := ⟨f_are_terms, _, fun_mk (st := s_are_terms) l_are_terms c_are_terms k_are_terms, PySem.W.mg_of X G a_are_terms⟩
  have D_is_right : DefAt K mg "is_right" s_is_right := ⟨f_is_right, _, fun_mk (st := s_is_right) l_is_right c_is_right k_is_right, PySem.W.mg_of X G a_is_right⟩
  have D_look_sheet : DefAt K mg "look_sheet" s_look_sheet := ⟨f_look_sheet, _, fun_mk (st := s_look_sheet) l_look_sheet c_look_sheet k_look_sheet, PySem.W.mg_of X G a_look_sheet⟩
  have D_three : DefAt K mg "three" s_three := ⟨f_three, _, fun_mk (st := s_three) l_three c_three k_three, PySem.W.mg_of X G a_three⟩
  have D_rest_of : DefAt K mg "rest_of" s_rest_of := ⟨f_rest_of, _, fun_mk (st := s_rest_of) l_rest_of c_rest_of k_rest_of, PySem.W.mg_of X G a_rest_of⟩
  have D_kind_of : DefAt K mg "kind_of" s_kind_of := ⟨f_kind_of, _, fun_mk (st := s_kind_of) l_kind_of c_kind_of k_kind_of, PySem.W.mg_of X G a_kind_of⟩
  have D_written_sheet : DefAt K mg "written_sheet" s_written_sheet := ⟨f_written_sheet, _, fun_mk (st := s_written_sheet) l_written_sheet c_written_sheet k_written_sheet, PySem.W.mg_of X G a_written_sheet⟩
  have D__law_cell : DefAt K mg "_law_cell" s__law_cell := ⟨f__law_cell, _, fun_mk (st := s__law_cell) l__law_cell c__law_cell k__law_cell, PySem.W.mg_of X G a__law_cell⟩
  have D__law_signs : DefAt K mg "_law_signs" s__law_signs := ⟨f__law_signs, _, fun_mk (st := s__law_signs) l__law_signs c__law_signs k__law_signs, PySem.W.mg_of X G a__law_signs⟩
  have D__law_text : DefAt K mg "_law_text" s__law_text := ⟨f__law_text, _, fun_mk (st := s__law_text) l__law_text c__law_text k__law_text, PySem.W.mg_of X G a__law_text⟩
  have D__law_sheet : DefAt K mg "_law_sheet" s__law_sheet := ⟨f__law_sheet, _, fun_mk (st := s__law_sheet) l__law_sheet c__law_sheet k__law_sheet, PySem.W.mg_of X G a__law_sheet⟩
  have D__law_near : DefAt K mg "_law_near" s__law_near := ⟨f__law_near, _, fun_mk (st := s__law_near) l__law_near c__law_near k__law_near, PySem.W.mg_of X G a__law_near⟩
  have D__law_drawn : DefAt K mg "_law_drawn" s__law_drawn := ⟨f__law_drawn, _, fun_mk (st := s__law_drawn) l__law_drawn c__law_drawn k__law_drawn, PySem.W.mg_of X G a__law_drawn⟩
  have D_law : DefAt K mg "law" s_law := ⟨f_law, _, fun_mk (st := s_law) l_law c_law k_law, PySem.W.mg_of X G a_law⟩
  have e := hfa.symm.trans (PySem.W.mg_of X G a_law)
  cases e
  have HL : Hlp K mg (fun i => [0, 0, 0, 0, e4, 0, 0].getD i 0) := ⟨D__law_drawn⟩
  have T : Tx (Cn.mk K (fun _ => 0) (fun i => [0, 0, 0, 0, e4, 0, 0].getD i 0) [] []) mg w := ⟨HL, E_4, n_isinstance, n_bool, n_int, n_all, n_len, n_str, n_ord, n_tuple, n_zip, n_list, n_range, n_enumerate, n_max, n_min, ⟨_, G_SIGNS⟩, ⟨_, G_MOST_STRAND⟩, ⟨_, G_MOST_LENGTH⟩, TC_TERMS, ⟨_, G_MOSTS, D0_MOSTS⟩, ⟨_, G_LEASTS, D0_LEASTS⟩, ⟨_, G_MOST_CODE⟩, ⟨_, G_MOST_WEIGHT⟩, ⟨_, G_LENGTHS, D0_LENGTHS⟩, TC_KINDS, D_is_whole, D_is_text, D_codes_of, D_refuse, D_is_strand, D_is_block, D_are_terms, D_is_right, D_look_sheet, D_three, D_rest_of, D_kind_of, D_written_sheet, D__law_cell, D__law_signs, D__law_text, D__law_sheet, D__law_near⟩
  refine ⟨PySem.W.fnOf "law" "law" (defArgs s_law) (defBody s_law) (defScope s_law) .none kV_law dc_law pm_law an_law cd_law ct_law, [], spLaw K [], fun p hp => ?_, fun p hp => ?_, fun p hp => ?_, fun s u => .of_eq rfl, fun H a ns hl hb hT hS => ?_, fun base _ _ TB => ?_⟩
  · cases hp
  · cases hp
  · cases hp
  · refine ⟨a, ns, rfl, hS, hl, (fun p hp => ?_), fun _ => rfl⟩
    · cases hp
  · exact (ok_law T ⟨trivial⟩ (fun_mk (st := s_law) l_law c_law k_law) []).imp fun vs H Q E h => law_to law_pure h
end Lw
open PySem PySem.W PyProof.Rows
set_option maxRecDepth 100000 in
set_option maxHeartbeats 0 in
theorem PySem.Challenge.cw_wirestrands_k24_whole_sheets_told_apart_holds : PySem.Challenge.rw_wirestrands_k24_whole_sheets_told_apart.Holds := by
  w_on; o_law; k_head; (case hw => w_witness2)
  k_fill
  refine LamX.walk_ofTs (l := PySem.Challenge.rw_wirestrands_k24_whole_sheets_told_apart) (n := 63) (k := 6) (x := "script") (CX := fun w => L2N.CX PySem.Challenge.pw_wirestrands_k24_whole_sheets_told_apart w) rfl (by decide) rfl ⟨rfl, by decide, by decide⟩ (fun w h Y => PySem.W.kIn_of Y) ?F (fun w H s e s' z => by obtain ⟨_, _, _, _, _, _, _, _, _, _, _, _, q⟩ := z; exact q)
  case F =>
    intro w mg fa h Y KX G hmg
    clear Y
    refine' Lw.mk_law KX G hmg ?ae4 ?aw4 ?er4 ?z_isinstance ?z_bool ?z_int ?z_all ?z_len ?z_str ?z_ord ?z_tuple ?z_zip ?z_list ?z_range ?z_enumerate ?z_max ?z_min ?g_SIGNS ?g_MOST_STRAND ?g_MOST_LENGTH ?a_TERMS ?l_TERMS ?a_MOSTS ?l_MOSTS ?k_MOSTS ?s_MOSTS ?b_MOSTS ?a_LEASTS ?l_LEASTS ?k_LEASTS ?s_LEASTS ?b_LEASTS ?g_MOST_CODE ?g_MOST_WEIGHT ?a_LENGTHS ?l_LENGTHS ?k_LENGTHS ?s_LENGTHS ?b_LENGTHS ?a_KINDS ?l_KINDS ?a_is_whole ?l_is_whole ?c_is_whole ?k_is_whole ?a_is_text ?l_is_text ?c_is_text ?k_is_text ?a_codes_of ?l_codes_of ?c_codes_of ?k_codes_of ?a_refuse ?l_refuse ?c_refuse ?k_refuse ?a_is_strand ?l_is_strand ?c_is_strand ?k_is_strand ?a_is_block ?l_is_block ?c_is_block ?k_is_block ?a_are_terms ?l_are_terms ?c_are_terms ?k_are_terms ?a_is_right ?l_is_right ?c_is_right ?k_is_right ?a_look_sheet ?l_look_sheet ?c_look_sheet ?k_look_sheet ?a_three ?l_three ?c_three ?k_three ?a_rest_of ?l_rest_of ?c_rest_of ?k_rest_of ?a_kind_of ?l_kind_of ?c_kind_of ?k_kind_of ?a_written_sheet ?l_written_sheet ?c_written_sheet ?k_written_sheet ?a__law_cell ?l__law_cell ?c__law_cell ?k__law_cell ?a__law_signs ?l__law_signs ?c__law_signs ?k__law_signs ?a__law_text ?l__law_text ?c__law_text ?k__law_text ?a__law_sheet ?l__law_sheet ?c__law_sheet ?k__law_sheet ?a__law_near ?l__law_near ?c__law_near ?k__law_near ?a__law_drawn ?l__law_drawn ?c__law_drawn ?k__law_drawn ?a_law ?l_law ?c_law ?k_law
    (case ae4 => k_is)
    (case aw4 => k_is)
    (case er4 => kernel_rfl)
    (case z_isinstance => k_is)
    (case z_bool => k_is)
    (case z_int => k_is)
    (case z_all => k_is)
    (case z_len => k_is)
    (case z_str => k_is)
    (case z_ord => k_is)
    (case z_tuple => k_is)
    (case z_zip => k_is)
    (case z_list => k_is)
    (case z_range => k_is)
    (case z_enumerate => k_is)
    (case z_max => k_is)
    (case z_min => k_is)
    (case g_SIGNS => k_is)
    (case g_MOST_STRAND => k_is)
    (case g_MOST_LENGTH => k_is)
    (case a_TERMS => k_is)
    (case l_TERMS => k_is)
    (case a_MOSTS => k_is)
    (case l_MOSTS => k_is)
    (case k_MOSTS => exact ⟨⟨_, _, rfl, rfl⟩, ⟨_, _, rfl, rfl⟩, ⟨_, _, rfl, rfl⟩, ⟨_, _, rfl, rfl⟩, trivial⟩)
    (case s_MOSTS => decide)
    (case b_MOSTS => kernel_rfl)
    (case a_LEASTS => k_is)
    (case l_LEASTS => k_is)
    (case k_LEASTS => exact ⟨⟨_, _, rfl, rfl⟩, ⟨_, _, rfl, rfl⟩, ⟨_, _, rfl, rfl⟩, ⟨_, _, rfl, rfl⟩, trivial⟩)
    (case s_LEASTS => decide)
    (case b_LEASTS => kernel_rfl)
    (case g_MOST_CODE => k_is)
    (case g_MOST_WEIGHT => k_is)
    (case a_LENGTHS => k_is)
    (case l_LENGTHS => k_is)
    (case k_LENGTHS => exact ⟨⟨_, _, rfl, rfl⟩, ⟨_, _, rfl, rfl⟩, ⟨_, _, rfl, rfl⟩, ⟨_, _, rfl, rfl⟩, ⟨_, _, rfl, rfl⟩, ⟨_, _, rfl, rfl⟩, ⟨_, _, rfl, rfl⟩, ⟨_, _, rfl, rfl⟩, ⟨_, _, rfl, rfl⟩, ⟨_, _, rfl, rfl⟩, trivial⟩)
    (case s_LENGTHS => decide)
    (case b_LENGTHS => kernel_rfl)
    (case a_KINDS => k_is)
    (case l_KINDS => k_is)
    (case a_is_whole => k_is)
    (case l_is_whole => k_is)
    (case c_is_whole => k_is)
    (case k_is_whole => k_is)
    (case a_is_text => k_is)
    (case l_is_text => k_is)
    (case c_is_text => k_is)
    (case k_is_text => k_is)
    (case a_codes_of => k_is)
    (case l_codes_of => k_is)
    (case c_codes_of => k_is)
    (case k_codes_of => k_is)
    (case a_refuse => k_is)
    (case l_refuse => k_is)
    (case c_refuse => k_is)
    (case k_refuse => k_is)
    (case a_is_strand => k_is)
    (case l_is_strand => k_is)
    (case c_is_strand => k_is)
    (case k_is_strand => k_is)
    (case a_is_block => k_is)
    (case l_is_block => k_is)
    (case c_is_block => k_is)
    (case k_is_block => k_is)
    (case a_are_terms => k_is)
    (case l_are_terms => k_is)
    (case c_are_terms => k_is)
    (case k_are_terms => k_is)
    (case a_is_right => k_is)
    (case l_is_right => k_is)
    (case c_is_right => k_is)
    (case k_is_right => k_is)
    (case a_look_sheet => k_is)
    (case l_look_sheet => k_is)
    (case c_look_sheet => k_is)
    (case k_look_sheet => k_is)
    (case a_three => k_is)
    (case l_three => k_is)
    (case c_three => k_is)
    (case k_three => k_is)
    (case a_rest_of => k_is)
    (case l_rest_of => k_is)
    (case c_rest_of => k_is)
    (case k_rest_of => k_is)
    (case a_kind_of => k_is)
    (case l_kind_of => k_is)
    (case c_kind_of => k_is)
    (case k_kind_of => k_is)
    (case a_written_sheet => k_is)
    (case l_written_sheet => k_is)
    (case c_written_sheet => k_is)
    (case k_written_sheet => k_is)
    (case a__law_cell => k_is)
    (case l__law_cell => k_is)
    (case c__law_cell => k_is)
    (case k__law_cell => k_is)
    (case a__law_signs => k_is)
    (case l__law_signs => k_is)
    (case c__law_signs => k_is)
    (case k__law_signs => k_is)
    (case a__law_text => k_is)
    (case l__law_text => k_is)
    (case c__law_text => k_is)
    (case k__law_text => k_is)
    (case a__law_sheet => k_is)
    (case l__law_sheet => k_is)
    (case c__law_sheet => k_is)
    (case k__law_sheet => k_is)
    (case a__law_near => k_is)
    (case l__law_near => k_is)
    (case c__law_near => k_is)
    (case k__law_near => k_is)
    (case a__law_drawn => k_is)
    (case l__law_drawn => k_is)
    (case c__law_drawn => k_is)
    (case k__law_drawn => k_is)
    (case a_law => k_is)
    (case l_law => k_is)
    (case c_law => k_is)
    (case k_law => k_is)
#print axioms PySem.Challenge.cw_wirestrands_k24_whole_sheets_told_apart_holds
