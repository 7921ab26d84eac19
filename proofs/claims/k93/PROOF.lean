import PyProof.Rows.All
import Wide.All
import OpenK.AllK
import Wide.FinOn
import PyProof.SumWalk
import HandS.ForMost
import HandS.Evl
import HandS.Exc
import HandS.ExcInit
import HandS.ExcCtx
import HandS.Hot
import HandS.HotCalls
import HandS.ExcInitHot
import HandS.ExcIs
import HandS.ExcField
import HandS.IsInst
import KE.KExcIs
import HandS.Wide
import HandS.ForExc
import KE.DataCmp
import KE.GoesMore
import KE.KTupSum
import KE.KMathGC
import HandS.Gcd
import HandS.TupAny
import PySem.Challenge.RW_unmovedforms_k93_monomials_in_order
set_option Elab.async false
set_option linter.all false
set_option maxRecDepth 100000
set_option maxHeartbeats 4000000
/-! # While an exception is handled: lists walked, summed, and what is asked of the exception itself -/
namespace UfH
open PySem PySem.Spec PyProof.Rows L2 HotX
abbrev SL := L2.St

section
variable {prog : Program} {w : World} {A : Around} {E : Value → Shared → Prop} {s : Shared}
/-- a list's iterator at its end, an exception being handled -/
theorem list_end_hot {it l x1 : Addr} {i : Nat} {items : Array Value} {Q : Option Value → Shared → Prop} (hot : HotAt A x1 s.heap) (ne : x1 ≠ it)
    (hit : s.heap.IsListIter it l i) (hl : s.heap.IsList l items) (hx : items[i]? = none)
    (hQ : ∀ h', (∀ b o, b ≠ it → s.heap.get? b = some o → h'.get? b = some o) → Q none { s with heap := h' }) :
    wpAny (model prog w) A (pyNext (.ref it)) Q E s := by
  obtain ⟨oi, hoi, hci, hdi⟩ := id hit
  obtain ⟨ol, hol, hcl, nl, hdl⟩ := hl
  obtain ⟨hh, o1, vs1, h1, d1, c1⟩ := hot
  unfold pyNext
  refine wpAny_bind (wpAny_attempt (wpAny_callSpecial?_slot (name := Str.ofString "__next__") hit.typeIs slot_listiter_next
    (wpAny_call_entry slot_listiter_next hit.typeIs entry_listiter_next ?_ (args_listiter_next _))))
  show wpAny _ _ (field (.ref it) 0 >>= _) _ _ s
  refine wpAny_bind (wpAny_field hoi hdi (x := .ref l) rfl ?_)
  show wpAny _ _ (if (Value.ref l == Value.none) = true then _ else _) _ _ s
  rw [if_neg (show ¬ ((Value.ref l == Value.none) = true) from Bool.false_ne_true)]
  show wpAny _ _ (field (.ref it) 1 >>= _) _ _ s
  refine wpAny_bind (wpAny_field hoi hdi (x := .int i 0) rfl ?_)
  show wpAny _ _ (seqItems? (.ref l) >>= _) _ _ s
  refine wpAny_bind (wpAny_seqItems hol hdl ?_)
  simp only [Int.toNat_natCast, hx]
  refine wpAny_bind (wpAny_rule (wpAny_bind (wpAny_setField hoi hdi (by simp) ?_)))
  show wpAny _ _ (newExc (.type "StopIteration") [] >>= _) _ _ _
  refine wpAny_bind ?_
  simp only [newExc, newTuple]
  refine wpAny_bind (wpAny_newObj_type ?_ (by size_fits))
  refine wpAny_bind (m := firstArgMember _ _) (wpAny_of_eq (a := Value.none) (by first | rfl | (simp only [firstArgMember]; rfl)) ?_)
  refine wpAny_newObj_type ?_ (by size_fits)
  have k2 : ∀ b o, b ≠ it → s.heap.get? b = some o → (s.heap.update it (Obj.mapFields (·.setIfInBounds 0 Value.none))).get? b = some o := fun b o nb e =>
    (Heap.get?_update_other _ _ (Ne.symm nb)).trans e
  have k4 := fun b o nb e => Heap.get?_push_of_some { cls := .type "tuple", data := .seq #[] } (k2 b o nb e)
  refine raiseNew_hot ⟨hh, o1, vs1, Heap.get?_push_of_some _ (k4 _ _ ne h1), d1, c1⟩ (Nat.ne_of_lt (Heap.lt_size (k4 _ _ ne h1)))
    (Heap.get?_push_size _ rfl) rfl (by first | (simp; done) | (simp; omega)) ?_
  refine wpAny_bind (wpAny_isInstance (b := true) (T := "StopIteration") ⟨_, Heap.get?_update_self _ (Heap.get?_push_size _ rfl) rfl, rfl⟩ isSubtype_stop ?_)
  refine wpAny_pure (hQ _ fun b o nb e => ?_)
  have lt := Heap.lt_size (k4 b o nb e)
  rw [Heap.get?_update_other _ _ (Nat.ne_of_gt lt)]
  exact Heap.get?_push_of_some _ (k4 b o nb e)
/-- sum of a list of small ints -/
theorem walks_hot (x1 I ax : Addr) (hne : ax ≠ I) (h1 : x1 ≠ I) (o1 : Obj) (vs1 : Array Value) (d1 : o1.data = .fields vs1) (c1 : vs1[2]? = some .none)
    (hh : A.handled = some (.ref x1)) (items : Array Value) : Walks prog w A I [I, ax, x1] [I] items.size (fun i v => items[i]? = some v)
      (fun i h => h.IsListIter I ax i ∧ h.IsList ax items ∧ h.get? x1 = some o1) where
  sub := fun b hb => by
    obtain rfl := List.mem_singleton.mp hb
    exact List.mem_cons_self
  frame := fun _ _ _ st hk => ⟨st.1.at fun o e => hk I (by simp) o e, st.2.1.at fun o e => hk ax (by simp) o e, hk x1 (by simp) o1 st.2.2⟩
  item := fun i s Q E hi st hQ => by
    refine wpAny_pyNext_list_item st.1 st.2.1 (Array.getElem?_eq_getElem hi) fun h' hit' hs' => ?_
    exact hQ _ h' s.toks (Array.getElem?_eq_getElem hi) ⟨hit', st.2.1.extBut hs'.extBut hne, hs'.extBut x1 o1 h1 st.2.2⟩ fun b o hb e => hs'.extBut b o (fun z => hb (by simp [z])) e
  done := fun s Q E st hQ => list_end_hot ⟨hh, o1, vs1, st.2.2, d1, c1⟩ h1 st.1 st.2.1 (Array.getElem?_eq_none (Nat.le_refl _))
    fun h' k => hQ h' s.toks fun b o hb e => k b o (fun z => hb (by simp [z])) e
  self := fun _ _ _ _ st hQ => wpAny_pyIter_listiter st.1 hQ

theorem pre_sum (ns : List Int) : ∀ n, n ≤ ns.length → preSum (fun i => ns.getD i 0) n = (ns.take n).sum
  | 0, _ => rfl
  | n + 1, h => by
    have e : ns[n]? = some ns[n] := List.getElem?_eq_getElem (by omega)
    show preSum (fun i => ns.getD i 0) n + ns.getD n 0 = _
    have e2 : ns.getD n 0 = ns[n] := by simp [List.getD, e]
    rw [pre_sum ns n (by omega), List.take_add_one, e, e2, List.sum_append]
    show _ = _ + (ns[n] + 0)
    rw [Int.add_zero]
theorem small_sum : ∀ ns : List Int, (∀ n ∈ ns, 0 ≤ n ∧ n ≤ 1) → 0 ≤ ns.sum ∧ ns.sum ≤ ns.length
  | [], _ => ⟨Int.le_refl _, Int.le_refl _⟩
  | a :: r, h => by
    have h1 := h a List.mem_cons_self
    have h2 := small_sum r fun n hn => h n (List.mem_cons_of_mem _ hn)
    rw [List.sum_cons, List.length_cons]
    omega
theorem sum_hot {l x1 : Addr} {its : List Value} {ns : List Int} {Q : Value → Shared → Prop} (hot : HotAt A x1 s.heap) (hl : s.heap.IsList l its.toArray) (r : Vals (ns.map V.int) its)
    (hb : ∀ n ∈ ns, 0 ≤ n ∧ n ≤ 1) (hz : ns.length ≤ 1000)
    (h : ∀ h' tk t', (∀ b o, s.heap.get? b = some o → h'.get? b = some o) → Q (.int ns.sum t') { s with heap := h', toks := tk }) :
    wpAny (model prog w) A (call (.builtin "sum") [.ref l]) Q E s := by
  obtain ⟨hh, o1, vs1, g1, d1, c1⟩ := hot
  obtain ⟨ol, hol, _⟩ := id hl
  have hne : l ≠ s.heap.objs.size := Nat.ne_of_lt (Heap.lt_size hol)
  have h1 : x1 ≠ s.heap.objs.size := Nat.ne_of_lt (Heap.lt_size g1)
  have len : its.toArray.size = ns.length := by
    rw [List.size_toArray, ← r.length, List.length_map]
  have W := walks_hot (prog := prog) (w := w) (A := A.in1) x1 s.heap.objs.size l hne h1 o1 vs1 d1 c1 hh its.toArray
  rw [len] at W
  have nth : ∀ i (v : Value), its.toArray[i]? = some v → ∃ t, v = .int (ns.getD i 0) t := fun i v hv => by
    have hi : i < ns.length := by
      rw [← len]
      exact (Array.getElem?_eq_some_iff.mp hv).1
    obtain ⟨u, hu, ru⟩ := r.get (i := i) (x := .int ns[i]) (by rw [List.getElem?_map, List.getElem?_eq_getElem hi]; rfl)
    have e : its[i]? = some v := by
      rw [← hv]
      simp
    rw [hu] at e
    cases e
    obtain ⟨t, rfl⟩ := ru
    exact ⟨t, by simp [List.getD, List.getElem?_eq_getElem hi]⟩
  refine call_sum_walk (wpAny_pyIter_list hl ?_)
  refine ⟨s.heap.objs.size, _, _, _, _, _, _, rfl, W, ⟨⟨_, Heap.get?_push_size _ rfl, rfl, rfl⟩, hl.at fun o e => Heap.get?_push_of_some _ e, Heap.get?_push_of_some _ g1⟩, fun b hb' => ?_, nth, fun j hj => ?_, fun h' tk t' hk => ?_⟩
  · rw [Heap.size_push]
    simp only [List.mem_cons, List.not_mem_nil, or_false] at hb'
    rcases hb' with rfl | rfl | rfl
    · exact Nat.lt_succ_self _
    · exact Nat.lt_succ_of_lt (Heap.lt_size hol)
    · exact Nat.lt_succ_of_lt (Heap.lt_size g1)
  · have e : ns.getD j 0 = ns[j] := by simp [List.getD, List.getElem?_eq_getElem hj]
    have b1 := hb ns[j] (List.getElem_mem hj)
    have b2 := small_sum (ns.take (j + 1)) fun n hn => hb n (List.mem_of_mem_take hn)
    rw [List.length_take] at b2
    rw [pre_sum ns (j + 1) hj]
    show (-(2 ^ 63) ≤ ns.getD j 0 ∧ ns.getD j 0 < 2 ^ 63) ∧ -(2 ^ 63) ≤ (ns.take (j + 1)).sum ∧ (ns.take (j + 1)).sum < 2 ^ 63
    rw [e]
    omega
  · rw [pre_sum ns ns.length (Nat.le_refl _), List.take_length]
    exact h h' tk t' fun b o e => hk b o (fun z => absurd (Heap.lt_size e) ((List.mem_singleton.mp z) ▸ Nat.lt_irrefl _)) (Heap.get?_push_of_some _ e)
end

/-! ### the judgements there -/
section
variable {X : Cx}
/-- sum(xs), xs a list of noughts and ones -/
def rSumH (K : PySem.W.Frag) : List V → Hp → VK → Prop := fun vs H Q => ∃ (a : Addr) (ns : List Int), vs = [V.ref a] ∧ SqL K H a (ns.map V.int) ∧ (∀ n ∈ ns, 0 ≤ n ∧ n ≤ 1) ∧ ns.length ≤ 1000 ∧ Q (.int ns.sum) H
theorem cr_sumH (hc : L2H.HotC X) : CallR X (.builtin "sum") (rSumH X.K) := by
  intro pins s σ H vs us Q I r h
  obtain ⟨a, ns, rfl, hs, hb, hz, q⟩ := h
  obtain ⟨its, rv, hl, _⟩ := I.list hs
  obtain ⟨x1, hot⟩ := hc.at I
  rw [Vals.ref1 r]
  exact sum_hot hot hl.isList rv hb hz fun h' tk t' hk => ⟨.int _, H, I.kept hk, ⟨_, rfl⟩, q⟩
/-- the turns of [elt for target in a list]: D the new list -/
def tLcH (K : PySem.W.Frag) (tl : TE) (g : TG) (te : TE) (vs : List Nat) : TE := fun σ H Q => tl σ H fun x H1 => ∃ a xs, x = .ref a ∧ SqL K H1 a xs ∧ ∀ D, H1 D = none → ∃ W : Nat → Hp → Prop, W 0 (upd H1 D (.lst [])) ∧
  (∀ i H, i ≤ xs.length → W i H → SqL K H a xs) ∧ (∀ i x H, xs[i]? = some x → W i H → g x (wipe σ vs) H fun σ2 H2 => wipe σ2 vs = wipe σ vs ∧ te σ2 H2 fun y H4 => ∃ acc, H4 D = some (.lst acc) ∧ acc.length < sizeLine ∧ W (i + 1) (upd H4 D (.lst (acc ++ [y])))) ∧
  ∀ H, W xs.length H → Q (.ref D) H
theorem pe_lcH {elt tg l : Expr} {scope : Scope} {own : List (Str × Nat)} {pos : Pos} {tl : TE} {g : TG} {te : TE} (hc : L2H.HotC X) (hN : X.N.Nodup) (hl : PE X l tl) (ok : BlkOk X.N X.env.scope scope own)
    (hg : ∀ (s : Shared) (H : Hp) (C : Addr) (cl : List (Str × Addr)) (fp : List Addr), PG (X.blk s H scope (compEnvC scope cl C X.env) fp) tg g)
    (he : ∀ (s : Shared) (H : Hp) (C : Addr) (cl : List (Str × Addr)) (fp : List Addr), PE (X.blk s H scope (compEnvC scope cl C X.env) fp) elt te)
    (hs : ∀ x, foldedSetIterable l X.env x = pure x := by intro _; rfl) :
    PE X (.ListComp elt [⟨tg, l, [], 0⟩] scope pos) (tLcH X.K tl g te (own.map (·.2))) := by
  refine ⟨fun pins s σ H Q I h => ?_⟩
  rw [eval_ListComp]
  obtain ⟨p1, hot1, hp1⟩ := hc
  have cells : ∀ y ∈ scope.names, y.2 = .free → ∃ c, X.env.cells.lookup y.1 = some c := fun y hy e => by
    rcases ok.free y hy e with k | k
    · exact I.ok.has _ (Or.inl k)
    · exact I.ok.has _ (Or.inr k)
  refine wpAny_comprehension_free (use := none) rfl hs (closure_ok cells) ok.kind (fun y hy e => by rw [ok.uniq y hy, e]) ?_
  refine thn (hl.run pins s σ H _ I h) fun v s1 hv => ?_
  obtain ⟨x, H2, I1, r1, a, xs, ex, hq, q⟩ := hv
  subst ex
  obtain rfl : v = Value.ref a := r1
  obtain ⟨its, rv, pl, hz⟩ := I1.list hq
  refine wpAny_pyIter_list pl.isList ?_
  generalize hs2 : ({ s1 with heap := s1.heap.push { cls := .type "list_iterator", data := .fields #[.ref a, .int 0 0] } } : Shared) = s2
  generalize hit : s1.heap.objs.size = it
  have I2 : Inv X pins σ H2 s2 := by
    rw [← hs2]
    exact I1.kept (t' := s1.toks) fun b o e => Heap.get?_push_of_some _ e
  have st2 : s2.heap.IsListIter it a 0 := by
    rw [← hs2, ← hit]
    exact ⟨_, Heap.get?_push_size _ rfl, rfl, rfl⟩
  have lt2 : it < s2.heap.objs.size := by
    obtain ⟨o, e, _⟩ := st2
    exact Heap.lt_size e
  have f2 : FpOk X pins H2 it := by
    have z := I1.fpOk (b := it) (H' := H2) (Nat.le_of_eq hit) (I1.hok.fresh (Nat.le_of_eq hit))
    exact z
  refine wpAny_newObj_type (newEnv_comp ?_) (by show 0 ≤ sizeLine; decide)
  generalize hD : s2.heap.objs.size = D
  have hDn : H2 D = none := I2.hok.fresh (Nat.le_of_eq hD)
  obtain ⟨W, w0, stay, turn, fin⟩ := q D hDn
  generalize hs3 : ({ s2 with heap := s2.heap.push { cls := .type "list", data := .seq ([] : List Value).toArray } } : Shared) = s3
  have I3 : Inv X pins σ (upd H2 D (.lst [])) s3 := by
    rw [← hs3]
    refine I2.laid (t' := s2.toks) (fun b o e => Heap.get?_push_of_some _ e) (Nat.le_of_eq hD) ⟨Nat.zero_le _, [], 0, .nil, ?_⟩
    rw [← hD]
    exact Heap.get?_push_size _ rfl
  have h3 : s3.heap = s2.heap.push { cls := .type "list", data := .seq ([] : List Value).toArray } := by rw [← hs3]
  have f3 : ∀ b ∈ [it], FpOk X pins (upd H2 D (.lst [])) b ∧ b < s3.heap.objs.size := fun b hb => by
    obtain rfl := List.mem_singleton.mp hb
    have nD : b ≠ D := by
      rw [← hD]
      exact Nat.ne_of_lt lt2
    refine ⟨⟨?_, f2.2⟩, ?_⟩
    · rw [upd_ne nD]
      exact f2.1
    · rw [h3, Heap.size_push]
      exact Nat.lt_succ_of_lt lt2
  have st3 : s3.heap.IsListIter it a 0 := st2.at fun o e => by
    rw [h3]
    exact Heap.get?_push_of_some _ e
  have I4 := block_start I3 ok hN f3
  have P3 := I3.pin p1 (List.mem_append_left _ hp1)
  have pg := hg s3 (upd H2 D (.lst [])) s3.heap.objs.size (cellsFrom (s3.heap.objs.size + 1) scope.names (cloFrom X.env.cells scope.names [])) [it]
  have pe := he s3 (upd H2 D (.lst [])) s3.heap.objs.size (cellsFrom (s3.heap.objs.size + 1) scope.names (cloFrom X.env.cells scope.names [])) [it]
  show codeAny _ _ (.compStart (.ListComp elt [⟨tg, l, [], 0⟩] scope pos) 0 (.ref it) (.ref D) (compEnvC scope (cellsFrom (s3.heap.objs.size + 1) scope.names (cloFrom X.env.cells scope.names [])) s3.heap.objs.size X.env))
    (compPost (model X.prog X.w) X.A X.xe none _ (.ref D) s3.heap.objs.size) { s3 with heap := pushCells (s3.heap.push { cls := .type "dict", data := .dict #[] }) scope.names }
  have nIt : (upd H2 D (.lst [])) it = none := (f3 it List.mem_cons_self).1.1
  generalize hce : compEnvC scope (cellsFrom (s3.heap.objs.size + 1) scope.names (cloFrom X.env.cells scope.names [])) s3.heap.objs.size X.env = ce at I4 pg pe ⊢
  have cL : ce.locals = s3.heap.objs.size := by
    subst hce
    rfl
  generalize hH3 : upd H2 D (.lst []) = H3 at I3 I4 pg pe w0 nIt f3 P3
  generalize hs4 : ({ s3 with heap := pushCells (s3.heap.push { cls := .type "dict", data := .dict #[] }) scope.names } : Shared) = s4 at I4 ⊢
  have st4 : s4.heap.IsListIter it a 0 := st3.at fun o e => by
    rw [← hs4]
    exact pushCells_keeps _ _ _ _ (Heap.get?_push_of_some _ e)
  have p1it : p1.1 ≠ it := fun z => by
    have f := (f3 it List.mem_cons_self).1.2.2.2.2.2 p1 (List.mem_append_left _ hp1)
    exact f z
  have stat : ∀ {σ' : SL} {H' : Hp} {s' : Shared}, Inv (X.blk s3 H3 scope ce [it]) [] σ' H' s' → H' it = none → FpOk (X.blk s3 H3 scope ce [it]) [] H' it := fun {σ' H' s'} I' hn =>
    ⟨hn, (I'.ok.exf it List.mem_cons_self).1, I'.ok.exfs it List.mem_cons_self, .inl List.mem_cons_self, fun x c e => (I'.ok.exf it List.mem_cons_self).2 x c e, fun p hp => absurd (show p ∈ ([] : List (Addr × Obj)) ++ [] from hp) (by simp)⟩
  have hotAt : ∀ {σ' : SL} {H' : Hp} {s' : Shared}, Inv (X.blk s3 H3 scope ce [it]) [] σ' H' s' → HotAt X.A p1.1 s'.heap := fun {σ' H' s'} I' => by
    obtain ⟨hh, vs, d1, c1⟩ := hot1
    have nf : p1.1 ∉ frs X.stack := fun z => (List.mem_cons.mp (I3.stkSub p1.1 z)).elim P3.2.2.1 P3.2.2.2.1
    refine ⟨hh, p1.2, vs, I'.base.keep p1.1 p1.2 P3.1 P3.2.1 nf (fun z => p1it (List.mem_singleton.mp z)), d1, c1⟩
  have loop : codeAny (model X.prog X.w) X.A (.compLoop (.ListComp elt [⟨tg, l, [], 0⟩] scope pos) 0 (.ref it) (.ref D) ce)
      (compPost (model X.prog X.w) X.A X.xe none (EP X pins σ Q) (.ref D) s3.heap.objs.size) s4 := by
    refine compLoop_any (fun n s' => ∃ i H', n + i = xs.length ∧ Inv (X.blk s3 H3 scope ce [it]) [] (wipe σ (own.map (·.2))) H' s' ∧ s'.heap.IsListIter it a i ∧ H' it = none ∧ W i H') ?_ xs.length ⟨0, H3, rfl, I4, st4, nIt, w0⟩
    rintro n s5 ⟨i, H5, en, I5, st5, n5, w5⟩
    obtain ⟨its5, rv5, pl5, _⟩ := I5.list (stay i H5 (by omega) w5)
    obtain ⟨f0, f1, f2, f3', f4, f5⟩ := stat I5 n5
    cases n with
    | zero =>
      have ei : i = xs.length := by omega
      subst ei
      have ls := rv5.length
      refine list_end_hot (hotAt I5) p1it st5 pl5.isList (by simp; omega) fun h6 k6 => ?_
      have I6 : Inv (X.blk s3 H3 scope ce [it]) [] (wipe σ (own.map (·.2))) H5 { s5 with heap := h6 } := I5.turned (t' := s5.toks) (fun b o hb e => k6 b o hb e) f0 f1 f3' f4 f5
      have I7 : Inv X pins σ H5 { s5 with heap := h6 } := I3.call' (ch := [it]) I6.os I6.base I6.hok I6.bare fun b hb => ⟨(f3 b hb).1.2.2.2.1, (f3 b hb).1.2.1, (f3 b hb).1.2.2.2.2.1, (f3 b hb).1.2.2.2.2.2⟩
      have nC : H5 s3.heap.objs.size = none := by
        have z : H5 ce.locals = none := I6.free
        rw [cL] at z
        exact z
      obtain ⟨m, hn, _⟩ := I6.loc
      have hn : h6.Ns ce.locals m := hn
      rw [cL] at hn
      refine ⟨m, hn, fun h'' sb => ?_⟩
      obtain ⟨g0, g1, g2, g3, g4, g5⟩ := I3.fpOk (b := s3.heap.objs.size) (H' := H5) (Nat.le_refl _) nC
      exact ⟨.ref D, H5, I7.turned (t' := s5.toks) (fun b o hb e => (sb.2 b hb).trans e) g0 g1 g3 g4 g5, rfl, fin H5 w5⟩
    | succ n =>
      have hi : i < xs.length := by omega
      have hx : xs[i]? = some xs[i] := List.getElem?_eq_getElem hi
      obtain ⟨u, hu, ru⟩ := rv5.get hx
      refine wpAny_pyNext_list_item st5 pl5.isList (x := u) (by simpa using hu) fun h6 st6 sb6 => ?_
      have I6 : Inv (X.blk s3 H3 scope ce [it]) [] (wipe σ (own.map (·.2))) H5 { s5 with heap := h6 } := I5.turned (t' := s5.toks) (fun b o hb e => (sb6.2 b hb).trans e) f0 f1 f3' f4 f5
      obtain ⟨oi, ei, ci, di⟩ := id st6
      refine go_of (s := { s5 with heap := h6 }) ei ci di (by decide) ?_
      have obj : ∀ b ∈ [it], ∃ o, h6.get? b = some o ∧ ∀ v, o.data ≠ .cell v := fun b hb => by
        obtain rfl := List.mem_singleton.mp hb
        exact ⟨oi, ei, fun v z => by rw [di] at z; cases z⟩
      have I6' := I6.pinned (fp := [it]) (fun b hb => by obtain rfl := List.mem_singleton.mp hb; exact stat I6 n5) obj
      refine thnF (pg.run _ { s5 with heap := h6 } _ H5 xs[i] u _ I6' ru (turn i _ H5 hx w5)) fun _ s8 ⟨σ8, H8, I8, hw8, q8⟩ => ?_
      refine wpAny_tests_nil ?_
      simp only [if_true]
      refine thnF (pe.run _ s8 σ8 H8 _ I8 q8) fun z s10 ⟨yv, H10, I10, r10, acc, hD10, hz10, nx⟩ => ?_
      refine app_ok (X := X.blk s3 H3 scope ce [it]) I10 hD10 hz10 r10 fun s11 I11 => ⟨n, Nat.lt_succ_self n, i + 1, _, by omega, ?_, ?_, ?_, nx⟩
      · have hlen : (wipe σ (own.map (·.2))).length = σ8.length := by rw [← hw8, wipe_length]
        refine (I11.unpinned (pins := [])).weak hlen fun j v e => ?_
        rw [← hw8] at e
        exact (wipe_some e).1
      · refine st6.at fun o e => ?_
        exact (I11.pin (it, o) (List.mem_append_right _ (List.mem_append_right _ (mem_pinsAt List.mem_cons_self e)))).1
      · exact (I11.pin (it, oi) (List.mem_append_right _ (List.mem_append_right _ (mem_pinsAt List.mem_cons_self ei)))).2.1
  exact codeAny_compStart_list loop (wpAny_pyIter_listiter st4 loop)
end

/-! ### a def that is called with the exception that is handled -/
/-- its promise may speak of the exception's place and object p -/
structure FnE (P : Program) (w : World) (K : PySem.W.Frag) (mg : Str → Option Value) (base : Heap) (k : Nat) (f : Addr) (fd : FuncData) (ps : List Str) (sp : Addr × Obj → Sp) : Prop where
  len : ∀ p vs H Q E, sp p vs H Q E → vs.length = ps.length
  run : ∀ (A : Around) (outer : List Env) (s : Shared) (H : Hp) (args : Args) (us : List Value) (vs : List V) (Q : VK) (E : XK) (p : Addr × Obj), L2H.RoomH k A → L2H.Hot1 A p → L2H.PinOk outer H s p →
    Env0 P w K mg base A outer s H → BindsTo s fd args (ps.zip us) → Vals vs us → sp p vs H Q E → codeAny (model P w) A (.call (.ref f) args) (CR CX0 outer P w H s Q E) s
theorem FnE.mono {P : Program} {w : World} {K : PySem.W.Frag} {mg : Str → Option Value} {base : Heap} {j k : Nat} {f : Addr} {fd : FuncData} {ps : List Str} {sp : Addr × Obj → Sp} (F : FnE P w K mg base j f fd ps sp) (h : j ≤ k) :
    FnE P w K mg base k f fd ps sp := ⟨F.len, fun A outer s H args us vs Q E p hr => F.run A outer s H args us vs Q E p (hr.mono h)⟩
theorem FnE.hot {P : Program} {w : World} {K : PySem.W.Frag} {mg : Str → Option Value} {base : Heap} {k : Nat} {f : Addr} {fd : FuncData} {ps : List Str} {sp : Sp} (F : FnE P w K mg base k f fd ps fun _ => sp) :
    L2H.FnH P w K mg base CX0 k f fd ps sp := ⟨F.len (0, default), F.run⟩
/-- the context of its body -/
abbrev cxE (P : Program) (w : World) (K : PySem.W.Frag) (mg : Str → Option Value) (base : Heap) (N : List Str) (qual : Str) (scope : Scope) (f : Addr) (cd : Value) (A : Around) (outer : List Env) (s : Shared) (H : Hp) (E : XK) (p : Addr × Obj) : Cx :=
  (L2H.cxH CX0 P w K mg base N qual scope f cd A outer s H E p).nox
theorem fun_okE {P : Program} {w : World} {K : PySem.W.Frag} {mg : Str → Option Value} {base : Heap} {x qual : Str} {st : Stmt} {f : Addr} {fd : FuncData} {N ps : List Str} {k : Nat} {sp : Addr × Obj → Sp} (F : Fun K x qual st f fd)
    (S : FnScope N ps (defScope st)) (len : ∀ p vs H Q E, sp p vs H Q E → vs.length = ps.length)
    (body : ∀ (cdv : Value) (A : Around) (outer : List Env) (s : Shared) (H : Hp) (vs : List V) (Q : VK) (E : XK) (p : Addr × Obj), L2H.Hot1 A p → L2H.RoomH k (A.deeper (envOfC qual (defScope st) s.heap.objs.size f cdv)) → sp p vs H Q E →
      ∃ t, PSs (cxE P w K mg base N qual (defScope st) f cdv A outer s H E p) (defBody st) t ∧ t { nx := fun _ H' => Q .non H', rt := Q } (L2.start N vs) H) : FnE P w K mg base (k + 1) f fd ps sp := by
  obtain ⟨oc, od, kV, doc, pm, an, cdv, ct, osl, rfl, lk, hcd⟩ := F.ex
  refine ⟨len, fun A outer s H args us vs Q E p hr hot hpin e0 hb r hsp => ?_⟩
  have KX : K.In s.heap := e0.mod.kin.keeps fun b o e => (e0.bs b o e).1
  have lim : s.heap.NoLimit := e0.mod.nolimit.keeps fun b o e => (e0.bs b o e).1
  have kinds : ∀ y ∈ ps.zip us, (defScope st).names.lookup y.1 = some .local ∨ ((defScope st).names.lookup y.1 = some .cell ∧ ((cellsFrom (s.heap.objs.size + 1) (defScope st).names []).lookup y.1).isSome = true) := fun y hy => by
    rcases S.par y.1 (List.of_mem_zip (a := y.1) (b := y.2) hy).1 with q | q
    · exact Or.inl q
    · exact Or.inr ⟨q, PySem.W.cellsFrom_some _ _ _ (Or.inl q)⟩
  refine codeAny_call_function hr.depth (KX _ _ lk) rfl S.co S.gen rfl (PySem.W.codeRec_of KX hcd) (hb _ _ _ _ ?_)
  refine wpAny_newFunctionEnv_cells S.kind kinds fun env he s1 x => ?_
  subst he
  refine ⟨lim.keeps x.toInCall.keep, codeAny_func ?_⟩
  obtain ⟨t, ht, hq⟩ := body cdv A outer s H vs Q E p hot (hr.deeper _) hsp
  have I : Inv (L2H.cxH CX0 P w K mg base N qual (defScope st) f cdv A outer s H E p) [] (L2.start N vs) H s1 := L2H.inv_startH S hpin e0 (len _ _ _ _ _ hsp) r x
  refine wpAny_mono (ht.nox.run [] s1 (L2.start N vs) H _ I hq) (fun fl s' hs => ?_) fun e s' hs => hs
  have done : ∀ {σ' : SL} {H' : Hp} {v : V} {u : Value}, Inv (L2H.cxH CX0 P w K mg base N qual (defScope st) f cdv A outer s H E p) [] σ' H' s' → RelV v u → Q v H' → CE outer P w H s Q u s' :=
    fun {σ' H' v u} J rv q => ⟨v, H', J.os, J.bare, J.base, J.hok, rv, q⟩
  cases fl with
  | ret u =>
    obtain ⟨v, σ', H', J, rv, q⟩ := hs
    exact done J rv q
  | next =>
    obtain ⟨σ', H', J, q⟩ := hs
    exact done (u := Value.none) (v := V.non) J rfl q
  | brk =>
    obtain ⟨_, _, _, q⟩ := hs
    exact q.elim
  | cont =>
    obtain ⟨_, _, _, q⟩ := hs
    exact q.elim
section
variable {X : Cx} {k : Nat} {f : Addr} {fd : FuncData} {ps : List Str} {sp : Addr × Obj → Sp} {x : Str} {q pos : Pos} {e : Expr} {es : List Expr} {t : TA}
/-- f(e, ..), p the exception's pin -/
def tCallE (sp : Sp) (t : TA) : TE := fun σ H Q => t σ H fun vs H1 => sp vs H1 Q E0
theorem pe_callEI {sq : Sp} (F : FnE X.prog X.w X.K X.mg X.base k f fd ps sp) (hr : L2H.RoomH k X.A) (p : Addr × Obj) (hot : L2H.Hot1 X.A p) (hp : p ∈ X.pn) (hi : ∀ vs H Q E, sq vs H Q E → sp p vs H Q E) (hg : Gl X x) (hm : X.mg x = some (.ref f)) (hk : PySem.W.keepIn X.K (.ref f) = true) (hb : Binds X.K fd ps [])
    (ha : PA X (e :: es) t) (hdb : (x == ("__debug__" : Str)) = false := by decide) (he : starEach (e :: es) X.env = (false, eval e X.env) :: starEach es X.env := by rfl) (hpl : (backTo pos (starEach es X.env)).any (·.1) = false := by rfl) :
    PE X (.Call (.Name x q) (e :: es) [] pos) (tCallE sq t) := by
  refine ⟨fun pins s σ H Q I h => ?_⟩
  refine wpAny_Call_Name_kw (ld_glob I hg hm ?_ hdb)
  refine PySem.W.callWith_K (h₀ := X.base) I.ok.mod.kin hk (thn (ha.run pos pins s σ H _ I h) fun us s1 hv => ?_) he hpl
  obtain ⟨vs, H1, I1, r, hs⟩ := hv
  refine ⟨I1.kIn, ?_⟩
  have hl : us.length = ps.length := by
    rw [← r.length]
    exact F.len _ _ _ _ _ (hi _ _ _ _ hs)
  have b := hb s1 us I1.kIn (by rw [List.append_nil]; exact hl)
  rw [List.append_nil] at b
  have P1 := I1.pin p (List.mem_append_left _ hp)
  have hpin : L2H.PinOk X.stack H1 s1 p := ⟨P1.1, P1.2.1, fun hm => (List.mem_cons.mp (I1.stkSub p.1 hm)).elim P1.2.2.1 P1.2.2.2.1, P1.2.2.2.2⟩
  refine wpAny_call (codeAny_mono (F.run X.A X.stack s1 H1 ⟨us, []⟩ us vs Q E0 p hr hot hpin I1.env0 b r (hi _ _ _ _ hs)) fun res s' hq => ?_)
  cases res with
  | error er => exact hq.elim
  | ok fl =>
    cases fl with
    | ret u => exact I1.after hq
    | next => exact hq.elim
    | brk => exact hq.elim
    | cont => exact hq.elim
theorem pe_callE (F : FnE X.prog X.w X.K X.mg X.base k f fd ps sp) (hr : L2H.RoomH k X.A) (p : Addr × Obj) (hot : L2H.Hot1 X.A p) (hp : p ∈ X.pn) (hg : Gl X x) (hm : X.mg x = some (.ref f)) (hk : PySem.W.keepIn X.K (.ref f) = true) (hb : Binds X.K fd ps [])
    (ha : PA X (e :: es) t) (hdb : (x == ("__debug__" : Str)) = false := by decide) (he : starEach (e :: es) X.env = (false, eval e X.env) :: starEach es X.env := by rfl) (hpl : (backTo pos (starEach es X.env)).any (·.1) = false := by rfl) :
    PE X (.Call (.Name x q) (e :: es) [] pos) (tCallE (sp p) t) := pe_callEI F hr p hot hp (fun _ _ _ _ h => h) hg hm hk hb ha hdb he hpl
end

/-! ### what is asked of the exception: isinstance(e, C), e.f -/
/-- what its class must say -/
structure ExKnow (K : PySem.W.Frag) (D : Addr) : Prop where
  cl : (PySem.W.clsIn K D).isSome = true
  ga : PySem.W.findIn K (.ref D) "__getattribute__" = some (some (.builtin "BaseException.__getattribute__"))
  gg : PySem.W.findIn K (.ref D) "__getattr__" = some none
  ex : PySem.W.subIn K (.ref D) (.type "BaseException") = some true
  hd : PySem.W.hasDictIn K D = true
  cla : PySem.W.findIn K (.ref D) "__class__" = some (some (.builtin "object.__class__"))
  sp : PySem.W.specialIn K (.builtin "object.__class__") "__get__" = some (some (.builtin "getset_descriptor.__get__"))
  tk : PySem.W.takesIn K (.builtin "object.__class__") = some true
  mo : PySem.W.mroIn K D (.type "object") = some true
/-- p is an exception of the class at D with the own dict d -/
structure Exc1 (p : Addr × Obj) (D d : Addr) : Prop where
  zc : Zc (.ref D) (some d) p.2
  fl : ∃ vs, p.2.data = .fields vs
theorem Exc1.inst {X : Cx} {pins : List (Addr × Obj)} {σ : SL} {H : Hp} {s : Shared} {p : Addr × Obj} {D d : Addr} {fs : List (Str × V)} (Z : Exc1 p D d) (I : Inv X pins σ H s) (hp : p ∈ X.pn) (hx : H d = some (.xd fs)) :
    ∃ (mA : Str → Option Value) (od : Obj), PySem.W.InstAt s.heap p.1 p.2 D (some od) ∧ (∀ f, RelO (fs.lookup f) (mA f)) ∧ ∀ n, PySem.W.lookIn n od = some (mA n) := by
  obtain ⟨hget, _⟩ := I.pin p (List.mem_append_left _ hp)
  have hx' : ObjOk X.prog X.w H s.heap d (.xd fs) := I.hok d _ hx
  obtain ⟨mA, hns, hr⟩ := hx'
  obtain ⟨od, ho, hl⟩ := lookIn_ns hns
  obtain ⟨vs, hv⟩ := Z.fl
  exact ⟨mA, od, ⟨hget, Z.zc.1, by unfold PySem.W.notCls; rw [hv] <;> rfl, by rw [Z.zc.2]; exact ho⟩, hr, hl⟩
section
variable {X : Cx} {p : Addr × Obj} {D d : Addr}
def rIsP (K : PySem.W.Frag) (a D d : Addr) : List V → Hp → VK → Prop := fun xs H Q => ∃ (c : V) (cv : Value) (b : Bool) (fs : List (Str × V)), xs = [.ref a, c] ∧ (∀ u, RelV c u → u = cv) ∧ H d = some (.xd fs) ∧ PySem.W.kitOne K (.ref D) cv = some b ∧ Q (.bl b) H
theorem call_isP (T : ExKnow X.K D) (Z : Exc1 p D d) (hp : p ∈ X.pn) : CallR X (.builtin "isinstance") (rIsP X.K p.1 D d) := by
  intro pins s σ H xs us Q I r h
  obtain ⟨c, cv, b, fs, rfl, hcv, hx, e, q⟩ := h
  cases r with
  | cons rx rr =>
    cases rr with
    | cons rt rr =>
      cases rr
      cases rx
      have ec := hcv _ rt
      subst ec
      obtain ⟨mA, od, J, _, _⟩ := Z.inst I hp hx
      exact PySem.W.kia_one (PySem.W.kitx_exc T.cl T.ga T.gg T.ex T.cla T.sp T.tk T.mo) I.kIn J e (fun z => nomatch z) fun tk => ⟨.bl b, H, I.kept (t' := tk) fun _ _ z => z, rfl, q⟩
/-- e.f -/
def tFldP (a d : Addr) (f : Str) (te : TE) : TE := fun σ H Q => te σ H fun x H1 => x = .ref a ∧ ∃ (fs : List (Str × V)) (v : V), H1 d = some (.xd fs) ∧ fs.lookup f = some v ∧ Q v H1
theorem pe_fldP {e : Expr} {te : TE} {pos : Pos} {n : Str} (T : ExKnow X.K D) (Z : Exc1 p D d) (hp : p ∈ X.pn) (hno : PySem.W.findIn X.K (.ref D) n = some none) (he : PE X e te)
    (hb : attributeBase e n X.env (eval e X.env) = eval e X.env := by rfl) : PE X (.Attribute e n pos) (tFldP p.1 d n te) := by
  refine ⟨fun pins s σ H Q I h => ?_⟩
  refine attr_of hb (thn (he.run pins s σ H _ I h) fun u s1 hv => ?_)
  obtain ⟨x, H1, I1, rx, ex, fs, v, hx, l, q⟩ := hv
  subst ex
  obtain rfl : u = Value.ref p.1 := rx
  obtain ⟨mA, od, J, hr, hl⟩ := Z.inst I1 hp hx
  obtain ⟨u, hu, ru⟩ := RelO.some_of (v := v) (o := mA n) (by rw [← l]; exact hr n)
  exact HandSPX.exc_get I1.kIn J T.ga T.gg T.ex (PySem.W.findObj_own T.hd hno rfl (by rw [hl, hu])) (handed_of ru) ⟨v, H1, I1.tok _, ru, q⟩
end

/-! ### raise C(e, ..), C with an own __init__, its context None -/
theorem pmk_oexN {X : Cx} {x : Str} {e : Expr} {es : List Expr} {ta : TA} {p pos : Pos} {C fI : Addr} {k : Nat} {fd : FuncData} {ps : List Str} {sp : Sp} (T : OexC X.K C) (iC : PySem.W.findIn X.K (.ref C) "__init__" = some (some (.ref fI)))
    (tI : PySem.W.typeIn X.K (.ref fI) = some (.type "function")) (F1 : FnOk X.prog X.w X.K X.mg X.base CX0 k fI fd ps sp) (hr : Room (k + 1) X.A) (hb : Binds X.K fd ps []) (hg : Gl X x) (hm : X.mg x = some (.ref C)) (ha : PA X (e :: es) ta)
    (hdb : (x == ("__debug__" : Str)) = false := by decide) (he : starEach (e :: es) X.env = (false, eval e X.env) :: starEach es X.env := by rfl) (hpl : (backTo pos (starEach es X.env)).any (·.1) = false := by rfl) :
    L2N.PMk X (.Call (.Name x p) (e :: es) [] pos) (tMkO C sp [] ta) := by
  intro pins s σ H Q I h
  obtain ⟨nm, q, N, bs, bm, sn, sub, ab, col, dd, k0, k1, k2, k3, k5, hC, hbm⟩ := T.cls
  refine wpAny_Call_Name_kw (ld_glob I hg hm ?_ hdb)
  refine PySem.W.callWith_K (h₀ := X.base) I.ok.mod.kin T.kC (thn (ha.run pos pins s σ H _ I h) fun us s1 hv => ?_) he hpl
  obtain ⟨vs, H1, I1, r1, hz, q1⟩ := hv
  refine ⟨I1.kIn, ?_⟩
  show wpAny _ _ (call (.ref C) us) _ _ _
  obtain ⟨hp, g, dr, tk, os⟩ := s1
  generalize hn : hp.objs.size + 1 = n
  have hsz : hp.objs.size ≤ n := by omega
  have fresh : H1 n = none := I1.hok.fresh hsz
  have hq := q1 n fresh
  rw [List.append_nil] at hq
  generalize hG1 : (hp.push (PySem.W.kdv_tup us)).push (PySem.HandSPX.excO C hp.objs.size) = G1
  have kk : ∀ b o, hp.get? b = some o → G1.get? b = some o := fun b o e => by
    rw [← hG1]
    exact Heap.get?_push_of_some _ (Heap.get?_push_of_some _ e)
  have hget : G1.get? n = some (PySem.HandSPX.excO C hp.objs.size) := by
    rw [← hG1, ← hn]
    heap_get
  have I2 : Inv X pins σ (upd H1 n (exo n C none)) ⟨G1, g, dr, tk, os⟩ := I1.laid (t' := tk) (a := n) (o := exo n C none) (h' := G1) kk hsz (exo_ok hget)
  have r2 : Vals (V.ref n :: vs) (Value.ref n :: us) := Paired.cons rfl r1
  have hl : (Value.ref n :: us ++ []).length = ps.length := by
    rw [List.append_nil, ← r2.length]
    exact F1.len _ _ _ _ hq
  have hus : us.length ≤ sizeLine := by
    rw [← Paired.length r1, sizeLine_eq]
    omega
  have b2 := hb _ (Value.ref n :: us) I2.kIn hl
  rw [List.append_nil] at b2
  have main := F1.run _ X.stack _ _ ⟨Value.ref n :: us, []⟩ (Value.ref n :: us) _ _ (fun _ _ _ => False) (hr.make C us []) (I2.env0.make C us []) b2 r2 hq
  refine wpAny_call (PySem.HandSPX.call_own F.excBase_ValueError (fun Y => PySem.HandSPX.refsVE_contains Y bm hbm) (I1.kIn _ _ hC) (PySem.W.looks_findIn I1.kIn iC) (fun self => PySem.W.bind_fn I1.kIn self tI) hus ?_)
  rw [hn, hG1]
  refine codeAny_mono main fun r s' hq' => ?_
  cases r with
  | error er => exact hq'.elim
  | ok fl =>
    cases fl with
    | ret u =>
      obtain ⟨v, H2, os2, bare2, un2, hok2, rv, ev, d, fs, ea, ed, hd1, q2⟩ := hq'
      subst ev
      obtain ⟨h2, g2, d2, t2, os'⟩ := s'
      obtain ⟨t0, G, J, kG, ge, hoe, na⟩ := mk_end0 (d2 := d2) (t2 := t2) I1 hsz kk un2 hok2 os2 bare2 ea ed hd1
      refine ⟨rv, n, _, _, ⟨G, g2, d2, t2, os'⟩, _, .ref C, some d, rfl, J, kG, ge, hoe, ⟨rfl, rfl, fun vs hv => ?_⟩, rfl, rfl, na, rfl, bare2, raises_own T.exC T.tyC, q2⟩
      cases hv
      rfl
    | next => exact hq'.elim
    | brk => exact hq'.elim
    | cont => exact hq'.elim
end UfH

/-! # What is known of the heap and stays: the known part G of the heap H, the pool of draws, lists that are being made -/
namespace UfG
open PySem PySem.Spec PyProof.Rows L2
open Evl (Ex)
abbrev SL := L2.St

theorem ex_upd {G H : Hp} {q : Addr} {o : HO} (e : Ex G H) : Ex (upd G q o) (upd H q o) := fun b u h => by
  by_cases hb : b = q
  · rw [hb, upd_same] at h ⊢
    exact h
  · rw [upd_ne hb] at h ⊢
    exact e b u h
theorem ex_in {G H : Hp} {q : Addr} {o : HO} (e : Ex G H) (h : H q = some o) : Ex (upd G q o) H := fun b u hu => by
  by_cases hb : b = q
  · rw [hb, upd_same] at hu
    rw [hb, ← hu]
    exact h
  · rw [upd_ne hb] at hu
    exact e b u hu
theorem ex_new {G : Hp} {q : Addr} {o : HO} (h : G q = none) : Ex G (upd G q o) := Evl.Ex.new h
theorem ex_mut {G H : Hp} {q : Addr} {o : HO} (e : Ex G H) (h : G q = none) : Ex G (upd H q o) := Evl.Ex.mut e h

/-! ### the pool -/
/-- the pool at a, its cells at c, drawn from at most n times: what is left of the number, how often it was drawn from, the cells, the next cell's place, the sum -/
def PoolAt (a c : Addr) (n : Nat) (H : Hp) : Prop := ∃ (x y k m : Int) (cells : List Int), H a = some (.lst [.int x, .int y, .ref c, .int k, .int m]) ∧ H c = some (.lst (cells.map V.int)) ∧
  0 ≤ x ∧ x < 2 ^ 200 ∧ 0 ≤ k ∧ k ≤ 70 * (n : Int) ∧ 0 ≤ m ∧ m < 2 ^ 200 ∧ ∀ z ∈ cells, 0 ≤ z ∧ z < 2 ^ 200
theorem PoolAt.ex {a c : Addr} {n : Nat} {H H' : Hp} (h : PoolAt a c n H) (e : Ex H H') : PoolAt a c n H' := by
  obtain ⟨x, y, k, m, cells, h1, h2, h3⟩ := h
  exact ⟨x, y, k, m, cells, e _ _ h1, e _ _ h2, h3⟩
theorem PoolAt.upd {a c q : Addr} {n : Nat} {o : HO} {H : Hp} (h : PoolAt a c n H) (n1 : a ≠ q) (n2 : c ≠ q) : PoolAt a c n (upd H q o) := by
  obtain ⟨x, y, k, m, cells, h1, h2, h3⟩ := h
  exact ⟨x, y, k, m, cells, by rw [upd_ne n1]; exact h1, by rw [upd_ne n2]; exact h2, h3⟩

/-- H0, G0: the heap and its known part at the entry; p: the pool (its address, its cells', how often it was drawn from at most); ls: lists that are being made; G: what is known and stays; H: the heap -/
structure Lw (H0 G0 : Hp) (p : Option (Addr × Addr × Nat)) (ls : List (Addr × HO)) (G H : Hp) : Prop where
  gh : Ex G H
  g0 : Ex G0 G
  old : ∀ b o, (∀ q, p = some q → b ≠ q.1) → H0 b = some o → H b = some o
  new : ∀ a o, H0 a = some o → G0 a = none → G a = none
  pool : ∀ q, p = some q → PoolAt q.1 q.2.1 q.2.2 H ∧ G q.1 = none ∧ G q.2.1 = none ∧ (∃ o, H0 q.1 = some o) ∧ (∃ o, H0 q.2.1 = some o) ∧ q.1 ≠ q.2.1
  loc : ∀ q ∈ ls, H q.1 = some q.2 ∧ G q.1 = none ∧ H0 q.1 = none
  nd : (ls.map (·.1)).Nodup
section
variable {H0 G0 G H G' H' : Hp} {p : Option (Addr × Addr × Nat)} {ls : List (Addr × HO)} {q : Addr} {o : HO}
theorem Lw.refl (e : Ex G H) : Lw H G none [] G H := ⟨e, Evl.Ex.refl G, fun _ _ _ h => h, fun _ _ _ h => h, (fun _ h => nomatch h), (fun _ h => nomatch h), List.nodup_nil⟩
/-- the heap grows -/
theorem Lw.step (lw : Lw H0 G0 p ls G H) (e : Ex H H') : Lw H0 G0 p ls G H' :=
  ⟨lw.gh.trans e, lw.g0, fun b u n h => e b u (lw.old b u n h), lw.new, fun q h => let ⟨a, r⟩ := lw.pool q h; ⟨a.ex e, r⟩, fun q h => let ⟨a, r⟩ := lw.loc q h; ⟨e _ _ a, r⟩, lw.nd⟩
theorem Lw.free (lw : Lw H0 G0 p ls G H) (h : H q = none) : G q = none := Evl.fresh_back lw.gh h
theorem Lw.there (lw : Lw H0 G0 p ls G H) {a : Addr} {u : HO} (h : H0 a = some u) : ∃ u', H a = some u' := by
  by_cases z : ∀ r, p = some r → a ≠ r.1
  · exact ⟨u, lw.old a u z h⟩
  · have z' : ∃ r, p = some r ∧ a = r.1 := by
      rcases p with _ | r
      · exact absurd (fun r e => nomatch e) z
      · refine ⟨r, rfl, Decidable.byContradiction fun n => z fun r' e => ?_⟩
        rw [← Option.some.inj e]
        exact n
    obtain ⟨r, e, rfl⟩ := z'
    obtain ⟨⟨_, _, _, _, _, h1, _⟩, _⟩ := lw.pool r e
    exact ⟨_, h1⟩
theorem Lw.apart (lw : Lw H0 G0 p ls G H) (h : H q = none) {a : Addr} {u : HO} (ha : H0 a = some u) : a ≠ q := fun z => by
  obtain ⟨u', e⟩ := lw.there ha
  rw [z, h] at e
  cases e
/-- a new object, known from now on -/
theorem Lw.alloc (lw : Lw H0 G0 p ls G H) (h : H q = none) : Lw H0 G0 p ls (upd G q o) (upd H q o) := by
  have eh : Ex H (upd H q o) := ex_new h
  refine ⟨ex_upd lw.gh, lw.g0.trans (ex_new (lw.free h)), fun b u n e => eh b u (lw.old b u n e), fun a u e g => ?_, fun r e => ?_, fun r hr => ?_, lw.nd⟩
  · rw [upd_ne (lw.apart h e)]
    exact lw.new a u e g
  · obtain ⟨h1, h2, h3, ⟨u1, h4⟩, ⟨u2, h5⟩, h6⟩ := lw.pool r e
    refine ⟨h1.ex eh, ?_, ?_, ⟨u1, h4⟩, ⟨u2, h5⟩, h6⟩
    · rw [upd_ne (lw.apart h h4)]
      exact h2
    · rw [upd_ne (lw.apart h h5)]
      exact h3
  · obtain ⟨h1, h2, h3⟩ := lw.loc r hr
    have ne : r.1 ≠ q := fun z => by
      rw [z, h] at h1
      cases h1
    exact ⟨eh _ _ h1, by rw [upd_ne ne]; exact h2, h3⟩
theorem Lw.allocE (lw : Lw H0 G0 p ls G H) (h : H q = none) : ∃ G', Ex G G' ∧ Lw H0 G0 p ls G' (upd H q o) ∧ G' q = some o := ⟨_, ex_new (lw.free h), lw.alloc h, upd_same⟩
/-- a new object that is still being made -/
theorem Lw.make (lw : Lw H0 G0 p ls G H) (h : H q = none) : Lw H0 G0 p ((q, o) :: ls) G (upd H q o) := by
  have eh : Ex H (upd H q o) := ex_new h
  have h0 : H0 q = none := by
    cases e : H0 q with
    | none => rfl
    | some u => exact absurd rfl (lw.apart h e)
  have l2 := lw.step eh
  refine ⟨l2.gh, l2.g0, l2.old, l2.new, l2.pool, fun r hr => ?_, ?_⟩
  · rcases List.mem_cons.mp hr with rfl | hr
    · exact ⟨upd_same, lw.free h, h0⟩
    · exact l2.loc r hr
  · rw [List.map_cons, List.nodup_cons]
    refine ⟨fun hm => ?_, lw.nd⟩
    obtain ⟨r, hr, e⟩ := List.mem_map.mp hm
    have z := (lw.loc r hr).1
    rw [show r.1 = q from e, h] at z
    cases z
/-- it changes -/
theorem Lw.put {o' : HO} (lw : Lw H0 G0 p ((q, o) :: ls) G H) : Lw H0 G0 p ((q, o') :: ls) G (upd H q o') := by
  obtain ⟨hq, gq, h0⟩ := lw.loc (q, o) List.mem_cons_self
  have ne0 : ∀ {a : Addr} {u : HO}, H0 a = some u → a ≠ q := fun {a u} e z => by
    have h0 : H0 q = none := h0
    rw [z, h0] at e
    cases e
  have nd := lw.nd
  rw [List.map_cons, List.nodup_cons] at nd
  refine ⟨ex_mut lw.gh gq, lw.g0, fun b u n e => ?_, lw.new, fun r e => ?_, fun r hr => ?_, ?_⟩
  · rw [upd_ne (ne0 e)]
    exact lw.old b u n e
  · obtain ⟨h1, h2, h3, ⟨u1, h4⟩, ⟨u2, h5⟩, h6⟩ := lw.pool r e
    exact ⟨h1.upd (ne0 h4) (ne0 h5), h2, h3, ⟨u1, h4⟩, ⟨u2, h5⟩, h6⟩
  · rcases List.mem_cons.mp hr with rfl | hr
    · exact ⟨upd_same, gq, h0⟩
    · obtain ⟨h1, h2, h3⟩ := lw.loc r (List.mem_cons_of_mem _ hr)
      have ne : r.1 ≠ q := fun z => nd.1 (List.mem_map.mpr ⟨r, hr, z⟩)
      exact ⟨by rw [upd_ne ne]; exact h1, h2, h3⟩
  · rw [List.map_cons, List.nodup_cons]
    exact nd
/-- it is done: known from now on -/
theorem Lw.keep (lw : Lw H0 G0 p ((q, o) :: ls) G H) : Lw H0 G0 p ls (upd G q o) H ∧ Ex G (upd G q o) := by
  obtain ⟨hq, gq, h0⟩ := lw.loc (q, o) List.mem_cons_self
  have gq : G q = none := gq
  have h0 : H0 q = none := h0
  have ne0 : ∀ {a : Addr} {u : HO}, H0 a = some u → a ≠ q := fun {a u} e z => by
    rw [z, h0] at e
    cases e
  have nd := lw.nd
  rw [List.map_cons, List.nodup_cons] at nd
  refine ⟨⟨ex_in lw.gh hq, lw.g0.trans (ex_new gq), lw.old, fun a u e g => ?_, fun r e => ?_, fun r hr => ?_, nd.2⟩, ex_new gq⟩
  · rw [upd_ne (ne0 e)]
    exact lw.new a u e g
  · obtain ⟨h1, h2, h3, ⟨u1, h4⟩, ⟨u2, h5⟩, h6⟩ := lw.pool r e
    exact ⟨h1, by rw [upd_ne (ne0 h4)]; exact h2, by rw [upd_ne (ne0 h5)]; exact h3, ⟨u1, h4⟩, ⟨u2, h5⟩, h6⟩
  · obtain ⟨h1, h2, h3⟩ := lw.loc r (List.mem_cons_of_mem _ hr)
    have ne : r.1 ≠ q := fun z => nd.1 (List.mem_map.mpr ⟨r, hr, z⟩)
    exact ⟨h1, by rw [upd_ne ne]; exact h2, h3⟩
/-- it is dropped -/
theorem Lw.drop (lw : Lw H0 G0 p ((q, o) :: ls) G H) : Lw H0 G0 p ls G H := by
  have nd := lw.nd
  rw [List.map_cons, List.nodup_cons] at nd
  exact ⟨lw.gh, lw.g0, lw.old, lw.new, lw.pool, fun r hr => lw.loc r (List.mem_cons_of_mem _ hr), nd.2⟩
theorem Lw.at (lw : Lw H0 G0 p ((q, o) :: ls) G H) : H q = some o := (lw.loc (q, o) List.mem_cons_self).1
theorem Lw.at2 {q' : Addr} {o' : HO} (lw : Lw H0 G0 p ((q', o') :: (q, o) :: ls) G H) : H q = some o := (lw.loc (q, o) (List.mem_cons_of_mem _ List.mem_cons_self)).1
/-- an object that was new since the entry is changed again -/
theorem Lw.thaw (lw : Lw H0 G0 p ls G H) (hG : G q = some o) (g0 : G0 q = none) (hl : ∀ r ∈ ls, r.1 ≠ q) : Lw H0 G0 p ((q, o) :: ls) (fun b => if b = q then none else G b) H ∧ Ex (fun b => if b = q then none else G b) G := by
  have h0 : H0 q = none := by
    cases e : H0 q with
    | none => rfl
    | some u =>
      have z := lw.new q u e g0
      rw [hG] at z
      cases z
  have sub : Ex (fun b => if b = q then none else G b) G := fun b u e => by
    by_cases hb : b = q
    · have e : (if b = q then none else G b) = some u := e
      rw [if_pos hb] at e
      cases e
    · have e : (if b = q then none else G b) = some u := e
      rw [if_neg hb] at e
      exact e
  have low : ∀ {b : Addr}, G b = none → (if b = q then none else G b) = none := fun {b} e => by
    by_cases hb : b = q
    · rw [if_pos hb]
    · rw [if_neg hb]
      exact e
  refine ⟨⟨sub.trans lw.gh, fun b u e => ?_, lw.old, fun a u e g => low (lw.new a u e g), fun r e => ?_, fun r hr => ?_, ?_⟩, sub⟩
  · have hb : b ≠ q := fun z => by
      rw [z, g0] at e
      cases e
    show (if b = q then none else G b) = some u
    rw [if_neg hb]
    exact lw.g0 b u e
  · obtain ⟨h1, h2, h3, h4⟩ := lw.pool r e
    exact ⟨h1, low h2, low h3, h4⟩
  · rcases List.mem_cons.mp hr with rfl | hr
    · exact ⟨lw.gh _ _ hG, if_pos rfl, h0⟩
    · obtain ⟨h1, h2, h3⟩ := lw.loc r hr
      exact ⟨h1, low h2, h3⟩
  · rw [List.map_cons, List.nodup_cons]
    refine ⟨fun hm => ?_, lw.nd⟩
    obtain ⟨r, hr, e⟩ := List.mem_map.mp hm
    exact hl r hr e
/-- into a call -/
theorem Lw.enter (lw : Lw H0 G0 p ls G H) : Lw H G none [] G H := .refl lw.gh
theorem Lw.enterP {a c : Addr} {n : Nat} (lw : Lw H0 G0 (some (a, c, n)) ls G H) : Lw H G (some (a, c, n)) [] G H := by
  refine ⟨lw.gh, Evl.Ex.refl G, fun _ _ _ h => h, fun _ _ _ h => h, fun r e => ?_, (fun _ h => nomatch h), List.nodup_nil⟩
  obtain ⟨h1, h2, h3, h4, h5, h6⟩ := lw.pool r e
  have h1' := h1
  obtain ⟨_, _, _, _, _, e1, e2, _⟩ := h1'
  exact ⟨h1, h2, h3, ⟨_, e1⟩, ⟨_, e2⟩, h6⟩
/-- a pool is there from now on -/
theorem Lw.begin {a c : Addr} {n : Nat} {H : Hp} (h : PoolAt a c n H) (hn : a ≠ c) : Lw H (fun _ => none) (some (a, c, n)) [] (fun _ => none) H := by
  refine ⟨(fun _ _ h => nomatch h), Evl.Ex.refl _, fun _ _ _ h => h, fun _ _ _ h => h, fun r e => ?_, (fun _ h => nomatch h), List.nodup_nil⟩
  obtain rfl := Option.some.inj e
  have h1' := h
  obtain ⟨_, _, _, _, _, e1, e2, _⟩ := h1'
  exact ⟨h, rfl, rfl, ⟨_, e1⟩, ⟨_, e2⟩, hn⟩
/-- it was drawn from less often -/
theorem Lw.more {a c : Addr} {n m : Nat} (lw : Lw H0 G0 (some (a, c, n)) ls G H) (h : n ≤ m) : Lw H0 G0 (some (a, c, m)) ls G H := by
  refine ⟨lw.gh, lw.g0, fun b o z => lw.old b o fun q e => ?_, lw.new, fun r e => ?_, lw.loc, lw.nd⟩
  · obtain rfl := Option.some.inj e
    exact z (a, c, m) rfl
  · obtain rfl := Option.some.inj e
    obtain ⟨⟨x, y, k, m', cells, h1, h2, h3, h4, h5, h6, h7⟩, r⟩ := lw.pool (a, c, n) rfl
    exact ⟨⟨x, y, k, m', cells, h1, h2, h3, h4, h5, Int.le_trans h6 (by show 70 * (n : Int) ≤ 70 * (m : Int); omega), h7⟩, r⟩
/-- behind a call -/
theorem Lw.after (lw : Lw H0 G0 p ls G H) (l : Lw H G none [] G' H') : Lw H0 G0 p ls G' H' := by
  have eh : Ex H H' := fun b u h => l.old b u (fun _ z => nomatch z) h
  refine ⟨l.gh, lw.g0.trans l.g0, fun b u n h => eh b u (lw.old b u n h), fun a u h g => ?_, fun r e => ?_, fun r hr => ?_, lw.nd⟩
  · obtain ⟨u', h'⟩ := lw.there h
    exact l.new a u' h' (lw.new a u h g)
  · obtain ⟨h1, h2, h3, ⟨u1, h4⟩, ⟨u2, h5⟩, h6⟩ := lw.pool r e
    obtain ⟨v1, k1⟩ := lw.there h4
    obtain ⟨v2, k2⟩ := lw.there h5
    exact ⟨h1.ex eh, l.new _ _ k1 h2, l.new _ _ k2 h3, ⟨u1, h4⟩, ⟨u2, h5⟩, h6⟩
  · obtain ⟨h1, h2, h3⟩ := lw.loc r hr
    exact ⟨eh _ _ h1, l.new _ _ h1 h2, h3⟩
theorem Lw.afterP {a c : Addr} {n n' : Nat} (lw : Lw H0 G0 (some (a, c, n)) ls G H) (l : Lw H G (some (a, c, n')) [] G' H') : Lw H0 G0 (some (a, c, n')) ls G' H' := by
  obtain ⟨h1, h2, h3, ⟨u1, h4⟩, ⟨u2, h5⟩, h6⟩ := lw.pool (a, c, n) rfl
  refine ⟨l.gh, lw.g0.trans l.g0, fun b u z h => l.old b u z (lw.old b u (fun q e => ?_) h), fun b u h g => ?_, fun r e => ?_, fun r hr => ?_, lw.nd⟩
  · obtain rfl := Option.some.inj e
    exact z (a, c, n') rfl
  · obtain ⟨u', h'⟩ := lw.there h
    exact l.new b u' h' (lw.new b u h g)
  · obtain rfl := Option.some.inj e
    obtain ⟨k1, k2, k3, k4, k5, k6⟩ := l.pool (a, c, n') rfl
    exact ⟨k1, k2, k3, ⟨u1, h4⟩, ⟨u2, h5⟩, h6⟩
  · obtain ⟨k1, k2, k3⟩ := lw.loc r hr
    have ne : ∀ q, some (a, c, n') = some q → r.1 ≠ q.1 := fun q e z => by
      obtain rfl := Option.some.inj e
      rw [z] at k3
      have h4 : H0 a = some u1 := h4
      rw [show H0 a = none from k3] at h4
      cases h4
    exact ⟨l.old _ _ ne k1, l.new _ _ k1 k2, k3⟩
/-- the pool's own list changes -/
theorem Lw.turn {a c : Addr} {n n' : Nat} {x y k m : Int} (lw : Lw H0 G0 (some (a, c, n)) ls G H) (h0 : 0 ≤ x) (h1 : x < 2 ^ 200) (h2 : 0 ≤ k) (h3 : k ≤ 70 * (n' : Int)) (h4 : 0 ≤ m) (h5 : m < 2 ^ 200) :
    Lw H0 G0 (some (a, c, n')) ls G (upd H a (.lst [.int x, .int y, .ref c, .int k, .int m])) := by
  obtain ⟨⟨_, _, _, _, cells, e1, e2, _, _, _, _, _, _, e8⟩, p2, p3, ⟨u1, p4⟩, p5, p6⟩ := lw.pool (a, c, n) rfl
  refine ⟨ex_mut lw.gh p2, lw.g0, fun b u z h => ?_, lw.new, fun r e => ?_, fun r hr => ?_, lw.nd⟩
  · rw [upd_ne (z (a, c, n') rfl)]
    refine lw.old b u (fun q e => ?_) h
    obtain rfl := Option.some.inj e
    exact z (a, c, n') rfl
  · obtain rfl := Option.some.inj e
    refine ⟨⟨x, y, k, m, cells, upd_same, ?_, h0, h1, h2, h3, h4, h5, e8⟩, p2, p3, ⟨u1, p4⟩, p5, p6⟩
    rw [upd_ne (Ne.symm p6)]
    exact e2
  · obtain ⟨k1, k2, k3⟩ := lw.loc r hr
    have ne : r.1 ≠ a := fun z => by
      rw [z] at k3
      have p4 : H0 a = some u1 := p4
      rw [k3] at p4
      cases p4
    exact ⟨by rw [upd_ne ne]; exact k1, k2, k3⟩
end

/-! ### data -/
mutual
/-- in the known part G stands the data d -/
inductive Rp (G : Hp) : V → PyData → Prop
  | non : Rp G .non .none
  | bl (b : Bool) : Rp G (.bl b) (.bool b)
  | int (i : Int) : Rp G (.int i) (.int i)
  | str (x : Str) : Rp G (.str x) (.str x)
  | lst {a : Addr} {xs : List V} {ds : List PyData} : G a = some (.lst xs) → RpAll G xs ds → Rp G (.ref a) (.list ds)
  | tup {a : Addr} {xs : List V} {ds : List PyData} : G a = some (.tup xs) → RpAll G xs ds → Rp G (.ref a) (.tuple ds)
inductive RpAll (G : Hp) : List V → List PyData → Prop
  | nil : RpAll G [] []
  | cons {v : V} {vs : List V} {d : PyData} {ds : List PyData} : Rp G v d → RpAll G vs ds → RpAll G (v :: vs) (d :: ds)
end
section
variable {G G' : Hp}
mutual
theorem Rp.ex (e : Ex G G') : ∀ {v : V} {d : PyData}, Rp G v d → Rp G' v d
  | _, _, .non => .non
  | _, _, .bl b => .bl b
  | _, _, .int i => .int i
  | _, _, .str x => .str x
  | _, _, .lst h r => .lst (e _ _ h) (RpAll.ex e r)
  | _, _, .tup h r => .tup (e _ _ h) (RpAll.ex e r)
theorem RpAll.ex (e : Ex G G') : ∀ {vs : List V} {ds : List PyData}, RpAll G vs ds → RpAll G' vs ds
  | _, _, .nil => .nil
  | _, _, .cons a b => .cons (Rp.ex e a) (RpAll.ex e b)
end
theorem RpAll.length : ∀ {vs : List V} {ds : List PyData}, RpAll G vs ds → vs.length = ds.length
  | _, _, .nil => rfl
  | _, _, .cons _ t => by rw [List.length_cons, List.length_cons, RpAll.length t]
theorem RpAll.get : ∀ {vs : List V} {ds : List PyData} {i : Nat} {d : PyData}, RpAll G vs ds → ds[i]? = some d → ∃ v, vs[i]? = some v ∧ Rp G v d
  | _, _, _, _, .nil, h => by simp at h
  | _, _, 0, _, .cons a _, h => by
    simp at h
    subst h
    exact ⟨_, rfl, a⟩
  | _, _, i + 1, _, .cons _ t, h => by
    obtain ⟨v, h1, h2⟩ := RpAll.get (i := i) t (by simpa using h)
    exact ⟨v, by simpa using h1, h2⟩
theorem RpAll.get' : ∀ {vs : List V} {ds : List PyData} {i : Nat} {v : V}, RpAll G vs ds → vs[i]? = some v → ∃ d, ds[i]? = some d ∧ Rp G v d
  | _, _, _, _, .nil, h => by simp at h
  | _, _, 0, _, .cons a _, h => by
    simp at h
    subst h
    exact ⟨_, rfl, a⟩
  | _, _, i + 1, _, .cons _ t, h => by
    obtain ⟨v, h1, h2⟩ := RpAll.get' (i := i) t (by simpa using h)
    exact ⟨v, by simpa using h1, h2⟩
theorem RpAll.append : ∀ {vs ws : List V} {ds es : List PyData}, RpAll G vs ds → RpAll G ws es → RpAll G (vs ++ ws) (ds ++ es)
  | _, _, _, _, .nil, s => s
  | _, _, _, _, .cons a t, s => .cons a (RpAll.append t s)
theorem RpAll.ints : ∀ ns : List Int, RpAll G (ns.map V.int) (ns.map PyData.int)
  | [] => .nil
  | n :: r => .cons (.int n) (RpAll.ints r)
theorem RpAll.ints_eq : ∀ {vs : List V} {ns : List Int}, RpAll G vs (ns.map PyData.int) → vs = ns.map V.int
  | [], [], _ => rfl
  | [], _ :: _, h => nomatch h
  | _ :: _, [], h => nomatch h
  | v :: vs, n :: ns, h => by
    cases h with
    | cons a t =>
      cases a
      rw [List.map_cons, ← RpAll.ints_eq t]
theorem RpAll.len' {α : Type} {G : Hp} {xs : List V} {l : List α} {f : α → PyData} (h : RpAll G xs (l.map f)) : xs.length = l.length := by
  rw [h.length, List.length_map]
theorem RpAll.at' {α : Type} {G : Hp} {xs : List V} {l : List α} {f : α → PyData} {i : Nat} {x : V} (h : RpAll G xs (l.map f)) (hx : xs[i]? = some x) : ∃ q, l[i]? = some q ∧ Rp G x (f q) := by
  obtain ⟨d, hd, r⟩ := h.get' hx
  rw [List.getElem?_map] at hd
  cases e : l[i]? with
  | none =>
    rw [e] at hd
    cases hd
  | some q =>
    rw [e] at hd
    obtain rfl := Option.some.inj hd
    exact ⟨q, rfl, r⟩
theorem RpAll.one {v : V} {d : PyData} (h : Rp G v d) : RpAll G [v] [d] := .cons h .nil
theorem Rp.tupI {a : Addr} {ns : List Int} (h : G a = some (.tup (ns.map V.int))) : Rp G (.ref a) (.tuple (ns.map PyData.int)) := .tup h (RpAll.ints ns)
theorem Rp.lstI {a : Addr} {ns : List Int} (h : G a = some (.lst (ns.map V.int))) : Rp G (.ref a) (.list (ns.map PyData.int)) := .lst h (RpAll.ints ns)
mutual
theorem Rp.dp {K : PySem.W.Frag} : ∀ {v : V} {d : PyData}, Rp G v d → Dp K G v d
  | _, _, .non => .non
  | _, _, .bl b => .bl b
  | _, _, .int i => .int i
  | _, _, .str x => .str x
  | _, _, .lst h r => .lst (SqL.of h) (RpAll.dp r)
  | _, _, .tup h r => .tup (SqT.of h) (RpAll.dp r)
theorem RpAll.dp {K : PySem.W.Frag} : ∀ {vs : List V} {ds : List PyData}, RpAll G vs ds → DpAll K G vs ds
  | _, _, .nil => .nil
  | _, _, .cons a b => .cons (Rp.dp a) (RpAll.dp b)
end
end

/-! ### the forms of promises -/
/-- nothing of the heap changes -/
def PureSp (pre : List V → Hp → Prop) (post : List V → Hp → Hp → V → Prop) : Sp := fun vs H Q _ => ∃ G, Lw H G none [] G H ∧ pre vs G ∧ ∀ G' H' v, Lw H G none [] G' H' → post vs G G' v → Q v H'
/-- the pool (the first argument) may change: d draws at most -/
def PoolSp (d : Nat) (pre : List V → Hp → Prop) (post : List V → Hp → Hp → V → Prop) : Sp := fun vs H Q _ => ∃ G a c n ws, vs = .ref a :: ws ∧ Lw H G (some (a, c, n)) [] G H ∧ n + d ≤ 1000000 ∧ pre ws G ∧ ∀ G' H' v, Lw H G (some (a, c, n + d)) [] G' H' → post ws G G' v → Q v H'
section
variable {H0 G0 G H : Hp} {p : Option (Addr × Addr × Nat)} {ls : List (Addr × HO)} {pre : List V → Hp → Prop} {post : List V → Hp → Hp → V → Prop} {vs ws : List V} {Q : VK} {E : XK} {a c : Addr}
theorem call_pure (lw : Lw H0 G0 p ls G H) (hp : pre vs G) (k : ∀ G' H' v, Ex G G' → Lw H0 G0 p ls G' H' → post vs G G' v → Q v H') : PureSp pre post vs H Q E :=
  ⟨G, lw.enter, hp, fun G' H' v l hv => k G' H' v l.g0 (lw.after l) hv⟩
theorem call_pool {n d : Nat} (lw : Lw H0 G0 (some (a, c, n)) ls G H) (hn : n + d ≤ 1000000) (hp : pre ws G) (k : ∀ G' H' v, Ex G G' → Lw H0 G0 (some (a, c, n + d)) ls G' H' → post ws G G' v → Q v H') : PoolSp d pre post (.ref a :: ws) H Q E :=
  ⟨G, a, c, n, ws, rfl, lw.enterP, hn, hp, fun G' H' v l hv => k G' H' v l.g0 (lw.afterP l) hv⟩
end

/-! ### readings of single operations over known data -/
section
variable {K : PySem.W.Frag} {H0 G0 G H : Hp} {p : Option (Addr × Addr × Nat)} {ls : List (Addr × HO)} {Q : VK} {x y : V} {d e : PyData} {ds : List PyData} {n : Nat}
theorem SqL.g {a : Addr} {xs : List V} (lw : Lw H0 G0 p ls G H) (h : G a = some (.lst xs)) : SqL K H a xs := L2.SqL.of (lw.gh _ _ h)
theorem SqT.g {a : Addr} {xs : List V} (lw : Lw H0 G0 p ls G H) (h : G a = some (.tup xs)) : SqT K H a xs := L2.SqT.of (lw.gh _ _ h)
theorem r_ixL (lw : Lw H0 G0 p ls G H) (r : Rp G x (.list ds)) (h : ds[n]? = some d) (k : ∀ v, Rp G v d → Q v H) : rIxL K x (.int (n : Int)) H Q := by
  cases r with
  | lst ha rs =>
    obtain ⟨v, hv, rv⟩ := rs.get h
    exact ⟨_, _, _, v, rfl, rfl, SqL.g lw ha, atI_nat hv, k v rv⟩
theorem r_ixT (lw : Lw H0 G0 p ls G H) (r : Rp G x (.tuple ds)) (h : ds[n]? = some d) (k : ∀ v, Rp G v d → Q v H) : rIxT K x (.int (n : Int)) H Q := by
  cases r with
  | tup ha rs =>
    obtain ⟨v, hv, rv⟩ := rs.get h
    exact ⟨_, _, _, v, rfl, rfl, SqT.g lw ha, atI_nat hv, k v rv⟩
theorem Rp.up (lw : Lw H0 G0 p ls G H) (r : Rp G x d) : Dp K H x d := (r.ex lw.gh).dp
theorem r_eqD (lw : Lw H0 G0 p ls G H) (r : Rp G x d) (s : Rp G y e) (hd : SeqAt.shaped d = true) (he : SeqAt.shaped e = true) (k : Q (.bl (PyData.eqv d e)) H) : rEqD K x y H Q :=
  ⟨d, e, Rp.up lw r, Rp.up lw s, hd, he, k⟩
theorem r_neD (lw : Lw H0 G0 p ls G H) (r : Rp G x d) (s : Rp G y e) (hd : SeqAt.shaped d = true) (he : SeqAt.shaped e = true) (k : Q (.bl (!PyData.eqv d e)) H) : rNeD K x y H Q :=
  ⟨d, e, Rp.up lw r, Rp.up lw s, hd, he, k⟩
/-- a new tuple, a new list, known from now on -/
theorem t_tup {xs : List V} (lw : Lw H0 G0 p ls G H) (hz : xs.length ≤ 100000) (k : ∀ t G' H', Ex G G' → Lw H0 G0 p ls G' H' → G' t = some (.tup xs) → Q (.ref t) H') :
    xs.length ≤ sizeLine ∧ ∀ t, H t = none → Q (.ref t) (upd H t (.tup xs)) :=
  ⟨Evl.sz_of hz, fun t ht => k t (upd G t (.tup xs)) _ (ex_new (lw.free ht)) (lw.alloc ht) upd_same⟩
theorem t_lst {xs : List V} (lw : Lw H0 G0 p ls G H) (hz : xs.length ≤ 100000) (k : ∀ t G' H', Ex G G' → Lw H0 G0 p ls G' H' → G' t = some (.lst xs) → Q (.ref t) H') :
    xs.length ≤ sizeLine ∧ ∀ t, H t = none → Q (.ref t) (upd H t (.lst xs)) :=
  ⟨Evl.sz_of hz, fun t ht => k t (upd G t (.lst xs)) _ (ex_new (lw.free ht)) (lw.alloc ht) upd_same⟩
/-- shapes -/
theorem lay_ints : ∀ ns : List Int, PyData.canLayAll0 (ns.map PyData.int) = true
  | [] => by simp only [List.map_nil, PyData.canLayAll0]
  | n :: r => by
    rw [List.map_cons]
    simp only [PyData.canLayAll0, PyData.canLay0, Bool.true_and]
    exact lay_ints r
theorem depth_ints : ∀ ns : List Int, PyData.depthAll (ns.map PyData.int) = 0
  | [] => by simp only [List.map_nil, PyData.depthAll]
  | n :: r => by
    rw [List.map_cons]
    simp only [PyData.depthAll, PyData.depth, depth_ints r]
    rfl
theorem shaped_int (i : Int) : SeqAt.shaped (.int i) = true := by
  unfold SeqAt.shaped
  simp only [PyData.canLay0, PyData.depth]
  rfl
theorem shaped_tupI (ns : List Int) : SeqAt.shaped (.tuple (ns.map PyData.int)) = true := by
  unfold SeqAt.shaped
  simp only [PyData.canLay0, PyData.depth, lay_ints, depth_ints]
  rfl
theorem eqv_ints : ∀ ns ms : List Int, PyData.eqvAll (ns.map PyData.int) (ms.map PyData.int) = decide (ns = ms)
  | [], [] => by simp [PyData.eqvAll]
  | [], m :: r => by simp [PyData.eqvAll]
  | n :: r, [] => by simp [PyData.eqvAll]
  | n :: r, m :: s => by
    rw [List.map_cons, List.map_cons]
    simp only [PyData.eqvAll, PyData.eqv, eqv_ints r s]
    by_cases h : n = m
    · subst h
      simp
    · have e : (n == m) = false := beq_eq_false_iff_ne.mpr h
      rw [e, Bool.false_and]
      exact (decide_eq_false (fun z => h (List.cons.inj z).1)).symm
end
end UfG

/-! # Defs and error classes of a text; promises of defs that raise -/
namespace UfT
open PySem PySem.Spec PyProof.Rows L2 UfG
open Evl (Ex)

theorem units_h {k : Nat} {A : Around} (r : L2H.RoomH k A) : A.units + 64 < cLine := by
  have := r.un
  omega
theorem units0_h {k : Nat} {A : Around} (r : L2H.RoomH k A) : A.units < cLine := by
  have := r.un
  omega
/-- a def of the text -/
structure FnAt (K : PySem.W.Frag) (mg : Str → Option Value) (x : Str) (st : Stmt) (ps : List Str) where
  f : Addr
  fd : FuncData
  F : Fun K x x st f fd
  g : mg x = some (.ref f)
  b : Binds K fd ps []
/-- an error class with an own __init__ -/
structure ExAt (K : PySem.W.Frag) (mg : Str → Option Value) (x qual : Str) (st : Stmt) (ps : List Str) where
  C : Addr
  fI : Addr
  fd : FuncData
  g : mg x = some (.ref C)
  T : OexC K C
  kn : UfH.ExKnow K C
  iC : PySem.W.findIn K (.ref C) "__init__" = some (some (.ref fI))
  tI : PySem.W.typeIn K (.ref fI) = some (.type "function")
  F : Fun K "__init__" qual st fI fd
  b : Binds K fd ps []

/-- a class of the text -/
structure ClAt (mg : Str → Option Value) (x : Str) where
  C : Addr
  g : mg x = some (.ref C)
theorem takesN0 {X : Cx} : L2N.Takes X (fun _ _ _ _ => False) := fun _ _ x => by
  obtain ⟨_, _, _, _, _, _, _, _, _, _, _, _, _, _, _, _, z⟩ := x
  exact z.elim
/-- in the suite of an except clause -/
theorem hotOf {A : Around} {a : Addr} {oe : Obj} {cls : Value} {d : Option Addr} (hz : L2N.Zn cls d oe) (hf : ∃ vs, oe.data = .fields vs) : L2H.Hot1 (A.mark (some (.ref a))) (a, oe) := by
  obtain ⟨vs, e⟩ := hf
  exact ⟨rfl, vs, e, hz.2.2 vs e⟩
/-- what isinstance tells of an instance of the class at D -/
def Kits (K : PySem.W.Frag) (D : Addr) (cs : List (Value × Bool)) : Prop := ∀ c ∈ cs, PySem.W.kitOne K (.ref D) c.1 = some c.2

section
variable {K : PySem.W.Frag} {D : Addr} {c : Value × Bool} {cs : List (Value × Bool)}
theorem Kits.k0 (h : Kits K D (c :: cs)) : PySem.W.kitOne K (.ref D) c.1 = some c.2 := h c List.mem_cons_self
theorem Kits.tl (h : Kits K D (c :: cs)) : Kits K D cs := fun x hx => h x (List.mem_cons_of_mem _ hx)
theorem Kits.nil : Kits K D [] := fun _ hx => nomatch hx
theorem Kits.cons {v : Value} {b : Bool} (h : PySem.W.kitOne K (.ref D) v = some b) (r : Kits K D cs) : Kits K D ((v, b) :: cs) := fun x hx => by
  rcases List.mem_cons.mp hx with e | e
  · rw [e]
    exact h
  · exact r x e
end

/-! ### __init__ of one field -/
/-- self.f = y of a fresh error of the class at C -/
def spI1 (K : PySem.W.Frag) (f : Str) : Sp := fun vs H Q _ => ∃ (a C : Addr) (y : V), vs = [.ref a, y] ∧ OexC K C ∧ PySem.W.findIn K (.ref C) f = some none ∧ H a = some (exo a C none) ∧
  ∀ dx, H dx = none → dx ≠ a → Q .non (upd (upd H dx (exd dx [(f, y)])) a (exo a C (some dx)))
theorem mk1_of {K : PySem.W.Frag} {C : Addr} {f : Str} {y : V} {H1 : Hp} {Q : XK} (T : OexC K C) (hn : PySem.W.findIn K (.ref C) f = some none) (h : ∀ d, H1 d = none → Q (.ref C) (some d) (upd H1 d (.xd [(f, y)]))) :
    [y].length ≤ 1000 ∧ ∀ a, H1 a = none → spI1 K f (.ref a :: ([y] ++ [])) (upd H1 a (exo a C none))
      (fun v H2 => v = .non ∧ ∃ (d : Addr) (fs : List (Str × V)), H2 a = some (exo a C (some d)) ∧ H2 d = some (exd d fs) ∧ H1 d = none ∧ Q (.ref C) (some d) (upd (del H2 a) d (.xd fs))) (fun _ _ _ => False) := by
  refine ⟨(by show 1 ≤ 1000; decide), fun a ha => ⟨a, C, y, rfl, T, hn, upd_same, fun dx hd hne => ⟨rfl, dx, [(f, y)], upd_same, ?_, ?_, ?_⟩⟩⟩
  · rw [upd_ne hne, upd_same]
  · rw [upd_ne hne] at hd
    exact hd
  · have hd' : H1 dx = none := by
      rw [upd_ne hne] at hd
      exact hd
    have e : L2.upd (del (L2.upd (L2.upd (L2.upd H1 a (exo a C none)) dx (exd dx [(f, y)])) a (exo a C (some dx))) a) dx (.xd [(f, y)]) = L2.upd H1 dx (.xd [(f, y)]) := by
      funext b
      by_cases hb : b = dx
      · rw [hb, upd_same, upd_same]
      · rw [upd_ne hb, upd_ne hb]
        by_cases hba : b = a
        · rw [hba, del_same, ha]
        · rw [del_ne hba, upd_ne hba, upd_ne hb, upd_ne hba]
    rw [e]
    exact h dx hd'

/-! ### defs that raise -/
section
variable {P : Program} {w : World} {K : PySem.W.Frag} {mg : Str → Option Value} {base : Heap}
theorem fun_okX {x qual : Str} {st : Stmt} {f : Addr} {fd : FuncData} {N ps : List Str} {k : Nat} {sp : Sp} (F : Fun K x qual st f fd) (S : FnScope N ps (defScope st)) (len : ∀ vs H Q E, sp vs H Q E → vs.length = ps.length)
    (body : ∀ (cdv : Value) (A : Around) (outer : List Env) (s : Shared) (H : Hp) (vs : List V) (Q : VK) (E : XK), Room k (A.deeper (envOfC qual (defScope st) s.heap.objs.size f cdv)) → sp vs H Q E →
      ∃ t, PSs (cxOf (L2N.CX P w) P w K mg base N qual (defScope st) f cdv A outer s H E) (defBody st) t ∧ t { nx := fun _ H' => Q .non H', rt := Q } (start N vs) H) : FnOk P w K mg base (L2N.CX P w) (k + 1) f fd ps sp := by
  obtain ⟨oc, od, kV, doc, pm, an, cdv, ct, osl, rfl, lk, hcd⟩ := F.ex
  exact fn_of lk hcd S len fun A outer s H vs Q E hr hsp => body cdv A outer s H vs Q E hr hsp
end
/-- nothing of the heap changes; or an error is raised: C its class, d its own dict -/
def RaiseSp (pre : List V → Hp → Prop) (post : List V → Hp → Hp → V → Prop) (exc : List V → Hp → Addr → Addr → Prop) : Sp := fun vs H Q E => ∃ G, Lw H G none [] G H ∧ pre vs G ∧
  (∀ G' H' v, Lw H G none [] G' H' → post vs G G' v → Q v H') ∧ ∀ G' H' C d, Lw H G none [] G' H' → exc vs G' C d → E (.ref C) (some d) H'
theorem call_raise {H0 G0 G H : Hp} {p : Option (Addr × Addr × Nat)} {ls : List (Addr × HO)} {pre : List V → Hp → Prop} {post : List V → Hp → Hp → V → Prop} {exc : List V → Hp → Addr → Addr → Prop} {vs : List V} {Q : VK} {E : XK}
    (lw : Lw H0 G0 p ls G H) (hp : pre vs G) (k : ∀ G' H' v, Ex G G' → Lw H0 G0 p ls G' H' → post vs G G' v → Q v H') (kx : ∀ G' H' C d, Ex G G' → Lw H0 G0 p ls G' H' → exc vs G' C d → E (.ref C) (some d) H') :
    RaiseSp pre post exc vs H Q E := ⟨G, lw.enter, hp, fun G' H' v l hv => k G' H' v l.g0 (lw.after l) hv, fun G' H' C d l hv => kx G' H' C d l.g0 (lw.after l) hv⟩
/-- the own dict of a new error is known from now on -/
theorem Lw.errd {H0 G0 G H : Hp} {p : Option (Addr × Addr × Nat)} {ls : List (Addr × HO)} {d : Addr} {o : HO} (lw : Lw H0 G0 p ls G H) (h : H d = none) : Lw H0 G0 p ls (upd G d o) (upd H d o) := lw.alloc h
end UfT

/-! # More rules: comb, sum of a tuple, enumerate of a tuple, two lists of ints in order -/
namespace UfM
open PySem PySem.Spec PyProof.Rows L2
abbrev SL := L2.St

/-! ### math.comb -/
section
variable {X : Cx}
def rComb : List V → Hp → VK → Prop := fun vs H Q => ∃ a b : Int, vs = [.int a, .int b] ∧ 0 ≤ a ∧ 0 ≤ b ∧ a ≤ 18000 ∧ Q (.int (PySem.W.mcComb a b)) H
theorem cr_comb : CallR X (.builtin "math.comb") rComb := by
  intro pins s σ H vs us Q I r h
  obtain ⟨a, b, rfl, ha, hb, hz, q⟩ := h
  obtain ⟨t, u, rfl⟩ := Vals.int2 r
  exact PySem.W.mc_comb ha hb (by omega) (.inr hz) fun _ => ⟨.int _, H, I.tok _, ⟨_, rfl⟩, q⟩

/-! ### sum of a tuple of ints -/
def rSumT (K : PySem.W.Frag) : List V → Hp → VK → Prop := fun vs H Q => ∃ (a : Addr) (ns : List Int), vs = [V.ref a] ∧ SqT K H a (ns.map V.int) ∧ Q (.int ns.sum) H
theorem cr_sumT (hc : X.calm = true) : CallR X (.builtin "sum") (rSumT X.K) := by
  intro pins s σ H vs us Q I r h
  obtain ⟨a, ns, rfl, hs, q⟩ := h
  obtain ⟨its, rv, hl, _⟩ := I.tuple hs
  rw [Vals.ref1 r]
  have hi := rv.ints
  obtain ⟨xs, e⟩ := hi.allInts.items
  have hn : numsOf (intItems xs).toList = ns := by rw [← e]; exact hi.numsOf
  rw [nums_intItems] at hn
  have hl' : s.heap.IsTuple a its.toArray := hl
  rw [e] at hl'
  refine PySem.W.ktm_sumG (I.ok.hd hc) hl' fun h' tk t' hk => ?_
  rw [preSum_eq, List.take_of_length_le (by simp), hn]
  exact ⟨.int _, H, I.kept hk, ⟨_, rfl⟩, q⟩

/-! ### a list of ints that is greater than another one -/
theorem first_yes {e r : Nat → Bool} {fin : Bool} {k : Nat} : ∀ (l1 l2 : List Nat), (∀ j ∈ l1, e j = true) → e k = false → r k = true → SeqAt.firstLt e r fin (l1 ++ k :: l2) = true
  | [], l2, _, hk, hr => by
    rw [List.nil_append, SeqAt.firstLt_no hk, hr]
  | j :: l1, l2, h, hk, hr => by
    rw [List.cons_append, SeqAt.firstLt_yes (h j List.mem_cons_self)]
    exact first_yes l1 l2 (fun i hi => h i (List.mem_cons_of_mem _ hi)) hk hr
theorem range_cut {k n : Nat} (h : k < n) : List.range n = List.range k ++ k :: (List.range (n - k - 1)).map (k + 1 + ·) := by
  have e : n = k + ((n - k - 1) + 1) := by omega
  rw [e, List.range_add, List.range_succ_eq_map, List.map_cons, List.map_map]
  have z : k + (n - k - 1 + 1) - k - 1 = n - k - 1 := by omega
  rw [z]
  congr 2
  apply List.map_congr_left
  intro a _
  show k + (a + 1) = k + 1 + a
  omega
def rGtL (K : PySem.W.Frag) : R2 := fun x y H Q => ∃ (a b : Addr) (ns ms : List Int) (k : Nat) (u v : Int), x = .ref a ∧ y = .ref b ∧ SqL K H a (ns.map V.int) ∧ SqL K H b (ms.map V.int) ∧
  (∀ j < k, ns[j]? = ms[j]?) ∧ ns[k]? = some u ∧ ms[k]? = some v ∧ v < u ∧ Q (.bl true) H
theorem op_gtL (hu : X.A.units < cLine) : OpR X (compareOp .Gt) (rGtL X.K) := by
  intro pins s σ H x y u v Q I rx ry h
  obtain ⟨a, b, ns, ms, k, p, q, rfl, rfl, ha, hb, eq, hp, hq, hlt, g⟩ := h
  cases rx
  cases ry
  obtain ⟨its, rv, la, _⟩ := I.list ha
  obtain ⟨jts, rw', lb, _⟩ := I.list hb
  have n1 : its.toArray.size = ns.length := by rw [List.size_toArray, ← rv.length, List.length_map]
  have n2 : jts.toArray.size = ms.length := by rw [List.size_toArray, ← rw'.length, List.length_map]
  have at1 : ∀ j (h1 : j < its.toArray.size), ∃ t, its.toArray[j] = .int (ns.getD j 0) t := fun j h1 => by
    have hj : j < ns.length := by omega
    obtain ⟨w, hw, r⟩ := rv.get (i := j) (x := .int ns[j]) (by rw [List.getElem?_map, List.getElem?_eq_getElem hj]; rfl)
    obtain ⟨t, rfl⟩ := r
    refine ⟨t, ?_⟩
    have z : its[j]? = some its.toArray[j] := by simp
    rw [hw] at z
    rw [← Option.some.inj z]
    simp [List.getD, List.getElem?_eq_getElem hj]
  have at2 : ∀ j (h1 : j < jts.toArray.size), ∃ t, jts.toArray[j] = .int (ms.getD j 0) t := fun j h1 => by
    have hj : j < ms.length := by omega
    obtain ⟨w, hw, r⟩ := rw'.get (i := j) (x := .int ms[j]) (by rw [List.getElem?_map, List.getElem?_eq_getElem hj]; rfl)
    obtain ⟨t, rfl⟩ := r
    refine ⟨t, ?_⟩
    have z : jts[j]? = some jts.toArray[j] := by simp
    rw [hw] at z
    rw [← Option.some.inj z]
    simp [List.getD, List.getElem?_eq_getElem hj]
  have k1 := (List.getElem?_eq_some_iff.mp hp).1
  have k2 := (List.getElem?_eq_some_iff.mp hq).1
  have R := SeqAt.RcOp.lists_gt (A := X.A) (s := s) (e := fun j => ns.getD j 0 == ms.getD j 0) (r := fun j => decide (ms.getD j 0 < ns.getD j 0)) la.isList lb.isList hu
    (fun j h1 h2 => by
      obtain ⟨t, e1⟩ := at1 j h1
      obtain ⟨t', e2⟩ := at2 j h2
      rw [e1, e2]
      exact SeqAt.EqAt.int_int _ _ _ _)
    (fun j h1 h2 _ => by
      obtain ⟨t, e1⟩ := at1 j h1
      obtain ⟨t', e2⟩ := at2 j h2
      rw [e1, e2]
      exact fun _ _ _ _ z => PyProof.Rows.gt_int z)
  refine R X.prog X.w _ _ ?_
  have val : SeqAt.firstLt (fun j => ns.getD j 0 == ms.getD j 0) (fun j => decide (ms.getD j 0 < ns.getD j 0)) (decide (its.toArray.size > jts.toArray.size)) (List.range (min its.toArray.size jts.toArray.size)) = true := by
    rw [range_cut (show k < min its.toArray.size jts.toArray.size by omega)]
    refine first_yes _ _ (fun j hj => ?_) ?_ ?_
    · have z := eq j (List.mem_range.mp hj)
      simp [List.getD, z]
    · simp [List.getD, hp, hq]
      omega
    · simp [List.getD, hp, hq]
      omega
  rw [val]
  exact ⟨.bl true, H, I, rfl, g⟩
end

/-! ### enumerate(t), t a tuple -/
theorem meets_enum_tup {v : Value} {o : Obj} {Hs : Heap → Prop} (B : Begins v o Hs) :
    Meets (Builtin.«enumerate.__new__» ⟨[.type "enumerate", v], []⟩) (fun _ R s => Hs s.heap ∧
      R (.ok (.ret (.ref (s.heap.push o).objs.size))) { s with heap := (s.heap.push o).push { cls := .type "enumerate", data := .fields #[.none, .bool false, .ref s.heap.objs.size, rawInt 0, .none, .none] } }) :=
  .of_wp fun prog w A R s h => by
    obtain ⟨hp, g, d, tk, os⟩ := s
    obtain ⟨h1, h⟩ := h
    have known := sub_enumerate
    have q1 : ∀ {A' : Around} {E : Value → Shared → Prop} {Q : Value → Shared → Prop}, Q (.ref hp.objs.size) ⟨hp.push o, g, d, tk, os⟩ → wpAny (model prog w) A' (pyIter v) Q E ⟨hp, g, d, tk, os⟩ := fun q => B.iter prog w _ _ ⟨hp, g, d, tk, os⟩ _ h1 q
    wp_walk using q1
    refine wpAny_stack_any fun st => wpAny_pure ?_
    split
    · rename_i c _ _ _ _ _
      cases (c == Value.type "enumerate") <;> (wp_walk using q1; exact ⟨_, rfl, h⟩)
    · (wp_walk using q1; exact ⟨_, rfl, h⟩)
theorem call_enum_tup {prog : Program} {w : World} {A : Around} {E : Value → Shared → Prop} {s : Shared} {v : Value} {o : Obj} {Hs : Heap → Prop} {Q : Value → Shared → Prop} (B : Begins v o Hs) (h1 : Hs s.heap)
    (h : ∀ h', IsEnum h' (s.heap.objs.size + 1) s.heap.objs.size 0 .none → h'.get? s.heap.objs.size = some o →
      (∀ b o, s.heap.get? b = some o → h'.get? b = some o) → Q (.ref (s.heap.objs.size + 1)) { s with heap := h' }) :
    wpAny (model prog w) A (call (.type "enumerate") [v]) Q E s := by
  refine callType_new F.called_enumerate (by decide) (F.typeCall_enumerate_1 _) (F.newCall_enumerate_1 _) (fun obj => F.args_object_init_2 obj _) F.entry_enumerate_new (meets_enum_tup B) ⟨h1, ?_⟩
  have hz : (s.heap.push o).objs.size = s.heap.objs.size + 1 := Heap.size_push ..
  show _ ∧ _
  rw [hz]
  have he : IsEnum ((s.heap.push o).push { cls := .type "enumerate", data := .fields #[.none, .bool false, .ref s.heap.objs.size, rawInt 0, .none, .none] }) (s.heap.objs.size + 1) s.heap.objs.size 0 .none := by
    have z := Heap.get?_push_size (s.heap.push o) (o := { cls := .type "enumerate", data := .fields #[.none, .bool false, .ref s.heap.objs.size, rawInt 0, .none, .none] }) rfl
    rw [hz] at z
    exact z
  exact ⟨⟨_, he, rfl⟩, h _ he (Heap.get?_push_of_some _ (Heap.get?_push_size _ B.free)) fun b o x => Heap.get?_push_of_some _ (Heap.get?_push_of_some _ x)⟩
def Itet (K : PySem.W.Frag) (a : Addr) : It :=
  ⟨fun i H => ∃ (xs : List V) (x : V), SqT K H a xs ∧ xs[i]? = some x, fun i H v H' => ∃ T x, v = .ref T ∧ H T = none ∧ H' = upd H T (.tup [.int (i : Nat), x]) ∧ ∀ xs, SqT K H a xs → xs[i]? = some x, fun i H => ∃ xs : List V, SqT K H a xs ∧ xs.length = i⟩
theorem turn_enumT {P : Program} {w : World} {K : PySem.W.Frag} {elts : List Expr} {kk : Nat} {tpos : Pos} (a e it : Addr) (hat : a ≠ it) (hea : e ≠ a) :
    Turn P w K (.Tuple elts kk tpos) (Itet K a) [e, it] e (fun i h => (∃ old, IsEnum h e it ((i : Nat) : Int) old) ∧ h.IsTupleIter it a i ∧ e ≠ it) where
  mem := List.mem_cons_self
  obj := fun i h st b hb => by
    obtain ⟨⟨old, he⟩, ⟨o, ho, hc, hd⟩, _⟩ := st
    simp only [List.mem_cons, List.not_mem_nil, or_false] at hb
    rcases hb with rfl | rfl
    · exact ⟨_, he, fun v q => nomatch q⟩
    · exact ⟨o, ho, fun v q => by rw [hd] at q; cases q⟩
  keep := fun i h h' st k => by
    obtain ⟨⟨old, he⟩, hi, hne⟩ := st
    exact ⟨⟨old, k e (by simp) _ he⟩, hi.at fun o q => k it (by simp) o q, hne⟩
  item := by
    intro X hP hw hK hc i pins s σ H E I hf st hg
    subst hP hw hK
    obtain ⟨⟨old, he⟩, hit, hne⟩ := st
    obtain ⟨xs, x, hq, hx⟩ := hg
    obtain ⟨its, rv, p, hz⟩ := I.tuple hq
    obtain ⟨u, hu, ru⟩ := rv.get hx
    have hi : i < its.toArray.size := by
      rw [List.size_toArray]
      exact (List.getElem?_eq_some_iff.mp hu).1
    have hel : e < s.heap.objs.size := Heap.lt_size he
    have hil : it < s.heap.objs.size := by
      obtain ⟨_, q, _⟩ := hit
      exact Heap.lt_size q
    have D := Draws.tuple (prog := X.prog) (w := X.w) (A := X.A.in1) (I.ok.hd hc) it a hat its.toArray
    refine wpAny_pyNext_enum_itemD D he ⟨hit, show s.heap.IsTuple a its.toArray from p⟩ hi hne (by simp [hne, hea]) fun v h' tk hv ho st' hT hsz hk => ?_
    have ev : v = u := by
      have z : its.toArray[i]? = some u := by simpa using hu
      exact Option.some.inj (hv.symm.trans z)
    subst ev
    refine ⟨_, rfl, wpAny_letOwnedTupleGo_enum (s := { s with heap := h', toks := tk + 1 }) ho fun h'' he' sb => ?_⟩
    have hT2 : h''.get? s.heap.objs.size = some { cls := .type "tuple", data := .seq #[.int i tk, v] } := (sb.2 _ (Nat.ne_of_gt hel)).trans hT
    have new : ObjOk X.prog X.w (upd H s.heap.objs.size (.tup [.int (i : Nat), x])) h'' s.heap.objs.size (.tup [.int (i : Nat), x]) :=
      ⟨by show 2 ≤ sizeLine; decide, [.int i tk, v], .cons ⟨_, rfl⟩ (.cons ru .nil), ⟨_, hT2, rfl, _, rfl⟩⟩
    have kept : ∀ b ob, b ∉ [e, it] → s.heap.get? b = some ob → h''.get? b = some ob := fun b ob hb q => by
      have b1 : b ≠ e := fun z => hb (by simp [z])
      have b2 : b ≠ it := fun z => hb (by simp [z])
      exact (sb.2 b b1).trans (hk b ob b1 b2 q)
    have I1 : Inv X pins σ (upd H s.heap.objs.size (.tup [.int (i : Nat), x])) { s with heap := h'', toks := tk + 1 } := I.turnedNew (ch := [e, it]) kept hf (Nat.le_refl _) new
    refine ⟨.ref s.heap.objs.size, _, I1, rfl, ⟨_, x, rfl, I.hok.fresh (Nat.le_refl _), rfl, fun ys hy => by rw [I.tuple_inj hy hq]; exact hx⟩, ⟨⟨v, ?_⟩, ?_, hne⟩, fun b hb => ?_⟩
    · rw [show ((i + 1 : Nat) : Int) = (i : Int) + 1 by omega]
      exact he'
    · exact st'.1.at fun o q => (sb.2 it (Ne.symm hne)).trans q
    · have hb' : b < s.heap.objs.size := by
        simp only [List.mem_cons, List.not_mem_nil, or_false] at hb
        rcases hb with rfl | rfl
        · exact hel
        · exact hil
      rw [upd_ne (Nat.ne_of_lt hb')]
      exact (hf b hb).1
  done := by
    intro X hP hw hK hc i pins s σ H E I hf st hg
    subst hP hw hK
    obtain ⟨⟨old, he⟩, hit, hne⟩ := st
    obtain ⟨xs, hq, hx⟩ := hg
    obtain ⟨its, rv, p, hz⟩ := I.tuple hq
    obtain ⟨f0, f1, f2, f3, f4, f5⟩ := hf it (by simp)
    have hl : i = its.toArray.size := by
      rw [List.size_toArray, ← rv.length]
      exact hx.symm
    have D := Draws.tuple (prog := X.prog) (w := X.w) (A := X.A.in1) (I.ok.hd hc) it a hat its.toArray
    exact wpAny_pyNext_enum_endD D he ⟨hl ▸ hit, show s.heap.IsTuple a its.toArray from p⟩ fun h' eb => ⟨rfl, I.turned (t' := s.toks) (fun b o hb q => eb b o hb q) f0 f1 f3 f4 f5⟩
  self := fun A i s Q E st h => by
    obtain ⟨⟨old, he⟩, _⟩ := st
    exact wpAny_pyIter_enum he h
def iEnumT (K : PySem.W.Frag) (ta : TA) : TI := fun σ H R => ta σ H fun vs H1 => ∃ a xs, vs = [.ref a] ∧ SqT K H1 a xs ∧ R (Itet K a) H1
theorem pi_enumT {X : Cx} {e : Expr} {ta : TA} {p pos tpos : Pos} {elts : List Expr} {kk : Nat} (hg : Gl X "enumerate") (hm : X.mg "enumerate" = none) (ha : PA X [e] ta) (hs : starEach [e] X.env = [(false, eval e X.env)] := by rfl) :
    PI X (.Tuple elts kk tpos) (.Call (.Name "enumerate" p) [e] [] pos) (iEnumT X.K ta) := by
  refine ⟨fun pins s σ H R I h => ?_⟩
  refine Call_ (ld_blt I hg hm boot_enumerate (PyProof.Rows.callWith_type1 (thn (ha.run pos pins s σ H _ I h) fun us s1 hv => ?_) hs rfl))
  obtain ⟨vs, H1, I1, r1, a, xs, ex, hq, q⟩ := hv
  subst ex
  cases r1 with
  | cons r rr =>
    cases rr
    cases r
    obtain ⟨its, rv, p', hz⟩ := I1.tuple hq
    have ht : s1.heap.IsTuple a its.toArray := p'
    obtain ⟨oa, hoa, _⟩ := id ht
    have la := Heap.lt_size hoa
    refine call_enum_tup (begins_tuple a its.toArray) ht fun h' he hit hk => wpAny_pyIter_enum he ?_
    have I2 : Inv X pins σ H1 { s1 with heap := h' } := I1.kept (t' := s1.toks) hk
    refine ⟨s1.heap.objs.size + 1, [s1.heap.objs.size + 1, s1.heap.objs.size], _, _, H1, rfl, I2, turn_enumT a (s1.heap.objs.size + 1) s1.heap.objs.size (Nat.ne_of_lt la) (Nat.ne_of_gt (Nat.lt_succ_of_lt la)), ⟨⟨.none, he⟩, ⟨_, hit, rfl, rfl⟩, Nat.succ_ne_self _⟩, fun b hb => ?_, q⟩
    simp only [List.mem_cons, List.not_mem_nil, or_false] at hb
    have hb' : s1.heap.objs.size ≤ b := by
      rcases hb with rfl | rfl
      · exact Nat.le_succ _
      · exact Nat.le_refl _
    exact I1.fpOk hb' (I1.hok.fresh hb')
theorem for_enumT {K : PySem.W.Frag} {a : Addr} {xs : List V} {g : TG} {tb : TS} {D : Ends} {σ : SL} {H : Hp} (Pv : Nat → SL → Hp → Prop) (h0 : Pv 0 σ H) (hl : ∀ i σ H, i ≤ xs.length → Pv i σ H → SqT K H a xs)
    (hs : ∀ i x T σ H, xs[i]? = some x → Pv i σ H → H T = none → g (.ref T) σ (upd H T (.tup [.int (i : Nat), x])) fun σ2 H2 => tb { D with nx := Pv (i + 1), ct := Pv (i + 1), bk := D.nx } σ2 H2)
    (hd : ∀ σ H, Pv xs.length σ H → D.nx σ H) :
    ∃ W : Nat → Nat → SL → Hp → Prop, (∃ m, W 0 m σ H) ∧ ∀ i m σ H, W i m σ H →
      ((Itet K a).stop i H ∧ D.nx σ H) ∨ ((Itet K a).go i H ∧ ∃ N : SL → Hp → Prop, (∀ σ' H', N σ' H' → ∃ m', m' < m ∧ W (i + 1) m' σ' H') ∧ ∀ x H', (Itet K a).yld i H x H' → g x σ H' fun σ2 H2 => tb { D with nx := N, ct := N, bk := D.nx } σ2 H2) := by
  refine ⟨fun i m σ H => m = xs.length - i ∧ i ≤ xs.length ∧ Pv i σ H, ⟨xs.length, by omega, Nat.zero_le _, h0⟩, ?_⟩
  rintro i m σ H ⟨rfl, hi, p⟩
  have q := hl i σ H hi p
  by_cases hlt : i < xs.length
  · have hx : xs[i]? = some xs[i] := List.getElem?_eq_getElem hlt
    refine .inr ⟨⟨xs, _, q, hx⟩, Pv (i + 1), fun σ' H' pn => ⟨xs.length - (i + 1), by omega, rfl, by omega, pn⟩, fun v H' y => ?_⟩
    obtain ⟨T, x, rfl, hT, rfl, f⟩ := y
    exact hs i x T σ H (f xs q) p hT
  · have e : i = xs.length := by omega
    subst e
    exact .inl ⟨⟨xs, q, rfl⟩, hd σ H p⟩
end UfM

/-! # The rules with the written part K told: also within a comprehension's block -/
namespace UfK
open PySem PySem.Spec PyProof.Rows L2
section
variable {X : Cx} {K : PySem.W.Frag}
theorem ix_listK (h : X.K = K := by rfl) : IxR X (rIxL K) := h ▸ ix_list
theorem ix_tupK (h : X.K = K := by rfl) : IxR X (rIxT K) := h ▸ ix_tup
theorem call_lenK (h : X.K = K := by rfl) : CallR X (.builtin "len") (Evl.rLenS K) := h ▸ call_len_seq
theorem cr_sumK (hc : X.calm = true) (h : X.K = K := by rfl) : CallR X (.builtin "sum") (rSum K) := h ▸ cr_sum hc
theorem cr_sumTK (hc : X.calm = true) (h : X.K = K := by rfl) : CallR X (.builtin "sum") (UfM.rSumT K) := h ▸ UfM.cr_sumT hc
theorem cr_allK (hc : X.calm = true) (h : X.K = K := by rfl) : CallR X (.builtin "all") (rAll K) := h ▸ cr_all hc
theorem cr_anyK (hc : X.calm = true) (h : X.K = K := by rfl) : CallR X (.builtin "any") (rAny K) := h ▸ cr_any hc
theorem call_list_ofK (h : X.K = K := by rfl) : CallR X (.type "list") (Evl.rListS K) := h ▸ call_list_of
def rTupS (K : PySem.W.Frag) : List V → Hp → VK → Prop := fun xs H Q => ∃ p ys, xs = [.ref p] ∧ ((SqL K H p ys ∧ ∀ l, H l = none → Q (.ref l) (upd H l (.tup ys))) ∨ (SqT K H p ys ∧ Q (.ref p) H))
theorem call_tuple_ofK (h : X.K = K := by rfl) : CallR X (.type "tuple") (rTupS K) := h ▸ call_tuple_of
theorem op_catAK (h : X.K = K := by rfl) : OpR X (binaryOp .Add) (rCatA K) := h ▸ op_catA
theorem op_eqDK (hu : X.A.units + 64 < cLine) (h : X.K = K := by rfl) : OpR X (compareOp .Eq) (rEqD K) := h ▸ op_eqD hu
theorem op_neDK (hu : X.A.units + 64 < cLine) (h : X.K = K := by rfl) : OpR X (compareOp .NotEq) (rNeD K) := h ▸ op_neD hu
theorem op_inK (h : X.K = K := by rfl) : OpR X (compareOp .In) (rIn K false) := h ▸ op_in_seq
theorem op_notInK (h : X.K = K := by rfl) : OpR X (compareOp .NotIn) (rIn K true) := h ▸ op_notIn_seq
theorem op_gtLK (hu : X.A.units < cLine) (h : X.K = K := by rfl) : OpR X (compareOp .Gt) (UfM.rGtL K) := h ▸ UfM.op_gtL hu
theorem sl_listK (h : X.K = K := by rfl) : SlR X (rSlL K) := h ▸ sl_list
theorem sl_tupK (h : X.K = K := by rfl) : SlR X (rSlA K) := h ▸ sl_tupA
theorem call_isiK' (h : X.K = K := by rfl) : CallR X (.builtin "isinstance") (rIsi K) := h ▸ call_isi
variable {tg l : Expr} {tl : TE}
theorem pi_listK (hl : PE X l tl) (h : X.K = K := by rfl) : PI X tg l (iList K tl) := h ▸ pi_list hl
theorem pi_tupK (hl : PE X l tl) (h : X.K = K := by rfl) : PI X tg l (iTup K tl) := h ▸ pi_tup hl
theorem pg_tupK {es : List Expr} {k : Nat} {t : TGs} {n : Nat} {pos : Pos} (hc : X.calm = true) (h : PGs X es t) (e : X.K = K := by rfl)
    (hn : (assignEach es X.env).length = n := by rfl) (hst : (assignEach es X.env).findIdx? (·.1) = none := by rfl) : PG X (.Tuple es k pos) (gTup K n t) := e ▸ pg_tup hc h hn hst
end
end UfK

/-! # Comprehensions' turns by a word over the turn's number; more readings over known data -/
namespace UfI
open PySem PySem.Spec PyProof.Rows L2 UfG
open Evl (Ex)
section
variable {K : PySem.W.Frag} {a : Addr} {xs : List V} {B : V → Hp → (Hp → Prop) → Prop} {Hs : Hp} {Qd : Hp → Prop} {lo c : Int} {n : Nat}
theorem it_list (Pv : Nat → Hp → Prop) (h0 : Pv 0 Hs) (hl : ∀ i H, i ≤ xs.length → Pv i H → SqL K H a xs) (hs : ∀ i x H, xs[i]? = some x → Pv i H → B x H (Pv (i + 1))) (hd : ∀ H, Pv xs.length H → Qd H) :
    ∃ W : Nat → Nat → Hp → Prop, (∃ m, W 0 m Hs) ∧ ∀ i m H, W i m H → ((Itl K a).stop i H ∧ Qd H) ∨ ((Itl K a).go i H ∧ ∃ Nx : Hp → Prop, (∀ H', Nx H' → ∃ m', m' < m ∧ W (i + 1) m' H') ∧ ∀ x H', (Itl K a).yld i H x H' → B x H' Nx) := by
  refine ⟨fun i m H => m = xs.length - i ∧ i ≤ xs.length ∧ Pv i H, ⟨xs.length, by omega, Nat.zero_le _, h0⟩, ?_⟩
  rintro i m H ⟨rfl, hi, p⟩
  have q := hl i H hi p
  by_cases hlt : i < xs.length
  · have hx : xs[i]? = some xs[i] := List.getElem?_eq_getElem hlt
    refine .inr ⟨⟨xs, _, q, hx⟩, Pv (i + 1), fun H' pn => ⟨xs.length - (i + 1), by omega, rfl, by omega, pn⟩, fun x H' y => ?_⟩
    obtain ⟨rfl, f⟩ := y
    exact hs i x H' (f xs q) p
  · have e : i = xs.length := by omega
    subst e
    exact .inl ⟨⟨xs, q, Nat.le_refl _⟩, hd H p⟩
theorem it_tup (Pv : Nat → Hp → Prop) (h0 : Pv 0 Hs) (hl : ∀ i H, i ≤ xs.length → Pv i H → SqT K H a xs) (hs : ∀ i x H, xs[i]? = some x → Pv i H → B x H (Pv (i + 1))) (hd : ∀ H, Pv xs.length H → Qd H) :
    ∃ W : Nat → Nat → Hp → Prop, (∃ m, W 0 m Hs) ∧ ∀ i m H, W i m H → ((Itt K a).stop i H ∧ Qd H) ∨ ((Itt K a).go i H ∧ ∃ Nx : Hp → Prop, (∀ H', Nx H' → ∃ m', m' < m ∧ W (i + 1) m' H') ∧ ∀ x H', (Itt K a).yld i H x H' → B x H' Nx) := by
  refine ⟨fun i m H => m = xs.length - i ∧ i ≤ xs.length ∧ Pv i H, ⟨xs.length, by omega, Nat.zero_le _, h0⟩, ?_⟩
  rintro i m H ⟨rfl, hi, p⟩
  have q := hl i H hi p
  by_cases hlt : i < xs.length
  · have hx : xs[i]? = some xs[i] := List.getElem?_eq_getElem hlt
    refine .inr ⟨⟨xs, _, q, hx⟩, Pv (i + 1), fun H' pn => ⟨xs.length - (i + 1), by omega, rfl, by omega, pn⟩, fun x H' y => ?_⟩
    obtain ⟨rfl, f⟩ := y
    exact hs i x H' (f xs q) p
  · have e : i = xs.length := by omega
    subst e
    exact .inl ⟨⟨xs, q, Nat.le_refl _⟩, hd H p⟩
theorem it_rng (Pv : Nat → Hp → Prop) (h0 : Pv 0 Hs) (hs : ∀ (i : Nat) H, i < n → Pv i H → B (.int (lo + (i : Nat))) H (Pv (i + 1))) (hd : ∀ H, Pv n H → Qd H) :
    ∃ W : Nat → Nat → Hp → Prop, (∃ m, W 0 m Hs) ∧ ∀ i m H, W i m H → ((Itr lo n).stop i H ∧ Qd H) ∨ ((Itr lo n).go i H ∧ ∃ Nx : Hp → Prop, (∀ H', Nx H' → ∃ m', m' < m ∧ W (i + 1) m' H') ∧ ∀ x H', (Itr lo n).yld i H x H' → B x H' Nx) := by
  refine ⟨fun i m H => m = n - i ∧ i ≤ n ∧ Pv i H, ⟨n, by omega, Nat.zero_le _, h0⟩, ?_⟩
  rintro i m H ⟨rfl, hi, p⟩
  by_cases hlt : i < n
  · refine .inr ⟨hlt, Pv (i + 1), fun H' pn => ⟨n - (i + 1), by omega, rfl, by omega, pn⟩, fun x H' y => ?_⟩
    obtain ⟨rfl, rfl⟩ := y
    exact hs i H' hlt p
  · have e : i = n := by omega
    subst e
    exact .inl ⟨Nat.le_refl _, hd H p⟩
theorem it_rngC (Pv : Nat → Hp → Prop) (h0 : Pv 0 Hs) (hs : ∀ (i : Nat) H, i < n → Pv i H → B (.int (lo + (i : Nat) * c)) H (Pv (i + 1))) (hd : ∀ H, Pv n H → Qd H) :
    ∃ W : Nat → Nat → Hp → Prop, (∃ m, W 0 m Hs) ∧ ∀ i m H, W i m H → ((Itc lo c n).stop i H ∧ Qd H) ∨ ((Itc lo c n).go i H ∧ ∃ Nx : Hp → Prop, (∀ H', Nx H' → ∃ m', m' < m ∧ W (i + 1) m' H') ∧ ∀ x H', (Itc lo c n).yld i H x H' → B x H' Nx) := by
  refine ⟨fun i m H => m = n - i ∧ i ≤ n ∧ Pv i H, ⟨n, by omega, Nat.zero_le _, h0⟩, ?_⟩
  rintro i m H ⟨rfl, hi, p⟩
  by_cases hlt : i < n
  · refine .inr ⟨hlt, Pv (i + 1), fun H' pn => ⟨n - (i + 1), by omega, rfl, by omega, pn⟩, fun x H' y => ?_⟩
    obtain ⟨rfl, rfl⟩ := y
    exact hs i H' hlt p
  · have e : i = n := by omega
    subst e
    exact .inl ⟨Nat.le_refl _, hd H p⟩
end
section
variable {K : PySem.W.Frag} {H0 G0 G H : Hp} {p : Option (Addr × Addr × Nat)} {ls : List (Addr × HO)} {Q : VK} {a b : Addr} {xs ys : List V}
theorem r_catT (lw : Lw H0 G0 p ls G H) (ha : G a = some (.tup xs)) (hb : G b = some (.tup ys)) (hz : xs.length + ys.length ≤ 100000)
    (k : ∀ t G' H', Ex G G' → Lw H0 G0 p ls G' H' → G' t = some (.tup (xs ++ ys)) → Q (.ref t) H') : rCatA K (.ref a) (.ref b) H Q := by
  refine ⟨a, b, xs, ys, rfl, rfl, SqT.g lw ha, SqT.g lw hb, Evl.sz_of hz, fun e => ?_, fun _ e => ?_, fun _ _ t ht => ?_⟩
  · refine k b G H (Evl.Ex.refl G) lw ?_
    rw [e, List.nil_append]
    exact hb
  · refine k a G H (Evl.Ex.refl G) lw ?_
    rw [e, List.append_nil]
    exact ha
  · exact k t _ _ (ex_new (lw.free ht)) (lw.alloc ht) upd_same
/-- one more item of a list that is being made -/
theorem lc_put {D : Addr} {acc : List V} {y : V} {P : Hp → Prop} (lw : Lw H0 G0 p ((D, .lst acc) :: ls) G H) (hz : acc.length < 100000) (k : ∀ H', Lw H0 G0 p ((D, .lst (acc ++ [y])) :: ls) G H' → P H') :
    ∃ acc', H D = some (.lst acc') ∧ acc'.length < sizeLine ∧ P (upd H D (.lst (acc' ++ [y]))) := ⟨acc, lw.at, Evl.sz_lt hz, k _ lw.put⟩
theorem cutV_take (xs : List V) (k : Nat) : cutV xs none (some (k : Int)) = xs.take k := by
  unfold cutV
  rw [HT.sIx_none, HT.sIx_nat, List.drop_zero, Nat.sub_zero]
  by_cases h : k ≤ xs.length
  · rw [Nat.min_eq_left h]
  · rw [Nat.min_eq_right (by omega), List.take_of_length_le (Nat.le_refl _), List.take_of_length_le (by omega)]
/-- a loop over a range that may break: Pb, what holds behind it -/
theorem for_rangeB {lo : Int} {n : Nat} {g : TG} {tb : TS} {D : Ends} {σ : L2.St} {H : Hp} (Pv : Nat → L2.St → Hp → Prop) (Pb : L2.St → Hp → Prop) (hk : ∀ σ H, Pb σ H → D.nx σ H) (h0 : Pv 0 σ H)
    (hs : (∀ σ H, Pb σ H → D.nx σ H) → ∀ i σ H, i < n → Pv i σ H → g (.int (lo + i)) σ H fun σ2 H2 => tb { D with nx := Pv (i + 1), ct := Pv (i + 1), bk := D.nx } σ2 H2) (hd : ∀ σ H, Pv n σ H → Pb σ H) :
    ∃ W : Nat → Nat → L2.St → Hp → Prop, (∃ m, W 0 m σ H) ∧ ∀ i m σ H, W i m σ H →
      ((Itr lo n).stop i H ∧ D.nx σ H) ∨ ((Itr lo n).go i H ∧ ∃ N : L2.St → Hp → Prop, (∀ σ' H', N σ' H' → ∃ m', m' < m ∧ W (i + 1) m' σ' H') ∧ ∀ x H', (Itr lo n).yld i H x H' → g x σ H' fun σ2 H2 => tb { D with nx := N, ct := N, bk := D.nx } σ2 H2) :=
  for_range Pv h0 (hs hk) fun σ H p => hk _ _ (hd _ _ p)
theorem and2 {b : Bool} {M B : Prop} (h1 : b = true → B → M) (h2 : B) : if b = true then M else B := by
  by_cases h : b = true
  · rw [if_pos h]
    exact h1 h h2
  · rw [if_neg h]
    exact h2
theorem or2 {b : Bool} {M B : Prop} (h1 : B) (h2 : ¬ b = true → B → M) : if b = true then B else M := by
  by_cases h : b = true
  · rw [if_pos h]
    exact h1
  · rw [if_neg h]
    exact h2 h h1
theorem relabel_free {env : Env} : ∀ {names : List (Str × NameKind)} {x : Str}, names.lookup x = some .cell ∨ names.lookup x = some .free →
    (names.map fun (n, k) => if (k == NameKind.free && env.scope.kind == .function && env.kindOf n == some .cell) then (n, NameKind.cell) else (n, k)).lookup x = some .cell ∨
    (names.map fun (n, k) => if (k == NameKind.free && env.scope.kind == .function && env.kindOf n == some .cell) then (n, NameKind.cell) else (n, k)).lookup x = some .free
  | [], _, h => by simp at h
  | (n, k) :: r, x, h => by
    have ih := @relabel_free env r x
    rw [List.map_cons]
    cases hx : x == n with
    | true =>
      have hk : k = .cell ∨ k = .free := by
        rw [List.lookup_cons, hx] at h
        rcases h with h | h
        · exact .inl (Option.some.inj h)
        · exact .inr (Option.some.inj h)
      by_cases hc : (k == NameKind.free && env.scope.kind == .function && env.kindOf n == some .cell) = true
      · left
        show List.lookup x ((if _ then (n, NameKind.cell) else (n, k)) :: _) = _
        rw [if_pos hc, List.lookup_cons, hx]
      · show List.lookup x ((if _ then (n, NameKind.cell) else (n, k)) :: _) = _ ∨ List.lookup x ((if _ then (n, NameKind.cell) else (n, k)) :: _) = _
        rw [if_neg hc, List.lookup_cons, hx]
        rcases hk with e | e
        · exact .inl (congrArg some e)
        · exact .inr (congrArg some e)
    | false =>
      have h' : r.lookup x = some .cell ∨ r.lookup x = some .free := by
        rw [List.lookup_cons, hx] at h
        exact h
      show List.lookup x ((if _ then (n, NameKind.cell) else (n, k)) :: _) = _ ∨ List.lookup x ((if _ then (n, NameKind.cell) else (n, k)) :: _) = _
      by_cases hc : (k == NameKind.free && env.scope.kind == .function && env.kindOf n == some .cell) = true
      · rw [if_pos hc, List.lookup_cons, hx]
        exact ih h'
      · rw [if_neg hc, List.lookup_cons, hx]
        exact ih h'
/-- a comprehension within a comprehension -/
theorem blkOk_in {N : List Str} {sc scope : Scope} {own : List (Str × Nat)} {cl : List (Str × Addr)} {C : Addr} {env : Env} (h : blkC N sc scope own = true) : BlkOk N (compEnvC sc cl C env).scope scope own := by
  obtain ⟨h1, h2, h3, h4, h5⟩ := blkOk_by h
  exact ⟨h1, h2, h3, fun y hy e => relabel_free (h4 y hy e), h5⟩
/-- what holds behind a statement, told once -/
theorem seq_rest {ta tb : TS} {D : Ends} {σ : L2.St} {H : Hp} (Pr : L2.St → Hp → Prop) (h : ∀ σ' H', Pr σ' H' → tb D σ' H') (k : (∀ σ' H', Pr σ' H' → tb D σ' H') → ta { D with nx := tb D } σ H) : tSeq ta tb D σ H := k h
theorem cps_rest {te : TE} {σ : L2.St} {H : Hp} {Q : VK} (Pr : V → Hp → Prop) (h : ∀ v H', Pr v H' → Q v H') (k : (∀ v H', Pr v H' → Q v H') → te σ H Q) : te σ H Q := k h
theorem gName_ap {i : Nat} {x : V} {σ : L2.St} {H : Hp} {Q : L2.St → Hp → Prop} (h : Q (σ.set i (some x)) H) : gName i x σ H Q := h
theorem ten60 : ((10 : Int) ^ (60 : Int).toNat) = 1000000000000000000000000000000000000000000000000000000000000 := by decide
theorem pow_small {i j : Int} (hj : 0 ≤ j ∧ j ≤ 1000000) (hi : 0 ≤ i ∧ i < 2 ^ 60) : CPow i j := ⟨hj.1, hj.2, by omega⟩
theorem mulW_of {i j : Int} (hi : 0 ≤ i ∧ i < 2 ^ 500) (hj : 0 ≤ j ∧ j < 2 ^ 500) : CMulW i j := wide_mul (a := 500) (b := 500) (by omega) (by omega) (by decide) (by decide) (by decide)
theorem divW_of {i j : Int} (hj : 0 < j ∧ j < 2 ^ 1000) : CDivW i j := wide_div (b := 1000) hj.1 (by omega) (by decide) (by decide)
theorem fmod_bd {i j : Int} (hj : 0 < j) : 0 ≤ i.fmod j ∧ i.fmod j < j := by
  rw [Int.fmod_eq_emod_of_nonneg _ (Int.le_of_lt hj)]
  exact ⟨Int.emod_nonneg _ (by omega), Int.emod_lt_of_pos _ hj⟩
theorem fmod60 (i : Int) : 0 ≤ i.fmod ((10 : Int) ^ (60 : Int).toNat + 7) ∧ i.fmod ((10 : Int) ^ (60 : Int).toNat + 7) + 1 < 2 ^ 200 := by
  have h := fmod_bd (i := i) (j := (10 : Int) ^ (60 : Int).toNat + 7) (by decide)
  have e : (10 : Int) ^ (60 : Int).toNat + 7 + 1 < 2 ^ 200 := by decide
  exact ⟨h.1, by omega⟩
end
end UfI

/-! # Data: shapes and equality of the small tuples that laws compare; all([..]) -/
namespace UfD
open PySem PySem.Spec PyProof.Rows L2 UfG UfI
open Evl (Ex)
/-- data of ints, bools, None, texts, of no more than 60 levels -/
theorem shaped_tup {ds : List PyData} (h : PyData.canLayAll0 ds = true) (k : PyData.depthAll ds ≤ 60) : SeqAt.shaped (.tuple ds) = true := by
  unfold SeqAt.shaped
  simp only [PyData.canLay0, PyData.depth, h, Bool.true_and]
  exact decide_eq_true (by omega)
theorem shaped_si (x : Str) (i : Int) (h : PyData.strOk x = true) : SeqAt.shaped (.tuple [.str x, .int i]) = true := by
  refine shaped_tup ?_ ?_
  · simp only [PyData.canLayAll0, PyData.canLay0, h, Bool.and_self]
  · simp only [PyData.depthAll, PyData.depth]
    decide
theorem eqv_si (x y : Str) (i j : Int) : PyData.eqv (.tuple [.str x, .int i]) (.tuple [.str y, .int j]) = (decide (x = y) && decide (i = j)) := by
  simp only [PyData.eqv, PyData.eqvAll, Bool.and_true]
  congr 1
theorem eqv_si_self (x : Str) (i : Int) : PyData.eqv (.tuple [.str x, .int i]) (.tuple [.str x, .int i]) = true := by
  rw [eqv_si]
  simp
theorem eqv_tupI (ns ms : List Int) : PyData.eqv (.tuple (ns.map PyData.int)) (.tuple (ms.map PyData.int)) = decide (ns = ms) := by
  simp only [PyData.eqv]
  exact eqv_ints ns ms
section
variable {K : PySem.W.Frag} {H0 G0 G H : Hp} {p : Option (Addr × Addr × Nat)} {ls : List (Addr × HO)} {Q : VK}
theorem all_true (n : Nat) : (List.replicate n true).all id = true := by
  rw [List.all_eq_true]
  intro b hb
  rw [(List.mem_replicate.mp hb).2]
  rfl
/-- [.. for x in xs], xs a known list, where each turn yields True -/
theorem lc_true {B : V → Hp → (Hp → Prop) → Prop} {Qd : Hp → Prop} {a D : Addr} {xs : List V} (lw : Lw H0 G0 p ls G H) (hD : H D = none) (ha : G a = some (.lst xs)) (hz : xs.length < 100000)
    (hs : ∀ (i : Nat) (x : V) (G' H' : Hp) (acc : List V), xs[i]? = some x → Ex G G' → Lw H0 G0 p ((D, .lst acc) :: ls) G' H' → acc.length = i → ∀ Nx : Hp → Prop, (∀ G2 H2, Ex G' G2 → Lw H0 G0 p ((D, .lst (acc ++ [.bl true])) :: ls) G2 H2 → Nx H2) → B x H' Nx)
    (hd : ∀ G' H', Ex G G' → Lw H0 G0 p ls G' H' → G' D = some (.lst ((List.replicate xs.length true).map V.bl)) → Qd H') :
    ∃ W : Nat → Nat → Hp → Prop, (∃ m, W 0 m (upd H D (.lst []))) ∧ ∀ i m H, W i m H → ((Itl K a).stop i H ∧ Qd H) ∨ ((Itl K a).go i H ∧ ∃ Nx : Hp → Prop, (∀ H', Nx H' → ∃ m', m' < m ∧ W (i + 1) m' H') ∧ ∀ x H', (Itl K a).yld i H x H' → B x H' Nx) := by
  refine it_list (K := K) (a := a) (xs := xs) (fun i H2 => ∃ G', Ex G G' ∧ Lw H0 G0 p ((D, .lst ((List.replicate i true).map V.bl)) :: ls) G' H2) ⟨G, Evl.Ex.refl G, lw.make hD⟩ (fun i H2 _ hp => ?_) (fun i x H2 hx hp => ?_) (fun H2 hp => ?_)
  · obtain ⟨G', e, lw⟩ := hp
    exact SqL.g lw (e _ _ ha)
  · obtain ⟨G', e, lw⟩ := hp
    refine hs i x G' H2 _ hx e lw (by rw [List.length_map, List.length_replicate]) _ fun G2 H3 e2 lw => ⟨G2, e.trans e2, ?_⟩
    rw [List.replicate_succ', List.map_append]
    exact lw
  · obtain ⟨G', e, lw⟩ := hp
    obtain ⟨lw, e2⟩ := lw.keep
    exact hd _ _ (e.trans e2) lw upd_same
/-- .., over a known tuple -/
theorem lc_trueT {B : V → Hp → (Hp → Prop) → Prop} {Qd : Hp → Prop} {a D : Addr} {xs : List V} (lw : Lw H0 G0 p ls G H) (hD : H D = none) (ha : G a = some (.tup xs)) (hz : xs.length < 100000)
    (hs : ∀ (i : Nat) (x : V) (G' H' : Hp) (acc : List V), xs[i]? = some x → Ex G G' → Lw H0 G0 p ((D, .lst acc) :: ls) G' H' → acc.length = i → ∀ Nx : Hp → Prop, (∀ G2 H2, Ex G' G2 → Lw H0 G0 p ((D, .lst (acc ++ [.bl true])) :: ls) G2 H2 → Nx H2) → B x H' Nx)
    (hd : ∀ G' H', Ex G G' → Lw H0 G0 p ls G' H' → G' D = some (.lst ((List.replicate xs.length true).map V.bl)) → Qd H') :
    ∃ W : Nat → Nat → Hp → Prop, (∃ m, W 0 m (upd H D (.lst []))) ∧ ∀ i m H, W i m H → ((Itt K a).stop i H ∧ Qd H) ∨ ((Itt K a).go i H ∧ ∃ Nx : Hp → Prop, (∀ H', Nx H' → ∃ m', m' < m ∧ W (i + 1) m' H') ∧ ∀ x H', (Itt K a).yld i H x H' → B x H' Nx) := by
  refine it_tup (K := K) (a := a) (xs := xs) (fun i H2 => ∃ G', Ex G G' ∧ Lw H0 G0 p ((D, .lst ((List.replicate i true).map V.bl)) :: ls) G' H2) ⟨G, Evl.Ex.refl G, lw.make hD⟩ (fun i H2 _ hp => ?_) (fun i x H2 hx hp => ?_) (fun H2 hp => ?_)
  · obtain ⟨G', e, lw⟩ := hp
    exact SqT.g lw (e _ _ ha)
  · obtain ⟨G', e, lw⟩ := hp
    refine hs i x G' H2 _ hx e lw (by rw [List.length_map, List.length_replicate]) _ fun G2 H3 e2 lw => ⟨G2, e.trans e2, ?_⟩
    rw [List.replicate_succ', List.map_append]
    exact lw
  · obtain ⟨G', e, lw⟩ := hp
    obtain ⟨lw, e2⟩ := lw.keep
    exact hd _ _ (e.trans e2) lw upd_same
/-- .., over a range -/
theorem lc_trueR {B : V → Hp → (Hp → Prop) → Prop} {Qd : Hp → Prop} {D : Addr} {lo : Int} {n : Nat} (lw : Lw H0 G0 p ls G H) (hD : H D = none) (hz : n < 100000)
    (hs : ∀ (i : Nat) (G' H' : Hp) (acc : List V), i < n → Ex G G' → Lw H0 G0 p ((D, .lst acc) :: ls) G' H' → acc.length = i → ∀ Nx : Hp → Prop, (∀ G2 H2, Ex G' G2 → Lw H0 G0 p ((D, .lst (acc ++ [.bl true])) :: ls) G2 H2 → Nx H2) → B (.int (lo + (i : Nat))) H' Nx)
    (hd : ∀ G' H', Ex G G' → Lw H0 G0 p ls G' H' → G' D = some (.lst ((List.replicate n true).map V.bl)) → Qd H') :
    ∃ W : Nat → Nat → Hp → Prop, (∃ m, W 0 m (upd H D (.lst []))) ∧ ∀ i m H, W i m H → ((Itr lo n).stop i H ∧ Qd H) ∨ ((Itr lo n).go i H ∧ ∃ Nx : Hp → Prop, (∀ H', Nx H' → ∃ m', m' < m ∧ W (i + 1) m' H') ∧ ∀ x H', (Itr lo n).yld i H x H' → B x H' Nx) := by
  refine it_rng (lo := lo) (n := n) (fun i H2 => ∃ G', Ex G G' ∧ Lw H0 G0 p ((D, .lst ((List.replicate i true).map V.bl)) :: ls) G' H2) ⟨G, Evl.Ex.refl G, lw.make hD⟩ (fun i H2 hi hp => ?_) (fun H2 hp => ?_)
  · obtain ⟨G', e, lw⟩ := hp
    refine hs i G' H2 _ hi e lw (by rw [List.length_map, List.length_replicate]) _ fun G2 H3 e2 lw => ⟨G2, e.trans e2, ?_⟩
    rw [List.replicate_succ', List.map_append]
    exact lw
  · obtain ⟨G', e, lw⟩ := hp
    obtain ⟨lw, e2⟩ := lw.keep
    exact hd _ _ (e.trans e2) lw upd_same
theorem r_eqs {x y : V} (hs : scal x y = true) (h : x = y) (k : Q (.bl true) H) : rEq x y H Q := ⟨hs, by rw [decide_eq_true h]; exact k⟩
theorem r_nes {x y : V} (hs : scal x y = true) (h : x = y) (k : Q (.bl false) H) : rNe x y H Q := ⟨hs, by rw [decide_eq_true h]; exact k⟩
theorem r_cmpT {P : Int → Int → Prop} [∀ i j, Decidable (P i j)] {i j : Int} (h : P i j) (k : Q (.bl true) H) : rI0 (fun i j => .bl (decide (P i j))) (.int i) (.int j) H Q := ⟨i, j, rfl, rfl, by
  show Q (.bl (decide (P i j))) H
  rw [decide_eq_true h]
  exact k⟩
theorem r_cmpF {P : Int → Int → Prop} [∀ i j, Decidable (P i j)] {i j : Int} (h : ¬ P i j) (k : Q (.bl false) H) : rI0 (fun i j => .bl (decide (P i j))) (.int i) (.int j) H Q := ⟨i, j, rfl, rfl, by
  show Q (.bl (decide (P i j))) H
  rw [decide_eq_false h]
  exact k⟩
/-- all(xs), all of them True -/
theorem r_all {D : Addr} {n : Nat} (lw : Lw H0 G0 p ls G H) (hD : G D = some (.lst ((List.replicate n true).map V.bl))) (k : Q (.bl true) H) : rAll K [.ref D] H Q :=
  ⟨D, _, rfl, SqL.g lw hD, by rw [all_true]; exact k⟩
end
end UfD

/-! # law_k93: the text, what it computes -/
namespace K93
open PySem PySem.Spec PyProof.Rows L2 UfG UfT
open Evl (Ex)
def top (i : Nat) : Stmt := PySem.Challenge.pw_unmovedforms_k93_monomials_in_order.main.body.getD i (.Pass ⟨0, 0, 0, 0⟩)
abbrev i_count : Stmt := inClass (top 3) 0
abbrev i_sizes : Stmt := inClass (top 4) 0
abbrev i_expo : Stmt := inClass (top 5) 0
abbrev i_large : Stmt := inClass (top 6) 0
abbrev s_monomials : Stmt := top 11
abbrev s_monomial_count : Stmt := top 12
abbrev s_monomial_place : Stmt := top 13
abbrev s_check_letters : Stmt := top 14
abbrev s_check_exponents : Stmt := top 15
abbrev s_pool : Stmt := top 17
abbrev s_draw : Stmt := top 18
abbrev s_int_ : Stmt := top 19
abbrev s_held : Stmt := top 20
abbrev s_error : Stmt := top 21
abbrev s_ask : Stmt := top 22
abbrev s_ways : Stmt := top 23
abbrev s_before : Stmt := top 24
abbrev s_exps : Stmt := top 25
abbrev s_listed : Stmt := top 26
abbrev s_placed : Stmt := top 27
abbrev s_bent : Stmt := top 28
abbrev s_law : Stmt := top 29
/-- what the top has written -/
structure Tx (K : PySem.W.Frag) (mg : Str → Option Value) where
  cCount : ExAt K mg "BadCount" "BadCount.__init__" i_count ["self", "count"]
  cSizes : ExAt K mg "BadSizes" "BadSizes.__init__" i_sizes ["self", "given", "wanted"]
  cExpo : ExAt K mg "BadExponent" "BadExponent.__init__" i_expo ["self", "exponent"]
  cLarge : ExAt K mg "TooLarge" "TooLarge.__init__" i_large ["self", "size"]
  noCount : PySem.W.findIn K (.ref cCount.C) "count" = some none
  noExpo : PySem.W.findIn K (.ref cExpo.C) "exponent" = some none
  noLarge : PySem.W.findIn K (.ref cLarge.C) "size" = some none
  cForms : ClAt mg "FormsError"
  exm : ∀ D ∈ [cCount.C, cExpo.C, cLarge.C], PySem.W.exmOne K (.ref D) (.ref cForms.C) = some true
  fld : ∀ D ∈ [cCount.C, cExpo.C, cLarge.C], ∀ f ∈ (["count", "exponent", "size"] : List Str), PySem.W.findIn K (.ref D) f = some none
  kCount : Kits K cCount.C [(.ref cCount.C, true), (.ref cExpo.C, false), (.ref cSizes.C, false), (.ref cLarge.C, false), (.type "ValueError", true)]
  kExpo : Kits K cExpo.C [(.ref cCount.C, false), (.ref cExpo.C, true), (.ref cSizes.C, false), (.ref cLarge.C, false), (.type "ValueError", true)]
  kLarge : Kits K cLarge.C [(.ref cCount.C, false), (.ref cExpo.C, false), (.ref cSizes.C, false), (.ref cLarge.C, true), (.type "ValueError", true)]
  monomials : FnAt K mg "monomials" s_monomials ["letters", "degree"]
  monomial_count : FnAt K mg "monomial_count" s_monomial_count ["letters", "degree"]
  monomial_place : FnAt K mg "monomial_place" s_monomial_place ["exponents"]
  check_letters : FnAt K mg "check_letters" s_check_letters ["letters"]
  check_exponents : FnAt K mg "check_exponents" s_check_exponents ["letters", "exponents"]
  pool : FnAt K mg "_law_pool" s_pool ["script"]
  draw : FnAt K mg "_law_draw" s_draw ["pool", "many"]
  int_ : FnAt K mg "_law_int" s_int_ ["told"]
  held : FnAt K mg "_law_held" s_held ["name", "number"]
  error : FnAt K mg "_law_error" s_error ["e"]
  ask : FnAt K mg "_law_ask" s_ask ["mode", "a", "b"]
  ways : FnAt K mg "_law_ways" s_ways []
  before : FnAt K mg "_law_before" s_before ["ways", "exps"]
  exps : FnAt K mg "_law_exps" s_exps ["pool", "letters", "degree"]
  listed : FnAt K mg "_law_listed" s_listed ["ways", "letters", "degree"]
  placed : FnAt K mg "_law_placed" s_placed ["ways", "exps"]
  bent : FnAt K mg "_law_bent" s_bent ["pool", "exps"]
  c_comb : mg "comb" = some (.builtin "math.comb")
  c_MOST_LETTERS : {t : Tok // mg "MOST_LETTERS" = some (.int 12 t)}
  c_MOST_DEGREE : {t : Tok // mg "MOST_DEGREE" = some (.int 32 t)}
  c_MOST_MONOMIALS : {t : Tok // mg "MOST_MONOMIALS" = some (.int 1000 t)}
  z_len : mg "len" = none
  z_range : mg "range" = none
  z_int : mg "int" = none
  z_bool : mg "bool" = none
  z_list : mg "list" = none
  z_tuple : mg "tuple" = none
  z_sum : mg "sum" = none
  z_all : mg "all" = none
  z_min : mg "min" = none
  z_enumerate : mg "enumerate" = none
  z_isinstance : mg "isinstance" = none
  z_ValueError : mg "ValueError" = none

/-! ### what the program computes -/
inductive Er where
  | count (n : Int) | expo (n : Int) | large (n : Int)
def checkE (l : Int) : Option Er := if 1 ≤ l ∧ l ≤ 12 then none else some (.count l)
def countE (l d : Int) : Option Er := match checkE l with
  | some e => some e
  | none => if 0 ≤ d ∧ d ≤ 32 then none else some (.count d)
def countV (l d : Int) : Int := PySem.W.mcComb (l + d - 1) d
section
variable {K : PySem.W.Frag} {mg : Str → Option Value}
/-- the error e, of the class at C with the own dict d -/
def ErAt (T : Tx K mg) (e : Er) (G : Hp) (C d : Addr) : Prop := match e with
  | .count n => C = T.cCount.C ∧ G d = some (.xd [("count", .int n)])
  | .expo n => C = T.cExpo.C ∧ G d = some (.xd [("exponent", .int n)])
  | .large n => C = T.cLarge.C ∧ G d = some (.xd [("size", .int n)])
/-- a value, or an error -/
def spX {α : Type} (T : Tx K mg) (arg : List V → Hp → α → Prop) (err : α → Option Er) (val : α → Hp → Hp → V → Prop) : Sp := fun vs H Q E => ∃ a, RaiseSp (fun vs G => arg vs G a) (fun _ G G' v => err a = none ∧ val a G G' v) (fun _ G C d => ∃ e, err a = some e ∧ ErAt T e G C d) vs H Q E
end

/-! ### __init__ -/
section
variable {P : Program} {w : World} {K : PySem.W.Frag} {mg : Str → Option Value} {base : Heap}
theorem sci_count : FnScope ["self", "count"] ["self", "count"] (defScope i_count) := ⟨rfl, rfl, rfl, by decide +kernel, rfl, by decide +kernel, by decide +kernel⟩
theorem sci_expo : FnScope ["self", "exponent"] ["self", "exponent"] (defScope i_expo) := ⟨rfl, rfl, rfl, by decide +kernel, rfl, by decide +kernel, by decide +kernel⟩
theorem sci_large : FnScope ["self", "size"] ["self", "size"] (defScope i_large) := ⟨rfl, rfl, rfl, by decide +kernel, rfl, by decide +kernel, by decide +kernel⟩
theorem oki_count (T : Tx K mg) : FnOk P w K mg base CX0 1 T.cCount.fI T.cCount.fd ["self", "count"] (spI1 K "count") := by
  refine T.cCount.F.ok sci_count (fun vs H Q E h => ?_) (fun cdv A outer s H vs Q E hr h => ?_)
  · obtain ⟨a, C, y, rfl, _⟩ := h
    rfl
  · obtain ⟨a, C, y, rfl, TC, hn, ha, k⟩ := h
    refine ⟨_, pss_one (ps_ost (pv 0) (pv 1)), ?_⟩
    exact ⟨_, rfl, _, rfl, a, C, rfl, TC, hn, .inl ⟨ha, k⟩⟩
theorem oki_expo (T : Tx K mg) : FnOk P w K mg base CX0 1 T.cExpo.fI T.cExpo.fd ["self", "exponent"] (spI1 K "exponent") := by
  refine T.cExpo.F.ok sci_expo (fun vs H Q E h => ?_) (fun cdv A outer s H vs Q E hr h => ?_)
  · obtain ⟨a, C, y, rfl, _⟩ := h
    rfl
  · obtain ⟨a, C, y, rfl, TC, hn, ha, k⟩ := h
    refine ⟨_, pss_one (ps_ost (pv 0) (pv 1)), ?_⟩
    exact ⟨_, rfl, _, rfl, a, C, rfl, TC, hn, .inl ⟨ha, k⟩⟩
theorem oki_large (T : Tx K mg) : FnOk P w K mg base CX0 1 T.cLarge.fI T.cLarge.fd ["self", "size"] (spI1 K "size") := by
  refine T.cLarge.F.ok sci_large (fun vs H Q E h => ?_) (fun cdv A outer s H vs Q E hr h => ?_)
  · obtain ⟨a, C, y, rfl, _⟩ := h
    rfl
  · obtain ⟨a, C, y, rfl, TC, hn, ha, k⟩ := h
    refine ⟨_, pss_one (ps_ost (pv 0) (pv 1)), ?_⟩
    exact ⟨_, rfl, _, rfl, a, C, rfl, TC, hn, .inl ⟨ha, k⟩⟩

/-- an error that is never made -/
theorem oki_sizes (T : Tx K mg) : FnOk P w K mg base CX0 1 T.cSizes.fI T.cSizes.fd ["self", "given", "wanted"] (fun _ _ _ _ => False) := ⟨fun _ _ _ _ h => h.elim, fun _ _ _ _ _ _ _ _ _ _ _ _ _ h => h.elim⟩

/-! ### check_letters -/
theorem sc_check_letters : FnScope ["letters"] ["letters"] (defScope s_check_letters) := ⟨rfl, rfl, rfl, by decide +kernel, rfl, by decide +kernel, by decide +kernel⟩
def sp_check_letters (T : Tx K mg) : Sp := spX T (fun vs _ (l : Int) => vs = [.int l]) checkE (fun _ _ _ v => v = .non)
theorem ok_check_letters (T : Tx K mg) : FnOk P w K mg base (L2N.CX P w) 3 T.check_letters.f T.check_letters.fd ["letters"] (sp_check_letters T) := by
  refine fun_okX T.check_letters.F sc_check_letters (fun vs H Q E h => ?_) (fun cdv A outer s H vs Q E hr h => ?_)
  · obtain ⟨l, G, _, rfl, _⟩ := h
    rfl
  · obtain ⟨l, G, lw, rfl, k, kx⟩ := h
    refine ⟨_, (pss_one (ps_if (pt_not (pt_chain op_le op_le pe_int (pv 0) (pe_glob (v := .int 12) rfl T.c_MOST_LETTERS.2 ⟨_, rfl⟩))) (pss_one (L2N.ps_raise rfl (L2N.takes_of rfl rfl rfl rfl) (UfH.pmk_oexN T.cCount.T T.cCount.iC T.cCount.tI (oki_count T) (hr.mono (by decide)) T.cCount.b rfl T.cCount.g (pa_cons (pv 0) pa_nil)))) pss_nil)), ?_⟩
    have bad : ¬ (1 ≤ l ∧ l ≤ 12) → tMkO T.cCount.C (spI1 K "count") [] (tCons (tVar 0) tNil) (start ["letters"] [V.int l]) H fun cls d H' => E cls d H' := fun hb =>
      ⟨_, rfl, mk1_of T.cCount.T T.noCount fun d hd => kx _ _ _ d (lw.alloc hd) ⟨.count l, if_neg hb, rfl, upd_same⟩⟩
    refine ⟨_, rfl, _, _, rfl, rfl, _, rfl, ite2 (fun h1 => ?_) (fun h1 => ?_)⟩
    · refine ⟨_, _, rfl, rfl, _, rfl, ite2 (fun h2 => bad ?_) (fun h2 => k _ _ _ lw ⟨if_pos ?_, rfl⟩)⟩
      · simp at h1 h2
        omega
      · simp at h1 h2
        omega
    · refine ⟨_, rfl, iteT (bad ?_)⟩
      simp at h1
      omega

/-! ### monomial_count -/
theorem sc_monomial_count : FnScope ["letters", "degree"] ["letters", "degree"] (defScope s_monomial_count) := ⟨rfl, rfl, rfl, by decide +kernel, rfl, by decide +kernel, by decide +kernel⟩
def sp_monomial_count (T : Tx K mg) : Sp := spX T (fun vs _ (a : Int × Int) => vs = [.int a.1, .int a.2]) (fun a => countE a.1 a.2) (fun a _ _ v => v = .int (countV a.1 a.2))
theorem ok_monomial_count (T : Tx K mg) : FnOk P w K mg base (L2N.CX P w) 4 T.monomial_count.f T.monomial_count.fd ["letters", "degree"] (sp_monomial_count T) := by
  refine fun_okX T.monomial_count.F sc_monomial_count (fun vs H Q E h => ?_) (fun cdv A outer s H vs Q E hr h => ?_)
  · obtain ⟨l, G, _, rfl, _⟩ := h
    rfl
  · obtain ⟨⟨l, d⟩, G, lw, rfl, k, kx⟩ := h
    refine ⟨_, (pss_cons (ps_expr (pe_callS (ok_check_letters T) (hr.mono (by decide)) rfl T.check_letters.g T.check_letters.F.kp T.check_letters.b (fun σ => L2N.passAt (L2N.takes_of rfl rfl rfl rfl) σ) (pa_cons (pv 0) pa_nil)))
      (pss_cons (ps_if (pt_not (pt_chain op_le op_le pe_int (pv 1) (pe_glob (v := .int 32) rfl T.c_MOST_DEGREE.2 ⟨_, rfl⟩))) (pss_one (L2N.ps_raise rfl (L2N.takes_of rfl rfl rfl rfl) (UfH.pmk_oexN T.cCount.T T.cCount.iC T.cCount.tI (oki_count T) (hr.mono (by decide)) T.cCount.b rfl T.cCount.g (pa_cons (pv 1) pa_nil)))) pss_nil)
      (pss_one (ps_ret (pe_callBfun UfM.cr_comb rfl T.c_comb (pa_cons (pe_op op_sub (pe_op op_add (pv 0) (pv 1)) pe_int) (pa_cons (pv 1) pa_nil))))))), ?_⟩
    refine ⟨_, rfl, l, call_raise lw rfl (fun G1 H1 v e1 lw1 hv => ?_) (fun G1 H1 C d e1 lw1 hx => ?_)⟩
    · obtain ⟨hc, rfl⟩ := hv
      have bad : ¬ (0 ≤ d ∧ d ≤ 32) → tMkO T.cCount.C (spI1 K "count") [] (tCons (tVar 1) tNil) (start ["letters", "degree"] [V.int l, V.int d]) H1 fun cls d H' => E cls d H' := fun hb =>
        ⟨_, rfl, mk1_of T.cCount.T T.noCount fun q hq => kx _ _ _ q (lw1.alloc hq) ⟨.count d, (by show countE l d = _; unfold countE; rw [hc]; exact if_neg hb), rfl, upd_same⟩⟩
      have good : 0 ≤ d ∧ d ≤ 32 → tRet (tCB UfM.rComb (tCons (tOp (rI0 fun i j => .int (i - j)) (tOp (rI0 fun i j => .int (i + j)) (tVar 0) (tVar 1)) (tC (.int 1))) (tCons (tVar 1) tNil))) { nx := fun _ H' => Q .non H', rt := Q } (start ["letters", "degree"] [V.int l, V.int d]) H1 := fun hg => by
        have hl : 1 ≤ l ∧ l ≤ 12 := by
          unfold checkE at hc
          by_cases h : 1 ≤ l ∧ l ≤ 12
          · exact h
          · rw [if_neg h] at hc
            cases hc
        refine ⟨_, rfl, _, rfl, _, _, rfl, rfl, _, _, rfl, rfl, _, rfl, _, _, rfl, by omega, hg.1, by omega, k _ _ _ lw1 ⟨?_, rfl⟩⟩
        show countE l d = _
        unfold countE
        rw [hc]
        exact if_pos hg
      refine ⟨_, rfl, _, _, rfl, rfl, _, rfl, ite2 (fun h1 => ?_) (fun h1 => ?_)⟩
      · refine ⟨_, _, rfl, rfl, _, rfl, ite2 (fun h2 => bad ?_) (fun h2 => good ?_)⟩
        · simp at h1 h2
          omega
        · simp at h1 h2
          omega
      · refine ⟨_, rfl, iteT (bad ?_)⟩
        simp at h1
        omega
    · obtain ⟨e, he, hE⟩ := hx
      refine kx _ _ _ _ lw1 ⟨e, ?_, hE⟩
      show countE l _ = _
      unfold countE
      rw [he]

/-! ### check_exponents -/
def negE (ns : List Int) : Option Er := (ns.find? (· < 0)).map Er.expo
theorem negE_none {ns : List Int} : negE ns = none ↔ ∀ n ∈ ns, 0 ≤ n := by
  unfold negE
  rw [Option.map_eq_none_iff, List.find?_eq_none]
  constructor
  · intro h n hn
    have := h n hn
    simp at this
    exact this
  · intro h n hn
    have := h n hn
    simp
    omega
theorem negE_at {ns : List Int} {i : Nat} {n : Int} (hi : ns[i]? = some n) (h : ∀ m ∈ ns.take i, 0 ≤ m) (hn : n < 0) : negE ns = some (.expo n) := by
  have hlt := (List.getElem?_eq_some_iff.mp hi).1
  have e : ns = ns.take i ++ n :: ns.drop (i + 1) := by
    have z := (List.getElem?_eq_some_iff.mp hi).2
    rw [← z, List.getElem_cons_drop, List.take_append_drop]
  unfold negE
  rw [e, List.find?_append]
  have n1 : (ns.take i).find? (· < 0) = none := by
    rw [List.find?_eq_none]
    intro m hm
    have := h m hm
    simp
    omega
  rw [n1, List.find?_cons_of_pos (by simpa using hn)]
  rfl
theorem at_int {ns : List Int} {i : Nat} {x : V} (h : (ns.map V.int)[i]? = some x) : ∃ n, ns[i]? = some n ∧ x = .int n := by
  rw [List.getElem?_map] at h
  cases e : ns[i]? with
  | none =>
    rw [e] at h
    cases h
  | some n =>
    rw [e] at h
    exact ⟨n, rfl, (Option.some.inj h).symm⟩
theorem take_mem {ns : List Int} {i : Nat} {n : Int} (h : ns[i]? = some n) {m : Int} (hm : m ∈ ns.take (i + 1)) : m ∈ ns.take i ∨ m = n := by
  rw [List.take_add_one, h] at hm
  rcases List.mem_append.mp hm with z | z
  · exact .inl z
  · exact .inr (by simpa using z)
theorem sc_check_exponents : FnScope ["letters", "exponents", "exponent"] ["letters", "exponents"] (defScope s_check_exponents) := ⟨rfl, rfl, rfl, by decide +kernel, rfl, by decide +kernel, by decide +kernel⟩
def sp_check_exponents (T : Tx K mg) : Sp := spX T (fun vs G (ns : List Int) => ∃ t, vs = [.int ns.length, .ref t] ∧ G t = some (.tup (ns.map V.int))) negE (fun _ _ _ v => v = .non)
theorem ok_check_exponents (T : Tx K mg) : FnOk P w K mg base (L2N.CX P w) 4 T.check_exponents.f T.check_exponents.fd ["letters", "exponents"] (sp_check_exponents T) := by
  refine fun_okX T.check_exponents.F sc_check_exponents (fun vs H Q E h => ?_) (fun cdv A outer s H vs Q E hr h => ?_)
  · obtain ⟨l, G, _, ⟨t, rfl, _⟩, _⟩ := h
    rfl
  · obtain ⟨ns, G, lw, ⟨t, rfl, ht⟩, k, kx⟩ := h
    refine ⟨_, (pss_cons (ps_if (pt_cmpR op_ne (pe_callB (UfK.call_lenK (K := K)) (by rfl) T.z_len (by decide +kernel) (pa_cons (pv 1) pa_nil)) (pv 0) (nomark _)) (pss_one (L2N.ps_raise rfl (L2N.takes_of rfl rfl rfl rfl) (UfH.pmk_oexN T.cSizes.T T.cSizes.iC T.cSizes.tI (oki_sizes T) (hr.mono (by decide)) T.cSizes.b rfl T.cSizes.g (pa_cons (pe_callB (UfK.call_lenK (K := K)) (by rfl) T.z_len (by decide +kernel) (pa_cons (pv 1) pa_nil)) (pa_cons (pv 0) pa_nil))))) pss_nil)
      (pss_one (ps_for (passes_of rfl) rfl (UfK.pi_tupK (K := K) (pv 1)) (pg_name (i := 2) sc_check_exponents.nd rfl (.inl rfl)) (pss_one (ps_if (pt_cmpR op_lt (pv 2) pe_int (nomark _)) (pss_one (L2N.ps_raise rfl (L2N.takes_of rfl rfl rfl rfl) (UfH.pmk_oexN T.cExpo.T T.cExpo.iC T.cExpo.tI (oki_expo T) (hr.mono (by decide)) T.cExpo.b rfl T.cExpo.g (pa_cons (pv 2) pa_nil)))) pss_nil))))), ?_⟩
    refine ⟨_, rfl, _, _, rfl, .inr (SqT.g lw ht), _, rfl, rfl, _, rfl, ite2 (fun h1 => ?_) (fun _ => ?_)⟩
    · rw [List.length_map] at h1
      simp at h1
    · refine ⟨_, rfl, t, rfl, ⟨_, SqT.g lw ht⟩, for_tup (K := K) (a := t) (xs := ns.map V.int)
        (fun i σ H' => ∃ z, σ = [some (.int ns.length), some (.ref t), z] ∧ H' = H ∧ ∀ m ∈ ns.take i, 0 ≤ m) ⟨none, rfl, rfl, by simp⟩ (fun i σ H' _ hp => ?_) (fun i x σ H' hx hp => ?_) (fun σ H' hp => ?_)⟩
      · obtain ⟨z, _, rfl, _⟩ := hp
        exact SqT.g lw ht
      · obtain ⟨z, rfl, rfl, hm⟩ := hp
        obtain ⟨n, hn, rfl⟩ := at_int hx
        refine ⟨_, rfl, _, _, rfl, rfl, _, rfl, ite2 (fun h1 => ?_) (fun h1 => ?_)⟩
        · refine ⟨_, rfl, mk1_of T.cExpo.T T.noExpo fun q hq => kx _ _ _ q (lw.alloc hq) ⟨.expo n, ?_, rfl, upd_same⟩⟩
          exact negE_at hn hm (by simpa using h1)
        · refine ⟨_, rfl, rfl, fun m hm' => ?_⟩
          rcases take_mem hn hm' with z | rfl
          · exact hm m z
          · simpa using h1
      · obtain ⟨z, rfl, rfl, hm⟩ := hp
        refine k _ _ _ lw ⟨negE_none.mpr fun n hn => hm n ?_, rfl⟩
        rw [List.length_map, List.take_length]
        exact hn

/-! ### monomial_place -/
def placeR : List Int → Int → Int
  | [], _ => 0
  | e :: es, r => (if e < r then PySem.W.mcComb (es.length + r - e - 1) es.length else 0) + placeR es (r - e)
def placeE (ns : List Int) : Option Er := match checkE ns.length with
  | some e => some e
  | none => match negE ns with
    | some e => some e
    | none => if ns.sum ≤ 32 then none else some (.large ns.sum)
theorem sc_monomial_place : FnScope ["exponents", "letters", "rest", "place", "index", "exponent", "behind"] ["exponents"] (defScope s_monomial_place) := ⟨rfl, rfl, rfl, by decide +kernel, rfl, by decide +kernel, by decide +kernel⟩
def sp_monomial_place (T : Tx K mg) : Sp := spX T (fun vs G (ns : List Int) => ∃ t, vs = [.ref t] ∧ G t = some (.tup (ns.map V.int))) placeE (fun ns _ _ v => v = .int (placeR ns ns.sum))
theorem sum_nonneg : ∀ {ns : List Int}, (∀ n ∈ ns, 0 ≤ n) → 0 ≤ ns.sum
  | [], _ => Int.le_refl _
  | n :: r, h => by
    have h1 := h n List.mem_cons_self
    have h2 := sum_nonneg fun m hm => h m (List.mem_cons_of_mem _ hm)
    rw [List.sum_cons]
    omega
theorem sum_drop {ns : List Int} {i : Nat} {n : Int} (h : ns[i]? = some n) : (ns.drop i).sum = n + (ns.drop (i + 1)).sum := by
  have z := List.getElem?_eq_some_iff.mp h
  rw [List.drop_eq_getElem_cons z.1, z.2, List.sum_cons]
theorem sum_drop_le {ns : List Int} (h : ∀ n ∈ ns, 0 ≤ n) (i : Nat) : (ns.drop i).sum ≤ ns.sum := by
  have e : ns.sum = (ns.take i).sum + (ns.drop i).sum := by rw [← List.sum_append, List.take_append_drop]
  have z := sum_nonneg (ns := ns.take i) fun n hn => h n (List.mem_of_mem_take hn)
  omega
theorem checkE_none {l : Int} (h : checkE l = none) : 1 ≤ l ∧ l ≤ 12 := by
  unfold checkE at h
  by_cases z : 1 ≤ l ∧ l ≤ 12
  · exact z
  · rw [if_neg z] at h
    cases h
theorem ok_monomial_place (T : Tx K mg) : FnOk P w K mg base (L2N.CX P w) 5 T.monomial_place.f T.monomial_place.fd ["exponents"] (sp_monomial_place T) := by
  refine fun_okX T.monomial_place.F sc_monomial_place (fun vs H Q E h => ?_) (fun cdv A outer s H vs Q E hr h => ?_)
  · obtain ⟨l, G, _, ⟨t, rfl, _⟩, _⟩ := h
    rfl
  · obtain ⟨ns, G, lw, ⟨t, rfl, ht⟩, k, kx⟩ := h
    refine ⟨_, (pss_cons (ps_set (i := 1) sc_monomial_place.nd rfl (.inl rfl) (pe_callB (UfK.call_lenK (K := K)) (by rfl) T.z_len (by decide +kernel) (pa_cons (pv 0) pa_nil)))
      (pss_cons (ps_expr (pe_callS (ok_check_letters T) (hr.mono (by decide)) rfl T.check_letters.g T.check_letters.F.kp T.check_letters.b (fun σ => L2N.passAt (L2N.takes_of rfl rfl rfl rfl) σ) (pa_cons (pv 1) pa_nil)))
      (pss_cons (ps_expr (pe_callS (ok_check_exponents T) (hr.mono (by decide)) rfl T.check_exponents.g T.check_exponents.F.kp T.check_exponents.b (fun σ => L2N.passAt (L2N.takes_of rfl rfl rfl rfl) σ) (pa_cons (pv 1) (pa_cons (pv 0) pa_nil))))
      (pss_cons (ps_set (i := 2) sc_monomial_place.nd rfl (.inl rfl) (pe_callB (UfK.cr_sumTK (K := K) rfl) (by rfl) T.z_sum (by decide +kernel) (pa_cons (pv 0) pa_nil)))
      (pss_cons (ps_if (pt_cmpR op_gt (pv 2) (pe_glob (v := .int 32) rfl T.c_MOST_DEGREE.2 ⟨_, rfl⟩) (nomark _)) (pss_one (L2N.ps_raise rfl (L2N.takes_of rfl rfl rfl rfl) (UfH.pmk_oexN T.cLarge.T T.cLarge.iC T.cLarge.tI (oki_large T) (hr.mono (by decide)) T.cLarge.b rfl T.cLarge.g (pa_cons (pv 2) pa_nil)))) pss_nil)
      (pss_cons (ps_set (i := 3) sc_monomial_place.nd rfl (.inl rfl) pe_int)
      (pss_cons (ps_for (passes_of rfl) rfl (UfM.pi_enumT rfl T.z_enumerate (pa_cons (pv 0) pa_nil)) (UfK.pg_tupK (K := K) (n := 2) rfl (pgs_cons (pg_name (i := 4) sc_monomial_place.nd rfl (.inl rfl)) (pgs_cons (pg_name (i := 5) sc_monomial_place.nd rfl (.inl rfl)) pgs_nil))) (pss_cons (ps_set (i := 6) sc_monomial_place.nd rfl (.inl rfl) (pe_op op_sub (pe_op op_sub (pv 1) (pv 4)) pe_int))
      (pss_cons (ps_if (pt_cmpR op_lt (pv 5) (pv 2) (nomark _)) (pss_one (ps_set (i := 3) sc_monomial_place.nd rfl (.inl rfl) (pe_op op_add (pv 3) (pe_callBfun UfM.cr_comb rfl T.c_comb (pa_cons (pe_op op_sub (pe_op op_sub (pe_op op_add (pv 6) (pv 2)) (pv 5)) pe_int) (pa_cons (pv 6) pa_nil)))))) pss_nil)
      (pss_one (ps_set (i := 2) sc_monomial_place.nd rfl (.inl rfl) (pe_op op_sub (pv 2) (pv 5)))))))
      (pss_one (ps_ret (pv 3)))))))))), ?_⟩
    -- letters = len(exponents); check_letters(letters)
    refine ⟨_, rfl, _, _, rfl, .inr (SqT.g lw ht), ?_⟩
    have en : (((ns.map V.int).length : Nat) : Int) = (ns.length : Int) := by rw [List.length_map]
    rw [en]
    refine ⟨_, rfl, (ns.length : Int), call_raise lw rfl (fun G1 H1 v e1 lw hv => ?_) (fun G1 H1 C d e1 lw hx => ?_)⟩
    rotate_left
    · obtain ⟨e, he, hE⟩ := hx
      refine kx _ _ _ _ lw ⟨e, ?_, hE⟩
      show placeE ns = _
      unfold placeE
      rw [he]
    obtain ⟨hc, rfl⟩ := hv
    have ht := e1 _ _ ht
    -- check_exponents(letters, exponents)
    refine ⟨_, rfl, _, rfl, ns, call_raise lw ⟨t, rfl, ht⟩ (fun G2 H2 v e2 lw hv => ?_) (fun G2 H2 C d e2 lw hx => ?_)⟩
    rotate_left
    · obtain ⟨e, he, hE⟩ := hx
      refine kx _ _ _ _ lw ⟨e, ?_, hE⟩
      show placeE ns = _
      unfold placeE
      rw [hc, he]
    obtain ⟨hneg, rfl⟩ := hv
    have ht := e2 _ _ ht
    have pos := negE_none.mp hneg
    -- rest = sum(exponents)
    refine ⟨_, rfl, t, ns, rfl, SqT.g lw ht, ?_⟩
    refine ⟨_, rfl, _, _, rfl, rfl, _, rfl, ite2 (fun h1 => ?_) (fun h1 => ?_)⟩
    · refine ⟨_, rfl, mk1_of T.cLarge.T T.noLarge fun q hq => kx _ _ _ q (lw.alloc hq) ⟨.large ns.sum, ?_, rfl, upd_same⟩⟩
      show placeE ns = _
      unfold placeE
      rw [hc, hneg]
      exact if_neg (by simp at h1; omega)
    have small : ns.sum ≤ 32 := by
      simp at h1
      omega
    have len := checkE_none hc
    -- the loop
    refine ⟨_, rfl, t, _, rfl, SqT.g lw ht, UfM.for_enumT (K := K) (a := t) (xs := ns.map V.int)
      (fun i σ H' => ∃ (pl : Int) (G' : Hp) (z1 z2 z3 : Option V), σ = [some (.ref t), some (.int ns.length), some (.int (ns.drop i).sum), some (.int pl), z1, z2, z3] ∧ Lw H G none [] G' H' ∧ G' t = some (.tup (ns.map V.int)) ∧
        pl + placeR (ns.drop i) (ns.drop i).sum = placeR ns ns.sum) ⟨0, _, none, none, none, rfl, lw, ht, ?_⟩ (fun i σ H' _ hp => ?_) (fun i x T' σ H' hx hp hT => ?_) (fun σ H' hp => ?_)⟩
    · rw [List.drop_zero, Int.zero_add]
    · obtain ⟨_, _, _, _, _, _, lw, ht, _⟩ := hp
      exact SqT.g lw ht
    · obtain ⟨pl, G', z1, z2, z3, rfl, lw, ht, inv⟩ := hp
      obtain ⟨n, hn, rfl⟩ := at_int hx
      have lt := (List.getElem?_eq_some_iff.mp hn).1
      have lw1 := lw.alloc (o := .tup [.int (i : Nat), .int n]) hT
      have e1 := ex_new (G := G') (q := T') (o := .tup [.int (i : Nat), .int n]) (lw.free hT)
      have ed := sum_drop hn
      have eD : ns.drop i = n :: ns.drop (i + 1) := by
        have z := List.getElem?_eq_some_iff.mp hn
        rw [List.drop_eq_getElem_cons z.1, z.2]
      have le1 := sum_drop_le pos i
      have nn : 0 ≤ n := pos n (List.mem_of_getElem? hn)
      have nn2 : 0 ≤ (ns.drop (i + 1)).sum := sum_nonneg fun m hm => pos m (List.mem_of_mem_drop hm)
      have step : placeR (ns.drop i) (ns.drop i).sum = (if n < (ns.drop i).sum then PySem.W.mcComb (((ns.drop (i + 1)).length : Int) + (ns.drop i).sum - n - 1) ((ns.drop (i + 1)).length : Int) else 0) + placeR (ns.drop (i + 1)) (ns.drop (i + 1)).sum := by
        conv => lhs; rw [eD]
        show (if n < (n :: ns.drop (i + 1)).sum then _ else 0) + placeR (ns.drop (i + 1)) ((n :: ns.drop (i + 1)).sum - n) = _
        rw [← eD]
        congr 2
        omega
      have lenD : ((ns.drop (i + 1)).length : Int) = (ns.length : Int) - (i : Int) - 1 := by
        rw [List.length_drop]
        omega
      -- index, exponent = the pair; behind = letters - index - 1
      refine ⟨T', _, rfl, L2.SqT.of upd_same, rfl, _, _, rfl, _, _, rfl, rfl, ?_⟩
      refine ⟨_, rfl, _, rfl, _, _, rfl, rfl, _, _, rfl, rfl, ?_⟩
      refine ⟨_, rfl, _, rfl, _, _, rfl, rfl, _, rfl, ite2 (fun h1 => ?_) (fun h1 => ?_)⟩
      · have h1 : n < (ns.drop i).sum := by simpa using h1
        refine ⟨_, rfl, _, rfl, _, rfl, _, _, rfl, rfl, _, rfl, _, _, rfl, rfl, _, _, rfl, rfl, _, rfl, _, _, rfl, by omega, by omega, by omega, _, _, rfl, rfl, ?_⟩
        refine ⟨_, rfl, _, rfl, _, _, rfl, rfl, ?_⟩
        refine ⟨pl + PySem.W.mcComb ((ns.length : Int) - (i : Int) - 1 + (ns.drop i).sum - n - 1) ((ns.length : Int) - (i : Int) - 1), _, some (.int (i : Int)), some (.int n), some (.int ((ns.length : Int) - (i : Int) - 1)), ?_, lw1, e1 _ _ ht, ?_⟩
        · rw [show (ns.drop (i + 1)).sum = (ns.drop i).sum - n by omega]
          rfl
        · rw [← inv, step, if_pos h1, lenD, Int.add_assoc]
      · have h1 : ¬ n < (ns.drop i).sum := by simpa using h1
        refine ⟨_, rfl, _, rfl, _, _, rfl, rfl, ?_⟩
        refine ⟨pl, _, some (.int (i : Int)), some (.int n), some (.int ((ns.length : Int) - (i : Int) - 1)), ?_, lw1, e1 _ _ ht, ?_⟩
        · rw [show (ns.drop (i + 1)).sum = (ns.drop i).sum - n by omega]
          rfl
        · rw [← inv, step, if_neg h1, Int.zero_add]
    · obtain ⟨pl, G', z1, z2, z3, rfl, lw, ht, inv⟩ := hp
      refine ⟨_, rfl, k _ _ _ lw ⟨?_, ?_⟩⟩
      · show placeE ns = _
        unfold placeE
        rw [hc, hneg]
        exact if_pos small
      · show V.int pl = _
        have z : ns.drop ((ns.map V.int).length) = [] := by
          rw [List.length_map]
          exact List.drop_length
        rw [z] at inv
        rw [← inv]
        show _ = V.int (pl + 0)
        rw [Int.add_zero]
end
end K93

namespace K93
open PySem PySem.Spec PyProof.Rows L2 UfG UfT UfI
open Evl (Ex)
/-! ### the monomials, as the program lists them -/
def downs (r : Int) : List Int := (List.range (r + 1).toNat).map fun (i : Nat) => r + (i : Int) * (-1)
def extR (q : List Int × Int) : List (List Int × Int) := (downs q.2).map fun e => (q.1 ++ [e], q.2 - e)
def rowsN (d : Int) : Nat → List (List Int × Int)
  | 0 => [([], d)]
  | n + 1 => (rowsN d n).flatMap extR
def lastR (q : List Int × Int) : List Int := q.1 ++ [q.2]
def monoL (l : Nat) (d : Int) : List (List Int) := (rowsN d (l - 1)).map lastR
def rowD (q : List Int × Int) : PyData := .tuple [.tuple (q.1.map PyData.int), .int q.2]
def monoD (ns : List Int) : PyData := .tuple (ns.map PyData.int)
theorem downs_len {r : Int} : (downs r).length = (r + 1).toNat := by
  unfold downs
  rw [List.length_map, List.length_range]
theorem downs_at {r : Int} {j : Nat} (h : j < (r + 1).toNat) : (downs r)[j]? = some (r + (j : Int) * (-1)) := by
  unfold downs
  rw [List.getElem?_map, List.getElem?_range h]
  rfl
theorem downs_mem {r e : Int} (h : e ∈ downs r) : 0 ≤ e ∧ e ≤ r := by
  unfold downs at h
  obtain ⟨i, hi, rfl⟩ := List.mem_map.mp h
  have := List.mem_range.mp hi
  omega
theorem extR_len {q : List Int × Int} : (extR q).length = (q.2 + 1).toNat := by
  unfold extR
  rw [List.length_map, downs_len]
theorem extR_at {q : List Int × Int} {j : Nat} (h : j < (q.2 + 1).toNat) : (extR q)[j]? = some (q.1 ++ [q.2 + (j : Int) * (-1)], q.2 - (q.2 + (j : Int) * (-1))) := by
  unfold extR
  rw [List.getElem?_map, downs_at h]
  rfl
/-- the rows' heads have n items, of a sum that with the rest is d -/
theorem rowsN_ok {d : Int} (hd : 0 ≤ d) : ∀ (n : Nat) (q : List Int × Int), q ∈ rowsN d n → q.1.length = n ∧ 0 ≤ q.2 ∧ q.2 ≤ d ∧ (∀ e ∈ q.1, 0 ≤ e) ∧ q.1.sum + q.2 = d
  | 0, q, h => by
    obtain rfl := List.mem_singleton.mp h
    exact ⟨rfl, hd, Int.le_refl _, fun e he => absurd he (by simp), Int.zero_add _⟩
  | n + 1, q, h => by
    obtain ⟨r, hr, hq⟩ := List.mem_flatMap.mp h
    obtain ⟨e, he, rfl⟩ := List.mem_map.mp hq
    obtain ⟨h1, h2, h3, h4, h5⟩ := rowsN_ok hd n r hr
    have hb := downs_mem he
    refine ⟨by rw [List.length_append, h1]; rfl, by show 0 ≤ r.2 - e; omega, by show r.2 - e ≤ d; omega, fun x hx => ?_, ?_⟩
    · rcases List.mem_append.mp hx with z | z
      · exact h4 x z
      · rw [List.mem_singleton.mp z]
        exact hb.1
    · show (r.1 ++ [e]).sum + (r.2 - e) = d
      rw [List.sum_append, List.sum_singleton]
      omega
theorem flat_ge : ∀ (rows : List (List Int × Int)), (∀ q ∈ rows, 0 ≤ q.2) → rows.length ≤ (rows.flatMap extR).length
  | [], _ => Nat.le_refl _
  | q :: r, h => by
    rw [List.flatMap_cons, List.length_append, extR_len, List.length_cons]
    have := h q List.mem_cons_self
    have := flat_ge r fun x hx => h x (List.mem_cons_of_mem _ hx)
    omega
theorem rowsN_mono {d : Int} (hd : 0 ≤ d) (n k : Nat) : (rowsN d n).length ≤ (rowsN d (n + k)).length := by
  induction k with
  | zero => exact Nat.le_refl _
  | succ k ih => exact Nat.le_trans ih (flat_ge _ fun q hq => (rowsN_ok hd (n + k) q hq).2.1)
theorem flat_take_le (rows : List (List Int × Int)) (i : Nat) : ((rows.take i).flatMap extR).length ≤ (rows.flatMap extR).length := by
  have e : (rows.flatMap extR) = (rows.take i).flatMap extR ++ (rows.drop i).flatMap extR := by rw [← List.flatMap_append, List.take_append_drop]
  rw [e, List.length_append]
  omega
theorem take_more {α : Type} {l : List α} {i : Nat} {x : α} (h : l[i]? = some x) : l.take (i + 1) = l.take i ++ [x] := by
  rw [List.take_add_one, h]
  rfl
end K93

namespace K93
/-! ## the plain law: the monomials, their number, their places -/
theorem flat_congr {α β : Type} {l : List α} {f g : α → List β} (h : ∀ x ∈ l, f x = g x) : l.flatMap f = l.flatMap g := by
  induction l with
  | nil => rfl
  | cons a l ih => rw [List.flatMap_cons, List.flatMap_cons, h a List.mem_cons_self, ih fun x hx => h x (List.mem_cons_of_mem _ hx)]
def monoT : Nat → Int → List (List Int)
  | 0, d => if d = 0 then [[]] else []
  | n + 1, d => (downs d).flatMap fun e => (monoT n (d - e)).map (e :: ·)
def itR : Nat → List (List Int × Int) → List (List Int × Int)
  | 0, rows => rows
  | n + 1, rows => itR n (rows.flatMap extR)
theorem itR_succ : ∀ (n : Nat) (rows : List (List Int × Int)), itR (n + 1) rows = (itR n rows).flatMap extR
  | 0, _ => rfl
  | n + 1, rows => by
    show itR (n + 1) (rows.flatMap extR) = (itR n (rows.flatMap extR)).flatMap extR
    exact itR_succ n _
theorem rowsN_it (d : Int) : ∀ n : Nat, rowsN d n = itR n [([], d)]
  | 0 => rfl
  | n + 1 => by
    rw [itR_succ, ← rowsN_it d n]
    rfl
theorem itR_flat : ∀ (n : Nat) (rows : List (List Int × Int)), itR n rows = rows.flatMap fun q => itR n [q]
  | 0, rows => by
    show rows = rows.flatMap fun q => [q]
    rw [List.flatMap_singleton']
  | n + 1, rows => by
    show itR n (rows.flatMap extR) = rows.flatMap fun q => itR n ([q].flatMap extR)
    rw [itR_flat n, List.flatMap_assoc]
    apply flat_congr
    intro q _
    rw [List.flatMap_singleton, ← itR_flat n]
theorem downs_cons {r : Int} (h : 0 ≤ r) : downs r = r :: downs (r - 1) := by
  unfold downs
  have e : (r + 1).toNat = (r - 1 + 1).toNat + 1 := by omega
  rw [e, List.range_succ_eq_map, List.map_cons, List.map_map]
  congr 1
  · omega
  · apply List.map_congr_left
    intro i _
    show r + ((i + 1 : Nat) : Int) * (-1) = r - 1 + (i : Int) * (-1)
    omega
theorem flat_nil {α β : Type} {l : List α} {f : α → List β} (h : ∀ x ∈ l, f x = []) : l.flatMap f = [] := by
  induction l with
  | nil => rfl
  | cons a l ih =>
    rw [List.flatMap_cons, h a List.mem_cons_self, ih fun x hx => h x (List.mem_cons_of_mem _ hx)]
    rfl
theorem monoT_one {r : Int} (h : 0 ≤ r) : monoT 1 r = [[r]] := by
  show (downs r).flatMap (fun e => (monoT 0 (r - e)).map (e :: ·)) = [[r]]
  rw [downs_cons h, List.flatMap_cons, flat_nil fun e he => ?_]
  · show ((if r - r = 0 then [[]] else []).map (r :: ·)) ++ [] = [[r]]
    rw [if_pos (by omega)]
    rfl
  · have := downs_mem he
    show ((if r - e = 0 then [[]] else []).map (e :: ·)) = []
    rw [if_neg (by omega)]
    rfl
theorem itR_mono : ∀ (n : Nat) (h : List Int) (r : Int), 0 ≤ r → (itR n [(h, r)]).map lastR = (monoT (n + 1) r).map (h ++ ·)
  | 0, h, r, hr => by
    rw [monoT_one hr]
    rfl
  | n + 1, h, r, hr => by
    show (itR n ([(h, r)].flatMap extR)).map lastR = _
    rw [List.flatMap_singleton, itR_flat, List.map_flatMap]
    show ((downs r).map fun e => (h ++ [e], r - e)).flatMap (fun q => (itR n [q]).map lastR) = ((downs r).flatMap fun e => (monoT (n + 1) (r - e)).map (e :: ·)).map (h ++ ·)
    rw [List.flatMap_map, List.map_flatMap]
    apply flat_congr
    intro e he
    have hb := downs_mem he
    rw [itR_mono n (h ++ [e]) (r - e) (by omega), List.map_map]
    apply List.map_congr_left
    intro x _
    show h ++ [e] ++ x = h ++ (e :: x)
    rw [List.append_assoc]
    rfl
theorem monoL_eq {l : Nat} {d : Int} (hl : 1 ≤ l) (hd : 0 ≤ d) : monoL l d = monoT l d := by
  unfold monoL
  rw [rowsN_it, itR_mono _ _ _ hd, show l - 1 + 1 = l by omega]
  rw [show (fun x : List Int => [] ++ x) = id from rfl, List.map_id]

/-! ### Pascal's rule, as the law adds it up -/
def scan : Int → List Int → List Int
  | _, [] => []
  | t, x :: xs => (t + x) :: scan (t + x) xs
theorem scan_len : ∀ (t : Int) (xs : List Int), (scan t xs).length = xs.length
  | _, [] => rfl
  | t, x :: xs => by
    show (scan (t + x) xs).length + 1 = xs.length + 1
    rw [scan_len]
theorem scan_at : ∀ (t : Int) (xs : List Int) (i : Nat), i < xs.length → (scan t xs)[i]? = some (t + (xs.take (i + 1)).sum)
  | t, x :: xs, 0, _ => by
    show some (t + x) = some (t + (x + 0))
    rw [Int.add_zero]
  | t, x :: xs, i + 1, h => by
    show (scan (t + x) xs)[i]? = _
    rw [scan_at (t + x) xs i (Nat.lt_of_succ_lt_succ h)]
    show _ = some (t + (x + (xs.take (i + 1)).sum))
    rw [Int.add_assoc]
theorem scan_take : ∀ (t : Int) (xs : List Int) (i : Nat), scan t (xs.take i) = (scan t xs).take i
  | _, [], i => by
    rw [List.take_nil]
    exact (List.take_nil).symm
  | _, _ :: _, 0 => rfl
  | t, x :: xs, i + 1 => by
    show (t + x) :: scan (t + x) (xs.take i) = (t + x) :: (scan (t + x) xs).take i
    rw [scan_take]
def wrow : Nat → List Int
  | 0 => 1 :: List.replicate 32 0
  | n + 1 => scan 0 (wrow n)
theorem wrow_len : ∀ n, (wrow n).length = 33
  | 0 => by
    show (List.replicate 32 (0 : Int)).length + 1 = 33
    rw [List.length_replicate]
  | n + 1 => by
    show (scan 0 (wrow n)).length = 33
    rw [scan_len, wrow_len n]
def wat (n d : Nat) : Int := (wrow n).getD d 0
theorem wat_at {n d : Nat} (h : d ≤ 32) : (wrow n)[d]? = some (wat n d) := by
  have lt : d < (wrow n).length := by
    rw [wrow_len]
    omega
  unfold wat
  rw [List.getD, List.getElem?_eq_getElem lt]
  rfl
/-- the sum of the first m numbers of a row -/
def wsum (n m : Nat) : Int := ((wrow n).take m).sum
theorem wsum_succ {n m : Nat} (h : m ≤ 32) : wsum n (m + 1) = wsum n m + wat n m := by
  unfold wsum
  rw [List.take_add_one, wat_at h, List.sum_append]
  show _ + (wat n m + 0) = _
  rw [Int.add_zero]
theorem wat_succ {n d : Nat} (h : d ≤ 32) : wat (n + 1) d = wsum n (d + 1) := by
  have e := scan_at 0 (wrow n) d (by rw [wrow_len]; omega)
  have z : (wrow (n + 1))[d]? = some (wat (n + 1) d) := wat_at h
  have z2 : (wrow (n + 1))[d]? = some (0 + (List.take (d + 1) (wrow n)).sum) := e
  rw [z] at z2
  have := Option.some.inj z2
  rw [this, Int.zero_add]
  rfl
theorem monoT_len : ∀ (n d : Nat), d ≤ 32 → ((monoT n (d : Int)).length : Int) = wat n d
  | 0, d, h => by
    show (((if (d : Int) = 0 then [[]] else []) : List (List Int)).length : Int) = wat 0 d
    by_cases hd : d = 0
    · subst hd
      rfl
    · rw [if_neg (by omega)]
      have : ∀ d : Nat, d < 33 → d ≠ 0 → wat 0 d = 0 := by decide +kernel
      rw [this d (by omega) hd]
      rfl
  | n + 1, d, h => by
    rw [wat_succ h]
    have key : ∀ (m : Nat) (s : Int), m ≤ d + 1 → s = (d : Int) → (((List.range m).map fun (i : Nat) => s + (i : Int) * (-1)).flatMap (fun e => (monoT n (s - e)).map (e :: ·))).length = (wsum n m).toNat ∧ 0 ≤ wsum n m := by
      intro m s
      induction m with
      | zero => exact fun _ _ => ⟨rfl, Int.le_refl _⟩
      | succ m ih =>
        intro hm hs
        obtain ⟨h1, h2⟩ := ih (by omega) hs
        have l := monoT_len n m (by omega)
        rw [List.range_succ, List.map_append, List.flatMap_append, List.length_append, h1, wsum_succ (by omega)]
        show _ + (([s + (m : Int) * (-1)].flatMap fun e => (monoT n (s - e)).map (e :: ·))).length = _ ∧ _
        rw [List.flatMap_singleton, List.length_map, show s - (s + (m : Int) * (-1)) = (m : Int) by omega]
        omega
    obtain ⟨h1, h2⟩ := key (d + 1) d (Nat.le_refl _) rfl
    show (((downs (d : Int)).flatMap fun e => (monoT n ((d : Int) - e)).map (e :: ·)).length : Int) = _
    unfold downs
    rw [show ((d : Int) + 1).toNat = d + 1 by omega, h1]
    omega
/-- math.comb tells the same -/
theorem comb_ways : ∀ l : Nat, l < 12 → ∀ d : Nat, d < 33 → PySem.W.mcComb ((l + 1 : Nat) + (d : Int) - 1) d = wat (l + 1) d := by decide +kernel
theorem comb_place : ∀ b : Nat, b < 12 → ∀ m : Nat, m < 33 → PySem.W.mcComb ((b : Int) + (m : Int)) b = wat (b + 1) m := by decide +kernel
theorem countV_eq {l d : Int} (h1 : 1 ≤ l) (h2 : l ≤ 12) (h3 : 0 ≤ d) (h4 : d ≤ 32) : countV l d = wat l.toNat d.toNat := by
  have e := comb_ways (l.toNat - 1) (by omega) d.toNat (by omega)
  unfold countV
  rw [show l.toNat - 1 + 1 = l.toNat by omega, show ((l.toNat : Nat) : Int) = l by omega, show ((d.toNat : Nat) : Int) = d by omega] at e
  exact e
theorem monoL_len {l d : Int} (h1 : 1 ≤ l) (h2 : l ≤ 12) (h3 : 0 ≤ d) (h4 : d ≤ 32) : ((monoL l.toNat d).length : Int) = countV l d := by
  rw [monoL_eq (by omega) h3, countV_eq h1 h2 h3 h4]
  have e := monoT_len l.toNat d.toNat (by omega)
  rw [show ((d.toNat : Nat) : Int) = d by omega] at e
  exact e

/-! ### places -/
/-- how many come before, as the law adds it up -/
def wbefore : List Int → Int → Int
  | [], _ => 0
  | e :: es, r => wsum es.length (r - e).toNat + wbefore es (r - e)
theorem idx_flat {β : Type} {f : Int → List β} {x : β} : ∀ (k : Nat) (r : Int) (m j : Nat), (k : Int) ≤ r → (((List.range k).map fun (i : Nat) => r + (i : Int) * (-1)).flatMap f).length = m → (f (r - k))[j]? = some x → ((downs r).flatMap f)[m + j]? = some x := by
  intro k r m j hk hm hx
  have e : downs r = ((List.range k).map fun (i : Nat) => r + (i : Int) * (-1)) ++ ((r - k) :: downs (r - k - 1)) := by
    unfold downs
    have z : (r + 1).toNat = k + ((r - k - 1 + 1).toNat + 1) := by omega
    rw [z, List.range_add, List.map_append, List.range_succ_eq_map, List.map_cons, List.map_cons, List.map_map, List.map_map]
    congr 2
    · show r + ((k + 0 : Nat) : Int) * (-1) = r - k
      omega
    · apply List.map_congr_left
      intro i _
      show r + ((k + (i + 1) : Nat) : Int) * (-1) = r - k - 1 + (i : Int) * (-1)
      omega
  rw [e, List.flatMap_append, List.flatMap_cons, List.getElem?_append_right (by rw [hm]; omega), hm, show m + j - m = j by omega]
  rw [List.getElem?_append_left (List.getElem?_eq_some_iff.mp hx).1]
  exact hx
theorem pre_len {n : Nat} {d : Nat} (h : d ≤ 32) : ∀ m : Nat, m ≤ d + 1 → (((List.range m).map fun (i : Nat) => (d : Int) + (i : Int) * (-1)).flatMap (fun e => (monoT n ((d : Int) - e)).map (e :: ·))).length = (wsum n m).toNat ∧ 0 ≤ wsum n m
  | 0, _ => ⟨rfl, Int.le_refl _⟩
  | m + 1, hm => by
    obtain ⟨h1, h2⟩ := pre_len (n := n) h m (by omega)
    have l := monoT_len n m (by omega)
    rw [List.range_succ, List.map_append, List.flatMap_append, List.length_append, h1, wsum_succ (by omega)]
    show _ + (([(d : Int) + (m : Int) * (-1)].flatMap fun e => (monoT n ((d : Int) - e)).map (e :: ·))).length = _ ∧ _
    rw [List.flatMap_singleton, List.length_map, show (d : Int) - ((d : Int) + (m : Int) * (-1)) = (m : Int) by omega]
    omega
theorem monoT_at : ∀ (es : List Int) (d : Nat), d ≤ 32 → (∀ e ∈ es, 0 ≤ e) → es.sum = (d : Int) → 0 ≤ wbefore es d ∧ (monoT es.length (d : Int))[(wbefore es d).toNat]? = some es
  | [], d, _, _, hs => by
    have : (d : Int) = 0 := hs.symm
    refine ⟨Int.le_refl _, ?_⟩
    show ((if (d : Int) = 0 then [[]] else []) : List (List Int))[0]? = some []
    rw [if_pos this]
    rfl
  | e :: es, d, hd, hn, hs => by
    have he := hn e List.mem_cons_self
    have hs' : e + es.sum = (d : Int) := by
      rw [← hs, List.sum_cons]
    have pos : 0 ≤ es.sum := sum_nonneg fun x hx => hn x (List.mem_cons_of_mem _ hx)
    obtain ⟨i1, i2⟩ := monoT_at es ((d : Int) - e).toNat (by omega) (fun x hx => hn x (List.mem_cons_of_mem _ hx)) (by omega)
    rw [show ((((d : Int) - e).toNat : Nat) : Int) = (d : Int) - e by omega] at i1 i2
    obtain ⟨p1, p2⟩ := pre_len (n := es.length) hd ((d : Int) - e).toNat (by omega)
    show 0 ≤ wsum es.length ((d : Int) - e).toNat + wbefore es ((d : Int) - e) ∧ _
    refine ⟨by omega, ?_⟩
    have z := idx_flat (f := fun e => (monoT es.length ((d : Int) - e)).map (e :: ·)) (x := e :: es) ((d : Int) - e).toNat d _ (wbefore es ((d : Int) - e)).toNat (by omega) p1 (by
      rw [show (d : Int) - (((d : Int) - e).toNat : Nat) = e by omega]
      show ((monoT es.length ((d : Int) - e)).map (e :: ·))[(wbefore es ((d : Int) - e)).toNat]? = _
      rw [List.getElem?_map, i2]
      rfl)
    show ((downs (d : Int)).flatMap fun e => (monoT es.length ((d : Int) - e)).map (e :: ·))[(wsum es.length ((d : Int) - e).toNat + wbefore es ((d : Int) - e)).toNat]? = _
    rw [show (wsum es.length ((d : Int) - e).toNat + wbefore es ((d : Int) - e)).toNat = (wsum es.length ((d : Int) - e).toNat).toNat + (wbefore es ((d : Int) - e)).toNat by omega]
    exact z
/-- the program's place is the law's -/
theorem place_eq : ∀ (es : List Int) (d : Nat), es.length ≤ 12 → d ≤ 32 → (∀ e ∈ es, 0 ≤ e) → es.sum = (d : Int) → placeR es d = wbefore es d
  | [], _, _, _, _, _ => rfl
  | e :: es, d, hl, hd, hn, hs => by
    have hs' : e + es.sum = (d : Int) := by
      rw [← hs, List.sum_cons]
    have he := hn e List.mem_cons_self
    have hl' : es.length + 1 ≤ 12 := hl
    have pos : 0 ≤ es.sum := sum_nonneg fun x hx => hn x (List.mem_cons_of_mem _ hx)
    have ih := place_eq es ((d : Int) - e).toNat (by omega) (by omega) (fun x hx => hn x (List.mem_cons_of_mem _ hx)) (by omega)
    rw [show ((((d : Int) - e).toNat : Nat) : Int) = (d : Int) - e by omega] at ih
    show (if e < (d : Int) then PySem.W.mcComb ((es.length : Int) + d - e - 1) es.length else 0) + placeR es (d - e) = wsum es.length ((d : Int) - e).toNat + wbefore es (d - e)
    rw [ih]
    congr 1
    by_cases h : e < (d : Int)
    · rw [if_pos h]
      have c := comb_place es.length (by omega) ((d : Int) - e - 1).toNat (by omega)
      rw [show (((d : Int) - e - 1).toNat : Int) = (d : Int) - e - 1 by omega] at c
      rw [show (es.length : Int) + d - e - 1 = (es.length : Int) + ((d : Int) - e - 1) by omega, c, wat_succ (by omega), show ((d : Int) - e - 1).toNat + 1 = ((d : Int) - e).toNat by omega]
    · rw [if_neg h, show ((d : Int) - e).toNat = 0 by omega]
      rfl

/-! ### the order -/
def LexGt (a b : List Int) : Prop := ∃ (k : Nat) (u v : Int), (∀ j < k, a[j]? = b[j]?) ∧ a[k]? = some u ∧ b[k]? = some v ∧ v < u
theorem LexGt.cons {a b : List Int} (e : Int) (h : LexGt a b) : LexGt (e :: a) (e :: b) := by
  obtain ⟨k, u, v, h1, h2, h3, h4⟩ := h
  refine ⟨k + 1, u, v, fun j hj => ?_, h2, h3, h4⟩
  cases j with
  | zero => rfl
  | succ j => exact h1 j (Nat.lt_of_succ_lt_succ hj)
theorem downs_sorted (r : Int) : (downs r).Pairwise (fun a b => b < a) := by
  unfold downs
  rw [List.pairwise_map]
  exact List.Pairwise.imp (fun {a b} h => by omega) List.pairwise_lt_range
theorem monoT_sorted : ∀ (n : Nat) (d : Int), (monoT n d).Pairwise LexGt
  | 0, d => by
    show ((if d = 0 then [[]] else []) : List (List Int)).Pairwise LexGt
    by_cases h : d = 0
    · rw [if_pos h]
      exact List.pairwise_singleton _ _
    · rw [if_neg h]
      exact List.Pairwise.nil
  | n + 1, d => by
    show ((downs d).flatMap fun e => (monoT n (d - e)).map (e :: ·)).Pairwise LexGt
    rw [List.pairwise_flatMap]
    refine ⟨fun e _ => ?_, ?_⟩
    · rw [List.pairwise_map]
      exact List.Pairwise.imp (fun h => h.cons e) (monoT_sorted n (d - e))
    · refine List.Pairwise.imp (fun {a b} h => ?_) (downs_sorted d)
      intro x hx y hy
      obtain ⟨x', _, rfl⟩ := List.mem_map.mp hx
      obtain ⟨y', _, rfl⟩ := List.mem_map.mp hy
      exact ⟨0, a, b, fun j hj => absurd hj (Nat.not_lt_zero _), rfl, rfl, h⟩
theorem monoL_gt {l d : Int} (h1 : 1 ≤ l) (h3 : 0 ≤ d) {k : Nat} {x y : List Int} (hx : (monoL l.toNat d)[k]? = some x) (hy : (monoL l.toNat d)[k + 1]? = some y) : LexGt x y := by
  rw [monoL_eq (by omega) h3] at hx hy
  have p := List.pairwise_iff_getElem.mp (monoT_sorted l.toNat d)
  obtain ⟨l1, e1⟩ := List.getElem?_eq_some_iff.mp hx
  obtain ⟨l2, e2⟩ := List.getElem?_eq_some_iff.mp hy
  have := p k (k + 1) l1 l2 (Nat.lt_succ_self _)
  rw [e1, e2] at this
  exact this
theorem monoL_ok {l d : Int} (h1 : 1 ≤ l) (h3 : 0 ≤ d) {x : List Int} (h : x ∈ monoL l.toNat d) : (x.length : Int) = l ∧ (∀ e ∈ x, 0 ≤ e) ∧ x.sum = d := by
  unfold monoL at h
  obtain ⟨q, hq, rfl⟩ := List.mem_map.mp h
  obtain ⟨a1, a2, a3, a4, a5⟩ := rowsN_ok h3 _ q hq
  refine ⟨?_, fun e he => ?_, ?_⟩
  · show ((q.1 ++ [q.2]).length : Int) = l
    rw [List.length_append, a1]
    show ((l.toNat - 1 + 1 : Nat) : Int) = l
    omega
  · rcases List.mem_append.mp he with z | z
    · exact a4 e z
    · rw [List.mem_singleton.mp z]
      exact a2
  · show (q.1 ++ [q.2]).sum = d
    rw [List.sum_append, List.sum_singleton, a5]
end K93

namespace K93
open PySem PySem.Spec PyProof.Rows L2 UfG UfT UfI
open Evl (Ex)
section
variable {P : Program} {w : World} {K : PySem.W.Frag} {mg : Str → Option Value} {base : Heap}
/-! ### monomials -/
def monoE (l d : Int) : Option Er := match countE l d with
  | some e => some e
  | none => if countV l d ≤ 1000 then none else some (.large (countV l d))
theorem countE_none {l d : Int} (h : countE l d = none) : (1 ≤ l ∧ l ≤ 12) ∧ 0 ≤ d ∧ d ≤ 32 := by
  unfold countE at h
  cases e : checkE l with
  | some x =>
    rw [e] at h
    cases h
  | none =>
    rw [e] at h
    refine ⟨checkE_none e, ?_⟩
    by_cases z : 0 ≤ d ∧ d ≤ 32
    · exact z
    · have h : (if 0 ≤ d ∧ d ≤ 32 then none else some (Er.count d)) = none := h
      rw [if_neg z] at h
      cases h
theorem sc_monomials : FnScope ["letters", "degree", "size", "rows", "_", "head", "rest", "exponent"] ["letters", "degree"] (defScope s_monomials) := ⟨rfl, rfl, rfl, by decide +kernel, rfl, by decide +kernel, by decide +kernel⟩
/-- a new list of tuples of ints -/
def NewTups (G G' : Hp) (v : V) (ns : List (List Int)) : Prop := ∃ a xs, v = .ref a ∧ G a = none ∧ G' a = some (.lst xs) ∧ RpAll G' xs (ns.map monoD)
def sp_monomials (T : Tx K mg) : Sp := spX T (fun vs _ (a : Int × Int) => vs = [.int a.1, .int a.2]) (fun a => monoE a.1 a.2) (fun a G G' v => NewTups G G' v (monoL a.1.toNat a.2))
theorem Rp_tup2 {G : Hp} {v : V} {h : List Int} {r : Int} (R : Rp G v (rowD (h, r))) : ∃ t th, v = .ref t ∧ G t = some (.tup [.ref th, .int r]) ∧ G th = some (.tup (h.map V.int)) := by
  cases R with
  | tup ht rs =>
    cases rs with
    | cons r1 rs =>
      cases rs with
      | cons r2 rs =>
        cases rs
        cases r2
        cases r1 with
        | tup hth rr =>
          have e := RpAll.ints_eq rr
          subst e
          exact ⟨_, _, rfl, ht, hth⟩
theorem ok_monomials (T : Tx K mg) : FnOk P w K mg base (L2N.CX P w) 5 T.monomials.f T.monomials.fd ["letters", "degree"] (sp_monomials T) := by
  refine fun_okX T.monomials.F sc_monomials (fun vs H Q E h => ?_) (fun cdv A outer s H vs Q E hr h => ?_)
  · obtain ⟨l, G, _, rfl, _⟩ := h
    rfl
  · obtain ⟨⟨l, d⟩, G, lw, rfl, k, kx⟩ := h
    refine ⟨_, (pss_cons (ps_set (i := 2) sc_monomials.nd rfl (.inl rfl) (pe_callS (ok_monomial_count T) (hr.mono (by decide)) rfl T.monomial_count.g T.monomial_count.F.kp T.monomial_count.b (fun σ => L2N.passAt (L2N.takes_of rfl rfl rfl rfl) σ) (pa_cons (pv 0) (pa_cons (pv 1) pa_nil))))
      (pss_cons (ps_if (pt_cmpR op_gt (pv 2) (pe_glob (v := .int 1000) rfl T.c_MOST_MONOMIALS.2 ⟨_, rfl⟩) (nomark _)) (pss_one (L2N.ps_raise rfl (L2N.takes_of rfl rfl rfl rfl) (UfH.pmk_oexN T.cLarge.T T.cLarge.iC T.cLarge.tI (oki_large T) (hr.mono (by decide)) T.cLarge.b rfl T.cLarge.g (pa_cons (pv 2) pa_nil)))) pss_nil)
      (pss_cons (ps_set (i := 3) sc_monomials.nd rfl (.inl rfl) (pe_lst (pa_cons (pe_tup (pa_cons (pe_tup pa_nil) (pa_cons (pv 1) pa_nil))) pa_nil)))
      (pss_cons (ps_for (passes_of rfl) rfl (pi_range1 rfl T.z_range (pa_cons (pe_op op_sub (pv 0) pe_int) pa_nil)) (pg_name (i := 4) sc_monomials.nd rfl (.inl rfl)) (pss_one (ps_setLc2 (i := 3) (own := [("head", 5), ("rest", 6), ("exponent", 7)]) (vs1 := [7]) rfl sc_monomials.nd rfl rfl (sw_true rfl rfl rfl (by decide +kernel)) (UfK.pi_listK (K := K) (pv 3)) (blkOk_by (own := [("head", 5), ("rest", 6), ("exponent", 7)]) (N := ["letters", "degree", "size", "rows", "_", "head", "rest", "exponent"]) (sc := defScope s_monomials) (by decide +kernel)) (by decide) (fun _ _ _ _ _ => by exact UfK.pg_tupK (K := K) (n := 2) rfl (pgs_cons (pg_name (i := 5) sc_monomials.nd rfl (.inl rfl)) (pgs_cons (pg_name (i := 6) sc_monomials.nd rfl (.inl rfl)) pgs_nil))) (fun _ _ _ _ _ => pts_nil) (fun _ _ _ _ _ => (pi_range3 rfl T.z_range (pa_cons (pv 6) (pa_cons (pe_un un_neg pe_int) (pa_cons (pe_un un_neg pe_int) pa_nil))))) (fun _ _ _ _ _ => by exact pg_name (i := 7) sc_monomials.nd rfl (.inl rfl)) (fun _ _ _ _ _ => pts_nil) (fun _ _ _ _ _ => (pe_tup (pa_cons (pe_op (UfK.op_catAK (K := K)) (pv 5) (pe_tup (pa_cons (pv 7) pa_nil))) (pa_cons (pe_op op_sub (pv 6) (pv 7)) pa_nil)))))))
      (pss_one (ps_ret (pe_lc (own := [("head", 5), ("rest", 6)]) rfl sc_monomials.nd (UfK.pi_listK (K := K) (pv 3)) (blkOk_by (own := [("head", 5), ("rest", 6)]) (N := ["letters", "degree", "size", "rows", "_", "head", "rest", "exponent"]) (sc := defScope s_monomials) (by decide +kernel)) (fun _ _ _ _ _ => by exact UfK.pg_tupK (K := K) (n := 2) rfl (pgs_cons (pg_name (i := 5) sc_monomials.nd rfl (.inl rfl)) (pgs_cons (pg_name (i := 6) sc_monomials.nd rfl (.inl rfl)) pgs_nil))) (fun _ _ _ _ _ => pts_nil) (fun _ _ _ _ _ => (pe_op (UfK.op_catAK (K := K)) (pv 5) (pe_tup (pa_cons (pv 6) pa_nil))))))))))), ?_⟩
    -- size = monomial_count(letters, degree)
    refine ⟨_, rfl, _, rfl, (l, d), call_raise lw rfl (fun G1 H1 v e1 lw hv => ?_) (fun G1 H1 C q e1 lw hx => ?_)⟩
    rotate_left
    · obtain ⟨e, he, hE⟩ := hx
      refine kx _ _ _ _ lw ⟨e, ?_, hE⟩
      show monoE l d = _
      unfold monoE
      have he : countE l d = some e := he
      rw [he]
    obtain ⟨hc, hv⟩ := hv
    have hc : countE l d = none := hc
    have hv : v = .int (countV l d) := hv
    subst hv
    -- if size > MOST_MONOMIALS
    refine ⟨_, rfl, _, _, rfl, rfl, _, rfl, ite2 (fun h1 => ?_) (fun h1 => ?_)⟩
    · refine ⟨_, rfl, mk1_of T.cLarge.T T.noLarge fun q hq => kx _ _ _ q (lw.alloc hq) ⟨.large (countV l d), ?_, rfl, upd_same⟩⟩
      show monoE l d = _
      unfold monoE
      rw [hc]
      exact if_neg (by simp at h1; omega)
    have small : countV l d ≤ 1000 := by
      simp at h1
      omega
    obtain ⟨⟨l1, l2⟩, d1, d2⟩ := countE_none hc
    have total := monoL_len l1 l2 d1 d2
    have few : ∀ i, i ≤ l.toNat - 1 → (rowsN d i).length ≤ 1000 := fun i hi => by
      have z := rowsN_mono d1 i (l.toNat - 1 - i)
      rw [show i + (l.toNat - 1 - i) = l.toNat - 1 by omega] at z
      unfold monoL at total
      rw [List.length_map] at total
      omega
    -- rows = [((), degree)]
    refine ⟨(by show 0 ≤ sizeLine; decide), fun t0 n0 => ?_⟩
    obtain ⟨G2, e2, lw, h0⟩ := lw.allocE (o := .tup []) n0
    refine ⟨_, rfl, (by show 2 ≤ sizeLine; decide), fun t1 n1 => ?_⟩
    obtain ⟨G3, e3, lw, h1'⟩ := lw.allocE (o := .tup [.ref t0, .int d]) n1
    refine ⟨(by show 1 ≤ sizeLine; decide), fun t2 n2 => ?_⟩
    obtain ⟨G4, e4, lw, h2'⟩ := lw.allocE (o := .lst [.ref t1]) n2
    have r0 : RpAll G4 [V.ref t1] ([([], d)].map rowD) := .cons (.tup (e4 _ _ h1') (.cons (.tup (e4 _ _ (e3 _ _ h0)) .nil) (.cons (.int d) .nil))) .nil
    -- for _ in range(letters - 1)
    refine ⟨_, rfl, _, _, rfl, rfl, l - 1, rfl, by omega, by omega, for_range (lo := 0) (n := (l - 1).toNat)
      (fun i σ H' => ∃ (G' : Hp) (a : Addr) (xs : List V) (z : Option V), σ = [some (.int l), some (.int d), some (.int (countV l d)), some (.ref a), z, none, none, none] ∧ Lw H G none [] G' H' ∧
        G' a = some (.lst xs) ∧ RpAll G' xs ((rowsN d i).map rowD)) ⟨_, t2, _, none, rfl, lw, h2', r0⟩ (fun i σ H' hi hp => ?_) (fun σ H' hp => ?_)⟩
    · obtain ⟨G', a, xs, z, rfl, lw, ha, rx⟩ := hp
      have nxt : (rowsN d (i + 1)).length ≤ 1000 := few (i + 1) (by omega)
      -- rows = [(head + (exponent,), rest - exponent) for head, rest in rows for exponent in range(rest, -1, -1)]
      refine ⟨_, rfl, a, rfl, ⟨xs, SqL.g lw ha⟩, fun D hD => ?_⟩
      refine it_list (K := K) (a := a) (xs := xs) (fun j H2 => ∃ (acc : List V) (G2 : Hp), Lw H G none [(D, .lst acc)] G2 H2 ∧ Ex G' G2 ∧ RpAll G2 acc (((rowsN d i).take j).flatMap extR |>.map rowD))
        ⟨[], G', lw.make hD, Evl.Ex.refl _, .nil⟩ (fun j H2 _ hp => ?_) (fun j x H2 hx hp => ?_) (fun H2 hp => ?_)
      · obtain ⟨acc, G2, lw, e, _⟩ := hp
        exact SqL.g lw (e _ _ ha)
      · obtain ⟨acc, G2, lw, e, ra⟩ := hp
        obtain ⟨⟨hd, re⟩, hq, rq⟩ := RpAll.at' rx hx
        obtain ⟨t, th, rfl, ht, hth⟩ := Rp_tup2 (rq.ex e)
        obtain ⟨q1, q2, q3, q4, q5⟩ := rowsN_ok d1 i (hd, re) (List.mem_of_getElem? hq)
        have q2 : 0 ≤ re := q2
        have q3 : re ≤ d := q3
        have q1 : hd.length = i := q1
        refine ⟨t, _, rfl, L2.SqT.of (lw.gh _ _ ht), rfl, _, _, rfl, _, _, rfl, rfl, rfl, ?_⟩
        -- for exponent in range(rest, -1, -1)
        refine ⟨_, rfl, _, rfl, _, rfl, re, -1, -1, _, rfl, RgC.neg (by omega) (by omega) (by omega) (by omega), ?_⟩
        have eN : (re - -1).toNat = (re + 1).toNat := by omega
        have part : ∀ m, (((rowsN d i).take j).flatMap extR ++ (extR (hd, re)).take m).length ≤ 1000 := fun m => by
          have z1 := flat_take_le (rowsN d i) (j + 1)
          rw [take_more hq, List.flatMap_append, List.flatMap_singleton, List.length_append] at z1
          rw [List.length_append, List.length_take]
          have : ((rowsN d i).flatMap extR).length ≤ 1000 := nxt
          omega
        refine it_rngC (lo := re) (c := -1) (n := (re - -1).toNat) (fun m H3 => ∃ (acc : List V) (G3 : Hp), Lw H G none [(D, .lst acc)] G3 H3 ∧ Ex G2 G3 ∧ RpAll G3 acc ((((rowsN d i).take j).flatMap extR ++ (extR (hd, re)).take m).map rowD))
          ⟨acc, G2, lw, Evl.Ex.refl _, by rw [List.take_zero, List.append_nil]; exact ra⟩ (fun m H3 hm hp => ?_) (fun H3 hp => ?_)
        · obtain ⟨acc, G3, lw, e3, ra⟩ := hp
          have hx2 := extR_at (q := (hd, re)) (j := m) (by show m < (re + 1).toNat; omega)
          refine ⟨rfl, ?_⟩
          -- (head + (exponent,), rest - exponent)
          refine ⟨_, rfl, _, rfl, (by show 1 ≤ sizeLine; decide), fun t1 n1 => ?_⟩
          obtain ⟨G4, e4, lw, h1'⟩ := lw.allocE (o := .tup [.int (re + (m : Int) * (-1))]) n1
          refine r_catT lw (e4 _ _ (e3 _ _ hth)) h1' (by rw [List.length_map, q1]; show i + 1 ≤ 100000; omega) fun t2 G5 H5 e5 lw h2' => ?_
          refine ⟨_, rfl, _, rfl, _, _, rfl, rfl, (by show 2 ≤ sizeLine; decide), fun t3 n3 => ?_⟩
          obtain ⟨G6, e6, lw, h3'⟩ := lw.allocE (o := .tup [.ref t2, .int (re - (re + (m : Int) * (-1)))]) n3
          have el := ra.len'
          refine ⟨acc, lw.at, Evl.sz_lt (by rw [el]; have := part m; omega), acc ++ [_], G6, lw.put, e3.trans (e4.trans (e5.trans e6)), ?_⟩
          rw [take_more hx2, ← List.append_assoc, List.map_append]
          refine (ra.ex (e4.trans (e5.trans e6))).append (.one (.tup h3' (.cons (.tup (e6 _ _ h2') ?_) (.cons (.int _) .nil))))
          rw [show hd.map V.int ++ [V.int (re + (m : Int) * (-1))] = (hd ++ [re + (m : Int) * (-1)]).map V.int by rw [List.map_append]; rfl]
          exact RpAll.ints _
        · obtain ⟨acc, G3, lw, e3, ra⟩ := hp
          refine ⟨acc, G3, lw, e.trans e3, ?_⟩
          rw [take_more hq, List.flatMap_append, List.flatMap_singleton]
          have z : (extR (hd, re)).take (re - -1).toNat = extR (hd, re) := List.take_of_length_le (by rw [extR_len]; show (re + 1).toNat ≤ _; omega)
          rw [z] at ra
          exact ra
      · obtain ⟨acc, G2, lw, e, ra⟩ := hp
        obtain ⟨lw, e2⟩ := lw.keep
        refine ⟨_, D, acc, some (.int (0 + (i : Int))), rfl, lw, upd_same, ?_⟩
        rw [rx.len', List.take_length] at ra
        exact ra.ex e2
    · obtain ⟨G', a, xs, z, rfl, lw, ha, rx⟩ := hp
      have eN : (l - 1).toNat = l.toNat - 1 := by omega
      rw [eN] at rx
      have last := few (l.toNat - 1) (Nat.le_refl _)
      -- return [head + (rest,) for head, rest in rows]
      refine ⟨_, rfl, a, rfl, ⟨xs, SqL.g lw ha⟩, fun D hD => ?_⟩
      have gD : G D = none := by
        cases hz : G D with
        | none => rfl
        | some o =>
          have := lw.gh _ _ (lw.g0 _ _ hz)
          rw [hD] at this
          cases this
      refine it_list (K := K) (a := a) (xs := xs) (fun j H2 => ∃ (acc : List V) (G2 : Hp), Lw H G none [(D, .lst acc)] G2 H2 ∧ Ex G' G2 ∧ RpAll G2 acc ((((rowsN d (l.toNat - 1)).take j).map lastR).map monoD))
        ⟨[], G', lw.make hD, Evl.Ex.refl _, .nil⟩ (fun j H2 _ hp => ?_) (fun j x H2 hx hp => ?_) (fun H2 hp => ?_)
      · obtain ⟨acc, G2, lw, e, _⟩ := hp
        exact SqL.g lw (e _ _ ha)
      · obtain ⟨acc, G2, lw, e, ra⟩ := hp
        obtain ⟨⟨hd, re⟩, hq, rq⟩ := RpAll.at' rx hx
        obtain ⟨t, th, rfl, ht, hth⟩ := Rp_tup2 (rq.ex e)
        obtain ⟨q1, q2, q3, q4, q5⟩ := rowsN_ok d1 _ (hd, re) (List.mem_of_getElem? hq)
        have q1 : hd.length = l.toNat - 1 := q1
        refine ⟨t, _, rfl, L2.SqT.of (lw.gh _ _ ht), rfl, _, _, rfl, _, _, rfl, rfl, rfl, ?_⟩
        refine ⟨_, rfl, _, rfl, (by show 1 ≤ sizeLine; decide), fun t1 n1 => ?_⟩
        obtain ⟨G4, e4, lw, h1'⟩ := lw.allocE (o := .tup [.int re]) n1
        refine r_catT lw (e4 _ _ hth) h1' (by rw [List.length_map, q1]; show l.toNat - 1 + 1 ≤ 100000; omega) fun t2 G5 H5 e5 lw h2' => ?_
        have el := ra.len'
        refine ⟨acc, lw.at, Evl.sz_lt (by rw [el, List.length_map, List.length_take]; omega), acc ++ [_], G5, lw.put, e.trans (e4.trans e5), ?_⟩
        rw [take_more hq, List.map_append, List.map_append]
        refine (ra.ex (e4.trans e5)).append (.one (.tup h2' ?_))
        rw [show hd.map V.int ++ [V.int re] = (lastR (hd, re)).map V.int by unfold lastR; rw [List.map_append]; rfl]
        exact RpAll.ints _
      · obtain ⟨acc, G2, lw, e, ra⟩ := hp
        obtain ⟨lw, e2⟩ := lw.keep
        rw [rx.len', List.take_length] at ra
        refine k _ _ _ lw ⟨?_, D, acc, rfl, gD, upd_same, ra.ex e2⟩
        show monoE l d = none
        unfold monoE
        rw [hc]
        exact if_pos small
end
end K93

namespace K93
open PySem PySem.Spec PyProof.Rows L2 UfG UfT UfI
open Evl (Ex)
section
variable {P : Program} {w : World} {K : PySem.W.Frag} {mg : Str → Option Value} {base : Heap}
theorem sc_pool : FnScope ["script", "cells", "parts", "cell", "k"] ["script"] (defScope s_pool) := ⟨rfl, rfl, rfl, by decide +kernel, rfl, by decide +kernel, by decide +kernel⟩
def sp_pool (K : PySem.W.Frag) : Sp := fun vs H Q _ => ∃ (a : Addr) (ns : List Int), vs = [.ref a] ∧ SqL K H a (ns.map V.int) ∧ ∀ (H' : Hp) (p c : Addr), Lw H' (fun _ => none) (some (p, c, 0)) [] (fun _ => none) H' → Q (.ref p) H'
theorem ok_pool (T : Tx K mg) : FnOk P w K mg base CX0 2 T.pool.f T.pool.fd ["script"] (sp_pool K) := by
  refine T.pool.F.ok sc_pool (fun vs H Q E h => ?_) (fun cdv A outer s H vs Q E hr h => ?_)
  · obtain ⟨a, ns, rfl, _⟩ := h
    rfl
  · obtain ⟨a, ns, rfl, hS, k⟩ := h
    refine ⟨_, (pss_cons (ps_set (i := 1) sc_pool.nd rfl (.inr rfl) (pe_lc (own := [("cell", 3)]) rfl sc_pool.nd (UfK.pi_listK (K := K) (pe_slice (UfK.sl_listK (K := K)) (pv 0) po_none (po_some pe_int))) (blkOk_by (own := [("cell", 3)]) (N := ["script", "cells", "parts", "cell", "k"]) (sc := defScope s_pool) (by decide +kernel)) (fun _ _ _ _ _ => by exact pg_name (i := 3) sc_pool.nd rfl (.inl rfl)) (fun _ _ _ _ _ => pts_nil) (fun _ _ _ _ _ => (pe_op op_modN (pe_callTy call_int1 (by rfl) T.z_int (by decide +kernel) (pa_cons (pv 3) pa_nil)) (pe_op op_pow pe_int pe_int)))))
      (pss_cons (ps_setLc (i := 2) (own := [("k", 4)]) rfl sc_pool.nd rfl rfl (sw_true rfl rfl rfl (by decide +kernel)) (pi_range1 rfl T.z_range (pa_cons (pe_callB (UfK.call_lenK (K := K)) (by rfl) T.z_len (by decide +kernel) (pa_cons (pv 1) pa_nil)) pa_nil)) (blkOk_by (own := [("k", 4)]) (N := ["script", "cells", "parts", "cell", "k"]) (sc := defScope s_pool) (by decide +kernel)) (fun _ _ _ _ _ => by exact pg_name (i := 4) sc_pool.nd rfl (.inl rfl)) (fun _ _ _ _ _ => pts_nil) (fun _ _ _ _ _ => (pe_op op_mulW (pe_op op_modN (pe_callTy call_int1 (by rfl) T.z_int (by decide +kernel) (pa_cons (pe_ix (UfK.ix_listK (K := K)) (pv 1) (pv 4) (fun _ _ => rfl)) pa_nil)) pe_int) (pe_op op_add (pv 4) pe_int))))
      (pss_one (ps_ret (pe_lst (pa_cons pe_int (pa_cons pe_int (pa_cons (pv 1) (pa_cons pe_int (pa_cons (pe_op op_add (pe_callB (UfK.call_lenK (K := K)) (by rfl) T.z_len (by decide +kernel) (pa_cons (pv 1) pa_nil)) (pe_callB (UfK.cr_sumK (K := K) rfl) (by rfl) T.z_sum (by decide +kernel) (pa_cons (pv 2) pa_nil))) pa_nil)))))))))), ?_⟩
    have lw : Lw H (fun _ => none) none [] (fun _ => none) H := .refl (fun _ _ h => nomatch h)
    -- cells = [int(cell) % 10 ** 60 for cell in script[:63]]
    refine ⟨_, rfl, 63, rfl, a, _, rfl, hS, fun t0 n0 => ?_⟩
    rw [show cutV (ns.map V.int) none (some 63) = (ns.take 63).map V.int from (cutV_take _ 63).trans List.map_take.symm]
    have few : (ns.take 63).length ≤ 63 := by
      rw [List.length_take]
      omega
    generalize ns.take 63 = ms at few
    obtain ⟨G1, e1, lw, h0⟩ := lw.allocE (o := .lst (ms.map V.int)) n0
    refine ⟨t0, rfl, ⟨_, SqL.g lw h0⟩, fun D hD => ?_⟩
    refine it_list (K := K) (a := t0) (xs := ms.map V.int) (fun j H2 => ∃ (acc : List Int) (G2 : Hp), Lw H (fun _ => none) none [(D, .lst (acc.map V.int))] G2 H2 ∧ G2 t0 = some (.lst (ms.map V.int)) ∧ acc.length = j ∧ ∀ z ∈ acc, 0 ≤ z ∧ z < 2 ^ 200)
      ⟨[], _, lw.make hD, h0, rfl, by simp⟩ (fun j H2 _ hp => ?_) (fun j x H2 hx hp => ?_) (fun H2 hp => ?_)
    · obtain ⟨acc, G2, lw, h0, _⟩ := hp
      exact SqL.g lw h0
    · obtain ⟨acc, G2, lw, h0, la, ba⟩ := hp
      obtain ⟨n, hn, rfl⟩ := at_int hx
      have hlt : j < ms.length := (List.getElem?_eq_some_iff.mp hn).1
      refine ⟨rfl, _, rfl, Or.inl ⟨n, rfl, _, _, rfl, rfl, pow_small (by decide) (by decide), _, _, rfl, rfl, (show (10 : Int) ^ (60 : Int).toNat ≠ 0 by decide), acc.map V.int, lw.at, Evl.sz_lt (by rw [List.length_map]; omega), acc ++ [n.fmod ((10 : Int) ^ (60 : Int).toNat)], G2, ?_, h0, by rw [List.length_append, la]; rfl, fun z hz => ?_⟩⟩
      · rw [List.map_append]
        exact lw.put
      · rcases List.mem_append.mp hz with hz | hz
        · exact ba z hz
        · rw [List.mem_singleton.mp hz, ten60]
          have := fmod_bd (i := n) (j := 1000000000000000000000000000000000000000000000000000000000000) (by decide)
          omega
    · obtain ⟨cells, G2, lw, h0, la, ba⟩ := hp
      rw [List.length_map] at la
      obtain ⟨lw, e2⟩ := lw.keep
      have hD' : (upd G2 D (.lst (cells.map V.int))) D = some (.lst (cells.map V.int)) := upd_same
      generalize upd G2 D (.lst (cells.map V.int)) = G3 at lw e2 hD'
      -- parts = [int(cells[k]) % 1000003 * (k + 1) for k in range(len(cells))]
      refine ⟨_, rfl, D, _, rfl, .inl (SqL.g lw hD'), ?_⟩
      rw [List.length_map]
      refine ⟨_, rfl, by omega, by omega, fun D2 hD2 => ?_⟩
      refine it_rng (lo := 0) (n := ((cells.length : Nat) : Int).toNat) (fun j H2 => ∃ (acc : List Int) (G2 : Hp), Lw H (fun _ => none) none [(D2, .lst (acc.map V.int))] G2 H2 ∧ G2 D = some (.lst (cells.map V.int)) ∧ acc.length = j ∧ 0 ≤ acc.sum ∧ acc.sum ≤ 100000000 * j)
        ⟨[], _, lw.make hD2, hD', rfl, by simp, by simp⟩ (fun j H2 hj hp => ?_) (fun H2 hp => ?_)
      · obtain ⟨acc, G2, lw, h1, lb, s0, s1⟩ := hp
        rw [Int.toNat_natCast] at hj
        obtain ⟨n, hn⟩ : ∃ n, cells[j]? = some n := ⟨_, List.getElem?_eq_getElem hj⟩
        have hn' : (cells.map V.int)[j]? = some (.int n) := by rw [List.getElem?_map, hn]; rfl
        have bd := fmod_bd (i := n) (j := 1000003) (by decide)
        have jj : (j : Int) < 63 := by omega
        have pr : 0 ≤ n.fmod 1000003 * (0 + (j : Int) + 1) ∧ n.fmod 1000003 * (0 + (j : Int) + 1) ≤ 1000003 * 63 := ⟨Int.mul_nonneg bd.1 (by omega), Int.mul_le_mul (by omega) (by omega) (by omega) (by omega)⟩
        refine ⟨rfl, _, rfl, _, rfl, D, _, (j : Int), _, rfl, (by rw [Int.zero_add]), SqL.g lw h1, atI_nat hn', Or.inl ⟨n, rfl, _, _, rfl, rfl, (show (1000003 : Int) ≠ 0 by decide), _, rfl, _, _, rfl, rfl, ?_⟩⟩
        refine ⟨_, _, rfl, rfl, mulW_of ⟨bd.1, by omega⟩ ⟨by omega, by omega⟩, acc.map V.int, lw.at, Evl.sz_lt (by rw [List.length_map]; omega), acc ++ [n.fmod 1000003 * (0 + (j : Int) + 1)], G2, ?_, h1, by rw [List.length_append, lb]; rfl, ?_, ?_⟩
        · rw [List.map_append]
          exact lw.put
        · rw [List.sum_append, List.sum_singleton]
          omega
        · rw [List.sum_append, List.sum_singleton]
          omega
      · obtain ⟨acc, G4, lw, h1, lb, s0, s1⟩ := hp
        rw [Int.toNat_natCast] at s1 lb
        obtain ⟨lw, e2⟩ := lw.keep
        have hD2' : (upd G4 D2 (.lst (acc.map V.int))) D2 = some (.lst (acc.map V.int)) := upd_same
        have h1 := e2 _ _ h1
        generalize upd G4 D2 (.lst (acc.map V.int)) = G5 at lw e2 hD2' h1
        -- return [0, 0, cells, 0, len(cells) + sum(parts)]
        refine ⟨_, rfl, _, rfl, D, _, rfl, .inl (SqL.g lw h1), _, rfl, D2, _, rfl, SqL.g lw hD2', _, _, rfl, rfl, (by show 5 ≤ sizeLine; decide), fun t n => ?_⟩
        have ne : t ≠ D := fun z => by
          have := lw.gh _ _ h1
          rw [← z, n] at this
          cases this
        rw [List.length_map]
        refine k _ t D (.begin ⟨0, 0, 0, _, cells, upd_same, ?_, by decide, by decide, by decide, by decide, ?_, ?_, ba⟩ ne)
        · rw [upd_ne (Ne.symm ne)]
          exact lw.gh _ _ h1
        · omega
        · have : (cells.length : Int) ≤ 63 := by omega
          omega
theorem sc_draw : FnScope ["pool", "many", "turn", "place", "mixed", "digit"] ["pool", "many"] (defScope s_draw) := ⟨rfl, rfl, rfl, by decide +kernel, rfl, by decide +kernel, by decide +kernel⟩
def sp_draw : Sp := PoolSp 1 (fun ws _ => ∃ m : Int, ws = [.int m] ∧ 0 < m ∧ m < 2 ^ 200) (fun ws _ _ v => ∃ m d : Int, ws = [.int m] ∧ v = .int d ∧ 0 ≤ d ∧ d < m)
theorem ok_draw (T : Tx K mg) : FnOk P w K mg base CX0 2 T.draw.f T.draw.fd ["pool", "many"] sp_draw := by
  refine T.draw.F.ok sc_draw (fun vs H Q E h => ?_) (fun cdv A outer s H vs Q E hr h => ?_)
  · obtain ⟨G, a, c, n, ws, rfl, _, _, ⟨m, rfl, _⟩, _⟩ := h
    rfl
  · obtain ⟨G, a, c, n, ws, rfl, lw, hn, ⟨m, rfl, m0, m1⟩, k⟩ := h
    refine ⟨_, (pss_cons (ps_for PassesOwn.never rfl (pi_range1 rfl T.z_range (pa_cons pe_int pa_nil)) (pg_name (i := 2) sc_draw.nd rfl (.inl rfl)) (pss_cons (ps_if (PW.pt (pw_and (pt_cmpR op_gt (pe_ix (UfK.ix_listK (K := K)) (pv 0) pe_int (fun _ _ => rfl)) pe_int (nomark _)) (pw_and1 (pt_cmpR op_lt (pe_ix (UfK.ix_listK (K := K)) (pv 0) pe_int (fun _ _ => rfl)) pe_int (nomark _))))) (pss_one ps_break) pss_nil)
      (pss_cons (ps_set (i := 3) sc_draw.nd rfl (.inl rfl) (pe_ix (UfK.ix_listK (K := K)) (pv 0) pe_int (fun _ _ => rfl)))
      (pss_cons (ps_asg (pe_op op_add (pv 3) pe_int) (pg_sub (pv 0) pe_int set_list))
      (pss_cons (ps_asg pe_int (pg_sub (pv 0) pe_int set_list))
      (pss_one (ps_if (pt_cmpR op_lt (pv 3) (pe_callB (UfK.call_lenK (K := K)) (by rfl) T.z_len (by decide +kernel) (pa_cons (pe_ix (UfK.ix_listK (K := K)) (pv 0) pe_int (fun _ _ => rfl)) pa_nil)) (nomark _)) (pss_one (ps_asg (pe_ix (UfK.ix_listK (K := K)) (pe_ix (UfK.ix_listK (K := K)) (pv 0) pe_int (fun _ _ => rfl)) (pv 3) (fun _ _ => rfl)) (pg_sub (pv 0) pe_int set_list))) (pss_cons (ps_set (i := 4) sc_draw.nd rfl (.inl rfl) (pe_op op_modN (pe_callTy call_int1 (by rfl) T.z_int (by decide +kernel) (pa_cons (pe_op op_add (pe_op op_add (pe_op op_mulW (pe_ix (UfK.ix_listK (K := K)) (pv 0) pe_int (fun _ _ => rfl)) pe_int) (pe_op op_mulW (pv 3) pe_int)) pe_int) pa_nil)) pe_int))
      (pss_one (ps_asg (pe_op op_add (pe_op op_modN (pe_callTy call_int1 (by rfl) T.z_int (by decide +kernel) (pa_cons (pe_op op_pow (pe_op op_add (pv 4) (pe_op op_pow pe_int pe_int)) pe_int) pa_nil)) (pe_op op_add (pe_op op_pow pe_int pe_int) pe_int)) pe_int) (pg_sub (pv 0) pe_int set_list)))))))))))
      (pss_cons (ps_set (i := 5) sc_draw.nd rfl (.inl rfl) (pe_op op_modN (pe_callTy call_int1 (by rfl) T.z_int (by decide +kernel) (pa_cons (pe_ix (UfK.ix_listK (K := K)) (pv 0) pe_int (fun _ _ => rfl)) pa_nil)) (pv 1)))
      (pss_cons (ps_asg (pe_op op_fdivW (pe_ix (UfK.ix_listK (K := K)) (pv 0) pe_int (fun _ _ => rfl)) (pv 1)) (pg_sub (pv 0) pe_int set_list))
      (pss_cons (ps_asg (pe_op op_add (pe_ix (UfK.ix_listK (K := K)) (pv 0) pe_int (fun _ _ => rfl)) pe_int) (pg_sub (pv 0) pe_int set_list))
      (pss_one (ps_ret (pv 5))))))), ?_⟩
    have h0 : ∃ (x y q M : Int), H a = some (.lst [.int x, .int y, .ref c, .int q, .int M]) ∧ 0 ≤ x ∧ x < 2 ^ 200 ∧ 0 ≤ q ∧ q ≤ 70 * (n : Int) ∧ 0 ≤ M ∧ M < 2 ^ 200 := by
      obtain ⟨⟨x, y, q, M, cells, h1, h2, h3, h4, h5, h6, h7, h8, h9⟩, _⟩ := lw.pool (a, c, n) rfl
      exact ⟨x, y, q, M, h1, h3, h4, h5, h6, h7, h8⟩
    obtain ⟨x, y, q, M, ha, b0, b1, b2, b3, b4, b5⟩ := h0
    refine ⟨70, rfl, by decide, by decide, for_rangeB (lo := 0) (n := (70 : Int).toNat)
      (fun i σ H' => ∃ (z2 z3 z4 : Option V) (x y q M : Int), σ = [some (.ref a), some (.int m), z2, z3, z4, none] ∧ Lw H G (some (a, c, n + 1)) [] G H' ∧ H' a = some (.lst [.int x, .int y, .ref c, .int q, .int M]) ∧
        0 ≤ x ∧ x < 2 ^ 200 ∧ 0 ≤ q ∧ q ≤ 70 * (n : Int) + i ∧ 0 ≤ M ∧ M < 2 ^ 200)
      (fun σ H' => ∃ (z2 z3 z4 : Option V) (x y q M : Int), σ = [some (.ref a), some (.int m), z2, z3, z4, none] ∧ Lw H G (some (a, c, n + 1)) [] G H' ∧ H' a = some (.lst [.int x, .int y, .ref c, .int q, .int M]) ∧
        0 ≤ x ∧ x < 2 ^ 200 ∧ 0 ≤ q ∧ q ≤ 70 * ((n + 1 : Nat) : Int) ∧ 0 ≤ M ∧ M < 2 ^ 200)
      (fun σ H' hp => ?_) ⟨none, none, none, x, y, q, M, rfl, lw.more (Nat.le_succ n), ha, b0, b1, b2, by omega, b4, b5⟩ (fun hk i σ H' hi hp => ?_) (fun σ H' hp => ?_)⟩
    · obtain ⟨z2, z3, z4, x, y, q, M, rfl, lw, ha, b0, b1, b2, b3, b4, b5⟩ := hp
      -- digit = int(pool[0]) % many
      refine ⟨_, rfl, a, _, 0, _, rfl, rfl, L2.SqL.of ha, rfl, Or.inl ⟨x, rfl, _, rfl, _, _, rfl, rfl, (show m ≠ 0 by omega), ?_⟩⟩
      -- pool[0] = pool[0] // many
      refine ⟨_, rfl, a, _, 0, _, rfl, rfl, L2.SqL.of ha, rfl, _, rfl, _, _, rfl, rfl, divW_of ⟨m0, Int.lt_trans m1 (by decide)⟩, _, rfl, a, _, 0, 0, rfl, rfl, ha, rfl, ?_⟩
      have q0 : 0 ≤ x / m := Int.ediv_nonneg b0 (by omega)
      have q1 : x / m ≤ x := Int.ediv_le_self _ b0
      have lw := lw.turn (n' := n + 1) (x := x / m) (y := y) q0 (by omega) b2 b3 b4 b5
      have ha : upd H' a (.lst [.int (x / m), .int y, .ref c, .int q, .int M]) a = _ := upd_same
      -- pool[1] = pool[1] + 1
      refine ⟨_, rfl, a, _, 1, _, rfl, rfl, L2.SqL.of ha, rfl, _, _, rfl, rfl, _, rfl, a, _, 1, 1, rfl, rfl, ha, rfl, ?_⟩
      have lw := lw.turn (n' := n + 1) (x := x / m) (y := y + 1) q0 (by omega) b2 b3 b4 b5
      have bd := fmod_bd (i := x) m0
      exact ⟨_, rfl, k _ _ _ lw ⟨m, _, rfl, rfl, bd.1, bd.2⟩⟩
    · obtain ⟨z2, z3, z4, x, y, q, M, rfl, lw, ha, b0, b1, b2, b3, b4, b5⟩ := hp
      have hi : i < 70 := hi
      -- if pool[0] > 0 and pool[1] < 60: break
      refine ⟨_, rfl, a, _, 0, _, rfl, rfl, L2.SqL.of ha, rfl, _, _, rfl, rfl, _, rfl, and2 (fun h1 rest => ⟨_, rfl, a, _, 1, _, rfl, rfl, L2.SqL.of ha, rfl, _, _, rfl, rfl, _, rfl, ite2 (fun h2 => ?_) (fun _ => rest)⟩) ?_⟩
      · exact hk _ _ ⟨some (.int (0 + (i : Int))), z3, z4, x, y, q, M, rfl, lw, ha, b0, b1, b2, by omega, b4, b5⟩
      obtain ⟨qn, rfl⟩ := Int.eq_ofNat_of_zero_le b2
      -- place = pool[3]; pool[3] = place + 1; pool[1] = 0
      refine ⟨_, rfl, a, _, 3, _, rfl, rfl, L2.SqL.of ha, rfl, ?_⟩
      refine ⟨_, rfl, _, _, rfl, rfl, _, rfl, a, _, 3, 3, rfl, rfl, ha, rfl, ?_⟩
      have lw := lw.turn (n' := n + 1) (x := x) (y := y) (k := (qn : Int) + 1) (m := M) b0 b1 (by omega) (by omega) b4 b5
      have ha : upd H' a (.lst [.int x, .int y, .ref c, .int ((qn : Int) + 1), .int M]) a = _ := upd_same
      refine ⟨_, rfl, a, _, 1, 1, rfl, rfl, ha, rfl, ?_⟩
      have lw := lw.turn (n' := n + 1) (x := x) (y := 0) (k := (qn : Int) + 1) (m := M) b0 b1 (by omega) (by omega) b4 b5
      have ha : upd (upd H' a (.lst [.int x, .int y, .ref c, .int ((qn : Int) + 1), .int M])) a (.lst [.int x, .int 0, .ref c, .int ((qn : Int) + 1), .int M]) a = _ := upd_same
      obtain ⟨⟨_, _, _, _, cells, _, hc, _, _, _, _, _, _, cb⟩, _⟩ := lw.pool (a, c, n + 1) rfl
      -- if place < len(pool[2])
      refine ⟨_, rfl, _, rfl, a, _, 2, _, rfl, rfl, L2.SqL.of ha, rfl, c, _, rfl, Or.inl (L2.SqL.of hc), _, _, rfl, rfl, _, rfl, ite2 (fun h3 => ?_) (fun h3 => ?_)⟩
      · rw [List.length_map] at h3
        have h3 : qn < cells.length := by
          simp at h3
          omega
        have hq : (cells.map V.int)[qn]? = some (.int cells[qn]) := by rw [List.getElem?_map, List.getElem?_eq_getElem h3]; rfl
        have bq := cb cells[qn] (List.getElem_mem h3)
        refine ⟨_, rfl, a, _, 2, _, rfl, rfl, L2.SqL.of ha, rfl, _, rfl, c, _, (qn : Int), _, rfl, rfl, L2.SqL.of hc, atI_nat hq, _, rfl, a, _, 0, 0, rfl, rfl, ha, rfl, ?_⟩
        have lw := lw.turn (n' := n + 1) (x := cells[qn]) (y := 0) (k := (qn : Int) + 1) (m := M) bq.1 bq.2 (by omega) (by omega) b4 b5
        exact ⟨some _, some _, z4, _, _, _, _, rfl, lw, upd_same, bq.1, bq.2, by omega, by omega, b4, b5⟩
      · refine ⟨_, rfl, a, _, 4, _, rfl, rfl, L2.SqL.of ha, rfl, _, _, rfl, rfl, mulW_of ⟨b4, by omega⟩ ⟨by decide, by decide⟩, _, rfl, _, _, rfl, rfl, mulW_of ⟨by omega, by omega⟩ ⟨by decide, by decide⟩, _, _, rfl, rfl, _, _, rfl, rfl,
          Or.inl ⟨_, rfl, _, _, rfl, rfl, (show (2147483647 : Int) ≠ 0 by decide), ?_⟩⟩
        have bm := fmod_bd (i := M * 48271 + (qn : Int) * 69621 + 105) (j := 2147483647) (by decide)
        have two : ((2 : Int) ^ (40 : Int).toNat) = 1099511627776 := by decide
        refine ⟨_, rfl, _, _, rfl, rfl, pow_small (by decide) (by decide), _, _, rfl, rfl, _, _, rfl, rfl, pow_small (by decide) ⟨by rw [two]; omega, by rw [two]; omega⟩, Or.inl ⟨_, rfl, _, _, rfl, rfl, pow_small (by decide) (by decide), _, _, rfl, rfl, _, _, rfl, rfl,
          (show (10 : Int) ^ (60 : Int).toNat + 7 ≠ 0 by decide), _, _, rfl, rfl, _, rfl, a, _, 0, 0, rfl, rfl, ha, rfl, ?_⟩⟩
        have bx := fmod60 (((M * 48271 + (qn : Int) * 69621 + 105).fmod 2147483647 + (2 : Int) ^ (40 : Int).toNat) ^ (9 : Int).toNat)
        have lw := lw.turn (n' := n + 1) (x := (((M * 48271 + (qn : Int) * 69621 + 105).fmod 2147483647 + (2 : Int) ^ (40 : Int).toNat) ^ (9 : Int).toNat).fmod ((10 : Int) ^ (60 : Int).toNat + 7) + 1) (y := 0) (k := (qn : Int) + 1) (m := M) (by omega) (by omega) (by omega) (by omega) b4 b5
        exact ⟨some _, some _, some _, _, _, _, _, rfl, lw, upd_same, by omega, by omega, by omega, by omega, b4, b5⟩
    · obtain ⟨z2, z3, z4, x, y, q, M, rfl, lw, ha, b0, b1, b2, b3, b4, b5⟩ := hp
      have b3 : q ≤ 70 * (n : Int) + ((70 : Nat) : Int) := b3
      exact ⟨z2, z3, z4, x, y, q, M, rfl, lw, ha, b0, b1, b2, by omega, b4, b5⟩
theorem call_draw {H0 G0 G H : Hp} {ls : List (Addr × HO)} {a c : Addr} {n : Nat} {m : Int} {Q : VK} (lw : Lw H0 G0 (some (a, c, n)) ls G H) (m0 : 0 < m) (m1 : m < 2 ^ 200) (hn : n + 1 ≤ 1000000)
    (k : ∀ G' H' d, Ex G G' → Lw H0 G0 (some (a, c, n + 1)) ls G' H' → 0 ≤ d → d < m → Q (.int d) H') : sp_draw [.ref a, .int m] H Q E0 :=
  call_pool lw hn ⟨m, rfl, m0, m1⟩ fun G' H' v e l hv => by
    obtain ⟨m', d, hm, rfl, b0, b1⟩ := hv
    cases hm
    exact k G' H' d e l b0 b1
end
end K93

namespace K93
open PySem PySem.Spec PyProof.Rows L2 UfG UfT UfI
open Evl (Ex)
section
variable {P : Program} {w : World} {K : PySem.W.Frag} {mg : Str → Option Value} {base : Heap}
/-! ### _law_int, _law_held -/
theorem sc_int_ : FnScope ["told"] ["told"] (defScope s_int_) := ⟨rfl, rfl, rfl, by decide +kernel, rfl, by decide +kernel, by decide +kernel⟩
def sp_int : Sp := fun vs H Q _ => ∃ i : Int, vs = [.int i] ∧ Q (.bl true) H
theorem ok_int (T : Tx K mg) : FnOk P w K mg base CX0 1 T.int_.f T.int_.fd ["told"] sp_int := by
  refine T.int_.F.ok sc_int_ (fun vs H Q E h => ?_) (fun cdv A outer s H vs Q E hr h => ?_)
  · obtain ⟨i, rfl, _⟩ := h
    rfl
  · obtain ⟨i, rfl, k⟩ := h
    refine ⟨_, (pss_one (ps_ret (pe_and (pe_callB (UfK.call_isiK' (K := K)) (by rfl) T.z_isinstance (by decide +kernel) (pa_cons (pv 0) (pa_cons (pe_bltn (by rfl) T.z_int (by decide +kernel) (show RelV (.ty "int") _ from rfl)) pa_nil))) (pe_one (pe_not (pe_callB (UfK.call_isiK' (K := K)) (by rfl) T.z_isinstance (by decide +kernel) (pa_cons (pv 0) (pa_cons (pe_bltn (by rfl) T.z_bool (by decide +kernel) (show RelV (.ty "bool") _ from rfl)) pa_nil)))))))), ?_⟩
    exact ⟨_, rfl, .int i, .ty "int", .type "int", .type "int", true, rfl, .ty _, .base (.int i), kit_ty rfl, _, rfl, iteT ⟨_, rfl, .int i, .ty "bool", .type "int", .type "bool", false, rfl, .ty _, .base (.int i), kit_ty rfl, _, rfl, k⟩⟩
theorem ok_intH (T : Tx K mg) : UfH.FnE P w K mg base 1 T.int_.f T.int_.fd ["told"] (fun _ => sp_int) := by
  refine UfH.fun_okE T.int_.F sc_int_ (fun p vs H Q E h => ?_) (fun cdv A outer s H vs Q E p hot hr h => ?_)
  · obtain ⟨i, rfl, _⟩ := h
    rfl
  · obtain ⟨i, rfl, k⟩ := h
    refine ⟨_, (pss_one (ps_ret (pe_and (pe_callB (UfK.call_isiK' (K := K)) (by rfl) T.z_isinstance (by decide +kernel) (pa_cons (pv 0) (pa_cons (pe_bltn (by rfl) T.z_int (by decide +kernel) (show RelV (.ty "int") _ from rfl)) pa_nil))) (pe_one (pe_not (pe_callB (UfK.call_isiK' (K := K)) (by rfl) T.z_isinstance (by decide +kernel) (pa_cons (pv 0) (pa_cons (pe_bltn (by rfl) T.z_bool (by decide +kernel) (show RelV (.ty "bool") _ from rfl)) pa_nil)))))))), ?_⟩
    exact ⟨_, rfl, .int i, .ty "int", .type "int", .type "int", true, rfl, .ty _, .base (.int i), kit_ty rfl, _, rfl, iteT ⟨_, rfl, .int i, .ty "bool", .type "int", .type "bool", false, rfl, .ty _, .base (.int i), kit_ty rfl, _, rfl, k⟩⟩
theorem sc_held : FnScope ["name", "number"] ["name", "number"] (defScope s_held) := ⟨rfl, rfl, rfl, by decide +kernel, rfl, by decide +kernel, by decide +kernel⟩
def sp_held : Sp := fun vs H Q _ => ∃ (x : Str) (i : Int), vs = [.str x, .int i] ∧ ∀ t, H t = none → Q (.ref t) (upd H t (.tup [.str x, .int i]))
theorem ok_heldH (T : Tx K mg) : UfH.FnE P w K mg base 2 T.held.f T.held.fd ["name", "number"] (fun _ => sp_held) := by
  refine UfH.fun_okE T.held.F sc_held (fun p vs H Q E h => ?_) (fun cdv A outer s H vs Q E p hot hr h => ?_)
  · obtain ⟨x, i, rfl, _⟩ := h
    rfl
  · obtain ⟨x, i, rfl, k⟩ := h
    have xp : p ∈ (UfH.cxE P w K mg base ["name", "number"] (Str.ofString "_law_held") (defScope s_held) T.held.f cdv A outer s H E p).pn := List.mem_singleton_self p
    refine ⟨_, (pss_one (ps_ret (pe_ifExp (pt_val (UfH.pe_callE (ok_intH T) (hr.mono (by decide)) p hot xp rfl T.int_.g T.int_.F.kp T.int_.b (pa_cons (pv 1) pa_nil))) (pe_tup (pa_cons (pv 0) (pa_cons (pv 1) pa_nil))) (pe_tup (pa_cons pe_str (pa_cons (pv 0) pa_nil)))))), ?_⟩
    exact ⟨_, rfl, i, rfl, true, rfl, iteT ⟨_, rfl, _, rfl, (by show 2 ≤ sizeLine; decide), fun t n => k t n⟩⟩

/-! ### _law_error -/
def _root_.K93.Er.b1 : Er → Bool
  | .count _ => true
  | _ => false
def _root_.K93.Er.b2 : Er → Bool
  | .expo _ => true
  | _ => false
def _root_.K93.Er.b4 : Er → Bool
  | .large _ => true
  | _ => false
def errD : Er → PyData
  | .count n => .tuple [.str "BadCount", .int n]
  | .expo n => .tuple [.str "BadExponent", .int n]
  | .large n => .tuple [.str "TooLarge", .int n]
theorem sc_error : FnScope ["e", "kinds", "kind"] ["e"] (defScope s_error) := ⟨rfl, rfl, rfl, by decide +kernel, rfl, by decide +kernel, by decide +kernel⟩
def sp_error (T : Tx K mg) (p : Addr × Obj) : Sp := fun vs H Q _ => ∃ (G : Hp) (D d : Addr) (er : Er), Lw H G none [] G H ∧ vs = [.ref p.1] ∧ UfH.Exc1 p D d ∧ ErAt T er G D d ∧ ∀ G' H' v, Lw H G none [] G' H' → Rp G' v (errD er) → Q v H'
theorem ok_error (T : Tx K mg) : UfH.FnE P w K mg base 3 T.error.f T.error.fd ["e"] (sp_error T) := by
  refine UfH.fun_okE T.error.F sc_error (fun p vs H Q E h => ?_) (fun cdv A outer s H vs Q E p hot hr h => ?_)
  · obtain ⟨G, D, d, er, _, rfl, _⟩ := h
    rfl
  · obtain ⟨G, D, d, er, lw, rfl, xz, hE, k⟩ := h
    have xp : p ∈ (UfH.cxE P w K mg base ["e", "kinds", "kind"] (Str.ofString "_law_error") (defScope s_error) T.error.f cdv A outer s H E p).pn := List.mem_singleton_self p
    have hD : D ∈ [T.cCount.C, T.cExpo.C, T.cLarge.C] := by
      cases er with
      | count n => rw [hE.1]; simp
      | expo n => rw [hE.1]; simp
      | large n => rw [hE.1]; simp
    have no_count := T.fld D hD "count" (by simp)
    have no_exponent := T.fld D hD "exponent" (by simp)
    have no_size := T.fld D hD "size" (by simp)
    have xk : UfH.ExKnow K D := by
      cases er with
      | count n => rw [hE.1]; exact T.cCount.kn
      | expo n => rw [hE.1]; exact T.cExpo.kn
      | large n => rw [hE.1]; exact T.cLarge.kn
    have kit : Kits K D [(.ref T.cCount.C, er.b1), (.ref T.cExpo.C, er.b2), (.ref T.cSizes.C, false), (.ref T.cLarge.C, er.b4), (.type "ValueError", true)] := by
      cases er with
      | count n => rw [hE.1]; exact T.kCount
      | expo n => rw [hE.1]; exact T.kExpo
      | large n => rw [hE.1]; exact T.kLarge
    obtain ⟨fs, hd⟩ : ∃ fs, G d = some (.xd fs) := by
      cases er with
      | count n => exact ⟨_, hE.2⟩
      | expo n => exact ⟨_, hE.2⟩
      | large n => exact ⟨_, hE.2⟩
    have Hd := lw.gh _ _ hd
    refine ⟨_, (pss_cons (ps_set (i := 1) sc_error.nd rfl (.inl rfl) (pe_lst (pa_cons (pe_callB (UfH.call_isP xk xz xp) (by rfl) T.z_isinstance (by decide +kernel) (pa_cons (pv 0) (pa_cons (pe_glob (v := .ref T.cCount.C) rfl T.cCount.g rfl) pa_nil))) (pa_cons (pe_callB (UfH.call_isP xk xz xp) (by rfl) T.z_isinstance (by decide +kernel) (pa_cons (pv 0) (pa_cons (pe_glob (v := .ref T.cExpo.C) rfl T.cExpo.g rfl) pa_nil))) (pa_cons (pe_callB (UfH.call_isP xk xz xp) (by rfl) T.z_isinstance (by decide +kernel) (pa_cons (pv 0) (pa_cons (pe_glob (v := .ref T.cSizes.C) rfl T.cSizes.g rfl) pa_nil))) (pa_cons (pe_callB (UfH.call_isP xk xz xp) (by rfl) T.z_isinstance (by decide +kernel) (pa_cons (pv 0) (pa_cons (pe_glob (v := .ref T.cLarge.C) rfl T.cLarge.g rfl) pa_nil))) pa_nil))))))
      (pss_cons (ps_if (PW.pt (pw_or (pt_not (pt_val (pe_callB (UfH.call_isP xk xz xp) (by rfl) T.z_isinstance (by decide +kernel) (pa_cons (pv 0) (pa_cons (pe_bltn (by rfl) T.z_ValueError (by decide +kernel) (show RelV (.ty "ValueError") _ from rfl)) pa_nil))))) (pw_or1 (pt_cmpR op_ne (pe_callB (UfH.cr_sumH ⟨p, hot, xp⟩) (by rfl) T.z_sum (by decide +kernel) (pa_cons (UfH.pe_lcH (own := [("kind", 2)]) ⟨p, hot, xp⟩ sc_error.nd (pv 1) (blkOk_by (own := [("kind", 2)]) (N := ["e", "kinds", "kind"]) (sc := defScope s_error) (by decide +kernel)) (fun _ _ _ _ _ => by exact pg_name (i := 2) sc_error.nd rfl (.inl rfl)) (fun _ _ _ _ _ => (pe_callTy call_int1 (by rfl) T.z_int (by decide +kernel) (pa_cons (pv 2) pa_nil)))) pa_nil)) pe_int (nomark _))))) (pss_one (ps_ret (pe_tup (pa_cons pe_str (pa_cons pe_str pa_nil))))) pss_nil)
      (pss_cons (ps_if (pt_val (pe_callB (UfH.call_isP xk xz xp) (by rfl) T.z_isinstance (by decide +kernel) (pa_cons (pv 0) (pa_cons (pe_glob (v := .ref T.cCount.C) rfl T.cCount.g rfl) pa_nil)))) (pss_one (ps_ret (UfH.pe_callE (ok_heldH T) (hr.mono (by decide)) p hot xp rfl T.held.g T.held.F.kp T.held.b (pa_cons pe_str (pa_cons (UfH.pe_fldP xk xz xp no_count (pv 0)) pa_nil))))) pss_nil)
      (pss_cons (ps_if (pt_val (pe_callB (UfH.call_isP xk xz xp) (by rfl) T.z_isinstance (by decide +kernel) (pa_cons (pv 0) (pa_cons (pe_glob (v := .ref T.cExpo.C) rfl T.cExpo.g rfl) pa_nil)))) (pss_one (ps_ret (UfH.pe_callE (ok_heldH T) (hr.mono (by decide)) p hot xp rfl T.held.g T.held.F.kp T.held.b (pa_cons pe_str (pa_cons (UfH.pe_fldP xk xz xp no_exponent (pv 0)) pa_nil))))) pss_nil)
      (pss_cons (ps_if (pt_val (pe_callB (UfH.call_isP xk xz xp) (by rfl) T.z_isinstance (by decide +kernel) (pa_cons (pv 0) (pa_cons (pe_glob (v := .ref T.cLarge.C) rfl T.cLarge.g rfl) pa_nil)))) (pss_one (ps_ret (UfH.pe_callE (ok_heldH T) (hr.mono (by decide)) p hot xp rfl T.held.g T.held.F.kp T.held.b (pa_cons pe_str (pa_cons (UfH.pe_fldP xk xz xp no_size (pv 0)) pa_nil))))) pss_nil)
      (pss_one (ps_ret (pe_tup (pa_cons pe_str (pa_cons pe_str pa_nil)))))))))), ?_⟩
    -- kinds = [..]
    refine ⟨_, rfl, .ref T.cCount.C, _, er.b1, fs, rfl, fun _ h => h, Hd, kit.k0, _, rfl, .ref T.cExpo.C, _, er.b2, fs, rfl, fun _ h => h, Hd, kit.tl.k0, _, rfl, .ref T.cSizes.C, _, false, fs, rfl, fun _ h => h, Hd, kit.tl.tl.k0,
      _, rfl, .ref T.cLarge.C, _, er.b4, fs, rfl, fun _ h => h, Hd, kit.tl.tl.tl.k0, (by show 4 ≤ sizeLine; decide), fun t n => ?_⟩
    obtain ⟨bs, hbs⟩ : ∃ bs, bs = [er.b1, er.b2, false, er.b4] := ⟨_, rfl⟩
    obtain ⟨G1, e1, lw, ht⟩ := lw.allocE (o := .lst (bs.map V.bl)) n
    have Hd := lw.gh _ _ (e1 _ _ hd)
    rw [show [V.bl er.b1, V.bl er.b2, V.bl false, V.bl er.b4] = bs.map V.bl by rw [hbs]; rfl]
    -- if not isinstance(e, ValueError) or sum([int(kind) for kind in kinds]) != 1
    refine ⟨_, rfl, .ty "ValueError", _, true, fs, rfl, fun _ h => h, Hd, kit.tl.tl.tl.tl.k0, true, rfl, iteF ⟨_, rfl, t, _, rfl, SqL.g lw ht, fun D2 hD2 => ?_⟩⟩
    refine ⟨fun j H2 => Lw H G none [(D2, .lst (((bs.take j).map fun b => if b = true then (1 : Int) else 0).map V.int))] G1 H2, lw.make hD2, fun i H2 _ l => SqL.g l ht, fun i x H2 hx l => ?_, fun H2 l => ?_⟩
    · obtain ⟨b, hb, rfl⟩ : ∃ b, bs[i]? = some b ∧ x = .bl b := by
        rw [List.getElem?_map] at hx
        cases e : bs[i]? with
        | none =>
          rw [e] at hx
          cases hx
        | some b =>
          rw [e] at hx
          exact ⟨b, rfl, (Option.some.inj hx).symm⟩
      refine ⟨rfl, _, rfl, Or.inr ⟨b, rfl, _, l.at, Evl.sz_lt (by rw [List.length_map, List.length_map, List.length_take, hbs]; show min i 4 < 100000; omega), ?_⟩⟩
      show Lw H G none [(D2, .lst (((bs.take (i + 1)).map fun b => if b = true then (1 : Int) else 0).map V.int))] G1 _
      rw [List.take_add_one, hb]
      have l2 := l.put (o' := .lst (((bs.take i).map fun b => if b = true then (1 : Int) else 0).map V.int ++ [V.int (if b = true then 1 else 0)]))
      rw [show (List.map V.int (List.map (fun b => if b = true then (1 : Int) else 0) (List.take i bs ++ (some b).toList))) = ((bs.take i).map fun b => if b = true then (1 : Int) else 0).map V.int ++ [V.int (if b = true then 1 else 0)] by
        rw [List.map_append, List.map_append]; rfl]
      exact l2
    · have l : Lw H G none [(D2, .lst (((bs.take (bs.map V.bl).length).map fun b => if b = true then (1 : Int) else 0).map V.int))] G1 H2 := l
      obtain ⟨lw, e2⟩ := l.keep
      rw [List.length_map, List.take_length] at lw e2
      obtain ⟨G2, hG2⟩ : ∃ G2, G2 = upd G1 D2 (.lst ((bs.map fun b => if b = true then (1 : Int) else 0).map V.int)) := ⟨_, rfl⟩
      rw [← hG2] at lw e2
      have h2 : G2 D2 = some (.lst ((bs.map fun b => if b = true then (1 : Int) else 0).map V.int)) := by rw [hG2]; exact upd_same
      have Hd := lw.gh _ _ (e2 _ _ (e1 _ _ hd))
      have hone : (bs.map fun b => if b = true then (1 : Int) else 0).sum = 1 := by
        rw [hbs]
        cases er <;> rfl
      refine ⟨D2, _, rfl, SqL.g lw h2, (fun n hn => ?_), (by rw [List.length_map, hbs]; show 4 ≤ 1000; decide), ?_⟩
      · obtain ⟨b, _, rfl⟩ := List.mem_map.mp hn
        cases b <;> decide
      rw [hone]
      refine ⟨rfl, _, rfl, iteNS rfl ?_⟩
      cases er with
      | count m =>
        have Hm := lw.gh _ _ (e2 _ _ (e1 _ _ hE.2))
        refine ⟨_, rfl, .ref T.cCount.C, _, true, fs, rfl, fun _ h => h, Hd, kit.k0, true, rfl, iteT ⟨_, rfl, rfl, _, .int m, Hm, rfl, "BadCount", m, rfl, fun t n => ?_⟩⟩
        obtain ⟨G3, e3, lw, h3⟩ := lw.allocE (o := .tup [.str "BadCount", .int m]) n
        exact k _ _ _ lw (.tup h3 (.cons (.str _) (.cons (.int _) .nil)))
      | expo m =>
        have Hm := lw.gh _ _ (e2 _ _ (e1 _ _ hE.2))
        refine ⟨_, rfl, .ref T.cCount.C, _, false, fs, rfl, fun _ h => h, Hd, kit.k0, false, rfl, iteF ⟨_, rfl, .ref T.cExpo.C, _, true, fs, rfl, fun _ h => h, Hd, kit.tl.k0, true, rfl, iteT ⟨_, rfl, rfl, _, .int m, Hm, rfl, "BadExponent", m, rfl, fun t n => ?_⟩⟩⟩
        obtain ⟨G3, e3, lw, h3⟩ := lw.allocE (o := .tup [.str "BadExponent", .int m]) n
        exact k _ _ _ lw (.tup h3 (.cons (.str _) (.cons (.int _) .nil)))
      | large m =>
        have Hm := lw.gh _ _ (e2 _ _ (e1 _ _ hE.2))
        refine ⟨_, rfl, .ref T.cCount.C, _, false, fs, rfl, fun _ h => h, Hd, kit.k0, false, rfl, iteF ⟨_, rfl, .ref T.cExpo.C, _, false, fs, rfl, fun _ h => h, Hd, kit.tl.k0, false, rfl, iteF
          ⟨_, rfl, .ref T.cLarge.C, _, true, fs, rfl, fun _ h => h, Hd, kit.tl.tl.tl.k0, true, rfl, iteT ⟨_, rfl, rfl, _, .int m, Hm, rfl, "TooLarge", m, rfl, fun t n => ?_⟩⟩⟩⟩
        obtain ⟨G3, e3, lw, h3⟩ := lw.allocE (o := .tup [.str "TooLarge", .int m]) n
        exact k _ _ _ lw (.tup h3 (.cons (.str _) (.cons (.int _) .nil)))
end
end K93

namespace K93
open PySem PySem.Spec PyProof.Rows L2 UfG UfT UfI
open Evl (Ex)
section
variable {P : Program} {w : World} {K : PySem.W.Frag} {mg : Str → Option Value} {base : Heap}
/-! ### _law_ask -/
/-- the three questions: monomials, their number, the place of one -/
inductive Ask where
  | mono (l d : Int) | cnt (l d : Int) | plc (ns : List Int)
def Ask.args (G : Hp) : Ask → List V → Prop
  | .mono l d, vs => vs = [.int 0, .int l, .int d]
  | .cnt l d, vs => vs = [.int 1, .int l, .int d]
  | .plc ns, vs => ∃ t, vs = [.int 2, .ref t, .int 0] ∧ G t = some (.tup (ns.map V.int))
def Ask.err : Ask → Option Er
  | .mono l d => monoE l d
  | .cnt l d => countE l d
  | .plc ns => placeE ns
/-- what is told where no error is raised -/
def Ask.val (G G' : Hp) : Ask → V → Prop
  | .mono l d, v => NewTups G G' v (monoL l.toNat d)
  | .cnt l d, v => v = .int (countV l d)
  | .plc ns, v => v = .int (placeR ns ns.sum)
def Ask.ans (q : Ask) (G G' : Hp) (v : V) : Prop := match q.err with
  | some e => Rp G' v (errD e)
  | none => ∃ t x G1, v = .ref t ∧ G' t = some (.tup [.str "told", x]) ∧ q.val G G1 x ∧ Ex G1 G'
def sp_ask : Sp := fun vs H Q E => ∃ q : Ask, PureSp (fun vs G => q.args G vs) (fun _ G G' v => q.ans G G' v) vs H Q E
def sp_errorS (T : Tx K mg) (a : Addr) (cls : Value) (d : Option Addr) : Sp := fun vs H Q _ => ∃ (G : Hp) (D d' : Addr) (er : Er), Lw H G none [] G H ∧ vs = [.ref a] ∧ cls = .ref D ∧ d = some d' ∧ ErAt T er G D d' ∧ ∀ G' H' v, Lw H G none [] G' H' → Rp G' v (errD er) → Q v H'
theorem suiteI {T : Tx K mg} {a : Addr} {oe : Obj} {cls : Value} {d : Option Addr} {vs : List V} {H : Hp} {Q : VK} {E : XK} (hz : L2N.Zn cls d oe) (hf : ∃ vs, oe.data = .fields vs) (h : sp_errorS T a cls d vs H Q E) : sp_error T (a, oe) vs H Q E := by
  obtain ⟨G, D, d', er, lw, e1, rfl, rfl, hE, k⟩ := h
  exact ⟨G, D, d', er, lw, e1, ⟨hz.zc, hf⟩, hE, k⟩
def tSuite (T : Tx K mg) : Addr → Value → Option Addr → TS := fun a cls d => tRet (UfH.tCallE (sp_errorS T a cls d) (tCons (tVar 4) tNil))
theorem sc_ask : FnScope ["mode", "a", "b", "told", "e"] ["mode", "a", "b"] (defScope s_ask) := ⟨rfl, rfl, rfl, by decide +kernel, rfl, by decide +kernel, by decide +kernel⟩
theorem ok_ask (T : Tx K mg) : FnOk P w K mg base CX0 6 T.ask.f T.ask.fd ["mode", "a", "b"] sp_ask := by
  refine T.ask.F.ok sc_ask (fun vs H Q E h => ?_) (fun cdv A outer s H vs Q E hr h => ?_)
  · obtain ⟨q, G, _, ha, _⟩ := h
    cases q with
    | mono l d => cases (show _ = _ from ha); rfl
    | cnt l d => cases (show _ = _ from ha); rfl
    | plc ns => obtain ⟨t, rfl, _⟩ := ha; rfl
  · obtain ⟨q, G, lw, ha, k⟩ := h
    refine ⟨_, (pss_cons (L2N.ps_try_as (i := 4) (ts := tSuite T) (Wout := fun _ _ _ _ => False) rfl rfl sc_ask.nd rfl rfl ⟨rfl, by decide, .inl T.cForms.g⟩ takesN0
    (fun W pn xe tk _ => (pss_one (ps_if (pt_cmpR op_eq (pv 0) pe_int (nomark _)) (pss_one (ps_set (i := 3) sc_ask.nd rfl (.inl rfl) (pe_callS (ok_monomials T) (hr.mono (by decide)) rfl T.monomials.g T.monomials.F.kp T.monomials.b (fun σ => L2N.passAt tk σ) (pa_cons (pv 1) (pa_cons (pv 2) pa_nil))))) (pss_one (ps_if (pt_cmpR op_eq (pv 0) pe_int (nomark _)) (pss_one (ps_set (i := 3) sc_ask.nd rfl (.inl rfl) (pe_callS (ok_monomial_count T) (hr.mono (by decide)) rfl T.monomial_count.g T.monomial_count.F.kp T.monomial_count.b (fun σ => L2N.passAt tk σ) (pa_cons (pv 1) (pa_cons (pv 2) pa_nil))))) (pss_one (ps_set (i := 3) sc_ask.nd rfl (.inl rfl) (pe_callS (ok_monomial_place T) (hr.mono (by decide)) rfl T.monomial_place.g T.monomial_place.F.kp T.monomial_place.b (fun σ => L2N.passAt tk σ) (pa_cons (pv 1) pa_nil)))))))))
    (fun a oe cls d pn hz hf =>  (pss_one (ps_ret (UfH.pe_callEI (ok_error T) ((L2H.roomH_mark hr _).mono (by decide)) (a, oe) (UfT.hotOf hz hf) List.mem_cons_self (fun vs H Q E h => suiteI hz hf h) rfl T.error.g T.error.F.kp T.error.b (pa_cons (pv 4) pa_nil))))))
      (pss_one (ps_ret (pe_tup (pa_cons pe_str (pa_cons (pv 3) pa_nil)))))), ?_⟩
    -- an error that is caught
    have caught : ∀ (er : Er) (G1 H1 : Hp) (D d : Addr) (x y z : V) (a : Addr), q.err = some er → Lw H G none [] G1 H1 → ErAt T er G1 D d → 
      UfH.tCallE (sp_errorS T a (.ref D) (some d)) (tCons (tVar 4) tNil) [some x, some y, some z, none, some (.ref a)] H1 Q := fun er G1 H1 D d x y z a hq lw hE =>
      ⟨_, rfl, G1, D, d, er, lw.enter, rfl, rfl, rfl, hE, fun G2 H2 v l2 r => k _ _ _ (lw.after l2) (by show Ask.ans q G G2 v; unfold Ask.ans; rw [hq]; exact r)⟩
    have hD : ∀ {er : Er} {G1 : Hp} {D d : Addr}, ErAt T er G1 D d → PySem.W.exmOne K (.ref D) (.ref T.cForms.C) = some true := fun {er G1 D d} hE => T.exm D (by
      cases er with
      | count n => rw [hE.1]; simp
      | expo n => rw [hE.1]; simp
      | large n => rw [hE.1]; simp)
    -- what is told
    have told : ∀ (G1 H1 : Hp) (x y z u : V), q.err = none → Ex G G1 → Lw H G none [] G1 H1 → q.val G G1 u →
      tTup (tCons (tC (.str (Str.ofString "told"))) (tCons (tVar 3) tNil)) [some x, some y, some z, some u, none] H1 Q := fun G1 H1 x y z u hq e1 lw hu =>
      ⟨_, rfl, (by show 2 ≤ sizeLine; decide), fun t n => by
        obtain ⟨G2, e2, lw, h2⟩ := lw.allocE (o := .tup [.str "told", u]) n
        refine k _ _ _ lw ?_
        show Ask.ans q G G2 (.ref t)
        unfold Ask.ans
        rw [hq]
        exact ⟨t, u, G1, rfl, h2, hu, e2⟩⟩
    cases q with
    | mono l d =>
      cases (show _ = _ from ha)
      refine ⟨_, rfl, rfl, _, rfl, ite2 (fun _ => ?_) (fun h => (h rfl).elim)⟩
      refine ⟨_, rfl, _, rfl, (l, d), call_raise lw rfl (fun G1 H1 v e1 lw hv => ?_) (fun G1 H1 C q e1 lw hx => ?_)⟩
      · exact told _ _ _ _ _ _ hv.1 e1 lw hv.2
      · obtain ⟨er, he, hE⟩ := hx
        exact ⟨true, hD hE, fun _ a _ => caught er _ _ _ _ _ _ _ a he lw hE, fun z => nomatch z⟩
    | cnt l d =>
      cases (show _ = _ from ha)
      refine ⟨_, rfl, rfl, _, rfl, ite2 (fun h => nomatch h) (fun _ => ?_)⟩
      refine ⟨_, rfl, rfl, _, rfl, ite2 (fun _ => ?_) (fun h => (h rfl).elim)⟩
      refine ⟨_, rfl, _, rfl, (l, d), call_raise lw rfl (fun G1 H1 v e1 lw hv => ?_) (fun G1 H1 C q e1 lw hx => ?_)⟩
      · exact told _ _ _ _ _ _ hv.1 e1 lw hv.2
      · obtain ⟨er, he, hE⟩ := hx
        exact ⟨true, hD hE, fun _ a _ => caught er _ _ _ _ _ _ _ a he lw hE, fun z => nomatch z⟩
    | plc ns =>
      obtain ⟨t, rfl, ht⟩ := ha
      refine ⟨_, rfl, rfl, _, rfl, ite2 (fun h => nomatch h) (fun _ => ?_)⟩
      refine ⟨_, rfl, rfl, _, rfl, ite2 (fun h => nomatch h) (fun _ => ?_)⟩
      refine ⟨_, rfl, ns, call_raise lw ⟨t, rfl, ht⟩ (fun G1 H1 v e1 lw hv => ?_) (fun G1 H1 C q e1 lw hx => ?_)⟩
      · exact told _ _ _ _ _ _ hv.1 e1 lw hv.2
      · obtain ⟨er, he, hE⟩ := hx
        exact ⟨true, hD hE, fun _ a _ => caught er _ _ _ _ _ _ _ a he lw hE, fun z => nomatch z⟩
end
end K93

namespace K93
open PySem PySem.Spec PyProof.Rows L2 UfG UfT UfI
open Evl (Ex)
section
variable {P : Program} {w : World} {K : PySem.W.Frag} {mg : Str → Option Value} {base : Heap}
/-! ### _law_ways -/
def waysD (n : Nat) : List PyData := (List.range n).map fun i => .list ((wrow i).map PyData.int)
theorem waysD_succ (n : Nat) : waysD (n + 1) = waysD n ++ [.list ((wrow n).map PyData.int)] := by
  unfold waysD
  rw [List.range_succ, List.map_append]
  rfl
theorem waysD_at {n i : Nat} (h : i < n) : (waysD n)[i]? = some (.list ((wrow i).map PyData.int)) := by
  unfold waysD
  rw [List.getElem?_map, List.getElem?_range h]
  rfl
theorem sc_ways : FnScope ["rows", "letters", "line", "total", "one", "k"] [] (defScope s_ways) := ⟨rfl, rfl, rfl, by decide +kernel, rfl, by decide +kernel, by decide +kernel⟩
def sp_ways : Sp := PureSp (fun vs _ => vs = []) (fun _ _ G' v => Rp G' v (.list (waysD 13)))
theorem ok_ways (T : Tx K mg) : FnOk P w K mg base CX0 2 T.ways.f T.ways.fd [] sp_ways := by
  refine T.ways.F.ok sc_ways (fun vs H Q E h => ?_) (fun cdv A outer s H vs Q E hr h => ?_)
  · obtain ⟨G, _, rfl, _⟩ := h
    rfl
  · obtain ⟨G, lw, rfl, k⟩ := h
    refine ⟨_, (pss_cons (ps_set (i := 0) sc_ways.nd rfl (.inl rfl) (pe_lst (pa_cons (pe_op op_cat (pe_lst (pa_cons pe_int pa_nil)) (pe_lc (own := [("k", 5)]) rfl sc_ways.nd (pi_range1 rfl T.z_range (pa_cons pe_int pa_nil)) (blkOk_by (own := [("k", 5)]) (N := ["rows", "letters", "line", "total", "one", "k"]) (sc := defScope s_ways) (by decide +kernel)) (fun _ _ _ _ _ => by exact pg_name (i := 5) sc_ways.nd rfl (.inl rfl)) (fun _ _ _ _ _ => pts_nil) (fun _ _ _ _ _ => pe_int))) pa_nil)))
      (pss_cons (ps_for PassesOwn.never rfl (pi_range1 rfl T.z_range (pa_cons pe_int pa_nil)) (pg_name (i := 1) sc_ways.nd rfl (.inl rfl)) (pss_cons (ps_set (i := 2) sc_ways.nd rfl (.inl rfl) (pe_lst pa_nil))
      (pss_cons (ps_set (i := 3) sc_ways.nd rfl (.inl rfl) pe_int)
      (pss_cons (ps_for PassesOwn.never rfl (UfK.pi_listK (K := K) (pe_ix (UfK.ix_listK (K := K)) (pv 0) (pv 1) (fun _ _ => rfl))) (pg_name (i := 4) sc_ways.nd rfl (.inl rfl)) (pss_cons (ps_set (i := 3) sc_ways.nd rfl (.inl rfl) (pe_op op_add (pv 3) (pv 4)))
      (pss_one (ps_expr (pe_bm PySem.F.plainAttrs_list PySem.F.slot_list_append PySem.F.type_list_append mt_append (pv 2) (pa_cons (pv 3) pa_nil))))))
      (pss_one (ps_expr (pe_bm PySem.F.plainAttrs_list PySem.F.slot_list_append PySem.F.type_list_append mt_append (pv 0) (pa_cons (pv 2) pa_nil))))))))
      (pss_one (ps_ret (pv 0))))), ?_⟩
    -- rows = [[1] + [0 for k in range(32)]]
    refine ⟨(by show 1 ≤ sizeLine; decide), fun t0 n0 => ?_⟩
    obtain ⟨G1, e1, lw, h0⟩ := lw.allocE (o := .lst [.int 1]) n0
    refine ⟨32, rfl, by decide, by decide, fun D hD => ?_⟩
    refine it_rng (lo := 0) (n := (32 : Int).toNat) (fun j H2 => Lw H G none [(D, .lst ((List.replicate j (0 : Int)).map V.int))] G1 H2) (lw.make hD) (fun j H2 hj lw => ?_) (fun H2 lw => ?_)
    · have hj : j < 32 := hj
      refine ⟨rfl, _, lw.at, Evl.sz_lt (by rw [List.length_map, List.length_replicate]; omega), ?_⟩
      have l2 := lw.put (o' := .lst ((List.replicate j (0 : Int)).map V.int ++ [V.int 0]))
      show Lw H G none [(D, .lst ((List.replicate (j + 1) (0 : Int)).map V.int))] G1 _
      rw [List.replicate_succ', List.map_append]
      exact l2
    · obtain ⟨lw, e2⟩ := Lw.keep (o := .lst ((List.replicate 32 (0 : Int)).map V.int)) lw
      have hD' : upd G1 D (.lst ((List.replicate 32 (0 : Int)).map V.int)) D = _ := upd_same
      have h0 := e2 _ _ h0
      refine ⟨t0, D, _, _, rfl, rfl, lw.gh _ _ h0, lw.gh _ _ hD', (by rw [List.length_map, List.length_replicate]; show 1 + 32 ≤ sizeLine; decide), fun t2 n2 => ?_⟩
      obtain ⟨G3, e3, lw, h2⟩ := lw.allocE (o := .lst ((wrow 0).map V.int)) n2
      refine ⟨(by show 1 ≤ sizeLine; decide), fun r n3 => ?_⟩
      have lw := lw.make (o := .lst [.ref t2]) n3
      have r0 : RpAll G3 [V.ref t2] (waysD 1) := .cons (.lstI h2) .nil
      -- for letters in range(12)
      refine ⟨12, rfl, by decide, by decide, for_range (lo := 0) (n := (12 : Int).toNat)
        (fun j σ H' => ∃ (G' : Hp) (xs : List V) (z1 z2 z3 z4 : Option V), σ = [some (.ref r), z1, z2, z3, z4, none] ∧ Lw H G none [(r, .lst xs)] G' H' ∧ RpAll G' xs (waysD (j + 1)))
        ⟨G3, _, none, none, none, none, rfl, lw, r0⟩ (fun j σ H' hj hp => ?_) (fun σ H' hp => ?_)⟩
      · have hj : j < 12 := hj
        obtain ⟨G', xs, z1, z2, z3, z4, rfl, lw, rx⟩ := hp
        -- line = []; total = 0
        refine ⟨(by show 0 ≤ sizeLine; decide), fun t n => ?_⟩
        have lw := lw.make (o := .lst []) n
        obtain ⟨v, hv, rv⟩ := rx.get (waysD_at (show j < j + 1 by omega))
        cases rv with
        | lst ha rs =>
          rename_i u ys
          have ey := rs.ints_eq
          subst ey
          -- for one in rows[letters]
          refine ⟨_, rfl, _, rfl, r, xs, (j : Int), _, rfl, (by rw [Int.zero_add]), L2.SqL.of (lw.loc (r, _) (by simp)).1, atI_nat hv, u, rfl, ⟨_, SqL.g lw ha⟩, for_list (K := K) (a := u) (xs := (wrow j).map V.int)
            (fun i σ H2 => ∃ z4 : Option V, σ = [some (.ref r), some (.int (0 + (j : Int))), some (.ref t), some (.int ((wrow j).take i).sum), z4, none] ∧ Lw H G none [(t, .lst (((scan 0 (wrow j)).take i).map V.int)), (r, .lst xs)] G' H2)
            ⟨z4, rfl, lw⟩ (fun i σ H2 _ hp => ?_) (fun i x σ H2 hx hp => ?_) (fun σ H2 hp => ?_)⟩
          · obtain ⟨z4, _, lw⟩ := hp
            exact SqL.g lw ha
          · obtain ⟨z4, rfl, lw⟩ := hp
            obtain ⟨m, hm, rfl⟩ := at_int hx
            have hi : i < (wrow j).length := (List.getElem?_eq_some_iff.mp hm).1
            refine ⟨_, rfl, _, rfl, _, _, rfl, rfl, ?_⟩
            refine ⟨_, rfl, .inl ⟨rfl, _, L2.SqL.of lw.at⟩, _, rfl, t, _, _, rfl, rfl, lw.at, Evl.sz_lt (by rw [List.length_map, List.length_take]; rw [wrow_len] at hi; omega), some (.int m), ?_, ?_⟩
            · show _ = [some (V.ref r), some (V.int (0 + (j : Int))), some (V.ref t), some (V.int ((wrow j).take (i + 1)).sum), some (V.int m), none]
              rw [take_more hm, List.sum_append, List.sum_singleton]
              rfl
            · have l2 := lw.put (o' := .lst (((scan 0 (wrow j)).take i).map V.int ++ [V.int (((wrow j).take i).sum + m)]))
              rw [take_more (scan_at 0 _ i hi), List.map_append, take_more hm, List.sum_append, List.sum_singleton, Int.zero_add]
              exact l2
          · obtain ⟨z4, rfl, lw⟩ := hp
            have lw : Lw H G none [(t, .lst (((scan 0 (wrow j)).take ((wrow j).map V.int).length).map V.int)), (r, .lst xs)] G' H2 := lw
            rw [List.length_map, List.take_of_length_le (by rw [scan_len]; omega)] at lw
            obtain ⟨lw, e4⟩ := lw.keep
            have ht : upd G' t (.lst ((scan 0 (wrow j)).map V.int)) t = _ := upd_same
            have el : xs.length = j + 1 := by rw [rx.length]; unfold waysD; rw [List.length_map, List.length_range]
            refine ⟨_, rfl, .inl ⟨rfl, _, L2.SqL.of lw.at⟩, _, rfl, r, _, _, rfl, rfl, lw.at, Evl.sz_lt (by omega), _, xs ++ [.ref t], some _, some _, some _, z4, rfl, lw.put, ?_⟩
            rw [waysD_succ]
            exact (rx.ex e4).append (.one (.lstI ht))
      · obtain ⟨G', xs, z1, z2, z3, z4, rfl, lw, rx⟩ := hp
        obtain ⟨lw, e4⟩ := lw.keep
        refine ⟨_, rfl, k _ _ _ lw (.lst upd_same (rx.ex e4))⟩

/-! ### _law_before -/
theorem waysR {G : Hp} {v : V} {n : Nat} (h : Rp G v (.list (waysD n))) : ∃ a xs, v = .ref a ∧ G a = some (.lst xs) ∧ xs.length = n ∧ ∀ i < n, ∃ u, xs[i]? = some (.ref u) ∧ G u = some (.lst ((wrow i).map V.int)) := by
  cases h with
  | lst ha rs =>
    refine ⟨_, _, rfl, ha, by rw [rs.length]; unfold waysD; rw [List.length_map, List.length_range], fun i hi => ?_⟩
    obtain ⟨v, hv, rv⟩ := rs.get (waysD_at hi)
    cases rv with
    | lst hb rr =>
      rename_i u ys
      have ey := rr.ints_eq
      subst ey
      exact ⟨u, hv, hb⟩
theorem sc_before : FnScope ["ways", "exps", "place", "rest", "k", "greater"] ["ways", "exps"] (defScope s_before) := ⟨rfl, rfl, rfl, by decide +kernel, rfl, by decide +kernel, by decide +kernel⟩
def sp_before : Sp := fun vs H Q E => ∃ ns : List Int, PureSp (fun vs G => ∃ v t, vs = [v, .ref t] ∧ Rp G v (.list (waysD 13)) ∧ G t = some (.tup (ns.map V.int)) ∧ ns.length ≤ 12 ∧ (∀ n ∈ ns, 0 ≤ n) ∧ ns.sum ≤ 32) (fun _ _ _ v => v = .int (wbefore ns ns.sum)) vs H Q E
theorem ok_before (T : Tx K mg) : FnOk P w K mg base CX0 2 T.before.f T.before.fd ["ways", "exps"] sp_before := by
  refine T.before.F.ok sc_before (fun vs H Q E h => ?_) (fun cdv A outer s H vs Q E hr h => ?_)
  · obtain ⟨ns, G, _, ⟨v, t, rfl, _⟩, _⟩ := h
    rfl
  · obtain ⟨ns, G, lw, ⟨v, t, rfl, rw_, ht, h12, pos, h32⟩, k⟩ := h
    obtain ⟨a, xs, rfl, ha, lx, row⟩ := waysR rw_
    refine ⟨_, (pss_cons (ps_set (i := 2) sc_before.nd rfl (.inl rfl) pe_int)
      (pss_cons (ps_set (i := 3) sc_before.nd rfl (.inl rfl) (pe_callB (UfK.cr_sumTK (K := K) rfl) (by rfl) T.z_sum (by decide +kernel) (pa_cons (pv 1) pa_nil)))
      (pss_cons (ps_for PassesOwn.never rfl (pi_range1 rfl T.z_range (pa_cons (pe_callB (UfK.call_lenK (K := K)) (by rfl) T.z_len (by decide +kernel) (pa_cons (pv 1) pa_nil)) pa_nil)) (pg_name (i := 4) sc_before.nd rfl (.inl rfl)) (pss_cons (ps_for PassesOwn.never rfl (pi_range2 rfl T.z_range (pa_cons (pe_op op_add (pe_ix (UfK.ix_tupK (K := K)) (pv 1) (pv 4) (fun _ _ => rfl)) pe_int) (pa_cons (pe_op op_add (pv 3) pe_int) pa_nil))) (pg_name (i := 5) sc_before.nd rfl (.inl rfl)) (pss_one (ps_set (i := 2) sc_before.nd rfl (.inl rfl) (pe_op op_add (pv 2) (pe_ix (UfK.ix_listK (K := K)) (pe_ix (UfK.ix_listK (K := K)) (pv 0) (pe_op op_sub (pe_op op_sub (pe_callB (UfK.call_lenK (K := K)) (by rfl) T.z_len (by decide +kernel) (pa_cons (pv 1) pa_nil)) (pv 4)) pe_int) (fun _ _ => rfl)) (pe_op op_sub (pv 3) (pv 5)) (fun _ _ => rfl))))))
      (pss_one (ps_set (i := 3) sc_before.nd rfl (.inl rfl) (pe_op op_sub (pv 3) (pe_ix (UfK.ix_tupK (K := K)) (pv 1) (pv 4) (fun _ _ => rfl)))))))
      (pss_one (ps_ret (pv 2)))))), ?_⟩
    refine ⟨_, rfl, t, ns, rfl, SqT.g lw ht, ?_⟩
    refine ⟨_, rfl, t, _, rfl, .inr (SqT.g lw ht), ?_⟩
    rw [List.length_map]
    -- for k in range(len(exps))
    refine ⟨_, rfl, by omega, by omega, for_range (lo := 0) (n := ((ns.length : Nat) : Int).toNat)
      (fun i σ H' => ∃ (pl : Int) (z1 z2 : Option V), σ = [some (.ref a), some (.ref t), some (.int pl), some (.int (ns.drop i).sum), z1, z2] ∧ H' = H ∧ pl + wbefore (ns.drop i) (ns.drop i).sum = wbefore ns ns.sum)
      ⟨0, none, none, rfl, rfl, by rw [List.drop_zero, Int.zero_add]⟩ (fun i σ H' hi hp => ?_) (fun σ H' hp => ?_)⟩
    · rw [Int.toNat_natCast] at hi
      obtain ⟨pl, z1, z2, rfl, rfl, inv⟩ := hp
      obtain ⟨e, he⟩ : ∃ e, ns[i]? = some e := ⟨_, List.getElem?_eq_getElem hi⟩
      have he' : (ns.map V.int)[i]? = some (.int e) := by rw [List.getElem?_map, he]; rfl
      have ei : (0 : Int) + (i : Int) = ((i : Nat) : Int) := Int.zero_add _
      have ed := sum_drop he
      have le1 := sum_drop_le pos i
      have e0 : 0 ≤ e := pos e (List.mem_of_getElem? he)
      have n2 : 0 ≤ (ns.drop (i + 1)).sum := sum_nonneg fun m hm => pos m (List.mem_of_mem_drop hm)
      have eD : ns.drop i = e :: ns.drop (i + 1) := by
        have z := List.getElem?_eq_some_iff.mp he
        rw [List.drop_eq_getElem_cons z.1, z.2]
      have lenD : (ns.drop (i + 1)).length = ns.length - (i + 1) := List.length_drop
      have step : wbefore (ns.drop i) (ns.drop i).sum = wsum (ns.drop (i + 1)).length (ns.drop (i + 1)).sum.toNat + wbefore (ns.drop (i + 1)) (ns.drop (i + 1)).sum := by
        conv => lhs; rw [eD]
        show wsum _ ((e :: ns.drop (i + 1)).sum - e).toNat + wbefore _ ((e :: ns.drop (i + 1)).sum - e) = _
        rw [← eD, show (ns.drop i).sum - e = (ns.drop (i + 1)).sum by omega]
      obtain ⟨m, hm⟩ : ∃ m : Nat, (ns.drop (i + 1)).sum = (m : Int) := ⟨_, (Int.toNat_of_nonneg n2).symm⟩
      obtain ⟨b, hb⟩ : ∃ b, b = (ns.drop (i + 1)).length := ⟨_, rfl⟩
      obtain ⟨u, hu, gu⟩ := row b (by omega)
      -- for greater in range(exps[k] + 1, rest + 1)
      refine ⟨_, rfl, _, rfl, t, _, (i : Int), _, rfl, (by rw [ei]), SqT.g lw ht, atI_nat he', _, _, rfl, rfl, _, rfl, _, _, rfl, rfl, e + 1, (ns.drop i).sum + 1, rfl, ⟨by omega, by omega, by omega, by omega⟩, for_range (lo := e + 1) (n := ((ns.drop i).sum + 1 - (e + 1)).toNat)
        (fun j σ H2 => ∃ (z2 : Option V), σ = [some (.ref a), some (.ref t), some (.int (pl + (wsum b m - wsum b (m - j)))), some (.int (ns.drop i).sum), some (.int (0 + (i : Int))), z2] ∧ H2 = H')
        ⟨z2, by rw [Nat.sub_zero, Int.sub_self, Int.add_zero]; rfl, rfl⟩ (fun j σ H' hj hp => ?_) (fun σ H' hp => ?_)⟩
      · obtain ⟨z2, rfl, rfl⟩ := hp
        have hj : j < m := by omega
        have hq : (wrow b)[m - j - 1]? = some (wat b (m - j - 1)) := wat_at (by omega)
        have hq' : ((wrow b).map V.int)[m - j - 1]? = some (.int (wat b (m - j - 1))) := by rw [List.getElem?_map, hq]; rfl
        refine ⟨_, rfl, _, rfl, _, rfl, t, _, rfl, .inr (SqT.g lw ht), _, rfl, _, _, rfl, rfl, _, _, rfl, rfl, a, xs, (b : Int), _, rfl, (by rw [List.length_map]; exact congrArg V.int (show ((ns.length : Nat) : Int) - (0 + (i : Int)) - 1 = (b : Int) by omega)), SqL.g lw ha, atI_nat hu,
          _, rfl, _, rfl, _, _, rfl, rfl, u, _, ((m - j - 1 : Nat) : Int), _, rfl, congrArg V.int (show (ns.drop i).sum - (e + 1 + (j : Int)) = ((m - j - 1 : Nat) : Int) by omega), SqL.g lw gu, atI_nat hq', _, _, rfl, rfl, some (.int (e + 1 + (j : Int))), ?_, rfl⟩
        show _ = [some (V.ref a), some (V.ref t), some (V.int (pl + (wsum b m - wsum b (m - (j + 1))))), some (V.int (ns.drop i).sum), some (V.int (0 + (i : Int))), some (V.int (e + 1 + (j : Int)))]
        have ws := wsum_succ (n := b) (m := m - j - 1) (by omega)
        rw [show m - j - 1 + 1 = m - j by omega] at ws
        rw [show m - (j + 1) = m - j - 1 by omega, show pl + (wsum b m - wsum b (m - j - 1)) = pl + (wsum b m - wsum b (m - j)) + wat b (m - j - 1) by omega]
        rfl
      · obtain ⟨z2, rfl, rfl⟩ := hp
        have em : ((ns.drop i).sum + 1 - (e + 1)).toNat = m := by omega
        have w0 : wsum b 0 = 0 := rfl
        refine ⟨_, rfl, _, rfl, _, rfl, t, _, (i : Int), _, rfl, (by rw [ei]), SqT.g lw ht, atI_nat he', _, _, rfl, rfl, pl + wsum b m, some (.int (0 + (i : Int))), z2, ?_, rfl, ?_⟩
        · rw [em, Nat.sub_self, w0, Int.sub_zero, show (ns.drop (i + 1)).sum = (ns.drop i).sum - e by omega]
          rfl
        · rw [← inv, step, hm, ← hb, Int.toNat_natCast, Int.add_assoc]
    · obtain ⟨pl, z1, z2, rfl, rfl, inv⟩ := hp
      refine ⟨_, rfl, k _ _ _ lw ?_⟩
      rw [Int.toNat_natCast, List.drop_length] at inv
      have inv : pl + 0 = wbefore ns ns.sum := inv
      show V.int pl = _
      rw [← inv, Int.add_zero]
end
end K93

namespace K93
open PySem PySem.Spec PyProof.Rows L2 UfG UfT UfI
open Evl (Ex)
section
variable {P : Program} {w : World} {K : PySem.W.Frag} {mg : Str → Option Value} {base : Heap}
theorem sum_set : ∀ {es : List Int} {i : Nat} {x v : Int}, es[i]? = some x → (es.set i v).sum = es.sum - x + v
  | [], _, _, _, h => by simp at h
  | e :: es, 0, x, v, h => by
    simp at h
    subst h
    rw [List.set_cons_zero, List.sum_cons, List.sum_cons]
    omega
  | e :: es, i + 1, x, v, h => by
    have z := sum_set (v := v) (show es[i]? = some x by simpa using h)
    rw [List.set_cons_succ, List.sum_cons, List.sum_cons, z]
    omega
theorem mem_set {es : List Int} {i : Nat} {v m : Int} (h : m ∈ es.set i v) : m ∈ es ∨ m = v := List.mem_or_eq_of_mem_set h
/-- [c for k in range(n)] -/
def repL (n : Nat) (c : Int) : List Int := List.replicate n c
/-! ### _law_exps -/
theorem sc_exps : FnScope ["pool", "letters", "degree", "exps", "left", "part", "place", "k"] ["pool", "letters", "degree"] (defScope s_exps) := ⟨rfl, rfl, rfl, by decide +kernel, rfl, by decide +kernel, by decide +kernel⟩
def sp_exps : Sp := PoolSp 7 (fun ws _ => ∃ l d : Int, ws = [.int l, .int d] ∧ 1 ≤ l ∧ l ≤ 12 ∧ 0 ≤ d ∧ d ≤ 32)
  (fun ws _ G' v => ∃ (l d : Int) (t : Addr) (ns : List Int), ws = [.int l, .int d] ∧ v = .ref t ∧ G' t = some (.tup (ns.map V.int)) ∧ (ns.length : Int) = l ∧ (∀ n ∈ ns, 0 ≤ n) ∧ ns.sum = d)
theorem ok_exps (T : Tx K mg) : FnOk P w K mg base CX0 3 T.exps.f T.exps.fd ["pool", "letters", "degree"] sp_exps := by
  refine T.exps.F.ok sc_exps (fun vs H Q E h => ?_) (fun cdv A outer s H vs Q E hr h => ?_)
  · obtain ⟨G, a, c, n, ws, rfl, _, _, ⟨l, d, rfl, _⟩, _⟩ := h
    rfl
  · obtain ⟨G, a, c, n, ws, rfl, lw, hn, ⟨l, d, rfl, l1, l2, d1, d2⟩, k⟩ := h
    refine ⟨_, (pss_cons (ps_setLc (i := 3) (own := [("k", 7)]) rfl sc_exps.nd rfl rfl (sw_true rfl rfl rfl (by decide +kernel)) (pi_range1 rfl T.z_range (pa_cons (pv 1) pa_nil)) (blkOk_by (own := [("k", 7)]) (N := ["pool", "letters", "degree", "exps", "left", "part", "place", "k"]) (sc := defScope s_exps) (by decide +kernel)) (fun _ _ _ _ _ => by exact pg_name (i := 7) sc_exps.nd rfl (.inl rfl)) (fun _ _ _ _ _ => pts_nil) (fun _ _ _ _ _ => pe_int))
      (pss_cons (ps_set (i := 4) sc_exps.nd rfl (.inl rfl) (pv 2))
      (pss_cons (ps_for PassesOwn.never rfl (UfK.pi_listK (K := K) (pe_lst (pa_cons (pe_call (ok_draw T) (hr.mono (by decide)) (by rfl) T.draw.g T.draw.F.kp T.draw.b .nil pass0 (pa_cons (pv 0) (pa_cons (pe_op op_add (pv 2) pe_int) pa_nil))) (pa_cons (pe_call (ok_draw T) (hr.mono (by decide)) (by rfl) T.draw.g T.draw.F.kp T.draw.b .nil pass0 (pa_cons (pv 0) (pa_cons (pe_op op_add (pv 2) pe_int) pa_nil))) (pa_cons (pe_call (ok_draw T) (hr.mono (by decide)) (by rfl) T.draw.g T.draw.F.kp T.draw.b .nil pass0 (pa_cons (pv 0) (pa_cons (pe_op op_add (pv 2) pe_int) pa_nil))) (pa_cons (pv 2) pa_nil)))))) (pg_name (i := 5) sc_exps.nd rfl (.inl rfl)) (pss_cons (ps_set (i := 6) sc_exps.nd rfl (.inl rfl) (pe_call (ok_draw T) (hr.mono (by decide)) (by rfl) T.draw.g T.draw.F.kp T.draw.b .nil pass0 (pa_cons (pv 0) (pa_cons (pv 1) pa_nil))))
      (pss_cons (ps_asg (pe_op op_add (pe_ix (UfK.ix_listK (K := K)) (pv 3) (pv 6) (fun _ _ => rfl)) (pe_callB (call_min2 rfl) (by rfl) T.z_min (by decide +kernel) (pa_cons (pv 5) (pa_cons (pv 4) pa_nil)))) (pg_sub (pv 3) (pv 6) set_list))
      (pss_one (ps_set (i := 4) sc_exps.nd rfl (.inl rfl) (pe_op op_sub (pv 4) (pe_callB (call_min2 rfl) (by rfl) T.z_min (by decide +kernel) (pa_cons (pv 5) (pa_cons (pv 4) pa_nil)))))))))
      (pss_one (ps_ret (pe_callTy (UfK.call_tuple_ofK (K := K)) (by rfl) T.z_tuple (by decide +kernel) (pa_cons (pv 3) pa_nil))))))), ?_⟩
    -- exps = [0 for k in range(letters)]
    refine ⟨_, rfl, l, rfl, by omega, by omega, fun D hD => ?_⟩
    refine it_rng (lo := 0) (n := l.toNat) (fun j H2 => Lw H G (some (a, c, n)) [(D, .lst ((List.replicate j (0 : Int)).map V.int))] G H2) (lw.make hD) (fun j H2 hj lw => ?_) (fun H2 lw => ?_)
    · refine ⟨rfl, _, lw.at, Evl.sz_lt (by rw [List.length_map, List.length_replicate]; omega), ?_⟩
      have l2 := lw.put (o' := .lst ((List.replicate j (0 : Int)).map V.int ++ [V.int 0]))
      show Lw H G (some (a, c, n)) [(D, .lst ((List.replicate (j + 1) (0 : Int)).map V.int))] G _
      rw [List.replicate_succ', List.map_append]
      exact l2
    · refine ⟨_, rfl, ?_⟩
      refine ⟨_, rfl, _, rfl, _, _, rfl, rfl, call_draw lw (by omega) (by omega) (by omega) fun G1 H1 p1 e1 lw b1 c1 => ?_⟩
      refine ⟨_, rfl, _, rfl, _, _, rfl, rfl, call_draw lw (by omega) (by omega) (by omega) fun G2 H2 p2 e2 lw b2 c2 => ?_⟩
      refine ⟨_, rfl, _, rfl, _, _, rfl, rfl, call_draw lw (by omega) (by omega) (by omega) fun G3 H3 p3 e3 lw b3 c3 => ?_⟩
      refine ⟨_, rfl, (by show 4 ≤ sizeLine; decide), fun t nt => ?_⟩
      obtain ⟨ps, hps⟩ : ∃ ps, ps = [p1, p2, p3, d] := ⟨_, rfl⟩
      obtain ⟨G4, e4, lw, ht⟩ := lw.allocE (o := .lst (ps.map V.int)) nt
      have pb : ∀ p ∈ ps, 0 ≤ p ∧ p ≤ d := fun p hp => by
        rw [hps] at hp
        simp at hp
        omega
      have p4 : ps[3]? = some d := by rw [hps]; rfl
      have lp : ps.length = 4 := by rw [hps]; rfl
      rw [show [V.int p1, V.int p2, V.int p3, V.int d] = ps.map V.int by rw [hps]; rfl]
      -- for part in [..]
      refine ⟨t, rfl, ⟨_, SqL.g lw ht⟩, for_list (K := K) (a := t) (xs := ps.map V.int)
        (fun j σ H' => ∃ (es : List Int) (left : Int) (G' : Hp) (z1 z2 : Option V), σ = [some (.ref a), some (.int l), some (.int d), some (.ref D), some (.int left), z1, z2, none] ∧ Lw H G (some (a, c, n + 3 + j)) [(D, .lst (es.map V.int))] G' H' ∧ G' t = some (.lst (ps.map V.int)) ∧
          (es.length : Int) = l ∧ (∀ e ∈ es, 0 ≤ e) ∧ es.sum + left = d ∧ 0 ≤ left ∧ (j = 4 → left = 0))
        ⟨List.replicate l.toNat 0, d, G4, none, none, rfl, lw, ht, by rw [List.length_replicate]; omega, fun e he => by rw [(List.mem_replicate.mp he).2]; exact Int.le_refl _, ?_, d1, fun z => nomatch z⟩ (fun j σ H' _ hp => ?_) (fun j x σ H' hx hp => ?_) (fun σ H' hp => ?_)⟩
      · have z : ∀ m : Nat, (List.replicate m (0 : Int)).sum = 0 := fun m => by
          induction m with
          | zero => rfl
          | succ m ih => rw [List.replicate_succ, List.sum_cons, ih]; rfl
        rw [z]
        omega
      · obtain ⟨es, left, G', z1, z2, _, lw, ht, _⟩ := hp
        exact SqL.g lw ht
      · obtain ⟨es, left, G', z1, z2, rfl, lw, ht, le, pos, hs, l0, _⟩ := hp
        obtain ⟨p, hp, rfl⟩ := at_int hx
        have hj : j < ps.length := (List.getElem?_eq_some_iff.mp hp).1
        obtain ⟨q0, q1⟩ := pb p (List.mem_of_getElem? hp)
        -- place = _law_draw(pool, letters)
        refine ⟨_, rfl, _, rfl, call_draw lw (by omega) (by omega) (by omega) fun G5 H5 u e5 lw u0 u1 => ?_⟩
        obtain ⟨un, rfl⟩ := Int.eq_ofNat_of_zero_le u0
        have hun : un < es.length := by omega
        obtain ⟨x, hx⟩ : ∃ x, es[un]? = some x := ⟨_, List.getElem?_eq_getElem hun⟩
        have hx' : (es.map V.int)[un]? = some (.int x) := by rw [List.getElem?_map, hx]; rfl
        have x0 : 0 ≤ x := pos x (List.mem_of_getElem? hx)
        obtain ⟨mn, hmn⟩ : ∃ mn, mn = if left < p then left else p := ⟨_, rfl⟩
        have mb : 0 ≤ mn ∧ mn ≤ left ∧ (p = d → mn = left) := by
          have : 0 ≤ es.sum := sum_nonneg pos
          rw [hmn]
          by_cases h : left < p
          · rw [if_pos h]
            omega
          · rw [if_neg h]
            omega
        -- exps[place] = exps[place] + min(part, left)
        refine ⟨_, rfl, _, rfl, D, _, (un : Int), _, rfl, rfl, L2.SqL.of lw.at, atI_nat hx', _, rfl, _, rfl, p, left, rfl, _, _, rfl, rfl, _, rfl, _, rfl, D, _, (un : Int), un, rfl, rfl, lw.at, Evl.ixN_nat (by rw [List.length_map]; exact hun), ?_⟩
        rw [← hmn]
        have lw := lw.put (o' := .lst ((es.set un (x + mn)).map V.int))
        rw [List.map_set] at lw
        -- left = left - min(part, left)
        refine ⟨_, rfl, _, rfl, _, rfl, p, left, rfl, _, _, rfl, rfl, es.set un (x + mn), left - mn, G5, some (.int p), some (.int (un : Int)), ?_, ?_, e5 _ _ ht, ?_, ?_, ?_, by omega, fun z => ?_⟩
        · rw [hmn]
          rfl
        · rw [List.map_set]
          exact lw
        · rw [List.length_set]
          exact le
        · intro e he
          rcases mem_set he with he | he
          · exact pos e he
          · omega
        · rw [sum_set hx]
          omega
        · have j3 : j = 3 := by omega
          rw [j3, p4] at hp
          have := mb.2.2 (Option.some.inj hp).symm
          omega
      · obtain ⟨es, left, G', z1, z2, rfl, lw, ht, le, pos, hs, l0, lz⟩ := hp
        have lz := lz (by rw [List.length_map, lp])
        have lw : Lw H G (some (a, c, n + 7)) [(D, .lst (es.map V.int))] G' H' := by
          rw [List.length_map, lp] at lw
          exact lw
        -- return tuple(exps)
        refine ⟨_, rfl, D, _, rfl, .inl ⟨L2.SqL.of lw.at, fun t2 n2 => ?_⟩⟩
        obtain ⟨G6, e6, lw, h6⟩ := lw.drop.allocE (o := .tup (es.map V.int)) n2
        exact k _ _ _ lw ⟨l, d, t2, es, rfl, rfl, h6, le, pos, by omega⟩
end
end K93

namespace K93
open PySem PySem.Spec PyProof.Rows L2 UfG UfT UfI
open Evl (Ex)
section
variable {P : Program} {w : World} {K : PySem.W.Frag} {mg : Str → Option Value} {base : Heap}
/-! ### _law_bent -/
theorem sc_bent : FnScope ["pool", "exps", "row", "place", "kind", "k"] ["pool", "exps"] (defScope s_bent) := ⟨rfl, rfl, rfl, by decide +kernel, rfl, by decide +kernel, by decide +kernel⟩
def sp_bent : Sp := PoolSp 3 (fun ws G => ∃ (t : Addr) (ns : List Int), ws = [.ref t] ∧ G t = some (.tup (ns.map V.int)) ∧ 0 < ns.length ∧ ns.length ≤ 1000)
  (fun ws G G' v => ∃ (t t' : Addr) (ns ms : List Int), ws = [.ref t] ∧ G t = some (.tup (ns.map V.int)) ∧ v = .ref t' ∧ G' t' = some (.tup (ms.map V.int)) ∧ ms.length ≤ ns.length + 13)
theorem ok_bent (T : Tx K mg) : FnOk P w K mg base CX0 3 T.bent.f T.bent.fd ["pool", "exps"] sp_bent := by
  refine T.bent.F.ok sc_bent (fun vs H Q E h => ?_) (fun cdv A outer s H vs Q E hr h => ?_)
  · obtain ⟨G, a, c, n, ws, rfl, _, _, ⟨t, ns, rfl, _⟩, _⟩ := h
    rfl
  · obtain ⟨G, a, c, n, ws, rfl, lw, hn, ⟨t, ns, rfl, ht, n0, n1⟩, k⟩ := h
    refine ⟨_, (pss_cons (ps_set (i := 2) sc_bent.nd rfl (.inl rfl) (pe_callTy (UfK.call_list_ofK (K := K)) (by rfl) T.z_list (by decide +kernel) (pa_cons (pv 1) pa_nil)))
      (pss_cons (ps_set (i := 3) sc_bent.nd rfl (.inl rfl) (pe_call (ok_draw T) (hr.mono (by decide)) (by rfl) T.draw.g T.draw.F.kp T.draw.b .nil pass0 (pa_cons (pv 0) (pa_cons (pe_callB (UfK.call_lenK (K := K)) (by rfl) T.z_len (by decide +kernel) (pa_cons (pv 2) pa_nil)) pa_nil))))
      (pss_cons (ps_set (i := 4) sc_bent.nd rfl (.inl rfl) (pe_call (ok_draw T) (hr.mono (by decide)) (by rfl) T.draw.g T.draw.F.kp T.draw.b .nil pass0 (pa_cons (pv 0) (pa_cons pe_int pa_nil))))
      (pss_cons (ps_if (pt_cmpR op_eq (pv 4) pe_int (nomark _)) (pss_one (ps_asg (pe_op op_sub (pe_un un_neg pe_int) (pe_call (ok_draw T) (hr.mono (by decide)) (by rfl) T.draw.g T.draw.F.kp T.draw.b .nil pass0 (pa_cons (pv 0) (pa_cons pe_int pa_nil)))) (pg_sub (pv 2) (pv 3) set_list))) (pss_one (ps_if (pt_cmpR op_eq (pv 4) pe_int (nomark _)) (pss_one (ps_asg (pe_op op_add (pe_op op_sub (pe_op op_add (pe_ix (UfK.ix_listK (K := K)) (pv 2) (pv 3) (fun _ _ => rfl)) pe_int) (pe_callB (UfK.cr_sumK (K := K) rfl) (by rfl) T.z_sum (by decide +kernel) (pa_cons (pv 2) pa_nil))) (pe_call (ok_draw T) (hr.mono (by decide)) (by rfl) T.draw.g T.draw.F.kp T.draw.b .nil pass0 (pa_cons (pv 0) (pa_cons pe_int pa_nil)))) (pg_sub (pv 2) (pv 3) set_list))) (pss_one (ps_if (pt_cmpR op_eq (pv 4) pe_int (nomark _)) (pss_one (ps_asg (pe_op op_sub (pe_op op_add (pe_ix (UfK.ix_listK (K := K)) (pv 2) (pv 3) (fun _ _ => rfl)) pe_int) (pe_callB (UfK.cr_sumK (K := K) rfl) (by rfl) T.z_sum (by decide +kernel) (pa_cons (pv 2) pa_nil))) (pg_sub (pv 2) (pv 3) set_list))) (pss_one (ps_if (pt_cmpR op_eq (pv 4) pe_int (nomark _)) (pss_one (ps_set (i := 2) sc_bent.nd rfl (.inl rfl) (pe_op op_cat (pv 2) (pe_lc (own := [("k", 5)]) rfl sc_bent.nd (pi_range1 rfl T.z_range (pa_cons (pe_op op_sub pe_int (pe_callB (UfK.call_lenK (K := K)) (by rfl) T.z_len (by decide +kernel) (pa_cons (pv 2) pa_nil))) pa_nil)) (blkOk_by (own := [("k", 5)]) (N := ["pool", "exps", "row", "place", "kind", "k"]) (sc := defScope s_bent) (by decide +kernel)) (fun _ _ _ _ _ => by exact pg_name (i := 5) sc_bent.nd rfl (.inl rfl)) (fun _ _ _ _ _ => pts_nil) (fun _ _ _ _ _ => pe_int))))) (pss_one (ps_if (pt_cmpR op_eq (pv 4) pe_int (nomark _)) (pss_one (ps_asg (pe_ix (UfK.ix_tupK (K := K)) (pe_tup (pa_cons (pe_op op_pow pe_int pe_int) (pa_cons (pe_un un_neg (pe_op op_pow pe_int pe_int)) pa_nil))) (pe_call (ok_draw T) (hr.mono (by decide)) (by rfl) T.draw.g T.draw.F.kp T.draw.b .nil pass0 (pa_cons (pv 0) (pa_cons pe_int pa_nil))) (fun _ _ => rfl)) (pg_sub (pv 2) (pv 3) set_list))) (pss_one (ps_set (i := 2) sc_bent.nd rfl (.inl rfl) (pe_op op_cat (pe_slice (UfK.sl_listK (K := K)) (pv 2) po_none (po_some (pv 3))) (pe_lc (own := [("k", 5)]) rfl sc_bent.nd (pi_range1 rfl T.z_range (pa_cons (pe_call (ok_draw T) (hr.mono (by decide)) (by rfl) T.draw.g T.draw.F.kp T.draw.b .nil pass0 (pa_cons (pv 0) (pa_cons pe_int pa_nil))) pa_nil)) (blkOk_by (own := [("k", 5)]) (N := ["pool", "exps", "row", "place", "kind", "k"]) (sc := defScope s_bent) (by decide +kernel)) (fun _ _ _ _ _ => by exact pg_name (i := 5) sc_bent.nd rfl (.inl rfl)) (fun _ _ _ _ _ => pts_nil) (fun _ _ _ _ _ => (pe_un un_neg pe_int)))))))))))))))
      (pss_one (ps_ret (pe_callTy (UfK.call_tuple_ofK (K := K)) (by rfl) T.z_tuple (by decide +kernel) (pa_cons (pv 2) pa_nil)))))))), ?_⟩
    -- return tuple(row)
    have fin : ∀ (G' H' : Hp) (m : Nat) (ls : List (Addr × HO)) (r : Addr) (ms : List Int) (z3 z4 : Option V), Lw H G (some (a, c, m)) ls G' H' → m ≤ n + 3 → ls.length = 0 → H' r = some (.lst (ms.map V.int)) → ms.length ≤ ns.length + 13 →
      tCB (UfK.rTupS K) (tCons (tVar 2) tNil) [some (.ref a), some (.ref t), some (.ref r), z3, z4, none] H' Q := fun G' H' m ls r ms z3 z4 lw hm hl hr hms =>
      ⟨_, rfl, r, _, rfl, .inl ⟨L2.SqL.of hr, fun t' nt => by
        obtain rfl : ls = [] := List.length_eq_zero_iff.mp hl
        obtain ⟨G2, e2, lw, h2⟩ := (lw.more hm).allocE (o := .tup (ms.map V.int)) nt
        exact k _ _ _ lw ⟨t, t', ns, ms, rfl, ht, rfl, h2, hms⟩⟩⟩
    -- row = list(exps); place = _law_draw(pool, len(row)); kind = _law_draw(pool, 6)
    refine ⟨_, rfl, t, _, rfl, .inr (SqT.g lw ht), fun D hD => ?_⟩
    have lw := lw.make (o := .lst (ns.map V.int)) hD
    refine ⟨_, rfl, _, rfl, D, _, rfl, .inl (L2.SqL.of lw.at), ?_⟩
    rw [List.length_map]
    refine call_draw lw (by omega) (by omega) (by omega) fun G1 H1 u e1 lw u0 u1 => ?_
    obtain ⟨un, rfl⟩ := Int.eq_ofNat_of_zero_le u0
    have hun : un < ns.length := by omega
    obtain ⟨x, hx⟩ : ∃ x, ns[un]? = some x := ⟨_, List.getElem?_eq_getElem hun⟩
    have hx' : (ns.map V.int)[un]? = some (.int x) := by rw [List.getElem?_map, hx]; rfl
    have hix : ixN (ns.map V.int).length (un : Int) = some un := Evl.ixN_nat (by rw [List.length_map]; exact hun)
    refine ⟨_, rfl, call_draw lw (by decide) (by decide) (by omega) fun G2 H2 kd e2 lw k0 k1 => ?_⟩
    -- row[place] = v
    have put : ∀ (G' H' : Hp) (m : Nat) (v : Int) (z4 : Option V), Lw H G (some (a, c, m)) [(D, .lst (ns.map V.int))] G' H' → m ≤ n + 3 →
      tCB (UfK.rTupS K) (tCons (tVar 2) tNil) [some (.ref a), some (.ref t), some (.ref D), some (.int (un : Int)), z4, none] (upd H' D (.lst ((ns.map V.int).set un (.int v)))) Q := fun G' H' m v z4 lw hm => by
      have lw := lw.put (o' := .lst ((ns.set un v).map V.int))
      rw [List.map_set] at lw
      exact fin _ _ m [] D (ns.set un v) _ _ lw.drop hm rfl (by rw [List.map_set]; exact upd_same) (by rw [List.length_set]; omega)
    -- if kind == 0
    refine ⟨_, rfl, rfl, _, rfl, ite2 (fun _ => ?_) (fun _ => ?_)⟩
    · refine ⟨_, rfl, _, rfl, call_draw lw (by decide) (by decide) (by omega) fun G3 H3 d e3 lw d0 d1 => ?_⟩
      exact ⟨_, _, rfl, rfl, _, rfl, _, rfl, D, _, (un : Int), un, rfl, rfl, lw.at, hix, put _ _ _ _ _ lw (by omega)⟩
    -- elif kind == 1
    refine ⟨_, rfl, rfl, _, rfl, ite2 (fun _ => ?_) (fun _ => ?_)⟩
    · refine ⟨_, rfl, _, rfl, D, _, (un : Int), _, rfl, rfl, L2.SqL.of lw.at, atI_nat hx', _, _, rfl, rfl, _, rfl, D, ns, rfl, L2.SqL.of lw.at, _, _, rfl, rfl, _, rfl, call_draw lw (by decide) (by decide) (by omega) fun G3 H3 d e3 lw d0 d1 => ?_⟩
      exact ⟨_, _, rfl, rfl, _, rfl, _, rfl, D, _, (un : Int), un, rfl, rfl, lw.at, hix, put _ _ _ _ _ lw (by omega)⟩
    -- elif kind == 2
    refine ⟨_, rfl, rfl, _, rfl, ite2 (fun _ => ?_) (fun _ => ?_)⟩
    · refine ⟨_, rfl, _, rfl, D, _, (un : Int), _, rfl, rfl, L2.SqL.of lw.at, atI_nat hx', _, _, rfl, rfl, _, rfl, D, ns, rfl, L2.SqL.of lw.at, _, _, rfl, rfl, _, rfl, _, rfl, D, _, (un : Int), un, rfl, rfl, lw.at, hix, put _ _ _ _ _ lw (by omega)⟩
    -- a list of one number
    -- elif kind == 3
    refine ⟨_, rfl, rfl, _, rfl, ite2 (fun _ => ?_) (fun _ => ?_)⟩
    · refine ⟨_, rfl, _, rfl, D, _, rfl, .inl (L2.SqL.of lw.at), _, _, rfl, rfl, ?_⟩
      rw [List.length_map]
      refine ⟨_, rfl, by omega, by omega, fun D2 hD2 => ?_⟩
      refine it_rng (lo := 0) (n := (13 - (ns.length : Int)).toNat) (fun j H' => Lw H G (some (a, c, n + 1 + 1)) [(D2, .lst ((List.replicate j (0 : Int)).map V.int)), (D, .lst (ns.map V.int))] G2 H') (lw.make hD2) (fun j H' hj lw => ?_) (fun H' lw => ?_)
      · refine ⟨rfl, _, lw.at, Evl.sz_lt (by rw [List.length_map, List.length_replicate]; omega), ?_⟩
        have l2 := lw.put (o' := .lst ((List.replicate j (0 : Int)).map V.int ++ [V.int 0]))
        show Lw H G (some (a, c, n + 1 + 1)) [(D2, .lst ((List.replicate (j + 1) (0 : Int)).map V.int)), (D, .lst (ns.map V.int))] G2 _
        rw [List.replicate_succ', List.map_append]
        exact l2
      · have lw : Lw H G (some (a, c, n + 1 + 1)) [(D2, .lst ((List.replicate (13 - (ns.length : Int)).toNat (0 : Int)).map V.int)), (D, .lst (ns.map V.int))] G2 H' := lw
        refine ⟨D, D2, _, _, rfl, rfl, lw.at2, lw.at, Evl.sz_of (by rw [List.length_map, List.length_map, List.length_replicate]; omega), fun D3 hD3 => ?_⟩
        have lw := (lw.drop.drop.alloc (o := .lst (ns.map V.int ++ (List.replicate (13 - (ns.length : Int)).toNat (0 : Int)).map V.int)) hD3)
        exact fin _ _ (n + 1 + 1) [] D3 (ns ++ List.replicate (13 - (ns.length : Int)).toNat (0 : Int)) _ _ lw (by omega) rfl (by rw [List.map_append]; exact upd_same) (by rw [List.length_append, List.length_replicate]; omega)
    -- elif kind == 4
    refine ⟨_, rfl, rfl, _, rfl, ite2 (fun _ => ?_) (fun _ => ?_)⟩
    · refine ⟨_, _, rfl, rfl, pow_small (by decide) (by decide), _, _, rfl, rfl, pow_small (by decide) (by decide), _, rfl, (by show 2 ≤ sizeLine; decide), fun t2 nt2 => ?_⟩
      obtain ⟨G3, e3, lw, h3⟩ := lw.allocE (o := .tup [.int ((10 : Int) ^ (30 : Int).toNat), .int (-((10 : Int) ^ (30 : Int).toNat))]) nt2
      refine ⟨_, rfl, call_draw lw (by decide) (by decide) (by omega) fun G4 H4 d e4 lw d0 d1 => ?_⟩
      obtain ⟨dn, rfl⟩ := Int.eq_ofNat_of_zero_le d0
      obtain ⟨v, hv⟩ : ∃ v, ([.int ((10 : Int) ^ (30 : Int).toNat), .int (-((10 : Int) ^ (30 : Int).toNat))] : List V)[dn]? = some (.int v) := by
        match dn, d1 with
        | 0, _ => exact ⟨_, rfl⟩
        | 1, _ => exact ⟨_, rfl⟩
        | n + 2, h => exact absurd h (by omega)
      exact ⟨t2, _, (dn : Int), _, rfl, rfl, SqT.g lw (e4 _ _ h3), atI_nat hv, _, rfl, _, rfl, D, _, (un : Int), un, rfl, rfl, lw.at, hix, put _ _ _ _ _ lw (by omega)⟩
    -- else
    refine ⟨_, rfl, _, rfl, (un : Int), rfl, D, _, rfl, L2.SqL.of lw.at, fun D2 hD2 => ?_⟩
    rw [cutV_take, ← List.map_take]
    obtain ⟨G3, e3, lw, h3⟩ := lw.allocE (o := .lst ((ns.take un).map V.int)) hD2
    refine ⟨_, rfl, call_draw lw (by decide) (by decide) (by omega) fun G4 H4 d e4 lw d0 d1 => ?_⟩
    refine ⟨_, rfl, by omega, by omega, fun D3 hD3 => ?_⟩
    refine it_rng (lo := 0) (n := d.toNat) (fun j H' => Lw H G (some (a, c, n + 1 + 1 + 1)) [(D3, .lst ((List.replicate j (-2 : Int)).map V.int)), (D, .lst (ns.map V.int))] G4 H') (lw.make hD3) (fun j H' hj lw => ?_) (fun H' lw => ?_)
    · refine ⟨rfl, _, rfl, _, lw.at, Evl.sz_lt (by rw [List.length_map, List.length_replicate]; omega), ?_⟩
      have l2 := lw.put (o' := .lst ((List.replicate j (-2 : Int)).map V.int ++ [V.int (-2)]))
      show Lw H G (some (a, c, n + 1 + 1 + 1)) [(D3, .lst ((List.replicate (j + 1) (-2 : Int)).map V.int)), (D, .lst (ns.map V.int))] G4 _
      rw [List.replicate_succ', List.map_append]
      exact l2
    · have lw : Lw H G (some (a, c, n + 1 + 1 + 1)) [(D3, .lst ((List.replicate d.toNat (-2 : Int)).map V.int)), (D, .lst (ns.map V.int))] G4 H' := lw
      refine ⟨D2, D3, _, _, rfl, rfl, lw.gh _ _ (e4 _ _ h3), lw.at, Evl.sz_of (by rw [List.length_map, List.length_map, List.length_replicate, List.length_take]; omega), fun D5 hD5 => ?_⟩
      have lw := (lw.drop.drop.alloc (o := .lst ((ns.take un).map V.int ++ (List.replicate d.toNat (-2 : Int)).map V.int)) hD5)
      exact fin _ _ (n + 1 + 1 + 1) [] D5 (ns.take un ++ List.replicate d.toNat (-2 : Int)) _ _ lw (by omega) rfl (by rw [List.map_append]; exact upd_same) (by rw [List.length_append, List.length_replicate, List.length_take]; omega)
end
end K93

namespace K93
open PySem PySem.Spec PyProof.Rows L2 UfG UfT UfI UfD
open Evl (Ex)
section
variable {P : Program} {w : World} {K : PySem.W.Frag} {mg : Str → Option Value} {base : Heap}
/-! ### _law_placed -/
theorem call_ask {H0 G0 G H : Hp} {p : Option (Addr × Addr × Nat)} {ls : List (Addr × HO)} {vs : List V} {Q : VK} (q : Ask) (lw : Lw H0 G0 p ls G H) (ha : q.args G vs) (k : ∀ G' H' v, Ex G G' → Lw H0 G0 p ls G' H' → q.ans G G' v → Q v H') : sp_ask vs H Q E0 :=
  ⟨q, call_pure lw ha k⟩
theorem ans_err {q : Ask} {er : Er} {G G' : Hp} {v : V} (h : q.err = some er) (a : q.ans G G' v) : Rp G' v (errD er) := by
  unfold Ask.ans at a
  rw [h] at a
  exact a
theorem ans_told {q : Ask} {G G' : Hp} {v : V} (h : q.err = none) (a : q.ans G G' v) : ∃ t x G1, v = .ref t ∧ G' t = some (.tup [.str "told", x]) ∧ q.val G G1 x ∧ Ex G1 G' := by
  unfold Ask.ans at a
  rw [h] at a
  exact a
theorem errD_shaped (er : Er) : SeqAt.shaped (errD er) = true := by
  cases er with
  | count n => exact shaped_si _ _ (by decide +kernel)
  | expo n => exact shaped_si _ _ (by decide +kernel)
  | large n => exact shaped_si _ _ (by decide +kernel)
theorem errD_self (er : Er) : PyData.eqv (errD er) (errD er) = true := by
  cases er with
  | count n => exact eqv_si_self _ _
  | expo n => exact eqv_si_self _ _
  | large n => exact eqv_si_self _ _
theorem sc_placed : FnScope ["ways", "exps", "answer", "below", "power"] ["ways", "exps"] (defScope s_placed) := ⟨rfl, rfl, rfl, by decide +kernel, rfl, by decide +kernel, by decide +kernel⟩
def sp_placed : Sp := PureSp (fun vs G => ∃ (v : V) (t : Addr) (ns : List Int), vs = [v, .ref t] ∧ Rp G v (.list (waysD 13)) ∧ G t = some (.tup (ns.map V.int)) ∧ ns.length ≤ 1000) (fun _ _ _ v => v = .bl true)
theorem ok_placed (T : Tx K mg) : FnOk P w K mg base CX0 7 T.placed.f T.placed.fd ["ways", "exps"] sp_placed := by
  refine T.placed.F.ok sc_placed (fun vs H Q E h => ?_) (fun cdv A outer s H vs Q E hr h => ?_)
  · obtain ⟨G, _, ⟨v, t, ns, rfl, _⟩, _⟩ := h
    rfl
  · obtain ⟨G, lw, ⟨wv, t, ns, rfl, rw_, ht, few⟩, k⟩ := h
    refine ⟨_, (pss_cons (ps_set (i := 2) sc_placed.nd rfl (.inl rfl) (pe_call (ok_ask T) (hr.mono (by decide)) (by rfl) T.ask.g T.ask.F.kp T.ask.b .nil pass0 (pa_cons pe_int (pa_cons (pv 1) (pa_cons pe_int pa_nil)))))
      (pss_cons (ps_if (PW.pt (pw_or (pt_cmpR op_lt (pe_callB (UfK.call_lenK (K := K)) (by rfl) T.z_len (by decide +kernel) (pa_cons (pv 1) pa_nil)) pe_int (nomark _)) (pw_or1 (pt_cmpR op_gt (pe_callB (UfK.call_lenK (K := K)) (by rfl) T.z_len (by decide +kernel) (pa_cons (pv 1) pa_nil)) pe_int (nomark _))))) (pss_one (ps_ret (pe_cmpR (UfK.op_eqDK (K := K) hr.units) (pv 2) (pe_tup (pa_cons pe_str (pa_cons (pe_callB (UfK.call_lenK (K := K)) (by rfl) T.z_len (by decide +kernel) (pa_cons (pv 1) pa_nil)) pa_nil))) (nomark _)))) pss_nil)
      (pss_cons (ps_setLc (i := 3) (own := [("power", 4)]) rfl sc_placed.nd rfl rfl (sw_true rfl rfl rfl (by decide +kernel)) (UfK.pi_tupK (K := K) (pv 1)) (blkOk_by (own := [("power", 4)]) (N := ["ways", "exps", "answer", "below", "power"]) (sc := defScope s_placed) (by decide +kernel)) (fun _ _ _ _ _ => by exact pg_name (i := 4) sc_placed.nd rfl (.inl rfl)) (fun _ _ _ _ _ => (pts_one (pt_cmpR op_lt (pv 4) pe_int (nomark _)))) (fun _ _ _ _ _ => (pv 4)))
      (pss_cons (ps_if (pt_cmpR op_gt (pe_callB (UfK.call_lenK (K := K)) (by rfl) T.z_len (by decide +kernel) (pa_cons (pv 3) pa_nil)) pe_int (nomark _)) (pss_one (ps_ret (pe_cmpR (UfK.op_eqDK (K := K) hr.units) (pv 2) (pe_tup (pa_cons pe_str (pa_cons (pe_ix (UfK.ix_listK (K := K)) (pv 3) pe_int (fun _ _ => rfl)) pa_nil))) (nomark _)))) pss_nil)
      (pss_cons (ps_if (pt_cmpR op_gt (pe_callB (UfK.cr_sumTK (K := K) rfl) (by rfl) T.z_sum (by decide +kernel) (pa_cons (pv 1) pa_nil)) pe_int (nomark _)) (pss_one (ps_ret (pe_cmpR (UfK.op_eqDK (K := K) hr.units) (pv 2) (pe_tup (pa_cons pe_str (pa_cons (pe_callB (UfK.cr_sumTK (K := K) rfl) (by rfl) T.z_sum (by decide +kernel) (pa_cons (pv 1) pa_nil)) pa_nil))) (nomark _)))) pss_nil)
      (pss_one (ps_ret (pe_and (pe_cmpR (UfK.op_eqDK (K := K) hr.units) (pv 2) (pe_tup (pa_cons pe_str (pa_cons (pe_call (ok_before T) (hr.mono (by decide)) (by rfl) T.before.g T.before.F.kp T.before.b .nil pass0 (pa_cons (pv 0) (pa_cons (pv 1) pa_nil))) pa_nil))) (nomark _)) (pe_one (pe_call (ok_int T) (hr.mono (by decide)) (by rfl) T.int_.g T.int_.F.kp T.int_.b .nil pass0 (pa_cons (pe_ix (UfK.ix_tupK (K := K)) (pv 2) pe_int (fun _ _ => rfl)) pa_nil))))))))))), ?_⟩
    -- answer = _law_ask(2, exps, 0)
    refine ⟨_, rfl, call_ask (.plc ns) lw ⟨t, rfl, ht⟩ fun G1 H1 ans e1 lw ha => ?_⟩
    have ht := e1 _ _ ht
    have en : (((ns.map V.int).length : Nat) : Int) = (ns.length : Int) := by rw [List.length_map]
    -- an error that is due
    have due : ∀ (er : Er) (G2 H2 : Hp) (y : V), placeE ns = some er → Ex G1 G2 → Lw H G none [] G2 H2 → Rp G2 y (errD er) → rEqD K ans y H2 Q := fun er G2 H2 y he e2 lw ry =>
      r_eqD lw ((ans_err (q := .plc ns) he ha).ex e2) ry (errD_shaped er) (errD_shaped er) (by rw [errD_self]; exact k _ _ _ lw rfl)
    have count : ¬ (1 ≤ ns.length ∧ ns.length ≤ 12) → tOp (rEqD K) (tVar 2) (tTup (tCons (tC (.str (Str.ofString "BadCount"))) (tCons (tCB (Evl.rLenS K) (tCons (tVar 1) tNil)) tNil))) [some wv, some (.ref t), some ans, none, none] H1 Q := fun hb => by
      refine ⟨_, rfl, _, rfl, t, _, rfl, .inr (SqT.g lw ht), ?_⟩
      rw [en]
      refine ⟨(by show 2 ≤ sizeLine; decide), fun t2 n2 => ?_⟩
      obtain ⟨G2, e2, lw, h2⟩ := lw.allocE (o := .tup [.str "BadCount", .int (ns.length : Int)]) n2
      refine due (.count ns.length) _ _ _ ?_ e2 lw (.tup h2 (.cons (.str _) (.cons (.int _) .nil)))
      unfold placeE checkE
      rw [if_neg (by omega)]
    -- if len(exps) < 1 or len(exps) > 12
    refine ⟨_, rfl, t, _, rfl, .inr (SqT.g lw ht), _, _, rfl, rfl, _, rfl, ite2 (fun h1 => iteT (count ?_)) (fun h1 => ⟨_, rfl, t, _, rfl, .inr (SqT.g lw ht), _, _, rfl, rfl, _, rfl, ite2 (fun h2 => count ?_) (fun h2 => ?_)⟩)⟩
    · rw [List.length_map] at h1
      simp at h1
      omega
    · rw [List.length_map] at h2
      simp at h2
      omega
    have l1 : 1 ≤ ns.length := by
      rw [List.length_map] at h1
      simp at h1
      omega
    have l2 : ns.length ≤ 12 := by
      rw [List.length_map] at h2
      simp at h2
      omega
    have hc : checkE (ns.length : Int) = none := if_pos (by omega)
    -- below = [power for power in exps if power < 0]
    refine ⟨_, rfl, t, rfl, ⟨_, SqT.g lw ht⟩, fun D hD => ?_⟩
    refine it_tup (K := K) (a := t) (xs := ns.map V.int) (fun j H2 => Lw H G none [(D, .lst (((ns.take j).filter (· < 0)).map V.int))] G1 H2) (lw.make hD) (fun j H2 _ lw => SqT.g lw ht) (fun j x H2 hx lw => ?_) (fun H2 lw => ?_)
    · have lw : Lw H G none [(D, .lst (((ns.take j).filter (· < 0)).map V.int))] G1 H2 := lw
      obtain ⟨m, hm, rfl⟩ := at_int hx
      refine ⟨rfl, _, rfl, _, _, rfl, rfl, _, rfl, ite2 (fun h3 => ?_) (fun h3 => ?_)⟩
      · have fl := List.length_filter_le (· < (0 : Int)) (ns.take j)
        rw [List.length_take] at fl
        refine ⟨_, rfl, _, lw.at, Evl.sz_lt (by rw [List.length_map]; omega), ?_⟩
        have l3 := lw.put (o' := .lst (((ns.take j).filter (· < 0)).map V.int ++ [V.int m]))
        show Lw H G none [(D, .lst (((ns.take (j + 1)).filter (· < 0)).map V.int))] G1 _
        rw [take_more hm, List.filter_append, List.filter_cons_of_pos (by simpa using h3), List.map_append]
        exact l3
      · show Lw H G none [(D, .lst (((ns.take (j + 1)).filter (· < 0)).map V.int))] G1 _
        rw [take_more hm, List.filter_append, List.filter_cons_of_neg (by simpa using h3), List.filter_nil, List.append_nil]
        exact lw
    have lw : Lw H G none [(D, .lst (((ns.take (ns.map V.int).length).filter (· < 0)).map V.int))] G1 H2 := lw
    rw [List.length_map, List.take_length] at lw
    obtain ⟨lw, e2⟩ := lw.keep
    have hB : upd G1 D (.lst ((ns.filter (· < 0)).map V.int)) D = _ := upd_same
    have ht := e2 _ _ ht
    generalize upd G1 D (.lst ((ns.filter (· < 0)).map V.int)) = G2 at lw e2 hB ht
    have hf : (ns.filter (· < 0)).head? = ns.find? (· < 0) := List.head?_filter
    -- if len(below) > 0
    refine ⟨_, rfl, D, _, rfl, .inl (SqL.g lw hB), _, _, rfl, rfl, _, rfl, ite2 (fun h3 => ?_) (fun h3 => ?_)⟩
    · rw [List.length_map] at h3
      cases hl : ns.filter (· < 0) with
      | nil =>
        rw [hl] at h3
        simp at h3
      | cons m r =>
        rw [hl] at hB hf
        refine ⟨_, rfl, _, rfl, D, _, 0, .int m, rfl, rfl, SqL.g lw hB, atI_nat (j := 0) rfl, (by show 2 ≤ sizeLine; decide), fun t2 n2 => ?_⟩
        obtain ⟨G3, e3, lw, h3⟩ := lw.allocE (o := .tup [.str "BadExponent", .int m]) n2
        refine due (.expo m) _ _ _ ?_ (e2.trans e3) lw (.tup h3 (.cons (.str _) (.cons (.int _) .nil)))
        unfold placeE negE
        rw [hc, ← hf]
        rfl
    have hneg : negE ns = none := by
      unfold negE
      rw [← hf]
      cases hl : ns.filter (· < 0) with
      | nil => rfl
      | cons m r =>
        rw [List.length_map, hl] at h3
        simp at h3
    have pos := negE_none.mp hneg
    -- if sum(exps) > 32
    refine ⟨_, rfl, t, ns, rfl, SqT.g lw ht, _, _, rfl, rfl, _, rfl, ite2 (fun h4 => ?_) (fun h4 => ?_)⟩
    · refine ⟨_, rfl, _, rfl, t, ns, rfl, SqT.g lw ht, (by show 2 ≤ sizeLine; decide), fun t2 n2 => ?_⟩
      obtain ⟨G3, e3, lw, h5⟩ := lw.allocE (o := .tup [.str "TooLarge", .int ns.sum]) n2
      refine due (.large ns.sum) _ _ _ ?_ (e2.trans e3) lw (.tup h5 (.cons (.str _) (.cons (.int _) .nil)))
      unfold placeE
      rw [hc, hneg]
      exact if_neg (by simp at h4; omega)
    have small : ns.sum ≤ 32 := by
      simp at h4
      omega
    have none_ : placeE ns = none := by
      unfold placeE
      rw [hc, hneg]
      exact if_pos small
    obtain ⟨ta, x, Gx, rfl, hta, hx, ex⟩ := ans_told (q := .plc ns) none_ ha
    have hx : x = .int (placeR ns ns.sum) := hx
    subst hx
    obtain ⟨d, hd⟩ := Int.eq_ofNat_of_zero_le (sum_nonneg pos)
    have same : placeR ns ns.sum = wbefore ns ns.sum := by
      rw [hd]
      exact place_eq ns d l2 (by omega) pos hd
    rw [same] at hta
    -- return answer == ('told', _law_before(ways, exps)) and _law_int(answer[1])
    refine ⟨_, rfl, _, rfl, _, rfl, ns, call_pure lw ⟨wv, t, rfl, rw_.ex (e1.trans e2), ht, l2, pos, small⟩ fun G3 H3 v e3 lw hv => ?_⟩
    have hv : v = .int (wbefore ns ns.sum) := hv
    subst hv
    refine ⟨(by show 2 ≤ sizeLine; decide), fun t2 n2 => ?_⟩
    obtain ⟨G4, e4, lw, h5⟩ := lw.allocE (o := .tup [.str "told", .int (wbefore ns ns.sum)]) n2
    have hta := e4 _ _ (e3 _ _ (e2 _ _ hta))
    have rt : ∀ {q : Addr}, G4 q = some (.tup [.str "told", .int (wbefore ns ns.sum)]) → Rp G4 (.ref q) (.tuple [.str "told", .int (wbefore ns ns.sum)]) := fun h => .tup h (.cons (.str _) (.cons (.int _) .nil))
    refine r_eqD lw (rt hta) (rt h5) (shaped_si _ _ (by decide +kernel)) (shaped_si _ _ (by decide +kernel)) ?_
    rw [eqv_si_self]
    exact ⟨_, rfl, iteT ⟨_, rfl, ta, _, 1, _, rfl, rfl, SqT.g lw hta, rfl, _, rfl, k _ _ _ lw rfl⟩⟩
end
end K93

namespace K93
open PySem PySem.Spec PyProof.Rows L2 UfG UfT UfI UfD
open Evl (Ex)
section
variable {P : Program} {w : World} {K : PySem.W.Frag} {mg : Str → Option Value} {base : Heap}
/-! ### _law_listed -/
theorem countE_ok {l d : Int} (h1 : 1 ≤ l) (h2 : l ≤ 12) (h3 : 0 ≤ d) (h4 : d ≤ 32) : countE l d = none := by
  unfold countE checkE
  rw [if_pos ⟨h1, h2⟩]
  exact if_pos ⟨h3, h4⟩
theorem Rp_mono {G : Hp} {v : V} {h : List Int} (R : Rp G v (monoD h)) : ∃ t, v = .ref t ∧ G t = some (.tup (h.map V.int)) := by
  cases R with
  | tup ht rs =>
    have e := RpAll.ints_eq rs
    subst e
    exact ⟨_, rfl, ht⟩
theorem mono_some {l d : Int} (h3 : 0 ≤ d) : 0 < (monoL l.toNat d).length := by
  unfold monoL
  rw [List.length_map]
  have z := rowsN_mono h3 0 (l.toNat - 1)
  rw [Nat.zero_add] at z
  exact Nat.lt_of_lt_of_le (show 0 < 1 by decide) z
theorem sc_listed : FnScope ["ways", "letters", "degree", "due", "count", "answer", "told", "first", "again", "exps", "power", "k"] ["ways", "letters", "degree"] (defScope s_listed) := ⟨rfl, rfl, rfl, by decide +kernel, rfl, by decide +kernel, by decide +kernel⟩
def sp_listed : Sp := PureSp (fun vs G => ∃ (v : V) (l d : Int), vs = [v, .int l, .int d] ∧ Rp G v (.list (waysD 13)) ∧ 1 ≤ l ∧ l ≤ 12 ∧ 0 ≤ d ∧ d ≤ 32) (fun _ _ _ v => v = .bl true)
theorem ok_listed (T : Tx K mg) : FnOk P w K mg base CX0 7 T.listed.f T.listed.fd ["ways", "letters", "degree"] sp_listed := by
  refine T.listed.F.ok sc_listed (fun vs H Q E h => ?_) (fun cdv A outer s H vs Q E hr h => ?_)
  · obtain ⟨G, _, ⟨v, l, d, rfl, _⟩, _⟩ := h
    rfl
  · obtain ⟨G, lw, ⟨wv, l, d, rfl, rw_, l1, l2, d1, d2⟩, k⟩ := h
    refine ⟨_, (pss_cons (ps_set (i := 3) sc_listed.nd rfl (.inl rfl) (pe_ix (UfK.ix_listK (K := K)) (pe_ix (UfK.ix_listK (K := K)) (pv 0) (pv 1) (fun _ _ => rfl)) (pv 2) (fun _ _ => rfl)))
      (pss_cons (ps_set (i := 4) sc_listed.nd rfl (.inl rfl) (pe_call (ok_ask T) (hr.mono (by decide)) (by rfl) T.ask.g T.ask.F.kp T.ask.b .nil pass0 (pa_cons pe_int (pa_cons (pv 1) (pa_cons (pv 2) pa_nil)))))
      (pss_cons (ps_if (PW.pt (pw_or (pt_cmpR (UfK.op_neDK (K := K) hr.units) (pv 4) (pe_tup (pa_cons pe_str (pa_cons (pv 3) pa_nil))) (nomark _)) (pw_or1 (pt_not (pt_val (pe_call (ok_int T) (hr.mono (by decide)) (by rfl) T.int_.g T.int_.F.kp T.int_.b .nil pass0 (pa_cons (pe_ix (UfK.ix_tupK (K := K)) (pv 4) pe_int (fun _ _ => rfl)) pa_nil))))))) (pss_one (ps_ret pe_bl)) pss_nil)
      (pss_cons (ps_set (i := 5) sc_listed.nd rfl (.inl rfl) (pe_call (ok_ask T) (hr.mono (by decide)) (by rfl) T.ask.g T.ask.F.kp T.ask.b .nil pass0 (pa_cons pe_int (pa_cons (pv 1) (pa_cons (pv 2) pa_nil)))))
      (pss_cons (ps_if (pt_cmpR op_gt (pv 3) pe_int (nomark _)) (pss_one (ps_ret (pe_cmpR (UfK.op_eqDK (K := K) hr.units) (pv 5) (pe_tup (pa_cons pe_str (pa_cons (pv 3) pa_nil))) (nomark _)))) pss_nil)
      (pss_cons (ps_if (PW.pt (pw_or (pt_cmpR op_ne (pe_ix (UfK.ix_tupK (K := K)) (pv 5) pe_int (fun _ _ => rfl)) pe_str (nomark _)) (pw_or (pt_not (pt_val (pe_callB (UfK.call_isiK' (K := K)) (by rfl) T.z_isinstance (by decide +kernel) (pa_cons (pe_ix (UfK.ix_tupK (K := K)) (pv 5) pe_int (fun _ _ => rfl)) (pa_cons (pe_bltn (by rfl) T.z_list (by decide +kernel) (show RelV (.ty "list") _ from rfl)) pa_nil))))) (pw_or1 (pt_cmpR op_ne (pe_callB (UfK.call_lenK (K := K)) (by rfl) T.z_len (by decide +kernel) (pa_cons (pe_ix (UfK.ix_tupK (K := K)) (pv 5) pe_int (fun _ _ => rfl)) pa_nil)) (pv 3) (nomark _)))))) (pss_one (ps_ret pe_bl)) pss_nil)
      (pss_cons (ps_set (i := 6) sc_listed.nd rfl (.inr rfl) (pe_ix (UfK.ix_tupK (K := K)) (pv 5) pe_int (fun _ _ => rfl)))
      (pss_cons (ps_if (pt_not (pt_val (pe_callB (UfK.cr_allK (K := K) rfl) (by rfl) T.z_all (by decide +kernel) (pa_cons (pe_lc (own := [("exps", 9)]) rfl sc_listed.nd (UfK.pi_listK (K := K) (pv 6)) (blkOk_by (own := [("exps", 9)]) (N := ["ways", "letters", "degree", "due", "count", "answer", "told", "first", "again", "exps", "power", "k"]) (sc := defScope s_listed) (by decide +kernel)) (fun _ _ _ _ _ => by exact pg_name (i := 9) sc_listed.nd rfl (.inl rfl)) (fun _ _ _ _ _ => pts_nil) (fun _ _ _ _ _ => (pe_and (pe_callB (UfK.call_isiK' (K := K)) (by rfl) T.z_isinstance (by decide +kernel) (pa_cons (pv 9) (pa_cons (pe_bltn (by rfl) T.z_tuple (by decide +kernel) (show RelV (.ty "tuple") _ from rfl)) pa_nil))) (pe_one (pe_cmpR op_eq (pe_callB (UfK.call_lenK (K := K)) (by rfl) T.z_len (by decide +kernel) (pa_cons (pv 9) pa_nil)) (pv 1) (nomark _)))))) pa_nil)))) (pss_one (ps_ret pe_bl)) pss_nil)
      (pss_cons (ps_if (pt_not (pt_val (pe_callB (UfK.cr_allK (K := K) rfl) (by rfl) T.z_all (by decide +kernel) (pa_cons (pe_lc (own := [("exps", 9)]) rfl sc_listed.nd (UfK.pi_listK (K := K) (pv 6)) (blkOk_by (own := [("exps", 9)]) (N := ["ways", "letters", "degree", "due", "count", "answer", "told", "first", "again", "exps", "power", "k"]) (sc := defScope s_listed) (by decide +kernel)) (fun _ _ _ _ _ => by exact pg_name (i := 9) sc_listed.nd rfl (.inl rfl)) (fun _ _ _ _ _ => pts_nil) (fun _ _ _ _ _ => (pe_callB (UfK.cr_allK (K := K) rfl) (by rfl) T.z_all (by decide +kernel) (pa_cons (pe_lc (own := [("power", 10)]) rfl sc_listed.nd (UfK.pi_tupK (K := K) (pv 9)) (UfI.blkOk_in (own := [("power", 10)]) (N := ["ways", "letters", "degree", "due", "count", "answer", "told", "first", "again", "exps", "power", "k"]) (by decide +kernel)) (fun _ _ _ _ _ => by exact pg_name (i := 10) sc_listed.nd rfl (.inl rfl)) (fun _ _ _ _ _ => pts_nil) (fun _ _ _ _ _ => (pe_and (pe_call (ok_int T) (hr.mono (by decide)) (by rfl) T.int_.g T.int_.F.kp T.int_.b .nil pass0 (pa_cons (pv 10) pa_nil)) (pe_one (pe_cmpR op_ge (pv 10) pe_int (nomark _)))))) pa_nil)))) pa_nil)))) (pss_one (ps_ret pe_bl)) pss_nil)
      (pss_cons (ps_if (pt_not (pt_val (pe_callB (UfK.cr_allK (K := K) rfl) (by rfl) T.z_all (by decide +kernel) (pa_cons (pe_lc (own := [("exps", 9)]) rfl sc_listed.nd (UfK.pi_listK (K := K) (pv 6)) (blkOk_by (own := [("exps", 9)]) (N := ["ways", "letters", "degree", "due", "count", "answer", "told", "first", "again", "exps", "power", "k"]) (sc := defScope s_listed) (by decide +kernel)) (fun _ _ _ _ _ => by exact pg_name (i := 9) sc_listed.nd rfl (.inl rfl)) (fun _ _ _ _ _ => pts_nil) (fun _ _ _ _ _ => (pe_cmpR op_eq (pe_callB (UfK.cr_sumTK (K := K) rfl) (by rfl) T.z_sum (by decide +kernel) (pa_cons (pv 9) pa_nil)) (pv 2) (nomark _)))) pa_nil)))) (pss_one (ps_ret pe_bl)) pss_nil)
      (pss_cons (ps_if (pt_not (pt_val (pe_callB (UfK.cr_allK (K := K) rfl) (by rfl) T.z_all (by decide +kernel) (pa_cons (pe_lc (own := [("k", 11)]) rfl sc_listed.nd (pi_range1 rfl T.z_range (pa_cons (pe_op op_sub (pv 3) pe_int) pa_nil)) (blkOk_by (own := [("k", 11)]) (N := ["ways", "letters", "degree", "due", "count", "answer", "told", "first", "again", "exps", "power", "k"]) (sc := defScope s_listed) (by decide +kernel)) (fun _ _ _ _ _ => by exact pg_name (i := 11) sc_listed.nd rfl (.inl rfl)) (fun _ _ _ _ _ => pts_nil) (fun _ _ _ _ _ => (pe_cmpR (UfK.op_gtLK (K := K) hr.units0) (pe_callTy (UfK.call_list_ofK (K := K)) (by rfl) T.z_list (by decide +kernel) (pa_cons (pe_ix (UfK.ix_listK (K := K)) (pv 6) (pv 11) (fun _ _ => rfl)) pa_nil)) (pe_callTy (UfK.call_list_ofK (K := K)) (by rfl) T.z_list (by decide +kernel) (pa_cons (pe_ix (UfK.ix_listK (K := K)) (pv 6) (pe_op op_add (pv 11) pe_int) (fun _ _ => rfl)) pa_nil)) (nomark _)))) pa_nil)))) (pss_one (ps_ret pe_bl)) pss_nil)
      (pss_cons (ps_set (i := 7) sc_listed.nd rfl (.inl rfl) (pe_ix (UfK.ix_listK (K := K)) (pv 6) pe_int (fun _ _ => rfl)))
      (pss_cons (ps_expr (pe_bm PySem.F.plainAttrs_list PySem.F.slot_list_append PySem.F.type_list_append mt_append (pv 6) (pa_cons (pe_tup (pa_cons pe_int pa_nil)) pa_nil)))
      (pss_cons (ps_asg (pe_tup (pa_cons pe_int pa_nil)) (pg_sub (pv 6) pe_int set_list))
      (pss_cons (ps_set (i := 8) sc_listed.nd rfl (.inl rfl) (pe_call (ok_ask T) (hr.mono (by decide)) (by rfl) T.ask.g T.ask.F.kp T.ask.b .nil pass0 (pa_cons pe_int (pa_cons (pv 1) (pa_cons (pv 2) pa_nil)))))
      (pss_one (ps_ret (pe_and (pe_cmpR op_eq (pe_ix (UfK.ix_tupK (K := K)) (pv 8) pe_int (fun _ _ => rfl)) pe_str (nomark _)) (pe_and (pe_cmpR op_eq (pe_callB (UfK.call_lenK (K := K)) (by rfl) T.z_len (by decide +kernel) (pa_cons (pe_ix (UfK.ix_tupK (K := K)) (pv 8) pe_int (fun _ _ => rfl)) pa_nil)) (pv 3) (nomark _)) (pe_one (pe_cmpR (UfK.op_eqDK (K := K) hr.units) (pe_ix (UfK.ix_listK (K := K)) (pe_ix (UfK.ix_tupK (K := K)) (pv 8) pe_int (fun _ _ => rfl)) pe_int (fun _ _ => rfl)) (pv 7) (nomark _)))))))))))))))))))))), ?_⟩
    obtain ⟨ln, rfl⟩ := Int.eq_ofNat_of_zero_le (show 0 ≤ l by omega)
    obtain ⟨dn, rfl⟩ := Int.eq_ofNat_of_zero_le d1
    obtain ⟨wa, ws, rfl, hwa, _, row⟩ := waysR rw_
    obtain ⟨u, hu, gu⟩ := row ln (by omega)
    have hc : countE ln dn = none := countE_ok l1 l2 d1 d2
    have hq : ((wrow ln).map V.int)[dn]? = some (.int (countV ln dn)) := by
      rw [List.getElem?_map, wat_at (by omega), countV_eq l1 l2 d1 d2]
      rfl
    have hln := monoL_len l1 l2 d1 d2
    have pos := mono_some (l := (ln : Int)) d1
    -- due = ways[letters][degree]
    refine ⟨_, rfl, _, rfl, wa, ws, (ln : Int), _, rfl, rfl, SqL.g lw hwa, atI_nat hu, _, rfl, u, _, (dn : Int), _, rfl, rfl, SqL.g lw gu, atI_nat hq, ?_⟩
    -- count = _law_ask(1, letters, degree)
    refine ⟨_, rfl, _, rfl, call_ask (.cnt ln dn) lw rfl fun G1 H1 v e1 lw ha => ?_⟩
    obtain ⟨ta, x, Gx, rfl, hta, hx, ex⟩ := ans_told (q := .cnt ln dn) hc ha
    have hx : x = .int (countV ln dn) := hx
    subst hx
    have rt : ∀ {G : Hp} {q : Addr}, G q = some (.tup [.str "told", .int (countV ln dn)]) → Rp G (.ref q) (.tuple [.str "told", .int (countV ln dn)]) := fun h => .tup h (.cons (.str _) (.cons (.int _) .nil))
    -- if count != ('told', due) or not _law_int(count[1])
    refine ⟨_, rfl, _, rfl, (by show 2 ≤ sizeLine; decide), fun t2 n2 => ?_⟩
    obtain ⟨G2, e2, lw, h2⟩ := lw.allocE (o := .tup [.str "told", .int (countV ln dn)]) n2
    refine r_neD lw (rt (e2 _ _ hta)) (rt h2) (shaped_si _ _ (by decide +kernel)) (shaped_si _ _ (by decide +kernel)) ?_
    rw [eqv_si_self]
    refine ⟨_, rfl, iteF ⟨_, rfl, ta, _, 1, _, rfl, rfl, SqT.g lw (e2 _ _ hta), rfl, _, rfl, true, rfl, iteF ?_⟩⟩
    -- answer = _law_ask(0, letters, degree)
    refine ⟨_, rfl, _, rfl, call_ask (.mono ln dn) lw rfl fun G3 H3 ans e3 lw ha => ?_⟩
    -- if due > 1000
    refine ⟨_, rfl, _, _, rfl, rfl, _, rfl, ite2 (fun h1 => ?_) (fun h1 => ?_)⟩
    · have he : monoE ln dn = some (.large (countV ln dn)) := by
        unfold monoE
        rw [hc]
        exact if_neg (by simp at h1; omega)
      refine ⟨_, rfl, _, rfl, (by show 2 ≤ sizeLine; decide), fun t4 n4 => ?_⟩
      obtain ⟨G4, e4, lw, h4⟩ := lw.allocE (o := .tup [.str "TooLarge", .int (countV ln dn)]) n4
      refine r_eqD lw ((ans_err (q := .mono ln dn) he ha).ex e4) (e := errD (.large (countV ln dn))) (.tup h4 (.cons (.str _) (.cons (.int _) .nil))) (errD_shaped _) (errD_shaped _) ?_
      rw [errD_self]
      exact k _ _ _ lw rfl
    have small : countV ln dn ≤ 1000 := by
      simp at h1
      omega
    have hm : monoE ln dn = none := by
      unfold monoE
      rw [hc]
      exact if_pos small
    obtain ⟨tb, y, Gy, rfl, htb, hy, ey⟩ := ans_told (q := .mono ln dn) hm ha
    obtain ⟨a, xs, rfl, ga, hxs, rx⟩ : NewTups G2 Gy y (monoL ln dn) := hy
    have hxs := ey _ _ hxs
    have rx := rx.ex ey
    have lx : xs.length = (monoL ln dn).length := rx.len'
    have few : xs.length ≤ 1000 := by
      have := hln
      rw [Int.toNat_natCast] at this
      omega
    have elx : ((xs.length : Nat) : Int) = countV ln dn := by
      have := hln
      rw [Int.toNat_natCast] at this
      omega
    have g0 : G a = none := by
      cases hz : G a with
      | none => rfl
      | some o =>
        have := e2 _ _ (e1 _ _ hz)
        rw [ga] at this
        cases this
    -- if answer[0] != 'told' or not isinstance(answer[1], list) or len(answer[1]) != due
    refine ⟨_, rfl, tb, _, 0, _, rfl, rfl, SqT.g lw htb, rfl, rfl, _, rfl, iteNS rfl ⟨_, rfl, tb, _, 1, _, rfl, rfl, SqT.g lw htb, rfl, .ref a, .ty "list", .type "list", .type "list", true, rfl, .ty _, .base (.lst (lw.gh _ _ hxs)), kit_ty rfl, true, rfl,
      iteF ⟨_, rfl, tb, _, 1, _, rfl, rfl, SqT.g lw htb, rfl, a, _, rfl, .inl (SqL.g lw hxs), _, rfl, rfl, _, rfl, iteNS (congrArg V.int elx) ?_⟩⟩⟩
    have item : ∀ {i : Nat} {x : V}, xs[i]? = some x → ∃ (q : List Int) (t : Addr), (monoL ln dn)[i]? = some q ∧ x = .ref t ∧ G3 t = some (.tup (q.map V.int)) ∧ (q.length : Int) = ln ∧ (∀ e ∈ q, 0 ≤ e) ∧ q.sum = dn := fun {i x} hx => by
      obtain ⟨q, hq, r⟩ := rx.at' hx
      obtain ⟨t, rfl, ht⟩ := Rp_mono r
      obtain ⟨o1, o2, o3⟩ := monoL_ok l1 d1 (x := q) (List.mem_of_getElem? (by rw [Int.toNat_natCast]; exact hq))
      exact ⟨q, t, hq, rfl, ht, o1, o2, o3⟩
    -- told = answer[1]
    refine ⟨_, rfl, tb, _, 1, _, rfl, rfl, SqT.g lw htb, rfl, ?_⟩
    -- all([isinstance(exps, tuple) and len(exps) == letters for exps in told])
    refine ⟨_, rfl, a, rfl, ⟨_, SqL.g lw hxs⟩, fun D hD => lc_true lw hD hxs (by omega) (fun i x G' H' acc hx e lw hl Nx kn => ?_) (fun Ga Ha ea lw hDa => ?_)⟩
    · obtain ⟨q, t, hq, rfl, ht, o1, o2, o3⟩ := item hx
      have hi : i < xs.length := (List.getElem?_eq_some_iff.mp hx).1
      have ht := e _ _ ht
      refine ⟨rfl, _, rfl, .ref t, .ty "tuple", .type "tuple", .type "tuple", true, rfl, .ty _, .base (.tup (lw.gh _ _ ht)), kit_ty rfl, _, rfl, iteT ⟨_, rfl, t, _, rfl, .inr (SqT.g lw ht), _, rfl, rfl, acc, lw.at, Evl.sz_lt (by omega), ?_⟩⟩
      rw [decide_eq_true (show V.int ((q.map V.int).length : Nat) = V.int (ln : Int) by rw [List.length_map, o1])]
      exact kn _ _ (Evl.Ex.refl _) lw.put
    refine ⟨D, _, rfl, SqL.g lw hDa, ?_⟩
    rw [all_true]
    refine ⟨true, rfl, iteF ?_⟩
    -- all([all([_law_int(power) and power >= 0 for power in exps]) for exps in told])
    clear hD hDa D
    refine ⟨_, rfl, a, rfl, ⟨_, SqL.g lw (ea _ _ hxs)⟩, fun D hD => lc_true lw hD (ea _ _ hxs) (by omega) (fun i x G' H' acc hx e lw hl Nx kn => ?_) (fun Gb Hb eb lw hDb => ?_)⟩
    · obtain ⟨q, t, hq, rfl, ht, o1, o2, o3⟩ := item hx
      have hi : i < xs.length := (List.getElem?_eq_some_iff.mp hx).1
      have ht := e _ _ (ea _ _ ht)
      refine ⟨rfl, _, rfl, t, rfl, ⟨_, SqT.g lw ht⟩, fun D2 hD2 => lc_trueT lw hD2 ht (by rw [List.length_map]; omega) (fun j y G2 H2 acc2 hy e lw hl2 Nx2 kn2 => ?_) (fun G2 H2 e lw hD2 => ?_)⟩
      · obtain ⟨m, hm, rfl⟩ := at_int hy
        have hj : j < q.length := (List.getElem?_eq_some_iff.mp hm).1
        have m0 : 0 ≤ m := o2 m (List.mem_of_getElem? hm)
        refine ⟨rfl, _, rfl, m, rfl, _, rfl, iteT ⟨_, rfl, _, _, rfl, rfl, acc2, lw.at, Evl.sz_lt (by omega), ?_⟩⟩
        show Nx2 (upd H2 D2 (.lst (acc2 ++ [V.bl (decide (0 ≤ m))])))
        rw [decide_eq_true m0]
        exact kn2 _ _ (Evl.Ex.refl _) lw.put
      · refine ⟨D2, _, rfl, SqL.g lw hD2, ?_⟩
        rw [all_true]
        exact ⟨acc, lw.at, Evl.sz_lt (by omega), kn _ _ e lw.put⟩
    refine ⟨D, _, rfl, SqL.g lw hDb, ?_⟩
    rw [all_true]
    refine ⟨true, rfl, iteF ?_⟩
    have eb := ea.trans eb
    clear hD hDb D
    -- all([sum(exps) == degree for exps in told])
    refine ⟨_, rfl, a, rfl, ⟨_, SqL.g lw (eb _ _ hxs)⟩, fun D hD => lc_true lw hD (eb _ _ hxs) (by omega) (fun i x G' H' acc hx e lw hl Nx kn => ?_) (fun Gc Hc ec lw hDc => ?_)⟩
    · obtain ⟨q, t, hq, rfl, ht, o1, o2, o3⟩ := item hx
      have hi : i < xs.length := (List.getElem?_eq_some_iff.mp hx).1
      have ht := e _ _ (eb _ _ ht)
      refine ⟨rfl, _, rfl, t, q, rfl, SqT.g lw ht, _, rfl, rfl, acc, lw.at, Evl.sz_lt (by omega), ?_⟩
      rw [decide_eq_true (congrArg V.int o3)]
      exact kn _ _ (Evl.Ex.refl _) lw.put
    refine ⟨D, _, rfl, SqL.g lw hDc, ?_⟩
    rw [all_true]
    refine ⟨true, rfl, iteF ?_⟩
    have ec := eb.trans ec
    clear hD hDc D
    -- all([list(told[k]) > list(told[k + 1]) for k in range(due - 1)])
    refine ⟨_, rfl, _, _, rfl, rfl, countV ln dn - 1, rfl, by omega, by omega, fun D hD => lc_trueR (lo := 0) (n := (countV ln dn - 1).toNat) lw hD (by omega) (fun i G' H' acc hi e lw hl Nx kn => ?_) (fun Gd Hd ed lw hDd => ?_)⟩
    · have hi1 : i < xs.length := by omega
      have hi2 : i + 1 < xs.length := by omega
      have hx1 : xs[i]? = some xs[i] := List.getElem?_eq_getElem hi1
      have hx2 : xs[i + 1]? = some xs[i + 1] := List.getElem?_eq_getElem hi2
      obtain ⟨q, t, hq, ex1, ht, _⟩ := item hx1
      obtain ⟨q2, t2, hq2, ex2, ht2, _⟩ := item hx2
      rw [ex1] at hx1
      rw [ex2] at hx2
      have ht := e _ _ (ec _ _ ht)
      have ht2 := e _ _ (ec _ _ ht2)
      have hxs' := e _ _ (ec _ _ hxs)
      obtain ⟨kk, uu, vv, g1, g2, g3, g4⟩ := monoL_gt (l := (ln : Int)) l1 d1 (k := i) (x := q) (y := q2) (by rw [Int.toNat_natCast]; exact hq) (by rw [Int.toNat_natCast]; exact hq2)
      refine ⟨rfl, _, rfl, _, rfl, a, xs, (i : Int), _, rfl, (by rw [Int.zero_add]), SqL.g lw hxs', atI_nat hx1, t, _, rfl, .inr (SqT.g lw ht), fun t5 n5 => ?_⟩
      obtain ⟨G5, e5, lw, h5⟩ := lw.allocE (o := .lst (q.map V.int)) n5
      refine ⟨_, rfl, _, rfl, _, _, rfl, rfl, a, xs, ((i + 1 : Nat) : Int), _, rfl, congrArg V.int (show (0 : Int) + (i : Int) + 1 = ((i + 1 : Nat) : Int) by omega), SqL.g lw (e5 _ _ hxs'), atI_nat hx2, t2, _, rfl, .inr (SqT.g lw (e5 _ _ ht2)), fun t6 n6 => ?_⟩
      obtain ⟨G6, e6, lw, h6⟩ := lw.allocE (o := .lst (q2.map V.int)) n6
      exact ⟨t5, t6, q, q2, kk, uu, vv, rfl, rfl, SqL.g lw (e6 _ _ h5), SqL.g lw h6, g1, g2, g3, g4, acc, lw.at, Evl.sz_lt (by omega), kn _ _ (e5.trans e6) lw.put⟩
    refine ⟨D, _, rfl, SqL.g lw hDd, ?_⟩
    rw [all_true]
    refine ⟨true, rfl, iteF ?_⟩
    have ed := ec.trans ed
    clear hD hDd D
    -- first = told[0]
    have x0 : xs[0]? = some xs[0] := List.getElem?_eq_getElem (by omega)
    obtain ⟨q0, t0, hq0, ex0, ht0, _⟩ := item x0
    rw [ex0] at x0
    have hxs := ed _ _ hxs
    have ht0 := ed _ _ ht0
    refine ⟨_, rfl, a, xs, 0, _, rfl, rfl, SqL.g lw hxs, atI_nat (j := 0) x0, ?_⟩
    have ne0 : t0 ≠ a := fun z => by
      rw [z, hxs] at ht0
      cases ht0
    obtain ⟨lw, _⟩ := lw.thaw hxs g0 (by simp)
    have ht0 : (fun b => if b = a then none else Gd b : Hp) t0 = some (.tup (q0.map V.int)) := (if_neg ne0).trans ht0
    generalize (fun b => if b = a then none else Gd b : Hp) = Ge at lw ht0
    -- told.append((1,))
    refine ⟨_, rfl, .inl ⟨rfl, _, L2.SqL.of lw.at⟩, (by show 1 ≤ sizeLine; decide), fun t7 n7 => ?_⟩
    obtain ⟨Gf, ef, lw, _⟩ := lw.allocE (o := .tup [.int 1]) n7
    refine ⟨a, xs, _, rfl, rfl, lw.at, Evl.sz_lt (by omega), ?_⟩
    have lw := lw.put (o' := .lst (xs ++ [.ref t7]))
    -- told[0] = (0,)
    refine ⟨(by show 1 ≤ sizeLine; decide), fun t8 n8 => ?_⟩
    obtain ⟨Gg, eg, lw, _⟩ := lw.allocE (o := .tup [.int 0]) n8
    refine ⟨_, rfl, a, _, ((0 : Nat) : Int), 0, rfl, rfl, lw.at, Evl.ixN_nat (by rw [List.length_append]; omega), ?_⟩
    have lw := (lw.put (o' := .lst ((xs ++ [V.ref t7]).set 0 (V.ref t8)))).drop
    -- again = _law_ask(0, letters, degree)
    refine ⟨_, rfl, _, rfl, call_ask (.mono ln dn) lw rfl fun Gh Hh v eh lw ha2 => ?_⟩
    obtain ⟨tc, y, Gi, rfl, htc, hy, ei⟩ := ans_told (q := .mono ln dn) hm ha2
    obtain ⟨a2, xs2, rfl, _, hxs2, rx2⟩ : NewTups Gg Gi y (monoL ln dn) := hy
    have hxs2 := ei _ _ hxs2
    have rx2 := rx2.ex ei
    have lx2 : xs2.length = (monoL ln dn).length := rx2.len'
    have ht0 := eh _ _ (eg _ _ (ef _ _ ht0))
    obtain ⟨v0, hv0, rv0⟩ := rx2.get (i := 0) (d := monoD q0) (by rw [List.getElem?_map, hq0]; rfl)
    refine ⟨_, rfl, tc, _, 0, _, rfl, rfl, SqT.g lw htc, rfl, rfl, _, rfl, ite2 (fun _ => ?_) (fun h => (h (decide_eq_true rfl)).elim)⟩
    refine ⟨_, rfl, tc, _, 1, _, rfl, rfl, SqT.g lw htc, rfl, a2, _, rfl, .inl (SqL.g lw hxs2), _, rfl, rfl, _, rfl, ite2 (fun _ => ?_) (fun h => (h (decide_eq_true (congrArg V.int (by rw [lx2, ← lx, elx])))).elim)⟩
    refine ⟨_, rfl, tc, _, 1, _, rfl, rfl, SqT.g lw htc, rfl, a2, xs2, 0, _, rfl, rfl, SqL.g lw hxs2, atI_nat (j := 0) hv0, _, rfl, ?_⟩
    refine r_eqD lw rv0 (.tupI ht0) (shaped_tupI _) (shaped_tupI _) ?_
    rw [show PyData.eqv (monoD q0) (.tuple (q0.map PyData.int)) = true from (eqv_tupI _ _).trans (decide_eq_true rfl)]
    exact k _ _ _ lw rfl
end
end K93

set_option maxHeartbeats 8000000
namespace K93
open PySem PySem.Spec PyProof.Rows L2 UfG UfT UfI UfD
open Evl (Ex)
section
variable {P : Program} {w : World} {K : PySem.W.Frag} {mg : Str → Option Value} {base : Heap}
/-! ### law -/
/-- pairs of letters and a degree in range -/
def Good (G : Hp) (x : V) : Prop := ∃ (t : Addr) (l d : Int), x = .ref t ∧ G t = some (.tup [.int l, .int d]) ∧ 1 ≤ l ∧ l ≤ 12 ∧ 0 ≤ d ∧ d ≤ 32
theorem Good.ex {G G' : Hp} {x : V} (e : Ex G G') (h : Good G x) : Good G' x := by
  obtain ⟨t, l, d, r, ht, b⟩ := h
  exact ⟨t, l, d, r, e _ _ ht, b⟩
def Goods (G : Hp) (xs : List V) : Prop := ∀ x ∈ xs, Good G x
theorem Goods.ex {G G' : Hp} {xs : List V} (e : Ex G G') (h : Goods G xs) : Goods G' xs := fun x hx => (h x hx).ex e
theorem Goods.nil {G : Hp} : Goods G [] := fun _ h => nomatch h
theorem Goods.snoc {G : Hp} {x : V} {xs : List V} (a : Goods G xs) (h : Good G x) : Goods G (xs ++ [x]) := fun y hy => by
  rcases List.mem_append.mp hy with hy | hy
  · exact a y hy
  · rw [List.mem_singleton.mp hy]
    exact h
/-- one more pair -/
theorem Goods.more {H0 G0 G H : Hp} {p : Option (Addr × Addr × Nat)} {ls : List (Addr × HO)} {xs : List V} {l d : Int} {t : Addr} (a : Goods G xs) (lw : Lw H0 G0 p ls G H) (n : H t = none) (h : 1 ≤ l ∧ l ≤ 12 ∧ 0 ≤ d ∧ d ≤ 32) :
    ∃ G', Ex G G' ∧ Lw H0 G0 p ls G' (upd H t (.tup [.int l, .int d])) ∧ Goods G' (xs ++ [.ref t]) := by
  obtain ⟨G', e, lw, ht⟩ := lw.allocE (o := .tup [.int l, .int d]) n
  exact ⟨G', e, lw, (a.ex e).snoc ⟨t, l, d, rfl, ht, h⟩⟩
theorem countE_l {l d : Int} (h : ¬ (1 ≤ l ∧ l ≤ 12)) : countE l d = some (.count l) := by
  unfold countE checkE
  rw [if_neg h]
theorem countE_d {l d : Int} (h : 1 ≤ l ∧ l ≤ 12) (k : ¬ (0 ≤ d ∧ d ≤ 32)) : countE l d = some (.count d) := by
  unfold countE checkE
  rw [if_pos h]
  exact if_neg k
theorem call_bad {H0 G0 G H : Hp} {p : Option (Addr × Addr × Nat)} {ls : List (Addr × HO)} {m x y : Int} {er : Er} {Q : VK} (hm : m = 0 ∨ m = 1) (he : countE x y = some er) (lw : Lw H0 G0 p ls G H)
    (k : ∀ G' H' v, Ex G G' → Lw H0 G0 p ls G' H' → Rp G' v (errD er) → Q v H') : sp_ask [.int m, .int x, .int y] H Q E0 := by
  rcases hm with rfl | rfl
  · refine call_ask (.mono x y) lw rfl fun G' H' v e lw ha => k G' H' v e lw (ans_err (q := .mono x y) ?_ ha)
    show monoE x y = _
    unfold monoE
    rw [he]
  · exact call_ask (.cnt x y) lw rfl fun G' H' v e lw ha => k G' H' v e lw (ans_err (q := .cnt x y) he ha)
/-- (the error told, the error due) -/
theorem ne_bad {H0 G0 G H : Hp} {p : Option (Addr × Addr × Nat)} {ls : List (Addr × HO)} {b : Int} {x : V} {t : Addr} {Q : VK} (lw : Lw H0 G0 p ls G H) (rx : Rp G x (errD (.count b))) (n : H t = none)
    (k : ∀ G', Ex G G' → Lw H0 G0 p ls G' (upd H t (.tup [.str "BadCount", .int b])) → Q (.bl false) (upd H t (.tup [.str "BadCount", .int b]))) : rNeD K x (.ref t) (upd H t (.tup [.str "BadCount", .int b])) Q := by
  obtain ⟨G', e, lw, ht⟩ := lw.allocE (o := .tup [.str "BadCount", .int b]) n
  refine r_neD lw (rx.ex e) (e := errD (.count b)) (.tup ht (.cons (.str _) (.cons (.int _) .nil))) (errD_shaped _) (errD_shaped _) ?_
  rw [errD_self]
  exact k G' e lw
section
variable {H0 G0 G H : Hp} {ls : List (Addr × HO)} {a c : Addr} {n : Nat} {Q : VK}
theorem call_exps {l d : Int} (lw : Lw H0 G0 (some (a, c, n)) ls G H) (h : 1 ≤ l ∧ l ≤ 12 ∧ 0 ≤ d ∧ d ≤ 32) (hn : n + 7 ≤ 1000000)
    (k : ∀ (G' H' : Hp) (t : Addr) (es : List Int), Ex G G' → Lw H0 G0 (some (a, c, n + 7)) ls G' H' → G' t = some (.tup (es.map V.int)) → (es.length : Int) = l → (∀ e ∈ es, 0 ≤ e) → es.sum = d → Q (.ref t) H') : sp_exps [.ref a, .int l, .int d] H Q E0 :=
  call_pool lw hn ⟨l, d, rfl, h⟩ fun G' H' v e lw hv => by
    obtain ⟨l', d', t, es, he, rfl, ht, h1, h2, h3⟩ := hv
    cases he
    exact k G' H' t es e lw ht h1 h2 h3
theorem call_bent {t : Addr} {ns : List Int} (lw : Lw H0 G0 (some (a, c, n)) ls G H) (ht : G t = some (.tup (ns.map V.int))) (h : 0 < ns.length ∧ ns.length ≤ 1000) (hn : n + 3 ≤ 1000000)
    (k : ∀ (G' H' : Hp) (t' : Addr) (ms : List Int), Ex G G' → Lw H0 G0 (some (a, c, n + 3)) ls G' H' → G' t' = some (.tup (List.map V.int ms)) → ms.length ≤ ns.length + 13 → Q (.ref t') H') : sp_bent [.ref a, .ref t] H Q E0 :=
  call_pool lw hn ⟨t, ns, rfl, ht, h⟩ fun G' H' v e lw hv => by
    obtain ⟨t1, t', ns', ms, he, hz, rfl, ht', h1⟩ := hv
    cases he
    rw [ht] at hz
    have hz : ns.map V.int = ns'.map V.int := HO.tup.inj (Option.some.inj hz)
    have hl := congrArg List.length hz
    rw [List.length_map, List.length_map] at hl
    exact k G' H' t' ms e lw ht' (by omega)
variable {p : Option (Addr × Addr × Nat)}
theorem call_placed {t : Addr} {ns : List Int} {wv : V} (lw : Lw H0 G0 p ls G H) (hw : Rp G wv (.list (waysD 13))) (ht : G t = some (.tup (ns.map V.int))) (h : ns.length ≤ 1000)
    (k : ∀ G' H', Ex G G' → Lw H0 G0 p ls G' H' → Q (.bl true) H') : sp_placed [wv, .ref t] H Q E0 :=
  call_pure lw ⟨wv, t, ns, rfl, hw, ht, h⟩ fun G' H' v e lw hv => by
    have hv : v = .bl true := hv
    subst hv
    exact k G' H' e lw
theorem call_before {t : Addr} {ns : List Int} {wv : V} (lw : Lw H0 G0 p ls G H) (hw : Rp G wv (.list (waysD 13))) (ht : G t = some (.tup (ns.map V.int))) (h : ns.length ≤ 12 ∧ (∀ n ∈ ns, 0 ≤ n) ∧ ns.sum ≤ 32)
    (k : ∀ G' H', Ex G G' → Lw H0 G0 p ls G' H' → Q (.int (wbefore ns ns.sum)) H') : sp_before [wv, .ref t] H Q E0 :=
  ⟨ns, call_pure lw ⟨wv, t, rfl, hw, ht, h⟩ fun G' H' v e lw hv => by
    have hv : v = .int (wbefore ns ns.sum) := hv
    subst hv
    exact k G' H' e lw⟩
end
theorem sc_law : FnScope ["script", "pool", "ways", "letters", "degree", "pairs", "turn", "exps", "bent", "twice", "told", "bad", "less", "mode", "pair"] ["script"] (defScope s_law) := ⟨rfl, rfl, rfl, by decide +kernel, rfl, by decide +kernel, by decide +kernel⟩
def sp_law (K : PySem.W.Frag) : Sp := fun vs H Q _ => ∃ (a : Addr) (ns : List Int), vs = [.ref a] ∧ SqL K H a (ns.map V.int) ∧ ns.length ≤ 63 ∧ ∀ H', Q (.bl true) H'
theorem ok_law (T : Tx K mg) {f : Addr} {fd : FuncData} (F : Fun K "law" "law" s_law f fd) : FnOk P w K mg base CX0 8 f fd ["script"] (sp_law K) := by
  refine F.ok sc_law (fun vs H Q E h => ?_) (fun cdv A outer s H vs Q E hr h => ?_)
  · obtain ⟨a, ns, rfl, _⟩ := h
    rfl
  · obtain ⟨a, ns, rfl, hS, _, k⟩ := h
    refine ⟨_, (pss_cons (ps_set (i := 1) sc_law.nd rfl (.inl rfl) (pe_call (ok_pool T) (hr.mono (by decide)) (by rfl) T.pool.g T.pool.F.kp T.pool.b .nil pass0 (pa_cons (pv 0) pa_nil)))
      (pss_cons (ps_set (i := 2) sc_law.nd rfl (.inr rfl) (pe_call0 (ok_ways T) (hr.mono (by decide)) (by rfl) T.ways.g T.ways.F.kp T.ways.b .nil pass0))
      (pss_cons (ps_set (i := 3) sc_law.nd rfl (.inl rfl) (pe_op op_add pe_int (pe_call (ok_draw T) (hr.mono (by decide)) (by rfl) T.draw.g T.draw.F.kp T.draw.b .nil pass0 (pa_cons (pv 1) (pa_cons pe_int pa_nil)))))
      (pss_cons (ps_set (i := 4) sc_law.nd rfl (.inl rfl) (pe_call (ok_draw T) (hr.mono (by decide)) (by rfl) T.draw.g T.draw.F.kp T.draw.b .nil pass0 (pa_cons (pv 1) (pa_cons pe_int pa_nil))))
      (pss_cons (ps_if (pt_cmpR op_eq (pe_call (ok_draw T) (hr.mono (by decide)) (by rfl) T.draw.g T.draw.F.kp T.draw.b .nil pass0 (pa_cons (pv 1) (pa_cons pe_int pa_nil))) pe_int (nomark _)) (pss_cons (ps_set (i := 3) sc_law.nd rfl (.inl rfl) (pe_op op_add pe_int (pe_call (ok_draw T) (hr.mono (by decide)) (by rfl) T.draw.g T.draw.F.kp T.draw.b .nil pass0 (pa_cons (pv 1) (pa_cons pe_int pa_nil)))))
      (pss_one (ps_set (i := 4) sc_law.nd rfl (.inl rfl) (pe_call (ok_draw T) (hr.mono (by decide)) (by rfl) T.draw.g T.draw.F.kp T.draw.b .nil pass0 (pa_cons (pv 1) (pa_cons pe_int pa_nil)))))) pss_nil)
      (pss_cons (ps_set (i := 5) sc_law.nd rfl (.inl rfl) (pe_lst (pa_cons (pe_tup (pa_cons (pv 3) (pa_cons (pv 4) pa_nil))) (pa_cons (pe_tup (pa_cons (pe_op op_add pe_int (pe_call (ok_draw T) (hr.mono (by decide)) (by rfl) T.draw.g T.draw.F.kp T.draw.b .nil pass0 (pa_cons (pv 1) (pa_cons pe_int pa_nil)))) (pa_cons (pe_call (ok_draw T) (hr.mono (by decide)) (by rfl) T.draw.g T.draw.F.kp T.draw.b .nil pass0 (pa_cons (pv 1) (pa_cons pe_int pa_nil))) pa_nil))) (pa_cons (pe_tup (pa_cons (pe_op op_add pe_int (pe_call (ok_draw T) (hr.mono (by decide)) (by rfl) T.draw.g T.draw.F.kp T.draw.b .nil pass0 (pa_cons (pv 1) (pa_cons pe_int pa_nil)))) (pa_cons pe_int pa_nil))) (pa_cons (pe_tup (pa_cons pe_int (pa_cons pe_int pa_nil))) pa_nil))))))
      (pss_cons (ps_expr (pe_bm PySem.F.plainAttrs_list PySem.F.slot_list_append PySem.F.type_list_append mt_append (pv 5) (pa_cons (pe_ix (UfK.ix_listK (K := K)) (pe_lst (pa_cons (pe_tup (pa_cons pe_int (pa_cons pe_int pa_nil))) (pa_cons (pe_tup (pa_cons pe_int (pa_cons pe_int pa_nil))) (pa_cons (pe_tup (pa_cons pe_int (pa_cons pe_int pa_nil))) (pa_cons (pe_tup (pa_cons pe_int (pa_cons pe_int pa_nil))) (pa_cons (pe_tup (pa_cons pe_int (pa_cons pe_int pa_nil))) (pa_cons (pe_tup (pa_cons pe_int (pa_cons pe_int pa_nil))) (pa_cons (pe_tup (pa_cons pe_int (pa_cons pe_int pa_nil))) (pa_cons (pe_tup (pa_cons pe_int (pa_cons pe_int pa_nil))) pa_nil))))))))) (pe_call (ok_draw T) (hr.mono (by decide)) (by rfl) T.draw.g T.draw.F.kp T.draw.b .nil pass0 (pa_cons (pv 1) (pa_cons pe_int pa_nil))) (fun _ _ => rfl)) pa_nil)))
      (pss_cons (ps_if (pt_not (pt_val (pe_callB (UfK.cr_allK (K := K) rfl) (by rfl) T.z_all (by decide +kernel) (pa_cons (pe_lc (own := [("pair", 14)]) rfl sc_law.nd (UfK.pi_listK (K := K) (pv 5)) (blkOk_by (own := [("pair", 14)]) (N := ["script", "pool", "ways", "letters", "degree", "pairs", "turn", "exps", "bent", "twice", "told", "bad", "less", "mode", "pair"]) (sc := defScope s_law) (by decide +kernel)) (fun _ _ _ _ _ => by exact pg_name (i := 14) sc_law.nd rfl (.inl rfl)) (fun _ _ _ _ _ => pts_nil) (fun _ _ _ _ _ => (pe_call (ok_listed T) (hr.mono (by decide)) (by rfl) T.listed.g T.listed.F.kp T.listed.b .nil pass0 (pa_cons (pv 2) (pa_cons (pe_ix (UfK.ix_tupK (K := K)) (pv 14) pe_int (fun _ _ => rfl)) (pa_cons (pe_ix (UfK.ix_tupK (K := K)) (pv 14) pe_int (fun _ _ => rfl)) pa_nil)))))) pa_nil)))) (pss_one (ps_ret pe_bl)) pss_nil)
      (pss_cons (ps_for PassesOwn.never rfl (pi_range1 rfl T.z_range (pa_cons pe_int pa_nil)) (pg_name (i := 6) sc_law.nd rfl (.inl rfl)) (pss_cons (ps_set (i := 7) sc_law.nd rfl (.inl rfl) (pe_call (ok_exps T) (hr.mono (by decide)) (by rfl) T.exps.g T.exps.F.kp T.exps.b .nil pass0 (pa_cons (pv 1) (pa_cons (pv 3) (pa_cons (pv 4) pa_nil)))))
      (pss_cons (ps_set (i := 8) sc_law.nd rfl (.inl rfl) (pe_call (ok_bent T) (hr.mono (by decide)) (by rfl) T.bent.g T.bent.F.kp T.bent.b .nil pass0 (pa_cons (pv 1) (pa_cons (pv 7) pa_nil))))
      (pss_cons (ps_set (i := 9) sc_law.nd rfl (.inl rfl) (pe_ifExp (pt_cmpR op_gt (pe_callB (UfK.call_lenK (K := K)) (by rfl) T.z_len (by decide +kernel) (pa_cons (pv 8) pa_nil)) pe_int (nomark _)) (pe_call (ok_bent T) (hr.mono (by decide)) (by rfl) T.bent.g T.bent.F.kp T.bent.b .nil pass0 (pa_cons (pv 1) (pa_cons (pv 8) pa_nil))) (pv 8)))
      (pss_cons (ps_if (PW.pt (pw_or (pt_not (pt_val (pe_call (ok_placed T) (hr.mono (by decide)) (by rfl) T.placed.g T.placed.F.kp T.placed.b .nil pass0 (pa_cons (pv 2) (pa_cons (pv 7) pa_nil))))) (pw_or (pt_not (pt_val (pe_call (ok_placed T) (hr.mono (by decide)) (by rfl) T.placed.g T.placed.F.kp T.placed.b .nil pass0 (pa_cons (pv 2) (pa_cons (pv 8) pa_nil))))) (pw_or1 (pt_not (pt_val (pe_call (ok_placed T) (hr.mono (by decide)) (by rfl) T.placed.g T.placed.F.kp T.placed.b .nil pass0 (pa_cons (pv 2) (pa_cons (pv 9) pa_nil))))))))) (pss_one (ps_ret pe_bl)) pss_nil)
      (pss_one (ps_if (pt_not (pt_val (pe_call (ok_placed T) (hr.mono (by decide)) (by rfl) T.placed.g T.placed.F.kp T.placed.b .nil pass0 (pa_cons (pv 2) (pa_cons (pe_call (ok_exps T) (hr.mono (by decide)) (by rfl) T.exps.g T.exps.F.kp T.exps.b .nil pass0 (pa_cons (pv 1) (pa_cons (pe_op op_add pe_int (pe_call (ok_draw T) (hr.mono (by decide)) (by rfl) T.draw.g T.draw.F.kp T.draw.b .nil pass0 (pa_cons (pv 1) (pa_cons pe_int pa_nil)))) (pa_cons (pe_call (ok_draw T) (hr.mono (by decide)) (by rfl) T.draw.g T.draw.F.kp T.draw.b .nil pass0 (pa_cons (pv 1) (pa_cons pe_int pa_nil))) pa_nil)))) pa_nil))))) (pss_one (ps_ret pe_bl)) pss_nil)))))))
      (pss_cons (ps_set (i := 10) sc_law.nd rfl (.inl rfl) (pe_call (ok_ask T) (hr.mono (by decide)) (by rfl) T.ask.g T.ask.F.kp T.ask.b .nil pass0 (pa_cons pe_int (pa_cons (pv 3) (pa_cons (pv 4) pa_nil)))))
      (pss_cons (ps_if (PW.pt (pw_and (pt_cmpR op_eq (pe_ix (UfK.ix_tupK (K := K)) (pv 10) pe_int (fun _ _ => rfl)) pe_str (nomark _)) (pw_and1 (pt_cmpR (UfK.op_neDK (K := K) hr.units) (pe_ix (UfK.ix_listK (K := K)) (pe_ix (UfK.ix_tupK (K := K)) (pv 10) pe_int (fun _ _ => rfl)) (pe_call (ok_before T) (hr.mono (by decide)) (by rfl) T.before.g T.before.F.kp T.before.b .nil pass0 (pa_cons (pv 2) (pa_cons (pv 7) pa_nil))) (fun _ _ => rfl)) (pv 7) (nomark _))))) (pss_one (ps_ret pe_bl)) pss_nil)
      (pss_cons (ps_set (i := 11) sc_law.nd rfl (.inl rfl) (pe_ix (UfK.ix_tupK (K := K)) (pe_tup (pa_cons pe_int (pa_cons pe_int (pa_cons (pe_un un_neg pe_int) (pa_cons (pe_op op_pow pe_int pe_int) pa_nil))))) (pe_call (ok_draw T) (hr.mono (by decide)) (by rfl) T.draw.g T.draw.F.kp T.draw.b .nil pass0 (pa_cons (pv 1) (pa_cons pe_int pa_nil))) (fun _ _ => rfl)))
      (pss_cons (ps_set (i := 12) sc_law.nd rfl (.inl rfl) (pe_ix (UfK.ix_tupK (K := K)) (pe_tup (pa_cons (pe_un un_neg pe_int) (pa_cons pe_int (pa_cons (pe_un un_neg (pe_op op_pow pe_int pe_int)) (pa_cons pe_int pa_nil))))) (pe_call (ok_draw T) (hr.mono (by decide)) (by rfl) T.draw.g T.draw.F.kp T.draw.b .nil pass0 (pa_cons (pv 1) (pa_cons pe_int pa_nil))) (fun _ _ => rfl)))
      (pss_cons (ps_for PassesOwn.never rfl (UfK.pi_tupK (K := K) (pe_tup (pa_cons pe_int (pa_cons pe_int pa_nil)))) (pg_name (i := 13) sc_law.nd rfl (.inl rfl)) (pss_cons (ps_if (PW.pt (pw_or (pt_cmpR (UfK.op_neDK (K := K) hr.units) (pe_call (ok_ask T) (hr.mono (by decide)) (by rfl) T.ask.g T.ask.F.kp T.ask.b .nil pass0 (pa_cons (pv 13) (pa_cons (pv 11) (pa_cons (pv 4) pa_nil)))) (pe_tup (pa_cons pe_str (pa_cons (pv 11) pa_nil))) (nomark _)) (pw_or1 (pt_cmpR (UfK.op_neDK (K := K) hr.units) (pe_call (ok_ask T) (hr.mono (by decide)) (by rfl) T.ask.g T.ask.F.kp T.ask.b .nil pass0 (pa_cons (pv 13) (pa_cons (pv 11) (pa_cons (pv 12) pa_nil)))) (pe_tup (pa_cons pe_str (pa_cons (pv 11) pa_nil))) (nomark _))))) (pss_one (ps_ret pe_bl)) pss_nil)
      (pss_one (ps_if (pt_cmpR (UfK.op_neDK (K := K) hr.units) (pe_call (ok_ask T) (hr.mono (by decide)) (by rfl) T.ask.g T.ask.F.kp T.ask.b .nil pass0 (pa_cons (pv 13) (pa_cons (pv 3) (pa_cons (pv 12) pa_nil)))) (pe_tup (pa_cons pe_str (pa_cons (pv 12) pa_nil))) (nomark _)) (pss_one (ps_ret pe_bl)) pss_nil))))
      (pss_one (ps_ret (pe_cmpR (UfK.op_eqDK (K := K) hr.units) (pe_call (ok_ask T) (hr.mono (by decide)) (by rfl) T.ask.g T.ask.F.kp T.ask.b .nil pass0 (pa_cons pe_int (pa_cons (pe_tup pa_nil) (pa_cons pe_int pa_nil)))) (pe_tup (pa_cons pe_str (pa_cons pe_int pa_nil))) (nomark _)))))))))))))))))), ?_⟩
    -- pool, ways, letters, degree
    refine ⟨_, rfl, a, ns, rfl, hS, fun H1 p c lw => ?_⟩
    show sp_ways _ _ _ E0
    refine call_pure lw rfl fun G2 H2 wv e2 lw hw => ?_
    refine ⟨_, rfl, call_draw lw (by decide) (by decide) (by decide) fun G3 H3 l e3 lw l0 l1 => ⟨_, _, rfl, rfl, ?_⟩⟩
    refine ⟨_, rfl, call_draw lw (by decide) (by decide) (by decide) fun G4 H4 d e4 lw d0 d1 => ?_⟩
    have hw : Rp G4 wv (.list (waysD 13)) := (Rp.ex e4 (Rp.ex e3 hw))
    refine gName_ap ?_
    dsimp only
    refine seq_rest (fun σ H' => ∃ (G : Hp) (l d : Int), σ = [some (.ref a), some (.ref p), some wv, some (.int l), some (.int d), none, none, none, none, none, none, none, none, none, none] ∧ Lw H1 (fun _ => none) (some (p, c, 5)) [] G H' ∧ Rp G wv (.list (waysD 13)) ∧ 1 ≤ l ∧ l ≤ 12 ∧ 0 ≤ d ∧ d ≤ 32)
      (fun σ H' hp => ?_) (fun rest => ?_)
    rotate_left
    · refine ⟨_, rfl, call_draw lw (by decide) (by decide) (by decide) fun G5 H5 z e5 lw z0 z1 => ?_⟩
      refine ⟨rfl, _, rfl, ite2 (fun _ => ?_) (fun _ => ?_)⟩
      · refine ⟨_, rfl, call_draw lw (by decide) (by decide) (by decide) fun G6 H6 l e6 lw l0 l1 => ⟨_, _, rfl, rfl, ?_⟩⟩
        refine ⟨_, rfl, call_draw lw (by decide) (by decide) (by decide) fun G7 H7 d e7 lw d0 d1 => ?_⟩
        exact rest _ _ ⟨G7, 1 + l, d, rfl, lw, Rp.ex e7 (Rp.ex e6 (Rp.ex e5 hw)), by omega, by omega, by omega, by omega⟩
      · exact rest _ _ ⟨G5, 1 + l, d, rfl, lw.more (by decide), Rp.ex e5 hw, by omega, by omega, by omega, by omega⟩
    obtain ⟨G, l, d, rfl, lw, hw, l1, l2, d1, d2⟩ := hp
    -- pairs = [..]
    refine ⟨_, rfl, _, rfl, (by show 2 ≤ sizeLine; decide), fun t1 n1 => ?_⟩
    obtain ⟨Ga, ea, lw, gd⟩ := Goods.more .nil lw n1 ⟨l1, l2, d1, d2⟩
    refine ⟨_, rfl, call_draw lw (by decide) (by decide) (by decide) fun G5 H5 x e5 lw x0 x1 => ⟨_, _, rfl, rfl, ?_⟩⟩
    refine ⟨_, rfl, call_draw lw (by decide) (by decide) (by decide) fun G6 H6 y e6 lw y0 y1 => ⟨(by show 2 ≤ sizeLine; decide), fun t2 n2 => ?_⟩⟩
    obtain ⟨Gb, eb, lw, gd⟩ := Goods.more ((gd.ex e5).ex e6) lw n2 ⟨(show 1 ≤ 1 + x by omega), by omega, y0, by omega⟩
    refine ⟨_, rfl, call_draw lw (by decide) (by decide) (by decide) fun G7 H7 z e7 lw z0 z1 => ⟨_, _, rfl, rfl, (by show 2 ≤ sizeLine; decide), fun t3 n3 => ?_⟩⟩
    obtain ⟨Gc, ec, lw, gd⟩ := Goods.more (gd.ex e7) lw n3 ⟨(show 1 ≤ 1 + z by omega), by omega, (show (0 : Int) ≤ 0 by decide), by decide⟩
    refine ⟨(by show 2 ≤ sizeLine; decide), fun t4 n4 => ?_⟩
    obtain ⟨Gd, ed, lw, gd⟩ := Goods.more gd lw n4 (l := 1) (d := 32) (by decide)
    refine ⟨(by show 4 ≤ sizeLine; decide), fun ps nps => ?_⟩
    have lw := lw.make (o := .lst [.ref t1, .ref t2, .ref t3, .ref t4]) nps
    have hw := (((((((hw.ex ea).ex e5).ex e6).ex eb).ex e7).ex ec).ex ed)
    clear ea e5 e6 eb e7 ec ed n1 n2 n3 n4 x0 x1 y0 y1 z0 z1
    -- pairs.append([..][_law_draw(pool, 8)])
    refine ⟨_, rfl, .inl ⟨rfl, _, L2.SqL.of lw.at⟩, (by show 2 ≤ sizeLine; decide), fun u1 n1 => ?_⟩
    obtain ⟨G1, e1, lw, g8⟩ := Goods.more .nil lw n1 (l := 4) (d := 16) (by decide)
    refine ⟨(by show 2 ≤ sizeLine; decide), fun u2 n2 => ?_⟩
    obtain ⟨G2, e2, lw, g8⟩ := Goods.more g8 lw n2 (l := 4) (d := 17) (by decide)
    refine ⟨(by show 2 ≤ sizeLine; decide), fun u3 n3 => ?_⟩
    obtain ⟨G3, e3, lw, g8⟩ := Goods.more g8 lw n3 (l := 5) (d := 9) (by decide)
    refine ⟨(by show 2 ≤ sizeLine; decide), fun u4 n4 => ?_⟩
    obtain ⟨G4, e4, lw, g8⟩ := Goods.more g8 lw n4 (l := 5) (d := 10) (by decide)
    refine ⟨(by show 2 ≤ sizeLine; decide), fun u5 n5 => ?_⟩
    obtain ⟨G5, e5, lw, g8⟩ := Goods.more g8 lw n5 (l := 11) (d := 4) (by decide)
    refine ⟨(by show 2 ≤ sizeLine; decide), fun u6 n6 => ?_⟩
    obtain ⟨G6, e6, lw, g8⟩ := Goods.more g8 lw n6 (l := 12) (d := 3) (by decide)
    refine ⟨(by show 2 ≤ sizeLine; decide), fun u7 n7 => ?_⟩
    obtain ⟨G7, e7, lw, g8⟩ := Goods.more g8 lw n7 (l := 12) (d := 32) (by decide)
    refine ⟨(by show 2 ≤ sizeLine; decide), fun u8 n8 => ?_⟩
    obtain ⟨G8, e8, lw, g8⟩ := Goods.more g8 lw n8 (l := 3) (d := 32) (by decide)
    have hw := (((((((hw.ex e1).ex e2).ex e3).ex e4).ex e5).ex e6).ex e7).ex e8
    have gd := (((((((gd.ex e1).ex e2).ex e3).ex e4).ex e5).ex e6).ex e7).ex e8
    clear e1 e2 e3 e4 e5 e6 e7 e8 n1 n2 n3 n4 n5 n6 n7 n8
    refine ⟨(by show 8 ≤ sizeLine; decide), fun u9 n9 => ?_⟩
    obtain ⟨G9, e9, lw, h9⟩ := lw.allocE (o := .lst [.ref u1, .ref u2, .ref u3, .ref u4, .ref u5, .ref u6, .ref u7, .ref u8]) n9
    refine ⟨_, rfl, call_draw lw (by decide) (by decide) (by decide) fun Ga Ha ix ea lw i0 i1 => ?_⟩
    obtain ⟨i, rfl⟩ := Int.eq_ofNat_of_zero_le i0
    have hi : i < [V.ref u1, .ref u2, .ref u3, .ref u4, .ref u5, .ref u6, .ref u7, .ref u8].length := by
      show i < 8
      omega
    have hx := List.getElem?_eq_getElem hi
    have gx := g8 _ (List.getElem_mem hi)
    generalize [V.ref u1, .ref u2, .ref u3, .ref u4, .ref u5, .ref u6, .ref u7, .ref u8][i] = x at hx gx
    refine ⟨u9, _, (i : Int), x, rfl, rfl, SqL.g lw (ea _ _ h9), atI_nat hx, ps, _, x, rfl, rfl, lw.at, (by show 4 < sizeLine; decide), ?_⟩
    have lw := lw.put (o' := .lst [.ref t1, .ref t2, .ref t3, .ref t4, x])
    obtain ⟨lw, eb⟩ := lw.keep
    have hp : upd Ga ps (.lst [.ref t1, .ref t2, .ref t3, .ref t4, x]) ps = _ := upd_same
    have gd : Goods (upd Ga ps (.lst [.ref t1, .ref t2, .ref t3, .ref t4, x])) [.ref t1, .ref t2, .ref t3, .ref t4, x] := Goods.ex eb (Goods.ex ea (Goods.ex e9 (Goods.snoc gd gx)))
    have hw := ((hw.ex e9).ex ea).ex eb
    clear eb ea e9
    generalize upd Ga ps (.lst [.ref t1, .ref t2, .ref t3, .ref t4, x]) = Gp at lw hp gd hw
    obtain ⟨xs, hxs⟩ : ∃ xs, xs = [V.ref t1, .ref t2, .ref t3, .ref t4, x] := ⟨_, rfl⟩
    rw [← hxs] at hp gd
    have lxs : xs.length = 5 := by rw [hxs]; rfl
    clear hxs
    -- all([_law_listed(ways, pair[0], pair[1]) for pair in pairs])
    refine ⟨_, rfl, ps, rfl, ⟨_, SqL.g lw hp⟩, fun D hD => lc_true lw hD hp (by omega) (fun i x G' H' acc hx e lw hl Nx kn => ?_) (fun Gq Hq eq lw hDq => ?_)⟩
    · obtain ⟨t, l', d', rfl, ht, b1, b2, b3, b4⟩ := gd x (List.mem_of_getElem? hx)
      have hi : i < xs.length := (List.getElem?_eq_some_iff.mp hx).1
      have ht := e _ _ ht
      refine ⟨rfl, _, rfl, _, rfl, t, _, 0, _, rfl, rfl, SqT.g lw ht, rfl, _, rfl, t, _, 1, _, rfl, rfl, SqT.g lw ht, rfl, ?_⟩
      show sp_listed _ _ _ E0
      refine call_pure lw ⟨wv, l', d', rfl, hw.ex e, b1, b2, b3, b4⟩ fun G5 H5 v e5 lw hv => ?_
      have hv : v = .bl true := hv
      subst hv
      exact ⟨acc, lw.at, Evl.sz_lt (by omega), kn _ _ e5 lw.put⟩
    refine ⟨D, _, rfl, SqL.g lw hDq, ?_⟩
    rw [all_true]
    refine ⟨true, rfl, iteF ?_⟩
    have hw := hw.ex eq
    clear hDq hD D eq
    -- for turn in range(4)
    refine ⟨4, rfl, by decide, by decide, for_range (lo := 0) (n := (4 : Int).toNat)
      (fun i σ H' => ∃ (G : Hp) (z6 z7 z8 z9 : Option V), σ = [some (.ref a), some (.ref p), some wv, some (.int l), some (.int d), some (.ref ps), z6, z7, z8, z9, none, none, none, none, none] ∧ Lw H1 (fun _ => none) (some (p, c, 9 + 22 * i)) [] G H' ∧ Rp G wv (.list (waysD 13)) ∧
        (i = 0 ∨ ∃ (t : Addr) (es : List Int), z7 = some (.ref t) ∧ G t = some (.tup (es.map V.int)) ∧ (es.length : Int) = l ∧ (∀ e ∈ es, 0 ≤ e) ∧ es.sum = d))
      ⟨Gq, none, none, none, none, rfl, lw, hw, .inl rfl⟩ (fun i σ H' hi hp => ?_) (fun σ H' hp => ?_)⟩
    · have hi : i < 4 := hi
      obtain ⟨G, z6, z7, z8, z9, rfl, lw, hw, _⟩ := hp
      -- exps, bent
      refine ⟨_, rfl, _, rfl, _, rfl, call_exps lw ⟨l1, l2, d1, d2⟩ (by omega) fun G1 H2 t es e1 lw ht h1 h2 h3 => ?_⟩
      refine ⟨_, rfl, _, rfl, call_bent lw ht ⟨by omega, by omega⟩ (by omega) fun G2 H3 tb bs e2 lw htb hb => ?_⟩
      have hw := (hw.ex e1).ex e2
      have ht := e2 _ _ ht
      -- twice
      refine gName_ap ?_
      dsimp only
      refine seq_rest (fun σ H' => ∃ (G : Hp) (tw : Addr) (ms : List Int), σ = [some (.ref a), some (.ref p), some wv, some (.int l), some (.int d), some (.ref ps), some (.int (0 + (i : Int))), some (.ref t), some (.ref tb), some (.ref tw), none, none, none, none, none] ∧
        Lw H1 (fun _ => none) (some (p, c, 9 + 22 * i + 13)) [] G H' ∧ Rp G wv (.list (waysD 13)) ∧ G t = some (.tup (es.map V.int)) ∧ G tb = some (.tup (bs.map V.int)) ∧ G tw = some (.tup (ms.map V.int)) ∧ ms.length ≤ 1000) (fun σ H' hp => ?_) (fun rest => ?_)
      rotate_left
      · refine ⟨_, rfl, tb, _, rfl, .inr (SqT.g lw htb), _, _, rfl, rfl, _, rfl, ite2 (fun h => ?_) (fun h => ?_)⟩
        · rw [List.length_map] at h
          refine ⟨_, rfl, _, rfl, call_bent lw htb ⟨by simp at h; omega, by omega⟩ (by omega) fun G3 H4 tw ms e3 lw htw hm => ?_⟩
          exact rest _ _ ⟨G3, tw, ms, rfl, lw.more (by omega), hw.ex e3, e3 _ _ ht, e3 _ _ htb, htw, by omega⟩
        · exact ⟨_, rfl, rest _ _ ⟨G2, tb, bs, rfl, lw.more (by omega), hw, ht, htb, htb, by omega⟩⟩
      obtain ⟨G3, tw, ms, rfl, lw, hw, ht, htb, htw, hm⟩ := hp
      -- if not _law_placed(ways, exps) or ..
      refine ⟨_, rfl, _, rfl, call_placed lw hw ht (by omega) fun G4 H5 e4 lw => ⟨true, rfl, iteF ?_⟩⟩
      refine ⟨_, rfl, _, rfl, call_placed lw (hw.ex e4) (e4 _ _ htb) (by omega) fun G5 H6 e5 lw => ⟨true, rfl, iteF ?_⟩⟩
      refine ⟨_, rfl, _, rfl, call_placed lw ((hw.ex e4).ex e5) (e5 _ _ (e4 _ _ htw)) hm fun G6 H7 e6 lw => ⟨true, rfl, iteF ?_⟩⟩
      have hw := ((hw.ex e4).ex e5).ex e6
      have ht := e6 _ _ (e5 _ _ (e4 _ _ ht))
      -- if not _law_placed(ways, _law_exps(..))
      refine ⟨_, rfl, _, rfl, _, rfl, call_draw lw (by decide) (by decide) (by omega) fun G7 H8 x e7 lw x0 x1 => ⟨_, _, rfl, rfl, ?_⟩⟩
      refine ⟨_, rfl, call_draw lw (by decide) (by decide) (by omega) fun G8 H9 y e8 lw y0 y1 => ?_⟩
      refine call_exps lw ⟨(show 1 ≤ 1 + x by omega), by omega, y0, by omega⟩ (by omega) fun G9 Hx tx es2 e9 lw htx o1 o2 o3 => ?_
      refine call_placed lw (((hw.ex e7).ex e8).ex e9) htx (by omega) fun Ga Hy ea lw => ⟨true, rfl, iteF ?_⟩
      exact ⟨Ga, some _, some _, some _, some _, rfl, lw.more (by omega), (((hw.ex e7).ex e8).ex e9).ex ea, .inr ⟨t, es, rfl, ea _ _ (e9 _ _ (e8 _ _ (e7 _ _ ht))), h1, h2, h3⟩⟩
    obtain ⟨G, z6, z7, z8, z9, rfl, lw, hw, hz⟩ := hp
    obtain ⟨t, es, rfl, ht, h1, h2, h3⟩ := hz.resolve_left (fun z => nomatch z)
    have lw : Lw H1 (fun _ => none) (some (p, c, 97)) [] G H' := lw
    have hc : countE l d = none := countE_ok l1 l2 d1 d2
    -- told = _law_ask(0, letters, degree)
    refine ⟨_, rfl, _, rfl, call_ask (.mono l d) lw rfl fun Ga Ha v ea lw hv => ?_⟩
    have ht := ea _ _ ht
    have hw := hw.ex ea
    refine gName_ap ?_
    dsimp only
    -- if told[0] == 'told' and told[1][_law_before(ways, exps)] != exps
    refine seq_rest (fun σ H' => ∃ G : Hp, σ = [some (.ref a), some (.ref p), some wv, some (.int l), some (.int d), some (.ref ps), z6, some (.ref t), z8, z9, some v, none, none, none, none] ∧ Lw H1 (fun _ => none) (some (p, c, 97)) [] G H') (fun σ H' hp => ?_) (fun rest => ?_)
    rotate_left
    · cases hm : monoE l d with
      | some er =>
        have rv := ans_err (q := .mono l d) hm hv
        have hb : ∃ n, er = .large n := by
          unfold monoE at hm
          rw [hc] at hm
          by_cases z : countV l d ≤ 1000
          · have hm : (if countV l d ≤ 1000 then none else some (Er.large (countV l d))) = some er := hm
            rw [if_pos z] at hm
            cases hm
          · have hm : (if countV l d ≤ 1000 then none else some (Er.large (countV l d))) = some er := hm
            rw [if_neg z] at hm
            exact ⟨_, (Option.some.inj hm).symm⟩
        obtain ⟨n, rfl⟩ := hb
        cases rv with
        | tup hq rs =>
          rename_i tq ys
          cases rs with
          | cons r1 rs =>
            cases r1
            exact ⟨_, rfl, tq, _, ((0 : Nat) : Int), .str "TooLarge", rfl, rfl, SqT.g lw hq, atI_nat (j := 0) rfl, rfl, _, rfl, ite2 (fun h => absurd h (by decide +kernel)) (fun _ => rest _ _ ⟨Ga, rfl, lw⟩)⟩
      | none =>
        obtain ⟨tq, x, Gx, rfl, hq, hx, ex⟩ := ans_told (q := .mono l d) hm hv
        obtain ⟨la, xs2, rfl, _, hxs2, rx2⟩ : NewTups G Gx x (monoL l.toNat d) := hx
        have hxs2 := ex _ _ hxs2
        have rx2 := rx2.ex ex
        obtain ⟨dn, hdn⟩ := Int.eq_ofNat_of_zero_le d1
        have place := monoT_at es dn (by omega) h2 (by omega)
        rw [← hdn, show es.length = l.toNat by omega, ← monoL_eq (by omega) d1] at place
        obtain ⟨p0, p1⟩ := place
        obtain ⟨v0, hv0, rv0⟩ := rx2.get (i := (wbefore es d).toNat) (d := monoD es) (by rw [List.getElem?_map, p1]; rfl)
        refine ⟨_, rfl, tq, _, 0, _, rfl, rfl, SqT.g lw hq, rfl, rfl, _, rfl, ite2 (fun _ => ?_) (fun h => (h (decide_eq_true rfl)).elim)⟩
        refine ⟨_, rfl, tq, _, 1, _, rfl, rfl, SqT.g lw hq, rfl, _, rfl, _, rfl, call_before lw hw ht ⟨by omega, h2, by omega⟩ fun Gb Hb eb lw => ?_⟩
        refine ⟨la, xs2, ((wbefore es d).toNat : Int), v0, rfl, congrArg V.int (show wbefore es es.sum = _ by rw [h3, Int.toNat_of_nonneg p0]), SqL.g lw (eb _ _ hxs2), atI_nat hv0, _, rfl, ?_⟩
        refine r_neD lw (rv0.ex eb) (.tupI (eb _ _ ht)) (shaped_tupI _) (shaped_tupI _) ?_
        rw [show PyData.eqv (monoD es) (.tuple (es.map PyData.int)) = true from (eqv_tupI _ _).trans (decide_eq_true rfl)]
        exact ⟨_, rfl, iteF (rest _ _ ⟨Gb, rfl, lw⟩)⟩
    obtain ⟨G, rfl, lw⟩ := hp
    -- bad
    refine ⟨_, rfl, _, _, rfl, rfl, pow_small (by decide) (by decide), (by show 4 ≤ sizeLine; decide), fun tb nb => ?_⟩
    obtain ⟨Ga, ea, lw, hb⟩ := lw.allocE (o := .tup (([0, 13, -1, (10 : Int) ^ (30 : Int).toNat] : List Int).map V.int)) nb
    refine ⟨_, rfl, call_draw lw (by decide) (by decide) (by decide) fun Gb Hb ix eb lw i0 i1 => ?_⟩
    obtain ⟨i, rfl⟩ := Int.eq_ofNat_of_zero_le i0
    obtain ⟨bad, hbad⟩ : ∃ b, ([0, 13, -1, (10 : Int) ^ (30 : Int).toNat] : List Int)[i]? = some b := ⟨_, List.getElem?_eq_getElem (show i < 4 by omega)⟩
    have nbad : ¬ (1 ≤ bad ∧ bad ≤ 12) := (show ∀ b ∈ ([0, 13, -1, (10 : Int) ^ (30 : Int).toNat] : List Int), ¬ (1 ≤ b ∧ b ≤ 12) by decide) bad (List.mem_of_getElem? hbad)
    refine ⟨tb, _, (i : Int), .int bad, rfl, rfl, SqT.g lw (eb _ _ hb), atI_nat (by rw [List.getElem?_map, hbad]; rfl), ?_⟩
    -- less
    refine ⟨_, rfl, _, _, rfl, rfl, pow_small (by decide) (by decide), _, rfl, (by show 4 ≤ sizeLine; decide), fun tl nl => ?_⟩
    obtain ⟨Gc, ec, lw, hl⟩ := lw.allocE (o := .tup (([-1, 33, -((10 : Int) ^ (30 : Int).toNat), 600] : List Int).map V.int)) nl
    refine ⟨_, rfl, call_draw lw (by decide) (by decide) (by decide) fun Gd Hd jx ed lw j0 j1 => ?_⟩
    obtain ⟨j, rfl⟩ := Int.eq_ofNat_of_zero_le j0
    obtain ⟨less, hless⟩ : ∃ b, ([-1, 33, -((10 : Int) ^ (30 : Int).toNat), 600] : List Int)[j]? = some b := ⟨_, List.getElem?_eq_getElem (show j < 4 by omega)⟩
    have nless : ¬ (0 ≤ less ∧ less ≤ 32) := (show ∀ b ∈ ([-1, 33, -((10 : Int) ^ (30 : Int).toNat), 600] : List Int), ¬ (0 ≤ b ∧ b ≤ 32) by decide) less (List.mem_of_getElem? hless)
    refine ⟨tl, _, (j : Int), .int less, rfl, rfl, SqT.g lw (ed _ _ hl), atI_nat (by rw [List.getElem?_map, hless]; rfl), ?_⟩
    clear ea eb ec ed hb hl nb nl i0 i1 j0 j1 hbad hless
    -- for mode in (0, 1)
    refine ⟨(by show 2 ≤ sizeLine; decide), fun tm nm => ?_⟩
    obtain ⟨Ge, ee, lw, hm⟩ := lw.allocE (o := .tup (([0, 1] : List Int).map V.int)) nm
    refine ⟨tm, rfl, ⟨_, SqT.g lw hm⟩, for_tup (K := K) (a := tm) (xs := ([0, 1] : List Int).map V.int)
      (fun i σ H' => ∃ (G : Hp) (z : Option V), σ = [some (.ref a), some (.ref p), some wv, some (.int l), some (.int d), some (.ref ps), z6, some (.ref t), z8, z9, some v, some (.int bad), some (.int less), z, none] ∧ Lw H1 (fun _ => none) (some (p, c, 99)) [] G H' ∧ G tm = some (.tup (([0, 1] : List Int).map V.int)))
      ⟨Ge, none, rfl, lw, hm⟩ (fun i σ H' _ hp => ?_) (fun i x σ H' hx hp => ?_) (fun σ H' hp => ?_)⟩
    · obtain ⟨G, z, _, lw, hm⟩ := hp
      exact SqT.g lw hm
    · obtain ⟨G, z, rfl, lw, hm⟩ := hp
      obtain ⟨m, hmm, rfl⟩ := at_int hx
      have m01 : m = 0 ∨ m = 1 := by
        have := List.mem_of_getElem? hmm
        simpa using this
      refine ⟨_, rfl, _, rfl, _, rfl, call_bad m01 (countE_l nbad) lw fun G1 H2 v1 e1 lw rv => ?_⟩
      refine ⟨_, rfl, (by show 2 ≤ sizeLine; decide), fun t1 n1 => ?_⟩
      refine ne_bad lw rv n1 fun G2 e2 lw => ⟨_, rfl, iteF ?_⟩
      refine ⟨_, rfl, _, rfl, _, rfl, call_bad m01 (countE_l nbad) lw fun G3 H3 v3 e3 lw rv => ?_⟩
      refine ⟨_, rfl, (by show 2 ≤ sizeLine; decide), fun t3 n3 => ?_⟩
      refine ne_bad lw rv n3 fun G4 e4 lw => ⟨_, rfl, iteF ?_⟩
      refine ⟨_, rfl, _, rfl, _, rfl, call_bad m01 (countE_d ⟨l1, l2⟩ nless) lw fun G5 H5 v5 e5 lw rv => ?_⟩
      refine ⟨_, rfl, (by show 2 ≤ sizeLine; decide), fun t5 n5 => ?_⟩
      refine ne_bad lw rv n5 fun G6 e6 lw => ⟨_, rfl, iteF ?_⟩
      exact ⟨G6, some _, rfl, lw, e6 _ _ (e5 _ _ (e4 _ _ (e3 _ _ (e2 _ _ (e1 _ _ hm)))))⟩
    obtain ⟨G, z, rfl, lw, hm⟩ := hp
    -- return _law_ask(2, (), 0) == ('BadCount', 0)
    refine ⟨(by show 0 ≤ sizeLine; decide), fun t0 n0 => ?_⟩
    obtain ⟨G1, e1, lw, h0⟩ := lw.allocE (o := .tup (([] : List Int).map V.int)) n0
    refine call_ask (.plc []) lw ⟨t0, rfl, h0⟩ fun G2 H2 v2 e2 lw hv => ?_
    have rv := ans_err (q := .plc []) (er := .count 0) rfl hv
    refine ⟨(by show 2 ≤ sizeLine; decide), fun t3 n3 => ?_⟩
    obtain ⟨G3, e3, lw, h3⟩ := lw.allocE (o := .tup [.str "BadCount", .int 0]) n3
    refine r_eqD lw (rv.ex e3) (e := errD (.count 0)) (.tup h3 (.cons (.str _) (.cons (.int _) .nil))) (errD_shaped _) (errD_shaped _) ?_
    rw [errD_self]
    exact k _
end
end K93

namespace K93
open PySem PySem.Spec PyProof.Rows L2 UfG UfT
theorem kit_eq {K : PySem.W.Frag} {D : Addr} : PySem.W.kitOne K (.ref D) (.ref D) = some true := by
  have e : ((Value.ref D) == (Value.ref D)) = true := beq_iff_eq.mpr rfl
  show (if ((Value.ref D) == (Value.ref D)) = true then some true else _) = _
  rw [if_pos e]
theorem kit_cl {K : PySem.W.Frag} {D C : Addr} {b : Bool} (h1 : PySem.W.isClsIn K C = true) (h2 : PySem.W.typeIn K (.ref C) = some (.type "type")) (h3 : PySem.W.subIn K (.ref D) (.ref C) = some b) : PySem.W.kitCls K (.ref D) (.ref C) = some b := by
  have h1 : (PySem.W.clsIn K C).isSome = true := h1
  have e : ((PySem.W.clsIn K C).isSome && PySem.W.typeIn K (.ref C) == some (.type "type")) = true := by rw [h1, h2] <;> rfl
  show (if ((PySem.W.clsIn K C).isSome && PySem.W.typeIn K (.ref C) == some (.type "type")) = true then PySem.W.subIn K (.ref D) (.ref C) else none) = _
  rw [if_pos e]
  exact h3
theorem kit_ne {K : PySem.W.Frag} {D C : Addr} (h1 : PySem.W.isClsIn K C = true) (h2 : PySem.W.typeIn K (.ref C) = some (.type "type")) (h3 : PySem.W.subIn K (.ref D) (.ref C) = some false) (h4 : PySem.W.subIn K (.ref D) (.ref D) = some true) :
    PySem.W.kitOne K (.ref D) (.ref C) = some false := by
  have e : ¬ ((Value.ref D) == (Value.ref C)) = true := fun z => by
    have z : Value.ref D = Value.ref C := beq_iff_eq.mp z
    rw [← z, h4] at h3
    cases h3
  show (if ((Value.ref D) == (Value.ref C)) = true then some true else PySem.W.kitCls K (.ref D) (.ref C)) = _
  rw [if_neg e]
  exact kit_cl h1 h2 h3
theorem kit_bi {K : PySem.W.Frag} {D : Addr} {T : String} {b : Bool} (h1 : PySem.W.kitMeta T = true) (h2 : PySem.W.subIn K (.ref D) (.type T) = some b) : PySem.W.kitOne K (.ref D) (.type T) = some b := by
  have e : ¬ ((Value.ref D) == (Value.type T)) = true := fun z => by
    have z : Value.ref D = Value.type T := beq_iff_eq.mp z
    cases z
  show (if ((Value.ref D) == (Value.type T)) = true then some true else (if PySem.W.kitMeta T = true then PySem.W.subIn K (.ref D) (.type T) else none)) = _
  rw [if_neg e, if_pos h1]
  exact h2
theorem exm_cl {K : PySem.W.Frag} {D C : Addr} {b : Bool} (h0 : PySem.W.subIn K (.ref C) (.type "BaseException") = some true) (h1 : PySem.W.isClsIn K C = true) (h2 : PySem.W.typeIn K (.ref C) = some (.type "type")) (h3 : PySem.W.subIn K (.ref D) (.ref C) = some b) :
    PySem.W.exmOne K (.ref D) (.ref C) = some b := by
  have e : (PySem.W.subIn K (.ref C) (.type "BaseException") == some true) = true := by rw [h0] <;> rfl
  show (if (PySem.W.subIn K (.ref C) (.type "BaseException") == some true) = true then PySem.W.kitCls K (.ref D) (.ref C) else none) = _
  rw [if_pos e]
  exact kit_cl h1 h2 h3
theorem all_mk {l : PySem.W.OpenLaw} {w : World} {K : PySem.W.Frag} {h : Heap} {mg : Str → Option Value} {fa : Addr} (X : K.In h) (G : h.Ns mainGlobals mg) (hfa : mg "law" = some (.ref fa))
    {Ce0 fe0 : Addr} {nme0 qe0 : Str} {Ne0 : Addr} {bse0 bme0 : List Value} {sne0 : List Str} {sube0 : List Value} {abe0 : Bool} {cole0 : Option Bool} {dde0 : Option Addr} {m0e0 m1e0 m2e0 m3e0 m5e0 : Option Value}
    {ode0 ane0 : Option Addr} {sle0 : Array (Option Value)} {oce0 kVe0 dce0 pme0 cde0 cte0 : Value}
    {Ce1 fe1 : Addr} {nme1 qe1 : Str} {Ne1 : Addr} {bse1 bme1 : List Value} {sne1 : List Str} {sube1 : List Value} {abe1 : Bool} {cole1 : Option Bool} {dde1 : Option Addr} {m0e1 m1e1 m2e1 m3e1 m5e1 : Option Value}
    {ode1 ane1 : Option Addr} {sle1 : Array (Option Value)} {oce1 kVe1 dce1 pme1 cde1 cte1 : Value}
    {Ce2 fe2 : Addr} {nme2 qe2 : Str} {Ne2 : Addr} {bse2 bme2 : List Value} {sne2 : List Str} {sube2 : List Value} {abe2 : Bool} {cole2 : Option Bool} {dde2 : Option Addr} {m0e2 m1e2 m2e2 m3e2 m5e2 : Option Value}
    {ode2 ane2 : Option Addr} {sle2 : Array (Option Value)} {oce2 kVe2 dce2 pme2 cde2 cte2 : Value}
    {Ce3 fe3 : Addr} {nme3 qe3 : Str} {Ne3 : Addr} {bse3 bme3 : List Value} {sne3 : List Str} {sube3 : List Value} {abe3 : Bool} {cole3 : Option Bool} {dde3 : Option Addr} {m0e3 m1e3 m2e3 m3e3 m5e3 : Option Value}
    {ode3 ane3 : Option Addr} {sle3 : Array (Option Value)} {oce3 kVe3 dce3 pme3 cde3 cte3 : Value}
    {Cy0 : Addr}
    {f0 : Addr} {od0 an0 : Option Addr} {sl0 : Array (Option Value)} {oc0 kV0 dc0 pm0 cd0 ct0 : Value}
    {f1 : Addr} {od1 an1 : Option Addr} {sl1 : Array (Option Value)} {oc1 kV1 dc1 pm1 cd1 ct1 : Value}
    {f2 : Addr} {od2 an2 : Option Addr} {sl2 : Array (Option Value)} {oc2 kV2 dc2 pm2 cd2 ct2 : Value}
    {f3 : Addr} {od3 an3 : Option Addr} {sl3 : Array (Option Value)} {oc3 kV3 dc3 pm3 cd3 ct3 : Value}
    {f4 : Addr} {od4 an4 : Option Addr} {sl4 : Array (Option Value)} {oc4 kV4 dc4 pm4 cd4 ct4 : Value}
    {f5 : Addr} {od5 an5 : Option Addr} {sl5 : Array (Option Value)} {oc5 kV5 dc5 pm5 cd5 ct5 : Value}
    {f6 : Addr} {od6 an6 : Option Addr} {sl6 : Array (Option Value)} {oc6 kV6 dc6 pm6 cd6 ct6 : Value}
    {f7 : Addr} {od7 an7 : Option Addr} {sl7 : Array (Option Value)} {oc7 kV7 dc7 pm7 cd7 ct7 : Value}
    {f8 : Addr} {od8 an8 : Option Addr} {sl8 : Array (Option Value)} {oc8 kV8 dc8 pm8 cd8 ct8 : Value}
    {f9 : Addr} {od9 an9 : Option Addr} {sl9 : Array (Option Value)} {oc9 kV9 dc9 pm9 cd9 ct9 : Value}
    {f10 : Addr} {od10 an10 : Option Addr} {sl10 : Array (Option Value)} {oc10 kV10 dc10 pm10 cd10 ct10 : Value}
    {f11 : Addr} {od11 an11 : Option Addr} {sl11 : Array (Option Value)} {oc11 kV11 dc11 pm11 cd11 ct11 : Value}
    {f12 : Addr} {od12 an12 : Option Addr} {sl12 : Array (Option Value)} {oc12 kV12 dc12 pm12 cd12 ct12 : Value}
    {f13 : Addr} {od13 an13 : Option Addr} {sl13 : Array (Option Value)} {oc13 kV13 dc13 pm13 cd13 ct13 : Value}
    {f14 : Addr} {od14 an14 : Option Addr} {sl14 : Array (Option Value)} {oc14 kV14 dc14 pm14 cd14 ct14 : Value}
    {f15 : Addr} {od15 an15 : Option Addr} {sl15 : Array (Option Value)} {oc15 kV15 dc15 pm15 cd15 ct15 : Value}
    {f16 : Addr} {od16 an16 : Option Addr} {sl16 : Array (Option Value)} {oc16 kV16 dc16 pm16 cd16 ct16 : Value}
    {f17 : Addr} {od17 an17 : Option Addr} {sl17 : Array (Option Value)} {oc17 kV17 dc17 pm17 cd17 ct17 : Value}
    {t_MOST_LETTERS : Tok}
    {t_MOST_DEGREE : Tok}
    {t_MOST_MONOMIALS : Tok}
    (spG : PySem.W.specialIn K (.builtin "object.__class__") "__get__" = some (some (.builtin "getset_descriptor.__get__")))
    (tkG : PySem.W.takesIn K (.builtin "object.__class__") = some true)
    (ge0 : PySem.W.nsIn K mainGlobals "BadCount" = some (some (.ref Ce0)))
    (xLe0 : K.lookup Ce0 = some (excClassObj nme0 qe0 Ce0 Ne0 bse0 bme0 true sne0 sube0 abe0 cole0 dde0 m0e0 m1e0 m2e0 m3e0 m5e0 "ValueError.__new__"))
    (xve0 : PySem.HandSPX.refsVE bme0 = true)
    (sae0 : PySem.W.findIn K (.ref Ce0) "__setattr__" = some (some (.builtin "object.__setattr__")))
    (gae0 : PySem.W.findIn K (.ref Ce0) "__getattribute__" = some (some (.builtin "BaseException.__getattribute__")))
    (gge0 : PySem.W.findIn K (.ref Ce0) "__getattr__" = some none)
    (exe0 : PySem.W.subIn K (.ref Ce0) (.type "BaseException") = some true)
    (tye0 : PySem.W.typeIn K (.ref Ce0) = some (.type "type"))
    (kce0 : PySem.W.keepIn K (.ref Ce0) = true)
    (hde0 : PySem.W.hasDictIn K Ce0 = true)
    (ise0 : PySem.W.isClsIn K Ce0 = true)
    (cle0 : PySem.W.findIn K (.ref Ce0) "__class__" = some (some (.builtin "object.__class__")))
    (moe0 : PySem.W.mroIn K Ce0 (.type "object") = some true)
    (iCe0 : PySem.W.findIn K (.ref Ce0) "__init__" = some (some (.ref fe0)))
    (tIe0 : PySem.W.typeIn K (.ref fe0) = some (.type "function"))
    (le0 : K.lookup fe0 = some ⟨oce0, ode0, .func (PySem.W.fnOf "__init__" "BadCount.__init__" (defArgs i_count) (defBody i_count) (defScope i_count) .none kVe0 dce0 pme0 ane0 cde0 cte0), sle0⟩)
    (ce0 : PySem.W.codeIn K cde0 "BadCount.__init__" = true)
    (ke0 : PySem.W.keepIn K (.ref fe0) = true)
    (ge1 : PySem.W.nsIn K mainGlobals "BadSizes" = some (some (.ref Ce1)))
    (xLe1 : K.lookup Ce1 = some (excClassObj nme1 qe1 Ce1 Ne1 bse1 bme1 true sne1 sube1 abe1 cole1 dde1 m0e1 m1e1 m2e1 m3e1 m5e1 "ValueError.__new__"))
    (xve1 : PySem.HandSPX.refsVE bme1 = true)
    (sae1 : PySem.W.findIn K (.ref Ce1) "__setattr__" = some (some (.builtin "object.__setattr__")))
    (gae1 : PySem.W.findIn K (.ref Ce1) "__getattribute__" = some (some (.builtin "BaseException.__getattribute__")))
    (gge1 : PySem.W.findIn K (.ref Ce1) "__getattr__" = some none)
    (exe1 : PySem.W.subIn K (.ref Ce1) (.type "BaseException") = some true)
    (tye1 : PySem.W.typeIn K (.ref Ce1) = some (.type "type"))
    (kce1 : PySem.W.keepIn K (.ref Ce1) = true)
    (hde1 : PySem.W.hasDictIn K Ce1 = true)
    (ise1 : PySem.W.isClsIn K Ce1 = true)
    (cle1 : PySem.W.findIn K (.ref Ce1) "__class__" = some (some (.builtin "object.__class__")))
    (moe1 : PySem.W.mroIn K Ce1 (.type "object") = some true)
    (iCe1 : PySem.W.findIn K (.ref Ce1) "__init__" = some (some (.ref fe1)))
    (tIe1 : PySem.W.typeIn K (.ref fe1) = some (.type "function"))
    (le1 : K.lookup fe1 = some ⟨oce1, ode1, .func (PySem.W.fnOf "__init__" "BadSizes.__init__" (defArgs i_sizes) (defBody i_sizes) (defScope i_sizes) .none kVe1 dce1 pme1 ane1 cde1 cte1), sle1⟩)
    (ce1 : PySem.W.codeIn K cde1 "BadSizes.__init__" = true)
    (ke1 : PySem.W.keepIn K (.ref fe1) = true)
    (ge2 : PySem.W.nsIn K mainGlobals "BadExponent" = some (some (.ref Ce2)))
    (xLe2 : K.lookup Ce2 = some (excClassObj nme2 qe2 Ce2 Ne2 bse2 bme2 true sne2 sube2 abe2 cole2 dde2 m0e2 m1e2 m2e2 m3e2 m5e2 "ValueError.__new__"))
    (xve2 : PySem.HandSPX.refsVE bme2 = true)
    (sae2 : PySem.W.findIn K (.ref Ce2) "__setattr__" = some (some (.builtin "object.__setattr__")))
    (gae2 : PySem.W.findIn K (.ref Ce2) "__getattribute__" = some (some (.builtin "BaseException.__getattribute__")))
    (gge2 : PySem.W.findIn K (.ref Ce2) "__getattr__" = some none)
    (exe2 : PySem.W.subIn K (.ref Ce2) (.type "BaseException") = some true)
    (tye2 : PySem.W.typeIn K (.ref Ce2) = some (.type "type"))
    (kce2 : PySem.W.keepIn K (.ref Ce2) = true)
    (hde2 : PySem.W.hasDictIn K Ce2 = true)
    (ise2 : PySem.W.isClsIn K Ce2 = true)
    (cle2 : PySem.W.findIn K (.ref Ce2) "__class__" = some (some (.builtin "object.__class__")))
    (moe2 : PySem.W.mroIn K Ce2 (.type "object") = some true)
    (iCe2 : PySem.W.findIn K (.ref Ce2) "__init__" = some (some (.ref fe2)))
    (tIe2 : PySem.W.typeIn K (.ref fe2) = some (.type "function"))
    (le2 : K.lookup fe2 = some ⟨oce2, ode2, .func (PySem.W.fnOf "__init__" "BadExponent.__init__" (defArgs i_expo) (defBody i_expo) (defScope i_expo) .none kVe2 dce2 pme2 ane2 cde2 cte2), sle2⟩)
    (ce2 : PySem.W.codeIn K cde2 "BadExponent.__init__" = true)
    (ke2 : PySem.W.keepIn K (.ref fe2) = true)
    (ge3 : PySem.W.nsIn K mainGlobals "TooLarge" = some (some (.ref Ce3)))
    (xLe3 : K.lookup Ce3 = some (excClassObj nme3 qe3 Ce3 Ne3 bse3 bme3 true sne3 sube3 abe3 cole3 dde3 m0e3 m1e3 m2e3 m3e3 m5e3 "ValueError.__new__"))
    (xve3 : PySem.HandSPX.refsVE bme3 = true)
    (sae3 : PySem.W.findIn K (.ref Ce3) "__setattr__" = some (some (.builtin "object.__setattr__")))
    (gae3 : PySem.W.findIn K (.ref Ce3) "__getattribute__" = some (some (.builtin "BaseException.__getattribute__")))
    (gge3 : PySem.W.findIn K (.ref Ce3) "__getattr__" = some none)
    (exe3 : PySem.W.subIn K (.ref Ce3) (.type "BaseException") = some true)
    (tye3 : PySem.W.typeIn K (.ref Ce3) = some (.type "type"))
    (kce3 : PySem.W.keepIn K (.ref Ce3) = true)
    (hde3 : PySem.W.hasDictIn K Ce3 = true)
    (ise3 : PySem.W.isClsIn K Ce3 = true)
    (cle3 : PySem.W.findIn K (.ref Ce3) "__class__" = some (some (.builtin "object.__class__")))
    (moe3 : PySem.W.mroIn K Ce3 (.type "object") = some true)
    (iCe3 : PySem.W.findIn K (.ref Ce3) "__init__" = some (some (.ref fe3)))
    (tIe3 : PySem.W.typeIn K (.ref fe3) = some (.type "function"))
    (le3 : K.lookup fe3 = some ⟨oce3, ode3, .func (PySem.W.fnOf "__init__" "TooLarge.__init__" (defArgs i_large) (defBody i_large) (defScope i_large) .none kVe3 dce3 pme3 ane3 cde3 cte3), sle3⟩)
    (ce3 : PySem.W.codeIn K cde3 "TooLarge.__init__" = true)
    (ke3 : PySem.W.keepIn K (.ref fe3) = true)
    (gy0 : PySem.W.nsIn K mainGlobals "FormsError" = some (some (.ref Cy0)))
    (nf1 : PySem.W.findIn K (.ref Ce0) "count" = some none)
    (nf2 : PySem.W.findIn K (.ref Ce2) "exponent" = some none)
    (nf3 : PySem.W.findIn K (.ref Ce3) "size" = some none)
    (nf4 : PySem.W.findIn K (.ref Ce0) "count" = some none)
    (nf5 : PySem.W.findIn K (.ref Ce0) "exponent" = some none)
    (nf6 : PySem.W.findIn K (.ref Ce0) "size" = some none)
    (nf7 : PySem.W.findIn K (.ref Ce2) "count" = some none)
    (nf8 : PySem.W.findIn K (.ref Ce2) "exponent" = some none)
    (nf9 : PySem.W.findIn K (.ref Ce2) "size" = some none)
    (nf10 : PySem.W.findIn K (.ref Ce3) "count" = some none)
    (nf11 : PySem.W.findIn K (.ref Ce3) "exponent" = some none)
    (nf12 : PySem.W.findIn K (.ref Ce3) "size" = some none)
    (kt1 : PySem.W.kitOne K (.ref Ce0) (.ref Ce0) = some true)
    (kt2 : PySem.W.kitOne K (.ref Ce0) (.ref Ce2) = some false)
    (kt3 : PySem.W.kitOne K (.ref Ce0) (.ref Ce1) = some false)
    (kt4 : PySem.W.kitOne K (.ref Ce0) (.ref Ce3) = some false)
    (kt5 : PySem.W.kitOne K (.ref Ce0) (.type "ValueError") = some true)
    (kt6 : PySem.W.kitOne K (.ref Ce2) (.ref Ce0) = some false)
    (kt7 : PySem.W.kitOne K (.ref Ce2) (.ref Ce2) = some true)
    (kt8 : PySem.W.kitOne K (.ref Ce2) (.ref Ce1) = some false)
    (kt9 : PySem.W.kitOne K (.ref Ce2) (.ref Ce3) = some false)
    (kt10 : PySem.W.kitOne K (.ref Ce2) (.type "ValueError") = some true)
    (kt11 : PySem.W.kitOne K (.ref Ce3) (.ref Ce0) = some false)
    (kt12 : PySem.W.kitOne K (.ref Ce3) (.ref Ce2) = some false)
    (kt13 : PySem.W.kitOne K (.ref Ce3) (.ref Ce1) = some false)
    (kt14 : PySem.W.kitOne K (.ref Ce3) (.ref Ce3) = some true)
    (kt15 : PySem.W.kitOne K (.ref Ce3) (.type "ValueError") = some true)
    (xm1 : PySem.W.exmOne K (.ref Ce0) (.ref Cy0) = some true)
    (xm2 : PySem.W.exmOne K (.ref Ce2) (.ref Cy0) = some true)
    (xm3 : PySem.W.exmOne K (.ref Ce3) (.ref Cy0) = some true)
    (a0 : PySem.W.nsIn K mainGlobals "monomials" = some (some (.ref f0)))
    (l0 : K.lookup f0 = some ⟨oc0, od0, .func (PySem.W.fnOf "monomials" "monomials" (defArgs s_monomials) (defBody s_monomials) (defScope s_monomials) .none kV0 dc0 pm0 an0 cd0 ct0), sl0⟩)
    (c0 : PySem.W.codeIn K cd0 "monomials" = true)
    (k0 : PySem.W.keepIn K (.ref f0) = true)
    (a1 : PySem.W.nsIn K mainGlobals "monomial_count" = some (some (.ref f1)))
    (l1 : K.lookup f1 = some ⟨oc1, od1, .func (PySem.W.fnOf "monomial_count" "monomial_count" (defArgs s_monomial_count) (defBody s_monomial_count) (defScope s_monomial_count) .none kV1 dc1 pm1 an1 cd1 ct1), sl1⟩)
    (c1 : PySem.W.codeIn K cd1 "monomial_count" = true)
    (k1 : PySem.W.keepIn K (.ref f1) = true)
    (a2 : PySem.W.nsIn K mainGlobals "monomial_place" = some (some (.ref f2)))
    (l2 : K.lookup f2 = some ⟨oc2, od2, .func (PySem.W.fnOf "monomial_place" "monomial_place" (defArgs s_monomial_place) (defBody s_monomial_place) (defScope s_monomial_place) .none kV2 dc2 pm2 an2 cd2 ct2), sl2⟩)
    (c2 : PySem.W.codeIn K cd2 "monomial_place" = true)
    (k2 : PySem.W.keepIn K (.ref f2) = true)
    (a3 : PySem.W.nsIn K mainGlobals "check_letters" = some (some (.ref f3)))
    (l3 : K.lookup f3 = some ⟨oc3, od3, .func (PySem.W.fnOf "check_letters" "check_letters" (defArgs s_check_letters) (defBody s_check_letters) (defScope s_check_letters) .none kV3 dc3 pm3 an3 cd3 ct3), sl3⟩)
    (c3 : PySem.W.codeIn K cd3 "check_letters" = true)
    (k3 : PySem.W.keepIn K (.ref f3) = true)
    (a4 : PySem.W.nsIn K mainGlobals "check_exponents" = some (some (.ref f4)))
    (l4 : K.lookup f4 = some ⟨oc4, od4, .func (PySem.W.fnOf "check_exponents" "check_exponents" (defArgs s_check_exponents) (defBody s_check_exponents) (defScope s_check_exponents) .none kV4 dc4 pm4 an4 cd4 ct4), sl4⟩)
    (c4 : PySem.W.codeIn K cd4 "check_exponents" = true)
    (k4 : PySem.W.keepIn K (.ref f4) = true)
    (a5 : PySem.W.nsIn K mainGlobals "_law_pool" = some (some (.ref f5)))
    (l5 : K.lookup f5 = some ⟨oc5, od5, .func (PySem.W.fnOf "_law_pool" "_law_pool" (defArgs s_pool) (defBody s_pool) (defScope s_pool) .none kV5 dc5 pm5 an5 cd5 ct5), sl5⟩)
    (c5 : PySem.W.codeIn K cd5 "_law_pool" = true)
    (k5 : PySem.W.keepIn K (.ref f5) = true)
    (a6 : PySem.W.nsIn K mainGlobals "_law_draw" = some (some (.ref f6)))
    (l6 : K.lookup f6 = some ⟨oc6, od6, .func (PySem.W.fnOf "_law_draw" "_law_draw" (defArgs s_draw) (defBody s_draw) (defScope s_draw) .none kV6 dc6 pm6 an6 cd6 ct6), sl6⟩)
    (c6 : PySem.W.codeIn K cd6 "_law_draw" = true)
    (k6 : PySem.W.keepIn K (.ref f6) = true)
    (a7 : PySem.W.nsIn K mainGlobals "_law_int" = some (some (.ref f7)))
    (l7 : K.lookup f7 = some ⟨oc7, od7, .func (PySem.W.fnOf "_law_int" "_law_int" (defArgs s_int_) (defBody s_int_) (defScope s_int_) .none kV7 dc7 pm7 an7 cd7 ct7), sl7⟩)
    (c7 : PySem.W.codeIn K cd7 "_law_int" = true)
    (k7 : PySem.W.keepIn K (.ref f7) = true)
    (a8 : PySem.W.nsIn K mainGlobals "_law_held" = some (some (.ref f8)))
    (l8 : K.lookup f8 = some ⟨oc8, od8, .func (PySem.W.fnOf "_law_held" "_law_held" (defArgs s_held) (defBody s_held) (defScope s_held) .none kV8 dc8 pm8 an8 cd8 ct8), sl8⟩)
    (c8 : PySem.W.codeIn K cd8 "_law_held" = true)
    (k8 : PySem.W.keepIn K (.ref f8) = true)
    (a9 : PySem.W.nsIn K mainGlobals "_law_error" = some (some (.ref f9)))
    (l9 : K.lookup f9 = some ⟨oc9, od9, .func (PySem.W.fnOf "_law_error" "_law_error" (defArgs s_error) (defBody s_error) (defScope s_error) .none kV9 dc9 pm9 an9 cd9 ct9), sl9⟩)
    (c9 : PySem.W.codeIn K cd9 "_law_error" = true)
    (k9 : PySem.W.keepIn K (.ref f9) = true)
    (a10 : PySem.W.nsIn K mainGlobals "_law_ask" = some (some (.ref f10)))
    (l10 : K.lookup f10 = some ⟨oc10, od10, .func (PySem.W.fnOf "_law_ask" "_law_ask" (defArgs s_ask) (defBody s_ask) (defScope s_ask) .none kV10 dc10 pm10 an10 cd10 ct10), sl10⟩)
    (c10 : PySem.W.codeIn K cd10 "_law_ask" = true)
    (k10 : PySem.W.keepIn K (.ref f10) = true)
    (a11 : PySem.W.nsIn K mainGlobals "_law_ways" = some (some (.ref f11)))
    (l11 : K.lookup f11 = some ⟨oc11, od11, .func (PySem.W.fnOf "_law_ways" "_law_ways" (defArgs s_ways) (defBody s_ways) (defScope s_ways) .none kV11 dc11 pm11 an11 cd11 ct11), sl11⟩)
    (c11 : PySem.W.codeIn K cd11 "_law_ways" = true)
    (k11 : PySem.W.keepIn K (.ref f11) = true)
    (a12 : PySem.W.nsIn K mainGlobals "_law_before" = some (some (.ref f12)))
    (l12 : K.lookup f12 = some ⟨oc12, od12, .func (PySem.W.fnOf "_law_before" "_law_before" (defArgs s_before) (defBody s_before) (defScope s_before) .none kV12 dc12 pm12 an12 cd12 ct12), sl12⟩)
    (c12 : PySem.W.codeIn K cd12 "_law_before" = true)
    (k12 : PySem.W.keepIn K (.ref f12) = true)
    (a13 : PySem.W.nsIn K mainGlobals "_law_exps" = some (some (.ref f13)))
    (l13 : K.lookup f13 = some ⟨oc13, od13, .func (PySem.W.fnOf "_law_exps" "_law_exps" (defArgs s_exps) (defBody s_exps) (defScope s_exps) .none kV13 dc13 pm13 an13 cd13 ct13), sl13⟩)
    (c13 : PySem.W.codeIn K cd13 "_law_exps" = true)
    (k13 : PySem.W.keepIn K (.ref f13) = true)
    (a14 : PySem.W.nsIn K mainGlobals "_law_listed" = some (some (.ref f14)))
    (l14 : K.lookup f14 = some ⟨oc14, od14, .func (PySem.W.fnOf "_law_listed" "_law_listed" (defArgs s_listed) (defBody s_listed) (defScope s_listed) .none kV14 dc14 pm14 an14 cd14 ct14), sl14⟩)
    (c14 : PySem.W.codeIn K cd14 "_law_listed" = true)
    (k14 : PySem.W.keepIn K (.ref f14) = true)
    (a15 : PySem.W.nsIn K mainGlobals "_law_placed" = some (some (.ref f15)))
    (l15 : K.lookup f15 = some ⟨oc15, od15, .func (PySem.W.fnOf "_law_placed" "_law_placed" (defArgs s_placed) (defBody s_placed) (defScope s_placed) .none kV15 dc15 pm15 an15 cd15 ct15), sl15⟩)
    (c15 : PySem.W.codeIn K cd15 "_law_placed" = true)
    (k15 : PySem.W.keepIn K (.ref f15) = true)
    (a16 : PySem.W.nsIn K mainGlobals "_law_bent" = some (some (.ref f16)))
    (l16 : K.lookup f16 = some ⟨oc16, od16, .func (PySem.W.fnOf "_law_bent" "_law_bent" (defArgs s_bent) (defBody s_bent) (defScope s_bent) .none kV16 dc16 pm16 an16 cd16 ct16), sl16⟩)
    (c16 : PySem.W.codeIn K cd16 "_law_bent" = true)
    (k16 : PySem.W.keepIn K (.ref f16) = true)
    (a17 : PySem.W.nsIn K mainGlobals "law" = some (some (.ref f17)))
    (l17 : K.lookup f17 = some ⟨oc17, od17, .func (PySem.W.fnOf "law" "law" (defArgs s_law) (defBody s_law) (defScope s_law) .none kV17 dc17 pm17 an17 cd17 ct17), sl17⟩)
    (c17 : PySem.W.codeIn K cd17 "law" = true)
    (k17 : PySem.W.keepIn K (.ref f17) = true)
    (v_MOST_LETTERS : PySem.W.nsIn K mainGlobals "MOST_LETTERS" = some (some (.int 12 t_MOST_LETTERS)))
    (v_MOST_DEGREE : PySem.W.nsIn K mainGlobals "MOST_DEGREE" = some (some (.int 32 t_MOST_DEGREE)))
    (v_MOST_MONOMIALS : PySem.W.nsIn K mainGlobals "MOST_MONOMIALS" = some (some (.int 1000 t_MOST_MONOMIALS)))
    (b_comb : PySem.W.nsIn K mainGlobals "comb" = some (some (.builtin "math.comb")))
    (z_len : PySem.W.nsIn K mainGlobals "len" = some none)
    (z_range : PySem.W.nsIn K mainGlobals "range" = some none)
    (z_int : PySem.W.nsIn K mainGlobals "int" = some none)
    (z_bool : PySem.W.nsIn K mainGlobals "bool" = some none)
    (z_list : PySem.W.nsIn K mainGlobals "list" = some none)
    (z_tuple : PySem.W.nsIn K mainGlobals "tuple" = some none)
    (z_sum : PySem.W.nsIn K mainGlobals "sum" = some none)
    (z_all : PySem.W.nsIn K mainGlobals "all" = some none)
    (z_min : PySem.W.nsIn K mainGlobals "min" = some none)
    (z_enumerate : PySem.W.nsIn K mainGlobals "enumerate" = some none)
    (z_isinstance : PySem.W.nsIn K mainGlobals "isinstance" = some none)
    (z_ValueError : PySem.W.nsIn K mainGlobals "ValueError" = some none) :
    ∃ fd : FuncData, (∀ (s : Shared) (v : Value), BindsTo s fd ⟨[v], []⟩ [("script", v)]) ∧ ∀ base : Heap, K.In base → base.Ns mainGlobals mg → FnOk l.prog w K mg base CX0 8 fa fd ["script"] (sp_law K) := by
  have e := hfa.symm.trans (PySem.W.mg_of X G a17)
  cases e
  let T : Tx K mg := {
    cCount := ⟨Ce0, fe0, _, PySem.W.mg_of X G ge0, ⟨⟨_, _, _, _, _, _, _, _, _, _, _, _, _, _, _, xLe0, xve0⟩, sae0, exe0, tye0, kce0⟩, ⟨ise0, gae0, gge0, exe0, hde0, cle0, spG, tkG, moe0⟩, iCe0, tIe0, fun_mk (st := i_count) le0 ce0 ke0, (fun_mk (st := i_count) le0 ce0 ke0).binds (ps := ["self", "count"]) fun _ _ _ _ _ _ us hl => match us, hl with | [_, _], _ => rfl⟩,
    cSizes := ⟨Ce1, fe1, _, PySem.W.mg_of X G ge1, ⟨⟨_, _, _, _, _, _, _, _, _, _, _, _, _, _, _, xLe1, xve1⟩, sae1, exe1, tye1, kce1⟩, ⟨ise1, gae1, gge1, exe1, hde1, cle1, spG, tkG, moe1⟩, iCe1, tIe1, fun_mk (st := i_sizes) le1 ce1 ke1, (fun_mk (st := i_sizes) le1 ce1 ke1).binds (ps := ["self", "given", "wanted"]) fun _ _ _ _ _ _ us hl => match us, hl with | [_, _, _], _ => rfl⟩,
    cExpo := ⟨Ce2, fe2, _, PySem.W.mg_of X G ge2, ⟨⟨_, _, _, _, _, _, _, _, _, _, _, _, _, _, _, xLe2, xve2⟩, sae2, exe2, tye2, kce2⟩, ⟨ise2, gae2, gge2, exe2, hde2, cle2, spG, tkG, moe2⟩, iCe2, tIe2, fun_mk (st := i_expo) le2 ce2 ke2, (fun_mk (st := i_expo) le2 ce2 ke2).binds (ps := ["self", "exponent"]) fun _ _ _ _ _ _ us hl => match us, hl with | [_, _], _ => rfl⟩,
    cLarge := ⟨Ce3, fe3, _, PySem.W.mg_of X G ge3, ⟨⟨_, _, _, _, _, _, _, _, _, _, _, _, _, _, _, xLe3, xve3⟩, sae3, exe3, tye3, kce3⟩, ⟨ise3, gae3, gge3, exe3, hde3, cle3, spG, tkG, moe3⟩, iCe3, tIe3, fun_mk (st := i_large) le3 ce3 ke3, (fun_mk (st := i_large) le3 ce3 ke3).binds (ps := ["self", "size"]) fun _ _ _ _ _ _ us hl => match us, hl with | [_, _], _ => rfl⟩,
    cForms := ⟨Cy0, PySem.W.mg_of X G gy0⟩,
    noCount := nf1,
    noExpo := nf2,
    noLarge := nf3,
    fld := fun D hD f hf => by
      simp only [List.mem_cons, List.not_mem_nil, or_false] at hD hf
      rcases hD with rfl | rfl | rfl <;> rcases hf with rfl | rfl | rfl
      · exact nf4
      · exact nf5
      · exact nf6
      · exact nf7
      · exact nf8
      · exact nf9
      · exact nf10
      · exact nf11
      · exact nf12,
    kCount := (Kits.cons kt1 (Kits.cons kt2 (Kits.cons kt3 (Kits.cons kt4 (Kits.cons kt5 Kits.nil))))),
    kExpo := (Kits.cons kt6 (Kits.cons kt7 (Kits.cons kt8 (Kits.cons kt9 (Kits.cons kt10 Kits.nil))))),
    kLarge := (Kits.cons kt11 (Kits.cons kt12 (Kits.cons kt13 (Kits.cons kt14 (Kits.cons kt15 Kits.nil))))),
    exm := fun D hD => by
      simp only [List.mem_cons, List.not_mem_nil, or_false] at hD
      rcases hD with rfl | rfl | rfl
      · exact xm1
      · exact xm2
      · exact xm3,
    monomials := ⟨f0, _, fun_mk (st := s_monomials) l0 c0 k0, PySem.W.mg_of X G a0, (fun_mk (st := s_monomials) l0 c0 k0).binds (ps := ["letters", "degree"]) fun _ _ _ _ _ _ us hl => match us, hl with | [_, _], _ => rfl⟩,
    monomial_count := ⟨f1, _, fun_mk (st := s_monomial_count) l1 c1 k1, PySem.W.mg_of X G a1, (fun_mk (st := s_monomial_count) l1 c1 k1).binds (ps := ["letters", "degree"]) fun _ _ _ _ _ _ us hl => match us, hl with | [_, _], _ => rfl⟩,
    monomial_place := ⟨f2, _, fun_mk (st := s_monomial_place) l2 c2 k2, PySem.W.mg_of X G a2, (fun_mk (st := s_monomial_place) l2 c2 k2).binds (ps := ["exponents"]) fun _ _ _ _ _ _ us hl => match us, hl with | [_], _ => rfl⟩,
    check_letters := ⟨f3, _, fun_mk (st := s_check_letters) l3 c3 k3, PySem.W.mg_of X G a3, (fun_mk (st := s_check_letters) l3 c3 k3).binds (ps := ["letters"]) fun _ _ _ _ _ _ us hl => match us, hl with | [_], _ => rfl⟩,
    check_exponents := ⟨f4, _, fun_mk (st := s_check_exponents) l4 c4 k4, PySem.W.mg_of X G a4, (fun_mk (st := s_check_exponents) l4 c4 k4).binds (ps := ["letters", "exponents"]) fun _ _ _ _ _ _ us hl => match us, hl with | [_, _], _ => rfl⟩,
    pool := ⟨f5, _, fun_mk (st := s_pool) l5 c5 k5, PySem.W.mg_of X G a5, (fun_mk (st := s_pool) l5 c5 k5).binds (ps := ["script"]) fun _ _ _ _ _ _ us hl => match us, hl with | [_], _ => rfl⟩,
    draw := ⟨f6, _, fun_mk (st := s_draw) l6 c6 k6, PySem.W.mg_of X G a6, (fun_mk (st := s_draw) l6 c6 k6).binds (ps := ["pool", "many"]) fun _ _ _ _ _ _ us hl => match us, hl with | [_, _], _ => rfl⟩,
    int_ := ⟨f7, _, fun_mk (st := s_int_) l7 c7 k7, PySem.W.mg_of X G a7, (fun_mk (st := s_int_) l7 c7 k7).binds (ps := ["told"]) fun _ _ _ _ _ _ us hl => match us, hl with | [_], _ => rfl⟩,
    held := ⟨f8, _, fun_mk (st := s_held) l8 c8 k8, PySem.W.mg_of X G a8, (fun_mk (st := s_held) l8 c8 k8).binds (ps := ["name", "number"]) fun _ _ _ _ _ _ us hl => match us, hl with | [_, _], _ => rfl⟩,
    error := ⟨f9, _, fun_mk (st := s_error) l9 c9 k9, PySem.W.mg_of X G a9, (fun_mk (st := s_error) l9 c9 k9).binds (ps := ["e"]) fun _ _ _ _ _ _ us hl => match us, hl with | [_], _ => rfl⟩,
    ask := ⟨f10, _, fun_mk (st := s_ask) l10 c10 k10, PySem.W.mg_of X G a10, (fun_mk (st := s_ask) l10 c10 k10).binds (ps := ["mode", "a", "b"]) fun _ _ _ _ _ _ us hl => match us, hl with | [_, _, _], _ => rfl⟩,
    ways := ⟨f11, _, fun_mk (st := s_ways) l11 c11 k11, PySem.W.mg_of X G a11, (fun_mk (st := s_ways) l11 c11 k11).binds (ps := []) fun _ _ _ _ _ _ us hl => match us, hl with | [], _ => rfl⟩,
    before := ⟨f12, _, fun_mk (st := s_before) l12 c12 k12, PySem.W.mg_of X G a12, (fun_mk (st := s_before) l12 c12 k12).binds (ps := ["ways", "exps"]) fun _ _ _ _ _ _ us hl => match us, hl with | [_, _], _ => rfl⟩,
    exps := ⟨f13, _, fun_mk (st := s_exps) l13 c13 k13, PySem.W.mg_of X G a13, (fun_mk (st := s_exps) l13 c13 k13).binds (ps := ["pool", "letters", "degree"]) fun _ _ _ _ _ _ us hl => match us, hl with | [_, _, _], _ => rfl⟩,
    listed := ⟨f14, _, fun_mk (st := s_listed) l14 c14 k14, PySem.W.mg_of X G a14, (fun_mk (st := s_listed) l14 c14 k14).binds (ps := ["ways", "letters", "degree"]) fun _ _ _ _ _ _ us hl => match us, hl with | [_, _, _], _ => rfl⟩,
    placed := ⟨f15, _, fun_mk (st := s_placed) l15 c15 k15, PySem.W.mg_of X G a15, (fun_mk (st := s_placed) l15 c15 k15).binds (ps := ["ways", "exps"]) fun _ _ _ _ _ _ us hl => match us, hl with | [_, _], _ => rfl⟩,
    bent := ⟨f16, _, fun_mk (st := s_bent) l16 c16 k16, PySem.W.mg_of X G a16, (fun_mk (st := s_bent) l16 c16 k16).binds (ps := ["pool", "exps"]) fun _ _ _ _ _ _ us hl => match us, hl with | [_, _], _ => rfl⟩,
    c_MOST_LETTERS := ⟨t_MOST_LETTERS, PySem.W.mg_of X G v_MOST_LETTERS⟩,
    c_MOST_DEGREE := ⟨t_MOST_DEGREE, PySem.W.mg_of X G v_MOST_DEGREE⟩,
    c_MOST_MONOMIALS := ⟨t_MOST_MONOMIALS, PySem.W.mg_of X G v_MOST_MONOMIALS⟩,
    c_comb := PySem.W.mg_of X G b_comb,
    z_len := PySem.W.mg_none_of X G z_len,
    z_range := PySem.W.mg_none_of X G z_range,
    z_int := PySem.W.mg_none_of X G z_int,
    z_bool := PySem.W.mg_none_of X G z_bool,
    z_list := PySem.W.mg_none_of X G z_list,
    z_tuple := PySem.W.mg_none_of X G z_tuple,
    z_sum := PySem.W.mg_none_of X G z_sum,
    z_all := PySem.W.mg_none_of X G z_all,
    z_min := PySem.W.mg_none_of X G z_min,
    z_enumerate := PySem.W.mg_none_of X G z_enumerate,
    z_isinstance := PySem.W.mg_none_of X G z_isinstance,
    z_ValueError := PySem.W.mg_none_of X G z_ValueError
  }
  exact ⟨PySem.W.fnOf "law" "law" (defArgs s_law) (defBody s_law) (defScope s_law) .none kV17 dc17 pm17 an17 cd17 ct17, fun s v => .of_eq rfl, fun base _ _ => ok_law T (fun_mk (st := s_law) l17 c17 k17)⟩
theorem walk {l : PySem.W.OpenLaw} {q : Program} {loose : List Str} {XP : (Str → Option Value) → Heap → Prop} {YP : World → Heap → Prop} {d : DefRec} {K : Params → PySem.W.Frag} (hn : l.most = some 63) (hdf : d.params.defaults = [])
    (hY : ∀ (w : World) (h : Heap), YP w h → (K w.params).In h)
    (F : ∀ (w : World) (mg : Str → Option Value) (fa : Addr) (h : Heap), (K w.params).In h → h.Ns mainGlobals mg → mg d.name = some (.ref fa) →
      ∃ fd : FuncData, (∀ (s : Shared) (u : Value), BindsTo s fd ⟨[u], []⟩ [("script", u)]) ∧ ∀ base : Heap, (K w.params).In base → base.Ns mainGlobals mg → FnOk l.prog w (K w.params) mg base CX0 8 fa fd ["script"] (sp_law (K w.params))) :
    PySem.W.WalkO q loose XP YP l.row.toRowW d [] (fun f vs => PySem.call f vs) :=
  L2.walk_of (n := 63) (k := 8) (x := "script") (CX := fun _ => CX0) (sp := fun w => sp_law (K w.params)) hn (by decide) hdf ⟨rfl, by decide, by decide⟩ hY F (fun _ _ a ns hl _ hS => ⟨a, ns, rfl, hS, hl, fun _ => rfl⟩) fun _ _ _ _ _ z => z
end K93

open PySem PySem.W PyProof.Rows in
set_option maxRecDepth 100000 in
set_option maxHeartbeats 0 in
theorem PySem.Challenge.cw_unmovedforms_k93_monomials_in_order_holds : PySem.Challenge.rw_unmovedforms_k93_monomials_in_order.Holds := by
  w_on; o_law; k_head; (case hw => w_witness2)
  k_fill
  refine K93.walk (l := PySem.Challenge.rw_unmovedforms_k93_monomials_in_order) rfl rfl (fun w h Y => PySem.W.kIn_of Y) ?F
  case F =>
    intro w mg fa h KX G hmg
    refine' K93.all_mk KX G hmg ?spG ?tkG ?ge0 ?xLe0 ?xve0 ?sae0 ?gae0 ?gge0 ?exe0 ?tye0 ?kce0 ?hde0 ?ise0 ?cle0 ?moe0 ?iCe0 ?tIe0 ?le0 ?ce0 ?ke0 ?ge1 ?xLe1 ?xve1 ?sae1 ?gae1 ?gge1 ?exe1 ?tye1 ?kce1 ?hde1 ?ise1 ?cle1 ?moe1 ?iCe1 ?tIe1 ?le1 ?ce1 ?ke1 ?ge2 ?xLe2 ?xve2 ?sae2 ?gae2 ?gge2 ?exe2 ?tye2 ?kce2 ?hde2 ?ise2 ?cle2 ?moe2 ?iCe2 ?tIe2 ?le2 ?ce2 ?ke2 ?ge3 ?xLe3 ?xve3 ?sae3 ?gae3 ?gge3 ?exe3 ?tye3 ?kce3 ?hde3 ?ise3 ?cle3 ?moe3 ?iCe3 ?tIe3 ?le3 ?ce3 ?ke3 ?gy0 ?nf1 ?nf2 ?nf3 ?nf4 ?nf5 ?nf6 ?nf7 ?nf8 ?nf9 ?nf10 ?nf11 ?nf12 ?kt1 ?kt2 ?kt3 ?kt4 ?kt5 ?kt6 ?kt7 ?kt8 ?kt9 ?kt10 ?kt11 ?kt12 ?kt13 ?kt14 ?kt15 ?xm1 ?xm2 ?xm3 ?a0 ?l0 ?c0 ?k0 ?a1 ?l1 ?c1 ?k1 ?a2 ?l2 ?c2 ?k2 ?a3 ?l3 ?c3 ?k3 ?a4 ?l4 ?c4 ?k4 ?a5 ?l5 ?c5 ?k5 ?a6 ?l6 ?c6 ?k6 ?a7 ?l7 ?c7 ?k7 ?a8 ?l8 ?c8 ?k8 ?a9 ?l9 ?c9 ?k9 ?a10 ?l10 ?c10 ?k10 ?a11 ?l11 ?c11 ?k11 ?a12 ?l12 ?c12 ?k12 ?a13 ?l13 ?c13 ?k13 ?a14 ?l14 ?c14 ?k14 ?a15 ?l15 ?c15 ?k15 ?a16 ?l16 ?c16 ?k16 ?a17 ?l17 ?c17 ?k17 ?v_MOST_LETTERS ?v_MOST_DEGREE ?v_MOST_MONOMIALS ?b_comb ?z_len ?z_range ?z_int ?z_bool ?z_list ?z_tuple ?z_sum ?z_all ?z_min ?z_enumerate ?z_isinstance ?z_ValueError
    (case spG => k_is)
    (case tkG => k_is)
    (case ge0 => k_is)
    (case xLe0 => k_is)
    (case xve0 => rfl)
    (case sae0 => k_is)
    (case gae0 => k_is)
    (case gge0 => k_is)
    (case exe0 => k_is)
    (case tye0 => k_is)
    (case kce0 => k_is)
    (case hde0 => k_is)
    (case ise0 => k_is)
    (case cle0 => k_is)
    (case moe0 => k_is)
    (case iCe0 => k_is)
    (case tIe0 => k_is)
    (case le0 => k_is)
    (case ce0 => k_is)
    (case ke0 => k_is)
    (case ge1 => k_is)
    (case xLe1 => k_is)
    (case xve1 => rfl)
    (case sae1 => k_is)
    (case gae1 => k_is)
    (case gge1 => k_is)
    (case exe1 => k_is)
    (case tye1 => k_is)
    (case kce1 => k_is)
    (case hde1 => k_is)
    (case ise1 => k_is)
    (case cle1 => k_is)
    (case moe1 => k_is)
    (case iCe1 => k_is)
    (case tIe1 => k_is)
    (case le1 => k_is)
    (case ce1 => k_is)
    (case ke1 => k_is)
    (case ge2 => k_is)
    (case xLe2 => k_is)
    (case xve2 => rfl)
    (case sae2 => k_is)
    (case gae2 => k_is)
    (case gge2 => k_is)
    (case exe2 => k_is)
    (case tye2 => k_is)
    (case kce2 => k_is)
    (case hde2 => k_is)
    (case ise2 => k_is)
    (case cle2 => k_is)
    (case moe2 => k_is)
    (case iCe2 => k_is)
    (case tIe2 => k_is)
    (case le2 => k_is)
    (case ce2 => k_is)
    (case ke2 => k_is)
    (case ge3 => k_is)
    (case xLe3 => k_is)
    (case xve3 => rfl)
    (case sae3 => k_is)
    (case gae3 => k_is)
    (case gge3 => k_is)
    (case exe3 => k_is)
    (case tye3 => k_is)
    (case kce3 => k_is)
    (case hde3 => k_is)
    (case ise3 => k_is)
    (case cle3 => k_is)
    (case moe3 => k_is)
    (case iCe3 => k_is)
    (case tIe3 => k_is)
    (case le3 => k_is)
    (case ce3 => k_is)
    (case ke3 => k_is)
    (case gy0 => k_is)
    (case nf1 => k_is)
    (case nf2 => k_is)
    (case nf3 => k_is)
    (case nf4 => k_is)
    (case nf5 => k_is)
    (case nf6 => k_is)
    (case nf7 => k_is)
    (case nf8 => k_is)
    (case nf9 => k_is)
    (case nf10 => k_is)
    (case nf11 => k_is)
    (case nf12 => k_is)
    (case kt1 => exact K93.kit_eq)
    (case kt2 => exact K93.kit_ne (by k_is) (by k_is) (by k_is) (by first | rfl | k_is))
    (case kt3 => exact K93.kit_ne (by k_is) (by k_is) (by k_is) (by first | rfl | k_is))
    (case kt4 => exact K93.kit_ne (by k_is) (by k_is) (by k_is) (by first | rfl | k_is))
    (case kt5 => exact K93.kit_bi (by decide +kernel) (by k_is))
    (case kt6 => exact K93.kit_ne (by k_is) (by k_is) (by k_is) (by first | rfl | k_is))
    (case kt7 => exact K93.kit_eq)
    (case kt8 => exact K93.kit_ne (by k_is) (by k_is) (by k_is) (by first | rfl | k_is))
    (case kt9 => exact K93.kit_ne (by k_is) (by k_is) (by k_is) (by first | rfl | k_is))
    (case kt10 => exact K93.kit_bi (by decide +kernel) (by k_is))
    (case kt11 => exact K93.kit_ne (by k_is) (by k_is) (by k_is) (by first | rfl | k_is))
    (case kt12 => exact K93.kit_ne (by k_is) (by k_is) (by k_is) (by first | rfl | k_is))
    (case kt13 => exact K93.kit_ne (by k_is) (by k_is) (by k_is) (by first | rfl | k_is))
    (case kt14 => exact K93.kit_eq)
    (case kt15 => exact K93.kit_bi (by decide +kernel) (by k_is))
    (case xm1 => exact K93.exm_cl (by k_is) (by k_is) (by k_is) (by k_is))
    (case xm2 => exact K93.exm_cl (by k_is) (by k_is) (by k_is) (by k_is))
    (case xm3 => exact K93.exm_cl (by k_is) (by k_is) (by k_is) (by k_is))
    (case a0 => k_is)
    (case l0 => k_is)
    (case c0 => k_is)
    (case k0 => k_is)
    (case a1 => k_is)
    (case l1 => k_is)
    (case c1 => k_is)
    (case k1 => k_is)
    (case a2 => k_is)
    (case l2 => k_is)
    (case c2 => k_is)
    (case k2 => k_is)
    (case a3 => k_is)
    (case l3 => k_is)
    (case c3 => k_is)
    (case k3 => k_is)
    (case a4 => k_is)
    (case l4 => k_is)
    (case c4 => k_is)
    (case k4 => k_is)
    (case a5 => k_is)
    (case l5 => k_is)
    (case c5 => k_is)
    (case k5 => k_is)
    (case a6 => k_is)
    (case l6 => k_is)
    (case c6 => k_is)
    (case k6 => k_is)
    (case a7 => k_is)
    (case l7 => k_is)
    (case c7 => k_is)
    (case k7 => k_is)
    (case a8 => k_is)
    (case l8 => k_is)
    (case c8 => k_is)
    (case k8 => k_is)
    (case a9 => k_is)
    (case l9 => k_is)
    (case c9 => k_is)
    (case k9 => k_is)
    (case a10 => k_is)
    (case l10 => k_is)
    (case c10 => k_is)
    (case k10 => k_is)
    (case a11 => k_is)
    (case l11 => k_is)
    (case c11 => k_is)
    (case k11 => k_is)
    (case a12 => k_is)
    (case l12 => k_is)
    (case c12 => k_is)
    (case k12 => k_is)
    (case a13 => k_is)
    (case l13 => k_is)
    (case c13 => k_is)
    (case k13 => k_is)
    (case a14 => k_is)
    (case l14 => k_is)
    (case c14 => k_is)
    (case k14 => k_is)
    (case a15 => k_is)
    (case l15 => k_is)
    (case c15 => k_is)
    (case k15 => k_is)
    (case a16 => k_is)
    (case l16 => k_is)
    (case c16 => k_is)
    (case k16 => k_is)
    (case a17 => k_is)
    (case l17 => k_is)
    (case c17 => k_is)
    (case k17 => k_is)
    (case v_MOST_LETTERS => k_is)
    (case v_MOST_DEGREE => k_is)
    (case v_MOST_MONOMIALS => k_is)
    (case b_comb => k_is)
    (case z_len => k_is)
    (case z_range => k_is)
    (case z_int => k_is)
    (case z_bool => k_is)
    (case z_list => k_is)
    (case z_tuple => k_is)
    (case z_sum => k_is)
    (case z_all => k_is)
    (case z_min => k_is)
    (case z_enumerate => k_is)
    (case z_isinstance => k_is)
    (case z_ValueError => k_is)
#print axioms PySem.Challenge.cw_unmovedforms_k93_monomials_in_order_holds

