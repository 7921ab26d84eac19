import PyProof.Rows.All
import Wide.All
import OpenK.AllK
import Wide.FinOn
import PyProof.SumWalk
import HandS.ForMost
import HandS.Evl
import HandS.Exc
import HandS.ExcInit
import HandS.ExcCtx
import HandS.Hot
import HandS.HotCalls
import HandS.ExcInitHot
import HandS.ExcIs
import HandS.ExcField
import HandS.IsInst
import KE.KExcIs
import HandS.Wide
import HandS.ForExc
import KE.DataCmp
import KE.GoesMore
import KE.KTupSum
import KE.KMathGC
import HandS.Gcd
import HandS.TupAny
import KE.KOpsOwn
import PyProof.TwoTypes
import PyProof.Raises
import PyProof.NeKinds
import HandS.OwnEq
import HandS.Small
import HandS.Defaults
import HandS.Codes
import HandS.Iter
import HandS.FStr
import KE.KFmtOwn
import PyProof.Rows.Range3
import PySem.Challenge.RW_unmovedforms_k01_numbers_are_exact
import HandS.Conv
set_option Elab.async false
set_option linter.all false
set_option maxRecDepth 100000
set_option maxHeartbeats 4000000
/-! # While an exception is handled: lists walked, summed, and what is asked of the exception itself -/
namespace UfH
open PySem PySem.Spec PyProof.Rows L2 HotX
abbrev SL := L2.St

section
variable {prog : Program} {w : World} {A : Around} {E : Value → Shared → Prop} {s : Shared}
/-- a list's iterator at its end, an exception being handled -/
theorem list_end_hot {it l x1 : Addr} {i : Nat} {items : Array Value} {Q : Option Value → Shared → Prop} (hot : HotAt A x1 s.heap) (ne : x1 ≠ it)
    (hit : s.heap.IsListIter it l i) (hl : s.heap.IsList l items) (hx : items[i]? = none)
    (hQ : ∀ h', (∀ b o, b ≠ it → s.heap.get? b = some o → h'.get? b = some o) → Q none { s with heap := h' }) :
    wpAny (model prog w) A (pyNext (.ref it)) Q E s := by
  obtain ⟨oi, hoi, hci, hdi⟩ := id hit
  obtain ⟨ol, hol, hcl, nl, hdl⟩ := hl
  obtain ⟨hh, o1, vs1, h1, d1, c1⟩ := hot
  unfold pyNext
  refine wpAny_bind (wpAny_attempt (wpAny_callSpecial?_slot (name := Str.ofString "__next__") hit.typeIs slot_listiter_next
    (wpAny_call_entry slot_listiter_next hit.typeIs entry_listiter_next ?_ (args_listiter_next _))))
  show wpAny _ _ (field (.ref it) 0 >>= _) _ _ s
  refine wpAny_bind (wpAny_field hoi hdi (x := .ref l) rfl ?_)
  show wpAny _ _ (if (Value.ref l == Value.none) = true then _ else _) _ _ s
  rw [if_neg (show ¬ ((Value.ref l == Value.none) = true) from Bool.false_ne_true)]
  show wpAny _ _ (field (.ref it) 1 >>= _) _ _ s
  refine wpAny_bind (wpAny_field hoi hdi (x := .int i 0) rfl ?_)
  show wpAny _ _ (seqItems? (.ref l) >>= _) _ _ s
  refine wpAny_bind (wpAny_seqItems hol hdl ?_)
  simp only [Int.toNat_natCast, hx]
  refine wpAny_bind (wpAny_rule (wpAny_bind (wpAny_setField hoi hdi (by simp) ?_)))
  show wpAny _ _ (newExc (.type "StopIteration") [] >>= _) _ _ _
  refine wpAny_bind ?_
  simp only [newExc, newTuple]
  refine wpAny_bind (wpAny_newObj_type ?_ (by size_fits))
  refine wpAny_bind (m := firstArgMember _ _) (wpAny_of_eq (a := Value.none) (by first | rfl | (simp only [firstArgMember]; rfl)) ?_)
  refine wpAny_newObj_type ?_ (by size_fits)
  have k2 : ∀ b o, b ≠ it → s.heap.get? b = some o → (s.heap.update it (Obj.mapFields (·.setIfInBounds 0 Value.none))).get? b = some o := fun b o nb e =>
    (Heap.get?_update_other _ _ (Ne.symm nb)).trans e
  have k4 := fun b o nb e => Heap.get?_push_of_some { cls := .type "tuple", data := .seq #[] } (k2 b o nb e)
  refine raiseNew_hot ⟨hh, o1, vs1, Heap.get?_push_of_some _ (k4 _ _ ne h1), d1, c1⟩ (Nat.ne_of_lt (Heap.lt_size (k4 _ _ ne h1)))
    (Heap.get?_push_size _ rfl) rfl (by first | (simp; done) | (simp; omega)) ?_
  refine wpAny_bind (wpAny_isInstance (b := true) (T := "StopIteration") ⟨_, Heap.get?_update_self _ (Heap.get?_push_size _ rfl) rfl, rfl⟩ isSubtype_stop ?_)
  refine wpAny_pure (hQ _ fun b o nb e => ?_)
  have lt := Heap.lt_size (k4 b o nb e)
  rw [Heap.get?_update_other _ _ (Nat.ne_of_gt lt)]
  exact Heap.get?_push_of_some _ (k4 b o nb e)
/-- sum of a list of small ints -/
theorem walks_hot (x1 I ax : Addr) (hne : ax ≠ I) (h1 : x1 ≠ I) (o1 : Obj) (vs1 : Array Value) (d1 : o1.data = .fields vs1) (c1 : vs1[2]? = some .none)
    (hh : A.handled = some (.ref x1)) (items : Array Value) : Walks prog w A I [I, ax, x1] [I] items.size (fun i v => items[i]? = some v)
      (fun i h => h.IsListIter I ax i ∧ h.IsList ax items ∧ h.get? x1 = some o1) where
  sub := fun b hb => by
    obtain rfl := List.mem_singleton.mp hb
    exact List.mem_cons_self
  frame := fun _ _ _ st hk => ⟨st.1.at fun o e => hk I (by simp) o e, st.2.1.at fun o e => hk ax (by simp) o e, hk x1 (by simp) o1 st.2.2⟩
  item := fun i s Q E hi st hQ => by
    refine wpAny_pyNext_list_item st.1 st.2.1 (Array.getElem?_eq_getElem hi) fun h' hit' hs' => ?_
    exact hQ _ h' s.toks (Array.getElem?_eq_getElem hi) ⟨hit', st.2.1.extBut hs'.extBut hne, hs'.extBut x1 o1 h1 st.2.2⟩ fun b o hb e => hs'.extBut b o (fun z => hb (by simp [z])) e
  done := fun s Q E st hQ => list_end_hot ⟨hh, o1, vs1, st.2.2, d1, c1⟩ h1 st.1 st.2.1 (Array.getElem?_eq_none (Nat.le_refl _))
    fun h' k => hQ h' s.toks fun b o hb e => k b o (fun z => hb (by simp [z])) e
  self := fun _ _ _ _ st hQ => wpAny_pyIter_listiter st.1 hQ

theorem pre_sum (ns : List Int) : ∀ n, n ≤ ns.length → preSum (fun i => ns.getD i 0) n = (ns.take n).sum
  | 0, _ => rfl
  | n + 1, h => by
    have e : ns[n]? = some ns[n] := List.getElem?_eq_getElem (by omega)
    show preSum (fun i => ns.getD i 0) n + ns.getD n 0 = _
    have e2 : ns.getD n 0 = ns[n] := by simp [List.getD, e]
    rw [pre_sum ns n (by omega), List.take_add_one, e, e2, List.sum_append]
    show _ = _ + (ns[n] + 0)
    rw [Int.add_zero]
theorem small_sum : ∀ ns : List Int, (∀ n ∈ ns, 0 ≤ n ∧ n ≤ 1) → 0 ≤ ns.sum ∧ ns.sum ≤ ns.length
  | [], _ => ⟨Int.le_refl _, Int.le_refl _⟩
  | a :: r, h => by
    have h1 := h a List.mem_cons_self
    have h2 := small_sum r fun n hn => h n (List.mem_cons_of_mem _ hn)
    rw [List.sum_cons, List.length_cons]
    omega
theorem sum_hot {l x1 : Addr} {its : List Value} {ns : List Int} {Q : Value → Shared → Prop} (hot : HotAt A x1 s.heap) (hl : s.heap.IsList l its.toArray) (r : Vals (ns.map V.int) its)
    (hb : ∀ n ∈ ns, 0 ≤ n ∧ n ≤ 1) (hz : ns.length ≤ 1000)
    (h : ∀ h' tk t', (∀ b o, s.heap.get? b = some o → h'.get? b = some o) → Q (.int ns.sum t') { s with heap := h', toks := tk }) :
    wpAny (model prog w) A (call (.builtin "sum") [.ref l]) Q E s := by
  obtain ⟨hh, o1, vs1, g1, d1, c1⟩ := hot
  obtain ⟨ol, hol, _⟩ := id hl
  have hne : l ≠ s.heap.objs.size := Nat.ne_of_lt (Heap.lt_size hol)
  have h1 : x1 ≠ s.heap.objs.size := Nat.ne_of_lt (Heap.lt_size g1)
  have len : its.toArray.size = ns.length := by
    rw [List.size_toArray, ← r.length, List.length_map]
  have W := walks_hot (prog := prog) (w := w) (A := A.in1) x1 s.heap.objs.size l hne h1 o1 vs1 d1 c1 hh its.toArray
  rw [len] at W
  have nth : ∀ i (v : Value), its.toArray[i]? = some v → ∃ t, v = .int (ns.getD i 0) t := fun i v hv => by
    have hi : i < ns.length := by
      rw [← len]
      exact (Array.getElem?_eq_some_iff.mp hv).1
    obtain ⟨u, hu, ru⟩ := r.get (i := i) (x := .int ns[i]) (by rw [List.getElem?_map, List.getElem?_eq_getElem hi]; rfl)
    have e : its[i]? = some v := by
      rw [← hv]
      simp
    rw [hu] at e
    cases e
    obtain ⟨t, rfl⟩ := ru
    exact ⟨t, by simp [List.getD, List.getElem?_eq_getElem hi]⟩
  refine call_sum_walk (wpAny_pyIter_list hl ?_)
  refine ⟨s.heap.objs.size, _, _, _, _, _, _, rfl, W, ⟨⟨_, Heap.get?_push_size _ rfl, rfl, rfl⟩, hl.at fun o e => Heap.get?_push_of_some _ e, Heap.get?_push_of_some _ g1⟩, fun b hb' => ?_, nth, fun j hj => ?_, fun h' tk t' hk => ?_⟩
  · rw [Heap.size_push]
    simp only [List.mem_cons, List.not_mem_nil, or_false] at hb'
    rcases hb' with rfl | rfl | rfl
    · exact Nat.lt_succ_self _
    · exact Nat.lt_succ_of_lt (Heap.lt_size hol)
    · exact Nat.lt_succ_of_lt (Heap.lt_size g1)
  · have e : ns.getD j 0 = ns[j] := by simp [List.getD, List.getElem?_eq_getElem hj]
    have b1 := hb ns[j] (List.getElem_mem hj)
    have b2 := small_sum (ns.take (j + 1)) fun n hn => hb n (List.mem_of_mem_take hn)
    rw [List.length_take] at b2
    rw [pre_sum ns (j + 1) hj]
    show (-(2 ^ 63) ≤ ns.getD j 0 ∧ ns.getD j 0 < 2 ^ 63) ∧ -(2 ^ 63) ≤ (ns.take (j + 1)).sum ∧ (ns.take (j + 1)).sum < 2 ^ 63
    rw [e]
    omega
  · rw [pre_sum ns ns.length (Nat.le_refl _), List.take_length]
    exact h h' tk t' fun b o e => hk b o (fun z => absurd (Heap.lt_size e) ((List.mem_singleton.mp z) ▸ Nat.lt_irrefl _)) (Heap.get?_push_of_some _ e)
end

/-! ### the judgements there -/
section
variable {X : Cx}
/-- sum(xs), xs a list of noughts and ones -/
def rSumH (K : PySem.W.Frag) : List V → Hp → VK → Prop := fun vs H Q => ∃ (a : Addr) (ns : List Int), vs = [V.ref a] ∧ SqL K H a (ns.map V.int) ∧ (∀ n ∈ ns, 0 ≤ n ∧ n ≤ 1) ∧ ns.length ≤ 1000 ∧ Q (.int ns.sum) H
theorem cr_sumH (hc : L2H.HotC X) : CallR X (.builtin "sum") (rSumH X.K) := by
  intro pins s σ H vs us Q I r h
  obtain ⟨a, ns, rfl, hs, hb, hz, q⟩ := h
  obtain ⟨its, rv, hl, _⟩ := I.list hs
  obtain ⟨x1, hot⟩ := hc.at I
  rw [Vals.ref1 r]
  exact sum_hot hot hl.isList rv hb hz fun h' tk t' hk => ⟨.int _, H, I.kept hk, ⟨_, rfl⟩, q⟩
/-- the turns of [elt for target in a list]: D the new list -/
def tLcH (K : PySem.W.Frag) (tl : TE) (g : TG) (te : TE) (vs : List Nat) : TE := fun σ H Q => tl σ H fun x H1 => ∃ a xs, x = .ref a ∧ SqL K H1 a xs ∧ ∀ D, H1 D = none → ∃ W : Nat → Hp → Prop, W 0 (upd H1 D (.lst [])) ∧
  (∀ i H, i ≤ xs.length → W i H → SqL K H a xs) ∧ (∀ i x H, xs[i]? = some x → W i H → g x (wipe σ vs) H fun σ2 H2 => wipe σ2 vs = wipe σ vs ∧ te σ2 H2 fun y H4 => ∃ acc, H4 D = some (.lst acc) ∧ acc.length < sizeLine ∧ W (i + 1) (upd H4 D (.lst (acc ++ [y])))) ∧
  ∀ H, W xs.length H → Q (.ref D) H
theorem pe_lcH {elt tg l : Expr} {scope : Scope} {own : List (Str × Nat)} {pos : Pos} {tl : TE} {g : TG} {te : TE} (hc : L2H.HotC X) (hN : X.N.Nodup) (hl : PE X l tl) (ok : BlkOk X.N X.env.scope scope own)
    (hg : ∀ (s : Shared) (H : Hp) (C : Addr) (cl : List (Str × Addr)) (fp : List Addr), PG (X.blk s H scope (compEnvC scope cl C X.env) fp) tg g)
    (he : ∀ (s : Shared) (H : Hp) (C : Addr) (cl : List (Str × Addr)) (fp : List Addr), PE (X.blk s H scope (compEnvC scope cl C X.env) fp) elt te)
    (hs : ∀ x, foldedSetIterable l X.env x = pure x := by intro _; rfl) :
    PE X (.ListComp elt [⟨tg, l, [], 0⟩] scope pos) (tLcH X.K tl g te (own.map (·.2))) := by
  refine ⟨fun pins s σ H Q I h => ?_⟩
  rw [eval_ListComp]
  obtain ⟨p1, hot1, hp1⟩ := hc
  have cells : ∀ y ∈ scope.names, y.2 = .free → ∃ c, X.env.cells.lookup y.1 = some c := fun y hy e => by
    rcases ok.free y hy e with k | k
    · exact I.ok.has _ (Or.inl k)
    · exact I.ok.has _ (Or.inr k)
  refine wpAny_comprehension_free (use := none) rfl hs (closure_ok cells) ok.kind (fun y hy e => by rw [ok.uniq y hy, e]) ?_
  refine thn (hl.run pins s σ H _ I h) fun v s1 hv => ?_
  obtain ⟨x, H2, I1, r1, a, xs, ex, hq, q⟩ := hv
  subst ex
  obtain rfl : v = Value.ref a := r1
  obtain ⟨its, rv, pl, hz⟩ := I1.list hq
  refine wpAny_pyIter_list pl.isList ?_
  generalize hs2 : ({ s1 with heap := s1.heap.push { cls := .type "list_iterator", data := .fields #[.ref a, .int 0 0] } } : Shared) = s2
  generalize hit : s1.heap.objs.size = it
  have I2 : Inv X pins σ H2 s2 := by
    rw [← hs2]
    exact I1.kept (t' := s1.toks) fun b o e => Heap.get?_push_of_some _ e
  have st2 : s2.heap.IsListIter it a 0 := by
    rw [← hs2, ← hit]
    exact ⟨_, Heap.get?_push_size _ rfl, rfl, rfl⟩
  have lt2 : it < s2.heap.objs.size := by
    obtain ⟨o, e, _⟩ := st2
    exact Heap.lt_size e
  have f2 : FpOk X pins H2 it := by
    have z := I1.fpOk (b := it) (H' := H2) (Nat.le_of_eq hit) (I1.hok.fresh (Nat.le_of_eq hit))
    exact z
  refine wpAny_newObj_type (newEnv_comp ?_) (by show 0 ≤ sizeLine; decide)
  generalize hD : s2.heap.objs.size = D
  have hDn : H2 D = none := I2.hok.fresh (Nat.le_of_eq hD)
  obtain ⟨W, w0, stay, turn, fin⟩ := q D hDn
  generalize hs3 : ({ s2 with heap := s2.heap.push { cls := .type "list", data := .seq ([] : List Value).toArray } } : Shared) = s3
  have I3 : Inv X pins σ (upd H2 D (.lst [])) s3 := by
    rw [← hs3]
    refine I2.laid (t' := s2.toks) (fun b o e => Heap.get?_push_of_some _ e) (Nat.le_of_eq hD) ⟨Nat.zero_le _, [], 0, .nil, ?_⟩
    rw [← hD]
    exact Heap.get?_push_size _ rfl
  have h3 : s3.heap = s2.heap.push { cls := .type "list", data := .seq ([] : List Value).toArray } := by rw [← hs3]
  have f3 : ∀ b ∈ [it], FpOk X pins (upd H2 D (.lst [])) b ∧ b < s3.heap.objs.size := fun b hb => by
    obtain rfl := List.mem_singleton.mp hb
    have nD : b ≠ D := by
      rw [← hD]
      exact Nat.ne_of_lt lt2
    refine ⟨⟨?_, f2.2⟩, ?_⟩
    · rw [upd_ne nD]
      exact f2.1
    · rw [h3, Heap.size_push]
      exact Nat.lt_succ_of_lt lt2
  have st3 : s3.heap.IsListIter it a 0 := st2.at fun o e => by
    rw [h3]
    exact Heap.get?_push_of_some _ e
  have I4 := block_start I3 ok hN f3
  have P3 := I3.pin p1 (List.mem_append_left _ hp1)
  have pg := hg s3 (upd H2 D (.lst [])) s3.heap.objs.size (cellsFrom (s3.heap.objs.size + 1) scope.names (cloFrom X.env.cells scope.names [])) [it]
  have pe := he s3 (upd H2 D (.lst [])) s3.heap.objs.size (cellsFrom (s3.heap.objs.size + 1) scope.names (cloFrom X.env.cells scope.names [])) [it]
  show codeAny _ _ (.compStart (.ListComp elt [⟨tg, l, [], 0⟩] scope pos) 0 (.ref it) (.ref D) (compEnvC scope (cellsFrom (s3.heap.objs.size + 1) scope.names (cloFrom X.env.cells scope.names [])) s3.heap.objs.size X.env))
    (compPost (model X.prog X.w) X.A X.xe none _ (.ref D) s3.heap.objs.size) { s3 with heap := pushCells (s3.heap.push { cls := .type "dict", data := .dict #[] }) scope.names }
  have nIt : (upd H2 D (.lst [])) it = none := (f3 it List.mem_cons_self).1.1
  generalize hce : compEnvC scope (cellsFrom (s3.heap.objs.size + 1) scope.names (cloFrom X.env.cells scope.names [])) s3.heap.objs.size X.env = ce at I4 pg pe ⊢
  have cL : ce.locals = s3.heap.objs.size := by
    subst hce
    rfl
  generalize hH3 : upd H2 D (.lst []) = H3 at I3 I4 pg pe w0 nIt f3 P3
  generalize hs4 : ({ s3 with heap := pushCells (s3.heap.push { cls := .type "dict", data := .dict #[] }) scope.names } : Shared) = s4 at I4 ⊢
  have st4 : s4.heap.IsListIter it a 0 := st3.at fun o e => by
    rw [← hs4]
    exact pushCells_keeps _ _ _ _ (Heap.get?_push_of_some _ e)
  have p1it : p1.1 ≠ it := fun z => by
    have f := (f3 it List.mem_cons_self).1.2.2.2.2.2 p1 (List.mem_append_left _ hp1)
    exact f z
  have stat : ∀ {σ' : SL} {H' : Hp} {s' : Shared}, Inv (X.blk s3 H3 scope ce [it]) [] σ' H' s' → H' it = none → FpOk (X.blk s3 H3 scope ce [it]) [] H' it := fun {σ' H' s'} I' hn =>
    ⟨hn, (I'.ok.exf it List.mem_cons_self).1, I'.ok.exfs it List.mem_cons_self, .inl List.mem_cons_self, fun x c e => (I'.ok.exf it List.mem_cons_self).2 x c e, fun p hp => absurd (show p ∈ ([] : List (Addr × Obj)) ++ [] from hp) (by simp)⟩
  have hotAt : ∀ {σ' : SL} {H' : Hp} {s' : Shared}, Inv (X.blk s3 H3 scope ce [it]) [] σ' H' s' → HotAt X.A p1.1 s'.heap := fun {σ' H' s'} I' => by
    obtain ⟨hh, vs, d1, c1⟩ := hot1
    have nf : p1.1 ∉ frs X.stack := fun z => (List.mem_cons.mp (I3.stkSub p1.1 z)).elim P3.2.2.1 P3.2.2.2.1
    refine ⟨hh, p1.2, vs, I'.base.keep p1.1 p1.2 P3.1 P3.2.1 nf (fun z => p1it (List.mem_singleton.mp z)), d1, c1⟩
  have loop : codeAny (model X.prog X.w) X.A (.compLoop (.ListComp elt [⟨tg, l, [], 0⟩] scope pos) 0 (.ref it) (.ref D) ce)
      (compPost (model X.prog X.w) X.A X.xe none (EP X pins σ Q) (.ref D) s3.heap.objs.size) s4 := by
    refine compLoop_any (fun n s' => ∃ i H', n + i = xs.length ∧ Inv (X.blk s3 H3 scope ce [it]) [] (wipe σ (own.map (·.2))) H' s' ∧ s'.heap.IsListIter it a i ∧ H' it = none ∧ W i H') ?_ xs.length ⟨0, H3, rfl, I4, st4, nIt, w0⟩
    rintro n s5 ⟨i, H5, en, I5, st5, n5, w5⟩
    obtain ⟨its5, rv5, pl5, _⟩ := I5.list (stay i H5 (by omega) w5)
    obtain ⟨f0, f1, f2, f3', f4, f5⟩ := stat I5 n5
    cases n with
    | zero =>
      have ei : i = xs.length := by omega
      subst ei
      have ls := rv5.length
      refine list_end_hot (hotAt I5) p1it st5 pl5.isList (by simp; omega) fun h6 k6 => ?_
      have I6 : Inv (X.blk s3 H3 scope ce [it]) [] (wipe σ (own.map (·.2))) H5 { s5 with heap := h6 } := I5.turned (t' := s5.toks) (fun b o hb e => k6 b o hb e) f0 f1 f3' f4 f5
      have I7 : Inv X pins σ H5 { s5 with heap := h6 } := I3.call' (ch := [it]) I6.os I6.base I6.hok I6.bare fun b hb => ⟨(f3 b hb).1.2.2.2.1, (f3 b hb).1.2.1, (f3 b hb).1.2.2.2.2.1, (f3 b hb).1.2.2.2.2.2⟩
      have nC : H5 s3.heap.objs.size = none := by
        have z : H5 ce.locals = none := I6.free
        rw [cL] at z
        exact z
      obtain ⟨m, hn, _⟩ := I6.loc
      have hn : h6.Ns ce.locals m := hn
      rw [cL] at hn
      refine ⟨m, hn, fun h'' sb => ?_⟩
      obtain ⟨g0, g1, g2, g3, g4, g5⟩ := I3.fpOk (b := s3.heap.objs.size) (H' := H5) (Nat.le_refl _) nC
      exact ⟨.ref D, H5, I7.turned (t' := s5.toks) (fun b o hb e => (sb.2 b hb).trans e) g0 g1 g3 g4 g5, rfl, fin H5 w5⟩
    | succ n =>
      have hi : i < xs.length := by omega
      have hx : xs[i]? = some xs[i] := List.getElem?_eq_getElem hi
      obtain ⟨u, hu, ru⟩ := rv5.get hx
      refine wpAny_pyNext_list_item st5 pl5.isList (x := u) (by simpa using hu) fun h6 st6 sb6 => ?_
      have I6 : Inv (X.blk s3 H3 scope ce [it]) [] (wipe σ (own.map (·.2))) H5 { s5 with heap := h6 } := I5.turned (t' := s5.toks) (fun b o hb e => (sb6.2 b hb).trans e) f0 f1 f3' f4 f5
      obtain ⟨oi, ei, ci, di⟩ := id st6
      refine go_of (s := { s5 with heap := h6 }) ei ci di (by decide) ?_
      have obj : ∀ b ∈ [it], ∃ o, h6.get? b = some o ∧ ∀ v, o.data ≠ .cell v := fun b hb => by
        obtain rfl := List.mem_singleton.mp hb
        exact ⟨oi, ei, fun v z => by rw [di] at z; cases z⟩
      have I6' := I6.pinned (fp := [it]) (fun b hb => by obtain rfl := List.mem_singleton.mp hb; exact stat I6 n5) obj
      refine thnF (pg.run _ { s5 with heap := h6 } _ H5 xs[i] u _ I6' ru (turn i _ H5 hx w5)) fun _ s8 ⟨σ8, H8, I8, hw8, q8⟩ => ?_
      refine wpAny_tests_nil ?_
      simp only [if_true]
      refine thnF (pe.run _ s8 σ8 H8 _ I8 q8) fun z s10 ⟨yv, H10, I10, r10, acc, hD10, hz10, nx⟩ => ?_
      refine app_ok (X := X.blk s3 H3 scope ce [it]) I10 hD10 hz10 r10 fun s11 I11 => ⟨n, Nat.lt_succ_self n, i + 1, _, by omega, ?_, ?_, ?_, nx⟩
      · have hlen : (wipe σ (own.map (·.2))).length = σ8.length := by rw [← hw8, wipe_length]
        refine (I11.unpinned (pins := [])).weak hlen fun j v e => ?_
        rw [← hw8] at e
        exact (wipe_some e).1
      · refine st6.at fun o e => ?_
        exact (I11.pin (it, o) (List.mem_append_right _ (List.mem_append_right _ (mem_pinsAt List.mem_cons_self e)))).1
      · exact (I11.pin (it, oi) (List.mem_append_right _ (List.mem_append_right _ (mem_pinsAt List.mem_cons_self ei)))).2.1
  exact codeAny_compStart_list loop (wpAny_pyIter_listiter st4 loop)
end

/-! ### a def that is called with the exception that is handled -/
/-- its promise may speak of the exception's place and object p -/
structure FnE (P : Program) (w : World) (K : PySem.W.Frag) (mg : Str → Option Value) (base : Heap) (k : Nat) (f : Addr) (fd : FuncData) (ps : List Str) (sp : Addr × Obj → Sp) : Prop where
  len : ∀ p vs H Q E, sp p vs H Q E → vs.length = ps.length
  run : ∀ (A : Around) (outer : List Env) (s : Shared) (H : Hp) (args : Args) (us : List Value) (vs : List V) (Q : VK) (E : XK) (p : Addr × Obj), L2H.RoomH k A → L2H.Hot1 A p → L2H.PinOk outer H s p →
    Env0 P w K mg base A outer s H → BindsTo s fd args (ps.zip us) → Vals vs us → sp p vs H Q E → codeAny (model P w) A (.call (.ref f) args) (CR CX0 outer P w H s Q E) s
theorem FnE.mono {P : Program} {w : World} {K : PySem.W.Frag} {mg : Str → Option Value} {base : Heap} {j k : Nat} {f : Addr} {fd : FuncData} {ps : List Str} {sp : Addr × Obj → Sp} (F : FnE P w K mg base j f fd ps sp) (h : j ≤ k) :
    FnE P w K mg base k f fd ps sp := ⟨F.len, fun A outer s H args us vs Q E p hr => F.run A outer s H args us vs Q E p (hr.mono h)⟩
theorem FnE.hot {P : Program} {w : World} {K : PySem.W.Frag} {mg : Str → Option Value} {base : Heap} {k : Nat} {f : Addr} {fd : FuncData} {ps : List Str} {sp : Sp} (F : FnE P w K mg base k f fd ps fun _ => sp) :
    L2H.FnH P w K mg base CX0 k f fd ps sp := ⟨F.len (0, default), F.run⟩
/-- the context of its body -/
abbrev cxE (P : Program) (w : World) (K : PySem.W.Frag) (mg : Str → Option Value) (base : Heap) (N : List Str) (qual : Str) (scope : Scope) (f : Addr) (cd : Value) (A : Around) (outer : List Env) (s : Shared) (H : Hp) (E : XK) (p : Addr × Obj) : Cx :=
  (L2H.cxH CX0 P w K mg base N qual scope f cd A outer s H E p).nox
theorem fun_okE {P : Program} {w : World} {K : PySem.W.Frag} {mg : Str → Option Value} {base : Heap} {x qual : Str} {st : Stmt} {f : Addr} {fd : FuncData} {N ps : List Str} {k : Nat} {sp : Addr × Obj → Sp} (F : Fun K x qual st f fd)
    (S : FnScope N ps (defScope st)) (len : ∀ p vs H Q E, sp p vs H Q E → vs.length = ps.length)
    (body : ∀ (cdv : Value) (A : Around) (outer : List Env) (s : Shared) (H : Hp) (vs : List V) (Q : VK) (E : XK) (p : Addr × Obj), L2H.Hot1 A p → L2H.RoomH k (A.deeper (envOfC qual (defScope st) s.heap.objs.size f cdv)) → sp p vs H Q E →
      ∃ t, PSs (cxE P w K mg base N qual (defScope st) f cdv A outer s H E p) (defBody st) t ∧ t { nx := fun _ H' => Q .non H', rt := Q } (L2.start N vs) H) : FnE P w K mg base (k + 1) f fd ps sp := by
  obtain ⟨oc, od, kV, doc, pm, an, cdv, ct, osl, rfl, lk, hcd⟩ := F.ex
  refine ⟨len, fun A outer s H args us vs Q E p hr hot hpin e0 hb r hsp => ?_⟩
  have KX : K.In s.heap := e0.mod.kin.keeps fun b o e => (e0.bs b o e).1
  have lim : s.heap.NoLimit := e0.mod.nolimit.keeps fun b o e => (e0.bs b o e).1
  have kinds : ∀ y ∈ ps.zip us, (defScope st).names.lookup y.1 = some .local ∨ ((defScope st).names.lookup y.1 = some .cell ∧ ((cellsFrom (s.heap.objs.size + 1) (defScope st).names []).lookup y.1).isSome = true) := fun y hy => by
    rcases S.par y.1 (List.of_mem_zip (a := y.1) (b := y.2) hy).1 with q | q
    · exact Or.inl q
    · exact Or.inr ⟨q, PySem.W.cellsFrom_some _ _ _ (Or.inl q)⟩
  refine codeAny_call_function hr.depth (KX _ _ lk) rfl S.co S.gen rfl (PySem.W.codeRec_of KX hcd) (hb _ _ _ _ ?_)
  refine wpAny_newFunctionEnv_cells S.kind kinds fun env he s1 x => ?_
  subst he
  refine ⟨lim.keeps x.toInCall.keep, codeAny_func ?_⟩
  obtain ⟨t, ht, hq⟩ := body cdv A outer s H vs Q E p hot (hr.deeper _) hsp
  have I : Inv (L2H.cxH CX0 P w K mg base N qual (defScope st) f cdv A outer s H E p) [] (L2.start N vs) H s1 := L2H.inv_startH S hpin e0 (len _ _ _ _ _ hsp) r x
  refine wpAny_mono (ht.nox.run [] s1 (L2.start N vs) H _ I hq) (fun fl s' hs => ?_) fun e s' hs => hs
  have done : ∀ {σ' : SL} {H' : Hp} {v : V} {u : Value}, Inv (L2H.cxH CX0 P w K mg base N qual (defScope st) f cdv A outer s H E p) [] σ' H' s' → RelV v u → Q v H' → CE outer P w H s Q u s' :=
    fun {σ' H' v u} J rv q => ⟨v, H', J.os, J.bare, J.base, J.hok, rv, q⟩
  cases fl with
  | ret u =>
    obtain ⟨v, σ', H', J, rv, q⟩ := hs
    exact done J rv q
  | next =>
    obtain ⟨σ', H', J, q⟩ := hs
    exact done (u := Value.none) (v := V.non) J rfl q
  | brk =>
    obtain ⟨_, _, _, q⟩ := hs
    exact q.elim
  | cont =>
    obtain ⟨_, _, _, q⟩ := hs
    exact q.elim
section
variable {X : Cx} {k : Nat} {f : Addr} {fd : FuncData} {ps : List Str} {sp : Addr × Obj → Sp} {x : Str} {q pos : Pos} {e : Expr} {es : List Expr} {t : TA}
/-- f(e, ..), p the exception's pin -/
def tCallE (sp : Sp) (t : TA) : TE := fun σ H Q => t σ H fun vs H1 => sp vs H1 Q E0
theorem pe_callEI {sq : Sp} (F : FnE X.prog X.w X.K X.mg X.base k f fd ps sp) (hr : L2H.RoomH k X.A) (p : Addr × Obj) (hot : L2H.Hot1 X.A p) (hp : p ∈ X.pn) (hi : ∀ vs H Q E, sq vs H Q E → sp p vs H Q E) (hg : Gl X x) (hm : X.mg x = some (.ref f)) (hk : PySem.W.keepIn X.K (.ref f) = true) (hb : Binds X.K fd ps [])
    (ha : PA X (e :: es) t) (hdb : (x == ("__debug__" : Str)) = false := by decide) (he : starEach (e :: es) X.env = (false, eval e X.env) :: starEach es X.env := by rfl) (hpl : (backTo pos (starEach es X.env)).any (·.1) = false := by rfl) :
    PE X (.Call (.Name x q) (e :: es) [] pos) (tCallE sq t) := by
  refine ⟨fun pins s σ H Q I h => ?_⟩
  refine wpAny_Call_Name_kw (ld_glob I hg hm ?_ hdb)
  refine PySem.W.callWith_K (h₀ := X.base) I.ok.mod.kin hk (thn (ha.run pos pins s σ H _ I h) fun us s1 hv => ?_) he hpl
  obtain ⟨vs, H1, I1, r, hs⟩ := hv
  refine ⟨I1.kIn, ?_⟩
  have hl : us.length = ps.length := by
    rw [← r.length]
    exact F.len _ _ _ _ _ (hi _ _ _ _ hs)
  have b := hb s1 us I1.kIn (by rw [List.append_nil]; exact hl)
  rw [List.append_nil] at b
  have P1 := I1.pin p (List.mem_append_left _ hp)
  have hpin : L2H.PinOk X.stack H1 s1 p := ⟨P1.1, P1.2.1, fun hm => (List.mem_cons.mp (I1.stkSub p.1 hm)).elim P1.2.2.1 P1.2.2.2.1, P1.2.2.2.2⟩
  refine wpAny_call (codeAny_mono (F.run X.A X.stack s1 H1 ⟨us, []⟩ us vs Q E0 p hr hot hpin I1.env0 b r (hi _ _ _ _ hs)) fun res s' hq => ?_)
  cases res with
  | error er => exact hq.elim
  | ok fl =>
    cases fl with
    | ret u => exact I1.after hq
    | next => exact hq.elim
    | brk => exact hq.elim
    | cont => exact hq.elim
theorem pe_callE (F : FnE X.prog X.w X.K X.mg X.base k f fd ps sp) (hr : L2H.RoomH k X.A) (p : Addr × Obj) (hot : L2H.Hot1 X.A p) (hp : p ∈ X.pn) (hg : Gl X x) (hm : X.mg x = some (.ref f)) (hk : PySem.W.keepIn X.K (.ref f) = true) (hb : Binds X.K fd ps [])
    (ha : PA X (e :: es) t) (hdb : (x == ("__debug__" : Str)) = false := by decide) (he : starEach (e :: es) X.env = (false, eval e X.env) :: starEach es X.env := by rfl) (hpl : (backTo pos (starEach es X.env)).any (·.1) = false := by rfl) :
    PE X (.Call (.Name x q) (e :: es) [] pos) (tCallE (sp p) t) := pe_callEI F hr p hot hp (fun _ _ _ _ h => h) hg hm hk hb ha hdb he hpl
end

/-! ### what is asked of the exception: isinstance(e, C), e.f -/
/-- what its class must say -/
structure ExKnow (K : PySem.W.Frag) (D : Addr) : Prop where
  cl : (PySem.W.clsIn K D).isSome = true
  ga : PySem.W.findIn K (.ref D) "__getattribute__" = some (some (.builtin "BaseException.__getattribute__"))
  gg : PySem.W.findIn K (.ref D) "__getattr__" = some none
  ex : PySem.W.subIn K (.ref D) (.type "BaseException") = some true
  hd : PySem.W.hasDictIn K D = true
  cla : PySem.W.findIn K (.ref D) "__class__" = some (some (.builtin "object.__class__"))
  sp : PySem.W.specialIn K (.builtin "object.__class__") "__get__" = some (some (.builtin "getset_descriptor.__get__"))
  tk : PySem.W.takesIn K (.builtin "object.__class__") = some true
  mo : PySem.W.mroIn K D (.type "object") = some true
/-- p is an exception of the class at D with the own dict d -/
structure Exc1 (p : Addr × Obj) (D d : Addr) : Prop where
  zc : Zc (.ref D) (some d) p.2
  fl : ∃ vs, p.2.data = .fields vs
theorem Exc1.inst {X : Cx} {pins : List (Addr × Obj)} {σ : SL} {H : Hp} {s : Shared} {p : Addr × Obj} {D d : Addr} {fs : List (Str × V)} (Z : Exc1 p D d) (I : Inv X pins σ H s) (hp : p ∈ X.pn) (hx : H d = some (.xd fs)) :
    ∃ (mA : Str → Option Value) (od : Obj), PySem.W.InstAt s.heap p.1 p.2 D (some od) ∧ (∀ f, RelO (fs.lookup f) (mA f)) ∧ ∀ n, PySem.W.lookIn n od = some (mA n) := by
  obtain ⟨hget, _⟩ := I.pin p (List.mem_append_left _ hp)
  have hx' : ObjOk X.prog X.w H s.heap d (.xd fs) := I.hok d _ hx
  obtain ⟨mA, hns, hr⟩ := hx'
  obtain ⟨od, ho, hl⟩ := lookIn_ns hns
  obtain ⟨vs, hv⟩ := Z.fl
  exact ⟨mA, od, ⟨hget, Z.zc.1, by unfold PySem.W.notCls; rw [hv] <;> rfl, by rw [Z.zc.2]; exact ho⟩, hr, hl⟩
section
variable {X : Cx} {p : Addr × Obj} {D d : Addr}
def rIsP (K : PySem.W.Frag) (a D d : Addr) : List V → Hp → VK → Prop := fun xs H Q => ∃ (c : V) (cv : Value) (b : Bool) (fs : List (Str × V)), xs = [.ref a, c] ∧ (∀ u, RelV c u → u = cv) ∧ H d = some (.xd fs) ∧ PySem.W.kitOne K (.ref D) cv = some b ∧ Q (.bl b) H
theorem call_isP (T : ExKnow X.K D) (Z : Exc1 p D d) (hp : p ∈ X.pn) : CallR X (.builtin "isinstance") (rIsP X.K p.1 D d) := by
  intro pins s σ H xs us Q I r h
  obtain ⟨c, cv, b, fs, rfl, hcv, hx, e, q⟩ := h
  cases r with
  | cons rx rr =>
    cases rr with
    | cons rt rr =>
      cases rr
      cases rx
      have ec := hcv _ rt
      subst ec
      obtain ⟨mA, od, J, _, _⟩ := Z.inst I hp hx
      exact PySem.W.kia_one (PySem.W.kitx_exc T.cl T.ga T.gg T.ex T.cla T.sp T.tk T.mo) I.kIn J e (fun z => nomatch z) fun tk => ⟨.bl b, H, I.kept (t' := tk) fun _ _ z => z, rfl, q⟩
/-- e.f -/
def tFldP (a d : Addr) (f : Str) (te : TE) : TE := fun σ H Q => te σ H fun x H1 => x = .ref a ∧ ∃ (fs : List (Str × V)) (v : V), H1 d = some (.xd fs) ∧ fs.lookup f = some v ∧ Q v H1
theorem pe_fldP {e : Expr} {te : TE} {pos : Pos} {n : Str} (T : ExKnow X.K D) (Z : Exc1 p D d) (hp : p ∈ X.pn) (hno : PySem.W.findIn X.K (.ref D) n = some none) (he : PE X e te)
    (hb : attributeBase e n X.env (eval e X.env) = eval e X.env := by rfl) : PE X (.Attribute e n pos) (tFldP p.1 d n te) := by
  refine ⟨fun pins s σ H Q I h => ?_⟩
  refine attr_of hb (thn (he.run pins s σ H _ I h) fun u s1 hv => ?_)
  obtain ⟨x, H1, I1, rx, ex, fs, v, hx, l, q⟩ := hv
  subst ex
  obtain rfl : u = Value.ref p.1 := rx
  obtain ⟨mA, od, J, hr, hl⟩ := Z.inst I1 hp hx
  obtain ⟨u, hu, ru⟩ := RelO.some_of (v := v) (o := mA n) (by rw [← l]; exact hr n)
  exact HandSPX.exc_get I1.kIn J T.ga T.gg T.ex (PySem.W.findObj_own T.hd hno rfl (by rw [hl, hu])) (handed_of ru) ⟨v, H1, I1.tok _, ru, q⟩
end

/-! ### raise C(e, ..), C with an own __init__, its context None -/
theorem pmk_oexN {X : Cx} {x : Str} {e : Expr} {es : List Expr} {ta : TA} {p pos : Pos} {C fI : Addr} {k : Nat} {fd : FuncData} {ps : List Str} {sp : Sp} (T : OexC X.K C) (iC : PySem.W.findIn X.K (.ref C) "__init__" = some (some (.ref fI)))
    (tI : PySem.W.typeIn X.K (.ref fI) = some (.type "function")) (F1 : FnOk X.prog X.w X.K X.mg X.base CX0 k fI fd ps sp) (hr : Room (k + 1) X.A) (hb : Binds X.K fd ps []) (hg : Gl X x) (hm : X.mg x = some (.ref C)) (ha : PA X (e :: es) ta)
    (hdb : (x == ("__debug__" : Str)) = false := by decide) (he : starEach (e :: es) X.env = (false, eval e X.env) :: starEach es X.env := by rfl) (hpl : (backTo pos (starEach es X.env)).any (·.1) = false := by rfl) :
    L2N.PMk X (.Call (.Name x p) (e :: es) [] pos) (tMkO C sp [] ta) := by
  intro pins s σ H Q I h
  obtain ⟨nm, q, N, bs, bm, sn, sub, ab, col, dd, k0, k1, k2, k3, k5, hC, hbm⟩ := T.cls
  refine wpAny_Call_Name_kw (ld_glob I hg hm ?_ hdb)
  refine PySem.W.callWith_K (h₀ := X.base) I.ok.mod.kin T.kC (thn (ha.run pos pins s σ H _ I h) fun us s1 hv => ?_) he hpl
  obtain ⟨vs, H1, I1, r1, hz, q1⟩ := hv
  refine ⟨I1.kIn, ?_⟩
  show wpAny _ _ (call (.ref C) us) _ _ _
  obtain ⟨hp, g, dr, tk, os⟩ := s1
  generalize hn : hp.objs.size + 1 = n
  have hsz : hp.objs.size ≤ n := by omega
  have fresh : H1 n = none := I1.hok.fresh hsz
  have hq := q1 n fresh
  rw [List.append_nil] at hq
  generalize hG1 : (hp.push (PySem.W.kdv_tup us)).push (PySem.HandSPX.excO C hp.objs.size) = G1
  have kk : ∀ b o, hp.get? b = some o → G1.get? b = some o := fun b o e => by
    rw [← hG1]
    exact Heap.get?_push_of_some _ (Heap.get?_push_of_some _ e)
  have hget : G1.get? n = some (PySem.HandSPX.excO C hp.objs.size) := by
    rw [← hG1, ← hn]
    heap_get
  have I2 : Inv X pins σ (upd H1 n (exo n C none)) ⟨G1, g, dr, tk, os⟩ := I1.laid (t' := tk) (a := n) (o := exo n C none) (h' := G1) kk hsz (exo_ok hget)
  have r2 : Vals (V.ref n :: vs) (Value.ref n :: us) := Paired.cons rfl r1
  have hl : (Value.ref n :: us ++ []).length = ps.length := by
    rw [List.append_nil, ← r2.length]
    exact F1.len _ _ _ _ hq
  have hus : us.length ≤ sizeLine := by
    rw [← Paired.length r1, sizeLine_eq]
    omega
  have b2 := hb _ (Value.ref n :: us) I2.kIn hl
  rw [List.append_nil] at b2
  have main := F1.run _ X.stack _ _ ⟨Value.ref n :: us, []⟩ (Value.ref n :: us) _ _ (fun _ _ _ => False) (hr.make C us []) (I2.env0.make C us []) b2 r2 hq
  refine wpAny_call (PySem.HandSPX.call_own F.excBase_ValueError (fun Y => PySem.HandSPX.refsVE_contains Y bm hbm) (I1.kIn _ _ hC) (PySem.W.looks_findIn I1.kIn iC) (fun self => PySem.W.bind_fn I1.kIn self tI) hus ?_)
  rw [hn, hG1]
  refine codeAny_mono main fun r s' hq' => ?_
  cases r with
  | error er => exact hq'.elim
  | ok fl =>
    cases fl with
    | ret u =>
      obtain ⟨v, H2, os2, bare2, un2, hok2, rv, ev, d, fs, ea, ed, hd1, q2⟩ := hq'
      subst ev
      obtain ⟨h2, g2, d2, t2, os'⟩ := s'
      obtain ⟨t0, G, J, kG, ge, hoe, na⟩ := mk_end0 (d2 := d2) (t2 := t2) I1 hsz kk un2 hok2 os2 bare2 ea ed hd1
      refine ⟨rv, n, _, _, ⟨G, g2, d2, t2, os'⟩, _, .ref C, some d, rfl, J, kG, ge, hoe, ⟨rfl, rfl, fun vs hv => ?_⟩, rfl, rfl, na, rfl, bare2, raises_own T.exC T.tyC, q2⟩
      cases hv
      rfl
    | next => exact hq'.elim
    | brk => exact hq'.elim
    | cont => exact hq'.elim
end UfH

/-! # What is known of the heap and stays: the known part G of the heap H, the pool of draws, lists that are being made -/
namespace UfG
open PySem PySem.Spec PyProof.Rows L2
open Evl (Ex)
abbrev SL := L2.St

theorem ex_upd {G H : Hp} {q : Addr} {o : HO} (e : Ex G H) : Ex (upd G q o) (upd H q o) := fun b u h => by
  by_cases hb : b = q
  · rw [hb, upd_same] at h ⊢
    exact h
  · rw [upd_ne hb] at h ⊢
    exact e b u h
theorem ex_in {G H : Hp} {q : Addr} {o : HO} (e : Ex G H) (h : H q = some o) : Ex (upd G q o) H := fun b u hu => by
  by_cases hb : b = q
  · rw [hb, upd_same] at hu
    rw [hb, ← hu]
    exact h
  · rw [upd_ne hb] at hu
    exact e b u hu
theorem ex_new {G : Hp} {q : Addr} {o : HO} (h : G q = none) : Ex G (upd G q o) := Evl.Ex.new h
theorem ex_mut {G H : Hp} {q : Addr} {o : HO} (e : Ex G H) (h : G q = none) : Ex G (upd H q o) := Evl.Ex.mut e h

/-! ### the pool -/
/-- the pool at a, its cells at c, drawn from at most n times: what is left of the number, how often it was drawn from, the cells, the next cell's place, the sum -/
def PoolAt (a c : Addr) (n : Nat) (H : Hp) : Prop := ∃ (x y k m : Int) (cells : List Int), H a = some (.lst [.int x, .int y, .ref c, .int k, .int m]) ∧ H c = some (.lst (cells.map V.int)) ∧
  0 ≤ x ∧ x < 2 ^ 200 ∧ 0 ≤ k ∧ k ≤ 70 * (n : Int) ∧ 0 ≤ m ∧ m < 2 ^ 200 ∧ ∀ z ∈ cells, 0 ≤ z ∧ z < 2 ^ 200
theorem PoolAt.ex {a c : Addr} {n : Nat} {H H' : Hp} (h : PoolAt a c n H) (e : Ex H H') : PoolAt a c n H' := by
  obtain ⟨x, y, k, m, cells, h1, h2, h3⟩ := h
  exact ⟨x, y, k, m, cells, e _ _ h1, e _ _ h2, h3⟩
theorem PoolAt.upd {a c q : Addr} {n : Nat} {o : HO} {H : Hp} (h : PoolAt a c n H) (n1 : a ≠ q) (n2 : c ≠ q) : PoolAt a c n (upd H q o) := by
  obtain ⟨x, y, k, m, cells, h1, h2, h3⟩ := h
  exact ⟨x, y, k, m, cells, by rw [upd_ne n1]; exact h1, by rw [upd_ne n2]; exact h2, h3⟩

/-- H0, G0: the heap and its known part at the entry; p: the pool (its address, its cells', how often it was drawn from at most); ls: lists that are being made; G: what is known and stays; H: the heap -/
structure Lw (H0 G0 : Hp) (p : Option (Addr × Addr × Nat)) (ls : List (Addr × HO)) (G H : Hp) : Prop where
  gh : Ex G H
  g0 : Ex G0 G
  old : ∀ b o, (∀ q, p = some q → b ≠ q.1) → H0 b = some o → H b = some o
  new : ∀ a o, H0 a = some o → G0 a = none → G a = none
  pool : ∀ q, p = some q → PoolAt q.1 q.2.1 q.2.2 H ∧ G q.1 = none ∧ G q.2.1 = none ∧ (∃ o, H0 q.1 = some o) ∧ (∃ o, H0 q.2.1 = some o) ∧ q.1 ≠ q.2.1
  loc : ∀ q ∈ ls, H q.1 = some q.2 ∧ G q.1 = none ∧ H0 q.1 = none
  nd : (ls.map (·.1)).Nodup
section
variable {H0 G0 G H G' H' : Hp} {p : Option (Addr × Addr × Nat)} {ls : List (Addr × HO)} {q : Addr} {o : HO}
theorem Lw.refl (e : Ex G H) : Lw H G none [] G H := ⟨e, Evl.Ex.refl G, fun _ _ _ h => h, fun _ _ _ h => h, (fun _ h => nomatch h), (fun _ h => nomatch h), List.nodup_nil⟩
/-- the heap grows -/
theorem Lw.step (lw : Lw H0 G0 p ls G H) (e : Ex H H') : Lw H0 G0 p ls G H' :=
  ⟨lw.gh.trans e, lw.g0, fun b u n h => e b u (lw.old b u n h), lw.new, fun q h => let ⟨a, r⟩ := lw.pool q h; ⟨a.ex e, r⟩, fun q h => let ⟨a, r⟩ := lw.loc q h; ⟨e _ _ a, r⟩, lw.nd⟩
theorem Lw.free (lw : Lw H0 G0 p ls G H) (h : H q = none) : G q = none := Evl.fresh_back lw.gh h
theorem Lw.there (lw : Lw H0 G0 p ls G H) {a : Addr} {u : HO} (h : H0 a = some u) : ∃ u', H a = some u' := by
  by_cases z : ∀ r, p = some r → a ≠ r.1
  · exact ⟨u, lw.old a u z h⟩
  · have z' : ∃ r, p = some r ∧ a = r.1 := by
      rcases p with _ | r
      · exact absurd (fun r e => nomatch e) z
      · refine ⟨r, rfl, Decidable.byContradiction fun n => z fun r' e => ?_⟩
        rw [← Option.some.inj e]
        exact n
    obtain ⟨r, e, rfl⟩ := z'
    obtain ⟨⟨_, _, _, _, _, h1, _⟩, _⟩ := lw.pool r e
    exact ⟨_, h1⟩
theorem Lw.apart (lw : Lw H0 G0 p ls G H) (h : H q = none) {a : Addr} {u : HO} (ha : H0 a = some u) : a ≠ q := fun z => by
  obtain ⟨u', e⟩ := lw.there ha
  rw [z, h] at e
  cases e
/-- a new object, known from now on -/
theorem Lw.alloc (lw : Lw H0 G0 p ls G H) (h : H q = none) : Lw H0 G0 p ls (upd G q o) (upd H q o) := by
  have eh : Ex H (upd H q o) := ex_new h
  refine ⟨ex_upd lw.gh, lw.g0.trans (ex_new (lw.free h)), fun b u n e => eh b u (lw.old b u n e), fun a u e g => ?_, fun r e => ?_, fun r hr => ?_, lw.nd⟩
  · rw [upd_ne (lw.apart h e)]
    exact lw.new a u e g
  · obtain ⟨h1, h2, h3, ⟨u1, h4⟩, ⟨u2, h5⟩, h6⟩ := lw.pool r e
    refine ⟨h1.ex eh, ?_, ?_, ⟨u1, h4⟩, ⟨u2, h5⟩, h6⟩
    · rw [upd_ne (lw.apart h h4)]
      exact h2
    · rw [upd_ne (lw.apart h h5)]
      exact h3
  · obtain ⟨h1, h2, h3⟩ := lw.loc r hr
    have ne : r.1 ≠ q := fun z => by
      rw [z, h] at h1
      cases h1
    exact ⟨eh _ _ h1, by rw [upd_ne ne]; exact h2, h3⟩
theorem Lw.allocE (lw : Lw H0 G0 p ls G H) (h : H q = none) : ∃ G', Ex G G' ∧ Lw H0 G0 p ls G' (upd H q o) ∧ G' q = some o := ⟨_, ex_new (lw.free h), lw.alloc h, upd_same⟩
/-- a new object that is still being made -/
theorem Lw.make (lw : Lw H0 G0 p ls G H) (h : H q = none) : Lw H0 G0 p ((q, o) :: ls) G (upd H q o) := by
  have eh : Ex H (upd H q o) := ex_new h
  have h0 : H0 q = none := by
    cases e : H0 q with
    | none => rfl
    | some u => exact absurd rfl (lw.apart h e)
  have l2 := lw.step eh
  refine ⟨l2.gh, l2.g0, l2.old, l2.new, l2.pool, fun r hr => ?_, ?_⟩
  · rcases List.mem_cons.mp hr with rfl | hr
    · exact ⟨upd_same, lw.free h, h0⟩
    · exact l2.loc r hr
  · rw [List.map_cons, List.nodup_cons]
    refine ⟨fun hm => ?_, lw.nd⟩
    obtain ⟨r, hr, e⟩ := List.mem_map.mp hm
    have z := (lw.loc r hr).1
    rw [show r.1 = q from e, h] at z
    cases z
/-- it changes -/
theorem Lw.put {o' : HO} (lw : Lw H0 G0 p ((q, o) :: ls) G H) : Lw H0 G0 p ((q, o') :: ls) G (upd H q o') := by
  obtain ⟨hq, gq, h0⟩ := lw.loc (q, o) List.mem_cons_self
  have ne0 : ∀ {a : Addr} {u : HO}, H0 a = some u → a ≠ q := fun {a u} e z => by
    have h0 : H0 q = none := h0
    rw [z, h0] at e
    cases e
  have nd := lw.nd
  rw [List.map_cons, List.nodup_cons] at nd
  refine ⟨ex_mut lw.gh gq, lw.g0, fun b u n e => ?_, lw.new, fun r e => ?_, fun r hr => ?_, ?_⟩
  · rw [upd_ne (ne0 e)]
    exact lw.old b u n e
  · obtain ⟨h1, h2, h3, ⟨u1, h4⟩, ⟨u2, h5⟩, h6⟩ := lw.pool r e
    exact ⟨h1.upd (ne0 h4) (ne0 h5), h2, h3, ⟨u1, h4⟩, ⟨u2, h5⟩, h6⟩
  · rcases List.mem_cons.mp hr with rfl | hr
    · exact ⟨upd_same, gq, h0⟩
    · obtain ⟨h1, h2, h3⟩ := lw.loc r (List.mem_cons_of_mem _ hr)
      have ne : r.1 ≠ q := fun z => nd.1 (List.mem_map.mpr ⟨r, hr, z⟩)
      exact ⟨by rw [upd_ne ne]; exact h1, h2, h3⟩
  · rw [List.map_cons, List.nodup_cons]
    exact nd
/-- it is done: known from now on -/
theorem Lw.keep (lw : Lw H0 G0 p ((q, o) :: ls) G H) : Lw H0 G0 p ls (upd G q o) H ∧ Ex G (upd G q o) := by
  obtain ⟨hq, gq, h0⟩ := lw.loc (q, o) List.mem_cons_self
  have gq : G q = none := gq
  have h0 : H0 q = none := h0
  have ne0 : ∀ {a : Addr} {u : HO}, H0 a = some u → a ≠ q := fun {a u} e z => by
    rw [z, h0] at e
    cases e
  have nd := lw.nd
  rw [List.map_cons, List.nodup_cons] at nd
  refine ⟨⟨ex_in lw.gh hq, lw.g0.trans (ex_new gq), lw.old, fun a u e g => ?_, fun r e => ?_, fun r hr => ?_, nd.2⟩, ex_new gq⟩
  · rw [upd_ne (ne0 e)]
    exact lw.new a u e g
  · obtain ⟨h1, h2, h3, ⟨u1, h4⟩, ⟨u2, h5⟩, h6⟩ := lw.pool r e
    exact ⟨h1, by rw [upd_ne (ne0 h4)]; exact h2, by rw [upd_ne (ne0 h5)]; exact h3, ⟨u1, h4⟩, ⟨u2, h5⟩, h6⟩
  · obtain ⟨h1, h2, h3⟩ := lw.loc r (List.mem_cons_of_mem _ hr)
    have ne : r.1 ≠ q := fun z => nd.1 (List.mem_map.mpr ⟨r, hr, z⟩)
    exact ⟨h1, by rw [upd_ne ne]; exact h2, h3⟩
/-- it is dropped -/
theorem Lw.drop (lw : Lw H0 G0 p ((q, o) :: ls) G H) : Lw H0 G0 p ls G H := by
  have nd := lw.nd
  rw [List.map_cons, List.nodup_cons] at nd
  exact ⟨lw.gh, lw.g0, lw.old, lw.new, lw.pool, fun r hr => lw.loc r (List.mem_cons_of_mem _ hr), nd.2⟩
theorem Lw.at (lw : Lw H0 G0 p ((q, o) :: ls) G H) : H q = some o := (lw.loc (q, o) List.mem_cons_self).1
theorem Lw.at2 {q' : Addr} {o' : HO} (lw : Lw H0 G0 p ((q', o') :: (q, o) :: ls) G H) : H q = some o := (lw.loc (q, o) (List.mem_cons_of_mem _ List.mem_cons_self)).1
/-- an object that was new since the entry is changed again -/
theorem Lw.thaw (lw : Lw H0 G0 p ls G H) (hG : G q = some o) (g0 : G0 q = none) (hl : ∀ r ∈ ls, r.1 ≠ q) : Lw H0 G0 p ((q, o) :: ls) (fun b => if b = q then none else G b) H ∧ Ex (fun b => if b = q then none else G b) G := by
  have h0 : H0 q = none := by
    cases e : H0 q with
    | none => rfl
    | some u =>
      have z := lw.new q u e g0
      rw [hG] at z
      cases z
  have sub : Ex (fun b => if b = q then none else G b) G := fun b u e => by
    by_cases hb : b = q
    · have e : (if b = q then none else G b) = some u := e
      rw [if_pos hb] at e
      cases e
    · have e : (if b = q then none else G b) = some u := e
      rw [if_neg hb] at e
      exact e
  have low : ∀ {b : Addr}, G b = none → (if b = q then none else G b) = none := fun {b} e => by
    by_cases hb : b = q
    · rw [if_pos hb]
    · rw [if_neg hb]
      exact e
  refine ⟨⟨sub.trans lw.gh, fun b u e => ?_, lw.old, fun a u e g => low (lw.new a u e g), fun r e => ?_, fun r hr => ?_, ?_⟩, sub⟩
  · have hb : b ≠ q := fun z => by
      rw [z, g0] at e
      cases e
    show (if b = q then none else G b) = some u
    rw [if_neg hb]
    exact lw.g0 b u e
  · obtain ⟨h1, h2, h3, h4⟩ := lw.pool r e
    exact ⟨h1, low h2, low h3, h4⟩
  · rcases List.mem_cons.mp hr with rfl | hr
    · exact ⟨lw.gh _ _ hG, if_pos rfl, h0⟩
    · obtain ⟨h1, h2, h3⟩ := lw.loc r hr
      exact ⟨h1, low h2, h3⟩
  · rw [List.map_cons, List.nodup_cons]
    refine ⟨fun hm => ?_, lw.nd⟩
    obtain ⟨r, hr, e⟩ := List.mem_map.mp hm
    exact hl r hr e
/-- into a call -/
theorem Lw.enter (lw : Lw H0 G0 p ls G H) : Lw H G none [] G H := .refl lw.gh
theorem Lw.enterP {a c : Addr} {n : Nat} (lw : Lw H0 G0 (some (a, c, n)) ls G H) : Lw H G (some (a, c, n)) [] G H := by
  refine ⟨lw.gh, Evl.Ex.refl G, fun _ _ _ h => h, fun _ _ _ h => h, fun r e => ?_, (fun _ h => nomatch h), List.nodup_nil⟩
  obtain ⟨h1, h2, h3, h4, h5, h6⟩ := lw.pool r e
  have h1' := h1
  obtain ⟨_, _, _, _, _, e1, e2, _⟩ := h1'
  exact ⟨h1, h2, h3, ⟨_, e1⟩, ⟨_, e2⟩, h6⟩
/-- a pool is there from now on -/
theorem Lw.begin {a c : Addr} {n : Nat} {H : Hp} (h : PoolAt a c n H) (hn : a ≠ c) : Lw H (fun _ => none) (some (a, c, n)) [] (fun _ => none) H := by
  refine ⟨(fun _ _ h => nomatch h), Evl.Ex.refl _, fun _ _ _ h => h, fun _ _ _ h => h, fun r e => ?_, (fun _ h => nomatch h), List.nodup_nil⟩
  obtain rfl := Option.some.inj e
  have h1' := h
  obtain ⟨_, _, _, _, _, e1, e2, _⟩ := h1'
  exact ⟨h, rfl, rfl, ⟨_, e1⟩, ⟨_, e2⟩, hn⟩
/-- it was drawn from less often -/
theorem Lw.more {a c : Addr} {n m : Nat} (lw : Lw H0 G0 (some (a, c, n)) ls G H) (h : n ≤ m) : Lw H0 G0 (some (a, c, m)) ls G H := by
  refine ⟨lw.gh, lw.g0, fun b o z => lw.old b o fun q e => ?_, lw.new, fun r e => ?_, lw.loc, lw.nd⟩
  · obtain rfl := Option.some.inj e
    exact z (a, c, m) rfl
  · obtain rfl := Option.some.inj e
    obtain ⟨⟨x, y, k, m', cells, h1, h2, h3, h4, h5, h6, h7⟩, r⟩ := lw.pool (a, c, n) rfl
    exact ⟨⟨x, y, k, m', cells, h1, h2, h3, h4, h5, Int.le_trans h6 (by show 70 * (n : Int) ≤ 70 * (m : Int); omega), h7⟩, r⟩
/-- behind a call -/
theorem Lw.after (lw : Lw H0 G0 p ls G H) (l : Lw H G none [] G' H') : Lw H0 G0 p ls G' H' := by
  have eh : Ex H H' := fun b u h => l.old b u (fun _ z => nomatch z) h
  refine ⟨l.gh, lw.g0.trans l.g0, fun b u n h => eh b u (lw.old b u n h), fun a u h g => ?_, fun r e => ?_, fun r hr => ?_, lw.nd⟩
  · obtain ⟨u', h'⟩ := lw.there h
    exact l.new a u' h' (lw.new a u h g)
  · obtain ⟨h1, h2, h3, ⟨u1, h4⟩, ⟨u2, h5⟩, h6⟩ := lw.pool r e
    obtain ⟨v1, k1⟩ := lw.there h4
    obtain ⟨v2, k2⟩ := lw.there h5
    exact ⟨h1.ex eh, l.new _ _ k1 h2, l.new _ _ k2 h3, ⟨u1, h4⟩, ⟨u2, h5⟩, h6⟩
  · obtain ⟨h1, h2, h3⟩ := lw.loc r hr
    exact ⟨eh _ _ h1, l.new _ _ h1 h2, h3⟩
theorem Lw.afterP {a c : Addr} {n n' : Nat} (lw : Lw H0 G0 (some (a, c, n)) ls G H) (l : Lw H G (some (a, c, n')) [] G' H') : Lw H0 G0 (some (a, c, n')) ls G' H' := by
  obtain ⟨h1, h2, h3, ⟨u1, h4⟩, ⟨u2, h5⟩, h6⟩ := lw.pool (a, c, n) rfl
  refine ⟨l.gh, lw.g0.trans l.g0, fun b u z h => l.old b u z (lw.old b u (fun q e => ?_) h), fun b u h g => ?_, fun r e => ?_, fun r hr => ?_, lw.nd⟩
  · obtain rfl := Option.some.inj e
    exact z (a, c, n') rfl
  · obtain ⟨u', h'⟩ := lw.there h
    exact l.new b u' h' (lw.new b u h g)
  · obtain rfl := Option.some.inj e
    obtain ⟨k1, k2, k3, k4, k5, k6⟩ := l.pool (a, c, n') rfl
    exact ⟨k1, k2, k3, ⟨u1, h4⟩, ⟨u2, h5⟩, h6⟩
  · obtain ⟨k1, k2, k3⟩ := lw.loc r hr
    have ne : ∀ q, some (a, c, n') = some q → r.1 ≠ q.1 := fun q e z => by
      obtain rfl := Option.some.inj e
      rw [z] at k3
      have h4 : H0 a = some u1 := h4
      rw [show H0 a = none from k3] at h4
      cases h4
    exact ⟨l.old _ _ ne k1, l.new _ _ k1 k2, k3⟩
/-- the pool's own list changes -/
theorem Lw.turn {a c : Addr} {n n' : Nat} {x y k m : Int} (lw : Lw H0 G0 (some (a, c, n)) ls G H) (h0 : 0 ≤ x) (h1 : x < 2 ^ 200) (h2 : 0 ≤ k) (h3 : k ≤ 70 * (n' : Int)) (h4 : 0 ≤ m) (h5 : m < 2 ^ 200) :
    Lw H0 G0 (some (a, c, n')) ls G (upd H a (.lst [.int x, .int y, .ref c, .int k, .int m])) := by
  obtain ⟨⟨_, _, _, _, cells, e1, e2, _, _, _, _, _, _, e8⟩, p2, p3, ⟨u1, p4⟩, p5, p6⟩ := lw.pool (a, c, n) rfl
  refine ⟨ex_mut lw.gh p2, lw.g0, fun b u z h => ?_, lw.new, fun r e => ?_, fun r hr => ?_, lw.nd⟩
  · rw [upd_ne (z (a, c, n') rfl)]
    refine lw.old b u (fun q e => ?_) h
    obtain rfl := Option.some.inj e
    exact z (a, c, n') rfl
  · obtain rfl := Option.some.inj e
    refine ⟨⟨x, y, k, m, cells, upd_same, ?_, h0, h1, h2, h3, h4, h5, e8⟩, p2, p3, ⟨u1, p4⟩, p5, p6⟩
    rw [upd_ne (Ne.symm p6)]
    exact e2
  · obtain ⟨k1, k2, k3⟩ := lw.loc r hr
    have ne : r.1 ≠ a := fun z => by
      rw [z] at k3
      have p4 : H0 a = some u1 := p4
      rw [k3] at p4
      cases p4
    exact ⟨by rw [upd_ne ne]; exact k1, k2, k3⟩
end

/-! ### data -/
mutual
/-- in the known part G stands the data d -/
inductive Rp (G : Hp) : V → PyData → Prop
  | non : Rp G .non .none
  | bl (b : Bool) : Rp G (.bl b) (.bool b)
  | int (i : Int) : Rp G (.int i) (.int i)
  | str (x : Str) : Rp G (.str x) (.str x)
  | lst {a : Addr} {xs : List V} {ds : List PyData} : G a = some (.lst xs) → RpAll G xs ds → Rp G (.ref a) (.list ds)
  | tup {a : Addr} {xs : List V} {ds : List PyData} : G a = some (.tup xs) → RpAll G xs ds → Rp G (.ref a) (.tuple ds)
inductive RpAll (G : Hp) : List V → List PyData → Prop
  | nil : RpAll G [] []
  | cons {v : V} {vs : List V} {d : PyData} {ds : List PyData} : Rp G v d → RpAll G vs ds → RpAll G (v :: vs) (d :: ds)
end
section
variable {G G' : Hp}
mutual
theorem Rp.ex (e : Ex G G') : ∀ {v : V} {d : PyData}, Rp G v d → Rp G' v d
  | _, _, .non => .non
  | _, _, .bl b => .bl b
  | _, _, .int i => .int i
  | _, _, .str x => .str x
  | _, _, .lst h r => .lst (e _ _ h) (RpAll.ex e r)
  | _, _, .tup h r => .tup (e _ _ h) (RpAll.ex e r)
theorem RpAll.ex (e : Ex G G') : ∀ {vs : List V} {ds : List PyData}, RpAll G vs ds → RpAll G' vs ds
  | _, _, .nil => .nil
  | _, _, .cons a b => .cons (Rp.ex e a) (RpAll.ex e b)
end
theorem RpAll.length : ∀ {vs : List V} {ds : List PyData}, RpAll G vs ds → vs.length = ds.length
  | _, _, .nil => rfl
  | _, _, .cons _ t => by rw [List.length_cons, List.length_cons, RpAll.length t]
theorem RpAll.get : ∀ {vs : List V} {ds : List PyData} {i : Nat} {d : PyData}, RpAll G vs ds → ds[i]? = some d → ∃ v, vs[i]? = some v ∧ Rp G v d
  | _, _, _, _, .nil, h => by simp at h
  | _, _, 0, _, .cons a _, h => by
    simp at h
    subst h
    exact ⟨_, rfl, a⟩
  | _, _, i + 1, _, .cons _ t, h => by
    obtain ⟨v, h1, h2⟩ := RpAll.get (i := i) t (by simpa using h)
    exact ⟨v, by simpa using h1, h2⟩
theorem RpAll.get' : ∀ {vs : List V} {ds : List PyData} {i : Nat} {v : V}, RpAll G vs ds → vs[i]? = some v → ∃ d, ds[i]? = some d ∧ Rp G v d
  | _, _, _, _, .nil, h => by simp at h
  | _, _, 0, _, .cons a _, h => by
    simp at h
    subst h
    exact ⟨_, rfl, a⟩
  | _, _, i + 1, _, .cons _ t, h => by
    obtain ⟨v, h1, h2⟩ := RpAll.get' (i := i) t (by simpa using h)
    exact ⟨v, by simpa using h1, h2⟩
theorem RpAll.append : ∀ {vs ws : List V} {ds es : List PyData}, RpAll G vs ds → RpAll G ws es → RpAll G (vs ++ ws) (ds ++ es)
  | _, _, _, _, .nil, s => s
  | _, _, _, _, .cons a t, s => .cons a (RpAll.append t s)
theorem RpAll.ints : ∀ ns : List Int, RpAll G (ns.map V.int) (ns.map PyData.int)
  | [] => .nil
  | n :: r => .cons (.int n) (RpAll.ints r)
theorem RpAll.ints_eq : ∀ {vs : List V} {ns : List Int}, RpAll G vs (ns.map PyData.int) → vs = ns.map V.int
  | [], [], _ => rfl
  | [], _ :: _, h => nomatch h
  | _ :: _, [], h => nomatch h
  | v :: vs, n :: ns, h => by
    cases h with
    | cons a t =>
      cases a
      rw [List.map_cons, ← RpAll.ints_eq t]
theorem RpAll.len' {α : Type} {G : Hp} {xs : List V} {l : List α} {f : α → PyData} (h : RpAll G xs (l.map f)) : xs.length = l.length := by
  rw [h.length, List.length_map]
theorem RpAll.at' {α : Type} {G : Hp} {xs : List V} {l : List α} {f : α → PyData} {i : Nat} {x : V} (h : RpAll G xs (l.map f)) (hx : xs[i]? = some x) : ∃ q, l[i]? = some q ∧ Rp G x (f q) := by
  obtain ⟨d, hd, r⟩ := h.get' hx
  rw [List.getElem?_map] at hd
  cases e : l[i]? with
  | none =>
    rw [e] at hd
    cases hd
  | some q =>
    rw [e] at hd
    obtain rfl := Option.some.inj hd
    exact ⟨q, rfl, r⟩
theorem RpAll.one {v : V} {d : PyData} (h : Rp G v d) : RpAll G [v] [d] := .cons h .nil
theorem Rp.tupI {a : Addr} {ns : List Int} (h : G a = some (.tup (ns.map V.int))) : Rp G (.ref a) (.tuple (ns.map PyData.int)) := .tup h (RpAll.ints ns)
theorem Rp.lstI {a : Addr} {ns : List Int} (h : G a = some (.lst (ns.map V.int))) : Rp G (.ref a) (.list (ns.map PyData.int)) := .lst h (RpAll.ints ns)
mutual
theorem Rp.dp {K : PySem.W.Frag} : ∀ {v : V} {d : PyData}, Rp G v d → Dp K G v d
  | _, _, .non => .non
  | _, _, .bl b => .bl b
  | _, _, .int i => .int i
  | _, _, .str x => .str x
  | _, _, .lst h r => .lst (SqL.of h) (RpAll.dp r)
  | _, _, .tup h r => .tup (SqT.of h) (RpAll.dp r)
theorem RpAll.dp {K : PySem.W.Frag} : ∀ {vs : List V} {ds : List PyData}, RpAll G vs ds → DpAll K G vs ds
  | _, _, .nil => .nil
  | _, _, .cons a b => .cons (Rp.dp a) (RpAll.dp b)
end
end

/-! ### the forms of promises -/
/-- nothing of the heap changes -/
def PureSp (pre : List V → Hp → Prop) (post : List V → Hp → Hp → V → Prop) : Sp := fun vs H Q _ => ∃ G, Lw H G none [] G H ∧ pre vs G ∧ ∀ G' H' v, Lw H G none [] G' H' → post vs G G' v → Q v H'
/-- the pool (the first argument) may change: d draws at most -/
def PoolSp (d : Nat) (pre : List V → Hp → Prop) (post : List V → Hp → Hp → V → Prop) : Sp := fun vs H Q _ => ∃ G a c n ws, vs = .ref a :: ws ∧ Lw H G (some (a, c, n)) [] G H ∧ n + d ≤ 1000000 ∧ pre ws G ∧ ∀ G' H' v, Lw H G (some (a, c, n + d)) [] G' H' → post ws G G' v → Q v H'
section
variable {H0 G0 G H : Hp} {p : Option (Addr × Addr × Nat)} {ls : List (Addr × HO)} {pre : List V → Hp → Prop} {post : List V → Hp → Hp → V → Prop} {vs ws : List V} {Q : VK} {E : XK} {a c : Addr}
theorem call_pure (lw : Lw H0 G0 p ls G H) (hp : pre vs G) (k : ∀ G' H' v, Ex G G' → Lw H0 G0 p ls G' H' → post vs G G' v → Q v H') : PureSp pre post vs H Q E :=
  ⟨G, lw.enter, hp, fun G' H' v l hv => k G' H' v l.g0 (lw.after l) hv⟩
theorem call_pool {n d : Nat} (lw : Lw H0 G0 (some (a, c, n)) ls G H) (hn : n + d ≤ 1000000) (hp : pre ws G) (k : ∀ G' H' v, Ex G G' → Lw H0 G0 (some (a, c, n + d)) ls G' H' → post ws G G' v → Q v H') : PoolSp d pre post (.ref a :: ws) H Q E :=
  ⟨G, a, c, n, ws, rfl, lw.enterP, hn, hp, fun G' H' v l hv => k G' H' v l.g0 (lw.afterP l) hv⟩
end

/-! ### readings of single operations over known data -/
section
variable {K : PySem.W.Frag} {H0 G0 G H : Hp} {p : Option (Addr × Addr × Nat)} {ls : List (Addr × HO)} {Q : VK} {x y : V} {d e : PyData} {ds : List PyData} {n : Nat}
theorem SqL.g {a : Addr} {xs : List V} (lw : Lw H0 G0 p ls G H) (h : G a = some (.lst xs)) : SqL K H a xs := L2.SqL.of (lw.gh _ _ h)
theorem SqT.g {a : Addr} {xs : List V} (lw : Lw H0 G0 p ls G H) (h : G a = some (.tup xs)) : SqT K H a xs := L2.SqT.of (lw.gh _ _ h)
theorem r_ixL (lw : Lw H0 G0 p ls G H) (r : Rp G x (.list ds)) (h : ds[n]? = some d) (k : ∀ v, Rp G v d → Q v H) : rIxL K x (.int (n : Int)) H Q := by
  cases r with
  | lst ha rs =>
    obtain ⟨v, hv, rv⟩ := rs.get h
    exact ⟨_, _, _, v, rfl, rfl, SqL.g lw ha, atI_nat hv, k v rv⟩
theorem r_ixT (lw : Lw H0 G0 p ls G H) (r : Rp G x (.tuple ds)) (h : ds[n]? = some d) (k : ∀ v, Rp G v d → Q v H) : rIxT K x (.int (n : Int)) H Q := by
  cases r with
  | tup ha rs =>
    obtain ⟨v, hv, rv⟩ := rs.get h
    exact ⟨_, _, _, v, rfl, rfl, SqT.g lw ha, atI_nat hv, k v rv⟩
theorem Rp.up (lw : Lw H0 G0 p ls G H) (r : Rp G x d) : Dp K H x d := (r.ex lw.gh).dp
theorem r_eqD (lw : Lw H0 G0 p ls G H) (r : Rp G x d) (s : Rp G y e) (hd : SeqAt.shaped d = true) (he : SeqAt.shaped e = true) (k : Q (.bl (PyData.eqv d e)) H) : rEqD K x y H Q :=
  ⟨d, e, Rp.up lw r, Rp.up lw s, hd, he, k⟩
theorem r_neD (lw : Lw H0 G0 p ls G H) (r : Rp G x d) (s : Rp G y e) (hd : SeqAt.shaped d = true) (he : SeqAt.shaped e = true) (k : Q (.bl (!PyData.eqv d e)) H) : rNeD K x y H Q :=
  ⟨d, e, Rp.up lw r, Rp.up lw s, hd, he, k⟩
/-- a new tuple, a new list, known from now on -/
theorem t_tup {xs : List V} (lw : Lw H0 G0 p ls G H) (hz : xs.length ≤ 100000) (k : ∀ t G' H', Ex G G' → Lw H0 G0 p ls G' H' → G' t = some (.tup xs) → Q (.ref t) H') :
    xs.length ≤ sizeLine ∧ ∀ t, H t = none → Q (.ref t) (upd H t (.tup xs)) :=
  ⟨Evl.sz_of hz, fun t ht => k t (upd G t (.tup xs)) _ (ex_new (lw.free ht)) (lw.alloc ht) upd_same⟩
theorem t_lst {xs : List V} (lw : Lw H0 G0 p ls G H) (hz : xs.length ≤ 100000) (k : ∀ t G' H', Ex G G' → Lw H0 G0 p ls G' H' → G' t = some (.lst xs) → Q (.ref t) H') :
    xs.length ≤ sizeLine ∧ ∀ t, H t = none → Q (.ref t) (upd H t (.lst xs)) :=
  ⟨Evl.sz_of hz, fun t ht => k t (upd G t (.lst xs)) _ (ex_new (lw.free ht)) (lw.alloc ht) upd_same⟩
/-- shapes -/
theorem lay_ints : ∀ ns : List Int, PyData.canLayAll0 (ns.map PyData.int) = true
  | [] => by simp only [List.map_nil, PyData.canLayAll0]
  | n :: r => by
    rw [List.map_cons]
    simp only [PyData.canLayAll0, PyData.canLay0, Bool.true_and]
    exact lay_ints r
theorem depth_ints : ∀ ns : List Int, PyData.depthAll (ns.map PyData.int) = 0
  | [] => by simp only [List.map_nil, PyData.depthAll]
  | n :: r => by
    rw [List.map_cons]
    simp only [PyData.depthAll, PyData.depth, depth_ints r]
    rfl
theorem shaped_int (i : Int) : SeqAt.shaped (.int i) = true := by
  unfold SeqAt.shaped
  simp only [PyData.canLay0, PyData.depth]
  rfl
theorem shaped_tupI (ns : List Int) : SeqAt.shaped (.tuple (ns.map PyData.int)) = true := by
  unfold SeqAt.shaped
  simp only [PyData.canLay0, PyData.depth, lay_ints, depth_ints]
  rfl
theorem eqv_ints : ∀ ns ms : List Int, PyData.eqvAll (ns.map PyData.int) (ms.map PyData.int) = decide (ns = ms)
  | [], [] => by simp [PyData.eqvAll]
  | [], m :: r => by simp [PyData.eqvAll]
  | n :: r, [] => by simp [PyData.eqvAll]
  | n :: r, m :: s => by
    rw [List.map_cons, List.map_cons]
    simp only [PyData.eqvAll, PyData.eqv, eqv_ints r s]
    by_cases h : n = m
    · subst h
      simp
    · have e : (n == m) = false := beq_eq_false_iff_ne.mpr h
      rw [e, Bool.false_and]
      exact (decide_eq_false (fun z => h (List.cons.inj z).1)).symm
end
end UfG

/-! # Defs and error classes of a text; promises of defs that raise -/
namespace UfT
open PySem PySem.Spec PyProof.Rows L2 UfG
open Evl (Ex)

theorem units_h {k : Nat} {A : Around} (r : L2H.RoomH k A) : A.units + 64 < cLine := by
  have := r.un
  omega
theorem units0_h {k : Nat} {A : Around} (r : L2H.RoomH k A) : A.units < cLine := by
  have := r.un
  omega
/-- a def of the text -/
structure FnAt (K : PySem.W.Frag) (mg : Str → Option Value) (x : Str) (st : Stmt) (ps : List Str) where
  f : Addr
  fd : FuncData
  F : Fun K x x st f fd
  g : mg x = some (.ref f)
  b : Binds K fd ps []
/-- an error class with an own __init__ -/
structure ExAt (K : PySem.W.Frag) (mg : Str → Option Value) (x qual : Str) (st : Stmt) (ps : List Str) where
  C : Addr
  fI : Addr
  fd : FuncData
  g : mg x = some (.ref C)
  T : OexC K C
  kn : UfH.ExKnow K C
  iC : PySem.W.findIn K (.ref C) "__init__" = some (some (.ref fI))
  tI : PySem.W.typeIn K (.ref fI) = some (.type "function")
  F : Fun K "__init__" qual st fI fd
  b : Binds K fd ps []

/-- a class of the text -/
structure ClAt (mg : Str → Option Value) (x : Str) where
  C : Addr
  g : mg x = some (.ref C)
theorem takesN0 {X : Cx} : L2N.Takes X (fun _ _ _ _ => False) := fun _ _ x => by
  obtain ⟨_, _, _, _, _, _, _, _, _, _, _, _, _, _, _, _, z⟩ := x
  exact z.elim
/-- in the suite of an except clause -/
theorem hotOf {A : Around} {a : Addr} {oe : Obj} {cls : Value} {d : Option Addr} (hz : L2N.Zn cls d oe) (hf : ∃ vs, oe.data = .fields vs) : L2H.Hot1 (A.mark (some (.ref a))) (a, oe) := by
  obtain ⟨vs, e⟩ := hf
  exact ⟨rfl, vs, e, hz.2.2 vs e⟩
/-- what isinstance tells of an instance of the class at D -/
def Kits (K : PySem.W.Frag) (D : Addr) (cs : List (Value × Bool)) : Prop := ∀ c ∈ cs, PySem.W.kitOne K (.ref D) c.1 = some c.2

section
variable {K : PySem.W.Frag} {D : Addr} {c : Value × Bool} {cs : List (Value × Bool)}
theorem Kits.k0 (h : Kits K D (c :: cs)) : PySem.W.kitOne K (.ref D) c.1 = some c.2 := h c List.mem_cons_self
theorem Kits.tl (h : Kits K D (c :: cs)) : Kits K D cs := fun x hx => h x (List.mem_cons_of_mem _ hx)
theorem Kits.nil : Kits K D [] := fun _ hx => nomatch hx
theorem Kits.cons {v : Value} {b : Bool} (h : PySem.W.kitOne K (.ref D) v = some b) (r : Kits K D cs) : Kits K D ((v, b) :: cs) := fun x hx => by
  rcases List.mem_cons.mp hx with e | e
  · rw [e]
    exact h
  · exact r x e
end

/-! ### __init__ of one field -/
/-- self.f = y of a fresh error of the class at C -/
def spI1 (K : PySem.W.Frag) (f : Str) : Sp := fun vs H Q _ => ∃ (a C : Addr) (y : V), vs = [.ref a, y] ∧ OexC K C ∧ PySem.W.findIn K (.ref C) f = some none ∧ H a = some (exo a C none) ∧
  ∀ dx, H dx = none → dx ≠ a → Q .non (upd (upd H dx (exd dx [(f, y)])) a (exo a C (some dx)))
theorem mk1_of {K : PySem.W.Frag} {C : Addr} {f : Str} {y : V} {H1 : Hp} {Q : XK} (T : OexC K C) (hn : PySem.W.findIn K (.ref C) f = some none) (h : ∀ d, H1 d = none → Q (.ref C) (some d) (upd H1 d (.xd [(f, y)]))) :
    [y].length ≤ 1000 ∧ ∀ a, H1 a = none → spI1 K f (.ref a :: ([y] ++ [])) (upd H1 a (exo a C none))
      (fun v H2 => v = .non ∧ ∃ (d : Addr) (fs : List (Str × V)), H2 a = some (exo a C (some d)) ∧ H2 d = some (exd d fs) ∧ H1 d = none ∧ Q (.ref C) (some d) (upd (del H2 a) d (.xd fs))) (fun _ _ _ => False) := by
  refine ⟨(by show 1 ≤ 1000; decide), fun a ha => ⟨a, C, y, rfl, T, hn, upd_same, fun dx hd hne => ⟨rfl, dx, [(f, y)], upd_same, ?_, ?_, ?_⟩⟩⟩
  · rw [upd_ne hne, upd_same]
  · rw [upd_ne hne] at hd
    exact hd
  · have hd' : H1 dx = none := by
      rw [upd_ne hne] at hd
      exact hd
    have e : L2.upd (del (L2.upd (L2.upd (L2.upd H1 a (exo a C none)) dx (exd dx [(f, y)])) a (exo a C (some dx))) a) dx (.xd [(f, y)]) = L2.upd H1 dx (.xd [(f, y)]) := by
      funext b
      by_cases hb : b = dx
      · rw [hb, upd_same, upd_same]
      · rw [upd_ne hb, upd_ne hb]
        by_cases hba : b = a
        · rw [hba, del_same, ha]
        · rw [del_ne hba, upd_ne hba, upd_ne hb, upd_ne hba]
    rw [e]
    exact h dx hd'

/-! ### defs that raise -/
section
variable {P : Program} {w : World} {K : PySem.W.Frag} {mg : Str → Option Value} {base : Heap}
theorem fun_okX {x qual : Str} {st : Stmt} {f : Addr} {fd : FuncData} {N ps : List Str} {k : Nat} {sp : Sp} (F : Fun K x qual st f fd) (S : FnScope N ps (defScope st)) (len : ∀ vs H Q E, sp vs H Q E → vs.length = ps.length)
    (body : ∀ (cdv : Value) (A : Around) (outer : List Env) (s : Shared) (H : Hp) (vs : List V) (Q : VK) (E : XK), Room k (A.deeper (envOfC qual (defScope st) s.heap.objs.size f cdv)) → sp vs H Q E →
      ∃ t, PSs (cxOf (L2N.CX P w) P w K mg base N qual (defScope st) f cdv A outer s H E) (defBody st) t ∧ t { nx := fun _ H' => Q .non H', rt := Q } (start N vs) H) : FnOk P w K mg base (L2N.CX P w) (k + 1) f fd ps sp := by
  obtain ⟨oc, od, kV, doc, pm, an, cdv, ct, osl, rfl, lk, hcd⟩ := F.ex
  exact fn_of lk hcd S len fun A outer s H vs Q E hr hsp => body cdv A outer s H vs Q E hr hsp
end
/-- nothing of the heap changes; or an error is raised: C its class, d its own dict -/
def RaiseSp (pre : List V → Hp → Prop) (post : List V → Hp → Hp → V → Prop) (exc : List V → Hp → Addr → Addr → Prop) : Sp := fun vs H Q E => ∃ G, Lw H G none [] G H ∧ pre vs G ∧
  (∀ G' H' v, Lw H G none [] G' H' → post vs G G' v → Q v H') ∧ ∀ G' H' C d, Lw H G none [] G' H' → exc vs G' C d → E (.ref C) (some d) H'
theorem call_raise {H0 G0 G H : Hp} {p : Option (Addr × Addr × Nat)} {ls : List (Addr × HO)} {pre : List V → Hp → Prop} {post : List V → Hp → Hp → V → Prop} {exc : List V → Hp → Addr → Addr → Prop} {vs : List V} {Q : VK} {E : XK}
    (lw : Lw H0 G0 p ls G H) (hp : pre vs G) (k : ∀ G' H' v, Ex G G' → Lw H0 G0 p ls G' H' → post vs G G' v → Q v H') (kx : ∀ G' H' C d, Ex G G' → Lw H0 G0 p ls G' H' → exc vs G' C d → E (.ref C) (some d) H') :
    RaiseSp pre post exc vs H Q E := ⟨G, lw.enter, hp, fun G' H' v l hv => k G' H' v l.g0 (lw.after l) hv, fun G' H' C d l hv => kx G' H' C d l.g0 (lw.after l) hv⟩
/-- the own dict of a new error is known from now on -/
theorem Lw.errd {H0 G0 G H : Hp} {p : Option (Addr × Addr × Nat)} {ls : List (Addr × HO)} {d : Addr} {o : HO} (lw : Lw H0 G0 p ls G H) (h : H d = none) : Lw H0 G0 p ls (upd G d o) (upd H d o) := lw.alloc h
end UfT

/-! # More rules: comb, sum of a tuple, enumerate of a tuple, two lists of ints in order -/
namespace UfM
open PySem PySem.Spec PyProof.Rows L2
abbrev SL := L2.St

/-! ### math.comb -/
section
variable {X : Cx}
def rComb : List V → Hp → VK → Prop := fun vs H Q => ∃ a b : Int, vs = [.int a, .int b] ∧ 0 ≤ a ∧ 0 ≤ b ∧ a ≤ 18000 ∧ Q (.int (PySem.W.mcComb a b)) H
theorem cr_comb : CallR X (.builtin "math.comb") rComb := by
  intro pins s σ H vs us Q I r h
  obtain ⟨a, b, rfl, ha, hb, hz, q⟩ := h
  obtain ⟨t, u, rfl⟩ := Vals.int2 r
  exact PySem.W.mc_comb ha hb (by omega) (.inr hz) fun _ => ⟨.int _, H, I.tok _, ⟨_, rfl⟩, q⟩

/-! ### sum of a tuple of ints -/
def rSumT (K : PySem.W.Frag) : List V → Hp → VK → Prop := fun vs H Q => ∃ (a : Addr) (ns : List Int), vs = [V.ref a] ∧ SqT K H a (ns.map V.int) ∧ Q (.int ns.sum) H
theorem cr_sumT (hc : X.calm = true) : CallR X (.builtin "sum") (rSumT X.K) := by
  intro pins s σ H vs us Q I r h
  obtain ⟨a, ns, rfl, hs, q⟩ := h
  obtain ⟨its, rv, hl, _⟩ := I.tuple hs
  rw [Vals.ref1 r]
  have hi := rv.ints
  obtain ⟨xs, e⟩ := hi.allInts.items
  have hn : numsOf (intItems xs).toList = ns := by rw [← e]; exact hi.numsOf
  rw [nums_intItems] at hn
  have hl' : s.heap.IsTuple a its.toArray := hl
  rw [e] at hl'
  refine PySem.W.ktm_sumG (I.ok.hd hc) hl' fun h' tk t' hk => ?_
  rw [preSum_eq, List.take_of_length_le (by simp), hn]
  exact ⟨.int _, H, I.kept hk, ⟨_, rfl⟩, q⟩

/-! ### a list of ints that is greater than another one -/
theorem first_yes {e r : Nat → Bool} {fin : Bool} {k : Nat} : ∀ (l1 l2 : List Nat), (∀ j ∈ l1, e j = true) → e k = false → r k = true → SeqAt.firstLt e r fin (l1 ++ k :: l2) = true
  | [], l2, _, hk, hr => by
    rw [List.nil_append, SeqAt.firstLt_no hk, hr]
  | j :: l1, l2, h, hk, hr => by
    rw [List.cons_append, SeqAt.firstLt_yes (h j List.mem_cons_self)]
    exact first_yes l1 l2 (fun i hi => h i (List.mem_cons_of_mem _ hi)) hk hr
theorem range_cut {k n : Nat} (h : k < n) : List.range n = List.range k ++ k :: (List.range (n - k - 1)).map (k + 1 + ·) := by
  have e : n = k + ((n - k - 1) + 1) := by omega
  rw [e, List.range_add, List.range_succ_eq_map, List.map_cons, List.map_map]
  have z : k + (n - k - 1 + 1) - k - 1 = n - k - 1 := by omega
  rw [z]
  congr 2
  apply List.map_congr_left
  intro a _
  show k + (a + 1) = k + 1 + a
  omega
def rGtL (K : PySem.W.Frag) : R2 := fun x y H Q => ∃ (a b : Addr) (ns ms : List Int) (k : Nat) (u v : Int), x = .ref a ∧ y = .ref b ∧ SqL K H a (ns.map V.int) ∧ SqL K H b (ms.map V.int) ∧
  (∀ j < k, ns[j]? = ms[j]?) ∧ ns[k]? = some u ∧ ms[k]? = some v ∧ v < u ∧ Q (.bl true) H
theorem op_gtL (hu : X.A.units < cLine) : OpR X (compareOp .Gt) (rGtL X.K) := by
  intro pins s σ H x y u v Q I rx ry h
  obtain ⟨a, b, ns, ms, k, p, q, rfl, rfl, ha, hb, eq, hp, hq, hlt, g⟩ := h
  cases rx
  cases ry
  obtain ⟨its, rv, la, _⟩ := I.list ha
  obtain ⟨jts, rw', lb, _⟩ := I.list hb
  have n1 : its.toArray.size = ns.length := by rw [List.size_toArray, ← rv.length, List.length_map]
  have n2 : jts.toArray.size = ms.length := by rw [List.size_toArray, ← rw'.length, List.length_map]
  have at1 : ∀ j (h1 : j < its.toArray.size), ∃ t, its.toArray[j] = .int (ns.getD j 0) t := fun j h1 => by
    have hj : j < ns.length := by omega
    obtain ⟨w, hw, r⟩ := rv.get (i := j) (x := .int ns[j]) (by rw [List.getElem?_map, List.getElem?_eq_getElem hj]; rfl)
    obtain ⟨t, rfl⟩ := r
    refine ⟨t, ?_⟩
    have z : its[j]? = some its.toArray[j] := by simp
    rw [hw] at z
    rw [← Option.some.inj z]
    simp [List.getD, List.getElem?_eq_getElem hj]
  have at2 : ∀ j (h1 : j < jts.toArray.size), ∃ t, jts.toArray[j] = .int (ms.getD j 0) t := fun j h1 => by
    have hj : j < ms.length := by omega
    obtain ⟨w, hw, r⟩ := rw'.get (i := j) (x := .int ms[j]) (by rw [List.getElem?_map, List.getElem?_eq_getElem hj]; rfl)
    obtain ⟨t, rfl⟩ := r
    refine ⟨t, ?_⟩
    have z : jts[j]? = some jts.toArray[j] := by simp
    rw [hw] at z
    rw [← Option.some.inj z]
    simp [List.getD, List.getElem?_eq_getElem hj]
  have k1 := (List.getElem?_eq_some_iff.mp hp).1
  have k2 := (List.getElem?_eq_some_iff.mp hq).1
  have R := SeqAt.RcOp.lists_gt (A := X.A) (s := s) (e := fun j => ns.getD j 0 == ms.getD j 0) (r := fun j => decide (ms.getD j 0 < ns.getD j 0)) la.isList lb.isList hu
    (fun j h1 h2 => by
      obtain ⟨t, e1⟩ := at1 j h1
      obtain ⟨t', e2⟩ := at2 j h2
      rw [e1, e2]
      exact SeqAt.EqAt.int_int _ _ _ _)
    (fun j h1 h2 _ => by
      obtain ⟨t, e1⟩ := at1 j h1
      obtain ⟨t', e2⟩ := at2 j h2
      rw [e1, e2]
      exact fun _ _ _ _ z => PyProof.Rows.gt_int z)
  refine R X.prog X.w _ _ ?_
  have val : SeqAt.firstLt (fun j => ns.getD j 0 == ms.getD j 0) (fun j => decide (ms.getD j 0 < ns.getD j 0)) (decide (its.toArray.size > jts.toArray.size)) (List.range (min its.toArray.size jts.toArray.size)) = true := by
    rw [range_cut (show k < min its.toArray.size jts.toArray.size by omega)]
    refine first_yes _ _ (fun j hj => ?_) ?_ ?_
    · have z := eq j (List.mem_range.mp hj)
      simp [List.getD, z]
    · simp [List.getD, hp, hq]
      omega
    · simp [List.getD, hp, hq]
      omega
  rw [val]
  exact ⟨.bl true, H, I, rfl, g⟩
end

/-! ### enumerate(t), t a tuple -/
theorem meets_enum_tup {v : Value} {o : Obj} {Hs : Heap → Prop} (B : Begins v o Hs) :
    Meets (Builtin.«enumerate.__new__» ⟨[.type "enumerate", v], []⟩) (fun _ R s => Hs s.heap ∧
      R (.ok (.ret (.ref (s.heap.push o).objs.size))) { s with heap := (s.heap.push o).push { cls := .type "enumerate", data := .fields #[.none, .bool false, .ref s.heap.objs.size, rawInt 0, .none, .none] } }) :=
  .of_wp fun prog w A R s h => by
    obtain ⟨hp, g, d, tk, os⟩ := s
    obtain ⟨h1, h⟩ := h
    have known := sub_enumerate
    have q1 : ∀ {A' : Around} {E : Value → Shared → Prop} {Q : Value → Shared → Prop}, Q (.ref hp.objs.size) ⟨hp.push o, g, d, tk, os⟩ → wpAny (model prog w) A' (pyIter v) Q E ⟨hp, g, d, tk, os⟩ := fun q => B.iter prog w _ _ ⟨hp, g, d, tk, os⟩ _ h1 q
    wp_walk using q1
    refine wpAny_stack_any fun st => wpAny_pure ?_
    split
    · rename_i c _ _ _ _ _
      cases (c == Value.type "enumerate") <;> (wp_walk using q1; exact ⟨_, rfl, h⟩)
    · (wp_walk using q1; exact ⟨_, rfl, h⟩)
theorem call_enum_tup {prog : Program} {w : World} {A : Around} {E : Value → Shared → Prop} {s : Shared} {v : Value} {o : Obj} {Hs : Heap → Prop} {Q : Value → Shared → Prop} (B : Begins v o Hs) (h1 : Hs s.heap)
    (h : ∀ h', IsEnum h' (s.heap.objs.size + 1) s.heap.objs.size 0 .none → h'.get? s.heap.objs.size = some o →
      (∀ b o, s.heap.get? b = some o → h'.get? b = some o) → Q (.ref (s.heap.objs.size + 1)) { s with heap := h' }) :
    wpAny (model prog w) A (call (.type "enumerate") [v]) Q E s := by
  refine callType_new F.called_enumerate (by decide) (F.typeCall_enumerate_1 _) (F.newCall_enumerate_1 _) (fun obj => F.args_object_init_2 obj _) F.entry_enumerate_new (meets_enum_tup B) ⟨h1, ?_⟩
  have hz : (s.heap.push o).objs.size = s.heap.objs.size + 1 := Heap.size_push ..
  show _ ∧ _
  rw [hz]
  have he : IsEnum ((s.heap.push o).push { cls := .type "enumerate", data := .fields #[.none, .bool false, .ref s.heap.objs.size, rawInt 0, .none, .none] }) (s.heap.objs.size + 1) s.heap.objs.size 0 .none := by
    have z := Heap.get?_push_size (s.heap.push o) (o := { cls := .type "enumerate", data := .fields #[.none, .bool false, .ref s.heap.objs.size, rawInt 0, .none, .none] }) rfl
    rw [hz] at z
    exact z
  exact ⟨⟨_, he, rfl⟩, h _ he (Heap.get?_push_of_some _ (Heap.get?_push_size _ B.free)) fun b o x => Heap.get?_push_of_some _ (Heap.get?_push_of_some _ x)⟩
def Itet (K : PySem.W.Frag) (a : Addr) : It :=
  ⟨fun i H => ∃ (xs : List V) (x : V), SqT K H a xs ∧ xs[i]? = some x, fun i H v H' => ∃ T x, v = .ref T ∧ H T = none ∧ H' = upd H T (.tup [.int (i : Nat), x]) ∧ ∀ xs, SqT K H a xs → xs[i]? = some x, fun i H => ∃ xs : List V, SqT K H a xs ∧ xs.length = i⟩
theorem turn_enumT {P : Program} {w : World} {K : PySem.W.Frag} {elts : List Expr} {kk : Nat} {tpos : Pos} (a e it : Addr) (hat : a ≠ it) (hea : e ≠ a) :
    Turn P w K (.Tuple elts kk tpos) (Itet K a) [e, it] e (fun i h => (∃ old, IsEnum h e it ((i : Nat) : Int) old) ∧ h.IsTupleIter it a i ∧ e ≠ it) where
  mem := List.mem_cons_self
  obj := fun i h st b hb => by
    obtain ⟨⟨old, he⟩, ⟨o, ho, hc, hd⟩, _⟩ := st
    simp only [List.mem_cons, List.not_mem_nil, or_false] at hb
    rcases hb with rfl | rfl
    · exact ⟨_, he, fun v q => nomatch q⟩
    · exact ⟨o, ho, fun v q => by rw [hd] at q; cases q⟩
  keep := fun i h h' st k => by
    obtain ⟨⟨old, he⟩, hi, hne⟩ := st
    exact ⟨⟨old, k e (by simp) _ he⟩, hi.at fun o q => k it (by simp) o q, hne⟩
  item := by
    intro X hP hw hK hc i pins s σ H E I hf st hg
    subst hP hw hK
    obtain ⟨⟨old, he⟩, hit, hne⟩ := st
    obtain ⟨xs, x, hq, hx⟩ := hg
    obtain ⟨its, rv, p, hz⟩ := I.tuple hq
    obtain ⟨u, hu, ru⟩ := rv.get hx
    have hi : i < its.toArray.size := by
      rw [List.size_toArray]
      exact (List.getElem?_eq_some_iff.mp hu).1
    have hel : e < s.heap.objs.size := Heap.lt_size he
    have hil : it < s.heap.objs.size := by
      obtain ⟨_, q, _⟩ := hit
      exact Heap.lt_size q
    have D := Draws.tuple (prog := X.prog) (w := X.w) (A := X.A.in1) (I.ok.hd hc) it a hat its.toArray
    refine wpAny_pyNext_enum_itemD D he ⟨hit, show s.heap.IsTuple a its.toArray from p⟩ hi hne (by simp [hne, hea]) fun v h' tk hv ho st' hT hsz hk => ?_
    have ev : v = u := by
      have z : its.toArray[i]? = some u := by simpa using hu
      exact Option.some.inj (hv.symm.trans z)
    subst ev
    refine ⟨_, rfl, wpAny_letOwnedTupleGo_enum (s := { s with heap := h', toks := tk + 1 }) ho fun h'' he' sb => ?_⟩
    have hT2 : h''.get? s.heap.objs.size = some { cls := .type "tuple", data := .seq #[.int i tk, v] } := (sb.2 _ (Nat.ne_of_gt hel)).trans hT
    have new : ObjOk X.prog X.w (upd H s.heap.objs.size (.tup [.int (i : Nat), x])) h'' s.heap.objs.size (.tup [.int (i : Nat), x]) :=
      ⟨by show 2 ≤ sizeLine; decide, [.int i tk, v], .cons ⟨_, rfl⟩ (.cons ru .nil), ⟨_, hT2, rfl, _, rfl⟩⟩
    have kept : ∀ b ob, b ∉ [e, it] → s.heap.get? b = some ob → h''.get? b = some ob := fun b ob hb q => by
      have b1 : b ≠ e := fun z => hb (by simp [z])
      have b2 : b ≠ it := fun z => hb (by simp [z])
      exact (sb.2 b b1).trans (hk b ob b1 b2 q)
    have I1 : Inv X pins σ (upd H s.heap.objs.size (.tup [.int (i : Nat), x])) { s with heap := h'', toks := tk + 1 } := I.turnedNew (ch := [e, it]) kept hf (Nat.le_refl _) new
    refine ⟨.ref s.heap.objs.size, _, I1, rfl, ⟨_, x, rfl, I.hok.fresh (Nat.le_refl _), rfl, fun ys hy => by rw [I.tuple_inj hy hq]; exact hx⟩, ⟨⟨v, ?_⟩, ?_, hne⟩, fun b hb => ?_⟩
    · rw [show ((i + 1 : Nat) : Int) = (i : Int) + 1 by omega]
      exact he'
    · exact st'.1.at fun o q => (sb.2 it (Ne.symm hne)).trans q
    · have hb' : b < s.heap.objs.size := by
        simp only [List.mem_cons, List.not_mem_nil, or_false] at hb
        rcases hb with rfl | rfl
        · exact hel
        · exact hil
      rw [upd_ne (Nat.ne_of_lt hb')]
      exact (hf b hb).1
  done := by
    intro X hP hw hK hc i pins s σ H E I hf st hg
    subst hP hw hK
    obtain ⟨⟨old, he⟩, hit, hne⟩ := st
    obtain ⟨xs, hq, hx⟩ := hg
    obtain ⟨its, rv, p, hz⟩ := I.tuple hq
    obtain ⟨f0, f1, f2, f3, f4, f5⟩ := hf it (by simp)
    have hl : i = its.toArray.size := by
      rw [List.size_toArray, ← rv.length]
      exact hx.symm
    have D := Draws.tuple (prog := X.prog) (w := X.w) (A := X.A.in1) (I.ok.hd hc) it a hat its.toArray
    exact wpAny_pyNext_enum_endD D he ⟨hl ▸ hit, show s.heap.IsTuple a its.toArray from p⟩ fun h' eb => ⟨rfl, I.turned (t' := s.toks) (fun b o hb q => eb b o hb q) f0 f1 f3 f4 f5⟩
  self := fun A i s Q E st h => by
    obtain ⟨⟨old, he⟩, _⟩ := st
    exact wpAny_pyIter_enum he h
def iEnumT (K : PySem.W.Frag) (ta : TA) : TI := fun σ H R => ta σ H fun vs H1 => ∃ a xs, vs = [.ref a] ∧ SqT K H1 a xs ∧ R (Itet K a) H1
theorem pi_enumT {X : Cx} {e : Expr} {ta : TA} {p pos tpos : Pos} {elts : List Expr} {kk : Nat} (hg : Gl X "enumerate") (hm : X.mg "enumerate" = none) (ha : PA X [e] ta) (hs : starEach [e] X.env = [(false, eval e X.env)] := by rfl) :
    PI X (.Tuple elts kk tpos) (.Call (.Name "enumerate" p) [e] [] pos) (iEnumT X.K ta) := by
  refine ⟨fun pins s σ H R I h => ?_⟩
  refine Call_ (ld_blt I hg hm boot_enumerate (PyProof.Rows.callWith_type1 (thn (ha.run pos pins s σ H _ I h) fun us s1 hv => ?_) hs rfl))
  obtain ⟨vs, H1, I1, r1, a, xs, ex, hq, q⟩ := hv
  subst ex
  cases r1 with
  | cons r rr =>
    cases rr
    cases r
    obtain ⟨its, rv, p', hz⟩ := I1.tuple hq
    have ht : s1.heap.IsTuple a its.toArray := p'
    obtain ⟨oa, hoa, _⟩ := id ht
    have la := Heap.lt_size hoa
    refine call_enum_tup (begins_tuple a its.toArray) ht fun h' he hit hk => wpAny_pyIter_enum he ?_
    have I2 : Inv X pins σ H1 { s1 with heap := h' } := I1.kept (t' := s1.toks) hk
    refine ⟨s1.heap.objs.size + 1, [s1.heap.objs.size + 1, s1.heap.objs.size], _, _, H1, rfl, I2, turn_enumT a (s1.heap.objs.size + 1) s1.heap.objs.size (Nat.ne_of_lt la) (Nat.ne_of_gt (Nat.lt_succ_of_lt la)), ⟨⟨.none, he⟩, ⟨_, hit, rfl, rfl⟩, Nat.succ_ne_self _⟩, fun b hb => ?_, q⟩
    simp only [List.mem_cons, List.not_mem_nil, or_false] at hb
    have hb' : s1.heap.objs.size ≤ b := by
      rcases hb with rfl | rfl
      · exact Nat.le_succ _
      · exact Nat.le_refl _
    exact I1.fpOk hb' (I1.hok.fresh hb')
theorem for_enumT {K : PySem.W.Frag} {a : Addr} {xs : List V} {g : TG} {tb : TS} {D : Ends} {σ : SL} {H : Hp} (Pv : Nat → SL → Hp → Prop) (h0 : Pv 0 σ H) (hl : ∀ i σ H, i ≤ xs.length → Pv i σ H → SqT K H a xs)
    (hs : ∀ i x T σ H, xs[i]? = some x → Pv i σ H → H T = none → g (.ref T) σ (upd H T (.tup [.int (i : Nat), x])) fun σ2 H2 => tb { D with nx := Pv (i + 1), ct := Pv (i + 1), bk := D.nx } σ2 H2)
    (hd : ∀ σ H, Pv xs.length σ H → D.nx σ H) :
    ∃ W : Nat → Nat → SL → Hp → Prop, (∃ m, W 0 m σ H) ∧ ∀ i m σ H, W i m σ H →
      ((Itet K a).stop i H ∧ D.nx σ H) ∨ ((Itet K a).go i H ∧ ∃ N : SL → Hp → Prop, (∀ σ' H', N σ' H' → ∃ m', m' < m ∧ W (i + 1) m' σ' H') ∧ ∀ x H', (Itet K a).yld i H x H' → g x σ H' fun σ2 H2 => tb { D with nx := N, ct := N, bk := D.nx } σ2 H2) := by
  refine ⟨fun i m σ H => m = xs.length - i ∧ i ≤ xs.length ∧ Pv i σ H, ⟨xs.length, by omega, Nat.zero_le _, h0⟩, ?_⟩
  rintro i m σ H ⟨rfl, hi, p⟩
  have q := hl i σ H hi p
  by_cases hlt : i < xs.length
  · have hx : xs[i]? = some xs[i] := List.getElem?_eq_getElem hlt
    refine .inr ⟨⟨xs, _, q, hx⟩, Pv (i + 1), fun σ' H' pn => ⟨xs.length - (i + 1), by omega, rfl, by omega, pn⟩, fun v H' y => ?_⟩
    obtain ⟨T, x, rfl, hT, rfl, f⟩ := y
    exact hs i x T σ H (f xs q) p hT
  · have e : i = xs.length := by omega
    subst e
    exact .inl ⟨⟨xs, q, rfl⟩, hd σ H p⟩
end UfM

/-! # The rules with the written part K told: also within a comprehension's block -/
namespace UfK
open PySem PySem.Spec PyProof.Rows L2
section
variable {X : Cx} {K : PySem.W.Frag}
theorem ix_listK (h : X.K = K := by rfl) : IxR X (rIxL K) := h ▸ ix_list
theorem ix_tupK (h : X.K = K := by rfl) : IxR X (rIxT K) := h ▸ ix_tup
theorem call_lenK (h : X.K = K := by rfl) : CallR X (.builtin "len") (Evl.rLenS K) := h ▸ call_len_seq
theorem cr_sumK (hc : X.calm = true) (h : X.K = K := by rfl) : CallR X (.builtin "sum") (rSum K) := h ▸ cr_sum hc
theorem cr_sumTK (hc : X.calm = true) (h : X.K = K := by rfl) : CallR X (.builtin "sum") (UfM.rSumT K) := h ▸ UfM.cr_sumT hc
theorem cr_allK (hc : X.calm = true) (h : X.K = K := by rfl) : CallR X (.builtin "all") (rAll K) := h ▸ cr_all hc
theorem cr_anyK (hc : X.calm = true) (h : X.K = K := by rfl) : CallR X (.builtin "any") (rAny K) := h ▸ cr_any hc
theorem call_list_ofK (h : X.K = K := by rfl) : CallR X (.type "list") (Evl.rListS K) := h ▸ call_list_of
def rTupS (K : PySem.W.Frag) : List V → Hp → VK → Prop := fun xs H Q => ∃ p ys, xs = [.ref p] ∧ ((SqL K H p ys ∧ ∀ l, H l = none → Q (.ref l) (upd H l (.tup ys))) ∨ (SqT K H p ys ∧ Q (.ref p) H))
theorem call_tuple_ofK (h : X.K = K := by rfl) : CallR X (.type "tuple") (rTupS K) := h ▸ call_tuple_of
theorem op_catAK (h : X.K = K := by rfl) : OpR X (binaryOp .Add) (rCatA K) := h ▸ op_catA
theorem op_eqDK (hu : X.A.units + 64 < cLine) (h : X.K = K := by rfl) : OpR X (compareOp .Eq) (rEqD K) := h ▸ op_eqD hu
theorem op_neDK (hu : X.A.units + 64 < cLine) (h : X.K = K := by rfl) : OpR X (compareOp .NotEq) (rNeD K) := h ▸ op_neD hu
theorem op_inK (h : X.K = K := by rfl) : OpR X (compareOp .In) (rIn K false) := h ▸ op_in_seq
theorem op_notInK (h : X.K = K := by rfl) : OpR X (compareOp .NotIn) (rIn K true) := h ▸ op_notIn_seq
theorem op_gtLK (hu : X.A.units < cLine) (h : X.K = K := by rfl) : OpR X (compareOp .Gt) (UfM.rGtL K) := h ▸ UfM.op_gtL hu
theorem sl_listK (h : X.K = K := by rfl) : SlR X (rSlL K) := h ▸ sl_list
theorem sl_tupK (h : X.K = K := by rfl) : SlR X (rSlA K) := h ▸ sl_tupA
theorem call_isiK' (h : X.K = K := by rfl) : CallR X (.builtin "isinstance") (rIsi K) := h ▸ call_isi
variable {tg l : Expr} {tl : TE}
theorem pi_listK (hl : PE X l tl) (h : X.K = K := by rfl) : PI X tg l (iList K tl) := h ▸ pi_list hl
theorem pi_tupK (hl : PE X l tl) (h : X.K = K := by rfl) : PI X tg l (iTup K tl) := h ▸ pi_tup hl
theorem pg_tupK {es : List Expr} {k : Nat} {t : TGs} {n : Nat} {pos : Pos} (hc : X.calm = true) (h : PGs X es t) (e : X.K = K := by rfl)
    (hn : (assignEach es X.env).length = n := by rfl) (hst : (assignEach es X.env).findIdx? (·.1) = none := by rfl) : PG X (.Tuple es k pos) (gTup K n t) := e ▸ pg_tup hc h hn hst
end
end UfK

/-! # Comprehensions' turns by a word over the turn's number; more readings over known data -/
namespace UfI
open PySem PySem.Spec PyProof.Rows L2 UfG
open Evl (Ex)
section
variable {K : PySem.W.Frag} {a : Addr} {xs : List V} {B : V → Hp → (Hp → Prop) → Prop} {Hs : Hp} {Qd : Hp → Prop} {lo c : Int} {n : Nat}
theorem it_list (Pv : Nat → Hp → Prop) (h0 : Pv 0 Hs) (hl : ∀ i H, i ≤ xs.length → Pv i H → SqL K H a xs) (hs : ∀ i x H, xs[i]? = some x → Pv i H → B x H (Pv (i + 1))) (hd : ∀ H, Pv xs.length H → Qd H) :
    ∃ W : Nat → Nat → Hp → Prop, (∃ m, W 0 m Hs) ∧ ∀ i m H, W i m H → ((Itl K a).stop i H ∧ Qd H) ∨ ((Itl K a).go i H ∧ ∃ Nx : Hp → Prop, (∀ H', Nx H' → ∃ m', m' < m ∧ W (i + 1) m' H') ∧ ∀ x H', (Itl K a).yld i H x H' → B x H' Nx) := by
  refine ⟨fun i m H => m = xs.length - i ∧ i ≤ xs.length ∧ Pv i H, ⟨xs.length, by omega, Nat.zero_le _, h0⟩, ?_⟩
  rintro i m H ⟨rfl, hi, p⟩
  have q := hl i H hi p
  by_cases hlt : i < xs.length
  · have hx : xs[i]? = some xs[i] := List.getElem?_eq_getElem hlt
    refine .inr ⟨⟨xs, _, q, hx⟩, Pv (i + 1), fun H' pn => ⟨xs.length - (i + 1), by omega, rfl, by omega, pn⟩, fun x H' y => ?_⟩
    obtain ⟨rfl, f⟩ := y
    exact hs i x H' (f xs q) p
  · have e : i = xs.length := by omega
    subst e
    exact .inl ⟨⟨xs, q, Nat.le_refl _⟩, hd H p⟩
theorem it_tup (Pv : Nat → Hp → Prop) (h0 : Pv 0 Hs) (hl : ∀ i H, i ≤ xs.length → Pv i H → SqT K H a xs) (hs : ∀ i x H, xs[i]? = some x → Pv i H → B x H (Pv (i + 1))) (hd : ∀ H, Pv xs.length H → Qd H) :
    ∃ W : Nat → Nat → Hp → Prop, (∃ m, W 0 m Hs) ∧ ∀ i m H, W i m H → ((Itt K a).stop i H ∧ Qd H) ∨ ((Itt K a).go i H ∧ ∃ Nx : Hp → Prop, (∀ H', Nx H' → ∃ m', m' < m ∧ W (i + 1) m' H') ∧ ∀ x H', (Itt K a).yld i H x H' → B x H' Nx) := by
  refine ⟨fun i m H => m = xs.length - i ∧ i ≤ xs.length ∧ Pv i H, ⟨xs.length, by omega, Nat.zero_le _, h0⟩, ?_⟩
  rintro i m H ⟨rfl, hi, p⟩
  have q := hl i H hi p
  by_cases hlt : i < xs.length
  · have hx : xs[i]? = some xs[i] := List.getElem?_eq_getElem hlt
    refine .inr ⟨⟨xs, _, q, hx⟩, Pv (i + 1), fun H' pn => ⟨xs.length - (i + 1), by omega, rfl, by omega, pn⟩, fun x H' y => ?_⟩
    obtain ⟨rfl, f⟩ := y
    exact hs i x H' (f xs q) p
  · have e : i = xs.length := by omega
    subst e
    exact .inl ⟨⟨xs, q, Nat.le_refl _⟩, hd H p⟩
theorem it_rng (Pv : Nat → Hp → Prop) (h0 : Pv 0 Hs) (hs : ∀ (i : Nat) H, i < n → Pv i H → B (.int (lo + (i : Nat))) H (Pv (i + 1))) (hd : ∀ H, Pv n H → Qd H) :
    ∃ W : Nat → Nat → Hp → Prop, (∃ m, W 0 m Hs) ∧ ∀ i m H, W i m H → ((Itr lo n).stop i H ∧ Qd H) ∨ ((Itr lo n).go i H ∧ ∃ Nx : Hp → Prop, (∀ H', Nx H' → ∃ m', m' < m ∧ W (i + 1) m' H') ∧ ∀ x H', (Itr lo n).yld i H x H' → B x H' Nx) := by
  refine ⟨fun i m H => m = n - i ∧ i ≤ n ∧ Pv i H, ⟨n, by omega, Nat.zero_le _, h0⟩, ?_⟩
  rintro i m H ⟨rfl, hi, p⟩
  by_cases hlt : i < n
  · refine .inr ⟨hlt, Pv (i + 1), fun H' pn => ⟨n - (i + 1), by omega, rfl, by omega, pn⟩, fun x H' y => ?_⟩
    obtain ⟨rfl, rfl⟩ := y
    exact hs i H' hlt p
  · have e : i = n := by omega
    subst e
    exact .inl ⟨Nat.le_refl _, hd H p⟩
theorem it_rngC (Pv : Nat → Hp → Prop) (h0 : Pv 0 Hs) (hs : ∀ (i : Nat) H, i < n → Pv i H → B (.int (lo + (i : Nat) * c)) H (Pv (i + 1))) (hd : ∀ H, Pv n H → Qd H) :
    ∃ W : Nat → Nat → Hp → Prop, (∃ m, W 0 m Hs) ∧ ∀ i m H, W i m H → ((Itc lo c n).stop i H ∧ Qd H) ∨ ((Itc lo c n).go i H ∧ ∃ Nx : Hp → Prop, (∀ H', Nx H' → ∃ m', m' < m ∧ W (i + 1) m' H') ∧ ∀ x H', (Itc lo c n).yld i H x H' → B x H' Nx) := by
  refine ⟨fun i m H => m = n - i ∧ i ≤ n ∧ Pv i H, ⟨n, by omega, Nat.zero_le _, h0⟩, ?_⟩
  rintro i m H ⟨rfl, hi, p⟩
  by_cases hlt : i < n
  · refine .inr ⟨hlt, Pv (i + 1), fun H' pn => ⟨n - (i + 1), by omega, rfl, by omega, pn⟩, fun x H' y => ?_⟩
    obtain ⟨rfl, rfl⟩ := y
    exact hs i H' hlt p
  · have e : i = n := by omega
    subst e
    exact .inl ⟨Nat.le_refl _, hd H p⟩
end
section
variable {K : PySem.W.Frag} {H0 G0 G H : Hp} {p : Option (Addr × Addr × Nat)} {ls : List (Addr × HO)} {Q : VK} {a b : Addr} {xs ys : List V}
theorem r_catT (lw : Lw H0 G0 p ls G H) (ha : G a = some (.tup xs)) (hb : G b = some (.tup ys)) (hz : xs.length + ys.length ≤ 100000)
    (k : ∀ t G' H', Ex G G' → Lw H0 G0 p ls G' H' → G' t = some (.tup (xs ++ ys)) → Q (.ref t) H') : rCatA K (.ref a) (.ref b) H Q := by
  refine ⟨a, b, xs, ys, rfl, rfl, SqT.g lw ha, SqT.g lw hb, Evl.sz_of hz, fun e => ?_, fun _ e => ?_, fun _ _ t ht => ?_⟩
  · refine k b G H (Evl.Ex.refl G) lw ?_
    rw [e, List.nil_append]
    exact hb
  · refine k a G H (Evl.Ex.refl G) lw ?_
    rw [e, List.append_nil]
    exact ha
  · exact k t _ _ (ex_new (lw.free ht)) (lw.alloc ht) upd_same
/-- one more item of a list that is being made -/
theorem lc_put {D : Addr} {acc : List V} {y : V} {P : Hp → Prop} (lw : Lw H0 G0 p ((D, .lst acc) :: ls) G H) (hz : acc.length < 100000) (k : ∀ H', Lw H0 G0 p ((D, .lst (acc ++ [y])) :: ls) G H' → P H') :
    ∃ acc', H D = some (.lst acc') ∧ acc'.length < sizeLine ∧ P (upd H D (.lst (acc' ++ [y]))) := ⟨acc, lw.at, Evl.sz_lt hz, k _ lw.put⟩
theorem cutV_take (xs : List V) (k : Nat) : cutV xs none (some (k : Int)) = xs.take k := by
  unfold cutV
  rw [HT.sIx_none, HT.sIx_nat, List.drop_zero, Nat.sub_zero]
  by_cases h : k ≤ xs.length
  · rw [Nat.min_eq_left h]
  · rw [Nat.min_eq_right (by omega), List.take_of_length_le (Nat.le_refl _), List.take_of_length_le (by omega)]
/-- a loop over a range that may break: Pb, what holds behind it -/
theorem for_rangeB {lo : Int} {n : Nat} {g : TG} {tb : TS} {D : Ends} {σ : L2.St} {H : Hp} (Pv : Nat → L2.St → Hp → Prop) (Pb : L2.St → Hp → Prop) (hk : ∀ σ H, Pb σ H → D.nx σ H) (h0 : Pv 0 σ H)
    (hs : (∀ σ H, Pb σ H → D.nx σ H) → ∀ i σ H, i < n → Pv i σ H → g (.int (lo + i)) σ H fun σ2 H2 => tb { D with nx := Pv (i + 1), ct := Pv (i + 1), bk := D.nx } σ2 H2) (hd : ∀ σ H, Pv n σ H → Pb σ H) :
    ∃ W : Nat → Nat → L2.St → Hp → Prop, (∃ m, W 0 m σ H) ∧ ∀ i m σ H, W i m σ H →
      ((Itr lo n).stop i H ∧ D.nx σ H) ∨ ((Itr lo n).go i H ∧ ∃ N : L2.St → Hp → Prop, (∀ σ' H', N σ' H' → ∃ m', m' < m ∧ W (i + 1) m' σ' H') ∧ ∀ x H', (Itr lo n).yld i H x H' → g x σ H' fun σ2 H2 => tb { D with nx := N, ct := N, bk := D.nx } σ2 H2) :=
  for_range Pv h0 (hs hk) fun σ H p => hk _ _ (hd _ _ p)
theorem and2 {b : Bool} {M B : Prop} (h1 : b = true → B → M) (h2 : B) : if b = true then M else B := by
  by_cases h : b = true
  · rw [if_pos h]
    exact h1 h h2
  · rw [if_neg h]
    exact h2
theorem or2 {b : Bool} {M B : Prop} (h1 : B) (h2 : ¬ b = true → B → M) : if b = true then B else M := by
  by_cases h : b = true
  · rw [if_pos h]
    exact h1
  · rw [if_neg h]
    exact h2 h h1
theorem relabel_free {env : Env} : ∀ {names : List (Str × NameKind)} {x : Str}, names.lookup x = some .cell ∨ names.lookup x = some .free →
    (names.map fun (n, k) => if (k == NameKind.free && env.scope.kind == .function && env.kindOf n == some .cell) then (n, NameKind.cell) else (n, k)).lookup x = some .cell ∨
    (names.map fun (n, k) => if (k == NameKind.free && env.scope.kind == .function && env.kindOf n == some .cell) then (n, NameKind.cell) else (n, k)).lookup x = some .free
  | [], _, h => by simp at h
  | (n, k) :: r, x, h => by
    have ih := @relabel_free env r x
    rw [List.map_cons]
    cases hx : x == n with
    | true =>
      have hk : k = .cell ∨ k = .free := by
        rw [List.lookup_cons, hx] at h
        rcases h with h | h
        · exact .inl (Option.some.inj h)
        · exact .inr (Option.some.inj h)
      by_cases hc : (k == NameKind.free && env.scope.kind == .function && env.kindOf n == some .cell) = true
      · left
        show List.lookup x ((if _ then (n, NameKind.cell) else (n, k)) :: _) = _
        rw [if_pos hc, List.lookup_cons, hx]
      · show List.lookup x ((if _ then (n, NameKind.cell) else (n, k)) :: _) = _ ∨ List.lookup x ((if _ then (n, NameKind.cell) else (n, k)) :: _) = _
        rw [if_neg hc, List.lookup_cons, hx]
        rcases hk with e | e
        · exact .inl (congrArg some e)
        · exact .inr (congrArg some e)
    | false =>
      have h' : r.lookup x = some .cell ∨ r.lookup x = some .free := by
        rw [List.lookup_cons, hx] at h
        exact h
      show List.lookup x ((if _ then (n, NameKind.cell) else (n, k)) :: _) = _ ∨ List.lookup x ((if _ then (n, NameKind.cell) else (n, k)) :: _) = _
      by_cases hc : (k == NameKind.free && env.scope.kind == .function && env.kindOf n == some .cell) = true
      · rw [if_pos hc, List.lookup_cons, hx]
        exact ih h'
      · rw [if_neg hc, List.lookup_cons, hx]
        exact ih h'
/-- a comprehension within a comprehension -/
theorem blkOk_in {N : List Str} {sc scope : Scope} {own : List (Str × Nat)} {cl : List (Str × Addr)} {C : Addr} {env : Env} (h : blkC N sc scope own = true) : BlkOk N (compEnvC sc cl C env).scope scope own := by
  obtain ⟨h1, h2, h3, h4, h5⟩ := blkOk_by h
  exact ⟨h1, h2, h3, fun y hy e => relabel_free (h4 y hy e), h5⟩
/-- what holds behind a statement, told once -/
theorem seq_rest {ta tb : TS} {D : Ends} {σ : L2.St} {H : Hp} (Pr : L2.St → Hp → Prop) (h : ∀ σ' H', Pr σ' H' → tb D σ' H') (k : (∀ σ' H', Pr σ' H' → tb D σ' H') → ta { D with nx := tb D } σ H) : tSeq ta tb D σ H := k h
theorem cps_rest {te : TE} {σ : L2.St} {H : Hp} {Q : VK} (Pr : V → Hp → Prop) (h : ∀ v H', Pr v H' → Q v H') (k : (∀ v H', Pr v H' → Q v H') → te σ H Q) : te σ H Q := k h
theorem gName_ap {i : Nat} {x : V} {σ : L2.St} {H : Hp} {Q : L2.St → Hp → Prop} (h : Q (σ.set i (some x)) H) : gName i x σ H Q := h
theorem ten60 : ((10 : Int) ^ (60 : Int).toNat) = 1000000000000000000000000000000000000000000000000000000000000 := by decide
theorem pow_small {i j : Int} (hj : 0 ≤ j ∧ j ≤ 1000000) (hi : 0 ≤ i ∧ i < 2 ^ 60) : CPow i j := ⟨hj.1, hj.2, by omega⟩
theorem mulW_of {i j : Int} (hi : 0 ≤ i ∧ i < 2 ^ 500) (hj : 0 ≤ j ∧ j < 2 ^ 500) : CMulW i j := wide_mul (a := 500) (b := 500) (by omega) (by omega) (by decide) (by decide) (by decide)
theorem divW_of {i j : Int} (hj : 0 < j ∧ j < 2 ^ 1000) : CDivW i j := wide_div (b := 1000) hj.1 (by omega) (by decide) (by decide)
theorem fmod_bd {i j : Int} (hj : 0 < j) : 0 ≤ i.fmod j ∧ i.fmod j < j := by
  rw [Int.fmod_eq_emod_of_nonneg _ (Int.le_of_lt hj)]
  exact ⟨Int.emod_nonneg _ (by omega), Int.emod_lt_of_pos _ hj⟩
theorem fmod60 (i : Int) : 0 ≤ i.fmod ((10 : Int) ^ (60 : Int).toNat + 7) ∧ i.fmod ((10 : Int) ^ (60 : Int).toNat + 7) + 1 < 2 ^ 200 := by
  have h := fmod_bd (i := i) (j := (10 : Int) ^ (60 : Int).toNat + 7) (by decide)
  have e : (10 : Int) ^ (60 : Int).toNat + 7 + 1 < 2 ^ 200 := by decide
  exact ⟨h.1, by omega⟩
end
end UfI

/-! # Data: shapes and equality of the small tuples that laws compare; all([..]) -/
namespace UfD
open PySem PySem.Spec PyProof.Rows L2 UfG UfI
open Evl (Ex)
/-- data of ints, bools, None, texts, of no more than 60 levels -/
theorem shaped_tup {ds : List PyData} (h : PyData.canLayAll0 ds = true) (k : PyData.depthAll ds ≤ 60) : SeqAt.shaped (.tuple ds) = true := by
  unfold SeqAt.shaped
  simp only [PyData.canLay0, PyData.depth, h, Bool.true_and]
  exact decide_eq_true (by omega)
theorem shaped_si (x : Str) (i : Int) (h : PyData.strOk x = true) : SeqAt.shaped (.tuple [.str x, .int i]) = true := by
  refine shaped_tup ?_ ?_
  · simp only [PyData.canLayAll0, PyData.canLay0, h, Bool.and_self]
  · simp only [PyData.depthAll, PyData.depth]
    decide
theorem eqv_si (x y : Str) (i j : Int) : PyData.eqv (.tuple [.str x, .int i]) (.tuple [.str y, .int j]) = (decide (x = y) && decide (i = j)) := by
  simp only [PyData.eqv, PyData.eqvAll, Bool.and_true]
  congr 1
theorem eqv_si_self (x : Str) (i : Int) : PyData.eqv (.tuple [.str x, .int i]) (.tuple [.str x, .int i]) = true := by
  rw [eqv_si]
  simp
theorem eqv_tupI (ns ms : List Int) : PyData.eqv (.tuple (ns.map PyData.int)) (.tuple (ms.map PyData.int)) = decide (ns = ms) := by
  simp only [PyData.eqv]
  exact eqv_ints ns ms
section
variable {K : PySem.W.Frag} {H0 G0 G H : Hp} {p : Option (Addr × Addr × Nat)} {ls : List (Addr × HO)} {Q : VK}
theorem all_true (n : Nat) : (List.replicate n true).all id = true := by
  rw [List.all_eq_true]
  intro b hb
  rw [(List.mem_replicate.mp hb).2]
  rfl
/-- [.. for x in xs], xs a known list, where each turn yields True -/
theorem lc_true {B : V → Hp → (Hp → Prop) → Prop} {Qd : Hp → Prop} {a D : Addr} {xs : List V} (lw : Lw H0 G0 p ls G H) (hD : H D = none) (ha : G a = some (.lst xs)) (hz : xs.length < 100000)
    (hs : ∀ (i : Nat) (x : V) (G' H' : Hp) (acc : List V), xs[i]? = some x → Ex G G' → Lw H0 G0 p ((D, .lst acc) :: ls) G' H' → acc.length = i → ∀ Nx : Hp → Prop, (∀ G2 H2, Ex G' G2 → Lw H0 G0 p ((D, .lst (acc ++ [.bl true])) :: ls) G2 H2 → Nx H2) → B x H' Nx)
    (hd : ∀ G' H', Ex G G' → Lw H0 G0 p ls G' H' → G' D = some (.lst ((List.replicate xs.length true).map V.bl)) → Qd H') :
    ∃ W : Nat → Nat → Hp → Prop, (∃ m, W 0 m (upd H D (.lst []))) ∧ ∀ i m H, W i m H → ((Itl K a).stop i H ∧ Qd H) ∨ ((Itl K a).go i H ∧ ∃ Nx : Hp → Prop, (∀ H', Nx H' → ∃ m', m' < m ∧ W (i + 1) m' H') ∧ ∀ x H', (Itl K a).yld i H x H' → B x H' Nx) := by
  refine it_list (K := K) (a := a) (xs := xs) (fun i H2 => ∃ G', Ex G G' ∧ Lw H0 G0 p ((D, .lst ((List.replicate i true).map V.bl)) :: ls) G' H2) ⟨G, Evl.Ex.refl G, lw.make hD⟩ (fun i H2 _ hp => ?_) (fun i x H2 hx hp => ?_) (fun H2 hp => ?_)
  · obtain ⟨G', e, lw⟩ := hp
    exact SqL.g lw (e _ _ ha)
  · obtain ⟨G', e, lw⟩ := hp
    refine hs i x G' H2 _ hx e lw (by rw [List.length_map, List.length_replicate]) _ fun G2 H3 e2 lw => ⟨G2, e.trans e2, ?_⟩
    rw [List.replicate_succ', List.map_append]
    exact lw
  · obtain ⟨G', e, lw⟩ := hp
    obtain ⟨lw, e2⟩ := lw.keep
    exact hd _ _ (e.trans e2) lw upd_same
/-- .., over a known tuple -/
theorem lc_trueT {B : V → Hp → (Hp → Prop) → Prop} {Qd : Hp → Prop} {a D : Addr} {xs : List V} (lw : Lw H0 G0 p ls G H) (hD : H D = none) (ha : G a = some (.tup xs)) (hz : xs.length < 100000)
    (hs : ∀ (i : Nat) (x : V) (G' H' : Hp) (acc : List V), xs[i]? = some x → Ex G G' → Lw H0 G0 p ((D, .lst acc) :: ls) G' H' → acc.length = i → ∀ Nx : Hp → Prop, (∀ G2 H2, Ex G' G2 → Lw H0 G0 p ((D, .lst (acc ++ [.bl true])) :: ls) G2 H2 → Nx H2) → B x H' Nx)
    (hd : ∀ G' H', Ex G G' → Lw H0 G0 p ls G' H' → G' D = some (.lst ((List.replicate xs.length true).map V.bl)) → Qd H') :
    ∃ W : Nat → Nat → Hp → Prop, (∃ m, W 0 m (upd H D (.lst []))) ∧ ∀ i m H, W i m H → ((Itt K a).stop i H ∧ Qd H) ∨ ((Itt K a).go i H ∧ ∃ Nx : Hp → Prop, (∀ H', Nx H' → ∃ m', m' < m ∧ W (i + 1) m' H') ∧ ∀ x H', (Itt K a).yld i H x H' → B x H' Nx) := by
  refine it_tup (K := K) (a := a) (xs := xs) (fun i H2 => ∃ G', Ex G G' ∧ Lw H0 G0 p ((D, .lst ((List.replicate i true).map V.bl)) :: ls) G' H2) ⟨G, Evl.Ex.refl G, lw.make hD⟩ (fun i H2 _ hp => ?_) (fun i x H2 hx hp => ?_) (fun H2 hp => ?_)
  · obtain ⟨G', e, lw⟩ := hp
    exact SqT.g lw (e _ _ ha)
  · obtain ⟨G', e, lw⟩ := hp
    refine hs i x G' H2 _ hx e lw (by rw [List.length_map, List.length_replicate]) _ fun G2 H3 e2 lw => ⟨G2, e.trans e2, ?_⟩
    rw [List.replicate_succ', List.map_append]
    exact lw
  · obtain ⟨G', e, lw⟩ := hp
    obtain ⟨lw, e2⟩ := lw.keep
    exact hd _ _ (e.trans e2) lw upd_same
/-- .., over a range -/
theorem lc_trueR {B : V → Hp → (Hp → Prop) → Prop} {Qd : Hp → Prop} {D : Addr} {lo : Int} {n : Nat} (lw : Lw H0 G0 p ls G H) (hD : H D = none) (hz : n < 100000)
    (hs : ∀ (i : Nat) (G' H' : Hp) (acc : List V), i < n → Ex G G' → Lw H0 G0 p ((D, .lst acc) :: ls) G' H' → acc.length = i → ∀ Nx : Hp → Prop, (∀ G2 H2, Ex G' G2 → Lw H0 G0 p ((D, .lst (acc ++ [.bl true])) :: ls) G2 H2 → Nx H2) → B (.int (lo + (i : Nat))) H' Nx)
    (hd : ∀ G' H', Ex G G' → Lw H0 G0 p ls G' H' → G' D = some (.lst ((List.replicate n true).map V.bl)) → Qd H') :
    ∃ W : Nat → Nat → Hp → Prop, (∃ m, W 0 m (upd H D (.lst []))) ∧ ∀ i m H, W i m H → ((Itr lo n).stop i H ∧ Qd H) ∨ ((Itr lo n).go i H ∧ ∃ Nx : Hp → Prop, (∀ H', Nx H' → ∃ m', m' < m ∧ W (i + 1) m' H') ∧ ∀ x H', (Itr lo n).yld i H x H' → B x H' Nx) := by
  refine it_rng (lo := lo) (n := n) (fun i H2 => ∃ G', Ex G G' ∧ Lw H0 G0 p ((D, .lst ((List.replicate i true).map V.bl)) :: ls) G' H2) ⟨G, Evl.Ex.refl G, lw.make hD⟩ (fun i H2 hi hp => ?_) (fun H2 hp => ?_)
  · obtain ⟨G', e, lw⟩ := hp
    refine hs i G' H2 _ hi e lw (by rw [List.length_map, List.length_replicate]) _ fun G2 H3 e2 lw => ⟨G2, e.trans e2, ?_⟩
    rw [List.replicate_succ', List.map_append]
    exact lw
  · obtain ⟨G', e, lw⟩ := hp
    obtain ⟨lw, e2⟩ := lw.keep
    exact hd _ _ (e.trans e2) lw upd_same
theorem r_eqs {x y : V} (hs : scal x y = true) (h : x = y) (k : Q (.bl true) H) : rEq x y H Q := ⟨hs, by rw [decide_eq_true h]; exact k⟩
theorem r_nes {x y : V} (hs : scal x y = true) (h : x = y) (k : Q (.bl false) H) : rNe x y H Q := ⟨hs, by rw [decide_eq_true h]; exact k⟩
theorem r_cmpT {P : Int → Int → Prop} [∀ i j, Decidable (P i j)] {i j : Int} (h : P i j) (k : Q (.bl true) H) : rI0 (fun i j => .bl (decide (P i j))) (.int i) (.int j) H Q := ⟨i, j, rfl, rfl, by
  show Q (.bl (decide (P i j))) H
  rw [decide_eq_true h]
  exact k⟩
theorem r_cmpF {P : Int → Int → Prop} [∀ i j, Decidable (P i j)] {i j : Int} (h : ¬ P i j) (k : Q (.bl false) H) : rI0 (fun i j => .bl (decide (P i j))) (.int i) (.int j) H Q := ⟨i, j, rfl, rfl, by
  show Q (.bl (decide (P i j))) H
  rw [decide_eq_false h]
  exact k⟩
/-- all(xs), all of them True -/
theorem r_all {D : Addr} {n : Nat} (lw : Lw H0 G0 p ls G H) (hD : G D = some (.lst ((List.replicate n true).map V.bl))) (k : Q (.bl true) H) : rAll K [.ref D] H Q :=
  ⟨D, _, rfl, SqL.g lw hD, by rw [all_true]; exact k⟩
end
end UfD

/-! # Operators that an own class defines -/
namespace UfO
open PySem PySem.Spec PyProof.Rows L2
open PySem.W (InstAt Frag)
open PySem.W (Looks)
theorem int_add_ref (a : Int) (t : Tok) (x C dx : Addr) : Meets (Builtin.«int.__add__» ⟨[.int a t, .ref x], []⟩) (fun _ R s => s.heap.get? x = some (PySem.W.instObj C dx) ∧ R (.ok (.ret Value.notImplemented)) s) :=
  .of_wp fun prog w A R s h => by obtain ⟨hp, g, d, tk, os⟩ := s; obtain ⟨hl, h⟩ := h; wp_walk; exact ⟨_, rfl, h⟩
theorem int_sub_ref (a : Int) (t : Tok) (x C dx : Addr) : Meets (Builtin.«int.__sub__» ⟨[.int a t, .ref x], []⟩) (fun _ R s => s.heap.get? x = some (PySem.W.instObj C dx) ∧ R (.ok (.ret Value.notImplemented)) s) :=
  .of_wp fun prog w A R s h => by obtain ⟨hp, g, d, tk, os⟩ := s; obtain ⟨hl, h⟩ := h; wp_walk; exact ⟨_, rfl, h⟩
theorem int_mul_ref (a : Int) (t : Tok) (x C dx : Addr) : Meets (Builtin.«int.__mul__» ⟨[.int a t, .ref x], []⟩) (fun _ R s => s.heap.get? x = some (PySem.W.instObj C dx) ∧ R (.ok (.ret Value.notImplemented)) s) :=
  .of_wp fun prog w A R s h => by obtain ⟨hp, g, d, tk, os⟩ := s; obtain ⟨hl, h⟩ := h; wp_walk; exact ⟨_, rfl, h⟩
theorem int_eq_ref (a : Int) (t : Tok) (x C dx : Addr) : Meets (Builtin.«int.__eq__» ⟨[.int a t, .ref x], []⟩) (fun _ R s => s.heap.get? x = some (PySem.W.instObj C dx) ∧ R (.ok (.ret Value.notImplemented)) s) :=
  .of_wp fun prog w A R s h => by obtain ⟨hp, g, d, tk, os⟩ := s; obtain ⟨hl, h⟩ := h; wp_walk; exact ⟨_, rfl, h⟩
theorem int_ne_ref (a : Int) (t : Tok) (x C dx : Addr) : Meets (Builtin.«int.__ne__» ⟨[.int a t, .ref x], []⟩) (fun _ R s => s.heap.get? x = some (PySem.W.instObj C dx) ∧ R (.ok (.ret Value.notImplemented)) s) :=
  .of_wp fun prog w A R s h => by obtain ⟨hp, g, d, tk, os⟩ := s; obtain ⟨hl, h⟩ := h; wp_walk; exact ⟨_, rfl, h⟩
section
variable {prog : Program} {w : World} {A : Around} {E : Value → Shared → Prop} {s : Shared} {K : Frag} {x C f g dx : Addr} {od : Option Obj}
/-- i op x, x of an own class with a reflected method -/
theorem rbin_K {op : Operator} {i : Int} {t : Tok} {id : String} {Q : Value → Shared → Prop} (X : K.In s.heap) (I : InstAt s.heap x (PySem.W.instObj C dx) C od) (hc : PySem.W.selfFirst K C = true)
    (hs : PySem.W.findIn K (.ref C) (PySem.dunder op.info.2) = some (some (.ref f))) (hr : PySem.W.findIn K (.ref C) (dunderR op.info.2) = some (some (.ref g))) (hg : PySem.W.isFn K (.ref g) = true)
    (hsub : PySem.W.subIn K (.ref C) (.type "int") = some false) (fl : fillsNumberSlot (.type "int") op.info.2 = pure true) (slot : Slot "int" (PySem.dunder op.info.2) id)
    (dec : ∀ Q' : Value → Shared → Prop, Q' .notImplemented s → wpAny (model prog w) A (call (.builtin id) [.int i t, .ref x]) Q' E s)
    (h : wpAny (model prog w) A (call (.ref g) [.ref x, .int i t]) (PySem.W.CmpBack Q) E s) : wpAny (model prog w) A (binaryOp op (.int i t) (.ref x)) Q E s := by
  obtain ⟨cd, rest, hcd, hm⟩ := PySem.W.ksp_first hc
  rcases hi : op.info with ⟨sym, nm'⟩
  rw [hi] at hs hr fl slot
  dsimp only at hs hr fl slot
  have one := PySem.W.ksp_try X I hr hg h
  have two : ∀ Q' : Option Value → Shared → Prop, Q' none s → wpAny (model prog w) A (tryMethod (.int i t) (PySem.dunder nm') (.ref x)) Q' E s := fun Q' q =>
    wpAny_tryMethod_declines (typeIs_int s i t) slot (dec _ ⟨rfl, q⟩)
  obtain ⟨hh, gg, d, tk, os⟩ := s
  have L1 : Looks (model prog w) hh (typeOf (.int i t)) (.type "int") := Looks.of_pure rfl
  have L2 : Looks (model prog w) hh (typeOf (.ref x)) (.ref C) := I.type
  have L3 : Looks (model prog w) hh (fillsNumberSlot (.type "int") nm') true := Looks.of_pure fl
  have L4 : Looks (model prog w) hh (fillsNumberSlot (.ref C) nm') true := PySem.W.fills_K X hcd hm hs
  have L5 : Looks (model prog w) hh (isSubtype (.ref C) (.type "int")) false := PySem.W.looks_subIn X hsub
  have L7 : Looks (model prog w) hh (numberSlotInPython (.type "int") nm') false := Looks.of_pure rfl
  have hne : (Value.type "int" == Value.ref C) = false := Bool.eq_false_iff.mpr fun q => by cases beq_iff_eq.mp q
  simp only [binaryOp, hi]
  refine wpAny_holding (wpAny_bind ?_)
  unfold binaryOp1
  refine wpAny_bind (L1.at (wpAny_bind (L2.at (wpAny_bind (L3.at ?_)))))
  simp only [hne, Bool.false_eq_true, if_false]
  ksp_lk
  refine two _ ?_
  ksp_lk
  refine wpAny_mono one (fun r s' hr' => ?_) fun _ _ e => e
  obtain ⟨v, rfl, hq⟩ := hr'
  ksp_lk
  exact hq
theorem ifBound_bi {M : Model} {name : Str} {id : String} {args : List Value} {ox : Obj} {Q : Option Value → Shared → Prop} (X : K.In s.heap) (I : InstAt s.heap x ox C od) (hs : PySem.W.findIn K (.ref C) name = some (some (.builtin id)))
    (bind : ∀ self, bindSpecial (.builtin id) self = pure (.builtin id, [self])) (h : wpAny M A (call (.builtin id) (.ref x :: args)) (fun v => Q (some v)) E s) : wpAny M A (callSpecialIfBound? (.ref x) name args) Q E s := by
  simp only [callSpecialIfBound?, bindSpecialIfBound?]
  refine wpAny_holding (wpAny_bind (wpAny_bind (wpAny_bind (I.type.here ((PySem.W.looks_findIn X hs).here ?_)))))
  simp only [bind]
  refine wpAny_bind (wpAny_askSetting (wpAny_ite ?_))
  have fin : wpAny M A (call (.builtin id) ([.ref x] ++ args) >>= fun v => pure (some v)) Q E s := wpAny_bind (wpAny_mono h (fun v s' h' => wpAny_pure h') fun _ _ h' => h')
  split
  · exact wpAny_pure (by exact fin)
  · exact wpAny_tryCatch (wpAny_pure (by exact fin))
theorem check_own {M : Model} {ox : Obj} {id owner n : String} {rest : List Value} {Q : Unit → Shared → Prop} (X : K.In s.heap) (I : InstAt s.heap x ox C od) (hk : builtinKind id = some .slot) (hs : splitId id = some (owner, n))
    (ha : argsOk id ⟨.ref x :: rest, []⟩) (hsub : PySem.W.subIn K (.ref C) (.type owner) = some true) (hq : Q () s) : wpAny M A (checkBuiltinCall id ⟨.ref x :: rest, []⟩) Q E s := by
  simp only [checkBuiltinCall, hk, hs]
  refine wpAny_bind ?_
  · unfold isInstance
    refine wpAny_bind (I.type.here ((PySem.W.looks_subIn X hsub).here ?_))
    cases hsig : Manifest.signature? id with
    | none => exact wpAny_pure hq
    | some sig =>
      simp only [argsOk, hsig] at ha
      have h2 : Bind.checkArgs id sig ⟨.ref x :: rest, []⟩ = pure () := ha
      show wpAny M A (Bind.checkArgs id sig ⟨.ref x :: rest, []⟩) Q E _
      rw [h2]
      exact wpAny_pure hq
/-- x != b by the own __eq__ -/
theorem tryNe_K {ox : Obj} {b : Value} {Q : Option Value → Shared → Prop} (hu : A.units + 1 < cLine) (X : K.In s.heap) (I : InstAt s.heap x ox C od) (hn : PySem.W.findIn K (.ref C) "__ne__" = some (some (.builtin "object.__ne__")))
    (he : PySem.W.findIn K (.ref C) "__eq__" = some (some (.ref f))) (hf : PySem.W.isFn K (.ref f) = true) (hsub : PySem.W.subIn K (.ref C) (.type "object") = some true)
    (h : wpAny (model prog w) A.in1 (call (.ref f) [.ref x, b]) (fun v s' => ∃ c, v = .bool c ∧ Q (some (.bool (!c))) s') E s) : wpAny (model prog w) A (tryCompare (.ref x) "__ne__" b) Q E s := by
  simp only [tryCompare]
  refine wpAny_bind (ifBound_bi X I hn F.cmp_object.ne.bind (wpAny_call (codeAny_call_builtin F.cmp_object.ne.plain F.cmpEntry_ne (check_own X I F.cmpKind_ne F.cmpSplit_ne (F.cmpArgs_ne _ _) hsub ?_))))
  have hcall : wpAny (model prog w) A.in1 (callSpecialIfBound? (.ref x) "__eq__" [b]) (fun r s' => ∃ c, r = some (.bool c) ∧ Q (some (.bool (!c))) s') E s :=
    PySem.W.ifBound_K X I he hf (wpAny_mono h (fun v s' ⟨c, e, q⟩ => ⟨c, by rw [e], q⟩) fun _ _ e => e)
  obtain ⟨hp, g0, d, t, os⟩ := s
  unfold Builtin.«object.__ne__»
  repeat (first
    | with_reducible refine wpAny_cRoomFor hu ?_
    | (refine wpAny_bind (m := callSpecialIfBound? (.ref x) (Str.ofString "__eq__") [b])
        (wpAny_mono hcall (fun r s' hr => by
          obtain ⟨c, rfl, hq⟩ := hr
          repeat (first | exact hq | exact wpAny_pure hq | exact wpAny_truthy_bool hq | (refine wpAny_bind (m := truthy (.bool _)) (wpAny_truthy_bool ?_)) | wp_step)) fun _ _ e => e))
    | wp_step)
theorem cmpNe_K {b tb : Value} {ox : Obj} {Q : Value → Shared → Prop} (hu : A.units + 1 < cLine) (X : K.In s.heap) (I : InstAt s.heap x ox C od) (hb : Looks (model prog w) s.heap (typeOf b) tb) (hn : PySem.W.notFirst K C tb = true)
    (hne : PySem.W.findIn K (.ref C) "__ne__" = some (some (.builtin "object.__ne__"))) (he : PySem.W.findIn K (.ref C) "__eq__" = some (some (.ref f))) (hf : PySem.W.isFn K (.ref f) = true) (hsub : PySem.W.subIn K (.ref C) (.type "object") = some true)
    (h : wpAny (model prog w) A.in1 (call (.ref f) [.ref x, b]) (fun v s' => ∃ c, v = .bool c ∧ Q (.bool (!c)) s') E s) : wpAny (model prog w) A (richCompare .NotEq (.ref x) b) Q E s := by
  have one : wpAny (model prog w) A (tryCompare (.ref x) (cmpInfo .NotEq).2.1 b) (fun r s' => ∃ v, r = some v ∧ Q v s') E s :=
    tryNe_K hu X I hne he hf hsub (wpAny_mono h (fun v s' ⟨c, e, q⟩ => ⟨c, e, _, rfl, q⟩) fun _ _ e => e)
  unfold richCompare
  simp only [oneThing_ref]
  refine wpAny_holding (wpAny_bind (wpAny_cRoomFor (Nat.lt_of_succ_lt hu) ?_))
  refine wpAny_bind (I.type.here (wpAny_bind (hb.here ?_)))
  split
  · rename_i q
    have e : PySem.W.subIn K tb (.ref C) = some false := by
      rcases Bool.or_eq_true_iff.mp hn with e | e
      · rw [beq_iff_eq.mp e] at q; simp at q
      · exact beq_iff_eq.mp e
    refine wpAny_bind ((PySem.W.looks_subIn X e).here ?_)
    simp only [Bool.false_eq_true, if_false]
    refine wpAny_bind (wpAny_mono one (fun r s' z => ?_) fun _ _ e => e)
    obtain ⟨v, rfl, hq⟩ := z
    exact wpAny_pure hq
  · refine wpAny_bind (wpAny_pure ?_)
    simp only [Bool.false_eq_true, if_false]
    refine wpAny_bind (wpAny_mono one (fun r s' z => ?_) fun _ _ e => e)
    obtain ⟨v, rfl, hq⟩ := z
    exact wpAny_pure hq
/-- i == x, i != x -/
theorem cmpR_K {op : CmpOp} {i : Int} {t : Tok} {id : String} {ox : Obj} {Q : Value → Shared → Prop} (hu : A.units < cLine) (X : K.In s.heap) (I : InstAt s.heap x ox C od) (hsub : PySem.W.subIn K (.ref C) (.type "int") = some false)
    (slot : Slot "int" (cmpInfo op).2.1 id) (dec : ∀ Q' : Value → Shared → Prop, Q' .notImplemented s → wpAny (model prog w) A (call (.builtin id) [.int i t, .ref x]) Q' E s) (one_ : oneThing? op (.int i t) (.ref x) = none)
    (h : wpAny (model prog w) A (tryCompare (.ref x) (cmpInfo op).2.2 (.int i t)) (fun r s' => ∃ v, r = some v ∧ Q v s') E s) : wpAny (model prog w) A (richCompare op (.int i t) (.ref x)) Q E s := by
  unfold richCompare
  simp only [one_]
  refine wpAny_holding (wpAny_bind (wpAny_cRoomFor hu ?_))
  have L1 : Looks (model prog w) s.heap (typeOf (.int i t)) (.type "int") := Looks.of_pure rfl
  refine wpAny_bind (L1.here (wpAny_bind (I.type.here ?_)))
  split
  · refine wpAny_bind ((PySem.W.looks_subIn X hsub).here ?_)
    simp only [Bool.false_eq_true, if_false]
    refine wpAny_bind (wpAny_tryCompare_declines (typeIs_int s i t) slot (dec _ ⟨rfl, ?_⟩))
    simp only [Bool.not_false, if_true]
    refine wpAny_bind (wpAny_mono h (fun r s' z => ?_) fun _ _ e => e)
    obtain ⟨v, rfl, hq⟩ := z
    exact wpAny_pure hq
  · rename_i q
    exact absurd (by simp : (Value.type "int" != Value.ref C) = true) q
theorem tryEq_K {ox : Obj} {b : Value} {Q : Option Value → Shared → Prop} (X : K.In s.heap) (I : InstAt s.heap x ox C od) (he : PySem.W.findIn K (.ref C) "__eq__" = some (some (.ref f))) (hf : PySem.W.isFn K (.ref f) = true)
    (h : wpAny (model prog w) A (call (.ref f) [.ref x, b]) (PySem.W.CmpBack fun v => Q (some v)) E s) : wpAny (model prog w) A (tryCompare (.ref x) "__eq__" b) Q E s := by
  simp only [tryCompare]
  refine wpAny_bind (PySem.W.ifBound_K X I he hf (wpAny_mono h (fun v s' hv => ?_) fun _ _ e => e))
  cases v <;> first | exact hv.elim | exact wpAny_pure hv
end
end UfO

/-! # .. as rules of the layer -/
namespace UfO
open PySem PySem.Spec PyProof.Rows L2
open PySem.W (InstAt Frag)
open PySem.W (Looks)
/-- a class whose objects stand beside ints and texts -/
structure OwnC (K : Frag) (C : Addr) : Prop where
  first : PySem.W.selfFirst K C = true
  int1 : PySem.W.subIn K (.type "int") (.ref C) = some false
  int2 : PySem.W.subIn K (.ref C) (.type "int") = some false
  str1 : PySem.W.subIn K (.type "str") (.ref C) = some false
  obj : PySem.W.subIn K (.ref C) (.type "object") = some true
structure OwnBin (K : Frag) (C : Addr) (nm : String) (f g : Addr) : Prop where
  at_ : PySem.W.findIn K (.ref C) (PySem.dunder nm) = some (some (.ref f))
  fn : PySem.W.isFn K (.ref f) = true
  rat : PySem.W.findIn K (.ref C) (dunderR nm) = some (some (.ref g))
  rfn : PySem.W.isFn K (.ref g) = true
  i1 : ∃ fo, PySem.W.findIn K (.type "int") (PySem.dunder nm) = some fo
  i2 : ∃ ro, PySem.W.findIn K (.type "int") (dunderR nm) = some ro
structure OwnEq (K : Frag) (C f : Addr) : Prop where
  eq : PySem.W.findIn K (.ref C) "__eq__" = some (some (.ref f))
  fn : PySem.W.isFn K (.ref f) = true
  ne : PySem.W.findIn K (.ref C) "__ne__" = some (some (.builtin "object.__ne__"))
section
variable {X : Cx} {CX : CXT} {k : Nat} {f g C : Addr} {fd gd : FuncData} {ps qs : List Str} {sp sq : Sp} {E : XK}
theorem relV_not {v : V} (h : RelV v .notImplemented) : False := by
  cases v <;> first | exact nomatch h | (obtain ⟨_, e⟩ := h; exact nomatch e) | cases h
theorem cb_of {pins : List (Addr × Obj)} {σ : L2.St} {Q : VK} {u : Value} {s' : Shared} (h : EP X pins σ Q u s') : PySem.W.CmpBack (EP X pins σ Q) u s' := by
  obtain ⟨v, H', I, r, q⟩ := h
  cases u with
  | notImplemented => exact (relV_not r).elim
  | _ => exact ⟨v, H', I, r, q⟩
theorem run_fnA {A : Around} {pins : List (Addr × Obj)} {σ : L2.St} {H : Hp} {s : Shared} {Q : VK} {us : List Value} {vs : List V} (sb : Sub X k A) (F : FnOk X.prog X.w X.K X.mg X.base CX k f fd ps sp) (hb : Binds X.K fd ps []) (hx : Passes CX X E)
    (I : Inv X pins σ H s) (r : Vals vs us) (h : sp vs H Q E) : wpAny (model X.prog X.w) A (call (.ref f) us) (EP X pins σ Q) X.xe s := by
  have e0 : Env0 X.prog X.w X.K X.mg X.base A X.stack s H := by
    have e := I.env0
    exact ⟨by rw [sb.fr]; exact e.frames, e.mod, e.bs, e.bsz, e.funs, e.frf, e.hok, e.bare⟩
  have hl : us.length = ps.length := by
    rw [← r.length]
    exact F.len _ _ _ _ h
  refine wpAny_call (codeAny_mono (F.run A X.stack s H ⟨us, []⟩ us vs Q E sb.room e0 (by
    have := hb s us I.kIn (by rw [List.append_nil]; exact hl)
    rw [List.append_nil] at this
    exact this) r h) fun r s' hq => ?_)
  cases r with
  | error e => exact hx pins σ H s e s' I hq
  | ok fl =>
    cases fl with
    | ret w => exact I.after hq
    | next => exact False.elim hq
    | brk => exact False.elim hq
    | cont => exact False.elim hq
/-- x op y: two ints, or one of them an object of the class at C -/
def rOwn2 (C : Addr) (sp sq : Sp) (E : XK) (r : R2) : R2 := fun x y H Q =>
  (∃ i j, x = .int i ∧ y = .int j ∧ r x y H Q) ∨
  (∃ a dx fs, x = .ref a ∧ H a = some (.ins C dx fs) ∧ ((∃ i, y = .int i) ∨ ∃ b dy gs, y = .ref b ∧ H b = some (.ins C dy gs)) ∧ sp [x, y] H Q E) ∨
  (∃ i b dy gs, x = .int i ∧ y = .ref b ∧ H b = some (.ins C dy gs) ∧ sq [y, x] H Q E)
theorem op_own2 {op : Operator} {id : String} {r : R2} (hr : Room k X.A) (c : OwnC X.K C) (O : OwnBin X.K C op.info.2 f g) (ho : OpR X (binaryOp op) r) (F : FnOk X.prog X.w X.K X.mg X.base CX k f fd ps sp) (hb : Binds X.K fd ps [])
    (G : FnOk X.prog X.w X.K X.mg X.base CX k g gd qs sq) (hg : Binds X.K gd qs []) (hx : Passes CX X E) (fl : fillsNumberSlot (.type "int") op.info.2 = pure true) (slot : Slot "int" (PySem.dunder op.info.2) id)
    (dec : ∀ (i : Int) (t : Tok) (x C dx : Addr) (A : Around) (E : Value → Shared → Prop) (s : Shared) (Q : Value → Shared → Prop), s.heap.get? x = some (PySem.W.instObj C dx) → Q .notImplemented s → wpAny (model X.prog X.w) A (call (.builtin id) [.int i t, .ref x]) Q E s) :
    OpR X (binaryOp op) (rOwn2 C sp sq E r) := by
  intro pins s σ H x y v u Q I rx ry h
  have sb : Sub X k X.A := ⟨hr, rfl⟩
  rcases h with ⟨i, j, rfl, rfl, h⟩ | ⟨a, dx, fs, rfl, ha, hy, h⟩ | ⟨i, b, dy, gs, rfl, rfl, hb', h⟩
  · exact ho pins s σ H _ _ v u Q I rx ry h
  · cases rx
    obtain ⟨mA, J, _⟩ := ins_get I.hok ha
    obtain ⟨od, J, _⟩ := J.look
    obtain ⟨m, hF⟩ := I.fr
    have run : ∀ u, RelV y u → wpAny (model X.prog X.w) X.A (call (.ref f) [.ref a, u]) (PySem.W.CmpBack (EP X pins σ Q)) X.xe s := fun u ry =>
      wpAny_mono (run_fnA (vs := [V.ref a, y]) sb F hb hx I (.cons rfl (.cons ry .nil)) h) (fun _ _ z => cb_of z) fun _ _ z => z
    rcases hy with ⟨i, rfl⟩ | ⟨b, dy, gs, rfl, hb'⟩
    · obtain ⟨t, rfl⟩ := ry
      obtain ⟨fo, h1⟩ := O.i1
      obtain ⟨ro, h2⟩ := O.i2
      exact PySem.W.ksp_binT (T := "int") hF I.ok.mod.kin J rfl c.first O.at_ O.fn O.rat (.inr ⟨_, rfl⟩) h1 h2 c.int1 (run _ ⟨t, rfl⟩)
    · cases ry
      obtain ⟨mB, J', _⟩ := ins_get I.hok hb'
      obtain ⟨od', J', _⟩ := J'.look
      exact PySem.W.binop_K hF I.ok.mod.kin J J'.type c.first O.at_ O.fn (run _ rfl)
  · obtain ⟨t, rfl⟩ := rx
    cases ry
    obtain ⟨mA, J, _⟩ := ins_get I.hok hb'
    obtain ⟨od, J, _⟩ := J.look
    exact rbin_K I.kIn J c.first O.at_ O.rat O.rfn c.int2 fl slot (fun Q' q => dec i t b C dy _ _ s Q' J.at_ q)
      (wpAny_mono (run_fnA (vs := [V.ref b, V.int i]) sb G hg hx I (.cons rfl (.cons ⟨t, rfl⟩ .nil)) h) (fun _ _ z => cb_of z) fun _ _ z => z)
theorem op_ownAdd (hr : Room k X.A) (c : OwnC X.K C) (O : OwnBin X.K C "add" f g) (F : FnOk X.prog X.w X.K X.mg X.base CX k f fd ps sp) (hb : Binds X.K fd ps [])
    (G : FnOk X.prog X.w X.K X.mg X.base CX k g gd qs sq) (hg : Binds X.K gd qs []) (hx : Passes CX X E) : OpR X (binaryOp .Add) (rOwn2 C sp sq E (rI0 fun i j => .int (i + j))) :=
  op_own2 hr c O op_add F hb G hg hx PySem.F.fills_int_add PySem.F.slot_int_add fun i t x C dx A E s Q e q => call_meets PySem.F.slot_int_add (typeIs_int s i t) PySem.F.entry_int_add (PySem.F.args_int_add_2 _ _) (int_add_ref i t x C dx) ⟨e, q⟩
theorem op_ownSub (hr : Room k X.A) (c : OwnC X.K C) (O : OwnBin X.K C "sub" f g) (F : FnOk X.prog X.w X.K X.mg X.base CX k f fd ps sp) (hb : Binds X.K fd ps [])
    (G : FnOk X.prog X.w X.K X.mg X.base CX k g gd qs sq) (hg : Binds X.K gd qs []) (hx : Passes CX X E) : OpR X (binaryOp .Sub) (rOwn2 C sp sq E (rI0 fun i j => .int (i - j))) :=
  op_own2 hr c O op_sub F hb G hg hx PySem.F.fills_int_sub PySem.F.slot_int_sub fun i t x C dx A E s Q e q => call_meets PySem.F.slot_int_sub (typeIs_int s i t) PySem.F.entry_int_sub (PySem.F.args_int_sub_2 _ _) (int_sub_ref i t x C dx) ⟨e, q⟩
theorem op_ownMul (hr : Room k X.A) (c : OwnC X.K C) (O : OwnBin X.K C "mul" f g) (F : FnOk X.prog X.w X.K X.mg X.base CX k f fd ps sp) (hb : Binds X.K fd ps [])
    (G : FnOk X.prog X.w X.K X.mg X.base CX k g gd qs sq) (hg : Binds X.K gd qs []) (hx : Passes CX X E) : OpR X (binaryOp .Mult) (rOwn2 C sp sq E (rI CMulW fun i j => .int (i * j))) :=
  op_own2 hr c O op_mulW F hb G hg hx PySem.F.fills_int_mul PySem.F.slot_int_mul fun i t x C dx A E s Q e q => call_meets PySem.F.slot_int_mul (typeIs_int s i t) PySem.F.entry_int_mul (PySem.F.args_int_mul_2 _ _) (int_mul_ref i t x C dx) ⟨e, q⟩
/-- -x -/
def rOwnNeg (C : Addr) (sp : Sp) (E : XK) : V → Hp → VK → Prop := fun x H Q => (∃ i, x = .int i ∧ Q (.int (-i)) H) ∨ ∃ a dx fs, x = .ref a ∧ H a = some (.ins C dx fs) ∧ sp [x] H Q E
theorem un_ownNeg (hr : Room k X.A) (hs : PySem.W.findIn X.K (.ref C) "__neg__" = some (some (.ref f))) (hf : PySem.W.isFn X.K (.ref f) = true) (F : FnOk X.prog X.w X.K X.mg X.base CX k f fd ps sp) (hb : Binds X.K fd ps []) (hx : Passes CX X E) :
    UnR X (unaryOp .USub) (rOwnNeg C sp E) := by
  intro pins s σ H x v Q I rx h
  rcases h with ⟨i, rfl, h⟩ | ⟨a, dx, fs, rfl, ha, h⟩
  · exact un_neg pins s σ H _ v Q I rx ⟨i, rfl, h⟩
  · cases rx
    obtain ⟨mA, J, _⟩ := ins_get I.hok ha
    obtain ⟨od, J, _⟩ := J.look
    obtain ⟨m, hF⟩ := I.fr
    exact PySem.W.ksp_neg hF I.ok.mod.kin J hs hf (run_fnA (vs := [V.ref a]) ⟨hr, rfl⟩ F hb hx I (.cons rfl .nil) h)
/-- x == y, one of them an object of the class at C: the own __eq__ says b -/
def rOwnEq (C : Addr) (sp : Sp) (E : XK) (neg : Bool) : R2 := fun x y H Q =>
  (∃ a dx fs, x = .ref a ∧ H a = some (.ins C dx fs) ∧ ((∃ i, y = .int i) ∨ (∃ z, y = .str z) ∨ ∃ b dy gs, y = .ref b ∧ H b = some (.ins C dy gs)) ∧ sp [x, y] H (fun v H' => ∃ c, v = .bl c ∧ Q (.bl (if neg then !c else c)) H') E) ∨
  (∃ i b dy gs, x = .int i ∧ y = .ref b ∧ H b = some (.ins C dy gs) ∧ sp [y, x] H (fun v H' => ∃ c, v = .bl c ∧ Q (.bl (if neg then !c else c)) H') E) ∨ (scal x y = true ∧ Q (.bl (if neg then !decide (x = y) else decide (x = y))) H)
theorem look_of {pins : List (Addr × Obj)} {σ : L2.St} {H : Hp} {s : Shared} {y : V} {u : Value} (I : Inv X pins σ H s) (c : OwnC X.K C) (ry : RelV y u) (hy : (∃ i, y = .int i) ∨ (∃ z, y = .str z) ∨ ∃ b dy gs, y = .ref b ∧ H b = some (.ins C dy gs)) :
    ∃ tb, Looks (model X.prog X.w) s.heap (typeOf u) tb ∧ PySem.W.notFirst X.K C tb = true := by
  rcases hy with ⟨i, rfl⟩ | ⟨z, rfl⟩ | ⟨b, dy, gs, rfl, hb⟩
  · obtain ⟨t, rfl⟩ := ry
    exact ⟨.type "int", Looks.of_pure rfl, by unfold PySem.W.notFirst; rw [c.int1]; simp⟩
  · obtain ⟨t, rfl⟩ := ry
    exact ⟨.type "str", Looks.of_pure rfl, by unfold PySem.W.notFirst; rw [c.str1]; simp⟩
  · cases ry
    obtain ⟨mB, J, _⟩ := ins_get I.hok hb
    obtain ⟨od, J, _⟩ := J.look
    exact ⟨.ref C, J.type, by unfold PySem.W.notFirst; simp⟩
theorem op_ownEq (hr : Room k X.A) (c : OwnC X.K C) (O : OwnEq X.K C f) (F : FnOk X.prog X.w X.K X.mg X.base CX k f fd ps sp) (hb : Binds X.K fd ps []) (hx : Passes CX X E) : OpR X (compareOp .Eq) (rOwnEq C sp E false) := by
  intro pins s σ H x y v u Q I rx ry h
  have back : ∀ (w : Value) (s' : Shared), EP X pins σ (fun v H' => ∃ c, v = .bl c ∧ Q (.bl (if false then !c else c)) H') w s' → EP X pins σ Q w s' := fun w s' ⟨z, H', I', r, c, e, q⟩ => by
    subst e
    exact ⟨_, H', I', r, q⟩
  rcases h with ⟨a, dx, fs, rfl, ha, hy, h⟩ | ⟨i, b, dy, gs, rfl, rfl, hb', h⟩ | ⟨hs, h⟩
  · cases rx
    obtain ⟨mA, J, _⟩ := ins_get I.hok ha
    obtain ⟨od, J, _⟩ := J.look
    obtain ⟨m, hF⟩ := I.fr
    obtain ⟨tb, L, n⟩ := look_of I c ry hy
    show wpAny (model X.prog X.w) X.A (richCompare .Eq (.ref a) u) (EP X pins σ Q) X.xe s
    exact PySem.W.cmp_K (op := .Eq) (tb := tb) hr.units0 hF I.ok.mod.kin J L n O.eq O.fn (wpAny_mono (run_fnA (vs := [V.ref a, y]) ⟨hr, rfl⟩ F hb hx I (.cons rfl (.cons ry .nil)) h) (fun w s' z => cb_of (back w s' z)) fun _ _ z => z)
  · obtain ⟨t, rfl⟩ := rx
    cases ry
    obtain ⟨mA, J, _⟩ := ins_get I.hok hb'
    obtain ⟨od, J, _⟩ := J.look
    show wpAny (model X.prog X.w) X.A (richCompare .Eq (.int i t) (.ref b)) (EP X pins σ Q) X.xe s
    refine cmpR_K hr.units0 I.kIn J c.int2 PySem.F.slot_int_eq (fun Q' q => call_meets PySem.F.slot_int_eq (typeIs_int s i t) PySem.F.entry_int_eq (PySem.F.args_int_eq_2 _ _) (int_eq_ref i t b C dy) ⟨J.at_, q⟩) rfl
      (tryEq_K I.kIn J O.eq O.fn (wpAny_mono (run_fnA (vs := [V.ref b, V.int i]) ⟨hr, rfl⟩ F hb hx I (.cons rfl (.cons ⟨t, rfl⟩ .nil)) h) (fun w s' z => ?_) fun _ _ z => z))
    have z' := cb_of (back w s' z)
    cases w <;> first | exact z'.elim | exact ⟨_, rfl, z'⟩
  · exact op_eq pins s σ H x y v u Q I rx ry ⟨hs, h⟩
theorem op_ownNe (hr : Room (k + 1) X.A) (c : OwnC X.K C) (O : OwnEq X.K C f) (F : FnOk X.prog X.w X.K X.mg X.base CX k f fd ps sp) (hb : Binds X.K fd ps []) (hx : Passes CX X E) : OpR X (compareOp .NotEq) (rOwnEq C sp E true) := by
  intro pins s σ H x y v u Q I rx ry h
  have sb : Sub X k X.A.in1 := ⟨hr.in1, rfl⟩
  have hu : X.A.units + 1 < cLine := hu_of hr
  have back : ∀ (w : Value) (s' : Shared), EP X pins σ (fun v H' => ∃ c, v = .bl c ∧ Q (.bl (if true then !c else c)) H') w s' → ∃ c, w = .bool c ∧ EP X pins σ Q (.bool (!c)) s' := fun w s' ⟨z, H', I', r, c, e, q⟩ => by
    subst e
    exact ⟨c, r, .bl (!c), H', I', rfl, q⟩
  rcases h with ⟨a, dx, fs, rfl, ha, hy, h⟩ | ⟨i, b, dy, gs, rfl, rfl, hb', h⟩ | ⟨hs, h⟩
  · cases rx
    obtain ⟨mA, J, _⟩ := ins_get I.hok ha
    obtain ⟨od, J, _⟩ := J.look
    obtain ⟨tb, L, n⟩ := look_of I c ry hy
    show wpAny (model X.prog X.w) X.A (richCompare .NotEq (.ref a) u) (EP X pins σ Q) X.xe s
    exact cmpNe_K hu I.kIn J L n O.ne O.eq O.fn c.obj (wpAny_mono (run_fnA (vs := [V.ref a, y]) sb F hb hx I (.cons rfl (.cons ry .nil)) h) (fun w s' z => back w s' z) fun _ _ z => z)
  · obtain ⟨t, rfl⟩ := rx
    cases ry
    obtain ⟨mA, J, _⟩ := ins_get I.hok hb'
    obtain ⟨od, J, _⟩ := J.look
    show wpAny (model X.prog X.w) X.A (richCompare .NotEq (.int i t) (.ref b)) (EP X pins σ Q) X.xe s
    refine cmpR_K hr.units0 I.kIn J c.int2 PySem.F.slot_int_ne (fun Q' q => call_meets PySem.F.slot_int_ne (typeIs_int s i t) PySem.F.entry_int_ne (PySem.F.args_int_ne_2 _ _) (int_ne_ref i t b C dy) ⟨J.at_, q⟩) rfl
      (tryNe_K hu I.kIn J O.ne O.eq O.fn c.obj (wpAny_mono (run_fnA (vs := [V.ref b, V.int i]) sb F hb hx I (.cons rfl (.cons ⟨t, rfl⟩ .nil)) h) (fun w s' z => ?_) fun _ _ z => z))
    obtain ⟨c, e, q⟩ := back w s' z
    exact ⟨c, e, _, rfl, q⟩
  · exact op_ne pins s σ H x y v u Q I rx ry ⟨hs, h⟩
end
end UfO

/-! # Errors without fields; own classes and methods that raise -/
namespace UfR
open PySem PySem.Spec PyProof.Rows L2
section
variable {X : Cx} {C : Addr} {bmB : List Value} {B newId initId : String}
/-- X() -/
theorem pmk_own0N {x : Str} {p pos : Pos} (F : ExcBaseFacts B newId initId bmB) (q : PySem.W.excIn X.K C bmB newId = true) (gC : X.mg x = some (.ref C)) (kC : PySem.W.keepIn X.K (.ref C) = true) (r : Raises X (.ref C)) (hg : Gl X x)
    (hdb : (x == ("__debug__" : Str)) = false := by decide) : L2N.PMk X (.Call (.Name x p) [] [] pos) (fun _ H Q => Q (.ref C) none H) := by
  intro pins s σ H Q I h
  refine wpAny_Call_Name_kw (ld_glob I hg gC ?_ hdb)
  refine PySem.W.callWith_K0 (first := []) I.kIn kC ?_
  show wpAny _ _ (call (.ref C) []) _ _ _
  obtain ⟨bm, N, nm, qn, bs, hdct, sn, sub, ab, col, dd, k0, k1, k2, k3, k5, mN, hC, hN, hni, T⟩ := exc_obj I.kIn q
  refine wpAny_call_exc_subT F T hC hN hni (fun h' e hm => ?_) (by show 0 ≤ sizeLine; rw [sizeLine_eq]; omega)
  exact L2N.mk_of I hm r h (I.hok.gone hm.new)
end

/-! ### what isinstance tells of the handled exception, with or without a dict of its own -/
def DictOk (H : Hp) : Option Addr → Prop
  | some d => ∃ fs, H d = some (.xd fs)
  | none => True
structure ExcN (p : Addr × Obj) (D : Addr) (d : Option Addr) : Prop where
  zc : Zc (.ref D) d p.2
  fl : ∃ vs, p.2.data = .fields vs
theorem ExcN.one {p : Addr × Obj} {D d : Addr} (h : ExcN p D (some d)) : UfH.Exc1 p D d := ⟨h.zc, h.fl⟩
section
variable {X : Cx} {p : Addr × Obj} {D : Addr} {d : Option Addr}
theorem ExcN.inst {pins : List (Addr × Obj)} {σ : L2.St} {H : Hp} {s : Shared} (Z : ExcN p D d) (I : Inv X pins σ H s) (hp : p ∈ X.pn) (hx : DictOk H d) : ∃ od : Option Obj, PySem.W.InstAt s.heap p.1 p.2 D od := by
  cases d with
  | some d =>
    obtain ⟨fs, hx⟩ := hx
    obtain ⟨_, od, J, _⟩ := Z.one.inst I hp hx
    exact ⟨some od, J⟩
  | none =>
    obtain ⟨hget, _⟩ := I.pin p (List.mem_append_left _ hp)
    obtain ⟨vs, hv⟩ := Z.fl
    exact ⟨none, hget, Z.zc.1, by unfold PySem.W.notCls; rw [hv] <;> rfl, by rw [Z.zc.2]; exact True.intro⟩
def rIsQ (K : PySem.W.Frag) (a D : Addr) (d : Option Addr) : List V → Hp → VK → Prop := fun xs H Q => ∃ (c : V) (cv : Value) (b : Bool), xs = [.ref a, c] ∧ (∀ u, RelV c u → u = cv) ∧ DictOk H d ∧ PySem.W.kitOne K (.ref D) cv = some b ∧ Q (.bl b) H
theorem call_isQ (T : UfH.ExKnow X.K D) (Z : ExcN p D d) (hp : p ∈ X.pn) : CallR X (.builtin "isinstance") (rIsQ X.K p.1 D d) := by
  intro pins s σ H xs us Q I r h
  obtain ⟨c, cv, b, rfl, hcv, hx, e, q⟩ := h
  cases r with
  | cons rx rr =>
    cases rr with
    | cons rt rr =>
      cases rr
      cases rx
      have ec := hcv _ rt
      subst ec
      obtain ⟨od, J⟩ := Z.inst I hp hx
      exact PySem.W.kia_one (PySem.W.kitx_exc T.cl T.ga T.gg T.ex T.cla T.sp T.tk T.mo) I.kIn J e (fun z => nomatch z) fun tk => ⟨.bl b, H, I.kept (t' := tk) fun _ _ z => z, rfl, q⟩
end

/-! ### an own class whose __init__ may raise, a method that may raise -/
section
variable {X : Cx} {CX : CXT} {k : Nat} {f C : Addr} {fd : FuncData} {ps : List Str} {sp : Sp} {E : L2.St → XK} {x m : Str} {p pos apos : Pos} {e o : Expr} {es : List Expr} {ta : TE} {t : TA}
theorem run_makeS {pins : List (Addr × Obj)} {σ : L2.St} {H : Hp} {s : Shared} {Q : VK} {us : List Value} {vs : List V} {E : XK} (M : Mk X.K C f) (F : FnOk X.prog X.w X.K X.mg X.base CX k f fd ps sp) (hr : Room (k + 1) X.A) (hb : Binds X.K fd ps [])
    (hx : PassesAt CX X σ E) (I : Inv X pins σ H s) (r : Vals vs us) (h : ∀ x dx, H x = none → H dx = none → dx ≠ x → sp (.ref x :: vs) (upd (upd H dx (.own x)) x (.ins C dx [])) (fun v H2 => v = .non ∧ Q (.ref x) H2) E) :
    wpAny (model X.prog X.w) X.A (call (.ref C) us) (EP X pins σ Q) X.xe s := by
  have hq := h (s.heap.objs.size + 1) s.heap.objs.size (I.hok.fresh (Nat.le_succ _)) (I.hok.fresh (Nat.le_refl _)) (Nat.ne_of_lt (Nat.lt_succ_self _))
  have I2 := Inv.made (C := C) I
  have r2 : Vals (V.ref (s.heap.objs.size + 1) :: vs) (Value.ref (s.heap.objs.size + 1) :: us) := .cons rfl r
  have hl : (Value.ref (s.heap.objs.size + 1) :: us).length = ps.length := by
    rw [← r2.length]
    exact F.len _ _ _ _ hq
  refine wpAny_call (make_map (f := f) I.kIn M.makes M.init (beq_iff_eq.mp M.fn) (codeAny_mono (F.run _ X.stack _ _ ⟨Value.ref (s.heap.objs.size + 1) :: us, []⟩ (Value.ref (s.heap.objs.size + 1) :: us) _ _ E (hr.make C us [])
    (I2.env0.make C us []) (by
      have := hb _ (Value.ref (s.heap.objs.size + 1) :: us) I2.kIn (by rw [List.append_nil]; exact hl)
      rw [List.append_nil] at this
      exact this) r2 hq) fun r s' hq' => ?_))
  cases r with
  | error e => exact hx pins _ _ e s' I2 hq'
  | ok fl =>
    cases fl with
    | ret u =>
      obtain ⟨v, H', I3, rv, ev, q3⟩ := I2.after hq'
      subst ev
      exact ⟨rv, ⟨V.ref (s.heap.objs.size + 1), H', I3, rfl, q3⟩⟩
    | next => exact False.elim hq'
    | brk => exact False.elim hq'
    | cont => exact False.elim hq'
def tMakeS (C : Addr) (sp : Sp) (E : L2.St → XK) (t : TA) : TE := fun σ H Q => t σ H fun vs H1 => ∀ x dx, H1 x = none → H1 dx = none → dx ≠ x → sp (.ref x :: vs) (upd (upd H1 dx (.own x)) x (.ins C dx [])) (fun v H2 => v = .non ∧ Q (.ref x) H2) (E σ)
theorem pe_makeS (M : Mk X.K C f) (F : FnOk X.prog X.w X.K X.mg X.base CX k f fd ps sp) (hr : Room (k + 1) X.A) (hg : Gl X x) (hm : X.mg x = some (.ref C)) (hb : Binds X.K fd ps []) (hx : ∀ σ, PassesAt CX X σ (E σ))
    (ha : PA X (e :: es) t) (hdb : (x == ("__debug__" : Str)) = false := by decide) (he : starEach (e :: es) X.env = (false, eval e X.env) :: starEach es X.env := by rfl) (hpl : (backTo pos (starEach es X.env)).any (·.1) = false := by rfl) :
    PE X (.Call (.Name x p) (e :: es) [] pos) (tMakeS C sp E t) := by
  refine ⟨fun pins s σ H Q I h => ?_⟩
  refine wpAny_Call_Name_kw (ld_glob I hg hm ?_ hdb)
  refine PySem.W.callWith_K (h₀ := X.base) I.ok.mod.kin M.kp (thn (ha.run pos pins s σ H _ I h) fun us s1 ⟨vs, H1, I1, r, q⟩ => ⟨I1.kIn, ?_⟩) he hpl
  exact run_makeS M F hr hb (hx σ) I1 r q
def tMethQ (C : Addr) (m : Str) (sp : Sp) (E : L2.St → XK) (ta : TE) (t : TA) : TE := fun σ H Q => ta σ H fun x H1 => ∃ a dx fs, x = .ref a ∧ H1 a = some (.ins C dx fs) ∧ fs.lookup m = none ∧ t σ H1 fun vs H2 => sp (x :: vs) H2 Q (E σ)
theorem pe_methQ {pl : Sem Bool} (he : PE X o ta) (c : Cls X.K C) (hm : Meth X.K C m f) (F : FnOk X.prog X.w X.K X.mg X.base CX k f fd ps sp) (hr : Room k X.A) (hb : Binds X.K fd ps []) (hx : ∀ σ, PassesAt CX X σ (E σ)) (ha : PA X (e :: es) t)
    (hst : starEach (e :: es) X.env = (false, eval e X.env) :: starEach es X.env := by rfl) (hpl : (backTo pos (starEach es X.env)).any (·.1) = false := by rfl)
    (ht : eval (.Call (.Attribute o m apos) (e :: es) [] pos) X.env = (do
      let ov ← eval o X.env
      standAt apos.atName
      let (f, first) ← holding [ov] (getMethod ov m pl)
      callWith pos f first (backTo pos (starEach (e :: es) X.env)) (backToKw pos (keywordEach [] X.env))) := by rfl) :
    PE X (.Call (.Attribute o m apos) (e :: es) [] pos) (tMethQ C m sp E ta t) := by
  refine ⟨fun pins s σ H Q I h => ?_⟩
  refine PySem.W.methodCall_KW (pl := pl) (thn (he.run pins s σ H _ I h) fun u s1 ⟨x, H1, I1, rx, a, dx, fs, ex, ea, l, q⟩ => ?_) ht
  subst ex
  obtain rfl : u = Value.ref a := rx
  refine getmeth_ok I1 ea c hm l ?_
  refine PySem.W.callWith_K (first := [.ref a]) (h₀ := X.base) I.ok.mod.kin hm.kp (thn (ha.run pos pins s1 σ H1 _ I1 q) fun us s2 ⟨vs, H2, I2, r, q2⟩ => ⟨I2.kIn, ?_⟩) hst hpl
  exact run_fnS (us := .ref a :: us) (vs := .ref a :: vs) F hr hb (hx σ) I2 (.cons rfl r) q2
/-- o.m() -/
theorem pe_methQ0 {pl : Sem Bool} (he : PE X o ta) (c : Cls X.K C) (hm : Meth X.K C m f) (F : FnOk X.prog X.w X.K X.mg X.base CX k f fd ps sp) (hr : Room k X.A) (hb : Binds X.K fd ps []) (hx : ∀ σ, PassesAt CX X σ (E σ))
    (ht : eval (.Call (.Attribute o m apos) [] [] pos) X.env = (do
      let ov ← eval o X.env
      standAt apos.atName
      let (f, first) ← holding [ov] (getMethod ov m pl)
      callWith pos f first (backTo pos (starEach [] X.env)) (backToKw pos (keywordEach [] X.env))) := by rfl) :
    PE X (.Call (.Attribute o m apos) [] [] pos) (tMethQ C m sp E ta tNil) := by
  refine ⟨fun pins s σ H Q I h => ?_⟩
  refine PySem.W.methodCall_KW (pl := pl) (thn (he.run pins s σ H _ I h) fun u s1 ⟨x, H1, I1, rx, a, dx, fs, ex, ea, l, q⟩ => ?_) ht
  subst ex
  obtain rfl : u = Value.ref a := rx
  refine getmeth_ok I1 ea c hm l ?_
  exact PySem.W.callWith_K0 (first := [.ref a]) I1.kIn hm.kp (run_fnS (us := [.ref a]) (vs := [.ref a]) F hr hb (hx σ) I1 (.cons rfl .nil) q)
end

/-! ### // by any int but 0; a statement that is never reached; classes of a text -/
def CDivZ (_ j : Int) : Prop := j ≠ 0 ∧ j.natAbs.log2 < 9000
theorem op_fdivZ {X : Cx} : OpR X (binaryOp .FloorDiv) (rI CDivZ fun i j => .int (i.fdiv j)) := opI fun i j _ _ _ _ _ hc q => floordiv_int hc.1 q (.inl (PyProof.noPylong_of_log2 hc.2))
theorem ps_never {X : Cx} {st : Stmt} : PS X st (fun _ _ _ => False) := ⟨fun _ _ _ _ _ _ h => h.elim⟩
/-- an error class without fields -/
structure ExAt0 (K : PySem.W.Frag) (mg : Str → Option Value) (x : Str) where
  C : Addr
  g : mg x = some (.ref C)
  q : PySem.W.excIn K C [.type "ValueError", .type "Exception", .type "BaseException", .type "object"] "ValueError.__new__" = true
  kC : PySem.W.keepIn K (.ref C) = true
  s : PySem.W.subIn K (.ref C) (.type "BaseException") = some true
  t : PySem.W.typeIn K (.ref C) = some (.type "type")
  kn : UfH.ExKnow K C
theorem ExAt0.r {K : PySem.W.Frag} {mg : Str → Option Value} {x : Str} (h : ExAt0 K mg x) {X : Cx} (e : X.K = K := by rfl) : Raises X (.ref h.C) := by
  subst e
  exact raises_own h.s h.t
/-- an own class -/
structure OwnAt (K : PySem.W.Frag) (mg : Str → Option Value) (x : Str) where
  C : Addr
  g : mg x = some (.ref C)
  c : Cls K C
  o : UfO.OwnC K C
  cla : PySem.W.findIn K (.ref C) "__class__" = some (some (.builtin "object.__class__"))
  sp : PySem.W.specialIn K (.builtin "object.__class__") "__get__" = some (some (.builtin "getset_descriptor.__get__"))
  tk : PySem.W.takesIn K (.builtin "object.__class__") = some true
  mo : PySem.W.mroIn K C (.type "object") = some true
theorem OwnAt.ty {K : PySem.W.Frag} {mg : Str → Option Value} {x : Str} (h : OwnAt K mg x) {H : Hp} {a dx : Addr} {fs : List (Str × V)} (e : H a = some (.ins h.C dx fs)) : TyX K H (.ref a) (.ref h.C) := .base (.ins e h.c h.cla h.sp h.tk h.mo)
/-- a method -/
structure MetAt (K : PySem.W.Frag) (C : Addr) (m qual : Str) (st : Stmt) (ps : List Str) where
  f : Addr
  fd : FuncData
  F : Fun K m qual st f fd
  m : Meth K C m f
  b : Binds K fd ps []
end UfR

/-! # A class made without values, its __init__ has defaults and may raise; tuples and texts at the top -/
namespace UfR
open PySem PySem.Spec PyProof.Rows L2
/-- a method with defaults -/
structure MetDAt (K : PySem.W.Frag) (C : Addr) (m qual : Str) (st : Stmt) (ps : List Str) (dvs : List V) where
  f : Addr
  fd : FuncData
  F : FunD K m qual (defArgs st) (defBody st) (defScope st) dvs [] f fd
  m : Meth K C m f
  b : Binds K fd ps []
  bd : ∃ ds, Vals dvs ds ∧ Binds K fd ps ds
/-- a tuple of ints at the top -/
structure TupAt (K : PySem.W.Frag) (mg : Str → Option Value) (x : Str) (ns : List Int) where
  t : Addr
  g : mg x = some (.ref t)
  s : ∀ H, SqT K H t (ns.map V.int)
section
variable {X : Cx} {CX : CXT} {k : Nat} {f C : Addr} {fd : FuncData} {ps : List Str} {sp : Sp} {E : L2.St → XK} {x m : Str} {p pos apos : Pos} {dvs : List V}
theorem run_makeD {pins : List (Addr × Obj)} {σ : L2.St} {H : Hp} {s : Shared} {Q : VK} {us ds : List Value} {vs : List V} {E : XK} (M : Mk X.K C f) (F : FnOk X.prog X.w X.K X.mg X.base CX k f fd ps sp) (hr : Room (k + 1) X.A) (hb : Binds X.K fd ps ds) (rd : Vals dvs ds)
    (hx : PassesAt CX X σ E) (I : Inv X pins σ H s) (r : Vals vs us) (h : ∀ x dx, H x = none → H dx = none → dx ≠ x → sp (.ref x :: (vs ++ dvs)) (upd (upd H dx (.own x)) x (.ins C dx [])) (fun v H2 => v = .non ∧ Q (.ref x) H2) E) :
    wpAny (model X.prog X.w) X.A (call (.ref C) us) (EP X pins σ Q) X.xe s := by
  have hq := h (s.heap.objs.size + 1) s.heap.objs.size (I.hok.fresh (Nat.le_succ _)) (I.hok.fresh (Nat.le_refl _)) (Nat.ne_of_lt (Nat.lt_succ_self _))
  have I2 := Inv.made (C := C) I
  have r2 : Vals (V.ref (s.heap.objs.size + 1) :: (vs ++ dvs)) (Value.ref (s.heap.objs.size + 1) :: (us ++ ds)) := .cons rfl (r.append rd)
  have hl : (Value.ref (s.heap.objs.size + 1) :: (us ++ ds)).length = ps.length := by
    rw [← r2.length]
    exact F.len _ _ _ _ hq
  refine wpAny_call (make_map (f := f) I.kIn M.makes M.init (beq_iff_eq.mp M.fn) (codeAny_mono (F.run _ X.stack _ _ ⟨Value.ref (s.heap.objs.size + 1) :: us, []⟩ (Value.ref (s.heap.objs.size + 1) :: (us ++ ds)) _ _ E (hr.make C us [])
    (I2.env0.make C us []) (by
      exact hb _ (Value.ref (s.heap.objs.size + 1) :: us) I2.kIn (by simpa using hl)) r2 hq) fun r s' hq' => ?_))
  cases r with
  | error e => exact hx pins _ _ e s' I2 hq'
  | ok fl =>
    cases fl with
    | ret u =>
      obtain ⟨v, H', I3, rv, ev, q3⟩ := I2.after hq'
      subst ev
      exact ⟨rv, ⟨V.ref (s.heap.objs.size + 1), H', I3, rfl, q3⟩⟩
    | next => exact False.elim hq'
    | brk => exact False.elim hq'
    | cont => exact False.elim hq'
def tMakeD0 (C : Addr) (sp : Sp) (dvs : List V) (E : L2.St → XK) : TE := fun σ H Q => ∀ x dx, H x = none → H dx = none → dx ≠ x → sp (.ref x :: dvs) (upd (upd H dx (.own x)) x (.ins C dx [])) (fun v H2 => v = .non ∧ Q (.ref x) H2) (E σ)
/-- C() -/
theorem pe_makeD0 (M : Mk X.K C f) (F : FnOk X.prog X.w X.K X.mg X.base CX k f fd ps sp) (hr : Room (k + 1) X.A) (hg : Gl X x) (hm : X.mg x = some (.ref C)) (hb : ∃ ds, Vals dvs ds ∧ Binds X.K fd ps ds) (hx : ∀ σ, PassesAt CX X σ (E σ))
    (hdb : (x == ("__debug__" : Str)) = false := by decide) : PE X (.Call (.Name x p) [] [] pos) (tMakeD0 C sp dvs E) := by
  obtain ⟨ds, rd, hb⟩ := hb
  refine ⟨fun pins s σ H Q I h => ?_⟩
  refine wpAny_Call_Name_kw (ld_glob I hg hm ?_ hdb)
  refine PySem.W.callWith_K0 (first := []) I.kIn M.kp ?_
  exact run_makeD (us := []) (vs := []) M F hr hb rd (hx σ) I .nil h
end
end UfR

/-! # Rules with K told, for fields -/
namespace UfK
open PySem PySem.Spec PyProof.Rows L2
variable {X : Cx} {K : PySem.W.Frag} {e : Expr} {ta : TE} {f : Str} {pos : Pos}
theorem pe_fldK (he : PE X e ta) (hb : attributeBase e f X.env (eval e X.env) = eval e X.env) (h : X.K = K := by rfl) : PE X (.Attribute e f pos) (tFld K ta f) := h ▸ pe_fld he hb
end UfK

/-! # The one form of a fraction -/
namespace UfQ
/-- n over d -/
abbrev fr (n d : Int) : Rat := Rat.divInt n d
theorem gcd_pos {n d : Int} (hd : d ≠ 0) : 0 < Nat.gcd n.natAbs d.natAbs := Nat.gcd_pos_of_pos_right _ (by omega)
theorem gcd_dvd_l (n d : Int) : ((Nat.gcd n.natAbs d.natAbs : Nat) : Int) ∣ n := Int.natAbs_dvd_natAbs.mp (by rw [Int.natAbs_natCast]; exact Nat.gcd_dvd_left _ _)
theorem gcd_dvd_r (n d : Int) : ((Nat.gcd n.natAbs d.natAbs : Nat) : Int) ∣ d := Int.natAbs_dvd_natAbs.mp (by rw [Int.natAbs_natCast]; exact Nat.gcd_dvd_right _ _)
theorem gcd_eq (n d : Int) : d.gcd n = Nat.gcd n.natAbs d.natAbs := Nat.gcd_comm _ _
theorem fr_num {n d : Int} (hd : d ≠ 0) : (fr n d).num = if d < 0 then n.fdiv (-((Nat.gcd n.natAbs d.natAbs : Nat) : Int)) else n.fdiv ((Nat.gcd n.natAbs d.natAbs : Nat) : Int) := by
  have dv := gcd_dvd_l n d
  rw [Rat.num_divInt, gcd_eq]
  by_cases h : d < 0
  · rw [if_pos h, Int.fdiv_eq_ediv_of_dvd (Int.neg_dvd.mpr dv), Int.ediv_neg, Int.sign_eq_neg_one_of_neg h, show (-1 : Int) * n = -n by omega, Int.neg_ediv_of_dvd dv]
  · rw [if_neg h, Int.fdiv_eq_ediv_of_dvd dv, Int.sign_eq_one_of_pos (by omega), Int.one_mul]
theorem fr_den {n d : Int} (hd : d ≠ 0) : ((fr n d).den : Int) = if d < 0 then d.fdiv (-((Nat.gcd n.natAbs d.natAbs : Nat) : Int)) else d.fdiv ((Nat.gcd n.natAbs d.natAbs : Nat) : Int) := by
  have dv := gcd_dvd_r n d
  rw [Rat.den_divInt, if_neg hd, gcd_eq]
  by_cases h : d < 0
  · rw [if_pos h, Int.fdiv_eq_ediv_of_dvd (Int.neg_dvd.mpr dv), Int.ediv_neg, ← Int.neg_ediv_of_dvd dv, show -d = (d.natAbs : Int) by omega, Int.natCast_ediv]
  · rw [if_neg h, Int.fdiv_eq_ediv_of_dvd dv, Int.natCast_ediv, show (d.natAbs : Int) = d by omega]
theorem fr_whole {n d : Int} (hd : d ≠ 0) : (fr n d).den = 1 ↔ n.fmod d = 0 := by
  rw [Rat.den_divInt, if_neg hd, gcd_eq]
  have gp := gcd_pos (n := n) hd
  constructor
  · intro h
    have e : d.natAbs = Nat.gcd n.natAbs d.natAbs := by
      have := Nat.div_mul_cancel (Nat.gcd_dvd_right n.natAbs d.natAbs)
      rw [h, Nat.one_mul] at this
      exact this.symm
    refine Int.fmod_eq_zero_of_dvd (Int.natAbs_dvd_natAbs.mp ?_)
    rw [e]
    exact Nat.gcd_dvd_left _ _
  · intro h
    have e : Nat.gcd n.natAbs d.natAbs = d.natAbs := Nat.gcd_eq_right (Int.natAbs_dvd_natAbs.mpr (Int.dvd_of_fmod_eq_zero h))
    rw [e]
    exact Nat.div_self (by omega)
theorem fr_int {n d : Int} (hd : d ≠ 0) (h : n.fmod d = 0) : (fr n d).num = n.fdiv d := by
  have e : Nat.gcd n.natAbs d.natAbs = d.natAbs := Nat.gcd_eq_right (Int.natAbs_dvd_natAbs.mpr (Int.dvd_of_fmod_eq_zero h))
  rw [fr_num hd, e]
  by_cases hn : d < 0
  · rw [if_pos hn, show -(d.natAbs : Int) = d by omega]
  · rw [if_neg hn, show (d.natAbs : Int) = d by omega]
theorem q_fr (q : Rat) : fr q.num q.den = q := Rat.num_divInt_den q
theorem den_ne (q : Rat) : (q.den : Int) ≠ 0 := by
  have := q.den_pos
  omega
theorem q_add (a b : Rat) : a + b = fr (a.num * b.den + b.num * a.den) (a.den * b.den) := by
  conv => lhs; rw [← q_fr a, ← q_fr b]
  exact Rat.divInt_add_divInt _ _ (den_ne a) (den_ne b)
theorem q_sub (a b : Rat) : a - b = fr (a.num * b.den - b.num * a.den) (a.den * b.den) := by
  conv => lhs; rw [← q_fr a, ← q_fr b]
  exact Rat.divInt_sub_divInt _ _ (den_ne a) (den_ne b)
theorem q_mul (a b : Rat) : a * b = fr (a.num * b.num) (a.den * b.den) := by
  conv => lhs; rw [← q_fr a, ← q_fr b]
  exact Rat.divInt_mul_divInt _ _
theorem q_int {q : Rat} (h : q.den = 1) : q = (q.num : Rat) := Rat.ext rfl h
theorem ofInt_num (i : Int) : (i : Rat).num = i := Rat.num_intCast i
theorem ofInt_den (i : Int) : (i : Rat).den = 1 := rfl
theorem fr_one (n : Int) : fr n 1 = (n : Rat) := by
  have h := q_fr (n : Rat)
  rw [ofInt_num, ofInt_den] at h
  exact h
/-- a sum of a fraction and an int is no int -/
theorem add_int_den (a : Rat) (i : Int) : (a + i).den = a.den := by
  have e : a + i = fr (a.num + i * a.den) a.den := by
    have z := q_add a i
    rw [ofInt_num, ofInt_den] at z
    rw [z]
    congr 1
    · rw [Int.natCast_one, Int.mul_one]
    · rw [Int.natCast_one, Int.mul_one]
  rw [e, Rat.den_divInt, if_neg (den_ne a)]
  have c : Nat.gcd a.den (a.num + i * a.den).natAbs = 1 := by
    have h0 := a.reduced
    have : Int.gcd (a.den : Int) (a.num + i * a.den) = Int.gcd (a.den : Int) a.num := by
      rw [Int.mul_comm]
      exact Int.gcd_add_mul_left_right ..
    unfold Int.gcd at this
    rw [Int.natAbs_natCast] at this
    rw [this, Nat.gcd_comm]
    exact h0
  show (a.den : Int).natAbs / Nat.gcd (a.den : Int).natAbs (a.num + i * a.den).natAbs = a.den
  rw [Int.natAbs_natCast, c, Nat.div_one]
end UfQ

/-! # Numbers of the ground 0 in the heap: ints and objects of the class Frac; promises with errors of both kinds -/
namespace UfN
open PySem PySem.Spec PyProof.Rows L2 UfG UfQ
open Evl (Ex)
/-- the object at a, of the class at F, is the fraction q -/
def FrAt (F : Addr) (G : Hp) (a : Addr) (q : Rat) : Prop := ∃ dx, G a = some (.ins F dx [("num", .int q.num), ("den", .int q.den)])
/-- v is the number q -/
def Nm (F : Addr) (G : Hp) (v : V) (q : Rat) : Prop := (q.den = 1 ∧ v = .int q.num) ∨ (q.den ≠ 1 ∧ ∃ a, v = .ref a ∧ FrAt F G a q)
section
variable {F : Addr} {G G' : Hp} {v : V} {q : Rat} {a : Addr}
theorem FrAt.ex (e : Ex G G') (h : FrAt F G a q) : FrAt F G' a q := by
  obtain ⟨dx, h⟩ := h
  exact ⟨dx, e _ _ h⟩
theorem Nm.ex (e : Ex G G') (h : Nm F G v q) : Nm F G' v q := by
  rcases h with h | ⟨h, a, e1, ha⟩
  · exact .inl h
  · exact .inr ⟨h, a, e1, ha.ex e⟩
theorem Nm.ofInt (i : Int) : Nm F G (.int i) (i : Rat) := .inl ⟨rfl, by rw [ofInt_num]⟩
theorem Nm.isInt {i : Int} (h : Nm F G (.int i) q) : q = (i : Rat) := by
  rcases h with ⟨h, e⟩ | ⟨_, a, e, _⟩
  · cases e
    exact q_int h
  · cases e
end
/-- the bits of a number -/
def Sm (b : Nat) (q : Rat) : Prop := q.num.natAbs < 2 ^ b ∧ q.den < 2 ^ b
theorem putF_den {x y : V} : putF "den" y [("num", x)] = [(("num" : Str), x), ("den", y)] := by
  show (if ("num" : Str) = "den" then _ else _) = _
  rw [if_neg (by decide +kernel)]
  rfl
/-- a value, or an error (its own dict, where it has one) -/
def RaiseN (pre : List V → Hp → Prop) (post : List V → Hp → Hp → V → Prop) (exc : List V → Hp → Addr → Option Addr → Prop) : Sp := fun vs H Q E => ∃ G, Lw H G none [] G H ∧ pre vs G ∧
  (∀ G' H' v, Lw H G none [] G' H' → post vs G G' v → Q v H') ∧ ∀ G' H' C d, Lw H G none [] G' H' → exc vs G' C d → E (.ref C) d H'
section
variable {H0 G0 G H : Hp} {p : Option (Addr × Addr × Nat)} {ls : List (Addr × HO)} {Q : VK} {E : XK}
theorem call_raiseN {pre : List V → Hp → Prop} {post : List V → Hp → Hp → V → Prop} {exc : List V → Hp → Addr → Option Addr → Prop} {vs : List V}
    (lw : Lw H0 G0 p ls G H) (hp : pre vs G) (k : ∀ G' H' v, Ex G G' → Lw H0 G0 p ls G' H' → post vs G G' v → Q v H') (kx : ∀ G' H' C d, Ex G G' → Lw H0 G0 p ls G' H' → exc vs G' C d → E (.ref C) d H') :
    RaiseN pre post exc vs H Q E := ⟨G, lw.enter, hp, fun G' H' v l hv => k G' H' v l.g0 (lw.after l) hv, fun G' H' C d l hv => kx G' H' C d l.g0 (lw.after l) hv⟩
/-- an object is made: its promise from the heap ahead of it -/
def InitSp (F : Addr) (pre : List V → Hp → Prop) (post : List V → Hp → Hp → Addr → Prop) (exc : List V → Hp → Addr → Option Addr → Prop) : Sp := fun vs H Q E => ∃ (H1 G : Hp) (x dx : Addr) (ws : List V), vs = .ref x :: ws ∧ Lw H1 G none [(x, .ins F dx [])] G H ∧ pre ws G ∧
  (∀ G' H', Lw H1 G none [] G' H' → post ws G G' x → Q .non H') ∧ ∀ G' H' C d, Lw H1 G none [] G' H' → exc ws G' C d → E (.ref C) d H'
theorem call_make {F : Addr} {pre : List V → Hp → Prop} {post : List V → Hp → Hp → Addr → Prop} {exc : List V → Hp → Addr → Option Addr → Prop} {ws : List V}
    (lw : Lw H0 G0 p ls G H) (hp : pre ws G) (k : ∀ G' H' x, Ex G G' → Lw H0 G0 p ls G' H' → post ws G G' x → Q (.ref x) H') (kx : ∀ G' H' C d, Ex G G' → Lw H0 G0 p ls G' H' → exc ws G' C d → E (.ref C) d H') :
    ∀ x dx, H x = none → H dx = none → dx ≠ x → InitSp F pre post exc (.ref x :: ws) (upd (upd H dx (.own x)) x (.ins F dx [])) (fun v H2 => v = .non ∧ Q (.ref x) H2) E := fun x dx hx hd ne => by
  have l0 : Lw H G none [] G H := lw.enter
  have l1 : Lw H G none [] G (upd H dx (.own x)) := l0.step (ex_new hd)
  have l2 : Lw H G none [(x, .ins F dx [])] G (upd (upd H dx (.own x)) x (.ins F dx [])) := l1.make (by rw [upd_ne (Ne.symm ne)]; exact hx)
  exact ⟨H, G, x, dx, ws, rfl, l2, hp, fun G' H' l hv => ⟨rfl, k G' H' x l.g0 (lw.after l) hv⟩, fun G' H' C d l hv => kx G' H' C d l.g0 (lw.after l) hv⟩
end
end UfN

/-! # Texts of numbers; a text times a number; turns over a text -/
namespace UfX
open PySem PySem.Spec PyProof.Rows L2 UfQ SX
open TL (numL)
/-! ### a text times a number -/
theorem fold_arr : ∀ (m : Nat) (a : Array Nat) (l : List Nat), ((List.replicate m l.toArray).foldl (· ++ ·) a).toList = a.toList ++ (List.replicate m l).flatten
  | 0, a, l => by simp
  | m + 1, a, l => by
    rw [List.replicate_succ, List.foldl_cons, fold_arr m, List.replicate_succ, List.flatten_cons]
    simp
/-- x * n -/
theorem op_rep_str {X : Cx} : OpR X (binaryOp .Mult) (fun x y H Q => ∃ (l : List Nat) (k : Nat), x = .str (S l) ∧ y = .int k ∧ 1 ≤ k ∧ k ≤ 100000 ∧ l ≠ [] ∧ l.length * k ≤ sizeLine ∧ Q (.str (S (List.replicate k l).flatten)) H) := by
  intro pins s σ H x y v u Q I rx ry h
  obtain ⟨l, k, rfl, rfl, h1, h2, hne, hz, q⟩ := h
  obtain ⟨t, rfl⟩ := rx
  obtain ⟨t', rfl⟩ := ry
  have hl : 0 < l.length := List.length_pos_iff.mpr hne
  have hlen : (S l).length = l.length := S_len l
  have hk : ¬ ((k : Int) < 1) := by omega
  have hsz : sizeLine = 16777216 := by decide
  have hll : l.length ≤ 16777216 := by
    have := Nat.le_mul_of_pos_right l.length (show 0 < k by omega)
    omega
  refine PySem.P.mul_str (by
      rw [decide_eq_false (show ¬ ((k : Int) < -(2 ^ 63 : Int)) by omega), decide_eq_false (show ¬ ((k : Int) ≥ 2 ^ 63) by omega)]; rfl) (fun _ _ => ?_) (fun _ _ => ?_) ?_
  · have e : ((2 ^ 63 - 1) / (k : Int)) ≥ ((2 ^ 63 - 1) / 100000 : Int) := by
      rw [ge_iff_le, Int.le_ediv_iff_mul_le (by omega)]
      have h3 : ((2 ^ 63 - 1) / 100000 : Int) = 92233720368547 := by decide
      rw [h3]
      have : (92233720368547 : Int) * k ≤ 92233720368547 * 100000 := Int.mul_le_mul_of_nonneg_left (by omega) (by decide)
      omega
    have h3 : ((2 ^ 63 - 1) / 100000 : Int) = 92233720368547 := by decide
    rw [hlen]
    omega
  · rw [hlen, Int.toNat_natCast]
    unfold PySem.Builtin.Str.tooLong
    simp
    omega
  · rw [if_neg hk]
    by_cases h3 : (((k : Int) == 1) || (S l).length == 0) = true
    · rw [if_pos h3]
      have k1 : k = 1 := by
        rw [Bool.or_eq_true, beq_iff_eq, beq_iff_eq, hlen] at h3
        omega
      subst k1
      have e : (List.replicate 1 l).flatten = l := by simp
      rw [e] at q
      exact ⟨.str (S l), H, I.tok _, ⟨_, rfl⟩, q⟩
    · rw [if_neg h3]
      have e : (⟨(List.replicate (k : Int).toNat (S l).cps).foldl (· ++ ·) #[]⟩ : Str) = S (List.replicate k l).flatten := by
        refine TL.ext_tl ?_
        show ((List.replicate (k : Int).toNat l.toArray).foldl (· ++ ·) #[]).toList = _
        rw [Int.toNat_natCast, fold_arr]
        rfl
      rw [e]
      refine ⟨?_, .str _, H, I.tok _, ⟨_, rfl⟩, q⟩
      rw [S_len, List.length_flatten, List.map_replicate, List.sum_replicate_nat, Nat.mul_comm]
      exact hz
/-- turns over a text -/
theorem it_str {l : List Nat} {Hs : Hp} {B : V → Hp → (Hp → Prop) → Prop} {Qd : Hp → Prop} (Pv : Nat → Hp → Prop) (h0 : Pv 0 Hs) (hs : ∀ (i : Nat) H c, l[i]? = some c → Pv i H → B (.str (S [c])) H (Pv (i + 1))) (hd : ∀ H, Pv l.length H → Qd H) :
    ∃ W : Nat → Nat → Hp → Prop, (∃ m, W 0 m Hs) ∧ ∀ i m H, W i m H → ((Its (S l)).stop i H ∧ Qd H) ∨ ((Its (S l)).go i H ∧ ∃ Nx : Hp → Prop, (∀ H', Nx H' → ∃ m', m' < m ∧ W (i + 1) m' H') ∧ ∀ x H', (Its (S l)).yld i H x H' → B x H' Nx) := by
  refine ⟨fun i m H => m = l.length - i ∧ i ≤ l.length ∧ Pv i H, ⟨l.length, by omega, Nat.zero_le _, h0⟩, ?_⟩
  rintro i m H ⟨rfl, hi, p⟩
  by_cases hlt : i < l.length
  · refine .inr ⟨hlt, Pv (i + 1), fun H' pn => ⟨l.length - (i + 1), by omega, rfl, by omega, pn⟩, fun x H' y => ?_⟩
    obtain ⟨rfl, c, hc, rfl⟩ := y
    have hc : l[i]? = some c := by
      have : l.toArray[i]? = some c := hc
      simpa using this
    exact hs i H' c hc p
  · have e : i = l.length := by omega
    subst e
    exact .inl ⟨Nat.le_refl _, hd H p⟩

theorem startswith_S (t : List Nat) (c : Nat) : Txt.startswith (S t) (S [c]) = decide (t.head? = some c) := by
  unfold Txt.startswith
  rw [PySem.StrLaws.subAt_eq, S_len, S_len]
  cases t with
  | nil => rfl
  | cons a b =>
    show (decide (0 + 1 ≤ (a :: b).length) && ([a] == [c])) = decide (some a = some c)
    rw [decide_eq_true (show 0 + 1 ≤ (a :: b).length by rw [List.length_cons]; omega), Bool.true_and]
    by_cases h : a = c
    · rw [h, decide_eq_true rfl]
      exact beq_self_eq_true _
    · rw [decide_eq_false (fun z => h (Option.some.inj z))]
      exact beq_eq_false_iff_ne.mpr fun z => h (by injection z)
theorem S_eq {a b : List Nat} : (V.str (S a) = V.str (S b)) ↔ a = b := ⟨fun h => S_inj (by injection h), fun h => by rw [h]⟩
/-! ### the text of a number -/
/-- the signs of an int -/
def intL (i : Int) : List Nat := (if i < 0 then [45] else []) ++ numL i.natAbs
theorem txt_int (i : Int) : Str.ofString (toString i) = S (intL i) := by
  refine TL.ext_tl ?_
  cases i with
  | ofNat n =>
    have e := TL.tl_num n
    have e2 : intL (Int.ofNat n) = numL n := by
      unfold intL
      rw [if_neg (show ¬ (Int.ofNat n < 0) from Int.not_lt.mpr (Int.natCast_nonneg n))]
      rfl
    show _ = intL (Int.ofNat n)
    rw [e2]
    exact e
  | negSucc n =>
    have e2 : intL (Int.negSucc n) = 45 :: numL (n + 1) := by
      unfold intL
      rw [if_pos (by omega)]
      rfl
    show _ = intL (Int.negSucc n)
    rw [e2, TL.tl_ofString]
    show (("-" : String) ++ Nat.repr (n + 1)).toList.map Char.toNat = _
    rw [String.toList_append, List.map_append]
    have := TL.tl_num (n + 1)
    rw [TL.tl_ofString] at this
    show [45] ++ _ = _
    rw [← this]
    rfl
/-- the signs of a number -/
def numT (q : Rat) : List Nat := intL q.num ++ (if q.den = 1 then [] else 47 :: numL q.den)
theorem intL_ne (i : Int) : intL i ≠ [] := fun h => by
  unfold intL at h
  exact TL.numL_ne _ (List.append_eq_nil_iff.mp h).2
theorem numT_int {q : Rat} (h : q.den = 1) : numT q = intL q.num := by
  unfold numT
  rw [if_pos h, List.append_nil]
theorem numT_frac {q : Rat} (h : q.den ≠ 1) : numT q = intL q.num ++ (47 :: numL q.den) := by
  unfold numT
  rw [if_neg h]
/-- digits only -/
def digs (l : List Nat) : Bool := l.all fun c => decide (48 ≤ c) && decide (c ≤ 57)
theorem digs_iff {l : List Nat} : digs l = true ↔ NumText.AllDigits l := by
  unfold digs NumText.AllDigits
  rw [List.all_eq_true]
  constructor
  · intro h c hc
    have := h c hc
    simpa using this
  · intro h c hc
    have := h c hc
    simpa using this
theorem digs_num (n : Nat) : digs (numL n) = true := digs_iff.mpr (TL.numL_digits n)
theorem num_no45 (n : Nat) : 45 ∉ numL n := TL.numL_free (by decide)
theorem num_no47 (n : Nat) : 47 ∉ numL n := TL.numL_free (by decide)
theorem num_head (n : Nat) : (numL n).head? ≠ some 45 := fun h => num_no45 n (List.mem_of_mem_head? (by rw [h]; rfl))
theorem num_head0 (n : Nat) : n ≠ 0 → (numL n).head? ≠ some 48 := by
  induction n using Nat.strongRecOn with
  | _ n ih =>
    intro h0
    by_cases h : n < 10
    · rw [TL.numL_lt h]
      simp
      omega
    · rw [TL.numL_step (by omega)]
      have z := ih (n / 10) (by omega) (by omega)
      have ne := TL.numL_ne (n / 10)
      cases e : numL (n / 10) with
      | nil => exact absurd e ne
      | cons a b =>
        rw [e] at z
        exact z
/-- digits without a 0 at the head are those of a number -/
theorem num_of {l : List Nat} (h : digs l = true) (ne : l ≠ []) (h0 : l.head? ≠ some 48 ∨ l.length = 1) : numL (NumText.digitsVal l) = l := by
  have hd := digs_iff.mp h
  have hl : 0 < l.length := List.length_pos_iff.mpr ne
  unfold numL
  rw [NumText.toDigits_digitsVal (l.length - 1) l (by omega) hd ?_]
  · rw [List.map_map]
    have : ∀ c ∈ l, (Char.toNat ∘ Char.ofNat) c = c := fun c hc => by
      have := hd c hc
      have b : c < 58 := by omega
      revert b
      clear this hc
      revert c
      decide
    rw [List.map_congr_left this, List.map_id']
  · rcases h0 with h0 | h0
    · right
      cases l with
      | nil => exact absurd rfl ne
      | cons c r =>
        refine ⟨c, r, rfl, ?_⟩
        have := hd.head
        have : c ≠ 48 := fun e => h0 (by rw [e]; rfl)
        omega
    · left
      omega
/-- the number's parts have at most 30 digits -/
def sml (q : Rat) : Prop := (numL q.num.natAbs).length ≤ 30 ∧ (numL q.den).length ≤ 30
/-- the bare text: without the sign -/
def bareL (t : List Nat) : List Nat := if t.head? = some 45 then t.drop 1 else t
theorem numT_head (q : Rat) : ((numT q).head? = some 45) ↔ q.num < 0 := by
  unfold numT intL
  by_cases h : q.num < 0
  · rw [if_pos h]
    exact ⟨fun _ => h, fun _ => rfl⟩
  · rw [if_neg h, List.nil_append]
    constructor
    · intro z
      have ne := TL.numL_ne q.num.natAbs
      have nh := num_head q.num.natAbs
      cases e : numL q.num.natAbs with
      | nil => exact absurd e ne
      | cons a b =>
        rw [e] at z nh
        exact absurd z nh
    · intro z
      exact absurd z h
theorem numT_bare (q : Rat) : bareL (numT q) = numL q.num.natAbs ++ (if q.den = 1 then [] else 47 :: numL q.den) := by
  unfold bareL
  by_cases h : q.num < 0
  · rw [if_pos ((numT_head q).mpr h)]
    unfold numT intL
    rw [if_pos h]
    rfl
  · rw [if_neg (fun z => h ((numT_head q).mp z))]
    unfold numT intL
    rw [if_neg h]
    rfl
theorem numT_of_bare {t : List Nat} {i : Int} {r : List Nat} (h : (t.head? = some 45) ↔ i < 0) (e : bareL t = numL i.natAbs ++ r) : t = intL i ++ r := by
  unfold bareL at e
  unfold intL
  by_cases z : i < 0
  · have hz := h.mpr z
    rw [if_pos hz] at e
    rw [if_pos z]
    cases t with
    | nil => cases hz
    | cons a b =>
      have : a = 45 := Option.some.inj hz
      rw [this]
      show 45 :: b = 45 :: (numL i.natAbs ++ r)
      rw [← e]
      rfl
  · rw [if_neg (fun y => z (h.mp y))] at e
    rw [if_neg z]
    exact e
theorem numT_inj {a b : Rat} (h : numT a = numT b) : a = b := by
  have hs : a.num < 0 ↔ b.num < 0 := by rw [← numT_head, ← numT_head, h]
  have hb : bareL (numT a) = bareL (numT b) := by rw [h]
  rw [numT_bare, numT_bare] at hb
  have pa : ∀ q : Rat, TL.par [47] [] (numL q.num.natAbs ++ (if q.den = 1 then [] else 47 :: numL q.den)) = if q.den = 1 then none else some (numL q.num.natAbs, numL q.den) := fun q => by
    by_cases h : q.den = 1
    · rw [if_pos h, if_pos h, List.append_nil]
      exact par_head_none (num_no47 _)
    · rw [if_neg h, if_neg h]
      exact par_head (sep := []) _ (num_no47 _)
  have e := (pa a).symm.trans ((congrArg _ hb).trans (pa b))
  have key : a.num.natAbs = b.num.natAbs ∧ a.den = b.den := by
    by_cases h1 : a.den = 1
    · by_cases h2 : b.den = 1
      · rw [if_pos h1, if_pos h2, List.append_nil, List.append_nil] at hb
        exact ⟨TL.numL_inj hb, by rw [h1, h2]⟩
      · rw [if_pos h1, if_neg h2] at e
        cases e
    · by_cases h2 : b.den = 1
      · rw [if_neg h1, if_pos h2] at e
        cases e
      · rw [if_neg h1, if_neg h2] at e
        have e := Option.some.inj e
        exact ⟨TL.numL_inj (congrArg Prod.fst e), TL.numL_inj (congrArg Prod.snd e)⟩
  exact Rat.ext (by omega) key.2
theorem val_lt {l : List Nat} (h : digs l = true) (n : Nat) (hn : l.length ≤ n) : NumText.digitsVal l < 10 ^ n := by
  have hd := digs_iff.mp h
  have key : ∀ (l : List Nat) (a : Nat), NumText.AllDigits l → l.foldl (fun acc c => acc * 10 + (c - 48)) a < (a + 1) * 10 ^ l.length := by
    intro l
    induction l with
    | nil => intro a _; simp
    | cons c r ih =>
      intro a hd
      have hc := hd.head
      rw [List.foldl_cons, List.length_cons]
      refine Nat.lt_of_lt_of_le (ih _ hd.tail) ?_
      rw [Nat.pow_succ, Nat.mul_comm (10 ^ r.length) 10, ← Nat.mul_assoc]
      exact Nat.mul_le_mul_right _ (by omega)
  have := key l 0 hd
  rw [Nat.zero_add, Nat.one_mul] at this
  exact Nat.lt_of_lt_of_le this (Nat.pow_le_pow_right (by decide) hn)
/-- the text t is of the number q -/
def IsT (t : List Nat) (q : Rat) : Prop := sml q ∧ t = numT q
theorem par_numT (q : Rat) : TL.par [47] [] (bareL (numT q)) = if q.den = 1 then none else some (numL q.num.natAbs, numL q.den) := by
  rw [numT_bare]
  by_cases h : q.den = 1
  · rw [if_pos h, if_pos h, List.append_nil]
    exact par_head_none (num_no47 _)
  · rw [if_neg h, if_neg h]
    exact par_head (sep := []) _ (num_no47 _)
theorem spl_numT (q : Rat) : TL.spl [47] 0 [] (bareL (numT q)) = if q.den = 1 then [numL q.num.natAbs] else [numL q.num.natAbs, numL q.den] := by
  rw [numT_bare]
  by_cases h : q.den = 1
  · rw [if_pos h, if_pos h, List.append_nil, TL.spl_last1 (num_no47 _)]
    rfl
  · rw [if_neg h, if_neg h]
    have e := TL.spl_part1 (S := []) (rest := numL q.den) (acc := []) (num_no47 q.num.natAbs)
    refine e.trans ?_
    rw [TL.spl_last1 (num_no47 _)]
    rfl
theorem spl_ne (s : Nat) : ∀ (l acc : List Nat), TL.spl [s] 0 acc l ≠ []
  | [], acc => by simp [TL.spl]
  | c :: r, acc => by
    show (if TL.pre [s] (c :: r) = true then acc :: TL.spl [s] 0 [] r else TL.spl [s] 0 (acc ++ [c]) r) ≠ []
    by_cases h : TL.pre [s] (c :: r) = true
    · rw [if_pos h]
      exact List.cons_ne_nil _ _
    · rw [if_neg h]
      exact spl_ne s r _
theorem join_spl (s : Nat) : ∀ (l acc : List Nat), TL.joinL [s] (TL.spl [s] 0 acc l) = acc ++ l
  | [], acc => by simp [TL.spl, TL.joinL]
  | c :: r, acc => by
    show TL.joinL [s] (if TL.pre [s] (c :: r) = true then acc :: TL.spl [s] 0 [] r else TL.spl [s] 0 (acc ++ [c]) r) = _
    by_cases h : TL.pre [s] (c :: r) = true
    · rw [if_pos h]
      have hc : c = s := by
        have e : (c :: r).take 1 = [s] := eq_of_beq h
        injection e
      have ih := join_spl s r []
      cases e : TL.spl [s] 0 [] r with
      | nil => exact absurd e (spl_ne s r [])
      | cons x y =>
        rw [e] at ih
        show acc ++ ([s] ++ TL.joinL [s] (x :: y)) = _
        rw [ih, hc]
        rfl
    · rw [if_neg h, join_spl s r, List.append_assoc]
      rfl
/-- the law's look at digits -/
def ldig (l : List Nat) : Bool := decide (1 ≤ l.length) && decide (l.length ≤ 30) && !(decide (l.head? = some 48) && decide (1 < l.length)) && digs l
theorem ldig_iff {l : List Nat} : ldig l = true ↔ ∃ n, l = numL n ∧ (numL n).length ≤ 30 := by
  unfold ldig
  rw [Bool.and_eq_true, Bool.and_eq_true, Bool.and_eq_true, decide_eq_true_eq, decide_eq_true_eq]
  constructor
  · rintro ⟨⟨⟨h1, h2⟩, h3⟩, h4⟩
    have ne : l ≠ [] := List.length_pos_iff.mp h1
    have e := num_of h4 ne (by
      by_cases z : l.head? = some 48
      · right
        simp [z] at h3
        omega
      · exact .inl z)
    exact ⟨_, e.symm, by rw [e]; exact h2⟩
  · rintro ⟨n, rfl, h⟩
    refine ⟨⟨⟨List.length_pos_iff.mpr (TL.numL_ne n), h⟩, ?_⟩, digs_num n⟩
    by_cases z : n = 0
    · subst z
      rw [TL.numL_lt (by decide)]
      rfl
    · rw [decide_eq_false (num_head0 n z)]
      rfl
theorem fr_cop {i : Int} {b : Nat} (hb : 1 ≤ b) (g : Nat.gcd i.natAbs b = 1) : (fr i b).num = i ∧ (fr i b).den = b := by
  have nz : ((b : Nat) : Int) ≠ 0 := by omega
  have h1 := fr_num (n := i) nz
  have h2 := fr_den (n := i) nz
  rw [Int.natAbs_natCast, g, if_neg (by omega)] at h1 h2
  constructor
  · rw [h1, Int.natCast_one, Int.fdiv_one]
  · rw [Int.natCast_one, Int.fdiv_one] at h2
    exact Int.ofNat_inj.mp h2
/-- a text of a sign and two numbers without a common factor is that of a number -/
theorem isT_of {t : List Nat} {a b : Nat} {i : Int} (hb : bareL t = numL a ++ (if b = 1 then [] else 47 :: numL b)) (b1 : 1 ≤ b) (g : Nat.gcd a b = 1) (l1 : (numL a).length ≤ 30) (l2 : (numL b).length ≤ 30)
    (hi : i.natAbs = a) (hs : t.head? = some 45 ↔ i < 0) : IsT t (fr i b) ∧ (fr i b).num = i ∧ (fr i b).den = b := by
  obtain ⟨e1, e2⟩ := fr_cop (i := i) b1 (by rw [hi]; exact g)
  refine ⟨⟨⟨by rw [e1, hi]; exact l1, by rw [e2]; exact l2⟩, ?_⟩, e1, e2⟩
  unfold numT
  rw [e1, e2]
  exact numT_of_bare hs (by rw [hi]; exact hb)
theorem IsT.cop {t : List Nat} {q : Rat} (h : IsT t q) : Nat.gcd q.num.natAbs q.den = 1 := q.reduced
theorem IsT.parts {t : List Nat} {q : Rat} (h : IsT t q) : TL.spl [47] 0 [] (bareL t) = if q.den = 1 then [numL q.num.natAbs] else [numL q.num.natAbs, numL q.den] := by
  rw [h.2]
  exact spl_numT q
theorem IsT.neg {t : List Nat} {q : Rat} (h : IsT t q) : t.head? = some 45 ↔ q.num < 0 := by
  rw [h.2]
  exact numT_head q
theorem IsT.par {t : List Nat} {q : Rat} (h : IsT t q) : TL.par [47] [] (bareL t) = if q.den = 1 then none else some (numL q.num.natAbs, numL q.den) := by
  rw [h.2]
  exact par_numT q
end UfX

/-! # str(x) of an own object -/
namespace UfO
open PySem PySem.Spec PyProof.Rows L2
open PySem.W (InstAt Frag)
open Builtin Builtin.Str
section
variable {X : Cx} {CX : CXT} {k : Nat} {f C : Addr} {fd : FuncData} {ps : List Str} {sp : Sp} {E : XK}
theorem strOf_own {prog : Program} {w : World} {A : Around} {Er : Value → Shared → Prop} {s : Shared} {K : Frag} {x C f : Addr} {ox : Obj} {od : Option Obj} {Q : Value → Shared → Prop} (hu : A.units < cLine) (I1 : K.In s.heap) (I : InstAt s.heap x ox C od)
    (hs : PySem.W.findIn K (.ref C) "__str__" = some (some (.ref f))) (hf : PySem.W.isFn K (.ref f) = true) (h : wpAny (model prog w) A (call (.ref f) [.ref x]) (fun v s' => ∃ y t, v = .str y t ∧ Q v s') Er s) : wpAny (model prog w) A (Builtin.Str.strOf (.ref x)) Q Er s := by
  unfold Builtin.Str.strOf
  refine wpAny_bind (m := cRoomFor _ _) (wpAny_cRoomFor hu ?_)
  refine wpAny_bind (m := callSpecial? (.ref x) (Str.ofString "__str__")) (PySem.W.special_fn I1 I hs (beq_iff_eq.mp hf) (wpAny_mono h (fun r s' hr => ?_) fun _ _ y => y))
  obtain ⟨y, t, rfl, hq⟩ := hr
  repeat (any_goals (first | assumption | wp_step))
/-- str(x): an int, or an object of the class at C -/
def rStrOwn (C : Addr) (sp : Sp) (E : XK) : List V → Hp → VK → Prop := fun xs H Q => (∃ i : Int, xs = [.int i] ∧ i.natAbs.log2 < 1920 ∧ Q (.str (SX.S (UfX.intL i))) H) ∨
  ∃ a dx fs, xs = [.ref a] ∧ H a = some (.ins C dx fs) ∧ sp [.ref a] H (fun v H' => ∃ y, v = .str y ∧ Q v H') E
theorem call_str_own (hr : Room (k + 2) X.A) (hs : PySem.W.findIn X.K (.ref C) "__str__" = some (some (.ref f))) (hf : PySem.W.isFn X.K (.ref f) = true) (F : FnOk X.prog X.w X.K X.mg X.base CX k f fd ps sp) (hb : Binds X.K fd ps []) (hx : Passes CX X E) :
    CallR X (.type "str") (rStrOwn C sp E) := by
  intro pins s σ H xs us Q I rs h
  rcases h with ⟨i, rfl, hz, q⟩ | ⟨a, dx, fs, rfl, ha, h⟩
  · exact call_str_int pins s σ H _ us Q I rs ⟨i, rfl, hz, by rw [UfX.txt_int] ; exact q⟩
  · obtain ⟨u, rfl, ru⟩ := vals1 rs
    cases ru
    obtain ⟨mA, J, _⟩ := ins_get I.hok ha
    obtain ⟨od, J, _⟩ := J.look
    have sb : Sub X k X.A.in1.in1 := (Sub.in1 (Sub.in1 (⟨hr, rfl⟩ : Sub X (k + 2) X.A)))
    have hu : X.A.in1.in1.units < cLine := sb.room.units0
    refine callType_newIn (S := fun A' R s' => wpAny (model X.prog X.w) A'.in1 (Builtin.Str.strOf (.ref a)) (fun r s2 => R (.ok (.ret r)) s2) (fun e s2 => R (.error e) s2) s') PySem.F.called_str (by decide) (PySem.F.typeCall_str_1 _) (PySem.F.newCall_str_1 _) (fun obj => PySem.F.args_object_init_2 obj _) PySem.F.entry_str_new
      (MeetsIn.of_wp fun A' R s' hq => ?_) ?_
    · rw [str_new_tree (.ref a)]
      refine wpAny_bind (wpAny_pure ?_)
      refine wpAny_bind (wpAny_of_eq isSubtype_str_str ?_)
      exact wpAny_bind (wpAny_mono hq (fun r s' h' => wpAny_pure ⟨_, rfl, h'⟩) fun _ _ e => e)
    · refine strOf_own hu I.kIn J hs hf (wpAny_mono (run_fnA (vs := [V.ref a]) sb F hb hx I (.cons rfl .nil) h) (fun v s' z => ?_) fun _ _ z => z)
      obtain ⟨v', H', I', r, y, rfl, q⟩ := z
      obtain ⟨t, rfl⟩ := r
      exact ⟨y, t, rfl, typeIs_str _ _ _, .str y, H', I', ⟨t, rfl⟩, q⟩
end
end UfO

/-! # What is asked of the handled exception, with or without an own dict -/
namespace UfH
open PySem PySem.Spec PyProof.Rows L2
/-- p is an exception of the class at D with the own dict d, if any -/
structure ExcO (p : Addr × Obj) (D : Addr) (d : Option Addr) : Prop where
  zc : Zc (.ref D) d p.2
  fl : ∃ vs, p.2.data = .fields vs
/-- the own dict's fields are told -/
def DOk (H : Hp) (d : Option Addr) : Prop := ∀ a, d = some a → ∃ fs, H a = some (.xd fs)
section
variable {X : Cx} {p : Addr × Obj} {D : Addr} {d : Option Addr}
theorem ExcO.inst {pins : List (Addr × Obj)} {σ : SL} {H : Hp} {s : Shared} (Z : ExcO p D d) (I : Inv X pins σ H s) (hp : p ∈ X.pn) (hx : DOk H d) : ∃ od, PySem.W.InstAt s.heap p.1 p.2 D od := by
  cases d with
  | some a =>
    obtain ⟨fs, h⟩ := hx a rfl
    obtain ⟨mA, od, J, _⟩ := Exc1.inst ⟨Z.zc, Z.fl⟩ I hp h
    exact ⟨_, J⟩
  | none =>
    obtain ⟨hget, _⟩ := I.pin p (List.mem_append_left _ hp)
    obtain ⟨vs, hv⟩ := Z.fl
    exact ⟨none, hget, Z.zc.1, by unfold PySem.W.notCls; rw [hv] <;> rfl, by rw [Z.zc.2]; trivial⟩
def rIsO (K : PySem.W.Frag) (a D : Addr) (d : Option Addr) : List V → Hp → VK → Prop := fun xs H Q => ∃ (c : V) (cv : Value) (b : Bool), xs = [.ref a, c] ∧ (∀ u, RelV c u → u = cv) ∧ DOk H d ∧ PySem.W.kitOne K (.ref D) cv = some b ∧ Q (.bl b) H
theorem call_isO (T : ExKnow X.K D) (Z : ExcO p D d) (hp : p ∈ X.pn) : CallR X (.builtin "isinstance") (rIsO X.K p.1 D d) := by
  intro pins s σ H xs us Q I r h
  obtain ⟨c, cv, b, rfl, hcv, hx, e, q⟩ := h
  cases r with
  | cons rx rr =>
    cases rr with
    | cons rt rr =>
      cases rr
      cases rx
      have ec := hcv _ rt
      subst ec
      obtain ⟨od, J⟩ := Z.inst I hp hx
      exact PySem.W.kia_one (PySem.W.kitx_exc T.cl T.ga T.gg T.ex T.cla T.sp T.tk T.mo) I.kIn J e (fun z => nomatch z) fun tk => ⟨.bl b, H, I.kept (t' := tk) fun _ _ z => z, rfl, q⟩
def tFldO (a : Addr) (d : Option Addr) (f : Str) (te : TE) : TE := fun σ H Q => te σ H fun x H1 => x = .ref a ∧ ∃ (d' : Addr) (fs : List (Str × V)) (v : V), d = some d' ∧ H1 d' = some (.xd fs) ∧ fs.lookup f = some v ∧ Q v H1
theorem pe_fldO {e : Expr} {te : TE} {pos : Pos} {n : Str} (T : ExKnow X.K D) (Z : ExcO p D d) (hp : p ∈ X.pn) (hno : PySem.W.findIn X.K (.ref D) n = some none) (he : PE X e te)
    (hb : attributeBase e n X.env (eval e X.env) = eval e X.env := by rfl) : PE X (.Attribute e n pos) (tFldO p.1 d n te) := by
  refine ⟨fun pins s σ H Q I h => ?_⟩
  refine attr_of hb (thn (he.run pins s σ H _ I h) fun u s1 hv => ?_)
  obtain ⟨x, H1, I1, rx, ex, d', fs, v, rfl, hx, l, q⟩ := hv
  subst ex
  obtain rfl : u = Value.ref p.1 := rx
  obtain ⟨mA, od, J, hr, hl⟩ := Exc1.inst ⟨Z.zc, Z.fl⟩ I1 hp hx
  obtain ⟨u, hu, ru⟩ := RelO.some_of (v := v) (o := mA n) (by rw [← l]; exact hr n)
  exact HandSPX.exc_get I1.kIn J T.ga T.gg T.ex (PySem.W.findObj_own T.hd hno rfl (by rw [hl, hu])) (handed_of ru) ⟨v, H1, I1.tok _, ru, q⟩
end
end UfH

/-! # More data: tuples of ints, lists of bools and of ints -/
namespace UfD
open PySem PySem.Spec PyProof.Rows L2 UfG UfI
open Evl (Ex)
theorem lay_ints : ∀ ns : List Int, PyData.canLayAll0 (ns.map PyData.int) = true
  | [] => by simp only [List.map_nil, PyData.canLayAll0]
  | n :: ns => by simp only [List.map_cons, PyData.canLayAll0, PyData.canLay0, lay_ints ns, Bool.and_self]
theorem depth_ints : ∀ ns : List Int, PyData.depthAll (ns.map PyData.int) ≤ 1
  | [] => by simp only [List.map_nil, PyData.depthAll]; decide
  | n :: ns => by
    have := depth_ints ns
    simp only [List.map_cons, PyData.depthAll, PyData.depth]
    omega
theorem shaped_tupI (ns : List Int) : SeqAt.shaped (.tuple (ns.map PyData.int)) = true := shaped_tup (lay_ints ns) (Nat.le_trans (depth_ints ns) (by decide))
theorem shaped_lstI (ns : List Int) : SeqAt.shaped (.list (ns.map PyData.int)) = true := by
  unfold SeqAt.shaped
  have := depth_ints ns
  simp only [PyData.canLay0, PyData.depth, lay_ints ns, Bool.true_and]
  exact decide_eq_true (by omega)
theorem eqv_lstI (ns ms : List Int) : PyData.eqv (.list (ns.map PyData.int)) (.list (ms.map PyData.int)) = decide (ns = ms) := by
  simp only [PyData.eqv]
  exact eqv_ints ns ms
theorem lay_bools : ∀ ns : List Bool, PyData.canLayAll0 (ns.map PyData.bool) = true
  | [] => by simp only [List.map_nil, PyData.canLayAll0]
  | n :: ns => by simp only [List.map_cons, PyData.canLayAll0, PyData.canLay0, lay_bools ns, Bool.and_self]
theorem depth_bools : ∀ ns : List Bool, PyData.depthAll (ns.map PyData.bool) ≤ 1
  | [] => by simp only [List.map_nil, PyData.depthAll]; decide
  | n :: ns => by
    have := depth_bools ns
    simp only [List.map_cons, PyData.depthAll, PyData.depth]
    omega
theorem shaped_lstB (ns : List Bool) : SeqAt.shaped (.list (ns.map PyData.bool)) = true := by
  unfold SeqAt.shaped
  have := depth_bools ns
  simp only [PyData.canLay0, PyData.depth, lay_bools ns, Bool.true_and]
  exact decide_eq_true (by omega)
theorem eqvAll_bools : ∀ ns : List Bool, PyData.eqvAll (ns.map PyData.bool) (ns.map PyData.bool) = true
  | [] => by simp only [List.map_nil, PyData.eqvAll]
  | n :: ns => by
    simp only [List.map_cons, PyData.eqvAll, eqvAll_bools ns, Bool.and_true]
    cases n <;> simp [PyData.eqv]
theorem eqv_lstB (ns : List Bool) : PyData.eqv (.list (ns.map PyData.bool)) (.list (ns.map PyData.bool)) = true := by
  simp only [PyData.eqv]
  exact eqvAll_bools ns
theorem rp_bools {G : Hp} : ∀ ns : List Bool, RpAll G (ns.map V.bl) (ns.map PyData.bool)
  | [] => .nil
  | n :: ns => .cons (.bl n) (rp_bools ns)
theorem at_nat {xs : List V} {i : Nat} {x : V} (h : xs[i]? = some x) : atI xs (i : Int) = some x := atI_nat h
end UfD

/-! # law_k01: the text -/
namespace K01
open PySem PySem.Spec PyProof.Rows L2 UfG UfT UfR UfO
open Evl (Ex)
def top (i : Nat) : Stmt := PySem.Challenge.pw_unmovedforms_k01_numbers_are_exact.main.body.getD i (.Pass ⟨0, 0, 0, 0⟩)
abbrev i_whole : Stmt := inClass (top 4) 0
abbrev i_text : Stmt := inClass (top 5) 0
abbrev i_prime : Stmt := inClass (top 6) 0
abbrev i_count : Stmt := inClass (top 7) 0
abbrev i_wrong : Stmt := inClass (top 8) 0
abbrev s_f_init : Stmt := inClass (top 12) 0
abbrev s_f_add : Stmt := inClass (top 12) 1
abbrev s_f_radd : Stmt := inClass (top 12) 2
abbrev s_f_sub : Stmt := inClass (top 12) 3
abbrev s_f_rsub : Stmt := inClass (top 12) 4
abbrev s_f_mul : Stmt := inClass (top 12) 5
abbrev s_f_rmul : Stmt := inClass (top 12) 6
abbrev s_f_neg : Stmt := inClass (top 12) 7
abbrev s_f_eq : Stmt := inClass (top 12) 8
abbrev s_f_str : Stmt := inClass (top 12) 9
abbrev s_g_init : Stmt := inClass (top 22) 0
abbrev s_g_eq : Stmt := inClass (top 22) 1
abbrev s_g_number : Stmt := inClass (top 22) 2
abbrev s_g_plus : Stmt := inClass (top 22) 3
abbrev s_g_minus : Stmt := inClass (top 22) 4
abbrev s_g_times : Stmt := inClass (top 22) 5
abbrev s_g_negative : Stmt := inClass (top 22) 6
abbrev s_g_over : Stmt := inClass (top 22) 7
abbrev s_g_power : Stmt := inClass (top 22) 8
abbrev s_g_numbers : Stmt := inClass (top 22) 9
abbrev s_g_roots : Stmt := inClass (top 22) 10
abbrev s_g_least : Stmt := inClass (top 22) 11
abbrev s_ratio : Stmt := top 13
abbrev s_divided : Stmt := top 14
abbrev s_pieces : Stmt := top 15
abbrev s_number_text : Stmt := top 16
abbrev s_read_number : Stmt := top 17
abbrev s_is_count : Stmt := top 18
abbrev s_in_form : Stmt := top 23
abbrev s_plain_sum : Stmt := top 24
abbrev s_plain_times : Stmt := top 25
abbrev s_plain_over : Stmt := top 26
abbrev s_plain_power : Stmt := top 27
abbrev s_root_order : Stmt := top 28
abbrev s_pool : Stmt := top 30
abbrev s_draw : Stmt := top 31
abbrev s_gcd : Stmt := top 32
abbrev s_low : Stmt := top 33
abbrev s_plus : Stmt := top 34
abbrev s_times : Stmt := top 35
abbrev s_int_ : Stmt := top 36
abbrev s_is : Stmt := top 37
abbrev s_hand : Stmt := top 38
abbrev s_kept : Stmt := top 39
abbrev s_error : Stmt := top 40
abbrev s_ask : Stmt := top 41
abbrev s_l_ground : Stmt := top 42
abbrev s_whole : Stmt := top 43
abbrev s_l_numbers : Stmt := top 44
abbrev s_makes : Stmt := top 45
abbrev s_sums : Stmt := top 46
abbrev s_text : Stmt := top 47
abbrev s_tells : Stmt := top 48
abbrev s_digits : Stmt := top 49
abbrev s_parse : Stmt := top 50
abbrev s_spoiled : Stmt := top 51
abbrev s_texts : Stmt := top 52
abbrev s_field : Stmt := top 53
abbrev s_l_power : Stmt := top 54
abbrev s_powers : Stmt := top 55
abbrev s_ones : Stmt := top 56
abbrev s_least : Stmt := top 57
abbrev s_l_list : Stmt := top 58
abbrev s_l_roots : Stmt := top 59
abbrev s_grounds : Stmt := top 60
abbrev s_count : Stmt := top 61
abbrev s_law : Stmt := top 62
/-- what the top has written -/
structure Tx (K : PySem.W.Frag) (mg : Str → Option Value) where
  cForms : ClAt mg "FormsError"
  cDiv : ExAt0 K mg "DivisionByZero"
  cWhole : ExAt K mg "Whole" "Whole.__init__" i_whole ["self", "integer"]
  cText : ExAt K mg "BadText" "BadText.__init__" i_text ["self", "text"]
  cPrime : ExAt K mg "BadPrime" "BadPrime.__init__" i_prime ["self", "prime"]
  cCount : ExAt K mg "BadCount" "BadCount.__init__" i_count ["self", "count"]
  cWrong : ExAt K mg "WrongGround" "WrongGround.__init__" i_wrong ["self", "prime"]
  frac : OwnAt K mg "Frac"
  ground : OwnAt K mg "Ground"
  fld : ∀ D ∈ [cDiv.C, cWhole.C, cText.C, cPrime.C, cCount.C, cWrong.C], ∀ n ∈ (["integer", "prime", "count", "text"] : List Str), PySem.W.findIn K (.ref D) n = some none
  exm : ∀ D ∈ [cDiv.C, cWhole.C, cText.C, cPrime.C, cCount.C, cWrong.C], PySem.W.exmOne K (.ref D) (.ref cForms.C) = some true
  kDiv : Kits K cDiv.C [(.ref cDiv.C, true), (.ref cWhole.C, false), (.ref cText.C, false), (.ref cPrime.C, false), (.ref cCount.C, false), (.ref cWrong.C, false), (.type "ValueError", true)]
  kWhole : Kits K cWhole.C [(.ref cDiv.C, false), (.ref cWhole.C, true), (.ref cText.C, false), (.ref cPrime.C, false), (.ref cCount.C, false), (.ref cWrong.C, false), (.type "ValueError", true)]
  kText : Kits K cText.C [(.ref cDiv.C, false), (.ref cWhole.C, false), (.ref cText.C, true), (.ref cPrime.C, false), (.ref cCount.C, false), (.ref cWrong.C, false), (.type "ValueError", true)]
  kPrime : Kits K cPrime.C [(.ref cDiv.C, false), (.ref cWhole.C, false), (.ref cText.C, false), (.ref cPrime.C, true), (.ref cCount.C, false), (.ref cWrong.C, false), (.type "ValueError", true)]
  kCount : Kits K cCount.C [(.ref cDiv.C, false), (.ref cWhole.C, false), (.ref cText.C, false), (.ref cPrime.C, false), (.ref cCount.C, true), (.ref cWrong.C, false), (.type "ValueError", true)]
  kWrong : Kits K cWrong.C [(.ref cDiv.C, false), (.ref cWhole.C, false), (.ref cText.C, false), (.ref cPrime.C, false), (.ref cCount.C, false), (.ref cWrong.C, true), (.type "ValueError", true)]
  noWhole : PySem.W.findIn K (.ref cWhole.C) "integer" = some none
  noText : PySem.W.findIn K (.ref cText.C) "text" = some none
  noPrime : PySem.W.findIn K (.ref cPrime.C) "prime" = some none
  noCount : PySem.W.findIn K (.ref cCount.C) "count" = some none
  noWrong : PySem.W.findIn K (.ref cWrong.C) "prime" = some none
  nNum : NoAttr K frac.C "num"
  nDen : NoAttr K frac.C "den"
  nPrime : NoAttr K ground.C "prime"
  f_init : MetAt K frac.C "__init__" "Frac.__init__" s_f_init ["self", "num", "den"]
  f_add : MetAt K frac.C "__add__" "Frac.__add__" s_f_add ["self", "other"]
  f_radd : MetAt K frac.C "__radd__" "Frac.__radd__" s_f_radd ["self", "other"]
  f_sub : MetAt K frac.C "__sub__" "Frac.__sub__" s_f_sub ["self", "other"]
  f_rsub : MetAt K frac.C "__rsub__" "Frac.__rsub__" s_f_rsub ["self", "other"]
  f_mul : MetAt K frac.C "__mul__" "Frac.__mul__" s_f_mul ["self", "other"]
  f_rmul : MetAt K frac.C "__rmul__" "Frac.__rmul__" s_f_rmul ["self", "other"]
  f_neg : MetAt K frac.C "__neg__" "Frac.__neg__" s_f_neg ["self"]
  f_eq : MetAt K frac.C "__eq__" "Frac.__eq__" s_f_eq ["self", "other"]
  f_str : MetAt K frac.C "__str__" "Frac.__str__" s_f_str ["self"]
  g_init : MetDAt K ground.C "__init__" "Ground.__init__" s_g_init ["self", "prime"] [.int 0]
  g_eq : MetAt K ground.C "__eq__" "Ground.__eq__" s_g_eq ["self", "other"]
  g_number : MetAt K ground.C "number" "Ground.number" s_g_number ["self", "value"]
  g_plus : MetAt K ground.C "plus" "Ground.plus" s_g_plus ["self", "first", "second"]
  g_minus : MetAt K ground.C "minus" "Ground.minus" s_g_minus ["self", "first", "second"]
  g_times : MetAt K ground.C "times" "Ground.times" s_g_times ["self", "first", "second"]
  g_negative : MetAt K ground.C "negative" "Ground.negative" s_g_negative ["self", "number"]
  g_over : MetAt K ground.C "over" "Ground.over" s_g_over ["self", "first", "second"]
  g_power : MetAt K ground.C "power" "Ground.power" s_g_power ["self", "number", "count"]
  g_numbers : MetAt K ground.C "numbers" "Ground.numbers" s_g_numbers ["self"]
  g_roots : MetAt K ground.C "roots" "Ground.roots" s_g_roots ["self", "count"]
  g_least : MetAt K ground.C "least_root" "Ground.least_root" s_g_least ["self", "count"]
  fracMk : Mk K frac.C f_init.f
  groundMk : Mk K ground.C g_init.f
  oAdd : OwnBin K frac.C "add" f_add.f f_radd.f
  oSub : OwnBin K frac.C "sub" f_sub.f f_rsub.f
  oMul : OwnBin K frac.C "mul" f_mul.f f_rmul.f
  fEq : OwnEq K frac.C f_eq.f
  gEq : OwnEq K ground.C g_eq.f
  kIF : PySem.W.kitOne K (.type "int") (.ref frac.C) = some false
  kSF : PySem.W.kitOne K (.type "str") (.ref frac.C) = some false
  kFI : PySem.W.kitOne K (.ref frac.C) (.type "int") = some false
  kIG : PySem.W.kitOne K (.type "int") (.ref ground.C) = some false
  kFF : PySem.W.kitOne K (.ref frac.C) (.ref frac.C) = some true
  kGG : PySem.W.kitOne K (.ref ground.C) (.ref ground.C) = some true
  ratio : FnAt K mg "ratio" s_ratio ["num", "den"]
  divided : FnAt K mg "divided" s_divided ["first", "second"]
  pieces : FnAt K mg "pieces" s_pieces ["number"]
  number_text : FnAt K mg "number_text" s_number_text ["number"]
  read_number : FnAt K mg "read_number" s_read_number ["text"]
  is_count : FnAt K mg "is_count" s_is_count ["word"]
  in_form : FnAt K mg "in_form" s_in_form ["prime", "value"]
  plain_sum : FnAt K mg "plain_sum" s_plain_sum ["prime", "first", "second"]
  plain_times : FnAt K mg "plain_times" s_plain_times ["prime", "first", "second"]
  plain_over : FnAt K mg "plain_over" s_plain_over ["prime", "first", "second"]
  plain_power : FnAt K mg "plain_power" s_plain_power ["prime", "number", "count"]
  root_order : FnAt K mg "root_order" s_root_order ["prime", "number", "most"]
  pool : FnAt K mg "_law_pool" s_pool ["script"]
  draw : FnAt K mg "_law_draw" s_draw ["pool", "many"]
  gcd : FnAt K mg "_law_gcd" s_gcd ["a", "b"]
  low : FnAt K mg "_law_low" s_low ["prime", "num", "den"]
  plus : FnAt K mg "_law_plus" s_plus ["prime", "a", "b"]
  times : FnAt K mg "_law_times" s_times ["prime", "a", "b"]
  int_ : FnAt K mg "_law_int" s_int_ ["told"]
  is : FnAt K mg "_law_is" s_is ["told", "pair"]
  hand : FnAt K mg "_law_hand" s_hand ["pair"]
  kept : FnAt K mg "_law_kept" s_kept ["name", "number"]
  error : FnAt K mg "_law_error" s_error ["e"]
  ask : FnAt K mg "_law_ask" s_ask ["mode", "first", "second"]
  l_ground : FnAt K mg "_law_ground" s_l_ground ["mode", "ground", "first", "second"]
  whole : FnAt K mg "_law_whole" s_whole ["pool"]
  l_numbers : FnAt K mg "_law_numbers" s_l_numbers ["pool"]
  makes : FnAt K mg "_law_makes" s_makes ["num", "den"]
  sums : FnAt K mg "_law_sums" s_sums ["one", "two"]
  text : FnAt K mg "_law_text" s_text ["pair"]
  tells : FnAt K mg "_law_tells" s_tells ["one", "two"]
  digits : FnAt K mg "_law_digits" s_digits ["text"]
  parse : FnAt K mg "_law_parse" s_parse ["text"]
  spoiled : FnAt K mg "_law_spoiled" s_spoiled ["pool", "text"]
  texts : FnAt K mg "_law_texts" s_texts ["pool", "one", "two"]
  field : FnAt K mg "_law_field" s_field ["prime", "a", "b", "one", "two"]
  l_power : FnAt K mg "_law_power" s_l_power ["prime", "pair", "count"]
  powers : FnAt K mg "_law_powers" s_powers ["prime", "pair", "count"]
  ones : FnAt K mg "_law_ones" s_ones ["prime", "count"]
  least : FnAt K mg "_law_least" s_least ["prime", "count"]
  l_list : FnAt K mg "_law_list" s_l_list ["answer", "due"]
  l_roots : FnAt K mg "_law_roots" s_l_roots ["prime", "count"]
  grounds : FnAt K mg "_law_grounds" s_grounds ["pool", "prime"]
  count : FnAt K mg "_law_count" s_count ["pool"]
  PRIMES : TupAt K mg "PRIMES" [2, 3, 5, 7, 11, 13, 17, 19, 23, 29, 31]
  c_MOST_FACTORS : {t : Tok // mg "MOST_FACTORS" = some (.int 100 t)}
  c_MOST_DIGITS : {t : Tok // mg "MOST_DIGITS" = some (.int 30 t)}
  c_DIGITS : {t : Tok // mg "DIGITS" = some (.str "0123456789" t)}
  c_gcd : mg "gcd" = some (.builtin "math.gcd")
  z_len : mg "len" = none
  z_range : mg "range" = none
  z_int : mg "int" = none
  z_bool : mg "bool" = none
  z_list : mg "list" = none
  z_tuple : mg "tuple" = none
  z_sum : mg "sum" = none
  z_all : mg "all" = none
  z_min : mg "min" = none
  z_isinstance : mg "isinstance" = none
  z_ValueError : mg "ValueError" = none
  z_str : mg "str" = none
  z_abs : mg "abs" = none
end K01

namespace K01
open PySem PySem.Spec PyProof.Rows L2 UfG UfT UfR UfO UfI UfQ UfN
open Evl (Ex)
/-! ### errors -/
inductive Er where
  | div | whole (n : Int) | text (x : Str) | prime (n : Int) | count (n : Int) | wrong (n : Int)
section
variable {K : PySem.W.Frag} {mg : Str → Option Value}
/-- the error e, of the class at C with the own dict d -/
def ErAt (T : Tx K mg) (e : Er) (G : Hp) (C : Addr) (d : Option Addr) : Prop := match e with
  | .div => C = T.cDiv.C ∧ d = none
  | .whole n => C = T.cWhole.C ∧ ∃ a, d = some a ∧ G a = some (.xd [("integer", .int n)])
  | .text x => C = T.cText.C ∧ ∃ a, d = some a ∧ G a = some (.xd [("text", .str x)])
  | .prime n => C = T.cPrime.C ∧ ∃ a, d = some a ∧ G a = some (.xd [("prime", .int n)])
  | .count n => C = T.cCount.C ∧ ∃ a, d = some a ∧ G a = some (.xd [("count", .int n)])
  | .wrong n => C = T.cWrong.C ∧ ∃ a, d = some a ∧ G a = some (.xd [("prime", .int n)])
end
section
variable {P : Program} {w : World} {K : PySem.W.Frag} {mg : Str → Option Value} {base : Heap}
theorem sci_whole : FnScope ["self", "integer"] ["self", "integer"] (defScope i_whole) := ⟨rfl, rfl, rfl, by decide +kernel, rfl, by decide +kernel, by decide +kernel⟩
theorem oki_whole (T : Tx K mg) : FnOk P w K mg base CX0 1 T.cWhole.fI T.cWhole.fd ["self", "integer"] (spI1 K "integer") := by
  refine T.cWhole.F.ok sci_whole (fun vs H Q E h => ?_) (fun cdv A outer s H vs Q E hr h => ?_)
  · obtain ⟨a, C, y, rfl, _⟩ := h
    rfl
  · obtain ⟨a, C, y, rfl, TC, hn, ha, k⟩ := h
    refine ⟨_, pss_one (ps_ost (pv 0) (pv 1)), ?_⟩
    exact ⟨_, rfl, _, rfl, a, C, rfl, TC, hn, .inl ⟨ha, k⟩⟩
theorem sci_text : FnScope ["self", "text"] ["self", "text"] (defScope i_text) := ⟨rfl, rfl, rfl, by decide +kernel, rfl, by decide +kernel, by decide +kernel⟩
theorem oki_text (T : Tx K mg) : FnOk P w K mg base CX0 1 T.cText.fI T.cText.fd ["self", "text"] (spI1 K "text") := by
  refine T.cText.F.ok sci_text (fun vs H Q E h => ?_) (fun cdv A outer s H vs Q E hr h => ?_)
  · obtain ⟨a, C, y, rfl, _⟩ := h
    rfl
  · obtain ⟨a, C, y, rfl, TC, hn, ha, k⟩ := h
    refine ⟨_, pss_one (ps_ost (pv 0) (pv 1)), ?_⟩
    exact ⟨_, rfl, _, rfl, a, C, rfl, TC, hn, .inl ⟨ha, k⟩⟩
theorem sci_prime : FnScope ["self", "prime"] ["self", "prime"] (defScope i_prime) := ⟨rfl, rfl, rfl, by decide +kernel, rfl, by decide +kernel, by decide +kernel⟩
theorem oki_prime (T : Tx K mg) : FnOk P w K mg base CX0 1 T.cPrime.fI T.cPrime.fd ["self", "prime"] (spI1 K "prime") := by
  refine T.cPrime.F.ok sci_prime (fun vs H Q E h => ?_) (fun cdv A outer s H vs Q E hr h => ?_)
  · obtain ⟨a, C, y, rfl, _⟩ := h
    rfl
  · obtain ⟨a, C, y, rfl, TC, hn, ha, k⟩ := h
    refine ⟨_, pss_one (ps_ost (pv 0) (pv 1)), ?_⟩
    exact ⟨_, rfl, _, rfl, a, C, rfl, TC, hn, .inl ⟨ha, k⟩⟩
theorem sci_count : FnScope ["self", "count"] ["self", "count"] (defScope i_count) := ⟨rfl, rfl, rfl, by decide +kernel, rfl, by decide +kernel, by decide +kernel⟩
theorem oki_count (T : Tx K mg) : FnOk P w K mg base CX0 1 T.cCount.fI T.cCount.fd ["self", "count"] (spI1 K "count") := by
  refine T.cCount.F.ok sci_count (fun vs H Q E h => ?_) (fun cdv A outer s H vs Q E hr h => ?_)
  · obtain ⟨a, C, y, rfl, _⟩ := h
    rfl
  · obtain ⟨a, C, y, rfl, TC, hn, ha, k⟩ := h
    refine ⟨_, pss_one (ps_ost (pv 0) (pv 1)), ?_⟩
    exact ⟨_, rfl, _, rfl, a, C, rfl, TC, hn, .inl ⟨ha, k⟩⟩
theorem sci_wrong : FnScope ["self", "prime"] ["self", "prime"] (defScope i_wrong) := ⟨rfl, rfl, rfl, by decide +kernel, rfl, by decide +kernel, by decide +kernel⟩
theorem oki_wrong (T : Tx K mg) : FnOk P w K mg base CX0 1 T.cWrong.fI T.cWrong.fd ["self", "prime"] (spI1 K "prime") := by
  refine T.cWrong.F.ok sci_wrong (fun vs H Q E h => ?_) (fun cdv A outer s H vs Q E hr h => ?_)
  · obtain ⟨a, C, y, rfl, _⟩ := h
    rfl
  · obtain ⟨a, C, y, rfl, TC, hn, ha, k⟩ := h
    refine ⟨_, pss_one (ps_ost (pv 0) (pv 1)), ?_⟩
    exact ⟨_, rfl, _, rfl, a, C, rfl, TC, hn, .inl ⟨ha, k⟩⟩

/-! ### Frac.__init__ -/
theorem lg {x : Int} {b : Nat} (h : x.natAbs < 2 ^ b) (h0 : 0 < b) (hb : b ≤ 9000) : x.natAbs.log2 < 9000 := Nat.lt_of_lt_of_le (PySem.Flt.log2_lt_of h0 h) hb
theorem sc_f_init : FnScope ["self", "num", "den", "common"] ["self", "num", "den"] (defScope s_f_init) := ⟨rfl, rfl, rfl, by decide +kernel, rfl, by decide +kernel, by decide +kernel⟩
def sp_f_init (T : Tx K mg) : Sp := fun vs H Q E => ∃ n d : Int, InitSp T.frac.C (fun ws _ => ws = [.int n, .int d] ∧ d.natAbs < 2 ^ 8000) (fun _ _ G' x => d ≠ 0 ∧ n.fmod d ≠ 0 ∧ FrAt T.frac.C G' x (fr n d))
  (fun _ G' C e => (d = 0 ∧ ErAt T .div G' C e) ∨ (d ≠ 0 ∧ n.fmod d = 0 ∧ ErAt T (.whole (fr n d).num) G' C e)) vs H Q E
theorem ok_f_init (T : Tx K mg) : FnOk P w K mg base (L2N.CX P w) 3 T.f_init.f T.f_init.fd ["self", "num", "den"] (sp_f_init T) := by
  refine fun_okX T.f_init.F sc_f_init (fun vs H Q E h => ?_) (fun cdv A outer s H vs Q E hr h => ?_)
  · obtain ⟨n, d, H1, G, x, dx, ws, rfl, _, ⟨rfl, _⟩, _⟩ := h
    rfl
  · obtain ⟨n, d, H1, G, x, dx, ws, rfl, lw, ⟨rfl, bd⟩, k, kx⟩ := h
    refine ⟨_, (pss_cons (ps_if (pt_cmpR op_eq (pv 2) pe_int (nomark _)) (pss_one (L2N.ps_raise rfl (L2N.takes_of rfl rfl rfl rfl) (UfR.pmk_own0N PySem.F.excBase_ValueError T.cDiv.q T.cDiv.g T.cDiv.kC T.cDiv.r rfl))) pss_nil)
      (pss_cons (ps_if (pt_cmpR op_eq (pe_op op_modN (pv 1) (pv 2)) pe_int (nomark _)) (pss_one (L2N.ps_raise rfl (L2N.takes_of rfl rfl rfl rfl) (UfH.pmk_oexN T.cWhole.T T.cWhole.iC T.cWhole.tI (oki_whole T) (hr.mono (by decide)) T.cWhole.b rfl T.cWhole.g (pa_cons (pe_op UfR.op_fdivZ (pv 1) (pv 2)) pa_nil)))) pss_nil)
      (pss_cons (ps_set (i := 3) sc_f_init.nd rfl (.inl rfl) (pe_callBfun cr_gcd rfl T.c_gcd (pa_cons (pv 1) (pa_cons (pv 2) pa_nil))))
      (pss_cons (ps_if (pt_cmpR op_lt (pv 2) pe_int (nomark _)) (pss_one (ps_set (i := 3) sc_f_init.nd rfl (.inl rfl) (pe_un un_neg (pv 3)))) pss_nil)
      (pss_cons (ps_fld (pv 0) (pe_op UfR.op_fdivZ (pv 1) (pv 3)) rfl)
      (pss_one (ps_fld (pv 0) (pe_op UfR.op_fdivZ (pv 2) (pv 3)) rfl))))))), ?_⟩
    -- if den == 0
    refine ⟨_, rfl, rfl, _, rfl, ite2 (fun h1 => ?_) (fun h1 => ?_)⟩
    · have d0 : d = 0 := by simpa using h1
      exact kx _ _ _ _ lw.drop (.inl ⟨d0, rfl, rfl⟩)
    have d0 : d ≠ 0 := by simpa using h1
    -- if num % den == 0
    refine ⟨_, rfl, _, rfl, _, _, rfl, rfl, d0, rfl, _, rfl, ite2 (fun h2 => ?_) (fun h2 => ?_)⟩
    · have m0 : n.fmod d = 0 := by simpa using h2
      refine ⟨_, rfl, _, rfl, _, _, rfl, rfl, ⟨d0, lg bd (by decide) (by decide)⟩, mk1_of T.cWhole.T T.noWhole fun q hq => ?_⟩
      refine kx _ _ _ (some q) (lw.drop.alloc hq) (.inr ⟨d0, m0, rfl, q, rfl, ?_⟩)
      rw [fr_int d0 m0]
      exact upd_same
    have m0 : n.fmod d ≠ 0 := by simpa using h2
    have gp := gcd_pos (n := n) d0
    have gl : Nat.gcd n.natAbs d.natAbs ≤ d.natAbs := Nat.le_of_dvd (by omega) (Nat.gcd_dvd_right _ _)
    -- common
    refine ⟨_, rfl, _, rfl, n, d, rfl, ?_⟩
    have go : ∀ (c : Int) (z : Option V), c ≠ 0 → c.natAbs < 2 ^ 8000 → n.fdiv c = (fr n d).num → d.fdiv c = ((fr n d).den : Int) →
        tSeq (sFld K (tVar 0) (tOp (rI CDivZ fun i j => .int (i.fdiv j)) (tVar 1) (tVar 3)) "num") (sFld K (tVar 0) (tOp (rI CDivZ fun i j => .int (i.fdiv j)) (tVar 2) (tVar 3)) "den")
          { nx := fun _ H' => Q .non H', rt := Q } [some (.ref x), some (.int n), some (.int d), some (.int c)] H := fun c z c0 cb en ed => by
      refine ⟨_, rfl, _, rfl, _, _, rfl, rfl, ⟨c0, lg cb (by decide) (by decide)⟩, _, rfl, x, T.frac.C, dx, [], rfl, lw.at, T.frac.c, T.nNum, (by decide), ?_⟩
      have lw := lw.put (o' := .ins T.frac.C dx [("num", .int (n.fdiv c))])
      refine ⟨_, rfl, _, rfl, _, _, rfl, rfl, ⟨c0, lg cb (by decide) (by decide)⟩, _, rfl, x, T.frac.C, dx, [("num", .int (n.fdiv c))], rfl, lw.at, T.frac.c, T.nDen, (by show 1 < 1000; decide), ?_⟩
      rw [putF_den]
      have lw := lw.put (o' := .ins T.frac.C dx [("num", .int (n.fdiv c)), ("den", .int (d.fdiv c))])
      obtain ⟨lw, _⟩ := lw.keep
      refine k _ _ lw ⟨d0, m0, dx, ?_⟩
      rw [← en, ← ed]
      exact upd_same
    -- if den < 0
    refine ⟨_, rfl, _, _, rfl, rfl, _, rfl, ite2 (fun h3 => ?_) (fun h3 => ?_)⟩
    · have dn : d < 0 := by simpa using h3
      refine ⟨_, rfl, _, rfl, go _ none (by omega) (by omega) ?_ ?_⟩
      · rw [fr_num d0, if_pos dn]
      · rw [fr_den d0, if_pos dn]
    · have dn : ¬ d < 0 := by simpa using h3
      refine go _ none (by omega) (by omega) ?_ ?_
      · rw [fr_num d0, if_neg dn]
      · rw [fr_den d0, if_neg dn]
/-- Frac(n, d), never whole -/
theorem call_frac {T : Tx K mg} {H0 G0 G H : Hp} {p : Option (Addr × Addr × Nat)} {ls : List (Addr × HO)} {Q : VK} {E : XK} {n d : Int} (lw : Lw H0 G0 p ls G H) (bd : d.natAbs < 2 ^ 8000) (d0 : d ≠ 0) (m0 : n.fmod d ≠ 0)
    (k : ∀ G' H' x, Ex G G' → Lw H0 G0 p ls G' H' → FrAt T.frac.C G' x (fr n d) → Q (.ref x) H') : ∀ x dx, H x = none → H dx = none → dx ≠ x →
      sp_f_init T (.ref x :: [.int n, .int d]) (upd (upd H dx (.own x)) x (.ins T.frac.C dx [])) (fun v H2 => v = .non ∧ Q (.ref x) H2) E := fun x dx hx hd ne =>
  ⟨n, d, call_make lw ⟨rfl, bd⟩ (fun G' H' x e l h => k G' H' x e l h.2.2) (fun G' H' C q e l h => by
    rcases h with ⟨z, _⟩ | ⟨_, z, _⟩
    · exact (d0 z).elim
    · exact (m0 z).elim) x dx hx hd ne⟩

/-! ### ratio -/
theorem sc_ratio : FnScope ["num", "den"] ["num", "den"] (defScope s_ratio) := ⟨rfl, rfl, rfl, by decide +kernel, rfl, by decide +kernel, by decide +kernel⟩
def sp_ratio (T : Tx K mg) : Sp := fun vs H Q E => ∃ n d : Int, RaiseN (fun vs _ => vs = [.int n, .int d] ∧ d.natAbs < 2 ^ 8000) (fun _ _ G' v => d ≠ 0 ∧ Nm T.frac.C G' v (fr n d)) (fun _ G' C e => d = 0 ∧ ErAt T .div G' C e) vs H Q E
theorem ok_ratio (T : Tx K mg) : FnOk P w K mg base (L2N.CX P w) 5 T.ratio.f T.ratio.fd ["num", "den"] (sp_ratio T) := by
  refine fun_okX T.ratio.F sc_ratio (fun vs H Q E h => ?_) (fun cdv A outer s H vs Q E hr h => ?_)
  · obtain ⟨n, d, G, _, ⟨rfl, _⟩, _⟩ := h
    rfl
  · obtain ⟨n, d, G, lw, ⟨rfl, bd⟩, k, kx⟩ := h
    refine ⟨_, (pss_cons (ps_if (pt_cmpR op_eq (pv 1) pe_int (nomark _)) (pss_one (L2N.ps_raise rfl (L2N.takes_of rfl rfl rfl rfl) (UfR.pmk_own0N PySem.F.excBase_ValueError T.cDiv.q T.cDiv.g T.cDiv.kC T.cDiv.r rfl))) pss_nil)
      (pss_cons (ps_if (pt_cmpR op_eq (pe_op op_modN (pv 0) (pv 1)) pe_int (nomark _)) (pss_one (ps_ret (pe_op UfR.op_fdivZ (pv 0) (pv 1)))) pss_nil)
      (pss_one (ps_ret (UfR.pe_makeS T.fracMk (ok_f_init T) (hr.mono (by decide)) rfl T.frac.g T.f_init.b (fun σ => L2N.passAt (L2N.takes_of rfl rfl rfl rfl) σ) (pa_cons (pv 0) (pa_cons (pv 1) pa_nil))))))), ?_⟩
    refine ⟨_, rfl, rfl, _, rfl, ite2 (fun h1 => ?_) (fun h1 => ?_)⟩
    · exact kx _ _ _ _ lw ⟨by simpa using h1, rfl, rfl⟩
    have d0 : d ≠ 0 := by simpa using h1
    refine ⟨_, rfl, _, rfl, _, _, rfl, rfl, d0, rfl, _, rfl, ite2 (fun h2 => ?_) (fun h2 => ?_)⟩
    · have m0 : n.fmod d = 0 := by simpa using h2
      refine ⟨_, rfl, _, rfl, _, _, rfl, rfl, ⟨d0, lg bd (by decide) (by decide)⟩, k _ _ _ lw ⟨d0, .inl ⟨(fr_whole d0).mpr m0, ?_⟩⟩⟩
      rw [fr_int d0 m0]
    · have m0 : n.fmod d ≠ 0 := by simpa using h2
      refine ⟨_, rfl, _, rfl, call_frac lw bd d0 m0 fun G' H' x e lw hx => k _ _ _ lw ⟨d0, .inr ⟨fun z => m0 ((fr_whole d0).mp z), x, rfl, hx⟩⟩⟩
theorem call_ratio {T : Tx K mg} {H0 G0 G H : Hp} {p : Option (Addr × Addr × Nat)} {ls : List (Addr × HO)} {Q : VK} {E : XK} {n d : Int} (lw : Lw H0 G0 p ls G H) (bd : d.natAbs < 2 ^ 8000) (d0 : d ≠ 0)
    (k : ∀ G' H' v, Ex G G' → Lw H0 G0 p ls G' H' → Nm T.frac.C G' v (fr n d) → Q v H') : sp_ratio T [.int n, .int d] H Q E :=
  ⟨n, d, call_raiseN lw ⟨rfl, bd⟩ (fun G' H' v e l h => k G' H' v e l h.2) fun G' H' C q e l h => (d0 h.1).elim⟩

end
end K01

namespace K01
open PySem PySem.Spec PyProof.Rows L2 UfG UfT UfR UfO UfI UfQ UfN
open Evl (Ex)
theorem lk_num {x y : V} : List.lookup ("num" : Str) [("num", x), ("den", y)] = some x := rfl
theorem lk_den {x y : V} : List.lookup ("den" : Str) [("num", x), ("den", y)] = some y := rfl
theorem sm_mul {x y : Int} (hx : x.natAbs < 2 ^ 4000) (hy : y.natAbs < 2 ^ 4000) : CMulW x y := wide_mul (a := 4000) (b := 4000) hx hy (by decide) (by decide) (by decide)
theorem sm_den {b : Nat} {q : Rat} (h : Sm b q) : (q.den : Int).natAbs < 2 ^ b := by
  rw [Int.natAbs_natCast]
  exact h.2
theorem dd_lt {q1 q2 : Rat} (h1 : Sm 4000 q1) (h2 : Sm 4000 q2) : ((q1.den : Int) * q2.den).natAbs < 2 ^ 8000 := wide_lt (a := 4000) (b := 4000) (sm_den h1) (sm_den h2)
theorem d_lt {q1 : Rat} (h1 : Sm 4000 q1) : (q1.den : Int).natAbs < 2 ^ 8000 := Nat.lt_of_lt_of_le (sm_den h1) (Nat.pow_le_pow_right (by decide) (by decide))
theorem int_add {a b : Rat} (h : b.den = 1) : fr (a.num + b.num * a.den) a.den = a + b := by
  rw [q_add, h]
  congr 1
  · rw [Int.natCast_one, Int.mul_one]
  · rw [Int.natCast_one, Int.mul_one]
theorem int_sub {a b : Rat} (h : b.den = 1) : fr (a.num - b.num * a.den) a.den = a - b := by
  rw [q_sub, h]
  congr 1
  · rw [Int.natCast_one, Int.mul_one]
  · rw [Int.natCast_one, Int.mul_one]
theorem int_rsub {a b : Rat} (h : b.den = 1) : fr (b.num * a.den - a.num) a.den = b - a := by
  rw [q_sub, h]
  congr 1
  · rw [Int.natCast_one, Int.mul_one]
  · rw [Int.natCast_one, Int.one_mul]
theorem int_mul {a b : Rat} (h : b.den = 1) : fr (a.num * b.num) a.den = a * b := by
  rw [q_mul, h]
  congr 1
  rw [Int.natCast_one, Int.mul_one]
theorem neg_fr (a : Rat) : fr (-a.num) a.den = -a := by
  show Rat.divInt (-a.num) a.den = -a
  rw [← Rat.neg_divInt]
  exact congrArg _ (q_fr a)
theorem add_den {a b : Rat} (h : b.den = 1) : (a + b).den = a.den := by
  rw [q_int h]
  exact add_int_den a b.num
theorem sub_den {a b : Rat} (h : b.den = 1) : (a - b).den = a.den := by
  rw [Rat.sub_eq_add_neg]
  exact add_den (by rw [Rat.neg_den]; exact h)
theorem rsub_den {a b : Rat} (h : b.den = 1) : (b - a).den = a.den := by
  have e : b - a = -(a - b) := by grind
  rw [e, Rat.neg_den]
  exact sub_den h
theorem not_whole {n : Int} {d : Nat} (d0 : d ≠ 0) (h : (fr n d).den ≠ 1) : n.fmod d ≠ 0 := fun z => h ((fr_whole (by omega)).mpr z)
theorem mem_den {q : Rat} : q.den ≠ 0 := by
  have := q.den_pos
  omega
section
variable {P : Program} {w : World} {K : PySem.W.Frag} {mg : Str → Option Value} {base : Heap}
def isF (T : Tx K mg) := T.frac.C

theorem sc_f_add : FnScope ["self", "other"] ["self", "other"] (defScope s_f_add) := ⟨rfl, rfl, rfl, by decide +kernel, rfl, by decide +kernel, by decide +kernel⟩
def sp_f_add (T : Tx K mg) : Sp := fun vs H Q E => ∃ q1 q2 : Rat, PureSp (fun vs G => ∃ a y, vs = [.ref a, y] ∧ FrAt T.frac.C G a q1 ∧ (Nm T.frac.C G y q2) ∧ q1.den ≠ 1 ∧ Sm 4000 q1 ∧ Sm 4000 q2) (fun _ _ G' v => Nm T.frac.C G' v (q1 + q2)) vs H Q E
theorem ok_f_add (T : Tx K mg) : FnOk P w K mg base CX0 7 T.f_add.f T.f_add.fd ["self", "other"] (sp_f_add T) := by
  refine T.f_add.F.ok sc_f_add (fun vs H Q E h => ?_) (fun cdv A outer s H vs Q E hr h => ?_)
  · obtain ⟨q1, q2, G, _, ⟨a, y, rfl, _⟩, _⟩ := h
    rfl
  · obtain ⟨q1, q2, G, lw, ⟨a, y, rfl, ⟨dx, ha⟩, hy, n1, s1, s2⟩, k⟩ := h
    have Ha := lw.gh _ _ ha
    refine ⟨_, (pss_cons (ps_if (pt_val (pe_callB (UfK.call_isiK' (K := K)) (by rfl) T.z_isinstance (by decide +kernel) (pa_cons (pv 1) (pa_cons (pe_glob (v := .ref T.frac.C) rfl T.frac.g rfl) pa_nil)))) (pss_one (ps_ret (pe_callS (ok_ratio T) (hr.mono (by decide)) rfl T.ratio.g T.ratio.F.kp T.ratio.b (fun σ => L2N.passAt UfT.takesN0 σ) (pa_cons (pe_op op_add (pe_op op_mulW (UfK.pe_fldK (K := K) (pv 0) rfl) (UfK.pe_fldK (K := K) (pv 1) rfl)) (pe_op op_mulW (UfK.pe_fldK (K := K) (pv 1) rfl) (UfK.pe_fldK (K := K) (pv 0) rfl))) (pa_cons (pe_op op_mulW (UfK.pe_fldK (K := K) (pv 0) rfl) (UfK.pe_fldK (K := K) (pv 1) rfl)) pa_nil))))) pss_nil)
      (pss_cons (ps_if (pt_val (pe_callB (UfK.call_isiK' (K := K)) (by rfl) T.z_isinstance (by decide +kernel) (pa_cons (pv 1) (pa_cons (pe_bltn (by rfl) T.z_int (by decide +kernel) (show RelV (.ty "int") _ from rfl)) pa_nil)))) (pss_one (ps_ret (UfR.pe_makeS T.fracMk (ok_f_init T) (hr.mono (by decide)) rfl T.frac.g T.f_init.b (fun σ => L2N.passAt UfT.takesN0 σ) (pa_cons (pe_op op_add (UfK.pe_fldK (K := K) (pv 0) rfl) (pe_op op_mulW (pv 1) (UfK.pe_fldK (K := K) (pv 0) rfl))) (pa_cons (UfK.pe_fldK (K := K) (pv 0) rfl) pa_nil))))) pss_nil)
      (pss_one UfR.ps_never))), ?_⟩
    rcases hy with ⟨h2, rfl⟩ | ⟨h2, b, rfl, dy, hb⟩
    · refine ⟨_, rfl, .int q2.num, .ref T.frac.C, .type "int", .ref T.frac.C, false, rfl, .own _, .base (.int _), T.kIF, false, rfl, iteF ⟨_, rfl, .int q2.num, .ty "int", .type "int", .type "int", true, rfl, .ty _, .base (.int _), kit_ty rfl, true, rfl, iteT ?_⟩⟩
      refine ⟨_, rfl, a, T.frac.C, dx, _, _, rfl, Ha, T.frac.c, T.nNum, lk_num, _, rfl, _, rfl, a, T.frac.C, dx, _, _, rfl, Ha, T.frac.c, T.nDen, lk_den, _, _, rfl, rfl, sm_mul s2.1 (sm_den s1), _, _, rfl, rfl, _, rfl, a, T.frac.C, dx, _, _, rfl, Ha, T.frac.c, T.nDen, lk_den, ?_⟩
      have e := int_add (a := q1) (b := q2)
      have e := e h2
      have dn := add_den (a := q1) (b := q2)
      have dn := dn h2
      refine call_frac lw (d_lt s1) (den_ne q1) (not_whole mem_den (by rw [e, dn]; exact n1)) fun G' H' x e1 lw hx => k _ _ _ lw ?_
      rw [e] at hx
      exact .inr ⟨by rw [dn]; exact n1, x, rfl, hx⟩
    · have Hb := lw.gh _ _ hb
      refine ⟨_, rfl, .ref b, .ref T.frac.C, .ref T.frac.C, .ref T.frac.C, true, rfl, .own _, T.frac.ty Hb, T.kFF, true, rfl, iteT ?_⟩
      refine ⟨_, rfl, a, T.frac.C, dx, _, _, rfl, Ha, T.frac.c, T.nNum, lk_num, _, rfl, b, T.frac.C, dy, _, _, rfl, Hb, T.frac.c, T.nDen, lk_den, _, _, rfl, rfl, sm_mul s1.1 (sm_den s2), _, rfl, b, T.frac.C, dy, _, _, rfl, Hb, T.frac.c, T.nNum, lk_num, _, rfl, a, T.frac.C, dx, _, _, rfl, Ha, T.frac.c, T.nDen, lk_den, _, _, rfl, rfl, sm_mul s2.1 (sm_den s1), _, _, rfl, rfl, _, rfl, a, T.frac.C, dx, _, _, rfl, Ha, T.frac.c, T.nDen, lk_den, _, rfl, b, T.frac.C, dy, _, _, rfl, Hb, T.frac.c, T.nDen, lk_den, _, _, rfl, rfl, sm_mul (sm_den s1) (sm_den s2), ?_⟩
      refine call_ratio lw (dd_lt s1 s2) (Int.mul_ne_zero (den_ne q1) (den_ne q2)) fun G' H' v e1 lw hx => k _ _ _ lw ?_
      rw [← q_add] at hx
      exact hx
theorem sc_f_radd : FnScope ["self", "other"] ["self", "other"] (defScope s_f_radd) := ⟨rfl, rfl, rfl, by decide +kernel, rfl, by decide +kernel, by decide +kernel⟩
def sp_f_radd (T : Tx K mg) : Sp := fun vs H Q E => ∃ q1 q2 : Rat, PureSp (fun vs G => ∃ a y, vs = [.ref a, y] ∧ FrAt T.frac.C G a q1 ∧ (q2.den = 1 ∧ y = .int q2.num) ∧ q1.den ≠ 1 ∧ Sm 4000 q1 ∧ Sm 4000 q2) (fun _ _ G' v => Nm T.frac.C G' v (q2 + q1)) vs H Q E
theorem ok_f_radd (T : Tx K mg) : FnOk P w K mg base CX0 7 T.f_radd.f T.f_radd.fd ["self", "other"] (sp_f_radd T) := by
  refine T.f_radd.F.ok sc_f_radd (fun vs H Q E h => ?_) (fun cdv A outer s H vs Q E hr h => ?_)
  · obtain ⟨q1, q2, G, _, ⟨a, y, rfl, _⟩, _⟩ := h
    rfl
  · obtain ⟨q1, q2, G, lw, ⟨a, y, rfl, ⟨dx, ha⟩, hy, n1, s1, s2⟩, k⟩ := h
    have Ha := lw.gh _ _ ha
    refine ⟨_, (pss_cons (ps_if (pt_val (pe_callB (UfK.call_isiK' (K := K)) (by rfl) T.z_isinstance (by decide +kernel) (pa_cons (pv 1) (pa_cons (pe_bltn (by rfl) T.z_int (by decide +kernel) (show RelV (.ty "int") _ from rfl)) pa_nil)))) (pss_one (ps_ret (UfR.pe_makeS T.fracMk (ok_f_init T) (hr.mono (by decide)) rfl T.frac.g T.f_init.b (fun σ => L2N.passAt UfT.takesN0 σ) (pa_cons (pe_op op_add (UfK.pe_fldK (K := K) (pv 0) rfl) (pe_op op_mulW (pv 1) (UfK.pe_fldK (K := K) (pv 0) rfl))) (pa_cons (UfK.pe_fldK (K := K) (pv 0) rfl) pa_nil))))) pss_nil)
      (pss_one UfR.ps_never)), ?_⟩
    obtain ⟨h2, rfl⟩ := hy
    refine ⟨_, rfl, .int q2.num, .ty "int", .type "int", .type "int", true, rfl, .ty _, .base (.int _), kit_ty rfl, true, rfl, iteT ?_⟩
    refine ⟨_, rfl, a, T.frac.C, dx, _, _, rfl, Ha, T.frac.c, T.nNum, lk_num, _, rfl, _, rfl, a, T.frac.C, dx, _, _, rfl, Ha, T.frac.c, T.nDen, lk_den, _, _, rfl, rfl, sm_mul s2.1 (sm_den s1), _, _, rfl, rfl, _, rfl, a, T.frac.C, dx, _, _, rfl, Ha, T.frac.c, T.nDen, lk_den, ?_⟩
    have e := int_add (a := q1) (b := q2)
    have e := e h2
    have dn := add_den (a := q1) (b := q2)
    have dn := dn h2
    refine call_frac lw (d_lt s1) (den_ne q1) (not_whole mem_den (by rw [e, dn]; exact n1)) fun G' H' x e1 lw hx => k _ _ _ lw ?_
    rw [e] at hx
    show Nm T.frac.C G' (.ref x) (q2 + q1)
    rw [Rat.add_comm q2 q1]
    exact .inr ⟨by rw [dn]; exact n1, x, rfl, hx⟩
theorem sc_f_sub : FnScope ["self", "other"] ["self", "other"] (defScope s_f_sub) := ⟨rfl, rfl, rfl, by decide +kernel, rfl, by decide +kernel, by decide +kernel⟩
def sp_f_sub (T : Tx K mg) : Sp := fun vs H Q E => ∃ q1 q2 : Rat, PureSp (fun vs G => ∃ a y, vs = [.ref a, y] ∧ FrAt T.frac.C G a q1 ∧ (Nm T.frac.C G y q2) ∧ q1.den ≠ 1 ∧ Sm 4000 q1 ∧ Sm 4000 q2) (fun _ _ G' v => Nm T.frac.C G' v (q1 - q2)) vs H Q E
theorem ok_f_sub (T : Tx K mg) : FnOk P w K mg base CX0 7 T.f_sub.f T.f_sub.fd ["self", "other"] (sp_f_sub T) := by
  refine T.f_sub.F.ok sc_f_sub (fun vs H Q E h => ?_) (fun cdv A outer s H vs Q E hr h => ?_)
  · obtain ⟨q1, q2, G, _, ⟨a, y, rfl, _⟩, _⟩ := h
    rfl
  · obtain ⟨q1, q2, G, lw, ⟨a, y, rfl, ⟨dx, ha⟩, hy, n1, s1, s2⟩, k⟩ := h
    have Ha := lw.gh _ _ ha
    refine ⟨_, (pss_cons (ps_if (pt_val (pe_callB (UfK.call_isiK' (K := K)) (by rfl) T.z_isinstance (by decide +kernel) (pa_cons (pv 1) (pa_cons (pe_glob (v := .ref T.frac.C) rfl T.frac.g rfl) pa_nil)))) (pss_one (ps_ret (pe_callS (ok_ratio T) (hr.mono (by decide)) rfl T.ratio.g T.ratio.F.kp T.ratio.b (fun σ => L2N.passAt UfT.takesN0 σ) (pa_cons (pe_op op_sub (pe_op op_mulW (UfK.pe_fldK (K := K) (pv 0) rfl) (UfK.pe_fldK (K := K) (pv 1) rfl)) (pe_op op_mulW (UfK.pe_fldK (K := K) (pv 1) rfl) (UfK.pe_fldK (K := K) (pv 0) rfl))) (pa_cons (pe_op op_mulW (UfK.pe_fldK (K := K) (pv 0) rfl) (UfK.pe_fldK (K := K) (pv 1) rfl)) pa_nil))))) pss_nil)
      (pss_cons (ps_if (pt_val (pe_callB (UfK.call_isiK' (K := K)) (by rfl) T.z_isinstance (by decide +kernel) (pa_cons (pv 1) (pa_cons (pe_bltn (by rfl) T.z_int (by decide +kernel) (show RelV (.ty "int") _ from rfl)) pa_nil)))) (pss_one (ps_ret (UfR.pe_makeS T.fracMk (ok_f_init T) (hr.mono (by decide)) rfl T.frac.g T.f_init.b (fun σ => L2N.passAt UfT.takesN0 σ) (pa_cons (pe_op op_sub (UfK.pe_fldK (K := K) (pv 0) rfl) (pe_op op_mulW (pv 1) (UfK.pe_fldK (K := K) (pv 0) rfl))) (pa_cons (UfK.pe_fldK (K := K) (pv 0) rfl) pa_nil))))) pss_nil)
      (pss_one UfR.ps_never))), ?_⟩
    rcases hy with ⟨h2, rfl⟩ | ⟨h2, b, rfl, dy, hb⟩
    · refine ⟨_, rfl, .int q2.num, .ref T.frac.C, .type "int", .ref T.frac.C, false, rfl, .own _, .base (.int _), T.kIF, false, rfl, iteF ⟨_, rfl, .int q2.num, .ty "int", .type "int", .type "int", true, rfl, .ty _, .base (.int _), kit_ty rfl, true, rfl, iteT ?_⟩⟩
      refine ⟨_, rfl, a, T.frac.C, dx, _, _, rfl, Ha, T.frac.c, T.nNum, lk_num, _, rfl, _, rfl, a, T.frac.C, dx, _, _, rfl, Ha, T.frac.c, T.nDen, lk_den, _, _, rfl, rfl, sm_mul s2.1 (sm_den s1), _, _, rfl, rfl, _, rfl, a, T.frac.C, dx, _, _, rfl, Ha, T.frac.c, T.nDen, lk_den, ?_⟩
      have e := int_sub (a := q1) (b := q2)
      have e := e h2
      have dn := sub_den (a := q1) (b := q2)
      have dn := dn h2
      refine call_frac lw (d_lt s1) (den_ne q1) (not_whole mem_den (by rw [e, dn]; exact n1)) fun G' H' x e1 lw hx => k _ _ _ lw ?_
      rw [e] at hx
      exact .inr ⟨by rw [dn]; exact n1, x, rfl, hx⟩
    · have Hb := lw.gh _ _ hb
      refine ⟨_, rfl, .ref b, .ref T.frac.C, .ref T.frac.C, .ref T.frac.C, true, rfl, .own _, T.frac.ty Hb, T.kFF, true, rfl, iteT ?_⟩
      refine ⟨_, rfl, a, T.frac.C, dx, _, _, rfl, Ha, T.frac.c, T.nNum, lk_num, _, rfl, b, T.frac.C, dy, _, _, rfl, Hb, T.frac.c, T.nDen, lk_den, _, _, rfl, rfl, sm_mul s1.1 (sm_den s2), _, rfl, b, T.frac.C, dy, _, _, rfl, Hb, T.frac.c, T.nNum, lk_num, _, rfl, a, T.frac.C, dx, _, _, rfl, Ha, T.frac.c, T.nDen, lk_den, _, _, rfl, rfl, sm_mul s2.1 (sm_den s1), _, _, rfl, rfl, _, rfl, a, T.frac.C, dx, _, _, rfl, Ha, T.frac.c, T.nDen, lk_den, _, rfl, b, T.frac.C, dy, _, _, rfl, Hb, T.frac.c, T.nDen, lk_den, _, _, rfl, rfl, sm_mul (sm_den s1) (sm_den s2), ?_⟩
      refine call_ratio lw (dd_lt s1 s2) (Int.mul_ne_zero (den_ne q1) (den_ne q2)) fun G' H' v e1 lw hx => k _ _ _ lw ?_
      rw [← q_sub] at hx
      exact hx
theorem sc_f_rsub : FnScope ["self", "other"] ["self", "other"] (defScope s_f_rsub) := ⟨rfl, rfl, rfl, by decide +kernel, rfl, by decide +kernel, by decide +kernel⟩
def sp_f_rsub (T : Tx K mg) : Sp := fun vs H Q E => ∃ q1 q2 : Rat, PureSp (fun vs G => ∃ a y, vs = [.ref a, y] ∧ FrAt T.frac.C G a q1 ∧ (q2.den = 1 ∧ y = .int q2.num) ∧ q1.den ≠ 1 ∧ Sm 4000 q1 ∧ Sm 4000 q2) (fun _ _ G' v => Nm T.frac.C G' v (q2 - q1)) vs H Q E
theorem ok_f_rsub (T : Tx K mg) : FnOk P w K mg base CX0 7 T.f_rsub.f T.f_rsub.fd ["self", "other"] (sp_f_rsub T) := by
  refine T.f_rsub.F.ok sc_f_rsub (fun vs H Q E h => ?_) (fun cdv A outer s H vs Q E hr h => ?_)
  · obtain ⟨q1, q2, G, _, ⟨a, y, rfl, _⟩, _⟩ := h
    rfl
  · obtain ⟨q1, q2, G, lw, ⟨a, y, rfl, ⟨dx, ha⟩, hy, n1, s1, s2⟩, k⟩ := h
    have Ha := lw.gh _ _ ha
    refine ⟨_, (pss_cons (ps_if (pt_val (pe_callB (UfK.call_isiK' (K := K)) (by rfl) T.z_isinstance (by decide +kernel) (pa_cons (pv 1) (pa_cons (pe_bltn (by rfl) T.z_int (by decide +kernel) (show RelV (.ty "int") _ from rfl)) pa_nil)))) (pss_one (ps_ret (UfR.pe_makeS T.fracMk (ok_f_init T) (hr.mono (by decide)) rfl T.frac.g T.f_init.b (fun σ => L2N.passAt UfT.takesN0 σ) (pa_cons (pe_op op_sub (pe_op op_mulW (pv 1) (UfK.pe_fldK (K := K) (pv 0) rfl)) (UfK.pe_fldK (K := K) (pv 0) rfl)) (pa_cons (UfK.pe_fldK (K := K) (pv 0) rfl) pa_nil))))) pss_nil)
      (pss_one UfR.ps_never)), ?_⟩
    obtain ⟨h2, rfl⟩ := hy
    refine ⟨_, rfl, .int q2.num, .ty "int", .type "int", .type "int", true, rfl, .ty _, .base (.int _), kit_ty rfl, true, rfl, iteT ?_⟩
    refine ⟨_, rfl, _, rfl, a, T.frac.C, dx, _, _, rfl, Ha, T.frac.c, T.nDen, lk_den, _, _, rfl, rfl, sm_mul s2.1 (sm_den s1), _, rfl, a, T.frac.C, dx, _, _, rfl, Ha, T.frac.c, T.nNum, lk_num, _, _, rfl, rfl, _, rfl, a, T.frac.C, dx, _, _, rfl, Ha, T.frac.c, T.nDen, lk_den, ?_⟩
    have e := int_rsub (a := q1) (b := q2)
    have e := e h2
    have dn := rsub_den (a := q1) (b := q2)
    have dn := dn h2
    refine call_frac lw (d_lt s1) (den_ne q1) (not_whole mem_den (by rw [e, dn]; exact n1)) fun G' H' x e1 lw hx => k _ _ _ lw ?_
    rw [e] at hx
    exact .inr ⟨by rw [dn]; exact n1, x, rfl, hx⟩
theorem sc_f_mul : FnScope ["self", "other"] ["self", "other"] (defScope s_f_mul) := ⟨rfl, rfl, rfl, by decide +kernel, rfl, by decide +kernel, by decide +kernel⟩
def sp_f_mul (T : Tx K mg) : Sp := fun vs H Q E => ∃ q1 q2 : Rat, PureSp (fun vs G => ∃ a y, vs = [.ref a, y] ∧ FrAt T.frac.C G a q1 ∧ (Nm T.frac.C G y q2) ∧ q1.den ≠ 1 ∧ Sm 4000 q1 ∧ Sm 4000 q2) (fun _ _ G' v => Nm T.frac.C G' v (q1 * q2)) vs H Q E
theorem ok_f_mul (T : Tx K mg) : FnOk P w K mg base CX0 7 T.f_mul.f T.f_mul.fd ["self", "other"] (sp_f_mul T) := by
  refine T.f_mul.F.ok sc_f_mul (fun vs H Q E h => ?_) (fun cdv A outer s H vs Q E hr h => ?_)
  · obtain ⟨q1, q2, G, _, ⟨a, y, rfl, _⟩, _⟩ := h
    rfl
  · obtain ⟨q1, q2, G, lw, ⟨a, y, rfl, ⟨dx, ha⟩, hy, n1, s1, s2⟩, k⟩ := h
    have Ha := lw.gh _ _ ha
    refine ⟨_, (pss_cons (ps_if (pt_val (pe_callB (UfK.call_isiK' (K := K)) (by rfl) T.z_isinstance (by decide +kernel) (pa_cons (pv 1) (pa_cons (pe_glob (v := .ref T.frac.C) rfl T.frac.g rfl) pa_nil)))) (pss_one (ps_ret (pe_callS (ok_ratio T) (hr.mono (by decide)) rfl T.ratio.g T.ratio.F.kp T.ratio.b (fun σ => L2N.passAt UfT.takesN0 σ) (pa_cons (pe_op op_mulW (UfK.pe_fldK (K := K) (pv 0) rfl) (UfK.pe_fldK (K := K) (pv 1) rfl)) (pa_cons (pe_op op_mulW (UfK.pe_fldK (K := K) (pv 0) rfl) (UfK.pe_fldK (K := K) (pv 1) rfl)) pa_nil))))) pss_nil)
      (pss_cons (ps_if (pt_val (pe_callB (UfK.call_isiK' (K := K)) (by rfl) T.z_isinstance (by decide +kernel) (pa_cons (pv 1) (pa_cons (pe_bltn (by rfl) T.z_int (by decide +kernel) (show RelV (.ty "int") _ from rfl)) pa_nil)))) (pss_one (ps_ret (pe_callS (ok_ratio T) (hr.mono (by decide)) rfl T.ratio.g T.ratio.F.kp T.ratio.b (fun σ => L2N.passAt UfT.takesN0 σ) (pa_cons (pe_op op_mulW (UfK.pe_fldK (K := K) (pv 0) rfl) (pv 1)) (pa_cons (UfK.pe_fldK (K := K) (pv 0) rfl) pa_nil))))) pss_nil)
      (pss_one UfR.ps_never))), ?_⟩
    rcases hy with ⟨h2, rfl⟩ | ⟨h2, b, rfl, dy, hb⟩
    · refine ⟨_, rfl, .int q2.num, .ref T.frac.C, .type "int", .ref T.frac.C, false, rfl, .own _, .base (.int _), T.kIF, false, rfl, iteF ⟨_, rfl, .int q2.num, .ty "int", .type "int", .type "int", true, rfl, .ty _, .base (.int _), kit_ty rfl, true, rfl, iteT ?_⟩⟩
      refine ⟨_, rfl, a, T.frac.C, dx, _, _, rfl, Ha, T.frac.c, T.nNum, lk_num, _, rfl, _, _, rfl, rfl, sm_mul s1.1 s2.1, _, rfl, a, T.frac.C, dx, _, _, rfl, Ha, T.frac.c, T.nDen, lk_den, ?_⟩
      refine call_ratio lw (d_lt s1) (den_ne q1) fun G' H' v e1 lw hx => k _ _ _ lw ?_
      have e := int_mul (a := q1) (b := q2) h2
      rw [e] at hx
      exact hx
    · have Hb := lw.gh _ _ hb
      refine ⟨_, rfl, .ref b, .ref T.frac.C, .ref T.frac.C, .ref T.frac.C, true, rfl, .own _, T.frac.ty Hb, T.kFF, true, rfl, iteT ?_⟩
      refine ⟨_, rfl, a, T.frac.C, dx, _, _, rfl, Ha, T.frac.c, T.nNum, lk_num, _, rfl, b, T.frac.C, dy, _, _, rfl, Hb, T.frac.c, T.nNum, lk_num, _, _, rfl, rfl, sm_mul s1.1 s2.1, _, rfl, a, T.frac.C, dx, _, _, rfl, Ha, T.frac.c, T.nDen, lk_den, _, rfl, b, T.frac.C, dy, _, _, rfl, Hb, T.frac.c, T.nDen, lk_den, _, _, rfl, rfl, sm_mul (sm_den s1) (sm_den s2), ?_⟩
      refine call_ratio lw (dd_lt s1 s2) (Int.mul_ne_zero (den_ne q1) (den_ne q2)) fun G' H' v e1 lw hx => k _ _ _ lw ?_
      rw [← q_mul] at hx
      exact hx
theorem sc_f_rmul : FnScope ["self", "other"] ["self", "other"] (defScope s_f_rmul) := ⟨rfl, rfl, rfl, by decide +kernel, rfl, by decide +kernel, by decide +kernel⟩
def sp_f_rmul (T : Tx K mg) : Sp := fun vs H Q E => ∃ q1 q2 : Rat, PureSp (fun vs G => ∃ a y, vs = [.ref a, y] ∧ FrAt T.frac.C G a q1 ∧ (q2.den = 1 ∧ y = .int q2.num) ∧ q1.den ≠ 1 ∧ Sm 4000 q1 ∧ Sm 4000 q2) (fun _ _ G' v => Nm T.frac.C G' v (q2 * q1)) vs H Q E
theorem ok_f_rmul (T : Tx K mg) : FnOk P w K mg base CX0 7 T.f_rmul.f T.f_rmul.fd ["self", "other"] (sp_f_rmul T) := by
  refine T.f_rmul.F.ok sc_f_rmul (fun vs H Q E h => ?_) (fun cdv A outer s H vs Q E hr h => ?_)
  · obtain ⟨q1, q2, G, _, ⟨a, y, rfl, _⟩, _⟩ := h
    rfl
  · obtain ⟨q1, q2, G, lw, ⟨a, y, rfl, ⟨dx, ha⟩, hy, n1, s1, s2⟩, k⟩ := h
    have Ha := lw.gh _ _ ha
    refine ⟨_, (pss_cons (ps_if (pt_val (pe_callB (UfK.call_isiK' (K := K)) (by rfl) T.z_isinstance (by decide +kernel) (pa_cons (pv 1) (pa_cons (pe_bltn (by rfl) T.z_int (by decide +kernel) (show RelV (.ty "int") _ from rfl)) pa_nil)))) (pss_one (ps_ret (pe_callS (ok_ratio T) (hr.mono (by decide)) rfl T.ratio.g T.ratio.F.kp T.ratio.b (fun σ => L2N.passAt UfT.takesN0 σ) (pa_cons (pe_op op_mulW (UfK.pe_fldK (K := K) (pv 0) rfl) (pv 1)) (pa_cons (UfK.pe_fldK (K := K) (pv 0) rfl) pa_nil))))) pss_nil)
      (pss_one UfR.ps_never)), ?_⟩
    obtain ⟨h2, rfl⟩ := hy
    refine ⟨_, rfl, .int q2.num, .ty "int", .type "int", .type "int", true, rfl, .ty _, .base (.int _), kit_ty rfl, true, rfl, iteT ?_⟩
    refine ⟨_, rfl, a, T.frac.C, dx, _, _, rfl, Ha, T.frac.c, T.nNum, lk_num, _, rfl, _, _, rfl, rfl, sm_mul s1.1 s2.1, _, rfl, a, T.frac.C, dx, _, _, rfl, Ha, T.frac.c, T.nDen, lk_den, ?_⟩
    refine call_ratio lw (d_lt s1) (den_ne q1) fun G' H' v e1 lw hx => k _ _ _ lw ?_
    have e := int_mul (a := q1) (b := q2) h2
    rw [e] at hx
    show Nm T.frac.C G' v (q2 * q1)
    rw [Rat.mul_comm q2 q1]
    exact hx
/-! ### -x, x == y -/
theorem sc_f_neg : FnScope ["self"] ["self"] (defScope s_f_neg) := ⟨rfl, rfl, rfl, by decide +kernel, rfl, by decide +kernel, by decide +kernel⟩
def sp_f_neg (T : Tx K mg) : Sp := fun vs H Q E => ∃ q1 : Rat, PureSp (fun vs G => ∃ a, vs = [.ref a] ∧ FrAt T.frac.C G a q1 ∧ q1.den ≠ 1 ∧ Sm 4000 q1) (fun _ _ G' v => Nm T.frac.C G' v (-q1)) vs H Q E
theorem ok_f_neg (T : Tx K mg) : FnOk P w K mg base CX0 7 T.f_neg.f T.f_neg.fd ["self"] (sp_f_neg T) := by
  refine T.f_neg.F.ok sc_f_neg (fun vs H Q E h => ?_) (fun cdv A outer s H vs Q E hr h => ?_)
  · obtain ⟨q1, G, _, ⟨a, rfl, _⟩, _⟩ := h
    rfl
  · obtain ⟨q1, G, lw, ⟨a, rfl, ⟨dx, ha⟩, n1, s1⟩, k⟩ := h
    have Ha := lw.gh _ _ ha
    refine ⟨_, (pss_one (ps_ret (UfR.pe_makeS T.fracMk (ok_f_init T) (hr.mono (by decide)) rfl T.frac.g T.f_init.b (fun σ => L2N.passAt UfT.takesN0 σ) (pa_cons (pe_un un_neg (UfK.pe_fldK (K := K) (pv 0) rfl)) (pa_cons (UfK.pe_fldK (K := K) (pv 0) rfl) pa_nil))))), ?_⟩
    have e := neg_fr q1
    have dn := Rat.neg_den q1
    refine ⟨_, rfl, a, T.frac.C, dx, _, _, rfl, Ha, T.frac.c, T.nNum, lk_num, _, rfl, _, rfl, a, T.frac.C, dx, _, _, rfl, Ha, T.frac.c, T.nDen, lk_den, call_frac lw (d_lt s1) (den_ne q1) (not_whole mem_den (by rw [e, dn]; exact n1)) fun G' H' x e1 lw hx => k _ _ _ lw ?_⟩
    rw [e] at hx
    exact .inr ⟨by rw [dn]; exact n1, x, rfl, hx⟩
theorem sc_f_eq : FnScope ["self", "other"] ["self", "other"] (defScope s_f_eq) := ⟨rfl, rfl, rfl, by decide +kernel, rfl, by decide +kernel, by decide +kernel⟩
/-- what a Frac is compared with -/
inductive Oth where
  | num (q : Rat) | str (x : Str)
def Oth.at (F : Addr) (G : Hp) : Oth → V → Prop
  | .num q, v => Nm F G v q
  | .str x, v => v = .str x
def Oth.is (q : Rat) : Oth → Bool
  | .num r => decide (q = r)
  | .str _ => false
def sp_f_eq (T : Tx K mg) : Sp := fun vs H Q E => ∃ (q1 : Rat) (o : Oth), PureSp (fun vs G => ∃ a y, vs = [.ref a, y] ∧ FrAt T.frac.C G a q1 ∧ o.at T.frac.C G y ∧ q1.den ≠ 1) (fun _ _ _ v => v = .bl (o.is q1)) vs H Q E
theorem ok_f_eq (T : Tx K mg) : FnOk P w K mg base CX0 7 T.f_eq.f T.f_eq.fd ["self", "other"] (sp_f_eq T) := by
  refine T.f_eq.F.ok sc_f_eq (fun vs H Q E h => ?_) (fun cdv A outer s H vs Q E hr h => ?_)
  · obtain ⟨q1, o, G, _, ⟨a, y, rfl, _⟩, _⟩ := h
    rfl
  · obtain ⟨q1, o, G, lw, ⟨a, y, rfl, ⟨dx, ha⟩, hy, n1⟩, k⟩ := h
    have Ha := lw.gh _ _ ha
    refine ⟨_, (pss_one (ps_ret (pe_and (pe_callB (UfK.call_isiK' (K := K)) (by rfl) T.z_isinstance (by decide +kernel) (pa_cons (pv 1) (pa_cons (pe_glob (v := .ref T.frac.C) rfl T.frac.g rfl) pa_nil))) (pe_and (pe_cmpR op_eq (UfK.pe_fldK (K := K) (pv 0) rfl) (UfK.pe_fldK (K := K) (pv 1) rfl) (nomark _)) (pe_one (pe_cmpR op_eq (UfK.pe_fldK (K := K) (pv 0) rfl) (UfK.pe_fldK (K := K) (pv 1) rfl) (nomark _))))))), ?_⟩
    cases o with
    | str x =>
      cases (show y = .str x from hy)
      exact ⟨_, rfl, .str x, .ref T.frac.C, .type "str", .ref T.frac.C, false, rfl, .own _, .base (.str _), T.kSF, false, rfl, iteF (k _ _ _ lw rfl)⟩
    | num q2 =>
      rcases (show Nm T.frac.C G y q2 from hy) with ⟨h2, rfl⟩ | ⟨h2, b, rfl, dy, hb⟩
      · refine ⟨_, rfl, .int q2.num, .ref T.frac.C, .type "int", .ref T.frac.C, false, rfl, .own _, .base (.int _), T.kIF, false, rfl, iteF (k _ _ _ lw ?_)⟩
        show V.bl false = .bl (decide (q1 = q2))
        rw [decide_eq_false (fun z => n1 (by rw [z]; exact h2))]
      · have Hb := lw.gh _ _ hb
        refine ⟨_, rfl, .ref b, .ref T.frac.C, .ref T.frac.C, .ref T.frac.C, true, rfl, .own _, T.frac.ty Hb, T.kFF, true, rfl, iteT ?_⟩
        refine ⟨_, rfl, a, T.frac.C, dx, _, _, rfl, Ha, T.frac.c, T.nNum, lk_num, _, rfl, b, T.frac.C, dy, _, _, rfl, Hb, T.frac.c, T.nNum, lk_num, rfl, _, rfl, ite2 (fun h3 => ?_) (fun h3 => k _ _ _ lw ?_)⟩
        · refine ⟨_, rfl, a, T.frac.C, dx, _, _, rfl, Ha, T.frac.c, T.nDen, lk_den, _, rfl, b, T.frac.C, dy, _, _, rfl, Hb, T.frac.c, T.nDen, lk_den, rfl, k _ _ _ lw ?_⟩
          have en : q1.num = q2.num := by simpa using h3
          show V.bl (decide (V.int q1.den = V.int q2.den)) = .bl (decide (q1 = q2))
          congr 1
          rw [decide_eq_decide]
          constructor
          · intro z
            exact Rat.ext en (by injection z with z; omega)
          · intro z
            rw [z]
        · have en : q1.num ≠ q2.num := by simpa using h3
          show V.bl false = .bl (decide (q1 = q2))
          rw [decide_eq_false (fun z => en (by rw [z]))]

end
end K01

namespace K01
open PySem PySem.Spec PyProof.Rows L2 UfG UfT UfR UfO UfI UfQ UfN
open Evl (Ex)
section
variable {P : Program} {w : World} {K : PySem.W.Frag} {mg : Str → Option Value} {base : Heap}
/-! ### the operators on numbers -/
section
variable {T : Tx K mg} {H0 G0 G H : Hp} {p : Option (Addr × Addr × Nat)} {ls : List (Addr × HO)} {Q : VK} {x y : V} {q1 q2 : Rat}
theorem r_add (lw : Lw H0 G0 p ls G H) (hx : Nm T.frac.C G x q1) (hy : Nm T.frac.C G y q2) (s1 : Sm 4000 q1) (s2 : Sm 4000 q2) (k : ∀ G' H' v, Ex G G' → Lw H0 G0 p ls G' H' → Nm T.frac.C G' v (q1 + q2) → Q v H') :
    rOwn2 T.frac.C (sp_f_add T) (sp_f_radd T) E0 (rI0 fun i j => .int (i + j)) x y H Q := by
  rcases hx with ⟨h1, rfl⟩ | ⟨h1, a, rfl, ha⟩
  · rcases hy with ⟨h2, rfl⟩ | ⟨h2, b, rfl, hb⟩
    · refine .inl ⟨_, _, rfl, rfl, _, _, rfl, rfl, k _ _ _ (Evl.Ex.refl _) lw ?_⟩
      rw [q_int h1, q_int h2, ofInt_num, ofInt_num, ← Rat.intCast_add]
      exact .ofInt _
    · obtain ⟨dx, hb'⟩ := id hb
      refine .inr (.inr ⟨_, b, dx, _, rfl, rfl, lw.gh _ _ hb', q2, q1, call_pure lw ⟨b, _, rfl, hb, ⟨h1, rfl⟩, h2, s2, s1⟩ fun G' H' v e l hv => k _ _ _ e l hv⟩)
  · obtain ⟨dx, ha'⟩ := id ha
    refine .inr (.inl ⟨a, dx, _, rfl, lw.gh _ _ ha', ?_, q1, q2, call_pure lw ⟨a, y, rfl, ha, hy, h1, s1, s2⟩ fun G' H' v e l hv => k _ _ _ e l hv⟩)
    rcases hy with ⟨h2, rfl⟩ | ⟨h2, b, rfl, dy, hb⟩
    · exact .inl ⟨_, rfl⟩
    · exact .inr ⟨b, dy, _, rfl, lw.gh _ _ hb⟩
theorem r_sub (lw : Lw H0 G0 p ls G H) (hx : Nm T.frac.C G x q1) (hy : Nm T.frac.C G y q2) (s1 : Sm 4000 q1) (s2 : Sm 4000 q2) (k : ∀ G' H' v, Ex G G' → Lw H0 G0 p ls G' H' → Nm T.frac.C G' v (q1 - q2) → Q v H') :
    rOwn2 T.frac.C (sp_f_sub T) (sp_f_rsub T) E0 (rI0 fun i j => .int (i - j)) x y H Q := by
  rcases hx with ⟨h1, rfl⟩ | ⟨h1, a, rfl, ha⟩
  · rcases hy with ⟨h2, rfl⟩ | ⟨h2, b, rfl, hb⟩
    · refine .inl ⟨_, _, rfl, rfl, _, _, rfl, rfl, k _ _ _ (Evl.Ex.refl _) lw ?_⟩
      rw [q_int h1, q_int h2, ofInt_num, ofInt_num, ← Rat.intCast_sub]
      exact .ofInt _
    · obtain ⟨dx, hb'⟩ := id hb
      refine .inr (.inr ⟨_, b, dx, _, rfl, rfl, lw.gh _ _ hb', q2, q1, call_pure lw ⟨b, _, rfl, hb, ⟨h1, rfl⟩, h2, s2, s1⟩ fun G' H' v e l hv => k _ _ _ e l hv⟩)
  · obtain ⟨dx, ha'⟩ := id ha
    refine .inr (.inl ⟨a, dx, _, rfl, lw.gh _ _ ha', ?_, q1, q2, call_pure lw ⟨a, y, rfl, ha, hy, h1, s1, s2⟩ fun G' H' v e l hv => k _ _ _ e l hv⟩)
    rcases hy with ⟨h2, rfl⟩ | ⟨h2, b, rfl, dy, hb⟩
    · exact .inl ⟨_, rfl⟩
    · exact .inr ⟨b, dy, _, rfl, lw.gh _ _ hb⟩
theorem r_mul (lw : Lw H0 G0 p ls G H) (hx : Nm T.frac.C G x q1) (hy : Nm T.frac.C G y q2) (s1 : Sm 4000 q1) (s2 : Sm 4000 q2) (k : ∀ G' H' v, Ex G G' → Lw H0 G0 p ls G' H' → Nm T.frac.C G' v (q1 * q2) → Q v H') :
    rOwn2 T.frac.C (sp_f_mul T) (sp_f_rmul T) E0 (rI CMulW fun i j => .int (i * j)) x y H Q := by
  rcases hx with ⟨h1, rfl⟩ | ⟨h1, a, rfl, ha⟩
  · rcases hy with ⟨h2, rfl⟩ | ⟨h2, b, rfl, hb⟩
    · refine .inl ⟨_, _, rfl, rfl, _, _, rfl, rfl, sm_mul s1.1 s2.1, k _ _ _ (Evl.Ex.refl _) lw ?_⟩
      rw [q_int h1, q_int h2, ofInt_num, ofInt_num, ← Rat.intCast_mul]
      exact .ofInt _
    · obtain ⟨dx, hb'⟩ := id hb
      refine .inr (.inr ⟨_, b, dx, _, rfl, rfl, lw.gh _ _ hb', q2, q1, call_pure lw ⟨b, _, rfl, hb, ⟨h1, rfl⟩, h2, s2, s1⟩ fun G' H' v e l hv => k _ _ _ e l hv⟩)
  · obtain ⟨dx, ha'⟩ := id ha
    refine .inr (.inl ⟨a, dx, _, rfl, lw.gh _ _ ha', ?_, q1, q2, call_pure lw ⟨a, y, rfl, ha, hy, h1, s1, s2⟩ fun G' H' v e l hv => k _ _ _ e l hv⟩)
    rcases hy with ⟨h2, rfl⟩ | ⟨h2, b, rfl, dy, hb⟩
    · exact .inl ⟨_, rfl⟩
    · exact .inr ⟨b, dy, _, rfl, lw.gh _ _ hb⟩
theorem r_neg (lw : Lw H0 G0 p ls G H) (hx : Nm T.frac.C G x q1) (s1 : Sm 4000 q1) (k : ∀ G' H' v, Ex G G' → Lw H0 G0 p ls G' H' → Nm T.frac.C G' v (-q1) → Q v H') : rOwnNeg T.frac.C (sp_f_neg T) E0 x H Q := by
  rcases hx with ⟨h1, rfl⟩ | ⟨h1, a, rfl, ha⟩
  · refine .inl ⟨_, rfl, k _ _ _ (Evl.Ex.refl _) lw ?_⟩
    rw [q_int h1, ofInt_num, ← Rat.intCast_neg]
    exact .ofInt _
  · obtain ⟨dx, ha'⟩ := id ha
    exact .inr ⟨a, dx, _, rfl, lw.gh _ _ ha', q1, call_pure lw ⟨a, rfl, ha, h1, s1⟩ fun G' H' v e l hv => k _ _ _ e l hv⟩
/-- x == y, x != y, for numbers -/
theorem r_eqN {neg : Bool} (lw : Lw H0 G0 p ls G H) (hx : Nm T.frac.C G x q1) (hy : Nm T.frac.C G y q2) (k : ∀ G' H', Ex G G' → Lw H0 G0 p ls G' H' → Q (.bl (if neg then !decide (q1 = q2) else decide (q1 = q2))) H') :
    rOwnEq T.frac.C (sp_f_eq T) E0 neg x y H Q := by
  rcases hx with ⟨h1, rfl⟩ | ⟨h1, a, rfl, ha⟩
  · rcases hy with ⟨h2, rfl⟩ | ⟨h2, b, rfl, hb⟩
    · refine .inr (.inr ⟨rfl, ?_⟩)
      have e : decide (V.int q1.num = V.int q2.num) = decide (q1 = q2) := by
        rw [decide_eq_decide]
        constructor
        · intro z
          injection z with z
          rw [q_int h1, q_int h2, z]
        · intro z
          rw [z]
      rw [e]
      exact k _ _ (Evl.Ex.refl _) lw
    · obtain ⟨dx, hb'⟩ := id hb
      refine .inr (.inl ⟨_, b, dx, _, rfl, rfl, lw.gh _ _ hb', q2, .num q1, call_pure lw ⟨b, _, rfl, hb, .inl ⟨h1, rfl⟩, h2⟩ fun G' H' v e l hv => ⟨_, hv, ?_⟩⟩)
      have e2 : Oth.is q2 (.num q1) = decide (q1 = q2) := decide_eq_decide.mpr ⟨Eq.symm, Eq.symm⟩
      rw [e2]
      exact k _ _ e l
  · obtain ⟨dx, ha'⟩ := id ha
    refine .inl ⟨a, dx, _, rfl, lw.gh _ _ ha', ?_, q1, .num q2, call_pure lw ⟨a, y, rfl, ha, hy, h1⟩ fun G' H' v e l hv => ⟨_, hv, k _ _ e l⟩⟩
    rcases hy with ⟨h2, rfl⟩ | ⟨h2, b, rfl, dy, hb⟩
    · exact .inl ⟨_, rfl⟩
    · exact .inr (.inr ⟨b, dy, _, rfl, lw.gh _ _ hb⟩)
end

/-! ### pieces, divided -/
theorem sc_pieces : FnScope ["number"] ["number"] (defScope s_pieces) := ⟨rfl, rfl, rfl, by decide +kernel, rfl, by decide +kernel, by decide +kernel⟩
def sp_pieces (T : Tx K mg) : Sp := fun vs H Q E => ∃ q : Rat, PureSp (fun vs G => ∃ x, vs = [x] ∧ Nm T.frac.C G x q) (fun _ _ G' v => ∃ t, v = .ref t ∧ G' t = some (.tup [.int q.num, .int q.den])) vs H Q E
theorem ok_pieces (T : Tx K mg) : FnOk P w K mg base CX0 2 T.pieces.f T.pieces.fd ["number"] (sp_pieces T) := by
  refine T.pieces.F.ok sc_pieces (fun vs H Q E h => ?_) (fun cdv A outer s H vs Q E hr h => ?_)
  · obtain ⟨q, G, _, ⟨x, rfl, _⟩, _⟩ := h
    rfl
  · obtain ⟨q, G, lw, ⟨x, rfl, hx⟩, k⟩ := h
    refine ⟨_, (pss_cons (ps_if (pt_val (pe_callB (UfK.call_isiK' (K := K)) (by rfl) T.z_isinstance (by decide +kernel) (pa_cons (pv 0) (pa_cons (pe_glob (v := .ref T.frac.C) rfl T.frac.g rfl) pa_nil)))) (pss_one (ps_ret (pe_tup (pa_cons (UfK.pe_fldK (K := K) (pv 0) rfl) (pa_cons (UfK.pe_fldK (K := K) (pv 0) rfl) pa_nil))))) pss_nil)
      (pss_one (ps_ret (pe_tup (pa_cons (pv 0) (pa_cons pe_int pa_nil)))))), ?_⟩
    rcases hx with ⟨h1, rfl⟩ | ⟨h1, a, rfl, dx, ha⟩
    · refine ⟨_, rfl, .int q.num, .ref T.frac.C, .type "int", .ref T.frac.C, false, rfl, .own _, .base (.int _), T.kIF, false, rfl, iteF ⟨_, rfl, (by show 2 ≤ sizeLine; decide), fun t n => ?_⟩⟩
      obtain ⟨G1, e1, lw, h⟩ := lw.allocE (o := .tup [.int q.num, .int 1]) n
      refine k _ _ _ lw ⟨t, rfl, ?_⟩
      rw [h1]
      exact h
    · have Ha := lw.gh _ _ ha
      refine ⟨_, rfl, .ref a, .ref T.frac.C, .ref T.frac.C, .ref T.frac.C, true, rfl, .own _, T.frac.ty Ha, T.kFF, true, rfl, iteT ⟨_, rfl, a, T.frac.C, dx, _, _, rfl, Ha, T.frac.c, T.nNum, lk_num, _, rfl, a, T.frac.C, dx, _, _, rfl, Ha, T.frac.c, T.nDen, lk_den, (by show 2 ≤ sizeLine; decide), fun t n => ?_⟩⟩
      obtain ⟨G1, e1, lw, h⟩ := lw.allocE (o := .tup [.int q.num, .int q.den]) n
      exact k _ _ _ lw ⟨t, rfl, h⟩
theorem sc_divided : FnScope ["first", "second", "top", "over_top", "bottom", "over_bottom"] ["first", "second"] (defScope s_divided) := ⟨rfl, rfl, rfl, by decide +kernel, rfl, by decide +kernel, by decide +kernel⟩
theorem q_div {a b : Rat} (h : b.num ≠ 0) : fr (a.num * b.den) (a.den * b.num) = a / b := by
  have e : b⁻¹ = fr b.den b.num := by
    conv => lhs; rw [← q_fr b]
    exact Rat.inv_divInt _ _
  rw [Rat.div_def, e]
  conv => rhs; rw [← q_fr a]
  exact (Rat.divInt_mul_divInt _ _).symm
def sp_divided (T : Tx K mg) : Sp := fun vs H Q E => ∃ q1 q2 : Rat, RaiseN (fun vs G => ∃ x y, vs = [x, y] ∧ Nm T.frac.C G x q1 ∧ Nm T.frac.C G y q2 ∧ Sm 4000 q1 ∧ Sm 4000 q2) (fun _ _ G' v => q2 ≠ 0 ∧ Nm T.frac.C G' v (q1 / q2)) (fun _ G' C e => q2 = 0 ∧ ErAt T .div G' C e) vs H Q E
theorem ok_divided (T : Tx K mg) : FnOk P w K mg base (L2N.CX P w) 6 T.divided.f T.divided.fd ["first", "second"] (sp_divided T) := by
  refine fun_okX T.divided.F sc_divided (fun vs H Q E h => ?_) (fun cdv A outer s H vs Q E hr h => ?_)
  · obtain ⟨q1, q2, G, _, ⟨x, y, rfl, _⟩, _⟩ := h
    rfl
  · obtain ⟨q1, q2, G, lw, ⟨x, y, rfl, hx, hy, s1, s2⟩, k, kx⟩ := h
    refine ⟨_, (pss_cons (ps_asg (pe_call (ok_pieces T) (hr.mono (by decide)) (by rfl) T.pieces.g T.pieces.F.kp T.pieces.b .nil pass0 (pa_cons (pv 0) pa_nil)) (UfK.pg_tupK (K := K) (n := 2) rfl (pgs_cons (pg_name (i := 2) sc_divided.nd rfl (.inl rfl)) (pgs_cons (pg_name (i := 3) sc_divided.nd rfl (.inl rfl)) pgs_nil))))
      (pss_cons (ps_asg (pe_call (ok_pieces T) (hr.mono (by decide)) (by rfl) T.pieces.g T.pieces.F.kp T.pieces.b .nil pass0 (pa_cons (pv 1) pa_nil)) (UfK.pg_tupK (K := K) (n := 2) rfl (pgs_cons (pg_name (i := 4) sc_divided.nd rfl (.inl rfl)) (pgs_cons (pg_name (i := 5) sc_divided.nd rfl (.inl rfl)) pgs_nil))))
      (pss_one (ps_ret (pe_callS (ok_ratio T) (hr.mono (by decide)) rfl T.ratio.g T.ratio.F.kp T.ratio.b (fun σ => L2N.passAt (L2N.takes_of rfl rfl rfl rfl) σ) (pa_cons (pe_op op_mulW (pv 2) (pv 5)) (pa_cons (pe_op op_mulW (pv 3) (pv 4)) pa_nil))))))), ?_⟩
    refine ⟨_, rfl, q1, call_pure lw ⟨x, rfl, hx⟩ fun G1 H1 v e1 lw hv => ?_⟩
    obtain ⟨t, rfl, ht⟩ := hv
    refine ⟨t, _, rfl, L2.SqT.of (lw.gh _ _ ht), rfl, _, _, rfl, _, _, rfl, rfl, ?_⟩
    refine ⟨_, rfl, q2, call_pure lw ⟨y, rfl, hy.ex e1⟩ fun G2 H2 v e2 lw hv => ?_⟩
    obtain ⟨u, rfl, hu⟩ := hv
    refine ⟨u, _, rfl, L2.SqT.of (lw.gh _ _ hu), rfl, _, _, rfl, _, _, rfl, rfl, ?_⟩
    have db : ((q1.den : Int) * q2.num).natAbs < 2 ^ 8000 := wide_lt (a := 4000) (b := 4000) (sm_den s1) s2.1
    refine ⟨_, rfl, _, rfl, _, _, rfl, rfl, sm_mul s1.1 (sm_den s2), _, rfl, _, rfl, _, _, rfl, rfl, sm_mul (sm_den s1) s2.1, _, _, call_raiseN lw ⟨rfl, db⟩ (fun G3 H3 v e3 lw hv => ?_) fun G3 H3 C q e3 lw hv => ?_⟩
    · have n2 : q2.num ≠ 0 := fun z => hv.1 (by rw [z, Int.mul_zero])
      have hv := hv.2
      rw [q_div n2] at hv
      exact k _ _ _ lw ⟨fun z => n2 (by rw [z]; rfl), hv⟩
    · have n2 : q2.num = 0 := (Int.mul_eq_zero.mp hv.1).resolve_left (den_ne q1)
      exact kx _ _ _ _ lw ⟨Rat.num_eq_zero.mp n2, hv.2⟩
end
end K01

namespace K01
open PySem PySem.Spec PyProof.Rows L2 UfG UfT UfR UfO UfI UfQ UfN
open Evl (Ex)
section
variable {P : Program} {w : World} {K : PySem.W.Frag} {mg : Str → Option Value} {base : Heap}
/-! ### the plain operations of a ground -/
theorem sc_in_form : FnScope ["prime", "value"] ["prime", "value"] (defScope s_in_form) := ⟨rfl, rfl, rfl, by decide +kernel, rfl, by decide +kernel, by decide +kernel⟩
def sp_in_form (T : Tx K mg) : Sp := fun vs H Q E => (∃ q : Rat, PureSp (fun vs G => ∃ x, vs = [.int 0, x] ∧ Nm T.frac.C G x q) (fun _ _ G' v => Nm T.frac.C G' v q) vs H Q E) ∨
  ∃ p i : Int, PureSp (fun vs _ => vs = [.int p, .int i] ∧ 0 < p) (fun _ _ _ v => v = .int (i.fmod p)) vs H Q E
theorem ok_in_form (T : Tx K mg) : FnOk P w K mg base CX0 2 T.in_form.f T.in_form.fd ["prime", "value"] (sp_in_form T) := by
  refine T.in_form.F.ok sc_in_form (fun vs H Q E h => ?_) (fun cdv A outer s H vs Q E hr h => ?_)
  · rcases h with ⟨q, G, _, ⟨x, rfl, _⟩, _⟩ | ⟨p, i, G, _, ⟨rfl, _⟩, _⟩ <;> rfl
  · refine ⟨_, (pss_one (ps_ret (pe_ifExp (pt_cmpR op_eq (pv 0) pe_int (nomark _)) (pv 1) (pe_op op_modN (pv 1) (pv 0))))), ?_⟩
    rcases h with ⟨q, G, lw, ⟨x, rfl, hx⟩, k⟩ | ⟨p, i, G, lw, ⟨rfl, hp⟩, k⟩
    · exact ⟨_, rfl, rfl, _, rfl, ite2 (fun _ => ⟨_, rfl, k _ _ _ lw hx⟩) (fun z => (z (decide_eq_true rfl)).elim)⟩
    · exact ⟨_, rfl, rfl, _, rfl, ite2 (fun z => absurd (show p = 0 by simpa using z) (by omega)) (fun _ => ⟨_, rfl, _, rfl, _, _, rfl, rfl, (show p ≠ 0 by omega), k _ _ _ lw rfl⟩)⟩
theorem sc_plain_sum : FnScope ["prime", "first", "second"] ["prime", "first", "second"] (defScope s_plain_sum) := ⟨rfl, rfl, rfl, by decide +kernel, rfl, by decide +kernel, by decide +kernel⟩
def sp_plain_sum (T : Tx K mg) : Sp := fun vs H Q E => (∃ q1 q2 : Rat, PureSp (fun vs G => ∃ x y, vs = [.int 0, x, y] ∧ Nm T.frac.C G x q1 ∧ Nm T.frac.C G y q2 ∧ Sm 4000 q1 ∧ Sm 4000 q2) (fun _ _ G' v => Nm T.frac.C G' v (q1 + q2)) vs H Q E) ∨
  ∃ p i j : Int, PureSp (fun vs _ => vs = [.int p, .int i, .int j] ∧ 0 < p) (fun _ _ _ v => v = .int ((i + j).fmod p)) vs H Q E
theorem ok_plain_sum (T : Tx K mg) : FnOk P w K mg base CX0 9 T.plain_sum.f T.plain_sum.fd ["prime", "first", "second"] (sp_plain_sum T) := by
  refine T.plain_sum.F.ok sc_plain_sum (fun vs H Q E h => ?_) (fun cdv A outer s H vs Q E hr h => ?_)
  · rcases h with ⟨q1, q2, G, _, ⟨x, y, rfl, _⟩, _⟩ | ⟨p, i, j, G, _, ⟨rfl, _⟩, _⟩ <;> rfl
  · refine ⟨_, (pss_cons (ps_if (pt_cmpR op_eq (pv 0) pe_int (nomark _)) (pss_one (ps_ret (pe_op (UfO.op_ownAdd (hr.mono (by decide)) T.frac.o T.oAdd (ok_f_add T) T.f_add.b (ok_f_radd T) T.f_radd.b pass0) (pv 1) (pv 2)))) pss_nil)
      (pss_one (ps_ret (pe_op op_modN (pe_op (UfO.op_ownAdd (hr.mono (by decide)) T.frac.o T.oAdd (ok_f_add T) T.f_add.b (ok_f_radd T) T.f_radd.b pass0) (pv 1) (pv 2)) (pv 0))))), ?_⟩
    rcases h with ⟨q1, q2, G, lw, ⟨x, y, rfl, hx, hy, s1, s2⟩, k⟩ | ⟨p, i, j, G, lw, ⟨rfl, hp⟩, k⟩
    · exact ⟨_, rfl, rfl, _, rfl, ite2 (fun _ => ⟨_, rfl, _, rfl, r_add lw hx hy s1 s2 fun G' H' v e lw hv => k _ _ _ lw hv⟩) (fun z => (z (decide_eq_true rfl)).elim)⟩
    · exact ⟨_, rfl, rfl, _, rfl, ite2 (fun z => absurd (show p = 0 by simpa using z) (by omega)) (fun _ => ⟨_, rfl, _, rfl, .inl ⟨_, _, rfl, rfl, _, _, rfl, rfl, _, rfl, _, _, rfl, rfl, (show p ≠ 0 by omega), k _ _ _ lw rfl⟩⟩)⟩
theorem sc_plain_times : FnScope ["prime", "first", "second"] ["prime", "first", "second"] (defScope s_plain_times) := ⟨rfl, rfl, rfl, by decide +kernel, rfl, by decide +kernel, by decide +kernel⟩
def sp_plain_times (T : Tx K mg) : Sp := fun vs H Q E => (∃ q1 q2 : Rat, PureSp (fun vs G => ∃ x y, vs = [.int 0, x, y] ∧ Nm T.frac.C G x q1 ∧ Nm T.frac.C G y q2 ∧ Sm 4000 q1 ∧ Sm 4000 q2) (fun _ _ G' v => Nm T.frac.C G' v (q1 * q2)) vs H Q E) ∨
  ∃ p i j : Int, PureSp (fun vs _ => vs = [.int p, .int i, .int j] ∧ 0 < p ∧ i.natAbs < 2 ^ 4000 ∧ j.natAbs < 2 ^ 4000) (fun _ _ _ v => v = .int ((i * j).fmod p)) vs H Q E
theorem ok_plain_times (T : Tx K mg) : FnOk P w K mg base CX0 9 T.plain_times.f T.plain_times.fd ["prime", "first", "second"] (sp_plain_times T) := by
  refine T.plain_times.F.ok sc_plain_times (fun vs H Q E h => ?_) (fun cdv A outer s H vs Q E hr h => ?_)
  · rcases h with ⟨q1, q2, G, _, ⟨x, y, rfl, _⟩, _⟩ | ⟨p, i, j, G, _, ⟨rfl, _⟩, _⟩ <;> rfl
  · refine ⟨_, (pss_cons (ps_if (pt_cmpR op_eq (pv 0) pe_int (nomark _)) (pss_one (ps_ret (pe_op (UfO.op_ownMul (hr.mono (by decide)) T.frac.o T.oMul (ok_f_mul T) T.f_mul.b (ok_f_rmul T) T.f_rmul.b pass0) (pv 1) (pv 2)))) pss_nil)
      (pss_one (ps_ret (pe_op op_modN (pe_op (UfO.op_ownMul (hr.mono (by decide)) T.frac.o T.oMul (ok_f_mul T) T.f_mul.b (ok_f_rmul T) T.f_rmul.b pass0) (pv 1) (pv 2)) (pv 0))))), ?_⟩
    rcases h with ⟨q1, q2, G, lw, ⟨x, y, rfl, hx, hy, s1, s2⟩, k⟩ | ⟨p, i, j, G, lw, ⟨rfl, hp, b1, b2⟩, k⟩
    · exact ⟨_, rfl, rfl, _, rfl, ite2 (fun _ => ⟨_, rfl, _, rfl, r_mul lw hx hy s1 s2 fun G' H' v e lw hv => k _ _ _ lw hv⟩) (fun z => (z (decide_eq_true rfl)).elim)⟩
    · exact ⟨_, rfl, rfl, _, rfl, ite2 (fun z => absurd (show p = 0 by simpa using z) (by omega)) (fun _ => ⟨_, rfl, _, rfl, .inl ⟨_, _, rfl, rfl, _, _, rfl, rfl, sm_mul b1 b2, _, rfl, _, _, rfl, rfl, (show p ≠ 0 by omega), k _ _ _ lw rfl⟩⟩)⟩
section
variable {T : Tx K mg} {H0 G0 G H : Hp} {p : Option (Addr × Addr × Nat)} {ls : List (Addr × HO)} {Q : VK} {x y : V} {q1 q2 : Rat} {i j m : Int}
theorem call_form0 (lw : Lw H0 G0 p ls G H) (hx : Nm T.frac.C G x q1) (k : ∀ G' H' v, Ex G G' → Lw H0 G0 p ls G' H' → Nm T.frac.C G' v q1 → Q v H') : sp_in_form T [.int 0, x] H Q E0 := .inl ⟨q1, call_pure lw ⟨x, rfl, hx⟩ k⟩
theorem call_formP (lw : Lw H0 G0 p ls G H) (hm : 0 < m) (k : ∀ G' H', Ex G G' → Lw H0 G0 p ls G' H' → Q (.int (i.fmod m)) H') : sp_in_form T [.int m, .int i] H Q E0 := .inr ⟨m, i, call_pure lw ⟨rfl, hm⟩ fun G' H' v e l (hv : v = _) => by
  subst hv
  exact k _ _ e l⟩
theorem call_times0 (lw : Lw H0 G0 p ls G H) (hx : Nm T.frac.C G x q1) (hy : Nm T.frac.C G y q2) (s1 : Sm 4000 q1) (s2 : Sm 4000 q2) (k : ∀ G' H' v, Ex G G' → Lw H0 G0 p ls G' H' → Nm T.frac.C G' v (q1 * q2) → Q v H') : sp_plain_times T [.int 0, x, y] H Q E0 :=
  .inl ⟨q1, q2, call_pure lw ⟨x, y, rfl, hx, hy, s1, s2⟩ k⟩
theorem call_timesP (lw : Lw H0 G0 p ls G H) (hm : 0 < m) (b1 : i.natAbs < 2 ^ 4000) (b2 : j.natAbs < 2 ^ 4000) (k : ∀ G' H', Ex G G' → Lw H0 G0 p ls G' H' → Q (.int ((i * j).fmod m)) H') : sp_plain_times T [.int m, .int i, .int j] H Q E0 :=
  .inr ⟨m, i, j, call_pure lw ⟨rfl, hm, b1, b2⟩ fun G' H' v e l (hv : v = _) => by
    subst hv
    exact k _ _ e l⟩
end
end
end K01

namespace K01
open PySem PySem.Spec PyProof.Rows L2 UfG UfT UfR UfO UfI UfQ UfN
open Evl (Ex)
theorem pow_addQ (q : Rat) (a b : Nat) : q ^ a * q ^ b = q ^ (a + b) := by
  induction b with
  | zero => rw [Rat.pow_zero, Rat.mul_one, Nat.add_zero]
  | succ b ih => rw [Rat.pow_succ, ← Rat.mul_assoc, ih, ← Nat.add_assoc, Rat.pow_succ]
theorem pow_one' (q : Rat) : q ^ 1 = q := by rw [show (1 : Nat) = 0 + 1 from rfl, Rat.pow_succ, Rat.pow_zero, Rat.one_mul]
theorem mod_mul {x p : Int} (hp : 0 < p) (a b : Nat) : ((x ^ a).fmod p * (x ^ b).fmod p).fmod p = (x ^ (a + b)).fmod p := by
  rw [Int.fmod_eq_emod_of_nonneg _ (Int.le_of_lt hp), Int.fmod_eq_emod_of_nonneg _ (Int.le_of_lt hp), Int.fmod_eq_emod_of_nonneg _ (Int.le_of_lt hp), Int.fmod_eq_emod_of_nonneg _ (Int.le_of_lt hp), Int.pow_add]
  exact (Int.mul_emod _ _ _).symm
theorem mod_lt {i p : Int} (hp : 0 < p) (b : p.natAbs < 2 ^ 4000) : (i.fmod p).natAbs < 2 ^ 4000 := by
  have := fmod_bd (i := i) hp
  omega
/-- the turns that are left -/
def left2 (σ : L2.St) : Nat := match σ[2]? with
  | some (some (V.int i)) => i.toNat
  | _ => 0
section
variable {P : Program} {w : World} {K : PySem.W.Frag} {mg : Str → Option Value} {base : Heap}
theorem sc_plain_power : FnScope ["prime", "number", "count", "result", "square"] ["prime", "number", "count"] (defScope s_plain_power) := ⟨rfl, rfl, rfl, by decide +kernel, rfl, by decide +kernel, by decide +kernel⟩
def sp_plain_power (T : Tx K mg) : Sp := fun vs H Q E => (∃ (q : Rat) (n : Nat), PureSp (fun vs G => ∃ x, vs = [.int 0, x, .int n] ∧ Nm T.frac.C G x q ∧ ∀ e ≤ n, Sm 4000 (q ^ e)) (fun _ _ G' v => Nm T.frac.C G' v (q ^ n)) vs H Q E) ∨
  ∃ (p i : Int) (n : Nat), PureSp (fun vs _ => vs = [.int p, .int i, .int n] ∧ 0 < p ∧ p.natAbs < 2 ^ 4000) (fun _ _ _ v => v = .int ((i ^ n).fmod p)) vs H Q E
theorem half_step {a s c n : Nat} (h : a + s * c = n) (hc : 0 < c) : (c % 2 = 1 → (c / 2 = 0 → a + s = n) ∧ (0 < c / 2 → a + s + (s + s) * (c / 2) = n)) ∧ (¬ c % 2 = 1 → 0 < c / 2 ∧ a + (s + s) * (c / 2) = n) := by
  have e : s * c = (s + s) * (c / 2) + s * (c % 2) := by
    conv => lhs; rw [← Nat.div_add_mod c 2]
    rw [Nat.mul_add, ← Nat.mul_assoc, Nat.mul_comm s 2, Nat.two_mul]
  constructor
  · intro o
    rw [o, Nat.mul_one] at e
    constructor
    · intro z
      rw [z, Nat.mul_zero] at e
      omega
    · intro _
      omega
  · intro o
    have z : c % 2 = 0 := by omega
    rw [z, Nat.mul_zero] at e
    constructor
    · omega
    · omega
theorem ok_plain_power (T : Tx K mg) : FnOk P w K mg base CX0 10 T.plain_power.f T.plain_power.fd ["prime", "number", "count"] (sp_plain_power T) := by
  refine T.plain_power.F.ok sc_plain_power (fun vs H Q E h => ?_) (fun cdv A outer s H vs Q E hr h => ?_)
  · rcases h with ⟨q, n, G, _, ⟨x, rfl, _⟩, _⟩ | ⟨p, i, n, G, _, ⟨rfl, _⟩, _⟩ <;> rfl
  · refine ⟨_, (pss_cons (ps_set (i := 3) sc_plain_power.nd rfl (.inl rfl) (pe_call (ok_in_form T) (hr.mono (by decide)) (by rfl) T.in_form.g T.in_form.F.kp T.in_form.b .nil pass0 (pa_cons (pv 0) (pa_cons pe_int pa_nil))))
      (pss_cons (ps_set (i := 4) sc_plain_power.nd rfl (.inl rfl) (pe_call (ok_in_form T) (hr.mono (by decide)) (by rfl) T.in_form.g T.in_form.F.kp T.in_form.b .nil pass0 (pa_cons (pv 0) (pa_cons (pv 1) pa_nil))))
      (pss_cons (ps_while PassesOwn.never (pt_cmpR op_gt (pv 2) pe_int (nomark _)) (pss_cons (ps_if (pt_cmpR op_eq (pe_op op_modN (pv 2) pe_int) pe_int (nomark _)) (pss_one (ps_set (i := 3) sc_plain_power.nd rfl (.inl rfl) (pe_call (ok_plain_times T) (hr.mono (by decide)) (by rfl) T.plain_times.g T.plain_times.F.kp T.plain_times.b .nil pass0 (pa_cons (pv 0) (pa_cons (pv 3) (pa_cons (pv 4) pa_nil)))))) pss_nil)
      (pss_cons (ps_set (i := 2) sc_plain_power.nd rfl (.inl rfl) (pe_op op_fdivW (pv 2) pe_int))
      (pss_one (ps_if (pt_cmpR op_gt (pv 2) pe_int (nomark _)) (pss_one (ps_set (i := 4) sc_plain_power.nd rfl (.inl rfl) (pe_call (ok_plain_times T) (hr.mono (by decide)) (by rfl) T.plain_times.g T.plain_times.F.kp T.plain_times.b .nil pass0 (pa_cons (pv 0) (pa_cons (pv 4) (pa_cons (pv 4) pa_nil)))))) pss_nil)))))
      (pss_one (ps_ret (pv 3)))))), ?_⟩
    rcases h with ⟨q, n, G, lw, ⟨x, rfl, hx, sm⟩, k⟩ | ⟨p, i, n, G, lw, ⟨rfl, hp, pb⟩, k⟩
    · have q1 : q ^ 1 = q := pow_one' q
      have one : Nm T.frac.C G (.int 1) (q ^ 0) := by
        rw [Rat.pow_zero]
        exact .ofInt 1
      refine ⟨_, rfl, call_form0 lw one fun G1 H1 v1 e1 lw h1 => ?_⟩
      refine ⟨_, rfl, _, rfl, call_form0 lw (hx.ex e1) fun G2 H2 v2 e2 lw h2 => ?_⟩
      refine while_by (fun σ H' => ∃ (G' : Hp) (c a s : Nat) (r z : V), σ = [some (.int 0), some x, some (.int c), some r, some z] ∧ Lw H G none [] G' H' ∧ Nm T.frac.C G' r (q ^ a) ∧ Nm T.frac.C G' z (q ^ s) ∧ (c = 0 → a = n) ∧ (0 < c → a + s * c = n)) (fun σ _ => left2 σ)
        ⟨G2, n, 0, 1, v1, v2, rfl, lw, h1.ex e2, by rw [q1]; exact h2, fun z => z.symm, fun _ => by rw [Nat.zero_add, Nat.one_mul]⟩ (fun σ H' hp => ?_) (fun σ H Q Q' h ⟨v, hv, i, j, e1, e2, k, e3, q⟩ => ⟨v, hv, i, j, e1, e2, k, e3, h _ _ q⟩)
      obtain ⟨G', c, a, s, r, z, rfl, lw, hr', hz, c0, c1⟩ := hp
      refine ⟨_, rfl, _, _, rfl, rfl, _, rfl, ite2 (fun h => ?_) (fun h => ?_)⟩
      · have cp : 0 < c := by simpa using h
        have inv := c1 cp
        have al : a ≤ n := by omega
        have sl : s ≤ n := by
          have := Nat.mul_le_mul_left s cp
          omega
        obtain ⟨odd, even⟩ := half_step inv cp
        have em : ((c : Int).fmod 2) = ((c % 2 : Nat) : Int) := by rw [Int.fmod_eq_emod_of_nonneg _ (by decide)]; rfl
        have ed : ((c : Int) / 2) = ((c / 2 : Nat) : Int) := rfl
        -- the rest of the turn
        have fin : ∀ (bk ct : L2.St → Hp → Prop) (G1 H1 : Hp) (a' : Nat) (r' : V), Lw H G none [] G1 H1 → Nm T.frac.C G1 r' (q ^ a') → Nm T.frac.C G1 z (q ^ s) → (c / 2 = 0 → a' = n) → (0 < c / 2 → a' + (s + s) * (c / 2) = n) →
            tSeq (tAsg (tOp (rI CDivW fun i j => .int (i / j)) (tVar 2) (tC (.int 2))) (gName 2)) (tIfS (tTest (tOp (rI0 fun i j => .bl (decide (j < i))) (tVar 2) (tC (.int 0)))) (tAsg (tCall (sp_plain_times T) [] E0 (tCons (tVar 0) (tCons (tVar 4) (tCons (tVar 4) tNil)))) (gName 4)) tNext)
              { nx := fun σ' H' => (∃ (G' : Hp) (c a s : Nat) (r z : V), σ' = [some (.int 0), some x, some (.int c), some r, some z] ∧ Lw H G none [] G' H' ∧ Nm T.frac.C G' r (q ^ a) ∧ Nm T.frac.C G' z (q ^ s) ∧ (c = 0 → a = n) ∧ (0 < c → a + s * c = n)) ∧ left2 σ' < c,
                rt := Q, bk := bk, ct := ct } [some (.int 0), some x, some (.int c), some r', some z] H1 := fun bk ct G1 H1 a' r' lw hr' hz z0 z1 => by
          refine ⟨_, rfl, _, _, rfl, rfl, divW_of ⟨by decide, by decide⟩, _, rfl, _, _, rfl, rfl, _, rfl, ite2 (fun h => ?_) (fun h => ?_)⟩
          · have cq : 0 < c / 2 := by
              rw [ed] at h
              simp at h
              omega
            refine ⟨_, rfl, _, rfl, _, rfl, call_times0 lw hz hz (sm s sl) (sm s sl) fun G2 H2 v e lw hv => ⟨⟨G2, c / 2, a', s + s, r', v, rfl, lw, hr'.ex e, ?_, fun y => absurd y (by omega), fun _ => z1 cq⟩, Nat.div_lt_self cp (by decide)⟩⟩
            rw [pow_addQ] at hv
            exact hv
          · have cq : c / 2 = 0 := by
              rw [ed] at h
              simp at h
              omega
            exact ⟨⟨G1, c / 2, a', s, r', z, rfl, lw, hr', hz, fun _ => z0 cq, fun y => absurd y (by omega)⟩, Nat.div_lt_self cp (by decide)⟩
        -- if count % 2 == 1
        refine ⟨_, rfl, _, _, rfl, rfl, (show (2 : Int) ≠ 0 by decide), rfl, _, rfl, ite2 (fun h => ?_) (fun h => ?_)⟩
        · have o : c % 2 = 1 := by
            have z : (c : Int).fmod 2 = 1 := by simpa using h
            omega
          refine ⟨_, rfl, _, rfl, _, rfl, call_times0 lw hr' hz (sm a al) (sm s sl) fun G1 H1 v e lw hv => ?_⟩
          rw [pow_addQ] at hv
          exact fin _ _ G1 H1 (a + s) v lw hv (hz.ex e) (odd o).1 (odd o).2
        · have o : ¬ c % 2 = 1 := fun z => h (by
            have : (c : Int).fmod 2 = 1 := by omega
            simp [this])
          exact fin _ _ G' H' a r lw hr' hz (fun z => absurd z (by have := (even o).1; omega)) fun _ => (even o).2
      · have c0' : c = 0 := by
          simp at h
          omega
        refine ⟨_, rfl, k _ _ _ lw ?_⟩
        rw [← c0 c0']
        exact hr'
    · have one : (1 : Int).fmod p = (i ^ 0).fmod p := by rw [Int.pow_zero]
      refine ⟨_, rfl, call_formP lw hp fun G1 H1 e1 lw => ?_⟩
      refine ⟨_, rfl, _, rfl, call_formP lw hp fun G2 H2 e2 lw => ?_⟩
      refine while_by (fun σ H' => ∃ (G' : Hp) (c a s : Nat), σ = [some (.int p), some (.int i), some (.int c), some (.int ((i ^ a).fmod p)), some (.int ((i ^ s).fmod p))] ∧ Lw H G none [] G' H' ∧ (c = 0 → a = n) ∧ (0 < c → a + s * c = n)) (fun σ _ => left2 σ)
        ⟨G2, n, 0, 1, by rw [Int.pow_succ, Int.pow_zero, Int.one_mul]; rfl, lw, fun z => z.symm, fun _ => by rw [Nat.zero_add, Nat.one_mul]⟩ (fun σ H' hp => ?_) (fun σ H Q Q' h ⟨v, hv, i, j, e1, e2, k, e3, q⟩ => ⟨v, hv, i, j, e1, e2, k, e3, h _ _ q⟩)
      obtain ⟨G', c, a, s, rfl, lw, c0, c1⟩ := hp
      refine ⟨_, rfl, _, _, rfl, rfl, _, rfl, ite2 (fun h => ?_) (fun h => ?_)⟩
      · have cp : 0 < c := by simpa using h
        obtain ⟨odd, even⟩ := half_step (c1 cp) cp
        have em : ((c : Int).fmod 2) = ((c % 2 : Nat) : Int) := by rw [Int.fmod_eq_emod_of_nonneg _ (by decide)]; rfl
        have ed : ((c : Int) / 2) = ((c / 2 : Nat) : Int) := rfl
        have fin : ∀ (bk ct : L2.St → Hp → Prop) (G1 H1 : Hp) (a' : Nat), Lw H G none [] G1 H1 → (c / 2 = 0 → a' = n) → (0 < c / 2 → a' + (s + s) * (c / 2) = n) →
            tSeq (tAsg (tOp (rI CDivW fun i j => .int (i / j)) (tVar 2) (tC (.int 2))) (gName 2)) (tIfS (tTest (tOp (rI0 fun i j => .bl (decide (j < i))) (tVar 2) (tC (.int 0)))) (tAsg (tCall (sp_plain_times T) [] E0 (tCons (tVar 0) (tCons (tVar 4) (tCons (tVar 4) tNil)))) (gName 4)) tNext)
              { nx := fun σ' H' => (∃ (G' : Hp) (c a s : Nat), σ' = [some (.int p), some (.int i), some (.int c), some (.int ((i ^ a).fmod p)), some (.int ((i ^ s).fmod p))] ∧ Lw H G none [] G' H' ∧ (c = 0 → a = n) ∧ (0 < c → a + s * c = n)) ∧ left2 σ' < c,
                rt := Q, bk := bk, ct := ct } [some (.int p), some (.int i), some (.int c), some (.int ((i ^ a').fmod p)), some (.int ((i ^ s).fmod p))] H1 := fun bk ct G1 H1 a' lw z0 z1 => by
          refine ⟨_, rfl, _, _, rfl, rfl, divW_of ⟨by decide, by decide⟩, _, rfl, _, _, rfl, rfl, _, rfl, ite2 (fun h => ?_) (fun h => ?_)⟩
          · have cq : 0 < c / 2 := by
              rw [ed] at h
              simp at h
              omega
            refine ⟨_, rfl, _, rfl, _, rfl, call_timesP lw hp (mod_lt hp pb) (mod_lt hp pb) fun G2 H2 e lw => ⟨⟨G2, c / 2, a', s + s, ?_, lw, fun y => absurd y (by omega), fun _ => z1 cq⟩, Nat.div_lt_self cp (by decide)⟩⟩
            rw [mod_mul hp]
            rfl
          · have cq : c / 2 = 0 := by
              rw [ed] at h
              simp at h
              omega
            exact ⟨⟨G1, c / 2, a', s, rfl, lw, fun _ => z0 cq, fun y => absurd y (by omega)⟩, Nat.div_lt_self cp (by decide)⟩
        refine ⟨_, rfl, _, _, rfl, rfl, (show (2 : Int) ≠ 0 by decide), rfl, _, rfl, ite2 (fun h => ?_) (fun h => ?_)⟩
        · have o : c % 2 = 1 := by
            have z : (c : Int).fmod 2 = 1 := by simpa using h
            omega
          refine ⟨_, rfl, _, rfl, _, rfl, call_timesP lw hp (mod_lt hp pb) (mod_lt hp pb) fun G1 H1 e lw => ?_⟩
          rw [mod_mul hp]
          exact fin _ _ G1 H1 (a + s) lw (odd o).1 (odd o).2
        · have o : ¬ c % 2 = 1 := fun z => h (by
            have : (c : Int).fmod 2 = 1 := by omega
            simp [this])
          exact fin _ _ G' H' a lw (fun z => absurd z (by have := (even o).1; omega)) fun _ => (even o).2
      · have c0' : c = 0 := by
          simp at h
          omega
        refine ⟨_, rfl, k _ _ _ lw ?_⟩
        rw [← c0 c0']
end
end K01

namespace K01
open PySem PySem.Spec PyProof.Rows L2 UfG UfT UfR UfO UfI UfQ UfN
open Evl (Ex)
section
variable {P : Program} {w : World} {K : PySem.W.Frag} {mg : Str → Option Value} {base : Heap}
section
variable {T : Tx K mg} {H0 G0 G H : Hp} {p : Option (Addr × Addr × Nat)} {ls : List (Addr × HO)} {Q : VK} {x y : V} {q q1 q2 : Rat} {i j m : Int} {n : Nat}
theorem call_power0 (lw : Lw H0 G0 p ls G H) (hx : Nm T.frac.C G x q) (sm : ∀ e ≤ n, Sm 4000 (q ^ e)) (k : ∀ G' H' v, Ex G G' → Lw H0 G0 p ls G' H' → Nm T.frac.C G' v (q ^ n) → Q v H') : sp_plain_power T [.int 0, x, .int n] H Q E0 :=
  .inl ⟨q, n, call_pure lw ⟨x, rfl, hx, sm⟩ k⟩
theorem call_powerP (lw : Lw H0 G0 p ls G H) (hm : 0 < m) (mb : m.natAbs < 2 ^ 4000) (k : ∀ G' H', Ex G G' → Lw H0 G0 p ls G' H' → Q (.int ((i ^ n).fmod m)) H') : sp_plain_power T [.int m, .int i, .int n] H Q E0 :=
  .inr ⟨m, i, n, call_pure lw ⟨rfl, hm, mb⟩ fun G' H' v e l (hv : v = _) => by
    subst hv
    exact k _ _ e l⟩
end
theorem sc_plain_over : FnScope ["prime", "first", "second"] ["prime", "first", "second"] (defScope s_plain_over) := ⟨rfl, rfl, rfl, by decide +kernel, rfl, by decide +kernel, by decide +kernel⟩
def sp_plain_over (T : Tx K mg) : Sp := fun vs H Q E =>
  (∃ q1 q2 : Rat, RaiseN (fun vs G => ∃ x y, vs = [.int 0, x, y] ∧ Nm T.frac.C G x q1 ∧ Nm T.frac.C G y q2 ∧ Sm 4000 q1 ∧ Sm 4000 q2) (fun _ _ G' v => q2 ≠ 0 ∧ Nm T.frac.C G' v (q1 / q2)) (fun _ G' C e => q2 = 0 ∧ ErAt T .div G' C e) vs H Q E) ∨
  ∃ p i j : Int, RaiseN (fun vs _ => vs = [.int p, .int i, .int j] ∧ 2 ≤ p ∧ p.natAbs < 2 ^ 4000 ∧ i.natAbs < 2 ^ 4000) (fun _ _ _ v => j.fmod p ≠ 0 ∧ v = .int ((i * (j ^ (p - 2).toNat).fmod p).fmod p)) (fun _ G' C e => j.fmod p = 0 ∧ ErAt T .div G' C e) vs H Q E
theorem ok_plain_over (T : Tx K mg) : FnOk P w K mg base (L2N.CX P w) 11 T.plain_over.f T.plain_over.fd ["prime", "first", "second"] (sp_plain_over T) := by
  refine fun_okX T.plain_over.F sc_plain_over (fun vs H Q E h => ?_) (fun cdv A outer s H vs Q E hr h => ?_)
  · rcases h with ⟨q1, q2, G, _, ⟨x, y, rfl, _⟩, _⟩ | ⟨p, i, j, G, _, ⟨rfl, _⟩, _⟩ <;> rfl
  · refine ⟨_, (pss_cons (ps_if (pt_cmpR op_eq (pv 0) pe_int (nomark _)) (pss_one (ps_ret (pe_callS (ok_divided T) (hr.mono (by decide)) rfl T.divided.g T.divided.F.kp T.divided.b (fun σ => L2N.passAt (L2N.takes_of rfl rfl rfl rfl) σ) (pa_cons (pv 1) (pa_cons (pv 2) pa_nil))))) pss_nil)
      (pss_cons (ps_if (pt_cmpR op_eq (pe_op op_modN (pv 2) (pv 0)) pe_int (nomark _)) (pss_one (L2N.ps_raise rfl (L2N.takes_of rfl rfl rfl rfl) (UfR.pmk_own0N PySem.F.excBase_ValueError T.cDiv.q T.cDiv.g T.cDiv.kC T.cDiv.r rfl))) pss_nil)
      (pss_one (ps_ret (pe_op op_modN (pe_op (UfO.op_ownMul (hr.mono (by decide)) T.frac.o T.oMul (ok_f_mul T) T.f_mul.b (ok_f_rmul T) T.f_rmul.b pass0) (pv 1) (pe_call (ok_plain_power T) (hr.mono (by decide)) (by rfl) T.plain_power.g T.plain_power.F.kp T.plain_power.b .nil pass0 (pa_cons (pv 0) (pa_cons (pv 2) (pa_cons (pe_op op_sub (pv 0) pe_int) pa_nil))))) (pv 0)))))), ?_⟩
    rcases h with ⟨q1, q2, G, lw, ⟨x, y, rfl, hx, hy, s1, s2⟩, k, kx⟩ | ⟨p, i, j, G, lw, ⟨rfl, hp, pb, ib⟩, k, kx⟩
    · exact ⟨_, rfl, rfl, _, rfl, ite2 (fun _ => ⟨_, rfl, _, rfl, q1, q2, call_raiseN lw ⟨x, y, rfl, hx, hy, s1, s2⟩ (fun G' H' v e lw hv => k _ _ _ lw hv) fun G' H' C q e lw hv => kx _ _ _ _ lw hv⟩) (fun z => (z (decide_eq_true rfl)).elim)⟩
    · refine ⟨_, rfl, rfl, _, rfl, ite2 (fun z => absurd (show p = 0 by simpa using z) (by omega)) (fun _ => ?_)⟩
      refine ⟨_, rfl, _, rfl, _, _, rfl, rfl, (show p ≠ 0 by omega), rfl, _, rfl, ite2 (fun h => ?_) (fun h => ?_)⟩
      · exact kx _ _ _ _ lw ⟨by simpa using h, rfl, rfl⟩
      · have h : j.fmod p ≠ 0 := by simpa using h
        refine ⟨_, rfl, _, rfl, _, rfl, _, rfl, _, _, rfl, rfl, ?_⟩
        show sp_plain_power T [.int p, .int j, .int (p - 2)] H _ E0
        have e2 : p - 2 = ((p - 2).toNat : Int) := by omega
        rw [e2]
        refine call_powerP lw (by omega) pb fun G1 H1 e lw => ?_
        exact .inl ⟨_, _, rfl, rfl, _, _, rfl, rfl, sm_mul ib (mod_lt (by omega) pb), _, rfl, _, _, rfl, rfl, (show p ≠ 0 by omega), k _ _ _ lw ⟨h, rfl⟩⟩
theorem sc_root_order : FnScope ["prime", "number", "most", "power", "count"] ["prime", "number", "most"] (defScope s_root_order) := ⟨rfl, rfl, rfl, by decide +kernel, rfl, by decide +kernel, by decide +kernel⟩
theorem _root_.UfN.Nm.toInt {F : Addr} {G : Hp} {v : V} {i : Int} (h : Nm F G v (i : Rat)) : v = .int i := by
  rcases h with ⟨h, e⟩ | ⟨h, _⟩
  · rw [e, ofInt_num]
  · exact absurd rfl h
theorem sm_of_int {b : Nat} {i : Int} (h : i.natAbs < 2 ^ b) (hb : 0 < b := by decide) : Sm b (i : Rat) := ⟨by rw [ofInt_num]; exact h, by show 1 < 2 ^ b; exact Nat.one_lt_two_pow (by omega)⟩
/-- the power of a number in its ground -/
def pwi (p i : Int) (e : Nat) : Int := if p = 0 then i ^ e else (i ^ e).fmod p
/-- the first exponent from 1 to n by which it is 1 -/
def ordI (p i : Int) (n : Nat) : Option Nat := (List.range n).findSome? fun e => if pwi p i (e + 1) = 1 then some (e + 1) else none
theorem ordI_hit {p i : Int} {n k : Nat} (hk : k < n) (h : pwi p i (k + 1) = 1) (no : ∀ e < k, pwi p i (e + 1) ≠ 1) : ordI p i n = some (k + 1) := by
  obtain ⟨m, rfl⟩ : ∃ m, n = (k + 1) + m := ⟨n - (k + 1), by omega⟩
  unfold ordI
  rw [List.findSome?_eq_some_iff]
  refine ⟨List.range k, k, (List.range m).map (fun x => k + 1 + x), ?_, by rw [if_pos h], fun e he => if_neg (no e (List.mem_range.mp he))⟩
  rw [List.range_add, List.range_succ, List.append_assoc]
  rfl
theorem ordI_no {p i : Int} {n : Nat} (no : ∀ e < n, pwi p i (e + 1) ≠ 1) : ordI p i n = none := by
  unfold ordI
  rw [List.findSome?_eq_none_iff]
  exact fun e he => if_neg (no e (List.mem_range.mp he))
def sp_root_order (T : Tx K mg) : Sp := fun vs H Q E => ∃ (p i : Int) (n : Nat), PureSp (fun vs _ => vs = [.int p, .int i, .int n] ∧ 0 ≤ p ∧ p.natAbs < 2 ^ 4000 ∧ (p = 0 → i.natAbs ≤ 1) ∧ i.natAbs < 2 ^ 4000 ∧ n ≤ 1000) (fun _ _ _ v => v = match ordI p i n with | some e => .int e | none => .non) vs H Q E
theorem ok_root_order (T : Tx K mg) : FnOk P w K mg base CX0 10 T.root_order.f T.root_order.fd ["prime", "number", "most"] (sp_root_order T) := by
  refine T.root_order.F.ok sc_root_order (fun vs H Q E h => ?_) (fun cdv A outer s H vs Q E hr h => ?_)
  · obtain ⟨p, i, n, G, _, ⟨rfl, _⟩, _⟩ := h
    rfl
  · obtain ⟨p, i, n, G, lw, ⟨rfl, p0, pb, iz, ib, nb⟩, k⟩ := h
    refine ⟨_, (pss_cons (ps_set (i := 3) sc_root_order.nd rfl (.inl rfl) (pe_call (ok_in_form T) (hr.mono (by decide)) (by rfl) T.in_form.g T.in_form.F.kp T.in_form.b .nil pass0 (pa_cons (pv 0) (pa_cons (pv 1) pa_nil))))
      (pss_cons (ps_for PassesOwn.never rfl (pi_range2 rfl T.z_range (pa_cons pe_int (pa_cons (pe_op op_add (pv 2) pe_int) pa_nil))) (pg_name (i := 4) sc_root_order.nd rfl (.inl rfl)) (pss_cons (ps_if (pt_cmpR op_eq (pv 3) pe_int (nomark _)) (pss_one (ps_ret (pv 4))) pss_nil)
      (pss_one (ps_set (i := 3) sc_root_order.nd rfl (.inl rfl) (pe_call (ok_plain_times T) (hr.mono (by decide)) (by rfl) T.plain_times.g T.plain_times.F.kp T.plain_times.b .nil pass0 (pa_cons (pv 0) (pa_cons (pv 3) (pa_cons (pv 1) pa_nil))))))))
      (pss_one (ps_ret pe_non)))), ?_⟩
    have start : ∀ {Q' : VK}, (∀ G' H', Lw H G none [] G' H' → Q' (.int (pwi p i 1)) H') → sp_in_form T [.int p, .int i] H Q' E0 := fun {Q'} kk => by
      by_cases z : p = 0
      · subst z
        refine call_form0 lw (.ofInt i) fun G' H' v e lw hv => ?_
        rw [Nm.toInt hv]
        have : pwi 0 i 1 = i := by unfold pwi; rw [if_pos rfl, Int.pow_succ, Int.pow_zero, Int.one_mul]
        rw [← this]
        exact kk _ _ lw
      · refine call_formP lw (by omega) fun G' H' e lw => ?_
        have : pwi p i 1 = i.fmod p := by unfold pwi; rw [if_neg z, Int.pow_succ, Int.pow_zero, Int.one_mul]
        rw [← this]
        exact kk _ _ lw
    have step : ∀ {Q' : VK} {G1 H1 : Hp} {e : Nat}, Lw H G none [] G1 H1 → (∀ G' H', Lw H G none [] G' H' → Q' (.int (pwi p i (e + 1))) H') → sp_plain_times T [.int p, .int (pwi p i e), .int i] H1 Q' E0 := fun {Q' G1 H1 e} lw kk => by
      by_cases z : p = 0
      · subst z
        have i1 := iz rfl
        have pe : pwi 0 i e = i ^ e := by unfold pwi; rw [if_pos rfl]
        have pb : (i ^ e).natAbs ≤ 1 := by
          rw [Int.natAbs_pow]
          have := Nat.pow_le_pow_left i1 e
          rw [Nat.one_pow] at this
          exact this
        rw [pe]
        refine call_times0 lw (.ofInt _) (.ofInt i) (sm_of_int (by omega)) (sm_of_int ib) fun G' H' v e' lw hv => ?_
        rw [← Rat.intCast_mul, ← Int.pow_succ] at hv
        rw [Nm.toInt hv]
        have : pwi 0 i (e + 1) = i ^ (e + 1) := by unfold pwi; rw [if_pos rfl]
        rw [← this]
        exact kk _ _ lw
      · have hp : 0 < p := by omega
        have pe : pwi p i e = (i ^ e).fmod p := by unfold pwi; rw [if_neg z]
        rw [pe]
        refine call_timesP lw hp (mod_lt hp pb) ib fun G' H' e' lw => ?_
        have : pwi p i (e + 1) = ((i ^ e).fmod p * i).fmod p := by
          unfold pwi
          rw [if_neg z, Int.pow_succ, Int.fmod_eq_emod_of_nonneg _ (Int.le_of_lt hp), Int.fmod_eq_emod_of_nonneg _ (Int.le_of_lt hp), Int.fmod_eq_emod_of_nonneg _ (Int.le_of_lt hp), Int.mul_emod (i ^ e) i, Int.mul_emod (i ^ e % p) i, Int.emod_emod]
        rw [← this]
        exact kk _ _ lw
    refine ⟨_, rfl, _, rfl, start fun G1 H1 lw => ?_⟩
    have hn : ((n : Int) + 1 - 1).toNat = n := by omega
    refine ⟨_, rfl, _, _, rfl, rfl, 1, _, rfl, ⟨by decide, by decide, by omega, by omega⟩, for_rangeB (lo := 1) (n := ((n : Int) + 1 - 1).toNat)
      (fun j σ H' => ∃ (G' : Hp) (z : Option V), σ = [some (.int p), some (.int i), some (.int n), some (.int (pwi p i (j + 1))), z] ∧ Lw H G none [] G' H' ∧ ∀ e < j, pwi p i (e + 1) ≠ 1)
      (fun σ H' => ∃ (G' : Hp), Lw H G none [] G' H' ∧ ordI p i n = none) (fun σ H' hp => ?_) ⟨G1, none, rfl, lw, fun e he => absurd he (by omega)⟩ (fun hk j σ H' hj hp => ?_) (fun σ H' hp => ?_)⟩
    · obtain ⟨G', lw, e⟩ := hp
      refine k _ _ _ lw ?_
      show V.non = _
      rw [e]
    · obtain ⟨G', z, rfl, lw, no⟩ := hp
      rw [hn] at hj
      refine ⟨_, rfl, rfl, _, rfl, ite2 (fun h => ?_) (fun h => ?_)⟩
      · have h : pwi p i (j + 1) = 1 := by simpa using h
        refine ⟨_, rfl, k _ _ _ lw ?_⟩
        show V.int (1 + (j : Int)) = _
        rw [ordI_hit hj h no]
        show V.int _ = V.int _
        congr 1
        omega
      · have h : pwi p i (j + 1) ≠ 1 := by simpa using h
        refine ⟨_, rfl, _, rfl, _, rfl, step lw fun G2 H2 lw => ⟨G2, _, rfl, lw, fun e he => ?_⟩⟩
        by_cases c : e = j
        · rw [c]
          exact h
        · exact no e (by omega)
    · obtain ⟨G', z, rfl, lw, no⟩ := hp
      rw [hn] at no
      exact ⟨G', lw, ordI_no no⟩
end
end K01

namespace K01
open PySem PySem.Spec PyProof.Rows L2 UfG UfT UfR UfO UfI UfQ UfN
open Evl (Ex)
section
variable {P : Program} {w : World} {K : PySem.W.Frag} {mg : Str → Option Value} {base : Heap}
theorem inV_ints {p : Int} {ns : List Int} : inV (.int p) (ns.map V.int) = ns.contains p := by
  induction ns with
  | nil => rfl
  | cons n ns ih =>
    rw [List.map_cons, List.contains_cons, ← ih]
    show (eqV (.int n) (.int p) || _) = _
    congr 1
    show (n == p) = (p == n)
    exact Bool.beq_comm ..
/-- the grounds -/
def fitP (p : Int) : Bool := decide (p = 0) || [2, 3, 5, 7, 11, 13, 17, 19, 23, 29, 31].contains p
/-- the object at a is the ground p -/
def GrAt (C : Addr) (G : Hp) (a : Addr) (p : Int) : Prop := ∃ dx, G a = some (.ins C dx [("prime", .int p)])
theorem GrAt.ex {C : Addr} {G G' : Hp} {a : Addr} {p : Int} (e : Ex G G') (h : GrAt C G a p) : GrAt C G' a p := by
  obtain ⟨dx, h⟩ := h
  exact ⟨dx, e _ _ h⟩
theorem sc_g_init : FnScope ["self", "prime"] ["self", "prime"] (defScope s_g_init) := ⟨rfl, rfl, rfl, by decide +kernel, rfl, by decide +kernel, by decide +kernel⟩
def sp_g_init (T : Tx K mg) : Sp := fun vs H Q E => ∃ p : Int, InitSp T.ground.C (fun ws _ => ws = [.int p]) (fun _ _ G' x => fitP p = true ∧ GrAt T.ground.C G' x p)
  (fun _ G' C e => fitP p = false ∧ ErAt T (.prime p) G' C e) vs H Q E
theorem ok_g_init (T : Tx K mg) : FnOk P w K mg base (L2N.CX P w) 3 T.g_init.f T.g_init.fd ["self", "prime"] (sp_g_init T) := by
  refine T.g_init.F.ok sc_g_init (fun vs H Q E h => ?_) (fun cdv A outer s H vs Q E hr h => ?_)
  · obtain ⟨p, H1, G, x, dx, ws, rfl, _, rfl, _⟩ := h
    rfl
  · obtain ⟨p, H1, G, x, dx, ws, rfl, lw, rfl, k, kx⟩ := h
    refine ⟨_, (pss_cons (ps_if (PW.pt (pw_and (pt_cmpR op_ne (pv 1) pe_int (nomark _)) (pw_and1 (pt_cmpR (UfK.op_notInK (K := K)) (pv 1) (pe_glob (v := .ref T.PRIMES.t) rfl T.PRIMES.g rfl) (by rfl))))) (pss_one (L2N.ps_raise rfl (L2N.takes_of rfl rfl rfl rfl) (UfH.pmk_oexN T.cPrime.T T.cPrime.iC T.cPrime.tI (oki_prime T) (hr.mono (by decide)) T.cPrime.b rfl T.cPrime.g (pa_cons (pv 1) pa_nil)))) pss_nil)
      (pss_one (ps_fld (pv 0) (pv 1) rfl))), ?_⟩
    have hmem : inV (.int p) ([2, 3, 5, 7, 11, 13, 17, 19, 23, 29, 31].map V.int) = [2, 3, 5, 7, 11, 13, 17, 19, 23, 29, 31].contains p := inV_ints
    have fin : ∀ (bk ct : L2.St → Hp → Prop), fitP p = true → sFld K (tVar 0) (tVar 1) "prime" { nx := fun _ H' => Q .non H', rt := Q, bk := bk, ct := ct } [some (.ref x), some (.int p)] H := fun bk ct h => by
      refine ⟨_, rfl, _, rfl, x, T.ground.C, dx, [], rfl, lw.at, T.ground.c, T.nPrime, (by decide), ?_⟩
      have lw := lw.put (o' := .ins T.ground.C dx [("prime", .int p)])
      obtain ⟨lw, _⟩ := lw.keep
      exact k _ _ lw ⟨h, dx, upd_same⟩
    refine ⟨_, rfl, rfl, _, rfl, ite2 (fun h => ⟨_, rfl, T.PRIMES.t, _, rfl, .inr (T.PRIMES.s _), rfl, rfl, _, rfl, ite2 (fun h2 => ?_) (fun h2 => fin _ _ ?_)⟩) (fun h => fin _ _ ?_)⟩
    · rw [hmem] at h2
      have h : p ≠ 0 := by simpa using h
      refine ⟨_, rfl, mk1_of T.cPrime.T T.noPrime fun q hq => ?_⟩
      refine kx _ _ _ (some q) (lw.drop.alloc hq) ⟨?_, rfl, q, rfl, upd_same⟩
      unfold fitP
      rw [decide_eq_false h, Bool.false_or]
      simpa using h2
    · rw [hmem] at h2
      unfold fitP
      have h2 : [2, 3, 5, 7, 11, 13, 17, 19, 23, 29, 31].contains p = true := by
        cases z : [2, 3, 5, 7, 11, 13, 17, 19, 23, 29, 31].contains p with
        | true => rfl
        | false => exact absurd (by rw [z]; rfl) h2
      rw [h2, Bool.or_true]
    · have h : p = 0 := by simpa using h
      rw [h]
      rfl
end
end K01

namespace K01
open PySem PySem.Spec PyProof.Rows L2 UfG UfT UfR UfO UfI UfQ UfN
open Evl (Ex)
section
variable {P : Program} {w : World} {K : PySem.W.Frag} {mg : Str → Option Value} {base : Heap}
theorem lk_prime {x : V} : List.lookup ("prime" : Str) [(("prime" : Str), x)] = some x := rfl
/-! ### Ground.__eq__ -/
theorem sc_g_eq : FnScope ["self", "other"] ["self", "other"] (defScope s_g_eq) := ⟨rfl, rfl, rfl, by decide +kernel, rfl, by decide +kernel, by decide +kernel⟩
def sp_g_eq (T : Tx K mg) : Sp := fun vs H Q E => ∃ (p : Int) (o : Int ⊕ Int), PureSp (fun vs G => ∃ a y, vs = [.ref a, y] ∧ GrAt T.ground.C G a p ∧ (match o with | .inl q => ∃ b, y = .ref b ∧ GrAt T.ground.C G b q | .inr i => y = .int i)) (fun _ _ _ v => v = .bl (match o with | .inl q => decide (p = q) | .inr _ => false)) vs H Q E
theorem ok_g_eq (T : Tx K mg) : FnOk P w K mg base CX0 3 T.g_eq.f T.g_eq.fd ["self", "other"] (sp_g_eq T) := by
  refine T.g_eq.F.ok sc_g_eq (fun vs H Q E h => ?_) (fun cdv A outer s H vs Q E hr h => ?_)
  · obtain ⟨p, o, G, _, ⟨a, y, rfl, _⟩, _⟩ := h
    rfl
  · obtain ⟨p, o, G, lw, ⟨a, y, rfl, ⟨dx, ha⟩, hy⟩, k⟩ := h
    have Ha := lw.gh _ _ ha
    refine ⟨_, (pss_one (ps_ret (pe_and (pe_callB (UfK.call_isiK' (K := K)) (by rfl) T.z_isinstance (by decide +kernel) (pa_cons (pv 1) (pa_cons (pe_glob (v := .ref T.ground.C) rfl T.ground.g rfl) pa_nil))) (pe_one (pe_cmpR op_eq (UfK.pe_fldK (K := K) (pv 0) rfl) (UfK.pe_fldK (K := K) (pv 1) rfl) (nomark _)))))), ?_⟩
    cases o with
    | inr i =>
      cases (show y = .int i from hy)
      exact ⟨_, rfl, .int i, .ref T.ground.C, .type "int", .ref T.ground.C, false, rfl, .own _, .base (.int _), T.kIG, false, rfl, iteF (k _ _ _ lw rfl)⟩
    | inl q =>
      obtain ⟨b, rfl, dy, hb⟩ := (show ∃ b, y = .ref b ∧ GrAt T.ground.C G b q from hy)
      have Hb := lw.gh _ _ hb
      refine ⟨_, rfl, .ref b, .ref T.ground.C, .ref T.ground.C, .ref T.ground.C, true, rfl, .own _, T.ground.ty Hb, T.kGG, true, rfl, iteT ?_⟩
      refine ⟨_, rfl, a, T.ground.C, dx, _, _, rfl, Ha, T.ground.c, T.nPrime, lk_prime, _, rfl, b, T.ground.C, dy, _, _, rfl, Hb, T.ground.c, T.nPrime, lk_prime, rfl, k _ _ _ lw ?_⟩
      show V.bl (decide (V.int p = V.int q)) = .bl (decide (p = q))
      congr 1
      rw [decide_eq_decide]
      exact ⟨fun z => by injection z, fun z => by rw [z]⟩

/-! ### the methods, by what they call -/
/-- a is a ground p, then the values -/
def Gsp (C : Addr) (f : Int → Sp) : Sp := fun vs H Q E => ∃ (a : Addr) (ws : List V) (p : Int), vs = .ref a :: ws ∧ GrAt C H a p ∧ f p ws H Q E
theorem sc_g_number : FnScope ["self", "value"] ["self", "value"] (defScope s_g_number) := ⟨rfl, rfl, rfl, by decide +kernel, rfl, by decide +kernel, by decide +kernel⟩
def sp_g_number (T : Tx K mg) : Sp := Gsp T.ground.C fun p ws H Q _ => ∃ x, ws = [x] ∧ sp_in_form T [.int p, x] H Q E0
theorem ok_g_number (T : Tx K mg) : FnOk P w K mg base CX0 3 T.g_number.f T.g_number.fd ["self", "value"] (sp_g_number T) := by
  refine T.g_number.F.ok sc_g_number (fun vs H Q E h => ?_) (fun cdv A outer s H vs Q E hr h => ?_)
  · obtain ⟨a, _, p, rfl, _, x, rfl, _⟩ := h
    rfl
  · obtain ⟨a, _, p, rfl, ⟨dx, Ha⟩, x, rfl, h⟩ := h
    refine ⟨_, (pss_one (ps_ret (pe_call (ok_in_form T) (hr.mono (by decide)) (by rfl) T.in_form.g T.in_form.F.kp T.in_form.b .nil pass0 (pa_cons (UfK.pe_fldK (K := K) (pv 0) rfl) (pa_cons (pv 1) pa_nil))))), ?_⟩
    exact ⟨_, rfl, a, T.ground.C, dx, _, _, rfl, Ha, T.ground.c, T.nPrime, lk_prime, _, rfl, h⟩
theorem sc_g_plus : FnScope ["self", "first", "second"] ["self", "first", "second"] (defScope s_g_plus) := ⟨rfl, rfl, rfl, by decide +kernel, rfl, by decide +kernel, by decide +kernel⟩
def sp_g_plus (T : Tx K mg) : Sp := Gsp T.ground.C fun p ws H Q _ => ∃ x y, ws = [x, y] ∧ sp_plain_sum T [.int p, x, y] H Q E0
theorem ok_g_plus (T : Tx K mg) : FnOk P w K mg base CX0 10 T.g_plus.f T.g_plus.fd ["self", "first", "second"] (sp_g_plus T) := by
  refine T.g_plus.F.ok sc_g_plus (fun vs H Q E h => ?_) (fun cdv A outer s H vs Q E hr h => ?_)
  · obtain ⟨a, _, p, rfl, _, x, y, rfl, _⟩ := h
    rfl
  · obtain ⟨a, _, p, rfl, ⟨dx, Ha⟩, x, y, rfl, h⟩ := h
    refine ⟨_, (pss_one (ps_ret (pe_call (ok_plain_sum T) (hr.mono (by decide)) (by rfl) T.plain_sum.g T.plain_sum.F.kp T.plain_sum.b .nil pass0 (pa_cons (UfK.pe_fldK (K := K) (pv 0) rfl) (pa_cons (pv 1) (pa_cons (pv 2) pa_nil)))))), ?_⟩
    exact ⟨_, rfl, a, T.ground.C, dx, _, _, rfl, Ha, T.ground.c, T.nPrime, lk_prime, _, rfl, _, rfl, h⟩
theorem sc_g_minus : FnScope ["self", "first", "second"] ["self", "first", "second"] (defScope s_g_minus) := ⟨rfl, rfl, rfl, by decide +kernel, rfl, by decide +kernel, by decide +kernel⟩
def sp_g_minus (T : Tx K mg) : Sp := Gsp T.ground.C fun p ws H Q _ => ∃ x y, ws = [x, y] ∧ rOwnNeg T.frac.C (sp_f_neg T) E0 y H fun z H' => sp_plain_sum T [.int p, x, z] H' Q E0
theorem ok_g_minus (T : Tx K mg) : FnOk P w K mg base CX0 10 T.g_minus.f T.g_minus.fd ["self", "first", "second"] (sp_g_minus T) := by
  refine T.g_minus.F.ok sc_g_minus (fun vs H Q E h => ?_) (fun cdv A outer s H vs Q E hr h => ?_)
  · obtain ⟨a, _, p, rfl, _, x, y, rfl, _⟩ := h
    rfl
  · obtain ⟨a, _, p, rfl, ⟨dx, Ha⟩, x, y, rfl, h⟩ := h
    refine ⟨_, (pss_one (ps_ret (pe_call (ok_plain_sum T) (hr.mono (by decide)) (by rfl) T.plain_sum.g T.plain_sum.F.kp T.plain_sum.b .nil pass0 (pa_cons (UfK.pe_fldK (K := K) (pv 0) rfl) (pa_cons (pv 1) (pa_cons (pe_un (UfO.un_ownNeg (hr.mono (by decide)) T.f_neg.m.at_ T.f_neg.m.fn (ok_f_neg T) T.f_neg.b pass0) (pv 2)) pa_nil)))))), ?_⟩
    exact ⟨_, rfl, a, T.ground.C, dx, _, _, rfl, Ha, T.ground.c, T.nPrime, lk_prime, _, rfl, _, rfl, h⟩
theorem sc_g_times : FnScope ["self", "first", "second"] ["self", "first", "second"] (defScope s_g_times) := ⟨rfl, rfl, rfl, by decide +kernel, rfl, by decide +kernel, by decide +kernel⟩
def sp_g_times (T : Tx K mg) : Sp := Gsp T.ground.C fun p ws H Q _ => ∃ x y, ws = [x, y] ∧ sp_plain_times T [.int p, x, y] H Q E0
theorem ok_g_times (T : Tx K mg) : FnOk P w K mg base CX0 10 T.g_times.f T.g_times.fd ["self", "first", "second"] (sp_g_times T) := by
  refine T.g_times.F.ok sc_g_times (fun vs H Q E h => ?_) (fun cdv A outer s H vs Q E hr h => ?_)
  · obtain ⟨a, _, p, rfl, _, x, y, rfl, _⟩ := h
    rfl
  · obtain ⟨a, _, p, rfl, ⟨dx, Ha⟩, x, y, rfl, h⟩ := h
    refine ⟨_, (pss_one (ps_ret (pe_call (ok_plain_times T) (hr.mono (by decide)) (by rfl) T.plain_times.g T.plain_times.F.kp T.plain_times.b .nil pass0 (pa_cons (UfK.pe_fldK (K := K) (pv 0) rfl) (pa_cons (pv 1) (pa_cons (pv 2) pa_nil)))))), ?_⟩
    exact ⟨_, rfl, a, T.ground.C, dx, _, _, rfl, Ha, T.ground.c, T.nPrime, lk_prime, _, rfl, _, rfl, h⟩
theorem sc_g_negative : FnScope ["self", "number"] ["self", "number"] (defScope s_g_negative) := ⟨rfl, rfl, rfl, by decide +kernel, rfl, by decide +kernel, by decide +kernel⟩
def sp_g_negative (T : Tx K mg) : Sp := Gsp T.ground.C fun p ws H Q _ => ∃ x, ws = [x] ∧ rOwnNeg T.frac.C (sp_f_neg T) E0 x H fun z H' => sp_in_form T [.int p, z] H' Q E0
theorem ok_g_negative (T : Tx K mg) : FnOk P w K mg base CX0 10 T.g_negative.f T.g_negative.fd ["self", "number"] (sp_g_negative T) := by
  refine T.g_negative.F.ok sc_g_negative (fun vs H Q E h => ?_) (fun cdv A outer s H vs Q E hr h => ?_)
  · obtain ⟨a, _, p, rfl, _, x, rfl, _⟩ := h
    rfl
  · obtain ⟨a, _, p, rfl, ⟨dx, Ha⟩, x, rfl, h⟩ := h
    refine ⟨_, (pss_one (ps_ret (pe_call (ok_in_form T) (hr.mono (by decide)) (by rfl) T.in_form.g T.in_form.F.kp T.in_form.b .nil pass0 (pa_cons (UfK.pe_fldK (K := K) (pv 0) rfl) (pa_cons (pe_un (UfO.un_ownNeg (hr.mono (by decide)) T.f_neg.m.at_ T.f_neg.m.fn (ok_f_neg T) T.f_neg.b pass0) (pv 1)) pa_nil))))), ?_⟩
    exact ⟨_, rfl, a, T.ground.C, dx, _, _, rfl, Ha, T.ground.c, T.nPrime, lk_prime, _, rfl, h⟩
theorem sc_g_over : FnScope ["self", "first", "second"] ["self", "first", "second"] (defScope s_g_over) := ⟨rfl, rfl, rfl, by decide +kernel, rfl, by decide +kernel, by decide +kernel⟩
def sp_g_over (T : Tx K mg) : Sp := Gsp T.ground.C fun p ws H Q E => ∃ x y, ws = [x, y] ∧ sp_plain_over T [.int p, x, y] H Q E
theorem ok_g_over (T : Tx K mg) : FnOk P w K mg base (L2N.CX P w) 12 T.g_over.f T.g_over.fd ["self", "first", "second"] (sp_g_over T) := by
  refine fun_okX T.g_over.F sc_g_over (fun vs H Q E h => ?_) (fun cdv A outer s H vs Q E hr h => ?_)
  · obtain ⟨a, _, p, rfl, _, x, y, rfl, _⟩ := h
    rfl
  · obtain ⟨a, _, p, rfl, ⟨dx, Ha⟩, x, y, rfl, h⟩ := h
    refine ⟨_, (pss_one (ps_ret (pe_callS (ok_plain_over T) (hr.mono (by decide)) rfl T.plain_over.g T.plain_over.F.kp T.plain_over.b (fun σ => L2N.passAt (L2N.takes_of rfl rfl rfl rfl) σ) (pa_cons (UfK.pe_fldK (K := K) (pv 0) rfl) (pa_cons (pv 1) (pa_cons (pv 2) pa_nil)))))), ?_⟩
    exact ⟨_, rfl, a, T.ground.C, dx, _, _, rfl, Ha, T.ground.c, T.nPrime, lk_prime, _, rfl, _, rfl, h⟩
theorem sc_g_power : FnScope ["self", "number", "count"] ["self", "number", "count"] (defScope s_g_power) := ⟨rfl, rfl, rfl, by decide +kernel, rfl, by decide +kernel, by decide +kernel⟩
def sp_g_power (T : Tx K mg) : Sp := Gsp T.ground.C fun p ws H Q E => ∃ (x : V) (n : Int), ws = [x, .int n] ∧ if 0 ≤ n ∧ n ≤ 100 then sp_plain_power T [.int p, x, .int n] H Q E0 else
  ∃ G, Lw H G none [] G H ∧ ∀ G' H' C d, Lw H G none [] G' H' → ErAt T (.count n) G' C d → E (.ref C) d H'
theorem ok_g_power (T : Tx K mg) : FnOk P w K mg base (L2N.CX P w) 12 T.g_power.f T.g_power.fd ["self", "number", "count"] (sp_g_power T) := by
  refine fun_okX T.g_power.F sc_g_power (fun vs H Q E h => ?_) (fun cdv A outer s H vs Q E hr h => ?_)
  · obtain ⟨a, _, p, rfl, _, x, n, rfl, _⟩ := h
    rfl
  · obtain ⟨a, _, p, rfl, ⟨dx, Ha⟩, x, n, rfl, h⟩ := h
    refine ⟨_, (pss_cons (ps_if (pt_not (pt_chain op_le op_le pe_int (pv 2) (pe_glob (v := .int 100) rfl T.c_MOST_FACTORS.2 ⟨_, rfl⟩))) (pss_one (L2N.ps_raise rfl (L2N.takes_of rfl rfl rfl rfl) (UfH.pmk_oexN T.cCount.T T.cCount.iC T.cCount.tI (oki_count T) (hr.mono (by decide)) T.cCount.b rfl T.cCount.g (pa_cons (pv 2) pa_nil)))) pss_nil)
      (pss_one (ps_ret (pe_call (ok_plain_power T) (hr.mono (by decide)) (by rfl) T.plain_power.g T.plain_power.F.kp T.plain_power.b .nil pass0 (pa_cons (UfK.pe_fldK (K := K) (pv 0) rfl) (pa_cons (pv 1) (pa_cons (pv 2) pa_nil))))))), ?_⟩
    have bad : ¬ (0 ≤ n ∧ n ≤ 100) → tMkO T.cCount.C (spI1 K "count") [] (tCons (tVar 2) tNil) [some (.ref a), some x, some (.int n)] H fun cls d H' => E cls d H' := fun z => by
      rw [if_neg z] at h
      obtain ⟨G, lw, kx⟩ := h
      exact ⟨_, rfl, mk1_of T.cCount.T T.noCount fun q hq => kx _ _ _ (some q) (lw.alloc hq) ⟨rfl, q, rfl, upd_same⟩⟩
    refine ⟨_, rfl, _, _, rfl, rfl, _, rfl, ite2 (fun h1 => ⟨_, _, rfl, rfl, _, rfl, ite2 (fun h2 => bad (fun z => ?_)) (fun h2 => ?_)⟩) (fun h1 => ⟨_, rfl, bad fun z => h1 (decide_eq_true z.1)⟩)⟩
    · rw [decide_eq_true z.2] at h2
      cases h2
    · have z : 0 ≤ n ∧ n ≤ 100 := ⟨by simpa using h1, by simpa using h2⟩
      rw [if_pos z] at h
      exact ⟨_, rfl, a, T.ground.C, dx, _, _, rfl, Ha, T.ground.c, T.nPrime, lk_prime, _, rfl, _, rfl, h⟩
theorem sc_g_numbers : FnScope ["self"] ["self"] (defScope s_g_numbers) := ⟨rfl, rfl, rfl, by decide +kernel, rfl, by decide +kernel, by decide +kernel⟩
def sp_g_numbers (T : Tx K mg) : Sp := Gsp T.ground.C fun p ws H Q E => ws = [] ∧ RaiseN (fun _ _ => 0 ≤ p ∧ p < 1000) (fun _ G G' v => p ≠ 0 ∧ ∃ t, v = .ref t ∧ G t = none ∧ G' t = some (.lst (rgV 0 p))) (fun _ G' C e => p = 0 ∧ ErAt T (.wrong 0) G' C e) [] H Q E
theorem ok_g_numbers (T : Tx K mg) : FnOk P w K mg base (L2N.CX P w) 3 T.g_numbers.f T.g_numbers.fd ["self"] (sp_g_numbers T) := by
  refine fun_okX T.g_numbers.F sc_g_numbers (fun vs H Q E h => ?_) (fun cdv A outer s H vs Q E hr h => ?_)
  · obtain ⟨a, _, p, rfl, _, rfl, _⟩ := h
    rfl
  · obtain ⟨a, _, p, rfl, ⟨dx, Ha⟩, rfl, G, lw, ⟨p0, p1⟩, k, kx⟩ := h
    refine ⟨_, (pss_cons (ps_if (pt_cmpR op_eq (UfK.pe_fldK (K := K) (pv 0) rfl) pe_int (nomark _)) (pss_one (L2N.ps_raise rfl (L2N.takes_of rfl rfl rfl rfl) (UfH.pmk_oexN T.cWrong.T T.cWrong.iC T.cWrong.tI (oki_wrong T) (hr.mono (by decide)) T.cWrong.b rfl T.cWrong.g (pa_cons pe_int pa_nil)))) pss_nil)
      (pss_one (ps_ret (pe_listRg rfl rfl T.z_list (prg_1 rfl T.z_range (UfK.pe_fldK (K := K) (pv 0) rfl)))))), ?_⟩
    refine ⟨_, rfl, a, T.ground.C, dx, _, _, rfl, Ha, T.ground.c, T.nPrime, lk_prime, rfl, _, rfl, ite2 (fun h => ?_) (fun h => ?_)⟩
    · have z : p = 0 := by simpa using h
      exact mk1_of T.cWrong.T T.noWrong fun q hq => kx _ _ _ (some q) (lw.alloc hq) ⟨z, rfl, q, rfl, upd_same⟩
    · have z : p ≠ 0 := by simpa using h
      refine ⟨_, rfl, a, T.ground.C, dx, _, _, rfl, Ha, T.ground.c, T.nPrime, lk_prime, _, rfl, .of_le (by decide) (by omega) (by decide) p0, fun t n => ?_⟩
      have fr := lw.free n
      obtain ⟨G1, e1, lw, h⟩ := lw.allocE (o := .lst (rgV 0 p)) n
      exact k _ _ _ lw ⟨z, t, rfl, fr, h⟩
end
end K01

namespace K01
open PySem PySem.Spec PyProof.Rows L2 UfG UfT UfR UfO UfI UfQ UfN
open Evl (Ex)
section
variable {P : Program} {w : World} {K : PySem.W.Frag} {mg : Str → Option Value} {base : Heap}
/-- the roots of 1 in the ground p, from low to high -/
def rootsP (p : Int) (n : Nat) (m : Nat) : List Int := ((List.range m).map fun (e : Nat) => 1 + (e : Int)).filter fun r => decide ((r ^ n).fmod p = 1)
def rootsI (p : Int) (n : Nat) : List Int := if p = 0 then (if n % 2 = 1 then [1] else [1, -1]) else rootsP p n (p - 1).toNat
theorem sc_g_roots : FnScope ["self", "count", "number"] ["self", "count"] (defScope s_g_roots) := ⟨rfl, rfl, rfl, by decide +kernel, rfl, by decide +kernel, by decide +kernel⟩
def sp_g_roots (T : Tx K mg) : Sp := Gsp T.ground.C fun p ws H Q E => ∃ n : Int, ws = [.int n] ∧ RaiseN (fun _ _ => 0 ≤ p ∧ p < 1000) (fun _ G G' v => 1 ≤ n ∧ n ≤ 100 ∧ ∃ t, v = .ref t ∧ G t = none ∧ G' t = some (.lst ((rootsI p n.toNat).map V.int))) (fun _ G' C e => ¬ (1 ≤ n ∧ n ≤ 100) ∧ ErAt T (.count n) G' C e) [] H Q E
theorem ok_g_roots (T : Tx K mg) : FnOk P w K mg base (L2N.CX P w) 12 T.g_roots.f T.g_roots.fd ["self", "count"] (sp_g_roots T) := by
  refine fun_okX T.g_roots.F sc_g_roots (fun vs H Q E h => ?_) (fun cdv A outer s H vs Q E hr h => ?_)
  · obtain ⟨a, _, p, rfl, _, n, rfl, _⟩ := h
    rfl
  · obtain ⟨a, _, p, rfl, ⟨dx, Ha⟩, n, rfl, G, lw, ⟨p0, p1⟩, k, kx⟩ := h
    refine ⟨_, (pss_cons (ps_if (pt_not (pt_chain op_le op_le pe_int (pv 1) (pe_glob (v := .int 100) rfl T.c_MOST_FACTORS.2 ⟨_, rfl⟩))) (pss_one (L2N.ps_raise rfl (L2N.takes_of rfl rfl rfl rfl) (UfH.pmk_oexN T.cCount.T T.cCount.iC T.cCount.tI (oki_count T) (hr.mono (by decide)) T.cCount.b rfl T.cCount.g (pa_cons (pv 1) pa_nil)))) pss_nil)
      (pss_cons (ps_if (pt_cmpR op_eq (UfK.pe_fldK (K := K) (pv 0) rfl) pe_int (nomark _)) (pss_one (ps_ret (pe_ifExp (pt_cmpR op_eq (pe_op op_modN (pv 1) pe_int) pe_int (nomark _)) (pe_lst (pa_cons pe_int pa_nil)) (pe_lst (pa_cons pe_int (pa_cons (pe_un un_neg pe_int) pa_nil)))))) pss_nil)
      (pss_one (ps_ret (pe_lc (own := [("number", 2)]) rfl sc_g_roots.nd (pi_range2 rfl T.z_range (pa_cons pe_int (pa_cons (UfK.pe_fldK (K := K) (pv 0) rfl) pa_nil))) (blkOk_by (own := [("number", 2)]) (N := ["self", "count", "number"]) (sc := defScope s_g_roots) (by decide +kernel)) (fun _ _ _ _ _ => by exact pg_name (i := 2) sc_g_roots.nd rfl (.inl rfl)) (fun _ _ _ _ _ => (pts_one (pt_cmpR op_eq (pe_call (ok_plain_power T) (hr.mono (by decide)) (by rfl) T.plain_power.g T.plain_power.F.kp T.plain_power.b .nil pass0 (pa_cons (UfK.pe_fldK (K := K) (pv 0) rfl) (pa_cons (pv 2) (pa_cons (pv 1) pa_nil)))) pe_int (nomark _)))) (fun _ _ _ _ _ => (pv 2))))))), ?_⟩
    have bad : ¬ (1 ≤ n ∧ n ≤ 100) → tMkO T.cCount.C (spI1 K "count") [] (tCons (tVar 1) tNil) [some (.ref a), some (.int n), none] H fun cls d H' => E cls d H' := fun z =>
      ⟨_, rfl, mk1_of T.cCount.T T.noCount fun q hq => kx _ _ _ (some q) (lw.alloc hq) ⟨z, rfl, q, rfl, upd_same⟩⟩
    refine ⟨_, rfl, _, _, rfl, rfl, _, rfl, ite2 (fun h1 => ⟨_, _, rfl, rfl, _, rfl, ite2 (fun h2 => bad (fun z => ?_)) (fun h2 => ?_)⟩) (fun h1 => ⟨_, rfl, bad fun z => h1 (decide_eq_true z.1)⟩)⟩
    · rw [decide_eq_true z.2] at h2
      cases h2
    · have z : 1 ≤ n ∧ n ≤ 100 := ⟨by simpa using h1, by simpa using h2⟩
      obtain ⟨m, rfl⟩ := Int.eq_ofNat_of_zero_le (show 0 ≤ n by omega)
      refine ⟨_, rfl, a, T.ground.C, dx, _, _, rfl, Ha, T.ground.c, T.nPrime, lk_prime, rfl, _, rfl, ite2 (fun h => ?_) (fun h => ?_)⟩
      · have z0 : p = 0 := by simpa using h
        have em : ((m : Int).fmod 2) = ((m % 2 : Nat) : Int) := by rw [Int.fmod_eq_emod_of_nonneg _ (by decide)]; rfl
        refine ⟨_, rfl, _, _, rfl, rfl, (show (2 : Int) ≠ 0 by decide), rfl, _, rfl, ite2 (fun h3 => ?_) (fun h3 => ?_)⟩
        · have o : m % 2 = 1 := by
            have z : (m : Int).fmod 2 = 1 := by simpa using h3
            omega
          refine ⟨(by show 1 ≤ sizeLine; decide), fun t n => ?_⟩
          have fr := lw.free n
          obtain ⟨G1, e1, lw, h⟩ := lw.allocE (o := .lst [.int 1]) n
          refine k _ _ _ lw ⟨z.1, z.2, t, rfl, fr, ?_⟩
          rw [h]
          unfold rootsI
          rw [if_pos z0, Int.toNat_natCast, if_pos o]
          rfl
        · have o : ¬ m % 2 = 1 := fun z => h3 (by
            have : (m : Int).fmod 2 = 1 := by omega
            simp [this])
          refine ⟨_, rfl, (by show 2 ≤ sizeLine; decide), fun t n => ?_⟩
          have fr := lw.free n
          obtain ⟨G1, e1, lw, h⟩ := lw.allocE (o := .lst [.int 1, .int (-1)]) n
          refine k _ _ _ lw ⟨z.1, z.2, t, rfl, fr, ?_⟩
          rw [h]
          unfold rootsI
          rw [if_pos z0, Int.toNat_natCast, if_neg o]
          rfl
      · have z0 : p ≠ 0 := by simpa using h
        refine ⟨_, rfl, a, T.ground.C, dx, _, _, rfl, Ha, T.ground.c, T.nPrime, lk_prime, 1, p, rfl, ⟨by decide, by decide, by omega, by omega⟩, fun D hD => ?_⟩
        refine it_rng (lo := 1) (n := (p - 1).toNat) (fun j H2 => ∃ G2, Lw H G none [(D, .lst ((rootsP p m j).map V.int))] G2 H2) ⟨_, lw.make hD⟩ (fun j H2 hj hp => ?_) (fun H2 hp => ?_)
        · obtain ⟨G2, lw2⟩ := hp
          have Ha2 := lw2.old a _ (fun q e => nomatch e) Ha
          have hp0 : 0 < p := by omega
          have pb : p.natAbs < 2 ^ 4000 := Nat.lt_trans (show p.natAbs < 1000 by omega) (by decide +kernel)
          refine ⟨rfl, _, rfl, a, T.ground.C, dx, _, _, rfl, Ha2, T.ground.c, T.nPrime, lk_prime, _, rfl, _, rfl, ?_⟩
          show sp_plain_power T [.int p, .int (1 + (j:Int)), .int (m:Int)] H2 _ E0
          refine call_powerP lw2 hp0 pb fun G3 H3 e lw2 => ?_
          refine ⟨rfl, _, rfl, ite2 (fun h => ?_) (fun h => ?_)⟩
          · have hs : rootsP p m (j + 1) = rootsP p m j ++ [1 + (j : Int)] := by
              unfold rootsP
              rw [List.range_succ, List.map_append, List.filter_append]
              congr 1
              have hc : ((1 + (j : Int)) ^ m).fmod p = 1 := by simpa using h
              show List.filter _ [1 + (j : Int)] = _
              rw [List.filter_cons, if_pos (decide_eq_true hc)]
              rfl
            refine ⟨_, rfl, _, lw2.at, Evl.sz_lt ?_, G3, ?_⟩
            · rw [List.length_map]
              have := List.length_filter_le (fun r => decide ((r ^ m).fmod p = 1)) ((List.range j).map fun (e : Nat) => 1 + (e : Int))
              rw [List.length_map, List.length_range] at this
              unfold rootsP
              omega
            · rw [hs, List.map_append]
              exact lw2.put
          · have hs : rootsP p m (j + 1) = rootsP p m j := by
              unfold rootsP
              rw [List.range_succ, List.map_append, List.filter_append]
              have hc : ¬ ((1 + (j : Int)) ^ m).fmod p = 1 := by simpa using h
              show _ ++ List.filter _ [1 + (j : Int)] = _
              rw [List.filter_cons, if_neg (by simpa using hc)]
              exact List.append_nil _
            exact ⟨G3, by rw [hs]; exact lw2⟩
        · obtain ⟨G2, lw2⟩ := hp
          obtain ⟨lw2, e2⟩ := lw2.keep
          refine k _ _ _ lw2 ⟨z.1, z.2, D, rfl, lw.free hD, ?_⟩
          rw [upd_same]
          unfold rootsI
          rw [if_neg z0, Int.toNat_natCast]
end
end K01

namespace K01
open PySem PySem.Spec PyProof.Rows L2 UfG UfT UfR UfO UfI UfQ UfN
open Evl (Ex)
section
variable {P : Program} {w : World} {K : PySem.W.Frag} {mg : Str → Option Value} {base : Heap}
theorem rootsI_bd {p r : Int} {n : Nat} (h : r ∈ rootsI p n) (p0 : 0 ≤ p) (p1 : p < 1000) : (p = 0 → r.natAbs ≤ 1) ∧ r.natAbs < 1000 := by
  unfold rootsI at h
  by_cases z : p = 0
  · rw [if_pos z] at h
    have : r = 1 ∨ r = -1 := by
      split at h
      · exact .inl (List.mem_singleton.mp h)
      · simpa using h
    omega
  · rw [if_neg z] at h
    unfold rootsP at h
    have h := (List.mem_filter.mp h).1
    obtain ⟨e, he, rfl⟩ := List.mem_map.mp h
    have := List.mem_range.mp he
    omega
theorem rootsI_len {p : Int} {n : Nat} (p0 : 0 ≤ p) (p1 : p < 1000) : (rootsI p n).length ≤ 1000 := by
  unfold rootsI
  by_cases z : p = 0
  · rw [if_pos z]
    split <;> decide
  · rw [if_neg z]
    unfold rootsP
    have := List.length_filter_le (fun r => decide ((r ^ n).fmod p = 1)) ((List.range (p - 1).toNat).map fun (e : Nat) => 1 + (e : Int))
    rw [List.length_map, List.length_range] at this
    omega
/-- the least root of 1 of the order n -/
def leastI (p : Int) (n : Nat) : Option Int := (rootsI p n).find? fun r => decide (ordI p r n = some n)
theorem sc_g_least : FnScope ["self", "count", "number"] ["self", "count"] (defScope s_g_least) := ⟨rfl, rfl, rfl, by decide +kernel, rfl, by decide +kernel, by decide +kernel⟩
def sp_g_least (T : Tx K mg) : Sp := Gsp T.ground.C fun p ws H Q E => ∃ n : Int, ws = [.int n] ∧ RaiseN (fun _ _ => 0 ≤ p ∧ p < 1000) (fun _ _ G' v => 1 ≤ n ∧ n ≤ 100 ∧ v = match leastI p n.toNat with | some r => .int r | none => .non) (fun _ G' C e => ¬ (1 ≤ n ∧ n ≤ 100) ∧ ErAt T (.count n) G' C e) [] H Q E
theorem ok_g_least (T : Tx K mg) : FnOk P w K mg base (L2N.CX P w) 13 T.g_least.f T.g_least.fd ["self", "count"] (sp_g_least T) := by
  refine fun_okX T.g_least.F sc_g_least (fun vs H Q E h => ?_) (fun cdv A outer s H vs Q E hr h => ?_)
  · obtain ⟨a, _, p, rfl, _, n, rfl, _⟩ := h
    rfl
  · obtain ⟨a, _, p, rfl, ⟨dx, Ha⟩, n, rfl, G, lw, ⟨p0, p1⟩, k, kx⟩ := h
    refine ⟨_, (pss_cons (ps_for (passes_of rfl) rfl (UfK.pi_listK (K := K) (UfR.pe_methQ (pv 0) T.ground.c T.g_roots.m (ok_g_roots T) (hr.mono (by decide)) T.g_roots.b (fun σ => L2N.passAt (L2N.takes_of rfl rfl rfl rfl) σ) (pa_cons (pv 1) pa_nil))) (pg_name (i := 2) sc_g_least.nd rfl (.inl rfl)) (pss_one (ps_if (pt_cmpR op_eq (pe_call (ok_root_order T) (hr.mono (by decide)) (by rfl) T.root_order.g T.root_order.F.kp T.root_order.b .nil pass0 (pa_cons (UfK.pe_fldK (K := K) (pv 0) rfl) (pa_cons (pv 2) (pa_cons (pv 1) pa_nil)))) (pv 1) (nomark _)) (pss_one (ps_ret (pv 2))) pss_nil)))
      (pss_one (ps_ret pe_non))), ?_⟩
    have pb : p.natAbs < 2 ^ 4000 := Nat.lt_trans (show p.natAbs < 1000 by omega) (by decide +kernel)
    refine ⟨_, rfl, a, dx, _, rfl, Ha, rfl, _, rfl, a, [.int n], p, rfl, ⟨dx, Ha⟩, n, rfl, call_raiseN lw ⟨p0, p1⟩ (fun G1 H1 v e1 lw hv => ?_) fun G1 H1 C q e1 lw hv => kx _ _ _ _ lw hv⟩
    obtain ⟨n1, n2, t, rfl, _, ht⟩ := hv
    obtain ⟨m, rfl⟩ := Int.eq_ofNat_of_zero_le (show 0 ≤ n by omega)
    rw [Int.toNat_natCast] at ht
    refine ⟨t, rfl, ⟨_, SqL.g lw ht⟩, for_list (xs := (rootsI p m).map V.int) (fun j σ H' => ∃ (G' : Hp) (z : Option V), σ = [some (.ref a), some (.int (m : Int)), z] ∧ Lw H G none [] G' H' ∧ G' t = some (.lst ((rootsI p m).map V.int)) ∧ ∀ r ∈ (rootsI p m).take j, ordI p r m ≠ some m)
      ⟨G1, none, rfl, lw, ht, fun r hr => by simp at hr⟩ (fun j σ H' hj hp => ?_) (fun j x σ H' hx hp => ?_) (fun σ H' hp => ?_)⟩
    · obtain ⟨G', z, rfl, lw, ht, _⟩ := hp
      exact SqL.g lw ht
    · obtain ⟨G', z, rfl, lw, ht, no⟩ := hp
      obtain ⟨r, hr', rfl⟩ : ∃ r, (rootsI p m)[j]? = some r ∧ x = .int r := by
        rw [List.getElem?_map] at hx
        cases e : (rootsI p m)[j]? with
        | none => rw [e] at hx; cases hx
        | some b => rw [e] at hx; exact ⟨b, rfl, (Option.some.inj hx).symm⟩
      have bd := rootsI_bd (List.mem_of_getElem? hr') p0 p1
      have Ha' := lw.old a _ (fun q e => nomatch e) Ha
      refine ⟨_, rfl, a, T.ground.C, dx, _, _, rfl, Ha', T.ground.c, T.nPrime, lk_prime, _, rfl, _, rfl, p, r, m, call_pure lw ⟨rfl, p0, pb, bd.1, Nat.lt_trans bd.2 (by decide +kernel), by omega⟩ fun G2 H2 v e2 lw hv => ?_⟩
      have hd : decide (v = V.int (m : Int)) = decide (ordI p r m = some m) := by
        rw [hv, decide_eq_decide]
        cases ordI p r m with
        | none => exact ⟨(fun z => nomatch z), fun z => nomatch z⟩
        | some e =>
          constructor
          · intro z
            injection z with z
            rw [Int.ofNat_inj.mp z]
          · intro z
            rw [Option.some.inj z]
      refine ⟨_, rfl, by rw [hv]; cases ordI p r m <;> rfl, _, rfl, ?_⟩
      rw [hd]
      refine ite2 (fun h => ?_) (fun h => ?_)
      · have h := of_decide_eq_true h
        refine ⟨_, rfl, k _ _ _ lw ⟨n1, n2, ?_⟩⟩
        have : leastI p m = some r := by
          unfold leastI
          rw [List.find?_eq_some_iff_append]
          refine ⟨decide_eq_true h, (rootsI p m).take j, (rootsI p m).drop (j + 1), ?_, fun b hb => by rw [decide_eq_false (no b hb)]; rfl⟩
          obtain ⟨hj, e⟩ := List.getElem?_eq_some_iff.mp hr'
          rw [← e, ← List.drop_eq_getElem_cons hj, List.take_append_drop]
        rw [Int.toNat_natCast, this]
      · refine ⟨G2, some (.int r), rfl, lw, e2 _ _ ht, fun b hb => ?_⟩
        rw [List.take_add_one, hr'] at hb
        rcases List.mem_append.mp hb with hb | hb
        · exact no b hb
        · have : b = r := List.mem_singleton.mp hb
          rw [this]
          exact fun z => h (decide_eq_true z)
    · obtain ⟨G', z, rfl, lw, ht, no⟩ := hp
      rw [List.length_map, List.take_length] at no
      refine k _ _ _ lw ⟨n1, n2, ?_⟩
      have : leastI p m = none := by
        unfold leastI
        rw [List.find?_eq_none]
        exact fun b hb => by rw [decide_eq_false (no b hb)]; exact Bool.false_ne_true
      rw [Int.toNat_natCast, this]
end
end K01

namespace K01
open PySem PySem.Spec PyProof.Rows L2 UfG UfT UfR UfO UfI UfQ UfN SX UfX
open Evl (Ex)
section
variable {P : Program} {w : World} {K : PySem.W.Frag} {mg : Str → Option Value} {base : Heap}
theorem ten_digits : ("0123456789" : Str) = S [48, 49, 50, 51, 52, 53, 54, 55, 56, 57] := by decide +kernel
theorem in_digits (c : Nat) : (!(Builtin.Str.occurrences ("0123456789" : Str) (S [c]) 0 ("0123456789" : Str).length 1).isEmpty) = (decide (48 ≤ c) && decide (c ≤ 57)) := by
  rw [ten_digits, in_one]
  by_cases h : 48 ≤ c ∧ c ≤ 57
  · rw [decide_eq_true h.1, decide_eq_true h.2]
    refine decide_eq_true ?_
    have : c < 58 := by omega
    have h1 := h.1
    clear h
    revert c
    decide
  · have : (decide (48 ≤ c) && decide (c ≤ 57)) = false := by
      rw [← Bool.not_eq_true, Bool.and_eq_true, decide_eq_true_eq, decide_eq_true_eq]
      exact h
    rw [this]
    refine decide_eq_false fun hc => h ?_
    simp at hc
    omega
theorem lg19 {x : Int} (h : x.natAbs < 2 ^ 1900) : x.natAbs.log2 < 1920 := Nat.lt_of_lt_of_le (PySem.Flt.log2_lt_of (by decide) h) (by decide)
theorem intL_len {i : Int} (h : i.natAbs < 2 ^ 1900) : (intL i).length ≤ 601 := by
  have := TL.numL_len (n := i.natAbs) (k := 600) (by decide) (Nat.lt_trans h (by decide +kernel))
  unfold intL
  rw [List.length_append]
  split
  · show 1 + _ ≤ _
    omega
  · show 0 + _ ≤ _
    omega
/-- 1 to 30 digits -/
def cntB (l : List Nat) : Bool := decide (1 ≤ l.length) && decide (l.length ≤ 30) && digs l
theorem sc_is_count : FnScope ["word", "sign"] ["word"] (defScope s_is_count) := ⟨rfl, rfl, rfl, by decide +kernel, rfl, by decide +kernel, by decide +kernel⟩
def sp_is_count : Sp := fun vs H Q E => ∃ l : List Nat, PureSp (fun vs _ => vs = [.str (S l)] ∧ l.length < 100000) (fun _ _ _ v => v = .bl (cntB l)) vs H Q E
theorem ok_is_count (T : Tx K mg) : FnOk P w K mg base CX0 1 T.is_count.f T.is_count.fd ["word"] sp_is_count := by
  refine T.is_count.F.ok sc_is_count (fun vs H Q E h => ?_) (fun cdv A outer s H vs Q E hr h => ?_)
  · obtain ⟨l, G, _, ⟨rfl, _⟩, _⟩ := h
    rfl
  · obtain ⟨l, G, lw, ⟨rfl, hz⟩, k⟩ := h
    refine ⟨_, (pss_one (ps_ret (pe_and (pe_chain op_le op_le pe_int (pe_callB call_len_str (by rfl) T.z_len (by decide +kernel) (pa_cons (pv 0) pa_nil)) (pe_glob (v := .int 30) rfl T.c_MOST_DIGITS.2 ⟨_, rfl⟩)) (pe_one (pe_callB (UfK.cr_allK (K := K) rfl) (by rfl) T.z_all (by decide +kernel) (pa_cons (pe_lc (own := [("sign", 1)]) rfl sc_is_count.nd (pi_str (pv 0)) (blkOk_by (own := [("sign", 1)]) (N := ["word", "sign"]) (sc := defScope s_is_count) (by decide +kernel)) (fun _ _ _ _ _ => by exact pg_name (i := 1) sc_is_count.nd rfl (.inl rfl)) (fun _ _ _ _ _ => pts_nil) (fun _ _ _ _ _ => (pe_cmpR op_in_str (pv 1) (pe_glob (v := .str "0123456789") rfl T.c_DIGITS.2 ⟨_, rfl⟩) (by rfl)))) pa_nil)))))), ?_⟩
    refine ⟨_, rfl, _, rfl, (by rw [S_len]; show l.length ≤ 16777216; omega), ?_⟩
    rw [S_len]
    refine ⟨_, _, rfl, rfl, _, rfl, ite2 (fun h1 => ⟨_, _, rfl, rfl, _, rfl, ite2 (fun h2 => ?_) (fun h2 => k _ _ _ lw ?_)⟩) (fun h1 => ⟨_, rfl, ite2 (fun z => by cases z) (fun _ => k _ _ _ lw ?_)⟩)⟩
    · refine ⟨_, rfl, S l, rfl, fun D hD => it_str (fun j H' => Lw H G none [(D, .lst ((l.take j).map fun c => V.bl (decide (48 ≤ c) && decide (c ≤ 57))))] G H') (lw.make hD) (fun j H' c hc lw => ?_) (fun H' lw => ?_)⟩
      · refine ⟨rfl, _, rfl, _, _, rfl, rfl, ?_⟩
        rw [in_digits]
        refine ⟨_, lw.at, Evl.sz_lt (by rw [List.length_map, List.length_take]; omega), ?_⟩
        rw [List.take_add_one, hc, List.map_append]
        exact lw.put
      · obtain ⟨lw, e2⟩ := lw.keep
        rw [List.take_length] at lw
        refine ⟨D, l.map fun c => decide (48 ≤ c) && decide (c ≤ 57), rfl, SqL.g lw (by rw [List.map_map]; exact upd_same), k _ _ _ lw ?_⟩
        have h1 := of_decide_eq_true h1
        have h2 := of_decide_eq_true h2
        have h1 : 1 ≤ l.length := by omega
        have h2 : l.length ≤ 30 := by omega
        unfold cntB
        rw [decide_eq_true h1, decide_eq_true h2, List.all_map]
        rfl
    · have h2 : ¬ ((l.length : Int) ≤ 30) := by simpa using h2
      unfold cntB
      rw [decide_eq_false (show ¬ l.length ≤ 30 by omega), Bool.and_false, Bool.false_and]
    · have h1 : ¬ ((1 : Int) ≤ l.length) := by simpa using h1
      unfold cntB
      rw [decide_eq_false (show ¬ 1 ≤ l.length by omega), Bool.false_and, Bool.false_and]
theorem cat1 (a : List Nat) : Str.empty ++ S a = S a := by
  have := S_cat [] a
  rw [List.nil_append] at this
  exact this
theorem cat2 (a : List Nat) : Str.empty ++ S a ++ Str.ofString "/" = S (a ++ [47]) := by
  rw [cat1]
  exact S_cat a [47]
theorem cat3 (a b : List Nat) : Str.empty ++ S a ++ Str.ofString "/" ++ S b = S (a ++ ([47] ++ b)) := by
  rw [cat2, ← List.append_assoc]
  exact S_cat (a ++ [47]) b
theorem sc_f_str : FnScope ["self"] ["self"] (defScope s_f_str) := ⟨rfl, rfl, rfl, by decide +kernel, rfl, by decide +kernel, by decide +kernel⟩
def sp_f_str (T : Tx K mg) : Sp := fun vs H Q E => ∃ q : Rat, PureSp (fun vs G => ∃ a, vs = [.ref a] ∧ FrAt T.frac.C G a q ∧ q.den ≠ 1 ∧ Sm 1900 q) (fun _ _ _ v => v = .str (S (numT q))) vs H Q E
theorem ok_f_str (T : Tx K mg) : FnOk P w K mg base CX0 1 T.f_str.f T.f_str.fd ["self"] (sp_f_str T) := by
  refine T.f_str.F.ok sc_f_str (fun vs H Q E h => ?_) (fun cdv A outer s H vs Q E hr h => ?_)
  · obtain ⟨q, G, _, ⟨a, rfl, _⟩, _⟩ := h
    rfl
  · obtain ⟨q, G, lw, ⟨a, rfl, ⟨dx, ha⟩, h1, s1⟩, k⟩ := h
    have Ha := lw.gh _ _ ha
    refine ⟨_, (pss_one (ps_ret (pe_joined (.cons (pe_fmt (UfK.pe_fldK (K := K) (pv 0) rfl)) (.cons pe_str (.cons (pe_fmt (UfK.pe_fldK (K := K) (pv 0) rfl)) .nil)))))), ?_⟩
    have l1 := intL_len s1.1
    have l2 := intL_len (i := (q.den : Int)) s1.2
    refine ⟨_, rfl, a, T.frac.C, dx, _, _, rfl, Ha, T.frac.c, T.nNum, lk_num, .inr ⟨_, rfl, lg19 s1.1, _, rfl, ?_, _, rfl, ?_, _, rfl, a, T.frac.C, dx, _, _, rfl, Ha, T.frac.c, T.nDen, lk_den, .inr ⟨_, rfl, lg19 s1.2, _, rfl, ?_, k _ _ _ lw ?_⟩⟩⟩
    · rw [txt_int, cat1, S_len]
      show _ ≤ 16777216
      omega
    · rw [txt_int, cat2, S_len, List.length_append]
      show _ + 1 ≤ 16777216
      omega
    · rw [txt_int, txt_int, cat3, S_len, List.length_append, List.length_append]
      show _ + (1 + _) ≤ 16777216
      omega
    · rw [txt_int, txt_int, cat3, numT_frac h1]
      rfl
theorem sc_number_text : FnScope ["number"] ["number"] (defScope s_number_text) := ⟨rfl, rfl, rfl, by decide +kernel, rfl, by decide +kernel, by decide +kernel⟩
def sp_number_text (T : Tx K mg) : Sp := fun vs H Q E => ∃ q : Rat, PureSp (fun vs G => ∃ x, vs = [x] ∧ Nm T.frac.C G x q ∧ Sm 1900 q) (fun _ _ _ v => v = .str (S (numT q))) vs H Q E
theorem ok_number_text (T : Tx K mg) : FnOk P w K mg base CX0 4 T.number_text.f T.number_text.fd ["number"] (sp_number_text T) := by
  refine T.number_text.F.ok sc_number_text (fun vs H Q E h => ?_) (fun cdv A outer s H vs Q E hr h => ?_)
  · obtain ⟨q, G, _, ⟨x, rfl, _⟩, _⟩ := h
    rfl
  · obtain ⟨q, G, lw, ⟨x, rfl, hx, s1⟩, k⟩ := h
    refine ⟨_, (pss_one (ps_ret (pe_callTy (UfO.call_str_own (hr.mono (by decide)) T.f_str.m.at_ T.f_str.m.fn (ok_f_str T) T.f_str.b pass0) (by rfl) T.z_str (by decide +kernel) (pa_cons (pv 0) pa_nil)))), ?_⟩
    rcases hx with ⟨h1, rfl⟩ | ⟨h1, a, rfl, ha⟩
    · refine ⟨_, rfl, .inl ⟨_, rfl, lg19 s1.1, ?_⟩⟩
      exact k _ _ _ lw (by rw [numT_int h1])
    · obtain ⟨dx, ha'⟩ := id ha
      exact ⟨_, rfl, .inr ⟨a, dx, _, rfl, lw.gh _ _ ha', q, call_pure lw ⟨a, rfl, ha, h1, s1⟩ fun G' H' v e l (hv : v = _) => ⟨_, hv, k _ _ _ l hv⟩⟩⟩
theorem par_len {b x y : List Nat} (h : TL.par [47] [] b = some (x, y)) : x.length + y.length + 1 = b.length := by
  have key : ∀ (b acc x y : List Nat), TL.par [47] acc b = some (x, y) → x.length + y.length + 1 = acc.length + b.length := by
    intro b
    induction b with
    | nil => intro acc x y h; cases h
    | cons c r ih =>
      intro acc x y h
      have h : (if TL.pre [47] (c :: r) = true then some (acc, (c :: r).drop 1) else TL.par [47] (acc ++ [c]) r) = some (x, y) := h
      split at h
      · injection h with h
        injection h with h1 h2
        rw [← h1, ← h2]
        simp
        omega
      · have := ih _ _ _ h
        rw [List.length_append] at this
        simp at this ⊢
        omega
  have := key b [] x y h
  simpa using this
theorem cnt_num {n : Nat} (h : (TL.numL n).length ≤ 30) : cntB (TL.numL n) = true := by
  unfold cntB
  rw [decide_eq_true h, decide_eq_true (show 1 ≤ (TL.numL n).length from List.length_pos_iff.mpr (TL.numL_ne n)), digs_num]
  rfl
theorem cnt_iff {l : List Nat} : cntB l = true ↔ 1 ≤ l.length ∧ l.length ≤ 30 ∧ digs l = true := by
  unfold cntB
  rw [Bool.and_eq_true, Bool.and_eq_true, decide_eq_true_eq, decide_eq_true_eq, and_assoc]
theorem fr_le {n d : Int} (hd : d ≠ 0) : (fr n d).num.natAbs ≤ n.natAbs ∧ (fr n d).den ≤ d.natAbs := by
  constructor
  · rw [Rat.num_divInt, Int.natAbs_ediv_of_dvd]
    · refine Nat.le_trans (Nat.div_le_self _ _) ?_
      rw [Int.natAbs_mul]
      have : d.sign.natAbs = 1 := by
        rw [Int.natAbs_sign]
        exact if_neg hd
      rw [this, Nat.one_mul]
      exact Nat.le_refl _
    · exact Int.dvd_mul_of_dvd_right (Int.gcd_dvd_right ..)
  · rw [Rat.den_divInt, if_neg hd]
    exact Nat.div_le_self _ _
theorem sc_read_number : FnScope ["text", "body", "top", "slash", "bottom", "den", "number"] ["text"] (defScope s_read_number) := ⟨rfl, rfl, rfl, by decide +kernel, rfl, by decide +kernel, by decide +kernel⟩
def sp_read_number (T : Tx K mg) : Sp := fun vs H Q E => ∃ l : List Nat, RaiseN (fun vs _ => vs = [.str (S l)] ∧ l.length < 100000) (fun _ _ G' v => ∃ q, IsT l q ∧ Nm T.frac.C G' v q) (fun _ G' C e => (¬ ∃ q, IsT l q) ∧ ErAt T (.text (S l)) G' C e) vs H Q E
theorem ok_read_number (T : Tx K mg) : FnOk P w K mg base (L2N.CX P w) 6 T.read_number.f T.read_number.fd ["text"] (sp_read_number T) := by
  refine fun_okX T.read_number.F sc_read_number (fun vs H Q E h => ?_) (fun cdv A outer s H vs Q E hr h => ?_)
  · obtain ⟨l, G, _, ⟨rfl, _⟩, _⟩ := h
    rfl
  · obtain ⟨l, G, lw, ⟨rfl, hz⟩, k, kx⟩ := h
    refine ⟨_, (pss_cons (ps_set (i := 1) sc_read_number.nd rfl (.inl rfl) (pe_ifExp (pt_val (pe_m1 PySem.F.slot_str_startswith PySem.F.type_str_startswith mt_startswith (pv 0) pe_str)) (pe_slice C8.sl_txt (pv 0) (po_some pe_int) po_none) (pv 0)))
      (pss_cons (ps_asg (pe_partition (pv 1) pe_str) (UfK.pg_tupK (K := K) (n := 3) rfl (pgs_cons (pg_name (i := 2) sc_read_number.nd rfl (.inl rfl)) (pgs_cons (pg_name (i := 3) sc_read_number.nd rfl (.inl rfl)) (pgs_cons (pg_name (i := 4) sc_read_number.nd rfl (.inl rfl)) pgs_nil)))))
      (pss_cons (ps_if (pt_not (pt_val (pe_call (ok_is_count T) (hr.mono (by decide)) (by rfl) T.is_count.g T.is_count.F.kp T.is_count.b .nil pass0 (pa_cons (pv 2) pa_nil)))) (pss_one (L2N.ps_raise rfl (L2N.takes_of rfl rfl rfl rfl) (UfH.pmk_oexN T.cText.T T.cText.iC T.cText.tI (oki_text T) (hr.mono (by decide)) T.cText.b rfl T.cText.g (pa_cons (pv 0) pa_nil)))) pss_nil)
      (pss_cons (ps_if (PW.pt (pw_and (pt_cmpR op_ne (pv 3) pe_str (nomark _)) (pw_and1 (pt_not (pt_val (pe_call (ok_is_count T) (hr.mono (by decide)) (by rfl) T.is_count.g T.is_count.F.kp T.is_count.b .nil pass0 (pa_cons (pv 4) pa_nil))))))) (pss_one (L2N.ps_raise rfl (L2N.takes_of rfl rfl rfl rfl) (UfH.pmk_oexN T.cText.T T.cText.iC T.cText.tI (oki_text T) (hr.mono (by decide)) T.cText.b rfl T.cText.g (pa_cons (pv 0) pa_nil)))) pss_nil)
      (pss_cons (ps_set (i := 5) sc_read_number.nd rfl (.inl rfl) (pe_ifExp (pt_cmpR op_ne (pv 3) pe_str (nomark _)) (pe_callTy call_int_str (by rfl) T.z_int (by decide +kernel) (pa_cons (pv 4) pa_nil)) pe_int))
      (pss_cons (ps_if (pt_cmpR op_eq (pv 5) pe_int (nomark _)) (pss_one (L2N.ps_raise rfl (L2N.takes_of rfl rfl rfl rfl) (UfH.pmk_oexN T.cText.T T.cText.iC T.cText.tI (oki_text T) (hr.mono (by decide)) T.cText.b rfl T.cText.g (pa_cons (pv 0) pa_nil)))) pss_nil)
      (pss_cons (ps_set (i := 6) sc_read_number.nd rfl (.inl rfl) (pe_callS (ok_ratio T) (hr.mono (by decide)) rfl T.ratio.g T.ratio.F.kp T.ratio.b (fun σ => L2N.passAt (L2N.takes_of rfl rfl rfl rfl) σ) (pa_cons (pe_ifExp (pt_val (pe_m1 PySem.F.slot_str_startswith PySem.F.type_str_startswith mt_startswith (pv 0) pe_str)) (pe_un un_neg (pe_callTy call_int_str (by rfl) T.z_int (by decide +kernel) (pa_cons (pv 2) pa_nil))) (pe_callTy call_int_str (by rfl) T.z_int (by decide +kernel) (pa_cons (pv 2) pa_nil))) (pa_cons (pv 5) pa_nil))))
      (pss_cons (ps_if (pt_cmpR op_ne (pe_call (ok_number_text T) (hr.mono (by decide)) (by rfl) T.number_text.g T.number_text.F.kp T.number_text.b .nil pass0 (pa_cons (pv 6) pa_nil)) (pv 0) (nomark _)) (pss_one (L2N.ps_raise rfl (L2N.takes_of rfl rfl rfl rfl) (UfH.pmk_oexN T.cText.T T.cText.iC T.cText.tI (oki_text T) (hr.mono (by decide)) T.cText.b rfl T.cText.g (pa_cons (pv 0) pa_nil)))) pss_nil)
      (pss_one (ps_ret (pv 6))))))))))), ?_⟩
    have bad : (¬ ∃ q, IsT l q) → ∀ {σ : L2.St} {G1 H1 : Hp}, Lw H G none [] G1 H1 → tMkO T.cText.C (spI1 K "text") [] (tCons (tVar 0) tNil) (some (.str (S l)) :: σ) H1 fun cls d H' => E cls d H' := fun z {σ G1 H1} lw =>
      ⟨_, rfl, mk1_of T.cText.T T.noText fun q hq => kx _ _ _ (some q) (lw.alloc hq) ⟨z, rfl, q, rfl, upd_same⟩⟩
    have hst : Txt.startswith (S l) (Str.ofString "-") = decide (l.head? = some 45) := startswith_S l 45
    refine seq_rest (fun σ' H' => σ' = [some (.str (S l)), some (.str (S (bareL l))), none, none, none, none, none] ∧ Lw H G none [] G H') (fun σ' H' hp => ?_) (fun kk => ?_)
    · obtain ⟨rfl, lw⟩ := hp
      obtain ⟨b, hb⟩ : ∃ b, b = bareL l := ⟨_, rfl⟩
      rw [← hb]
      have bz : b.length < 100000 := by
        rw [hb]
        unfold bareL
        split
        · rw [List.length_drop]; omega
        · exact hz
      obtain ⟨top, sl, bot, hpart, hs1, hs0⟩ : ∃ (top : List Nat) (sl : Bool) (bot : List Nat), Txt.partition (S b) (S [47]) = (S top, (if sl = true then S [47] else S []), S bot) ∧ (sl = true → TL.par [47] [] b = some (top, bot)) ∧ (sl = false → TL.par [47] [] b = none ∧ top = b) := by
        cases e : TL.par [47] [] b with
        | none => exact ⟨b, false, [], partition_none (by simp) e, (fun z => by cases z), fun _ => ⟨rfl, rfl⟩⟩
        | some xy => exact ⟨xy.1, true, xy.2, partition_some (by simp) e, (fun _ => rfl), fun z => by cases z⟩
      refine ⟨_, rfl, ⟨_, rfl⟩, S b, S [47], rfl, rfl, rfl, (by rw [S_len]; show b.length ≤ 16777216; omega), fun p hp => ?_⟩
      have key : ∀ q, IsT l q → top = TL.numL q.num.natAbs ∧ (sl = false → q.den = 1) ∧ (sl = true → bot = TL.numL q.den ∧ q.den ≠ 1) := fun q hq => by
        have e := hq.par
        rw [← hb] at e
        by_cases h1 : q.den = 1
        · rw [if_pos h1] at e
          cases sl with
          | true => rw [hs1 rfl] at e; cases e
          | false =>
            refine ⟨?_, fun _ => h1, fun z => by cases z⟩
            rw [(hs0 rfl).2, hb, hq.2, numT_bare, if_pos h1, List.append_nil]
        · rw [if_neg h1] at e
          cases sl with
          | true =>
            rw [hs1 rfl] at e
            have e := Option.some.inj e
            exact ⟨congrArg Prod.fst e, (fun z => by cases z), fun _ => ⟨congrArg Prod.snd e, h1⟩⟩
          | false => rw [(hs0 rfl).1] at e; cases e
      have botz : sl = true → bot.length < 100000 := fun z => by
        have := par_len (hs1 z)
        omega
      have topz : top.length < 100000 := by
        cases sl with
        | true =>
          have := par_len (hs1 rfl)
          omega
        | false => rw [(hs0 rfl).2]; exact bz
      obtain ⟨G1, e1, lwA, ht⟩ := lw.allocE (o := .tup [.str (S top), .str (if sl = true then S [47] else S []), .str (S bot)]) hp
      rw [hpart]
      refine ⟨p, _, rfl, SqT.of (lwA.gh _ _ ht), rfl, _, _, rfl, _, _, rfl, _, _, rfl, rfl, ?_⟩
      refine ⟨_, rfl, top, call_pure lwA ⟨rfl, topz⟩ fun G2 H2 v e2 lw hv => ⟨cntB top, hv, ?_⟩⟩
      refine ite2 (fun h => bad (fun z => ?_) lw) (fun h => ?_)
      · obtain ⟨q, hq⟩ := z
        rw [(key q hq).1, cnt_num hq.1.1] at h
        cases h
      have htop : cntB top = true := by simpa using h
      have nslash : decide (V.str (if sl = true then S [47] else S []) = V.str (Str.ofString "")) = !sl := by
        cases sl with
        | true => exact decide_eq_false fun z => nomatch S_eq.mp (show V.str (S [47]) = V.str (S []) from z)
        | false => exact decide_eq_true rfl
      have dt := (cnt_iff.mp htop).2.2
      have lt := cnt_iff.mp htop
      refine seq_rest (fun σ' H' => σ' = [some (.str (S l)), some (.str (S b)), some (.str (S top)), some (.str (if sl = true then S [47] else S [])), some (.str (S bot)), none, none] ∧ (∃ G', Lw H G none [] G' H')) (fun σ' H' hp => ?_) (fun kk => kk _ _ ⟨rfl, _, lw⟩)
      obtain ⟨rfl, ⟨G3, lw⟩⟩ := hp
      refine seq_rest (fun σ' H' => σ' = [some (.str (S l)), some (.str (S b)), some (.str (S top)), some (.str (if sl = true then S [47] else S [])), some (.str (S bot)), none, none] ∧ (∃ G', Lw H G none [] G' H') ∧ (sl = true → cntB bot = true)) (fun σ' H' hp => ?_) (fun kk => ?_)
      · obtain ⟨rfl, ⟨G3, lw⟩, hbot⟩ := hp
        refine seq_rest (fun σ' H' => ∃ dn : Nat, σ' = [some (.str (S l)), some (.str (S b)), some (.str (S top)), some (.str (if sl = true then S [47] else S [])), some (.str (S bot)), some (.int dn), none] ∧ (∃ G', Lw H G none [] G' H') ∧ dn < 10 ^ 30 ∧ (∀ q, IsT l q → q.den = dn)) (fun σ' H' hp => ?_) (fun kk => ?_)
        · obtain ⟨dn, rfl, ⟨G4, lw⟩, dz, hden⟩ := hp
          refine ⟨_, rfl, rfl, _, rfl, ite2 (fun h => bad (fun z => ?_) lw) (fun h => ?_)⟩
          · obtain ⟨q, hq⟩ := z
            have e := hden q hq
            have h : (dn : Int) = 0 := by simpa using h
            have := q.den_pos
            omega
          · have dn0 : (dn : Int) ≠ 0 := by simpa using h
            obtain ⟨i, hi⟩ : ∃ i : Int, i = if l.head? = some 45 then -(NumText.digitsVal top : Int) else (NumText.digitsVal top : Int) := ⟨_, rfl⟩
            have ib : i.natAbs = NumText.digitsVal top := by
              rw [hi]
              split <;> omega
            have vz := val_lt dt 30 lt.2.1
            have b30 : (10 : Nat) ^ 30 < 2 ^ 1900 := by decide +kernel
            have b31 : (10 : Nat) ^ 30 < 2 ^ 8000 := by decide +kernel
            refine seq_rest (fun σ' H' => σ' = [some (.str (S l)), some (.str (S b)), some (.str (S top)), some (.str (if sl = true then S [47] else S [])), some (.str (S bot)), some (.int dn), none] ∧ (∃ G', Lw H G none [] G' H')) (fun σ' H' hp => ?_) (fun kk => kk _ _ ⟨rfl, _, lw⟩)
            obtain ⟨rfl, ⟨G4, lw⟩⟩ := hp
            refine seq_rest (fun σ' H' => ∃ v, σ' = [some (.str (S l)), some (.str (S b)), some (.str (S top)), some (.str (if sl = true then S [47] else S [])), some (.str (S bot)), some (.int dn), some v] ∧ ∃ G', Lw H G none [] G' H' ∧ Nm T.frac.C G' v (fr i dn)) (fun σ' H' hp => ?_) (fun kk => ?_)
            · obtain ⟨v, rfl, G5, lw, hv⟩ := hp
              have sm : Sm 1900 (fr i dn) := by
                have z := fr_le (n := i) dn0
                rw [Int.natAbs_natCast] at z
                exact ⟨by omega, by omega⟩
              refine ⟨_, rfl, fr i dn, call_pure lw ⟨v, rfl, hv, sm⟩ fun G6 H6 u e6 lw hu => ?_⟩
              subst hu
              refine ⟨_, rfl, rfl, _, rfl, ite2 (fun h => bad (fun z => ?_) lw) (fun h => ?_)⟩
              · obtain ⟨q, hq⟩ := z
                obtain ⟨k1, _⟩ := key q hq
                have qi : q.num = i := by
                  have e1 : NumText.digitsVal top = q.num.natAbs := by rw [k1, TL.numL_val]
                  have hn := hq.neg
                  rw [hi, e1]
                  split
                  · rename_i z
                    have := hn.mp z
                    omega
                  · rename_i z
                    have : ¬ q.num < 0 := fun y => z (hn.mpr y)
                    omega
                have e : fr i dn = q := by
                  rw [← qi, ← hden q hq]
                  exact q_fr q
                rw [e, hq.2] at h
                simp at h
              · have e : l = numT (fr i dn) := by
                  have h : V.str (S (numT (fr i dn))) = V.str (S l) := by simpa using h
                  exact (S_eq.mp h).symm
                refine ⟨_, rfl, k _ _ _ lw ⟨fr i dn, ⟨?_, e⟩, hv.ex e6⟩⟩
                have pq := par_numT (fr i dn)
                rw [← e, ← hb] at pq
                by_cases h1 : (fr i dn).den = 1
                · rw [if_pos h1] at pq
                  cases sl with
                  | true => rw [hs1 rfl] at pq; cases pq
                  | false =>
                    have et : top = TL.numL (fr i dn).num.natAbs := by rw [(hs0 rfl).2, hb, e, numT_bare, if_pos h1, List.append_nil]
                    exact ⟨by rw [← et]; exact lt.2.1, by rw [h1, TL.numL_lt (by decide)]; decide⟩
                · rw [if_neg h1] at pq
                  cases sl with
                  | true =>
                    rw [hs1 rfl] at pq
                    have pq := Option.some.inj pq
                    have p1 : top = TL.numL (fr i dn).num.natAbs := congrArg Prod.fst pq
                    have p2 : bot = TL.numL (fr i dn).den := congrArg Prod.snd pq
                    exact ⟨by rw [← p1]; exact lt.2.1, by rw [← p2]; exact (cnt_iff.mp (hbot rfl)).2.1⟩
                  | false => rw [(hs0 rfl).1] at pq; cases pq
            · refine ⟨_, rfl, ⟨_, rfl⟩, _, _, rfl, rfl, ?_⟩
              show ∃ c, V.bl (Txt.startswith (S l) (Str.ofString "-")) = V.bl c ∧ _
              rw [hst]
              have it := SX.int_S (a := top) (by exact dt) (List.length_pos_iff.mp lt.1) (by omega)
              refine ⟨_, rfl, ite2 (fun h1 => ?_) (fun h1 => ?_)⟩
              · have h1 : l.head? = some 45 := of_decide_eq_true h1
                rw [if_pos h1] at hi
                refine ⟨_, rfl, S top, _, rfl, it, (by rw [S_len]; omega), _, rfl, _, rfl, ?_⟩
                show sp_ratio T [.int (-(NumText.digitsVal top : Int)), .int dn] H' _ _
                rw [← hi]
                exact ⟨i, dn, call_raiseN lw ⟨rfl, by omega⟩ (fun G5 H5 v e lw hv => kk _ _ ⟨v, rfl, G5, lw, hv.2⟩) fun G5 H5 C q e lw hv => absurd hv.1 dn0⟩
              · have h1 : ¬ l.head? = some 45 := fun z => h1 (decide_eq_true z)
                rw [if_neg h1] at hi
                refine ⟨_, rfl, S top, _, rfl, it, (by rw [S_len]; omega), _, rfl, ?_⟩
                show sp_ratio T [.int (NumText.digitsVal top : Int), .int dn] H' _ _
                rw [← hi]
                exact ⟨i, dn, call_raiseN lw ⟨rfl, by omega⟩ (fun G5 H5 v e lw hv => kk _ _ ⟨v, rfl, G5, lw, hv.2⟩) fun G5 H5 C q e lw hv => absurd hv.1 dn0⟩
        · refine ⟨_, rfl, rfl, _, rfl, ?_⟩
          rw [nslash]
          cases sl with
          | true =>
            have cb := cnt_iff.mp (hbot rfl)
            refine iteT ⟨_, rfl, S bot, _, rfl, SX.int_S (by exact cb.2.2) (List.length_pos_iff.mp cb.1) (by omega), (by rw [S_len]; omega), kk _ _ ⟨_, rfl, ⟨_, lw⟩, val_lt cb.2.2 30 cb.2.1, fun q hq => ?_⟩⟩
            rw [((key q hq).2.2 rfl).1, TL.numL_val]
          | false => exact iteF (kk _ _ ⟨1, rfl, ⟨_, lw⟩, by decide, fun q hq => (key q hq).2.1 rfl⟩)
      · refine ⟨_, rfl, rfl, _, rfl, ?_⟩
        rw [nslash]
        cases sl with
        | true =>
          refine iteT ⟨_, rfl, bot, call_pure lw ⟨rfl, botz rfl⟩ fun G4 H4 v e4 lw hv => ⟨cntB bot, hv, ite2 (fun h => bad (fun z => ?_) lw) (fun h => kk _ _ ⟨rfl, ⟨_, lw⟩, fun _ => by simpa using h⟩)⟩⟩
          obtain ⟨q, hq⟩ := z
          rw [((key q hq).2.2 rfl).1, cnt_num hq.1.2] at h
          cases h
        | false => exact iteF (iteF (kk _ _ ⟨rfl, ⟨_, lw⟩, fun z => by cases z⟩))
    · refine ⟨_, rfl, ⟨_, rfl⟩, _, _, rfl, rfl, ?_⟩
      show ∃ c, V.bl (Txt.startswith (S l) (Str.ofString "-")) = V.bl c ∧ _
      rw [hst]
      refine ⟨_, rfl, ite2 (fun h1 => ?_) (fun h1 => ?_)⟩
      · refine ⟨_, rfl, _, rfl, S l, rfl, (by rw [S_len]; show l.length ≤ 16777216; omega), ?_⟩
        rw [slice_from (by decide)]
        refine kk _ _ ⟨?_, lw⟩
        have h1 : l.head? = some 45 := of_decide_eq_true h1
        unfold bareL
        rw [if_pos h1]
        rfl
      · refine ⟨_, rfl, kk _ _ ⟨?_, lw⟩⟩
        have h1 : ¬ l.head? = some 45 := fun z => h1 (decide_eq_true z)
        unfold bareL
        rw [if_neg h1]
        rfl
end
end K01

namespace K01
open PySem PySem.Spec PyProof.Rows L2 UfG UfT UfR UfO UfI UfQ UfN
open Evl (Ex)
section
variable {P : Program} {w : World} {K : PySem.W.Frag} {mg : Str → Option Value} {base : Heap}
theorem at_int {ns : List Int} {i : Nat} {x : V} (h : (ns.map V.int)[i]? = some x) : ∃ n, ns[i]? = some n ∧ x = .int n := by
  rw [List.getElem?_map] at h
  cases e : ns[i]? with
  | none =>
    rw [e] at h
    cases h
  | some n =>
    rw [e] at h
    exact ⟨n, rfl, (Option.some.inj h).symm⟩
theorem sc_pool : FnScope ["script", "cells", "parts", "cell", "k"] ["script"] (defScope s_pool) := ⟨rfl, rfl, rfl, by decide +kernel, rfl, by decide +kernel, by decide +kernel⟩
def sp_pool (K : PySem.W.Frag) : Sp := fun vs H Q _ => ∃ (a : Addr) (ns : List Int), vs = [.ref a] ∧ SqL K H a (ns.map V.int) ∧ ∀ (H' : Hp) (p c : Addr), Lw H' (fun _ => none) (some (p, c, 0)) [] (fun _ => none) H' → Q (.ref p) H'
theorem ok_pool (T : Tx K mg) : FnOk P w K mg base CX0 2 T.pool.f T.pool.fd ["script"] (sp_pool K) := by
  refine T.pool.F.ok sc_pool (fun vs H Q E h => ?_) (fun cdv A outer s H vs Q E hr h => ?_)
  · obtain ⟨a, ns, rfl, _⟩ := h
    rfl
  · obtain ⟨a, ns, rfl, hS, k⟩ := h
    refine ⟨_, (pss_cons (ps_set (i := 1) sc_pool.nd rfl (.inr rfl) (pe_lc (own := [("cell", 3)]) rfl sc_pool.nd (UfK.pi_listK (K := K) (pe_slice (UfK.sl_listK (K := K)) (pv 0) po_none (po_some pe_int))) (blkOk_by (own := [("cell", 3)]) (N := ["script", "cells", "parts", "cell", "k"]) (sc := defScope s_pool) (by decide +kernel)) (fun _ _ _ _ _ => by exact pg_name (i := 3) sc_pool.nd rfl (.inl rfl)) (fun _ _ _ _ _ => pts_nil) (fun _ _ _ _ _ => (pe_op op_modN (pe_callTy call_int1 (by rfl) T.z_int (by decide +kernel) (pa_cons (pv 3) pa_nil)) (pe_op op_pow pe_int pe_int)))))
      (pss_cons (ps_setLc (i := 2) (own := [("k", 4)]) rfl sc_pool.nd rfl rfl (sw_true rfl rfl rfl (by decide +kernel)) (pi_range1 rfl T.z_range (pa_cons (pe_callB (UfK.call_lenK (K := K)) (by rfl) T.z_len (by decide +kernel) (pa_cons (pv 1) pa_nil)) pa_nil)) (blkOk_by (own := [("k", 4)]) (N := ["script", "cells", "parts", "cell", "k"]) (sc := defScope s_pool) (by decide +kernel)) (fun _ _ _ _ _ => by exact pg_name (i := 4) sc_pool.nd rfl (.inl rfl)) (fun _ _ _ _ _ => pts_nil) (fun _ _ _ _ _ => (pe_op op_mulW (pe_op op_modN (pe_callTy call_int1 (by rfl) T.z_int (by decide +kernel) (pa_cons (pe_ix (UfK.ix_listK (K := K)) (pv 1) (pv 4) (fun _ _ => rfl)) pa_nil)) pe_int) (pe_op op_add (pv 4) pe_int))))
      (pss_one (ps_ret (pe_lst (pa_cons pe_int (pa_cons pe_int (pa_cons (pv 1) (pa_cons pe_int (pa_cons (pe_op op_add (pe_callB (UfK.call_lenK (K := K)) (by rfl) T.z_len (by decide +kernel) (pa_cons (pv 1) pa_nil)) (pe_callB (UfK.cr_sumK (K := K) rfl) (by rfl) T.z_sum (by decide +kernel) (pa_cons (pv 2) pa_nil))) pa_nil)))))))))), ?_⟩
    have lw : Lw H (fun _ => none) none [] (fun _ => none) H := .refl (fun _ _ h => nomatch h)
    -- cells = [int(cell) % 10 ** 60 for cell in script[:63]]
    refine ⟨_, rfl, 63, rfl, a, _, rfl, hS, fun t0 n0 => ?_⟩
    rw [show cutV (ns.map V.int) none (some 63) = (ns.take 63).map V.int from (cutV_take _ 63).trans List.map_take.symm]
    have few : (ns.take 63).length ≤ 63 := by
      rw [List.length_take]
      omega
    generalize ns.take 63 = ms at few
    obtain ⟨G1, e1, lw, h0⟩ := lw.allocE (o := .lst (ms.map V.int)) n0
    refine ⟨t0, rfl, ⟨_, SqL.g lw h0⟩, fun D hD => ?_⟩
    refine it_list (K := K) (a := t0) (xs := ms.map V.int) (fun j H2 => ∃ (acc : List Int) (G2 : Hp), Lw H (fun _ => none) none [(D, .lst (acc.map V.int))] G2 H2 ∧ G2 t0 = some (.lst (ms.map V.int)) ∧ acc.length = j ∧ ∀ z ∈ acc, 0 ≤ z ∧ z < 2 ^ 200)
      ⟨[], _, lw.make hD, h0, rfl, by simp⟩ (fun j H2 _ hp => ?_) (fun j x H2 hx hp => ?_) (fun H2 hp => ?_)
    · obtain ⟨acc, G2, lw, h0, _⟩ := hp
      exact SqL.g lw h0
    · obtain ⟨acc, G2, lw, h0, la, ba⟩ := hp
      obtain ⟨n, hn, rfl⟩ := at_int hx
      have hlt : j < ms.length := (List.getElem?_eq_some_iff.mp hn).1
      refine ⟨rfl, _, rfl, Or.inl ⟨n, rfl, _, _, rfl, rfl, pow_small (by decide) (by decide), _, _, rfl, rfl, (show (10 : Int) ^ (60 : Int).toNat ≠ 0 by decide), acc.map V.int, lw.at, Evl.sz_lt (by rw [List.length_map]; omega), acc ++ [n.fmod ((10 : Int) ^ (60 : Int).toNat)], G2, ?_, h0, by rw [List.length_append, la]; rfl, fun z hz => ?_⟩⟩
      · rw [List.map_append]
        exact lw.put
      · rcases List.mem_append.mp hz with hz | hz
        · exact ba z hz
        · rw [List.mem_singleton.mp hz, ten60]
          have := fmod_bd (i := n) (j := 1000000000000000000000000000000000000000000000000000000000000) (by decide)
          omega
    · obtain ⟨cells, G2, lw, h0, la, ba⟩ := hp
      rw [List.length_map] at la
      obtain ⟨lw, e2⟩ := lw.keep
      have hD' : (upd G2 D (.lst (cells.map V.int))) D = some (.lst (cells.map V.int)) := upd_same
      generalize upd G2 D (.lst (cells.map V.int)) = G3 at lw e2 hD'
      -- parts = [int(cells[k]) % 1000003 * (k + 1) for k in range(len(cells))]
      refine ⟨_, rfl, D, _, rfl, .inl (SqL.g lw hD'), ?_⟩
      rw [List.length_map]
      refine ⟨_, rfl, by omega, by omega, fun D2 hD2 => ?_⟩
      refine it_rng (lo := 0) (n := ((cells.length : Nat) : Int).toNat) (fun j H2 => ∃ (acc : List Int) (G2 : Hp), Lw H (fun _ => none) none [(D2, .lst (acc.map V.int))] G2 H2 ∧ G2 D = some (.lst (cells.map V.int)) ∧ acc.length = j ∧ 0 ≤ acc.sum ∧ acc.sum ≤ 100000000 * j)
        ⟨[], _, lw.make hD2, hD', rfl, by simp, by simp⟩ (fun j H2 hj hp => ?_) (fun H2 hp => ?_)
      · obtain ⟨acc, G2, lw, h1, lb, s0, s1⟩ := hp
        rw [Int.toNat_natCast] at hj
        obtain ⟨n, hn⟩ : ∃ n, cells[j]? = some n := ⟨_, List.getElem?_eq_getElem hj⟩
        have hn' : (cells.map V.int)[j]? = some (.int n) := by rw [List.getElem?_map, hn]; rfl
        have bd := fmod_bd (i := n) (j := 1000003) (by decide)
        have jj : (j : Int) < 63 := by omega
        have pr : 0 ≤ n.fmod 1000003 * (0 + (j : Int) + 1) ∧ n.fmod 1000003 * (0 + (j : Int) + 1) ≤ 1000003 * 63 := ⟨Int.mul_nonneg bd.1 (by omega), Int.mul_le_mul (by omega) (by omega) (by omega) (by omega)⟩
        refine ⟨rfl, _, rfl, _, rfl, D, _, (j : Int), _, rfl, (by rw [Int.zero_add]), SqL.g lw h1, atI_nat hn', Or.inl ⟨n, rfl, _, _, rfl, rfl, (show (1000003 : Int) ≠ 0 by decide), _, rfl, _, _, rfl, rfl, ?_⟩⟩
        refine ⟨_, _, rfl, rfl, mulW_of ⟨bd.1, by omega⟩ ⟨by omega, by omega⟩, acc.map V.int, lw.at, Evl.sz_lt (by rw [List.length_map]; omega), acc ++ [n.fmod 1000003 * (0 + (j : Int) + 1)], G2, ?_, h1, by rw [List.length_append, lb]; rfl, ?_, ?_⟩
        · rw [List.map_append]
          exact lw.put
        · rw [List.sum_append, List.sum_singleton]
          omega
        · rw [List.sum_append, List.sum_singleton]
          omega
      · obtain ⟨acc, G4, lw, h1, lb, s0, s1⟩ := hp
        rw [Int.toNat_natCast] at s1 lb
        obtain ⟨lw, e2⟩ := lw.keep
        have hD2' : (upd G4 D2 (.lst (acc.map V.int))) D2 = some (.lst (acc.map V.int)) := upd_same
        have h1 := e2 _ _ h1
        generalize upd G4 D2 (.lst (acc.map V.int)) = G5 at lw e2 hD2' h1
        -- return [0, 0, cells, 0, len(cells) + sum(parts)]
        refine ⟨_, rfl, _, rfl, D, _, rfl, .inl (SqL.g lw h1), _, rfl, D2, _, rfl, SqL.g lw hD2', _, _, rfl, rfl, (by show 5 ≤ sizeLine; decide), fun t n => ?_⟩
        have ne : t ≠ D := fun z => by
          have := lw.gh _ _ h1
          rw [← z, n] at this
          cases this
        rw [List.length_map]
        refine k _ t D (.begin ⟨0, 0, 0, _, cells, upd_same, ?_, by decide, by decide, by decide, by decide, ?_, ?_, ba⟩ ne)
        · rw [upd_ne (Ne.symm ne)]
          exact lw.gh _ _ h1
        · omega
        · have : (cells.length : Int) ≤ 63 := by omega
          omega
theorem sc_draw : FnScope ["pool", "many", "turn", "place", "mixed", "digit"] ["pool", "many"] (defScope s_draw) := ⟨rfl, rfl, rfl, by decide +kernel, rfl, by decide +kernel, by decide +kernel⟩
def sp_draw : Sp := PoolSp 1 (fun ws _ => ∃ m : Int, ws = [.int m] ∧ 0 < m ∧ m < 2 ^ 200) (fun ws _ _ v => ∃ m d : Int, ws = [.int m] ∧ v = .int d ∧ 0 ≤ d ∧ d < m)
theorem ok_draw (T : Tx K mg) : FnOk P w K mg base CX0 2 T.draw.f T.draw.fd ["pool", "many"] sp_draw := by
  refine T.draw.F.ok sc_draw (fun vs H Q E h => ?_) (fun cdv A outer s H vs Q E hr h => ?_)
  · obtain ⟨G, a, c, n, ws, rfl, _, _, ⟨m, rfl, _⟩, _⟩ := h
    rfl
  · obtain ⟨G, a, c, n, ws, rfl, lw, hn, ⟨m, rfl, m0, m1⟩, k⟩ := h
    refine ⟨_, (pss_cons (ps_for PassesOwn.never rfl (pi_range1 rfl T.z_range (pa_cons pe_int pa_nil)) (pg_name (i := 2) sc_draw.nd rfl (.inl rfl)) (pss_cons (ps_if (PW.pt (pw_and (pt_cmpR op_gt (pe_ix (UfK.ix_listK (K := K)) (pv 0) pe_int (fun _ _ => rfl)) pe_int (nomark _)) (pw_and1 (pt_cmpR op_lt (pe_ix (UfK.ix_listK (K := K)) (pv 0) pe_int (fun _ _ => rfl)) pe_int (nomark _))))) (pss_one ps_break) pss_nil)
      (pss_cons (ps_set (i := 3) sc_draw.nd rfl (.inl rfl) (pe_ix (UfK.ix_listK (K := K)) (pv 0) pe_int (fun _ _ => rfl)))
      (pss_cons (ps_asg (pe_op op_add (pv 3) pe_int) (pg_sub (pv 0) pe_int set_list))
      (pss_cons (ps_asg pe_int (pg_sub (pv 0) pe_int set_list))
      (pss_one (ps_if (pt_cmpR op_lt (pv 3) (pe_callB (UfK.call_lenK (K := K)) (by rfl) T.z_len (by decide +kernel) (pa_cons (pe_ix (UfK.ix_listK (K := K)) (pv 0) pe_int (fun _ _ => rfl)) pa_nil)) (nomark _)) (pss_one (ps_asg (pe_ix (UfK.ix_listK (K := K)) (pe_ix (UfK.ix_listK (K := K)) (pv 0) pe_int (fun _ _ => rfl)) (pv 3) (fun _ _ => rfl)) (pg_sub (pv 0) pe_int set_list))) (pss_cons (ps_set (i := 4) sc_draw.nd rfl (.inl rfl) (pe_op op_modN (pe_callTy call_int1 (by rfl) T.z_int (by decide +kernel) (pa_cons (pe_op op_add (pe_op op_add (pe_op op_mulW (pe_ix (UfK.ix_listK (K := K)) (pv 0) pe_int (fun _ _ => rfl)) pe_int) (pe_op op_mulW (pv 3) pe_int)) pe_int) pa_nil)) pe_int))
      (pss_one (ps_asg (pe_op op_add (pe_op op_modN (pe_callTy call_int1 (by rfl) T.z_int (by decide +kernel) (pa_cons (pe_op op_pow (pe_op op_add (pv 4) (pe_op op_pow pe_int pe_int)) pe_int) pa_nil)) (pe_op op_add (pe_op op_pow pe_int pe_int) pe_int)) pe_int) (pg_sub (pv 0) pe_int set_list)))))))))))
      (pss_cons (ps_set (i := 5) sc_draw.nd rfl (.inl rfl) (pe_op op_modN (pe_callTy call_int1 (by rfl) T.z_int (by decide +kernel) (pa_cons (pe_ix (UfK.ix_listK (K := K)) (pv 0) pe_int (fun _ _ => rfl)) pa_nil)) (pv 1)))
      (pss_cons (ps_asg (pe_op op_fdivW (pe_ix (UfK.ix_listK (K := K)) (pv 0) pe_int (fun _ _ => rfl)) (pv 1)) (pg_sub (pv 0) pe_int set_list))
      (pss_cons (ps_asg (pe_op op_add (pe_ix (UfK.ix_listK (K := K)) (pv 0) pe_int (fun _ _ => rfl)) pe_int) (pg_sub (pv 0) pe_int set_list))
      (pss_one (ps_ret (pv 5))))))), ?_⟩
    have h0 : ∃ (x y q M : Int), H a = some (.lst [.int x, .int y, .ref c, .int q, .int M]) ∧ 0 ≤ x ∧ x < 2 ^ 200 ∧ 0 ≤ q ∧ q ≤ 70 * (n : Int) ∧ 0 ≤ M ∧ M < 2 ^ 200 := by
      obtain ⟨⟨x, y, q, M, cells, h1, h2, h3, h4, h5, h6, h7, h8, h9⟩, _⟩ := lw.pool (a, c, n) rfl
      exact ⟨x, y, q, M, h1, h3, h4, h5, h6, h7, h8⟩
    obtain ⟨x, y, q, M, ha, b0, b1, b2, b3, b4, b5⟩ := h0
    refine ⟨70, rfl, by decide, by decide, for_rangeB (lo := 0) (n := (70 : Int).toNat)
      (fun i σ H' => ∃ (z2 z3 z4 : Option V) (x y q M : Int), σ = [some (.ref a), some (.int m), z2, z3, z4, none] ∧ Lw H G (some (a, c, n + 1)) [] G H' ∧ H' a = some (.lst [.int x, .int y, .ref c, .int q, .int M]) ∧
        0 ≤ x ∧ x < 2 ^ 200 ∧ 0 ≤ q ∧ q ≤ 70 * (n : Int) + i ∧ 0 ≤ M ∧ M < 2 ^ 200)
      (fun σ H' => ∃ (z2 z3 z4 : Option V) (x y q M : Int), σ = [some (.ref a), some (.int m), z2, z3, z4, none] ∧ Lw H G (some (a, c, n + 1)) [] G H' ∧ H' a = some (.lst [.int x, .int y, .ref c, .int q, .int M]) ∧
        0 ≤ x ∧ x < 2 ^ 200 ∧ 0 ≤ q ∧ q ≤ 70 * ((n + 1 : Nat) : Int) ∧ 0 ≤ M ∧ M < 2 ^ 200)
      (fun σ H' hp => ?_) ⟨none, none, none, x, y, q, M, rfl, lw.more (Nat.le_succ n), ha, b0, b1, b2, by omega, b4, b5⟩ (fun hk i σ H' hi hp => ?_) (fun σ H' hp => ?_)⟩
    · obtain ⟨z2, z3, z4, x, y, q, M, rfl, lw, ha, b0, b1, b2, b3, b4, b5⟩ := hp
      -- digit = int(pool[0]) % many
      refine ⟨_, rfl, a, _, 0, _, rfl, rfl, L2.SqL.of ha, rfl, Or.inl ⟨x, rfl, _, rfl, _, _, rfl, rfl, (show m ≠ 0 by omega), ?_⟩⟩
      -- pool[0] = pool[0] // many
      refine ⟨_, rfl, a, _, 0, _, rfl, rfl, L2.SqL.of ha, rfl, _, rfl, _, _, rfl, rfl, divW_of ⟨m0, Int.lt_trans m1 (by decide)⟩, _, rfl, a, _, 0, 0, rfl, rfl, ha, rfl, ?_⟩
      have q0 : 0 ≤ x / m := Int.ediv_nonneg b0 (by omega)
      have q1 : x / m ≤ x := Int.ediv_le_self _ b0
      have lw := lw.turn (n' := n + 1) (x := x / m) (y := y) q0 (by omega) b2 b3 b4 b5
      have ha : upd H' a (.lst [.int (x / m), .int y, .ref c, .int q, .int M]) a = _ := upd_same
      -- pool[1] = pool[1] + 1
      refine ⟨_, rfl, a, _, 1, _, rfl, rfl, L2.SqL.of ha, rfl, _, _, rfl, rfl, _, rfl, a, _, 1, 1, rfl, rfl, ha, rfl, ?_⟩
      have lw := lw.turn (n' := n + 1) (x := x / m) (y := y + 1) q0 (by omega) b2 b3 b4 b5
      have bd := fmod_bd (i := x) m0
      exact ⟨_, rfl, k _ _ _ lw ⟨m, _, rfl, rfl, bd.1, bd.2⟩⟩
    · obtain ⟨z2, z3, z4, x, y, q, M, rfl, lw, ha, b0, b1, b2, b3, b4, b5⟩ := hp
      have hi : i < 70 := hi
      -- if pool[0] > 0 and pool[1] < 60: break
      refine ⟨_, rfl, a, _, 0, _, rfl, rfl, L2.SqL.of ha, rfl, _, _, rfl, rfl, _, rfl, and2 (fun h1 rest => ⟨_, rfl, a, _, 1, _, rfl, rfl, L2.SqL.of ha, rfl, _, _, rfl, rfl, _, rfl, ite2 (fun h2 => ?_) (fun _ => rest)⟩) ?_⟩
      · exact hk _ _ ⟨some (.int (0 + (i : Int))), z3, z4, x, y, q, M, rfl, lw, ha, b0, b1, b2, by omega, b4, b5⟩
      obtain ⟨qn, rfl⟩ := Int.eq_ofNat_of_zero_le b2
      -- place = pool[3]; pool[3] = place + 1; pool[1] = 0
      refine ⟨_, rfl, a, _, 3, _, rfl, rfl, L2.SqL.of ha, rfl, ?_⟩
      refine ⟨_, rfl, _, _, rfl, rfl, _, rfl, a, _, 3, 3, rfl, rfl, ha, rfl, ?_⟩
      have lw := lw.turn (n' := n + 1) (x := x) (y := y) (k := (qn : Int) + 1) (m := M) b0 b1 (by omega) (by omega) b4 b5
      have ha : upd H' a (.lst [.int x, .int y, .ref c, .int ((qn : Int) + 1), .int M]) a = _ := upd_same
      refine ⟨_, rfl, a, _, 1, 1, rfl, rfl, ha, rfl, ?_⟩
      have lw := lw.turn (n' := n + 1) (x := x) (y := 0) (k := (qn : Int) + 1) (m := M) b0 b1 (by omega) (by omega) b4 b5
      have ha : upd (upd H' a (.lst [.int x, .int y, .ref c, .int ((qn : Int) + 1), .int M])) a (.lst [.int x, .int 0, .ref c, .int ((qn : Int) + 1), .int M]) a = _ := upd_same
      obtain ⟨⟨_, _, _, _, cells, _, hc, _, _, _, _, _, _, cb⟩, _⟩ := lw.pool (a, c, n + 1) rfl
      -- if place < len(pool[2])
      refine ⟨_, rfl, _, rfl, a, _, 2, _, rfl, rfl, L2.SqL.of ha, rfl, c, _, rfl, Or.inl (L2.SqL.of hc), _, _, rfl, rfl, _, rfl, ite2 (fun h3 => ?_) (fun h3 => ?_)⟩
      · rw [List.length_map] at h3
        have h3 : qn < cells.length := by
          simp at h3
          omega
        have hq : (cells.map V.int)[qn]? = some (.int cells[qn]) := by rw [List.getElem?_map, List.getElem?_eq_getElem h3]; rfl
        have bq := cb cells[qn] (List.getElem_mem h3)
        refine ⟨_, rfl, a, _, 2, _, rfl, rfl, L2.SqL.of ha, rfl, _, rfl, c, _, (qn : Int), _, rfl, rfl, L2.SqL.of hc, atI_nat hq, _, rfl, a, _, 0, 0, rfl, rfl, ha, rfl, ?_⟩
        have lw := lw.turn (n' := n + 1) (x := cells[qn]) (y := 0) (k := (qn : Int) + 1) (m := M) bq.1 bq.2 (by omega) (by omega) b4 b5
        exact ⟨some _, some _, z4, _, _, _, _, rfl, lw, upd_same, bq.1, bq.2, by omega, by omega, b4, b5⟩
      · refine ⟨_, rfl, a, _, 4, _, rfl, rfl, L2.SqL.of ha, rfl, _, _, rfl, rfl, mulW_of ⟨b4, by omega⟩ ⟨by decide, by decide⟩, _, rfl, _, _, rfl, rfl, mulW_of ⟨by omega, by omega⟩ ⟨by decide, by decide⟩, _, _, rfl, rfl, _, _, rfl, rfl,
          Or.inl ⟨_, rfl, _, _, rfl, rfl, (show (2147483647 : Int) ≠ 0 by decide), ?_⟩⟩
        have bm := fmod_bd (i := M * 48271 + (qn : Int) * 69621 + 305) (j := 2147483647) (by decide)
        have two : ((2 : Int) ^ (40 : Int).toNat) = 1099511627776 := by decide
        refine ⟨_, rfl, _, _, rfl, rfl, pow_small (by decide) (by decide), _, _, rfl, rfl, _, _, rfl, rfl, pow_small (by decide) ⟨by rw [two]; omega, by rw [two]; omega⟩, Or.inl ⟨_, rfl, _, _, rfl, rfl, pow_small (by decide) (by decide), _, _, rfl, rfl, _, _, rfl, rfl,
          (show (10 : Int) ^ (60 : Int).toNat + 7 ≠ 0 by decide), _, _, rfl, rfl, _, rfl, a, _, 0, 0, rfl, rfl, ha, rfl, ?_⟩⟩
        have bx := fmod60 (((M * 48271 + (qn : Int) * 69621 + 305).fmod 2147483647 + (2 : Int) ^ (40 : Int).toNat) ^ (9 : Int).toNat)
        have lw := lw.turn (n' := n + 1) (x := (((M * 48271 + (qn : Int) * 69621 + 305).fmod 2147483647 + (2 : Int) ^ (40 : Int).toNat) ^ (9 : Int).toNat).fmod ((10 : Int) ^ (60 : Int).toNat + 7) + 1) (y := 0) (k := (qn : Int) + 1) (m := M) (by omega) (by omega) (by omega) (by omega) b4 b5
        exact ⟨some _, some _, some _, _, _, _, _, rfl, lw, upd_same, by omega, by omega, by omega, by omega, b4, b5⟩
    · obtain ⟨z2, z3, z4, x, y, q, M, rfl, lw, ha, b0, b1, b2, b3, b4, b5⟩ := hp
      have b3 : q ≤ 70 * (n : Int) + ((70 : Nat) : Int) := b3
      exact ⟨z2, z3, z4, x, y, q, M, rfl, lw, ha, b0, b1, b2, by omega, b4, b5⟩
theorem call_draw {H0 G0 G H : Hp} {ls : List (Addr × HO)} {a c : Addr} {n : Nat} {m : Int} {Q : VK} (lw : Lw H0 G0 (some (a, c, n)) ls G H) (m0 : 0 < m) (m1 : m < 2 ^ 200) (hn : n + 1 ≤ 1000000)
    (k : ∀ G' H' d, Ex G G' → Lw H0 G0 (some (a, c, n + 1)) ls G' H' → 0 ≤ d → d < m → Q (.int d) H') : sp_draw [.ref a, .int m] H Q E0 :=
  call_pool lw hn ⟨m, rfl, m0, m1⟩ fun G' H' v e l hv => by
    obtain ⟨m', d, hm, rfl, b0, b1⟩ := hv
    cases hm
    exact k G' H' d e l b0 b1
end
end K01

namespace K01
open PySem PySem.Spec PyProof.Rows L2 UfG UfT UfR UfO UfI UfQ UfN
open Evl (Ex)
section
variable {P : Program} {w : World} {K : PySem.W.Frag} {mg : Str → Option Value} {base : Heap}
/-! ### _law_int, _law_kept, _law_error -/
theorem sc_int_ : FnScope ["told"] ["told"] (defScope s_int_) := ⟨rfl, rfl, rfl, by decide +kernel, rfl, by decide +kernel, by decide +kernel⟩
def sp_int : Sp := fun vs H Q _ => ∃ i : Int, vs = [.int i] ∧ Q (.bl true) H
theorem ok_int (T : Tx K mg) : FnOk P w K mg base CX0 1 T.int_.f T.int_.fd ["told"] sp_int := by
  refine T.int_.F.ok sc_int_ (fun vs H Q E h => ?_) (fun cdv A outer s H vs Q E hr h => ?_)
  · obtain ⟨i, rfl, _⟩ := h
    rfl
  · obtain ⟨i, rfl, k⟩ := h
    refine ⟨_, (pss_one (ps_ret (pe_and (pe_callB (UfK.call_isiK' (K := K)) (by rfl) T.z_isinstance (by decide +kernel) (pa_cons (pv 0) (pa_cons (pe_bltn (by rfl) T.z_int (by decide +kernel) (show RelV (.ty "int") _ from rfl)) pa_nil))) (pe_one (pe_not (pe_callB (UfK.call_isiK' (K := K)) (by rfl) T.z_isinstance (by decide +kernel) (pa_cons (pv 0) (pa_cons (pe_bltn (by rfl) T.z_bool (by decide +kernel) (show RelV (.ty "bool") _ from rfl)) pa_nil)))))))), ?_⟩
    exact ⟨_, rfl, .int i, .ty "int", .type "int", .type "int", true, rfl, .ty _, .base (.int i), kit_ty rfl, _, rfl, iteT ⟨_, rfl, .int i, .ty "bool", .type "int", .type "bool", false, rfl, .ty _, .base (.int i), kit_ty rfl, _, rfl, k⟩⟩
theorem ok_intH (T : Tx K mg) : UfH.FnE P w K mg base 1 T.int_.f T.int_.fd ["told"] (fun _ => sp_int) := by
  refine UfH.fun_okE T.int_.F sc_int_ (fun p vs H Q E h => ?_) (fun cdv A outer s H vs Q E p hot hr h => ?_)
  · obtain ⟨i, rfl, _⟩ := h
    rfl
  · obtain ⟨i, rfl, k⟩ := h
    refine ⟨_, (pss_one (ps_ret (pe_and (pe_callB (UfK.call_isiK' (K := K)) (by rfl) T.z_isinstance (by decide +kernel) (pa_cons (pv 0) (pa_cons (pe_bltn (by rfl) T.z_int (by decide +kernel) (show RelV (.ty "int") _ from rfl)) pa_nil))) (pe_one (pe_not (pe_callB (UfK.call_isiK' (K := K)) (by rfl) T.z_isinstance (by decide +kernel) (pa_cons (pv 0) (pa_cons (pe_bltn (by rfl) T.z_bool (by decide +kernel) (show RelV (.ty "bool") _ from rfl)) pa_nil)))))))), ?_⟩
    exact ⟨_, rfl, .int i, .ty "int", .type "int", .type "int", true, rfl, .ty _, .base (.int i), kit_ty rfl, _, rfl, iteT ⟨_, rfl, .int i, .ty "bool", .type "int", .type "bool", false, rfl, .ty _, .base (.int i), kit_ty rfl, _, rfl, k⟩⟩
theorem sc_kept : FnScope ["name", "number"] ["name", "number"] (defScope s_kept) := ⟨rfl, rfl, rfl, by decide +kernel, rfl, by decide +kernel, by decide +kernel⟩
def sp_kept : Sp := fun vs H Q _ => ∃ (x : Str) (i : Int), vs = [.str x, .int i] ∧ ∀ t, H t = none → Q (.ref t) (upd H t (.tup [.str x, .int i]))
theorem ok_keptH (T : Tx K mg) : UfH.FnE P w K mg base 2 T.kept.f T.kept.fd ["name", "number"] (fun _ => sp_kept) := by
  refine UfH.fun_okE T.kept.F sc_kept (fun p vs H Q E h => ?_) (fun cdv A outer s H vs Q E p hot hr h => ?_)
  · obtain ⟨x, i, rfl, _⟩ := h
    rfl
  · obtain ⟨x, i, rfl, k⟩ := h
    have xp : p ∈ (UfH.cxE P w K mg base ["name", "number"] (Str.ofString "_law_kept") (defScope s_kept) T.kept.f cdv A outer s H E p).pn := List.mem_singleton_self p
    refine ⟨_, (pss_cons (ps_if (pt_val (UfH.pe_callE (ok_intH T) (hr.mono (by decide)) p hot xp rfl T.int_.g T.int_.F.kp T.int_.b (pa_cons (pv 1) pa_nil))) (pss_one (ps_ret (pe_tup (pa_cons (pv 0) (pa_cons (pv 1) pa_nil))))) pss_nil)
      (pss_one (ps_ret (pe_tup (pa_cons pe_str (pa_cons (pv 0) pa_nil)))))), ?_⟩
    exact ⟨_, rfl, i, rfl, true, rfl, iteT ⟨_, rfl, _, rfl, (by show 2 ≤ sizeLine; decide), fun t n => k t n⟩⟩
def _root_.K01.Er.b0 : Er → Bool
  | .div => true
  | _ => false
def _root_.K01.Er.b1 : Er → Bool
  | .whole _ => true
  | _ => false
def _root_.K01.Er.b2 : Er → Bool
  | .text _ => true
  | _ => false
def _root_.K01.Er.b3 : Er → Bool
  | .prime _ => true
  | _ => false
def _root_.K01.Er.b4 : Er → Bool
  | .count _ => true
  | _ => false
def _root_.K01.Er.b5 : Er → Bool
  | .wrong _ => true
  | _ => false
def _root_.K01.Er.bs (e : Er) : List Bool := [e.b0, e.b1, e.b2, e.b3, e.b4, e.b5]
def errD : Er → PyData
  | .div => .tuple [.str "DivisionByZero"]
  | .whole n => .tuple [.str "Whole", .int n]
  | .text x => .tuple [.str "BadText", .str x]
  | .prime n => .tuple [.str "BadPrime", .int n]
  | .count n => .tuple [.str "BadCount", .int n]
  | .wrong n => .tuple [.str "WrongGround", .int n]
theorem sc_error : FnScope ["e", "kinds", "kind"] ["e"] (defScope s_error) := ⟨rfl, rfl, rfl, by decide +kernel, rfl, by decide +kernel, by decide +kernel⟩
def sp_error (T : Tx K mg) (p : Addr × Obj) : Sp := fun vs H Q _ => ∃ (G : Hp) (D : Addr) (d : Option Addr) (er : Er), Lw H G none [] G H ∧ vs = [.ref p.1] ∧ UfH.ExcO p D d ∧ ErAt T er G D d ∧ ∀ G' H' v, Lw H G none [] G' H' → Rp G' v (errD er) → Q v H'
/-- what its class says -/
theorem er_know (T : Tx K mg) {er : Er} {G : Hp} {D : Addr} {d : Option Addr} (h : ErAt T er G D d) : D ∈ [T.cDiv.C, T.cWhole.C, T.cText.C, T.cPrime.C, T.cCount.C, T.cWrong.C] ∧ UfH.ExKnow K D ∧
    Kits K D [(.ref T.cDiv.C, er.b0), (.ref T.cWhole.C, er.b1), (.ref T.cText.C, er.b2), (.ref T.cPrime.C, er.b3), (.ref T.cCount.C, er.b4), (.ref T.cWrong.C, er.b5), (.type "ValueError", true)] ∧ UfH.DOk G d := by
  cases er with
  | div =>
    refine ⟨by rw [h.1]; simp, by rw [h.1]; exact T.cDiv.kn, by rw [h.1]; exact T.kDiv, fun a e => ?_⟩
    rw [h.2] at e
    cases e
  | whole n =>
    obtain ⟨h1, a, rfl, ha⟩ := h
    exact ⟨by rw [h1]; simp, by rw [h1]; exact T.cWhole.kn, by rw [h1]; exact T.kWhole, fun b e => ⟨_, (Option.some.inj e) ▸ ha⟩⟩
  | text x =>
    obtain ⟨h1, a, rfl, ha⟩ := h
    exact ⟨by rw [h1]; simp, by rw [h1]; exact T.cText.kn, by rw [h1]; exact T.kText, fun b e => ⟨_, (Option.some.inj e) ▸ ha⟩⟩
  | prime n =>
    obtain ⟨h1, a, rfl, ha⟩ := h
    exact ⟨by rw [h1]; simp, by rw [h1]; exact T.cPrime.kn, by rw [h1]; exact T.kPrime, fun b e => ⟨_, (Option.some.inj e) ▸ ha⟩⟩
  | count n =>
    obtain ⟨h1, a, rfl, ha⟩ := h
    exact ⟨by rw [h1]; simp, by rw [h1]; exact T.cCount.kn, by rw [h1]; exact T.kCount, fun b e => ⟨_, (Option.some.inj e) ▸ ha⟩⟩
  | wrong n =>
    obtain ⟨h1, a, rfl, ha⟩ := h
    exact ⟨by rw [h1]; simp, by rw [h1]; exact T.cWrong.kn, by rw [h1]; exact T.kWrong, fun b e => ⟨_, (Option.some.inj e) ▸ ha⟩⟩
theorem dok_ex {G H : Hp} {d : Option Addr} (e : Ex G H) (h : UfH.DOk G d) : UfH.DOk H d := fun a ha => by
  obtain ⟨fs, z⟩ := h a ha
  exact ⟨fs, e _ _ z⟩
theorem ok_error (T : Tx K mg) : UfH.FnE P w K mg base 3 T.error.f T.error.fd ["e"] (sp_error T) := by
  refine UfH.fun_okE T.error.F sc_error (fun p vs H Q E h => ?_) (fun cdv A outer s H vs Q E p hot hr h => ?_)
  · obtain ⟨G, D, d, er, _, rfl, _⟩ := h
    rfl
  · obtain ⟨G, D, d, er, lw, rfl, xz, hE, k⟩ := h
    have xp : p ∈ (UfH.cxE P w K mg base ["e", "kinds", "kind"] (Str.ofString "_law_error") (defScope s_error) T.error.f cdv A outer s H E p).pn := List.mem_singleton_self p
    obtain ⟨hD, xk, kit, hd⟩ := er_know T hE
    have no_integer := T.fld D hD "integer" (by simp)
    have no_prime := T.fld D hD "prime" (by simp)
    have no_count := T.fld D hD "count" (by simp)
    have no_text := T.fld D hD "text" (by simp)
    have D0 := dok_ex lw.gh hd
    refine ⟨_, (pss_cons (ps_set (i := 1) sc_error.nd rfl (.inl rfl) (pe_lst (pa_cons (pe_callB (UfH.call_isO xk xz xp) (by rfl) T.z_isinstance (by decide +kernel) (pa_cons (pv 0) (pa_cons (pe_glob (v := .ref T.cDiv.C) rfl T.cDiv.g rfl) pa_nil))) (pa_cons (pe_callB (UfH.call_isO xk xz xp) (by rfl) T.z_isinstance (by decide +kernel) (pa_cons (pv 0) (pa_cons (pe_glob (v := .ref T.cWhole.C) rfl T.cWhole.g rfl) pa_nil))) (pa_cons (pe_callB (UfH.call_isO xk xz xp) (by rfl) T.z_isinstance (by decide +kernel) (pa_cons (pv 0) (pa_cons (pe_glob (v := .ref T.cText.C) rfl T.cText.g rfl) pa_nil))) pa_nil)))))
      (pss_cons (ps_set (i := 1) sc_error.nd rfl (.inl rfl) (pe_op op_cat (pv 1) (pe_lst (pa_cons (pe_callB (UfH.call_isO xk xz xp) (by rfl) T.z_isinstance (by decide +kernel) (pa_cons (pv 0) (pa_cons (pe_glob (v := .ref T.cPrime.C) rfl T.cPrime.g rfl) pa_nil))) (pa_cons (pe_callB (UfH.call_isO xk xz xp) (by rfl) T.z_isinstance (by decide +kernel) (pa_cons (pv 0) (pa_cons (pe_glob (v := .ref T.cCount.C) rfl T.cCount.g rfl) pa_nil))) (pa_cons (pe_callB (UfH.call_isO xk xz xp) (by rfl) T.z_isinstance (by decide +kernel) (pa_cons (pv 0) (pa_cons (pe_glob (v := .ref T.cWrong.C) rfl T.cWrong.g rfl) pa_nil))) pa_nil))))))
      (pss_cons (ps_if (PW.pt (pw_or (pt_not (pt_val (pe_callB (UfH.call_isO xk xz xp) (by rfl) T.z_isinstance (by decide +kernel) (pa_cons (pv 0) (pa_cons (pe_bltn (by rfl) T.z_ValueError (by decide +kernel) (show RelV (.ty "ValueError") _ from rfl)) pa_nil))))) (pw_or1 (pt_cmpR op_ne (pe_callB (UfH.cr_sumH ⟨p, hot, xp⟩) (by rfl) T.z_sum (by decide +kernel) (pa_cons (UfH.pe_lcH (own := [("kind", 2)]) ⟨p, hot, xp⟩ sc_error.nd (pv 1) (blkOk_by (own := [("kind", 2)]) (N := ["e", "kinds", "kind"]) (sc := defScope s_error) (by decide +kernel)) (fun _ _ _ _ _ => by exact pg_name (i := 2) sc_error.nd rfl (.inl rfl)) (fun _ _ _ _ _ => (pe_callTy call_int1 (by rfl) T.z_int (by decide +kernel) (pa_cons (pv 2) pa_nil)))) pa_nil)) pe_int (nomark _))))) (pss_one (ps_ret (pe_tup (pa_cons pe_str (pa_cons pe_str pa_nil))))) pss_nil)
      (pss_cons (ps_if (pt_val (pe_callB (UfH.call_isO xk xz xp) (by rfl) T.z_isinstance (by decide +kernel) (pa_cons (pv 0) (pa_cons (pe_glob (v := .ref T.cDiv.C) rfl T.cDiv.g rfl) pa_nil)))) (pss_one (ps_ret (pe_tup (pa_cons pe_str pa_nil)))) pss_nil)
      (pss_cons (ps_if (pt_val (pe_callB (UfH.call_isO xk xz xp) (by rfl) T.z_isinstance (by decide +kernel) (pa_cons (pv 0) (pa_cons (pe_glob (v := .ref T.cWhole.C) rfl T.cWhole.g rfl) pa_nil)))) (pss_one (ps_ret (UfH.pe_callE (ok_keptH T) (hr.mono (by decide)) p hot xp rfl T.kept.g T.kept.F.kp T.kept.b (pa_cons pe_str (pa_cons (UfH.pe_fldO xk xz xp no_integer (pv 0)) pa_nil))))) pss_nil)
      (pss_cons (ps_if (pt_val (pe_callB (UfH.call_isO xk xz xp) (by rfl) T.z_isinstance (by decide +kernel) (pa_cons (pv 0) (pa_cons (pe_glob (v := .ref T.cPrime.C) rfl T.cPrime.g rfl) pa_nil)))) (pss_one (ps_ret (UfH.pe_callE (ok_keptH T) (hr.mono (by decide)) p hot xp rfl T.kept.g T.kept.F.kp T.kept.b (pa_cons pe_str (pa_cons (UfH.pe_fldO xk xz xp no_prime (pv 0)) pa_nil))))) pss_nil)
      (pss_cons (ps_if (pt_val (pe_callB (UfH.call_isO xk xz xp) (by rfl) T.z_isinstance (by decide +kernel) (pa_cons (pv 0) (pa_cons (pe_glob (v := .ref T.cCount.C) rfl T.cCount.g rfl) pa_nil)))) (pss_one (ps_ret (UfH.pe_callE (ok_keptH T) (hr.mono (by decide)) p hot xp rfl T.kept.g T.kept.F.kp T.kept.b (pa_cons pe_str (pa_cons (UfH.pe_fldO xk xz xp no_count (pv 0)) pa_nil))))) pss_nil)
      (pss_cons (ps_if (pt_val (pe_callB (UfH.call_isO xk xz xp) (by rfl) T.z_isinstance (by decide +kernel) (pa_cons (pv 0) (pa_cons (pe_glob (v := .ref T.cWrong.C) rfl T.cWrong.g rfl) pa_nil)))) (pss_one (ps_ret (UfH.pe_callE (ok_keptH T) (hr.mono (by decide)) p hot xp rfl T.kept.g T.kept.F.kp T.kept.b (pa_cons pe_str (pa_cons (UfH.pe_fldO xk xz xp no_prime (pv 0)) pa_nil))))) pss_nil)
      (pss_cons (ps_if (pt_val (pe_callB (UfK.call_isiK' (K := K)) (by rfl) T.z_isinstance (by decide +kernel) (pa_cons (UfH.pe_fldO xk xz xp no_text (pv 0)) (pa_cons (pe_bltn (by rfl) T.z_str (by decide +kernel) (show RelV (.ty "str") _ from rfl)) pa_nil)))) (pss_one (ps_ret (pe_tup (pa_cons pe_str (pa_cons (UfH.pe_fldO xk xz xp no_text (pv 0)) pa_nil))))) pss_nil)
      (pss_one (ps_ret (pe_tup (pa_cons pe_str (pa_cons pe_str pa_nil)))))))))))))), ?_⟩
    refine ⟨_, rfl, .ref T.cDiv.C, _, er.b0, rfl, fun _ h => h, D0, kit.k0, _, rfl, .ref T.cWhole.C, _, er.b1, rfl, fun _ h => h, D0, kit.tl.k0, _, rfl, .ref T.cText.C, _, er.b2, rfl, fun _ h => h, D0, kit.tl.tl.k0, (by show 3 ≤ sizeLine; decide), fun t n => ?_⟩
    obtain ⟨G1, e1, lw, ht⟩ := lw.allocE (o := .lst [V.bl er.b0, V.bl er.b1, V.bl er.b2]) n
    have D1 := dok_ex (e1.trans lw.gh) hd
    refine ⟨_, rfl, _, rfl, .ref T.cPrime.C, _, er.b3, rfl, fun _ h => h, D1, kit.tl.tl.tl.k0, _, rfl, .ref T.cCount.C, _, er.b4, rfl, fun _ h => h, D1, kit.tl.tl.tl.tl.k0, _, rfl, .ref T.cWrong.C, _, er.b5, rfl, fun _ h => h, D1, kit.tl.tl.tl.tl.tl.k0, (by show 3 ≤ sizeLine; decide), fun t2 n2 => ?_⟩
    obtain ⟨G2, e2, lw, ht2⟩ := lw.allocE (o := .lst [V.bl er.b3, V.bl er.b4, V.bl er.b5]) n2
    refine ⟨t, t2, _, _, rfl, rfl, lw.gh _ _ (e2 _ _ ht), lw.gh _ _ ht2, (by show 6 ≤ sizeLine; decide), fun t3 n3 => ?_⟩
    obtain ⟨bs, hbs⟩ : ∃ bs, bs = er.bs := ⟨_, rfl⟩
    obtain ⟨G3, e3, lw, ht3⟩ := lw.allocE (o := .lst (bs.map V.bl)) n3
    rw [show [V.bl er.b0, V.bl er.b1, V.bl er.b2] ++ [V.bl er.b3, V.bl er.b4, V.bl er.b5] = bs.map V.bl by rw [hbs]; rfl]
    have e123 := (e1.trans e2).trans e3
    have D3 := dok_ex (e123.trans lw.gh) hd
    refine ⟨_, rfl, .ty "ValueError", _, true, rfl, fun _ h => h, D3, kit.tl.tl.tl.tl.tl.tl.k0, true, rfl, iteF ⟨_, rfl, t3, _, rfl, SqL.g lw ht3, fun D2 hD2 => ?_⟩⟩
    refine ⟨fun j H2 => Lw H G none [(D2, .lst (((bs.take j).map fun b => if b = true then (1 : Int) else 0).map V.int))] G3 H2, lw.make hD2, fun i H2 _ l => SqL.g l ht3, fun i x H2 hx l => ?_, fun H2 l => ?_⟩
    · obtain ⟨b, hb, rfl⟩ : ∃ b, bs[i]? = some b ∧ x = .bl b := by
        rw [List.getElem?_map] at hx
        cases e : bs[i]? with
        | none =>
          rw [e] at hx
          cases hx
        | some b =>
          rw [e] at hx
          exact ⟨b, rfl, (Option.some.inj hx).symm⟩
      refine ⟨rfl, _, rfl, Or.inr ⟨b, rfl, _, l.at, Evl.sz_lt (by rw [List.length_map, List.length_map, List.length_take, hbs]; show min i 6 < 100000; omega), ?_⟩⟩
      show Lw H G none [(D2, .lst (((bs.take (i + 1)).map fun b => if b = true then (1 : Int) else 0).map V.int))] G3 _
      rw [List.take_add_one, hb]
      have l2 := l.put (o' := .lst (((bs.take i).map fun b => if b = true then (1 : Int) else 0).map V.int ++ [V.int (if b = true then 1 else 0)]))
      rw [show (List.map V.int (List.map (fun b => if b = true then (1 : Int) else 0) (List.take i bs ++ (some b).toList))) = ((bs.take i).map fun b => if b = true then (1 : Int) else 0).map V.int ++ [V.int (if b = true then 1 else 0)] by
        rw [List.map_append, List.map_append]; rfl]
      exact l2
    · have l : Lw H G none [(D2, .lst (((bs.take (bs.map V.bl).length).map fun b => if b = true then (1 : Int) else 0).map V.int))] G3 H2 := l
      obtain ⟨lwZ, e4⟩ := l.keep
      rw [List.length_map, List.take_length] at lwZ e4
      obtain ⟨G4, hG4⟩ : ∃ G4, G4 = upd G3 D2 (.lst ((bs.map fun b => if b = true then (1 : Int) else 0).map V.int)) := ⟨_, rfl⟩
      rw [← hG4] at lwZ e4
      have h2 : G4 D2 = some (.lst ((bs.map fun b => if b = true then (1 : Int) else 0).map V.int)) := by rw [hG4]; exact upd_same
      have e14 := e123.trans e4
      have D4 := dok_ex (e14.trans lwZ.gh) hd
      have hone : (bs.map fun b => if b = true then (1 : Int) else 0).sum = 1 := by
        rw [hbs]
        cases er <;> rfl
      refine ⟨D2, _, rfl, SqL.g lwZ h2, (fun n hn => ?_), (by rw [List.length_map, hbs]; show 6 ≤ 1000; decide), ?_⟩
      · obtain ⟨b, _, rfl⟩ := List.mem_map.mp hn
        cases b <;> decide
      rw [hone]
      refine ⟨rfl, _, rfl, iteNS rfl ?_⟩
      cases er with
      | div =>
        refine ⟨_, rfl, .ref T.cDiv.C, _, true, rfl, fun _ h => h, D4, kit.k0, true, rfl, iteT ⟨(by show 1 ≤ sizeLine; decide), fun t n => ?_⟩⟩
        obtain ⟨G5, e5, lw, h5⟩ := lwZ.allocE (o := .tup [.str "DivisionByZero"]) n
        exact k _ _ _ lw (.tup h5 (.cons (.str _) .nil))
      | whole m =>
        obtain ⟨hC, b, rfl, hb⟩ := hE
        have Hm := lwZ.gh _ _ (e14 _ _ hb)
        refine ⟨_, rfl, .ref T.cDiv.C, _, false, rfl, fun _ h => h, D4, kit.k0, false, rfl, iteF ⟨_, rfl, .ref T.cWhole.C, _, true, rfl, fun _ h => h, D4, kit.tl.k0, true, rfl, iteT ⟨_, rfl, rfl, b, _, .int m, rfl, Hm, rfl, "Whole", m, rfl, fun t n => ?_⟩⟩⟩
        obtain ⟨G5, e5, lw, h5⟩ := lwZ.allocE (o := .tup [.str "Whole", .int m]) n
        exact k _ _ _ lw (.tup h5 (.cons (.str _) (.cons (.int _) .nil)))
      | prime m =>
        obtain ⟨hC, b, rfl, hb⟩ := hE
        have Hm := lwZ.gh _ _ (e14 _ _ hb)
        refine ⟨_, rfl, .ref T.cDiv.C, _, false, rfl, fun _ h => h, D4, kit.k0, false, rfl, iteF ⟨_, rfl, .ref T.cWhole.C, _, false, rfl, fun _ h => h, D4, kit.tl.k0, false, rfl, iteF ⟨_, rfl, .ref T.cPrime.C, _, true, rfl, fun _ h => h, D4, kit.tl.tl.tl.k0, true, rfl, iteT ⟨_, rfl, rfl, b, _, .int m, rfl, Hm, rfl, "BadPrime", m, rfl, fun t n => ?_⟩⟩⟩⟩
        obtain ⟨G5, e5, lw, h5⟩ := lwZ.allocE (o := .tup [.str "BadPrime", .int m]) n
        exact k _ _ _ lw (.tup h5 (.cons (.str _) (.cons (.int _) .nil)))
      | count m =>
        obtain ⟨hC, b, rfl, hb⟩ := hE
        have Hm := lwZ.gh _ _ (e14 _ _ hb)
        refine ⟨_, rfl, .ref T.cDiv.C, _, false, rfl, fun _ h => h, D4, kit.k0, false, rfl, iteF ⟨_, rfl, .ref T.cWhole.C, _, false, rfl, fun _ h => h, D4, kit.tl.k0, false, rfl, iteF ⟨_, rfl, .ref T.cPrime.C, _, false, rfl, fun _ h => h, D4, kit.tl.tl.tl.k0, false, rfl, iteF ⟨_, rfl, .ref T.cCount.C, _, true, rfl, fun _ h => h, D4, kit.tl.tl.tl.tl.k0, true, rfl, iteT ⟨_, rfl, rfl, b, _, .int m, rfl, Hm, rfl, "BadCount", m, rfl, fun t n => ?_⟩⟩⟩⟩⟩
        obtain ⟨G5, e5, lw, h5⟩ := lwZ.allocE (o := .tup [.str "BadCount", .int m]) n
        exact k _ _ _ lw (.tup h5 (.cons (.str _) (.cons (.int _) .nil)))
      | wrong m =>
        obtain ⟨hC, b, rfl, hb⟩ := hE
        have Hm := lwZ.gh _ _ (e14 _ _ hb)
        refine ⟨_, rfl, .ref T.cDiv.C, _, false, rfl, fun _ h => h, D4, kit.k0, false, rfl, iteF ⟨_, rfl, .ref T.cWhole.C, _, false, rfl, fun _ h => h, D4, kit.tl.k0, false, rfl, iteF ⟨_, rfl, .ref T.cPrime.C, _, false, rfl, fun _ h => h, D4, kit.tl.tl.tl.k0, false, rfl, iteF ⟨_, rfl, .ref T.cCount.C, _, false, rfl, fun _ h => h, D4, kit.tl.tl.tl.tl.k0, false, rfl, iteF ⟨_, rfl, .ref T.cWrong.C, _, true, rfl, fun _ h => h, D4, kit.tl.tl.tl.tl.tl.k0, true, rfl, iteT ⟨_, rfl, rfl, b, _, .int m, rfl, Hm, rfl, "WrongGround", m, rfl, fun t n => ?_⟩⟩⟩⟩⟩⟩
        obtain ⟨G5, e5, lw, h5⟩ := lwZ.allocE (o := .tup [.str "WrongGround", .int m]) n
        exact k _ _ _ lw (.tup h5 (.cons (.str _) (.cons (.int _) .nil)))
      | text x =>
        obtain ⟨hC, b, rfl, hb⟩ := hE
        have Hm := lwZ.gh _ _ (e14 _ _ hb)
        refine ⟨_, rfl, .ref T.cDiv.C, _, false, rfl, fun _ h => h, D4, kit.k0, false, rfl, iteF ⟨_, rfl, .ref T.cWhole.C, _, false, rfl, fun _ h => h, D4, kit.tl.k0, false, rfl, iteF ⟨_, rfl, .ref T.cPrime.C, _, false, rfl, fun _ h => h, D4, kit.tl.tl.tl.k0, false, rfl, iteF ⟨_, rfl, .ref T.cCount.C, _, false, rfl, fun _ h => h, D4, kit.tl.tl.tl.tl.k0, false, rfl, iteF ⟨_, rfl, .ref T.cWrong.C, _, false, rfl, fun _ h => h, D4, kit.tl.tl.tl.tl.tl.k0, false, rfl, iteF ⟨_, rfl, rfl, b, _, .str x, rfl, Hm, rfl, .str x, .ty "str", .type "str", .type "str", true, rfl, .ty _, .base (.str x), kit_ty rfl, _, rfl, iteT ⟨_, rfl, rfl, b, _, .str x, rfl, Hm, rfl, (by show 2 ≤ sizeLine; decide), fun t n => ?_⟩⟩⟩⟩⟩⟩⟩
        obtain ⟨G5, e5, lw, h5⟩ := lwZ.allocE (o := .tup [.str "BadText", .str x]) n
        exact k _ _ _ lw (.tup h5 (.cons (.str _) (.cons (.str _) .nil)))
end
end K01

namespace K01
open PySem PySem.Spec PyProof.Rows L2 UfG UfT UfR UfO UfI UfQ UfN
open Evl (Ex)
section
variable {P : Program} {w : World} {K : PySem.W.Frag} {mg : Str → Option Value} {base : Heap}
/-- a known tuple of two ints -/
def TI (G : Hp) (v : V) (x y : Int) : Prop := ∃ t, v = .ref t ∧ G t = some (.tup [.int x, .int y])
theorem TI.ex {G G' : Hp} {v : V} {x y : Int} (e : Ex G G') (h : TI G v x y) : TI G' v x y := by
  obtain ⟨t, e1, h⟩ := h
  exact ⟨t, e1, e _ _ h⟩
def left1 (σ : L2.St) : Nat := match σ[1]? with
  | some (some (V.int i)) => i.toNat
  | _ => 0
theorem sc_gcd : FnScope ["a", "b"] ["a", "b"] (defScope s_gcd) := ⟨rfl, rfl, rfl, by decide +kernel, rfl, by decide +kernel, by decide +kernel⟩
def sp_gcd : Sp := fun vs H Q E => ∃ a b : Int, PureSp (fun vs _ => vs = [.int a, .int b] ∧ a.natAbs < 2 ^ 4000 ∧ b.natAbs < 2 ^ 4000) (fun _ _ _ v => v = .int (Nat.gcd a.natAbs b.natAbs : Nat)) vs H Q E
theorem ok_gcd (T : Tx K mg) : FnOk P w K mg base CX0 1 T.gcd.f T.gcd.fd ["a", "b"] sp_gcd := by
  refine T.gcd.F.ok sc_gcd (fun vs H Q E h => ?_) (fun cdv A outer s H vs Q E hr h => ?_)
  · obtain ⟨a, b, G, _, ⟨rfl, _⟩, _⟩ := h
    rfl
  · obtain ⟨a, b, G, lw, ⟨rfl, ab, bb⟩, k⟩ := h
    refine ⟨_, (pss_cons (ps_set (i := 0) sc_gcd.nd rfl (.inl rfl) (pe_callB call_abs (by rfl) T.z_abs (by decide +kernel) (pa_cons (pv 0) pa_nil)))
      (pss_cons (ps_set (i := 1) sc_gcd.nd rfl (.inl rfl) (pe_callB call_abs (by rfl) T.z_abs (by decide +kernel) (pa_cons (pv 1) pa_nil)))
      (pss_cons (ps_while PassesOwn.never (pt_cmpR op_gt (pv 1) pe_int (nomark _)) (pss_one (ps_par (i := 0) (j := 1) (by rfl) sc_gcd.nd rfl rfl (by decide) rfl rfl (pa_cons (pv 1) (pa_cons (pe_op op_modN (pe_callTy call_int1 (by rfl) T.z_int (by decide +kernel) (pa_cons (pv 0) pa_nil)) (pv 1)) pa_nil)) (by rfl))))
      (pss_one (ps_ret (pv 0)))))), ?_⟩
    have ea : (if a < 0 then -a else a) = (a.natAbs : Int) := by split <;> omega
    have eb : (if b < 0 then -b else b) = (b.natAbs : Int) := by split <;> omega
    refine ⟨_, rfl, _, rfl, ?_⟩
    rw [ea]
    refine ⟨_, rfl, _, rfl, ?_⟩
    rw [eb]
    refine while_by (fun σ H' => ∃ (G' : Hp) (x y : Nat), σ = [some (.int x), some (.int y)] ∧ Lw H G none [] G' H' ∧ Nat.gcd x y = Nat.gcd a.natAbs b.natAbs) (fun σ _ => left1 σ)
      ⟨G, _, _, rfl, lw, rfl⟩ (fun σ H' hp => ?_) (fun σ H Q Q' h ⟨v, hv, i, j, e1, e2, k, e3, q⟩ => ⟨v, hv, i, j, e1, e2, k, e3, h _ _ q⟩)
    obtain ⟨G', x, y, rfl, lw, e⟩ := hp
    refine ⟨_, rfl, _, _, rfl, rfl, _, rfl, ite2 (fun h => ?_) (fun h => ?_)⟩
    · have yp : 0 < y := by simpa using h
      refine ⟨_, rfl, _, rfl, .inl ⟨_, rfl, _, rfl, _, _, rfl, rfl, (show (y : Int) ≠ 0 by omega), _, _, rfl, ?_⟩⟩
      have em : ((x : Int).fmod y) = ((x % y : Nat) : Int) := by rw [Int.fmod_eq_emod_of_nonneg _ (by omega)]; rfl
      show (∃ (G' : Hp) (x' y' : Nat), [some (V.int (y : Int)), some (V.int ((x : Int).fmod y))] = _ ∧ _) ∧ left1 [some (V.int (y : Int)), some (V.int ((x : Int).fmod y))] < y
      rw [em]
      refine ⟨⟨G', y, x % y, rfl, lw, ?_⟩, ?_⟩
      · rw [← e, Nat.gcd_comm x y, Nat.gcd_comm y (x % y), ← Nat.gcd_rec]
      · exact Nat.mod_lt _ yp
    · have y0 : y = 0 := by
        simp at h
        omega
      refine ⟨_, rfl, k _ _ _ lw ?_⟩
      rw [← e, y0, Nat.gcd_zero_right]
theorem sc_low : FnScope ["prime", "num", "den", "turn", "k", "part"] ["prime", "num", "den"] (defScope s_low) := ⟨rfl, rfl, rfl, by decide +kernel, rfl, by decide +kernel, by decide +kernel⟩
/-- the one form of num/den in a ground -/
def low (p n d : Int) : Int × Int := if p = 0 then ((fr n d).num, ((fr n d).den : Int)) else ((n * (d ^ (p - 2).toNat).fmod p).fmod p, 1)
def sp_low : Sp := fun vs H Q E => ∃ p n d : Int, PureSp (fun vs _ => vs = [.int p, .int n, .int d] ∧ (p = 0 ∧ d ≠ 0 ∨ 2 ≤ p ∧ p < 1000) ∧ n.natAbs < 2 ^ 2000 ∧ d.natAbs < 2 ^ 2000) (fun _ _ G' v => TI G' v (low p n d).1 (low p n d).2) vs H Q E
theorem ok_low (T : Tx K mg) : FnOk P w K mg base CX0 2 T.low.f T.low.fd ["prime", "num", "den"] sp_low := by
  refine T.low.F.ok sc_low (fun vs H Q E h => ?_) (fun cdv A outer s H vs Q E hr h => ?_)
  · obtain ⟨p, n, d, G, _, ⟨rfl, _⟩, _⟩ := h
    rfl
  · obtain ⟨p, n, d, G, lw, ⟨rfl, hp, nb, db⟩, k⟩ := h
    refine ⟨_, (pss_cons (ps_if (pt_cmpR op_gt (pv 0) pe_int (nomark _)) (pss_cons (ps_set (i := 3) sc_low.nd rfl (.inl rfl) pe_int)
      (pss_cons (ps_for PassesOwn.never rfl (pi_range1 rfl T.z_range (pa_cons (pe_op op_mulW (pe_op op_sub (pv 0) pe_int) (pe_callTy call_int1 (by rfl) T.z_int (by decide +kernel) (pa_cons (pe_cmpR op_ne (pv 2) pe_int (nomark _)) pa_nil))) pa_nil)) (pg_name (i := 4) sc_low.nd rfl (.inl rfl)) (pss_one (ps_set (i := 3) sc_low.nd rfl (.inl rfl) (pe_op op_modN (pe_callTy call_int1 (by rfl) T.z_int (by decide +kernel) (pa_cons (pe_op op_mulW (pv 3) (pv 2)) pa_nil)) (pv 0)))))
      (pss_one (ps_ret (pe_tup (pa_cons (pe_op op_modN (pe_callTy call_int1 (by rfl) T.z_int (by decide +kernel) (pa_cons (pe_op op_mulW (pv 1) (pv 3)) pa_nil)) (pv 0)) (pa_cons pe_int pa_nil))))))) pss_nil)
      (pss_cons (ps_if (pt_cmpR op_lt (pv 2) pe_int (nomark _)) (pss_cons (ps_set (i := 1) sc_low.nd rfl (.inl rfl) (pe_un un_neg (pv 1)))
      (pss_one (ps_set (i := 2) sc_low.nd rfl (.inl rfl) (pe_un un_neg (pv 2))))) pss_nil)
      (pss_cons (ps_set (i := 5) sc_low.nd rfl (.inl rfl) (pe_call (ok_gcd T) (hr.mono (by decide)) (by rfl) T.gcd.g T.gcd.F.kp T.gcd.b .nil pass0 (pa_cons (pv 1) (pa_cons (pv 2) pa_nil))))
      (pss_one (ps_ret (pe_tup (pa_cons (pe_op UfR.op_fdivZ (pv 1) (pv 5)) (pa_cons (pe_op UfR.op_fdivZ (pv 2) (pv 5)) pa_nil)))))))), ?_⟩
    rcases hp with ⟨rfl, d0⟩ | ⟨p2, p3⟩
    · refine ⟨_, rfl, _, _, rfl, rfl, _, rfl, ite2 (fun z => by simp at z) (fun _ => ?_)⟩
      refine seq_rest (fun σ' H' => σ' = [some (.int 0), some (.int n), some (.int d), none, none, none] ∧ Lw H G none [] G H') (fun σ' H' hp => ?_) (fun kk => kk _ _ ⟨rfl, lw⟩)
      obtain ⟨rfl, lw⟩ := hp
      refine seq_rest (fun σ' H' => ∃ n' d' : Int, σ' = [some (.int 0), some (.int n'), some (.int d'), none, none, none] ∧ Lw H G none [] G H' ∧ 0 < d' ∧ fr n' d' = fr n d ∧ n'.natAbs = n.natAbs ∧ d'.natAbs = d.natAbs) (fun σ' H' hp => ?_) (fun kk => ?_)
      · obtain ⟨n', d', rfl, lw, dp, ef, en, ed⟩ := hp
        have b1 : n'.natAbs < 2 ^ 4000 := by rw [en]; exact Nat.lt_trans nb (by decide +kernel)
        have b2 : d'.natAbs < 2 ^ 4000 := by rw [ed]; exact Nat.lt_trans db (by decide +kernel)
        refine ⟨_, rfl, _, rfl, n', d', call_pure lw ⟨rfl, b1, b2⟩ fun G1 H1 v e1 lw hv => ?_⟩
        subst hv
        have gp := gcd_pos (n := n') (show d' ≠ 0 by omega)
        have gl : Nat.gcd n'.natAbs d'.natAbs ≤ d'.natAbs := Nat.gcd_le_right _ (by omega)
        have gc : CDivZ 0 ((Nat.gcd n'.natAbs d'.natAbs : Nat) : Int) := ⟨by omega, by
          refine lg (b := 4000) ?_ (by decide) (by decide)
          rw [Int.natAbs_natCast]
          omega⟩
        refine ⟨_, rfl, _, rfl, _, _, rfl, rfl, gc, _, rfl, _, rfl, _, _, rfl, rfl, gc, (by show 2 ≤ sizeLine; decide), fun t nt => ?_⟩
        obtain ⟨G2, e2, lw, h2⟩ := lw.allocE (o := .tup [.int (n'.fdiv ((Nat.gcd n'.natAbs d'.natAbs : Nat) : Int)), .int (d'.fdiv ((Nat.gcd n'.natAbs d'.natAbs : Nat) : Int))]) nt
        refine k _ _ _ lw ⟨t, rfl, ?_⟩
        rw [h2]
        unfold low
        rw [if_pos rfl, ← ef]
        have f1 := fr_num (n := n') (show d' ≠ 0 by omega)
        have f2 := fr_den (n := n') (show d' ≠ 0 by omega)
        rw [if_neg (by omega)] at f1 f2
        rw [f1, f2]
      · refine ⟨_, rfl, _, _, rfl, rfl, _, rfl, ite2 (fun h => ?_) (fun h => ?_)⟩
        · have h : d < 0 := by simpa using h
          refine ⟨_, rfl, _, rfl, _, rfl, _, rfl, kk _ _ ⟨-n, -d, rfl, lw, by omega, ?_, by omega, by omega⟩⟩
          show Rat.divInt (-n) (-d) = Rat.divInt n d
          rw [Rat.divInt_neg', Int.neg_neg]
        · have h : ¬ d < 0 := by simpa using h
          exact kk _ _ ⟨n, d, rfl, lw, by omega, rfl, rfl, rfl⟩
    · refine ⟨_, rfl, _, _, rfl, rfl, _, rfl, ite2 (fun _ => ?_) (fun z => (z (decide_eq_true (show (0 : Int) < p by omega))).elim)⟩
      have pb : p.natAbs < 2 ^ 2000 := Nat.lt_trans (show p.natAbs < 1000 by omega) (by decide +kernel)
      refine ⟨_, rfl, _, _, rfl, rfl, _, rfl, rfl, .inr ⟨!decide (V.int d = V.int 1), rfl, ?_⟩⟩
      obtain ⟨e, he, h2⟩ : ∃ e : Nat, (if (!decide (V.int d = V.int 1)) = true then (1 : Int) else 0) = e ∧ e = (if d = 1 then 0 else 1) := ⟨if d = 1 then 0 else 1, by
        by_cases z : d = 1
        · subst z; rfl
        · have : ¬ V.int d = V.int 1 := fun y => z (by injection y)
          rw [decide_eq_false this, if_neg z]
          rfl, rfl⟩
      have e1 : e ≤ 1 := by
        rw [h2]
        split <;> decide
      rw [he]
      obtain ⟨r, hr⟩ := Int.eq_ofNat_of_zero_le (show 0 ≤ p - 2 by omega)
      have hre : ((p - 2) * e).toNat = r * e := by rw [hr, ← Int.natCast_mul]; rfl
      have re : r * e ≤ 1000 := by
        have := Nat.mul_le_mul_left r e1
        omega
      have step : ∀ j : Nat, ((d ^ j).fmod p * d).fmod p = (d ^ (j + 1)).fmod p := fun j => by
        rw [Int.pow_succ, Int.fmod_eq_emod_of_nonneg _ (by omega), Int.fmod_eq_emod_of_nonneg _ (by omega), Int.fmod_eq_emod_of_nonneg _ (by omega), Int.mul_emod (d ^ j) d, Int.mul_emod (d ^ j % p) d, Int.emod_emod]
      have tb : ∀ j : Nat, ((d ^ j).fmod p).natAbs < 2 ^ 4000 := fun j => mod_lt (by omega) (Nat.lt_trans pb (by decide +kernel))
      have db4 : d.natAbs < 2 ^ 4000 := Nat.lt_trans db (by decide +kernel)
      have nb4 : n.natAbs < 2 ^ 4000 := Nat.lt_trans nb (by decide +kernel)
      refine ⟨_, _, rfl, rfl, mulW_of (show 0 ≤ p - 2 ∧ p - 2 < 2 ^ 500 by omega) (show 0 ≤ (e : Int) ∧ (e : Int) < 2 ^ 500 by omega), _, rfl, by rw [hr, ← Int.natCast_mul]; omega, by rw [hr, ← Int.natCast_mul]; omega, ?_⟩
      rw [hre]
      refine for_range (fun j σ H' => ∃ z, σ = [some (.int p), some (.int n), some (.int d), some (.int ((d ^ j).fmod p)), z, none] ∧ Lw H G none [] G H') ⟨none, ?_, lw⟩ (fun j σ H' hj hp => ?_) (fun σ H' hp => ?_)
      · have : (d ^ 0).fmod p = 1 := by
          rw [Int.pow_zero, Int.fmod_eq_emod_of_nonneg _ (by omega)]
          exact Int.emod_eq_of_lt (by decide) (by omega)
        rw [this]
        rfl
      · obtain ⟨z, rfl, lw⟩ := hp
        refine ⟨_, rfl, _, rfl, _, _, rfl, rfl, sm_mul (tb j) db4, .inl ⟨_, rfl, _, rfl, _, _, rfl, rfl, (show p ≠ 0 by omega), some (.int (0 + (j : Nat))), ?_, lw⟩⟩
        rw [← step j]
        rfl
      · obtain ⟨z, rfl, lw⟩ := hp
        refine ⟨_, rfl, _, rfl, _, _, rfl, rfl, sm_mul nb4 (tb _), .inl ⟨_, rfl, _, rfl, _, _, rfl, rfl, (show p ≠ 0 by omega), (by show 2 ≤ sizeLine; decide), fun t nt => ?_⟩⟩
        obtain ⟨G2, e2, lw, h2'⟩ := lw.allocE (o := .tup [.int ((n * (d ^ (r * e)).fmod p).fmod p), .int 1]) nt
        refine k _ _ _ lw ⟨t, rfl, ?_⟩
        rw [h2']
        unfold low
        rw [if_neg (show ¬ p = 0 by omega)]
        have : d ^ (r * e) = d ^ (p - 2).toNat := by
          have er : (p - 2).toNat = r := by rw [hr]; rfl
          rw [er, h2]
          by_cases z : d = 1
          · rw [z, Int.one_pow, Int.one_pow]
          · rw [if_neg z, Nat.mul_one]
        rw [this]
theorem m98 {a b : Int} (ha : a.natAbs < 2 ^ 990) (hb : b.natAbs < 2 ^ 990) : (a * b).natAbs < 2 ^ 1980 := wide_lt (a := 990) (b := 990) ha hb
theorem m99 {a b : Int} (ha : a.natAbs < 2 ^ 990) (hb : b.natAbs < 2 ^ 990) : CMulW a b := sm_mul (Nat.lt_trans ha (by decide +kernel)) (Nat.lt_trans hb (by decide +kernel))
theorem sc_plus : FnScope ["prime", "a", "b"] ["prime", "a", "b"] (defScope s_plus) := ⟨rfl, rfl, rfl, by decide +kernel, rfl, by decide +kernel, by decide +kernel⟩
def sp_plus : Sp := fun vs H Q E => ∃ p a1 a2 b1 b2 : Int, PureSp (fun vs G => ∃ x y, vs = [.int p, x, y] ∧ TI G x a1 a2 ∧ TI G y b1 b2 ∧ (p = 0 ∧ a2 ≠ 0 ∧ b2 ≠ 0 ∨ 2 ≤ p ∧ p < 1000) ∧ a1.natAbs < 2 ^ 990 ∧ a2.natAbs < 2 ^ 990 ∧ b1.natAbs < 2 ^ 990 ∧ b2.natAbs < 2 ^ 990)
  (fun _ _ G' v => TI G' v (low p (a1 * b2 + b1 * a2) (a2 * b2)).1 (low p (a1 * b2 + b1 * a2) (a2 * b2)).2) vs H Q E
theorem ok_plus (T : Tx K mg) : FnOk P w K mg base CX0 3 T.plus.f T.plus.fd ["prime", "a", "b"] sp_plus := by
  refine T.plus.F.ok sc_plus (fun vs H Q E h => ?_) (fun cdv A outer s H vs Q E hr h => ?_)
  · obtain ⟨p, a1, a2, b1, b2, G, _, ⟨x, y, rfl, _⟩, _⟩ := h
    rfl
  · obtain ⟨p, a1, a2, b1, b2, G, lw, ⟨x, y, rfl, ⟨t, rfl, ht⟩, ⟨u, rfl, hu⟩, hp, a1b, a2b, b1b, b2b⟩, k⟩ := h
    have Ht := lw.gh _ _ ht
    have Hu := lw.gh _ _ hu
    refine ⟨_, (pss_one (ps_ret (pe_call (ok_low T) (hr.mono (by decide)) (by rfl) T.low.g T.low.F.kp T.low.b .nil pass0 (pa_cons (pv 0) (pa_cons (pe_op op_add (pe_op op_mulW (pe_ix (UfK.ix_tupK (K := K)) (pv 1) pe_int (fun _ _ => rfl)) (pe_ix (UfK.ix_tupK (K := K)) (pv 2) pe_int (fun _ _ => rfl))) (pe_op op_mulW (pe_ix (UfK.ix_tupK (K := K)) (pv 2) pe_int (fun _ _ => rfl)) (pe_ix (UfK.ix_tupK (K := K)) (pv 1) pe_int (fun _ _ => rfl)))) (pa_cons (pe_op op_mulW (pe_ix (UfK.ix_tupK (K := K)) (pv 1) pe_int (fun _ _ => rfl)) (pe_ix (UfK.ix_tupK (K := K)) (pv 2) pe_int (fun _ _ => rfl))) pa_nil)))))), ?_⟩
    have S1 := SqT.of (K := K) Ht
    have S2 := SqT.of (K := K) Hu
    refine ⟨_, rfl, _, rfl, t, _, 0, _, rfl, rfl, S1, rfl, _, rfl, u, _, 1, _, rfl, rfl, S2, rfl, _, _, rfl, rfl, m99 a1b b2b, _, rfl, u, _, 0, _, rfl, rfl, S2, rfl, _, rfl, t, _, 1, _, rfl, rfl, S1, rfl, _, _, rfl, rfl, m99 b1b a2b, _, _, rfl, rfl,
      _, rfl, t, _, 1, _, rfl, rfl, S1, rfl, _, rfl, u, _, 1, _, rfl, rfl, S2, rfl, _, _, rfl, rfl, m99 a2b b2b, ?_⟩
    refine ⟨_, _, _, call_pure lw ⟨rfl, ?_, ?_, ?_⟩ fun G' H' v e lw hv => k _ _ _ lw hv⟩
    · rcases hp with ⟨h1, h2, h3⟩ | h
      · exact .inl ⟨h1, Int.mul_ne_zero h2 h3⟩
      · exact .inr h
    · have x := m98 a1b b2b
      have y := m98 b1b a2b
      have z : (2 : Nat) ^ 1980 + 2 ^ 1980 < 2 ^ 2000 := by decide +kernel
      have := Int.natAbs_add_le (a1 * b2) (b1 * a2)
      omega
    · exact Nat.lt_trans (m98 a2b b2b) (by decide +kernel)
theorem sc_times : FnScope ["prime", "a", "b"] ["prime", "a", "b"] (defScope s_times) := ⟨rfl, rfl, rfl, by decide +kernel, rfl, by decide +kernel, by decide +kernel⟩
def sp_times : Sp := fun vs H Q E => ∃ p a1 a2 b1 b2 : Int, PureSp (fun vs G => ∃ x y, vs = [.int p, x, y] ∧ TI G x a1 a2 ∧ TI G y b1 b2 ∧ (p = 0 ∧ a2 ≠ 0 ∧ b2 ≠ 0 ∨ 2 ≤ p ∧ p < 1000) ∧ a1.natAbs < 2 ^ 990 ∧ a2.natAbs < 2 ^ 990 ∧ b1.natAbs < 2 ^ 990 ∧ b2.natAbs < 2 ^ 990)
  (fun _ _ G' v => TI G' v (low p (a1 * b1) (a2 * b2)).1 (low p (a1 * b1) (a2 * b2)).2) vs H Q E
theorem ok_times (T : Tx K mg) : FnOk P w K mg base CX0 3 T.times.f T.times.fd ["prime", "a", "b"] sp_times := by
  refine T.times.F.ok sc_times (fun vs H Q E h => ?_) (fun cdv A outer s H vs Q E hr h => ?_)
  · obtain ⟨p, a1, a2, b1, b2, G, _, ⟨x, y, rfl, _⟩, _⟩ := h
    rfl
  · obtain ⟨p, a1, a2, b1, b2, G, lw, ⟨x, y, rfl, ⟨t, rfl, ht⟩, ⟨u, rfl, hu⟩, hp, a1b, a2b, b1b, b2b⟩, k⟩ := h
    have Ht := lw.gh _ _ ht
    have Hu := lw.gh _ _ hu
    refine ⟨_, (pss_one (ps_ret (pe_call (ok_low T) (hr.mono (by decide)) (by rfl) T.low.g T.low.F.kp T.low.b .nil pass0 (pa_cons (pv 0) (pa_cons (pe_op op_mulW (pe_ix (UfK.ix_tupK (K := K)) (pv 1) pe_int (fun _ _ => rfl)) (pe_ix (UfK.ix_tupK (K := K)) (pv 2) pe_int (fun _ _ => rfl))) (pa_cons (pe_op op_mulW (pe_ix (UfK.ix_tupK (K := K)) (pv 1) pe_int (fun _ _ => rfl)) (pe_ix (UfK.ix_tupK (K := K)) (pv 2) pe_int (fun _ _ => rfl))) pa_nil)))))), ?_⟩
    have S1 := SqT.of (K := K) Ht
    have S2 := SqT.of (K := K) Hu
    refine ⟨_, rfl, _, rfl, t, _, 0, _, rfl, rfl, S1, rfl, _, rfl, u, _, 0, _, rfl, rfl, S2, rfl, _, _, rfl, rfl, m99 a1b b1b, 
      _, rfl, t, _, 1, _, rfl, rfl, S1, rfl, _, rfl, u, _, 1, _, rfl, rfl, S2, rfl, _, _, rfl, rfl, m99 a2b b2b, ?_⟩
    refine ⟨_, _, _, call_pure lw ⟨rfl, ?_, ?_, ?_⟩ fun G' H' v e lw hv => k _ _ _ lw hv⟩
    · rcases hp with ⟨h1, h2, h3⟩ | h
      · exact .inl ⟨h1, Int.mul_ne_zero h2 h3⟩
      · exact .inr h
    · exact Nat.lt_trans (m98 a1b b1b) (by decide +kernel)
    · exact Nat.lt_trans (m98 a2b b2b) (by decide +kernel)
theorem sc_is : FnScope ["told", "pair"] ["told", "pair"] (defScope s_is) := ⟨rfl, rfl, rfl, by decide +kernel, rfl, by decide +kernel, by decide +kernel⟩
def sp_is (T : Tx K mg) : Sp := fun vs H Q E => ∃ q : Rat, PureSp (fun vs G => ∃ x y, vs = [x, y] ∧ Nm T.frac.C G x q ∧ TI G y q.num q.den) (fun _ _ _ v => v = .bl true) vs H Q E
theorem ok_is (T : Tx K mg) : FnOk P w K mg base CX0 8 T.is.f T.is.fd ["told", "pair"] (sp_is T) := by
  refine T.is.F.ok sc_is (fun vs H Q E h => ?_) (fun cdv A outer s H vs Q E hr h => ?_)
  · obtain ⟨q, G, _, ⟨x, y, rfl, _⟩, _⟩ := h
    rfl
  · obtain ⟨q, G, lw, ⟨x, y, rfl, hx, ⟨t, rfl, ht⟩⟩, k⟩ := h
    have Ht := lw.gh _ _ ht
    refine ⟨_, (pss_cons (ps_if (pt_cmpR op_eq (pe_ix (UfK.ix_tupK (K := K)) (pv 1) pe_int (fun _ _ => rfl)) pe_int (nomark _)) (pss_one (ps_ret (pe_and (pe_call (ok_int T) (hr.mono (by decide)) (by rfl) T.int_.g T.int_.F.kp T.int_.b .nil pass0 (pa_cons (pv 0) pa_nil)) (pe_one (pe_cmpR (UfO.op_ownEq (hr.mono (by decide)) T.frac.o T.fEq (ok_f_eq T) T.f_eq.b pass0) (pv 0) (pe_ix (UfK.ix_tupK (K := K)) (pv 1) pe_int (fun _ _ => rfl)) (nomark _)))))) pss_nil)
      (pss_cons (ps_if (PW.pt (pw_or (pt_not (pt_val (pe_callB (UfK.call_isiK' (K := K)) (by rfl) T.z_isinstance (by decide +kernel) (pa_cons (pv 0) (pa_cons (pe_glob (v := .ref T.frac.C) rfl T.frac.g rfl) pa_nil))))) (pw_or (pt_not (pt_val (pe_call (ok_int T) (hr.mono (by decide)) (by rfl) T.int_.g T.int_.F.kp T.int_.b .nil pass0 (pa_cons (UfK.pe_fldK (K := K) (pv 0) rfl) pa_nil)))) (pw_or1 (pt_not (pt_val (pe_call (ok_int T) (hr.mono (by decide)) (by rfl) T.int_.g T.int_.F.kp T.int_.b .nil pass0 (pa_cons (UfK.pe_fldK (K := K) (pv 0) rfl) pa_nil)))))))) (pss_one (ps_ret pe_bl)) pss_nil)
      (pss_one (ps_ret (pe_and (pe_cmpR op_eq (UfK.pe_fldK (K := K) (pv 0) rfl) (pe_ix (UfK.ix_tupK (K := K)) (pv 1) pe_int (fun _ _ => rfl)) (nomark _)) (pe_one (pe_cmpR op_eq (UfK.pe_fldK (K := K) (pv 0) rfl) (pe_ix (UfK.ix_tupK (K := K)) (pv 1) pe_int (fun _ _ => rfl)) (nomark _)))))))), ?_⟩
    have S1 := SqT.of (K := K) Ht
    refine ⟨_, rfl, t, _, 1, _, rfl, rfl, S1, rfl, rfl, _, rfl, ite2 (fun h => ?_) (fun h => ?_)⟩
    · have h : q.den = 1 := by
        have : ((q.den : Nat) : Int) = 1 := by simpa using h
        omega
      rcases hx with ⟨_, rfl⟩ | ⟨h2, _⟩
      · refine ⟨_, rfl, _, rfl, true, rfl, iteT ⟨_, rfl, _, rfl, t, _, 0, _, rfl, rfl, S1, rfl, .inr (.inr ⟨rfl, k _ _ _ lw ?_⟩)⟩⟩
        show V.bl (decide (V.int q.num = V.int q.num)) = _
        rw [decide_eq_true rfl]
      · exact absurd h h2
    · have h : q.den ≠ 1 := fun z => h (by rw [z]; rfl)
      rcases hx with ⟨h2, _⟩ | ⟨_, a, rfl, dx, ha⟩
      · exact absurd h2 h
      · have Ha := lw.gh _ _ ha
        refine ⟨_, rfl, .ref a, .ref T.frac.C, .ref T.frac.C, .ref T.frac.C, true, rfl, .own _, T.frac.ty Ha, T.kFF, true, rfl, iteF ⟨_, rfl, a, T.frac.C, dx, _, _, rfl, Ha, T.frac.c, T.nNum, lk_num, _, rfl, true, rfl, iteF ⟨_, rfl, a, T.frac.C, dx, _, _, rfl, Ha, T.frac.c, T.nDen, lk_den, _, rfl, true, rfl, iteF ?_⟩⟩⟩
        refine ⟨_, rfl, a, T.frac.C, dx, _, _, rfl, Ha, T.frac.c, T.nNum, lk_num, _, rfl, t, _, 0, _, rfl, rfl, S1, rfl, rfl, _, rfl, ite2 (fun _ => ?_) (fun z => (z (decide_eq_true rfl)).elim)⟩
        refine ⟨_, rfl, a, T.frac.C, dx, _, _, rfl, Ha, T.frac.c, T.nDen, lk_den, _, rfl, t, _, 1, _, rfl, rfl, S1, rfl, rfl, k _ _ _ lw ?_⟩
        show V.bl (decide (V.int q.den = V.int q.den)) = _
        rw [decide_eq_true rfl]
theorem sc_hand : FnScope ["pair"] ["pair"] (defScope s_hand) := ⟨rfl, rfl, rfl, by decide +kernel, rfl, by decide +kernel, by decide +kernel⟩
def sp_hand (T : Tx K mg) : Sp := fun vs H Q E => ∃ q : Rat, PureSp (fun vs G => ∃ y, vs = [y] ∧ TI G y q.num q.den ∧ q.den < 2 ^ 4000) (fun _ _ G' v => Nm T.frac.C G' v q) vs H Q E
theorem ok_hand (T : Tx K mg) : FnOk P w K mg base CX0 5 T.hand.f T.hand.fd ["pair"] (sp_hand T) := by
  refine T.hand.F.ok sc_hand (fun vs H Q E h => ?_) (fun cdv A outer s H vs Q E hr h => ?_)
  · obtain ⟨q, G, _, ⟨y, rfl, _⟩, _⟩ := h
    rfl
  · obtain ⟨q, G, lw, ⟨y, rfl, ⟨t, rfl, ht⟩, qb⟩, k⟩ := h
    have Ht := lw.gh _ _ ht
    refine ⟨_, (pss_cons (ps_if (pt_cmpR op_eq (pe_ix (UfK.ix_tupK (K := K)) (pv 0) pe_int (fun _ _ => rfl)) pe_int (nomark _)) (pss_one (ps_ret (pe_ix (UfK.ix_tupK (K := K)) (pv 0) pe_int (fun _ _ => rfl)))) pss_nil)
      (pss_one (ps_ret (UfR.pe_makeS T.fracMk (ok_f_init T) (hr.mono (by decide)) rfl T.frac.g T.f_init.b (fun σ => L2N.passAt UfT.takesN0 σ) (pa_cons (pe_ix (UfK.ix_tupK (K := K)) (pv 0) pe_int (fun _ _ => rfl)) (pa_cons (pe_ix (UfK.ix_tupK (K := K)) (pv 0) pe_int (fun _ _ => rfl)) pa_nil)))))), ?_⟩
    have S1 := SqT.of (K := K) Ht
    refine ⟨_, rfl, t, _, 1, _, rfl, rfl, S1, rfl, rfl, _, rfl, ite2 (fun h => ?_) (fun h => ?_)⟩
    · have h : q.den = 1 := by
        have : ((q.den : Nat) : Int) = 1 := by simpa using h
        omega
      exact ⟨_, rfl, t, _, 0, _, rfl, rfl, S1, rfl, k _ _ _ lw (.inl ⟨h, rfl⟩)⟩
    · have h : q.den ≠ 1 := fun z => h (by rw [z]; rfl)
      refine ⟨_, rfl, t, _, 0, _, rfl, rfl, S1, rfl, _, rfl, t, _, 1, _, rfl, rfl, S1, rfl, ?_⟩
      refine fun x dx hx hd ne => ⟨q.num, q.den, call_make lw ⟨rfl, by rw [Int.natAbs_natCast]; exact Nat.lt_trans qb (by decide +kernel)⟩ (fun G1 H1 x e lw hv => k _ _ _ lw (.inr ⟨h, x, rfl, by have := hv.2.2; rw [q_fr] at this; exact this⟩)) (fun G1 H1 C q' e lw hv => ?_) x dx hx hd ne⟩
      rcases hv with ⟨z, _⟩ | ⟨_, z, _⟩
      · exact den_ne q z
      · have := (fr_whole (den_ne q)).mpr z
        rw [q_fr] at this
        exact h this
end
end K01

namespace K01
open PySem PySem.Spec PyProof.Rows L2 UfG UfT UfR UfO UfI UfQ UfN
open Evl (Ex)
/-! ### promises are monotone -/
theorem PureSp_mono {pre : List V → Hp → Prop} {post : List V → Hp → Hp → V → Prop} {vs : List V} {H : Hp} {Q Q' : VK} {E E' : XK} (hq : ∀ v H, Q v H → Q' v H) (h : PureSp pre post vs H Q E) : PureSp pre post vs H Q' E' := by
  obtain ⟨G, lw, hp, k⟩ := h
  exact ⟨G, lw, hp, fun G' H' v l z => hq _ _ (k G' H' v l z)⟩
theorem RaiseN_mono {pre : List V → Hp → Prop} {post : List V → Hp → Hp → V → Prop} {exc : List V → Hp → Addr → Option Addr → Prop} {vs : List V} {H : Hp} {Q Q' : VK} {E E' : XK} (hq : ∀ v H, Q v H → Q' v H) (he : ∀ c d H, E c d H → E' c d H) (h : RaiseN pre post exc vs H Q E) : RaiseN pre post exc vs H Q' E' := by
  obtain ⟨G, lw, hp, k, kx⟩ := h
  exact ⟨G, lw, hp, fun G' H' v l z => hq _ _ (k G' H' v l z), fun G' H' C d l z => he _ _ _ (kx G' H' C d l z)⟩
theorem InitSp_mono {F : Addr} {pre : List V → Hp → Prop} {post : List V → Hp → Hp → Addr → Prop} {exc : List V → Hp → Addr → Option Addr → Prop} {vs : List V} {H : Hp} {Q Q' : VK} {E E' : XK} (hq : ∀ v H, Q v H → Q' v H) (he : ∀ c d H, E c d H → E' c d H) (h : InitSp F pre post exc vs H Q E) : InitSp F pre post exc vs H Q' E' := by
  obtain ⟨H1, G, x, dx, ws, e, lw, hp, k, kx⟩ := h
  exact ⟨H1, G, x, dx, ws, e, lw, hp, fun G' H' l z => hq _ _ (k G' H' l z), fun G' H' C d l z => he _ _ _ (kx G' H' C d l z)⟩
section
variable {P : Program} {w : World} {K : PySem.W.Frag} {mg : Str → Option Value} {base : Heap}
section
variable {T : Tx K mg} {vs : List V} {H : Hp} {Q Q' : VK} {E E' : XK}
theorem ratio_mono (hq : ∀ v H, Q v H → Q' v H) (he : ∀ c d H, E c d H → E' c d H) (h : sp_ratio T vs H Q E) : sp_ratio T vs H Q' E' := by
  obtain ⟨n, d, h⟩ := h
  exact ⟨n, d, RaiseN_mono hq he h⟩
theorem f_init_mono (hq : ∀ v H, Q v H → Q' v H) (he : ∀ c d H, E c d H → E' c d H) (h : sp_f_init T vs H Q E) : sp_f_init T vs H Q' E' := by
  obtain ⟨n, d, h⟩ := h
  exact ⟨n, d, InitSp_mono hq he h⟩
theorem divided_mono (hq : ∀ v H, Q v H → Q' v H) (he : ∀ c d H, E c d H → E' c d H) (h : sp_divided T vs H Q E) : sp_divided T vs H Q' E' := by
  obtain ⟨n, d, h⟩ := h
  exact ⟨n, d, RaiseN_mono hq he h⟩
theorem read_mono (hq : ∀ v H, Q v H → Q' v H) (he : ∀ c d H, E c d H → E' c d H) (h : sp_read_number T vs H Q E) : sp_read_number T vs H Q' E' := by
  obtain ⟨l, h⟩ := h
  exact ⟨l, RaiseN_mono hq he h⟩
theorem g_init_mono (hq : ∀ v H, Q v H → Q' v H) (he : ∀ c d H, E c d H → E' c d H) (h : sp_g_init T vs H Q E) : sp_g_init T vs H Q' E' := by
  obtain ⟨l, h⟩ := h
  exact ⟨l, InitSp_mono hq he h⟩
theorem over_mono (hq : ∀ v H, Q v H → Q' v H) (he : ∀ c d H, E c d H → E' c d H) (h : sp_g_over T vs H Q E) : sp_g_over T vs H Q' E' := by
  obtain ⟨a, ws, p, e, hg, x, y, e2, h⟩ := h
  refine ⟨a, ws, p, e, hg, x, y, e2, ?_⟩
  rcases h with ⟨q1, q2, h⟩ | ⟨p, i, j, h⟩
  · exact .inl ⟨q1, q2, RaiseN_mono hq he h⟩
  · exact .inr ⟨p, i, j, RaiseN_mono hq he h⟩
theorem power_mono (hq : ∀ v H, Q v H → Q' v H) (he : ∀ c d H, E c d H → E' c d H) (h : sp_g_power T vs H Q E) : sp_g_power T vs H Q' E' := by
  obtain ⟨a, ws, p, e, hg, x, n, e2, h⟩ := h
  refine ⟨a, ws, p, e, hg, x, n, e2, ?_⟩
  by_cases z : 0 ≤ n ∧ n ≤ 100
  · rw [if_pos z] at h ⊢
    rcases h with ⟨q, m, h⟩ | ⟨p, i, m, h⟩
    · exact .inl ⟨q, m, PureSp_mono hq h⟩
    · exact .inr ⟨p, i, m, PureSp_mono hq h⟩
  · rw [if_neg z] at h ⊢
    obtain ⟨G, lw, k⟩ := h
    exact ⟨G, lw, fun G' H' C d l hE => he _ _ _ (k G' H' C d l hE)⟩
theorem roots_mono (hq : ∀ v H, Q v H → Q' v H) (he : ∀ c d H, E c d H → E' c d H) (h : sp_g_roots T vs H Q E) : sp_g_roots T vs H Q' E' := by
  obtain ⟨a, ws, p, e, hg, n, e2, h⟩ := h
  exact ⟨a, ws, p, e, hg, n, e2, RaiseN_mono hq he h⟩
theorem least_mono (hq : ∀ v H, Q v H → Q' v H) (he : ∀ c d H, E c d H → E' c d H) (h : sp_g_least T vs H Q E) : sp_g_least T vs H Q' E' := by
  obtain ⟨a, ws, p, e, hg, n, e2, h⟩ := h
  exact ⟨a, ws, p, e, hg, n, e2, RaiseN_mono hq he h⟩
theorem numbers_mono (hq : ∀ v H, Q v H → Q' v H) (he : ∀ c d H, E c d H → E' c d H) (h : sp_g_numbers T vs H Q E) : sp_g_numbers T vs H Q' E' := by
  obtain ⟨a, ws, p, e, hg, e2, h⟩ := h
  exact ⟨a, ws, p, e, hg, e2, RaiseN_mono hq he h⟩
end
/-! ### _law_ask, _law_ground -/
/-- what is told without an error -/
def told (Q : VK) : VK := fun x H' => ∀ t, H' t = none → Q (.ref t) (upd H' t (.tup [.str "told", x]))
/-- .. with an error -/
def caught (T : Tx K mg) (Q : VK) : XK := fun cls d H' => ∃ (er : Er) (D : Addr) (G' : Hp), cls = .ref D ∧ Ex G' H' ∧ ErAt T er G' D d ∧ ∀ G'' H'' v, Lw H' G' none [] G'' H'' → Rp G'' v (errD er) → Q v H''
section
variable {T : Tx K mg} {H0 G0 G H : Hp} {p : Option (Addr × Addr × Nat)} {ls : List (Addr × HO)} {Q : VK} {x : V} {er : Er} {D : Addr} {d : Option Addr}
theorem told_of (lw : Lw H0 G0 p ls G H) (k : ∀ G' H' t, Ex G G' → Lw H0 G0 p ls G' H' → G' t = some (.tup [.str "told", x]) → Q (.ref t) H') : told Q x H := fun t n => by
  obtain ⟨G', e, lw, h⟩ := lw.allocE (o := .tup [.str "told", x]) n
  exact k _ _ t e lw h
theorem caught_of (lw : Lw H0 G0 p ls G H) (hE : ErAt T er G D d) (k : ∀ G' H' v, Ex G G' → Lw H0 G0 p ls G' H' → Rp G' v (errD er) → Q v H') : caught T Q (.ref D) d H :=
  ⟨er, D, G, rfl, lw.gh, hE, fun G' H' v l r => k G' H' v l.g0 (lw.after l) r⟩
end
def sp_errorS (T : Tx K mg) (a : Addr) (cls : Value) (d : Option Addr) : Sp := fun vs H Q _ => ∃ (G : Hp) (D : Addr) (er : Er), Lw H G none [] G H ∧ vs = [.ref a] ∧ cls = .ref D ∧ ErAt T er G D d ∧ ∀ G' H' v, Lw H G none [] G' H' → Rp G' v (errD er) → Q v H'
theorem suiteI {T : Tx K mg} {a : Addr} {oe : Obj} {cls : Value} {d : Option Addr} {vs : List V} {H : Hp} {Q : VK} {E : XK} (hz : L2N.Zn cls d oe) (hf : ∃ vs, oe.data = .fields vs) (h : sp_errorS T a cls d vs H Q E) : sp_error T (a, oe) vs H Q E := by
  obtain ⟨G, D, er, lw, e1, rfl, hE, k⟩ := h
  exact ⟨G, D, d, er, lw, e1, ⟨hz.zc, hf⟩, hE, k⟩
def tSuite (T : Tx K mg) (i : Nat) : Addr → Value → Option Addr → TS := fun a cls d => tRet (UfH.tCallE (sp_errorS T a cls d) (tCons (tVar i) tNil))
theorem er_exm (T : Tx K mg) {er : Er} {G : Hp} {D : Addr} {d : Option Addr} (h : ErAt T er G D d) : PySem.W.exmOne K (.ref D) (.ref T.cForms.C) = some true := T.exm D (er_know T h).1
theorem sc_ask : FnScope ["mode", "first", "second", "told", "e"] ["mode", "first", "second"] (defScope s_ask) := ⟨rfl, rfl, rfl, by decide +kernel, rfl, by decide +kernel, by decide +kernel⟩
/-- C(..): a new object -/
def mkSp (C : Addr) (sp : Sp) (ws : List V) (H : Hp) (Q : VK) (E : XK) : Prop := ∀ x dx, H x = none → H dx = none → dx ≠ x → sp (.ref x :: ws) (upd (upd H dx (.own x)) x (.ins C dx [])) (fun v H2 => v = .non ∧ Q (.ref x) H2) E
def askSp (T : Tx K mg) (m : Int) (a b : V) (H : Hp) (Q : VK) (E : XK) : Prop := (m = 0 ∧ sp_ratio T [a, b] H Q E) ∨ (m = 1 ∧ mkSp T.frac.C (sp_f_init T) [a, b] H Q E) ∨ (m = 2 ∧ sp_divided T [a, b] H Q E) ∨ (m = 3 ∧ sp_read_number T [a] H Q E) ∨ (m = 4 ∧ mkSp T.ground.C (sp_g_init T) [a] H Q E)
def sp_ask (T : Tx K mg) : Sp := fun vs H Q _ => ∃ m a b, vs = [.int m, a, b] ∧ askSp T m a b H (told Q) (caught T Q)
theorem ok_ask (T : Tx K mg) : FnOk P w K mg base CX0 9 T.ask.f T.ask.fd ["mode", "first", "second"] (sp_ask T) := by
  refine T.ask.F.ok sc_ask (fun vs H Q E h => ?_) (fun cdv A outer s H vs Q E hr h => ?_)
  · obtain ⟨m, a, b, rfl, _⟩ := h
    rfl
  · obtain ⟨m, a, b, rfl, h⟩ := h
    refine ⟨_, (pss_cons (L2N.ps_try_as (i := 4) (ts := tSuite T 4) (Wout := fun _ _ _ _ => False) rfl rfl sc_ask.nd rfl rfl ⟨rfl, by decide, .inl T.cForms.g⟩ takesN0
    (fun W pn xe tk _ => (pss_one (ps_if (pt_cmpR op_eq (pv 0) pe_int (nomark _)) (pss_one (ps_set (i := 3) sc_ask.nd rfl (.inl rfl) (pe_callS (ok_ratio T) (hr.mono (by decide)) rfl T.ratio.g T.ratio.F.kp T.ratio.b (fun σ => L2N.passAt tk σ) (pa_cons (pv 1) (pa_cons (pv 2) pa_nil))))) (pss_one (ps_if (pt_cmpR op_eq (pv 0) pe_int (nomark _)) (pss_one (ps_set (i := 3) sc_ask.nd rfl (.inl rfl) (UfR.pe_makeS T.fracMk (ok_f_init T) (hr.mono (by decide)) rfl T.frac.g T.f_init.b (fun σ => L2N.passAt tk σ) (pa_cons (pv 1) (pa_cons (pv 2) pa_nil))))) (pss_one (ps_if (pt_cmpR op_eq (pv 0) pe_int (nomark _)) (pss_one (ps_set (i := 3) sc_ask.nd rfl (.inl rfl) (pe_callS (ok_divided T) (hr.mono (by decide)) rfl T.divided.g T.divided.F.kp T.divided.b (fun σ => L2N.passAt tk σ) (pa_cons (pv 1) (pa_cons (pv 2) pa_nil))))) (pss_one (ps_if (pt_cmpR op_eq (pv 0) pe_int (nomark _)) (pss_one (ps_set (i := 3) sc_ask.nd rfl (.inl rfl) (pe_callS (ok_read_number T) (hr.mono (by decide)) rfl T.read_number.g T.read_number.F.kp T.read_number.b (fun σ => L2N.passAt tk σ) (pa_cons (pv 1) pa_nil)))) (pss_one (ps_set (i := 3) sc_ask.nd rfl (.inl rfl) (UfR.pe_makeS T.groundMk (ok_g_init T) (hr.mono (by decide)) rfl T.ground.g T.g_init.b (fun σ => L2N.passAt tk σ) (pa_cons (pv 1) pa_nil)))))))))))))
    (fun a oe cls d pn hz hf =>  (pss_one (ps_ret (UfH.pe_callEI (ok_error T) ((L2H.roomH_mark hr _).mono (by decide)) (a, oe) (UfT.hotOf hz hf) List.mem_cons_self (fun vs H Q E h => suiteI hz hf h) rfl T.error.g T.error.F.kp T.error.b (pa_cons (pv 4) pa_nil))))))
      (pss_one (ps_ret (pe_tup (pa_cons pe_str (pa_cons (pv 3) pa_nil)))))), ?_⟩
    rcases h with ⟨rfl, h⟩ | ⟨rfl, h⟩ | ⟨rfl, h⟩ | ⟨rfl, h⟩ | ⟨rfl, h⟩
    · refine ⟨_, rfl, rfl, _, rfl, ite2 (fun _ => ?_) (fun h => (h rfl).elim)⟩
      exact ⟨_, rfl, _, rfl, ratio_mono (fun v H h => ⟨_, rfl, (by show 2 ≤ sizeLine; decide), fun t n => h t n⟩) (fun c d H h => by obtain ⟨er, D, G', rfl, ex, hE, k⟩ := h; exact ⟨true, er_exm T hE, fun _ a _ => ⟨_, rfl, G', D, er, .refl ex, rfl, rfl, hE, fun G2 H2 v l2 r => k _ _ _ l2 r⟩, fun z => nomatch z⟩) h⟩
    · refine ⟨_, rfl, rfl, _, rfl, ite2 (fun h => nomatch h) (fun _ => ?_)⟩
      refine ⟨_, rfl, rfl, _, rfl, ite2 (fun _ => ?_) (fun h => (h rfl).elim)⟩
      exact ⟨_, rfl, _, rfl, fun x dx hx hd ne => f_init_mono (fun v H h => ⟨h.1, _, rfl, (by show 2 ≤ sizeLine; decide), fun t n => h.2 t n⟩) (fun c d H h => by obtain ⟨er, D, G', rfl, ex, hE, k⟩ := h; exact ⟨true, er_exm T hE, fun _ a _ => ⟨_, rfl, G', D, er, .refl ex, rfl, rfl, hE, fun G2 H2 v l2 r => k _ _ _ l2 r⟩, fun z => nomatch z⟩) (h x dx hx hd ne)⟩
    · refine ⟨_, rfl, rfl, _, rfl, ite2 (fun h => nomatch h) (fun _ => ?_)⟩
      refine ⟨_, rfl, rfl, _, rfl, ite2 (fun h => nomatch h) (fun _ => ?_)⟩
      refine ⟨_, rfl, rfl, _, rfl, ite2 (fun _ => ?_) (fun h => (h rfl).elim)⟩
      exact ⟨_, rfl, _, rfl, divided_mono (fun v H h => ⟨_, rfl, (by show 2 ≤ sizeLine; decide), fun t n => h t n⟩) (fun c d H h => by obtain ⟨er, D, G', rfl, ex, hE, k⟩ := h; exact ⟨true, er_exm T hE, fun _ a _ => ⟨_, rfl, G', D, er, .refl ex, rfl, rfl, hE, fun G2 H2 v l2 r => k _ _ _ l2 r⟩, fun z => nomatch z⟩) h⟩
    · refine ⟨_, rfl, rfl, _, rfl, ite2 (fun h => nomatch h) (fun _ => ?_)⟩
      refine ⟨_, rfl, rfl, _, rfl, ite2 (fun h => nomatch h) (fun _ => ?_)⟩
      refine ⟨_, rfl, rfl, _, rfl, ite2 (fun h => nomatch h) (fun _ => ?_)⟩
      refine ⟨_, rfl, rfl, _, rfl, ite2 (fun _ => ?_) (fun h => (h rfl).elim)⟩
      exact ⟨_, rfl, read_mono (fun v H h => ⟨_, rfl, (by show 2 ≤ sizeLine; decide), fun t n => h t n⟩) (fun c d H h => by obtain ⟨er, D, G', rfl, ex, hE, k⟩ := h; exact ⟨true, er_exm T hE, fun _ a _ => ⟨_, rfl, G', D, er, .refl ex, rfl, rfl, hE, fun G2 H2 v l2 r => k _ _ _ l2 r⟩, fun z => nomatch z⟩) h⟩
    · refine ⟨_, rfl, rfl, _, rfl, ite2 (fun h => nomatch h) (fun _ => ?_)⟩
      refine ⟨_, rfl, rfl, _, rfl, ite2 (fun h => nomatch h) (fun _ => ?_)⟩
      refine ⟨_, rfl, rfl, _, rfl, ite2 (fun h => nomatch h) (fun _ => ?_)⟩
      refine ⟨_, rfl, rfl, _, rfl, ite2 (fun h => nomatch h) (fun _ => ?_)⟩
      exact ⟨_, rfl, fun x dx hx hd ne => g_init_mono (fun v H h => ⟨h.1, _, rfl, (by show 2 ≤ sizeLine; decide), fun t n => h.2 t n⟩) (fun c d H h => by obtain ⟨er, D, G', rfl, ex, hE, k⟩ := h; exact ⟨true, er_exm T hE, fun _ a _ => ⟨_, rfl, G', D, er, .refl ex, rfl, rfl, hE, fun G2 H2 v l2 r => k _ _ _ l2 r⟩, fun z => nomatch z⟩) (h x dx hx hd ne)⟩
theorem sc_l_ground : FnScope ["mode", "ground", "first", "second", "told", "e"] ["mode", "ground", "first", "second"] (defScope s_l_ground) := ⟨rfl, rfl, rfl, by decide +kernel, rfl, by decide +kernel, by decide +kernel⟩
def grSp (T : Tx K mg) (m : Int) (g a b : V) (H : Hp) (Q : VK) (E : XK) : Prop := (m = 0 ∧ sp_g_over T [g, a, b] H Q E) ∨ (m = 1 ∧ sp_g_power T [g, a, b] H Q E) ∨ (m = 2 ∧ sp_g_roots T [g, a] H Q E) ∨ (m = 3 ∧ sp_g_least T [g, a] H Q E) ∨ (m = 4 ∧ sp_g_numbers T [g] H Q E)
def sp_l_ground (T : Tx K mg) : Sp := fun vs H Q _ => ∃ m g a b, vs = [.int m, g, a, b] ∧ grSp T m g a b H (told Q) (caught T Q)
theorem ok_l_ground (T : Tx K mg) : FnOk P w K mg base CX0 16 T.l_ground.f T.l_ground.fd ["mode", "ground", "first", "second"] (sp_l_ground T) := by
  refine T.l_ground.F.ok sc_l_ground (fun vs H Q E h => ?_) (fun cdv A outer s H vs Q E hr h => ?_)
  · obtain ⟨m, g, a, b, rfl, _⟩ := h
    rfl
  · obtain ⟨m, g, a, b, rfl, h⟩ := h
    refine ⟨_, (pss_cons (L2N.ps_try_as (i := 5) (ts := tSuite T 5) (Wout := fun _ _ _ _ => False) rfl rfl sc_l_ground.nd rfl rfl ⟨rfl, by decide, .inl T.cForms.g⟩ takesN0
    (fun W pn xe tk _ => (pss_one (ps_if (pt_cmpR op_eq (pv 0) pe_int (nomark _)) (pss_one (ps_set (i := 4) sc_l_ground.nd rfl (.inl rfl) (UfR.pe_methQ (pv 1) T.ground.c T.g_over.m (ok_g_over T) (hr.mono (by decide)) T.g_over.b (fun σ => L2N.passAt tk σ) (pa_cons (pv 2) (pa_cons (pv 3) pa_nil))))) (pss_one (ps_if (pt_cmpR op_eq (pv 0) pe_int (nomark _)) (pss_one (ps_set (i := 4) sc_l_ground.nd rfl (.inl rfl) (UfR.pe_methQ (pv 1) T.ground.c T.g_power.m (ok_g_power T) (hr.mono (by decide)) T.g_power.b (fun σ => L2N.passAt tk σ) (pa_cons (pv 2) (pa_cons (pv 3) pa_nil))))) (pss_one (ps_if (pt_cmpR op_eq (pv 0) pe_int (nomark _)) (pss_one (ps_set (i := 4) sc_l_ground.nd rfl (.inl rfl) (UfR.pe_methQ (pv 1) T.ground.c T.g_roots.m (ok_g_roots T) (hr.mono (by decide)) T.g_roots.b (fun σ => L2N.passAt tk σ) (pa_cons (pv 2) pa_nil)))) (pss_one (ps_if (pt_cmpR op_eq (pv 0) pe_int (nomark _)) (pss_one (ps_set (i := 4) sc_l_ground.nd rfl (.inl rfl) (UfR.pe_methQ (pv 1) T.ground.c T.g_least.m (ok_g_least T) (hr.mono (by decide)) T.g_least.b (fun σ => L2N.passAt tk σ) (pa_cons (pv 2) pa_nil)))) (pss_one (ps_set (i := 4) sc_l_ground.nd rfl (.inl rfl) (UfR.pe_methQ0 (pv 1) T.ground.c T.g_numbers.m (ok_g_numbers T) (hr.mono (by decide)) T.g_numbers.b (fun σ => L2N.passAt tk σ)))))))))))))
    (fun a oe cls d pn hz hf =>  (pss_one (ps_ret (UfH.pe_callEI (ok_error T) ((L2H.roomH_mark hr _).mono (by decide)) (a, oe) (UfT.hotOf hz hf) List.mem_cons_self (fun vs H Q E h => suiteI hz hf h) rfl T.error.g T.error.F.kp T.error.b (pa_cons (pv 5) pa_nil))))))
      (pss_one (ps_ret (pe_tup (pa_cons pe_str (pa_cons (pv 4) pa_nil)))))), ?_⟩
    rcases h with ⟨rfl, h⟩ | ⟨rfl, h⟩ | ⟨rfl, h⟩ | ⟨rfl, h⟩ | ⟨rfl, h⟩
    · refine ⟨_, rfl, rfl, _, rfl, ite2 (fun _ => ?_) (fun h => (h rfl).elim)⟩
      obtain ⟨a', ws, p, e, ⟨dx, Ha⟩, _⟩ := id h
      obtain ⟨rfl, _⟩ := List.cons.inj e
      exact ⟨_, rfl, a', dx, _, rfl, Ha, rfl, _, rfl, _, rfl, over_mono (fun v H h => ⟨_, rfl, (by show 2 ≤ sizeLine; decide), fun t n => h t n⟩) (fun c d H h => by obtain ⟨er, D, G', rfl, ex, hE, k⟩ := h; exact ⟨true, er_exm T hE, fun _ a _ => ⟨_, rfl, G', D, er, .refl ex, rfl, rfl, hE, fun G2 H2 v l2 r => k _ _ _ l2 r⟩, fun z => nomatch z⟩) h⟩
    · refine ⟨_, rfl, rfl, _, rfl, ite2 (fun h => nomatch h) (fun _ => ?_)⟩
      refine ⟨_, rfl, rfl, _, rfl, ite2 (fun _ => ?_) (fun h => (h rfl).elim)⟩
      obtain ⟨a', ws, p, e, ⟨dx, Ha⟩, _⟩ := id h
      obtain ⟨rfl, _⟩ := List.cons.inj e
      exact ⟨_, rfl, a', dx, _, rfl, Ha, rfl, _, rfl, _, rfl, power_mono (fun v H h => ⟨_, rfl, (by show 2 ≤ sizeLine; decide), fun t n => h t n⟩) (fun c d H h => by obtain ⟨er, D, G', rfl, ex, hE, k⟩ := h; exact ⟨true, er_exm T hE, fun _ a _ => ⟨_, rfl, G', D, er, .refl ex, rfl, rfl, hE, fun G2 H2 v l2 r => k _ _ _ l2 r⟩, fun z => nomatch z⟩) h⟩
    · refine ⟨_, rfl, rfl, _, rfl, ite2 (fun h => nomatch h) (fun _ => ?_)⟩
      refine ⟨_, rfl, rfl, _, rfl, ite2 (fun h => nomatch h) (fun _ => ?_)⟩
      refine ⟨_, rfl, rfl, _, rfl, ite2 (fun _ => ?_) (fun h => (h rfl).elim)⟩
      obtain ⟨a', ws, p, e, ⟨dx, Ha⟩, _⟩ := id h
      obtain ⟨rfl, _⟩ := List.cons.inj e
      exact ⟨_, rfl, a', dx, _, rfl, Ha, rfl, _, rfl, roots_mono (fun v H h => ⟨_, rfl, (by show 2 ≤ sizeLine; decide), fun t n => h t n⟩) (fun c d H h => by obtain ⟨er, D, G', rfl, ex, hE, k⟩ := h; exact ⟨true, er_exm T hE, fun _ a _ => ⟨_, rfl, G', D, er, .refl ex, rfl, rfl, hE, fun G2 H2 v l2 r => k _ _ _ l2 r⟩, fun z => nomatch z⟩) h⟩
    · refine ⟨_, rfl, rfl, _, rfl, ite2 (fun h => nomatch h) (fun _ => ?_)⟩
      refine ⟨_, rfl, rfl, _, rfl, ite2 (fun h => nomatch h) (fun _ => ?_)⟩
      refine ⟨_, rfl, rfl, _, rfl, ite2 (fun h => nomatch h) (fun _ => ?_)⟩
      refine ⟨_, rfl, rfl, _, rfl, ite2 (fun _ => ?_) (fun h => (h rfl).elim)⟩
      obtain ⟨a', ws, p, e, ⟨dx, Ha⟩, _⟩ := id h
      obtain ⟨rfl, _⟩ := List.cons.inj e
      exact ⟨_, rfl, a', dx, _, rfl, Ha, rfl, _, rfl, least_mono (fun v H h => ⟨_, rfl, (by show 2 ≤ sizeLine; decide), fun t n => h t n⟩) (fun c d H h => by obtain ⟨er, D, G', rfl, ex, hE, k⟩ := h; exact ⟨true, er_exm T hE, fun _ a _ => ⟨_, rfl, G', D, er, .refl ex, rfl, rfl, hE, fun G2 H2 v l2 r => k _ _ _ l2 r⟩, fun z => nomatch z⟩) h⟩
    · refine ⟨_, rfl, rfl, _, rfl, ite2 (fun h => nomatch h) (fun _ => ?_)⟩
      refine ⟨_, rfl, rfl, _, rfl, ite2 (fun h => nomatch h) (fun _ => ?_)⟩
      refine ⟨_, rfl, rfl, _, rfl, ite2 (fun h => nomatch h) (fun _ => ?_)⟩
      refine ⟨_, rfl, rfl, _, rfl, ite2 (fun h => nomatch h) (fun _ => ?_)⟩
      obtain ⟨a', ws, p, e, ⟨dx, Ha⟩, _⟩ := id h
      obtain ⟨rfl, _⟩ := List.cons.inj e
      exact ⟨_, rfl, a', dx, _, rfl, Ha, rfl, numbers_mono (fun v H h => ⟨_, rfl, (by show 2 ≤ sizeLine; decide), fun t n => h t n⟩) (fun c d H h => by obtain ⟨er, D, G', rfl, ex, hE, k⟩ := h; exact ⟨true, er_exm T hE, fun _ a _ => ⟨_, rfl, G', D, er, .refl ex, rfl, rfl, hE, fun G2 H2 v l2 r => k _ _ _ l2 r⟩, fun z => nomatch z⟩) h⟩
end
end K01

namespace K01
open PySem PySem.Spec PyProof.Rows L2 UfG UfT UfR UfO UfI UfQ UfN SX UfX UfD
open Evl (Ex)
section
variable {P : Program} {w : World} {K : PySem.W.Frag} {mg : Str → Option Value} {base : Heap}
/-! ### the questions, asked -/
/-- ('told', x) -/
def Told (G : Hp) (v x : V) : Prop := ∃ t, v = .ref t ∧ G t = some (.tup [.str "told", x])
theorem Told.ex {G G' : Hp} {v x : V} (e : Ex G G') (h : Told G v x) : Told G' v x := by
  obtain ⟨t, e1, h⟩ := h
  exact ⟨t, e1, e _ _ h⟩
section
variable {T : Tx K mg} {H0 G0 G H : Hp} {p : Option (Addr × Addr × Nat)} {ls : List (Addr × HO)} {Q : VK} {E : XK} {x y a b g : V} {q1 q2 : Rat} {n d i j m : Int}
theorem call_ask0 (lw : Lw H0 G0 p ls G H) (db : d.natAbs < 2 ^ 8000) (k : d ≠ 0 → ∀ G' H' v x, Ex G G' → Lw H0 G0 p ls G' H' → Told G' v x → Nm T.frac.C G' x (fr n d) → Q v H')
    (kx : d = 0 → ∀ G' H' v, Ex G G' → Lw H0 G0 p ls G' H' → Rp G' v (errD .div) → Q v H') : sp_ask T [.int 0, .int n, .int d] H Q E0 :=
  ⟨_, _, _, rfl, .inl ⟨rfl, n, d, call_raiseN lw ⟨rfl, db⟩ (fun G1 H1 v e1 lw hv => told_of lw fun G2 H2 t e2 lw h => k hv.1 _ _ _ v (e1.trans e2) lw ⟨t, rfl, h⟩ (hv.2.ex e2))
    fun G1 H1 C q e1 lw hv => caught_of lw hv.2 fun G2 H2 v e2 lw r => kx hv.1 _ _ _ (e1.trans e2) lw r⟩⟩
theorem call_ask1 (lw : Lw H0 G0 p ls G H) (db : d.natAbs < 2 ^ 8000) (k : d ≠ 0 → n.fmod d ≠ 0 → ∀ G' H' v x, Ex G G' → Lw H0 G0 p ls G' H' → Told G' v x → Nm T.frac.C G' x (fr n d) → Q v H')
    (kx : ∀ G' H' v er, (d = 0 ∧ er = .div ∨ d ≠ 0 ∧ n.fmod d = 0 ∧ er = .whole (fr n d).num) → Ex G G' → Lw H0 G0 p ls G' H' → Rp G' v (errD er) → Q v H') : sp_ask T [.int 1, .int n, .int d] H Q E0 :=
  ⟨_, _, _, rfl, .inr (.inl ⟨rfl, fun x dx hx hd ne => ⟨n, d, call_make lw ⟨rfl, db⟩ (fun G1 H1 x e1 lw hv => told_of lw fun G2 H2 t e2 lw h => k hv.1 hv.2.1 _ _ _ (.ref x) (e1.trans e2) lw ⟨t, rfl, h⟩ (.inr ⟨fun z => hv.2.1 ((fr_whole hv.1).mp z), x, rfl, hv.2.2.ex e2⟩))
    (fun G1 H1 C q e1 lw hv => by
      rcases hv with hv | hv
      · exact caught_of lw hv.2 fun G2 H2 v e2 lw r => kx _ _ _ _ (.inl ⟨hv.1, rfl⟩) (e1.trans e2) lw r
      · exact caught_of lw hv.2.2 fun G2 H2 v e2 lw r => kx _ _ _ _ (.inr ⟨hv.1, hv.2.1, rfl⟩) (e1.trans e2) lw r) x dx hx hd ne⟩⟩)⟩
theorem call_ask2 (lw : Lw H0 G0 p ls G H) (hx : Nm T.frac.C G x q1) (hy : Nm T.frac.C G y q2) (s1 : Sm 4000 q1) (s2 : Sm 4000 q2) (k : q2 ≠ 0 → ∀ G' H' v x, Ex G G' → Lw H0 G0 p ls G' H' → Told G' v x → Nm T.frac.C G' x (q1 / q2) → Q v H')
    (kx : q2 = 0 → ∀ G' H' v, Ex G G' → Lw H0 G0 p ls G' H' → Rp G' v (errD .div) → Q v H') : sp_ask T [.int 2, x, y] H Q E0 :=
  ⟨_, _, _, rfl, .inr (.inr (.inl ⟨rfl, q1, q2, call_raiseN lw ⟨x, y, rfl, hx, hy, s1, s2⟩ (fun G1 H1 v e1 lw hv => told_of lw fun G2 H2 t e2 lw h => k hv.1 _ _ _ v (e1.trans e2) lw ⟨t, rfl, h⟩ (hv.2.ex e2))
    fun G1 H1 C q e1 lw hv => caught_of lw hv.2 fun G2 H2 v e2 lw r => kx hv.1 _ _ _ (e1.trans e2) lw r⟩))⟩
theorem call_ask3 {l : List Nat} (lw : Lw H0 G0 p ls G H) (hz : l.length < 100000) (k : ∀ q, IsT l q → ∀ G' H' v x, Ex G G' → Lw H0 G0 p ls G' H' → Told G' v x → Nm T.frac.C G' x q → Q v H')
    (kx : (¬ ∃ q, IsT l q) → ∀ G' H' v, Ex G G' → Lw H0 G0 p ls G' H' → Rp G' v (errD (.text (S l))) → Q v H') : sp_ask T [.int 3, .str (S l), y] H Q E0 :=
  ⟨_, _, _, rfl, .inr (.inr (.inr (.inl ⟨rfl, l, call_raiseN lw ⟨rfl, hz⟩ (fun G1 H1 v e1 lw ⟨q, hq, hv⟩ => told_of lw fun G2 H2 t e2 lw h => k q hq _ _ _ v (e1.trans e2) lw ⟨t, rfl, h⟩ (hv.ex e2))
    fun G1 H1 C q e1 lw hv => caught_of lw hv.2 fun G2 H2 v e2 lw r => kx hv.1 _ _ _ (e1.trans e2) lw r⟩)))⟩
theorem call_ask4 (lw : Lw H0 G0 p ls G H) (k : fitP i = true → ∀ G' H' v x, Ex G G' → Lw H0 G0 p ls G' H' → Told G' v (.ref x) → GrAt T.ground.C G' x i → Q v H')
    (kx : fitP i = false → ∀ G' H' v, Ex G G' → Lw H0 G0 p ls G' H' → Rp G' v (errD (.prime i)) → Q v H') : sp_ask T [.int 4, .int i, y] H Q E0 :=
  ⟨_, _, _, rfl, .inr (.inr (.inr (.inr ⟨rfl, fun x dx hx hd ne => ⟨i, call_make lw rfl (fun G1 H1 x e1 lw hv => told_of lw fun G2 H2 t e2 lw h => k hv.1 _ _ _ x (e1.trans e2) lw ⟨t, rfl, h⟩ (hv.2.ex e2))
    (fun G1 H1 C q e1 lw hv => caught_of lw hv.2 fun G2 H2 v e2 lw r => kx hv.1 _ _ _ (e1.trans e2) lw r) x dx hx hd ne⟩⟩)))⟩
variable {c : Addr}
theorem call_over0 (lw : Lw H0 G0 p ls G H) (hg : GrAt T.ground.C G c 0) (hx : Nm T.frac.C G x q1) (hy : Nm T.frac.C G y q2) (s1 : Sm 4000 q1) (s2 : Sm 4000 q2) (k : q2 ≠ 0 → ∀ G' H' v x, Ex G G' → Lw H0 G0 p ls G' H' → Told G' v x → Nm T.frac.C G' x (q1 / q2) → Q v H')
    (kx : q2 = 0 → ∀ G' H' v, Ex G G' → Lw H0 G0 p ls G' H' → Rp G' v (errD .div) → Q v H') : sp_l_ground T [.int 0, .ref c, x, y] H Q E0 :=
  ⟨_, _, _, _, rfl, .inl ⟨rfl, c, [x, y], 0, rfl, hg.ex lw.gh, x, y, rfl, .inl ⟨q1, q2, call_raiseN lw ⟨x, y, rfl, hx, hy, s1, s2⟩ (fun G1 H1 v e1 lw hv => told_of lw fun G2 H2 t e2 lw h => k hv.1 _ _ _ v (e1.trans e2) lw ⟨t, rfl, h⟩ (hv.2.ex e2))
    fun G1 H1 C q e1 lw hv => caught_of lw hv.2 fun G2 H2 v e2 lw r => kx hv.1 _ _ _ (e1.trans e2) lw r⟩⟩⟩
theorem call_overP (lw : Lw H0 G0 p ls G H) (hg : GrAt T.ground.C G c m) (m2 : 2 ≤ m) (mb : m.natAbs < 2 ^ 4000) (ib : i.natAbs < 2 ^ 4000) (k : j.fmod m ≠ 0 → ∀ G' H' v, Ex G G' → Lw H0 G0 p ls G' H' → Told G' v (.int ((i * (j ^ (m - 2).toNat).fmod m).fmod m)) → Q v H')
    (kx : j.fmod m = 0 → ∀ G' H' v, Ex G G' → Lw H0 G0 p ls G' H' → Rp G' v (errD .div) → Q v H') : sp_l_ground T [.int 0, .ref c, .int i, .int j] H Q E0 :=
  ⟨_, _, _, _, rfl, .inl ⟨rfl, c, [.int i, .int j], m, rfl, hg.ex lw.gh, _, _, rfl, .inr ⟨m, i, j, call_raiseN lw ⟨rfl, m2, mb, ib⟩ (fun G1 H1 v e1 lw hv => told_of lw fun G2 H2 t e2 lw h => k hv.1 _ _ _ (e1.trans e2) lw ⟨t, rfl, by rw [← hv.2]; exact h⟩)
    fun G1 H1 C q e1 lw hv => caught_of lw hv.2 fun G2 H2 v e2 lw r => kx hv.1 _ _ _ (e1.trans e2) lw r⟩⟩⟩
theorem call_pow0 (lw : Lw H0 G0 p ls G H) (hg : GrAt T.ground.C G c 0) (hx : Nm T.frac.C G x q1) (sm : ∀ e ≤ n.toNat, Sm 4000 (q1 ^ e)) (k : 0 ≤ n ∧ n ≤ 100 → ∀ G' H' v x, Ex G G' → Lw H0 G0 p ls G' H' → Told G' v x → Nm T.frac.C G' x (q1 ^ n.toNat) → Q v H')
    (kx : ¬ (0 ≤ n ∧ n ≤ 100) → ∀ G' H' v, Ex G G' → Lw H0 G0 p ls G' H' → Rp G' v (errD (.count n)) → Q v H') : sp_l_ground T [.int 1, .ref c, x, .int n] H Q E0 := by
  refine ⟨_, _, _, _, rfl, .inr (.inl ⟨rfl, c, [x, .int n], 0, rfl, hg.ex lw.gh, x, n, rfl, ?_⟩)⟩
  by_cases z : 0 ≤ n ∧ n ≤ 100
  · rw [if_pos z]
    obtain ⟨e, rfl⟩ := Int.eq_ofNat_of_zero_le z.1
    exact call_power0 lw hx sm fun G1 H1 v e1 lw hv => told_of lw fun G2 H2 t e2 lw h => k z _ _ _ v (e1.trans e2) lw ⟨t, rfl, h⟩ (hv.ex e2)
  · rw [if_neg z]
    exact ⟨G, .refl lw.gh, fun G1 H1 C q l hE => caught_of (lw.after l) hE fun G2 H2 v e2 lw r => kx z _ _ _ (l.g0.trans e2) lw r⟩
theorem call_powP (lw : Lw H0 G0 p ls G H) (hg : GrAt T.ground.C G c m) (m0 : 0 < m) (mb : m.natAbs < 2 ^ 4000) (k : 0 ≤ n ∧ n ≤ 100 → ∀ G' H' v, Ex G G' → Lw H0 G0 p ls G' H' → Told G' v (.int ((i ^ n.toNat).fmod m)) → Q v H')
    (kx : ¬ (0 ≤ n ∧ n ≤ 100) → ∀ G' H' v, Ex G G' → Lw H0 G0 p ls G' H' → Rp G' v (errD (.count n)) → Q v H') : sp_l_ground T [.int 1, .ref c, .int i, .int n] H Q E0 := by
  refine ⟨_, _, _, _, rfl, .inr (.inl ⟨rfl, c, [.int i, .int n], m, rfl, hg.ex lw.gh, .int i, n, rfl, ?_⟩)⟩
  by_cases z : 0 ≤ n ∧ n ≤ 100
  · rw [if_pos z]
    obtain ⟨e, rfl⟩ := Int.eq_ofNat_of_zero_le z.1
    exact call_powerP lw m0 mb fun G1 H1 e1 lw => told_of lw fun G2 H2 t e2 lw h => k z _ _ _ (e1.trans e2) lw ⟨t, rfl, h⟩
  · rw [if_neg z]
    exact ⟨G, .refl lw.gh, fun G1 H1 C q l hE => caught_of (lw.after l) hE fun G2 H2 v e2 lw r => kx z _ _ _ (l.g0.trans e2) lw r⟩
theorem call_roots (lw : Lw H0 G0 p ls G H) (hg : GrAt T.ground.C G c m) (m0 : 0 ≤ m ∧ m < 1000) (k : 1 ≤ n ∧ n ≤ 100 → ∀ G' H' v t, Ex G G' → Lw H0 G0 p ls G' H' → Told G' v (.ref t) → G t = none → G' t = some (.lst ((rootsI m n.toNat).map V.int)) → Q v H')
    (kx : ¬ (1 ≤ n ∧ n ≤ 100) → ∀ G' H' v, Ex G G' → Lw H0 G0 p ls G' H' → Rp G' v (errD (.count n)) → Q v H') : sp_l_ground T [.int 2, .ref c, .int n, y] H Q E0 := by
  refine ⟨_, _, _, _, rfl, .inr (.inr (.inl ⟨rfl, c, [.int n], m, rfl, hg.ex lw.gh, n, rfl, call_raiseN lw m0 (fun G1 H1 v e1 lw hv => ?_) fun G1 H1 C q e1 lw hv => caught_of lw hv.2 fun G2 H2 v e2 lw r => kx hv.1 _ _ _ (e1.trans e2) lw r⟩))⟩
  obtain ⟨n1, n2, t, rfl, fr, ht⟩ := hv
  exact told_of lw fun G2 H2 u e2 lw h => k ⟨n1, n2⟩ _ _ _ t (e1.trans e2) lw ⟨u, rfl, h⟩ fr (e2 _ _ ht)
theorem call_least (lw : Lw H0 G0 p ls G H) (hg : GrAt T.ground.C G c m) (m0 : 0 ≤ m ∧ m < 1000) (k : 1 ≤ n ∧ n ≤ 100 → ∀ G' H' v, Ex G G' → Lw H0 G0 p ls G' H' → Told G' v (match leastI m n.toNat with | some r => .int r | none => .non) → Q v H')
    (kx : ¬ (1 ≤ n ∧ n ≤ 100) → ∀ G' H' v, Ex G G' → Lw H0 G0 p ls G' H' → Rp G' v (errD (.count n)) → Q v H') : sp_l_ground T [.int 3, .ref c, .int n, y] H Q E0 := by
  refine ⟨_, _, _, _, rfl, .inr (.inr (.inr (.inl ⟨rfl, c, [.int n], m, rfl, hg.ex lw.gh, n, rfl, call_raiseN lw m0 (fun G1 H1 v e1 lw hv => ?_) fun G1 H1 C q e1 lw hv => caught_of lw hv.2 fun G2 H2 v e2 lw r => kx hv.1 _ _ _ (e1.trans e2) lw r⟩)))⟩
  obtain ⟨n1, n2, rfl⟩ := hv
  exact told_of lw fun G2 H2 u e2 lw h => k ⟨n1, n2⟩ _ _ _ (e1.trans e2) lw ⟨u, rfl, h⟩
end
/-! ### data of errors -/
theorem errD_shaped : ∀ er : Er, (∀ x, er = .text x → PyData.strOk x = true) → SeqAt.shaped (errD er) = true
  | .div, _ => by
    refine shaped_tup ?_ ?_
    · simp only [PyData.canLayAll0, PyData.canLay0]
      decide +kernel
    · simp only [PyData.depthAll, PyData.depth]
      decide
  | .whole n, _ => shaped_si _ _ (by decide +kernel)
  | .prime n, _ => shaped_si _ _ (by decide +kernel)
  | .count n, _ => shaped_si _ _ (by decide +kernel)
  | .wrong n, _ => shaped_si _ _ (by decide +kernel)
  | .text x, h => by
    refine shaped_tup ?_ ?_
    · simp only [PyData.canLayAll0, PyData.canLay0, h x rfl]
      decide +kernel
    · simp only [PyData.depthAll, PyData.depth]
      decide
theorem errD_self : ∀ er : Er, PyData.eqv (errD er) (errD er) = true
  | .div => by
    simp only [errD, PyData.eqv, PyData.eqvAll, Bool.and_true]
    simp
  | .whole n => eqv_si_self _ _
  | .prime n => eqv_si_self _ _
  | .count n => eqv_si_self _ _
  | .wrong n => eqv_si_self _ _
  | .text x => by
    simp only [errD, PyData.eqv, PyData.eqvAll, Bool.and_true]
    simp
theorem r_eqE {H0 G0 G H : Hp} {p : Option (Addr × Addr × Nat)} {ls : List (Addr × HO)} {Q : VK} {x y : V} {er : Er} (lw : Lw H0 G0 p ls G H) (r : Rp G x (errD er)) (s : Rp G y (errD er)) (hs : ∀ x, er = .text x → PyData.strOk x = true) (k : Q (.bl true) H) : rEqD K x y H Q :=
  r_eqD lw r s (errD_shaped er hs) (errD_shaped er hs) (by rw [errD_self]; exact k)
theorem r_neE {H0 G0 G H : Hp} {p : Option (Addr × Addr × Nat)} {ls : List (Addr × HO)} {Q : VK} {x y : V} {er : Er} (lw : Lw H0 G0 p ls G H) (r : Rp G x (errD er)) (s : Rp G y (errD er)) (hs : ∀ x, er = .text x → PyData.strOk x = true) (k : Q (.bl false) H) : rNeD K x y H Q :=
  ⟨_, _, Rp.up lw r, Rp.up lw s, errD_shaped er hs, errD_shaped er hs, by rw [errD_self]; exact k⟩
theorem rp_div {G : Hp} {t : Addr} (h : G t = some (.tup [.str "DivisionByZero"])) : Rp G (.ref t) (errD .div) := .tup h (.cons (.str _) .nil)
theorem no_text {er : Er} (h : ∀ x, er ≠ .text x) : ∀ x, er = .text x → PyData.strOk x = true := fun x e => absurd e (h x)
/-! ### _law_makes -/
theorem sc_makes : FnScope ["num", "den", "pair", "told"] ["num", "den"] (defScope s_makes) := ⟨rfl, rfl, rfl, by decide +kernel, rfl, by decide +kernel, by decide +kernel⟩
def sp_makes : Sp := fun vs H Q E => ∃ n d : Int, PureSp (fun vs _ => vs = [.int n, .int d] ∧ d ≠ 0 ∧ n.natAbs < 2 ^ 2000 ∧ d.natAbs < 2 ^ 2000) (fun _ _ _ v => v = .bl true) vs H Q E
theorem ok_makes (T : Tx K mg) : FnOk P w K mg base CX0 10 T.makes.f T.makes.fd ["num", "den"] sp_makes := by
  refine T.makes.F.ok sc_makes (fun vs H Q E h => ?_) (fun cdv A outer s H vs Q E hr h => ?_)
  · obtain ⟨n, d, G, _, ⟨rfl, _⟩, _⟩ := h
    rfl
  · obtain ⟨n, d, G, lw, ⟨rfl, d0, nb, db⟩, k⟩ := h
    refine ⟨_, (pss_cons (ps_set (i := 2) sc_makes.nd rfl (.inl rfl) (pe_call (ok_low T) (hr.mono (by decide)) (by rfl) T.low.g T.low.F.kp T.low.b .nil pass0 (pa_cons pe_int (pa_cons (pv 0) (pa_cons (pv 1) pa_nil)))))
      (pss_cons (ps_set (i := 3) sc_makes.nd rfl (.inl rfl) (pe_call (ok_ask T) (hr.mono (by decide)) (by rfl) T.ask.g T.ask.F.kp T.ask.b .nil pass0 (pa_cons pe_int (pa_cons (pv 0) (pa_cons (pv 1) pa_nil)))))
      (pss_cons (ps_if (PW.pt (pw_or (pt_cmpR op_ne (pe_ix (UfK.ix_tupK (K := K)) (pv 3) pe_int (fun _ _ => rfl)) pe_str (nomark _)) (pw_or1 (pt_not (pt_val (pe_call (ok_is T) (hr.mono (by decide)) (by rfl) T.is.g T.is.F.kp T.is.b .nil pass0 (pa_cons (pe_ix (UfK.ix_tupK (K := K)) (pv 3) pe_int (fun _ _ => rfl)) (pa_cons (pv 2) pa_nil)))))))) (pss_one (ps_ret pe_bl)) pss_nil)
      (pss_cons (ps_set (i := 3) sc_makes.nd rfl (.inl rfl) (pe_call (ok_ask T) (hr.mono (by decide)) (by rfl) T.ask.g T.ask.F.kp T.ask.b .nil pass0 (pa_cons pe_int (pa_cons (pv 0) (pa_cons (pv 1) pa_nil)))))
      (pss_cons (ps_if (pt_cmpR op_eq (pe_ix (UfK.ix_tupK (K := K)) (pv 2) pe_int (fun _ _ => rfl)) pe_int (nomark _)) (pss_one (ps_if (pt_cmpR (UfK.op_neDK (K := K) hr.units) (pv 3) (pe_tup (pa_cons pe_str (pa_cons (pe_ix (UfK.ix_tupK (K := K)) (pv 2) pe_int (fun _ _ => rfl)) pa_nil))) (nomark _)) (pss_one (ps_ret pe_bl)) pss_nil)) (pss_one (ps_if (PW.pt (pw_or (pt_cmpR op_ne (pe_ix (UfK.ix_tupK (K := K)) (pv 3) pe_int (fun _ _ => rfl)) pe_str (nomark _)) (pw_or1 (pt_not (pt_val (pe_call (ok_is T) (hr.mono (by decide)) (by rfl) T.is.g T.is.F.kp T.is.b .nil pass0 (pa_cons (pe_ix (UfK.ix_tupK (K := K)) (pv 3) pe_int (fun _ _ => rfl)) (pa_cons (pv 2) pa_nil)))))))) (pss_one (ps_ret pe_bl)) pss_nil)))
      (pss_one (ps_ret (pe_and (pe_cmpR (UfK.op_eqDK (K := K) hr.units) (pe_call (ok_ask T) (hr.mono (by decide)) (by rfl) T.ask.g T.ask.F.kp T.ask.b .nil pass0 (pa_cons pe_int (pa_cons (pv 0) (pa_cons pe_int pa_nil)))) (pe_tup (pa_cons pe_str pa_nil)) (nomark _)) (pe_one (pe_cmpR (UfK.op_eqDK (K := K) hr.units) (pe_call (ok_ask T) (hr.mono (by decide)) (by rfl) T.ask.g T.ask.F.kp T.ask.b .nil pass0 (pa_cons pe_int (pa_cons (pv 0) (pa_cons pe_int pa_nil)))) (pe_tup (pa_cons pe_str pa_nil)) (nomark _))))))))))), ?_⟩
    have db8 : d.natAbs < 2 ^ 8000 := Nat.lt_trans db (by decide +kernel)
    have z8 : (0 : Int).natAbs < 2 ^ 8000 := by decide +kernel
    refine ⟨_, rfl, _, rfl, 0, n, d, call_pure lw ⟨rfl, .inl ⟨rfl, d0⟩, nb, db⟩ fun G1 H1 v1 e1 lw hpair => ?_⟩
    have hpair : TI G1 v1 (fr n d).num (fr n d).den := hpair
    refine ⟨_, rfl, _, rfl, call_ask0 lw db8 (fun _ G2 H2 v2 x2 e2 lw h2 nx => ?_) (fun z => absurd z d0)⟩
    obtain ⟨t2, rfl, h2⟩ := h2
    refine ⟨_, rfl, t2, _, 0, _, rfl, rfl, SqT.g lw h2, rfl, rfl, _, rfl, iteF ⟨_, rfl, t2, _, 1, _, rfl, rfl, SqT.g lw h2, rfl, _, rfl, fr n d, call_pure lw ⟨x2, v1, rfl, nx, hpair.ex e2⟩ fun G3 H3 v3 e3 lw hv3 => ⟨true, hv3, iteF ?_⟩⟩⟩
    refine seq_rest (fun σ' H' => σ' = [some (.int n), some (.int d), some v1, some (.ref t2)] ∧ Lw H G none [] G3 H') (fun σ' H' hp => ?_) (fun kk => kk _ _ ⟨rfl, lw⟩)
    obtain ⟨rfl, lw⟩ := hp
    refine seq_rest (fun σ' H' => ∃ v4 G4, σ' = [some (.int n), some (.int d), some v1, some v4] ∧ Lw H G none [] G4 H' ∧ Ex G3 G4 ∧ ((n.fmod d ≠ 0 ∧ ∃ x4, Told G4 v4 x4 ∧ Nm T.frac.C G4 x4 (fr n d)) ∨ (n.fmod d = 0 ∧ Rp G4 v4 (errD (.whole (fr n d).num))))) (fun σ' H' hp => ?_) (fun kk => ?_)
    · obtain ⟨v4, G4, rfl, lw, e4, h4⟩ := hp
      refine seq_rest (fun σ' H' => ∃ v4 G4, σ' = [some (.int n), some (.int d), some v1, some v4] ∧ Lw H G none [] G4 H') (fun σ' H' hp => ?_) (fun kk => ?_)
      · obtain ⟨v4, G4, rfl, lw⟩ := hp
        refine ⟨_, rfl, call_ask0 lw z8 (fun z => absurd rfl z) (fun _ G5 H5 v5 e5 lw r5 => ⟨(by show 1 ≤ sizeLine; decide), fun t nt => ?_⟩)⟩
        obtain ⟨G6, e6, lw, h6⟩ := lw.allocE (o := .tup [.str "DivisionByZero"]) nt
        refine r_eqE lw (r5.ex e6) (rp_div h6) (no_text fun _ => nofun) ⟨true, rfl, iteT ⟨_, rfl, call_ask1 lw z8 (fun z => absurd rfl z) (fun G7 H7 v7 er her e7 lw r7 => ⟨(by show 1 ≤ sizeLine; decide), fun t nt => ?_⟩)⟩⟩
        rcases her with ⟨_, rfl⟩ | ⟨z, _⟩
        · obtain ⟨G8, e8, lw, h8⟩ := lw.allocE (o := .tup [.str "DivisionByZero"]) nt
          exact r_eqE lw (r7.ex e8) (rp_div h8) (no_text fun _ => nofun) (k _ _ _ lw rfl)
        · exact absurd rfl z
      · obtain ⟨t1, rfl, hp1⟩ := hpair.ex ((e2.trans e3).trans e4)
        refine ⟨_, rfl, t1, _, 1, _, rfl, rfl, SqT.g lw hp1, rfl, rfl, _, rfl, ite2 (fun h => ?_) (fun h => ?_)⟩
        · have h : (fr n d).den = 1 := by
            have : (((fr n d).den : Nat) : Int) = 1 := by simpa using h
            omega
          rcases h4 with ⟨nz, _⟩ | ⟨_, r4⟩
          · exact absurd ((fr_whole d0).mp h) nz
          · refine ⟨_, rfl, _, rfl, t1, _, 0, _, rfl, rfl, SqT.g lw hp1, rfl, (by show 2 ≤ sizeLine; decide), fun t nt => ?_⟩
            obtain ⟨G5, e5, lw, h5⟩ := lw.allocE (o := .tup [.str "Whole", .int (fr n d).num]) nt
            exact r_neE lw (r4.ex e5) (.tup h5 (.cons (.str _) (.cons (.int _) .nil))) (no_text fun _ => nofun) ⟨_, rfl, iteF (kk _ _ ⟨v4, _, rfl, lw⟩)⟩
        · have h : (fr n d).den ≠ 1 := fun z => h (by rw [z]; rfl)
          rcases h4 with ⟨nz, x4, ⟨t4, rfl, h4⟩, n4⟩ | ⟨z, _⟩
          · exact ⟨_, rfl, t4, _, 0, _, rfl, rfl, SqT.g lw h4, rfl, rfl, _, rfl, iteF ⟨_, rfl, t4, _, 1, _, rfl, rfl, SqT.g lw h4, rfl, _, rfl, fr n d, call_pure lw ⟨x4, _, rfl, n4, ⟨t1, rfl, hp1⟩⟩ fun G5 H5 v5 e5 lw hv5 => ⟨true, hv5, iteF (kk _ _ ⟨_, _, rfl, lw⟩)⟩⟩⟩
          · exact absurd ((fr_whole d0).mpr z) h
    · refine ⟨_, rfl, _, rfl, call_ask1 lw db8 (fun _ nz G4 H4 v4 x4 e4 lw h4 nx4 => kk _ _ ⟨v4, G4, rfl, lw, e4, .inl ⟨nz, x4, h4, nx4⟩⟩) (fun G4 H4 v4 er her e4 lw r4 => ?_)⟩
      rcases her with ⟨z, _⟩ | ⟨_, z, rfl⟩
      · exact absurd z d0
      · exact kk _ _ ⟨v4, G4, rfl, lw, e4, .inr ⟨z, r4⟩⟩
end
end K01

set_option maxHeartbeats 400000
namespace K01
open PySem PySem.Spec PyProof.Rows L2 UfG UfT UfR UfO UfI UfQ UfN SX UfX UfD
open Evl (Ex)
section
variable {P : Program} {w : World} {K : PySem.W.Frag} {mg : Str → Option Value} {base : Heap}
/-! ### _law_sums -/
theorem sm_mono {b c : Nat} {q : Rat} (h : Sm b q) (hc : b ≤ c) : Sm c q := ⟨Nat.lt_of_lt_of_le h.1 (Nat.pow_le_pow_right (by decide) hc), Nat.lt_of_lt_of_le h.2 (Nat.pow_le_pow_right (by decide) hc)⟩
theorem r_eqS {T : Tx K mg} {H0 G0 G H : Hp} {p : Option (Addr × Addr × Nat)} {ls : List (Addr × HO)} {Q : VK} {x : V} {q1 : Rat} {neg : Bool} {z : Str} (lw : Lw H0 G0 p ls G H) (hx : Nm T.frac.C G x q1) (k : ∀ G' H', Ex G G' → Lw H0 G0 p ls G' H' → Q (.bl (if neg then !false else false)) H') :
    rOwnEq T.frac.C (sp_f_eq T) E0 neg x (.str z) H Q := by
  rcases hx with ⟨h1, rfl⟩ | ⟨h1, a, rfl, ha⟩
  · refine .inr (.inr ⟨rfl, ?_⟩)
    rw [decide_eq_false (fun y => nomatch y)]
    exact k _ _ (Evl.Ex.refl _) lw
  · obtain ⟨dx, ha'⟩ := id ha
    exact .inl ⟨a, dx, _, rfl, lw.gh _ _ ha', .inr (.inl ⟨_, rfl⟩), q1, .str z, call_pure lw ⟨a, _, rfl, ha, rfl, h1⟩ fun G' H' v e l hv => ⟨_, hv, k _ _ e l⟩⟩
theorem add_sm {q1 q2 : Rat} (s1 : Sm 400 q1) (s2 : Sm 400 q2) : Sm 900 (q1 + q2) := by
  rw [q_add]
  have x : (q1.num * q2.den).natAbs < 2 ^ 800 := wide_lt (a := 400) (b := 400) s1.1 (sm_den s2)
  have y : (q2.num * q1.den).natAbs < 2 ^ 800 := wide_lt (a := 400) (b := 400) s2.1 (sm_den s1)
  have d : ((q1.den : Int) * q2.den).natAbs < 2 ^ 800 := wide_lt (a := 400) (b := 400) (sm_den s1) (sm_den s2)
  have z : (2 : Nat) ^ 800 + 2 ^ 800 < 2 ^ 900 := by decide +kernel
  have z2 : (2 : Nat) ^ 800 < 2 ^ 900 := by decide +kernel
  have f := fr_le (n := q1.num * q2.den + q2.num * q1.den) (Int.mul_ne_zero (den_ne q1) (den_ne q2))
  have := Int.natAbs_add_le (q1.num * q2.den) (q2.num * q1.den)
  exact ⟨by omega, by omega⟩
theorem neg_sm {b : Nat} {q : Rat} (s : Sm b q) : Sm b (-q) := ⟨by rw [Rat.neg_num, Int.natAbs_neg]; exact s.1, s.2⟩
theorem sub_sm {q1 q2 : Rat} (s1 : Sm 400 q1) (s2 : Sm 400 q2) : Sm 900 (q1 - q2) := by
  rw [Rat.sub_eq_add_neg]
  exact add_sm s1 (neg_sm s2)
theorem low0 (n d : Int) : low 0 n d = ((fr n d).num, ((fr n d).den : Int)) := if_pos rfl
section
variable {T : Tx K mg} {H0 G0 G H : Hp} {p : Option (Addr × Addr × Nat)} {ls : List (Addr × HO)} {Q : VK} {x y : V} {q1 q2 : Rat}
theorem den_sm {b : Nat} (s : Sm b q1) : ((q1.den : Nat) : Int).natAbs < 2 ^ b := sm_den s
/-- _law_plus, _law_times of the ground 0, of pairs that are the numbers' parts -/
theorem call_plus0 (lw : Lw H0 G0 p ls G H) (hx : TI G x q1.num q1.den) (hy : TI G y q2.num q2.den) (s1 : Sm 990 q1) (s2 : Sm 990 q2) (k : ∀ G' H' v, Ex G G' → Lw H0 G0 p ls G' H' → TI G' v (q1 + q2).num (q1 + q2).den → Q v H') : sp_plus [.int 0, x, y] H Q E0 :=
  ⟨0, _, _, _, _, call_pure lw ⟨x, y, rfl, hx, hy, .inl ⟨rfl, den_ne q1, den_ne q2⟩, s1.1, sm_den s1, s2.1, sm_den s2⟩ fun G' H' v e l hv => k _ _ _ e l (by
    rw [low0] at hv
    rw [q_add]
    exact hv)⟩
theorem call_times0L (lw : Lw H0 G0 p ls G H) (hx : TI G x q1.num q1.den) (hy : TI G y q2.num q2.den) (s1 : Sm 990 q1) (s2 : Sm 990 q2) (k : ∀ G' H' v, Ex G G' → Lw H0 G0 p ls G' H' → TI G' v (q1 * q2).num (q1 * q2).den → Q v H') : sp_times [.int 0, x, y] H Q E0 :=
  ⟨0, _, _, _, _, call_pure lw ⟨x, y, rfl, hx, hy, .inl ⟨rfl, den_ne q1, den_ne q2⟩, s1.1, sm_den s1, s2.1, sm_den s2⟩ fun G' H' v e l hv => k _ _ _ e l (by
    rw [low0] at hv
    rw [q_mul]
    exact hv)⟩
theorem call_is (lw : Lw H0 G0 p ls G H) (hx : Nm T.frac.C G x q1) (hy : TI G y q1.num q1.den) (k : ∀ G' H', Ex G G' → Lw H0 G0 p ls G' H' → Q (.bl true) H') : sp_is T [x, y] H Q E0 :=
  ⟨q1, call_pure lw ⟨x, y, rfl, hx, hy⟩ fun G' H' v e l (hv : v = _) => by
    subst hv
    exact k _ _ e l⟩
theorem call_hand (lw : Lw H0 G0 p ls G H) (hy : TI G y q1.num q1.den) (s : q1.den < 2 ^ 4000) (k : ∀ G' H' v, Ex G G' → Lw H0 G0 p ls G' H' → Nm T.frac.C G' v q1 → Q v H') : sp_hand T [y] H Q E0 :=
  ⟨q1, call_pure lw ⟨y, rfl, hy, s⟩ k⟩
end
theorem tC_ap {v : V} {σ : L2.St} {H : Hp} {Q : VK} (h : Q v H) : tC v σ H Q := h
theorem sc_sums : FnScope ["one", "two", "a", "b", "less", "back", "told", "due", "same", "answers", "again", "want", "k", "answer"] ["one", "two"] (defScope s_sums) := ⟨rfl, rfl, rfl, by decide +kernel, rfl, by decide +kernel, by decide +kernel⟩
def sp_sums : Sp := fun vs H Q E => ∃ q1 q2 : Rat, PureSp (fun vs G => ∃ x y, vs = [x, y] ∧ TI G x q1.num q1.den ∧ TI G y q2.num q2.den ∧ Sm 400 q1 ∧ Sm 400 q2) (fun _ _ _ v => v = .bl true) vs H Q E
theorem ok_sums (T : Tx K mg) : FnOk P w K mg base CX0 10 T.sums.f T.sums.fd ["one", "two"] sp_sums := by
  refine T.sums.F.ok sc_sums (fun vs H Q E h => ?_) (fun cdv A outer s H vs Q E hr h => ?_)
  · obtain ⟨q1, q2, G, _, ⟨x, y, rfl, _⟩, _⟩ := h
    rfl
  · obtain ⟨q1, q2, G, lw, ⟨x, y, rfl, hx, hy, s1, s2⟩, k⟩ := h
    refine ⟨_, (pss_cons (ps_set (i := 2) sc_sums.nd rfl (.inl rfl) (pe_call (ok_hand T) (hr.mono (by decide)) (by rfl) T.hand.g T.hand.F.kp T.hand.b .nil pass0 (pa_cons (pv 0) pa_nil)))
      (pss_cons (ps_set (i := 3) sc_sums.nd rfl (.inl rfl) (pe_call (ok_hand T) (hr.mono (by decide)) (by rfl) T.hand.g T.hand.F.kp T.hand.b .nil pass0 (pa_cons (pv 1) pa_nil)))
      (pss_cons (ps_if (PW.pt (pw_and (pt_cmpR op_eq (pe_ix (UfK.ix_tupK (K := K)) (pv 0) pe_int (fun _ _ => rfl)) pe_int (nomark _)) (pw_and1 (pt_cmpR op_eq (pe_ix (UfK.ix_tupK (K := K)) (pv 1) pe_int (fun _ _ => rfl)) pe_int (nomark _))))) (pss_one (ps_ret pe_bl)) pss_nil)
      (pss_cons (ps_set (i := 4) sc_sums.nd rfl (.inl rfl) (pe_tup (pa_cons (pe_un un_neg (pe_ix (UfK.ix_tupK (K := K)) (pv 1) pe_int (fun _ _ => rfl))) (pa_cons (pe_ix (UfK.ix_tupK (K := K)) (pv 1) pe_int (fun _ _ => rfl)) pa_nil))))
      (pss_cons (ps_set (i := 5) sc_sums.nd rfl (.inl rfl) (pe_tup (pa_cons (pe_un un_neg (pe_ix (UfK.ix_tupK (K := K)) (pv 0) pe_int (fun _ _ => rfl))) (pa_cons (pe_ix (UfK.ix_tupK (K := K)) (pv 0) pe_int (fun _ _ => rfl)) pa_nil))))
      (pss_cons (ps_set (i := 6) sc_sums.nd rfl (.inr rfl) (pe_lst (pa_cons (pe_op (UfO.op_ownAdd (hr.mono (by decide)) T.frac.o T.oAdd (ok_f_add T) T.f_add.b (ok_f_radd T) T.f_radd.b pass0) (pv 2) (pv 3)) (pa_cons (pe_op (UfO.op_ownAdd (hr.mono (by decide)) T.frac.o T.oAdd (ok_f_add T) T.f_add.b (ok_f_radd T) T.f_radd.b pass0) (pv 3) (pv 2)) (pa_cons (pe_op (UfO.op_ownSub (hr.mono (by decide)) T.frac.o T.oSub (ok_f_sub T) T.f_sub.b (ok_f_rsub T) T.f_rsub.b pass0) (pv 2) (pv 3)) (pa_cons (pe_op (UfO.op_ownSub (hr.mono (by decide)) T.frac.o T.oSub (ok_f_sub T) T.f_sub.b (ok_f_rsub T) T.f_rsub.b pass0) (pv 3) (pv 2)) (pa_cons (pe_op (UfO.op_ownMul (hr.mono (by decide)) T.frac.o T.oMul (ok_f_mul T) T.f_mul.b (ok_f_rmul T) T.f_rmul.b pass0) (pv 2) (pv 3)) (pa_cons (pe_op (UfO.op_ownMul (hr.mono (by decide)) T.frac.o T.oMul (ok_f_mul T) T.f_mul.b (ok_f_rmul T) T.f_rmul.b pass0) (pv 3) (pv 2)) (pa_cons (pe_un (UfO.un_ownNeg (hr.mono (by decide)) T.f_neg.m.at_ T.f_neg.m.fn (ok_f_neg T) T.f_neg.b pass0) (pv 2)) (pa_cons (pe_un (UfO.un_ownNeg (hr.mono (by decide)) T.f_neg.m.at_ T.f_neg.m.fn (ok_f_neg T) T.f_neg.b pass0) (pv 3)) pa_nil))))))))))
      (pss_cons (ps_set (i := 7) sc_sums.nd rfl (.inr rfl) (pe_lst (pa_cons (pe_call (ok_plus T) (hr.mono (by decide)) (by rfl) T.plus.g T.plus.F.kp T.plus.b .nil pass0 (pa_cons pe_int (pa_cons (pv 0) (pa_cons (pv 1) pa_nil)))) (pa_cons (pe_call (ok_plus T) (hr.mono (by decide)) (by rfl) T.plus.g T.plus.F.kp T.plus.b .nil pass0 (pa_cons pe_int (pa_cons (pv 0) (pa_cons (pv 1) pa_nil)))) (pa_cons (pe_call (ok_plus T) (hr.mono (by decide)) (by rfl) T.plus.g T.plus.F.kp T.plus.b .nil pass0 (pa_cons pe_int (pa_cons (pv 0) (pa_cons (pv 4) pa_nil)))) (pa_cons (pe_call (ok_plus T) (hr.mono (by decide)) (by rfl) T.plus.g T.plus.F.kp T.plus.b .nil pass0 (pa_cons pe_int (pa_cons (pv 1) (pa_cons (pv 5) pa_nil)))) pa_nil))))))
      (pss_cons (ps_set (i := 7) sc_sums.nd rfl (.inr rfl) (pe_op op_cat (pv 7) (pe_lst (pa_cons (pe_call (ok_times T) (hr.mono (by decide)) (by rfl) T.times.g T.times.F.kp T.times.b .nil pass0 (pa_cons pe_int (pa_cons (pv 0) (pa_cons (pv 1) pa_nil)))) (pa_cons (pe_call (ok_times T) (hr.mono (by decide)) (by rfl) T.times.g T.times.F.kp T.times.b .nil pass0 (pa_cons pe_int (pa_cons (pv 0) (pa_cons (pv 1) pa_nil)))) (pa_cons (pv 5) (pa_cons (pv 4) pa_nil)))))))
      (pss_cons (ps_if (pt_not (pt_val (pe_callB (UfK.cr_allK (K := K) rfl) (by rfl) T.z_all (by decide +kernel) (pa_cons (pe_lc (own := [("k", 12)]) rfl sc_sums.nd (pi_range1 rfl T.z_range (pa_cons pe_int pa_nil)) (blkOk_by (own := [("k", 12)]) (N := ["one", "two", "a", "b", "less", "back", "told", "due", "same", "answers", "again", "want", "k", "answer"]) (sc := defScope s_sums) (by decide +kernel)) (fun _ _ _ _ _ => by exact pg_name (i := 12) sc_sums.nd rfl (.inl rfl)) (fun _ _ _ _ _ => pts_nil) (fun _ _ _ _ _ => (pe_call (ok_is T) (hr.mono (by decide)) (by rfl) T.is.g T.is.F.kp T.is.b .nil pass0 (pa_cons (pe_ix (UfK.ix_listK (K := K)) (pv 6) (pv 12) (fun _ _ => rfl)) (pa_cons (pe_ix (UfK.ix_listK (K := K)) (pv 7) (pv 12) (fun _ _ => rfl)) pa_nil))))) pa_nil)))) (pss_one (ps_ret pe_bl)) pss_nil)
      (pss_cons (ps_set (i := 8) sc_sums.nd rfl (.inl rfl) (pe_cmpR (UfK.op_eqDK (K := K) hr.units) (pv 0) (pv 1) (nomark _)))
      (pss_cons (ps_set (i := 9) sc_sums.nd rfl (.inl rfl) (pe_lst (pa_cons (pe_cmpR (UfO.op_ownEq (hr.mono (by decide)) T.frac.o T.fEq (ok_f_eq T) T.f_eq.b pass0) (pv 2) (pv 3) (nomark _)) (pa_cons (pe_cmpR (UfO.op_ownEq (hr.mono (by decide)) T.frac.o T.fEq (ok_f_eq T) T.f_eq.b pass0) (pv 3) (pv 2) (nomark _)) (pa_cons (pe_cmpR (UfO.op_ownNe (hr.mono (by decide)) T.frac.o T.fEq (ok_f_eq T) T.f_eq.b pass0) (pv 2) (pv 3) (nomark _)) (pa_cons (pe_cmpR (UfO.op_ownNe (hr.mono (by decide)) T.frac.o T.fEq (ok_f_eq T) T.f_eq.b pass0) (pv 3) (pv 2) (nomark _)) (pa_cons (pe_cmpR (UfO.op_ownEq (hr.mono (by decide)) T.frac.o T.fEq (ok_f_eq T) T.f_eq.b pass0) (pv 2) pe_str (nomark _)) (pa_cons (pe_cmpR (UfO.op_ownEq (hr.mono (by decide)) T.frac.o T.fEq (ok_f_eq T) T.f_eq.b pass0) (pv 3) pe_str (nomark _)) (pa_cons (pe_cmpR (UfO.op_ownNe (hr.mono (by decide)) T.frac.o T.fEq (ok_f_eq T) T.f_eq.b pass0) (pv 2) pe_str (nomark _)) (pa_cons (pe_cmpR (UfO.op_ownNe (hr.mono (by decide)) T.frac.o T.fEq (ok_f_eq T) T.f_eq.b pass0) (pv 3) pe_str (nomark _)) pa_nil))))))))))
      (pss_cons (ps_if (pt_not (pt_val (pe_callB (UfK.cr_allK (K := K) rfl) (by rfl) T.z_all (by decide +kernel) (pa_cons (pe_lc (own := [("answer", 13)]) rfl sc_sums.nd (UfK.pi_listK (K := K) (pv 9)) (blkOk_by (own := [("answer", 13)]) (N := ["one", "two", "a", "b", "less", "back", "told", "due", "same", "answers", "again", "want", "k", "answer"]) (sc := defScope s_sums) (by decide +kernel)) (fun _ _ _ _ _ => by exact pg_name (i := 13) sc_sums.nd rfl (.inl rfl)) (fun _ _ _ _ _ => pts_nil) (fun _ _ _ _ _ => (pe_callB (UfK.call_isiK' (K := K)) (by rfl) T.z_isinstance (by decide +kernel) (pa_cons (pv 13) (pa_cons (pe_bltn (by rfl) T.z_bool (by decide +kernel) (show RelV (.ty "bool") _ from rfl)) pa_nil))))) pa_nil)))) (pss_one (ps_ret pe_bl)) pss_nil)
      (pss_cons (ps_if (pt_cmpR (UfK.op_neDK (K := K) hr.units) (pv 9) (pe_lst (pa_cons (pv 8) (pa_cons (pv 8) (pa_cons (pe_not (pv 8)) (pa_cons (pe_not (pv 8)) (pa_cons pe_bl (pa_cons pe_bl (pa_cons pe_bl (pa_cons pe_bl pa_nil))))))))) (nomark _)) (pss_one (ps_ret pe_bl)) pss_nil)
      (pss_cons (ps_set (i := 10) sc_sums.nd rfl (.inl rfl) (pe_ifExp (PW.pt (pw_or (pt_cmpR op_gt (pe_ix (UfK.ix_tupK (K := K)) (pe_ix (UfK.ix_listK (K := K)) (pv 7) pe_int (fun _ _ => rfl)) pe_int (fun _ _ => rfl)) pe_int (nomark _)) (pw_or1 (pt_cmpR op_gt (pe_ix (UfK.ix_tupK (K := K)) (pe_ix (UfK.ix_listK (K := K)) (pv 7) pe_int (fun _ _ => rfl)) pe_int (fun _ _ => rfl)) pe_int (nomark _))))) (pe_op (UfO.op_ownMul (hr.mono (by decide)) T.frac.o T.oMul (ok_f_mul T) T.f_mul.b (ok_f_rmul T) T.f_rmul.b pass0) (pe_ix (UfK.ix_listK (K := K)) (pv 6) pe_int (fun _ _ => rfl)) (pe_ix (UfK.ix_listK (K := K)) (pv 6) pe_int (fun _ _ => rfl))) (pe_ix (UfK.ix_listK (K := K)) (pv 6) pe_int (fun _ _ => rfl))))
      (pss_cons (ps_set (i := 11) sc_sums.nd rfl (.inl rfl) (pe_ifExp (PW.pt (pw_or (pt_cmpR op_gt (pe_ix (UfK.ix_tupK (K := K)) (pe_ix (UfK.ix_listK (K := K)) (pv 7) pe_int (fun _ _ => rfl)) pe_int (fun _ _ => rfl)) pe_int (nomark _)) (pw_or1 (pt_cmpR op_gt (pe_ix (UfK.ix_tupK (K := K)) (pe_ix (UfK.ix_listK (K := K)) (pv 7) pe_int (fun _ _ => rfl)) pe_int (fun _ _ => rfl)) pe_int (nomark _))))) (pe_call (ok_times T) (hr.mono (by decide)) (by rfl) T.times.g T.times.F.kp T.times.b .nil pass0 (pa_cons pe_int (pa_cons (pe_ix (UfK.ix_listK (K := K)) (pv 7) pe_int (fun _ _ => rfl)) (pa_cons (pe_ix (UfK.ix_listK (K := K)) (pv 7) pe_int (fun _ _ => rfl)) pa_nil)))) (pe_ix (UfK.ix_listK (K := K)) (pv 7) pe_int (fun _ _ => rfl))))
      (pss_one (ps_ret (pe_and (pe_call (ok_is T) (hr.mono (by decide)) (by rfl) T.is.g T.is.F.kp T.is.b .nil pass0 (pa_cons (pv 10) (pa_cons (pv 11) pa_nil))) (pe_and (pe_call (ok_is T) (hr.mono (by decide)) (by rfl) T.is.g T.is.F.kp T.is.b .nil pass0 (pa_cons (pv 2) (pa_cons (pv 0) pa_nil))) (pe_one (pe_call (ok_is T) (hr.mono (by decide)) (by rfl) T.is.g T.is.F.kp T.is.b .nil pass0 (pa_cons (pv 3) (pa_cons (pv 1) pa_nil))))))))))))))))))))))), ?_⟩
    have S1 : Sm 4000 q1 := sm_mono s1 (by decide)
    have S2 : Sm 4000 q2 := sm_mono s2 (by decide)
    have U1 : Sm 990 q1 := sm_mono s1 (by decide)
    have U2 : Sm 990 q2 := sm_mono s2 (by decide)
    refine seq_rest (fun σ' H' => ∃ G1 a, σ' = [some x, some y, some a, none, none, none, none, none, none, none, none, none, none, none] ∧ Lw H G none [] G1 H' ∧ Ex G G1 ∧ Nm T.frac.C G1 a q1) (fun σ' H' hp => ?_) (fun kk => ⟨_, rfl, call_hand lw hx S1.2 fun G1 H1 a e1 lw ha => kk _ _ ⟨G1, a, rfl, lw, e1, ha⟩⟩)
    obtain ⟨G1, a, rfl, lw, e1, ha⟩ := hp
    refine seq_rest (fun σ' H' => ∃ G2 b, σ' = [some x, some y, some a, some b, none, none, none, none, none, none, none, none, none, none] ∧ Lw H G none [] G2 H' ∧ Ex G1 G2 ∧ Nm T.frac.C G2 b q2) (fun σ' H' hp => ?_) (fun kk => ⟨_, rfl, call_hand lw (hy.ex e1) S2.2 fun G2 H2 b e2 lw hb => kk _ _ ⟨G2, b, rfl, lw, e2, hb⟩⟩)
    obtain ⟨G2, b, rfl, lw, e2, hb⟩ := hp
    have hx := hx.ex (e1.trans e2)
    have hy := hy.ex (e1.trans e2)
    have ha := ha.ex e2
    obtain ⟨t1, rfl, h1⟩ := id hx
    obtain ⟨t2, rfl, h2⟩ := id hy
    refine seq_rest (fun σ' H' => σ' = [some (.ref t1), some (.ref t2), some a, some b, none, none, none, none, none, none, none, none, none, none] ∧ Lw H G none [] G2 H') (fun σ' H' hp => ?_) (fun kk => ?_)
    rotate_left
    · refine ⟨_, rfl, t1, _, 1, _, rfl, rfl, SqT.g lw h1, rfl, rfl, _, rfl, ite2 (fun _ => ⟨_, rfl, t2, _, 1, _, rfl, rfl, SqT.g lw h2, rfl, rfl, _, rfl, ite2 (fun _ => k _ _ _ lw rfl) (fun _ => kk _ _ ⟨rfl, lw⟩)⟩) (fun _ => kk _ _ ⟨rfl, lw⟩)⟩
    obtain ⟨rfl, lw⟩ := hp
    -- less, back
    refine ⟨_, rfl, t2, _, 0, _, rfl, rfl, SqT.g lw h2, rfl, _, rfl, _, rfl, t2, _, 1, _, rfl, rfl, SqT.g lw h2, rfl, (by show 2 ≤ sizeLine; decide), fun tl nt => ?_⟩
    obtain ⟨G3, e3, lw, hl⟩ := lw.allocE (o := .tup [.int (-q2.num), .int q2.den]) nt
    refine ⟨_, rfl, t1, _, 0, _, rfl, rfl, SqT.g lw (e3 _ _ h1), rfl, _, rfl, _, rfl, t1, _, 1, _, rfl, rfl, SqT.g lw (e3 _ _ h1), rfl, (by show 2 ≤ sizeLine; decide), fun tb nt => ?_⟩
    obtain ⟨G4, e4, lw, hbk⟩ := lw.allocE (o := .tup [.int (-q1.num), .int q1.den]) nt
    have e34 := e3.trans e4
    have ha := ha.ex e34
    have hb := hb.ex e34
    have hx := hx.ex e34
    have hy := hy.ex e34
    have hl : TI G4 (.ref tl) (-q2).num (-q2).den := ⟨tl, rfl, by rw [Rat.neg_num, Rat.neg_den]; exact e4 _ _ hl⟩
    have hbk : TI G4 (.ref tb) (-q1).num (-q1).den := ⟨tb, rfl, by rw [Rat.neg_num, Rat.neg_den]; exact hbk⟩
    -- told
    refine ⟨_, rfl, _, rfl, r_add lw ha hb S1 S2 fun G5 H5 v1 e5 lw n1 => ?_⟩
    have ha := ha.ex e5
    have hb := hb.ex e5
    refine ⟨_, rfl, _, rfl, r_add lw hb ha S2 S1 fun G6 H6 v2 e6 lw n2 => ?_⟩
    have ha := ha.ex e6
    have hb := hb.ex e6
    refine ⟨_, rfl, _, rfl, r_sub lw ha hb S1 S2 fun G7 H7 v3 e7 lw n3 => ?_⟩
    have ha := ha.ex e7
    have hb := hb.ex e7
    refine ⟨_, rfl, _, rfl, r_sub lw hb ha S2 S1 fun G8 H8 v4 e8 lw n4 => ?_⟩
    have ha := ha.ex e8
    have hb := hb.ex e8
    refine ⟨_, rfl, _, rfl, r_mul lw ha hb S1 S2 fun G9 H9 v5 e9 lw n5 => ?_⟩
    have ha := ha.ex e9
    have hb := hb.ex e9
    refine ⟨_, rfl, _, rfl, r_mul lw hb ha S2 S1 fun G10 H10 v6 e10 lw n6 => ?_⟩
    have ha := ha.ex e10
    have hb := hb.ex e10
    refine ⟨_, rfl, r_neg lw ha S1 fun G11 H11 v7 e11 lw n7 => ?_⟩
    have ha := ha.ex e11
    have hb := hb.ex e11
    refine ⟨_, rfl, r_neg lw hb S2 fun G12 H12 v8 e12 lw n8 => ?_⟩
    have ha := ha.ex e12
    have hb := hb.ex e12
    have f12 := e12
    have f11 := e11.trans f12
    have f10 := e10.trans f11
    have f9 := e9.trans f10
    have f8 := e8.trans f9
    have f7 := e7.trans f8
    have f6 := e6.trans f7
    have f5 := e5.trans f6
    refine ⟨(by show 8 ≤ sizeLine; decide), fun tt nt => ?_⟩
    obtain ⟨G13, e13, lw, htt⟩ := lw.allocE (o := .lst [v1, v2, v3, v4, v5, v6, v7, v8]) nt
    have g5 := f5.trans e13
    have hx := hx.ex g5
    have hy := hy.ex g5
    have hl := hl.ex g5
    have hbk := hbk.ex g5
    have ha := ha.ex e13
    have hb := hb.ex e13
    -- due
    refine ⟨_, rfl, _, rfl, call_plus0 lw hx hy U1 U2 fun G14 H14 d1 e14 lw m1 => ?_⟩
    refine ⟨_, rfl, _, rfl, call_plus0 lw (hx.ex e14) (hy.ex e14) U1 U2 fun G15 H15 d2 e15 lw m2 => ?_⟩
    refine ⟨_, rfl, _, rfl, call_plus0 lw (hx.ex (e14.trans e15)) (hl.ex (e14.trans e15)) U1 (neg_sm U2) fun G16 H16 d3 e16 lw m3 => ?_⟩
    have e146 := (e14.trans e15).trans e16
    refine ⟨_, rfl, _, rfl, call_plus0 lw (hy.ex e146) (hbk.ex e146) U2 (neg_sm U1) fun G17 H17 d4 e17 lw m4 => ?_⟩
    refine ⟨(by show 4 ≤ sizeLine; decide), fun td nt => ?_⟩
    obtain ⟨G18, e18, lw, htd⟩ := lw.allocE (o := .lst [d1, d2, d3, d4]) nt
    have e1418 := (e146.trans e17).trans e18
    have hx := hx.ex e1418
    have hy := hy.ex e1418
    refine ⟨_, rfl, _, rfl, _, rfl, call_times0L lw hx hy U1 U2 fun G19 H19 d5 e19 lw m5 => ?_⟩
    refine ⟨_, rfl, _, rfl, call_times0L lw (hx.ex e19) (hy.ex e19) U1 U2 fun G20 H20 d6 e20 lw m6 => ?_⟩
    refine ⟨_, rfl, _, rfl, (by show 4 ≤ sizeLine; decide), fun td2 nt => ?_⟩
    obtain ⟨G21, e21, lw, htd2⟩ := lw.allocE (o := .lst [d5, d6, .ref tb, .ref tl]) nt
    refine ⟨td, td2, _, _, rfl, rfl, lw.gh _ _ (e21 _ _ (e20 _ _ (e19 _ _ htd))), lw.gh _ _ htd2, (by show 8 ≤ sizeLine; decide), fun td3 nt => ?_⟩
    obtain ⟨G22, e22, lw, htd3⟩ := lw.allocE (o := .lst [d1, d2, d3, d4, d5, d6, .ref tb, .ref tl]) nt
    have f22 := e22
    have f21 := e21.trans f22
    have f20 := e20.trans f21
    have f19 := e19.trans f20
    have f18 := e18.trans f19
    have f17 := e17.trans f18
    have f16 := e16.trans f17
    have f15 := e15.trans f16
    have f14 := e14.trans f15
    have m3 : TI G16 d3 (q1 - q2).num (q1 - q2).den := by rw [Rat.sub_eq_add_neg]; exact m3
    have m4 : TI G17 d4 (q2 - q1).num (q2 - q1).den := by rw [Rat.sub_eq_add_neg]; exact m4
    have m2 : TI G15 d2 (q2 + q1).num (q2 + q1).den := by rw [Rat.add_comm]; exact m2
    have m6 : TI G20 d6 (q2 * q1).num (q2 * q1).den := by rw [Rat.mul_comm]; exact m6
    have h13 := e13.trans f14
    have pair : ∀ i, i < 8 → ∃ v d r, ([v1, v2, v3, v4, v5, v6, v7, v8] : List V)[i]? = some v ∧ ([d1, d2, d3, d4, d5, d6, .ref tb, .ref tl] : List V)[i]? = some d ∧ Nm T.frac.C G22 v r ∧ TI G22 d r.num r.den := fun i hi =>
      match i, hi with
      | 0, _ => ⟨_, _, _, rfl, rfl, n1.ex ((e6.trans f7).trans h13), m1.ex f15⟩
      | 1, _ => ⟨_, _, _, rfl, rfl, n2.ex (f7.trans h13), m2.ex f16⟩
      | 2, _ => ⟨_, _, _, rfl, rfl, n3.ex (f8.trans h13), m3.ex f17⟩
      | 3, _ => ⟨_, _, _, rfl, rfl, n4.ex (f9.trans h13), m4.ex f18⟩
      | 4, _ => ⟨_, _, _, rfl, rfl, n5.ex (f10.trans h13), m5.ex f20⟩
      | 5, _ => ⟨_, _, _, rfl, rfl, n6.ex (f11.trans h13), m6.ex f21⟩
      | 6, _ => ⟨_, _, _, rfl, rfl, n7.ex (f12.trans h13), hbk.ex f14⟩
      | 7, _ => ⟨_, _, _, rfl, rfl, n8.ex h13, hl.ex f14⟩
    have hx := hx.ex f19
    have hy := hy.ex f19
    have ha := ha.ex f14
    have hb := hb.ex f14
    have htt := f14 _ _ htt
    -- all([_law_is(told[k], due[k]) ..])
    refine ⟨8, rfl, by decide, by decide, fun D hD => lc_trueR lw hD (by decide) (fun i G' H' acc hi e lw hac Nx nx => ?_) (fun G23 H23 e23 lw hD => ?_)⟩
    · obtain ⟨v, d, r, hv, hd, nv, td'⟩ := pair i hi
      rw [Int.zero_add]
      refine ⟨rfl, _, rfl, _, rfl, tt, _, _, _, rfl, rfl, SqL.g lw (e _ _ htt), atI_nat hv, _, rfl, _, rfl, td3, _, _, _, rfl, rfl, SqL.g lw (e _ _ htd3), atI_nat hd, call_is lw (nv.ex e) (td'.ex e) fun G2 H2 e2 lw => ⟨_, lw.at, Evl.sz_lt (by rw [hac]; have : i < 8 := hi; omega), nx _ _ e2 lw.put⟩⟩
    refine ⟨D, _, rfl, SqL.g lw hD, ?_⟩
    rw [all_true]
    refine ⟨true, rfl, iteF ?_⟩
    -- same
    obtain ⟨t1', et1, h1⟩ := id hx
    obtain rfl : t1 = t1' := by injection et1
    obtain ⟨t2', et2, h2⟩ := id hy
    obtain rfl : t2 = t2' := by injection et2
    refine ⟨_, rfl, _, rfl, r_eqD lw (Rp.tupI (ns := [q1.num, (q1.den : Int)]) (e23 _ _ h1)) (Rp.tupI (ns := [q2.num, (q2.den : Int)]) (e23 _ _ h2)) (UfG.shaped_tupI _) (UfG.shaped_tupI _) ?_⟩
    rw [eqv_tupI]
    obtain ⟨sb, hsb⟩ : ∃ sb, sb = decide (q1 = q2) := ⟨_, rfl⟩
    have same : decide ([q1.num, (q1.den : Int)] = [q2.num, (q2.den : Int)]) = sb := by
      rw [hsb, decide_eq_decide]
      constructor
      · intro z
        injection z with z1 z2
        injection z2 with z2
        exact Rat.ext z1 (Int.ofNat_inj.mp z2)
      · intro z
        rw [z]
    have same2 : decide (q2 = q1) = sb := by
      rw [hsb, decide_eq_decide]
      exact ⟨Eq.symm, Eq.symm⟩
    rw [same]
    -- answers
    have ha := ha.ex e23
    have hb := hb.ex e23
    refine ⟨_, rfl, _, rfl, r_eqN (neg := false) lw ha hb fun G24 H24 e24 lw => ?_⟩
    refine ⟨_, rfl, _, rfl, r_eqN (neg := false) lw (hb.ex e24) (ha.ex e24) fun G25 H25 e25 lw => ?_⟩
    have x25 := e24.trans e25
    refine ⟨_, rfl, _, rfl, r_eqN (neg := true) lw (ha.ex x25) (hb.ex x25) fun G26 H26 e26 lw => ?_⟩
    have x26 := x25.trans e26
    refine ⟨_, rfl, _, rfl, r_eqN (neg := true) lw (hb.ex x26) (ha.ex x26) fun G27 H27 e27 lw => ?_⟩
    have x27 := x26.trans e27
    rw [← hsb, same2]
    refine ⟨_, rfl, tC_ap ?_⟩
    refine r_eqS (neg := false) lw (ha.ex x27) fun G28 H28 e28 lw => ?_
    have x28 := x27.trans e28
    refine ⟨_, rfl, tC_ap ?_⟩
    refine r_eqS (neg := false) lw (hb.ex x28) fun G29 H29 e29 lw => ?_
    have x29 := x28.trans e29
    refine ⟨_, rfl, tC_ap ?_⟩
    refine r_eqS (neg := true) lw (ha.ex x29) fun G30 H30 e30 lw => ?_
    have x30 := x29.trans e30
    refine ⟨_, rfl, tC_ap ?_⟩
    refine r_eqS (neg := true) lw (hb.ex x30) fun G31 H31 e31 lw => ?_
    have x31 := x30.trans e31
    refine ⟨(by show 8 ≤ sizeLine; decide), fun ta nt => ?_⟩
    obtain ⟨bs, hbs⟩ : ∃ bs, bs = [sb, sb, !sb, !sb, false, false, true, true] := ⟨_, rfl⟩
    obtain ⟨G32, e32, lw, hta⟩ := lw.allocE (o := .lst (bs.map V.bl)) nt
    rw [show bs.map V.bl = [.bl sb, .bl sb, .bl (!sb), .bl (!sb), .bl false, .bl false, .bl true, .bl true] by rw [hbs]; rfl] at lw
    have x32 := (e23.trans x31).trans e32
    refine ⟨_, rfl, ta, rfl, ⟨_, SqL.g lw hta⟩, fun D2 hD2 => lc_true lw hD2 hta (by rw [List.length_map, hbs]; show 8 < 100000; decide) (fun i x' G' H' acc hi e lw hac Nx nx => ?_) (fun G33 H33 e33 lw hD2 => ?_)⟩
    · obtain ⟨c, hc, rfl⟩ : ∃ c, bs[i]? = some c ∧ x' = .bl c := by
        rw [List.getElem?_map] at hi
        cases ee : bs[i]? with
        | none => rw [ee] at hi; cases hi
        | some c => rw [ee] at hi; exact ⟨c, rfl, (Option.some.inj hi).symm⟩
      have il : i < 8 := by
        have := (List.getElem?_eq_some_iff.mp hc).1
        rw [hbs] at this
        exact this
      exact ⟨rfl, _, rfl, .bl c, .ty "bool", .type "bool", .type "bool", true, rfl, .ty _, .base (.bl c), kit_ty rfl, _, lw.at, Evl.sz_lt (by rw [hac]; omega), nx _ _ (Evl.Ex.refl _) lw.put⟩
    refine ⟨D2, _, rfl, SqL.g lw hD2, ?_⟩
    rw [all_true]
    refine ⟨true, rfl, iteF ?_⟩
    -- answers != [..]
    refine ⟨_, rfl, _, rfl, _, rfl, _, rfl, _, rfl, _, rfl, _, rfl, (by show 8 ≤ sizeLine; decide), fun tw nt => ?_⟩
    obtain ⟨G34, e34', lw, htw⟩ := lw.allocE (o := .lst (bs.map V.bl)) nt
    rw [show bs.map V.bl = [.bl sb, .bl sb, .bl (!sb), .bl (!sb), .bl false, .bl false, .bl true, .bl true] by rw [hbs]; rfl] at lw
    have hta := e34' _ _ (e33 _ _ hta)
    refine ⟨.list (bs.map PyData.bool), .list (bs.map PyData.bool), Rp.up lw (.lst hta (rp_bools bs)), Rp.up lw (.lst htw (rp_bools bs)), shaped_lstB _, shaped_lstB _, ?_⟩
    rw [eqv_lstB]
    refine ⟨_, rfl, iteF ?_⟩
    have x34 := (x32.trans e33).trans e34'
    have htd3 := x34 _ _ htd3
    have htt := x34 _ _ htt
    have hx := hx.ex x34
    have hy := hy.ex x34
    have ha := ha.ex ((x31.trans e32).trans (e33.trans e34'))
    have hb := hb.ex ((x31.trans e32).trans (e33.trans e34'))
    have n1 := n1.ex ((((e6.trans f7).trans h13)).trans x34)
    have n3 := n3.ex (((f8.trans h13)).trans x34)
    have m1 := m1.ex (f15.trans x34)
    have m3 := m3.ex (f17.trans x34)
    have b1 := add_sm s1 s2
    have b3 := sub_sm s1 s2
    have fin : ∀ (r : Rat) (v d : V) (G' H' : Hp), Ex G34 G' → Lw H G none [] G' H' → Nm T.frac.C G' v r → TI G' d r.num r.den →
        tRet (tAndV (tCall (sp_is T) [] E0 (tCons (tVar 10) (tCons (tVar 11) tNil))) (tAndV (tCall (sp_is T) [] E0 (tCons (tVar 2) (tCons (tVar 0) tNil))) (tCall (sp_is T) [] E0 (tCons (tVar 3) (tCons (tVar 1) tNil))))) { nx := fun x H' => Q V.non H', rt := Q }
          [some (.ref t1), some (.ref t2), some a, some b, some (.ref tl), some (.ref tb), some (.ref tt), some (.ref td3), some (.bl sb), some (.ref ta), some v, some d, none, none] H' := fun r v d G' H' e lw nv md =>
      ⟨_, rfl, _, rfl, call_is lw nv md fun G2 H2 e2 lw => ⟨true, rfl, iteT ⟨_, rfl, _, rfl, call_is lw (ha.ex (e.trans e2)) (hx.ex (e.trans e2)) fun G3 H3 e3 lw => ⟨true, rfl, iteT ⟨_, rfl, _, rfl, call_is lw (hb.ex ((e.trans e2).trans e3)) (hy.ex ((e.trans e2).trans e3)) fun G4 H4 e4 lw => k _ _ _ lw rfl⟩⟩⟩⟩⟩
    have lwF := lw
    obtain ⟨u1, rfl, k1⟩ := id m1
    obtain ⟨u3, rfl, k3⟩ := id m3
    have lw := lwF
    have R := Evl.Ex.refl G34
    by_cases c1 : (1 : Int) < ((q1 + q2).den : Int)
    · exact ⟨_, rfl, td3, _, 0, _, rfl, rfl, SqL.g lw (R _ _ htd3), rfl, u1, _, 1, _, rfl, rfl, SqT.g lw (R _ _ k1), rfl, _, _, rfl, rfl, _, rfl, ite2 (fun _ => ⟨_, rfl, tt, _, 0, _, rfl, rfl, SqL.g lw htt, rfl, _, rfl, tt, _, 2, _, rfl, rfl, SqL.g lw htt, rfl, r_mul lw n1 n3 (sm_mono b1 (by decide)) (sm_mono b3 (by decide)) fun G35 H35 v9 e35 lw n9 => ⟨_, rfl, td3, _, 0, _, rfl, rfl, SqL.g lw (e35 _ _ htd3), rfl, u1, _, 1, _, rfl, rfl, SqT.g lw (e35 _ _ k1), rfl, _, _, rfl, rfl, _, rfl, ite2 (fun _ => ⟨_, rfl, td3, _, 0, _, rfl, rfl, SqL.g lw (e35 _ _ htd3), rfl, _, rfl, td3, _, 2, _, rfl, rfl, SqL.g lw (e35 _ _ htd3), rfl, call_times0L lw (m1.ex e35) (m3.ex e35) (sm_mono b1 (by decide)) (sm_mono b3 (by decide)) fun G36 H36 v10 e36 lw m10 => fin _ _ _ _ _ (e35.trans e36) lw (n9.ex e36) m10⟩) (fun z => (z (decide_eq_true c1)).elim)⟩⟩) (fun z => (z (decide_eq_true c1)).elim)⟩
    · by_cases c3 : (1 : Int) < ((q1 - q2).den : Int)
      · exact ⟨_, rfl, td3, _, 0, _, rfl, rfl, SqL.g lw (R _ _ htd3), rfl, u1, _, 1, _, rfl, rfl, SqT.g lw (R _ _ k1), rfl, _, _, rfl, rfl, _, rfl, ite2 (fun z => (c1 (of_decide_eq_true z)).elim) (fun _ => ⟨_, rfl, td3, _, 2, _, rfl, rfl, SqL.g lw (R _ _ htd3), rfl, u3, _, 1, _, rfl, rfl, SqT.g lw (R _ _ k3), rfl, _, _, rfl, rfl, _, rfl, ite2 (fun _ => ⟨_, rfl, tt, _, 0, _, rfl, rfl, SqL.g lw htt, rfl, _, rfl, tt, _, 2, _, rfl, rfl, SqL.g lw htt, rfl, r_mul lw n1 n3 (sm_mono b1 (by decide)) (sm_mono b3 (by decide)) fun G35 H35 v9 e35 lw n9 => ⟨_, rfl, td3, _, 0, _, rfl, rfl, SqL.g lw (e35 _ _ htd3), rfl, u1, _, 1, _, rfl, rfl, SqT.g lw (e35 _ _ k1), rfl, _, _, rfl, rfl, _, rfl, ite2 (fun z => (c1 (of_decide_eq_true z)).elim) (fun _ => ⟨_, rfl, td3, _, 2, _, rfl, rfl, SqL.g lw (e35 _ _ htd3), rfl, u3, _, 1, _, rfl, rfl, SqT.g lw (e35 _ _ k3), rfl, _, _, rfl, rfl, _, rfl, ite2 (fun _ => ⟨_, rfl, td3, _, 0, _, rfl, rfl, SqL.g lw (e35 _ _ htd3), rfl, _, rfl, td3, _, 2, _, rfl, rfl, SqL.g lw (e35 _ _ htd3), rfl, call_times0L lw (m1.ex e35) (m3.ex e35) (sm_mono b1 (by decide)) (sm_mono b3 (by decide)) fun G36 H36 v10 e36 lw m10 => fin _ _ _ _ _ (e35.trans e36) lw (n9.ex e36) m10⟩) (fun z => (z (decide_eq_true c3)).elim)⟩)⟩⟩) (fun z => (z (decide_eq_true c3)).elim)⟩)⟩
      · exact ⟨_, rfl, td3, _, 0, _, rfl, rfl, SqL.g lw (R _ _ htd3), rfl, u1, _, 1, _, rfl, rfl, SqT.g lw (R _ _ k1), rfl, _, _, rfl, rfl, _, rfl, ite2 (fun z => (c1 (of_decide_eq_true z)).elim) (fun _ => ⟨_, rfl, td3, _, 2, _, rfl, rfl, SqL.g lw (R _ _ htd3), rfl, u3, _, 1, _, rfl, rfl, SqT.g lw (R _ _ k3), rfl, _, _, rfl, rfl, _, rfl, ite2 (fun z => (c3 (of_decide_eq_true z)).elim) (fun _ => ⟨_, rfl, tt, _, 0, _, rfl, rfl, SqL.g lw htt, rfl, ⟨_, rfl, td3, _, 0, _, rfl, rfl, SqL.g lw (R _ _ htd3), rfl, u1, _, 1, _, rfl, rfl, SqT.g lw (R _ _ k1), rfl, _, _, rfl, rfl, _, rfl, ite2 (fun z => (c1 (of_decide_eq_true z)).elim) (fun _ => ⟨_, rfl, td3, _, 2, _, rfl, rfl, SqL.g lw (R _ _ htd3), rfl, u3, _, 1, _, rfl, rfl, SqT.g lw (R _ _ k3), rfl, _, _, rfl, rfl, _, rfl, ite2 (fun z => (c3 (of_decide_eq_true z)).elim) (fun _ => ⟨_, rfl, td3, _, 0, _, rfl, rfl, SqL.g lw htd3, rfl, fin _ _ _ _ _ R lw n1 m1⟩)⟩)⟩⟩)⟩)⟩
end
end K01

set_option maxHeartbeats 1000000
namespace K01
open PySem PySem.Spec PyProof.Rows L2 UfG UfT UfR UfO UfI UfQ UfN SX UfX UfD
open Evl (Ex)
section
variable {P : Program} {w : World} {K : PySem.W.Frag} {mg : Str → Option Value} {base : Heap}
/-! ### _law_text, _law_tells, _law_digits, _law_parse -/
theorem cat22 (a : List Nat) : S a ++ Str.ofString "/" = S (a ++ [47]) := S_cat a [47]
theorem sc_text : FnScope ["pair"] ["pair"] (defScope s_text) := ⟨rfl, rfl, rfl, by decide +kernel, rfl, by decide +kernel, by decide +kernel⟩
def sp_text : Sp := fun vs H Q E => ∃ q : Rat, PureSp (fun vs G => ∃ y, vs = [y] ∧ TI G y q.num q.den ∧ Sm 1900 q) (fun _ _ _ v => v = .str (S (numT q))) vs H Q E
theorem ok_text (T : Tx K mg) : FnOk P w K mg base CX0 1 T.text.f T.text.fd ["pair"] sp_text := by
  refine T.text.F.ok sc_text (fun vs H Q E h => ?_) (fun cdv A outer s H vs Q E hr h => ?_)
  · obtain ⟨q, G, _, ⟨y, rfl, _⟩, _⟩ := h
    rfl
  · obtain ⟨q, G, lw, ⟨y, rfl, ⟨t, rfl, ht⟩, s1⟩, k⟩ := h
    refine ⟨_, (pss_cons (ps_if (pt_cmpR op_eq (pe_ix (UfK.ix_tupK (K := K)) (pv 0) pe_int (fun _ _ => rfl)) pe_int (nomark _)) (pss_one (ps_ret (pe_callTy call_str_int (by rfl) T.z_str (by decide +kernel) (pa_cons (pe_ix (UfK.ix_tupK (K := K)) (pv 0) pe_int (fun _ _ => rfl)) pa_nil)))) pss_nil)
      (pss_one (ps_ret (pe_op op_add_str (pe_op op_add_str (pe_callTy call_str_int (by rfl) T.z_str (by decide +kernel) (pa_cons (pe_ix (UfK.ix_tupK (K := K)) (pv 0) pe_int (fun _ _ => rfl)) pa_nil)) pe_str) (pe_callTy call_str_int (by rfl) T.z_str (by decide +kernel) (pa_cons (pe_ix (UfK.ix_tupK (K := K)) (pv 0) pe_int (fun _ _ => rfl)) pa_nil)))))), ?_⟩
    have l1 := intL_len s1.1
    have l2 := intL_len (i := (q.den : Int)) s1.2
    refine ⟨_, rfl, t, _, 1, _, rfl, rfl, SqT.g lw ht, rfl, rfl, _, rfl, ite2 (fun h => ?_) (fun h => ?_)⟩
    · have h : q.den = 1 := by
        have : ((q.den : Nat) : Int) = 1 := by simpa using h
        omega
      exact ⟨_, rfl, t, _, 0, _, rfl, rfl, SqT.g lw ht, rfl, _, rfl, lg19 s1.1, k _ _ _ lw (by rw [txt_int, numT_int h])⟩
    · have h : q.den ≠ 1 := fun z => h (by rw [z]; rfl)
      refine ⟨_, rfl, t, _, 0, _, rfl, rfl, SqT.g lw ht, rfl, _, rfl, lg19 s1.1, ?_⟩
      rw [txt_int]
      refine ⟨_, _, rfl, rfl, ?_, _, rfl, t, _, 1, _, rfl, rfl, SqT.g lw ht, rfl, _, rfl, lg19 s1.2, ?_⟩
      · rw [S_len]
        show _ + 1 ≤ 16777216
        omega
      rw [txt_int, cat22]
      refine ⟨_, _, rfl, rfl, ?_, k _ _ _ lw ?_⟩
      · rw [S_len, S_len, List.length_append]
        show _ + 1 + _ ≤ 16777216
        omega
      · show V.str (S _ ++ S _) = _
        rw [S_cat, numT_frac h, List.append_assoc]
        rfl
theorem call_text {H0 G0 G H : Hp} {p : Option (Addr × Addr × Nat)} {ls : List (Addr × HO)} {Q : VK} {y : V} {q1 : Rat} (lw : Lw H0 G0 p ls G H) (hy : TI G y q1.num q1.den) (s : Sm 1900 q1) (k : ∀ G' H', Ex G G' → Lw H0 G0 p ls G' H' → Q (.str (S (numT q1))) H') : sp_text [y] H Q E0 :=
  ⟨q1, call_pure lw ⟨y, rfl, hy, s⟩ fun G' H' v e l (hv : v = _) => by
    subst hv
    exact k _ _ e l⟩
theorem sc_digits : FnScope ["text", "sign"] ["text"] (defScope s_digits) := ⟨rfl, rfl, rfl, by decide +kernel, rfl, by decide +kernel, by decide +kernel⟩
def sp_digits : Sp := fun vs H Q E => ∃ l : List Nat, PureSp (fun vs _ => vs = [.str (S l)] ∧ l.length < 100000) (fun _ _ _ v => v = .bl (ldig l)) vs H Q E
theorem ok_digits (T : Tx K mg) : FnOk P w K mg base CX0 1 T.digits.f T.digits.fd ["text"] sp_digits := by
  refine T.digits.F.ok sc_digits (fun vs H Q E h => ?_) (fun cdv A outer s H vs Q E hr h => ?_)
  · obtain ⟨l, G, _, ⟨rfl, _⟩, _⟩ := h
    rfl
  · obtain ⟨l, G, lw, ⟨rfl, hz⟩, k⟩ := h
    refine ⟨_, (pss_cons (ps_if (PW.pt (pw_or (pt_cmpR op_lt (pe_callB call_len_str (by rfl) T.z_len (by decide +kernel) (pa_cons (pv 0) pa_nil)) pe_int (nomark _)) (pw_or1 (pt_cmpR op_gt (pe_callB call_len_str (by rfl) T.z_len (by decide +kernel) (pa_cons (pv 0) pa_nil)) pe_int (nomark _))))) (pss_one (ps_ret pe_bl)) pss_nil)
      (pss_cons (ps_if (PW.pt (pw_and (pt_cmpR op_eq (pe_ix ix_str (pv 0) pe_int (fun _ _ => rfl)) pe_str (nomark _)) (pw_and1 (pt_cmpR op_gt (pe_callB call_len_str (by rfl) T.z_len (by decide +kernel) (pa_cons (pv 0) pa_nil)) pe_int (nomark _))))) (pss_one (ps_ret pe_bl)) pss_nil)
      (pss_one (ps_ret (pe_callB (UfK.cr_allK (K := K) rfl) (by rfl) T.z_all (by decide +kernel) (pa_cons (pe_lc (own := [("sign", 1)]) rfl sc_digits.nd (pi_str (pv 0)) (blkOk_by (own := [("sign", 1)]) (N := ["text", "sign"]) (sc := defScope s_digits) (by decide +kernel)) (fun _ _ _ _ _ => by exact pg_name (i := 1) sc_digits.nd rfl (.inl rfl)) (fun _ _ _ _ _ => pts_nil) (fun _ _ _ _ _ => (pe_cmpR op_in_str (pv 1) pe_str (by rfl)))) pa_nil)))))), ?_⟩
    have hl : (S l).length = l.length := S_len l
    have hs : (S l).length ≤ sizeLine := by rw [hl]; show l.length ≤ 16777216; omega
    refine ⟨_, rfl, _, rfl, hs, _, _, rfl, rfl, _, rfl, ite2 (fun h1 => k _ _ _ lw ?_) (fun h1 => ⟨_, rfl, _, rfl, hs, _, _, rfl, rfl, _, rfl, ite2 (fun h2 => k _ _ _ lw ?_) (fun h2 => ?_)⟩)⟩
    · have h1 := of_decide_eq_true h1
      rw [hl] at h1
      unfold ldig
      rw [decide_eq_false (show ¬ 1 ≤ l.length by omega)]
      rfl
    · have h2 := of_decide_eq_true h2
      rw [hl] at h2
      unfold ldig
      rw [decide_eq_false (show ¬ l.length ≤ 30 by omega), Bool.and_false]
      rfl
    · have h1 : ¬ (((S l).length : Int) < 1) := fun z => h1 (decide_eq_true z)
      have h2 : ¬ ((30 : Int) < ((S l).length : Int)) := fun z => h2 (decide_eq_true z)
      rw [hl] at h1 h2
      have z1 : 1 ≤ l.length := by omega
      have z2 : l.length ≤ 30 := by omega
      obtain ⟨c, r, hc⟩ : ∃ c r, l = c :: r := by
        cases l with
        | nil => simp at z1
        | cons c r => exact ⟨c, r, rfl⟩
      have hat : atI (S l).cps.toList 0 = some c := by rw [hc]; exact atI_nat (j := 0) rfl
      -- all([..])
      have fin : ¬ (l.head? = some 48 ∧ 1 < l.length) → tRet (tCB (rAll K) (tCons (tLc (iStr (tVar 0)) (gName 1) tYes (tOp (fun x y H Q => ∃ i j, x = V.str i ∧ y = V.str j ∧ Q (V.bl !(Builtin.Str.occurrences j i 0 j.length 1).isEmpty) H) (tVar 1) (tC (V.str (Str.ofString "0123456789")))) (List.map (fun x => x.snd) [(Str.ofString "sign", 1)])) tNil))
          { nx := fun x H' => Q V.non H', rt := Q } (L2.start [Str.ofString "text", Str.ofString "sign"] [V.str (S l)]) H := fun nh => by
        refine ⟨_, rfl, S l, rfl, fun D hD => it_str (fun j H' => Lw H G none [(D, .lst ((l.take j).map fun c => V.bl (decide (48 ≤ c) && decide (c ≤ 57))))] G H') (lw.make hD) (fun j H' c hc lw => ?_) (fun H' lw => ?_)⟩
        · refine ⟨rfl, _, rfl, _, _, rfl, rfl, ?_⟩
          rw [in_digits]
          refine ⟨_, lw.at, Evl.sz_lt (by rw [List.length_map, List.length_take]; omega), ?_⟩
          rw [List.take_add_one, hc, List.map_append]
          exact lw.put
        · obtain ⟨lw, e2⟩ := lw.keep
          rw [List.take_length] at lw
          refine ⟨D, l.map fun c => decide (48 ≤ c) && decide (c ≤ 57), rfl, SqL.g lw (by rw [List.map_map]; exact upd_same), k _ _ _ lw ?_⟩
          have nb : (decide (l.head? = some 48) && decide (1 < l.length)) = false := by
            rw [← Bool.not_eq_true, Bool.and_eq_true, decide_eq_true_eq, decide_eq_true_eq]
            exact nh
          unfold ldig
          rw [decide_eq_true z1, decide_eq_true z2, nb, List.all_map]
          rfl
      have h0 : l.head? = some c := by rw [hc]; rfl
      refine ⟨_, rfl, S l, 0, c, rfl, rfl, hs, hat, rfl, _, rfl, ite2 (fun h3 => ⟨_, rfl, _, rfl, hs, _, _, rfl, rfl, _, rfl, ite2 (fun h4 => k _ _ _ lw ?_) (fun h4 => fin ?_)⟩) (fun h3 => fin ?_)⟩
      · have h3 : V.str (S [c]) = V.str (S [48]) := of_decide_eq_true h3
        have h3 : c = 48 := by
          have := S_eq.mp h3
          injection this
        have h4 := of_decide_eq_true h4
        rw [hl] at h4
        unfold ldig
        rw [decide_eq_true (show l.head? = some 48 by rw [h0, h3]), decide_eq_true (show 1 < l.length by omega)]
        simp
      · rintro ⟨_, z⟩
        refine h4 (decide_eq_true ?_)
        rw [hl]
        omega
      · rintro ⟨z, _⟩
        rw [h0] at z
        have z : c = 48 := Option.some.inj z
        refine h3 (decide_eq_true ?_)
        rw [z]
        rfl
theorem call_digits {H0 G0 G H : Hp} {p : Option (Addr × Addr × Nat)} {ls : List (Addr × HO)} {Q : VK} {l : List Nat} (lw : Lw H0 G0 p ls G H) (hz : l.length < 100000) (k : ∀ G' H', Ex G G' → Lw H0 G0 p ls G' H' → Q (.bl (ldig l)) H') : sp_digits [.str (S l)] H Q E0 :=
  ⟨l, call_pure lw ⟨rfl, hz⟩ fun G' H' v e l (hv : v = _) => by
    subst hv
    exact k _ _ e l⟩
theorem join_len {s : Nat} : ∀ {ps : List (List Nat)} {x : List Nat}, x ∈ ps → x.length ≤ (TL.joinL [s] ps).length
  | [p], x, h => by
    rw [List.mem_singleton.mp h]
    exact Nat.le_refl _
  | p :: q :: r, x, h => by
    show _ ≤ (p ++ ([s] ++ TL.joinL [s] (q :: r))).length
    rw [List.length_append, List.length_append]
    rcases List.mem_cons.mp h with h | h
    · rw [h]
      omega
    · have := join_len (s := s) h
      omega
theorem join_cnt {s : Nat} : ∀ (ps : List (List Nat)), ps.length ≤ (TL.joinL [s] ps).length + 1
  | [] => by simp
  | [p] => by simp
  | p :: q :: r => by
    have := join_cnt (s := s) (q :: r)
    show _ ≤ (p ++ ([s] ++ TL.joinL [s] (q :: r))).length + 1
    rw [List.length_append, List.length_append, List.length_cons]
    show _ ≤ _ + (1 + _) + 1
    omega
theorem sc_parse : FnScope ["text", "bare", "parts", "num", "den", "part"] ["text"] (defScope s_parse) := ⟨rfl, rfl, rfl, by decide +kernel, rfl, by decide +kernel, by decide +kernel⟩
/-- what _law_parse says of a text -/
def PrsAt (l : List Nat) (G : Hp) (v : V) : Prop := (∃ q, IsT l q ∧ TI G v q.num q.den) ∨ (v = .non ∧ ¬ ∃ q, IsT l q)
def sp_parse : Sp := fun vs H Q E => ∃ l : List Nat, PureSp (fun vs _ => vs = [.str (S l)] ∧ l.length < 90000) (fun _ _ G' v => PrsAt l G' v) vs H Q E
theorem ok_parse (T : Tx K mg) : FnOk P w K mg base CX0 3 T.parse.f T.parse.fd ["text"] sp_parse := by
  refine T.parse.F.ok sc_parse (fun vs H Q E h => ?_) (fun cdv A outer s H vs Q E hr h => ?_)
  · obtain ⟨l, G, _, ⟨rfl, _⟩, _⟩ := h
    rfl
  · obtain ⟨l, G, lw, ⟨rfl, hz⟩, k⟩ := h
    refine ⟨_, (pss_cons (ps_set (i := 1) sc_parse.nd rfl (.inl rfl) (pv 0))
      (pss_cons (ps_if (pt_cmpR op_eq (pe_slice C8.sl_txt (pv 0) po_none (po_some pe_int)) pe_str (nomark _)) (pss_one (ps_set (i := 1) sc_parse.nd rfl (.inl rfl) (pe_slice C8.sl_txt (pv 0) (po_some pe_int) po_none))) pss_nil)
      (pss_cons (ps_set (i := 2) sc_parse.nd rfl (.inl rfl) (pe_split (pv 1) pe_str))
      (pss_cons (ps_if (PW.pt (pw_or (pt_cmpR op_gt (pe_callB (UfK.call_lenK (K := K)) (by rfl) T.z_len (by decide +kernel) (pa_cons (pv 2) pa_nil)) pe_int (nomark _)) (pw_or1 (pt_not (pt_val (pe_callB (UfK.cr_allK (K := K) rfl) (by rfl) T.z_all (by decide +kernel) (pa_cons (pe_lc (own := [("part", 5)]) rfl sc_parse.nd (UfK.pi_listK (K := K) (pv 2)) (blkOk_by (own := [("part", 5)]) (N := ["text", "bare", "parts", "num", "den", "part"]) (sc := defScope s_parse) (by decide +kernel)) (fun _ _ _ _ _ => by exact pg_name (i := 5) sc_parse.nd rfl (.inl rfl)) (fun _ _ _ _ _ => pts_nil) (fun _ _ _ _ _ => (pe_call (ok_digits T) (hr.mono (by decide)) (by rfl) T.digits.g T.digits.F.kp T.digits.b .nil pass0 (pa_cons (pv 5) pa_nil)))) pa_nil))))))) (pss_one (ps_ret pe_non)) pss_nil)
      (pss_cons (ps_set (i := 3) sc_parse.nd rfl (.inl rfl) (pe_callTy call_int_str (by rfl) T.z_int (by decide +kernel) (pa_cons (pe_ix (UfK.ix_listK (K := K)) (pv 2) pe_int (fun _ _ => rfl)) pa_nil)))
      (pss_cons (ps_set (i := 4) sc_parse.nd rfl (.inl rfl) pe_int)
      (pss_cons (ps_if (pt_cmpR op_eq (pe_callB (UfK.call_lenK (K := K)) (by rfl) T.z_len (by decide +kernel) (pa_cons (pv 2) pa_nil)) pe_int (nomark _)) (pss_cons (ps_set (i := 4) sc_parse.nd rfl (.inl rfl) (pe_callTy call_int_str (by rfl) T.z_int (by decide +kernel) (pa_cons (pe_ix (UfK.ix_listK (K := K)) (pv 2) pe_int (fun _ _ => rfl)) pa_nil)))
      (pss_one (ps_if (PW.pt (pw_or (pt_cmpR op_lt (pv 4) pe_int (nomark _)) (pw_or1 (pt_cmpR op_ne (pe_call (ok_gcd T) (hr.mono (by decide)) (by rfl) T.gcd.g T.gcd.F.kp T.gcd.b .nil pass0 (pa_cons (pv 3) (pa_cons (pv 4) pa_nil))) pe_int (nomark _))))) (pss_one (ps_ret pe_non)) pss_nil))) pss_nil)
      (pss_cons (ps_if (pt_cmpR op_ne (pe_slice C8.sl_txt (pv 0) po_none (po_some pe_int)) pe_str (nomark _)) (pss_one (ps_ret (pe_tup (pa_cons (pv 3) (pa_cons (pv 4) pa_nil))))) pss_nil)
      (pss_cons (ps_if (pt_cmpR op_eq (pv 3) pe_int (nomark _)) (pss_one (ps_ret pe_non)) pss_nil)
      (pss_one (ps_ret (pe_tup (pa_cons (pe_un un_neg (pv 3)) (pa_cons (pv 4) pa_nil)))))))))))))), ?_⟩
    have hs : (S l).length ≤ sizeLine := by rw [S_len]; show l.length ≤ 16777216; omega
    have first : decide (V.str (Txt.slice (S l) none (some 1)) = V.str (Str.ofString "-")) = decide (l.head? = some 45) := by
      rw [slice_to (by decide)]
      have e : (V.str (S (l.take (1 : Int).toNat)) = V.str (Str.ofString "-")) ↔ l.head? = some 45 := by
        show (V.str (S (l.take 1)) = V.str (S [45])) ↔ _
        rw [S_eq]
        cases l with
        | nil => simp
        | cons a b => simp
      rw [decide_eq_decide]
      exact e
    refine seq_rest (fun σ' H' => σ' = [some (.str (S l)), some (.str (S l)), none, none, none, none] ∧ Lw H G none [] G H') (fun σ' H' hp => ?_) (fun kk => ⟨_, rfl, kk _ _ ⟨rfl, lw⟩⟩)
    obtain ⟨rfl, lw⟩ := hp
    obtain ⟨b, hb⟩ : ∃ b, b = bareL l := ⟨_, rfl⟩
    refine seq_rest (fun σ' H' => σ' = [some (.str (S l)), some (.str (S b)), none, none, none, none] ∧ Lw H G none [] G H') (fun σ' H' hp => ?_) (fun kk => ?_)
    rotate_left
    · refine ⟨_, rfl, _, rfl, S l, rfl, hs, rfl, _, rfl, ?_⟩
      rw [first]
      refine ite2 (fun h => ?_) (fun h => ?_)
      · have h : l.head? = some 45 := of_decide_eq_true h
        refine ⟨_, rfl, _, rfl, S l, rfl, hs, ?_⟩
        rw [slice_from (by decide)]
        refine kk _ _ ⟨?_, lw⟩
        rw [hb]
        unfold bareL
        rw [if_pos h]
        rfl
      · have h : ¬ l.head? = some 45 := fun z => h (decide_eq_true z)
        refine kk _ _ ⟨?_, lw⟩
        rw [hb]
        unfold bareL
        rw [if_neg h]
    obtain ⟨rfl, lw⟩ := hp
    have bz : b.length < 90000 := by
      rw [hb]
      unfold bareL
      split
      · rw [List.length_drop]; omega
      · exact hz
    obtain ⟨ps, hps⟩ : ∃ ps, ps = TL.spl [47] 0 [] b := ⟨_, rfl⟩
    have hj : TL.joinL [47] ps = b := by rw [hps, join_spl]; rfl
    have hne : ps ≠ [] := by rw [hps]; exact spl_ne _ _ _
    have hpt : ∀ q, IsT l q → ps = if q.den = 1 then [TL.numL q.num.natAbs] else [TL.numL q.num.natAbs, TL.numL q.den] := fun q hq => by
      rw [hps, hb]
      exact hq.parts
    refine seq_rest (fun σ' H' => ∃ p G1, σ' = [some (.str (S l)), some (.str (S b)), some (.ref p), none, none, none] ∧ Lw H G none [] G1 H' ∧ G1 p = some (.lst (ps.map fun x => V.str (S x)))) (fun σ' H' hp => ?_) (fun kk => ?_)
    rotate_left
    · refine ⟨_, rfl, ⟨_, rfl⟩, S b, S [47], rfl, rfl, rfl, (by rw [S_len]; show b.length + 2 ≤ 16777216; omega), fun p hp => ?_⟩
      rw [split_S (by simp) (by decide), ← hps, List.map_map]
      obtain ⟨G1, e1, lw, h1⟩ := lw.allocE (o := .lst (ps.map fun x => V.str (S x))) hp
      exact kk _ _ ⟨p, G1, rfl, lw, h1⟩
    obtain ⟨p, G1, rfl, lw, hp⟩ := hp
    refine seq_rest (fun σ' H' => ∃ G2, σ' = [some (.str (S l)), some (.str (S b)), some (.ref p), none, none, none] ∧ Lw H G none [] G2 H' ∧ G2 p = some (.lst (ps.map fun x => V.str (S x))) ∧ ps.length ≤ 2 ∧ ∀ x ∈ ps, ldig x = true) (fun σ' H' hp => ?_) (fun kk => ?_)
    rotate_left
    · refine ⟨_, rfl, p, _, rfl, .inl (SqL.g lw hp), _, _, rfl, rfl, _, rfl, ite2 (fun h => ?_) (fun h => ?_)⟩
      · have h := of_decide_eq_true h
        rw [List.length_map] at h
        refine k _ _ _ lw (.inr ⟨rfl, fun ⟨q, hq⟩ => ?_⟩)
        have e := congrArg List.length (hpt q hq)
        split at e <;> simp at e <;> omega
      · have h : ¬ ((2 : Int) < ((ps.map fun x => V.str (S x)).length : Int)) := fun z => h (decide_eq_true z)
        rw [List.length_map] at h
        have pl : ps.length ≤ 2 := by omega
        refine ⟨_, rfl, p, rfl, ⟨_, SqL.g lw hp⟩, fun D hD => it_list (xs := ps.map fun x => V.str (S x)) (fun j H' => ∃ G', Ex G1 G' ∧ Lw H G none [(D, .lst (((ps.take j).map ldig).map V.bl))] G' H') ⟨G1, Evl.Ex.refl _, lw.make hD⟩ (fun j H' hj hp' => ?_) (fun j x H' hx hp' => ?_) (fun H' hp' => ?_)⟩
        · obtain ⟨G', e, lw⟩ := hp'
          exact SqL.g lw (e _ _ hp)
        · obtain ⟨G', e, lw⟩ := hp'
          obtain ⟨y, hy, rfl⟩ : ∃ y, ps[j]? = some y ∧ x = .str (S y) := by
            rw [List.getElem?_map] at hx
            cases ee : ps[j]? with
            | none => rw [ee] at hx; cases hx
            | some c => rw [ee] at hx; exact ⟨c, rfl, (Option.some.inj hx).symm⟩
          have yl := join_len (s := 47) (List.mem_of_getElem? hy)
          rw [hj] at yl
          refine ⟨rfl, _, rfl, call_digits lw (by omega) fun G2 H2 e2 lw => ⟨_, lw.at, Evl.sz_lt (by rw [List.length_map, List.length_map, List.length_take]; omega), G2, e.trans e2, ?_⟩⟩
          rw [List.take_add_one, hy, List.map_append, List.map_append]
          exact lw.put
        · obtain ⟨G', e, lw⟩ := hp'
          obtain ⟨lw, e2⟩ := lw.keep
          rw [List.length_map, List.take_length] at lw e2
          refine ⟨D, _, rfl, SqL.g lw upd_same, ?_⟩
          refine ⟨_, rfl, ite2 (fun h => ?_) (fun h => ?_)⟩
          · have h : ¬ (ps.map ldig).all id = true := by simpa using h
            refine k _ _ _ lw (.inr ⟨rfl, fun ⟨q, hq⟩ => h ?_⟩)
            rw [List.all_eq_true]
            intro c hc
            obtain ⟨y, hy, rfl⟩ := List.mem_map.mp hc
            rw [hpt q hq] at hy
            refine ldig_iff.mpr ?_
            split at hy
            · rw [List.mem_singleton.mp hy]
              exact ⟨_, rfl, hq.1.1⟩
            · rcases List.mem_cons.mp hy with hy | hy
              · rw [hy]
                exact ⟨_, rfl, hq.1.1⟩
              · rw [List.mem_singleton.mp hy]
                exact ⟨_, rfl, hq.1.2⟩
          · have h : (ps.map ldig).all id = true := by simpa using h
            refine kk _ _ ⟨_, rfl, lw, e2 _ _ (e _ _ hp), pl, fun x hx => ?_⟩
            exact List.all_eq_true.mp h _ (List.mem_map_of_mem hx)
    obtain ⟨G2, rfl, lw, hp, pl, pd⟩ := hp
    -- the parts
    obtain ⟨x, r, hxr⟩ : ∃ x r, ps = x :: r := by
      cases ps with
      | nil => exact absurd rfl hne
      | cons x r => exact ⟨x, r, rfl⟩
    obtain ⟨a, hxa, al⟩ := ldig_iff.mp (pd x (by rw [hxr]; exact List.mem_cons_self))
    have i0 : intText? (S x) = some (a : Int) := by
      have := SX.int_S (a := x) (by rw [hxa]; exact digs_num a) (by rw [hxa]; exact TL.numL_ne a) (by rw [hxa]; omega)
      rw [hxa, TL.numL_val] at this
      rw [hxa]
      exact this
    have at0 : atI (ps.map fun x => V.str (S x)) 0 = some (V.str (S x)) := by rw [hxr]; exact atI_nat (j := 0) rfl
    refine seq_rest (fun σ' H' => σ' = [some (.str (S l)), some (.str (S b)), some (.ref p), some (.int a), none, none] ∧ Lw H G none [] G2 H') (fun σ' H' hp => ?_) (fun kk => ⟨_, rfl, p, _, 0, _, rfl, rfl, SqL.g lw hp, at0, S x, a, rfl, i0, (by rw [S_len, hxa]; omega), kk _ _ ⟨rfl, lw⟩⟩)
    obtain ⟨rfl, lw⟩ := hp
    refine seq_rest (fun σ' H' => σ' = [some (.str (S l)), some (.str (S b)), some (.ref p), some (.int a), some (.int 1), none] ∧ Lw H G none [] G2 H') (fun σ' H' hp => ?_) (fun kk => kk _ _ ⟨rfl, lw⟩)
    obtain ⟨rfl, lw⟩ := hp
    refine seq_rest (fun σ' H' => ∃ (d : Nat) (G3 : Hp), σ' = [some (.str (S l)), some (.str (S b)), some (.ref p), some (.int a), some (.int d), none] ∧ Lw H G none [] G3 H' ∧ b = TL.numL a ++ (if d = 1 then [] else 47 :: TL.numL d) ∧ 1 ≤ d ∧ Nat.gcd a d = 1 ∧ (TL.numL d).length ≤ 30) (fun σ' H' hp => ?_) (fun kk => ?_)
    · obtain ⟨d, G3, rfl, lw, hbd, d1, gd, dl⟩ := hp
      rw [hb] at hbd
      refine ⟨_, rfl, _, rfl, S l, rfl, hs, rfl, _, rfl, ?_⟩
      rw [first]
      by_cases h : l.head? = some 45
      · rw [decide_eq_true h]
        refine iteF ⟨_, rfl, rfl, _, rfl, ite2 (fun h2 => ?_) (fun h2 => ?_)⟩
        · have h2 : (a : Int) = 0 := by simpa using h2
          refine k _ _ _ lw (.inr ⟨rfl, fun ⟨q, hq⟩ => ?_⟩)
          have e := hpt q hq
          rw [hxr, hxa] at e
          have e1 : TL.numL a = TL.numL q.num.natAbs := by
            split at e <;> (injection e)
          have e2 := TL.numL_inj e1
          have := hq.neg.mp h
          omega
        · have h2 : (a : Int) ≠ 0 := by simpa using h2
          refine ⟨_, rfl, _, rfl, _, rfl, (by show 2 ≤ sizeLine; decide), fun t nt => ?_⟩
          obtain ⟨G4, e4, lw, h4⟩ := lw.allocE (o := .tup [.int (-(a : Int)), .int d]) nt
          obtain ⟨iq, en, ed⟩ := isT_of (i := -(a : Int)) hbd d1 gd al dl (by omega) ⟨fun _ => by omega, fun _ => h⟩
          exact k _ _ _ lw (.inl ⟨_, iq, t, rfl, by rw [en, ed]; exact h4⟩)
      · rw [decide_eq_false h]
        refine iteT ⟨_, rfl, _, rfl, (by show 2 ≤ sizeLine; decide), fun t nt => ?_⟩
        obtain ⟨G4, e4, lw, h4⟩ := lw.allocE (o := .tup [.int (a : Int), .int d]) nt
        obtain ⟨iq, en, ed⟩ := isT_of (i := (a : Int)) hbd d1 gd al dl (by omega) ⟨fun z => absurd z h, fun z => absurd z (by omega)⟩
        exact k _ _ _ lw (.inl ⟨_, iq, t, rfl, by rw [en, ed]; exact h4⟩)
    · refine ⟨_, rfl, p, _, rfl, .inl (SqL.g lw hp), rfl, _, rfl, ite2 (fun h => ?_) (fun h => ?_)⟩
      · have h : ((ps.map fun x => V.str (S x)).length : Int) = 2 := by simpa using h
        rw [List.length_map] at h
        obtain ⟨y, hy⟩ : ∃ y, ps = [x, y] := by
          rw [hxr] at h ⊢
          match r, h with
          | [y], _ => exact ⟨y, rfl⟩
          | [], h => simp at h
          | _ :: _ :: _, h => simp at h; omega
        obtain ⟨d, hyd, dl⟩ := ldig_iff.mp (pd y (by rw [hy]; simp))
        have i1 : intText? (S y) = some (d : Int) := by
          have := SX.int_S (a := y) (by rw [hyd]; exact digs_num d) (by rw [hyd]; exact TL.numL_ne d) (by rw [hyd]; omega)
          rw [hyd, TL.numL_val] at this
          rw [hyd]
          exact this
        have at1 : atI (ps.map fun x => V.str (S x)) 1 = some (V.str (S y)) := by rw [hy]; exact atI_nat (j := 1) rfl
        have no : (d < 2 ∨ Nat.gcd a d ≠ 1) → ¬ ∃ q, IsT l q := fun z ⟨q, hq⟩ => by
          have e := hpt q hq
          rw [hy, hxa, hyd] at e
          by_cases h1 : q.den = 1
          · rw [if_pos h1] at e
            exact absurd (congrArg List.length e) (by simp)
          · rw [if_neg h1] at e
            injection e with e1 e2
            injection e2 with e2
            have e1 := TL.numL_inj e1
            have e2 := TL.numL_inj e2
            have := q.den_pos
            have c := hq.cop
            rw [← e1, ← e2] at c
            rcases z with z | z
            · omega
            · exact z c
        have b1 : (a : Int).natAbs < 2 ^ 4000 := by
          have := val_lt (l := TL.numL a) (digs_num a) 30 al
          rw [TL.numL_val] at this
          have z : (10 : Nat) ^ 30 < 2 ^ 4000 := by decide +kernel
          rw [Int.natAbs_natCast]
          omega
        have b2 : (d : Int).natAbs < 2 ^ 4000 := by
          have := val_lt (l := TL.numL d) (digs_num d) 30 dl
          rw [TL.numL_val] at this
          have z : (10 : Nat) ^ 30 < 2 ^ 4000 := by decide +kernel
          rw [Int.natAbs_natCast]
          omega
        refine ⟨_, rfl, p, _, 1, _, rfl, rfl, SqL.g lw hp, at1, S y, d, rfl, i1, (by rw [S_len, hyd]; omega), ?_⟩
        refine ⟨_, rfl, _, _, rfl, rfl, _, rfl, ite2 (fun h2 => ?_) (fun h2 => ?_)⟩
        · have h2 := of_decide_eq_true h2
          exact k _ _ _ lw (.inr ⟨rfl, no (.inl (by omega))⟩)
        · have h2 : ¬ ((d : Int) < 2) := fun z => h2 (decide_eq_true z)
          refine ⟨_, rfl, _, rfl, a, d, call_pure lw ⟨rfl, b1, b2⟩ fun G3 H3 v e3 lw hv => ?_⟩
          subst hv
          refine ⟨rfl, _, rfl, ite2 (fun h3 => ?_) (fun h3 => ?_)⟩
          · have h3 : ¬ ((Nat.gcd a d : Nat) : Int) = 1 := by simpa using h3
            exact k _ _ _ lw (.inr ⟨rfl, no (.inr fun z => h3 (by rw [z]; rfl))⟩)
          · have h3 : ((Nat.gcd a d : Nat) : Int) = 1 := by simpa using h3
            refine kk _ _ ⟨d, G3, rfl, lw, ?_, by omega, by omega, dl⟩
            rw [if_neg (by omega), ← hj, hy, hxa, hyd]
            rfl
      · have h : ¬ ((ps.map fun x => V.str (S x)).length : Int) = 2 := by simpa using h
        rw [List.length_map] at h
        have hr : ps = [x] := by
          rw [hxr] at h pl ⊢
          cases r with
          | nil => rfl
          | cons y r =>
            have pl : r.length + 1 + 1 ≤ 2 := pl
            have h : ¬ ((r.length + 1 + 1 : Nat) : Int) = 2 := h
            omega
        refine kk _ _ ⟨1, G2, rfl, lw, ?_, Nat.le_refl _, Nat.gcd_one_right a, by rw [TL.numL_lt (by decide)]; decide⟩
        rw [if_pos rfl, ← hj, hr, hxa, List.append_nil]
        rfl
theorem sc_tells : FnScope ["one", "two", "a", "told", "parts", "text", "part"] ["one", "two"] (defScope s_tells) := ⟨rfl, rfl, rfl, by decide +kernel, rfl, by decide +kernel, by decide +kernel⟩
def sp_tells : Sp := fun vs H Q E => ∃ q1 q2 : Rat, PureSp (fun vs G => ∃ x y, vs = [x, y] ∧ TI G x q1.num q1.den ∧ TI G y q2.num q2.den ∧ Sm 400 q1 ∧ Sm 400 q2) (fun _ _ _ v => v = .bl true) vs H Q E
theorem ok_tells (T : Tx K mg) : FnOk P w K mg base CX0 12 T.tells.f T.tells.fd ["one", "two"] sp_tells := by
  refine T.tells.F.ok sc_tells (fun vs H Q E h => ?_) (fun cdv A outer s H vs Q E hr h => ?_)
  · obtain ⟨q1, q2, G, _, ⟨x, y, rfl, _⟩, _⟩ := h
    rfl
  · obtain ⟨q1, q2, G, lw, ⟨x, y, rfl, hx, hy, s1, s2⟩, k⟩ := h
    refine ⟨_, (pss_cons (ps_set (i := 2) sc_tells.nd rfl (.inl rfl) (pe_call (ok_hand T) (hr.mono (by decide)) (by rfl) T.hand.g T.hand.F.kp T.hand.b .nil pass0 (pa_cons (pv 0) pa_nil)))
      (pss_cons (ps_set (i := 3) sc_tells.nd rfl (.inl rfl) (pe_call (ok_ask T) (hr.mono (by decide)) (by rfl) T.ask.g T.ask.F.kp T.ask.b .nil pass0 (pa_cons pe_int (pa_cons (pv 2) (pa_cons (pe_call (ok_hand T) (hr.mono (by decide)) (by rfl) T.hand.g T.hand.F.kp T.hand.b .nil pass0 (pa_cons (pv 1) pa_nil)) pa_nil)))))
      (pss_cons (ps_if (pt_cmpR op_eq (pe_ix (UfK.ix_tupK (K := K)) (pv 1) pe_int (fun _ _ => rfl)) pe_int (nomark _)) (pss_one (ps_if (pt_cmpR (UfK.op_neDK (K := K) hr.units) (pv 3) (pe_tup (pa_cons pe_str pa_nil)) (nomark _)) (pss_one (ps_ret pe_bl)) pss_nil)) (pss_one (ps_if (PW.pt (pw_or (pt_cmpR op_ne (pe_ix (UfK.ix_tupK (K := K)) (pv 3) pe_int (fun _ _ => rfl)) pe_str (nomark _)) (pw_or1 (pt_not (pt_val (pe_call (ok_is T) (hr.mono (by decide)) (by rfl) T.is.g T.is.F.kp T.is.b .nil pass0 (pa_cons (pe_ix (UfK.ix_tupK (K := K)) (pv 3) pe_int (fun _ _ => rfl)) (pa_cons (pe_call (ok_low T) (hr.mono (by decide)) (by rfl) T.low.g T.low.F.kp T.low.b .nil pass0 (pa_cons pe_int (pa_cons (pe_op op_mulW (pe_ix (UfK.ix_tupK (K := K)) (pv 0) pe_int (fun _ _ => rfl)) (pe_ix (UfK.ix_tupK (K := K)) (pv 1) pe_int (fun _ _ => rfl))) (pa_cons (pe_op op_mulW (pe_ix (UfK.ix_tupK (K := K)) (pv 0) pe_int (fun _ _ => rfl)) (pe_ix (UfK.ix_tupK (K := K)) (pv 1) pe_int (fun _ _ => rfl))) pa_nil)))) pa_nil)))))))) (pss_one (ps_ret pe_bl)) pss_nil)))
      (pss_cons (ps_set (i := 4) sc_tells.nd rfl (.inl rfl) (pe_call (ok_pieces T) (hr.mono (by decide)) (by rfl) T.pieces.g T.pieces.F.kp T.pieces.b .nil pass0 (pa_cons (pv 2) pa_nil)))
      (pss_cons (ps_if (PW.pt (pw_or (pt_not (pt_val (pe_callB (UfK.call_isiK' (K := K)) (by rfl) T.z_isinstance (by decide +kernel) (pa_cons (pv 4) (pa_cons (pe_bltn (by rfl) T.z_tuple (by decide +kernel) (show RelV (.ty "tuple") _ from rfl)) pa_nil))))) (pw_or (pt_cmpR op_ne (pe_callB (UfK.call_lenK (K := K)) (by rfl) T.z_len (by decide +kernel) (pa_cons (pv 4) pa_nil)) pe_int (nomark _)) (pw_or1 (pt_not (pt_val (pe_callB (UfK.cr_allK (K := K) rfl) (by rfl) T.z_all (by decide +kernel) (pa_cons (pe_lc (own := [("part", 6)]) rfl sc_tells.nd (UfK.pi_tupK (K := K) (pv 4)) (blkOk_by (own := [("part", 6)]) (N := ["one", "two", "a", "told", "parts", "text", "part"]) (sc := defScope s_tells) (by decide +kernel)) (fun _ _ _ _ _ => by exact pg_name (i := 6) sc_tells.nd rfl (.inl rfl)) (fun _ _ _ _ _ => pts_nil) (fun _ _ _ _ _ => (pe_call (ok_int T) (hr.mono (by decide)) (by rfl) T.int_.g T.int_.F.kp T.int_.b .nil pass0 (pa_cons (pv 6) pa_nil)))) pa_nil)))))))) (pss_one (ps_ret pe_bl)) pss_nil)
      (pss_cons (ps_set (i := 5) sc_tells.nd rfl (.inl rfl) (pe_call (ok_number_text T) (hr.mono (by decide)) (by rfl) T.number_text.g T.number_text.F.kp T.number_text.b .nil pass0 (pa_cons (pv 2) pa_nil)))
      (pss_cons (ps_if (PW.pt (pw_or (pt_cmpR (UfK.op_neDK (K := K) hr.units) (pv 4) (pv 0) (nomark _)) (pw_or (pt_not (pt_val (pe_callB (UfK.call_isiK' (K := K)) (by rfl) T.z_isinstance (by decide +kernel) (pa_cons (pv 5) (pa_cons (pe_bltn (by rfl) T.z_str (by decide +kernel) (show RelV (.ty "str") _ from rfl)) pa_nil))))) (pw_or1 (pt_cmpR op_ne (pv 5) (pe_call (ok_text T) (hr.mono (by decide)) (by rfl) T.text.g T.text.F.kp T.text.b .nil pass0 (pa_cons (pv 0) pa_nil)) (nomark _)))))) (pss_one (ps_ret pe_bl)) pss_nil)
      (pss_one (ps_ret (pe_or (pe_cmpR op_eq (pe_ix (UfK.ix_tupK (K := K)) (pv 0) pe_int (fun _ _ => rfl)) pe_int (nomark _)) (pe_one (pe_cmpR op_eq (pe_callTy (UfO.call_str_own (hr.mono (by decide)) T.f_str.m.at_ T.f_str.m.fn (ok_f_str T) T.f_str.b pass0) (by rfl) T.z_str (by decide +kernel) (pa_cons (pv 2) pa_nil)) (pe_call (ok_text T) (hr.mono (by decide)) (by rfl) T.text.g T.text.F.kp T.text.b .nil pass0 (pa_cons (pv 0) pa_nil)) (nomark _))))))))))))), ?_⟩
    have S1 : Sm 4000 q1 := sm_mono s1 (by decide)
    have S2 : Sm 4000 q2 := sm_mono s2 (by decide)
    have W1 : Sm 1900 q1 := sm_mono s1 (by decide)
    obtain ⟨t1, rfl, h1⟩ := id hx
    obtain ⟨t2, rfl, h2⟩ := id hy
    refine seq_rest (fun σ' H' => ∃ G1 a, σ' = [some (.ref t1), some (.ref t2), some a, none, none, none, none] ∧ Lw H G none [] G1 H' ∧ Ex G G1 ∧ Nm T.frac.C G1 a q1) (fun σ' H' hp => ?_) (fun kk => ⟨_, rfl, call_hand lw hx S1.2 fun G1 H1 a e1 lw ha => kk _ _ ⟨G1, a, rfl, lw, e1, ha⟩⟩)
    obtain ⟨G1, a, rfl, lw, e1, ha⟩ := hp
    refine seq_rest (fun σ' H' => ∃ G2 v, σ' = [some (.ref t1), some (.ref t2), some a, some v, none, none, none] ∧ Lw H G none [] G2 H' ∧ Ex G1 G2 ∧ ((q2 ≠ 0 ∧ ∃ x, Told G2 v x ∧ Nm T.frac.C G2 x (q1 / q2)) ∨ (q2 = 0 ∧ Rp G2 v (errD .div)))) (fun σ' H' hp => ?_) (fun kk => ?_)
    rotate_left
    · refine ⟨_, rfl, _, rfl, call_hand lw (hy.ex e1) S2.2 fun G2 H2 b e2 lw hb => ?_⟩
      show sp_ask T [.int 2, a, b] H2 _ E0
      exact call_ask2 lw (ha.ex e2) hb S1 S2 (fun z G3 H3 v x e3 lw h3 nx => kk _ _ ⟨G3, v, rfl, lw, e2.trans e3, .inl ⟨z, x, h3, nx⟩⟩) fun z G3 H3 v e3 lw r => kk _ _ ⟨G3, v, rfl, lw, e2.trans e3, .inr ⟨z, r⟩⟩
    obtain ⟨G2, v, rfl, lw, e2, hv⟩ := hp
    have e12 := e1.trans e2
    have num0 : q2.num = 0 ↔ q2 = 0 := Rat.num_eq_zero
    refine seq_rest (fun σ' H' => ∃ G3 v, σ' = [some (.ref t1), some (.ref t2), some a, some v, none, none, none] ∧ Lw H G none [] G3 H' ∧ Ex G2 G3) (fun σ' H' hp => ?_) (fun kk => ?_)
    rotate_left
    · refine ⟨_, rfl, t2, _, 0, _, rfl, rfl, SqT.g lw (e12 _ _ h2), rfl, rfl, _, rfl, ite2 (fun h => ?_) (fun h => ?_)⟩
      · have h : q2 = 0 := num0.mp (by simpa using h)
        rcases hv with ⟨z, _⟩ | ⟨_, r⟩
        · exact absurd h z
        · refine ⟨_, rfl, (by show 1 ≤ sizeLine; decide), fun t nt => ?_⟩
          obtain ⟨G3, e3, lw, h3⟩ := lw.allocE (o := .tup [.str "DivisionByZero"]) nt
          exact r_neE lw (r.ex e3) (rp_div h3) (no_text fun _ => nofun) ⟨_, rfl, iteF (kk _ _ ⟨G3, v, rfl, lw, e3⟩)⟩
      · have h : q2.num ≠ 0 := by simpa using h
        rcases hv with ⟨_, x, ⟨t, rfl, ht⟩, nx⟩ | ⟨z, _⟩
        · have b1 : q1.num.natAbs < 2 ^ 990 := (sm_mono s1 (c := 990) (by decide)).1
          have b2 : (q1.den : Int).natAbs < 2 ^ 990 := sm_den (sm_mono s1 (c := 990) (by decide))
          have b3 : q2.num.natAbs < 2 ^ 990 := (sm_mono s2 (c := 990) (by decide)).1
          have b4 : (q2.den : Int).natAbs < 2 ^ 990 := sm_den (sm_mono s2 (c := 990) (by decide))
          refine ⟨_, rfl, t, _, 0, _, rfl, rfl, SqT.g lw ht, rfl, rfl, _, rfl, iteF ⟨_, rfl, t, _, 1, _, rfl, rfl, SqT.g lw ht, rfl, ?_⟩⟩
          refine ⟨_, rfl, t1, _, 0, _, rfl, rfl, SqT.g lw (e12 _ _ h1), rfl, _, rfl, t2, _, 1, _, rfl, rfl, SqT.g lw (e12 _ _ h2), rfl, _, _, rfl, rfl, m99 b1 b4, _, rfl, t1, _, 1, _, rfl, rfl, SqT.g lw (e12 _ _ h1), rfl, _, rfl, t2, _, 0, _, rfl, rfl, SqT.g lw (e12 _ _ h2), rfl, _, _, rfl, rfl, m99 b2 b3, ?_⟩
          refine ⟨0, _, _, call_pure lw ⟨rfl, .inl ⟨rfl, Int.mul_ne_zero (den_ne q1) h⟩, Nat.lt_trans (m98 b1 b4) (by decide +kernel), Nat.lt_trans (m98 b2 b3) (by decide +kernel)⟩ fun G3 H3 d e3 lw hd => ?_⟩
          have hd : TI G3 d (q1 / q2).num (q1 / q2).den := by
            have hd : TI G3 d (low 0 (q1.num * q2.den) (q1.den * q2.num)).1 (low 0 (q1.num * q2.den) (q1.den * q2.num)).2 := hd
            rw [low0, q_div h] at hd
            exact hd
          exact call_is lw (nx.ex e3) hd fun G4 H4 e4 lw => ⟨true, rfl, iteF (kk _ _ ⟨G4, _, rfl, lw, e3.trans e4⟩)⟩
        · exact absurd (num0.mpr z) h
    obtain ⟨G3, v, rfl, lw, e3⟩ := hp
    have e13 := e12.trans e3
    have ha := ha.ex (e2.trans e3)
    refine seq_rest (fun σ' H' => ∃ G4 t, σ' = [some (.ref t1), some (.ref t2), some a, some v, some (.ref t), none, none] ∧ Lw H G none [] G4 H' ∧ Ex G3 G4 ∧ G4 t = some (.tup [.int q1.num, .int q1.den])) (fun σ' H' hp => ?_) (fun kk => ?_)
    rotate_left
    · refine ⟨_, rfl, q1, call_pure lw ⟨a, rfl, ha⟩ fun G4 H4 v4 e4 lw hv4 => ?_⟩
      obtain ⟨t, rfl, ht⟩ := hv4
      exact kk _ _ ⟨G4, t, rfl, lw, e4, ht⟩
    obtain ⟨G4, t, rfl, lw, e4, ht⟩ := hp
    refine seq_rest (fun σ' H' => ∃ G5, σ' = [some (.ref t1), some (.ref t2), some a, some v, some (.ref t), none, none] ∧ Lw H G none [] G5 H' ∧ Ex G4 G5) (fun σ' H' hp => ?_) (fun kk => ?_)
    rotate_left
    · refine ⟨_, rfl, .ref t, .ty "tuple", .type "tuple", .type "tuple", true, rfl, .ty _, .base (.tup (lw.gh _ _ ht)), kit_ty rfl, true, rfl, iteF ⟨_, rfl, t, _, rfl, .inr (SqT.g lw ht), rfl, _, rfl, iteF ?_⟩⟩
      refine ⟨_, rfl, t, rfl, ⟨_, SqT.g lw ht⟩, fun D hD => lc_trueT lw hD ht (by show 2 < 100000; decide) (fun i x G' H' acc hi e lw hac Nx nx => ?_) (fun G5 H5 e5 lw hD => ?_)⟩
      · obtain ⟨n, rfl⟩ : ∃ n, x = .int n := by
          match i, hi with
          | 0, hi => exact ⟨_, (Option.some.inj hi).symm⟩
          | 1, hi => exact ⟨_, (Option.some.inj hi).symm⟩
          | i + 2, hi => simp at hi
        have il : i < 2 := (List.getElem?_eq_some_iff.mp hi).1
        exact ⟨rfl, _, rfl, _, rfl, _, lw.at, Evl.sz_lt (by rw [hac]; omega), nx _ _ (Evl.Ex.refl _) lw.put⟩
      · refine ⟨D, _, rfl, SqL.g lw hD, ?_⟩
        rw [all_true]
        exact ⟨true, rfl, iteF (kk _ _ ⟨G5, rfl, lw, e5⟩)⟩
    obtain ⟨G5, rfl, lw, e5⟩ := hp
    have e35 := e4.trans e5
    have ha := ha.ex e35
    refine seq_rest (fun σ' H' => ∃ G6, σ' = [some (.ref t1), some (.ref t2), some a, some v, some (.ref t), some (.str (S (numT q1))), none] ∧ Lw H G none [] G6 H' ∧ Ex G5 G6) (fun σ' H' hp => ?_) (fun kk => ?_)
    rotate_left
    · refine ⟨_, rfl, q1, call_pure lw ⟨a, rfl, ha, W1⟩ fun G6 H6 v6 e6 lw hv6 => ?_⟩
      subst hv6
      exact kk _ _ ⟨G6, rfl, lw, e6⟩
    obtain ⟨G6, rfl, lw, e6⟩ := hp
    have x6 := (e13.trans e35).trans e6
    refine seq_rest (fun σ' H' => ∃ G7, σ' = [some (.ref t1), some (.ref t2), some a, some v, some (.ref t), some (.str (S (numT q1))), none] ∧ Lw H G none [] G7 H' ∧ Ex G6 G7) (fun σ' H' hp => ?_) (fun kk => ?_)
    rotate_left
    · refine ⟨_, rfl, _, rfl, .tuple ([q1.num, (q1.den : Int)].map PyData.int), .tuple ([q1.num, (q1.den : Int)].map PyData.int), Rp.up lw (Rp.tupI (e6 _ _ (e5 _ _ ht))), Rp.up lw (Rp.tupI (x6 _ _ h1)), UfG.shaped_tupI _, UfG.shaped_tupI _, ?_⟩
      rw [eqv_tupI, decide_eq_true rfl]
      refine ⟨_, rfl, iteF ⟨_, rfl, .str (S (numT q1)), .ty "str", .type "str", .type "str", true, rfl, .ty _, .base (.str _), kit_ty rfl, true, rfl, iteF ⟨_, rfl, _, rfl, call_text lw (hx.ex x6) W1 fun G7 H7 e7 lw => ⟨rfl, _, rfl, ?_⟩⟩⟩⟩
      rw [decide_eq_true rfl]
      exact iteF (kk _ _ ⟨G7, rfl, lw, e7⟩)
    obtain ⟨G7, rfl, lw, e7⟩ := hp
    have x7 := x6.trans e7
    refine ⟨_, rfl, t1, _, 1, _, rfl, rfl, SqT.g lw (x7 _ _ h1), rfl, rfl, _, rfl, ite2 (fun h => ?_) (fun h => ?_)⟩
    · exact k _ _ _ lw rfl
    · have h : q1.den ≠ 1 := fun z => h (by rw [z]; rfl)
      rcases ha.ex (e6.trans e7) with ⟨z, _⟩ | ⟨_, c, rfl, dx, hc⟩
      · exact absurd z h
      · refine ⟨_, rfl, .inr ⟨c, dx, _, rfl, lw.gh _ _ hc, q1, call_pure lw ⟨c, rfl, ⟨dx, hc⟩, h, W1⟩ fun G8 H8 v8 e8 lw hv8 => ⟨_, hv8, ?_⟩⟩⟩
        subst hv8
        refine ⟨_, rfl, call_text lw (hx.ex (x7.trans e8)) W1 fun G9 H9 e9 lw => ⟨rfl, k _ _ _ lw ?_⟩⟩
        rw [decide_eq_true rfl]
end
end K01

namespace K01
open PySem PySem.Spec PyProof.Rows L2 UfG UfT UfR UfO UfI UfQ UfN SX UfX UfD
open Evl (Ex)
section
variable {P : Program} {w : World} {K : PySem.W.Frag} {mg : Str → Option Value} {base : Heap}
/-! ### draws: _law_whole, _law_numbers, _law_count -/
theorem sc_whole : FnScope ["pool", "pick", "value"] ["pool"] (defScope s_whole) := ⟨rfl, rfl, rfl, by decide +kernel, rfl, by decide +kernel, by decide +kernel⟩
def sp_whole : Sp := PoolSp 3 (fun ws _ => ws = []) (fun _ _ _ v => ∃ i : Int, v = .int i ∧ i.natAbs < 10 ^ 30)
theorem ok_whole (T : Tx K mg) : FnOk P w K mg base CX0 3 T.whole.f T.whole.fd ["pool"] sp_whole := by
  refine T.whole.F.ok sc_whole (fun vs H Q E h => ?_) (fun cdv A outer s H vs Q E hr h => ?_)
  · obtain ⟨G, a, c, n, ws, rfl, _, _, rfl, _⟩ := h
    rfl
  · obtain ⟨G, a, c, n, ws, rfl, lw, hn, rfl, k⟩ := h
    refine ⟨_, (pss_cons (ps_set (i := 1) sc_whole.nd rfl (.inl rfl) (pe_call (ok_draw T) (hr.mono (by decide)) (by rfl) T.draw.g T.draw.F.kp T.draw.b .nil pass0 (pa_cons (pv 0) (pa_cons pe_int pa_nil))))
      (pss_cons (ps_if (pt_cmpR op_lt (pv 1) pe_int (nomark _)) (pss_one (ps_ret (pe_ix (UfK.ix_tupK (K := K)) (pe_tup (pa_cons pe_int (pa_cons pe_int (pa_cons (pe_un un_neg pe_int) (pa_cons (pe_op op_sub (pe_op op_pow pe_int pe_int) pe_int) pa_nil))))) (pv 1) (fun _ _ => rfl)))) pss_nil)
      (pss_cons (ps_set (i := 2) sc_whole.nd rfl (.inl rfl) (pe_call (ok_draw T) (hr.mono (by decide)) (by rfl) T.draw.g T.draw.F.kp T.draw.b .nil pass0 (pa_cons (pv 0) (pa_cons (pe_ix (UfK.ix_tupK (K := K)) (pe_tup (pa_cons pe_int (pa_cons pe_int (pa_cons (pe_op op_pow pe_int pe_int) (pa_cons (pe_op op_pow pe_int pe_int) pa_nil))))) (pe_op op_sub (pv 1) pe_int) (fun _ _ => rfl)) pa_nil))))
      (pss_cons (ps_if (pt_cmpR op_eq (pe_call (ok_draw T) (hr.mono (by decide)) (by rfl) T.draw.g T.draw.F.kp T.draw.b .nil pass0 (pa_cons (pv 0) (pa_cons pe_int pa_nil))) pe_int (nomark _)) (pss_one (ps_ret (pe_un un_neg (pv 2)))) pss_nil)
      (pss_one (ps_ret (pv 2))))))), ?_⟩
    refine ⟨_, rfl, call_draw lw (by decide) (by decide) (by omega) fun G1 H1 d e1 lw d0 d1 => ?_⟩
    obtain ⟨pn, rfl⟩ := Int.eq_ofNat_of_zero_le d0
    refine ⟨_, rfl, _, _, rfl, rfl, _, rfl, ite2 (fun h => ?_) (fun h => ?_)⟩
    · have hp : pn < 4 := by
        have := of_decide_eq_true h
        omega
      refine ⟨_, rfl, _, _, rfl, rfl, pow_small (by decide) (by decide), _, _, rfl, rfl, (by show 4 ≤ sizeLine; decide), fun t nt => ?_⟩
      obtain ⟨z, hz, hb⟩ : ∃ z : Int, ([V.int 0, V.int 1, V.int (-1), V.int ((10 : Int) ^ (30 : Int).toNat - 1)] : List V)[pn]? = some (.int z) ∧ z.natAbs < 10 ^ 30 := by
        match pn, hp with
        | 0, _ => exact ⟨0, rfl, by decide +kernel⟩
        | 1, _ => exact ⟨1, rfl, by decide +kernel⟩
        | 2, _ => exact ⟨-1, rfl, by decide +kernel⟩
        | 3, _ => exact ⟨_, rfl, by decide +kernel⟩
      obtain ⟨G2, e2, lw, h2⟩ := lw.allocE (o := .tup [V.int 0, V.int 1, V.int (-1), V.int ((10 : Int) ^ (30 : Int).toNat - 1)]) nt
      exact ⟨_, rfl, t, _, _, _, rfl, rfl, SqT.g lw h2, atI_nat hz, k _ _ _ (lw.more (by omega)) ⟨z, rfl, hb⟩⟩
    · have hp : ¬ pn < 4 := fun z => h (decide_eq_true (by omega))
      obtain ⟨m, rfl⟩ : ∃ m, pn = m + 4 := ⟨pn - 4, by omega⟩
      have hm : m < 4 := by omega
      refine ⟨_, rfl, _, _, rfl, rfl, pow_small (by decide) (by decide), _, _, rfl, rfl, pow_small (by decide) (by decide), (by show 4 ≤ sizeLine; decide), fun t nt => ?_⟩
      obtain ⟨z, hz, z0, z1⟩ : ∃ z : Int, ([V.int 10, V.int 100, V.int ((10 : Int) ^ (6 : Int).toNat), V.int ((10 : Int) ^ (30 : Int).toNat)] : List V)[m]? = some (.int z) ∧ 0 < z ∧ z ≤ 10 ^ 30 := by
        match m, hm with
        | 0, _ => exact ⟨10, rfl, by decide, by decide +kernel⟩
        | 1, _ => exact ⟨100, rfl, by decide, by decide +kernel⟩
        | 2, _ => exact ⟨_, rfl, by decide +kernel, by decide +kernel⟩
        | 3, _ => exact ⟨_, rfl, by decide +kernel, by decide +kernel⟩
      obtain ⟨G2, e2, lw, h2⟩ := lw.allocE (o := .tup [V.int 10, V.int 100, V.int ((10 : Int) ^ (6 : Int).toNat), V.int ((10 : Int) ^ (30 : Int).toNat)]) nt
      have hz' : atI ([V.int 10, V.int 100, V.int ((10 : Int) ^ (6 : Int).toNat), V.int ((10 : Int) ^ (30 : Int).toNat)] : List V) (((m + 4 : Nat) : Int) - 4) = some (.int z) := by
        rw [show (((m + 4 : Nat) : Int) - 4) = (m : Int) by omega]
        exact atI_nat hz
      have z2 : (10 : Int) ^ 30 < 2 ^ 200 := by decide +kernel
      refine ⟨_, rfl, _, _, rfl, rfl, t, _, _, _, rfl, rfl, SqT.g lw h2, hz', call_draw lw z0 (by omega) (by omega) fun G3 H3 d e3 lw d0 d1 => ?_⟩
      have db : d.natAbs < 10 ^ 30 := by
        have z3 : (10 : Int) ^ 30 = ((10 ^ 30 : Nat) : Int) := by decide +kernel
        rw [z3] at z1
        omega
      refine ⟨_, rfl, call_draw lw (by decide) (by decide) (by omega) fun G4 H4 d2 e4 lw d20 d21 => ⟨rfl, _, rfl, ite2 (fun _ => ?_) (fun _ => ?_)⟩⟩
      · exact ⟨_, rfl, _, rfl, k _ _ _ (lw.more (by omega)) ⟨-d, rfl, by rw [Int.natAbs_neg]; exact db⟩⟩
      · exact ⟨_, rfl, k _ _ _ (lw.more (by omega)) ⟨d, rfl, db⟩⟩
theorem call_whole {H0 G0 G H : Hp} {ls : List (Addr × HO)} {a c : Addr} {n : Nat} {Q : VK} (lw : Lw H0 G0 (some (a, c, n)) ls G H) (hn : n + 3 ≤ 1000000) (k : ∀ G' H' i, Ex G G' → Lw H0 G0 (some (a, c, n + 3)) ls G' H' → i.natAbs < 10 ^ 30 → Q (.int i) H') : sp_whole [.ref a] H Q E0 :=
  call_pool lw hn rfl fun G' H' v e l ⟨i, hv, hi⟩ => by
    subst hv
    exact k G' H' i e l hi
theorem sc_count : FnScope ["pool", "pick"] ["pool"] (defScope s_count) := ⟨rfl, rfl, rfl, by decide +kernel, rfl, by decide +kernel, by decide +kernel⟩
def sp_count : Sp := PoolSp 2 (fun ws _ => ws = []) (fun _ _ _ v => ∃ i : Int, v = .int i ∧ -2 ≤ i ∧ i ≤ 103)
theorem ok_count (T : Tx K mg) : FnOk P w K mg base CX0 3 T.count.f T.count.fd ["pool"] sp_count := by
  refine T.count.F.ok sc_count (fun vs H Q E h => ?_) (fun cdv A outer s H vs Q E hr h => ?_)
  · obtain ⟨G, a, c, n, ws, rfl, _, _, rfl, _⟩ := h
    rfl
  · obtain ⟨G, a, c, n, ws, rfl, lw, hn, rfl, k⟩ := h
    refine ⟨_, (pss_cons (ps_set (i := 1) sc_count.nd rfl (.inl rfl) (pe_call (ok_draw T) (hr.mono (by decide)) (by rfl) T.draw.g T.draw.F.kp T.draw.b .nil pass0 (pa_cons (pv 0) (pa_cons pe_int pa_nil))))
      (pss_cons (ps_if (pt_cmpR op_lt (pv 1) pe_int (nomark _)) (pss_one (ps_ret (pe_ix (UfK.ix_tupK (K := K)) (pe_tup (pa_cons pe_int (pa_cons pe_int (pa_cons pe_int (pa_cons pe_int (pa_cons pe_int (pa_cons (pe_un un_neg pe_int) pa_nil))))))) (pv 1) (fun _ _ => rfl)))) pss_nil)
      (pss_one (ps_ret (pe_op op_sub (pe_call (ok_draw T) (hr.mono (by decide)) (by rfl) T.draw.g T.draw.F.kp T.draw.b .nil pass0 (pa_cons (pv 0) (pa_cons pe_int pa_nil))) pe_int))))), ?_⟩
    refine ⟨_, rfl, call_draw lw (by decide) (by decide) (by omega) fun G1 H1 d e1 lw d0 d1 => ?_⟩
    obtain ⟨pn, rfl⟩ := Int.eq_ofNat_of_zero_le d0
    refine ⟨_, rfl, _, _, rfl, rfl, _, rfl, ite2 (fun h => ?_) (fun h => ?_)⟩
    · have hp : pn < 6 := by
        have := of_decide_eq_true h
        omega
      refine ⟨_, rfl, (by show 6 ≤ sizeLine; decide), fun t nt => ?_⟩
      obtain ⟨z, hz, hb⟩ : ∃ z : Int, ([V.int 0, V.int 1, V.int 2, V.int 100, V.int 101, V.int (-1)] : List V)[pn]? = some (.int z) ∧ -2 ≤ z ∧ z ≤ 103 := by
        match pn, hp with
        | 0, _ => exact ⟨0, rfl, by decide +kernel⟩
        | 1, _ => exact ⟨1, rfl, by decide +kernel⟩
        | 2, _ => exact ⟨2, rfl, by decide +kernel⟩
        | 3, _ => exact ⟨100, rfl, by decide +kernel⟩
        | 4, _ => exact ⟨101, rfl, by decide +kernel⟩
        | 5, _ => exact ⟨-1, rfl, by decide +kernel⟩
      obtain ⟨G2, e2, lw, h2⟩ := lw.allocE (o := .tup [V.int 0, V.int 1, V.int 2, V.int 100, V.int 101, V.int (-1)]) nt
      exact ⟨_, rfl, t, _, _, _, rfl, rfl, SqT.g lw h2, atI_nat hz, k _ _ _ (lw.more (by omega)) ⟨z, rfl, hb⟩⟩
    · refine ⟨_, rfl, call_draw lw (by decide) (by decide) (by omega) fun G2 H2 d2 e2 lw d20 d21 => ?_⟩
      exact ⟨_, _, rfl, rfl, k _ _ _ lw ⟨_, rfl, by omega, by omega⟩⟩
theorem lw_swap {H0 G0 G H : Hp} {p : Option (Addr × Addr × Nat)} {ls : List (Addr × HO)} {x y : Addr × HO} (lw : Lw H0 G0 p (x :: y :: ls) G H) : Lw H0 G0 p (y :: x :: ls) G H := by
  refine ⟨lw.gh, lw.g0, lw.old, lw.new, lw.pool, fun q hq => lw.loc q ?_, ?_⟩
  · simp only [List.mem_cons] at hq ⊢
    rcases hq with h | h | h
    · exact .inr (.inl h)
    · exact .inl h
    · exact .inr (.inr h)
  · have nd := lw.nd
    simp only [List.map_cons, List.nodup_cons, List.mem_cons, not_or] at nd ⊢
    exact ⟨⟨fun e => nd.1.1 e.symm, nd.2.1⟩, nd.1.2, nd.2.2⟩
theorem sc_l_numbers : FnScope ["pool", "first", "second", "kind"] ["pool"] (defScope s_l_numbers) := ⟨rfl, rfl, rfl, by decide +kernel, rfl, by decide +kernel, by decide +kernel⟩
/-- two pairs, the second of each not 0 -/
def TwoAt (G : Hp) (v : V) (n1 d1 n2 d2 : Int) : Prop := ∃ r A B, v = .ref r ∧ G r = some (.lst [.ref A, .ref B]) ∧ G A = some (.lst [.int n1, .int d1]) ∧ G B = some (.lst [.int n2, .int d2])
def sp_l_numbers : Sp := PoolSp 13 (fun ws _ => ws = []) (fun _ _ G' v => ∃ n1 d1 n2 d2 : Int, TwoAt G' v n1 d1 n2 d2 ∧ d1 ≠ 0 ∧ d2 ≠ 0 ∧ n1.natAbs < 10 ^ 30 ∧ d1.natAbs < 10 ^ 30 ∧ n2.natAbs < 10 ^ 30 ∧ d2.natAbs < 10 ^ 30)
theorem ok_l_numbers (T : Tx K mg) : FnOk P w K mg base CX0 4 T.l_numbers.f T.l_numbers.fd ["pool"] sp_l_numbers := by
  refine T.l_numbers.F.ok sc_l_numbers (fun vs H Q E h => ?_) (fun cdv A outer s H vs Q E hr h => ?_)
  · obtain ⟨G, a, c, n, ws, rfl, _, _, rfl, _⟩ := h
    rfl
  · obtain ⟨G, a, c, n, ws, rfl, lw, hn, rfl, k⟩ := h
    refine ⟨_, (pss_cons (ps_set (i := 1) sc_l_numbers.nd rfl (.inl rfl) (pe_lst (pa_cons (pe_call (ok_whole T) (hr.mono (by decide)) (by rfl) T.whole.g T.whole.F.kp T.whole.b .nil pass0 (pa_cons (pv 0) pa_nil)) (pa_cons (pe_call (ok_whole T) (hr.mono (by decide)) (by rfl) T.whole.g T.whole.F.kp T.whole.b .nil pass0 (pa_cons (pv 0) pa_nil)) pa_nil))))
      (pss_cons (ps_set (i := 2) sc_l_numbers.nd rfl (.inl rfl) (pe_lst (pa_cons (pe_call (ok_whole T) (hr.mono (by decide)) (by rfl) T.whole.g T.whole.F.kp T.whole.b .nil pass0 (pa_cons (pv 0) pa_nil)) (pa_cons (pe_call (ok_whole T) (hr.mono (by decide)) (by rfl) T.whole.g T.whole.F.kp T.whole.b .nil pass0 (pa_cons (pv 0) pa_nil)) pa_nil))))
      (pss_cons (ps_if (pt_cmpR op_eq (pe_ix (UfK.ix_listK (K := K)) (pv 1) pe_int (fun _ _ => rfl)) pe_int (nomark _)) (pss_one (ps_asg pe_int (pg_sub (pv 1) pe_int set_list))) pss_nil)
      (pss_cons (ps_if (pt_cmpR op_eq (pe_ix (UfK.ix_listK (K := K)) (pv 2) pe_int (fun _ _ => rfl)) pe_int (nomark _)) (pss_one (ps_asg pe_int (pg_sub (pv 2) pe_int set_list))) pss_nil)
      (pss_cons (ps_set (i := 3) sc_l_numbers.nd rfl (.inl rfl) (pe_call (ok_draw T) (hr.mono (by decide)) (by rfl) T.draw.g T.draw.F.kp T.draw.b .nil pass0 (pa_cons (pv 0) (pa_cons pe_int pa_nil))))
      (pss_cons (ps_if (pt_cmpR op_eq (pv 3) pe_int (nomark _)) (pss_one (ps_set (i := 2) sc_l_numbers.nd rfl (.inl rfl) (pe_lst (pa_cons (pe_ix (UfK.ix_listK (K := K)) (pv 1) pe_int (fun _ _ => rfl)) (pa_cons (pe_ix (UfK.ix_listK (K := K)) (pv 1) pe_int (fun _ _ => rfl)) pa_nil))))) (pss_one (ps_if (pt_cmpR op_eq (pv 3) pe_int (nomark _)) (pss_one (ps_set (i := 2) sc_l_numbers.nd rfl (.inl rfl) (pe_lst (pa_cons (pe_un un_neg (pe_ix (UfK.ix_listK (K := K)) (pv 1) pe_int (fun _ _ => rfl))) (pa_cons (pe_ix (UfK.ix_listK (K := K)) (pv 1) pe_int (fun _ _ => rfl)) pa_nil))))) (pss_one (ps_if (PW.pt (pw_and (pt_cmpR op_eq (pv 3) pe_int (nomark _)) (pw_and1 (pt_cmpR op_ne (pe_ix (UfK.ix_listK (K := K)) (pv 1) pe_int (fun _ _ => rfl)) pe_int (nomark _))))) (pss_one (ps_set (i := 2) sc_l_numbers.nd rfl (.inl rfl) (pe_lst (pa_cons (pe_ix (UfK.ix_listK (K := K)) (pv 1) pe_int (fun _ _ => rfl)) (pa_cons (pe_ix (UfK.ix_listK (K := K)) (pv 1) pe_int (fun _ _ => rfl)) pa_nil))))) (pss_one (ps_if (pt_cmpR op_eq (pv 3) pe_int (nomark _)) (pss_one (ps_set (i := 2) sc_l_numbers.nd rfl (.inl rfl) (pe_lst (pa_cons (pe_ix (UfK.ix_listK (K := K)) (pv 2) pe_int (fun _ _ => rfl)) (pa_cons (pe_ix (UfK.ix_listK (K := K)) (pv 1) pe_int (fun _ _ => rfl)) pa_nil))))) pss_nil)))))))
      (pss_one (ps_ret (pe_lst (pa_cons (pv 1) (pa_cons (pv 2) pa_nil))))))))))), ?_⟩
    refine seq_rest (fun σ' H' => ∃ (G1 : Hp) (A : Addr) (n1 d1 : Int), σ' = [some (.ref a), some (.ref A), none, none] ∧ Lw H G (some (a, c, n + 6)) [(A, .lst [.int n1, .int d1])] G1 H' ∧ n1.natAbs < 10 ^ 30 ∧ d1.natAbs < 10 ^ 30) (fun σ' H' hp => ?_) (fun kk => ?_)
    rotate_left
    · refine ⟨_, rfl, call_whole lw (by omega) fun G1 H1 n1 e1 lw n1b => ⟨_, rfl, call_whole lw (by omega) fun G2 H2 d1 e2 lw d1b => ⟨(by show 2 ≤ sizeLine; decide), fun A hA => ?_⟩⟩⟩
      exact kk _ _ ⟨G2, A, n1, d1, rfl, lw.make hA, n1b, d1b⟩
    obtain ⟨G1, A, n1, d1, rfl, lw, n1b, d1b⟩ := hp
    refine seq_rest (fun σ' H' => ∃ (G2 : Hp) (B : Addr) (n2 d2 : Int), σ' = [some (.ref a), some (.ref A), some (.ref B), none] ∧ Lw H G (some (a, c, n + 12)) [(B, .lst [.int n2, .int d2]), (A, .lst [.int n1, .int d1])] G2 H' ∧ n2.natAbs < 10 ^ 30 ∧ d2.natAbs < 10 ^ 30) (fun σ' H' hp => ?_) (fun kk => ?_)
    rotate_left
    · refine ⟨_, rfl, call_whole lw (by omega) fun G1 H1 n1 e1 lw n1b => ⟨_, rfl, call_whole lw (by omega) fun G2 H2 d1 e2 lw d1b => ⟨(by show 2 ≤ sizeLine; decide), fun A hA => ?_⟩⟩⟩
      exact kk _ _ ⟨G2, A, n1, d1, rfl, lw.make hA, n1b, d1b⟩
    obtain ⟨G2, B, n2, d2, rfl, lw, n2b, d2b⟩ := hp
    refine seq_rest (fun σ' H' => ∃ (d1' : Int), σ' = [some (.ref a), some (.ref A), some (.ref B), none] ∧ Lw H G (some (a, c, n + 12)) [(B, .lst [.int n2, .int d2]), (A, .lst [.int n1, .int d1'])] G2 H' ∧ d1' ≠ 0 ∧ d1'.natAbs < 10 ^ 30) (fun σ' H' hp => ?_) (fun kk => ?_)
    rotate_left
    · refine ⟨_, rfl, A, _, 1, _, rfl, rfl, SqL.of lw.at2, rfl, rfl, _, rfl, ite2 (fun h => ?_) (fun h => ?_)⟩
      · exact ⟨_, rfl, A, _, 1, 1, rfl, rfl, lw.at2, rfl, kk _ _ ⟨6, rfl, (lw_swap (lw_swap lw).put), by decide, by decide +kernel⟩⟩
      · exact kk _ _ ⟨d1, rfl, lw, by simpa using h, d1b⟩
    obtain ⟨d1', rfl, lw, d10, d1b⟩ := hp
    refine seq_rest (fun σ' H' => ∃ (d2' : Int) (G3 : Hp), σ' = [some (.ref a), some (.ref A), some (.ref B), none] ∧ Lw H G (some (a, c, n + 12)) [] G3 H' ∧ G3 A = some (.lst [.int n1, .int d1']) ∧ G3 B = some (.lst [.int n2, .int d2']) ∧ d2' ≠ 0 ∧ d2'.natAbs < 10 ^ 30) (fun σ' H' hp => ?_) (fun kk => ?_)
    rotate_left
    · have fin : ∀ (x : Int) (H3 : Hp), Lw H G (some (a, c, n + 12)) [(B, .lst [.int n2, .int x]), (A, .lst [.int n1, .int d1'])] G2 H3 → ∃ G3, Lw H G (some (a, c, n + 12)) [] G3 H3 ∧ G3 A = some (.lst [.int n1, .int d1']) ∧ G3 B = some (.lst [.int n2, .int x]) := fun x H3 lw => by
        obtain ⟨lw, e⟩ := lw.keep
        obtain ⟨lw, e2⟩ := lw.keep
        exact ⟨_, lw, upd_same, e2 _ _ upd_same⟩
      refine ⟨_, rfl, B, _, 1, _, rfl, rfl, SqL.of lw.at, rfl, rfl, _, rfl, ite2 (fun h => ?_) (fun h => ?_)⟩
      · refine ⟨_, rfl, B, _, 1, 1, rfl, rfl, lw.at, rfl, ?_⟩
        obtain ⟨G3, l3, hA, hB⟩ := fin 4 _ lw.put
        exact kk _ _ ⟨4, G3, rfl, l3, hA, hB, by decide, by decide +kernel⟩
      · obtain ⟨G3, l3, hA, hB⟩ := fin d2 _ lw
        exact kk _ _ ⟨d2, G3, rfl, l3, hA, hB, by simpa using h, d2b⟩
    obtain ⟨d2', G3, rfl, lw, hA, hB, d20, d2b⟩ := hp
    refine seq_rest (fun σ' H' => ∃ (G4 : Hp) (x : Int), σ' = [some (.ref a), some (.ref A), some (.ref B), some (.int x)] ∧ Lw H G (some (a, c, n + 13)) [] G4 H' ∧ Ex G3 G4) (fun σ' H' hp => ?_) (fun kk => ?_)
    rotate_left
    · exact ⟨_, rfl, call_draw lw (by decide) (by decide) (by omega) fun G4 H4 x e4 lw x0 x1 => kk _ _ ⟨G4, x, rfl, lw, e4⟩⟩
    obtain ⟨G4, x, rfl, lw, e4⟩ := hp
    have hA := e4 _ _ hA
    have hB := e4 _ _ hB
    refine seq_rest (fun σ' H' => ∃ (G5 : Hp) (B' : Addr) (n2 d2 : Int), σ' = [some (.ref a), some (.ref A), some (.ref B'), some (.int x)] ∧ Lw H G (some (a, c, n + 13)) [] G5 H' ∧ Ex G4 G5 ∧ G5 B' = some (.lst [.int n2, .int d2]) ∧ d2 ≠ 0 ∧ n2.natAbs < 10 ^ 30 ∧ d2.natAbs < 10 ^ 30) (fun σ' H' hp => ?_) (fun kk => ?_)
    · obtain ⟨G5, B', m2, f2, rfl, lw, e5, hB', f20, m2b, f2b⟩ := hp
      refine ⟨_, rfl, _, rfl, (by show 2 ≤ sizeLine; decide), fun t nt => ?_⟩
      obtain ⟨G6, e6, lw, h6⟩ := lw.allocE (o := .lst [.ref A, .ref B']) nt
      exact k _ _ _ lw ⟨n1, d1', m2, f2, ⟨t, A, B', rfl, h6, e6 _ _ (e5 _ _ hA), e6 _ _ hB'⟩, d10, f20, n1b, d1b, m2b, f2b⟩
    · have mk : ∀ (i j : Int) (t : Addr) (nt : H' t = none), j ≠ 0 → i.natAbs < 10 ^ 30 → j.natAbs < 10 ^ 30 → tRet (tLst (tCons (tVar 1) (tCons (tVar 2) tNil))) { nx := fun x H' => Q V.non H', rt := Q } [some (.ref a), some (.ref A), some (.ref t), some (.int x)] (upd H' t (.lst [.int i, .int j])) := fun i j t nt j0 ib jb => by
        obtain ⟨G5, e5, lw, h5⟩ := lw.allocE (o := .lst [.int i, .int j]) nt
        exact kk _ _ ⟨G5, t, i, j, rfl, lw, e5, h5, j0, ib, jb⟩
      refine ⟨_, rfl, rfl, _, rfl, ite2 (fun h => ?_) (fun h => ?_)⟩
      · exact ⟨_, rfl, A, _, 0, _, rfl, rfl, SqL.g lw hA, rfl, _, rfl, A, _, 1, _, rfl, rfl, SqL.g lw hA, rfl, (by show 2 ≤ sizeLine; decide), fun t nt => mk n1 d1' t nt d10 n1b d1b⟩
      refine ⟨_, rfl, rfl, _, rfl, ite2 (fun h => ?_) (fun h => ?_)⟩
      · exact ⟨_, rfl, A, _, 0, _, rfl, rfl, SqL.g lw hA, rfl, _, rfl, _, rfl, A, _, 1, _, rfl, rfl, SqL.g lw hA, rfl, (by show 2 ≤ sizeLine; decide), fun t nt => mk (-n1) d1' t nt d10 (by rw [Int.natAbs_neg]; exact n1b) d1b⟩
      have last : tIfS (tTest (tOp rEq (tVar 3) (tC (V.int 3)))) (tAsg (tLst (tCons (tOp (rIxL K) (tVar 2) (tC (V.int 0))) (tCons (tOp (rIxL K) (tVar 1) (tC (V.int 1))) tNil))) (gName 2)) tNext
          { nx := tRet (tLst (tCons (tVar 1) (tCons (tVar 2) tNil))) { nx := fun x H' => Q V.non H', rt := Q }, rt := Q } [some (.ref a), some (.ref A), some (.ref B), some (.int x)] H' := by
        refine ⟨_, rfl, rfl, _, rfl, ite2 (fun h => ?_) (fun h => ?_)⟩
        · exact ⟨_, rfl, B, _, 0, _, rfl, rfl, SqL.g lw hB, rfl, _, rfl, A, _, 1, _, rfl, rfl, SqL.g lw hA, rfl, (by show 2 ≤ sizeLine; decide), fun t nt => mk n2 d1' t nt d10 n2b d1b⟩
        · exact kk _ _ ⟨G4, B, n2, d2', rfl, lw, Evl.Ex.refl _, hB, d20, n2b, d2b⟩
      refine ⟨_, rfl, rfl, _, rfl, and2 (fun h rest => ⟨_, rfl, A, _, 0, _, rfl, rfl, SqL.g lw hA, rfl, rfl, _, rfl, ite2 (fun h2 => ?_) (fun _ => rest)⟩) ?_⟩
      · have h2 : n1 ≠ 0 := by simpa using h2
        exact ⟨_, rfl, A, _, 1, _, rfl, rfl, SqL.g lw hA, rfl, _, rfl, A, _, 0, _, rfl, rfl, SqL.g lw hA, rfl, (by show 2 ≤ sizeLine; decide), fun t nt => mk d1' n1 t nt h2 d1b n1b⟩
      · exact last
end
end K01

namespace K01
open PySem PySem.Spec PyProof.Rows L2 UfG UfT UfR UfO UfI UfQ UfN SX UfX UfD
open Evl (Ex)
section
variable {P : Program} {w : World} {K : PySem.W.Frag} {mg : Str → Option Value} {base : Heap}
/-! ### _law_spoiled, _law_texts -/
/-- signs below 128 -/
def low7 (l : List Nat) : Prop := ∀ c ∈ l, c < 128
theorem low7_app {a b : List Nat} (ha : low7 a) (hb : low7 b) : low7 (a ++ b) := fun c h => (List.mem_append.mp h).elim (ha c) (hb c)
theorem low7_num (n : Nat) : low7 (TL.numL n) := fun c h => by
  have := TL.numL_digits n c h
  omega
theorem low7_numT (q : Rat) : low7 (numT q) := by
  unfold numT intL
  refine low7_app (low7_app ?_ (low7_num _)) ?_
  · split
    · intro c h
      simp at h
      omega
    · intro c h
      cases h
  · split
    · intro c h
      cases h
    · intro c h
      rcases List.mem_cons.mp h with h | h
      · omega
      · exact low7_num _ c h
theorem at_str {z : Str} {i : Int} (h0 : 0 ≤ i) (h1 : i < (z.cps.toList.length : Int)) : ∃ c, atI z.cps.toList i = some c ∧ c ∈ z.cps.toList := by
  obtain ⟨m, rfl⟩ := Int.eq_ofNat_of_zero_le h0
  have hm : m < z.cps.toList.length := by omega
  exact ⟨_, atI_nat (List.getElem?_eq_getElem hm), List.getElem_mem hm⟩
theorem sc_spoiled : FnScope ["pool", "text", "signs", "pick", "sign", "place", "way"] ["pool", "text"] (defScope s_spoiled) := ⟨rfl, rfl, rfl, by decide +kernel, rfl, by decide +kernel, by decide +kernel⟩
def sp_spoiled : Sp := PoolSp 4 (fun ws _ => ∃ l : List Nat, ws = [.str (S l)] ∧ l.length ≤ 2000 ∧ low7 l) (fun _ _ _ v => ∃ l : List Nat, v = .str (S l) ∧ l.length ≤ 2001 ∧ low7 l)
theorem ok_spoiled (T : Tx K mg) : FnOk P w K mg base CX0 3 T.spoiled.f T.spoiled.fd ["pool", "text"] sp_spoiled := by
  refine T.spoiled.F.ok sc_spoiled (fun vs H Q E h => ?_) (fun cdv A outer s H vs Q E hr h => ?_)
  · obtain ⟨G, a, c, n, ws, rfl, _, _, ⟨l, rfl, _⟩, _⟩ := h
    rfl
  · obtain ⟨G, a, c, n, ws, rfl, lw, hn, ⟨l, rfl, lz, l7⟩, k⟩ := h
    refine ⟨_, (pss_cons (ps_set (i := 2) sc_spoiled.nd rfl (.inl rfl) pe_str)
      (pss_cons (ps_set (i := 2) sc_spoiled.nd rfl (.inl rfl) (pe_op op_add_str (pv 2) pe_str))
      (pss_cons (ps_set (i := 3) sc_spoiled.nd rfl (.inl rfl) (pe_call (ok_draw T) (hr.mono (by decide)) (by rfl) T.draw.g T.draw.F.kp T.draw.b .nil pass0 (pa_cons (pv 0) (pa_cons pe_int pa_nil))))
      (pss_cons (ps_set (i := 4) sc_spoiled.nd rfl (.inl rfl) (pe_ix ix_str pe_str (pe_op op_modN (pe_callTy call_int1 (by rfl) T.z_int (by decide +kernel) (pa_cons (pv 3) pa_nil)) pe_int) (fun _ _ => rfl)))
      (pss_cons (ps_if (pt_cmpR op_gt (pv 3) pe_int (nomark _)) (pss_one (ps_set (i := 4) sc_spoiled.nd rfl (.inl rfl) (pe_ix ix_str (pv 2) (pe_call (ok_draw T) (hr.mono (by decide)) (by rfl) T.draw.g T.draw.F.kp T.draw.b .nil pass0 (pa_cons (pv 0) (pa_cons (pe_callB call_len_str (by rfl) T.z_len (by decide +kernel) (pa_cons (pv 2) pa_nil)) pa_nil))) (fun _ _ => rfl)))) pss_nil)
      (pss_cons (ps_set (i := 5) sc_spoiled.nd rfl (.inl rfl) (pe_call (ok_draw T) (hr.mono (by decide)) (by rfl) T.draw.g T.draw.F.kp T.draw.b .nil pass0 (pa_cons (pv 0) (pa_cons (pe_op op_add (pe_callB call_len_str (by rfl) T.z_len (by decide +kernel) (pa_cons (pv 1) pa_nil)) pe_int) pa_nil))))
      (pss_cons (ps_set (i := 6) sc_spoiled.nd rfl (.inl rfl) (pe_call (ok_draw T) (hr.mono (by decide)) (by rfl) T.draw.g T.draw.F.kp T.draw.b .nil pass0 (pa_cons (pv 0) (pa_cons pe_int pa_nil))))
      (pss_cons (ps_if (pt_cmpR op_eq (pv 6) pe_int (nomark _)) (pss_one (ps_ret (pe_op op_add_str (pe_op op_add_str (pe_slice C8.sl_txt (pv 1) po_none (po_some (pv 5))) (pv 4)) (pe_slice C8.sl_txt (pv 1) (po_some (pv 5)) po_none)))) pss_nil)
      (pss_cons (ps_if (pt_cmpR op_eq (pv 6) pe_int (nomark _)) (pss_one (ps_ret (pe_op op_add_str (pe_slice C8.sl_txt (pv 1) po_none (po_some (pv 5))) (pe_slice C8.sl_txt (pv 1) (po_some (pe_op op_add (pv 5) pe_int)) po_none)))) pss_nil)
      (pss_cons (ps_if (pt_cmpR op_eq (pv 6) pe_int (nomark _)) (pss_one (ps_ret (pe_op op_add_str (pe_op op_add_str (pe_slice C8.sl_txt (pv 1) po_none (po_some (pv 5))) (pv 4)) (pe_slice C8.sl_txt (pv 1) (po_some (pe_op op_add (pv 5) pe_int)) po_none)))) pss_nil)
      (pss_one (ps_ret (pe_op op_add_str (pv 1) (pv 4)))))))))))))), ?_⟩
    have ls : (S l).length ≤ sizeLine := by rw [S_len]; show l.length ≤ 16777216; omega
    refine seq_rest (fun σ' H' => ∃ z : Str, σ' = [some (.ref a), some (.str (S l)), some (.str z), none, none, none, none] ∧ Lw H G (some (a, c, n)) [] G H' ∧ z.length ≤ 100 ∧ z.cps.toList.all (fun c => decide (c < 128)) = true) (fun σ' H' hp => ?_) (fun kk => kk _ _ ⟨_, rfl, lw, by decide +kernel, by decide +kernel⟩)
    obtain ⟨z, rfl, lw, zl, zb⟩ := hp
    refine seq_rest (fun σ' H' => ∃ z : Str, σ' = [some (.ref a), some (.str (S l)), some (.str z), none, none, none, none] ∧ Lw H G (some (a, c, n)) [] G H' ∧ 1 ≤ z.length ∧ z.length ≤ 200 ∧ low7 z.cps.toList) (fun σ' H' hp => ?_) (fun kk => ?_)
    rotate_left
    · refine ⟨_, rfl, z, _, rfl, rfl, ?_, kk _ _ ⟨z ++ _, rfl, lw, ?_, ?_, ?_⟩⟩
      · refine Nat.le_trans (Nat.add_le_add zl (?_ : _ ≤ 100)) (by decide)
        decide +kernel
      · rw [TL.len_tl, TL.tl_append, List.length_append]
        refine Nat.le_trans ?_ (Nat.le_add_left _ _)
        decide +kernel
      · rw [TL.len_tl, TL.tl_append, List.length_append, ← TL.len_tl]
        refine Nat.le_trans (Nat.add_le_add zl (?_ : _ ≤ 100)) (by decide)
        decide +kernel
      · have : TL.tl z = z.cps.toList := rfl
        show low7 (TL.tl (z ++ _))
        rw [TL.tl_append]
        refine low7_app (fun c hc => of_decide_eq_true (List.all_eq_true.mp zb c hc)) fun c hc => ?_
        refine of_decide_eq_true (List.all_eq_true.mp (?_ : List.all _ (fun c => decide (c < 128)) = true) c hc)
        decide +kernel
    obtain ⟨z, rfl, lw, z1, zl, zb⟩ := hp
    refine seq_rest (fun σ' H' => ∃ (d : Int) (G1 : Hp), σ' = [some (.ref a), some (.str (S l)), some (.str z), some (.int d), none, none, none] ∧ Lw H G (some (a, c, n + 1)) [] G1 H' ∧ 0 ≤ d) (fun σ' H' hp => ?_) (fun kk => ⟨_, rfl, call_draw lw (by decide) (by decide) (by omega) fun G1 H1 d e1 lw d0 d1 => kk _ _ ⟨d, G1, rfl, lw, d0⟩⟩)
    obtain ⟨d, G1, rfl, lw, d0⟩ := hp
    refine seq_rest (fun σ' H' => ∃ (u : Nat), σ' = [some (.ref a), some (.str (S l)), some (.str z), some (.int d), some (.str (S [u])), none, none] ∧ Lw H G (some (a, c, n + 1)) [] G1 H' ∧ u < 128) (fun σ' H' hp => ?_) (fun kk => ?_)
    rotate_left
    · have bd := fmod_bd (i := d) (j := 8) (by decide)
      obtain ⟨u, hu, hm⟩ := at_str (z := Str.ofString "01-/ +\n2") (i := d.fmod 8) bd.1 (by show d.fmod 8 < ((8 : Nat) : Int); omega)
      have ub : u < 128 := of_decide_eq_true (List.all_eq_true.mp (show (Str.ofString "01-/ +\n2").cps.toList.all (fun c => decide (c < 128)) = true by decide +kernel) u hm)
      exact ⟨_, rfl, .inl ⟨_, rfl, _, _, rfl, rfl, (show (8 : Int) ≠ 0 by decide), _, _, u, rfl, rfl, (by show 8 ≤ sizeLine; decide), hu, kk _ _ ⟨u, rfl, lw, ub⟩⟩⟩
    obtain ⟨u, rfl, lw, ub⟩ := hp
    refine seq_rest (fun σ' H' => ∃ (u : Nat) (G2 : Hp), σ' = [some (.ref a), some (.str (S l)), some (.str z), some (.int d), some (.str (S [u])), none, none] ∧ Lw H G (some (a, c, n + 2)) [] G2 H' ∧ u < 128) (fun σ' H' hp => ?_) (fun kk => ?_)
    rotate_left
    · refine ⟨_, rfl, _, _, rfl, rfl, _, rfl, ite2 (fun _ => ?_) (fun _ => kk _ _ ⟨u, G1, rfl, lw.more (by omega), ub⟩)⟩
      refine ⟨_, rfl, _, rfl, _, rfl, z, rfl, (by show z.length ≤ 16777216; omega), call_draw lw (by omega) (by omega) (by omega) fun G2 H2 i e2 lw i0 i1 => ?_⟩
      obtain ⟨v, hv, hm⟩ := at_str (z := z) (i := i) i0 (by rw [← TL.len_tl]; exact i1)
      exact ⟨_, _, v, rfl, rfl, (by show z.length ≤ 16777216; omega), hv, kk _ _ ⟨v, G2, rfl, lw, zb v hm⟩⟩
    obtain ⟨u, G2, rfl, lw, ub⟩ := hp
    refine seq_rest (fun σ' H' => ∃ (i : Nat) (G3 : Hp), σ' = [some (.ref a), some (.str (S l)), some (.str z), some (.int d), some (.str (S [u])), some (.int i), none] ∧ Lw H G (some (a, c, n + 3)) [] G3 H') (fun σ' H' hp => ?_) (fun kk => ?_)
    rotate_left
    · refine ⟨_, rfl, _, rfl, S l, rfl, ls, _, _, rfl, rfl, ?_⟩
      rw [S_len]
      show sp_draw [.ref a, .int ((l.length : Int) + 1)] H' _ E0
      refine call_draw lw (by omega) (by omega) (by omega) fun G3 H3 i e3 lw i0 i1 => ?_
      obtain ⟨m, rfl⟩ := Int.eq_ofNat_of_zero_le i0
      exact kk _ _ ⟨m, G3, rfl, lw⟩
    obtain ⟨i, G3, rfl, lw⟩ := hp
    refine seq_rest (fun σ' H' => ∃ (y : Int) (G4 : Hp), σ' = [some (.ref a), some (.str (S l)), some (.str z), some (.int d), some (.str (S [u])), some (.int i), some (.int y)] ∧ Lw H G (some (a, c, n + 4)) [] G4 H') (fun σ' H' hp => ?_) (fun kk => ⟨_, rfl, call_draw lw (by decide) (by decide) (by omega) fun G1 H1 d e1 lw d0 d1 => kk _ _ ⟨d, G1, rfl, lw⟩⟩)
    obtain ⟨y, G4, rfl, lw⟩ := hp
    have u7 : low7 [u] := fun c hc => by
      rw [List.mem_singleton.mp hc]
      exact ub
    have t7 : ∀ m, low7 (l.take m) := fun m c hc => l7 c (List.mem_of_mem_take hc)
    have r7 : ∀ m, low7 (l.drop m) := fun m c hc => l7 c (List.mem_of_mem_drop hc)
    have cut1 : Txt.slice (S l) none (some (i : Int)) = S (l.take i) := by rw [slice_to (by omega)]; rfl
    have cut2 : Txt.slice (S l) (some (i : Int)) none = S (l.drop i) := by rw [slice_from (by omega)]; rfl
    have cut3 : Txt.slice (S l) (some ((i : Int) + 1)) none = S (l.drop (i + 1)) := by rw [slice_from (by omega)]; rfl
    refine ⟨_, rfl, rfl, _, rfl, ite2 (fun _ => ?_) (fun _ => ⟨_, rfl, rfl, _, rfl, ite2 (fun _ => ?_) (fun _ => ⟨_, rfl, rfl, _, rfl, ite2 (fun _ => ?_) (fun _ => ?_)⟩)⟩)⟩
    · refine ⟨_, rfl, _, rfl, i, rfl, S l, rfl, ls, ?_⟩
      rw [cut1]
      refine ⟨_, rfl, S (l.take i), S [u], rfl, rfl, ?_, _, rfl, _, rfl, i, rfl, S l, rfl, ls, ?_⟩
      · rw [S_len, S_len, List.length_take]
        show _ + 1 ≤ 16777216
        omega
      rw [cut2]
      refine ⟨S (l.take i) ++ S [u], S (l.drop i), rfl, rfl, ?_, k _ _ _ lw ⟨l.take i ++ [u] ++ l.drop i, ?_, ?_, low7_app (low7_app (t7 i) u7) (r7 i)⟩⟩
      · rw [S_cat, S_len, S_len, List.length_append, List.length_take, List.length_drop]
        show _ + 1 + _ ≤ 16777216
        omega
      · rw [← S_cat, ← S_cat]
      · simp only [List.length_append, List.length_take, List.length_drop, List.length_cons, List.length_nil]
        omega
    · refine ⟨_, rfl, _, rfl, i, rfl, S l, rfl, ls, ?_⟩
      rw [cut1]
      refine ⟨_, rfl, _, rfl, _, _, rfl, rfl, (i : Int) + 1, rfl, S l, rfl, ls, ?_⟩
      rw [cut3]
      refine ⟨S (l.take i), S (l.drop (i + 1)), rfl, rfl, ?_, k _ _ _ lw ⟨l.take i ++ l.drop (i + 1), ?_, ?_, low7_app (t7 i) (r7 _)⟩⟩
      · rw [S_len, S_len, List.length_take, List.length_drop]
        show _ ≤ 16777216
        omega
      · rw [← S_cat]
      · simp only [List.length_append, List.length_take, List.length_drop]
        omega
    · refine ⟨_, rfl, _, rfl, i, rfl, S l, rfl, ls, ?_⟩
      rw [cut1]
      refine ⟨_, rfl, S (l.take i), S [u], rfl, rfl, ?_, _, rfl, _, rfl, _, _, rfl, rfl, (i : Int) + 1, rfl, S l, rfl, ls, ?_⟩
      · rw [S_len, S_len, List.length_take]
        show _ + 1 ≤ 16777216
        omega
      rw [cut3]
      refine ⟨S (l.take i) ++ S [u], S (l.drop (i + 1)), rfl, rfl, ?_, k _ _ _ lw ⟨l.take i ++ [u] ++ l.drop (i + 1), ?_, ?_, low7_app (low7_app (t7 i) u7) (r7 _)⟩⟩
      · rw [S_cat, S_len, S_len, List.length_append, List.length_take, List.length_drop]
        show _ + 1 + _ ≤ 16777216
        omega
      · rw [← S_cat, ← S_cat]
      · simp only [List.length_append, List.length_take, List.length_drop, List.length_cons, List.length_nil]
        omega
    · refine ⟨_, rfl, _, rfl, S l, S [u], rfl, rfl, ?_, k _ _ _ lw ⟨l ++ [u], ?_, ?_, low7_app l7 u7⟩⟩
      · rw [S_len, S_len]
        show _ + 1 ≤ 16777216
        omega
      · rw [← S_cat]
      · rw [List.length_append]
        show _ + 1 ≤ 2001
        omega
def goodS : V → Bool
  | .str x => decide (x.length ≤ 10) && x.cps.toList.all (fun c => decide (c < 128))
  | _ => false
/-- texts of the law -/
def TxOk (l : List Nat) : Prop := l.length ≤ 6100 ∧ low7 l
theorem good_ex {L : List V} (h : L.all goodS = true) : ∃ xs : List (List Nat), L = xs.map (fun l => V.str (S l)) ∧ ∀ l ∈ xs, TxOk l := by
  induction L with
  | nil => exact ⟨[], rfl, fun l h => nomatch h⟩
  | cons v L ih =>
    rw [List.all_cons, Bool.and_eq_true] at h
    obtain ⟨xs, e, hx⟩ := ih h.2
    cases v with
    | str x =>
      have hg : (decide (x.length ≤ 10) && x.cps.toList.all (fun c => decide (c < 128))) = true := h.1
      rw [Bool.and_eq_true, decide_eq_true_eq] at hg
      refine ⟨x.cps.toList :: xs, by rw [e]; rfl, fun l hl => ?_⟩
      rcases List.mem_cons.mp hl with hl | hl
      · rw [hl]
        have := hg.1
        rw [TL.len_tl] at this
        exact ⟨Nat.le_trans this (by decide), fun c hc => of_decide_eq_true (List.all_eq_true.mp hg.2 c hc)⟩
      · exact hx l hl
    | _ => exact absurd h.1 (by simp [goodS])
theorem good_at {G : Hp} {O : Addr} {L : List V} (ht : G O = some (.lst L)) (h : L.all goodS = true) (h2 : L.length ≤ 40) : ∃ xs : List (List Nat), G O = some (.lst (xs.map (fun l => V.str (S l)))) ∧ (∀ l ∈ xs, TxOk l) ∧ xs.length ≤ 40 ∧ xs.length = L.length := by
  obtain ⟨xs, e, hx⟩ := good_ex h
  refine ⟨xs, by rw [ht, e], hx, ?_, ?_⟩
  · rw [e, List.length_map] at h2
    exact h2
  · rw [e, List.length_map]
theorem cat_good {H0 G0 G H : Hp} {p : Option (Addr × Addr × Nat)} {ls : List (Addr × HO)} {Q : VK} {O O2 : Addr} {L : List V} {os : List (List Nat)} (lw : Lw H0 G0 p ls G H) (nO : H O2 = none) (ho : G O = some (.lst (os.map fun l => V.str (S l)))) (h : L.all goodS = true) (h2 : L.length ≤ 40) (hol : os.length ≤ 40)
    (k : ∀ G2 os2, Ex G G2 → Lw H0 G0 p ls G2 (upd H O2 (.lst L)) → G2 O2 = some (.lst (os2.map fun l => V.str (S l))) → (∀ l ∈ os2, TxOk l) → os2.length = L.length → ∀ O3, upd H O2 (.lst L) O3 = none → Q (.ref O3) (upd (upd H O2 (.lst L)) O3 (.lst ((os ++ os2).map fun l => V.str (S l))))) : rCat (.ref O) (.ref O2) (upd H O2 (.lst L)) Q := by
  obtain ⟨G2, e2, lw, ht⟩ := lw.allocE (o := .lst L) nO
  obtain ⟨os2, ho2, hok2, hl2, hl3⟩ := good_at ht h h2
  refine ⟨O, O2, _, _, rfl, rfl, lw.gh _ _ (e2 _ _ ho), lw.gh _ _ ht, (by rw [List.length_map]; show _ ≤ 16777216; omega), fun O3 nO => ?_⟩
  have e : L = os2.map fun l => V.str (S l) := by
    rw [ht] at ho2
    exact HO.lst.inj (Option.some.inj ho2)
  have := k G2 os2 e2 lw ho2 hok2 hl3 O3 nO
  rw [List.map_append, ← e] at this
  exact this
theorem rep_ok (c m : Nat) (hc : c < 128) (hm : m ≤ 6000) : TxOk (List.replicate m [c]).flatten ∧ (List.replicate m [c]).flatten.length = m := by
  have e : (List.replicate m [c]).flatten = List.replicate m c := by
    induction m with
    | zero => rfl
    | succ m ih =>
      rw [List.replicate_succ, List.flatten_cons, ih (by omega), List.replicate_succ]
      rfl
  rw [e]
  refine ⟨⟨by rw [List.length_replicate]; omega, fun d hd => ?_⟩, List.length_replicate ..⟩
  rw [(List.mem_replicate.mp hd).2]
  exact hc
theorem sc_texts : FnScope ["pool", "one", "two", "odd", "sign", "many", "texts", "k", "text", "due", "told"] ["pool", "one", "two"] (defScope s_texts) := ⟨rfl, rfl, rfl, by decide +kernel, rfl, by decide +kernel, by decide +kernel⟩
def sp_texts : Sp := PoolSp 13 (fun ws G => ∃ (x y : V) (q1 q2 : Rat), ws = [x, y] ∧ TI G x q1.num q1.den ∧ TI G y q2.num q2.den ∧ Sm 400 q1 ∧ Sm 400 q2) (fun _ _ _ v => v = .bl true)
theorem ok_texts (T : Tx K mg) : FnOk P w K mg base CX0 12 T.texts.f T.texts.fd ["pool", "one", "two"] sp_texts := by
  refine T.texts.F.ok sc_texts (fun vs H Q E h => ?_) (fun cdv A outer s H vs Q E hr h => ?_)
  · obtain ⟨G, a, c, n, ws, rfl, _, _, ⟨x, y, q1, q2, rfl, _⟩, _⟩ := h
    rfl
  · obtain ⟨G, a, c, n, ws, rfl, lw, hn, ⟨x, y, q1, q2, rfl, hx, hy, s1, s2⟩, k⟩ := h
    refine ⟨_, (pss_cons (ps_set (i := 3) sc_texts.nd rfl (.inl rfl) (pe_lst (pa_cons pe_str (pa_cons pe_str (pa_cons pe_str (pa_cons pe_str (pa_cons pe_str (pa_cons pe_str (pa_cons pe_str (pa_cons pe_str (pa_cons pe_str (pa_cons pe_str (pa_cons pe_str (pa_cons pe_str (pa_cons pe_str (pa_cons pe_str (pa_cons pe_str (pa_cons pe_str (pa_cons pe_str pa_nil)))))))))))))))))))
      (pss_cons (ps_set (i := 3) sc_texts.nd rfl (.inl rfl) (pe_op op_cat (pv 3) (pe_lst (pa_cons pe_str (pa_cons pe_str (pa_cons pe_str (pa_cons pe_str (pa_cons pe_str (pa_cons pe_str (pa_cons pe_str (pa_cons pe_str (pa_cons pe_str (pa_cons pe_str (pa_cons pe_str (pa_cons pe_str (pa_cons pe_str (pa_cons pe_str pa_nil)))))))))))))))))
      (pss_cons (ps_set (i := 4) sc_texts.nd rfl (.inl rfl) (pe_ix ix_str pe_str (pe_call (ok_draw T) (hr.mono (by decide)) (by rfl) T.draw.g T.draw.F.kp T.draw.b .nil pass0 (pa_cons (pv 0) (pa_cons pe_int pa_nil))) (fun _ _ => rfl)))
      (pss_cons (ps_set (i := 5) sc_texts.nd rfl (.inl rfl) (pe_ix (UfK.ix_tupK (K := K)) (pe_tup (pa_cons pe_int (pa_cons pe_int (pa_cons pe_int (pa_cons pe_int pa_nil))))) (pe_call (ok_draw T) (hr.mono (by decide)) (by rfl) T.draw.g T.draw.F.kp T.draw.b .nil pass0 (pa_cons (pv 0) (pa_cons pe_int pa_nil))) (fun _ _ => rfl)))
      (pss_cons (ps_set (i := 6) sc_texts.nd rfl (.inl rfl) (pe_lst (pa_cons (pe_call (ok_text T) (hr.mono (by decide)) (by rfl) T.text.g T.text.F.kp T.text.b .nil pass0 (pa_cons (pv 1) pa_nil)) (pa_cons (pe_call (ok_text T) (hr.mono (by decide)) (by rfl) T.text.g T.text.F.kp T.text.b .nil pass0 (pa_cons (pv 2) pa_nil)) (pa_cons (pe_op op_rep_str (pv 4) (pv 5)) (pa_cons (pe_op op_add_str pe_str (pe_op op_rep_str (pv 4) (pe_callB (call_min2 rfl) (by rfl) T.z_min (by decide +kernel) (pa_cons (pv 5) (pa_cons pe_int pa_nil))))) (pa_cons (pe_op op_add_str pe_str (pe_op op_rep_str (pv 4) (pe_callB (call_min2 rfl) (by rfl) T.z_min (by decide +kernel) (pa_cons (pv 5) (pa_cons pe_int pa_nil))))) pa_nil)))))))
      (pss_cons (ps_set (i := 6) sc_texts.nd rfl (.inl rfl) (pe_op op_cat (pv 6) (pe_lst (pa_cons (pe_call (ok_spoiled T) (hr.mono (by decide)) (by rfl) T.spoiled.g T.spoiled.F.kp T.spoiled.b .nil pass0 (pa_cons (pv 0) (pa_cons (pe_call (ok_text T) (hr.mono (by decide)) (by rfl) T.text.g T.text.F.kp T.text.b .nil pass0 (pa_cons (pv 1) pa_nil)) pa_nil))) (pa_cons (pe_call (ok_spoiled T) (hr.mono (by decide)) (by rfl) T.spoiled.g T.spoiled.F.kp T.spoiled.b .nil pass0 (pa_cons (pv 0) (pa_cons (pe_call (ok_text T) (hr.mono (by decide)) (by rfl) T.text.g T.text.F.kp T.text.b .nil pass0 (pa_cons (pv 2) pa_nil)) pa_nil))) pa_nil)))))
      (pss_cons (ps_for PassesOwn.never rfl (pi_range1 rfl T.z_range (pa_cons pe_int pa_nil)) (pg_name (i := 7) sc_texts.nd rfl (.inl rfl)) (pss_one (ps_expr (pe_bm PySem.F.plainAttrs_list PySem.F.slot_list_append PySem.F.type_list_append mt_append (pv 6) (pa_cons (pe_ix (UfK.ix_listK (K := K)) (pv 3) (pe_call (ok_draw T) (hr.mono (by decide)) (by rfl) T.draw.g T.draw.F.kp T.draw.b .nil pass0 (pa_cons (pv 0) (pa_cons (pe_callB (UfK.call_lenK (K := K)) (by rfl) T.z_len (by decide +kernel) (pa_cons (pv 3) pa_nil)) pa_nil))) (fun _ _ => rfl)) pa_nil)))))
      (pss_cons (ps_for PassesOwn.never rfl (UfK.pi_listK (K := K) (pv 6)) (pg_name (i := 8) sc_texts.nd rfl (.inl rfl)) (pss_cons (ps_set (i := 9) sc_texts.nd rfl (.inl rfl) (pe_call (ok_parse T) (hr.mono (by decide)) (by rfl) T.parse.g T.parse.F.kp T.parse.b .nil pass0 (pa_cons (pv 8) pa_nil)))
      (pss_cons (ps_set (i := 10) sc_texts.nd rfl (.inl rfl) (pe_call (ok_ask T) (hr.mono (by decide)) (by rfl) T.ask.g T.ask.F.kp T.ask.b .nil pass0 (pa_cons pe_int (pa_cons (pv 8) (pa_cons pe_int pa_nil)))))
      (pss_one (ps_if (pt_cmpR op_isN (pv 9) pe_non (nomark _)) (pss_one (ps_if (pt_cmpR (UfK.op_neDK (K := K) hr.units) (pv 10) (pe_tup (pa_cons pe_str (pa_cons (pv 8) pa_nil))) (nomark _)) (pss_one (ps_ret pe_bl)) pss_nil)) (pss_one (ps_if (PW.pt (pw_or (pt_cmpR op_ne (pe_ix (UfK.ix_tupK (K := K)) (pv 10) pe_int (fun _ _ => rfl)) pe_str (nomark _)) (pw_or1 (pt_not (pt_val (pe_call (ok_is T) (hr.mono (by decide)) (by rfl) T.is.g T.is.F.kp T.is.b .nil pass0 (pa_cons (pe_ix (UfK.ix_tupK (K := K)) (pv 10) pe_int (fun _ _ => rfl)) (pa_cons (pv 9) pa_nil)))))))) (pss_one (ps_ret pe_bl)) pss_nil)))))))
      (pss_one (ps_ret pe_bl)))))))))), ?_⟩
    have W1 : Sm 1900 q1 := sm_mono s1 (by decide)
    have W2 : Sm 1900 q2 := sm_mono s2 (by decide)
    have tl : ∀ q : Rat, Sm 1900 q → (numT q).length ≤ 1300 := fun q w => by
      have l1 := intL_len w.1
      have l2 := TL.numL_len (n := q.den) (k := 600) (by decide) (Nat.lt_trans w.2 (by decide +kernel))
      unfold numT
      rw [List.length_append]
      split
      · show _ + 0 ≤ _
        omega
      · rw [List.length_cons]
        omega
    obtain ⟨t1, rfl, h1⟩ := id hx
    obtain ⟨t2, rfl, h2⟩ := id hy
    refine seq_rest (fun σ' H' => ∃ (G1 : Hp) (O : Addr) (L : List V), σ' = [some (.ref a), some (.ref t1), some (.ref t2), some (.ref O), none, none, none, none, none, none, none] ∧ Lw H G (some (a, c, n)) [] G1 H' ∧ Ex G G1 ∧ G1 O = some (.lst L) ∧ L.all goodS = true ∧ L.length ≤ 40) (fun σ' H' hp => ?_) (fun kk => ⟨(by show 17 ≤ sizeLine; decide), fun O nO => kk _ _ ⟨_, O, _, rfl, lw.alloc nO, ex_new (lw.free nO), upd_same, by decide +kernel, by decide +kernel⟩⟩)
    obtain ⟨G1, O, L, rfl, lw, e1, ho, hok, hol⟩ := hp
    obtain ⟨os, ho, hok, hol, _⟩ := good_at ho hok hol
    refine seq_rest (fun σ' H' => ∃ (G2 : Hp) (O : Addr) (os : List (List Nat)), σ' = [some (.ref a), some (.ref t1), some (.ref t2), some (.ref O), none, none, none, none, none, none, none] ∧ Lw H G (some (a, c, n)) [] G2 H' ∧ Ex G1 G2 ∧ G2 O = some (.lst (os.map fun l => V.str (S l))) ∧ (∀ l ∈ os, TxOk l) ∧ os.length ≤ 80 ∧ 1 ≤ os.length) (fun σ' H' hp => ?_) (fun kk => ?_)
    rotate_left
    · refine ⟨_, rfl, (by show 14 ≤ sizeLine; decide), fun O2 nO => ?_⟩
      refine cat_good lw nO ho (by decide +kernel) (by decide +kernel) hol fun G2 os2 e2 lw ho2 hok2 hl3 => ?_
      have hl3 : os2.length = 14 := hl3
      refine fun O3 nO => ?_
      obtain ⟨G3, e3, lw, ht3⟩ := lw.allocE (o := .lst ((os ++ os2).map fun l => V.str (S l))) nO
      refine kk _ _ ⟨G3, O3, os ++ os2, rfl, lw, e2.trans e3, ht3, fun l hl => (List.mem_append.mp hl).elim (hok l) (hok2 l), ?_, ?_⟩ <;> rw [List.length_append] <;> omega
    obtain ⟨G2, O, os, rfl, lw, e2, ho, hok, hol, ho1⟩ := hp
    have e12 := e1.trans e2
    refine seq_rest (fun σ' H' => ∃ (G3 : Hp) (u : Nat), σ' = [some (.ref a), some (.ref t1), some (.ref t2), some (.ref O), some (.str (S [u])), none, none, none, none, none, none] ∧ Lw H G (some (a, c, n + 1)) [] G3 H' ∧ Ex G2 G3 ∧ u < 128) (fun σ' H' hp => ?_) (fun kk => ?_)
    rotate_left
    · refine ⟨_, rfl, call_draw lw (by decide) (by decide) (by omega) fun G3 H3 d e3 lw d0 d1 => ?_⟩
      obtain ⟨u, hu, hm⟩ := at_str (z := Str.ofString "123456789") (i := d) d0 (by show d < ((9 : Nat) : Int); omega)
      have ub : u < 128 := of_decide_eq_true (List.all_eq_true.mp (show (Str.ofString "123456789").cps.toList.all (fun c => decide (c < 128)) = true by decide +kernel) u hm)
      exact ⟨_, _, u, rfl, rfl, (by show 9 ≤ sizeLine; decide), hu, kk _ _ ⟨G3, u, rfl, lw, e3, ub⟩⟩
    obtain ⟨G3, u, rfl, lw, e3, ub⟩ := hp
    refine seq_rest (fun σ' H' => ∃ (G4 : Hp) (m : Nat), σ' = [some (.ref a), some (.ref t1), some (.ref t2), some (.ref O), some (.str (S [u])), some (.int m), none, none, none, none, none] ∧ Lw H G (some (a, c, n + 2)) [] G4 H' ∧ Ex G3 G4 ∧ 1 ≤ m ∧ m ≤ 6000) (fun σ' H' hp => ?_) (fun kk => ?_)
    rotate_left
    · refine ⟨(by show 4 ≤ sizeLine; decide), fun t nt => ?_⟩
      obtain ⟨G4, e4, lw, h4⟩ := lw.allocE (o := .tup [V.int 29, V.int 30, V.int 31, V.int 6000]) nt
      refine ⟨_, rfl, call_draw lw (by decide) (by decide) (by omega) fun G5 H5 d e5 lw d0 d1 => ?_⟩
      obtain ⟨i, rfl⟩ := Int.eq_ofNat_of_zero_le d0
      obtain ⟨m, hm, m1, m2⟩ : ∃ m : Nat, ([V.int 29, V.int 30, V.int 31, V.int 6000] : List V)[i]? = some (.int m) ∧ 1 ≤ m ∧ m ≤ 6000 := by
        have : i < 4 := by omega
        match i, this with
        | 0, _ => exact ⟨29, rfl, by decide, by decide⟩
        | 1, _ => exact ⟨30, rfl, by decide, by decide⟩
        | 2, _ => exact ⟨31, rfl, by decide, by decide⟩
        | 3, _ => exact ⟨6000, rfl, by decide, by decide⟩
      exact ⟨t, _, _, _, rfl, rfl, SqT.g lw (e5 _ _ h4), atI_nat hm, kk _ _ ⟨G5, m, rfl, lw, e4.trans e5, m1, m2⟩⟩
    obtain ⟨G4, m, rfl, lw, e4, m1, m2⟩ := hp
    have e14 := (e12.trans e3).trans e4
    obtain ⟨m', hm', mm⟩ : ∃ m' : Nat, (if (31 : Int) < m then (31 : Int) else m) = m' ∧ 1 ≤ m' ∧ m' ≤ 31 := by
      by_cases z : (31 : Int) < m
      · exact ⟨31, if_pos z, by decide, by decide⟩
      · exact ⟨m, if_neg z, m1, by omega⟩
    have r1 := rep_ok u m ub m2
    have r2 := rep_ok u m' ub (by omega)
    have rl : (S (List.replicate m' [u]).flatten).length = m' := by rw [S_len]; exact r2.2
    refine seq_rest (fun σ' H' => ∃ (G5 : Hp) (X : Addr) (xs : List (List Nat)), σ' = [some (.ref a), some (.ref t1), some (.ref t2), some (.ref O), some (.str (S [u])), some (.int m), some (.ref X), none, none, none, none] ∧ Lw H G (some (a, c, n + 2)) [] G5 H' ∧ Ex G4 G5 ∧ G5 X = some (.lst (xs.map fun l => V.str (S l))) ∧ (∀ l ∈ xs, TxOk l) ∧ xs.length = 5) (fun σ' H' hp => ?_) (fun kk => ?_)
    rotate_left
    · refine ⟨_, rfl, call_text lw (hx.ex e14) W1 fun G5 H5 e5 lw => ?_⟩
      refine ⟨_, rfl, call_text lw (hy.ex (e14.trans e5)) W2 fun G6 H6 e6 lw => ?_⟩
      refine ⟨_, rfl, _, rfl, [u], m, rfl, rfl, m1, by omega, by simp, (by show 1 * m ≤ 16777216; omega), ?_⟩
      refine ⟨_, rfl, _, rfl, _, _, rfl, ?_⟩
      rw [hm']
      refine ⟨[u], m', rfl, rfl, mm.1, by omega, by simp, (by show 1 * m' ≤ 16777216; omega), Str.ofString "-", _, rfl, rfl, (by rw [rl]; show 1 + m' ≤ 16777216; omega), ?_⟩
      refine ⟨_, rfl, _, rfl, _, _, rfl, ?_⟩
      rw [hm']
      refine ⟨[u], m', rfl, rfl, mm.1, by omega, by simp, (by show 1 * m' ≤ 16777216; omega), Str.ofString "1/", _, rfl, rfl, (by rw [rl]; show 2 + m' ≤ 16777216; omega), ?_⟩
      refine ⟨(by show 5 ≤ sizeLine; decide), fun X nX => ?_⟩
      have a1 : Str.ofString "-" ++ S (List.replicate m' [u]).flatten = S (45 :: (List.replicate m' [u]).flatten) := S_cat [45] _
      have a2 : Str.ofString "1/" ++ S (List.replicate m' [u]).flatten = S (49 :: 47 :: (List.replicate m' [u]).flatten) := S_cat [49, 47] _
      rw [a1, a2]
      obtain ⟨G7, e7, lw, h7⟩ := lw.allocE (o := .lst (([numT q1, numT q2, (List.replicate m [u]).flatten, 45 :: (List.replicate m' [u]).flatten, 49 :: 47 :: (List.replicate m' [u]).flatten] : List (List Nat)).map fun l => V.str (S l))) nX
      refine kk _ _ ⟨G7, X, _, rfl, lw, (e5.trans e6).trans e7, h7, fun l hl => ?_, rfl⟩
      simp only [List.mem_cons, List.not_mem_nil, or_false] at hl
      rcases hl with rfl | rfl | rfl | rfl | rfl
      · exact ⟨Nat.le_trans (tl q1 W1) (by decide), low7_numT q1⟩
      · exact ⟨Nat.le_trans (tl q2 W2) (by decide), low7_numT q2⟩
      · exact r1.1
      · exact ⟨by rw [List.length_cons, r2.2]; omega, low7_app (a := [45]) (fun c hc => by rw [List.mem_singleton.mp hc]; decide) r2.1.2⟩
      · exact ⟨by rw [List.length_cons, List.length_cons, r2.2]; omega, low7_app (a := [49, 47]) (fun c hc => by simp at hc; omega) r2.1.2⟩
    obtain ⟨G5, X, xs, rfl, lw, e5, hX, hxs, hxl⟩ := hp
    have e15 := e14.trans e5
    refine seq_rest (fun σ' H' => ∃ (G6 : Hp) (X : Addr) (xs : List (List Nat)), σ' = [some (.ref a), some (.ref t1), some (.ref t2), some (.ref O), some (.str (S [u])), some (.int m), some (.ref X), none, none, none, none] ∧ Lw H G (some (a, c, n + 10)) [(X, .lst (xs.map fun l => V.str (S l)))] G6 H' ∧ Ex G5 G6 ∧ (∀ l ∈ xs, TxOk l) ∧ xs.length = 7) (fun σ' H' hp => ?_) (fun kk => ?_)
    rotate_left
    · refine ⟨_, rfl, _, rfl, _, rfl, call_text lw (hx.ex e15) W1 fun G6 H6 e6 lw => ?_⟩
      refine call_pool (E := E0) lw (by omega) ⟨numT q1, rfl, Nat.le_trans (tl q1 W1) (by decide), low7_numT q1⟩ fun G7 H7 v7 e7 lw hv => ?_
      obtain ⟨l1, rfl, z1, b1⟩ := hv
      refine ⟨_, rfl, _, rfl, call_text lw (hy.ex (e15.trans (e6.trans e7))) W2 fun G8 H8 e8 lw => ?_⟩
      refine call_pool (E := E0) lw (by omega) ⟨numT q2, rfl, Nat.le_trans (tl q2 W2) (by decide), low7_numT q2⟩ fun G9 H9 v9 e9 lw hv => ?_
      obtain ⟨l2, rfl, z2, b2⟩ := hv
      refine ⟨(by show 2 ≤ sizeLine; decide), fun Y nY => ?_⟩
      obtain ⟨G10, e10, lw, h10⟩ := lw.allocE (o := .lst (([l1, l2] : List (List Nat)).map fun l => V.str (S l))) nY
      have e510 := ((e6.trans e7).trans (e8.trans e9)).trans e10
      refine ⟨X, Y, _, _, rfl, rfl, lw.gh _ _ (e510 _ _ hX), lw.gh _ _ h10, (by rw [List.length_map, List.length_map, hxl]; show 7 ≤ sizeLine; decide), fun Z nZ => ?_⟩
      rw [← List.map_append]
      refine kk _ _ ⟨G10, Z, xs ++ [l1, l2], rfl, lw.make nZ, e510, fun l hl => ?_, by rw [List.length_append, hxl]; rfl⟩
      rcases List.mem_append.mp hl with hl | hl
      · exact hxs l hl
      · simp only [List.mem_cons, List.not_mem_nil, or_false] at hl
        rcases hl with rfl | rfl
        · exact ⟨by omega, b1⟩
        · exact ⟨by omega, b2⟩
    obtain ⟨G6, X, xs, rfl, lw, e6, hxs, hxl⟩ := hp
    have hO : G6 O = _ := (((e3.trans e4).trans e5).trans e6) _ _ ho
    refine seq_rest (fun σ' H' => ∃ (G7 : Hp) (xs : List (List Nat)) (z : Option V), σ' = [some (.ref a), some (.ref t1), some (.ref t2), some (.ref O), some (.str (S [u])), some (.int m), some (.ref X), z, none, none, none] ∧ Lw H G (some (a, c, n + 13)) [(X, .lst (xs.map fun l => V.str (S l)))] G7 H' ∧ (∀ l ∈ xs, TxOk l) ∧ xs.length ≤ 10) (fun σ' H' hp => ?_) (fun kk => ?_)
    rotate_left
    · refine ⟨3, rfl, by decide, by decide, for_range (fun j σ H' => ∃ (G7 : Hp) (xs : List (List Nat)) (z : Option V), σ = [some (.ref a), some (.ref t1), some (.ref t2), some (.ref O), some (.str (S [u])), some (.int m), some (.ref X), z, none, none, none] ∧ Lw H G (some (a, c, n + 10 + j)) [(X, .lst (xs.map fun l => V.str (S l)))] G7 H' ∧ Ex G6 G7 ∧ (∀ l ∈ xs, TxOk l) ∧ xs.length = 7 + j)
        ⟨G6, xs, none, rfl, lw, Evl.Ex.refl _, hxs, hxl⟩ (fun j σ H' hj hp => ?_) (fun σ H' hp => ?_)⟩
      · obtain ⟨G7, ys, z, rfl, lw, e7, hys, hyl⟩ := hp
        have hj : j < 3 := hj
        have hO := e7 _ _ hO
        refine ⟨_, rfl, .inl ⟨rfl, _, SqL.of lw.at⟩, _, rfl, _, rfl, _, rfl, O, _, rfl, .inl (SqL.g lw hO), ?_⟩
        rw [List.length_map]
        refine call_draw lw (by omega) (by omega) (by omega) fun G8 H8 d e8 lw d0 d1 => ?_
        obtain ⟨i, rfl⟩ := Int.eq_ofNat_of_zero_le d0
        have hi : i < os.length := by omega
        have hat : (os.map fun l => V.str (S l))[i]? = some (.str (S os[i])) := by rw [List.getElem?_map, List.getElem?_eq_getElem hi]; rfl
        refine ⟨O, _, _, _, rfl, rfl, SqL.g lw (e8 _ _ hO), atI_nat hat, X, _, _, rfl, rfl, lw.at, Evl.sz_lt (by rw [List.length_map, hyl]; omega), ?_⟩
        refine ⟨G8, ys ++ [os[i]], some (.int (0 + (j : Nat))), rfl, ?_, e7.trans e8, fun l hl => ?_, by rw [List.length_append, hyl]; rfl⟩
        · rw [List.map_append]
          exact lw.put
        · rcases List.mem_append.mp hl with hl | hl
          · exact hys l hl
          · rw [List.mem_singleton.mp hl]
            exact hok _ (List.getElem_mem hi)
      · obtain ⟨G7, ys, z, rfl, lw, e7, hys, hyl⟩ := hp
        have hyl : ys.length = 7 + 3 := hyl
        exact kk _ _ ⟨G7, ys, z, rfl, lw, hys, by omega⟩
    obtain ⟨G7, xs, z, rfl, lw, hxs, hxl⟩ := hp
    obtain ⟨lw, e8⟩ := lw.keep
    obtain ⟨G8, hG8⟩ : ∃ G8, G8 = upd G7 X (.lst (xs.map fun l => V.str (S l))) := ⟨_, rfl⟩
    rw [← hG8] at lw e8
    have hX : G8 X = some (.lst (xs.map fun l => V.str (S l))) := by rw [hG8]; exact upd_same
    refine ⟨_, rfl, X, rfl, ⟨_, SqL.g lw hX⟩, for_list (xs := xs.map fun l => V.str (S l)) (fun j σ H' => ∃ (G9 : Hp) (z1 z2 z3 : Option V), σ = [some (.ref a), some (.ref t1), some (.ref t2), some (.ref O), some (.str (S [u])), some (.int m), some (.ref X), z, z1, z2, z3] ∧ Lw H G (some (a, c, n + 13)) [] G9 H' ∧ Ex G8 G9)
      ⟨G8, none, none, none, rfl, lw, Evl.Ex.refl _⟩ (fun j σ H' hj hp => ?_) (fun j x σ H' hx hp => ?_) (fun σ H' hp => ?_)⟩
    · obtain ⟨G9, z1, z2, z3, rfl, lw, e9⟩ := hp
      exact SqL.g lw (e9 _ _ hX)
    · obtain ⟨G9, z1, z2, z3, rfl, lw, e9⟩ := hp
      obtain ⟨l, hl, rfl⟩ : ∃ l, xs[j]? = some l ∧ x = .str (S l) := by
        rw [List.getElem?_map] at hx
        cases ee : xs[j]? with
        | none => rw [ee] at hx; cases hx
        | some y => rw [ee] at hx; exact ⟨y, rfl, (Option.some.inj hx).symm⟩
      have hok := hxs l (List.mem_of_getElem? hl)
      refine ⟨_, rfl, l, call_pure lw ⟨rfl, by have := hok.1; omega⟩ fun G10 H10 due e10 lw hdue => ?_⟩
      refine ⟨_, rfl, ?_⟩
      show sp_ask T [.int 3, .str (S l), .int 0] H10 _ E0
      refine call_ask3 lw (by have := hok.1; omega) (fun q hq G11 H11 v x e11 lw hv nx => ?_) (fun hno G11 H11 v e11 lw r => ?_)
      · rcases hdue with ⟨q', hq', td⟩ | ⟨_, hno⟩
        · have eq : q' = q := numT_inj (by rw [← hq'.2, ← hq.2])
          subst eq
          obtain ⟨t, rfl, ht⟩ := hv
          obtain ⟨t', rfl, ht'⟩ := id td
          refine ⟨_, rfl, rfl, _, rfl, iteF ⟨_, rfl, t, _, 0, _, rfl, rfl, SqT.g lw ht, rfl, rfl, _, rfl, iteF ⟨_, rfl, t, _, 1, _, rfl, rfl, SqT.g lw ht, rfl, _, rfl, call_is lw nx (td.ex e11) fun G12 H12 e12 lw => ⟨true, rfl, iteF ⟨G12, _, _, _, rfl, lw, (e9.trans e10).trans (e11.trans e12)⟩⟩⟩⟩⟩
        · exact absurd ⟨q, hq⟩ hno
      · rcases hdue with ⟨q', hq', td⟩ | ⟨rfl, _⟩
        · exact absurd ⟨q', hq'⟩ hno
        · refine ⟨_, rfl, rfl, _, rfl, iteT ⟨_, rfl, _, rfl, (by show 2 ≤ sizeLine; decide), fun t nt => ?_⟩⟩
          obtain ⟨G12, e12, lw, h12⟩ := lw.allocE (o := .tup [.str "BadText", .str (S l)]) nt
          refine r_neE lw (r.ex e12) (.tup h12 (.cons (.str _) (.cons (.str _) .nil))) (fun x e => ?_) ⟨_, rfl, iteF ⟨G12, _, _, _, rfl, lw, (e9.trans e10).trans (e11.trans e12)⟩⟩
          have e : S l = x := by injection e
          rw [← e]
          unfold PyData.strOk
          rw [← Array.all_toList, List.all_eq_true]
          intro d hd
          have := hok.2 d hd
          exact decide_eq_true (by omega)
    · obtain ⟨G9, z1, z2, z3, rfl, lw, e9⟩ := hp
      exact k _ _ _ lw rfl
end
end K01

namespace K01
open PySem PySem.Spec PyProof.Rows L2 UfG UfT UfR UfO UfI UfQ UfN SX UfX UfD
open Evl (Ex)
/-! ### numbers modulo a prime -/
theorem fme {i p : Int} (hp : 0 < p) : i.fmod p = i % p := Int.fmod_eq_emod_of_nonneg _ (Int.le_of_lt hp)
theorem neg_mod (b p : Int) : (-(b % p)) % p = (-b) % p := by
  rw [show -(b % p) = (-1) * (b % p) by omega, show -b = (-1) * b by omega, Int.mul_emod, Int.emod_emod, ← Int.mul_emod]
theorem pow_mod (b p : Int) : ∀ n : Nat, ((b % p) ^ n) % p = (b ^ n) % p
  | 0 => by rw [Int.pow_zero, Int.pow_zero]
  | n + 1 => by rw [Int.pow_succ, Int.pow_succ, Int.mul_emod, pow_mod b p n, Int.emod_emod, ← Int.mul_emod]
theorem one_mod {p : Int} (hp : 2 ≤ p) : (1 : Int) % p = 1 := Int.emod_eq_of_lt (by decide) (by omega)
theorem lowP1 {p : Int} (hp : 2 ≤ p) (n : Int) : low p n 1 = (n % p, 1) := by
  unfold low
  rw [if_neg (show ¬ p = 0 by omega), Int.one_pow, fme (by omega), fme (by omega), one_mod hp, Int.mul_one]
theorem lowPd {p : Int} (hp : 2 ≤ p) (n d : Int) : low p n d = ((n * (d ^ (p - 2).toNat % p)) % p, 1) := by
  unfold low
  rw [if_neg (show ¬ p = 0 by omega), fme (by omega), fme (by omega)]
section
variable {P : Program} {w : World} {K : PySem.W.Frag} {mg : Str → Option Value} {base : Heap}
section
variable {T : Tx K mg} {H0 G0 G H : Hp} {p : Option (Addr × Addr × Nat)} {ls : List (Addr × HO)} {Q : VK} {x y : V} {q1 q2 : Rat} {m i j : Int} {c : Addr}
theorem m_number0 (lw : Lw H0 G0 p ls G H) (hg : GrAt T.ground.C G c 0) (hx : Nm T.frac.C G x q1) (k : ∀ G' H' v, Ex G G' → Lw H0 G0 p ls G' H' → Nm T.frac.C G' v q1 → Q v H') : sp_g_number T [.ref c, x] H Q E0 :=
  ⟨c, [x], 0, rfl, hg.ex lw.gh, x, rfl, call_form0 lw hx k⟩
theorem m_plus0 (lw : Lw H0 G0 p ls G H) (hg : GrAt T.ground.C G c 0) (hx : Nm T.frac.C G x q1) (hy : Nm T.frac.C G y q2) (s1 : Sm 4000 q1) (s2 : Sm 4000 q2) (k : ∀ G' H' v, Ex G G' → Lw H0 G0 p ls G' H' → Nm T.frac.C G' v (q1 + q2) → Q v H') : sp_g_plus T [.ref c, x, y] H Q E0 :=
  ⟨c, [x, y], 0, rfl, hg.ex lw.gh, x, y, rfl, .inl ⟨q1, q2, call_pure lw ⟨x, y, rfl, hx, hy, s1, s2⟩ k⟩⟩
theorem m_minus0 (lw : Lw H0 G0 p ls G H) (hg : GrAt T.ground.C G c 0) (hx : Nm T.frac.C G x q1) (hy : Nm T.frac.C G y q2) (s1 : Sm 4000 q1) (s2 : Sm 4000 q2) (k : ∀ G' H' v, Ex G G' → Lw H0 G0 p ls G' H' → Nm T.frac.C G' v (q1 - q2) → Q v H') : sp_g_minus T [.ref c, x, y] H Q E0 :=
  ⟨c, [x, y], 0, rfl, hg.ex lw.gh, x, y, rfl, r_neg lw hy s2 fun G1 H1 z e1 lw hz => .inl ⟨q1, -q2, call_pure lw ⟨x, z, rfl, hx.ex e1, hz, s1, neg_sm s2⟩ fun G2 H2 v e2 lw hv => k _ _ v (e1.trans e2) lw (by rw [Rat.sub_eq_add_neg]; exact hv)⟩⟩
theorem m_times0 (lw : Lw H0 G0 p ls G H) (hg : GrAt T.ground.C G c 0) (hx : Nm T.frac.C G x q1) (hy : Nm T.frac.C G y q2) (s1 : Sm 4000 q1) (s2 : Sm 4000 q2) (k : ∀ G' H' v, Ex G G' → Lw H0 G0 p ls G' H' → Nm T.frac.C G' v (q1 * q2) → Q v H') : sp_g_times T [.ref c, x, y] H Q E0 :=
  ⟨c, [x, y], 0, rfl, hg.ex lw.gh, x, y, rfl, call_times0 lw hx hy s1 s2 k⟩
theorem m_neg0 (lw : Lw H0 G0 p ls G H) (hg : GrAt T.ground.C G c 0) (hy : Nm T.frac.C G y q2) (s2 : Sm 4000 q2) (k : ∀ G' H' v, Ex G G' → Lw H0 G0 p ls G' H' → Nm T.frac.C G' v (-q2) → Q v H') : sp_g_negative T [.ref c, y] H Q E0 :=
  ⟨c, [y], 0, rfl, hg.ex lw.gh, y, rfl, r_neg lw hy s2 fun G1 H1 z e1 lw hz => call_form0 lw hz fun G2 H2 v e2 lw hv => k _ _ v (e1.trans e2) lw hv⟩
theorem m_numberP (lw : Lw H0 G0 p ls G H) (hg : GrAt T.ground.C G c m) (hm : 0 < m) (k : ∀ G' H', Ex G G' → Lw H0 G0 p ls G' H' → Q (.int (i % m)) H') : sp_g_number T [.ref c, .int i] H Q E0 :=
  ⟨c, [.int i], m, rfl, hg.ex lw.gh, _, rfl, call_formP lw hm fun G' H' e l => by rw [fme hm]; exact k _ _ e l⟩
theorem m_plusP (lw : Lw H0 G0 p ls G H) (hg : GrAt T.ground.C G c m) (hm : 0 < m) (k : ∀ G' H', Ex G G' → Lw H0 G0 p ls G' H' → Q (.int ((i + j) % m)) H') : sp_g_plus T [.ref c, .int i, .int j] H Q E0 :=
  ⟨c, [.int i, .int j], m, rfl, hg.ex lw.gh, _, _, rfl, .inr ⟨m, i, j, call_pure lw ⟨rfl, hm⟩ fun G' H' v e l (hv : v = _) => by
    subst hv
    rw [fme hm]
    exact k _ _ e l⟩⟩
theorem m_minusP (lw : Lw H0 G0 p ls G H) (hg : GrAt T.ground.C G c m) (hm : 0 < m) (k : ∀ G' H', Ex G G' → Lw H0 G0 p ls G' H' → Q (.int ((i + -j) % m)) H') : sp_g_minus T [.ref c, .int i, .int j] H Q E0 :=
  ⟨c, [.int i, .int j], m, rfl, hg.ex lw.gh, _, _, rfl, .inl ⟨j, rfl, .inr ⟨m, i, -j, call_pure lw ⟨rfl, hm⟩ fun G' H' v e l (hv : v = _) => by
    subst hv
    rw [fme hm]
    exact k _ _ e l⟩⟩⟩
theorem m_timesP (lw : Lw H0 G0 p ls G H) (hg : GrAt T.ground.C G c m) (hm : 0 < m) (b1 : i.natAbs < 2 ^ 4000) (b2 : j.natAbs < 2 ^ 4000) (k : ∀ G' H', Ex G G' → Lw H0 G0 p ls G' H' → Q (.int ((i * j) % m)) H') : sp_g_times T [.ref c, .int i, .int j] H Q E0 :=
  ⟨c, [.int i, .int j], m, rfl, hg.ex lw.gh, _, _, rfl, call_timesP lw hm b1 b2 fun G' H' e l => by rw [fme hm]; exact k _ _ e l⟩
theorem m_negP (lw : Lw H0 G0 p ls G H) (hg : GrAt T.ground.C G c m) (hm : 0 < m) (k : ∀ G' H', Ex G G' → Lw H0 G0 p ls G' H' → Q (.int ((-j) % m)) H') : sp_g_negative T [.ref c, .int j] H Q E0 :=
  ⟨c, [.int j], m, rfl, hg.ex lw.gh, _, rfl, .inl ⟨j, rfl, call_formP lw hm fun G' H' e l => by rw [fme hm]; exact k _ _ e l⟩⟩
/-- Ground(p), p fit -/
theorem mk_ground {E : XK} (lw : Lw H0 G0 p ls G H) (hf : fitP m = true) (k : ∀ G' H' c, Ex G G' → Lw H0 G0 p ls G' H' → GrAt T.ground.C G' c m → Q (.ref c) H') : mkSp T.ground.C (sp_g_init T) [.int m] H Q E := fun x dx hx hd ne =>
  ⟨m, call_make lw rfl (fun G' H' x e l hv => k _ _ x e l hv.2) (fun G' H' C d e l hv => absurd hf (by rw [hv.1]; exact Bool.false_ne_true)) x dx hx hd ne⟩
theorem call_lowP {n d : Int} (lw : Lw H0 G0 p ls G H) (hm : 2 ≤ m ∧ m < 1000) (nb : n.natAbs < 2 ^ 2000) (db : d.natAbs < 2 ^ 2000) (k : ∀ G' H' v, Ex G G' → Lw H0 G0 p ls G' H' → TI G' v ((n * (d ^ (m - 2).toNat % m)) % m) 1 → Q v H') : sp_low [.int m, .int n, .int d] H Q E0 :=
  ⟨m, n, d, call_pure lw ⟨rfl, .inr hm, nb, db⟩ fun G' H' v e l hv => k _ _ v e l (by rw [lowPd hm.1] at hv; exact hv)⟩
theorem call_low0 {n d : Int} (lw : Lw H0 G0 p ls G H) (hd : d ≠ 0) (nb : n.natAbs < 2 ^ 2000) (db : d.natAbs < 2 ^ 2000) (k : ∀ G' H' v, Ex G G' → Lw H0 G0 p ls G' H' → TI G' v (fr n d).num (fr n d).den → Q v H') : sp_low [.int 0, .int n, .int d] H Q E0 :=
  ⟨0, n, d, call_pure lw ⟨rfl, .inl ⟨rfl, hd⟩, nb, db⟩ fun G' H' v e l hv => k _ _ v e l (by rw [low0] at hv; exact hv)⟩
theorem call_plusP (lw : Lw H0 G0 p ls G H) (hm : 2 ≤ m ∧ m < 1000) (hx : TI G x i 1) (hy : TI G y j 1) (ib : i.natAbs < 2 ^ 990) (jb : j.natAbs < 2 ^ 990) (k : ∀ G' H' v, Ex G G' → Lw H0 G0 p ls G' H' → TI G' v ((i + j) % m) 1 → Q v H') : sp_plus [.int m, x, y] H Q E0 :=
  ⟨m, i, 1, j, 1, call_pure lw ⟨x, y, rfl, hx, hy, .inr hm, ib, by decide +kernel, jb, by decide +kernel⟩ fun G' H' v e l hv => k _ _ v e l (by
    rw [Int.mul_one, Int.mul_one, Int.mul_one, lowP1 hm.1] at hv
    exact hv)⟩
theorem call_timesPL (lw : Lw H0 G0 p ls G H) (hm : 2 ≤ m ∧ m < 1000) (hx : TI G x i 1) (hy : TI G y j 1) (ib : i.natAbs < 2 ^ 990) (jb : j.natAbs < 2 ^ 990) (k : ∀ G' H' v, Ex G G' → Lw H0 G0 p ls G' H' → TI G' v ((i * j) % m) 1 → Q v H') : sp_times [.int m, x, y] H Q E0 :=
  ⟨m, i, 1, j, 1, call_pure lw ⟨x, y, rfl, hx, hy, .inr hm, ib, by decide +kernel, jb, by decide +kernel⟩ fun G' H' v e l hv => k _ _ v e l (by
    rw [Int.mul_one, lowP1 hm.1] at hv
    exact hv)⟩
theorem call_isI (lw : Lw H0 G0 p ls G H) (hy : TI G y i 1) (k : ∀ G' H', Ex G G' → Lw H0 G0 p ls G' H' → Q (.bl true) H') : sp_is T [.int i, y] H Q E0 :=
  call_is (q1 := (i : Rat)) lw (.ofInt i) (by rw [ofInt_num, ofInt_den]; exact hy) k
end
/-! ### _law_field -/
theorem sc_field : FnScope ["prime", "a", "b", "one", "two", "ground", "less", "told", "due", "answer", "turned", "k"] ["prime", "a", "b", "one", "two"] (defScope s_field) := ⟨rfl, rfl, rfl, by decide +kernel, rfl, by decide +kernel, by decide +kernel⟩
/-- the sums, products .. of two numbers of a ground: what the program tells and what the law reckons -/
structure FieldOk (T : Tx K mg) (H G : Hp) (m : Int) (x y one two : V) (r1 r2 rp rm rt r6 rv ro : Rat) : Prop where
  hf : fitP m = true
  h1 : TI G one r1.num r1.den
  h2 : TI G two r2.num r2.den
  num : ∀ G' H' c Q, Ex G G' → Lw H G none [] G' H' → GrAt T.ground.C G' c m → (∀ G2 H2 v, Ex G' G2 → Lw H G none [] G2 H2 → Nm T.frac.C G2 v r1 → Q v H2) → sp_g_number T [.ref c, x] H' Q E0
  plus : ∀ G' H' c Q, Ex G G' → Lw H G none [] G' H' → GrAt T.ground.C G' c m → (∀ G2 H2 v, Ex G' G2 → Lw H G none [] G2 H2 → Nm T.frac.C G2 v rp → Q v H2) → sp_g_plus T [.ref c, x, y] H' Q E0
  minus : ∀ G' H' c Q, Ex G G' → Lw H G none [] G' H' → GrAt T.ground.C G' c m → (∀ G2 H2 v, Ex G' G2 → Lw H G none [] G2 H2 → Nm T.frac.C G2 v rm → Q v H2) → sp_g_minus T [.ref c, x, y] H' Q E0
  times : ∀ G' H' c Q, Ex G G' → Lw H G none [] G' H' → GrAt T.ground.C G' c m → (∀ G2 H2 v, Ex G' G2 → Lw H G none [] G2 H2 → Nm T.frac.C G2 v rt → Q v H2) → sp_g_times T [.ref c, x, y] H' Q E0
  neg : ∀ G' H' c Q, Ex G G' → Lw H G none [] G' H' → GrAt T.ground.C G' c m → (∀ G2 H2 v, Ex G' G2 → Lw H G none [] G2 H2 → Nm T.frac.C G2 v r6 → Q v H2) → sp_g_negative T [.ref c, y] H' Q E0
  less : ∀ G' H' Q, Ex G G' → Lw H G none [] G' H' → (∀ G2 H2 v, Ex G' G2 → Lw H G none [] G2 H2 → TI G2 v r6.num r6.den → Q v H2) → sp_low [.int m, .int (-r2.num), .int r2.den] H' Q E0
  dplus : ∀ G' H' Q, Ex G G' → Lw H G none [] G' H' → (∀ G2 H2 v, Ex G' G2 → Lw H G none [] G2 H2 → TI G2 v rp.num rp.den → Q v H2) → sp_plus [.int m, one, two] H' Q E0
  dminus : ∀ G' H' Q u, Ex G G' → Lw H G none [] G' H' → TI G' u r6.num r6.den → (∀ G2 H2 v, Ex G' G2 → Lw H G none [] G2 H2 → TI G2 v rm.num rm.den → Q v H2) → sp_plus [.int m, one, u] H' Q E0
  dtimes : ∀ G' H' Q, Ex G G' → Lw H G none [] G' H' → (∀ G2 H2 v, Ex G' G2 → Lw H G none [] G2 H2 → TI G2 v rt.num rt.den → Q v H2) → sp_times [.int m, one, two] H' Q E0
  over : ∀ G' H' c Q, Ex G G' → Lw H G none [] G' H' → GrAt T.ground.C G' c m → (r2.num ≠ 0 → ∀ G2 H2 v z, Ex G' G2 → Lw H G none [] G2 H2 → Told G2 v z → Nm T.frac.C G2 z ro → Q v H2) → (r2.num = 0 → ∀ G2 H2 v, Ex G' G2 → Lw H G none [] G2 H2 → Rp G2 v (errD .div) → Q v H2) → sp_l_ground T [.int 0, .ref c, x, y] H' Q E0
  turn : r2.num ≠ 0 → ∀ G' H' Q, Ex G G' → Lw H G none [] G' H' → (∀ G2 H2 v, Ex G' G2 → Lw H G none [] G2 H2 → TI G2 v rv.num rv.den → Q v H2) → sp_low [.int m, .int r2.den, .int r2.num] H' Q E0
  dover : r2.num ≠ 0 → ∀ G' H' Q u, Ex G G' → Lw H G none [] G' H' → TI G' u rv.num rv.den → (∀ G2 H2 v, Ex G' G2 → Lw H G none [] G2 H2 → TI G2 v ro.num ro.den → Q v H2) → sp_times [.int m, one, u] H' Q E0
def sp_field (T : Tx K mg) : Sp := fun vs H Q _ => ∃ m x y one two r1 r2 rp rm rt r6 rv ro G, vs = [.int m, x, y, one, two] ∧ Lw H G none [] G H ∧ FieldOk T H G m x y one two r1 r2 rp rm rt r6 rv ro ∧ ∀ G' H', Lw H G none [] G' H' → Q (.bl true) H'
theorem ok_field (T : Tx K mg) : FnOk P w K mg base CX0 20 T.field.f T.field.fd ["prime", "a", "b", "one", "two"] (sp_field T) := by
  refine T.field.F.ok sc_field (fun vs H Q E h => ?_) (fun cdv A outer s H vs Q E hr h => ?_)
  · obtain ⟨m, x, y, one, two, r1, r2, rp, rm, rt, r6, rv, ro, G, rfl, _⟩ := h
    rfl
  · obtain ⟨m, x, y, one, two, r1, r2, rp, rm, rt, r6, rv, ro, G, rfl, lw, F, k⟩ := h
    refine ⟨_, (pss_cons (ps_set (i := 5) sc_field.nd rfl (.inl rfl) (UfR.pe_makeS T.groundMk (ok_g_init T) (hr.mono (by decide)) rfl T.ground.g T.g_init.b (fun σ => L2N.passAt UfT.takesN0 σ) (pa_cons (pv 0) pa_nil)))
      (pss_cons (ps_set (i := 6) sc_field.nd rfl (.inl rfl) (pe_call (ok_low T) (hr.mono (by decide)) (by rfl) T.low.g T.low.F.kp T.low.b .nil pass0 (pa_cons (pv 0) (pa_cons (pe_un un_neg (pe_ix (UfK.ix_tupK (K := K)) (pv 4) pe_int (fun _ _ => rfl))) (pa_cons (pe_ix (UfK.ix_tupK (K := K)) (pv 4) pe_int (fun _ _ => rfl)) pa_nil)))))
      (pss_cons (ps_set (i := 7) sc_field.nd rfl (.inr rfl) (pe_lst (pa_cons (pe_meth (pv 5) T.ground.c T.g_number.m (ok_g_number T) (hr.mono (by decide)) T.g_number.b .nil pass0 (pa_cons (pv 1) pa_nil)) (pa_cons (pe_meth (pv 5) T.ground.c T.g_plus.m (ok_g_plus T) (hr.mono (by decide)) T.g_plus.b .nil pass0 (pa_cons (pv 1) (pa_cons (pv 2) pa_nil))) (pa_cons (pe_meth (pv 5) T.ground.c T.g_minus.m (ok_g_minus T) (hr.mono (by decide)) T.g_minus.b .nil pass0 (pa_cons (pv 1) (pa_cons (pv 2) pa_nil))) (pa_cons (pe_meth (pv 5) T.ground.c T.g_times.m (ok_g_times T) (hr.mono (by decide)) T.g_times.b .nil pass0 (pa_cons (pv 1) (pa_cons (pv 2) pa_nil))) (pa_cons (pe_meth (pv 5) T.ground.c T.g_negative.m (ok_g_negative T) (hr.mono (by decide)) T.g_negative.b .nil pass0 (pa_cons (pv 2) pa_nil)) pa_nil)))))))
      (pss_cons (ps_set (i := 8) sc_field.nd rfl (.inr rfl) (pe_lst (pa_cons (pv 3) (pa_cons (pe_call (ok_plus T) (hr.mono (by decide)) (by rfl) T.plus.g T.plus.F.kp T.plus.b .nil pass0 (pa_cons (pv 0) (pa_cons (pv 3) (pa_cons (pv 4) pa_nil)))) (pa_cons (pe_call (ok_plus T) (hr.mono (by decide)) (by rfl) T.plus.g T.plus.F.kp T.plus.b .nil pass0 (pa_cons (pv 0) (pa_cons (pv 3) (pa_cons (pv 6) pa_nil)))) (pa_cons (pe_call (ok_times T) (hr.mono (by decide)) (by rfl) T.times.g T.times.F.kp T.times.b .nil pass0 (pa_cons (pv 0) (pa_cons (pv 3) (pa_cons (pv 4) pa_nil)))) (pa_cons (pv 6) pa_nil)))))))
      (pss_cons (ps_if (pt_not (pt_val (pe_callB (UfK.cr_allK (K := K) rfl) (by rfl) T.z_all (by decide +kernel) (pa_cons (pe_lc (own := [("k", 11)]) rfl sc_field.nd (pi_range1 rfl T.z_range (pa_cons pe_int pa_nil)) (blkOk_by (own := [("k", 11)]) (N := ["prime", "a", "b", "one", "two", "ground", "less", "told", "due", "answer", "turned", "k"]) (sc := defScope s_field) (by decide +kernel)) (fun _ _ _ _ _ => by exact pg_name (i := 11) sc_field.nd rfl (.inl rfl)) (fun _ _ _ _ _ => pts_nil) (fun _ _ _ _ _ => (pe_call (ok_is T) (hr.mono (by decide)) (by rfl) T.is.g T.is.F.kp T.is.b .nil pass0 (pa_cons (pe_ix (UfK.ix_listK (K := K)) (pv 7) (pv 11) (fun _ _ => rfl)) (pa_cons (pe_ix (UfK.ix_listK (K := K)) (pv 8) (pv 11) (fun _ _ => rfl)) pa_nil))))) pa_nil)))) (pss_one (ps_ret pe_bl)) pss_nil)
      (pss_cons (ps_set (i := 9) sc_field.nd rfl (.inl rfl) (pe_call (ok_l_ground T) (hr.mono (by decide)) (by rfl) T.l_ground.g T.l_ground.F.kp T.l_ground.b .nil pass0 (pa_cons pe_int (pa_cons (pv 5) (pa_cons (pv 1) (pa_cons (pv 2) pa_nil))))))
      (pss_cons (ps_if (pt_cmpR op_eq (pe_ix (UfK.ix_tupK (K := K)) (pv 4) pe_int (fun _ _ => rfl)) pe_int (nomark _)) (pss_one (ps_ret (pe_cmpR (UfK.op_eqDK (K := K) hr.units) (pv 9) (pe_tup (pa_cons pe_str pa_nil)) (nomark _)))) pss_nil)
      (pss_cons (ps_set (i := 10) sc_field.nd rfl (.inl rfl) (pe_call (ok_low T) (hr.mono (by decide)) (by rfl) T.low.g T.low.F.kp T.low.b .nil pass0 (pa_cons (pv 0) (pa_cons (pe_ix (UfK.ix_tupK (K := K)) (pv 4) pe_int (fun _ _ => rfl)) (pa_cons (pe_ix (UfK.ix_tupK (K := K)) (pv 4) pe_int (fun _ _ => rfl)) pa_nil)))))
      (pss_one (ps_ret (pe_and (pe_cmpR op_eq (pe_ix (UfK.ix_tupK (K := K)) (pv 9) pe_int (fun _ _ => rfl)) pe_str (nomark _)) (pe_one (pe_call (ok_is T) (hr.mono (by decide)) (by rfl) T.is.g T.is.F.kp T.is.b .nil pass0 (pa_cons (pe_ix (UfK.ix_tupK (K := K)) (pv 9) pe_int (fun _ _ => rfl)) (pa_cons (pe_call (ok_times T) (hr.mono (by decide)) (by rfl) T.times.g T.times.F.kp T.times.b .nil pass0 (pa_cons (pv 0) (pa_cons (pv 3) (pa_cons (pv 10) pa_nil)))) pa_nil))))))))))))))), ?_⟩
    obtain ⟨t2, rfl, h2⟩ := id F.h2
    refine seq_rest (fun σ' H' => ∃ (G1 : Hp) (c : Addr), σ' = [some (.int m), some x, some y, some one, some (.ref t2), some (.ref c), none, none, none, none, none, none] ∧ Lw H G none [] G1 H' ∧ Ex G G1 ∧ GrAt T.ground.C G1 c m) (fun σ' H' hp => ?_) (fun kk => ?_)
    rotate_left
    · refine ⟨_, rfl, fun x0 dx hx hd ne => ⟨m, call_make (Q := fun v H2 => gName 5 v _ H2 _) lw rfl (fun G1 H1 c e1 lw hv => ?_) (fun G' H' C d e l hv => ?_) x0 dx hx hd ne⟩⟩
      · exact kk _ _ ⟨G1, c, rfl, lw, e1, hv.2⟩
      · exact absurd F.hf (by rw [hv.1]; exact Bool.false_ne_true)
    obtain ⟨G1, c, rfl, lw, e1, hc⟩ := hp
    refine seq_rest (fun σ' H' => ∃ (G2 : Hp) (u : V), σ' = [some (.int m), some x, some y, some one, some (.ref t2), some (.ref c), some u, none, none, none, none, none] ∧ Lw H G none [] G2 H' ∧ Ex G1 G2 ∧ TI G2 u r6.num r6.den) (fun σ' H' hp => ?_) (fun kk => ?_)
    rotate_left
    · refine ⟨_, rfl, _, rfl, t2, _, 0, _, rfl, rfl, SqT.g lw (e1 _ _ h2), rfl, _, rfl, _, rfl, t2, _, 1, _, rfl, rfl, SqT.g lw (e1 _ _ h2), rfl, ?_⟩
      exact F.less _ _ _ e1 lw fun G2 H2 v e2 lw hv => kk _ _ ⟨G2, v, rfl, lw, e2, hv⟩
    obtain ⟨G2, u, rfl, lw, e2, hu⟩ := hp
    have e12 := e1.trans e2
    refine seq_rest (fun σ' H' => ∃ (G3 : Hp) (t : Addr) (v1 v2 v3 v4 v5 : V), σ' = [some (.int m), some x, some y, some one, some (.ref t2), some (.ref c), some u, some (.ref t), none, none, none, none] ∧ Lw H G none [] G3 H' ∧ Ex G2 G3 ∧ G3 t = some (.lst [v1, v2, v3, v4, v5]) ∧ Nm T.frac.C G3 v1 r1 ∧ Nm T.frac.C G3 v2 rp ∧ Nm T.frac.C G3 v3 rm ∧ Nm T.frac.C G3 v4 rt ∧ Nm T.frac.C G3 v5 r6) (fun σ' H' hp => ?_) (fun kk => ?_)
    rotate_left
    · obtain ⟨dx, hc'⟩ := hc.ex e2
      have ins : ∀ {G' H' : Hp}, Ex G2 G' → Lw H G none [] G' H' → H' c = some (.ins T.ground.C dx [("prime", .int m)]) := fun e lw => lw.gh _ _ (e _ _ hc')
      have R := Evl.Ex.refl G2
      refine ⟨_, rfl, c, dx, _, rfl, ins R lw, rfl, _, rfl, F.num _ _ _ _ e12 lw (hc.ex e2) fun G3 H3 v1 e3 lw n1 => ?_⟩
      refine ⟨_, rfl, c, dx, _, rfl, ins e3 lw, rfl, _, rfl, _, rfl, F.plus _ _ _ _ (e12.trans e3) lw (hc.ex (e2.trans e3)) fun G4 H4 v2 e4 lw n2 => ?_⟩
      have e34 := e3.trans e4
      refine ⟨_, rfl, c, dx, _, rfl, ins e34 lw, rfl, _, rfl, _, rfl, F.minus _ _ _ _ (e12.trans e34) lw (hc.ex (e2.trans e34)) fun G5 H5 v3 e5 lw n3 => ?_⟩
      have e35 := e34.trans e5
      refine ⟨_, rfl, c, dx, _, rfl, ins e35 lw, rfl, _, rfl, _, rfl, F.times _ _ _ _ (e12.trans e35) lw (hc.ex (e2.trans e35)) fun G6 H6 v4 e6 lw n4 => ?_⟩
      have e36 := e35.trans e6
      refine ⟨_, rfl, c, dx, _, rfl, ins e36 lw, rfl, _, rfl, F.neg _ _ _ _ (e12.trans e36) lw (hc.ex (e2.trans e36)) fun G7 H7 v5 e7 lw n5 => ?_⟩
      refine ⟨(by show 5 ≤ sizeLine; decide), fun t nt => ?_⟩
      obtain ⟨G8, e8, lw, h8⟩ := lw.allocE (o := .lst [v1, v2, v3, v4, v5]) nt
      exact kk _ _ ⟨G8, t, v1, v2, v3, v4, v5, rfl, lw, (e36.trans e7).trans e8, h8, n1.ex (((e4.trans e5).trans (e6.trans e7)).trans e8), n2.ex ((e5.trans (e6.trans e7)).trans e8), n3.ex ((e6.trans e7).trans e8), n4.ex (e7.trans e8), n5.ex e8⟩
    obtain ⟨G3, tt, v1, v2, v3, v4, v5, rfl, lw, e3, htt, n1, n2, n3, n4, n5⟩ := hp
    have e13 := e12.trans e3
    refine seq_rest (fun σ' H' => ∃ (G4 : Hp) (t : Addr) (d2 d3 d4 : V), σ' = [some (.int m), some x, some y, some one, some (.ref t2), some (.ref c), some u, some (.ref tt), some (.ref t), none, none, none] ∧ Lw H G none [] G4 H' ∧ Ex G3 G4 ∧ G4 t = some (.lst [one, d2, d3, d4, u]) ∧ TI G4 d2 rp.num rp.den ∧ TI G4 d3 rm.num rm.den ∧ TI G4 d4 rt.num rt.den) (fun σ' H' hp => ?_) (fun kk => ?_)
    rotate_left
    · refine ⟨_, rfl, _, rfl, _, rfl, _, rfl, F.dplus _ _ _ e13 lw fun G4 H4 d2 e4 lw m2 => ?_⟩
      refine ⟨_, rfl, _, rfl, _, rfl, F.dminus _ _ _ _ (e13.trans e4) lw (hu.ex (e3.trans e4)) fun G5 H5 d3 e5 lw m3 => ?_⟩
      refine ⟨_, rfl, _, rfl, _, rfl, F.dtimes _ _ _ ((e13.trans e4).trans e5) lw fun G6 H6 d4 e6 lw m4 => ?_⟩
      refine ⟨_, rfl, (by show 5 ≤ sizeLine; decide), fun t nt => ?_⟩
      obtain ⟨G7, e7, lw, h7⟩ := lw.allocE (o := .lst [one, d2, d3, d4, u]) nt
      exact kk _ _ ⟨G7, t, d2, d3, d4, rfl, lw, (e4.trans e5).trans (e6.trans e7), h7, m2.ex ((e5.trans e6).trans e7), m3.ex (e6.trans e7), m4.ex e7⟩
    obtain ⟨G4, td, d2, d3, d4, rfl, lw, e4, htd, m2, m3, m4⟩ := hp
    have e14 := e13.trans e4
    have pair : ∀ i, i < 5 → ∃ v d r, ([v1, v2, v3, v4, v5] : List V)[i]? = some v ∧ ([one, d2, d3, d4, u] : List V)[i]? = some d ∧ Nm T.frac.C G4 v r ∧ TI G4 d r.num r.den := fun i hi =>
      match i, hi with
      | 0, _ => ⟨_, _, _, rfl, rfl, n1.ex e4, F.h1.ex e14⟩
      | 1, _ => ⟨_, _, _, rfl, rfl, n2.ex e4, m2⟩
      | 2, _ => ⟨_, _, _, rfl, rfl, n3.ex e4, m3⟩
      | 3, _ => ⟨_, _, _, rfl, rfl, n4.ex e4, m4⟩
      | 4, _ => ⟨_, _, _, rfl, rfl, n5.ex e4, hu.ex (e3.trans e4)⟩
    have htt := e4 _ _ htt
    refine seq_rest (fun σ' H' => ∃ (G5 : Hp), σ' = [some (.int m), some x, some y, some one, some (.ref t2), some (.ref c), some u, some (.ref tt), some (.ref td), none, none, none] ∧ Lw H G none [] G5 H' ∧ Ex G4 G5) (fun σ' H' hp => ?_) (fun kk => ?_)
    rotate_left
    · refine ⟨5, rfl, by decide, by decide, fun D hD => lc_trueR lw hD (by decide) (fun i G' H' acc hi e lw hac Nx nx => ?_) (fun G23 H23 e23 lw hD => ?_)⟩
      · obtain ⟨v, d, r, hv, hd, nv, td'⟩ := pair i hi
        rw [Int.zero_add]
        exact ⟨rfl, _, rfl, _, rfl, tt, _, _, _, rfl, rfl, SqL.g lw (e _ _ htt), atI_nat hv, _, rfl, _, rfl, td, _, _, _, rfl, rfl, SqL.g lw (e _ _ htd), atI_nat hd, call_is lw (nv.ex e) (td'.ex e) fun G2 H2 e2 lw => ⟨_, lw.at, Evl.sz_lt (by rw [hac]; have : i < 5 := hi; omega), nx _ _ e2 lw.put⟩⟩
      · refine ⟨D, _, rfl, SqL.g lw hD, ?_⟩
        rw [all_true]
        exact ⟨true, rfl, iteF (kk _ _ ⟨_, rfl, lw, e23⟩)⟩
    obtain ⟨G5, rfl, lw, e5⟩ := hp
    have e15 := e14.trans e5
    refine seq_rest (fun σ' H' => ∃ (G6 : Hp) (v : V), σ' = [some (.int m), some x, some y, some one, some (.ref t2), some (.ref c), some u, some (.ref tt), some (.ref td), some v, none, none] ∧ Lw H G none [] G6 H' ∧ Ex G5 G6 ∧ ((r2.num ≠ 0 ∧ ∃ z, Told G6 v z ∧ Nm T.frac.C G6 z ro) ∨ (r2.num = 0 ∧ Rp G6 v (errD .div)))) (fun σ' H' hp => ?_) (fun kk => ?_)
    rotate_left
    · refine ⟨_, rfl, _, rfl, _, rfl, ?_⟩
      exact F.over _ _ _ _ e15 lw (hc.ex ((e2.trans e3).trans (e4.trans e5))) (fun nz G6 H6 v z e6 lw hv nz' => kk _ _ ⟨G6, v, rfl, lw, e6, .inl ⟨nz, z, hv, nz'⟩⟩) fun z G6 H6 v e6 lw r => kk _ _ ⟨G6, v, rfl, lw, e6, .inr ⟨z, r⟩⟩
    obtain ⟨G6, v, rfl, lw, e6, hv⟩ := hp
    have e16 := e15.trans e6
    refine seq_rest (fun σ' H' => σ' = [some (.int m), some x, some y, some one, some (.ref t2), some (.ref c), some u, some (.ref tt), some (.ref td), some v, none, none] ∧ Lw H G none [] G6 H' ∧ r2.num ≠ 0) (fun σ' H' hp => ?_) (fun kk => ?_)
    rotate_left
    · refine ⟨_, rfl, t2, _, 0, _, rfl, rfl, SqT.g lw (e16 _ _ h2), rfl, rfl, _, rfl, ite2 (fun h => ?_) (fun h => ?_)⟩
      · have h : r2.num = 0 := by simpa using h
        rcases hv with ⟨nz, _⟩ | ⟨_, r⟩
        · exact absurd h nz
        · refine ⟨_, rfl, (by show 1 ≤ sizeLine; decide), fun t nt => ?_⟩
          obtain ⟨G7, e7, lw, h7⟩ := lw.allocE (o := .tup [.str "DivisionByZero"]) nt
          exact r_eqE lw (r.ex e7) (rp_div h7) (no_text fun _ => nofun) (k _ _ lw)
      · exact kk _ _ ⟨rfl, lw, by simpa using h⟩
    obtain ⟨rfl, lw, nz⟩ := hp
    refine seq_rest (fun σ' H' => ∃ (G7 : Hp) (w : V), σ' = [some (.int m), some x, some y, some one, some (.ref t2), some (.ref c), some u, some (.ref tt), some (.ref td), some v, some w, none] ∧ Lw H G none [] G7 H' ∧ Ex G6 G7 ∧ TI G7 w rv.num rv.den) (fun σ' H' hp => ?_) (fun kk => ?_)
    rotate_left
    · refine ⟨_, rfl, _, rfl, t2, _, 1, _, rfl, rfl, SqT.g lw (e16 _ _ h2), rfl, _, rfl, t2, _, 0, _, rfl, rfl, SqT.g lw (e16 _ _ h2), rfl, ?_⟩
      exact F.turn nz _ _ _ e16 lw fun G7 H7 w e7 lw hw => kk _ _ ⟨G7, w, rfl, lw, e7, hw⟩
    obtain ⟨G7, w', rfl, lw, e7, hw⟩ := hp
    rcases hv with ⟨_, z, ⟨t, rfl, ht⟩, nz'⟩ | ⟨z, _⟩
    · have ht := e7 _ _ ht
      refine ⟨_, rfl, t, _, 0, _, rfl, rfl, SqT.g lw ht, rfl, rfl, _, rfl, ite2 (fun _ => ?_) (fun z => (z (decide_eq_true rfl)).elim)⟩
      refine ⟨_, rfl, t, _, 1, _, rfl, rfl, SqT.g lw ht, rfl, _, rfl, _, rfl, _, rfl, F.dover nz _ _ _ _ (e16.trans e7) lw hw fun G8 H8 d e8 lw hd => ?_⟩
      exact call_is lw (nz'.ex (e7.trans e8)) hd fun G9 H9 e9 lw => k _ _ lw
    · exact absurd z nz
end
end K01

namespace K01
open PySem PySem.Spec PyProof.Rows L2 UfG UfT UfR UfO UfI UfQ UfN SX UfX UfD
open Evl (Ex)
section
variable {P : Program} {w : World} {K : PySem.W.Frag} {mg : Str → Option Value} {base : Heap}
theorem fr_sm {b : Nat} {q : Rat} (s : Sm b q) (h : q.num ≠ 0) : Sm b (fr q.den q.num) := by
  have z := fr_le (n := (q.den : Int)) h
  have s1 := s.1
  have s2 := s.2
  rw [Int.natAbs_natCast] at z
  exact ⟨by omega, by omega⟩
theorem field0 {T : Tx K mg} {H G : Hp} {x y one two : V} {q1 q2 : Rat} (hx : Nm T.frac.C G x q1) (hy : Nm T.frac.C G y q2) (h1 : TI G one q1.num q1.den) (h2 : TI G two q2.num q2.den) (s1 : Sm 400 q1) (s2 : Sm 400 q2) :
    FieldOk T H G 0 x y one two q1 q2 (q1 + q2) (q1 - q2) (q1 * q2) (-q2) (fr q2.den q2.num) (q1 / q2) := by
  have S1 : Sm 4000 q1 := sm_mono s1 (by decide)
  have S2 : Sm 4000 q2 := sm_mono s2 (by decide)
  have U1 : Sm 990 q1 := sm_mono s1 (by decide)
  have U2 : Sm 990 q2 := sm_mono s2 (by decide)
  have W2 : Sm 2000 q2 := sm_mono s2 (by decide)
  have num0 : q2.num = 0 ↔ q2 = 0 := Rat.num_eq_zero
  refine ⟨rfl, h1, h2, fun G' H' c Q e lw hc k => m_number0 lw hc (hx.ex e) k, fun G' H' c Q e lw hc k => m_plus0 lw hc (hx.ex e) (hy.ex e) S1 S2 k, fun G' H' c Q e lw hc k => m_minus0 lw hc (hx.ex e) (hy.ex e) S1 S2 k,
    fun G' H' c Q e lw hc k => m_times0 lw hc (hx.ex e) (hy.ex e) S1 S2 k, fun G' H' c Q e lw hc k => m_neg0 lw hc (hy.ex e) S2 k, fun G' H' Q e lw k => ?_,
    fun G' H' Q e lw k => call_plus0 lw (h1.ex e) (h2.ex e) U1 U2 k, fun G' H' Q u e lw hu k => ?_, fun G' H' Q e lw k => call_times0L lw (h1.ex e) (h2.ex e) U1 U2 k,
    fun G' H' c Q e lw hc k kx => ?_, fun nz G' H' Q e lw k => ?_, fun nz G' H' Q u e lw hu k => ?_⟩
  · refine call_low0 lw (den_ne q2) (by rw [Int.natAbs_neg]; exact W2.1) (sm_den W2) fun G2 H2 v e2 lw hv => k _ _ v e2 lw ?_
    have z : fr (-q2.num) q2.den = -q2 := by
      have := q_fr (-q2)
      rw [Rat.neg_num, Rat.neg_den] at this
      exact this
    rw [z] at hv
    exact hv
  · refine call_plus0 lw (h1.ex e) hu U1 (neg_sm U2) fun G2 H2 v e2 lw hv => k _ _ v e2 lw ?_
    rw [← Rat.sub_eq_add_neg] at hv
    exact hv
  · refine call_over0 lw hc (hx.ex e) (hy.ex e) S1 S2 (fun z G2 H2 v u e2 lw hv nu => k (fun y => z (num0.mp y)) _ _ v u e2 lw hv nu) fun z G2 H2 v e2 lw r => kx (num0.mpr z) _ _ v e2 lw r
  · exact call_low0 lw nz (sm_den W2) W2.1 k
  · refine call_times0L lw (h1.ex e) hu U1 (fr_sm U2 nz) fun G2 H2 v e2 lw hv => k _ _ v e2 lw ?_
    have z : q1 * fr q2.den q2.num = q1 / q2 := by
      have e : q2⁻¹ = fr q2.den q2.num := by
        conv => lhs; rw [← q_fr q2]
        exact Rat.inv_divInt _ _
      rw [Rat.div_def, e]
    rw [z] at hv
    exact hv
theorem ti_i {G : Hp} {v : V} {i : Int} (h : TI G v i 1) : TI G v ((i : Int) : Rat).num (((i : Int) : Rat).den : Int) := by
  rw [ofInt_num, ofInt_den]
  exact h
theorem it_i {G : Hp} {v : V} {i : Int} (h : TI G v ((i : Int) : Rat).num (((i : Int) : Rat).den : Int)) : TI G v i 1 := by
  rw [ofInt_num, ofInt_den] at h
  exact h
theorem mod_sm {i m : Int} (hm : 2 ≤ m ∧ m < 1000) {b : Nat} (hb : 10 ≤ b) : (i % m).natAbs < 2 ^ b := by
  have h0 := Int.emod_nonneg i (show m ≠ 0 by omega)
  have h1 := Int.emod_lt_of_pos i (show 0 < m by omega)
  exact Nat.lt_of_lt_of_le (show (i % m).natAbs < 2 ^ 10 by have : (2 : Nat) ^ 10 = 1024 := rfl; omega) (Nat.pow_le_pow_right (by decide) hb)
theorem fieldP {T : Tx K mg} {H G : Hp} {m i j : Int} {one two : V} (hf : fitP m = true) (hm : 2 ≤ m ∧ m < 1000) (h1 : TI G one (i % m) 1) (h2 : TI G two (j % m) 1) (ib : i.natAbs < 2 ^ 900) (jb : j.natAbs < 2 ^ 900) :
    FieldOk T H G m (.int i) (.int j) one two ((i % m : Int) : Rat) ((j % m : Int) : Rat) (((i + j) % m : Int) : Rat) (((i + -j) % m : Int) : Rat) (((i * j) % m : Int) : Rat) (((-j) % m : Int) : Rat) (((1 * ((j % m) ^ (m - 2).toNat % m)) % m : Int) : Rat) (((i * (j ^ (m - 2).toNat % m)) % m : Int) : Rat) := by
  have m0 : 0 < m := by omega
  have mb : m.natAbs < 2 ^ 4000 := Nat.lt_trans (show m.natAbs < 1000 by omega) (by decide +kernel)
  have I4 : i.natAbs < 2 ^ 4000 := Nat.lt_trans ib (by decide +kernel)
  have J4 : j.natAbs < 2 ^ 4000 := Nat.lt_trans jb (by decide +kernel)
  have bm : ∀ x : Int, (x % m).natAbs < 2 ^ 990 := fun x => mod_sm hm (by decide)
  refine ⟨hf, ti_i h1, ti_i h2, fun G' H' c Q e lw hc k => m_numberP lw hc m0 fun G2 H2 e2 lw => ?_, fun G' H' c Q e lw hc k => m_plusP lw hc m0 fun G2 H2 e2 lw => ?_, fun G' H' c Q e lw hc k => m_minusP lw hc m0 fun G2 H2 e2 lw => ?_,
    fun G' H' c Q e lw hc k => m_timesP lw hc m0 I4 J4 fun G2 H2 e2 lw => ?_, fun G' H' c Q e lw hc k => m_negP lw hc m0 fun G2 H2 e2 lw => ?_, fun G' H' Q e lw k => ?_,
    fun G' H' Q e lw k => ?_, fun G' H' Q u e lw hu k => ?_, fun G' H' Q e lw k => ?_,
    fun G' H' c Q e lw hc k kx => ?_, fun nz G' H' Q e lw k => ?_, fun nz G' H' Q u e lw hu k => ?_⟩
  · exact k _ _ _ e2 lw (.ofInt _)
  · exact k _ _ _ e2 lw (.ofInt _)
  · exact k _ _ _ e2 lw (.ofInt _)
  · exact k _ _ _ e2 lw (.ofInt _)
  · exact k _ _ _ e2 lw (.ofInt _)
  · show sp_low [.int m, .int (-(j % m)), .int 1] H' Q E0
    refine call_lowP lw hm (by rw [Int.natAbs_neg]; exact mod_sm hm (by decide)) (by decide +kernel) fun G2 H2 v e2 lw hv => k _ _ v e2 lw (ti_i ?_)
    rw [Int.one_pow, one_mod hm.1, Int.mul_one, neg_mod] at hv
    exact hv
  · refine call_plusP lw hm (h1.ex e) (h2.ex e) (bm i) (bm j) fun G2 H2 v e2 lw hv => k _ _ v e2 lw (ti_i ?_)
    rw [← Int.add_emod] at hv
    exact hv
  · refine call_plusP lw hm (h1.ex e) (it_i hu) (bm i) (bm _) fun G2 H2 v e2 lw hv => k _ _ v e2 lw (ti_i ?_)
    rw [← Int.add_emod] at hv
    exact hv
  · refine call_timesPL lw hm (h1.ex e) (h2.ex e) (bm i) (bm j) fun G2 H2 v e2 lw hv => k _ _ v e2 lw (ti_i ?_)
    rw [← Int.mul_emod] at hv
    exact hv
  · refine call_overP lw hc hm.1 mb I4 (fun z G2 H2 v e2 lw hv => k (fun y => z ?_) _ _ v _ e2 lw hv ?_) fun z G2 H2 v e2 lw r => kx ?_ _ _ v e2 lw r
    · rw [fme m0]
      exact y
    · rw [fme m0, fme m0]
      exact .ofInt _
    · rw [fme m0] at z
      exact z
  · show sp_low [.int m, .int 1, .int (j % m)] H' Q E0
    exact call_lowP lw hm (by decide +kernel) (mod_sm hm (by decide)) fun G2 H2 v e2 lw hv => k _ _ v e2 lw (ti_i hv)
  · refine call_timesPL lw hm (h1.ex e) (it_i hu) (bm i) (bm _) fun G2 H2 v e2 lw hv => k _ _ v e2 lw (ti_i ?_)
    rw [Int.one_mul, pow_mod, Int.emod_emod, ← Int.mul_emod] at hv
    rw [Int.mul_emod, Int.emod_emod, ← Int.mul_emod]
    exact hv
/-! ### _law_power, _law_powers -/
theorem sc_l_power : FnScope ["prime", "pair", "count", "num", "den", "k"] ["prime", "pair", "count"] (defScope s_l_power) := ⟨rfl, rfl, rfl, by decide +kernel, rfl, by decide +kernel, by decide +kernel⟩
def sp_l_power : Sp := fun vs H Q E => (∃ (a b : Int) (n : Nat), PureSp (fun vs G => ∃ x, vs = [.int 0, x, .int n] ∧ TI G x a b ∧ n ≤ 1000 ∧ ∀ e ≤ n, (a ^ e).natAbs < 2 ^ 4000 ∧ (b ^ e).natAbs < 2 ^ 4000) (fun _ _ G' v => TI G' v (a ^ n) (b ^ n)) vs H Q E) ∨
  ∃ (m a : Int) (n : Nat), PureSp (fun vs G => ∃ x, vs = [.int m, x, .int n] ∧ TI G x a 1 ∧ n ≤ 1000 ∧ 2 ≤ m ∧ m < 1000 ∧ a.natAbs < 2 ^ 900) (fun _ _ G' v => TI G' v (a ^ n % m) 1) vs H Q E
theorem ok_l_power (T : Tx K mg) : FnOk P w K mg base CX0 1 T.l_power.f T.l_power.fd ["prime", "pair", "count"] sp_l_power := by
  refine T.l_power.F.ok sc_l_power (fun vs H Q E h => ?_) (fun cdv A outer s H vs Q E hr h => ?_)
  · rcases h with ⟨a, b, n, G, _, ⟨x, rfl, _⟩, _⟩ | ⟨m, a, n, G, _, ⟨x, rfl, _⟩, _⟩ <;> rfl
  · refine ⟨_, (pss_cons (ps_set (i := 3) sc_l_power.nd rfl (.inl rfl) pe_int)
      (pss_cons (ps_set (i := 4) sc_l_power.nd rfl (.inl rfl) pe_int)
      (pss_cons (ps_for PassesOwn.never rfl (pi_range1 rfl T.z_range (pa_cons (pv 2) pa_nil)) (pg_name (i := 5) sc_l_power.nd rfl (.inl rfl)) (pss_cons (ps_set (i := 3) sc_l_power.nd rfl (.inl rfl) (pe_op op_mulW (pv 3) (pe_ix (UfK.ix_tupK (K := K)) (pv 1) pe_int (fun _ _ => rfl))))
      (pss_cons (ps_set (i := 4) sc_l_power.nd rfl (.inl rfl) (pe_op op_mulW (pv 4) (pe_ix (UfK.ix_tupK (K := K)) (pv 1) pe_int (fun _ _ => rfl))))
      (pss_one (ps_if (pt_cmpR op_gt (pv 0) pe_int (nomark _)) (pss_one (ps_set (i := 3) sc_l_power.nd rfl (.inl rfl) (pe_op op_modN (pe_callTy call_int1 (by rfl) T.z_int (by decide +kernel) (pa_cons (pv 3) pa_nil)) (pv 0)))) pss_nil)))))
      (pss_one (ps_ret (pe_tup (pa_cons (pv 3) (pa_cons (pv 4) pa_nil)))))))), ?_⟩
    rcases h with ⟨a, b, n, G, lw, ⟨x, rfl, ⟨t, rfl, ht⟩, nz, bd⟩, k⟩ | ⟨m, a, n, G, lw, ⟨x, rfl, ⟨t, rfl, ht⟩, nz, m2, m3, ab⟩, k⟩
    · refine ⟨_, rfl, _, rfl, by omega, by omega, for_range (fun j σ H' => ∃ z, σ = [some (.int 0), some (.ref t), some (.int n), some (.int (a ^ j)), some (.int (b ^ j)), z] ∧ Lw H G none [] G H') ⟨none, by rw [Int.pow_zero, Int.pow_zero]; rfl, lw⟩ (fun j σ H' hj hp => ?_) (fun σ H' hp => ?_)⟩
      · obtain ⟨z, rfl, lw⟩ := hp
        have hj : j < n := by
          have : ((n : Int)).toNat = n := Int.toNat_natCast n
          omega
        have bj := bd j (by omega)
        have b1 := bd 1 (by omega)
        rw [Int.pow_succ, Int.pow_zero, Int.one_mul, Int.pow_succ, Int.pow_zero, Int.one_mul] at b1
        refine ⟨_, rfl, _, rfl, t, _, 0, _, rfl, rfl, SqT.g lw ht, rfl, _, _, rfl, rfl, sm_mul bj.1 b1.1, _, rfl, _, rfl, t, _, 1, _, rfl, rfl, SqT.g lw ht, rfl, _, _, rfl, rfl, sm_mul bj.2 b1.2, ?_⟩
        refine ⟨_, rfl, _, _, rfl, rfl, _, rfl, ite2 (fun z => by simp at z) (fun _ => ⟨some (.int (0 + (j : Nat))), ?_, lw⟩)⟩
        rw [Int.pow_succ, Int.pow_succ]
        rfl
      · obtain ⟨z, rfl, lw⟩ := hp
        rw [Int.toNat_natCast]
        refine ⟨_, rfl, _, rfl, (by show 2 ≤ sizeLine; decide), fun u nu => ?_⟩
        obtain ⟨G2, e2, lw, h2⟩ := lw.allocE (o := .tup [.int (a ^ n), .int (b ^ n)]) nu
        exact k _ _ _ lw ⟨u, rfl, h2⟩
    · have mb : m.natAbs < 2 ^ 4000 := Nat.lt_trans (show m.natAbs < 1000 by omega) (by decide +kernel)
      have ab4 : a.natAbs < 2 ^ 4000 := Nat.lt_trans ab (by decide +kernel)
      refine ⟨_, rfl, _, rfl, by omega, by omega, for_range (fun j σ H' => ∃ z, σ = [some (.int m), some (.ref t), some (.int n), some (.int (a ^ j % m)), some (.int 1), z] ∧ Lw H G none [] G H') ⟨none, ?_, lw⟩ (fun j σ H' hj hp => ?_) (fun σ H' hp => ?_)⟩
      · rw [Int.pow_zero, one_mod m2]
        rfl
      · obtain ⟨z, rfl, lw⟩ := hp
        refine ⟨_, rfl, _, rfl, t, _, 0, _, rfl, rfl, SqT.g lw ht, rfl, _, _, rfl, rfl, sm_mul (mod_sm ⟨m2, m3⟩ (by decide)) ab4, _, rfl, _, rfl, t, _, 1, _, rfl, rfl, SqT.g lw ht, rfl, _, _, rfl, rfl, sm_mul (by decide +kernel) (by decide +kernel), ?_⟩
        refine ⟨_, rfl, _, _, rfl, rfl, _, rfl, ite2 (fun _ => ?_) (fun z => (z (decide_eq_true (show (0 : Int) < m by omega))).elim)⟩
        refine ⟨_, rfl, .inl ⟨_, rfl, _, rfl, _, _, rfl, rfl, (show m ≠ 0 by omega), some (.int (0 + (j : Nat))), ?_, lw⟩⟩
        show [some (V.int m), some (V.ref t), some (V.int n), some (V.int ((a ^ j % m * a).fmod m)), some (V.int (1 * 1)), _] = _
        rw [fme (by omega), Int.pow_succ, Int.mul_emod (a ^ j % m) a, Int.emod_emod, ← Int.mul_emod]
        rfl
      · obtain ⟨z, rfl, lw⟩ := hp
        rw [Int.toNat_natCast]
        refine ⟨_, rfl, _, rfl, (by show 2 ≤ sizeLine; decide), fun u nu => ?_⟩
        obtain ⟨G2, e2, lw, h2⟩ := lw.allocE (o := .tup [.int (a ^ n % m), .int 1]) nu
        exact k _ _ _ lw ⟨u, rfl, h2⟩
theorem sc_powers : FnScope ["prime", "pair", "count", "answer"] ["prime", "pair", "count"] (defScope s_powers) := ⟨rfl, rfl, rfl, by decide +kernel, rfl, by decide +kernel, by decide +kernel⟩
/-- a power of a number of a ground: what the program tells and what the law reckons -/
structure PowOk (T : Tx K mg) (H G : Hp) (m : Int) (pair : V) (n : Int) (q r : Rat) : Prop where
  hf : fitP m = true
  hand : ∀ G' H' Q, Ex G G' → Lw H G none [] G' H' → (∀ G2 H2 v, Ex G' G2 → Lw H G none [] G2 H2 → Nm T.frac.C G2 v q → Q v H2) → sp_hand T [pair] H' Q E0
  pow : ∀ G' H' c v Q, Ex G G' → Lw H G none [] G' H' → GrAt T.ground.C G' c m → Nm T.frac.C G' v q → (0 ≤ n ∧ n ≤ 100 → ∀ G2 H2 u z, Ex G' G2 → Lw H G none [] G2 H2 → Told G2 u z → Nm T.frac.C G2 z r → Q u H2) → (¬ (0 ≤ n ∧ n ≤ 100) → ∀ G2 H2 u, Ex G' G2 → Lw H G none [] G2 H2 → Rp G2 u (errD (.count n)) → Q u H2) → sp_l_ground T [.int 1, .ref c, v, .int n] H' Q E0
  due : 0 ≤ n ∧ n ≤ 100 → ∀ G' H' Q, Ex G G' → Lw H G none [] G' H' → (∀ G2 H2 v, Ex G' G2 → Lw H G none [] G2 H2 → TI G2 v r.num r.den → Q v H2) → sp_l_power [.int m, pair, .int n] H' Q E0
theorem pow0 {T : Tx K mg} {H G : Hp} {pair : V} {n : Int} {q : Rat} (hp : TI G pair q.num q.den) (sm : ∀ e ≤ n.toNat, Sm 4000 (q ^ e)) (hd : q.den < 2 ^ 4000) : PowOk T H G 0 pair n q (q ^ n.toNat) := by
  refine ⟨rfl, fun G' H' Q e lw k => call_hand lw (hp.ex e) hd k, fun G' H' c v Q e lw hc hv k kx => call_pow0 lw hc hv sm k kx, fun hn G' H' Q e lw k => ?_⟩
  obtain ⟨i, rfl⟩ := Int.eq_ofNat_of_zero_le hn.1
  rw [Int.toNat_natCast] at sm k
  refine .inl ⟨q.num, q.den, i, call_pure lw ⟨pair, rfl, hp.ex e, by omega, fun e he => ?_⟩ fun G2 H2 v e2 lw hv => k _ _ v e2 lw ?_⟩
  · have s := sm e he
    have s2 := sm_den s
    have s1 := s.1
    rw [Rat.num_pow] at s1
    rw [Rat.den_pow, Int.natCast_pow] at s2
    exact ⟨s1, s2⟩
  · rw [Rat.num_pow, Rat.den_pow, Int.natCast_pow]
    exact hv
theorem powP {T : Tx K mg} {H G : Hp} {m i n : Int} {pair : V} (hf : fitP m = true) (hm : 2 ≤ m ∧ m < 1000) (hp : TI G pair i 1) (ib : i.natAbs < 2 ^ 900) : PowOk T H G m pair n (i : Rat) ((i ^ n.toNat % m : Int) : Rat) := by
  have m0 : 0 < m := by omega
  have mb : m.natAbs < 2 ^ 4000 := Nat.lt_trans (show m.natAbs < 1000 by omega) (by decide +kernel)
  refine ⟨hf, fun G' H' Q e lw k => call_hand lw (ti_i (hp.ex e)) (by show 1 < 2 ^ 4000; decide +kernel) k, fun G' H' c v Q e lw hc hv k kx => ?_, fun hn G' H' Q e lw k => ?_⟩
  · rw [Nm.toInt hv]
    refine call_powP lw hc m0 mb (fun z G2 H2 v e2 lw hv => k z _ _ v _ e2 lw hv ?_) kx
    rw [fme m0]
    exact .ofInt _
  · obtain ⟨j, rfl⟩ := Int.eq_ofNat_of_zero_le hn.1
    rw [Int.toNat_natCast] at k
    exact .inr ⟨m, i, j, call_pure lw ⟨pair, rfl, hp.ex e, by omega, hm.1, hm.2, ib⟩ fun G2 H2 v e2 lw hv => k _ _ v e2 lw (ti_i hv)⟩
def sp_powers (T : Tx K mg) : Sp := fun vs H Q _ => ∃ m pair n q r G, vs = [.int m, pair, .int n] ∧ Lw H G none [] G H ∧ PowOk T H G m pair n q r ∧ ∀ G' H', Lw H G none [] G' H' → Q (.bl true) H'
theorem ok_powers (T : Tx K mg) : FnOk P w K mg base CX0 20 T.powers.f T.powers.fd ["prime", "pair", "count"] (sp_powers T) := by
  refine T.powers.F.ok sc_powers (fun vs H Q E h => ?_) (fun cdv A outer s H vs Q E hr h => ?_)
  · obtain ⟨m, pair, n, q, r, G, rfl, _⟩ := h
    rfl
  · obtain ⟨m, pair, n, q, r, G, rfl, lw, F, k⟩ := h
    refine ⟨_, (pss_cons (ps_set (i := 3) sc_powers.nd rfl (.inl rfl) (pe_call (ok_l_ground T) (hr.mono (by decide)) (by rfl) T.l_ground.g T.l_ground.F.kp T.l_ground.b .nil pass0 (pa_cons pe_int (pa_cons (UfR.pe_makeS T.groundMk (ok_g_init T) (hr.mono (by decide)) rfl T.ground.g T.g_init.b (fun σ => L2N.passAt UfT.takesN0 σ) (pa_cons (pv 0) pa_nil)) (pa_cons (pe_call (ok_hand T) (hr.mono (by decide)) (by rfl) T.hand.g T.hand.F.kp T.hand.b .nil pass0 (pa_cons (pv 1) pa_nil)) (pa_cons (pv 2) pa_nil))))))
      (pss_cons (ps_if (PW.pt (pw_or (pt_cmpR op_lt (pv 2) pe_int (nomark _)) (pw_or1 (pt_cmpR op_gt (pv 2) pe_int (nomark _))))) (pss_one (ps_ret (pe_cmpR (UfK.op_eqDK (K := K) hr.units) (pv 3) (pe_tup (pa_cons pe_str (pa_cons (pv 2) pa_nil))) (nomark _)))) pss_nil)
      (pss_one (ps_ret (pe_and (pe_cmpR op_eq (pe_ix (UfK.ix_tupK (K := K)) (pv 3) pe_int (fun _ _ => rfl)) pe_str (nomark _)) (pe_one (pe_call (ok_is T) (hr.mono (by decide)) (by rfl) T.is.g T.is.F.kp T.is.b .nil pass0 (pa_cons (pe_ix (UfK.ix_tupK (K := K)) (pv 3) pe_int (fun _ _ => rfl)) (pa_cons (pe_call (ok_l_power T) (hr.mono (by decide)) (by rfl) T.l_power.g T.l_power.F.kp T.l_power.b .nil pass0 (pa_cons (pv 0) (pa_cons (pv 1) (pa_cons (pv 2) pa_nil)))) pa_nil))))))))), ?_⟩
    refine seq_rest (fun σ' H' => ∃ (G1 : Hp) (v : V), σ' = [some (.int m), some pair, some (.int n), some v] ∧ Lw H G none [] G1 H' ∧ Ex G G1 ∧ ((0 ≤ n ∧ n ≤ 100 ∧ ∃ z, Told G1 v z ∧ Nm T.frac.C G1 z r) ∨ (¬ (0 ≤ n ∧ n ≤ 100) ∧ Rp G1 v (errD (.count n))))) (fun σ' H' hp => ?_) (fun kk => ?_)
    rotate_left
    · refine ⟨_, rfl, fun x0 dx hx hd ne => g_init_mono (fun v H2 h => ⟨h.1, ?_⟩) (fun c d H h => h.elim) (mk_ground (Q := fun v H2 => ∃ G1 c, v = .ref c ∧ Lw H G none [] G1 H2 ∧ Ex G G1 ∧ GrAt T.ground.C G1 c m) (E := fun _ _ _ => False) lw F.hf (fun G1 H1 c e1 lw hc => ⟨G1, c, rfl, lw, e1, hc⟩) x0 dx hx hd ne)⟩
      obtain ⟨G1, c, e, lw, e1, hc⟩ := h.2
      obtain rfl : x0 = c := by injection e
      refine ⟨_, rfl, F.hand _ _ _ e1 lw fun G2 H2 v e2 lw hv => ⟨_, rfl, ?_⟩⟩
      exact F.pow _ _ _ _ _ (e1.trans e2) lw (hc.ex e2) hv (fun hn G3 H3 u z e3 lw hu hz => kk _ _ ⟨G3, u, rfl, lw, (e1.trans e2).trans e3, .inl ⟨hn.1, hn.2, z, hu, hz⟩⟩) fun hn G3 H3 u e3 lw r => kk _ _ ⟨G3, u, rfl, lw, (e1.trans e2).trans e3, .inr ⟨hn, r⟩⟩
    obtain ⟨G1, v, rfl, lw, e1, hv⟩ := hp
    have fin : 0 ≤ n ∧ n ≤ 100 → ∀ H', Lw H G none [] G1 H' → tRet (tAndV (tOp rEq (tOp (rIxT K) (tVar 3) (tC (V.int 0))) (tC (V.str (Str.ofString "told")))) (tCall (sp_is T) [] E0 (tCons (tOp (rIxT K) (tVar 3) (tC (V.int 1))) (tCons (tCall sp_l_power [] E0 (tCons (tVar 0) (tCons (tVar 1) (tCons (tVar 2) tNil)))) tNil))))
        { nx := fun x H' => Q V.non H', rt := Q } [some (.int m), some pair, some (.int n), some v] H' := fun hn H' lw => by
      rcases hv with ⟨_, _, z, ⟨t, rfl, ht⟩, nz⟩ | ⟨z, _⟩
      · refine ⟨_, rfl, t, _, 0, _, rfl, rfl, SqT.g lw ht, rfl, rfl, _, rfl, ite2 (fun _ => ?_) (fun z => (z (decide_eq_true rfl)).elim)⟩
        refine ⟨_, rfl, t, _, 1, _, rfl, rfl, SqT.g lw ht, rfl, _, rfl, _, rfl, _, rfl, F.due hn _ _ _ e1 lw fun G8 H8 d e8 lw hd => ?_⟩
        exact call_is lw (nz.ex e8) hd fun G9 H9 e9 lw => k _ _ lw
      · exact absurd hn z
    have bad : ¬ (0 ≤ n ∧ n ≤ 100) → ∀ H' bk ct nx, Lw H G none [] G1 H' → tRet (tOp (rEqD K) (tVar 3) (tTup (tCons (tC (V.str (Str.ofString "BadCount"))) (tCons (tVar 2) tNil)))) { nx := nx, rt := Q, bk := bk, ct := ct } [some (.int m), some pair, some (.int n), some v] H' := fun hn H' bk ct nx lw => by
      rcases hv with ⟨z1, z2, _⟩ | ⟨_, r⟩
      · exact absurd ⟨z1, z2⟩ hn
      · refine ⟨_, rfl, _, rfl, (by show 2 ≤ sizeLine; decide), fun t nt => ?_⟩
        obtain ⟨G2, e2, lw, h2⟩ := lw.allocE (o := .tup [.str "BadCount", .int n]) nt
        exact r_eqE lw (r.ex e2) (.tup h2 (.cons (.str _) (.cons (.int _) .nil))) (no_text fun _ => nofun) (k _ _ lw)
    refine ⟨_, rfl, _, _, rfl, rfl, _, rfl, ite2 (fun h => ?_) (fun h => ⟨_, rfl, _, _, rfl, rfl, _, rfl, ite2 (fun h2 => ?_) (fun h2 => ?_)⟩)⟩
    · have h := of_decide_eq_true h
      exact bad (by omega) _ _ _ _ lw
    · have h2 := of_decide_eq_true h2
      exact bad (by omega) _ _ _ _ lw
    · have h : ¬ n < 0 := fun z => h (decide_eq_true z)
      have h2 : ¬ (100 : Int) < n := fun z => h2 (decide_eq_true z)
      exact fin (by omega) _ lw
/-! ### _law_ones, _law_least, _law_list -/
/-- the roots of 1 by the law: 0 is none -/
def onesP (m : Int) (n j : Nat) : List Int := ((List.range j).map fun (e : Nat) => (e : Int)).filter fun r => decide (r ^ n % m = 1)
theorem ones_roots {m : Int} {n : Nat} (m2 : 2 ≤ m) (n1 : 1 ≤ n) : onesP m n m.toNat = rootsI m n := by
  unfold rootsI
  rw [if_neg (show ¬ m = 0 by omega)]
  obtain ⟨a, ha⟩ : ∃ a : Nat, m = a + 1 := ⟨(m - 1).toNat, by omega⟩
  have e1 : m.toNat = a + 1 := by omega
  have e2 : (m - 1).toNat = a := by omega
  unfold onesP rootsP
  rw [e1, e2, List.range_succ_eq_map, List.map_cons, List.filter_cons]
  have z : ((0 : Nat) : Int) ^ n % m = 0 := by
    obtain ⟨b, rfl⟩ : ∃ b, n = b + 1 := ⟨n - 1, by omega⟩
    rw [Int.pow_succ]
    show (_ * 0) % m = 0
    rw [Int.mul_zero, Int.zero_emod]
  rw [if_neg (by rw [z]; decide), List.map_map]
  have e3 : ((fun (e : Nat) => (e : Int)) ∘ Nat.succ) = fun (e : Nat) => 1 + (e : Int) := by
    funext e
    show ((e + 1 : Nat) : Int) = 1 + (e : Int)
    omega
  rw [e3]
  refine List.filter_congr fun r _ => ?_
  rw [fme (show 0 < m by omega)]
theorem ordI_lt {m r : Int} {n : Nat} : ∀ {e : Nat}, e < n - 1 → pwi m r (e + 1) = 1 → ordI m r n ≠ some n := by
  intro e
  induction e using Nat.strongRecOn with
  | _ e ih =>
    intro he h
    by_cases z : ∃ e' < e, pwi m r (e' + 1) = 1
    · obtain ⟨e', h1, h2⟩ := z
      exact ih e' h1 (by omega) h2
    · rw [ordI_hit (show e < n by omega) h fun e' h1 h2 => z ⟨e', h1, h2⟩]
      intro y
      have := Option.some.inj y
      omega
theorem root_pw {m r : Int} {n : Nat} (h : r ∈ rootsI m n) : pwi m r n = 1 := by
  unfold rootsI at h
  unfold pwi
  by_cases z : m = 0
  · rw [if_pos z] at h ⊢
    by_cases o : n % 2 = 1
    · rw [if_pos o] at h
      rw [List.mem_singleton.mp h, Int.one_pow]
    · rw [if_neg o] at h
      have : r = 1 ∨ r = -1 := by simpa using h
      rcases this with rfl | rfl
      · exact Int.one_pow
      · obtain ⟨b, rfl⟩ : ∃ b, n = 2 * b := ⟨n / 2, by omega⟩
        rw [Int.pow_mul]
        exact Int.one_pow
  · rw [if_neg z] at h ⊢
    unfold rootsP at h
    exact of_decide_eq_true (List.mem_filter.mp h).2
theorem pwi_one (m r : Int) (hr : m = 0 ∨ (0 ≤ r ∧ r < m)) : pwi m r 1 = r := by
  unfold pwi
  rw [Int.pow_succ, Int.pow_zero, Int.one_mul]
  by_cases z : m = 0
  · rw [if_pos z]
  · rw [if_neg z]
    rcases hr with h | h
    · exact absurd h z
    · rw [fme (by omega)]
      exact Int.emod_eq_of_lt h.1 h.2
theorem pwi_step (m r : Int) (k : Nat) : pwi m r (k + 1) = if m = 0 then pwi m r k * r else (pwi m r k * r).fmod m := by
  unfold pwi
  by_cases z : m = 0
  · rw [if_pos z, if_pos z, if_pos z, Int.pow_succ]
  · rw [if_neg z, if_neg z, if_neg z, Int.pow_succ]
    have h1 := Int.mul_fmod (r ^ k) r m
    have h2 := Int.mul_fmod ((r ^ k).fmod m) r m
    rw [Int.fmod_fmod] at h2
    rw [h1, h2]
theorem sc_ones : FnScope ["prime", "count", "root"] ["prime", "count"] (defScope s_ones) := ⟨rfl, rfl, rfl, by decide +kernel, rfl, by decide +kernel, by decide +kernel⟩
def sp_ones : Sp := fun vs H Q E => ∃ (m : Int) (n : Nat), PureSp (fun vs _ => vs = [.int m, .int n] ∧ (m = 0 ∨ 2 ≤ m ∧ m < 1000) ∧ 1 ≤ n ∧ n ≤ 100) (fun _ G G' v => ∃ t, v = .ref t ∧ G t = none ∧ G' t = some (.lst ((rootsI m n).map V.int))) vs H Q E
theorem ok_ones (T : Tx K mg) : FnOk P w K mg base CX0 2 T.ones.f T.ones.fd ["prime", "count"] sp_ones := by
  refine T.ones.F.ok sc_ones (fun vs H Q E h => ?_) (fun cdv A outer s H vs Q E hr h => ?_)
  · obtain ⟨m, n, G, _, ⟨rfl, _⟩, _⟩ := h
    rfl
  · obtain ⟨m, n, G, lw, ⟨rfl, hm, n1, n2⟩, k⟩ := h
    refine ⟨_, (pss_cons (ps_if (pt_cmpR op_gt (pv 0) pe_int (nomark _)) (pss_one (ps_ret (pe_lc (own := [("root", 2)]) rfl sc_ones.nd (pi_range1 rfl T.z_range (pa_cons (pv 0) pa_nil)) (blkOk_by (own := [("root", 2)]) (N := ["prime", "count", "root"]) (sc := defScope s_ones) (by decide +kernel)) (fun _ _ _ _ _ => by exact pg_name (i := 2) sc_ones.nd rfl (.inl rfl)) (fun _ _ _ _ _ => (pts_one (pt_cmpR (UfK.op_eqDK (K := K) hr.units) (pe_call (ok_l_power T) (hr.mono (by decide)) (by rfl) T.l_power.g T.l_power.F.kp T.l_power.b .nil pass0 (pa_cons (pv 0) (pa_cons (pe_tup (pa_cons (pv 2) (pa_cons pe_int pa_nil))) (pa_cons (pv 1) pa_nil)))) (pe_tup (pa_cons pe_int (pa_cons pe_int pa_nil))) (nomark _)))) (fun _ _ _ _ _ => (pv 2))))) pss_nil)
      (pss_cons (ps_if (pt_cmpR op_eq (pe_op op_modN (pe_callTy call_int1 (by rfl) T.z_int (by decide +kernel) (pa_cons (pv 1) pa_nil)) pe_int) pe_int (nomark _)) (pss_one (ps_ret (pe_lst (pa_cons pe_int pa_nil)))) pss_nil)
      (pss_one (ps_ret (pe_lst (pa_cons pe_int (pa_cons (pe_un un_neg pe_int) pa_nil))))))), ?_⟩
    rcases hm with rfl | ⟨m2, m3⟩
    · refine ⟨_, rfl, _, _, rfl, rfl, _, rfl, ite2 (fun z => by simp at z) (fun _ => ?_)⟩
      have em : ((n : Int).fmod 2) = ((n % 2 : Nat) : Int) := by rw [Int.fmod_eq_emod_of_nonneg _ (by decide)]; rfl
      refine ⟨_, rfl, .inl ⟨_, rfl, _, _, rfl, rfl, (show (2 : Int) ≠ 0 by decide), rfl, _, rfl, ite2 (fun h3 => ?_) (fun h3 => ?_)⟩⟩
      · have o : n % 2 = 1 := by
          have z : (n : Int).fmod 2 = 1 := by simpa using h3
          omega
        refine ⟨(by show 1 ≤ sizeLine; decide), fun t nt => ?_⟩
        have fr := lw.free nt
        obtain ⟨G1, e1, lw, h⟩ := lw.allocE (o := .lst [.int 1]) nt
        refine k _ _ _ lw ⟨t, rfl, fr, ?_⟩
        rw [h]
        unfold rootsI
        rw [if_pos rfl, if_pos o]
        rfl
      · have o : ¬ n % 2 = 1 := fun z => h3 (by
          have : (n : Int).fmod 2 = 1 := by omega
          simp [this])
        refine ⟨_, rfl, (by show 2 ≤ sizeLine; decide), fun t nt => ?_⟩
        have fr := lw.free nt
        obtain ⟨G1, e1, lw, h⟩ := lw.allocE (o := .lst [.int 1, .int (-1)]) nt
        refine k _ _ _ lw ⟨t, rfl, fr, ?_⟩
        rw [h]
        unfold rootsI
        rw [if_pos rfl, if_neg o]
        rfl
    · refine ⟨_, rfl, _, _, rfl, rfl, _, rfl, ite2 (fun _ => ?_) (fun z => (z (decide_eq_true (show (0 : Int) < m by omega))).elim)⟩
      refine ⟨_, rfl, m, rfl, by omega, by omega, fun D hD => ?_⟩
      have fr := lw.free hD
      refine it_rng (lo := 0) (n := m.toNat) (fun j H' => ∃ G', Lw H G none [(D, .lst ((onesP m n j).map V.int))] G' H') ⟨G, lw.make hD⟩ (fun j H' hj hp => ?_) (fun H' hp => ?_)
      · obtain ⟨G', lw⟩ := hp
        rw [Int.zero_add]
        refine ⟨rfl, _, rfl, _, rfl, (by show 2 ≤ sizeLine; decide), fun t nt => ?_⟩
        obtain ⟨G1, e1, lw, h1⟩ := lw.allocE (o := .tup [.int j, .int 1]) nt
        have jb : (j : Int).natAbs < 2 ^ 900 := Nat.lt_trans (show (j : Int).natAbs < 1000 by omega) (by decide +kernel)
        refine ⟨_, rfl, .inr ⟨m, j, n, call_pure lw ⟨.ref t, rfl, ⟨t, rfl, h1⟩, by omega, m2, m3, jb⟩ fun G2 H2 v e2 lw hv => ?_⟩⟩
        obtain ⟨u, rfl, hu⟩ := hv
        refine ⟨(by show 2 ≤ sizeLine; decide), fun x nx => ?_⟩
        obtain ⟨G3, e3, lw, h3⟩ := lw.allocE (o := .tup [.int 1, .int 1]) nx
        refine r_eqD lw (Rp.tupI (ns := [(j : Int) ^ n % m, 1]) (e3 _ _ hu)) (Rp.tupI (ns := [1, 1]) h3) (UfG.shaped_tupI _) (UfG.shaped_tupI _) ?_
        rw [eqv_tupI]
        have ed : decide ([(j : Int) ^ n % m, 1] = [1, 1]) = decide ((j : Int) ^ n % m = 1) := by
          rw [decide_eq_decide]
          simp
        rw [ed]
        refine ⟨_, rfl, ite2 (fun h => ?_) (fun h => ?_)⟩
        · have hs : onesP m n (j + 1) = onesP m n j ++ [(j : Int)] := by
            unfold onesP
            rw [List.range_succ, List.map_append, List.filter_append]
            congr 1
            show List.filter _ [(j : Int)] = _
            rw [List.filter_cons, if_pos h]
            rfl
          refine ⟨_, rfl, _, lw.at, Evl.sz_lt ?_, G3, ?_⟩
          · rw [List.length_map]
            have := List.length_filter_le (fun r => decide (r ^ n % m = 1)) ((List.range j).map fun (e : Nat) => (e : Int))
            rw [List.length_map, List.length_range] at this
            unfold onesP
            omega
          · rw [hs, List.map_append]
            exact lw.put
        · have hs : onesP m n (j + 1) = onesP m n j := by
            unfold onesP
            rw [List.range_succ, List.map_append, List.filter_append]
            show _ ++ List.filter _ [(j : Int)] = _
            rw [List.filter_cons, if_neg h]
            exact List.append_nil _
          exact ⟨G3, by rw [hs]; exact lw⟩
      · obtain ⟨G', lw⟩ := hp
        obtain ⟨lw, e⟩ := lw.keep
        refine k _ _ _ lw ⟨D, rfl, fr, ?_⟩
        rw [upd_same, ones_roots m2 n1]
theorem sc_least : FnScope ["prime", "count", "root", "value", "clean", "k"] ["prime", "count"] (defScope s_least) := ⟨rfl, rfl, rfl, by decide +kernel, rfl, by decide +kernel, by decide +kernel⟩
def sp_least : Sp := fun vs H Q E => ∃ (m : Int) (n : Nat), PureSp (fun vs _ => vs = [.int m, .int n] ∧ (m = 0 ∨ 2 ≤ m ∧ m < 1000) ∧ 1 ≤ n ∧ n ≤ 100) (fun _ _ _ v => v = match leastI m n with | some r => .int r | none => .non) vs H Q E
theorem ok_least (T : Tx K mg) : FnOk P w K mg base CX0 3 T.least.f T.least.fd ["prime", "count"] sp_least := by
  refine T.least.F.ok sc_least (fun vs H Q E h => ?_) (fun cdv A outer s H vs Q E hr h => ?_)
  · obtain ⟨m, n, G, _, ⟨rfl, _⟩, _⟩ := h
    rfl
  · obtain ⟨m, n, G, lw, ⟨rfl, hm, n1, n2⟩, k⟩ := h
    refine ⟨_, (pss_cons (ps_for PassesOwn.never rfl (UfK.pi_listK (K := K) (pe_call (ok_ones T) (hr.mono (by decide)) (by rfl) T.ones.g T.ones.F.kp T.ones.b .nil pass0 (pa_cons (pv 0) (pa_cons (pv 1) pa_nil)))) (pg_name (i := 2) sc_least.nd rfl (.inl rfl)) (pss_cons (ps_set (i := 3) sc_least.nd rfl (.inl rfl) (pv 2))
      (pss_cons (ps_set (i := 4) sc_least.nd rfl (.inl rfl) pe_bl)
      (pss_cons (ps_for PassesOwn.never rfl (pi_range2 rfl T.z_range (pa_cons pe_int (pa_cons (pv 1) pa_nil))) (pg_name (i := 5) sc_least.nd rfl (.inl rfl)) (pss_cons (ps_if (pt_cmpR op_eq (pv 3) pe_int (nomark _)) (pss_one (ps_set (i := 4) sc_least.nd rfl (.inl rfl) pe_bl)) pss_nil)
      (pss_cons (ps_set (i := 3) sc_least.nd rfl (.inl rfl) (pe_op op_mulW (pv 3) (pv 2)))
      (pss_one (ps_if (pt_cmpR op_gt (pv 0) pe_int (nomark _)) (pss_one (ps_set (i := 3) sc_least.nd rfl (.inl rfl) (pe_op op_modN (pe_callTy call_int1 (by rfl) T.z_int (by decide +kernel) (pa_cons (pv 3) pa_nil)) (pv 0)))) pss_nil)))))
      (pss_one (ps_if (pt_val (pv 4)) (pss_one (ps_ret (pv 2))) pss_nil))))))
      (pss_one (ps_ret pe_non))), ?_⟩
    have m0 : 0 ≤ m ∧ m < 1000 := by omega
    refine ⟨_, rfl, _, rfl, m, n, call_pure lw ⟨rfl, hm, n1, n2⟩ fun G1 H1 v e1 lw hv => ?_⟩
    obtain ⟨t, rfl, _, ht⟩ := hv
    refine ⟨t, rfl, ⟨_, SqL.g lw ht⟩, for_list (xs := (rootsI m n).map V.int) (fun j σ H' => ∃ (z1 z2 z3 z4 : Option V), σ = [some (.int m), some (.int (n : Int)), z1, z2, z3, z4] ∧ Lw H G none [] G1 H' ∧ ∀ r ∈ (rootsI m n).take j, ordI m r n ≠ some n)
      ⟨none, none, none, none, rfl, lw, fun r hr => by simp at hr⟩ (fun j σ H' hj hp => ?_) (fun j x σ H' hx hp => ?_) (fun σ H' hp => ?_)⟩
    · obtain ⟨z1, z2, z3, z4, rfl, lw, _⟩ := hp
      exact SqL.g lw ht
    · obtain ⟨z1, z2, z3, z4, rfl, lw, no⟩ := hp
      obtain ⟨r, hr', rfl⟩ : ∃ r, (rootsI m n)[j]? = some r ∧ x = .int r := by
        rw [List.getElem?_map] at hx
        cases e : (rootsI m n)[j]? with
        | none => rw [e] at hx; cases hx
        | some b => rw [e] at hx; exact ⟨b, rfl, (Option.some.inj hx).symm⟩
      have mem := List.mem_of_getElem? hr'
      have bd := rootsI_bd mem m0.1 m0.2
      have rb : r.natAbs < 2 ^ 4000 := Nat.lt_trans bd.2 (by decide +kernel)
      have pb : ∀ e, (pwi m r e).natAbs < 2 ^ 4000 := fun e => by
        unfold pwi
        by_cases z : m = 0
        · rw [if_pos z, Int.natAbs_pow]
          have := Nat.pow_le_pow_left (bd.1 z) e
          rw [Nat.one_pow] at this
          exact Nat.lt_of_le_of_lt this (by decide +kernel)
        · rw [if_neg z]
          exact mod_lt (by omega) (Nat.lt_trans (show m.natAbs < 1000 by omega) (by decide +kernel))
      have rin : m = 0 ∨ (0 ≤ r ∧ r < m) := by
        by_cases z : m = 0
        · exact .inl z
        · right
          unfold rootsI at mem
          rw [if_neg z] at mem
          unfold rootsP at mem
          obtain ⟨e, he, rfl⟩ := List.mem_map.mp (List.mem_filter.mp mem).1
          have := List.mem_range.mp he
          omega
      have ps := root_pw mem
      refine gName_ap ?_
      refine seq_rest (fun σ' H' => ∃ (z3 z4 : Option V), σ' = [some (.int m), some (.int (n : Int)), some (.int r), some (.int r), z3, z4] ∧ Lw H G none [] G1 H') (fun σ' H' hp => ?_) (fun kk => ⟨_, rfl, kk _ _ ⟨z3, z4, rfl, lw⟩⟩)
      obtain ⟨z3, z4, rfl, lw⟩ := hp
      refine seq_rest (fun σ' H' => ∃ (z4 : Option V), σ' = [some (.int m), some (.int (n : Int)), some (.int r), some (.int r), some (.bl true), z4] ∧ Lw H G none [] G1 H') (fun σ' H' hp => ?_) (fun kk => kk _ _ ⟨z4, rfl, lw⟩)
      obtain ⟨z4, rfl, lw⟩ := hp
      have hn : ((n : Int) - 1).toNat = n - 1 := by omega
      refine seq_rest (fun σ' H' => ∃ (z3 z4 : Option V) (cl : Bool), σ' = [some (.int m), some (.int (n : Int)), some (.int r), z3, some (.bl cl), z4] ∧ Lw H G none [] G1 H' ∧ (cl = true ↔ ∀ e < n - 1, pwi m r (e + 1) ≠ 1)) (fun σ' H' hp => ?_) (fun kk => ?_)
      · obtain ⟨z3, z4, cl, rfl, lw, hcl⟩ := hp
        have hord : ordI m r n = some n ↔ cl = true := by
          rw [hcl]
          constructor
          · intro h e he h1
            exact ordI_lt he h1 h
          · intro h
            have := ordI_hit (p := m) (i := r) (n := n) (k := n - 1) (by omega) (by rw [show n - 1 + 1 = n by omega]; exact ps) h
            rw [this, show n - 1 + 1 = n by omega]
        refine ⟨_, rfl, cl, rfl, ite2 (fun h => ?_) (fun h => ?_)⟩
        · refine ⟨_, rfl, k _ _ _ lw ?_⟩
          have : leastI m n = some r := by
            unfold leastI
            rw [List.find?_eq_some_iff_append]
            refine ⟨decide_eq_true (hord.mpr h), (rootsI m n).take j, (rootsI m n).drop (j + 1), ?_, fun b hb => by rw [decide_eq_false (no b hb)]; rfl⟩
            obtain ⟨hj, e⟩ := List.getElem?_eq_some_iff.mp hr'
            rw [← e, ← List.drop_eq_getElem_cons hj, List.take_append_drop]
          rw [this]
        · refine ⟨_, _, _, _, rfl, lw, fun b hb => ?_⟩
          rw [List.take_add_one, hr'] at hb
          rcases List.mem_append.mp hb with hb | hb
          · exact no b hb
          · have : b = r := List.mem_singleton.mp hb
            rw [this]
            exact fun z => h (hord.mp z)
      · refine ⟨_, rfl, 1, _, rfl, ⟨by decide, by decide, by omega, by omega⟩, for_range (fun i σ H' => ∃ (z4 : Option V) (cl : Bool), σ = [some (.int m), some (.int (n : Int)), some (.int r), some (.int (pwi m r (i + 1))), some (.bl cl), z4] ∧ Lw H G none [] G1 H' ∧ (cl = true ↔ ∀ e < i, pwi m r (e + 1) ≠ 1))
          ⟨z4, true, by rw [pwi_one m r rin], lw, ⟨fun _ e he => absurd he (by omega), fun _ => rfl⟩⟩ (fun i σ H' hi hp => ?_) (fun σ H' hp => ?_)⟩
        · obtain ⟨z4, cl, rfl, lw, hcl⟩ := hp
          refine gName_ap ?_
          refine seq_rest (fun σ' H' => ∃ (z4 : Option V) (cl : Bool), σ' = [some (.int m), some (.int (n : Int)), some (.int r), some (.int (pwi m r (i + 1))), some (.bl cl), z4] ∧ Lw H G none [] G1 H' ∧ (cl = true ↔ ∀ e < i + 1, pwi m r (e + 1) ≠ 1)) (fun σ' H' hp => ?_) (fun kk => ?_)
          · obtain ⟨z4, cl, rfl, lw, hcl⟩ := hp
            refine ⟨_, rfl, _, rfl, _, _, rfl, rfl, sm_mul (pb _) rb, ?_⟩
            refine ⟨_, rfl, _, _, rfl, rfl, _, rfl, ite2 (fun h => ?_) (fun h => ?_)⟩
            · have h := of_decide_eq_true h
              refine ⟨_, rfl, .inl ⟨_, rfl, _, rfl, _, _, rfl, rfl, (show m ≠ 0 by omega), z4, cl, ?_, lw, hcl⟩⟩
              rw [pwi_step m r (i + 1), if_neg (show ¬ m = 0 by omega)]
              rfl
            · have h : ¬ (0 : Int) < m := fun z => h (decide_eq_true z)
              refine ⟨z4, cl, ?_, lw, hcl⟩
              rw [pwi_step m r (i + 1), if_pos (show m = 0 by omega)]
              rfl
          · refine ⟨_, rfl, rfl, _, rfl, ite2 (fun h => ?_) (fun h => ?_)⟩
            · have h : pwi m r (i + 1) = 1 := by simpa using h
              refine kk _ _ ⟨_, false, rfl, lw, ⟨(fun z => nomatch z), fun z => absurd h (z i (Nat.lt_succ_self i))⟩⟩
            · have h : ¬ pwi m r (i + 1) = 1 := by simpa using h
              refine kk _ _ ⟨_, cl, rfl, lw, ?_⟩
              rw [hcl]
              constructor
              · intro z e he
                by_cases c : e = i
                · rw [c]
                  exact h
                · exact z e (by omega)
              · exact fun z e he => z e (by omega)
        · obtain ⟨z4, cl, rfl, lw, hcl⟩ := hp
          rw [hn] at hcl
          exact kk _ _ ⟨_, z4, cl, rfl, lw, hcl⟩
    · obtain ⟨z1, z2, z3, z4, rfl, lw, no⟩ := hp
      rw [List.length_map, List.take_length] at no
      refine k _ _ _ lw ?_
      have : leastI m n = none := by
        unfold leastI
        rw [List.find?_eq_none]
        exact fun b hb => by rw [decide_eq_false (no b hb)]; exact Bool.false_ne_true
      rw [this]
theorem sc_l_list : FnScope ["answer", "due", "told", "item"] ["answer", "due"] (defScope s_l_list) := ⟨rfl, rfl, rfl, by decide +kernel, rfl, by decide +kernel, by decide +kernel⟩
def sp_l_list : Sp := fun vs H Q E => ∃ (ns : List Int), PureSp (fun vs G => ∃ x y t u, vs = [x, y] ∧ Told G x (.ref t) ∧ G t = some (.lst (ns.map V.int)) ∧ y = .ref u ∧ G u = some (.lst (ns.map V.int)) ∧ ns.length ≤ 1000) (fun _ _ _ v => v = .bl true) vs H Q E
theorem ok_l_list (T : Tx K mg) : FnOk P w K mg base CX0 2 T.l_list.f T.l_list.fd ["answer", "due"] sp_l_list := by
  refine T.l_list.F.ok sc_l_list (fun vs H Q E h => ?_) (fun cdv A outer s H vs Q E hr h => ?_)
  · obtain ⟨ns, G, _, ⟨x, y, t, u, rfl, _⟩, _⟩ := h
    rfl
  · obtain ⟨ns, G, lw, ⟨x, y, t, u, rfl, ⟨tx, rfl, hx⟩, ht, rfl, hu, nl⟩, k⟩ := h
    refine ⟨_, (pss_cons (ps_set (i := 2) sc_l_list.nd rfl (.inl rfl) (pe_ix (UfK.ix_tupK (K := K)) (pv 0) pe_int (fun _ _ => rfl)))
      (pss_cons (ps_if (PW.pt (pw_or (pt_cmpR op_ne (pe_ix (UfK.ix_tupK (K := K)) (pv 0) pe_int (fun _ _ => rfl)) pe_str (nomark _)) (pw_or (pt_not (pt_val (pe_callB (UfK.call_isiK' (K := K)) (by rfl) T.z_isinstance (by decide +kernel) (pa_cons (pv 2) (pa_cons (pe_bltn (by rfl) T.z_list (by decide +kernel) (show RelV (.ty "list") _ from rfl)) pa_nil))))) (pw_or1 (pt_not (pt_val (pe_callB (UfK.cr_allK (K := K) rfl) (by rfl) T.z_all (by decide +kernel) (pa_cons (pe_lc (own := [("item", 3)]) rfl sc_l_list.nd (UfK.pi_listK (K := K) (pv 2)) (blkOk_by (own := [("item", 3)]) (N := ["answer", "due", "told", "item"]) (sc := defScope s_l_list) (by decide +kernel)) (fun _ _ _ _ _ => by exact pg_name (i := 3) sc_l_list.nd rfl (.inl rfl)) (fun _ _ _ _ _ => pts_nil) (fun _ _ _ _ _ => (pe_call (ok_int T) (hr.mono (by decide)) (by rfl) T.int_.g T.int_.F.kp T.int_.b .nil pass0 (pa_cons (pv 3) pa_nil)))) pa_nil)))))))) (pss_one (ps_ret pe_bl)) pss_nil)
      (pss_one (ps_ret (pe_cmpR (UfK.op_eqDK (K := K) hr.units) (pv 2) (pv 1) (nomark _)))))), ?_⟩
    refine ⟨_, rfl, tx, _, 1, _, rfl, rfl, SqT.g lw hx, rfl, ?_⟩
    refine ⟨_, rfl, tx, _, 0, _, rfl, rfl, SqT.g lw hx, rfl, rfl, _, rfl, iteF ⟨_, rfl, .ref t, .ty "list", .type "list", .type "list", true, rfl, .ty _, .base (.lst (lw.gh _ _ ht)), kit_ty rfl, true, rfl, iteF ?_⟩⟩
    refine ⟨_, rfl, t, rfl, ⟨_, SqL.g lw ht⟩, fun D hD => lc_true lw hD ht (by rw [List.length_map]; omega) (fun i x G' H' acc hi e lw hac Nx nx => ?_) (fun G5 H5 e5 lw hD => ?_)⟩
    · obtain ⟨a, ha, rfl⟩ := at_int hi
      have il := (List.getElem?_eq_some_iff.mp ha).1
      exact ⟨rfl, _, rfl, _, rfl, _, lw.at, Evl.sz_lt (by rw [hac]; omega), nx _ _ (Evl.Ex.refl _) lw.put⟩
    · refine ⟨D, _, rfl, SqL.g lw hD, ?_⟩
      rw [all_true]
      refine ⟨true, rfl, iteF ⟨_, rfl, _, rfl, r_eqD lw (Rp.lstI (e5 _ _ ht)) (Rp.lstI (e5 _ _ hu)) (shaped_lstI _) (shaped_lstI _) ?_⟩⟩
      rw [eqv_lstI, decide_eq_true rfl]
      exact k _ _ _ lw rfl
end
end K01

namespace K01
open PySem PySem.Spec PyProof.Rows L2 UfG UfT UfR UfO UfI UfQ UfN SX UfX UfD
open Evl (Ex)
section
variable {P : Program} {w : World} {K : PySem.W.Frag} {mg : Str → Option Value} {base : Heap}
section
variable {T : Tx K mg} {H0 G0 G H : Hp} {p : Option (Addr × Addr × Nat)} {ls : List (Addr × HO)} {m : Int} {c : Addr} {y : V}
theorem g_run {E : XK} {W : VK} {x dx : Addr} (lw : Lw H0 G0 p ls G H) (hf : fitP m = true) (hx : H x = none) (hd : H dx = none) (ne : dx ≠ x) (k : ∀ G1 H1, Ex G G1 → Lw H0 G0 p ls G1 H1 → GrAt T.ground.C G1 x m → W .non H1) :
    sp_g_init T [.ref x, .int m] (upd (upd H dx (.own x)) x (.ins T.ground.C dx [])) W E :=
  g_init_mono (fun v H2 h => by
    obtain ⟨rfl, G1, c, e, lw, e1, hc⟩ := h
    obtain rfl : x = c := by injection e
    exact k G1 H2 e1 lw hc) (fun c d H h => h.elim) (mk_ground (Q := fun v H2 => ∃ G1 c, v = .ref c ∧ Lw H0 G0 p ls G1 H2 ∧ Ex G G1 ∧ GrAt T.ground.C G1 c m) (E := fun _ _ _ => False) lw hf (fun G1 H1 c e1 lw hc => ⟨G1, c, rfl, lw, e1, hc⟩) x dx hx hd ne)
theorem call_numbers {Q : VK} (lw : Lw H0 G0 p ls G H) (hg : GrAt T.ground.C G c m) (m0 : 0 ≤ m ∧ m < 1000) (nz : m ≠ 0) (k : ∀ G' H' v t, Ex G G' → Lw H0 G0 p ls G' H' → Told G' v (.ref t) → G t = none → G' t = some (.lst (rgV 0 m)) → Q v H') : sp_l_ground T [.int 4, .ref c, y, y] H Q E0 := by
  refine ⟨_, _, _, _, rfl, .inr (.inr (.inr (.inr ⟨rfl, c, [], m, rfl, hg.ex lw.gh, rfl, call_raiseN lw m0 (fun G1 H1 v e1 lw hv => ?_) fun G1 H1 C q e1 lw hv => absurd hv.1 nz⟩)))⟩
  obtain ⟨_, t, rfl, fr, ht⟩ := hv
  exact told_of lw fun G2 H2 u e2 lw h => k _ _ _ t (e1.trans e2) lw ⟨u, rfl, h⟩ fr (e2 _ _ ht)
theorem call_numbers0 {Q : VK} (lw : Lw H0 G0 p ls G H) (hg : GrAt T.ground.C G c 0) (k : ∀ G' H' v, Ex G G' → Lw H0 G0 p ls G' H' → Rp G' v (errD (.wrong 0)) → Q v H') : sp_l_ground T [.int 4, .ref c, y, y] H Q E0 := by
  refine ⟨_, _, _, _, rfl, .inr (.inr (.inr (.inr ⟨rfl, c, [], 0, rfl, hg.ex lw.gh, rfl, call_raiseN lw (by decide) (fun G1 H1 v e1 lw hv => absurd rfl hv.1) fun G1 H1 C q e1 lw hv => caught_of lw hv.2 fun G2 H2 v e2 lw r => k _ _ _ (e1.trans e2) lw r⟩)))⟩
theorem rg_ints (m : Int) : rgV 0 m = (((List.range m.toNat).map fun (e : Nat) => (e : Int)).map V.int) := by
  unfold rgV
  rw [List.map_map, Int.sub_zero]
  refine List.map_congr_left fun i _ => ?_
  show V.int (0 + (i : Int)) = V.int (i : Int)
  rw [Int.zero_add]
theorem fr0 (e : Ex G0 G) {t : Addr} (h : G t = none) : G0 t = none := by
  cases z : G0 t with
  | none => rfl
  | some o =>
    have := e _ _ z
    rw [h] at this
    cases this
/-- what stays known where an object is changed again -/
theorem stay {t b : Addr} {o : HO} (h : G b = some o) (hb : b ≠ t) : (fun x => if x = t then none else G x) b = some o := by
  show (if b = t then none else G b) = some o
  rw [if_neg hb]
  exact h
theorem apart {t b : Addr} {o o' : HO} (h : G b = some o) (ht : G t = some o') (ne : o ≠ o') : b ≠ t := fun e => by
  rw [e, ht] at h
  exact ne (Option.some.inj h).symm
theorem call_l_list {Q : VK} {x : V} {t u : Addr} {ns : List Int} (lw : Lw H0 G0 p ls G H) (hx : Told G x (.ref t)) (ht : G t = some (.lst (ns.map V.int))) (hu : G u = some (.lst (ns.map V.int))) (hl : ns.length ≤ 1000) (k : ∀ G' H', Ex G G' → Lw H0 G0 p ls G' H' → Q (.bl true) H') : sp_l_list [x, .ref u] H Q E0 :=
  ⟨ns, call_pure lw ⟨x, _, t, u, rfl, hx, ht, rfl, hu, hl⟩ fun G' H' v e l (hv : v = _) => by
    subst hv
    exact k _ _ e l⟩
end
theorem sc_l_roots : FnScope ["prime", "count", "ground", "first", "least", "due", "want"] ["prime", "count"] (defScope s_l_roots) := ⟨rfl, rfl, rfl, by decide +kernel, rfl, by decide +kernel, by decide +kernel⟩
def sp_l_roots : Sp := fun vs H Q E => ∃ (m n : Int), PureSp (fun vs _ => vs = [.int m, .int n] ∧ fitP m = true ∧ (m = 0 ∨ 2 ≤ m ∧ m < 1000)) (fun _ _ _ v => v = .bl true) vs H Q E
theorem ok_l_roots (T : Tx K mg) : FnOk P w K mg base CX0 20 T.l_roots.f T.l_roots.fd ["prime", "count"] sp_l_roots := by
  refine T.l_roots.F.ok sc_l_roots (fun vs H Q E h => ?_) (fun cdv A outer s H vs Q E hr h => ?_)
  · obtain ⟨m, n, G, _, ⟨rfl, _⟩, _⟩ := h
    rfl
  · obtain ⟨m, n, G, lw, ⟨rfl, hf, hm⟩, k⟩ := h
    refine ⟨_, (pss_cons (ps_set (i := 2) sc_l_roots.nd rfl (.inl rfl) (UfR.pe_makeS T.groundMk (ok_g_init T) (hr.mono (by decide)) rfl T.ground.g T.g_init.b (fun σ => L2N.passAt UfT.takesN0 σ) (pa_cons (pv 0) pa_nil)))
      (pss_cons (ps_set (i := 3) sc_l_roots.nd rfl (.inl rfl) (pe_call (ok_l_ground T) (hr.mono (by decide)) (by rfl) T.l_ground.g T.l_ground.F.kp T.l_ground.b .nil pass0 (pa_cons pe_int (pa_cons (pv 2) (pa_cons (pv 1) (pa_cons pe_int pa_nil))))))
      (pss_cons (ps_set (i := 4) sc_l_roots.nd rfl (.inl rfl) (pe_call (ok_l_ground T) (hr.mono (by decide)) (by rfl) T.l_ground.g T.l_ground.F.kp T.l_ground.b .nil pass0 (pa_cons pe_int (pa_cons (pv 2) (pa_cons (pv 1) (pa_cons pe_int pa_nil))))))
      (pss_cons (ps_if (PW.pt (pw_or (pt_cmpR op_lt (pv 1) pe_int (nomark _)) (pw_or1 (pt_cmpR op_gt (pv 1) pe_int (nomark _))))) (pss_one (ps_ret (pe_and (pe_cmpR (UfK.op_eqDK (K := K) hr.units) (pv 3) (pe_tup (pa_cons pe_str (pa_cons (pv 1) pa_nil))) (nomark _)) (pe_one (pe_cmpR (UfK.op_eqDK (K := K) hr.units) (pv 4) (pe_tup (pa_cons pe_str (pa_cons (pv 1) pa_nil))) (nomark _)))))) pss_nil)
      (pss_cons (ps_set (i := 5) sc_l_roots.nd rfl (.inl rfl) (pe_call (ok_ones T) (hr.mono (by decide)) (by rfl) T.ones.g T.ones.F.kp T.ones.b .nil pass0 (pa_cons (pv 0) (pa_cons (pv 1) pa_nil))))
      (pss_cons (ps_if (pt_not (pt_val (pe_call (ok_l_list T) (hr.mono (by decide)) (by rfl) T.l_list.g T.l_list.F.kp T.l_list.b .nil pass0 (pa_cons (pv 3) (pa_cons (pv 5) pa_nil))))) (pss_one (ps_ret pe_bl)) pss_nil)
      (pss_cons (ps_expr (pe_bm PySem.F.plainAttrs_list PySem.F.slot_list_append PySem.F.type_list_append mt_append (pe_ix (UfK.ix_tupK (K := K)) (pv 3) pe_int (fun _ _ => rfl)) (pa_cons pe_int pa_nil)))
      (pss_cons (ps_if (PW.pt (pw_or (pt_not (pt_val (pe_call (ok_l_list T) (hr.mono (by decide)) (by rfl) T.l_list.g T.l_list.F.kp T.l_list.b .nil pass0 (pa_cons (pe_call (ok_l_ground T) (hr.mono (by decide)) (by rfl) T.l_ground.g T.l_ground.F.kp T.l_ground.b .nil pass0 (pa_cons pe_int (pa_cons (pv 2) (pa_cons (pv 1) (pa_cons pe_int pa_nil))))) (pa_cons (pv 5) pa_nil))))) (pw_or1 (pt_cmpR op_ne (pe_ix (UfK.ix_tupK (K := K)) (pv 4) pe_int (fun _ _ => rfl)) pe_str (nomark _))))) (pss_one (ps_ret pe_bl)) pss_nil)
      (pss_cons (ps_set (i := 6) sc_l_roots.nd rfl (.inl rfl) (pe_call (ok_least T) (hr.mono (by decide)) (by rfl) T.least.g T.least.F.kp T.least.b .nil pass0 (pa_cons (pv 0) (pa_cons (pv 1) pa_nil))))
      (pss_cons (ps_if (pt_cmpR op_isN (pv 6) pe_non (nomark _)) (pss_one (ps_ret (pe_cmpR op_isN (pe_ix (UfK.ix_tupK (K := K)) (pv 4) pe_int (fun _ _ => rfl)) pe_non (nomark _)))) pss_nil)
      (pss_one (ps_ret (pe_and (pe_call (ok_int T) (hr.mono (by decide)) (by rfl) T.int_.g T.int_.F.kp T.int_.b .nil pass0 (pa_cons (pe_ix (UfK.ix_tupK (K := K)) (pv 4) pe_int (fun _ _ => rfl)) pa_nil)) (pe_one (pe_cmpR op_eq (pe_ix (UfK.ix_tupK (K := K)) (pv 4) pe_int (fun _ _ => rfl)) (pv 6) (nomark _)))))))))))))))), ?_⟩
    have m0 : 0 ≤ m ∧ m < 1000 := by omega
    refine seq_rest (fun σ' H' => ∃ (G1 : Hp) (c : Addr), σ' = [some (.int m), some (.int n), some (.ref c), none, none, none, none] ∧ Lw H G none [] G1 H' ∧ Ex G G1 ∧ GrAt T.ground.C G1 c m) (fun σ' H' hp => ?_) (fun kk => ⟨_, rfl, fun x0 dx hx hd ne => g_run lw hf hx hd ne fun G1 H1 e1 lw hc => ⟨rfl, kk _ _ ⟨G1, x0, rfl, lw, e1, hc⟩⟩⟩)
    obtain ⟨G1, c, rfl, lw, e1, hc⟩ := hp
    refine seq_rest (fun σ' H' => ∃ (G2 : Hp) (v : V), σ' = [some (.int m), some (.int n), some (.ref c), some v, none, none, none] ∧ Lw H G none [] G2 H' ∧ Ex G1 G2 ∧ ((1 ≤ n ∧ n ≤ 100 ∧ ∃ t, Told G2 v (.ref t) ∧ G1 t = none ∧ G2 t = some (.lst ((rootsI m n.toNat).map V.int))) ∨ (¬ (1 ≤ n ∧ n ≤ 100) ∧ Rp G2 v (errD (.count n))))) (fun σ' H' hp => ?_) (fun kk => ?_)
    rotate_left
    · refine ⟨_, rfl, _, rfl, ?_⟩
      show sp_l_ground T [.int 2, .ref c, .int n, .int 0] H' _ E0
      exact call_roots lw hc m0 (fun hn G2 H2 v t e2 lw hv fr ht => kk _ _ ⟨G2, v, rfl, lw, e2, .inl ⟨hn.1, hn.2, t, hv, fr, ht⟩⟩) fun hn G2 H2 v e2 lw r => kk _ _ ⟨G2, v, rfl, lw, e2, .inr ⟨hn, r⟩⟩
    obtain ⟨G2, v, rfl, lw, e2, hv⟩ := hp
    have hc := hc.ex e2
    refine seq_rest (fun σ' H' => ∃ (G3 : Hp) (l : V), σ' = [some (.int m), some (.int n), some (.ref c), some v, some l, none, none] ∧ Lw H G none [] G3 H' ∧ Ex G2 G3 ∧ ((1 ≤ n ∧ n ≤ 100 ∧ Told G3 l (match leastI m n.toNat with | some r => .int r | none => .non)) ∨ (¬ (1 ≤ n ∧ n ≤ 100) ∧ Rp G3 l (errD (.count n))))) (fun σ' H' hp => ?_) (fun kk => ?_)
    rotate_left
    · refine ⟨_, rfl, _, rfl, ?_⟩
      show sp_l_ground T [.int 3, .ref c, .int n, .int 0] H' _ E0
      exact call_least lw hc m0 (fun hn G3 H3 l e3 lw hl => kk _ _ ⟨G3, l, rfl, lw, e3, .inl ⟨hn.1, hn.2, hl⟩⟩) fun hn G3 H3 l e3 lw r => kk _ _ ⟨G3, l, rfl, lw, e3, .inr ⟨hn, r⟩⟩
    obtain ⟨G3, l, rfl, lw, e3, hl⟩ := hp
    refine seq_rest (fun σ' H' => σ' = [some (.int m), some (.int n), some (.ref c), some v, some l, none, none] ∧ Lw H G none [] G3 H' ∧ 1 ≤ n ∧ n ≤ 100) (fun σ' H' hp => ?_) (fun kk => ?_)
    rotate_left
    · have bad : ¬ (1 ≤ n ∧ n ≤ 100) → ∀ bk ct nx, tRet (tAndV (tOp (rEqD K) (tVar 3) (tTup (tCons (tC (V.str (Str.ofString "BadCount"))) (tCons (tVar 1) tNil)))) (tOp (rEqD K) (tVar 4) (tTup (tCons (tC (V.str (Str.ofString "BadCount"))) (tCons (tVar 1) tNil))))) { nx := nx, rt := Q, bk := bk, ct := ct } [some (.int m), some (.int n), some (.ref c), some v, some l, none, none] H' := fun hn bk ct nx => by
        rcases hv with ⟨z1, z2, _⟩ | ⟨_, r1⟩
        · exact absurd ⟨z1, z2⟩ hn
        rcases hl with ⟨z1, z2, _⟩ | ⟨_, r2⟩
        · exact absurd ⟨z1, z2⟩ hn
        refine ⟨_, rfl, _, rfl, (by show 2 ≤ sizeLine; decide), fun t nt => ?_⟩
        obtain ⟨G4, e4, lw, h4⟩ := lw.allocE (o := .tup [.str "BadCount", .int n]) nt
        refine r_eqE lw (r1.ex (e3.trans e4)) (.tup h4 (.cons (.str _) (.cons (.int _) .nil))) (no_text fun _ => nofun) ⟨true, rfl, iteT ?_⟩
        refine ⟨_, rfl, _, rfl, (by show 2 ≤ sizeLine; decide), fun t nt => ?_⟩
        obtain ⟨G5, e5, lw, h5⟩ := lw.allocE (o := .tup [.str "BadCount", .int n]) nt
        exact r_eqE lw (r2.ex (e4.trans e5)) (.tup h5 (.cons (.str _) (.cons (.int _) .nil))) (no_text fun _ => nofun) (k _ _ _ lw rfl)
      refine ⟨_, rfl, _, _, rfl, rfl, _, rfl, ite2 (fun h => ?_) (fun h => ⟨_, rfl, _, _, rfl, rfl, _, rfl, ite2 (fun h2 => ?_) (fun h2 => ?_)⟩)⟩
      · have h := of_decide_eq_true h
        exact bad (by omega) _ _ _
      · have h2 := of_decide_eq_true h2
        exact bad (by omega) _ _ _
      · have h : ¬ n < 1 := fun z => h (decide_eq_true z)
        have h2 : ¬ (100 : Int) < n := fun z => h2 (decide_eq_true z)
        exact kk _ _ ⟨rfl, lw, by omega, by omega⟩
    obtain ⟨rfl, lw, n1, n2⟩ := hp
    rcases hv with ⟨_, _, t, hv, ft, ht⟩ | ⟨z, _⟩
    rotate_left
    · exact absurd ⟨n1, n2⟩ z
    rcases hl with ⟨_, _, hl⟩ | ⟨z, _⟩
    rotate_left
    · exact absurd ⟨n1, n2⟩ z
    obtain ⟨nn, rfl⟩ := Int.eq_ofNat_of_zero_le (show 0 ≤ n by omega)
    rw [Int.toNat_natCast] at ht hl
    obtain ⟨tv, rfl, hv⟩ := hv
    obtain ⟨tl, rfl, hl⟩ := hl
    have ht := e3 _ _ ht
    have hv := e3 _ _ hv
    have hc := hc.ex e3
    have rl := rootsI_len (n := nn) m0.1 m0.2
    refine seq_rest (fun σ' H' => ∃ (G4 : Hp) (u : Addr), σ' = [some (.int m), some (.int (nn : Int)), some (.ref c), some (.ref tv), some (.ref tl), some (.ref u), none] ∧ Lw H G none [] G4 H' ∧ Ex G3 G4 ∧ G3 u = none ∧ G4 u = some (.lst ((rootsI m nn).map V.int))) (fun σ' H' hp => ?_) (fun kk => ?_)
    rotate_left
    · refine ⟨_, rfl, _, rfl, m, nn, call_pure lw ⟨rfl, hm, by omega, by omega⟩ fun G4 H4 z e4 lw hz => ?_⟩
      obtain ⟨u, rfl, fu, hu⟩ := hz
      exact kk _ _ ⟨G4, u, rfl, lw, e4, fu, hu⟩
    obtain ⟨G4, u, rfl, lw, e4, fu, hu⟩ := hp
    refine seq_rest (fun σ' H' => ∃ (G5 : Hp), σ' = [some (.int m), some (.int (nn : Int)), some (.ref c), some (.ref tv), some (.ref tl), some (.ref u), none] ∧ Lw H G none [] G5 H' ∧ Ex G4 G5) (fun σ' H' hp => ?_) (fun kk => ?_)
    rotate_left
    · exact ⟨_, rfl, _, rfl, call_l_list lw ⟨tv, rfl, e4 _ _ hv⟩ (e4 _ _ ht) hu rl fun G5 H5 e5 lw => ⟨true, rfl, iteF (kk _ _ ⟨G5, rfl, lw, e5⟩)⟩⟩
    obtain ⟨G5, rfl, lw, e5⟩ := hp
    have e45 := e4.trans e5
    have ht5 := e45 _ _ ht
    have hu5 := e5 _ _ hu
    have hv5 := e45 _ _ hv
    have hl5 := e45 _ _ hl
    obtain ⟨dx, hc5⟩ := hc.ex e45
    have ut : u ≠ t := fun z => by
      rw [z, ht] at fu
      cases fu
    -- first[1].append(7)
    have G0t : G t = none := fr0 (e1) ft
    refine seq_rest (fun σ' H' => ∃ (G6 : Hp), σ' = [some (.int m), some (.int (nn : Int)), some (.ref c), some (.ref tv), some (.ref tl), some (.ref u), none] ∧ Lw H G none [] G6 H' ∧ GrAt T.ground.C G6 c m ∧ G6 u = some (.lst ((rootsI m nn).map V.int)) ∧ G6 tl = some (.tup [.str "told", match leastI m nn with | some r => .int r | none => .non])) (fun σ' H' hp => ?_) (fun kk => ?_)
    rotate_left
    · refine ⟨_, rfl, tv, _, 1, _, rfl, rfl, SqT.g lw hv5, rfl, .inl ⟨rfl, _, SqL.g lw ht5⟩, t, _, _, rfl, rfl, lw.gh _ _ ht5, Evl.sz_lt (by rw [List.length_map]; omega), ?_⟩
      obtain ⟨lw, _⟩ := lw.thaw ht5 G0t (fun r hr => nomatch hr)
      refine kk _ _ ⟨_, rfl, lw.put.drop, ⟨dx, stay hc5 (apart hc5 ht5 nofun)⟩, stay hu5 ut, stay hl5 (apart hl5 ht5 nofun)⟩
    obtain ⟨G6, rfl, lw, hc, hu, hl⟩ := hp
    refine seq_rest (fun σ' H' => ∃ (G7 : Hp), σ' = [some (.int m), some (.int (nn : Int)), some (.ref c), some (.ref tv), some (.ref tl), some (.ref u), none] ∧ Lw H G none [] G7 H' ∧ Ex G6 G7) (fun σ' H' hp => ?_) (fun kk => ?_)
    rotate_left
    · refine ⟨_, rfl, _, rfl, ?_⟩
      show sp_l_ground T [.int 2, .ref c, .int (nn : Int), .int 0] H' _ E0
      refine call_roots lw hc m0 (fun hn G7 H7 z t7 e7 lw hz _ ht7 => ?_) (fun hn => absurd ⟨n1, n2⟩ hn)
      rw [Int.toNat_natCast] at ht7
      exact ⟨_, rfl, call_l_list lw hz ht7 (e7 _ _ hu) rl fun G8 H8 e8 lw => ⟨true, rfl, iteF ⟨_, rfl, tl, _, 0, _, rfl, rfl, SqT.g lw (e8 _ _ (e7 _ _ hl)), rfl, rfl, _, rfl, iteF (kk _ _ ⟨G8, rfl, lw, e7.trans e8⟩)⟩⟩⟩
    obtain ⟨G7, rfl, lw, e7⟩ := hp
    have hl := e7 _ _ hl
    refine seq_rest (fun σ' H' => ∃ (G8 : Hp), σ' = [some (.int m), some (.int (nn : Int)), some (.ref c), some (.ref tv), some (.ref tl), some (.ref u), some (match leastI m nn with | some r => .int r | none => .non)] ∧ Lw H G none [] G8 H' ∧ Ex G7 G8) (fun σ' H' hp => ?_) (fun kk => ?_)
    rotate_left
    · refine ⟨_, rfl, _, rfl, m, nn, call_pure lw ⟨rfl, hm, by omega, by omega⟩ fun G8 H8 z e8 lw hz => ?_⟩
      have hz : z = _ := hz
      subst hz
      exact kk _ _ ⟨G8, rfl, lw, e8⟩
    obtain ⟨G8, rfl, lw, e8⟩ := hp
    have hl := e8 _ _ hl
    cases hL : leastI m nn with
    | none =>
      rw [hL] at hl
      refine ⟨_, rfl, rfl, _, rfl, ite2 (fun _ => ?_) (fun z => (z (decide_eq_true rfl)).elim)⟩
      exact ⟨_, rfl, tl, _, 1, _, rfl, rfl, SqT.g lw hl, rfl, rfl, k _ _ _ lw (by rw [decide_eq_true rfl])⟩
    | some r =>
      rw [hL] at hl
      refine ⟨_, rfl, rfl, _, rfl, ite2 (fun z => nomatch of_decide_eq_true z) (fun _ => ?_)⟩
      refine ⟨_, rfl, tl, _, 1, _, rfl, rfl, SqT.g lw hl, rfl, _, rfl, true, rfl, iteT ⟨_, rfl, tl, _, 1, _, rfl, rfl, SqT.g lw hl, rfl, _, rfl, rfl, k _ _ _ lw ?_⟩⟩
      show V.bl (decide (V.int r = V.int r)) = _
      rw [decide_eq_true rfl]
section
variable {T : Tx K mg} {H0 G0 G H : Hp} {p : Option (Addr × Addr × Nat)} {ls : List (Addr × HO)} {Q : VK} {i j : Int} {a b : Addr} {neg : Bool}
theorem r_eqG (lw : Lw H0 G0 p ls G H) (ha : GrAt T.ground.C G a i) (hb : GrAt T.ground.C G b j) (k : ∀ G' H', Ex G G' → Lw H0 G0 p ls G' H' → Q (.bl (if neg then !decide (i = j) else decide (i = j))) H') : rOwnEq T.ground.C (sp_g_eq T) E0 neg (.ref a) (.ref b) H Q := by
  obtain ⟨dx, ha'⟩ := id ha
  obtain ⟨dy, hb'⟩ := id hb
  exact .inl ⟨a, dx, _, rfl, lw.gh _ _ ha', .inr (.inr ⟨b, dy, _, rfl, lw.gh _ _ hb'⟩), i, .inl j, call_pure lw ⟨a, .ref b, rfl, ha, b, rfl, hb⟩ fun G' H' v e l hv => ⟨_, hv, k _ _ e l⟩⟩
theorem r_eqGi (lw : Lw H0 G0 p ls G H) (ha : GrAt T.ground.C G a i) (k : ∀ G' H', Ex G G' → Lw H0 G0 p ls G' H' → Q (.bl (if neg then !false else false)) H') : rOwnEq T.ground.C (sp_g_eq T) E0 neg (.ref a) (.int j) H Q := by
  obtain ⟨dx, ha'⟩ := id ha
  exact .inl ⟨a, dx, _, rfl, lw.gh _ _ ha', .inl ⟨_, rfl⟩, i, .inr j, call_pure lw ⟨a, .int j, rfl, ha, rfl⟩ fun G' H' v e l hv => ⟨_, hv, k _ _ e l⟩⟩
end
theorem in_fit (i : Int) : inV (.int i) (([0, 2, 3, 5, 7, 11, 13, 17, 19, 23, 29, 31] : List Int).map V.int) = fitP i := by
  rw [inV_ints, List.contains_cons]
  unfold fitP
  congr 1
theorem sc_grounds : FnScope ["pool", "prime", "asked", "answer", "fit", "ground", "answers", "first", "told"] ["pool", "prime"] (defScope s_grounds) := ⟨rfl, rfl, rfl, by decide +kernel, rfl, by decide +kernel, by decide +kernel⟩
def sp_grounds : Sp := PoolSp 3 (fun ws _ => ∃ m : Int, ws = [.int m] ∧ fitP m = true ∧ 2 ≤ m ∧ m < 1000) (fun _ _ _ v => v = .bl true)
theorem ok_grounds (T : Tx K mg) : FnOk P w K mg base CX0 20 T.grounds.f T.grounds.fd ["pool", "prime"] sp_grounds := by
  refine T.grounds.F.ok sc_grounds (fun vs H Q E h => ?_) (fun cdv A outer s H vs Q E hr h => ?_)
  · obtain ⟨G, a, c, n, ws, rfl, _, _, ⟨m, rfl, _⟩, _⟩ := h
    rfl
  · obtain ⟨G, a, c, n, ws, rfl, lw, hn, ⟨m, rfl, hf, m2, m3⟩, k⟩ := h
    refine ⟨_, (pss_cons (ps_set (i := 2) sc_grounds.nd rfl (.inl rfl) (pe_op op_sub (pe_call (ok_draw T) (hr.mono (by decide)) (by rfl) T.draw.g T.draw.F.kp T.draw.b .nil pass0 (pa_cons (pv 0) (pa_cons pe_int pa_nil))) pe_int))
      (pss_cons (ps_if (pt_cmpR op_eq (pe_call (ok_draw T) (hr.mono (by decide)) (by rfl) T.draw.g T.draw.F.kp T.draw.b .nil pass0 (pa_cons (pv 0) (pa_cons pe_int pa_nil))) pe_int (nomark _)) (pss_one (ps_set (i := 2) sc_grounds.nd rfl (.inl rfl) (pe_op op_sub pe_int (pe_call (ok_draw T) (hr.mono (by decide)) (by rfl) T.draw.g T.draw.F.kp T.draw.b .nil pass0 (pa_cons (pv 0) (pa_cons (pe_op op_pow pe_int pe_int) pa_nil)))))) pss_nil)
      (pss_cons (ps_set (i := 3) sc_grounds.nd rfl (.inl rfl) (pe_call (ok_ask T) (hr.mono (by decide)) (by rfl) T.ask.g T.ask.F.kp T.ask.b .nil pass0 (pa_cons pe_int (pa_cons (pv 2) (pa_cons pe_int pa_nil)))))
      (pss_cons (ps_set (i := 4) sc_grounds.nd rfl (.inl rfl) (pe_cmpR (UfK.op_inK (K := K)) (pv 2) (pe_tup (pa_cons pe_int (pa_cons pe_int (pa_cons pe_int (pa_cons pe_int (pa_cons pe_int (pa_cons pe_int (pa_cons pe_int (pa_cons pe_int (pa_cons pe_int (pa_cons pe_int (pa_cons pe_int (pa_cons pe_int pa_nil))))))))))))) (by rfl)))
      (pss_cons (ps_if (PW.pt (pw_and (pt_not (pt_val (pv 4))) (pw_and1 (pt_cmpR (UfK.op_neDK (K := K) hr.units) (pv 3) (pe_tup (pa_cons pe_str (pa_cons (pv 2) pa_nil))) (nomark _))))) (pss_one (ps_ret pe_bl)) pss_nil)
      (pss_cons (ps_set (i := 5) sc_grounds.nd rfl (.inl rfl) (UfR.pe_makeS T.groundMk (ok_g_init T) (hr.mono (by decide)) rfl T.ground.g T.g_init.b (fun σ => L2N.passAt UfT.takesN0 σ) (pa_cons (pv 1) pa_nil)))
      (pss_cons (ps_if (pt_val (pv 4)) (pss_cons (ps_if (PW.pt (pw_or (pt_cmpR op_ne (pe_ix (UfK.ix_tupK (K := K)) (pv 3) pe_int (fun _ _ => rfl)) pe_str (nomark _)) (pw_or (pt_not (pt_val (pe_callB (UfK.call_isiK' (K := K)) (by rfl) T.z_isinstance (by decide +kernel) (pa_cons (pe_ix (UfK.ix_tupK (K := K)) (pv 3) pe_int (fun _ _ => rfl)) (pa_cons (pe_glob (v := .ref T.ground.C) rfl T.ground.g rfl) pa_nil))))) (pw_or1 (pt_not (pt_val (pe_call (ok_int T) (hr.mono (by decide)) (by rfl) T.int_.g T.int_.F.kp T.int_.b .nil pass0 (pa_cons (UfK.pe_fldK (K := K) (pe_ix (UfK.ix_tupK (K := K)) (pv 3) pe_int (fun _ _ => rfl)) rfl) pa_nil)))))))) (pss_one (ps_ret pe_bl)) pss_nil)
      (pss_cons (ps_set (i := 6) sc_grounds.nd rfl (.inl rfl) (pe_lst (pa_cons (pe_cmpR (UfO.op_ownEq (hr.mono (by decide)) T.ground.o T.gEq (ok_g_eq T) T.g_eq.b pass0) (pe_ix (UfK.ix_tupK (K := K)) (pv 3) pe_int (fun _ _ => rfl)) (pv 5) (nomark _)) (pa_cons (pe_cmpR (UfO.op_ownNe (hr.mono (by decide)) T.ground.o T.gEq (ok_g_eq T) T.g_eq.b pass0) (pe_ix (UfK.ix_tupK (K := K)) (pv 3) pe_int (fun _ _ => rfl)) (pv 5) (nomark _)) (pa_cons (pe_cmpR (UfO.op_ownEq (hr.mono (by decide)) T.ground.o T.gEq (ok_g_eq T) T.g_eq.b pass0) (pv 5) (pv 1) (nomark _)) (pa_cons (pe_cmpR (UfO.op_ownNe (hr.mono (by decide)) T.ground.o T.gEq (ok_g_eq T) T.g_eq.b pass0) (pv 5) (pv 1) (nomark _)) (pa_cons (pe_cmpR (UfO.op_ownEq (hr.mono (by decide)) T.ground.o T.gEq (ok_g_eq T) T.g_eq.b pass0) (UfR.pe_makeD0 T.groundMk (ok_g_init T) (hr.mono (by decide)) rfl T.ground.g T.g_init.bd (fun σ => L2N.passAt UfT.takesN0 σ)) (UfR.pe_makeS T.groundMk (ok_g_init T) (hr.mono (by decide)) rfl T.ground.g T.g_init.b (fun σ => L2N.passAt UfT.takesN0 σ) (pa_cons pe_int pa_nil)) (nomark _)) pa_nil)))))))
      (pss_cons (ps_if (PW.pt (pw_or (pt_cmpR op_ne (UfK.pe_fldK (K := K) (pe_ix (UfK.ix_tupK (K := K)) (pv 3) pe_int (fun _ _ => rfl)) rfl) (pv 2) (nomark _)) (pw_or1 (pt_not (pt_val (pe_callB (UfK.cr_allK (K := K) rfl) (by rfl) T.z_all (by decide +kernel) (pa_cons (pe_lc (own := [("told", 8)]) rfl sc_grounds.nd (UfK.pi_listK (K := K) (pv 6)) (blkOk_by (own := [("told", 8)]) (N := ["pool", "prime", "asked", "answer", "fit", "ground", "answers", "first", "told"]) (sc := defScope s_grounds) (by decide +kernel)) (fun _ _ _ _ _ => by exact pg_name (i := 8) sc_grounds.nd rfl (.inl rfl)) (fun _ _ _ _ _ => pts_nil) (fun _ _ _ _ _ => (pe_callB (UfK.call_isiK' (K := K)) (by rfl) T.z_isinstance (by decide +kernel) (pa_cons (pv 8) (pa_cons (pe_bltn (by rfl) T.z_bool (by decide +kernel) (show RelV (.ty "bool") _ from rfl)) pa_nil))))) pa_nil))))))) (pss_one (ps_ret pe_bl)) pss_nil)
      (pss_one (ps_if (pt_cmpR (UfK.op_neDK (K := K) hr.units) (pv 6) (pe_lst (pa_cons (pe_cmpR op_eq (pv 2) (pv 1) (nomark _)) (pa_cons (pe_cmpR op_ne (pv 2) (pv 1) (nomark _)) (pa_cons pe_bl (pa_cons pe_bl (pa_cons pe_bl pa_nil)))))) (nomark _)) (pss_one (ps_ret pe_bl)) pss_nil))))) pss_nil)
      (pss_cons (ps_if (PW.pt (pw_or (pt_not (pt_val (pe_call (ok_int T) (hr.mono (by decide)) (by rfl) T.int_.g T.int_.F.kp T.int_.b .nil pass0 (pa_cons (UfK.pe_fldK (K := K) (UfR.pe_makeD0 T.groundMk (ok_g_init T) (hr.mono (by decide)) rfl T.ground.g T.g_init.bd (fun σ => L2N.passAt UfT.takesN0 σ)) rfl) pa_nil)))) (pw_or (pt_cmpR op_ne (UfK.pe_fldK (K := K) (UfR.pe_makeD0 T.groundMk (ok_g_init T) (hr.mono (by decide)) rfl T.ground.g T.g_init.bd (fun σ => L2N.passAt UfT.takesN0 σ)) rfl) pe_int (nomark _)) (pw_or1 (pt_cmpR op_ne (UfK.pe_fldK (K := K) (pv 5) rfl) (pv 1) (nomark _)))))) (pss_one (ps_ret pe_bl)) pss_nil)
      (pss_cons (ps_if (pt_cmpR (UfK.op_neDK (K := K) hr.units) (pe_call (ok_l_ground T) (hr.mono (by decide)) (by rfl) T.l_ground.g T.l_ground.F.kp T.l_ground.b .nil pass0 (pa_cons pe_int (pa_cons (UfR.pe_makeS T.groundMk (ok_g_init T) (hr.mono (by decide)) rfl T.ground.g T.g_init.b (fun σ => L2N.passAt UfT.takesN0 σ) (pa_cons pe_int pa_nil)) (pa_cons pe_int (pa_cons pe_int pa_nil))))) (pe_tup (pa_cons pe_str (pa_cons pe_int pa_nil))) (nomark _)) (pss_one (ps_ret pe_bl)) pss_nil)
      (pss_cons (ps_set (i := 7) sc_grounds.nd rfl (.inl rfl) (pe_call (ok_l_ground T) (hr.mono (by decide)) (by rfl) T.l_ground.g T.l_ground.F.kp T.l_ground.b .nil pass0 (pa_cons pe_int (pa_cons (pv 5) (pa_cons pe_int (pa_cons pe_int pa_nil))))))
      (pss_cons (ps_if (pt_not (pt_val (pe_call (ok_l_list T) (hr.mono (by decide)) (by rfl) T.l_list.g T.l_list.F.kp T.l_list.b .nil pass0 (pa_cons (pv 7) (pa_cons (pe_listRg rfl rfl T.z_list (prg_1 rfl T.z_range (pv 1))) pa_nil))))) (pss_one (ps_ret pe_bl)) pss_nil)
      (pss_cons (ps_expr (pe_bm PySem.F.plainAttrs_list PySem.F.slot_list_append PySem.F.type_list_append mt_append (pe_ix (UfK.ix_tupK (K := K)) (pv 7) pe_int (fun _ _ => rfl)) (pa_cons (pv 1) pa_nil)))
      (pss_one (ps_ret (pe_call (ok_l_list T) (hr.mono (by decide)) (by rfl) T.l_list.g T.l_list.F.kp T.l_list.b .nil pass0 (pa_cons (pe_call (ok_l_ground T) (hr.mono (by decide)) (by rfl) T.l_ground.g T.l_ground.F.kp T.l_ground.b .nil pass0 (pa_cons pe_int (pa_cons (pv 5) (pa_cons pe_int (pa_cons pe_int pa_nil))))) (pa_cons (pe_listRg rfl rfl T.z_list (prg_1 rfl T.z_range (pv 1))) pa_nil))))))))))))))))), ?_⟩
    have ten : ((10 : Int) ^ (30 : Int).toNat) = 1000000000000000000000000000000 := by decide +kernel
    refine seq_rest (fun σ' H' => ∃ (G1 : Hp) (i : Int), σ' = [some (.ref a), some (.int m), some (.int i), none, none, none, none, none, none] ∧ Lw H G (some (a, c, n + 1)) [] G1 H') (fun σ' H' hp => ?_) (fun kk => ⟨_, rfl, call_draw lw (by decide) (by decide) (by omega) fun G1 H1 d e1 lw d0 d1 => ⟨_, _, rfl, rfl, kk _ _ ⟨G1, _, rfl, lw⟩⟩⟩)
    obtain ⟨G1, i, rfl, lw⟩ := hp
    refine seq_rest (fun σ' H' => ∃ (G1 : Hp) (i : Int), σ' = [some (.ref a), some (.int m), some (.int i), none, none, none, none, none, none] ∧ Lw H G (some (a, c, n + 3)) [] G1 H') (fun σ' H' hp => ?_) (fun kk => ?_)
    rotate_left
    · refine ⟨_, rfl, call_draw lw (by decide) (by decide) (by omega) fun G2 H2 d e2 lw d0 d1 => ⟨rfl, _, rfl, ite2 (fun _ => ?_) (fun _ => kk _ _ ⟨G2, i, rfl, lw.more (by omega)⟩)⟩⟩
      exact ⟨_, rfl, _, _, rfl, rfl, pow_small (by decide) (by decide), call_draw lw (by decide +kernel) (by decide +kernel) (by omega) fun G3 H3 d e3 lw d0 d1 => ⟨_, _, rfl, rfl, kk _ _ ⟨G3, _, rfl, lw⟩⟩⟩
    obtain ⟨G1, i, rfl, lw⟩ := hp
    refine seq_rest (fun σ' H' => ∃ (G2 : Hp) (v : V), σ' = [some (.ref a), some (.int m), some (.int i), some v, none, none, none, none, none] ∧ Lw H G (some (a, c, n + 3)) [] G2 H' ∧ ((fitP i = true ∧ ∃ x, Told G2 v (.ref x) ∧ GrAt T.ground.C G2 x i) ∨ (fitP i = false ∧ Rp G2 v (errD (.prime i))))) (fun σ' H' hp => ?_) (fun kk => ?_)
    rotate_left
    · refine ⟨_, rfl, ?_⟩
      show sp_ask T [.int 4, .int i, .int 0] H' _ E0
      exact call_ask4 lw (fun hf G2 H2 v x e2 lw hv hx => kk _ _ ⟨G2, v, rfl, lw, .inl ⟨hf, x, hv, hx⟩⟩) fun hf G2 H2 v e2 lw r => kk _ _ ⟨G2, v, rfl, lw, .inr ⟨hf, r⟩⟩
    obtain ⟨G2, v, rfl, lw, hv⟩ := hp
    refine seq_rest (fun σ' H' => ∃ (G3 : Hp), σ' = [some (.ref a), some (.int m), some (.int i), some v, some (.bl (fitP i)), none, none, none, none] ∧ Lw H G (some (a, c, n + 3)) [] G3 H' ∧ Ex G2 G3) (fun σ' H' hp => ?_) (fun kk => ?_)
    rotate_left
    · refine ⟨_, rfl, (by show 12 ≤ sizeLine; decide), fun t nt => ?_⟩
      obtain ⟨G3, e3, lw, h3⟩ := lw.allocE (o := .tup (([0, 2, 3, 5, 7, 11, 13, 17, 19, 23, 29, 31] : List Int).map V.int)) nt
      refine ⟨t, _, rfl, .inr (SqT.g lw h3), rfl, rfl, ?_⟩
      show gName 4 (.bl (inV (.int i) (([0, 2, 3, 5, 7, 11, 13, 17, 19, 23, 29, 31] : List Int).map V.int))) _ _ _
      rw [in_fit]
      exact kk _ _ ⟨G3, rfl, lw, e3⟩
    obtain ⟨G3, rfl, lw, e3⟩ := hp
    have hv : ((fitP i = true ∧ ∃ x, Told G3 v (.ref x) ∧ GrAt T.ground.C G3 x i) ∨ (fitP i = false ∧ Rp G3 v (errD (.prime i)))) := by
      rcases hv with ⟨hf, x, hv, hx⟩ | ⟨hf, r⟩
      · exact .inl ⟨hf, x, hv.ex e3, hx.ex e3⟩
      · exact .inr ⟨hf, r.ex e3⟩
    refine seq_rest (fun σ' H' => ∃ (G4 : Hp), σ' = [some (.ref a), some (.int m), some (.int i), some v, some (.bl (fitP i)), none, none, none, none] ∧ Lw H G (some (a, c, n + 3)) [] G4 H' ∧ Ex G3 G4) (fun σ' H' hp => ?_) (fun kk => ?_)
    rotate_left
    · refine ⟨_, rfl, fitP i, rfl, ?_⟩
      rcases hv with ⟨hf, _⟩ | ⟨hf, r⟩
      · rw [hf]
        exact iteF (iteF (kk _ _ ⟨G3, by rw [hf], lw, Evl.Ex.refl _⟩))
      · rw [hf]
        refine iteT ⟨_, rfl, _, rfl, (by show 2 ≤ sizeLine; decide), fun t nt => ?_⟩
        obtain ⟨G4, e4, lw, h4⟩ := lw.allocE (o := .tup [.str "BadPrime", .int i]) nt
        exact r_neE lw (r.ex e4) (.tup h4 (.cons (.str _) (.cons (.int _) .nil))) (no_text fun _ => nofun) ⟨_, rfl, iteF (kk _ _ ⟨G4, by rw [hf], lw, e4⟩)⟩
    obtain ⟨G4, rfl, lw, e4⟩ := hp
    refine seq_rest (fun σ' H' => ∃ (G5 : Hp) (g : Addr), σ' = [some (.ref a), some (.int m), some (.int i), some v, some (.bl (fitP i)), some (.ref g), none, none, none] ∧ Lw H G (some (a, c, n + 3)) [] G5 H' ∧ Ex G4 G5 ∧ GrAt T.ground.C G5 g m) (fun σ' H' hp => ?_) (fun kk => ⟨_, rfl, fun x0 dx hx hd ne => g_run lw hf hx hd ne fun G1 H1 e1 lw hc => ⟨rfl, kk _ _ ⟨G1, x0, rfl, lw, e1, hc⟩⟩⟩)
    obtain ⟨G5, g, rfl, lw, e5, hg⟩ := hp
    have e35 := e4.trans e5
    refine seq_rest (fun σ' H' => ∃ (G6 : Hp) (z6 z8 : Option V), σ' = [some (.ref a), some (.int m), some (.int i), some v, some (.bl (fitP i)), some (.ref g), z6, none, z8] ∧ Lw H G (some (a, c, n + 3)) [] G6 H' ∧ Ex G5 G6) (fun σ' H' hp => ?_) (fun kk => ?_)
    rotate_left
    · refine ⟨_, rfl, fitP i, rfl, ite2 (fun hfi => ?_) (fun _ => kk _ _ ⟨G5, none, none, rfl, lw, Evl.Ex.refl _⟩)⟩
      rcases hv with ⟨_, x, hvx, hxx⟩ | ⟨z, _⟩
      rotate_left
      · rw [z] at hfi
        cases hfi
      obtain ⟨tv, rfl, hvx⟩ := hvx
      have hvx := e35 _ _ hvx
      have hxx := hxx.ex e35
      obtain ⟨dx, hxi⟩ := id hxx
      refine seq_rest (fun σ' H' => σ' = [some (.ref a), some (.int m), some (.int i), some (.ref tv), some (.bl (fitP i)), some (.ref g), none, none, none] ∧ Lw H G (some (a, c, n + 3)) [] G5 H') (fun σ' H' hp => ?_) (fun kk => ?_)
      rotate_left
      · exact ⟨_, rfl, tv, _, 0, _, rfl, rfl, SqT.g lw hvx, rfl, rfl, _, rfl, iteF ⟨_, rfl, tv, _, 1, _, rfl, rfl, SqT.g lw hvx, rfl, .ref x, .ref T.ground.C, .ref T.ground.C, .ref T.ground.C, true, rfl, .own _, T.ground.ty (lw.gh _ _ hxi), T.kGG, true, rfl, iteF ⟨_, rfl, tv, _, 1, _, rfl, rfl, SqT.g lw hvx, rfl, x, T.ground.C, dx, _, _, rfl, lw.gh _ _ hxi, T.ground.c, T.nPrime, lk_prime, _, rfl, true, rfl, iteF (kk _ _ ⟨rfl, lw⟩)⟩⟩⟩
      obtain ⟨rfl, lw⟩ := hp
      obtain ⟨bs, hbs⟩ : ∃ bs : List Bool, bs = [decide (i = m), !decide (i = m), false, true, true] := ⟨_, rfl⟩
      refine seq_rest (fun σ' H' => ∃ (G6 : Hp) (t : Addr), σ' = [some (.ref a), some (.int m), some (.int i), some (.ref tv), some (.bl (fitP i)), some (.ref g), some (.ref t), none, none] ∧ Lw H G (some (a, c, n + 3)) [] G6 H' ∧ Ex G5 G6 ∧ G6 t = some (.lst (bs.map V.bl))) (fun σ' H' hp => ?_) (fun kk => ?_)
      rotate_left
      · refine ⟨_, rfl, tv, _, 1, _, rfl, rfl, SqT.g lw hvx, rfl, _, rfl, r_eqG (neg := false) lw hxx hg fun G6 H6 e6 lw => ?_⟩
        refine ⟨_, rfl, tv, _, 1, _, rfl, rfl, SqT.g lw (e6 _ _ hvx), rfl, _, rfl, r_eqG (neg := true) lw (hxx.ex e6) (hg.ex e6) fun G7 H7 e7 lw => ?_⟩
        have e67 := e6.trans e7
        refine ⟨_, rfl, _, rfl, r_eqGi (neg := false) lw (hg.ex e67) fun G8 H8 e8 lw => ?_⟩
        have e68 := e67.trans e8
        refine ⟨_, rfl, _, rfl, r_eqGi (neg := true) lw (hg.ex e68) fun G9 H9 e9 lw => ?_⟩
        have e69 := e68.trans e9
        refine fun x0 d0 hx0 hd0 ne0 => g_run lw rfl hx0 hd0 ne0 fun G10 H10 e10 lw hc10 => ⟨rfl, fun x1 d1 hx1 hd1 ne1 => g_run lw rfl hx1 hd1 ne1 fun G11 H11 e11 lw hc11 => ⟨rfl, ?_⟩⟩
        refine r_eqG (neg := false) lw (hc10.ex e11) hc11 fun G12 H12 e12 lw => ⟨(by show 5 ≤ sizeLine; decide), fun t nt => ?_⟩
        obtain ⟨G13, e13, lw, h13⟩ := lw.allocE (o := .lst (bs.map V.bl)) nt
        rw [show bs.map V.bl = [.bl (decide (i = m)), .bl (!decide (i = m)), .bl false, .bl true, .bl true] by rw [hbs]; rfl] at lw
        exact kk _ _ ⟨G13, t, rfl, lw, (e69.trans e10).trans ((e11.trans e12).trans e13), h13⟩
      obtain ⟨G6, t, rfl, lw, e6, ht⟩ := hp
      have hvx := e6 _ _ hvx
      have hxi := e6 _ _ hxi
      refine seq_rest (fun σ' H' => ∃ (G7 : Hp), σ' = [some (.ref a), some (.int m), some (.int i), some (.ref tv), some (.bl (fitP i)), some (.ref g), some (.ref t), none, none] ∧ Lw H G (some (a, c, n + 3)) [] G7 H' ∧ Ex G6 G7) (fun σ' H' hp => ?_) (fun kk => ?_)
      rotate_left
      · refine ⟨_, rfl, tv, _, 1, _, rfl, rfl, SqT.g lw hvx, rfl, x, T.ground.C, dx, _, _, rfl, lw.gh _ _ hxi, T.ground.c, T.nPrime, lk_prime, _, rfl, rfl, _, rfl, ?_⟩
        rw [decide_eq_true rfl]
        refine iteF ⟨_, rfl, t, rfl, ⟨_, SqL.g lw ht⟩, fun D2 hD2 => lc_true lw hD2 ht (by rw [List.length_map, hbs]; show 5 < 100000; decide) (fun i x' G' H' acc hi e lw hac Nx nx => ?_) (fun G33 H33 e33 lw hD2 => ?_)⟩
        · obtain ⟨c, hc, rfl⟩ : ∃ c, bs[i]? = some c ∧ x' = .bl c := by
            rw [List.getElem?_map] at hi
            cases ee : bs[i]? with
            | none => rw [ee] at hi; cases hi
            | some c => rw [ee] at hi; exact ⟨c, rfl, (Option.some.inj hi).symm⟩
          have il : i < 5 := by
            have := (List.getElem?_eq_some_iff.mp hc).1
            rw [hbs] at this
            exact this
          exact ⟨rfl, _, rfl, .bl c, .ty "bool", .type "bool", .type "bool", true, rfl, .ty _, .base (.bl c), kit_ty rfl, _, lw.at, Evl.sz_lt (by rw [hac]; omega), nx _ _ (Evl.Ex.refl _) lw.put⟩
        · refine ⟨D2, _, rfl, SqL.g lw hD2, ?_⟩
          rw [all_true]
          exact ⟨true, rfl, iteF (kk _ _ ⟨G33, rfl, lw, e33⟩)⟩
      obtain ⟨G7, rfl, lw, e7⟩ := hp
      have ei : decide (V.int i = V.int m) = decide (i = m) := by
        rw [decide_eq_decide]
        exact ⟨fun z => by injection z, fun z => by rw [z]⟩
      refine ⟨_, rfl, _, rfl, _, rfl, rfl, _, rfl, _, rfl, rfl, (by show 5 ≤ sizeLine; decide), fun tw nt => ?_⟩
      rw [ei]
      obtain ⟨G8, e8, lw, h8⟩ := lw.allocE (o := .lst (bs.map V.bl)) nt
      rw [show bs.map V.bl = [.bl (decide (i = m)), .bl (!decide (i = m)), .bl false, .bl true, .bl true] by rw [hbs]; rfl] at lw
      refine ⟨.list (bs.map PyData.bool), .list (bs.map PyData.bool), Rp.up lw (.lst (e8 _ _ (e7 _ _ ht)) (rp_bools bs)), Rp.up lw (.lst h8 (rp_bools bs)), shaped_lstB _, shaped_lstB _, ?_⟩
      rw [eqv_lstB]
      exact ⟨_, rfl, iteF (kk _ _ ⟨G8, _, _, rfl, lw, (e6.trans e7).trans e8⟩)⟩
    obtain ⟨G6, z6, z8, rfl, lw, e6⟩ := hp
    have hg := hg.ex e6
    refine seq_rest (fun σ' H' => ∃ (G7 : Hp), σ' = [some (.ref a), some (.int m), some (.int i), some v, some (.bl (fitP i)), some (.ref g), z6, none, z8] ∧ Lw H G (some (a, c, n + 3)) [] G7 H' ∧ Ex G6 G7) (fun σ' H' hp => ?_) (fun kk => ?_)
    rotate_left
    · refine fun x0 d0 hx0 hd0 ne0 => g_run lw rfl hx0 hd0 ne0 fun G7 H7 e7 lw hc7 => ⟨rfl, ?_⟩
      obtain ⟨dx, hc7⟩ := hc7
      refine ⟨x0, T.ground.C, dx, _, _, rfl, lw.gh _ _ hc7, T.ground.c, T.nPrime, lk_prime, _, rfl, true, rfl, iteF ?_⟩
      refine fun x1 d1 hx1 hd1 ne1 => g_run lw rfl hx1 hd1 ne1 fun G8 H8 e8 lw hc8 => ⟨rfl, ?_⟩
      obtain ⟨dy, hc8⟩ := hc8
      refine ⟨x1, T.ground.C, dy, _, _, rfl, lw.gh _ _ hc8, T.ground.c, T.nPrime, lk_prime, rfl, _, rfl, iteF ?_⟩
      obtain ⟨dz, hg8⟩ := hg.ex (e7.trans e8)
      refine ⟨_, rfl, g, T.ground.C, dz, _, _, rfl, lw.gh _ _ hg8, T.ground.c, T.nPrime, lk_prime, _, rfl, rfl, _, rfl, ?_⟩
      rw [decide_eq_true rfl]
      exact iteF (kk _ _ ⟨G8, rfl, lw, e7.trans e8⟩)
    obtain ⟨G7, rfl, lw, e7⟩ := hp
    have hg := hg.ex e7
    refine seq_rest (fun σ' H' => ∃ (G8 : Hp), σ' = [some (.ref a), some (.int m), some (.int i), some v, some (.bl (fitP i)), some (.ref g), z6, none, z8] ∧ Lw H G (some (a, c, n + 3)) [] G8 H' ∧ Ex G7 G8) (fun σ' H' hp => ?_) (fun kk => ?_)
    rotate_left
    · refine fun x0 d0 hx0 hd0 ne0 => g_run lw rfl hx0 hd0 ne0 fun G8 H8 e8 lw hc8 => ⟨rfl, ?_⟩
      show sp_l_ground T [.int 4, .ref x0, .int 0, .int 0] H8 _ E0
      refine call_numbers0 lw hc8 fun G9 H9 v9 e9 lw r9 => ⟨(by show 2 ≤ sizeLine; decide), fun t nt => ?_⟩
      obtain ⟨G10, e10, lw, h10⟩ := lw.allocE (o := .tup [.str "WrongGround", .int 0]) nt
      exact r_neE lw (r9.ex e10) (.tup h10 (.cons (.str _) (.cons (.int _) .nil))) (no_text fun _ => nofun) ⟨_, rfl, iteF (kk _ _ ⟨G10, rfl, lw, (e8.trans e9).trans e10⟩)⟩
    obtain ⟨G8, rfl, lw, e8⟩ := hp
    have x8 := lw.g0
    have hg := hg.ex e8
    have m0 : 0 ≤ m ∧ m < 1000 := by omega
    obtain ⟨ns, hns⟩ : ∃ ns : List Int, ns = ((List.range m.toNat).map fun (e : Nat) => (e : Int)) := ⟨_, rfl⟩
    have hrg : rgV 0 m = ns.map V.int := by rw [hns]; exact rg_ints m
    have nl : ns.length ≤ 1000 := by
      rw [hns, List.length_map, List.length_range]
      omega
    refine seq_rest (fun σ' H' => ∃ (G9 : Hp) (tf t : Addr), σ' = [some (.ref a), some (.int m), some (.int i), some v, some (.bl (fitP i)), some (.ref g), z6, some (.ref tf), z8] ∧ Lw H G (some (a, c, n + 3)) [] G9 H' ∧ Ex G8 G9 ∧ G9 tf = some (.tup [.str "told", .ref t]) ∧ G8 t = none ∧ G9 t = some (.lst (ns.map V.int))) (fun σ' H' hp => ?_) (fun kk => ?_)
    rotate_left
    · refine ⟨_, rfl, ?_⟩
      show sp_l_ground T [.int 4, .ref g, .int 0, .int 0] H' _ E0
      refine call_numbers lw hg m0 (by omega) fun G9 H9 z t e9 lw hz fr ht => ?_
      obtain ⟨tf, rfl, hz⟩ := hz
      rw [hrg] at ht
      exact kk _ _ ⟨G9, tf, t, rfl, lw, e9, hz, fr, ht⟩
    obtain ⟨G9, tf, t, rfl, lw, e9, hz, fr, ht⟩ := hp
    have hg := hg.ex e9
    refine seq_rest (fun σ' H' => ∃ (G10 : Hp), σ' = [some (.ref a), some (.int m), some (.int i), some v, some (.bl (fitP i)), some (.ref g), z6, some (.ref tf), z8] ∧ Lw H G (some (a, c, n + 3)) [] G10 H' ∧ Ex G9 G10) (fun σ' H' hp => ?_) (fun kk => ?_)
    rotate_left
    · refine ⟨_, rfl, _, rfl, _, rfl, .of_le (by decide) (by omega) (by decide) m0.1, fun u nu => ?_⟩
      rw [hrg]
      obtain ⟨G10, e10, lw, h10⟩ := lw.allocE (o := .lst (ns.map V.int)) nu
      exact call_l_list lw ⟨tf, rfl, e10 _ _ hz⟩ (e10 _ _ ht) h10 nl fun G11 H11 e11 lw => ⟨true, rfl, iteF (kk _ _ ⟨G11, rfl, lw, e10.trans e11⟩)⟩
    obtain ⟨G10, rfl, lw, e10⟩ := hp
    have ht := e10 _ _ ht
    have hz := e10 _ _ hz
    obtain ⟨dg, hg⟩ := hg.ex e10
    refine seq_rest (fun σ' H' => ∃ (G11 : Hp), σ' = [some (.ref a), some (.int m), some (.int i), some v, some (.bl (fitP i)), some (.ref g), z6, some (.ref tf), z8] ∧ Lw H G (some (a, c, n + 3)) [] G11 H' ∧ GrAt T.ground.C G11 g m) (fun σ' H' hp => ?_) (fun kk => ?_)
    rotate_left
    · refine ⟨_, rfl, tf, _, 1, _, rfl, rfl, SqT.g lw hz, rfl, .inl ⟨rfl, _, SqL.g lw ht⟩, _, rfl, t, _, _, rfl, rfl, lw.gh _ _ ht, Evl.sz_lt (by rw [List.length_map]; omega), ?_⟩
      have g0 : G t = none := fr0 x8 fr
      obtain ⟨lw, _⟩ := lw.thaw ht g0 (fun r hr => nomatch hr)
      exact kk _ _ ⟨_, rfl, lw.put.drop, ⟨dg, stay hg (apart hg ht nofun)⟩⟩
    obtain ⟨G11, rfl, lw, hg⟩ := hp
    refine ⟨_, rfl, ?_⟩
    show sp_l_ground T [.int 4, .ref g, .int 0, .int 0] H' _ E0
    refine call_numbers lw hg m0 (by omega) fun G12 H12 z t2 e12 lw hz fr ht => ?_
    rw [hrg] at ht
    refine ⟨_, rfl, _, rfl, .of_le (by decide) (by omega) (by decide) m0.1, fun u nu => ?_⟩
    rw [hrg]
    obtain ⟨G13, e13, lw, h13⟩ := lw.allocE (o := .lst (ns.map V.int)) nu
    exact call_l_list lw (hz.ex e13) (e13 _ _ ht) h13 nl fun G14 H14 e14 lw => k _ _ _ lw rfl
end
end K01

namespace K01
open PySem PySem.Spec PyProof.Rows L2 UfG UfT UfR UfO UfI UfQ UfN SX UfX UfD
open Evl (Ex)
section
variable {P : Program} {w : World} {K : PySem.W.Frag} {mg : Str → Option Value} {base : Heap}
section
variable {T : Tx K mg} {H0 G0 G H : Hp} {p : Option (Addr × Addr × Nat)} {ls : List (Addr × HO)} {Q : VK} {x y one two pair : V} {q1 q2 q r : Rat} {m i j n d : Int}
theorem call_field {r1 r2 rp rm rt r6 rv ro : Rat} (lw : Lw H0 G0 p ls G H) (F : FieldOk T H G m x y one two r1 r2 rp rm rt r6 rv ro) (k : ∀ G' H', Ex G G' → Lw H0 G0 p ls G' H' → Q (.bl true) H') : sp_field T [.int m, x, y, one, two] H Q E0 :=
  ⟨m, x, y, one, two, r1, r2, rp, rm, rt, r6, rv, ro, G, rfl, lw.enter, F, fun G' H' l => k _ _ l.g0 (lw.after l)⟩
theorem call_powers (lw : Lw H0 G0 p ls G H) (F : PowOk T H G m pair n q r) (k : ∀ G' H', Ex G G' → Lw H0 G0 p ls G' H' → Q (.bl true) H') : sp_powers T [.int m, pair, .int n] H Q E0 :=
  ⟨m, pair, n, q, r, G, rfl, lw.enter, F, fun G' H' l => k _ _ l.g0 (lw.after l)⟩
theorem call_makes (lw : Lw H0 G0 p ls G H) (hd : d ≠ 0) (nb : n.natAbs < 2 ^ 2000) (db : d.natAbs < 2 ^ 2000) (k : ∀ G' H', Ex G G' → Lw H0 G0 p ls G' H' → Q (.bl true) H') : sp_makes [.int n, .int d] H Q E0 :=
  ⟨n, d, call_pure lw ⟨rfl, hd, nb, db⟩ fun G' H' v e l (hv : v = _) => by
    subst hv
    exact k _ _ e l⟩
theorem call_sums (lw : Lw H0 G0 p ls G H) (hx : TI G x q1.num q1.den) (hy : TI G y q2.num q2.den) (s1 : Sm 400 q1) (s2 : Sm 400 q2) (k : ∀ G' H', Ex G G' → Lw H0 G0 p ls G' H' → Q (.bl true) H') : sp_sums [x, y] H Q E0 :=
  ⟨q1, q2, call_pure lw ⟨x, y, rfl, hx, hy, s1, s2⟩ fun G' H' v e l (hv : v = _) => by
    subst hv
    exact k _ _ e l⟩
theorem call_tells (lw : Lw H0 G0 p ls G H) (hx : TI G x q1.num q1.den) (hy : TI G y q2.num q2.den) (s1 : Sm 400 q1) (s2 : Sm 400 q2) (k : ∀ G' H', Ex G G' → Lw H0 G0 p ls G' H' → Q (.bl true) H') : sp_tells [x, y] H Q E0 :=
  ⟨q1, q2, call_pure lw ⟨x, y, rfl, hx, hy, s1, s2⟩ fun G' H' v e l (hv : v = _) => by
    subst hv
    exact k _ _ e l⟩
theorem call_l_roots (lw : Lw H0 G0 p ls G H) (hf : fitP m = true) (hm : m = 0 ∨ 2 ≤ m ∧ m < 1000) (k : ∀ G' H', Ex G G' → Lw H0 G0 p ls G' H' → Q (.bl true) H') : sp_l_roots [.int m, .int n] H Q E0 :=
  ⟨m, n, call_pure lw ⟨rfl, hf, hm⟩ fun G' H' v e l (hv : v = _) => by
    subst hv
    exact k _ _ e l⟩
end
theorem tNil_ap {σ : L2.St} {H : Hp} {Q : List V → Hp → Prop} (h : Q [] H) : tNil σ H Q := h
theorem pow_bd {b : Nat} {z : Int} (hz : z.natAbs ≤ b) (B e : Nat) (he : e ≤ B) (hB : b ^ B < 2 ^ 4000) (b1 : 1 ≤ b) : (z ^ e).natAbs < 2 ^ 4000 := by
  rw [Int.natAbs_pow]
  exact Nat.lt_of_le_of_lt (Nat.le_trans (Nat.pow_le_pow_left hz e) (Nat.pow_le_pow_right b1 he)) hB
theorem sc_law : FnScope ["script", "pool", "numbers", "one", "two", "prime", "a", "b", "small", "count"] ["script"] (defScope s_law) := ⟨rfl, rfl, rfl, by decide +kernel, rfl, by decide +kernel, by decide +kernel⟩
def sp_law (K : PySem.W.Frag) : Sp := fun vs H Q _ => ∃ (a : Addr) (ns : List Int), vs = [.ref a] ∧ SqL K H a (ns.map V.int) ∧ ns.length ≤ 63 ∧ ∀ H', Q (.bl true) H'
theorem ok_law (T : Tx K mg) {f : Addr} {fd : FuncData} (F : Fun K "law" "law" s_law f fd) : FnOk P w K mg base CX0 24 f fd ["script"] (sp_law K) := by
  refine F.ok sc_law (fun vs H Q E h => ?_) (fun cdv A outer s H vs Q E hr h => ?_)
  · obtain ⟨a, ns, rfl, _⟩ := h
    rfl
  · obtain ⟨sa, ns, rfl, hS, _, k⟩ := h
    refine ⟨_, (pss_cons (ps_set (i := 1) sc_law.nd rfl (.inl rfl) (pe_call (ok_pool T) (hr.mono (by decide)) (by rfl) T.pool.g T.pool.F.kp T.pool.b .nil pass0 (pa_cons (pv 0) pa_nil)))
      (pss_cons (ps_set (i := 2) sc_law.nd rfl (.inl rfl) (pe_call (ok_l_numbers T) (hr.mono (by decide)) (by rfl) T.l_numbers.g T.l_numbers.F.kp T.l_numbers.b .nil pass0 (pa_cons (pv 1) pa_nil)))
      (pss_cons (ps_set (i := 3) sc_law.nd rfl (.inl rfl) (pe_call (ok_low T) (hr.mono (by decide)) (by rfl) T.low.g T.low.F.kp T.low.b .nil pass0 (pa_cons pe_int (pa_cons (pe_ix (UfK.ix_listK (K := K)) (pe_ix (UfK.ix_listK (K := K)) (pv 2) pe_int (fun _ _ => rfl)) pe_int (fun _ _ => rfl)) (pa_cons (pe_ix (UfK.ix_listK (K := K)) (pe_ix (UfK.ix_listK (K := K)) (pv 2) pe_int (fun _ _ => rfl)) pe_int (fun _ _ => rfl)) pa_nil)))))
      (pss_cons (ps_set (i := 4) sc_law.nd rfl (.inl rfl) (pe_call (ok_low T) (hr.mono (by decide)) (by rfl) T.low.g T.low.F.kp T.low.b .nil pass0 (pa_cons pe_int (pa_cons (pe_ix (UfK.ix_listK (K := K)) (pe_ix (UfK.ix_listK (K := K)) (pv 2) pe_int (fun _ _ => rfl)) pe_int (fun _ _ => rfl)) (pa_cons (pe_ix (UfK.ix_listK (K := K)) (pe_ix (UfK.ix_listK (K := K)) (pv 2) pe_int (fun _ _ => rfl)) pe_int (fun _ _ => rfl)) pa_nil)))))
      (pss_cons (ps_set (i := 5) sc_law.nd rfl (.inl rfl) (pe_ix (UfK.ix_tupK (K := K)) (pe_tup (pa_cons pe_int (pa_cons pe_int (pa_cons pe_int (pa_cons pe_int (pa_cons pe_int (pa_cons pe_int (pa_cons pe_int (pa_cons pe_int (pa_cons pe_int (pa_cons pe_int (pa_cons pe_int pa_nil)))))))))))) (pe_call (ok_draw T) (hr.mono (by decide)) (by rfl) T.draw.g T.draw.F.kp T.draw.b .nil pass0 (pa_cons (pv 1) (pa_cons pe_int pa_nil))) (fun _ _ => rfl)))
      (pss_cons (ps_if (PW.pt (pw_or (pt_not (pt_val (pe_call (ok_makes T) (hr.mono (by decide)) (by rfl) T.makes.g T.makes.F.kp T.makes.b .nil pass0 (pa_cons (pe_ix (UfK.ix_listK (K := K)) (pe_ix (UfK.ix_listK (K := K)) (pv 2) pe_int (fun _ _ => rfl)) pe_int (fun _ _ => rfl)) (pa_cons (pe_ix (UfK.ix_listK (K := K)) (pe_ix (UfK.ix_listK (K := K)) (pv 2) pe_int (fun _ _ => rfl)) pe_int (fun _ _ => rfl)) pa_nil))))) (pw_or1 (pt_not (pt_val (pe_call (ok_makes T) (hr.mono (by decide)) (by rfl) T.makes.g T.makes.F.kp T.makes.b .nil pass0 (pa_cons (pe_ix (UfK.ix_listK (K := K)) (pe_ix (UfK.ix_listK (K := K)) (pv 2) pe_int (fun _ _ => rfl)) pe_int (fun _ _ => rfl)) (pa_cons (pe_ix (UfK.ix_listK (K := K)) (pe_ix (UfK.ix_listK (K := K)) (pv 2) pe_int (fun _ _ => rfl)) pe_int (fun _ _ => rfl)) pa_nil)))))))) (pss_one (ps_ret pe_bl)) pss_nil)
      (pss_cons (ps_if (PW.pt (pw_or (pt_not (pt_val (pe_call (ok_sums T) (hr.mono (by decide)) (by rfl) T.sums.g T.sums.F.kp T.sums.b .nil pass0 (pa_cons (pv 3) (pa_cons (pv 4) pa_nil))))) (pw_or (pt_not (pt_val (pe_call (ok_sums T) (hr.mono (by decide)) (by rfl) T.sums.g T.sums.F.kp T.sums.b .nil pass0 (pa_cons (pv 3) (pa_cons (pe_tup (pa_cons (pe_ix (UfK.ix_listK (K := K)) (pe_ix (UfK.ix_listK (K := K)) (pv 2) pe_int (fun _ _ => rfl)) pe_int (fun _ _ => rfl)) (pa_cons pe_int pa_nil))) pa_nil))))) (pw_or1 (pt_not (pt_val (pe_call (ok_sums T) (hr.mono (by decide)) (by rfl) T.sums.g T.sums.F.kp T.sums.b .nil pass0 (pa_cons (pe_tup (pa_cons (pe_ix (UfK.ix_listK (K := K)) (pe_ix (UfK.ix_listK (K := K)) (pv 2) pe_int (fun _ _ => rfl)) pe_int (fun _ _ => rfl)) (pa_cons pe_int pa_nil))) (pa_cons (pv 4) pa_nil))))))))) (pss_one (ps_ret pe_bl)) pss_nil)
      (pss_cons (ps_if (PW.pt (pw_or (pt_not (pt_val (pe_call (ok_tells T) (hr.mono (by decide)) (by rfl) T.tells.g T.tells.F.kp T.tells.b .nil pass0 (pa_cons (pv 3) (pa_cons (pv 4) pa_nil))))) (pw_or (pt_not (pt_val (pe_call (ok_tells T) (hr.mono (by decide)) (by rfl) T.tells.g T.tells.F.kp T.tells.b .nil pass0 (pa_cons (pv 4) (pa_cons (pv 3) pa_nil))))) (pw_or1 (pt_not (pt_val (pe_call (ok_texts T) (hr.mono (by decide)) (by rfl) T.texts.g T.texts.F.kp T.texts.b .nil pass0 (pa_cons (pv 1) (pa_cons (pv 3) (pa_cons (pv 4) pa_nil)))))))))) (pss_one (ps_ret pe_bl)) pss_nil)
      (pss_cons (ps_if (pt_not (pt_val (pe_call (ok_field T) (hr.mono (by decide)) (by rfl) T.field.g T.field.F.kp T.field.b .nil pass0 (pa_cons pe_int (pa_cons (pe_call (ok_hand T) (hr.mono (by decide)) (by rfl) T.hand.g T.hand.F.kp T.hand.b .nil pass0 (pa_cons (pv 3) pa_nil)) (pa_cons (pe_call (ok_hand T) (hr.mono (by decide)) (by rfl) T.hand.g T.hand.F.kp T.hand.b .nil pass0 (pa_cons (pv 4) pa_nil)) (pa_cons (pv 3) (pa_cons (pv 4) pa_nil)))))))) (pss_one (ps_ret pe_bl)) pss_nil)
      (pss_cons (ps_set (i := 6) sc_law.nd rfl (.inl rfl) (pe_ix (UfK.ix_tupK (K := K)) (pe_tup (pa_cons (pe_ix (UfK.ix_listK (K := K)) (pe_ix (UfK.ix_listK (K := K)) (pv 2) pe_int (fun _ _ => rfl)) pe_int (fun _ _ => rfl)) (pa_cons (pe_op op_pow pe_int pe_int) (pa_cons (pe_un un_neg (pe_op op_pow pe_int pe_int)) (pa_cons (pe_ix (UfK.ix_listK (K := K)) (pe_ix (UfK.ix_listK (K := K)) (pv 2) pe_int (fun _ _ => rfl)) pe_int (fun _ _ => rfl)) pa_nil))))) (pe_call (ok_draw T) (hr.mono (by decide)) (by rfl) T.draw.g T.draw.F.kp T.draw.b .nil pass0 (pa_cons (pv 1) (pa_cons pe_int pa_nil))) (fun _ _ => rfl)))
      (pss_cons (ps_set (i := 7) sc_law.nd rfl (.inl rfl) (pe_ix (UfK.ix_tupK (K := K)) (pe_tup (pa_cons (pe_ix (UfK.ix_listK (K := K)) (pe_ix (UfK.ix_listK (K := K)) (pv 2) pe_int (fun _ _ => rfl)) pe_int (fun _ _ => rfl)) (pa_cons (pe_op op_mulW (pv 5) (pe_call (ok_draw T) (hr.mono (by decide)) (by rfl) T.draw.g T.draw.F.kp T.draw.b .nil pass0 (pa_cons (pv 1) (pa_cons pe_int pa_nil)))) (pa_cons (pv 6) (pa_cons (pe_ix (UfK.ix_listK (K := K)) (pe_ix (UfK.ix_listK (K := K)) (pv 2) pe_int (fun _ _ => rfl)) pe_int (fun _ _ => rfl)) pa_nil))))) (pe_call (ok_draw T) (hr.mono (by decide)) (by rfl) T.draw.g T.draw.F.kp T.draw.b .nil pass0 (pa_cons (pv 1) (pa_cons pe_int pa_nil))) (fun _ _ => rfl)))
      (pss_cons (ps_if (pt_not (pt_val (pe_call (ok_field T) (hr.mono (by decide)) (by rfl) T.field.g T.field.F.kp T.field.b .nil pass0 (pa_cons (pv 5) (pa_cons (pv 6) (pa_cons (pv 7) (pa_cons (pe_call (ok_low T) (hr.mono (by decide)) (by rfl) T.low.g T.low.F.kp T.low.b .nil pass0 (pa_cons (pv 5) (pa_cons (pv 6) (pa_cons pe_int pa_nil)))) (pa_cons (pe_call (ok_low T) (hr.mono (by decide)) (by rfl) T.low.g T.low.F.kp T.low.b .nil pass0 (pa_cons (pv 5) (pa_cons (pv 7) (pa_cons pe_int pa_nil)))) pa_nil)))))))) (pss_one (ps_ret pe_bl)) pss_nil)
      (pss_cons (ps_set (i := 8) sc_law.nd rfl (.inl rfl) (pe_call (ok_low T) (hr.mono (by decide)) (by rfl) T.low.g T.low.F.kp T.low.b .nil pass0 (pa_cons pe_int (pa_cons (pe_op op_sub (pe_call (ok_draw T) (hr.mono (by decide)) (by rfl) T.draw.g T.draw.F.kp T.draw.b .nil pass0 (pa_cons (pv 1) (pa_cons pe_int pa_nil))) pe_int) (pa_cons (pe_op op_add pe_int (pe_call (ok_draw T) (hr.mono (by decide)) (by rfl) T.draw.g T.draw.F.kp T.draw.b .nil pass0 (pa_cons (pv 1) (pa_cons pe_int pa_nil)))) pa_nil)))))
      (pss_cons (ps_set (i := 9) sc_law.nd rfl (.inl rfl) (pe_call (ok_count T) (hr.mono (by decide)) (by rfl) T.count.g T.count.F.kp T.count.b .nil pass0 (pa_cons (pv 1) pa_nil)))
      (pss_cons (ps_if (PW.pt (pw_or (pt_not (pt_val (pe_call (ok_powers T) (hr.mono (by decide)) (by rfl) T.powers.g T.powers.F.kp T.powers.b .nil pass0 (pa_cons pe_int (pa_cons (pv 8) (pa_cons (pv 9) pa_nil)))))) (pw_or1 (pt_not (pt_val (pe_call (ok_powers T) (hr.mono (by decide)) (by rfl) T.powers.g T.powers.F.kp T.powers.b .nil pass0 (pa_cons pe_int (pa_cons (pv 3) (pa_cons (pe_op op_add pe_int (pe_call (ok_draw T) (hr.mono (by decide)) (by rfl) T.draw.g T.draw.F.kp T.draw.b .nil pass0 (pa_cons (pv 1) (pa_cons pe_int pa_nil)))) pa_nil))))))))) (pss_one (ps_ret pe_bl)) pss_nil)
      (pss_cons (ps_if (PW.pt (pw_or (pt_not (pt_val (pe_call (ok_powers T) (hr.mono (by decide)) (by rfl) T.powers.g T.powers.F.kp T.powers.b .nil pass0 (pa_cons (pv 5) (pa_cons (pe_tup (pa_cons (pv 6) (pa_cons pe_int pa_nil))) (pa_cons (pv 9) pa_nil)))))) (pw_or1 (pt_not (pt_val (pe_call (ok_powers T) (hr.mono (by decide)) (by rfl) T.powers.g T.powers.F.kp T.powers.b .nil pass0 (pa_cons (pv 5) (pa_cons (pe_tup (pa_cons (pv 6) (pa_cons pe_int pa_nil))) (pa_cons (pe_op op_add pe_int (pe_call (ok_draw T) (hr.mono (by decide)) (by rfl) T.draw.g T.draw.F.kp T.draw.b .nil pass0 (pa_cons (pv 1) (pa_cons pe_int pa_nil)))) pa_nil))))))))) (pss_one (ps_ret pe_bl)) pss_nil)
      (pss_cons (ps_if (PW.pt (pw_or (pt_not (pt_val (pe_call (ok_l_roots T) (hr.mono (by decide)) (by rfl) T.l_roots.g T.l_roots.F.kp T.l_roots.b .nil pass0 (pa_cons pe_int (pa_cons (pv 9) pa_nil))))) (pw_or1 (pt_not (pt_val (pe_call (ok_l_roots T) (hr.mono (by decide)) (by rfl) T.l_roots.g T.l_roots.F.kp T.l_roots.b .nil pass0 (pa_cons (pv 5) (pa_cons (pv 9) pa_nil)))))))) (pss_one (ps_ret pe_bl)) pss_nil)
      (pss_cons (ps_if (PW.pt (pw_or (pt_not (pt_val (pe_call (ok_l_roots T) (hr.mono (by decide)) (by rfl) T.l_roots.g T.l_roots.F.kp T.l_roots.b .nil pass0 (pa_cons pe_int (pa_cons (pe_op op_add pe_int (pe_call (ok_draw T) (hr.mono (by decide)) (by rfl) T.draw.g T.draw.F.kp T.draw.b .nil pass0 (pa_cons (pv 1) (pa_cons pe_int pa_nil)))) pa_nil))))) (pw_or1 (pt_not (pt_val (pe_call (ok_l_roots T) (hr.mono (by decide)) (by rfl) T.l_roots.g T.l_roots.F.kp T.l_roots.b .nil pass0 (pa_cons (pv 5) (pa_cons (pe_op op_add pe_int (pe_call (ok_draw T) (hr.mono (by decide)) (by rfl) T.draw.g T.draw.F.kp T.draw.b .nil pass0 (pa_cons (pv 1) (pa_cons (pv 5) pa_nil)))) pa_nil)))))))) (pss_one (ps_ret pe_bl)) pss_nil)
      (pss_one (ps_ret (pe_call (ok_grounds T) (hr.mono (by decide)) (by rfl) T.grounds.g T.grounds.F.kp T.grounds.b .nil pass0 (pa_cons (pv 1) (pa_cons (pv 5) pa_nil))))))))))))))))))))))), ?_⟩
    refine seq_rest (fun σ' H' => ∃ (H1 : Hp) (a c : Addr), σ' = [some (.ref sa), some (.ref a), none, none, none, none, none, none, none, none] ∧ Lw H1 (fun _ => none) (some (a, c, 0)) [] (fun _ => none) H') (fun σ' H' hp => ?_) (fun kk => ⟨_, rfl, sa, ns, rfl, hS, fun H1 a c lw => kk _ _ ⟨H1, a, c, rfl, lw⟩⟩)
    obtain ⟨H0, a, c, rfl, lw⟩ := hp
    obtain ⟨G0, hG0⟩ : ∃ G0 : Hp, G0 = fun _ => none := ⟨_, rfl⟩
    rw [← hG0] at lw
    refine seq_rest (fun σ' H' => ∃ (G1 : Hp) (r A B : Addr) (n1 d1 n2 d2 : Int), σ' = [some (.ref sa), some (.ref a), some (.ref r), none, none, none, none, none, none, none] ∧ Lw H0 G0 (some (a, c, 13)) [] G1 H' ∧ G1 r = some (.lst [.ref A, .ref B]) ∧ G1 A = some (.lst [.int n1, .int d1]) ∧ G1 B = some (.lst [.int n2, .int d2]) ∧ d1 ≠ 0 ∧ d2 ≠ 0 ∧ n1.natAbs < 10 ^ 30 ∧ d1.natAbs < 10 ^ 30 ∧ n2.natAbs < 10 ^ 30 ∧ d2.natAbs < 10 ^ 30) (fun σ' H' hp => ?_) (fun kk => ?_)
    rotate_left
    · refine ⟨_, rfl, ?_⟩
      show sp_l_numbers [.ref a] H' _ E0
      refine call_pool lw (by decide) rfl fun G1 H1 v e1 lw hv => ?_
      obtain ⟨n1, d1, n2, d2, ⟨r, A, B, rfl, hr, hA, hB⟩, z⟩ := hv
      exact kk _ _ ⟨G1, r, A, B, n1, d1, n2, d2, rfl, lw, hr, hA, hB, z⟩
    obtain ⟨G1, r, A, B, n1, d1, n2, d2, rfl, lw, hr, hA, hB, d10, d20, n1b, d1b, n2b, d2b⟩ := hp
    have t400 : (10 : Nat) ^ 30 < 2 ^ 400 := by decide +kernel
    have up : ∀ {z : Int} {b : Nat}, z.natAbs < 10 ^ 30 → 400 ≤ b → z.natAbs < 2 ^ b := fun h hb => Nat.lt_of_lt_of_le (Nat.lt_trans h t400) (Nat.pow_le_pow_right (by decide) hb)
    -- one, two
    have sfr : ∀ {n d : Int}, d ≠ 0 → n.natAbs < 10 ^ 30 → d.natAbs < 10 ^ 30 → (fr n d).num.natAbs < 10 ^ 30 ∧ (fr n d).den < 10 ^ 30 := fun {n d} hd hn hd' => by
      have := fr_le (n := n) hd
      exact ⟨Nat.lt_of_le_of_lt this.1 hn, Nat.lt_of_le_of_lt this.2 hd'⟩
    have f1 := sfr d10 n1b d1b
    have f2 := sfr d20 n2b d2b
    obtain ⟨q1, hq1⟩ : ∃ q1, q1 = fr n1 d1 := ⟨_, rfl⟩
    obtain ⟨q2, hq2⟩ : ∃ q2, q2 = fr n2 d2 := ⟨_, rfl⟩
    rw [← hq1] at f1
    rw [← hq2] at f2
    have s1 : Sm 400 q1 := ⟨up f1.1 (Nat.le_refl _), Nat.lt_trans f1.2 t400⟩
    have s2 : Sm 400 q2 := ⟨up f2.1 (Nat.le_refl _), Nat.lt_trans f2.2 t400⟩
    have i1 : Sm 400 (n1 : Rat) := ⟨up n1b (Nat.le_refl _), by show 1 < 2 ^ 400; decide +kernel⟩
    have i2 : Sm 400 (n2 : Rat) := ⟨up n2b (Nat.le_refl _), by show 1 < 2 ^ 400; decide +kernel⟩
    refine seq_rest (fun σ' H' => ∃ (G2 : Hp) (one : V), σ' = [some (.ref sa), some (.ref a), some (.ref r), some one, none, none, none, none, none, none] ∧ Lw H0 G0 (some (a, c, 13)) [] G2 H' ∧ Ex G1 G2 ∧ TI G2 one q1.num q1.den) (fun σ' H' hp => ?_) (fun kk => ?_)
    rotate_left
    · refine ⟨_, rfl, r, _, 0, _, rfl, rfl, SqL.g lw hr, rfl, A, _, 0, _, rfl, rfl, SqL.g lw hA, rfl, _, rfl, r, _, 0, _, rfl, rfl, SqL.g lw hr, rfl, A, _, 1, _, rfl, rfl, SqL.g lw hA, rfl, ?_⟩
      refine call_low0 lw d10 (up n1b (by decide)) (up d1b (by decide)) fun G2 H2 v e2 lw hv => ?_
      rw [← hq1] at hv
      exact kk _ _ ⟨G2, v, rfl, lw, e2, hv⟩
    obtain ⟨G2, one, rfl, lw, e2, h1⟩ := hp
    have hr := e2 _ _ hr
    have hA := e2 _ _ hA
    have hB := e2 _ _ hB
    refine seq_rest (fun σ' H' => ∃ (G3 : Hp) (two : V), σ' = [some (.ref sa), some (.ref a), some (.ref r), some one, some two, none, none, none, none, none] ∧ Lw H0 G0 (some (a, c, 13)) [] G3 H' ∧ Ex G2 G3 ∧ TI G3 two q2.num q2.den) (fun σ' H' hp => ?_) (fun kk => ?_)
    rotate_left
    · refine ⟨_, rfl, r, _, 1, _, rfl, rfl, SqL.g lw hr, rfl, B, _, 0, _, rfl, rfl, SqL.g lw hB, rfl, _, rfl, r, _, 1, _, rfl, rfl, SqL.g lw hr, rfl, B, _, 1, _, rfl, rfl, SqL.g lw hB, rfl, ?_⟩
      refine call_low0 lw d20 (up n2b (by decide)) (up d2b (by decide)) fun G2 H2 v e2 lw hv => ?_
      rw [← hq2] at hv
      exact kk _ _ ⟨G2, v, rfl, lw, e2, hv⟩
    obtain ⟨G3, two, rfl, lw, e3, h2⟩ := hp
    have hr := e3 _ _ hr
    have hA := e3 _ _ hA
    have hB := e3 _ _ hB
    have h1 := h1.ex e3
    refine seq_rest (fun σ' H' => ∃ (G4 : Hp) (m : Int), σ' = [some (.ref sa), some (.ref a), some (.ref r), some one, some two, some (.int m), none, none, none, none] ∧ Lw H0 G0 (some (a, c, 14)) [] G4 H' ∧ Ex G3 G4 ∧ fitP m = true ∧ 2 ≤ m ∧ m < 1000) (fun σ' H' hp => ?_) (fun kk => ?_)
    rotate_left
    · refine ⟨(by show 11 ≤ sizeLine; decide), fun t nt => ?_⟩
      obtain ⟨G4, e4, lw, h4⟩ := lw.allocE (o := .tup (([2, 3, 5, 7, 11, 13, 17, 19, 23, 29, 31] : List Int).map V.int)) nt
      refine ⟨_, rfl, call_draw lw (by decide) (by decide) (by decide) fun G5 H5 d e5 lw d0 d1 => ?_⟩
      obtain ⟨i, rfl⟩ := Int.eq_ofNat_of_zero_le d0
      obtain ⟨m, hm, hf, m2, m3⟩ : ∃ m : Int, (([2, 3, 5, 7, 11, 13, 17, 19, 23, 29, 31] : List Int).map V.int)[i]? = some (.int m) ∧ fitP m = true ∧ 2 ≤ m ∧ m < 1000 := by
        have : i < 11 := by omega
        match i, this with
        | 0, _ => exact ⟨2, rfl, by decide, by decide, by decide⟩
        | 1, _ => exact ⟨3, rfl, by decide, by decide, by decide⟩
        | 2, _ => exact ⟨5, rfl, by decide, by decide, by decide⟩
        | 3, _ => exact ⟨7, rfl, by decide, by decide, by decide⟩
        | 4, _ => exact ⟨11, rfl, by decide, by decide, by decide⟩
        | 5, _ => exact ⟨13, rfl, by decide, by decide, by decide⟩
        | 6, _ => exact ⟨17, rfl, by decide, by decide, by decide⟩
        | 7, _ => exact ⟨19, rfl, by decide, by decide, by decide⟩
        | 8, _ => exact ⟨23, rfl, by decide, by decide, by decide⟩
        | 9, _ => exact ⟨29, rfl, by decide, by decide, by decide⟩
        | 10, _ => exact ⟨31, rfl, by decide, by decide, by decide⟩
      exact ⟨t, _, _, _, rfl, rfl, SqT.g lw (e5 _ _ h4), atI_nat hm, kk _ _ ⟨G5, m, rfl, lw, e4.trans e5, hf, m2, m3⟩⟩
    obtain ⟨G4, m, rfl, lw, e4, hf, m2, m3⟩ := hp
    have hr := e4 _ _ hr
    have hA := e4 _ _ hA
    have hB := e4 _ _ hB
    have h1 := h1.ex e4
    have h2 := h2.ex e4
    refine seq_rest (fun σ' H' => ∃ (G5 : Hp), σ' = [some (.ref sa), some (.ref a), some (.ref r), some one, some two, some (.int m), none, none, none, none] ∧ Lw H0 G0 (some (a, c, 14)) [] G5 H' ∧ Ex G4 G5) (fun σ' H' hp => ?_) (fun kk => ?_)
    rotate_left
    · refine ⟨_, rfl, r, _, 0, _, rfl, rfl, SqL.g lw hr, rfl, A, _, 0, _, rfl, rfl, SqL.g lw hA, rfl, _, rfl, r, _, 0, _, rfl, rfl, SqL.g lw hr, rfl, A, _, 1, _, rfl, rfl, SqL.g lw hA, rfl, call_makes lw d10 (up n1b (by decide)) (up d1b (by decide)) fun G5 H5 e5 lw => ⟨true, rfl, iteF ⟨_, rfl, r, _, 1, _, rfl, rfl, SqL.g lw (e5 _ _ hr), rfl, B, _, 0, _, rfl, rfl, SqL.g lw (e5 _ _ hB), rfl, _, rfl, r, _, 1, _, rfl, rfl, SqL.g lw (e5 _ _ hr), rfl, B, _, 1, _, rfl, rfl, SqL.g lw (e5 _ _ hB), rfl, call_makes lw d20 (up n2b (by decide)) (up d2b (by decide)) fun G6 H6 e6 lw => ⟨true, rfl, iteF (kk _ _ ⟨G6, rfl, lw, e5.trans e6⟩)⟩⟩⟩⟩
    obtain ⟨G5, rfl, lw, e5⟩ := hp
    have hr := e5 _ _ hr
    have hA := e5 _ _ hA
    have hB := e5 _ _ hB
    have h1 := h1.ex e5
    have h2 := h2.ex e5
    refine seq_rest (fun σ' H' => ∃ (G6 : Hp), σ' = [some (.ref sa), some (.ref a), some (.ref r), some one, some two, some (.int m), none, none, none, none] ∧ Lw H0 G0 (some (a, c, 14)) [] G6 H' ∧ Ex G5 G6) (fun σ' H' hp => ?_) (fun kk => ?_)
    rotate_left
    · refine ⟨_, rfl, _, rfl, call_sums lw h1 h2 s1 s2 fun G6 H6 e6 lw => ⟨true, rfl, iteF ?_⟩⟩
      refine ⟨_, rfl, _, rfl, r, _, 1, _, rfl, rfl, SqL.g lw (e6 _ _ hr), rfl, B, _, 0, _, rfl, rfl, SqL.g lw (e6 _ _ hB), rfl, (by show 2 ≤ sizeLine; decide), fun t nt => ?_⟩
      obtain ⟨G7, e7, lw, h7⟩ := lw.allocE (o := .tup [.int n2, .int 1]) nt
      have e67 := e6.trans e7
      refine call_sums lw (h1.ex e67) (ti_i ⟨t, rfl, h7⟩) s1 i2 fun G8 H8 e8 lw => ⟨true, rfl, iteF ?_⟩
      have e68 := e67.trans e8
      refine ⟨_, rfl, r, _, 0, _, rfl, rfl, SqL.g lw (e68 _ _ hr), rfl, A, _, 0, _, rfl, rfl, SqL.g lw (e68 _ _ hA), rfl, (by show 2 ≤ sizeLine; decide), fun t nt => ?_⟩
      obtain ⟨G9, e9, lw, h9⟩ := lw.allocE (o := .tup [.int n1, .int 1]) nt
      exact ⟨_, rfl, call_sums lw (ti_i ⟨t, rfl, h9⟩) (h2.ex (e68.trans e9)) i1 s2 fun G10 H10 e10 lw => ⟨true, rfl, iteF (kk _ _ ⟨G10, rfl, lw, (e68.trans e9).trans e10⟩)⟩⟩
    obtain ⟨G6, rfl, lw, e6⟩ := hp
    have hr := e6 _ _ hr
    have hA := e6 _ _ hA
    have hB := e6 _ _ hB
    have h1 := h1.ex e6
    have h2 := h2.ex e6
    refine seq_rest (fun σ' H' => ∃ (G7 : Hp), σ' = [some (.ref sa), some (.ref a), some (.ref r), some one, some two, some (.int m), none, none, none, none] ∧ Lw H0 G0 (some (a, c, 27)) [] G7 H' ∧ Ex G6 G7) (fun σ' H' hp => ?_) (fun kk => ?_)
    rotate_left
    · refine ⟨_, rfl, _, rfl, call_tells lw h1 h2 s1 s2 fun G7 H7 e7 lw => ⟨true, rfl, iteF ?_⟩⟩
      refine ⟨_, rfl, _, rfl, call_tells lw (h2.ex e7) (h1.ex e7) s2 s1 fun G8 H8 e8 lw => ⟨true, rfl, iteF ?_⟩⟩
      refine ⟨_, rfl, _, rfl, _, rfl, ?_⟩
      show sp_texts [.ref a, one, two] H8 _ E0
      refine call_pool lw (by decide) ⟨one, two, q1, q2, rfl, h1.ex (e7.trans e8), h2.ex (e7.trans e8), s1, s2⟩ fun G9 H9 v e9 lw hv => ?_
      exact ⟨true, hv, iteF (kk _ _ ⟨G9, rfl, lw, (e7.trans e8).trans e9⟩)⟩
    obtain ⟨G7, rfl, lw, e7⟩ := hp
    have hr := e7 _ _ hr
    have hA := e7 _ _ hA
    have hB := e7 _ _ hB
    have h1 := h1.ex e7
    have h2 := h2.ex e7
    refine seq_rest (fun σ' H' => ∃ (G8 : Hp), σ' = [some (.ref sa), some (.ref a), some (.ref r), some one, some two, some (.int m), none, none, none, none] ∧ Lw H0 G0 (some (a, c, 27)) [] G8 H' ∧ Ex G7 G8) (fun σ' H' hp => ?_) (fun kk => ?_)
    rotate_left
    · have S1 : Sm 4000 q1 := sm_mono s1 (by decide)
      have S2 : Sm 4000 q2 := sm_mono s2 (by decide)
      refine ⟨_, rfl, call_hand lw h1 S1.2 fun G8 H8 x e8 lw hx => ⟨_, rfl, call_hand lw (h2.ex e8) S2.2 fun G9 H9 y e9 lw hy => ⟨_, rfl, _, rfl, ?_⟩⟩⟩
      have e89 := e8.trans e9
      refine tNil_ap ?_
      show sp_field T [.int 0, x, y, one, two] H9 _ E0
      exact call_field lw (field0 (hx.ex e9) hy (h1.ex e89) (h2.ex e89) s1 s2) fun G10 H10 e10 lw => ⟨true, rfl, iteF (kk _ _ ⟨G10, rfl, lw, e89.trans e10⟩)⟩
    obtain ⟨G8, rfl, lw, e8⟩ := hp
    have hr := e8 _ _ hr
    have hA := e8 _ _ hA
    have hB := e8 _ _ hB
    have h1 := h1.ex e8
    have h2 := h2.ex e8
    have ten : ((10 : Int) ^ (30 : Int).toNat).natAbs ≤ 10 ^ 30 := by decide +kernel
    have ten2 : (-((10 : Int) ^ (30 : Int).toNat)).natAbs ≤ 10 ^ 30 := by decide +kernel
    refine seq_rest (fun σ' H' => ∃ (G9 : Hp) (x : Int), σ' = [some (.ref sa), some (.ref a), some (.ref r), some one, some two, some (.int m), some (.int x), none, none, none] ∧ Lw H0 G0 (some (a, c, 28)) [] G9 H' ∧ Ex G8 G9 ∧ x.natAbs ≤ 10 ^ 30) (fun σ' H' hp => ?_) (fun kk => ?_)
    rotate_left
    · refine ⟨_, rfl, r, _, 0, _, rfl, rfl, SqL.g lw hr, rfl, A, _, 0, _, rfl, rfl, SqL.g lw hA, rfl, _, _, rfl, rfl, pow_small (by decide) (by decide), _, _, rfl, rfl, pow_small (by decide) (by decide), _, rfl, _, rfl, r, _, 0, _, rfl, rfl, SqL.g lw hr, rfl, A, _, 1, _, rfl, rfl, SqL.g lw hA, rfl, (by show 4 ≤ sizeLine; decide), fun t nt => ?_⟩
      obtain ⟨G9, e9, lw, h9⟩ := lw.allocE (o := .tup [.int n1, .int ((10 : Int) ^ (30 : Int).toNat), .int (-((10 : Int) ^ (30 : Int).toNat)), .int d1]) nt
      refine ⟨_, rfl, call_draw lw (by decide) (by decide) (by decide) fun G10 H10 d e10 lw dd0 dd1 => ?_⟩
      obtain ⟨i, rfl⟩ := Int.eq_ofNat_of_zero_le dd0
      obtain ⟨x, hx, xb⟩ : ∃ x : Int, ([V.int n1, V.int ((10 : Int) ^ (30 : Int).toNat), V.int (-((10 : Int) ^ (30 : Int).toNat)), V.int d1] : List V)[i]? = some (.int x) ∧ x.natAbs ≤ 10 ^ 30 := by
        have : i < 4 := by omega
        match i, this with
        | 0, _ => exact ⟨n1, rfl, Nat.le_of_lt n1b⟩
        | 1, _ => exact ⟨_, rfl, ten⟩
        | 2, _ => exact ⟨_, rfl, ten2⟩
        | 3, _ => exact ⟨d1, rfl, Nat.le_of_lt d1b⟩
      exact ⟨t, _, _, _, rfl, rfl, SqT.g lw (e10 _ _ h9), atI_nat hx, kk _ _ ⟨G10, x, rfl, lw, e9.trans e10, xb⟩⟩
    obtain ⟨G9, x, rfl, lw, e9, xb⟩ := hp
    have hr := e9 _ _ hr
    have hA := e9 _ _ hA
    have hB := e9 _ _ hB
    have h1 := h1.ex e9
    have h2 := h2.ex e9
    refine seq_rest (fun σ' H' => ∃ (G10 : Hp) (y : Int), σ' = [some (.ref sa), some (.ref a), some (.ref r), some one, some two, some (.int m), some (.int x), some (.int y), none, none] ∧ Lw H0 G0 (some (a, c, 30)) [] G10 H' ∧ Ex G9 G10 ∧ y.natAbs ≤ 10 ^ 30) (fun σ' H' hp => ?_) (fun kk => ?_)
    rotate_left
    · refine ⟨_, rfl, r, _, 1, _, rfl, rfl, SqL.g lw hr, rfl, B, _, 0, _, rfl, rfl, SqL.g lw hB, rfl, _, rfl, _, rfl, call_draw lw (by decide) (by decide) (by decide) fun G10 H10 d e10 lw dd0 dd1 => ?_⟩
      have mb : (m * d).natAbs ≤ 10 ^ 30 := by
        rw [Int.natAbs_mul]
        have : m.natAbs * d.natAbs ≤ 1000 * 100 := Nat.mul_le_mul (by omega) (by omega)
        have z : 1000 * 100 ≤ 10 ^ 30 := by decide +kernel
        omega
      refine ⟨_, _, rfl, rfl, mulW_of (by omega) (by omega), _, rfl, _, rfl, r, _, 1, _, rfl, rfl, SqL.g lw (e10 _ _ hr), rfl, B, _, 1, _, rfl, rfl, SqL.g lw (e10 _ _ hB), rfl, (by show 4 ≤ sizeLine; decide), fun t nt => ?_⟩
      obtain ⟨G11, e11, lw, h11⟩ := lw.allocE (o := .tup [.int n2, .int (m * d), .int x, .int d2]) nt
      refine ⟨_, rfl, call_draw lw (by decide) (by decide) (by decide) fun G12 H12 d' e12 lw dd0' dd1' => ?_⟩
      obtain ⟨i, rfl⟩ := Int.eq_ofNat_of_zero_le dd0'
      obtain ⟨y, hy, yb⟩ : ∃ y : Int, ([V.int n2, V.int (m * d), V.int x, V.int d2] : List V)[i]? = some (.int y) ∧ y.natAbs ≤ 10 ^ 30 := by
        have : i < 4 := by omega
        match i, this with
        | 0, _ => exact ⟨n2, rfl, Nat.le_of_lt n2b⟩
        | 1, _ => exact ⟨_, rfl, mb⟩
        | 2, _ => exact ⟨x, rfl, xb⟩
        | 3, _ => exact ⟨d2, rfl, Nat.le_of_lt d2b⟩
      exact ⟨t, _, _, _, rfl, rfl, SqT.g lw (e12 _ _ h11), atI_nat hy, kk _ _ ⟨G12, y, rfl, lw, (e10.trans e11).trans e12, yb⟩⟩
    obtain ⟨G10, y, rfl, lw, e10, yb⟩ := hp
    have h1 := h1.ex e10
    have h2 := h2.ex e10
    have t9 : (10 : Nat) ^ 30 < 2 ^ 900 := by decide +kernel
    have x9 : x.natAbs < 2 ^ 900 := Nat.lt_of_le_of_lt xb t9
    have y9 : y.natAbs < 2 ^ 900 := Nat.lt_of_le_of_lt yb t9
    have x2 : x.natAbs < 2 ^ 2000 := Nat.lt_trans x9 (by decide +kernel)
    have y2 : y.natAbs < 2 ^ 2000 := Nat.lt_trans y9 (by decide +kernel)
    have hm : 2 ≤ m ∧ m < 1000 := ⟨m2, m3⟩
    have l1 : ∀ z : Int, (z * ((1 : Int) ^ (m - 2).toNat % m)) % m = z % m := fun z => by rw [Int.one_pow, one_mod m2, Int.mul_one]
    refine seq_rest (fun σ' H' => ∃ (G11 : Hp), σ' = [some (.ref sa), some (.ref a), some (.ref r), some one, some two, some (.int m), some (.int x), some (.int y), none, none] ∧ Lw H0 G0 (some (a, c, 30)) [] G11 H' ∧ Ex G10 G11) (fun σ' H' hp => ?_) (fun kk => ?_)
    rotate_left
    · refine ⟨_, rfl, _, rfl, _, rfl, _, rfl, _, rfl, call_lowP lw hm x2 (by decide +kernel) fun G11 H11 u e11 lw hu => ⟨_, rfl, _, rfl, call_lowP lw hm y2 (by decide +kernel) fun G12 H12 v e12 lw hv => ?_⟩⟩
      rw [l1] at hu hv
      refine tNil_ap ?_
      show sp_field T [.int m, .int x, .int y, u, v] H12 _ E0
      exact call_field lw (fieldP hf hm (hu.ex e12) hv x9 y9) fun G13 H13 e13 lw => ⟨true, rfl, iteF (kk _ _ ⟨G13, rfl, lw, (e11.trans e12).trans e13⟩)⟩
    obtain ⟨G11, rfl, lw, e11⟩ := hp
    have h1 := h1.ex e11
    refine seq_rest (fun σ' H' => ∃ (G12 : Hp) (u : V) (q : Rat), σ' = [some (.ref sa), some (.ref a), some (.ref r), some one, some two, some (.int m), some (.int x), some (.int y), some u, none] ∧ Lw H0 G0 (some (a, c, 32)) [] G12 H' ∧ Ex G11 G12 ∧ TI G12 u q.num q.den ∧ q.num.natAbs ≤ 9 ∧ q.den ≤ 9) (fun σ' H' hp => ?_) (fun kk => ?_)
    rotate_left
    · refine ⟨_, rfl, call_draw lw (by decide) (by decide) (by decide) fun G12 H12 d e12 lw dd0 dd1 => ⟨_, _, rfl, rfl, ?_⟩⟩
      refine ⟨_, rfl, call_draw lw (by decide) (by decide) (by decide) fun G13 H13 d' e13 lw dd0' dd1' => ⟨_, _, rfl, rfl, ?_⟩⟩
      show sp_low [.int 0, .int (d - 9), .int (1 + d')] H13 _ E0
      have nz : (1 + d' : Int) ≠ 0 := by omega
      have fl := fr_le (n := d - 9) nz
      exact call_low0 lw nz (Nat.lt_trans (show (d - 9).natAbs < 1000 by omega) (by decide +kernel)) (Nat.lt_trans (show (1 + d').natAbs < 1000 by omega) (by decide +kernel)) fun G14 H14 u e14 lw hu => kk _ _ ⟨G14, u, _, rfl, lw, (e12.trans e13).trans e14, hu, by omega, by omega⟩
    obtain ⟨G12, u, q, rfl, lw, e12, hu, qn, qd⟩ := hp
    have h1 := h1.ex e12
    refine seq_rest (fun σ' H' => ∃ (G13 : Hp) (k0 : Int), σ' = [some (.ref sa), some (.ref a), some (.ref r), some one, some two, some (.int m), some (.int x), some (.int y), some u, some (.int k0)] ∧ Lw H0 G0 (some (a, c, 34)) [] G13 H' ∧ Ex G12 G13 ∧ -2 ≤ k0 ∧ k0 ≤ 103) (fun σ' H' hp => ?_) (fun kk => ?_)
    rotate_left
    · refine ⟨_, rfl, ?_⟩
      show sp_count [.ref a] H' _ E0
      refine call_pool lw (by decide) rfl fun G13 H13 v e13 lw hv => ?_
      obtain ⟨k0, rfl, k1, k2⟩ := hv
      exact kk _ _ ⟨G13, k0, rfl, lw, e13, k1, k2⟩
    obtain ⟨G13, k0, rfl, lw, e13, k1, k2⟩ := hp
    have h1 := h1.ex e13
    have hu := hu.ex e13
    refine seq_rest (fun σ' H' => ∃ (G14 : Hp), σ' = [some (.ref sa), some (.ref a), some (.ref r), some one, some two, some (.int m), some (.int x), some (.int y), some u, some (.int k0)] ∧ Lw H0 G0 (some (a, c, 35)) [] G14 H' ∧ Ex G13 G14) (fun σ' H' hp => ?_) (fun kk => ?_)
    rotate_left
    · have sm1 : ∀ e ≤ k0.toNat, Sm 4000 (q ^ e) := fun e he => by
        have e103 : e ≤ 103 := by omega
        have z1 := pow_bd qn 103 e e103 (by decide +kernel) (by decide)
        have z2 := pow_bd (z := (q.den : Int)) (b := 9) (by rw [Int.natAbs_natCast]; exact qd) 103 e e103 (by decide +kernel) (by decide)
        rw [← Int.natCast_pow, Int.natAbs_natCast] at z2
        exact ⟨by rw [Rat.num_pow]; exact z1, by rw [Rat.den_pow]; exact z2⟩
      refine ⟨_, rfl, _, rfl, ?_⟩
      refine tNil_ap ?_
      show sp_powers T [.int 0, u, .int k0] H' _ E0
      refine call_powers lw (pow0 hu sm1 (Nat.lt_of_le_of_lt qd (by decide +kernel))) fun G14 H14 e14 lw => ⟨true, rfl, iteF ?_⟩
      refine ⟨_, rfl, _, rfl, call_draw lw (by decide) (by decide) (by decide) fun G15 H15 d e15 lw dd0 dd1 => ⟨_, _, rfl, rfl, ?_⟩⟩
      refine tNil_ap ?_
      show sp_powers T [.int 0, one, .int (1 + d)] H15 _ E0
      have sm2 : ∀ e ≤ (1 + d).toNat, Sm 4000 (q1 ^ e) := fun e he => by
        have e8 : e ≤ 8 := by omega
        have z1 := pow_bd (Nat.le_of_lt f1.1) 8 e e8 (by decide +kernel) (by decide +kernel)
        have z2 := pow_bd (z := (q1.den : Int)) (b := 10 ^ 30) (by rw [Int.natAbs_natCast]; exact Nat.le_of_lt f1.2) 8 e e8 (by decide +kernel) (by decide +kernel)
        rw [← Int.natCast_pow, Int.natAbs_natCast] at z2
        exact ⟨by rw [Rat.num_pow]; exact z1, by rw [Rat.den_pow]; exact z2⟩
      exact call_powers lw (pow0 (h1.ex (e14.trans e15)) sm2 (sm_mono s1 (by decide)).2) fun G16 H16 e16 lw => ⟨true, rfl, iteF (kk _ _ ⟨G16, rfl, lw, (e14.trans e15).trans e16⟩)⟩
    obtain ⟨G14, rfl, lw, e14⟩ := hp
    refine seq_rest (fun σ' H' => ∃ (G15 : Hp), σ' = [some (.ref sa), some (.ref a), some (.ref r), some one, some two, some (.int m), some (.int x), some (.int y), some u, some (.int k0)] ∧ Lw H0 G0 (some (a, c, 36)) [] G15 H' ∧ Ex G14 G15) (fun σ' H' hp => ?_) (fun kk => ?_)
    rotate_left
    · refine ⟨_, rfl, _, rfl, (by show 2 ≤ sizeLine; decide), fun t nt => ?_⟩
      obtain ⟨G15, e15, lw, h15⟩ := lw.allocE (o := .tup [.int x, .int 1]) nt
      refine ⟨_, rfl, ?_⟩
      refine tNil_ap ?_
      show sp_powers T [.int m, .ref t, .int k0] _ _ E0
      refine call_powers lw (powP hf hm ⟨t, rfl, h15⟩ x9) fun G16 H16 e16 lw => ⟨true, rfl, iteF ?_⟩
      refine ⟨_, rfl, _, rfl, (by show 2 ≤ sizeLine; decide), fun t nt => ?_⟩
      obtain ⟨G17, e17, lw, h17⟩ := lw.allocE (o := .tup [.int x, .int 1]) nt
      refine ⟨_, rfl, call_draw lw (by decide) (by decide) (by decide) fun G18 H18 d e18 lw dd0 dd1 => ⟨_, _, rfl, rfl, ?_⟩⟩
      refine tNil_ap ?_
      show sp_powers T [.int m, .ref t, .int (1 + d)] H18 _ E0
      exact call_powers lw (powP hf hm ⟨t, rfl, e18 _ _ h17⟩ x9) fun G19 H19 e19 lw => ⟨true, rfl, iteF (kk _ _ ⟨G19, rfl, lw, (e15.trans e16).trans ((e17.trans e18).trans e19)⟩)⟩
    obtain ⟨G15, rfl, lw, e15⟩ := hp
    refine seq_rest (fun σ' H' => ∃ (G16 : Hp), σ' = [some (.ref sa), some (.ref a), some (.ref r), some one, some two, some (.int m), some (.int x), some (.int y), some u, some (.int k0)] ∧ Lw H0 G0 (some (a, c, 36)) [] G16 H') (fun σ' H' hp => ?_) (fun kk => ?_)
    rotate_left
    · refine ⟨_, rfl, ?_⟩
      show sp_l_roots [.int 0, .int k0] H' _ E0
      refine call_l_roots lw rfl (.inl rfl) fun G16 H16 e16 lw => ⟨true, rfl, iteF ?_⟩
      exact ⟨_, rfl, _, rfl, call_l_roots lw hf (.inr hm) fun G17 H17 e17 lw => ⟨true, rfl, iteF (kk _ _ ⟨G17, rfl, lw⟩)⟩⟩
    obtain ⟨G16, rfl, lw⟩ := hp
    refine seq_rest (fun σ' H' => ∃ (G17 : Hp), σ' = [some (.ref sa), some (.ref a), some (.ref r), some one, some two, some (.int m), some (.int x), some (.int y), some u, some (.int k0)] ∧ Lw H0 G0 (some (a, c, 38)) [] G17 H') (fun σ' H' hp => ?_) (fun kk => ?_)
    rotate_left
    · refine ⟨_, rfl, call_draw lw (by decide) (by decide) (by decide) fun G17 H17 d e17 lw dd0 dd1 => ⟨_, _, rfl, rfl, ?_⟩⟩
      show sp_l_roots [.int 0, .int (1 + d)] H17 _ E0
      refine call_l_roots lw rfl (.inl rfl) fun G18 H18 e18 lw => ⟨true, rfl, iteF ?_⟩
      refine ⟨_, rfl, _, rfl, _, rfl, call_draw lw (by omega) (by omega) (by decide) fun G19 H19 d' e19 lw dd0' dd1' => ⟨_, _, rfl, rfl, ?_⟩⟩
      show sp_l_roots [.int m, .int (1 + d')] H19 _ E0
      exact call_l_roots lw hf (.inr hm) fun G20 H20 e20 lw => ⟨true, rfl, iteF (kk _ _ ⟨G20, rfl, lw⟩)⟩
    obtain ⟨G17, rfl, lw⟩ := hp
    refine ⟨_, rfl, _, rfl, ?_⟩
    show sp_grounds [.ref a, .int m] H' _ E0
    refine call_pool lw (by decide) ⟨m, rfl, hf, m2, m3⟩ fun G18 H18 v e18 lw hv => ?_
    have hv : v = .bl true := hv
    subst hv
    exact k H18
end
end K01

set_option maxHeartbeats 8000000
namespace K01
open PySem PySem.Spec PyProof.Rows L2 UfG UfT UfR UfO
theorem kit_eq {K : PySem.W.Frag} {D : Addr} : PySem.W.kitOne K (.ref D) (.ref D) = some true := by
  have e : ((Value.ref D) == (Value.ref D)) = true := beq_iff_eq.mpr rfl
  show (if ((Value.ref D) == (Value.ref D)) = true then some true else _) = _
  rw [if_pos e]
theorem kit_cl {K : PySem.W.Frag} {D C : Addr} {b : Bool} (h1 : PySem.W.isClsIn K C = true) (h2 : PySem.W.typeIn K (.ref C) = some (.type "type")) (h3 : PySem.W.subIn K (.ref D) (.ref C) = some b) : PySem.W.kitCls K (.ref D) (.ref C) = some b := by
  have h1 : (PySem.W.clsIn K C).isSome = true := h1
  have e : ((PySem.W.clsIn K C).isSome && PySem.W.typeIn K (.ref C) == some (.type "type")) = true := by rw [h1, h2] <;> rfl
  show (if ((PySem.W.clsIn K C).isSome && PySem.W.typeIn K (.ref C) == some (.type "type")) = true then PySem.W.subIn K (.ref D) (.ref C) else none) = _
  rw [if_pos e]
  exact h3
theorem kit_ne {K : PySem.W.Frag} {D C : Addr} (h1 : PySem.W.isClsIn K C = true) (h2 : PySem.W.typeIn K (.ref C) = some (.type "type")) (h3 : PySem.W.subIn K (.ref D) (.ref C) = some false) (h4 : PySem.W.subIn K (.ref D) (.ref D) = some true) :
    PySem.W.kitOne K (.ref D) (.ref C) = some false := by
  have e : ¬ ((Value.ref D) == (Value.ref C)) = true := fun z => by
    have z : Value.ref D = Value.ref C := beq_iff_eq.mp z
    rw [← z, h4] at h3
    cases h3
  show (if ((Value.ref D) == (Value.ref C)) = true then some true else PySem.W.kitCls K (.ref D) (.ref C)) = _
  rw [if_neg e]
  exact kit_cl h1 h2 h3
theorem kit_bi {K : PySem.W.Frag} {D : Addr} {T : String} {b : Bool} (h1 : PySem.W.kitMeta T = true) (h2 : PySem.W.subIn K (.ref D) (.type T) = some b) : PySem.W.kitOne K (.ref D) (.type T) = some b := by
  have e : ¬ ((Value.ref D) == (Value.type T)) = true := fun z => by
    have z : Value.ref D = Value.type T := beq_iff_eq.mp z
    cases z
  show (if ((Value.ref D) == (Value.type T)) = true then some true else (if PySem.W.kitMeta T = true then PySem.W.subIn K (.ref D) (.type T) else none)) = _
  rw [if_neg e, if_pos h1]
  exact h2
theorem exm_cl {K : PySem.W.Frag} {D C : Addr} {b : Bool} (h0 : PySem.W.subIn K (.ref C) (.type "BaseException") = some true) (h1 : PySem.W.isClsIn K C = true) (h2 : PySem.W.typeIn K (.ref C) = some (.type "type")) (h3 : PySem.W.subIn K (.ref D) (.ref C) = some b) :
    PySem.W.exmOne K (.ref D) (.ref C) = some b := by
  have e : (PySem.W.subIn K (.ref C) (.type "BaseException") == some true) = true := by rw [h0] <;> rfl
  show (if (PySem.W.subIn K (.ref C) (.type "BaseException") == some true) = true then PySem.W.kitCls K (.ref D) (.ref C) else none) = _
  rw [if_pos e]
  exact kit_cl h1 h2 h3
theorem kit_bo {K : PySem.W.Frag} {T : String} {C : Addr} {b : Bool} (h1 : PySem.W.isClsIn K C = true) (h2 : PySem.W.typeIn K (.ref C) = some (.type "type")) (h3 : PySem.W.subIn K (.type T) (.ref C) = some b) : PySem.W.kitOne K (.type T) (.ref C) = some b := by
  have h1 : (PySem.W.clsIn K C).isSome = true := h1
  have e : ((PySem.W.clsIn K C).isSome && PySem.W.typeIn K (.ref C) == some (.type "type")) = true := by rw [h1, h2] <;> rfl
  have n : ¬ ((Value.type T) == (Value.ref C)) = true := fun z => by
    have z : Value.type T = Value.ref C := beq_iff_eq.mp z
    cases z
  show (if ((Value.type T) == (Value.ref C)) = true then some true else (if ((PySem.W.clsIn K C).isSome && PySem.W.typeIn K (.ref C) == some (.type "type")) = true then PySem.W.subIn K (.type T) (.ref C) else none)) = _
  rw [if_neg n, if_pos e]
  exact h3
theorem fund_mk {K : PySem.W.Frag} {x qual : Str} {st : Stmt} {f T : Addr} {oc tc : Value} {od an td : Option Addr} {osl ts : Array (Option Value)} {kV doc pm cdv ct : Value} {tk : Tok} {tn : Nat}
    (l : K.lookup f = some ⟨oc, od, .func (PySem.W.fnOf x qual (defArgs st) (defBody st) (defScope st) (.ref T) kV doc pm an cdv ct), osl⟩) (c : PySem.W.codeIn K cdv qual = true) (k : PySem.W.keepIn K (.ref f) = true)
    (lT : K.lookup T = some ⟨tc, td, .seq #[.int 0 tk] tn, ts⟩) : FunD K x qual (defArgs st) (defBody st) (defScope st) [.int 0] [] f (PySem.W.fnOf x qual (defArgs st) (defBody st) (defScope st) (.ref T) kV doc pm an cdv ct) :=
  ⟨⟨_, _, _, _, _, _, _, _, _, _, rfl, l, c, .inr ⟨(fun z => nomatch z), T, _, [.int 0 tk], _, rfl, lT, rfl, .cons ⟨_, rfl⟩ .nil⟩, .inl rfl⟩, k⟩
theorem b1_mk {K : PySem.W.Frag} {x qual a b : Str} {pa : Arguments} {bd : List Stmt} {sc : Scope} {f : Addr} {fd : FuncData} (F : FunD K x qual pa bd sc [.int 0] [] f fd)
    (h : ∀ (T : Addr) (kV doc pm : Value) (an : Option Addr) (cdv ct : Value) (us its : List Value), us.length = 2 → its.length = 1 →
      ∃ k, bindArgs (PySem.W.fnOf x qual pa bd sc (.ref T) kV doc pm an cdv ct) ⟨us, []⟩ = seqItems? (.ref T) >>= k ∧ k (some its.toArray) = pure ([a, b].zip (us ++ its.drop 1))) : Binds K fd [a, b] [] := by
  obtain ⟨ds, v, r⟩ := FunD.binds1 (ps := [a, b]) F 2 1 (fun z => nomatch z) rfl h
  cases v
  exact r
theorem all_mk {l : PySem.W.OpenLaw} {w : World} {K : PySem.W.Frag} {h : Heap} {mg : Str → Option Value} {fa : Addr} (X : K.In h) (G : h.Ns mainGlobals mg) (hfa : mg "law" = some (.ref fa))
    {CycForms : Addr}
    {Ce0 : Addr}
    {Ce1 : Addr}
    {nme1 qe1 : Str} {Ne1 : Addr} {bse1 bme1 : List Value} {sne1 : List Str} {sube1 : List Value} {abe1 : Bool} {cole1 : Option Bool} {dde1 : Option Addr} {m0e1 m1e1 m2e1 m3e1 m5e1 : Option Value}
    {fe1 : Addr} {ode1 ane1 : Option Addr} {sle1 : Array (Option Value)} {oce1 kVe1 dce1 pme1 cde1 cte1 : Value}
    {Ce2 : Addr}
    {nme2 qe2 : Str} {Ne2 : Addr} {bse2 bme2 : List Value} {sne2 : List Str} {sube2 : List Value} {abe2 : Bool} {cole2 : Option Bool} {dde2 : Option Addr} {m0e2 m1e2 m2e2 m3e2 m5e2 : Option Value}
    {fe2 : Addr} {ode2 ane2 : Option Addr} {sle2 : Array (Option Value)} {oce2 kVe2 dce2 pme2 cde2 cte2 : Value}
    {Ce3 : Addr}
    {nme3 qe3 : Str} {Ne3 : Addr} {bse3 bme3 : List Value} {sne3 : List Str} {sube3 : List Value} {abe3 : Bool} {cole3 : Option Bool} {dde3 : Option Addr} {m0e3 m1e3 m2e3 m3e3 m5e3 : Option Value}
    {fe3 : Addr} {ode3 ane3 : Option Addr} {sle3 : Array (Option Value)} {oce3 kVe3 dce3 pme3 cde3 cte3 : Value}
    {Ce4 : Addr}
    {nme4 qe4 : Str} {Ne4 : Addr} {bse4 bme4 : List Value} {sne4 : List Str} {sube4 : List Value} {abe4 : Bool} {cole4 : Option Bool} {dde4 : Option Addr} {m0e4 m1e4 m2e4 m3e4 m5e4 : Option Value}
    {fe4 : Addr} {ode4 ane4 : Option Addr} {sle4 : Array (Option Value)} {oce4 kVe4 dce4 pme4 cde4 cte4 : Value}
    {Ce5 : Addr}
    {nme5 qe5 : Str} {Ne5 : Addr} {bse5 bme5 : List Value} {sne5 : List Str} {sube5 : List Value} {abe5 : Bool} {cole5 : Option Bool} {dde5 : Option Addr} {m0e5 m1e5 m2e5 m3e5 m5e5 : Option Value}
    {fe5 : Addr} {ode5 ane5 : Option Addr} {sle5 : Array (Option Value)} {oce5 kVe5 dce5 pme5 cde5 cte5 : Value}
    {Co0 : Addr}
    {Co1 : Addr}
    {fm_f_init : Addr} {odm_f_init anm_f_init : Option Addr} {slm_f_init : Array (Option Value)} {ocm_f_init kVm_f_init dcm_f_init pmm_f_init cdm_f_init ctm_f_init : Value}
    {fm_f_add : Addr} {odm_f_add anm_f_add : Option Addr} {slm_f_add : Array (Option Value)} {ocm_f_add kVm_f_add dcm_f_add pmm_f_add cdm_f_add ctm_f_add : Value}
    {fm_f_radd : Addr} {odm_f_radd anm_f_radd : Option Addr} {slm_f_radd : Array (Option Value)} {ocm_f_radd kVm_f_radd dcm_f_radd pmm_f_radd cdm_f_radd ctm_f_radd : Value}
    {fm_f_sub : Addr} {odm_f_sub anm_f_sub : Option Addr} {slm_f_sub : Array (Option Value)} {ocm_f_sub kVm_f_sub dcm_f_sub pmm_f_sub cdm_f_sub ctm_f_sub : Value}
    {fm_f_rsub : Addr} {odm_f_rsub anm_f_rsub : Option Addr} {slm_f_rsub : Array (Option Value)} {ocm_f_rsub kVm_f_rsub dcm_f_rsub pmm_f_rsub cdm_f_rsub ctm_f_rsub : Value}
    {fm_f_mul : Addr} {odm_f_mul anm_f_mul : Option Addr} {slm_f_mul : Array (Option Value)} {ocm_f_mul kVm_f_mul dcm_f_mul pmm_f_mul cdm_f_mul ctm_f_mul : Value}
    {fm_f_rmul : Addr} {odm_f_rmul anm_f_rmul : Option Addr} {slm_f_rmul : Array (Option Value)} {ocm_f_rmul kVm_f_rmul dcm_f_rmul pmm_f_rmul cdm_f_rmul ctm_f_rmul : Value}
    {fm_f_neg : Addr} {odm_f_neg anm_f_neg : Option Addr} {slm_f_neg : Array (Option Value)} {ocm_f_neg kVm_f_neg dcm_f_neg pmm_f_neg cdm_f_neg ctm_f_neg : Value}
    {fm_f_eq : Addr} {odm_f_eq anm_f_eq : Option Addr} {slm_f_eq : Array (Option Value)} {ocm_f_eq kVm_f_eq dcm_f_eq pmm_f_eq cdm_f_eq ctm_f_eq : Value}
    {fm_f_str : Addr} {odm_f_str anm_f_str : Option Addr} {slm_f_str : Array (Option Value)} {ocm_f_str kVm_f_str dcm_f_str pmm_f_str cdm_f_str ctm_f_str : Value}
    {fm_g_init : Addr} {odm_g_init anm_g_init : Option Addr} {slm_g_init : Array (Option Value)} {ocm_g_init kVm_g_init dcm_g_init pmm_g_init cdm_g_init ctm_g_init : Value}
    {Tm_g_init : Addr} {tcm_g_init : Value} {tdm_g_init : Option Addr} {tkm_g_init : Tok} {tnm_g_init : Nat} {tsm_g_init : Array (Option Value)}
    {fm_g_eq : Addr} {odm_g_eq anm_g_eq : Option Addr} {slm_g_eq : Array (Option Value)} {ocm_g_eq kVm_g_eq dcm_g_eq pmm_g_eq cdm_g_eq ctm_g_eq : Value}
    {fm_g_number : Addr} {odm_g_number anm_g_number : Option Addr} {slm_g_number : Array (Option Value)} {ocm_g_number kVm_g_number dcm_g_number pmm_g_number cdm_g_number ctm_g_number : Value}
    {fm_g_plus : Addr} {odm_g_plus anm_g_plus : Option Addr} {slm_g_plus : Array (Option Value)} {ocm_g_plus kVm_g_plus dcm_g_plus pmm_g_plus cdm_g_plus ctm_g_plus : Value}
    {fm_g_minus : Addr} {odm_g_minus anm_g_minus : Option Addr} {slm_g_minus : Array (Option Value)} {ocm_g_minus kVm_g_minus dcm_g_minus pmm_g_minus cdm_g_minus ctm_g_minus : Value}
    {fm_g_times : Addr} {odm_g_times anm_g_times : Option Addr} {slm_g_times : Array (Option Value)} {ocm_g_times kVm_g_times dcm_g_times pmm_g_times cdm_g_times ctm_g_times : Value}
    {fm_g_negative : Addr} {odm_g_negative anm_g_negative : Option Addr} {slm_g_negative : Array (Option Value)} {ocm_g_negative kVm_g_negative dcm_g_negative pmm_g_negative cdm_g_negative ctm_g_negative : Value}
    {fm_g_over : Addr} {odm_g_over anm_g_over : Option Addr} {slm_g_over : Array (Option Value)} {ocm_g_over kVm_g_over dcm_g_over pmm_g_over cdm_g_over ctm_g_over : Value}
    {fm_g_power : Addr} {odm_g_power anm_g_power : Option Addr} {slm_g_power : Array (Option Value)} {ocm_g_power kVm_g_power dcm_g_power pmm_g_power cdm_g_power ctm_g_power : Value}
    {fm_g_numbers : Addr} {odm_g_numbers anm_g_numbers : Option Addr} {slm_g_numbers : Array (Option Value)} {ocm_g_numbers kVm_g_numbers dcm_g_numbers pmm_g_numbers cdm_g_numbers ctm_g_numbers : Value}
    {fm_g_roots : Addr} {odm_g_roots anm_g_roots : Option Addr} {slm_g_roots : Array (Option Value)} {ocm_g_roots kVm_g_roots dcm_g_roots pmm_g_roots cdm_g_roots ctm_g_roots : Value}
    {fm_g_least : Addr} {odm_g_least anm_g_least : Option Addr} {slm_g_least : Array (Option Value)} {ocm_g_least kVm_g_least dcm_g_least pmm_g_least cdm_g_least ctm_g_least : Value}
    {iboAdd iroAdd : Option Value}
    {iboSub iroSub : Option Value}
    {iboMul iroMul : Option Value}
    {f0 : Addr} {od0 an0 : Option Addr} {sl0 : Array (Option Value)} {oc0 kV0 dc0 pm0 cd0 ct0 : Value}
    {f1 : Addr} {od1 an1 : Option Addr} {sl1 : Array (Option Value)} {oc1 kV1 dc1 pm1 cd1 ct1 : Value}
    {f2 : Addr} {od2 an2 : Option Addr} {sl2 : Array (Option Value)} {oc2 kV2 dc2 pm2 cd2 ct2 : Value}
    {f3 : Addr} {od3 an3 : Option Addr} {sl3 : Array (Option Value)} {oc3 kV3 dc3 pm3 cd3 ct3 : Value}
    {f4 : Addr} {od4 an4 : Option Addr} {sl4 : Array (Option Value)} {oc4 kV4 dc4 pm4 cd4 ct4 : Value}
    {f5 : Addr} {od5 an5 : Option Addr} {sl5 : Array (Option Value)} {oc5 kV5 dc5 pm5 cd5 ct5 : Value}
    {f6 : Addr} {od6 an6 : Option Addr} {sl6 : Array (Option Value)} {oc6 kV6 dc6 pm6 cd6 ct6 : Value}
    {f7 : Addr} {od7 an7 : Option Addr} {sl7 : Array (Option Value)} {oc7 kV7 dc7 pm7 cd7 ct7 : Value}
    {f8 : Addr} {od8 an8 : Option Addr} {sl8 : Array (Option Value)} {oc8 kV8 dc8 pm8 cd8 ct8 : Value}
    {f9 : Addr} {od9 an9 : Option Addr} {sl9 : Array (Option Value)} {oc9 kV9 dc9 pm9 cd9 ct9 : Value}
    {f10 : Addr} {od10 an10 : Option Addr} {sl10 : Array (Option Value)} {oc10 kV10 dc10 pm10 cd10 ct10 : Value}
    {f11 : Addr} {od11 an11 : Option Addr} {sl11 : Array (Option Value)} {oc11 kV11 dc11 pm11 cd11 ct11 : Value}
    {f12 : Addr} {od12 an12 : Option Addr} {sl12 : Array (Option Value)} {oc12 kV12 dc12 pm12 cd12 ct12 : Value}
    {f13 : Addr} {od13 an13 : Option Addr} {sl13 : Array (Option Value)} {oc13 kV13 dc13 pm13 cd13 ct13 : Value}
    {f14 : Addr} {od14 an14 : Option Addr} {sl14 : Array (Option Value)} {oc14 kV14 dc14 pm14 cd14 ct14 : Value}
    {f15 : Addr} {od15 an15 : Option Addr} {sl15 : Array (Option Value)} {oc15 kV15 dc15 pm15 cd15 ct15 : Value}
    {f16 : Addr} {od16 an16 : Option Addr} {sl16 : Array (Option Value)} {oc16 kV16 dc16 pm16 cd16 ct16 : Value}
    {f17 : Addr} {od17 an17 : Option Addr} {sl17 : Array (Option Value)} {oc17 kV17 dc17 pm17 cd17 ct17 : Value}
    {f18 : Addr} {od18 an18 : Option Addr} {sl18 : Array (Option Value)} {oc18 kV18 dc18 pm18 cd18 ct18 : Value}
    {f19 : Addr} {od19 an19 : Option Addr} {sl19 : Array (Option Value)} {oc19 kV19 dc19 pm19 cd19 ct19 : Value}
    {f20 : Addr} {od20 an20 : Option Addr} {sl20 : Array (Option Value)} {oc20 kV20 dc20 pm20 cd20 ct20 : Value}
    {f21 : Addr} {od21 an21 : Option Addr} {sl21 : Array (Option Value)} {oc21 kV21 dc21 pm21 cd21 ct21 : Value}
    {f22 : Addr} {od22 an22 : Option Addr} {sl22 : Array (Option Value)} {oc22 kV22 dc22 pm22 cd22 ct22 : Value}
    {f23 : Addr} {od23 an23 : Option Addr} {sl23 : Array (Option Value)} {oc23 kV23 dc23 pm23 cd23 ct23 : Value}
    {f24 : Addr} {od24 an24 : Option Addr} {sl24 : Array (Option Value)} {oc24 kV24 dc24 pm24 cd24 ct24 : Value}
    {f25 : Addr} {od25 an25 : Option Addr} {sl25 : Array (Option Value)} {oc25 kV25 dc25 pm25 cd25 ct25 : Value}
    {f26 : Addr} {od26 an26 : Option Addr} {sl26 : Array (Option Value)} {oc26 kV26 dc26 pm26 cd26 ct26 : Value}
    {f27 : Addr} {od27 an27 : Option Addr} {sl27 : Array (Option Value)} {oc27 kV27 dc27 pm27 cd27 ct27 : Value}
    {f28 : Addr} {od28 an28 : Option Addr} {sl28 : Array (Option Value)} {oc28 kV28 dc28 pm28 cd28 ct28 : Value}
    {f29 : Addr} {od29 an29 : Option Addr} {sl29 : Array (Option Value)} {oc29 kV29 dc29 pm29 cd29 ct29 : Value}
    {f30 : Addr} {od30 an30 : Option Addr} {sl30 : Array (Option Value)} {oc30 kV30 dc30 pm30 cd30 ct30 : Value}
    {f31 : Addr} {od31 an31 : Option Addr} {sl31 : Array (Option Value)} {oc31 kV31 dc31 pm31 cd31 ct31 : Value}
    {f32 : Addr} {od32 an32 : Option Addr} {sl32 : Array (Option Value)} {oc32 kV32 dc32 pm32 cd32 ct32 : Value}
    {f33 : Addr} {od33 an33 : Option Addr} {sl33 : Array (Option Value)} {oc33 kV33 dc33 pm33 cd33 ct33 : Value}
    {f34 : Addr} {od34 an34 : Option Addr} {sl34 : Array (Option Value)} {oc34 kV34 dc34 pm34 cd34 ct34 : Value}
    {f35 : Addr} {od35 an35 : Option Addr} {sl35 : Array (Option Value)} {oc35 kV35 dc35 pm35 cd35 ct35 : Value}
    {f36 : Addr} {od36 an36 : Option Addr} {sl36 : Array (Option Value)} {oc36 kV36 dc36 pm36 cd36 ct36 : Value}
    {f37 : Addr} {od37 an37 : Option Addr} {sl37 : Array (Option Value)} {oc37 kV37 dc37 pm37 cd37 ct37 : Value}
    {f38 : Addr} {od38 an38 : Option Addr} {sl38 : Array (Option Value)} {oc38 kV38 dc38 pm38 cd38 ct38 : Value}
    {f39 : Addr} {od39 an39 : Option Addr} {sl39 : Array (Option Value)} {oc39 kV39 dc39 pm39 cd39 ct39 : Value}
    {f40 : Addr} {od40 an40 : Option Addr} {sl40 : Array (Option Value)} {oc40 kV40 dc40 pm40 cd40 ct40 : Value}
    {f41 : Addr} {od41 an41 : Option Addr} {sl41 : Array (Option Value)} {oc41 kV41 dc41 pm41 cd41 ct41 : Value}
    {f42 : Addr} {od42 an42 : Option Addr} {sl42 : Array (Option Value)} {oc42 kV42 dc42 pm42 cd42 ct42 : Value}
    {f43 : Addr} {od43 an43 : Option Addr} {sl43 : Array (Option Value)} {oc43 kV43 dc43 pm43 cd43 ct43 : Value}
    {f44 : Addr} {od44 an44 : Option Addr} {sl44 : Array (Option Value)} {oc44 kV44 dc44 pm44 cd44 ct44 : Value}
    {TPPRIMES : Addr} {pdPRIMES : Option Addr} {pnPRIMES : Nat} {psPRIMES : Array (Option Value)} {ptPRIMES0 ptPRIMES1 ptPRIMES2 ptPRIMES3 ptPRIMES4 ptPRIMES5 ptPRIMES6 ptPRIMES7 ptPRIMES8 ptPRIMES9 ptPRIMES10 : Tok}
    {t_MOST_FACTORS : Tok}
    {t_MOST_DIGITS : Tok}
    {t_DIGITS : Tok}
    (spG : PySem.W.specialIn K (.builtin "object.__class__") "__get__" = some (some (.builtin "getset_descriptor.__get__")))
    (tkG : PySem.W.takesIn K (.builtin "object.__class__") = some true)
    (gycForms : PySem.W.nsIn K mainGlobals "FormsError" = some (some (.ref CycForms)))
    (ge0 : PySem.W.nsIn K mainGlobals "DivisionByZero" = some (some (.ref Ce0)))
    (gae0 : PySem.W.findIn K (.ref Ce0) "__getattribute__" = some (some (.builtin "BaseException.__getattribute__")))
    (gge0 : PySem.W.findIn K (.ref Ce0) "__getattr__" = some none)
    (exe0 : PySem.W.subIn K (.ref Ce0) (.type "BaseException") = some true)
    (tye0 : PySem.W.typeIn K (.ref Ce0) = some (.type "type"))
    (kce0 : PySem.W.keepIn K (.ref Ce0) = true)
    (hde0 : PySem.W.hasDictIn K Ce0 = true)
    (ise0 : PySem.W.isClsIn K Ce0 = true)
    (cle0 : PySem.W.findIn K (.ref Ce0) "__class__" = some (some (.builtin "object.__class__")))
    (moe0 : PySem.W.mroIn K Ce0 (.type "object") = some true)
    (qe0 : PySem.W.excIn K Ce0 [.type "ValueError", .type "Exception", .type "BaseException", .type "object"] "ValueError.__new__" = true)
    (ge1 : PySem.W.nsIn K mainGlobals "Whole" = some (some (.ref Ce1)))
    (gae1 : PySem.W.findIn K (.ref Ce1) "__getattribute__" = some (some (.builtin "BaseException.__getattribute__")))
    (gge1 : PySem.W.findIn K (.ref Ce1) "__getattr__" = some none)
    (exe1 : PySem.W.subIn K (.ref Ce1) (.type "BaseException") = some true)
    (tye1 : PySem.W.typeIn K (.ref Ce1) = some (.type "type"))
    (kce1 : PySem.W.keepIn K (.ref Ce1) = true)
    (hde1 : PySem.W.hasDictIn K Ce1 = true)
    (ise1 : PySem.W.isClsIn K Ce1 = true)
    (cle1 : PySem.W.findIn K (.ref Ce1) "__class__" = some (some (.builtin "object.__class__")))
    (moe1 : PySem.W.mroIn K Ce1 (.type "object") = some true)
    (xLe1 : K.lookup Ce1 = some (excClassObj nme1 qe1 Ce1 Ne1 bse1 bme1 true sne1 sube1 abe1 cole1 dde1 m0e1 m1e1 m2e1 m3e1 m5e1 "ValueError.__new__"))
    (xve1 : PySem.HandSPX.refsVE bme1 = true)
    (sae1 : PySem.W.findIn K (.ref Ce1) "__setattr__" = some (some (.builtin "object.__setattr__")))
    (iCe1 : PySem.W.findIn K (.ref Ce1) "__init__" = some (some (.ref fe1)))
    (tIe1 : PySem.W.typeIn K (.ref fe1) = some (.type "function"))
    (le1 : K.lookup fe1 = some ⟨oce1, ode1, .func (PySem.W.fnOf "__init__" "Whole.__init__" (defArgs i_whole) (defBody i_whole) (defScope i_whole) .none kVe1 dce1 pme1 ane1 cde1 cte1), sle1⟩)
    (ce1 : PySem.W.codeIn K cde1 "Whole.__init__" = true)
    (ke1 : PySem.W.keepIn K (.ref fe1) = true)
    (ge2 : PySem.W.nsIn K mainGlobals "BadText" = some (some (.ref Ce2)))
    (gae2 : PySem.W.findIn K (.ref Ce2) "__getattribute__" = some (some (.builtin "BaseException.__getattribute__")))
    (gge2 : PySem.W.findIn K (.ref Ce2) "__getattr__" = some none)
    (exe2 : PySem.W.subIn K (.ref Ce2) (.type "BaseException") = some true)
    (tye2 : PySem.W.typeIn K (.ref Ce2) = some (.type "type"))
    (kce2 : PySem.W.keepIn K (.ref Ce2) = true)
    (hde2 : PySem.W.hasDictIn K Ce2 = true)
    (ise2 : PySem.W.isClsIn K Ce2 = true)
    (cle2 : PySem.W.findIn K (.ref Ce2) "__class__" = some (some (.builtin "object.__class__")))
    (moe2 : PySem.W.mroIn K Ce2 (.type "object") = some true)
    (xLe2 : K.lookup Ce2 = some (excClassObj nme2 qe2 Ce2 Ne2 bse2 bme2 true sne2 sube2 abe2 cole2 dde2 m0e2 m1e2 m2e2 m3e2 m5e2 "ValueError.__new__"))
    (xve2 : PySem.HandSPX.refsVE bme2 = true)
    (sae2 : PySem.W.findIn K (.ref Ce2) "__setattr__" = some (some (.builtin "object.__setattr__")))
    (iCe2 : PySem.W.findIn K (.ref Ce2) "__init__" = some (some (.ref fe2)))
    (tIe2 : PySem.W.typeIn K (.ref fe2) = some (.type "function"))
    (le2 : K.lookup fe2 = some ⟨oce2, ode2, .func (PySem.W.fnOf "__init__" "BadText.__init__" (defArgs i_text) (defBody i_text) (defScope i_text) .none kVe2 dce2 pme2 ane2 cde2 cte2), sle2⟩)
    (ce2 : PySem.W.codeIn K cde2 "BadText.__init__" = true)
    (ke2 : PySem.W.keepIn K (.ref fe2) = true)
    (ge3 : PySem.W.nsIn K mainGlobals "BadPrime" = some (some (.ref Ce3)))
    (gae3 : PySem.W.findIn K (.ref Ce3) "__getattribute__" = some (some (.builtin "BaseException.__getattribute__")))
    (gge3 : PySem.W.findIn K (.ref Ce3) "__getattr__" = some none)
    (exe3 : PySem.W.subIn K (.ref Ce3) (.type "BaseException") = some true)
    (tye3 : PySem.W.typeIn K (.ref Ce3) = some (.type "type"))
    (kce3 : PySem.W.keepIn K (.ref Ce3) = true)
    (hde3 : PySem.W.hasDictIn K Ce3 = true)
    (ise3 : PySem.W.isClsIn K Ce3 = true)
    (cle3 : PySem.W.findIn K (.ref Ce3) "__class__" = some (some (.builtin "object.__class__")))
    (moe3 : PySem.W.mroIn K Ce3 (.type "object") = some true)
    (xLe3 : K.lookup Ce3 = some (excClassObj nme3 qe3 Ce3 Ne3 bse3 bme3 true sne3 sube3 abe3 cole3 dde3 m0e3 m1e3 m2e3 m3e3 m5e3 "ValueError.__new__"))
    (xve3 : PySem.HandSPX.refsVE bme3 = true)
    (sae3 : PySem.W.findIn K (.ref Ce3) "__setattr__" = some (some (.builtin "object.__setattr__")))
    (iCe3 : PySem.W.findIn K (.ref Ce3) "__init__" = some (some (.ref fe3)))
    (tIe3 : PySem.W.typeIn K (.ref fe3) = some (.type "function"))
    (le3 : K.lookup fe3 = some ⟨oce3, ode3, .func (PySem.W.fnOf "__init__" "BadPrime.__init__" (defArgs i_prime) (defBody i_prime) (defScope i_prime) .none kVe3 dce3 pme3 ane3 cde3 cte3), sle3⟩)
    (ce3 : PySem.W.codeIn K cde3 "BadPrime.__init__" = true)
    (ke3 : PySem.W.keepIn K (.ref fe3) = true)
    (ge4 : PySem.W.nsIn K mainGlobals "BadCount" = some (some (.ref Ce4)))
    (gae4 : PySem.W.findIn K (.ref Ce4) "__getattribute__" = some (some (.builtin "BaseException.__getattribute__")))
    (gge4 : PySem.W.findIn K (.ref Ce4) "__getattr__" = some none)
    (exe4 : PySem.W.subIn K (.ref Ce4) (.type "BaseException") = some true)
    (tye4 : PySem.W.typeIn K (.ref Ce4) = some (.type "type"))
    (kce4 : PySem.W.keepIn K (.ref Ce4) = true)
    (hde4 : PySem.W.hasDictIn K Ce4 = true)
    (ise4 : PySem.W.isClsIn K Ce4 = true)
    (cle4 : PySem.W.findIn K (.ref Ce4) "__class__" = some (some (.builtin "object.__class__")))
    (moe4 : PySem.W.mroIn K Ce4 (.type "object") = some true)
    (xLe4 : K.lookup Ce4 = some (excClassObj nme4 qe4 Ce4 Ne4 bse4 bme4 true sne4 sube4 abe4 cole4 dde4 m0e4 m1e4 m2e4 m3e4 m5e4 "ValueError.__new__"))
    (xve4 : PySem.HandSPX.refsVE bme4 = true)
    (sae4 : PySem.W.findIn K (.ref Ce4) "__setattr__" = some (some (.builtin "object.__setattr__")))
    (iCe4 : PySem.W.findIn K (.ref Ce4) "__init__" = some (some (.ref fe4)))
    (tIe4 : PySem.W.typeIn K (.ref fe4) = some (.type "function"))
    (le4 : K.lookup fe4 = some ⟨oce4, ode4, .func (PySem.W.fnOf "__init__" "BadCount.__init__" (defArgs i_count) (defBody i_count) (defScope i_count) .none kVe4 dce4 pme4 ane4 cde4 cte4), sle4⟩)
    (ce4 : PySem.W.codeIn K cde4 "BadCount.__init__" = true)
    (ke4 : PySem.W.keepIn K (.ref fe4) = true)
    (ge5 : PySem.W.nsIn K mainGlobals "WrongGround" = some (some (.ref Ce5)))
    (gae5 : PySem.W.findIn K (.ref Ce5) "__getattribute__" = some (some (.builtin "BaseException.__getattribute__")))
    (gge5 : PySem.W.findIn K (.ref Ce5) "__getattr__" = some none)
    (exe5 : PySem.W.subIn K (.ref Ce5) (.type "BaseException") = some true)
    (tye5 : PySem.W.typeIn K (.ref Ce5) = some (.type "type"))
    (kce5 : PySem.W.keepIn K (.ref Ce5) = true)
    (hde5 : PySem.W.hasDictIn K Ce5 = true)
    (ise5 : PySem.W.isClsIn K Ce5 = true)
    (cle5 : PySem.W.findIn K (.ref Ce5) "__class__" = some (some (.builtin "object.__class__")))
    (moe5 : PySem.W.mroIn K Ce5 (.type "object") = some true)
    (xLe5 : K.lookup Ce5 = some (excClassObj nme5 qe5 Ce5 Ne5 bse5 bme5 true sne5 sube5 abe5 cole5 dde5 m0e5 m1e5 m2e5 m3e5 m5e5 "ValueError.__new__"))
    (xve5 : PySem.HandSPX.refsVE bme5 = true)
    (sae5 : PySem.W.findIn K (.ref Ce5) "__setattr__" = some (some (.builtin "object.__setattr__")))
    (iCe5 : PySem.W.findIn K (.ref Ce5) "__init__" = some (some (.ref fe5)))
    (tIe5 : PySem.W.typeIn K (.ref fe5) = some (.type "function"))
    (le5 : K.lookup fe5 = some ⟨oce5, ode5, .func (PySem.W.fnOf "__init__" "WrongGround.__init__" (defArgs i_wrong) (defBody i_wrong) (defScope i_wrong) .none kVe5 dce5 pme5 ane5 cde5 cte5), sle5⟩)
    (ce5 : PySem.W.codeIn K cde5 "WrongGround.__init__" = true)
    (ke5 : PySem.W.keepIn K (.ref fe5) = true)
    (go0 : PySem.W.nsIn K mainGlobals "Frac" = some (some (.ref Co0)))
    (pgo0 : PySem.W.plainGet K Co0 Str.empty = true)
    (hdo0 : PySem.W.hasDictIn K Co0 = true)
    (poo0 : PySem.W.plainOver K Co0 = true)
    (sao0 : PySem.W.findIn K (.ref Co0) "__setattr__" = some (some (.builtin "object.__setattr__")))
    (sfo0 : PySem.W.selfFirst K Co0 = true)
    (i1o0 : PySem.W.subIn K (.type "int") (.ref Co0) = some false)
    (i2o0 : PySem.W.subIn K (.ref Co0) (.type "int") = some false)
    (s1o0 : PySem.W.subIn K (.type "str") (.ref Co0) = some false)
    (obo0 : PySem.W.subIn K (.ref Co0) (.type "object") = some true)
    (clo0 : PySem.W.findIn K (.ref Co0) "__class__" = some (some (.builtin "object.__class__")))
    (moo0 : PySem.W.mroIn K Co0 (.type "object") = some true)
    (iso0 : PySem.W.isClsIn K Co0 = true)
    (tyo0 : PySem.W.typeIn K (.ref Co0) = some (.type "type"))
    (mko0 : PySem.W.makesIn K Co0 = true)
    (kco0 : PySem.W.keepIn K (.ref Co0) = true)
    (go1 : PySem.W.nsIn K mainGlobals "Ground" = some (some (.ref Co1)))
    (pgo1 : PySem.W.plainGet K Co1 Str.empty = true)
    (hdo1 : PySem.W.hasDictIn K Co1 = true)
    (poo1 : PySem.W.plainOver K Co1 = true)
    (sao1 : PySem.W.findIn K (.ref Co1) "__setattr__" = some (some (.builtin "object.__setattr__")))
    (sfo1 : PySem.W.selfFirst K Co1 = true)
    (i1o1 : PySem.W.subIn K (.type "int") (.ref Co1) = some false)
    (i2o1 : PySem.W.subIn K (.ref Co1) (.type "int") = some false)
    (s1o1 : PySem.W.subIn K (.type "str") (.ref Co1) = some false)
    (obo1 : PySem.W.subIn K (.ref Co1) (.type "object") = some true)
    (clo1 : PySem.W.findIn K (.ref Co1) "__class__" = some (some (.builtin "object.__class__")))
    (moo1 : PySem.W.mroIn K Co1 (.type "object") = some true)
    (iso1 : PySem.W.isClsIn K Co1 = true)
    (tyo1 : PySem.W.typeIn K (.ref Co1) = some (.type "type"))
    (mko1 : PySem.W.makesIn K Co1 = true)
    (kco1 : PySem.W.keepIn K (.ref Co1) = true)
    (nf_cDiv_integer : PySem.W.findIn K (.ref Ce0) "integer" = some none)
    (nf_cDiv_prime : PySem.W.findIn K (.ref Ce0) "prime" = some none)
    (nf_cDiv_count : PySem.W.findIn K (.ref Ce0) "count" = some none)
    (nf_cDiv_text : PySem.W.findIn K (.ref Ce0) "text" = some none)
    (nf_cWhole_integer : PySem.W.findIn K (.ref Ce1) "integer" = some none)
    (nf_cWhole_prime : PySem.W.findIn K (.ref Ce1) "prime" = some none)
    (nf_cWhole_count : PySem.W.findIn K (.ref Ce1) "count" = some none)
    (nf_cWhole_text : PySem.W.findIn K (.ref Ce1) "text" = some none)
    (nf_cText_integer : PySem.W.findIn K (.ref Ce2) "integer" = some none)
    (nf_cText_prime : PySem.W.findIn K (.ref Ce2) "prime" = some none)
    (nf_cText_count : PySem.W.findIn K (.ref Ce2) "count" = some none)
    (nf_cText_text : PySem.W.findIn K (.ref Ce2) "text" = some none)
    (nf_cPrime_integer : PySem.W.findIn K (.ref Ce3) "integer" = some none)
    (nf_cPrime_prime : PySem.W.findIn K (.ref Ce3) "prime" = some none)
    (nf_cPrime_count : PySem.W.findIn K (.ref Ce3) "count" = some none)
    (nf_cPrime_text : PySem.W.findIn K (.ref Ce3) "text" = some none)
    (nf_cCount_integer : PySem.W.findIn K (.ref Ce4) "integer" = some none)
    (nf_cCount_prime : PySem.W.findIn K (.ref Ce4) "prime" = some none)
    (nf_cCount_count : PySem.W.findIn K (.ref Ce4) "count" = some none)
    (nf_cCount_text : PySem.W.findIn K (.ref Ce4) "text" = some none)
    (nf_cWrong_integer : PySem.W.findIn K (.ref Ce5) "integer" = some none)
    (nf_cWrong_prime : PySem.W.findIn K (.ref Ce5) "prime" = some none)
    (nf_cWrong_count : PySem.W.findIn K (.ref Ce5) "count" = some none)
    (nf_cWrong_text : PySem.W.findIn K (.ref Ce5) "text" = some none)
    (xm_cDiv : PySem.W.exmOne K (.ref Ce0) (.ref CycForms) = some true)
    (xm_cWhole : PySem.W.exmOne K (.ref Ce1) (.ref CycForms) = some true)
    (xm_cText : PySem.W.exmOne K (.ref Ce2) (.ref CycForms) = some true)
    (xm_cPrime : PySem.W.exmOne K (.ref Ce3) (.ref CycForms) = some true)
    (xm_cCount : PySem.W.exmOne K (.ref Ce4) (.ref CycForms) = some true)
    (xm_cWrong : PySem.W.exmOne K (.ref Ce5) (.ref CycForms) = some true)
    (kt_kDiv_0 : PySem.W.kitOne K (.ref Ce0) (.ref Ce0) = some true)
    (kt_kDiv_1 : PySem.W.kitOne K (.ref Ce0) (.ref Ce1) = some false)
    (kt_kDiv_2 : PySem.W.kitOne K (.ref Ce0) (.ref Ce2) = some false)
    (kt_kDiv_3 : PySem.W.kitOne K (.ref Ce0) (.ref Ce3) = some false)
    (kt_kDiv_4 : PySem.W.kitOne K (.ref Ce0) (.ref Ce4) = some false)
    (kt_kDiv_5 : PySem.W.kitOne K (.ref Ce0) (.ref Ce5) = some false)
    (kt_kDiv_6 : PySem.W.kitOne K (.ref Ce0) (.type "ValueError") = some true)
    (kt_kWhole_0 : PySem.W.kitOne K (.ref Ce1) (.ref Ce0) = some false)
    (kt_kWhole_1 : PySem.W.kitOne K (.ref Ce1) (.ref Ce1) = some true)
    (kt_kWhole_2 : PySem.W.kitOne K (.ref Ce1) (.ref Ce2) = some false)
    (kt_kWhole_3 : PySem.W.kitOne K (.ref Ce1) (.ref Ce3) = some false)
    (kt_kWhole_4 : PySem.W.kitOne K (.ref Ce1) (.ref Ce4) = some false)
    (kt_kWhole_5 : PySem.W.kitOne K (.ref Ce1) (.ref Ce5) = some false)
    (kt_kWhole_6 : PySem.W.kitOne K (.ref Ce1) (.type "ValueError") = some true)
    (kt_kText_0 : PySem.W.kitOne K (.ref Ce2) (.ref Ce0) = some false)
    (kt_kText_1 : PySem.W.kitOne K (.ref Ce2) (.ref Ce1) = some false)
    (kt_kText_2 : PySem.W.kitOne K (.ref Ce2) (.ref Ce2) = some true)
    (kt_kText_3 : PySem.W.kitOne K (.ref Ce2) (.ref Ce3) = some false)
    (kt_kText_4 : PySem.W.kitOne K (.ref Ce2) (.ref Ce4) = some false)
    (kt_kText_5 : PySem.W.kitOne K (.ref Ce2) (.ref Ce5) = some false)
    (kt_kText_6 : PySem.W.kitOne K (.ref Ce2) (.type "ValueError") = some true)
    (kt_kPrime_0 : PySem.W.kitOne K (.ref Ce3) (.ref Ce0) = some false)
    (kt_kPrime_1 : PySem.W.kitOne K (.ref Ce3) (.ref Ce1) = some false)
    (kt_kPrime_2 : PySem.W.kitOne K (.ref Ce3) (.ref Ce2) = some false)
    (kt_kPrime_3 : PySem.W.kitOne K (.ref Ce3) (.ref Ce3) = some true)
    (kt_kPrime_4 : PySem.W.kitOne K (.ref Ce3) (.ref Ce4) = some false)
    (kt_kPrime_5 : PySem.W.kitOne K (.ref Ce3) (.ref Ce5) = some false)
    (kt_kPrime_6 : PySem.W.kitOne K (.ref Ce3) (.type "ValueError") = some true)
    (kt_kCount_0 : PySem.W.kitOne K (.ref Ce4) (.ref Ce0) = some false)
    (kt_kCount_1 : PySem.W.kitOne K (.ref Ce4) (.ref Ce1) = some false)
    (kt_kCount_2 : PySem.W.kitOne K (.ref Ce4) (.ref Ce2) = some false)
    (kt_kCount_3 : PySem.W.kitOne K (.ref Ce4) (.ref Ce3) = some false)
    (kt_kCount_4 : PySem.W.kitOne K (.ref Ce4) (.ref Ce4) = some true)
    (kt_kCount_5 : PySem.W.kitOne K (.ref Ce4) (.ref Ce5) = some false)
    (kt_kCount_6 : PySem.W.kitOne K (.ref Ce4) (.type "ValueError") = some true)
    (kt_kWrong_0 : PySem.W.kitOne K (.ref Ce5) (.ref Ce0) = some false)
    (kt_kWrong_1 : PySem.W.kitOne K (.ref Ce5) (.ref Ce1) = some false)
    (kt_kWrong_2 : PySem.W.kitOne K (.ref Ce5) (.ref Ce2) = some false)
    (kt_kWrong_3 : PySem.W.kitOne K (.ref Ce5) (.ref Ce3) = some false)
    (kt_kWrong_4 : PySem.W.kitOne K (.ref Ce5) (.ref Ce4) = some false)
    (kt_kWrong_5 : PySem.W.kitOne K (.ref Ce5) (.ref Ce5) = some true)
    (kt_kWrong_6 : PySem.W.kitOne K (.ref Ce5) (.type "ValueError") = some true)
    (na_nNum : PySem.W.findIn K (.ref Co0) "num" = some none)
    (na_nDen : PySem.W.findIn K (.ref Co0) "den" = some none)
    (na_nPrime : PySem.W.findIn K (.ref Co1) "prime" = some none)
    (atm_f_init : PySem.W.findIn K (.ref Co0) "__init__" = some (some (.ref fm_f_init)))
    (fnm_f_init : PySem.W.isFn K (.ref fm_f_init) = true)
    (lm_f_init : K.lookup fm_f_init = some ⟨ocm_f_init, odm_f_init, .func (PySem.W.fnOf "__init__" "Frac.__init__" (defArgs s_f_init) (defBody s_f_init) (defScope s_f_init) .none kVm_f_init dcm_f_init pmm_f_init anm_f_init cdm_f_init ctm_f_init), slm_f_init⟩)
    (cm_f_init : PySem.W.codeIn K cdm_f_init "Frac.__init__" = true)
    (km_f_init : PySem.W.keepIn K (.ref fm_f_init) = true)
    (atm_f_add : PySem.W.findIn K (.ref Co0) "__add__" = some (some (.ref fm_f_add)))
    (fnm_f_add : PySem.W.isFn K (.ref fm_f_add) = true)
    (lm_f_add : K.lookup fm_f_add = some ⟨ocm_f_add, odm_f_add, .func (PySem.W.fnOf "__add__" "Frac.__add__" (defArgs s_f_add) (defBody s_f_add) (defScope s_f_add) .none kVm_f_add dcm_f_add pmm_f_add anm_f_add cdm_f_add ctm_f_add), slm_f_add⟩)
    (cm_f_add : PySem.W.codeIn K cdm_f_add "Frac.__add__" = true)
    (km_f_add : PySem.W.keepIn K (.ref fm_f_add) = true)
    (atm_f_radd : PySem.W.findIn K (.ref Co0) "__radd__" = some (some (.ref fm_f_radd)))
    (fnm_f_radd : PySem.W.isFn K (.ref fm_f_radd) = true)
    (lm_f_radd : K.lookup fm_f_radd = some ⟨ocm_f_radd, odm_f_radd, .func (PySem.W.fnOf "__radd__" "Frac.__radd__" (defArgs s_f_radd) (defBody s_f_radd) (defScope s_f_radd) .none kVm_f_radd dcm_f_radd pmm_f_radd anm_f_radd cdm_f_radd ctm_f_radd), slm_f_radd⟩)
    (cm_f_radd : PySem.W.codeIn K cdm_f_radd "Frac.__radd__" = true)
    (km_f_radd : PySem.W.keepIn K (.ref fm_f_radd) = true)
    (atm_f_sub : PySem.W.findIn K (.ref Co0) "__sub__" = some (some (.ref fm_f_sub)))
    (fnm_f_sub : PySem.W.isFn K (.ref fm_f_sub) = true)
    (lm_f_sub : K.lookup fm_f_sub = some ⟨ocm_f_sub, odm_f_sub, .func (PySem.W.fnOf "__sub__" "Frac.__sub__" (defArgs s_f_sub) (defBody s_f_sub) (defScope s_f_sub) .none kVm_f_sub dcm_f_sub pmm_f_sub anm_f_sub cdm_f_sub ctm_f_sub), slm_f_sub⟩)
    (cm_f_sub : PySem.W.codeIn K cdm_f_sub "Frac.__sub__" = true)
    (km_f_sub : PySem.W.keepIn K (.ref fm_f_sub) = true)
    (atm_f_rsub : PySem.W.findIn K (.ref Co0) "__rsub__" = some (some (.ref fm_f_rsub)))
    (fnm_f_rsub : PySem.W.isFn K (.ref fm_f_rsub) = true)
    (lm_f_rsub : K.lookup fm_f_rsub = some ⟨ocm_f_rsub, odm_f_rsub, .func (PySem.W.fnOf "__rsub__" "Frac.__rsub__" (defArgs s_f_rsub) (defBody s_f_rsub) (defScope s_f_rsub) .none kVm_f_rsub dcm_f_rsub pmm_f_rsub anm_f_rsub cdm_f_rsub ctm_f_rsub), slm_f_rsub⟩)
    (cm_f_rsub : PySem.W.codeIn K cdm_f_rsub "Frac.__rsub__" = true)
    (km_f_rsub : PySem.W.keepIn K (.ref fm_f_rsub) = true)
    (atm_f_mul : PySem.W.findIn K (.ref Co0) "__mul__" = some (some (.ref fm_f_mul)))
    (fnm_f_mul : PySem.W.isFn K (.ref fm_f_mul) = true)
    (lm_f_mul : K.lookup fm_f_mul = some ⟨ocm_f_mul, odm_f_mul, .func (PySem.W.fnOf "__mul__" "Frac.__mul__" (defArgs s_f_mul) (defBody s_f_mul) (defScope s_f_mul) .none kVm_f_mul dcm_f_mul pmm_f_mul anm_f_mul cdm_f_mul ctm_f_mul), slm_f_mul⟩)
    (cm_f_mul : PySem.W.codeIn K cdm_f_mul "Frac.__mul__" = true)
    (km_f_mul : PySem.W.keepIn K (.ref fm_f_mul) = true)
    (atm_f_rmul : PySem.W.findIn K (.ref Co0) "__rmul__" = some (some (.ref fm_f_rmul)))
    (fnm_f_rmul : PySem.W.isFn K (.ref fm_f_rmul) = true)
    (lm_f_rmul : K.lookup fm_f_rmul = some ⟨ocm_f_rmul, odm_f_rmul, .func (PySem.W.fnOf "__rmul__" "Frac.__rmul__" (defArgs s_f_rmul) (defBody s_f_rmul) (defScope s_f_rmul) .none kVm_f_rmul dcm_f_rmul pmm_f_rmul anm_f_rmul cdm_f_rmul ctm_f_rmul), slm_f_rmul⟩)
    (cm_f_rmul : PySem.W.codeIn K cdm_f_rmul "Frac.__rmul__" = true)
    (km_f_rmul : PySem.W.keepIn K (.ref fm_f_rmul) = true)
    (atm_f_neg : PySem.W.findIn K (.ref Co0) "__neg__" = some (some (.ref fm_f_neg)))
    (fnm_f_neg : PySem.W.isFn K (.ref fm_f_neg) = true)
    (lm_f_neg : K.lookup fm_f_neg = some ⟨ocm_f_neg, odm_f_neg, .func (PySem.W.fnOf "__neg__" "Frac.__neg__" (defArgs s_f_neg) (defBody s_f_neg) (defScope s_f_neg) .none kVm_f_neg dcm_f_neg pmm_f_neg anm_f_neg cdm_f_neg ctm_f_neg), slm_f_neg⟩)
    (cm_f_neg : PySem.W.codeIn K cdm_f_neg "Frac.__neg__" = true)
    (km_f_neg : PySem.W.keepIn K (.ref fm_f_neg) = true)
    (atm_f_eq : PySem.W.findIn K (.ref Co0) "__eq__" = some (some (.ref fm_f_eq)))
    (fnm_f_eq : PySem.W.isFn K (.ref fm_f_eq) = true)
    (lm_f_eq : K.lookup fm_f_eq = some ⟨ocm_f_eq, odm_f_eq, .func (PySem.W.fnOf "__eq__" "Frac.__eq__" (defArgs s_f_eq) (defBody s_f_eq) (defScope s_f_eq) .none kVm_f_eq dcm_f_eq pmm_f_eq anm_f_eq cdm_f_eq ctm_f_eq), slm_f_eq⟩)
    (cm_f_eq : PySem.W.codeIn K cdm_f_eq "Frac.__eq__" = true)
    (km_f_eq : PySem.W.keepIn K (.ref fm_f_eq) = true)
    (atm_f_str : PySem.W.findIn K (.ref Co0) "__str__" = some (some (.ref fm_f_str)))
    (fnm_f_str : PySem.W.isFn K (.ref fm_f_str) = true)
    (lm_f_str : K.lookup fm_f_str = some ⟨ocm_f_str, odm_f_str, .func (PySem.W.fnOf "__str__" "Frac.__str__" (defArgs s_f_str) (defBody s_f_str) (defScope s_f_str) .none kVm_f_str dcm_f_str pmm_f_str anm_f_str cdm_f_str ctm_f_str), slm_f_str⟩)
    (cm_f_str : PySem.W.codeIn K cdm_f_str "Frac.__str__" = true)
    (km_f_str : PySem.W.keepIn K (.ref fm_f_str) = true)
    (atm_g_init : PySem.W.findIn K (.ref Co1) "__init__" = some (some (.ref fm_g_init)))
    (fnm_g_init : PySem.W.isFn K (.ref fm_g_init) = true)
    (lm_g_init : K.lookup fm_g_init = some ⟨ocm_g_init, odm_g_init, .func (PySem.W.fnOf "__init__" "Ground.__init__" (defArgs s_g_init) (defBody s_g_init) (defScope s_g_init) (.ref Tm_g_init) kVm_g_init dcm_g_init pmm_g_init anm_g_init cdm_g_init ctm_g_init), slm_g_init⟩)
    (cm_g_init : PySem.W.codeIn K cdm_g_init "Ground.__init__" = true)
    (km_g_init : PySem.W.keepIn K (.ref fm_g_init) = true)
    (lTm_g_init : K.lookup Tm_g_init = some ⟨tcm_g_init, tdm_g_init, .seq #[.int 0 tkm_g_init] tnm_g_init, tsm_g_init⟩)
    (atm_g_eq : PySem.W.findIn K (.ref Co1) "__eq__" = some (some (.ref fm_g_eq)))
    (fnm_g_eq : PySem.W.isFn K (.ref fm_g_eq) = true)
    (lm_g_eq : K.lookup fm_g_eq = some ⟨ocm_g_eq, odm_g_eq, .func (PySem.W.fnOf "__eq__" "Ground.__eq__" (defArgs s_g_eq) (defBody s_g_eq) (defScope s_g_eq) .none kVm_g_eq dcm_g_eq pmm_g_eq anm_g_eq cdm_g_eq ctm_g_eq), slm_g_eq⟩)
    (cm_g_eq : PySem.W.codeIn K cdm_g_eq "Ground.__eq__" = true)
    (km_g_eq : PySem.W.keepIn K (.ref fm_g_eq) = true)
    (atm_g_number : PySem.W.findIn K (.ref Co1) "number" = some (some (.ref fm_g_number)))
    (fnm_g_number : PySem.W.isFn K (.ref fm_g_number) = true)
    (lm_g_number : K.lookup fm_g_number = some ⟨ocm_g_number, odm_g_number, .func (PySem.W.fnOf "number" "Ground.number" (defArgs s_g_number) (defBody s_g_number) (defScope s_g_number) .none kVm_g_number dcm_g_number pmm_g_number anm_g_number cdm_g_number ctm_g_number), slm_g_number⟩)
    (cm_g_number : PySem.W.codeIn K cdm_g_number "Ground.number" = true)
    (km_g_number : PySem.W.keepIn K (.ref fm_g_number) = true)
    (atm_g_plus : PySem.W.findIn K (.ref Co1) "plus" = some (some (.ref fm_g_plus)))
    (fnm_g_plus : PySem.W.isFn K (.ref fm_g_plus) = true)
    (lm_g_plus : K.lookup fm_g_plus = some ⟨ocm_g_plus, odm_g_plus, .func (PySem.W.fnOf "plus" "Ground.plus" (defArgs s_g_plus) (defBody s_g_plus) (defScope s_g_plus) .none kVm_g_plus dcm_g_plus pmm_g_plus anm_g_plus cdm_g_plus ctm_g_plus), slm_g_plus⟩)
    (cm_g_plus : PySem.W.codeIn K cdm_g_plus "Ground.plus" = true)
    (km_g_plus : PySem.W.keepIn K (.ref fm_g_plus) = true)
    (atm_g_minus : PySem.W.findIn K (.ref Co1) "minus" = some (some (.ref fm_g_minus)))
    (fnm_g_minus : PySem.W.isFn K (.ref fm_g_minus) = true)
    (lm_g_minus : K.lookup fm_g_minus = some ⟨ocm_g_minus, odm_g_minus, .func (PySem.W.fnOf "minus" "Ground.minus" (defArgs s_g_minus) (defBody s_g_minus) (defScope s_g_minus) .none kVm_g_minus dcm_g_minus pmm_g_minus anm_g_minus cdm_g_minus ctm_g_minus), slm_g_minus⟩)
    (cm_g_minus : PySem.W.codeIn K cdm_g_minus "Ground.minus" = true)
    (km_g_minus : PySem.W.keepIn K (.ref fm_g_minus) = true)
    (atm_g_times : PySem.W.findIn K (.ref Co1) "times" = some (some (.ref fm_g_times)))
    (fnm_g_times : PySem.W.isFn K (.ref fm_g_times) = true)
    (lm_g_times : K.lookup fm_g_times = some ⟨ocm_g_times, odm_g_times, .func (PySem.W.fnOf "times" "Ground.times" (defArgs s_g_times) (defBody s_g_times) (defScope s_g_times) .none kVm_g_times dcm_g_times pmm_g_times anm_g_times cdm_g_times ctm_g_times), slm_g_times⟩)
    (cm_g_times : PySem.W.codeIn K cdm_g_times "Ground.times" = true)
    (km_g_times : PySem.W.keepIn K (.ref fm_g_times) = true)
    (atm_g_negative : PySem.W.findIn K (.ref Co1) "negative" = some (some (.ref fm_g_negative)))
    (fnm_g_negative : PySem.W.isFn K (.ref fm_g_negative) = true)
    (lm_g_negative : K.lookup fm_g_negative = some ⟨ocm_g_negative, odm_g_negative, .func (PySem.W.fnOf "negative" "Ground.negative" (defArgs s_g_negative) (defBody s_g_negative) (defScope s_g_negative) .none kVm_g_negative dcm_g_negative pmm_g_negative anm_g_negative cdm_g_negative ctm_g_negative), slm_g_negative⟩)
    (cm_g_negative : PySem.W.codeIn K cdm_g_negative "Ground.negative" = true)
    (km_g_negative : PySem.W.keepIn K (.ref fm_g_negative) = true)
    (atm_g_over : PySem.W.findIn K (.ref Co1) "over" = some (some (.ref fm_g_over)))
    (fnm_g_over : PySem.W.isFn K (.ref fm_g_over) = true)
    (lm_g_over : K.lookup fm_g_over = some ⟨ocm_g_over, odm_g_over, .func (PySem.W.fnOf "over" "Ground.over" (defArgs s_g_over) (defBody s_g_over) (defScope s_g_over) .none kVm_g_over dcm_g_over pmm_g_over anm_g_over cdm_g_over ctm_g_over), slm_g_over⟩)
    (cm_g_over : PySem.W.codeIn K cdm_g_over "Ground.over" = true)
    (km_g_over : PySem.W.keepIn K (.ref fm_g_over) = true)
    (atm_g_power : PySem.W.findIn K (.ref Co1) "power" = some (some (.ref fm_g_power)))
    (fnm_g_power : PySem.W.isFn K (.ref fm_g_power) = true)
    (lm_g_power : K.lookup fm_g_power = some ⟨ocm_g_power, odm_g_power, .func (PySem.W.fnOf "power" "Ground.power" (defArgs s_g_power) (defBody s_g_power) (defScope s_g_power) .none kVm_g_power dcm_g_power pmm_g_power anm_g_power cdm_g_power ctm_g_power), slm_g_power⟩)
    (cm_g_power : PySem.W.codeIn K cdm_g_power "Ground.power" = true)
    (km_g_power : PySem.W.keepIn K (.ref fm_g_power) = true)
    (atm_g_numbers : PySem.W.findIn K (.ref Co1) "numbers" = some (some (.ref fm_g_numbers)))
    (fnm_g_numbers : PySem.W.isFn K (.ref fm_g_numbers) = true)
    (lm_g_numbers : K.lookup fm_g_numbers = some ⟨ocm_g_numbers, odm_g_numbers, .func (PySem.W.fnOf "numbers" "Ground.numbers" (defArgs s_g_numbers) (defBody s_g_numbers) (defScope s_g_numbers) .none kVm_g_numbers dcm_g_numbers pmm_g_numbers anm_g_numbers cdm_g_numbers ctm_g_numbers), slm_g_numbers⟩)
    (cm_g_numbers : PySem.W.codeIn K cdm_g_numbers "Ground.numbers" = true)
    (km_g_numbers : PySem.W.keepIn K (.ref fm_g_numbers) = true)
    (atm_g_roots : PySem.W.findIn K (.ref Co1) "roots" = some (some (.ref fm_g_roots)))
    (fnm_g_roots : PySem.W.isFn K (.ref fm_g_roots) = true)
    (lm_g_roots : K.lookup fm_g_roots = some ⟨ocm_g_roots, odm_g_roots, .func (PySem.W.fnOf "roots" "Ground.roots" (defArgs s_g_roots) (defBody s_g_roots) (defScope s_g_roots) .none kVm_g_roots dcm_g_roots pmm_g_roots anm_g_roots cdm_g_roots ctm_g_roots), slm_g_roots⟩)
    (cm_g_roots : PySem.W.codeIn K cdm_g_roots "Ground.roots" = true)
    (km_g_roots : PySem.W.keepIn K (.ref fm_g_roots) = true)
    (atm_g_least : PySem.W.findIn K (.ref Co1) "least_root" = some (some (.ref fm_g_least)))
    (fnm_g_least : PySem.W.isFn K (.ref fm_g_least) = true)
    (lm_g_least : K.lookup fm_g_least = some ⟨ocm_g_least, odm_g_least, .func (PySem.W.fnOf "least_root" "Ground.least_root" (defArgs s_g_least) (defBody s_g_least) (defScope s_g_least) .none kVm_g_least dcm_g_least pmm_g_least anm_g_least cdm_g_least ctm_g_least), slm_g_least⟩)
    (cm_g_least : PySem.W.codeIn K cdm_g_least "Ground.least_root" = true)
    (km_g_least : PySem.W.keepIn K (.ref fm_g_least) = true)
    (daoAdd : PySem.W.findIn K (.ref Co0) (PySem.dunder "add") = some (some (.ref fm_f_add)))
    (dboAdd : PySem.W.findIn K (.ref Co0) (PySem.dunderR "add") = some (some (.ref fm_f_radd)))
    (dcoAdd : PySem.W.findIn K (.type "int") (PySem.dunder "add") = some iboAdd)
    (ddoAdd : PySem.W.findIn K (.type "int") (PySem.dunderR "add") = some iroAdd)
    (daoSub : PySem.W.findIn K (.ref Co0) (PySem.dunder "sub") = some (some (.ref fm_f_sub)))
    (dboSub : PySem.W.findIn K (.ref Co0) (PySem.dunderR "sub") = some (some (.ref fm_f_rsub)))
    (dcoSub : PySem.W.findIn K (.type "int") (PySem.dunder "sub") = some iboSub)
    (ddoSub : PySem.W.findIn K (.type "int") (PySem.dunderR "sub") = some iroSub)
    (daoMul : PySem.W.findIn K (.ref Co0) (PySem.dunder "mul") = some (some (.ref fm_f_mul)))
    (dboMul : PySem.W.findIn K (.ref Co0) (PySem.dunderR "mul") = some (some (.ref fm_f_rmul)))
    (dcoMul : PySem.W.findIn K (.type "int") (PySem.dunder "mul") = some iboMul)
    (ddoMul : PySem.W.findIn K (.type "int") (PySem.dunderR "mul") = some iroMul)
    (nefEq : PySem.W.findIn K (.ref Co0) "__ne__" = some (some (.builtin "object.__ne__")))
    (negEq : PySem.W.findIn K (.ref Co1) "__ne__" = some (some (.builtin "object.__ne__")))
    (a0 : PySem.W.nsIn K mainGlobals "ratio" = some (some (.ref f0)))
    (l0 : K.lookup f0 = some ⟨oc0, od0, .func (PySem.W.fnOf "ratio" "ratio" (defArgs s_ratio) (defBody s_ratio) (defScope s_ratio) .none kV0 dc0 pm0 an0 cd0 ct0), sl0⟩)
    (c0 : PySem.W.codeIn K cd0 "ratio" = true)
    (k0 : PySem.W.keepIn K (.ref f0) = true)
    (a1 : PySem.W.nsIn K mainGlobals "divided" = some (some (.ref f1)))
    (l1 : K.lookup f1 = some ⟨oc1, od1, .func (PySem.W.fnOf "divided" "divided" (defArgs s_divided) (defBody s_divided) (defScope s_divided) .none kV1 dc1 pm1 an1 cd1 ct1), sl1⟩)
    (c1 : PySem.W.codeIn K cd1 "divided" = true)
    (k1 : PySem.W.keepIn K (.ref f1) = true)
    (a2 : PySem.W.nsIn K mainGlobals "pieces" = some (some (.ref f2)))
    (l2 : K.lookup f2 = some ⟨oc2, od2, .func (PySem.W.fnOf "pieces" "pieces" (defArgs s_pieces) (defBody s_pieces) (defScope s_pieces) .none kV2 dc2 pm2 an2 cd2 ct2), sl2⟩)
    (c2 : PySem.W.codeIn K cd2 "pieces" = true)
    (k2 : PySem.W.keepIn K (.ref f2) = true)
    (a3 : PySem.W.nsIn K mainGlobals "number_text" = some (some (.ref f3)))
    (l3 : K.lookup f3 = some ⟨oc3, od3, .func (PySem.W.fnOf "number_text" "number_text" (defArgs s_number_text) (defBody s_number_text) (defScope s_number_text) .none kV3 dc3 pm3 an3 cd3 ct3), sl3⟩)
    (c3 : PySem.W.codeIn K cd3 "number_text" = true)
    (k3 : PySem.W.keepIn K (.ref f3) = true)
    (a4 : PySem.W.nsIn K mainGlobals "read_number" = some (some (.ref f4)))
    (l4 : K.lookup f4 = some ⟨oc4, od4, .func (PySem.W.fnOf "read_number" "read_number" (defArgs s_read_number) (defBody s_read_number) (defScope s_read_number) .none kV4 dc4 pm4 an4 cd4 ct4), sl4⟩)
    (c4 : PySem.W.codeIn K cd4 "read_number" = true)
    (k4 : PySem.W.keepIn K (.ref f4) = true)
    (a5 : PySem.W.nsIn K mainGlobals "is_count" = some (some (.ref f5)))
    (l5 : K.lookup f5 = some ⟨oc5, od5, .func (PySem.W.fnOf "is_count" "is_count" (defArgs s_is_count) (defBody s_is_count) (defScope s_is_count) .none kV5 dc5 pm5 an5 cd5 ct5), sl5⟩)
    (c5 : PySem.W.codeIn K cd5 "is_count" = true)
    (k5 : PySem.W.keepIn K (.ref f5) = true)
    (a6 : PySem.W.nsIn K mainGlobals "in_form" = some (some (.ref f6)))
    (l6 : K.lookup f6 = some ⟨oc6, od6, .func (PySem.W.fnOf "in_form" "in_form" (defArgs s_in_form) (defBody s_in_form) (defScope s_in_form) .none kV6 dc6 pm6 an6 cd6 ct6), sl6⟩)
    (c6 : PySem.W.codeIn K cd6 "in_form" = true)
    (k6 : PySem.W.keepIn K (.ref f6) = true)
    (a7 : PySem.W.nsIn K mainGlobals "plain_sum" = some (some (.ref f7)))
    (l7 : K.lookup f7 = some ⟨oc7, od7, .func (PySem.W.fnOf "plain_sum" "plain_sum" (defArgs s_plain_sum) (defBody s_plain_sum) (defScope s_plain_sum) .none kV7 dc7 pm7 an7 cd7 ct7), sl7⟩)
    (c7 : PySem.W.codeIn K cd7 "plain_sum" = true)
    (k7 : PySem.W.keepIn K (.ref f7) = true)
    (a8 : PySem.W.nsIn K mainGlobals "plain_times" = some (some (.ref f8)))
    (l8 : K.lookup f8 = some ⟨oc8, od8, .func (PySem.W.fnOf "plain_times" "plain_times" (defArgs s_plain_times) (defBody s_plain_times) (defScope s_plain_times) .none kV8 dc8 pm8 an8 cd8 ct8), sl8⟩)
    (c8 : PySem.W.codeIn K cd8 "plain_times" = true)
    (k8 : PySem.W.keepIn K (.ref f8) = true)
    (a9 : PySem.W.nsIn K mainGlobals "plain_over" = some (some (.ref f9)))
    (l9 : K.lookup f9 = some ⟨oc9, od9, .func (PySem.W.fnOf "plain_over" "plain_over" (defArgs s_plain_over) (defBody s_plain_over) (defScope s_plain_over) .none kV9 dc9 pm9 an9 cd9 ct9), sl9⟩)
    (c9 : PySem.W.codeIn K cd9 "plain_over" = true)
    (k9 : PySem.W.keepIn K (.ref f9) = true)
    (a10 : PySem.W.nsIn K mainGlobals "plain_power" = some (some (.ref f10)))
    (l10 : K.lookup f10 = some ⟨oc10, od10, .func (PySem.W.fnOf "plain_power" "plain_power" (defArgs s_plain_power) (defBody s_plain_power) (defScope s_plain_power) .none kV10 dc10 pm10 an10 cd10 ct10), sl10⟩)
    (c10 : PySem.W.codeIn K cd10 "plain_power" = true)
    (k10 : PySem.W.keepIn K (.ref f10) = true)
    (a11 : PySem.W.nsIn K mainGlobals "root_order" = some (some (.ref f11)))
    (l11 : K.lookup f11 = some ⟨oc11, od11, .func (PySem.W.fnOf "root_order" "root_order" (defArgs s_root_order) (defBody s_root_order) (defScope s_root_order) .none kV11 dc11 pm11 an11 cd11 ct11), sl11⟩)
    (c11 : PySem.W.codeIn K cd11 "root_order" = true)
    (k11 : PySem.W.keepIn K (.ref f11) = true)
    (a12 : PySem.W.nsIn K mainGlobals "_law_pool" = some (some (.ref f12)))
    (l12 : K.lookup f12 = some ⟨oc12, od12, .func (PySem.W.fnOf "_law_pool" "_law_pool" (defArgs s_pool) (defBody s_pool) (defScope s_pool) .none kV12 dc12 pm12 an12 cd12 ct12), sl12⟩)
    (c12 : PySem.W.codeIn K cd12 "_law_pool" = true)
    (k12 : PySem.W.keepIn K (.ref f12) = true)
    (a13 : PySem.W.nsIn K mainGlobals "_law_draw" = some (some (.ref f13)))
    (l13 : K.lookup f13 = some ⟨oc13, od13, .func (PySem.W.fnOf "_law_draw" "_law_draw" (defArgs s_draw) (defBody s_draw) (defScope s_draw) .none kV13 dc13 pm13 an13 cd13 ct13), sl13⟩)
    (c13 : PySem.W.codeIn K cd13 "_law_draw" = true)
    (k13 : PySem.W.keepIn K (.ref f13) = true)
    (a14 : PySem.W.nsIn K mainGlobals "_law_gcd" = some (some (.ref f14)))
    (l14 : K.lookup f14 = some ⟨oc14, od14, .func (PySem.W.fnOf "_law_gcd" "_law_gcd" (defArgs s_gcd) (defBody s_gcd) (defScope s_gcd) .none kV14 dc14 pm14 an14 cd14 ct14), sl14⟩)
    (c14 : PySem.W.codeIn K cd14 "_law_gcd" = true)
    (k14 : PySem.W.keepIn K (.ref f14) = true)
    (a15 : PySem.W.nsIn K mainGlobals "_law_low" = some (some (.ref f15)))
    (l15 : K.lookup f15 = some ⟨oc15, od15, .func (PySem.W.fnOf "_law_low" "_law_low" (defArgs s_low) (defBody s_low) (defScope s_low) .none kV15 dc15 pm15 an15 cd15 ct15), sl15⟩)
    (c15 : PySem.W.codeIn K cd15 "_law_low" = true)
    (k15 : PySem.W.keepIn K (.ref f15) = true)
    (a16 : PySem.W.nsIn K mainGlobals "_law_plus" = some (some (.ref f16)))
    (l16 : K.lookup f16 = some ⟨oc16, od16, .func (PySem.W.fnOf "_law_plus" "_law_plus" (defArgs s_plus) (defBody s_plus) (defScope s_plus) .none kV16 dc16 pm16 an16 cd16 ct16), sl16⟩)
    (c16 : PySem.W.codeIn K cd16 "_law_plus" = true)
    (k16 : PySem.W.keepIn K (.ref f16) = true)
    (a17 : PySem.W.nsIn K mainGlobals "_law_times" = some (some (.ref f17)))
    (l17 : K.lookup f17 = some ⟨oc17, od17, .func (PySem.W.fnOf "_law_times" "_law_times" (defArgs s_times) (defBody s_times) (defScope s_times) .none kV17 dc17 pm17 an17 cd17 ct17), sl17⟩)
    (c17 : PySem.W.codeIn K cd17 "_law_times" = true)
    (k17 : PySem.W.keepIn K (.ref f17) = true)
    (a18 : PySem.W.nsIn K mainGlobals "_law_int" = some (some (.ref f18)))
    (l18 : K.lookup f18 = some ⟨oc18, od18, .func (PySem.W.fnOf "_law_int" "_law_int" (defArgs s_int_) (defBody s_int_) (defScope s_int_) .none kV18 dc18 pm18 an18 cd18 ct18), sl18⟩)
    (c18 : PySem.W.codeIn K cd18 "_law_int" = true)
    (k18 : PySem.W.keepIn K (.ref f18) = true)
    (a19 : PySem.W.nsIn K mainGlobals "_law_is" = some (some (.ref f19)))
    (l19 : K.lookup f19 = some ⟨oc19, od19, .func (PySem.W.fnOf "_law_is" "_law_is" (defArgs s_is) (defBody s_is) (defScope s_is) .none kV19 dc19 pm19 an19 cd19 ct19), sl19⟩)
    (c19 : PySem.W.codeIn K cd19 "_law_is" = true)
    (k19 : PySem.W.keepIn K (.ref f19) = true)
    (a20 : PySem.W.nsIn K mainGlobals "_law_hand" = some (some (.ref f20)))
    (l20 : K.lookup f20 = some ⟨oc20, od20, .func (PySem.W.fnOf "_law_hand" "_law_hand" (defArgs s_hand) (defBody s_hand) (defScope s_hand) .none kV20 dc20 pm20 an20 cd20 ct20), sl20⟩)
    (c20 : PySem.W.codeIn K cd20 "_law_hand" = true)
    (k20 : PySem.W.keepIn K (.ref f20) = true)
    (a21 : PySem.W.nsIn K mainGlobals "_law_kept" = some (some (.ref f21)))
    (l21 : K.lookup f21 = some ⟨oc21, od21, .func (PySem.W.fnOf "_law_kept" "_law_kept" (defArgs s_kept) (defBody s_kept) (defScope s_kept) .none kV21 dc21 pm21 an21 cd21 ct21), sl21⟩)
    (c21 : PySem.W.codeIn K cd21 "_law_kept" = true)
    (k21 : PySem.W.keepIn K (.ref f21) = true)
    (a22 : PySem.W.nsIn K mainGlobals "_law_error" = some (some (.ref f22)))
    (l22 : K.lookup f22 = some ⟨oc22, od22, .func (PySem.W.fnOf "_law_error" "_law_error" (defArgs s_error) (defBody s_error) (defScope s_error) .none kV22 dc22 pm22 an22 cd22 ct22), sl22⟩)
    (c22 : PySem.W.codeIn K cd22 "_law_error" = true)
    (k22 : PySem.W.keepIn K (.ref f22) = true)
    (a23 : PySem.W.nsIn K mainGlobals "_law_ask" = some (some (.ref f23)))
    (l23 : K.lookup f23 = some ⟨oc23, od23, .func (PySem.W.fnOf "_law_ask" "_law_ask" (defArgs s_ask) (defBody s_ask) (defScope s_ask) .none kV23 dc23 pm23 an23 cd23 ct23), sl23⟩)
    (c23 : PySem.W.codeIn K cd23 "_law_ask" = true)
    (k23 : PySem.W.keepIn K (.ref f23) = true)
    (a24 : PySem.W.nsIn K mainGlobals "_law_ground" = some (some (.ref f24)))
    (l24 : K.lookup f24 = some ⟨oc24, od24, .func (PySem.W.fnOf "_law_ground" "_law_ground" (defArgs s_l_ground) (defBody s_l_ground) (defScope s_l_ground) .none kV24 dc24 pm24 an24 cd24 ct24), sl24⟩)
    (c24 : PySem.W.codeIn K cd24 "_law_ground" = true)
    (k24 : PySem.W.keepIn K (.ref f24) = true)
    (a25 : PySem.W.nsIn K mainGlobals "_law_whole" = some (some (.ref f25)))
    (l25 : K.lookup f25 = some ⟨oc25, od25, .func (PySem.W.fnOf "_law_whole" "_law_whole" (defArgs s_whole) (defBody s_whole) (defScope s_whole) .none kV25 dc25 pm25 an25 cd25 ct25), sl25⟩)
    (c25 : PySem.W.codeIn K cd25 "_law_whole" = true)
    (k25 : PySem.W.keepIn K (.ref f25) = true)
    (a26 : PySem.W.nsIn K mainGlobals "_law_numbers" = some (some (.ref f26)))
    (l26 : K.lookup f26 = some ⟨oc26, od26, .func (PySem.W.fnOf "_law_numbers" "_law_numbers" (defArgs s_l_numbers) (defBody s_l_numbers) (defScope s_l_numbers) .none kV26 dc26 pm26 an26 cd26 ct26), sl26⟩)
    (c26 : PySem.W.codeIn K cd26 "_law_numbers" = true)
    (k26 : PySem.W.keepIn K (.ref f26) = true)
    (a27 : PySem.W.nsIn K mainGlobals "_law_makes" = some (some (.ref f27)))
    (l27 : K.lookup f27 = some ⟨oc27, od27, .func (PySem.W.fnOf "_law_makes" "_law_makes" (defArgs s_makes) (defBody s_makes) (defScope s_makes) .none kV27 dc27 pm27 an27 cd27 ct27), sl27⟩)
    (c27 : PySem.W.codeIn K cd27 "_law_makes" = true)
    (k27 : PySem.W.keepIn K (.ref f27) = true)
    (a28 : PySem.W.nsIn K mainGlobals "_law_sums" = some (some (.ref f28)))
    (l28 : K.lookup f28 = some ⟨oc28, od28, .func (PySem.W.fnOf "_law_sums" "_law_sums" (defArgs s_sums) (defBody s_sums) (defScope s_sums) .none kV28 dc28 pm28 an28 cd28 ct28), sl28⟩)
    (c28 : PySem.W.codeIn K cd28 "_law_sums" = true)
    (k28 : PySem.W.keepIn K (.ref f28) = true)
    (a29 : PySem.W.nsIn K mainGlobals "_law_text" = some (some (.ref f29)))
    (l29 : K.lookup f29 = some ⟨oc29, od29, .func (PySem.W.fnOf "_law_text" "_law_text" (defArgs s_text) (defBody s_text) (defScope s_text) .none kV29 dc29 pm29 an29 cd29 ct29), sl29⟩)
    (c29 : PySem.W.codeIn K cd29 "_law_text" = true)
    (k29 : PySem.W.keepIn K (.ref f29) = true)
    (a30 : PySem.W.nsIn K mainGlobals "_law_tells" = some (some (.ref f30)))
    (l30 : K.lookup f30 = some ⟨oc30, od30, .func (PySem.W.fnOf "_law_tells" "_law_tells" (defArgs s_tells) (defBody s_tells) (defScope s_tells) .none kV30 dc30 pm30 an30 cd30 ct30), sl30⟩)
    (c30 : PySem.W.codeIn K cd30 "_law_tells" = true)
    (k30 : PySem.W.keepIn K (.ref f30) = true)
    (a31 : PySem.W.nsIn K mainGlobals "_law_digits" = some (some (.ref f31)))
    (l31 : K.lookup f31 = some ⟨oc31, od31, .func (PySem.W.fnOf "_law_digits" "_law_digits" (defArgs s_digits) (defBody s_digits) (defScope s_digits) .none kV31 dc31 pm31 an31 cd31 ct31), sl31⟩)
    (c31 : PySem.W.codeIn K cd31 "_law_digits" = true)
    (k31 : PySem.W.keepIn K (.ref f31) = true)
    (a32 : PySem.W.nsIn K mainGlobals "_law_parse" = some (some (.ref f32)))
    (l32 : K.lookup f32 = some ⟨oc32, od32, .func (PySem.W.fnOf "_law_parse" "_law_parse" (defArgs s_parse) (defBody s_parse) (defScope s_parse) .none kV32 dc32 pm32 an32 cd32 ct32), sl32⟩)
    (c32 : PySem.W.codeIn K cd32 "_law_parse" = true)
    (k32 : PySem.W.keepIn K (.ref f32) = true)
    (a33 : PySem.W.nsIn K mainGlobals "_law_spoiled" = some (some (.ref f33)))
    (l33 : K.lookup f33 = some ⟨oc33, od33, .func (PySem.W.fnOf "_law_spoiled" "_law_spoiled" (defArgs s_spoiled) (defBody s_spoiled) (defScope s_spoiled) .none kV33 dc33 pm33 an33 cd33 ct33), sl33⟩)
    (c33 : PySem.W.codeIn K cd33 "_law_spoiled" = true)
    (k33 : PySem.W.keepIn K (.ref f33) = true)
    (a34 : PySem.W.nsIn K mainGlobals "_law_texts" = some (some (.ref f34)))
    (l34 : K.lookup f34 = some ⟨oc34, od34, .func (PySem.W.fnOf "_law_texts" "_law_texts" (defArgs s_texts) (defBody s_texts) (defScope s_texts) .none kV34 dc34 pm34 an34 cd34 ct34), sl34⟩)
    (c34 : PySem.W.codeIn K cd34 "_law_texts" = true)
    (k34 : PySem.W.keepIn K (.ref f34) = true)
    (a35 : PySem.W.nsIn K mainGlobals "_law_field" = some (some (.ref f35)))
    (l35 : K.lookup f35 = some ⟨oc35, od35, .func (PySem.W.fnOf "_law_field" "_law_field" (defArgs s_field) (defBody s_field) (defScope s_field) .none kV35 dc35 pm35 an35 cd35 ct35), sl35⟩)
    (c35 : PySem.W.codeIn K cd35 "_law_field" = true)
    (k35 : PySem.W.keepIn K (.ref f35) = true)
    (a36 : PySem.W.nsIn K mainGlobals "_law_power" = some (some (.ref f36)))
    (l36 : K.lookup f36 = some ⟨oc36, od36, .func (PySem.W.fnOf "_law_power" "_law_power" (defArgs s_l_power) (defBody s_l_power) (defScope s_l_power) .none kV36 dc36 pm36 an36 cd36 ct36), sl36⟩)
    (c36 : PySem.W.codeIn K cd36 "_law_power" = true)
    (k36 : PySem.W.keepIn K (.ref f36) = true)
    (a37 : PySem.W.nsIn K mainGlobals "_law_powers" = some (some (.ref f37)))
    (l37 : K.lookup f37 = some ⟨oc37, od37, .func (PySem.W.fnOf "_law_powers" "_law_powers" (defArgs s_powers) (defBody s_powers) (defScope s_powers) .none kV37 dc37 pm37 an37 cd37 ct37), sl37⟩)
    (c37 : PySem.W.codeIn K cd37 "_law_powers" = true)
    (k37 : PySem.W.keepIn K (.ref f37) = true)
    (a38 : PySem.W.nsIn K mainGlobals "_law_ones" = some (some (.ref f38)))
    (l38 : K.lookup f38 = some ⟨oc38, od38, .func (PySem.W.fnOf "_law_ones" "_law_ones" (defArgs s_ones) (defBody s_ones) (defScope s_ones) .none kV38 dc38 pm38 an38 cd38 ct38), sl38⟩)
    (c38 : PySem.W.codeIn K cd38 "_law_ones" = true)
    (k38 : PySem.W.keepIn K (.ref f38) = true)
    (a39 : PySem.W.nsIn K mainGlobals "_law_least" = some (some (.ref f39)))
    (l39 : K.lookup f39 = some ⟨oc39, od39, .func (PySem.W.fnOf "_law_least" "_law_least" (defArgs s_least) (defBody s_least) (defScope s_least) .none kV39 dc39 pm39 an39 cd39 ct39), sl39⟩)
    (c39 : PySem.W.codeIn K cd39 "_law_least" = true)
    (k39 : PySem.W.keepIn K (.ref f39) = true)
    (a40 : PySem.W.nsIn K mainGlobals "_law_list" = some (some (.ref f40)))
    (l40 : K.lookup f40 = some ⟨oc40, od40, .func (PySem.W.fnOf "_law_list" "_law_list" (defArgs s_l_list) (defBody s_l_list) (defScope s_l_list) .none kV40 dc40 pm40 an40 cd40 ct40), sl40⟩)
    (c40 : PySem.W.codeIn K cd40 "_law_list" = true)
    (k40 : PySem.W.keepIn K (.ref f40) = true)
    (a41 : PySem.W.nsIn K mainGlobals "_law_roots" = some (some (.ref f41)))
    (l41 : K.lookup f41 = some ⟨oc41, od41, .func (PySem.W.fnOf "_law_roots" "_law_roots" (defArgs s_l_roots) (defBody s_l_roots) (defScope s_l_roots) .none kV41 dc41 pm41 an41 cd41 ct41), sl41⟩)
    (c41 : PySem.W.codeIn K cd41 "_law_roots" = true)
    (k41 : PySem.W.keepIn K (.ref f41) = true)
    (a42 : PySem.W.nsIn K mainGlobals "_law_grounds" = some (some (.ref f42)))
    (l42 : K.lookup f42 = some ⟨oc42, od42, .func (PySem.W.fnOf "_law_grounds" "_law_grounds" (defArgs s_grounds) (defBody s_grounds) (defScope s_grounds) .none kV42 dc42 pm42 an42 cd42 ct42), sl42⟩)
    (c42 : PySem.W.codeIn K cd42 "_law_grounds" = true)
    (k42 : PySem.W.keepIn K (.ref f42) = true)
    (a43 : PySem.W.nsIn K mainGlobals "_law_count" = some (some (.ref f43)))
    (l43 : K.lookup f43 = some ⟨oc43, od43, .func (PySem.W.fnOf "_law_count" "_law_count" (defArgs s_count) (defBody s_count) (defScope s_count) .none kV43 dc43 pm43 an43 cd43 ct43), sl43⟩)
    (c43 : PySem.W.codeIn K cd43 "_law_count" = true)
    (k43 : PySem.W.keepIn K (.ref f43) = true)
    (a44 : PySem.W.nsIn K mainGlobals "law" = some (some (.ref f44)))
    (l44 : K.lookup f44 = some ⟨oc44, od44, .func (PySem.W.fnOf "law" "law" (defArgs s_law) (defBody s_law) (defScope s_law) .none kV44 dc44 pm44 an44 cd44 ct44), sl44⟩)
    (c44 : PySem.W.codeIn K cd44 "law" = true)
    (k44 : PySem.W.keepIn K (.ref f44) = true)
    (gPRIMES : PySem.W.nsIn K mainGlobals "PRIMES" = some (some (.ref TPPRIMES)))
    (lPRIMES : K.lookup TPPRIMES = some ⟨.type "tuple", pdPRIMES, .seq #[.int 2 ptPRIMES0, .int 3 ptPRIMES1, .int 5 ptPRIMES2, .int 7 ptPRIMES3, .int 11 ptPRIMES4, .int 13 ptPRIMES5, .int 17 ptPRIMES6, .int 19 ptPRIMES7, .int 23 ptPRIMES8, .int 29 ptPRIMES9, .int 31 ptPRIMES10] pnPRIMES, psPRIMES⟩)
    (v_MOST_FACTORS : PySem.W.nsIn K mainGlobals "MOST_FACTORS" = some (some (.int 100 t_MOST_FACTORS)))
    (v_MOST_DIGITS : PySem.W.nsIn K mainGlobals "MOST_DIGITS" = some (some (.int 30 t_MOST_DIGITS)))
    (v_DIGITS : PySem.W.nsIn K mainGlobals "DIGITS" = some (some (.str "0123456789" t_DIGITS)))
    (b_gcd : PySem.W.nsIn K mainGlobals "gcd" = some (some (.builtin "math.gcd")))
    (z_len : PySem.W.nsIn K mainGlobals "len" = some none)
    (z_range : PySem.W.nsIn K mainGlobals "range" = some none)
    (z_int : PySem.W.nsIn K mainGlobals "int" = some none)
    (z_bool : PySem.W.nsIn K mainGlobals "bool" = some none)
    (z_list : PySem.W.nsIn K mainGlobals "list" = some none)
    (z_tuple : PySem.W.nsIn K mainGlobals "tuple" = some none)
    (z_sum : PySem.W.nsIn K mainGlobals "sum" = some none)
    (z_all : PySem.W.nsIn K mainGlobals "all" = some none)
    (z_min : PySem.W.nsIn K mainGlobals "min" = some none)
    (z_isinstance : PySem.W.nsIn K mainGlobals "isinstance" = some none)
    (z_ValueError : PySem.W.nsIn K mainGlobals "ValueError" = some none)
    (z_str : PySem.W.nsIn K mainGlobals "str" = some none)
    (z_abs : PySem.W.nsIn K mainGlobals "abs" = some none) :
    ∃ fd : FuncData, (∀ (s : Shared) (v : Value), BindsTo s fd ⟨[v], []⟩ [("script", v)]) ∧ ∀ base : Heap, K.In base → base.Ns mainGlobals mg → FnOk l.prog w K mg base CX0 24 fa fd ["script"] (sp_law K) := by
  have e := hfa.symm.trans (PySem.W.mg_of X G a44)
  cases e
  let T : Tx K mg := {
    cForms := ⟨CycForms, PySem.W.mg_of X G gycForms⟩,
    cDiv := ⟨Ce0, PySem.W.mg_of X G ge0, qe0, kce0, exe0, tye0, ⟨ise0, gae0, gge0, exe0, hde0, cle0, spG, tkG, moe0⟩⟩,
    cWhole := ⟨Ce1, fe1, _, PySem.W.mg_of X G ge1, ⟨⟨_, _, _, _, _, _, _, _, _, _, _, _, _, _, _, xLe1, xve1⟩, sae1, exe1, tye1, kce1⟩, ⟨ise1, gae1, gge1, exe1, hde1, cle1, spG, tkG, moe1⟩, iCe1, tIe1, (fun_mk (st := i_whole) le1 ce1 ke1), ((fun_mk (st := i_whole) le1 ce1 ke1).binds (ps := ["self", "integer"]) fun _ _ _ _ _ _ us hl => match us, hl with | [_, _], _ => rfl)⟩,
    cText := ⟨Ce2, fe2, _, PySem.W.mg_of X G ge2, ⟨⟨_, _, _, _, _, _, _, _, _, _, _, _, _, _, _, xLe2, xve2⟩, sae2, exe2, tye2, kce2⟩, ⟨ise2, gae2, gge2, exe2, hde2, cle2, spG, tkG, moe2⟩, iCe2, tIe2, (fun_mk (st := i_text) le2 ce2 ke2), ((fun_mk (st := i_text) le2 ce2 ke2).binds (ps := ["self", "text"]) fun _ _ _ _ _ _ us hl => match us, hl with | [_, _], _ => rfl)⟩,
    cPrime := ⟨Ce3, fe3, _, PySem.W.mg_of X G ge3, ⟨⟨_, _, _, _, _, _, _, _, _, _, _, _, _, _, _, xLe3, xve3⟩, sae3, exe3, tye3, kce3⟩, ⟨ise3, gae3, gge3, exe3, hde3, cle3, spG, tkG, moe3⟩, iCe3, tIe3, (fun_mk (st := i_prime) le3 ce3 ke3), ((fun_mk (st := i_prime) le3 ce3 ke3).binds (ps := ["self", "prime"]) fun _ _ _ _ _ _ us hl => match us, hl with | [_, _], _ => rfl)⟩,
    cCount := ⟨Ce4, fe4, _, PySem.W.mg_of X G ge4, ⟨⟨_, _, _, _, _, _, _, _, _, _, _, _, _, _, _, xLe4, xve4⟩, sae4, exe4, tye4, kce4⟩, ⟨ise4, gae4, gge4, exe4, hde4, cle4, spG, tkG, moe4⟩, iCe4, tIe4, (fun_mk (st := i_count) le4 ce4 ke4), ((fun_mk (st := i_count) le4 ce4 ke4).binds (ps := ["self", "count"]) fun _ _ _ _ _ _ us hl => match us, hl with | [_, _], _ => rfl)⟩,
    cWrong := ⟨Ce5, fe5, _, PySem.W.mg_of X G ge5, ⟨⟨_, _, _, _, _, _, _, _, _, _, _, _, _, _, _, xLe5, xve5⟩, sae5, exe5, tye5, kce5⟩, ⟨ise5, gae5, gge5, exe5, hde5, cle5, spG, tkG, moe5⟩, iCe5, tIe5, (fun_mk (st := i_wrong) le5 ce5 ke5), ((fun_mk (st := i_wrong) le5 ce5 ke5).binds (ps := ["self", "prime"]) fun _ _ _ _ _ _ us hl => match us, hl with | [_, _], _ => rfl)⟩,
    frac := ⟨Co0, PySem.W.mg_of X G go0, ⟨pgo0, hdo0, poo0, sao0⟩, ⟨sfo0, i1o0, i2o0, s1o0, obo0⟩, clo0, spG, tkG, moo0⟩,
    ground := ⟨Co1, PySem.W.mg_of X G go1, ⟨pgo1, hdo1, poo1, sao1⟩, ⟨sfo1, i1o1, i2o1, s1o1, obo1⟩, clo1, spG, tkG, moo1⟩,
    fld := fun D hD n hf => by
      simp only [List.mem_cons, List.not_mem_nil, or_false] at hD hf
      rcases hD with rfl | rfl | rfl | rfl | rfl | rfl <;> rcases hf with rfl | rfl | rfl | rfl
      · exact nf_cDiv_integer
      · exact nf_cDiv_prime
      · exact nf_cDiv_count
      · exact nf_cDiv_text
      · exact nf_cWhole_integer
      · exact nf_cWhole_prime
      · exact nf_cWhole_count
      · exact nf_cWhole_text
      · exact nf_cText_integer
      · exact nf_cText_prime
      · exact nf_cText_count
      · exact nf_cText_text
      · exact nf_cPrime_integer
      · exact nf_cPrime_prime
      · exact nf_cPrime_count
      · exact nf_cPrime_text
      · exact nf_cCount_integer
      · exact nf_cCount_prime
      · exact nf_cCount_count
      · exact nf_cCount_text
      · exact nf_cWrong_integer
      · exact nf_cWrong_prime
      · exact nf_cWrong_count
      · exact nf_cWrong_text,
    exm := fun D hD => by
      simp only [List.mem_cons, List.not_mem_nil, or_false] at hD
      rcases hD with rfl | rfl | rfl | rfl | rfl | rfl
      · exact xm_cDiv
      · exact xm_cWhole
      · exact xm_cText
      · exact xm_cPrime
      · exact xm_cCount
      · exact xm_cWrong,
    kDiv := (Kits.cons kt_kDiv_0 (Kits.cons kt_kDiv_1 (Kits.cons kt_kDiv_2 (Kits.cons kt_kDiv_3 (Kits.cons kt_kDiv_4 (Kits.cons kt_kDiv_5 (Kits.cons kt_kDiv_6 Kits.nil))))))),
    kWhole := (Kits.cons kt_kWhole_0 (Kits.cons kt_kWhole_1 (Kits.cons kt_kWhole_2 (Kits.cons kt_kWhole_3 (Kits.cons kt_kWhole_4 (Kits.cons kt_kWhole_5 (Kits.cons kt_kWhole_6 Kits.nil))))))),
    kText := (Kits.cons kt_kText_0 (Kits.cons kt_kText_1 (Kits.cons kt_kText_2 (Kits.cons kt_kText_3 (Kits.cons kt_kText_4 (Kits.cons kt_kText_5 (Kits.cons kt_kText_6 Kits.nil))))))),
    kPrime := (Kits.cons kt_kPrime_0 (Kits.cons kt_kPrime_1 (Kits.cons kt_kPrime_2 (Kits.cons kt_kPrime_3 (Kits.cons kt_kPrime_4 (Kits.cons kt_kPrime_5 (Kits.cons kt_kPrime_6 Kits.nil))))))),
    kCount := (Kits.cons kt_kCount_0 (Kits.cons kt_kCount_1 (Kits.cons kt_kCount_2 (Kits.cons kt_kCount_3 (Kits.cons kt_kCount_4 (Kits.cons kt_kCount_5 (Kits.cons kt_kCount_6 Kits.nil))))))),
    kWrong := (Kits.cons kt_kWrong_0 (Kits.cons kt_kWrong_1 (Kits.cons kt_kWrong_2 (Kits.cons kt_kWrong_3 (Kits.cons kt_kWrong_4 (Kits.cons kt_kWrong_5 (Kits.cons kt_kWrong_6 Kits.nil))))))),
    noWhole := nf_cWhole_integer,
    noText := nf_cText_text,
    noPrime := nf_cPrime_prime,
    noCount := nf_cCount_count,
    noWrong := nf_cWrong_prime,
    nNum := na_nNum,
    nDen := na_nDen,
    nPrime := na_nPrime,
    f_init := ⟨fm_f_init, _, (fun_mk (st := s_f_init) lm_f_init cm_f_init km_f_init), ⟨atm_f_init, fnm_f_init, km_f_init⟩, ((fun_mk (st := s_f_init) lm_f_init cm_f_init km_f_init).binds (ps := ["self", "num", "den"]) fun _ _ _ _ _ _ us hl => match us, hl with | [_, _, _], _ => rfl)⟩,
    f_add := ⟨fm_f_add, _, (fun_mk (st := s_f_add) lm_f_add cm_f_add km_f_add), ⟨atm_f_add, fnm_f_add, km_f_add⟩, ((fun_mk (st := s_f_add) lm_f_add cm_f_add km_f_add).binds (ps := ["self", "other"]) fun _ _ _ _ _ _ us hl => match us, hl with | [_, _], _ => rfl)⟩,
    f_radd := ⟨fm_f_radd, _, (fun_mk (st := s_f_radd) lm_f_radd cm_f_radd km_f_radd), ⟨atm_f_radd, fnm_f_radd, km_f_radd⟩, ((fun_mk (st := s_f_radd) lm_f_radd cm_f_radd km_f_radd).binds (ps := ["self", "other"]) fun _ _ _ _ _ _ us hl => match us, hl with | [_, _], _ => rfl)⟩,
    f_sub := ⟨fm_f_sub, _, (fun_mk (st := s_f_sub) lm_f_sub cm_f_sub km_f_sub), ⟨atm_f_sub, fnm_f_sub, km_f_sub⟩, ((fun_mk (st := s_f_sub) lm_f_sub cm_f_sub km_f_sub).binds (ps := ["self", "other"]) fun _ _ _ _ _ _ us hl => match us, hl with | [_, _], _ => rfl)⟩,
    f_rsub := ⟨fm_f_rsub, _, (fun_mk (st := s_f_rsub) lm_f_rsub cm_f_rsub km_f_rsub), ⟨atm_f_rsub, fnm_f_rsub, km_f_rsub⟩, ((fun_mk (st := s_f_rsub) lm_f_rsub cm_f_rsub km_f_rsub).binds (ps := ["self", "other"]) fun _ _ _ _ _ _ us hl => match us, hl with | [_, _], _ => rfl)⟩,
    f_mul := ⟨fm_f_mul, _, (fun_mk (st := s_f_mul) lm_f_mul cm_f_mul km_f_mul), ⟨atm_f_mul, fnm_f_mul, km_f_mul⟩, ((fun_mk (st := s_f_mul) lm_f_mul cm_f_mul km_f_mul).binds (ps := ["self", "other"]) fun _ _ _ _ _ _ us hl => match us, hl with | [_, _], _ => rfl)⟩,
    f_rmul := ⟨fm_f_rmul, _, (fun_mk (st := s_f_rmul) lm_f_rmul cm_f_rmul km_f_rmul), ⟨atm_f_rmul, fnm_f_rmul, km_f_rmul⟩, ((fun_mk (st := s_f_rmul) lm_f_rmul cm_f_rmul km_f_rmul).binds (ps := ["self", "other"]) fun _ _ _ _ _ _ us hl => match us, hl with | [_, _], _ => rfl)⟩,
    f_neg := ⟨fm_f_neg, _, (fun_mk (st := s_f_neg) lm_f_neg cm_f_neg km_f_neg), ⟨atm_f_neg, fnm_f_neg, km_f_neg⟩, ((fun_mk (st := s_f_neg) lm_f_neg cm_f_neg km_f_neg).binds (ps := ["self"]) fun _ _ _ _ _ _ us hl => match us, hl with | [_], _ => rfl)⟩,
    f_eq := ⟨fm_f_eq, _, (fun_mk (st := s_f_eq) lm_f_eq cm_f_eq km_f_eq), ⟨atm_f_eq, fnm_f_eq, km_f_eq⟩, ((fun_mk (st := s_f_eq) lm_f_eq cm_f_eq km_f_eq).binds (ps := ["self", "other"]) fun _ _ _ _ _ _ us hl => match us, hl with | [_, _], _ => rfl)⟩,
    f_str := ⟨fm_f_str, _, (fun_mk (st := s_f_str) lm_f_str cm_f_str km_f_str), ⟨atm_f_str, fnm_f_str, km_f_str⟩, ((fun_mk (st := s_f_str) lm_f_str cm_f_str km_f_str).binds (ps := ["self"]) fun _ _ _ _ _ _ us hl => match us, hl with | [_], _ => rfl)⟩,
    g_init := ⟨fm_g_init, _, (fund_mk (st := s_g_init) lm_g_init cm_g_init km_g_init lTm_g_init), ⟨atm_g_init, fnm_g_init, km_g_init⟩, b1_mk (fund_mk (st := s_g_init) lm_g_init cm_g_init km_g_init lTm_g_init) fun _ _ _ _ _ _ _ us its hu hi => match us, its, hu, hi with | [_, _], [_], _, _ => ⟨_, rfl, rfl⟩, FunD.binds1 (ps := ["self", "prime"]) (fund_mk (st := s_g_init) lm_g_init cm_g_init km_g_init lTm_g_init) 1 0 (fun z => nomatch z) rfl fun _ _ _ _ _ _ _ us its hu hi => match us, its, hu, hi with | [_], [_], _, _ => ⟨_, rfl, rfl⟩⟩,
    g_eq := ⟨fm_g_eq, _, (fun_mk (st := s_g_eq) lm_g_eq cm_g_eq km_g_eq), ⟨atm_g_eq, fnm_g_eq, km_g_eq⟩, ((fun_mk (st := s_g_eq) lm_g_eq cm_g_eq km_g_eq).binds (ps := ["self", "other"]) fun _ _ _ _ _ _ us hl => match us, hl with | [_, _], _ => rfl)⟩,
    g_number := ⟨fm_g_number, _, (fun_mk (st := s_g_number) lm_g_number cm_g_number km_g_number), ⟨atm_g_number, fnm_g_number, km_g_number⟩, ((fun_mk (st := s_g_number) lm_g_number cm_g_number km_g_number).binds (ps := ["self", "value"]) fun _ _ _ _ _ _ us hl => match us, hl with | [_, _], _ => rfl)⟩,
    g_plus := ⟨fm_g_plus, _, (fun_mk (st := s_g_plus) lm_g_plus cm_g_plus km_g_plus), ⟨atm_g_plus, fnm_g_plus, km_g_plus⟩, ((fun_mk (st := s_g_plus) lm_g_plus cm_g_plus km_g_plus).binds (ps := ["self", "first", "second"]) fun _ _ _ _ _ _ us hl => match us, hl with | [_, _, _], _ => rfl)⟩,
    g_minus := ⟨fm_g_minus, _, (fun_mk (st := s_g_minus) lm_g_minus cm_g_minus km_g_minus), ⟨atm_g_minus, fnm_g_minus, km_g_minus⟩, ((fun_mk (st := s_g_minus) lm_g_minus cm_g_minus km_g_minus).binds (ps := ["self", "first", "second"]) fun _ _ _ _ _ _ us hl => match us, hl with | [_, _, _], _ => rfl)⟩,
    g_times := ⟨fm_g_times, _, (fun_mk (st := s_g_times) lm_g_times cm_g_times km_g_times), ⟨atm_g_times, fnm_g_times, km_g_times⟩, ((fun_mk (st := s_g_times) lm_g_times cm_g_times km_g_times).binds (ps := ["self", "first", "second"]) fun _ _ _ _ _ _ us hl => match us, hl with | [_, _, _], _ => rfl)⟩,
    g_negative := ⟨fm_g_negative, _, (fun_mk (st := s_g_negative) lm_g_negative cm_g_negative km_g_negative), ⟨atm_g_negative, fnm_g_negative, km_g_negative⟩, ((fun_mk (st := s_g_negative) lm_g_negative cm_g_negative km_g_negative).binds (ps := ["self", "number"]) fun _ _ _ _ _ _ us hl => match us, hl with | [_, _], _ => rfl)⟩,
    g_over := ⟨fm_g_over, _, (fun_mk (st := s_g_over) lm_g_over cm_g_over km_g_over), ⟨atm_g_over, fnm_g_over, km_g_over⟩, ((fun_mk (st := s_g_over) lm_g_over cm_g_over km_g_over).binds (ps := ["self", "first", "second"]) fun _ _ _ _ _ _ us hl => match us, hl with | [_, _, _], _ => rfl)⟩,
    g_power := ⟨fm_g_power, _, (fun_mk (st := s_g_power) lm_g_power cm_g_power km_g_power), ⟨atm_g_power, fnm_g_power, km_g_power⟩, ((fun_mk (st := s_g_power) lm_g_power cm_g_power km_g_power).binds (ps := ["self", "number", "count"]) fun _ _ _ _ _ _ us hl => match us, hl with | [_, _, _], _ => rfl)⟩,
    g_numbers := ⟨fm_g_numbers, _, (fun_mk (st := s_g_numbers) lm_g_numbers cm_g_numbers km_g_numbers), ⟨atm_g_numbers, fnm_g_numbers, km_g_numbers⟩, ((fun_mk (st := s_g_numbers) lm_g_numbers cm_g_numbers km_g_numbers).binds (ps := ["self"]) fun _ _ _ _ _ _ us hl => match us, hl with | [_], _ => rfl)⟩,
    g_roots := ⟨fm_g_roots, _, (fun_mk (st := s_g_roots) lm_g_roots cm_g_roots km_g_roots), ⟨atm_g_roots, fnm_g_roots, km_g_roots⟩, ((fun_mk (st := s_g_roots) lm_g_roots cm_g_roots km_g_roots).binds (ps := ["self", "count"]) fun _ _ _ _ _ _ us hl => match us, hl with | [_, _], _ => rfl)⟩,
    g_least := ⟨fm_g_least, _, (fun_mk (st := s_g_least) lm_g_least cm_g_least km_g_least), ⟨atm_g_least, fnm_g_least, km_g_least⟩, ((fun_mk (st := s_g_least) lm_g_least cm_g_least km_g_least).binds (ps := ["self", "count"]) fun _ _ _ _ _ _ us hl => match us, hl with | [_, _], _ => rfl)⟩,
    fracMk := ⟨mko0, atm_f_init, fnm_f_init, kco0⟩,
    groundMk := ⟨mko1, atm_g_init, fnm_g_init, kco1⟩,
    oAdd := ⟨daoAdd, fnm_f_add, dboAdd, fnm_f_radd, ⟨_, dcoAdd⟩, ⟨_, ddoAdd⟩⟩,
    oSub := ⟨daoSub, fnm_f_sub, dboSub, fnm_f_rsub, ⟨_, dcoSub⟩, ⟨_, ddoSub⟩⟩,
    oMul := ⟨daoMul, fnm_f_mul, dboMul, fnm_f_rmul, ⟨_, dcoMul⟩, ⟨_, ddoMul⟩⟩,
    fEq := ⟨atm_f_eq, fnm_f_eq, nefEq⟩,
    gEq := ⟨atm_g_eq, fnm_g_eq, negEq⟩,
    kIF := kit_bo iso0 tyo0 i1o0,
    kSF := kit_bo iso0 tyo0 s1o0,
    kFI := kit_bi (by decide +kernel) i2o0,
    kIG := kit_bo iso1 tyo1 i1o1,
    kFF := kit_eq,
    kGG := kit_eq,
    ratio := ⟨f0, _, (fun_mk (st := s_ratio) l0 c0 k0), PySem.W.mg_of X G a0, ((fun_mk (st := s_ratio) l0 c0 k0).binds (ps := ["num", "den"]) fun _ _ _ _ _ _ us hl => match us, hl with | [_, _], _ => rfl)⟩,
    divided := ⟨f1, _, (fun_mk (st := s_divided) l1 c1 k1), PySem.W.mg_of X G a1, ((fun_mk (st := s_divided) l1 c1 k1).binds (ps := ["first", "second"]) fun _ _ _ _ _ _ us hl => match us, hl with | [_, _], _ => rfl)⟩,
    pieces := ⟨f2, _, (fun_mk (st := s_pieces) l2 c2 k2), PySem.W.mg_of X G a2, ((fun_mk (st := s_pieces) l2 c2 k2).binds (ps := ["number"]) fun _ _ _ _ _ _ us hl => match us, hl with | [_], _ => rfl)⟩,
    number_text := ⟨f3, _, (fun_mk (st := s_number_text) l3 c3 k3), PySem.W.mg_of X G a3, ((fun_mk (st := s_number_text) l3 c3 k3).binds (ps := ["number"]) fun _ _ _ _ _ _ us hl => match us, hl with | [_], _ => rfl)⟩,
    read_number := ⟨f4, _, (fun_mk (st := s_read_number) l4 c4 k4), PySem.W.mg_of X G a4, ((fun_mk (st := s_read_number) l4 c4 k4).binds (ps := ["text"]) fun _ _ _ _ _ _ us hl => match us, hl with | [_], _ => rfl)⟩,
    is_count := ⟨f5, _, (fun_mk (st := s_is_count) l5 c5 k5), PySem.W.mg_of X G a5, ((fun_mk (st := s_is_count) l5 c5 k5).binds (ps := ["word"]) fun _ _ _ _ _ _ us hl => match us, hl with | [_], _ => rfl)⟩,
    in_form := ⟨f6, _, (fun_mk (st := s_in_form) l6 c6 k6), PySem.W.mg_of X G a6, ((fun_mk (st := s_in_form) l6 c6 k6).binds (ps := ["prime", "value"]) fun _ _ _ _ _ _ us hl => match us, hl with | [_, _], _ => rfl)⟩,
    plain_sum := ⟨f7, _, (fun_mk (st := s_plain_sum) l7 c7 k7), PySem.W.mg_of X G a7, ((fun_mk (st := s_plain_sum) l7 c7 k7).binds (ps := ["prime", "first", "second"]) fun _ _ _ _ _ _ us hl => match us, hl with | [_, _, _], _ => rfl)⟩,
    plain_times := ⟨f8, _, (fun_mk (st := s_plain_times) l8 c8 k8), PySem.W.mg_of X G a8, ((fun_mk (st := s_plain_times) l8 c8 k8).binds (ps := ["prime", "first", "second"]) fun _ _ _ _ _ _ us hl => match us, hl with | [_, _, _], _ => rfl)⟩,
    plain_over := ⟨f9, _, (fun_mk (st := s_plain_over) l9 c9 k9), PySem.W.mg_of X G a9, ((fun_mk (st := s_plain_over) l9 c9 k9).binds (ps := ["prime", "first", "second"]) fun _ _ _ _ _ _ us hl => match us, hl with | [_, _, _], _ => rfl)⟩,
    plain_power := ⟨f10, _, (fun_mk (st := s_plain_power) l10 c10 k10), PySem.W.mg_of X G a10, ((fun_mk (st := s_plain_power) l10 c10 k10).binds (ps := ["prime", "number", "count"]) fun _ _ _ _ _ _ us hl => match us, hl with | [_, _, _], _ => rfl)⟩,
    root_order := ⟨f11, _, (fun_mk (st := s_root_order) l11 c11 k11), PySem.W.mg_of X G a11, ((fun_mk (st := s_root_order) l11 c11 k11).binds (ps := ["prime", "number", "most"]) fun _ _ _ _ _ _ us hl => match us, hl with | [_, _, _], _ => rfl)⟩,
    pool := ⟨f12, _, (fun_mk (st := s_pool) l12 c12 k12), PySem.W.mg_of X G a12, ((fun_mk (st := s_pool) l12 c12 k12).binds (ps := ["script"]) fun _ _ _ _ _ _ us hl => match us, hl with | [_], _ => rfl)⟩,
    draw := ⟨f13, _, (fun_mk (st := s_draw) l13 c13 k13), PySem.W.mg_of X G a13, ((fun_mk (st := s_draw) l13 c13 k13).binds (ps := ["pool", "many"]) fun _ _ _ _ _ _ us hl => match us, hl with | [_, _], _ => rfl)⟩,
    gcd := ⟨f14, _, (fun_mk (st := s_gcd) l14 c14 k14), PySem.W.mg_of X G a14, ((fun_mk (st := s_gcd) l14 c14 k14).binds (ps := ["a", "b"]) fun _ _ _ _ _ _ us hl => match us, hl with | [_, _], _ => rfl)⟩,
    low := ⟨f15, _, (fun_mk (st := s_low) l15 c15 k15), PySem.W.mg_of X G a15, ((fun_mk (st := s_low) l15 c15 k15).binds (ps := ["prime", "num", "den"]) fun _ _ _ _ _ _ us hl => match us, hl with | [_, _, _], _ => rfl)⟩,
    plus := ⟨f16, _, (fun_mk (st := s_plus) l16 c16 k16), PySem.W.mg_of X G a16, ((fun_mk (st := s_plus) l16 c16 k16).binds (ps := ["prime", "a", "b"]) fun _ _ _ _ _ _ us hl => match us, hl with | [_, _, _], _ => rfl)⟩,
    times := ⟨f17, _, (fun_mk (st := s_times) l17 c17 k17), PySem.W.mg_of X G a17, ((fun_mk (st := s_times) l17 c17 k17).binds (ps := ["prime", "a", "b"]) fun _ _ _ _ _ _ us hl => match us, hl with | [_, _, _], _ => rfl)⟩,
    int_ := ⟨f18, _, (fun_mk (st := s_int_) l18 c18 k18), PySem.W.mg_of X G a18, ((fun_mk (st := s_int_) l18 c18 k18).binds (ps := ["told"]) fun _ _ _ _ _ _ us hl => match us, hl with | [_], _ => rfl)⟩,
    is := ⟨f19, _, (fun_mk (st := s_is) l19 c19 k19), PySem.W.mg_of X G a19, ((fun_mk (st := s_is) l19 c19 k19).binds (ps := ["told", "pair"]) fun _ _ _ _ _ _ us hl => match us, hl with | [_, _], _ => rfl)⟩,
    hand := ⟨f20, _, (fun_mk (st := s_hand) l20 c20 k20), PySem.W.mg_of X G a20, ((fun_mk (st := s_hand) l20 c20 k20).binds (ps := ["pair"]) fun _ _ _ _ _ _ us hl => match us, hl with | [_], _ => rfl)⟩,
    kept := ⟨f21, _, (fun_mk (st := s_kept) l21 c21 k21), PySem.W.mg_of X G a21, ((fun_mk (st := s_kept) l21 c21 k21).binds (ps := ["name", "number"]) fun _ _ _ _ _ _ us hl => match us, hl with | [_, _], _ => rfl)⟩,
    error := ⟨f22, _, (fun_mk (st := s_error) l22 c22 k22), PySem.W.mg_of X G a22, ((fun_mk (st := s_error) l22 c22 k22).binds (ps := ["e"]) fun _ _ _ _ _ _ us hl => match us, hl with | [_], _ => rfl)⟩,
    ask := ⟨f23, _, (fun_mk (st := s_ask) l23 c23 k23), PySem.W.mg_of X G a23, ((fun_mk (st := s_ask) l23 c23 k23).binds (ps := ["mode", "first", "second"]) fun _ _ _ _ _ _ us hl => match us, hl with | [_, _, _], _ => rfl)⟩,
    l_ground := ⟨f24, _, (fun_mk (st := s_l_ground) l24 c24 k24), PySem.W.mg_of X G a24, ((fun_mk (st := s_l_ground) l24 c24 k24).binds (ps := ["mode", "ground", "first", "second"]) fun _ _ _ _ _ _ us hl => match us, hl with | [_, _, _, _], _ => rfl)⟩,
    whole := ⟨f25, _, (fun_mk (st := s_whole) l25 c25 k25), PySem.W.mg_of X G a25, ((fun_mk (st := s_whole) l25 c25 k25).binds (ps := ["pool"]) fun _ _ _ _ _ _ us hl => match us, hl with | [_], _ => rfl)⟩,
    l_numbers := ⟨f26, _, (fun_mk (st := s_l_numbers) l26 c26 k26), PySem.W.mg_of X G a26, ((fun_mk (st := s_l_numbers) l26 c26 k26).binds (ps := ["pool"]) fun _ _ _ _ _ _ us hl => match us, hl with | [_], _ => rfl)⟩,
    makes := ⟨f27, _, (fun_mk (st := s_makes) l27 c27 k27), PySem.W.mg_of X G a27, ((fun_mk (st := s_makes) l27 c27 k27).binds (ps := ["num", "den"]) fun _ _ _ _ _ _ us hl => match us, hl with | [_, _], _ => rfl)⟩,
    sums := ⟨f28, _, (fun_mk (st := s_sums) l28 c28 k28), PySem.W.mg_of X G a28, ((fun_mk (st := s_sums) l28 c28 k28).binds (ps := ["one", "two"]) fun _ _ _ _ _ _ us hl => match us, hl with | [_, _], _ => rfl)⟩,
    text := ⟨f29, _, (fun_mk (st := s_text) l29 c29 k29), PySem.W.mg_of X G a29, ((fun_mk (st := s_text) l29 c29 k29).binds (ps := ["pair"]) fun _ _ _ _ _ _ us hl => match us, hl with | [_], _ => rfl)⟩,
    tells := ⟨f30, _, (fun_mk (st := s_tells) l30 c30 k30), PySem.W.mg_of X G a30, ((fun_mk (st := s_tells) l30 c30 k30).binds (ps := ["one", "two"]) fun _ _ _ _ _ _ us hl => match us, hl with | [_, _], _ => rfl)⟩,
    digits := ⟨f31, _, (fun_mk (st := s_digits) l31 c31 k31), PySem.W.mg_of X G a31, ((fun_mk (st := s_digits) l31 c31 k31).binds (ps := ["text"]) fun _ _ _ _ _ _ us hl => match us, hl with | [_], _ => rfl)⟩,
    parse := ⟨f32, _, (fun_mk (st := s_parse) l32 c32 k32), PySem.W.mg_of X G a32, ((fun_mk (st := s_parse) l32 c32 k32).binds (ps := ["text"]) fun _ _ _ _ _ _ us hl => match us, hl with | [_], _ => rfl)⟩,
    spoiled := ⟨f33, _, (fun_mk (st := s_spoiled) l33 c33 k33), PySem.W.mg_of X G a33, ((fun_mk (st := s_spoiled) l33 c33 k33).binds (ps := ["pool", "text"]) fun _ _ _ _ _ _ us hl => match us, hl with | [_, _], _ => rfl)⟩,
    texts := ⟨f34, _, (fun_mk (st := s_texts) l34 c34 k34), PySem.W.mg_of X G a34, ((fun_mk (st := s_texts) l34 c34 k34).binds (ps := ["pool", "one", "two"]) fun _ _ _ _ _ _ us hl => match us, hl with | [_, _, _], _ => rfl)⟩,
    field := ⟨f35, _, (fun_mk (st := s_field) l35 c35 k35), PySem.W.mg_of X G a35, ((fun_mk (st := s_field) l35 c35 k35).binds (ps := ["prime", "a", "b", "one", "two"]) fun _ _ _ _ _ _ us hl => match us, hl with | [_, _, _, _, _], _ => rfl)⟩,
    l_power := ⟨f36, _, (fun_mk (st := s_l_power) l36 c36 k36), PySem.W.mg_of X G a36, ((fun_mk (st := s_l_power) l36 c36 k36).binds (ps := ["prime", "pair", "count"]) fun _ _ _ _ _ _ us hl => match us, hl with | [_, _, _], _ => rfl)⟩,
    powers := ⟨f37, _, (fun_mk (st := s_powers) l37 c37 k37), PySem.W.mg_of X G a37, ((fun_mk (st := s_powers) l37 c37 k37).binds (ps := ["prime", "pair", "count"]) fun _ _ _ _ _ _ us hl => match us, hl with | [_, _, _], _ => rfl)⟩,
    ones := ⟨f38, _, (fun_mk (st := s_ones) l38 c38 k38), PySem.W.mg_of X G a38, ((fun_mk (st := s_ones) l38 c38 k38).binds (ps := ["prime", "count"]) fun _ _ _ _ _ _ us hl => match us, hl with | [_, _], _ => rfl)⟩,
    least := ⟨f39, _, (fun_mk (st := s_least) l39 c39 k39), PySem.W.mg_of X G a39, ((fun_mk (st := s_least) l39 c39 k39).binds (ps := ["prime", "count"]) fun _ _ _ _ _ _ us hl => match us, hl with | [_, _], _ => rfl)⟩,
    l_list := ⟨f40, _, (fun_mk (st := s_l_list) l40 c40 k40), PySem.W.mg_of X G a40, ((fun_mk (st := s_l_list) l40 c40 k40).binds (ps := ["answer", "due"]) fun _ _ _ _ _ _ us hl => match us, hl with | [_, _], _ => rfl)⟩,
    l_roots := ⟨f41, _, (fun_mk (st := s_l_roots) l41 c41 k41), PySem.W.mg_of X G a41, ((fun_mk (st := s_l_roots) l41 c41 k41).binds (ps := ["prime", "count"]) fun _ _ _ _ _ _ us hl => match us, hl with | [_, _], _ => rfl)⟩,
    grounds := ⟨f42, _, (fun_mk (st := s_grounds) l42 c42 k42), PySem.W.mg_of X G a42, ((fun_mk (st := s_grounds) l42 c42 k42).binds (ps := ["pool", "prime"]) fun _ _ _ _ _ _ us hl => match us, hl with | [_, _], _ => rfl)⟩,
    count := ⟨f43, _, (fun_mk (st := s_count) l43 c43 k43), PySem.W.mg_of X G a43, ((fun_mk (st := s_count) l43 c43 k43).binds (ps := ["pool"]) fun _ _ _ _ _ _ us hl => match us, hl with | [_], _ => rfl)⟩,
    PRIMES := ⟨TPPRIMES, PySem.W.mg_of X G gPRIMES, fun H => .inr ⟨_, _, _, lPRIMES, rfl, rfl, (show (11 : Nat) ≤ sizeLine from by decide), (.cons ⟨_, rfl⟩ (.cons ⟨_, rfl⟩ (.cons ⟨_, rfl⟩ (.cons ⟨_, rfl⟩ (.cons ⟨_, rfl⟩ (.cons ⟨_, rfl⟩ (.cons ⟨_, rfl⟩ (.cons ⟨_, rfl⟩ (.cons ⟨_, rfl⟩ (.cons ⟨_, rfl⟩ (.cons ⟨_, rfl⟩ .nil)))))))))))⟩⟩,
    c_MOST_FACTORS := ⟨t_MOST_FACTORS, PySem.W.mg_of X G v_MOST_FACTORS⟩,
    c_MOST_DIGITS := ⟨t_MOST_DIGITS, PySem.W.mg_of X G v_MOST_DIGITS⟩,
    c_DIGITS := ⟨t_DIGITS, PySem.W.mg_of X G v_DIGITS⟩,
    c_gcd := PySem.W.mg_of X G b_gcd,
    z_len := PySem.W.mg_none_of X G z_len,
    z_range := PySem.W.mg_none_of X G z_range,
    z_int := PySem.W.mg_none_of X G z_int,
    z_bool := PySem.W.mg_none_of X G z_bool,
    z_list := PySem.W.mg_none_of X G z_list,
    z_tuple := PySem.W.mg_none_of X G z_tuple,
    z_sum := PySem.W.mg_none_of X G z_sum,
    z_all := PySem.W.mg_none_of X G z_all,
    z_min := PySem.W.mg_none_of X G z_min,
    z_isinstance := PySem.W.mg_none_of X G z_isinstance,
    z_ValueError := PySem.W.mg_none_of X G z_ValueError,
    z_str := PySem.W.mg_none_of X G z_str,
    z_abs := PySem.W.mg_none_of X G z_abs
  }
  exact ⟨PySem.W.fnOf "law" "law" (defArgs s_law) (defBody s_law) (defScope s_law) .none kV44 dc44 pm44 an44 cd44 ct44, fun s v => .of_eq rfl, fun base _ _ => ok_law T (fun_mk (st := s_law) l44 c44 k44)⟩
theorem walk {l : PySem.W.OpenLaw} {q : Program} {loose : List Str} {XP : (Str → Option Value) → Heap → Prop} {YP : World → Heap → Prop} {d : DefRec} {K : Params → PySem.W.Frag} (hn : l.most = some 63) (hdf : d.params.defaults = [])
    (hY : ∀ (w : World) (h : Heap), YP w h → (K w.params).In h)
    (F : ∀ (w : World) (mg : Str → Option Value) (fa : Addr) (h : Heap), (K w.params).In h → h.Ns mainGlobals mg → mg d.name = some (.ref fa) →
      ∃ fd : FuncData, (∀ (s : Shared) (u : Value), BindsTo s fd ⟨[u], []⟩ [("script", u)]) ∧ ∀ base : Heap, (K w.params).In base → base.Ns mainGlobals mg → FnOk l.prog w (K w.params) mg base CX0 24 fa fd ["script"] (sp_law (K w.params))) :
    PySem.W.WalkO q loose XP YP l.row.toRowW d [] (fun f vs => PySem.call f vs) :=
  L2.walk_of (n := 63) (k := 24) (x := "script") (CX := fun _ => CX0) (sp := fun w => sp_law (K w.params)) hn (by decide) hdf ⟨rfl, by decide, by decide⟩ hY F (fun _ _ a ns hl _ hS => ⟨a, ns, rfl, hS, hl, fun _ => rfl⟩) fun _ _ _ _ _ z => z
end K01

open PySem PySem.W PyProof.Rows in
set_option maxRecDepth 100000 in
set_option maxHeartbeats 0 in
theorem PySem.Challenge.cw_unmovedforms_k01_numbers_are_exact_holds : PySem.Challenge.rw_unmovedforms_k01_numbers_are_exact.Holds := by
  w_on; o_law; k_head; (case hw => w_witness2)
  k_fill
  refine K01.walk (l := PySem.Challenge.rw_unmovedforms_k01_numbers_are_exact) rfl rfl (fun w h Y => PySem.W.kIn_of Y) ?F
  case F =>
    intro w mg fa h KX G hmg
    refine' K01.all_mk KX G hmg ?spG ?tkG ?gycForms ?ge0 ?gae0 ?gge0 ?exe0 ?tye0 ?kce0 ?hde0 ?ise0 ?cle0 ?moe0 ?qe0 ?ge1 ?gae1 ?gge1 ?exe1 ?tye1 ?kce1 ?hde1 ?ise1 ?cle1 ?moe1 ?xLe1 ?xve1 ?sae1 ?iCe1 ?tIe1 ?le1 ?ce1 ?ke1 ?ge2 ?gae2 ?gge2 ?exe2 ?tye2 ?kce2 ?hde2 ?ise2 ?cle2 ?moe2 ?xLe2 ?xve2 ?sae2 ?iCe2 ?tIe2 ?le2 ?ce2 ?ke2 ?ge3 ?gae3 ?gge3 ?exe3 ?tye3 ?kce3 ?hde3 ?ise3 ?cle3 ?moe3 ?xLe3 ?xve3 ?sae3 ?iCe3 ?tIe3 ?le3 ?ce3 ?ke3 ?ge4 ?gae4 ?gge4 ?exe4 ?tye4 ?kce4 ?hde4 ?ise4 ?cle4 ?moe4 ?xLe4 ?xve4 ?sae4 ?iCe4 ?tIe4 ?le4 ?ce4 ?ke4 ?ge5 ?gae5 ?gge5 ?exe5 ?tye5 ?kce5 ?hde5 ?ise5 ?cle5 ?moe5 ?xLe5 ?xve5 ?sae5 ?iCe5 ?tIe5 ?le5 ?ce5 ?ke5 ?go0 ?pgo0 ?hdo0 ?poo0 ?sao0 ?sfo0 ?i1o0 ?i2o0 ?s1o0 ?obo0 ?clo0 ?moo0 ?iso0 ?tyo0 ?mko0 ?kco0 ?go1 ?pgo1 ?hdo1 ?poo1 ?sao1 ?sfo1 ?i1o1 ?i2o1 ?s1o1 ?obo1 ?clo1 ?moo1 ?iso1 ?tyo1 ?mko1 ?kco1 ?nf_cDiv_integer ?nf_cDiv_prime ?nf_cDiv_count ?nf_cDiv_text ?nf_cWhole_integer ?nf_cWhole_prime ?nf_cWhole_count ?nf_cWhole_text ?nf_cText_integer ?nf_cText_prime ?nf_cText_count ?nf_cText_text ?nf_cPrime_integer ?nf_cPrime_prime ?nf_cPrime_count ?nf_cPrime_text ?nf_cCount_integer ?nf_cCount_prime ?nf_cCount_count ?nf_cCount_text ?nf_cWrong_integer ?nf_cWrong_prime ?nf_cWrong_count ?nf_cWrong_text ?xm_cDiv ?xm_cWhole ?xm_cText ?xm_cPrime ?xm_cCount ?xm_cWrong ?kt_kDiv_0 ?kt_kDiv_1 ?kt_kDiv_2 ?kt_kDiv_3 ?kt_kDiv_4 ?kt_kDiv_5 ?kt_kDiv_6 ?kt_kWhole_0 ?kt_kWhole_1 ?kt_kWhole_2 ?kt_kWhole_3 ?kt_kWhole_4 ?kt_kWhole_5 ?kt_kWhole_6 ?kt_kText_0 ?kt_kText_1 ?kt_kText_2 ?kt_kText_3 ?kt_kText_4 ?kt_kText_5 ?kt_kText_6 ?kt_kPrime_0 ?kt_kPrime_1 ?kt_kPrime_2 ?kt_kPrime_3 ?kt_kPrime_4 ?kt_kPrime_5 ?kt_kPrime_6 ?kt_kCount_0 ?kt_kCount_1 ?kt_kCount_2 ?kt_kCount_3 ?kt_kCount_4 ?kt_kCount_5 ?kt_kCount_6 ?kt_kWrong_0 ?kt_kWrong_1 ?kt_kWrong_2 ?kt_kWrong_3 ?kt_kWrong_4 ?kt_kWrong_5 ?kt_kWrong_6 ?na_nNum ?na_nDen ?na_nPrime ?atm_f_init ?fnm_f_init ?lm_f_init ?cm_f_init ?km_f_init ?atm_f_add ?fnm_f_add ?lm_f_add ?cm_f_add ?km_f_add ?atm_f_radd ?fnm_f_radd ?lm_f_radd ?cm_f_radd ?km_f_radd ?atm_f_sub ?fnm_f_sub ?lm_f_sub ?cm_f_sub ?km_f_sub ?atm_f_rsub ?fnm_f_rsub ?lm_f_rsub ?cm_f_rsub ?km_f_rsub ?atm_f_mul ?fnm_f_mul ?lm_f_mul ?cm_f_mul ?km_f_mul ?atm_f_rmul ?fnm_f_rmul ?lm_f_rmul ?cm_f_rmul ?km_f_rmul ?atm_f_neg ?fnm_f_neg ?lm_f_neg ?cm_f_neg ?km_f_neg ?atm_f_eq ?fnm_f_eq ?lm_f_eq ?cm_f_eq ?km_f_eq ?atm_f_str ?fnm_f_str ?lm_f_str ?cm_f_str ?km_f_str ?atm_g_init ?fnm_g_init ?lm_g_init ?cm_g_init ?km_g_init ?lTm_g_init ?atm_g_eq ?fnm_g_eq ?lm_g_eq ?cm_g_eq ?km_g_eq ?atm_g_number ?fnm_g_number ?lm_g_number ?cm_g_number ?km_g_number ?atm_g_plus ?fnm_g_plus ?lm_g_plus ?cm_g_plus ?km_g_plus ?atm_g_minus ?fnm_g_minus ?lm_g_minus ?cm_g_minus ?km_g_minus ?atm_g_times ?fnm_g_times ?lm_g_times ?cm_g_times ?km_g_times ?atm_g_negative ?fnm_g_negative ?lm_g_negative ?cm_g_negative ?km_g_negative ?atm_g_over ?fnm_g_over ?lm_g_over ?cm_g_over ?km_g_over ?atm_g_power ?fnm_g_power ?lm_g_power ?cm_g_power ?km_g_power ?atm_g_numbers ?fnm_g_numbers ?lm_g_numbers ?cm_g_numbers ?km_g_numbers ?atm_g_roots ?fnm_g_roots ?lm_g_roots ?cm_g_roots ?km_g_roots ?atm_g_least ?fnm_g_least ?lm_g_least ?cm_g_least ?km_g_least ?daoAdd ?dboAdd ?dcoAdd ?ddoAdd ?daoSub ?dboSub ?dcoSub ?ddoSub ?daoMul ?dboMul ?dcoMul ?ddoMul ?nefEq ?negEq ?a0 ?l0 ?c0 ?k0 ?a1 ?l1 ?c1 ?k1 ?a2 ?l2 ?c2 ?k2 ?a3 ?l3 ?c3 ?k3 ?a4 ?l4 ?c4 ?k4 ?a5 ?l5 ?c5 ?k5 ?a6 ?l6 ?c6 ?k6 ?a7 ?l7 ?c7 ?k7 ?a8 ?l8 ?c8 ?k8 ?a9 ?l9 ?c9 ?k9 ?a10 ?l10 ?c10 ?k10 ?a11 ?l11 ?c11 ?k11 ?a12 ?l12 ?c12 ?k12 ?a13 ?l13 ?c13 ?k13 ?a14 ?l14 ?c14 ?k14 ?a15 ?l15 ?c15 ?k15 ?a16 ?l16 ?c16 ?k16 ?a17 ?l17 ?c17 ?k17 ?a18 ?l18 ?c18 ?k18 ?a19 ?l19 ?c19 ?k19 ?a20 ?l20 ?c20 ?k20 ?a21 ?l21 ?c21 ?k21 ?a22 ?l22 ?c22 ?k22 ?a23 ?l23 ?c23 ?k23 ?a24 ?l24 ?c24 ?k24 ?a25 ?l25 ?c25 ?k25 ?a26 ?l26 ?c26 ?k26 ?a27 ?l27 ?c27 ?k27 ?a28 ?l28 ?c28 ?k28 ?a29 ?l29 ?c29 ?k29 ?a30 ?l30 ?c30 ?k30 ?a31 ?l31 ?c31 ?k31 ?a32 ?l32 ?c32 ?k32 ?a33 ?l33 ?c33 ?k33 ?a34 ?l34 ?c34 ?k34 ?a35 ?l35 ?c35 ?k35 ?a36 ?l36 ?c36 ?k36 ?a37 ?l37 ?c37 ?k37 ?a38 ?l38 ?c38 ?k38 ?a39 ?l39 ?c39 ?k39 ?a40 ?l40 ?c40 ?k40 ?a41 ?l41 ?c41 ?k41 ?a42 ?l42 ?c42 ?k42 ?a43 ?l43 ?c43 ?k43 ?a44 ?l44 ?c44 ?k44 ?gPRIMES ?lPRIMES ?v_MOST_FACTORS ?v_MOST_DIGITS ?v_DIGITS ?b_gcd ?z_len ?z_range ?z_int ?z_bool ?z_list ?z_tuple ?z_sum ?z_all ?z_min ?z_isinstance ?z_ValueError ?z_str ?z_abs
    (case spG => k_is)
    (case tkG => k_is)
    (case gycForms => k_is)
    (case ge0 => k_is)
    (case gae0 => k_is)
    (case gge0 => k_is)
    (case exe0 => k_is)
    (case tye0 => k_is)
    (case kce0 => k_is)
    (case hde0 => k_is)
    (case ise0 => k_is)
    (case cle0 => k_is)
    (case moe0 => k_is)
    (case qe0 => k_exc)
    (case ge1 => k_is)
    (case gae1 => k_is)
    (case gge1 => k_is)
    (case exe1 => k_is)
    (case tye1 => k_is)
    (case kce1 => k_is)
    (case hde1 => k_is)
    (case ise1 => k_is)
    (case cle1 => k_is)
    (case moe1 => k_is)
    (case xLe1 => k_is)
    (case xve1 => rfl)
    (case sae1 => k_is)
    (case iCe1 => k_is)
    (case tIe1 => k_is)
    (case le1 => k_is)
    (case ce1 => k_is)
    (case ke1 => k_is)
    (case ge2 => k_is)
    (case gae2 => k_is)
    (case gge2 => k_is)
    (case exe2 => k_is)
    (case tye2 => k_is)
    (case kce2 => k_is)
    (case hde2 => k_is)
    (case ise2 => k_is)
    (case cle2 => k_is)
    (case moe2 => k_is)
    (case xLe2 => k_is)
    (case xve2 => rfl)
    (case sae2 => k_is)
    (case iCe2 => k_is)
    (case tIe2 => k_is)
    (case le2 => k_is)
    (case ce2 => k_is)
    (case ke2 => k_is)
    (case ge3 => k_is)
    (case gae3 => k_is)
    (case gge3 => k_is)
    (case exe3 => k_is)
    (case tye3 => k_is)
    (case kce3 => k_is)
    (case hde3 => k_is)
    (case ise3 => k_is)
    (case cle3 => k_is)
    (case moe3 => k_is)
    (case xLe3 => k_is)
    (case xve3 => rfl)
    (case sae3 => k_is)
    (case iCe3 => k_is)
    (case tIe3 => k_is)
    (case le3 => k_is)
    (case ce3 => k_is)
    (case ke3 => k_is)
    (case ge4 => k_is)
    (case gae4 => k_is)
    (case gge4 => k_is)
    (case exe4 => k_is)
    (case tye4 => k_is)
    (case kce4 => k_is)
    (case hde4 => k_is)
    (case ise4 => k_is)
    (case cle4 => k_is)
    (case moe4 => k_is)
    (case xLe4 => k_is)
    (case xve4 => rfl)
    (case sae4 => k_is)
    (case iCe4 => k_is)
    (case tIe4 => k_is)
    (case le4 => k_is)
    (case ce4 => k_is)
    (case ke4 => k_is)
    (case ge5 => k_is)
    (case gae5 => k_is)
    (case gge5 => k_is)
    (case exe5 => k_is)
    (case tye5 => k_is)
    (case kce5 => k_is)
    (case hde5 => k_is)
    (case ise5 => k_is)
    (case cle5 => k_is)
    (case moe5 => k_is)
    (case xLe5 => k_is)
    (case xve5 => rfl)
    (case sae5 => k_is)
    (case iCe5 => k_is)
    (case tIe5 => k_is)
    (case le5 => k_is)
    (case ce5 => k_is)
    (case ke5 => k_is)
    (case go0 => k_is)
    (case pgo0 => k_is)
    (case hdo0 => k_is)
    (case poo0 => k_is)
    (case sao0 => k_is)
    (case sfo0 => k_is)
    (case i1o0 => k_is)
    (case i2o0 => k_is)
    (case s1o0 => k_is)
    (case obo0 => k_is)
    (case clo0 => k_is)
    (case moo0 => k_is)
    (case iso0 => k_is)
    (case tyo0 => k_is)
    (case mko0 => k_is)
    (case kco0 => k_is)
    (case go1 => k_is)
    (case pgo1 => k_is)
    (case hdo1 => k_is)
    (case poo1 => k_is)
    (case sao1 => k_is)
    (case sfo1 => k_is)
    (case i1o1 => k_is)
    (case i2o1 => k_is)
    (case s1o1 => k_is)
    (case obo1 => k_is)
    (case clo1 => k_is)
    (case moo1 => k_is)
    (case iso1 => k_is)
    (case tyo1 => k_is)
    (case mko1 => k_is)
    (case kco1 => k_is)
    (case nf_cDiv_integer => k_is)
    (case nf_cDiv_prime => k_is)
    (case nf_cDiv_count => k_is)
    (case nf_cDiv_text => k_is)
    (case nf_cWhole_integer => k_is)
    (case nf_cWhole_prime => k_is)
    (case nf_cWhole_count => k_is)
    (case nf_cWhole_text => k_is)
    (case nf_cText_integer => k_is)
    (case nf_cText_prime => k_is)
    (case nf_cText_count => k_is)
    (case nf_cText_text => k_is)
    (case nf_cPrime_integer => k_is)
    (case nf_cPrime_prime => k_is)
    (case nf_cPrime_count => k_is)
    (case nf_cPrime_text => k_is)
    (case nf_cCount_integer => k_is)
    (case nf_cCount_prime => k_is)
    (case nf_cCount_count => k_is)
    (case nf_cCount_text => k_is)
    (case nf_cWrong_integer => k_is)
    (case nf_cWrong_prime => k_is)
    (case nf_cWrong_count => k_is)
    (case nf_cWrong_text => k_is)
    (case xm_cDiv => exact K01.exm_cl (by k_is) (by k_is) (by k_is) (by k_is))
    (case xm_cWhole => exact K01.exm_cl (by k_is) (by k_is) (by k_is) (by k_is))
    (case xm_cText => exact K01.exm_cl (by k_is) (by k_is) (by k_is) (by k_is))
    (case xm_cPrime => exact K01.exm_cl (by k_is) (by k_is) (by k_is) (by k_is))
    (case xm_cCount => exact K01.exm_cl (by k_is) (by k_is) (by k_is) (by k_is))
    (case xm_cWrong => exact K01.exm_cl (by k_is) (by k_is) (by k_is) (by k_is))
    (case kt_kDiv_0 => exact K01.kit_eq)
    (case kt_kDiv_1 => exact K01.kit_ne (by k_is) (by k_is) (by k_is) (by first | rfl | k_is))
    (case kt_kDiv_2 => exact K01.kit_ne (by k_is) (by k_is) (by k_is) (by first | rfl | k_is))
    (case kt_kDiv_3 => exact K01.kit_ne (by k_is) (by k_is) (by k_is) (by first | rfl | k_is))
    (case kt_kDiv_4 => exact K01.kit_ne (by k_is) (by k_is) (by k_is) (by first | rfl | k_is))
    (case kt_kDiv_5 => exact K01.kit_ne (by k_is) (by k_is) (by k_is) (by first | rfl | k_is))
    (case kt_kDiv_6 => exact K01.kit_bi (by decide +kernel) (by k_is))
    (case kt_kWhole_0 => exact K01.kit_ne (by k_is) (by k_is) (by k_is) (by first | rfl | k_is))
    (case kt_kWhole_1 => exact K01.kit_eq)
    (case kt_kWhole_2 => exact K01.kit_ne (by k_is) (by k_is) (by k_is) (by first | rfl | k_is))
    (case kt_kWhole_3 => exact K01.kit_ne (by k_is) (by k_is) (by k_is) (by first | rfl | k_is))
    (case kt_kWhole_4 => exact K01.kit_ne (by k_is) (by k_is) (by k_is) (by first | rfl | k_is))
    (case kt_kWhole_5 => exact K01.kit_ne (by k_is) (by k_is) (by k_is) (by first | rfl | k_is))
    (case kt_kWhole_6 => exact K01.kit_bi (by decide +kernel) (by k_is))
    (case kt_kText_0 => exact K01.kit_ne (by k_is) (by k_is) (by k_is) (by first | rfl | k_is))
    (case kt_kText_1 => exact K01.kit_ne (by k_is) (by k_is) (by k_is) (by first | rfl | k_is))
    (case kt_kText_2 => exact K01.kit_eq)
    (case kt_kText_3 => exact K01.kit_ne (by k_is) (by k_is) (by k_is) (by first | rfl | k_is))
    (case kt_kText_4 => exact K01.kit_ne (by k_is) (by k_is) (by k_is) (by first | rfl | k_is))
    (case kt_kText_5 => exact K01.kit_ne (by k_is) (by k_is) (by k_is) (by first | rfl | k_is))
    (case kt_kText_6 => exact K01.kit_bi (by decide +kernel) (by k_is))
    (case kt_kPrime_0 => exact K01.kit_ne (by k_is) (by k_is) (by k_is) (by first | rfl | k_is))
    (case kt_kPrime_1 => exact K01.kit_ne (by k_is) (by k_is) (by k_is) (by first | rfl | k_is))
    (case kt_kPrime_2 => exact K01.kit_ne (by k_is) (by k_is) (by k_is) (by first | rfl | k_is))
    (case kt_kPrime_3 => exact K01.kit_eq)
    (case kt_kPrime_4 => exact K01.kit_ne (by k_is) (by k_is) (by k_is) (by first | rfl | k_is))
    (case kt_kPrime_5 => exact K01.kit_ne (by k_is) (by k_is) (by k_is) (by first | rfl | k_is))
    (case kt_kPrime_6 => exact K01.kit_bi (by decide +kernel) (by k_is))
    (case kt_kCount_0 => exact K01.kit_ne (by k_is) (by k_is) (by k_is) (by first | rfl | k_is))
    (case kt_kCount_1 => exact K01.kit_ne (by k_is) (by k_is) (by k_is) (by first | rfl | k_is))
    (case kt_kCount_2 => exact K01.kit_ne (by k_is) (by k_is) (by k_is) (by first | rfl | k_is))
    (case kt_kCount_3 => exact K01.kit_ne (by k_is) (by k_is) (by k_is) (by first | rfl | k_is))
    (case kt_kCount_4 => exact K01.kit_eq)
    (case kt_kCount_5 => exact K01.kit_ne (by k_is) (by k_is) (by k_is) (by first | rfl | k_is))
    (case kt_kCount_6 => exact K01.kit_bi (by decide +kernel) (by k_is))
    (case kt_kWrong_0 => exact K01.kit_ne (by k_is) (by k_is) (by k_is) (by first | rfl | k_is))
    (case kt_kWrong_1 => exact K01.kit_ne (by k_is) (by k_is) (by k_is) (by first | rfl | k_is))
    (case kt_kWrong_2 => exact K01.kit_ne (by k_is) (by k_is) (by k_is) (by first | rfl | k_is))
    (case kt_kWrong_3 => exact K01.kit_ne (by k_is) (by k_is) (by k_is) (by first | rfl | k_is))
    (case kt_kWrong_4 => exact K01.kit_ne (by k_is) (by k_is) (by k_is) (by first | rfl | k_is))
    (case kt_kWrong_5 => exact K01.kit_eq)
    (case kt_kWrong_6 => exact K01.kit_bi (by decide +kernel) (by k_is))
    (case na_nNum => k_is)
    (case na_nDen => k_is)
    (case na_nPrime => k_is)
    (case atm_f_init => k_is)
    (case fnm_f_init => k_is)
    (case lm_f_init => k_is)
    (case cm_f_init => k_is)
    (case km_f_init => k_is)
    (case atm_f_add => k_is)
    (case fnm_f_add => k_is)
    (case lm_f_add => k_is)
    (case cm_f_add => k_is)
    (case km_f_add => k_is)
    (case atm_f_radd => k_is)
    (case fnm_f_radd => k_is)
    (case lm_f_radd => k_is)
    (case cm_f_radd => k_is)
    (case km_f_radd => k_is)
    (case atm_f_sub => k_is)
    (case fnm_f_sub => k_is)
    (case lm_f_sub => k_is)
    (case cm_f_sub => k_is)
    (case km_f_sub => k_is)
    (case atm_f_rsub => k_is)
    (case fnm_f_rsub => k_is)
    (case lm_f_rsub => k_is)
    (case cm_f_rsub => k_is)
    (case km_f_rsub => k_is)
    (case atm_f_mul => k_is)
    (case fnm_f_mul => k_is)
    (case lm_f_mul => k_is)
    (case cm_f_mul => k_is)
    (case km_f_mul => k_is)
    (case atm_f_rmul => k_is)
    (case fnm_f_rmul => k_is)
    (case lm_f_rmul => k_is)
    (case cm_f_rmul => k_is)
    (case km_f_rmul => k_is)
    (case atm_f_neg => k_is)
    (case fnm_f_neg => k_is)
    (case lm_f_neg => k_is)
    (case cm_f_neg => k_is)
    (case km_f_neg => k_is)
    (case atm_f_eq => k_is)
    (case fnm_f_eq => k_is)
    (case lm_f_eq => k_is)
    (case cm_f_eq => k_is)
    (case km_f_eq => k_is)
    (case atm_f_str => k_is)
    (case fnm_f_str => k_is)
    (case lm_f_str => k_is)
    (case cm_f_str => k_is)
    (case km_f_str => k_is)
    (case atm_g_init => k_is)
    (case fnm_g_init => k_is)
    (case lm_g_init => k_is)
    (case cm_g_init => k_is)
    (case km_g_init => k_is)
    (case lTm_g_init => k_is)
    (case atm_g_eq => k_is)
    (case fnm_g_eq => k_is)
    (case lm_g_eq => k_is)
    (case cm_g_eq => k_is)
    (case km_g_eq => k_is)
    (case atm_g_number => k_is)
    (case fnm_g_number => k_is)
    (case lm_g_number => k_is)
    (case cm_g_number => k_is)
    (case km_g_number => k_is)
    (case atm_g_plus => k_is)
    (case fnm_g_plus => k_is)
    (case lm_g_plus => k_is)
    (case cm_g_plus => k_is)
    (case km_g_plus => k_is)
    (case atm_g_minus => k_is)
    (case fnm_g_minus => k_is)
    (case lm_g_minus => k_is)
    (case cm_g_minus => k_is)
    (case km_g_minus => k_is)
    (case atm_g_times => k_is)
    (case fnm_g_times => k_is)
    (case lm_g_times => k_is)
    (case cm_g_times => k_is)
    (case km_g_times => k_is)
    (case atm_g_negative => k_is)
    (case fnm_g_negative => k_is)
    (case lm_g_negative => k_is)
    (case cm_g_negative => k_is)
    (case km_g_negative => k_is)
    (case atm_g_over => k_is)
    (case fnm_g_over => k_is)
    (case lm_g_over => k_is)
    (case cm_g_over => k_is)
    (case km_g_over => k_is)
    (case atm_g_power => k_is)
    (case fnm_g_power => k_is)
    (case lm_g_power => k_is)
    (case cm_g_power => k_is)
    (case km_g_power => k_is)
    (case atm_g_numbers => k_is)
    (case fnm_g_numbers => k_is)
    (case lm_g_numbers => k_is)
    (case cm_g_numbers => k_is)
    (case km_g_numbers => k_is)
    (case atm_g_roots => k_is)
    (case fnm_g_roots => k_is)
    (case lm_g_roots => k_is)
    (case cm_g_roots => k_is)
    (case km_g_roots => k_is)
    (case atm_g_least => k_is)
    (case fnm_g_least => k_is)
    (case lm_g_least => k_is)
    (case cm_g_least => k_is)
    (case km_g_least => k_is)
    (case daoAdd => k_is)
    (case dboAdd => k_is)
    (case dcoAdd => k_is)
    (case ddoAdd => k_is)
    (case daoSub => k_is)
    (case dboSub => k_is)
    (case dcoSub => k_is)
    (case ddoSub => k_is)
    (case daoMul => k_is)
    (case dboMul => k_is)
    (case dcoMul => k_is)
    (case ddoMul => k_is)
    (case nefEq => k_is)
    (case negEq => k_is)
    (case a0 => k_is)
    (case l0 => k_is)
    (case c0 => k_is)
    (case k0 => k_is)
    (case a1 => k_is)
    (case l1 => k_is)
    (case c1 => k_is)
    (case k1 => k_is)
    (case a2 => k_is)
    (case l2 => k_is)
    (case c2 => k_is)
    (case k2 => k_is)
    (case a3 => k_is)
    (case l3 => k_is)
    (case c3 => k_is)
    (case k3 => k_is)
    (case a4 => k_is)
    (case l4 => k_is)
    (case c4 => k_is)
    (case k4 => k_is)
    (case a5 => k_is)
    (case l5 => k_is)
    (case c5 => k_is)
    (case k5 => k_is)
    (case a6 => k_is)
    (case l6 => k_is)
    (case c6 => k_is)
    (case k6 => k_is)
    (case a7 => k_is)
    (case l7 => k_is)
    (case c7 => k_is)
    (case k7 => k_is)
    (case a8 => k_is)
    (case l8 => k_is)
    (case c8 => k_is)
    (case k8 => k_is)
    (case a9 => k_is)
    (case l9 => k_is)
    (case c9 => k_is)
    (case k9 => k_is)
    (case a10 => k_is)
    (case l10 => k_is)
    (case c10 => k_is)
    (case k10 => k_is)
    (case a11 => k_is)
    (case l11 => k_is)
    (case c11 => k_is)
    (case k11 => k_is)
    (case a12 => k_is)
    (case l12 => k_is)
    (case c12 => k_is)
    (case k12 => k_is)
    (case a13 => k_is)
    (case l13 => k_is)
    (case c13 => k_is)
    (case k13 => k_is)
    (case a14 => k_is)
    (case l14 => k_is)
    (case c14 => k_is)
    (case k14 => k_is)
    (case a15 => k_is)
    (case l15 => k_is)
    (case c15 => k_is)
    (case k15 => k_is)
    (case a16 => k_is)
    (case l16 => k_is)
    (case c16 => k_is)
    (case k16 => k_is)
    (case a17 => k_is)
    (case l17 => k_is)
    (case c17 => k_is)
    (case k17 => k_is)
    (case a18 => k_is)
    (case l18 => k_is)
    (case c18 => k_is)
    (case k18 => k_is)
    (case a19 => k_is)
    (case l19 => k_is)
    (case c19 => k_is)
    (case k19 => k_is)
    (case a20 => k_is)
    (case l20 => k_is)
    (case c20 => k_is)
    (case k20 => k_is)
    (case a21 => k_is)
    (case l21 => k_is)
    (case c21 => k_is)
    (case k21 => k_is)
    (case a22 => k_is)
    (case l22 => k_is)
    (case c22 => k_is)
    (case k22 => k_is)
    (case a23 => k_is)
    (case l23 => k_is)
    (case c23 => k_is)
    (case k23 => k_is)
    (case a24 => k_is)
    (case l24 => k_is)
    (case c24 => k_is)
    (case k24 => k_is)
    (case a25 => k_is)
    (case l25 => k_is)
    (case c25 => k_is)
    (case k25 => k_is)
    (case a26 => k_is)
    (case l26 => k_is)
    (case c26 => k_is)
    (case k26 => k_is)
    (case a27 => k_is)
    (case l27 => k_is)
    (case c27 => k_is)
    (case k27 => k_is)
    (case a28 => k_is)
    (case l28 => k_is)
    (case c28 => k_is)
    (case k28 => k_is)
    (case a29 => k_is)
    (case l29 => k_is)
    (case c29 => k_is)
    (case k29 => k_is)
    (case a30 => k_is)
    (case l30 => k_is)
    (case c30 => k_is)
    (case k30 => k_is)
    (case a31 => k_is)
    (case l31 => k_is)
    (case c31 => k_is)
    (case k31 => k_is)
    (case a32 => k_is)
    (case l32 => k_is)
    (case c32 => k_is)
    (case k32 => k_is)
    (case a33 => k_is)
    (case l33 => k_is)
    (case c33 => k_is)
    (case k33 => k_is)
    (case a34 => k_is)
    (case l34 => k_is)
    (case c34 => k_is)
    (case k34 => k_is)
    (case a35 => k_is)
    (case l35 => k_is)
    (case c35 => k_is)
    (case k35 => k_is)
    (case a36 => k_is)
    (case l36 => k_is)
    (case c36 => k_is)
    (case k36 => k_is)
    (case a37 => k_is)
    (case l37 => k_is)
    (case c37 => k_is)
    (case k37 => k_is)
    (case a38 => k_is)
    (case l38 => k_is)
    (case c38 => k_is)
    (case k38 => k_is)
    (case a39 => k_is)
    (case l39 => k_is)
    (case c39 => k_is)
    (case k39 => k_is)
    (case a40 => k_is)
    (case l40 => k_is)
    (case c40 => k_is)
    (case k40 => k_is)
    (case a41 => k_is)
    (case l41 => k_is)
    (case c41 => k_is)
    (case k41 => k_is)
    (case a42 => k_is)
    (case l42 => k_is)
    (case c42 => k_is)
    (case k42 => k_is)
    (case a43 => k_is)
    (case l43 => k_is)
    (case c43 => k_is)
    (case k43 => k_is)
    (case a44 => k_is)
    (case l44 => k_is)
    (case c44 => k_is)
    (case k44 => k_is)
    (case gPRIMES => k_is)
    (case lPRIMES => k_is)
    (case v_MOST_FACTORS => k_is)
    (case v_MOST_DIGITS => k_is)
    (case v_DIGITS => k_is)
    (case b_gcd => k_is)
    (case z_len => k_is)
    (case z_range => k_is)
    (case z_int => k_is)
    (case z_bool => k_is)
    (case z_list => k_is)
    (case z_tuple => k_is)
    (case z_sum => k_is)
    (case z_all => k_is)
    (case z_min => k_is)
    (case z_isinstance => k_is)
    (case z_ValueError => k_is)
    (case z_str => k_is)
    (case z_abs => k_is)
#print axioms PySem.Challenge.cw_unmovedforms_k01_numbers_are_exact_holds

