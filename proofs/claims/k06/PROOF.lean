import PyProof.Rows.All
import Wide.All
import OpenK.AllK
import Wide.FinOn
import PyProof.SumWalk
import HandS.ForMost
import HandS.Evl
import HandS.Exc
import HandS.ExcInit
import HandS.ExcCtx
import HandS.Hot
import HandS.HotCalls
import HandS.ExcInitHot
import HandS.ExcIs
import HandS.ExcField
import HandS.IsInst
import KE.KExcIs
import HandS.Wide
import HandS.ForExc
import KE.DataCmp
import KE.GoesMore
import KE.KTupSum
import KE.KMathGC
import HandS.Gcd
import HandS.TupAny
import KE.KOpsOwn
import PyProof.TwoTypes
import PyProof.Raises
import PyProof.NeKinds
import HandS.OwnEq
import HandS.Small
import HandS.Defaults
import PyProof.SumAny
import HandS.List
import HandS.Zip
import HandS.Style
import HandS.More
import HandS.Conv
import PySem.Challenge.RW_unmovedforms_k06_solved_or_barred
set_option Elab.async false
set_option linter.all false
set_option maxRecDepth 100000
set_option maxHeartbeats 4000000
/-! # While an exception is handled: lists walked, summed, and what is asked of the exception itself -/
namespace UfH
open PySem PySem.Spec PyProof.Rows L2 HotX
abbrev SL := L2.St

section
variable {prog : Program} {w : World} {A : Around} {E : Value → Shared → Prop} {s : Shared}
/-- a list's iterator at its end, an exception being handled -/
theorem list_end_hot {it l x1 : Addr} {i : Nat} {items : Array Value} {Q : Option Value → Shared → Prop} (hot : HotAt A x1 s.heap) (ne : x1 ≠ it)
    (hit : s.heap.IsListIter it l i) (hl : s.heap.IsList l items) (hx : items[i]? = none)
    (hQ : ∀ h', (∀ b o, b ≠ it → s.heap.get? b = some o → h'.get? b = some o) → Q none { s with heap := h' }) :
    wpAny (model prog w) A (pyNext (.ref it)) Q E s := by
  obtain ⟨oi, hoi, hci, hdi⟩ := id hit
  obtain ⟨ol, hol, hcl, nl, hdl⟩ := hl
  obtain ⟨hh, o1, vs1, h1, d1, c1⟩ := hot
  unfold pyNext
  refine wpAny_bind (wpAny_attempt (wpAny_callSpecial?_slot (name := Str.ofString "__next__") hit.typeIs slot_listiter_next
    (wpAny_call_entry slot_listiter_next hit.typeIs entry_listiter_next ?_ (args_listiter_next _))))
  show wpAny _ _ (field (.ref it) 0 >>= _) _ _ s
  refine wpAny_bind (wpAny_field hoi hdi (x := .ref l) rfl ?_)
  show wpAny _ _ (if (Value.ref l == Value.none) = true then _ else _) _ _ s
  rw [if_neg (show ¬ ((Value.ref l == Value.none) = true) from Bool.false_ne_true)]
  show wpAny _ _ (field (.ref it) 1 >>= _) _ _ s
  refine wpAny_bind (wpAny_field hoi hdi (x := .int i 0) rfl ?_)
  show wpAny _ _ (seqItems? (.ref l) >>= _) _ _ s
  refine wpAny_bind (wpAny_seqItems hol hdl ?_)
  simp only [Int.toNat_natCast, hx]
  refine wpAny_bind (wpAny_rule (wpAny_bind (wpAny_setField hoi hdi (by simp) ?_)))
  show wpAny _ _ (newExc (.type "StopIteration") [] >>= _) _ _ _
  refine wpAny_bind ?_
  simp only [newExc, newTuple]
  refine wpAny_bind (wpAny_newObj_type ?_ (by size_fits))
  refine wpAny_bind (m := firstArgMember _ _) (wpAny_of_eq (a := Value.none) (by first | rfl | (simp only [firstArgMember]; rfl)) ?_)
  refine wpAny_newObj_type ?_ (by size_fits)
  have k2 : ∀ b o, b ≠ it → s.heap.get? b = some o → (s.heap.update it (Obj.mapFields (·.setIfInBounds 0 Value.none))).get? b = some o := fun b o nb e =>
    (Heap.get?_update_other _ _ (Ne.symm nb)).trans e
  have k4 := fun b o nb e => Heap.get?_push_of_some { cls := .type "tuple", data := .seq #[] } (k2 b o nb e)
  refine raiseNew_hot ⟨hh, o1, vs1, Heap.get?_push_of_some _ (k4 _ _ ne h1), d1, c1⟩ (Nat.ne_of_lt (Heap.lt_size (k4 _ _ ne h1)))
    (Heap.get?_push_size _ rfl) rfl (by first | (simp; done) | (simp; omega)) ?_
  refine wpAny_bind (wpAny_isInstance (b := true) (T := "StopIteration") ⟨_, Heap.get?_update_self _ (Heap.get?_push_size _ rfl) rfl, rfl⟩ isSubtype_stop ?_)
  refine wpAny_pure (hQ _ fun b o nb e => ?_)
  have lt := Heap.lt_size (k4 b o nb e)
  rw [Heap.get?_update_other _ _ (Nat.ne_of_gt lt)]
  exact Heap.get?_push_of_some _ (k4 b o nb e)
/-- sum of a list of small ints -/
theorem walks_hot (x1 I ax : Addr) (hne : ax ≠ I) (h1 : x1 ≠ I) (o1 : Obj) (vs1 : Array Value) (d1 : o1.data = .fields vs1) (c1 : vs1[2]? = some .none)
    (hh : A.handled = some (.ref x1)) (items : Array Value) : Walks prog w A I [I, ax, x1] [I] items.size (fun i v => items[i]? = some v)
      (fun i h => h.IsListIter I ax i ∧ h.IsList ax items ∧ h.get? x1 = some o1) where
  sub := fun b hb => by
    obtain rfl := List.mem_singleton.mp hb
    exact List.mem_cons_self
  frame := fun _ _ _ st hk => ⟨st.1.at fun o e => hk I (by simp) o e, st.2.1.at fun o e => hk ax (by simp) o e, hk x1 (by simp) o1 st.2.2⟩
  item := fun i s Q E hi st hQ => by
    refine wpAny_pyNext_list_item st.1 st.2.1 (Array.getElem?_eq_getElem hi) fun h' hit' hs' => ?_
    exact hQ _ h' s.toks (Array.getElem?_eq_getElem hi) ⟨hit', st.2.1.extBut hs'.extBut hne, hs'.extBut x1 o1 h1 st.2.2⟩ fun b o hb e => hs'.extBut b o (fun z => hb (by simp [z])) e
  done := fun s Q E st hQ => list_end_hot ⟨hh, o1, vs1, st.2.2, d1, c1⟩ h1 st.1 st.2.1 (Array.getElem?_eq_none (Nat.le_refl _))
    fun h' k => hQ h' s.toks fun b o hb e => k b o (fun z => hb (by simp [z])) e
  self := fun _ _ _ _ st hQ => wpAny_pyIter_listiter st.1 hQ

theorem pre_sum (ns : List Int) : ∀ n, n ≤ ns.length → preSum (fun i => ns.getD i 0) n = (ns.take n).sum
  | 0, _ => rfl
  | n + 1, h => by
    have e : ns[n]? = some ns[n] := List.getElem?_eq_getElem (by omega)
    show preSum (fun i => ns.getD i 0) n + ns.getD n 0 = _
    have e2 : ns.getD n 0 = ns[n] := by simp [List.getD, e]
    rw [pre_sum ns n (by omega), List.take_add_one, e, e2, List.sum_append]
    show _ = _ + (ns[n] + 0)
    rw [Int.add_zero]
theorem small_sum : ∀ ns : List Int, (∀ n ∈ ns, 0 ≤ n ∧ n ≤ 1) → 0 ≤ ns.sum ∧ ns.sum ≤ ns.length
  | [], _ => ⟨Int.le_refl _, Int.le_refl _⟩
  | a :: r, h => by
    have h1 := h a List.mem_cons_self
    have h2 := small_sum r fun n hn => h n (List.mem_cons_of_mem _ hn)
    rw [List.sum_cons, List.length_cons]
    omega
theorem sum_hot {l x1 : Addr} {its : List Value} {ns : List Int} {Q : Value → Shared → Prop} (hot : HotAt A x1 s.heap) (hl : s.heap.IsList l its.toArray) (r : Vals (ns.map V.int) its)
    (hb : ∀ n ∈ ns, 0 ≤ n ∧ n ≤ 1) (hz : ns.length ≤ 1000)
    (h : ∀ h' tk t', (∀ b o, s.heap.get? b = some o → h'.get? b = some o) → Q (.int ns.sum t') { s with heap := h', toks := tk }) :
    wpAny (model prog w) A (call (.builtin "sum") [.ref l]) Q E s := by
  obtain ⟨hh, o1, vs1, g1, d1, c1⟩ := hot
  obtain ⟨ol, hol, _⟩ := id hl
  have hne : l ≠ s.heap.objs.size := Nat.ne_of_lt (Heap.lt_size hol)
  have h1 : x1 ≠ s.heap.objs.size := Nat.ne_of_lt (Heap.lt_size g1)
  have len : its.toArray.size = ns.length := by
    rw [List.size_toArray, ← r.length, List.length_map]
  have W := walks_hot (prog := prog) (w := w) (A := A.in1) x1 s.heap.objs.size l hne h1 o1 vs1 d1 c1 hh its.toArray
  rw [len] at W
  have nth : ∀ i (v : Value), its.toArray[i]? = some v → ∃ t, v = .int (ns.getD i 0) t := fun i v hv => by
    have hi : i < ns.length := by
      rw [← len]
      exact (Array.getElem?_eq_some_iff.mp hv).1
    obtain ⟨u, hu, ru⟩ := r.get (i := i) (x := .int ns[i]) (by rw [List.getElem?_map, List.getElem?_eq_getElem hi]; rfl)
    have e : its[i]? = some v := by
      rw [← hv]
      simp
    rw [hu] at e
    cases e
    obtain ⟨t, rfl⟩ := ru
    exact ⟨t, by simp [List.getD, List.getElem?_eq_getElem hi]⟩
  refine call_sum_walk (wpAny_pyIter_list hl ?_)
  refine ⟨s.heap.objs.size, _, _, _, _, _, _, rfl, W, ⟨⟨_, Heap.get?_push_size _ rfl, rfl, rfl⟩, hl.at fun o e => Heap.get?_push_of_some _ e, Heap.get?_push_of_some _ g1⟩, fun b hb' => ?_, nth, fun j hj => ?_, fun h' tk t' hk => ?_⟩
  · rw [Heap.size_push]
    simp only [List.mem_cons, List.not_mem_nil, or_false] at hb'
    rcases hb' with rfl | rfl | rfl
    · exact Nat.lt_succ_self _
    · exact Nat.lt_succ_of_lt (Heap.lt_size hol)
    · exact Nat.lt_succ_of_lt (Heap.lt_size g1)
  · have e : ns.getD j 0 = ns[j] := by simp [List.getD, List.getElem?_eq_getElem hj]
    have b1 := hb ns[j] (List.getElem_mem hj)
    have b2 := small_sum (ns.take (j + 1)) fun n hn => hb n (List.mem_of_mem_take hn)
    rw [List.length_take] at b2
    rw [pre_sum ns (j + 1) hj]
    show (-(2 ^ 63) ≤ ns.getD j 0 ∧ ns.getD j 0 < 2 ^ 63) ∧ -(2 ^ 63) ≤ (ns.take (j + 1)).sum ∧ (ns.take (j + 1)).sum < 2 ^ 63
    rw [e]
    omega
  · rw [pre_sum ns ns.length (Nat.le_refl _), List.take_length]
    exact h h' tk t' fun b o e => hk b o (fun z => absurd (Heap.lt_size e) ((List.mem_singleton.mp z) ▸ Nat.lt_irrefl _)) (Heap.get?_push_of_some _ e)
end

/-! ### the judgements there -/
section
variable {X : Cx}
/-- sum(xs), xs a list of noughts and ones -/
def rSumH (K : PySem.W.Frag) : List V → Hp → VK → Prop := fun vs H Q => ∃ (a : Addr) (ns : List Int), vs = [V.ref a] ∧ SqL K H a (ns.map V.int) ∧ (∀ n ∈ ns, 0 ≤ n ∧ n ≤ 1) ∧ ns.length ≤ 1000 ∧ Q (.int ns.sum) H
theorem cr_sumH (hc : L2H.HotC X) : CallR X (.builtin "sum") (rSumH X.K) := by
  intro pins s σ H vs us Q I r h
  obtain ⟨a, ns, rfl, hs, hb, hz, q⟩ := h
  obtain ⟨its, rv, hl, _⟩ := I.list hs
  obtain ⟨x1, hot⟩ := hc.at I
  rw [Vals.ref1 r]
  exact sum_hot hot hl.isList rv hb hz fun h' tk t' hk => ⟨.int _, H, I.kept hk, ⟨_, rfl⟩, q⟩
/-- the turns of [elt for target in a list]: D the new list -/
def tLcH (K : PySem.W.Frag) (tl : TE) (g : TG) (te : TE) (vs : List Nat) : TE := fun σ H Q => tl σ H fun x H1 => ∃ a xs, x = .ref a ∧ SqL K H1 a xs ∧ ∀ D, H1 D = none → ∃ W : Nat → Hp → Prop, W 0 (upd H1 D (.lst [])) ∧
  (∀ i H, i ≤ xs.length → W i H → SqL K H a xs) ∧ (∀ i x H, xs[i]? = some x → W i H → g x (wipe σ vs) H fun σ2 H2 => wipe σ2 vs = wipe σ vs ∧ te σ2 H2 fun y H4 => ∃ acc, H4 D = some (.lst acc) ∧ acc.length < sizeLine ∧ W (i + 1) (upd H4 D (.lst (acc ++ [y])))) ∧
  ∀ H, W xs.length H → Q (.ref D) H
theorem pe_lcH {elt tg l : Expr} {scope : Scope} {own : List (Str × Nat)} {pos : Pos} {tl : TE} {g : TG} {te : TE} (hc : L2H.HotC X) (hN : X.N.Nodup) (hl : PE X l tl) (ok : BlkOk X.N X.env.scope scope own)
    (hg : ∀ (s : Shared) (H : Hp) (C : Addr) (cl : List (Str × Addr)) (fp : List Addr), PG (X.blk s H scope (compEnvC scope cl C X.env) fp) tg g)
    (he : ∀ (s : Shared) (H : Hp) (C : Addr) (cl : List (Str × Addr)) (fp : List Addr), PE (X.blk s H scope (compEnvC scope cl C X.env) fp) elt te)
    (hs : ∀ x, foldedSetIterable l X.env x = pure x := by intro _; rfl) :
    PE X (.ListComp elt [⟨tg, l, [], 0⟩] scope pos) (tLcH X.K tl g te (own.map (·.2))) := by
  refine ⟨fun pins s σ H Q I h => ?_⟩
  rw [eval_ListComp]
  obtain ⟨p1, hot1, hp1⟩ := hc
  have cells : ∀ y ∈ scope.names, y.2 = .free → ∃ c, X.env.cells.lookup y.1 = some c := fun y hy e => by
    rcases ok.free y hy e with k | k
    · exact I.ok.has _ (Or.inl k)
    · exact I.ok.has _ (Or.inr k)
  refine wpAny_comprehension_free (use := none) rfl hs (closure_ok cells) ok.kind (fun y hy e => by rw [ok.uniq y hy, e]) ?_
  refine thn (hl.run pins s σ H _ I h) fun v s1 hv => ?_
  obtain ⟨x, H2, I1, r1, a, xs, ex, hq, q⟩ := hv
  subst ex
  obtain rfl : v = Value.ref a := r1
  obtain ⟨its, rv, pl, hz⟩ := I1.list hq
  refine wpAny_pyIter_list pl.isList ?_
  generalize hs2 : ({ s1 with heap := s1.heap.push { cls := .type "list_iterator", data := .fields #[.ref a, .int 0 0] } } : Shared) = s2
  generalize hit : s1.heap.objs.size = it
  have I2 : Inv X pins σ H2 s2 := by
    rw [← hs2]
    exact I1.kept (t' := s1.toks) fun b o e => Heap.get?_push_of_some _ e
  have st2 : s2.heap.IsListIter it a 0 := by
    rw [← hs2, ← hit]
    exact ⟨_, Heap.get?_push_size _ rfl, rfl, rfl⟩
  have lt2 : it < s2.heap.objs.size := by
    obtain ⟨o, e, _⟩ := st2
    exact Heap.lt_size e
  have f2 : FpOk X pins H2 it := by
    have z := I1.fpOk (b := it) (H' := H2) (Nat.le_of_eq hit) (I1.hok.fresh (Nat.le_of_eq hit))
    exact z
  refine wpAny_newObj_type (newEnv_comp ?_) (by show 0 ≤ sizeLine; decide)
  generalize hD : s2.heap.objs.size = D
  have hDn : H2 D = none := I2.hok.fresh (Nat.le_of_eq hD)
  obtain ⟨W, w0, stay, turn, fin⟩ := q D hDn
  generalize hs3 : ({ s2 with heap := s2.heap.push { cls := .type "list", data := .seq ([] : List Value).toArray } } : Shared) = s3
  have I3 : Inv X pins σ (upd H2 D (.lst [])) s3 := by
    rw [← hs3]
    refine I2.laid (t' := s2.toks) (fun b o e => Heap.get?_push_of_some _ e) (Nat.le_of_eq hD) ⟨Nat.zero_le _, [], 0, .nil, ?_⟩
    rw [← hD]
    exact Heap.get?_push_size _ rfl
  have h3 : s3.heap = s2.heap.push { cls := .type "list", data := .seq ([] : List Value).toArray } := by rw [← hs3]
  have f3 : ∀ b ∈ [it], FpOk X pins (upd H2 D (.lst [])) b ∧ b < s3.heap.objs.size := fun b hb => by
    obtain rfl := List.mem_singleton.mp hb
    have nD : b ≠ D := by
      rw [← hD]
      exact Nat.ne_of_lt lt2
    refine ⟨⟨?_, f2.2⟩, ?_⟩
    · rw [upd_ne nD]
      exact f2.1
    · rw [h3, Heap.size_push]
      exact Nat.lt_succ_of_lt lt2
  have st3 : s3.heap.IsListIter it a 0 := st2.at fun o e => by
    rw [h3]
    exact Heap.get?_push_of_some _ e
  have I4 := block_start I3 ok hN f3
  have P3 := I3.pin p1 (List.mem_append_left _ hp1)
  have pg := hg s3 (upd H2 D (.lst [])) s3.heap.objs.size (cellsFrom (s3.heap.objs.size + 1) scope.names (cloFrom X.env.cells scope.names [])) [it]
  have pe := he s3 (upd H2 D (.lst [])) s3.heap.objs.size (cellsFrom (s3.heap.objs.size + 1) scope.names (cloFrom X.env.cells scope.names [])) [it]
  show codeAny _ _ (.compStart (.ListComp elt [⟨tg, l, [], 0⟩] scope pos) 0 (.ref it) (.ref D) (compEnvC scope (cellsFrom (s3.heap.objs.size + 1) scope.names (cloFrom X.env.cells scope.names [])) s3.heap.objs.size X.env))
    (compPost (model X.prog X.w) X.A X.xe none _ (.ref D) s3.heap.objs.size) { s3 with heap := pushCells (s3.heap.push { cls := .type "dict", data := .dict #[] }) scope.names }
  have nIt : (upd H2 D (.lst [])) it = none := (f3 it List.mem_cons_self).1.1
  generalize hce : compEnvC scope (cellsFrom (s3.heap.objs.size + 1) scope.names (cloFrom X.env.cells scope.names [])) s3.heap.objs.size X.env = ce at I4 pg pe ⊢
  have cL : ce.locals = s3.heap.objs.size := by
    subst hce
    rfl
  generalize hH3 : upd H2 D (.lst []) = H3 at I3 I4 pg pe w0 nIt f3 P3
  generalize hs4 : ({ s3 with heap := pushCells (s3.heap.push { cls := .type "dict", data := .dict #[] }) scope.names } : Shared) = s4 at I4 ⊢
  have st4 : s4.heap.IsListIter it a 0 := st3.at fun o e => by
    rw [← hs4]
    exact pushCells_keeps _ _ _ _ (Heap.get?_push_of_some _ e)
  have p1it : p1.1 ≠ it := fun z => by
    have f := (f3 it List.mem_cons_self).1.2.2.2.2.2 p1 (List.mem_append_left _ hp1)
    exact f z
  have stat : ∀ {σ' : SL} {H' : Hp} {s' : Shared}, Inv (X.blk s3 H3 scope ce [it]) [] σ' H' s' → H' it = none → FpOk (X.blk s3 H3 scope ce [it]) [] H' it := fun {σ' H' s'} I' hn =>
    ⟨hn, (I'.ok.exf it List.mem_cons_self).1, I'.ok.exfs it List.mem_cons_self, .inl List.mem_cons_self, fun x c e => (I'.ok.exf it List.mem_cons_self).2 x c e, fun p hp => absurd (show p ∈ ([] : List (Addr × Obj)) ++ [] from hp) (by simp)⟩
  have hotAt : ∀ {σ' : SL} {H' : Hp} {s' : Shared}, Inv (X.blk s3 H3 scope ce [it]) [] σ' H' s' → HotAt X.A p1.1 s'.heap := fun {σ' H' s'} I' => by
    obtain ⟨hh, vs, d1, c1⟩ := hot1
    have nf : p1.1 ∉ frs X.stack := fun z => (List.mem_cons.mp (I3.stkSub p1.1 z)).elim P3.2.2.1 P3.2.2.2.1
    refine ⟨hh, p1.2, vs, I'.base.keep p1.1 p1.2 P3.1 P3.2.1 nf (fun z => p1it (List.mem_singleton.mp z)), d1, c1⟩
  have loop : codeAny (model X.prog X.w) X.A (.compLoop (.ListComp elt [⟨tg, l, [], 0⟩] scope pos) 0 (.ref it) (.ref D) ce)
      (compPost (model X.prog X.w) X.A X.xe none (EP X pins σ Q) (.ref D) s3.heap.objs.size) s4 := by
    refine compLoop_any (fun n s' => ∃ i H', n + i = xs.length ∧ Inv (X.blk s3 H3 scope ce [it]) [] (wipe σ (own.map (·.2))) H' s' ∧ s'.heap.IsListIter it a i ∧ H' it = none ∧ W i H') ?_ xs.length ⟨0, H3, rfl, I4, st4, nIt, w0⟩
    rintro n s5 ⟨i, H5, en, I5, st5, n5, w5⟩
    obtain ⟨its5, rv5, pl5, _⟩ := I5.list (stay i H5 (by omega) w5)
    obtain ⟨f0, f1, f2, f3', f4, f5⟩ := stat I5 n5
    cases n with
    | zero =>
      have ei : i = xs.length := by omega
      subst ei
      have ls := rv5.length
      refine list_end_hot (hotAt I5) p1it st5 pl5.isList (by simp; omega) fun h6 k6 => ?_
      have I6 : Inv (X.blk s3 H3 scope ce [it]) [] (wipe σ (own.map (·.2))) H5 { s5 with heap := h6 } := I5.turned (t' := s5.toks) (fun b o hb e => k6 b o hb e) f0 f1 f3' f4 f5
      have I7 : Inv X pins σ H5 { s5 with heap := h6 } := I3.call' (ch := [it]) I6.os I6.base I6.hok I6.bare fun b hb => ⟨(f3 b hb).1.2.2.2.1, (f3 b hb).1.2.1, (f3 b hb).1.2.2.2.2.1, (f3 b hb).1.2.2.2.2.2⟩
      have nC : H5 s3.heap.objs.size = none := by
        have z : H5 ce.locals = none := I6.free
        rw [cL] at z
        exact z
      obtain ⟨m, hn, _⟩ := I6.loc
      have hn : h6.Ns ce.locals m := hn
      rw [cL] at hn
      refine ⟨m, hn, fun h'' sb => ?_⟩
      obtain ⟨g0, g1, g2, g3, g4, g5⟩ := I3.fpOk (b := s3.heap.objs.size) (H' := H5) (Nat.le_refl _) nC
      exact ⟨.ref D, H5, I7.turned (t' := s5.toks) (fun b o hb e => (sb.2 b hb).trans e) g0 g1 g3 g4 g5, rfl, fin H5 w5⟩
    | succ n =>
      have hi : i < xs.length := by omega
      have hx : xs[i]? = some xs[i] := List.getElem?_eq_getElem hi
      obtain ⟨u, hu, ru⟩ := rv5.get hx
      refine wpAny_pyNext_list_item st5 pl5.isList (x := u) (by simpa using hu) fun h6 st6 sb6 => ?_
      have I6 : Inv (X.blk s3 H3 scope ce [it]) [] (wipe σ (own.map (·.2))) H5 { s5 with heap := h6 } := I5.turned (t' := s5.toks) (fun b o hb e => (sb6.2 b hb).trans e) f0 f1 f3' f4 f5
      obtain ⟨oi, ei, ci, di⟩ := id st6
      refine go_of (s := { s5 with heap := h6 }) ei ci di (by decide) ?_
      have obj : ∀ b ∈ [it], ∃ o, h6.get? b = some o ∧ ∀ v, o.data ≠ .cell v := fun b hb => by
        obtain rfl := List.mem_singleton.mp hb
        exact ⟨oi, ei, fun v z => by rw [di] at z; cases z⟩
      have I6' := I6.pinned (fp := [it]) (fun b hb => by obtain rfl := List.mem_singleton.mp hb; exact stat I6 n5) obj
      refine thnF (pg.run _ { s5 with heap := h6 } _ H5 xs[i] u _ I6' ru (turn i _ H5 hx w5)) fun _ s8 ⟨σ8, H8, I8, hw8, q8⟩ => ?_
      refine wpAny_tests_nil ?_
      simp only [if_true]
      refine thnF (pe.run _ s8 σ8 H8 _ I8 q8) fun z s10 ⟨yv, H10, I10, r10, acc, hD10, hz10, nx⟩ => ?_
      refine app_ok (X := X.blk s3 H3 scope ce [it]) I10 hD10 hz10 r10 fun s11 I11 => ⟨n, Nat.lt_succ_self n, i + 1, _, by omega, ?_, ?_, ?_, nx⟩
      · have hlen : (wipe σ (own.map (·.2))).length = σ8.length := by rw [← hw8, wipe_length]
        refine (I11.unpinned (pins := [])).weak hlen fun j v e => ?_
        rw [← hw8] at e
        exact (wipe_some e).1
      · refine st6.at fun o e => ?_
        exact (I11.pin (it, o) (List.mem_append_right _ (List.mem_append_right _ (mem_pinsAt List.mem_cons_self e)))).1
      · exact (I11.pin (it, oi) (List.mem_append_right _ (List.mem_append_right _ (mem_pinsAt List.mem_cons_self ei)))).2.1
  exact codeAny_compStart_list loop (wpAny_pyIter_listiter st4 loop)
end

/-! ### a def that is called with the exception that is handled -/
/-- its promise may speak of the exception's place and object p -/
structure FnE (P : Program) (w : World) (K : PySem.W.Frag) (mg : Str → Option Value) (base : Heap) (k : Nat) (f : Addr) (fd : FuncData) (ps : List Str) (sp : Addr × Obj → Sp) : Prop where
  len : ∀ p vs H Q E, sp p vs H Q E → vs.length = ps.length
  run : ∀ (A : Around) (outer : List Env) (s : Shared) (H : Hp) (args : Args) (us : List Value) (vs : List V) (Q : VK) (E : XK) (p : Addr × Obj), L2H.RoomH k A → L2H.Hot1 A p → L2H.PinOk outer H s p →
    Env0 P w K mg base A outer s H → BindsTo s fd args (ps.zip us) → Vals vs us → sp p vs H Q E → codeAny (model P w) A (.call (.ref f) args) (CR CX0 outer P w H s Q E) s
theorem FnE.mono {P : Program} {w : World} {K : PySem.W.Frag} {mg : Str → Option Value} {base : Heap} {j k : Nat} {f : Addr} {fd : FuncData} {ps : List Str} {sp : Addr × Obj → Sp} (F : FnE P w K mg base j f fd ps sp) (h : j ≤ k) :
    FnE P w K mg base k f fd ps sp := ⟨F.len, fun A outer s H args us vs Q E p hr => F.run A outer s H args us vs Q E p (hr.mono h)⟩
theorem FnE.hot {P : Program} {w : World} {K : PySem.W.Frag} {mg : Str → Option Value} {base : Heap} {k : Nat} {f : Addr} {fd : FuncData} {ps : List Str} {sp : Sp} (F : FnE P w K mg base k f fd ps fun _ => sp) :
    L2H.FnH P w K mg base CX0 k f fd ps sp := ⟨F.len (0, default), F.run⟩
/-- the context of its body -/
abbrev cxE (P : Program) (w : World) (K : PySem.W.Frag) (mg : Str → Option Value) (base : Heap) (N : List Str) (qual : Str) (scope : Scope) (f : Addr) (cd : Value) (A : Around) (outer : List Env) (s : Shared) (H : Hp) (E : XK) (p : Addr × Obj) : Cx :=
  (L2H.cxH CX0 P w K mg base N qual scope f cd A outer s H E p).nox
theorem fun_okE {P : Program} {w : World} {K : PySem.W.Frag} {mg : Str → Option Value} {base : Heap} {x qual : Str} {st : Stmt} {f : Addr} {fd : FuncData} {N ps : List Str} {k : Nat} {sp : Addr × Obj → Sp} (F : Fun K x qual st f fd)
    (S : FnScope N ps (defScope st)) (len : ∀ p vs H Q E, sp p vs H Q E → vs.length = ps.length)
    (body : ∀ (cdv : Value) (A : Around) (outer : List Env) (s : Shared) (H : Hp) (vs : List V) (Q : VK) (E : XK) (p : Addr × Obj), L2H.Hot1 A p → L2H.RoomH k (A.deeper (envOfC qual (defScope st) s.heap.objs.size f cdv)) → sp p vs H Q E →
      ∃ t, PSs (cxE P w K mg base N qual (defScope st) f cdv A outer s H E p) (defBody st) t ∧ t { nx := fun _ H' => Q .non H', rt := Q } (L2.start N vs) H) : FnE P w K mg base (k + 1) f fd ps sp := by
  obtain ⟨oc, od, kV, doc, pm, an, cdv, ct, osl, rfl, lk, hcd⟩ := F.ex
  refine ⟨len, fun A outer s H args us vs Q E p hr hot hpin e0 hb r hsp => ?_⟩
  have KX : K.In s.heap := e0.mod.kin.keeps fun b o e => (e0.bs b o e).1
  have lim : s.heap.NoLimit := e0.mod.nolimit.keeps fun b o e => (e0.bs b o e).1
  have kinds : ∀ y ∈ ps.zip us, (defScope st).names.lookup y.1 = some .local ∨ ((defScope st).names.lookup y.1 = some .cell ∧ ((cellsFrom (s.heap.objs.size + 1) (defScope st).names []).lookup y.1).isSome = true) := fun y hy => by
    rcases S.par y.1 (List.of_mem_zip (a := y.1) (b := y.2) hy).1 with q | q
    · exact Or.inl q
    · exact Or.inr ⟨q, PySem.W.cellsFrom_some _ _ _ (Or.inl q)⟩
  refine codeAny_call_function hr.depth (KX _ _ lk) rfl S.co S.gen rfl (PySem.W.codeRec_of KX hcd) (hb _ _ _ _ ?_)
  refine wpAny_newFunctionEnv_cells S.kind kinds fun env he s1 x => ?_
  subst he
  refine ⟨lim.keeps x.toInCall.keep, codeAny_func ?_⟩
  obtain ⟨t, ht, hq⟩ := body cdv A outer s H vs Q E p hot (hr.deeper _) hsp
  have I : Inv (L2H.cxH CX0 P w K mg base N qual (defScope st) f cdv A outer s H E p) [] (L2.start N vs) H s1 := L2H.inv_startH S hpin e0 (len _ _ _ _ _ hsp) r x
  refine wpAny_mono (ht.nox.run [] s1 (L2.start N vs) H _ I hq) (fun fl s' hs => ?_) fun e s' hs => hs
  have done : ∀ {σ' : SL} {H' : Hp} {v : V} {u : Value}, Inv (L2H.cxH CX0 P w K mg base N qual (defScope st) f cdv A outer s H E p) [] σ' H' s' → RelV v u → Q v H' → CE outer P w H s Q u s' :=
    fun {σ' H' v u} J rv q => ⟨v, H', J.os, J.bare, J.base, J.hok, rv, q⟩
  cases fl with
  | ret u =>
    obtain ⟨v, σ', H', J, rv, q⟩ := hs
    exact done J rv q
  | next =>
    obtain ⟨σ', H', J, q⟩ := hs
    exact done (u := Value.none) (v := V.non) J rfl q
  | brk =>
    obtain ⟨_, _, _, q⟩ := hs
    exact q.elim
  | cont =>
    obtain ⟨_, _, _, q⟩ := hs
    exact q.elim
section
variable {X : Cx} {k : Nat} {f : Addr} {fd : FuncData} {ps : List Str} {sp : Addr × Obj → Sp} {x : Str} {q pos : Pos} {e : Expr} {es : List Expr} {t : TA}
/-- f(e, ..), p the exception's pin -/
def tCallE (sp : Sp) (t : TA) : TE := fun σ H Q => t σ H fun vs H1 => sp vs H1 Q E0
theorem pe_callEI {sq : Sp} (F : FnE X.prog X.w X.K X.mg X.base k f fd ps sp) (hr : L2H.RoomH k X.A) (p : Addr × Obj) (hot : L2H.Hot1 X.A p) (hp : p ∈ X.pn) (hi : ∀ vs H Q E, sq vs H Q E → sp p vs H Q E) (hg : Gl X x) (hm : X.mg x = some (.ref f)) (hk : PySem.W.keepIn X.K (.ref f) = true) (hb : Binds X.K fd ps [])
    (ha : PA X (e :: es) t) (hdb : (x == ("__debug__" : Str)) = false := by decide) (he : starEach (e :: es) X.env = (false, eval e X.env) :: starEach es X.env := by rfl) (hpl : (backTo pos (starEach es X.env)).any (·.1) = false := by rfl) :
    PE X (.Call (.Name x q) (e :: es) [] pos) (tCallE sq t) := by
  refine ⟨fun pins s σ H Q I h => ?_⟩
  refine wpAny_Call_Name_kw (ld_glob I hg hm ?_ hdb)
  refine PySem.W.callWith_K (h₀ := X.base) I.ok.mod.kin hk (thn (ha.run pos pins s σ H _ I h) fun us s1 hv => ?_) he hpl
  obtain ⟨vs, H1, I1, r, hs⟩ := hv
  refine ⟨I1.kIn, ?_⟩
  have hl : us.length = ps.length := by
    rw [← r.length]
    exact F.len _ _ _ _ _ (hi _ _ _ _ hs)
  have b := hb s1 us I1.kIn (by rw [List.append_nil]; exact hl)
  rw [List.append_nil] at b
  have P1 := I1.pin p (List.mem_append_left _ hp)
  have hpin : L2H.PinOk X.stack H1 s1 p := ⟨P1.1, P1.2.1, fun hm => (List.mem_cons.mp (I1.stkSub p.1 hm)).elim P1.2.2.1 P1.2.2.2.1, P1.2.2.2.2⟩
  refine wpAny_call (codeAny_mono (F.run X.A X.stack s1 H1 ⟨us, []⟩ us vs Q E0 p hr hot hpin I1.env0 b r (hi _ _ _ _ hs)) fun res s' hq => ?_)
  cases res with
  | error er => exact hq.elim
  | ok fl =>
    cases fl with
    | ret u => exact I1.after hq
    | next => exact hq.elim
    | brk => exact hq.elim
    | cont => exact hq.elim
theorem pe_callE (F : FnE X.prog X.w X.K X.mg X.base k f fd ps sp) (hr : L2H.RoomH k X.A) (p : Addr × Obj) (hot : L2H.Hot1 X.A p) (hp : p ∈ X.pn) (hg : Gl X x) (hm : X.mg x = some (.ref f)) (hk : PySem.W.keepIn X.K (.ref f) = true) (hb : Binds X.K fd ps [])
    (ha : PA X (e :: es) t) (hdb : (x == ("__debug__" : Str)) = false := by decide) (he : starEach (e :: es) X.env = (false, eval e X.env) :: starEach es X.env := by rfl) (hpl : (backTo pos (starEach es X.env)).any (·.1) = false := by rfl) :
    PE X (.Call (.Name x q) (e :: es) [] pos) (tCallE (sp p) t) := pe_callEI F hr p hot hp (fun _ _ _ _ h => h) hg hm hk hb ha hdb he hpl
end

/-! ### what is asked of the exception: isinstance(e, C), e.f -/
/-- what its class must say -/
structure ExKnow (K : PySem.W.Frag) (D : Addr) : Prop where
  cl : (PySem.W.clsIn K D).isSome = true
  ga : PySem.W.findIn K (.ref D) "__getattribute__" = some (some (.builtin "BaseException.__getattribute__"))
  gg : PySem.W.findIn K (.ref D) "__getattr__" = some none
  ex : PySem.W.subIn K (.ref D) (.type "BaseException") = some true
  hd : PySem.W.hasDictIn K D = true
  cla : PySem.W.findIn K (.ref D) "__class__" = some (some (.builtin "object.__class__"))
  sp : PySem.W.specialIn K (.builtin "object.__class__") "__get__" = some (some (.builtin "getset_descriptor.__get__"))
  tk : PySem.W.takesIn K (.builtin "object.__class__") = some true
  mo : PySem.W.mroIn K D (.type "object") = some true
/-- p is an exception of the class at D with the own dict d -/
structure Exc1 (p : Addr × Obj) (D d : Addr) : Prop where
  zc : Zc (.ref D) (some d) p.2
  fl : ∃ vs, p.2.data = .fields vs
theorem Exc1.inst {X : Cx} {pins : List (Addr × Obj)} {σ : SL} {H : Hp} {s : Shared} {p : Addr × Obj} {D d : Addr} {fs : List (Str × V)} (Z : Exc1 p D d) (I : Inv X pins σ H s) (hp : p ∈ X.pn) (hx : H d = some (.xd fs)) :
    ∃ (mA : Str → Option Value) (od : Obj), PySem.W.InstAt s.heap p.1 p.2 D (some od) ∧ (∀ f, RelO (fs.lookup f) (mA f)) ∧ ∀ n, PySem.W.lookIn n od = some (mA n) := by
  obtain ⟨hget, _⟩ := I.pin p (List.mem_append_left _ hp)
  have hx' : ObjOk X.prog X.w H s.heap d (.xd fs) := I.hok d _ hx
  obtain ⟨mA, hns, hr⟩ := hx'
  obtain ⟨od, ho, hl⟩ := lookIn_ns hns
  obtain ⟨vs, hv⟩ := Z.fl
  exact ⟨mA, od, ⟨hget, Z.zc.1, by unfold PySem.W.notCls; rw [hv] <;> rfl, by rw [Z.zc.2]; exact ho⟩, hr, hl⟩
section
variable {X : Cx} {p : Addr × Obj} {D d : Addr}
def rIsP (K : PySem.W.Frag) (a D d : Addr) : List V → Hp → VK → Prop := fun xs H Q => ∃ (c : V) (cv : Value) (b : Bool) (fs : List (Str × V)), xs = [.ref a, c] ∧ (∀ u, RelV c u → u = cv) ∧ H d = some (.xd fs) ∧ PySem.W.kitOne K (.ref D) cv = some b ∧ Q (.bl b) H
theorem call_isP (T : ExKnow X.K D) (Z : Exc1 p D d) (hp : p ∈ X.pn) : CallR X (.builtin "isinstance") (rIsP X.K p.1 D d) := by
  intro pins s σ H xs us Q I r h
  obtain ⟨c, cv, b, fs, rfl, hcv, hx, e, q⟩ := h
  cases r with
  | cons rx rr =>
    cases rr with
    | cons rt rr =>
      cases rr
      cases rx
      have ec := hcv _ rt
      subst ec
      obtain ⟨mA, od, J, _, _⟩ := Z.inst I hp hx
      exact PySem.W.kia_one (PySem.W.kitx_exc T.cl T.ga T.gg T.ex T.cla T.sp T.tk T.mo) I.kIn J e (fun z => nomatch z) fun tk => ⟨.bl b, H, I.kept (t' := tk) fun _ _ z => z, rfl, q⟩
/-- e.f -/
def tFldP (a d : Addr) (f : Str) (te : TE) : TE := fun σ H Q => te σ H fun x H1 => x = .ref a ∧ ∃ (fs : List (Str × V)) (v : V), H1 d = some (.xd fs) ∧ fs.lookup f = some v ∧ Q v H1
theorem pe_fldP {e : Expr} {te : TE} {pos : Pos} {n : Str} (T : ExKnow X.K D) (Z : Exc1 p D d) (hp : p ∈ X.pn) (hno : PySem.W.findIn X.K (.ref D) n = some none) (he : PE X e te)
    (hb : attributeBase e n X.env (eval e X.env) = eval e X.env := by rfl) : PE X (.Attribute e n pos) (tFldP p.1 d n te) := by
  refine ⟨fun pins s σ H Q I h => ?_⟩
  refine attr_of hb (thn (he.run pins s σ H _ I h) fun u s1 hv => ?_)
  obtain ⟨x, H1, I1, rx, ex, fs, v, hx, l, q⟩ := hv
  subst ex
  obtain rfl : u = Value.ref p.1 := rx
  obtain ⟨mA, od, J, hr, hl⟩ := Z.inst I1 hp hx
  obtain ⟨u, hu, ru⟩ := RelO.some_of (v := v) (o := mA n) (by rw [← l]; exact hr n)
  exact HandSPX.exc_get I1.kIn J T.ga T.gg T.ex (PySem.W.findObj_own T.hd hno rfl (by rw [hl, hu])) (handed_of ru) ⟨v, H1, I1.tok _, ru, q⟩
end

/-! ### raise C(e, ..), C with an own __init__, its context None -/
theorem pmk_oexN {X : Cx} {x : Str} {e : Expr} {es : List Expr} {ta : TA} {p pos : Pos} {C fI : Addr} {k : Nat} {fd : FuncData} {ps : List Str} {sp : Sp} (T : OexC X.K C) (iC : PySem.W.findIn X.K (.ref C) "__init__" = some (some (.ref fI)))
    (tI : PySem.W.typeIn X.K (.ref fI) = some (.type "function")) (F1 : FnOk X.prog X.w X.K X.mg X.base CX0 k fI fd ps sp) (hr : Room (k + 1) X.A) (hb : Binds X.K fd ps []) (hg : Gl X x) (hm : X.mg x = some (.ref C)) (ha : PA X (e :: es) ta)
    (hdb : (x == ("__debug__" : Str)) = false := by decide) (he : starEach (e :: es) X.env = (false, eval e X.env) :: starEach es X.env := by rfl) (hpl : (backTo pos (starEach es X.env)).any (·.1) = false := by rfl) :
    L2N.PMk X (.Call (.Name x p) (e :: es) [] pos) (tMkO C sp [] ta) := by
  intro pins s σ H Q I h
  obtain ⟨nm, q, N, bs, bm, sn, sub, ab, col, dd, k0, k1, k2, k3, k5, hC, hbm⟩ := T.cls
  refine wpAny_Call_Name_kw (ld_glob I hg hm ?_ hdb)
  refine PySem.W.callWith_K (h₀ := X.base) I.ok.mod.kin T.kC (thn (ha.run pos pins s σ H _ I h) fun us s1 hv => ?_) he hpl
  obtain ⟨vs, H1, I1, r1, hz, q1⟩ := hv
  refine ⟨I1.kIn, ?_⟩
  show wpAny _ _ (call (.ref C) us) _ _ _
  obtain ⟨hp, g, dr, tk, os⟩ := s1
  generalize hn : hp.objs.size + 1 = n
  have hsz : hp.objs.size ≤ n := by omega
  have fresh : H1 n = none := I1.hok.fresh hsz
  have hq := q1 n fresh
  rw [List.append_nil] at hq
  generalize hG1 : (hp.push (PySem.W.kdv_tup us)).push (PySem.HandSPX.excO C hp.objs.size) = G1
  have kk : ∀ b o, hp.get? b = some o → G1.get? b = some o := fun b o e => by
    rw [← hG1]
    exact Heap.get?_push_of_some _ (Heap.get?_push_of_some _ e)
  have hget : G1.get? n = some (PySem.HandSPX.excO C hp.objs.size) := by
    rw [← hG1, ← hn]
    heap_get
  have I2 : Inv X pins σ (upd H1 n (exo n C none)) ⟨G1, g, dr, tk, os⟩ := I1.laid (t' := tk) (a := n) (o := exo n C none) (h' := G1) kk hsz (exo_ok hget)
  have r2 : Vals (V.ref n :: vs) (Value.ref n :: us) := Paired.cons rfl r1
  have hl : (Value.ref n :: us ++ []).length = ps.length := by
    rw [List.append_nil, ← r2.length]
    exact F1.len _ _ _ _ hq
  have hus : us.length ≤ sizeLine := by
    rw [← Paired.length r1, sizeLine_eq]
    omega
  have b2 := hb _ (Value.ref n :: us) I2.kIn hl
  rw [List.append_nil] at b2
  have main := F1.run _ X.stack _ _ ⟨Value.ref n :: us, []⟩ (Value.ref n :: us) _ _ (fun _ _ _ => False) (hr.make C us []) (I2.env0.make C us []) b2 r2 hq
  refine wpAny_call (PySem.HandSPX.call_own F.excBase_ValueError (fun Y => PySem.HandSPX.refsVE_contains Y bm hbm) (I1.kIn _ _ hC) (PySem.W.looks_findIn I1.kIn iC) (fun self => PySem.W.bind_fn I1.kIn self tI) hus ?_)
  rw [hn, hG1]
  refine codeAny_mono main fun r s' hq' => ?_
  cases r with
  | error er => exact hq'.elim
  | ok fl =>
    cases fl with
    | ret u =>
      obtain ⟨v, H2, os2, bare2, un2, hok2, rv, ev, d, fs, ea, ed, hd1, q2⟩ := hq'
      subst ev
      obtain ⟨h2, g2, d2, t2, os'⟩ := s'
      obtain ⟨t0, G, J, kG, ge, hoe, na⟩ := mk_end0 (d2 := d2) (t2 := t2) I1 hsz kk un2 hok2 os2 bare2 ea ed hd1
      refine ⟨rv, n, _, _, ⟨G, g2, d2, t2, os'⟩, _, .ref C, some d, rfl, J, kG, ge, hoe, ⟨rfl, rfl, fun vs hv => ?_⟩, rfl, rfl, na, rfl, bare2, raises_own T.exC T.tyC, q2⟩
      cases hv
      rfl
    | next => exact hq'.elim
    | brk => exact hq'.elim
    | cont => exact hq'.elim
end UfH

/-! # What is known of the heap and stays: the known part G of the heap H, the pool of draws, lists that are being made -/
namespace UfG
open PySem PySem.Spec PyProof.Rows L2
open Evl (Ex)
abbrev SL := L2.St

theorem ex_upd {G H : Hp} {q : Addr} {o : HO} (e : Ex G H) : Ex (upd G q o) (upd H q o) := fun b u h => by
  by_cases hb : b = q
  · rw [hb, upd_same] at h ⊢
    exact h
  · rw [upd_ne hb] at h ⊢
    exact e b u h
theorem ex_in {G H : Hp} {q : Addr} {o : HO} (e : Ex G H) (h : H q = some o) : Ex (upd G q o) H := fun b u hu => by
  by_cases hb : b = q
  · rw [hb, upd_same] at hu
    rw [hb, ← hu]
    exact h
  · rw [upd_ne hb] at hu
    exact e b u hu
theorem ex_new {G : Hp} {q : Addr} {o : HO} (h : G q = none) : Ex G (upd G q o) := Evl.Ex.new h
theorem ex_mut {G H : Hp} {q : Addr} {o : HO} (e : Ex G H) (h : G q = none) : Ex G (upd H q o) := Evl.Ex.mut e h

/-! ### the pool -/
/-- the pool at a, its cells at c, drawn from at most n times: what is left of the number, how often it was drawn from, the cells, the next cell's place, the sum -/
def PoolAt (a c : Addr) (n : Nat) (H : Hp) : Prop := ∃ (x y k m : Int) (cells : List Int), H a = some (.lst [.int x, .int y, .ref c, .int k, .int m]) ∧ H c = some (.lst (cells.map V.int)) ∧
  0 ≤ x ∧ x < 2 ^ 200 ∧ 0 ≤ k ∧ k ≤ 70 * (n : Int) ∧ 0 ≤ m ∧ m < 2 ^ 200 ∧ ∀ z ∈ cells, 0 ≤ z ∧ z < 2 ^ 200
theorem PoolAt.ex {a c : Addr} {n : Nat} {H H' : Hp} (h : PoolAt a c n H) (e : Ex H H') : PoolAt a c n H' := by
  obtain ⟨x, y, k, m, cells, h1, h2, h3⟩ := h
  exact ⟨x, y, k, m, cells, e _ _ h1, e _ _ h2, h3⟩
theorem PoolAt.upd {a c q : Addr} {n : Nat} {o : HO} {H : Hp} (h : PoolAt a c n H) (n1 : a ≠ q) (n2 : c ≠ q) : PoolAt a c n (upd H q o) := by
  obtain ⟨x, y, k, m, cells, h1, h2, h3⟩ := h
  exact ⟨x, y, k, m, cells, by rw [upd_ne n1]; exact h1, by rw [upd_ne n2]; exact h2, h3⟩

/-- H0, G0: the heap and its known part at the entry; p: the pool (its address, its cells', how often it was drawn from at most); ls: lists that are being made; G: what is known and stays; H: the heap -/
structure Lw (H0 G0 : Hp) (p : Option (Addr × Addr × Nat)) (ls : List (Addr × HO)) (G H : Hp) : Prop where
  gh : Ex G H
  g0 : Ex G0 G
  old : ∀ b o, (∀ q, p = some q → b ≠ q.1) → H0 b = some o → H b = some o
  new : ∀ a o, H0 a = some o → G0 a = none → G a = none
  pool : ∀ q, p = some q → PoolAt q.1 q.2.1 q.2.2 H ∧ G q.1 = none ∧ G q.2.1 = none ∧ (∃ o, H0 q.1 = some o) ∧ (∃ o, H0 q.2.1 = some o) ∧ q.1 ≠ q.2.1
  loc : ∀ q ∈ ls, H q.1 = some q.2 ∧ G q.1 = none ∧ H0 q.1 = none
  nd : (ls.map (·.1)).Nodup
section
variable {H0 G0 G H G' H' : Hp} {p : Option (Addr × Addr × Nat)} {ls : List (Addr × HO)} {q : Addr} {o : HO}
theorem Lw.refl (e : Ex G H) : Lw H G none [] G H := ⟨e, Evl.Ex.refl G, fun _ _ _ h => h, fun _ _ _ h => h, (fun _ h => nomatch h), (fun _ h => nomatch h), List.nodup_nil⟩
/-- the heap grows -/
theorem Lw.step (lw : Lw H0 G0 p ls G H) (e : Ex H H') : Lw H0 G0 p ls G H' :=
  ⟨lw.gh.trans e, lw.g0, fun b u n h => e b u (lw.old b u n h), lw.new, fun q h => let ⟨a, r⟩ := lw.pool q h; ⟨a.ex e, r⟩, fun q h => let ⟨a, r⟩ := lw.loc q h; ⟨e _ _ a, r⟩, lw.nd⟩
theorem Lw.free (lw : Lw H0 G0 p ls G H) (h : H q = none) : G q = none := Evl.fresh_back lw.gh h
theorem Lw.there (lw : Lw H0 G0 p ls G H) {a : Addr} {u : HO} (h : H0 a = some u) : ∃ u', H a = some u' := by
  by_cases z : ∀ r, p = some r → a ≠ r.1
  · exact ⟨u, lw.old a u z h⟩
  · have z' : ∃ r, p = some r ∧ a = r.1 := by
      rcases p with _ | r
      · exact absurd (fun r e => nomatch e) z
      · refine ⟨r, rfl, Decidable.byContradiction fun n => z fun r' e => ?_⟩
        rw [← Option.some.inj e]
        exact n
    obtain ⟨r, e, rfl⟩ := z'
    obtain ⟨⟨_, _, _, _, _, h1, _⟩, _⟩ := lw.pool r e
    exact ⟨_, h1⟩
theorem Lw.apart (lw : Lw H0 G0 p ls G H) (h : H q = none) {a : Addr} {u : HO} (ha : H0 a = some u) : a ≠ q := fun z => by
  obtain ⟨u', e⟩ := lw.there ha
  rw [z, h] at e
  cases e
/-- a new object, known from now on -/
theorem Lw.alloc (lw : Lw H0 G0 p ls G H) (h : H q = none) : Lw H0 G0 p ls (upd G q o) (upd H q o) := by
  have eh : Ex H (upd H q o) := ex_new h
  refine ⟨ex_upd lw.gh, lw.g0.trans (ex_new (lw.free h)), fun b u n e => eh b u (lw.old b u n e), fun a u e g => ?_, fun r e => ?_, fun r hr => ?_, lw.nd⟩
  · rw [upd_ne (lw.apart h e)]
    exact lw.new a u e g
  · obtain ⟨h1, h2, h3, ⟨u1, h4⟩, ⟨u2, h5⟩, h6⟩ := lw.pool r e
    refine ⟨h1.ex eh, ?_, ?_, ⟨u1, h4⟩, ⟨u2, h5⟩, h6⟩
    · rw [upd_ne (lw.apart h h4)]
      exact h2
    · rw [upd_ne (lw.apart h h5)]
      exact h3
  · obtain ⟨h1, h2, h3⟩ := lw.loc r hr
    have ne : r.1 ≠ q := fun z => by
      rw [z, h] at h1
      cases h1
    exact ⟨eh _ _ h1, by rw [upd_ne ne]; exact h2, h3⟩
theorem Lw.allocE (lw : Lw H0 G0 p ls G H) (h : H q = none) : ∃ G', Ex G G' ∧ Lw H0 G0 p ls G' (upd H q o) ∧ G' q = some o := ⟨_, ex_new (lw.free h), lw.alloc h, upd_same⟩
/-- a new object that is still being made -/
theorem Lw.make (lw : Lw H0 G0 p ls G H) (h : H q = none) : Lw H0 G0 p ((q, o) :: ls) G (upd H q o) := by
  have eh : Ex H (upd H q o) := ex_new h
  have h0 : H0 q = none := by
    cases e : H0 q with
    | none => rfl
    | some u => exact absurd rfl (lw.apart h e)
  have l2 := lw.step eh
  refine ⟨l2.gh, l2.g0, l2.old, l2.new, l2.pool, fun r hr => ?_, ?_⟩
  · rcases List.mem_cons.mp hr with rfl | hr
    · exact ⟨upd_same, lw.free h, h0⟩
    · exact l2.loc r hr
  · rw [List.map_cons, List.nodup_cons]
    refine ⟨fun hm => ?_, lw.nd⟩
    obtain ⟨r, hr, e⟩ := List.mem_map.mp hm
    have z := (lw.loc r hr).1
    rw [show r.1 = q from e, h] at z
    cases z
/-- it changes -/
theorem Lw.put {o' : HO} (lw : Lw H0 G0 p ((q, o) :: ls) G H) : Lw H0 G0 p ((q, o') :: ls) G (upd H q o') := by
  obtain ⟨hq, gq, h0⟩ := lw.loc (q, o) List.mem_cons_self
  have ne0 : ∀ {a : Addr} {u : HO}, H0 a = some u → a ≠ q := fun {a u} e z => by
    have h0 : H0 q = none := h0
    rw [z, h0] at e
    cases e
  have nd := lw.nd
  rw [List.map_cons, List.nodup_cons] at nd
  refine ⟨ex_mut lw.gh gq, lw.g0, fun b u n e => ?_, lw.new, fun r e => ?_, fun r hr => ?_, ?_⟩
  · rw [upd_ne (ne0 e)]
    exact lw.old b u n e
  · obtain ⟨h1, h2, h3, ⟨u1, h4⟩, ⟨u2, h5⟩, h6⟩ := lw.pool r e
    exact ⟨h1.upd (ne0 h4) (ne0 h5), h2, h3, ⟨u1, h4⟩, ⟨u2, h5⟩, h6⟩
  · rcases List.mem_cons.mp hr with rfl | hr
    · exact ⟨upd_same, gq, h0⟩
    · obtain ⟨h1, h2, h3⟩ := lw.loc r (List.mem_cons_of_mem _ hr)
      have ne : r.1 ≠ q := fun z => nd.1 (List.mem_map.mpr ⟨r, hr, z⟩)
      exact ⟨by rw [upd_ne ne]; exact h1, h2, h3⟩
  · rw [List.map_cons, List.nodup_cons]
    exact nd
/-- it is done: known from now on -/
theorem Lw.keep (lw : Lw H0 G0 p ((q, o) :: ls) G H) : Lw H0 G0 p ls (upd G q o) H ∧ Ex G (upd G q o) := by
  obtain ⟨hq, gq, h0⟩ := lw.loc (q, o) List.mem_cons_self
  have gq : G q = none := gq
  have h0 : H0 q = none := h0
  have ne0 : ∀ {a : Addr} {u : HO}, H0 a = some u → a ≠ q := fun {a u} e z => by
    rw [z, h0] at e
    cases e
  have nd := lw.nd
  rw [List.map_cons, List.nodup_cons] at nd
  refine ⟨⟨ex_in lw.gh hq, lw.g0.trans (ex_new gq), lw.old, fun a u e g => ?_, fun r e => ?_, fun r hr => ?_, nd.2⟩, ex_new gq⟩
  · rw [upd_ne (ne0 e)]
    exact lw.new a u e g
  · obtain ⟨h1, h2, h3, ⟨u1, h4⟩, ⟨u2, h5⟩, h6⟩ := lw.pool r e
    exact ⟨h1, by rw [upd_ne (ne0 h4)]; exact h2, by rw [upd_ne (ne0 h5)]; exact h3, ⟨u1, h4⟩, ⟨u2, h5⟩, h6⟩
  · obtain ⟨h1, h2, h3⟩ := lw.loc r (List.mem_cons_of_mem _ hr)
    have ne : r.1 ≠ q := fun z => nd.1 (List.mem_map.mpr ⟨r, hr, z⟩)
    exact ⟨h1, by rw [upd_ne ne]; exact h2, h3⟩
/-- it is dropped -/
theorem Lw.drop (lw : Lw H0 G0 p ((q, o) :: ls) G H) : Lw H0 G0 p ls G H := by
  have nd := lw.nd
  rw [List.map_cons, List.nodup_cons] at nd
  exact ⟨lw.gh, lw.g0, lw.old, lw.new, lw.pool, fun r hr => lw.loc r (List.mem_cons_of_mem _ hr), nd.2⟩
theorem Lw.at (lw : Lw H0 G0 p ((q, o) :: ls) G H) : H q = some o := (lw.loc (q, o) List.mem_cons_self).1
theorem Lw.at2 {q' : Addr} {o' : HO} (lw : Lw H0 G0 p ((q', o') :: (q, o) :: ls) G H) : H q = some o := (lw.loc (q, o) (List.mem_cons_of_mem _ List.mem_cons_self)).1
/-- an object that was new since the entry is changed again -/
theorem Lw.thaw (lw : Lw H0 G0 p ls G H) (hG : G q = some o) (g0 : G0 q = none) (hl : ∀ r ∈ ls, r.1 ≠ q) : Lw H0 G0 p ((q, o) :: ls) (fun b => if b = q then none else G b) H ∧ Ex (fun b => if b = q then none else G b) G := by
  have h0 : H0 q = none := by
    cases e : H0 q with
    | none => rfl
    | some u =>
      have z := lw.new q u e g0
      rw [hG] at z
      cases z
  have sub : Ex (fun b => if b = q then none else G b) G := fun b u e => by
    by_cases hb : b = q
    · have e : (if b = q then none else G b) = some u := e
      rw [if_pos hb] at e
      cases e
    · have e : (if b = q then none else G b) = some u := e
      rw [if_neg hb] at e
      exact e
  have low : ∀ {b : Addr}, G b = none → (if b = q then none else G b) = none := fun {b} e => by
    by_cases hb : b = q
    · rw [if_pos hb]
    · rw [if_neg hb]
      exact e
  refine ⟨⟨sub.trans lw.gh, fun b u e => ?_, lw.old, fun a u e g => low (lw.new a u e g), fun r e => ?_, fun r hr => ?_, ?_⟩, sub⟩
  · have hb : b ≠ q := fun z => by
      rw [z, g0] at e
      cases e
    show (if b = q then none else G b) = some u
    rw [if_neg hb]
    exact lw.g0 b u e
  · obtain ⟨h1, h2, h3, h4⟩ := lw.pool r e
    exact ⟨h1, low h2, low h3, h4⟩
  · rcases List.mem_cons.mp hr with rfl | hr
    · exact ⟨lw.gh _ _ hG, if_pos rfl, h0⟩
    · obtain ⟨h1, h2, h3⟩ := lw.loc r hr
      exact ⟨h1, low h2, h3⟩
  · rw [List.map_cons, List.nodup_cons]
    refine ⟨fun hm => ?_, lw.nd⟩
    obtain ⟨r, hr, e⟩ := List.mem_map.mp hm
    exact hl r hr e
/-- into a call -/
theorem Lw.enter (lw : Lw H0 G0 p ls G H) : Lw H G none [] G H := .refl lw.gh
theorem Lw.enterP {a c : Addr} {n : Nat} (lw : Lw H0 G0 (some (a, c, n)) ls G H) : Lw H G (some (a, c, n)) [] G H := by
  refine ⟨lw.gh, Evl.Ex.refl G, fun _ _ _ h => h, fun _ _ _ h => h, fun r e => ?_, (fun _ h => nomatch h), List.nodup_nil⟩
  obtain ⟨h1, h2, h3, h4, h5, h6⟩ := lw.pool r e
  have h1' := h1
  obtain ⟨_, _, _, _, _, e1, e2, _⟩ := h1'
  exact ⟨h1, h2, h3, ⟨_, e1⟩, ⟨_, e2⟩, h6⟩
/-- a pool is there from now on -/
theorem Lw.begin {a c : Addr} {n : Nat} {H : Hp} (h : PoolAt a c n H) (hn : a ≠ c) : Lw H (fun _ => none) (some (a, c, n)) [] (fun _ => none) H := by
  refine ⟨(fun _ _ h => nomatch h), Evl.Ex.refl _, fun _ _ _ h => h, fun _ _ _ h => h, fun r e => ?_, (fun _ h => nomatch h), List.nodup_nil⟩
  obtain rfl := Option.some.inj e
  have h1' := h
  obtain ⟨_, _, _, _, _, e1, e2, _⟩ := h1'
  exact ⟨h, rfl, rfl, ⟨_, e1⟩, ⟨_, e2⟩, hn⟩
/-- it was drawn from less often -/
theorem Lw.more {a c : Addr} {n m : Nat} (lw : Lw H0 G0 (some (a, c, n)) ls G H) (h : n ≤ m) : Lw H0 G0 (some (a, c, m)) ls G H := by
  refine ⟨lw.gh, lw.g0, fun b o z => lw.old b o fun q e => ?_, lw.new, fun r e => ?_, lw.loc, lw.nd⟩
  · obtain rfl := Option.some.inj e
    exact z (a, c, m) rfl
  · obtain rfl := Option.some.inj e
    obtain ⟨⟨x, y, k, m', cells, h1, h2, h3, h4, h5, h6, h7⟩, r⟩ := lw.pool (a, c, n) rfl
    exact ⟨⟨x, y, k, m', cells, h1, h2, h3, h4, h5, Int.le_trans h6 (by show 70 * (n : Int) ≤ 70 * (m : Int); omega), h7⟩, r⟩
/-- behind a call -/
theorem Lw.after (lw : Lw H0 G0 p ls G H) (l : Lw H G none [] G' H') : Lw H0 G0 p ls G' H' := by
  have eh : Ex H H' := fun b u h => l.old b u (fun _ z => nomatch z) h
  refine ⟨l.gh, lw.g0.trans l.g0, fun b u n h => eh b u (lw.old b u n h), fun a u h g => ?_, fun r e => ?_, fun r hr => ?_, lw.nd⟩
  · obtain ⟨u', h'⟩ := lw.there h
    exact l.new a u' h' (lw.new a u h g)
  · obtain ⟨h1, h2, h3, ⟨u1, h4⟩, ⟨u2, h5⟩, h6⟩ := lw.pool r e
    obtain ⟨v1, k1⟩ := lw.there h4
    obtain ⟨v2, k2⟩ := lw.there h5
    exact ⟨h1.ex eh, l.new _ _ k1 h2, l.new _ _ k2 h3, ⟨u1, h4⟩, ⟨u2, h5⟩, h6⟩
  · obtain ⟨h1, h2, h3⟩ := lw.loc r hr
    exact ⟨eh _ _ h1, l.new _ _ h1 h2, h3⟩
theorem Lw.afterP {a c : Addr} {n n' : Nat} (lw : Lw H0 G0 (some (a, c, n)) ls G H) (l : Lw H G (some (a, c, n')) [] G' H') : Lw H0 G0 (some (a, c, n')) ls G' H' := by
  obtain ⟨h1, h2, h3, ⟨u1, h4⟩, ⟨u2, h5⟩, h6⟩ := lw.pool (a, c, n) rfl
  refine ⟨l.gh, lw.g0.trans l.g0, fun b u z h => l.old b u z (lw.old b u (fun q e => ?_) h), fun b u h g => ?_, fun r e => ?_, fun r hr => ?_, lw.nd⟩
  · obtain rfl := Option.some.inj e
    exact z (a, c, n') rfl
  · obtain ⟨u', h'⟩ := lw.there h
    exact l.new b u' h' (lw.new b u h g)
  · obtain rfl := Option.some.inj e
    obtain ⟨k1, k2, k3, k4, k5, k6⟩ := l.pool (a, c, n') rfl
    exact ⟨k1, k2, k3, ⟨u1, h4⟩, ⟨u2, h5⟩, h6⟩
  · obtain ⟨k1, k2, k3⟩ := lw.loc r hr
    have ne : ∀ q, some (a, c, n') = some q → r.1 ≠ q.1 := fun q e z => by
      obtain rfl := Option.some.inj e
      rw [z] at k3
      have h4 : H0 a = some u1 := h4
      rw [show H0 a = none from k3] at h4
      cases h4
    exact ⟨l.old _ _ ne k1, l.new _ _ k1 k2, k3⟩
/-- the pool's own list changes -/
theorem Lw.turn {a c : Addr} {n n' : Nat} {x y k m : Int} (lw : Lw H0 G0 (some (a, c, n)) ls G H) (h0 : 0 ≤ x) (h1 : x < 2 ^ 200) (h2 : 0 ≤ k) (h3 : k ≤ 70 * (n' : Int)) (h4 : 0 ≤ m) (h5 : m < 2 ^ 200) :
    Lw H0 G0 (some (a, c, n')) ls G (upd H a (.lst [.int x, .int y, .ref c, .int k, .int m])) := by
  obtain ⟨⟨_, _, _, _, cells, e1, e2, _, _, _, _, _, _, e8⟩, p2, p3, ⟨u1, p4⟩, p5, p6⟩ := lw.pool (a, c, n) rfl
  refine ⟨ex_mut lw.gh p2, lw.g0, fun b u z h => ?_, lw.new, fun r e => ?_, fun r hr => ?_, lw.nd⟩
  · rw [upd_ne (z (a, c, n') rfl)]
    refine lw.old b u (fun q e => ?_) h
    obtain rfl := Option.some.inj e
    exact z (a, c, n') rfl
  · obtain rfl := Option.some.inj e
    refine ⟨⟨x, y, k, m, cells, upd_same, ?_, h0, h1, h2, h3, h4, h5, e8⟩, p2, p3, ⟨u1, p4⟩, p5, p6⟩
    rw [upd_ne (Ne.symm p6)]
    exact e2
  · obtain ⟨k1, k2, k3⟩ := lw.loc r hr
    have ne : r.1 ≠ a := fun z => by
      rw [z] at k3
      have p4 : H0 a = some u1 := p4
      rw [k3] at p4
      cases p4
    exact ⟨by rw [upd_ne ne]; exact k1, k2, k3⟩
end

/-! ### data -/
mutual
/-- in the known part G stands the data d -/
inductive Rp (G : Hp) : V → PyData → Prop
  | non : Rp G .non .none
  | bl (b : Bool) : Rp G (.bl b) (.bool b)
  | int (i : Int) : Rp G (.int i) (.int i)
  | str (x : Str) : Rp G (.str x) (.str x)
  | lst {a : Addr} {xs : List V} {ds : List PyData} : G a = some (.lst xs) → RpAll G xs ds → Rp G (.ref a) (.list ds)
  | tup {a : Addr} {xs : List V} {ds : List PyData} : G a = some (.tup xs) → RpAll G xs ds → Rp G (.ref a) (.tuple ds)
inductive RpAll (G : Hp) : List V → List PyData → Prop
  | nil : RpAll G [] []
  | cons {v : V} {vs : List V} {d : PyData} {ds : List PyData} : Rp G v d → RpAll G vs ds → RpAll G (v :: vs) (d :: ds)
end
section
variable {G G' : Hp}
mutual
theorem Rp.ex (e : Ex G G') : ∀ {v : V} {d : PyData}, Rp G v d → Rp G' v d
  | _, _, .non => .non
  | _, _, .bl b => .bl b
  | _, _, .int i => .int i
  | _, _, .str x => .str x
  | _, _, .lst h r => .lst (e _ _ h) (RpAll.ex e r)
  | _, _, .tup h r => .tup (e _ _ h) (RpAll.ex e r)
theorem RpAll.ex (e : Ex G G') : ∀ {vs : List V} {ds : List PyData}, RpAll G vs ds → RpAll G' vs ds
  | _, _, .nil => .nil
  | _, _, .cons a b => .cons (Rp.ex e a) (RpAll.ex e b)
end
theorem RpAll.length : ∀ {vs : List V} {ds : List PyData}, RpAll G vs ds → vs.length = ds.length
  | _, _, .nil => rfl
  | _, _, .cons _ t => by rw [List.length_cons, List.length_cons, RpAll.length t]
theorem RpAll.get : ∀ {vs : List V} {ds : List PyData} {i : Nat} {d : PyData}, RpAll G vs ds → ds[i]? = some d → ∃ v, vs[i]? = some v ∧ Rp G v d
  | _, _, _, _, .nil, h => by simp at h
  | _, _, 0, _, .cons a _, h => by
    simp at h
    subst h
    exact ⟨_, rfl, a⟩
  | _, _, i + 1, _, .cons _ t, h => by
    obtain ⟨v, h1, h2⟩ := RpAll.get (i := i) t (by simpa using h)
    exact ⟨v, by simpa using h1, h2⟩
theorem RpAll.get' : ∀ {vs : List V} {ds : List PyData} {i : Nat} {v : V}, RpAll G vs ds → vs[i]? = some v → ∃ d, ds[i]? = some d ∧ Rp G v d
  | _, _, _, _, .nil, h => by simp at h
  | _, _, 0, _, .cons a _, h => by
    simp at h
    subst h
    exact ⟨_, rfl, a⟩
  | _, _, i + 1, _, .cons _ t, h => by
    obtain ⟨v, h1, h2⟩ := RpAll.get' (i := i) t (by simpa using h)
    exact ⟨v, by simpa using h1, h2⟩
theorem RpAll.append : ∀ {vs ws : List V} {ds es : List PyData}, RpAll G vs ds → RpAll G ws es → RpAll G (vs ++ ws) (ds ++ es)
  | _, _, _, _, .nil, s => s
  | _, _, _, _, .cons a t, s => .cons a (RpAll.append t s)
theorem RpAll.ints : ∀ ns : List Int, RpAll G (ns.map V.int) (ns.map PyData.int)
  | [] => .nil
  | n :: r => .cons (.int n) (RpAll.ints r)
theorem RpAll.ints_eq : ∀ {vs : List V} {ns : List Int}, RpAll G vs (ns.map PyData.int) → vs = ns.map V.int
  | [], [], _ => rfl
  | [], _ :: _, h => nomatch h
  | _ :: _, [], h => nomatch h
  | v :: vs, n :: ns, h => by
    cases h with
    | cons a t =>
      cases a
      rw [List.map_cons, ← RpAll.ints_eq t]
theorem RpAll.len' {α : Type} {G : Hp} {xs : List V} {l : List α} {f : α → PyData} (h : RpAll G xs (l.map f)) : xs.length = l.length := by
  rw [h.length, List.length_map]
theorem RpAll.at' {α : Type} {G : Hp} {xs : List V} {l : List α} {f : α → PyData} {i : Nat} {x : V} (h : RpAll G xs (l.map f)) (hx : xs[i]? = some x) : ∃ q, l[i]? = some q ∧ Rp G x (f q) := by
  obtain ⟨d, hd, r⟩ := h.get' hx
  rw [List.getElem?_map] at hd
  cases e : l[i]? with
  | none =>
    rw [e] at hd
    cases hd
  | some q =>
    rw [e] at hd
    obtain rfl := Option.some.inj hd
    exact ⟨q, rfl, r⟩
theorem RpAll.one {v : V} {d : PyData} (h : Rp G v d) : RpAll G [v] [d] := .cons h .nil
theorem Rp.tupI {a : Addr} {ns : List Int} (h : G a = some (.tup (ns.map V.int))) : Rp G (.ref a) (.tuple (ns.map PyData.int)) := .tup h (RpAll.ints ns)
theorem Rp.lstI {a : Addr} {ns : List Int} (h : G a = some (.lst (ns.map V.int))) : Rp G (.ref a) (.list (ns.map PyData.int)) := .lst h (RpAll.ints ns)
mutual
theorem Rp.dp {K : PySem.W.Frag} : ∀ {v : V} {d : PyData}, Rp G v d → Dp K G v d
  | _, _, .non => .non
  | _, _, .bl b => .bl b
  | _, _, .int i => .int i
  | _, _, .str x => .str x
  | _, _, .lst h r => .lst (SqL.of h) (RpAll.dp r)
  | _, _, .tup h r => .tup (SqT.of h) (RpAll.dp r)
theorem RpAll.dp {K : PySem.W.Frag} : ∀ {vs : List V} {ds : List PyData}, RpAll G vs ds → DpAll K G vs ds
  | _, _, .nil => .nil
  | _, _, .cons a b => .cons (Rp.dp a) (RpAll.dp b)
end
end

/-! ### the forms of promises -/
/-- nothing of the heap changes -/
def PureSp (pre : List V → Hp → Prop) (post : List V → Hp → Hp → V → Prop) : Sp := fun vs H Q _ => ∃ G, Lw H G none [] G H ∧ pre vs G ∧ ∀ G' H' v, Lw H G none [] G' H' → post vs G G' v → Q v H'
/-- the pool (the first argument) may change: d draws at most -/
def PoolSp (d : Nat) (pre : List V → Hp → Prop) (post : List V → Hp → Hp → V → Prop) : Sp := fun vs H Q _ => ∃ G a c n ws, vs = .ref a :: ws ∧ Lw H G (some (a, c, n)) [] G H ∧ n + d ≤ 1000000 ∧ pre ws G ∧ ∀ G' H' v, Lw H G (some (a, c, n + d)) [] G' H' → post ws G G' v → Q v H'
section
variable {H0 G0 G H : Hp} {p : Option (Addr × Addr × Nat)} {ls : List (Addr × HO)} {pre : List V → Hp → Prop} {post : List V → Hp → Hp → V → Prop} {vs ws : List V} {Q : VK} {E : XK} {a c : Addr}
theorem call_pure (lw : Lw H0 G0 p ls G H) (hp : pre vs G) (k : ∀ G' H' v, Ex G G' → Lw H0 G0 p ls G' H' → post vs G G' v → Q v H') : PureSp pre post vs H Q E :=
  ⟨G, lw.enter, hp, fun G' H' v l hv => k G' H' v l.g0 (lw.after l) hv⟩
theorem call_pool {n d : Nat} (lw : Lw H0 G0 (some (a, c, n)) ls G H) (hn : n + d ≤ 1000000) (hp : pre ws G) (k : ∀ G' H' v, Ex G G' → Lw H0 G0 (some (a, c, n + d)) ls G' H' → post ws G G' v → Q v H') : PoolSp d pre post (.ref a :: ws) H Q E :=
  ⟨G, a, c, n, ws, rfl, lw.enterP, hn, hp, fun G' H' v l hv => k G' H' v l.g0 (lw.afterP l) hv⟩
end

/-! ### readings of single operations over known data -/
section
variable {K : PySem.W.Frag} {H0 G0 G H : Hp} {p : Option (Addr × Addr × Nat)} {ls : List (Addr × HO)} {Q : VK} {x y : V} {d e : PyData} {ds : List PyData} {n : Nat}
theorem SqL.g {a : Addr} {xs : List V} (lw : Lw H0 G0 p ls G H) (h : G a = some (.lst xs)) : SqL K H a xs := L2.SqL.of (lw.gh _ _ h)
theorem SqT.g {a : Addr} {xs : List V} (lw : Lw H0 G0 p ls G H) (h : G a = some (.tup xs)) : SqT K H a xs := L2.SqT.of (lw.gh _ _ h)
theorem r_ixL (lw : Lw H0 G0 p ls G H) (r : Rp G x (.list ds)) (h : ds[n]? = some d) (k : ∀ v, Rp G v d → Q v H) : rIxL K x (.int (n : Int)) H Q := by
  cases r with
  | lst ha rs =>
    obtain ⟨v, hv, rv⟩ := rs.get h
    exact ⟨_, _, _, v, rfl, rfl, SqL.g lw ha, atI_nat hv, k v rv⟩
theorem r_ixT (lw : Lw H0 G0 p ls G H) (r : Rp G x (.tuple ds)) (h : ds[n]? = some d) (k : ∀ v, Rp G v d → Q v H) : rIxT K x (.int (n : Int)) H Q := by
  cases r with
  | tup ha rs =>
    obtain ⟨v, hv, rv⟩ := rs.get h
    exact ⟨_, _, _, v, rfl, rfl, SqT.g lw ha, atI_nat hv, k v rv⟩
theorem Rp.up (lw : Lw H0 G0 p ls G H) (r : Rp G x d) : Dp K H x d := (r.ex lw.gh).dp
theorem r_eqD (lw : Lw H0 G0 p ls G H) (r : Rp G x d) (s : Rp G y e) (hd : SeqAt.shaped d = true) (he : SeqAt.shaped e = true) (k : Q (.bl (PyData.eqv d e)) H) : rEqD K x y H Q :=
  ⟨d, e, Rp.up lw r, Rp.up lw s, hd, he, k⟩
theorem r_neD (lw : Lw H0 G0 p ls G H) (r : Rp G x d) (s : Rp G y e) (hd : SeqAt.shaped d = true) (he : SeqAt.shaped e = true) (k : Q (.bl (!PyData.eqv d e)) H) : rNeD K x y H Q :=
  ⟨d, e, Rp.up lw r, Rp.up lw s, hd, he, k⟩
/-- a new tuple, a new list, known from now on -/
theorem t_tup {xs : List V} (lw : Lw H0 G0 p ls G H) (hz : xs.length ≤ 100000) (k : ∀ t G' H', Ex G G' → Lw H0 G0 p ls G' H' → G' t = some (.tup xs) → Q (.ref t) H') :
    xs.length ≤ sizeLine ∧ ∀ t, H t = none → Q (.ref t) (upd H t (.tup xs)) :=
  ⟨Evl.sz_of hz, fun t ht => k t (upd G t (.tup xs)) _ (ex_new (lw.free ht)) (lw.alloc ht) upd_same⟩
theorem t_lst {xs : List V} (lw : Lw H0 G0 p ls G H) (hz : xs.length ≤ 100000) (k : ∀ t G' H', Ex G G' → Lw H0 G0 p ls G' H' → G' t = some (.lst xs) → Q (.ref t) H') :
    xs.length ≤ sizeLine ∧ ∀ t, H t = none → Q (.ref t) (upd H t (.lst xs)) :=
  ⟨Evl.sz_of hz, fun t ht => k t (upd G t (.lst xs)) _ (ex_new (lw.free ht)) (lw.alloc ht) upd_same⟩
/-- shapes -/
theorem lay_ints : ∀ ns : List Int, PyData.canLayAll0 (ns.map PyData.int) = true
  | [] => by simp only [List.map_nil, PyData.canLayAll0]
  | n :: r => by
    rw [List.map_cons]
    simp only [PyData.canLayAll0, PyData.canLay0, Bool.true_and]
    exact lay_ints r
theorem depth_ints : ∀ ns : List Int, PyData.depthAll (ns.map PyData.int) = 0
  | [] => by simp only [List.map_nil, PyData.depthAll]
  | n :: r => by
    rw [List.map_cons]
    simp only [PyData.depthAll, PyData.depth, depth_ints r]
    rfl
theorem shaped_int (i : Int) : SeqAt.shaped (.int i) = true := by
  unfold SeqAt.shaped
  simp only [PyData.canLay0, PyData.depth]
  rfl
theorem shaped_tupI (ns : List Int) : SeqAt.shaped (.tuple (ns.map PyData.int)) = true := by
  unfold SeqAt.shaped
  simp only [PyData.canLay0, PyData.depth, lay_ints, depth_ints]
  rfl
theorem eqv_ints : ∀ ns ms : List Int, PyData.eqvAll (ns.map PyData.int) (ms.map PyData.int) = decide (ns = ms)
  | [], [] => by simp [PyData.eqvAll]
  | [], m :: r => by simp [PyData.eqvAll]
  | n :: r, [] => by simp [PyData.eqvAll]
  | n :: r, m :: s => by
    rw [List.map_cons, List.map_cons]
    simp only [PyData.eqvAll, PyData.eqv, eqv_ints r s]
    by_cases h : n = m
    · subst h
      simp
    · have e : (n == m) = false := beq_eq_false_iff_ne.mpr h
      rw [e, Bool.false_and]
      exact (decide_eq_false (fun z => h (List.cons.inj z).1)).symm
end
end UfG

/-! # Defs and error classes of a text; promises of defs that raise -/
namespace UfT
open PySem PySem.Spec PyProof.Rows L2 UfG
open Evl (Ex)

theorem units_h {k : Nat} {A : Around} (r : L2H.RoomH k A) : A.units + 64 < cLine := by
  have := r.un
  omega
theorem units0_h {k : Nat} {A : Around} (r : L2H.RoomH k A) : A.units < cLine := by
  have := r.un
  omega
/-- a def of the text -/
structure FnAt (K : PySem.W.Frag) (mg : Str → Option Value) (x : Str) (st : Stmt) (ps : List Str) where
  f : Addr
  fd : FuncData
  F : Fun K x x st f fd
  g : mg x = some (.ref f)
  b : Binds K fd ps []
/-- an error class with an own __init__ -/
structure ExAt (K : PySem.W.Frag) (mg : Str → Option Value) (x qual : Str) (st : Stmt) (ps : List Str) where
  C : Addr
  fI : Addr
  fd : FuncData
  g : mg x = some (.ref C)
  T : OexC K C
  kn : UfH.ExKnow K C
  iC : PySem.W.findIn K (.ref C) "__init__" = some (some (.ref fI))
  tI : PySem.W.typeIn K (.ref fI) = some (.type "function")
  F : Fun K "__init__" qual st fI fd
  b : Binds K fd ps []

/-- a class of the text -/
structure ClAt (mg : Str → Option Value) (x : Str) where
  C : Addr
  g : mg x = some (.ref C)
theorem takesN0 {X : Cx} : L2N.Takes X (fun _ _ _ _ => False) := fun _ _ x => by
  obtain ⟨_, _, _, _, _, _, _, _, _, _, _, _, _, _, _, _, z⟩ := x
  exact z.elim
/-- in the suite of an except clause -/
theorem hotOf {A : Around} {a : Addr} {oe : Obj} {cls : Value} {d : Option Addr} (hz : L2N.Zn cls d oe) (hf : ∃ vs, oe.data = .fields vs) : L2H.Hot1 (A.mark (some (.ref a))) (a, oe) := by
  obtain ⟨vs, e⟩ := hf
  exact ⟨rfl, vs, e, hz.2.2 vs e⟩
/-- what isinstance tells of an instance of the class at D -/
def Kits (K : PySem.W.Frag) (D : Addr) (cs : List (Value × Bool)) : Prop := ∀ c ∈ cs, PySem.W.kitOne K (.ref D) c.1 = some c.2

section
variable {K : PySem.W.Frag} {D : Addr} {c : Value × Bool} {cs : List (Value × Bool)}
theorem Kits.k0 (h : Kits K D (c :: cs)) : PySem.W.kitOne K (.ref D) c.1 = some c.2 := h c List.mem_cons_self
theorem Kits.tl (h : Kits K D (c :: cs)) : Kits K D cs := fun x hx => h x (List.mem_cons_of_mem _ hx)
theorem Kits.nil : Kits K D [] := fun _ hx => nomatch hx
theorem Kits.cons {v : Value} {b : Bool} (h : PySem.W.kitOne K (.ref D) v = some b) (r : Kits K D cs) : Kits K D ((v, b) :: cs) := fun x hx => by
  rcases List.mem_cons.mp hx with e | e
  · rw [e]
    exact h
  · exact r x e
end

/-! ### __init__ of one field -/
/-- self.f = y of a fresh error of the class at C -/
def spI1 (K : PySem.W.Frag) (f : Str) : Sp := fun vs H Q _ => ∃ (a C : Addr) (y : V), vs = [.ref a, y] ∧ OexC K C ∧ PySem.W.findIn K (.ref C) f = some none ∧ H a = some (exo a C none) ∧
  ∀ dx, H dx = none → dx ≠ a → Q .non (upd (upd H dx (exd dx [(f, y)])) a (exo a C (some dx)))
theorem mk1_of {K : PySem.W.Frag} {C : Addr} {f : Str} {y : V} {H1 : Hp} {Q : XK} (T : OexC K C) (hn : PySem.W.findIn K (.ref C) f = some none) (h : ∀ d, H1 d = none → Q (.ref C) (some d) (upd H1 d (.xd [(f, y)]))) :
    [y].length ≤ 1000 ∧ ∀ a, H1 a = none → spI1 K f (.ref a :: ([y] ++ [])) (upd H1 a (exo a C none))
      (fun v H2 => v = .non ∧ ∃ (d : Addr) (fs : List (Str × V)), H2 a = some (exo a C (some d)) ∧ H2 d = some (exd d fs) ∧ H1 d = none ∧ Q (.ref C) (some d) (upd (del H2 a) d (.xd fs))) (fun _ _ _ => False) := by
  refine ⟨(by show 1 ≤ 1000; decide), fun a ha => ⟨a, C, y, rfl, T, hn, upd_same, fun dx hd hne => ⟨rfl, dx, [(f, y)], upd_same, ?_, ?_, ?_⟩⟩⟩
  · rw [upd_ne hne, upd_same]
  · rw [upd_ne hne] at hd
    exact hd
  · have hd' : H1 dx = none := by
      rw [upd_ne hne] at hd
      exact hd
    have e : L2.upd (del (L2.upd (L2.upd (L2.upd H1 a (exo a C none)) dx (exd dx [(f, y)])) a (exo a C (some dx))) a) dx (.xd [(f, y)]) = L2.upd H1 dx (.xd [(f, y)]) := by
      funext b
      by_cases hb : b = dx
      · rw [hb, upd_same, upd_same]
      · rw [upd_ne hb, upd_ne hb]
        by_cases hba : b = a
        · rw [hba, del_same, ha]
        · rw [del_ne hba, upd_ne hba, upd_ne hb, upd_ne hba]
    rw [e]
    exact h dx hd'

/-! ### defs that raise -/
section
variable {P : Program} {w : World} {K : PySem.W.Frag} {mg : Str → Option Value} {base : Heap}
theorem fun_okX {x qual : Str} {st : Stmt} {f : Addr} {fd : FuncData} {N ps : List Str} {k : Nat} {sp : Sp} (F : Fun K x qual st f fd) (S : FnScope N ps (defScope st)) (len : ∀ vs H Q E, sp vs H Q E → vs.length = ps.length)
    (body : ∀ (cdv : Value) (A : Around) (outer : List Env) (s : Shared) (H : Hp) (vs : List V) (Q : VK) (E : XK), Room k (A.deeper (envOfC qual (defScope st) s.heap.objs.size f cdv)) → sp vs H Q E →
      ∃ t, PSs (cxOf (L2N.CX P w) P w K mg base N qual (defScope st) f cdv A outer s H E) (defBody st) t ∧ t { nx := fun _ H' => Q .non H', rt := Q } (start N vs) H) : FnOk P w K mg base (L2N.CX P w) (k + 1) f fd ps sp := by
  obtain ⟨oc, od, kV, doc, pm, an, cdv, ct, osl, rfl, lk, hcd⟩ := F.ex
  exact fn_of lk hcd S len fun A outer s H vs Q E hr hsp => body cdv A outer s H vs Q E hr hsp
end
/-- nothing of the heap changes; or an error is raised: C its class, d its own dict -/
def RaiseSp (pre : List V → Hp → Prop) (post : List V → Hp → Hp → V → Prop) (exc : List V → Hp → Addr → Addr → Prop) : Sp := fun vs H Q E => ∃ G, Lw H G none [] G H ∧ pre vs G ∧
  (∀ G' H' v, Lw H G none [] G' H' → post vs G G' v → Q v H') ∧ ∀ G' H' C d, Lw H G none [] G' H' → exc vs G' C d → E (.ref C) (some d) H'
theorem call_raise {H0 G0 G H : Hp} {p : Option (Addr × Addr × Nat)} {ls : List (Addr × HO)} {pre : List V → Hp → Prop} {post : List V → Hp → Hp → V → Prop} {exc : List V → Hp → Addr → Addr → Prop} {vs : List V} {Q : VK} {E : XK}
    (lw : Lw H0 G0 p ls G H) (hp : pre vs G) (k : ∀ G' H' v, Ex G G' → Lw H0 G0 p ls G' H' → post vs G G' v → Q v H') (kx : ∀ G' H' C d, Ex G G' → Lw H0 G0 p ls G' H' → exc vs G' C d → E (.ref C) (some d) H') :
    RaiseSp pre post exc vs H Q E := ⟨G, lw.enter, hp, fun G' H' v l hv => k G' H' v l.g0 (lw.after l) hv, fun G' H' C d l hv => kx G' H' C d l.g0 (lw.after l) hv⟩
/-- the own dict of a new error is known from now on -/
theorem Lw.errd {H0 G0 G H : Hp} {p : Option (Addr × Addr × Nat)} {ls : List (Addr × HO)} {d : Addr} {o : HO} (lw : Lw H0 G0 p ls G H) (h : H d = none) : Lw H0 G0 p ls (upd G d o) (upd H d o) := lw.alloc h
end UfT

/-! # More rules: comb, sum of a tuple, enumerate of a tuple, two lists of ints in order -/
namespace UfM
open PySem PySem.Spec PyProof.Rows L2
abbrev SL := L2.St

/-! ### math.comb -/
section
variable {X : Cx}
def rComb : List V → Hp → VK → Prop := fun vs H Q => ∃ a b : Int, vs = [.int a, .int b] ∧ 0 ≤ a ∧ 0 ≤ b ∧ a ≤ 18000 ∧ Q (.int (PySem.W.mcComb a b)) H
theorem cr_comb : CallR X (.builtin "math.comb") rComb := by
  intro pins s σ H vs us Q I r h
  obtain ⟨a, b, rfl, ha, hb, hz, q⟩ := h
  obtain ⟨t, u, rfl⟩ := Vals.int2 r
  exact PySem.W.mc_comb ha hb (by omega) (.inr hz) fun _ => ⟨.int _, H, I.tok _, ⟨_, rfl⟩, q⟩

/-! ### sum of a tuple of ints -/
def rSumT (K : PySem.W.Frag) : List V → Hp → VK → Prop := fun vs H Q => ∃ (a : Addr) (ns : List Int), vs = [V.ref a] ∧ SqT K H a (ns.map V.int) ∧ Q (.int ns.sum) H
theorem cr_sumT (hc : X.calm = true) : CallR X (.builtin "sum") (rSumT X.K) := by
  intro pins s σ H vs us Q I r h
  obtain ⟨a, ns, rfl, hs, q⟩ := h
  obtain ⟨its, rv, hl, _⟩ := I.tuple hs
  rw [Vals.ref1 r]
  have hi := rv.ints
  obtain ⟨xs, e⟩ := hi.allInts.items
  have hn : numsOf (intItems xs).toList = ns := by rw [← e]; exact hi.numsOf
  rw [nums_intItems] at hn
  have hl' : s.heap.IsTuple a its.toArray := hl
  rw [e] at hl'
  refine PySem.W.ktm_sumG (I.ok.hd hc) hl' fun h' tk t' hk => ?_
  rw [preSum_eq, List.take_of_length_le (by simp), hn]
  exact ⟨.int _, H, I.kept hk, ⟨_, rfl⟩, q⟩

/-! ### a list of ints that is greater than another one -/
theorem first_yes {e r : Nat → Bool} {fin : Bool} {k : Nat} : ∀ (l1 l2 : List Nat), (∀ j ∈ l1, e j = true) → e k = false → r k = true → SeqAt.firstLt e r fin (l1 ++ k :: l2) = true
  | [], l2, _, hk, hr => by
    rw [List.nil_append, SeqAt.firstLt_no hk, hr]
  | j :: l1, l2, h, hk, hr => by
    rw [List.cons_append, SeqAt.firstLt_yes (h j List.mem_cons_self)]
    exact first_yes l1 l2 (fun i hi => h i (List.mem_cons_of_mem _ hi)) hk hr
theorem range_cut {k n : Nat} (h : k < n) : List.range n = List.range k ++ k :: (List.range (n - k - 1)).map (k + 1 + ·) := by
  have e : n = k + ((n - k - 1) + 1) := by omega
  rw [e, List.range_add, List.range_succ_eq_map, List.map_cons, List.map_map]
  have z : k + (n - k - 1 + 1) - k - 1 = n - k - 1 := by omega
  rw [z]
  congr 2
  apply List.map_congr_left
  intro a _
  show k + (a + 1) = k + 1 + a
  omega
def rGtL (K : PySem.W.Frag) : R2 := fun x y H Q => ∃ (a b : Addr) (ns ms : List Int) (k : Nat) (u v : Int), x = .ref a ∧ y = .ref b ∧ SqL K H a (ns.map V.int) ∧ SqL K H b (ms.map V.int) ∧
  (∀ j < k, ns[j]? = ms[j]?) ∧ ns[k]? = some u ∧ ms[k]? = some v ∧ v < u ∧ Q (.bl true) H
theorem op_gtL (hu : X.A.units < cLine) : OpR X (compareOp .Gt) (rGtL X.K) := by
  intro pins s σ H x y u v Q I rx ry h
  obtain ⟨a, b, ns, ms, k, p, q, rfl, rfl, ha, hb, eq, hp, hq, hlt, g⟩ := h
  cases rx
  cases ry
  obtain ⟨its, rv, la, _⟩ := I.list ha
  obtain ⟨jts, rw', lb, _⟩ := I.list hb
  have n1 : its.toArray.size = ns.length := by rw [List.size_toArray, ← rv.length, List.length_map]
  have n2 : jts.toArray.size = ms.length := by rw [List.size_toArray, ← rw'.length, List.length_map]
  have at1 : ∀ j (h1 : j < its.toArray.size), ∃ t, its.toArray[j] = .int (ns.getD j 0) t := fun j h1 => by
    have hj : j < ns.length := by omega
    obtain ⟨w, hw, r⟩ := rv.get (i := j) (x := .int ns[j]) (by rw [List.getElem?_map, List.getElem?_eq_getElem hj]; rfl)
    obtain ⟨t, rfl⟩ := r
    refine ⟨t, ?_⟩
    have z : its[j]? = some its.toArray[j] := by simp
    rw [hw] at z
    rw [← Option.some.inj z]
    simp [List.getD, List.getElem?_eq_getElem hj]
  have at2 : ∀ j (h1 : j < jts.toArray.size), ∃ t, jts.toArray[j] = .int (ms.getD j 0) t := fun j h1 => by
    have hj : j < ms.length := by omega
    obtain ⟨w, hw, r⟩ := rw'.get (i := j) (x := .int ms[j]) (by rw [List.getElem?_map, List.getElem?_eq_getElem hj]; rfl)
    obtain ⟨t, rfl⟩ := r
    refine ⟨t, ?_⟩
    have z : jts[j]? = some jts.toArray[j] := by simp
    rw [hw] at z
    rw [← Option.some.inj z]
    simp [List.getD, List.getElem?_eq_getElem hj]
  have k1 := (List.getElem?_eq_some_iff.mp hp).1
  have k2 := (List.getElem?_eq_some_iff.mp hq).1
  have R := SeqAt.RcOp.lists_gt (A := X.A) (s := s) (e := fun j => ns.getD j 0 == ms.getD j 0) (r := fun j => decide (ms.getD j 0 < ns.getD j 0)) la.isList lb.isList hu
    (fun j h1 h2 => by
      obtain ⟨t, e1⟩ := at1 j h1
      obtain ⟨t', e2⟩ := at2 j h2
      rw [e1, e2]
      exact SeqAt.EqAt.int_int _ _ _ _)
    (fun j h1 h2 _ => by
      obtain ⟨t, e1⟩ := at1 j h1
      obtain ⟨t', e2⟩ := at2 j h2
      rw [e1, e2]
      exact fun _ _ _ _ z => PyProof.Rows.gt_int z)
  refine R X.prog X.w _ _ ?_
  have val : SeqAt.firstLt (fun j => ns.getD j 0 == ms.getD j 0) (fun j => decide (ms.getD j 0 < ns.getD j 0)) (decide (its.toArray.size > jts.toArray.size)) (List.range (min its.toArray.size jts.toArray.size)) = true := by
    rw [range_cut (show k < min its.toArray.size jts.toArray.size by omega)]
    refine first_yes _ _ (fun j hj => ?_) ?_ ?_
    · have z := eq j (List.mem_range.mp hj)
      simp [List.getD, z]
    · simp [List.getD, hp, hq]
      omega
    · simp [List.getD, hp, hq]
      omega
  rw [val]
  exact ⟨.bl true, H, I, rfl, g⟩
end

/-! ### enumerate(t), t a tuple -/
theorem meets_enum_tup {v : Value} {o : Obj} {Hs : Heap → Prop} (B : Begins v o Hs) :
    Meets (Builtin.«enumerate.__new__» ⟨[.type "enumerate", v], []⟩) (fun _ R s => Hs s.heap ∧
      R (.ok (.ret (.ref (s.heap.push o).objs.size))) { s with heap := (s.heap.push o).push { cls := .type "enumerate", data := .fields #[.none, .bool false, .ref s.heap.objs.size, rawInt 0, .none, .none] } }) :=
  .of_wp fun prog w A R s h => by
    obtain ⟨hp, g, d, tk, os⟩ := s
    obtain ⟨h1, h⟩ := h
    have known := sub_enumerate
    have q1 : ∀ {A' : Around} {E : Value → Shared → Prop} {Q : Value → Shared → Prop}, Q (.ref hp.objs.size) ⟨hp.push o, g, d, tk, os⟩ → wpAny (model prog w) A' (pyIter v) Q E ⟨hp, g, d, tk, os⟩ := fun q => B.iter prog w _ _ ⟨hp, g, d, tk, os⟩ _ h1 q
    wp_walk using q1
    refine wpAny_stack_any fun st => wpAny_pure ?_
    split
    · rename_i c _ _ _ _ _
      cases (c == Value.type "enumerate") <;> (wp_walk using q1; exact ⟨_, rfl, h⟩)
    · (wp_walk using q1; exact ⟨_, rfl, h⟩)
theorem call_enum_tup {prog : Program} {w : World} {A : Around} {E : Value → Shared → Prop} {s : Shared} {v : Value} {o : Obj} {Hs : Heap → Prop} {Q : Value → Shared → Prop} (B : Begins v o Hs) (h1 : Hs s.heap)
    (h : ∀ h', IsEnum h' (s.heap.objs.size + 1) s.heap.objs.size 0 .none → h'.get? s.heap.objs.size = some o →
      (∀ b o, s.heap.get? b = some o → h'.get? b = some o) → Q (.ref (s.heap.objs.size + 1)) { s with heap := h' }) :
    wpAny (model prog w) A (call (.type "enumerate") [v]) Q E s := by
  refine callType_new F.called_enumerate (by decide) (F.typeCall_enumerate_1 _) (F.newCall_enumerate_1 _) (fun obj => F.args_object_init_2 obj _) F.entry_enumerate_new (meets_enum_tup B) ⟨h1, ?_⟩
  have hz : (s.heap.push o).objs.size = s.heap.objs.size + 1 := Heap.size_push ..
  show _ ∧ _
  rw [hz]
  have he : IsEnum ((s.heap.push o).push { cls := .type "enumerate", data := .fields #[.none, .bool false, .ref s.heap.objs.size, rawInt 0, .none, .none] }) (s.heap.objs.size + 1) s.heap.objs.size 0 .none := by
    have z := Heap.get?_push_size (s.heap.push o) (o := { cls := .type "enumerate", data := .fields #[.none, .bool false, .ref s.heap.objs.size, rawInt 0, .none, .none] }) rfl
    rw [hz] at z
    exact z
  exact ⟨⟨_, he, rfl⟩, h _ he (Heap.get?_push_of_some _ (Heap.get?_push_size _ B.free)) fun b o x => Heap.get?_push_of_some _ (Heap.get?_push_of_some _ x)⟩
def Itet (K : PySem.W.Frag) (a : Addr) : It :=
  ⟨fun i H => ∃ (xs : List V) (x : V), SqT K H a xs ∧ xs[i]? = some x, fun i H v H' => ∃ T x, v = .ref T ∧ H T = none ∧ H' = upd H T (.tup [.int (i : Nat), x]) ∧ ∀ xs, SqT K H a xs → xs[i]? = some x, fun i H => ∃ xs : List V, SqT K H a xs ∧ xs.length = i⟩
theorem turn_enumT {P : Program} {w : World} {K : PySem.W.Frag} {elts : List Expr} {kk : Nat} {tpos : Pos} (a e it : Addr) (hat : a ≠ it) (hea : e ≠ a) :
    Turn P w K (.Tuple elts kk tpos) (Itet K a) [e, it] e (fun i h => (∃ old, IsEnum h e it ((i : Nat) : Int) old) ∧ h.IsTupleIter it a i ∧ e ≠ it) where
  mem := List.mem_cons_self
  obj := fun i h st b hb => by
    obtain ⟨⟨old, he⟩, ⟨o, ho, hc, hd⟩, _⟩ := st
    simp only [List.mem_cons, List.not_mem_nil, or_false] at hb
    rcases hb with rfl | rfl
    · exact ⟨_, he, fun v q => nomatch q⟩
    · exact ⟨o, ho, fun v q => by rw [hd] at q; cases q⟩
  keep := fun i h h' st k => by
    obtain ⟨⟨old, he⟩, hi, hne⟩ := st
    exact ⟨⟨old, k e (by simp) _ he⟩, hi.at fun o q => k it (by simp) o q, hne⟩
  item := by
    intro X hP hw hK hc i pins s σ H E I hf st hg
    subst hP hw hK
    obtain ⟨⟨old, he⟩, hit, hne⟩ := st
    obtain ⟨xs, x, hq, hx⟩ := hg
    obtain ⟨its, rv, p, hz⟩ := I.tuple hq
    obtain ⟨u, hu, ru⟩ := rv.get hx
    have hi : i < its.toArray.size := by
      rw [List.size_toArray]
      exact (List.getElem?_eq_some_iff.mp hu).1
    have hel : e < s.heap.objs.size := Heap.lt_size he
    have hil : it < s.heap.objs.size := by
      obtain ⟨_, q, _⟩ := hit
      exact Heap.lt_size q
    have D := Draws.tuple (prog := X.prog) (w := X.w) (A := X.A.in1) (I.ok.hd hc) it a hat its.toArray
    refine wpAny_pyNext_enum_itemD D he ⟨hit, show s.heap.IsTuple a its.toArray from p⟩ hi hne (by simp [hne, hea]) fun v h' tk hv ho st' hT hsz hk => ?_
    have ev : v = u := by
      have z : its.toArray[i]? = some u := by simpa using hu
      exact Option.some.inj (hv.symm.trans z)
    subst ev
    refine ⟨_, rfl, wpAny_letOwnedTupleGo_enum (s := { s with heap := h', toks := tk + 1 }) ho fun h'' he' sb => ?_⟩
    have hT2 : h''.get? s.heap.objs.size = some { cls := .type "tuple", data := .seq #[.int i tk, v] } := (sb.2 _ (Nat.ne_of_gt hel)).trans hT
    have new : ObjOk X.prog X.w (upd H s.heap.objs.size (.tup [.int (i : Nat), x])) h'' s.heap.objs.size (.tup [.int (i : Nat), x]) :=
      ⟨by show 2 ≤ sizeLine; decide, [.int i tk, v], .cons ⟨_, rfl⟩ (.cons ru .nil), ⟨_, hT2, rfl, _, rfl⟩⟩
    have kept : ∀ b ob, b ∉ [e, it] → s.heap.get? b = some ob → h''.get? b = some ob := fun b ob hb q => by
      have b1 : b ≠ e := fun z => hb (by simp [z])
      have b2 : b ≠ it := fun z => hb (by simp [z])
      exact (sb.2 b b1).trans (hk b ob b1 b2 q)
    have I1 : Inv X pins σ (upd H s.heap.objs.size (.tup [.int (i : Nat), x])) { s with heap := h'', toks := tk + 1 } := I.turnedNew (ch := [e, it]) kept hf (Nat.le_refl _) new
    refine ⟨.ref s.heap.objs.size, _, I1, rfl, ⟨_, x, rfl, I.hok.fresh (Nat.le_refl _), rfl, fun ys hy => by rw [I.tuple_inj hy hq]; exact hx⟩, ⟨⟨v, ?_⟩, ?_, hne⟩, fun b hb => ?_⟩
    · rw [show ((i + 1 : Nat) : Int) = (i : Int) + 1 by omega]
      exact he'
    · exact st'.1.at fun o q => (sb.2 it (Ne.symm hne)).trans q
    · have hb' : b < s.heap.objs.size := by
        simp only [List.mem_cons, List.not_mem_nil, or_false] at hb
        rcases hb with rfl | rfl
        · exact hel
        · exact hil
      rw [upd_ne (Nat.ne_of_lt hb')]
      exact (hf b hb).1
  done := by
    intro X hP hw hK hc i pins s σ H E I hf st hg
    subst hP hw hK
    obtain ⟨⟨old, he⟩, hit, hne⟩ := st
    obtain ⟨xs, hq, hx⟩ := hg
    obtain ⟨its, rv, p, hz⟩ := I.tuple hq
    obtain ⟨f0, f1, f2, f3, f4, f5⟩ := hf it (by simp)
    have hl : i = its.toArray.size := by
      rw [List.size_toArray, ← rv.length]
      exact hx.symm
    have D := Draws.tuple (prog := X.prog) (w := X.w) (A := X.A.in1) (I.ok.hd hc) it a hat its.toArray
    exact wpAny_pyNext_enum_endD D he ⟨hl ▸ hit, show s.heap.IsTuple a its.toArray from p⟩ fun h' eb => ⟨rfl, I.turned (t' := s.toks) (fun b o hb q => eb b o hb q) f0 f1 f3 f4 f5⟩
  self := fun A i s Q E st h => by
    obtain ⟨⟨old, he⟩, _⟩ := st
    exact wpAny_pyIter_enum he h
def iEnumT (K : PySem.W.Frag) (ta : TA) : TI := fun σ H R => ta σ H fun vs H1 => ∃ a xs, vs = [.ref a] ∧ SqT K H1 a xs ∧ R (Itet K a) H1
theorem pi_enumT {X : Cx} {e : Expr} {ta : TA} {p pos tpos : Pos} {elts : List Expr} {kk : Nat} (hg : Gl X "enumerate") (hm : X.mg "enumerate" = none) (ha : PA X [e] ta) (hs : starEach [e] X.env = [(false, eval e X.env)] := by rfl) :
    PI X (.Tuple elts kk tpos) (.Call (.Name "enumerate" p) [e] [] pos) (iEnumT X.K ta) := by
  refine ⟨fun pins s σ H R I h => ?_⟩
  refine Call_ (ld_blt I hg hm boot_enumerate (PyProof.Rows.callWith_type1 (thn (ha.run pos pins s σ H _ I h) fun us s1 hv => ?_) hs rfl))
  obtain ⟨vs, H1, I1, r1, a, xs, ex, hq, q⟩ := hv
  subst ex
  cases r1 with
  | cons r rr =>
    cases rr
    cases r
    obtain ⟨its, rv, p', hz⟩ := I1.tuple hq
    have ht : s1.heap.IsTuple a its.toArray := p'
    obtain ⟨oa, hoa, _⟩ := id ht
    have la := Heap.lt_size hoa
    refine call_enum_tup (begins_tuple a its.toArray) ht fun h' he hit hk => wpAny_pyIter_enum he ?_
    have I2 : Inv X pins σ H1 { s1 with heap := h' } := I1.kept (t' := s1.toks) hk
    refine ⟨s1.heap.objs.size + 1, [s1.heap.objs.size + 1, s1.heap.objs.size], _, _, H1, rfl, I2, turn_enumT a (s1.heap.objs.size + 1) s1.heap.objs.size (Nat.ne_of_lt la) (Nat.ne_of_gt (Nat.lt_succ_of_lt la)), ⟨⟨.none, he⟩, ⟨_, hit, rfl, rfl⟩, Nat.succ_ne_self _⟩, fun b hb => ?_, q⟩
    simp only [List.mem_cons, List.not_mem_nil, or_false] at hb
    have hb' : s1.heap.objs.size ≤ b := by
      rcases hb with rfl | rfl
      · exact Nat.le_succ _
      · exact Nat.le_refl _
    exact I1.fpOk hb' (I1.hok.fresh hb')
theorem for_enumT {K : PySem.W.Frag} {a : Addr} {xs : List V} {g : TG} {tb : TS} {D : Ends} {σ : SL} {H : Hp} (Pv : Nat → SL → Hp → Prop) (h0 : Pv 0 σ H) (hl : ∀ i σ H, i ≤ xs.length → Pv i σ H → SqT K H a xs)
    (hs : ∀ i x T σ H, xs[i]? = some x → Pv i σ H → H T = none → g (.ref T) σ (upd H T (.tup [.int (i : Nat), x])) fun σ2 H2 => tb { D with nx := Pv (i + 1), ct := Pv (i + 1), bk := D.nx } σ2 H2)
    (hd : ∀ σ H, Pv xs.length σ H → D.nx σ H) :
    ∃ W : Nat → Nat → SL → Hp → Prop, (∃ m, W 0 m σ H) ∧ ∀ i m σ H, W i m σ H →
      ((Itet K a).stop i H ∧ D.nx σ H) ∨ ((Itet K a).go i H ∧ ∃ N : SL → Hp → Prop, (∀ σ' H', N σ' H' → ∃ m', m' < m ∧ W (i + 1) m' σ' H') ∧ ∀ x H', (Itet K a).yld i H x H' → g x σ H' fun σ2 H2 => tb { D with nx := N, ct := N, bk := D.nx } σ2 H2) := by
  refine ⟨fun i m σ H => m = xs.length - i ∧ i ≤ xs.length ∧ Pv i σ H, ⟨xs.length, by omega, Nat.zero_le _, h0⟩, ?_⟩
  rintro i m σ H ⟨rfl, hi, p⟩
  have q := hl i σ H hi p
  by_cases hlt : i < xs.length
  · have hx : xs[i]? = some xs[i] := List.getElem?_eq_getElem hlt
    refine .inr ⟨⟨xs, _, q, hx⟩, Pv (i + 1), fun σ' H' pn => ⟨xs.length - (i + 1), by omega, rfl, by omega, pn⟩, fun v H' y => ?_⟩
    obtain ⟨T, x, rfl, hT, rfl, f⟩ := y
    exact hs i x T σ H (f xs q) p hT
  · have e : i = xs.length := by omega
    subst e
    exact .inl ⟨⟨xs, q, rfl⟩, hd σ H p⟩
end UfM

/-! # The rules with the written part K told: also within a comprehension's block -/
namespace UfK
open PySem PySem.Spec PyProof.Rows L2
section
variable {X : Cx} {K : PySem.W.Frag}
theorem ix_listK (h : X.K = K := by rfl) : IxR X (rIxL K) := h ▸ ix_list
theorem ix_tupK (h : X.K = K := by rfl) : IxR X (rIxT K) := h ▸ ix_tup
theorem call_lenK (h : X.K = K := by rfl) : CallR X (.builtin "len") (Evl.rLenS K) := h ▸ call_len_seq
theorem cr_sumK (hc : X.calm = true) (h : X.K = K := by rfl) : CallR X (.builtin "sum") (rSum K) := h ▸ cr_sum hc
theorem cr_sumTK (hc : X.calm = true) (h : X.K = K := by rfl) : CallR X (.builtin "sum") (UfM.rSumT K) := h ▸ UfM.cr_sumT hc
theorem cr_allK (hc : X.calm = true) (h : X.K = K := by rfl) : CallR X (.builtin "all") (rAll K) := h ▸ cr_all hc
theorem cr_anyK (hc : X.calm = true) (h : X.K = K := by rfl) : CallR X (.builtin "any") (rAny K) := h ▸ cr_any hc
theorem call_list_ofK (h : X.K = K := by rfl) : CallR X (.type "list") (Evl.rListS K) := h ▸ call_list_of
def rTupS (K : PySem.W.Frag) : List V → Hp → VK → Prop := fun xs H Q => ∃ p ys, xs = [.ref p] ∧ ((SqL K H p ys ∧ ∀ l, H l = none → Q (.ref l) (upd H l (.tup ys))) ∨ (SqT K H p ys ∧ Q (.ref p) H))
theorem call_tuple_ofK (h : X.K = K := by rfl) : CallR X (.type "tuple") (rTupS K) := h ▸ call_tuple_of
theorem op_catAK (h : X.K = K := by rfl) : OpR X (binaryOp .Add) (rCatA K) := h ▸ op_catA
theorem op_eqDK (hu : X.A.units + 64 < cLine) (h : X.K = K := by rfl) : OpR X (compareOp .Eq) (rEqD K) := h ▸ op_eqD hu
theorem op_neDK (hu : X.A.units + 64 < cLine) (h : X.K = K := by rfl) : OpR X (compareOp .NotEq) (rNeD K) := h ▸ op_neD hu
theorem op_inK (h : X.K = K := by rfl) : OpR X (compareOp .In) (rIn K false) := h ▸ op_in_seq
theorem op_notInK (h : X.K = K := by rfl) : OpR X (compareOp .NotIn) (rIn K true) := h ▸ op_notIn_seq
theorem op_gtLK (hu : X.A.units < cLine) (h : X.K = K := by rfl) : OpR X (compareOp .Gt) (UfM.rGtL K) := h ▸ UfM.op_gtL hu
theorem sl_listK (h : X.K = K := by rfl) : SlR X (rSlL K) := h ▸ sl_list
theorem sl_tupK (h : X.K = K := by rfl) : SlR X (rSlA K) := h ▸ sl_tupA
theorem call_isiK' (h : X.K = K := by rfl) : CallR X (.builtin "isinstance") (rIsi K) := h ▸ call_isi
variable {tg l : Expr} {tl : TE}
theorem pi_listK (hl : PE X l tl) (h : X.K = K := by rfl) : PI X tg l (iList K tl) := h ▸ pi_list hl
theorem pi_tupK (hl : PE X l tl) (h : X.K = K := by rfl) : PI X tg l (iTup K tl) := h ▸ pi_tup hl
theorem pg_tupK {es : List Expr} {k : Nat} {t : TGs} {n : Nat} {pos : Pos} (hc : X.calm = true) (h : PGs X es t) (e : X.K = K := by rfl)
    (hn : (assignEach es X.env).length = n := by rfl) (hst : (assignEach es X.env).findIdx? (·.1) = none := by rfl) : PG X (.Tuple es k pos) (gTup K n t) := e ▸ pg_tup hc h hn hst
end
end UfK

/-! # Comprehensions' turns by a word over the turn's number; more readings over known data -/
namespace UfI
open PySem PySem.Spec PyProof.Rows L2 UfG
open Evl (Ex)
section
variable {K : PySem.W.Frag} {a : Addr} {xs : List V} {B : V → Hp → (Hp → Prop) → Prop} {Hs : Hp} {Qd : Hp → Prop} {lo c : Int} {n : Nat}
theorem it_list (Pv : Nat → Hp → Prop) (h0 : Pv 0 Hs) (hl : ∀ i H, i ≤ xs.length → Pv i H → SqL K H a xs) (hs : ∀ i x H, xs[i]? = some x → Pv i H → B x H (Pv (i + 1))) (hd : ∀ H, Pv xs.length H → Qd H) :
    ∃ W : Nat → Nat → Hp → Prop, (∃ m, W 0 m Hs) ∧ ∀ i m H, W i m H → ((Itl K a).stop i H ∧ Qd H) ∨ ((Itl K a).go i H ∧ ∃ Nx : Hp → Prop, (∀ H', Nx H' → ∃ m', m' < m ∧ W (i + 1) m' H') ∧ ∀ x H', (Itl K a).yld i H x H' → B x H' Nx) := by
  refine ⟨fun i m H => m = xs.length - i ∧ i ≤ xs.length ∧ Pv i H, ⟨xs.length, by omega, Nat.zero_le _, h0⟩, ?_⟩
  rintro i m H ⟨rfl, hi, p⟩
  have q := hl i H hi p
  by_cases hlt : i < xs.length
  · have hx : xs[i]? = some xs[i] := List.getElem?_eq_getElem hlt
    refine .inr ⟨⟨xs, _, q, hx⟩, Pv (i + 1), fun H' pn => ⟨xs.length - (i + 1), by omega, rfl, by omega, pn⟩, fun x H' y => ?_⟩
    obtain ⟨rfl, f⟩ := y
    exact hs i x H' (f xs q) p
  · have e : i = xs.length := by omega
    subst e
    exact .inl ⟨⟨xs, q, Nat.le_refl _⟩, hd H p⟩
theorem it_tup (Pv : Nat → Hp → Prop) (h0 : Pv 0 Hs) (hl : ∀ i H, i ≤ xs.length → Pv i H → SqT K H a xs) (hs : ∀ i x H, xs[i]? = some x → Pv i H → B x H (Pv (i + 1))) (hd : ∀ H, Pv xs.length H → Qd H) :
    ∃ W : Nat → Nat → Hp → Prop, (∃ m, W 0 m Hs) ∧ ∀ i m H, W i m H → ((Itt K a).stop i H ∧ Qd H) ∨ ((Itt K a).go i H ∧ ∃ Nx : Hp → Prop, (∀ H', Nx H' → ∃ m', m' < m ∧ W (i + 1) m' H') ∧ ∀ x H', (Itt K a).yld i H x H' → B x H' Nx) := by
  refine ⟨fun i m H => m = xs.length - i ∧ i ≤ xs.length ∧ Pv i H, ⟨xs.length, by omega, Nat.zero_le _, h0⟩, ?_⟩
  rintro i m H ⟨rfl, hi, p⟩
  have q := hl i H hi p
  by_cases hlt : i < xs.length
  · have hx : xs[i]? = some xs[i] := List.getElem?_eq_getElem hlt
    refine .inr ⟨⟨xs, _, q, hx⟩, Pv (i + 1), fun H' pn => ⟨xs.length - (i + 1), by omega, rfl, by omega, pn⟩, fun x H' y => ?_⟩
    obtain ⟨rfl, f⟩ := y
    exact hs i x H' (f xs q) p
  · have e : i = xs.length := by omega
    subst e
    exact .inl ⟨⟨xs, q, Nat.le_refl _⟩, hd H p⟩
theorem it_rng (Pv : Nat → Hp → Prop) (h0 : Pv 0 Hs) (hs : ∀ (i : Nat) H, i < n → Pv i H → B (.int (lo + (i : Nat))) H (Pv (i + 1))) (hd : ∀ H, Pv n H → Qd H) :
    ∃ W : Nat → Nat → Hp → Prop, (∃ m, W 0 m Hs) ∧ ∀ i m H, W i m H → ((Itr lo n).stop i H ∧ Qd H) ∨ ((Itr lo n).go i H ∧ ∃ Nx : Hp → Prop, (∀ H', Nx H' → ∃ m', m' < m ∧ W (i + 1) m' H') ∧ ∀ x H', (Itr lo n).yld i H x H' → B x H' Nx) := by
  refine ⟨fun i m H => m = n - i ∧ i ≤ n ∧ Pv i H, ⟨n, by omega, Nat.zero_le _, h0⟩, ?_⟩
  rintro i m H ⟨rfl, hi, p⟩
  by_cases hlt : i < n
  · refine .inr ⟨hlt, Pv (i + 1), fun H' pn => ⟨n - (i + 1), by omega, rfl, by omega, pn⟩, fun x H' y => ?_⟩
    obtain ⟨rfl, rfl⟩ := y
    exact hs i H' hlt p
  · have e : i = n := by omega
    subst e
    exact .inl ⟨Nat.le_refl _, hd H p⟩
theorem it_rngC (Pv : Nat → Hp → Prop) (h0 : Pv 0 Hs) (hs : ∀ (i : Nat) H, i < n → Pv i H → B (.int (lo + (i : Nat) * c)) H (Pv (i + 1))) (hd : ∀ H, Pv n H → Qd H) :
    ∃ W : Nat → Nat → Hp → Prop, (∃ m, W 0 m Hs) ∧ ∀ i m H, W i m H → ((Itc lo c n).stop i H ∧ Qd H) ∨ ((Itc lo c n).go i H ∧ ∃ Nx : Hp → Prop, (∀ H', Nx H' → ∃ m', m' < m ∧ W (i + 1) m' H') ∧ ∀ x H', (Itc lo c n).yld i H x H' → B x H' Nx) := by
  refine ⟨fun i m H => m = n - i ∧ i ≤ n ∧ Pv i H, ⟨n, by omega, Nat.zero_le _, h0⟩, ?_⟩
  rintro i m H ⟨rfl, hi, p⟩
  by_cases hlt : i < n
  · refine .inr ⟨hlt, Pv (i + 1), fun H' pn => ⟨n - (i + 1), by omega, rfl, by omega, pn⟩, fun x H' y => ?_⟩
    obtain ⟨rfl, rfl⟩ := y
    exact hs i H' hlt p
  · have e : i = n := by omega
    subst e
    exact .inl ⟨Nat.le_refl _, hd H p⟩
end
section
variable {K : PySem.W.Frag} {H0 G0 G H : Hp} {p : Option (Addr × Addr × Nat)} {ls : List (Addr × HO)} {Q : VK} {a b : Addr} {xs ys : List V}
theorem r_catT (lw : Lw H0 G0 p ls G H) (ha : G a = some (.tup xs)) (hb : G b = some (.tup ys)) (hz : xs.length + ys.length ≤ 100000)
    (k : ∀ t G' H', Ex G G' → Lw H0 G0 p ls G' H' → G' t = some (.tup (xs ++ ys)) → Q (.ref t) H') : rCatA K (.ref a) (.ref b) H Q := by
  refine ⟨a, b, xs, ys, rfl, rfl, SqT.g lw ha, SqT.g lw hb, Evl.sz_of hz, fun e => ?_, fun _ e => ?_, fun _ _ t ht => ?_⟩
  · refine k b G H (Evl.Ex.refl G) lw ?_
    rw [e, List.nil_append]
    exact hb
  · refine k a G H (Evl.Ex.refl G) lw ?_
    rw [e, List.append_nil]
    exact ha
  · exact k t _ _ (ex_new (lw.free ht)) (lw.alloc ht) upd_same
/-- one more item of a list that is being made -/
theorem lc_put {D : Addr} {acc : List V} {y : V} {P : Hp → Prop} (lw : Lw H0 G0 p ((D, .lst acc) :: ls) G H) (hz : acc.length < 100000) (k : ∀ H', Lw H0 G0 p ((D, .lst (acc ++ [y])) :: ls) G H' → P H') :
    ∃ acc', H D = some (.lst acc') ∧ acc'.length < sizeLine ∧ P (upd H D (.lst (acc' ++ [y]))) := ⟨acc, lw.at, Evl.sz_lt hz, k _ lw.put⟩
theorem cutV_take (xs : List V) (k : Nat) : cutV xs none (some (k : Int)) = xs.take k := by
  unfold cutV
  rw [HT.sIx_none, HT.sIx_nat, List.drop_zero, Nat.sub_zero]
  by_cases h : k ≤ xs.length
  · rw [Nat.min_eq_left h]
  · rw [Nat.min_eq_right (by omega), List.take_of_length_le (Nat.le_refl _), List.take_of_length_le (by omega)]
/-- a loop over a range that may break: Pb, what holds behind it -/
theorem for_rangeB {lo : Int} {n : Nat} {g : TG} {tb : TS} {D : Ends} {σ : L2.St} {H : Hp} (Pv : Nat → L2.St → Hp → Prop) (Pb : L2.St → Hp → Prop) (hk : ∀ σ H, Pb σ H → D.nx σ H) (h0 : Pv 0 σ H)
    (hs : (∀ σ H, Pb σ H → D.nx σ H) → ∀ i σ H, i < n → Pv i σ H → g (.int (lo + i)) σ H fun σ2 H2 => tb { D with nx := Pv (i + 1), ct := Pv (i + 1), bk := D.nx } σ2 H2) (hd : ∀ σ H, Pv n σ H → Pb σ H) :
    ∃ W : Nat → Nat → L2.St → Hp → Prop, (∃ m, W 0 m σ H) ∧ ∀ i m σ H, W i m σ H →
      ((Itr lo n).stop i H ∧ D.nx σ H) ∨ ((Itr lo n).go i H ∧ ∃ N : L2.St → Hp → Prop, (∀ σ' H', N σ' H' → ∃ m', m' < m ∧ W (i + 1) m' σ' H') ∧ ∀ x H', (Itr lo n).yld i H x H' → g x σ H' fun σ2 H2 => tb { D with nx := N, ct := N, bk := D.nx } σ2 H2) :=
  for_range Pv h0 (hs hk) fun σ H p => hk _ _ (hd _ _ p)
theorem and2 {b : Bool} {M B : Prop} (h1 : b = true → B → M) (h2 : B) : if b = true then M else B := by
  by_cases h : b = true
  · rw [if_pos h]
    exact h1 h h2
  · rw [if_neg h]
    exact h2
theorem or2 {b : Bool} {M B : Prop} (h1 : B) (h2 : ¬ b = true → B → M) : if b = true then B else M := by
  by_cases h : b = true
  · rw [if_pos h]
    exact h1
  · rw [if_neg h]
    exact h2 h h1
theorem relabel_free {env : Env} : ∀ {names : List (Str × NameKind)} {x : Str}, names.lookup x = some .cell ∨ names.lookup x = some .free →
    (names.map fun (n, k) => if (k == NameKind.free && env.scope.kind == .function && env.kindOf n == some .cell) then (n, NameKind.cell) else (n, k)).lookup x = some .cell ∨
    (names.map fun (n, k) => if (k == NameKind.free && env.scope.kind == .function && env.kindOf n == some .cell) then (n, NameKind.cell) else (n, k)).lookup x = some .free
  | [], _, h => by simp at h
  | (n, k) :: r, x, h => by
    have ih := @relabel_free env r x
    rw [List.map_cons]
    cases hx : x == n with
    | true =>
      have hk : k = .cell ∨ k = .free := by
        rw [List.lookup_cons, hx] at h
        rcases h with h | h
        · exact .inl (Option.some.inj h)
        · exact .inr (Option.some.inj h)
      by_cases hc : (k == NameKind.free && env.scope.kind == .function && env.kindOf n == some .cell) = true
      · left
        show List.lookup x ((if _ then (n, NameKind.cell) else (n, k)) :: _) = _
        rw [if_pos hc, List.lookup_cons, hx]
      · show List.lookup x ((if _ then (n, NameKind.cell) else (n, k)) :: _) = _ ∨ List.lookup x ((if _ then (n, NameKind.cell) else (n, k)) :: _) = _
        rw [if_neg hc, List.lookup_cons, hx]
        rcases hk with e | e
        · exact .inl (congrArg some e)
        · exact .inr (congrArg some e)
    | false =>
      have h' : r.lookup x = some .cell ∨ r.lookup x = some .free := by
        rw [List.lookup_cons, hx] at h
        exact h
      show List.lookup x ((if _ then (n, NameKind.cell) else (n, k)) :: _) = _ ∨ List.lookup x ((if _ then (n, NameKind.cell) else (n, k)) :: _) = _
      by_cases hc : (k == NameKind.free && env.scope.kind == .function && env.kindOf n == some .cell) = true
      · rw [if_pos hc, List.lookup_cons, hx]
        exact ih h'
      · rw [if_neg hc, List.lookup_cons, hx]
        exact ih h'
/-- a comprehension within a comprehension -/
theorem blkOk_in {N : List Str} {sc scope : Scope} {own : List (Str × Nat)} {cl : List (Str × Addr)} {C : Addr} {env : Env} (h : blkC N sc scope own = true) : BlkOk N (compEnvC sc cl C env).scope scope own := by
  obtain ⟨h1, h2, h3, h4, h5⟩ := blkOk_by h
  exact ⟨h1, h2, h3, fun y hy e => relabel_free (h4 y hy e), h5⟩
/-- what holds behind a statement, told once -/
theorem seq_rest {ta tb : TS} {D : Ends} {σ : L2.St} {H : Hp} (Pr : L2.St → Hp → Prop) (h : ∀ σ' H', Pr σ' H' → tb D σ' H') (k : (∀ σ' H', Pr σ' H' → tb D σ' H') → ta { D with nx := tb D } σ H) : tSeq ta tb D σ H := k h
theorem cps_rest {te : TE} {σ : L2.St} {H : Hp} {Q : VK} (Pr : V → Hp → Prop) (h : ∀ v H', Pr v H' → Q v H') (k : (∀ v H', Pr v H' → Q v H') → te σ H Q) : te σ H Q := k h
theorem gName_ap {i : Nat} {x : V} {σ : L2.St} {H : Hp} {Q : L2.St → Hp → Prop} (h : Q (σ.set i (some x)) H) : gName i x σ H Q := h
theorem ten60 : ((10 : Int) ^ (60 : Int).toNat) = 1000000000000000000000000000000000000000000000000000000000000 := by decide
theorem pow_small {i j : Int} (hj : 0 ≤ j ∧ j ≤ 1000000) (hi : 0 ≤ i ∧ i < 2 ^ 60) : CPow i j := ⟨hj.1, hj.2, by omega⟩
theorem mulW_of {i j : Int} (hi : 0 ≤ i ∧ i < 2 ^ 500) (hj : 0 ≤ j ∧ j < 2 ^ 500) : CMulW i j := wide_mul (a := 500) (b := 500) (by omega) (by omega) (by decide) (by decide) (by decide)
theorem divW_of {i j : Int} (hj : 0 < j ∧ j < 2 ^ 1000) : CDivW i j := wide_div (b := 1000) hj.1 (by omega) (by decide) (by decide)
theorem fmod_bd {i j : Int} (hj : 0 < j) : 0 ≤ i.fmod j ∧ i.fmod j < j := by
  rw [Int.fmod_eq_emod_of_nonneg _ (Int.le_of_lt hj)]
  exact ⟨Int.emod_nonneg _ (by omega), Int.emod_lt_of_pos _ hj⟩
theorem fmod60 (i : Int) : 0 ≤ i.fmod ((10 : Int) ^ (60 : Int).toNat + 7) ∧ i.fmod ((10 : Int) ^ (60 : Int).toNat + 7) + 1 < 2 ^ 200 := by
  have h := fmod_bd (i := i) (j := (10 : Int) ^ (60 : Int).toNat + 7) (by decide)
  have e : (10 : Int) ^ (60 : Int).toNat + 7 + 1 < 2 ^ 200 := by decide
  exact ⟨h.1, by omega⟩
end
end UfI

/-! # Data: shapes and equality of the small tuples that laws compare; all([..]) -/
namespace UfD
open PySem PySem.Spec PyProof.Rows L2 UfG UfI
open Evl (Ex)
/-- data of ints, bools, None, texts, of no more than 60 levels -/
theorem shaped_tup {ds : List PyData} (h : PyData.canLayAll0 ds = true) (k : PyData.depthAll ds ≤ 60) : SeqAt.shaped (.tuple ds) = true := by
  unfold SeqAt.shaped
  simp only [PyData.canLay0, PyData.depth, h, Bool.true_and]
  exact decide_eq_true (by omega)
theorem shaped_si (x : Str) (i : Int) (h : PyData.strOk x = true) : SeqAt.shaped (.tuple [.str x, .int i]) = true := by
  refine shaped_tup ?_ ?_
  · simp only [PyData.canLayAll0, PyData.canLay0, h, Bool.and_self]
  · simp only [PyData.depthAll, PyData.depth]
    decide
theorem eqv_si (x y : Str) (i j : Int) : PyData.eqv (.tuple [.str x, .int i]) (.tuple [.str y, .int j]) = (decide (x = y) && decide (i = j)) := by
  simp only [PyData.eqv, PyData.eqvAll, Bool.and_true]
  congr 1
theorem eqv_si_self (x : Str) (i : Int) : PyData.eqv (.tuple [.str x, .int i]) (.tuple [.str x, .int i]) = true := by
  rw [eqv_si]
  simp
theorem eqv_tupI (ns ms : List Int) : PyData.eqv (.tuple (ns.map PyData.int)) (.tuple (ms.map PyData.int)) = decide (ns = ms) := by
  simp only [PyData.eqv]
  exact eqv_ints ns ms
section
variable {K : PySem.W.Frag} {H0 G0 G H : Hp} {p : Option (Addr × Addr × Nat)} {ls : List (Addr × HO)} {Q : VK}
theorem all_true (n : Nat) : (List.replicate n true).all id = true := by
  rw [List.all_eq_true]
  intro b hb
  rw [(List.mem_replicate.mp hb).2]
  rfl
/-- [.. for x in xs], xs a known list, where each turn yields True -/
theorem lc_true {B : V → Hp → (Hp → Prop) → Prop} {Qd : Hp → Prop} {a D : Addr} {xs : List V} (lw : Lw H0 G0 p ls G H) (hD : H D = none) (ha : G a = some (.lst xs)) (hz : xs.length < 100000)
    (hs : ∀ (i : Nat) (x : V) (G' H' : Hp) (acc : List V), xs[i]? = some x → Ex G G' → Lw H0 G0 p ((D, .lst acc) :: ls) G' H' → acc.length = i → ∀ Nx : Hp → Prop, (∀ G2 H2, Ex G' G2 → Lw H0 G0 p ((D, .lst (acc ++ [.bl true])) :: ls) G2 H2 → Nx H2) → B x H' Nx)
    (hd : ∀ G' H', Ex G G' → Lw H0 G0 p ls G' H' → G' D = some (.lst ((List.replicate xs.length true).map V.bl)) → Qd H') :
    ∃ W : Nat → Nat → Hp → Prop, (∃ m, W 0 m (upd H D (.lst []))) ∧ ∀ i m H, W i m H → ((Itl K a).stop i H ∧ Qd H) ∨ ((Itl K a).go i H ∧ ∃ Nx : Hp → Prop, (∀ H', Nx H' → ∃ m', m' < m ∧ W (i + 1) m' H') ∧ ∀ x H', (Itl K a).yld i H x H' → B x H' Nx) := by
  refine it_list (K := K) (a := a) (xs := xs) (fun i H2 => ∃ G', Ex G G' ∧ Lw H0 G0 p ((D, .lst ((List.replicate i true).map V.bl)) :: ls) G' H2) ⟨G, Evl.Ex.refl G, lw.make hD⟩ (fun i H2 _ hp => ?_) (fun i x H2 hx hp => ?_) (fun H2 hp => ?_)
  · obtain ⟨G', e, lw⟩ := hp
    exact SqL.g lw (e _ _ ha)
  · obtain ⟨G', e, lw⟩ := hp
    refine hs i x G' H2 _ hx e lw (by rw [List.length_map, List.length_replicate]) _ fun G2 H3 e2 lw => ⟨G2, e.trans e2, ?_⟩
    rw [List.replicate_succ', List.map_append]
    exact lw
  · obtain ⟨G', e, lw⟩ := hp
    obtain ⟨lw, e2⟩ := lw.keep
    exact hd _ _ (e.trans e2) lw upd_same
/-- .., over a known tuple -/
theorem lc_trueT {B : V → Hp → (Hp → Prop) → Prop} {Qd : Hp → Prop} {a D : Addr} {xs : List V} (lw : Lw H0 G0 p ls G H) (hD : H D = none) (ha : G a = some (.tup xs)) (hz : xs.length < 100000)
    (hs : ∀ (i : Nat) (x : V) (G' H' : Hp) (acc : List V), xs[i]? = some x → Ex G G' → Lw H0 G0 p ((D, .lst acc) :: ls) G' H' → acc.length = i → ∀ Nx : Hp → Prop, (∀ G2 H2, Ex G' G2 → Lw H0 G0 p ((D, .lst (acc ++ [.bl true])) :: ls) G2 H2 → Nx H2) → B x H' Nx)
    (hd : ∀ G' H', Ex G G' → Lw H0 G0 p ls G' H' → G' D = some (.lst ((List.replicate xs.length true).map V.bl)) → Qd H') :
    ∃ W : Nat → Nat → Hp → Prop, (∃ m, W 0 m (upd H D (.lst []))) ∧ ∀ i m H, W i m H → ((Itt K a).stop i H ∧ Qd H) ∨ ((Itt K a).go i H ∧ ∃ Nx : Hp → Prop, (∀ H', Nx H' → ∃ m', m' < m ∧ W (i + 1) m' H') ∧ ∀ x H', (Itt K a).yld i H x H' → B x H' Nx) := by
  refine it_tup (K := K) (a := a) (xs := xs) (fun i H2 => ∃ G', Ex G G' ∧ Lw H0 G0 p ((D, .lst ((List.replicate i true).map V.bl)) :: ls) G' H2) ⟨G, Evl.Ex.refl G, lw.make hD⟩ (fun i H2 _ hp => ?_) (fun i x H2 hx hp => ?_) (fun H2 hp => ?_)
  · obtain ⟨G', e, lw⟩ := hp
    exact SqT.g lw (e _ _ ha)
  · obtain ⟨G', e, lw⟩ := hp
    refine hs i x G' H2 _ hx e lw (by rw [List.length_map, List.length_replicate]) _ fun G2 H3 e2 lw => ⟨G2, e.trans e2, ?_⟩
    rw [List.replicate_succ', List.map_append]
    exact lw
  · obtain ⟨G', e, lw⟩ := hp
    obtain ⟨lw, e2⟩ := lw.keep
    exact hd _ _ (e.trans e2) lw upd_same
/-- .., over a range -/
theorem lc_trueR {B : V → Hp → (Hp → Prop) → Prop} {Qd : Hp → Prop} {D : Addr} {lo : Int} {n : Nat} (lw : Lw H0 G0 p ls G H) (hD : H D = none) (hz : n < 100000)
    (hs : ∀ (i : Nat) (G' H' : Hp) (acc : List V), i < n → Ex G G' → Lw H0 G0 p ((D, .lst acc) :: ls) G' H' → acc.length = i → ∀ Nx : Hp → Prop, (∀ G2 H2, Ex G' G2 → Lw H0 G0 p ((D, .lst (acc ++ [.bl true])) :: ls) G2 H2 → Nx H2) → B (.int (lo + (i : Nat))) H' Nx)
    (hd : ∀ G' H', Ex G G' → Lw H0 G0 p ls G' H' → G' D = some (.lst ((List.replicate n true).map V.bl)) → Qd H') :
    ∃ W : Nat → Nat → Hp → Prop, (∃ m, W 0 m (upd H D (.lst []))) ∧ ∀ i m H, W i m H → ((Itr lo n).stop i H ∧ Qd H) ∨ ((Itr lo n).go i H ∧ ∃ Nx : Hp → Prop, (∀ H', Nx H' → ∃ m', m' < m ∧ W (i + 1) m' H') ∧ ∀ x H', (Itr lo n).yld i H x H' → B x H' Nx) := by
  refine it_rng (lo := lo) (n := n) (fun i H2 => ∃ G', Ex G G' ∧ Lw H0 G0 p ((D, .lst ((List.replicate i true).map V.bl)) :: ls) G' H2) ⟨G, Evl.Ex.refl G, lw.make hD⟩ (fun i H2 hi hp => ?_) (fun H2 hp => ?_)
  · obtain ⟨G', e, lw⟩ := hp
    refine hs i G' H2 _ hi e lw (by rw [List.length_map, List.length_replicate]) _ fun G2 H3 e2 lw => ⟨G2, e.trans e2, ?_⟩
    rw [List.replicate_succ', List.map_append]
    exact lw
  · obtain ⟨G', e, lw⟩ := hp
    obtain ⟨lw, e2⟩ := lw.keep
    exact hd _ _ (e.trans e2) lw upd_same
theorem r_eqs {x y : V} (hs : scal x y = true) (h : x = y) (k : Q (.bl true) H) : rEq x y H Q := ⟨hs, by rw [decide_eq_true h]; exact k⟩
theorem r_nes {x y : V} (hs : scal x y = true) (h : x = y) (k : Q (.bl false) H) : rNe x y H Q := ⟨hs, by rw [decide_eq_true h]; exact k⟩
theorem r_cmpT {P : Int → Int → Prop} [∀ i j, Decidable (P i j)] {i j : Int} (h : P i j) (k : Q (.bl true) H) : rI0 (fun i j => .bl (decide (P i j))) (.int i) (.int j) H Q := ⟨i, j, rfl, rfl, by
  show Q (.bl (decide (P i j))) H
  rw [decide_eq_true h]
  exact k⟩
theorem r_cmpF {P : Int → Int → Prop} [∀ i j, Decidable (P i j)] {i j : Int} (h : ¬ P i j) (k : Q (.bl false) H) : rI0 (fun i j => .bl (decide (P i j))) (.int i) (.int j) H Q := ⟨i, j, rfl, rfl, by
  show Q (.bl (decide (P i j))) H
  rw [decide_eq_false h]
  exact k⟩
/-- all(xs), all of them True -/
theorem r_all {D : Addr} {n : Nat} (lw : Lw H0 G0 p ls G H) (hD : G D = some (.lst ((List.replicate n true).map V.bl))) (k : Q (.bl true) H) : rAll K [.ref D] H Q :=
  ⟨D, _, rfl, SqL.g lw hD, by rw [all_true]; exact k⟩
end
end UfD

/-! # More data: tuples of ints, lists of bools and of ints -/
namespace UfD
open PySem PySem.Spec PyProof.Rows L2 UfG UfI
open Evl (Ex)
theorem lay_ints : ∀ ns : List Int, PyData.canLayAll0 (ns.map PyData.int) = true
  | [] => by simp only [List.map_nil, PyData.canLayAll0]
  | n :: ns => by simp only [List.map_cons, PyData.canLayAll0, PyData.canLay0, lay_ints ns, Bool.and_self]
theorem depth_ints : ∀ ns : List Int, PyData.depthAll (ns.map PyData.int) ≤ 1
  | [] => by simp only [List.map_nil, PyData.depthAll]; decide
  | n :: ns => by
    have := depth_ints ns
    simp only [List.map_cons, PyData.depthAll, PyData.depth]
    omega
theorem shaped_tupI (ns : List Int) : SeqAt.shaped (.tuple (ns.map PyData.int)) = true := shaped_tup (lay_ints ns) (Nat.le_trans (depth_ints ns) (by decide))
theorem shaped_lstI (ns : List Int) : SeqAt.shaped (.list (ns.map PyData.int)) = true := by
  unfold SeqAt.shaped
  have := depth_ints ns
  simp only [PyData.canLay0, PyData.depth, lay_ints ns, Bool.true_and]
  exact decide_eq_true (by omega)
theorem eqv_lstI (ns ms : List Int) : PyData.eqv (.list (ns.map PyData.int)) (.list (ms.map PyData.int)) = decide (ns = ms) := by
  simp only [PyData.eqv]
  exact eqv_ints ns ms
theorem lay_bools : ∀ ns : List Bool, PyData.canLayAll0 (ns.map PyData.bool) = true
  | [] => by simp only [List.map_nil, PyData.canLayAll0]
  | n :: ns => by simp only [List.map_cons, PyData.canLayAll0, PyData.canLay0, lay_bools ns, Bool.and_self]
theorem depth_bools : ∀ ns : List Bool, PyData.depthAll (ns.map PyData.bool) ≤ 1
  | [] => by simp only [List.map_nil, PyData.depthAll]; decide
  | n :: ns => by
    have := depth_bools ns
    simp only [List.map_cons, PyData.depthAll, PyData.depth]
    omega
theorem shaped_lstB (ns : List Bool) : SeqAt.shaped (.list (ns.map PyData.bool)) = true := by
  unfold SeqAt.shaped
  have := depth_bools ns
  simp only [PyData.canLay0, PyData.depth, lay_bools ns, Bool.true_and]
  exact decide_eq_true (by omega)
theorem eqvAll_bools : ∀ ns : List Bool, PyData.eqvAll (ns.map PyData.bool) (ns.map PyData.bool) = true
  | [] => by simp only [List.map_nil, PyData.eqvAll]
  | n :: ns => by
    simp only [List.map_cons, PyData.eqvAll, eqvAll_bools ns, Bool.and_true]
    cases n <;> simp [PyData.eqv]
theorem eqv_lstB (ns : List Bool) : PyData.eqv (.list (ns.map PyData.bool)) (.list (ns.map PyData.bool)) = true := by
  simp only [PyData.eqv]
  exact eqvAll_bools ns
theorem rp_bools {G : Hp} : ∀ ns : List Bool, RpAll G (ns.map V.bl) (ns.map PyData.bool)
  | [] => .nil
  | n :: ns => .cons (.bl n) (rp_bools ns)
theorem at_nat {xs : List V} {i : Nat} {x : V} (h : xs[i]? = some x) : atI xs (i : Int) = some x := atI_nat h
end UfD

/-! # Operators that an own class defines -/
namespace UfO
open PySem PySem.Spec PyProof.Rows L2
open PySem.W (InstAt Frag)
open PySem.W (Looks)
theorem int_add_ref (a : Int) (t : Tok) (x C dx : Addr) : Meets (Builtin.«int.__add__» ⟨[.int a t, .ref x], []⟩) (fun _ R s => s.heap.get? x = some (PySem.W.instObj C dx) ∧ R (.ok (.ret Value.notImplemented)) s) :=
  .of_wp fun prog w A R s h => by obtain ⟨hp, g, d, tk, os⟩ := s; obtain ⟨hl, h⟩ := h; wp_walk; exact ⟨_, rfl, h⟩
theorem int_sub_ref (a : Int) (t : Tok) (x C dx : Addr) : Meets (Builtin.«int.__sub__» ⟨[.int a t, .ref x], []⟩) (fun _ R s => s.heap.get? x = some (PySem.W.instObj C dx) ∧ R (.ok (.ret Value.notImplemented)) s) :=
  .of_wp fun prog w A R s h => by obtain ⟨hp, g, d, tk, os⟩ := s; obtain ⟨hl, h⟩ := h; wp_walk; exact ⟨_, rfl, h⟩
theorem int_mul_ref (a : Int) (t : Tok) (x C dx : Addr) : Meets (Builtin.«int.__mul__» ⟨[.int a t, .ref x], []⟩) (fun _ R s => s.heap.get? x = some (PySem.W.instObj C dx) ∧ R (.ok (.ret Value.notImplemented)) s) :=
  .of_wp fun prog w A R s h => by obtain ⟨hp, g, d, tk, os⟩ := s; obtain ⟨hl, h⟩ := h; wp_walk; exact ⟨_, rfl, h⟩
theorem int_eq_ref (a : Int) (t : Tok) (x C dx : Addr) : Meets (Builtin.«int.__eq__» ⟨[.int a t, .ref x], []⟩) (fun _ R s => s.heap.get? x = some (PySem.W.instObj C dx) ∧ R (.ok (.ret Value.notImplemented)) s) :=
  .of_wp fun prog w A R s h => by obtain ⟨hp, g, d, tk, os⟩ := s; obtain ⟨hl, h⟩ := h; wp_walk; exact ⟨_, rfl, h⟩
theorem int_ne_ref (a : Int) (t : Tok) (x C dx : Addr) : Meets (Builtin.«int.__ne__» ⟨[.int a t, .ref x], []⟩) (fun _ R s => s.heap.get? x = some (PySem.W.instObj C dx) ∧ R (.ok (.ret Value.notImplemented)) s) :=
  .of_wp fun prog w A R s h => by obtain ⟨hp, g, d, tk, os⟩ := s; obtain ⟨hl, h⟩ := h; wp_walk; exact ⟨_, rfl, h⟩
section
variable {prog : Program} {w : World} {A : Around} {E : Value → Shared → Prop} {s : Shared} {K : Frag} {x C f g dx : Addr} {od : Option Obj}
/-- i op x, x of an own class with a reflected method -/
theorem rbin_K {op : Operator} {i : Int} {t : Tok} {id : String} {Q : Value → Shared → Prop} (X : K.In s.heap) (I : InstAt s.heap x (PySem.W.instObj C dx) C od) (hc : PySem.W.selfFirst K C = true)
    (hs : PySem.W.findIn K (.ref C) (PySem.dunder op.info.2) = some (some (.ref f))) (hr : PySem.W.findIn K (.ref C) (dunderR op.info.2) = some (some (.ref g))) (hg : PySem.W.isFn K (.ref g) = true)
    (hsub : PySem.W.subIn K (.ref C) (.type "int") = some false) (fl : fillsNumberSlot (.type "int") op.info.2 = pure true) (slot : Slot "int" (PySem.dunder op.info.2) id)
    (dec : ∀ Q' : Value → Shared → Prop, Q' .notImplemented s → wpAny (model prog w) A (call (.builtin id) [.int i t, .ref x]) Q' E s)
    (h : wpAny (model prog w) A (call (.ref g) [.ref x, .int i t]) (PySem.W.CmpBack Q) E s) : wpAny (model prog w) A (binaryOp op (.int i t) (.ref x)) Q E s := by
  obtain ⟨cd, rest, hcd, hm⟩ := PySem.W.ksp_first hc
  rcases hi : op.info with ⟨sym, nm'⟩
  rw [hi] at hs hr fl slot
  dsimp only at hs hr fl slot
  have one := PySem.W.ksp_try X I hr hg h
  have two : ∀ Q' : Option Value → Shared → Prop, Q' none s → wpAny (model prog w) A (tryMethod (.int i t) (PySem.dunder nm') (.ref x)) Q' E s := fun Q' q =>
    wpAny_tryMethod_declines (typeIs_int s i t) slot (dec _ ⟨rfl, q⟩)
  obtain ⟨hh, gg, d, tk, os⟩ := s
  have L1 : Looks (model prog w) hh (typeOf (.int i t)) (.type "int") := Looks.of_pure rfl
  have L2 : Looks (model prog w) hh (typeOf (.ref x)) (.ref C) := I.type
  have L3 : Looks (model prog w) hh (fillsNumberSlot (.type "int") nm') true := Looks.of_pure fl
  have L4 : Looks (model prog w) hh (fillsNumberSlot (.ref C) nm') true := PySem.W.fills_K X hcd hm hs
  have L5 : Looks (model prog w) hh (isSubtype (.ref C) (.type "int")) false := PySem.W.looks_subIn X hsub
  have L7 : Looks (model prog w) hh (numberSlotInPython (.type "int") nm') false := Looks.of_pure rfl
  have hne : (Value.type "int" == Value.ref C) = false := Bool.eq_false_iff.mpr fun q => by cases beq_iff_eq.mp q
  simp only [binaryOp, hi]
  refine wpAny_holding (wpAny_bind ?_)
  unfold binaryOp1
  refine wpAny_bind (L1.at (wpAny_bind (L2.at (wpAny_bind (L3.at ?_)))))
  simp only [hne, Bool.false_eq_true, if_false]
  ksp_lk
  refine two _ ?_
  ksp_lk
  refine wpAny_mono one (fun r s' hr' => ?_) fun _ _ e => e
  obtain ⟨v, rfl, hq⟩ := hr'
  ksp_lk
  exact hq
theorem ifBound_bi {M : Model} {name : Str} {id : String} {args : List Value} {ox : Obj} {Q : Option Value → Shared → Prop} (X : K.In s.heap) (I : InstAt s.heap x ox C od) (hs : PySem.W.findIn K (.ref C) name = some (some (.builtin id)))
    (bind : ∀ self, bindSpecial (.builtin id) self = pure (.builtin id, [self])) (h : wpAny M A (call (.builtin id) (.ref x :: args)) (fun v => Q (some v)) E s) : wpAny M A (callSpecialIfBound? (.ref x) name args) Q E s := by
  simp only [callSpecialIfBound?, bindSpecialIfBound?]
  refine wpAny_holding (wpAny_bind (wpAny_bind (wpAny_bind (I.type.here ((PySem.W.looks_findIn X hs).here ?_)))))
  simp only [bind]
  refine wpAny_bind (wpAny_askSetting (wpAny_ite ?_))
  have fin : wpAny M A (call (.builtin id) ([.ref x] ++ args) >>= fun v => pure (some v)) Q E s := wpAny_bind (wpAny_mono h (fun v s' h' => wpAny_pure h') fun _ _ h' => h')
  split
  · exact wpAny_pure (by exact fin)
  · exact wpAny_tryCatch (wpAny_pure (by exact fin))
theorem check_own {M : Model} {ox : Obj} {id owner n : String} {rest : List Value} {Q : Unit → Shared → Prop} (X : K.In s.heap) (I : InstAt s.heap x ox C od) (hk : builtinKind id = some .slot) (hs : splitId id = some (owner, n))
    (ha : argsOk id ⟨.ref x :: rest, []⟩) (hsub : PySem.W.subIn K (.ref C) (.type owner) = some true) (hq : Q () s) : wpAny M A (checkBuiltinCall id ⟨.ref x :: rest, []⟩) Q E s := by
  simp only [checkBuiltinCall, hk, hs]
  refine wpAny_bind ?_
  · unfold isInstance
    refine wpAny_bind (I.type.here ((PySem.W.looks_subIn X hsub).here ?_))
    cases hsig : Manifest.signature? id with
    | none => exact wpAny_pure hq
    | some sig =>
      simp only [argsOk, hsig] at ha
      have h2 : Bind.checkArgs id sig ⟨.ref x :: rest, []⟩ = pure () := ha
      show wpAny M A (Bind.checkArgs id sig ⟨.ref x :: rest, []⟩) Q E _
      rw [h2]
      exact wpAny_pure hq
/-- x != b by the own __eq__ -/
theorem tryNe_K {ox : Obj} {b : Value} {Q : Option Value → Shared → Prop} (hu : A.units + 1 < cLine) (X : K.In s.heap) (I : InstAt s.heap x ox C od) (hn : PySem.W.findIn K (.ref C) "__ne__" = some (some (.builtin "object.__ne__")))
    (he : PySem.W.findIn K (.ref C) "__eq__" = some (some (.ref f))) (hf : PySem.W.isFn K (.ref f) = true) (hsub : PySem.W.subIn K (.ref C) (.type "object") = some true)
    (h : wpAny (model prog w) A.in1 (call (.ref f) [.ref x, b]) (fun v s' => ∃ c, v = .bool c ∧ Q (some (.bool (!c))) s') E s) : wpAny (model prog w) A (tryCompare (.ref x) "__ne__" b) Q E s := by
  simp only [tryCompare]
  refine wpAny_bind (ifBound_bi X I hn F.cmp_object.ne.bind (wpAny_call (codeAny_call_builtin F.cmp_object.ne.plain F.cmpEntry_ne (check_own X I F.cmpKind_ne F.cmpSplit_ne (F.cmpArgs_ne _ _) hsub ?_))))
  have hcall : wpAny (model prog w) A.in1 (callSpecialIfBound? (.ref x) "__eq__" [b]) (fun r s' => ∃ c, r = some (.bool c) ∧ Q (some (.bool (!c))) s') E s :=
    PySem.W.ifBound_K X I he hf (wpAny_mono h (fun v s' ⟨c, e, q⟩ => ⟨c, by rw [e], q⟩) fun _ _ e => e)
  obtain ⟨hp, g0, d, t, os⟩ := s
  unfold Builtin.«object.__ne__»
  repeat (first
    | with_reducible refine wpAny_cRoomFor hu ?_
    | (refine wpAny_bind (m := callSpecialIfBound? (.ref x) (Str.ofString "__eq__") [b])
        (wpAny_mono hcall (fun r s' hr => by
          obtain ⟨c, rfl, hq⟩ := hr
          repeat (first | exact hq | exact wpAny_pure hq | exact wpAny_truthy_bool hq | (refine wpAny_bind (m := truthy (.bool _)) (wpAny_truthy_bool ?_)) | wp_step)) fun _ _ e => e))
    | wp_step)
theorem cmpNe_K {b tb : Value} {ox : Obj} {Q : Value → Shared → Prop} (hu : A.units + 1 < cLine) (X : K.In s.heap) (I : InstAt s.heap x ox C od) (hb : Looks (model prog w) s.heap (typeOf b) tb) (hn : PySem.W.notFirst K C tb = true)
    (hne : PySem.W.findIn K (.ref C) "__ne__" = some (some (.builtin "object.__ne__"))) (he : PySem.W.findIn K (.ref C) "__eq__" = some (some (.ref f))) (hf : PySem.W.isFn K (.ref f) = true) (hsub : PySem.W.subIn K (.ref C) (.type "object") = some true)
    (h : wpAny (model prog w) A.in1 (call (.ref f) [.ref x, b]) (fun v s' => ∃ c, v = .bool c ∧ Q (.bool (!c)) s') E s) : wpAny (model prog w) A (richCompare .NotEq (.ref x) b) Q E s := by
  have one : wpAny (model prog w) A (tryCompare (.ref x) (cmpInfo .NotEq).2.1 b) (fun r s' => ∃ v, r = some v ∧ Q v s') E s :=
    tryNe_K hu X I hne he hf hsub (wpAny_mono h (fun v s' ⟨c, e, q⟩ => ⟨c, e, _, rfl, q⟩) fun _ _ e => e)
  unfold richCompare
  simp only [oneThing_ref]
  refine wpAny_holding (wpAny_bind (wpAny_cRoomFor (Nat.lt_of_succ_lt hu) ?_))
  refine wpAny_bind (I.type.here (wpAny_bind (hb.here ?_)))
  split
  · rename_i q
    have e : PySem.W.subIn K tb (.ref C) = some false := by
      rcases Bool.or_eq_true_iff.mp hn with e | e
      · rw [beq_iff_eq.mp e] at q; simp at q
      · exact beq_iff_eq.mp e
    refine wpAny_bind ((PySem.W.looks_subIn X e).here ?_)
    simp only [Bool.false_eq_true, if_false]
    refine wpAny_bind (wpAny_mono one (fun r s' z => ?_) fun _ _ e => e)
    obtain ⟨v, rfl, hq⟩ := z
    exact wpAny_pure hq
  · refine wpAny_bind (wpAny_pure ?_)
    simp only [Bool.false_eq_true, if_false]
    refine wpAny_bind (wpAny_mono one (fun r s' z => ?_) fun _ _ e => e)
    obtain ⟨v, rfl, hq⟩ := z
    exact wpAny_pure hq
/-- i == x, i != x -/
theorem cmpR_K {op : CmpOp} {i : Int} {t : Tok} {id : String} {ox : Obj} {Q : Value → Shared → Prop} (hu : A.units < cLine) (X : K.In s.heap) (I : InstAt s.heap x ox C od) (hsub : PySem.W.subIn K (.ref C) (.type "int") = some false)
    (slot : Slot "int" (cmpInfo op).2.1 id) (dec : ∀ Q' : Value → Shared → Prop, Q' .notImplemented s → wpAny (model prog w) A (call (.builtin id) [.int i t, .ref x]) Q' E s) (one_ : oneThing? op (.int i t) (.ref x) = none)
    (h : wpAny (model prog w) A (tryCompare (.ref x) (cmpInfo op).2.2 (.int i t)) (fun r s' => ∃ v, r = some v ∧ Q v s') E s) : wpAny (model prog w) A (richCompare op (.int i t) (.ref x)) Q E s := by
  unfold richCompare
  simp only [one_]
  refine wpAny_holding (wpAny_bind (wpAny_cRoomFor hu ?_))
  have L1 : Looks (model prog w) s.heap (typeOf (.int i t)) (.type "int") := Looks.of_pure rfl
  refine wpAny_bind (L1.here (wpAny_bind (I.type.here ?_)))
  split
  · refine wpAny_bind ((PySem.W.looks_subIn X hsub).here ?_)
    simp only [Bool.false_eq_true, if_false]
    refine wpAny_bind (wpAny_tryCompare_declines (typeIs_int s i t) slot (dec _ ⟨rfl, ?_⟩))
    simp only [Bool.not_false, if_true]
    refine wpAny_bind (wpAny_mono h (fun r s' z => ?_) fun _ _ e => e)
    obtain ⟨v, rfl, hq⟩ := z
    exact wpAny_pure hq
  · rename_i q
    exact absurd (by simp : (Value.type "int" != Value.ref C) = true) q
theorem tryEq_K {ox : Obj} {b : Value} {Q : Option Value → Shared → Prop} (X : K.In s.heap) (I : InstAt s.heap x ox C od) (he : PySem.W.findIn K (.ref C) "__eq__" = some (some (.ref f))) (hf : PySem.W.isFn K (.ref f) = true)
    (h : wpAny (model prog w) A (call (.ref f) [.ref x, b]) (PySem.W.CmpBack fun v => Q (some v)) E s) : wpAny (model prog w) A (tryCompare (.ref x) "__eq__" b) Q E s := by
  simp only [tryCompare]
  refine wpAny_bind (PySem.W.ifBound_K X I he hf (wpAny_mono h (fun v s' hv => ?_) fun _ _ e => e))
  cases v <;> first | exact hv.elim | exact wpAny_pure hv
end
end UfO

/-! # .. as rules of the layer -/
namespace UfO
open PySem PySem.Spec PyProof.Rows L2
open PySem.W (InstAt Frag)
open PySem.W (Looks)
/-- a class whose objects stand beside ints and texts -/
structure OwnC (K : Frag) (C : Addr) : Prop where
  first : PySem.W.selfFirst K C = true
  int1 : PySem.W.subIn K (.type "int") (.ref C) = some false
  int2 : PySem.W.subIn K (.ref C) (.type "int") = some false
  str1 : PySem.W.subIn K (.type "str") (.ref C) = some false
  obj : PySem.W.subIn K (.ref C) (.type "object") = some true
structure OwnBin (K : Frag) (C : Addr) (nm : String) (f g : Addr) : Prop where
  at_ : PySem.W.findIn K (.ref C) (PySem.dunder nm) = some (some (.ref f))
  fn : PySem.W.isFn K (.ref f) = true
  rat : PySem.W.findIn K (.ref C) (dunderR nm) = some (some (.ref g))
  rfn : PySem.W.isFn K (.ref g) = true
  i1 : ∃ fo, PySem.W.findIn K (.type "int") (PySem.dunder nm) = some fo
  i2 : ∃ ro, PySem.W.findIn K (.type "int") (dunderR nm) = some ro
structure OwnEq (K : Frag) (C f : Addr) : Prop where
  eq : PySem.W.findIn K (.ref C) "__eq__" = some (some (.ref f))
  fn : PySem.W.isFn K (.ref f) = true
  ne : PySem.W.findIn K (.ref C) "__ne__" = some (some (.builtin "object.__ne__"))
section
variable {X : Cx} {CX : CXT} {k : Nat} {f g C : Addr} {fd gd : FuncData} {ps qs : List Str} {sp sq : Sp} {E : XK}
theorem relV_not {v : V} (h : RelV v .notImplemented) : False := by
  cases v <;> first | exact nomatch h | (obtain ⟨_, e⟩ := h; exact nomatch e) | cases h
theorem cb_of {pins : List (Addr × Obj)} {σ : L2.St} {Q : VK} {u : Value} {s' : Shared} (h : EP X pins σ Q u s') : PySem.W.CmpBack (EP X pins σ Q) u s' := by
  obtain ⟨v, H', I, r, q⟩ := h
  cases u with
  | notImplemented => exact (relV_not r).elim
  | _ => exact ⟨v, H', I, r, q⟩
theorem run_fnA {A : Around} {pins : List (Addr × Obj)} {σ : L2.St} {H : Hp} {s : Shared} {Q : VK} {us : List Value} {vs : List V} (sb : Sub X k A) (F : FnOk X.prog X.w X.K X.mg X.base CX k f fd ps sp) (hb : Binds X.K fd ps []) (hx : Passes CX X E)
    (I : Inv X pins σ H s) (r : Vals vs us) (h : sp vs H Q E) : wpAny (model X.prog X.w) A (call (.ref f) us) (EP X pins σ Q) X.xe s := by
  have e0 : Env0 X.prog X.w X.K X.mg X.base A X.stack s H := by
    have e := I.env0
    exact ⟨by rw [sb.fr]; exact e.frames, e.mod, e.bs, e.bsz, e.funs, e.frf, e.hok, e.bare⟩
  have hl : us.length = ps.length := by
    rw [← r.length]
    exact F.len _ _ _ _ h
  refine wpAny_call (codeAny_mono (F.run A X.stack s H ⟨us, []⟩ us vs Q E sb.room e0 (by
    have := hb s us I.kIn (by rw [List.append_nil]; exact hl)
    rw [List.append_nil] at this
    exact this) r h) fun r s' hq => ?_)
  cases r with
  | error e => exact hx pins σ H s e s' I hq
  | ok fl =>
    cases fl with
    | ret w => exact I.after hq
    | next => exact False.elim hq
    | brk => exact False.elim hq
    | cont => exact False.elim hq
/-- x op y: two ints, or one of them an object of the class at C -/
def rOwn2 (C : Addr) (sp sq : Sp) (E : XK) (r : R2) : R2 := fun x y H Q =>
  (∃ i j, x = .int i ∧ y = .int j ∧ r x y H Q) ∨
  (∃ a dx fs, x = .ref a ∧ H a = some (.ins C dx fs) ∧ ((∃ i, y = .int i) ∨ ∃ b dy gs, y = .ref b ∧ H b = some (.ins C dy gs)) ∧ sp [x, y] H Q E) ∨
  (∃ i b dy gs, x = .int i ∧ y = .ref b ∧ H b = some (.ins C dy gs) ∧ sq [y, x] H Q E)
theorem op_own2 {op : Operator} {id : String} {r : R2} (hr : Room k X.A) (c : OwnC X.K C) (O : OwnBin X.K C op.info.2 f g) (ho : OpR X (binaryOp op) r) (F : FnOk X.prog X.w X.K X.mg X.base CX k f fd ps sp) (hb : Binds X.K fd ps [])
    (G : FnOk X.prog X.w X.K X.mg X.base CX k g gd qs sq) (hg : Binds X.K gd qs []) (hx : Passes CX X E) (fl : fillsNumberSlot (.type "int") op.info.2 = pure true) (slot : Slot "int" (PySem.dunder op.info.2) id)
    (dec : ∀ (i : Int) (t : Tok) (x C dx : Addr) (A : Around) (E : Value → Shared → Prop) (s : Shared) (Q : Value → Shared → Prop), s.heap.get? x = some (PySem.W.instObj C dx) → Q .notImplemented s → wpAny (model X.prog X.w) A (call (.builtin id) [.int i t, .ref x]) Q E s) :
    OpR X (binaryOp op) (rOwn2 C sp sq E r) := by
  intro pins s σ H x y v u Q I rx ry h
  have sb : Sub X k X.A := ⟨hr, rfl⟩
  rcases h with ⟨i, j, rfl, rfl, h⟩ | ⟨a, dx, fs, rfl, ha, hy, h⟩ | ⟨i, b, dy, gs, rfl, rfl, hb', h⟩
  · exact ho pins s σ H _ _ v u Q I rx ry h
  · cases rx
    obtain ⟨mA, J, _⟩ := ins_get I.hok ha
    obtain ⟨od, J, _⟩ := J.look
    obtain ⟨m, hF⟩ := I.fr
    have run : ∀ u, RelV y u → wpAny (model X.prog X.w) X.A (call (.ref f) [.ref a, u]) (PySem.W.CmpBack (EP X pins σ Q)) X.xe s := fun u ry =>
      wpAny_mono (run_fnA (vs := [V.ref a, y]) sb F hb hx I (.cons rfl (.cons ry .nil)) h) (fun _ _ z => cb_of z) fun _ _ z => z
    rcases hy with ⟨i, rfl⟩ | ⟨b, dy, gs, rfl, hb'⟩
    · obtain ⟨t, rfl⟩ := ry
      obtain ⟨fo, h1⟩ := O.i1
      obtain ⟨ro, h2⟩ := O.i2
      exact PySem.W.ksp_binT (T := "int") hF I.ok.mod.kin J rfl c.first O.at_ O.fn O.rat (.inr ⟨_, rfl⟩) h1 h2 c.int1 (run _ ⟨t, rfl⟩)
    · cases ry
      obtain ⟨mB, J', _⟩ := ins_get I.hok hb'
      obtain ⟨od', J', _⟩ := J'.look
      exact PySem.W.binop_K hF I.ok.mod.kin J J'.type c.first O.at_ O.fn (run _ rfl)
  · obtain ⟨t, rfl⟩ := rx
    cases ry
    obtain ⟨mA, J, _⟩ := ins_get I.hok hb'
    obtain ⟨od, J, _⟩ := J.look
    exact rbin_K I.kIn J c.first O.at_ O.rat O.rfn c.int2 fl slot (fun Q' q => dec i t b C dy _ _ s Q' J.at_ q)
      (wpAny_mono (run_fnA (vs := [V.ref b, V.int i]) sb G hg hx I (.cons rfl (.cons ⟨t, rfl⟩ .nil)) h) (fun _ _ z => cb_of z) fun _ _ z => z)
theorem op_ownAdd (hr : Room k X.A) (c : OwnC X.K C) (O : OwnBin X.K C "add" f g) (F : FnOk X.prog X.w X.K X.mg X.base CX k f fd ps sp) (hb : Binds X.K fd ps [])
    (G : FnOk X.prog X.w X.K X.mg X.base CX k g gd qs sq) (hg : Binds X.K gd qs []) (hx : Passes CX X E) : OpR X (binaryOp .Add) (rOwn2 C sp sq E (rI0 fun i j => .int (i + j))) :=
  op_own2 hr c O op_add F hb G hg hx PySem.F.fills_int_add PySem.F.slot_int_add fun i t x C dx A E s Q e q => call_meets PySem.F.slot_int_add (typeIs_int s i t) PySem.F.entry_int_add (PySem.F.args_int_add_2 _ _) (int_add_ref i t x C dx) ⟨e, q⟩
theorem op_ownSub (hr : Room k X.A) (c : OwnC X.K C) (O : OwnBin X.K C "sub" f g) (F : FnOk X.prog X.w X.K X.mg X.base CX k f fd ps sp) (hb : Binds X.K fd ps [])
    (G : FnOk X.prog X.w X.K X.mg X.base CX k g gd qs sq) (hg : Binds X.K gd qs []) (hx : Passes CX X E) : OpR X (binaryOp .Sub) (rOwn2 C sp sq E (rI0 fun i j => .int (i - j))) :=
  op_own2 hr c O op_sub F hb G hg hx PySem.F.fills_int_sub PySem.F.slot_int_sub fun i t x C dx A E s Q e q => call_meets PySem.F.slot_int_sub (typeIs_int s i t) PySem.F.entry_int_sub (PySem.F.args_int_sub_2 _ _) (int_sub_ref i t x C dx) ⟨e, q⟩
theorem op_ownMul (hr : Room k X.A) (c : OwnC X.K C) (O : OwnBin X.K C "mul" f g) (F : FnOk X.prog X.w X.K X.mg X.base CX k f fd ps sp) (hb : Binds X.K fd ps [])
    (G : FnOk X.prog X.w X.K X.mg X.base CX k g gd qs sq) (hg : Binds X.K gd qs []) (hx : Passes CX X E) : OpR X (binaryOp .Mult) (rOwn2 C sp sq E (rI CMulW fun i j => .int (i * j))) :=
  op_own2 hr c O op_mulW F hb G hg hx PySem.F.fills_int_mul PySem.F.slot_int_mul fun i t x C dx A E s Q e q => call_meets PySem.F.slot_int_mul (typeIs_int s i t) PySem.F.entry_int_mul (PySem.F.args_int_mul_2 _ _) (int_mul_ref i t x C dx) ⟨e, q⟩
/-- -x -/
def rOwnNeg (C : Addr) (sp : Sp) (E : XK) : V → Hp → VK → Prop := fun x H Q => (∃ i, x = .int i ∧ Q (.int (-i)) H) ∨ ∃ a dx fs, x = .ref a ∧ H a = some (.ins C dx fs) ∧ sp [x] H Q E
theorem un_ownNeg (hr : Room k X.A) (hs : PySem.W.findIn X.K (.ref C) "__neg__" = some (some (.ref f))) (hf : PySem.W.isFn X.K (.ref f) = true) (F : FnOk X.prog X.w X.K X.mg X.base CX k f fd ps sp) (hb : Binds X.K fd ps []) (hx : Passes CX X E) :
    UnR X (unaryOp .USub) (rOwnNeg C sp E) := by
  intro pins s σ H x v Q I rx h
  rcases h with ⟨i, rfl, h⟩ | ⟨a, dx, fs, rfl, ha, h⟩
  · exact un_neg pins s σ H _ v Q I rx ⟨i, rfl, h⟩
  · cases rx
    obtain ⟨mA, J, _⟩ := ins_get I.hok ha
    obtain ⟨od, J, _⟩ := J.look
    obtain ⟨m, hF⟩ := I.fr
    exact PySem.W.ksp_neg hF I.ok.mod.kin J hs hf (run_fnA (vs := [V.ref a]) ⟨hr, rfl⟩ F hb hx I (.cons rfl .nil) h)
/-- x == y, one of them an object of the class at C: the own __eq__ says b -/
def rOwnEq (C : Addr) (sp : Sp) (E : XK) (neg : Bool) : R2 := fun x y H Q =>
  (∃ a dx fs, x = .ref a ∧ H a = some (.ins C dx fs) ∧ ((∃ i, y = .int i) ∨ (∃ z, y = .str z) ∨ ∃ b dy gs, y = .ref b ∧ H b = some (.ins C dy gs)) ∧ sp [x, y] H (fun v H' => ∃ c, v = .bl c ∧ Q (.bl (if neg then !c else c)) H') E) ∨
  (∃ i b dy gs, x = .int i ∧ y = .ref b ∧ H b = some (.ins C dy gs) ∧ sp [y, x] H (fun v H' => ∃ c, v = .bl c ∧ Q (.bl (if neg then !c else c)) H') E) ∨ (scal x y = true ∧ Q (.bl (if neg then !decide (x = y) else decide (x = y))) H)
theorem look_of {pins : List (Addr × Obj)} {σ : L2.St} {H : Hp} {s : Shared} {y : V} {u : Value} (I : Inv X pins σ H s) (c : OwnC X.K C) (ry : RelV y u) (hy : (∃ i, y = .int i) ∨ (∃ z, y = .str z) ∨ ∃ b dy gs, y = .ref b ∧ H b = some (.ins C dy gs)) :
    ∃ tb, Looks (model X.prog X.w) s.heap (typeOf u) tb ∧ PySem.W.notFirst X.K C tb = true := by
  rcases hy with ⟨i, rfl⟩ | ⟨z, rfl⟩ | ⟨b, dy, gs, rfl, hb⟩
  · obtain ⟨t, rfl⟩ := ry
    exact ⟨.type "int", Looks.of_pure rfl, by unfold PySem.W.notFirst; rw [c.int1]; simp⟩
  · obtain ⟨t, rfl⟩ := ry
    exact ⟨.type "str", Looks.of_pure rfl, by unfold PySem.W.notFirst; rw [c.str1]; simp⟩
  · cases ry
    obtain ⟨mB, J, _⟩ := ins_get I.hok hb
    obtain ⟨od, J, _⟩ := J.look
    exact ⟨.ref C, J.type, by unfold PySem.W.notFirst; simp⟩
theorem op_ownEq (hr : Room k X.A) (c : OwnC X.K C) (O : OwnEq X.K C f) (F : FnOk X.prog X.w X.K X.mg X.base CX k f fd ps sp) (hb : Binds X.K fd ps []) (hx : Passes CX X E) : OpR X (compareOp .Eq) (rOwnEq C sp E false) := by
  intro pins s σ H x y v u Q I rx ry h
  have back : ∀ (w : Value) (s' : Shared), EP X pins σ (fun v H' => ∃ c, v = .bl c ∧ Q (.bl (if false then !c else c)) H') w s' → EP X pins σ Q w s' := fun w s' ⟨z, H', I', r, c, e, q⟩ => by
    subst e
    exact ⟨_, H', I', r, q⟩
  rcases h with ⟨a, dx, fs, rfl, ha, hy, h⟩ | ⟨i, b, dy, gs, rfl, rfl, hb', h⟩ | ⟨hs, h⟩
  · cases rx
    obtain ⟨mA, J, _⟩ := ins_get I.hok ha
    obtain ⟨od, J, _⟩ := J.look
    obtain ⟨m, hF⟩ := I.fr
    obtain ⟨tb, L, n⟩ := look_of I c ry hy
    show wpAny (model X.prog X.w) X.A (richCompare .Eq (.ref a) u) (EP X pins σ Q) X.xe s
    exact PySem.W.cmp_K (op := .Eq) (tb := tb) hr.units0 hF I.ok.mod.kin J L n O.eq O.fn (wpAny_mono (run_fnA (vs := [V.ref a, y]) ⟨hr, rfl⟩ F hb hx I (.cons rfl (.cons ry .nil)) h) (fun w s' z => cb_of (back w s' z)) fun _ _ z => z)
  · obtain ⟨t, rfl⟩ := rx
    cases ry
    obtain ⟨mA, J, _⟩ := ins_get I.hok hb'
    obtain ⟨od, J, _⟩ := J.look
    show wpAny (model X.prog X.w) X.A (richCompare .Eq (.int i t) (.ref b)) (EP X pins σ Q) X.xe s
    refine cmpR_K hr.units0 I.kIn J c.int2 PySem.F.slot_int_eq (fun Q' q => call_meets PySem.F.slot_int_eq (typeIs_int s i t) PySem.F.entry_int_eq (PySem.F.args_int_eq_2 _ _) (int_eq_ref i t b C dy) ⟨J.at_, q⟩) rfl
      (tryEq_K I.kIn J O.eq O.fn (wpAny_mono (run_fnA (vs := [V.ref b, V.int i]) ⟨hr, rfl⟩ F hb hx I (.cons rfl (.cons ⟨t, rfl⟩ .nil)) h) (fun w s' z => ?_) fun _ _ z => z))
    have z' := cb_of (back w s' z)
    cases w <;> first | exact z'.elim | exact ⟨_, rfl, z'⟩
  · exact op_eq pins s σ H x y v u Q I rx ry ⟨hs, h⟩
theorem op_ownNe (hr : Room (k + 1) X.A) (c : OwnC X.K C) (O : OwnEq X.K C f) (F : FnOk X.prog X.w X.K X.mg X.base CX k f fd ps sp) (hb : Binds X.K fd ps []) (hx : Passes CX X E) : OpR X (compareOp .NotEq) (rOwnEq C sp E true) := by
  intro pins s σ H x y v u Q I rx ry h
  have sb : Sub X k X.A.in1 := ⟨hr.in1, rfl⟩
  have hu : X.A.units + 1 < cLine := hu_of hr
  have back : ∀ (w : Value) (s' : Shared), EP X pins σ (fun v H' => ∃ c, v = .bl c ∧ Q (.bl (if true then !c else c)) H') w s' → ∃ c, w = .bool c ∧ EP X pins σ Q (.bool (!c)) s' := fun w s' ⟨z, H', I', r, c, e, q⟩ => by
    subst e
    exact ⟨c, r, .bl (!c), H', I', rfl, q⟩
  rcases h with ⟨a, dx, fs, rfl, ha, hy, h⟩ | ⟨i, b, dy, gs, rfl, rfl, hb', h⟩ | ⟨hs, h⟩
  · cases rx
    obtain ⟨mA, J, _⟩ := ins_get I.hok ha
    obtain ⟨od, J, _⟩ := J.look
    obtain ⟨tb, L, n⟩ := look_of I c ry hy
    show wpAny (model X.prog X.w) X.A (richCompare .NotEq (.ref a) u) (EP X pins σ Q) X.xe s
    exact cmpNe_K hu I.kIn J L n O.ne O.eq O.fn c.obj (wpAny_mono (run_fnA (vs := [V.ref a, y]) sb F hb hx I (.cons rfl (.cons ry .nil)) h) (fun w s' z => back w s' z) fun _ _ z => z)
  · obtain ⟨t, rfl⟩ := rx
    cases ry
    obtain ⟨mA, J, _⟩ := ins_get I.hok hb'
    obtain ⟨od, J, _⟩ := J.look
    show wpAny (model X.prog X.w) X.A (richCompare .NotEq (.int i t) (.ref b)) (EP X pins σ Q) X.xe s
    refine cmpR_K hr.units0 I.kIn J c.int2 PySem.F.slot_int_ne (fun Q' q => call_meets PySem.F.slot_int_ne (typeIs_int s i t) PySem.F.entry_int_ne (PySem.F.args_int_ne_2 _ _) (int_ne_ref i t b C dy) ⟨J.at_, q⟩) rfl
      (tryNe_K hu I.kIn J O.ne O.eq O.fn c.obj (wpAny_mono (run_fnA (vs := [V.ref b, V.int i]) sb F hb hx I (.cons rfl (.cons ⟨t, rfl⟩ .nil)) h) (fun w s' z => ?_) fun _ _ z => z))
    obtain ⟨c, e, q⟩ := back w s' z
    exact ⟨c, e, _, rfl, q⟩
  · exact op_ne pins s σ H x y v u Q I rx ry ⟨hs, h⟩
end
end UfO

/-! # Errors without fields; own classes and methods that raise -/
namespace UfR
open PySem PySem.Spec PyProof.Rows L2
section
variable {X : Cx} {C : Addr} {bmB : List Value} {B newId initId : String}
/-- X() -/
theorem pmk_own0N {x : Str} {p pos : Pos} (F : ExcBaseFacts B newId initId bmB) (q : PySem.W.excIn X.K C bmB newId = true) (gC : X.mg x = some (.ref C)) (kC : PySem.W.keepIn X.K (.ref C) = true) (r : Raises X (.ref C)) (hg : Gl X x)
    (hdb : (x == ("__debug__" : Str)) = false := by decide) : L2N.PMk X (.Call (.Name x p) [] [] pos) (fun _ H Q => Q (.ref C) none H) := by
  intro pins s σ H Q I h
  refine wpAny_Call_Name_kw (ld_glob I hg gC ?_ hdb)
  refine PySem.W.callWith_K0 (first := []) I.kIn kC ?_
  show wpAny _ _ (call (.ref C) []) _ _ _
  obtain ⟨bm, N, nm, qn, bs, hdct, sn, sub, ab, col, dd, k0, k1, k2, k3, k5, mN, hC, hN, hni, T⟩ := exc_obj I.kIn q
  refine wpAny_call_exc_subT F T hC hN hni (fun h' e hm => ?_) (by show 0 ≤ sizeLine; rw [sizeLine_eq]; omega)
  exact L2N.mk_of I hm r h (I.hok.gone hm.new)
end

/-! ### what isinstance tells of the handled exception, with or without a dict of its own -/
def DictOk (H : Hp) : Option Addr → Prop
  | some d => ∃ fs, H d = some (.xd fs)
  | none => True
structure ExcN (p : Addr × Obj) (D : Addr) (d : Option Addr) : Prop where
  zc : Zc (.ref D) d p.2
  fl : ∃ vs, p.2.data = .fields vs
theorem ExcN.one {p : Addr × Obj} {D d : Addr} (h : ExcN p D (some d)) : UfH.Exc1 p D d := ⟨h.zc, h.fl⟩
section
variable {X : Cx} {p : Addr × Obj} {D : Addr} {d : Option Addr}
theorem ExcN.inst {pins : List (Addr × Obj)} {σ : L2.St} {H : Hp} {s : Shared} (Z : ExcN p D d) (I : Inv X pins σ H s) (hp : p ∈ X.pn) (hx : DictOk H d) : ∃ od : Option Obj, PySem.W.InstAt s.heap p.1 p.2 D od := by
  cases d with
  | some d =>
    obtain ⟨fs, hx⟩ := hx
    obtain ⟨_, od, J, _⟩ := Z.one.inst I hp hx
    exact ⟨some od, J⟩
  | none =>
    obtain ⟨hget, _⟩ := I.pin p (List.mem_append_left _ hp)
    obtain ⟨vs, hv⟩ := Z.fl
    exact ⟨none, hget, Z.zc.1, by unfold PySem.W.notCls; rw [hv] <;> rfl, by rw [Z.zc.2]; exact True.intro⟩
def rIsQ (K : PySem.W.Frag) (a D : Addr) (d : Option Addr) : List V → Hp → VK → Prop := fun xs H Q => ∃ (c : V) (cv : Value) (b : Bool), xs = [.ref a, c] ∧ (∀ u, RelV c u → u = cv) ∧ DictOk H d ∧ PySem.W.kitOne K (.ref D) cv = some b ∧ Q (.bl b) H
theorem call_isQ (T : UfH.ExKnow X.K D) (Z : ExcN p D d) (hp : p ∈ X.pn) : CallR X (.builtin "isinstance") (rIsQ X.K p.1 D d) := by
  intro pins s σ H xs us Q I r h
  obtain ⟨c, cv, b, rfl, hcv, hx, e, q⟩ := h
  cases r with
  | cons rx rr =>
    cases rr with
    | cons rt rr =>
      cases rr
      cases rx
      have ec := hcv _ rt
      subst ec
      obtain ⟨od, J⟩ := Z.inst I hp hx
      exact PySem.W.kia_one (PySem.W.kitx_exc T.cl T.ga T.gg T.ex T.cla T.sp T.tk T.mo) I.kIn J e (fun z => nomatch z) fun tk => ⟨.bl b, H, I.kept (t' := tk) fun _ _ z => z, rfl, q⟩
end

/-! ### an own class whose __init__ may raise, a method that may raise -/
section
variable {X : Cx} {CX : CXT} {k : Nat} {f C : Addr} {fd : FuncData} {ps : List Str} {sp : Sp} {E : L2.St → XK} {x m : Str} {p pos apos : Pos} {e o : Expr} {es : List Expr} {ta : TE} {t : TA}
theorem run_makeS {pins : List (Addr × Obj)} {σ : L2.St} {H : Hp} {s : Shared} {Q : VK} {us : List Value} {vs : List V} {E : XK} (M : Mk X.K C f) (F : FnOk X.prog X.w X.K X.mg X.base CX k f fd ps sp) (hr : Room (k + 1) X.A) (hb : Binds X.K fd ps [])
    (hx : PassesAt CX X σ E) (I : Inv X pins σ H s) (r : Vals vs us) (h : ∀ x dx, H x = none → H dx = none → dx ≠ x → sp (.ref x :: vs) (upd (upd H dx (.own x)) x (.ins C dx [])) (fun v H2 => v = .non ∧ Q (.ref x) H2) E) :
    wpAny (model X.prog X.w) X.A (call (.ref C) us) (EP X pins σ Q) X.xe s := by
  have hq := h (s.heap.objs.size + 1) s.heap.objs.size (I.hok.fresh (Nat.le_succ _)) (I.hok.fresh (Nat.le_refl _)) (Nat.ne_of_lt (Nat.lt_succ_self _))
  have I2 := Inv.made (C := C) I
  have r2 : Vals (V.ref (s.heap.objs.size + 1) :: vs) (Value.ref (s.heap.objs.size + 1) :: us) := .cons rfl r
  have hl : (Value.ref (s.heap.objs.size + 1) :: us).length = ps.length := by
    rw [← r2.length]
    exact F.len _ _ _ _ hq
  refine wpAny_call (make_map (f := f) I.kIn M.makes M.init (beq_iff_eq.mp M.fn) (codeAny_mono (F.run _ X.stack _ _ ⟨Value.ref (s.heap.objs.size + 1) :: us, []⟩ (Value.ref (s.heap.objs.size + 1) :: us) _ _ E (hr.make C us [])
    (I2.env0.make C us []) (by
      have := hb _ (Value.ref (s.heap.objs.size + 1) :: us) I2.kIn (by rw [List.append_nil]; exact hl)
      rw [List.append_nil] at this
      exact this) r2 hq) fun r s' hq' => ?_))
  cases r with
  | error e => exact hx pins _ _ e s' I2 hq'
  | ok fl =>
    cases fl with
    | ret u =>
      obtain ⟨v, H', I3, rv, ev, q3⟩ := I2.after hq'
      subst ev
      exact ⟨rv, ⟨V.ref (s.heap.objs.size + 1), H', I3, rfl, q3⟩⟩
    | next => exact False.elim hq'
    | brk => exact False.elim hq'
    | cont => exact False.elim hq'
def tMakeS (C : Addr) (sp : Sp) (E : L2.St → XK) (t : TA) : TE := fun σ H Q => t σ H fun vs H1 => ∀ x dx, H1 x = none → H1 dx = none → dx ≠ x → sp (.ref x :: vs) (upd (upd H1 dx (.own x)) x (.ins C dx [])) (fun v H2 => v = .non ∧ Q (.ref x) H2) (E σ)
theorem pe_makeS (M : Mk X.K C f) (F : FnOk X.prog X.w X.K X.mg X.base CX k f fd ps sp) (hr : Room (k + 1) X.A) (hg : Gl X x) (hm : X.mg x = some (.ref C)) (hb : Binds X.K fd ps []) (hx : ∀ σ, PassesAt CX X σ (E σ))
    (ha : PA X (e :: es) t) (hdb : (x == ("__debug__" : Str)) = false := by decide) (he : starEach (e :: es) X.env = (false, eval e X.env) :: starEach es X.env := by rfl) (hpl : (backTo pos (starEach es X.env)).any (·.1) = false := by rfl) :
    PE X (.Call (.Name x p) (e :: es) [] pos) (tMakeS C sp E t) := by
  refine ⟨fun pins s σ H Q I h => ?_⟩
  refine wpAny_Call_Name_kw (ld_glob I hg hm ?_ hdb)
  refine PySem.W.callWith_K (h₀ := X.base) I.ok.mod.kin M.kp (thn (ha.run pos pins s σ H _ I h) fun us s1 ⟨vs, H1, I1, r, q⟩ => ⟨I1.kIn, ?_⟩) he hpl
  exact run_makeS M F hr hb (hx σ) I1 r q
def tMethQ (C : Addr) (m : Str) (sp : Sp) (E : L2.St → XK) (ta : TE) (t : TA) : TE := fun σ H Q => ta σ H fun x H1 => ∃ a dx fs, x = .ref a ∧ H1 a = some (.ins C dx fs) ∧ fs.lookup m = none ∧ t σ H1 fun vs H2 => sp (x :: vs) H2 Q (E σ)
theorem pe_methQ {pl : Sem Bool} (he : PE X o ta) (c : Cls X.K C) (hm : Meth X.K C m f) (F : FnOk X.prog X.w X.K X.mg X.base CX k f fd ps sp) (hr : Room k X.A) (hb : Binds X.K fd ps []) (hx : ∀ σ, PassesAt CX X σ (E σ)) (ha : PA X (e :: es) t)
    (hst : starEach (e :: es) X.env = (false, eval e X.env) :: starEach es X.env := by rfl) (hpl : (backTo pos (starEach es X.env)).any (·.1) = false := by rfl)
    (ht : eval (.Call (.Attribute o m apos) (e :: es) [] pos) X.env = (do
      let ov ← eval o X.env
      standAt apos.atName
      let (f, first) ← holding [ov] (getMethod ov m pl)
      callWith pos f first (backTo pos (starEach (e :: es) X.env)) (backToKw pos (keywordEach [] X.env))) := by rfl) :
    PE X (.Call (.Attribute o m apos) (e :: es) [] pos) (tMethQ C m sp E ta t) := by
  refine ⟨fun pins s σ H Q I h => ?_⟩
  refine PySem.W.methodCall_KW (pl := pl) (thn (he.run pins s σ H _ I h) fun u s1 ⟨x, H1, I1, rx, a, dx, fs, ex, ea, l, q⟩ => ?_) ht
  subst ex
  obtain rfl : u = Value.ref a := rx
  refine getmeth_ok I1 ea c hm l ?_
  refine PySem.W.callWith_K (first := [.ref a]) (h₀ := X.base) I.ok.mod.kin hm.kp (thn (ha.run pos pins s1 σ H1 _ I1 q) fun us s2 ⟨vs, H2, I2, r, q2⟩ => ⟨I2.kIn, ?_⟩) hst hpl
  exact run_fnS (us := .ref a :: us) (vs := .ref a :: vs) F hr hb (hx σ) I2 (.cons rfl r) q2
/-- o.m() -/
theorem pe_methQ0 {pl : Sem Bool} (he : PE X o ta) (c : Cls X.K C) (hm : Meth X.K C m f) (F : FnOk X.prog X.w X.K X.mg X.base CX k f fd ps sp) (hr : Room k X.A) (hb : Binds X.K fd ps []) (hx : ∀ σ, PassesAt CX X σ (E σ))
    (ht : eval (.Call (.Attribute o m apos) [] [] pos) X.env = (do
      let ov ← eval o X.env
      standAt apos.atName
      let (f, first) ← holding [ov] (getMethod ov m pl)
      callWith pos f first (backTo pos (starEach [] X.env)) (backToKw pos (keywordEach [] X.env))) := by rfl) :
    PE X (.Call (.Attribute o m apos) [] [] pos) (tMethQ C m sp E ta tNil) := by
  refine ⟨fun pins s σ H Q I h => ?_⟩
  refine PySem.W.methodCall_KW (pl := pl) (thn (he.run pins s σ H _ I h) fun u s1 ⟨x, H1, I1, rx, a, dx, fs, ex, ea, l, q⟩ => ?_) ht
  subst ex
  obtain rfl : u = Value.ref a := rx
  refine getmeth_ok I1 ea c hm l ?_
  exact PySem.W.callWith_K0 (first := [.ref a]) I1.kIn hm.kp (run_fnS (us := [.ref a]) (vs := [.ref a]) F hr hb (hx σ) I1 (.cons rfl .nil) q)
end

/-! ### // by any int but 0; a statement that is never reached; classes of a text -/
def CDivZ (_ j : Int) : Prop := j ≠ 0 ∧ j.natAbs.log2 < 9000
theorem op_fdivZ {X : Cx} : OpR X (binaryOp .FloorDiv) (rI CDivZ fun i j => .int (i.fdiv j)) := opI fun i j _ _ _ _ _ hc q => floordiv_int hc.1 q (.inl (PyProof.noPylong_of_log2 hc.2))
theorem ps_never {X : Cx} {st : Stmt} : PS X st (fun _ _ _ => False) := ⟨fun _ _ _ _ _ _ h => h.elim⟩
/-- an error class without fields -/
structure ExAt0 (K : PySem.W.Frag) (mg : Str → Option Value) (x : Str) where
  C : Addr
  g : mg x = some (.ref C)
  q : PySem.W.excIn K C [.type "ValueError", .type "Exception", .type "BaseException", .type "object"] "ValueError.__new__" = true
  kC : PySem.W.keepIn K (.ref C) = true
  s : PySem.W.subIn K (.ref C) (.type "BaseException") = some true
  t : PySem.W.typeIn K (.ref C) = some (.type "type")
  kn : UfH.ExKnow K C
theorem ExAt0.r {K : PySem.W.Frag} {mg : Str → Option Value} {x : Str} (h : ExAt0 K mg x) {X : Cx} (e : X.K = K := by rfl) : Raises X (.ref h.C) := by
  subst e
  exact raises_own h.s h.t
/-- an own class -/
structure OwnAt (K : PySem.W.Frag) (mg : Str → Option Value) (x : Str) where
  C : Addr
  g : mg x = some (.ref C)
  c : Cls K C
  o : UfO.OwnC K C
  cla : PySem.W.findIn K (.ref C) "__class__" = some (some (.builtin "object.__class__"))
  sp : PySem.W.specialIn K (.builtin "object.__class__") "__get__" = some (some (.builtin "getset_descriptor.__get__"))
  tk : PySem.W.takesIn K (.builtin "object.__class__") = some true
  mo : PySem.W.mroIn K C (.type "object") = some true
theorem OwnAt.ty {K : PySem.W.Frag} {mg : Str → Option Value} {x : Str} (h : OwnAt K mg x) {H : Hp} {a dx : Addr} {fs : List (Str × V)} (e : H a = some (.ins h.C dx fs)) : TyX K H (.ref a) (.ref h.C) := .base (.ins e h.c h.cla h.sp h.tk h.mo)
/-- a method -/
structure MetAt (K : PySem.W.Frag) (C : Addr) (m qual : Str) (st : Stmt) (ps : List Str) where
  f : Addr
  fd : FuncData
  F : Fun K m qual st f fd
  m : Meth K C m f
  b : Binds K fd ps []
end UfR

/-! # The one form of a fraction -/
namespace UfQ
/-- n over d -/
abbrev fr (n d : Int) : Rat := Rat.divInt n d
theorem gcd_pos {n d : Int} (hd : d ≠ 0) : 0 < Nat.gcd n.natAbs d.natAbs := Nat.gcd_pos_of_pos_right _ (by omega)
theorem gcd_dvd_l (n d : Int) : ((Nat.gcd n.natAbs d.natAbs : Nat) : Int) ∣ n := Int.natAbs_dvd_natAbs.mp (by rw [Int.natAbs_natCast]; exact Nat.gcd_dvd_left _ _)
theorem gcd_dvd_r (n d : Int) : ((Nat.gcd n.natAbs d.natAbs : Nat) : Int) ∣ d := Int.natAbs_dvd_natAbs.mp (by rw [Int.natAbs_natCast]; exact Nat.gcd_dvd_right _ _)
theorem gcd_eq (n d : Int) : d.gcd n = Nat.gcd n.natAbs d.natAbs := Nat.gcd_comm _ _
theorem fr_num {n d : Int} (hd : d ≠ 0) : (fr n d).num = if d < 0 then n.fdiv (-((Nat.gcd n.natAbs d.natAbs : Nat) : Int)) else n.fdiv ((Nat.gcd n.natAbs d.natAbs : Nat) : Int) := by
  have dv := gcd_dvd_l n d
  rw [Rat.num_divInt, gcd_eq]
  by_cases h : d < 0
  · rw [if_pos h, Int.fdiv_eq_ediv_of_dvd (Int.neg_dvd.mpr dv), Int.ediv_neg, Int.sign_eq_neg_one_of_neg h, show (-1 : Int) * n = -n by omega, Int.neg_ediv_of_dvd dv]
  · rw [if_neg h, Int.fdiv_eq_ediv_of_dvd dv, Int.sign_eq_one_of_pos (by omega), Int.one_mul]
theorem fr_den {n d : Int} (hd : d ≠ 0) : ((fr n d).den : Int) = if d < 0 then d.fdiv (-((Nat.gcd n.natAbs d.natAbs : Nat) : Int)) else d.fdiv ((Nat.gcd n.natAbs d.natAbs : Nat) : Int) := by
  have dv := gcd_dvd_r n d
  rw [Rat.den_divInt, if_neg hd, gcd_eq]
  by_cases h : d < 0
  · rw [if_pos h, Int.fdiv_eq_ediv_of_dvd (Int.neg_dvd.mpr dv), Int.ediv_neg, ← Int.neg_ediv_of_dvd dv, show -d = (d.natAbs : Int) by omega, Int.natCast_ediv]
  · rw [if_neg h, Int.fdiv_eq_ediv_of_dvd dv, Int.natCast_ediv, show (d.natAbs : Int) = d by omega]
theorem fr_whole {n d : Int} (hd : d ≠ 0) : (fr n d).den = 1 ↔ n.fmod d = 0 := by
  rw [Rat.den_divInt, if_neg hd, gcd_eq]
  have gp := gcd_pos (n := n) hd
  constructor
  · intro h
    have e : d.natAbs = Nat.gcd n.natAbs d.natAbs := by
      have := Nat.div_mul_cancel (Nat.gcd_dvd_right n.natAbs d.natAbs)
      rw [h, Nat.one_mul] at this
      exact this.symm
    refine Int.fmod_eq_zero_of_dvd (Int.natAbs_dvd_natAbs.mp ?_)
    rw [e]
    exact Nat.gcd_dvd_left _ _
  · intro h
    have e : Nat.gcd n.natAbs d.natAbs = d.natAbs := Nat.gcd_eq_right (Int.natAbs_dvd_natAbs.mpr (Int.dvd_of_fmod_eq_zero h))
    rw [e]
    exact Nat.div_self (by omega)
theorem fr_int {n d : Int} (hd : d ≠ 0) (h : n.fmod d = 0) : (fr n d).num = n.fdiv d := by
  have e : Nat.gcd n.natAbs d.natAbs = d.natAbs := Nat.gcd_eq_right (Int.natAbs_dvd_natAbs.mpr (Int.dvd_of_fmod_eq_zero h))
  rw [fr_num hd, e]
  by_cases hn : d < 0
  · rw [if_pos hn, show -(d.natAbs : Int) = d by omega]
  · rw [if_neg hn, show (d.natAbs : Int) = d by omega]
theorem q_fr (q : Rat) : fr q.num q.den = q := Rat.num_divInt_den q
theorem den_ne (q : Rat) : (q.den : Int) ≠ 0 := by
  have := q.den_pos
  omega
theorem q_add (a b : Rat) : a + b = fr (a.num * b.den + b.num * a.den) (a.den * b.den) := by
  conv => lhs; rw [← q_fr a, ← q_fr b]
  exact Rat.divInt_add_divInt _ _ (den_ne a) (den_ne b)
theorem q_sub (a b : Rat) : a - b = fr (a.num * b.den - b.num * a.den) (a.den * b.den) := by
  conv => lhs; rw [← q_fr a, ← q_fr b]
  exact Rat.divInt_sub_divInt _ _ (den_ne a) (den_ne b)
theorem q_mul (a b : Rat) : a * b = fr (a.num * b.num) (a.den * b.den) := by
  conv => lhs; rw [← q_fr a, ← q_fr b]
  exact Rat.divInt_mul_divInt _ _
theorem q_int {q : Rat} (h : q.den = 1) : q = (q.num : Rat) := Rat.ext rfl h
theorem ofInt_num (i : Int) : (i : Rat).num = i := Rat.num_intCast i
theorem ofInt_den (i : Int) : (i : Rat).den = 1 := rfl
theorem fr_one (n : Int) : fr n 1 = (n : Rat) := by
  have h := q_fr (n : Rat)
  rw [ofInt_num, ofInt_den] at h
  exact h
/-- a sum of a fraction and an int is no int -/
theorem add_int_den (a : Rat) (i : Int) : (a + i).den = a.den := by
  have e : a + i = fr (a.num + i * a.den) a.den := by
    have z := q_add a i
    rw [ofInt_num, ofInt_den] at z
    rw [z]
    congr 1
    · rw [Int.natCast_one, Int.mul_one]
    · rw [Int.natCast_one, Int.mul_one]
  rw [e, Rat.den_divInt, if_neg (den_ne a)]
  have c : Nat.gcd a.den (a.num + i * a.den).natAbs = 1 := by
    have h0 := a.reduced
    have : Int.gcd (a.den : Int) (a.num + i * a.den) = Int.gcd (a.den : Int) a.num := by
      rw [Int.mul_comm]
      exact Int.gcd_add_mul_left_right ..
    unfold Int.gcd at this
    rw [Int.natAbs_natCast] at this
    rw [this, Nat.gcd_comm]
    exact h0
  show (a.den : Int).natAbs / Nat.gcd (a.den : Int).natAbs (a.num + i * a.den).natAbs = a.den
  rw [Int.natAbs_natCast, c, Nat.div_one]
end UfQ

/-! # Numbers of the ground 0 in the heap: ints and objects of the class Frac; promises with errors of both kinds -/
namespace UfN
open PySem PySem.Spec PyProof.Rows L2 UfG UfQ
open Evl (Ex)
/-- the object at a, of the class at F, is the fraction q -/
def FrAt (F : Addr) (G : Hp) (a : Addr) (q : Rat) : Prop := ∃ dx, G a = some (.ins F dx [("num", .int q.num), ("den", .int q.den)])
/-- v is the number q -/
def Nm (F : Addr) (G : Hp) (v : V) (q : Rat) : Prop := (q.den = 1 ∧ v = .int q.num) ∨ (q.den ≠ 1 ∧ ∃ a, v = .ref a ∧ FrAt F G a q)
section
variable {F : Addr} {G G' : Hp} {v : V} {q : Rat} {a : Addr}
theorem FrAt.ex (e : Ex G G') (h : FrAt F G a q) : FrAt F G' a q := by
  obtain ⟨dx, h⟩ := h
  exact ⟨dx, e _ _ h⟩
theorem Nm.ex (e : Ex G G') (h : Nm F G v q) : Nm F G' v q := by
  rcases h with h | ⟨h, a, e1, ha⟩
  · exact .inl h
  · exact .inr ⟨h, a, e1, ha.ex e⟩
theorem Nm.ofInt (i : Int) : Nm F G (.int i) (i : Rat) := .inl ⟨rfl, by rw [ofInt_num]⟩
theorem Nm.isInt {i : Int} (h : Nm F G (.int i) q) : q = (i : Rat) := by
  rcases h with ⟨h, e⟩ | ⟨_, a, e, _⟩
  · cases e
    exact q_int h
  · cases e
end
/-- the bits of a number -/
def Sm (b : Nat) (q : Rat) : Prop := q.num.natAbs < 2 ^ b ∧ q.den < 2 ^ b
theorem putF_den {x y : V} : putF "den" y [("num", x)] = [(("num" : Str), x), ("den", y)] := by
  show (if ("num" : Str) = "den" then _ else _) = _
  rw [if_neg (by decide +kernel)]
  rfl
/-- a value, or an error (its own dict, where it has one) -/
def RaiseN (pre : List V → Hp → Prop) (post : List V → Hp → Hp → V → Prop) (exc : List V → Hp → Addr → Option Addr → Prop) : Sp := fun vs H Q E => ∃ G, Lw H G none [] G H ∧ pre vs G ∧
  (∀ G' H' v, Lw H G none [] G' H' → post vs G G' v → Q v H') ∧ ∀ G' H' C d, Lw H G none [] G' H' → exc vs G' C d → E (.ref C) d H'
section
variable {H0 G0 G H : Hp} {p : Option (Addr × Addr × Nat)} {ls : List (Addr × HO)} {Q : VK} {E : XK}
theorem call_raiseN {pre : List V → Hp → Prop} {post : List V → Hp → Hp → V → Prop} {exc : List V → Hp → Addr → Option Addr → Prop} {vs : List V}
    (lw : Lw H0 G0 p ls G H) (hp : pre vs G) (k : ∀ G' H' v, Ex G G' → Lw H0 G0 p ls G' H' → post vs G G' v → Q v H') (kx : ∀ G' H' C d, Ex G G' → Lw H0 G0 p ls G' H' → exc vs G' C d → E (.ref C) d H') :
    RaiseN pre post exc vs H Q E := ⟨G, lw.enter, hp, fun G' H' v l hv => k G' H' v l.g0 (lw.after l) hv, fun G' H' C d l hv => kx G' H' C d l.g0 (lw.after l) hv⟩
/-- an object is made: its promise from the heap ahead of it -/
def InitSp (F : Addr) (pre : List V → Hp → Prop) (post : List V → Hp → Hp → Addr → Prop) (exc : List V → Hp → Addr → Option Addr → Prop) : Sp := fun vs H Q E => ∃ (H1 G : Hp) (x dx : Addr) (ws : List V), vs = .ref x :: ws ∧ Lw H1 G none [(x, .ins F dx [])] G H ∧ pre ws G ∧
  (∀ G' H', Lw H1 G none [] G' H' → post ws G G' x → Q .non H') ∧ ∀ G' H' C d, Lw H1 G none [] G' H' → exc ws G' C d → E (.ref C) d H'
theorem call_make {F : Addr} {pre : List V → Hp → Prop} {post : List V → Hp → Hp → Addr → Prop} {exc : List V → Hp → Addr → Option Addr → Prop} {ws : List V}
    (lw : Lw H0 G0 p ls G H) (hp : pre ws G) (k : ∀ G' H' x, Ex G G' → Lw H0 G0 p ls G' H' → post ws G G' x → Q (.ref x) H') (kx : ∀ G' H' C d, Ex G G' → Lw H0 G0 p ls G' H' → exc ws G' C d → E (.ref C) d H') :
    ∀ x dx, H x = none → H dx = none → dx ≠ x → InitSp F pre post exc (.ref x :: ws) (upd (upd H dx (.own x)) x (.ins F dx [])) (fun v H2 => v = .non ∧ Q (.ref x) H2) E := fun x dx hx hd ne => by
  have l0 : Lw H G none [] G H := lw.enter
  have l1 : Lw H G none [] G (upd H dx (.own x)) := l0.step (ex_new hd)
  have l2 : Lw H G none [(x, .ins F dx [])] G (upd (upd H dx (.own x)) x (.ins F dx [])) := l1.make (by rw [upd_ne (Ne.symm ne)]; exact hx)
  exact ⟨H, G, x, dx, ws, rfl, l2, hp, fun G' H' l hv => ⟨rfl, k G' H' x l.g0 (lw.after l) hv⟩, fun G' H' C d l hv => kx G' H' C d l.g0 (lw.after l) hv⟩
end
end UfN

/-! # A class made without values, its __init__ has defaults and may raise; tuples and texts at the top -/
namespace UfR
open PySem PySem.Spec PyProof.Rows L2
/-- a method with defaults -/
structure MetDAt (K : PySem.W.Frag) (C : Addr) (m qual : Str) (st : Stmt) (ps : List Str) (dvs : List V) where
  f : Addr
  fd : FuncData
  F : FunD K m qual (defArgs st) (defBody st) (defScope st) dvs [] f fd
  m : Meth K C m f
  b : Binds K fd ps []
  bd : ∃ ds, Vals dvs ds ∧ Binds K fd ps ds
/-- a tuple of ints at the top -/
structure TupAt (K : PySem.W.Frag) (mg : Str → Option Value) (x : Str) (ns : List Int) where
  t : Addr
  g : mg x = some (.ref t)
  s : ∀ H, SqT K H t (ns.map V.int)
section
variable {X : Cx} {CX : CXT} {k : Nat} {f C : Addr} {fd : FuncData} {ps : List Str} {sp : Sp} {E : L2.St → XK} {x m : Str} {p pos apos : Pos} {dvs : List V}
theorem run_makeD {pins : List (Addr × Obj)} {σ : L2.St} {H : Hp} {s : Shared} {Q : VK} {us ds : List Value} {vs : List V} {E : XK} (M : Mk X.K C f) (F : FnOk X.prog X.w X.K X.mg X.base CX k f fd ps sp) (hr : Room (k + 1) X.A) (hb : Binds X.K fd ps ds) (rd : Vals dvs ds)
    (hx : PassesAt CX X σ E) (I : Inv X pins σ H s) (r : Vals vs us) (h : ∀ x dx, H x = none → H dx = none → dx ≠ x → sp (.ref x :: (vs ++ dvs)) (upd (upd H dx (.own x)) x (.ins C dx [])) (fun v H2 => v = .non ∧ Q (.ref x) H2) E) :
    wpAny (model X.prog X.w) X.A (call (.ref C) us) (EP X pins σ Q) X.xe s := by
  have hq := h (s.heap.objs.size + 1) s.heap.objs.size (I.hok.fresh (Nat.le_succ _)) (I.hok.fresh (Nat.le_refl _)) (Nat.ne_of_lt (Nat.lt_succ_self _))
  have I2 := Inv.made (C := C) I
  have r2 : Vals (V.ref (s.heap.objs.size + 1) :: (vs ++ dvs)) (Value.ref (s.heap.objs.size + 1) :: (us ++ ds)) := .cons rfl (r.append rd)
  have hl : (Value.ref (s.heap.objs.size + 1) :: (us ++ ds)).length = ps.length := by
    rw [← r2.length]
    exact F.len _ _ _ _ hq
  refine wpAny_call (make_map (f := f) I.kIn M.makes M.init (beq_iff_eq.mp M.fn) (codeAny_mono (F.run _ X.stack _ _ ⟨Value.ref (s.heap.objs.size + 1) :: us, []⟩ (Value.ref (s.heap.objs.size + 1) :: (us ++ ds)) _ _ E (hr.make C us [])
    (I2.env0.make C us []) (by
      exact hb _ (Value.ref (s.heap.objs.size + 1) :: us) I2.kIn (by simpa using hl)) r2 hq) fun r s' hq' => ?_))
  cases r with
  | error e => exact hx pins _ _ e s' I2 hq'
  | ok fl =>
    cases fl with
    | ret u =>
      obtain ⟨v, H', I3, rv, ev, q3⟩ := I2.after hq'
      subst ev
      exact ⟨rv, ⟨V.ref (s.heap.objs.size + 1), H', I3, rfl, q3⟩⟩
    | next => exact False.elim hq'
    | brk => exact False.elim hq'
    | cont => exact False.elim hq'
def tMakeD0 (C : Addr) (sp : Sp) (dvs : List V) (E : L2.St → XK) : TE := fun σ H Q => ∀ x dx, H x = none → H dx = none → dx ≠ x → sp (.ref x :: dvs) (upd (upd H dx (.own x)) x (.ins C dx [])) (fun v H2 => v = .non ∧ Q (.ref x) H2) (E σ)
/-- C() -/
theorem pe_makeD0 (M : Mk X.K C f) (F : FnOk X.prog X.w X.K X.mg X.base CX k f fd ps sp) (hr : Room (k + 1) X.A) (hg : Gl X x) (hm : X.mg x = some (.ref C)) (hb : ∃ ds, Vals dvs ds ∧ Binds X.K fd ps ds) (hx : ∀ σ, PassesAt CX X σ (E σ))
    (hdb : (x == ("__debug__" : Str)) = false := by decide) : PE X (.Call (.Name x p) [] [] pos) (tMakeD0 C sp dvs E) := by
  obtain ⟨ds, rd, hb⟩ := hb
  refine ⟨fun pins s σ H Q I h => ?_⟩
  refine wpAny_Call_Name_kw (ld_glob I hg hm ?_ hdb)
  refine PySem.W.callWith_K0 (first := []) I.kIn M.kp ?_
  exact run_makeD (us := []) (vs := []) M F hr hb rd (hx σ) I .nil h
end
end UfR

/-! # Rules with K told, for fields -/
namespace UfK
open PySem PySem.Spec PyProof.Rows L2
variable {X : Cx} {K : PySem.W.Frag} {e : Expr} {ta : TE} {f : Str} {pos : Pos}
theorem pe_fldK (he : PE X e ta) (hb : attributeBase e f X.env (eval e X.env) = eval e X.env) (h : X.K = K := by rfl) : PE X (.Attribute e f pos) (tFld K ta f) := h ▸ pe_fld he hb
end UfK

/-! # What is asked of the handled exception, with or without an own dict -/
namespace UfH
open PySem PySem.Spec PyProof.Rows L2
/-- p is an exception of the class at D with the own dict d, if any -/
structure ExcO (p : Addr × Obj) (D : Addr) (d : Option Addr) : Prop where
  zc : Zc (.ref D) d p.2
  fl : ∃ vs, p.2.data = .fields vs
/-- the own dict's fields are told -/
def DOk (H : Hp) (d : Option Addr) : Prop := ∀ a, d = some a → ∃ fs, H a = some (.xd fs)
section
variable {X : Cx} {p : Addr × Obj} {D : Addr} {d : Option Addr}
theorem ExcO.inst {pins : List (Addr × Obj)} {σ : SL} {H : Hp} {s : Shared} (Z : ExcO p D d) (I : Inv X pins σ H s) (hp : p ∈ X.pn) (hx : DOk H d) : ∃ od, PySem.W.InstAt s.heap p.1 p.2 D od := by
  cases d with
  | some a =>
    obtain ⟨fs, h⟩ := hx a rfl
    obtain ⟨mA, od, J, _⟩ := Exc1.inst ⟨Z.zc, Z.fl⟩ I hp h
    exact ⟨_, J⟩
  | none =>
    obtain ⟨hget, _⟩ := I.pin p (List.mem_append_left _ hp)
    obtain ⟨vs, hv⟩ := Z.fl
    exact ⟨none, hget, Z.zc.1, by unfold PySem.W.notCls; rw [hv] <;> rfl, by rw [Z.zc.2]; trivial⟩
def rIsO (K : PySem.W.Frag) (a D : Addr) (d : Option Addr) : List V → Hp → VK → Prop := fun xs H Q => ∃ (c : V) (cv : Value) (b : Bool), xs = [.ref a, c] ∧ (∀ u, RelV c u → u = cv) ∧ DOk H d ∧ PySem.W.kitOne K (.ref D) cv = some b ∧ Q (.bl b) H
theorem call_isO (T : ExKnow X.K D) (Z : ExcO p D d) (hp : p ∈ X.pn) : CallR X (.builtin "isinstance") (rIsO X.K p.1 D d) := by
  intro pins s σ H xs us Q I r h
  obtain ⟨c, cv, b, rfl, hcv, hx, e, q⟩ := h
  cases r with
  | cons rx rr =>
    cases rr with
    | cons rt rr =>
      cases rr
      cases rx
      have ec := hcv _ rt
      subst ec
      obtain ⟨od, J⟩ := Z.inst I hp hx
      exact PySem.W.kia_one (PySem.W.kitx_exc T.cl T.ga T.gg T.ex T.cla T.sp T.tk T.mo) I.kIn J e (fun z => nomatch z) fun tk => ⟨.bl b, H, I.kept (t' := tk) fun _ _ z => z, rfl, q⟩
def tFldO (a : Addr) (d : Option Addr) (f : Str) (te : TE) : TE := fun σ H Q => te σ H fun x H1 => x = .ref a ∧ ∃ (d' : Addr) (fs : List (Str × V)) (v : V), d = some d' ∧ H1 d' = some (.xd fs) ∧ fs.lookup f = some v ∧ Q v H1
theorem pe_fldO {e : Expr} {te : TE} {pos : Pos} {n : Str} (T : ExKnow X.K D) (Z : ExcO p D d) (hp : p ∈ X.pn) (hno : PySem.W.findIn X.K (.ref D) n = some none) (he : PE X e te)
    (hb : attributeBase e n X.env (eval e X.env) = eval e X.env := by rfl) : PE X (.Attribute e n pos) (tFldO p.1 d n te) := by
  refine ⟨fun pins s σ H Q I h => ?_⟩
  refine attr_of hb (thn (he.run pins s σ H _ I h) fun u s1 hv => ?_)
  obtain ⟨x, H1, I1, rx, ex, d', fs, v, rfl, hx, l, q⟩ := hv
  subst ex
  obtain rfl : u = Value.ref p.1 := rx
  obtain ⟨mA, od, J, hr, hl⟩ := Exc1.inst ⟨Z.zc, Z.fl⟩ I1 hp hx
  obtain ⟨u, hu, ru⟩ := RelO.some_of (v := v) (o := mA n) (by rw [← l]; exact hr n)
  exact HandSPX.exc_get I1.kIn J T.ga T.gg T.ex (PySem.W.findObj_own T.hd hno rfl (by rw [hl, hu])) (handed_of ru) ⟨v, H1, I1.tok _, ru, q⟩
end
end UfH

/-! # sum of a list of numbers of which some are own objects; math.lcm -/
namespace UfO
open PySem PySem.Spec PyProof.Rows L2
open PySem.W (InstAt Frag)
section
variable {X : Cx} {k : Nat} {f g C : Addr} {fd gd : FuncData} {ps qs : List Str} {sp sq : Sp}
/-- an own def that lets nothing out, called at the model's level -/
theorem run_fnN {A : Around} {pins : List (Addr × Obj)} {σ : L2.St} {H : Hp} {s : Shared} {Q : VK} {us : List Value} {vs : List V} {Ex : Value → Shared → Prop} (sb : Sub X k A) (F : FnOk X.prog X.w X.K X.mg X.base CX0 k f fd ps sp) (hb : Binds X.K fd ps [])
    (I : Inv X pins σ H s) (r : Vals vs us) (h : sp vs H Q E0) : wpAny (model X.prog X.w) A (call (.ref f) us) (EP X pins σ Q) Ex s := by
  have e0 : Env0 X.prog X.w X.K X.mg X.base A X.stack s H := by
    have e := I.env0
    exact ⟨by rw [sb.fr]; exact e.frames, e.mod, e.bs, e.bsz, e.funs, e.frf, e.hok, e.bare⟩
  have hl : us.length = ps.length := by
    rw [← r.length]
    exact F.len _ _ _ _ h
  refine wpAny_call (codeAny_mono (F.run A X.stack s H ⟨us, []⟩ us vs Q E0 sb.room e0 (by
    have := hb s us I.kIn (by rw [List.append_nil]; exact hl)
    rw [List.append_nil] at this
    exact this) r h) fun r s' hq => ?_)
  cases r with
  | error e => exact False.elim hq
  | ok fl =>
    cases fl with
    | ret w => exact I.after hq
    | next => exact False.elim hq
    | brk => exact False.elim hq
    | cont => exact False.elim hq
/-- x + y at any depth -/
theorem op_addA {A : Around} {pins : List (Addr × Obj)} {σ : L2.St} {H : Hp} {s : Shared} {Q : VK} {x y : V} {u v : Value} {Ex : Value → Shared → Prop} (sb : Sub X k A) (c : OwnC X.K C) (O : OwnBin X.K C "add" f g) (F : FnOk X.prog X.w X.K X.mg X.base CX0 k f fd ps sp) (hb : Binds X.K fd ps [])
    (G : FnOk X.prog X.w X.K X.mg X.base CX0 k g gd qs sq) (hg : Binds X.K gd qs []) (I : Inv X pins σ H s) (rx : RelV x u) (ry : RelV y v) (h : rOwn2 C sp sq E0 (rI0 fun i j => .int (i + j)) x y H Q) :
    wpAny (model X.prog X.w) A (binaryOp .Add u v) (EP X pins σ Q) Ex s := by
  rcases h with ⟨i, j, rfl, rfl, h⟩ | ⟨a, dx, fs, rfl, ha, hy, h⟩ | ⟨i, b, dy, gs, rfl, rfl, hb', h⟩
  · obtain ⟨t, rfl⟩ := rx
    obtain ⟨t', rfl⟩ := ry
    obtain ⟨i', j', e1, e2, q⟩ := h
    cases e1
    cases e2
    exact add_int ⟨V.int _, H, I.tok _, ⟨_, rfl⟩, q⟩
  · cases rx
    obtain ⟨mA, J, _⟩ := ins_get I.hok ha
    obtain ⟨od, J, _⟩ := J.look
    obtain ⟨m, hF⟩ := I.fr
    have run : ∀ u, RelV y u → wpAny (model X.prog X.w) A (call (.ref f) [.ref a, u]) (PySem.W.CmpBack (EP X pins σ Q)) Ex s := fun u ry =>
      wpAny_mono (run_fnN (vs := [V.ref a, y]) sb F hb I (.cons rfl (.cons ry .nil)) h) (fun _ _ z => cb_of z) fun _ _ z => z
    rcases hy with ⟨i, rfl⟩ | ⟨b, dy, gs, rfl, hb'⟩
    · obtain ⟨t, rfl⟩ := ry
      obtain ⟨fo, h1⟩ := O.i1
      obtain ⟨ro, h2⟩ := O.i2
      exact PySem.W.ksp_binT (op := .Add) (T := "int") hF I.ok.mod.kin J rfl c.first O.at_ O.fn O.rat (.inr ⟨_, rfl⟩) h1 h2 c.int1 (run _ ⟨t, rfl⟩)
    · cases ry
      obtain ⟨mB, J', _⟩ := ins_get I.hok hb'
      obtain ⟨od', J', _⟩ := J'.look
      exact PySem.W.binop_K (op := .Add) hF I.ok.mod.kin J J'.type c.first O.at_ O.fn (run _ rfl)
  · obtain ⟨t, rfl⟩ := rx
    cases ry
    obtain ⟨mA, J, _⟩ := ins_get I.hok hb'
    obtain ⟨od, J, _⟩ := J.look
    exact rbin_K (op := .Add) I.kIn J c.first O.at_ O.rat O.rfn c.int2 PySem.F.fills_int_add PySem.F.slot_int_add (fun Q' q => call_meets PySem.F.slot_int_add (typeIs_int s i t) PySem.F.entry_int_add (PySem.F.args_int_add_2 _ _) (int_add_ref i t b C dy) ⟨J.at_, q⟩)
      (wpAny_mono (run_fnN (vs := [V.ref b, V.int i]) sb G hg I (.cons rfl (.cons ⟨t, rfl⟩ .nil)) h) (fun _ _ z => cb_of z) fun _ _ z => z)
/-- an int or an object -/
def IR (v : V) : Prop := (∃ n, v = .int n) ∨ ∃ a, v = .ref a
/-- the sum so far is t, the rest of the list at l is still to come -/
def SumK (K : Frag) (C : Addr) (sp sq : Sp) (l : Addr) (xs : List V) : List V → V → Hp → VK → Prop
  | [], t, H, Q => SqL K H l xs ∧ Q t H
  | x :: r, t, H, Q => SqL K H l xs ∧ rOwn2 C sp sq E0 (rI0 fun i j => .int (i + j)) t x H fun v H' => IR v ∧ SumK K C sp sq l xs r v H' Q
abbrev sObj (v : Value) (c : Nat) : Obj := { cls := .type "list", dict := none, data := .seq #[v] c, slots := #[] }
theorem fp2 {pins : List (Addr × Obj)} {H H' : Hp} {b : Addr} (h : FpOk X pins H b) (n : H' b = none) : FpOk X pins H' b := ⟨n, h.2⟩
theorem code_sum_own (hc : X.calm = true) (sb : Sub X k X.A.in1) (c : OwnC X.K C) (O : OwnBin X.K C "add" f g) (F : FnOk X.prog X.w X.K X.mg X.base CX0 k f fd ps sp) (hb : Binds X.K fd ps [])
    (G : FnOk X.prog X.w X.K X.mg X.base CX0 k g gd qs sq) (hg : Binds X.K gd qs []) {pins : List (Addr × Obj)} {σ : L2.St} {Q : VK} {l I S : Addr} {xs : List V} (hIS : I ≠ S) {Ex : Value → Shared → Prop} :
    ∀ (r : List V) (i : Nat) (s : Shared) (H : Hp) (t : V) (u : Value) (cap : Nat) (st : Int), xs.drop i = r → ((st = 0 ∧ ∃ n, t = .int n) ∨ st = 2) → Inv X pins σ H s → FpOk X pins H I → FpOk X pins H S → s.heap.IsListIter I l i →
      s.heap.get? S = some (sObj u cap) → RelV t u → SumK X.K C sp sq l xs r t H Q →
      codeAny (model X.prog X.w) X.A (.builtin "sum.loop" ⟨[.ref I, .ref S, rawInt st, rawInt 0], []⟩) (fun r s' => match r with | .ok (.ret v) => EP X pins σ Q v s' | .ok _ => False | .error e => Ex e s') s
  | [], i, s, H, t, u, cap, st, hr, hst, Iv, fI, fS, hit, hS, rt, h => by
    obtain ⟨hq, h⟩ := h
    obtain ⟨its, rv, p, hz⟩ := Iv.list hq
    refine codeAny_builtin PySem.F.entry_sum_loop ?_
    rw [Around.under_plainId PySem.F.plain_sum_loop _]
    show wpAny _ X.A.in1 (seqItems? (.ref S) >>= _) _ _ s
    refine wpAny_bind (wpAny_seqItems hS rfl ?_)
    show wpAny _ X.A.in1 (tryCatch (pyNext (.ref I)) _ >>= _) _ _ s
    have hl := rv.length
    have hd : xs.length ≤ i := List.drop_eq_nil_iff.mp hr
    obtain ⟨f0, f1, f2, f3, f4, f5⟩ := id fI
    refine wpAny_bind (wpAny_tryCatch (wpAny_pyNext_list_end (Iv.ok.hd hc) hit p.isList (by simp; omega) fun h' eb => ?_))
    have I1 : Inv X pins σ H { s with heap := h' } := Iv.turned (t' := s.toks) (fun b o hb e => eb b o hb e) f0 f1 f3 f4 f5
    rcases hst with ⟨rfl, n, rfl⟩ | rfl
    · obtain ⟨t', rfl⟩ := rt
      exact wpAny_pure ⟨V.int n, H, I1, ⟨t', rfl⟩, h⟩
    · cases u <;> first | exact wpAny_pure ⟨_, H, I1, rt, h⟩ | exact (show wpAny _ _ (if (2 == 1) = true then _ else _) _ _ _ from wpAny_pure ⟨_, H, I1, rt, h⟩)
  | x :: r, i, s, H, t, u, cap, st, hr, hst, Iv, fI, fS, hit, hS, rt, h => by
    obtain ⟨hq, h⟩ := h
    obtain ⟨its, rv, p, hz⟩ := Iv.list hq
    have hl := rv.length
    have hx : xs[i]? = some x := by
      have : (xs.drop i)[0]? = some x := by rw [hr]; rfl
      rw [List.getElem?_drop] at this
      exact this
    have hr' : xs.drop (i + 1) = r := by
      rw [← List.drop_drop, hr]
      rfl
    obtain ⟨w, hw, rx⟩ := rv.get hx
    refine codeAny_builtin PySem.F.entry_sum_loop ?_
    rw [Around.under_plainId PySem.F.plain_sum_loop _]
    show wpAny _ X.A.in1 (seqItems? (.ref S) >>= _) _ _ s
    refine wpAny_bind (wpAny_seqItems hS rfl ?_)
    show wpAny _ X.A.in1 (tryCatch (pyNext (.ref I)) _ >>= _) _ _ s
    obtain ⟨f0, f1, f2, f3, f4, f5⟩ := id fI
    obtain ⟨g0, g1, g2, g3, g4, g5⟩ := id fS
    refine wpAny_bind (wpAny_tryCatch (wpAny_pyNext_list_item hit p.isList (x := w) (by simpa using hw) fun h' hit' sbt => ?_))
    have I1 : Inv X pins σ H { s with heap := h' } := Iv.turned (t' := s.toks) (fun b o hb e => (sbt.2 b hb).trans e) f0 f1 f3 f4 f5
    have hS' : h'.get? S = some (sObj u cap) := (sbt.2 S (Ne.symm hIS)).trans hS
    have fpl : ∀ b ∈ [I, S], FpOk X pins H b := fun b hb' => by
      rcases List.mem_cons.mp hb' with rfl | hb'
      · exact fI
      · rw [List.mem_singleton.mp hb']
        exact fS
    have I2 : Inv X (pins ++ pinsAt [I, S] h') σ H { s with heap := h' } := I1.pinned (fp := [I, S]) fpl fun b hb' => by
      rcases List.mem_cons.mp hb' with rfl | hb'
      · obtain ⟨o, e, _, d⟩ := hit'
        exact ⟨o, e, fun v z => by rw [d] at z; cases z⟩
      · rw [List.mem_singleton.mp hb']
        exact ⟨_, hS', fun v z => by cases z⟩
    have back : ∀ {H2 : Hp} {s2 : Shared}, Inv X (pins ++ pinsAt [I, S] h') σ H2 s2 → s2.heap.get? S = some (sObj u cap) ∧ H2 S = none ∧ H2 I = none ∧ s2.heap.IsListIter I l (i + 1) := fun J => by
      obtain ⟨o, e, c', d⟩ := id hit'
      obtain ⟨p1, p2, _⟩ := J.pin (S, sObj u cap) (List.mem_append_right _ (List.mem_append_right _ (mem_pinsAt (by simp) hS')))
      obtain ⟨p3, p4, _⟩ := J.pin (I, o) (List.mem_append_right _ (List.mem_append_right _ (mem_pinsAt (by simp) e)))
      exact ⟨p1, p2, p4, o, p3, c', d⟩
    rcases hst with ⟨rfl, n, rfl⟩ | rfl
    · obtain ⟨tu, rfl⟩ := id rt
      by_cases hxi : ∃ j, x = .int j
      · obtain ⟨j, rfl⟩ := hxi
        obtain ⟨tw, rfl⟩ := id rx
        show wpAny _ X.A.in1 (if (_ : Bool) = true then (mkInt (n + j) >>= _) else _) _ _ _
        split
        · have h3 : IR (.int (n + j)) ∧ SumK X.K C sp sq l xs r (.int (n + j)) H Q := by
            rcases h with ⟨_, _, e1, e2, _, _, e3, e4, h⟩ | ⟨a, _, _, e1, _⟩ | ⟨_, b, _, _, _, e2, _⟩
            · cases e3
              cases e4
              exact h
            · cases e1
            · cases e2
          refine wpAny_bind (wpAny_mkInt ?_)
          show wpAny _ X.A.in1 (updateSeq S (fun _ => #[.int (n + j) s.toks]) >>= _) _ _ _
          refine wpAny_bind (wpAny_updateSeq hS' rfl ?_)
          have hS4 := Heap.get?_update_self (Obj.mapSeq fun _ => #[Value.int (n + j) s.toks]) hS' rfl
          have keep : ∀ b o, b ≠ S → h'.get? b = some o → (h'.update S (Obj.mapSeq fun _ => #[Value.int (n + j) s.toks])).get? b = some o := fun b o hb e => (Heap.get?_update_other _ _ (Ne.symm hb)).trans e
          have J3 : Inv X pins σ H { s with heap := h'.update S (Obj.mapSeq fun _ => #[Value.int (n + j) s.toks]), toks := s.toks + 1 } := I1.turned (t' := s.toks + 1) keep g0 g1 g3 g4 g5
          exact wpAny_pure ⟨plainId_quiet PySem.F.plain_sum_loop _, code_sum_own (Ex := Ex) hc sb c O F hb G hg hIS r (i + 1) _ H (.int (n + j)) _ _ 0 hr' (.inl ⟨rfl, _, rfl⟩) J3 fI fS (hit'.at fun o e => keep I o hIS e) hS4 ⟨_, rfl⟩ h3.2⟩
        · refine wpAny_bind (wpAny_rule ?_)
          refine wpAny_bind (wpAny_attempt (wpAny_holding (wpAny_mono (op_addA (Ex := fun _ _ => False) sb c O F hb G hg I2 rt rx h) (fun r' s2 h2 => ?_) fun _ _ z => z.elim)))
          obtain ⟨v', H2, J2, rv', ir, h2⟩ := h2
          obtain ⟨hS2, nS2, nI2, hit2⟩ := back J2
          have J2 := J2.unpinned
          show wpAny _ X.A.in1 (updateSeq S (fun _ => #[r']) >>= _) _ _ _
          refine wpAny_bind (wpAny_updateSeq hS2 rfl ?_)
          have hS3 := Heap.get?_update_self (Obj.mapSeq fun _ => #[r']) hS2 rfl
          refine wpAny_bind (wpAny_letGo ?_)
          refine wpAny_bind (wpAny_updateSeq hS3 rfl ?_)
          have hS4 := Heap.get?_update_self (Obj.mapSeq fun _ => #[r']) hS3 rfl
          have keep : ∀ b o, b ≠ S → s2.heap.get? b = some o → ((s2.heap.update S (Obj.mapSeq fun _ => #[r'])).update S (Obj.mapSeq fun _ => #[r'])).get? b = some o := fun b o hb e => (Heap.get?_update_other _ _ (Ne.symm hb)).trans ((Heap.get?_update_other _ _ (Ne.symm hb)).trans e)
          have J3 : Inv X pins σ H2 { s2 with heap := (s2.heap.update S (Obj.mapSeq fun _ => #[r'])).update S (Obj.mapSeq fun _ => #[r']) } := J2.turned (t' := s2.toks) keep nS2 g1 g3 g4 g5
          have cl := code_sum_own (Ex := Ex) hc sb c O F hb G hg hIS r (i + 1) { s2 with heap := (s2.heap.update S (Obj.mapSeq fun _ => #[r'])).update S (Obj.mapSeq fun _ => #[r']) } H2 v' r' _ 2 hr' (.inr rfl) J3 (fp2 fI nI2) (fp2 fS nS2) (hit2.at fun o e => keep I o hIS e) hS4 rv' h2
          exact wpAny_pure ⟨plainId_quiet PySem.F.plain_sum_loop _, cl⟩
      · have hxr : ∃ a, x = .ref a := by
          rcases h with ⟨_, j, _, e2, _⟩ | ⟨_, _, _, e1, _⟩ | ⟨_, b, _, _, _, e2, _⟩
          · exact (hxi ⟨j, e2⟩).elim
          · cases e1
          · exact ⟨b, e2⟩
        obtain ⟨a, rfl⟩ := hxr
        cases rx
        have rx : RelV (.ref a) (.ref a) := rfl
        show wpAny _ X.A.in1 (rule _ >>= _) _ _ _
        refine wpAny_bind (wpAny_rule ?_)
        refine wpAny_bind (wpAny_attempt (wpAny_holding (wpAny_mono (op_addA (Ex := fun _ _ => False) sb c O F hb G hg I2 rt rx h) (fun r' s2 h2 => ?_) fun _ _ z => z.elim)))
        obtain ⟨v', H2, J2, rv', ir, h2⟩ := h2
        obtain ⟨hS2, nS2, nI2, hit2⟩ := back J2
        have J2 := J2.unpinned
        show wpAny _ X.A.in1 (updateSeq S (fun _ => #[r']) >>= _) _ _ _
        refine wpAny_bind (wpAny_updateSeq hS2 rfl ?_)
        have hS3 := Heap.get?_update_self (Obj.mapSeq fun _ => #[r']) hS2 rfl
        refine wpAny_bind (wpAny_letGo ?_)
        refine wpAny_bind (wpAny_updateSeq hS3 rfl ?_)
        have hS4 := Heap.get?_update_self (Obj.mapSeq fun _ => #[r']) hS3 rfl
        have keep : ∀ b o, b ≠ S → s2.heap.get? b = some o → ((s2.heap.update S (Obj.mapSeq fun _ => #[r'])).update S (Obj.mapSeq fun _ => #[r'])).get? b = some o := fun b o hb e => (Heap.get?_update_other _ _ (Ne.symm hb)).trans ((Heap.get?_update_other _ _ (Ne.symm hb)).trans e)
        have J3 : Inv X pins σ H2 { s2 with heap := (s2.heap.update S (Obj.mapSeq fun _ => #[r'])).update S (Obj.mapSeq fun _ => #[r']) } := J2.turned (t' := s2.toks) keep nS2 g1 g3 g4 g5
        have cl := code_sum_own (Ex := Ex) hc sb c O F hb G hg hIS r (i + 1) { s2 with heap := (s2.heap.update S (Obj.mapSeq fun _ => #[r'])).update S (Obj.mapSeq fun _ => #[r']) } H2 v' r' _ 2 hr' (.inr rfl) J3 (fp2 fI nI2) (fp2 fS nS2) (hit2.at fun o e => keep I o hIS e) hS4 rv' h2
        rcases ir with ⟨m, rfl⟩ | ⟨m, rfl⟩
        · obtain ⟨tt, rfl⟩ := id rv'
          exact wpAny_pure ⟨plainId_quiet PySem.F.plain_sum_loop _, cl⟩
        · cases id rv'
          exact wpAny_pure ⟨plainId_quiet PySem.F.plain_sum_loop _, cl⟩
    · have ht : IR t := by
        rcases h with ⟨a, _, e1, _⟩ | ⟨a, _, _, e1, _⟩ | ⟨a, _, _, _, e1, _⟩
        · exact .inl ⟨a, e1⟩
        · exact .inr ⟨a, e1⟩
        · exact .inl ⟨a, e1⟩
      rcases ht with ⟨m, rfl⟩ | ⟨m, rfl⟩
      · obtain ⟨tt, rfl⟩ := id rt
        refine wpAny_bind (wpAny_attempt (wpAny_holding (wpAny_mono (op_addA (Ex := fun _ _ => False) sb c O F hb G hg I2 rt rx h) (fun r' s2 h2 => ?_) fun _ _ z => z.elim)))
        obtain ⟨v', H2, J2, rv', ir, h2⟩ := h2
        obtain ⟨hS2, nS2, nI2, hit2⟩ := back J2
        have J2 := J2.unpinned
        show wpAny _ X.A.in1 (updateSeq S (fun _ => #[r']) >>= _) _ _ _
        refine wpAny_bind (wpAny_updateSeq hS2 rfl ?_)
        have hS3 := Heap.get?_update_self (Obj.mapSeq fun _ => #[r']) hS2 rfl
        refine wpAny_bind (wpAny_letGo ?_)
        refine wpAny_bind (wpAny_updateSeq hS3 rfl ?_)
        have hS4 := Heap.get?_update_self (Obj.mapSeq fun _ => #[r']) hS3 rfl
        have keep : ∀ b o, b ≠ S → s2.heap.get? b = some o → ((s2.heap.update S (Obj.mapSeq fun _ => #[r'])).update S (Obj.mapSeq fun _ => #[r'])).get? b = some o := fun b o hb e => (Heap.get?_update_other _ _ (Ne.symm hb)).trans ((Heap.get?_update_other _ _ (Ne.symm hb)).trans e)
        have J3 : Inv X pins σ H2 { s2 with heap := (s2.heap.update S (Obj.mapSeq fun _ => #[r'])).update S (Obj.mapSeq fun _ => #[r']) } := J2.turned (t' := s2.toks) keep nS2 g1 g3 g4 g5
        have cl := code_sum_own (Ex := Ex) hc sb c O F hb G hg hIS r (i + 1) { s2 with heap := (s2.heap.update S (Obj.mapSeq fun _ => #[r'])).update S (Obj.mapSeq fun _ => #[r']) } H2 v' r' _ 2 hr' (.inr rfl) J3 (fp2 fI nI2) (fp2 fS nS2) (hit2.at fun o e => keep I o hIS e) hS4 rv' h2
        exact wpAny_pure ⟨plainId_quiet PySem.F.plain_sum_loop _, cl⟩
      · cases id rt
        refine wpAny_bind (wpAny_attempt (wpAny_holding (wpAny_mono (op_addA (Ex := fun _ _ => False) sb c O F hb G hg I2 rt rx h) (fun r' s2 h2 => ?_) fun _ _ z => z.elim)))
        obtain ⟨v', H2, J2, rv', ir, h2⟩ := h2
        obtain ⟨hS2, nS2, nI2, hit2⟩ := back J2
        have J2 := J2.unpinned
        show wpAny _ X.A.in1 (updateSeq S (fun _ => #[r']) >>= _) _ _ _
        refine wpAny_bind (wpAny_updateSeq hS2 rfl ?_)
        have hS3 := Heap.get?_update_self (Obj.mapSeq fun _ => #[r']) hS2 rfl
        refine wpAny_bind (wpAny_letGo ?_)
        refine wpAny_bind (wpAny_updateSeq hS3 rfl ?_)
        have hS4 := Heap.get?_update_self (Obj.mapSeq fun _ => #[r']) hS3 rfl
        have keep : ∀ b o, b ≠ S → s2.heap.get? b = some o → ((s2.heap.update S (Obj.mapSeq fun _ => #[r'])).update S (Obj.mapSeq fun _ => #[r'])).get? b = some o := fun b o hb e => (Heap.get?_update_other _ _ (Ne.symm hb)).trans ((Heap.get?_update_other _ _ (Ne.symm hb)).trans e)
        have J3 : Inv X pins σ H2 { s2 with heap := (s2.heap.update S (Obj.mapSeq fun _ => #[r'])).update S (Obj.mapSeq fun _ => #[r']) } := J2.turned (t' := s2.toks) keep nS2 g1 g3 g4 g5
        have cl := code_sum_own (Ex := Ex) hc sb c O F hb G hg hIS r (i + 1) { s2 with heap := (s2.heap.update S (Obj.mapSeq fun _ => #[r'])).update S (Obj.mapSeq fun _ => #[r']) } H2 v' r' _ 2 hr' (.inr rfl) J3 (fp2 fI nI2) (fp2 fS nS2) (hit2.at fun o e => keep I o hIS e) hS4 rv' h2
        exact wpAny_pure ⟨plainId_quiet PySem.F.plain_sum_loop _, cl⟩
/-- sum(xs) -/
def rSumOwn (K : Frag) (C : Addr) (sp sq : Sp) : List V → Hp → VK → Prop := fun vs H Q => ∃ (l : Addr) (xs : List V), vs = [V.ref l] ∧ SumK K C sp sq l xs xs (.int 0) H Q
theorem cr_sumOwn (hc : X.calm = true) (hr : Room (k + 1) X.A) (c : OwnC X.K C) (O : OwnBin X.K C "add" f g) (F : FnOk X.prog X.w X.K X.mg X.base CX0 k f fd ps sp) (hb : Binds X.K fd ps [])
    (G : FnOk X.prog X.w X.K X.mg X.base CX0 k g gd qs sq) (hg : Binds X.K gd qs []) : CallR X (.builtin "sum") (rSumOwn X.K C sp sq) := by
  intro pins s σ H vs us Q I r h
  obtain ⟨l, xs, rfl, h⟩ := h
  rw [Vals.ref1 r]
  have hq : SqL X.K H l xs := by
    cases xs with
    | nil => exact h.1
    | cons x r => exact h.1
  obtain ⟨its, rv, p, hz⟩ := I.list hq
  refine call_function_tree PySem.F.kind_sum PySem.F.plain_sum PySem.F.entry_sum (PySem.F.args_sum1 _) ?_
  unfold Builtin.«sum»
  simp only [List.length_cons, List.length_nil]
  rw [if_neg (by decide)]
  refine wpAny_bind (wpAny_of_eq (show Builtin.Builtins.bindParams "sum" ["start"] 0 { } = pure [none] from rfl) ?_)
  refine wpAny_bind (wpAny_pyIter_list p.isList ?_)
  refine wpAny_bind (wpAny_mkInt ?_)
  refine wpAny_bind (wpAny_pure ?_)
  simp only [List.forIn_cons, List.forIn_nil]
  refine wpAny_bind (wpAny_bind (wpAny_bind (wpAny_isInstance (T := "int") (b := false) (typeIs_int _ _ _) PySem.sub_int_str ?_)))
  simp only [Bool.false_eq_true, if_false]
  refine wpAny_pure (wpAny_bind (wpAny_bind (wpAny_isInstance (T := "int") (b := false) (typeIs_int _ _ _) PySem.sub_int_bytes ?_)))
  simp only [Bool.false_eq_true, if_false]
  refine wpAny_pure (wpAny_bind (wpAny_bind (wpAny_isInstance (T := "int") (b := false) (typeIs_int _ _ _) PySem.sub_int_bytearray ?_)))
  simp only [Bool.false_eq_true, if_false]
  refine wpAny_pure (wpAny_pure ?_)
  refine wpAny_bind (wpAny_newObj_type ?_)
  have sz : (s.heap.push { cls := .type "list_iterator", data := .fields #[.ref l, .int 0 0] }).objs.size = s.heap.objs.size + 1 := Heap.size_push ..
  have kp : ∀ b o, s.heap.get? b = some o → ((s.heap.push { cls := .type "list_iterator", data := .fields #[.ref l, .int 0 0] }).push (sObj (.int 0 s.toks) 0)).get? b = some o := fun b o e => Heap.get?_push_of_some _ (Heap.get?_push_of_some _ e)
  have J : Inv X pins σ H { s with heap := (s.heap.push { cls := .type "list_iterator", data := .fields #[.ref l, .int 0 0] }).push (sObj (.int 0 s.toks) 0), toks := s.toks + 1 } := I.kept (t' := s.toks + 1) kp
  have hIS : s.heap.objs.size ≠ (s.heap.push { cls := .type "list_iterator", data := .fields #[.ref l, .int 0 0] }).objs.size := by rw [sz]; exact Nat.ne_of_lt (Nat.lt_succ_self _)
  refine wpAny_pure ⟨plainId_quiet PySem.F.plain_sum_loop _, codeAny_mono (code_sum_own (Q := Q) (Ex := X.xe) hc (Sub.in1 (n := k) (A := X.A) ⟨hr, rfl⟩) c O F hb G hg (pins := pins) (σ := σ) (l := l) (xs := xs) hIS xs 0 _ H (.int 0) _ _ 0 rfl (.inl ⟨rfl, 0, rfl⟩) J
    (I.fpOk (Nat.le_refl _) (I.hok.fresh (Nat.le_refl _))) (I.fpOk (by rw [sz]; exact Nat.le_succ _) (I.hok.fresh (by rw [sz]; exact Nat.le_succ _))) ⟨_, Heap.get?_push_of_some _ (Heap.get?_push_size _ rfl), rfl, rfl⟩ (Heap.get?_push_size _ rfl) ⟨_, rfl⟩ h) fun r s' hq => ?_⟩
  exact hq
/-- lcm(a, b) of ints below 2 ^ 64 -/
def rLcm : List V → Hp → VK → Prop := fun vs H Q => ∃ a b : Int, vs = [.int a, .int b] ∧ a.natAbs < 2 ^ 64 ∧ b.natAbs < 2 ^ 64 ∧ Q (.int ((Nat.lcm a.natAbs b.natAbs : Nat) : Int)) H
theorem cr_lcm : CallR X (.builtin "math.lcm") rLcm := by
  intro pins s σ H vs us Q I r h
  obtain ⟨a, b, rfl, h1, h2, q⟩ := h
  obtain ⟨t, u, rfl⟩ := Vals.int2 r
  exact PySem.W.mc_lcm h1 h2 fun _ => ⟨.int _, H, I.tok _, ⟨_, rfl⟩, q⟩
end
end UfO

/-! # zip of a tuple and a list (any of both); rules with K told -/
namespace UfZ
open PySem PySem.Spec PyProof.Rows L2
inductive Kd | li | tu
def Kd.cls : Kd → String
  | .li => "list_iterator"
  | .tu => "tuple_iterator"
/-- an iterator at j stands at place k of the sequence at a -/
def At (d : Kd) (h : Heap) (j a : Addr) (k : Nat) : Prop := match d with
  | .li => h.IsListIter j a k
  | .tu => h.IsTupleIter j a k
def Sq (d : Kd) (h : Heap) (a : Addr) (xs : Array Value) : Prop := match d with
  | .li => h.IsList a xs
  | .tu => h.IsTuple a xs
theorem At.to {d : Kd} {h g : Heap} {j a : Addr} {k : Nat} (x : At d h j a k) (e : ∀ o, h.get? j = some o → g.get? j = some o) : At d g j a k := by
  cases d with
  | li => exact Heap.IsListIter.at x e
  | tu => exact Heap.IsTupleIter.at x e
theorem At.obj {d : Kd} {h : Heap} {j a : Addr} {k : Nat} (x : At d h j a k) : ∃ o, h.get? j = some o ∧ ∀ v, o.data ≠ .cell v := by
  cases d with
  | li => obtain ⟨o, e, _, d⟩ := x; exact ⟨o, e, fun v q => by rw [d] at q; cases q⟩
  | tu => obtain ⟨o, e, _, d⟩ := x; exact ⟨o, e, fun v q => by rw [d] at q; cases q⟩
theorem Sq.to {d : Kd} {h g : Heap} {a : Addr} {xs : Array Value} (x : Sq d h a xs) (e : ∀ o, h.get? a = some o → g.get? a = some o) : Sq d g a xs := by
  cases d with
  | li => obtain ⟨o, q, r⟩ := x; exact ⟨o, e _ q, r⟩
  | tu => obtain ⟨o, q, r⟩ := x; exact ⟨o, e _ q, r⟩
section
variable {prog : Program} {w : World} {A : Around} {E : Value → Shared → Prop} {s : Shared}
theorem draw {d : Kd} {j a : Addr} {k : Nat} {xs : Array Value} {x : Value} {Q : Value → Shared → Prop} (hi : At d s.heap j a k) (hl : Sq d s.heap a xs) (hx : xs[k]? = some x)
    (hQ : ∀ g, At d g j a (k + 1) → Heap.SameBut j s.heap g → Q x { s with heap := g }) : wpAny (model prog w) A (Builtin.SmallTypes.nextOf (.ref j)) Q E s := by
  cases d with
  | li => exact wpAny_nextOf_list_item hi hl hx hQ
  | tu => exact RZ.nextOf_tuple_item hi hl hx hQ
theorem out {d : Kd} {j a : Addr} {k : Nat} {xs : Array Value} {Q : Value → Shared → Prop} (hh : A.handled = none) (hi : At d s.heap j a k) (hl : Sq d s.heap a xs) (hx : xs[k]? = none)
    (hE : ∀ g e, Heap.ExtBut j s.heap g → (∃ o, g.get? e = some o ∧ o.cls = .type "StopIteration") → E (.ref e) { s with heap := g }) : wpAny (model prog w) A (Builtin.SmallTypes.nextOf (.ref j)) Q E s := by
  cases d with
  | li => exact wpAny_nextOf_list_end hh hi hl hx hE
  | tu => exact RZ.nextOf_tuple_end hh hi hl hx hE
theorem begin_ {d : Kd} {a : Addr} {xs : Array Value} {Q : Value → Shared → Prop} (hl : Sq d s.heap a xs)
    (hQ : Q (.ref s.heap.objs.size) { s with heap := s.heap.push { cls := .type d.cls, data := .fields #[.ref a, .int 0 0] } }) : wpAny (model prog w) A (pyIter (.ref a)) Q E s := by
  cases d with
  | li => exact wpAny_pyIter_list hl hQ
  | tu => exact wpAny_pyIter_tuple hl hQ
/-- what a zip over two iterators is made of, and that all of it stands apart -/
structure Zs (c d : Kd) (h : Heap) (zp ti to j m a b : Addr) (k : Nat) (f : Value) (u v : Value) : Prop where
  z : IsZip h zp ti to f
  ti : IsPair h ti (.ref j) (.ref m)
  to : IsPair h to u v
  j : At c h j a k
  m : At d h m b k
/-- one turn of zip -/
theorem zip_turn {c d : Kd} {zp ti to j m a b : Addr} {k : Nat} {xs ys : Array Value} {x y u v : Value} {Q : Value → Shared → Prop} (ap : ZipApart zp ti to j m a b)
    (S : Zs c d s.heap zp ti to j m a b k .none u v) (ha : Sq c s.heap a xs) (hb : Sq d s.heap b ys) (hx : xs[k]? = some x) (hy : ys[k]? = some y)
    (hQ : ∀ g, IsZip g zp ti to (rawInt s.heap.objs.size) → IsPair g to x y → At c g j a (k + 1) → At d g m b (k + 1) → IsPair g s.heap.objs.size x y → g.objs.size = s.heap.objs.size + 1 →
      (∀ q o, q ≠ zp → q ≠ to → q ≠ j → q ≠ m → s.heap.get? q = some o → g.get? q = some o) → Q (.ref s.heap.objs.size) { s with heap := g }) :
    wpAny (model prog w) A (Builtin.«zip.__next__» ⟨[.ref zp], []⟩) (fun fin s' => ∃ v, fin = .done (.ret v) ∧ Q v s') E s := by
  obtain ⟨Z, TI, TO, J, M⟩ := S
  show wpAny _ _ (field (.ref zp) 2 >>= _) _ _ _
  refine wpAny_bind (wpAny_field Z rfl (x := .bool false) rfl ?_)
  show wpAny _ _ (field (.ref zp) 3 >>= _) _ _ _
  refine wpAny_bind (wpAny_field Z rfl (x := .ref ti) rfl (wpAny_bind (wpAny_seqItems TI rfl ?_)))
  show wpAny _ _ (Builtin.SmallTypes.ownedTupleIsFree (.ref zp) >>= _) _ _ _
  unfold Builtin.SmallTypes.ownedTupleIsFree
  refine wpAny_bind (wpAny_bind (wpAny_field Z rfl (x := .none) rfl (wpAny_pure ?_)))
  simp only [if_true]
  refine wpAny_bind (wpAny_rule (wpAny_bind (wpAny_field Z rfl (x := .ref to) rfl (wpAny_bind (wpAny_setField_rec Z (by simp) fun g1 Z1 s1 => ?_)))))
  replace Z1 : IsZip g1 zp ti to .ellipsis := Z1
  simp only [List.zipIdx_cons, List.zipIdx_nil, List.forIn_cons, List.forIn_nil]
  refine wpAny_bind (wpAny_bind (wpAny_bind (wpAny_onRaise ?_)))
  show wpAny _ _ (Builtin.SmallTypes.nextOf (.ref j) >>= _) _ _ _
  have k1 : ∀ q o, q ≠ zp → s.heap.get? q = some o → g1.get? q = some o := fun q o n e => s1.extBut _ _ n e
  refine wpAny_bind (draw (J.to fun o => k1 j o ap.i1z) (ha.to fun o => k1 a o ap.l1z) hx fun g2 J2 s2 => wpAny_pure ?_)
  have k2 : ∀ q o, q ≠ zp → q ≠ j → s.heap.get? q = some o → g2.get? q = some o := fun q o n n2 e => s2.extBut _ _ n2 (k1 q o n e)
  have TO2 : IsPair g2 to u v := k2 _ _ ap.TOz ap.TOi1 TO
  refine wpAny_bind (wpAny_seqItems TO2 rfl (wpAny_bind (wpAny_updateSeq_pair TO2 fun g3 TO3 s3 => wpAny_bind (wpAny_letGo (wpAny_pure ?_)))))
  replace TO3 : IsPair g3 to x v := TO3
  have k3 : ∀ q o, q ≠ zp → q ≠ j → q ≠ to → s.heap.get? q = some o → g3.get? q = some o := fun q o n n2 n3 e => s3.extBut _ _ n3 (k2 q o n n2 e)
  refine wpAny_bind (wpAny_bind (wpAny_onRaise ?_))
  show wpAny _ _ (Builtin.SmallTypes.nextOf (.ref m) >>= _) _ _ _
  refine wpAny_bind (draw (M.to fun o => k3 m o ap.i2z ap.i12.symm ap.TOi2.symm) (hb.to fun o => k3 b o ap.l2z ap.l2i1 ap.l2TO) hy fun g4 M4 s4 => wpAny_pure ?_)
  have TO4 : IsPair g4 to x v := s4.extBut _ _ ap.TOi2 TO3
  refine wpAny_bind (wpAny_seqItems TO4 rfl (wpAny_bind (wpAny_updateSeq_pair TO4 fun g5 TO5 s5 => wpAny_bind (wpAny_letGo (wpAny_pure (wpAny_pure ?_))))))
  replace TO5 : IsPair g5 to x y := TO5
  refine wpAny_bind (wpAny_seqItems TO5 rfl (wpAny_bind (wpAny_newTuple ?_)))
  have sz : g5.objs.size = s.heap.objs.size := by rw [s5.1, s4.1, s3.1, s2.1, s1.1]
  have k5 : ∀ q o, q ≠ zp → q ≠ to → q ≠ j → q ≠ m → s.heap.get? q = some o → g5.get? q = some o := fun q o n1 n2 n3 n4 e => s5.extBut _ _ n2 (s4.extBut _ _ n4 (k3 q o n1 n3 n2 e))
  have Z5 : IsZip g5 zp ti to .ellipsis := s5.extBut _ _ ap.TOz.symm (s4.extBut _ _ ap.i2z.symm (s3.extBut _ _ ap.TOz.symm (s2.extBut _ _ ap.i1z.symm Z1)))
  have J5 : At c g5 j a (k + 1) := J2.to fun o e => s5.extBut _ _ ap.TOi1.symm (s4.extBut _ _ ap.i12 (s3.extBut _ _ ap.TOi1.symm e))
  have M5 : At d g5 m b (k + 1) := M4.to fun o e => s5.extBut _ _ ap.TOi2.symm e
  have zlt : zp < g5.objs.size := Heap.lt_size Z5
  show wpAny _ _ (Builtin.SmallTypes.ownedTupleHandOut (.ref zp) (.ref g5.objs.size) >>= _) _ _ _
  unfold Builtin.SmallTypes.ownedTupleHandOut
  have Z6 : IsZip (g5.push { cls := .type "tuple", data := .seq #[x, y] }) zp ti to .ellipsis := Heap.get?_push_of_some _ Z5
  refine wpAny_bind (wpAny_bind (wpAny_setField_rec Z6 (by simp) fun g7 Z7 s7 => ?_))
  replace Z7 : IsZip g7 zp ti to (rawInt g5.objs.size) := Z7
  refine wpAny_setField_rec Z7 (by simp) fun g8 Z8 s8 => ?_
  replace Z8 : IsZip g8 zp ti to (rawInt g5.objs.size) := Z8
  have up : ∀ q o, q ≠ zp → g5.get? q = some o → g8.get? q = some o := fun q o n e => s8.extBut _ _ n (s7.extBut _ _ n (Heap.get?_push_of_some _ e))
  have T8 : IsPair g8 g5.objs.size x y := s8.extBut _ _ (Nat.ne_of_gt zlt) (s7.extBut _ _ (Nat.ne_of_gt zlt) (Heap.get?_push_size _ rfl))
  have sz8 : g8.objs.size = g5.objs.size + 1 := by rw [s8.1, s7.1, Heap.size_push]
  rw [sz] at Z8 T8 sz8
  refine wpAny_pure ⟨_, rfl, ?_⟩
  show Q (.ref g5.objs.size) _
  rw [sz]
  exact hQ g8 Z8 (up _ _ ap.TOz TO5) (J5.to fun o => up j o ap.i1z) (M5.to fun o => up m o ap.i2z) T8 sz8 fun q o n1 n2 n3 n4 e => up q o n1 (k5 q o n1 n2 n3 n4 e)
/-- its end -/
theorem zip_stop {c d : Kd} {zp ti to j m a b : Addr} {k : Nat} {xs ys : Array Value} {u v : Value} {Q : Fin → Shared → Prop} (hh : A.handled = none) (ap : ZipApart zp ti to j m a b)
    (S : Zs c d s.heap zp ti to j m a b k .none u v) (ha : Sq c s.heap a xs) (hb : Sq d s.heap b ys) (hend : xs[k]? = none ∨ ys[k]? = none)
    (hE : ∀ g e, (∀ q o, q ≠ zp → q ≠ to → q ≠ j → q ≠ m → s.heap.get? q = some o → g.get? q = some o) → (∃ o, g.get? e = some o ∧ o.cls = .type "StopIteration") → E (.ref e) { s with heap := g }) :
    wpAny (model prog w) A (Builtin.«zip.__next__» ⟨[.ref zp], []⟩) Q E s := by
  obtain ⟨Z, TI, TO, J, M⟩ := S
  show wpAny _ _ (field (.ref zp) 2 >>= _) _ _ _
  refine wpAny_bind (wpAny_field Z rfl (x := .bool false) rfl ?_)
  show wpAny _ _ (field (.ref zp) 3 >>= _) _ _ _
  refine wpAny_bind (wpAny_field Z rfl (x := .ref ti) rfl (wpAny_bind (wpAny_seqItems TI rfl ?_)))
  show wpAny _ _ (Builtin.SmallTypes.ownedTupleIsFree (.ref zp) >>= _) _ _ _
  unfold Builtin.SmallTypes.ownedTupleIsFree
  refine wpAny_bind (wpAny_bind (wpAny_field Z rfl (x := .none) rfl (wpAny_pure ?_)))
  simp only [if_true]
  refine wpAny_bind (wpAny_rule (wpAny_bind (wpAny_field Z rfl (x := .ref to) rfl (wpAny_bind (wpAny_setField_rec Z (by simp) fun g1 Z1 s1 => ?_)))))
  replace Z1 : IsZip g1 zp ti to .ellipsis := Z1
  simp only [List.zipIdx_cons, List.zipIdx_nil, List.forIn_cons, List.forIn_nil]
  refine wpAny_bind (wpAny_bind (wpAny_bind (wpAny_onRaise ?_)))
  show wpAny _ _ (Builtin.SmallTypes.nextOf (.ref j) >>= _) _ _ _
  have k1 : ∀ q o, q ≠ zp → s.heap.get? q = some o → g1.get? q = some o := fun q o n e => s1.extBut _ _ n e
  cases hx : xs[k]? with
  | none =>
    refine wpAny_bind (out hh (J.to fun o => k1 j o ap.i1z) (ha.to fun o => k1 a o ap.l1z) hx fun g2 e s2 he => ?_)
    obtain ⟨oe, ho, hc⟩ := he
    have Z2 : IsZip g2 zp ti to .ellipsis := s2 _ _ ap.i1z.symm Z1
    have ne : e ≠ zp := fun x => by subst x; rw [Z2] at ho; cases ho; simp at hc
    exact wpAny_setField_rec Z2 (by simp) fun g3 _ s3 => hE g3 e (fun q o n1 _ n3 _ x => s3.extBut _ _ n1 (s2 _ _ n3 (k1 q o n1 x))) ⟨oe, s3.extBut _ _ ne ho, hc⟩
  | some x =>
    have hy : ys[k]? = none := hend.elim (fun h => by rw [hx] at h; cases h) id
    refine wpAny_bind (draw (J.to fun o => k1 j o ap.i1z) (ha.to fun o => k1 a o ap.l1z) hx fun g2 J2 s2 => wpAny_pure ?_)
    have k2 : ∀ q o, q ≠ zp → q ≠ j → s.heap.get? q = some o → g2.get? q = some o := fun q o n n2 e => s2.extBut _ _ n2 (k1 q o n e)
    have TO2 : IsPair g2 to u v := k2 _ _ ap.TOz ap.TOi1 TO
    refine wpAny_bind (wpAny_seqItems TO2 rfl (wpAny_bind (wpAny_updateSeq_pair TO2 fun g3 TO3 s3 => wpAny_bind (wpAny_letGo (wpAny_pure ?_)))))
    have k3 : ∀ q o, q ≠ zp → q ≠ j → q ≠ to → s.heap.get? q = some o → g3.get? q = some o := fun q o n n2 n3 e => s3.extBut _ _ n3 (k2 q o n n2 e)
    refine wpAny_bind (wpAny_bind (wpAny_onRaise ?_))
    show wpAny _ _ (Builtin.SmallTypes.nextOf (.ref m) >>= _) _ _ _
    refine wpAny_bind (out hh (M.to fun o => k3 m o ap.i2z ap.i12.symm ap.TOi2.symm) (hb.to fun o => k3 b o ap.l2z ap.l2i1 ap.l2TO) hy fun g4 e s4 he => ?_)
    obtain ⟨oe, ho, hc⟩ := he
    have Z4 : IsZip g4 zp ti to .ellipsis := s4 _ _ ap.i2z.symm (s3.extBut _ _ ap.TOz.symm (s2.extBut _ _ ap.i1z.symm Z1))
    have ne : e ≠ zp := fun x => by subst x; rw [Z4] at ho; cases ho; simp at hc
    exact wpAny_setField_rec Z4 (by simp) fun g5 _ s5 => hE g5 e (fun q o n1 n2 n3 n4 x => s5.extBut _ _ n1 (s4 _ _ n4 (k3 q o n1 n3 n2 x))) ⟨oe, s5.extBut _ _ ne ho, hc⟩
end
/-! ### a new zip -/
def hp1 (h : Heap) (c : Kd) (a : Addr) : Heap := h.push { cls := .type c.cls, data := .fields #[.ref a, .int 0 0] }
def hp2 (h : Heap) (c d : Kd) (a b : Addr) : Heap := hp1 (hp1 h c a) d b
def hp3 (h : Heap) (c d : Kd) (a b : Addr) : Heap := (hp2 h c d a b).push { cls := .type "tuple", data := .seq #[.ref h.objs.size, .ref (hp1 h c a).objs.size] }
def hp4 (h : Heap) (c d : Kd) (a b : Addr) : Heap := (hp3 h c d a b).push { cls := .type "tuple", data := .seq #[.none, .none] }
def hp5 (h : Heap) (c d : Kd) (a b : Addr) : Heap := (hp4 h c d a b).push { cls := .type "zip", data := .fields #[.none, .bool false, .bool false, .ref (hp2 h c d a b).objs.size, .ref (hp3 h c d a b).objs.size] }
theorem new_meets (c d : Kd) (a b : Addr) (xs ys : Array Value) :
    Meets (Builtin.«zip.__new__» ⟨[.type "zip", .ref a, .ref b], []⟩) (fun _ R s => Sq c s.heap a xs ∧ Sq d s.heap b ys ∧ R (.ok (.ret (.ref (hp4 s.heap c d a b).objs.size))) { s with heap := hp5 s.heap c d a b }) :=
  .of_wp fun prog w A R s h => by
    obtain ⟨hp, g, dr, tk, os⟩ := s
    obtain ⟨ha, hb, h⟩ := h
    have zsub := sub_zip
    have hb2 : Sq d (Shared.heap ⟨hp1 hp c a, g, dr, tk, os⟩) b ys := Sq.to hb fun o e => Heap.get?_push_of_some _ e
    cases c <;> cases d
    · have l1 : Heap.IsList (Shared.heap ⟨hp, g, dr, tk, os⟩) a xs := ha
      have l2 : Heap.IsList (Shared.heap ⟨hp.push { cls := .type "list_iterator", data := .fields #[.ref a, .int 0 0] }, g, dr, tk, os⟩) b ys := hb2
      wp_walk using wpAny_pyIter_list l1, wpAny_pyIter_list l2
      exact ⟨_, rfl, h⟩
    · have l1 : Heap.IsList (Shared.heap ⟨hp, g, dr, tk, os⟩) a xs := ha
      have l2 : Heap.IsTuple (Shared.heap ⟨hp.push { cls := .type "list_iterator", data := .fields #[.ref a, .int 0 0] }, g, dr, tk, os⟩) b ys := hb2
      wp_walk using wpAny_pyIter_list l1, wpAny_pyIter_tuple l2
      exact ⟨_, rfl, h⟩
    · have l1 : Heap.IsTuple (Shared.heap ⟨hp, g, dr, tk, os⟩) a xs := ha
      have l2 : Heap.IsList (Shared.heap ⟨hp.push { cls := .type "tuple_iterator", data := .fields #[.ref a, .int 0 0] }, g, dr, tk, os⟩) b ys := hb2
      wp_walk using wpAny_pyIter_tuple l1, wpAny_pyIter_list l2
      exact ⟨_, rfl, h⟩
    · have l1 : Heap.IsTuple (Shared.heap ⟨hp, g, dr, tk, os⟩) a xs := ha
      have l2 : Heap.IsTuple (Shared.heap ⟨hp.push { cls := .type "tuple_iterator", data := .fields #[.ref a, .int 0 0] }, g, dr, tk, os⟩) b ys := hb2
      wp_walk using wpAny_pyIter_tuple l1, wpAny_pyIter_tuple l2
      exact ⟨_, rfl, h⟩
theorem at_new {c : Kd} {h : Heap} {j a : Addr} (e : h.get? j = some { cls := .type c.cls, data := .fields #[.ref a, .int 0 0] }) : At c h j a 0 := by
  cases c with
  | li => exact ⟨_, e, rfl, rfl⟩
  | tu => exact ⟨_, e, rfl, rfl⟩
section
variable {prog : Program} {w : World} {A : Around} {E : Value → Shared → Prop} {s : Shared}
theorem call_new {c d : Kd} {a b : Addr} {xs ys : Array Value} {Q : Value → Shared → Prop} (ha : Sq c s.heap a xs) (hb : Sq d s.heap b ys)
    (k : ∀ g, Zs c d g (s.heap.objs.size + 4) (s.heap.objs.size + 2) (s.heap.objs.size + 3) s.heap.objs.size (s.heap.objs.size + 1) a b 0 .none .none .none → (∀ q o, s.heap.get? q = some o → g.get? q = some o) → Q (.ref (s.heap.objs.size + 4)) { s with heap := g }) :
    wpAny (model prog w) A (call (.type "zip") [.ref a, .ref b]) Q E s := by
  refine callType_new F.called_zip (by decide) (F.typeCall_zip_2 _ _) (F.newCall_zip_2 _ _) (fun obj => F.args_object_init_3 obj _ _) F.entry_zip_new (new_meets c d a b xs ys) ⟨ha, hb, ?_⟩
  have n1 : (hp1 s.heap c a).objs.size = s.heap.objs.size + 1 := Heap.size_push ..
  have n2 : (hp2 s.heap c d a b).objs.size = s.heap.objs.size + 2 := by
    show ((hp1 s.heap c a).push _).objs.size = _
    rw [Heap.size_push, n1]
  have n3 : (hp3 s.heap c d a b).objs.size = s.heap.objs.size + 3 := by
    show ((hp2 s.heap c d a b).push _).objs.size = _
    rw [Heap.size_push, n2]
  have n4 : (hp4 s.heap c d a b).objs.size = s.heap.objs.size + 4 := by
    show ((hp3 s.heap c d a b).push _).objs.size = _
    rw [Heap.size_push, n3]
  have g5 : (hp5 s.heap c d a b).get? (hp4 s.heap c d a b).objs.size = some _ := Heap.get?_push_size _ rfl
  have g4 : (hp5 s.heap c d a b).get? (hp3 s.heap c d a b).objs.size = some _ := Heap.get?_push_of_some _ (Heap.get?_push_size _ rfl)
  have g3 : (hp5 s.heap c d a b).get? (hp2 s.heap c d a b).objs.size = some _ := Heap.get?_push_of_some _ (Heap.get?_push_of_some _ (Heap.get?_push_size _ rfl))
  have g2 : (hp5 s.heap c d a b).get? (hp1 s.heap c a).objs.size = some _ := Heap.get?_push_of_some _ (Heap.get?_push_of_some _ (Heap.get?_push_of_some _ (Heap.get?_push_size _ rfl)))
  have g1 : (hp5 s.heap c d a b).get? s.heap.objs.size = some _ := Heap.get?_push_of_some _ (Heap.get?_push_of_some _ (Heap.get?_push_of_some _ (Heap.get?_push_of_some _ (Heap.get?_push_size _ rfl))))
  show _ ∧ _
  rw [n4] at g5 ⊢
  rw [n2, n3] at g5
  rw [n3] at g4
  rw [n2, n1] at g3
  rw [n1] at g2
  exact ⟨⟨_, g5, rfl⟩, k _ ⟨g5, g3, g4, at_new g1, at_new g2⟩ fun q o e => Heap.get?_push_of_some _ (Heap.get?_push_of_some _ (Heap.get?_push_of_some _ (Heap.get?_push_of_some _ (Heap.get?_push_of_some _ e))))⟩
end
/-! ### as a walk -/
def SqV (K : PySem.W.Frag) (d : Kd) (H : Hp) (a : Addr) (xs : List V) : Prop := match d with
  | .li => SqL K H a xs
  | .tu => SqT K H a xs
section
variable {X : Cx} {pins : List (Addr × Obj)} {σ : L2.St} {H : Hp} {s : Shared}
theorem sqv_of {d : Kd} {a : Addr} {xs : List V} (I : Inv X pins σ H s) (h : SqV X.K d H a xs) : ∃ its : List Value, Vals xs its ∧ Sq d s.heap a its.toArray ∧ a < s.heap.objs.size := by
  cases d with
  | li =>
    obtain ⟨its, r, p, _⟩ := I.list h
    exact ⟨its, r, p.isList, p.lt⟩
  | tu =>
    obtain ⟨its, r, p, _⟩ := I.tuple h
    obtain ⟨o, e, _⟩ := id p
    exact ⟨its, r, p, Heap.lt_size e⟩
theorem sqv_inj {d : Kd} {a : Addr} {xs ys : List V} (I : Inv X pins σ H s) (h : SqV X.K d H a xs) (h2 : SqV X.K d H a ys) : xs = ys := by
  cases d with
  | li => exact I.list_inj h h2
  | tu => exact I.tuple_inj h h2
end
/-- what stands at a and b, the items in new pairs -/
def ItZ (K : PySem.W.Frag) (c d : Kd) (a b : Addr) : It :=
  ⟨fun i H => ∃ (xs ys : List V) (x y : V), SqV K c H a xs ∧ SqV K d H b ys ∧ xs[i]? = some x ∧ ys[i]? = some y,
   fun i H v G => ∃ t x y, v = .ref t ∧ H t = none ∧ G = upd H t (.tup [x, y]) ∧ (∀ xs, SqV K c H a xs → xs[i]? = some x) ∧ ∀ ys, SqV K d H b ys → ys[i]? = some y,
   fun i H => ∃ xs ys : List V, SqV K c H a xs ∧ SqV K d H b ys ∧ (xs.length ≤ i ∨ ys.length ≤ i)⟩
theorem mem5 {q p1 p2 p3 p4 p5 : Addr} (h : q ∈ [p1, p2, p3, p4, p5]) : q = p1 ∨ q = p2 ∨ q = p3 ∨ q = p4 ∨ q = p5 := by simpa using h
theorem turn_any {P : Program} {w : World} {K : PySem.W.Frag} {elts : List Expr} {kk : Nat} {tpos : Pos} {c d : Kd} {a b zp ti to j m : Addr} (ap : ZipApart zp ti to j m a b) :
    Turn P w K (.Tuple elts kk tpos) (ItZ K c d a b) [zp, ti, to, j, m] zp (fun i h => ∃ u v, Zs c d h zp ti to j m a b i .none u v) where
  mem := by simp
  obj := fun i h st q hq => by
    obtain ⟨u, v, S⟩ := st
    rcases mem5 hq with rfl | rfl | rfl | rfl | rfl
    · exact ⟨_, S.z, fun v z => nomatch z⟩
    · exact ⟨_, S.ti, fun v z => nomatch z⟩
    · exact ⟨_, S.to, fun v z => nomatch z⟩
    · exact S.j.obj
    · exact S.m.obj
  keep := fun i h g st k => by
    obtain ⟨u, v, S⟩ := st
    exact ⟨u, v, k zp (by simp) _ S.z, k ti (by simp) _ S.ti, k to (by simp) _ S.to, S.j.to (k j (by simp)), S.m.to (k m (by simp))⟩
  item := by
    intro X hP hw hK hc i pins s σ H E I hf st hg
    subst hP hw hK
    obtain ⟨u0, v0, S⟩ := st
    obtain ⟨xs, ys, x, y, qa, qb, hx, hy⟩ := hg
    obtain ⟨as, ra, pa, _⟩ := sqv_of I qa
    obtain ⟨bs, rb, pb, _⟩ := sqv_of I qb
    obtain ⟨u, hu, ru⟩ := ra.get hx
    obtain ⟨v, hv, rv⟩ := rb.get hy
    have hT : s.TypeIs (.ref zp) "zip" := ⟨_, S.z, rfl⟩
    have zl : zp < s.heap.objs.size := Heap.lt_size S.z
    have lt : ∀ q ∈ [zp, ti, to, j, m], q < s.heap.objs.size := fun q hq => by
      rcases mem5 hq with rfl | rfl | rfl | rfl | rfl
      · exact zl
      · exact Heap.lt_size S.ti
      · exact Heap.lt_size S.to
      · obtain ⟨o, e, _⟩ := S.j.obj; exact Heap.lt_size e
      · obtain ⟨o, e, _⟩ := S.m.obj; exact Heap.lt_size e
    unfold pyNext
    refine wpAny_bind (wpAny_attempt (wpAny_callSpecial?_slot (name := Str.ofString "__next__") hT F.slot_zip_next (wpAny_call_entry F.slot_zip_next hT F.entry_zip_next
      (zip_turn ap S pa pb (by simpa using hu) (by simpa using hv) fun g Z TO J M T sz kp => wpAny_pure ?_) (F.args_zip_next_1 _))))
    refine ⟨_, rfl, wpAny_letOwnedTupleGo_zip (s := { s with heap := g }) Z fun g2 Z2 sb => ?_⟩
    have T2 : g2.get? s.heap.objs.size = some { cls := .type "tuple", data := .seq #[u, v] } := (sb.2 _ (Nat.ne_of_gt zl)).trans T
    have new : ObjOk X.prog X.w (upd H s.heap.objs.size (.tup [x, y])) g2 s.heap.objs.size (.tup [x, y]) := ⟨by show 2 ≤ sizeLine; decide, [u, v], .cons ru (.cons rv .nil), ⟨_, T2, rfl, _, rfl⟩⟩
    have kp2 : ∀ q o, q ∉ [zp, ti, to, j, m] → s.heap.get? q = some o → g2.get? q = some o := fun q o n e =>
      (sb.2 q fun z => n (by simp [z])).trans (kp q o (fun z => n (by simp [z])) (fun z => n (by simp [z])) (fun z => n (by simp [z])) (fun z => n (by simp [z])) e)
    have I1 : Inv X pins σ (upd H s.heap.objs.size (.tup [x, y])) { s with heap := g2 } := I.turnedNew (t' := s.toks) (ch := [zp, ti, to, j, m]) kp2 hf (Nat.le_refl _) new
    refine ⟨.ref s.heap.objs.size, _, I1, rfl, ⟨_, x, y, rfl, I.hok.fresh (Nat.le_refl _), rfl, fun l hl => by rw [sqv_inj I hl qa]; exact hx, fun l hl => by rw [sqv_inj I hl qb]; exact hy⟩, ⟨u, v, Z2, ?_, ?_, ?_, ?_⟩, fun q hq => ?_⟩
    · exact (sb.2 _ ap.TIz).trans (kp _ _ ap.TIz ap.TITO ap.TIi1 ap.TIi2 S.ti)
    · exact (sb.2 _ ap.TOz).trans TO
    · exact J.to fun o q => (sb.2 _ ap.i1z).trans q
    · exact M.to fun o q => (sb.2 _ ap.i2z).trans q
    · rw [upd_ne (Nat.ne_of_lt (lt q hq))]
      exact (hf q hq).1
  done := by
    intro X hP hw hK hc i pins s σ H E I hf st hg
    subst hP hw hK
    obtain ⟨u0, v0, S⟩ := st
    obtain ⟨xs, ys, qa, qb, hend⟩ := hg
    obtain ⟨as, ra, pa, _⟩ := sqv_of I qa
    obtain ⟨bs, rb, pb, _⟩ := sqv_of I qb
    have n1 := ra.length
    have n2 := rb.length
    have he : as.toArray[i]? = none ∨ bs.toArray[i]? = none := hend.imp (fun q => by simp; omega) fun q => by simp; omega
    have hT : s.TypeIs (.ref zp) "zip" := ⟨_, S.z, rfl⟩
    unfold pyNext
    refine wpAny_bind (wpAny_attempt (wpAny_callSpecial?_slot (name := Str.ofString "__next__") hT F.slot_zip_next (wpAny_call_entry F.slot_zip_next hT F.entry_zip_next (zip_stop (I.ok.hd hc) ap S pa pb he fun g e kp ht => ?_) (F.args_zip_next_1 _))))
    obtain ⟨o, ho, hcl⟩ := ht
    refine wpAny_bind (wpAny_isInstance (T := "StopIteration") (b := true) ⟨o, ho, hcl⟩ isSubtype_stop (wpAny_pure ⟨rfl, I.turnedL (t' := s.toks) (ch := [zp, ti, to, j, m]) (fun q o n e => ?_) hf⟩))
    exact kp q o (fun z => n (by simp [z])) (fun z => n (by simp [z])) (fun z => n (by simp [z])) (fun z => n (by simp [z])) e
  self := fun A i s Q E st h => by
    obtain ⟨u, v, S⟩ := st
    exact wpAny_pyIter_zip S.z h
def iZipK (K : PySem.W.Frag) (c d : Kd) (ta : TA) : TI := fun σ H R => ta σ H fun vs G => ∃ a b xs ys, vs = [.ref a, .ref b] ∧ SqV K c G a xs ∧ SqV K d G b ys ∧ R (ItZ K c d a b) G
theorem pi_zipK {X : Cx} {K : PySem.W.Frag} {c d : Kd} {e e2 : Expr} {ta : TA} {p pos tpos : Pos} {elts : List Expr} {kk : Nat} (hg : Gl X "zip") (hm : X.mg "zip" = none) (ha : PA X [e, e2] ta) (hK : X.K = K := by rfl)
    (hs : starEach [e, e2] X.env = (false, eval e X.env) :: starEach [e2] X.env := by rfl) (hpl : (backTo pos (starEach [e2] X.env)).any (·.1) = false := by rfl) :
    PI X (.Tuple elts kk tpos) (.Call (.Name "zip" p) [e, e2] [] pos) (iZipK K c d ta) := by
  subst hK
  refine ⟨fun pins s σ H R I h => Call_ (ld_blt I hg hm PyProof.Rows.boot_zip (PyProof.Rows.callWith_type1 (thn (ha.run pos pins s σ H _ I h) fun us s1 ⟨vs, H1, I1, r1, q1⟩ => ?_) hs hpl))⟩
  obtain ⟨a, b, xs, ys, rfl, qa, qb, q⟩ := q1
  obtain ⟨as, ra, pa, la⟩ := sqv_of I1 qa
  obtain ⟨bs, rb, pb, lb⟩ := sqv_of I1 qb
  cases r1 with
  | cons r rr =>
    cases rr with
    | cons r' rr =>
      cases rr
      cases r
      cases r'
      refine call_new pa pb fun g S kp => wpAny_pyIter_zip S.z ?_
      have I2 : Inv X pins σ H1 { s1 with heap := g } := I1.kept (t' := s1.toks) kp
      refine ⟨s1.heap.objs.size + 4, [s1.heap.objs.size + 4, s1.heap.objs.size + 2, s1.heap.objs.size + 3, s1.heap.objs.size, s1.heap.objs.size + 1], _, _, H1, rfl, I2, turn_any (PySem.W.ktu_apart s1.heap.objs.size a b la lb), ⟨_, _, S⟩, fun q hq => ?_, q⟩
      have le : s1.heap.objs.size ≤ q := by
        rcases mem5 hq with rfl | rfl | rfl | rfl | rfl <;> first | exact Nat.le_refl _ | exact Nat.le_add_right _ _
      exact I1.fpOk le (I1.hok.fresh le)
end UfZ

/-! # Rules with K told: xs[::-1], enumerate, sums -/
namespace UfV
open PySem PySem.Spec PyProof.Rows L2
section
variable {X : Cx} {K : PySem.W.Frag} {e : Expr} {te : TE} {ta : TA}
theorem pe_revLK {k : Nat} {p1 p2 p3 pos : Pos} (he : PE X e te) (h : X.K = K := by rfl) : PE X (.Subscript e (.Slice none none (some (.UnaryOp .USub (.Constant (.int 1) k p1) p2)) p3) pos) (tRevL K te) := h ▸ pe_revL he
theorem pi_enumK {p pos tpos : Pos} {elts : List Expr} {kk : Nat} (hg : Gl X "enumerate") (hm : X.mg "enumerate" = none) (ha : PA X [e] ta) (h : X.K = K := by rfl) (hs : starEach [e] X.env = [(false, eval e X.env)] := by rfl) :
    PI X (.Tuple elts kk tpos) (.Call (.Name "enumerate" p) [e] [] pos) (iEnum K ta) := h ▸ pi_enum hg hm ha hs
theorem pi_enumTK {p pos tpos : Pos} {elts : List Expr} {kk : Nat} (hg : Gl X "enumerate") (hm : X.mg "enumerate" = none) (ha : PA X [e] ta) (h : X.K = K := by rfl) (hs : starEach [e] X.env = [(false, eval e X.env)] := by rfl) :
    PI X (.Tuple elts kk tpos) (.Call (.Name "enumerate" p) [e] [] pos) (UfM.iEnumT K ta) := h ▸ UfM.pi_enumT hg hm ha hs
variable {k : Nat} {f g C : Addr} {fd gd : FuncData} {ps qs : List Str} {sp sq : Sp}
theorem cr_sumOwnK (hc : X.calm = true) (hr : Room (k + 1) X.A) (c : UfO.OwnC K C) (O : UfO.OwnBin K C "add" f g) (F : FnOk X.prog X.w K X.mg X.base CX0 k f fd ps sp) (hb : Binds K fd ps [])
    (G : FnOk X.prog X.w K X.mg X.base CX0 k g gd qs sq) (hg : Binds K gd qs []) (h : X.K = K := by rfl) : CallR X (.builtin "sum") (UfO.rSumOwn K C sp sq) := by
  subst h
  exact UfO.cr_sumOwn hc hr c O F hb G hg
end
end UfV

/-! # Comprehensions over known data, told once: each turn gives an item of which R holds -/
namespace UfW
open PySem PySem.Spec PyProof.Rows L2 UfG UfI
open Evl (Ex)
abbrev Pool := Option (Addr × Addr × Nat)
section
variable {K : PySem.W.Frag} {B : V → Hp → (Hp → Prop) → Prop} {H0 G0 G Hs : Hp} {pf : Nat → Pool} {ls : List (Addr × HO)} {D : Addr} {R : Nat → Hp → V → Prop} {Qd : Hp → Prop} {n : Nat}
/-- the state of the new list at turn i -/
def Pv (H0 G0 : Hp) (pf : Nat → Pool) (ls : List (Addr × HO)) (D : Addr) (R : Nat → Hp → V → Prop) (G : Hp) (i : Nat) (H : Hp) : Prop := ∃ (acc : List V) (G' : Hp), Lw H0 G0 (pf i) ((D, .lst acc) :: ls) G' H ∧ Ex G G' ∧ acc.length = i ∧ ∀ (j : Nat) (y : V), acc[j]? = some y → R j G' y
/-- what a turn has to show: the item goes in -/
def Goal (H0 G0 : Hp) (p : Pool) (ls : List (Addr × HO)) (D : Addr) (acc : List V) (R : Hp → V → Prop) (G : Hp) (Nx : Hp → Prop) : Prop :=
  ∀ G2 H2 y, Ex G G2 → Lw H0 G0 p ((D, .lst acc) :: ls) G2 H2 → R G2 y → ∃ acc', H2 D = some (.lst acc') ∧ acc'.length < sizeLine ∧ Nx (upd H2 D (.lst (acc' ++ [y])))
theorem goal_of (mono : ∀ i G G' y, Ex G G' → R i G y → R i G' y) {i : Nat} {G' H : Hp} {acc : List V} (e : Ex G G') (la : acc.length = i) (ra : ∀ (j : Nat) (y : V), acc[j]? = some y → R j G' y) (few : i < 100000) :
    Goal H0 G0 (pf (i + 1)) ls D acc (R i) G' (Pv H0 G0 pf ls D R G (i + 1)) := fun G2 H2 y e2 lw hy => by
  refine ⟨acc, lw.at, Evl.sz_lt (by omega), acc ++ [y], G2, lw.put, e.trans e2, by rw [List.length_append, la]; rfl, fun j z hz => ?_⟩
  by_cases hj : j < acc.length
  · rw [List.getElem?_append_left hj] at hz
    exact mono j G' G2 z e2 (ra j z hz)
  · rw [List.getElem?_append_right (by omega)] at hz
    have : j - acc.length = 0 := by
      cases q : j - acc.length with
      | zero => rfl
      | succ m =>
        rw [q] at hz
        cases hz
    rw [this] at hz
    cases hz
    have : j = i := by omega
    rw [this]
    exact hy
abbrev End (H0 G0 : Hp) (p : Pool) (ls : List (Addr × HO)) (D : Addr) (R : Nat → Hp → V → Prop) (G : Hp) (n : Nat) (Qd : Hp → Prop) : Prop :=
  ∀ G' H' ys, Ex G G' → Lw H0 G0 p ls G' H' → G' D = some (.lst ys) → ys.length = n → (∀ (j : Nat) (y : V), ys[j]? = some y → R j G' y) → Qd H'
theorem fin_of (mono : ∀ i G G' y, Ex G G' → R i G y → R i G' y) (hd : End H0 G0 (pf n) ls D R G n Qd) : ∀ H, Pv H0 G0 pf ls D R G n H → Qd H := fun H hp => by
  obtain ⟨acc, G', lw, e, la, ra⟩ := hp
  obtain ⟨lw, e2⟩ := lw.keep
  exact hd _ _ acc (e.trans e2) lw upd_same la fun j y hy => mono j G' _ y e2 (ra j y hy)
theorem start_of (lw : Lw H0 G0 (pf 0) ls G Hs) (nD : Hs D = none) : Pv H0 G0 pf ls D R G 0 (upd Hs D (.lst [])) := ⟨[], G, lw.make nD, fun _ _ z => z, rfl, fun j y hy => by cases hy⟩
/-- over a known list -/
theorem lc_list {a : Addr} {xs : List V} (lw : Lw H0 G0 (pf 0) ls G Hs) (nD : Hs D = none) (ha : G a = some (.lst xs)) (few : xs.length ≤ 90000) (mono : ∀ i G G' y, Ex G G' → R i G y → R i G' y)
    (hs : ∀ (i : Nat) (x : V) (acc : List V) (G' H' : Hp), xs[i]? = some x → Ex G G' → Lw H0 G0 (pf i) ((D, .lst acc) :: ls) G' H' → ∀ Nx, Goal H0 G0 (pf (i + 1)) ls D acc (R i) G' Nx → B x H' Nx)
    (hd : End H0 G0 (pf xs.length) ls D R G xs.length Qd) :
    ∃ W : Nat → Nat → Hp → Prop, (∃ m, W 0 m (upd Hs D (.lst []))) ∧ ∀ i m H, W i m H → ((Itl K a).stop i H ∧ Qd H) ∨ ((Itl K a).go i H ∧ ∃ Nx : Hp → Prop, (∀ H', Nx H' → ∃ m', m' < m ∧ W (i + 1) m' H') ∧ ∀ x H', (Itl K a).yld i H x H' → B x H' Nx) :=
  it_list (Pv H0 G0 pf ls D R G) (start_of lw nD) (fun i H _ hp => by
    obtain ⟨acc, G', lw, e, _⟩ := hp
    exact SqL.g lw (e _ _ ha)) (fun i x H hx hp => by
    obtain ⟨acc, G', lw, e, la, ra⟩ := hp
    have hi : i < xs.length := (List.getElem?_eq_some_iff.mp hx).1
    exact hs i x acc G' H hx e lw _ (goal_of (pf := pf) (H := H) mono e la ra (by omega))) (fin_of mono hd)
/-- over a known tuple -/
theorem lc_tup {a : Addr} {xs : List V} (lw : Lw H0 G0 (pf 0) ls G Hs) (nD : Hs D = none) (ha : G a = some (.tup xs)) (few : xs.length ≤ 90000) (mono : ∀ i G G' y, Ex G G' → R i G y → R i G' y)
    (hs : ∀ (i : Nat) (x : V) (acc : List V) (G' H' : Hp), xs[i]? = some x → Ex G G' → Lw H0 G0 (pf i) ((D, .lst acc) :: ls) G' H' → ∀ Nx, Goal H0 G0 (pf (i + 1)) ls D acc (R i) G' Nx → B x H' Nx)
    (hd : End H0 G0 (pf xs.length) ls D R G xs.length Qd) :
    ∃ W : Nat → Nat → Hp → Prop, (∃ m, W 0 m (upd Hs D (.lst []))) ∧ ∀ i m H, W i m H → ((Itt K a).stop i H ∧ Qd H) ∨ ((Itt K a).go i H ∧ ∃ Nx : Hp → Prop, (∀ H', Nx H' → ∃ m', m' < m ∧ W (i + 1) m' H') ∧ ∀ x H', (Itt K a).yld i H x H' → B x H' Nx) :=
  it_tup (Pv H0 G0 pf ls D R G) (start_of lw nD) (fun i H _ hp => by
    obtain ⟨acc, G', lw, e, _⟩ := hp
    exact SqT.g lw (e _ _ ha)) (fun i x H hx hp => by
    obtain ⟨acc, G', lw, e, la, ra⟩ := hp
    have hi : i < xs.length := (List.getElem?_eq_some_iff.mp hx).1
    exact hs i x acc G' H hx e lw _ (goal_of (pf := pf) (H := H) mono e la ra (by omega))) (fin_of mono hd)
/-- over a range -/
theorem lc_rng {lo : Int} (lw : Lw H0 G0 (pf 0) ls G Hs) (nD : Hs D = none) (few : n ≤ 90000) (mono : ∀ i G G' y, Ex G G' → R i G y → R i G' y)
    (hs : ∀ (i : Nat) (acc : List V) (G' H' : Hp), i < n → Ex G G' → Lw H0 G0 (pf i) ((D, .lst acc) :: ls) G' H' → ∀ Nx, Goal H0 G0 (pf (i + 1)) ls D acc (R i) G' Nx → B (.int (lo + (i : Nat))) H' Nx)
    (hd : End H0 G0 (pf n) ls D R G n Qd) :
    ∃ W : Nat → Nat → Hp → Prop, (∃ m, W 0 m (upd Hs D (.lst []))) ∧ ∀ i m H, W i m H → ((Itr lo n).stop i H ∧ Qd H) ∨ ((Itr lo n).go i H ∧ ∃ Nx : Hp → Prop, (∀ H', Nx H' → ∃ m', m' < m ∧ W (i + 1) m' H') ∧ ∀ x H', (Itr lo n).yld i H x H' → B x H' Nx) :=
  it_rng (Pv H0 G0 pf ls D R G) (start_of lw nD) (fun i H hi hp => by
    obtain ⟨acc, G', lw, e, la, ra⟩ := hp
    exact hs i acc G' H hi e lw _ (goal_of (pf := pf) (H := H) mono e la ra (by omega))) (fin_of mono hd)
/-- over a zip -/
theorem it_zip {c d : UfZ.Kd} {a b : Addr} {xs ys : List V} (hn : xs.length = ys.length) (Pv : Nat → Hp → Prop) (h0 : Pv 0 Hs) (hl : ∀ i H, i ≤ xs.length → Pv i H → UfZ.SqV K c H a xs ∧ UfZ.SqV K d H b ys)
    (hs : ∀ i x y t H, xs[i]? = some x → ys[i]? = some y → Pv i H → H t = none → B (.ref t) (upd H t (.tup [x, y])) (Pv (i + 1))) (hd : ∀ H, Pv xs.length H → Qd H) :
    ∃ W : Nat → Nat → Hp → Prop, (∃ m, W 0 m Hs) ∧ ∀ i m H, W i m H → ((UfZ.ItZ K c d a b).stop i H ∧ Qd H) ∨ ((UfZ.ItZ K c d a b).go i H ∧ ∃ Nx : Hp → Prop, (∀ H', Nx H' → ∃ m', m' < m ∧ W (i + 1) m' H') ∧ ∀ x H', (UfZ.ItZ K c d a b).yld i H x H' → B x H' Nx) := by
  refine ⟨fun i m H => m = xs.length - i ∧ i ≤ xs.length ∧ Pv i H, ⟨xs.length, by omega, Nat.zero_le _, h0⟩, ?_⟩
  rintro i m H ⟨rfl, hi, p⟩
  obtain ⟨q1, q2⟩ := hl i H hi p
  by_cases hlt : i < xs.length
  · refine .inr ⟨⟨xs, ys, xs[i], ys[i], q1, q2, List.getElem?_eq_getElem hlt, List.getElem?_eq_getElem (by omega)⟩, Pv (i + 1), fun H' pn => ⟨xs.length - (i + 1), by omega, rfl, by omega, pn⟩, fun v H' y => ?_⟩
    obtain ⟨t, x, z, rfl, ht, rfl, f, g⟩ := y
    exact hs i x z t H (f xs q1) (g ys q2) p ht
  · have e : i = xs.length := by omega
    subst e
    exact .inl ⟨⟨xs, ys, q1, q2, .inl (Nat.le_refl _)⟩, hd H p⟩
def GSq (d : UfZ.Kd) (G : Hp) (a : Addr) (xs : List V) : Prop := match d with
  | .li => G a = some (.lst xs)
  | .tu => G a = some (.tup xs)
theorem GSq.ex {d : UfZ.Kd} {G G' : Hp} {a : Addr} {xs : List V} (e : Ex G G') (h : GSq d G a xs) : GSq d G' a xs := by
  cases d with
  | li => exact e _ _ h
  | tu => exact e _ _ h
theorem GSq.g {d : UfZ.Kd} {G H : Hp} {p : Pool} {a : Addr} {xs : List V} (lw : Lw H0 G0 p ls G H) (h : GSq d G a xs) : UfZ.SqV K d H a xs := by
  cases d with
  | li => exact SqL.g lw h
  | tu => exact SqT.g lw h
theorem lc_zip {c d : UfZ.Kd} {a b : Addr} {xs ys : List V} (lw : Lw H0 G0 (pf 0) ls G Hs) (nD : Hs D = none) (ha : GSq c G a xs) (hb : GSq d G b ys) (hn : xs.length = ys.length) (few : xs.length ≤ 90000) (mono : ∀ i G G' y, Ex G G' → R i G y → R i G' y)
    (hs : ∀ (i : Nat) (x y : V) (t : Addr) (acc : List V) (G' H' : Hp), xs[i]? = some x → ys[i]? = some y → Ex G G' → Lw H0 G0 (pf i) ((D, .lst acc) :: ls) G' H' → G' t = some (.tup [x, y]) → ∀ Nx, Goal H0 G0 (pf (i + 1)) ls D acc (R i) G' Nx → B (.ref t) H' Nx)
    (hd : End H0 G0 (pf xs.length) ls D R G xs.length Qd) :
    ∃ W : Nat → Nat → Hp → Prop, (∃ m, W 0 m (upd Hs D (.lst []))) ∧ ∀ i m H, W i m H → ((UfZ.ItZ K c d a b).stop i H ∧ Qd H) ∨ ((UfZ.ItZ K c d a b).go i H ∧ ∃ Nx : Hp → Prop, (∀ H', Nx H' → ∃ m', m' < m ∧ W (i + 1) m' H') ∧ ∀ x H', (UfZ.ItZ K c d a b).yld i H x H' → B x H' Nx) :=
  it_zip hn (Pv H0 G0 pf ls D R G) (start_of lw nD) (fun i H _ hp => by
    obtain ⟨acc, G', lw, e, _⟩ := hp
    exact ⟨(ha.ex e).g lw, (hb.ex e).g lw⟩) (fun i x y t H hx hy hp nt => by
    obtain ⟨acc, G', lw, e, la, ra⟩ := hp
    have hi : i < xs.length := (List.getElem?_eq_some_iff.mp hx).1
    obtain ⟨G2, e2, lw, ht⟩ := lw.allocE (o := .tup [x, y]) nt
    exact hs i x y t acc G2 _ hx hy (e.trans e2) lw ht _ (goal_of (pf := pf) (H := H) mono (e.trans e2) la (fun j z hz => mono j G' G2 z e2 (ra j z hz)) (by omega))) (fin_of mono hd)
/-- a for over enumerate of a known list -/
theorem for_enumL {K : PySem.W.Frag} {a : Addr} {xs : List V} {g : TG} {tb : TS} {D : Ends} {σ : L2.St} {H : Hp} (Pv : Nat → L2.St → Hp → Prop) (h0 : Pv 0 σ H) (hl : ∀ i σ H, i ≤ xs.length → Pv i σ H → SqL K H a xs)
    (hs : ∀ i x T σ H, xs[i]? = some x → Pv i σ H → H T = none → g (.ref T) σ (upd H T (.tup [.int (i : Nat), x])) fun σ2 H2 => tb { D with nx := Pv (i + 1), ct := Pv (i + 1), bk := D.nx } σ2 H2)
    (hd : ∀ σ H, Pv xs.length σ H → D.nx σ H) :
    ∃ W : Nat → Nat → L2.St → Hp → Prop, (∃ m, W 0 m σ H) ∧ ∀ i m σ H, W i m σ H →
      ((Ite K a).stop i H ∧ D.nx σ H) ∨ ((Ite K a).go i H ∧ ∃ N : L2.St → Hp → Prop, (∀ σ' H', N σ' H' → ∃ m', m' < m ∧ W (i + 1) m' σ' H') ∧ ∀ x H', (Ite K a).yld i H x H' → g x σ H' fun σ2 H2 => tb { D with nx := N, ct := N, bk := D.nx } σ2 H2) := by
  refine ⟨fun i m σ H => m = xs.length - i ∧ i ≤ xs.length ∧ Pv i σ H, ⟨xs.length, by omega, Nat.zero_le _, h0⟩, ?_⟩
  rintro i m σ H ⟨rfl, hi, p⟩
  have q := hl i σ H hi p
  by_cases hlt : i < xs.length
  · refine .inr ⟨⟨xs, xs[i], q, List.getElem?_eq_getElem hlt⟩, Pv (i + 1), fun σ' H' pn => ⟨xs.length - (i + 1), by omega, rfl, by omega, pn⟩, fun v H' y => ?_⟩
    obtain ⟨t, x, rfl, ht, rfl, f⟩ := y
    exact hs i x t σ H (f xs q) p ht
  · have e : i = xs.length := by omega
    subst e
    exact .inl ⟨⟨xs, q, Nat.le_refl _⟩, hd σ H p⟩
end
end UfW

/-! # A for over the keys of a locked dict -/
namespace UfW
open PySem PySem.Spec PyProof.Rows L2 UfG UfI
open Evl (Ex)
theorem for_keys {d : Addr} {o : Obj} {kvs : List (L2.Key × V)} {g : TG} {tb : TS} {D : Ends} {σ : L2.St} {H : Hp} (Pv : Nat → L2.St → Hp → Prop) (h0 : Pv 0 σ H) (hl : ∀ i σ H, i ≤ kvs.length → Pv i σ H → H d = some (.frz o (.dK kvs)))
    (hs : ∀ i k v σ H, kvs[i]? = some (k, v) → Pv i σ H → g (kV k) σ H fun σ2 H2 => tb { D with nx := Pv (i + 1), ct := Pv (i + 1), bk := D.nx } σ2 H2) (hd : ∀ σ H, Pv kvs.length σ H → D.nx σ H) :
    ∃ W : Nat → Nat → L2.St → Hp → Prop, (∃ m, W 0 m σ H) ∧ ∀ i m σ H, W i m σ H →
      ((Itk d o kvs).stop i H ∧ D.nx σ H) ∨ ((Itk d o kvs).go i H ∧ ∃ N : L2.St → Hp → Prop, (∀ σ' H', N σ' H' → ∃ m', m' < m ∧ W (i + 1) m' σ' H') ∧ ∀ x H', (Itk d o kvs).yld i H x H' → g x σ H' fun σ2 H2 => tb { D with nx := N, ct := N, bk := D.nx } σ2 H2) := by
  refine ⟨fun i m σ H => m = kvs.length - i ∧ i ≤ kvs.length ∧ Pv i σ H, ⟨kvs.length, by omega, Nat.zero_le _, h0⟩, ?_⟩
  rintro i m σ H ⟨rfl, hi, p⟩
  have q := hl i σ H hi p
  by_cases hlt : i < kvs.length
  · refine .inr ⟨⟨q, hlt⟩, Pv (i + 1), fun σ' H' pn => ⟨kvs.length - (i + 1), by omega, rfl, by omega, pn⟩, fun x H' y => ?_⟩
    obtain ⟨rfl, k, v, hk, rfl⟩ := y
    exact hs i k v σ _ hk p
  · have e : i = kvs.length := by omega
    subst e
    exact .inl ⟨⟨q, Nat.le_refl _⟩, hd σ H p⟩
/-- a list of what each item has -/
theorem pick {α β : Type} : ∀ {P : Nat → α → β → Prop} (l : List α), (∀ (j : Nat) (y : α), l[j]? = some y → ∃ b, P j y b) → ∃ u : List β, u.length = l.length ∧ ∀ (j : Nat) (y : α), l[j]? = some y → ∃ b, u[j]? = some b ∧ P j y b
  | _, [], _ => ⟨[], rfl, fun j y h => by cases h⟩
  | P, y :: l, h => by
    obtain ⟨b, h1⟩ := h 0 y rfl
    obtain ⟨u, h3, h4⟩ := pick (P := fun j => P (j + 1)) l fun j z hz => h (j + 1) z hz
    refine ⟨b :: u, by rw [List.length_cons, List.length_cons, h3], fun j z hz => ?_⟩
    cases j with
    | zero =>
      cases hz
      exact ⟨b, rfl, h1⟩
    | succ j => exact h4 j z hz
theorem call_makeR {H0 G0 G H : Hp} {p : Pool} {ls : List (Addr × HO)} {Q : VK} {E : XK} {F : Addr} {pre : List V → Hp → Prop} {post : List V → Hp → Hp → Addr → Prop} {exc : List V → Hp → Addr → Option Addr → Prop} {ws : List V} {x dx : Addr}
    (lw : Lw H0 G0 p ls G H) (hx : H x = none) (hd : H dx = none) (ne : dx ≠ x) (hp : pre ws G) (k : ∀ G' H', Ex G G' → Lw H0 G0 p ls G' H' → post ws G G' x → Q .non H') (kx : ∀ G' H' C d, Ex G G' → Lw H0 G0 p ls G' H' → exc ws G' C d → E (.ref C) d H') :
    UfN.InitSp F pre post exc (.ref x :: ws) (upd (upd H dx (.own x)) x (.ins F dx [])) Q E := by
  have l0 : Lw H G none [] G H := lw.enter
  have l1 : Lw H G none [] G (upd H dx (.own x)) := l0.step (ex_new hd)
  have l2 : Lw H G none [(x, .ins F dx [])] G (upd (upd H dx (.own x)) x (.ins F dx [])) := l1.make (by rw [upd_ne (Ne.symm ne)]; exact hx)
  exact ⟨H, G, x, dx, ws, rfl, l2, hp, fun G' H' l hv => k G' H' l.g0 (lw.after l) hv, fun G' H' C d l hv => kx G' H' C d l.g0 (lw.after l) hv⟩
theorem pss_guardP {X : Cx} {ss : List Stmt} {t : TS} {φ : Prop} (h : φ → PSs X ss t) : PSs X ss (fun D σ H => φ ∧ t D σ H) := ⟨fun pins s σ H D I h2 => (h h2.1).run pins s σ H D I h2.2⟩
/-! ### lists that are being made: their order -/
section
variable {H0 G0 G H : Hp} {p : Pool} {ls ls' : List (Addr × HO)}
theorem _root_.UfG.Lw.perm (lw : Lw H0 G0 p ls G H) (h : ls.Perm ls') : Lw H0 G0 p ls' G H :=
  ⟨lw.gh, lw.g0, lw.old, lw.new, lw.pool, fun q hq => lw.loc q (h.symm.subset hq), (h.map (·.1)).nodup lw.nd⟩
theorem _root_.UfG.Lw.swap {a b : Addr × HO} (lw : Lw H0 G0 p (a :: b :: ls) G H) : Lw H0 G0 p (b :: a :: ls) G H := lw.perm (List.Perm.swap b a ls)
theorem _root_.UfG.Lw.rot3 {a b c : Addr × HO} (lw : Lw H0 G0 p (a :: b :: c :: ls) G H) : Lw H0 G0 p (c :: a :: b :: ls) G H := lw.perm (((List.Perm.swap c b ls).cons a).trans (List.Perm.swap c a (b :: ls)))
theorem _root_.UfG.Lw.rot3' {a b c : Addr × HO} (lw : Lw H0 G0 p (a :: b :: c :: ls) G H) : Lw H0 G0 p (b :: c :: a :: ls) G H := lw.perm ((List.Perm.swap b a (c :: ls)).trans ((List.Perm.swap c a ls).cons b))
end
section
variable {K : PySem.W.Frag} {B : V → Hp → (Hp → Prop) → Prop} {H0 G0 G Hs : Hp} {pf : Nat → Pool} {ls : List (Addr × HO)} {D : Addr} {R : Nat → Hp → V → Prop} {Qd : Hp → Prop} {n : Nat}
/-- as lc_rng; the list may still be changed behind it -/
theorem lc_rngM {lo : Int} (lw : Lw H0 G0 (pf 0) ls G Hs) (nD : Hs D = none) (few : n ≤ 90000) (mono : ∀ i G G' y, Ex G G' → R i G y → R i G' y)
    (hs : ∀ (i : Nat) (acc : List V) (G' H' : Hp), i < n → Ex G G' → Lw H0 G0 (pf i) ((D, .lst acc) :: ls) G' H' → ∀ Nx, Goal H0 G0 (pf (i + 1)) ls D acc (R i) G' Nx → B (.int (lo + (i : Nat))) H' Nx)
    (hd : ∀ G' H' ys, Ex G G' → Lw H0 G0 (pf n) ((D, .lst ys) :: ls) G' H' → ys.length = n → (∀ (j : Nat) (y : V), ys[j]? = some y → R j G' y) → Qd H') :
    ∃ W : Nat → Nat → Hp → Prop, (∃ m, W 0 m (upd Hs D (.lst []))) ∧ ∀ i m H, W i m H → ((Itr lo n).stop i H ∧ Qd H) ∨ ((Itr lo n).go i H ∧ ∃ Nx : Hp → Prop, (∀ H', Nx H' → ∃ m', m' < m ∧ W (i + 1) m' H') ∧ ∀ x H', (Itr lo n).yld i H x H' → B x H' Nx) :=
  it_rng (Pv H0 G0 pf ls D R G) (start_of lw nD) (fun i H hi hp => by
    obtain ⟨acc, G', lw, e, la, ra⟩ := hp
    exact hs i acc G' H hi e lw _ (goal_of (pf := pf) (H := H) mono e la ra (by omega))) (fun H hp => by
    obtain ⟨acc, G', lw, e, la, ra⟩ := hp
    exact hd _ _ acc e lw la ra)
end
/-- a for over a zip -/
theorem for_zip {K : PySem.W.Frag} {c d : UfZ.Kd} {a b : Addr} {xs ys : List V} {g : TG} {tb : TS} {D : Ends} {σ : L2.St} {H : Hp} (hn : xs.length = ys.length) (Pv : Nat → L2.St → Hp → Prop) (h0 : Pv 0 σ H) (hl : ∀ i σ H, i ≤ xs.length → Pv i σ H → UfZ.SqV K c H a xs ∧ UfZ.SqV K d H b ys)
    (hs : ∀ i x y t σ H, xs[i]? = some x → ys[i]? = some y → Pv i σ H → H t = none → g (.ref t) σ (upd H t (.tup [x, y])) fun σ2 H2 => tb { D with nx := Pv (i + 1), ct := Pv (i + 1), bk := D.nx } σ2 H2) (hd : ∀ σ H, Pv xs.length σ H → D.nx σ H) :
    ∃ W : Nat → Nat → L2.St → Hp → Prop, (∃ m, W 0 m σ H) ∧ ∀ i m σ H, W i m σ H →
      ((UfZ.ItZ K c d a b).stop i H ∧ D.nx σ H) ∨ ((UfZ.ItZ K c d a b).go i H ∧ ∃ N : L2.St → Hp → Prop, (∀ σ' H', N σ' H' → ∃ m', m' < m ∧ W (i + 1) m' σ' H') ∧ ∀ x H', (UfZ.ItZ K c d a b).yld i H x H' → g x σ H' fun σ2 H2 => tb { D with nx := N, ct := N, bk := D.nx } σ2 H2) := by
  refine ⟨fun i m σ H => m = xs.length - i ∧ i ≤ xs.length ∧ Pv i σ H, ⟨xs.length, by omega, Nat.zero_le _, h0⟩, ?_⟩
  rintro i m σ H ⟨rfl, hi, p⟩
  obtain ⟨q1, q2⟩ := hl i σ H hi p
  by_cases hlt : i < xs.length
  · refine .inr ⟨⟨xs, ys, xs[i], ys[i], q1, q2, List.getElem?_eq_getElem hlt, List.getElem?_eq_getElem (by omega)⟩, Pv (i + 1), fun σ' H' pn => ⟨xs.length - (i + 1), by omega, rfl, by omega, pn⟩, fun v H' y => ?_⟩
    obtain ⟨t, x, z, rfl, ht, rfl, f, g⟩ := y
    exact hs i x z t σ H (f xs q1) (g ys q2) p ht
  · have e : i = xs.length := by omega
    subst e
    exact .inl ⟨⟨xs, ys, q1, q2, .inl (Nat.le_refl _)⟩, hd σ H p⟩
/-! ### what a dict of int keys holds -/
inductive KR {α : Type} (R : V → α → Prop) : List (L2.Key × V) → List (Nat × α) → Prop
  | nil : KR R [] []
  | cons {q : Nat} {v : V} {h : α} {kvs : List (L2.Key × V)} {kept : List (Nat × α)} : R v h → KR R kvs kept → KR R ((.inl (q : Int), v) :: kvs) ((q, h) :: kept)
section
variable {α : Type} {R R' : V → α → Prop} {kvs : List (L2.Key × V)} {kept : List (Nat × α)}
theorem KR.up (e : ∀ v h, R v h → R' v h) (h : KR R kvs kept) : KR R' kvs kept := by
  induction h with
  | nil => exact .nil
  | cons h1 _ ih => exact .cons (e _ _ h1) ih
theorem KR.len (h : KR R kvs kept) : kvs.length = kept.length := by
  induction h with
  | nil => rfl
  | cons _ _ ih => rw [List.length_cons, List.length_cons, ih]
theorem KR.at (h : KR R kvs kept) : ∀ {i : Nat} {k : L2.Key} {v : V}, kvs[i]? = some (k, v) → ∃ (q : Nat) (r : α), kept[i]? = some (q, r) ∧ k = .inl (q : Int) ∧ R v r := by
  induction h with
  | nil => exact fun h => by cases h
  | @cons q v r kvs kept h1 _ ih =>
    intro i k w hi
    cases i with
    | zero =>
      cases hi
      exact ⟨q, r, rfl, rfl, h1⟩
    | succ i => exact ih hi
theorem key_ne {q q' : Nat} (h : q ≠ q') : ¬ (Sum.inl (q : Int) : L2.Key) = Sum.inl (q' : Int) := fun z => by
  have z : (q : Int) = q' := by injection z
  omega
theorem KR.val (h : KR R kvs kept) : ∀ {q : Nat} {r : α}, (q, r) ∈ kept → (kept.map (·.1)).Nodup → ∃ v, valV kvs (.inl (q : Int)) = some v ∧ R v r := by
  induction h with
  | nil => exact fun h => nomatch h
  | @cons q v r kvs kept h1 _ ih =>
    intro q' r' hm nd
    obtain ⟨n1, n2⟩ := List.nodup_cons.mp (show (q :: kept.map (·.1)).Nodup from nd)
    rcases List.mem_cons.mp hm with e | hm
    · cases e
      exact ⟨v, valV_pos rfl, h1⟩
    · have ne := key_ne (q := q) (q' := q') fun z => n1 (by rw [z]; exact List.mem_map.mpr ⟨_, hm, rfl⟩)
      obtain ⟨w, h2, h3⟩ := ih hm n2
      exact ⟨w, by rw [valV_neg ne]; exact h2, h3⟩
theorem KR.atV (h : KR R kvs kept) : ∀ {i : Nat} {k : L2.Key} {v : V}, kvs[i]? = Option.some (k, v) → (kept.map (·.1)).Nodup → valV kvs k = Option.some v := by
  induction h with
  | nil => exact fun h => by cases h
  | @cons q v r kvs kept h1 h2 ih =>
    intro i k w hi nd
    obtain ⟨n1, n2⟩ := List.nodup_cons.mp (show (q :: kept.map (·.1)).Nodup from nd)
    cases i with
    | zero =>
      cases hi
      exact valV_pos rfl
    | succ i =>
      have hi : kvs[i]? = Option.some (k, w) := hi
      obtain ⟨q', r', e1, rfl, _⟩ := h2.at hi
      rw [valV_neg (key_ne fun z => n1 (by rw [z]; exact List.mem_map.mpr ⟨_, List.mem_of_getElem? e1, rfl⟩))]
      exact ih hi n2
theorem KR.none (h : KR R kvs kept) : ∀ {q : Nat}, ¬ q ∈ kept.map (·.1) → valV kvs (.inl (q : Int)) = none := by
  induction h with
  | nil => exact fun _ => rfl
  | @cons q v r kvs kept h1 _ ih =>
    intro q' hm
    have ne := key_ne (q := q) (q' := q') fun z => hm (by rw [← z]; exact List.mem_cons_self)
    rw [valV_neg ne]
    exact ih fun z => hm (List.mem_cons_of_mem _ z)
theorem KR.some (h : KR R kvs kept) : ∀ {q : Nat}, q ∈ kept.map (·.1) → (valV kvs (.inl (q : Int))).isSome = true := by
  induction h with
  | nil => exact fun h => nomatch h
  | @cons q v r kvs kept h1 _ ih =>
    intro q' hm
    by_cases e : q = q'
    · rw [valV_pos (by rw [e])]
      rfl
    · rw [valV_neg (key_ne e)]
      rcases List.mem_cons.mp hm with z | hm
      · exact (e z.symm).elim
      · exact ih hm
theorem KR.snoc (h : KR R kvs kept) {q : Nat} {v : V} {r : α} (hv : R v r) : KR R (kvs ++ [(.inl (q : Int), v)]) (kept ++ [(q, r)]) := by
  induction h with
  | nil => exact .cons hv .nil
  | cons h1 _ ih => exact .cons h1 ih
theorem KR.put (h : KR R kvs kept) {q : Nat} {v : V} {r : α} (hq : ¬ q ∈ kept.map (·.1)) (hv : R v r) : KR R (putK kvs (.inl (q : Int)) v) (kept ++ [(q, r)]) := by
  rw [putK_new v (h.none hq)]
  exact h.snoc hv
end
end UfW

/-! # __init__ of two fields of an own error -/
namespace UfT
open PySem PySem.Spec PyProof.Rows L2 UfG
/-- self.f = y; self.g = z of a fresh error of the class at C -/
def spI2 (K : PySem.W.Frag) (f g : Str) : Sp := fun vs H Q _ => ∃ (a C : Addr) (y z : V), vs = [.ref a, y, z] ∧ OexC K C ∧ PySem.W.findIn K (.ref C) f = some none ∧ PySem.W.findIn K (.ref C) g = some none ∧ H a = some (exo a C none) ∧
  ∀ dx, H dx = none → dx ≠ a → Q .non (upd (upd (upd H dx (exd dx [(f, y)])) a (exo a C (some dx))) dx (exd dx [(g, z), (f, y)]))
theorem mk2_of {K : PySem.W.Frag} {C : Addr} {f g : Str} {y z : V} {H1 : Hp} {Q : XK} (T : OexC K C) (hf : PySem.W.findIn K (.ref C) f = some none) (hg : PySem.W.findIn K (.ref C) g = some none) (h : ∀ d, H1 d = none → Q (.ref C) (some d) (upd H1 d (.xd [(g, z), (f, y)]))) :
    [y, z].length ≤ 1000 ∧ ∀ a, H1 a = none → spI2 K f g (.ref a :: ([y, z] ++ [])) (upd H1 a (exo a C none))
      (fun v H2 => v = .non ∧ ∃ (d : Addr) (fs : List (Str × V)), H2 a = some (exo a C (some d)) ∧ H2 d = some (exd d fs) ∧ H1 d = none ∧ Q (.ref C) (some d) (upd (del H2 a) d (.xd fs))) (fun _ _ _ => False) := by
  refine ⟨(by show 2 ≤ 1000; decide), fun a ha => ⟨a, C, y, z, rfl, T, hf, hg, upd_same, fun dx hd hne => ⟨rfl, dx, [(g, z), (f, y)], ?_, upd_same, ?_, ?_⟩⟩⟩
  · rw [upd_ne (Ne.symm hne), upd_same]
  · rw [upd_ne hne] at hd
    exact hd
  · have hd' : H1 dx = none := by
      rw [upd_ne hne] at hd
      exact hd
    have e : L2.upd (del (L2.upd (L2.upd (L2.upd (L2.upd H1 a (exo a C none)) dx (exd dx [(f, y)])) a (exo a C (some dx))) dx (exd dx [(g, z), (f, y)])) a) dx (.xd [(g, z), (f, y)]) = L2.upd H1 dx (.xd [(g, z), (f, y)]) := by
      funext b
      by_cases hb : b = dx
      · rw [hb, upd_same, upd_same]
      · rw [upd_ne hb, upd_ne hb]
        by_cases hba : b = a
        · rw [hba, del_same, ha]
        · rw [del_ne hba, upd_ne hb, upd_ne hba, upd_ne hb, upd_ne hba]
    rw [e]
    exact h dx hd'
section
variable {P : Program} {w : World} {K : PySem.W.Frag} {mg : Str → Option Value} {base : Heap}
end
end UfT

/-! # Linear algebra over a field, with determinants by rows: what elimination makes, and how great its numbers are -/
namespace UfL
section det
variable {α : Type} [Lean.Grind.CommRing α]
/-- the sum over the places of Q, signs by turns, of r at the place times f of the others -/
def ex (r : Nat → α) : (List Nat → α) → List Nat → α
  | _, [] => 0
  | f, q :: Q => r q * f Q - ex r (fun Q' => f (q :: Q')) Q
def det : List (Nat → α) → List Nat → α
  | [], _ => 1
  | r :: R, Q => ex r (det R) Q
theorem ex_sub (r : Nat → α) : ∀ (Q : List Nat) (f g : List Nat → α), ex r (fun x => f x - g x) Q = ex r f Q - ex r g Q
  | [], _, _ => by simp only [ex]; grind
  | q :: Q, f, g => by
    simp only [ex]
    rw [ex_sub r Q (fun x => f (q :: x)) (fun x => g (q :: x))]
    grind
theorem ex_mul (r : Nat → α) (c : α) : ∀ (Q : List Nat) (f : List Nat → α), ex r (fun x => c * f x) Q = c * ex r f Q
  | [], _ => by simp only [ex]; grind
  | q :: Q, f => by
    simp only [ex]
    rw [ex_mul r c Q (fun x => f (q :: x))]
    grind
theorem ex_ex (r s : Nat → α) : ∀ (Q : List Nat) (f : List Nat → α), ex r (ex s f) Q = - ex s (ex r f) Q
  | [], _ => by simp only [ex]; grind
  | q :: Q, f => by
    have e (r s : Nat → α) : ex r (ex s f) (q :: Q) = r q * ex s f Q - (s q * ex r f Q - ex r (ex s (fun x => f (q :: x))) Q) := by
      show r q * ex s f Q - ex r (fun Q' => s q * f Q' - ex s (fun x => f (q :: x)) Q') Q = _
      rw [ex_sub r Q (fun Q' => s q * f Q') (fun Q' => ex s (fun x => f (q :: x)) Q'), ex_mul]
    rw [e r s, e s r, ex_ex r s Q (fun x => f (q :: x))]
    grind
theorem ex_self (r : Nat → α) : ∀ (Q : List Nat) (f : List Nat → α), ex r (ex r f) Q = 0
  | [], _ => by simp only [ex]
  | q :: Q, f => by
    have e : ex r (ex r f) (q :: Q) = r q * ex r f Q - (r q * ex r f Q - ex r (ex r (fun x => f (q :: x))) Q) := by
      show r q * ex r f Q - ex r (fun Q' => r q * f Q' - ex r (fun x => f (q :: x)) Q') Q = _
      rw [ex_sub r Q (fun Q' => r q * f Q') (fun Q' => ex r (fun x => f (q :: x)) Q'), ex_mul]
    rw [e, ex_self r Q]
    grind
theorem ex_zero (r : Nat → α) : ∀ (Q : List Nat) (f : List Nat → α), (∀ x, f x = 0) → ex r f Q = 0
  | [], _, _ => rfl
  | q :: Q, f, h => by
    simp only [ex]
    rw [h, ex_zero r Q _ (fun x => h (q :: x))]
    grind
theorem ex_congr (r : Nat → α) : ∀ (Q : List Nat) (f g : List Nat → α), (∀ x, f x = g x) → ex r f Q = ex r g Q := fun Q f g h => by
  rw [show f = g from funext h]
/-- two rows alike -/
theorem det_twice {r : Nat → α} : ∀ (R : List (Nat → α)) (Q : List Nat), r ∈ R → det (r :: R) Q = 0
  | [], _, h => nomatch h
  | s :: R, Q, h => by
    by_cases e : r = s
    · rw [e]
      exact ex_self s Q (det R)
    · have h' : r ∈ R := by
        rcases List.mem_cons.mp h with z | z
        · exact (e z).elim
        · exact z
      show ex r (ex s (det R)) Q = 0
      rw [ex_ex, ex_zero s Q (ex r (det R)) (fun x => det_twice R x h')]
      grind
/-- the minors of a state: N j is (place, number) by place of Q -/
def cof (f : List Nat → α) : List Nat → List α
  | [] => []
  | q :: Q => f Q :: (cof (fun x => f (q :: x)) Q).map (fun x => -x)
def dot : List α → List α → α
  | a :: as, b :: bs => a * b + dot as bs
  | _, _ => 0
theorem dot_neg : ∀ (xs ys : List α), dot xs (ys.map (fun x => -x)) = - dot xs ys
  | [], _ => by simp only [dot]; grind
  | _ :: _, [] => by simp only [List.map_nil, dot]; grind
  | a :: as, b :: bs => by
    simp only [List.map_cons, dot]
    rw [dot_neg as bs]
    grind
theorem ex_dot (r : Nat → α) : ∀ (Q : List Nat) (f : List Nat → α), ex r f Q = dot (Q.map r) (cof f Q)
  | [], _ => rfl
  | q :: Q, f => by
    simp only [ex, cof, List.map_cons, dot]
    rw [dot_neg, ex_dot r Q]
    grind
end det
section fld
variable {α : Type} [Lean.Grind.Field α]
theorem dot_sub : ∀ (xs ys zs : List α), ys.length = zs.length → dot xs (List.zipWith (fun a b => a - b) ys zs) = dot xs ys - dot xs zs
  | [], _, _, _ => by simp only [dot]; grind
  | _ :: _, [], [], _ => by simp only [List.zipWith, dot]; grind
  | a :: as, b :: bs, c :: cs, h => by
    simp only [List.zipWith, dot]
    rw [dot_sub as bs cs (Nat.succ.inj h)]
    grind
/-- the sum over P of f times g -/
def sm (P : List Nat) (f g : Nat → α) : α := dot (P.map f) (P.map g)
theorem sm_nil (f g : Nat → α) : sm [] f g = 0 := rfl
theorem sm_cons (p : Nat) (P : List Nat) (f g : Nat → α) : sm (p :: P) f g = f p * g p + sm P f g := rfl
theorem sm_congr : ∀ (P : List Nat) {f f' g g' : Nat → α}, (∀ q ∈ P, f q = f' q) → (∀ q ∈ P, g q = g' q) → sm P f g = sm P f' g'
  | [], _, _, _, _, _, _ => rfl
  | p :: P, f, f', g, g', h1, h2 => by
    rw [sm_cons, sm_cons, sm_congr P (fun q hq => h1 q (List.mem_cons_of_mem _ hq)) (fun q hq => h2 q (List.mem_cons_of_mem _ hq)), h1 p List.mem_cons_self, h2 p List.mem_cons_self]
theorem sm_addl : ∀ (P : List Nat) (f f' g : Nat → α), sm P (fun q => f q + f' q) g = sm P f g + sm P f' g
  | [], _, _, _ => by simp only [sm_nil]; grind
  | p :: P, f, f', g => by rw [sm_cons, sm_cons, sm_cons, sm_addl P]; grind
theorem sm_mull : ∀ (P : List Nat) (c : α) (f g : Nat → α), sm P (fun q => c * f q) g = c * sm P f g
  | [], _, _, _ => by simp only [sm_nil]; grind
  | p :: P, c, f, g => by rw [sm_cons, sm_cons, sm_mull P]; grind
theorem sm_comm : ∀ (P : List Nat) (f g : Nat → α), sm P f g = sm P g f
  | [], _, _ => rfl
  | p :: P, f, g => by rw [sm_cons, sm_cons, sm_comm P]; grind
theorem sm_subr (P : List Nat) (f g g' : Nat → α) (c : α) : sm P f (fun q => g q - g' q * c) = sm P f g - sm P f g' * c := by
  rw [sm_comm, show (fun q => g q - g' q * c) = (fun q => g q + (-c) * g' q) from funext fun q => by grind, sm_addl, sm_mull, sm_comm P g, sm_comm P g']
  grind
theorem sm_zero : ∀ (P : List Nat) {f g : Nat → α}, (∀ q ∈ P, g q = 0) → sm P f g = 0
  | [], _, _, _ => rfl
  | p :: P, f, g, h => by
    rw [sm_cons, h p List.mem_cons_self, sm_zero P fun q hq => h q (List.mem_cons_of_mem _ hq)]
    grind
theorem sm_one : ∀ {P : List Nat} {t : Nat} {f g : Nat → α}, P.Nodup → t ∈ P → (∀ q ∈ P, g q = if q = t then 1 else 0) → sm P f g = f t
  | p :: P, t, f, g, nd, ht, h => by
    obtain ⟨n1, n2⟩ := List.nodup_cons.mp nd
    rw [sm_cons, h p List.mem_cons_self]
    by_cases e : p = t
    · rw [if_pos e, sm_zero P fun q hq => by rw [h q (List.mem_cons_of_mem _ hq), if_neg fun z => n1 (by rw [e, ← z]; exact hq)], e]
      grind
    · have ht' : t ∈ P := by
        rcases List.mem_cons.mp ht with z | z
        · exact (e z.symm).elim
        · exact z
      rw [if_neg e, sm_one n2 ht' fun q hq => h q (List.mem_cons_of_mem _ hq)]
      grind
/-- what the rows span -/
inductive Sp (R : List (Nat → α)) : (Nat → α) → Prop
  | zero : Sp R (fun _ => 0)
  | mem {r : Nat → α} : r ∈ R → Sp R r
  | add {u v : Nat → α} : Sp R u → Sp R v → Sp R (fun j => u j + v j)
  | mul {u : Nat → α} (c : α) : Sp R u → Sp R (fun j => c * u j)
theorem Sp.up {R R' : List (Nat → α)} {v : Nat → α} (h : Sp R v) (hr : ∀ r ∈ R, r ∈ R') : Sp R' v := by
  induction h with
  | zero => exact .zero
  | mem h => exact .mem (hr _ h)
  | add _ _ h1 h2 => exact .add h1 h2
  | mul c _ h => exact .mul c h
theorem Sp.cast {R : List (Nat → α)} {u v : Nat → α} (h : Sp R u) (e : ∀ j, u j = v j) : Sp R v := by
  rw [← show u = v from funext e]
  exact h
theorem Sp.sub {R : List (Nat → α)} {u v : Nat → α} (h : Sp R u) (h2 : Sp R v) (c : α) : Sp R (fun j => u j - c * v j) := (Sp.add h (.mul (-c) h2)).cast fun j => by grind
theorem Sp.sum {R : List (Nat → α)} {K : Nat → Nat → α} (f : Nat → α) : ∀ (P : List Nat), (∀ q ∈ P, Sp R (K q)) → Sp R (fun j => sm P f (fun q => K q j))
  | [], _ => .zero
  | p :: P, h => (Sp.add (.mul (f p) (h p List.mem_cons_self)) (Sp.sum f P fun q hq => h q (List.mem_cons_of_mem _ hq))).cast fun j => by rw [sm_cons]
/-- what is linear and kills the rows kills what they span -/
theorem Sp.kills {R : List (Nat → α)} {v : Nat → α} (h : Sp R v) (φ : (Nat → α) → α) (h0 : φ (fun _ => 0) = 0) (ha : ∀ u v, φ (fun j => u j + v j) = φ u + φ v) (hm : ∀ c u, φ (fun j => c * u j) = c * φ u) (hr : ∀ r ∈ R, φ r = 0) : φ v = 0 := by
  induction h with
  | zero => exact h0
  | mem h => exact hr _ h
  | add _ _ h1 h2 => rw [ha, h1, h2]; grind
  | mul c _ h => rw [hm, h]; grind
/-- r is told by its numbers at the places of P -/
def Cp (P : List Nat) (K : Nat → Nat → α) (r : Nat → α) : Prop := ∀ j, r j = sm P r (fun q => K q j)
/-- what is left of r -/
def lft (P : List Nat) (K : Nat → Nat → α) (r : Nat → α) (j : Nat) : α := r j - sm P r (fun q => K q j)
structure St (R : List (Nat → α)) (P : List Nat) (K : Nat → Nat → α) : Prop where
  nd : P.Nodup
  len : R.length = P.length
  one : ∀ q ∈ P, ∀ t ∈ P, K q t = if q = t then 1 else 0
  row : ∀ r ∈ R, Cp P K r
  sp : ∀ q ∈ P, Sp R (K q)
  d : det R P ≠ 0
theorem St.nil {K : Nat → Nat → α} : St ([] : List (Nat → α)) [] K := ⟨.nil, rfl, nofun, nofun, nofun, by show (1 : α) ≠ 0; exact fun z => Lean.Grind.Field.zero_ne_one z.symm⟩
theorem cof_len (R : List (Nat → α)) : ∀ (Q : List Nat) (f : List Nat → α), (cof f Q).length = Q.length
  | [], _ => rfl
  | q :: Q, f => by
    show ((cof (fun x => f (q :: x)) Q).map _).length + 1 = _
    rw [List.length_map, cof_len R Q]
    rfl
theorem dots_eq : ∀ {P : List Nat} {y z : List α}, P.Nodup → y.length = P.length → z.length = P.length → (∀ q ∈ P, dot (P.map fun t => if q = t then 1 else 0) y = dot (P.map fun t => if q = t then 1 else 0) z) → y = z
  | [], [], [], _, _, _, _ => rfl
  | p :: P, a :: y, b :: z, nd, hy, hz, h => by
    obtain ⟨n1, n2⟩ := List.nodup_cons.mp nd
    have zz : ∀ (P : List Nat) (f : Nat → α) (x : List α), (∀ q ∈ P, f q = 0) → dot (P.map f) x = 0 := fun P => by
      induction P with
      | nil => exact fun _ _ _ => rfl
      | cons q P ih =>
        intro f x h
        cases x with
        | nil => rfl
        | cons c x =>
          show f q * c + dot (P.map f) x = 0
          rw [h q List.mem_cons_self, ih f x fun t ht => h t (List.mem_cons_of_mem _ ht)]
          grind
    have hp := h p List.mem_cons_self
    have e0 : ∀ q ∈ P, (if p = q then (1 : α) else 0) = 0 := fun q hq => if_neg fun e => n1 (by rw [e]; exact hq)
    have ep : (if p = p then (1 : α) else 0) = 1 := if_pos rfl
    simp only [List.map_cons, dot] at hp
    rw [zz P _ _ e0, zz P _ _ e0, if_pos trivial] at hp
    have eab : a = b := by grind
    rw [eab, dots_eq n2 (Nat.succ.inj hy) (Nat.succ.inj hz) fun q hq => ?_]
    have hq' := h q (List.mem_cons_of_mem _ hq)
    have e1 : (if q = p then (1 : α) else 0) = 0 := if_neg fun e => n1 (by rw [← e]; exact hq)
    simp only [List.map_cons, dot] at hq'
    rw [e1] at hq'
    grind
theorem dot_addl : ∀ (xs ys zs : List α), xs.length = ys.length → dot (List.zipWith (fun a b => a + b) xs ys) zs = dot xs zs + dot ys zs
  | [], [], _, _ => by simp only [List.zipWith, dot]; grind
  | _ :: _, _ :: _, [], _ => by simp only [List.zipWith, dot]; grind
  | a :: as, b :: bs, c :: cs, h => by
    simp only [List.zipWith, dot]
    rw [dot_addl as bs cs (Nat.succ.inj h)]
    grind
theorem dotm_add : ∀ (P : List Nat) (u v : Nat → α) (z : List α), dot (P.map fun j => u j + v j) z = dot (P.map u) z + dot (P.map v) z
  | [], _, _, _ => by simp only [List.map_nil, dot]; grind
  | _ :: _, _, _, [] => by simp only [List.map_cons, dot]; grind
  | p :: P, u, v, c :: z => by
    simp only [List.map_cons, dot]
    rw [dotm_add P u v z]
    grind
theorem dotm_mul : ∀ (P : List Nat) (c : α) (u : Nat → α) (z : List α), dot (P.map fun j => c * u j) z = c * dot (P.map u) z
  | [], _, _, _ => by simp only [List.map_nil, dot]; grind
  | _ :: _, _, _, [] => by simp only [List.map_cons, dot]; grind
  | p :: P, a, u, c :: z => by
    simp only [List.map_cons, dot]
    rw [dotm_mul P a u z]
    grind
theorem dotm_zero : ∀ (P : List Nat) (z : List α), dot (P.map fun _ => 0) z = 0
  | [], _ => rfl
  | _ :: _, [] => rfl
  | p :: P, c :: z => by
    simp only [List.map_cons, dot]
    rw [dotm_zero P z]
    grind
/-- a new row, a new column: what the determinant is -/
theorem det_new (R : List (Nat → α)) (P : List Nat) (r : Nat → α) (j : Nat) : det (r :: R) (j :: P) = r j * det R P - dot (P.map r) (cof (fun x => det R (j :: x)) P) := by
  show r j * det R P - ex r (fun Q' => det R (j :: Q')) P = _
  rw [ex_dot]
/-- the minors are the determinant times the reduced rows -/
theorem St.minors {R : List (Nat → α)} {P : List Nat} {K : Nat → Nat → α} (S : St R P K) (j : Nat) : cof (fun x => det R (j :: x)) P = P.map fun q => det R P * K q j := by
  refine dots_eq S.nd (cof_len R P _) (List.length_map _) fun q hq => ?_
  have k := (S.sp q hq).kills (fun v => dot (P.map v) (cof (fun x => det R (j :: x)) P) - dot (P.map v) (P.map fun q => det R P * K q j))
    (by simp only [dotm_zero]; grind) (fun u v => by simp only [dotm_add]; grind) (fun c u => by simp only [dotm_mul]; grind) (fun r hr => by
      have e := det_twice (r := r) R (j :: P) hr
      rw [det_new] at e
      have c := S.row r hr j
      have c2 : dot (P.map r) (P.map fun q => det R P * K q j) = det R P * r j := by
        show sm P r (fun q => det R P * K q j) = _
        rw [sm_comm, sm_mull, sm_comm, ← c]
      show dot (P.map r) _ - dot (P.map r) _ = 0
      rw [c2]
      grind)
  have e : P.map (K q) = P.map fun t => if q = t then 1 else 0 := List.map_congr_left fun t ht => S.one q hq t ht
  have k : dot (P.map (K q)) (cof (fun x => det R (j :: x)) P) - dot (P.map (K q)) (P.map fun q => det R P * K q j) = 0 := k
  rw [e] at k
  grind
theorem St.det_new {R : List (Nat → α)} {P : List Nat} {K : Nat → Nat → α} (S : St R P K) (r : Nat → α) (j : Nat) : det (r :: R) (j :: P) = det R P * lft P K r j := by
  rw [UfL.det_new, S.minors j]
  have : dot (P.map r) (P.map fun q => det R P * K q j) = det R P * sm P r (fun q => K q j) := by
    show sm P r (fun q => det R P * K q j) = _
    rw [sm_comm, sm_mull, sm_comm]
  rw [this]
  unfold lft
  grind
theorem St.lft_zero {R : List (Nat → α)} {P : List Nat} {K : Nat → Nat → α} (S : St R P K) (r : Nat → α) {t : Nat} (ht : t ∈ P) : lft P K r t = 0 := by
  unfold lft
  rw [sm_one S.nd ht fun q hq => S.one q hq t ht]
  grind
/-- the rows behind a new lead at p: x the new row -/
def nxt (K : Nat → Nat → α) (p : Nat) (x : Nat → α) : Nat → Nat → α := fun q j => if q = p then x j else K q j - K q p * x j
theorem sm_nxt {P : List Nat} {K : Nat → Nat → α} {p : Nat} {x : Nat → α} (hp : ¬ p ∈ P) (v : Nat → α) (j : Nat) : sm P v (fun q => nxt K p x q j) = sm P v (fun q => K q j) - sm P v (fun q => K q p) * x j := by
  rw [← sm_subr]
  refine sm_congr P (fun _ _ => rfl) fun q hq => ?_
  show (if q = p then x j else K q j - K q p * x j) = _
  rw [if_neg fun e => hp (by rw [← e]; exact hq)]
theorem lft_nxt {P : List Nat} {K : Nat → Nat → α} {p : Nat} {x : Nat → α} (hp : ¬ p ∈ P) (r : Nat → α) (j : Nat) : lft (p :: P) (nxt K p x) r j = lft P K r j - lft P K r p * x j := by
  unfold lft
  rw [sm_cons, sm_nxt hp]
  show r j - (r p * (if p = p then x j else _) + _) = _
  rw [if_pos rfl]
  grind
theorem St.notMem {R : List (Nat → α)} {P : List Nat} {K : Nat → Nat → α} (S : St R P K) {r : Nat → α} {p : Nat} (hp : lft P K r p ≠ 0) : ¬ p ∈ P := fun h => hp (S.lft_zero r h)
theorem Cp.of_lft {P : List Nat} {K : Nat → Nat → α} {r : Nat → α} (h : ∀ j, lft P K r j = 0) : Cp P K r := fun j => by
  have := h j
  unfold lft at this
  grind
theorem Cp.lft {P : List Nat} {K : Nat → Nat → α} {r : Nat → α} (h : Cp P K r) (j : Nat) : lft P K r j = 0 := by
  unfold UfL.lft
  rw [← h j]
  grind
theorem Cp.nxt {P : List Nat} {K : Nat → Nat → α} {r : Nat → α} {p : Nat} {x : Nat → α} (hp : ¬ p ∈ P) (h : Cp P K r) : Cp (p :: P) (nxt K p x) r := .of_lft fun j => by
  rw [lft_nxt hp, h.lft, h.lft]
  grind
/-- what is left of a row makes a new lead -/
theorem St.step {R : List (Nat → α)} {P : List Nat} {K : Nat → Nat → α} (S : St R P K) (r : Nat → α) {p : Nat} (hp : lft P K r p ≠ 0) {x : Nat → α} (hx : ∀ j, x j = lft P K r j / lft P K r p) : St (r :: R) (p :: P) (nxt K p x) := by
  have np := S.notMem hp
  have xp : x p = 1 := by rw [hx]; grind
  have xt : ∀ t ∈ P, x t = 0 := fun t ht => by rw [hx, S.lft_zero r ht]; grind
  refine ⟨List.nodup_cons.mpr ⟨np, S.nd⟩, congrArg Nat.succ S.len, fun q hq t ht => ?_, fun v hv => ?_, fun q hq => ?_, ?_⟩
  · show (if q = p then x t else K q t - K q p * x t) = _
    rcases List.mem_cons.mp hq with hq | hq <;> rcases List.mem_cons.mp ht with ht | ht
    · rw [hq, ht, if_pos rfl, xp]
      simp
    · rw [hq, if_pos rfl, xt t ht, if_neg fun e => np (by rw [e]; exact ht)]
    · rw [ht, if_neg fun e => np (by rw [← e]; exact hq), xp, if_neg fun e => np (by rw [← e]; exact hq)]
      grind
    · rw [if_neg fun e => np (by rw [← e]; exact hq), xt t ht, S.one q hq t ht]
      grind
  · rcases List.mem_cons.mp hv with rfl | hv
    · refine .of_lft fun j => ?_
      rw [lft_nxt np, hx j]
      grind
    · exact (S.row v hv).nxt np
  · have sl : Sp (r :: R) (fun j => lft P K r j) := ((Sp.mem List.mem_cons_self).sub (Sp.sum r P fun q hq => (S.sp q hq).up fun v hv => List.mem_cons_of_mem _ hv) 1).cast fun j => by unfold lft; grind
    have sx : Sp (r :: R) x := (sl.mul (1 / lft P K r p)).cast fun j => by rw [hx j]; grind
    rcases List.mem_cons.mp hq with rfl | hq
    · exact sx.cast fun j => (if_pos rfl).symm
    · refine (((S.sp q hq).up fun v hv => List.mem_cons_of_mem _ hv).sub sx (K q p)).cast fun j => ?_
      show _ = (if q = p then x j else K q j - K q p * x j)
      rw [if_neg fun e => np (by rw [← e]; exact hq)]
  · rw [S.det_new]
    intro z
    have := S.d
    rcases Lean.Grind.Field.of_mul_eq_zero z with z | z
    · exact this z
    · exact hp z
/-- the reduced rows begin at their places -/
def Ech (P : List Nat) (K : Nat → Nat → α) : Prop := ∀ q ∈ P, ∀ t, t < q → K q t = 0
theorem Ech.step {P : List Nat} {K : Nat → Nat → α} (h : Ech P K) {p : Nat} {x : Nat → α} (np : ¬ p ∈ P) (hx : ∀ t, t < p → x t = 0) : Ech (p :: P) (nxt K p x) := fun q hq t ht => by
  show (if q = p then x t else K q t - K q p * x t) = 0
  rcases List.mem_cons.mp hq with rfl | hq
  · rw [if_pos rfl]
    exact hx t ht
  · rw [if_neg fun e => np (by rw [← e]; exact hq), h q hq t ht]
    by_cases e : p < q
    · rw [h q hq p e]
      grind
    · rw [hx t (by have : q ≠ p := fun e => np (by rw [← e]; exact hq); omega)]
      grind
/-- a column that the earlier ones tell holds no lead -/
theorem St.fresh {R : List (Nat → α)} {P : List Nat} {K : Nat → Nat → α} (S : St R P K) (h : Ech P K) {j : Nat} (c : Nat → α) (hc : ∀ r ∈ R, r j = sm (List.range j) r c) : ¬ j ∈ P := fun hj => by
  have k := (S.sp j hj).kills (fun v => v j - sm (List.range j) v c) (by
      show (0 : α) - sm (List.range j) (fun _ => 0) c = 0
      rw [sm_comm, sm_zero _ fun _ _ => rfl]
      grind) (fun u v => by
      show u j + v j - sm (List.range j) (fun q => u q + v q) c = _
      rw [sm_addl]
      grind) (fun a u => by
      show a * u j - sm (List.range j) (fun q => a * u q) c = _
      rw [sm_mull]
      grind) (fun r hr => by
      show r j - _ = 0
      rw [← hc r hr]
      grind)
  have k : K j j - sm (List.range j) (K j) c = 0 := k
  rw [sm_comm, sm_zero _ fun t ht => h j hj t (List.mem_range.mp ht), S.one j hj j hj, if_pos rfl] at k
  exact Lean.Grind.Field.zero_ne_one (α := α) (by grind)
end fld
end UfL

/-! # How great the numbers of an elimination are; what a system's reduced rows tell -/
namespace UfL
/-! ### bounds over the integers -/
def pw (w : Nat → Nat) : List Nat → Nat
  | [] => 1
  | q :: Q => w q * pw w Q
theorem ex_le {r : Nat → Int} {B : Nat} {w : Nat → Nat} : ∀ (Q : List Nat) (f : List Nat → Int) (C : Nat), (∀ q ∈ Q, (r q).natAbs ≤ B * w q) → (∀ x, x.Sublist Q → (f x).natAbs ≤ C * pw w x) →
    (ex r f Q).natAbs ≤ Q.length * (B * C) * pw w Q
  | [], _, _, _, _ => by simp [ex]
  | q :: Q, f, C, hr, hf => by
    have h1 : (r q * f Q).natAbs ≤ (B * C) * (w q * pw w Q) := by
      rw [Int.natAbs_mul]
      have := Nat.mul_le_mul (hr q List.mem_cons_self) (hf Q (List.sublist_cons_self q Q))
      calc _ ≤ _ := this
        _ = _ := by ac_rfl
    have h2 := ex_le Q (fun x => f (q :: x)) (C * w q) (fun t ht => hr t (List.mem_cons_of_mem _ ht)) fun x hx => by
      have := hf (q :: x) (List.Sublist.cons_cons q hx)
      show (f (q :: x)).natAbs ≤ _
      calc _ ≤ _ := this
        _ = C * w q * pw w x := by show C * (w q * pw w x) = _; ac_rfl
    show (r q * f Q - ex r (fun x => f (q :: x)) Q).natAbs ≤ (Q.length + 1) * (B * C) * (w q * pw w Q)
    have e : Q.length * (B * (C * w q)) * pw w Q = Q.length * (B * C) * (w q * pw w Q) := by ac_rfl
    rw [e] at h2
    have e2 : (Q.length + 1) * (B * C) * (w q * pw w Q) = Q.length * (B * C) * (w q * pw w Q) + (B * C) * (w q * pw w Q) := by rw [Nat.add_mul, Nat.add_mul, Nat.one_mul]
    rw [e2]
    have := Int.natAbs_sub_le (r q * f Q) (ex r (fun x => f (q :: x)) Q)
    omega
theorem pw_pos {w : Nat → Nat} (h : ∀ q, 1 ≤ w q) : ∀ Q : List Nat, 1 ≤ pw w Q
  | [] => Nat.le_refl _
  | q :: Q => Nat.mul_le_mul (h q) (pw_pos h Q)
theorem pw_one {w : Nat → Nat} : ∀ Q : List Nat, (∀ q ∈ Q, w q = 1) → pw w Q = 1
  | [], _ => rfl
  | q :: Q, h => by
    show w q * pw w Q = 1
    rw [h q List.mem_cons_self, pw_one Q fun t ht => h t (List.mem_cons_of_mem _ ht)]
theorem det_le {B m : Nat} {w : Nat → Nat} (w1 : ∀ q, 1 ≤ w q) : ∀ (R : List (Nat → Int)) (Q : List Nat), Q.length ≤ m → (∀ r ∈ R, ∀ q ∈ Q, (r q).natAbs ≤ B * w q) → (det R Q).natAbs ≤ (m * B) ^ R.length * pw w Q
  | [], Q, _, h => by
    show (1 : Int).natAbs ≤ 1 * pw w Q
    have := pw_pos w1 Q
    omega
  | r :: R, Q, hm, h => by
    have := ex_le Q (det R) ((m * B) ^ R.length) (h r List.mem_cons_self) fun x hx => det_le w1 R x (Nat.le_trans hx.length_le hm) fun v hv q hq => h v (List.mem_cons_of_mem _ hv) q (hx.subset hq)
    refine Nat.le_trans this (Nat.mul_le_mul_right _ ?_)
    rw [List.length_cons, Nat.pow_succ]
    calc Q.length * (B * (m * B) ^ R.length) ≤ m * (B * (m * B) ^ R.length) := Nat.mul_le_mul_right _ hm
      _ = _ := by ac_rfl
/-- the integers among the rationals -/
def cst (r : Nat → Int) : Nat → Rat := fun j => (r j : Rat)
theorem ex_cst (r : Nat → Int) : ∀ (Q : List Nat) (f : List Nat → Int), ex (cst r) (fun x => ((f x : Int) : Rat)) Q = ((ex r f Q : Int) : Rat)
  | [], _ => rfl
  | q :: Q, f => by
    show (r q : Rat) * (f Q : Rat) - ex (cst r) (fun x => ((f (q :: x) : Int) : Rat)) Q = ((r q * f Q - ex r (fun x => f (q :: x)) Q : Int) : Rat)
    rw [ex_cst r Q (fun x => f (q :: x)), Rat.intCast_sub, Rat.intCast_mul]
theorem det_cst : ∀ (R : List (Nat → Int)) (Q : List Nat), det (R.map cst) Q = ((det R Q : Int) : Rat)
  | [], _ => rfl
  | r :: R, Q => by
    show ex (cst r) (det (R.map cst)) Q = _
    rw [show det (R.map cst) = fun x => ((det R x : Int) : Rat) from funext fun x => det_cst R x, ex_cst]
    rfl
theorem cof_mem {α : Type} [Lean.Grind.CommRing α] {y : α} : ∀ (Q : List Nat) (f : List Nat → α), y ∈ cof f Q → ∃ x, x.Sublist Q ∧ (y = f x ∨ y = - f x)
  | [], _, h => nomatch h
  | q :: Q, f, h => by
    rcases List.mem_cons.mp h with h | h
    · exact ⟨Q, List.sublist_cons_self q Q, .inl h⟩
    · obtain ⟨z, hz, e⟩ := List.mem_map.mp h
      obtain ⟨x, hx, e2⟩ := cof_mem Q _ hz
      refine ⟨q :: x, List.Sublist.cons_cons q hx, ?_⟩
      rcases e2 with e2 | e2
      · exact .inr (by rw [← e, e2])
      · exact .inl (by rw [← e, e2]; grind)
theorem pw_sub {w : Nat → Nat} (w1 : ∀ q, 1 ≤ w q) {x P : List Nat} (h : x.Sublist P) : pw w x ≤ pw w P := by
  induction h with
  | slnil => exact Nat.le_refl _
  | @cons l1 l2 a _ ih =>
    show _ ≤ w a * pw w l2
    exact Nat.le_trans ih (Nat.le_mul_of_pos_left _ (w1 _))
  | cons_cons a _ ih => exact Nat.mul_le_mul_left _ ih
/-- all weights but one are 1 -/
theorem pw_two {w : Nat → Nat} (w1 : ∀ q, 1 ≤ w q) (z : Nat) : ∀ {P : List Nat}, P.Nodup → (∀ q ∈ P, q ≠ z → w q = 1) → pw w P ≤ w z
  | [], _, _ => w1 z
  | q :: P, nd, h => by
    obtain ⟨n1, n2⟩ := List.nodup_cons.mp nd
    show w q * pw w P ≤ w z
    by_cases e : q = z
    · rw [pw_one P fun t ht => h t (List.mem_cons_of_mem _ ht) fun y => n1 (by rw [e, ← y]; exact ht), e, Nat.mul_one]
      exact Nat.le_refl _
    · rw [h q List.mem_cons_self e, Nat.one_mul]
      exact pw_two w1 z n2 fun t ht => h t (List.mem_cons_of_mem _ ht)
/-- the numbers of the reduced rows have one denominator; it and the numerators are small -/
theorem St.bound {R : List (Nat → Int)} {P : List Nat} {K : Nat → Nat → Rat} (S : St (R.map cst) P K) {B m W0 : Nat} {w : Nat → Nat} (w1 : ∀ q, 1 ≤ w q) (hP : pw w P ≤ W0) (hm : P.length + 1 ≤ m) (hR : ∀ r ∈ R, ∀ q, (r q).natAbs ≤ B * w q) :
    ∃ D : Int, D ≠ 0 ∧ D.natAbs ≤ (m * B) ^ R.length * W0 ∧ ∀ q ∈ P, ∀ j, ∃ N : Int, (N : Rat) = D * K q j ∧ N.natAbs ≤ (m * B) ^ R.length * W0 * w j := by
  refine ⟨det R P, fun z => S.d (by rw [det_cst, z]; rfl), ?_, fun q hq j => ?_⟩
  · exact Nat.le_trans (det_le (m := m) w1 R P (by omega) fun r hr q _ => hR r hr q) (Nat.mul_le_mul_left _ hP)
  · have e := S.minors j
    have hmem : det (R.map cst) P * K q j ∈ cof (fun x => det (R.map cst) (j :: x)) P := by
      rw [e]
      exact List.mem_map.mpr ⟨q, hq, rfl⟩
    obtain ⟨x, hx, h⟩ := cof_mem P _ hmem
    have b := det_le (m := m) w1 R (j :: x) (by have := hx.length_le; rw [List.length_cons]; omega) fun r hr q _ => hR r hr q
    have px : pw w (j :: x) ≤ W0 * w j := by
      show w j * pw w x ≤ _
      rw [Nat.mul_comm]
      exact Nat.mul_le_mul_right _ (Nat.le_trans (pw_sub w1 hx) hP)
    have b : (det R (j :: x)).natAbs ≤ (m * B) ^ R.length * W0 * w j := by
      rw [Nat.mul_assoc]
      exact Nat.le_trans b (Nat.mul_le_mul_left _ px)
    rcases h with h | h
    · refine ⟨det R (j :: x), ?_, b⟩
      rw [← det_cst, ← det_cst, h]
    · refine ⟨- det R (j :: x), ?_, by rw [Int.natAbs_neg]; exact b⟩
      rw [Rat.intCast_neg, ← det_cst, ← det_cst, h]
/-- .. and so has what is left of a row when the places S are cleared -/
theorem sum_int {K : Nat → Nat → Rat} {D : Int} {r : Nat → Int} {C C' : Nat} : ∀ (L : List Nat) (j : Nat), (∀ q ∈ L, ∃ N : Int, (N : Rat) = D * K q j ∧ N.natAbs ≤ C) → (∀ q ∈ L, (r q).natAbs ≤ C') →
    ∃ N : Int, (N : Rat) = D * sm L (cst r) (fun q => K q j) ∧ N.natAbs ≤ L.length * (C' * C)
  | [], _, _, _ => ⟨0, by rw [sm_nil]; grind, Nat.zero_le _⟩
  | q :: L, j, h, hr => by
    obtain ⟨N, e, b⟩ := h q List.mem_cons_self
    obtain ⟨M, e2, b2⟩ := sum_int L j (fun t ht => h t (List.mem_cons_of_mem _ ht)) fun t ht => hr t (List.mem_cons_of_mem _ ht)
    refine ⟨r q * N + M, ?_, ?_⟩
    · rw [Rat.intCast_add, Rat.intCast_mul, e, e2, sm_cons]
      show (r q : Rat) * (D * K q j) + D * _ = D * ((r q : Rat) * K q j + _)
      grind
    · have h1 := Int.natAbs_add_le (r q * N) M
      have h2 : (r q * N).natAbs ≤ C' * C := by
        rw [Int.natAbs_mul]
        exact Nat.mul_le_mul (hr q List.mem_cons_self) b
      rw [List.length_cons, Nat.add_mul]
      omega
theorem left_int {K : Nat → Nat → Rat} {D : Int} {r : Nat → Int} {C C' W M : Nat} (L : List Nat) (j : Nat) (hD : D.natAbs ≤ M) (hj : (r j).natAbs ≤ C' * W) (h : ∀ q ∈ L, ∃ N : Int, (N : Rat) = D * K q j ∧ N.natAbs ≤ M * W) (hr : ∀ q ∈ L, (r q).natAbs ≤ C') :
    ∃ N : Int, (N : Rat) = D * lft L K (cst r) j ∧ N.natAbs ≤ (L.length + 1) * (C' * (M * W)) := by
  obtain ⟨N, e, b⟩ := sum_int L j h hr
  refine ⟨D * r j - N, ?_, ?_⟩
  · rw [Rat.intCast_sub, Rat.intCast_mul, e]
    unfold lft
    show (D : Rat) * (r j : Rat) - _ = D * ((r j : Rat) - _)
    grind
  · have h1 := Int.natAbs_sub_le (D * r j) N
    have h2 : (D * r j).natAbs ≤ C' * (M * W) := by
      rw [Int.natAbs_mul]
      calc _ ≤ M * (C' * W) := Nat.mul_le_mul hD hj
        _ = _ := by ac_rfl
    rw [Nat.add_mul, Nat.one_mul]
    omega
/-! ### primitive rows -/
def gcdL : List Int → Nat
  | [] => 0
  | x :: xs => Nat.gcd x.natAbs (gcdL xs)
theorem gcdL_dvd : ∀ {l : List Int} {x : Int}, x ∈ l → gcdL l ∣ x.natAbs
  | y :: l, x, h => by
    rcases List.mem_cons.mp h with rfl | h
    · exact Nat.gcd_dvd_left _ _
    · exact Nat.dvd_trans (Nat.gcd_dvd_right _ _) (gcdL_dvd h)
theorem dvd_gcdL {d : Nat} : ∀ {l : List Int}, (∀ x ∈ l, d ∣ x.natAbs) → d ∣ gcdL l
  | [], _ => Nat.dvd_zero d
  | y :: l, h => Nat.dvd_gcd (h y List.mem_cons_self) (dvd_gcdL fun x hx => h x (List.mem_cons_of_mem _ hx))
/-- a primitive row that is told up to a factor is no greater than any integer row that is -/
theorem prim_le {u : List Int} {v : Nat → Rat} {c t : Rat} (g : gcdL u = 1) (hc : c ≠ 0) (ht : t ≠ 0) (hu : ∀ j, ((u.getD j 0 : Int) : Rat) = c * v j) {N : Nat → Int} (hN : ∀ j, (N j : Rat) = t * v j) (j : Nat) : (u.getD j 0).natAbs ≤ (N j).natAbs := by
  have key : ∀ j, N j * ((t / c).den : Int) = (t / c).num * u.getD j 0 := fun j => by
    have e : (N j : Rat) = (t / c) * (u.getD j 0 : Int) := by
      rw [hN, hu]
      grind
    have hd : (((t / c).den : Int) : Rat) ≠ 0 := by
      intro z
      have := (t / c).den_nz
      have z : ((t / c).den : Int) = 0 := by exact_mod_cast z
      omega
    have e2 : t / c = ((t / c).num : Rat) / (((t / c).den : Int) : Rat) := by rw [← Rat.divInt_eq_div, Rat.num_divInt_den]
    have : ((N j * ((t / c).den : Int) : Int) : Rat) = (((t / c).num * u.getD j 0 : Int) : Rat) := by
      rw [Rat.intCast_mul, Rat.intCast_mul, e]
      generalize (t / c).num = a at *
      generalize ((t / c).den : Int) = b at *
      rw [e2]
      grind
    exact_mod_cast this
  have hden : (t / c).den = 1 := by
    have hd : (t / c).den ∣ gcdL u := dvd_gcdL fun x hx => by
      obtain ⟨i, hi, e⟩ := List.mem_iff_getElem.mp hx
      have k := key i
      rw [show u.getD i 0 = x by rw [List.getD_eq_getElem?_getD, List.getElem?_eq_getElem hi, e]; rfl] at k
      have k2 : (t / c).den ∣ ((t / c).num * x).natAbs := by
        rw [← k, Int.natAbs_mul]
        exact ⟨(N i).natAbs, by rw [Int.natAbs_natCast, Nat.mul_comm]⟩
      rw [Int.natAbs_mul] at k2
      exact (Nat.Coprime.symm (t / c).reduced).dvd_of_dvd_mul_left k2
    rw [g] at hd
    exact Nat.dvd_one.mp hd
  have k := key j
  rw [hden] at k
  have k : N j = (t / c).num * u.getD j 0 := by simpa using k
  rw [k, Int.natAbs_mul]
  have : (t / c).num ≠ 0 := fun z => by
    have z : t / c = 0 := Rat.num_eq_zero.mp z
    grind
  exact Nat.le_mul_of_pos_left _ (by omega)
end UfL

/-! # The program's elimination on rows of whole numbers, and the field it stands for -/
namespace UfL
section
variable {α : Type} [Lean.Grind.Field α]
/-- an integer as a number of the field -/
def ic (x : Int) : α := (Lean.Grind.Ring.intCast (α := α)).intCast x
theorem ic_add (x y : Int) : (ic (x + y) : α) = ic x + ic y := Lean.Grind.Ring.intCast_add x y
theorem ic_mul (x y : Int) : (ic (x * y) : α) = ic x * ic y := Lean.Grind.Ring.intCast_mul x y
theorem ic_sub (x y : Int) : (ic (x - y) : α) = ic x - ic y := Lean.Grind.Ring.intCast_sub x y
theorem ic_neg (x : Int) : (ic (-x) : α) = - ic x := Lean.Grind.Ring.intCast_neg x
theorem ic_zero : (ic 0 : α) = 0 := Lean.Grind.Ring.intCast_zero
theorem ic_one : (ic 1 : α) = 1 := Lean.Grind.Ring.intCast_one
/-- a number of the ground p that stands in its form -/
def Oki (p x : Int) : Prop := p = 0 ∨ 0 ≤ x ∧ x < p
/-- α is the field of the ground p -/
structure Gd (p : Int) (α : Type) [Lean.Grind.Field α] : Prop where
  p0 : 0 ≤ p
  inj : ∀ x : Int, Oki p x → (ic x : α) = 0 → x = 0
  md : p ≠ 0 → ∀ x : Int, (ic (x.fmod p) : α) = ic x
  inv : p ≠ 0 → ∀ x : Int, (ic x : α) ≠ 0 → (ic (x ^ (p - 2).toNat) : α) * ic x = 1
end
/-! ### the program's functions -/
def primL (u : List Int) : List Int := if gcdL u ≤ 1 then u else u.map (fun x => x.fdiv (gcdL u))
def clr (p : Int) (u h : List Int) (q : Nat) : List Int :=
  if u.getD q 0 = 0 then u
  else if 0 < p then List.zipWith (fun e t => (e - u.getD q 0 * t).fmod p) u h
  else primL (List.zipWith (fun e t => (h.getD q 0).fdiv ((Nat.gcd (u.getD q 0).natAbs (h.getD q 0).natAbs : Nat) : Int) * e - (u.getD q 0).fdiv ((Nat.gcd (u.getD q 0).natAbs (h.getD q 0).natAbs : Nat) : Int) * t) u h)
/-- 1/x in the ground p -/
def invP (p x : Int) : Int := (1 * (x ^ (p - 2).toNat).fmod p).fmod p
def ledO (p : Int) (u : List Int) (q : Nat) : List Int := if p = 0 ∨ u.getD q 0 = 1 then u else u.map (fun x => (invP p (u.getD q 0) * x).fmod p)
def firstNz : List Int → Option Nat
  | [] => none
  | x :: u => if x ≠ 0 then some 0 else (firstNz u).map (· + 1)
def clrAll (p : Int) (kept : List (Nat × List Int)) (u : List Int) : List Int := kept.foldl (fun l qh => clr p l qh.2 qh.1) u
def stepRow (p : Int) (kept : List (Nat × List Int)) (u : List Int) : List (Nat × List Int) := match firstNz (clrAll p kept u) with
  | none => kept
  | some q => kept.map (fun qh => (qh.1, clr p qh.2 (ledO p (clrAll p kept u) q) q)) ++ [(q, ledO p (clrAll p kept u) q)]
def runRows (p : Int) (width : Nat) : List (List Int) → List (Nat × List Int) → List (Nat × List Int)
  | [], k => k
  | u :: us, k => if (firstNz (clrAll p k u)).isSome ∧ (stepRow p k u).length = width then stepRow p k u else runRows p width us (stepRow p k u)
/-! ### plain facts -/
theorem gd_map {f : Int → Int} (h : f 0 = 0) (u : List Int) (j : Nat) : (u.map f).getD j 0 = f (u.getD j 0) := by
  rw [List.getD_eq_getElem?_getD, List.getD_eq_getElem?_getD, List.getElem?_map]
  cases u[j]? <;> simp [h]
theorem gd_zip {f : Int → Int → Int} (h : f 0 0 = 0) {u v : List Int} (hl : u.length = v.length) (j : Nat) : (List.zipWith f u v).getD j 0 = f (u.getD j 0) (v.getD j 0) := by
  rw [List.getD_eq_getElem?_getD, List.getD_eq_getElem?_getD, List.getD_eq_getElem?_getD, List.getElem?_zipWith]
  by_cases hj : j < u.length
  · rw [List.getElem?_eq_getElem hj, List.getElem?_eq_getElem (by omega)]
    rfl
  · rw [List.getElem?_eq_none (by omega), List.getElem?_eq_none (by omega)]
    exact h.symm
theorem fdiv_exact {x g : Int} (hg : g ≠ 0) (h : g ∣ x) : x.fdiv g * g = x := by
  obtain ⟨k, rfl⟩ := h
  rw [Int.mul_fdiv_cancel_left k hg, Int.mul_comm]
theorem gd_mem {u : List Int} {j : Nat} (h : u.getD j 0 ≠ 0) : u.getD j 0 ∈ u := by
  rw [List.getD_eq_getElem?_getD] at h ⊢
  by_cases hj : j < u.length
  · rw [List.getElem?_eq_getElem hj]
    exact List.getElem_mem hj
  · rw [List.getElem?_eq_none (by omega)] at h
    exact (h rfl).elim
theorem mem_gd {u : List Int} {x : Int} (h : x ∈ u) : ∃ j, x = u.getD j 0 := by
  obtain ⟨i, hi, e⟩ := List.mem_iff_getElem.mp h
  exact ⟨i, by rw [List.getD_eq_getElem?_getD, List.getElem?_eq_getElem hi, e]; rfl⟩
theorem gcdL_zero {u : List Int} (h : gcdL u = 0) (j : Nat) : u.getD j 0 = 0 := Classical.byContradiction fun z => by
  have := gcdL_dvd (gd_mem z)
  rw [h] at this
  have := Nat.eq_zero_of_zero_dvd this
  omega
theorem gcdL_dvdI {u : List Int} {x : Int} (h : x ∈ u) : (gcdL u : Int) ∣ x := Int.ofNat_dvd_left.mpr (gcdL_dvd h)
theorem primL_len (u : List Int) : (primL u).length = u.length := by
  unfold primL
  split
  · rfl
  · exact List.length_map _
/-- the factor that a primitive row lacks -/
def cont (u : List Int) : Int := if gcdL u ≤ 1 then 1 else gcdL u
theorem cont_ne (u : List Int) : cont u ≠ 0 := by
  unfold cont
  split <;> omega
theorem primL_mul (u : List Int) (j : Nat) : (primL u).getD j 0 * cont u = u.getD j 0 := by
  unfold primL cont
  split
  · rename_i h
    rw [Int.mul_one]
  · rename_i h
    rw [gd_map (by simp)]
    by_cases z : u.getD j 0 = 0
    · rw [z]
      simp
    · exact fdiv_exact (by omega) (gcdL_dvdI (gd_mem z))
/-- primitive, or all 0 -/
def Prim (u : List Int) : Prop := gcdL u ≤ 1
theorem primL_prim (u : List Int) : Prim (primL u) := by
  unfold primL Prim
  split
  · assumption
  · rename_i h
    have hd : gcdL (u.map (fun x => x.fdiv (gcdL u))) * gcdL u ∣ gcdL u := dvd_gcdL fun x hx => by
      have e := fdiv_exact (show (gcdL u : Int) ≠ 0 by omega) (gcdL_dvdI hx)
      have d := gcdL_dvd (List.mem_map.mpr ⟨x, hx, rfl⟩ : x.fdiv (gcdL u) ∈ u.map (fun x => x.fdiv (gcdL u)))
      have e3 : (x.fdiv (gcdL u)).natAbs * gcdL u = x.natAbs := by
        have := congrArg Int.natAbs e
        rw [Int.natAbs_mul, Int.natAbs_natCast] at this
        exact this
      rw [← e3]
      exact Nat.mul_dvd_mul_right d _
    have := Nat.le_of_dvd (by omega) hd
    exact Nat.le_of_mul_le_mul_right (by omega : _ ≤ 1 * gcdL u) (by omega)
theorem clr_len {p : Int} {u h : List Int} (hl : u.length = h.length) (q : Nat) : (clr p u h q).length = u.length := by
  unfold clr
  split
  · rfl
  · split
    · rw [List.length_zipWith]; omega
    · rw [primL_len, List.length_zipWith]; omega
theorem ledO_len (p : Int) (u : List Int) (q : Nat) : (ledO p u q).length = u.length := by
  unfold ledO
  split
  · rfl
  · exact List.length_map _
theorem firstNz_none : ∀ {u : List Int}, firstNz u = none → ∀ j, u.getD j 0 = 0
  | [], _, j => by simp
  | x :: u, h, j => by
    unfold firstNz at h
    split at h
    · cases h
    · rename_i hx
      have hx : x = 0 := Classical.byContradiction hx
      cases j with
      | zero => exact hx
      | succ j => exact firstNz_none (by cases e : firstNz u <;> simp [e] at h ⊢) j
theorem firstNz_some : ∀ {u : List Int} {q : Nat}, firstNz u = some q → u.getD q 0 ≠ 0 ∧ (∀ t, t < q → u.getD t 0 = 0) ∧ q < u.length
  | [], _, h => nomatch h
  | x :: u, q, h => by
    unfold firstNz at h
    split at h
    · rename_i hx
      cases h
      exact ⟨hx, fun t ht => absurd ht (Nat.not_lt_zero t), by simp⟩
    · rename_i hx
      have hx : x = 0 := Classical.byContradiction hx
      cases e : firstNz u with
      | none => rw [e] at h; cases h
      | some k =>
        rw [e] at h
        cases h
        obtain ⟨h1, h2, h3⟩ := firstNz_some e
        refine ⟨h1, fun t ht => ?_, by simp; omega⟩
        have ht : t < k + 1 := ht
        cases t with
        | zero => exact hx
        | succ t => exact h2 t (by omega)
section
variable {α : Type} [Lean.Grind.Field α]
/-- u tells the row v up to the factor c -/
def Rel (u : List Int) (v : Nat → α) (c : α) : Prop := ∀ j, (ic (u.getD j 0) : α) = c * v j
/-- a row of the ground p, of n numbers, told up to a factor -/
structure Row (p : Int) (n : Nat) (u : List Int) (v : Nat → α) (c : α) : Prop where
  len : u.length = n
  nz : c ≠ 0
  rel : Rel u v c
  ok : ∀ j, Oki p (u.getD j 0)
  prim : p = 0 → Prim u
theorem oki0 {p : Int} (h : 0 ≤ p) : Oki p 0 := by
  unfold Oki
  omega
theorem oki_mod {p : Int} (h : p ≠ 0) (h0 : 0 ≤ p) (x : Int) : Oki p (x.fmod p) := .inr ⟨Int.fmod_nonneg_of_pos x (by omega), Int.fmod_lt_of_pos x (by omega)⟩
theorem prim_rel {p : Int} {u : List Int} {v : Nat → α} {c : α} (g : Gd p α) (hp : p = 0) (h : Rel u v c) : Rel (primL u) v (c / ic (cont u)) := fun j => by
  have e := primL_mul u j
  have e2 : (ic ((primL u).getD j 0) : α) * ic (cont u) = c * v j := by rw [← ic_mul, e, h]
  have z : (ic (cont u) : α) ≠ 0 := fun z => cont_ne u (g.inj _ (.inl hp) z)
  grind
theorem Row.clr {p : Int} {n : Nat} {u h : List Int} {v k : Nat → α} {c c' : α} {q : Nat} (g : Gd p α) (U : Row p n u v c) (H : Row p n h k c') (kq : k q = 1) (h1 : p ≠ 0 → c' = 1) :
    ∃ c2, (p ≠ 0 → c2 = c) ∧ Row p n (clr p u h q) (fun j => v j - v q * k j) c2 := by
  have hl : u.length = h.length := by rw [U.len, H.len]
  have len := clr_len (p := p) hl q
  rw [U.len] at len
  by_cases z : u.getD q 0 = 0
  · have vq : v q = 0 := by
      have := U.rel q
      rw [z, ic_zero] at this
      have := U.nz
      grind
    have e : UfL.clr p u h q = u := if_pos z
    rw [e]
    exact ⟨c, fun _ => rfl, U.len, U.nz, fun j => by rw [U.rel]; grind, U.ok, U.prim⟩
  · by_cases hp : 0 < p
    · have p0 : p ≠ 0 := by omega
      have e : UfL.clr p u h q = List.zipWith (fun e t => (e - u.getD q 0 * t).fmod p) u h := by
        unfold UfL.clr
        rw [if_neg z, if_pos hp]
      have ev : ∀ j, (UfL.clr p u h q).getD j 0 = (u.getD j 0 - u.getD q 0 * h.getD j 0).fmod p := fun j => by
        rw [e, gd_zip (by simp) hl]
      refine ⟨c, fun _ => rfl, len, U.nz, fun j => ?_, fun j => by rw [ev]; exact oki_mod p0 g.p0 _, fun z => (p0 z).elim⟩
      rw [ev, g.md p0, ic_sub, ic_mul, U.rel, U.rel, H.rel, h1 p0]
      grind
    · have p0 : p = 0 := by have := g.p0; omega
      generalize eg : ((Nat.gcd (u.getD q 0).natAbs (h.getD q 0).natAbs : Nat) : Int) = G
      have e : UfL.clr p u h q = primL (List.zipWith (fun e t => (h.getD q 0).fdiv G * e - (u.getD q 0).fdiv G * t) u h) := by
        unfold UfL.clr
        rw [if_neg z, if_neg hp, eg]
      have gpos : G ≠ 0 := by
        have := Nat.gcd_pos_of_pos_left (h.getD q 0).natAbs (show 0 < (u.getD q 0).natAbs by omega)
        omega
      have d1 : G ∣ u.getD q 0 := by rw [← eg]; exact Int.ofNat_dvd_left.mpr (Nat.gcd_dvd_left _ _)
      have d2 : G ∣ h.getD q 0 := by rw [← eg]; exact Int.ofNat_dvd_left.mpr (Nat.gcd_dvd_right _ _)
      have e1 := fdiv_exact gpos d1
      have e2 := fdiv_exact gpos d2
      have hq := H.rel q
      rw [kq] at hq
      have uq := U.rel q
      have a1 : (ic ((u.getD q 0).fdiv G) : α) * ic G = c * v q := by rw [← ic_mul, e1, uq]
      have a2 : (ic ((h.getD q 0).fdiv G) : α) * ic G = c' := by rw [← ic_mul, e2, hq]; grind
      have gz : (ic G : α) ≠ 0 := fun z => gpos (g.inj _ (.inl p0) z)
      have nz := U.nz
      have nz' := H.nz
      have rel : Rel (List.zipWith (fun e t => (h.getD q 0).fdiv G * e - (u.getD q 0).fdiv G * t) u h) (fun j => v j - v q * k j) (ic ((h.getD q 0).fdiv G) * c) := fun j => by
        rw [gd_zip (by simp) hl, ic_sub, ic_mul, ic_mul, U.rel, H.rel]
        grind
      refine ⟨_, fun z => (z p0).elim, len, ?_, by rw [e]; exact prim_rel g p0 rel, fun j => .inl p0, fun _ => by rw [e]; exact primL_prim _⟩
      have cz : (ic (cont (List.zipWith (fun e t => (h.getD q 0).fdiv G * e - (u.getD q 0).fdiv G * t) u h)) : α) ≠ 0 := fun z => cont_ne _ (g.inj _ (.inl p0) z)
      have tz : (ic ((h.getD q 0).fdiv G) : α) ≠ 0 := fun z => by rw [z] at a2; grind
      grind
theorem inv_rel {p : Int} (g : Gd p α) (p0 : p ≠ 0) {x : Int} (hx : (ic x : α) ≠ 0) : (ic (invP p x) : α) = 1 / ic x := by
  unfold invP
  rw [g.md p0, ic_mul, g.md p0, ic_one]
  have := g.inv p0 x hx
  grind
theorem Row.led {p : Int} {n : Nat} {u : List Int} {v : Nat → α} {c : α} {q : Nat} (g : Gd p α) (U : Row p n u v c) (hq : u.getD q 0 ≠ 0) :
    v q ≠ 0 ∧ ∃ c2, (p ≠ 0 → c2 = 1) ∧ Row p n (ledO p u q) (fun j => v j / v q) c2 := by
  have uq := U.rel q
  have nz := U.nz
  have iz : (ic (u.getD q 0) : α) ≠ 0 := fun z => hq (g.inj _ (U.ok q) z)
  have vq : v q ≠ 0 := fun z => iz (by rw [uq, z]; grind)
  refine ⟨vq, ?_⟩
  by_cases h : p = 0 ∨ u.getD q 0 = 1
  · have e : ledO p u q = u := if_pos h
    rw [e]
    refine ⟨c * v q, fun p0 => ?_, U.len, fun z => ?_, fun j => by rw [U.rel]; grind, U.ok, U.prim⟩
    · rcases h with h | h
      · exact (p0 h).elim
      · rw [← uq, h, ic_one]
    · rcases Lean.Grind.Field.of_mul_eq_zero z with z | z
      · exact nz z
      · exact vq z
  · have p0 : p ≠ 0 := fun z => h (.inl z)
    have e : ledO p u q = u.map (fun x => (invP p (u.getD q 0) * x).fmod p) := if_neg h
    have ev : ∀ j, (ledO p u q).getD j 0 = (invP p (u.getD q 0) * u.getD j 0).fmod p := fun j => by
      rw [e, gd_map (by simp)]
    refine ⟨1, fun _ => rfl, by rw [ledO_len, U.len], fun z => Lean.Grind.Field.zero_ne_one z.symm, fun j => ?_, fun j => by rw [ev]; exact oki_mod p0 g.p0 _, fun z => (p0 z).elim⟩
    rw [ev, g.md p0, ic_mul, inv_rel g p0 iz, uq, U.rel]
    grind
end
end UfL

/-! # The rows that the program keeps: what they tell -/
namespace UfL
theorem nd_rev {l : List Nat} (h : l.Nodup) : l.reverse.Nodup := List.pairwise_reverse.mpr (List.Pairwise.imp (fun h => Ne.symm h) h)
section
variable {α : Type} [Lean.Grind.Field α]
/-- what the kept rows are: the reduced rows K with the leads P, of the fresh rows R -/
structure KInv (p : Int) (n : Nat) (kept : List (Nat × List Int)) (R : List (Nat → α)) (P : List Nat) (K : Nat → Nat → α) : Prop where
  st : St R P K
  ech : Ech P K
  pl : kept.map (·.1) = P.reverse
  lt : ∀ q ∈ P, q < n
  row : ∀ qh ∈ kept, ∃ c, (p ≠ 0 → c = 1) ∧ Row p n qh.2 (K qh.1) c
theorem KInv.nil {p : Int} {n : Nat} {K : Nat → Nat → α} : KInv p n [] [] [] K := ⟨.nil, nofun, rfl, nofun, nofun⟩
/-- the rows left behind by the clearing of the places L -/
theorem clrAll_row {p : Int} {n : Nat} {K : Nat → Nat → α} {P : List Nat} {r : Nat → α} (g : Gd p α) (one : ∀ q ∈ P, ∀ t ∈ P, K q t = if q = t then 1 else 0) :
    ∀ (kept : List (Nat × List Int)) (L : List Nat) (u : List Int) (c : α), (kept.map (·.1)).reverse ++ L = P → P.Nodup → (∀ qh ∈ kept, ∃ c, (p ≠ 0 → c = 1) ∧ Row p n qh.2 (K qh.1) c) → Row p n u (lft L K r) c →
      ∃ c2, (p ≠ 0 → c2 = c) ∧ Row p n (clrAll p kept u) (lft ((kept.map (·.1)).reverse ++ L) K r) c2
  | [], L, u, c, _, _, _, h => ⟨c, fun _ => rfl, h⟩
  | qh :: kept, L, u, c, hP, nd, hk, h => by
    have e : (qh :: kept).map (·.1) = qh.1 :: kept.map (·.1) := rfl
    rw [e, List.reverse_cons, List.append_assoc] at hP
    have hqP : qh.1 ∈ P := by rw [← hP]; simp
    have hLP : ∀ t ∈ L, t ∈ P := fun t ht => by rw [← hP]; simp [ht]
    have hqL : ¬ qh.1 ∈ L := fun z => by
      rw [← hP] at nd
      have := (List.nodup_append.mp nd).2.1
      rw [show [qh.1] ++ L = qh.1 :: L from rfl] at this
      exact (List.nodup_cons.mp this).1 z
    obtain ⟨c', h1, H⟩ := hk qh List.mem_cons_self
    obtain ⟨c2, e2, U2⟩ := h.clr g H (by rw [one _ hqP _ hqP, if_pos rfl]) h1
    have lq : lft L K r qh.1 = r qh.1 := by
      unfold lft
      rw [sm_zero L fun t ht => by rw [one t (hLP t ht) _ hqP, if_neg fun z => hqL (by rw [← z]; exact ht)]]
      grind
    have el : (fun j => lft L K r j - lft L K r qh.1 * K qh.1 j) = lft (qh.1 :: L) K r := funext fun j => by
      rw [lq]
      unfold lft
      rw [sm_cons]
      grind
    rw [el] at U2
    obtain ⟨c3, e3, U3⟩ := clrAll_row g one kept (qh.1 :: L) _ c2 (by rw [← hP]; simp) nd (fun x hx => hk x (List.mem_cons_of_mem _ hx)) U2
    refine ⟨c3, fun z => by rw [e3 z, e2 z], ?_⟩
    rw [e, List.reverse_cons, List.append_assoc]
    exact U3
theorem lft_nil (K : Nat → Nat → α) (r : Nat → α) : lft [] K r = r := funext fun j => by
  unfold lft
  rw [sm_nil]
  grind
theorem KInv.clr {p : Int} {n : Nat} {kept : List (Nat × List Int)} {R : List (Nat → α)} {P : List Nat} {K : Nat → Nat → α} (I : KInv p n kept R P K) (g : Gd p α) {u : List Int} {r : Nat → α} {c : α} (U : Row p n u r c) :
    ∃ c2, (p ≠ 0 → c2 = c) ∧ Row p n (clrAll p kept u) (lft P K r) c2 := by
  have e : (kept.map (·.1)).reverse ++ [] = P := by rw [I.pl, List.reverse_reverse, List.append_nil]
  have := clrAll_row (r := r) g I.st.one kept [] u c e I.st.nd I.row (by rw [lft_nil]; exact U)
  rw [e] at this
  exact this
/-- .. and by the clearing of the first of them -/
theorem KInv.clrPre {p : Int} {n : Nat} {kept k1 : List (Nat × List Int)} {R : List (Nat → α)} {P : List Nat} {K : Nat → Nat → α} (I : KInv p n kept R P K) (g : Gd p α) (hp : k1 <+: kept) {u : List Int} {r : Nat → α} {c : α} (U : Row p n u r c) :
    ∃ c2, (p ≠ 0 → c2 = c) ∧ Row p n (clrAll p k1 u) (lft (k1.map (·.1)).reverse K r) c2 ∧ (∀ q ∈ (k1.map (·.1)).reverse, q ∈ P) ∧ (k1.map (·.1)).reverse.length ≤ P.length := by
  have hs : ∀ q ∈ (k1.map (·.1)).reverse, q ∈ P := fun q hq => by
    have : q ∈ kept.map (·.1) := (hp.map (·.1)).subset (List.mem_reverse.mp hq)
    rw [I.pl] at this
    exact List.mem_reverse.mp this
  have hnd : (k1.map (·.1)).Nodup := (hp.map (·.1)).sublist.nodup (by rw [I.pl]; exact nd_rev I.st.nd)
  have := clrAll_row (r := r) (P := (k1.map (·.1)).reverse) g (fun q hq t ht => I.st.one q (hs q hq) t (hs t ht)) k1 [] u c (List.append_nil _) (nd_rev hnd) (fun x hx => I.row x (hp.subset hx)) (by rw [lft_nil]; exact U)
  rw [List.append_nil] at this
  obtain ⟨c2, e, h⟩ := this
  refine ⟨c2, e, h, hs, ?_⟩
  have := (hp.map (·.1)).length_le
  rw [I.pl] at this
  simpa using this
/-- one row more -/
theorem KInv.step {p : Int} {n : Nat} {kept : List (Nat × List Int)} {R : List (Nat → α)} {P : List Nat} {K : Nat → Nat → α} (I : KInv p n kept R P K) (g : Gd p α) {u : List Int} {r : Nat → α} {c : α} (U : Row p n u r c) :
    (firstNz (clrAll p kept u) = none ∧ stepRow p kept u = kept ∧ Cp P K r) ∨
      ∃ q K', firstNz (clrAll p kept u) = some q ∧ lft P K r q ≠ 0 ∧ KInv p n (stepRow p kept u) (r :: R) (q :: P) K' ∧ ∀ v, (Cp P K v ∨ v = r) → Cp (q :: P) K' v := by
  obtain ⟨c2, _, L⟩ := I.clr g U
  cases e : firstNz (clrAll p kept u) with
  | none =>
    refine .inl ⟨rfl, by unfold stepRow; rw [e], .of_lft fun j => ?_⟩
    have h1 := L.rel j
    rw [firstNz_none e j, ic_zero] at h1
    have := L.nz
    grind
  | some q =>
    obtain ⟨h1, h2, h3⟩ := firstNz_some e
    obtain ⟨vq, c3, e3, X⟩ := L.led g h1
    have np := I.st.notMem vq
    have hx : ∀ j, (fun j => lft P K r j / lft P K r q) j = lft P K r j / lft P K r q := fun _ => rfl
    have S := I.st.step r vq hx
    have x1 : (fun j => lft P K r j / lft P K r q) q = 1 := by
      show lft P K r q / lft P K r q = 1
      grind
    have xt : ∀ t, t < q → (fun j => lft P K r j / lft P K r q) t = 0 := fun t ht => by
      have h4 := L.rel t
      rw [h2 t ht, ic_zero] at h4
      have := L.nz
      show lft P K r t / _ = 0
      have : lft P K r t = 0 := by grind
      rw [this]
      grind
    refine .inr ⟨q, _, rfl, vq, ⟨S, I.ech.step np xt, ?_, fun t ht => ?_, fun qh hqh => ?_⟩, fun v hv => ?_⟩
    · unfold stepRow
      rw [e]
      show ((kept.map (fun qh => (qh.1, UfL.clr p qh.2 (ledO p (clrAll p kept u) q) q)) ++ [(q, ledO p (clrAll p kept u) q)]).map fun x => x.1) = _
      rw [List.map_append, List.map_map, List.reverse_cons, ← I.pl]
      rfl
    · rcases List.mem_cons.mp ht with rfl | ht
      · have := L.len
        omega
      · exact I.lt t ht
    · unfold stepRow at hqh
      rw [e] at hqh
      rcases List.mem_append.mp hqh with hqh | hqh
      · obtain ⟨x, hx, rfl⟩ := List.mem_map.mp hqh
        obtain ⟨c', h5, H⟩ := I.row x hx
        obtain ⟨c4, e4, H'⟩ := H.clr g X x1 e3
        refine ⟨c4, fun z => by rw [e4 z, h5 z], ?_⟩
        have xP : x.1 ∈ P := by
          have : x.1 ∈ kept.map (·.1) := List.mem_map.mpr ⟨x, hx, rfl⟩
          rw [I.pl] at this
          exact List.mem_reverse.mp this
        have ee : (fun j => K x.1 j - K x.1 q * (lft P K r j / lft P K r q)) = nxt K q (fun j => lft P K r j / lft P K r q) x.1 := funext fun j => by
          show _ = if x.1 = q then _ else _
          rw [if_neg fun z => np (by rw [← z]; exact xP)]
        rw [ee] at H'
        exact H'
      · have hqh : qh = (q, ledO p (clrAll p kept u) q) := by simpa using hqh
        rw [hqh]
        refine ⟨c3, e3, ?_⟩
        have ee : (fun j => lft P K r j / lft P K r q) = nxt K q (fun j => lft P K r j / lft P K r q) q := funext fun j => by
          show _ = if q = q then _ else _
          rw [if_pos rfl]
        rw [ee] at X
        exact X
    · rcases hv with hv | rfl
      · exact hv.nxt np
      · exact S.row _ List.mem_cons_self
/-- a list without repeats within another one is no longer -/
theorem nd_le : ∀ {l m : List Nat}, l.Nodup → (∀ x ∈ l, x ∈ m) → l.length ≤ m.length
  | [], _, _, _ => Nat.zero_le _
  | x :: l, m, nd, h => by
    obtain ⟨n1, n2⟩ := List.nodup_cons.mp nd
    have := nd_le (m := m.erase x) n2 fun y hy => (List.mem_erase_of_ne fun z => n1 (by rw [← z]; exact hy)).mpr (h y (List.mem_cons_of_mem _ hy))
    rw [List.length_erase_of_mem (h x List.mem_cons_self)] at this
    have := List.length_pos_of_mem (h x List.mem_cons_self)
    rw [List.length_cons]
    omega
/-- as many leads as places: each place is one -/
theorem KInv.full {p : Int} {n : Nat} {kept : List (Nat × List Int)} {R : List (Nat → α)} {P : List Nat} {K : Nat → Nat → α} (I : KInv p n kept R P K) (g : Gd p α) (h : P.length = n) {v : Nat → α} (hv : ∀ j, n ≤ j → v j = 0) : Cp P K v := fun j => by
  by_cases hj : j < n
  · have : j ∈ P := Classical.byContradiction fun z => by
      have := nd_le (l := j :: P) (m := List.range n) (List.nodup_cons.mpr ⟨z, I.st.nd⟩) fun x hx => by
        rcases List.mem_cons.mp hx with rfl | hx
        · exact List.mem_range.mpr hj
        · exact List.mem_range.mpr (I.lt x hx)
      rw [List.length_cons, List.length_range] at this
      omega
    rw [sm_one I.st.nd this fun q hq => I.st.one q hq j this]
  · rw [hv j (by omega), sm_zero P fun q hq => ?_]
    have : q ∈ kept.map (·.1) := by rw [I.pl]; exact List.mem_reverse.mpr hq
    obtain ⟨x, hx, rfl⟩ := List.mem_map.mp this
    obtain ⟨c, _, H⟩ := I.row x hx
    have e := H.rel j
    rw [List.getD_eq_getElem?_getD, List.getElem?_eq_none (by have := H.len; omega)] at e
    have e : (ic 0 : α) = c * K x.1 j := e
    rw [ic_zero] at e
    have := H.nz
    grind
/-- rows in order -/
inductive RowsAre (p : Int) (n : Nat) : List (List Int) → List (Nat → α) → Prop
  | nil : RowsAre p n [] []
  | cons {u : List Int} {r : Nat → α} {c : α} {us : List (List Int)} {rs : List (Nat → α)} : Row p n u r c → RowsAre p n us rs → RowsAre p n (u :: us) (r :: rs)
theorem Row.far {p : Int} {n : Nat} {u : List Int} {v : Nat → α} {c : α} (U : Row p n u v c) {j : Nat} (hj : n ≤ j) : v j = 0 := by
  have e := U.rel j
  rw [List.getD_eq_getElem?_getD, List.getElem?_eq_none (by have := U.len; omega)] at e
  have e : (ic 0 : α) = c * v j := e
  rw [ic_zero] at e
  have := U.nz
  grind
theorem Sp.cp {R : List (Nat → α)} {P : List Nat} {K : Nat → Nat → α} {v : Nat → α} (h : Sp R v) (hr : ∀ r ∈ R, Cp P K r) : Cp P K v := by
  induction h with
  | zero =>
    exact fun j => by
      rw [sm_comm, sm_zero P fun _ _ => rfl]
  | mem h => exact hr _ h
  | add _ _ h1 h2 => exact fun j => by rw [sm_addl, ← h1 j, ← h2 j]
  | mul c _ h => exact fun j => by rw [sm_mull, ← h j]
theorem RowsAre.far {p : Int} {n : Nat} {us : List (List Int)} {rs : List (Nat → α)} (h : RowsAre p n us rs) : ∀ v ∈ rs, ∀ j, n ≤ j → v j = 0 := by
  induction h with
  | nil => exact nofun
  | cons U _ ih =>
    intro v hv j hj
    rcases List.mem_cons.mp hv with rfl | hv
    · exact U.far hj
    · exact ih v hv j hj
/-- no number is great -/
def Sml (u : List Int) : Prop := ∀ j, (u.getD j 0).natAbs < 2 ^ 3900
/-- a row on its way: n small numbers in their form -/
def OkU (p : Int) (n : Nat) (u : List Int) : Prop := u.length = n ∧ Sml u ∧ ∀ j, Oki p (u.getD j 0)
/-- kept rows: each of n small numbers in their form, not 0 at its own place -/
def OkK (p : Int) (n : Nat) (kept : List (Nat × List Int)) : Prop := (kept.map (·.1)).Nodup ∧ kept.length ≤ n ∧ ∀ qh ∈ kept, qh.1 < n ∧ OkU p n qh.2 ∧ qh.2.getD qh.1 0 ≠ 0
theorem KInv.okK {p : Int} {n : Nat} {kept : List (Nat × List Int)} {R : List (Nat → α)} {P : List Nat} {K : Nat → Nat → α} (I : KInv p n kept R P K) (h : ∀ qh ∈ kept, Sml qh.2) : OkK p n kept := by
  have mem : ∀ qh ∈ kept, qh.1 ∈ P := fun qh hq => by
    have : qh.1 ∈ kept.map (·.1) := List.mem_map.mpr ⟨qh, hq, rfl⟩
    rw [I.pl] at this
    exact List.mem_reverse.mp this
  refine ⟨by rw [I.pl]; exact nd_rev I.st.nd, ?_, fun qh hq => ?_⟩
  · have := nd_le (m := List.range n) I.st.nd fun x hx => List.mem_range.mpr (I.lt x hx)
    rw [List.length_range] at this
    have e := congrArg List.length I.pl
    rw [List.length_map, List.length_reverse] at e
    omega
  · obtain ⟨c, _, H⟩ := I.row qh hq
    refine ⟨I.lt _ (mem qh hq), ⟨H.len, h qh hq, H.ok⟩, fun z => H.nz ?_⟩
    have e := H.rel qh.1
    rw [z, ic_zero, I.st.one _ (mem qh hq) _ (mem qh hq), if_pos rfl] at e
    grind
/-- all that a run makes on its way is small -/
def Good (p : Int) (n : Nat) : List (List Int) → List (Nat × List Int) → Prop
  | [], _ => True
  | u :: us, k => (∀ k1, k1 <+: k → OkU p n (clrAll p k1 u)) ∧ OkK p n (stepRow p k u) ∧ (¬ ((firstNz (clrAll p k u)).isSome ∧ (stepRow p k u).length = n) → Good p n us (stepRow p k u))
/-- the whole run: all rows are told; the fresh ones are of F; all is small -/
theorem run_ok {p : Int} {n : Nat} (g : Gd p α) (F : (Nat → α) → Prop)
    (hb : ∀ (kept : List (Nat × List Int)) (R : List (Nat → α)) (P : List Nat) (K : Nat → Nat → α), KInv p n kept R P K → (∀ r ∈ R, F r) → ∀ qh ∈ kept, Sml qh.2) :
    ∀ {us : List (List Int)} {rs : List (Nat → α)}, RowsAre p n us rs → ∀ {kept : List (Nat × List Int)} {R : List (Nat → α)} {P : List Nat} {K : Nat → Nat → α} {pre : List (Nat → α)}, KInv p n kept R P K → (∀ r ∈ R, F r) → (∀ v ∈ pre, Cp P K v) →
    (∀ a r b, rs = a ++ r :: b → F r ∨ Sp (pre ++ a) r) →
    (∀ (kept : List (Nat × List Int)) (R : List (Nat → α)) (P : List Nat) (K : Nat → Nat → α), KInv p n kept R P K → (∀ r ∈ R, F r) → ∀ r ∈ rs, ∀ u c, Row p n u r c → ∀ k1, k1 <+: kept → Sml (clrAll p k1 u)) →
    Good p n us kept ∧ ∃ R' P' K', KInv p n (runRows p n us kept) R' P' K' ∧ (∀ r ∈ R', F r) ∧ (∀ r ∈ R', r ∈ R ∨ r ∈ rs) ∧ (∀ v, (Cp P K v ∨ v ∈ rs) → Cp P' K' v)
  | _, _, .nil, kept, R, P, K, pre, I, hF, _, _, _ => ⟨trivial, R, P, K, I, hF, fun _ h => .inl h, fun v hv => hv.elim id nofun⟩
  | _, _, .cons (us := us) (u := u) (r := r) (rs := rs) U h, kept, R, P, K, pre, I, hF, hp, hd, hc => by
    have hc' := fun kept R P K I hF v (hv : v ∈ rs) => hc kept R P K I hF v (List.mem_cons_of_mem _ hv)
    have s1 : ∀ k1, k1 <+: kept → OkU p n (clrAll p k1 u) := fun k1 h1 => by
      obtain ⟨c2, _, U2, _⟩ := I.clrPre g h1 U
      exact ⟨U2.len, hc kept R P K I hF r List.mem_cons_self u _ U k1 h1, U2.ok⟩
    have hd' : ∀ a v b, rs = a ++ v :: b → F v ∨ Sp ((pre ++ [r]) ++ a) v := fun a v b e => by
      have := hd (r :: a) v b (by rw [e]; rfl)
      rw [List.append_assoc]
      exact this
    rcases I.step g U with ⟨e1, e2, hr⟩ | ⟨q, K', e1, hq, I2, hk⟩
    · have e3 : runRows p n (u :: us) kept = runRows p n us kept := by
        show (if _ then _ else _) = _
        rw [if_neg fun z => by rw [e1] at z; exact absurd z.1 (by decide), e2]
      obtain ⟨G, R', P', K', I', h0, h1, h2⟩ := run_ok g F hb h (pre := pre ++ [r]) I hF (fun v hv => by
        rcases List.mem_append.mp hv with hv | hv
        · exact hp v hv
        · rw [show v = r by simpa using hv]
          exact hr) hd' hc'
      rw [e3]
      refine ⟨⟨s1, by rw [e2]; exact I.okK (hb kept R P K I hF), fun _ => by rw [e2]; exact G⟩, R', P', K', I', h0, fun v hv => (h1 v hv).imp id (List.mem_cons_of_mem _), fun v hv => h2 v ?_⟩
      rcases hv with hv | hv
      · exact .inl hv
      · rcases List.mem_cons.mp hv with rfl | hv
        · exact .inl hr
        · exact .inr hv
    · have Fr : F r := by
        rcases hd [] r rs rfl with h | h
        · exact h
        · exact (hq ((h.cp fun v hv => hp v (by simpa using hv)).lft q)).elim
      have hF2 : ∀ v ∈ r :: R, F v := fun v hv => by
        rcases List.mem_cons.mp hv with rfl | hv
        · exact Fr
        · exact hF v hv
      have s2 := I2.okK (hb _ _ _ _ I2 hF2)
      by_cases hl : (stepRow p kept u).length = n
      · have st : (firstNz (clrAll p kept u)).isSome ∧ (stepRow p kept u).length = n := ⟨by rw [e1]; rfl, hl⟩
        have e3 : runRows p n (u :: us) kept = stepRow p kept u := by
          show (if _ then _ else _) = _
          rw [if_pos st]
        rw [e3]
        have hPl : (q :: P).length = n := by
          have := congrArg List.length I2.pl
          rw [List.length_map, List.length_reverse] at this
          omega
        refine ⟨⟨s1, s2, fun z => (z st).elim⟩, _, _, _, I2, hF2, fun v hv => ?_, fun v hv => ?_⟩
        · rcases List.mem_cons.mp hv with rfl | hv
          · exact .inr List.mem_cons_self
          · exact .inl hv
        · rcases hv with hv | hv
          · exact hk v (.inl hv)
          · exact I2.full g hPl (RowsAre.far (.cons U h) v hv)
      · have e3 : runRows p n (u :: us) kept = runRows p n us (stepRow p kept u) := by
          show (if _ then _ else _) = _
          rw [if_neg fun z => hl z.2]
        obtain ⟨G, R', P', K', I', h0, h1, h2⟩ := run_ok g F hb h (pre := pre ++ [r]) I2 hF2 (fun v hv => by
          rcases List.mem_append.mp hv with hv | hv
          · exact hk v (.inl (hp v hv))
          · exact hk v (.inr (by simpa using hv))) hd' hc'
        rw [e3]
        refine ⟨⟨s1, s2, fun _ => G⟩, R', P', K', I', h0, fun v hv => ?_, fun v hv => ?_⟩
        · rcases h1 v hv with h3 | h3
          · rcases List.mem_cons.mp h3 with rfl | h3
            · exact .inr List.mem_cons_self
            · exact .inl h3
          · exact .inr (List.mem_cons_of_mem _ h3)
        · rcases hv with hv | hv
          · exact h2 v (.inl (hk v (.inl hv)))
          · rcases List.mem_cons.mp hv with rfl | hv
            · exact h2 _ (.inl (hk _ (.inr rfl)))
            · exact h2 v (.inr hv)
end
/-! ### smallness over the fractions -/
theorem small_of_row {n : Nat} {u : List Int} {v : Nat → Rat} {c : Rat} (U : Row 0 n u v c) {t : Rat} (ht : t ≠ 0) {N : Nat → Int} (hN : ∀ j, (N j : Rat) = t * v j) (j : Nat) : (u.getD j 0).natAbs ≤ (N j).natAbs := by
  by_cases h : gcdL u = 1
  · exact prim_le h U.nz ht (fun j => U.rel j) hN j
  · have h0 : gcdL u = 0 := by
      have := U.prim rfl
      unfold Prim at this
      omega
    rw [gcdL_zero h0]
    exact Nat.zero_le _
theorem small_runs {n m B C' W W0 : Nat} {w : Nat → Nat} {kept : List (Nat × List Int)} {R : List (Nat → Int)} {P : List Nat} {K : Nat → Nat → Rat} (I : KInv 0 n kept (R.map cst) P K) (w1 : ∀ q, 1 ≤ w q) (wW : ∀ q, w q ≤ W) (hP : pw w P ≤ W0) (hm : P.length + 1 ≤ m)
    (hR : ∀ r ∈ R, ∀ q, (r q).natAbs ≤ B * w q) (C1 : 1 ≤ C') (big : m * (C' * W * ((m * B) ^ P.length * W0 * W)) < 2 ^ 3900) :
    (∀ qh ∈ kept, Sml qh.2) ∧ ∀ (r : Nat → Int) (u : List Int) (c : Rat), (∀ q, (r q).natAbs ≤ C' * w q) → Row 0 n u (cst r) c → ∀ k1, k1 <+: kept → Sml (clrAll 0 k1 u) := by
  obtain ⟨D, D0, Db, hN⟩ := I.st.bound w1 hP hm hR
  have W1 : 1 ≤ W := Nat.le_trans (w1 0) (wW 0)
  have lenR : R.length = P.length := by
    have := I.st.len
    rw [List.length_map] at this
    exact this
  rw [lenR] at Db hN
  have D0' : (D : Rat) ≠ 0 := fun z => D0 (by exact_mod_cast z)
  have g : Gd 0 Rat := ⟨Int.le_refl _, fun x _ h => by
    have h : (x : Rat) = 0 := h
    exact_mod_cast h, fun h => (h rfl).elim, fun h => (h rfl).elim⟩
  have pl : ∀ q ∈ kept.map (·.1), q ∈ P := fun q hq => by
    rw [I.pl] at hq
    exact List.mem_reverse.mp hq
  refine ⟨fun qh hqh j => ?_, fun r u c hr U k1 hk1 j => ?_⟩
  · obtain ⟨c, _, H⟩ := I.row qh hqh
    have hq := pl qh.1 (List.mem_map.mpr ⟨qh, hqh, rfl⟩)
    have h := small_of_row H D0' (N := fun j => Classical.choose (hN qh.1 hq j)) (fun j => (Classical.choose_spec (hN qh.1 hq j)).1) j
    have h2 := (Classical.choose_spec (hN qh.1 hq j)).2
    refine Nat.lt_of_le_of_lt (Nat.le_trans h h2) (Nat.lt_of_le_of_lt ?_ big)
    calc (m * B) ^ P.length * W0 * w j ≤ (m * B) ^ P.length * W0 * W := Nat.mul_le_mul_left _ (wW j)
      _ ≤ (m * (C' * W)) * ((m * B) ^ P.length * W0 * W) := Nat.le_mul_of_pos_left _ (Nat.mul_pos (by omega) (Nat.mul_pos C1 W1))
      _ = _ := by ac_rfl
  · obtain ⟨c2, _, U2, hs, hlen⟩ := I.clrPre g hk1 U
    have key := fun j => left_int (K := K) (D := D) (r := r) (C := 0) (C' := C' * W) (W := w j) (M := (m * B) ^ P.length * W0) (k1.map (·.1)).reverse j Db (Nat.le_trans (hr j) (by
      calc C' * w j ≤ C' * W * w j := Nat.mul_le_mul_right _ (Nat.le_mul_of_pos_right _ W1)
        _ = _ := rfl)) (fun q hq => hN q (hs q hq) j) (fun q hq => Nat.le_trans (hr q) (Nat.mul_le_mul_left _ (wW q)))
    have h := small_of_row U2 D0' (N := fun j => Classical.choose (key j)) (fun j => (Classical.choose_spec (key j)).1) j
    have h2 := (Classical.choose_spec (key j)).2
    refine Nat.lt_of_le_of_lt (Nat.le_trans h h2) (Nat.lt_of_le_of_lt ?_ big)
    refine Nat.mul_le_mul (by omega) (Nat.mul_le_mul_left _ (Nat.mul_le_mul_left _ (wW j)))
end UfL

/-! # The law's numbers (pairs in their one form), its rows, its elimination -/
namespace UfL
abbrev LP := Int × Int
/-- the one form of num/den in a ground -/
def lowP (p n d : Int) : LP := if p = 0 then ((Rat.divInt n d).num, ((Rat.divInt n d).den : Int)) else ((n * (d ^ (p - 2).toNat).fmod p).fmod p, 1)
def plusP (p : Int) (a b : LP) : LP := lowP p (a.1 * b.2 + b.1 * a.2) (a.2 * b.2)
def timesP (p : Int) (a b : LP) : LP := lowP p (a.1 * b.1) (a.2 * b.2)
/-- in the one form -/
def Can (p : Int) (x : LP) : Prop := if p = 0 then ∃ q : Rat, x = (q.num, (q.den : Int)) else x.2 = 1 ∧ 0 ≤ x.1 ∧ x.1 < p
def at0 (u : List LP) (j : Nat) : LP := u.getD j (0, 1)
def lessP (p : Int) (u l : List LP) (q : Nat) : List LP :=
  if (lowP p (-(at0 u q).1) (at0 u q).2).1 = 0 then u else (List.range u.length).map fun k => plusP p (at0 u k) (timesP p (lowP p (-(at0 u q).1) (at0 u q).2) (at0 l k))
def lessAll (p : Int) (ls : List (Nat × List LP)) (u : List LP) : List LP := ls.foldl (fun u l => lessP p u l.2 l.1) u
/-- the first place of a number that is not 0 -/
def firstP (u : List LP) : Option Nat := ((List.range u.length).filter fun k => (at0 u k).1 != 0).head?
def leadP (p : Int) (ls : List (Nat × List LP)) (u : List LP) : List (Nat × List LP) := match firstP (lessAll p ls u) with
  | none => ls
  | some q => ls ++ [(q, (lessAll p ls u).map fun x => timesP p x (lowP p (at0 (lessAll p ls u) q).2 (at0 (lessAll p ls u) q).1))]
def leadsP (p : Int) (rows : List (List LP)) : List (Nat × List LP) := rows.foldl (leadP p) []
def withinP (p : Int) (ls : List (Nat × List LP)) (u : List LP) : Bool := (lessAll p ls u).all fun x => x.1 == 0
def dotFrom (p : Int) (t : LP) : List LP → List LP → LP
  | a :: as, b :: bs => dotFrom p (plusP p t (timesP p a b)) as bs
  | _, _ => t
def dotP (p : Int) (a b : List LP) : LP := dotFrom p (0, 1) a b
section
variable {α : Type} [Lean.Grind.Field α]
def val (x : LP) : α := ic x.1 / ic x.2
theorem can_nz {p : Int} {x : LP} (g : Gd p α) (h : Can p x) : (ic x.2 : α) ≠ 0 := by
  unfold Can at h
  split at h
  · rename_i hp
    obtain ⟨q, rfl⟩ := h
    intro z
    have := g.inj _ (.inl hp) z
    have := q.den_nz
    omega
  · rw [h.1, ic_one]
    exact fun z => Lean.Grind.Field.zero_ne_one z.symm
theorem ic_divInt {p n d : Int} (g : Gd p α) (hp : p = 0) (hd : d ≠ 0) : (ic (Rat.divInt n d).num : α) / ic ((Rat.divInt n d).den : Int) = ic n / ic d := by
  have key : (Rat.divInt n d).num * d = n * ((Rat.divInt n d).den : Int) := by
    have h := Rat.num_divInt_den (Rat.divInt n d)
    exact (Rat.divInt_eq_divInt_iff (by have := (Rat.divInt n d).den_nz; omega) hd).mp h
  have k2 : (ic (Rat.divInt n d).num : α) * ic d = ic n * ic ((Rat.divInt n d).den : Int) := by rw [← ic_mul, ← ic_mul, key]
  have z1 : (ic d : α) ≠ 0 := fun z => hd (g.inj _ (.inl hp) z)
  have z2 : (ic ((Rat.divInt n d).den : Int) : α) ≠ 0 := fun z => by
    have := g.inj _ (.inl hp) z
    have := (Rat.divInt n d).den_nz
    omega
  grind
theorem ic_ne {p d : Int} (g : Gd p α) (hp : p = 0) (h : (ic d : α) ≠ 0) : d ≠ 0 := fun z => h (by rw [z, ic_zero])
theorem low_can {p : Int} (g : Gd p α) (n d : Int) : Can p (lowP p n d) := by
  unfold lowP Can
  by_cases hp : p = 0
  · rw [if_pos hp, if_pos hp]
    exact ⟨_, rfl⟩
  · rw [if_neg hp, if_neg hp]
    have := g.p0
    exact ⟨rfl, Int.fmod_nonneg_of_pos _ (by omega), Int.fmod_lt_of_pos _ (by omega)⟩
theorem low_val {p : Int} (g : Gd p α) {n d : Int} (hd : (ic d : α) ≠ 0) : (val (lowP p n d) : α) = ic n / ic d := by
  unfold lowP val
  by_cases hp : p = 0
  · rw [if_pos hp]
    exact ic_divInt g hp (ic_ne g hp hd)
  · rw [if_neg hp]
    show (ic _ : α) / ic 1 = _
    rw [g.md hp, ic_mul, g.md hp, ic_one]
    have := g.inv hp d hd
    grind
theorem can_inj {p : Int} (g : Gd p α) {x y : LP} (hx : Can p x) (hy : Can p y) (h : (val x : α) = val y) : x = y := by
  have nx := can_nz g hx
  have ny := can_nz g hy
  unfold val at h
  have e : (ic (x.1 * y.2) : α) = ic (y.1 * x.2) := by
    rw [ic_mul, ic_mul]
    grind
  by_cases hp : p = 0
  · have e2 : x.1 * y.2 - y.1 * x.2 = 0 := g.inj _ (.inl hp) (by rw [ic_sub, e]; grind)
    unfold Can at hx hy
    rw [if_pos hp] at hx hy
    obtain ⟨a, rfl⟩ := hx
    obtain ⟨b, rfl⟩ := hy
    have : a = b := by
      rw [← Rat.num_divInt_den a, ← Rat.num_divInt_den b]
      have h1 := a.den_nz
      have h2 := b.den_nz
      exact (Rat.divInt_eq_divInt_iff (by omega) (by omega)).mpr (by simp only at e2; omega)
    rw [this]
  · unfold Can at hx hy
    rw [if_neg hp] at hx hy
    obtain ⟨x1, x2⟩ := x
    obtain ⟨y1, y2⟩ := y
    obtain ⟨rfl, hx0, hxp⟩ := hx
    obtain ⟨rfl, hy0, hyp⟩ := hy
    simp only [Int.mul_one] at e hx0 hxp hy0 hyp
    have : x1 = y1 := by
      rcases Int.le_total x1 y1 with l | l
      · have := g.inj (y1 - x1) (.inr ⟨by omega, by omega⟩) (by rw [ic_sub, e]; grind)
        omega
      · have := g.inj (x1 - y1) (.inr ⟨by omega, by omega⟩) (by rw [ic_sub, e]; grind)
        omega
    rw [this]
theorem zero_can {p : Int} (g : Gd p α) : Can p (0, 1) := by
  unfold Can
  by_cases hp : p = 0
  · rw [if_pos hp]
    exact ⟨0, rfl⟩
  · rw [if_neg hp]
    have := g.p0
    exact ⟨rfl, by simp, by simp; omega⟩
theorem val_zero : (val (0, 1) : α) = 0 := by
  unfold val
  rw [ic_zero, ic_one]
  grind
theorem val_eq_zero {p : Int} (g : Gd p α) {x : LP} (h : Can p x) : (val x : α) = 0 ↔ x.1 = 0 := by
  constructor
  · intro e
    have := can_inj g h (zero_can g) (by rw [e, val_zero])
    rw [this]
  · intro e
    unfold val
    rw [e, ic_zero]
    grind
theorem plus_can {p : Int} (g : Gd p α) (a b : LP) : Can p (plusP p a b) := low_can g _ _
theorem times_can {p : Int} (g : Gd p α) (a b : LP) : Can p (timesP p a b) := low_can g _ _
theorem plus_val {p : Int} (g : Gd p α) {a b : LP} (ha : Can p a) (hb : Can p b) : (val (plusP p a b) : α) = val a + val b := by
  have na := can_nz g ha
  have nb := can_nz g hb
  unfold plusP
  rw [low_val g (by rw [ic_mul]; grind), ic_add, ic_mul, ic_mul, ic_mul]
  unfold val
  grind
theorem times_val {p : Int} (g : Gd p α) {a b : LP} (ha : Can p a) (hb : Can p b) : (val (timesP p a b) : α) = val a * val b := by
  have na := can_nz g ha
  have nb := can_nz g hb
  unfold timesP
  rw [low_val g (by rw [ic_mul]; grind), ic_mul, ic_mul]
  unfold val
  grind
/-- a row of the law: n numbers in their forms, that tell v -/
structure RowP (p : Int) (n : Nat) (u : List LP) (v : Nat → α) : Prop where
  len : u.length = n
  can : ∀ x ∈ u, Can p x
  val : ∀ j, val (at0 u j) = v j
theorem at0_can {p : Int} (g : Gd p α) {u : List LP} (h : ∀ x ∈ u, Can p x) (j : Nat) : Can p (at0 u j) := by
  unfold at0
  rw [List.getD_eq_getElem?_getD]
  cases e : u[j]? with
  | none => exact zero_can g
  | some x => exact h x (List.mem_of_getElem? e)
theorem at0_map {f : LP → LP} (h0 : f (0, 1) = (0, 1)) (u : List LP) (j : Nat) : at0 (u.map f) j = f (at0 u j) := by
  unfold at0
  rw [List.getD_eq_getElem?_getD, List.getD_eq_getElem?_getD, List.getElem?_map]
  cases u[j]? with
  | none => exact h0.symm
  | some x => rfl
theorem at0_range {f : Nat → LP} {n j : Nat} (h : j < n) : at0 ((List.range n).map f) j = f j := by
  unfold at0
  rw [List.getD_eq_getElem?_getD, List.getElem?_map, List.getElem?_range h]
  rfl
theorem at0_far {u : List LP} {j : Nat} (h : u.length ≤ j) : at0 u j = (0, 1) := by
  unfold at0
  rw [List.getD_eq_getElem?_getD, List.getElem?_eq_none h]
  rfl
theorem RowP.far {p : Int} {n : Nat} {u : List LP} {v : Nat → α} (U : RowP p n u v) {j : Nat} (h : n ≤ j) : v j = 0 := by
  rw [← U.val, at0_far (by rw [U.len]; exact h), val_zero]
theorem RowP.less {p : Int} {n : Nat} {u l : List LP} {v x : Nat → α} (g : Gd p α) (U : RowP p n u v) (L : RowP p n l x) (q : Nat) : RowP p n (lessP p u l q) (fun j => v j - v q * x j) := by
  have cq := at0_can g U.can q
  have sv : (UfL.val (lowP p (-(at0 u q).1) (at0 u q).2) : α) = - v q := by
    rw [low_val g (can_nz g cq), ic_neg, ← U.val q]
    unfold UfL.val
    grind
  have sc := low_can (p := p) g (-(at0 u q).1) (at0 u q).2
  unfold lessP
  split
  · rename_i z
    have := (val_eq_zero g sc).mpr z
    exact ⟨U.len, U.can, fun j => by rw [U.val]; grind⟩
  · refine ⟨by rw [List.length_map, List.length_range, U.len], fun y hy => ?_, fun j => ?_⟩
    · obtain ⟨k, _, rfl⟩ := List.mem_map.mp hy
      exact plus_can g _ _
    · by_cases hj : j < u.length
      · rw [at0_range hj, plus_val g (at0_can g U.can j) (times_can g _ _), times_val g sc (at0_can g L.can j), sv, U.val, L.val]
        grind
      · rw [at0_far (by rw [List.length_map, List.length_range]; omega), val_zero, U.far (by have := U.len; omega), L.far (by have := U.len; omega)]
        grind
/-- leads with their states: the reduced rows K of the fresh rows R -/
inductive Chain (p : Int) (n : Nat) : List (Nat × List LP) → List (Nat → α) → List Nat → (Nat → Nat → α) → Prop
  | nil {K : Nat → Nat → α} : Chain p n [] [] [] K
  | snoc {ls : List (Nat × List LP)} {R : List (Nat → α)} {P : List Nat} {K : Nat → Nat → α} {r x : Nat → α} {q : Nat} {l : List LP} : Chain p n ls R P K → lft P K r q ≠ 0 → (∀ j, x j = lft P K r j / lft P K r q) → RowP p n l x → q < n → Chain p n (ls ++ [(q, l)]) (r :: R) (q :: P) (nxt K q x)
theorem Chain.st {p : Int} {n : Nat} {ls : List (Nat × List LP)} {R : List (Nat → α)} {P : List Nat} {K : Nat → Nat → α} (h : Chain p n ls R P K) : St R P K := by
  induction h with
  | nil => exact .nil
  | snoc _ hq hx _ _ ih => exact ih.step _ hq hx
theorem Chain.lt {p : Int} {n : Nat} {ls : List (Nat × List LP)} {R : List (Nat → α)} {P : List Nat} {K : Nat → Nat → α} (h : Chain p n ls R P K) : ∀ q ∈ P, q < n := by
  induction h with
  | nil => exact nofun
  | snoc _ _ _ _ hn ih =>
    intro t ht
    rcases List.mem_cons.mp ht with rfl | ht
    · exact hn
    · exact ih t ht
theorem Chain.less {p : Int} {n : Nat} (g : Gd p α) {ls : List (Nat × List LP)} {R : List (Nat → α)} {P : List Nat} {K : Nat → Nat → α} (h : Chain p n ls R P K) {u : List LP} {r : Nat → α} (U : RowP p n u r) : RowP p n (lessAll p ls u) (lft P K r) := by
  induction h with
  | nil =>
    rw [lft_nil]
    exact U
  | @snoc ls R P K r' x q l h hq hx L hn ih =>
    have np := h.st.notMem hq
    have e : lessAll p (ls ++ [(q, l)]) u = lessP p (lessAll p ls u) l q := by
      unfold lessAll
      rw [List.foldl_append]
      rfl
    rw [e]
    have := ih.less g L q
    rw [show (fun j => lft P K r j - lft P K r q * x j) = lft (q :: P) (nxt K q x) r from funext fun j => (lft_nxt np r j).symm] at this
    exact this
theorem firstP_none {u : List LP} (h : firstP u = none) (j : Nat) : (at0 u j).1 = 0 := by
  by_cases hj : j < u.length
  · refine Classical.byContradiction fun z => ?_
    have : j ∈ (List.range u.length).filter fun k => (at0 u k).1 != 0 := List.mem_filter.mpr ⟨List.mem_range.mpr hj, by simp [z]⟩
    unfold firstP at h
    rw [List.head?_eq_none_iff] at h
    rw [h] at this
    cases this
  · rw [at0_far (by omega)]
theorem firstP_some {u : List LP} {q : Nat} (h : firstP u = some q) : q < u.length ∧ (at0 u q).1 ≠ 0 := by
  have := List.mem_of_mem_head? h
  obtain ⟨h1, h2⟩ := List.mem_filter.mp this
  exact ⟨List.mem_range.mp h1, by simpa using h2⟩
theorem RowP.nz {p : Int} {n : Nat} {u : List LP} {v : Nat → α} (g : Gd p α) (U : RowP p n u v) (j : Nat) : v j = 0 ↔ (at0 u j).1 = 0 := by
  rw [← U.val]
  exact val_eq_zero g (at0_can g U.can j)
/-- one row more -/
theorem Chain.lead {p : Int} {n : Nat} (g : Gd p α) {ls : List (Nat × List LP)} {R : List (Nat → α)} {P : List Nat} {K : Nat → Nat → α} (h : Chain p n ls R P K) {u : List LP} {r : Nat → α} (U : RowP p n u r) :
    (firstP (lessAll p ls u) = none ∧ leadP p ls u = ls ∧ Cp P K r) ∨ ∃ q x l, firstP (lessAll p ls u) = some q ∧ leadP p ls u = ls ++ [(q, l)] ∧ Chain p n (ls ++ [(q, l)]) (r :: R) (q :: P) (nxt K q x) ∧ RowP p n l x ∧ lft P K r q ≠ 0 ∧ (∀ j, x j = lft P K r j / lft P K r q) ∧ l = (lessAll p ls u).map (fun y => timesP p y (lowP p (at0 (lessAll p ls u) q).2 (at0 (lessAll p ls u) q).1)) := by
  have L := h.less g U
  cases e : firstP (lessAll p ls u) with
  | none => exact .inl ⟨rfl, by unfold leadP; rw [e], .of_lft fun j => (L.nz g j).mpr (firstP_none e j)⟩
  | some q =>
    obtain ⟨h1, h2⟩ := firstP_some e
    have hq : lft P K r q ≠ 0 := fun z => h2 ((L.nz g q).mp z)
    have cq := at0_can g L.can q
    have n1 : (ic (at0 (lessAll p ls u) q).1 : α) ≠ 0 := fun z => hq (by rw [← L.val q]; unfold UfL.val; rw [z]; grind)
    have n2 := can_nz g cq
    have tv : (UfL.val (lowP p (at0 (lessAll p ls u) q).2 (at0 (lessAll p ls u) q).1) : α) = 1 / lft P K r q := by
      rw [low_val g n1, ← L.val q]
      unfold UfL.val
      grind
    have tc := low_can (p := p) g (at0 (lessAll p ls u) q).2 (at0 (lessAll p ls u) q).1
    have z0 : timesP p (0, 1) (lowP p (at0 (lessAll p ls u) q).2 (at0 (lessAll p ls u) q).1) = (0, 1) := can_inj g (times_can g _ _) (zero_can g) (by rw [times_val g (zero_can g) tc, val_zero]; grind)
    have X : RowP p n ((lessAll p ls u).map (fun y => timesP p y (lowP p (at0 (lessAll p ls u) q).2 (at0 (lessAll p ls u) q).1))) (fun j => lft P K r j / lft P K r q) := ⟨by rw [List.length_map, L.len], fun y hy => by
        obtain ⟨k, _, rfl⟩ := List.mem_map.mp hy
        exact times_can g _ _, fun j => by
        rw [at0_map z0, times_val g (at0_can g L.can j) tc, tv, L.val]
        grind⟩
    refine .inr ⟨q, _, _, rfl, by unfold leadP; rw [e], .snoc h hq (fun _ => rfl) X (by have := L.len; omega), X, hq, fun _ => rfl, rfl⟩
/-- the sum of products tells the sum of products -/
theorem dotFrom_ok {p : Int} (g : Gd p α) : ∀ (a b : List LP) (t : LP), Can p t → (∀ x ∈ a, Can p x) → (∀ x ∈ b, Can p x) → Can p (dotFrom p t a b) ∧ (val (dotFrom p t a b) : α) = val t + dot (a.map val) (b.map val)
  | [], _, t, ht, _, _ => ⟨ht, by show val t = val t + 0; grind⟩
  | _ :: _, [], t, ht, _, _ => ⟨ht, by show val t = val t + 0; grind⟩
  | x :: a, y :: b, t, ht, ha, hb => by
    have cx := ha x List.mem_cons_self
    have cy := hb y List.mem_cons_self
    obtain ⟨h1, h2⟩ := dotFrom_ok g a b (plusP p t (timesP p x y)) (plus_can g _ _) (fun z hz => ha z (List.mem_cons_of_mem _ hz)) (fun z hz => hb z (List.mem_cons_of_mem _ hz))
    refine ⟨h1, ?_⟩
    show val (dotFrom p (plusP p t (timesP p x y)) a b) = val t + (val x * val y + dot (a.map val) (b.map val))
    rw [h2, plus_val g ht (times_can g _ _), times_val g cx cy]
    grind
end
end UfL

/-! # The field of a small prime -/
namespace UfL
structure PF (p : Nat) [NeZero p] : Prop where
  inv : ∀ a : Fin p, a ≠ 0 → a * a ^ (p - 2) = 1
  one : (0 : Fin p) ≠ 1
def finv {p : Nat} [NeZero p] (a : Fin p) : Fin p := if a = 0 then 0 else a ^ (p - 2)
def fzp {p : Nat} [NeZero p] (a : Fin p) : Int → Fin p
  | .ofNat n => a ^ n
  | .negSucc n => finv (a ^ (n + 1))
theorem finv_inv {p : Nat} [NeZero p] (h : PF p) (a : Fin p) : finv (finv a) = a := by
  by_cases z : a = 0
  · unfold finv
    rw [if_pos z, if_pos rfl, z]
  · have e : finv a = a ^ (p - 2) := if_neg z
    have h1 := h.inv a z
    have nz : a ^ (p - 2) ≠ 0 := fun y => by
      rw [y, Lean.Grind.Semiring.mul_zero] at h1
      exact h.one h1
    have h2 := h.inv _ nz
    have e2 : finv (finv a) = (a ^ (p - 2)) ^ (p - 2) := by
      rw [e]
      exact if_neg nz
    rw [e2]
    grind
abbrev fieldFin {p : Nat} [NeZero p] (h : PF p) : Lean.Grind.Field (Fin p) :=
  { (inferInstance : Lean.Grind.CommRing (Fin p)) with
    inv := finv
    div := fun a b => a * finv b
    zpow := ⟨fzp⟩
    div_eq_mul_inv := fun _ _ => rfl
    zero_ne_one := h.one
    inv_zero := if_pos rfl
    mul_inv_cancel := fun {a} ha => by
      show a * finv a = 1
      unfold finv
      rw [if_neg ha]
      exact h.inv a ha
    zpow_zero := fun a => Lean.Grind.Semiring.pow_zero a
    zpow_succ := fun a n => Lean.Grind.Semiring.pow_succ a n
    zpow_neg := fun a n => by
      show fzp a (-n) = finv (fzp a n)
      match n with
      | .ofNat 0 =>
        show a ^ 0 = finv (a ^ 0)
        rw [Lean.Grind.Semiring.pow_zero]
        have h1 := h.inv 1 (Ne.symm h.one)
        unfold finv
        rw [if_neg (Ne.symm h.one)]
        grind
      | .ofNat (n + 1) => rfl
      | .negSucc n => exact (finv_inv h _).symm }
/-- the field of the ground p -/
theorem gdFin {p : Nat} [NeZero p] (h : PF p) : @Gd (p : Int) (Fin p) (fieldFin h) := by
  letI := fieldFin h
  have icn : ∀ n : Nat, (ic (n : Int) : Fin p) = Fin.ofNat p n := fun n => rfl
  have pw : ∀ (x : Int) (k : Nat), (ic (x ^ k) : Fin p) = (ic x : Fin p) ^ k := fun x k => by
    induction k with
    | zero =>
      rw [Int.pow_zero, ic_one, Lean.Grind.Semiring.pow_zero]
      try rfl
    | succ k ih =>
      rw [Int.pow_succ, ic_mul, ih, Lean.Grind.Semiring.pow_succ]
      try rfl
  have p0 : 0 < p := Nat.pos_of_ne_zero (NeZero.ne p)
  refine ⟨by omega, fun x hx h0 => ?_, fun _ x => ?_, fun _ x hx => ?_⟩
  · rcases hx with hx | ⟨h1, h2⟩
    · omega
    · obtain ⟨n, rfl⟩ : ∃ n : Nat, x = n := ⟨x.toNat, by omega⟩
      rw [icn] at h0
      have e := congrArg Fin.val h0
      have e : n % p = 0 % p := e
      rw [Nat.zero_mod, Nat.mod_eq_of_lt (by omega)] at e
      omega
  · have e := Int.mul_fdiv_add_fmod x p
    have pz : (ic (p : Int) : Fin p) = 0 := by
      rw [icn]
      refine Fin.ext ?_
      show p % p = 0 % p
      rw [Nat.mod_self, Nat.zero_mod]
    have : (ic x : Fin p) = ic ((p : Int) * x.fdiv p + x.fmod p) := by rw [e]
    rw [this, ic_add, ic_mul, pz]
    have h1 : (0 : Fin p) * ic (x.fdiv p) + ic (x.fmod p) = ic (x.fmod p) := by grind
    exact h1.symm
  · have e2 : ((p : Int) - 2).toNat = p - 2 := by omega
    have := h.inv _ hx
    rw [e2, pw]
    exact (Lean.Grind.CommSemiring.mul_comm _ _).trans this
theorem pf2 : PF 2 := ⟨by decide, by decide⟩
theorem pf3 : PF 3 := ⟨by decide, by decide⟩
theorem pf5 : PF 5 := ⟨by decide, by decide⟩
theorem pf7 : PF 7 := ⟨by decide, by decide⟩
theorem pf11 : PF 11 := ⟨by decide +kernel, by decide⟩
theorem pf13 : PF 13 := ⟨by decide +kernel, by decide⟩
theorem pf17 : PF 17 := ⟨by decide +kernel, by decide⟩
theorem pf19 : PF 19 := ⟨by decide +kernel, by decide⟩
theorem pf23 : PF 23 := ⟨by decide +kernel, by decide⟩
theorem pf29 : PF 29 := ⟨by decide +kernel, by decide⟩
theorem pf31 : PF 31 := ⟨by decide +kernel, by decide⟩
theorem gdRat : Gd 0 Rat := ⟨Int.le_refl _, fun x _ h => by
    have h : (x : Rat) = 0 := h
    exact_mod_cast h, fun h => (h rfl).elim, fun h => (h rfl).elim⟩
/-- each ground has a field -/
theorem field_of {p : Int} (h : p = 0 ∨ p ∈ ([2, 3, 5, 7, 11, 13, 17, 19, 23, 29, 31] : List Int)) : ∃ (α : Type) (_ : Lean.Grind.Field α), Gd p α := by
  rcases h with rfl | h
  · exact ⟨Rat, inferInstance, gdRat⟩
  · simp only [List.mem_cons, List.mem_nil_iff, or_false] at h
    rcases h with rfl | rfl | rfl | rfl | rfl | rfl | rfl | rfl | rfl | rfl | rfl
    · exact ⟨_, _, gdFin pf2⟩
    · exact ⟨_, _, gdFin pf3⟩
    · exact ⟨_, _, gdFin pf5⟩
    · exact ⟨_, _, gdFin pf7⟩
    · exact ⟨_, _, gdFin pf11⟩
    · exact ⟨_, _, gdFin pf13⟩
    · exact ⟨_, _, gdFin pf17⟩
    · exact ⟨_, _, gdFin pf19⟩
    · exact ⟨_, _, gdFin pf23⟩
    · exact ⟨_, _, gdFin pf29⟩
    · exact ⟨_, _, gdFin pf31⟩
end UfL

/-! # law_k06: the text -/
namespace K06
open PySem PySem.Spec PyProof.Rows L2 UfG UfT UfR UfO
open Evl (Ex)
def top (i : Nat) : Stmt := PySem.Challenge.pw_unmovedforms_k06_solved_or_barred.main.body.getD i (.Pass ⟨0, 0, 0, 0⟩)
abbrev i_whole : Stmt := inClass (top 5) 0
abbrev i_prime : Stmt := inClass (top 6) 0
abbrev i_sizes : Stmt := inClass (top 8) 0
abbrev s_f_init : Stmt := inClass (top 11) 0
abbrev s_f_add : Stmt := inClass (top 11) 1
abbrev s_f_radd : Stmt := inClass (top 11) 2
abbrev s_f_sub : Stmt := inClass (top 11) 3
abbrev s_f_rsub : Stmt := inClass (top 11) 4
abbrev s_f_mul : Stmt := inClass (top 11) 5
abbrev s_f_rmul : Stmt := inClass (top 11) 6
abbrev s_f_neg : Stmt := inClass (top 11) 7
abbrev s_f_eq : Stmt := inClass (top 11) 8
abbrev s_g_init : Stmt := inClass (top 17) 0
abbrev s_ratio : Stmt := top 12
abbrev s_divided : Stmt := top 13
abbrev s_pieces : Stmt := top 14
abbrev s_in_form : Stmt := top 18
abbrev s_plain_sum : Stmt := top 19
abbrev s_plain_times : Stmt := top 20
abbrev s_plain_over : Stmt := top 21
abbrev s_plain_power : Stmt := top 22
abbrev s_first_place : Stmt := top 24
abbrev s_whole : Stmt := top 25
abbrev s_reduced : Stmt := top 26
abbrev s_kernel : Stmt := top 27
abbrev s_times_whole : Stmt := top 28
abbrev s_primitive : Stmt := top 29
abbrev s_cleared : Stmt := top 30
abbrev s_led : Stmt := top 31
abbrev s_finished : Stmt := top 32
abbrev s_dot_product : Stmt := top 34
abbrev s_solved : Stmt := top 36
abbrev s_barring : Stmt := top 37
abbrev s_pool : Stmt := top 39
abbrev s_draw : Stmt := top 40
abbrev s_gcd : Stmt := top 41
abbrev s_low : Stmt := top 42
abbrev s_plus : Stmt := top 43
abbrev s_times : Stmt := top 44
abbrev s_int_ : Stmt := top 45
abbrev s_hand : Stmt := top 46
abbrev s_ask : Stmt := top 47
abbrev s_read : Stmt := top 48
abbrev s_less : Stmt := top 49
abbrev s_leads : Stmt := top 50
abbrev s_within : Stmt := top 51
abbrev s_dot : Stmt := top 52
abbrev s_handed : Stmt := top 53
abbrev s_right : Stmt := top 54
abbrev s_number : Stmt := top 55
abbrev s_combined : Stmt := top 56
abbrev s_drawn : Stmt := top 57
abbrev s_bent : Stmt := top 58
abbrev s_law : Stmt := top 59
/-- what the top has written -/
structure Tx (K : PySem.W.Frag) (mg : Str → Option Value) where
  cForms : ClAt mg "FormsError"
  cCount : ClAt mg "BadCount"
  cDiv : ExAt0 K mg "DivisionByZero"
  cWhole : ExAt K mg "Whole" "Whole.__init__" i_whole ["self", "integer"]
  cPrime : ExAt K mg "BadPrime" "BadPrime.__init__" i_prime ["self", "prime"]
  cSizes : ExAt K mg "BadSizes" "BadSizes.__init__" i_sizes ["self", "given", "wanted"]
  frac : OwnAt K mg "Frac"
  ground : OwnAt K mg "Ground"
  fld : ∀ D ∈ [cSizes.C], ∀ n ∈ (["given", "wanted"] : List Str), PySem.W.findIn K (.ref D) n = some none
  exm : ∀ D ∈ [cSizes.C], PySem.W.exmOne K (.ref D) (.ref cForms.C) = some true
  kSizes : Kits K cSizes.C [(.ref cSizes.C, true), (.type "ValueError", true), (.ref cCount.C, false)]
  noWhole : PySem.W.findIn K (.ref cWhole.C) "integer" = some none
  noPrime : PySem.W.findIn K (.ref cPrime.C) "prime" = some none
  nNum : NoAttr K frac.C "num"
  nDen : NoAttr K frac.C "den"
  nPrime : NoAttr K ground.C "prime"
  f_init : MetAt K frac.C "__init__" "Frac.__init__" s_f_init ["self", "num", "den"]
  f_add : MetAt K frac.C "__add__" "Frac.__add__" s_f_add ["self", "other"]
  f_radd : MetAt K frac.C "__radd__" "Frac.__radd__" s_f_radd ["self", "other"]
  f_sub : MetAt K frac.C "__sub__" "Frac.__sub__" s_f_sub ["self", "other"]
  f_rsub : MetAt K frac.C "__rsub__" "Frac.__rsub__" s_f_rsub ["self", "other"]
  f_mul : MetAt K frac.C "__mul__" "Frac.__mul__" s_f_mul ["self", "other"]
  f_rmul : MetAt K frac.C "__rmul__" "Frac.__rmul__" s_f_rmul ["self", "other"]
  f_neg : MetAt K frac.C "__neg__" "Frac.__neg__" s_f_neg ["self"]
  f_eq : MetAt K frac.C "__eq__" "Frac.__eq__" s_f_eq ["self", "other"]
  g_init : MetDAt K ground.C "__init__" "Ground.__init__" s_g_init ["self", "prime"] [.int 0]
  fracMk : Mk K frac.C f_init.f
  groundMk : Mk K ground.C g_init.f
  oAdd : OwnBin K frac.C "add" f_add.f f_radd.f
  oSub : OwnBin K frac.C "sub" f_sub.f f_rsub.f
  oMul : OwnBin K frac.C "mul" f_mul.f f_rmul.f
  fEq : OwnEq K frac.C f_eq.f
  kIF : PySem.W.kitOne K (.type "int") (.ref frac.C) = some false
  kSF : PySem.W.kitOne K (.type "str") (.ref frac.C) = some false
  kFI : PySem.W.kitOne K (.ref frac.C) (.type "int") = some false
  kFF : PySem.W.kitOne K (.ref frac.C) (.ref frac.C) = some true
  ratio : FnAt K mg "ratio" s_ratio ["num", "den"]
  divided : FnAt K mg "divided" s_divided ["first", "second"]
  pieces : FnAt K mg "pieces" s_pieces ["number"]
  in_form : FnAt K mg "in_form" s_in_form ["prime", "value"]
  plain_sum : FnAt K mg "plain_sum" s_plain_sum ["prime", "first", "second"]
  plain_times : FnAt K mg "plain_times" s_plain_times ["prime", "first", "second"]
  plain_over : FnAt K mg "plain_over" s_plain_over ["prime", "first", "second"]
  plain_power : FnAt K mg "plain_power" s_plain_power ["prime", "number", "count"]
  first_place : FnAt K mg "first_place" s_first_place ["row"]
  whole : FnAt K mg "whole_numbers" s_whole ["numbers"]
  reduced : FnAt K mg "reduced_rows" s_reduced ["ground", "width", "rows"]
  kernel : FnAt K mg "kernel_rows" s_kernel ["ground", "width", "rows"]
  times_whole : FnAt K mg "_times_whole" s_times_whole ["number", "factor"]
  primitive : FnAt K mg "_primitive" s_primitive ["row"]
  cleared : FnAt K mg "_cleared_at" s_cleared ["prime", "row", "held", "place"]
  led : FnAt K mg "_led_by_one" s_led ["prime", "row", "lead"]
  finished : FnAt K mg "_finished" s_finished ["prime", "row", "lead"]
  dot_product : FnAt K mg "dot_product" s_dot_product ["first", "second"]
  solved : FnAt K mg "solved" s_solved ["ground", "columns", "target"]
  barring : FnAt K mg "_barring" s_barring ["ground", "columns", "target"]
  pool : FnAt K mg "_law_pool" s_pool ["script"]
  draw : FnAt K mg "_law_draw" s_draw ["pool", "many"]
  gcd : FnAt K mg "_law_gcd" s_gcd ["a", "b"]
  low : FnAt K mg "_law_low" s_low ["p", "num", "den"]
  plus : FnAt K mg "_law_plus" s_plus ["p", "a", "b"]
  times : FnAt K mg "_law_times" s_times ["p", "a", "b"]
  int_ : FnAt K mg "_law_int" s_int_ ["told"]
  hand : FnAt K mg "_law_hand" s_hand ["pair"]
  ask : FnAt K mg "_law_ask" s_ask ["p", "columns", "target"]
  read : FnAt K mg "_law_read" s_read ["p", "told"]
  less : FnAt K mg "_law_less" s_less ["p", "row", "lead", "column"]
  leads : FnAt K mg "_law_leads" s_leads ["p", "rows"]
  within : FnAt K mg "_law_within" s_within ["p", "leads", "target"]
  dot : FnAt K mg "_law_dot" s_dot ["p", "a", "b"]
  handed : FnAt K mg "_law_handed" s_handed ["pool", "p", "row"]
  right : FnAt K mg "_law_right" s_right ["pool", "p", "columns", "leads", "target"]
  number : FnAt K mg "_law_number" s_number ["pool", "p"]
  combined : FnAt K mg "_law_combined" s_combined ["pool", "p", "size", "rows"]
  drawn : FnAt K mg "_law_drawn" s_drawn ["pool", "p", "size", "many"]
  bent : FnAt K mg "_law_bent" s_bent ["pool", "p", "size", "many"]
  PRIMES : TupAt K mg "PRIMES" [2, 3, 5, 7, 11, 13, 17, 19, 23, 29, 31]
  c_gcd : mg "gcd" = some (.builtin "math.gcd")
  c_lcm : mg "lcm" = some (.builtin "math.lcm")
  z_len : mg "len" = none
  z_range : mg "range" = none
  z_int : mg "int" = none
  z_bool : mg "bool" = none
  z_list : mg "list" = none
  z_tuple : mg "tuple" = none
  z_sum : mg "sum" = none
  z_all : mg "all" = none
  z_min : mg "min" = none
  z_max : mg "max" = none
  z_isinstance : mg "isinstance" = none
  z_ValueError : mg "ValueError" = none
  z_str : mg "str" = none
  z_abs : mg "abs" = none
  z_enumerate : mg "enumerate" = none
  z_zip : mg "zip" = none
  z_sorted : mg "sorted" = none
end K06

namespace K06
open PySem PySem.Spec PyProof.Rows L2 UfG UfT UfR UfO UfI UfQ UfN
open Evl (Ex)
/-! ### errors -/
inductive Er where
  | div | whole (n : Int) | prime (n : Int) | sizes (n m : Int)
section
variable {K : PySem.W.Frag} {mg : Str → Option Value}
/-- the error e, of the class at C with the own dict d -/
def ErAt (T : Tx K mg) (e : Er) (G : Hp) (C : Addr) (d : Option Addr) : Prop := match e with
  | .div => C = T.cDiv.C ∧ d = none
  | .whole n => C = T.cWhole.C ∧ ∃ a, d = some a ∧ G a = some (.xd [("integer", .int n)])
  | .sizes n m => C = T.cSizes.C ∧ ∃ a, d = some a ∧ G a = some (.xd [("wanted", .int m), ("given", .int n)])
  | .prime n => C = T.cPrime.C ∧ ∃ a, d = some a ∧ G a = some (.xd [("prime", .int n)])
end
section
variable {P : Program} {w : World} {K : PySem.W.Frag} {mg : Str → Option Value} {base : Heap}
theorem sci_whole : FnScope ["self", "integer"] ["self", "integer"] (defScope i_whole) := ⟨rfl, rfl, rfl, by decide +kernel, rfl, by decide +kernel, by decide +kernel⟩
theorem oki_whole (T : Tx K mg) : FnOk P w K mg base CX0 1 T.cWhole.fI T.cWhole.fd ["self", "integer"] (spI1 K "integer") := by
  refine T.cWhole.F.ok sci_whole (fun vs H Q E h => ?_) (fun cdv A outer s H vs Q E hr h => ?_)
  · obtain ⟨a, C, y, rfl, _⟩ := h
    rfl
  · obtain ⟨a, C, y, rfl, TC, hn, ha, k⟩ := h
    refine ⟨_, pss_one (ps_ost (pv 0) (pv 1)), ?_⟩
    exact ⟨_, rfl, _, rfl, a, C, rfl, TC, hn, .inl ⟨ha, k⟩⟩
theorem sci_prime : FnScope ["self", "prime"] ["self", "prime"] (defScope i_prime) := ⟨rfl, rfl, rfl, by decide +kernel, rfl, by decide +kernel, by decide +kernel⟩
theorem oki_prime (T : Tx K mg) : FnOk P w K mg base CX0 1 T.cPrime.fI T.cPrime.fd ["self", "prime"] (spI1 K "prime") := by
  refine T.cPrime.F.ok sci_prime (fun vs H Q E h => ?_) (fun cdv A outer s H vs Q E hr h => ?_)
  · obtain ⟨a, C, y, rfl, _⟩ := h
    rfl
  · obtain ⟨a, C, y, rfl, TC, hn, ha, k⟩ := h
    refine ⟨_, pss_one (ps_ost (pv 0) (pv 1)), ?_⟩
    exact ⟨_, rfl, _, rfl, a, C, rfl, TC, hn, .inl ⟨ha, k⟩⟩

theorem sci_sizes : FnScope ["self", "given", "wanted"] ["self", "given", "wanted"] (defScope i_sizes) := ⟨rfl, rfl, rfl, by decide +kernel, rfl, by decide +kernel, by decide +kernel⟩
theorem oki_sizes (T : Tx K mg) : FnOk P w K mg base CX0 1 T.cSizes.fI T.cSizes.fd ["self", "given", "wanted"] (spI2 K "given" "wanted") := by
  refine T.cSizes.F.ok sci_sizes (fun vs H Q E h => ?_) (fun cdv A outer s H vs Q E hr h => ?_)
  · obtain ⟨a, C, y, z, rfl, _⟩ := h
    rfl
  · obtain ⟨a, C, y, z, rfl, TC, hf, hg, ha, k⟩ := h
    refine ⟨_, pss_cons (ps_ost (pv 0) (pv 1)) (pss_one (ps_ost (pv 0) (pv 2))), ?_⟩
    exact ⟨_, rfl, _, rfl, a, C, rfl, TC, hf, .inl ⟨ha, fun dx hd hne => ⟨_, rfl, _, rfl, a, C, rfl, TC, hg, .inr ⟨dx, _, upd_same, by rw [upd_ne hne, upd_same], by show 1 ≤ 900; decide, k dx hd hne⟩⟩⟩⟩
/-! ### Frac.__init__ -/
theorem lg {x : Int} {b : Nat} (h : x.natAbs < 2 ^ b) (h0 : 0 < b) (hb : b ≤ 9000) : x.natAbs.log2 < 9000 := Nat.lt_of_lt_of_le (PySem.Flt.log2_lt_of h0 h) hb
theorem sc_f_init : FnScope ["self", "num", "den", "common"] ["self", "num", "den"] (defScope s_f_init) := ⟨rfl, rfl, rfl, by decide +kernel, rfl, by decide +kernel, by decide +kernel⟩
def sp_f_init (T : Tx K mg) : Sp := fun vs H Q E => ∃ n d : Int, InitSp T.frac.C (fun ws _ => ws = [.int n, .int d] ∧ d.natAbs < 2 ^ 8000) (fun _ _ G' x => d ≠ 0 ∧ n.fmod d ≠ 0 ∧ FrAt T.frac.C G' x (fr n d))
  (fun _ G' C e => (d = 0 ∧ ErAt T .div G' C e) ∨ (d ≠ 0 ∧ n.fmod d = 0 ∧ ErAt T (.whole (fr n d).num) G' C e)) vs H Q E
theorem ok_f_init (T : Tx K mg) : FnOk P w K mg base (L2N.CX P w) 3 T.f_init.f T.f_init.fd ["self", "num", "den"] (sp_f_init T) := by
  refine fun_okX T.f_init.F sc_f_init (fun vs H Q E h => ?_) (fun cdv A outer s H vs Q E hr h => ?_)
  · obtain ⟨n, d, H1, G, x, dx, ws, rfl, _, ⟨rfl, _⟩, _⟩ := h
    rfl
  · obtain ⟨n, d, H1, G, x, dx, ws, rfl, lw, ⟨rfl, bd⟩, k, kx⟩ := h
    refine ⟨_, (pss_cons (ps_if (pt_cmpR op_eq (pv 2) pe_int (nomark _)) (pss_one (L2N.ps_raise rfl (L2N.takes_of rfl rfl rfl rfl) (UfR.pmk_own0N PySem.F.excBase_ValueError T.cDiv.q T.cDiv.g T.cDiv.kC T.cDiv.r rfl))) pss_nil)
      (pss_cons (ps_if (pt_cmpR op_eq (pe_op op_modN (pv 1) (pv 2)) pe_int (nomark _)) (pss_one (L2N.ps_raise rfl (L2N.takes_of rfl rfl rfl rfl) (UfH.pmk_oexN T.cWhole.T T.cWhole.iC T.cWhole.tI (oki_whole T) (hr.mono (by decide)) T.cWhole.b rfl T.cWhole.g (pa_cons (pe_op UfR.op_fdivZ (pv 1) (pv 2)) pa_nil)))) pss_nil)
      (pss_cons (ps_set (i := 3) sc_f_init.nd rfl (.inl rfl) (pe_callBfun cr_gcd rfl T.c_gcd (pa_cons (pv 1) (pa_cons (pv 2) pa_nil))))
      (pss_cons (ps_if (pt_cmpR op_lt (pv 2) pe_int (nomark _)) (pss_one (ps_set (i := 3) sc_f_init.nd rfl (.inl rfl) (pe_un un_neg (pv 3)))) pss_nil)
      (pss_cons (ps_fld (pv 0) (pe_op UfR.op_fdivZ (pv 1) (pv 3)) rfl)
      (pss_one (ps_fld (pv 0) (pe_op UfR.op_fdivZ (pv 2) (pv 3)) rfl))))))), ?_⟩
    -- if den == 0
    refine ⟨_, rfl, rfl, _, rfl, ite2 (fun h1 => ?_) (fun h1 => ?_)⟩
    · have d0 : d = 0 := by simpa using h1
      exact kx _ _ _ _ lw.drop (.inl ⟨d0, rfl, rfl⟩)
    have d0 : d ≠ 0 := by simpa using h1
    -- if num % den == 0
    refine ⟨_, rfl, _, rfl, _, _, rfl, rfl, d0, rfl, _, rfl, ite2 (fun h2 => ?_) (fun h2 => ?_)⟩
    · have m0 : n.fmod d = 0 := by simpa using h2
      refine ⟨_, rfl, _, rfl, _, _, rfl, rfl, ⟨d0, lg bd (by decide) (by decide)⟩, mk1_of T.cWhole.T T.noWhole fun q hq => ?_⟩
      refine kx _ _ _ (some q) (lw.drop.alloc hq) (.inr ⟨d0, m0, rfl, q, rfl, ?_⟩)
      rw [fr_int d0 m0]
      exact upd_same
    have m0 : n.fmod d ≠ 0 := by simpa using h2
    have gp := gcd_pos (n := n) d0
    have gl : Nat.gcd n.natAbs d.natAbs ≤ d.natAbs := Nat.le_of_dvd (by omega) (Nat.gcd_dvd_right _ _)
    -- common
    refine ⟨_, rfl, _, rfl, n, d, rfl, ?_⟩
    have go : ∀ (c : Int) (z : Option V), c ≠ 0 → c.natAbs < 2 ^ 8000 → n.fdiv c = (fr n d).num → d.fdiv c = ((fr n d).den : Int) →
        tSeq (sFld K (tVar 0) (tOp (rI CDivZ fun i j => .int (i.fdiv j)) (tVar 1) (tVar 3)) "num") (sFld K (tVar 0) (tOp (rI CDivZ fun i j => .int (i.fdiv j)) (tVar 2) (tVar 3)) "den")
          { nx := fun _ H' => Q .non H', rt := Q } [some (.ref x), some (.int n), some (.int d), some (.int c)] H := fun c z c0 cb en ed => by
      refine ⟨_, rfl, _, rfl, _, _, rfl, rfl, ⟨c0, lg cb (by decide) (by decide)⟩, _, rfl, x, T.frac.C, dx, [], rfl, lw.at, T.frac.c, T.nNum, (by decide), ?_⟩
      have lw := lw.put (o' := .ins T.frac.C dx [("num", .int (n.fdiv c))])
      refine ⟨_, rfl, _, rfl, _, _, rfl, rfl, ⟨c0, lg cb (by decide) (by decide)⟩, _, rfl, x, T.frac.C, dx, [("num", .int (n.fdiv c))], rfl, lw.at, T.frac.c, T.nDen, (by show 1 < 1000; decide), ?_⟩
      rw [putF_den]
      have lw := lw.put (o' := .ins T.frac.C dx [("num", .int (n.fdiv c)), ("den", .int (d.fdiv c))])
      obtain ⟨lw, _⟩ := lw.keep
      refine k _ _ lw ⟨d0, m0, dx, ?_⟩
      rw [← en, ← ed]
      exact upd_same
    -- if den < 0
    refine ⟨_, rfl, _, _, rfl, rfl, _, rfl, ite2 (fun h3 => ?_) (fun h3 => ?_)⟩
    · have dn : d < 0 := by simpa using h3
      refine ⟨_, rfl, _, rfl, go _ none (by omega) (by omega) ?_ ?_⟩
      · rw [fr_num d0, if_pos dn]
      · rw [fr_den d0, if_pos dn]
    · have dn : ¬ d < 0 := by simpa using h3
      refine go _ none (by omega) (by omega) ?_ ?_
      · rw [fr_num d0, if_neg dn]
      · rw [fr_den d0, if_neg dn]
/-- Frac(n, d), never whole -/
theorem call_frac {T : Tx K mg} {H0 G0 G H : Hp} {p : Option (Addr × Addr × Nat)} {ls : List (Addr × HO)} {Q : VK} {E : XK} {n d : Int} (lw : Lw H0 G0 p ls G H) (bd : d.natAbs < 2 ^ 8000) (d0 : d ≠ 0) (m0 : n.fmod d ≠ 0)
    (k : ∀ G' H' x, Ex G G' → Lw H0 G0 p ls G' H' → FrAt T.frac.C G' x (fr n d) → Q (.ref x) H') : ∀ x dx, H x = none → H dx = none → dx ≠ x →
      sp_f_init T (.ref x :: [.int n, .int d]) (upd (upd H dx (.own x)) x (.ins T.frac.C dx [])) (fun v H2 => v = .non ∧ Q (.ref x) H2) E := fun x dx hx hd ne =>
  ⟨n, d, call_make lw ⟨rfl, bd⟩ (fun G' H' x e l h => k G' H' x e l h.2.2) (fun G' H' C q e l h => by
    rcases h with ⟨z, _⟩ | ⟨_, z, _⟩
    · exact (d0 z).elim
    · exact (m0 z).elim) x dx hx hd ne⟩

/-! ### ratio -/
theorem sc_ratio : FnScope ["num", "den"] ["num", "den"] (defScope s_ratio) := ⟨rfl, rfl, rfl, by decide +kernel, rfl, by decide +kernel, by decide +kernel⟩
def sp_ratio (T : Tx K mg) : Sp := fun vs H Q E => ∃ n d : Int, RaiseN (fun vs _ => vs = [.int n, .int d] ∧ d.natAbs < 2 ^ 8000) (fun _ _ G' v => d ≠ 0 ∧ Nm T.frac.C G' v (fr n d)) (fun _ G' C e => d = 0 ∧ ErAt T .div G' C e) vs H Q E
theorem ok_ratio (T : Tx K mg) : FnOk P w K mg base (L2N.CX P w) 5 T.ratio.f T.ratio.fd ["num", "den"] (sp_ratio T) := by
  refine fun_okX T.ratio.F sc_ratio (fun vs H Q E h => ?_) (fun cdv A outer s H vs Q E hr h => ?_)
  · obtain ⟨n, d, G, _, ⟨rfl, _⟩, _⟩ := h
    rfl
  · obtain ⟨n, d, G, lw, ⟨rfl, bd⟩, k, kx⟩ := h
    refine ⟨_, (pss_cons (ps_if (pt_cmpR op_eq (pv 1) pe_int (nomark _)) (pss_one (L2N.ps_raise rfl (L2N.takes_of rfl rfl rfl rfl) (UfR.pmk_own0N PySem.F.excBase_ValueError T.cDiv.q T.cDiv.g T.cDiv.kC T.cDiv.r rfl))) pss_nil)
      (pss_cons (ps_if (pt_cmpR op_eq (pe_op op_modN (pv 0) (pv 1)) pe_int (nomark _)) (pss_one (ps_ret (pe_op UfR.op_fdivZ (pv 0) (pv 1)))) pss_nil)
      (pss_one (ps_ret (UfR.pe_makeS T.fracMk (ok_f_init T) (hr.mono (by decide)) rfl T.frac.g T.f_init.b (fun σ => L2N.passAt (L2N.takes_of rfl rfl rfl rfl) σ) (pa_cons (pv 0) (pa_cons (pv 1) pa_nil))))))), ?_⟩
    refine ⟨_, rfl, rfl, _, rfl, ite2 (fun h1 => ?_) (fun h1 => ?_)⟩
    · exact kx _ _ _ _ lw ⟨by simpa using h1, rfl, rfl⟩
    have d0 : d ≠ 0 := by simpa using h1
    refine ⟨_, rfl, _, rfl, _, _, rfl, rfl, d0, rfl, _, rfl, ite2 (fun h2 => ?_) (fun h2 => ?_)⟩
    · have m0 : n.fmod d = 0 := by simpa using h2
      refine ⟨_, rfl, _, rfl, _, _, rfl, rfl, ⟨d0, lg bd (by decide) (by decide)⟩, k _ _ _ lw ⟨d0, .inl ⟨(fr_whole d0).mpr m0, ?_⟩⟩⟩
      rw [fr_int d0 m0]
    · have m0 : n.fmod d ≠ 0 := by simpa using h2
      refine ⟨_, rfl, _, rfl, call_frac lw bd d0 m0 fun G' H' x e lw hx => k _ _ _ lw ⟨d0, .inr ⟨fun z => m0 ((fr_whole d0).mp z), x, rfl, hx⟩⟩⟩
theorem call_ratio {T : Tx K mg} {H0 G0 G H : Hp} {p : Option (Addr × Addr × Nat)} {ls : List (Addr × HO)} {Q : VK} {E : XK} {n d : Int} (lw : Lw H0 G0 p ls G H) (bd : d.natAbs < 2 ^ 8000) (d0 : d ≠ 0)
    (k : ∀ G' H' v, Ex G G' → Lw H0 G0 p ls G' H' → Nm T.frac.C G' v (fr n d) → Q v H') : sp_ratio T [.int n, .int d] H Q E :=
  ⟨n, d, call_raiseN lw ⟨rfl, bd⟩ (fun G' H' v e l h => k G' H' v e l h.2) fun G' H' C q e l h => (d0 h.1).elim⟩

end
end K06

namespace K06
open PySem PySem.Spec PyProof.Rows L2 UfG UfT UfR UfO UfI UfQ UfN
open Evl (Ex)
theorem lk_num {x y : V} : List.lookup ("num" : Str) [("num", x), ("den", y)] = some x := rfl
theorem lk_den {x y : V} : List.lookup ("den" : Str) [("num", x), ("den", y)] = some y := rfl
theorem sm_mul {x y : Int} (hx : x.natAbs < 2 ^ 4000) (hy : y.natAbs < 2 ^ 4000) : CMulW x y := wide_mul (a := 4000) (b := 4000) hx hy (by decide) (by decide) (by decide)
theorem sm_den {b : Nat} {q : Rat} (h : Sm b q) : (q.den : Int).natAbs < 2 ^ b := by
  rw [Int.natAbs_natCast]
  exact h.2
theorem dd_lt {q1 q2 : Rat} (h1 : Sm 4000 q1) (h2 : Sm 4000 q2) : ((q1.den : Int) * q2.den).natAbs < 2 ^ 8000 := wide_lt (a := 4000) (b := 4000) (sm_den h1) (sm_den h2)
theorem d_lt {q1 : Rat} (h1 : Sm 4000 q1) : (q1.den : Int).natAbs < 2 ^ 8000 := Nat.lt_of_lt_of_le (sm_den h1) (Nat.pow_le_pow_right (by decide) (by decide))
theorem int_add {a b : Rat} (h : b.den = 1) : fr (a.num + b.num * a.den) a.den = a + b := by
  rw [q_add, h]
  congr 1
  · rw [Int.natCast_one, Int.mul_one]
  · rw [Int.natCast_one, Int.mul_one]
theorem int_sub {a b : Rat} (h : b.den = 1) : fr (a.num - b.num * a.den) a.den = a - b := by
  rw [q_sub, h]
  congr 1
  · rw [Int.natCast_one, Int.mul_one]
  · rw [Int.natCast_one, Int.mul_one]
theorem int_rsub {a b : Rat} (h : b.den = 1) : fr (b.num * a.den - a.num) a.den = b - a := by
  rw [q_sub, h]
  congr 1
  · rw [Int.natCast_one, Int.mul_one]
  · rw [Int.natCast_one, Int.one_mul]
theorem int_mul {a b : Rat} (h : b.den = 1) : fr (a.num * b.num) a.den = a * b := by
  rw [q_mul, h]
  congr 1
  rw [Int.natCast_one, Int.mul_one]
theorem neg_fr (a : Rat) : fr (-a.num) a.den = -a := by
  show Rat.divInt (-a.num) a.den = -a
  rw [← Rat.neg_divInt]
  exact congrArg _ (q_fr a)
theorem add_den {a b : Rat} (h : b.den = 1) : (a + b).den = a.den := by
  rw [q_int h]
  exact add_int_den a b.num
theorem sub_den {a b : Rat} (h : b.den = 1) : (a - b).den = a.den := by
  rw [Rat.sub_eq_add_neg]
  exact add_den (by rw [Rat.neg_den]; exact h)
theorem rsub_den {a b : Rat} (h : b.den = 1) : (b - a).den = a.den := by
  have e : b - a = -(a - b) := by grind
  rw [e, Rat.neg_den]
  exact sub_den h
theorem not_whole {n : Int} {d : Nat} (d0 : d ≠ 0) (h : (fr n d).den ≠ 1) : n.fmod d ≠ 0 := fun z => h ((fr_whole (by omega)).mpr z)
theorem mem_den {q : Rat} : q.den ≠ 0 := by
  have := q.den_pos
  omega
section
variable {P : Program} {w : World} {K : PySem.W.Frag} {mg : Str → Option Value} {base : Heap}
def isF (T : Tx K mg) := T.frac.C

theorem sc_f_add : FnScope ["self", "other"] ["self", "other"] (defScope s_f_add) := ⟨rfl, rfl, rfl, by decide +kernel, rfl, by decide +kernel, by decide +kernel⟩
def sp_f_add (T : Tx K mg) : Sp := fun vs H Q E => ∃ q1 q2 : Rat, PureSp (fun vs G => ∃ a y, vs = [.ref a, y] ∧ FrAt T.frac.C G a q1 ∧ (Nm T.frac.C G y q2) ∧ q1.den ≠ 1 ∧ Sm 4000 q1 ∧ Sm 4000 q2) (fun _ _ G' v => Nm T.frac.C G' v (q1 + q2)) vs H Q E
theorem ok_f_add (T : Tx K mg) : FnOk P w K mg base CX0 7 T.f_add.f T.f_add.fd ["self", "other"] (sp_f_add T) := by
  refine T.f_add.F.ok sc_f_add (fun vs H Q E h => ?_) (fun cdv A outer s H vs Q E hr h => ?_)
  · obtain ⟨q1, q2, G, _, ⟨a, y, rfl, _⟩, _⟩ := h
    rfl
  · obtain ⟨q1, q2, G, lw, ⟨a, y, rfl, ⟨dx, ha⟩, hy, n1, s1, s2⟩, k⟩ := h
    have Ha := lw.gh _ _ ha
    refine ⟨_, (pss_cons (ps_if (pt_val (pe_callB (UfK.call_isiK' (K := K)) (by rfl) T.z_isinstance (by decide +kernel) (pa_cons (pv 1) (pa_cons (pe_glob (v := .ref T.frac.C) rfl T.frac.g rfl) pa_nil)))) (pss_one (ps_ret (pe_callS (ok_ratio T) (hr.mono (by decide)) rfl T.ratio.g T.ratio.F.kp T.ratio.b (fun σ => L2N.passAt UfT.takesN0 σ) (pa_cons (pe_op op_add (pe_op op_mulW (UfK.pe_fldK (K := K) (pv 0) rfl) (UfK.pe_fldK (K := K) (pv 1) rfl)) (pe_op op_mulW (UfK.pe_fldK (K := K) (pv 1) rfl) (UfK.pe_fldK (K := K) (pv 0) rfl))) (pa_cons (pe_op op_mulW (UfK.pe_fldK (K := K) (pv 0) rfl) (UfK.pe_fldK (K := K) (pv 1) rfl)) pa_nil))))) pss_nil)
      (pss_cons (ps_if (pt_val (pe_callB (UfK.call_isiK' (K := K)) (by rfl) T.z_isinstance (by decide +kernel) (pa_cons (pv 1) (pa_cons (pe_bltn (by rfl) T.z_int (by decide +kernel) (show RelV (.ty "int") _ from rfl)) pa_nil)))) (pss_one (ps_ret (UfR.pe_makeS T.fracMk (ok_f_init T) (hr.mono (by decide)) rfl T.frac.g T.f_init.b (fun σ => L2N.passAt UfT.takesN0 σ) (pa_cons (pe_op op_add (UfK.pe_fldK (K := K) (pv 0) rfl) (pe_op op_mulW (pv 1) (UfK.pe_fldK (K := K) (pv 0) rfl))) (pa_cons (UfK.pe_fldK (K := K) (pv 0) rfl) pa_nil))))) pss_nil)
      (pss_one UfR.ps_never))), ?_⟩
    rcases hy with ⟨h2, rfl⟩ | ⟨h2, b, rfl, dy, hb⟩
    · refine ⟨_, rfl, .int q2.num, .ref T.frac.C, .type "int", .ref T.frac.C, false, rfl, .own _, .base (.int _), T.kIF, false, rfl, iteF ⟨_, rfl, .int q2.num, .ty "int", .type "int", .type "int", true, rfl, .ty _, .base (.int _), kit_ty rfl, true, rfl, iteT ?_⟩⟩
      refine ⟨_, rfl, a, T.frac.C, dx, _, _, rfl, Ha, T.frac.c, T.nNum, lk_num, _, rfl, _, rfl, a, T.frac.C, dx, _, _, rfl, Ha, T.frac.c, T.nDen, lk_den, _, _, rfl, rfl, sm_mul s2.1 (sm_den s1), _, _, rfl, rfl, _, rfl, a, T.frac.C, dx, _, _, rfl, Ha, T.frac.c, T.nDen, lk_den, ?_⟩
      have e := int_add (a := q1) (b := q2)
      have e := e h2
      have dn := add_den (a := q1) (b := q2)
      have dn := dn h2
      refine call_frac lw (d_lt s1) (den_ne q1) (not_whole mem_den (by rw [e, dn]; exact n1)) fun G' H' x e1 lw hx => k _ _ _ lw ?_
      rw [e] at hx
      exact .inr ⟨by rw [dn]; exact n1, x, rfl, hx⟩
    · have Hb := lw.gh _ _ hb
      refine ⟨_, rfl, .ref b, .ref T.frac.C, .ref T.frac.C, .ref T.frac.C, true, rfl, .own _, T.frac.ty Hb, T.kFF, true, rfl, iteT ?_⟩
      refine ⟨_, rfl, a, T.frac.C, dx, _, _, rfl, Ha, T.frac.c, T.nNum, lk_num, _, rfl, b, T.frac.C, dy, _, _, rfl, Hb, T.frac.c, T.nDen, lk_den, _, _, rfl, rfl, sm_mul s1.1 (sm_den s2), _, rfl, b, T.frac.C, dy, _, _, rfl, Hb, T.frac.c, T.nNum, lk_num, _, rfl, a, T.frac.C, dx, _, _, rfl, Ha, T.frac.c, T.nDen, lk_den, _, _, rfl, rfl, sm_mul s2.1 (sm_den s1), _, _, rfl, rfl, _, rfl, a, T.frac.C, dx, _, _, rfl, Ha, T.frac.c, T.nDen, lk_den, _, rfl, b, T.frac.C, dy, _, _, rfl, Hb, T.frac.c, T.nDen, lk_den, _, _, rfl, rfl, sm_mul (sm_den s1) (sm_den s2), ?_⟩
      refine call_ratio lw (dd_lt s1 s2) (Int.mul_ne_zero (den_ne q1) (den_ne q2)) fun G' H' v e1 lw hx => k _ _ _ lw ?_
      rw [← q_add] at hx
      exact hx
theorem sc_f_radd : FnScope ["self", "other"] ["self", "other"] (defScope s_f_radd) := ⟨rfl, rfl, rfl, by decide +kernel, rfl, by decide +kernel, by decide +kernel⟩
def sp_f_radd (T : Tx K mg) : Sp := fun vs H Q E => ∃ q1 q2 : Rat, PureSp (fun vs G => ∃ a y, vs = [.ref a, y] ∧ FrAt T.frac.C G a q1 ∧ (q2.den = 1 ∧ y = .int q2.num) ∧ q1.den ≠ 1 ∧ Sm 4000 q1 ∧ Sm 4000 q2) (fun _ _ G' v => Nm T.frac.C G' v (q2 + q1)) vs H Q E
theorem ok_f_radd (T : Tx K mg) : FnOk P w K mg base CX0 7 T.f_radd.f T.f_radd.fd ["self", "other"] (sp_f_radd T) := by
  refine T.f_radd.F.ok sc_f_radd (fun vs H Q E h => ?_) (fun cdv A outer s H vs Q E hr h => ?_)
  · obtain ⟨q1, q2, G, _, ⟨a, y, rfl, _⟩, _⟩ := h
    rfl
  · obtain ⟨q1, q2, G, lw, ⟨a, y, rfl, ⟨dx, ha⟩, hy, n1, s1, s2⟩, k⟩ := h
    have Ha := lw.gh _ _ ha
    refine ⟨_, (pss_cons (ps_if (pt_val (pe_callB (UfK.call_isiK' (K := K)) (by rfl) T.z_isinstance (by decide +kernel) (pa_cons (pv 1) (pa_cons (pe_bltn (by rfl) T.z_int (by decide +kernel) (show RelV (.ty "int") _ from rfl)) pa_nil)))) (pss_one (ps_ret (UfR.pe_makeS T.fracMk (ok_f_init T) (hr.mono (by decide)) rfl T.frac.g T.f_init.b (fun σ => L2N.passAt UfT.takesN0 σ) (pa_cons (pe_op op_add (UfK.pe_fldK (K := K) (pv 0) rfl) (pe_op op_mulW (pv 1) (UfK.pe_fldK (K := K) (pv 0) rfl))) (pa_cons (UfK.pe_fldK (K := K) (pv 0) rfl) pa_nil))))) pss_nil)
      (pss_one UfR.ps_never)), ?_⟩
    obtain ⟨h2, rfl⟩ := hy
    refine ⟨_, rfl, .int q2.num, .ty "int", .type "int", .type "int", true, rfl, .ty _, .base (.int _), kit_ty rfl, true, rfl, iteT ?_⟩
    refine ⟨_, rfl, a, T.frac.C, dx, _, _, rfl, Ha, T.frac.c, T.nNum, lk_num, _, rfl, _, rfl, a, T.frac.C, dx, _, _, rfl, Ha, T.frac.c, T.nDen, lk_den, _, _, rfl, rfl, sm_mul s2.1 (sm_den s1), _, _, rfl, rfl, _, rfl, a, T.frac.C, dx, _, _, rfl, Ha, T.frac.c, T.nDen, lk_den, ?_⟩
    have e := int_add (a := q1) (b := q2)
    have e := e h2
    have dn := add_den (a := q1) (b := q2)
    have dn := dn h2
    refine call_frac lw (d_lt s1) (den_ne q1) (not_whole mem_den (by rw [e, dn]; exact n1)) fun G' H' x e1 lw hx => k _ _ _ lw ?_
    rw [e] at hx
    show Nm T.frac.C G' (.ref x) (q2 + q1)
    rw [Rat.add_comm q2 q1]
    exact .inr ⟨by rw [dn]; exact n1, x, rfl, hx⟩
theorem sc_f_sub : FnScope ["self", "other"] ["self", "other"] (defScope s_f_sub) := ⟨rfl, rfl, rfl, by decide +kernel, rfl, by decide +kernel, by decide +kernel⟩
def sp_f_sub (T : Tx K mg) : Sp := fun vs H Q E => ∃ q1 q2 : Rat, PureSp (fun vs G => ∃ a y, vs = [.ref a, y] ∧ FrAt T.frac.C G a q1 ∧ (Nm T.frac.C G y q2) ∧ q1.den ≠ 1 ∧ Sm 4000 q1 ∧ Sm 4000 q2) (fun _ _ G' v => Nm T.frac.C G' v (q1 - q2)) vs H Q E
theorem ok_f_sub (T : Tx K mg) : FnOk P w K mg base CX0 7 T.f_sub.f T.f_sub.fd ["self", "other"] (sp_f_sub T) := by
  refine T.f_sub.F.ok sc_f_sub (fun vs H Q E h => ?_) (fun cdv A outer s H vs Q E hr h => ?_)
  · obtain ⟨q1, q2, G, _, ⟨a, y, rfl, _⟩, _⟩ := h
    rfl
  · obtain ⟨q1, q2, G, lw, ⟨a, y, rfl, ⟨dx, ha⟩, hy, n1, s1, s2⟩, k⟩ := h
    have Ha := lw.gh _ _ ha
    refine ⟨_, (pss_cons (ps_if (pt_val (pe_callB (UfK.call_isiK' (K := K)) (by rfl) T.z_isinstance (by decide +kernel) (pa_cons (pv 1) (pa_cons (pe_glob (v := .ref T.frac.C) rfl T.frac.g rfl) pa_nil)))) (pss_one (ps_ret (pe_callS (ok_ratio T) (hr.mono (by decide)) rfl T.ratio.g T.ratio.F.kp T.ratio.b (fun σ => L2N.passAt UfT.takesN0 σ) (pa_cons (pe_op op_sub (pe_op op_mulW (UfK.pe_fldK (K := K) (pv 0) rfl) (UfK.pe_fldK (K := K) (pv 1) rfl)) (pe_op op_mulW (UfK.pe_fldK (K := K) (pv 1) rfl) (UfK.pe_fldK (K := K) (pv 0) rfl))) (pa_cons (pe_op op_mulW (UfK.pe_fldK (K := K) (pv 0) rfl) (UfK.pe_fldK (K := K) (pv 1) rfl)) pa_nil))))) pss_nil)
      (pss_cons (ps_if (pt_val (pe_callB (UfK.call_isiK' (K := K)) (by rfl) T.z_isinstance (by decide +kernel) (pa_cons (pv 1) (pa_cons (pe_bltn (by rfl) T.z_int (by decide +kernel) (show RelV (.ty "int") _ from rfl)) pa_nil)))) (pss_one (ps_ret (UfR.pe_makeS T.fracMk (ok_f_init T) (hr.mono (by decide)) rfl T.frac.g T.f_init.b (fun σ => L2N.passAt UfT.takesN0 σ) (pa_cons (pe_op op_sub (UfK.pe_fldK (K := K) (pv 0) rfl) (pe_op op_mulW (pv 1) (UfK.pe_fldK (K := K) (pv 0) rfl))) (pa_cons (UfK.pe_fldK (K := K) (pv 0) rfl) pa_nil))))) pss_nil)
      (pss_one UfR.ps_never))), ?_⟩
    rcases hy with ⟨h2, rfl⟩ | ⟨h2, b, rfl, dy, hb⟩
    · refine ⟨_, rfl, .int q2.num, .ref T.frac.C, .type "int", .ref T.frac.C, false, rfl, .own _, .base (.int _), T.kIF, false, rfl, iteF ⟨_, rfl, .int q2.num, .ty "int", .type "int", .type "int", true, rfl, .ty _, .base (.int _), kit_ty rfl, true, rfl, iteT ?_⟩⟩
      refine ⟨_, rfl, a, T.frac.C, dx, _, _, rfl, Ha, T.frac.c, T.nNum, lk_num, _, rfl, _, rfl, a, T.frac.C, dx, _, _, rfl, Ha, T.frac.c, T.nDen, lk_den, _, _, rfl, rfl, sm_mul s2.1 (sm_den s1), _, _, rfl, rfl, _, rfl, a, T.frac.C, dx, _, _, rfl, Ha, T.frac.c, T.nDen, lk_den, ?_⟩
      have e := int_sub (a := q1) (b := q2)
      have e := e h2
      have dn := sub_den (a := q1) (b := q2)
      have dn := dn h2
      refine call_frac lw (d_lt s1) (den_ne q1) (not_whole mem_den (by rw [e, dn]; exact n1)) fun G' H' x e1 lw hx => k _ _ _ lw ?_
      rw [e] at hx
      exact .inr ⟨by rw [dn]; exact n1, x, rfl, hx⟩
    · have Hb := lw.gh _ _ hb
      refine ⟨_, rfl, .ref b, .ref T.frac.C, .ref T.frac.C, .ref T.frac.C, true, rfl, .own _, T.frac.ty Hb, T.kFF, true, rfl, iteT ?_⟩
      refine ⟨_, rfl, a, T.frac.C, dx, _, _, rfl, Ha, T.frac.c, T.nNum, lk_num, _, rfl, b, T.frac.C, dy, _, _, rfl, Hb, T.frac.c, T.nDen, lk_den, _, _, rfl, rfl, sm_mul s1.1 (sm_den s2), _, rfl, b, T.frac.C, dy, _, _, rfl, Hb, T.frac.c, T.nNum, lk_num, _, rfl, a, T.frac.C, dx, _, _, rfl, Ha, T.frac.c, T.nDen, lk_den, _, _, rfl, rfl, sm_mul s2.1 (sm_den s1), _, _, rfl, rfl, _, rfl, a, T.frac.C, dx, _, _, rfl, Ha, T.frac.c, T.nDen, lk_den, _, rfl, b, T.frac.C, dy, _, _, rfl, Hb, T.frac.c, T.nDen, lk_den, _, _, rfl, rfl, sm_mul (sm_den s1) (sm_den s2), ?_⟩
      refine call_ratio lw (dd_lt s1 s2) (Int.mul_ne_zero (den_ne q1) (den_ne q2)) fun G' H' v e1 lw hx => k _ _ _ lw ?_
      rw [← q_sub] at hx
      exact hx
theorem sc_f_rsub : FnScope ["self", "other"] ["self", "other"] (defScope s_f_rsub) := ⟨rfl, rfl, rfl, by decide +kernel, rfl, by decide +kernel, by decide +kernel⟩
def sp_f_rsub (T : Tx K mg) : Sp := fun vs H Q E => ∃ q1 q2 : Rat, PureSp (fun vs G => ∃ a y, vs = [.ref a, y] ∧ FrAt T.frac.C G a q1 ∧ (q2.den = 1 ∧ y = .int q2.num) ∧ q1.den ≠ 1 ∧ Sm 4000 q1 ∧ Sm 4000 q2) (fun _ _ G' v => Nm T.frac.C G' v (q2 - q1)) vs H Q E
theorem ok_f_rsub (T : Tx K mg) : FnOk P w K mg base CX0 7 T.f_rsub.f T.f_rsub.fd ["self", "other"] (sp_f_rsub T) := by
  refine T.f_rsub.F.ok sc_f_rsub (fun vs H Q E h => ?_) (fun cdv A outer s H vs Q E hr h => ?_)
  · obtain ⟨q1, q2, G, _, ⟨a, y, rfl, _⟩, _⟩ := h
    rfl
  · obtain ⟨q1, q2, G, lw, ⟨a, y, rfl, ⟨dx, ha⟩, hy, n1, s1, s2⟩, k⟩ := h
    have Ha := lw.gh _ _ ha
    refine ⟨_, (pss_cons (ps_if (pt_val (pe_callB (UfK.call_isiK' (K := K)) (by rfl) T.z_isinstance (by decide +kernel) (pa_cons (pv 1) (pa_cons (pe_bltn (by rfl) T.z_int (by decide +kernel) (show RelV (.ty "int") _ from rfl)) pa_nil)))) (pss_one (ps_ret (UfR.pe_makeS T.fracMk (ok_f_init T) (hr.mono (by decide)) rfl T.frac.g T.f_init.b (fun σ => L2N.passAt UfT.takesN0 σ) (pa_cons (pe_op op_sub (pe_op op_mulW (pv 1) (UfK.pe_fldK (K := K) (pv 0) rfl)) (UfK.pe_fldK (K := K) (pv 0) rfl)) (pa_cons (UfK.pe_fldK (K := K) (pv 0) rfl) pa_nil))))) pss_nil)
      (pss_one UfR.ps_never)), ?_⟩
    obtain ⟨h2, rfl⟩ := hy
    refine ⟨_, rfl, .int q2.num, .ty "int", .type "int", .type "int", true, rfl, .ty _, .base (.int _), kit_ty rfl, true, rfl, iteT ?_⟩
    refine ⟨_, rfl, _, rfl, a, T.frac.C, dx, _, _, rfl, Ha, T.frac.c, T.nDen, lk_den, _, _, rfl, rfl, sm_mul s2.1 (sm_den s1), _, rfl, a, T.frac.C, dx, _, _, rfl, Ha, T.frac.c, T.nNum, lk_num, _, _, rfl, rfl, _, rfl, a, T.frac.C, dx, _, _, rfl, Ha, T.frac.c, T.nDen, lk_den, ?_⟩
    have e := int_rsub (a := q1) (b := q2)
    have e := e h2
    have dn := rsub_den (a := q1) (b := q2)
    have dn := dn h2
    refine call_frac lw (d_lt s1) (den_ne q1) (not_whole mem_den (by rw [e, dn]; exact n1)) fun G' H' x e1 lw hx => k _ _ _ lw ?_
    rw [e] at hx
    exact .inr ⟨by rw [dn]; exact n1, x, rfl, hx⟩
theorem sc_f_mul : FnScope ["self", "other"] ["self", "other"] (defScope s_f_mul) := ⟨rfl, rfl, rfl, by decide +kernel, rfl, by decide +kernel, by decide +kernel⟩
def sp_f_mul (T : Tx K mg) : Sp := fun vs H Q E => ∃ q1 q2 : Rat, PureSp (fun vs G => ∃ a y, vs = [.ref a, y] ∧ FrAt T.frac.C G a q1 ∧ (Nm T.frac.C G y q2) ∧ q1.den ≠ 1 ∧ Sm 4000 q1 ∧ Sm 4000 q2) (fun _ _ G' v => Nm T.frac.C G' v (q1 * q2)) vs H Q E
theorem ok_f_mul (T : Tx K mg) : FnOk P w K mg base CX0 7 T.f_mul.f T.f_mul.fd ["self", "other"] (sp_f_mul T) := by
  refine T.f_mul.F.ok sc_f_mul (fun vs H Q E h => ?_) (fun cdv A outer s H vs Q E hr h => ?_)
  · obtain ⟨q1, q2, G, _, ⟨a, y, rfl, _⟩, _⟩ := h
    rfl
  · obtain ⟨q1, q2, G, lw, ⟨a, y, rfl, ⟨dx, ha⟩, hy, n1, s1, s2⟩, k⟩ := h
    have Ha := lw.gh _ _ ha
    refine ⟨_, (pss_cons (ps_if (pt_val (pe_callB (UfK.call_isiK' (K := K)) (by rfl) T.z_isinstance (by decide +kernel) (pa_cons (pv 1) (pa_cons (pe_glob (v := .ref T.frac.C) rfl T.frac.g rfl) pa_nil)))) (pss_one (ps_ret (pe_callS (ok_ratio T) (hr.mono (by decide)) rfl T.ratio.g T.ratio.F.kp T.ratio.b (fun σ => L2N.passAt UfT.takesN0 σ) (pa_cons (pe_op op_mulW (UfK.pe_fldK (K := K) (pv 0) rfl) (UfK.pe_fldK (K := K) (pv 1) rfl)) (pa_cons (pe_op op_mulW (UfK.pe_fldK (K := K) (pv 0) rfl) (UfK.pe_fldK (K := K) (pv 1) rfl)) pa_nil))))) pss_nil)
      (pss_cons (ps_if (pt_val (pe_callB (UfK.call_isiK' (K := K)) (by rfl) T.z_isinstance (by decide +kernel) (pa_cons (pv 1) (pa_cons (pe_bltn (by rfl) T.z_int (by decide +kernel) (show RelV (.ty "int") _ from rfl)) pa_nil)))) (pss_one (ps_ret (pe_callS (ok_ratio T) (hr.mono (by decide)) rfl T.ratio.g T.ratio.F.kp T.ratio.b (fun σ => L2N.passAt UfT.takesN0 σ) (pa_cons (pe_op op_mulW (UfK.pe_fldK (K := K) (pv 0) rfl) (pv 1)) (pa_cons (UfK.pe_fldK (K := K) (pv 0) rfl) pa_nil))))) pss_nil)
      (pss_one UfR.ps_never))), ?_⟩
    rcases hy with ⟨h2, rfl⟩ | ⟨h2, b, rfl, dy, hb⟩
    · refine ⟨_, rfl, .int q2.num, .ref T.frac.C, .type "int", .ref T.frac.C, false, rfl, .own _, .base (.int _), T.kIF, false, rfl, iteF ⟨_, rfl, .int q2.num, .ty "int", .type "int", .type "int", true, rfl, .ty _, .base (.int _), kit_ty rfl, true, rfl, iteT ?_⟩⟩
      refine ⟨_, rfl, a, T.frac.C, dx, _, _, rfl, Ha, T.frac.c, T.nNum, lk_num, _, rfl, _, _, rfl, rfl, sm_mul s1.1 s2.1, _, rfl, a, T.frac.C, dx, _, _, rfl, Ha, T.frac.c, T.nDen, lk_den, ?_⟩
      refine call_ratio lw (d_lt s1) (den_ne q1) fun G' H' v e1 lw hx => k _ _ _ lw ?_
      have e := int_mul (a := q1) (b := q2) h2
      rw [e] at hx
      exact hx
    · have Hb := lw.gh _ _ hb
      refine ⟨_, rfl, .ref b, .ref T.frac.C, .ref T.frac.C, .ref T.frac.C, true, rfl, .own _, T.frac.ty Hb, T.kFF, true, rfl, iteT ?_⟩
      refine ⟨_, rfl, a, T.frac.C, dx, _, _, rfl, Ha, T.frac.c, T.nNum, lk_num, _, rfl, b, T.frac.C, dy, _, _, rfl, Hb, T.frac.c, T.nNum, lk_num, _, _, rfl, rfl, sm_mul s1.1 s2.1, _, rfl, a, T.frac.C, dx, _, _, rfl, Ha, T.frac.c, T.nDen, lk_den, _, rfl, b, T.frac.C, dy, _, _, rfl, Hb, T.frac.c, T.nDen, lk_den, _, _, rfl, rfl, sm_mul (sm_den s1) (sm_den s2), ?_⟩
      refine call_ratio lw (dd_lt s1 s2) (Int.mul_ne_zero (den_ne q1) (den_ne q2)) fun G' H' v e1 lw hx => k _ _ _ lw ?_
      rw [← q_mul] at hx
      exact hx
theorem sc_f_rmul : FnScope ["self", "other"] ["self", "other"] (defScope s_f_rmul) := ⟨rfl, rfl, rfl, by decide +kernel, rfl, by decide +kernel, by decide +kernel⟩
def sp_f_rmul (T : Tx K mg) : Sp := fun vs H Q E => ∃ q1 q2 : Rat, PureSp (fun vs G => ∃ a y, vs = [.ref a, y] ∧ FrAt T.frac.C G a q1 ∧ (q2.den = 1 ∧ y = .int q2.num) ∧ q1.den ≠ 1 ∧ Sm 4000 q1 ∧ Sm 4000 q2) (fun _ _ G' v => Nm T.frac.C G' v (q2 * q1)) vs H Q E
theorem ok_f_rmul (T : Tx K mg) : FnOk P w K mg base CX0 7 T.f_rmul.f T.f_rmul.fd ["self", "other"] (sp_f_rmul T) := by
  refine T.f_rmul.F.ok sc_f_rmul (fun vs H Q E h => ?_) (fun cdv A outer s H vs Q E hr h => ?_)
  · obtain ⟨q1, q2, G, _, ⟨a, y, rfl, _⟩, _⟩ := h
    rfl
  · obtain ⟨q1, q2, G, lw, ⟨a, y, rfl, ⟨dx, ha⟩, hy, n1, s1, s2⟩, k⟩ := h
    have Ha := lw.gh _ _ ha
    refine ⟨_, (pss_cons (ps_if (pt_val (pe_callB (UfK.call_isiK' (K := K)) (by rfl) T.z_isinstance (by decide +kernel) (pa_cons (pv 1) (pa_cons (pe_bltn (by rfl) T.z_int (by decide +kernel) (show RelV (.ty "int") _ from rfl)) pa_nil)))) (pss_one (ps_ret (pe_callS (ok_ratio T) (hr.mono (by decide)) rfl T.ratio.g T.ratio.F.kp T.ratio.b (fun σ => L2N.passAt UfT.takesN0 σ) (pa_cons (pe_op op_mulW (UfK.pe_fldK (K := K) (pv 0) rfl) (pv 1)) (pa_cons (UfK.pe_fldK (K := K) (pv 0) rfl) pa_nil))))) pss_nil)
      (pss_one UfR.ps_never)), ?_⟩
    obtain ⟨h2, rfl⟩ := hy
    refine ⟨_, rfl, .int q2.num, .ty "int", .type "int", .type "int", true, rfl, .ty _, .base (.int _), kit_ty rfl, true, rfl, iteT ?_⟩
    refine ⟨_, rfl, a, T.frac.C, dx, _, _, rfl, Ha, T.frac.c, T.nNum, lk_num, _, rfl, _, _, rfl, rfl, sm_mul s1.1 s2.1, _, rfl, a, T.frac.C, dx, _, _, rfl, Ha, T.frac.c, T.nDen, lk_den, ?_⟩
    refine call_ratio lw (d_lt s1) (den_ne q1) fun G' H' v e1 lw hx => k _ _ _ lw ?_
    have e := int_mul (a := q1) (b := q2) h2
    rw [e] at hx
    show Nm T.frac.C G' v (q2 * q1)
    rw [Rat.mul_comm q2 q1]
    exact hx
/-! ### -x, x == y -/
theorem sc_f_neg : FnScope ["self"] ["self"] (defScope s_f_neg) := ⟨rfl, rfl, rfl, by decide +kernel, rfl, by decide +kernel, by decide +kernel⟩
def sp_f_neg (T : Tx K mg) : Sp := fun vs H Q E => ∃ q1 : Rat, PureSp (fun vs G => ∃ a, vs = [.ref a] ∧ FrAt T.frac.C G a q1 ∧ q1.den ≠ 1 ∧ Sm 4000 q1) (fun _ _ G' v => Nm T.frac.C G' v (-q1)) vs H Q E
theorem ok_f_neg (T : Tx K mg) : FnOk P w K mg base CX0 7 T.f_neg.f T.f_neg.fd ["self"] (sp_f_neg T) := by
  refine T.f_neg.F.ok sc_f_neg (fun vs H Q E h => ?_) (fun cdv A outer s H vs Q E hr h => ?_)
  · obtain ⟨q1, G, _, ⟨a, rfl, _⟩, _⟩ := h
    rfl
  · obtain ⟨q1, G, lw, ⟨a, rfl, ⟨dx, ha⟩, n1, s1⟩, k⟩ := h
    have Ha := lw.gh _ _ ha
    refine ⟨_, (pss_one (ps_ret (UfR.pe_makeS T.fracMk (ok_f_init T) (hr.mono (by decide)) rfl T.frac.g T.f_init.b (fun σ => L2N.passAt UfT.takesN0 σ) (pa_cons (pe_un un_neg (UfK.pe_fldK (K := K) (pv 0) rfl)) (pa_cons (UfK.pe_fldK (K := K) (pv 0) rfl) pa_nil))))), ?_⟩
    have e := neg_fr q1
    have dn := Rat.neg_den q1
    refine ⟨_, rfl, a, T.frac.C, dx, _, _, rfl, Ha, T.frac.c, T.nNum, lk_num, _, rfl, _, rfl, a, T.frac.C, dx, _, _, rfl, Ha, T.frac.c, T.nDen, lk_den, call_frac lw (d_lt s1) (den_ne q1) (not_whole mem_den (by rw [e, dn]; exact n1)) fun G' H' x e1 lw hx => k _ _ _ lw ?_⟩
    rw [e] at hx
    exact .inr ⟨by rw [dn]; exact n1, x, rfl, hx⟩
theorem sc_f_eq : FnScope ["self", "other"] ["self", "other"] (defScope s_f_eq) := ⟨rfl, rfl, rfl, by decide +kernel, rfl, by decide +kernel, by decide +kernel⟩
/-- what a Frac is compared with -/
inductive Oth where
  | num (q : Rat) | str (x : Str)
def Oth.at (F : Addr) (G : Hp) : Oth → V → Prop
  | .num q, v => Nm F G v q
  | .str x, v => v = .str x
def Oth.is (q : Rat) : Oth → Bool
  | .num r => decide (q = r)
  | .str _ => false
def sp_f_eq (T : Tx K mg) : Sp := fun vs H Q E => ∃ (q1 : Rat) (o : Oth), PureSp (fun vs G => ∃ a y, vs = [.ref a, y] ∧ FrAt T.frac.C G a q1 ∧ o.at T.frac.C G y ∧ q1.den ≠ 1) (fun _ _ _ v => v = .bl (o.is q1)) vs H Q E
theorem ok_f_eq (T : Tx K mg) : FnOk P w K mg base CX0 7 T.f_eq.f T.f_eq.fd ["self", "other"] (sp_f_eq T) := by
  refine T.f_eq.F.ok sc_f_eq (fun vs H Q E h => ?_) (fun cdv A outer s H vs Q E hr h => ?_)
  · obtain ⟨q1, o, G, _, ⟨a, y, rfl, _⟩, _⟩ := h
    rfl
  · obtain ⟨q1, o, G, lw, ⟨a, y, rfl, ⟨dx, ha⟩, hy, n1⟩, k⟩ := h
    have Ha := lw.gh _ _ ha
    refine ⟨_, (pss_one (ps_ret (pe_and (pe_callB (UfK.call_isiK' (K := K)) (by rfl) T.z_isinstance (by decide +kernel) (pa_cons (pv 1) (pa_cons (pe_glob (v := .ref T.frac.C) rfl T.frac.g rfl) pa_nil))) (pe_and (pe_cmpR op_eq (UfK.pe_fldK (K := K) (pv 0) rfl) (UfK.pe_fldK (K := K) (pv 1) rfl) (nomark _)) (pe_one (pe_cmpR op_eq (UfK.pe_fldK (K := K) (pv 0) rfl) (UfK.pe_fldK (K := K) (pv 1) rfl) (nomark _))))))), ?_⟩
    cases o with
    | str x =>
      cases (show y = .str x from hy)
      exact ⟨_, rfl, .str x, .ref T.frac.C, .type "str", .ref T.frac.C, false, rfl, .own _, .base (.str _), T.kSF, false, rfl, iteF (k _ _ _ lw rfl)⟩
    | num q2 =>
      rcases (show Nm T.frac.C G y q2 from hy) with ⟨h2, rfl⟩ | ⟨h2, b, rfl, dy, hb⟩
      · refine ⟨_, rfl, .int q2.num, .ref T.frac.C, .type "int", .ref T.frac.C, false, rfl, .own _, .base (.int _), T.kIF, false, rfl, iteF (k _ _ _ lw ?_)⟩
        show V.bl false = .bl (decide (q1 = q2))
        rw [decide_eq_false (fun z => n1 (by rw [z]; exact h2))]
      · have Hb := lw.gh _ _ hb
        refine ⟨_, rfl, .ref b, .ref T.frac.C, .ref T.frac.C, .ref T.frac.C, true, rfl, .own _, T.frac.ty Hb, T.kFF, true, rfl, iteT ?_⟩
        refine ⟨_, rfl, a, T.frac.C, dx, _, _, rfl, Ha, T.frac.c, T.nNum, lk_num, _, rfl, b, T.frac.C, dy, _, _, rfl, Hb, T.frac.c, T.nNum, lk_num, rfl, _, rfl, ite2 (fun h3 => ?_) (fun h3 => k _ _ _ lw ?_)⟩
        · refine ⟨_, rfl, a, T.frac.C, dx, _, _, rfl, Ha, T.frac.c, T.nDen, lk_den, _, rfl, b, T.frac.C, dy, _, _, rfl, Hb, T.frac.c, T.nDen, lk_den, rfl, k _ _ _ lw ?_⟩
          have en : q1.num = q2.num := by simpa using h3
          show V.bl (decide (V.int q1.den = V.int q2.den)) = .bl (decide (q1 = q2))
          congr 1
          rw [decide_eq_decide]
          constructor
          · intro z
            exact Rat.ext en (by injection z with z; omega)
          · intro z
            rw [z]
        · have en : q1.num ≠ q2.num := by simpa using h3
          show V.bl false = .bl (decide (q1 = q2))
          rw [decide_eq_false (fun z => en (by rw [z]))]

end
end K06

namespace K06
open PySem PySem.Spec PyProof.Rows L2 UfG UfT UfR UfO UfI UfQ UfN
open Evl (Ex)
section
variable {P : Program} {w : World} {K : PySem.W.Frag} {mg : Str → Option Value} {base : Heap}
/-! ### the operators on numbers -/
section
variable {T : Tx K mg} {H0 G0 G H : Hp} {p : Option (Addr × Addr × Nat)} {ls : List (Addr × HO)} {Q : VK} {x y : V} {q1 q2 : Rat}
theorem r_add (lw : Lw H0 G0 p ls G H) (hx : Nm T.frac.C G x q1) (hy : Nm T.frac.C G y q2) (s1 : Sm 4000 q1) (s2 : Sm 4000 q2) (k : ∀ G' H' v, Ex G G' → Lw H0 G0 p ls G' H' → Nm T.frac.C G' v (q1 + q2) → Q v H') :
    rOwn2 T.frac.C (sp_f_add T) (sp_f_radd T) E0 (rI0 fun i j => .int (i + j)) x y H Q := by
  rcases hx with ⟨h1, rfl⟩ | ⟨h1, a, rfl, ha⟩
  · rcases hy with ⟨h2, rfl⟩ | ⟨h2, b, rfl, hb⟩
    · refine .inl ⟨_, _, rfl, rfl, _, _, rfl, rfl, k _ _ _ (Evl.Ex.refl _) lw ?_⟩
      rw [q_int h1, q_int h2, ofInt_num, ofInt_num, ← Rat.intCast_add]
      exact .ofInt _
    · obtain ⟨dx, hb'⟩ := id hb
      refine .inr (.inr ⟨_, b, dx, _, rfl, rfl, lw.gh _ _ hb', q2, q1, call_pure lw ⟨b, _, rfl, hb, ⟨h1, rfl⟩, h2, s2, s1⟩ fun G' H' v e l hv => k _ _ _ e l hv⟩)
  · obtain ⟨dx, ha'⟩ := id ha
    refine .inr (.inl ⟨a, dx, _, rfl, lw.gh _ _ ha', ?_, q1, q2, call_pure lw ⟨a, y, rfl, ha, hy, h1, s1, s2⟩ fun G' H' v e l hv => k _ _ _ e l hv⟩)
    rcases hy with ⟨h2, rfl⟩ | ⟨h2, b, rfl, dy, hb⟩
    · exact .inl ⟨_, rfl⟩
    · exact .inr ⟨b, dy, _, rfl, lw.gh _ _ hb⟩
theorem r_sub (lw : Lw H0 G0 p ls G H) (hx : Nm T.frac.C G x q1) (hy : Nm T.frac.C G y q2) (s1 : Sm 4000 q1) (s2 : Sm 4000 q2) (k : ∀ G' H' v, Ex G G' → Lw H0 G0 p ls G' H' → Nm T.frac.C G' v (q1 - q2) → Q v H') :
    rOwn2 T.frac.C (sp_f_sub T) (sp_f_rsub T) E0 (rI0 fun i j => .int (i - j)) x y H Q := by
  rcases hx with ⟨h1, rfl⟩ | ⟨h1, a, rfl, ha⟩
  · rcases hy with ⟨h2, rfl⟩ | ⟨h2, b, rfl, hb⟩
    · refine .inl ⟨_, _, rfl, rfl, _, _, rfl, rfl, k _ _ _ (Evl.Ex.refl _) lw ?_⟩
      rw [q_int h1, q_int h2, ofInt_num, ofInt_num, ← Rat.intCast_sub]
      exact .ofInt _
    · obtain ⟨dx, hb'⟩ := id hb
      refine .inr (.inr ⟨_, b, dx, _, rfl, rfl, lw.gh _ _ hb', q2, q1, call_pure lw ⟨b, _, rfl, hb, ⟨h1, rfl⟩, h2, s2, s1⟩ fun G' H' v e l hv => k _ _ _ e l hv⟩)
  · obtain ⟨dx, ha'⟩ := id ha
    refine .inr (.inl ⟨a, dx, _, rfl, lw.gh _ _ ha', ?_, q1, q2, call_pure lw ⟨a, y, rfl, ha, hy, h1, s1, s2⟩ fun G' H' v e l hv => k _ _ _ e l hv⟩)
    rcases hy with ⟨h2, rfl⟩ | ⟨h2, b, rfl, dy, hb⟩
    · exact .inl ⟨_, rfl⟩
    · exact .inr ⟨b, dy, _, rfl, lw.gh _ _ hb⟩
theorem r_mul (lw : Lw H0 G0 p ls G H) (hx : Nm T.frac.C G x q1) (hy : Nm T.frac.C G y q2) (s1 : Sm 4000 q1) (s2 : Sm 4000 q2) (k : ∀ G' H' v, Ex G G' → Lw H0 G0 p ls G' H' → Nm T.frac.C G' v (q1 * q2) → Q v H') :
    rOwn2 T.frac.C (sp_f_mul T) (sp_f_rmul T) E0 (rI CMulW fun i j => .int (i * j)) x y H Q := by
  rcases hx with ⟨h1, rfl⟩ | ⟨h1, a, rfl, ha⟩
  · rcases hy with ⟨h2, rfl⟩ | ⟨h2, b, rfl, hb⟩
    · refine .inl ⟨_, _, rfl, rfl, _, _, rfl, rfl, sm_mul s1.1 s2.1, k _ _ _ (Evl.Ex.refl _) lw ?_⟩
      rw [q_int h1, q_int h2, ofInt_num, ofInt_num, ← Rat.intCast_mul]
      exact .ofInt _
    · obtain ⟨dx, hb'⟩ := id hb
      refine .inr (.inr ⟨_, b, dx, _, rfl, rfl, lw.gh _ _ hb', q2, q1, call_pure lw ⟨b, _, rfl, hb, ⟨h1, rfl⟩, h2, s2, s1⟩ fun G' H' v e l hv => k _ _ _ e l hv⟩)
  · obtain ⟨dx, ha'⟩ := id ha
    refine .inr (.inl ⟨a, dx, _, rfl, lw.gh _ _ ha', ?_, q1, q2, call_pure lw ⟨a, y, rfl, ha, hy, h1, s1, s2⟩ fun G' H' v e l hv => k _ _ _ e l hv⟩)
    rcases hy with ⟨h2, rfl⟩ | ⟨h2, b, rfl, dy, hb⟩
    · exact .inl ⟨_, rfl⟩
    · exact .inr ⟨b, dy, _, rfl, lw.gh _ _ hb⟩
theorem r_neg (lw : Lw H0 G0 p ls G H) (hx : Nm T.frac.C G x q1) (s1 : Sm 4000 q1) (k : ∀ G' H' v, Ex G G' → Lw H0 G0 p ls G' H' → Nm T.frac.C G' v (-q1) → Q v H') : rOwnNeg T.frac.C (sp_f_neg T) E0 x H Q := by
  rcases hx with ⟨h1, rfl⟩ | ⟨h1, a, rfl, ha⟩
  · refine .inl ⟨_, rfl, k _ _ _ (Evl.Ex.refl _) lw ?_⟩
    rw [q_int h1, ofInt_num, ← Rat.intCast_neg]
    exact .ofInt _
  · obtain ⟨dx, ha'⟩ := id ha
    exact .inr ⟨a, dx, _, rfl, lw.gh _ _ ha', q1, call_pure lw ⟨a, rfl, ha, h1, s1⟩ fun G' H' v e l hv => k _ _ _ e l hv⟩
/-- x == y, x != y, for numbers -/
theorem r_eqN {neg : Bool} (lw : Lw H0 G0 p ls G H) (hx : Nm T.frac.C G x q1) (hy : Nm T.frac.C G y q2) (k : ∀ G' H', Ex G G' → Lw H0 G0 p ls G' H' → Q (.bl (if neg then !decide (q1 = q2) else decide (q1 = q2))) H') :
    rOwnEq T.frac.C (sp_f_eq T) E0 neg x y H Q := by
  rcases hx with ⟨h1, rfl⟩ | ⟨h1, a, rfl, ha⟩
  · rcases hy with ⟨h2, rfl⟩ | ⟨h2, b, rfl, hb⟩
    · refine .inr (.inr ⟨rfl, ?_⟩)
      have e : decide (V.int q1.num = V.int q2.num) = decide (q1 = q2) := by
        rw [decide_eq_decide]
        constructor
        · intro z
          injection z with z
          rw [q_int h1, q_int h2, z]
        · intro z
          rw [z]
      rw [e]
      exact k _ _ (Evl.Ex.refl _) lw
    · obtain ⟨dx, hb'⟩ := id hb
      refine .inr (.inl ⟨_, b, dx, _, rfl, rfl, lw.gh _ _ hb', q2, .num q1, call_pure lw ⟨b, _, rfl, hb, .inl ⟨h1, rfl⟩, h2⟩ fun G' H' v e l hv => ⟨_, hv, ?_⟩⟩)
      have e2 : Oth.is q2 (.num q1) = decide (q1 = q2) := decide_eq_decide.mpr ⟨Eq.symm, Eq.symm⟩
      rw [e2]
      exact k _ _ e l
  · obtain ⟨dx, ha'⟩ := id ha
    refine .inl ⟨a, dx, _, rfl, lw.gh _ _ ha', ?_, q1, .num q2, call_pure lw ⟨a, y, rfl, ha, hy, h1⟩ fun G' H' v e l hv => ⟨_, hv, k _ _ e l⟩⟩
    rcases hy with ⟨h2, rfl⟩ | ⟨h2, b, rfl, dy, hb⟩
    · exact .inl ⟨_, rfl⟩
    · exact .inr (.inr ⟨b, dy, _, rfl, lw.gh _ _ hb⟩)
end

/-! ### pieces, divided -/
theorem sc_pieces : FnScope ["number"] ["number"] (defScope s_pieces) := ⟨rfl, rfl, rfl, by decide +kernel, rfl, by decide +kernel, by decide +kernel⟩
def sp_pieces (T : Tx K mg) : Sp := fun vs H Q E => ∃ q : Rat, PureSp (fun vs G => ∃ x, vs = [x] ∧ Nm T.frac.C G x q) (fun _ _ G' v => ∃ t, v = .ref t ∧ G' t = some (.tup [.int q.num, .int q.den])) vs H Q E
theorem ok_pieces (T : Tx K mg) : FnOk P w K mg base CX0 2 T.pieces.f T.pieces.fd ["number"] (sp_pieces T) := by
  refine T.pieces.F.ok sc_pieces (fun vs H Q E h => ?_) (fun cdv A outer s H vs Q E hr h => ?_)
  · obtain ⟨q, G, _, ⟨x, rfl, _⟩, _⟩ := h
    rfl
  · obtain ⟨q, G, lw, ⟨x, rfl, hx⟩, k⟩ := h
    refine ⟨_, (pss_cons (ps_if (pt_val (pe_callB (UfK.call_isiK' (K := K)) (by rfl) T.z_isinstance (by decide +kernel) (pa_cons (pv 0) (pa_cons (pe_glob (v := .ref T.frac.C) rfl T.frac.g rfl) pa_nil)))) (pss_one (ps_ret (pe_tup (pa_cons (UfK.pe_fldK (K := K) (pv 0) rfl) (pa_cons (UfK.pe_fldK (K := K) (pv 0) rfl) pa_nil))))) pss_nil)
      (pss_one (ps_ret (pe_tup (pa_cons (pv 0) (pa_cons pe_int pa_nil)))))), ?_⟩
    rcases hx with ⟨h1, rfl⟩ | ⟨h1, a, rfl, dx, ha⟩
    · refine ⟨_, rfl, .int q.num, .ref T.frac.C, .type "int", .ref T.frac.C, false, rfl, .own _, .base (.int _), T.kIF, false, rfl, iteF ⟨_, rfl, (by show 2 ≤ sizeLine; decide), fun t n => ?_⟩⟩
      obtain ⟨G1, e1, lw, h⟩ := lw.allocE (o := .tup [.int q.num, .int 1]) n
      refine k _ _ _ lw ⟨t, rfl, ?_⟩
      rw [h1]
      exact h
    · have Ha := lw.gh _ _ ha
      refine ⟨_, rfl, .ref a, .ref T.frac.C, .ref T.frac.C, .ref T.frac.C, true, rfl, .own _, T.frac.ty Ha, T.kFF, true, rfl, iteT ⟨_, rfl, a, T.frac.C, dx, _, _, rfl, Ha, T.frac.c, T.nNum, lk_num, _, rfl, a, T.frac.C, dx, _, _, rfl, Ha, T.frac.c, T.nDen, lk_den, (by show 2 ≤ sizeLine; decide), fun t n => ?_⟩⟩
      obtain ⟨G1, e1, lw, h⟩ := lw.allocE (o := .tup [.int q.num, .int q.den]) n
      exact k _ _ _ lw ⟨t, rfl, h⟩
theorem sc_divided : FnScope ["first", "second", "top", "over_top", "bottom", "over_bottom"] ["first", "second"] (defScope s_divided) := ⟨rfl, rfl, rfl, by decide +kernel, rfl, by decide +kernel, by decide +kernel⟩
theorem q_div {a b : Rat} (h : b.num ≠ 0) : fr (a.num * b.den) (a.den * b.num) = a / b := by
  have e : b⁻¹ = fr b.den b.num := by
    conv => lhs; rw [← q_fr b]
    exact Rat.inv_divInt _ _
  rw [Rat.div_def, e]
  conv => rhs; rw [← q_fr a]
  exact (Rat.divInt_mul_divInt _ _).symm
def sp_divided (T : Tx K mg) : Sp := fun vs H Q E => ∃ q1 q2 : Rat, RaiseN (fun vs G => ∃ x y, vs = [x, y] ∧ Nm T.frac.C G x q1 ∧ Nm T.frac.C G y q2 ∧ Sm 4000 q1 ∧ Sm 4000 q2) (fun _ _ G' v => q2 ≠ 0 ∧ Nm T.frac.C G' v (q1 / q2)) (fun _ G' C e => q2 = 0 ∧ ErAt T .div G' C e) vs H Q E
theorem ok_divided (T : Tx K mg) : FnOk P w K mg base (L2N.CX P w) 6 T.divided.f T.divided.fd ["first", "second"] (sp_divided T) := by
  refine fun_okX T.divided.F sc_divided (fun vs H Q E h => ?_) (fun cdv A outer s H vs Q E hr h => ?_)
  · obtain ⟨q1, q2, G, _, ⟨x, y, rfl, _⟩, _⟩ := h
    rfl
  · obtain ⟨q1, q2, G, lw, ⟨x, y, rfl, hx, hy, s1, s2⟩, k, kx⟩ := h
    refine ⟨_, (pss_cons (ps_asg (pe_call (ok_pieces T) (hr.mono (by decide)) (by rfl) T.pieces.g T.pieces.F.kp T.pieces.b .nil pass0 (pa_cons (pv 0) pa_nil)) (UfK.pg_tupK (K := K) (n := 2) rfl (pgs_cons (pg_name (i := 2) sc_divided.nd rfl (.inl rfl)) (pgs_cons (pg_name (i := 3) sc_divided.nd rfl (.inl rfl)) pgs_nil))))
      (pss_cons (ps_asg (pe_call (ok_pieces T) (hr.mono (by decide)) (by rfl) T.pieces.g T.pieces.F.kp T.pieces.b .nil pass0 (pa_cons (pv 1) pa_nil)) (UfK.pg_tupK (K := K) (n := 2) rfl (pgs_cons (pg_name (i := 4) sc_divided.nd rfl (.inl rfl)) (pgs_cons (pg_name (i := 5) sc_divided.nd rfl (.inl rfl)) pgs_nil))))
      (pss_one (ps_ret (pe_callS (ok_ratio T) (hr.mono (by decide)) rfl T.ratio.g T.ratio.F.kp T.ratio.b (fun σ => L2N.passAt (L2N.takes_of rfl rfl rfl rfl) σ) (pa_cons (pe_op op_mulW (pv 2) (pv 5)) (pa_cons (pe_op op_mulW (pv 3) (pv 4)) pa_nil))))))), ?_⟩
    refine ⟨_, rfl, q1, call_pure lw ⟨x, rfl, hx⟩ fun G1 H1 v e1 lw hv => ?_⟩
    obtain ⟨t, rfl, ht⟩ := hv
    refine ⟨t, _, rfl, L2.SqT.of (lw.gh _ _ ht), rfl, _, _, rfl, _, _, rfl, rfl, ?_⟩
    refine ⟨_, rfl, q2, call_pure lw ⟨y, rfl, hy.ex e1⟩ fun G2 H2 v e2 lw hv => ?_⟩
    obtain ⟨u, rfl, hu⟩ := hv
    refine ⟨u, _, rfl, L2.SqT.of (lw.gh _ _ hu), rfl, _, _, rfl, _, _, rfl, rfl, ?_⟩
    have db : ((q1.den : Int) * q2.num).natAbs < 2 ^ 8000 := wide_lt (a := 4000) (b := 4000) (sm_den s1) s2.1
    refine ⟨_, rfl, _, rfl, _, _, rfl, rfl, sm_mul s1.1 (sm_den s2), _, rfl, _, rfl, _, _, rfl, rfl, sm_mul (sm_den s1) s2.1, _, _, call_raiseN lw ⟨rfl, db⟩ (fun G3 H3 v e3 lw hv => ?_) fun G3 H3 C q e3 lw hv => ?_⟩
    · have n2 : q2.num ≠ 0 := fun z => hv.1 (by rw [z, Int.mul_zero])
      have hv := hv.2
      rw [q_div n2] at hv
      exact k _ _ _ lw ⟨fun z => n2 (by rw [z]; rfl), hv⟩
    · have n2 : q2.num = 0 := (Int.mul_eq_zero.mp hv.1).resolve_left (den_ne q1)
      exact kx _ _ _ _ lw ⟨Rat.num_eq_zero.mp n2, hv.2⟩
end
end K06

namespace K06
open PySem PySem.Spec PyProof.Rows L2 UfG UfT UfR UfO UfI UfQ UfN
open Evl (Ex)
section
variable {P : Program} {w : World} {K : PySem.W.Frag} {mg : Str → Option Value} {base : Heap}
/-! ### the plain operations of a ground -/
theorem sc_in_form : FnScope ["prime", "value"] ["prime", "value"] (defScope s_in_form) := ⟨rfl, rfl, rfl, by decide +kernel, rfl, by decide +kernel, by decide +kernel⟩
def sp_in_form (T : Tx K mg) : Sp := fun vs H Q E => (∃ q : Rat, PureSp (fun vs G => ∃ x, vs = [.int 0, x] ∧ Nm T.frac.C G x q) (fun _ _ G' v => Nm T.frac.C G' v q) vs H Q E) ∨
  ∃ p i : Int, PureSp (fun vs _ => vs = [.int p, .int i] ∧ 0 < p) (fun _ _ _ v => v = .int (i.fmod p)) vs H Q E
theorem ok_in_form (T : Tx K mg) : FnOk P w K mg base CX0 2 T.in_form.f T.in_form.fd ["prime", "value"] (sp_in_form T) := by
  refine T.in_form.F.ok sc_in_form (fun vs H Q E h => ?_) (fun cdv A outer s H vs Q E hr h => ?_)
  · rcases h with ⟨q, G, _, ⟨x, rfl, _⟩, _⟩ | ⟨p, i, G, _, ⟨rfl, _⟩, _⟩ <;> rfl
  · refine ⟨_, (pss_one (ps_ret (pe_ifExp (pt_cmpR op_eq (pv 0) pe_int (nomark _)) (pv 1) (pe_op op_modN (pv 1) (pv 0))))), ?_⟩
    rcases h with ⟨q, G, lw, ⟨x, rfl, hx⟩, k⟩ | ⟨p, i, G, lw, ⟨rfl, hp⟩, k⟩
    · exact ⟨_, rfl, rfl, _, rfl, ite2 (fun _ => ⟨_, rfl, k _ _ _ lw hx⟩) (fun z => (z (decide_eq_true rfl)).elim)⟩
    · exact ⟨_, rfl, rfl, _, rfl, ite2 (fun z => absurd (show p = 0 by simpa using z) (by omega)) (fun _ => ⟨_, rfl, _, rfl, _, _, rfl, rfl, (show p ≠ 0 by omega), k _ _ _ lw rfl⟩)⟩
theorem sc_plain_sum : FnScope ["prime", "first", "second"] ["prime", "first", "second"] (defScope s_plain_sum) := ⟨rfl, rfl, rfl, by decide +kernel, rfl, by decide +kernel, by decide +kernel⟩
def sp_plain_sum (T : Tx K mg) : Sp := fun vs H Q E => (∃ q1 q2 : Rat, PureSp (fun vs G => ∃ x y, vs = [.int 0, x, y] ∧ Nm T.frac.C G x q1 ∧ Nm T.frac.C G y q2 ∧ Sm 4000 q1 ∧ Sm 4000 q2) (fun _ _ G' v => Nm T.frac.C G' v (q1 + q2)) vs H Q E) ∨
  ∃ p i j : Int, PureSp (fun vs _ => vs = [.int p, .int i, .int j] ∧ 0 < p) (fun _ _ _ v => v = .int ((i + j).fmod p)) vs H Q E
theorem ok_plain_sum (T : Tx K mg) : FnOk P w K mg base CX0 9 T.plain_sum.f T.plain_sum.fd ["prime", "first", "second"] (sp_plain_sum T) := by
  refine T.plain_sum.F.ok sc_plain_sum (fun vs H Q E h => ?_) (fun cdv A outer s H vs Q E hr h => ?_)
  · rcases h with ⟨q1, q2, G, _, ⟨x, y, rfl, _⟩, _⟩ | ⟨p, i, j, G, _, ⟨rfl, _⟩, _⟩ <;> rfl
  · refine ⟨_, (pss_cons (ps_if (pt_cmpR op_eq (pv 0) pe_int (nomark _)) (pss_one (ps_ret (pe_op (UfO.op_ownAdd (hr.mono (by decide)) T.frac.o T.oAdd (ok_f_add T) T.f_add.b (ok_f_radd T) T.f_radd.b pass0) (pv 1) (pv 2)))) pss_nil)
      (pss_one (ps_ret (pe_op op_modN (pe_op (UfO.op_ownAdd (hr.mono (by decide)) T.frac.o T.oAdd (ok_f_add T) T.f_add.b (ok_f_radd T) T.f_radd.b pass0) (pv 1) (pv 2)) (pv 0))))), ?_⟩
    rcases h with ⟨q1, q2, G, lw, ⟨x, y, rfl, hx, hy, s1, s2⟩, k⟩ | ⟨p, i, j, G, lw, ⟨rfl, hp⟩, k⟩
    · exact ⟨_, rfl, rfl, _, rfl, ite2 (fun _ => ⟨_, rfl, _, rfl, r_add lw hx hy s1 s2 fun G' H' v e lw hv => k _ _ _ lw hv⟩) (fun z => (z (decide_eq_true rfl)).elim)⟩
    · exact ⟨_, rfl, rfl, _, rfl, ite2 (fun z => absurd (show p = 0 by simpa using z) (by omega)) (fun _ => ⟨_, rfl, _, rfl, .inl ⟨_, _, rfl, rfl, _, _, rfl, rfl, _, rfl, _, _, rfl, rfl, (show p ≠ 0 by omega), k _ _ _ lw rfl⟩⟩)⟩
theorem sc_plain_times : FnScope ["prime", "first", "second"] ["prime", "first", "second"] (defScope s_plain_times) := ⟨rfl, rfl, rfl, by decide +kernel, rfl, by decide +kernel, by decide +kernel⟩
def sp_plain_times (T : Tx K mg) : Sp := fun vs H Q E => (∃ q1 q2 : Rat, PureSp (fun vs G => ∃ x y, vs = [.int 0, x, y] ∧ Nm T.frac.C G x q1 ∧ Nm T.frac.C G y q2 ∧ Sm 4000 q1 ∧ Sm 4000 q2) (fun _ _ G' v => Nm T.frac.C G' v (q1 * q2)) vs H Q E) ∨
  ∃ p i j : Int, PureSp (fun vs _ => vs = [.int p, .int i, .int j] ∧ 0 < p ∧ i.natAbs < 2 ^ 4000 ∧ j.natAbs < 2 ^ 4000) (fun _ _ _ v => v = .int ((i * j).fmod p)) vs H Q E
theorem ok_plain_times (T : Tx K mg) : FnOk P w K mg base CX0 9 T.plain_times.f T.plain_times.fd ["prime", "first", "second"] (sp_plain_times T) := by
  refine T.plain_times.F.ok sc_plain_times (fun vs H Q E h => ?_) (fun cdv A outer s H vs Q E hr h => ?_)
  · rcases h with ⟨q1, q2, G, _, ⟨x, y, rfl, _⟩, _⟩ | ⟨p, i, j, G, _, ⟨rfl, _⟩, _⟩ <;> rfl
  · refine ⟨_, (pss_cons (ps_if (pt_cmpR op_eq (pv 0) pe_int (nomark _)) (pss_one (ps_ret (pe_op (UfO.op_ownMul (hr.mono (by decide)) T.frac.o T.oMul (ok_f_mul T) T.f_mul.b (ok_f_rmul T) T.f_rmul.b pass0) (pv 1) (pv 2)))) pss_nil)
      (pss_one (ps_ret (pe_op op_modN (pe_op (UfO.op_ownMul (hr.mono (by decide)) T.frac.o T.oMul (ok_f_mul T) T.f_mul.b (ok_f_rmul T) T.f_rmul.b pass0) (pv 1) (pv 2)) (pv 0))))), ?_⟩
    rcases h with ⟨q1, q2, G, lw, ⟨x, y, rfl, hx, hy, s1, s2⟩, k⟩ | ⟨p, i, j, G, lw, ⟨rfl, hp, b1, b2⟩, k⟩
    · exact ⟨_, rfl, rfl, _, rfl, ite2 (fun _ => ⟨_, rfl, _, rfl, r_mul lw hx hy s1 s2 fun G' H' v e lw hv => k _ _ _ lw hv⟩) (fun z => (z (decide_eq_true rfl)).elim)⟩
    · exact ⟨_, rfl, rfl, _, rfl, ite2 (fun z => absurd (show p = 0 by simpa using z) (by omega)) (fun _ => ⟨_, rfl, _, rfl, .inl ⟨_, _, rfl, rfl, _, _, rfl, rfl, sm_mul b1 b2, _, rfl, _, _, rfl, rfl, (show p ≠ 0 by omega), k _ _ _ lw rfl⟩⟩)⟩
section
variable {T : Tx K mg} {H0 G0 G H : Hp} {p : Option (Addr × Addr × Nat)} {ls : List (Addr × HO)} {Q : VK} {x y : V} {q1 q2 : Rat} {i j m : Int}
theorem call_form0 (lw : Lw H0 G0 p ls G H) (hx : Nm T.frac.C G x q1) (k : ∀ G' H' v, Ex G G' → Lw H0 G0 p ls G' H' → Nm T.frac.C G' v q1 → Q v H') : sp_in_form T [.int 0, x] H Q E0 := .inl ⟨q1, call_pure lw ⟨x, rfl, hx⟩ k⟩
theorem call_formP (lw : Lw H0 G0 p ls G H) (hm : 0 < m) (k : ∀ G' H', Ex G G' → Lw H0 G0 p ls G' H' → Q (.int (i.fmod m)) H') : sp_in_form T [.int m, .int i] H Q E0 := .inr ⟨m, i, call_pure lw ⟨rfl, hm⟩ fun G' H' v e l (hv : v = _) => by
  subst hv
  exact k _ _ e l⟩
theorem call_times0 (lw : Lw H0 G0 p ls G H) (hx : Nm T.frac.C G x q1) (hy : Nm T.frac.C G y q2) (s1 : Sm 4000 q1) (s2 : Sm 4000 q2) (k : ∀ G' H' v, Ex G G' → Lw H0 G0 p ls G' H' → Nm T.frac.C G' v (q1 * q2) → Q v H') : sp_plain_times T [.int 0, x, y] H Q E0 :=
  .inl ⟨q1, q2, call_pure lw ⟨x, y, rfl, hx, hy, s1, s2⟩ k⟩
theorem call_timesP (lw : Lw H0 G0 p ls G H) (hm : 0 < m) (b1 : i.natAbs < 2 ^ 4000) (b2 : j.natAbs < 2 ^ 4000) (k : ∀ G' H', Ex G G' → Lw H0 G0 p ls G' H' → Q (.int ((i * j).fmod m)) H') : sp_plain_times T [.int m, .int i, .int j] H Q E0 :=
  .inr ⟨m, i, j, call_pure lw ⟨rfl, hm, b1, b2⟩ fun G' H' v e l (hv : v = _) => by
    subst hv
    exact k _ _ e l⟩
end
end
end K06

namespace K06
open PySem PySem.Spec PyProof.Rows L2 UfG UfT UfR UfO UfI UfQ UfN
open Evl (Ex)
theorem pow_addQ (q : Rat) (a b : Nat) : q ^ a * q ^ b = q ^ (a + b) := by
  induction b with
  | zero => rw [Rat.pow_zero, Rat.mul_one, Nat.add_zero]
  | succ b ih => rw [Rat.pow_succ, ← Rat.mul_assoc, ih, ← Nat.add_assoc, Rat.pow_succ]
theorem pow_one' (q : Rat) : q ^ 1 = q := by rw [show (1 : Nat) = 0 + 1 from rfl, Rat.pow_succ, Rat.pow_zero, Rat.one_mul]
theorem mod_mul {x p : Int} (hp : 0 < p) (a b : Nat) : ((x ^ a).fmod p * (x ^ b).fmod p).fmod p = (x ^ (a + b)).fmod p := by
  rw [Int.fmod_eq_emod_of_nonneg _ (Int.le_of_lt hp), Int.fmod_eq_emod_of_nonneg _ (Int.le_of_lt hp), Int.fmod_eq_emod_of_nonneg _ (Int.le_of_lt hp), Int.fmod_eq_emod_of_nonneg _ (Int.le_of_lt hp), Int.pow_add]
  exact (Int.mul_emod _ _ _).symm
theorem mod_lt {i p : Int} (hp : 0 < p) (b : p.natAbs < 2 ^ 4000) : (i.fmod p).natAbs < 2 ^ 4000 := by
  have := fmod_bd (i := i) hp
  omega
/-- the turns that are left -/
def left2 (σ : L2.St) : Nat := match σ[2]? with
  | some (some (V.int i)) => i.toNat
  | _ => 0
section
variable {P : Program} {w : World} {K : PySem.W.Frag} {mg : Str → Option Value} {base : Heap}
theorem sc_plain_power : FnScope ["prime", "number", "count", "result", "square"] ["prime", "number", "count"] (defScope s_plain_power) := ⟨rfl, rfl, rfl, by decide +kernel, rfl, by decide +kernel, by decide +kernel⟩
def sp_plain_power (T : Tx K mg) : Sp := fun vs H Q E => (∃ (q : Rat) (n : Nat), PureSp (fun vs G => ∃ x, vs = [.int 0, x, .int n] ∧ Nm T.frac.C G x q ∧ ∀ e ≤ n, Sm 4000 (q ^ e)) (fun _ _ G' v => Nm T.frac.C G' v (q ^ n)) vs H Q E) ∨
  ∃ (p i : Int) (n : Nat), PureSp (fun vs _ => vs = [.int p, .int i, .int n] ∧ 0 < p ∧ p.natAbs < 2 ^ 4000) (fun _ _ _ v => v = .int ((i ^ n).fmod p)) vs H Q E
theorem half_step {a s c n : Nat} (h : a + s * c = n) (hc : 0 < c) : (c % 2 = 1 → (c / 2 = 0 → a + s = n) ∧ (0 < c / 2 → a + s + (s + s) * (c / 2) = n)) ∧ (¬ c % 2 = 1 → 0 < c / 2 ∧ a + (s + s) * (c / 2) = n) := by
  have e : s * c = (s + s) * (c / 2) + s * (c % 2) := by
    conv => lhs; rw [← Nat.div_add_mod c 2]
    rw [Nat.mul_add, ← Nat.mul_assoc, Nat.mul_comm s 2, Nat.two_mul]
  constructor
  · intro o
    rw [o, Nat.mul_one] at e
    constructor
    · intro z
      rw [z, Nat.mul_zero] at e
      omega
    · intro _
      omega
  · intro o
    have z : c % 2 = 0 := by omega
    rw [z, Nat.mul_zero] at e
    constructor
    · omega
    · omega
theorem ok_plain_power (T : Tx K mg) : FnOk P w K mg base CX0 10 T.plain_power.f T.plain_power.fd ["prime", "number", "count"] (sp_plain_power T) := by
  refine T.plain_power.F.ok sc_plain_power (fun vs H Q E h => ?_) (fun cdv A outer s H vs Q E hr h => ?_)
  · rcases h with ⟨q, n, G, _, ⟨x, rfl, _⟩, _⟩ | ⟨p, i, n, G, _, ⟨rfl, _⟩, _⟩ <;> rfl
  · refine ⟨_, (pss_cons (ps_set (i := 3) sc_plain_power.nd rfl (.inl rfl) (pe_call (ok_in_form T) (hr.mono (by decide)) (by rfl) T.in_form.g T.in_form.F.kp T.in_form.b .nil pass0 (pa_cons (pv 0) (pa_cons pe_int pa_nil))))
      (pss_cons (ps_set (i := 4) sc_plain_power.nd rfl (.inl rfl) (pe_call (ok_in_form T) (hr.mono (by decide)) (by rfl) T.in_form.g T.in_form.F.kp T.in_form.b .nil pass0 (pa_cons (pv 0) (pa_cons (pv 1) pa_nil))))
      (pss_cons (ps_while PassesOwn.never (pt_cmpR op_gt (pv 2) pe_int (nomark _)) (pss_cons (ps_if (pt_cmpR op_eq (pe_op op_modN (pv 2) pe_int) pe_int (nomark _)) (pss_one (ps_set (i := 3) sc_plain_power.nd rfl (.inl rfl) (pe_call (ok_plain_times T) (hr.mono (by decide)) (by rfl) T.plain_times.g T.plain_times.F.kp T.plain_times.b .nil pass0 (pa_cons (pv 0) (pa_cons (pv 3) (pa_cons (pv 4) pa_nil)))))) pss_nil)
      (pss_cons (ps_set (i := 2) sc_plain_power.nd rfl (.inl rfl) (pe_op op_fdivW (pv 2) pe_int))
      (pss_one (ps_if (pt_cmpR op_gt (pv 2) pe_int (nomark _)) (pss_one (ps_set (i := 4) sc_plain_power.nd rfl (.inl rfl) (pe_call (ok_plain_times T) (hr.mono (by decide)) (by rfl) T.plain_times.g T.plain_times.F.kp T.plain_times.b .nil pass0 (pa_cons (pv 0) (pa_cons (pv 4) (pa_cons (pv 4) pa_nil)))))) pss_nil)))))
      (pss_one (ps_ret (pv 3)))))), ?_⟩
    rcases h with ⟨q, n, G, lw, ⟨x, rfl, hx, sm⟩, k⟩ | ⟨p, i, n, G, lw, ⟨rfl, hp, pb⟩, k⟩
    · have q1 : q ^ 1 = q := pow_one' q
      have one : Nm T.frac.C G (.int 1) (q ^ 0) := by
        rw [Rat.pow_zero]
        exact .ofInt 1
      refine ⟨_, rfl, call_form0 lw one fun G1 H1 v1 e1 lw h1 => ?_⟩
      refine ⟨_, rfl, _, rfl, call_form0 lw (hx.ex e1) fun G2 H2 v2 e2 lw h2 => ?_⟩
      refine while_by (fun σ H' => ∃ (G' : Hp) (c a s : Nat) (r z : V), σ = [some (.int 0), some x, some (.int c), some r, some z] ∧ Lw H G none [] G' H' ∧ Nm T.frac.C G' r (q ^ a) ∧ Nm T.frac.C G' z (q ^ s) ∧ (c = 0 → a = n) ∧ (0 < c → a + s * c = n)) (fun σ _ => left2 σ)
        ⟨G2, n, 0, 1, v1, v2, rfl, lw, h1.ex e2, by rw [q1]; exact h2, fun z => z.symm, fun _ => by rw [Nat.zero_add, Nat.one_mul]⟩ (fun σ H' hp => ?_) (fun σ H Q Q' h ⟨v, hv, i, j, e1, e2, k, e3, q⟩ => ⟨v, hv, i, j, e1, e2, k, e3, h _ _ q⟩)
      obtain ⟨G', c, a, s, r, z, rfl, lw, hr', hz, c0, c1⟩ := hp
      refine ⟨_, rfl, _, _, rfl, rfl, _, rfl, ite2 (fun h => ?_) (fun h => ?_)⟩
      · have cp : 0 < c := by simpa using h
        have inv := c1 cp
        have al : a ≤ n := by omega
        have sl : s ≤ n := by
          have := Nat.mul_le_mul_left s cp
          omega
        obtain ⟨odd, even⟩ := half_step inv cp
        have em : ((c : Int).fmod 2) = ((c % 2 : Nat) : Int) := by rw [Int.fmod_eq_emod_of_nonneg _ (by decide)]; rfl
        have ed : ((c : Int) / 2) = ((c / 2 : Nat) : Int) := rfl
        -- the rest of the turn
        have fin : ∀ (bk ct : L2.St → Hp → Prop) (G1 H1 : Hp) (a' : Nat) (r' : V), Lw H G none [] G1 H1 → Nm T.frac.C G1 r' (q ^ a') → Nm T.frac.C G1 z (q ^ s) → (c / 2 = 0 → a' = n) → (0 < c / 2 → a' + (s + s) * (c / 2) = n) →
            tSeq (tAsg (tOp (rI CDivW fun i j => .int (i / j)) (tVar 2) (tC (.int 2))) (gName 2)) (tIfS (tTest (tOp (rI0 fun i j => .bl (decide (j < i))) (tVar 2) (tC (.int 0)))) (tAsg (tCall (sp_plain_times T) [] E0 (tCons (tVar 0) (tCons (tVar 4) (tCons (tVar 4) tNil)))) (gName 4)) tNext)
              { nx := fun σ' H' => (∃ (G' : Hp) (c a s : Nat) (r z : V), σ' = [some (.int 0), some x, some (.int c), some r, some z] ∧ Lw H G none [] G' H' ∧ Nm T.frac.C G' r (q ^ a) ∧ Nm T.frac.C G' z (q ^ s) ∧ (c = 0 → a = n) ∧ (0 < c → a + s * c = n)) ∧ left2 σ' < c,
                rt := Q, bk := bk, ct := ct } [some (.int 0), some x, some (.int c), some r', some z] H1 := fun bk ct G1 H1 a' r' lw hr' hz z0 z1 => by
          refine ⟨_, rfl, _, _, rfl, rfl, divW_of ⟨by decide, by decide⟩, _, rfl, _, _, rfl, rfl, _, rfl, ite2 (fun h => ?_) (fun h => ?_)⟩
          · have cq : 0 < c / 2 := by
              rw [ed] at h
              simp at h
              omega
            refine ⟨_, rfl, _, rfl, _, rfl, call_times0 lw hz hz (sm s sl) (sm s sl) fun G2 H2 v e lw hv => ⟨⟨G2, c / 2, a', s + s, r', v, rfl, lw, hr'.ex e, ?_, fun y => absurd y (by omega), fun _ => z1 cq⟩, Nat.div_lt_self cp (by decide)⟩⟩
            rw [pow_addQ] at hv
            exact hv
          · have cq : c / 2 = 0 := by
              rw [ed] at h
              simp at h
              omega
            exact ⟨⟨G1, c / 2, a', s, r', z, rfl, lw, hr', hz, fun _ => z0 cq, fun y => absurd y (by omega)⟩, Nat.div_lt_self cp (by decide)⟩
        -- if count % 2 == 1
        refine ⟨_, rfl, _, _, rfl, rfl, (show (2 : Int) ≠ 0 by decide), rfl, _, rfl, ite2 (fun h => ?_) (fun h => ?_)⟩
        · have o : c % 2 = 1 := by
            have z : (c : Int).fmod 2 = 1 := by simpa using h
            omega
          refine ⟨_, rfl, _, rfl, _, rfl, call_times0 lw hr' hz (sm a al) (sm s sl) fun G1 H1 v e lw hv => ?_⟩
          rw [pow_addQ] at hv
          exact fin _ _ G1 H1 (a + s) v lw hv (hz.ex e) (odd o).1 (odd o).2
        · have o : ¬ c % 2 = 1 := fun z => h (by
            have : (c : Int).fmod 2 = 1 := by omega
            simp [this])
          exact fin _ _ G' H' a r lw hr' hz (fun z => absurd z (by have := (even o).1; omega)) fun _ => (even o).2
      · have c0' : c = 0 := by
          simp at h
          omega
        refine ⟨_, rfl, k _ _ _ lw ?_⟩
        rw [← c0 c0']
        exact hr'
    · have one : (1 : Int).fmod p = (i ^ 0).fmod p := by rw [Int.pow_zero]
      refine ⟨_, rfl, call_formP lw hp fun G1 H1 e1 lw => ?_⟩
      refine ⟨_, rfl, _, rfl, call_formP lw hp fun G2 H2 e2 lw => ?_⟩
      refine while_by (fun σ H' => ∃ (G' : Hp) (c a s : Nat), σ = [some (.int p), some (.int i), some (.int c), some (.int ((i ^ a).fmod p)), some (.int ((i ^ s).fmod p))] ∧ Lw H G none [] G' H' ∧ (c = 0 → a = n) ∧ (0 < c → a + s * c = n)) (fun σ _ => left2 σ)
        ⟨G2, n, 0, 1, by rw [Int.pow_succ, Int.pow_zero, Int.one_mul]; rfl, lw, fun z => z.symm, fun _ => by rw [Nat.zero_add, Nat.one_mul]⟩ (fun σ H' hp => ?_) (fun σ H Q Q' h ⟨v, hv, i, j, e1, e2, k, e3, q⟩ => ⟨v, hv, i, j, e1, e2, k, e3, h _ _ q⟩)
      obtain ⟨G', c, a, s, rfl, lw, c0, c1⟩ := hp
      refine ⟨_, rfl, _, _, rfl, rfl, _, rfl, ite2 (fun h => ?_) (fun h => ?_)⟩
      · have cp : 0 < c := by simpa using h
        obtain ⟨odd, even⟩ := half_step (c1 cp) cp
        have em : ((c : Int).fmod 2) = ((c % 2 : Nat) : Int) := by rw [Int.fmod_eq_emod_of_nonneg _ (by decide)]; rfl
        have ed : ((c : Int) / 2) = ((c / 2 : Nat) : Int) := rfl
        have fin : ∀ (bk ct : L2.St → Hp → Prop) (G1 H1 : Hp) (a' : Nat), Lw H G none [] G1 H1 → (c / 2 = 0 → a' = n) → (0 < c / 2 → a' + (s + s) * (c / 2) = n) →
            tSeq (tAsg (tOp (rI CDivW fun i j => .int (i / j)) (tVar 2) (tC (.int 2))) (gName 2)) (tIfS (tTest (tOp (rI0 fun i j => .bl (decide (j < i))) (tVar 2) (tC (.int 0)))) (tAsg (tCall (sp_plain_times T) [] E0 (tCons (tVar 0) (tCons (tVar 4) (tCons (tVar 4) tNil)))) (gName 4)) tNext)
              { nx := fun σ' H' => (∃ (G' : Hp) (c a s : Nat), σ' = [some (.int p), some (.int i), some (.int c), some (.int ((i ^ a).fmod p)), some (.int ((i ^ s).fmod p))] ∧ Lw H G none [] G' H' ∧ (c = 0 → a = n) ∧ (0 < c → a + s * c = n)) ∧ left2 σ' < c,
                rt := Q, bk := bk, ct := ct } [some (.int p), some (.int i), some (.int c), some (.int ((i ^ a').fmod p)), some (.int ((i ^ s).fmod p))] H1 := fun bk ct G1 H1 a' lw z0 z1 => by
          refine ⟨_, rfl, _, _, rfl, rfl, divW_of ⟨by decide, by decide⟩, _, rfl, _, _, rfl, rfl, _, rfl, ite2 (fun h => ?_) (fun h => ?_)⟩
          · have cq : 0 < c / 2 := by
              rw [ed] at h
              simp at h
              omega
            refine ⟨_, rfl, _, rfl, _, rfl, call_timesP lw hp (mod_lt hp pb) (mod_lt hp pb) fun G2 H2 e lw => ⟨⟨G2, c / 2, a', s + s, ?_, lw, fun y => absurd y (by omega), fun _ => z1 cq⟩, Nat.div_lt_self cp (by decide)⟩⟩
            rw [mod_mul hp]
            rfl
          · have cq : c / 2 = 0 := by
              rw [ed] at h
              simp at h
              omega
            exact ⟨⟨G1, c / 2, a', s, rfl, lw, fun _ => z0 cq, fun y => absurd y (by omega)⟩, Nat.div_lt_self cp (by decide)⟩
        refine ⟨_, rfl, _, _, rfl, rfl, (show (2 : Int) ≠ 0 by decide), rfl, _, rfl, ite2 (fun h => ?_) (fun h => ?_)⟩
        · have o : c % 2 = 1 := by
            have z : (c : Int).fmod 2 = 1 := by simpa using h
            omega
          refine ⟨_, rfl, _, rfl, _, rfl, call_timesP lw hp (mod_lt hp pb) (mod_lt hp pb) fun G1 H1 e lw => ?_⟩
          rw [mod_mul hp]
          exact fin _ _ G1 H1 (a + s) lw (odd o).1 (odd o).2
        · have o : ¬ c % 2 = 1 := fun z => h (by
            have : (c : Int).fmod 2 = 1 := by omega
            simp [this])
          exact fin _ _ G' H' a lw (fun z => absurd z (by have := (even o).1; omega)) fun _ => (even o).2
      · have c0' : c = 0 := by
          simp at h
          omega
        refine ⟨_, rfl, k _ _ _ lw ?_⟩
        rw [← c0 c0']
end
end K06

namespace K06
open PySem PySem.Spec PyProof.Rows L2 UfG UfT UfR UfO UfI UfQ UfN
open Evl (Ex)
section
variable {P : Program} {w : World} {K : PySem.W.Frag} {mg : Str → Option Value} {base : Heap}
section
variable {T : Tx K mg} {H0 G0 G H : Hp} {p : Option (Addr × Addr × Nat)} {ls : List (Addr × HO)} {Q : VK} {x y : V} {q q1 q2 : Rat} {i j m : Int} {n : Nat}
theorem call_power0 (lw : Lw H0 G0 p ls G H) (hx : Nm T.frac.C G x q) (sm : ∀ e ≤ n, Sm 4000 (q ^ e)) (k : ∀ G' H' v, Ex G G' → Lw H0 G0 p ls G' H' → Nm T.frac.C G' v (q ^ n) → Q v H') : sp_plain_power T [.int 0, x, .int n] H Q E0 :=
  .inl ⟨q, n, call_pure lw ⟨x, rfl, hx, sm⟩ k⟩
theorem call_powerP (lw : Lw H0 G0 p ls G H) (hm : 0 < m) (mb : m.natAbs < 2 ^ 4000) (k : ∀ G' H', Ex G G' → Lw H0 G0 p ls G' H' → Q (.int ((i ^ n).fmod m)) H') : sp_plain_power T [.int m, .int i, .int n] H Q E0 :=
  .inr ⟨m, i, n, call_pure lw ⟨rfl, hm, mb⟩ fun G' H' v e l (hv : v = _) => by
    subst hv
    exact k _ _ e l⟩
end
theorem sc_plain_over : FnScope ["prime", "first", "second"] ["prime", "first", "second"] (defScope s_plain_over) := ⟨rfl, rfl, rfl, by decide +kernel, rfl, by decide +kernel, by decide +kernel⟩
def sp_plain_over (T : Tx K mg) : Sp := fun vs H Q E =>
  (∃ q1 q2 : Rat, RaiseN (fun vs G => ∃ x y, vs = [.int 0, x, y] ∧ Nm T.frac.C G x q1 ∧ Nm T.frac.C G y q2 ∧ Sm 4000 q1 ∧ Sm 4000 q2) (fun _ _ G' v => q2 ≠ 0 ∧ Nm T.frac.C G' v (q1 / q2)) (fun _ G' C e => q2 = 0 ∧ ErAt T .div G' C e) vs H Q E) ∨
  ∃ p i j : Int, RaiseN (fun vs _ => vs = [.int p, .int i, .int j] ∧ 2 ≤ p ∧ p.natAbs < 2 ^ 4000 ∧ i.natAbs < 2 ^ 4000) (fun _ _ _ v => j.fmod p ≠ 0 ∧ v = .int ((i * (j ^ (p - 2).toNat).fmod p).fmod p)) (fun _ G' C e => j.fmod p = 0 ∧ ErAt T .div G' C e) vs H Q E
theorem ok_plain_over (T : Tx K mg) : FnOk P w K mg base (L2N.CX P w) 11 T.plain_over.f T.plain_over.fd ["prime", "first", "second"] (sp_plain_over T) := by
  refine fun_okX T.plain_over.F sc_plain_over (fun vs H Q E h => ?_) (fun cdv A outer s H vs Q E hr h => ?_)
  · rcases h with ⟨q1, q2, G, _, ⟨x, y, rfl, _⟩, _⟩ | ⟨p, i, j, G, _, ⟨rfl, _⟩, _⟩ <;> rfl
  · refine ⟨_, (pss_cons (ps_if (pt_cmpR op_eq (pv 0) pe_int (nomark _)) (pss_one (ps_ret (pe_callS (ok_divided T) (hr.mono (by decide)) rfl T.divided.g T.divided.F.kp T.divided.b (fun σ => L2N.passAt (L2N.takes_of rfl rfl rfl rfl) σ) (pa_cons (pv 1) (pa_cons (pv 2) pa_nil))))) pss_nil)
      (pss_cons (ps_if (pt_cmpR op_eq (pe_op op_modN (pv 2) (pv 0)) pe_int (nomark _)) (pss_one (L2N.ps_raise rfl (L2N.takes_of rfl rfl rfl rfl) (UfR.pmk_own0N PySem.F.excBase_ValueError T.cDiv.q T.cDiv.g T.cDiv.kC T.cDiv.r rfl))) pss_nil)
      (pss_one (ps_ret (pe_op op_modN (pe_op (UfO.op_ownMul (hr.mono (by decide)) T.frac.o T.oMul (ok_f_mul T) T.f_mul.b (ok_f_rmul T) T.f_rmul.b pass0) (pv 1) (pe_call (ok_plain_power T) (hr.mono (by decide)) (by rfl) T.plain_power.g T.plain_power.F.kp T.plain_power.b .nil pass0 (pa_cons (pv 0) (pa_cons (pv 2) (pa_cons (pe_op op_sub (pv 0) pe_int) pa_nil))))) (pv 0)))))), ?_⟩
    rcases h with ⟨q1, q2, G, lw, ⟨x, y, rfl, hx, hy, s1, s2⟩, k, kx⟩ | ⟨p, i, j, G, lw, ⟨rfl, hp, pb, ib⟩, k, kx⟩
    · exact ⟨_, rfl, rfl, _, rfl, ite2 (fun _ => ⟨_, rfl, _, rfl, q1, q2, call_raiseN lw ⟨x, y, rfl, hx, hy, s1, s2⟩ (fun G' H' v e lw hv => k _ _ _ lw hv) fun G' H' C q e lw hv => kx _ _ _ _ lw hv⟩) (fun z => (z (decide_eq_true rfl)).elim)⟩
    · refine ⟨_, rfl, rfl, _, rfl, ite2 (fun z => absurd (show p = 0 by simpa using z) (by omega)) (fun _ => ?_)⟩
      refine ⟨_, rfl, _, rfl, _, _, rfl, rfl, (show p ≠ 0 by omega), rfl, _, rfl, ite2 (fun h => ?_) (fun h => ?_)⟩
      · exact kx _ _ _ _ lw ⟨by simpa using h, rfl, rfl⟩
      · have h : j.fmod p ≠ 0 := by simpa using h
        refine ⟨_, rfl, _, rfl, _, rfl, _, rfl, _, _, rfl, rfl, ?_⟩
        show sp_plain_power T [.int p, .int j, .int (p - 2)] H _ E0
        have e2 : p - 2 = ((p - 2).toNat : Int) := by omega
        rw [e2]
        refine call_powerP lw (by omega) pb fun G1 H1 e lw => ?_
        exact .inl ⟨_, _, rfl, rfl, _, _, rfl, rfl, sm_mul ib (mod_lt (by omega) pb), _, rfl, _, _, rfl, rfl, (show p ≠ 0 by omega), k _ _ _ lw ⟨h, rfl⟩⟩
theorem _root_.UfN.Nm.toInt {F : Addr} {G : Hp} {v : V} {i : Int} (h : Nm F G v (i : Rat)) : v = .int i := by
  rcases h with ⟨h, e⟩ | ⟨h, _⟩
  · rw [e, ofInt_num]
  · exact absurd rfl h
theorem sm_of_int {b : Nat} {i : Int} (h : i.natAbs < 2 ^ b) (hb : 0 < b := by decide) : Sm b (i : Rat) := ⟨by rw [ofInt_num]; exact h, by show 1 < 2 ^ b; exact Nat.one_lt_two_pow (by omega)⟩
end
end K06

namespace K06
open PySem PySem.Spec PyProof.Rows L2 UfG UfT UfR UfO UfI UfQ UfN
open Evl (Ex)
section
variable {P : Program} {w : World} {K : PySem.W.Frag} {mg : Str → Option Value} {base : Heap}
theorem inV_ints {p : Int} {ns : List Int} : inV (.int p) (ns.map V.int) = ns.contains p := by
  induction ns with
  | nil => rfl
  | cons n ns ih =>
    rw [List.map_cons, List.contains_cons, ← ih]
    show (eqV (.int n) (.int p) || _) = _
    congr 1
    show (n == p) = (p == n)
    exact Bool.beq_comm ..
/-- the grounds -/
def fitP (p : Int) : Bool := decide (p = 0) || [2, 3, 5, 7, 11, 13, 17, 19, 23, 29, 31].contains p
/-- the object at a is the ground p -/
def GrAt (C : Addr) (G : Hp) (a : Addr) (p : Int) : Prop := ∃ dx, G a = some (.ins C dx [("prime", .int p)])
theorem GrAt.ex {C : Addr} {G G' : Hp} {a : Addr} {p : Int} (e : Ex G G') (h : GrAt C G a p) : GrAt C G' a p := by
  obtain ⟨dx, h⟩ := h
  exact ⟨dx, e _ _ h⟩
theorem sc_g_init : FnScope ["self", "prime"] ["self", "prime"] (defScope s_g_init) := ⟨rfl, rfl, rfl, by decide +kernel, rfl, by decide +kernel, by decide +kernel⟩
def sp_g_init (T : Tx K mg) : Sp := fun vs H Q E => ∃ p : Int, InitSp T.ground.C (fun ws _ => ws = [.int p]) (fun _ _ G' x => fitP p = true ∧ GrAt T.ground.C G' x p)
  (fun _ G' C e => fitP p = false ∧ ErAt T (.prime p) G' C e) vs H Q E
theorem ok_g_init (T : Tx K mg) : FnOk P w K mg base (L2N.CX P w) 3 T.g_init.f T.g_init.fd ["self", "prime"] (sp_g_init T) := by
  refine T.g_init.F.ok sc_g_init (fun vs H Q E h => ?_) (fun cdv A outer s H vs Q E hr h => ?_)
  · obtain ⟨p, H1, G, x, dx, ws, rfl, _, rfl, _⟩ := h
    rfl
  · obtain ⟨p, H1, G, x, dx, ws, rfl, lw, rfl, k, kx⟩ := h
    refine ⟨_, (pss_cons (ps_if (PW.pt (pw_and (pt_cmpR op_ne (pv 1) pe_int (nomark _)) (pw_and1 (pt_cmpR (UfK.op_notInK (K := K)) (pv 1) (pe_glob (v := .ref T.PRIMES.t) rfl T.PRIMES.g rfl) (by rfl))))) (pss_one (L2N.ps_raise rfl (L2N.takes_of rfl rfl rfl rfl) (UfH.pmk_oexN T.cPrime.T T.cPrime.iC T.cPrime.tI (oki_prime T) (hr.mono (by decide)) T.cPrime.b rfl T.cPrime.g (pa_cons (pv 1) pa_nil)))) pss_nil)
      (pss_one (ps_fld (pv 0) (pv 1) rfl))), ?_⟩
    have hmem : inV (.int p) ([2, 3, 5, 7, 11, 13, 17, 19, 23, 29, 31].map V.int) = [2, 3, 5, 7, 11, 13, 17, 19, 23, 29, 31].contains p := inV_ints
    have fin : ∀ (bk ct : L2.St → Hp → Prop), fitP p = true → sFld K (tVar 0) (tVar 1) "prime" { nx := fun _ H' => Q .non H', rt := Q, bk := bk, ct := ct } [some (.ref x), some (.int p)] H := fun bk ct h => by
      refine ⟨_, rfl, _, rfl, x, T.ground.C, dx, [], rfl, lw.at, T.ground.c, T.nPrime, (by decide), ?_⟩
      have lw := lw.put (o' := .ins T.ground.C dx [("prime", .int p)])
      obtain ⟨lw, _⟩ := lw.keep
      exact k _ _ lw ⟨h, dx, upd_same⟩
    refine ⟨_, rfl, rfl, _, rfl, ite2 (fun h => ⟨_, rfl, T.PRIMES.t, _, rfl, .inr (T.PRIMES.s _), rfl, rfl, _, rfl, ite2 (fun h2 => ?_) (fun h2 => fin _ _ ?_)⟩) (fun h => fin _ _ ?_)⟩
    · rw [hmem] at h2
      have h : p ≠ 0 := by simpa using h
      refine ⟨_, rfl, mk1_of T.cPrime.T T.noPrime fun q hq => ?_⟩
      refine kx _ _ _ (some q) (lw.drop.alloc hq) ⟨?_, rfl, q, rfl, upd_same⟩
      unfold fitP
      rw [decide_eq_false h, Bool.false_or]
      simpa using h2
    · rw [hmem] at h2
      unfold fitP
      have h2 : [2, 3, 5, 7, 11, 13, 17, 19, 23, 29, 31].contains p = true := by
        cases z : [2, 3, 5, 7, 11, 13, 17, 19, 23, 29, 31].contains p with
        | true => rfl
        | false => exact absurd (by rw [z]; rfl) h2
      rw [h2, Bool.or_true]
    · have h : p = 0 := by simpa using h
      rw [h]
      rfl
end
end K06

namespace K06
open PySem PySem.Spec PyProof.Rows L2 UfG UfT UfR UfO UfI UfQ UfN
open Evl (Ex)
section
variable {P : Program} {w : World} {K : PySem.W.Frag} {mg : Str → Option Value} {base : Heap}
theorem at_int {ns : List Int} {i : Nat} {x : V} (h : (ns.map V.int)[i]? = some x) : ∃ n, ns[i]? = some n ∧ x = .int n := by
  rw [List.getElem?_map] at h
  cases e : ns[i]? with
  | none =>
    rw [e] at h
    cases h
  | some n =>
    rw [e] at h
    exact ⟨n, rfl, (Option.some.inj h).symm⟩
theorem sc_pool : FnScope ["script", "cells", "parts", "cell", "k"] ["script"] (defScope s_pool) := ⟨rfl, rfl, rfl, by decide +kernel, rfl, by decide +kernel, by decide +kernel⟩
def sp_pool (K : PySem.W.Frag) : Sp := fun vs H Q _ => ∃ (a : Addr) (ns : List Int), vs = [.ref a] ∧ SqL K H a (ns.map V.int) ∧ ∀ (H' : Hp) (p c : Addr), Lw H' (fun _ => none) (some (p, c, 0)) [] (fun _ => none) H' → Q (.ref p) H'
theorem ok_pool (T : Tx K mg) : FnOk P w K mg base CX0 2 T.pool.f T.pool.fd ["script"] (sp_pool K) := by
  refine T.pool.F.ok sc_pool (fun vs H Q E h => ?_) (fun cdv A outer s H vs Q E hr h => ?_)
  · obtain ⟨a, ns, rfl, _⟩ := h
    rfl
  · obtain ⟨a, ns, rfl, hS, k⟩ := h
    refine ⟨_, (pss_cons (ps_set (i := 1) sc_pool.nd rfl (.inr rfl) (pe_lc (own := [("cell", 3)]) rfl sc_pool.nd (UfK.pi_listK (K := K) (pe_slice (UfK.sl_listK (K := K)) (pv 0) po_none (po_some pe_int))) (blkOk_by (own := [("cell", 3)]) (N := ["script", "cells", "parts", "cell", "k"]) (sc := defScope s_pool) (by decide +kernel)) (fun _ _ _ _ _ => by exact pg_name (i := 3) sc_pool.nd rfl (.inl rfl)) (fun _ _ _ _ _ => pts_nil) (fun _ _ _ _ _ => (pe_op op_modN (pe_callTy call_int1 (by rfl) T.z_int (by decide +kernel) (pa_cons (pv 3) pa_nil)) (pe_op op_pow pe_int pe_int)))))
      (pss_cons (ps_setLc (i := 2) (own := [("k", 4)]) rfl sc_pool.nd rfl rfl (sw_true rfl rfl rfl (by decide +kernel)) (pi_range1 rfl T.z_range (pa_cons (pe_callB (UfK.call_lenK (K := K)) (by rfl) T.z_len (by decide +kernel) (pa_cons (pv 1) pa_nil)) pa_nil)) (blkOk_by (own := [("k", 4)]) (N := ["script", "cells", "parts", "cell", "k"]) (sc := defScope s_pool) (by decide +kernel)) (fun _ _ _ _ _ => by exact pg_name (i := 4) sc_pool.nd rfl (.inl rfl)) (fun _ _ _ _ _ => pts_nil) (fun _ _ _ _ _ => (pe_op op_mulW (pe_op op_modN (pe_callTy call_int1 (by rfl) T.z_int (by decide +kernel) (pa_cons (pe_ix (UfK.ix_listK (K := K)) (pv 1) (pv 4) (fun _ _ => rfl)) pa_nil)) pe_int) (pe_op op_add (pv 4) pe_int))))
      (pss_one (ps_ret (pe_lst (pa_cons pe_int (pa_cons pe_int (pa_cons (pv 1) (pa_cons pe_int (pa_cons (pe_op op_add (pe_callB (UfK.call_lenK (K := K)) (by rfl) T.z_len (by decide +kernel) (pa_cons (pv 1) pa_nil)) (pe_callB (UfK.cr_sumK (K := K) rfl) (by rfl) T.z_sum (by decide +kernel) (pa_cons (pv 2) pa_nil))) pa_nil)))))))))), ?_⟩
    have lw : Lw H (fun _ => none) none [] (fun _ => none) H := .refl (fun _ _ h => nomatch h)
    -- cells = [int(cell) % 10 ** 60 for cell in script[:63]]
    refine ⟨_, rfl, 63, rfl, a, _, rfl, hS, fun t0 n0 => ?_⟩
    rw [show cutV (ns.map V.int) none (some 63) = (ns.take 63).map V.int from (cutV_take _ 63).trans List.map_take.symm]
    have few : (ns.take 63).length ≤ 63 := by
      rw [List.length_take]
      omega
    generalize ns.take 63 = ms at few
    obtain ⟨G1, e1, lw, h0⟩ := lw.allocE (o := .lst (ms.map V.int)) n0
    refine ⟨t0, rfl, ⟨_, SqL.g lw h0⟩, fun D hD => ?_⟩
    refine it_list (K := K) (a := t0) (xs := ms.map V.int) (fun j H2 => ∃ (acc : List Int) (G2 : Hp), Lw H (fun _ => none) none [(D, .lst (acc.map V.int))] G2 H2 ∧ G2 t0 = some (.lst (ms.map V.int)) ∧ acc.length = j ∧ ∀ z ∈ acc, 0 ≤ z ∧ z < 2 ^ 200)
      ⟨[], _, lw.make hD, h0, rfl, by simp⟩ (fun j H2 _ hp => ?_) (fun j x H2 hx hp => ?_) (fun H2 hp => ?_)
    · obtain ⟨acc, G2, lw, h0, _⟩ := hp
      exact SqL.g lw h0
    · obtain ⟨acc, G2, lw, h0, la, ba⟩ := hp
      obtain ⟨n, hn, rfl⟩ := at_int hx
      have hlt : j < ms.length := (List.getElem?_eq_some_iff.mp hn).1
      refine ⟨rfl, _, rfl, Or.inl ⟨n, rfl, _, _, rfl, rfl, pow_small (by decide) (by decide), _, _, rfl, rfl, (show (10 : Int) ^ (60 : Int).toNat ≠ 0 by decide), acc.map V.int, lw.at, Evl.sz_lt (by rw [List.length_map]; omega), acc ++ [n.fmod ((10 : Int) ^ (60 : Int).toNat)], G2, ?_, h0, by rw [List.length_append, la]; rfl, fun z hz => ?_⟩⟩
      · rw [List.map_append]
        exact lw.put
      · rcases List.mem_append.mp hz with hz | hz
        · exact ba z hz
        · rw [List.mem_singleton.mp hz, ten60]
          have := fmod_bd (i := n) (j := 1000000000000000000000000000000000000000000000000000000000000) (by decide)
          omega
    · obtain ⟨cells, G2, lw, h0, la, ba⟩ := hp
      rw [List.length_map] at la
      obtain ⟨lw, e2⟩ := lw.keep
      have hD' : (upd G2 D (.lst (cells.map V.int))) D = some (.lst (cells.map V.int)) := upd_same
      generalize upd G2 D (.lst (cells.map V.int)) = G3 at lw e2 hD'
      -- parts = [int(cells[k]) % 1000003 * (k + 1) for k in range(len(cells))]
      refine ⟨_, rfl, D, _, rfl, .inl (SqL.g lw hD'), ?_⟩
      rw [List.length_map]
      refine ⟨_, rfl, by omega, by omega, fun D2 hD2 => ?_⟩
      refine it_rng (lo := 0) (n := ((cells.length : Nat) : Int).toNat) (fun j H2 => ∃ (acc : List Int) (G2 : Hp), Lw H (fun _ => none) none [(D2, .lst (acc.map V.int))] G2 H2 ∧ G2 D = some (.lst (cells.map V.int)) ∧ acc.length = j ∧ 0 ≤ acc.sum ∧ acc.sum ≤ 100000000 * j)
        ⟨[], _, lw.make hD2, hD', rfl, by simp, by simp⟩ (fun j H2 hj hp => ?_) (fun H2 hp => ?_)
      · obtain ⟨acc, G2, lw, h1, lb, s0, s1⟩ := hp
        rw [Int.toNat_natCast] at hj
        obtain ⟨n, hn⟩ : ∃ n, cells[j]? = some n := ⟨_, List.getElem?_eq_getElem hj⟩
        have hn' : (cells.map V.int)[j]? = some (.int n) := by rw [List.getElem?_map, hn]; rfl
        have bd := fmod_bd (i := n) (j := 1000003) (by decide)
        have jj : (j : Int) < 63 := by omega
        have pr : 0 ≤ n.fmod 1000003 * (0 + (j : Int) + 1) ∧ n.fmod 1000003 * (0 + (j : Int) + 1) ≤ 1000003 * 63 := ⟨Int.mul_nonneg bd.1 (by omega), Int.mul_le_mul (by omega) (by omega) (by omega) (by omega)⟩
        refine ⟨rfl, _, rfl, _, rfl, D, _, (j : Int), _, rfl, (by rw [Int.zero_add]), SqL.g lw h1, atI_nat hn', Or.inl ⟨n, rfl, _, _, rfl, rfl, (show (1000003 : Int) ≠ 0 by decide), _, rfl, _, _, rfl, rfl, ?_⟩⟩
        refine ⟨_, _, rfl, rfl, mulW_of ⟨bd.1, by omega⟩ ⟨by omega, by omega⟩, acc.map V.int, lw.at, Evl.sz_lt (by rw [List.length_map]; omega), acc ++ [n.fmod 1000003 * (0 + (j : Int) + 1)], G2, ?_, h1, by rw [List.length_append, lb]; rfl, ?_, ?_⟩
        · rw [List.map_append]
          exact lw.put
        · rw [List.sum_append, List.sum_singleton]
          omega
        · rw [List.sum_append, List.sum_singleton]
          omega
      · obtain ⟨acc, G4, lw, h1, lb, s0, s1⟩ := hp
        rw [Int.toNat_natCast] at s1 lb
        obtain ⟨lw, e2⟩ := lw.keep
        have hD2' : (upd G4 D2 (.lst (acc.map V.int))) D2 = some (.lst (acc.map V.int)) := upd_same
        have h1 := e2 _ _ h1
        generalize upd G4 D2 (.lst (acc.map V.int)) = G5 at lw e2 hD2' h1
        -- return [0, 0, cells, 0, len(cells) + sum(parts)]
        refine ⟨_, rfl, _, rfl, D, _, rfl, .inl (SqL.g lw h1), _, rfl, D2, _, rfl, SqL.g lw hD2', _, _, rfl, rfl, (by show 5 ≤ sizeLine; decide), fun t n => ?_⟩
        have ne : t ≠ D := fun z => by
          have := lw.gh _ _ h1
          rw [← z, n] at this
          cases this
        rw [List.length_map]
        refine k _ t D (.begin ⟨0, 0, 0, _, cells, upd_same, ?_, by decide, by decide, by decide, by decide, ?_, ?_, ba⟩ ne)
        · rw [upd_ne (Ne.symm ne)]
          exact lw.gh _ _ h1
        · omega
        · have : (cells.length : Int) ≤ 63 := by omega
          omega
theorem sc_draw : FnScope ["pool", "many", "turn", "place", "mixed", "digit"] ["pool", "many"] (defScope s_draw) := ⟨rfl, rfl, rfl, by decide +kernel, rfl, by decide +kernel, by decide +kernel⟩
def sp_draw : Sp := PoolSp 1 (fun ws _ => ∃ m : Int, ws = [.int m] ∧ 0 < m ∧ m < 2 ^ 200) (fun ws _ _ v => ∃ m d : Int, ws = [.int m] ∧ v = .int d ∧ 0 ≤ d ∧ d < m)
theorem ok_draw (T : Tx K mg) : FnOk P w K mg base CX0 2 T.draw.f T.draw.fd ["pool", "many"] sp_draw := by
  refine T.draw.F.ok sc_draw (fun vs H Q E h => ?_) (fun cdv A outer s H vs Q E hr h => ?_)
  · obtain ⟨G, a, c, n, ws, rfl, _, _, ⟨m, rfl, _⟩, _⟩ := h
    rfl
  · obtain ⟨G, a, c, n, ws, rfl, lw, hn, ⟨m, rfl, m0, m1⟩, k⟩ := h
    refine ⟨_, (pss_cons (ps_for PassesOwn.never rfl (pi_range1 rfl T.z_range (pa_cons pe_int pa_nil)) (pg_name (i := 2) sc_draw.nd rfl (.inl rfl)) (pss_cons (ps_if (PW.pt (pw_and (pt_cmpR op_gt (pe_ix (UfK.ix_listK (K := K)) (pv 0) pe_int (fun _ _ => rfl)) pe_int (nomark _)) (pw_and1 (pt_cmpR op_lt (pe_ix (UfK.ix_listK (K := K)) (pv 0) pe_int (fun _ _ => rfl)) pe_int (nomark _))))) (pss_one ps_break) pss_nil)
      (pss_cons (ps_set (i := 3) sc_draw.nd rfl (.inl rfl) (pe_ix (UfK.ix_listK (K := K)) (pv 0) pe_int (fun _ _ => rfl)))
      (pss_cons (ps_asg (pe_op op_add (pv 3) pe_int) (pg_sub (pv 0) pe_int set_list))
      (pss_cons (ps_asg pe_int (pg_sub (pv 0) pe_int set_list))
      (pss_one (ps_if (pt_cmpR op_lt (pv 3) (pe_callB (UfK.call_lenK (K := K)) (by rfl) T.z_len (by decide +kernel) (pa_cons (pe_ix (UfK.ix_listK (K := K)) (pv 0) pe_int (fun _ _ => rfl)) pa_nil)) (nomark _)) (pss_one (ps_asg (pe_ix (UfK.ix_listK (K := K)) (pe_ix (UfK.ix_listK (K := K)) (pv 0) pe_int (fun _ _ => rfl)) (pv 3) (fun _ _ => rfl)) (pg_sub (pv 0) pe_int set_list))) (pss_cons (ps_set (i := 4) sc_draw.nd rfl (.inl rfl) (pe_op op_modN (pe_callTy call_int1 (by rfl) T.z_int (by decide +kernel) (pa_cons (pe_op op_add (pe_op op_add (pe_op op_mulW (pe_ix (UfK.ix_listK (K := K)) (pv 0) pe_int (fun _ _ => rfl)) pe_int) (pe_op op_mulW (pv 3) pe_int)) pe_int) pa_nil)) pe_int))
      (pss_one (ps_asg (pe_op op_add (pe_op op_modN (pe_callTy call_int1 (by rfl) T.z_int (by decide +kernel) (pa_cons (pe_op op_pow (pe_op op_add (pv 4) (pe_op op_pow pe_int pe_int)) pe_int) pa_nil)) (pe_op op_add (pe_op op_pow pe_int pe_int) pe_int)) pe_int) (pg_sub (pv 0) pe_int set_list)))))))))))
      (pss_cons (ps_set (i := 5) sc_draw.nd rfl (.inl rfl) (pe_op op_modN (pe_callTy call_int1 (by rfl) T.z_int (by decide +kernel) (pa_cons (pe_ix (UfK.ix_listK (K := K)) (pv 0) pe_int (fun _ _ => rfl)) pa_nil)) (pv 1)))
      (pss_cons (ps_asg (pe_op op_fdivW (pe_ix (UfK.ix_listK (K := K)) (pv 0) pe_int (fun _ _ => rfl)) (pv 1)) (pg_sub (pv 0) pe_int set_list))
      (pss_cons (ps_asg (pe_op op_add (pe_ix (UfK.ix_listK (K := K)) (pv 0) pe_int (fun _ _ => rfl)) pe_int) (pg_sub (pv 0) pe_int set_list))
      (pss_one (ps_ret (pv 5))))))), ?_⟩
    have h0 : ∃ (x y q M : Int), H a = some (.lst [.int x, .int y, .ref c, .int q, .int M]) ∧ 0 ≤ x ∧ x < 2 ^ 200 ∧ 0 ≤ q ∧ q ≤ 70 * (n : Int) ∧ 0 ≤ M ∧ M < 2 ^ 200 := by
      obtain ⟨⟨x, y, q, M, cells, h1, h2, h3, h4, h5, h6, h7, h8, h9⟩, _⟩ := lw.pool (a, c, n) rfl
      exact ⟨x, y, q, M, h1, h3, h4, h5, h6, h7, h8⟩
    obtain ⟨x, y, q, M, ha, b0, b1, b2, b3, b4, b5⟩ := h0
    refine ⟨70, rfl, by decide, by decide, for_rangeB (lo := 0) (n := (70 : Int).toNat)
      (fun i σ H' => ∃ (z2 z3 z4 : Option V) (x y q M : Int), σ = [some (.ref a), some (.int m), z2, z3, z4, none] ∧ Lw H G (some (a, c, n + 1)) [] G H' ∧ H' a = some (.lst [.int x, .int y, .ref c, .int q, .int M]) ∧
        0 ≤ x ∧ x < 2 ^ 200 ∧ 0 ≤ q ∧ q ≤ 70 * (n : Int) + i ∧ 0 ≤ M ∧ M < 2 ^ 200)
      (fun σ H' => ∃ (z2 z3 z4 : Option V) (x y q M : Int), σ = [some (.ref a), some (.int m), z2, z3, z4, none] ∧ Lw H G (some (a, c, n + 1)) [] G H' ∧ H' a = some (.lst [.int x, .int y, .ref c, .int q, .int M]) ∧
        0 ≤ x ∧ x < 2 ^ 200 ∧ 0 ≤ q ∧ q ≤ 70 * ((n + 1 : Nat) : Int) ∧ 0 ≤ M ∧ M < 2 ^ 200)
      (fun σ H' hp => ?_) ⟨none, none, none, x, y, q, M, rfl, lw.more (Nat.le_succ n), ha, b0, b1, b2, by omega, b4, b5⟩ (fun hk i σ H' hi hp => ?_) (fun σ H' hp => ?_)⟩
    · obtain ⟨z2, z3, z4, x, y, q, M, rfl, lw, ha, b0, b1, b2, b3, b4, b5⟩ := hp
      -- digit = int(pool[0]) % many
      refine ⟨_, rfl, a, _, 0, _, rfl, rfl, L2.SqL.of ha, rfl, Or.inl ⟨x, rfl, _, rfl, _, _, rfl, rfl, (show m ≠ 0 by omega), ?_⟩⟩
      -- pool[0] = pool[0] // many
      refine ⟨_, rfl, a, _, 0, _, rfl, rfl, L2.SqL.of ha, rfl, _, rfl, _, _, rfl, rfl, divW_of ⟨m0, Int.lt_trans m1 (by decide)⟩, _, rfl, a, _, 0, 0, rfl, rfl, ha, rfl, ?_⟩
      have q0 : 0 ≤ x / m := Int.ediv_nonneg b0 (by omega)
      have q1 : x / m ≤ x := Int.ediv_le_self _ b0
      have lw := lw.turn (n' := n + 1) (x := x / m) (y := y) q0 (by omega) b2 b3 b4 b5
      have ha : upd H' a (.lst [.int (x / m), .int y, .ref c, .int q, .int M]) a = _ := upd_same
      -- pool[1] = pool[1] + 1
      refine ⟨_, rfl, a, _, 1, _, rfl, rfl, L2.SqL.of ha, rfl, _, _, rfl, rfl, _, rfl, a, _, 1, 1, rfl, rfl, ha, rfl, ?_⟩
      have lw := lw.turn (n' := n + 1) (x := x / m) (y := y + 1) q0 (by omega) b2 b3 b4 b5
      have bd := fmod_bd (i := x) m0
      exact ⟨_, rfl, k _ _ _ lw ⟨m, _, rfl, rfl, bd.1, bd.2⟩⟩
    · obtain ⟨z2, z3, z4, x, y, q, M, rfl, lw, ha, b0, b1, b2, b3, b4, b5⟩ := hp
      have hi : i < 70 := hi
      -- if pool[0] > 0 and pool[1] < 60: break
      refine ⟨_, rfl, a, _, 0, _, rfl, rfl, L2.SqL.of ha, rfl, _, _, rfl, rfl, _, rfl, and2 (fun h1 rest => ⟨_, rfl, a, _, 1, _, rfl, rfl, L2.SqL.of ha, rfl, _, _, rfl, rfl, _, rfl, ite2 (fun h2 => ?_) (fun _ => rest)⟩) ?_⟩
      · exact hk _ _ ⟨some (.int (0 + (i : Int))), z3, z4, x, y, q, M, rfl, lw, ha, b0, b1, b2, by omega, b4, b5⟩
      obtain ⟨qn, rfl⟩ := Int.eq_ofNat_of_zero_le b2
      -- place = pool[3]; pool[3] = place + 1; pool[1] = 0
      refine ⟨_, rfl, a, _, 3, _, rfl, rfl, L2.SqL.of ha, rfl, ?_⟩
      refine ⟨_, rfl, _, _, rfl, rfl, _, rfl, a, _, 3, 3, rfl, rfl, ha, rfl, ?_⟩
      have lw := lw.turn (n' := n + 1) (x := x) (y := y) (k := (qn : Int) + 1) (m := M) b0 b1 (by omega) (by omega) b4 b5
      have ha : upd H' a (.lst [.int x, .int y, .ref c, .int ((qn : Int) + 1), .int M]) a = _ := upd_same
      refine ⟨_, rfl, a, _, 1, 1, rfl, rfl, ha, rfl, ?_⟩
      have lw := lw.turn (n' := n + 1) (x := x) (y := 0) (k := (qn : Int) + 1) (m := M) b0 b1 (by omega) (by omega) b4 b5
      have ha : upd (upd H' a (.lst [.int x, .int y, .ref c, .int ((qn : Int) + 1), .int M])) a (.lst [.int x, .int 0, .ref c, .int ((qn : Int) + 1), .int M]) a = _ := upd_same
      obtain ⟨⟨_, _, _, _, cells, _, hc, _, _, _, _, _, _, cb⟩, _⟩ := lw.pool (a, c, n + 1) rfl
      -- if place < len(pool[2])
      refine ⟨_, rfl, _, rfl, a, _, 2, _, rfl, rfl, L2.SqL.of ha, rfl, c, _, rfl, Or.inl (L2.SqL.of hc), _, _, rfl, rfl, _, rfl, ite2 (fun h3 => ?_) (fun h3 => ?_)⟩
      · rw [List.length_map] at h3
        have h3 : qn < cells.length := by
          simp at h3
          omega
        have hq : (cells.map V.int)[qn]? = some (.int cells[qn]) := by rw [List.getElem?_map, List.getElem?_eq_getElem h3]; rfl
        have bq := cb cells[qn] (List.getElem_mem h3)
        refine ⟨_, rfl, a, _, 2, _, rfl, rfl, L2.SqL.of ha, rfl, _, rfl, c, _, (qn : Int), _, rfl, rfl, L2.SqL.of hc, atI_nat hq, _, rfl, a, _, 0, 0, rfl, rfl, ha, rfl, ?_⟩
        have lw := lw.turn (n' := n + 1) (x := cells[qn]) (y := 0) (k := (qn : Int) + 1) (m := M) bq.1 bq.2 (by omega) (by omega) b4 b5
        exact ⟨some _, some _, z4, _, _, _, _, rfl, lw, upd_same, bq.1, bq.2, by omega, by omega, b4, b5⟩
      · refine ⟨_, rfl, a, _, 4, _, rfl, rfl, L2.SqL.of ha, rfl, _, _, rfl, rfl, mulW_of ⟨b4, by omega⟩ ⟨by decide, by decide⟩, _, rfl, _, _, rfl, rfl, mulW_of ⟨by omega, by omega⟩ ⟨by decide, by decide⟩, _, _, rfl, rfl, _, _, rfl, rfl,
          Or.inl ⟨_, rfl, _, _, rfl, rfl, (show (2147483647 : Int) ≠ 0 by decide), ?_⟩⟩
        have bm := fmod_bd (i := M * 48271 + (qn : Int) * 69621 + 2223) (j := 2147483647) (by decide)
        have two : ((2 : Int) ^ (40 : Int).toNat) = 1099511627776 := by decide
        refine ⟨_, rfl, _, _, rfl, rfl, pow_small (by decide) (by decide), _, _, rfl, rfl, _, _, rfl, rfl, pow_small (by decide) ⟨by rw [two]; omega, by rw [two]; omega⟩, Or.inl ⟨_, rfl, _, _, rfl, rfl, pow_small (by decide) (by decide), _, _, rfl, rfl, _, _, rfl, rfl,
          (show (10 : Int) ^ (60 : Int).toNat + 7 ≠ 0 by decide), _, _, rfl, rfl, _, rfl, a, _, 0, 0, rfl, rfl, ha, rfl, ?_⟩⟩
        have bx := fmod60 (((M * 48271 + (qn : Int) * 69621 + 2223).fmod 2147483647 + (2 : Int) ^ (40 : Int).toNat) ^ (9 : Int).toNat)
        have lw := lw.turn (n' := n + 1) (x := (((M * 48271 + (qn : Int) * 69621 + 2223).fmod 2147483647 + (2 : Int) ^ (40 : Int).toNat) ^ (9 : Int).toNat).fmod ((10 : Int) ^ (60 : Int).toNat + 7) + 1) (y := 0) (k := (qn : Int) + 1) (m := M) (by omega) (by omega) (by omega) (by omega) b4 b5
        exact ⟨some _, some _, some _, _, _, _, _, rfl, lw, upd_same, by omega, by omega, by omega, by omega, b4, b5⟩
    · obtain ⟨z2, z3, z4, x, y, q, M, rfl, lw, ha, b0, b1, b2, b3, b4, b5⟩ := hp
      have b3 : q ≤ 70 * (n : Int) + ((70 : Nat) : Int) := b3
      exact ⟨z2, z3, z4, x, y, q, M, rfl, lw, ha, b0, b1, b2, by omega, b4, b5⟩
theorem call_draw {H0 G0 G H : Hp} {ls : List (Addr × HO)} {a c : Addr} {n : Nat} {m : Int} {Q : VK} (lw : Lw H0 G0 (some (a, c, n)) ls G H) (m0 : 0 < m) (m1 : m < 2 ^ 200) (hn : n + 1 ≤ 1000000)
    (k : ∀ G' H' d, Ex G G' → Lw H0 G0 (some (a, c, n + 1)) ls G' H' → 0 ≤ d → d < m → Q (.int d) H') : sp_draw [.ref a, .int m] H Q E0 :=
  call_pool lw hn ⟨m, rfl, m0, m1⟩ fun G' H' v e l hv => by
    obtain ⟨m', d, hm, rfl, b0, b1⟩ := hv
    cases hm
    exact k G' H' d e l b0 b1
end
end K06

namespace K06
open PySem PySem.Spec PyProof.Rows L2 UfG UfT UfR UfO UfI UfQ UfN
open Evl (Ex)
section
variable {P : Program} {w : World} {K : PySem.W.Frag} {mg : Str → Option Value} {base : Heap}
/-! ### _law_int, _law_kept, _law_error -/
theorem sc_int_ : FnScope ["told"] ["told"] (defScope s_int_) := ⟨rfl, rfl, rfl, by decide +kernel, rfl, by decide +kernel, by decide +kernel⟩
def sp_int : Sp := fun vs H Q _ => ∃ i : Int, vs = [.int i] ∧ Q (.bl true) H
theorem ok_int (T : Tx K mg) : FnOk P w K mg base CX0 1 T.int_.f T.int_.fd ["told"] sp_int := by
  refine T.int_.F.ok sc_int_ (fun vs H Q E h => ?_) (fun cdv A outer s H vs Q E hr h => ?_)
  · obtain ⟨i, rfl, _⟩ := h
    rfl
  · obtain ⟨i, rfl, k⟩ := h
    refine ⟨_, (pss_one (ps_ret (pe_and (pe_callB (UfK.call_isiK' (K := K)) (by rfl) T.z_isinstance (by decide +kernel) (pa_cons (pv 0) (pa_cons (pe_bltn (by rfl) T.z_int (by decide +kernel) (show RelV (.ty "int") _ from rfl)) pa_nil))) (pe_one (pe_not (pe_callB (UfK.call_isiK' (K := K)) (by rfl) T.z_isinstance (by decide +kernel) (pa_cons (pv 0) (pa_cons (pe_bltn (by rfl) T.z_bool (by decide +kernel) (show RelV (.ty "bool") _ from rfl)) pa_nil)))))))), ?_⟩
    exact ⟨_, rfl, .int i, .ty "int", .type "int", .type "int", true, rfl, .ty _, .base (.int i), kit_ty rfl, _, rfl, iteT ⟨_, rfl, .int i, .ty "bool", .type "int", .type "bool", false, rfl, .ty _, .base (.int i), kit_ty rfl, _, rfl, k⟩⟩
end
end K06

namespace K06
open PySem PySem.Spec PyProof.Rows L2 UfG UfT UfR UfO UfI UfQ UfN
open UfL (LP lowP plusP timesP)
open Evl (Ex)
section
variable {P : Program} {w : World} {K : PySem.W.Frag} {mg : Str → Option Value} {base : Heap}
/-- a known tuple of two ints -/
def TI (G : Hp) (v : V) (x y : Int) : Prop := ∃ t, v = .ref t ∧ G t = some (.tup [.int x, .int y])
theorem TI.ex {G G' : Hp} {v : V} {x y : Int} (e : Ex G G') (h : TI G v x y) : TI G' v x y := by
  obtain ⟨t, e1, h⟩ := h
  exact ⟨t, e1, e _ _ h⟩
def left1 (σ : L2.St) : Nat := match σ[1]? with
  | some (some (V.int i)) => i.toNat
  | _ => 0
theorem sc_gcd : FnScope ["a", "b"] ["a", "b"] (defScope s_gcd) := ⟨rfl, rfl, rfl, by decide +kernel, rfl, by decide +kernel, by decide +kernel⟩
def sp_gcd : Sp := fun vs H Q E => ∃ a b : Int, PureSp (fun vs _ => vs = [.int a, .int b]) (fun _ _ _ v => v = .int (Nat.gcd a.natAbs b.natAbs : Nat)) vs H Q E
theorem ok_gcd (T : Tx K mg) : FnOk P w K mg base CX0 1 T.gcd.f T.gcd.fd ["a", "b"] sp_gcd := by
  refine T.gcd.F.ok sc_gcd (fun vs H Q E h => ?_) (fun cdv A outer s H vs Q E hr h => ?_)
  · obtain ⟨a, b, G, _, rfl, _⟩ := h
    rfl
  · obtain ⟨a, b, G, lw, rfl, k⟩ := h
    refine ⟨_, (pss_cons (ps_par (i := 0) (j := 1) (by rfl) sc_gcd.nd rfl rfl (by decide) rfl rfl (pa_cons (pe_callB call_abs (by rfl) T.z_abs (by decide +kernel) (pa_cons (pv 0) pa_nil)) (pa_cons (pe_callB call_abs (by rfl) T.z_abs (by decide +kernel) (pa_cons (pv 1) pa_nil)) pa_nil)) (by rfl))
      (pss_cons (ps_while PassesOwn.never (pt_cmpR op_gt (pv 1) pe_int (nomark _)) (pss_one (ps_par (i := 0) (j := 1) (by rfl) sc_gcd.nd rfl rfl (by decide) rfl rfl (pa_cons (pv 1) (pa_cons (pe_op op_modN (pe_callTy call_int1 (by rfl) T.z_int (by decide +kernel) (pa_cons (pv 0) pa_nil)) (pv 1)) pa_nil)) (by rfl))))
      (pss_one (ps_ret (pv 0))))), ?_⟩
    have ea : (if a < 0 then -a else a) = (a.natAbs : Int) := by split <;> omega
    have eb : (if b < 0 then -b else b) = (b.natAbs : Int) := by split <;> omega
    refine ⟨_, rfl, _, rfl, _, rfl, _, rfl, _, _, rfl, ?_⟩
    rw [ea, eb]
    refine while_by (fun σ H' => ∃ (G' : Hp) (x y : Nat), σ = [some (.int x), some (.int y)] ∧ Lw H G none [] G' H' ∧ Nat.gcd x y = Nat.gcd a.natAbs b.natAbs) (fun σ _ => left1 σ)
      ⟨G, _, _, rfl, lw, rfl⟩ (fun σ H' hp => ?_) (fun σ H Q Q' h ⟨v, hv, i, j, e1, e2, k, e3, q⟩ => ⟨v, hv, i, j, e1, e2, k, e3, h _ _ q⟩)
    obtain ⟨G', x, y, rfl, lw, e⟩ := hp
    refine ⟨_, rfl, _, _, rfl, rfl, _, rfl, ite2 (fun h => ?_) (fun h => ?_)⟩
    · have yp : 0 < y := by simpa using h
      refine ⟨_, rfl, _, rfl, .inl ⟨_, rfl, _, rfl, _, _, rfl, rfl, (show (y : Int) ≠ 0 by omega), _, _, rfl, ?_⟩⟩
      have em : ((x : Int).fmod y) = ((x % y : Nat) : Int) := by rw [Int.fmod_eq_emod_of_nonneg _ (by omega)]; rfl
      show (∃ (G' : Hp) (x' y' : Nat), [some (V.int (y : Int)), some (V.int ((x : Int).fmod y))] = _ ∧ _) ∧ left1 [some (V.int (y : Int)), some (V.int ((x : Int).fmod y))] < y
      rw [em]
      refine ⟨⟨G', y, x % y, rfl, lw, ?_⟩, ?_⟩
      · rw [← e, Nat.gcd_comm x y, Nat.gcd_comm y (x % y), ← Nat.gcd_rec]
      · exact Nat.mod_lt _ yp
    · have y0 : y = 0 := by
        simp at h
        omega
      refine ⟨_, rfl, k _ _ _ lw ?_⟩
      rw [← e, y0, Nat.gcd_zero_right]
theorem sc_low : FnScope ["p", "num", "den", "turn", "k", "part"] ["p", "num", "den"] (defScope s_low) := ⟨rfl, rfl, rfl, by decide +kernel, rfl, by decide +kernel, by decide +kernel⟩
def sp_low : Sp := fun vs H Q E => ∃ p n d : Int, PureSp (fun vs _ => vs = [.int p, .int n, .int d] ∧ (p = 0 ∧ d ≠ 0 ∧ n.natAbs < 2 ^ 8900 ∧ d.natAbs < 2 ^ 8900 ∨ 2 ≤ p ∧ p < 1000 ∧ n.natAbs < 2 ^ 2000 ∧ d.natAbs < 2 ^ 2000)) (fun _ _ G' v => TI G' v (lowP p n d).1 (lowP p n d).2) vs H Q E
theorem ok_low (T : Tx K mg) : FnOk P w K mg base CX0 2 T.low.f T.low.fd ["p", "num", "den"] sp_low := by
  refine T.low.F.ok sc_low (fun vs H Q E h => ?_) (fun cdv A outer s H vs Q E hr h => ?_)
  · obtain ⟨p, n, d, G, _, ⟨rfl, _⟩, _⟩ := h
    rfl
  · obtain ⟨p, n, d, G, lw, ⟨rfl, hp⟩, k⟩ := h
    refine ⟨_, (pss_cons (ps_if (pt_cmpR op_gt (pv 0) pe_int (nomark _)) (pss_cons (ps_set (i := 3) sc_low.nd rfl (.inl rfl) pe_int)
      (pss_cons (ps_for PassesOwn.never rfl (pi_range1 rfl T.z_range (pa_cons (pe_op op_mulW (pe_op op_sub (pv 0) pe_int) (pe_callTy call_int1 (by rfl) T.z_int (by decide +kernel) (pa_cons (pe_cmpR op_ne (pv 2) pe_int (nomark _)) pa_nil))) pa_nil)) (pg_name (i := 4) sc_low.nd rfl (.inl rfl)) (pss_one (ps_set (i := 3) sc_low.nd rfl (.inl rfl) (pe_op op_modN (pe_callTy call_int1 (by rfl) T.z_int (by decide +kernel) (pa_cons (pe_op op_mulW (pv 3) (pv 2)) pa_nil)) (pv 0)))))
      (pss_one (ps_ret (pe_tup (pa_cons (pe_op op_modN (pe_callTy call_int1 (by rfl) T.z_int (by decide +kernel) (pa_cons (pe_op op_mulW (pv 1) (pv 3)) pa_nil)) (pv 0)) (pa_cons pe_int pa_nil))))))) pss_nil)
      (pss_cons (ps_if (pt_cmpR op_lt (pv 2) pe_int (nomark _)) (pss_one (ps_par (i := 1) (j := 2) (by rfl) sc_low.nd rfl rfl (by decide) rfl rfl (pa_cons (pe_un un_neg (pv 1)) (pa_cons (pe_un un_neg (pv 2)) pa_nil)) (by rfl))) pss_nil)
      (pss_cons (ps_set (i := 5) sc_low.nd rfl (.inl rfl) (pe_call (ok_gcd T) (hr.mono (by decide)) (by rfl) T.gcd.g T.gcd.F.kp T.gcd.b .nil pass0 (pa_cons (pv 1) (pa_cons (pv 2) pa_nil))))
      (pss_one (ps_ret (pe_tup (pa_cons (pe_op UfR.op_fdivZ (pv 1) (pv 5)) (pa_cons (pe_op UfR.op_fdivZ (pv 2) (pv 5)) pa_nil)))))))), ?_⟩
    rcases hp with ⟨rfl, d0, nb, db⟩ | ⟨p2, p3, nb, db⟩
    · refine ⟨_, rfl, _, _, rfl, rfl, _, rfl, ite2 (fun z => by simp at z) (fun _ => ?_)⟩
      refine seq_rest (fun σ' H' => σ' = [some (.int 0), some (.int n), some (.int d), none, none, none] ∧ Lw H G none [] G H') (fun σ' H' hp => ?_) (fun kk => kk _ _ ⟨rfl, lw⟩)
      obtain ⟨rfl, lw⟩ := hp
      refine seq_rest (fun σ' H' => ∃ n' d' : Int, σ' = [some (.int 0), some (.int n'), some (.int d'), none, none, none] ∧ Lw H G none [] G H' ∧ 0 < d' ∧ fr n' d' = fr n d ∧ n'.natAbs = n.natAbs ∧ d'.natAbs = d.natAbs) (fun σ' H' hp => ?_) (fun kk => ?_)
      · obtain ⟨n', d', rfl, lw, dp, ef, en, ed⟩ := hp
        have b2 : d'.natAbs < 2 ^ 8900 := by rw [ed]; exact db
        refine ⟨_, rfl, _, rfl, n', d', call_pure lw rfl fun G1 H1 v e1 lw hv => ?_⟩
        subst hv
        have gp := gcd_pos (n := n') (show d' ≠ 0 by omega)
        have gl : Nat.gcd n'.natAbs d'.natAbs ≤ d'.natAbs := Nat.gcd_le_right _ (by omega)
        have gc : CDivZ 0 ((Nat.gcd n'.natAbs d'.natAbs : Nat) : Int) := ⟨by omega, by
          refine lg (b := 8900) ?_ (by decide) (by decide)
          rw [Int.natAbs_natCast]
          omega⟩
        refine ⟨_, rfl, _, rfl, _, _, rfl, rfl, gc, _, rfl, _, rfl, _, _, rfl, rfl, gc, (by show 2 ≤ sizeLine; decide), fun t nt => ?_⟩
        obtain ⟨G2, e2, lw, h2⟩ := lw.allocE (o := .tup [.int (n'.fdiv ((Nat.gcd n'.natAbs d'.natAbs : Nat) : Int)), .int (d'.fdiv ((Nat.gcd n'.natAbs d'.natAbs : Nat) : Int))]) nt
        refine k _ _ _ lw ⟨t, rfl, ?_⟩
        rw [h2]
        unfold lowP
        rw [if_pos rfl, show Rat.divInt n d = fr n' d' from ef.symm]
        have f1 := fr_num (n := n') (show d' ≠ 0 by omega)
        have f2 := fr_den (n := n') (show d' ≠ 0 by omega)
        rw [if_neg (by omega)] at f1 f2
        rw [f1, f2]
      · refine ⟨_, rfl, _, _, rfl, rfl, _, rfl, ite2 (fun h => ?_) (fun h => ?_)⟩
        · have h : d < 0 := by simpa using h
          refine ⟨_, rfl, _, rfl, _, rfl, _, rfl, _, _, rfl, kk _ _ ⟨-n, -d, rfl, lw, by omega, ?_, by omega, by omega⟩⟩
          show Rat.divInt (-n) (-d) = Rat.divInt n d
          rw [Rat.divInt_neg', Int.neg_neg]
        · have h : ¬ d < 0 := by simpa using h
          exact kk _ _ ⟨n, d, rfl, lw, by omega, rfl, rfl, rfl⟩
    · refine ⟨_, rfl, _, _, rfl, rfl, _, rfl, ite2 (fun _ => ?_) (fun z => (z (decide_eq_true (show (0 : Int) < p by omega))).elim)⟩
      have pb : p.natAbs < 2 ^ 2000 := Nat.lt_trans (show p.natAbs < 1000 by omega) (by decide +kernel)
      refine ⟨_, rfl, _, _, rfl, rfl, _, rfl, rfl, .inr ⟨!decide (V.int d = V.int 1), rfl, ?_⟩⟩
      obtain ⟨e, he, h2⟩ : ∃ e : Nat, (if (!decide (V.int d = V.int 1)) = true then (1 : Int) else 0) = e ∧ e = (if d = 1 then 0 else 1) := ⟨if d = 1 then 0 else 1, by
        by_cases z : d = 1
        · subst z; rfl
        · have : ¬ V.int d = V.int 1 := fun y => z (by injection y)
          rw [decide_eq_false this, if_neg z]
          rfl, rfl⟩
      have e1 : e ≤ 1 := by
        rw [h2]
        split <;> decide
      rw [he]
      obtain ⟨r, hr⟩ := Int.eq_ofNat_of_zero_le (show 0 ≤ p - 2 by omega)
      have hre : ((p - 2) * e).toNat = r * e := by rw [hr, ← Int.natCast_mul]; rfl
      have re : r * e ≤ 1000 := by
        have := Nat.mul_le_mul_left r e1
        omega
      have step : ∀ j : Nat, ((d ^ j).fmod p * d).fmod p = (d ^ (j + 1)).fmod p := fun j => by
        rw [Int.pow_succ, Int.fmod_eq_emod_of_nonneg _ (by omega), Int.fmod_eq_emod_of_nonneg _ (by omega), Int.fmod_eq_emod_of_nonneg _ (by omega), Int.mul_emod (d ^ j) d, Int.mul_emod (d ^ j % p) d, Int.emod_emod]
      have tb : ∀ j : Nat, ((d ^ j).fmod p).natAbs < 2 ^ 4000 := fun j => mod_lt (by omega) (Nat.lt_trans pb (by decide +kernel))
      have db4 : d.natAbs < 2 ^ 4000 := Nat.lt_trans db (by decide +kernel)
      have nb4 : n.natAbs < 2 ^ 4000 := Nat.lt_trans nb (by decide +kernel)
      refine ⟨_, _, rfl, rfl, mulW_of (show 0 ≤ p - 2 ∧ p - 2 < 2 ^ 500 by omega) (show 0 ≤ (e : Int) ∧ (e : Int) < 2 ^ 500 by omega), _, rfl, by rw [hr, ← Int.natCast_mul]; omega, by rw [hr, ← Int.natCast_mul]; omega, ?_⟩
      rw [hre]
      refine for_range (fun j σ H' => ∃ z, σ = [some (.int p), some (.int n), some (.int d), some (.int ((d ^ j).fmod p)), z, none] ∧ Lw H G none [] G H') ⟨none, ?_, lw⟩ (fun j σ H' hj hp => ?_) (fun σ H' hp => ?_)
      · have : (d ^ 0).fmod p = 1 := by
          rw [Int.pow_zero, Int.fmod_eq_emod_of_nonneg _ (by omega)]
          exact Int.emod_eq_of_lt (by decide) (by omega)
        rw [this]
        rfl
      · obtain ⟨z, rfl, lw⟩ := hp
        refine ⟨_, rfl, _, rfl, _, _, rfl, rfl, sm_mul (tb j) db4, .inl ⟨_, rfl, _, rfl, _, _, rfl, rfl, (show p ≠ 0 by omega), some (.int (0 + (j : Nat))), ?_, lw⟩⟩
        rw [← step j]
        rfl
      · obtain ⟨z, rfl, lw⟩ := hp
        refine ⟨_, rfl, _, rfl, _, _, rfl, rfl, sm_mul nb4 (tb _), .inl ⟨_, rfl, _, rfl, _, _, rfl, rfl, (show p ≠ 0 by omega), (by show 2 ≤ sizeLine; decide), fun t nt => ?_⟩⟩
        obtain ⟨G2, e2, lw, h2'⟩ := lw.allocE (o := .tup [.int ((n * (d ^ (r * e)).fmod p).fmod p), .int 1]) nt
        refine k _ _ _ lw ⟨t, rfl, ?_⟩
        rw [h2']
        unfold lowP
        rw [if_neg (show ¬ p = 0 by omega)]
        have : d ^ (r * e) = d ^ (p - 2).toNat := by
          have er : (p - 2).toNat = r := by rw [hr]; rfl
          rw [er, h2]
          by_cases z : d = 1
          · rw [z, Int.one_pow, Int.one_pow]
          · rw [if_neg z, Nat.mul_one]
        rw [this]
theorem m98b {a b : Int} (ha : a.natAbs < 2 ^ 4000) (hb : b.natAbs < 2 ^ 4000) : (a * b).natAbs < 2 ^ 8000 := wide_lt (a := 4000) (b := 4000) ha hb
theorem m98 {a b : Int} (ha : a.natAbs < 2 ^ 990) (hb : b.natAbs < 2 ^ 990) : (a * b).natAbs < 2 ^ 1980 := wide_lt (a := 990) (b := 990) ha hb
theorem m99 {a b : Int} (ha : a.natAbs < 2 ^ 990) (hb : b.natAbs < 2 ^ 990) : CMulW a b := sm_mul (Nat.lt_trans ha (by decide +kernel)) (Nat.lt_trans hb (by decide +kernel))
theorem sc_plus : FnScope ["p", "a", "b"] ["p", "a", "b"] (defScope s_plus) := ⟨rfl, rfl, rfl, by decide +kernel, rfl, by decide +kernel, by decide +kernel⟩
/-- two pairs that plus and times take -/
def Two (p : Int) (a b : LP) : Prop := p = 0 ∧ a.2 ≠ 0 ∧ b.2 ≠ 0 ∧ (a.1.natAbs < 2 ^ 4000 ∧ a.2.natAbs < 2 ^ 4000) ∧ (b.1.natAbs < 2 ^ 4000 ∧ b.2.natAbs < 2 ^ 4000) ∨ 2 ≤ p ∧ p < 1000 ∧ (a.1.natAbs < 2 ^ 900 ∧ a.2.natAbs < 2 ^ 900) ∧ (b.1.natAbs < 2 ^ 900 ∧ b.2.natAbs < 2 ^ 900)
theorem Two.b4 {p : Int} {a b : LP} (h : Two p a b) : (a.1.natAbs < 2 ^ 4000 ∧ a.2.natAbs < 2 ^ 4000) ∧ (b.1.natAbs < 2 ^ 4000 ∧ b.2.natAbs < 2 ^ 4000) := by
  rcases h with ⟨_, _, _, h⟩ | ⟨_, _, ⟨h1, h2⟩, h3, h4⟩
  · exact h
  · have z : (2 : Nat) ^ 900 < 2 ^ 4000 := by decide +kernel
    exact ⟨⟨Nat.lt_trans h1 z, Nat.lt_trans h2 z⟩, Nat.lt_trans h3 z, Nat.lt_trans h4 z⟩
theorem m900 {a b : Int} (ha : a.natAbs < 2 ^ 900) (hb : b.natAbs < 2 ^ 900) : (a * b).natAbs < 2 ^ 1800 := wide_lt (a := 900) (b := 900) ha hb
theorem Two.low {p : Int} {a b : LP} (h : Two p a b) : p = 0 ∧ a.2 * b.2 ≠ 0 ∧ (a.1 * b.2 + b.1 * a.2).natAbs < 2 ^ 8900 ∧ (a.2 * b.2).natAbs < 2 ^ 8900 ∨ 2 ≤ p ∧ p < 1000 ∧ (a.1 * b.2 + b.1 * a.2).natAbs < 2 ^ 2000 ∧ (a.2 * b.2).natAbs < 2 ^ 2000 := by
  have tri := Int.natAbs_add_le (a.1 * b.2) (b.1 * a.2)
  rcases h with ⟨h0, h1, h2, ⟨a1, a2⟩, b1, b2⟩ | ⟨h1, h2, ⟨a1, a2⟩, b1, b2⟩
  · have z : (2 : Nat) ^ 8000 + 2 ^ 8000 < 2 ^ 8900 := by decide +kernel
    have x := m98b a1 b2
    have y := m98b b1 a2
    exact .inl ⟨h0, Int.mul_ne_zero h1 h2, by omega, Nat.lt_trans (m98b a2 b2) (by decide +kernel)⟩
  · have z : (2 : Nat) ^ 1800 + 2 ^ 1800 < 2 ^ 2000 := by decide +kernel
    have x := m900 a1 b2
    have y := m900 b1 a2
    exact .inr ⟨h1, h2, by omega, Nat.lt_trans (m900 a2 b2) (by decide +kernel)⟩
theorem Two.lowT {p : Int} {a b : LP} (h : Two p a b) : p = 0 ∧ a.2 * b.2 ≠ 0 ∧ (a.1 * b.1).natAbs < 2 ^ 8900 ∧ (a.2 * b.2).natAbs < 2 ^ 8900 ∨ 2 ≤ p ∧ p < 1000 ∧ (a.1 * b.1).natAbs < 2 ^ 2000 ∧ (a.2 * b.2).natAbs < 2 ^ 2000 := by
  rcases h with ⟨h0, h1, h2, ⟨a1, a2⟩, b1, b2⟩ | ⟨h1, h2, ⟨a1, a2⟩, b1, b2⟩
  · exact .inl ⟨h0, Int.mul_ne_zero h1 h2, Nat.lt_trans (m98b a1 b1) (by decide +kernel), Nat.lt_trans (m98b a2 b2) (by decide +kernel)⟩
  · exact .inr ⟨h1, h2, Nat.lt_trans (m900 a1 b1) (by decide +kernel), Nat.lt_trans (m900 a2 b2) (by decide +kernel)⟩
/-- a known pair -/
def TP (G : Hp) (v : V) (x : LP) : Prop := TI G v x.1 x.2
theorem TP.ex {G G' : Hp} {v : V} {x : LP} (e : Ex G G') (h : TP G v x) : TP G' v x := TI.ex e h
def sp_plus : Sp := fun vs H Q E => ∃ (p : Int) (a b : LP), PureSp (fun vs G => ∃ x y, vs = [.int p, x, y] ∧ TP G x a ∧ TP G y b ∧ Two p a b) (fun _ _ G' v => TP G' v (plusP p a b)) vs H Q E
theorem ok_plus (T : Tx K mg) : FnOk P w K mg base CX0 3 T.plus.f T.plus.fd ["p", "a", "b"] sp_plus := by
  refine T.plus.F.ok sc_plus (fun vs H Q E h => ?_) (fun cdv A outer s H vs Q E hr h => ?_)
  · obtain ⟨p, a, b, G, _, ⟨x, y, rfl, _⟩, _⟩ := h
    rfl
  · obtain ⟨p, ⟨a1, a2⟩, ⟨b1, b2⟩, G, lw, ⟨x, y, rfl, ⟨t, rfl, ht⟩, ⟨u, rfl, hu⟩, hp⟩, k⟩ := h
    have Ht := lw.gh _ _ ht
    have Hu := lw.gh _ _ hu
    refine ⟨_, (pss_one (ps_ret (pe_call (ok_low T) (hr.mono (by decide)) (by rfl) T.low.g T.low.F.kp T.low.b .nil pass0 (pa_cons (pv 0) (pa_cons (pe_op op_add (pe_op op_mulW (pe_ix (UfK.ix_tupK (K := K)) (pv 1) pe_int (fun _ _ => rfl)) (pe_ix (UfK.ix_tupK (K := K)) (pv 2) pe_int (fun _ _ => rfl))) (pe_op op_mulW (pe_ix (UfK.ix_tupK (K := K)) (pv 2) pe_int (fun _ _ => rfl)) (pe_ix (UfK.ix_tupK (K := K)) (pv 1) pe_int (fun _ _ => rfl)))) (pa_cons (pe_op op_mulW (pe_ix (UfK.ix_tupK (K := K)) (pv 1) pe_int (fun _ _ => rfl)) (pe_ix (UfK.ix_tupK (K := K)) (pv 2) pe_int (fun _ _ => rfl))) pa_nil)))))), ?_⟩
    have S1 := SqT.of (K := K) Ht
    have S2 := SqT.of (K := K) Hu
    obtain ⟨⟨a1b, a2b⟩, b1b, b2b⟩ := hp.b4
    refine ⟨_, rfl, _, rfl, t, _, 0, _, rfl, rfl, S1, rfl, _, rfl, u, _, 1, _, rfl, rfl, S2, rfl, _, _, rfl, rfl, sm_mul a1b b2b, _, rfl, u, _, 0, _, rfl, rfl, S2, rfl, _, rfl, t, _, 1, _, rfl, rfl, S1, rfl, _, _, rfl, rfl, sm_mul b1b a2b, _, _, rfl, rfl,
      _, rfl, t, _, 1, _, rfl, rfl, S1, rfl, _, rfl, u, _, 1, _, rfl, rfl, S2, rfl, _, _, rfl, rfl, sm_mul a2b b2b, ?_⟩
    exact ⟨_, _, _, call_pure lw ⟨rfl, hp.low⟩ fun G' H' v e lw hv => k _ _ _ lw hv⟩
theorem sc_times : FnScope ["p", "a", "b"] ["p", "a", "b"] (defScope s_times) := ⟨rfl, rfl, rfl, by decide +kernel, rfl, by decide +kernel, by decide +kernel⟩
def sp_times : Sp := fun vs H Q E => ∃ (p : Int) (a b : LP), PureSp (fun vs G => ∃ x y, vs = [.int p, x, y] ∧ TP G x a ∧ TP G y b ∧ Two p a b) (fun _ _ G' v => TP G' v (timesP p a b)) vs H Q E
theorem ok_times (T : Tx K mg) : FnOk P w K mg base CX0 3 T.times.f T.times.fd ["p", "a", "b"] sp_times := by
  refine T.times.F.ok sc_times (fun vs H Q E h => ?_) (fun cdv A outer s H vs Q E hr h => ?_)
  · obtain ⟨p, a, b, G, _, ⟨x, y, rfl, _⟩, _⟩ := h
    rfl
  · obtain ⟨p, ⟨a1, a2⟩, ⟨b1, b2⟩, G, lw, ⟨x, y, rfl, ⟨t, rfl, ht⟩, ⟨u, rfl, hu⟩, hp⟩, k⟩ := h
    have Ht := lw.gh _ _ ht
    have Hu := lw.gh _ _ hu
    refine ⟨_, (pss_one (ps_ret (pe_call (ok_low T) (hr.mono (by decide)) (by rfl) T.low.g T.low.F.kp T.low.b .nil pass0 (pa_cons (pv 0) (pa_cons (pe_op op_mulW (pe_ix (UfK.ix_tupK (K := K)) (pv 1) pe_int (fun _ _ => rfl)) (pe_ix (UfK.ix_tupK (K := K)) (pv 2) pe_int (fun _ _ => rfl))) (pa_cons (pe_op op_mulW (pe_ix (UfK.ix_tupK (K := K)) (pv 1) pe_int (fun _ _ => rfl)) (pe_ix (UfK.ix_tupK (K := K)) (pv 2) pe_int (fun _ _ => rfl))) pa_nil)))))), ?_⟩
    have S1 := SqT.of (K := K) Ht
    have S2 := SqT.of (K := K) Hu
    obtain ⟨⟨a1b, a2b⟩, b1b, b2b⟩ := hp.b4
    refine ⟨_, rfl, _, rfl, t, _, 0, _, rfl, rfl, S1, rfl, _, rfl, u, _, 0, _, rfl, rfl, S2, rfl, _, _, rfl, rfl, sm_mul a1b b1b,
      _, rfl, t, _, 1, _, rfl, rfl, S1, rfl, _, rfl, u, _, 1, _, rfl, rfl, S2, rfl, _, _, rfl, rfl, sm_mul a2b b2b, ?_⟩
    exact ⟨_, _, _, call_pure lw ⟨rfl, hp.lowT⟩ fun G' H' v e lw hv => k _ _ _ lw hv⟩
theorem sc_hand : FnScope ["pair"] ["pair"] (defScope s_hand) := ⟨rfl, rfl, rfl, by decide +kernel, rfl, by decide +kernel, by decide +kernel⟩
def sp_hand (T : Tx K mg) : Sp := fun vs H Q E => ∃ q : Rat, PureSp (fun vs G => ∃ y, vs = [y] ∧ TI G y q.num q.den ∧ q.den < 2 ^ 4000) (fun _ _ G' v => Nm T.frac.C G' v q) vs H Q E
theorem ok_hand (T : Tx K mg) : FnOk P w K mg base CX0 5 T.hand.f T.hand.fd ["pair"] (sp_hand T) := by
  refine T.hand.F.ok sc_hand (fun vs H Q E h => ?_) (fun cdv A outer s H vs Q E hr h => ?_)
  · obtain ⟨q, G, _, ⟨y, rfl, _⟩, _⟩ := h
    rfl
  · obtain ⟨q, G, lw, ⟨y, rfl, ⟨t, rfl, ht⟩, qb⟩, k⟩ := h
    have Ht := lw.gh _ _ ht
    refine ⟨_, (pss_one (ps_ret (pe_ifExp (pt_cmpR op_eq (pe_ix (UfK.ix_tupK (K := K)) (pv 0) pe_int (fun _ _ => rfl)) pe_int (nomark _)) (pe_ix (UfK.ix_tupK (K := K)) (pv 0) pe_int (fun _ _ => rfl)) (UfR.pe_makeS T.fracMk (ok_f_init T) (hr.mono (by decide)) rfl T.frac.g T.f_init.b (fun σ => L2N.passAt UfT.takesN0 σ) (pa_cons (pe_ix (UfK.ix_tupK (K := K)) (pv 0) pe_int (fun _ _ => rfl)) (pa_cons (pe_ix (UfK.ix_tupK (K := K)) (pv 0) pe_int (fun _ _ => rfl)) pa_nil)))))), ?_⟩
    have S1 := SqT.of (K := K) Ht
    refine ⟨_, rfl, t, _, 1, _, rfl, rfl, S1, rfl, rfl, _, rfl, ite2 (fun h => ?_) (fun h => ?_)⟩
    · have h : q.den = 1 := by
        have : ((q.den : Nat) : Int) = 1 := by simpa using h
        omega
      exact ⟨_, rfl, t, _, 0, _, rfl, rfl, S1, rfl, k _ _ _ lw (.inl ⟨h, rfl⟩)⟩
    · have h : q.den ≠ 1 := fun z => h (by rw [z]; rfl)
      refine ⟨_, rfl, t, _, 0, _, rfl, rfl, S1, rfl, _, rfl, t, _, 1, _, rfl, rfl, S1, rfl, ?_⟩
      refine fun x dx hx hd ne => ⟨q.num, q.den, call_make lw ⟨rfl, by rw [Int.natAbs_natCast]; exact Nat.lt_trans qb (by decide +kernel)⟩ (fun G1 H1 x e lw hv => k _ _ _ lw (.inr ⟨h, x, rfl, by have := hv.2.2; rw [q_fr] at this; exact this⟩)) (fun G1 H1 C q' e lw hv => ?_) x dx hx hd ne⟩
      rcases hv with ⟨z, _⟩ | ⟨_, z, _⟩
      · exact den_ne q z
      · have := (fr_whole (den_ne q)).mpr z
        rw [q_fr] at this
        exact h this
end
end K06

namespace K06
open PySem PySem.Spec PyProof.Rows L2 UfG UfT UfR UfO UfI UfQ UfN UfW
open UfL (LP lowP plusP timesP gcdL primL clr invP ledO firstNz clrAll stepRow runRows)
open UfZ (Kd)
open Evl (Ex)
/-! ### known rows -/
/-- a known list of ints -/
def IL (G : Hp) (v : V) (u : List Int) : Prop := ∃ t, v = .ref t ∧ G t = some (.lst (u.map V.int))
theorem IL.ex {G G' : Hp} {v : V} {u : List Int} (e : Ex G G') (h : IL G v u) : IL G' v u := by
  obtain ⟨t, e1, h⟩ := h
  exact ⟨t, e1, e _ _ h⟩
/-- the values xs are the numbers qs -/
def Nms (F : Addr) (G : Hp) (xs : List V) (qs : List Rat) : Prop := xs.length = qs.length ∧ ∀ (i : Nat) (x : V), xs[i]? = some x → ∃ q, qs[i]? = some q ∧ Nm F G x q
theorem Nms.ex {F : Addr} {G G' : Hp} {xs : List V} {qs : List Rat} (e : Ex G G') (h : Nms F G xs qs) : Nms F G' xs qs := ⟨h.1, fun i x hx => by
  obtain ⟨q, h1, h2⟩ := h.2 i x hx
  exact ⟨q, h1, h2.ex e⟩⟩
/-- a known list or tuple of numbers -/
def NS (d : Kd) (F : Addr) (G : Hp) (v : V) (qs : List Rat) : Prop := ∃ t xs, v = .ref t ∧ GSq d G t xs ∧ Nms F G xs qs
theorem NS.ex {d : Kd} {F : Addr} {G G' : Hp} {v : V} {qs : List Rat} (e : Ex G G') (h : NS d F G v qs) : NS d F G' v qs := by
  obtain ⟨t, xs, e1, h1, h2⟩ := h
  exact ⟨t, xs, e1, h1.ex e, h2.ex e⟩
def iq (u : List Int) : List Rat := u.map fun (x : Int) => (x : Rat)
theorem IL.ns {F : Addr} {G : Hp} {v : V} {u : List Int} (h : IL G v u) : NS .li F G v (iq u) := by
  obtain ⟨t, e, h⟩ := h
  refine ⟨t, _, e, h, by rw [List.length_map]; exact (List.length_map _).symm, fun i x hx => ?_⟩
  obtain ⟨n, hn, rfl⟩ := at_int hx
  exact ⟨(n : Rat), by unfold iq; rw [List.getElem?_map, hn]; rfl, .ofInt n⟩
theorem tC_ap {v : V} {σ : L2.St} {H : Hp} {Q : VK} (h : Q v H) : tC v σ H Q := h
/-! ### first_place -/
def firstQ : List Rat → Option Nat
  | [] => none
  | q :: r => if q ≠ 0 then some 0 else (firstQ r).map (· + 1)
def optV : Option Nat → V
  | none => .non
  | some n => .int (n : Nat)
theorem firstQ_iq : ∀ u : List Int, firstQ (iq u) = firstNz u
  | [] => rfl
  | x :: u => by
    show (if (x : Rat) ≠ 0 then some 0 else (firstQ (iq u)).map (· + 1)) = if x ≠ 0 then some 0 else (firstNz u).map (· + 1)
    rw [firstQ_iq u]
    by_cases h : x = 0
    · rw [if_neg (by simp [h]), if_neg (by simp [h])]
    · rw [if_pos (by exact_mod_cast h), if_pos h]
theorem firstQ_hit : ∀ {qs : List Rat} {i : Nat} {q : Rat}, qs[i]? = some q → q ≠ 0 → (∀ (j : Nat), j < i → ∀ r : Rat, qs[j]? = some r → r = 0) → firstQ qs = some i
  | [], _, _, h, _, _ => by cases h
  | a :: qs, 0, q, h, h1, _ => by
    cases h
    exact if_pos h1
  | a :: qs, i + 1, q, h, h1, h2 => by
    have a0 : a = 0 := h2 0 (Nat.succ_pos i) a rfl
    show (if a ≠ 0 then some 0 else (firstQ qs).map (· + 1)) = _
    rw [if_neg (by simp [a0]), firstQ_hit (i := i) h h1 fun j hj r hr => h2 (j + 1) (by omega) r hr]
    rfl
theorem firstQ_no : ∀ {qs : List Rat}, (∀ (j : Nat) (r : Rat), qs[j]? = some r → r = 0) → firstQ qs = none
  | [], _ => rfl
  | a :: qs, h => by
    have a0 : a = 0 := h 0 a rfl
    show (if a ≠ 0 then some 0 else (firstQ qs).map (· + 1)) = _
    rw [if_neg (by simp [a0]), firstQ_no fun j r hr => h (j + 1) r hr]
    rfl
section
variable {P : Program} {w : World} {K : PySem.W.Frag} {mg : Str → Option Value} {base : Heap}
theorem sc_first_place : FnScope ["row", "place", "number"] ["row"] (defScope s_first_place) := ⟨rfl, rfl, rfl, by decide +kernel, rfl, by decide +kernel, by decide +kernel⟩
def sp_first_place (T : Tx K mg) : Sp := fun vs H Q E => ∃ (d : Kd) (qs : List Rat), PureSp (fun vs G => ∃ y, vs = [y] ∧ NS d T.frac.C G y qs) (fun _ _ _ v => v = optV (firstQ qs)) vs H Q E
theorem ok_first_place (T : Tx K mg) : FnOk P w K mg base CX0 9 T.first_place.f T.first_place.fd ["row"] (sp_first_place T) := by
  refine T.first_place.F.ok sc_first_place (fun vs H Q E h => ?_) (fun cdv A outer s H vs Q E hr h => ?_)
  · obtain ⟨d, qs, G, _, ⟨y, rfl, _⟩, _⟩ := h
    rfl
  · obtain ⟨d, qs, G, lw, ⟨y, rfl, t, xs, rfl, ht, hn⟩, k⟩ := h
    have turn : ∀ {i : Nat} {x : V} {q : Rat} {G1 H1 : Hp} {Qr : V → Hp → Prop}, xs[i]? = some x → qs[i]? = some q → Nm T.frac.C G1 x q → Lw H G none [] G1 H1 → (∀ G2 H2, Ex G1 G2 → Lw H G none [] G2 H2 → Qr (.bl (!decide (q = 0))) H2) →
        rOwnEq T.frac.C (sp_f_eq T) E0 true x (.int 0) H1 Qr := fun hx hq hN lw kk => r_eqN (neg := true) lw hN (Nm.ofInt 0) fun G2 H2 e lw => kk G2 H2 e lw
    cases d with
    | li =>
      refine ⟨_, (pss_cons (ps_for PassesOwn.never rfl (UfV.pi_enumK (K := K) rfl T.z_enumerate (pa_cons (pv 0) pa_nil)) (UfK.pg_tupK (K := K) (n := 2) rfl (pgs_cons (pg_name (i := 1) sc_first_place.nd rfl (.inl rfl)) (pgs_cons (pg_name (i := 2) sc_first_place.nd rfl (.inl rfl)) pgs_nil))) (pss_one (ps_if (pt_cmpR (UfO.op_ownNe (hr.mono (by decide)) T.frac.o T.fEq (ok_f_eq T) T.f_eq.b pass0) (pv 2) pe_int (nomark _)) (pss_one (ps_ret (pv 1))) pss_nil)))
      (pss_one (ps_ret pe_non))), ?_⟩
      refine ⟨_, rfl, t, xs, rfl, SqL.g lw ht, for_enumL (xs := xs) (fun i σ H' => ∃ (z1 z2 : Option V) (G' : Hp), σ = [some (.ref t), z1, z2] ∧ Lw H G none [] G' H' ∧ ∀ j < i, ∀ r, qs[j]? = some r → r = 0) ⟨none, none, G, rfl, lw, fun j hj => absurd hj (Nat.not_lt_zero j)⟩
        (fun i σ H' _ hp => ?_) (fun i x t2 σ H' hx hp nt => ?_) (fun σ H' hp => ?_)⟩
      · obtain ⟨z1, z2, G', rfl, lw, _⟩ := hp
        exact SqL.g lw (lw.g0 _ _ ht)
      · obtain ⟨z1, z2, G', rfl, lw, hz⟩ := hp
        obtain ⟨q, hq, hN⟩ := hn.2 i x hx
        obtain ⟨G2, e2, lw, h2⟩ := lw.allocE (o := .tup [.int (i : Nat), x]) nt
        refine ⟨t2, _, rfl, SqT.g lw h2, rfl, _, _, rfl, _, _, rfl, rfl, _, rfl, ?_⟩
        refine tC_ap ?_
        refine turn hx hq (hN.ex lw.g0) lw fun G3 H3 e3 lw => ?_
        refine ⟨_, rfl, ite2 (fun hb => ?_) (fun hb => ?_)⟩
        · have hq0 : q ≠ 0 := by simpa using hb
          refine ⟨_, rfl, k _ _ _ lw ?_⟩
          rw [firstQ_hit hq hq0 hz]
          rfl
        · have hq0 : q = 0 := by simpa using hb
          refine ⟨some _, some _, G3, rfl, lw, fun j hj r hr => ?_⟩
          by_cases e : j = i
          · rw [e, hq] at hr
            cases hr
            exact hq0
          · exact hz j (by omega) r hr
      · obtain ⟨z1, z2, G', rfl, lw, hz⟩ := hp
        refine k _ _ _ lw ?_
        rw [firstQ_no fun j r hr => hz j (by have := (List.getElem?_eq_some_iff.mp hr).1; have := hn.1; omega) r hr]
        rfl
    | tu =>
      refine ⟨_, (pss_cons (ps_for PassesOwn.never rfl (UfV.pi_enumTK (K := K) rfl T.z_enumerate (pa_cons (pv 0) pa_nil)) (UfK.pg_tupK (K := K) (n := 2) rfl (pgs_cons (pg_name (i := 1) sc_first_place.nd rfl (.inl rfl)) (pgs_cons (pg_name (i := 2) sc_first_place.nd rfl (.inl rfl)) pgs_nil))) (pss_one (ps_if (pt_cmpR (UfO.op_ownNe (hr.mono (by decide)) T.frac.o T.fEq (ok_f_eq T) T.f_eq.b pass0) (pv 2) pe_int (nomark _)) (pss_one (ps_ret (pv 1))) pss_nil)))
      (pss_one (ps_ret pe_non))), ?_⟩
      refine ⟨_, rfl, t, xs, rfl, SqT.g lw ht, UfM.for_enumT (xs := xs) (fun i σ H' => ∃ (z1 z2 : Option V) (G' : Hp), σ = [some (.ref t), z1, z2] ∧ Lw H G none [] G' H' ∧ ∀ j < i, ∀ r, qs[j]? = some r → r = 0) ⟨none, none, G, rfl, lw, fun j hj => absurd hj (Nat.not_lt_zero j)⟩
        (fun i σ H' _ hp => ?_) (fun i x t2 σ H' hx hp nt => ?_) (fun σ H' hp => ?_)⟩
      · obtain ⟨z1, z2, G', rfl, lw, _⟩ := hp
        exact SqT.g lw (lw.g0 _ _ ht)
      · obtain ⟨z1, z2, G', rfl, lw, hz⟩ := hp
        obtain ⟨q, hq, hN⟩ := hn.2 i x hx
        obtain ⟨G2, e2, lw, h2⟩ := lw.allocE (o := .tup [.int (i : Nat), x]) nt
        refine ⟨t2, _, rfl, SqT.g lw h2, rfl, _, _, rfl, _, _, rfl, rfl, _, rfl, ?_⟩
        refine tC_ap ?_
        refine turn hx hq (hN.ex lw.g0) lw fun G3 H3 e3 lw => ?_
        refine ⟨_, rfl, ite2 (fun hb => ?_) (fun hb => ?_)⟩
        · have hq0 : q ≠ 0 := by simpa using hb
          refine ⟨_, rfl, k _ _ _ lw ?_⟩
          rw [firstQ_hit hq hq0 hz]
          rfl
        · have hq0 : q = 0 := by simpa using hb
          refine ⟨some _, some _, G3, rfl, lw, fun j hj r hr => ?_⟩
          by_cases e : j = i
          · rw [e, hq] at hr
            cases hr
            exact hq0
          · exact hz j (by omega) r hr
      · obtain ⟨z1, z2, G', rfl, lw, hz⟩ := hp
        refine k _ _ _ lw ?_
        rw [firstQ_no fun j r hr => hz j (by have := (List.getElem?_eq_some_iff.mp hr).1; have := hn.1; omega) r hr]
        rfl
end
end K06

namespace K06
open PySem PySem.Spec PyProof.Rows L2 UfG UfT UfR UfO UfI UfQ UfN UfW
open UfL (LP lowP plusP timesP gcdL primL clr invP ledO firstNz clrAll stepRow runRows)
open UfZ (Kd)
open Evl (Ex)
/-! ### lists of ints made by a comprehension -/
def RI (res : List Int) : Nat → Hp → V → Prop := fun j _ y => ∃ n, res[j]? = some n ∧ y = .int n
theorem RI.mono {res : List Int} : ∀ i (G G' : Hp) y, Ex G G' → RI res i G y → RI res i G' y := fun _ _ _ _ _ h => h
theorem vals_of {ys : List V} {res : List Int} (hl : ys.length = res.length) (h : ∀ (j : Nat) (y : V), ys[j]? = some y → ∃ n, res[j]? = some n ∧ y = .int n) : ys = res.map V.int := by
  refine List.ext_getElem? fun j => ?_
  rw [List.getElem?_map]
  cases e : ys[j]? with
  | none =>
    rw [List.getElem?_eq_none_iff] at e
    rw [List.getElem?_eq_none (by omega)]
    rfl
  | some y =>
    obtain ⟨n, hn, rfl⟩ := h j y e
    rw [hn]
    rfl
theorem gd_at {u : List Int} {i : Nat} {n : Int} (h : u[i]? = some n) : u.getD i 0 = n := by rw [List.getD_eq_getElem?_getD, h]; rfl
theorem at_gd {u : List Int} {i : Nat} (h : i < u.length) : u[i]? = some (u.getD i 0) := by
  rw [List.getD_eq_getElem?_getD, List.getElem?_eq_getElem h]
  rfl
theorem mem_at {u : List Int} {i : Nat} {n : Int} (h : u[i]? = some n) : n ∈ u := List.mem_of_getElem? h
theorem fdiv_le {x g : Int} (hg : g ≠ 0) (h : g ∣ x) : (x.fdiv g).natAbs ≤ x.natAbs := by
  have e := congrArg Int.natAbs (UfL.fdiv_exact hg h)
  rw [Int.natAbs_mul] at e
  rw [← e]
  exact Nat.le_mul_of_pos_right _ (by omega)
theorem gcdL_snoc : ∀ (u : List Int) (x : Int), gcdL (u ++ [x]) = Nat.gcd (gcdL u) x.natAbs
  | [], x => by
    show Nat.gcd x.natAbs 0 = Nat.gcd 0 x.natAbs
    rw [Nat.gcd_zero_right, Nat.gcd_zero_left]
  | y :: u, x => by
    show Nat.gcd y.natAbs (gcdL (u ++ [x])) = Nat.gcd (Nat.gcd y.natAbs (gcdL u)) x.natAbs
    rw [gcdL_snoc u x, Nat.gcd_assoc]
theorem gcdL_take {u : List Int} {i : Nat} {x : Int} (h : u[i]? = some x) : gcdL (u.take (i + 1)) = Nat.gcd (gcdL (u.take i)) x.natAbs := by
  rw [List.take_add_one, h]
  exact gcdL_snoc _ _
theorem gcdL_le {u : List Int} {i : Nat} (h : gcdL (u.take i) = 1) : gcdL u = 1 := by
  have : gcdL u ∣ gcdL (u.take i) := UfL.dvd_gcdL fun x hx => UfL.gcdL_dvd (List.mem_of_mem_take hx)
  rw [h] at this
  exact Nat.dvd_one.mp this
section
variable {P : Program} {w : World} {K : PySem.W.Frag} {mg : Str → Option Value} {base : Heap}
/-! ### _times_whole -/
theorem sc_times_whole : FnScope ["number", "factor"] ["number", "factor"] (defScope s_times_whole) := ⟨rfl, rfl, rfl, by decide +kernel, rfl, by decide +kernel, by decide +kernel⟩
def sp_times_whole (T : Tx K mg) : Sp := fun vs H Q E => ∃ (q : Rat) (l : Nat), PureSp (fun vs G => ∃ x, vs = [x, .int l] ∧ Nm T.frac.C G x q ∧ Sm 4000 q ∧ l < 2 ^ 64) (fun _ _ _ v => v = .int (q.num * ((l / q.den : Nat) : Int))) vs H Q E
theorem ok_times_whole (T : Tx K mg) : FnOk P w K mg base CX0 9 T.times_whole.f T.times_whole.fd ["number", "factor"] (sp_times_whole T) := by
  refine T.times_whole.F.ok sc_times_whole (fun vs H Q E h => ?_) (fun cdv A outer s H vs Q E hr h => ?_)
  · obtain ⟨q, l, G, _, ⟨x, rfl, _⟩, _⟩ := h
    rfl
  · obtain ⟨q, l, G, lw, ⟨x, rfl, hx, sq, hl⟩, k⟩ := h
    refine ⟨_, (pss_cons (ps_if (pt_val (pe_callB (UfK.call_isiK' (K := K)) (by rfl) T.z_isinstance (by decide +kernel) (pa_cons (pv 0) (pa_cons (pe_glob (v := .ref T.frac.C) rfl T.frac.g rfl) pa_nil)))) (pss_one (ps_ret (pe_op op_mulW (UfK.pe_fldK (K := K) (pv 0) rfl) (pe_op UfR.op_fdivZ (pv 1) (UfK.pe_fldK (K := K) (pv 0) rfl))))) pss_nil)
      (pss_one (ps_ret (pe_op (UfO.op_ownMul (hr.mono (by decide)) T.frac.o T.oMul (ok_f_mul T) T.f_mul.b (ok_f_rmul T) T.f_rmul.b pass0) (pv 0) (pv 1))))), ?_⟩
    have lb : (l : Int).natAbs < 2 ^ 4000 := by
      rw [Int.natAbs_natCast]
      exact Nat.lt_trans hl (by decide +kernel)
    rcases hx with ⟨h1, rfl⟩ | ⟨h1, a, rfl, dx, ha⟩
    · refine ⟨_, rfl, .int q.num, .ref T.frac.C, .type "int", .ref T.frac.C, false, rfl, .own _, .base (.int _), T.kIF, false, rfl, iteF ⟨_, rfl, _, rfl, .inl ⟨_, _, rfl, rfl, _, _, rfl, rfl, sm_mul sq.1 lb, k _ _ _ lw ?_⟩⟩⟩
      rw [h1, Nat.div_one]
    · have Ha := lw.gh _ _ ha
      have dc : CDivZ 0 (q.den : Int) := ⟨by have := q.den_nz; omega, lg (b := 4000) (sm_den sq) (by decide) (by decide)⟩
      have ed : ((l : Int).fdiv (q.den : Int)) = ((l / q.den : Nat) : Int) := by
        rw [Int.fdiv_eq_ediv_of_nonneg _ (by omega)]
        rfl
      have b2 : ((l : Int).fdiv (q.den : Int)).natAbs < 2 ^ 4000 := by
        rw [ed, Int.natAbs_natCast]
        exact Nat.lt_of_le_of_lt (Nat.div_le_self _ _) (by rw [Int.natAbs_natCast] at lb; exact lb)
      refine ⟨_, rfl, .ref a, .ref T.frac.C, .ref T.frac.C, .ref T.frac.C, true, rfl, .own _, T.frac.ty Ha, T.kFF, true, rfl, iteT ⟨_, rfl, a, T.frac.C, dx, _, _, rfl, Ha, T.frac.c, T.nNum, lk_num, _, rfl, _, rfl, a, T.frac.C, dx, _, _, rfl, Ha, T.frac.c, T.nDen, lk_den, _, _, rfl, rfl, dc, _, _, rfl, rfl, sm_mul sq.1 b2, k _ _ _ lw ?_⟩⟩
      rw [ed]
/-! ### _primitive -/
theorem sc_primitive : FnScope ["row", "common", "number"] ["row"] (defScope s_primitive) := ⟨rfl, rfl, rfl, by decide +kernel, rfl, by decide +kernel, by decide +kernel⟩
def sp_primitive : Sp := fun vs H Q E => ∃ u : List Int, PureSp (fun vs G => ∃ y, vs = [y] ∧ IL G y u ∧ u.length ≤ 90000 ∧ ∀ x ∈ u, x.natAbs < 2 ^ 8900) (fun _ _ G' v => IL G' v (primL u)) vs H Q E
theorem ok_primitive (T : Tx K mg) : FnOk P w K mg base CX0 1 T.primitive.f T.primitive.fd ["row"] sp_primitive := by
  refine T.primitive.F.ok sc_primitive (fun vs H Q E h => ?_) (fun cdv A outer s H vs Q E hr h => ?_)
  · obtain ⟨u, G, _, ⟨y, rfl, _⟩, _⟩ := h
    rfl
  · obtain ⟨u, G, lw, ⟨y, rfl, ⟨t, rfl, ht⟩, few, sml⟩, k⟩ := h
    refine ⟨_, (pss_cons (ps_set (i := 1) sc_primitive.nd rfl (.inr rfl) pe_int)
      (pss_cons (ps_for PassesOwn.never rfl (UfK.pi_listK (K := K) (pv 0)) (pg_name (i := 2) sc_primitive.nd rfl (.inl rfl)) (pss_cons (ps_set (i := 1) sc_primitive.nd rfl (.inr rfl) (pe_callBfun cr_gcd rfl T.c_gcd (pa_cons (pv 1) (pa_cons (pv 2) pa_nil))))
      (pss_one (ps_if (pt_cmpR op_eq (pv 1) pe_int (nomark _)) (pss_one (ps_ret (pv 0))) pss_nil))))
      (pss_cons (ps_if (pt_cmpR op_eq (pv 1) pe_int (nomark _)) (pss_one (ps_ret (pv 0))) pss_nil)
      (pss_one (ps_ret (pe_lc (own := [("number", 2)]) rfl sc_primitive.nd (UfK.pi_listK (K := K) (pv 0)) (blkOk_by (own := [("number", 2)]) (N := ["row", "common", "number"]) (sc := defScope s_primitive) (by decide +kernel)) (fun _ _ _ _ _ => by exact pg_name (i := 2) sc_primitive.nd rfl (.inl rfl)) (fun _ _ _ _ _ => pts_nil) (fun _ _ _ _ _ => (pe_op UfR.op_fdivZ (pv 2) (pv 1))))))))), ?_⟩
    have hn0 : ∀ {i : Nat} {n : Int}, u[i]? = some n → (((gcdL (u.take i) : Nat) : Int).natAbs) = gcdL (u.take i) := fun _ => Int.natAbs_natCast _
    refine ⟨_, rfl, t, rfl, ⟨_, SqL.g lw ht⟩, for_list (xs := u.map V.int) (fun i σ H' => ∃ z2 : Option V, σ = [some (.ref t), some (.int ((gcdL (u.take i) : Nat) : Int)), z2] ∧ Lw H G none [] G H' ∧ gcdL (u.take i) ≠ 1) ⟨none, rfl, lw, (by show (0 : Nat) ≠ 1; decide)⟩
      (fun i σ H' _ hp => ?_) (fun i x σ H' hx hp => ?_) (fun σ H' hp => ?_)⟩
    · obtain ⟨z2, rfl, lw, _⟩ := hp
      exact SqL.g lw ht
    · obtain ⟨z2, rfl, lw, _⟩ := hp
      obtain ⟨n, hn, rfl⟩ := at_int hx
      have eg := gcdL_take hn
      refine ⟨_, rfl, _, rfl, _, _, rfl, ?_⟩
      rw [Int.natAbs_natCast, ← eg]
      refine ⟨_, rfl, rfl, _, rfl, ite2 (fun h => ?_) (fun h => ?_)⟩
      · have h : gcdL (u.take (i + 1)) = 1 := by
          have h : ((gcdL (u.take (i + 1)) : Nat) : Int) = 1 := by simpa using h
          omega
        refine ⟨_, rfl, k _ _ _ lw ⟨t, rfl, ?_⟩⟩
        unfold primL
        rw [if_pos (by rw [gcdL_le h]; decide)]
        exact ht
      · exact ⟨some (.int n), rfl, lw, fun z => h (by rw [z]; rfl)⟩
    · obtain ⟨z2, rfl, lw, h1⟩ := hp
      rw [List.length_map, List.take_length] at h1 ⊢
      refine ⟨_, rfl, rfl, _, rfl, ite2 (fun h => ?_) (fun h => ?_)⟩
      · have h : gcdL u = 0 := by
          have h : ((gcdL u : Nat) : Int) = 0 := by simpa using h
          omega
        refine ⟨_, rfl, k _ _ _ lw ⟨t, rfl, ?_⟩⟩
        unfold primL
        rw [if_pos (by rw [h]; decide)]
        exact ht
      · have h : gcdL u ≠ 0 := fun z => h (by rw [z]; rfl)
        have ep : primL u = u.map (fun x => x.fdiv (gcdL u)) := by
          unfold primL
          rw [if_neg (by omega)]
        have dc : CDivZ 0 ((gcdL u : Nat) : Int) := by
          refine ⟨by omega, lg (b := 8900) ?_ (by decide) (by decide)⟩
          rw [Int.natAbs_natCast]
          refine Classical.byContradiction fun z => h ?_
          have all0 : ∀ x ∈ u, x = 0 := fun x hx => by
            have d := UfL.gcdL_dvd hx
            have s := sml x hx
            by_cases e : x = 0
            · exact e
            · exact absurd (Nat.lt_of_le_of_lt (Nat.le_of_dvd (by omega) d) s) z
          have : ∀ v : List Int, (∀ x ∈ v, x = 0) → gcdL v = 0 := fun v => by
            induction v with
            | nil => exact fun _ => rfl
            | cons a v ih =>
              intro hv
              show Nat.gcd a.natAbs (gcdL v) = 0
              rw [hv a List.mem_cons_self, ih fun x hx => hv x (List.mem_cons_of_mem _ hx)]
              rfl
          exact this u all0
        refine ⟨_, rfl, t, rfl, ⟨_, SqL.g lw ht⟩, fun D hD => ?_⟩
        refine lc_list (K := K) (pf := fun _ => none) (R := RI (primL u)) lw hD ht (by rw [List.length_map]; exact few) RI.mono (fun i x acc G1 H1 hx e1 lw Nx kk => ?_) (fun G1 H1 ys e1 lw h1 hl hy => ?_)
        · obtain ⟨n, hn, rfl⟩ := at_int hx
          refine ⟨rfl, _, rfl, _, rfl, _, _, rfl, rfl, dc, kk _ _ _ (Evl.Ex.refl _) lw ⟨_, ?_, rfl⟩⟩
          rw [ep, List.getElem?_map, hn]
          rfl
        · refine k _ _ _ lw ⟨D, rfl, ?_⟩
          rw [h1, vals_of (res := primL u) (by rw [hl, List.length_map, UfL.primL_len]) hy]
end
end K06

namespace K06
open PySem PySem.Spec PyProof.Rows L2 UfG UfT UfR UfO UfI UfQ UfN UfW
open UfL (LP lowP plusP timesP gcdL primL clr invP ledO firstNz clrAll stepRow runRows)
open UfZ (Kd)
open Evl (Ex)
theorem il_at {u : List Int} {q : Nat} (h : q < u.length) : atI (u.map V.int) (q : Int) = some (.int (u.getD q 0)) := atI_nat (by rw [List.getElem?_map, at_gd h]; rfl)
/-- small ints -/
def Sb (b : Nat) (u : List Int) : Prop := ∀ x ∈ u, x.natAbs < 2 ^ b
theorem Sb.gd {b : Nat} {u : List Int} (h : Sb b u) (j : Nat) : (u.getD j 0).natAbs < 2 ^ b := by
  by_cases z : u.getD j 0 = 0
  · rw [z]
    exact Nat.two_pow_pos b
  · exact h _ (UfL.gd_mem z)
theorem map_ext {u : List Int} {f : Int → Int} {i : Nat} {n : Int} (h : u[i]? = some n) : (u.map f)[i]? = some (f n) := by rw [List.getElem?_map, h]; rfl
theorem zip_ext {u v : List Int} {f : Int → Int → Int} {i : Nat} {n m : Int} (h : u[i]? = some n) (h2 : v[i]? = some m) : (List.zipWith f u v)[i]? = some (f n m) := by rw [List.getElem?_zipWith, h, h2]
theorem sub_lt {a b : Int} {n : Nat} (ha : a.natAbs < 2 ^ n) (hb : b.natAbs < 2 ^ n) : (a - b).natAbs < 2 ^ (n + 1) := by
  have := Int.natAbs_sub_le a b
  rw [Nat.pow_succ]
  omega
section
variable {P : Program} {w : World} {K : PySem.W.Frag} {mg : Str → Option Value} {base : Heap}
/-! ### _cleared_at -/
theorem sc_cleared : FnScope ["prime", "row", "held", "place", "number", "common", "times", "less", "entry", "part"] ["prime", "row", "held", "place"] (defScope s_cleared) := ⟨rfl, rfl, rfl, by decide +kernel, rfl, by decide +kernel, by decide +kernel⟩
def sp_cleared : Sp := fun vs H Q E => ∃ (p : Int) (u h : List Int) (q : Nat), PureSp (fun vs G => ∃ x y, vs = [.int p, x, y, .int q] ∧ IL G x u ∧ IL G y h ∧ u.length = h.length ∧ q < u.length ∧ u.length ≤ 1000 ∧ 0 ≤ p ∧ Sb 3900 u ∧ Sb 3900 h) (fun _ _ G' v => IL G' v (clr p u h q)) vs H Q E
theorem ok_cleared (T : Tx K mg) : FnOk P w K mg base CX0 2 T.cleared.f T.cleared.fd ["prime", "row", "held", "place"] sp_cleared := by
  refine T.cleared.F.ok sc_cleared (fun vs H Q E h => ?_) (fun cdv A outer s H vs Q E hr h => ?_)
  · obtain ⟨p, u, h, q, G, _, ⟨x, y, rfl, _⟩, _⟩ := h
    rfl
  · obtain ⟨p, u, h, q, G, lw, ⟨x, y, rfl, ⟨t, rfl, ht⟩, ⟨t2, rfl, ht2⟩, hl, hq, few, p0, su, sh⟩, k⟩ := h
    refine ⟨_, (pss_cons (ps_set (i := 4) sc_cleared.nd rfl (.inr rfl) (pe_ix (UfK.ix_listK (K := K)) (pv 1) (pv 3) (fun _ _ => rfl)))
      (pss_cons (ps_if (pt_cmpR op_eq (pv 4) pe_int (nomark _)) (pss_one (ps_ret (pv 1))) pss_nil)
      (pss_cons (ps_if (pt_cmpR op_gt (pv 0) pe_int (nomark _)) (pss_one (ps_ret (pe_lc (own := [("entry", 8), ("part", 9)]) rfl sc_cleared.nd (UfZ.pi_zipK (K := K) (c := .li) (d := .li) rfl T.z_zip (pa_cons (pv 1) (pa_cons (pv 2) pa_nil))) (blkOk_by (own := [("entry", 8), ("part", 9)]) (N := ["prime", "row", "held", "place", "number", "common", "times", "less", "entry", "part"]) (sc := defScope s_cleared) (by decide +kernel)) (fun _ _ _ _ _ => by exact UfK.pg_tupK (K := K) (n := 2) rfl (pgs_cons (pg_name (i := 8) sc_cleared.nd rfl (.inl rfl)) (pgs_cons (pg_name (i := 9) sc_cleared.nd rfl (.inl rfl)) pgs_nil))) (fun _ _ _ _ _ => pts_nil) (fun _ _ _ _ _ => (pe_op op_modN (pe_op op_sub (pv 8) (pe_op op_mulW (pv 4) (pv 9))) (pv 0)))))) pss_nil)
      (pss_cons (ps_set (i := 5) sc_cleared.nd rfl (.inl rfl) (pe_callBfun cr_gcd rfl T.c_gcd (pa_cons (pv 4) (pa_cons (pe_ix (UfK.ix_listK (K := K)) (pv 2) (pv 3) (fun _ _ => rfl)) pa_nil))))
      (pss_cons (ps_set (i := 6) sc_cleared.nd rfl (.inr rfl) (pe_op UfR.op_fdivZ (pe_ix (UfK.ix_listK (K := K)) (pv 2) (pv 3) (fun _ _ => rfl)) (pv 5)))
      (pss_cons (ps_set (i := 7) sc_cleared.nd rfl (.inr rfl) (pe_op UfR.op_fdivZ (pv 4) (pv 5)))
      (pss_one (ps_ret (pe_call (ok_primitive T) (hr.mono (by decide)) (by rfl) T.primitive.g T.primitive.F.kp T.primitive.b .nil pass0 (pa_cons (pe_lc (own := [("entry", 8), ("part", 9)]) rfl sc_cleared.nd (UfZ.pi_zipK (K := K) (c := .li) (d := .li) rfl T.z_zip (pa_cons (pv 1) (pa_cons (pv 2) pa_nil))) (blkOk_by (own := [("entry", 8), ("part", 9)]) (N := ["prime", "row", "held", "place", "number", "common", "times", "less", "entry", "part"]) (sc := defScope s_cleared) (by decide +kernel)) (fun _ _ _ _ _ => by exact UfK.pg_tupK (K := K) (n := 2) rfl (pgs_cons (pg_name (i := 8) sc_cleared.nd rfl (.inl rfl)) (pgs_cons (pg_name (i := 9) sc_cleared.nd rfl (.inl rfl)) pgs_nil))) (fun _ _ _ _ _ => pts_nil) (fun _ _ _ _ _ => (pe_op op_sub (pe_op op_mulW (pv 6) (pv 8)) (pe_op op_mulW (pv 7) (pv 9))))) pa_nil)))))))))), ?_⟩
    have z39 : (2 : Nat) ^ 3900 < 2 ^ 4000 := by decide +kernel
    have b1 := Nat.lt_trans (su.gd q) z39
    have b2 := Nat.lt_trans (sh.gd q) z39
    refine ⟨_, rfl, _, rfl, t, _, (q : Int), _, rfl, rfl, SqL.g lw ht, il_at hq, ?_⟩
    refine ⟨_, rfl, rfl, _, rfl, ite2 (fun hz => ?_) (fun hz => ?_)⟩
    · have hz : u.getD q 0 = 0 := by simpa using hz
      refine ⟨_, rfl, k _ _ _ lw ⟨t, rfl, ?_⟩⟩
      unfold UfL.clr
      rw [if_pos hz]
      exact ht
    have hz : u.getD q 0 ≠ 0 := by simpa using hz
    refine ⟨_, rfl, _, _, rfl, rfl, _, rfl, ite2 (fun hp => ?_) (fun hp => ?_)⟩
    · have hp : 0 < p := by simpa using hp
      have ec : clr p u h q = List.zipWith (fun e t => (e - u.getD q 0 * t).fmod p) u h := by
        unfold UfL.clr
        rw [if_neg hz, if_pos hp]
      refine ⟨_, rfl, _, rfl, t, t2, _, _, rfl, SqL.g lw ht, SqL.g lw ht2, fun D hD => ?_⟩
      refine lc_zip (K := K) (c := .li) (d := .li) (pf := fun _ => none) (R := RI (clr p u h q)) lw hD ht ht2 (by rw [List.length_map, List.length_map, hl]) (by rw [List.length_map]; omega) RI.mono (fun i x y tt acc G1 H1 hx hy e1 lw htt Nx kk => ?_) (fun G1 H1 ys e1 lw h1 hl' hy => ?_)
      · obtain ⟨n, hn, rfl⟩ := at_int hx
        obtain ⟨m, hm, rfl⟩ := at_int hy
        have bm := Nat.lt_trans (sh m (mem_at hm)) z39
        refine ⟨tt, _, rfl, SqT.g lw htt, rfl, _, _, rfl, _, _, rfl, rfl, rfl, _, rfl, _, rfl, _, rfl, _, _, rfl, rfl, sm_mul b1 bm, _, _, rfl, rfl, _, rfl, _, _, rfl, rfl, (show p ≠ 0 by omega), kk _ _ _ (Evl.Ex.refl _) lw ⟨_, ?_, rfl⟩⟩
        rw [ec, zip_ext hn hm]
      · refine k _ _ _ lw ⟨D, rfl, ?_⟩
        rw [h1, vals_of (res := clr p u h q) (by rw [hl', List.length_map, UfL.clr_len hl]) hy]
    · have hp : p = 0 := by
        have hp : ¬ 0 < p := by simpa using hp
        omega
      subst hp
      have hq2 : q < h.length := by omega
      have g1 : ((Nat.gcd (u.getD q 0).natAbs (h.getD q 0).natAbs : Nat) : Int) ≠ 0 := by
        have := Nat.gcd_pos_of_pos_left (h.getD q 0).natAbs (show 0 < (u.getD q 0).natAbs by omega)
        omega
      have d1 : ((Nat.gcd (u.getD q 0).natAbs (h.getD q 0).natAbs : Nat) : Int) ∣ u.getD q 0 := Int.ofNat_dvd_left.mpr (Nat.gcd_dvd_left _ _)
      have d2 : ((Nat.gcd (u.getD q 0).natAbs (h.getD q 0).natAbs : Nat) : Int) ∣ h.getD q 0 := Int.ofNat_dvd_left.mpr (Nat.gcd_dvd_right _ _)
      have dc : CDivZ 0 ((Nat.gcd (u.getD q 0).natAbs (h.getD q 0).natAbs : Nat) : Int) := ⟨g1, by
        refine lg (b := 4000) ?_ (by decide) (by decide)
        rw [Int.natAbs_natCast]
        exact Nat.lt_of_le_of_lt (Nat.le_of_dvd (by omega) (Nat.gcd_dvd_left _ _)) b1⟩
      have ec : clr 0 u h q = primL (List.zipWith (fun e t => (h.getD q 0).fdiv ((Nat.gcd (u.getD q 0).natAbs (h.getD q 0).natAbs : Nat) : Int) * e - (u.getD q 0).fdiv ((Nat.gcd (u.getD q 0).natAbs (h.getD q 0).natAbs : Nat) : Int) * t) u h) := by
        unfold UfL.clr
        rw [if_neg hz, if_neg (by decide)]
      have c1 := Nat.lt_of_le_of_lt (fdiv_le g1 d1) b1
      have c2 := Nat.lt_of_le_of_lt (fdiv_le g1 d2) b2
      refine ⟨_, rfl, _, rfl, _, rfl, t2, _, (q : Int), _, rfl, rfl, SqL.g lw ht2, il_at hq2, _, _, rfl, ?_⟩
      generalize ((Nat.gcd (u.getD q 0).natAbs (h.getD q 0).natAbs : Nat) : Int) = g at *
      refine ⟨_, rfl, _, rfl, t2, _, (q : Int), _, rfl, rfl, SqL.g lw ht2, il_at hq2, _, rfl, _, _, rfl, rfl, dc, ?_⟩
      refine ⟨_, rfl, _, rfl, _, _, rfl, rfl, dc, ?_⟩
      refine ⟨_, rfl, _, rfl, t, t2, _, _, rfl, SqL.g lw ht, SqL.g lw ht2, fun D hD => ?_⟩
      have hb : Sb 8900 (List.zipWith (fun e t => (h.getD q 0).fdiv g * e - (u.getD q 0).fdiv g * t) u h) := fun z hzz => by
        obtain ⟨i, hi⟩ := List.mem_iff_getElem?.mp hzz
        rw [List.getElem?_zipWith] at hi
        cases e1 : u[i]? with
        | none => rw [e1] at hi; cases hi
        | some n =>
          cases e2 : h[i]? with
          | none => rw [e1, e2] at hi; cases hi
          | some m =>
            rw [e1, e2] at hi
            cases hi
            have x1 := Nat.lt_trans (su n (mem_at e1)) z39
            have x2 := Nat.lt_trans (sh m (mem_at e2)) z39
            exact Nat.lt_trans (sub_lt (m98b c2 x1) (m98b c1 x2)) (by decide +kernel)
      refine lc_zip (K := K) (c := .li) (d := .li) (pf := fun _ => none) (R := RI (List.zipWith (fun e t => (h.getD q 0).fdiv g * e - (u.getD q 0).fdiv g * t) u h)) lw hD ht ht2 (by rw [List.length_map, List.length_map, hl]) (by rw [List.length_map]; omega) RI.mono (fun i x y tt acc G1 H1 hx hy e1 lw htt Nx kk => ?_) (fun G1 H1 ys e1 lw h1 hl' hy => ?_)
      · obtain ⟨n, hn, rfl⟩ := at_int hx
        obtain ⟨m, hm, rfl⟩ := at_int hy
        have x1 := Nat.lt_trans (su n (mem_at hn)) z39
        have x2 := Nat.lt_trans (sh m (mem_at hm)) z39
        refine ⟨tt, _, rfl, SqT.g lw htt, rfl, _, _, rfl, _, _, rfl, rfl, rfl, _, rfl, _, rfl, _, _, rfl, rfl, sm_mul c2 x1, _, rfl, _, rfl, _, _, rfl, rfl, sm_mul c1 x2, _, _, rfl, rfl, kk _ _ _ (Evl.Ex.refl _) lw ⟨_, ?_, rfl⟩⟩
        rw [zip_ext hn hm]
      · have len : (List.zipWith (fun e t => (h.getD q 0).fdiv g * e - (u.getD q 0).fdiv g * t) u h).length = u.length := by rw [List.length_zipWith]; omega
        have hys := vals_of (res := List.zipWith (fun e t => (h.getD q 0).fdiv g * e - (u.getD q 0).fdiv g * t) u h) (by rw [hl', List.length_map, len]) hy
        rw [hys] at h1
        refine ⟨_, call_pure lw ⟨_, rfl, ⟨D, rfl, h1⟩, by rw [len]; omega, hb⟩ fun G2 H2 v e2 lw hv => k _ _ _ lw ?_⟩
        rw [ec]
        exact hv
/-! ### _led_by_one -/
theorem sc_led : FnScope ["prime", "row", "lead", "factor", "number"] ["prime", "row", "lead"] (defScope s_led) := ⟨rfl, rfl, rfl, by decide +kernel, rfl, by decide +kernel, by decide +kernel⟩
def sp_led : Sp := fun vs H Q E => ∃ (p : Int) (u : List Int) (q : Nat), PureSp (fun vs G => ∃ x, vs = [.int p, x, .int q] ∧ IL G x u ∧ q < u.length ∧ u.length ≤ 1000 ∧ (p = 0 ∨ 2 ≤ p ∧ p < 1000 ∧ Sb 900 u ∧ (u.getD q 0).fmod p ≠ 0)) (fun _ _ G' v => IL G' v (ledO p u q)) vs H Q E
theorem ok_led (T : Tx K mg) : FnOk P w K mg base CX0 12 T.led.f T.led.fd ["prime", "row", "lead"] sp_led := by
  refine T.led.F.ok sc_led (fun vs H Q E h => ?_) (fun cdv A outer s H vs Q E hr h => ?_)
  · obtain ⟨p, u, q, G, _, ⟨x, rfl, _⟩, _⟩ := h
    rfl
  · obtain ⟨p, u, q, G, lw, ⟨x, rfl, ⟨t, rfl, ht⟩, hq, few, hp⟩, k⟩ := h
    refine ⟨_, (pss_cons (ps_if (PW.pt (pw_or (pt_cmpR op_eq (pv 0) pe_int (nomark _)) (pw_or1 (pt_cmpR op_eq (pe_ix (UfK.ix_listK (K := K)) (pv 1) (pv 2) (fun _ _ => rfl)) pe_int (nomark _))))) (pss_one (ps_ret (pv 1))) pss_nil)
      (pss_cons (ps_set (i := 3) sc_led.nd rfl (.inr rfl) (pe_callS (ok_plain_over T) (hr.mono (by decide)) rfl T.plain_over.g T.plain_over.F.kp T.plain_over.b (fun σ => L2N.passAt UfT.takesN0 σ) (pa_cons (pv 0) (pa_cons pe_int (pa_cons (pe_ix (UfK.ix_listK (K := K)) (pv 1) (pv 2) (fun _ _ => rfl)) pa_nil)))))
      (pss_one (ps_ret (pe_lc (own := [("number", 4)]) rfl sc_led.nd (UfK.pi_listK (K := K) (pv 1)) (blkOk_by (own := [("number", 4)]) (N := ["prime", "row", "lead", "factor", "number"]) (sc := defScope s_led) (by decide +kernel)) (fun _ _ _ _ _ => by exact pg_name (i := 4) sc_led.nd rfl (.inl rfl)) (fun _ _ _ _ _ => pts_nil) (fun _ _ _ _ _ => (pe_op op_modN (pe_op op_mulW (pv 3) (pv 4)) (pv 0)))))))), ?_⟩
    have same : p = 0 ∨ u.getD q 0 = 1 → IL G (.ref t) (ledO p u q) := fun z => ⟨t, rfl, by unfold UfL.ledO; rw [if_pos z]; exact ht⟩
    refine ⟨_, rfl, rfl, _, rfl, ite2 (fun h => iteT ⟨_, rfl, k _ _ _ lw (same (.inl (by simpa using h)))⟩) (fun h => ⟨_, rfl, _, rfl, t, _, (q : Int), _, rfl, rfl, SqL.g lw ht, il_at hq, rfl, _, rfl, ite2 (fun h2 => ⟨_, rfl, k _ _ _ lw (same (.inr (by simpa using h2)))⟩) (fun h2 => ?_)⟩)⟩
    have h0 : p ≠ 0 := by simpa using h
    have h1 : u.getD q 0 ≠ 1 := by simpa using h2
    rcases hp with hp | ⟨p2, p3, su, hm⟩
    · exact (h0 hp).elim
    have el : ledO p u q = u.map (fun x => (invP p (u.getD q 0) * x).fmod p) := by
      unfold UfL.ledO
      rw [if_neg (by omega)]
    have pb : p.natAbs < 2 ^ 4000 := Nat.lt_trans (show p.natAbs < 1000 by omega) (by decide +kernel)
    have ib : (invP p (u.getD q 0)).natAbs < 2 ^ 4000 := mod_lt (by omega) pb
    refine ⟨_, rfl, _, rfl, _, rfl, t, _, (q : Int), _, rfl, rfl, SqL.g lw ht, il_at hq, .inr ⟨p, 1, u.getD q 0, call_raiseN lw ⟨rfl, p2, pb, by decide +kernel⟩ (fun G1 H1 v e1 lw hv => ?_) fun G1 H1 C d e1 lw hv => (hm hv.1).elim⟩⟩
    obtain ⟨_, rfl⟩ := hv
    have ht1 := e1 _ _ ht
    refine ⟨_, rfl, t, rfl, ⟨_, SqL.g lw ht1⟩, fun D hD => ?_⟩
    refine lc_list (K := K) (pf := fun _ => none) (R := RI (ledO p u q)) lw hD ht1 (by rw [List.length_map]; omega) RI.mono (fun i x acc G2 H2 hx e2 lw Nx kk => ?_) (fun G2 H2 ys e2 lw h1 hl hy => ?_)
    · obtain ⟨n, hn, rfl⟩ := at_int hx
      have xb := Nat.lt_trans (su n (mem_at hn)) (show (2 : Nat) ^ 900 < 2 ^ 4000 by decide +kernel)
      refine ⟨rfl, _, rfl, _, rfl, _, _, rfl, rfl, sm_mul ib xb, _, rfl, _, _, rfl, rfl, (show p ≠ 0 by omega), kk _ _ _ (Evl.Ex.refl _) lw ⟨_, ?_, rfl⟩⟩
      rw [el]
      exact map_ext hn
    · refine k _ _ _ lw ⟨D, rfl, ?_⟩
      rw [h1, vals_of (res := ledO p u q) (by rw [hl, List.length_map, UfL.ledO_len]) hy]
/-! ### _finished -/
def fin (p : Int) (u : List Int) (q : Nat) : List Rat := if 0 < p then iq u else u.map fun x => fr x (u.getD q 0)
theorem fin_len (p : Int) (u : List Int) (q : Nat) : (fin p u q).length = u.length := by
  unfold fin
  split
  · exact List.length_map _
  · exact List.length_map _
theorem il_nt {F : Addr} {G : Hp} {t : Addr} {u : List Int} (h : G t = some (.tup (u.map V.int))) : NS .tu F G (.ref t) (iq u) := by
  refine ⟨t, _, rfl, h, by rw [List.length_map]; exact (List.length_map _).symm, fun i x hx => ?_⟩
  obtain ⟨n, hn, rfl⟩ := at_int hx
  exact ⟨(n : Rat), by unfold iq; rw [List.getElem?_map, hn]; rfl, .ofInt n⟩
/-- numbers made by a comprehension -/
def RN (F : Addr) (res : List Rat) : Nat → Hp → V → Prop := fun j G y => ∃ q, res[j]? = some q ∧ Nm F G y q
theorem RN.mono {F : Addr} {res : List Rat} : ∀ i (G G' : Hp) y, Ex G G' → RN F res i G y → RN F res i G' y := fun _ _ _ _ e h => by
  obtain ⟨q, h1, h2⟩ := h
  exact ⟨q, h1, h2.ex e⟩
theorem sc_finished : FnScope ["prime", "row", "lead", "number"] ["prime", "row", "lead"] (defScope s_finished) := ⟨rfl, rfl, rfl, by decide +kernel, rfl, by decide +kernel, by decide +kernel⟩
def sp_finished (T : Tx K mg) : Sp := fun vs H Q E => ∃ (p : Int) (u : List Int) (q : Nat), PureSp (fun vs G => ∃ x, vs = [.int p, x, .int q] ∧ IL G x u ∧ q < u.length ∧ u.length ≤ 1000 ∧ (p ≤ 0 → u.getD q 0 ≠ 0 ∧ Sb 4000 u)) (fun _ _ G' v => NS .tu T.frac.C G' v (fin p u q)) vs H Q E
theorem ok_finished (T : Tx K mg) : FnOk P w K mg base CX0 6 T.finished.f T.finished.fd ["prime", "row", "lead"] (sp_finished T) := by
  refine T.finished.F.ok sc_finished (fun vs H Q E h => ?_) (fun cdv A outer s H vs Q E hr h => ?_)
  · obtain ⟨p, u, q, G, _, ⟨x, rfl, _⟩, _⟩ := h
    rfl
  · obtain ⟨p, u, q, G, lw, ⟨x, rfl, ⟨t, rfl, ht⟩, hq, few, hp⟩, k⟩ := h
    refine ⟨_, (pss_cons (ps_if (PW.pt (pw_or (pt_cmpR op_gt (pv 0) pe_int (nomark _)) (pw_or1 (pt_cmpR op_eq (pe_ix (UfK.ix_listK (K := K)) (pv 1) (pv 2) (fun _ _ => rfl)) pe_int (nomark _))))) (pss_one (ps_ret (pe_callTy (UfK.call_tuple_ofK (K := K)) (by rfl) T.z_tuple (by decide +kernel) (pa_cons (pv 1) pa_nil)))) pss_nil)
      (pss_one (ps_ret (pe_callTy (UfK.call_tuple_ofK (K := K)) (by rfl) T.z_tuple (by decide +kernel) (pa_cons (pe_lc (own := [("number", 3)]) rfl sc_finished.nd (UfK.pi_listK (K := K) (pv 1)) (blkOk_by (own := [("number", 3)]) (N := ["prime", "row", "lead", "number"]) (sc := defScope s_finished) (by decide +kernel)) (fun _ _ _ _ _ => by exact pg_name (i := 3) sc_finished.nd rfl (.inl rfl)) (fun _ _ _ _ _ => pts_nil) (fun _ _ _ _ _ => (pe_callS (ok_ratio T) (hr.mono (by decide)) rfl T.ratio.g T.ratio.F.kp T.ratio.b (fun σ => L2N.passAt UfT.takesN0 σ) (pa_cons (pv 3) (pa_cons (pe_ix (UfK.ix_listK (K := K)) (pv 1) (pv 2) (fun _ _ => rfl)) pa_nil))))) pa_nil))))), ?_⟩
    have same : iq u = fin p u q → ∀ l, H l = none → Q (.ref l) (upd H l (.tup (u.map V.int))) := fun z l hl => by
      obtain ⟨G1, e1, lw, h1⟩ := lw.allocE (o := .tup (u.map V.int)) hl
      refine k _ _ _ lw ?_
      rw [← z]
      exact il_nt h1
    refine ⟨_, rfl, _, _, rfl, rfl, _, rfl, ite2 (fun h => iteT ⟨_, rfl, t, _, rfl, .inl ⟨SqL.g lw ht, same ?_⟩⟩) (fun h => ⟨_, rfl, _, rfl, t, _, (q : Int), _, rfl, rfl, SqL.g lw ht, il_at hq, rfl, _, rfl, ite2 (fun h2 => ⟨_, rfl, t, _, rfl, .inl ⟨SqL.g lw ht, same ?_⟩⟩) (fun h2 => ?_)⟩)⟩
    · unfold fin
      rw [if_pos (by simpa using h)]
    · have h0 : ¬ 0 < p := by simpa using h
      have h1 : u.getD q 0 = 1 := by simpa using h2
      unfold fin
      rw [if_neg h0, h1]
      exact List.map_congr_left fun x _ => (fr_one x).symm
    · have h0 : ¬ 0 < p := by simpa using h
      obtain ⟨nz, su⟩ := hp (by omega)
      have ef : fin p u q = u.map fun x => fr x (u.getD q 0) := by
        unfold fin
        rw [if_neg h0]
      refine ⟨_, rfl, t, rfl, ⟨_, SqL.g lw ht⟩, fun D hD => ?_⟩
      refine lc_list (K := K) (pf := fun _ => none) (R := RN T.frac.C (fin p u q)) lw hD ht (by rw [List.length_map]; omega) RN.mono (fun i x acc G2 H2 hx e2 lw Nx kk => ?_) (fun G2 H2 ys e2 lw h1 hl hy => ?_)
      · obtain ⟨n, hn, rfl⟩ := at_int hx
        refine ⟨rfl, _, rfl, _, rfl, _, rfl, t, _, (q : Int), _, rfl, rfl, SqL.g lw (e2 _ _ ht), il_at hq, call_ratio lw (Nat.lt_trans (su.gd q) (by decide +kernel)) nz fun G3 H3 v e3 lw hv => kk _ _ _ e3 lw ⟨_, ?_, hv⟩⟩
        rw [ef, List.getElem?_map, hn]
        rfl
      · refine ⟨D, _, rfl, .inl ⟨SqL.g lw h1, fun l hl2 => ?_⟩⟩
        obtain ⟨G3, e3, lw, h3⟩ := lw.allocE (o := .tup ys) hl2
        refine k _ _ _ lw ⟨l, ys, rfl, h3, by rw [hl, List.length_map, fin_len], fun i x hx => ?_⟩
        obtain ⟨q', h4, h5⟩ := hy i x hx
        exact ⟨q', h4, h5.ex e3⟩
end
end K06

namespace K06
open PySem PySem.Spec PyProof.Rows L2 UfG UfT UfR UfO UfI UfQ UfN UfW
open UfL (LP lowP plusP timesP gcdL primL clr invP ledO firstNz clrAll stepRow runRows)
open UfZ (Kd)
open Evl (Ex)
/-! ### whole_numbers -/
def lcmQ (qs : List Rat) : Nat := qs.foldl (fun s q => Nat.lcm s q.den) 1
def wholeQ (qs : List Rat) : List Int := primL (qs.map fun q => q.num * ((lcmQ qs / q.den : Nat) : Int))
theorem lcmQ_take {qs : List Rat} {i : Nat} {q : Rat} (h : qs[i]? = some q) : lcmQ (qs.take (i + 1)) = Nat.lcm (lcmQ (qs.take i)) q.den := by
  rw [List.take_add_one, h]
  show List.foldl _ _ (_ ++ [q]) = _
  rw [List.foldl_append]
  rfl
theorem lcmQ_dvd : ∀ {qs : List Rat} {s : Nat} {q : Rat}, q ∈ qs → q.den ∣ qs.foldl (fun s q => Nat.lcm s q.den) s
  | a :: qs, s, q, h => by
    have up : ∀ (qs : List Rat) (s : Nat), s ∣ qs.foldl (fun s q => Nat.lcm s q.den) s := fun qs => by
      induction qs with
      | nil => exact fun s => Nat.dvd_refl s
      | cons b qs ih => exact fun s => Nat.dvd_trans (Nat.dvd_lcm_left s b.den) (ih _)
    rcases List.mem_cons.mp h with rfl | h
    · exact Nat.dvd_trans (Nat.dvd_lcm_right s q.den) (up qs _)
    · exact (show q.den ∣ qs.foldl (fun s q => Nat.lcm s q.den) (Nat.lcm s a.den) from lcmQ_dvd h)
theorem nm_at {F : Addr} {G : Hp} {xs : List V} {qs : List Rat} (h : Nms F G xs qs) {i : Nat} (hi : i < qs.length) : ∃ x, xs[i]? = some x := ⟨_, List.getElem?_eq_getElem (by rw [h.1]; exact hi)⟩
section
variable {P : Program} {w : World} {K : PySem.W.Frag} {mg : Str → Option Value} {base : Heap}
theorem sc_whole : FnScope ["numbers", "shared", "number"] ["numbers"] (defScope s_whole) := ⟨rfl, rfl, rfl, by decide +kernel, rfl, by decide +kernel, by decide +kernel⟩
/-- numbers that whole_numbers takes -/
def WhOk (qs : List Rat) : Prop := qs.length ≤ 1000 ∧ (∀ q ∈ qs, Sm 3900 q ∧ q.den < 2 ^ 60) ∧ ∀ i, lcmQ (qs.take i) < 2 ^ 60
def sp_whole (T : Tx K mg) : Sp := fun vs H Q E => ∃ qs : List Rat, PureSp (fun vs G => ∃ x, vs = [x] ∧ NS .li T.frac.C G x qs ∧ WhOk qs) (fun _ _ G' v => IL G' v (wholeQ qs)) vs H Q E
theorem ok_whole (T : Tx K mg) : FnOk P w K mg base CX0 10 T.whole.f T.whole.fd ["numbers"] (sp_whole T) := by
  refine T.whole.F.ok sc_whole (fun vs H Q E h => ?_) (fun cdv A outer s H vs Q E hr h => ?_)
  · obtain ⟨qs, G, _, ⟨x, rfl, _⟩, _⟩ := h
    rfl
  · obtain ⟨qs, G, lw, ⟨x, rfl, ⟨t, xs, rfl, ht, hn⟩, few, sq, lc⟩, k⟩ := h
    have ht : G t = some (.lst xs) := ht
    refine ⟨_, (pss_cons (ps_set (i := 1) sc_whole.nd rfl (.inr rfl) pe_int)
      (pss_cons (ps_for PassesOwn.never rfl (UfK.pi_listK (K := K) (pv 0)) (pg_name (i := 2) sc_whole.nd rfl (.inl rfl)) (pss_one (ps_if (pt_val (pe_callB (UfK.call_isiK' (K := K)) (by rfl) T.z_isinstance (by decide +kernel) (pa_cons (pv 2) (pa_cons (pe_glob (v := .ref T.frac.C) rfl T.frac.g rfl) pa_nil)))) (pss_one (ps_set (i := 1) sc_whole.nd rfl (.inr rfl) (pe_callBfun cr_lcm rfl T.c_lcm (pa_cons (pv 1) (pa_cons (UfK.pe_fldK (K := K) (pv 2) rfl) pa_nil))))) pss_nil)))
      (pss_cons (ps_if (pt_cmpR op_eq (pv 1) pe_int (nomark _)) (pss_one (ps_ret (pe_call (ok_primitive T) (hr.mono (by decide)) (by rfl) T.primitive.g T.primitive.F.kp T.primitive.b .nil pass0 (pa_cons (pe_callTy (UfK.call_list_ofK (K := K)) (by rfl) T.z_list (by decide +kernel) (pa_cons (pv 0) pa_nil)) pa_nil)))) pss_nil)
      (pss_one (ps_ret (pe_call (ok_primitive T) (hr.mono (by decide)) (by rfl) T.primitive.g T.primitive.F.kp T.primitive.b .nil pass0 (pa_cons (pe_lc (own := [("number", 2)]) rfl sc_whole.nd (UfK.pi_listK (K := K) (pv 0)) (blkOk_by (own := [("number", 2)]) (N := ["numbers", "shared", "number"]) (sc := defScope s_whole) (by decide +kernel)) (fun _ _ _ _ _ => by exact pg_name (i := 2) sc_whole.nd rfl (.inl rfl)) (fun _ _ _ _ _ => pts_nil) (fun _ _ _ _ _ => (pe_call (ok_times_whole T) (hr.mono (by decide)) (by rfl) T.times_whole.g T.times_whole.F.kp T.times_whole.b .nil pass0 (pa_cons (pv 2) (pa_cons (pv 1) pa_nil))))) pa_nil))))))), ?_⟩
    refine ⟨_, rfl, t, rfl, ⟨_, SqL.g lw ht⟩, for_list (xs := xs) (fun i σ H' => ∃ z2 : Option V, σ = [some (.ref t), some (.int ((lcmQ (qs.take i) : Nat) : Int)), z2] ∧ Lw H G none [] G H') ⟨none, rfl, lw⟩
      (fun i σ H' _ hp => ?_) (fun i x σ H' hx hp => ?_) (fun σ H' hp => ?_)⟩
    · obtain ⟨z2, rfl, lw⟩ := hp
      exact SqL.g lw ht
    · obtain ⟨z2, rfl, lw⟩ := hp
      obtain ⟨q, hq, hN⟩ := hn.2 i x hx
      have el := lcmQ_take hq
      rcases hN with ⟨h1, rfl⟩ | ⟨h1, a, rfl, dx, ha⟩
      · refine ⟨_, rfl, .int q.num, .ref T.frac.C, .type "int", .ref T.frac.C, false, rfl, .own _, .base (.int _), T.kIF, false, rfl, iteF ⟨some (.int q.num), ?_, lw⟩⟩
        rw [el, h1, Nat.lcm_one_right]
        rfl
      · have Ha := lw.gh _ _ ha
        have l1 : ((lcmQ (qs.take i) : Nat) : Int).natAbs < 2 ^ 64 := by
          rw [Int.natAbs_natCast]
          exact Nat.lt_trans (lc i) (by decide)
        have l2 : (q.den : Int).natAbs < 2 ^ 64 := by
          rw [Int.natAbs_natCast]
          exact Nat.lt_trans (sq q (List.mem_of_getElem? hq)).2 (by decide)
        refine ⟨_, rfl, .ref a, .ref T.frac.C, .ref T.frac.C, .ref T.frac.C, true, rfl, .own _, T.frac.ty Ha, T.kFF, true, rfl, iteT ⟨_, rfl, _, rfl, a, T.frac.C, dx, _, _, rfl, Ha, T.frac.c, T.nDen, lk_den, _, _, rfl, l1, l2, some (.ref a), ?_, lw⟩⟩
        rw [el, Int.natAbs_natCast, Int.natAbs_natCast]
        rfl
    · obtain ⟨z2, rfl, lw⟩ := hp
      rw [hn.1, List.take_length]
      have lq : lcmQ qs < 2 ^ 60 := by
        have := lc qs.length
        rw [List.take_length] at this
        exact this
      refine ⟨_, rfl, rfl, _, rfl, ite2 (fun h => ?_) (fun h => ?_)⟩
      · have h : lcmQ qs = 1 := by
          have h : ((lcmQ qs : Nat) : Int) = 1 := by simpa using h
          omega
        have d1 : ∀ q ∈ qs, q.den = 1 := fun q hq => by
          have := lcmQ_dvd (s := 1) hq
          rw [show qs.foldl (fun s q => Nat.lcm s q.den) 1 = 1 from h] at this
          exact Nat.dvd_one.mp this
        have ex : xs = (qs.map fun q => q.num).map V.int := vals_of (by rw [List.length_map]; exact hn.1) fun j y hy => by
          obtain ⟨q, hq, hN⟩ := hn.2 j y hy
          refine ⟨q.num, by rw [List.getElem?_map, hq]; rfl, ?_⟩
          rcases hN with ⟨_, e⟩ | ⟨z, _⟩
          · exact e
          · exact absurd (d1 q (List.mem_of_getElem? hq)) z
        have ew : (qs.map fun q => q.num) = qs.map fun q => q.num * ((lcmQ qs / q.den : Nat) : Int) := List.map_congr_left fun q hq => by
          rw [d1 q hq, h]
          show q.num = q.num * ((1 / 1 : Nat) : Int)
          rw [show ((1 / 1 : Nat) : Int) = 1 from rfl, Int.mul_one]
        refine ⟨_, rfl, t, _, rfl, .inl (SqL.g lw ht), fun l hl => ?_⟩
        obtain ⟨G1, e1, lw, h1⟩ := lw.allocE (o := .lst xs) hl
        rw [ex] at h1
        refine ⟨_, call_pure lw ⟨_, rfl, ⟨l, rfl, h1⟩, by rw [List.length_map]; omega, fun x hx => ?_⟩ fun G2 H2 v e2 lw hv => k _ _ _ lw ?_⟩
        · obtain ⟨q, hq, rfl⟩ := List.mem_map.mp hx
          exact Nat.lt_trans (sq q hq).1.1 (by decide +kernel)
        · rw [ew] at hv
          exact hv
      · refine ⟨_, rfl, t, rfl, ⟨_, SqL.g lw ht⟩, fun D hD => ?_⟩
        refine lc_list (K := K) (pf := fun _ => none) (R := RI (qs.map fun q => q.num * ((lcmQ qs / q.den : Nat) : Int))) lw hD ht (by rw [hn.1]; omega) RI.mono (fun i x acc G2 H2 hx e2 lw Nx kk => ?_) (fun G2 H2 ys e2 lw h1 hl hy => ?_)
        · obtain ⟨q, hq, hN⟩ := hn.2 i x hx
          have hs := (sq q (List.mem_of_getElem? hq)).1
          refine ⟨rfl, _, rfl, _, rfl, q, lcmQ qs, call_pure lw ⟨x, rfl, hN.ex e2, ⟨Nat.lt_trans hs.1 (by decide +kernel), Nat.lt_trans hs.2 (by decide +kernel)⟩, Nat.lt_trans lq (by decide)⟩ fun G3 H3 v e3 lw hv => ?_⟩
          subst hv
          refine kk _ _ _ e3 lw ⟨_, ?_, rfl⟩
          rw [List.getElem?_map, hq]
          rfl
        · rw [vals_of (res := qs.map fun q => q.num * ((lcmQ qs / q.den : Nat) : Int)) (by rw [hl, hn.1, List.length_map]) hy] at h1
          refine ⟨_, call_pure lw ⟨_, rfl, ⟨D, rfl, h1⟩, by rw [List.length_map]; omega, fun x hx => ?_⟩ fun G3 H3 v e3 lw hv => k _ _ _ lw hv⟩
          obtain ⟨q, hq, rfl⟩ := List.mem_map.mp hx
          have b1 := (sq q hq).1.1
          rw [Int.natAbs_mul, Int.natAbs_natCast]
          have b2 : lcmQ qs / q.den < 2 ^ 60 := Nat.lt_of_le_of_lt (Nat.div_le_self _ _) lq
          exact Nat.lt_trans (Nat.mul_lt_mul'' b1 b2) (by decide +kernel)
/-! ### dot_product -/
/-- the sum of qs behind t -/
def sumQ (t : Rat) (qs : List Rat) : Rat := qs.foldl (· + ·) t
/-- no sum on the way is great -/
def SumSm : Rat → List Rat → Prop
  | t, [] => Sm 4000 t
  | t, q :: r => Sm 4000 t ∧ Sm 4000 q ∧ SumSm (t + q) r
theorem nm_ir {F : Addr} {G : Hp} {v : V} {q : Rat} (h : Nm F G v q) : IR v := by
  rcases h with ⟨_, rfl⟩ | ⟨_, a, rfl, _⟩
  · exact .inl ⟨_, rfl⟩
  · exact .inr ⟨_, rfl⟩
theorem sumK_ok {T : Tx K mg} {H0 G0 : Hp} {p : Option (Addr × Addr × Nat)} {ls : List (Addr × HO)} {l : Addr} {xs : List V} {Q : VK} : ∀ (r : List V) (qs : List Rat) (G H : Hp) (t : V) (s : Rat), Lw H0 G0 p ls G H → G l = some (.lst xs) → Nms T.frac.C G r qs → Nm T.frac.C G t s → SumSm s qs →
    (∀ G' H' v, Ex G G' → Lw H0 G0 p ls G' H' → Nm T.frac.C G' v (sumQ s qs) → Q v H') → SumK K T.frac.C (sp_f_add T) (sp_f_radd T) l xs r t H Q
  | [], [], G, H, t, s, lw, hl, _, ht, _, k => ⟨SqL.g lw hl, k _ _ _ (Evl.Ex.refl _) lw ht⟩
  | [], _ :: _, _, _, _, _, _, _, h, _, _, _ => absurd h.1 (by simp)
  | _ :: _, [], _, _, _, _, _, _, h, _, _, _ => absurd h.1 (by simp)
  | x :: r, q :: qs, G, H, t, s, lw, hl, hn, ht, hs, k => by
    obtain ⟨s1, s2, s3⟩ := hs
    obtain ⟨q', hq, hN⟩ := hn.2 0 x rfl
    cases hq
    refine ⟨SqL.g lw hl, r_add lw ht hN s1 s2 fun G1 H1 v e1 lw hv => ⟨nm_ir hv, ?_⟩⟩
    exact sumK_ok r qs G1 H1 v (s + q) lw (e1 _ _ hl) (Nms.ex e1 ⟨Nat.succ.inj hn.1, fun i y hy => hn.2 (i + 1) y hy⟩) hv s3 fun G2 H2 v2 e2 lw hv2 => k G2 H2 v2 (e1.trans e2) lw hv2
theorem sc_dot_product : FnScope ["first", "second", "left", "right"] ["first", "second"] (defScope s_dot_product) := ⟨rfl, rfl, rfl, by decide +kernel, rfl, by decide +kernel, by decide +kernel⟩
def dotQ (as bs : List Rat) : Rat := sumQ 0 (List.zipWith (· * ·) as bs)
def DotSm (as bs : List Rat) : Prop := as.length = bs.length ∧ as.length ≤ 1000 ∧ (∀ q ∈ as, Sm 4000 q) ∧ (∀ q ∈ bs, Sm 4000 q) ∧ SumSm 0 (List.zipWith (· * ·) as bs)
def sp_dot_product (T : Tx K mg) : Sp := fun vs H Q E => ∃ as bs : List Rat, PureSp (fun vs G => ∃ x y, vs = [x, y] ∧ NS .tu T.frac.C G x as ∧ NS .li T.frac.C G y bs ∧ DotSm as bs) (fun _ _ G' v => Nm T.frac.C G' v (dotQ as bs)) vs H Q E
theorem ok_dot_product (T : Tx K mg) : FnOk P w K mg base CX0 10 T.dot_product.f T.dot_product.fd ["first", "second"] (sp_dot_product T) := by
  refine T.dot_product.F.ok sc_dot_product (fun vs H Q E h => ?_) (fun cdv A outer s H vs Q E hr h => ?_)
  · obtain ⟨as, bs, G, _, ⟨x, y, rfl, _⟩, _⟩ := h
    rfl
  · obtain ⟨as, bs, G, lw, ⟨x, y, rfl, ⟨t, xs, rfl, ht, hn⟩, ⟨u, ys, rfl, hu, hm⟩, hl, few, sa, sb, sm⟩, k⟩ := h
    refine ⟨_, (pss_one (ps_ret (pe_callB (UfV.cr_sumOwnK (K := K) rfl (hr.mono (by decide)) T.frac.o T.oAdd (ok_f_add T) T.f_add.b (ok_f_radd T) T.f_radd.b) (by rfl) T.z_sum (by decide +kernel) (pa_cons (pe_lc (own := [("left", 2), ("right", 3)]) rfl sc_dot_product.nd (UfZ.pi_zipK (K := K) (c := .tu) (d := .li) rfl T.z_zip (pa_cons (pv 0) (pa_cons (pv 1) pa_nil))) (blkOk_by (own := [("left", 2), ("right", 3)]) (N := ["first", "second", "left", "right"]) (sc := defScope s_dot_product) (by decide +kernel)) (fun _ _ _ _ _ => by exact UfK.pg_tupK (K := K) (n := 2) rfl (pgs_cons (pg_name (i := 2) sc_dot_product.nd rfl (.inl rfl)) (pgs_cons (pg_name (i := 3) sc_dot_product.nd rfl (.inl rfl)) pgs_nil))) (fun _ _ _ _ _ => pts_nil) (fun _ _ _ _ _ => (pe_op (UfO.op_ownMul (hr.mono (by decide)) T.frac.o T.oMul (ok_f_mul T) T.f_mul.b (ok_f_rmul T) T.f_rmul.b pass0) (pv 2) (pv 3)))) pa_nil)))), ?_⟩
    refine ⟨_, rfl, _, rfl, t, u, _, _, rfl, ht.g lw, hu.g lw, fun D hD => ?_⟩
    refine lc_zip (K := K) (c := .tu) (d := .li) (pf := fun _ => none) (R := RN T.frac.C (List.zipWith (· * ·) as bs)) lw hD ht hu (by rw [hn.1, hm.1, hl]) (by rw [hn.1]; omega) RN.mono (fun i x y tt acc G1 H1 hx hy e1 lw htt Nx kk => ?_) (fun G1 H1 zs e1 lw h1 hl' hy => ?_)
    · obtain ⟨a, ha, hA⟩ := hn.2 i x hx
      obtain ⟨b, hb, hB⟩ := hm.2 i y hy
      refine ⟨tt, _, rfl, SqT.g lw htt, rfl, _, _, rfl, _, _, rfl, rfl, rfl, _, rfl, _, rfl, r_mul lw (hA.ex e1) (hB.ex e1) (sa a (List.mem_of_getElem? ha)) (sb b (List.mem_of_getElem? hb)) fun G2 H2 v e2 lw hv => kk _ _ _ e2 lw ⟨_, ?_, hv⟩⟩
      rw [List.getElem?_zipWith, ha, hb]
    · refine ⟨D, zs, rfl, sumK_ok zs (List.zipWith (· * ·) as bs) G1 H1 (.int 0) 0 lw h1 ⟨by rw [hl', List.length_zipWith, hn.1]; omega, hy⟩ (Nm.ofInt 0) sm fun G2 H2 v e2 lw hv => k _ _ _ lw hv⟩
end
end K06

namespace K06
open PySem PySem.Spec PyProof.Rows L2 UfG UfT UfR UfO UfI UfQ UfN UfW
open UfL (LP lowP plusP timesP gcdL primL clr invP ledO firstNz clrAll stepRow runRows Good OkU OkK Sml Oki)
open UfZ (Kd)
open Evl (Ex)
/-! ### the dict of the kept rows -/
inductive KD (G : Hp) : List (L2.Key × V) → List (Nat × List Int) → Prop
  | nil : KD G [] []
  | cons {q : Nat} {v : V} {h : List Int} {kvs : List (L2.Key × V)} {kept : List (Nat × List Int)} : IL G v h → KD G kvs kept → KD G ((.inl (q : Int), v) :: kvs) ((q, h) :: kept)
theorem KD.ex {G G' : Hp} {kvs : List (L2.Key × V)} {kept : List (Nat × List Int)} (e : Ex G G') (h : KD G kvs kept) : KD G' kvs kept := by
  induction h with
  | nil => exact .nil
  | cons h1 _ ih => exact .cons (h1.ex e) ih
theorem KD.len {G : Hp} {kvs : List (L2.Key × V)} {kept : List (Nat × List Int)} (h : KD G kvs kept) : kvs.length = kept.length := by
  induction h with
  | nil => rfl
  | cons _ _ ih => rw [List.length_cons, List.length_cons, ih]
theorem KD.at {G : Hp} {kvs : List (L2.Key × V)} {kept : List (Nat × List Int)} (h : KD G kvs kept) : ∀ {i : Nat} {k : L2.Key} {v : V}, kvs[i]? = some (k, v) → ∃ (q : Nat) (r : List Int), kept[i]? = some (q, r) ∧ k = .inl (q : Int) := by
  induction h with
  | nil => exact fun h => by cases h
  | @cons q v r kvs kept h1 _ ih =>
    intro i k w hi
    cases i with
    | zero =>
      cases hi
      exact ⟨q, r, rfl, rfl⟩
    | succ i => exact ih hi
theorem KD.keys {G : Hp} {kvs : List (L2.Key × V)} {kept : List (Nat × List Int)} (h : KD G kvs kept) : kvs.map (·.1) = (kept.map fun qh => (qh.1 : Int)).map Sum.inl := by
  induction h with
  | nil => rfl
  | cons _ _ ih =>
    rw [List.map_cons, List.map_cons, List.map_cons, ih]
theorem KD.keyV {G : Hp} {kvs : List (L2.Key × V)} {kept : List (Nat × List Int)} (h : KD G kvs kept) : (kvs.map fun kv => kV kv.1) = (kept.map fun qh => (qh.1 : Int)).map V.int := by
  induction h with
  | nil => rfl
  | cons _ _ ih =>
    rw [List.map_cons, List.map_cons, List.map_cons, ih]
    rfl
theorem KD.val {G : Hp} {kvs : List (L2.Key × V)} {kept : List (Nat × List Int)} (h : KD G kvs kept) : ∀ {q : Nat} {r : List Int}, (q, r) ∈ kept → (kept.map (·.1)).Nodup → ∃ v, valV kvs (.inl (q : Int)) = some v ∧ IL G v r := by
  induction h with
  | nil => exact fun h => nomatch h
  | @cons q v r kvs kept h1 _ ih =>
    intro q' r' hm nd
    obtain ⟨n1, n2⟩ := List.nodup_cons.mp (show (q :: kept.map (·.1)).Nodup from nd)
    rcases List.mem_cons.mp hm with e | hm
    · cases e
      exact ⟨v, valV_pos rfl, h1⟩
    · have ne : ¬ (Sum.inl (q : Int) : L2.Key) = Sum.inl (q' : Int) := fun z => by
        have z : (q : Int) = q' := by injection z
        have z : q = q' := by omega
        exact n1 (by rw [z]; exact List.mem_map.mpr ⟨_, hm, rfl⟩)
      obtain ⟨w, h2, h3⟩ := ih hm n2
      exact ⟨w, by rw [valV_neg ne]; exact h2, h3⟩
theorem KD.none {G : Hp} {kvs : List (L2.Key × V)} {kept : List (Nat × List Int)} (h : KD G kvs kept) : ∀ {q : Nat}, ¬ q ∈ kept.map (·.1) → valV kvs (.inl (q : Int)) = none := by
  induction h with
  | nil => exact fun _ => rfl
  | @cons q v r kvs kept h1 _ ih =>
    intro q' hm
    have ne : ¬ (Sum.inl (q : Int) : L2.Key) = Sum.inl (q' : Int) := fun z => by
      have z : (q : Int) = q' := by injection z
      have z : q = q' := by omega
      exact hm (by rw [← z]; exact List.mem_cons_self)
    rw [valV_neg ne]
    exact ih fun z => hm (List.mem_cons_of_mem _ z)
theorem KD.snoc {G : Hp} {kvs : List (L2.Key × V)} {kept : List (Nat × List Int)} (h : KD G kvs kept) {q : Nat} {v : V} {r : List Int} (hv : IL G v r) : KD G (kvs ++ [(.inl (q : Int), v)]) (kept ++ [(q, r)]) := by
  induction h with
  | nil => exact .cons hv .nil
  | cons h1 _ ih => exact .cons h1 ih
theorem KD.map {G : Hp} {kvs : List (L2.Key × V)} {kept : List (Nat × List Int)} (h : KD G kvs kept) {q : Nat} {v : V} {r : List Int} (hv : IL G v r) :
    KD G (kvs.map fun kv => if kv.1 = (Sum.inl (q : Int) : L2.Key) then (kv.1, v) else kv) (kept.map fun qh => if qh.1 = q then (qh.1, r) else qh) := by
  induction h with
  | nil => exact .nil
  | @cons q' v' r' kvs kept h1 _ ih =>
    rw [List.map_cons, List.map_cons]
    by_cases e : q' = q
    · rw [if_pos (by rw [e]), if_pos e]
      exact .cons hv ih
    · have ne : ¬ (Sum.inl (q' : Int) : L2.Key) = Sum.inl (q : Int) := fun z => by
        have z : (q' : Int) = q := by injection z
        exact e (by omega)
      rw [if_neg ne, if_neg e]
      exact .cons h1 ih
/-- the i-th row anew -/
theorem put_at {G : Hp} {kvs : List (L2.Key × V)} {kept : List (Nat × List Int)} (h : KD G kvs kept) (nd : (kept.map (·.1)).Nodup) {i q : Nat} {v : V} {r r' : List Int} (hi : kept[i]? = some (q, r)) (hv : IL G v r') :
    KD G (putK kvs (.inl (q : Int)) v) (kept.take i ++ (q, r') :: kept.drop (i + 1)) := by
  obtain ⟨w, hw, _⟩ := h.val (List.mem_of_getElem? hi) nd
  have e1 : putK kvs (.inl (q : Int)) v = kvs.map fun kv => if kv.1 = (Sum.inl (q : Int) : L2.Key) then (kv.1, v) else kv := by
    unfold putK
    rw [if_pos (by rw [valV_any, hw]; rfl)]
  have hlt := (List.getElem?_eq_some_iff.mp hi).1
  have e2 : (kept.map fun qh => if qh.1 = q then (qh.1, r') else qh) = kept.take i ++ (q, r') :: kept.drop (i + 1) := by
    have split : kept = kept.take i ++ (q, r) :: kept.drop (i + 1) := by
      have := (List.getElem?_eq_some_iff.mp hi).2
      conv => lhs; rw [← List.take_append_drop i kept, List.drop_eq_getElem_cons hlt, this]
    have nd2 := nd
    rw [split, List.map_append, List.map_cons, List.nodup_append] at nd2
    obtain ⟨_, nd3, nd4⟩ := nd2
    have nd3 := (List.nodup_cons.mp nd3).1
    have s1 : ∀ x ∈ kept.take i, x.1 ≠ q := fun x hx z => nd4 x.1 (List.mem_map.mpr ⟨x, hx, rfl⟩) q List.mem_cons_self z
    have s2 : ∀ x ∈ kept.drop (i + 1), x.1 ≠ q := fun x hx z => nd3 (by rw [← z]; exact List.mem_map.mpr ⟨x, hx, rfl⟩)
    conv => lhs; rw [split]
    rw [List.map_append, List.map_cons, if_pos rfl]
    congr 1
    · exact (List.map_congr_left fun x hx => if_neg (s1 x hx)).trans (List.map_id _)
    · congr 1
      exact (List.map_congr_left fun x hx => if_neg (s2 x hx)).trans (List.map_id _)
  rw [e1, ← e2]
  exact h.map hv
theorem put_new {G : Hp} {kvs : List (L2.Key × V)} {kept : List (Nat × List Int)} (h : KD G kvs kept) {q : Nat} {v : V} {r : List Int} (hq : ¬ q ∈ kept.map (·.1)) (hv : IL G v r) : KD G (putK kvs (.inl (q : Int)) v) (kept ++ [(q, r)]) := by
  rw [putK_new v (h.none hq)]
  exact h.snoc hv
/-- the row kept at q -/
def rowAt (kept : List (Nat × List Int)) (q : Nat) : List Int := (kept.lookup q).getD []
theorem rowAt_mem : ∀ {kept : List (Nat × List Int)} {q : Nat} {r : List Int}, (q, r) ∈ kept → (kept.map (·.1)).Nodup → rowAt kept q = r
  | (a, b) :: kept, q, r, h, nd => by
    obtain ⟨n1, n2⟩ := List.nodup_cons.mp (show (a :: kept.map (·.1)).Nodup from nd)
    unfold rowAt
    rcases List.mem_cons.mp h with e | h
    · cases e
      rw [List.lookup_cons_self]
      rfl
    · have ne : (q == a) = false := by
        have : q ≠ a := fun z => n1 (by rw [← z]; exact List.mem_map.mpr ⟨_, h, rfl⟩)
        simpa using this
      rw [List.lookup_cons, ne]
      exact rowAt_mem h n2
theorem Sml.sb {u : List Int} (h : Sml u) : Sb 3900 u := fun x hx => by
  obtain ⟨j, rfl⟩ := UfL.mem_gd hx
  exact h j
end K06

namespace K06
open PySem PySem.Spec PyProof.Rows L2 UfG UfT UfR UfO UfI UfQ UfN UfW
open UfL (LP lowP plusP timesP gcdL primL clr invP ledO firstNz clrAll stepRow runRows Good OkU OkK Sml Oki)
open UfZ (Kd)
open Evl (Ex)
theorem gName_seq {i : Nat} {x : V} {ta tb : TS} {D : Ends} {σ : L2.St} {H : Hp} {r : VK} {b c : L2.St → Hp → Prop} (h : tSeq ta tb D (σ.set i (some x)) H) : gName i x σ H (Ends.mk (tSeq ta tb D) r b c).nx := h
/-! ### reduced_rows -/
/-- a known list of rows -/
def RL (F : Addr) (G : Hp) (v : V) (rows : List (List Rat)) : Prop := ∃ t xs, v = .ref t ∧ G t = some (.lst xs) ∧ xs.length = rows.length ∧ ∀ (i : Nat) (x : V), xs[i]? = some x → ∃ r, rows[i]? = some r ∧ NS .li F G x r
theorem RL.ex {F : Addr} {G G' : Hp} {v : V} {rows : List (List Rat)} (e : Ex G G') (h : RL F G v rows) : RL F G' v rows := by
  obtain ⟨t, xs, e1, h1, h2, h3⟩ := h
  exact ⟨t, xs, e1, e _ _ h1, h2, fun i x hx => by
    obtain ⟨r, h4, h5⟩ := h3 i x hx
    exact ⟨r, h4, h5.ex e⟩⟩
/-- .. of tuples -/
def RT (F : Addr) (G : Hp) (v : V) (rows : List (List Rat)) : Prop := ∃ t xs, v = .ref t ∧ G t = some (.lst xs) ∧ xs.length = rows.length ∧ ∀ (i : Nat) (x : V), xs[i]? = some x → ∃ r, rows[i]? = some r ∧ NS .tu F G x r
theorem RT.ex {F : Addr} {G G' : Hp} {v : V} {rows : List (List Rat)} (e : Ex G G') (h : RT F G v rows) : RT F G' v rows := by
  obtain ⟨t, xs, e1, h1, h2, h3⟩ := h
  exact ⟨t, xs, e1, e _ _ h1, h2, fun i x hx => by
    obtain ⟨r, h4, h5⟩ := h3 i x hx
    exact ⟨r, h4, h5.ex e⟩⟩
/-- a row as the elimination takes it -/
def prep (p : Int) (row : List Rat) : List Int := if 0 < p then row.map fun q => q.num.fmod p else wholeQ row
/-- rows that it takes -/
def PreOk (p : Int) (n : Nat) (rows : List (List Rat)) : Prop := (p = 0 ∨ 2 ≤ p ∧ p < 1000) ∧ 0 < n ∧ n < 60 ∧ (∀ r ∈ rows, r.length = n ∧ (p = 0 → WhOk r) ∧ (p ≠ 0 → ∀ q ∈ r, q.den = 1)) ∧ Good p n (rows.map (prep p)) []
/-- the rows told, by their leads in order -/
def toldRows (p : Int) (kept : List (Nat × List Int)) (ps : List Nat) : List (List Rat) := ps.map fun q => fin p (rowAt kept q) q
section
variable {P : Program} {w : World} {K : PySem.W.Frag} {mg : Str → Option Value} {base : Heap}
theorem sc_reduced : FnScope ["ground", "width", "rows", "prime", "kept", "row", "left", "place", "lead", "number"] ["ground", "width", "rows"] (defScope s_reduced) := ⟨rfl, rfl, rfl, by decide +kernel, rfl, by decide +kernel, by decide +kernel⟩
def sp_reduced (T : Tx K mg) : Sp := fun vs H Q E => ∃ (p : Int) (n : Nat) (rows : List (List Rat)), PureSp (fun vs G => ∃ g x, vs = [.ref g, .int n, x] ∧ GrAt T.ground.C G g p ∧ RL T.frac.C G x rows ∧ PreOk p n rows)
  (fun _ _ G' v => ∃ ps : List Nat, ps.Perm ((runRows p n (rows.map (prep p)) []).map (·.1)) ∧ ps.Pairwise (· ≤ ·) ∧ OkK p n (runRows p n (rows.map (prep p)) []) ∧ RT T.frac.C G' v (toldRows p (runRows p n (rows.map (prep p)) []) ps)) vs H Q E
theorem ok_reduced (T : Tx K mg) : FnOk P w K mg base CX0 13 T.reduced.f T.reduced.fd ["ground", "width", "rows"] (sp_reduced T) := by
  refine T.reduced.F.ok sc_reduced (fun vs H Q E h => ?_) (fun cdv A outer s H vs Q E hr h => ?_)
  · obtain ⟨p, n, rows, G, _, ⟨g, x, rfl, _⟩, _⟩ := h
    rfl
  · obtain ⟨p, n, rows, G, lw, ⟨g, x, rfl, ⟨dx, hg⟩, ⟨t, xs, rfl, ht, hxl, hx⟩, hp, n0, n60, hrows, hgood⟩, k⟩ := h
    refine ⟨_, (pss_cons (ps_set (i := 3) sc_reduced.nd rfl (.inr rfl) (UfK.pe_fldK (K := K) (pv 0) rfl))
      (pss_cons (ps_set (i := 4) sc_reduced.nd rfl (.inr rfl) pe_dnewK)
      (pss_cons (ps_for PassesOwn.never rfl (UfK.pi_listK (K := K) (pv 2)) (pg_name (i := 5) sc_reduced.nd rfl (.inl rfl)) (pss_cons (ps_set (i := 6) sc_reduced.nd rfl (.inl rfl) (pe_ifExp (pt_cmpR op_gt (pv 3) pe_int (nomark _)) (pe_lc (own := [("number", 9)]) rfl sc_reduced.nd (UfK.pi_listK (K := K) (pv 5)) (blkOk_by (own := [("number", 9)]) (N := ["ground", "width", "rows", "prime", "kept", "row", "left", "place", "lead", "number"]) (sc := defScope s_reduced) (by decide +kernel)) (fun _ _ _ _ _ => by exact pg_name (i := 9) sc_reduced.nd rfl (.inl rfl)) (fun _ _ _ _ _ => pts_nil) (fun _ _ _ _ _ => (pe_op op_modN (pv 9) (pv 3)))) (pe_call (ok_whole T) (hr.mono (by decide)) (by rfl) T.whole.g T.whole.F.kp T.whole.b .nil pass0 (pa_cons (pv 5) pa_nil))))
      (pss_cons (ps_lock (ps_for PassesOwn.never rfl (pi_keys (pv 4)) (pg_name (i := 7) sc_reduced.nd rfl (.inl rfl)) (pss_one (ps_set (i := 6) sc_reduced.nd rfl (.inl rfl) (pe_call (ok_cleared T) (hr.mono (by decide)) (by rfl) T.cleared.g T.cleared.F.kp T.cleared.b .nil pass0 (pa_cons (pv 3) (pa_cons (pv 6) (pa_cons (pe_dget (hu_of hr) (pv 4) (pv 7) (fun _ _ => rfl)) (pa_cons (pv 7) pa_nil)))))))))
      (pss_cons (ps_set (i := 8) sc_reduced.nd rfl (.inl rfl) (pe_call (ok_first_place T) (hr.mono (by decide)) (by rfl) T.first_place.g T.first_place.F.kp T.first_place.b .nil pass0 (pa_cons (pv 6) pa_nil)))
      (pss_one (ps_if (pt_cmpR op_notN (pv 8) pe_non (nomark _)) (pss_cons (ps_set (i := 6) sc_reduced.nd rfl (.inl rfl) (pe_call (ok_led T) (hr.mono (by decide)) (by rfl) T.led.g T.led.F.kp T.led.b .nil pass0 (pa_cons (pv 3) (pa_cons (pv 6) (pa_cons (pv 8) pa_nil)))))
      (pss_cons (ps_for PassesOwn.never rfl (UfK.pi_listK (K := K) (pe_callTy (call_list_dK rfl) (by rfl) T.z_list (by decide +kernel) (pa_cons (pv 4) pa_nil))) (pg_name (i := 7) sc_reduced.nd rfl (.inl rfl)) (pss_one (ps_dput (hu_of hr) (pv 4) (pv 7) (pe_call (ok_cleared T) (hr.mono (by decide)) (by rfl) T.cleared.g T.cleared.F.kp T.cleared.b .nil pass0 (pa_cons (pv 3) (pa_cons (pe_dget (hu_of hr) (pv 4) (pv 7) (fun _ _ => rfl)) (pa_cons (pv 6) (pa_cons (pv 8) pa_nil))))) rfl)))
      (pss_cons (ps_dput (hu_of hr) (pv 4) (pv 8) (pv 6) rfl)
      (pss_one (ps_if (pt_cmpR op_eq (pe_callB call_lenD (by rfl) T.z_len (by decide +kernel) (pa_cons (pv 4) pa_nil)) (pv 1) (nomark _)) (pss_one ps_break) pss_nil))))) pss_nil))))))
      (pss_one (ps_ret (pe_lc (own := [("place", 7)]) rfl sc_reduced.nd (UfK.pi_listK (K := K) (pe_callB (call_sortedDI rfl) (by rfl) T.z_sorted (by decide +kernel) (pa_cons (pv 4) pa_nil))) (blkOk_by (own := [("place", 7)]) (N := ["ground", "width", "rows", "prime", "kept", "row", "left", "place", "lead", "number"]) (sc := defScope s_reduced) (by decide +kernel)) (fun _ _ _ _ _ => by exact pg_name (i := 7) sc_reduced.nd rfl (.inl rfl)) (fun _ _ _ _ _ => pts_nil) (fun _ _ _ _ _ => (pe_call (ok_finished T) (hr.mono (by decide)) (by rfl) T.finished.g T.finished.F.kp T.finished.b .nil pass0 (pa_cons (pv 3) (pa_cons (pe_dget (hu_of hr) (pv 4) (pv 7) (fun _ _ => rfl)) (pa_cons (pv 7) pa_nil))))))))))), ?_⟩
    have hp0 : 0 ≤ p := by omega
    have Hg := lw.gh _ _ hg
    refine ⟨_, rfl, g, T.ground.C, dx, _, _, rfl, Hg, T.ground.c, T.nPrime, rfl, ?_⟩
    intro D hD
    refine gName_seq ?_
    refine seq_rest (fun σ' H' => ∃ (z5 z6 z7 z8 z9 : Option V) (kvs : List (L2.Key × V)) (G' : Hp), σ' = [some (.ref g), some (.int n), some (.ref t), some (.int p), some (.ref D), z5, z6, z7, z8, z9] ∧ Lw H G none [(D, .dK kvs)] G' H' ∧ KD G' kvs (runRows p n (rows.map (prep p)) []) ∧ OkK p n (runRows p n (rows.map (prep p)) [])) (fun σ' H' hq => ?_) (fun kk => ?_)
    · obtain ⟨z5, z6, z7, z8, z9, kvs, G1, rfl, lw, hk, nd, hl, hr⟩ := hq
      generalize runRows p n (rows.map (prep p)) [] = kept at hk nd hl hr k
      refine ⟨_, rfl, D, kvs, kept.map (fun qh => (qh.1 : Int)), rfl, .inl lw.at, hk.keys, by rw [List.length_map]; omega, ?_⟩
      intro ys q hperm hsort hq
      obtain ⟨ps, rfl⟩ : ∃ ps : List Nat, ys = ps.map fun (i : Nat) => (i : Int) := by
        refine ⟨ys.map Int.toNat, ?_⟩
        rw [List.map_map]
        refine ((List.map_congr_left fun y hy => ?_).trans (List.map_id ys)).symm
        obtain ⟨x, _, rfl⟩ := List.mem_map.mp (hperm.subset hy)
        rfl
      have hps : ps.Perm (kept.map (·.1)) := by
        have := hperm.map Int.toNat
        rw [List.map_map, List.map_map] at this
        have e1 : ps.map (Int.toNat ∘ fun i : Nat => (i : Int)) = ps := (List.map_congr_left fun i _ => rfl).trans (List.map_id _)
        rw [e1] at this
        exact this
      have hso : ps.Pairwise (· ≤ ·) := (List.pairwise_map.mp hsort).imp fun h => by omega
      have hmem : ∀ i ∈ ps, (i, rowAt kept i) ∈ kept := fun i hi => by
        obtain ⟨qh, h1, rfl⟩ := List.mem_map.mp (hps.subset hi)
        have := rowAt_mem h1 nd
        rw [this]
        exact h1
      have plen : ps.length = kept.length := by rw [hps.length_eq, List.length_map]
      obtain ⟨G2, e2, lw, h2⟩ := lw.allocE (o := .lst ((ps.map fun (i : Nat) => (i : Int)).map V.int)) hq
      have hk2 := hk.ex e2
      refine ⟨q, rfl, ⟨_, SqL.g lw h2⟩, fun D2 hD2 => ?_⟩
      refine lc_list (K := K) (pf := fun _ => none) (R := fun j G y => ∃ r, (toldRows p kept ps)[j]? = some r ∧ NS .tu T.frac.C G y r) lw hD2 h2 (by rw [List.length_map, List.length_map]; omega) (fun i G3 G4 y e h => ?_) (fun i x acc G3 H3 hx e3 lw Nx kk => ?_) (fun G3 H3 zs e3 lw h1 hl' hy => ?_)
      · obtain ⟨r, h3, h4⟩ := h
        exact ⟨r, h3, h4.ex e⟩
      · obtain ⟨m, hm, rfl⟩ := at_int hx
        obtain ⟨i', hi', rfl⟩ : ∃ i', ps[i]? = some i' ∧ (i' : Int) = m := by
          rw [List.getElem?_map] at hm
          cases e : ps[i]? with
          | none => rw [e] at hm; cases hm
          | some i' =>
            rw [e] at hm
            cases hm
            exact ⟨i', rfl, rfl⟩
        have mem := hmem i' (List.mem_of_getElem? hi')
        obtain ⟨f1, ⟨f2, f3, f4⟩, f5⟩ := hr _ mem
        have f1 : i' < n := f1
        have f2 : (rowAt kept i').length = n := f2
        have f3 : Sml (rowAt kept i') := f3
        have f5 : (rowAt kept i').getD i' 0 ≠ 0 := f5
        obtain ⟨v, hv, hIL⟩ := (hk2.ex e3).val mem nd
        refine ⟨rfl, _, rfl, _, rfl, _, rfl, D, v, rfl, .inl ⟨kvs, .inl (i' : Int), .inl lw.at2, rfl, hv.symm⟩, _, rfl, p, rowAt kept i', i', call_pure lw ⟨v, rfl, hIL, by rw [f2]; exact f1, by rw [f2]; omega, fun _ => ⟨f5, fun x hx => Nat.lt_trans (Sml.sb f3 x hx) (by decide +kernel)⟩⟩ fun G4 H4 v4 e4 lw hv4 => kk _ _ _ e4 lw ⟨_, ?_, hv4⟩⟩
        unfold toldRows
        rw [List.getElem?_map, hi']
        rfl
      · refine k _ _ _ lw.drop ⟨ps, hps, hso, ⟨nd, hl, hr⟩, D2, zs, rfl, h1, ?_, hy⟩
        rw [hl', List.length_map, List.length_map]
        unfold toldRows
        rw [List.length_map]
    · have kkout := kk
      have lw1 := lw.make (o := .dK []) hD
      have hlen : (rows.map (prep p)).length = xs.length := by rw [List.length_map, hxl]
      refine ⟨_, rfl, t, rfl, ⟨_, SqL.g lw1 ht⟩, ?_⟩
      refine for_list (xs := xs) (fun i σ' H' => ∃ (z5 z6 z7 z8 z9 : Option V) (kvs : List (L2.Key × V)) (G' : Hp) (kept : List (Nat × List Int)), σ' = [some (.ref g), some (.int n), some (.ref t), some (.int p), some (.ref D), z5, z6, z7, z8, z9] ∧ Lw H G none [(D, .dK kvs)] G' H' ∧ KD G' kvs kept ∧ OkK p n kept ∧ Good p n ((rows.map (prep p)).drop i) kept ∧ runRows p n ((rows.map (prep p)).drop i) kept = runRows p n (rows.map (prep p)) [])
        ⟨none, none, none, none, none, [], G, [], rfl, lw1, .nil, ⟨List.nodup_nil, Nat.zero_le _, nofun⟩, hgood, rfl⟩ (fun i σ' H' _ hp => ?_) (fun i x σ' H' hx' hp => ?_) (fun σ' H' hp => ?_)
      · obtain ⟨z5, z6, z7, z8, z9, kvs, G1, kept, rfl, lw, _⟩ := hp
        exact SqL.g lw (lw.g0 _ _ ht)
      · obtain ⟨z5, z6, z7, z8, z9, kvs, G1, kept, rfl, lw, hk, ok, hg2, hrun⟩ := hp
        obtain ⟨r, hr, hNS⟩ := hx i x hx'
        have hNS := hNS.ex lw.g0
        obtain ⟨rl, rw0, rwp⟩ := hrows r (List.mem_of_getElem? hr)
        have hdrop : (rows.map (prep p)).drop i = prep p r :: (rows.map (prep p)).drop (i + 1) := by
          have hlt : i < (rows.map (prep p)).length := by rw [List.length_map]; exact (List.getElem?_eq_some_iff.mp hr).1
          rw [List.drop_eq_getElem_cons hlt, List.getElem_map]
          congr 2
          exact (List.getElem?_eq_some_iff.mp hr).2
        rw [hdrop] at hg2 hrun
        obtain ⟨hpre, hstep, hnext⟩ := hg2
        refine gName_ap ?_
        refine seq_rest (fun σ' H' => ∃ (z7 z8 z9 : Option V) (v : V) (G' : Hp), σ' = [some (.ref g), some (.int n), some (.ref t), some (.int p), some (.ref D), some x, some v, z7, z8, z9] ∧ Lw H G none [(D, .dK kvs)] G' H' ∧ Ex G1 G' ∧ IL G' v (prep p r)) (fun σ' H' hq => ?_) (fun kk => ?_)
        · obtain ⟨z7, z8, z9, v, G2, rfl, lw, e2, hv⟩ := hq
          refine seq_rest (fun σ' H' => ∃ (z7 z8 z9 : Option V) (v : V) (G' : Hp), σ' = [some (.ref g), some (.int n), some (.ref t), some (.int p), some (.ref D), some x, some v, z7, z8, z9] ∧ Lw H G none [(D, .dK kvs)] G' H' ∧ Ex G1 G' ∧ IL G' v (clrAll p kept (prep p r))) (fun σ' H' hq => ?_) (fun kk => ?_)
          · obtain ⟨z7, z8, z9, v, G2, rfl, lw, e2, hv⟩ := hq
            have hk2 := hk.ex e2
            refine ⟨_, rfl, .li, iq (clrAll p kept (prep p r)), call_pure lw ⟨_, rfl, hv.ns⟩ fun G3 H3 v3 e3 lw hv3 => ?_⟩
            subst hv3
            rw [firstQ_iq]
            obtain ⟨u, hu⟩ : ∃ u, u = clrAll p kept (prep p r) := ⟨_, rfl⟩
            have okU : OkU p n u := by rw [hu]; exact hpre kept (List.prefix_refl _)
            cases hf : firstNz (clrAll p kept (prep p r)) with
            | none =>
              have e1 : stepRow p kept (prep p r) = kept := by
                unfold UfL.stepRow
                rw [hf]
              have hno : ¬ ((firstNz (clrAll p kept (prep p r))).isSome ∧ (stepRow p kept (prep p r)).length = n) := fun z => by
                rw [hf] at z
                exact absurd z.1 (by decide)
              have hn2 := hnext hno
              have hr2 : (if (firstNz (clrAll p kept (prep p r))).isSome ∧ (stepRow p kept (prep p r)).length = n then stepRow p kept (prep p r) else runRows p n ((rows.map (prep p)).drop (i + 1)) (stepRow p kept (prep p r))) = runRows p n (rows.map (prep p)) [] := hrun
              rw [if_neg hno, e1] at hr2
              rw [e1] at hn2
              refine ⟨_, rfl, rfl, _, rfl, ite2 (fun h => absurd h (by simp [optV])) (fun _ => ?_)⟩
              exact ⟨_, _, _, _, _, kvs, G3, kept, rfl, lw, hk2.ex e3, ok, hn2, hr2⟩
            | some q =>
              obtain ⟨f1, f2, f3⟩ := UfL.firstNz_some hf
              rw [← hu] at f1 f3 hv hf
              rw [okU.1] at f3
              have es : stepRow p kept (prep p r) = kept.map (fun qh => (qh.1, clr p qh.2 (ledO p u q) q)) ++ [(q, ledO p u q)] := by
                unfold UfL.stepRow
                rw [← hu, hf]
              have hr2 : (if (firstNz (clrAll p kept (prep p r))).isSome ∧ (stepRow p kept (prep p r)).length = n then stepRow p kept (prep p r) else runRows p n ((rows.map (prep p)).drop (i + 1)) (stepRow p kept (prep p r))) = runRows p n (rows.map (prep p)) [] := hrun
              rw [← hu, hf] at hr2 hnext
              rw [es] at hr2 hnext hstep
              obtain ⟨nd, klen, krow⟩ := ok
              obtain ⟨nd2, klen2, krow2⟩ := hstep
              have okL := krow2 _ (List.mem_append_right _ List.mem_cons_self)
              have okM : ∀ qh ∈ kept, OkU p n (clr p qh.2 (ledO p u q) q) := fun qh hqh => (krow2 (qh.1, clr p qh.2 (ledO p u q) q) (List.mem_append_left _ (List.mem_map.mpr ⟨qh, hqh, rfl⟩))).2.1
              have hqn : ¬ q ∈ kept.map (·.1) := fun z => by
                rw [List.map_append, List.map_map, List.nodup_append] at nd2
                exact nd2.2.2 q z q List.mem_cons_self rfl
              generalize hled : ledO p u q = led at *
              refine ⟨_, rfl, rfl, _, rfl, ite2 (fun _ => ?_) (fun h => absurd (show (!decide (optV (some q) = V.non)) = true by simp [optV]) h)⟩
              refine ⟨_, rfl, _, rfl, _, rfl, p, u, q, call_pure lw ⟨_, rfl, hv.ex e3, by rw [okU.1]; exact f3, by rw [okU.1]; omega, ?_⟩ fun G4 H4 v4 e4 lw hv4 => ?_⟩
              · rcases hp with hp | ⟨p2, p3⟩
                · exact .inl hp
                · refine .inr ⟨p2, p3, fun z hz => ?_, ?_⟩
                  · obtain ⟨j, rfl⟩ := UfL.mem_gd hz
                    rcases okU.2.2 j with h | ⟨h1, h2⟩
                    · omega
                    · exact Nat.lt_trans (show (u.getD j 0).natAbs < 1000 by omega) (by decide +kernel)
                  · rcases okU.2.2 q with h | ⟨h1, h2⟩
                    · omega
                    · rw [Int.fmod_eq_of_lt h1 h2]
                      exact f1
              rw [hled] at hv4
              have hk4 := hk2.ex (e3.trans e4)
              refine gName_ap ?_
              refine ⟨_, rfl, D, kvs, rfl, lw.at, fun l hl => ?_⟩
              obtain ⟨G5, e5, lw, h5⟩ := lw.allocE (o := .lst (kvs.map fun kv => kV kv.1)) hl
              rw [hk.keyV] at h5
              refine ⟨l, rfl, ⟨_, SqL.g lw h5⟩, ?_⟩
              refine for_list (xs := (kept.map fun qh => (qh.1 : Int)).map V.int) (fun j σ' H' => ∃ (z7 z9 : Option V) (kvs' : List (L2.Key × V)) (G' : Hp), σ' = [some (.ref g), some (.int n), some (.ref t), some (.int p), some (.ref D), some x, some v4, z7, some (.int q), z9] ∧ Lw H G none [(D, .dK kvs')] G' H' ∧ Ex G5 G' ∧ KD G' kvs' ((kept.take j).map (fun qh => (qh.1, clr p qh.2 led q)) ++ kept.drop j))
                ⟨_, _, kvs, G5, rfl, lw, Ex.refl _, hk4.ex e5⟩ (fun j σ' H' _ hp => ?_) (fun j y σ' H' hy hp => ?_) (fun σ' H' hp => ?_)
              · obtain ⟨_, _, _, _, _, lw, e6, _⟩ := hp
                exact SqL.g lw (e6 _ _ h5)
              · obtain ⟨z7, z9, kvs', G6, rfl, lw, e6, hk6⟩ := hp
                obtain ⟨m, hm, rfl⟩ := at_int hy
                obtain ⟨⟨q', r'⟩, hq', rfl⟩ : ∃ qh, kept[j]? = some qh ∧ (qh.1 : Int) = m := by
                  rw [List.getElem?_map] at hm
                  cases e : kept[j]? with
                  | none => rw [e] at hm; cases hm
                  | some qh =>
                    rw [e] at hm
                    cases hm
                    exact ⟨qh, rfl, rfl⟩
                have hjl := (List.getElem?_eq_some_iff.mp hq').1
                have lt1 : ((kept.take j).map fun qh => (qh.1, clr p qh.2 led q)).length = j := by rw [List.length_map, List.length_take]; omega
                have at6 : ((kept.take j).map (fun qh => (qh.1, clr p qh.2 led q)) ++ kept.drop j)[j]? = some (q', r') := by
                  rw [List.getElem?_append_right (by omega), lt1, Nat.sub_self, List.getElem?_drop, Nat.add_zero]
                  exact hq'
                have nd6 : (((kept.take j).map (fun qh => (qh.1, clr p qh.2 led q)) ++ kept.drop j).map (·.1)).Nodup := by
                  rw [List.map_append, List.map_map]
                  have e : (kept.take j).map ((·.1) ∘ fun qh => (qh.1, clr p qh.2 led q)) = (kept.take j).map (·.1) := List.map_congr_left fun _ _ => rfl
                  rw [e, ← List.map_append, List.take_append_drop]
                  exact nd
                obtain ⟨v', hv', hIL'⟩ := hk6.val (List.mem_of_getElem? at6) nd6
                obtain ⟨k1, ⟨k2, k3, k4⟩, k5⟩ := krow _ (List.mem_of_getElem? hq')
                have k2 : r'.length = n := k2
                have k3 : Sml r' := k3
                have l1 : led.length = n := okL.2.1.1
                have l2 : Sml led := okL.2.1.2.1
                refine gName_ap ?_
                refine ⟨_, rfl, _, rfl, _, rfl, D, v', rfl, .inl ⟨kvs', .inl (q' : Int), .inl lw.at, rfl, hv'.symm⟩, _, rfl, _, rfl, p, r', led, q, call_pure lw ⟨_, _, rfl, hIL', hv4.ex (e5.trans e6), by rw [k2, l1], by rw [k2]; exact f3, by rw [k2]; omega, hp0, Sml.sb k3, Sml.sb l2⟩ fun G7 H7 v7 e7 lw hv7 => ?_⟩
                have hlen6 := hk6.len
                rw [List.length_append, lt1, List.length_drop] at hlen6
                refine ⟨_, rfl, _, rfl, D, _, rfl, .inl ⟨kvs', .inl (q' : Int), lw.at, rfl, Nat.lt_of_lt_of_le (show kvs'.length < 100 by omega) (by decide), rfl⟩, _, _, _, G7, rfl, lw.put, e6.trans e7, ?_⟩
                have := put_at (hk6.ex e7) nd6 at6 hv7
                have e8 : ((kept.take j).map (fun qh => (qh.1, clr p qh.2 led q)) ++ kept.drop j).take j = (kept.take j).map (fun qh => (qh.1, clr p qh.2 led q)) := by
                  rw [List.take_append_of_le_length (by omega), List.take_of_length_le (by omega)]
                have e9 : ((kept.take j).map (fun qh => (qh.1, clr p qh.2 led q)) ++ kept.drop j).drop (j + 1) = kept.drop (j + 1) := by
                  rw [List.drop_append, lt1, List.drop_of_length_le (by omega), List.nil_append, List.drop_drop]
                  congr 1
                  omega
                rw [e8, e9] at this
                rw [List.take_add_one, hq', List.map_append, List.append_assoc]
                exact this
              · obtain ⟨z7, z9, kvs', G6, rfl, lw, e6, hk6⟩ := hp
                rw [List.length_map, List.length_map, List.take_length, List.drop_length, List.append_nil] at hk6
                have hlen6 := hk6.len
                rw [List.length_map] at hlen6
                have hq6 : ¬ q ∈ (kept.map fun qh => (qh.1, clr p qh.2 led q)).map (·.1) := by
                  rw [List.map_map]
                  exact hqn
                have hk7 := put_new hk6 hq6 (hv4.ex (e5.trans e6))
                refine ⟨_, rfl, _, rfl, _, rfl, D, _, rfl, .inl ⟨kvs', .inl (q : Int), lw.at, rfl, Nat.lt_of_lt_of_le (show kvs'.length < 100 by omega) (by decide), rfl⟩, ?_⟩
                have lw := lw.put (o' := .dK (putK kvs' (.inl (q : Int)) v4))
                have hlen7 := hk7.len
                refine ⟨_, rfl, D, _, rfl, lw.at, _, rfl, rfl, _, rfl, ite2 (fun h => ?_) (fun h => ?_)⟩
                · have h : (putK kvs' (.inl (q : Int)) v4).length = n := by
                    have h : ((putK kvs' (.inl (q : Int)) v4).length : Int) = n := by simpa using h
                    omega
                  rw [if_pos ⟨rfl, by rw [← hlen7]; exact h⟩] at hr2
                  refine kkout _ _ ⟨_, _, _, _, _, _, G6, rfl, lw, by rw [← hr2]; exact hk7, by rw [← hr2]; exact ⟨nd2, klen2, krow2⟩⟩
                · have h : ¬ (putK kvs' (.inl (q : Int)) v4).length = n := fun z => h (by rw [z]; simp)
                  have hno : ¬ ((some q).isSome ∧ (kept.map (fun qh => (qh.1, clr p qh.2 led q)) ++ [(q, led)]).length = n) := fun z => h (by rw [hlen7]; exact z.2)
                  rw [if_neg hno] at hr2
                  exact ⟨_, _, _, _, _, _, G6, _, rfl, lw, hk7, ⟨nd2, klen2, krow2⟩, hnext hno, hr2⟩
          · have lw1 := lw.put (o' := .dK kvs)
            refine ⟨D, _, lw.at, trivial, fun od => ?_⟩
            have lw2 := lw.put (o' := .frz od (.dK kvs))
            refine ⟨_, rfl, D, od, rfl, .inl ⟨kvs, lw2.at, ?_⟩⟩
            refine for_keys (fun i σ' H' => ∃ (z7 z8 z9 : Option V) (v : V) (G' : Hp), σ' = [some (.ref g), some (.int n), some (.ref t), some (.int p), some (.ref D), some x, some v, z7, z8, z9] ∧ Lw H G none [(D, .frz od (.dK kvs))] G' H' ∧ Ex G1 G' ∧ IL G' v (clrAll p (kept.take i) (prep p r))) ⟨z7, z8, z9, v, G2, rfl, lw2, e2, hv⟩ (fun i σ' H' _ hp => ?_) (fun i k v σ' H' hkv hp => ?_) (fun σ' H' hp => ?_)
            · obtain ⟨_, _, _, _, _, _, lw, _⟩ := hp
              exact lw.at
            · obtain ⟨z7, z8, z9, v2, G3, rfl, lw, e3, hv3⟩ := hp
              obtain ⟨q, r', hq, rfl⟩ := hk.at hkv
              obtain ⟨v', hv', hIL'⟩ := (hk.ex e3).val (List.mem_of_getElem? hq) ok.1
              obtain ⟨k1, ⟨k2, k3, k4⟩, k5⟩ := ok.2.2 _ (List.mem_of_getElem? hq)
              have k1 : q < n := k1
              have k2 : r'.length = n := k2
              have k3 : Sml r' := k3
              obtain ⟨u1, u2, u3⟩ := hpre (kept.take i) (List.take_prefix _ _)
              refine gName_ap ?_
              refine ⟨_, rfl, _, rfl, _, rfl, _, rfl, D, v', rfl, .inl ⟨kvs, .inl (q : Int), .inr ⟨od, lw.at⟩, rfl, hv'.symm⟩, _, rfl, p, _, r', q, call_pure lw ⟨_, _, rfl, hv3, hIL', by rw [k2, u1], by rw [u1]; exact k1, by rw [u1]; omega, hp0, Sml.sb u2, Sml.sb k3⟩ fun G4 H4 v4 e4 lw hv4 => ?_⟩
              refine gName_ap ?_
              refine ⟨_, _, _, v4, G4, rfl, lw, e3.trans e4, ?_⟩
              unfold UfL.clrAll at hv4 ⊢
              rw [List.take_add_one, hq, List.foldl_append]
              exact hv4
            · obtain ⟨z7, z8, z9, v2, G3, rfl, lw, e3, hv3⟩ := hp
              rw [hk.len, List.take_length] at hv3
              exact ⟨lw.at, kk _ _ ⟨_, _, _, v2, G3, rfl, lw.put, e3, hv3⟩⟩
        · obtain ⟨t2, xs2, rfl, h2, hn2⟩ := hNS
          refine ⟨_, rfl, _, _, rfl, rfl, _, rfl, ite2 (fun h => ?_) (fun h => ?_)⟩
          · have h : 0 < p := by simpa using h
            refine ⟨_, rfl, t2, rfl, ⟨_, SqL.g lw h2⟩, fun D2 hD2 => ?_⟩
            refine lc_list (K := K) (pf := fun _ => none) (R := RI (prep p r)) lw hD2 h2 (by rw [hn2.1]; omega) RI.mono (fun i x acc G2 H2 hx e2 lw Nx kk => ?_) (fun G2 H2 ys e2 lw h1 hl' hy => ?_)
            · obtain ⟨q, hq, hN⟩ := hn2.2 i x hx
              have qd := rwp (by omega) q (List.mem_of_getElem? hq)
              rcases hN with ⟨_, rfl⟩ | ⟨z, _⟩
              · refine ⟨rfl, _, rfl, _, rfl, _, _, rfl, rfl, (show p ≠ 0 by omega), kk _ _ _ (Evl.Ex.refl _) lw ⟨_, ?_, rfl⟩⟩
                unfold prep
                rw [if_pos h, List.getElem?_map, hq]
                rfl
              · exact (z qd).elim
            · refine kk _ _ ⟨_, _, _, _, G2, rfl, lw, e2, D2, rfl, ?_⟩
              rw [h1, vals_of (res := prep p r) (by rw [hl', hn2.1]; unfold prep; rw [if_pos h, List.length_map]) hy]
          · have h : p = 0 := by
              have h : ¬ 0 < p := by simpa using h
              omega
            refine ⟨_, rfl, r, call_pure lw ⟨_, rfl, ⟨t2, xs2, rfl, h2, hn2⟩, rw0 h⟩ fun G2 H2 v e2 lw hv => ?_⟩
            refine kk _ _ ⟨_, _, _, v, G2, rfl, lw, e2, ?_⟩
            unfold prep
            rw [if_neg (by omega)]
            exact hv
      · obtain ⟨z5, z6, z7, z8, z9, kvs, G1, kept, rfl, lw, hk, ok, _, hrun⟩ := hp
        rw [← hlen, List.drop_length] at hrun
        have hrun : kept = runRows p n (rows.map (prep p)) [] := hrun
        rw [← hrun] at kk
        exact kk _ _ ⟨_, _, _, _, _, kvs, G1, rfl, lw, hk, ok⟩
end
end K06

namespace K06
open PySem PySem.Spec PyProof.Rows L2 UfG UfT UfR UfO UfI UfQ UfN UfW
open UfL (LP lowP plusP timesP gcdL primL clr invP ledO firstNz clrAll stepRow runRows Good OkU OkK Sml Oki)
open UfZ (Kd)
open Evl (Ex)
/-! ### the told rows -/
theorem fr_sm {b : Nat} {n d : Int} (hd : d ≠ 0) (h1 : n.natAbs < 2 ^ b) (h2 : d.natAbs < 2 ^ b) : Sm b (fr n d) := by
  refine ⟨?_, ?_⟩
  · rw [Rat.num_divInt]
    refine Nat.lt_of_le_of_lt ?_ h1
    have := Int.natAbs_ediv_le_natAbs (d.sign * n) ((d.gcd n : Nat) : Int)
    rw [Int.natAbs_mul, Int.natAbs_sign_of_ne_zero hd, Nat.one_mul] at this
    exact this
  · rw [Rat.den_divInt, if_neg hd]
    exact Nat.lt_of_le_of_lt (Nat.div_le_self _ _) h2
theorem fr_ne {n d : Int} (hn : n ≠ 0) (hd : d ≠ 0) : fr n d ≠ 0 := fun z => by
  have e : Rat.divInt n d = Rat.divInt 0 1 := z.trans (Rat.zero_divInt 1).symm
  have := (Rat.divInt_eq_divInt_iff hd (by decide)).mp e
  omega
def finV (p d x : Int) : Rat := if 0 < p then (x : Rat) else fr x d
theorem fin_eq (p : Int) (u : List Int) (q : Nat) : fin p u q = u.map (finV p (u.getD q 0)) := by
  unfold fin finV
  by_cases h : 0 < p
  · rw [if_pos h]
    exact List.map_congr_left fun x _ => by rw [if_pos h]
  · rw [if_neg h]
    exact List.map_congr_left fun x _ => by rw [if_neg h]
theorem finV_ne {p d x : Int} (hd : d ≠ 0) (hx : x ≠ 0) : finV p d x ≠ 0 := by
  unfold finV
  split
  · exact_mod_cast hx
  · exact fr_ne hx hd
theorem finV_zero (p d : Int) : finV p d 0 = 0 := by
  unfold finV
  split
  · rfl
  · exact Rat.zero_divInt d
theorem fin_first {p : Int} {u : List Int} {q : Nat} (hq : u.getD q 0 ≠ 0) (h0 : ∀ t, t < q → u.getD t 0 = 0) : firstQ (fin p u q) = some q := by
  have hl : q < u.length := Classical.byContradiction fun z => hq (by rw [List.getD_eq_getElem?_getD, List.getElem?_eq_none (by omega)]; rfl)
  rw [fin_eq]
  refine firstQ_hit (q := finV p (u.getD q 0) (u.getD q 0)) ?_ (finV_ne hq hq) fun j hj r hr => ?_
  · rw [List.getElem?_map, at_gd hl]
    rfl
  · rw [List.getElem?_map, at_gd (by omega), h0 j hj] at hr
    cases hr
    exact finV_zero _ _
theorem fin_get {p : Int} {u : List Int} {q j : Nat} (hj : j < u.length) : (fin p u q)[j]? = some (finV p (u.getD q 0) (u.getD j 0)) := by
  rw [fin_eq, List.getElem?_map, at_gd hj]
  rfl
def formQ (p : Int) (q : Rat) : Rat := if p = 0 then q else ((q.num.fmod p : Int) : Rat)
/-- the rows begin at their leads -/
def LeadOk (p : Int) (kept : List (Nat × List Int)) : Prop := ∀ qh ∈ kept, ∀ t, t < qh.1 → qh.2.getD t 0 = 0
def heldP (p : Int) (n : Nat) (kept : List (Nat × List Int)) (ps : List Nat) : List (Nat × List Rat) := ps.map fun q => (n - 1 - q, fin p (rowAt kept q) q)
def kerRow (p : Int) (n : Nat) (hd : List (Nat × List Rat)) (f : Nat) : List Rat := hd.foldl (fun l qr => l.set qr.1 (formQ p (-(qr.2.getD (n - 1 - f) 0)))) ((List.range n).map fun j => if j = f then 1 else 0)
def freeP (hd : List (Nat × List Rat)) (n : Nat) : List Nat := (List.range n).filter fun f => !(hd.map (·.1)).contains f
def kerRows (p : Int) (n : Nat) (hd : List (Nat × List Rat)) : List (List Rat) := (freeP hd n).map (kerRow p n hd)
section
variable {P : Program} {w : World} {K : PySem.W.Frag} {mg : Str → Option Value} {base : Heap}
/-- in its form, in any ground -/
theorem call_form {T : Tx K mg} {H0 G0 G H : Hp} {pl : Option (Addr × Addr × Nat)} {ls : List (Addr × HO)} {Q : VK} {x : V} {q : Rat} {p : Int} (lw : Lw H0 G0 pl ls G H) (hp : 0 ≤ p) (hx : Nm T.frac.C G x q) (hq : p ≠ 0 → q.den = 1)
    (k : ∀ G' H' v, Ex G G' → Lw H0 G0 pl ls G' H' → Nm T.frac.C G' v (formQ p q) → Q v H') : sp_in_form T [.int p, x] H Q E0 := by
  by_cases h : p = 0
  · subst h
    refine call_form0 lw hx fun G' H' v e lw hv => k _ _ _ e lw ?_
    unfold formQ
    rw [if_pos rfl]
    exact hv
  · rcases hx with ⟨_, rfl⟩ | ⟨z, _⟩
    · refine call_formP lw (by omega) fun G' H' e lw => k _ _ _ e lw ?_
      unfold formQ
      rw [if_neg h]
      exact Nm.ofInt _
    · exact (z (hq h)).elim
/-! ### kernel_rows -/
theorem sc_kernel : FnScope ["ground", "width", "rows", "prime", "held", "turned", "result", "free", "numbers", "place", "row"] ["ground", "width", "rows"] (defScope s_kernel) := ⟨rfl, rfl, rfl, by decide +kernel, rfl, by decide +kernel, by decide +kernel⟩
def sp_kernel (T : Tx K mg) : Sp := fun vs H Q E => ∃ (p : Int) (n : Nat) (rows : List (List Rat)), PureSp (fun vs G => ∃ g x, vs = [.ref g, .int n, x] ∧ GrAt T.ground.C G g p ∧ RL T.frac.C G x rows ∧ rows.length ≤ 1000 ∧ PreOk p n (rows.map List.reverse) ∧ LeadOk p (runRows p n ((rows.map List.reverse).map (prep p)) []))
  (fun _ _ G' v => ∃ ps : List Nat, ps.Perm ((runRows p n ((rows.map List.reverse).map (prep p)) []).map (·.1)) ∧ ps.Pairwise (· ≤ ·) ∧ OkK p n (runRows p n ((rows.map List.reverse).map (prep p)) []) ∧ RT T.frac.C G' v (kerRows p n (heldP p n (runRows p n ((rows.map List.reverse).map (prep p)) []) ps))) vs H Q E
theorem ok_kernel (T : Tx K mg) : FnOk P w K mg base CX0 14 T.kernel.f T.kernel.fd ["ground", "width", "rows"] (sp_kernel T) := by
  refine T.kernel.F.ok sc_kernel (fun vs H Q E h => ?_) (fun cdv A outer s H vs Q E hr h => ?_)
  · obtain ⟨p, n, rows, G, _, ⟨g, x, rfl, _⟩, _⟩ := h
    rfl
  · obtain ⟨p, n, rows, G, lw, ⟨g, x, rfl, hgr, ⟨t, xs, rfl, ht, hxl, hx⟩, few, hpre, hlead⟩, k⟩ := h
    refine ⟨_, (pss_cons (ps_set (i := 3) sc_kernel.nd rfl (.inl rfl) (UfK.pe_fldK (K := K) (pv 0) rfl))
      (pss_cons (ps_set (i := 4) sc_kernel.nd rfl (.inl rfl) pe_dnewK)
      (pss_cons (ps_for PassesOwn.never rfl (UfK.pi_listK (K := K) (pe_call (ok_reduced T) (hr.mono (by decide)) (by rfl) T.reduced.g T.reduced.F.kp T.reduced.b .nil pass0 (pa_cons (pv 0) (pa_cons (pv 1) (pa_cons (pe_lc (own := [("row", 10)]) rfl sc_kernel.nd (UfK.pi_listK (K := K) (pv 2)) (blkOk_by (own := [("row", 10)]) (N := ["ground", "width", "rows", "prime", "held", "turned", "result", "free", "numbers", "place", "row"]) (sc := defScope s_kernel) (by decide +kernel)) (fun _ _ _ _ _ => by exact pg_name (i := 10) sc_kernel.nd rfl (.inl rfl)) (fun _ _ _ _ _ => pts_nil) (fun _ _ _ _ _ => (UfV.pe_revLK (K := K) (pe_callTy (UfK.call_list_ofK (K := K)) (by rfl) T.z_list (by decide +kernel) (pa_cons (pv 10) pa_nil))))) pa_nil))))) (pg_name (i := 5) sc_kernel.nd rfl (.inl rfl)) (pss_one (ps_dput (hu_of hr) (pv 4) (pe_op op_sub (pe_op op_sub (pv 1) pe_int) (pe_call (ok_first_place T) (hr.mono (by decide)) (by rfl) T.first_place.g T.first_place.F.kp T.first_place.b .nil pass0 (pa_cons (pv 5) pa_nil))) (pv 5) rfl)))
      (pss_cons (ps_set (i := 6) sc_kernel.nd rfl (.inl rfl) (pe_lst pa_nil))
      (pss_cons (ps_for PassesOwn.never rfl (pi_range1 rfl T.z_range (pa_cons (pv 1) pa_nil)) (pg_name (i := 7) sc_kernel.nd rfl (.inr rfl)) (pss_one (ps_if (pt_cmp (pc_dnotin (hu_of hr) (pv 7) (pv 4))) (pss_cons (ps_setLc (i := 8) (own := [("place", 9)]) rfl sc_kernel.nd rfl rfl (sw_true rfl rfl rfl (by decide +kernel)) (pi_range1 rfl T.z_range (pa_cons (pv 1) pa_nil)) (blkOk_by (own := [("place", 9)]) (N := ["ground", "width", "rows", "prime", "held", "turned", "result", "free", "numbers", "place", "row"]) (sc := defScope s_kernel) (by decide +kernel)) (fun _ _ _ _ _ => by exact pg_name (i := 9) sc_kernel.nd rfl (.inl rfl)) (fun _ _ _ _ _ => pts_nil) (fun _ _ _ _ _ => (pe_ifExp (pt_cmpR op_eq (pv 9) (pv 7) (nomark _)) pe_int pe_int)))
      (pss_cons (ps_lock (ps_for PassesOwn.never rfl (pi_keys (pv 4)) (pg_name (i := 9) sc_kernel.nd rfl (.inl rfl)) (pss_one (ps_asg (pe_call (ok_in_form T) (hr.mono (by decide)) (by rfl) T.in_form.g T.in_form.F.kp T.in_form.b .nil pass0 (pa_cons (pv 3) (pa_cons (pe_un (UfO.un_ownNeg (hr.mono (by decide)) T.f_neg.m.at_ T.f_neg.m.fn (ok_f_neg T) T.f_neg.b pass0) (pe_ix (UfK.ix_tupK (K := K)) (pe_dget (hu_of hr) (pv 4) (pv 9) (fun _ _ => rfl)) (pe_op op_sub (pe_op op_sub (pv 1) pe_int) (pv 7)) (fun _ _ => rfl))) pa_nil))) (pg_sub (pv 8) (pv 9) set_list)))))
      (pss_one (ps_expr (pe_bm PySem.F.plainAttrs_list PySem.F.slot_list_append PySem.F.type_list_append mt_append (pv 6) (pa_cons (pe_callTy (UfK.call_tuple_ofK (K := K)) (by rfl) T.z_tuple (by decide +kernel) (pa_cons (pv 8) pa_nil)) pa_nil)))))) pss_nil)))
      (pss_one (ps_ret (pv 6)))))))), ?_⟩
    obtain ⟨dx, hg⟩ := id hgr
    have Hg := lw.gh _ _ hg
    obtain ⟨hp, n0, n60, _⟩ := id hpre
    refine ⟨_, rfl, g, T.ground.C, dx, _, _, rfl, Hg, T.ground.c, T.nPrime, rfl, ?_⟩
    intro D hD
    refine gName_ap ?_
    have lw := lw.make (o := .dK []) hD
    have ht0 := ht
    refine ⟨_, rfl, _, rfl, _, rfl, t, rfl, ⟨_, SqL.g lw ht⟩, fun D1 hD1 => ?_⟩
    refine lc_list (K := K) (pf := fun _ => none) (R := fun j G y => ∃ r, rows[j]? = some r ∧ NS .li T.frac.C G y r.reverse) lw hD1 ht (by omega) (fun i G3 G4 y e h => ?_) (fun i x acc G3 H3 hx1 e3 lw Nx kk => ?_) (fun G1 H1 zs e1 lw h1 hl1 hy1 => ?_)
    · obtain ⟨r, h3, h4⟩ := h
      exact ⟨r, h3, h4.ex e⟩
    · obtain ⟨r, hr, hN⟩ := hx i x hx1
      obtain ⟨t3, xs3, rfl, h3, hn3⟩ := hN.ex e3
      have h3 : G3 t3 = some (.lst xs3) := h3
      refine ⟨rfl, _, rfl, _, _, rfl, .inl (SqL.g lw h3), fun l hl => ?_⟩
      obtain ⟨G4, e4, lw, h4⟩ := lw.allocE (o := .lst xs3) hl
      refine ⟨l, xs3, rfl, SqL.g lw h4, fun l2 hl2 => ?_⟩
      obtain ⟨G5, e5, lw, h5⟩ := lw.allocE (o := .lst xs3.reverse) hl2
      refine kk _ _ _ (e4.trans e5) lw ⟨r, hr, l2, _, rfl, h5, by rw [List.length_reverse, List.length_reverse]; exact hn3.1, fun j y hy => ?_⟩
      obtain ⟨q, h6, h7⟩ := hn3.2 (xs3.length - 1 - j) y (by
        have hjl := (List.getElem?_eq_some_iff.mp hy).1
        rw [List.length_reverse] at hjl
        rw [List.getElem?_reverse hjl] at hy
        exact hy)
      have hjl := (List.getElem?_eq_some_iff.mp hy).1
      rw [List.length_reverse] at hjl
      refine ⟨q, ?_, h7.ex (e4.trans e5)⟩
      rw [List.getElem?_reverse (by rw [← hn3.1]; exact hjl), ← hn3.1]
      exact h6
    · refine ⟨p, n, rows.map List.reverse, call_pure lw ⟨g, .ref D1, rfl, hgr.ex e1, ⟨D1, zs, rfl, h1, by rw [hl1, hxl, List.length_map], fun i x hx2 => ?_⟩, hpre⟩ fun G2 H2 v e2 lw hv => ?_⟩
      · obtain ⟨r, h3, h4⟩ := hy1 i x hx2
        exact ⟨_, by rw [List.getElem?_map, h3]; rfl, h4⟩
      obtain ⟨ps, hperm, hsort, hok, hRT⟩ := hv
      generalize hkept : runRows p n ((rows.map List.reverse).map (prep p)) [] = kept at *
      obtain ⟨t2, xs2, rfl, ht2, hl2, hx2⟩ := hRT
      have plen : ps.length = kept.length := by rw [hperm.length_eq, List.length_map]
      have pnd : ps.Nodup := hperm.symm.nodup hok.1
      have row : ∀ q ∈ ps, (q, rowAt kept q) ∈ kept := fun q hq => by
        obtain ⟨qh, h1, rfl⟩ := List.mem_map.mp (hperm.subset hq)
        have := rowAt_mem h1 hok.1
        rw [this]
        exact h1
      have plt : ∀ q ∈ ps, q < n := fun q hq => (hok.2.2 _ (row q hq)).1
      have hkeys : (heldP p n kept ps).map (·.1) = ps.map fun q => n - 1 - q := by
        unfold heldP
        rw [List.map_map]
        rfl
      have hdl : (heldP p n kept ps).length = ps.length := by
        unfold heldP
        rw [List.length_map]
      have knd : ((heldP p n kept ps).map (·.1)).Nodup := by
        rw [hkeys]
        refine List.pairwise_map.mpr (pnd.imp_of_mem fun ha hb h z => h ?_)
        have := plt _ ha
        have := plt _ hb
        omega
      refine ⟨t2, rfl, ⟨_, SqL.g lw ht2⟩, ?_⟩
      refine for_list (xs := xs2) (fun i σ' H' => ∃ (z5 z6 z7 z8 z9 z10 : Option V) (kvs : List (L2.Key × V)) (G' : Hp), σ' = [some (.ref g), some (.int n), some (.ref t), some (.int p), some (.ref D), z5, none, none, none, none, none] ∧ Lw H G none [(D, .dK kvs)] G' H' ∧ Ex G2 G' ∧ KR (NS .tu T.frac.C G') kvs ((heldP p n kept ps).take i))
        ⟨none, none, none, none, none, none, [], G2, rfl, lw, Ex.refl _, .nil⟩ (fun i σ' H' _ hp => ?_) (fun i x σ' H' hx' hp => ?_) (fun σ' H' hp => ?_)
      · obtain ⟨z5, z6, z7, z8, z9, z10, kvs, G3, rfl, lw, e3, _⟩ := hp
        exact SqL.g lw (e3 _ _ ht2)
      · obtain ⟨z5, z6, z7, z8, z9, z10, kvs, G3, rfl, lw, e3, hk⟩ := hp
        obtain ⟨r, hr, hN⟩ := hx2 i x hx'
        obtain ⟨q, hq, rfl⟩ : ∃ q, ps[i]? = some q ∧ fin p (rowAt kept q) q = r := by
          unfold toldRows at hr
          rw [List.getElem?_map] at hr
          cases e : ps[i]? with
          | none => rw [e] at hr; cases hr
          | some q =>
            rw [e] at hr
            cases hr
            exact ⟨q, rfl, rfl⟩
        have hq2 := List.mem_of_getElem? hq
        obtain ⟨_, ⟨r1, r2, r3⟩, r4⟩ := hok.2.2 _ (row q hq2)
        have r4 : (rowAt kept q).getD q 0 ≠ 0 := r4
        have hN3 := hN.ex e3
        have qn := plt q hq2
        have hti : (heldP p n kept ps)[i]? = some (n - 1 - q, fin p (rowAt kept q) q) := by
          unfold heldP
          rw [List.getElem?_map, hq]
          rfl
        refine gName_ap ?_
        refine ⟨_, rfl, _, rfl, _, rfl, _, _, rfl, rfl, _, rfl, .tu, _, call_pure lw ⟨x, rfl, hN3⟩ fun G4 H4 v4 e4 lw hv4 => ?_⟩
        subst hv4
        rw [fin_first r4 (hlead _ (row q hq2))]
        refine ⟨_, _, rfl, rfl, D, _, rfl, .inl ⟨kvs, .inl ((n - 1 - q : Nat) : Int), lw.at, ?_, ?_, rfl⟩, ?_⟩
        · show V.int _ = V.int _
          congr 1
          omega
        · have := hk.len
          rw [List.length_take, hdl] at this
          have := hok.2.1
          exact Nat.lt_of_lt_of_le (show kvs.length < 100 by omega) (by decide)
        · refine ⟨_, none, none, none, none, none, _, G4, rfl, lw.put, e3.trans e4, ?_⟩
          rw [List.take_add_one, hti]
          refine (hk.up fun v h hh => hh.ex e4).put (fun z => ?_) (hN3.ex e4)
          rw [← List.take_append_drop i (heldP p n kept ps), List.map_append, List.drop_eq_getElem_cons (List.getElem?_eq_some_iff.mp hti).1, (List.getElem?_eq_some_iff.mp hti).2] at knd
          exact (List.nodup_append.mp knd).2.2 _ z _ List.mem_cons_self rfl
      · obtain ⟨z5, z6, z7, z8, z9, z10, kvs, G3, rfl, lw, e3, hk⟩ := hp
        have hl3 : xs2.length = (heldP p n kept ps).length := by
          rw [hl2]
          unfold toldRows heldP
          rw [List.length_map, List.length_map]
        rw [hl3, List.take_length] at hk
        generalize hhd : heldP p n kept ps = hd at *
        refine ⟨Evl.sz_of (by simp), fun R hR => ?_⟩
        refine gName_ap ?_
        have lw := lw.make (o := .lst []) hR
        have hdn : ∀ qr ∈ hd, qr.1 < n ∧ qr.2.length = n ∧ (∀ x ∈ qr.2, Sm 4000 x) ∧ (p ≠ 0 → ∀ x ∈ qr.2, x.den = 1) := fun qr hqr => by
          rw [← hhd] at hqr
          unfold heldP at hqr
          obtain ⟨q, hq, rfl⟩ := List.mem_map.mp hqr
          obtain ⟨_, ⟨r1, r2, r3⟩, r4⟩ := hok.2.2 _ (row q hq)
          have r4 : (rowAt kept q).getD q 0 ≠ 0 := r4
          refine ⟨by omega, by rw [fin_len]; exact r1, fun x hx => ?_, fun p0 x hx => ?_⟩
          · have hx : x ∈ fin p (rowAt kept q) q := hx
            rw [fin_eq] at hx
            obtain ⟨y, hy, rfl⟩ := List.mem_map.mp hx
            have s39 : (2 : Nat) ^ 3900 < 2 ^ 4000 := by decide +kernel
            have b1 := Nat.lt_trans (Sml.sb r2 y hy) s39
            have b2 := Nat.lt_trans (r2 q) s39
            unfold finV
            split
            · exact sm_of_int b1
            · exact fr_sm r4 b1 b2
          · have hx : x ∈ fin p (rowAt kept q) q := hx
            rw [fin_eq] at hx
            obtain ⟨y, hy, rfl⟩ := List.mem_map.mp hx
            unfold finV
            rw [if_pos (by omega)]
            rfl
        refine ⟨_, rfl, (n : Int), rfl, by omega, by omega, ?_⟩
        refine for_range (lo := 0) (n := n) (fun i σ' H' => ∃ (z7 z8 z9 : Option V) (acc : List V) (G' : Hp), σ' = [some (.ref g), some (.int n), some (.ref t), some (.int p), some (.ref D), z5, some (.ref R), z7, z8, z9, none] ∧ Lw H G none [(R, .lst acc), (D, .dK kvs)] G' H' ∧ Ex G3 G' ∧ acc.length = (((List.range i).filter fun f => !(hd.map (·.1)).contains f).map (kerRow p n hd)).length ∧ ∀ (j : Nat) (x : V), acc[j]? = some x → ∃ r, (((List.range i).filter fun f => !(hd.map (·.1)).contains f).map (kerRow p n hd))[j]? = some r ∧ NS .tu T.frac.C G' x r)
          ⟨none, none, none, [], G3, rfl, lw, Ex.refl _, rfl, fun j x h => by cases h⟩ (fun i σ' H' hi hp => ?_) (fun σ' H' hp => ?_)
        · obtain ⟨z7, z8, z9, acc, G4, rfl, lw, e4, hal, hacc⟩ := hp
          rw [Int.zero_add]
          refine gName_ap ?_
          have hk4 := hk.up fun v h (hh : NS .tu T.frac.C G3 v h) => hh.ex e4
          have racc : (((List.range i).filter fun f => !(hd.map (·.1)).contains f).map (kerRow p n hd)).length ≤ n := by
            rw [List.length_map]
            have := List.length_filter_le (fun f => !(hd.map (·.1)).contains f) (List.range i)
            rw [List.length_range] at this
            omega
          refine ⟨_, rfl, _, rfl, D, _, rfl, .inl ⟨kvs, .inl (i : Int), .inl lw.at2, rfl, rfl⟩, _, rfl, ite2 (fun h => ?_) (fun h => ?_)⟩
          · have hni : ¬ i ∈ hd.map (·.1) := fun z => by
              rw [hk4.some z] at h
              exact absurd h (by decide)
            refine ⟨_, rfl, (n : Int), rfl, by omega, by omega, fun N hN => ?_⟩
            refine lc_rngM (n := n) (pf := fun _ => none) (R := fun j _ y => y = .int (if j = i then 1 else 0)) lw hN (by omega) (fun _ _ _ _ _ h => h) (fun j acc2 G5 H5 hj e5 lw Nx kk => ?_) (fun G5 H5 ys e5 lw hl5 hy5 => ?_)
            · rw [Int.zero_add]
              refine ⟨rfl, _, rfl, _, rfl, rfl, _, rfl, ite2 (fun h => ?_) (fun h => ?_)⟩
              · have h : j = i := by
                  have h : (j : Int) = i := by simpa using h
                  omega
                exact kk _ _ _ (Ex.refl _) lw (by rw [if_pos h])
              · have h : ¬ j = i := fun z => h (by rw [z]; simp)
                exact kk _ _ _ (Ex.refl _) lw (by rw [if_neg h])
            refine gName_ap ?_
            have lwD := lw.rot3
            refine ⟨D, _, lwD.at, trivial, fun od => ?_⟩
            have lwF := (lwD.put (o' := .frz od (.dK kvs))).swap
            have hk5 := hk4.up fun v h (hh : NS .tu T.frac.C G4 v h) => hh.ex e5
            refine ⟨_, rfl, D, od, rfl, .inl ⟨kvs, lwF.at2, ?_⟩⟩
            refine for_keys (fun m σ' H' => ∃ (z9 : Option V) (ys : List V) (G' : Hp), σ' = [some (.ref g), some (.int n), some (.ref t), some (.int p), some (.ref D), z5, some (.ref R), some (.int i), some (.ref N), z9, none] ∧ Lw H G none [(N, .lst ys), (D, .frz od (.dK kvs)), (R, .lst acc)] G' H' ∧ Ex G5 G' ∧ Nms T.frac.C G' ys (kerRow p n (hd.take m) i)) ⟨_, ys, G5, rfl, lwF, Ex.refl _, ?_⟩ (fun m σ' H' _ hp => ?_) (fun m ky v σ' H' hkv hp => ?_) (fun σ' H' hp => ?_)
            · show Nms _ _ ys ((List.range n).map fun j => if j = i then (1 : Rat) else 0)
              refine ⟨by rw [hl5, List.length_map, List.length_range], fun j x hx => ?_⟩
              have hjn := (List.getElem?_eq_some_iff.mp hx).1
              refine ⟨if j = i then 1 else 0, by rw [List.getElem?_map, List.getElem?_range (by omega)]; rfl, ?_⟩
              rw [hy5 j x hx]
              by_cases z : j = i
              · rw [if_pos z, if_pos z]
                exact Nm.ofInt 1
              · rw [if_neg z, if_neg z]
                exact Nm.ofInt 0
            · obtain ⟨z9, ys, G6, rfl, lw, _⟩ := hp
              exact lw.at2
            · obtain ⟨z9, ys, G6, rfl, lw, e6, hns⟩ := hp
              obtain ⟨q, r, hq, rfl, t7, xs7, rfl, ht7, hn7⟩ := (hk5.up fun v h (hh : NS .tu T.frac.C G5 v h) => hh.ex e6).at hkv
              have ht7 : G6 t7 = some (.tup xs7) := ht7
              obtain ⟨d1, d2, d3, d4⟩ := hdn _ (List.mem_of_getElem? hq)
              have d1 : q < n := d1
              have d2 : r.length = n := d2
              have hget : xs7[n - 1 - i]? = some (xs7[n - 1 - i]'(by have := hn7.1; omega)) := List.getElem?_eq_getElem _
              obtain ⟨a, ha, hA⟩ := hn7.2 _ _ hget
              have hmem := List.mem_of_getElem? ha
              have hval := hk5.atV hkv knd
              refine gName_ap ?_
              refine ⟨_, rfl, _, rfl, _, rfl, D, .ref t7, rfl, .inl ⟨kvs, .inl (q : Int), .inr ⟨od, lw.at2⟩, rfl, hval.symm⟩, _, rfl, _, _, rfl, rfl, _, rfl, _, _, rfl, rfl, t7, xs7, _, _, rfl, rfl, SqT.g lw ht7, ?_, r_neg lw hA (d3 a hmem) fun G7 H7 v7 e7 lw hv7 => call_form lw (by omega) hv7 (fun z => d4 z a hmem) fun G8 H8 v8 e8 lw hv8 => ?_⟩
              · rw [show (n : Int) - 1 - (i : Int) = ((n - 1 - i : Nat) : Int) by omega]
                exact atI_nat hget
              refine ⟨_, rfl, _, rfl, N, ys, (q : Int), q, rfl, rfl, lw.at, Evl.ixN_nat ?_, ?_⟩
              · rw [hns.1]
                unfold kerRow
                have : ∀ (l : List (Nat × List Rat)) (z : List Rat), (l.foldl (fun l qr => l.set qr.1 (formQ p (-(qr.2.getD (n - 1 - i) 0)))) z).length = z.length := fun l => by
                  induction l with
                  | nil => exact fun _ => rfl
                  | cons a l ih =>
                    intro z
                    rw [List.foldl_cons, ih, List.length_set]
                rw [this, List.length_map, List.length_range]
                exact d1
              refine ⟨_, _, G8, rfl, lw.put, e6.trans (e7.trans e8), ?_⟩
              have hstep : kerRow p n (hd.take (m + 1)) i = (kerRow p n (hd.take m) i).set q (formQ p (-(r.getD (n - 1 - i) 0))) := by
                unfold kerRow
                rw [List.take_add_one, hq, List.foldl_append]
                rfl
              rw [hstep]
              refine ⟨by rw [List.length_set, List.length_set]; exact hns.1, fun j x hx => ?_⟩
              rw [List.getElem?_set] at hx ⊢
              by_cases z : q = j
              · rw [if_pos z] at hx ⊢
                split at hx
                · cases hx
                  rename_i hlt
                  rw [hns.1] at hlt
                  rw [if_pos hlt]
                  refine ⟨_, rfl, ?_⟩
                  rw [List.getD_eq_getElem?_getD, ha]
                  exact hv8
                · cases hx
              · rw [if_neg z] at hx ⊢
                obtain ⟨b, h1, h2⟩ := hns.2 j x hx
                exact ⟨b, h1, h2.ex (e7.trans e8)⟩
            · obtain ⟨z9, ys, G6, rfl, lw, e6, hns⟩ := hp
              rw [hk.len, List.take_length] at hns
              refine ⟨lw.at2, ?_⟩
              have lw := (lw.swap.put (o' := .dK kvs)).rot3'
              refine ⟨_, rfl, .inl ⟨rfl, _, SqL.of lw.at2⟩, _, rfl, N, ys, rfl, .inl ⟨SqL.of lw.at, fun l hl => ?_⟩⟩
              have lw := lw.drop
              obtain ⟨G7, e7, lw, h7⟩ := lw.allocE (o := .tup ys) hl
              refine ⟨R, acc, .ref l, rfl, rfl, lw.at, Evl.sz_lt (by omega), ?_⟩
              have hr1 : ((List.range (i + 1)).filter fun f => !(hd.map (·.1)).contains f).map (kerRow p n hd) = ((List.range i).filter fun f => !(hd.map (·.1)).contains f).map (kerRow p n hd) ++ [kerRow p n hd i] := by
                rw [List.range_succ, List.filter_append, List.map_append]
                congr 1
                rw [List.filter_cons_of_pos (by simpa using hni)]
                rfl
              refine ⟨_, _, _, _, G7, rfl, lw.put, e4.trans (e5.trans (e6.trans e7)), ?_, fun j x hx => ?_⟩
              · rw [hr1, List.length_append, List.length_append, hal]
                rfl
              · rw [hr1]
                by_cases hj : j < acc.length
                · rw [List.getElem?_append_left hj] at hx
                  obtain ⟨r, h1, h2⟩ := hacc j x hx
                  rw [List.getElem?_append_left (by rw [← hal]; exact hj)]
                  exact ⟨r, h1, h2.ex (e5.trans (e6.trans e7))⟩
                · have hj2 := (List.getElem?_eq_some_iff.mp hx).1
                  rw [List.length_append, List.length_singleton] at hj2
                  have ej : j = acc.length := by omega
                  rw [List.getElem?_append_right (by omega), ej, Nat.sub_self] at hx
                  cases hx
                  rw [List.getElem?_append_right (by omega), ej, hal, Nat.sub_self]
                  exact ⟨_, rfl, l, ys, rfl, h7, hns.ex e7⟩
          · have hi2 : i ∈ hd.map (·.1) := Classical.byContradiction fun z => by
              rw [hk4.none z] at h
              exact h rfl
            have hr1 : ((List.range (i + 1)).filter fun f => !(hd.map (·.1)).contains f).map (kerRow p n hd) = ((List.range i).filter fun f => !(hd.map (·.1)).contains f).map (kerRow p n hd) := by
              rw [List.range_succ, List.filter_append, List.filter_cons_of_neg (by simpa using hi2), List.filter_nil, List.append_nil]
            exact ⟨_, _, _, acc, G4, rfl, lw, e4, by rw [hr1]; exact hal, fun j x hx => by rw [hr1]; exact hacc j x hx⟩
        · obtain ⟨z7, z8, z9, acc, G4, rfl, lw, e4, hal, hacc⟩ := hp
          obtain ⟨lw, e5⟩ := lw.keep
          rw [← hhd] at hal hacc
          refine ⟨_, rfl, k _ _ _ lw.drop ⟨ps, hperm, hsort, hok, R, acc, rfl, upd_same, hal, fun j x hx => ?_⟩⟩
          obtain ⟨r, h1, h2⟩ := hacc j x hx
          exact ⟨r, h1, h2.ex e5⟩
end
end K06

namespace K06
open PySem PySem.Spec PyProof.Rows L2 UfG UfT UfR UfO UfI UfQ UfN UfW
open UfL (LP lowP plusP timesP gcdL primL clr invP ledO firstNz clrAll stepRow runRows Good OkU OkK Sml Oki)
open UfZ (Kd)
open Evl (Ex)
/-! ### solved, _barring: what they tell -/
abbrev Mat := List (List Rat)
def keptB (p : Int) (n : Nat) (cols : Mat) : List (Nat × List Int) := runRows p n ((cols.map List.reverse).map (prep p)) []
def kersB (p : Int) (n : Nat) (cols : Mat) (ps : List Nat) : Mat := kerRows p n (heldP p n (keptB p n cols) ps)
def totsB (p : Int) (rows : Mat) (target : List Rat) : List Rat := rows.map fun r => formQ p (dotQ r target)
def overQ (p : Int) (x y : Rat) : Rat := if p = 0 then x / y else (((x.num * (y.num ^ (p - 2).toNat).fmod p).fmod p : Int) : Rat)
def Sorted (kept : List (Nat × List Int)) (ps : List Nat) : Prop := ps.Perm (kept.map (·.1)) ∧ ps.Pairwise (· ≤ ·)
def NumOk (p : Int) (q : Rat) : Prop := (p ≠ 0 → q.den = 1) ∧ Sm 3900 q
/-- what _barring takes -/
def BarOk (p : Int) (cols : Mat) (target : List Rat) : Prop := cols.length ≤ 1000 ∧ PreOk p target.length (cols.map List.reverse) ∧ LeadOk p (keptB p target.length cols) ∧
  ∀ ps, Sorted (keptB p target.length cols) ps → (∀ r ∈ kersB p target.length cols ps, DotSm r target ∧ (p ≠ 0 → (dotQ r target).den = 1) ∧ Sm 4000 (dotQ r target) ∧ ∀ q ∈ r, NumOk p q) ∧ ∃ a, firstQ (totsB p (kersB p target.length cols ps) target) = some a
def barW (p : Int) (rows : Mat) (target : List Rat) (a : Nat) : List Rat := (rows.getD a []).map fun x => overQ p x ((totsB p rows target).getD a 0)
def augRows (cols : Mat) (target : List Rat) : Mat := (List.range target.length).map fun k => cols.map (fun c => c.getD k 0) ++ [target.getD k 0]
def keptA (p : Int) (cols : Mat) (target : List Rat) : List (Nat × List Int) := runRows p (cols.length + 1) ((augRows cols target).map (prep p)) []
def solN (p : Int) (many : Nat) (kept : List (Nat × List Int)) (ps : List Nat) : List Rat := ps.foldl (fun l q => l.set q ((fin p (rowAt kept q) q).getD many 0)) (List.replicate many 0)
section
variable {P : Program} {w : World} {K : PySem.W.Frag} {mg : Str → Option Value} {base : Heap}
theorem sc_barring : FnScope ["ground", "columns", "target", "prime", "rows", "totals", "at", "row", "number"] ["ground", "columns", "target"] (defScope s_barring) := ⟨rfl, rfl, rfl, by decide +kernel, rfl, by decide +kernel, by decide +kernel⟩
def sp_barring (T : Tx K mg) : Sp := fun vs H Q E => ∃ (p : Int) (cols : Mat) (target : List Rat), PureSp (fun vs G => ∃ g x y, vs = [.ref g, x, y] ∧ GrAt T.ground.C G g p ∧ RL T.frac.C G x cols ∧ NS .li T.frac.C G y target ∧ BarOk p cols target)
  (fun _ _ G' v => ∃ ps a, Sorted (keptB p target.length cols) ps ∧ firstQ (totsB p (kersB p target.length cols ps) target) = some a ∧ NS .tu T.frac.C G' v (barW p (kersB p target.length cols ps) target a)) vs H Q E
theorem ok_barring (T : Tx K mg) : FnOk P w K mg base (L2N.CX P w) 15 T.barring.f T.barring.fd ["ground", "columns", "target"] (sp_barring T) := by
  refine fun_okX T.barring.F sc_barring (fun vs H Q E h => ?_) (fun cdv A outer s H vs Q E hr h => ?_)
  · obtain ⟨p, cols, target, G, _, ⟨g, x, y, rfl, _⟩, _⟩ := h
    rfl
  · obtain ⟨p, cols, target, G, lw, ⟨g, x, y, rfl, hgr, hx, ⟨t, xs, rfl, ht, hn⟩, few, hpre, hlead, hbar⟩, k⟩ := h
    refine ⟨_, (pss_cons (ps_set (i := 3) sc_barring.nd rfl (.inr rfl) (UfK.pe_fldK (K := K) (pv 0) rfl))
      (pss_cons (ps_set (i := 4) sc_barring.nd rfl (.inl rfl) (pe_call (ok_kernel T) (hr.mono (by decide)) (by rfl) T.kernel.g T.kernel.F.kp T.kernel.b .nil pass0 (pa_cons (pv 0) (pa_cons (pe_callB (UfK.call_lenK (K := K)) (by rfl) T.z_len (by decide +kernel) (pa_cons (pv 2) pa_nil)) (pa_cons (pv 1) pa_nil)))))
      (pss_cons (ps_set (i := 5) sc_barring.nd rfl (.inr rfl) (pe_lc (own := [("row", 7)]) rfl sc_barring.nd (UfK.pi_listK (K := K) (pv 4)) (blkOk_by (own := [("row", 7)]) (N := ["ground", "columns", "target", "prime", "rows", "totals", "at", "row", "number"]) (sc := defScope s_barring) (by decide +kernel)) (fun _ _ _ _ _ => by exact pg_name (i := 7) sc_barring.nd rfl (.inl rfl)) (fun _ _ _ _ _ => pts_nil) (fun _ _ _ _ _ => (pe_call (ok_in_form T) (hr.mono (by decide)) (by rfl) T.in_form.g T.in_form.F.kp T.in_form.b .nil pass0 (pa_cons (pv 3) (pa_cons (pe_call (ok_dot_product T) (hr.mono (by decide)) (by rfl) T.dot_product.g T.dot_product.F.kp T.dot_product.b .nil pass0 (pa_cons (pv 7) (pa_cons (pv 2) pa_nil))) pa_nil))))))
      (pss_cons (ps_set (i := 6) sc_barring.nd rfl (.inr rfl) (pe_call (ok_first_place T) (hr.mono (by decide)) (by rfl) T.first_place.g T.first_place.F.kp T.first_place.b .nil pass0 (pa_cons (pv 5) pa_nil)))
      (pss_one (ps_ret (pe_callTy (UfK.call_tuple_ofK (K := K)) (by rfl) T.z_tuple (by decide +kernel) (pa_cons (pe_lc (own := [("number", 8)]) rfl sc_barring.nd (UfK.pi_tupK (K := K) (pe_ix (UfK.ix_listK (K := K)) (pv 4) (pv 6) (fun _ _ => rfl))) (blkOk_by (own := [("number", 8)]) (N := ["ground", "columns", "target", "prime", "rows", "totals", "at", "row", "number"]) (sc := defScope s_barring) (by decide +kernel)) (fun _ _ _ _ _ => by exact pg_name (i := 8) sc_barring.nd rfl (.inl rfl)) (fun _ _ _ _ _ => pts_nil) (fun _ _ _ _ _ => (pe_callS (ok_plain_over T) (hr.mono (by decide)) rfl T.plain_over.g T.plain_over.F.kp T.plain_over.b (fun σ => L2N.passAt UfT.takesN0 σ) (pa_cons (pv 3) (pa_cons (pv 8) (pa_cons (pe_ix (UfK.ix_listK (K := K)) (pv 5) (pv 6) (fun _ _ => rfl)) pa_nil)))))) pa_nil)))))))), ?_⟩
    obtain ⟨dx, hg⟩ := id hgr
    have Hg := lw.gh _ _ hg
    have ht : G t = some (.lst xs) := ht
    refine ⟨_, rfl, g, T.ground.C, dx, _, _, rfl, Hg, T.ground.c, T.nPrime, rfl, ?_⟩
    refine ⟨_, rfl, _, rfl, t, xs, rfl, .inl (SqL.g lw ht), ?_⟩
    rw [show xs.length = target.length from hn.1]
    refine ⟨_, rfl, p, target.length, cols, call_pure lw ⟨g, x, rfl, hgr, hx, few, hpre, hlead⟩ fun G1 H1 v1 e1 lw hv1 => ?_⟩
    obtain ⟨ps, hperm, hsort, hok, hRT⟩ := hv1
    have hS : Sorted (keptB p target.length cols) ps := ⟨hperm, hsort⟩
    obtain ⟨hrow, a, ha⟩ := hbar ps hS
    have hRT : RT T.frac.C G1 v1 (kersB p target.length cols ps) := hRT
    generalize hks : kersB p target.length cols ps = ks at *
    obtain ⟨t1, xs1, rfl, h1, hl1, hx1⟩ := hRT
    obtain ⟨hp, n0, n60, _⟩ := id hpre
    have klen : ks.length ≤ 1000 := by
      rw [← hks]
      unfold kersB kerRows freeP
      rw [List.length_map]
      have := List.length_filter_le (fun f => !((heldP p target.length (keptB p target.length cols) ps).map (·.1)).contains f) (List.range target.length)
      rw [List.length_range] at this
      omega
    refine gName_ap ?_
    refine ⟨_, rfl, t1, rfl, ⟨_, SqL.g lw h1⟩, fun D hD => ?_⟩
    refine lc_list (K := K) (pf := fun _ => none) (R := RN T.frac.C (totsB p ks target)) lw hD h1 (by omega) RN.mono (fun i x acc G2 H2 hx2 e2 lw Nx kk => ?_) (fun G2 H2 ys e2 lw h2 hl2 hy2 => ?_)
    · obtain ⟨r, hr, hN⟩ := hx1 i x hx2
      obtain ⟨r1, r2, r3, r4⟩ := hrow r (List.mem_of_getElem? hr)
      refine ⟨rfl, _, rfl, _, rfl, _, rfl, r, target, call_pure lw ⟨x, .ref t, rfl, hN.ex e2, ⟨t, xs, rfl, (e1.trans e2) _ _ ht, hn.ex (e1.trans e2)⟩, r1⟩ fun G3 H3 v3 e3 lw hv3 => call_form lw (by omega) hv3 r2 fun G4 H4 v4 e4 lw hv4 => kk _ _ _ (e3.trans e4) lw ⟨_, ?_, hv4⟩⟩
      unfold totsB
      rw [List.getElem?_map, hr]
      rfl
    · have hT : NS .li T.frac.C G2 (.ref D) (totsB p ks target) := ⟨D, ys, rfl, h2, by rw [hl2, hl1]; unfold totsB; rw [List.length_map], hy2⟩
      refine gName_ap ?_
      refine ⟨_, rfl, .li, _, call_pure lw ⟨_, rfl, hT⟩ fun G3 H3 v3 e3 lw hv3 => ?_⟩
      subst hv3
      rw [ha]
      have h13 := (e2.trans e3) _ _ h1
      have h23 := e3 _ _ h2
      obtain ⟨a1, a2⟩ : a < ks.length ∧ (totsB p ks target).getD a 0 ≠ 0 := by
        have : ∀ (qs : List Rat) (a : Nat), firstQ qs = some a → a < qs.length ∧ qs.getD a 0 ≠ 0 := fun qs => by
          induction qs with
          | nil => exact fun a h => by cases h
          | cons q qs ih =>
            intro a h
            have h : (if q ≠ 0 then some 0 else (firstQ qs).map (· + 1)) = some a := h
            by_cases z : q = 0
            · rw [if_neg (by simp [z])] at h
              cases e : firstQ qs with
              | none => rw [e] at h; cases h
              | some b =>
                rw [e] at h
                cases h
                obtain ⟨i1, i2⟩ := ih b e
                exact ⟨by show b + 1 < qs.length + 1; omega, i2⟩
            · rw [if_pos z] at h
              cases h
              exact ⟨by simp, z⟩
        obtain ⟨b1, b2⟩ := this _ a ha
        unfold totsB at b1
        rw [List.length_map] at b1
        exact ⟨b1, b2⟩
      obtain ⟨xa, hxa⟩ : ∃ xa, xs1[a]? = some xa := ⟨_, List.getElem?_eq_getElem (by omega)⟩
      obtain ⟨ya, hya⟩ : ∃ ya, ys[a]? = some ya := ⟨_, List.getElem?_eq_getElem (by omega)⟩
      obtain ⟨r, hr, t4, xs4, rfl, h4, hn4⟩ := hx1 a xa hxa
      have h4 : G1 t4 = some (.tup xs4) := h4
      obtain ⟨r1, r2, r3, r4⟩ := hrow r (List.mem_of_getElem? hr)
      obtain ⟨tot, htot, hNt⟩ := hy2 a ya hya
      have etot : tot = formQ p (dotQ r target) := by
        unfold totsB at htot
        rw [List.getElem?_map, hr] at htot
        exact (Option.some.inj htot).symm
      have egd : (totsB p ks target).getD a 0 = tot := by rw [List.getD_eq_getElem?_getD, htot]; rfl
      have eg2 : ks.getD a [] = r := by rw [List.getD_eq_getElem?_getD, hr]; rfl
      rw [egd] at a2
      refine gName_ap ?_
      refine ⟨_, rfl, _, rfl, t1, xs1, (a : Int), _, rfl, rfl, SqL.g lw h13, atI_nat hxa, t4, rfl, ⟨_, SqT.g lw ((e2.trans e3) _ _ h4)⟩, fun D2 hD2 => ?_⟩
      refine lc_tup (K := K) (pf := fun _ => none) (R := RN T.frac.C (barW p ks target a)) lw hD2 ((e2.trans e3) _ _ h4) (by rw [hn4.1]; have := r1.2.1; omega) RN.mono (fun i x acc G5 H5 hx5 e5 lw Nx kk => ?_) (fun G5 H5 zs e5 lw h5 hl5 hy5 => ?_)
      · obtain ⟨q, hq, hNq⟩ := hn4.2 i x hx5
        have hNq := hNq.ex (e2.trans (e3.trans e5))
        have hNt5 := hNt.ex (e3.trans e5)
        obtain ⟨q1, q2⟩ := r4 q (List.mem_of_getElem? hq)
        have up39 : ∀ {q : Rat}, Sm 3900 q → Sm 4000 q := fun h => ⟨Nat.lt_trans h.1 (by decide +kernel), Nat.lt_trans h.2 (by decide +kernel)⟩
        have hget : (barW p ks target a)[i]? = some (overQ p q tot) := by
          unfold barW
          rw [eg2, egd, List.getElem?_map, hq]
          rfl
        refine ⟨rfl, _, rfl, _, rfl, _, rfl, _, rfl, D, ys, (a : Int), ya, rfl, rfl, SqL.g lw ((e3.trans e5) _ _ h2), atI_nat hya, ?_⟩
        by_cases p0 : p = 0
        · subst p0
          have ed : tot = dotQ r target := by
            rw [etot]
            unfold formQ
            rw [if_pos rfl]
          refine .inl ⟨q, tot, call_raiseN lw ⟨x, ya, rfl, hNq, hNt5, up39 q2, by rw [ed]; exact r3⟩ (fun G6 H6 v e6 lw hv => ?_) fun G6 H6 C d e6 lw hv => (a2 hv.1).elim⟩
          refine kk _ _ _ e6 lw ⟨_, hget, ?_⟩
          unfold overQ
          rw [if_pos rfl]
          exact hv.2
        · have p2 : 2 ≤ p ∧ p < 1000 := by omega
          have ed : tot = (((dotQ r target).num.fmod p : Int) : Rat) := by
            rw [etot]
            unfold formQ
            rw [if_neg p0]
          have ei : x = .int q.num := by
            rcases hNq with ⟨_, e⟩ | ⟨z, _⟩
            · exact e
            · exact (z (q1 p0)).elim
          have ej : ya = .int tot.num := by
            rw [ed] at hNt ⊢
            rw [hNt.toInt, ofInt_num]
          have hm : tot.num.fmod p ≠ 0 := by
            rw [ed, ofInt_num, Int.fmod_eq_of_lt (Int.fmod_nonneg_of_pos _ (by omega)) (Int.fmod_lt_of_pos _ (by omega))]
            intro z
            rw [z] at ed
            exact a2 ed
          rw [ei, ej]
          refine .inr ⟨p, q.num, tot.num, call_raiseN lw ⟨rfl, p2.1, Nat.lt_trans (show p.natAbs < 1000 by omega) (by decide +kernel), (up39 q2).1⟩ (fun G6 H6 v e6 lw hv => ?_) fun G6 H6 C d e6 lw hv => (hm hv.1).elim⟩
          refine kk _ _ _ e6 lw ⟨_, hget, ?_⟩
          unfold overQ
          rw [if_neg p0, hv.2]
          exact Nm.ofInt _
      · refine ⟨D2, zs, rfl, .inl ⟨SqL.g lw h5, fun l hl => ?_⟩⟩
        obtain ⟨G6, e6, lw, h6⟩ := lw.allocE (o := .tup zs) hl
        refine k _ _ _ lw ⟨ps, a, hS, by rw [hks]; exact ha, l, zs, rfl, h6, ?_, fun j y hy => ?_⟩
        · rw [hl5, hn4.1, hks]
          unfold barW
          rw [eg2, List.length_map]
        · rw [hks]
          obtain ⟨q, h7, h8⟩ := hy5 j y hy
          exact ⟨q, h7, h8.ex e6⟩
end
end K06

namespace K06
open PySem PySem.Spec PyProof.Rows L2 UfG UfT UfR UfO UfI UfQ UfN UfW
open UfL (LP lowP plusP timesP gcdL primL clr invP ledO firstNz clrAll stepRow runRows Good OkU OkK Sml Oki)
open UfZ (Kd)
open Evl (Ex)
/-- a told pair: a word and numbers -/
def SV (F : Addr) (G : Hp) (v : V) (w : Str) (qs : List Rat) : Prop := ∃ t u, v = .ref t ∧ G t = some (.tup [.str w, u]) ∧ NS .tu F G u qs
def SolOk (p : Int) (cols : Mat) (target : List Rat) : Prop := PreOk p (cols.length + 1) (augRows cols target) ∧ LeadOk p (keptA p cols target) ∧ (∀ ps, Sorted (keptA p cols target) ps → cols.length ∈ ps → BarOk p cols target)
def Told (p : Int) (cols : Mat) (target : List Rat) (F : Addr) (G : Hp) (v : V) : Prop := ∃ ps, Sorted (keptA p cols target) ps ∧
  ((cols.length ∈ ps ∧ ∃ ps2 a, Sorted (keptB p target.length cols) ps2 ∧ firstQ (totsB p (kersB p target.length cols ps2) target) = some a ∧ SV F G v "bar" (barW p (kersB p target.length cols ps2) target a)) ∨
   (¬ cols.length ∈ ps ∧ SV F G v "solution" (solN p cols.length (keptA p cols target) ps)))
theorem inV_int (m : Int) : ∀ ns : List Int, inV (.int m) (ns.map V.int) = decide (m ∈ ns)
  | [] => by simp [inV]
  | n :: ns => by
    have ih := inV_int m ns
    unfold inV at ih ⊢
    rw [List.map_cons, List.any_cons, ih]
    by_cases h : n = m
    · subst h
      simp [eqV]
    · have h2 : ¬ m = n := fun z => h z.symm
      simp [eqV, h, h2]
theorem flat_ints (ns : List Int) : (ns.map V.int).all flatV = true := by
  rw [List.all_map, List.all_eq_true]
  exact fun _ _ => rfl
section
variable {P : Program} {w : World} {K : PySem.W.Frag} {mg : Str → Option Value} {base : Heap}
theorem sc_solved : FnScope ["ground", "columns", "target", "places", "column", "many", "rows", "reduced", "leads", "numbers", "lead", "row", "place", "_"] ["ground", "columns", "target"] (defScope s_solved) := ⟨rfl, rfl, rfl, by decide +kernel, rfl, by decide +kernel, by decide +kernel⟩
def sp_solved (T : Tx K mg) : Sp := fun vs H Q E => ∃ (p : Int) (cols : Mat) (target : List Rat), RaiseN (fun vs G => ∃ g x y, vs = [.ref g, x, y] ∧ GrAt T.ground.C G g p ∧ RL T.frac.C G x cols ∧ NS .li T.frac.C G y target ∧ cols.length ≤ 1000 ∧ target.length ≤ 1000 ∧ ((∀ c ∈ cols, c.length = target.length) → SolOk p cols target))
  (fun _ _ G' v => (∀ c ∈ cols, c.length = target.length) ∧ Told p cols target T.frac.C G' v)
  (fun _ G' C e => ∃ a c b, cols = a ++ c :: b ∧ (∀ x ∈ a, x.length = target.length) ∧ c.length ≠ target.length ∧ ErAt T (.sizes c.length target.length) G' C e) vs H Q E
theorem ok_solved (T : Tx K mg) : FnOk P w K mg base (L2N.CX P w) 16 T.solved.f T.solved.fd ["ground", "columns", "target"] (sp_solved T) := by
  refine fun_okX T.solved.F sc_solved (fun vs H Q E h => ?_) (fun cdv A outer s H vs Q E hr h => ?_)
  · obtain ⟨p, cols, target, G, _, ⟨g, x, y, rfl, _⟩, _⟩ := h
    rfl
  · obtain ⟨p, cols, target, G, lw, ⟨g, x, y, rfl, hgr, ⟨tc, cs, rfl, htc, hcl, hcs⟩, ⟨t, xs, rfl, ht, hn⟩, few, few2, hsol⟩, k, kx⟩ := h
    refine ⟨_, (pss_cons (ps_set (i := 3) sc_solved.nd rfl (.inl rfl) (pe_callB (UfK.call_lenK (K := K)) (by rfl) T.z_len (by decide +kernel) (pa_cons (pv 2) pa_nil)))
      (pss_cons (ps_for (passes_of rfl) rfl (UfK.pi_listK (K := K) (pv 1)) (pg_name (i := 4) sc_solved.nd rfl (.inl rfl)) (pss_one (ps_if (pt_cmpR op_ne (pe_callB (UfK.call_lenK (K := K)) (by rfl) T.z_len (by decide +kernel) (pa_cons (pv 4) pa_nil)) (pv 3) (nomark _)) (pss_one (L2N.ps_raise rfl (L2N.takes_of rfl rfl rfl rfl) (UfH.pmk_oexN T.cSizes.T T.cSizes.iC T.cSizes.tI (oki_sizes T) (hr.mono (by decide)) T.cSizes.b rfl T.cSizes.g (pa_cons (pe_callB (UfK.call_lenK (K := K)) (by rfl) T.z_len (by decide +kernel) (pa_cons (pv 4) pa_nil)) (pa_cons (pv 3) pa_nil))))) pss_nil)))
      (pss_cons (ps_set (i := 5) sc_solved.nd rfl (.inl rfl) (pe_callB (UfK.call_lenK (K := K)) (by rfl) T.z_len (by decide +kernel) (pa_cons (pv 1) pa_nil)))
      (pss_cons (ps_setLc (i := 6) (own := [("place", 12)]) rfl sc_solved.nd rfl rfl (sw_true rfl rfl rfl (by decide +kernel)) (pi_range1 rfl T.z_range (pa_cons (pv 3) pa_nil)) (blkOk_by (own := [("place", 12)]) (N := ["ground", "columns", "target", "places", "column", "many", "rows", "reduced", "leads", "numbers", "lead", "row", "place", "_"]) (sc := defScope s_solved) (by decide +kernel)) (fun _ _ _ _ _ => by exact pg_name (i := 12) sc_solved.nd rfl (.inr rfl)) (fun _ _ _ _ _ => pts_nil) (fun _ _ _ _ _ => (pe_op op_cat (pe_lc (own := [("column", 4)]) rfl sc_solved.nd (UfK.pi_listK (K := K) (pv 1)) (UfI.blkOk_in (own := [("column", 4)]) (N := ["ground", "columns", "target", "places", "column", "many", "rows", "reduced", "leads", "numbers", "lead", "row", "place", "_"]) (by decide +kernel)) (fun _ _ _ _ _ => by exact pg_name (i := 4) sc_solved.nd rfl (.inl rfl)) (fun _ _ _ _ _ => pts_nil) (fun _ _ _ _ _ => (pe_ix (UfK.ix_listK (K := K)) (pv 4) (pv 12) (fun _ _ => rfl)))) (pe_lst (pa_cons (pe_ix (UfK.ix_listK (K := K)) (pv 2) (pv 12) (fun _ _ => rfl)) pa_nil)))))
      (pss_cons (ps_set (i := 7) sc_solved.nd rfl (.inl rfl) (pe_call (ok_reduced T) (hr.mono (by decide)) (by rfl) T.reduced.g T.reduced.F.kp T.reduced.b .nil pass0 (pa_cons (pv 0) (pa_cons (pe_op op_add (pv 5) pe_int) (pa_cons (pv 6) pa_nil)))))
      (pss_cons (ps_setLc (i := 8) (own := [("row", 11)]) rfl sc_solved.nd rfl rfl (sw_true rfl rfl rfl (by decide +kernel)) (UfK.pi_listK (K := K) (pv 7)) (blkOk_by (own := [("row", 11)]) (N := ["ground", "columns", "target", "places", "column", "many", "rows", "reduced", "leads", "numbers", "lead", "row", "place", "_"]) (sc := defScope s_solved) (by decide +kernel)) (fun _ _ _ _ _ => by exact pg_name (i := 11) sc_solved.nd rfl (.inl rfl)) (fun _ _ _ _ _ => pts_nil) (fun _ _ _ _ _ => (pe_call (ok_first_place T) (hr.mono (by decide)) (by rfl) T.first_place.g T.first_place.F.kp T.first_place.b .nil pass0 (pa_cons (pv 11) pa_nil))))
      (pss_cons (ps_if (pt_cmpR (UfK.op_inK (K := K)) (pv 5) (pv 8) (by rfl)) (pss_one (ps_ret (pe_tup (pa_cons pe_str (pa_cons (pe_callS (ok_barring T) (hr.mono (by decide)) rfl T.barring.g T.barring.F.kp T.barring.b (fun σ => L2N.passAt (L2N.takes_of rfl rfl rfl rfl) σ) (pa_cons (pv 0) (pa_cons (pv 1) (pa_cons (pv 2) pa_nil)))) pa_nil))))) pss_nil)
      (pss_cons (ps_setLc (i := 9) (own := [("_", 13)]) rfl sc_solved.nd rfl rfl (sw_true rfl rfl rfl (by decide +kernel)) (pi_range1 rfl T.z_range (pa_cons (pv 5) pa_nil)) (blkOk_by (own := [("_", 13)]) (N := ["ground", "columns", "target", "places", "column", "many", "rows", "reduced", "leads", "numbers", "lead", "row", "place", "_"]) (sc := defScope s_solved) (by decide +kernel)) (fun _ _ _ _ _ => by exact pg_name (i := 13) sc_solved.nd rfl (.inl rfl)) (fun _ _ _ _ _ => pts_nil) (fun _ _ _ _ _ => pe_int))
      (pss_cons (ps_for (passes_of rfl) rfl (UfZ.pi_zipK (K := K) (c := .li) (d := .li) rfl T.z_zip (pa_cons (pv 8) (pa_cons (pv 7) pa_nil))) (UfK.pg_tupK (K := K) (n := 2) rfl (pgs_cons (pg_name (i := 10) sc_solved.nd rfl (.inl rfl)) (pgs_cons (pg_name (i := 11) sc_solved.nd rfl (.inl rfl)) pgs_nil))) (pss_one (ps_asg (pe_ix (UfK.ix_tupK (K := K)) (pv 11) (pv 5) (fun _ _ => rfl)) (pg_sub (pv 9) (pv 10) set_list))))
      (pss_one (ps_ret (pe_tup (pa_cons pe_str (pa_cons (pe_callTy (UfK.call_tuple_ofK (K := K)) (by rfl) T.z_tuple (by decide +kernel) (pa_cons (pv 9) pa_nil)) pa_nil)))))))))))))), ?_⟩
    have ht : G t = some (.lst xs) := ht
    refine ⟨_, rfl, t, xs, rfl, .inl (SqL.g lw ht), ?_⟩
    rw [show xs.length = target.length from hn.1]
    refine gName_ap ?_
    refine ⟨_, rfl, tc, rfl, ⟨_, SqL.g lw htc⟩, ?_⟩
    refine for_list (xs := cs) (fun i σ' H' => ∃ (z4 : Option V), σ' = [some (.ref g), some (.ref tc), some (.ref t), some (.int target.length), z4, none, none, none, none, none, none, none, none, none] ∧ Lw H G none [] G H' ∧ ∀ c ∈ cols.take i, c.length = target.length)
      ⟨none, rfl, lw, fun c h => by cases h⟩ (fun i σ' H' _ hp => ?_) (fun i x σ' H' hx' hp => ?_) (fun σ' H' hp => ?_)
    · obtain ⟨z4, rfl, lw, _⟩ := hp
      exact SqL.g lw htc
    · obtain ⟨z4, rfl, lw, hpre⟩ := hp
      obtain ⟨c, hc, tx, xc, rfl, hxc, hnc⟩ := hcs i x hx'
      have hxc : G tx = some (.lst xc) := hxc
      refine gName_ap ?_
      refine ⟨_, rfl, tx, xc, rfl, .inl (SqL.g lw hxc), _, rfl, rfl, _, rfl, ite2 (fun h => ?_) (fun h => ?_)⟩
      · have h : c.length ≠ target.length := fun z => by
          rw [hnc.1, z] at h
          simp at h
        refine ⟨_, rfl, tx, xc, rfl, .inl (SqL.g lw hxc), _, rfl, mk2_of T.cSizes.T (T.fld _ (by simp) "given" (by simp)) (T.fld _ (by simp) "wanted" (by simp)) fun q hq => ?_⟩
        obtain ⟨G2, e2, lw, h2⟩ := lw.allocE (o := .xd [("wanted", .int target.length), ("given", .int xc.length)]) hq
        rw [hnc.1] at h2
        refine kx _ _ _ _ lw ⟨cols.take i, c, cols.drop (i + 1), ?_, hpre, h, rfl, q, rfl, h2⟩
        have hlt := (List.getElem?_eq_some_iff.mp hc).1
        conv => lhs; rw [← List.take_append_drop i cols, List.drop_eq_getElem_cons hlt, (List.getElem?_eq_some_iff.mp hc).2]
      · have h : c.length = target.length := by
          rw [hnc.1] at h
          have h : (c.length : Int) = target.length := by simpa using h
          omega
        refine ⟨_, rfl, lw, fun c' hc' => ?_⟩
        rw [List.take_add_one, hc] at hc'
        rcases List.mem_append.mp hc' with hc' | hc'
        · exact hpre c' hc'
        · rw [show c' = c by simpa using hc']
          exact h
    · obtain ⟨z4, rfl, lw, hpre⟩ := hp
      rw [hcl, List.take_length] at hpre
      obtain ⟨hpA, hldA, hbar⟩ := hsol hpre
      refine ⟨_, rfl, tc, cs, rfl, .inl (SqL.g lw htc), ?_⟩
      rw [hcl]
      refine gName_ap ?_
      refine ⟨_, rfl, (target.length : Int), rfl, by omega, by omega, fun D hD => ?_⟩
      refine lc_rng (n := target.length) (pf := fun _ => none) (R := fun j G y => ∃ r, (augRows cols target)[j]? = some r ∧ NS .li T.frac.C G y r) lw hD (by omega) (fun i G3 G4 y e h => ?_) (fun i acc G3 H3 hi e3 lw Nx kk => ?_) (fun G1 H1 zs e1 lw h1 hl1 hy1 => ?_)
      · obtain ⟨r, h3, h4⟩ := h
        exact ⟨r, h3, h4.ex e⟩
      · rw [Int.zero_add]
        have htc3 := e3 _ _ htc
        have ht3 := e3 _ _ ht
        obtain ⟨wt, hwt⟩ : ∃ w, xs[i]? = some w := ⟨_, List.getElem?_eq_getElem (by rw [hn.1]; exact hi)⟩
        obtain ⟨qt, hqt, hNt⟩ := hn.2 i wt hwt
        refine ⟨rfl, _, rfl, tc, rfl, ⟨_, SqL.g lw htc3⟩, fun D2 hD2 => ?_⟩
        refine lc_list (K := K) (pf := fun _ => none) (R := RN T.frac.C (cols.map fun c => c.getD i 0)) lw hD2 htc3 (by rw [hcl]; omega) RN.mono (fun j x acc2 G4 H4 hx4 e4 lw Nx2 kk2 => ?_) (fun G4 H4 ys e4 lw h4 hl4 hy4 => ?_)
        · obtain ⟨c, hc, tx, xc, rfl, hxc, hnc⟩ := hcs j x hx4
          have hxc : G tx = some (.lst xc) := hxc
          have hci := hpre c (List.mem_of_getElem? hc)
          obtain ⟨w, hw⟩ : ∃ w, xc[i]? = some w := ⟨_, List.getElem?_eq_getElem (by rw [hnc.1, hci]; exact hi)⟩
          obtain ⟨q, hq, hN⟩ := hnc.2 i w hw
          refine ⟨rfl, _, rfl, _, rfl, tx, xc, (i : Int), w, rfl, rfl, SqL.g lw (e4 _ _ (e3 _ _ hxc)), atI_nat hw, kk2 _ _ _ (Ex.refl _) lw ⟨q, ?_, hN.ex (e3.trans e4)⟩⟩
          rw [List.getElem?_map, hc]
          show some (c.getD i 0) = some q
          rw [List.getD_eq_getElem?_getD, hq]
          rfl
        · refine ⟨_, rfl, _, rfl, t, xs, (i : Int), wt, rfl, rfl, SqL.g lw (e4 _ _ ht3), atI_nat hwt, Evl.sz_of (by show 1 ≤ 100000; decide), fun t5 n5 => ?_⟩
          obtain ⟨G5, e5, lw, h5⟩ := lw.allocE (o := .lst [wt]) n5
          refine ⟨D2, t5, _, _, rfl, rfl, lw.gh _ _ (e5 _ _ h4), lw.gh _ _ h5, Evl.sz_of (by rw [hl4, hcl]; show _ + 1 ≤ 100000; omega), fun t6 n6 => ?_⟩
          obtain ⟨G6, e6, lw, h6⟩ := lw.allocE (o := .lst (ys ++ [wt])) n6
          refine kk _ _ _ (e4.trans (e5.trans e6)) lw ⟨cols.map (fun c => c.getD i 0) ++ [target.getD i 0], ?_, t6, _, rfl, h6, by rw [List.length_append, List.length_append, hl4, hcl, List.length_map]; rfl, fun j y hy => ?_⟩
          · unfold augRows
            rw [List.getElem?_map, List.getElem?_range hi]
            rfl
          · by_cases hj : j < ys.length
            · rw [List.getElem?_append_left hj] at hy
              obtain ⟨q, h7, h8⟩ := hy4 j y hy
              rw [List.getElem?_append_left (by rw [List.length_map, ← hcl, ← hl4]; exact hj)]
              exact ⟨q, h7, h8.ex (e5.trans e6)⟩
            · have hj2 := (List.getElem?_eq_some_iff.mp hy).1
              rw [List.length_append, List.length_singleton] at hj2
              have ej : j = ys.length := by omega
              rw [List.getElem?_append_right (by omega), ej, Nat.sub_self] at hy
              cases hy
              rw [List.getElem?_append_right (by rw [List.length_map]; omega), ej, List.length_map, hl4, hcl, Nat.sub_self]
              refine ⟨_, rfl, ?_⟩
              rw [List.getD_eq_getElem?_getD, hqt]
              exact hNt.ex (e3.trans (e4.trans (e5.trans e6)))
      · refine gName_ap ?_
        refine ⟨_, rfl, _, rfl, _, _, rfl, rfl, _, rfl, p, cols.length + 1, augRows cols target, call_pure lw ⟨g, .ref D, rfl, hgr.ex e1, ⟨D, zs, rfl, h1, by rw [hl1]; unfold augRows; rw [List.length_map, List.length_range], hy1⟩, hpA⟩ fun G2 H2 v e2 lw hv => ?_⟩
        obtain ⟨ps, hperm, hsort, hok, t2, xs2, rfl, ht2, hl2, hx2⟩ := hv
        have hS : Sorted (keptA p cols target) ps := ⟨hperm, hsort⟩
        have hok : OkK p (cols.length + 1) (keptA p cols target) := hok
        have hl2 : xs2.length = (toldRows p (keptA p cols target) ps).length := hl2
        have hx2 : ∀ (i : Nat) (x : V), xs2[i]? = some x → ∃ r, (toldRows p (keptA p cols target) ps)[i]? = some r ∧ NS .tu T.frac.C G2 x r := hx2
        have hperm : ps.Perm ((keptA p cols target).map (·.1)) := hperm
        generalize hkept : keptA p cols target = kept at *
        have plen : ps.length = kept.length := by rw [hperm.length_eq, List.length_map]
        have l2 : xs2.length = ps.length := by
          rw [hl2]
          unfold toldRows
          rw [List.length_map]
        obtain ⟨_, n1, n60, _⟩ := id hpA
        have row : ∀ q ∈ ps, (q, rowAt kept q) ∈ kept := fun q hq => by
          obtain ⟨qh, h1, rfl⟩ := List.mem_map.mp (hperm.subset hq)
          rw [rowAt_mem h1 hok.1]
          exact h1
        have hrow : ∀ (i : Nat) (x : V), xs2[i]? = some x → ∃ q, ps[i]? = some q ∧ NS .tu T.frac.C G2 x (fin p (rowAt kept q) q) := fun i x hx => by
          obtain ⟨r, hr, hN⟩ := hx2 i x hx
          unfold toldRows at hr
          rw [List.getElem?_map] at hr
          cases e : ps[i]? with
          | none => rw [e] at hr; cases hr
          | some q =>
            rw [e] at hr
            cases hr
            exact ⟨q, rfl, hN⟩
        refine gName_ap ?_
        refine ⟨_, rfl, t2, rfl, ⟨_, SqL.g lw ht2⟩, fun D3 hD3 => ?_⟩
        refine lc_list (K := K) (pf := fun _ => none) (R := RI (ps.map fun (q : Nat) => (q : Int))) lw hD3 ht2 (by have := hok.2.1; omega) RI.mono (fun i x acc G3 H3 hx3 e3 lw Nx kk => ?_) (fun G3 H3 ys e3 lw h3 hl3 hy3 => ?_)
        · obtain ⟨q, hq, hN⟩ := hrow i x hx3
          have hq2 := row q (List.mem_of_getElem? hq)
          refine ⟨rfl, _, rfl, .tu, _, call_pure lw ⟨x, rfl, hN.ex e3⟩ fun G4 H4 v4 e4 lw hv4 => kk _ _ _ e4 lw ⟨(q : Int), ?_, ?_⟩⟩
          · rw [List.getElem?_map, hq]
            rfl
          · subst hv4
            rw [fin_first (hok.2.2 _ hq2).2.2 (hldA _ hq2)]
            rfl
        · have eys := vals_of (res := ps.map fun (q : Nat) => (q : Int)) (by rw [hl3, l2, List.length_map]) hy3
          rw [eys] at h3
          refine gName_ap ?_
          refine ⟨_, rfl, _, rfl, D3, _, rfl, .inl (SqL.g lw h3), rfl, flat_ints _, _, rfl, ite2 (fun h => ?_) (fun h => ?_)⟩
          · have hm : cols.length ∈ ps := by
              rw [if_neg (by decide), inV_int] at h
              obtain ⟨q, hq, e⟩ := List.mem_map.mp (of_decide_eq_true h)
              have e : (q : Int) = cols.length := e
              rw [show cols.length = q by omega]
              exact hq
            have e13 := e1.trans (e2.trans e3)
            refine ⟨_, rfl, _, rfl, _, rfl, p, cols, target, call_pure lw ⟨g, .ref tc, .ref t, rfl, hgr.ex e13, ⟨tc, cs, rfl, e13 _ _ htc, hcl, fun i x hx => ?_⟩, ⟨t, xs, rfl, e13 _ _ ht, hn.ex e13⟩, hbar ps hS hm⟩ fun G4 H4 v4 e4 lw hv4 => ?_⟩
            · obtain ⟨r, h1, h2⟩ := hcs i x hx
              exact ⟨r, h1, h2.ex e13⟩
            · obtain ⟨ps2, a, hS2, ha, hN⟩ := hv4
              refine ⟨Evl.sz_of (by show 2 ≤ 100000; decide), fun t6 n6 => ?_⟩
              obtain ⟨G5, e5, lw, h5⟩ := lw.allocE (o := .tup [.str "bar", v4]) n6
              exact k _ _ _ lw ⟨hpre, ps, by rw [hkept]; exact hS, .inl ⟨hm, ps2, a, hS2, ha, t6, v4, rfl, h5, hN.ex e5⟩⟩
          · have hm : ¬ cols.length ∈ ps := fun z => h (by
              rw [if_neg (by decide), inV_int]
              exact decide_eq_true (List.mem_map.mpr ⟨_, z, rfl⟩))
            refine ⟨_, rfl, (cols.length : Int), rfl, by omega, by omega, fun N hN => ?_⟩
            refine lc_rngM (n := cols.length) (pf := fun _ => none) (R := fun j _ y => y = .int 0) lw hN (by omega) (fun _ _ _ _ _ h => h) (fun j acc2 G5 H5 hj e5 lw Nx kk => ?_) (fun G5 H5 zs5 e5 lw hl5 hy5 => ?_)
            · exact ⟨rfl, kk _ _ _ (Ex.refl _) lw rfl⟩
            · have h35 := e5 _ _ h3
              have h25 := (e3.trans e5) _ _ ht2
              refine gName_ap ?_
              refine ⟨_, rfl, _, rfl, D3, t2, _, _, rfl, SqL.g lw h35, SqL.g lw h25, ?_⟩
              refine for_zip (c := .li) (d := .li) (xs := (ps.map fun (q : Nat) => (q : Int)).map V.int) (ys := xs2) (by rw [List.length_map, List.length_map, l2]) (fun i σ' H' => ∃ (z10 z11 : Option V) (ns : List V) (G' : Hp), σ' = [some (.ref g), some (.ref tc), some (.ref t), some (.int target.length), z4, some (.int cols.length), some (.ref D), some (.ref t2), some (.ref D3), some (.ref N), z10, z11, none, none] ∧ Lw H G none [(N, .lst ns)] G' H' ∧ Ex G5 G' ∧ Nms T.frac.C G' ns (solN p cols.length kept (ps.take i)))
                ⟨none, none, zs5, G5, rfl, lw, Ex.refl _, ?_⟩ (fun i σ' H' _ hp => ?_) (fun i x y tt σ' H' hx6 hy6 hp ntt => ?_) (fun σ' H' hp => ?_)
              · refine ⟨by rw [hl5]; exact List.length_replicate.symm, fun j x hx => ⟨0, ?_, ?_⟩⟩
                · have hj := (List.getElem?_eq_some_iff.mp hx).1
                  exact List.getElem?_replicate_of_lt (by omega)
                · rw [hy5 j x hx]
                  exact Nm.ofInt 0
              · obtain ⟨z10, z11, ns, G6, rfl, lw, e6, _⟩ := hp
                exact ⟨SqL.g lw (e6 _ _ h35), SqL.g lw (e6 _ _ h25)⟩
              · obtain ⟨z10, z11, ns, G6, rfl, lw, e6, hns⟩ := hp
                obtain ⟨m, hm, rfl⟩ := at_int hx6
                obtain ⟨q, hq, t7, xs7, rfl, ht7, hn7⟩ := hrow i y hy6
                have ht7 : G2 t7 = some (.tup xs7) := ht7
                rw [List.getElem?_map, hq] at hm
                cases hm
                obtain ⟨G7, e7, lw, h7⟩ := lw.allocE (o := .tup [.int (q : Int), .ref t7]) ntt
                have hq2 := List.mem_of_getElem? hq
                have hqok := hok.2.2 _ (row q hq2)
                have hqm : q < cols.length := by
                  have : q < cols.length + 1 := hqok.1
                  have : q ≠ cols.length := fun z => ‹¬ cols.length ∈ ps› (by rw [← z]; exact hq2)
                  omega
                have r1 : (rowAt kept q).length = cols.length + 1 := hqok.2.1.1
                obtain ⟨w, hw⟩ : ∃ w, xs7[cols.length]? = some w := ⟨_, List.getElem?_eq_getElem (by rw [hn7.1, fin_len, r1]; omega)⟩
                obtain ⟨b, hb, hB⟩ := hn7.2 _ w hw
                have e27 := e3.trans (e5.trans (e6.trans e7))
                refine ⟨tt, _, rfl, SqT.g lw h7, rfl, _, _, rfl, _, _, rfl, rfl, ?_⟩
                refine ⟨_, rfl, _, rfl, t7, xs7, (cols.length : Int), w, rfl, rfl, SqT.g lw (e27 _ _ ht7), atI_nat hw, _, rfl, _, rfl, N, ns, (q : Int), q, rfl, rfl, lw.at, Evl.ixN_nat ?_, ?_⟩
                · rw [hns.1]
                  unfold solN
                  have : ∀ (l : List Nat) (z : List Rat), (l.foldl (fun l q => l.set q ((fin p (rowAt kept q) q).getD cols.length 0)) z).length = z.length := fun l => by
                    induction l with
                    | nil => exact fun _ => rfl
                    | cons a l ih =>
                      intro z
                      rw [List.foldl_cons, ih, List.length_set]
                  rw [this, List.length_replicate]
                  exact hqm
                have hstep : solN p cols.length kept (ps.take (i + 1)) = (solN p cols.length kept (ps.take i)).set q ((fin p (rowAt kept q) q).getD cols.length 0) := by
                  unfold solN
                  rw [List.take_add_one, hq, List.foldl_append]
                  rfl
                refine ⟨_, _, _, G7, rfl, lw.put, e6.trans e7, ?_⟩
                rw [hstep]
                refine ⟨by rw [List.length_set, List.length_set]; exact hns.1, fun j x hx => ?_⟩
                rw [List.getElem?_set] at hx ⊢
                by_cases z : q = j
                · rw [if_pos z] at hx ⊢
                  split at hx
                  · cases hx
                    rename_i hlt
                    rw [hns.1] at hlt
                    rw [if_pos hlt]
                    refine ⟨_, rfl, ?_⟩
                    rw [List.getD_eq_getElem?_getD, hb]
                    exact hB.ex e27
                  · cases hx
                · rw [if_neg z] at hx ⊢
                  obtain ⟨b, h1, h2⟩ := hns.2 j x hx
                  exact ⟨b, h1, h2.ex e7⟩
              · obtain ⟨z10, z11, ns, G6, rfl, lw, e6, hns⟩ := hp
                rw [List.length_map, List.length_map, List.take_length] at hns
                refine ⟨_, rfl, N, ns, rfl, .inl ⟨SqL.of lw.at, fun l hl => ?_⟩⟩
                have lw := lw.drop
                obtain ⟨G7, e7, lw, h7⟩ := lw.allocE (o := .tup ns) hl
                refine ⟨Evl.sz_of (by show 2 ≤ 100000; decide), fun t6 n6 => ?_⟩
                obtain ⟨G8, e8, lw, h8⟩ := lw.allocE (o := .tup [.str "solution", .ref l]) n6
                exact k _ _ _ lw ⟨hpre, ps, by rw [hkept]; exact hS, .inr ⟨hm, t6, .ref l, rfl, h8, l, ns, rfl, e8 _ _ h7, by rw [hkept]; exact hns.ex (e7.trans e8)⟩⟩
end
end K06

namespace K06
open PySem PySem.Spec PyProof.Rows L2 UfG UfT UfR UfO UfI UfQ UfN UfW
open UfL (LP lowP plusP timesP gcdL primL clr invP ledO firstNz clrAll stepRow runRows Good OkU OkK Sml Oki)
open UfZ (Kd)
open Evl (Ex)
section
variable {P : Program} {w : World} {K : PySem.W.Frag} {mg : Str → Option Value} {base : Heap}
theorem ok_intH (T : Tx K mg) : UfH.FnE P w K mg base 1 T.int_.f T.int_.fd ["told"] (fun _ => sp_int) := by
  refine UfH.fun_okE T.int_.F sc_int_ (fun p vs H Q E h => ?_) (fun cdv A outer s H vs Q E p hot hr h => ?_)
  · obtain ⟨i, rfl, _⟩ := h
    rfl
  · obtain ⟨i, rfl, k⟩ := h
    refine ⟨_, (pss_one (ps_ret (pe_and (pe_callB (UfK.call_isiK' (K := K)) (by rfl) T.z_isinstance (by decide +kernel) (pa_cons (pv 0) (pa_cons (pe_bltn (by rfl) T.z_int (by decide +kernel) (show RelV (.ty "int") _ from rfl)) pa_nil))) (pe_one (pe_not (pe_callB (UfK.call_isiK' (K := K)) (by rfl) T.z_isinstance (by decide +kernel) (pa_cons (pv 0) (pa_cons (pe_bltn (by rfl) T.z_bool (by decide +kernel) (show RelV (.ty "bool") _ from rfl)) pa_nil)))))))), ?_⟩
    exact ⟨_, rfl, .int i, .ty "int", .type "int", .type "int", true, rfl, .ty _, .base (.int i), kit_ty rfl, _, rfl, iteT ⟨_, rfl, .int i, .ty "bool", .type "int", .type "bool", false, rfl, .ty _, .base (.int i), kit_ty rfl, _, rfl, k⟩⟩
/-! ### _law_ask -/
theorem sc_ask : FnScope ["p", "columns", "target", "told", "e"] ["p", "columns", "target"] (defScope s_ask) := ⟨rfl, rfl, rfl, by decide +kernel, rfl, by decide +kernel, by decide +kernel⟩
def isE (T : Tx K mg) (a : Addr) (d : Option Addr) (v : V) : TT := tB (tCB (UfH.rIsO K a T.cSizes.C d) (tCons (tVar 4) (tCons (tC v) tNil)))
def tSuite (T : Tx K mg) : Addr → Value → Option Addr → TS := fun a cls d D σ H => cls = .ref T.cSizes.C ∧
  tSeq (tIfS (tAnd (isE T a d (.ref T.cSizes.C)) (tAnd (isE T a d (.ty "ValueError")) (tNot (isE T a d (.ref T.cCount.C)))))
    (tIfS (tAnd (tB (UfH.tCallE sp_int (tCons (UfH.tFldO a d "given" (tVar 4)) tNil))) (tB (UfH.tCallE sp_int (tCons (UfH.tFldO a d "wanted" (tVar 4)) tNil))))
      (tRet (tTup (tCons (tC (.str "BadSizes")) (tCons (UfH.tFldO a d "given" (tVar 4)) (tCons (UfH.tFldO a d "wanted" (tVar 4)) tNil))))) tNext) tNext)
    (tRet (tTup (tCons (tC (.str "other")) (tCons (tC (.str "")) tNil)))) D σ H
def sp_ask (T : Tx K mg) : Sp := fun vs H Q E => ∃ (p : Int) (cols : Mat) (target : List Rat), PureSp (fun vs G => ∃ x y, vs = [.int p, x, y] ∧ fitP p = true ∧ RL T.frac.C G x cols ∧ NS .li T.frac.C G y target ∧ cols.length ≤ 1000 ∧ target.length ≤ 1000 ∧ ((∀ c ∈ cols, c.length = target.length) → SolOk p cols target))
  (fun _ _ G' v => ((∀ c ∈ cols, c.length = target.length) ∧ ∃ t u, v = .ref t ∧ G' t = some (.tup [.str "told", u]) ∧ Told p cols target T.frac.C G' u) ∨ ∃ a c b, cols = a ++ c :: b ∧ (∀ x ∈ a, x.length = target.length) ∧ c.length ≠ target.length ∧ Rp G' v (.tuple [.str "BadSizes", .int c.length, .int target.length])) vs H Q E
theorem ok_ask (T : Tx K mg) : FnOk P w K mg base CX0 17 T.ask.f T.ask.fd ["p", "columns", "target"] (sp_ask T) := by
  refine T.ask.F.ok sc_ask (fun vs H Q E h => ?_) (fun cdv A outer s H vs Q E hr h => ?_)
  · obtain ⟨p, cols, target, G, _, ⟨x, y, rfl, _⟩, _⟩ := h
    rfl
  · obtain ⟨p, cols, target, G, lw, ⟨x, y, rfl, fit, hc, ht, few, few2, hsol⟩, k⟩ := h
    refine ⟨_, (pss_cons (L2N.ps_try_as (i := 4) (ts := tSuite T) (Wout := fun _ _ _ _ => False) rfl rfl sc_ask.nd rfl rfl ⟨rfl, by decide, .inl T.cForms.g⟩ takesN0
    (fun W pn xe tk _ => (pss_one (ps_set (i := 3) sc_ask.nd rfl (.inl rfl) (pe_callS (ok_solved T) (hr.mono (by decide)) rfl T.solved.g T.solved.F.kp T.solved.b (fun σ => L2N.passAt tk σ) (pa_cons (UfR.pe_makeS T.groundMk (ok_g_init T) (hr.mono (by decide)) rfl T.ground.g T.g_init.b (fun σ => L2N.passAt tk σ) (pa_cons (pv 0) pa_nil)) (pa_cons (pv 1) (pa_cons (pv 2) pa_nil)))))))
    (fun a oe cls d pn hz hf => by refine pss_guardP fun hc => ?_; have xz : UfH.ExcO (a, oe) T.cSizes.C d := ⟨hc ▸ hz.zc, hf⟩; have xk := T.cSizes.kn; have xp : (a, oe) ∈ (a, oe) :: pn := List.mem_cons_self; have no_given := T.fld _ (List.mem_singleton_self _) "given" (by simp); have no_wanted := T.fld _ (List.mem_singleton_self _) "wanted" (by simp); exact (pss_cons (ps_if (PW.pt (pw_and (pt_val (pe_callB (UfH.call_isO xk xz xp) (by rfl) T.z_isinstance (by decide +kernel) (pa_cons (pv 4) (pa_cons (pe_glob (v := .ref T.cSizes.C) rfl T.cSizes.g rfl) pa_nil)))) (pw_and (pt_val (pe_callB (UfH.call_isO xk xz xp) (by rfl) T.z_isinstance (by decide +kernel) (pa_cons (pv 4) (pa_cons (pe_bltn (by rfl) T.z_ValueError (by decide +kernel) (show RelV (.ty "ValueError") _ from rfl)) pa_nil)))) (pw_and1 (pt_not (pt_val (pe_callB (UfH.call_isO xk xz xp) (by rfl) T.z_isinstance (by decide +kernel) (pa_cons (pv 4) (pa_cons (pe_glob (v := .ref T.cCount.C) rfl T.cCount.g rfl) pa_nil))))))))) (pss_one (ps_if (PW.pt (pw_and (pt_val (UfH.pe_callEI (ok_intH T) ((L2H.roomH_mark hr _).mono (by decide)) (a, oe) (UfT.hotOf hz hf) List.mem_cons_self (fun _ _ _ _ h => h) rfl T.int_.g T.int_.F.kp T.int_.b (pa_cons (UfH.pe_fldO xk xz xp no_given (pv 4)) pa_nil))) (pw_and1 (pt_val (UfH.pe_callEI (ok_intH T) ((L2H.roomH_mark hr _).mono (by decide)) (a, oe) (UfT.hotOf hz hf) List.mem_cons_self (fun _ _ _ _ h => h) rfl T.int_.g T.int_.F.kp T.int_.b (pa_cons (UfH.pe_fldO xk xz xp no_wanted (pv 4)) pa_nil)))))) (pss_one (ps_ret (pe_tup (pa_cons pe_str (pa_cons (UfH.pe_fldO xk xz xp no_given (pv 4)) (pa_cons (UfH.pe_fldO xk xz xp no_wanted (pv 4)) pa_nil)))))) pss_nil)) pss_nil)
      (pss_one (ps_ret (pe_tup (pa_cons pe_str (pa_cons pe_str pa_nil))))))))
      (pss_one (ps_ret (pe_tup (pa_cons pe_str (pa_cons (pv 3) pa_nil)))))), ?_⟩
    refine ⟨_, rfl, fun xg dxg hxg hdg neg => ⟨p, call_makeR lw hxg hdg neg rfl (fun G1 H1 e1 lw hg => ⟨rfl, ?_⟩) (fun G1 H1 C d e1 lw hx => ?_)⟩⟩
    · obtain ⟨tc, cs, rfl, htc, hcl, hcs⟩ := hc.ex e1
      refine ⟨_, rfl, _, rfl, p, cols, target, call_raiseN lw ⟨xg, _, y, rfl, hg.2, ⟨tc, cs, rfl, htc, hcl, hcs⟩, ht.ex e1, few, few2, hsol⟩ (fun G2 H2 v e2 lw hv => ?_) (fun G2 H2 C d e2 lw hx => ?_)⟩
      · refine ⟨_, rfl, Evl.sz_of (by show 2 ≤ 100000; decide), fun t n => ?_⟩
        obtain ⟨ps, hS, hv2⟩ := hv.2
        obtain ⟨G3, e3, lw, h3⟩ := lw.allocE (o := .tup [.str "told", v]) n
        refine k _ _ _ lw (.inl ⟨hv.1, t, v, rfl, h3, ps, hS, ?_⟩)
        rcases hv2 with ⟨h1, ps2, a, h2, h4, t5, u5, rfl, h5, h6⟩ | ⟨h1, t5, u5, rfl, h5, h6⟩
        · exact .inl ⟨h1, ps2, a, h2, h4, t5, u5, rfl, e3 _ _ h5, h6.ex e3⟩
        · exact .inr ⟨h1, t5, u5, rfl, e3 _ _ h5, h6.ex e3⟩
      · obtain ⟨a, c, b, hc, hpre, hne, hE, q, rfl, hq⟩ := hx
        subst hE
        refine ⟨true, T.exm _ (List.mem_singleton_self _), fun _ ae _ => ⟨rfl, ?_⟩, fun z => nomatch z⟩
        have D0 : UfH.DOk H2 (some q) := fun b hb => ⟨_, (Option.some.inj hb) ▸ lw.gh _ _ hq⟩
        refine ⟨_, rfl, .ref T.cSizes.C, _, true, rfl, fun _ h => h, D0, T.kSizes.k0, true, rfl, iteT ?_⟩
        refine ⟨_, rfl, .ty "ValueError", _, true, rfl, fun _ h => h, D0, T.kSizes.tl.k0, true, rfl, iteT ?_⟩
        refine ⟨_, rfl, .ref T.cCount.C, _, false, rfl, fun _ h => h, D0, T.kSizes.tl.tl.k0, false, rfl, iteT ?_⟩
        refine ⟨_, rfl, rfl, q, _, .int c.length, rfl, lw.gh _ _ hq, rfl, _, rfl, true, rfl, iteT ?_⟩
        refine ⟨_, rfl, rfl, q, _, .int target.length, rfl, lw.gh _ _ hq, rfl, _, rfl, true, rfl, iteT ?_⟩
        refine ⟨_, rfl, rfl, q, _, .int c.length, rfl, lw.gh _ _ hq, rfl, _, rfl, rfl, q, _, .int target.length, rfl, lw.gh _ _ hq, rfl, Evl.sz_of (by show 3 ≤ 100000; decide), fun t n => ?_⟩
        obtain ⟨G3, e3, lw, h3⟩ := lw.allocE (o := .tup [.str "BadSizes", .int c.length, .int target.length]) n
        exact k _ _ _ lw (.inr ⟨a, c, b, hc, hpre, hne, .tup h3 (.cons (.str _) (.cons (.int _) (.cons (.int _) .nil)))⟩)
    · rw [fit] at hx
      exact absurd hx.1 (by decide)
end
end K06

namespace K06
open PySem PySem.Spec PyProof.Rows L2 UfG UfT UfR UfO UfI UfQ UfN UfW
open UfL (LP lowP plusP timesP gcdL primL clr invP ledO firstNz clrAll stepRow runRows Good OkU OkK Sml Oki lessP lessAll firstP leadP leadsP withinP dotFrom dotP at0)
open UfZ (Kd)
open Evl (Ex)
/-! ### rows of the law -/
def RP (G : Hp) (v : V) (u : List LP) : Prop := ∃ t xs, v = .ref t ∧ G t = some (.lst xs) ∧ xs.length = u.length ∧ ∀ (i : Nat) (x : V), xs[i]? = some x → ∃ a, u[i]? = some a ∧ TP G x a
theorem RP.ex {G G' : Hp} {v : V} {u : List LP} (e : Ex G G') (h : RP G v u) : RP G' v u := by
  obtain ⟨t, xs, e1, h1, h2, h3⟩ := h
  exact ⟨t, xs, e1, e _ _ h1, h2, fun i x hx => by
    obtain ⟨a, h4, h5⟩ := h3 i x hx
    exact ⟨a, h4, h5.ex e⟩⟩
theorem RP.at {G : Hp} {u : List LP} {xs : List V} {i : Nat} (hl : xs.length = u.length) (h : ∀ (i : Nat) (x : V), xs[i]? = some x → ∃ a, u[i]? = some a ∧ TP G x a) (hi : i < u.length) : ∃ x t, xs[i]? = some x ∧ x = .ref t ∧ G t = some (.tup [.int (at0 u i).1, .int (at0 u i).2]) ∧ TP G x (at0 u i) := by
  have e := List.getElem?_eq_getElem (l := xs) (i := i) (by omega)
  obtain ⟨a, ha, hA⟩ := h i _ e
  have ea : at0 u i = a := by
    unfold at0
    rw [List.getD_eq_getElem?_getD, ha]
    rfl
  rw [ea]
  obtain ⟨t, e1, h1⟩ := id hA
  exact ⟨_, t, e, e1, h1, hA⟩
def Gok (p : Int) : Prop := p = 0 ∨ 2 ≤ p ∧ p < 1000
/-- a number of the law of at most b bits, in range -/
def Bb (b : Nat) (p : Int) (x : LP) : Prop := (p = 0 → x.1.natAbs < 2 ^ b ∧ x.2.natAbs < 2 ^ b ∧ x.2 ≠ 0) ∧ (p ≠ 0 → x.2 = 1 ∧ 0 ≤ x.1 ∧ x.1 < p)
theorem Bb.up {b b' : Nat} {p : Int} {x : LP} (h : Bb b p x) (hb : b ≤ b') : Bb b' p x := ⟨fun z => by
  obtain ⟨h1, h2, h3⟩ := h.1 z
  have := Nat.pow_le_pow_right (show 0 < 2 by decide) hb
  exact ⟨by omega, by omega, h3⟩, h.2⟩
theorem Bb.two {p : Int} {x y : LP} (g : Gok p) (hx : Bb 4000 p x) (hy : Bb 4000 p y) : Two p x y := by
  by_cases p0 : p = 0
  · obtain ⟨a1, a2, a3⟩ := hx.1 p0
    obtain ⟨b1, b2, b3⟩ := hy.1 p0
    exact .inl ⟨p0, a3, b3, ⟨a1, a2⟩, ⟨b1, b2⟩⟩
  · obtain ⟨a1, a2, a3⟩ := hx.2 p0
    obtain ⟨b1, b2, b3⟩ := hy.2 p0
    have z : (1000 : Nat) < 2 ^ 900 := by decide +kernel
    rcases g with g | ⟨g1, g2⟩
    · exact (p0 g).elim
    · exact .inr ⟨g1, g2, ⟨by omega, by rw [a1]; omega⟩, ⟨by omega, by rw [b1]; omega⟩⟩
theorem low_bb {p : Int} (g : Gok p) {n d : Int} {b : Nat} (h : p = 0 → n.natAbs < 2 ^ b ∧ d.natAbs < 2 ^ b ∧ d ≠ 0) : Bb b p (lowP p n d) := by
  unfold lowP
  refine ⟨fun z => ?_, fun z => ?_⟩
  · rw [if_pos z]
    obtain ⟨h1, h2, h3⟩ := h z
    obtain ⟨f1, f2⟩ := fr_sm h3 h1 h2
    have := (Rat.divInt n d).den_nz
    exact ⟨f1, by rw [Int.natAbs_natCast]; exact f2, by show ((Rat.divInt n d).den : Int) ≠ 0; omega⟩
  · rw [if_neg z]
    have : 0 < p := by unfold Gok at g; omega
    exact ⟨rfl, Int.fmod_nonneg_of_pos _ this, Int.fmod_lt_of_pos _ this⟩
theorem times_bb {p : Int} (g : Gok p) {x y : LP} {a b : Nat} (hx : Bb a p x) (hy : Bb b p y) : Bb (a + b) p (timesP p x y) := by
  unfold timesP
  refine low_bb g fun z => ?_
  obtain ⟨a1, a2, a3⟩ := hx.1 z
  obtain ⟨b1, b2, b3⟩ := hy.1 z
  exact ⟨by rw [Int.natAbs_mul, Nat.pow_add]; exact Nat.mul_lt_mul'' a1 b1, by rw [Int.natAbs_mul, Nat.pow_add]; exact Nat.mul_lt_mul'' a2 b2, Int.mul_ne_zero a3 b3⟩
theorem plus_bb {p : Int} (g : Gok p) {x y : LP} {a b : Nat} (hx : Bb a p x) (hy : Bb b p y) : Bb (a + b + 1) p (plusP p x y) := by
  unfold plusP
  refine low_bb g fun z => ?_
  obtain ⟨a1, a2, a3⟩ := hx.1 z
  obtain ⟨b1, b2, b3⟩ := hy.1 z
  have m1 := Nat.mul_lt_mul'' a1 b2
  have m2 := Nat.mul_lt_mul'' b1 a2
  have m3 := Nat.mul_lt_mul'' a2 b2
  rw [Nat.mul_comm (2 ^ b) (2 ^ a)] at m2
  have t := Int.natAbs_add_le (x.1 * y.2) (y.1 * x.2)
  rw [Int.natAbs_mul, Int.natAbs_mul] at t
  have e : 2 ^ (a + b + 1) = 2 ^ a * 2 ^ b * 2 := by rw [Nat.pow_succ, Nat.pow_add]
  rw [e]
  exact ⟨by omega, by rw [Int.natAbs_mul]; omega, Int.mul_ne_zero a3 b3⟩
theorem zero_bb {p : Int} (g : Gok p) {b : Nat} (hb : 0 < b) : Bb b p (0, 1) := ⟨fun _ => ⟨Nat.two_pow_pos b, Nat.one_lt_two_pow (by omega), by decide⟩, fun z => ⟨rfl, Int.le_refl _, by unfold Gok at g; show 0 < p; omega⟩⟩
theorem at0_bb {b : Nat} {p : Int} (g : Gok p) (hb : 0 < b) {u : List LP} (h : ∀ x ∈ u, Bb b p x) (j : Nat) : Bb b p (at0 u j) := by
  unfold at0
  rw [List.getD_eq_getElem?_getD]
  cases e : u[j]? with
  | none => exact zero_bb g hb
  | some x => exact h x (List.mem_of_getElem? e)
/-- the j-th of the told pairs -/
def RJ (res : List LP) : Nat → Hp → V → Prop := fun j G y => ∃ a, res[j]? = some a ∧ TP G y a
theorem RJ.mono {res : List LP} : ∀ i (G G' : Hp) y, Ex G G' → RJ res i G y → RJ res i G' y := fun _ _ _ _ e h => by
  obtain ⟨a, h1, h2⟩ := h
  exact ⟨a, h1, h2.ex e⟩
theorem range_at {f : Nat → LP} {n i : Nat} (h : i < n) : ((List.range n).map f)[i]? = some (f i) := by
  rw [List.getElem?_map, List.getElem?_range h]
  rfl
theorem i0 {x y : V} : atI [x, y] 0 = some x := rfl
theorem i1 {x y : V} : atI [x, y] 1 = some y := rfl
section
variable {P : Program} {w : World} {K : PySem.W.Frag} {mg : Str → Option Value} {base : Heap}
/-- calls of the law's plain functions -/
theorem call_low {H0 G0 G H : Hp} {pl : Option (Addr × Addr × Nat)} {ls : List (Addr × HO)} {Q : VK} {p n d : Int} (lw : Lw H0 G0 pl ls G H) (g : Gok p) (h : p = 0 → n.natAbs < 2 ^ 8900 ∧ d.natAbs < 2 ^ 8900 ∧ d ≠ 0) (h2 : p ≠ 0 → n.natAbs < 2 ^ 2000 ∧ d.natAbs < 2 ^ 2000)
    (k : ∀ G' H' t, Ex G G' → Lw H0 G0 pl ls G' H' → G' t = some (.tup [.int (lowP p n d).1, .int (lowP p n d).2]) → Q (.ref t) H') : sp_low [.int p, .int n, .int d] H Q E0 := by
  refine ⟨p, n, d, call_pure lw ⟨rfl, ?_⟩ fun G' H' v e lw hv => ?_⟩
  · by_cases p0 : p = 0
    · obtain ⟨h1, h2, h3⟩ := h p0
      exact .inl ⟨p0, h3, h1, h2⟩
    · obtain ⟨h1, h2⟩ := h2 p0
      rcases g with g | ⟨g1, g2⟩
      · exact (p0 g).elim
      · exact .inr ⟨g1, g2, h1, h2⟩
  · obtain ⟨t, rfl, ht⟩ := hv
    exact k _ _ _ e lw ht
theorem call_plus {H0 G0 G H : Hp} {pl : Option (Addr × Addr × Nat)} {ls : List (Addr × HO)} {Q : VK} {p : Int} {x y : V} {a b : LP} (lw : Lw H0 G0 pl ls G H) (g : Gok p) (hx : TP G x a) (hy : TP G y b) (ha : Bb 4000 p a) (hb : Bb 4000 p b)
    (k : ∀ G' H' v, Ex G G' → Lw H0 G0 pl ls G' H' → TP G' v (plusP p a b) → Q v H') : sp_plus [.int p, x, y] H Q E0 := ⟨p, a, b, call_pure lw ⟨x, y, rfl, hx, hy, ha.two g hb⟩ k⟩
theorem call_times {H0 G0 G H : Hp} {pl : Option (Addr × Addr × Nat)} {ls : List (Addr × HO)} {Q : VK} {p : Int} {x y : V} {a b : LP} (lw : Lw H0 G0 pl ls G H) (g : Gok p) (hx : TP G x a) (hy : TP G y b) (ha : Bb 4000 p a) (hb : Bb 4000 p b)
    (k : ∀ G' H' v, Ex G G' → Lw H0 G0 pl ls G' H' → TP G' v (timesP p a b) → Q v H') : sp_times [.int p, x, y] H Q E0 := ⟨p, a, b, call_pure lw ⟨x, y, rfl, hx, hy, ha.two g hb⟩ k⟩
/-! ### _law_less -/
theorem sc_less : FnScope ["p", "row", "lead", "column", "share", "k"] ["p", "row", "lead", "column"] (defScope s_less) := ⟨rfl, rfl, rfl, by decide +kernel, rfl, by decide +kernel, by decide +kernel⟩
def sp_less : Sp := fun vs H Q E => ∃ (p : Int) (u l : List LP) (q : Nat), PureSp (fun vs G => ∃ x y, vs = [.int p, x, y, .int q] ∧ Gok p ∧ RP G x u ∧ RP G y l ∧ u.length = l.length ∧ q < u.length ∧ u.length ≤ 1000 ∧ (∀ x ∈ u, Bb 1980 p x) ∧ (∀ x ∈ l, Bb 1980 p x)) (fun _ _ G' v => RP G' v (lessP p u l q)) vs H Q E
theorem ok_less (T : Tx K mg) : FnOk P w K mg base CX0 4 T.less.f T.less.fd ["p", "row", "lead", "column"] sp_less := by
  refine T.less.F.ok sc_less (fun vs H Q E h => ?_) (fun cdv A outer s H vs Q E hr h => ?_)
  · obtain ⟨p, u, l, q, G, _, ⟨x, y, rfl, _⟩, _⟩ := h
    rfl
  · obtain ⟨p, u, l, q, G, lw, ⟨x, y, rfl, g, hu, hl, hlen, hq, few, bu, bl⟩, k⟩ := h
    refine ⟨_, (pss_cons (ps_set (i := 4) sc_less.nd rfl (.inr rfl) (pe_call (ok_low T) (hr.mono (by decide)) (by rfl) T.low.g T.low.F.kp T.low.b .nil pass0 (pa_cons (pv 0) (pa_cons (pe_un un_neg (pe_ix (UfK.ix_tupK (K := K)) (pe_ix (UfK.ix_listK (K := K)) (pv 1) (pv 3) (fun _ _ => rfl)) pe_int (fun _ _ => rfl))) (pa_cons (pe_ix (UfK.ix_tupK (K := K)) (pe_ix (UfK.ix_listK (K := K)) (pv 1) (pv 3) (fun _ _ => rfl)) pe_int (fun _ _ => rfl)) pa_nil)))))
      (pss_cons (ps_if (pt_cmpR op_eq (pe_ix (UfK.ix_tupK (K := K)) (pv 4) pe_int (fun _ _ => rfl)) pe_int (nomark _)) (pss_one (ps_ret (pv 1))) pss_nil)
      (pss_one (ps_ret (pe_lc (own := [("k", 5)]) rfl sc_less.nd (pi_range1 rfl T.z_range (pa_cons (pe_callB (UfK.call_lenK (K := K)) (by rfl) T.z_len (by decide +kernel) (pa_cons (pv 1) pa_nil)) pa_nil)) (blkOk_by (own := [("k", 5)]) (N := ["p", "row", "lead", "column", "share", "k"]) (sc := defScope s_less) (by decide +kernel)) (fun _ _ _ _ _ => by exact pg_name (i := 5) sc_less.nd rfl (.inl rfl)) (fun _ _ _ _ _ => pts_nil) (fun _ _ _ _ _ => (pe_call (ok_plus T) (hr.mono (by decide)) (by rfl) T.plus.g T.plus.F.kp T.plus.b .nil pass0 (pa_cons (pv 0) (pa_cons (pe_ix (UfK.ix_listK (K := K)) (pv 1) (pv 5) (fun _ _ => rfl)) (pa_cons (pe_call (ok_times T) (hr.mono (by decide)) (by rfl) T.times.g T.times.F.kp T.times.b .nil pass0 (pa_cons (pv 0) (pa_cons (pv 4) (pa_cons (pe_ix (UfK.ix_listK (K := K)) (pv 2) (pv 5) (fun _ _ => rfl)) pa_nil)))) pa_nil)))))))))), ?_⟩
    obtain ⟨t, xs, rfl, ht, hxl, hx⟩ := id hu
    obtain ⟨t2, ys, rfl, ht2, hyl, hy⟩ := id hl
    obtain ⟨vq, tq, hvq, rfl, htq, hTq⟩ := RP.at hxl hx hq
    have hbq := at0_bb g (by decide) bu q
    refine ⟨_, rfl, _, rfl, _, rfl, t, xs, (q : Int), _, rfl, rfl, SqL.g lw ht, atI_nat hvq, tq, _, 0, _, rfl, rfl, SqT.g lw htq, i0, _, rfl, ?_⟩
    refine ⟨_, rfl, _, rfl, t, xs, (q : Int), _, rfl, rfl, SqL.g lw ht, atI_nat hvq, tq, _, 1, _, rfl, rfl, SqT.g lw htq, i1, ?_⟩
    refine call_low lw g (fun z => ?_) (fun z => ?_) fun G1 H1 ts e1 lw hts => ?_
    · obtain ⟨h1, h2, h3⟩ := hbq.1 z
      rw [Int.natAbs_neg]
      exact ⟨Nat.lt_trans h1 (by decide +kernel), Nat.lt_trans h2 (by decide +kernel), h3⟩
    · obtain ⟨h1, h2, h3⟩ := hbq.2 z
      have z2 : (1000 : Nat) < 2 ^ 2000 := by decide +kernel
      unfold Gok at g
      exact ⟨by omega, by rw [h1]; omega⟩
    obtain ⟨share, hshare⟩ : ∃ s, s = lowP p (-(at0 u q).1) (at0 u q).2 := ⟨_, rfl⟩
    rw [← hshare] at hts
    have hsb : Bb 1980 p share := by
      rw [hshare]
      refine low_bb g fun z => ?_
      obtain ⟨h1, h2, h3⟩ := hbq.1 z
      rw [Int.natAbs_neg]
      exact ⟨h1, h2, h3⟩
    refine gName_ap ?_
    refine ⟨_, rfl, ts, _, 0, _, rfl, rfl, SqT.g lw hts, i0, rfl, _, rfl, ite2 (fun h => ?_) (fun h => ?_)⟩
    · have h : share.1 = 0 := by simpa using h
      refine ⟨_, rfl, k _ _ _ lw ?_⟩
      unfold UfL.lessP
      rw [if_pos (by rw [← hshare]; exact h)]
      exact hu.ex e1
    · have h : ¬ share.1 = 0 := by simpa using h
      have ht1 := e1 _ _ ht
      have ht21 := e1 _ _ ht2
      have el : lessP p u l q = (List.range u.length).map fun k => plusP p (at0 u k) (timesP p share (at0 l k)) := by
        unfold UfL.lessP
        rw [if_neg (by rw [← hshare]; exact h), ← hshare]
      refine ⟨_, rfl, t, xs, rfl, .inl (SqL.g lw ht1), (xs.length : Int), rfl, by omega, by omega, fun D hD => ?_⟩
      refine lc_rng (n := xs.length) (pf := fun _ => none) (R := RJ (lessP p u l q)) lw hD (by omega) RJ.mono (fun i acc G3 H3 hi e3 lw Nx kk => ?_) (fun G3 H3 zs e3 lw h3 hl3 hy3 => ?_)
      · rw [Int.zero_add]
        obtain ⟨vi, ti, hvi, rfl, hti, hTi⟩ := RP.at hxl hx (i := i) (by omega)
        obtain ⟨wi, si, hwi, rfl, hsi, hSi⟩ := RP.at hyl hy (i := i) (by omega)
        have bi := at0_bb g (by decide) bu i
        have ci := at0_bb g (by decide) bl i
        refine ⟨rfl, _, rfl, _, rfl, _, rfl, t, xs, (i : Int), _, rfl, rfl, SqL.g lw (e3 _ _ ht1), atI_nat hvi, _, rfl, _, rfl, _, rfl, _, rfl, t2, ys, (i : Int), _, rfl, rfl, SqL.g lw (e3 _ _ ht21), atI_nat hwi, ?_⟩
        refine call_times lw g ⟨ts, rfl, e3 _ _ hts⟩ (hSi.ex (e1.trans e3)) (hsb.up (by decide)) (ci.up (by decide)) fun G4 H4 v4 e4 lw hv4 => ?_
        refine call_plus lw g (hTi.ex (e1.trans (e3.trans e4))) hv4 (bi.up (by decide)) ((times_bb g hsb ci).up (by decide)) fun G5 H5 v5 e5 lw hv5 => kk _ _ _ (e4.trans e5) lw ⟨_, ?_, hv5⟩
        rw [el, range_at (by omega)]
      · refine k _ _ _ lw ⟨D, zs, rfl, h3, ?_, hy3⟩
        rw [hl3, hxl, el, List.length_map, List.length_range]
/-! ### leads -/
/-- a known list of leads -/
def LD (G : Hp) (xs : List V) (ls : List (Nat × List LP)) : Prop := xs.length = ls.length ∧ ∀ (i : Nat) (x : V), xs[i]? = some x → ∃ ql t y, ls[i]? = some ql ∧ x = .ref t ∧ G t = some (.tup [.int (ql.1 : Nat), y]) ∧ RP G y ql.2
theorem LD.ex {G G' : Hp} {xs : List V} {ls : List (Nat × List LP)} (e : Ex G G') (h : LD G xs ls) : LD G' xs ls := ⟨h.1, fun i x hx => by
  obtain ⟨ql, t, y, h1, h2, h3, h4⟩ := h.2 i x hx
  exact ⟨ql, t, y, h1, h2, e _ _ h3, h4.ex e⟩⟩
/-- what the law's elimination may take: n numbers a row, of at most 1980 bits at each stage -/
def LessOk (p : Int) (n : Nat) (ls : List (Nat × List LP)) (u : List LP) : Prop := u.length = n ∧ (∀ i, i ≤ ls.length → (lessAll p (ls.take i) u).length = n ∧ ∀ x ∈ lessAll p (ls.take i) u, Bb 1980 p x) ∧ ∀ ql ∈ ls, ql.1 < n ∧ ql.2.length = n ∧ ∀ x ∈ ql.2, Bb 1980 p x
theorem lessAll_snoc (p : Int) (ls : List (Nat × List LP)) (ql : Nat × List LP) (u : List LP) : lessAll p (ls ++ [ql]) u = lessP p (lessAll p ls u) ql.2 ql.1 := by
  unfold UfL.lessAll
  rw [List.foldl_append]
  rfl
/-- the numbers that are not 0 -/
theorem sc_within : FnScope ["p", "leads", "target", "rest", "lead", "one"] ["p", "leads", "target"] (defScope s_within) := ⟨rfl, rfl, rfl, by decide +kernel, rfl, by decide +kernel, by decide +kernel⟩
def sp_within : Sp := fun vs H Q E => ∃ (p : Int) (n : Nat) (ls : List (Nat × List LP)) (u : List LP), PureSp (fun vs G => ∃ t xs y, vs = [.int p, .ref t, y] ∧ Gok p ∧ G t = some (.lst xs) ∧ LD G xs ls ∧ RP G y u ∧ n ≤ 1000 ∧ LessOk p n ls u) (fun _ _ G' v => v = .bl (withinP p ls u)) vs H Q E
theorem ok_within (T : Tx K mg) : FnOk P w K mg base CX0 5 T.within.f T.within.fd ["p", "leads", "target"] sp_within := by
  refine T.within.F.ok sc_within (fun vs H Q E h => ?_) (fun cdv A outer s H vs Q E hr h => ?_)
  · obtain ⟨p, n, ls, u, G, _, ⟨t, xs, y, rfl, _⟩, _⟩ := h
    rfl
  · obtain ⟨p, n, ls, u, G, lw, ⟨t, xs, y, rfl, g, ht, hLD, ⟨tu, us, rfl, htu, hul, hus⟩, few, hn, hst, hld⟩, k⟩ := h
    refine ⟨_, (pss_cons (ps_set (i := 3) sc_within.nd rfl (.inl rfl) (pe_callTy (UfK.call_list_ofK (K := K)) (by rfl) T.z_list (by decide +kernel) (pa_cons (pv 2) pa_nil)))
      (pss_cons (ps_for PassesOwn.never rfl (UfK.pi_listK (K := K) (pv 1)) (pg_name (i := 4) sc_within.nd rfl (.inl rfl)) (pss_one (ps_set (i := 3) sc_within.nd rfl (.inl rfl) (pe_call (ok_less T) (hr.mono (by decide)) (by rfl) T.less.g T.less.F.kp T.less.b .nil pass0 (pa_cons (pv 0) (pa_cons (pv 3) (pa_cons (pe_ix (UfK.ix_tupK (K := K)) (pv 4) pe_int (fun _ _ => rfl)) (pa_cons (pe_ix (UfK.ix_tupK (K := K)) (pv 4) pe_int (fun _ _ => rfl)) pa_nil))))))))
      (pss_one (ps_ret (pe_cmpR op_eq (pe_callB (UfK.call_lenK (K := K)) (by rfl) T.z_len (by decide +kernel) (pa_cons (pe_lc (own := [("one", 5)]) rfl sc_within.nd (UfK.pi_listK (K := K) (pv 3)) (blkOk_by (own := [("one", 5)]) (N := ["p", "leads", "target", "rest", "lead", "one"]) (sc := defScope s_within) (by decide +kernel)) (fun _ _ _ _ _ => by exact pg_name (i := 5) sc_within.nd rfl (.inl rfl)) (fun _ _ _ _ _ => (pts_one (pt_cmpR op_ne (pe_ix (UfK.ix_tupK (K := K)) (pv 5) pe_int (fun _ _ => rfl)) pe_int (nomark _)))) (fun _ _ _ _ _ => (pv 5))) pa_nil)) pe_int (nomark _)))))), ?_⟩
    refine ⟨_, rfl, tu, us, rfl, .inl (SqL.g lw htu), fun D hD => ?_⟩
    obtain ⟨G1, e1, lw, hD1⟩ := lw.allocE (o := .lst us) hD
    refine gName_ap ?_
    refine ⟨_, rfl, t, rfl, ⟨_, SqL.g lw (e1 _ _ ht)⟩, ?_⟩
    refine for_list (xs := xs) (fun i σ' H' => ∃ (z4 z5 : Option V) (v : V) (G' : Hp), σ' = [some (.int p), some (.ref t), some (.ref tu), some v, z4, z5] ∧ Lw H G none [] G' H' ∧ Ex G1 G' ∧ RP G' v (lessAll p (ls.take i) u))
      ⟨none, none, .ref D, G1, rfl, lw, Ex.refl _, D, us, rfl, hD1, hul, fun i x hx => ?_⟩ (fun i σ' H' _ hp => ?_) (fun i x σ' H' hx' hp => ?_) (fun σ' H' hp => ?_)
    · obtain ⟨a, h1, h2⟩ := hus i x hx
      exact ⟨a, h1, h2.ex e1⟩
    · obtain ⟨z4, z5, v, G2, rfl, lw, e2, _⟩ := hp
      exact SqL.g lw (e2 _ _ (e1 _ _ ht))
    · obtain ⟨z4, z5, v, G2, rfl, lw, e2, hv⟩ := hp
      obtain ⟨⟨q, l⟩, t3, y3, hql, rfl, ht3, hy3⟩ := (hLD.ex (e1.trans e2)).2 i x hx'
      have hil := (List.getElem?_eq_some_iff.mp hql).1
      obtain ⟨h1, h2⟩ := hst i (by omega)
      obtain ⟨h3, h4, h5⟩ := hld _ (List.mem_of_getElem? hql)
      have h4 : l.length = n := h4
      have h3 : q < n := h3
      refine gName_ap ?_
      refine ⟨_, rfl, _, rfl, _, rfl, t3, _, 1, _, rfl, rfl, SqT.g lw ht3, i1, _, rfl, t3, _, 0, _, rfl, rfl, SqT.g lw ht3, i0, p, lessAll p (ls.take i) u, l, q, call_pure lw ⟨v, y3, rfl, g, hv, hy3, by rw [h1, h4], by rw [h1]; exact h3, by rw [h1]; exact few, h2, h5⟩ fun G4 H4 v4 e4 lw hv4 => ?_⟩
      refine ⟨_, _, v4, G4, rfl, lw, e2.trans e4, ?_⟩
      rw [List.take_add_one, hql]
      have := lessAll_snoc p (ls.take i) (q, l) u
      rw [show (some (q, l)).toList = [(q, l)] from rfl, this]
      exact hv4
    · obtain ⟨z4, z5, v, G2, rfl, lw, e2, ⟨tv, vs, rfl, htv, hvl, hvs⟩⟩ := hp
      rw [hLD.1, List.take_length] at hvl hvs
      obtain ⟨rest, hrest⟩ : ∃ r, r = lessAll p ls u := ⟨_, rfl⟩
      rw [← hrest] at hvl hvs
      have hrl : rest.length = n := by
        have := (hst ls.length (Nat.le_refl _)).1
        rw [List.take_length, ← hrest] at this
        exact this
      refine ⟨_, rfl, tv, rfl, ⟨_, SqL.g lw htv⟩, fun D2 hD2 => ?_⟩
      refine it_list (xs := vs) (fun i H' => ∃ acc, Lw H G none [(D2, .lst acc)] G2 H' ∧ acc.length = ((rest.take i).filter fun x => x.1 != 0).length) ⟨[], lw.make hD2, rfl⟩ (fun i H' _ hp => ?_) (fun i x H' hx hp => ?_) (fun H' hp => ?_)
      · obtain ⟨acc, lw, _⟩ := hp
        exact SqL.g lw htv
      · obtain ⟨acc, lw, hacc⟩ := hp
        have hi : i < rest.length := by have := (List.getElem?_eq_some_iff.mp hx).1; omega
        obtain ⟨a, ha, t7, rfl, ht7⟩ := hvs i x hx
        have hft : ((rest.take (i + 1)).filter fun x => x.1 != 0) = ((rest.take i).filter fun x => x.1 != 0) ++ [a].filter fun x => x.1 != 0 := by
          rw [List.take_add_one, ha, List.filter_append]
          rfl
        have hle := List.length_filter_le (fun x : LP => x.1 != 0) (rest.take i)
        rw [List.length_take] at hle
        refine ⟨rfl, _, rfl, t7, _, 0, _, rfl, rfl, SqT.g lw ht7, i0, rfl, _, rfl, ite2 (fun h => ?_) (fun h => ?_)⟩
        · have h : ¬ a.1 = 0 := by simpa using h
          refine ⟨_, rfl, acc, lw.at, Evl.sz_lt (by omega), _, lw.put, ?_⟩
          rw [hft, List.length_append, List.length_append, hacc, List.filter_cons_of_pos (by simpa using h)]
          rfl
        · have h : a.1 = 0 := by simpa using h
          refine ⟨acc, lw, ?_⟩
          rw [hft, List.filter_cons_of_neg (by simpa using h), List.filter_nil, List.append_nil]
          exact hacc
      · obtain ⟨acc, lw, hacc⟩ := hp
        rw [hvl, List.take_length] at hacc
        refine ⟨D2, acc, rfl, .inl (SqL.of lw.at), rfl, k _ _ _ lw.drop ?_⟩
        show V.bl _ = V.bl _
        congr 1
        unfold UfL.withinP
        rw [← hrest]
        by_cases z : (rest.filter fun x => x.1 != 0) = []
        · rw [z] at hacc
          rw [hacc]
          have : rest.all (fun x => x.1 == 0) = true := by
            rw [List.all_eq_true]
            intro x hx
            rw [List.filter_eq_nil_iff] at z
            have := z x hx
            simpa using this
          rw [this]
          rfl
        · have h1 : acc.length ≠ 0 := fun y => z (List.eq_nil_of_length_eq_zero (by rw [← hacc, y]))
          have h2 : rest.all (fun x => x.1 == 0) = false := by
            cases e : rest.all (fun x => x.1 == 0) with
            | false => rfl
            | true =>
              rw [List.all_eq_true] at e
              exact (z (List.filter_eq_nil_iff.mpr fun x hx => by have := e x hx; simp at this; simp [this])).elim
          rw [h2]
          simp
          intro y
          rw [y] at h1
          exact h1 rfl
/-! ### _law_dot -/
/-- the partial sums are small -/
def DotOk (p : Int) : LP → List LP → List LP → Prop
  | t, a :: as, b :: bs => Bb 4000 p t ∧ Bb 1980 p a ∧ Bb 1980 p b ∧ DotOk p (plusP p t (timesP p a b)) as bs
  | t, _, _ => True
theorem sc_dot : FnScope ["p", "a", "b", "total", "k"] ["p", "a", "b"] (defScope s_dot) := ⟨rfl, rfl, rfl, by decide +kernel, rfl, by decide +kernel, by decide +kernel⟩
def sp_dot : Sp := fun vs H Q E => ∃ (p : Int) (a b : List LP), PureSp (fun vs G => ∃ x y, vs = [.int p, x, y] ∧ Gok p ∧ RP G x a ∧ RP G y b ∧ a.length = b.length ∧ a.length ≤ 1000 ∧ DotOk p (0, 1) a b) (fun _ _ G' v => TP G' v (dotP p a b)) vs H Q E
theorem ok_dot (T : Tx K mg) : FnOk P w K mg base CX0 4 T.dot.f T.dot.fd ["p", "a", "b"] sp_dot := by
  refine T.dot.F.ok sc_dot (fun vs H Q E h => ?_) (fun cdv A outer s H vs Q E hr h => ?_)
  · obtain ⟨p, a, b, G, _, ⟨x, y, rfl, _⟩, _⟩ := h
    rfl
  · obtain ⟨p, a, b, G, lw, ⟨x, y, rfl, g, ⟨t, xs, rfl, ht, hxl, hx⟩, ⟨t2, ys, rfl, ht2, hyl, hy⟩, hab, few, hok⟩, k⟩ := h
    refine ⟨_, (pss_cons (ps_set (i := 3) sc_dot.nd rfl (.inl rfl) (pe_tup (pa_cons pe_int (pa_cons pe_int pa_nil))))
      (pss_cons (ps_for PassesOwn.never rfl (pi_range1 rfl T.z_range (pa_cons (pe_callB (UfK.call_lenK (K := K)) (by rfl) T.z_len (by decide +kernel) (pa_cons (pv 1) pa_nil)) pa_nil)) (pg_name (i := 4) sc_dot.nd rfl (.inl rfl)) (pss_one (ps_set (i := 3) sc_dot.nd rfl (.inl rfl) (pe_call (ok_plus T) (hr.mono (by decide)) (by rfl) T.plus.g T.plus.F.kp T.plus.b .nil pass0 (pa_cons (pv 0) (pa_cons (pv 3) (pa_cons (pe_call (ok_times T) (hr.mono (by decide)) (by rfl) T.times.g T.times.F.kp T.times.b .nil pass0 (pa_cons (pv 0) (pa_cons (pe_ix (UfK.ix_listK (K := K)) (pv 1) (pv 4) (fun _ _ => rfl)) (pa_cons (pe_ix (UfK.ix_listK (K := K)) (pv 2) (pv 4) (fun _ _ => rfl)) pa_nil)))) pa_nil)))))))
      (pss_one (ps_ret (pv 3))))), ?_⟩
    refine ⟨Evl.sz_of (by show 2 ≤ 100000; decide), fun t3 n3 => ?_⟩
    obtain ⟨G1, e1, lw, h3⟩ := lw.allocE (o := .tup [.int 0, .int 1]) n3
    refine gName_ap ?_
    refine ⟨_, rfl, t, xs, rfl, .inl (SqL.g lw (e1 _ _ ht)), (xs.length : Int), rfl, by omega, by omega, ?_⟩
    refine for_range (lo := 0) (n := xs.length) (fun i σ' H' => ∃ (z4 : Option V) (v : V) (tot : LP) (G' : Hp), σ' = [some (.int p), some (.ref t), some (.ref t2), some v, z4] ∧ Lw H G none [] G' H' ∧ Ex G1 G' ∧ TP G' v tot ∧ dotFrom p tot (a.drop i) (b.drop i) = dotP p a b ∧ DotOk p tot (a.drop i) (b.drop i))
      ⟨none, .ref t3, (0, 1), G1, rfl, lw, Ex.refl _, ⟨t3, rfl, h3⟩, rfl, hok⟩ (fun i σ' H' hi hp => ?_) (fun σ' H' hp => ?_)
    · obtain ⟨z4, v, tot, G2, rfl, lw, e2, hv, hd, hk⟩ := hp
      rw [Int.zero_add]
      refine gName_ap ?_
      obtain ⟨vi, ti, hvi, rfl, hti, hTi⟩ := RP.at hxl hx (i := i) (by omega)
      obtain ⟨wi, si, hwi, rfl, hsi, hSi⟩ := RP.at hyl hy (i := i) (by omega)
      have da : a.drop i = at0 a i :: a.drop (i + 1) := by
        rw [List.drop_eq_getElem_cons (by omega)]
        congr 1
        unfold at0
        rw [List.getD_eq_getElem?_getD, List.getElem?_eq_getElem (by omega)]
        rfl
      have db : b.drop i = at0 b i :: b.drop (i + 1) := by
        rw [List.drop_eq_getElem_cons (by omega)]
        congr 1
        unfold at0
        rw [List.getD_eq_getElem?_getD, List.getElem?_eq_getElem (by omega)]
        rfl
      rw [da, db] at hd hk
      obtain ⟨k1, k2, k3, k4⟩ := hk
      have e12 := e1.trans e2
      refine ⟨_, rfl, _, rfl, _, rfl, _, rfl, _, rfl, t, xs, (i : Int), _, rfl, rfl, SqL.g lw (e12 _ _ ht), atI_nat hvi, _, rfl, _, rfl, t2, ys, (i : Int), _, rfl, rfl, SqL.g lw (e12 _ _ ht2), atI_nat hwi, ?_⟩
      refine call_times lw g (hTi.ex e12) (hSi.ex e12) (k2.up (by decide)) (k3.up (by decide)) fun G4 H4 v4 e4 lw hv4 => ?_
      refine call_plus lw g (hv.ex e4) hv4 k1 ((times_bb g k2 k3).up (by decide)) fun G5 H5 v5 e5 lw hv5 => ?_
      exact ⟨_, v5, _, G5, rfl, lw, e2.trans (e4.trans e5), hv5, hd, k4⟩
    · obtain ⟨z4, v, tot, G2, rfl, lw, e2, hv, hd, hk⟩ := hp
      refine ⟨_, rfl, k _ _ _ lw ?_⟩
      rw [hxl, List.drop_length, hab, List.drop_length] at hd
      have hd : tot = dotP p a b := hd
      rw [← hd]
      exact hv
/-! ### _law_leads -/
/-- all stages of the law's elimination are small -/
def LeadsOk (p : Int) (n : Nat) : List (List LP) → List (Nat × List LP) → Prop
  | [], _ => True
  | u :: us, ls => LessOk p n ls u ∧ LeadsOk p n us (leadP p ls u)
theorem sc_leads : FnScope ["p", "rows", "leads", "row", "rest", "lead", "places", "turned", "k", "one"] ["p", "rows"] (defScope s_leads) := ⟨rfl, rfl, rfl, by decide +kernel, rfl, by decide +kernel, by decide +kernel⟩
/-- a known list of rows -/
def RR (G : Hp) (xs : List V) (us : List (List LP)) : Prop := xs.length = us.length ∧ ∀ (i : Nat) (x : V), xs[i]? = some x → ∃ u, us[i]? = some u ∧ RP G x u
theorem RR.ex {G G' : Hp} {xs : List V} {us : List (List LP)} (e : Ex G G') (h : RR G xs us) : RR G' xs us := ⟨h.1, fun i x hx => by
  obtain ⟨u, h1, h2⟩ := h.2 i x hx
  exact ⟨u, h1, h2.ex e⟩⟩
def sp_leads : Sp := fun vs H Q E => ∃ (p : Int) (n : Nat) (us : List (List LP)), PureSp (fun vs G => ∃ t xs, vs = [.int p, .ref t] ∧ Gok p ∧ G t = some (.lst xs) ∧ RR G xs us ∧ n ≤ 1000 ∧ us.length ≤ 1000 ∧ LeadsOk p n us []) (fun _ _ G' v => ∃ t xs, v = .ref t ∧ G' t = some (.lst xs) ∧ LD G' xs (leadsP p us)) vs H Q E
theorem ok_leads (T : Tx K mg) : FnOk P w K mg base CX0 5 T.leads.f T.leads.fd ["p", "rows"] sp_leads := by
  refine T.leads.F.ok sc_leads (fun vs H Q E h => ?_) (fun cdv A outer s H vs Q E hr h => ?_)
  · obtain ⟨p, n, us, G, _, ⟨t, xs, rfl, _⟩, _⟩ := h
    rfl
  · obtain ⟨p, n, us, G, lw, ⟨t, xs, rfl, g, ht, hRR, few, few2, hok⟩, k⟩ := h
    refine ⟨_, (pss_cons (ps_set (i := 2) sc_leads.nd rfl (.inl rfl) (pe_lst pa_nil))
      (pss_cons (ps_for PassesOwn.never rfl (UfK.pi_listK (K := K) (pv 1)) (pg_name (i := 3) sc_leads.nd rfl (.inl rfl)) (pss_cons (ps_set (i := 4) sc_leads.nd rfl (.inr rfl) (pe_callTy (UfK.call_list_ofK (K := K)) (by rfl) T.z_list (by decide +kernel) (pa_cons (pv 3) pa_nil)))
      (pss_cons (ps_for PassesOwn.never rfl (UfK.pi_listK (K := K) (pv 2)) (pg_name (i := 5) sc_leads.nd rfl (.inl rfl)) (pss_one (ps_set (i := 4) sc_leads.nd rfl (.inr rfl) (pe_call (ok_less T) (hr.mono (by decide)) (by rfl) T.less.g T.less.F.kp T.less.b .nil pass0 (pa_cons (pv 0) (pa_cons (pv 4) (pa_cons (pe_ix (UfK.ix_tupK (K := K)) (pv 5) pe_int (fun _ _ => rfl)) (pa_cons (pe_ix (UfK.ix_tupK (K := K)) (pv 5) pe_int (fun _ _ => rfl)) pa_nil))))))))
      (pss_cons (ps_setLc (i := 6) (own := [("k", 8)]) rfl sc_leads.nd rfl rfl (sw_true rfl rfl rfl (by decide +kernel)) (pi_range1 rfl T.z_range (pa_cons (pe_callB (UfK.call_lenK (K := K)) (by rfl) T.z_len (by decide +kernel) (pa_cons (pv 4) pa_nil)) pa_nil)) (blkOk_by (own := [("k", 8)]) (N := ["p", "rows", "leads", "row", "rest", "lead", "places", "turned", "k", "one"]) (sc := defScope s_leads) (by decide +kernel)) (fun _ _ _ _ _ => by exact pg_name (i := 8) sc_leads.nd rfl (.inl rfl)) (fun _ _ _ _ _ => (pts_one (pt_cmpR op_ne (pe_ix (UfK.ix_tupK (K := K)) (pe_ix (UfK.ix_listK (K := K)) (pv 4) (pv 8) (fun _ _ => rfl)) pe_int (fun _ _ => rfl)) pe_int (nomark _)))) (fun _ _ _ _ _ => (pv 8)))
      (pss_one (ps_if (pt_cmpR op_gt (pe_callB (UfK.call_lenK (K := K)) (by rfl) T.z_len (by decide +kernel) (pa_cons (pv 6) pa_nil)) pe_int (nomark _)) (pss_cons (ps_set (i := 7) sc_leads.nd rfl (.inr rfl) (pe_call (ok_low T) (hr.mono (by decide)) (by rfl) T.low.g T.low.F.kp T.low.b .nil pass0 (pa_cons (pv 0) (pa_cons (pe_ix (UfK.ix_tupK (K := K)) (pe_ix (UfK.ix_listK (K := K)) (pv 4) (pe_ix (UfK.ix_listK (K := K)) (pv 6) pe_int (fun _ _ => rfl)) (fun _ _ => rfl)) pe_int (fun _ _ => rfl)) (pa_cons (pe_ix (UfK.ix_tupK (K := K)) (pe_ix (UfK.ix_listK (K := K)) (pv 4) (pe_ix (UfK.ix_listK (K := K)) (pv 6) pe_int (fun _ _ => rfl)) (fun _ _ => rfl)) pe_int (fun _ _ => rfl)) pa_nil)))))
      (pss_one (ps_expr (pe_bm PySem.F.plainAttrs_list PySem.F.slot_list_append PySem.F.type_list_append mt_append (pv 2) (pa_cons (pe_tup (pa_cons (pe_ix (UfK.ix_listK (K := K)) (pv 6) pe_int (fun _ _ => rfl)) (pa_cons (pe_lc (own := [("one", 9)]) rfl sc_leads.nd (UfK.pi_listK (K := K) (pv 4)) (blkOk_by (own := [("one", 9)]) (N := ["p", "rows", "leads", "row", "rest", "lead", "places", "turned", "k", "one"]) (sc := defScope s_leads) (by decide +kernel)) (fun _ _ _ _ _ => by exact pg_name (i := 9) sc_leads.nd rfl (.inl rfl)) (fun _ _ _ _ _ => pts_nil) (fun _ _ _ _ _ => (pe_call (ok_times T) (hr.mono (by decide)) (by rfl) T.times.g T.times.F.kp T.times.b .nil pass0 (pa_cons (pv 0) (pa_cons (pv 9) (pa_cons (pv 7) pa_nil)))))) pa_nil))) pa_nil))))) pss_nil))))))
      (pss_one (ps_ret (pv 2))))), ?_⟩
    refine ⟨Evl.sz_of (by simp), fun L hL => ?_⟩
    refine gName_ap ?_
    have lw := lw.make (o := .lst []) hL
    refine ⟨_, rfl, t, rfl, ⟨_, SqL.g lw ht⟩, ?_⟩
    refine for_list (xs := xs) (fun i σ' H' => ∃ (z3 z4 z5 z6 z7 z8 z9 : Option V) (ld : List V) (ls : List (Nat × List LP)) (G' : Hp), σ' = [some (.int p), some (.ref t), some (.ref L), z3, z4, z5, z6, z7, z8, z9] ∧ Lw H G none [(L, .lst ld)] G' H' ∧ LD G' ld ls ∧ ls.length ≤ i ∧ LeadsOk p n (us.drop i) ls ∧ (us.drop i).foldl (leadP p) ls = leadsP p us)
      ⟨none, none, none, none, none, none, none, [], [], G, rfl, lw, ⟨rfl, fun i x hx => by cases hx⟩, Nat.le_refl _, hok, rfl⟩ (fun i σ' H' _ hp => ?_) (fun i x σ' H' hx' hp => ?_) (fun σ' H' hp => ?_)
    · obtain ⟨_, _, _, _, _, _, _, _, _, _, rfl, lw, _⟩ := hp
      exact SqL.g lw (lw.g0 _ _ ht)
    · obtain ⟨z3, z4, z5, z6, z7, z8, z9, ld, ls, G1, rfl, lw, hLD, hlen, hok, hfold⟩ := hp
      obtain ⟨u, hu, tu, uu, rfl, htu, hul, hus⟩ := (hRR.ex lw.g0).2 i x hx'
      have hi := (List.getElem?_eq_some_iff.mp hu).1
      have hd : us.drop i = u :: us.drop (i + 1) := by
        rw [List.drop_eq_getElem_cons hi, (List.getElem?_eq_some_iff.mp hu).2]
      rw [hd] at hok hfold
      obtain ⟨⟨hn, hst, hld⟩, hok2⟩ := hok
      refine gName_ap ?_
      refine ⟨_, rfl, tu, uu, rfl, .inl (SqL.g lw htu), fun D hD => ?_⟩
      obtain ⟨G2, e2, lw, hD2⟩ := lw.allocE (o := .lst uu) hD
      refine gName_ap ?_
      refine ⟨_, rfl, L, rfl, ⟨_, SqL.of lw.at⟩, ?_⟩
      refine for_list (xs := ld) (fun j σ' H' => ∃ (z5 : Option V) (v : V) (G' : Hp), σ' = [some (.int p), some (.ref t), some (.ref L), some (.ref tu), some v, z5, z6, z7, z8, z9] ∧ Lw H G none [(L, .lst ld)] G' H' ∧ Ex G2 G' ∧ RP G' v (lessAll p (ls.take j) u))
        ⟨_, .ref D, G2, rfl, lw, Ex.refl _, D, uu, rfl, hD2, hul, fun i x hx => ?_⟩ (fun j σ' H' _ hp => ?_) (fun j x σ' H' hx' hp => ?_) (fun σ' H' hp => ?_)
      · obtain ⟨a, h1, h2⟩ := hus i x hx
        exact ⟨a, h1, h2.ex e2⟩
      · obtain ⟨z5, v, G3, rfl, lw, e3, _⟩ := hp
        exact SqL.of lw.at
      · obtain ⟨z5, v, G3, rfl, lw, e3, hv⟩ := hp
        obtain ⟨⟨q, l⟩, t3, y3, hql, rfl, ht3, hy3⟩ := (hLD.ex (e2.trans e3)).2 j x hx'
        have hil := (List.getElem?_eq_some_iff.mp hql).1
        obtain ⟨h1, h2⟩ := hst j (by omega)
        obtain ⟨h3, h4, h5⟩ := hld _ (List.mem_of_getElem? hql)
        have h4 : l.length = n := h4
        have h3 : q < n := h3
        refine gName_ap ?_
        refine ⟨_, rfl, _, rfl, _, rfl, t3, _, 1, _, rfl, rfl, SqT.g lw ht3, i1, _, rfl, t3, _, 0, _, rfl, rfl, SqT.g lw ht3, i0, p, lessAll p (ls.take j) u, l, q, call_pure lw ⟨v, y3, rfl, g, hv, hy3, by rw [h1, h4], by rw [h1]; exact h3, by rw [h1]; exact few, h2, h5⟩ fun G4 H4 v4 e4 lw hv4 => ?_⟩
        refine ⟨_, v4, G4, rfl, lw, e3.trans e4, ?_⟩
        rw [List.take_add_one, hql]
        have := lessAll_snoc p (ls.take j) (q, l) u
        rw [show (some (q, l)).toList = [(q, l)] from rfl, this]
        exact hv4
      · obtain ⟨z5, v, G3, rfl, lw, e3, ⟨tv, vs, rfl, htv, hvl, hvs⟩⟩ := hp
        rw [hLD.1, List.take_length] at hvl hvs
        obtain ⟨rest, hrest⟩ : ∃ r, r = lessAll p ls u := ⟨_, rfl⟩
        rw [← hrest] at hvl hvs
        have hrl := (hst ls.length (Nat.le_refl _))
        rw [List.take_length, ← hrest] at hrl
        obtain ⟨hrl, hrb⟩ := hrl
        refine ⟨_, rfl, tv, vs, rfl, .inl (SqL.g lw htv), (vs.length : Int), rfl, by omega, by omega, fun D3 hD3 => ?_⟩
        refine it_rng (n := vs.length) (fun i H' => Lw H G none [(D3, .lst ((((List.range i).filter fun k => (at0 rest k).1 != 0).map fun (k : Nat) => (k : Int)).map V.int)), (L, .lst ld)] G3 H') (lw.make hD3) (fun i H' hi lw => ?_) (fun H' lw => ?_)
        · rw [Int.zero_add]
          obtain ⟨vi, ti, hvi, rfl, hti, hTi⟩ := RP.at hvl hvs (i := i) (by omega)
          have hle := List.length_filter_le (fun k => (at0 rest k).1 != 0) (List.range i)
          rw [List.length_range] at hle
          have hft : ((List.range (i + 1)).filter fun k => (at0 rest k).1 != 0) = ((List.range i).filter fun k => (at0 rest k).1 != 0) ++ [i].filter fun k => (at0 rest k).1 != 0 := by
            rw [List.range_succ, List.filter_append]
          refine ⟨rfl, _, rfl, _, rfl, tv, vs, (i : Int), _, rfl, rfl, SqL.g lw htv, atI_nat hvi, ti, _, 0, _, rfl, rfl, SqT.g lw hti, i0, rfl, _, rfl, ite2 (fun h => ?_) (fun h => ?_)⟩
          · have h : ¬ (at0 rest i).1 = 0 := by simpa using h
            refine ⟨_, rfl, _, lw.at, Evl.sz_lt (by rw [List.length_map, List.length_map]; omega), ?_⟩
            rw [hft, List.filter_cons_of_pos (by simpa using h), List.filter_nil, List.map_append, List.map_append]
            exact lw.put
          · have h : (at0 rest i).1 = 0 := by simpa using h
            rw [hft, List.filter_cons_of_neg (by simpa using h), List.filter_nil, List.append_nil]
            exact lw
        · obtain ⟨lw, e4⟩ := lw.keep
          rw [hvl] at lw e4
          obtain ⟨G4, hG4⟩ : ∃ G4, G4 = upd G3 D3 (.lst ((((List.range rest.length).filter fun k => (at0 rest k).1 != 0).map fun (k : Nat) => (k : Int)).map V.int)) := ⟨_, rfl⟩
          rw [← hG4] at lw e4
          have hp4 : G4 D3 = some (.lst ((((List.range rest.length).filter fun k => (at0 rest k).1 != 0).map fun (k : Nat) => (k : Int)).map V.int)) := by rw [hG4]; exact upd_same
          obtain ⟨pl, hpl⟩ : ∃ pl, pl = (List.range rest.length).filter fun k => (at0 rest k).1 != 0 := ⟨_, rfl⟩
          rw [← hpl] at hp4
          have hfirst : firstP rest = pl.head? := by
            unfold UfL.firstP
            rw [hpl]
          have hplen : pl.length ≤ rest.length := by
            have := List.length_filter_le (fun k => (at0 rest k).1 != 0) (List.range rest.length)
            rw [List.length_range, ← hpl] at this
            exact this
          refine gName_ap ?_
          refine ⟨_, rfl, D3, _, rfl, .inl (SqL.g lw hp4), _, _, rfl, rfl, _, rfl, ite2 (fun h => ?_) (fun h => ?_)⟩
          · rw [List.length_map, List.length_map] at h
            have h : 0 < pl.length := by
              have h : (0 : Int) < pl.length := by simpa using h
              omega
            obtain ⟨q, pr, hq⟩ : ∃ q pr, pl = q :: pr := by
              cases pl with
              | nil => exact absurd h (by decide)
              | cons q pr => exact ⟨q, pr, rfl⟩
            have hqr : q < rest.length ∧ (at0 rest q).1 ≠ 0 := by
              have : q ∈ (List.range rest.length).filter fun k => (at0 rest k).1 != 0 := by rw [← hpl, hq]; exact List.mem_cons_self
              obtain ⟨h1, h2⟩ := List.mem_filter.mp this
              exact ⟨List.mem_range.mp h1, by simpa using h2⟩
            have hf : firstP rest = some q := by rw [hfirst, hq]; rfl
            have hlead : leadP p ls u = ls ++ [(q, rest.map fun x => timesP p x (lowP p (at0 rest q).2 (at0 rest q).1))] := by
              unfold UfL.leadP
              rw [← hrest, hf]
            rw [hq] at hp4
            have hp4 : G4 D3 = some (.lst (.int (q : Int) :: (pr.map fun (k : Nat) => (k : Int)).map V.int)) := hp4
            have hp0 : atI (V.int (q : Int) :: (pr.map fun (k : Nat) => (k : Int)).map V.int) 0 = some (V.int (q : Int)) := atI_nat (j := 0) rfl
            obtain ⟨vq, tq, hvq, rfl, htq, hTq⟩ := RP.at hvl hvs hqr.1
            have hbq := at0_bb g (by decide) hrb q
            have htv4 := e4 _ _ htv
            have htq4 := e4 _ _ htq
            refine ⟨_, rfl, _, rfl, _, rfl, D3, _, 0, _, rfl, rfl, SqL.g lw hp4, hp0, tv, vs, (q : Int), _, rfl, rfl, SqL.g lw htv4, atI_nat hvq, tq, _, 1, _, rfl, rfl, SqT.g lw htq4, i1, _, rfl, _, rfl, D3, _, 0, _, rfl, rfl, SqL.g lw hp4, hp0, tv, vs, (q : Int), _, rfl, rfl, SqL.g lw htv4, atI_nat hvq, tq, _, 0, _, rfl, rfl, SqT.g lw htq4, i0, ?_⟩
            refine call_low lw g (fun z => ?_) (fun z => ?_) fun G5 H5 ts e5 lw hts => ?_
            · obtain ⟨h1, h2, h3⟩ := hbq.1 z
              exact ⟨Nat.lt_trans h2 (by decide +kernel), Nat.lt_trans h1 (by decide +kernel), hqr.2⟩
            · obtain ⟨h1, h2, h3⟩ := hbq.2 z
              have z2 : (1000 : Nat) < 2 ^ 2000 := by decide +kernel
              unfold Gok at g
              exact ⟨by rw [h1]; omega, by omega⟩
            have htb : Bb 1980 p (lowP p (at0 rest q).2 (at0 rest q).1) := low_bb g fun z => by
              obtain ⟨h1, h2, h3⟩ := hbq.1 z
              exact ⟨h2, h1, hqr.2⟩
            generalize lowP p (at0 rest q).2 (at0 rest q).1 = turned at hlead hts htb
            refine gName_ap ?_
            have hp5 := e5 _ _ hp4
            have htv5 := e5 _ _ htv4
            refine ⟨_, rfl, .inl ⟨rfl, _, SqL.of lw.at⟩, _, rfl, D3, _, 0, _, rfl, rfl, SqL.g lw hp5, hp0, _, rfl, tv, rfl, ⟨_, SqL.g lw htv5⟩, fun D4 hD4 => ?_⟩
            refine UfW.lc_list (K := K) (pf := fun _ => none) (R := RJ (rest.map fun x => timesP p x turned)) lw hD4 htv5 (by omega) RJ.mono (fun i x acc G6 H6 hx6 e6 lw Nx kk => ?_) (fun G6 H6 zs e6 lw h6 hl6 hy6 => ?_)
            · obtain ⟨a, ha, hA⟩ := hvs i x hx6
              have ba := hrb a (List.mem_of_getElem? ha)
              refine ⟨rfl, _, rfl, _, rfl, _, rfl, call_times lw g (hA.ex (e4.trans (e5.trans e6))) ⟨ts, rfl, e6 _ _ hts⟩ (ba.up (by decide)) (htb.up (by decide)) fun G7 H7 v7 e7 lw hv7 => kk _ _ _ e7 lw ⟨_, ?_, hv7⟩⟩
              rw [List.getElem?_map, ha]
              rfl
            · refine ⟨Evl.sz_of (by show 2 ≤ 100000; decide), fun t8 n8 => ?_⟩
              obtain ⟨G7, e7, lw, h7⟩ := lw.allocE (o := .tup [.int (q : Int), .ref D4]) n8
              have e27 := e2.trans (e3.trans (e4.trans (e5.trans (e6.trans e7))))
              refine ⟨L, ld, .ref t8, rfl, rfl, lw.at, Evl.sz_lt (by rw [hLD.1]; omega), _, _, _, _, _, _, _, _, leadP p ls u, G7, rfl, lw.put, ?_, ?_, hok2, hfold⟩
              · rw [hlead]
                refine ⟨by rw [List.length_append, List.length_append, hLD.1]; rfl, fun j y hy => ?_⟩
                by_cases hj : j < ld.length
                · rw [List.getElem?_append_left hj] at hy
                  rw [List.getElem?_append_left (by rw [← hLD.1]; exact hj)]
                  exact (hLD.ex e27).2 j y hy
                · have hj2 := (List.getElem?_eq_some_iff.mp hy).1
                  rw [List.length_append, List.length_singleton] at hj2
                  have ej : j = ld.length := by omega
                  rw [List.getElem?_append_right (by omega), ej, Nat.sub_self] at hy
                  cases hy
                  rw [List.getElem?_append_right (by rw [← hLD.1]; omega), ej, hLD.1, Nat.sub_self]
                  exact ⟨_, t8, .ref D4, rfl, rfl, h7, D4, zs, rfl, e7 _ _ h6, by rw [hl6, hvl, List.length_map], fun i x hx => by
                    obtain ⟨a, h1, h2⟩ := hy6 i x hx
                    exact ⟨a, h1, h2.ex e7⟩⟩
              · rw [hlead, List.length_append]
                show ls.length + 1 ≤ i + 1
                omega
          · rw [List.length_map, List.length_map] at h
            have h : pl.length = 0 := by
              have h : ¬ (0 : Int) < pl.length := by simpa using h
              omega
            have hf : firstP rest = none := by rw [hfirst, List.eq_nil_of_length_eq_zero h]; rfl
            have hlead : leadP p ls u = ls := by
              unfold UfL.leadP
              rw [← hrest, hf]
            have hfold2 : List.foldl (leadP p) (leadP p ls u) (us.drop (i + 1)) = leadsP p us := hfold
            rw [hlead] at hok2 hfold2
            exact ⟨_, _, _, _, _, _, _, _, ls, G4, rfl, lw, hLD.ex (e2.trans (e3.trans e4)), by omega, hok2, hfold2⟩
    · obtain ⟨z3, z4, z5, z6, z7, z8, z9, ld, ls, G1, rfl, lw, hLD, hlen, hok, hfold⟩ := hp
      rw [hRR.1, List.drop_length] at hfold
      have hfold : ls = leadsP p us := hfold
      obtain ⟨lw, e2⟩ := lw.keep
      refine ⟨_, rfl, k _ _ _ lw ⟨L, ld, rfl, upd_same, ?_⟩⟩
      rw [← hfold]
      exact hLD.ex e2
end
end K06

namespace K06
open PySem PySem.Spec PyProof.Rows L2 UfG UfT UfR UfO UfI UfQ UfN UfW
open UfL (LP lowP plusP timesP gcdL primL clr invP ledO firstNz clrAll stepRow runRows Good OkU OkK Sml Oki lessP lessAll firstP leadP leadsP withinP dotFrom dotP at0 Can)
open UfZ (Kd)
open Evl (Ex)
/-- a number drawn: q times 6 ^ e is an integer of at most b bits -/
def Lv (e b : Nat) (p : Int) (x : LP) : Prop := (p = 0 → ∃ (q : Rat) (N : Int), x = (q.num, (q.den : Int)) ∧ (N : Rat) = ((6 ^ e : Nat) : Rat) * q ∧ N.natAbs < 2 ^ b) ∧ (p ≠ 0 → x.2 = 1 ∧ 0 ≤ x.1 ∧ x.1 < p)
/-- the law's line: numbers times rows, added up -/
def combP (p : Int) (size : Nat) (rows : List (List LP)) (shares : List LP) : List LP := (rows.zip shares).foldl (fun line rs => (List.range size).map fun k => plusP p (at0 line k) (timesP p rs.2 (at0 rs.1 k))) ((List.range size).map fun _ => (0, 1))
abbrev Fresh (p : Int) (x : LP) : Prop := Lv 1 103 p x
def CombOk (p : Int) (size : Nat) (rows : List (List LP)) : Prop := (∀ r ∈ rows, r.length = size ∧ ∀ x ∈ r, Bb 1980 p x) ∧ ∀ (shares : List LP) (i : Nat), (∀ s ∈ shares, Fresh p s) → ∀ x ∈ combP p size (rows.take i) shares, Bb 1980 p x
theorem Lv.bb {e b : Nat} {p : Int} {x : LP} (h : Lv e b p x) {c : Nat} (h1 : b ≤ c) (h2 : 3 * e < c) : Bb c p x := by
  refine ⟨fun z => ?_, h.2⟩
  obtain ⟨q, N, rfl, hN, hb⟩ := h.1 z
  have e6 : (((6 ^ e : Nat) : Int)) ≠ 0 := by have := Nat.pow_pos (n := e) (show 0 < 6 by decide); omega
  have hq : q = fr N ((6 ^ e : Nat) : Int) := by
    have e6' : (((6 ^ e : Nat) : Int) : Rat) ≠ 0 := fun z => e6 (by exact_mod_cast z)
    rw [show fr N ((6 ^ e : Nat) : Int) = (N : Rat) / (((6 ^ e : Nat) : Int) : Rat) from Rat.divInt_eq_div _ _, hN]
    have : (((6 ^ e : Nat) : Int) : Rat) = ((6 ^ e : Nat) : Rat) := by norm_cast
    rw [this] at e6' ⊢
    grind
  have p1 := Nat.pow_le_pow_right (show 0 < 2 by decide) h1
  have p2 : (6 ^ e : Nat) < 2 ^ c := by
    have a1 : (6 : Nat) ^ e ≤ 8 ^ e := Nat.pow_le_pow_left (by decide) e
    have a2 : (8 : Nat) ^ e = 2 ^ (3 * e) := by rw [Nat.pow_mul]
    have a3 := Nat.pow_lt_pow_right (show 1 < 2 by decide) h2
    omega
  obtain ⟨f1, f2⟩ := fr_sm (b := c) e6 (Nat.lt_of_lt_of_le hb p1) (by rw [Int.natAbs_natCast]; exact p2)
  rw [← hq] at f1 f2
  have := q.den_nz
  exact ⟨f1, by rw [Int.natAbs_natCast]; exact f2, by show (q.den : Int) ≠ 0; omega⟩
section
variable {P : Program} {w : World} {K : PySem.W.Frag} {mg : Str → Option Value} {base : Heap}
/-! ### _law_int, _law_read -/
theorem ok_int_ (T : Tx K mg) : FnOk P w K mg base CX0 1 T.int_.f T.int_.fd ["told"] (fun vs H Q _ => (∃ i : Int, vs = [.int i] ∧ Q (.bl true) H) ∨ ∃ a dx fs, vs = [.ref a] ∧ H a = some (.ins T.frac.C dx fs) ∧ Q (.bl false) H) := by
  refine T.int_.F.ok sc_int_ (fun vs H Q E h => ?_) (fun cdv A outer s H vs Q E hr h => ?_)
  · rcases h with ⟨i, rfl, _⟩ | ⟨a, dx, fs, rfl, _⟩ <;> rfl
  · refine ⟨_, (pss_one (ps_ret (pe_and (pe_callB (UfK.call_isiK' (K := K)) (by rfl) T.z_isinstance (by decide +kernel) (pa_cons (pv 0) (pa_cons (pe_bltn (by rfl) T.z_int (by decide +kernel) (show RelV (.ty "int") _ from rfl)) pa_nil))) (pe_one (pe_not (pe_callB (UfK.call_isiK' (K := K)) (by rfl) T.z_isinstance (by decide +kernel) (pa_cons (pv 0) (pa_cons (pe_bltn (by rfl) T.z_bool (by decide +kernel) (show RelV (.ty "bool") _ from rfl)) pa_nil)))))))), ?_⟩
    rcases h with ⟨i, rfl, k⟩ | ⟨a, dx, fs, rfl, Ha, k⟩
    · exact ⟨_, rfl, .int i, .ty "int", .type "int", .type "int", true, rfl, .ty _, .base (.int i), kit_ty rfl, _, rfl, iteT ⟨_, rfl, .int i, .ty "bool", .type "int", .type "bool", false, rfl, .ty _, .base (.int i), kit_ty rfl, _, rfl, k⟩⟩
    · exact ⟨_, rfl, .ref a, .ty "int", .ref T.frac.C, .type "int", false, rfl, .ty _, T.frac.ty Ha, T.kFI, _, rfl, iteF k⟩
theorem sc_read : FnScope ["p", "told"] ["p", "told"] (defScope s_read) := ⟨rfl, rfl, rfl, by decide +kernel, rfl, by decide +kernel, by decide +kernel⟩
def FormOk (p : Int) (q : Rat) : Prop := p ≠ 0 → q.den = 1 ∧ 0 ≤ q.num ∧ q.num < p
def pr (q : Rat) : LP := (q.num, (q.den : Int))
def sp_read (T : Tx K mg) : Sp := fun vs H Q E => ∃ (p : Int) (q : Rat), PureSp (fun vs G => ∃ x, vs = [.int p, x] ∧ Nm T.frac.C G x q ∧ FormOk p q) (fun _ _ G' v => TP G' v (pr q)) vs H Q E
theorem ok_read (T : Tx K mg) : FnOk P w K mg base CX0 3 T.read.f T.read.fd ["p", "told"] (sp_read T) := by
  refine T.read.F.ok sc_read (fun vs H Q E h => ?_) (fun cdv A outer s H vs Q E hr h => ?_)
  · obtain ⟨p, q, G, _, ⟨x, rfl, _⟩, _⟩ := h
    rfl
  · obtain ⟨p, q, G, lw, ⟨x, rfl, hx, hf⟩, k⟩ := h
    refine ⟨_, (pss_cons (ps_if (pt_val (pe_call (ok_int_ T) (hr.mono (by decide)) (by rfl) T.int_.g T.int_.F.kp T.int_.b .nil pass0 (pa_cons (pv 1) pa_nil))) (pss_one (ps_ret (pe_ifExp (PW.pt (pw_or (pt_cmpR op_eq (pv 0) pe_int (nomark _)) (pw_or1 (pt_chain op_le op_lt pe_int (pv 1) (pv 0))))) (pe_tup (pa_cons (pv 1) (pa_cons pe_int pa_nil))) pe_non))) pss_nil)
      (pss_cons (ps_if (PW.pt (pw_or (pt_cmpR op_gt (pv 0) pe_int (nomark _)) (pw_or (pt_not (pt_val (pe_callB (UfK.call_isiK' (K := K)) (by rfl) T.z_isinstance (by decide +kernel) (pa_cons (pv 1) (pa_cons (pe_glob (v := .ref T.frac.C) rfl T.frac.g rfl) pa_nil))))) (pw_or (pt_not (pt_val (pe_call (ok_int_ T) (hr.mono (by decide)) (by rfl) T.int_.g T.int_.F.kp T.int_.b .nil pass0 (pa_cons (UfK.pe_fldK (K := K) (pv 1) rfl) pa_nil)))) (pw_or1 (pt_not (pt_val (pe_call (ok_int_ T) (hr.mono (by decide)) (by rfl) T.int_.g T.int_.F.kp T.int_.b .nil pass0 (pa_cons (UfK.pe_fldK (K := K) (pv 1) rfl) pa_nil))))))))) (pss_one (ps_ret pe_non)) pss_nil)
      (pss_cons (ps_if (PW.pt (pw_or (pt_cmpR op_lt (UfK.pe_fldK (K := K) (pv 1) rfl) pe_int (nomark _)) (pw_or1 (pt_cmpR op_ne (pe_call (ok_gcd T) (hr.mono (by decide)) (by rfl) T.gcd.g T.gcd.F.kp T.gcd.b .nil pass0 (pa_cons (UfK.pe_fldK (K := K) (pv 1) rfl) (pa_cons (UfK.pe_fldK (K := K) (pv 1) rfl) pa_nil))) pe_int (nomark _))))) (pss_one (ps_ret pe_non)) pss_nil)
      (pss_one (ps_ret (pe_tup (pa_cons (UfK.pe_fldK (K := K) (pv 1) rfl) (pa_cons (UfK.pe_fldK (K := K) (pv 1) rfl) pa_nil)))))))), ?_⟩
    rcases hx with ⟨h1, rfl⟩ | ⟨h1, a, rfl, dx, ha⟩
    · refine ⟨_, rfl, .inl ⟨q.num, rfl, true, rfl, iteT ?_⟩⟩
      have fin : ∀ t, H t = none → Q (.ref t) (upd H t (.tup [.int q.num, .int 1])) := fun t ht => by
        obtain ⟨G1, e1, lw, h3⟩ := lw.allocE (o := .tup [.int q.num, .int 1]) ht
        refine k _ _ _ lw ⟨t, rfl, ?_⟩
        show G1 t = some (.tup [.int q.num, .int (q.den : Int)])
        rw [h1]
        exact h3
      refine ⟨_, rfl, rfl, _, rfl, ite2 (fun h => iteT ⟨_, rfl, Evl.sz_of (by show 2 ≤ 100000; decide), fin⟩) (fun h => ?_)⟩
      have h : p ≠ 0 := by simpa using h
      obtain ⟨f1, f2, f3⟩ := hf h
      exact ⟨_, rfl, _, _, rfl, rfl, _, rfl, ite2 (fun _ => ⟨_, rfl, _, _, rfl, rfl, _, rfl, ite2 (fun _ => ⟨_, rfl, Evl.sz_of (by show 2 ≤ 100000; decide), fin⟩) (fun h => absurd (decide_eq_true f3) h)⟩) (fun h => absurd (decide_eq_true f2) h)⟩
    · have p0 : p = 0 := Classical.byContradiction fun z => h1 (hf z).1
      subst p0
      have Ha := lw.gh _ _ ha
      have d2 : (2 : Int) ≤ q.den := by have := q.den_nz; omega
      have g1 : Nat.gcd q.num.natAbs ((q.den : Int)).natAbs = 1 := by rw [Int.natAbs_natCast]; exact q.reduced
      refine ⟨_, rfl, .inr ⟨a, dx, _, rfl, Ha, false, rfl, iteF ?_⟩⟩
      refine ⟨_, rfl, _, _, rfl, rfl, _, rfl, iteF ?_⟩
      refine ⟨_, rfl, .ref a, .ref T.frac.C, .ref T.frac.C, .ref T.frac.C, true, rfl, .own _, T.frac.ty Ha, T.kFF, true, rfl, iteF ?_⟩
      refine ⟨_, rfl, a, T.frac.C, dx, _, _, rfl, Ha, T.frac.c, T.nNum, lk_num, .inl ⟨q.num, rfl, true, rfl, iteF ?_⟩⟩
      refine ⟨_, rfl, a, T.frac.C, dx, _, _, rfl, Ha, T.frac.c, T.nDen, lk_den, .inl ⟨(q.den : Int), rfl, true, rfl, iteF ?_⟩⟩
      refine ⟨_, rfl, a, T.frac.C, dx, _, _, rfl, Ha, T.frac.c, T.nDen, lk_den, _, _, rfl, rfl, _, rfl, ite2 (fun h => absurd h (by simp; omega)) (fun _ => ?_)⟩
      refine ⟨_, rfl, a, T.frac.C, dx, _, _, rfl, Ha, T.frac.c, T.nNum, lk_num, _, rfl, a, T.frac.C, dx, _, _, rfl, Ha, T.frac.c, T.nDen, lk_den, _, _, call_pure lw rfl fun G1 H1 v e1 lw hv => ?_⟩
      have hv : v = _ := hv
      subst hv
      rw [g1]
      have Ha := lw.gh _ _ (e1 _ _ ha)
      refine ⟨rfl, _, rfl, ite2 (fun h => absurd h (by simp)) (fun _ => ?_)⟩
      refine ⟨_, rfl, a, T.frac.C, dx, _, _, rfl, Ha, T.frac.c, T.nNum, lk_num, _, rfl, a, T.frac.C, dx, _, _, rfl, Ha, T.frac.c, T.nDen, lk_den, Evl.sz_of (by show 2 ≤ 100000; decide), fun t ht => ?_⟩
      obtain ⟨G2, e2, lw, h3⟩ := lw.allocE (o := .tup [.int q.num, .int (q.den : Int)]) ht
      exact k _ _ _ lw ⟨t, rfl, h3⟩
/-! ### _law_handed -/
/-- the program's numbers of a row of the law -/
def HRow (p : Int) (u : List LP) (qs : List Rat) : Prop := qs.length = u.length ∧ ∀ (i : Nat) (a : LP), u[i]? = some a → ∃ q, qs[i]? = some q ∧ (p = 0 → a = pr q) ∧ (p ≠ 0 → q.den = 1 ∧ q.num.fmod p = a.1 ∧ q.num.natAbs < 3000)
def CanB (p : Int) (x : LP) : Prop := Can p x ∧ Bb 1980 p x
theorem sc_handed : FnScope ["pool", "p", "row", "shift", "pair"] ["pool", "p", "row"] (defScope s_handed) := ⟨rfl, rfl, rfl, by decide +kernel, rfl, by decide +kernel, by decide +kernel⟩
def sp_handed (T : Tx K mg) : Sp := fun vs H Q E => ∃ (p : Int) (u : List LP), PoolSp 1 (fun ws G => ∃ y, ws = [.int p, y] ∧ Gok p ∧ RP G y u ∧ u.length ≤ 1000 ∧ ∀ x ∈ u, CanB p x) (fun _ _ G' v => ∃ qs, NS .li T.frac.C G' v qs ∧ HRow p u qs) vs H Q E
theorem ok_handed (T : Tx K mg) : FnOk P w K mg base CX0 6 T.handed.f T.handed.fd ["pool", "p", "row"] (sp_handed T) := by
  refine T.handed.F.ok sc_handed (fun vs H Q E h => ?_) (fun cdv A outer s H vs Q E hr h => ?_)
  · obtain ⟨p, u, G, a, c, n, ws, rfl, _, _, ⟨y, rfl, _⟩, _⟩ := h
    rfl
  · obtain ⟨p, u, G, a, c, n, ws, rfl, lw, hn, ⟨y, rfl, g, ⟨t, xs, rfl, ht, hl, hx⟩, few, hc⟩, k⟩ := h
    refine ⟨_, (pss_cons (ps_if (pt_cmpR op_eq (pv 1) pe_int (nomark _)) (pss_one (ps_ret (pe_lc (own := [("pair", 4)]) rfl sc_handed.nd (UfK.pi_listK (K := K) (pv 2)) (blkOk_by (own := [("pair", 4)]) (N := ["pool", "p", "row", "shift", "pair"]) (sc := defScope s_handed) (by decide +kernel)) (fun _ _ _ _ _ => by exact pg_name (i := 4) sc_handed.nd rfl (.inl rfl)) (fun _ _ _ _ _ => pts_nil) (fun _ _ _ _ _ => (pe_call (ok_hand T) (hr.mono (by decide)) (by rfl) T.hand.g T.hand.F.kp T.hand.b .nil pass0 (pa_cons (pv 4) pa_nil)))))) pss_nil)
      (pss_cons (ps_set (i := 3) sc_handed.nd rfl (.inr rfl) (pe_op op_mulW (pv 1) (pe_op op_sub (pe_call (ok_draw T) (hr.mono (by decide)) (by rfl) T.draw.g T.draw.F.kp T.draw.b .nil pass0 (pa_cons (pv 0) (pa_cons pe_int pa_nil))) pe_int)))
      (pss_one (ps_ret (pe_lc (own := [("pair", 4)]) rfl sc_handed.nd (UfK.pi_listK (K := K) (pv 2)) (blkOk_by (own := [("pair", 4)]) (N := ["pool", "p", "row", "shift", "pair"]) (sc := defScope s_handed) (by decide +kernel)) (fun _ _ _ _ _ => by exact pg_name (i := 4) sc_handed.nd rfl (.inl rfl)) (fun _ _ _ _ _ => pts_nil) (fun _ _ _ _ _ => (pe_op op_add (pe_ix (UfK.ix_tupK (K := K)) (pv 4) pe_int (fun _ _ => rfl)) (pv 3)))))))), ?_⟩
    refine ⟨_, rfl, rfl, _, rfl, ite2 (fun h => ?_) (fun h => ?_)⟩
    · have p0 : p = 0 := by simpa using h
      have lw := lw.more (Nat.le_succ n)
      refine ⟨_, rfl, t, rfl, ⟨_, SqL.g lw ht⟩, fun D hD => ?_⟩
      refine UfW.lc_list (K := K) (pf := fun _ => some (a, c, n + 1)) (R := fun j G y => ∃ b q, u[j]? = some b ∧ b = pr q ∧ Nm T.frac.C G y q) lw hD ht (by omega) (fun i G3 G4 y e h => ?_) (fun i x acc G3 H3 hx3 e3 lw Nx kk => ?_) (fun G3 H3 zs e3 lw h3 hl3 hy3 => ?_)
      · obtain ⟨b, q, h1, h2, h3⟩ := h
        exact ⟨b, q, h1, h2, h3.ex e⟩
      · obtain ⟨b, hb, hB⟩ := hx i x hx3
        obtain ⟨cb, bb⟩ := hc b (List.mem_of_getElem? hb)
        unfold UfL.Can at cb
        rw [if_pos p0] at cb
        obtain ⟨q, rfl⟩ := cb
        have b1 := (bb.1 p0).2.1
        rw [Int.natAbs_natCast] at b1
        exact ⟨rfl, _, rfl, q, call_pure lw ⟨x, rfl, hB.ex e3, Nat.lt_trans b1 (by decide +kernel)⟩ fun G4 H4 v4 e4 lw hv4 => kk _ _ _ e4 lw ⟨_, q, hb, rfl, hv4⟩⟩
      · obtain ⟨qs, hq1, hq2⟩ : ∃ qs : List Rat, qs.length = u.length ∧ ∀ i b, u[i]? = some b → ∃ q, qs[i]? = some q ∧ b = pr q := by
          have : ∀ b ∈ u, ∃ q, b = pr q := fun b hb => by
            have cb := (hc b hb).1
            unfold UfL.Can at cb
            rw [if_pos p0] at cb
            exact cb
          refine ⟨u.attach.map fun b => Classical.choose (this b.1 b.2), by rw [List.length_map, List.length_attach], fun i b hb => ?_⟩
          obtain ⟨hi, rfl⟩ := List.getElem?_eq_some_iff.mp hb
          refine ⟨Classical.choose (this u[i] (List.getElem_mem hi)), ?_, ?_⟩
          · rw [List.getElem?_map, List.getElem?_eq_getElem (by rw [List.length_attach]; exact hi), List.getElem_attach]
            rfl
          · exact Classical.choose_spec (this u[i] (List.getElem_mem hi))
        refine k _ _ _ lw ⟨qs, ⟨D, zs, rfl, h3, by rw [hl3, hl, hq1], fun j y hy => ?_⟩, hq1, fun i b hb => ?_⟩
        · obtain ⟨b, q, h1, h2, h4⟩ := hy3 j y hy
          obtain ⟨q', h5, h6⟩ := hq2 j b h1
          rw [h2] at h6
          have : q = q' := by
            have e1 : q.num = q'.num := congrArg Prod.fst h6
            have e2 : (q.den : Int) = q'.den := congrArg Prod.snd h6
            exact Rat.ext e1 (by omega)
          rw [← this] at h5
          exact ⟨q, h5, h4⟩
        · obtain ⟨q, h1, h2⟩ := hq2 i b hb
          exact ⟨q, h1, fun _ => h2, fun z => (z p0).elim⟩
    · have p0 : p ≠ 0 := by simpa using h
      have p2 : 2 ≤ p ∧ p < 1000 := by unfold Gok at g; omega
      refine ⟨_, rfl, _, rfl, call_draw lw (by decide) (by decide) hn fun G1 H1 d e1 lw d0 d1 => ?_⟩
      refine ⟨_, _, rfl, rfl, _, _, rfl, rfl, sm_mul (Nat.lt_trans (show p.natAbs < 1000 by omega) (by decide +kernel)) (Nat.lt_trans (show (d - 1).natAbs < 1000 by omega) (by decide +kernel)), ?_⟩
      refine gName_ap ?_
      have ht1 := e1 _ _ ht
      refine ⟨_, rfl, t, rfl, ⟨_, SqL.g lw ht1⟩, fun D hD => ?_⟩
      refine UfW.lc_list (K := K) (pf := fun _ => some (a, c, n + 1)) (R := RI (u.map fun b => b.1 + p * (d - 1))) lw hD ht1 (by omega) RI.mono (fun i x acc G3 H3 hx3 e3 lw Nx kk => ?_) (fun G3 H3 zs e3 lw h3 hl3 hy3 => ?_)
      · obtain ⟨b, hb, tb, rfl, hB⟩ := hx i x hx3
        refine ⟨rfl, _, rfl, tb, _, 0, _, rfl, rfl, SqT.g lw (e3 _ _ (e1 _ _ hB)), i0, _, rfl, _, _, rfl, rfl, kk _ _ _ (Ex.refl _) lw ⟨_, ?_, rfl⟩⟩
        rw [List.getElem?_map, hb]
        rfl
      · rw [vals_of (by rw [hl3, hl, List.length_map]) hy3] at h3
        refine k _ _ _ lw ⟨iq (u.map fun b => b.1 + p * (d - 1)), IL.ns ⟨D, rfl, h3⟩, by unfold iq; rw [List.length_map, List.length_map], fun i b hb => ?_⟩
        refine ⟨((b.1 + p * (d - 1) : Int) : Rat), by unfold iq; rw [List.getElem?_map, List.getElem?_map, hb]; rfl, fun z => (p0 z).elim, fun _ => ⟨rfl, ?_, ?_⟩⟩
        · obtain ⟨_, _, b1, b2⟩ : _ ∧ b.2 = 1 ∧ 0 ≤ b.1 ∧ b.1 < p := ⟨trivial, (hc b (List.mem_of_getElem? hb)).2.2 p0⟩
          rw [ofInt_num, Int.add_mul_fmod_self_left, Int.fmod_eq_of_lt b1 b2]
        · obtain ⟨_, _, b1, b2⟩ : _ ∧ b.2 = 1 ∧ 0 ≤ b.1 ∧ b.1 < p := ⟨trivial, (hc b (List.mem_of_getElem? hb)).2.2 p0⟩
          rw [ofInt_num]
          have hd : d = 0 ∨ d = 1 ∨ d = 2 := by omega
          rcases hd with rfl | rfl | rfl <;> simp <;> omega
/-! ### _law_number -/
theorem sc_number : FnScope ["pool", "p", "num"] ["pool", "p"] (defScope s_number) := ⟨rfl, rfl, rfl, by decide +kernel, rfl, by decide +kernel, by decide +kernel⟩
def sp_number : Sp := fun vs H Q E => ∃ (p : Int), PoolSp 4 (fun ws G => ws = [.int p] ∧ Gok p) (fun _ _ G' v => ∃ x, TP G' v x ∧ Fresh p x) vs H Q E
theorem low_fresh {n d : Int} (hd : d = 1 ∨ d = 2 ∨ d = 3) (hn : n.natAbs < 2 ^ 100) : Fresh 0 (lowP 0 n d) := by
  refine ⟨fun _ => ⟨fr n d, n * (6 / d), rfl, ?_, ?_⟩, fun z => (z rfl).elim⟩
  · have e : fr n d = (n : Rat) / (d : Rat) := Rat.divInt_eq_div _ _
    rw [e]
    have e6 : ((6 ^ 1 : Nat) : Rat) = 6 := rfl
    rw [e6]
    rcases hd with rfl | rfl | rfl
    · show ((n * 6 : Int) : Rat) = 6 * ((n : Rat) / ((1 : Int) : Rat))
      rw [Rat.intCast_mul]
      grind
    · show ((n * 3 : Int) : Rat) = 6 * ((n : Rat) / ((2 : Int) : Rat))
      rw [Rat.intCast_mul]
      have : ((2 : Int) : Rat) = 2 := rfl
      have : ((3 : Int) : Rat) = 3 := rfl
      grind
    · show ((n * 2 : Int) : Rat) = 6 * ((n : Rat) / ((3 : Int) : Rat))
      rw [Rat.intCast_mul]
      have : ((2 : Int) : Rat) = 2 := rfl
      have : ((3 : Int) : Rat) = 3 := rfl
      grind
  · rw [Int.natAbs_mul]
    have : (6 / d).natAbs ≤ 6 := by rcases hd with rfl | rfl | rfl <;> decide
    have h1 := Nat.mul_le_mul_left n.natAbs this
    have : 2 ^ 103 = 2 ^ 100 * 8 := by decide
    omega
theorem ok_number (T : Tx K mg) : FnOk P w K mg base CX0 3 T.number.f T.number.fd ["pool", "p"] sp_number := by
  refine T.number.F.ok sc_number (fun vs H Q E h => ?_) (fun cdv A outer s H vs Q E hr h => ?_)
  · obtain ⟨p, G, a, c, n, ws, rfl, _, _, ⟨rfl, _⟩, _⟩ := h
    rfl
  · obtain ⟨p, G, a, c, n, ws, rfl, lw, hn, ⟨rfl, g⟩, k⟩ := h
    refine ⟨_, (pss_cons (ps_if (pt_cmpR op_gt (pv 1) pe_int (nomark _)) (pss_one (ps_ret (pe_call (ok_low T) (hr.mono (by decide)) (by rfl) T.low.g T.low.F.kp T.low.b .nil pass0 (pa_cons (pv 1) (pa_cons (pe_call (ok_draw T) (hr.mono (by decide)) (by rfl) T.draw.g T.draw.F.kp T.draw.b .nil pass0 (pa_cons (pv 0) (pa_cons (pe_op op_add (pv 1) pe_int) pa_nil))) (pa_cons pe_int pa_nil)))))) pss_nil)
      (pss_cons (ps_set (i := 2) sc_number.nd rfl (.inl rfl) (pe_op op_sub (pe_call (ok_draw T) (hr.mono (by decide)) (by rfl) T.draw.g T.draw.F.kp T.draw.b .nil pass0 (pa_cons (pv 0) (pa_cons pe_int pa_nil))) pe_int))
      (pss_cons (ps_if (pt_cmpR op_eq (pe_call (ok_draw T) (hr.mono (by decide)) (by rfl) T.draw.g T.draw.F.kp T.draw.b .nil pass0 (pa_cons (pv 0) (pa_cons pe_int pa_nil))) pe_int (nomark _)) (pss_one (ps_set (i := 2) sc_number.nd rfl (.inl rfl) (pe_op op_sub (pe_call (ok_draw T) (hr.mono (by decide)) (by rfl) T.draw.g T.draw.F.kp T.draw.b .nil pass0 (pa_cons (pv 0) (pa_cons (pe_op op_pow pe_int pe_int) pa_nil))) (pe_op op_mulW pe_int (pe_op op_pow pe_int pe_int))))) pss_nil)
      (pss_one (ps_ret (pe_call (ok_low T) (hr.mono (by decide)) (by rfl) T.low.g T.low.F.kp T.low.b .nil pass0 (pa_cons pe_int (pa_cons (pv 2) (pa_cons (pe_ix (UfK.ix_tupK (K := K)) (pe_tup (pa_cons pe_int (pa_cons pe_int (pa_cons pe_int (pa_cons pe_int (pa_cons pe_int pa_nil)))))) (pe_call (ok_draw T) (hr.mono (by decide)) (by rfl) T.draw.g T.draw.F.kp T.draw.b .nil pass0 (pa_cons (pv 0) (pa_cons pe_int pa_nil))) (fun _ _ => rfl)) pa_nil))))))))), ?_⟩
    refine ⟨_, rfl, _, _, rfl, rfl, _, rfl, ite2 (fun h => ?_) (fun h => ?_)⟩
    · have h : 0 < p := by simpa using h
      have p2 : 2 ≤ p ∧ p < 1000 := by unfold Gok at g; omega
      refine ⟨_, rfl, _, rfl, _, rfl, _, _, rfl, rfl, call_draw lw (by omega) (Int.lt_of_lt_of_le (show p + 2 < 1002 by omega) (by decide)) (by omega) fun G1 H1 d e1 lw d0 d1 => ?_⟩
      refine call_low lw g (fun z => by omega) (fun _ => ⟨Nat.lt_trans (show d.natAbs < 1002 by omega) (by decide +kernel), by decide +kernel⟩) fun G2 H2 t e2 lw ht => ?_
      refine k _ _ _ (lw.more (by omega)) ⟨lowP p d 1, ⟨t, rfl, ht⟩, fun z => by omega, (low_bb (b := 1) g fun z => by omega).2⟩
    · have p0 : p = 0 := by
        have h : ¬ 0 < p := by simpa using h
        unfold Gok at g
        omega
      subst p0
      refine ⟨_, rfl, call_draw lw (by decide) (by decide) (by omega) fun G1 H1 d1 e1 lw d10 d11 => ⟨_, _, rfl, rfl, ?_⟩⟩
      refine gName_ap ?_
      dsimp only
      refine seq_rest (fun σ' H' => ∃ (i : Int) (G' : Hp), σ' = [some (.ref a), some (.int 0), some (.int i)] ∧ Lw H G (some (a, c, n + 3)) [] G' H' ∧ i.natAbs < 2 ^ 100) (fun σ' H' hq => ?_) (fun kk => ?_)
      · obtain ⟨i, G2, rfl, lw, hi⟩ := hq
        refine ⟨_, rfl, Evl.sz_of (by show 5 ≤ 100000; decide), fun t5 n5 => ?_⟩
        obtain ⟨G3, e3, lw, h3⟩ := lw.allocE (o := .tup [.int 1, .int 1, .int 1, .int 2, .int 3]) n5
        refine ⟨_, rfl, call_draw lw (by decide) (by decide) (by omega) fun G4 H4 d e4 lw d0 d1 => ?_⟩
        obtain ⟨m, hm, he⟩ : ∃ m : Int, atI [V.int 1, V.int 1, V.int 1, V.int 2, V.int 3] d = some (.int m) ∧ (m = 1 ∨ m = 2 ∨ m = 3) := by
          have : d = 0 ∨ d = 1 ∨ d = 2 ∨ d = 3 ∨ d = 4 := by omega
          rcases this with rfl | rfl | rfl | rfl | rfl
          · exact ⟨1, rfl, .inl rfl⟩
          · exact ⟨1, rfl, .inl rfl⟩
          · exact ⟨1, rfl, .inl rfl⟩
          · exact ⟨2, rfl, .inr (.inl rfl)⟩
          · exact ⟨3, rfl, .inr (.inr rfl)⟩
        refine ⟨t5, _, d, _, rfl, rfl, SqT.g lw (e4 _ _ h3), hm, ?_⟩
        have mb : m.natAbs < 10 ∧ m ≠ 0 := by rcases he with rfl | rfl | rfl <;> decide
        refine call_low lw g (fun _ => ⟨Nat.lt_trans hi (by decide +kernel), Nat.lt_trans mb.1 (by decide +kernel), mb.2⟩) (fun z => (z rfl).elim) fun G5 H5 t e5 lw ht => ?_
        exact k _ _ _ lw ⟨lowP 0 i m, ⟨t, rfl, ht⟩, low_fresh he hi⟩
      · refine ⟨_, rfl, call_draw lw (by decide) (by decide) (by omega) fun G2 H2 d2 e2 lw d20 d21 => ?_⟩
        refine ⟨rfl, _, rfl, ite2 (fun _ => ?_) (fun _ => ?_)⟩
        · refine ⟨_, rfl, _, _, rfl, rfl, ⟨by decide, by decide, by decide⟩, ?_⟩
          refine call_draw lw (by decide) (by decide) (by omega) fun G3 H3 d3 e3 lw d30 d31 => ?_
          refine ⟨_, _, rfl, rfl, ⟨by decide, by decide, by decide⟩, _, _, rfl, rfl, mulW_of (by decide) (by decide), _, _, rfl, rfl, ?_⟩
          refine gName_ap ?_
          refine kk _ _ ⟨_, G3, rfl, lw, ?_⟩
          have d31 : d3 < 1000000000000000000000000000000 := d31
          show (d3 - 500000000000000000000000000000).natAbs < 2 ^ 100
          omega
        · exact kk _ _ ⟨_, G2, rfl, lw.more (by omega), by omega⟩
end
end K06

namespace K06
open PySem PySem.Spec PyProof.Rows L2 UfG UfT UfR UfO UfI UfQ UfN UfW
open UfL (LP lowP plusP timesP gcdL primL clr invP ledO firstNz clrAll stepRow runRows Good OkU OkK Sml Oki lessP lessAll firstP leadP leadsP withinP dotFrom dotP at0 Can)
open UfZ (Kd)
open Evl (Ex)
/-! ### numbers times rows: their bits -/
theorem Lv.canon {e b : Nat} {p : Int} {x : LP} (h : Lv e b p x) : Can p x := by
  unfold UfL.Can
  split
  · rename_i z
    obtain ⟨q, _, rfl, _⟩ := h.1 z
    exact ⟨q, rfl⟩
  · rename_i z
    exact h.2 z
theorem Lv.upB {e b b' : Nat} {p : Int} {x : LP} (h : Lv e b p x) (hb : b ≤ b') : Lv e b' p x := ⟨fun z => by
  obtain ⟨q, N, h1, h2, h3⟩ := h.1 z
  exact ⟨q, N, h1, h2, Nat.lt_of_lt_of_le h3 (Nat.pow_le_pow_right (by decide) hb)⟩, h.2⟩
theorem Lv.upE {e b : Nat} {p : Int} {x : LP} (h : Lv e b p x) : Lv (e + 1) (b + 3) p x := ⟨fun z => by
  obtain ⟨q, N, h1, h2, h3⟩ := h.1 z
  refine ⟨q, 6 * N, h1, ?_, ?_⟩
  · rw [Rat.intCast_mul, h2, Nat.pow_succ, Rat.natCast_mul]
    have : ((6 : Int) : Rat) = ((6 : Nat) : Rat) := rfl
    rw [this]
    grind
  · rw [Int.natAbs_mul, Nat.pow_add]
    have : (6 : Int).natAbs = 6 := rfl
    rw [this]
    omega, h.2⟩
theorem Lv.zero {e b : Nat} {p : Int} (g : Gok p) : Lv e b p (0, 1) := ⟨fun _ => ⟨0, 0, rfl, by
  show (0 : Rat) = _
  grind, Nat.two_pow_pos b⟩, fun z => ⟨rfl, Int.le_refl _, by unfold Gok at g; show 0 < p; omega⟩⟩
theorem pr_low {a b : Rat} : lowP 0 (a.num * (b.den : Int) + b.num * (a.den : Int)) ((a.den : Int) * (b.den : Int)) = pr (a + b) := by
  unfold lowP pr
  rw [if_pos rfl, q_add]
theorem pr_lowT {a b : Rat} : lowP 0 (a.num * b.num) ((a.den : Int) * (b.den : Int)) = pr (a * b) := by
  unfold lowP pr
  rw [if_pos rfl, q_mul]
theorem Lv.plus {e b c : Nat} {p : Int} {x y : LP} (g : Gok p) (hx : Lv e b p x) (hy : Lv e c p y) : Lv e (max b c + 1) p (plusP p x y) := by
  refine ⟨fun z => ?_, fun z => (low_bb (b := 1) g fun z' => (z z').elim).2 z⟩
  subst z
  obtain ⟨q, N, rfl, h2, h3⟩ := hx.1 rfl
  obtain ⟨q', N', rfl, h5, h6⟩ := hy.1 rfl
  refine ⟨q + q', N + N', pr_low, ?_, ?_⟩
  · rw [Rat.intCast_add, h2, h5]
    grind
  · have := Int.natAbs_add_le N N'
    have p1 := Nat.pow_le_pow_right (show 0 < 2 by decide) (Nat.le_max_left b c)
    have p2 := Nat.pow_le_pow_right (show 0 < 2 by decide) (Nat.le_max_right b c)
    rw [Nat.pow_succ]
    omega
theorem Lv.times {e e' b b' : Nat} {p : Int} {x y : LP} (g : Gok p) (hx : Lv e b p x) (hy : Lv e' b' p y) : Lv (e + e') (b + b') p (timesP p x y) := by
  refine ⟨fun z => ?_, fun z => (low_bb (b := 1) g fun z' => (z z').elim).2 z⟩
  subst z
  obtain ⟨q, N, rfl, h2, h3⟩ := hx.1 rfl
  obtain ⟨q', N', rfl, h5, h6⟩ := hy.1 rfl
  refine ⟨q * q', N * N', pr_lowT, ?_, ?_⟩
  · rw [Rat.intCast_mul, h2, h5, Nat.pow_add, Rat.natCast_mul]
    grind
  · rw [Int.natAbs_mul, Nat.pow_add]
    exact Nat.mul_lt_mul'' h3 h6
theorem at0_lv {e b : Nat} {p : Int} (g : Gok p) {u : List LP} (h : ∀ x ∈ u, Lv e b p x) (j : Nat) : Lv e b p (at0 u j) := by
  unfold at0
  rw [List.getD_eq_getElem?_getD]
  cases e : u[j]? with
  | none => exact Lv.zero g
  | some x => exact h x (List.mem_of_getElem? e)
theorem comb_len (p : Int) (size : Nat) (rows : List (List LP)) (shares : List LP) : (combP p size rows shares).length = size := by
  unfold combP
  have : ∀ (l : List (List LP × LP)) (z : List LP), z.length = size → (l.foldl (fun line rs => (List.range size).map fun k => plusP p (at0 line k) (timesP p rs.2 (at0 rs.1 k))) z).length = size := fun l => by
    induction l with
    | nil => exact fun z h => h
    | cons a l ih =>
      intro z h
      rw [List.foldl_cons]
      exact ih _ (by rw [List.length_map, List.length_range])
  exact this _ _ (by rw [List.length_map, List.length_range])
theorem comb_lv {e b : Nat} {p : Int} (g : Gok p) (size : Nat) {rows : List (List LP)} {shares : List LP} (hr : ∀ r ∈ rows, ∀ x ∈ r, Lv e b p x) (hs : ∀ s ∈ shares, Fresh p s) : ∀ x ∈ combP p size rows shares, Lv (1 + e) (103 + b + rows.length) p x := by
  unfold combP
  have : ∀ (l : List (List LP × LP)) (z : List LP) (m : Nat), (∀ rs ∈ l, (∀ x ∈ rs.1, Lv e b p x) ∧ Fresh p rs.2) → (∀ x ∈ z, Lv (1 + e) (103 + b + m) p x) → ∀ x ∈ l.foldl (fun line rs => (List.range size).map fun k => plusP p (at0 line k) (timesP p rs.2 (at0 rs.1 k))) z, Lv (1 + e) (103 + b + (m + l.length)) p x := fun l => by
    induction l with
    | nil => exact fun z m _ h => h
    | cons a l ih =>
      intro z m hl hz x hx
      rw [List.foldl_cons] at hx
      have := ih _ (m + 1) (fun rs hrs => hl rs (List.mem_cons_of_mem _ hrs)) (fun y hy => by
        obtain ⟨k, _, rfl⟩ := List.mem_map.mp hy
        obtain ⟨h1, h2⟩ := hl a List.mem_cons_self
        have t := Lv.times g h2 (at0_lv g h1 k)
        have s := (at0_lv g hz k).plus g t
        rw [Nat.max_eq_left (by omega)] at s
        exact s) x hx
      rw [List.length_cons]
      rw [show m + (l.length + 1) = m + 1 + l.length by omega]
      exact this
  intro x hx
  have := this (rows.zip shares) _ 0 (fun rs hrs => ⟨hr _ (List.of_mem_zip hrs).1, hs _ (List.of_mem_zip hrs).2⟩) (fun y hy => by
    obtain ⟨k, _, rfl⟩ := List.mem_map.mp hy
    exact Lv.zero g) x hx
  refine this.upB ?_
  rw [List.length_zip]
  omega
theorem comb_ok {e b : Nat} {p : Int} (g : Gok p) {size : Nat} {rows : List (List LP)} (hr : ∀ r ∈ rows, r.length = size ∧ ∀ x ∈ r, Lv e b p x) (he : e ≤ 100) (hb : b + rows.length ≤ 1800) : CombOk p size rows := by
  refine ⟨fun r h => ⟨(hr r h).1, fun x hx => ((hr r h).2 x hx).bb (by omega) (by omega)⟩, fun shares i hs x hx => ?_⟩
  have := comb_lv g size (rows := rows.take i) (fun r h => (hr r (List.mem_of_mem_take h)).2) hs x hx
  refine this.bb ?_ (by omega)
  rw [List.length_take]
  omega
theorem comb_snoc {p : Int} {size i : Nat} {rows : List (List LP)} {shares : List LP} {r : List LP} {s : LP} (hs : shares.length = i) (hr : rows[i]? = some r) :
    combP p size (rows.take (i + 1)) (shares ++ [s]) = (List.range size).map fun k => plusP p (at0 (combP p size (rows.take i) shares) k) (timesP p s (at0 r k)) := by
  unfold combP
  have hi := (List.getElem?_eq_some_iff.mp hr).1
  rw [List.take_add_one, hr, show (some r).toList = [r] from rfl, List.zip_append (by rw [List.length_take]; omega), List.foldl_append]
  rfl
section
variable {P : Program} {w : World} {K : PySem.W.Frag} {mg : Str → Option Value} {base : Heap}
/-! ### _law_combined -/
theorem sc_combined : FnScope ["pool", "p", "size", "rows", "line", "row", "share", "k"] ["pool", "p", "size", "rows"] (defScope s_combined) := ⟨rfl, rfl, rfl, by decide +kernel, rfl, by decide +kernel, by decide +kernel⟩
def sp_combined : Sp := fun vs H Q E => ∃ (p : Int) (size : Nat) (rows : List (List LP)), PoolSp 60 (fun ws G => ∃ t xs, ws = [.int p, .int size, .ref t] ∧ Gok p ∧ G t = some (.lst xs) ∧ RR G xs rows ∧ size ≤ 1000 ∧ rows.length ≤ 14 ∧ CombOk p size rows)
  (fun _ _ G' v => ∃ shares, shares.length = rows.length ∧ (∀ s ∈ shares, Fresh p s) ∧ RP G' v (combP p size rows shares)) vs H Q E
theorem ok_combined (T : Tx K mg) : FnOk P w K mg base CX0 4 T.combined.f T.combined.fd ["pool", "p", "size", "rows"] sp_combined := by
  refine T.combined.F.ok sc_combined (fun vs H Q E h => ?_) (fun cdv A outer s H vs Q E hr h => ?_)
  · obtain ⟨p, size, rows, G, a, c, n, ws, rfl, _, _, ⟨t, xs, rfl, _⟩, _⟩ := h
    rfl
  · obtain ⟨p, size, rows, G, a, c, n, ws, rfl, lw, hn, ⟨t, xs, rfl, g, ht, hRR, few, few2, hco, hcb⟩, k⟩ := h
    refine ⟨_, (pss_cons (ps_set (i := 4) sc_combined.nd rfl (.inr rfl) (pe_lc (own := [("k", 7)]) rfl sc_combined.nd (pi_range1 rfl T.z_range (pa_cons (pv 2) pa_nil)) (blkOk_by (own := [("k", 7)]) (N := ["pool", "p", "size", "rows", "line", "row", "share", "k"]) (sc := defScope s_combined) (by decide +kernel)) (fun _ _ _ _ _ => by exact pg_name (i := 7) sc_combined.nd rfl (.inl rfl)) (fun _ _ _ _ _ => pts_nil) (fun _ _ _ _ _ => (pe_tup (pa_cons pe_int (pa_cons pe_int pa_nil))))))
      (pss_cons (ps_for PassesOwn.never rfl (UfK.pi_listK (K := K) (pv 3)) (pg_name (i := 5) sc_combined.nd rfl (.inr rfl)) (pss_cons (ps_set (i := 6) sc_combined.nd rfl (.inr rfl) (pe_call (ok_number T) (hr.mono (by decide)) (by rfl) T.number.g T.number.F.kp T.number.b .nil pass0 (pa_cons (pv 0) (pa_cons (pv 1) pa_nil))))
      (pss_one (ps_set (i := 4) sc_combined.nd rfl (.inr rfl) (pe_lc (own := [("k", 7)]) rfl sc_combined.nd (pi_range1 rfl T.z_range (pa_cons (pv 2) pa_nil)) (blkOk_by (own := [("k", 7)]) (N := ["pool", "p", "size", "rows", "line", "row", "share", "k"]) (sc := defScope s_combined) (by decide +kernel)) (fun _ _ _ _ _ => by exact pg_name (i := 7) sc_combined.nd rfl (.inl rfl)) (fun _ _ _ _ _ => pts_nil) (fun _ _ _ _ _ => (pe_call (ok_plus T) (hr.mono (by decide)) (by rfl) T.plus.g T.plus.F.kp T.plus.b .nil pass0 (pa_cons (pv 1) (pa_cons (pe_ix (UfK.ix_listK (K := K)) (pv 4) (pv 7) (fun _ _ => rfl)) (pa_cons (pe_call (ok_times T) (hr.mono (by decide)) (by rfl) T.times.g T.times.F.kp T.times.b .nil pass0 (pa_cons (pv 1) (pa_cons (pv 6) (pa_cons (pe_ix (UfK.ix_listK (K := K)) (pv 5) (pv 7) (fun _ _ => rfl)) pa_nil)))) pa_nil))))))))))
      (pss_one (ps_ret (pv 4))))), ?_⟩
    refine ⟨_, rfl, (size : Int), rfl, by omega, by omega, fun D hD => ?_⟩
    refine UfW.lc_rng (n := size) (pf := fun _ => some (a, c, n)) (R := RJ (combP p size [] [])) lw hD (by omega) RJ.mono (fun i acc G3 H3 hi e3 lw Nx kk => ?_) (fun G1 H1 zs e1 lw h1 hl1 hy1 => ?_)
    · refine ⟨rfl, Evl.sz_of (by show 2 ≤ 100000; decide), fun t5 n5 => ?_⟩
      obtain ⟨G4, e4, lw, h4⟩ := lw.allocE (o := .tup [.int 0, .int 1]) n5
      exact kk _ _ _ e4 lw ⟨(0, 1), range_at hi, t5, rfl, h4⟩
    · have ht1 := e1 _ _ ht
      refine gName_ap ?_
      refine ⟨_, rfl, t, rfl, ⟨_, SqL.g lw ht1⟩, ?_⟩
      refine for_list (xs := xs) (fun i σ' H' => ∃ (z5 z6 z7 : Option V) (v : V) (shares : List LP) (G' : Hp), σ' = [some (.ref a), some (.int p), some (.int size), some (.ref t), some v, z5, z6, z7] ∧ Lw H G (some (a, c, n + 4 * i)) [] G' H' ∧ Ex G1 G' ∧ shares.length = i ∧ (∀ s ∈ shares, Fresh p s) ∧ RP G' v (combP p size (rows.take i) shares))
        ⟨none, none, none, .ref D, [], G1, rfl, lw, Ex.refl _, rfl, nofun, D, zs, rfl, h1, by rw [hl1, comb_len], hy1⟩ (fun i σ' H' _ hp => ?_) (fun i x σ' H' hx' hp => ?_) (fun σ' H' hp => ?_)
      · obtain ⟨_, _, _, _, _, _, rfl, lw, e2, _⟩ := hp
        exact SqL.g lw (e2 _ _ ht1)
      · obtain ⟨z5, z6, z7, v, shares, G2, rfl, lw, e2, hsl, hsf, hv⟩ := hp
        obtain ⟨r, hr, hR⟩ := hRR.2 i x hx'
        have hil := (List.getElem?_eq_some_iff.mp hr).1
        obtain ⟨hrl, hrb⟩ := hco r (List.mem_of_getElem? hr)
        have hlb := hcb shares i hsf
        refine gName_ap ?_
        refine ⟨_, rfl, _, rfl, p, call_pool (d := 4) lw (by omega) ⟨rfl, g⟩ fun G3 H3 vs e3 lw hvs => ?_⟩
        obtain ⟨sh, hsh, hshf⟩ := hvs
        have hsb := Lv.bb hshf (c := 1980) (by decide) (by decide)
        refine gName_ap ?_
        obtain ⟨tl, ll, rfl, htl, hll, hlx⟩ := hv.ex e3
        obtain ⟨tr, lr, rfl, htr, hlr, hrx⟩ := hR.ex ((e1.trans e2).trans e3)
        rw [comb_len] at hll
        refine ⟨_, rfl, (size : Int), rfl, by omega, by omega, fun D4 hD4 => ?_⟩
        refine UfW.lc_rng (n := size) (pf := fun _ => some (a, c, n + 4 * i + 4)) (R := RJ (combP p size (rows.take (i + 1)) (shares ++ [sh]))) lw hD4 (by omega) RJ.mono (fun j acc G5 H5 hj e5 lw Nx kk => ?_) (fun G5 H5 zs5 e5 lw h5 hl5 hy5 => ?_)
        · rw [Int.zero_add]
          obtain ⟨vi, ti, hvi, rfl, hti, hTi⟩ := RP.at (by rw [hll, comb_len]) hlx (i := j) (by rw [comb_len]; exact hj)
          obtain ⟨wi, si, hwi, rfl, hsi, hSi⟩ := RP.at hlr hrx (i := j) (by omega)
          have bi := at0_bb g (by decide) hlb j
          have ci := at0_bb g (by decide) hrb j
          refine ⟨rfl, _, rfl, _, rfl, _, rfl, tl, ll, (j : Int), _, rfl, rfl, SqL.g lw (e5 _ _ htl), atI_nat hvi, _, rfl, _, rfl, _, rfl, _, rfl, tr, lr, (j : Int), _, rfl, rfl, SqL.g lw (e5 _ _ htr), atI_nat hwi, ?_⟩
          refine call_times lw g (hsh.ex e5) (hSi.ex e5) (hsb.up (by decide)) (ci.up (by decide)) fun G6 H6 v6 e6 lw hv6 => ?_
          refine call_plus lw g (hTi.ex (e5.trans e6)) hv6 (bi.up (by decide)) ((times_bb g hsb ci).up (by decide)) fun G7 H7 v7 e7 lw hv7 => kk _ _ _ (e6.trans e7) lw ⟨_, ?_, hv7⟩
          rw [comb_snoc hsl hr, range_at hj]
        · refine ⟨_, _, _, _, shares ++ [sh], G5, rfl, by rw [show n + 4 * (i + 1) = n + 4 * i + 4 by omega]; exact lw, e2.trans (e3.trans e5), by rw [List.length_append, hsl]; rfl, fun s hs => ?_, D4, zs5, rfl, h5, by rw [hl5, comb_len], hy5⟩
          rcases List.mem_append.mp hs with hs | hs
          · exact hsf s hs
          · rw [show s = sh by simpa using hs]
            exact hshf
      · obtain ⟨_, _, _, v, shares, G2, rfl, lw, e2, hsl, hsf, hv⟩ := hp
        rw [hRR.1] at hsl
        rw [hRR.1, List.take_length] at hv
        exact ⟨_, rfl, k _ _ _ (lw.more (by rw [hRR.1]; omega)) ⟨shares, hsl, hsf, hv⟩⟩
end
end K06

namespace K06
open PySem PySem.Spec PyProof.Rows L2 UfG UfT UfR UfO UfI UfQ UfN UfW
open UfL (LP lowP plusP timesP gcdL primL clr invP ledO firstNz clrAll stepRow runRows Good OkU OkK Sml Oki lessP lessAll firstP leadP leadsP withinP dotFrom dotP at0 Can)
open UfZ (Kd)
open Evl (Ex)
theorem Lv.to {p : Int} {x : LP} : ∀ {e b e' b' : Nat}, Lv e b p x → e ≤ e' → b + 3 * (e' - e) ≤ b' → Lv e' b' p x := fun {e b e' b'} h he hb => by
  obtain ⟨d, rfl⟩ : ∃ d, e' = e + d := ⟨e' - e, by omega⟩
  have : ∀ d, Lv (e + d) (b + 3 * d) p x := fun d => by
    induction d with
    | zero => exact h
    | succ d ih => exact ih.upE
  exact (this d).upB (by omega)
/-- rows as they are drawn -/
inductive Drawn (p : Int) (size : Nat) : List (List LP) → Prop
  | nil : Drawn p size []
  | comb {rows : List (List LP)} {shares : List LP} : Drawn p size rows → shares.length = (rows.take 3).length → (∀ s ∈ shares, Fresh p s) → Drawn p size (rows ++ [combP p size (rows.take 3) shares])
  | copy {rows : List (List LP)} {r : List LP} : Drawn p size rows → r ∈ rows → Drawn p size (rows ++ [r])
  | fresh {rows : List (List LP)} {r : List LP} : Drawn p size rows → r.length = size → (∀ x ∈ r, Fresh p x) → Drawn p size (rows ++ [r])
def lvE (i : Nat) : Nat := min i 3 + 1
def lvB : Nat → Nat
  | 0 => 103
  | 1 => 207
  | 2 => 312
  | _ => 418
theorem lvB_mono : ∀ {i j : Nat}, i ≤ j → lvB i + 3 * (lvE j - lvE i) ≤ lvB j
  | 0, 0, _ => by decide
  | 0, 1, _ => by decide
  | 0, 2, _ => by decide
  | 0, j + 3, _ => by unfold lvE; show 103 + _ ≤ 418; omega
  | 1, 1, _ => by decide
  | 1, 2, _ => by decide
  | 1, j + 3, _ => by unfold lvE; show 207 + _ ≤ 418; omega
  | 2, 2, _ => by decide
  | 2, j + 3, _ => by unfold lvE; show 312 + _ ≤ 418; omega
  | i + 3, j + 3, _ => by unfold lvE; show 418 + _ ≤ 418; omega
theorem lvE_mono {i j : Nat} (h : i ≤ j) : lvE i ≤ lvE j := by unfold lvE; omega
theorem Drawn.lv {p : Int} (g : Gok p) {size : Nat} {rows : List (List LP)} (h : Drawn p size rows) : ∀ (i : Nat) (r : List LP), rows[i]? = some r → r.length = size ∧ ∀ x ∈ r, Lv (lvE i) (lvB i) p x := by
  have app : ∀ {rows : List (List LP)} {s : List LP}, (∀ (i : Nat) (r : List LP), rows[i]? = some r → r.length = size ∧ ∀ x ∈ r, Lv (lvE i) (lvB i) p x) → (s.length = size ∧ ∀ x ∈ s, Lv (lvE rows.length) (lvB rows.length) p x) →
      ∀ (i : Nat) (r : List LP), (rows ++ [s])[i]? = some r → r.length = size ∧ ∀ x ∈ r, Lv (lvE i) (lvB i) p x := fun {rows s} ih hs i r hr => by
    by_cases hi : i < rows.length
    · rw [List.getElem?_append_left hi] at hr
      exact ih i r hr
    · have hj := (List.getElem?_eq_some_iff.mp hr).1
      rw [List.length_append, List.length_singleton] at hj
      have e : i = rows.length := by omega
      rw [List.getElem?_append_right (by omega), e, Nat.sub_self] at hr
      cases hr
      rw [e]
      exact hs
  induction h with
  | nil => exact fun i r h => by cases h
  | @comb rows shares h hl hs ih =>
    refine app ih ⟨comb_len _ _ _ _, ?_⟩
    have key : ∀ (m : Nat), m ≤ 3 → rows.length = m ∨ (m = 3 ∧ 3 ≤ rows.length) → ∀ (e b : Nat), (∀ i, i < m → lvE i ≤ e ∧ lvB i + 3 * (e - lvE i) ≤ b) → ∀ x ∈ combP p size (rows.take 3) shares, Lv (1 + e) (103 + b + m) p x := fun m hm hlen e b hb x hx => by
      have hlt : (rows.take 3).length = m := by rw [List.length_take]; omega
      have := comb_lv g size (rows := rows.take 3) (e := e) (b := b) (fun r hr y hy => by
        obtain ⟨i, hi⟩ := List.mem_iff_getElem?.mp hr
        have hil := (List.getElem?_eq_some_iff.mp hi).1
        rw [List.getElem?_take] at hi
        split at hi
        · obtain ⟨h1, h2⟩ := hb i (by omega)
          exact ((ih i r hi).2 y hy).to h1 h2
        · cases hi) hs x hx
      rw [hlt] at this
      exact this
    match hlen : rows.length with
    | 0 => exact fun x hx => key 0 (by decide) (.inl hlen) 0 0 (fun i hi => absurd hi (Nat.not_lt_zero i)) x hx
    | 1 => exact fun x hx => key 1 (by decide) (.inl hlen) 1 103 (fun i hi => by
        have : i = 0 := by omega
        subst this
        decide) x hx
    | 2 => exact fun x hx => key 2 (by decide) (.inl hlen) 2 207 (fun i hi => by
        have : i = 0 ∨ i = 1 := by omega
        rcases this with rfl | rfl <;> decide) x hx
    | n + 3 =>
      intro x hx
      have := key 3 (by decide) (.inr ⟨rfl, by omega⟩) 3 312 (fun i hi => by
        have : i = 0 ∨ i = 1 ∨ i = 2 := by omega
        rcases this with rfl | rfl | rfl <;> decide) x hx
      have e : lvE (n + 3) = 1 + 3 := by unfold lvE; omega
      rw [e]
      exact this
  | @copy rows r h hr ih =>
    refine app ih ?_
    obtain ⟨i, hi⟩ := List.mem_iff_getElem?.mp hr
    have hil := (List.getElem?_eq_some_iff.mp hi).1
    obtain ⟨h1, h2⟩ := ih i r hi
    exact ⟨h1, fun x hx => (h2 x hx).to (lvE_mono (by omega)) (lvB_mono (by omega))⟩
  | @fresh rows r h hl hf ih =>
    refine app ih ⟨hl, fun x hx => (hf x hx).to (e := 1) (b := 103) ?_ ?_⟩
    · unfold lvE; omega
    · exact lvB_mono (i := 0) (by omega)
theorem Drawn.lv4 {p : Int} (g : Gok p) {size : Nat} {rows : List (List LP)} (h : Drawn p size rows) : ∀ r ∈ rows, r.length = size ∧ ∀ x ∈ r, Lv 4 418 p x := fun r hr => by
  obtain ⟨i, hi⟩ := List.mem_iff_getElem?.mp hr
  obtain ⟨h1, h2⟩ := h.lv g i r hi
  refine ⟨h1, fun x hx => (h2 x hx).to ?_ ?_⟩
  · unfold lvE; omega
  · have := lvB_mono (i := i) (j := i + 3) (by omega)
    have e : lvE (i + 3) = 4 := by unfold lvE; omega
    rw [e] at this
    exact this
section
variable {P : Program} {w : World} {K : PySem.W.Frag} {mg : Str → Option Value} {base : Heap}
/-! ### _law_drawn -/
theorem sc_drawn : FnScope ["pool", "p", "size", "many", "rows", "k", "kind", "j"] ["pool", "p", "size", "many"] (defScope s_drawn) := ⟨rfl, rfl, rfl, by decide +kernel, rfl, by decide +kernel, by decide +kernel⟩
def sp_drawn : Sp := fun vs H Q E => ∃ (p : Int) (size many : Nat), PoolSp 2000 (fun ws G => ws = [.int p, .int size, .int many] ∧ Gok p ∧ size ≤ 12 ∧ many ≤ 12)
  (fun _ _ G' v => ∃ t xs rows, v = .ref t ∧ G' t = some (.lst xs) ∧ RR G' xs rows ∧ rows.length = many ∧ Drawn p size rows) vs H Q E
theorem ok_drawn (T : Tx K mg) : FnOk P w K mg base CX0 5 T.drawn.f T.drawn.fd ["pool", "p", "size", "many"] sp_drawn := by
  refine T.drawn.F.ok sc_drawn (fun vs H Q E h => ?_) (fun cdv A outer s H vs Q E hr h => ?_)
  · obtain ⟨p, size, many, G, a, c, n, ws, rfl, _, _, ⟨rfl, _⟩, _⟩ := h
    rfl
  · obtain ⟨p, size, many, G, a, c, n, ws, rfl, lw, hn, ⟨rfl, g, few, few2⟩, k⟩ := h
    refine ⟨_, (pss_cons (ps_set (i := 4) sc_drawn.nd rfl (.inl rfl) (pe_lst pa_nil))
      (pss_cons (ps_for PassesOwn.never rfl (pi_range1 rfl T.z_range (pa_cons (pv 3) pa_nil)) (pg_name (i := 5) sc_drawn.nd rfl (.inl rfl)) (pss_cons (ps_set (i := 6) sc_drawn.nd rfl (.inl rfl) (pe_call (ok_draw T) (hr.mono (by decide)) (by rfl) T.draw.g T.draw.F.kp T.draw.b .nil pass0 (pa_cons (pv 0) (pa_cons pe_int pa_nil))))
      (pss_one (ps_if (pt_cmpR op_eq (pv 6) pe_int (nomark _)) (pss_one (ps_expr (pe_bm PySem.F.plainAttrs_list PySem.F.slot_list_append PySem.F.type_list_append mt_append (pv 4) (pa_cons (pe_call (ok_combined T) (hr.mono (by decide)) (by rfl) T.combined.g T.combined.F.kp T.combined.b .nil pass0 (pa_cons (pv 0) (pa_cons (pv 1) (pa_cons (pv 2) (pa_cons (pe_slice (UfK.sl_listK (K := K)) (pv 4) po_none (po_some pe_int)) pa_nil))))) pa_nil)))) (pss_one (ps_if (PW.pt (pw_and (pt_cmpR op_eq (pv 6) pe_int (nomark _)) (pw_and1 (pt_cmpR op_gt (pv 5) pe_int (nomark _))))) (pss_one (ps_expr (pe_bm PySem.F.plainAttrs_list PySem.F.slot_list_append PySem.F.type_list_append mt_append (pv 4) (pa_cons (pe_callTy (UfK.call_list_ofK (K := K)) (by rfl) T.z_list (by decide +kernel) (pa_cons (pe_ix (UfK.ix_listK (K := K)) (pv 4) (pe_call (ok_draw T) (hr.mono (by decide)) (by rfl) T.draw.g T.draw.F.kp T.draw.b .nil pass0 (pa_cons (pv 0) (pa_cons (pv 5) pa_nil))) (fun _ _ => rfl)) pa_nil)) pa_nil)))) (pss_one (ps_expr (pe_bm PySem.F.plainAttrs_list PySem.F.slot_list_append PySem.F.type_list_append mt_append (pv 4) (pa_cons (pe_lc (own := [("j", 7)]) rfl sc_drawn.nd (pi_range1 rfl T.z_range (pa_cons (pv 2) pa_nil)) (blkOk_by (own := [("j", 7)]) (N := ["pool", "p", "size", "many", "rows", "k", "kind", "j"]) (sc := defScope s_drawn) (by decide +kernel)) (fun _ _ _ _ _ => by exact pg_name (i := 7) sc_drawn.nd rfl (.inl rfl)) (fun _ _ _ _ _ => pts_nil) (fun _ _ _ _ _ => (pe_call (ok_number T) (hr.mono (by decide)) (by rfl) T.number.g T.number.F.kp T.number.b .nil pass0 (pa_cons (pv 0) (pa_cons (pv 1) pa_nil))))) pa_nil))))))))))
      (pss_one (ps_ret (pv 4))))), ?_⟩
    refine ⟨Evl.sz_of (by simp), fun R hR => ?_⟩
    refine gName_ap ?_
    have lw := lw.make (o := .lst []) hR
    refine ⟨_, rfl, (many : Int), rfl, by omega, by omega, ?_⟩
    refine for_range (lo := 0) (n := many) (fun i σ' H' => ∃ (z5 z6 z7 : Option V) (xs : List V) (rows : List (List LP)) (G' : Hp), σ' = [some (.ref a), some (.int p), some (.int size), some (.int many), some (.ref R), z5, z6, z7] ∧ Lw H G (some (a, c, n + 120 * i)) [(R, .lst xs)] G' H' ∧ RR G' xs rows ∧ rows.length = i ∧ Drawn p size rows)
      ⟨none, none, none, [], [], G, rfl, lw, ⟨rfl, fun i x h => by cases h⟩, rfl, .nil⟩ (fun i σ' H' hi hp => ?_) (fun σ' H' hp => ?_)
    · obtain ⟨z5, z6, z7, xs, rows, G1, rfl, lw, hRR, hlen, hD⟩ := hp
      rw [Int.zero_add]
      refine gName_ap ?_
      refine ⟨_, rfl, call_draw lw (by decide) (by decide) (by omega) fun G2 H2 d e2 lw d0 d1 => ?_⟩
      refine gName_ap ?_
      have hRR2 := hRR.ex e2
      have fin : ∀ (G3 H3 : Hp) (z6 z7 : Option V) (y : V) (u : List LP), Ex G2 G3 → Lw H G (some (a, c, n + 120 * i + 119)) [(R, .lst xs)] G3 H3 → RP G3 y u → Drawn p size (rows ++ [u]) →
          H3 R = some (.lst xs) ∧ xs.length < sizeLine ∧ ∃ (z5 z6' z7' : Option V) (xs' : List V) (rows' : List (List LP)) (G' : Hp), [some (.ref a), some (.int p), some (.int size), some (.int many), some (.ref R), some (.int i), z6, z7] = [some (.ref a), some (.int p), some (.int size), some (.int many), some (.ref R), z5, z6', z7'] ∧ Lw H G (some (a, c, n + 120 * (i + 1))) [(R, .lst xs')] G' (upd H3 R (.lst (xs ++ [y]))) ∧ RR G' xs' rows' ∧ rows'.length = i + 1 ∧ Drawn p size rows' := fun G3 H3 z6 z7 y u e3 lw hy hdr => by
        refine ⟨lw.at, Evl.sz_lt (by rw [hRR.1]; omega), _, _, _, xs ++ [y], rows ++ [u], G3, rfl, (lw.more (by omega)).put, ⟨by rw [List.length_append, List.length_append, hRR.1]; rfl, fun j x hx => ?_⟩, by rw [List.length_append, hlen]; rfl, hdr⟩
        by_cases hj : j < xs.length
        · rw [List.getElem?_append_left hj] at hx
          rw [List.getElem?_append_left (by rw [← hRR.1]; exact hj)]
          exact (hRR2.ex e3).2 j x hx
        · have hj2 := (List.getElem?_eq_some_iff.mp hx).1
          rw [List.length_append, List.length_singleton] at hj2
          have ej : j = xs.length := by omega
          rw [List.getElem?_append_right (by omega), ej, Nat.sub_self] at hx
          cases hx
          rw [List.getElem?_append_right (by rw [← hRR.1]; omega), ej, hRR.1, Nat.sub_self]
          exact ⟨u, rfl, hy⟩
      refine ⟨_, rfl, rfl, _, rfl, ite2 (fun h => ?_) (fun h => ?_)⟩
      · refine ⟨_, rfl, .inl ⟨rfl, _, SqL.of lw.at⟩, _, rfl, _, rfl, _, rfl, _, rfl, ?_⟩
        refine ⟨3, rfl, R, xs, rfl, SqL.of lw.at, fun t3 n3 => ?_⟩
        rw [show cutV xs none (some 3) = xs.take 3 from cutV_take xs 3]
        obtain ⟨G3, e3, lw, h3⟩ := lw.allocE (o := .lst (xs.take 3)) n3
        have hR3 : RR G3 (xs.take 3) (rows.take 3) := ⟨by rw [List.length_take, List.length_take, hRR.1], fun j x hx => by
          rw [List.getElem?_take] at hx
          split at hx
          · rename_i hj
            rw [List.getElem?_take, if_pos hj]
            exact (hRR2.ex e3).2 j x hx
          · cases hx⟩
        refine ⟨p, size, rows.take 3, call_pool (d := 60) lw (by omega) ⟨t3, _, rfl, g, h3, hR3, by omega, by rw [List.length_take]; omega, ?_⟩ fun G4 H4 v4 e4 lw hv4 => ?_⟩
        · exact comb_ok g (e := 4) (b := 418) (fun r hr => hD.lv4 g r (List.mem_of_mem_take hr)) (by decide) (by rw [List.length_take]; omega)
        · obtain ⟨shares, hs1, hs2, hv4⟩ := hv4
          obtain ⟨f1, f2, f3⟩ := fin G4 H4 _ z7 v4 _ (e3.trans e4) (lw.more (by omega)) hv4 (.comb hD hs1 hs2)
          exact ⟨R, xs, v4, rfl, rfl, f1, f2, f3⟩
      · refine ⟨_, rfl, rfl, _, rfl, ite2 (fun h1 => ⟨_, rfl, _, _, rfl, rfl, _, rfl, ite2 (fun h2 => ?_) (fun h2 => ?_)⟩) (fun h1 => ?_)⟩
        · have h2 : 0 < i := by
            have h2 : (0 : Int) < i := by simpa using h2
            omega
          refine ⟨_, rfl, .inl ⟨rfl, _, SqL.of lw.at⟩, _, rfl, _, rfl, _, rfl, call_draw lw (by omega) (Int.lt_of_lt_of_le (show (i : Int) < 100 by omega) (by decide)) (by omega) fun G3 H3 d3 e3 lw d30 d31 => ?_⟩
          obtain ⟨m, rfl⟩ : ∃ m : Nat, d3 = m := ⟨d3.toNat, by omega⟩
          obtain ⟨x, hx⟩ : ∃ x, xs[m]? = some x := ⟨_, List.getElem?_eq_getElem (by rw [hRR.1]; omega)⟩
          obtain ⟨u, hu, tu, us, rfl, htu, hul, hus⟩ := (hRR2.ex e3).2 m x hx
          refine ⟨R, xs, (m : Int), _, rfl, rfl, SqL.of lw.at, atI_nat hx, tu, us, rfl, .inl (SqL.g lw htu), fun D hD2 => ?_⟩
          obtain ⟨G4, e4, lw, h4⟩ := lw.allocE (o := .lst us) hD2
          obtain ⟨f1, f2, f3⟩ := fin G4 _ _ z7 (.ref D) u (e3.trans e4) (lw.more (by omega)) ⟨D, us, rfl, h4, hul, fun j y hy => by
            obtain ⟨b, h5, h6⟩ := hus j y hy
            exact ⟨b, h5, h6.ex e4⟩⟩ (.copy hD (List.mem_of_getElem? hu))
          exact ⟨R, xs, _, rfl, rfl, f1, f2, f3⟩
        all_goals
          refine ⟨_, rfl, .inl ⟨rfl, _, SqL.of lw.at⟩, _, rfl, (size : Int), rfl, by omega, by omega, fun D hD2 => ?_⟩
          refine UfW.lc_rng (n := size) (pf := fun j => some (a, c, n + 120 * i + 1 + 4 * j)) (R := fun _ G y => ∃ b, TP G y b ∧ Fresh p b) lw hD2 (by omega) (fun i G3 G4 y e h => ?_) (fun j acc G5 H5 hj e5 lw Nx kk => ?_) (fun G5 H5 zs5 e5 lw h5 hl5 hy5 => ?_)
          · obtain ⟨b, h1, h2⟩ := h
            exact ⟨b, h1.ex e, h2⟩
          · refine ⟨rfl, _, rfl, _, rfl, p, call_pool (d := 4) lw (by omega) ⟨rfl, g⟩ fun G6 H6 v6 e6 lw hv6 => ?_⟩
            obtain ⟨b, h1, h2⟩ := hv6
            exact kk _ _ _ e6 lw ⟨b, h1, h2⟩
          · obtain ⟨u, hul, hu⟩ : ∃ u : List LP, u.length = size ∧ ∀ j y, zs5[j]? = some y → ∃ b, u[j]? = some b ∧ TP G5 y b ∧ Fresh p b := by
              have : ∀ (l : List V), (∀ y ∈ l, ∃ b, TP G5 y b ∧ Fresh p b) → ∃ u : List LP, u.length = l.length ∧ ∀ (j : Nat) (y : V), l[j]? = some y → ∃ b, u[j]? = some b ∧ TP G5 y b ∧ Fresh p b := fun l => by
                induction l with
                | nil => exact fun _ => ⟨[], rfl, fun j y h => by cases h⟩
                | cons y l ih =>
                  intro h
                  obtain ⟨b, h1, h2⟩ := h y List.mem_cons_self
                  obtain ⟨u, h3, h4⟩ := ih fun z hz => h z (List.mem_cons_of_mem _ hz)
                  refine ⟨b :: u, by rw [List.length_cons, List.length_cons, h3], fun j z hz => ?_⟩
                  cases j with
                  | zero =>
                    cases hz
                    exact ⟨b, rfl, h1, h2⟩
                  | succ j => exact h4 j z hz
              obtain ⟨u, h3, h4⟩ := this zs5 fun y hy => by
                obtain ⟨j, hj⟩ := List.mem_iff_getElem?.mp hy
                exact hy5 j y hj
              exact ⟨u, by rw [h3, hl5], h4⟩
            obtain ⟨f1, f2, f3⟩ := fin G5 _ _ z7 (.ref D) u e5 (lw.more (by omega)) ⟨D, zs5, rfl, h5, by rw [hl5, hul], fun j y hy => by
              obtain ⟨b, h5, h6, _⟩ := hu j y hy
              exact ⟨b, h5, h6⟩⟩ (.fresh hD hul fun b hb => by
                obtain ⟨j, hj⟩ := List.mem_iff_getElem?.mp hb
                have hjl := (List.getElem?_eq_some_iff.mp hj).1
                obtain ⟨b', h6, _, h7⟩ := hu j _ (List.getElem?_eq_getElem (by omega))
                rw [hj] at h6
                cases h6
                exact h7)
            exact ⟨R, xs, _, rfl, rfl, f1, f2, f3⟩
    · obtain ⟨_, _, _, xs, rows, G1, rfl, lw, hRR, hlen, hD⟩ := hp
      obtain ⟨lw, e2⟩ := lw.keep
      exact ⟨_, rfl, k _ _ _ (lw.more (by omega)) ⟨R, xs, rows, rfl, upd_same, hRR.ex e2, hlen, hD⟩⟩
end
end K06

namespace K06
open PySem PySem.Spec PyProof.Rows L2 UfG UfT UfR UfO UfI UfQ UfN UfW UfD
open UfL (LP lowP plusP timesP gcdL primL clr invP ledO firstNz clrAll stepRow runRows Good OkU OkK Sml Oki lessP lessAll firstP leadP leadsP withinP dotFrom dotP at0 Can)
open UfZ (Kd)
open Evl (Ex)
def HCols (p : Int) (us : List (List LP)) (hc : Mat) : Prop := hc.length = us.length ∧ ∀ (i : Nat) (u : List LP), us[i]? = some u → ∃ qs, hc[i]? = some qs ∧ HRow p u qs
abbrev prs (qs : List Rat) : List LP := qs.map pr
/-- what solved tells is right, by the law's own reckoning -/
def RightOk (p : Int) (us : List (List LP)) (ls : List (Nat × List LP)) (t : List LP) : Prop := ∀ hc ht, HCols p us hc → HRow p t ht → SolOk p hc ht ∧ ∀ ps, Sorted (keptA p hc ht) ps →
  (¬ us.length ∈ ps → withinP p ls t = true ∧ (solN p us.length (keptA p hc ht) ps).length = us.length ∧ (∀ q ∈ solN p us.length (keptA p hc ht) ps, FormOk p q) ∧ ∀ k, k < t.length → DotOk p (0, 1) (prs (solN p us.length (keptA p hc ht) ps)) (us.map fun u => at0 u k) ∧ dotP p (prs (solN p us.length (keptA p hc ht) ps)) (us.map fun u => at0 u k) = at0 t k) ∧
  (us.length ∈ ps → withinP p ls t = false ∧ ∀ ps2 a, Sorted (keptB p t.length hc) ps2 → firstQ (totsB p (kersB p t.length hc ps2) ht) = some a → (barW p (kersB p t.length hc ps2) ht a).length = t.length ∧ (∀ q ∈ barW p (kersB p t.length hc ps2) ht a, FormOk p q) ∧
    (∀ u ∈ us, DotOk p (0, 1) (prs (barW p (kersB p t.length hc ps2) ht a)) u ∧ dotP p (prs (barW p (kersB p t.length hc ps2) ht a)) u = (0, 1)) ∧ DotOk p (0, 1) (prs (barW p (kersB p t.length hc ps2) ht a)) t ∧ dotP p (prs (barW p (kersB p t.length hc ps2) ht a)) t = (1, 1))
/-- pairs as data -/
def pd (x : LP) : PyData := .tuple [.int x.1, .int x.2]
theorem TP.rp {G : Hp} {v : V} {x : LP} (h : TP G v x) : Rp G v (pd x) := by
  obtain ⟨t, rfl, h⟩ := h
  exact .tup h (.cons (.int _) (.cons (.int _) .nil))
theorem rp_pairs {G : Hp} : ∀ {ys : List V} {u : List LP}, ys.length = u.length → (∀ (j : Nat) (y : V), ys[j]? = some y → ∃ a, u[j]? = some a ∧ TP G y a) → RpAll G ys (u.map pd)
  | [], [], _, _ => .nil
  | [], _ :: _, h, _ => nomatch h
  | _ :: _, [], h, _ => nomatch h
  | y :: ys, a :: u, h, hy => by
    obtain ⟨b, h1, h2⟩ := hy 0 y rfl
    cases h1
    exact .cons h2.rp (rp_pairs (Nat.succ.inj h) fun j z hz => hy (j + 1) z hz)
theorem eqv_pd (x y : LP) : PyData.eqv (pd x) (pd y) = decide (x = y) := by
  unfold pd
  rw [show [PyData.int x.1, PyData.int x.2] = [x.1, x.2].map PyData.int from rfl, show [PyData.int y.1, PyData.int y.2] = [y.1, y.2].map PyData.int from rfl, eqv_tupI]
  obtain ⟨a, b⟩ := x
  obtain ⟨c, d⟩ := y
  by_cases h : a = c ∧ b = d
  · obtain ⟨rfl, rfl⟩ := h
    simp
  · rw [decide_eq_false fun z => h (by simpa using z), decide_eq_false fun z => h (by simpa using z)]
theorem eqv_pds : ∀ u : List LP, PyData.eqvAll (u.map pd) (u.map pd) = true
  | [] => by simp [PyData.eqvAll]
  | x :: u => by
    rw [List.map_cons]
    simp only [PyData.eqvAll]
    rw [eqv_pd, eqv_pds u, decide_eq_true rfl]
    rfl
theorem lay_pds : ∀ u : List LP, PyData.canLayAll0 (u.map pd) = true
  | [] => by simp only [List.map_nil, PyData.canLayAll0]
  | x :: u => by
    rw [List.map_cons]
    simp only [PyData.canLayAll0, lay_pds u, pd, PyData.canLay0, Bool.true_and]
theorem depth_pds : ∀ u : List LP, PyData.depthAll (u.map pd) ≤ 2
  | [] => by simp [PyData.depthAll]
  | x :: u => by
    rw [List.map_cons]
    have := depth_pds u
    simp only [PyData.depthAll, pd, PyData.depth] at this ⊢
    omega
theorem shaped_pds (u : List LP) : SeqAt.shaped (.list (u.map pd)) = true := by
  unfold SeqAt.shaped
  have := depth_pds u
  simp only [PyData.canLay0, lay_pds, PyData.depth, Bool.true_and]
  exact decide_eq_true (by omega)
theorem bools_of {ys : List V} {n : Nat} (hl : ys.length = n) (h : ∀ (j : Nat) (y : V), ys[j]? = some y → y = .bl true) : ys = (List.replicate n true).map V.bl := by
  refine List.ext_getElem? fun j => ?_
  rw [List.getElem?_map]
  by_cases hj : j < n
  · rw [List.getElem?_replicate_of_lt hj, List.getElem?_eq_getElem (by omega)]
    rw [h j _ (List.getElem?_eq_getElem (by omega))]
    rfl
  · rw [List.getElem?_eq_none (by omega), List.getElem?_eq_none (by rw [List.length_replicate]; omega)]
    rfl
theorem shaped_pd (x : LP) : SeqAt.shaped (pd x) = true := UfG.shaped_tupI [x.1, x.2]
section
variable {P : Program} {w : World} {K : PySem.W.Frag} {mg : Str → Option Value} {base : Heap}
theorem sc_right : FnScope ["pool", "p", "columns", "leads", "target", "handed", "goal", "answer", "word", "numbers", "sums", "zeros", "column", "number", "pair", "k"] ["pool", "p", "columns", "leads", "target"] (defScope s_right) := ⟨rfl, rfl, rfl, by decide +kernel, rfl, by decide +kernel, by decide +kernel⟩
def sp_right : Sp := fun vs H Q E => ∃ (p : Int) (us : List (List LP)) (ls : List (Nat × List LP)) (t : List LP), PoolSp 20 (fun ws G => ∃ tc xs tl ys y, ws = [.int p, .ref tc, .ref tl, y] ∧ Gok p ∧ fitP p = true ∧ G tc = some (.lst xs) ∧ RR G xs us ∧ G tl = some (.lst ys) ∧ LD G ys ls ∧ RP G y t ∧
  us.length ≤ 14 ∧ t.length ≤ 14 ∧ (∀ u ∈ us, u.length = t.length ∧ ∀ x ∈ u, CanB p x) ∧ (∀ x ∈ t, CanB p x) ∧ LessOk p t.length ls t ∧ RightOk p us ls t) (fun _ _ _ v => v = .bl true) vs H Q E
theorem ok_right (T : Tx K mg) : FnOk P w K mg base CX0 18 T.right.f T.right.fd ["pool", "p", "columns", "leads", "target"] sp_right := by
  refine T.right.F.ok sc_right (fun vs H Q E h => ?_) (fun cdv A outer s H vs Q E hr h => ?_)
  · obtain ⟨p, us, ls, t, G, a, c, n, ws, rfl, _, _, ⟨tc, xs, tl, ys, y, rfl, _⟩, _⟩ := h
    rfl
  · obtain ⟨p, us, ls, t, G, a, c, n, ws, rfl, lw, hn, ⟨tc, xs, tl, ys, y, rfl, g, fit, htc, hRR, htl, hLD, hRP, few, few2, hus, htb, hless, hright⟩, k⟩ := h
    refine ⟨_, (pss_cons (ps_setLc (i := 5) (own := [("column", 12)]) rfl sc_right.nd rfl rfl (sw_true rfl rfl rfl (by decide +kernel)) (UfK.pi_listK (K := K) (pv 2)) (blkOk_by (own := [("column", 12)]) (N := ["pool", "p", "columns", "leads", "target", "handed", "goal", "answer", "word", "numbers", "sums", "zeros", "column", "number", "pair", "k"]) (sc := defScope s_right) (by decide +kernel)) (fun _ _ _ _ _ => by exact pg_name (i := 12) sc_right.nd rfl (.inl rfl)) (fun _ _ _ _ _ => pts_nil) (fun _ _ _ _ _ => (pe_call (ok_handed T) (hr.mono (by decide)) (by rfl) T.handed.g T.handed.F.kp T.handed.b .nil pass0 (pa_cons (pv 0) (pa_cons (pv 1) (pa_cons (pv 12) pa_nil))))))
      (pss_cons (ps_set (i := 6) sc_right.nd rfl (.inl rfl) (pe_call (ok_handed T) (hr.mono (by decide)) (by rfl) T.handed.g T.handed.F.kp T.handed.b .nil pass0 (pa_cons (pv 0) (pa_cons (pv 1) (pa_cons (pv 4) pa_nil)))))
      (pss_cons (ps_set (i := 7) sc_right.nd rfl (.inl rfl) (pe_call (ok_ask T) (hr.mono (by decide)) (by rfl) T.ask.g T.ask.F.kp T.ask.b .nil pass0 (pa_cons (pv 1) (pa_cons (pv 5) (pa_cons (pv 6) pa_nil)))))
      (pss_cons (ps_if (PW.pt (pw_or (pt_cmpR (UfK.op_neDK (K := K) hr.units) (pe_lc (own := [("column", 12)]) rfl sc_right.nd (UfK.pi_listK (K := K) (pv 5)) (blkOk_by (own := [("column", 12)]) (N := ["pool", "p", "columns", "leads", "target", "handed", "goal", "answer", "word", "numbers", "sums", "zeros", "column", "number", "pair", "k"]) (sc := defScope s_right) (by decide +kernel)) (fun _ _ _ _ _ => by exact pg_name (i := 12) sc_right.nd rfl (.inl rfl)) (fun _ _ _ _ _ => pts_nil) (fun _ _ _ _ _ => (pe_callB (UfK.call_lenK (K := K)) (by rfl) T.z_len (by decide +kernel) (pa_cons (pv 12) pa_nil)))) (pe_lc (own := [("column", 12)]) rfl sc_right.nd (UfK.pi_listK (K := K) (pv 2)) (blkOk_by (own := [("column", 12)]) (N := ["pool", "p", "columns", "leads", "target", "handed", "goal", "answer", "word", "numbers", "sums", "zeros", "column", "number", "pair", "k"]) (sc := defScope s_right) (by decide +kernel)) (fun _ _ _ _ _ => by exact pg_name (i := 12) sc_right.nd rfl (.inl rfl)) (fun _ _ _ _ _ => pts_nil) (fun _ _ _ _ _ => (pe_callB (UfK.call_lenK (K := K)) (by rfl) T.z_len (by decide +kernel) (pa_cons (pv 4) pa_nil)))) (nomark _)) (pw_or1 (pt_cmpR op_ne (pe_callB (UfK.call_lenK (K := K)) (by rfl) T.z_len (by decide +kernel) (pa_cons (pv 6) pa_nil)) (pe_callB (UfK.call_lenK (K := K)) (by rfl) T.z_len (by decide +kernel) (pa_cons (pv 4) pa_nil)) (nomark _))))) (pss_one (ps_ret pe_bl)) pss_nil)
      (pss_cons (ps_if (PW.pt (pw_or (pt_cmpR op_ne (pe_ix (UfK.ix_tupK (K := K)) (pv 7) pe_int (fun _ _ => rfl)) pe_str (nomark _)) (pw_or (pt_not (pt_val (pe_callB (UfK.call_isiK' (K := K)) (by rfl) T.z_isinstance (by decide +kernel) (pa_cons (pe_ix (UfK.ix_tupK (K := K)) (pv 7) pe_int (fun _ _ => rfl)) (pa_cons (pe_bltn (by rfl) T.z_tuple (by decide +kernel) (show RelV (.ty "tuple") _ from rfl)) pa_nil))))) (pw_or1 (pt_cmpR op_ne (pe_callB (UfK.call_lenK (K := K)) (by rfl) T.z_len (by decide +kernel) (pa_cons (pe_ix (UfK.ix_tupK (K := K)) (pv 7) pe_int (fun _ _ => rfl)) pa_nil)) pe_int (nomark _)))))) (pss_one (ps_ret pe_bl)) pss_nil)
      (pss_cons (ps_set (i := 8) sc_right.nd rfl (.inl rfl) (pe_ix (UfK.ix_tupK (K := K)) (pe_ix (UfK.ix_tupK (K := K)) (pv 7) pe_int (fun _ _ => rfl)) pe_int (fun _ _ => rfl)))
      (pss_cons (ps_if (PW.pt (pw_or (pt_not (pt_val (pe_callB (UfK.call_isiK' (K := K)) (by rfl) T.z_isinstance (by decide +kernel) (pa_cons (pv 8) (pa_cons (pe_bltn (by rfl) T.z_str (by decide +kernel) (show RelV (.ty "str") _ from rfl)) pa_nil))))) (pw_or1 (pt_not (pt_val (pe_callB (UfK.call_isiK' (K := K)) (by rfl) T.z_isinstance (by decide +kernel) (pa_cons (pe_ix (UfK.ix_tupK (K := K)) (pe_ix (UfK.ix_tupK (K := K)) (pv 7) pe_int (fun _ _ => rfl)) pe_int (fun _ _ => rfl)) (pa_cons (pe_bltn (by rfl) T.z_tuple (by decide +kernel) (show RelV (.ty "tuple") _ from rfl)) pa_nil)))))))) (pss_one (ps_ret pe_bl)) pss_nil)
      (pss_cons (ps_set (i := 9) sc_right.nd rfl (.inr rfl) (pe_lc (own := [("number", 13)]) rfl sc_right.nd (UfK.pi_tupK (K := K) (pe_ix (UfK.ix_tupK (K := K)) (pe_ix (UfK.ix_tupK (K := K)) (pv 7) pe_int (fun _ _ => rfl)) pe_int (fun _ _ => rfl))) (blkOk_by (own := [("number", 13)]) (N := ["pool", "p", "columns", "leads", "target", "handed", "goal", "answer", "word", "numbers", "sums", "zeros", "column", "number", "pair", "k"]) (sc := defScope s_right) (by decide +kernel)) (fun _ _ _ _ _ => by exact pg_name (i := 13) sc_right.nd rfl (.inl rfl)) (fun _ _ _ _ _ => pts_nil) (fun _ _ _ _ _ => (pe_call (ok_read T) (hr.mono (by decide)) (by rfl) T.read.g T.read.F.kp T.read.b .nil pass0 (pa_cons (pv 1) (pa_cons (pv 13) pa_nil))))))
      (pss_cons (ps_if (pt_not (pt_val (pe_callB (UfK.cr_allK (K := K) rfl) (by rfl) T.z_all (by decide +kernel) (pa_cons (pe_lc (own := [("pair", 14)]) rfl sc_right.nd (UfK.pi_listK (K := K) (pv 9)) (blkOk_by (own := [("pair", 14)]) (N := ["pool", "p", "columns", "leads", "target", "handed", "goal", "answer", "word", "numbers", "sums", "zeros", "column", "number", "pair", "k"]) (sc := defScope s_right) (by decide +kernel)) (fun _ _ _ _ _ => by exact pg_name (i := 14) sc_right.nd rfl (.inl rfl)) (fun _ _ _ _ _ => pts_nil) (fun _ _ _ _ _ => (pe_cmpR op_notN (pv 14) pe_non (nomark _)))) pa_nil)))) (pss_one (ps_ret pe_bl)) pss_nil)
      (pss_cons (ps_if (pt_val (pe_call (ok_within T) (hr.mono (by decide)) (by rfl) T.within.g T.within.F.kp T.within.b .nil pass0 (pa_cons (pv 1) (pa_cons (pv 3) (pa_cons (pv 4) pa_nil))))) (pss_cons (ps_if (PW.pt (pw_or (pt_cmpR op_ne (pv 8) pe_str (nomark _)) (pw_or1 (pt_cmpR op_ne (pe_callB (UfK.call_lenK (K := K)) (by rfl) T.z_len (by decide +kernel) (pa_cons (pv 9) pa_nil)) (pe_callB (UfK.call_lenK (K := K)) (by rfl) T.z_len (by decide +kernel) (pa_cons (pv 2) pa_nil)) (nomark _))))) (pss_one (ps_ret pe_bl)) pss_nil)
      (pss_cons (ps_setLc (i := 10) (own := [("k", 15)]) rfl sc_right.nd rfl rfl (sw_true rfl rfl rfl (by decide +kernel)) (pi_range1 rfl T.z_range (pa_cons (pe_callB (UfK.call_lenK (K := K)) (by rfl) T.z_len (by decide +kernel) (pa_cons (pv 4) pa_nil)) pa_nil)) (blkOk_by (own := [("k", 15)]) (N := ["pool", "p", "columns", "leads", "target", "handed", "goal", "answer", "word", "numbers", "sums", "zeros", "column", "number", "pair", "k"]) (sc := defScope s_right) (by decide +kernel)) (fun _ _ _ _ _ => by exact pg_name (i := 15) sc_right.nd rfl (.inr rfl)) (fun _ _ _ _ _ => pts_nil) (fun _ _ _ _ _ => (pe_call (ok_dot T) (hr.mono (by decide)) (by rfl) T.dot.g T.dot.F.kp T.dot.b .nil pass0 (pa_cons (pv 1) (pa_cons (pv 9) (pa_cons (pe_lc (own := [("column", 12)]) rfl sc_right.nd (UfK.pi_listK (K := K) (pv 2)) (UfI.blkOk_in (own := [("column", 12)]) (N := ["pool", "p", "columns", "leads", "target", "handed", "goal", "answer", "word", "numbers", "sums", "zeros", "column", "number", "pair", "k"]) (by decide +kernel)) (fun _ _ _ _ _ => by exact pg_name (i := 12) sc_right.nd rfl (.inl rfl)) (fun _ _ _ _ _ => pts_nil) (fun _ _ _ _ _ => (pe_ix (UfK.ix_listK (K := K)) (pv 12) (pv 15) (fun _ _ => rfl)))) pa_nil))))))
      (pss_one (ps_ret (pe_cmpR (UfK.op_eqDK (K := K) hr.units) (pv 10) (pe_lc (own := [("pair", 14)]) rfl sc_right.nd (UfK.pi_listK (K := K) (pv 4)) (blkOk_by (own := [("pair", 14)]) (N := ["pool", "p", "columns", "leads", "target", "handed", "goal", "answer", "word", "numbers", "sums", "zeros", "column", "number", "pair", "k"]) (sc := defScope s_right) (by decide +kernel)) (fun _ _ _ _ _ => by exact pg_name (i := 14) sc_right.nd rfl (.inl rfl)) (fun _ _ _ _ _ => pts_nil) (fun _ _ _ _ _ => (pe_tup (pa_cons (pe_ix (UfK.ix_tupK (K := K)) (pv 14) pe_int (fun _ _ => rfl)) (pa_cons (pe_ix (UfK.ix_tupK (K := K)) (pv 14) pe_int (fun _ _ => rfl)) pa_nil))))) (nomark _)))))) pss_nil)
      (pss_cons (ps_if (PW.pt (pw_or (pt_cmpR op_ne (pv 8) pe_str (nomark _)) (pw_or1 (pt_cmpR op_ne (pe_callB (UfK.call_lenK (K := K)) (by rfl) T.z_len (by decide +kernel) (pa_cons (pv 9) pa_nil)) (pe_callB (UfK.call_lenK (K := K)) (by rfl) T.z_len (by decide +kernel) (pa_cons (pv 4) pa_nil)) (nomark _))))) (pss_one (ps_ret pe_bl)) pss_nil)
      (pss_cons (ps_setLc (i := 11) (own := [("column", 12)]) rfl sc_right.nd rfl rfl (sw_true rfl rfl rfl (by decide +kernel)) (UfK.pi_listK (K := K) (pv 2)) (blkOk_by (own := [("column", 12)]) (N := ["pool", "p", "columns", "leads", "target", "handed", "goal", "answer", "word", "numbers", "sums", "zeros", "column", "number", "pair", "k"]) (sc := defScope s_right) (by decide +kernel)) (fun _ _ _ _ _ => by exact pg_name (i := 12) sc_right.nd rfl (.inl rfl)) (fun _ _ _ _ _ => pts_nil) (fun _ _ _ _ _ => (pe_call (ok_dot T) (hr.mono (by decide)) (by rfl) T.dot.g T.dot.F.kp T.dot.b .nil pass0 (pa_cons (pv 1) (pa_cons (pv 9) (pa_cons (pv 12) pa_nil))))))
      (pss_one (ps_ret (pe_and (pe_cmpR (UfK.op_eqDK (K := K) hr.units) (pv 11) (pe_lc (own := [("column", 12)]) rfl sc_right.nd (UfK.pi_listK (K := K) (pv 2)) (blkOk_by (own := [("column", 12)]) (N := ["pool", "p", "columns", "leads", "target", "handed", "goal", "answer", "word", "numbers", "sums", "zeros", "column", "number", "pair", "k"]) (sc := defScope s_right) (by decide +kernel)) (fun _ _ _ _ _ => by exact pg_name (i := 12) sc_right.nd rfl (.inl rfl)) (fun _ _ _ _ _ => pts_nil) (fun _ _ _ _ _ => (pe_tup (pa_cons pe_int (pa_cons pe_int pa_nil))))) (nomark _)) (pe_one (pe_cmpR (UfK.op_eqDK (K := K) hr.units) (pe_call (ok_dot T) (hr.mono (by decide)) (by rfl) T.dot.g T.dot.F.kp T.dot.b .nil pass0 (pa_cons (pv 1) (pa_cons (pv 9) (pa_cons (pv 4) pa_nil)))) (pe_tup (pa_cons pe_int (pa_cons pe_int pa_nil))) (nomark _)))))))))))))))))), ?_⟩
    refine ⟨_, rfl, tc, rfl, ⟨_, SqL.g lw htc⟩, fun D hD => ?_⟩
    refine UfW.lc_list (K := K) (pf := fun j => some (a, c, n + j)) (R := fun j G y => ∃ u qs, us[j]? = some u ∧ NS .li T.frac.C G y qs ∧ HRow p u qs) lw hD htc (by rw [hRR.1]; omega) (fun i G3 G4 y e h => ?_) (fun i x acc G3 H3 hx3 e3 lw Nx kk => ?_) (fun G1 H1 zs e1 lw h1 hl1 hy1 => ?_)
    · obtain ⟨u, qs, h1, h2, h3⟩ := h
      exact ⟨u, qs, h1, h2.ex e, h3⟩
    · obtain ⟨u, hu, hR⟩ := hRR.2 i x hx3
      obtain ⟨hul, hub⟩ := hus u (List.mem_of_getElem? hu)
      have hil := (List.getElem?_eq_some_iff.mp hu).1
      refine ⟨rfl, _, rfl, _, rfl, _, rfl, p, u, call_pool (d := 1) lw (by omega) ⟨x, rfl, g, hR.ex e3, by omega, hub⟩ fun G4 H4 v4 e4 lw hv4 => ?_⟩
      obtain ⟨qs, h1, h2⟩ := hv4
      exact kk _ _ _ e4 lw ⟨u, qs, hu, h1, h2⟩
    · have hl1' : zs.length = us.length := by rw [hl1, hRR.1]
      have hy1' : ∀ (j : Nat) (y : V), zs[j]? = some y → ∃ qs, (∃ u, us[j]? = some u ∧ HRow p u qs) ∧ NS .li T.frac.C G1 y qs := fun j y hy => by
        obtain ⟨u, qs, h1, h2, h3⟩ := hy1 j y hy
        exact ⟨qs, ⟨u, h1, h3⟩, h2⟩
      obtain ⟨hc, hcl, hcs⟩ := pick zs hy1'
      have hHC : HCols p us hc := ⟨by rw [hcl, hl1'], fun i u hu => by
        have hi := (List.getElem?_eq_some_iff.mp hu).1
        obtain ⟨qs, h2, ⟨u', h3, h4⟩, _⟩ := hcs i _ (List.getElem?_eq_getElem (by omega))
        rw [hu] at h3
        cases h3
        exact ⟨qs, h2, h4⟩⟩
      have hRL : RL T.frac.C G1 (.ref D) hc := ⟨D, zs, rfl, h1, hcl.symm, fun i x hx => by
        obtain ⟨qs, h2, _, h3⟩ := hcs i x hx
        exact ⟨qs, h2, h3⟩⟩
      have hlen : ∀ qs ∈ hc, qs.length = t.length := fun qs hqs => by
        obtain ⟨i, hi⟩ := List.mem_iff_getElem?.mp hqs
        have hil := (List.getElem?_eq_some_iff.mp hi).1
        obtain ⟨qs', h2, ⟨u, h3, h4⟩, _⟩ := hcs i _ (List.getElem?_eq_getElem (by omega))
        rw [hi] at h2
        cases h2
        rw [h4.1]
        exact (hus u (List.mem_of_getElem? h3)).1
      refine gName_ap ?_
      refine ⟨_, rfl, _, rfl, _, rfl, p, t, call_pool (d := 1) lw (by rw [hRR.1]; omega) ⟨y, rfl, g, hRP.ex e1, by omega, htb⟩ fun G2 H2 v2 e2 lw hv2 => ?_⟩
      obtain ⟨ht, hNS, hHR⟩ := hv2
      obtain ⟨hsol, hps⟩ := hright hc ht hHC hHR
      have hcl2 : hc.length = us.length := by rw [hcl, hl1']
      refine gName_ap ?_
      refine ⟨_, rfl, _, rfl, _, rfl, p, hc, ht, call_pure lw ⟨_, _, rfl, fit, hRL.ex e2, hNS, by omega, by rw [hHR.1]; omega, fun _ => hsol⟩ fun G3 H3 v3 e3 lw hv3 => ?_⟩
      have hv3 : ∃ t u, v3 = .ref t ∧ G3 t = some (.tup [.str "told", u]) ∧ Told p hc ht T.frac.C G3 u := by
        rcases hv3 with ⟨_, h⟩ | ⟨a', c', b', h1, _, h2, _⟩
        · exact h
        · exact (h2 (by rw [hHR.1]; exact hlen c' (by rw [h1]; simp))).elim
      obtain ⟨t3, u3, rfl, ht3, ps, hS, hTold⟩ := hv3
      refine gName_ap ?_
      have hD3 := e3 _ _ (e2 _ _ h1)
      obtain ⟨tg, gs, rfl, htg, hgn⟩ := hNS.ex e3
      have htg : G3 tg = some (.lst gs) := htg
      obtain ⟨tt, ts, rfl, htt, htl2, htx⟩ := hRP.ex (e1.trans (e2.trans e3))
      refine ⟨_, rfl, D, rfl, ⟨_, SqL.g lw hD3⟩, fun D4 hD4 => ?_⟩
      refine UfW.lc_list (K := K) (pf := fun _ => some (a, c, n + xs.length + 1)) (R := RI (List.replicate us.length (t.length : Int))) lw hD4 hD3 (by omega) RI.mono (fun i x acc G5 H5 hx5 e5 lw Nx kk => ?_) (fun G4 H4 ws4 e4 lw h4 hl4 hy4 => ?_)
      · obtain ⟨qs, h2, _, tq, xq, rfl, h3, h4⟩ := hcs i x hx5
        have h3 : G1 tq = some (.lst xq) := h3
        have hi := (List.getElem?_eq_some_iff.mp hx5).1
        refine ⟨rfl, _, rfl, tq, xq, rfl, .inl (SqL.g lw (e5 _ _ (e3 _ _ (e2 _ _ h3)))), kk _ _ _ (Ex.refl _) lw ⟨_, ?_, rfl⟩⟩
        rw [h4.1, hlen qs (List.mem_of_getElem? h2)]
        exact List.getElem?_replicate_of_lt (by omega)
      rw [vals_of (by rw [hl4, List.length_replicate, hl1']) hy4] at h4
      have htc4 := (e1.trans (e2.trans (e3.trans e4))) _ _ htc
      refine ⟨_, rfl, tc, rfl, ⟨_, SqL.g lw htc4⟩, fun D5 hD5 => ?_⟩
      refine UfW.lc_list (K := K) (pf := fun _ => some (a, c, n + xs.length + 1)) (R := RI (List.replicate us.length (t.length : Int))) lw hD5 htc4 (by rw [hRR.1]; omega) RI.mono (fun i x acc G6 H6 hx6 e6 lw Nx kk => ?_) (fun G5 H5 ws5 e5 lw h5 hl5 hy5 => ?_)
      · have hi := (List.getElem?_eq_some_iff.mp hx6).1
        refine ⟨rfl, _, rfl, tt, ts, rfl, .inl (SqL.g lw (e6 _ _ (e4 _ _ htt))), kk _ _ _ (Ex.refl _) lw ⟨_, ?_, rfl⟩⟩
        rw [htl2]
        exact List.getElem?_replicate_of_lt (by rw [hRR.1] at hi; exact hi)
      rw [vals_of (by rw [hl5, List.length_replicate, hRR.1]) hy5] at h5
      refine r_neD lw (Rp.lstI (e5 _ _ h4)) (Rp.lstI h5) (shaped_lstI _) (shaped_lstI _) ?_
      rw [eqv_lstI, decide_eq_true rfl]
      refine ⟨_, rfl, iteF ?_⟩
      have e35 := e4.trans e5
      refine ⟨_, rfl, tg, gs, rfl, .inl (SqL.g lw (e35 _ _ htg)), _, rfl, tt, ts, rfl, .inl (SqL.g lw (e35 _ _ htt)), rfl, _, rfl, ite2 (fun h => ?_) (fun _ => ?_)⟩
      · rw [hgn.1, htl2, hHR.1] at h
        simp at h
      have ht5 := e35 _ _ ht3
      obtain ⟨word, qs, hword, tu, uu, rfl, htu, tn, xn, rfl, htn, hnn, hform⟩ : ∃ (word : Str) (qs : List Rat), ((¬ us.length ∈ ps ∧ word = "solution" ∧ qs = solN p us.length (keptA p hc ht) ps) ∨ (us.length ∈ ps ∧ word = "bar" ∧ ∃ ps2 a, Sorted (keptB p t.length hc) ps2 ∧ firstQ (totsB p (kersB p t.length hc ps2) ht) = some a ∧ qs = barW p (kersB p t.length hc ps2) ht a)) ∧
          ∃ tu uu, u3 = .ref tu ∧ G3 tu = some (.tup [.str word, uu]) ∧ ∃ tn xn, uu = .ref tn ∧ G3 tn = some (.tup xn) ∧ Nms T.frac.C G3 xn qs ∧ ∀ q ∈ qs, FormOk p q := by
        rw [hcl2] at hTold
        have htl : ht.length = t.length := hHR.1
        rw [htl] at hTold
        rcases hTold with ⟨h1, ps2, a2, h2, h3, tu, uu, rfl, h4, tn, xn, rfl, h5, h6⟩ | ⟨h1, tu, uu, rfl, h4, tn, xn, rfl, h5, h6⟩
        · exact ⟨"bar", _, .inr ⟨h1, rfl, ps2, a2, h2, h3, rfl⟩, tu, _, rfl, h4, tn, xn, rfl, h5, h6, ((hps ps hS).2 h1).2 ps2 a2 h2 h3 |>.2.1⟩
        · exact ⟨"solution", _, .inl ⟨h1, rfl, rfl⟩, tu, _, rfl, h4, tn, xn, rfl, h5, h6, ((hps ps hS).1 h1).2.2.1⟩
      have htu5 := e35 _ _ htu
      have htn5 := e35 _ _ htn
      refine ⟨_, rfl, t3, _, 0, _, rfl, rfl, SqT.g lw ht5, i0, rfl, _, rfl, iteF ?_⟩
      refine ⟨_, rfl, t3, _, 1, _, rfl, rfl, SqT.g lw ht5, i1, .ref tu, .ty "tuple", .type "tuple", .type "tuple", true, rfl, .ty _, .base (.tup (lw.gh _ _ htu5)), kit_ty rfl, true, rfl, iteF ?_⟩
      refine ⟨_, rfl, t3, _, 1, _, rfl, rfl, SqT.g lw ht5, i1, tu, _, rfl, .inr (SqT.g lw htu5), rfl, _, rfl, iteF ?_⟩
      refine ⟨_, rfl, t3, _, 1, _, rfl, rfl, SqT.g lw ht5, i1, tu, _, 0, _, rfl, rfl, SqT.g lw htu5, i0, ?_⟩
      refine gName_ap ?_
      refine ⟨_, rfl, .str word, .ty "str", .type "str", .type "str", true, rfl, .ty _, .base (.str word), kit_ty rfl, true, rfl, iteF ?_⟩
      refine ⟨_, rfl, t3, _, 1, _, rfl, rfl, SqT.g lw ht5, i1, tu, _, 1, _, rfl, rfl, SqT.g lw htu5, i1, .ref tn, .ty "tuple", .type "tuple", .type "tuple", true, rfl, .ty _, .base (.tup (lw.gh _ _ htn5)), kit_ty rfl, true, rfl, iteF ?_⟩
      refine ⟨_, rfl, t3, _, 1, _, rfl, rfl, SqT.g lw ht5, i1, tu, _, 1, _, rfl, rfl, SqT.g lw htu5, i1, tn, rfl, ⟨_, SqT.g lw htn5⟩, fun D6 hD6 => ?_⟩
      refine UfW.lc_tup (K := K) (pf := fun _ => some (a, c, n + xs.length + 1)) (R := RJ (prs qs)) lw hD6 htn5 ?_ RJ.mono (fun i x acc G7 H7 hx7 e7 lw Nx kk => ?_) (fun G6 H6 ws6 e6 lw h6 hl6 hy6 => ?_)
      · have : qs.length ≤ 20 := by
          rcases hword with ⟨h1, rfl, rfl⟩ | ⟨h1, rfl, ps2, a2, h2, h3, rfl⟩
          · rw [((hps ps hS).1 h1).2.1]; omega
          · rw [(((hps ps hS).2 h1).2 ps2 a2 h2 h3).1]; omega
        rw [hnn.1]
        omega
      · obtain ⟨q, hq, hN⟩ := hnn.2 i x hx7
        refine ⟨rfl, _, rfl, _, rfl, p, q, call_pure lw ⟨x, rfl, hN.ex (e35.trans e7), hform q (List.mem_of_getElem? hq)⟩ fun G8 H8 v8 e8 lw hv8 => kk _ _ _ e8 lw ⟨_, ?_, hv8⟩⟩
        rw [List.getElem?_map, hq]
        rfl
      refine gName_ap ?_
      have hl6 : ws6.length = (prs qs).length := by rw [hl6, hnn.1, List.length_map]
      have hNum : RP G6 (.ref D6) (prs qs) := ⟨D6, ws6, rfl, h6, hl6, hy6⟩
      have hql : qs.length ≤ 20 := by
        rcases hword with ⟨h1, rfl, rfl⟩ | ⟨h1, rfl, ps2, a2, h2, h3, rfl⟩
        · rw [((hps ps hS).1 h1).2.1]; omega
        · rw [(((hps ps hS).2 h1).2 ps2 a2 h2 h3).1]; omega
      refine ⟨_, rfl, D6, rfl, ⟨_, SqL.g lw h6⟩, fun D7 hD7 => ?_⟩
      refine UfW.lc_list (K := K) (pf := fun _ => some (a, c, n + xs.length + 1)) (R := fun _ _ y => y = .bl true) lw hD7 h6 (by rw [hl6, List.length_map]; omega) (fun _ _ _ _ _ h => h) (fun i x acc G8 H8 hx8 e8 lw Nx kk => ?_) (fun G7 H7 ws7 e7 lw h7 hl7 hy7 => ?_)
      · obtain ⟨b, hb, tb, rfl, hB⟩ := hy6 i x hx8
        exact ⟨rfl, _, rfl, rfl, kk _ _ _ (Ex.refl _) lw (by simp)⟩
      rw [bools_of hl7 hy7] at h7
      refine ⟨D7, _, rfl, SqL.g lw h7, ?_⟩
      rw [all_true]
      refine ⟨true, rfl, iteF ?_⟩
      have e17 := e1.trans (e2.trans (e3.trans (e35.trans (e6.trans e7))))
      refine ⟨_, rfl, _, rfl, _, rfl, p, t.length, ls, t, call_pure lw ⟨tl, ys, _, rfl, g, e17 _ _ htl, hLD.ex e17, hRP.ex e17, by omega, hless⟩ fun G8 H8 v8 e8 lw hv8 => ?_⟩
      have hv8 : v8 = .bl (withinP p ls t) := hv8
      subst hv8
      have e18 := e17.trans e8
      have htt8 := (e35.trans (e6.trans (e7.trans e8))) _ _ htt
      have h68 := e8 _ _ (e7 _ _ h6)
      have hNum8 := hNum.ex (e7.trans e8)
      have hRR8 := hRR.ex e18
      have htc8 := e18 _ _ htc
      have hRP8 := hRP.ex e18
      have htx8 : ∀ (i : Nat) (x : V), ts[i]? = some x → ∃ a, t[i]? = some a ∧ TP G8 x a := fun i x hx => by
        obtain ⟨b, h1, h2⟩ := htx i x hx
        exact ⟨b, h1, h2.ex (e35.trans (e6.trans (e7.trans e8)))⟩
      have hxl := hRR.1
      refine ⟨_, rfl, ?_⟩
      rcases hword with ⟨h1, rfl, hqs⟩ | ⟨h1, rfl, ps2, a2, h2, h3, hqs⟩
      · obtain ⟨w1, w2, w3, w4⟩ := (hps ps hS).1 h1
        rw [← hqs] at w2 w4
        rw [w1]
        refine iteT ?_
        refine ⟨_, rfl, rfl, _, rfl, iteF ?_⟩
        refine ⟨_, rfl, D6, ws6, rfl, .inl (SqL.g lw h68), _, rfl, tc, xs, rfl, .inl (SqL.g lw htc8), rfl, _, rfl, ite2 (fun h => ?_) (fun _ => ?_)⟩
        · rw [hl6, List.length_map, w2, hxl] at h
          simp at h
        refine ⟨_, rfl, tt, ts, rfl, .inl (SqL.g lw htt8), (ts.length : Int), rfl, by omega, by omega, fun D9 hD9 => ?_⟩
        refine UfW.lc_rng (n := ts.length) (pf := fun _ => some (a, c, n + xs.length + 1)) (R := RJ t) lw hD9 (by omega) RJ.mono (fun k acc G10 H10 hk e10 lw Nx kk => ?_) (fun G9 H9 ws9 e9 lw h9 hl9 hy9 => ?_)
        · rw [Int.zero_add]
          have htc10 := e10 _ _ htc8
          refine ⟨rfl, _, rfl, _, rfl, _, rfl, tc, rfl, ⟨_, SqL.g lw htc10⟩, fun D11 hD11 => ?_⟩
          refine UfW.lc_list (K := K) (pf := fun _ => some (a, c, n + xs.length + 1)) (R := RJ (us.map fun u => at0 u k)) lw hD11 htc10 (by omega) RJ.mono (fun j x acc2 G12 H12 hx12 e12 lw Nx2 kk2 => ?_) (fun G11 H11 ws11 e11 lw h11 hl11 hy11 => ?_)
          · obtain ⟨u, hu, hU⟩ := (hRR8.ex (e10.trans e12)).2 j x hx12
            obtain ⟨tu2, us2, rfl, htu2, hul2, hux2⟩ := hU
            obtain ⟨vk, tk, hvk, rfl, htk, hTk⟩ := RP.at hul2 hux2 (i := k) (by rw [(hus u (List.mem_of_getElem? hu)).1]; omega)
            refine ⟨rfl, _, rfl, _, rfl, tu2, us2, (k : Int), _, rfl, rfl, SqL.g lw htu2, atI_nat hvk, kk2 _ _ _ (Ex.refl _) lw ⟨_, ?_, hTk⟩⟩
            rw [List.getElem?_map, hu]
            rfl
          · obtain ⟨w5, w6⟩ := w4 k (by omega)
            refine ⟨p, prs qs, us.map fun u => at0 u k, call_pure lw ⟨_, .ref D11, rfl, g, hNum8.ex (e10.trans e11), ⟨D11, ws11, rfl, h11, by rw [hl11, hxl, List.length_map], hy11⟩, by rw [List.length_map, List.length_map, w2], by rw [List.length_map]; omega, w5⟩ fun G13 H13 v13 e13 lw hv13 => kk _ _ _ (e11.trans e13) lw ⟨at0 t k, ?_, ?_⟩⟩
            · unfold at0
              rw [List.getD_eq_getElem?_getD, List.getElem?_eq_getElem (by omega)]
              rfl
            · rw [← w6]
              exact hv13
        · refine gName_ap ?_
          have htt9 := e9 _ _ htt8
          refine ⟨_, rfl, _, rfl, tt, rfl, ⟨_, SqL.g lw htt9⟩, fun D12 hD12 => ?_⟩
          refine UfW.lc_list (K := K) (pf := fun _ => some (a, c, n + xs.length + 1)) (R := RJ t) lw hD12 htt9 (by omega) RJ.mono (fun j x acc2 G12 H12 hx12 e12 lw Nx2 kk2 => ?_) (fun G11 H11 ws11 e11 lw h11 hl11 hy11 => ?_)
          · obtain ⟨b, hb, tb, rfl, hB⟩ := htx8 j x hx12
            have hB12 := e12 _ _ (e9 _ _ hB)
            refine ⟨rfl, _, rfl, tb, _, 0, _, rfl, rfl, SqT.g lw hB12, i0, _, rfl, tb, _, 1, _, rfl, rfl, SqT.g lw hB12, i1, Evl.sz_of (by show 2 ≤ 100000; decide), fun t13 n13 => ?_⟩
            obtain ⟨G13, e13, lw, h13⟩ := lw.allocE (o := .tup [.int b.1, .int b.2]) n13
            exact kk2 _ _ _ e13 lw ⟨b, hb, t13, rfl, h13⟩
          · refine r_eqD lw (d := .list (t.map pd)) (e := .list (t.map pd)) (.lst (e11 _ _ h9) ((rp_pairs (by rw [hl9, htl2]) hy9).ex e11)) (.lst h11 (rp_pairs (by rw [hl11, htl2]) hy11)) (shaped_pds t) (shaped_pds t) ?_
            rw [show PyData.eqv (.list (t.map pd)) (.list (t.map pd)) = true by simp only [PyData.eqv]; exact eqv_pds t]
            exact k _ _ _ (lw.more (by omega)) rfl
      · obtain ⟨w1, w2⟩ := (hps ps hS).2 h1
        obtain ⟨w2, w3, w4, w5, w6⟩ := w2 ps2 a2 h2 h3
        rw [← hqs] at w2 w4 w5 w6
        rw [w1]
        refine iteF ?_
        refine ⟨_, rfl, rfl, _, rfl, iteF ?_⟩
        refine ⟨_, rfl, D6, ws6, rfl, .inl (SqL.g lw h68), _, rfl, tt, ts, rfl, .inl (SqL.g lw htt8), rfl, _, rfl, ite2 (fun h => ?_) (fun _ => ?_)⟩
        · rw [hl6, List.length_map, w2, htl2] at h
          simp at h
        refine ⟨_, rfl, tc, rfl, ⟨_, SqL.g lw htc8⟩, fun D9 hD9 => ?_⟩
        refine UfW.lc_list (K := K) (pf := fun _ => some (a, c, n + xs.length + 1)) (R := RJ (List.replicate us.length (0, 1))) lw hD9 htc8 (by omega) RJ.mono (fun j x acc2 G12 H12 hx12 e12 lw Nx2 kk2 => ?_) (fun G9 H9 ws9 e9 lw h9 hl9 hy9 => ?_)
        · obtain ⟨u, hu, hU⟩ := (hRR8.ex e12).2 j x hx12
          have hum := List.mem_of_getElem? hu
          obtain ⟨w7, w8⟩ := w4 u hum
          have hj := (List.getElem?_eq_some_iff.mp hu).1
          refine ⟨rfl, _, rfl, _, rfl, _, rfl, p, prs qs, u, call_pure lw ⟨_, x, rfl, g, hNum8.ex e12, hU, by rw [List.length_map, w2, (hus u hum).1], by rw [List.length_map]; omega, w7⟩ fun G13 H13 v13 e13 lw hv13 => kk2 _ _ _ e13 lw ⟨(0, 1), List.getElem?_replicate_of_lt hj, ?_⟩⟩
          rw [← w8]
          exact hv13
        · refine gName_ap ?_
          have htc9 := e9 _ _ htc8
          refine ⟨_, rfl, _, rfl, tc, rfl, ⟨_, SqL.g lw htc9⟩, fun D12 hD12 => ?_⟩
          refine UfW.lc_list (K := K) (pf := fun _ => some (a, c, n + xs.length + 1)) (R := RJ (List.replicate us.length (0, 1))) lw hD12 htc9 (by omega) RJ.mono (fun j x acc2 G12 H12 hx12 e12 lw Nx2 kk2 => ?_) (fun G11 H11 ws11 e11 lw h11 hl11 hy11 => ?_)
          · have hj := (List.getElem?_eq_some_iff.mp hx12).1
            refine ⟨rfl, Evl.sz_of (by show 2 ≤ 100000; decide), fun t13 n13 => ?_⟩
            obtain ⟨G13, e13, lw, h13⟩ := lw.allocE (o := .tup [.int 0, .int 1]) n13
            exact kk2 _ _ _ e13 lw ⟨(0, 1), List.getElem?_replicate_of_lt (by omega), t13, rfl, h13⟩
          · refine r_eqD lw (d := .list ((List.replicate us.length ((0, 1) : LP)).map pd)) (e := .list ((List.replicate us.length ((0, 1) : LP)).map pd)) (.lst (e11 _ _ h9) ((rp_pairs (by rw [hl9, hxl, List.length_replicate]) hy9).ex e11)) (.lst h11 (rp_pairs (by rw [hl11, hxl, List.length_replicate]) hy11)) (shaped_pds _) (shaped_pds _) ?_
            rw [show PyData.eqv (.list ((List.replicate us.length ((0, 1) : LP)).map pd)) (.list ((List.replicate us.length ((0, 1) : LP)).map pd)) = true by simp only [PyData.eqv]; exact eqv_pds _]
            refine ⟨true, rfl, iteT ?_⟩
            refine ⟨_, rfl, _, rfl, _, rfl, p, prs qs, t, call_pure lw ⟨_, _, rfl, g, hNum8.ex (e9.trans e11), hRP8.ex (e9.trans e11), by rw [List.length_map, w2], by rw [List.length_map]; omega, w5⟩ fun G13 H13 v13 e13 lw hv13 => ?_⟩
            refine ⟨Evl.sz_of (by show 2 ≤ 100000; decide), fun t14 n14 => ?_⟩
            obtain ⟨G14, e14, lw, h14⟩ := lw.allocE (o := .tup [.int 1, .int 1]) n14
            have hv13 : TP G13 v13 (1, 1) := by
              rw [← w6]
              exact hv13
            refine r_eqD lw (d := pd (1, 1)) (e := pd (1, 1)) (hv13.ex e14).rp (.tup h14 (.cons (.int _) (.cons (.int _) .nil))) (shaped_pd _) (shaped_pd _) ?_
            rw [eqv_pd, decide_eq_true rfl]
            exact k _ _ _ (lw.more (by omega)) rfl
end
end K06

/-! # The plain law: the field of a ground, numbers of the program in it -/
namespace K06
open UfQ UfN UfL
open UfL (dot)
section
variable {α : Type} [Lean.Grind.Field α]
/-- a number of the program in the field -/
def rv (q : Rat) : α := ic q.num / ic (q.den : Int)
def Dn (p : Int) (q : Rat) : Prop := p ≠ 0 → q.den = 1
theorem val_pr (q : Rat) : (val (pr q) : α) = rv q := rfl
theorem ic_nat_one : (ic ((1 : Nat) : Int) : α) = 1 := ic_one
theorem rv_int (x : Int) : (rv (x : Rat) : α) = ic x := by
  unfold rv
  rw [ofInt_num]
  show (ic x : α) / ic 1 = _
  rw [ic_one]
  grind
theorem rv_of_den {q : Rat} (h : q.den = 1) : (rv q : α) = ic q.num := by
  unfold rv
  rw [h, ic_nat_one]
  grind
theorem rv_zero : (rv 0 : α) = 0 := by
  have := rv_int (α := α) 0
  rw [ic_zero] at this
  exact this
theorem rv_one : (rv 1 : α) = 1 := by
  have := rv_int (α := α) 1
  rw [ic_one] at this
  exact this
theorem den_nz {p : Int} (g : Gd p α) {q : Rat} (h : Dn p q) : (ic (q.den : Int) : α) ≠ 0 := by
  by_cases p0 : p = 0
  · intro z
    have := g.inj _ (.inl p0) z
    have := q.den_nz
    omega
  · rw [h p0, ic_nat_one]
    exact fun z => Lean.Grind.Field.zero_ne_one z.symm
theorem rv_fr {p : Int} (g : Gd p α) (hp : p = 0) {n d : Int} (hd : d ≠ 0) : (rv (fr n d) : α) = ic n / ic d := ic_divInt g hp hd
theorem rv_neg (q : Rat) : (rv (-q) : α) = - rv q := by
  unfold rv
  rw [Rat.neg_num, Rat.neg_den, ic_neg]
  grind
theorem dn_int {q : Rat} (h : q.den = 1) : q = (q.num : Rat) := q_int h
theorem rv_add {p : Int} (g : Gd p α) {a b : Rat} (ha : Dn p a) (hb : Dn p b) : (rv (a + b) : α) = rv a + rv b := by
  have na := den_nz g ha
  have nb := den_nz g hb
  by_cases p0 : p = 0
  · have h1 := a.den_nz
    have h2 := b.den_nz
    have hd : (a.den : Int) * b.den ≠ 0 := Int.mul_ne_zero (by omega) (by omega)
    rw [q_add, rv_fr g p0 hd, ic_add, ic_mul, ic_mul, ic_mul]
    unfold rv
    grind
  · have e : a + b = ((a.num + b.num : Int) : Rat) := by
      rw [Rat.intCast_add, ← q_int (ha p0), ← q_int (hb p0)]
    rw [e, rv_int, ic_add, rv_of_den (ha p0), rv_of_den (hb p0)]
theorem rv_mul {p : Int} (g : Gd p α) {a b : Rat} (ha : Dn p a) (hb : Dn p b) : (rv (a * b) : α) = rv a * rv b := by
  have na := den_nz g ha
  have nb := den_nz g hb
  by_cases p0 : p = 0
  · have h1 := a.den_nz
    have h2 := b.den_nz
    have hd : (a.den : Int) * b.den ≠ 0 := Int.mul_ne_zero (by omega) (by omega)
    rw [q_mul, rv_fr g p0 hd, ic_mul, ic_mul]
    unfold rv
    grind
  · have e : a * b = ((a.num * b.num : Int) : Rat) := by
      rw [Rat.intCast_mul, ← q_int (ha p0), ← q_int (hb p0)]
    rw [e, rv_int, ic_mul, rv_of_den (ha p0), rv_of_den (hb p0)]
theorem dn_add {p : Int} {a b : Rat} (ha : Dn p a) (hb : Dn p b) : Dn p (a + b) := fun h => by
  have e : a + b = ((a.num + b.num : Int) : Rat) := by
    rw [Rat.intCast_add, ← q_int (ha h), ← q_int (hb h)]
  rw [e]
  rfl
theorem dn_mul {p : Int} {a b : Rat} (ha : Dn p a) (hb : Dn p b) : Dn p (a * b) := fun h => by
  have e : a * b = ((a.num * b.num : Int) : Rat) := by
    rw [Rat.intCast_mul, ← q_int (ha h), ← q_int (hb h)]
  rw [e]
  rfl
theorem dn_neg {p : Int} {a : Rat} (ha : Dn p a) : Dn p (-a) := fun h => by
  rw [Rat.neg_den]
  exact ha h
theorem dn_zero {p : Int} : Dn p 0 := fun _ => rfl
theorem dn_one {p : Int} : Dn p 1 := fun _ => rfl
theorem FormOk.dn {p : Int} {q : Rat} (h : FormOk p q) : Dn p q := fun z => (h z).1
theorem form_zero {p : Int} (g : Gok p) : FormOk p 0 := fun z => ⟨rfl, Int.le_refl _, by unfold Gok at g; show 0 < p; omega⟩
theorem form_one {p : Int} (g : Gok p) : FormOk p 1 := fun z => ⟨rfl, by decide, by unfold Gok at g; show 1 < p; omega⟩
theorem can_pr {p : Int} {q : Rat} (h : FormOk p q) : Can p (pr q) := by
  unfold Can pr
  split
  · exact ⟨q, rfl⟩
  · rename_i z
    obtain ⟨h1, h2, h3⟩ := h z
    exact ⟨by show (q.den : Int) = 1; rw [h1]; rfl, h2, h3⟩
theorem pr_inj {a b : Rat} (h : pr a = pr b) : a = b := by
  have e1 : a.num = b.num := congrArg Prod.fst h
  have e2 : (a.den : Int) = b.den := congrArg Prod.snd h
  exact Rat.ext e1 (by omega)
theorem rv_inj {p : Int} (g : Gd p α) {a b : Rat} (ha : FormOk p a) (hb : FormOk p b) (h : (rv a : α) = rv b) : a = b := pr_inj (can_inj g (can_pr ha) (can_pr hb) h)
theorem rv_eq_zero {p : Int} (g : Gd p α) (gk : Gok p) {a : Rat} (ha : FormOk p a) (h : (rv a : α) = 0) : a = 0 := rv_inj g ha (form_zero gk) (h.trans rv_zero.symm)
theorem formQ_form {p : Int} (gk : Gok p) (q : Rat) : FormOk p (formQ p q) := fun z => by
  unfold formQ
  rw [if_neg z]
  have : 0 < p := by unfold Gok at gk; omega
  exact ⟨rfl, Int.fmod_nonneg_of_pos _ this, Int.fmod_lt_of_pos _ this⟩
theorem formQ_rv {p : Int} (g : Gd p α) {q : Rat} (h : Dn p q) : (rv (formQ p q) : α) = rv q := by
  unfold formQ
  split
  · rfl
  · rename_i z
    rw [rv_int, g.md z, rv_of_den (h z)]
theorem overQ_form {p : Int} (gk : Gok p) (x y : Rat) : FormOk p (overQ p x y) := fun z => by
  unfold overQ
  rw [if_neg z]
  have : 0 < p := by unfold Gok at gk; omega
  exact ⟨rfl, Int.fmod_nonneg_of_pos _ this, Int.fmod_lt_of_pos _ this⟩
theorem overQ_rv {p : Int} (g : Gd p α) {x y : Rat} (hx : Dn p x) (hy : Dn p y) (h : (rv y : α) ≠ 0) : (rv (overQ p x y) : α) = rv x / rv y := by
  have nx := den_nz g hx
  have ny := den_nz g hy
  unfold overQ
  split
  · rename_i p0
    have yn : y.num ≠ 0 := fun z => h (by
      unfold rv
      rw [z, ic_zero]
      grind)
    have h1 := x.den_nz
    have hd : (x.den : Int) * y.num ≠ 0 := Int.mul_ne_zero (by omega) yn
    have yz : (ic y.num : α) ≠ 0 := fun z => yn (g.inj _ (.inl p0) z)
    rw [← q_div yn, rv_fr g p0 hd, ic_mul, ic_mul]
    unfold rv
    grind
  · rename_i p0
    have e := rv_of_den (α := α) (hy p0)
    rw [e] at h
    have := g.inv p0 y.num h
    rw [rv_int, g.md p0, ic_mul, g.md p0, rv_of_den (hx p0), e]
    grind
/-! ### sums -/
theorem sumQ_ok {p : Int} (g : Gd p α) : ∀ (qs : List Rat) (t : Rat), Dn p t → (∀ q ∈ qs, Dn p q) → Dn p (sumQ t qs) ∧ (rv (sumQ t qs) : α) = rv t + (qs.map rv).sum
  | [], t, ht, _ => ⟨ht, by show rv t = rv t + 0; grind⟩
  | q :: qs, t, ht, h => by
    have hq := h q List.mem_cons_self
    obtain ⟨h1, h2⟩ := sumQ_ok g qs (t + q) (dn_add ht hq) fun x hx => h x (List.mem_cons_of_mem _ hx)
    refine ⟨h1, ?_⟩
    show rv (sumQ (t + q) qs) = rv t + (rv q + (qs.map rv).sum)
    rw [h2, rv_add g ht hq]
    grind
theorem dot_sum : ∀ (xs ys : List α), dot xs ys = (List.zipWith (· * ·) xs ys).sum
  | [], _ => rfl
  | _ :: _, [] => rfl
  | x :: xs, y :: ys => by
    show x * y + dot xs ys = x * y + _
    rw [dot_sum xs ys]
    rfl
theorem dotQ_ok {p : Int} (g : Gd p α) {as bs : List Rat} (ha : ∀ q ∈ as, Dn p q) (hb : ∀ q ∈ bs, Dn p q) : Dn p (dotQ as bs) ∧ (rv (dotQ as bs) : α) = dot (as.map rv) (bs.map rv) := by
  have hm : ∀ q ∈ List.zipWith (· * ·) as bs, Dn p q := fun q hq => by
    obtain ⟨i, hi⟩ := List.mem_iff_getElem?.mp hq
    rw [List.getElem?_zipWith] at hi
    cases e1 : as[i]? with
    | none => rw [e1] at hi; cases hi
    | some a =>
      cases e2 : bs[i]? with
      | none => rw [e1, e2] at hi; cases hi
      | some b =>
        rw [e1, e2] at hi
        cases hi
        exact dn_mul (ha a (List.mem_of_getElem? e1)) (hb b (List.mem_of_getElem? e2))
  obtain ⟨h1, h2⟩ := sumQ_ok g (List.zipWith (· * ·) as bs) 0 dn_zero hm
  refine ⟨h1, ?_⟩
  unfold dotQ
  rw [h2, rv_zero, dot_sum]
  have e : (List.zipWith (· * ·) as bs).map (rv (α := α)) = List.zipWith (· * ·) (as.map rv) (bs.map rv) := by
    refine List.ext_getElem? fun i => ?_
    rw [List.getElem?_map, List.getElem?_zipWith, List.getElem?_zipWith, List.getElem?_map, List.getElem?_map]
    cases e1 : as[i]? with
    | none => rfl
    | some a =>
      cases e2 : bs[i]? with
      | none => rfl
      | some b =>
        show some (rv (a * b)) = some (rv a * rv b)
        rw [rv_mul g (ha a (List.mem_of_getElem? e1)) (hb b (List.mem_of_getElem? e2))]
  rw [e]
  grind
/-- one number of a list anew -/
theorem dot_set : ∀ (l v : List α) (i : Nat) (x : α), i < l.length → l.length = v.length → dot (l.set i x) v = dot l v + (x - l.getD i 0) * v.getD i 0
  | a :: l, b :: v, 0, x, _, _ => by
    show x * b + dot l v = a * b + dot l v + (x - a) * b
    grind
  | a :: l, b :: v, i + 1, x, h, e => by
    have ih := dot_set l v i x (by simpa using h) (by simpa using e)
    show a * b + dot (l.set i x) v = a * b + dot l v + (x - l.getD i 0) * v.getD i 0
    rw [ih]
    grind
  | a :: l, [], _, _, _, e => by simp at e
end
end K06

/-! # The plain law: what the told rows say -/
namespace K06
open UfQ UfN UfL
open UfL (dot)
section
variable {α : Type} [Lean.Grind.Field α]
theorem sm_perm {P P' : List Nat} (h : P.Perm P') (f g : Nat → α) : sm P f g = sm P' f g := by
  induction h with
  | nil => rfl
  | cons x _ ih => rw [sm_cons, sm_cons, ih]
  | swap x y l => rw [sm_cons, sm_cons, sm_cons, sm_cons]; grind
  | trans _ _ h1 h2 => rw [h1, h2]
theorem sm_sum (f g : Nat → α) : ∀ P : List Nat, sm P f g = (P.map fun q => f q * g q).sum
  | [] => rfl
  | q :: P => by
    rw [sm_cons, sm_sum f g P]
    rfl
theorem sm_neg : ∀ (P : List Nat) (f g : Nat → α), sm P f (fun q => - g q) = - sm P f g
  | [], _, _ => by rw [sm_nil, sm_nil]; grind
  | q :: P, f, g => by
    rw [sm_cons, sm_cons, sm_neg P f g]
    grind
theorem lft_perm {P P' : List Nat} (h : P.Perm P') (K : Nat → Nat → α) (r : Nat → α) (j : Nat) : lft P K r j = lft P' K r j := by
  unfold lft
  rw [sm_perm h]
/-- turned round -/
def rev (n : Nat) (v : Nat → α) : Nat → α := fun i => if i < n then v (n - 1 - i) else 0
theorem rev_at {n q : Nat} (h : q < n) (v : Nat → α) : rev n v q = v (n - 1 - q) := if_pos h
/-- what the kept rows and their leads in order tell -/
structure Tells (p : Int) (n : Nat) (kept : List (Nat × List Int)) (ps : List Nat) (K : Nat → Nat → α) : Prop where
  nd : ps.Nodup
  lt : ∀ q ∈ ps, q < n
  row : ∀ q ∈ ps, ∀ j, j < n → Dn p ((fin p (rowAt kept q) q).getD j 0) ∧ (rv ((fin p (rowAt kept q) q).getD j 0) : α) = K q j ∧ FormOk p ((fin p (rowAt kept q) q).getD j 0)
  len : ∀ q ∈ ps, (fin p (rowAt kept q) q).length = n
theorem sorted_perm {p : Int} {n : Nat} {kept : List (Nat × List Int)} {R : List (Nat → α)} {P : List Nat} {K : Nat → Nat → α} (I : KInv p n kept R P K) {ps : List Nat} (hs : Sorted kept ps) : ps.Perm P := by
  have := hs.1
  rw [I.pl] at this
  exact this.trans (List.reverse_perm P)
theorem tells {p : Int} (g : Gd p α) {n : Nat} {kept : List (Nat × List Int)} {R : List (Nat → α)} {P : List Nat} {K : Nat → Nat → α} (I : KInv p n kept R P K) {ps : List Nat} (hs : Sorted kept ps) : Tells p n kept ps K := by
  have hp := sorted_perm I hs
  have nd : ps.Nodup := hp.symm.nodup I.st.nd
  have ndk : (kept.map (·.1)).Nodup := by rw [I.pl]; exact nd_rev I.st.nd
  have key : ∀ q ∈ ps, (q, rowAt kept q) ∈ kept := fun q hq => by
    obtain ⟨qh, h1, rfl⟩ := List.mem_map.mp (hs.1.subset hq)
    rw [rowAt_mem h1 ndk]
    exact h1
  refine ⟨nd, fun q hq => I.lt q (hp.subset hq), fun q hq j hj => ?_, fun q hq => ?_⟩
  · obtain ⟨c, h1, H⟩ := I.row _ (key q hq)
    have hq1 : K q q = 1 := by rw [I.st.one q (hp.subset hq) q (hp.subset hq), if_pos rfl]
    have Hl : (rowAt kept q).length = n := H.len
    have e : (fin p (rowAt kept q) q).getD j 0 = finV p ((rowAt kept q).getD q 0) ((rowAt kept q).getD j 0) := by
      rw [List.getD_eq_getElem?_getD, fin_get (by omega)]
      rfl
    rw [e]
    have rq := H.rel q
    have rj := H.rel j
    have rq : (ic ((rowAt kept q).getD q 0) : α) = c * K q q := rq
    have rj : (ic ((rowAt kept q).getD j 0) : α) = c * K q j := rj
    rw [hq1] at rq
    have nz := H.nz
    unfold finV
    by_cases p0 : 0 < p
    · rw [if_pos p0]
      refine ⟨fun _ => rfl, ?_, fun z => ⟨rfl, ?_⟩⟩
      · rw [rv_int, rj, h1 (by omega)]
        grind
      · rw [ofInt_num]
        rcases H.ok j with h | h
        · omega
        · exact h
    · have pz : p = 0 := by have := g.p0; omega
      rw [if_neg p0]
      have dz : (rowAt kept q).getD q 0 ≠ 0 := fun z => by
        rw [z, ic_zero] at rq
        grind
      refine ⟨fun z => (z pz).elim, ?_, fun z => (z pz).elim⟩
      rw [rv_fr g pz dz, rj, rq]
      grind
  · rw [fin_len]
    obtain ⟨c, _, H⟩ := I.row _ (key q hq)
    exact H.len
theorem getD_set_ne {l : List α} {i j : Nat} {x d : α} (h : i ≠ j) : (l.set i x).getD j d = l.getD j d := by
  rw [List.getD_eq_getElem?_getD, List.getD_eq_getElem?_getD, List.getElem?_set, if_neg h]
theorem map_set {β γ : Type} (f : β → γ) (l : List β) (i : Nat) (x : β) : (l.set i x).map f = (l.map f).set i (f x) := by
  rw [List.map_set]
/-- numbers put into a list, each at a place of its own -/
theorem fold_dot (z : Nat → Nat) (x : Nat → Rat) (v : List α) : ∀ (ps : List Nat) (l : List Rat), l.length = v.length → (ps.map z).Nodup → (∀ q ∈ ps, z q < l.length) → (∀ q ∈ ps, ((l.map rv).getD (z q) 0 : α) = 0) →
    dot ((ps.foldl (fun l q => l.set (z q) (x q)) l).map rv) v = dot (l.map rv) v + (ps.map fun q => rv (x q) * v.getD (z q) 0).sum
  | [], l, _, _, _, _ => by
    show dot (l.map rv) v = dot (l.map rv) v + 0
    grind
  | q :: ps, l, hl, nd, hlt, h0 => by
    obtain ⟨n1, n2⟩ := List.nodup_cons.mp (show (z q :: ps.map z).Nodup from nd)
    have ih := fold_dot z x v ps (l.set (z q) (x q)) (by rw [List.length_set]; exact hl) n2 (fun t ht => by rw [List.length_set]; exact hlt t (List.mem_cons_of_mem _ ht)) (fun t ht => by
      rw [map_set, getD_set_ne fun e => n1 (by rw [e]; exact List.mem_map.mpr ⟨t, ht, rfl⟩)]
      exact h0 t (List.mem_cons_of_mem _ ht))
    rw [List.foldl_cons, ih, map_set, dot_set _ _ _ _ (by rw [List.length_map]; exact hlt q List.mem_cons_self) (by rw [List.length_map]; exact hl), h0 q List.mem_cons_self]
    show _ = dot (l.map rv) v + (rv (x q) * v.getD (z q) 0 + (ps.map fun q => rv (x q) * v.getD (z q) 0).sum)
    grind
theorem fold_len (z : Nat → Nat) (x : Nat → Rat) : ∀ (ps : List Nat) (l : List Rat), (ps.foldl (fun l q => l.set (z q) (x q)) l).length = l.length
  | [], _ => rfl
  | q :: ps, l => by rw [List.foldl_cons, fold_len z x ps, List.length_set]
theorem fold_mem (z : Nat → Nat) (x : Nat → Rat) {Φ : Rat → Prop} : ∀ (ps : List Nat) (l : List Rat), (∀ y ∈ l, Φ y) → (∀ q ∈ ps, Φ (x q)) → ∀ y ∈ ps.foldl (fun l q => l.set (z q) (x q)) l, Φ y
  | [], _, hl, _ => hl
  | q :: ps, l, hl, hx => by
    rw [List.foldl_cons]
    refine fold_mem z x ps _ (fun y hy => ?_) fun t ht => hx t (List.mem_cons_of_mem _ ht)
    rcases List.mem_or_eq_of_mem_set hy with h | h
    · exact hl y h
    · rw [h]
      exact hx q List.mem_cons_self
theorem range_getD {n i : Nat} (v : Nat → α) (h : i < n) : (((List.range n).map v).getD i 0) = v i := by
  rw [List.getD_eq_getElem?_getD, List.getElem?_map, List.getElem?_range h]
  rfl
theorem ker_eq (p : Int) (n : Nat) (kept : List (Nat × List Int)) (ps : List Nat) (f : Nat) :
    kerRow p n (heldP p n kept ps) f = ps.foldl (fun l q => l.set (n - 1 - q) (formQ p (-((fin p (rowAt kept q) q).getD (n - 1 - f) 0)))) ((List.range n).map fun j => if j = f then 1 else 0) := by
  unfold kerRow heldP
  rw [List.foldl_map]
theorem free_iff {p : Int} {n : Nat} {kept : List (Nat × List Int)} {ps : List Nat} {K : Nat → Nat → α} (T : Tells p n kept ps K) {f : Nat} : f ∈ freeP (heldP p n kept ps) n ↔ f < n ∧ ¬ (n - 1 - f) ∈ ps := by
  unfold freeP heldP
  rw [List.mem_filter, List.mem_range, List.map_map]
  constructor
  · rintro ⟨h1, h2⟩
    refine ⟨h1, fun z => ?_⟩
    have : f ∈ ps.map ((fun x => x.1) ∘ fun q => (n - 1 - q, fin p (rowAt kept q) q)) := List.mem_map.mpr ⟨_, z, by show n - 1 - (n - 1 - f) = f; omega⟩
    simp [this] at h2
  · rintro ⟨h1, h2⟩
    refine ⟨h1, ?_⟩
    have : ¬ f ∈ ps.map ((fun x => x.1) ∘ fun q => (n - 1 - q, fin p (rowAt kept q) q)) := fun z => by
      obtain ⟨q, hq, e⟩ := List.mem_map.mp z
      have e : n - 1 - q = f := e
      have := T.lt q hq
      exact h2 (by rw [show n - 1 - f = q by omega]; exact hq)
    simp [this]
/-- a kernel row: its numbers are in their form, its sum of products with v is what is left of v -/
theorem ker_ok {p : Int} (g : Gd p α) (gk : Gok p) {n : Nat} {kept : List (Nat × List Int)} {ps : List Nat} {K : Nat → Nat → α} (T : Tells p n kept ps K) {f : Nat} (hf : f < n) (hn : ¬ (n - 1 - f) ∈ ps) :
    (kerRow p n (heldP p n kept ps) f).length = n ∧ (∀ q ∈ kerRow p n (heldP p n kept ps) f, FormOk p q) ∧ ∀ v : Nat → α, dot ((kerRow p n (heldP p n kept ps) f).map rv) ((List.range n).map v) = lft ps K (rev n v) (n - 1 - f) := by
  rw [ker_eq]
  have hl : ((List.range n).map fun j => if j = f then (1 : Rat) else 0).length = n := by rw [List.length_map, List.length_range]
  refine ⟨by rw [fold_len, hl], fold_mem _ _ ps _ (fun y hy => ?_) (fun q hq => formQ_form gk _), fun v => ?_⟩
  · obtain ⟨j, _, rfl⟩ := List.mem_map.mp hy
    split
    · exact form_one gk
    · exact form_zero gk
  · have zinj : (ps.map fun q => n - 1 - q).Nodup := List.pairwise_map.mpr (T.nd.imp_of_mem fun ha hb h z => h (by
      have := T.lt _ ha
      have := T.lt _ hb
      omega))
    have znf : ∀ q ∈ ps, n - 1 - q ≠ f := fun q hq z => hn (by
      have := T.lt q hq
      rw [show n - 1 - f = q by omega]
      exact hq)
    rw [fold_dot (fun q => n - 1 - q) (fun q => formQ p (-((fin p (rowAt kept q) q).getD (n - 1 - f) 0))) _ ps _ (by rw [hl, List.length_map, List.length_range]) zinj (fun q hq => by rw [hl]; have := T.lt q hq; show n - 1 - q < n; omega) (fun q hq => by
      have hq2 : n - 1 - q < n := by have := T.lt q hq; omega
      rw [List.map_map]
      show (((List.range n).map _).getD (n - 1 - q) 0 : α) = 0
      rw [range_getD _ hq2]
      show rv (if n - 1 - q = f then 1 else 0) = (0 : α)
      rw [if_neg (znf q hq), rv_zero])]
    have e1 : dot ((((List.range n).map fun j => if j = f then (1 : Rat) else 0)).map rv) ((List.range n).map v) = v f := by
      rw [List.map_map]
      show sm (List.range n) _ v = v f
      rw [sm_comm, sm_one List.nodup_range (List.mem_range.mpr hf) fun q hq => ?_]
      show rv (if q = f then 1 else 0) = if q = f then (1 : α) else 0
      split
      · exact rv_one
      · exact rv_zero
    rw [e1]
    have e2 : (ps.map fun q => (rv (formQ p (-((fin p (rowAt kept q) q).getD (n - 1 - f) 0))) : α) * ((List.range n).map v).getD (n - 1 - q) 0) = ps.map fun q => rev n v q * - K q (n - 1 - f) := List.map_congr_left fun q hq => by
      obtain ⟨h1, h2, _⟩ := T.row q hq (n - 1 - f) (by omega)
      rw [formQ_rv g (dn_neg h1), rv_neg, h2, range_getD _ (by have := T.lt q hq; omega), rev_at (T.lt q hq)]
      grind
    rw [e2, ← sm_sum, sm_neg]
    unfold lft
    rw [rev_at (by omega), show n - 1 - (n - 1 - f) = f by omega]
    grind
/-- the solution's numbers -/
theorem sol_ok {p : Int} (gk : Gok p) {many : Nat} {kept : List (Nat × List Int)} {ps : List Nat} {K : Nat → Nat → α} (T : Tells p (many + 1) kept ps K) (hm : ¬ many ∈ ps) :
    (solN p many kept ps).length = many ∧ (∀ q ∈ solN p many kept ps, FormOk p q) ∧ ∀ v : Nat → α, dot ((solN p many kept ps).map rv) ((List.range many).map v) = sm ps v (fun q => K q many) := by
  have lt : ∀ q ∈ ps, q < many := fun q hq => by
    have := T.lt q hq
    have : q ≠ many := fun z => hm (by rw [← z]; exact hq)
    omega
  unfold solN
  refine ⟨by rw [fold_len (fun q => q), List.length_replicate], fold_mem (fun q => q) _ ps _ (fun y hy => ?_) (fun q hq => (T.row q hq many (by omega)).2.2), fun v => ?_⟩
  · rw [List.eq_of_mem_replicate hy]
    exact form_zero gk
  · have z0 : ∀ q, (((List.replicate many (0 : Rat)).map rv).getD q 0 : α) = 0 := fun q => by
      rw [List.map_replicate, rv_zero, List.getD_eq_getElem?_getD, List.getElem?_replicate]
      split <;> rfl
    rw [fold_dot (fun q => q) (fun q => (fin p (rowAt kept q) q).getD many 0) _ ps _ (by rw [List.length_replicate, List.length_map, List.length_range]) (by rw [List.map_id']; exact T.nd) (fun q hq => by rw [List.length_replicate]; exact lt q hq) (fun q _ => z0 q)]
    have e1 : dot ((List.replicate many (0 : Rat)).map rv) ((List.range many).map v) = (0 : α) := by
      have : (List.replicate many (0 : Rat)).map rv = (List.range many).map fun _ => (0 : α) := by
        rw [List.map_replicate, rv_zero, List.map_const', List.length_range]
      rw [this]
      show sm (List.range many) _ v = 0
      rw [sm_comm, sm_zero _ fun _ _ => rfl]
    rw [e1, sm_sum]
    have e2 : (ps.map fun q => (rv ((fin p (rowAt kept q) q).getD many 0) : α) * ((List.range many).map v).getD q 0) = ps.map fun q => v q * K q many := List.map_congr_left fun q hq => by
      rw [(T.row q hq many (by omega)).2.1, range_getD _ (lt q hq)]
      grind
    rw [e2]
    grind
end
end K06

/-! # The plain law: the program's elimination runs well -/
namespace K06
open UfQ UfN UfL
open UfL (dot)
section
variable {α : Type} [Lean.Grind.Field α]
theorem lead_of {p : Int} (g : Gd p α) {n : Nat} {kept : List (Nat × List Int)} {R : List (Nat → α)} {P : List Nat} {K : Nat → Nat → α} (I : KInv p n kept R P K) : LeadOk p kept := fun qh hqh t ht => by
  obtain ⟨c, _, H⟩ := I.row qh hqh
  have hq : qh.1 ∈ P := by
    have : qh.1 ∈ kept.map (·.1) := List.mem_map.mpr ⟨qh, hqh, rfl⟩
    rw [I.pl] at this
    exact List.mem_reverse.mp this
  have e := H.rel t
  rw [I.ech _ hq t ht] at e
  exact g.inj _ (H.ok t) (by rw [e]; grind)
/-- a row's numbers in the field -/
def vrow (qs : List Rat) : Nat → α := fun j => rv (qs.getD j 0)
theorem prep_row {p : Int} (g : Gd p α) (p0 : p ≠ 0) {n : Nat} {qs : List Rat} (hl : qs.length = n) (hd : ∀ q ∈ qs, Dn p q) : Row p n (prep p qs) (vrow qs : Nat → α) 1 := by
  have pp : 0 < p := by have := g.p0; omega
  have e : prep p qs = qs.map fun q => q.num.fmod p := by
    unfold prep
    rw [if_pos pp]
  have ev : ∀ j, (prep p qs).getD j 0 = (qs.getD j 0).num.fmod p := fun j => by
    rw [e, List.getD_eq_getElem?_getD, List.getD_eq_getElem?_getD, List.getElem?_map]
    cases qs[j]? with
    | none => exact (Int.zero_fmod p).symm
    | some q => rfl
  refine ⟨by rw [e, List.length_map, hl], fun z => Lean.Grind.Field.zero_ne_one z.symm, fun j => ?_, fun j => by rw [ev]; exact oki_mod p0 g.p0 _, fun z => (p0 z).elim⟩
  rw [ev, g.md p0]
  unfold vrow
  have hdj : (qs.getD j 0).den = 1 := by
    rw [List.getD_eq_getElem?_getD]
    cases e : qs[j]? with
    | none => rfl
    | some q => exact hd q (List.mem_of_getElem? e) p0
  rw [rv_of_den hdj]
  grind
theorem rows_are {p : Int} {n : Nat} {f : List Rat → List Int} {v : List Rat → Nat → α} : ∀ {rows : Mat}, (∀ r ∈ rows, ∃ c, Row p n (f r) (v r) c) → RowsAre p n (rows.map f) (rows.map v)
  | [], _ => .nil
  | r :: rows, h => by
    obtain ⟨c, hc⟩ := h r List.mem_cons_self
    exact .cons hc (rows_are fun x hx => h x (List.mem_cons_of_mem _ hx))
theorem row_sml {p : Int} (gk : Gok p) (p0 : p ≠ 0) {n : Nat} {u : List Int} {v : Nat → α} {c : α} (U : Row p n u v c) : Sml u := fun j => by
  rcases U.ok j with h | h
  · exact (p0 h).elim
  · have : p < 1000 := by unfold Gok at gk; omega
    exact Nat.lt_trans (show (u.getD j 0).natAbs < 1000 by omega) (by decide +kernel)
theorem runP {p : Int} (g : Gd p α) (gk : Gok p) (p0 : p ≠ 0) {n : Nat} (n0 : 0 < n) (n60 : n < 60) {rows : Mat} (hr : ∀ r ∈ rows, r.length = n ∧ ∀ q ∈ r, Dn p q) :
    PreOk p n rows ∧ ∃ (R : List (Nat → α)) (P : List Nat) (K : Nat → Nat → α), KInv p n (runRows p n (rows.map (prep p)) []) R P K ∧ (∀ r ∈ R, r ∈ rows.map vrow) ∧ ∀ r ∈ rows, Cp P K (vrow r) := by
  have hrow : RowsAre p n (rows.map (prep p)) (rows.map (vrow (α := α))) := rows_are fun r h => ⟨1, prep_row g p0 (hr r h).1 (hr r h).2⟩
  obtain ⟨hg, R, P, K, I, _, h1, h2⟩ := run_ok g (fun _ => True) (fun kept R P K I _ qh hq => by
      obtain ⟨c, _, H⟩ := I.row qh hq
      exact row_sml gk p0 H) hrow (K := fun _ _ => 0) (pre := []) .nil nofun nofun (fun _ _ _ _ => .inl trivial) (fun kept R P K I _ r _ u c U k1 hk1 => by
      obtain ⟨c2, _, U2, _⟩ := I.clrPre g hk1 U
      exact row_sml gk p0 U2)
  refine ⟨⟨by unfold Gok at gk; omega, n0, n60, fun r h => ⟨(hr r h).1, fun z => (p0 z).elim, fun _ => fun q hq => (hr r h).2 q hq p0⟩, hg⟩, R, P, K, I, fun r h => ?_, fun r h => h2 _ (.inr (List.mem_map.mpr ⟨r, h, rfl⟩))⟩
  rcases h1 r h with h | h
  · cases h
  · exact h
end
/-! ### the ground 0 -/
/-- M is 7776 times the row -/
def Sc (r : List Rat) (M : Nat → Int) : Prop := ∀ j, (M j : Rat) = 7776 * r.getD j 0
theorem sc_den {q : Rat} {M : Int} (h : (M : Rat) = 7776 * q) : q = fr M 7776 := by
  rw [show fr M 7776 = (M : Rat) / ((7776 : Int) : Rat) from Rat.divInt_eq_div _ _, h]
  have : ((7776 : Int) : Rat) = 7776 := rfl
  rw [this]
  grind
theorem sc_dvd {q : Rat} {M : Int} (h : (M : Rat) = 7776 * q) : q.den ∣ 7776 := by
  rw [sc_den h, Rat.den_divInt, if_neg (by decide)]
  exact Nat.div_dvd_of_dvd (Nat.gcd_dvd_left _ _)
theorem lcm_dvd' {m : Nat} : ∀ (qs : List Rat) (s : Nat), s ∣ m → (∀ q ∈ qs, q.den ∣ m) → qs.foldl (fun s q => Nat.lcm s q.den) s ∣ m
  | [], _, h, _ => h
  | q :: qs, s, h, hq => lcm_dvd' qs _ (Nat.lcm_dvd h (hq q List.mem_cons_self)) fun x hx => hq x (List.mem_cons_of_mem _ hx)
theorem wh_of {r : List Rat} {M : Nat → Int} {C : Nat} (hl : r.length ≤ 1000) (h : Sc r M) (hM : ∀ j, (M j).natAbs < 2 ^ 3900) : WhOk r ∧ lcmQ r ∣ 7776 := by
  have hd : ∀ q ∈ r, q.den ∣ 7776 := fun q hq => by
    obtain ⟨j, hj⟩ := List.mem_iff_getElem?.mp hq
    have := h j
    rw [List.getD_eq_getElem?_getD, hj] at this
    exact sc_dvd this
  refine ⟨⟨hl, fun q hq => ?_, fun i => ?_⟩, lcm_dvd' r 1 (Nat.one_dvd _) hd⟩
  · obtain ⟨j, hj⟩ := List.mem_iff_getElem?.mp hq
    have e := h j
    rw [List.getD_eq_getElem?_getD, hj] at e
    refine ⟨?_, ?_⟩
    · rw [sc_den (q := q) e]
      exact fr_sm (by decide) (hM j) (by decide +kernel)
    · exact Nat.lt_of_le_of_lt (Nat.le_of_dvd (by decide) (hd q hq)) (by decide)
  · have := lcm_dvd' (m := 7776) (r.take i) 1 (Nat.one_dvd _) fun q hq => hd q (List.mem_of_mem_take hq)
    exact Nat.lt_of_le_of_lt (Nat.le_of_dvd (by decide) this) (by decide)
theorem whole_row {n : Nat} {r : List Rat} {M : Nat → Int} (hl : r.length = n) (h : Sc r M) : ∃ c : Rat, Row 0 n (wholeQ r) (cst M) c := by
  have hd : ∀ q ∈ r, q.den ∣ 7776 := fun q hq => by
    obtain ⟨j, hj⟩ := List.mem_iff_getElem?.mp hq
    have := h j
    rw [List.getD_eq_getElem?_getD, hj] at this
    exact sc_dvd this
  have hL := lcm_dvd' (m := 7776) r 1 (Nat.one_dvd _) hd
  have hL0 : lcmQ r ≠ 0 := fun z => by
    have hL : lcmQ r ∣ 7776 := hL
    rw [z] at hL
    have := Nat.eq_zero_of_zero_dvd hL
    omega
  have e : ∀ j, (((r.map fun q => q.num * ((lcmQ r / q.den : Nat) : Int)).getD j 0 : Int) : Rat) = ((lcmQ r : Nat) : Rat) * r.getD j 0 := fun j => by
    rw [List.getD_eq_getElem?_getD, List.getD_eq_getElem?_getD, List.getElem?_map]
    cases hj : r[j]? with
    | none =>
      show ((0 : Int) : Rat) = _ * (0 : Rat)
      grind
    | some q =>
      show ((q.num * ((lcmQ r / q.den : Nat) : Int) : Int) : Rat) = ((lcmQ r : Nat) : Rat) * q
      have hq : q.den ∣ lcmQ r := lcmQ_dvd (List.mem_of_getElem? hj)
      obtain ⟨k, hk⟩ := hq
      have dk : lcmQ r / q.den = k := by
        rw [hk]
        exact Nat.mul_div_cancel_left k (Nat.pos_of_ne_zero q.den_nz)
      rw [dk, hk, Rat.intCast_mul, Rat.natCast_mul]
      have hqq : (q.num : Rat) = q * (q.den : Rat) := by
        have : (q.num : Rat) / (((q.den : Nat) : Int) : Rat) = q := by rw [← Rat.divInt_eq_div]; exact q_fr q
        have : (q.num : Rat) / ((q.den : Nat) : Rat) = q := this
        have dz : ((q.den : Nat) : Rat) ≠ 0 := fun z => q.den_nz (by exact_mod_cast z)
        grind
      rw [hqq]
      have : (((k : Nat) : Int) : Rat) = ((k : Nat) : Rat) := rfl
      rw [this]
      grind
  have hc : ((lcmQ r : Nat) : Rat) / 7776 ≠ 0 := by
    have : ((lcmQ r : Nat) : Rat) ≠ 0 := fun z => hL0 (by exact_mod_cast z)
    grind
  have rel : Rel (r.map fun q => q.num * ((lcmQ r / q.den : Nat) : Int)) (cst M) (((lcmQ r : Nat) : Rat) / 7776) := fun j => by
    show (((r.map fun q => q.num * ((lcmQ r / q.den : Nat) : Int)).getD j 0 : Int) : Rat) = _ * ((M j : Int) : Rat)
    rw [e, h j]
    grind
  refine ⟨_, by unfold wholeQ; rw [primL_len, List.length_map, hl], ?_, prim_rel gdRat rfl rel, fun j => .inl rfl, fun _ => primL_prim _⟩
  have cz : (ic (cont (r.map fun q => q.num * ((lcmQ r / q.den : Nat) : Int))) : Rat) ≠ 0 := fun z => cont_ne _ (gdRat.inj _ (.inl rfl) z)
  grind
theorem run0 {n m B C' W W0 : Nat} {w : Nat → Nat} (n0 : 0 < n) (n60 : n < 60) {rows : Mat} (Mf : List Rat → Nat → Int) (hM : ∀ r ∈ rows, r.length = n ∧ Sc r (Mf r) ∧ ∀ j, (Mf r j).natAbs ≤ C' * w j)
    (w1 : ∀ q, 1 ≤ w q) (wW : ∀ q, w q ≤ W) (C1 : 1 ≤ C') (Φ : (Nat → Int) → Prop) (hΦ : ∀ M, Φ M → ∀ q, (M q).natAbs ≤ B * w q)
    (hd : ∀ a r b, rows = a ++ r :: b → Φ (Mf r) ∨ Sp (a.map fun r => cst (Mf r)) (cst (Mf r)))
    (hP : ∀ (R : List (Nat → Int)) (P : List Nat) (K : Nat → Nat → Rat), (∀ M ∈ R, Φ M) → St (R.map cst) P K → Ech P K → (∀ q ∈ P, q < n) → pw w P ≤ W0 ∧ P.length + 1 ≤ m)
    (big : ∀ k, k + 1 ≤ m → m * (C' * W * ((m * B) ^ k * W0 * W)) < 2 ^ 3900) :
    PreOk 0 n rows ∧ ∃ (R : List (Nat → Int)) (P : List Nat) (K : Nat → Nat → Rat), KInv 0 n (runRows 0 n (rows.map (prep 0)) []) (R.map cst) P K ∧ (∀ M ∈ R, Φ M) ∧ (∀ M ∈ R, ∃ r ∈ rows, M = Mf r) ∧ ∀ r ∈ rows, Cp P K (cst (Mf r)) := by
  have ep : ∀ r : List Rat, prep 0 r = wholeQ r := fun r => if_neg (by decide)
  have hrow : RowsAre 0 n (rows.map (prep 0)) (rows.map fun r => cst (Mf r)) := rows_are (v := fun r => cst (Mf r)) fun r h => by
    rw [ep]
    exact whole_row (hM r h).1 (hM r h).2.1
  have back : ∀ R : List (Nat → Rat), (∀ r ∈ R, ∃ M, Φ M ∧ r = cst M) → ∃ R' : List (Nat → Int), R = R'.map cst ∧ ∀ M ∈ R', Φ M := fun R => by
    induction R with
    | nil => exact fun _ => ⟨[], rfl, nofun⟩
    | cons r R ih =>
      intro h
      obtain ⟨M, h1, rfl⟩ := h r List.mem_cons_self
      obtain ⟨R', rfl, h2⟩ := ih fun x hx => h x (List.mem_cons_of_mem _ hx)
      refine ⟨M :: R', rfl, fun x hx => ?_⟩
      rcases List.mem_cons.mp hx with rfl | hx
      · exact h1
      · exact h2 x hx
  have sm_ : ∀ (kept : List (Nat × List Int)) (R : List (Nat → Rat)) (P : List Nat) (K : Nat → Nat → Rat), KInv 0 n kept R P K → (∀ r ∈ R, ∃ M, Φ M ∧ r = cst M) → (∀ qh ∈ kept, Sml qh.2) ∧ ∀ (r : Nat → Int) (u : List Int) (c : Rat), (∀ q, (r q).natAbs ≤ C' * w q) → Row 0 n u (cst r) c → ∀ k1, k1 <+: kept → Sml (clrAll 0 k1 u) := fun kept R P K I hR => by
    obtain ⟨R', rfl, hR'⟩ := back R hR
    obtain ⟨h1, h2⟩ := hP R' P K hR' I.st I.ech I.lt
    exact small_runs I w1 wW h1 h2 (fun r hr => hΦ r (hR' r hr)) C1 (big _ h2)
  obtain ⟨hg, R, P, K, I, hF, h1, h2⟩ := run_ok gdRat (fun r => ∃ M, Φ M ∧ r = cst M) (fun kept R P K I hR => (sm_ kept R P K I hR).1) hrow (K := fun _ _ => 0) (pre := []) .nil nofun nofun (fun a r b e => by
      obtain ⟨a', b', e1, rfl, e2⟩ := List.map_eq_append_iff.mp e
      obtain ⟨r', b'', rfl, rfl, rfl⟩ := List.map_eq_cons_iff.mp e2
      rcases hd a' r' b'' e1 with h | h
      · exact .inl ⟨_, h, rfl⟩
      · exact .inr h) (fun kept R P K I hR r hr u c U => by
      obtain ⟨r', h1, rfl⟩ := List.mem_map.mp hr
      exact (sm_ kept R P K I hR).2 _ u c (hM r' h1).2.2 U)
  have bound : ∀ r ∈ rows, ∀ j, (Mf r j).natAbs < 2 ^ 3900 := fun r hr j => by
    have b1 := (hM r hr).2.2 j
    have b2 := wW j
    have m1 : 1 ≤ m := by
      have := (hP [] [] (fun _ _ => 0) nofun .nil nofun nofun).2
      omega
    have b3 := big 0 (by omega)
    have W01 : 1 ≤ W0 := by
      have := (hP [] [] (fun _ _ => 0) nofun .nil nofun nofun).1
      exact this
    have W1 : 1 ≤ W := Nat.le_trans (w1 0) (wW 0)
    refine Nat.lt_of_le_of_lt (Nat.le_trans b1 (Nat.mul_le_mul_left _ b2)) (Nat.lt_of_le_of_lt ?_ b3)
    rw [Nat.pow_zero, Nat.one_mul]
    calc C' * W ≤ C' * W * (W0 * W) := Nat.le_mul_of_pos_right _ (Nat.mul_pos W01 W1)
      _ ≤ m * (C' * W * (W0 * W)) := Nat.le_mul_of_pos_left _ m1
  refine ⟨⟨.inl rfl, n0, n60, fun r h => ⟨(hM r h).1, fun _ => (wh_of (C := 0) (by rw [(hM r h).1]; omega) (hM r h).2.1 (bound r h)).1, fun z => (z rfl).elim⟩, hg⟩, ?_⟩
  obtain ⟨R', rfl, hR'⟩ := back R hF
  refine ⟨R', P, K, I, hR', fun M hM' => ?_, fun r h => h2 _ (.inr (List.mem_map.mpr ⟨r, h, rfl⟩))⟩
  rcases h1 (cst M) (List.mem_map.mpr ⟨M, hM', rfl⟩) with h | h
  · cases h
  · obtain ⟨r, h3, h4⟩ := List.mem_map.mp h
    refine ⟨r, h3, funext fun j => ?_⟩
    have := congrFun h4 j
    have : ((Mf r j : Int) : Rat) = ((M j : Int) : Rat) := this
    exact_mod_cast this.symm
end K06

/-! # The plain law: a solution or a bar -/
namespace K06
open UfQ UfN UfL
open UfL (dot)
section
variable {α : Type} [Lean.Grind.Field α]
/-- the j-th column, the target, in the field -/
def cv (us : List (List LP)) (j : Nat) : Nat → α := fun k => val (at0 (us.getD j []) k)
def tv (t : List LP) : Nat → α := fun k => val (at0 t k)
def rowA (us : List (List LP)) (t : List LP) (k : Nat) : Nat → α := fun j => if j < us.length then cv us j k else if j = us.length then tv t k else 0
/-- rows and target as the law has them -/
structure Data (p : Int) (n : Nat) (us : List (List LP)) (t : List LP) : Prop where
  cols : ∀ u ∈ us, u.length = n ∧ ∀ x ∈ u, Can p x
  tl : t.length = n
  tc : ∀ x ∈ t, Can p x
theorem tv_far {n : Nat} {t : List LP} (h : t.length = n) {k : Nat} (hk : n ≤ k) : (tv t k : α) = 0 := by
  unfold tv
  rw [at0_far (by omega), val_zero]
theorem getD_mem {us : List (List LP)} {j : Nat} (h : j < us.length) : us.getD j [] ∈ us := by
  rw [List.getD_eq_getElem?_getD, List.getElem?_eq_getElem h]
  exact List.getElem_mem h
theorem Data.far {p : Int} {n : Nat} {us : List (List LP)} {t : List LP} (D : Data p n us t) {j k : Nat} (hj : j < us.length) (hk : n ≤ k) : (cv us j k : α) = 0 := tv_far (D.cols _ (getD_mem hj)).1 hk
theorem Data.rowC {p : Int} {n : Nat} {us : List (List LP)} {t : List LP} (D : Data p n us t) {j : Nat} (hj : j < us.length) : RowP p n (us.getD j []) (cv us j : Nat → α) := ⟨(D.cols _ (getD_mem hj)).1, (D.cols _ (getD_mem hj)).2, fun _ => rfl⟩
theorem Data.rowT {p : Int} {n : Nat} {us : List (List LP)} {t : List LP} (D : Data p n us t) : RowP p n t (tv t : Nat → α) := ⟨D.tl, D.tc, fun _ => rfl⟩
/-- what the program gets of a row -/
theorem hrow_rv {p : Int} (g : Gd p α) {u : List LP} {qs : List Rat} (h : HRow p u qs) (hc : ∀ x ∈ u, Can p x) : (∀ q ∈ qs, Dn p q) ∧ ∀ k, (rv (qs.getD k 0) : α) = val (at0 u k) := by
  refine ⟨fun q hq p0 => ?_, fun k => ?_⟩
  · obtain ⟨i, hi⟩ := List.mem_iff_getElem?.mp hq
    have hil := (List.getElem?_eq_some_iff.mp hi).1
    obtain ⟨q', h1, _, h2⟩ := h.2 i _ (List.getElem?_eq_getElem (by rw [← h.1]; exact hil))
    rw [hi] at h1
    cases h1
    exact (h2 p0).1
  · by_cases hk : k < u.length
    · have e := List.getElem?_eq_getElem hk
      obtain ⟨q, h1, h2, h3⟩ := h.2 k _ e
      have ea : at0 u k = u[k] := by
        unfold at0
        rw [List.getD_eq_getElem?_getD, e]
        rfl
      have eq : qs.getD k 0 = q := by
        rw [List.getD_eq_getElem?_getD, h1]
        rfl
      rw [ea, eq]
      by_cases p0 : p = 0
      · rw [h2 p0]
        rfl
      · obtain ⟨d1, d2, _⟩ := h3 p0
        have cu := hc _ (List.getElem_mem hk)
        unfold Can at cu
        rw [if_neg p0] at cu
        unfold val
        rw [cu.1, ic_one, ← d2, g.md p0, rv_of_den d1]
        grind
    · rw [at0_far (by omega), val_zero, List.getD_eq_getElem?_getD, List.getElem?_eq_none (by rw [h.1]; omega)]
      exact rv_zero
theorem map_val (us : List (List LP)) (k : Nat) : (us.map fun u => at0 u k).map (val (α := α)) = (List.range us.length).map fun j => cv us j k := by
  rw [List.map_map]
  refine List.ext_getElem? fun j => ?_
  rw [List.getElem?_map, List.getElem?_map]
  by_cases h : j < us.length
  · rw [List.getElem?_range h, List.getElem?_eq_getElem h]
    unfold cv
    show some (val (at0 us[j] k)) = some (val (at0 (us.getD j []) k))
    rw [List.getD_eq_getElem?_getD, List.getElem?_eq_getElem h]
    rfl
  · rw [List.getElem?_eq_none (by omega), List.getElem?_eq_none (by rw [List.length_range]; omega)]
    rfl
theorem map_val_row {u : List LP} {n : Nat} (h : u.length = n) : u.map (val (α := α)) = (List.range n).map fun k => val (at0 u k) := by
  refine List.ext_getElem? fun j => ?_
  rw [List.getElem?_map, List.getElem?_map]
  by_cases hj : j < n
  · rw [List.getElem?_range hj, List.getElem?_eq_getElem (by omega)]
    unfold at0
    show some _ = some (val (u.getD j (0, 1)))
    rw [List.getD_eq_getElem?_getD, List.getElem?_eq_getElem (by omega)]
    rfl
  · rw [List.getElem?_eq_none (by omega), List.getElem?_eq_none (by rw [List.length_range]; omega)]
    rfl
theorem prs_val (N : List Rat) : (prs N).map (val (α := α)) = N.map rv := by
  rw [List.map_map]
  rfl
/-- the law's sum of products of told numbers -/
theorem dot_told {p : Int} (g : Gd p α) {N : List Rat} {b : List LP} (hN : ∀ q ∈ N, FormOk p q) (hb : ∀ x ∈ b, Can p x) : Can p (dotP p (prs N) b) ∧ (val (dotP p (prs N) b) : α) = dot (N.map rv) (b.map val) := by
  obtain ⟨h1, h2⟩ := dotFrom_ok g (prs N) b (0, 1) (zero_can g) (fun x hx => by
    obtain ⟨q, hq, rfl⟩ := List.mem_map.mp hx
    exact can_pr (hN q hq)) hb
  refine ⟨h1, ?_⟩
  unfold dotP
  rw [h2, val_zero, prs_val]
  grind
/-! ### spans -/
def cvl (us : List (List LP)) : List (Nat → α) := (List.range us.length).map (cv us)
theorem sp_coef {us : List (List LP)} {v : Nat → α} (h : Sp (cvl us) v) : ∃ c : Nat → α, ∀ k, v k = sm (List.range us.length) (fun j => cv us j k) c := by
  induction h with
  | zero => exact ⟨fun _ => 0, fun k => (sm_zero _ fun _ _ => rfl).symm⟩
  | mem h =>
    obtain ⟨j, hj, rfl⟩ := List.mem_map.mp h
    exact ⟨fun q => if q = j then 1 else 0, fun k => (sm_one (f := fun q => cv us q k) List.nodup_range hj fun _ _ => rfl).symm⟩
  | add _ _ h1 h2 =>
    obtain ⟨c, h1⟩ := h1
    obtain ⟨d, h2⟩ := h2
    refine ⟨fun q => c q + d q, fun k => ?_⟩
    dsimp only
    rw [sm_comm, sm_addl, h1 k, h2 k, sm_comm _ c, sm_comm _ d]
  | mul a _ h =>
    obtain ⟨c, h⟩ := h
    refine ⟨fun q => a * c q, fun k => ?_⟩
    dsimp only
    rw [sm_comm, sm_mull, h k, sm_comm _ c]
/-- the law's leads -/
structure LeadsAre (p : Int) (n : Nat) (us : List (List LP)) (P : List Nat) (K : Nat → Nat → α) (R : List (Nat → α)) : Prop where
  ch : Chain p n (leadsP p us) R P K
  sub : ∀ r ∈ R, ∃ j, j < us.length ∧ r = cv us j
  cp : ∀ j, j < us.length → Cp P K (cv us j)
theorem leads_are {p : Int} (g : Gd p α) {n : Nat} {us : List (List LP)} {t : List LP} (D : Data p n us t) : ∃ P K R, LeadsAre (α := α) p n us P K R := by
  have : ∀ m, m ≤ us.length → ∃ (R : List (Nat → α)) (P : List Nat) (K : Nat → Nat → α), Chain p n (leadsP p (us.take m)) R P K ∧ (∀ r ∈ R, ∃ j, j < m ∧ r = cv us j) ∧ ∀ j, j < m → Cp P K (cv us j) := fun m => by
    induction m with
    | zero => exact fun _ => ⟨[], [], fun _ _ => 0, .nil, nofun, fun j h => absurd h (Nat.not_lt_zero j)⟩
    | succ m ih =>
      intro hm
      obtain ⟨R, P, K, C, h1, h2⟩ := ih (by omega)
      have hm' : m < us.length := by omega
      have eu : us.getD m [] = us[m] := by rw [List.getD_eq_getElem?_getD, List.getElem?_eq_getElem hm']; rfl
      have e : leadsP p (us.take (m + 1)) = leadP p (leadsP p (us.take m)) (us.getD m []) := by
        unfold leadsP
        rw [List.take_add_one, List.getElem?_eq_getElem hm', List.foldl_append, eu]
        rfl
      rcases C.lead g (D.rowC (α := α) hm') with ⟨_, e2, hc⟩ | ⟨q, x, l, _, e2, C2, X, hq, hx, _⟩
      · rw [e, e2]
        refine ⟨R, P, K, C, fun r hr => ?_, fun j hj => ?_⟩
        · obtain ⟨j, h3, h4⟩ := h1 r hr
          exact ⟨j, by omega, h4⟩
        · by_cases z : j = m
          · rw [z]
            exact hc
          · exact h2 j (by omega)
      · rw [e, e2]
        refine ⟨_, _, _, C2, fun r hr => ?_, fun j hj => ?_⟩
        · rcases List.mem_cons.mp hr with rfl | hr
          · exact ⟨m, by omega, rfl⟩
          · obtain ⟨j, h3, h4⟩ := h1 r hr
            exact ⟨j, by omega, h4⟩
        · by_cases z : j = m
          · rw [z]
            exact C2.st.row _ List.mem_cons_self
          · exact (h2 j (by omega)).nxt (C.st.notMem hq)
  obtain ⟨R, P, K, C, h1, h2⟩ := this us.length (Nat.le_refl _)
  rw [List.take_length] at C
  exact ⟨P, K, R, C, h1, h2⟩
theorem within_iff {p : Int} (g : Gd p α) {n : Nat} {ls : List (Nat × List LP)} {R : List (Nat → α)} {P : List Nat} {K : Nat → Nat → α} (C : Chain p n ls R P K) {t : List LP} {v : Nat → α} (T : RowP p n t v) : withinP p ls t = true ↔ Cp P K v := by
  have L := C.less g T
  unfold withinP
  rw [List.all_eq_true]
  constructor
  · intro h
    refine .of_lft fun j => (L.nz g j).mpr ?_
    by_cases hj : j < (lessAll p ls t).length
    · have : at0 (lessAll p ls t) j ∈ lessAll p ls t := by
        unfold at0
        rw [List.getD_eq_getElem?_getD, List.getElem?_eq_getElem hj]
        exact List.getElem_mem hj
      simpa using h _ this
    · rw [at0_far (by omega)]
  · intro h x hx
    obtain ⟨j, hj⟩ := List.mem_iff_getElem?.mp hx
    have e : at0 (lessAll p ls t) j = x := by
      unfold at0
      rw [List.getD_eq_getElem?_getD, hj]
      rfl
    have := (L.nz g j).mp (h.lft j)
    rw [e] at this
    simpa using this
theorem span_of_cp {us : List (List LP)} {P : List Nat} {K : Nat → Nat → α} {R : List (Nat → α)} (S : St R P K) (sub : ∀ r ∈ R, ∃ j, j < us.length ∧ r = cv us j) {v : Nat → α} (h : Cp P K v) : Sp (cvl us) v := by
  have : Sp R v := (Sp.sum (K := K) v P S.sp).cast fun j => (h j).symm
  exact this.up fun r hr => by
    obtain ⟨j, h1, rfl⟩ := sub r hr
    exact List.mem_map.mpr ⟨j, List.mem_range.mpr h1, rfl⟩
/-- the program's runs -/
structure RunA (p : Int) (n : Nat) (us : List (List LP)) (t : List LP) (kept : List (Nat × List Int)) (P : List Nat) (K : Nat → Nat → α) : Prop where
  inv : ∃ R, KInv p (us.length + 1) kept R P K ∧ ∃ s : α, s ≠ 0 ∧ ∀ r ∈ R, ∃ k, k < n ∧ ∀ j, r j = s * rowA us t k j
  cp : ∀ k, k < n → Cp P K (rowA us t k)
structure RunB (p : Int) (n : Nat) (us : List (List LP)) (kept : List (Nat × List Int)) (P : List Nat) (K : Nat → Nat → α) : Prop where
  inv : ∃ R, KInv p n kept R P K ∧ ∃ s : α, s ≠ 0 ∧ ∀ r ∈ R, ∃ j, j < us.length ∧ ∀ i, r i = s * rev n (cv us j) i
  cp : ∀ j, j < us.length → Cp P K (rev n (cv us j))
/-- no lead at the target: it is a sum of the columns -/
theorem solved_span {p : Int} {n : Nat} {us : List (List LP)} {t : List LP} {kept : List (Nat × List Int)} {P : List Nat} {K : Nat → Nat → α} (D : Data p n us t) (A : RunA p n us t kept P K) (hm : ¬ us.length ∈ P) :
    (∀ k, k < n → tv t k = sm P (fun q => cv us q k) (fun q => K q us.length)) ∧ Sp (cvl us) (tv t : Nat → α) := by
  obtain ⟨R, I, _⟩ := A.inv
  have lt : ∀ q ∈ P, q < us.length := fun q hq => by
    have := I.lt q hq
    have : q ≠ us.length := fun z => hm (by rw [← z]; exact hq)
    omega
  have key : ∀ k, k < n → tv t k = sm P (fun q => cv us q k) (fun q => K q us.length) := fun k hk => by
    have := A.cp k hk us.length
    unfold rowA at this
    rw [if_neg (by omega), if_pos rfl] at this
    rw [this]
    exact sm_congr P (fun q hq => if_pos (lt q hq)) fun _ _ => rfl
  refine ⟨key, (Sp.sum (K := cv us) (fun q => K q us.length) P fun q hq => .mem (List.mem_map.mpr ⟨q, List.mem_range.mpr (lt q hq), rfl⟩)).cast fun k => ?_⟩
  rw [sm_comm]
  by_cases hk : k < n
  · exact (key k hk).symm
  · rw [tv_far D.tl (by omega), sm_comm, sm_zero P fun q hq => D.far (lt q hq) (by omega)]
theorem barred_span {p : Int} {n : Nat} {us : List (List LP)} {t : List LP} {kept : List (Nat × List Int)} {P : List Nat} {K : Nat → Nat → α} (A : RunA p n us t kept P K) (hm : us.length ∈ P) : ¬ Sp (cvl us) (tv t : Nat → α) := fun h => by
  obtain ⟨R, I, s, s0, hR⟩ := A.inv
  obtain ⟨c, hc⟩ := sp_coef h
  refine I.st.fresh I.ech (j := us.length) c (fun r hr => ?_) hm
  obtain ⟨k, hk, e⟩ := hR r hr
  rw [e]
  unfold rowA
  rw [if_neg (by omega), if_pos rfl, hc k, ← sm_mull]
  refine sm_congr _ (fun q hq => ?_) fun _ _ => rfl
  rw [e]
  unfold rowA
  rw [if_pos (List.mem_range.mp hq)]
/-- the solution is one -/
theorem core_sol {p : Int} (g : Gd p α) (gk : Gok p) {n : Nat} {us : List (List LP)} {t : List LP} (D : Data p n us t) {kept : List (Nat × List Int)} {P : List Nat} {K : Nat → Nat → α} (A : RunA p n us t kept P K) {ps : List Nat} (hs : Sorted kept ps) (hm : ¬ us.length ∈ ps) :
    withinP p (leadsP p us) t = true ∧ (solN p us.length kept ps).length = us.length ∧ (∀ q ∈ solN p us.length kept ps, FormOk p q) ∧ ∀ k, k < t.length → dotP p (prs (solN p us.length kept ps)) (us.map fun u => at0 u k) = at0 t k := by
  obtain ⟨R, I, _⟩ := id A.inv
  have hp := sorted_perm I hs
  have hmP : ¬ us.length ∈ P := fun z => hm (hp.symm.subset z)
  obtain ⟨h1, h2⟩ := solved_span D A hmP
  obtain ⟨P', K', R', L⟩ := leads_are g D
  obtain ⟨s1, s2, s3⟩ := sol_ok gk (tells g I hs) hm
  refine ⟨(within_iff g L.ch D.rowT).mpr (h2.cp fun v hv => ?_), s1, s2, fun k hk => ?_⟩
  · obtain ⟨j, hj, rfl⟩ := List.mem_map.mp hv
    exact L.cp j (List.mem_range.mp hj)
  · rw [D.tl] at hk
    obtain ⟨c1, c2⟩ := dot_told g (b := us.map fun u => at0 u k) s2 fun x hx => by
      obtain ⟨u, hu, rfl⟩ := List.mem_map.mp hx
      exact at0_can g (D.cols u hu).2 k
    refine can_inj g c1 (at0_can g D.tc k) ?_
    rw [c2, map_val, s3 fun j => cv us j k, sm_perm hp]
    exact (h1 k hk).symm
/-- some kernel row does not go with the target -/
theorem bar_some {p : Int} (g : Gd p α) (gk : Gok p) {n : Nat} {us : List (List LP)} {t : List LP} (D : Data p n us t) {kept : List (Nat × List Int)} {P : List Nat} {K : Nat → Nat → α} (A : RunA p n us t kept P K) (hm : us.length ∈ P)
    {kept2 : List (Nat × List Int)} {P2 : List Nat} {K2 : Nat → Nat → α} (B : RunB p n us kept2 P2 K2) : ∃ f, f < n ∧ ¬ (n - 1 - f) ∈ P2 ∧ lft P2 K2 (rev n (tv t)) (n - 1 - f) ≠ 0 := by
  refine Classical.byContradiction fun no => barred_span A hm ?_
  obtain ⟨R, I, s, s0, hR⟩ := B.inv
  have hall : Cp P2 K2 (rev n (tv t)) := .of_lft fun i => by
    by_cases hi : i < n
    · by_cases hiP : i ∈ P2
      · exact I.st.lft_zero _ hiP
      · refine Classical.byContradiction fun z => no ⟨n - 1 - i, by omega, ?_, ?_⟩
        · rw [show n - 1 - (n - 1 - i) = i by omega]
          exact hiP
        · rw [show n - 1 - (n - 1 - i) = i by omega]
          exact z
    · unfold lft
      rw [show rev n (tv t) i = (0 : α) from if_neg hi, sm_zero P2 fun q hq => ?_]
      · grind
      · have : q ∈ kept2.map (·.1) := by rw [I.pl]; exact List.mem_reverse.mpr hq
        obtain ⟨x, hx, rfl⟩ := List.mem_map.mp this
        obtain ⟨c, _, H⟩ := I.row x hx
        exact H.far (by omega)
  have hsp : Sp R (rev n (tv t)) := (Sp.sum (K := K2) (rev n (tv t)) P2 I.st.sp).cast fun j => (hall j).symm
  have back : ∀ v : Nat → α, Sp R v → Sp (cvl us) (rev n v) := fun v h => by
    induction h with
    | zero =>
      refine Sp.zero.cast fun j => ?_
      unfold rev
      split <;> rfl
    | mem h =>
      obtain ⟨j, hj, e⟩ := hR _ h
      refine (Sp.mul s (.mem (List.mem_map.mpr ⟨j, List.mem_range.mpr hj, rfl⟩))).cast fun i => ?_
      unfold rev
      by_cases hi : i < n
      · rw [if_pos hi, e, rev_at (by omega), show n - 1 - (n - 1 - i) = i by omega]
      · rw [if_neg hi, D.far hj (by omega)]
        grind
    | add _ _ h1 h2 =>
      refine (Sp.add h1 h2).cast fun i => ?_
      unfold rev
      by_cases hi : i < n
      · rw [if_pos hi, if_pos hi, if_pos hi]
      · rw [if_neg hi, if_neg hi, if_neg hi]
        grind
    | mul a _ h =>
      refine (Sp.mul a h).cast fun i => ?_
      unfold rev
      by_cases hi : i < n
      · rw [if_pos hi, if_pos hi]
      · rw [if_neg hi, if_neg hi]
        grind
  refine (back _ hsp).cast fun i => ?_
  unfold rev
  by_cases hi : i < n
  · rw [if_pos hi, if_pos (by omega), show n - 1 - (n - 1 - i) = i by omega]
  · rw [if_neg hi, tv_far D.tl (by omega)]
end
end K06

/-! # The plain law: the bar -/
namespace K06
open UfQ UfN UfL
open UfL (dot)
section
variable {α : Type} [Lean.Grind.Field α]
theorem firstQ_some : ∀ {qs : List Rat} {a : Nat}, firstQ qs = some a → a < qs.length ∧ qs.getD a 0 ≠ 0
  | [], _, h => by cases h
  | q :: qs, a, h => by
    have h : (if q ≠ 0 then some 0 else (firstQ qs).map (· + 1)) = some a := h
    by_cases z : q = 0
    · rw [if_neg (by simp [z])] at h
      cases e : firstQ qs with
      | none => rw [e] at h; cases h
      | some b =>
        rw [e] at h
        cases h
        obtain ⟨i1, i2⟩ := firstQ_some e
        exact ⟨by show b + 1 < qs.length + 1; omega, i2⟩
    · rw [if_pos z] at h
      cases h
      exact ⟨by simp, z⟩
theorem firstQ_ex : ∀ {qs : List Rat} {q : Rat}, q ∈ qs → q ≠ 0 → ∃ a, firstQ qs = some a
  | [], _, h, _ => nomatch h
  | x :: qs, q, h, hq => by
    by_cases z : x = 0
    · rcases List.mem_cons.mp h with rfl | h
      · exact (hq z).elim
      · obtain ⟨a, ha⟩ := firstQ_ex h hq
        refine ⟨a + 1, ?_⟩
        show (if x ≠ 0 then some 0 else (firstQ qs).map (· + 1)) = _
        rw [if_neg (by simp [z]), ha]
        rfl
    · exact ⟨0, if_pos z⟩
/-- the kernel rows: which they are -/
theorem kers_mem {p : Int} {n : Nat} {hc : Mat} {ps : List Nat} {K : Nat → Nat → α} (T : Tells p n (keptB p n hc) ps K) {r : List Rat} (h : r ∈ kersB p n hc ps) : ∃ f, f < n ∧ ¬ (n - 1 - f) ∈ ps ∧ r = kerRow p n (heldP p n (keptB p n hc) ps) f := by
  unfold kersB kerRows at h
  obtain ⟨f, hf, rfl⟩ := List.mem_map.mp h
  obtain ⟨h1, h2⟩ := (free_iff T).mp hf
  exact ⟨f, h1, h2, rfl⟩
theorem ht_map {p : Int} (g : Gd p α) {n : Nat} {t : List LP} {ht : List Rat} (h : HRow p t ht) (hc : ∀ x ∈ t, Can p x) (hl : t.length = n) : ht.map (rv (α := α)) = (List.range n).map (tv t) := by
  refine List.ext_getElem? fun j => ?_
  rw [List.getElem?_map, List.getElem?_map]
  by_cases hj : j < n
  · have e : ht[j]? = some (ht[j]'(by rw [h.1]; omega)) := List.getElem?_eq_getElem _
    rw [e, List.getElem?_range hj]
    have := (hrow_rv g h hc).2 j
    rw [List.getD_eq_getElem?_getD, e] at this
    show some _ = some _
    congr 1
  · rw [List.getElem?_eq_none (by rw [h.1]; omega), List.getElem?_eq_none (by rw [List.length_range]; omega)]
    rfl
/-- sums of products of kernel rows -/
theorem ker_sums {p : Int} (g : Gd p α) (gk : Gok p) {n : Nat} {us : List (List LP)} {t : List LP} (D : Data p n us t) {hc : Mat} {ht : List Rat} (hH : HRow p t ht) {P2 : List Nat} {K2 : Nat → Nat → α} (B : RunB p n us (keptB p n hc) P2 K2) {ps : List Nat} (hs : Sorted (keptB p n hc) ps) {f : Nat} (hf : f < n) (hn : ¬ (n - 1 - f) ∈ ps) :
    (kerRow p n (heldP p n (keptB p n hc) ps) f).length = n ∧ (∀ q ∈ kerRow p n (heldP p n (keptB p n hc) ps) f, FormOk p q) ∧ Dn p (dotQ (kerRow p n (heldP p n (keptB p n hc) ps) f) ht) ∧
    (rv (dotQ (kerRow p n (heldP p n (keptB p n hc) ps) f) ht) : α) = lft P2 K2 (rev n (tv t)) (n - 1 - f) ∧ ∀ j, j < us.length → dot ((kerRow p n (heldP p n (keptB p n hc) ps) f).map rv) ((List.range n).map (cv us j)) = (0 : α) := by
  obtain ⟨R, I, _⟩ := B.inv
  have hp := sorted_perm I hs
  obtain ⟨k1, k2, k3⟩ := ker_ok g gk (tells g I hs) hf hn
  obtain ⟨h1, _⟩ := hrow_rv g hH D.tc
  obtain ⟨d1, d2⟩ := dotQ_ok g (fun q hq => (k2 q hq).dn) h1
  refine ⟨k1, k2, d1, ?_, fun j hj => ?_⟩
  · rw [d2, ht_map g hH D.tc D.tl, k3, lft_perm hp]
  · rw [k3, lft_perm hp]
    exact (B.cp j hj).lft _
/-- a bar is told, and it is one -/
theorem core_bar {p : Int} (g : Gd p α) (gk : Gok p) {n : Nat} {us : List (List LP)} {t : List LP} (D : Data p n us t) {kept : List (Nat × List Int)} {P : List Nat} {K : Nat → Nat → α} (A : RunA p n us t kept P K) (hm : us.length ∈ P)
    {hc : Mat} {ht : List Rat} (hH : HRow p t ht) {P2 : List Nat} {K2 : Nat → Nat → α} (B : RunB p n us (keptB p n hc) P2 K2) {ps : List Nat} (hs : Sorted (keptB p n hc) ps) :
    withinP p (leadsP p us) t = false ∧ (∃ a, firstQ (totsB p (kersB p n hc ps) ht) = some a) ∧ ∀ a, firstQ (totsB p (kersB p n hc ps) ht) = some a →
      (barW p (kersB p n hc ps) ht a).length = t.length ∧ (∀ q ∈ barW p (kersB p n hc ps) ht a, FormOk p q) ∧ (∀ u ∈ us, dotP p (prs (barW p (kersB p n hc ps) ht a)) u = (0, 1)) ∧ dotP p (prs (barW p (kersB p n hc ps) ht a)) t = (1, 1) := by
  obtain ⟨R, I, _⟩ := id B.inv
  have hp := sorted_perm I hs
  have T := tells g I hs
  refine ⟨?_, ?_, fun a ha => ?_⟩
  · obtain ⟨P', K', R', L⟩ := leads_are g D
    cases e : withinP p (leadsP p us) t with
    | false => rfl
    | true => exact (barred_span A hm (span_of_cp L.ch.st L.sub ((within_iff g L.ch D.rowT).mp e))).elim
  · obtain ⟨f, h1, h2, h3⟩ := bar_some g gk D A hm B
    have h2 : ¬ (n - 1 - f) ∈ ps := fun z => h2 (hp.subset z)
    obtain ⟨_, _, d1, d2, _⟩ := ker_sums g gk D hH B hs h1 h2
    have hmem : formQ p (dotQ (kerRow p n (heldP p n (keptB p n hc) ps) f) ht) ∈ totsB p (kersB p n hc ps) ht := by
      unfold totsB kersB kerRows
      exact List.mem_map.mpr ⟨_, List.mem_map.mpr ⟨f, (free_iff T).mpr ⟨h1, h2⟩, rfl⟩, rfl⟩
    refine firstQ_ex hmem fun z => h3 ?_
    have := formQ_rv g d1
    rw [z, rv_zero] at this
    rw [← d2, ← this]
  · obtain ⟨a1, a2⟩ := firstQ_some ha
    have a1 : a < (kersB p n hc ps).length := by
      unfold totsB at a1
      rw [List.length_map] at a1
      exact a1
    have er : (kersB p n hc ps).getD a [] = (kersB p n hc ps)[a] := by rw [List.getD_eq_getElem?_getD, List.getElem?_eq_getElem a1]; rfl
    obtain ⟨f, f1, f2, f3⟩ := kers_mem T (List.getElem_mem a1)
    have et : (totsB p (kersB p n hc ps) ht).getD a 0 = formQ p (dotQ (kersB p n hc ps)[a] ht) := by
      unfold totsB
      rw [List.getD_eq_getElem?_getD, List.getElem?_map, List.getElem?_eq_getElem a1]
      rfl
    rw [et] at a2
    obtain ⟨k1, k2, k3, k4, k5⟩ := ker_sums g gk D hH B hs f1 f2
    rw [f3] at a2 et er
    generalize kerRow p n (heldP p n (keptB p n hc) ps) f = y at *
    have tf : FormOk p (formQ p (dotQ y ht)) := formQ_form gk _
    have tn : (rv (formQ p (dotQ y ht)) : α) ≠ 0 := fun z => a2 (rv_eq_zero g gk tf z)
    have ew : barW p (kersB p n hc ps) ht a = y.map fun x => overQ p x (formQ p (dotQ y ht)) := by
      unfold barW
      rw [er, et]
    rw [ew]
    have wf : ∀ q ∈ y.map fun x => overQ p x (formQ p (dotQ y ht)), FormOk p q := fun q hq => by
      obtain ⟨x, _, rfl⟩ := List.mem_map.mp hq
      exact overQ_form gk _ _
    have wv : ∀ v : List α, dot ((y.map fun x => overQ p x (formQ p (dotQ y ht))).map rv) v = dot (y.map rv) v / rv (formQ p (dotQ y ht)) := fun v => by
      have : (y.map fun x => overQ p x (formQ p (dotQ y ht))).map (rv (α := α)) = (y.map rv).map fun z => z / rv (formQ p (dotQ y ht)) := by
        rw [List.map_map, List.map_map]
        exact List.map_congr_left fun x hx => overQ_rv g (k2 x hx).dn tf.dn tn
      rw [this]
      generalize y.map (rv (α := α)) = l
      generalize (rv (formQ p (dotQ y ht)) : α) = c at *
      induction l generalizing v with
      | nil =>
        show (0 : α) = 0 / c
        grind
      | cons x l ih =>
        cases v with
        | nil =>
          show (0 : α) = 0 / c
          grind
        | cons b v =>
          show x / c * b + dot (l.map fun z => z / c) v = (x * b + dot l v) / c
          rw [ih v]
          grind
    refine ⟨by rw [List.length_map, k1, D.tl], wf, fun u hu => ?_, ?_⟩
    · obtain ⟨ul, uc⟩ := D.cols u hu
      obtain ⟨c1, c2⟩ := dot_told g (b := u) wf uc
      refine can_inj g c1 (zero_can g) ?_
      obtain ⟨j, hj⟩ := List.mem_iff_getElem?.mp hu
      have hjl := (List.getElem?_eq_some_iff.mp hj).1
      have eu : us.getD j [] = u := by rw [List.getD_eq_getElem?_getD, hj]; rfl
      have := k5 j hjl
      unfold cv at this
      rw [eu] at this
      rw [c2, wv, map_val_row ul, this, val_zero]
      grind
    · obtain ⟨c1, c2⟩ := dot_told g (b := t) wf D.tc
      have e1 : Can p (1, 1) := can_pr (form_one gk)
      refine can_inj g c1 e1 ?_
      have v1 : (val ((1, 1) : LP) : α) = 1 := rv_one
      have e2 : dot (y.map rv) ((List.range n).map fun k => val (at0 t k)) = (rv (formQ p (dotQ y ht)) : α) := by
        rw [formQ_rv g k3]
        rw [(dotQ_ok g (fun q hq => (k2 q hq).dn) (hrow_rv g hH D.tc).1).2, ht_map g hH D.tc D.tl]
        rfl
      rw [c2, wv, map_val_row D.tl, e2, v1]
      grind
end
end K06

/-! # The plain law: bits -/
namespace K06
open UfQ UfN UfL
open UfL (dot)
/-- q times E is an integer of at most c -/
def Fra (E : Int) (c : Nat) (q : Rat) : Prop := ∃ N : Int, (N : Rat) = E * q ∧ N.natAbs ≤ c
theorem fra_eq {E N : Int} {q : Rat} (hE : E ≠ 0) (h : (N : Rat) = E * q) : q = fr N E := by
  rw [show fr N E = (N : Rat) / (E : Rat) from Rat.divInt_eq_div _ _, h]
  have : (E : Rat) ≠ 0 := fun z => hE (by exact_mod_cast z)
  grind
theorem Fra.sm {E : Int} {c b : Nat} {q : Rat} (h : Fra E c q) (hE : E ≠ 0) (h1 : c < 2 ^ b) (h2 : E.natAbs < 2 ^ b) : Sm b q := by
  obtain ⟨N, e, hN⟩ := h
  rw [fra_eq hE e]
  exact fr_sm hE (Nat.lt_of_le_of_lt hN h1) h2
theorem Fra.add {E : Int} {c d : Nat} {q t : Rat} (h : Fra E c q) (h2 : Fra E d t) : Fra E (c + d) (q + t) := by
  obtain ⟨N, e, hN⟩ := h
  obtain ⟨M, e2, hM⟩ := h2
  refine ⟨N + M, ?_, Nat.le_trans (Int.natAbs_add_le _ _) (by omega)⟩
  rw [Rat.intCast_add, e, e2]
  grind
theorem Fra.mul {E E' : Int} {c d : Nat} {q t : Rat} (h : Fra E c q) (h2 : Fra E' d t) : Fra (E * E') (c * d) (q * t) := by
  obtain ⟨N, e, hN⟩ := h
  obtain ⟨M, e2, hM⟩ := h2
  refine ⟨N * M, ?_, by rw [Int.natAbs_mul]; exact Nat.mul_le_mul hN hM⟩
  rw [Rat.intCast_mul, Rat.intCast_mul, e, e2]
  grind
theorem Fra.up {E : Int} {c d : Nat} {q : Rat} (h : Fra E c q) (hd : c ≤ d) : Fra E d q := by
  obtain ⟨N, e, hN⟩ := h
  exact ⟨N, e, Nat.le_trans hN hd⟩
theorem Fra.zero {E : Int} {c : Nat} : Fra E c 0 := ⟨0, by
  show (0 : Rat) = _
  grind, Nat.zero_le _⟩
theorem Fra.neg {E : Int} {c : Nat} {q : Rat} (h : Fra E c q) : Fra E c (-q) := by
  obtain ⟨N, e, hN⟩ := h
  refine ⟨-N, ?_, by rw [Int.natAbs_neg]; exact hN⟩
  rw [Rat.intCast_neg, e]
  grind
theorem Fra.one {E : Int} : Fra E E.natAbs 1 := ⟨E, by grind, Nat.le_refl _⟩
theorem bb_pr {b : Nat} {q : Rat} (h : Sm b q) : Bb b 0 (pr q) := ⟨fun _ => ⟨h.1, by show ((q.den : Int)).natAbs < _; rw [Int.natAbs_natCast]; exact h.2, by show (q.den : Int) ≠ 0; have := q.den_nz; omega⟩, fun z => (z rfl).elim⟩
theorem plus_pr (a b : Rat) : plusP 0 (pr a) (pr b) = pr (a + b) := pr_low
theorem times_pr (a b : Rat) : timesP 0 (pr a) (pr b) = pr (a * b) := pr_lowT
theorem zero_pr : ((0, 1) : LP) = pr 0 := rfl
theorem can_bb {b : Nat} {p : Int} (p0 : p ≠ 0) {x : LP} (h : Can p x) : Bb b p x := ⟨fun z => (p0 z).elim, fun _ => by
  unfold Can at h
  rw [if_neg p0] at h
  exact h⟩
theorem low_canP {p : Int} (gk : Gok p) (n d : Int) : Can p (lowP p n d) := by
  unfold Can lowP
  by_cases h : p = 0
  · rw [if_pos h, if_pos h]
    exact ⟨_, rfl⟩
  · rw [if_neg h, if_neg h]
    have : 0 < p := by unfold Gok at gk; omega
    exact ⟨rfl, Int.fmod_nonneg_of_pos _ this, Int.fmod_lt_of_pos _ this⟩
theorem dotok_p {p : Int} (gk : Gok p) (p0 : p ≠ 0) : ∀ (as bs : List LP) (t : LP), Can p t → (∀ x ∈ as, Can p x) → (∀ x ∈ bs, Can p x) → DotOk p t as bs
  | a :: as, b :: bs, t, ht, ha, hb => ⟨can_bb p0 ht, can_bb p0 (ha a List.mem_cons_self), can_bb p0 (hb b List.mem_cons_self), dotok_p gk p0 as bs _ (low_canP gk _ _) (fun x hx => ha x (List.mem_cons_of_mem _ hx)) fun x hx => hb x (List.mem_cons_of_mem _ hx)⟩
  | [], _, _, _, _, _ => trivial
  | _ :: _, [], _, _, _, _ => trivial
theorem dotok_0 {D E : Int} {ca cb : Nat} (hD : D ≠ 0) (hE : E ≠ 0) (h1 : ca < 2 ^ 1980) (h2 : D.natAbs < 2 ^ 1980) (h3 : cb < 2 ^ 1980) (h4 : E.natAbs < 2 ^ 1980) :
    ∀ (as bs : List Rat) (t : Rat) (T : Nat), Fra (D * E) T t → (∀ q ∈ as, Fra D ca q) → (∀ q ∈ bs, Fra E cb q) → T + as.length * (ca * cb) < 2 ^ 4000 → DotOk 0 (pr t) (prs as) (prs bs)
  | a :: as, b :: bs, t, T, ht, ha, hb, hT => by
    have a1 := ha a List.mem_cons_self
    have b1 := hb b List.mem_cons_self
    have hDE : D * E ≠ 0 := Int.mul_ne_zero hD hE
    have hde : (D * E).natAbs < 2 ^ 4000 := by
      rw [Int.natAbs_mul]
      exact Nat.lt_trans (Nat.mul_lt_mul'' h2 h4) (by decide +kernel)
    have el : (a :: as).length = as.length + 1 := rfl
    rw [el, Nat.succ_mul] at hT
    refine ⟨bb_pr (ht.sm hDE (by omega) hde), bb_pr (a1.sm hD h1 h2), bb_pr (b1.sm hE h3 h4), ?_⟩
    rw [times_pr, plus_pr]
    exact dotok_0 hD hE h1 h2 h3 h4 as bs _ (T + ca * cb) (ht.add (a1.mul b1)) (fun q hq => ha q (List.mem_cons_of_mem _ hq)) (fun q hq => hb q (List.mem_cons_of_mem _ hq)) (by omega)
  | [], _, _, _, _, _, _, _ => trivial
  | _ :: _, [], _, _, _, _, _, _ => trivial
theorem sumsm_of {E : Int} {c : Nat} (hE : E ≠ 0) (h2 : E.natAbs < 2 ^ 4000) : ∀ (qs : List Rat) (t : Rat) (T : Nat), Fra E T t → (∀ q ∈ qs, Fra E c q) → T + qs.length * c < 2 ^ 4000 → SumSm t qs
  | [], t, T, ht, _, hT => ht.sm hE (by simpa using hT) h2
  | q :: qs, t, T, ht, hq, hT => by
    have el : (q :: qs).length = qs.length + 1 := rfl
    rw [el, Nat.succ_mul] at hT
    have h1 := hq q List.mem_cons_self
    exact ⟨ht.sm hE (by omega) h2, h1.sm hE (by omega) h2, sumsm_of hE h2 qs _ (T + c) (ht.add h1) (fun x hx => hq x (List.mem_cons_of_mem _ hx)) (by omega)⟩
theorem sumQ_fra {E : Int} {c : Nat} : ∀ (qs : List Rat) (t : Rat) (T : Nat), Fra E T t → (∀ q ∈ qs, Fra E c q) → Fra E (T + qs.length * c) (sumQ t qs)
  | [], t, T, ht, _ => by
    have : T + ([] : List Rat).length * c = T := by simp
    rw [this]
    exact ht
  | q :: qs, t, T, ht, hq => by
    have el : (q :: qs).length = qs.length + 1 := rfl
    rw [el, Nat.succ_mul]
    have := sumQ_fra qs (t + q) (T + c) (ht.add (hq q List.mem_cons_self)) fun x hx => hq x (List.mem_cons_of_mem _ hx)
    rw [show T + (qs.length * c + c) = T + c + qs.length * c by omega]
    exact this
theorem zip_fra {D E : Int} {ca cb : Nat} {as bs : List Rat} (ha : ∀ q ∈ as, Fra D ca q) (hb : ∀ q ∈ bs, Fra E cb q) : ∀ q ∈ List.zipWith (· * ·) as bs, Fra (D * E) (ca * cb) q := fun q hq => by
  obtain ⟨i, hi⟩ := List.mem_iff_getElem?.mp hq
  rw [List.getElem?_zipWith] at hi
  cases e1 : as[i]? with
  | none => rw [e1] at hi; cases hi
  | some a =>
    cases e2 : bs[i]? with
    | none => rw [e1, e2] at hi; cases hi
    | some b =>
      rw [e1, e2] at hi
      cases hi
      exact (ha a (List.mem_of_getElem? e1)).mul (hb b (List.mem_of_getElem? e2))
theorem dotsm_of {D E : Int} {ca cb : Nat} (hD : D ≠ 0) (hE : E ≠ 0) (h1 : ca < 2 ^ 1980) (h2 : D.natAbs < 2 ^ 1980) (h3 : cb < 2 ^ 1980) (h4 : E.natAbs < 2 ^ 1980) {as bs : List Rat} (hl : as.length = bs.length) (few : as.length ≤ 1000)
    (ha : ∀ q ∈ as, Fra D ca q) (hb : ∀ q ∈ bs, Fra E cb q) (hT : as.length * (ca * cb) < 2 ^ 4000) : DotSm as bs ∧ Fra (D * E) (as.length * (ca * cb)) (dotQ as bs) := by
  have up : ∀ {c : Nat}, c < 2 ^ 1980 → c < 2 ^ 4000 := fun h => Nat.lt_trans h (by decide +kernel)
  have hde : (D * E).natAbs < 2 ^ 4000 := by
    rw [Int.natAbs_mul]
    exact Nat.lt_trans (Nat.mul_lt_mul'' h2 h4) (by decide +kernel)
  have hz : (List.zipWith (· * ·) as bs).length = as.length := by rw [List.length_zipWith]; omega
  refine ⟨⟨hl, few, fun q hq => (ha q hq).sm hD (up h1) (up h2), fun q hq => (hb q hq).sm hE (up h3) (up h4), sumsm_of (Int.mul_ne_zero hD hE) hde _ 0 0 .zero (zip_fra ha hb) (by rw [hz]; omega)⟩, ?_⟩
  have := sumQ_fra (List.zipWith (· * ·) as bs) 0 0 (.zero) (zip_fra ha hb)
  rw [hz, Nat.zero_add] at this
  exact this
/-! ### the law's elimination over the fractions -/
theorem lft_scale {P : List Nat} {K : Nat → Nat → Rat} (c : Rat) (r : Nat → Rat) (j : Nat) : lft P K (fun j => c * r j) j = c * lft P K r j := by
  unfold lft
  rw [sm_mull]
  grind
theorem Chain.scale {n : Nat} {ls : List (Nat × List LP)} {R : List (Nat → Rat)} {P : List Nat} {K : Nat → Nat → Rat} {c : Rat} (hc : c ≠ 0) (h : Chain 0 n ls R P K) : Chain 0 n ls (R.map fun r j => c * r j) P K := by
  induction h with
  | nil => exact .nil
  | @snoc ls R P K r x q l h hq hx L hn ih =>
    refine .snoc ih ?_ (fun j => ?_) L hn
    · rw [lft_scale]
      intro z
      rcases Lean.Grind.Field.of_mul_eq_zero z with z | z
      · exact hc z
      · exact hq z
    · rw [lft_scale, lft_scale, hx]
      grind
/-- 7776 times the row is a row of integers, of at most c -/
def Sc7 (c : Nat) (r : Nat → Rat) : Prop := ∀ j, Fra 7776 c (r j)
theorem Chain.den {n : Nat} {ls : List (Nat × List LP)} {R : List (Nat → Rat)} {P : List Nat} {K : Nat → Nat → Rat} (h : Chain 0 n ls R P K) (hR : ∀ r ∈ R, Sc7 (2 ^ 115) r) (hn : n ≤ 12) :
    ∃ D : Int, D ≠ 0 ∧ D.natAbs ≤ 2 ^ 1428 ∧ ∀ q ∈ P, ∀ j, Fra D (2 ^ 1428) (K q j) := by
  have S := (Chain.scale (c := 7776) (by decide) h).st
  obtain ⟨Ms, e, hM⟩ : ∃ Ms : List (Nat → Int), (R.map fun r j => (7776 : Rat) * r j) = Ms.map cst ∧ ∀ M ∈ Ms, ∀ q, (M q).natAbs ≤ 2 ^ 115 := by
    have : ∀ R : List (Nat → Rat), (∀ r ∈ R, Sc7 (2 ^ 115) r) → ∃ Ms : List (Nat → Int), (R.map fun r j => (7776 : Rat) * r j) = Ms.map cst ∧ ∀ M ∈ Ms, ∀ q, (M q).natAbs ≤ 2 ^ 115 := fun R => by
      induction R with
      | nil => exact fun _ => ⟨[], rfl, nofun⟩
      | cons r R ih =>
        intro h
        obtain ⟨Ms, e, h2⟩ := ih fun x hx => h x (List.mem_cons_of_mem _ hx)
        have h1 := h r List.mem_cons_self
        refine ⟨(fun j => Classical.choose (h1 j)) :: Ms, ?_, fun M hM => ?_⟩
        · rw [List.map_cons, List.map_cons, e]
          congr 1
          exact funext fun j => (Classical.choose_spec (h1 j)).1.symm
        · rcases List.mem_cons.mp hM with rfl | hM
          · exact fun q => (Classical.choose_spec (h1 q)).2
          · exact h2 M hM
    exact this R hR
  rw [e] at S
  have hP : P.length ≤ 12 := by
    have := nd_le (m := List.range n) S.nd fun x hx => List.mem_range.mpr (h.lt x hx)
    rw [List.length_range] at this
    omega
  obtain ⟨D, d0, db, hN⟩ := S.bound (B := 2 ^ 115) (m := 14) (W0 := 1) (w := fun _ => 1) (fun _ => Nat.le_refl _) (by rw [pw_one P fun _ _ => rfl]; exact Nat.le_refl _) (by omega) (fun r hr q => by rw [Nat.mul_one]; exact hM r hr q)
  have hb : (14 * 2 ^ 115) ^ Ms.length * 1 ≤ 2 ^ 1428 := by
    have : Ms.length ≤ 12 := by
      have := S.len
      rw [List.length_map] at this
      omega
    rw [Nat.mul_one]
    exact Nat.le_trans (Nat.pow_le_pow_right (by decide) this) (by decide +kernel)
  refine ⟨D, d0, Nat.le_trans db hb, fun q hq j => ?_⟩
  obtain ⟨N, h1, h2⟩ := hN q hq j
  rw [Nat.mul_one] at h2
  exact ⟨N, h1, Nat.le_trans h2 hb⟩
/-- what is left of a row, over one denominator -/
theorem lft_fra {D : Int} {P : List Nat} {K : Nat → Nat → Rat} (hK : ∀ q ∈ P, ∀ j, Fra D (2 ^ 1428) (K q j)) (hd : D.natAbs ≤ 2 ^ 1428) (hP : P.length ≤ 12) {c : Nat} {r : Nat → Rat} (hr : Sc7 c r) (j : Nat) : Fra (D * 7776) (13 * (2 ^ 1428 * c)) (lft P K r j) := by
  have h1 : Fra (D * 7776) (2 ^ 1428 * c) (r j) := by
    have := (Fra.one (E := D)).mul (hr j)
    rw [show (1 : Rat) * r j = r j by grind] at this
    exact this.up (Nat.mul_le_mul_right _ hd)
  have h2 : ∀ L : List Nat, (∀ q ∈ L, q ∈ P) → Fra (D * 7776) (L.length * (2 ^ 1428 * c)) (sm L r fun q => K q j) := fun L => by
    induction L with
    | nil => exact fun _ => .zero
    | cons q L ih =>
      intro hL
      have ih := ih fun x hx => hL x (List.mem_cons_of_mem _ hx)
      rw [sm_cons]
      have := (hK q (hL q List.mem_cons_self) j).mul (hr q)
      rw [show K q j * r q = r q * K q j by grind] at this
      have := this.add ih
      refine this.up ?_
      rw [List.length_cons, Nat.succ_mul]
      omega
  have h3 := h1.add (h2 P fun _ h => h).neg
  unfold lft
  rw [show r j - sm P r (fun q => K q j) = r j + - sm P r (fun q => K q j) by grind]
  refine h3.up ?_
  have := Nat.mul_le_mul_right (2 ^ 1428 * c) hP
  omega
theorem val_rat (x : LP) (h : Can 0 x) : x = pr (val x : Rat) := by
  unfold Can at h
  rw [if_pos rfl] at h
  obtain ⟨q, rfl⟩ := h
  show pr q = pr _
  congr 1
  show q = (q.num : Rat) / ((q.den : Int) : Rat)
  rw [← Rat.divInt_eq_div]
  exact (q_fr q).symm
theorem rv_rat (q : Rat) : (rv q : Rat) = q := by
  show (q.num : Rat) / ((q.den : Int) : Rat) = q
  rw [← Rat.divInt_eq_div]
  exact q_fr q
theorem RowP.bb {n : Nat} {u : List LP} {v : Nat → Rat} (U : RowP 0 n u v) {b : Nat} (h : ∀ j, Sm b (v j)) : ∀ x ∈ u, Bb b 0 x := fun x hx => by
  obtain ⟨j, hj⟩ := List.mem_iff_getElem?.mp hx
  have e : at0 u j = x := by
    unfold at0
    rw [List.getD_eq_getElem?_getD, hj]
    rfl
  rw [val_rat x (U.can x hx), ← e, U.val]
  exact bb_pr (h j)
end K06

/-! # The plain law: the law's elimination is small -/
namespace K06
open UfQ UfN UfL
open UfL (dot)
section
variable {α : Type} [Lean.Grind.Field α]
theorem Chain.take {p : Int} {n : Nat} {ls : List (Nat × List LP)} {R : List (Nat → α)} {P : List Nat} {K : Nat → Nat → α} (h : Chain p n ls R P K) : ∀ i, ∃ R' P' K', Chain p n (ls.take i) R' P' K' ∧ ∀ r ∈ R', r ∈ R := by
  induction h with
  | nil => exact fun i => ⟨[], [], fun _ _ => 0, by rw [List.take_nil]; exact .nil, nofun⟩
  | @snoc ls R P K r x q l h hq hx L hn ih =>
    intro i
    by_cases hi : i ≤ ls.length
    · obtain ⟨R', P', K', C, hs⟩ := ih i
      rw [List.take_append_of_le_length hi]
      exact ⟨R', P', K', C, fun r hr => List.mem_cons_of_mem _ (hs r hr)⟩
    · rw [List.take_of_length_le (by rw [List.length_append, List.length_singleton]; omega)]
      exact ⟨_, _, _, .snoc h hq hx L hn, fun _ h => h⟩
theorem leads_small {p : Int} (g : Gd p α) {n : Nat} {us : List (List LP)} {t : List LP} (D : Data p n us t) (Φ Ψ : (Nat → α) → Prop)
    (H1 : ∀ ls R P K, Chain p n ls R P K → (∀ r ∈ R, Φ r) → ∀ ql ∈ ls, ql.1 < n ∧ ql.2.length = n ∧ ∀ x ∈ ql.2, Bb 1980 p x)
    (H2 : ∀ ls R P K, Chain p n ls R P K → (∀ r ∈ R, Φ r) → ∀ u v, RowP p n u v → Ψ v → ∀ x ∈ lessAll p ls u, Bb 1980 p x)
    (hd : ∀ j, j < us.length → Ψ (cv us j) ∧ (Φ (cv us j) ∨ Sp ((List.range j).map (cv us)) (cv us j : Nat → α))) (ht : Ψ (tv t)) :
    LeadsOk p n us [] ∧ LessOk p n (leadsP p us) t := by
  have less : ∀ ls R P K, Chain p n ls R P K → (∀ r ∈ R, Φ r) → ∀ u v, RowP p n u v → Ψ v → LessOk p n ls u := fun ls R P K C hR u v U hv => by
    refine ⟨U.len, fun i _ => ?_, H1 ls R P K C hR⟩
    obtain ⟨R', P', K', C', hs⟩ := Chain.take C i
    exact ⟨(C'.less g U).len, H2 _ _ _ _ C' (fun r hr => hR r (hs r hr)) u v U hv⟩
  have stage : ∀ m, m ≤ us.length → ∃ (R : List (Nat → α)) (P : List Nat) (K : Nat → Nat → α), Chain p n (leadsP p (us.take m)) R P K ∧ (∀ r ∈ R, Φ r) ∧ ∀ j, j < m → Cp P K (cv us j) := fun m => by
    induction m with
    | zero => exact fun _ => ⟨[], [], fun _ _ => 0, .nil, nofun, fun j h => absurd h (Nat.not_lt_zero j)⟩
    | succ m ih =>
      intro hm
      obtain ⟨R, P, K, C, h1, h2⟩ := ih (by omega)
      have hm' : m < us.length := by omega
      have eu : us.getD m [] = us[m] := by rw [List.getD_eq_getElem?_getD, List.getElem?_eq_getElem hm']; rfl
      have e : leadsP p (us.take (m + 1)) = leadP p (leadsP p (us.take m)) (us.getD m []) := by
        unfold leadsP
        rw [List.take_add_one, List.getElem?_eq_getElem hm', List.foldl_append, eu]
        rfl
      rcases C.lead g (D.rowC (α := α) hm') with ⟨_, e2, hc⟩ | ⟨q, x, l, _, e2, C2, X, hq, hx, _⟩
      · rw [e, e2]
        refine ⟨R, P, K, C, h1, fun j hj => ?_⟩
        by_cases z : j = m
        · rw [z]
          exact hc
        · exact h2 j (by omega)
      · rw [e, e2]
        refine ⟨_, _, _, C2, fun r hr => ?_, fun j hj => ?_⟩
        · rcases List.mem_cons.mp hr with rfl | hr
          · rcases (hd m hm').2 with h | h
            · exact h
            · exact (hq ((h.cp fun v hv => by
                obtain ⟨j, hj, rfl⟩ := List.mem_map.mp hv
                exact h2 j (List.mem_range.mp hj)).lft q)).elim
          · exact h1 r hr
        · by_cases z : j = m
          · rw [z]
            exact C2.st.row _ List.mem_cons_self
          · exact (h2 j (by omega)).nxt (C.st.notMem hq)
  refine ⟨?_, ?_⟩
  · have : ∀ d m, m + d = us.length → LeadsOk p n (us.drop m) (leadsP p (us.take m)) := fun d => by
      induction d with
      | zero =>
        intro m hm
        rw [List.drop_of_length_le (by omega)]
        trivial
      | succ d ih =>
        intro m hm
        have hm' : m < us.length := by omega
        have eu : us.getD m [] = us[m] := by rw [List.getD_eq_getElem?_getD, List.getElem?_eq_getElem hm']; rfl
        obtain ⟨R, P, K, C, h1, h2⟩ := stage m (by omega)
        have U := D.rowC (α := α) hm'
        rw [eu] at U
        rw [List.drop_eq_getElem_cons hm']
        refine ⟨less _ _ _ _ C h1 _ _ U (hd m hm').1, ?_⟩
        have := ih (m + 1) (by omega)
        have e : leadsP p (us.take (m + 1)) = leadP p (leadsP p (us.take m)) us[m] := by
          unfold leadsP
          rw [List.take_add_one, List.getElem?_eq_getElem hm', List.foldl_append]
          rfl
        rw [e] at this
        exact this
    exact this us.length 0 (by omega)
  · obtain ⟨R, P, K, C, h1, _⟩ := stage us.length (Nat.le_refl _)
    rw [List.take_length] at C
    exact less _ _ _ _ C h1 _ _ D.rowT ht
/-- over a prime all is small -/
theorem leads_smallP {p : Int} (g : Gd p α) (p0 : p ≠ 0) {n : Nat} {us : List (List LP)} {t : List LP} (D : Data p n us t) : LeadsOk p n us [] ∧ LessOk p n (leadsP p us) t := by
  refine leads_small (α := α) g D (fun _ => True) (fun _ => True) (fun ls R P K C _ => ?_) (fun ls R P K C _ u v U _ x hx => can_bb p0 ((C.less g U).can x hx)) (fun _ _ => ⟨trivial, .inl trivial⟩) trivial
  induction C with
  | nil => exact nofun
  | @snoc ls R P K r x q l h hq hx L hn ih =>
    intro ql hql
    rcases List.mem_append.mp hql with h1 | h1
    · exact ih (fun _ _ => trivial) ql h1
    · rw [show ql = (q, l) by simpa using h1]
      exact ⟨hn, L.len, fun x hx => can_bb p0 (L.can x hx)⟩
end
theorem b1428 : 13 * (2 ^ 1428 * 2 ^ 540) < 2 ^ 1980 := by decide +kernel
theorem d1428 {D : Int} (h : D.natAbs ≤ 2 ^ 1428) : (D * 7776).natAbs < 2 ^ 1980 := by
  rw [Int.natAbs_mul]
  refine Nat.lt_of_le_of_lt (Nat.mul_le_mul_right _ h) ?_
  decide +kernel
theorem Chain.few {n : Nat} {ls : List (Nat × List LP)} {R : List (Nat → Rat)} {P : List Nat} {K : Nat → Nat → Rat} (h : Chain 0 n ls R P K) (hn : n ≤ 12) : P.length ≤ 12 := by
  have := nd_le (m := List.range n) h.st.nd fun x hx => List.mem_range.mpr (h.lt x hx)
  rw [List.length_range] at this
  omega
theorem leads_small0 {n : Nat} (hn : n ≤ 12) {us : List (List LP)} {t : List LP} (D : Data 0 n us t)
    (hd : ∀ j, j < us.length → Sc7 (2 ^ 540) (cv us j) ∧ (Sc7 (2 ^ 115) (cv us j) ∨ Sp ((List.range j).map (cv us)) (cv us j : Nat → Rat))) (ht : Sc7 (2 ^ 540) (tv t)) :
    LeadsOk 0 n us [] ∧ LessOk 0 n (leadsP 0 us) t := by
  refine leads_small gdRat D (Sc7 (2 ^ 115)) (Sc7 (2 ^ 540)) (fun ls R P K C => ?_) (fun ls R P K C hR u v U hv => ?_) hd ht
  · induction C with
    | nil => exact fun _ => nofun
    | @snoc ls R P K r x q l h hq hx L hn' ih =>
      intro hR ql hql
      rcases List.mem_append.mp hql with h1 | h1
      · exact ih (fun r hr => hR r (List.mem_cons_of_mem _ hr)) ql h1
      · rw [show ql = (q, l) by simpa using h1]
        refine ⟨hn', L.len, RowP.bb L fun j => ?_⟩
        obtain ⟨D0, d0, db, hK⟩ := Chain.den h (fun r hr => hR r (List.mem_cons_of_mem _ hr)) hn
        have hr := hR r List.mem_cons_self
        have few := Chain.few h hn
        have fj := lft_fra hK db few hr j
        obtain ⟨Nq, e1, b1⟩ := lft_fra hK db few hr q
        obtain ⟨Nj, e2, b2⟩ := fj
        have dz : (((D0 * 7776 : Int) : Int) : Rat) ≠ 0 := fun z => by
          have : D0 * 7776 = 0 := by exact_mod_cast z
          omega
        have nq : Nq ≠ 0 := fun z => by
          rw [z] at e1
          have e1 : (0 : Rat) = ((D0 * 7776 : Int) : Rat) * lft P K r q := e1
          rcases Lean.Grind.Field.of_mul_eq_zero e1.symm with y | y
          · exact dz y
          · exact hq y
        have : x j = fr Nj Nq := by
          rw [show fr Nj Nq = (Nj : Rat) / (Nq : Rat) from Rat.divInt_eq_div _ _, e1, e2, hx]
          grind
        rw [this]
        have big : 13 * (2 ^ 1428 * 2 ^ 115) < 2 ^ 1980 := by decide +kernel
        exact fr_sm nq (Nat.lt_of_le_of_lt b2 big) (Nat.lt_of_le_of_lt b1 big)
  · obtain ⟨D0, d0, db, hK⟩ := Chain.den C hR hn
    exact RowP.bb (C.less gdRat U) fun j => (lft_fra hK db (Chain.few C hn) hv j).sm (by omega) b1428 (d1428 db)
end K06

/-! # The plain law: the drawn data -/
namespace K06
open UfQ UfN UfL
open UfL (dot)
theorem getD_app {β : Type} {l m : List β} {j : Nat} {d : β} (h : j < l.length) : (l ++ m).getD j d = l.getD j d := by
  rw [List.getD_eq_getElem?_getD, List.getD_eq_getElem?_getD, List.getElem?_append_left h]
theorem getD_appR {β : Type} {l m : List β} {j : Nat} {d : β} (h : l.length ≤ j) : (l ++ m).getD j d = m.getD (j - l.length) d := by
  rw [List.getD_eq_getElem?_getD, List.getD_eq_getElem?_getD, List.getElem?_append_right h]
section
variable {α : Type} [Lean.Grind.Field α]
theorem comb_sp {p : Int} (g : Gd p α) (gk : Gok p) {size : Nat} {S : List (Nat → α)} {rows : List (List LP)} {shares : List LP} (hr : ∀ r ∈ rows, r.length = size ∧ (∀ x ∈ r, Can p x) ∧ Sp S (tv r)) (hs : ∀ s ∈ shares, Can p s) :
    (∀ x ∈ combP p size rows shares, Can p x) ∧ Sp S (tv (combP p size rows shares)) := by
  unfold combP
  have key : ∀ (l : List (List LP × LP)) (z : List LP), (∀ rs ∈ l, (rs.1.length = size ∧ (∀ x ∈ rs.1, Can p x) ∧ Sp S (tv rs.1)) ∧ Can p rs.2) → z.length = size → (∀ x ∈ z, Can p x) → Sp S (tv z) →
      (∀ x ∈ l.foldl (fun line rs => (List.range size).map fun k => plusP p (at0 line k) (timesP p rs.2 (at0 rs.1 k))) z, Can p x) ∧ Sp S (tv (l.foldl (fun line rs => (List.range size).map fun k => plusP p (at0 line k) (timesP p rs.2 (at0 rs.1 k))) z)) := fun l => by
    induction l with
    | nil => exact fun z _ _ h1 h2 => ⟨h1, h2⟩
    | cons a l ih =>
      intro z hl zl hz hsp
      rw [List.foldl_cons]
      obtain ⟨⟨a1, a2, a3⟩, a4⟩ := hl a List.mem_cons_self
      refine ih _ (fun rs hrs => hl rs (List.mem_cons_of_mem _ hrs)) (by rw [List.length_map, List.length_range]) (fun x hx => ?_) ((Sp.add hsp (.mul (val a.2) a3)).cast fun k => ?_)
      · obtain ⟨k, _, rfl⟩ := List.mem_map.mp hx
        exact plus_can g _ _
      · unfold tv
        by_cases hk : k < size
        · rw [at0_range hk, plus_val g (at0_can g hz k) (times_can g _ _), times_val g a4 (at0_can g a2 k)]
        · rw [at0_far (by omega), at0_far (by omega), at0_far (by rw [List.length_map, List.length_range]; omega), val_zero]
          grind
  refine key _ _ (fun rs hrs => ⟨hr _ (List.of_mem_zip hrs).1, hs _ (List.of_mem_zip hrs).2⟩) (by rw [List.length_map, List.length_range]) (fun x hx => ?_) (Sp.zero.cast fun k => ?_)
  · obtain ⟨k, _, rfl⟩ := List.mem_map.mp hx
    exact zero_can g
  · unfold tv
    by_cases hk : k < size
    · rw [at0_range hk, val_zero]
    · rw [at0_far (by rw [List.length_map, List.length_range]; omega), val_zero]
theorem cv_app {rows : List (List LP)} {r : List LP} {j : Nat} (h : j < rows.length) : (cv (rows ++ [r]) j : Nat → α) = cv rows j := by
  unfold cv
  rw [getD_app h]
theorem cv_last {rows : List (List LP)} {r : List LP} : (cv (rows ++ [r]) rows.length : Nat → α) = tv r := by
  unfold cv tv
  rw [getD_appR (Nat.le_refl _), Nat.sub_self]
  rfl
theorem cv_getD (rows : List (List LP)) (j : Nat) : (cv rows j : Nat → α) = tv (rows.getD j []) := rfl
theorem range_app {rows : List (List LP)} {r : List LP} {j : Nat} (h : j ≤ rows.length) : (List.range j).map (cv (rows ++ [r]) (α := α)) = (List.range j).map (cv rows) :=
  List.map_congr_left fun i hi => cv_app (by have := List.mem_range.mp hi; omega)
/-- each drawn row is fresh, or a sum of earlier ones -/
theorem Drawn.sp {p : Int} (g : Gd p α) (gk : Gok p) {size : Nat} {rows : List (List LP)} (h : Drawn p size rows) : ∀ j, j < rows.length → (∀ x ∈ rows.getD j [], Fresh p x) ∨ Sp ((List.range j).map (cv rows)) (cv rows j : Nat → α) := by
  have app : ∀ {rows : List (List LP)} {r : List LP}, (∀ j, j < rows.length → (∀ x ∈ rows.getD j [], Fresh p x) ∨ Sp ((List.range j).map (cv rows)) (cv rows j : Nat → α)) → ((∀ x ∈ r, Fresh p x) ∨ Sp ((List.range rows.length).map (cv rows)) (tv r : Nat → α)) →
      ∀ j, j < (rows ++ [r]).length → (∀ x ∈ (rows ++ [r]).getD j [], Fresh p x) ∨ Sp ((List.range j).map (cv (rows ++ [r]))) (cv (rows ++ [r]) j : Nat → α) := fun {rows r} ih hr j hj => by
    rw [List.length_append, List.length_singleton] at hj
    by_cases hjl : j < rows.length
    · rw [getD_app hjl, cv_app hjl, range_app (Nat.le_of_lt hjl)]
      exact ih j hjl
    · have e : j = rows.length := by omega
      subst e
      rw [getD_appR (Nat.le_refl _), Nat.sub_self, cv_last, range_app (Nat.le_refl _)]
      exact hr
  induction h with
  | nil => exact fun j hj => absurd hj (Nat.not_lt_zero j)
  | @comb rows shares h hl hs ih =>
    refine app ih (.inr (comb_sp g gk (fun r hr => ?_) fun s h => (hs s h).canon).2)
    have hr' := List.mem_of_mem_take hr
    obtain ⟨h1, h2⟩ := h.lv4 gk r hr'
    obtain ⟨j, hj⟩ := List.mem_iff_getElem?.mp hr'
    have hjl := (List.getElem?_eq_some_iff.mp hj).1
    refine ⟨h1, fun x hx => (h2 x hx).canon, .mem (List.mem_map.mpr ⟨j, List.mem_range.mpr hjl, ?_⟩)⟩
    rw [cv_getD, List.getD_eq_getElem?_getD, hj]
    rfl
  | @copy rows r h hr ih =>
    obtain ⟨j, hj⟩ := List.mem_iff_getElem?.mp hr
    have hjl := (List.getElem?_eq_some_iff.mp hj).1
    refine app ih (.inr (.mem (List.mem_map.mpr ⟨j, List.mem_range.mpr hjl, ?_⟩)))
    rw [cv_getD, List.getD_eq_getElem?_getD, hj]
    rfl
  | @fresh rows r h hl hf ih => exact app ih (.inl hf)
theorem Drawn.take {p : Int} {size : Nat} {rows : List (List LP)} (h : Drawn p size rows) : ∀ k, Drawn p size (rows.take k) := by
  have app : ∀ {rows : List (List LP)} {r : List LP}, (∀ k, Drawn p size (rows.take k)) → Drawn p size (rows ++ [r]) → ∀ k, Drawn p size ((rows ++ [r]).take k) := fun {rows r} ih hr k => by
    by_cases hk : k ≤ rows.length
    · rw [List.take_append_of_le_length hk]
      exact ih k
    · rw [List.take_of_length_le (by rw [List.length_append, List.length_singleton]; omega)]
      exact hr
  induction h with
  | nil => exact fun k => by rw [List.take_nil]; exact .nil
  | comb h hl hs ih => exact app ih (.comb h hl hs)
  | copy h hr ih => exact app ih (.copy h hr)
  | fresh h hl hf ih => exact app ih (.fresh h hl hf)
/-- a target -/
def Targ (p : Int) (n : Nat) (t : List LP) : Prop := t.length = n ∧ ∀ x ∈ t, Lv 5 540 p x
theorem data_of {p : Int} (gk : Gok p) {n : Nat} {us : List (List LP)} {t : List LP} (h : Drawn p n us) (ht : Targ p n t) : Data p n us t := ⟨fun u hu => ⟨(h.lv4 gk u hu).1, fun x hx => ((h.lv4 gk u hu).2 x hx).canon⟩, ht.1, fun x hx => (ht.2 x hx).canon⟩
end
/-! ### over the fractions -/
theorem lv_fra {e b : Nat} (he : e ≤ 5) {x : LP} (h : Lv e b 0 x) : Fra 7776 (2 ^ (b + 3 * (5 - e))) (val x : Rat) := by
  obtain ⟨q, N, rfl, h2, h3⟩ := (h.to (e' := 5) (b' := b + 3 * (5 - e)) he (Nat.le_refl _)).1 rfl
  rw [show (val ((q.num, (q.den : Int)) : LP) : Rat) = q from rv_rat q]
  refine ⟨N, ?_, Nat.le_of_lt h3⟩
  rw [h2]
  rfl
theorem sc_row {e b c : Nat} (he : e ≤ 5) (hc : b + 3 * (5 - e) ≤ c) {u : List LP} (h : ∀ x ∈ u, Lv e b 0 x) : Sc7 (2 ^ c) (tv u : Nat → Rat) := fun j => by
  unfold tv
  exact (lv_fra he (at0_lv (.inl rfl) h j)).up (Nat.pow_le_pow_right (by decide) hc)
theorem drawn_sc {n : Nat} {us : List (List LP)} (h : Drawn 0 n us) : ∀ j, j < us.length → Sc7 (2 ^ 540) (cv us j) ∧ (Sc7 (2 ^ 115) (cv us j) ∨ Sp ((List.range j).map (cv us)) (cv us j : Nat → Rat)) := fun j hj => by
  refine ⟨sc_row (e := 4) (b := 418) (by decide) (by decide) (h.lv4 (.inl rfl) _ (getD_mem hj)).2, ?_⟩
  rcases h.sp gdRat (.inl rfl) j hj with h1 | h1
  · exact .inl (sc_row (e := 1) (b := 103) (by decide) (by decide) h1)
  · exact .inr h1
/-- the coefficients by which earlier columns make a column -/
theorem sp_coefR {α : Type} [Lean.Grind.Field α] {us : List (List LP)} {m : Nat} {v : Nat → α} (h : Sp ((List.range m).map (cv us)) v) : ∃ c : Nat → α, ∀ k, v k = sm (List.range m) (fun j => cv us j k) c := by
  induction h with
  | zero => exact ⟨fun _ => 0, fun k => (sm_zero _ fun _ _ => rfl).symm⟩
  | mem h =>
    obtain ⟨j, hj, rfl⟩ := List.mem_map.mp h
    exact ⟨fun q => if q = j then 1 else 0, fun k => (sm_one (f := fun q => cv us q k) List.nodup_range hj fun _ _ => rfl).symm⟩
  | add _ _ h1 h2 =>
    obtain ⟨c, h1⟩ := h1
    obtain ⟨d, h2⟩ := h2
    refine ⟨fun q => c q + d q, fun k => ?_⟩
    dsimp only
    rw [sm_comm, sm_addl, h1 k, h2 k, sm_comm _ c, sm_comm _ d]
  | mul a _ h =>
    obtain ⟨c, h⟩ := h
    refine ⟨fun q => a * c q, fun k => ?_⟩
    dsimp only
    rw [sm_comm, sm_mull, h k, sm_comm _ c]
/-- 7776 times a row of numbers -/
def Mf (r : List Rat) (j : Nat) : Int := (7776 * r.getD j 0).num
theorem mf_sc {c : Nat} {r : List Rat} (h : ∀ j, Fra 7776 c (r.getD j 0)) : Sc r (Mf r) ∧ ∀ j, (Mf r j).natAbs ≤ c := by
  have e : ∀ j, ∃ N : Int, (N : Rat) = 7776 * r.getD j 0 ∧ N.natAbs ≤ c := fun j => by
    obtain ⟨N, h1, h2⟩ := h j
    exact ⟨N, h1, h2⟩
  refine ⟨fun j => ?_, fun j => ?_⟩
  · obtain ⟨N, h1, h2⟩ := e j
    unfold Mf
    rw [← h1, ofInt_num]
  · obtain ⟨N, h1, h2⟩ := e j
    unfold Mf
    rw [← h1, ofInt_num]
    exact h2
theorem cst_mf {r : List Rat} (h : Sc r (Mf r)) : cst (Mf r) = fun j => 7776 * r.getD j 0 := funext h
/-! ### the rows that the program gets -/
section
variable {α : Type} [Lean.Grind.Field α]
theorem hcols_at {p : Int} {us : List (List LP)} {hc : Mat} (h : HCols p us hc) {j : Nat} (hj : j < us.length) : HRow p (us.getD j []) (hc.getD j []) ∧ hc.getD j [] ∈ hc := by
  obtain ⟨qs, h1, h2⟩ := h.2 j _ (List.getElem?_eq_getElem hj)
  rw [List.getD_eq_getElem?_getD, List.getD_eq_getElem?_getD, h1, List.getElem?_eq_getElem hj]
  exact ⟨h2, List.mem_of_getElem? h1⟩
theorem aug_at {p : Int} (g : Gd p α) {n : Nat} {us : List (List LP)} {t : List LP} (D : Data p n us t) {hc : Mat} {ht : List Rat} (hC : HCols p us hc) (hH : HRow p t ht) (k j : Nat) : (rv ((hc.map (fun c => c.getD k 0) ++ [ht.getD k 0]).getD j 0) : α) = rowA us t k j := by
  unfold rowA
  have hl : (hc.map fun c => c.getD k 0).length = us.length := by rw [List.length_map, hC.1]
  by_cases h1 : j < us.length
  · rw [if_pos h1, getD_app (by omega), List.getD_eq_getElem?_getD, List.getElem?_map]
    obtain ⟨qs, h3, h4⟩ := hC.2 j _ (List.getElem?_eq_getElem h1)
    rw [h3]
    have := (hrow_rv g h4 (D.cols _ (List.getElem_mem h1)).2).2 k
    show rv (qs.getD k 0) = cv us j k
    rw [this]
    unfold cv
    rw [List.getD_eq_getElem?_getD, List.getElem?_eq_getElem h1]
    rfl
  · rw [if_neg h1, getD_appR (by omega), hl]
    by_cases h2 : j = us.length
    · rw [if_pos h2, h2, Nat.sub_self]
      exact (hrow_rv g hH D.tc).2 k
    · rw [if_neg h2, List.getD_eq_getElem?_getD, List.getElem?_eq_none (by rw [List.length_singleton]; omega)]
      exact rv_zero
theorem aug_dn {p : Int} (g : Gd p α) {n : Nat} {us : List (List LP)} {t : List LP} (D : Data p n us t) {hc : Mat} {ht : List Rat} (hC : HCols p us hc) (hH : HRow p t ht) : ∀ r ∈ augRows hc ht, r.length = us.length + 1 ∧ ∀ q ∈ r, Dn p q := fun r hr => by
  unfold augRows at hr
  obtain ⟨k, hk, rfl⟩ := List.mem_map.mp hr
  refine ⟨by rw [List.length_append, List.length_map, hC.1]; rfl, fun q hq => ?_⟩
  have dz : ∀ {qs : List Rat}, (∀ q ∈ qs, Dn p q) → Dn p (qs.getD k 0) := fun {qs} h => by
    rw [List.getD_eq_getElem?_getD]
    cases e : qs[k]? with
    | none => exact dn_zero
    | some q => exact h q (List.mem_of_getElem? e)
  rcases List.mem_append.mp hq with hq | hq
  · obtain ⟨c, hc', rfl⟩ := List.mem_map.mp hq
    obtain ⟨j, hj⟩ := List.mem_iff_getElem?.mp hc'
    have hjl := (List.getElem?_eq_some_iff.mp hj).1
    rw [hC.1] at hjl
    obtain ⟨qs, h3, h4⟩ := hC.2 j _ (List.getElem?_eq_getElem hjl)
    rw [hj] at h3
    cases h3
    exact dz (hrow_rv g h4 (D.cols _ (List.getElem_mem hjl)).2).1
  · rw [show q = ht.getD k 0 by simpa using hq]
    exact dz (hrow_rv g hH D.tc).1
theorem rev_getD {qs : List Rat} {n : Nat} (h : qs.length = n) (i : Nat) : (qs.reverse.getD i 0) = if i < n then qs.getD (n - 1 - i) 0 else 0 := by
  rw [List.getD_eq_getElem?_getD]
  by_cases hi : i < n
  · rw [if_pos hi, List.getElem?_reverse (by omega), List.getD_eq_getElem?_getD, h]
  · rw [if_neg hi, List.getElem?_eq_none (by rw [List.length_reverse]; omega)]
    rfl
theorem rev_at' {p : Int} (g : Gd p α) {n : Nat} {us : List (List LP)} {t : List LP} (D : Data p n us t) {hc : Mat} (hC : HCols p us hc) {j : Nat} (hj : j < us.length) (i : Nat) : (rv ((hc.getD j []).reverse.getD i 0) : α) = rev n (cv us j) i := by
  obtain ⟨h1, _⟩ := hcols_at hC hj
  obtain ⟨c1, c2⟩ := D.cols _ (getD_mem hj)
  rw [rev_getD (h1.1.trans c1)]
  unfold rev
  by_cases hi : i < n
  · rw [if_pos hi, if_pos hi, (hrow_rv g h1 c2).2]
    rfl
  · rw [if_neg hi, if_neg hi]
    exact rv_zero
end
end K06

/-! # The plain law: solved or barred -/
namespace K06
open UfQ UfN UfL
open UfL (dot)
section
variable {α : Type} [Lean.Grind.Field α]
theorem ker_len {p : Int} {n : Nat} {kept : List (Nat × List Int)} {ps : List Nat} {f : Nat} : (kerRow p n (heldP p n kept ps) f).length = n := by
  rw [ker_eq, fold_len, List.length_map, List.length_range]
theorem kers_few {p : Int} {n : Nat} {hc : Mat} {ps : List Nat} : (kersB p n hc ps).length ≤ n := by
  unfold kersB kerRows freeP
  rw [List.length_map]
  have := List.length_filter_le (fun f => !((heldP p n (keptB p n hc) ps).map (·.1)).contains f) (List.range n)
  rw [List.length_range] at this
  exact this
/-- all that is asked of solved -/
theorem assemble {p : Int} (g : Gd p α) (gk : Gok p) {n : Nat} {us : List (List LP)} {t : List LP} (D : Data p n us t) (hu : us.length ≤ 12) {hc : Mat} {ht : List Rat} (hC : HCols p us hc) (hH : HRow p t ht)
    (hA : PreOk p (us.length + 1) (augRows hc ht) ∧ ∃ (P : List Nat) (K : Nat → Nat → α), RunA p n us t (keptA p hc ht) P K)
    (hB : 0 < n → PreOk p n (hc.map List.reverse) ∧ ∃ (P : List Nat) (K : Nat → Nat → α), RunB p n us (keptB p n hc) P K)
    (b1 : ∀ ps, Sorted (keptA p hc ht) ps → ¬ us.length ∈ ps → ∀ k, k < n → DotOk p (0, 1) (prs (solN p us.length (keptA p hc ht) ps)) (us.map fun u => at0 u k))
    (b2 : 0 < n → ∀ ps, Sorted (keptB p n hc) ps → ∀ f, f < n → ¬ (n - 1 - f) ∈ ps → DotSm (kerRow p n (heldP p n (keptB p n hc) ps) f) ht ∧ Sm 4000 (dotQ (kerRow p n (heldP p n (keptB p n hc) ps) f) ht) ∧ ∀ q ∈ kerRow p n (heldP p n (keptB p n hc) ps) f, Sm 3900 q)
    (b3 : 0 < n → ∀ ps a, Sorted (keptB p n hc) ps → firstQ (totsB p (kersB p n hc ps) ht) = some a → ∀ u, u ∈ us ∨ u = t → DotOk p (0, 1) (prs (barW p (kersB p n hc ps) ht a)) u) :
    SolOk p hc ht ∧ ∀ ps, Sorted (keptA p hc ht) ps →
    (¬ us.length ∈ ps → withinP p (leadsP p us) t = true ∧ (solN p us.length (keptA p hc ht) ps).length = us.length ∧ (∀ q ∈ solN p us.length (keptA p hc ht) ps, FormOk p q) ∧ ∀ k, k < t.length → DotOk p (0, 1) (prs (solN p us.length (keptA p hc ht) ps)) (us.map fun u => at0 u k) ∧ dotP p (prs (solN p us.length (keptA p hc ht) ps)) (us.map fun u => at0 u k) = at0 t k) ∧
    (us.length ∈ ps → withinP p (leadsP p us) t = false ∧ ∀ ps2 a, Sorted (keptB p t.length hc) ps2 → firstQ (totsB p (kersB p t.length hc ps2) ht) = some a → (barW p (kersB p t.length hc ps2) ht a).length = t.length ∧ (∀ q ∈ barW p (kersB p t.length hc ps2) ht a, FormOk p q) ∧
      (∀ u ∈ us, DotOk p (0, 1) (prs (barW p (kersB p t.length hc ps2) ht a)) u ∧ dotP p (prs (barW p (kersB p t.length hc ps2) ht a)) u = (0, 1)) ∧ DotOk p (0, 1) (prs (barW p (kersB p t.length hc ps2) ht a)) t ∧ dotP p (prs (barW p (kersB p t.length hc ps2) ht a)) t = (1, 1)) := by
  obtain ⟨preA, P, K, A⟩ := hA
  obtain ⟨R, I, _⟩ := id A.inv
  have n0 : us.length ∈ P → 0 < n := fun h => by
    refine Nat.pos_of_ne_zero fun z => ?_
    have e : augRows hc ht = [] := by
      unfold augRows
      rw [hH.1, D.tl, z]
      rfl
    have e2 : keptA p hc ht = [] := by
      unfold keptA
      rw [e]
      rfl
    have := I.pl
    rw [e2] at this
    have : P = [] := List.reverse_eq_nil_iff.mp this.symm
    rw [this] at h
    cases h
  have tl := D.tl
  have htl : ht.length = n := by rw [hH.1, tl]
  refine ⟨⟨by rw [hC.1]; exact preA, lead_of g I, fun ps hS hm => ?_⟩, fun ps hS => ⟨fun hm => ?_, fun hm => ?_⟩⟩
  · rw [hC.1] at hm
    have hmP := (sorted_perm I hS).subset hm
    obtain ⟨preB, P2, K2, B⟩ := hB (n0 hmP)
    obtain ⟨R2, I2, _⟩ := id B.inv
    refine ⟨by rw [hC.1]; omega, by rw [htl]; exact preB, by rw [htl]; exact lead_of g I2, fun ps2 hS2 => ?_⟩
    rw [htl] at hS2 ⊢
    refine ⟨fun r hr => ?_, (core_bar g gk D A hmP hH B hS2).2.1⟩
    obtain ⟨f, f1, f2, rfl⟩ := kers_mem (tells g I2 hS2) hr
    obtain ⟨s1, s2, s3⟩ := b2 (n0 hmP) ps2 hS2 f f1 f2
    obtain ⟨_, k2, k3, _⟩ := ker_sums g gk D hH B hS2 f1 f2
    exact ⟨s1, k3, s2, fun q hq => ⟨(k2 q hq).dn, s3 q hq⟩⟩
  · obtain ⟨c1, c2, c3, c4⟩ := core_sol g gk D A hS hm
    exact ⟨c1, c2, c3, fun k hk => ⟨b1 ps hS hm k (by rw [← tl]; exact hk), c4 k hk⟩⟩
  · have hmP := (sorted_perm I hS).subset hm
    obtain ⟨_, P2, K2, B⟩ := hB (n0 hmP)
    refine ⟨?_, fun ps2 a hS2 ha => ?_⟩
    · obtain ⟨P', K', R', L⟩ := leads_are g D
      cases e : withinP p (leadsP p us) t with
      | false => rfl
      | true => exact (barred_span A hmP (span_of_cp L.ch.st L.sub ((within_iff g L.ch D.rowT).mp e))).elim
    · rw [tl] at hS2 ha ⊢
      obtain ⟨_, _, h3⟩ := core_bar g gk D A hmP hH B hS2
      obtain ⟨w1, w2, w3, w4⟩ := h3 a ha
      rw [tl] at w1
      exact ⟨w1, w2, fun u hu => ⟨b3 (n0 hmP) ps2 a hS2 ha u (.inl hu), w3 u hu⟩, b3 (n0 hmP) ps2 a hS2 ha t (.inr rfl), w4⟩
/-! ### over a prime -/
theorem right_P {p : Int} (g : Gd p α) (gk : Gok p) (p0 : p ≠ 0) {n : Nat} (hn : n ≤ 12) {us : List (List LP)} (hu : us.length ≤ 12) {t : List LP} (D : Data p n us t) : RightOk p us (leadsP p us) t := fun hc ht hC hH => by
  have pb : 0 < p ∧ p < 1000 := by unfold Gok at gk; omega
  have hA : PreOk p (us.length + 1) (augRows hc ht) ∧ ∃ (P : List Nat) (K : Nat → Nat → α), RunA p n us t (keptA p hc ht) P K := by
    obtain ⟨pre, R, P, K, I, h1, h2⟩ := runP g gk p0 (n := us.length + 1) (by omega) (by omega) (aug_dn g D hC hH)
    have htl : ht.length = n := by rw [hH.1, D.tl]
    have ek : keptA p hc ht = runRows p (us.length + 1) ((augRows hc ht).map (prep p)) [] := by
      unfold keptA
      rw [hC.1]
    refine ⟨pre, P, K, ⟨⟨R, by rw [ek]; exact I, 1, fun z => Lean.Grind.Field.zero_ne_one z.symm, fun r hr => ?_⟩, fun k hk => ?_⟩⟩
    · obtain ⟨row, hrow, rfl⟩ := List.mem_map.mp (h1 r hr)
      unfold augRows at hrow
      obtain ⟨k, hk, rfl⟩ := List.mem_map.mp hrow
      refine ⟨k, by rw [← htl]; exact List.mem_range.mp hk, fun j => ?_⟩
      unfold vrow
      rw [aug_at g D hC hH]
      grind
    · have hm : (hc.map (fun c => c.getD k 0) ++ [ht.getD k 0]) ∈ augRows hc ht := by
        unfold augRows
        exact List.mem_map.mpr ⟨k, List.mem_range.mpr (by omega), rfl⟩
      have := h2 _ hm
      rw [show vrow (hc.map (fun c => c.getD k 0) ++ [ht.getD k 0]) = rowA us t k from funext fun j => aug_at g D hC hH k j] at this
      exact this
  have hB : 0 < n → PreOk p n (hc.map List.reverse) ∧ ∃ (P : List Nat) (K : Nat → Nat → α), RunB p n us (keptB p n hc) P K := fun n0 => by
    have hr : ∀ r ∈ hc.map List.reverse, r.length = n ∧ ∀ q ∈ r, Dn p q := fun r hr => by
      obtain ⟨c, hcm, rfl⟩ := List.mem_map.mp hr
      obtain ⟨j, hj⟩ := List.mem_iff_getElem?.mp hcm
      have hjl := (List.getElem?_eq_some_iff.mp hj).1
      rw [hC.1] at hjl
      obtain ⟨h1, _⟩ := hcols_at hC hjl
      have ec : hc.getD j [] = c := by rw [List.getD_eq_getElem?_getD, hj]; rfl
      rw [ec] at h1
      obtain ⟨c1, c2⟩ := D.cols _ (getD_mem hjl)
      exact ⟨by rw [List.length_reverse, h1.1, c1], fun q hq => (hrow_rv g h1 c2).1 q (List.mem_reverse.mp hq)⟩
    obtain ⟨pre, R, P, K, I, h1, h2⟩ := runP g gk p0 n0 (by omega) hr
    have vr : ∀ j, j < us.length → vrow (hc.getD j []).reverse = rev n (cv us j (α := α)) := fun j hj => funext fun i => rev_at' g D hC hj i
    refine ⟨pre, P, K, ⟨⟨R, I, 1, fun z => Lean.Grind.Field.zero_ne_one z.symm, fun r hr => ?_⟩, fun j hj => ?_⟩⟩
    · obtain ⟨row, hrow, rfl⟩ := List.mem_map.mp (h1 r hr)
      obtain ⟨c, hcm, rfl⟩ := List.mem_map.mp hrow
      obtain ⟨j, hj⟩ := List.mem_iff_getElem?.mp hcm
      have hjl := (List.getElem?_eq_some_iff.mp hj).1
      rw [hC.1] at hjl
      have ec : hc.getD j [] = c := by rw [List.getD_eq_getElem?_getD, hj]; rfl
      refine ⟨j, hjl, fun i => ?_⟩
      rw [← ec, vr j hjl]
      grind
    · have := h2 _ (List.mem_map.mpr ⟨_, (hcols_at hC hj).2, rfl⟩)
      rw [vr j hj] at this
      exact this
  refine assemble g gk D hu hC hH hA hB (fun ps hS hm k hk => ?_) (fun n0 ps hS f hf hfn => ?_) (fun n0 ps a hS ha u huu => ?_)
  · obtain ⟨_, P, K, A⟩ := hA
    obtain ⟨R, I, _⟩ := A.inv
    refine dotok_p gk p0 _ _ _ (zero_can g) (fun x hx => ?_) fun x hx => ?_
    · obtain ⟨q, hq, rfl⟩ := List.mem_map.mp hx
      exact can_pr ((sol_ok gk (tells g I hS) hm).2.1 q hq)
    · obtain ⟨u, hu, rfl⟩ := List.mem_map.mp hx
      exact at0_can g (D.cols u hu).2 k
  · obtain ⟨_, P, K, B⟩ := hB n0
    obtain ⟨_, k2, _⟩ := ker_sums g gk D hH B hS hf hfn
    have htl : ht.length = n := by rw [hH.1, D.tl]
    have kl : (kerRow p n (heldP p n (keptB p n hc) ps) f).length = n := ker_len
    have fa : ∀ q ∈ kerRow p n (heldP p n (keptB p n hc) ps) f, Fra 1 1000 q := fun q hq => by
      obtain ⟨d1, d2, d3⟩ := k2 q hq p0
      refine ⟨q.num, ?_, by omega⟩
      rw [← q_int d1]
      show q = (1 : Rat) * q
      grind
    have fb : ∀ q ∈ ht, Fra 1 3000 q := fun q hq => by
      obtain ⟨i, hi⟩ := List.mem_iff_getElem?.mp hq
      have hil := (List.getElem?_eq_some_iff.mp hi).1
      obtain ⟨q', h1, _, h2⟩ := hH.2 i _ (List.getElem?_eq_getElem (by rw [← hH.1]; exact hil))
      rw [hi] at h1
      cases h1
      obtain ⟨d1, _, d3⟩ := h2 p0
      refine ⟨q.num, ?_, by omega⟩
      rw [← q_int d1]
      show q = (1 : Rat) * q
      grind
    obtain ⟨m1, m2⟩ := dotsm_of (D := 1) (E := 1) (ca := 1000) (cb := 3000) (by decide) (by decide) (by decide +kernel) (by decide +kernel) (by decide +kernel) (by decide +kernel) (by rw [kl, htl]) (by omega) fa fb (Nat.lt_of_le_of_lt (Nat.mul_le_mul_right _ (show _ ≤ 12 by omega)) (by decide +kernel))
    refine ⟨m1, m2.sm (by decide) (Nat.lt_of_le_of_lt (Nat.mul_le_mul_right _ (show _ ≤ 12 by omega)) (by decide +kernel)) (by decide +kernel), fun q hq => (fa q hq).sm (by decide) (by decide +kernel) (by decide +kernel)⟩
  · refine dotok_p gk p0 _ _ _ (zero_can g) (fun x hx => ?_) fun x hx => ?_
    · obtain ⟨q, hq, rfl⟩ := List.mem_map.mp hx
      unfold barW at hq
      obtain ⟨z, _, rfl⟩ := List.mem_map.mp hq
      exact can_pr (overQ_form gk _ _)
    · rcases huu with hu | rfl
      · exact (D.cols u hu).2 x hx
      · exact D.tc x hx
end
end K06

/-! # The plain law over the fractions -/
namespace K06
open UfQ UfN UfL
open UfL (dot)
theorem mf_at {c : Nat} {r : List Rat} {j : Nat} (h : Fra 7776 c (r.getD j 0)) : (Mf r j : Rat) = 7776 * r.getD j 0 ∧ (Mf r j).natAbs ≤ c := by
  obtain ⟨N, h1, h2⟩ := h
  have h1 : (N : Rat) = 7776 * r.getD j 0 := h1
  unfold Mf
  rw [← h1, ofInt_num]
  exact ⟨rfl, h2⟩
open Classical in
noncomputable def wA (us : List (List LP)) (j : Nat) : Nat := if j < us.length ∧ Sc7 (2 ^ 115) (cv us j) then 1 else 2 ^ 425
theorem wA_one {us : List (List LP)} {j : Nat} (h : j < us.length) (h2 : Sc7 (2 ^ 115) (cv us j)) : wA us j = 1 := by
  unfold wA
  exact if_pos ⟨h, h2⟩
theorem wA_two {us : List (List LP)} {j : Nat} (h : ¬ (j < us.length ∧ Sc7 (2 ^ 115) (cv us j))) : wA us j = 2 ^ 425 := by
  unfold wA
  exact if_neg h
theorem wA1 (us : List (List LP)) (j : Nat) : 1 ≤ wA us j := by
  unfold wA
  split
  · exact Nat.le_refl _
  · exact Nat.one_le_two_pow
theorem wAW (us : List (List LP)) (j : Nat) : wA us j ≤ 2 ^ 425 := by
  unfold wA
  split
  · exact Nat.one_le_two_pow
  · exact Nat.le_refl _
theorem bigA : ∀ k, k + 1 ≤ 14 → 14 * (2 ^ 115 * 2 ^ 425 * ((14 * 2 ^ 115) ^ k * 2 ^ 425 * 2 ^ 425)) < 2 ^ 3900 := fun k hk => by
  have h : (14 * 2 ^ 115) ^ k ≤ (14 * 2 ^ 115) ^ 13 := Nat.pow_le_pow_right (by decide) (by omega)
  have h2 : 14 * (2 ^ 115 * 2 ^ 425 * ((14 * 2 ^ 115) ^ k * 2 ^ 425 * 2 ^ 425)) ≤ 14 * (2 ^ 115 * 2 ^ 425 * ((14 * 2 ^ 115) ^ 13 * 2 ^ 425 * 2 ^ 425)) := Nat.mul_le_mul_left _ (Nat.mul_le_mul_left _ (Nat.mul_le_mul_right _ (Nat.mul_le_mul_right _ h)))
  exact Nat.lt_of_le_of_lt h2 (by decide +kernel)
theorem bigB : ∀ k, k + 1 ≤ 14 → 14 * (2 ^ 540 * 1 * ((14 * 2 ^ 115) ^ k * 1 * 1)) < 2 ^ 3900 := fun k hk => by
  have h : (14 * 2 ^ 115) ^ k ≤ (14 * 2 ^ 115) ^ 13 := Nat.pow_le_pow_right (by decide) (by omega)
  have h2 : 14 * (2 ^ 540 * 1 * ((14 * 2 ^ 115) ^ k * 1 * 1)) ≤ 14 * (2 ^ 540 * 1 * ((14 * 2 ^ 115) ^ 13 * 1 * 1)) := Nat.mul_le_mul_left _ (Nat.mul_le_mul_left _ (Nat.mul_le_mul_right _ (Nat.mul_le_mul_right _ h)))
  exact Nat.lt_of_le_of_lt h2 (by decide +kernel)
theorem p1428 {k : Nat} (h : k ≤ 12) : (14 * 2 ^ 115) ^ k ≤ 2 ^ 1428 := Nat.le_trans (Nat.pow_le_pow_right (by decide) h) (by decide +kernel)
theorem Cp.scale {P : List Nat} {K : Nat → Nat → Rat} {r : Nat → Rat} (c : Rat) (h : Cp P K r) : Cp P K (fun j => c * r j) := fun j => by
  rw [sm_mull, ← h j]
theorem Cp.cast {P : List Nat} {K : Nat → Nat → Rat} {r r' : Nat → Rat} (h : Cp P K r) (e : ∀ j, r j = r' j) : Cp P K r' := by
  rw [← funext e]
  exact h
theorem solF {D : Int} {C many : Nat} {kept : List (Nat × List Int)} {ps : List Nat} {K : Nat → Nat → Rat} (T : Tells 0 (many + 1) kept ps K) (hK : ∀ q ∈ ps, Fra D C (K q many)) : ∀ q ∈ solN 0 many kept ps, Fra D C q := by
  unfold solN
  refine fold_mem (fun q => q) _ ps _ (fun y hy => ?_) fun q hq => ?_
  · rw [List.eq_of_mem_replicate hy]
    exact .zero
  · have := (T.row q hq many (by omega)).2.1
    rw [rv_rat] at this
    rw [this]
    exact hK q hq
theorem kerF {D : Int} {C n : Nat} {kept : List (Nat × List Int)} {ps : List Nat} {K : Nat → Nat → Rat} (T : Tells 0 n kept ps K) {f : Nat} (hf : f < n) (hD : D.natAbs ≤ C) (hK : ∀ q ∈ ps, ∀ j, Fra D C (K q j)) : ∀ q ∈ kerRow 0 n (heldP 0 n kept ps) f, Fra D C q := by
  rw [ker_eq]
  refine fold_mem _ _ ps _ (fun y hy => ?_) fun q hq => ?_
  · obtain ⟨j, _, rfl⟩ := List.mem_map.mp hy
    split
    · exact Fra.one.up hD
    · exact .zero
  · have := (T.row q hq (n - 1 - f) (by omega)).2.1
    rw [rv_rat] at this
    unfold formQ
    rw [if_pos rfl, this]
    exact (hK q hq _).neg
theorem htF {t : List LP} {ht : List Rat} (hH : HRow 0 t ht) (hb : Sc7 (2 ^ 540) (tv t : Nat → Rat)) (hc : ∀ x ∈ t, Can 0 x) : ∀ q ∈ ht, Fra 7776 (2 ^ 540) q := fun q hq => by
  obtain ⟨i, hi⟩ := List.mem_iff_getElem?.mp hq
  have := (hrow_rv gdRat hH hc).2 i
  rw [rv_rat, List.getD_eq_getElem?_getD, hi] at this
  have this : q = val (at0 t i) := this
  rw [this]
  exact hb i
theorem prs_row {u : List LP} (hc : ∀ x ∈ u, Can 0 x) : u = prs (u.map (val (α := Rat))) := by
  show u = (u.map (val (α := Rat))).map pr
  rw [List.map_map]
  refine ((List.map_congr_left fun x hx => ?_).trans (List.map_id u)).symm
  exact (val_rat x (hc x hx)).symm
theorem row_fra {u : List LP} (hb : Sc7 (2 ^ 540) (tv u : Nat → Rat)) : ∀ q ∈ u.map (val (α := Rat)), Fra 7776 (2 ^ 540) q := fun q hq => by
  obtain ⟨x, hx, rfl⟩ := List.mem_map.mp hq
  obtain ⟨j, hj⟩ := List.mem_iff_getElem?.mp hx
  have := hb j
  unfold tv at0 at this
  rw [List.getD_eq_getElem?_getD, hj] at this
  exact this
theorem right_0 {n : Nat} (hn : n ≤ 12) {us : List (List LP)} (hu : us.length ≤ 12) (hdr : Drawn 0 n us) {t : List LP} (hT : Targ 0 n t) : RightOk 0 us (leadsP 0 us) t := fun hc ht hC hH => by
  have gk : Gok 0 := .inl rfl
  have D := data_of gk hdr hT
  have sc := drawn_sc hdr
  have sct : Sc7 (2 ^ 540) (tv t : Nat → Rat) := sc_row (e := 5) (by decide) (by decide) hT.2
  have htl : ht.length = n := by rw [hH.1, D.tl]
  have zz : (7776 : Rat) ≠ 0 := by decide
  have rowE : ∀ k j, (hc.map (fun c => c.getD k 0) ++ [ht.getD k 0]).getD j 0 = rowA us t k j := fun k j => by
    have := aug_at gdRat D hC hH k j
    rw [rv_rat] at this
    exact this
  have rowF : ∀ k j, Fra 7776 (2 ^ 115 * wA us j) (rowA us t k j) := fun k j => by
    unfold rowA
    by_cases h1 : j < us.length
    · rw [if_pos h1]
      rcases Classical.em (Sc7 (2 ^ 115) (cv us j)) with h2 | h2
      · rw [wA_one h1 h2, Nat.mul_one]
        exact h2 k
      · rw [wA_two fun z => h2 z.2]
        exact ((sc j h1).1 k).up (by decide +kernel)
    · rw [if_neg h1]
      by_cases h2 : j = us.length
      · rw [if_pos h2, wA_two fun z => h1 z.1]
        exact (sct k).up (by decide +kernel)
      · rw [if_neg h2]
        exact .zero
  have rowM : ∀ k, (Sc (hc.map (fun c => c.getD k 0) ++ [ht.getD k 0]) (Mf (hc.map (fun c => c.getD k 0) ++ [ht.getD k 0]))) ∧ ∀ j, (Mf (hc.map (fun c => c.getD k 0) ++ [ht.getD k 0]) j).natAbs ≤ 2 ^ 115 * wA us j := fun k => ⟨fun j => (mf_at (by rw [rowE]; exact rowF k j)).1, fun j => (mf_at (by rw [rowE]; exact rowF k j)).2⟩
  have rowC : ∀ k, cst (Mf (hc.map (fun c => c.getD k 0) ++ [ht.getD k 0])) = fun j => 7776 * rowA us t k j := fun k => by
    rw [cst_mf (rowM k).1]
    exact funext fun j => by rw [rowE]
  have leadF : ∀ (R : List (Nat → Int)) (P : List Nat) (K : Nat → Nat → Rat), (∀ M ∈ R, (∃ k, M = Mf (hc.map (fun c => c.getD k 0) ++ [ht.getD k 0])) ∧ ∀ q, (M q).natAbs ≤ 2 ^ 115 * wA us q) → St (R.map cst) P K → Ech P K → (∀ q ∈ P, q < us.length + 1) → ∀ q ∈ P, q ≠ us.length → wA us q = 1 := fun R P K hR S E lt q hq ne => by
    have hql : q < us.length := by have := lt q hq; omega
    rcases (sc q hql).2 with h | h
    · exact wA_one hql h
    · obtain ⟨c, hc'⟩ := sp_coefR h
      refine (S.fresh E (j := q) c (fun r hr => ?_) hq).elim
      obtain ⟨M, hM, rfl⟩ := List.mem_map.mp hr
      obtain ⟨⟨k, rfl⟩, _⟩ := hR M hM
      rw [rowC]
      show 7776 * rowA us t k q = sm (List.range q) (fun j => 7776 * rowA us t k j) c
      rw [sm_mull]
      unfold rowA
      rw [if_pos hql, hc' k]
      congr 1
      exact sm_congr _ (fun i hi => by rw [if_pos (by have := List.mem_range.mp hi; omega)]) fun _ _ => rfl
  -- the rows of the places
  obtain ⟨preA, R, P, K, I, hΦ, hsub, hcp⟩ := run0 (n := us.length + 1) (m := 14) (B := 2 ^ 115) (C' := 2 ^ 115) (W := 2 ^ 425) (W0 := 2 ^ 425) (w := wA us) (by omega) (by omega) (rows := augRows hc ht) Mf
    (fun r hr => by
      unfold augRows at hr
      obtain ⟨k, hk, rfl⟩ := List.mem_map.mp hr
      exact ⟨by rw [List.length_append, List.length_map, hC.1]; rfl, rowM k⟩) (wA1 us) (wAW us) (by decide)
    (fun M => (∃ k, M = Mf (hc.map (fun c => c.getD k 0) ++ [ht.getD k 0])) ∧ ∀ q, (M q).natAbs ≤ 2 ^ 115 * wA us q) (fun M h => h.2)
    (fun a r b e => by
      have hr : r ∈ augRows hc ht := by rw [e]; simp
      unfold augRows at hr
      obtain ⟨k, hk, rfl⟩ := List.mem_map.mp hr
      exact .inl ⟨⟨k, rfl⟩, (rowM k).2⟩)
    (fun R P K hR S E lt => by
      refine ⟨?_, ?_⟩
      · have := pw_two (wA1 us) us.length S.nd (leadF R P K hR S E lt)
        rw [wA_two fun z => absurd z.1 (Nat.lt_irrefl _)] at this
        exact this
      · have := nd_le (m := List.range (us.length + 1)) S.nd fun x hx => List.mem_range.mpr (lt x hx)
        rw [List.length_range] at this
        omega) bigA
  have ek : keptA 0 hc ht = runRows 0 (us.length + 1) ((augRows hc ht).map (prep 0)) [] := by
    unfold keptA
    rw [hC.1]
  rw [← ek] at I
  have A : RunA 0 n us t (keptA 0 hc ht) P K := by
    refine ⟨⟨_, I, 7776, zz, fun r hr => ?_⟩, fun k hk => ?_⟩
    · obtain ⟨M, hM, rfl⟩ := List.mem_map.mp hr
      obtain ⟨row, hrow, rfl⟩ := hsub M hM
      unfold augRows at hrow
      obtain ⟨k, hk, rfl⟩ := List.mem_map.mp hrow
      refine ⟨k, by rw [← htl]; exact List.mem_range.mp hk, fun j => ?_⟩
      rw [rowC]
    · have hm : (hc.map (fun c => c.getD k 0) ++ [ht.getD k 0]) ∈ augRows hc ht := by
        unfold augRows
        exact List.mem_map.mpr ⟨k, List.mem_range.mpr (by omega), rfl⟩
      have := hcp _ hm
      rw [rowC] at this
      exact Cp.cast (Cp.scale (1 / 7776) this) fun j => by grind
  -- the columns
  have colE : ∀ j, j < us.length → ∀ i, (hc.getD j []).reverse.getD i 0 = rev n (cv us j) i := fun j hj i => by
    have := rev_at' gdRat D hC hj i
    rw [rv_rat] at this
    exact this
  have revF : ∀ {c : Nat} {v : Nat → Rat}, Sc7 c v → Sc7 c (rev n v) := fun {c v} h i => by
    unfold rev
    split
    · exact h _
    · exact .zero
  have colM : ∀ j, j < us.length → ∀ c, Sc7 c (cv us j) → Sc (hc.getD j []).reverse (Mf (hc.getD j []).reverse) ∧ ∀ i, (Mf (hc.getD j []).reverse i).natAbs ≤ c := fun j hj c h => ⟨fun i => (mf_at (by rw [colE j hj]; exact revF h i)).1, fun i => (mf_at (by rw [colE j hj]; exact revF h i)).2⟩
  have colC : ∀ j, j < us.length → cst (Mf (hc.getD j []).reverse) = fun i => 7776 * rev n (cv us j) i := fun j hj => by
    rw [cst_mf (colM j hj _ (sc j hj).1).1]
    exact funext fun i => by rw [colE j hj]
  have colI : ∀ r ∈ hc.map List.reverse, ∃ j, j < us.length ∧ r = (hc.getD j []).reverse := fun r hr => by
    obtain ⟨c, hcm, rfl⟩ := List.mem_map.mp hr
    obtain ⟨j, hj⟩ := List.mem_iff_getElem?.mp hcm
    have hjl := (List.getElem?_eq_some_iff.mp hj).1
    rw [hC.1] at hjl
    exact ⟨j, hjl, by rw [List.getD_eq_getElem?_getD, hj]; rfl⟩
  have colL : ∀ j, j < us.length → (hc.getD j []).length = n := fun j hj => by
    rw [(hcols_at hC hj).1.1]
    exact (D.cols _ (getD_mem hj)).1
  have runB : 0 < n → PreOk 0 n (hc.map List.reverse) ∧ ∃ (R : List (Nat → Int)) (P : List Nat) (K : Nat → Nat → Rat), KInv 0 n (keptB 0 n hc) (R.map cst) P K ∧ (∀ M ∈ R, ∀ q, (M q).natAbs ≤ 2 ^ 115 * 1) ∧ RunB 0 n us (keptB 0 n hc) P K := fun n0 => by
    obtain ⟨preB, R, P, K, I, hΦ, hsub, hcp⟩ := run0 (n := n) (m := 14) (B := 2 ^ 115) (C' := 2 ^ 540) (W := 1) (W0 := 1) (w := fun _ => 1) n0 (by omega) (rows := hc.map List.reverse) Mf
      (fun r hr => by
        obtain ⟨j, hj, rfl⟩ := colI r hr
        obtain ⟨m1, m2⟩ := colM j hj _ (sc j hj).1
        exact ⟨by rw [List.length_reverse, colL j hj], m1, fun i => by rw [Nat.mul_one]; exact m2 i⟩) (fun _ => Nat.le_refl _) (fun _ => Nat.le_refl _) (by decide)
      (fun M => ∀ q, (M q).natAbs ≤ 2 ^ 115 * 1) (fun M h => h)
      (fun a r b e => by
        have hl : a.length < us.length := by
          have := congrArg List.length e
          rw [List.length_map, hC.1, List.length_append, List.length_cons] at this
          omega
        have era : ∀ i, i < a.length → a[i]? = some (hc.getD i []).reverse := fun i hi => by
          have h1 : (hc.map List.reverse)[i]? = a[i]? := by rw [e, List.getElem?_append_left hi]
          rw [← h1, List.getElem?_map, List.getD_eq_getElem?_getD]
          obtain ⟨qs, h2, _⟩ := hC.2 i _ (List.getElem?_eq_getElem (show i < us.length by omega))
          rw [h2]
          rfl
        have er : r = (hc.getD a.length []).reverse := by
          have h1 : (hc.map List.reverse)[a.length]? = some r := by rw [e, List.getElem?_append_right (Nat.le_refl _), Nat.sub_self]; rfl
          rw [List.getElem?_map] at h1
          obtain ⟨qs, h2, _⟩ := hC.2 _ _ (List.getElem?_eq_getElem hl)
          rw [h2] at h1
          rw [List.getD_eq_getElem?_getD, h2]
          exact (Option.some.inj h1).symm
        rcases (sc a.length hl).2 with h | h
        · refine .inl fun q => ?_
          rw [er, Nat.mul_one]
          exact (colM _ hl _ h).2 q
        · refine .inr ?_
          rw [er, colC _ hl]
          have lin : ∀ v : Nat → Rat, Sp ((List.range a.length).map (cv us)) v → Sp (a.map fun r => cst (Mf r)) (fun i => 7776 * rev n v i) := fun v hv => by
            induction hv with
            | zero =>
              refine Sp.zero.cast fun i => ?_
              unfold rev
              split <;> grind
            | mem h =>
              obtain ⟨i, hi, rfl⟩ := List.mem_map.mp h
              have hi := List.mem_range.mp hi
              refine .mem (List.mem_map.mpr ⟨_, List.mem_of_getElem? (era i hi), ?_⟩)
              exact colC i (by omega)
            | add _ _ h1 h2 =>
              refine (Sp.add h1 h2).cast fun i => ?_
              unfold rev
              by_cases hi : i < n
              · rw [if_pos hi, if_pos hi, if_pos hi]
                grind
              · rw [if_neg hi, if_neg hi, if_neg hi]
                grind
            | mul b _ h =>
              refine (Sp.mul b h).cast fun i => ?_
              unfold rev
              by_cases hi : i < n
              · rw [if_pos hi, if_pos hi]
                grind
              · rw [if_neg hi, if_neg hi]
                grind
          exact lin _ h)
      (fun R P K hR S E lt => by
        refine ⟨by rw [pw_one P fun _ _ => rfl]; exact Nat.le_refl _, ?_⟩
        have := nd_le (m := List.range n) S.nd fun x hx => List.mem_range.mpr (lt x hx)
        rw [List.length_range] at this
        omega) bigB
    refine ⟨preB, R, P, K, I, hΦ, ⟨⟨_, I, 7776, zz, fun r hr => ?_⟩, fun j hj => ?_⟩⟩
    · obtain ⟨M, hM, rfl⟩ := List.mem_map.mp hr
      obtain ⟨row, hrow, rfl⟩ := hsub M hM
      obtain ⟨j, hj, rfl⟩ := colI row hrow
      exact ⟨j, hj, fun i => by rw [colC j hj]⟩
    · have := hcp _ (List.mem_map.mpr ⟨_, (hcols_at hC hj).2, rfl⟩)
      rw [colC j hj] at this
      exact Cp.cast (Cp.scale (1 / 7776) this) fun i => by grind
  have denB : 0 < n → ∀ ps, Sorted (keptB 0 n hc) ps → ∃ (D0 : Int) (K : Nat → Nat → Rat), D0 ≠ 0 ∧ D0.natAbs ≤ 2 ^ 1428 ∧ Tells 0 n (keptB 0 n hc) ps K ∧ ∀ q ∈ ps, ∀ j, Fra D0 (2 ^ 1428) (K q j) := fun n0 ps hS => by
    obtain ⟨_, R2, P2, K2, I2, hb, _⟩ := runB n0
    have hp := sorted_perm I2 hS
    have hl : P2.length ≤ 12 := by
      have := nd_le (m := List.range n) I2.st.nd fun x hx => List.mem_range.mpr (I2.lt x hx)
      rw [List.length_range] at this
      omega
    obtain ⟨D0, d0, db, hN⟩ := I2.st.bound (B := 2 ^ 115) (m := 14) (W0 := 1) (w := fun _ => 1) (fun _ => Nat.le_refl _) (by rw [pw_one P2 fun _ _ => rfl]; exact Nat.le_refl _) (by omega) hb
    have hR : R2.length ≤ 12 := by
      have := I2.st.len
      rw [List.length_map] at this
      omega
    rw [Nat.mul_one] at db
    refine ⟨D0, K2, d0, Nat.le_trans db (p1428 hR), tells gdRat I2 hS, fun q hq j => ?_⟩
    obtain ⟨N, h1, h2⟩ := hN q (hp.subset hq) j
    rw [Nat.mul_one, Nat.mul_one] at h2
    exact ⟨N, h1, Nat.le_trans h2 (p1428 hR)⟩
  have b14 : (2 : Nat) ^ 1428 < 2 ^ 1980 := by decide +kernel
  have hB : 0 < n → PreOk 0 n (hc.map List.reverse) ∧ ∃ (P : List Nat) (K : Nat → Nat → Rat), RunB 0 n us (keptB 0 n hc) P K := fun n0 => by
    obtain ⟨h1, _, P2, K2, _, _, h2⟩ := runB n0
    exact ⟨h1, P2, K2, h2⟩
  refine assemble gdRat gk D hu hC hH ⟨preA, P, K, A⟩ hB (fun ps hS hm k hk => ?_) (fun n0 ps hS f hf hfn => ?_) (fun n0 ps a hS ha u huu => ?_)
  · have hp := sorted_perm I hS
    have hmP : ¬ us.length ∈ P := fun z => hm (hp.symm.subset z)
    have one : ∀ q ∈ P, wA us q = 1 := fun q hq => leadF R P K hΦ I.st I.ech I.lt q hq fun z => hmP (by rw [← z]; exact hq)
    have hl : P.length ≤ 12 := by
      have := nd_le (m := List.range us.length) I.st.nd fun x hx => List.mem_range.mpr (by
        have := I.lt x hx
        have : x ≠ us.length := fun z => hmP (by rw [← z]; exact hx)
        omega)
      rw [List.length_range] at this
      omega
    obtain ⟨D0, d0, db, hN⟩ := I.st.bound (B := 2 ^ 115) (m := 14) (W0 := 1) (w := wA us) (wA1 us) (by rw [pw_one P one]; exact Nat.le_refl _) (by omega) fun r hr => (hΦ r hr).2
    have hR : R.length ≤ 12 := by
      have := I.st.len
      rw [List.length_map] at this
      omega
    rw [Nat.mul_one] at db
    have T := tells gdRat I hS
    have sf := solF (D := D0) (C := 2 ^ 1428 * 2 ^ 425) T fun q hq => by
      obtain ⟨N, h1, h2⟩ := hN q (hp.subset hq) us.length
      rw [Nat.mul_one] at h2
      exact ⟨N, h1, Nat.le_trans h2 (Nat.mul_le_mul (p1428 hR) (wAW us _))⟩
    have hcan : ∀ x ∈ us.map fun u => at0 u k, Can 0 x := fun x hx => by
      obtain ⟨u, hu, rfl⟩ := List.mem_map.mp hx
      exact at0_can gdRat (D.cols u hu).2 k
    rw [prs_row hcan, zero_pr]
    obtain ⟨sl, _, _⟩ := sol_ok gk T hm
    refine dotok_0 (D := D0) (E := 7776) (ca := 2 ^ 1428 * 2 ^ 425) (cb := 2 ^ 540) d0 (by decide) (by decide +kernel) (Nat.lt_of_le_of_lt (Nat.le_trans db (p1428 hR)) b14) (by decide +kernel) (by decide +kernel) _ _ 0 0 .zero sf (fun q hq => ?_) ?_
    · rw [map_val] at hq
      obtain ⟨j, hj, rfl⟩ := List.mem_map.mp hq
      exact (sc j (List.mem_range.mp hj)).1 k
    · rw [sl, Nat.zero_add]
      exact Nat.lt_of_le_of_lt (Nat.mul_le_mul_right _ hu) (by decide +kernel)
  · obtain ⟨D0, K2, d0, db, T, hK⟩ := denB n0 ps hS
    have kl : (kerRow 0 n (heldP 0 n (keptB 0 n hc) ps) f).length = n := ker_len
    have fa := kerF T hf db hK
    have dlt := Nat.lt_of_le_of_lt db b14
    obtain ⟨m1, m2⟩ := dotsm_of (D := D0) (E := 7776) (ca := 2 ^ 1428) (cb := 2 ^ 540) d0 (by decide) b14 dlt (by decide +kernel) (by decide +kernel) (by rw [kl, htl]) (by omega) fa (htF hH sct D.tc) (Nat.lt_of_le_of_lt (Nat.mul_le_mul_right _ (show _ ≤ 12 by omega)) (by decide +kernel))
    exact ⟨m1, m2.sm (Int.mul_ne_zero d0 (by decide)) (Nat.lt_of_le_of_lt (Nat.mul_le_mul_right _ (show _ ≤ 12 by omega)) (by decide +kernel)) (Nat.lt_trans (d1428 db) (by decide +kernel)), fun q hq => (fa q hq).sm d0 (by decide +kernel) (Nat.lt_of_le_of_lt db (by decide +kernel))⟩
  · obtain ⟨D0, K2, d0, db, T, hK⟩ := denB n0 ps hS
    obtain ⟨a1, a2⟩ := firstQ_some ha
    have a1 : a < (kersB 0 n hc ps).length := by
      unfold totsB at a1
      rw [List.length_map] at a1
      exact a1
    have er : (kersB 0 n hc ps).getD a [] = (kersB 0 n hc ps)[a] := by rw [List.getD_eq_getElem?_getD, List.getElem?_eq_getElem a1]; rfl
    obtain ⟨f, f1, f2, f3⟩ := kers_mem T (List.getElem_mem a1)
    have et : (totsB 0 (kersB 0 n hc ps) ht).getD a 0 = dotQ (kersB 0 n hc ps)[a] ht := by
      unfold totsB
      rw [List.getD_eq_getElem?_getD, List.getElem?_map, List.getElem?_eq_getElem a1]
      show formQ 0 (dotQ (kersB 0 n hc ps)[a] ht) = _
      exact if_pos rfl
    rw [et] at a2
    rw [f3] at a2 et er
    have kl : (kerRow 0 n (heldP 0 n (keptB 0 n hc) ps) f).length = n := ker_len
    have fa := kerF T f1 db hK
    generalize kerRow 0 n (heldP 0 n (keptB 0 n hc) ps) f = y at *
    have dlt := Nat.lt_of_le_of_lt db b14
    obtain ⟨_, N, e1, e2⟩ := dotsm_of (D := D0) (E := 7776) (ca := 2 ^ 1428) (cb := 2 ^ 540) d0 (by decide) b14 dlt (by decide +kernel) (by decide +kernel) (by rw [kl, htl]) (by omega) fa (htF hH sct D.tc) (Nat.lt_of_le_of_lt (Nat.mul_le_mul_right _ (show _ ≤ 12 by omega)) (by decide +kernel))
    have Nb : N.natAbs ≤ 12 * (2 ^ 1428 * 2 ^ 540) := Nat.le_trans e2 (Nat.mul_le_mul_right _ (by omega))
    have dz : ((D0 * 7776 : Int) : Rat) ≠ 0 := fun z => by
      have : D0 * 7776 = 0 := by exact_mod_cast z
      omega
    have N0 : N ≠ 0 := fun z => by
      rw [z] at e1
      have e1 : (0 : Rat) = ((D0 * 7776 : Int) : Rat) * dotQ y ht := e1
      rcases Lean.Grind.Field.of_mul_eq_zero e1.symm with h | h
      · exact dz h
      · exact a2 h
    have wf : ∀ q ∈ barW 0 (kersB 0 n hc ps) ht a, Fra N (2 ^ 1428 * 7776) q := fun q hq => by
      unfold barW at hq
      rw [er, et] at hq
      obtain ⟨x, hx, rfl⟩ := List.mem_map.mp hq
      obtain ⟨Y, y1, y2⟩ := fa x hx
      refine ⟨Y * 7776, ?_, by rw [Int.natAbs_mul]; exact Nat.mul_le_mul_right _ y2⟩
      unfold overQ
      rw [if_pos rfl, Rat.intCast_mul, y1, e1, Rat.intCast_mul]
      grind
    have bl : (barW 0 (kersB 0 n hc ps) ht a).length ≤ 12 := by
      unfold barW
      rw [List.length_map, er, kl]
      exact hn
    have hcan : ∀ x ∈ u, Can 0 x := fun x hx => by
      rcases huu with hu | rfl
      · exact (D.cols u hu).2 x hx
      · exact D.tc x hx
    have hsc : Sc7 (2 ^ 540) (tv u : Nat → Rat) := by
      rcases huu with hu | rfl
      · obtain ⟨j, hj⟩ := List.mem_iff_getElem?.mp hu
        have hjl := (List.getElem?_eq_some_iff.mp hj).1
        have := (sc j hjl).1
        rw [cv_getD, List.getD_eq_getElem?_getD, hj] at this
        exact this
      · exact sct
    rw [prs_row hcan, zero_pr]
    refine dotok_0 (D := N) (E := 7776) (ca := 2 ^ 1428 * 7776) (cb := 2 ^ 540) N0 (by decide) (by decide +kernel) (Nat.lt_of_le_of_lt Nb (by decide +kernel)) (by decide +kernel) (by decide +kernel) _ _ 0 0 .zero wf (row_fra hsc) ?_
    rw [Nat.zero_add]
    exact Nat.lt_of_le_of_lt (Nat.mul_le_mul_right _ bl) (by decide +kernel)
/-- solved is right, at all that is drawn -/
theorem right_ok {p : Int} (hp : p = 0 ∨ p ∈ ([2, 3, 5, 7, 11, 13, 17, 19, 23, 29, 31] : List Int)) {n : Nat} (hn : n ≤ 12) {us : List (List LP)} (hu : us.length ≤ 12) (hdr : Drawn p n us) {t : List LP} (hT : Targ p n t) :
    LeadsOk p n us [] ∧ LessOk p n (leadsP p us) t ∧ RightOk p us (leadsP p us) t := by
  have gk : Gok p := by
    rcases hp with rfl | h
    · exact .inl rfl
    · simp only [List.mem_cons, List.mem_nil_iff, or_false] at h
      unfold Gok
      omega
  have D := data_of gk hdr hT
  by_cases p0 : p = 0
  · subst p0
    obtain ⟨h1, h2⟩ := leads_small0 hn D (drawn_sc hdr) (sc_row (e := 5) (by decide) (by decide) hT.2)
    exact ⟨h1, h2, right_0 hn hu hdr hT⟩
  · obtain ⟨α, fα, g⟩ := field_of hp
    obtain ⟨h1, h2⟩ := leads_smallP g p0 D
    exact ⟨h1, h2, right_P g gk p0 hn hu D⟩
end K06

namespace K06
open PySem PySem.Spec PyProof.Rows L2 UfG UfT UfR UfO UfI UfQ UfN UfW UfD
open UfL (LP lowP plusP timesP gcdL primL clr invP ledO firstNz clrAll stepRow runRows Good OkU OkK Sml Oki lessP lessAll firstP leadP leadsP withinP dotFrom dotP at0 Can)
open UfZ (Kd)
open Evl (Ex)
/-- a known list of lists of ones -/
def CL (G : Hp) (xs : List V) (L : List Nat) : Prop := xs.length = L.length ∧ ∀ (i : Nat) (x : V), xs[i]? = some x → ∃ l t, L[i]? = some l ∧ x = .ref t ∧ G t = some (.lst (List.replicate l (V.int 1)))
theorem CL.ex {G G' : Hp} {xs : List V} {L : List Nat} (e : Ex G G') (h : CL G xs L) : CL G' xs L := ⟨h.1, fun i x hx => by
  obtain ⟨l, t, h1, h2, h3⟩ := h.2 i x hx
  exact ⟨l, t, h1, h2, e _ _ h3⟩⟩
theorem CL.app {G : Hp} {xs ys : List V} {L M : List Nat} (h : CL G xs L) (h2 : CL G ys M) : CL G (xs ++ ys) (L ++ M) := ⟨by rw [List.length_append, List.length_append, h.1, h2.1], fun i x hx => by
  by_cases hi : i < xs.length
  · rw [List.getElem?_append_left hi] at hx
    rw [List.getElem?_append_left (by rw [← h.1]; exact hi)]
    exact h.2 i x hx
  · rw [List.getElem?_append_right (by omega)] at hx
    rw [List.getElem?_append_right (by rw [← h.1]; omega), ← h.1]
    exact h2.2 _ x hx⟩
theorem CL.take {G : Hp} {xs : List V} {L : List Nat} (h : CL G xs L) (k : Nat) : CL G (xs.take k) (L.take k) := ⟨by rw [List.length_take, List.length_take, h.1], fun i x hx => by
  rw [List.getElem?_take] at hx ⊢
  split at hx
  · rename_i hi
    rw [if_pos hi]
    exact h.2 i x hx
  · cases hx⟩
theorem CL.drop {G : Hp} {xs : List V} {L : List Nat} (h : CL G xs L) (k : Nat) : CL G (xs.drop k) (L.drop k) := ⟨by rw [List.length_drop, List.length_drop, h.1], fun i x hx => by
  rw [List.getElem?_drop] at hx ⊢
  exact h.2 _ x hx⟩
theorem cutV_drop (xs : List V) (k : Nat) (h : k ≤ xs.length) : cutV xs (some (k : Int)) none = xs.drop k := by
  unfold cutV
  rw [HT.sIx_none, HT.sIx_nat, Nat.min_eq_left h, List.take_of_length_le (by rw [List.length_drop]; exact Nat.le_refl _)]
theorem ones_of {ys : List V} {n : Nat} (hl : ys.length = n) (h : ∀ (j : Nat) (y : V), ys[j]? = some y → y = .int 1) : ys = List.replicate n (V.int 1) := by
  refine List.ext_getElem? fun j => ?_
  by_cases hj : j < n
  · rw [List.getElem?_replicate_of_lt hj, List.getElem?_eq_getElem (by omega), h j _ (List.getElem?_eq_getElem (by omega))]
  · rw [List.getElem?_eq_none (by omega), List.getElem?_eq_none (by rw [List.length_replicate]; omega)]
theorem ones_ns {F : Addr} {G : Hp} {t : Addr} {l : Nat} (h : G t = some (.lst (List.replicate l (V.int 1)))) : NS .li F G (.ref t) (List.replicate l (1 : Rat)) := by
  refine ⟨t, _, rfl, h, by rw [List.length_replicate, List.length_replicate], fun i x hx => ⟨1, ?_, ?_⟩⟩
  · have := (List.getElem?_eq_some_iff.mp hx).1
    rw [List.length_replicate] at this
    exact List.getElem?_replicate_of_lt this
  · rw [List.eq_of_mem_replicate (List.mem_of_getElem? hx)]
    exact Nm.ofInt 1
/-- the first wrong length -/
theorem first_wrong {L : List Nat} {n : Nat} {A : List (List Rat)} {c : List Rat} {B : List (List Rat)} (h : L.map (fun l => List.replicate l (1 : Rat)) = A ++ c :: B) (hA : ∀ x ∈ A, x.length = n) (hc : c.length ≠ n) : (L.filter fun l => l != n).head? = some c.length := by
  obtain ⟨L1, L2, rfl, rfl, h2⟩ := List.map_eq_append_iff.mp h
  obtain ⟨l, L3, rfl, rfl, rfl⟩ := List.map_eq_cons_iff.mp h2
  rw [List.length_replicate] at hc ⊢
  have : L1.filter (fun l => l != n) = [] := List.filter_eq_nil_iff.mpr fun x hx => by
    have := hA _ (List.mem_map.mpr ⟨x, hx, rfl⟩)
    rw [List.length_replicate] at this
    simp [this]
  rw [List.filter_append, this, List.nil_append, List.filter_cons_of_pos (by simpa using hc)]
  rfl
theorem shaped_sii (x : Str) (i j : Int) (h : PyData.strOk x = true) : SeqAt.shaped (.tuple [.str x, .int i, .int j]) = true := shaped_tup (by
  simp only [PyData.canLayAll0, PyData.canLay0, h]
  rfl) (by
  simp only [PyData.depthAll, PyData.depth]
  decide)
theorem eqv_sii (x : Str) (i j : Int) : PyData.eqv (.tuple [.str x, .int i, .int j]) (.tuple [.str x, .int i, .int j]) = true := by
  simp [PyData.eqv, PyData.eqvAll]
section
variable {P : Program} {w : World} {K : PySem.W.Frag} {mg : Str → Option Value} {base : Heap}
theorem sc_bent : FnScope ["pool", "p", "size", "many", "columns", "turn", "place", "length", "wrong", "j", "k", "column"] ["pool", "p", "size", "many"] (defScope s_bent) := ⟨rfl, rfl, rfl, by decide +kernel, rfl, by decide +kernel, by decide +kernel⟩
def sp_bent : Sp := fun vs H Q E => ∃ (p : Int) (size many : Nat), PoolSp 10 (fun ws G => ws = [.int p, .int size, .int many] ∧ fitP p = true ∧ size ≤ 12 ∧ many ≤ 12) (fun _ _ _ v => v = .bl true) vs H Q E
theorem ok_bent (T : Tx K mg) : FnOk P w K mg base CX0 18 T.bent.f T.bent.fd ["pool", "p", "size", "many"] sp_bent := by
  refine T.bent.F.ok sc_bent (fun vs H Q E h => ?_) (fun cdv A outer s H vs Q E hr h => ?_)
  · obtain ⟨p, size, many, G, a, c, n, ws, rfl, _, _, ⟨rfl, _⟩, _⟩ := h
    rfl
  · obtain ⟨p, size, many, G, a, c, n, ws, rfl, lw, hn, ⟨rfl, fit, few, few2⟩, k⟩ := h
    refine ⟨_, (pss_cons (ps_setLc (i := 4) (own := [("j", 9)]) rfl sc_bent.nd rfl rfl (sw_true rfl rfl rfl (by decide +kernel)) (pi_range1 rfl T.z_range (pa_cons (pv 3) pa_nil)) (blkOk_by (own := [("j", 9)]) (N := ["pool", "p", "size", "many", "columns", "turn", "place", "length", "wrong", "j", "k", "column"]) (sc := defScope s_bent) (by decide +kernel)) (fun _ _ _ _ _ => by exact pg_name (i := 9) sc_bent.nd rfl (.inl rfl)) (fun _ _ _ _ _ => pts_nil) (fun _ _ _ _ _ => (pe_lc (own := [("k", 10)]) rfl sc_bent.nd (pi_range1 rfl T.z_range (pa_cons (pv 2) pa_nil)) (UfI.blkOk_in (own := [("k", 10)]) (N := ["pool", "p", "size", "many", "columns", "turn", "place", "length", "wrong", "j", "k", "column"]) (by decide +kernel)) (fun _ _ _ _ _ => by exact pg_name (i := 10) sc_bent.nd rfl (.inl rfl)) (fun _ _ _ _ _ => pts_nil) (fun _ _ _ _ _ => pe_int))))
      (pss_cons (ps_for PassesOwn.never rfl (pi_range1 rfl T.z_range (pa_cons (pe_op op_add pe_int (pe_call (ok_draw T) (hr.mono (by decide)) (by rfl) T.draw.g T.draw.F.kp T.draw.b .nil pass0 (pa_cons (pv 0) (pa_cons pe_int pa_nil)))) pa_nil)) (pg_name (i := 5) sc_bent.nd rfl (.inl rfl)) (pss_cons (ps_set (i := 6) sc_bent.nd rfl (.inl rfl) (pe_call (ok_draw T) (hr.mono (by decide)) (by rfl) T.draw.g T.draw.F.kp T.draw.b .nil pass0 (pa_cons (pv 0) (pa_cons (pe_op op_add (pe_callB (UfK.call_lenK (K := K)) (by rfl) T.z_len (by decide +kernel) (pa_cons (pv 4) pa_nil)) pe_int) pa_nil))))
      (pss_cons (ps_set (i := 7) sc_bent.nd rfl (.inl rfl) (pe_ix (UfK.ix_tupK (K := K)) (pe_tup (pa_cons (pe_op op_add (pv 2) pe_int) (pa_cons (pe_callB (call_max2 rfl) (by rfl) T.z_max (by decide +kernel) (pa_cons pe_int (pa_cons (pe_op op_sub (pv 2) pe_int) pa_nil))) (pa_cons pe_int (pa_cons (pe_op op_add (pv 2) pe_int) (pa_cons pe_int pa_nil)))))) (pe_call (ok_draw T) (hr.mono (by decide)) (by rfl) T.draw.g T.draw.F.kp T.draw.b .nil pass0 (pa_cons (pv 0) (pa_cons pe_int pa_nil))) (fun _ _ => rfl)))
      (pss_one (ps_set (i := 4) sc_bent.nd rfl (.inl rfl) (pe_op op_cat (pe_op op_cat (pe_slice (UfK.sl_listK (K := K)) (pv 4) po_none (po_some (pv 6))) (pe_lst (pa_cons (pe_lc (own := [("k", 10)]) rfl sc_bent.nd (pi_range1 rfl T.z_range (pa_cons (pv 7) pa_nil)) (blkOk_by (own := [("k", 10)]) (N := ["pool", "p", "size", "many", "columns", "turn", "place", "length", "wrong", "j", "k", "column"]) (sc := defScope s_bent) (by decide +kernel)) (fun _ _ _ _ _ => by exact pg_name (i := 10) sc_bent.nd rfl (.inl rfl)) (fun _ _ _ _ _ => pts_nil) (fun _ _ _ _ _ => pe_int)) pa_nil))) (pe_slice (UfK.sl_listK (K := K)) (pv 4) (po_some (pv 6)) po_none)))))))
      (pss_cons (ps_setLc (i := 8) (own := [("column", 11)]) rfl sc_bent.nd rfl rfl (sw_true rfl rfl rfl (by decide +kernel)) (UfK.pi_listK (K := K) (pv 4)) (blkOk_by (own := [("column", 11)]) (N := ["pool", "p", "size", "many", "columns", "turn", "place", "length", "wrong", "j", "k", "column"]) (sc := defScope s_bent) (by decide +kernel)) (fun _ _ _ _ _ => by exact pg_name (i := 11) sc_bent.nd rfl (.inl rfl)) (fun _ _ _ _ _ => (pts_one (pt_cmpR op_ne (pe_callB (UfK.call_lenK (K := K)) (by rfl) T.z_len (by decide +kernel) (pa_cons (pv 11) pa_nil)) (pv 2) (nomark _)))) (fun _ _ _ _ _ => (pe_callB (UfK.call_lenK (K := K)) (by rfl) T.z_len (by decide +kernel) (pa_cons (pv 11) pa_nil))))
      (pss_cons (ps_if (pt_cmpR op_eq (pe_callB (UfK.call_lenK (K := K)) (by rfl) T.z_len (by decide +kernel) (pa_cons (pv 8) pa_nil)) pe_int (nomark _)) (pss_one (ps_ret pe_bl)) pss_nil)
      (pss_one (ps_ret (pe_cmpR (UfK.op_eqDK (K := K) hr.units) (pe_call (ok_ask T) (hr.mono (by decide)) (by rfl) T.ask.g T.ask.F.kp T.ask.b .nil pass0 (pa_cons (pv 1) (pa_cons (pv 4) (pa_cons (pe_lc (own := [("k", 10)]) rfl sc_bent.nd (pi_range1 rfl T.z_range (pa_cons (pv 2) pa_nil)) (blkOk_by (own := [("k", 10)]) (N := ["pool", "p", "size", "many", "columns", "turn", "place", "length", "wrong", "j", "k", "column"]) (sc := defScope s_bent) (by decide +kernel)) (fun _ _ _ _ _ => by exact pg_name (i := 10) sc_bent.nd rfl (.inl rfl)) (fun _ _ _ _ _ => pts_nil) (fun _ _ _ _ _ => pe_int)) pa_nil)))) (pe_tup (pa_cons pe_str (pa_cons (pe_ix (UfK.ix_listK (K := K)) (pv 8) pe_int (fun _ _ => rfl)) (pa_cons (pv 2) pa_nil)))) (nomark _)))))))), ?_⟩
    refine ⟨_, rfl, (many : Int), rfl, by omega, by omega, fun D hD => ?_⟩
    refine UfW.lc_rng (n := many) (pf := fun _ => some (a, c, n)) (R := fun _ G y => ∃ t, y = .ref t ∧ G t = some (.lst (List.replicate size (V.int 1)))) lw hD (by omega) (fun i G3 G4 y e h => ?_) (fun j acc G3 H3 hj e3 lw Nx kk => ?_) (fun G1 H1 zs e1 lw h1 hl1 hy1 => ?_)
    · obtain ⟨t, h1, h2⟩ := h
      exact ⟨t, h1, e _ _ h2⟩
    · refine ⟨rfl, _, rfl, (size : Int), rfl, by omega, by omega, fun D2 hD2 => ?_⟩
      refine UfW.lc_rng (n := size) (pf := fun _ => some (a, c, n)) (R := fun _ _ y => y = .int 1) lw hD2 (by omega) (fun _ _ _ _ _ h => h) (fun j acc G3 H3 hj e3 lw Nx kk => ?_) (fun G4 H4 ys e4 lw h4 hl4 hy4 => ?_)
      · exact ⟨rfl, kk _ _ _ (Ex.refl _) lw rfl⟩
      · rw [ones_of hl4 hy4] at h4
        exact kk _ _ _ e4 lw ⟨D2, rfl, h4⟩
    have hCL : CL G1 zs (List.replicate many size) := ⟨by rw [hl1, List.length_replicate], fun i x hx => by
      obtain ⟨t, h2, h3⟩ := hy1 i x hx
      exact ⟨size, t, List.getElem?_replicate_of_lt (by have := (List.getElem?_eq_some_iff.mp hx).1; omega), h2, h3⟩⟩
    refine gName_ap ?_
    refine ⟨_, rfl, call_draw lw (by decide) (by decide) (by omega) fun G2 H2 d e2 lw d0 d1 => ?_⟩
    have m2 : (1 + d).toNat ≤ 2 := by omega
    refine ⟨_, _, rfl, rfl, 1 + d, rfl, by omega, by omega, ?_⟩
    refine for_range (lo := 0) (n := (1 + d).toNat) (fun i σ' H' => ∃ (z5 z6 z7 : Option V) (D : Addr) (zs : List V) (L : List Nat) (G' : Hp), σ' = [some (.ref a), some (.int p), some (.int size), some (.int many), some (.ref D), z5, z6, z7, none, none, none, none] ∧ Lw H G (some (a, c, n + 1 + 2 * i)) [] G' H' ∧ G' D = some (.lst zs) ∧ CL G' zs L ∧ L.length = many + i ∧ ∀ l ∈ L, l ≤ 600)
      ⟨none, none, none, D, zs, _, G2, rfl, lw, e2 _ _ h1, hCL.ex e2, List.length_replicate, fun l hl => by rw [List.eq_of_mem_replicate hl]; omega⟩ (fun i σ' H' hi hp => ?_) (fun σ' H' hp => ?_)
    · obtain ⟨z5, z6, z7, D, zs, L, G3, rfl, lw, h3, hL, hLl, hL6⟩ := hp
      rw [Int.zero_add]
      refine gName_ap ?_
      have hz : zs.length = many + i := by rw [hL.1, hLl]
      refine ⟨_, rfl, _, rfl, D, zs, rfl, .inl (SqL.g lw h3), _, _, rfl, rfl, call_draw lw (by omega) (Int.lt_of_lt_of_le (show (zs.length : Int) + 1 < 100 by omega) (by decide)) (by omega) fun G4 H4 d4 e4 lw d40 d41 => ?_⟩
      obtain ⟨pl, rfl⟩ : ∃ pl : Nat, d4 = pl := ⟨d4.toNat, by omega⟩
      refine gName_ap ?_
      refine ⟨_, rfl, _, _, rfl, rfl, _, rfl, _, _, rfl, rfl, _, _, rfl, _, rfl, _, _, rfl, rfl, Evl.sz_of (by show 5 ≤ 100000; decide), fun t5 n5 => ?_⟩
      obtain ⟨G5, e5, lw, h5⟩ := lw.allocE (o := .tup [.int ((size : Int) + 1), .int (if (size : Int) - 1 > 0 then (size : Int) - 1 else 0), .int 0, .int ((size : Int) + 3), .int 600]) n5
      refine ⟨_, rfl, call_draw lw (by decide) (by decide) (by omega) fun G6 H6 d6 e6 lw d60 d61 => ?_⟩
      obtain ⟨m, hm, m6⟩ : ∃ m : Nat, atI [V.int ((size : Int) + 1), V.int (if (size : Int) - 1 > 0 then (size : Int) - 1 else 0), V.int 0, V.int ((size : Int) + 3), V.int 600] d6 = some (.int m) ∧ m ≤ 600 := by
        have : d6 = 0 ∨ d6 = 1 ∨ d6 = 2 ∨ d6 = 3 ∨ d6 = 4 := by omega
        rcases this with rfl | rfl | rfl | rfl | rfl
        · exact ⟨size + 1, rfl, by omega⟩
        · refine ⟨size - 1, ?_, by omega⟩
          show some (V.int (if (size : Int) - 1 > 0 then (size : Int) - 1 else 0)) = some (V.int ((size - 1 : Nat) : Int))
          congr 2
          split <;> omega
        · exact ⟨0, rfl, by omega⟩
        · exact ⟨size + 3, rfl, by omega⟩
        · exact ⟨600, rfl, by omega⟩
      refine ⟨t5, _, d6, _, rfl, rfl, SqT.g lw (e6 _ _ h5), hm, ?_⟩
      refine gName_ap ?_
      have e36 := e4.trans (e5.trans e6)
      have h36 := e36 _ _ h3
      refine ⟨_, rfl, _, rfl, pl, rfl, D, zs, rfl, SqL.g lw h36, fun t7 n7 => ?_⟩
      rw [cutV_take]
      obtain ⟨G7, e7, lw, h7⟩ := lw.allocE (o := .lst (zs.take pl)) n7
      refine ⟨_, rfl, (m : Int), rfl, by omega, by omega, fun D8 hD8 => ?_⟩
      refine UfW.lc_rng (n := m) (pf := fun _ => some (a, c, n + 1 + 2 * i + 2)) (R := fun _ _ y => y = .int 1) lw hD8 (by omega) (fun _ _ _ _ _ h => h) (fun j acc G3 H3 hj e3 lw Nx kk => ?_) (fun G8 H8 ys e8 lw h8 hl8 hy8 => ?_)
      · exact ⟨rfl, kk _ _ _ (Ex.refl _) lw rfl⟩
      rw [ones_of hl8 hy8] at h8
      refine ⟨Evl.sz_of (by show 1 ≤ 100000; decide), fun t9 n9 => ?_⟩
      obtain ⟨G9, e9, lw, h9⟩ := lw.allocE (o := .lst [.ref D8]) n9
      have l7 : (zs.take pl).length ≤ 14 := by rw [List.length_take]; omega
      refine ⟨t7, t9, _, _, rfl, rfl, lw.gh _ _ (e9 _ _ (e8 _ _ h7)), lw.gh _ _ h9, Evl.sz_of (by show _ + 1 ≤ 100000; omega), fun t10 n10 => ?_⟩
      obtain ⟨G10, e10, lw, h10⟩ := lw.allocE (o := .lst (zs.take pl ++ [.ref D8])) n10
      have e310 := e7.trans (e8.trans (e9.trans e10))
      refine ⟨_, rfl, _, rfl, pl, rfl, D, zs, rfl, SqL.g lw (e310 _ _ h36), fun t11 n11 => ?_⟩
      rw [cutV_drop _ _ (by omega)]
      obtain ⟨G11, e11, lw, h11⟩ := lw.allocE (o := .lst (zs.drop pl)) n11
      have l11 : (zs.drop pl).length ≤ 14 := by rw [List.length_drop]; omega
      refine ⟨t10, t11, _, _, rfl, rfl, lw.gh _ _ (e11 _ _ h10), lw.gh _ _ h11, Evl.sz_of (by rw [List.length_append]; show _ + 1 + _ ≤ 100000; omega), fun t12 n12 => ?_⟩
      obtain ⟨G12, e12, lw, h12⟩ := lw.allocE (o := .lst (zs.take pl ++ [.ref D8] ++ zs.drop pl)) n12
      have hL12 := hL.ex (e36.trans (e310.trans (e11.trans e12)))
      have h812 := (e9.trans (e10.trans (e11.trans e12))) _ _ h8
      refine ⟨_, _, _, t12, _, L.take pl ++ [m] ++ L.drop pl, G12, rfl, by rw [show n + 1 + 2 * (i + 1) = n + 1 + 2 * i + 2 by omega]; exact lw, h12, ((hL12.take pl).app ⟨rfl, fun i x hx => ?_⟩).app (hL12.drop pl), ?_, fun l hl => ?_⟩
      · cases i with
        | zero =>
          cases hx
          exact ⟨m, D8, rfl, rfl, h812⟩
        | succ i => cases hx
      · rw [List.length_append, List.length_append, List.length_take, List.length_drop, List.length_singleton]
        omega
      · rcases List.mem_append.mp hl with hl | hl
        · rcases List.mem_append.mp hl with hl | hl
          · exact hL6 l (List.mem_of_mem_take hl)
          · rw [show l = m by simpa using hl]
            exact m6
        · exact hL6 l (List.mem_of_mem_drop hl)
    · obtain ⟨z5, z6, z7, D, zs, L, G3, rfl, lw, h3, hL, hLl, hL6⟩ := hp
      refine ⟨_, rfl, D, rfl, ⟨_, SqL.g lw h3⟩, fun D4 hD4 => ?_⟩
      refine it_list (xs := zs) (fun i H' => Lw H G (some (a, c, n + 1 + 2 * (1 + d).toNat)) [(D4, .lst ((((L.take i).filter fun l => l != size).map fun (l : Nat) => (l : Int)).map V.int))] G3 H') (lw.make hD4) (fun i H' _ lw => SqL.g lw h3) (fun i x H' hx lw => ?_) (fun H' lw => ?_)
      · obtain ⟨l, t, hl, rfl, ht⟩ := hL.2 i x hx
        have hi := (List.getElem?_eq_some_iff.mp hl).1
        have hft : ((L.take (i + 1)).filter fun l => l != size) = ((L.take i).filter fun l => l != size) ++ [l].filter fun l => l != size := by
          rw [List.take_add_one, hl, List.filter_append]
          rfl
        have hle := List.length_filter_le (fun l => l != size) (L.take i)
        rw [List.length_take] at hle
        refine ⟨rfl, _, rfl, t, _, rfl, .inl (SqL.g lw ht), _, rfl, rfl, _, rfl, ite2 (fun h => ?_) (fun h => ?_)⟩
        · have h : l ≠ size := fun z => by
            rw [List.length_replicate, z] at h
            simp at h
          refine ⟨_, rfl, t, _, rfl, .inl (SqL.g lw ht), _, lw.at, Evl.sz_lt (by rw [List.length_map, List.length_map]; omega), ?_⟩
          rw [hft, List.filter_cons_of_pos (by simpa using h), List.filter_nil, List.map_append, List.map_append, List.length_replicate]
          exact lw.put
        · have h : l = size := by
            rw [List.length_replicate] at h
            have h : (l : Int) = size := by simpa using h
            omega
          rw [hft, List.filter_cons_of_neg (by simpa using h), List.filter_nil, List.append_nil]
          exact lw
      · rw [hL.1, List.take_length] at lw
        obtain ⟨lw, e4⟩ := lw.keep
        obtain ⟨G4, hG4⟩ : ∃ G4, G4 = upd G3 D4 (.lst (((L.filter fun l => l != size).map fun (l : Nat) => (l : Int)).map V.int)) := ⟨_, rfl⟩
        rw [← hG4] at lw e4
        have h4 : G4 D4 = some (.lst (((L.filter fun l => l != size).map fun (l : Nat) => (l : Int)).map V.int)) := by rw [hG4]; exact upd_same
        refine gName_ap ?_
        refine ⟨_, rfl, D4, _, rfl, .inl (SqL.g lw h4), rfl, _, rfl, ite2 (fun h => ?_) (fun h => ?_)⟩
        · exact k _ _ _ (lw.more (by omega)) rfl
        · rw [List.length_map, List.length_map] at h
          have h : (L.filter fun l => l != size).length ≠ 0 := fun z => by
            rw [z] at h
            simp at h
          have hL4 := hL.ex e4
          refine ⟨_, rfl, _, rfl, _, rfl, (size : Int), rfl, by omega, by omega, fun D5 hD5 => ?_⟩
          refine UfW.lc_rng (n := size) (pf := fun _ => some (a, c, n + 1 + 2 * (1 + d).toNat)) (R := RN T.frac.C (List.replicate size 0)) lw hD5 (by omega) RN.mono (fun j acc G3 H3 hj e3 lw Nx kk => ?_) (fun G5 H5 ys e5 lw h5 hl5 hy5 => ?_)
          · exact ⟨rfl, kk _ _ _ (Ex.refl _) lw ⟨0, List.getElem?_replicate_of_lt hj, Nm.ofInt 0⟩⟩
          · have hcl : (L.map fun l => List.replicate l (1 : Rat)).length ≤ 1000 := by rw [List.length_map]; omega
            refine ⟨p, L.map fun l => List.replicate l (1 : Rat), List.replicate size 0, call_pure lw ⟨_, _, rfl, fit, ⟨D, zs, rfl, e5 _ _ (e4 _ _ h3), by rw [hL.1, List.length_map], fun i x hx => ?_⟩, ⟨D5, ys, rfl, h5, by rw [hl5, List.length_replicate], hy5⟩, hcl, by rw [List.length_replicate]; omega, fun z => ?_⟩ fun G6 H6 v6 e6 lw hv6 => ?_⟩
            · obtain ⟨l, t, hl, rfl, ht⟩ := (hL4.ex e5).2 i x hx
              exact ⟨_, by rw [List.getElem?_map, hl]; rfl, ones_ns ht⟩
            · refine (h ?_).elim
              rw [List.length_eq_zero_iff, List.filter_eq_nil_iff]
              intro l hl
              have := z _ (List.mem_map.mpr ⟨l, hl, rfl⟩)
              rw [List.length_replicate, List.length_replicate] at this
              simp [this]
            · rcases hv6 with ⟨z, _⟩ | ⟨A', c', B', h7, h8, h9, h10⟩
              · refine (h ?_).elim
                rw [List.length_eq_zero_iff, List.filter_eq_nil_iff]
                intro l hl
                have := z _ (List.mem_map.mpr ⟨l, hl, rfl⟩)
                rw [List.length_replicate, List.length_replicate] at this
                simp [this]
              · rw [List.length_replicate] at h8 h9 h10
                have hf := first_wrong h7 h8 h9
                obtain ⟨r, hr⟩ : ∃ r, (L.filter fun l => l != size) = c'.length :: r := by
                  cases e : L.filter fun l => l != size with
                  | nil => rw [e] at hf; cases hf
                  | cons x r =>
                    rw [e] at hf
                    cases hf
                    exact ⟨r, rfl⟩
                rw [hr] at h4
                have h46 := e6 _ _ (e5 _ _ h4)
                have h0 : atI (((c'.length :: r).map fun (l : Nat) => (l : Int)).map V.int) 0 = some (V.int (c'.length : Int)) := atI_nat (j := 0) rfl
                refine ⟨_, rfl, D4, _, 0, _, rfl, rfl, SqL.g lw h46, h0, _, rfl, Evl.sz_of (by show 3 ≤ 100000; decide), fun t7 n7 => ?_⟩
                obtain ⟨G7, e7, lw, h7⟩ := lw.allocE (o := .tup [.str "BadSizes", .int (c'.length : Int), .int (size : Int)]) n7
                refine r_eqD lw (h10.ex e7) (.tup h7 (.cons (.str _) (.cons (.int _) (.cons (.int _) .nil)))) (shaped_sii _ _ _ (by decide +kernel)) (shaped_sii _ _ _ (by decide +kernel)) ?_
                rw [eqv_sii]
                exact k _ _ _ (lw.more (by omega)) rfl
end
end K06

namespace K06
open PySem PySem.Spec PyProof.Rows L2 UfG UfT UfR UfO UfI UfQ UfN UfW UfD
open UfL (LP lowP plusP timesP gcdL primL clr invP ledO firstNz clrAll stepRow runRows Good OkU OkK Sml Oki lessP lessAll firstP leadP leadsP withinP dotFrom dotP at0 Can)
open UfZ (Kd)
open Evl (Ex)
theorem Targ.canB {p : Int} {n : Nat} {t : List LP} (h : Targ p n t) : ∀ x ∈ t, CanB p x := fun x hx => ⟨(h.2 x hx).canon, (h.2 x hx).bb (by decide) (by decide)⟩
theorem Drawn.canB {p : Int} (g : Gok p) {n : Nat} {us : List (List LP)} (h : Drawn p n us) : ∀ u ∈ us, u.length = n ∧ ∀ x ∈ u, CanB p x := fun u hu => by
  obtain ⟨h1, h2⟩ := h.lv4 g u hu
  exact ⟨h1, fun x hx => ⟨(h2 x hx).canon, (h2 x hx).bb (by decide) (by decide)⟩⟩
theorem targ_zero {p : Int} (g : Gok p) (n : Nat) : Targ p n (List.replicate n (0, 1)) := ⟨List.length_replicate, fun x hx => by
  rw [List.eq_of_mem_replicate hx]
  exact Lv.zero g⟩
theorem lv_one {p : Int} (g : Gok p) : Lv 5 538 p (1, 1) := by
  have : Lv 0 1 p (1, 1) := ⟨fun _ => ⟨1, 1, rfl, by
    show (1 : Rat) = ((6 ^ 0 : Nat) : Rat) * 1
    have : ((6 ^ 0 : Nat) : Rat) = 1 := rfl
    rw [this]
    grind, by decide⟩, fun z => ⟨rfl, by show (0 : Int) ≤ 1; decide, by unfold Gok at g; show 1 < p; omega⟩⟩
  exact this.to (by decide) (by decide)
def fits : List Int := [2, 3, 5, 7, 11, 13, 17, 19, 23, 29, 31]
section
variable {P : Program} {w : World} {K : PySem.W.Frag} {mg : Str → Option Value} {base : Heap}
theorem sc_law : FnScope ["script", "pool", "p", "size", "many", "columns", "leads", "within", "changed", "place", "targets", "k", "target"] ["script"] (defScope s_law) := ⟨rfl, rfl, rfl, by decide +kernel, rfl, by decide +kernel, by decide +kernel⟩
def sp_law (K : PySem.W.Frag) : Sp := fun vs H Q _ => ∃ (a : Addr) (ns : List Int), vs = [.ref a] ∧ SqL K H a (ns.map V.int) ∧ ns.length ≤ 63 ∧ ∀ H', Q (.bl true) H'
theorem ok_law (T : Tx K mg) {f : Addr} {fd : FuncData} (F : Fun K "law" "law" s_law f fd) : FnOk P w K mg base CX0 20 f fd ["script"] (sp_law K) := by
  refine F.ok sc_law (fun vs H Q E h => ?_) (fun cdv A outer s H vs Q E hr h => ?_)
  · obtain ⟨a, ns, rfl, _⟩ := h
    rfl
  · obtain ⟨sa, ns, rfl, hS, _, k⟩ := h
    refine ⟨_, (pss_cons (ps_set (i := 1) sc_law.nd rfl (.inr rfl) (pe_call (ok_pool T) (hr.mono (by decide)) (by rfl) T.pool.g T.pool.F.kp T.pool.b .nil pass0 (pa_cons (pv 0) pa_nil)))
      (pss_cons (ps_set (i := 2) sc_law.nd rfl (.inr rfl) (pe_ix (UfK.ix_tupK (K := K)) (pe_tup (pa_cons pe_int (pa_cons pe_int (pa_cons pe_int (pa_cons pe_int (pa_cons pe_int (pa_cons pe_int (pa_cons pe_int (pa_cons pe_int (pa_cons pe_int (pa_cons pe_int pa_nil))))))))))) (pe_call (ok_draw T) (hr.mono (by decide)) (by rfl) T.draw.g T.draw.F.kp T.draw.b .nil pass0 (pa_cons (pv 1) (pa_cons pe_int pa_nil))) (fun _ _ => rfl)))
      (pss_cons (ps_set (i := 3) sc_law.nd rfl (.inl rfl) (pe_call (ok_draw T) (hr.mono (by decide)) (by rfl) T.draw.g T.draw.F.kp T.draw.b .nil pass0 (pa_cons (pv 1) (pa_cons pe_int pa_nil))))
      (pss_cons (ps_set (i := 4) sc_law.nd rfl (.inl rfl) (pe_call (ok_draw T) (hr.mono (by decide)) (by rfl) T.draw.g T.draw.F.kp T.draw.b .nil pass0 (pa_cons (pv 1) (pa_cons pe_int pa_nil))))
      (pss_cons (ps_if (pt_cmpR op_eq (pe_call (ok_draw T) (hr.mono (by decide)) (by rfl) T.draw.g T.draw.F.kp T.draw.b .nil pass0 (pa_cons (pv 1) (pa_cons pe_int pa_nil))) pe_int (nomark _)) (pss_cons (ps_set (i := 3) sc_law.nd rfl (.inl rfl) (pe_call (ok_draw T) (hr.mono (by decide)) (by rfl) T.draw.g T.draw.F.kp T.draw.b .nil pass0 (pa_cons (pv 1) (pa_cons pe_int pa_nil))))
      (pss_one (ps_set (i := 4) sc_law.nd rfl (.inl rfl) (pe_call (ok_draw T) (hr.mono (by decide)) (by rfl) T.draw.g T.draw.F.kp T.draw.b .nil pass0 (pa_cons (pv 1) (pa_cons pe_int pa_nil)))))) pss_nil)
      (pss_cons (ps_set (i := 5) sc_law.nd rfl (.inr rfl) (pe_call (ok_drawn T) (hr.mono (by decide)) (by rfl) T.drawn.g T.drawn.F.kp T.drawn.b .nil pass0 (pa_cons (pv 1) (pa_cons (pv 2) (pa_cons (pv 3) (pa_cons (pv 4) pa_nil))))))
      (pss_cons (ps_set (i := 6) sc_law.nd rfl (.inr rfl) (pe_call (ok_leads T) (hr.mono (by decide)) (by rfl) T.leads.g T.leads.F.kp T.leads.b .nil pass0 (pa_cons (pv 2) (pa_cons (pv 5) pa_nil))))
      (pss_cons (ps_set (i := 7) sc_law.nd rfl (.inl rfl) (pe_call (ok_combined T) (hr.mono (by decide)) (by rfl) T.combined.g T.combined.F.kp T.combined.b .nil pass0 (pa_cons (pv 1) (pa_cons (pv 2) (pa_cons (pv 3) (pa_cons (pv 5) pa_nil))))))
      (pss_cons (ps_set (i := 8) sc_law.nd rfl (.inl rfl) (pe_callTy (UfK.call_list_ofK (K := K)) (by rfl) T.z_list (by decide +kernel) (pa_cons (pv 7) pa_nil)))
      (pss_cons (ps_if (pt_cmpR op_gt (pv 3) pe_int (nomark _)) (pss_cons (ps_set (i := 9) sc_law.nd rfl (.inl rfl) (pe_call (ok_draw T) (hr.mono (by decide)) (by rfl) T.draw.g T.draw.F.kp T.draw.b .nil pass0 (pa_cons (pv 1) (pa_cons (pv 3) pa_nil))))
      (pss_one (ps_asg (pe_call (ok_plus T) (hr.mono (by decide)) (by rfl) T.plus.g T.plus.F.kp T.plus.b .nil pass0 (pa_cons (pv 2) (pa_cons (pe_ix (UfK.ix_listK (K := K)) (pv 8) (pv 9) (fun _ _ => rfl)) (pa_cons (pe_tup (pa_cons pe_int (pa_cons pe_int pa_nil))) pa_nil)))) (pg_sub (pv 8) (pv 9) set_list)))) pss_nil)
      (pss_cons (ps_set (i := 10) sc_law.nd rfl (.inl rfl) (pe_lst (pa_cons (pv 7) (pa_cons (pv 8) (pa_cons (pe_lc (own := [("k", 11)]) rfl sc_law.nd (pi_range1 rfl T.z_range (pa_cons (pv 3) pa_nil)) (blkOk_by (own := [("k", 11)]) (N := ["script", "pool", "p", "size", "many", "columns", "leads", "within", "changed", "place", "targets", "k", "target"]) (sc := defScope s_law) (by decide +kernel)) (fun _ _ _ _ _ => by exact pg_name (i := 11) sc_law.nd rfl (.inl rfl)) (fun _ _ _ _ _ => pts_nil) (fun _ _ _ _ _ => (pe_tup (pa_cons pe_int (pa_cons pe_int pa_nil))))) (pa_cons (pe_lc (own := [("k", 11)]) rfl sc_law.nd (pi_range1 rfl T.z_range (pa_cons (pv 3) pa_nil)) (blkOk_by (own := [("k", 11)]) (N := ["script", "pool", "p", "size", "many", "columns", "leads", "within", "changed", "place", "targets", "k", "target"]) (sc := defScope s_law) (by decide +kernel)) (fun _ _ _ _ _ => by exact pg_name (i := 11) sc_law.nd rfl (.inl rfl)) (fun _ _ _ _ _ => pts_nil) (fun _ _ _ _ _ => (pe_call (ok_number T) (hr.mono (by decide)) (by rfl) T.number.g T.number.F.kp T.number.b .nil pass0 (pa_cons (pv 1) (pa_cons (pv 2) pa_nil))))) (pa_cons (pv 7) pa_nil)))))))
      (pss_cons (ps_if (pt_not (pt_val (pe_callB (UfK.cr_allK (K := K) rfl) (by rfl) T.z_all (by decide +kernel) (pa_cons (pe_lc (own := [("target", 12)]) rfl sc_law.nd (UfK.pi_listK (K := K) (pv 10)) (blkOk_by (own := [("target", 12)]) (N := ["script", "pool", "p", "size", "many", "columns", "leads", "within", "changed", "place", "targets", "k", "target"]) (sc := defScope s_law) (by decide +kernel)) (fun _ _ _ _ _ => by exact pg_name (i := 12) sc_law.nd rfl (.inl rfl)) (fun _ _ _ _ _ => pts_nil) (fun _ _ _ _ _ => (pe_call (ok_right T) (hr.mono (by decide)) (by rfl) T.right.g T.right.F.kp T.right.b .nil pass0 (pa_cons (pv 1) (pa_cons (pv 2) (pa_cons (pv 5) (pa_cons (pv 6) (pa_cons (pv 12) pa_nil)))))))) pa_nil)))) (pss_one (ps_ret pe_bl)) pss_nil)
      (pss_cons (ps_if (PW.pt (pw_or (pt_not (pt_val (pe_call (ok_right T) (hr.mono (by decide)) (by rfl) T.right.g T.right.F.kp T.right.b .nil pass0 (pa_cons (pv 1) (pa_cons (pv 2) (pa_cons (pe_lst pa_nil) (pa_cons (pe_lst pa_nil) (pa_cons (pv 7) pa_nil)))))))) (pw_or1 (pt_not (pt_val (pe_call (ok_right T) (hr.mono (by decide)) (by rfl) T.right.g T.right.F.kp T.right.b .nil pass0 (pa_cons (pv 1) (pa_cons (pv 2) (pa_cons (pe_slice (UfK.sl_listK (K := K)) (pv 5) po_none (po_some pe_int)) (pa_cons (pe_call (ok_leads T) (hr.mono (by decide)) (by rfl) T.leads.g T.leads.F.kp T.leads.b .nil pass0 (pa_cons (pv 2) (pa_cons (pe_slice (UfK.sl_listK (K := K)) (pv 5) po_none (po_some pe_int)) pa_nil))) (pa_cons (pv 8) pa_nil))))))))))) (pss_one (ps_ret pe_bl)) pss_nil)
      (pss_one (ps_ret (pe_call (ok_bent T) (hr.mono (by decide)) (by rfl) T.bent.g T.bent.F.kp T.bent.b .nil pass0 (pa_cons (pv 1) (pa_cons (pv 2) (pa_cons (pv 3) (pa_cons (pv 4) pa_nil)))))))))))))))))))), ?_⟩
    refine seq_rest (fun σ' H' => ∃ (H1 : Hp) (a c : Addr), σ' = [some (.ref sa), some (.ref a), none, none, none, none, none, none, none, none, none, none, none] ∧ Lw H1 (fun _ => none) (some (a, c, 0)) [] (fun _ => none) H') (fun σ' H' hp => ?_) (fun kk => ⟨_, rfl, sa, ns, rfl, hS, fun H1 a c lw => kk _ _ ⟨H1, a, c, rfl, lw⟩⟩)
    obtain ⟨H0, a, c, rfl, lw⟩ := hp
    obtain ⟨G0, hG0⟩ : ∃ G0 : Hp, G0 = fun _ => none := ⟨_, rfl⟩
    rw [← hG0] at lw
    -- p
    refine ⟨Evl.sz_of (by show 10 ≤ 100000; decide), fun t1 n1 => ?_⟩
    obtain ⟨G1, e1, lw, h1⟩ := lw.allocE (o := .tup [.int 0, .int 0, .int 0, .int 0, .int 2, .int 3, .int 5, .int 7, .int 13, .int 31]) n1
    refine ⟨_, rfl, call_draw lw (by decide) (by decide) (by decide) fun G2 H2 d e2 lw d0 d1 => ?_⟩
    obtain ⟨p, hp, fit, fitm⟩ : ∃ p : Int, atI [V.int 0, .int 0, .int 0, .int 0, .int 2, .int 3, .int 5, .int 7, .int 13, .int 31] d = some (.int p) ∧ fitP p = true ∧ (p = 0 ∨ p ∈ fits) := by
      have : d = 0 ∨ d = 1 ∨ d = 2 ∨ d = 3 ∨ d = 4 ∨ d = 5 ∨ d = 6 ∨ d = 7 ∨ d = 8 ∨ d = 9 := by omega
      rcases this with rfl | rfl | rfl | rfl | rfl | rfl | rfl | rfl | rfl | rfl
      · exact ⟨0, rfl, by decide, by decide⟩
      · exact ⟨0, rfl, by decide, by decide⟩
      · exact ⟨0, rfl, by decide, by decide⟩
      · exact ⟨0, rfl, by decide, by decide⟩
      · exact ⟨2, rfl, by decide, by decide⟩
      · exact ⟨3, rfl, by decide, by decide⟩
      · exact ⟨5, rfl, by decide, by decide⟩
      · exact ⟨7, rfl, by decide, by decide⟩
      · exact ⟨13, rfl, by decide, by decide⟩
      · exact ⟨31, rfl, by decide, by decide⟩
    have g : Gok p := by
      rcases fitm with rfl | h
      · exact .inl rfl
      · unfold fits at h
        simp only [List.mem_cons, List.mem_nil_iff, or_false] at h
        unfold Gok
        omega
    refine ⟨t1, _, d, _, rfl, rfl, SqT.g lw (e2 _ _ h1), hp, ?_⟩
    refine gName_ap ?_
    dsimp only
    -- size, many
    refine seq_rest (fun σ' H' => ∃ (size : Nat) (G' : Hp), σ' = [some (.ref sa), some (.ref a), some (.int p), some (.int size), none, none, none, none, none, none, none, none, none] ∧ Lw H0 G0 (some (a, c, 2)) [] G' H' ∧ size ≤ 12) (fun σ' H' hq => ?_) (fun kk => ?_)
    rotate_left
    · refine ⟨_, rfl, call_draw lw (by decide) (by decide) (by decide) fun G3 H3 d e3 lw d0 d1 => ?_⟩
      obtain ⟨m, rfl⟩ : ∃ m : Nat, d = m := ⟨d.toNat, by omega⟩
      exact kk _ _ ⟨m, G3, rfl, lw, by omega⟩
    obtain ⟨size0, G3, rfl, lw, hs0⟩ := hq
    refine seq_rest (fun σ' H' => ∃ (many : Nat) (G' : Hp), σ' = [some (.ref sa), some (.ref a), some (.int p), some (.int size0), some (.int many), none, none, none, none, none, none, none, none] ∧ Lw H0 G0 (some (a, c, 3)) [] G' H' ∧ many ≤ 12) (fun σ' H' hq => ?_) (fun kk => ?_)
    rotate_left
    · refine ⟨_, rfl, call_draw lw (by decide) (by decide) (by decide) fun G4 H4 d e4 lw d0 d1 => ?_⟩
      obtain ⟨m, rfl⟩ : ∃ m : Nat, d = m := ⟨d.toNat, by omega⟩
      exact kk _ _ ⟨m, G4, rfl, lw, by omega⟩
    obtain ⟨many0, G4, rfl, lw, hm0⟩ := hq
    refine seq_rest (fun σ' H' => ∃ (size many : Nat) (G' : Hp), σ' = [some (.ref sa), some (.ref a), some (.int p), some (.int size), some (.int many), none, none, none, none, none, none, none, none] ∧ Lw H0 G0 (some (a, c, 6)) [] G' H' ∧ size ≤ 12 ∧ many ≤ 12) (fun σ' H' hq => ?_) (fun kk => ?_)
    rotate_left
    · refine ⟨_, rfl, call_draw lw (by decide) (by decide) (by decide) fun G5 H5 d e5 lw d0 d1 => ?_⟩
      refine ⟨rfl, _, rfl, ite2 (fun _ => ?_) (fun _ => ?_)⟩
      · refine ⟨_, rfl, call_draw lw (by decide) (by decide) (by decide) fun G6 H6 d6 e6 lw d60 d61 => ?_⟩
        obtain ⟨m, rfl⟩ : ∃ m : Nat, d6 = m := ⟨d6.toNat, by omega⟩
        refine gName_ap ?_
        refine ⟨_, rfl, call_draw lw (by decide) (by decide) (by decide) fun G7 H7 d7 e7 lw d70 d71 => ?_⟩
        obtain ⟨m7, rfl⟩ : ∃ m : Nat, d7 = m := ⟨d7.toNat, by omega⟩
        exact kk _ _ ⟨m, m7, G7, rfl, lw, by omega, by omega⟩
      · exact kk _ _ ⟨size0, many0, G5, rfl, lw.more (by decide), hs0, hm0⟩
    obtain ⟨size, many, G5, rfl, lw, hs, hm⟩ := hq
    -- columns
    refine ⟨_, rfl, _, rfl, _, rfl, _, rfl, p, size, many, call_pool (d := 2000) lw (by decide) ⟨rfl, g, hs, hm⟩ fun G6 H6 v6 e6 lw hv6 => ?_⟩
    obtain ⟨tc, cs, us, rfl, htc, hRR, hul, hdr⟩ := hv6
    have hu12 : us.length ≤ 12 := by omega
    have right := fun {t : List LP} (h : Targ p size t) => right_ok fitm hs hu12 hdr h
    refine gName_ap ?_
    refine ⟨_, rfl, _, rfl, p, size, us, call_pure lw ⟨tc, cs, rfl, g, htc, hRR, by omega, by omega, (right (targ_zero g size)).1⟩ fun G7 H7 v7 e7 lw hv7 => ?_⟩
    obtain ⟨tl, lds, rfl, htl, hLD⟩ := hv7
    refine gName_ap ?_
    refine ⟨_, rfl, _, rfl, _, rfl, _, rfl, p, size, us, call_pool (d := 60) lw (by decide) ⟨tc, cs, rfl, g, e7 _ _ htc, hRR.ex e7, by omega, by omega, comb_ok g (e := 4) (b := 418) (fun r hr => hdr.lv4 g r hr) (by decide) (by omega)⟩ fun G8 H8 v8 e8 lw hv8 => ?_⟩
    obtain ⟨shares, hsl, hsf, hW⟩ := hv8
    have TW : Targ p size (combP p size us shares) := ⟨comb_len _ _ _ _, fun x hx => (comb_lv g size (fun r hr => (hdr.lv4 g r hr).2) hsf x hx).upB (by omega)⟩
    have TW5 : ∀ x ∈ combP p size us shares, Lv 5 538 p x := fun x hx => (comb_lv g size (fun r hr => (hdr.lv4 g r hr).2) hsf x hx).upB (by omega)
    obtain ⟨W, hWe⟩ : ∃ W, W = combP p size us shares := ⟨_, rfl⟩
    rw [← hWe] at hW TW TW5
    obtain ⟨tw, ws, rfl, htw, hwl, hwx⟩ := hW
    refine gName_ap ?_
    refine ⟨_, rfl, tw, ws, rfl, .inl (SqL.g lw htw), fun D hD => ?_⟩
    refine gName_ap ?_
    dsimp only
    refine seq_rest (fun σ' H' => ∃ (z9 : Option V) (C : List LP) (G' : Hp), σ' = [some (.ref sa), some (.ref a), some (.int p), some (.int size), some (.int many), some (.ref tc), some (.ref tl), some (.ref tw), some (.ref D), z9, none, none, none] ∧ Lw H0 G0 (some (a, c, 2067)) [] G' H' ∧ Ex G8 G' ∧ RP G' (.ref D) C ∧ Targ p size C) (fun σ' H' hq => ?_) (fun kk => ?_)
    rotate_left
    · have lw := lw.make (o := .lst ws) hD
      refine ⟨_, rfl, _, _, rfl, rfl, _, rfl, ite2 (fun h => ?_) (fun h => ?_)⟩
      · have h : 0 < size := by
          have h : (0 : Int) < size := by simpa using h
          omega
        refine ⟨_, rfl, _, rfl, call_draw lw (by omega) (Int.lt_of_lt_of_le (show (size : Int) < 100 by omega) (by decide)) (by decide) fun G9 H9 d9 e9 lw d90 d91 => ?_⟩
        obtain ⟨pl, rfl⟩ : ∃ pl : Nat, d9 = pl := ⟨d9.toNat, by omega⟩
        refine gName_ap ?_
        have hplW : pl < W.length := by rw [TW.1]; omega
        obtain ⟨vi, ti, hvi, rfl, hti, hTi⟩ := RP.at hwl hwx hplW
        refine ⟨_, rfl, _, rfl, _, rfl, D, ws, (pl : Int), _, rfl, rfl, SqL.of lw.at, atI_nat hvi, Evl.sz_of (by show 2 ≤ 100000; decide), fun t10 n10 => ?_⟩
        obtain ⟨G10, e10, lw, h10⟩ := lw.allocE (o := .tup [.int 1, .int 1]) n10
        have lvi := at0_lv g TW5 pl
        refine call_plus lw g (hTi.ex (e9.trans e10)) ⟨t10, rfl, h10⟩ (lvi.bb (by decide) (by decide)) ((lv_one g).bb (by decide) (by decide)) fun G11 H11 v11 e11 lw hv11 => ?_
        refine ⟨_, rfl, _, rfl, D, ws, (pl : Int), pl, rfl, rfl, lw.at, Evl.ixN_nat (by omega), ?_⟩
        have lw := lw.put (o' := .lst (ws.set pl v11))
        obtain ⟨lw, e12⟩ := lw.keep
        refine kk _ _ ⟨_, W.set pl (plusP p (at0 W pl) (1, 1)), _, rfl, lw.more (by decide), e9.trans (e10.trans (e11.trans e12)), ⟨D, _, rfl, upd_same, by rw [List.length_set, List.length_set, hwl], fun j x hx => ?_⟩, by rw [List.length_set]; exact TW.1, fun x hx => ?_⟩
        · rw [List.getElem?_set] at hx ⊢
          by_cases z : pl = j
          · rw [if_pos z] at hx ⊢
            split at hx
            · cases hx
              rename_i hlt
              rw [hwl] at hlt
              rw [if_pos hlt]
              exact ⟨_, rfl, hv11.ex e12⟩
            · cases hx
          · rw [if_neg z] at hx ⊢
            obtain ⟨b, h1, h2⟩ := hwx j x hx
            exact ⟨b, h1, h2.ex (e9.trans (e10.trans (e11.trans e12)))⟩
        · rcases List.mem_or_eq_of_mem_set hx with h | h
          · exact TW.2 x h
          · rw [h]
            exact (lvi.plus g (lv_one g)).upB (by decide)
      · obtain ⟨lw, e12⟩ := lw.keep
        exact kk _ _ ⟨_, W, _, rfl, lw.more (by decide), e12, ⟨D, ws, rfl, upd_same, hwl, fun j x hx => by
          obtain ⟨b, h1, h2⟩ := hwx j x hx
          exact ⟨b, h1, h2.ex e12⟩⟩, TW⟩
    obtain ⟨z9, C, G9, rfl, lw, e9, hC, TC⟩ := hq
    -- targets
    refine ⟨_, rfl, _, rfl, _, rfl, (size : Int), rfl, by omega, by omega, fun D2 hD2 => ?_⟩
    refine UfW.lc_rng (n := size) (pf := fun _ => some (a, c, 2067)) (R := RJ (List.replicate size (0, 1))) lw hD2 (by omega) RJ.mono (fun j acc G3 H3 hj e3 lw Nx kk => ?_) (fun G10 H10 z10 e10 lw h10 hl10 hy10 => ?_)
    · refine ⟨rfl, Evl.sz_of (by show 2 ≤ 100000; decide), fun t5 n5 => ?_⟩
      obtain ⟨G4, e4, lw, h4⟩ := lw.allocE (o := .tup [.int 0, .int 1]) n5
      exact kk _ _ _ e4 lw ⟨(0, 1), List.getElem?_replicate_of_lt hj, t5, rfl, h4⟩
    refine ⟨_, rfl, (size : Int), rfl, by omega, by omega, fun D3 hD3 => ?_⟩
    refine UfW.lc_rng (n := size) (pf := fun j => some (a, c, 2067 + 4 * j)) (R := fun _ G y => ∃ b, TP G y b ∧ Fresh p b) lw hD3 (by omega) (fun i G3 G4 y e h => ?_) (fun j acc G5 H5 hj e5 lw Nx kk => ?_) (fun G11 H11 z11 e11 lw h11 hl11 hy11 => ?_)
    · obtain ⟨b, h1, h2⟩ := h
      exact ⟨b, h1.ex e, h2⟩
    · refine ⟨rfl, _, rfl, _, rfl, p, call_pool (d := 4) lw (by omega) ⟨rfl, g⟩ fun G6 H6 v6 e6 lw hv6 => ?_⟩
      obtain ⟨b, h1, h2⟩ := hv6
      exact kk _ _ _ e6 lw ⟨b, h1, h2⟩
    obtain ⟨F4, hF4l, hF4⟩ := pick (P := fun _ y b => TP G11 y b ∧ Fresh p b) z11 hy11
    have lw := lw.more (m := 2120) (by omega)
    have TF : Targ p size F4 := ⟨by rw [hF4l, hl11], fun x hx => by
      obtain ⟨j, hj⟩ := List.mem_iff_getElem?.mp hx
      have hjl := (List.getElem?_eq_some_iff.mp hj).1
      obtain ⟨b', h6, _, h7⟩ := hF4 j _ (List.getElem?_eq_getElem (by omega))
      rw [hj] at h6
      cases h6
      exact h7.to (by decide) (by decide)⟩
    have RPF : RP G11 (.ref D3) F4 := ⟨D3, z11, rfl, h11, hF4l.symm, fun j y hy => by
      obtain ⟨b, h1, h2, _⟩ := hF4 j y hy
      exact ⟨b, h1, h2⟩⟩
    have RPZ : RP G10 (.ref D2) (List.replicate size (0, 1)) := ⟨D2, z10, rfl, h10, by rw [hl10, List.length_replicate], hy10⟩
    refine ⟨_, rfl, Evl.sz_of (by show 5 ≤ 100000; decide), fun t12 n12 => ?_⟩
    obtain ⟨G12, e12, lw, h12⟩ := lw.allocE (o := .lst [.ref tw, .ref D, .ref D2, .ref D3, .ref tw]) n12
    have RPW : RP G8 (.ref tw) W := ⟨tw, ws, rfl, htw, hwl, hwx⟩
    have e812 := e9.trans (e10.trans (e11.trans e12))
    have targs : ∀ (i : Nat) (x : V), ([V.ref tw, .ref D, .ref D2, .ref D3, .ref tw] : List V)[i]? = some x → ∃ t, RP G12 x t ∧ Targ p size t := fun i x hx => by
      match i, hx with
      | 0, hx => cases hx; exact ⟨W, RPW.ex e812, TW⟩
      | 1, hx => cases hx; exact ⟨C, hC.ex (e10.trans (e11.trans e12)), TC⟩
      | 2, hx => cases hx; exact ⟨_, RPZ.ex (e11.trans e12), targ_zero g size⟩
      | 3, hx => cases hx; exact ⟨F4, RPF.ex e12, TF⟩
      | 4, hx => cases hx; exact ⟨W, RPW.ex e812, TW⟩
    refine gName_ap ?_
    have e612 := e7.trans (e8.trans e812)
    have e712 := e8.trans e812
    have hRR12 := hRR.ex e612
    have htc12 := e612 _ _ htc
    have htl12 := e712 _ _ htl
    have hLD12 := hLD.ex e712
    have hcan := hdr.canB g
    refine ⟨_, rfl, t12, rfl, ⟨_, SqL.g lw h12⟩, fun D13 hD13 => ?_⟩
    refine UfW.lc_list (K := K) (pf := fun j => some (a, c, 2120 + 20 * j)) (R := fun _ _ y => y = .bl true) lw hD13 h12 (by show 5 ≤ 90000; decide) (fun _ _ _ _ _ h => h) (fun i x acc G14 H14 hx14 e14 lw Nx kk => ?_) (fun G13 H13 z13 e13 lw h13 hl13 hy13 => ?_)
    · obtain ⟨t, hRt, hTt⟩ := targs i x hx14
      have hi : i < 5 := (List.getElem?_eq_some_iff.mp hx14).1
      obtain ⟨_, r2, r3⟩ := right hTt
      refine ⟨rfl, _, rfl, _, rfl, _, rfl, _, rfl, _, rfl, p, us, leadsP p us, t, call_pool (d := 20) lw (by omega) ⟨tc, cs, tl, lds, x, rfl, g, fit, e14 _ _ htc12, hRR12.ex e14, e14 _ _ htl12, hLD12.ex e14, hRt.ex e14, by omega, by rw [hTt.1]; omega, fun u hu => ⟨by rw [hTt.1]; exact (hcan u hu).1, (hcan u hu).2⟩, hTt.canB, by rw [hTt.1]; exact r2, r3⟩ fun G15 H15 v15 e15 lw hv15 => kk _ _ _ e15 lw hv15⟩
    have hl13 : z13.length = 5 := hl13
    rw [bools_of hl13 hy13] at h13
    refine ⟨D13, _, rfl, SqL.g lw h13, ?_⟩
    rw [all_true]
    refine ⟨true, rfl, iteF ?_⟩
    have lw := lw.more (m := 2220) (by show 2120 + 20 * 5 ≤ 2220; decide)
    -- no columns
    have e813 := e812.trans e13
    have TW0 : LessOk p size [] W ∧ RightOk p [] [] W := by
      have := right_ok (us := []) fitm hs (by decide) .nil TW
      exact ⟨this.2.1, this.2.2⟩
    refine ⟨_, rfl, _, rfl, Evl.sz_of (by simp), fun t14 n14 => ?_⟩
    obtain ⟨G14, e14, lw, h14⟩ := lw.allocE (o := .lst []) n14
    refine ⟨Evl.sz_of (by simp), fun t15 n15 => ?_⟩
    obtain ⟨G15, e15, lw, h15⟩ := lw.allocE (o := .lst []) n15
    refine ⟨_, rfl, p, [], [], W, call_pool (d := 20) lw (by decide) ⟨t14, [], t15, [], _, rfl, g, fit, e15 _ _ h14, ⟨rfl, fun i x hx => by cases hx⟩, h15, ⟨rfl, fun i x hx => by cases hx⟩, RPW.ex (e813.trans (e14.trans e15)), by decide, by rw [TW.1]; omega, nofun, TW.canB, by rw [TW.1]; exact TW0.1, TW0.2⟩ fun G16 H16 v16 e16 lw hv16 => ?_⟩
    subst hv16
    refine ⟨true, rfl, iteF ?_⟩
    -- one column
    have e616 := e612.trans (e13.trans (e14.trans (e15.trans e16)))
    have htc16 := e616 _ _ htc
    have hdr1 := hdr.take 1
    have hR1 : RR G6 (cs.take 1) (us.take 1) := ⟨by rw [List.length_take, List.length_take, hRR.1], fun i x hx => by
      rw [List.getElem?_take] at hx
      split at hx
      · rename_i hi
        rw [List.getElem?_take, if_pos hi]
        exact hRR.2 i x hx
      · cases hx⟩
    have l1 : (us.take 1).length ≤ 1 := by rw [List.length_take]; omega
    obtain ⟨q1, q2, q3⟩ := right_ok fitm hs (by omega) hdr1 TC
    refine ⟨_, rfl, _, rfl, _, rfl, 1, rfl, tc, cs, rfl, SqL.g lw htc16, fun t17 n17 => ?_⟩
    rw [show cutV cs none (some 1) = cs.take 1 from cutV_take cs 1]
    obtain ⟨G17, e17, lw, h17⟩ := lw.allocE (o := .lst (cs.take 1)) n17
    refine ⟨_, rfl, _, rfl, 1, rfl, tc, cs, rfl, SqL.g lw (e17 _ _ htc16), fun t18 n18 => ?_⟩
    rw [show cutV cs none (some 1) = cs.take 1 from cutV_take cs 1]
    obtain ⟨G18, e18, lw, h18⟩ := lw.allocE (o := .lst (cs.take 1)) n18
    have e618 := e616.trans (e17.trans e18)
    refine ⟨p, size, us.take 1, call_pure lw ⟨t18, _, rfl, g, h18, hR1.ex e618, by omega, by omega, q1⟩ fun G19 H19 v19 e19 lw hv19 => ?_⟩
    obtain ⟨tl1, lds1, rfl, htl1, hLD1⟩ := hv19
    have e1219 := e13.trans (e14.trans (e15.trans (e16.trans (e17.trans (e18.trans e19)))))
    refine ⟨_, rfl, p, us.take 1, leadsP p (us.take 1), C, call_pool (d := 20) lw (by decide) ⟨t17, _, tl1, lds1, _, rfl, g, fit, e19 _ _ (e18 _ _ h17), hR1.ex (e618.trans e19), htl1, hLD1, hC.ex ((e10.trans (e11.trans e12)).trans e1219), by omega, by rw [TC.1]; omega, fun u hu => ⟨by rw [TC.1]; exact (hdr1.canB g u hu).1, (hdr1.canB g u hu).2⟩, TC.canB, by rw [TC.1]; exact q2, q3⟩ fun G20 H20 v20 e20 lw hv20 => ?_⟩
    subst hv20
    refine ⟨true, rfl, iteF ?_⟩
    refine ⟨_, rfl, _, rfl, _, rfl, _, rfl, p, size, many, call_pool (d := 10) lw (by decide) ⟨rfl, fit, hs, hm⟩ fun G21 H21 v21 e21 lw hv21 => ?_⟩
    subst hv21
    exact k _
end
end K06

set_option maxHeartbeats 8000000
namespace K06
open PySem PySem.Spec PyProof.Rows L2 UfG UfT UfR UfO
theorem kit_eq {K : PySem.W.Frag} {D : Addr} : PySem.W.kitOne K (.ref D) (.ref D) = some true := by
  have e : ((Value.ref D) == (Value.ref D)) = true := beq_iff_eq.mpr rfl
  show (if ((Value.ref D) == (Value.ref D)) = true then some true else _) = _
  rw [if_pos e]
theorem kit_cl {K : PySem.W.Frag} {D C : Addr} {b : Bool} (h1 : PySem.W.isClsIn K C = true) (h2 : PySem.W.typeIn K (.ref C) = some (.type "type")) (h3 : PySem.W.subIn K (.ref D) (.ref C) = some b) : PySem.W.kitCls K (.ref D) (.ref C) = some b := by
  have h1 : (PySem.W.clsIn K C).isSome = true := h1
  have e : ((PySem.W.clsIn K C).isSome && PySem.W.typeIn K (.ref C) == some (.type "type")) = true := by rw [h1, h2] <;> rfl
  show (if ((PySem.W.clsIn K C).isSome && PySem.W.typeIn K (.ref C) == some (.type "type")) = true then PySem.W.subIn K (.ref D) (.ref C) else none) = _
  rw [if_pos e]
  exact h3
theorem kit_ne {K : PySem.W.Frag} {D C : Addr} (h1 : PySem.W.isClsIn K C = true) (h2 : PySem.W.typeIn K (.ref C) = some (.type "type")) (h3 : PySem.W.subIn K (.ref D) (.ref C) = some false) (h4 : PySem.W.subIn K (.ref D) (.ref D) = some true) :
    PySem.W.kitOne K (.ref D) (.ref C) = some false := by
  have e : ¬ ((Value.ref D) == (Value.ref C)) = true := fun z => by
    have z : Value.ref D = Value.ref C := beq_iff_eq.mp z
    rw [← z, h4] at h3
    cases h3
  show (if ((Value.ref D) == (Value.ref C)) = true then some true else PySem.W.kitCls K (.ref D) (.ref C)) = _
  rw [if_neg e]
  exact kit_cl h1 h2 h3
theorem kit_bi {K : PySem.W.Frag} {D : Addr} {T : String} {b : Bool} (h1 : PySem.W.kitMeta T = true) (h2 : PySem.W.subIn K (.ref D) (.type T) = some b) : PySem.W.kitOne K (.ref D) (.type T) = some b := by
  have e : ¬ ((Value.ref D) == (Value.type T)) = true := fun z => by
    have z : Value.ref D = Value.type T := beq_iff_eq.mp z
    cases z
  show (if ((Value.ref D) == (Value.type T)) = true then some true else (if PySem.W.kitMeta T = true then PySem.W.subIn K (.ref D) (.type T) else none)) = _
  rw [if_neg e, if_pos h1]
  exact h2
theorem exm_cl {K : PySem.W.Frag} {D C : Addr} {b : Bool} (h0 : PySem.W.subIn K (.ref C) (.type "BaseException") = some true) (h1 : PySem.W.isClsIn K C = true) (h2 : PySem.W.typeIn K (.ref C) = some (.type "type")) (h3 : PySem.W.subIn K (.ref D) (.ref C) = some b) :
    PySem.W.exmOne K (.ref D) (.ref C) = some b := by
  have e : (PySem.W.subIn K (.ref C) (.type "BaseException") == some true) = true := by rw [h0] <;> rfl
  show (if (PySem.W.subIn K (.ref C) (.type "BaseException") == some true) = true then PySem.W.kitCls K (.ref D) (.ref C) else none) = _
  rw [if_pos e]
  exact kit_cl h1 h2 h3
theorem kit_bo {K : PySem.W.Frag} {T : String} {C : Addr} {b : Bool} (h1 : PySem.W.isClsIn K C = true) (h2 : PySem.W.typeIn K (.ref C) = some (.type "type")) (h3 : PySem.W.subIn K (.type T) (.ref C) = some b) : PySem.W.kitOne K (.type T) (.ref C) = some b := by
  have h1 : (PySem.W.clsIn K C).isSome = true := h1
  have e : ((PySem.W.clsIn K C).isSome && PySem.W.typeIn K (.ref C) == some (.type "type")) = true := by rw [h1, h2] <;> rfl
  have n : ¬ ((Value.type T) == (Value.ref C)) = true := fun z => by
    have z : Value.type T = Value.ref C := beq_iff_eq.mp z
    cases z
  show (if ((Value.type T) == (Value.ref C)) = true then some true else (if ((PySem.W.clsIn K C).isSome && PySem.W.typeIn K (.ref C) == some (.type "type")) = true then PySem.W.subIn K (.type T) (.ref C) else none)) = _
  rw [if_neg n, if_pos e]
  exact h3
theorem fund_mk {K : PySem.W.Frag} {x qual : Str} {st : Stmt} {f T : Addr} {oc tc : Value} {od an td : Option Addr} {osl ts : Array (Option Value)} {kV doc pm cdv ct : Value} {tk : Tok} {tn : Nat}
    (l : K.lookup f = some ⟨oc, od, .func (PySem.W.fnOf x qual (defArgs st) (defBody st) (defScope st) (.ref T) kV doc pm an cdv ct), osl⟩) (c : PySem.W.codeIn K cdv qual = true) (k : PySem.W.keepIn K (.ref f) = true)
    (lT : K.lookup T = some ⟨tc, td, .seq #[.int 0 tk] tn, ts⟩) : FunD K x qual (defArgs st) (defBody st) (defScope st) [.int 0] [] f (PySem.W.fnOf x qual (defArgs st) (defBody st) (defScope st) (.ref T) kV doc pm an cdv ct) :=
  ⟨⟨_, _, _, _, _, _, _, _, _, _, rfl, l, c, .inr ⟨(fun z => nomatch z), T, _, [.int 0 tk], _, rfl, lT, rfl, .cons ⟨_, rfl⟩ .nil⟩, .inl rfl⟩, k⟩
theorem b1_mk {K : PySem.W.Frag} {x qual a b : Str} {pa : Arguments} {bd : List Stmt} {sc : Scope} {f : Addr} {fd : FuncData} (F : FunD K x qual pa bd sc [.int 0] [] f fd)
    (h : ∀ (T : Addr) (kV doc pm : Value) (an : Option Addr) (cdv ct : Value) (us its : List Value), us.length = 2 → its.length = 1 →
      ∃ k, bindArgs (PySem.W.fnOf x qual pa bd sc (.ref T) kV doc pm an cdv ct) ⟨us, []⟩ = seqItems? (.ref T) >>= k ∧ k (some its.toArray) = pure ([a, b].zip (us ++ its.drop 1))) : Binds K fd [a, b] [] := by
  obtain ⟨ds, v, r⟩ := FunD.binds1 (ps := [a, b]) F 2 1 (fun z => nomatch z) rfl h
  cases v
  exact r
theorem all_mk {l : PySem.W.OpenLaw} {w : World} {K : PySem.W.Frag} {h : Heap} {mg : Str → Option Value} {fa : Addr} (X : K.In h) (G : h.Ns mainGlobals mg) (hfa : mg "law" = some (.ref fa))
    {CycForms : Addr}
    {CycCount : Addr}
    {Ce0 : Addr}
    {Ce1 : Addr}
    {nme1 qe1 : Str} {Ne1 : Addr} {bse1 bme1 : List Value} {sne1 : List Str} {sube1 : List Value} {abe1 : Bool} {cole1 : Option Bool} {dde1 : Option Addr} {m0e1 m1e1 m2e1 m3e1 m5e1 : Option Value}
    {fe1 : Addr} {ode1 ane1 : Option Addr} {sle1 : Array (Option Value)} {oce1 kVe1 dce1 pme1 cde1 cte1 : Value}
    {Ce2 : Addr}
    {nme2 qe2 : Str} {Ne2 : Addr} {bse2 bme2 : List Value} {sne2 : List Str} {sube2 : List Value} {abe2 : Bool} {cole2 : Option Bool} {dde2 : Option Addr} {m0e2 m1e2 m2e2 m3e2 m5e2 : Option Value}
    {fe2 : Addr} {ode2 ane2 : Option Addr} {sle2 : Array (Option Value)} {oce2 kVe2 dce2 pme2 cde2 cte2 : Value}
    {Ce3 : Addr}
    {nme3 qe3 : Str} {Ne3 : Addr} {bse3 bme3 : List Value} {sne3 : List Str} {sube3 : List Value} {abe3 : Bool} {cole3 : Option Bool} {dde3 : Option Addr} {m0e3 m1e3 m2e3 m3e3 m5e3 : Option Value}
    {fe3 : Addr} {ode3 ane3 : Option Addr} {sle3 : Array (Option Value)} {oce3 kVe3 dce3 pme3 cde3 cte3 : Value}
    {Co0 : Addr}
    {Co1 : Addr}
    {fm_f_init : Addr} {odm_f_init anm_f_init : Option Addr} {slm_f_init : Array (Option Value)} {ocm_f_init kVm_f_init dcm_f_init pmm_f_init cdm_f_init ctm_f_init : Value}
    {fm_f_add : Addr} {odm_f_add anm_f_add : Option Addr} {slm_f_add : Array (Option Value)} {ocm_f_add kVm_f_add dcm_f_add pmm_f_add cdm_f_add ctm_f_add : Value}
    {fm_f_radd : Addr} {odm_f_radd anm_f_radd : Option Addr} {slm_f_radd : Array (Option Value)} {ocm_f_radd kVm_f_radd dcm_f_radd pmm_f_radd cdm_f_radd ctm_f_radd : Value}
    {fm_f_sub : Addr} {odm_f_sub anm_f_sub : Option Addr} {slm_f_sub : Array (Option Value)} {ocm_f_sub kVm_f_sub dcm_f_sub pmm_f_sub cdm_f_sub ctm_f_sub : Value}
    {fm_f_rsub : Addr} {odm_f_rsub anm_f_rsub : Option Addr} {slm_f_rsub : Array (Option Value)} {ocm_f_rsub kVm_f_rsub dcm_f_rsub pmm_f_rsub cdm_f_rsub ctm_f_rsub : Value}
    {fm_f_mul : Addr} {odm_f_mul anm_f_mul : Option Addr} {slm_f_mul : Array (Option Value)} {ocm_f_mul kVm_f_mul dcm_f_mul pmm_f_mul cdm_f_mul ctm_f_mul : Value}
    {fm_f_rmul : Addr} {odm_f_rmul anm_f_rmul : Option Addr} {slm_f_rmul : Array (Option Value)} {ocm_f_rmul kVm_f_rmul dcm_f_rmul pmm_f_rmul cdm_f_rmul ctm_f_rmul : Value}
    {fm_f_neg : Addr} {odm_f_neg anm_f_neg : Option Addr} {slm_f_neg : Array (Option Value)} {ocm_f_neg kVm_f_neg dcm_f_neg pmm_f_neg cdm_f_neg ctm_f_neg : Value}
    {fm_f_eq : Addr} {odm_f_eq anm_f_eq : Option Addr} {slm_f_eq : Array (Option Value)} {ocm_f_eq kVm_f_eq dcm_f_eq pmm_f_eq cdm_f_eq ctm_f_eq : Value}
    {fm_g_init : Addr} {odm_g_init anm_g_init : Option Addr} {slm_g_init : Array (Option Value)} {ocm_g_init kVm_g_init dcm_g_init pmm_g_init cdm_g_init ctm_g_init : Value}
    {Tm_g_init : Addr} {tcm_g_init : Value} {tdm_g_init : Option Addr} {tkm_g_init : Tok} {tnm_g_init : Nat} {tsm_g_init : Array (Option Value)}
    {iboAdd iroAdd : Option Value}
    {iboSub iroSub : Option Value}
    {iboMul iroMul : Option Value}
    {f0 : Addr} {od0 an0 : Option Addr} {sl0 : Array (Option Value)} {oc0 kV0 dc0 pm0 cd0 ct0 : Value}
    {f1 : Addr} {od1 an1 : Option Addr} {sl1 : Array (Option Value)} {oc1 kV1 dc1 pm1 cd1 ct1 : Value}
    {f2 : Addr} {od2 an2 : Option Addr} {sl2 : Array (Option Value)} {oc2 kV2 dc2 pm2 cd2 ct2 : Value}
    {f3 : Addr} {od3 an3 : Option Addr} {sl3 : Array (Option Value)} {oc3 kV3 dc3 pm3 cd3 ct3 : Value}
    {f4 : Addr} {od4 an4 : Option Addr} {sl4 : Array (Option Value)} {oc4 kV4 dc4 pm4 cd4 ct4 : Value}
    {f5 : Addr} {od5 an5 : Option Addr} {sl5 : Array (Option Value)} {oc5 kV5 dc5 pm5 cd5 ct5 : Value}
    {f6 : Addr} {od6 an6 : Option Addr} {sl6 : Array (Option Value)} {oc6 kV6 dc6 pm6 cd6 ct6 : Value}
    {f7 : Addr} {od7 an7 : Option Addr} {sl7 : Array (Option Value)} {oc7 kV7 dc7 pm7 cd7 ct7 : Value}
    {f8 : Addr} {od8 an8 : Option Addr} {sl8 : Array (Option Value)} {oc8 kV8 dc8 pm8 cd8 ct8 : Value}
    {f9 : Addr} {od9 an9 : Option Addr} {sl9 : Array (Option Value)} {oc9 kV9 dc9 pm9 cd9 ct9 : Value}
    {f10 : Addr} {od10 an10 : Option Addr} {sl10 : Array (Option Value)} {oc10 kV10 dc10 pm10 cd10 ct10 : Value}
    {f11 : Addr} {od11 an11 : Option Addr} {sl11 : Array (Option Value)} {oc11 kV11 dc11 pm11 cd11 ct11 : Value}
    {f12 : Addr} {od12 an12 : Option Addr} {sl12 : Array (Option Value)} {oc12 kV12 dc12 pm12 cd12 ct12 : Value}
    {f13 : Addr} {od13 an13 : Option Addr} {sl13 : Array (Option Value)} {oc13 kV13 dc13 pm13 cd13 ct13 : Value}
    {f14 : Addr} {od14 an14 : Option Addr} {sl14 : Array (Option Value)} {oc14 kV14 dc14 pm14 cd14 ct14 : Value}
    {f15 : Addr} {od15 an15 : Option Addr} {sl15 : Array (Option Value)} {oc15 kV15 dc15 pm15 cd15 ct15 : Value}
    {f16 : Addr} {od16 an16 : Option Addr} {sl16 : Array (Option Value)} {oc16 kV16 dc16 pm16 cd16 ct16 : Value}
    {f17 : Addr} {od17 an17 : Option Addr} {sl17 : Array (Option Value)} {oc17 kV17 dc17 pm17 cd17 ct17 : Value}
    {f18 : Addr} {od18 an18 : Option Addr} {sl18 : Array (Option Value)} {oc18 kV18 dc18 pm18 cd18 ct18 : Value}
    {f19 : Addr} {od19 an19 : Option Addr} {sl19 : Array (Option Value)} {oc19 kV19 dc19 pm19 cd19 ct19 : Value}
    {f20 : Addr} {od20 an20 : Option Addr} {sl20 : Array (Option Value)} {oc20 kV20 dc20 pm20 cd20 ct20 : Value}
    {f21 : Addr} {od21 an21 : Option Addr} {sl21 : Array (Option Value)} {oc21 kV21 dc21 pm21 cd21 ct21 : Value}
    {f22 : Addr} {od22 an22 : Option Addr} {sl22 : Array (Option Value)} {oc22 kV22 dc22 pm22 cd22 ct22 : Value}
    {f23 : Addr} {od23 an23 : Option Addr} {sl23 : Array (Option Value)} {oc23 kV23 dc23 pm23 cd23 ct23 : Value}
    {f24 : Addr} {od24 an24 : Option Addr} {sl24 : Array (Option Value)} {oc24 kV24 dc24 pm24 cd24 ct24 : Value}
    {f25 : Addr} {od25 an25 : Option Addr} {sl25 : Array (Option Value)} {oc25 kV25 dc25 pm25 cd25 ct25 : Value}
    {f26 : Addr} {od26 an26 : Option Addr} {sl26 : Array (Option Value)} {oc26 kV26 dc26 pm26 cd26 ct26 : Value}
    {f27 : Addr} {od27 an27 : Option Addr} {sl27 : Array (Option Value)} {oc27 kV27 dc27 pm27 cd27 ct27 : Value}
    {f28 : Addr} {od28 an28 : Option Addr} {sl28 : Array (Option Value)} {oc28 kV28 dc28 pm28 cd28 ct28 : Value}
    {f29 : Addr} {od29 an29 : Option Addr} {sl29 : Array (Option Value)} {oc29 kV29 dc29 pm29 cd29 ct29 : Value}
    {f30 : Addr} {od30 an30 : Option Addr} {sl30 : Array (Option Value)} {oc30 kV30 dc30 pm30 cd30 ct30 : Value}
    {f31 : Addr} {od31 an31 : Option Addr} {sl31 : Array (Option Value)} {oc31 kV31 dc31 pm31 cd31 ct31 : Value}
    {f32 : Addr} {od32 an32 : Option Addr} {sl32 : Array (Option Value)} {oc32 kV32 dc32 pm32 cd32 ct32 : Value}
    {f33 : Addr} {od33 an33 : Option Addr} {sl33 : Array (Option Value)} {oc33 kV33 dc33 pm33 cd33 ct33 : Value}
    {f34 : Addr} {od34 an34 : Option Addr} {sl34 : Array (Option Value)} {oc34 kV34 dc34 pm34 cd34 ct34 : Value}
    {f35 : Addr} {od35 an35 : Option Addr} {sl35 : Array (Option Value)} {oc35 kV35 dc35 pm35 cd35 ct35 : Value}
    {f36 : Addr} {od36 an36 : Option Addr} {sl36 : Array (Option Value)} {oc36 kV36 dc36 pm36 cd36 ct36 : Value}
    {f37 : Addr} {od37 an37 : Option Addr} {sl37 : Array (Option Value)} {oc37 kV37 dc37 pm37 cd37 ct37 : Value}
    {f38 : Addr} {od38 an38 : Option Addr} {sl38 : Array (Option Value)} {oc38 kV38 dc38 pm38 cd38 ct38 : Value}
    {f39 : Addr} {od39 an39 : Option Addr} {sl39 : Array (Option Value)} {oc39 kV39 dc39 pm39 cd39 ct39 : Value}
    {f40 : Addr} {od40 an40 : Option Addr} {sl40 : Array (Option Value)} {oc40 kV40 dc40 pm40 cd40 ct40 : Value}
    {TPPRIMES : Addr} {pdPRIMES : Option Addr} {pnPRIMES : Nat} {psPRIMES : Array (Option Value)} {ptPRIMES0 ptPRIMES1 ptPRIMES2 ptPRIMES3 ptPRIMES4 ptPRIMES5 ptPRIMES6 ptPRIMES7 ptPRIMES8 ptPRIMES9 ptPRIMES10 : Tok}
    (spG : PySem.W.specialIn K (.builtin "object.__class__") "__get__" = some (some (.builtin "getset_descriptor.__get__")))
    (tkG : PySem.W.takesIn K (.builtin "object.__class__") = some true)
    (gycForms : PySem.W.nsIn K mainGlobals "FormsError" = some (some (.ref CycForms)))
    (gycCount : PySem.W.nsIn K mainGlobals "BadCount" = some (some (.ref CycCount)))
    (ge0 : PySem.W.nsIn K mainGlobals "DivisionByZero" = some (some (.ref Ce0)))
    (gae0 : PySem.W.findIn K (.ref Ce0) "__getattribute__" = some (some (.builtin "BaseException.__getattribute__")))
    (gge0 : PySem.W.findIn K (.ref Ce0) "__getattr__" = some none)
    (exe0 : PySem.W.subIn K (.ref Ce0) (.type "BaseException") = some true)
    (tye0 : PySem.W.typeIn K (.ref Ce0) = some (.type "type"))
    (kce0 : PySem.W.keepIn K (.ref Ce0) = true)
    (hde0 : PySem.W.hasDictIn K Ce0 = true)
    (ise0 : PySem.W.isClsIn K Ce0 = true)
    (cle0 : PySem.W.findIn K (.ref Ce0) "__class__" = some (some (.builtin "object.__class__")))
    (moe0 : PySem.W.mroIn K Ce0 (.type "object") = some true)
    (qe0 : PySem.W.excIn K Ce0 [.type "ValueError", .type "Exception", .type "BaseException", .type "object"] "ValueError.__new__" = true)
    (ge1 : PySem.W.nsIn K mainGlobals "Whole" = some (some (.ref Ce1)))
    (gae1 : PySem.W.findIn K (.ref Ce1) "__getattribute__" = some (some (.builtin "BaseException.__getattribute__")))
    (gge1 : PySem.W.findIn K (.ref Ce1) "__getattr__" = some none)
    (exe1 : PySem.W.subIn K (.ref Ce1) (.type "BaseException") = some true)
    (tye1 : PySem.W.typeIn K (.ref Ce1) = some (.type "type"))
    (kce1 : PySem.W.keepIn K (.ref Ce1) = true)
    (hde1 : PySem.W.hasDictIn K Ce1 = true)
    (ise1 : PySem.W.isClsIn K Ce1 = true)
    (cle1 : PySem.W.findIn K (.ref Ce1) "__class__" = some (some (.builtin "object.__class__")))
    (moe1 : PySem.W.mroIn K Ce1 (.type "object") = some true)
    (xLe1 : K.lookup Ce1 = some (excClassObj nme1 qe1 Ce1 Ne1 bse1 bme1 true sne1 sube1 abe1 cole1 dde1 m0e1 m1e1 m2e1 m3e1 m5e1 "ValueError.__new__"))
    (xve1 : PySem.HandSPX.refsVE bme1 = true)
    (sae1 : PySem.W.findIn K (.ref Ce1) "__setattr__" = some (some (.builtin "object.__setattr__")))
    (iCe1 : PySem.W.findIn K (.ref Ce1) "__init__" = some (some (.ref fe1)))
    (tIe1 : PySem.W.typeIn K (.ref fe1) = some (.type "function"))
    (le1 : K.lookup fe1 = some ⟨oce1, ode1, .func (PySem.W.fnOf "__init__" "Whole.__init__" (defArgs i_whole) (defBody i_whole) (defScope i_whole) .none kVe1 dce1 pme1 ane1 cde1 cte1), sle1⟩)
    (ce1 : PySem.W.codeIn K cde1 "Whole.__init__" = true)
    (ke1 : PySem.W.keepIn K (.ref fe1) = true)
    (ge2 : PySem.W.nsIn K mainGlobals "BadPrime" = some (some (.ref Ce2)))
    (gae2 : PySem.W.findIn K (.ref Ce2) "__getattribute__" = some (some (.builtin "BaseException.__getattribute__")))
    (gge2 : PySem.W.findIn K (.ref Ce2) "__getattr__" = some none)
    (exe2 : PySem.W.subIn K (.ref Ce2) (.type "BaseException") = some true)
    (tye2 : PySem.W.typeIn K (.ref Ce2) = some (.type "type"))
    (kce2 : PySem.W.keepIn K (.ref Ce2) = true)
    (hde2 : PySem.W.hasDictIn K Ce2 = true)
    (ise2 : PySem.W.isClsIn K Ce2 = true)
    (cle2 : PySem.W.findIn K (.ref Ce2) "__class__" = some (some (.builtin "object.__class__")))
    (moe2 : PySem.W.mroIn K Ce2 (.type "object") = some true)
    (xLe2 : K.lookup Ce2 = some (excClassObj nme2 qe2 Ce2 Ne2 bse2 bme2 true sne2 sube2 abe2 cole2 dde2 m0e2 m1e2 m2e2 m3e2 m5e2 "ValueError.__new__"))
    (xve2 : PySem.HandSPX.refsVE bme2 = true)
    (sae2 : PySem.W.findIn K (.ref Ce2) "__setattr__" = some (some (.builtin "object.__setattr__")))
    (iCe2 : PySem.W.findIn K (.ref Ce2) "__init__" = some (some (.ref fe2)))
    (tIe2 : PySem.W.typeIn K (.ref fe2) = some (.type "function"))
    (le2 : K.lookup fe2 = some ⟨oce2, ode2, .func (PySem.W.fnOf "__init__" "BadPrime.__init__" (defArgs i_prime) (defBody i_prime) (defScope i_prime) .none kVe2 dce2 pme2 ane2 cde2 cte2), sle2⟩)
    (ce2 : PySem.W.codeIn K cde2 "BadPrime.__init__" = true)
    (ke2 : PySem.W.keepIn K (.ref fe2) = true)
    (ge3 : PySem.W.nsIn K mainGlobals "BadSizes" = some (some (.ref Ce3)))
    (gae3 : PySem.W.findIn K (.ref Ce3) "__getattribute__" = some (some (.builtin "BaseException.__getattribute__")))
    (gge3 : PySem.W.findIn K (.ref Ce3) "__getattr__" = some none)
    (exe3 : PySem.W.subIn K (.ref Ce3) (.type "BaseException") = some true)
    (tye3 : PySem.W.typeIn K (.ref Ce3) = some (.type "type"))
    (kce3 : PySem.W.keepIn K (.ref Ce3) = true)
    (hde3 : PySem.W.hasDictIn K Ce3 = true)
    (ise3 : PySem.W.isClsIn K Ce3 = true)
    (cle3 : PySem.W.findIn K (.ref Ce3) "__class__" = some (some (.builtin "object.__class__")))
    (moe3 : PySem.W.mroIn K Ce3 (.type "object") = some true)
    (xLe3 : K.lookup Ce3 = some (excClassObj nme3 qe3 Ce3 Ne3 bse3 bme3 true sne3 sube3 abe3 cole3 dde3 m0e3 m1e3 m2e3 m3e3 m5e3 "ValueError.__new__"))
    (xve3 : PySem.HandSPX.refsVE bme3 = true)
    (sae3 : PySem.W.findIn K (.ref Ce3) "__setattr__" = some (some (.builtin "object.__setattr__")))
    (iCe3 : PySem.W.findIn K (.ref Ce3) "__init__" = some (some (.ref fe3)))
    (tIe3 : PySem.W.typeIn K (.ref fe3) = some (.type "function"))
    (le3 : K.lookup fe3 = some ⟨oce3, ode3, .func (PySem.W.fnOf "__init__" "BadSizes.__init__" (defArgs i_sizes) (defBody i_sizes) (defScope i_sizes) .none kVe3 dce3 pme3 ane3 cde3 cte3), sle3⟩)
    (ce3 : PySem.W.codeIn K cde3 "BadSizes.__init__" = true)
    (ke3 : PySem.W.keepIn K (.ref fe3) = true)
    (go0 : PySem.W.nsIn K mainGlobals "Frac" = some (some (.ref Co0)))
    (pgo0 : PySem.W.plainGet K Co0 Str.empty = true)
    (hdo0 : PySem.W.hasDictIn K Co0 = true)
    (poo0 : PySem.W.plainOver K Co0 = true)
    (sao0 : PySem.W.findIn K (.ref Co0) "__setattr__" = some (some (.builtin "object.__setattr__")))
    (sfo0 : PySem.W.selfFirst K Co0 = true)
    (i1o0 : PySem.W.subIn K (.type "int") (.ref Co0) = some false)
    (i2o0 : PySem.W.subIn K (.ref Co0) (.type "int") = some false)
    (s1o0 : PySem.W.subIn K (.type "str") (.ref Co0) = some false)
    (obo0 : PySem.W.subIn K (.ref Co0) (.type "object") = some true)
    (clo0 : PySem.W.findIn K (.ref Co0) "__class__" = some (some (.builtin "object.__class__")))
    (moo0 : PySem.W.mroIn K Co0 (.type "object") = some true)
    (iso0 : PySem.W.isClsIn K Co0 = true)
    (tyo0 : PySem.W.typeIn K (.ref Co0) = some (.type "type"))
    (mko0 : PySem.W.makesIn K Co0 = true)
    (kco0 : PySem.W.keepIn K (.ref Co0) = true)
    (go1 : PySem.W.nsIn K mainGlobals "Ground" = some (some (.ref Co1)))
    (pgo1 : PySem.W.plainGet K Co1 Str.empty = true)
    (hdo1 : PySem.W.hasDictIn K Co1 = true)
    (poo1 : PySem.W.plainOver K Co1 = true)
    (sao1 : PySem.W.findIn K (.ref Co1) "__setattr__" = some (some (.builtin "object.__setattr__")))
    (sfo1 : PySem.W.selfFirst K Co1 = true)
    (i1o1 : PySem.W.subIn K (.type "int") (.ref Co1) = some false)
    (i2o1 : PySem.W.subIn K (.ref Co1) (.type "int") = some false)
    (s1o1 : PySem.W.subIn K (.type "str") (.ref Co1) = some false)
    (obo1 : PySem.W.subIn K (.ref Co1) (.type "object") = some true)
    (clo1 : PySem.W.findIn K (.ref Co1) "__class__" = some (some (.builtin "object.__class__")))
    (moo1 : PySem.W.mroIn K Co1 (.type "object") = some true)
    (iso1 : PySem.W.isClsIn K Co1 = true)
    (tyo1 : PySem.W.typeIn K (.ref Co1) = some (.type "type"))
    (mko1 : PySem.W.makesIn K Co1 = true)
    (kco1 : PySem.W.keepIn K (.ref Co1) = true)
    (nf_cSizes_given : PySem.W.findIn K (.ref Ce3) "given" = some none)
    (nf_cSizes_wanted : PySem.W.findIn K (.ref Ce3) "wanted" = some none)
    (xm_cSizes : PySem.W.exmOne K (.ref Ce3) (.ref CycForms) = some true)
    (kt_kSizes_0 : PySem.W.kitOne K (.ref Ce3) (.ref Ce3) = some true)
    (kt_kSizes_1 : PySem.W.kitOne K (.ref Ce3) (.type "ValueError") = some true)
    (kt_kSizes_2 : PySem.W.kitOne K (.ref Ce3) (.ref CycCount) = some false)
    (nf_cWhole_integer : PySem.W.findIn K (.ref Ce1) "integer" = some none)
    (nf_cPrime_prime : PySem.W.findIn K (.ref Ce2) "prime" = some none)
    (na_nNum : PySem.W.findIn K (.ref Co0) "num" = some none)
    (na_nDen : PySem.W.findIn K (.ref Co0) "den" = some none)
    (na_nPrime : PySem.W.findIn K (.ref Co1) "prime" = some none)
    (atm_f_init : PySem.W.findIn K (.ref Co0) "__init__" = some (some (.ref fm_f_init)))
    (fnm_f_init : PySem.W.isFn K (.ref fm_f_init) = true)
    (lm_f_init : K.lookup fm_f_init = some ⟨ocm_f_init, odm_f_init, .func (PySem.W.fnOf "__init__" "Frac.__init__" (defArgs s_f_init) (defBody s_f_init) (defScope s_f_init) .none kVm_f_init dcm_f_init pmm_f_init anm_f_init cdm_f_init ctm_f_init), slm_f_init⟩)
    (cm_f_init : PySem.W.codeIn K cdm_f_init "Frac.__init__" = true)
    (km_f_init : PySem.W.keepIn K (.ref fm_f_init) = true)
    (atm_f_add : PySem.W.findIn K (.ref Co0) "__add__" = some (some (.ref fm_f_add)))
    (fnm_f_add : PySem.W.isFn K (.ref fm_f_add) = true)
    (lm_f_add : K.lookup fm_f_add = some ⟨ocm_f_add, odm_f_add, .func (PySem.W.fnOf "__add__" "Frac.__add__" (defArgs s_f_add) (defBody s_f_add) (defScope s_f_add) .none kVm_f_add dcm_f_add pmm_f_add anm_f_add cdm_f_add ctm_f_add), slm_f_add⟩)
    (cm_f_add : PySem.W.codeIn K cdm_f_add "Frac.__add__" = true)
    (km_f_add : PySem.W.keepIn K (.ref fm_f_add) = true)
    (atm_f_radd : PySem.W.findIn K (.ref Co0) "__radd__" = some (some (.ref fm_f_radd)))
    (fnm_f_radd : PySem.W.isFn K (.ref fm_f_radd) = true)
    (lm_f_radd : K.lookup fm_f_radd = some ⟨ocm_f_radd, odm_f_radd, .func (PySem.W.fnOf "__radd__" "Frac.__radd__" (defArgs s_f_radd) (defBody s_f_radd) (defScope s_f_radd) .none kVm_f_radd dcm_f_radd pmm_f_radd anm_f_radd cdm_f_radd ctm_f_radd), slm_f_radd⟩)
    (cm_f_radd : PySem.W.codeIn K cdm_f_radd "Frac.__radd__" = true)
    (km_f_radd : PySem.W.keepIn K (.ref fm_f_radd) = true)
    (atm_f_sub : PySem.W.findIn K (.ref Co0) "__sub__" = some (some (.ref fm_f_sub)))
    (fnm_f_sub : PySem.W.isFn K (.ref fm_f_sub) = true)
    (lm_f_sub : K.lookup fm_f_sub = some ⟨ocm_f_sub, odm_f_sub, .func (PySem.W.fnOf "__sub__" "Frac.__sub__" (defArgs s_f_sub) (defBody s_f_sub) (defScope s_f_sub) .none kVm_f_sub dcm_f_sub pmm_f_sub anm_f_sub cdm_f_sub ctm_f_sub), slm_f_sub⟩)
    (cm_f_sub : PySem.W.codeIn K cdm_f_sub "Frac.__sub__" = true)
    (km_f_sub : PySem.W.keepIn K (.ref fm_f_sub) = true)
    (atm_f_rsub : PySem.W.findIn K (.ref Co0) "__rsub__" = some (some (.ref fm_f_rsub)))
    (fnm_f_rsub : PySem.W.isFn K (.ref fm_f_rsub) = true)
    (lm_f_rsub : K.lookup fm_f_rsub = some ⟨ocm_f_rsub, odm_f_rsub, .func (PySem.W.fnOf "__rsub__" "Frac.__rsub__" (defArgs s_f_rsub) (defBody s_f_rsub) (defScope s_f_rsub) .none kVm_f_rsub dcm_f_rsub pmm_f_rsub anm_f_rsub cdm_f_rsub ctm_f_rsub), slm_f_rsub⟩)
    (cm_f_rsub : PySem.W.codeIn K cdm_f_rsub "Frac.__rsub__" = true)
    (km_f_rsub : PySem.W.keepIn K (.ref fm_f_rsub) = true)
    (atm_f_mul : PySem.W.findIn K (.ref Co0) "__mul__" = some (some (.ref fm_f_mul)))
    (fnm_f_mul : PySem.W.isFn K (.ref fm_f_mul) = true)
    (lm_f_mul : K.lookup fm_f_mul = some ⟨ocm_f_mul, odm_f_mul, .func (PySem.W.fnOf "__mul__" "Frac.__mul__" (defArgs s_f_mul) (defBody s_f_mul) (defScope s_f_mul) .none kVm_f_mul dcm_f_mul pmm_f_mul anm_f_mul cdm_f_mul ctm_f_mul), slm_f_mul⟩)
    (cm_f_mul : PySem.W.codeIn K cdm_f_mul "Frac.__mul__" = true)
    (km_f_mul : PySem.W.keepIn K (.ref fm_f_mul) = true)
    (atm_f_rmul : PySem.W.findIn K (.ref Co0) "__rmul__" = some (some (.ref fm_f_rmul)))
    (fnm_f_rmul : PySem.W.isFn K (.ref fm_f_rmul) = true)
    (lm_f_rmul : K.lookup fm_f_rmul = some ⟨ocm_f_rmul, odm_f_rmul, .func (PySem.W.fnOf "__rmul__" "Frac.__rmul__" (defArgs s_f_rmul) (defBody s_f_rmul) (defScope s_f_rmul) .none kVm_f_rmul dcm_f_rmul pmm_f_rmul anm_f_rmul cdm_f_rmul ctm_f_rmul), slm_f_rmul⟩)
    (cm_f_rmul : PySem.W.codeIn K cdm_f_rmul "Frac.__rmul__" = true)
    (km_f_rmul : PySem.W.keepIn K (.ref fm_f_rmul) = true)
    (atm_f_neg : PySem.W.findIn K (.ref Co0) "__neg__" = some (some (.ref fm_f_neg)))
    (fnm_f_neg : PySem.W.isFn K (.ref fm_f_neg) = true)
    (lm_f_neg : K.lookup fm_f_neg = some ⟨ocm_f_neg, odm_f_neg, .func (PySem.W.fnOf "__neg__" "Frac.__neg__" (defArgs s_f_neg) (defBody s_f_neg) (defScope s_f_neg) .none kVm_f_neg dcm_f_neg pmm_f_neg anm_f_neg cdm_f_neg ctm_f_neg), slm_f_neg⟩)
    (cm_f_neg : PySem.W.codeIn K cdm_f_neg "Frac.__neg__" = true)
    (km_f_neg : PySem.W.keepIn K (.ref fm_f_neg) = true)
    (atm_f_eq : PySem.W.findIn K (.ref Co0) "__eq__" = some (some (.ref fm_f_eq)))
    (fnm_f_eq : PySem.W.isFn K (.ref fm_f_eq) = true)
    (lm_f_eq : K.lookup fm_f_eq = some ⟨ocm_f_eq, odm_f_eq, .func (PySem.W.fnOf "__eq__" "Frac.__eq__" (defArgs s_f_eq) (defBody s_f_eq) (defScope s_f_eq) .none kVm_f_eq dcm_f_eq pmm_f_eq anm_f_eq cdm_f_eq ctm_f_eq), slm_f_eq⟩)
    (cm_f_eq : PySem.W.codeIn K cdm_f_eq "Frac.__eq__" = true)
    (km_f_eq : PySem.W.keepIn K (.ref fm_f_eq) = true)
    (atm_g_init : PySem.W.findIn K (.ref Co1) "__init__" = some (some (.ref fm_g_init)))
    (fnm_g_init : PySem.W.isFn K (.ref fm_g_init) = true)
    (lm_g_init : K.lookup fm_g_init = some ⟨ocm_g_init, odm_g_init, .func (PySem.W.fnOf "__init__" "Ground.__init__" (defArgs s_g_init) (defBody s_g_init) (defScope s_g_init) (.ref Tm_g_init) kVm_g_init dcm_g_init pmm_g_init anm_g_init cdm_g_init ctm_g_init), slm_g_init⟩)
    (cm_g_init : PySem.W.codeIn K cdm_g_init "Ground.__init__" = true)
    (km_g_init : PySem.W.keepIn K (.ref fm_g_init) = true)
    (lTm_g_init : K.lookup Tm_g_init = some ⟨tcm_g_init, tdm_g_init, .seq #[.int 0 tkm_g_init] tnm_g_init, tsm_g_init⟩)
    (daoAdd : PySem.W.findIn K (.ref Co0) (PySem.dunder "add") = some (some (.ref fm_f_add)))
    (dboAdd : PySem.W.findIn K (.ref Co0) (PySem.dunderR "add") = some (some (.ref fm_f_radd)))
    (dcoAdd : PySem.W.findIn K (.type "int") (PySem.dunder "add") = some iboAdd)
    (ddoAdd : PySem.W.findIn K (.type "int") (PySem.dunderR "add") = some iroAdd)
    (daoSub : PySem.W.findIn K (.ref Co0) (PySem.dunder "sub") = some (some (.ref fm_f_sub)))
    (dboSub : PySem.W.findIn K (.ref Co0) (PySem.dunderR "sub") = some (some (.ref fm_f_rsub)))
    (dcoSub : PySem.W.findIn K (.type "int") (PySem.dunder "sub") = some iboSub)
    (ddoSub : PySem.W.findIn K (.type "int") (PySem.dunderR "sub") = some iroSub)
    (daoMul : PySem.W.findIn K (.ref Co0) (PySem.dunder "mul") = some (some (.ref fm_f_mul)))
    (dboMul : PySem.W.findIn K (.ref Co0) (PySem.dunderR "mul") = some (some (.ref fm_f_rmul)))
    (dcoMul : PySem.W.findIn K (.type "int") (PySem.dunder "mul") = some iboMul)
    (ddoMul : PySem.W.findIn K (.type "int") (PySem.dunderR "mul") = some iroMul)
    (nefEq : PySem.W.findIn K (.ref Co0) "__ne__" = some (some (.builtin "object.__ne__")))
    (a0 : PySem.W.nsIn K mainGlobals "ratio" = some (some (.ref f0)))
    (l0 : K.lookup f0 = some ⟨oc0, od0, .func (PySem.W.fnOf "ratio" "ratio" (defArgs s_ratio) (defBody s_ratio) (defScope s_ratio) .none kV0 dc0 pm0 an0 cd0 ct0), sl0⟩)
    (c0 : PySem.W.codeIn K cd0 "ratio" = true)
    (k0 : PySem.W.keepIn K (.ref f0) = true)
    (a1 : PySem.W.nsIn K mainGlobals "divided" = some (some (.ref f1)))
    (l1 : K.lookup f1 = some ⟨oc1, od1, .func (PySem.W.fnOf "divided" "divided" (defArgs s_divided) (defBody s_divided) (defScope s_divided) .none kV1 dc1 pm1 an1 cd1 ct1), sl1⟩)
    (c1 : PySem.W.codeIn K cd1 "divided" = true)
    (k1 : PySem.W.keepIn K (.ref f1) = true)
    (a2 : PySem.W.nsIn K mainGlobals "pieces" = some (some (.ref f2)))
    (l2 : K.lookup f2 = some ⟨oc2, od2, .func (PySem.W.fnOf "pieces" "pieces" (defArgs s_pieces) (defBody s_pieces) (defScope s_pieces) .none kV2 dc2 pm2 an2 cd2 ct2), sl2⟩)
    (c2 : PySem.W.codeIn K cd2 "pieces" = true)
    (k2 : PySem.W.keepIn K (.ref f2) = true)
    (a3 : PySem.W.nsIn K mainGlobals "in_form" = some (some (.ref f3)))
    (l3 : K.lookup f3 = some ⟨oc3, od3, .func (PySem.W.fnOf "in_form" "in_form" (defArgs s_in_form) (defBody s_in_form) (defScope s_in_form) .none kV3 dc3 pm3 an3 cd3 ct3), sl3⟩)
    (c3 : PySem.W.codeIn K cd3 "in_form" = true)
    (k3 : PySem.W.keepIn K (.ref f3) = true)
    (a4 : PySem.W.nsIn K mainGlobals "plain_sum" = some (some (.ref f4)))
    (l4 : K.lookup f4 = some ⟨oc4, od4, .func (PySem.W.fnOf "plain_sum" "plain_sum" (defArgs s_plain_sum) (defBody s_plain_sum) (defScope s_plain_sum) .none kV4 dc4 pm4 an4 cd4 ct4), sl4⟩)
    (c4 : PySem.W.codeIn K cd4 "plain_sum" = true)
    (k4 : PySem.W.keepIn K (.ref f4) = true)
    (a5 : PySem.W.nsIn K mainGlobals "plain_times" = some (some (.ref f5)))
    (l5 : K.lookup f5 = some ⟨oc5, od5, .func (PySem.W.fnOf "plain_times" "plain_times" (defArgs s_plain_times) (defBody s_plain_times) (defScope s_plain_times) .none kV5 dc5 pm5 an5 cd5 ct5), sl5⟩)
    (c5 : PySem.W.codeIn K cd5 "plain_times" = true)
    (k5 : PySem.W.keepIn K (.ref f5) = true)
    (a6 : PySem.W.nsIn K mainGlobals "plain_over" = some (some (.ref f6)))
    (l6 : K.lookup f6 = some ⟨oc6, od6, .func (PySem.W.fnOf "plain_over" "plain_over" (defArgs s_plain_over) (defBody s_plain_over) (defScope s_plain_over) .none kV6 dc6 pm6 an6 cd6 ct6), sl6⟩)
    (c6 : PySem.W.codeIn K cd6 "plain_over" = true)
    (k6 : PySem.W.keepIn K (.ref f6) = true)
    (a7 : PySem.W.nsIn K mainGlobals "plain_power" = some (some (.ref f7)))
    (l7 : K.lookup f7 = some ⟨oc7, od7, .func (PySem.W.fnOf "plain_power" "plain_power" (defArgs s_plain_power) (defBody s_plain_power) (defScope s_plain_power) .none kV7 dc7 pm7 an7 cd7 ct7), sl7⟩)
    (c7 : PySem.W.codeIn K cd7 "plain_power" = true)
    (k7 : PySem.W.keepIn K (.ref f7) = true)
    (a8 : PySem.W.nsIn K mainGlobals "first_place" = some (some (.ref f8)))
    (l8 : K.lookup f8 = some ⟨oc8, od8, .func (PySem.W.fnOf "first_place" "first_place" (defArgs s_first_place) (defBody s_first_place) (defScope s_first_place) .none kV8 dc8 pm8 an8 cd8 ct8), sl8⟩)
    (c8 : PySem.W.codeIn K cd8 "first_place" = true)
    (k8 : PySem.W.keepIn K (.ref f8) = true)
    (a9 : PySem.W.nsIn K mainGlobals "whole_numbers" = some (some (.ref f9)))
    (l9 : K.lookup f9 = some ⟨oc9, od9, .func (PySem.W.fnOf "whole_numbers" "whole_numbers" (defArgs s_whole) (defBody s_whole) (defScope s_whole) .none kV9 dc9 pm9 an9 cd9 ct9), sl9⟩)
    (c9 : PySem.W.codeIn K cd9 "whole_numbers" = true)
    (k9 : PySem.W.keepIn K (.ref f9) = true)
    (a10 : PySem.W.nsIn K mainGlobals "reduced_rows" = some (some (.ref f10)))
    (l10 : K.lookup f10 = some ⟨oc10, od10, .func (PySem.W.fnOf "reduced_rows" "reduced_rows" (defArgs s_reduced) (defBody s_reduced) (defScope s_reduced) .none kV10 dc10 pm10 an10 cd10 ct10), sl10⟩)
    (c10 : PySem.W.codeIn K cd10 "reduced_rows" = true)
    (k10 : PySem.W.keepIn K (.ref f10) = true)
    (a11 : PySem.W.nsIn K mainGlobals "kernel_rows" = some (some (.ref f11)))
    (l11 : K.lookup f11 = some ⟨oc11, od11, .func (PySem.W.fnOf "kernel_rows" "kernel_rows" (defArgs s_kernel) (defBody s_kernel) (defScope s_kernel) .none kV11 dc11 pm11 an11 cd11 ct11), sl11⟩)
    (c11 : PySem.W.codeIn K cd11 "kernel_rows" = true)
    (k11 : PySem.W.keepIn K (.ref f11) = true)
    (a12 : PySem.W.nsIn K mainGlobals "_times_whole" = some (some (.ref f12)))
    (l12 : K.lookup f12 = some ⟨oc12, od12, .func (PySem.W.fnOf "_times_whole" "_times_whole" (defArgs s_times_whole) (defBody s_times_whole) (defScope s_times_whole) .none kV12 dc12 pm12 an12 cd12 ct12), sl12⟩)
    (c12 : PySem.W.codeIn K cd12 "_times_whole" = true)
    (k12 : PySem.W.keepIn K (.ref f12) = true)
    (a13 : PySem.W.nsIn K mainGlobals "_primitive" = some (some (.ref f13)))
    (l13 : K.lookup f13 = some ⟨oc13, od13, .func (PySem.W.fnOf "_primitive" "_primitive" (defArgs s_primitive) (defBody s_primitive) (defScope s_primitive) .none kV13 dc13 pm13 an13 cd13 ct13), sl13⟩)
    (c13 : PySem.W.codeIn K cd13 "_primitive" = true)
    (k13 : PySem.W.keepIn K (.ref f13) = true)
    (a14 : PySem.W.nsIn K mainGlobals "_cleared_at" = some (some (.ref f14)))
    (l14 : K.lookup f14 = some ⟨oc14, od14, .func (PySem.W.fnOf "_cleared_at" "_cleared_at" (defArgs s_cleared) (defBody s_cleared) (defScope s_cleared) .none kV14 dc14 pm14 an14 cd14 ct14), sl14⟩)
    (c14 : PySem.W.codeIn K cd14 "_cleared_at" = true)
    (k14 : PySem.W.keepIn K (.ref f14) = true)
    (a15 : PySem.W.nsIn K mainGlobals "_led_by_one" = some (some (.ref f15)))
    (l15 : K.lookup f15 = some ⟨oc15, od15, .func (PySem.W.fnOf "_led_by_one" "_led_by_one" (defArgs s_led) (defBody s_led) (defScope s_led) .none kV15 dc15 pm15 an15 cd15 ct15), sl15⟩)
    (c15 : PySem.W.codeIn K cd15 "_led_by_one" = true)
    (k15 : PySem.W.keepIn K (.ref f15) = true)
    (a16 : PySem.W.nsIn K mainGlobals "_finished" = some (some (.ref f16)))
    (l16 : K.lookup f16 = some ⟨oc16, od16, .func (PySem.W.fnOf "_finished" "_finished" (defArgs s_finished) (defBody s_finished) (defScope s_finished) .none kV16 dc16 pm16 an16 cd16 ct16), sl16⟩)
    (c16 : PySem.W.codeIn K cd16 "_finished" = true)
    (k16 : PySem.W.keepIn K (.ref f16) = true)
    (a17 : PySem.W.nsIn K mainGlobals "dot_product" = some (some (.ref f17)))
    (l17 : K.lookup f17 = some ⟨oc17, od17, .func (PySem.W.fnOf "dot_product" "dot_product" (defArgs s_dot_product) (defBody s_dot_product) (defScope s_dot_product) .none kV17 dc17 pm17 an17 cd17 ct17), sl17⟩)
    (c17 : PySem.W.codeIn K cd17 "dot_product" = true)
    (k17 : PySem.W.keepIn K (.ref f17) = true)
    (a18 : PySem.W.nsIn K mainGlobals "solved" = some (some (.ref f18)))
    (l18 : K.lookup f18 = some ⟨oc18, od18, .func (PySem.W.fnOf "solved" "solved" (defArgs s_solved) (defBody s_solved) (defScope s_solved) .none kV18 dc18 pm18 an18 cd18 ct18), sl18⟩)
    (c18 : PySem.W.codeIn K cd18 "solved" = true)
    (k18 : PySem.W.keepIn K (.ref f18) = true)
    (a19 : PySem.W.nsIn K mainGlobals "_barring" = some (some (.ref f19)))
    (l19 : K.lookup f19 = some ⟨oc19, od19, .func (PySem.W.fnOf "_barring" "_barring" (defArgs s_barring) (defBody s_barring) (defScope s_barring) .none kV19 dc19 pm19 an19 cd19 ct19), sl19⟩)
    (c19 : PySem.W.codeIn K cd19 "_barring" = true)
    (k19 : PySem.W.keepIn K (.ref f19) = true)
    (a20 : PySem.W.nsIn K mainGlobals "_law_pool" = some (some (.ref f20)))
    (l20 : K.lookup f20 = some ⟨oc20, od20, .func (PySem.W.fnOf "_law_pool" "_law_pool" (defArgs s_pool) (defBody s_pool) (defScope s_pool) .none kV20 dc20 pm20 an20 cd20 ct20), sl20⟩)
    (c20 : PySem.W.codeIn K cd20 "_law_pool" = true)
    (k20 : PySem.W.keepIn K (.ref f20) = true)
    (a21 : PySem.W.nsIn K mainGlobals "_law_draw" = some (some (.ref f21)))
    (l21 : K.lookup f21 = some ⟨oc21, od21, .func (PySem.W.fnOf "_law_draw" "_law_draw" (defArgs s_draw) (defBody s_draw) (defScope s_draw) .none kV21 dc21 pm21 an21 cd21 ct21), sl21⟩)
    (c21 : PySem.W.codeIn K cd21 "_law_draw" = true)
    (k21 : PySem.W.keepIn K (.ref f21) = true)
    (a22 : PySem.W.nsIn K mainGlobals "_law_gcd" = some (some (.ref f22)))
    (l22 : K.lookup f22 = some ⟨oc22, od22, .func (PySem.W.fnOf "_law_gcd" "_law_gcd" (defArgs s_gcd) (defBody s_gcd) (defScope s_gcd) .none kV22 dc22 pm22 an22 cd22 ct22), sl22⟩)
    (c22 : PySem.W.codeIn K cd22 "_law_gcd" = true)
    (k22 : PySem.W.keepIn K (.ref f22) = true)
    (a23 : PySem.W.nsIn K mainGlobals "_law_low" = some (some (.ref f23)))
    (l23 : K.lookup f23 = some ⟨oc23, od23, .func (PySem.W.fnOf "_law_low" "_law_low" (defArgs s_low) (defBody s_low) (defScope s_low) .none kV23 dc23 pm23 an23 cd23 ct23), sl23⟩)
    (c23 : PySem.W.codeIn K cd23 "_law_low" = true)
    (k23 : PySem.W.keepIn K (.ref f23) = true)
    (a24 : PySem.W.nsIn K mainGlobals "_law_plus" = some (some (.ref f24)))
    (l24 : K.lookup f24 = some ⟨oc24, od24, .func (PySem.W.fnOf "_law_plus" "_law_plus" (defArgs s_plus) (defBody s_plus) (defScope s_plus) .none kV24 dc24 pm24 an24 cd24 ct24), sl24⟩)
    (c24 : PySem.W.codeIn K cd24 "_law_plus" = true)
    (k24 : PySem.W.keepIn K (.ref f24) = true)
    (a25 : PySem.W.nsIn K mainGlobals "_law_times" = some (some (.ref f25)))
    (l25 : K.lookup f25 = some ⟨oc25, od25, .func (PySem.W.fnOf "_law_times" "_law_times" (defArgs s_times) (defBody s_times) (defScope s_times) .none kV25 dc25 pm25 an25 cd25 ct25), sl25⟩)
    (c25 : PySem.W.codeIn K cd25 "_law_times" = true)
    (k25 : PySem.W.keepIn K (.ref f25) = true)
    (a26 : PySem.W.nsIn K mainGlobals "_law_int" = some (some (.ref f26)))
    (l26 : K.lookup f26 = some ⟨oc26, od26, .func (PySem.W.fnOf "_law_int" "_law_int" (defArgs s_int_) (defBody s_int_) (defScope s_int_) .none kV26 dc26 pm26 an26 cd26 ct26), sl26⟩)
    (c26 : PySem.W.codeIn K cd26 "_law_int" = true)
    (k26 : PySem.W.keepIn K (.ref f26) = true)
    (a27 : PySem.W.nsIn K mainGlobals "_law_hand" = some (some (.ref f27)))
    (l27 : K.lookup f27 = some ⟨oc27, od27, .func (PySem.W.fnOf "_law_hand" "_law_hand" (defArgs s_hand) (defBody s_hand) (defScope s_hand) .none kV27 dc27 pm27 an27 cd27 ct27), sl27⟩)
    (c27 : PySem.W.codeIn K cd27 "_law_hand" = true)
    (k27 : PySem.W.keepIn K (.ref f27) = true)
    (a28 : PySem.W.nsIn K mainGlobals "_law_ask" = some (some (.ref f28)))
    (l28 : K.lookup f28 = some ⟨oc28, od28, .func (PySem.W.fnOf "_law_ask" "_law_ask" (defArgs s_ask) (defBody s_ask) (defScope s_ask) .none kV28 dc28 pm28 an28 cd28 ct28), sl28⟩)
    (c28 : PySem.W.codeIn K cd28 "_law_ask" = true)
    (k28 : PySem.W.keepIn K (.ref f28) = true)
    (a29 : PySem.W.nsIn K mainGlobals "_law_read" = some (some (.ref f29)))
    (l29 : K.lookup f29 = some ⟨oc29, od29, .func (PySem.W.fnOf "_law_read" "_law_read" (defArgs s_read) (defBody s_read) (defScope s_read) .none kV29 dc29 pm29 an29 cd29 ct29), sl29⟩)
    (c29 : PySem.W.codeIn K cd29 "_law_read" = true)
    (k29 : PySem.W.keepIn K (.ref f29) = true)
    (a30 : PySem.W.nsIn K mainGlobals "_law_less" = some (some (.ref f30)))
    (l30 : K.lookup f30 = some ⟨oc30, od30, .func (PySem.W.fnOf "_law_less" "_law_less" (defArgs s_less) (defBody s_less) (defScope s_less) .none kV30 dc30 pm30 an30 cd30 ct30), sl30⟩)
    (c30 : PySem.W.codeIn K cd30 "_law_less" = true)
    (k30 : PySem.W.keepIn K (.ref f30) = true)
    (a31 : PySem.W.nsIn K mainGlobals "_law_leads" = some (some (.ref f31)))
    (l31 : K.lookup f31 = some ⟨oc31, od31, .func (PySem.W.fnOf "_law_leads" "_law_leads" (defArgs s_leads) (defBody s_leads) (defScope s_leads) .none kV31 dc31 pm31 an31 cd31 ct31), sl31⟩)
    (c31 : PySem.W.codeIn K cd31 "_law_leads" = true)
    (k31 : PySem.W.keepIn K (.ref f31) = true)
    (a32 : PySem.W.nsIn K mainGlobals "_law_within" = some (some (.ref f32)))
    (l32 : K.lookup f32 = some ⟨oc32, od32, .func (PySem.W.fnOf "_law_within" "_law_within" (defArgs s_within) (defBody s_within) (defScope s_within) .none kV32 dc32 pm32 an32 cd32 ct32), sl32⟩)
    (c32 : PySem.W.codeIn K cd32 "_law_within" = true)
    (k32 : PySem.W.keepIn K (.ref f32) = true)
    (a33 : PySem.W.nsIn K mainGlobals "_law_dot" = some (some (.ref f33)))
    (l33 : K.lookup f33 = some ⟨oc33, od33, .func (PySem.W.fnOf "_law_dot" "_law_dot" (defArgs s_dot) (defBody s_dot) (defScope s_dot) .none kV33 dc33 pm33 an33 cd33 ct33), sl33⟩)
    (c33 : PySem.W.codeIn K cd33 "_law_dot" = true)
    (k33 : PySem.W.keepIn K (.ref f33) = true)
    (a34 : PySem.W.nsIn K mainGlobals "_law_handed" = some (some (.ref f34)))
    (l34 : K.lookup f34 = some ⟨oc34, od34, .func (PySem.W.fnOf "_law_handed" "_law_handed" (defArgs s_handed) (defBody s_handed) (defScope s_handed) .none kV34 dc34 pm34 an34 cd34 ct34), sl34⟩)
    (c34 : PySem.W.codeIn K cd34 "_law_handed" = true)
    (k34 : PySem.W.keepIn K (.ref f34) = true)
    (a35 : PySem.W.nsIn K mainGlobals "_law_right" = some (some (.ref f35)))
    (l35 : K.lookup f35 = some ⟨oc35, od35, .func (PySem.W.fnOf "_law_right" "_law_right" (defArgs s_right) (defBody s_right) (defScope s_right) .none kV35 dc35 pm35 an35 cd35 ct35), sl35⟩)
    (c35 : PySem.W.codeIn K cd35 "_law_right" = true)
    (k35 : PySem.W.keepIn K (.ref f35) = true)
    (a36 : PySem.W.nsIn K mainGlobals "_law_number" = some (some (.ref f36)))
    (l36 : K.lookup f36 = some ⟨oc36, od36, .func (PySem.W.fnOf "_law_number" "_law_number" (defArgs s_number) (defBody s_number) (defScope s_number) .none kV36 dc36 pm36 an36 cd36 ct36), sl36⟩)
    (c36 : PySem.W.codeIn K cd36 "_law_number" = true)
    (k36 : PySem.W.keepIn K (.ref f36) = true)
    (a37 : PySem.W.nsIn K mainGlobals "_law_combined" = some (some (.ref f37)))
    (l37 : K.lookup f37 = some ⟨oc37, od37, .func (PySem.W.fnOf "_law_combined" "_law_combined" (defArgs s_combined) (defBody s_combined) (defScope s_combined) .none kV37 dc37 pm37 an37 cd37 ct37), sl37⟩)
    (c37 : PySem.W.codeIn K cd37 "_law_combined" = true)
    (k37 : PySem.W.keepIn K (.ref f37) = true)
    (a38 : PySem.W.nsIn K mainGlobals "_law_drawn" = some (some (.ref f38)))
    (l38 : K.lookup f38 = some ⟨oc38, od38, .func (PySem.W.fnOf "_law_drawn" "_law_drawn" (defArgs s_drawn) (defBody s_drawn) (defScope s_drawn) .none kV38 dc38 pm38 an38 cd38 ct38), sl38⟩)
    (c38 : PySem.W.codeIn K cd38 "_law_drawn" = true)
    (k38 : PySem.W.keepIn K (.ref f38) = true)
    (a39 : PySem.W.nsIn K mainGlobals "_law_bent" = some (some (.ref f39)))
    (l39 : K.lookup f39 = some ⟨oc39, od39, .func (PySem.W.fnOf "_law_bent" "_law_bent" (defArgs s_bent) (defBody s_bent) (defScope s_bent) .none kV39 dc39 pm39 an39 cd39 ct39), sl39⟩)
    (c39 : PySem.W.codeIn K cd39 "_law_bent" = true)
    (k39 : PySem.W.keepIn K (.ref f39) = true)
    (a40 : PySem.W.nsIn K mainGlobals "law" = some (some (.ref f40)))
    (l40 : K.lookup f40 = some ⟨oc40, od40, .func (PySem.W.fnOf "law" "law" (defArgs s_law) (defBody s_law) (defScope s_law) .none kV40 dc40 pm40 an40 cd40 ct40), sl40⟩)
    (c40 : PySem.W.codeIn K cd40 "law" = true)
    (k40 : PySem.W.keepIn K (.ref f40) = true)
    (gPRIMES : PySem.W.nsIn K mainGlobals "PRIMES" = some (some (.ref TPPRIMES)))
    (lPRIMES : K.lookup TPPRIMES = some ⟨.type "tuple", pdPRIMES, .seq #[.int 2 ptPRIMES0, .int 3 ptPRIMES1, .int 5 ptPRIMES2, .int 7 ptPRIMES3, .int 11 ptPRIMES4, .int 13 ptPRIMES5, .int 17 ptPRIMES6, .int 19 ptPRIMES7, .int 23 ptPRIMES8, .int 29 ptPRIMES9, .int 31 ptPRIMES10] pnPRIMES, psPRIMES⟩)
    (b_gcd : PySem.W.nsIn K mainGlobals "gcd" = some (some (.builtin "math.gcd")))
    (b_lcm : PySem.W.nsIn K mainGlobals "lcm" = some (some (.builtin "math.lcm")))
    (z_len : PySem.W.nsIn K mainGlobals "len" = some none)
    (z_range : PySem.W.nsIn K mainGlobals "range" = some none)
    (z_int : PySem.W.nsIn K mainGlobals "int" = some none)
    (z_bool : PySem.W.nsIn K mainGlobals "bool" = some none)
    (z_list : PySem.W.nsIn K mainGlobals "list" = some none)
    (z_tuple : PySem.W.nsIn K mainGlobals "tuple" = some none)
    (z_sum : PySem.W.nsIn K mainGlobals "sum" = some none)
    (z_all : PySem.W.nsIn K mainGlobals "all" = some none)
    (z_min : PySem.W.nsIn K mainGlobals "min" = some none)
    (z_max : PySem.W.nsIn K mainGlobals "max" = some none)
    (z_isinstance : PySem.W.nsIn K mainGlobals "isinstance" = some none)
    (z_ValueError : PySem.W.nsIn K mainGlobals "ValueError" = some none)
    (z_str : PySem.W.nsIn K mainGlobals "str" = some none)
    (z_abs : PySem.W.nsIn K mainGlobals "abs" = some none)
    (z_enumerate : PySem.W.nsIn K mainGlobals "enumerate" = some none)
    (z_zip : PySem.W.nsIn K mainGlobals "zip" = some none)
    (z_sorted : PySem.W.nsIn K mainGlobals "sorted" = some none) :
    ∃ fd : FuncData, (∀ (s : Shared) (v : Value), BindsTo s fd ⟨[v], []⟩ [("script", v)]) ∧ ∀ base : Heap, K.In base → base.Ns mainGlobals mg → FnOk l.prog w K mg base CX0 20 fa fd ["script"] (sp_law K) := by
  have e := hfa.symm.trans (PySem.W.mg_of X G a40)
  cases e
  let T : Tx K mg := {
    cForms := ⟨CycForms, PySem.W.mg_of X G gycForms⟩,
    cCount := ⟨CycCount, PySem.W.mg_of X G gycCount⟩,
    cDiv := ⟨Ce0, PySem.W.mg_of X G ge0, qe0, kce0, exe0, tye0, ⟨ise0, gae0, gge0, exe0, hde0, cle0, spG, tkG, moe0⟩⟩,
    cWhole := ⟨Ce1, fe1, _, PySem.W.mg_of X G ge1, ⟨⟨_, _, _, _, _, _, _, _, _, _, _, _, _, _, _, xLe1, xve1⟩, sae1, exe1, tye1, kce1⟩, ⟨ise1, gae1, gge1, exe1, hde1, cle1, spG, tkG, moe1⟩, iCe1, tIe1, (fun_mk (st := i_whole) le1 ce1 ke1), ((fun_mk (st := i_whole) le1 ce1 ke1).binds (ps := ["self", "integer"]) fun _ _ _ _ _ _ us hl => match us, hl with | [_, _], _ => rfl)⟩,
    cPrime := ⟨Ce2, fe2, _, PySem.W.mg_of X G ge2, ⟨⟨_, _, _, _, _, _, _, _, _, _, _, _, _, _, _, xLe2, xve2⟩, sae2, exe2, tye2, kce2⟩, ⟨ise2, gae2, gge2, exe2, hde2, cle2, spG, tkG, moe2⟩, iCe2, tIe2, (fun_mk (st := i_prime) le2 ce2 ke2), ((fun_mk (st := i_prime) le2 ce2 ke2).binds (ps := ["self", "prime"]) fun _ _ _ _ _ _ us hl => match us, hl with | [_, _], _ => rfl)⟩,
    cSizes := ⟨Ce3, fe3, _, PySem.W.mg_of X G ge3, ⟨⟨_, _, _, _, _, _, _, _, _, _, _, _, _, _, _, xLe3, xve3⟩, sae3, exe3, tye3, kce3⟩, ⟨ise3, gae3, gge3, exe3, hde3, cle3, spG, tkG, moe3⟩, iCe3, tIe3, (fun_mk (st := i_sizes) le3 ce3 ke3), ((fun_mk (st := i_sizes) le3 ce3 ke3).binds (ps := ["self", "given", "wanted"]) fun _ _ _ _ _ _ us hl => match us, hl with | [_, _, _], _ => rfl)⟩,
    frac := ⟨Co0, PySem.W.mg_of X G go0, ⟨pgo0, hdo0, poo0, sao0⟩, ⟨sfo0, i1o0, i2o0, s1o0, obo0⟩, clo0, spG, tkG, moo0⟩,
    ground := ⟨Co1, PySem.W.mg_of X G go1, ⟨pgo1, hdo1, poo1, sao1⟩, ⟨sfo1, i1o1, i2o1, s1o1, obo1⟩, clo1, spG, tkG, moo1⟩,
    fld := fun D hD n hf => by
      simp only [List.mem_cons, List.not_mem_nil, or_false] at hD hf
      rcases hD with rfl <;> rcases hf with rfl | rfl
      · exact nf_cSizes_given
      · exact nf_cSizes_wanted,
    exm := fun D hD => by
      simp only [List.mem_cons, List.not_mem_nil, or_false] at hD
      rcases hD with rfl
      · exact xm_cSizes,
    kSizes := (Kits.cons kt_kSizes_0 (Kits.cons kt_kSizes_1 (Kits.cons kt_kSizes_2 Kits.nil))),
    noWhole := nf_cWhole_integer,
    noPrime := nf_cPrime_prime,
    nNum := na_nNum,
    nDen := na_nDen,
    nPrime := na_nPrime,
    f_init := ⟨fm_f_init, _, (fun_mk (st := s_f_init) lm_f_init cm_f_init km_f_init), ⟨atm_f_init, fnm_f_init, km_f_init⟩, ((fun_mk (st := s_f_init) lm_f_init cm_f_init km_f_init).binds (ps := ["self", "num", "den"]) fun _ _ _ _ _ _ us hl => match us, hl with | [_, _, _], _ => rfl)⟩,
    f_add := ⟨fm_f_add, _, (fun_mk (st := s_f_add) lm_f_add cm_f_add km_f_add), ⟨atm_f_add, fnm_f_add, km_f_add⟩, ((fun_mk (st := s_f_add) lm_f_add cm_f_add km_f_add).binds (ps := ["self", "other"]) fun _ _ _ _ _ _ us hl => match us, hl with | [_, _], _ => rfl)⟩,
    f_radd := ⟨fm_f_radd, _, (fun_mk (st := s_f_radd) lm_f_radd cm_f_radd km_f_radd), ⟨atm_f_radd, fnm_f_radd, km_f_radd⟩, ((fun_mk (st := s_f_radd) lm_f_radd cm_f_radd km_f_radd).binds (ps := ["self", "other"]) fun _ _ _ _ _ _ us hl => match us, hl with | [_, _], _ => rfl)⟩,
    f_sub := ⟨fm_f_sub, _, (fun_mk (st := s_f_sub) lm_f_sub cm_f_sub km_f_sub), ⟨atm_f_sub, fnm_f_sub, km_f_sub⟩, ((fun_mk (st := s_f_sub) lm_f_sub cm_f_sub km_f_sub).binds (ps := ["self", "other"]) fun _ _ _ _ _ _ us hl => match us, hl with | [_, _], _ => rfl)⟩,
    f_rsub := ⟨fm_f_rsub, _, (fun_mk (st := s_f_rsub) lm_f_rsub cm_f_rsub km_f_rsub), ⟨atm_f_rsub, fnm_f_rsub, km_f_rsub⟩, ((fun_mk (st := s_f_rsub) lm_f_rsub cm_f_rsub km_f_rsub).binds (ps := ["self", "other"]) fun _ _ _ _ _ _ us hl => match us, hl with | [_, _], _ => rfl)⟩,
    f_mul := ⟨fm_f_mul, _, (fun_mk (st := s_f_mul) lm_f_mul cm_f_mul km_f_mul), ⟨atm_f_mul, fnm_f_mul, km_f_mul⟩, ((fun_mk (st := s_f_mul) lm_f_mul cm_f_mul km_f_mul).binds (ps := ["self", "other"]) fun _ _ _ _ _ _ us hl => match us, hl with | [_, _], _ => rfl)⟩,
    f_rmul := ⟨fm_f_rmul, _, (fun_mk (st := s_f_rmul) lm_f_rmul cm_f_rmul km_f_rmul), ⟨atm_f_rmul, fnm_f_rmul, km_f_rmul⟩, ((fun_mk (st := s_f_rmul) lm_f_rmul cm_f_rmul km_f_rmul).binds (ps := ["self", "other"]) fun _ _ _ _ _ _ us hl => match us, hl with | [_, _], _ => rfl)⟩,
    f_neg := ⟨fm_f_neg, _, (fun_mk (st := s_f_neg) lm_f_neg cm_f_neg km_f_neg), ⟨atm_f_neg, fnm_f_neg, km_f_neg⟩, ((fun_mk (st := s_f_neg) lm_f_neg cm_f_neg km_f_neg).binds (ps := ["self"]) fun _ _ _ _ _ _ us hl => match us, hl with | [_], _ => rfl)⟩,
    f_eq := ⟨fm_f_eq, _, (fun_mk (st := s_f_eq) lm_f_eq cm_f_eq km_f_eq), ⟨atm_f_eq, fnm_f_eq, km_f_eq⟩, ((fun_mk (st := s_f_eq) lm_f_eq cm_f_eq km_f_eq).binds (ps := ["self", "other"]) fun _ _ _ _ _ _ us hl => match us, hl with | [_, _], _ => rfl)⟩,
    g_init := ⟨fm_g_init, _, (fund_mk (st := s_g_init) lm_g_init cm_g_init km_g_init lTm_g_init), ⟨atm_g_init, fnm_g_init, km_g_init⟩, b1_mk (fund_mk (st := s_g_init) lm_g_init cm_g_init km_g_init lTm_g_init) fun _ _ _ _ _ _ _ us its hu hi => match us, its, hu, hi with | [_, _], [_], _, _ => ⟨_, rfl, rfl⟩, FunD.binds1 (ps := ["self", "prime"]) (fund_mk (st := s_g_init) lm_g_init cm_g_init km_g_init lTm_g_init) 1 0 (fun z => nomatch z) rfl fun _ _ _ _ _ _ _ us its hu hi => match us, its, hu, hi with | [_], [_], _, _ => ⟨_, rfl, rfl⟩⟩,
    fracMk := ⟨mko0, atm_f_init, fnm_f_init, kco0⟩,
    groundMk := ⟨mko1, atm_g_init, fnm_g_init, kco1⟩,
    oAdd := ⟨daoAdd, fnm_f_add, dboAdd, fnm_f_radd, ⟨_, dcoAdd⟩, ⟨_, ddoAdd⟩⟩,
    oSub := ⟨daoSub, fnm_f_sub, dboSub, fnm_f_rsub, ⟨_, dcoSub⟩, ⟨_, ddoSub⟩⟩,
    oMul := ⟨daoMul, fnm_f_mul, dboMul, fnm_f_rmul, ⟨_, dcoMul⟩, ⟨_, ddoMul⟩⟩,
    fEq := ⟨atm_f_eq, fnm_f_eq, nefEq⟩,
    kIF := kit_bo iso0 tyo0 i1o0,
    kSF := kit_bo iso0 tyo0 s1o0,
    kFI := kit_bi (by decide +kernel) i2o0,
    kFF := kit_eq,
    ratio := ⟨f0, _, (fun_mk (st := s_ratio) l0 c0 k0), PySem.W.mg_of X G a0, ((fun_mk (st := s_ratio) l0 c0 k0).binds (ps := ["num", "den"]) fun _ _ _ _ _ _ us hl => match us, hl with | [_, _], _ => rfl)⟩,
    divided := ⟨f1, _, (fun_mk (st := s_divided) l1 c1 k1), PySem.W.mg_of X G a1, ((fun_mk (st := s_divided) l1 c1 k1).binds (ps := ["first", "second"]) fun _ _ _ _ _ _ us hl => match us, hl with | [_, _], _ => rfl)⟩,
    pieces := ⟨f2, _, (fun_mk (st := s_pieces) l2 c2 k2), PySem.W.mg_of X G a2, ((fun_mk (st := s_pieces) l2 c2 k2).binds (ps := ["number"]) fun _ _ _ _ _ _ us hl => match us, hl with | [_], _ => rfl)⟩,
    in_form := ⟨f3, _, (fun_mk (st := s_in_form) l3 c3 k3), PySem.W.mg_of X G a3, ((fun_mk (st := s_in_form) l3 c3 k3).binds (ps := ["prime", "value"]) fun _ _ _ _ _ _ us hl => match us, hl with | [_, _], _ => rfl)⟩,
    plain_sum := ⟨f4, _, (fun_mk (st := s_plain_sum) l4 c4 k4), PySem.W.mg_of X G a4, ((fun_mk (st := s_plain_sum) l4 c4 k4).binds (ps := ["prime", "first", "second"]) fun _ _ _ _ _ _ us hl => match us, hl with | [_, _, _], _ => rfl)⟩,
    plain_times := ⟨f5, _, (fun_mk (st := s_plain_times) l5 c5 k5), PySem.W.mg_of X G a5, ((fun_mk (st := s_plain_times) l5 c5 k5).binds (ps := ["prime", "first", "second"]) fun _ _ _ _ _ _ us hl => match us, hl with | [_, _, _], _ => rfl)⟩,
    plain_over := ⟨f6, _, (fun_mk (st := s_plain_over) l6 c6 k6), PySem.W.mg_of X G a6, ((fun_mk (st := s_plain_over) l6 c6 k6).binds (ps := ["prime", "first", "second"]) fun _ _ _ _ _ _ us hl => match us, hl with | [_, _, _], _ => rfl)⟩,
    plain_power := ⟨f7, _, (fun_mk (st := s_plain_power) l7 c7 k7), PySem.W.mg_of X G a7, ((fun_mk (st := s_plain_power) l7 c7 k7).binds (ps := ["prime", "number", "count"]) fun _ _ _ _ _ _ us hl => match us, hl with | [_, _, _], _ => rfl)⟩,
    first_place := ⟨f8, _, (fun_mk (st := s_first_place) l8 c8 k8), PySem.W.mg_of X G a8, ((fun_mk (st := s_first_place) l8 c8 k8).binds (ps := ["row"]) fun _ _ _ _ _ _ us hl => match us, hl with | [_], _ => rfl)⟩,
    whole := ⟨f9, _, (fun_mk (st := s_whole) l9 c9 k9), PySem.W.mg_of X G a9, ((fun_mk (st := s_whole) l9 c9 k9).binds (ps := ["numbers"]) fun _ _ _ _ _ _ us hl => match us, hl with | [_], _ => rfl)⟩,
    reduced := ⟨f10, _, (fun_mk (st := s_reduced) l10 c10 k10), PySem.W.mg_of X G a10, ((fun_mk (st := s_reduced) l10 c10 k10).binds (ps := ["ground", "width", "rows"]) fun _ _ _ _ _ _ us hl => match us, hl with | [_, _, _], _ => rfl)⟩,
    kernel := ⟨f11, _, (fun_mk (st := s_kernel) l11 c11 k11), PySem.W.mg_of X G a11, ((fun_mk (st := s_kernel) l11 c11 k11).binds (ps := ["ground", "width", "rows"]) fun _ _ _ _ _ _ us hl => match us, hl with | [_, _, _], _ => rfl)⟩,
    times_whole := ⟨f12, _, (fun_mk (st := s_times_whole) l12 c12 k12), PySem.W.mg_of X G a12, ((fun_mk (st := s_times_whole) l12 c12 k12).binds (ps := ["number", "factor"]) fun _ _ _ _ _ _ us hl => match us, hl with | [_, _], _ => rfl)⟩,
    primitive := ⟨f13, _, (fun_mk (st := s_primitive) l13 c13 k13), PySem.W.mg_of X G a13, ((fun_mk (st := s_primitive) l13 c13 k13).binds (ps := ["row"]) fun _ _ _ _ _ _ us hl => match us, hl with | [_], _ => rfl)⟩,
    cleared := ⟨f14, _, (fun_mk (st := s_cleared) l14 c14 k14), PySem.W.mg_of X G a14, ((fun_mk (st := s_cleared) l14 c14 k14).binds (ps := ["prime", "row", "held", "place"]) fun _ _ _ _ _ _ us hl => match us, hl with | [_, _, _, _], _ => rfl)⟩,
    led := ⟨f15, _, (fun_mk (st := s_led) l15 c15 k15), PySem.W.mg_of X G a15, ((fun_mk (st := s_led) l15 c15 k15).binds (ps := ["prime", "row", "lead"]) fun _ _ _ _ _ _ us hl => match us, hl with | [_, _, _], _ => rfl)⟩,
    finished := ⟨f16, _, (fun_mk (st := s_finished) l16 c16 k16), PySem.W.mg_of X G a16, ((fun_mk (st := s_finished) l16 c16 k16).binds (ps := ["prime", "row", "lead"]) fun _ _ _ _ _ _ us hl => match us, hl with | [_, _, _], _ => rfl)⟩,
    dot_product := ⟨f17, _, (fun_mk (st := s_dot_product) l17 c17 k17), PySem.W.mg_of X G a17, ((fun_mk (st := s_dot_product) l17 c17 k17).binds (ps := ["first", "second"]) fun _ _ _ _ _ _ us hl => match us, hl with | [_, _], _ => rfl)⟩,
    solved := ⟨f18, _, (fun_mk (st := s_solved) l18 c18 k18), PySem.W.mg_of X G a18, ((fun_mk (st := s_solved) l18 c18 k18).binds (ps := ["ground", "columns", "target"]) fun _ _ _ _ _ _ us hl => match us, hl with | [_, _, _], _ => rfl)⟩,
    barring := ⟨f19, _, (fun_mk (st := s_barring) l19 c19 k19), PySem.W.mg_of X G a19, ((fun_mk (st := s_barring) l19 c19 k19).binds (ps := ["ground", "columns", "target"]) fun _ _ _ _ _ _ us hl => match us, hl with | [_, _, _], _ => rfl)⟩,
    pool := ⟨f20, _, (fun_mk (st := s_pool) l20 c20 k20), PySem.W.mg_of X G a20, ((fun_mk (st := s_pool) l20 c20 k20).binds (ps := ["script"]) fun _ _ _ _ _ _ us hl => match us, hl with | [_], _ => rfl)⟩,
    draw := ⟨f21, _, (fun_mk (st := s_draw) l21 c21 k21), PySem.W.mg_of X G a21, ((fun_mk (st := s_draw) l21 c21 k21).binds (ps := ["pool", "many"]) fun _ _ _ _ _ _ us hl => match us, hl with | [_, _], _ => rfl)⟩,
    gcd := ⟨f22, _, (fun_mk (st := s_gcd) l22 c22 k22), PySem.W.mg_of X G a22, ((fun_mk (st := s_gcd) l22 c22 k22).binds (ps := ["a", "b"]) fun _ _ _ _ _ _ us hl => match us, hl with | [_, _], _ => rfl)⟩,
    low := ⟨f23, _, (fun_mk (st := s_low) l23 c23 k23), PySem.W.mg_of X G a23, ((fun_mk (st := s_low) l23 c23 k23).binds (ps := ["p", "num", "den"]) fun _ _ _ _ _ _ us hl => match us, hl with | [_, _, _], _ => rfl)⟩,
    plus := ⟨f24, _, (fun_mk (st := s_plus) l24 c24 k24), PySem.W.mg_of X G a24, ((fun_mk (st := s_plus) l24 c24 k24).binds (ps := ["p", "a", "b"]) fun _ _ _ _ _ _ us hl => match us, hl with | [_, _, _], _ => rfl)⟩,
    times := ⟨f25, _, (fun_mk (st := s_times) l25 c25 k25), PySem.W.mg_of X G a25, ((fun_mk (st := s_times) l25 c25 k25).binds (ps := ["p", "a", "b"]) fun _ _ _ _ _ _ us hl => match us, hl with | [_, _, _], _ => rfl)⟩,
    int_ := ⟨f26, _, (fun_mk (st := s_int_) l26 c26 k26), PySem.W.mg_of X G a26, ((fun_mk (st := s_int_) l26 c26 k26).binds (ps := ["told"]) fun _ _ _ _ _ _ us hl => match us, hl with | [_], _ => rfl)⟩,
    hand := ⟨f27, _, (fun_mk (st := s_hand) l27 c27 k27), PySem.W.mg_of X G a27, ((fun_mk (st := s_hand) l27 c27 k27).binds (ps := ["pair"]) fun _ _ _ _ _ _ us hl => match us, hl with | [_], _ => rfl)⟩,
    ask := ⟨f28, _, (fun_mk (st := s_ask) l28 c28 k28), PySem.W.mg_of X G a28, ((fun_mk (st := s_ask) l28 c28 k28).binds (ps := ["p", "columns", "target"]) fun _ _ _ _ _ _ us hl => match us, hl with | [_, _, _], _ => rfl)⟩,
    read := ⟨f29, _, (fun_mk (st := s_read) l29 c29 k29), PySem.W.mg_of X G a29, ((fun_mk (st := s_read) l29 c29 k29).binds (ps := ["p", "told"]) fun _ _ _ _ _ _ us hl => match us, hl with | [_, _], _ => rfl)⟩,
    less := ⟨f30, _, (fun_mk (st := s_less) l30 c30 k30), PySem.W.mg_of X G a30, ((fun_mk (st := s_less) l30 c30 k30).binds (ps := ["p", "row", "lead", "column"]) fun _ _ _ _ _ _ us hl => match us, hl with | [_, _, _, _], _ => rfl)⟩,
    leads := ⟨f31, _, (fun_mk (st := s_leads) l31 c31 k31), PySem.W.mg_of X G a31, ((fun_mk (st := s_leads) l31 c31 k31).binds (ps := ["p", "rows"]) fun _ _ _ _ _ _ us hl => match us, hl with | [_, _], _ => rfl)⟩,
    within := ⟨f32, _, (fun_mk (st := s_within) l32 c32 k32), PySem.W.mg_of X G a32, ((fun_mk (st := s_within) l32 c32 k32).binds (ps := ["p", "leads", "target"]) fun _ _ _ _ _ _ us hl => match us, hl with | [_, _, _], _ => rfl)⟩,
    dot := ⟨f33, _, (fun_mk (st := s_dot) l33 c33 k33), PySem.W.mg_of X G a33, ((fun_mk (st := s_dot) l33 c33 k33).binds (ps := ["p", "a", "b"]) fun _ _ _ _ _ _ us hl => match us, hl with | [_, _, _], _ => rfl)⟩,
    handed := ⟨f34, _, (fun_mk (st := s_handed) l34 c34 k34), PySem.W.mg_of X G a34, ((fun_mk (st := s_handed) l34 c34 k34).binds (ps := ["pool", "p", "row"]) fun _ _ _ _ _ _ us hl => match us, hl with | [_, _, _], _ => rfl)⟩,
    right := ⟨f35, _, (fun_mk (st := s_right) l35 c35 k35), PySem.W.mg_of X G a35, ((fun_mk (st := s_right) l35 c35 k35).binds (ps := ["pool", "p", "columns", "leads", "target"]) fun _ _ _ _ _ _ us hl => match us, hl with | [_, _, _, _, _], _ => rfl)⟩,
    number := ⟨f36, _, (fun_mk (st := s_number) l36 c36 k36), PySem.W.mg_of X G a36, ((fun_mk (st := s_number) l36 c36 k36).binds (ps := ["pool", "p"]) fun _ _ _ _ _ _ us hl => match us, hl with | [_, _], _ => rfl)⟩,
    combined := ⟨f37, _, (fun_mk (st := s_combined) l37 c37 k37), PySem.W.mg_of X G a37, ((fun_mk (st := s_combined) l37 c37 k37).binds (ps := ["pool", "p", "size", "rows"]) fun _ _ _ _ _ _ us hl => match us, hl with | [_, _, _, _], _ => rfl)⟩,
    drawn := ⟨f38, _, (fun_mk (st := s_drawn) l38 c38 k38), PySem.W.mg_of X G a38, ((fun_mk (st := s_drawn) l38 c38 k38).binds (ps := ["pool", "p", "size", "many"]) fun _ _ _ _ _ _ us hl => match us, hl with | [_, _, _, _], _ => rfl)⟩,
    bent := ⟨f39, _, (fun_mk (st := s_bent) l39 c39 k39), PySem.W.mg_of X G a39, ((fun_mk (st := s_bent) l39 c39 k39).binds (ps := ["pool", "p", "size", "many"]) fun _ _ _ _ _ _ us hl => match us, hl with | [_, _, _, _], _ => rfl)⟩,
    PRIMES := ⟨TPPRIMES, PySem.W.mg_of X G gPRIMES, fun H => .inr ⟨_, _, _, lPRIMES, rfl, rfl, (show (11 : Nat) ≤ sizeLine from by decide), (.cons ⟨_, rfl⟩ (.cons ⟨_, rfl⟩ (.cons ⟨_, rfl⟩ (.cons ⟨_, rfl⟩ (.cons ⟨_, rfl⟩ (.cons ⟨_, rfl⟩ (.cons ⟨_, rfl⟩ (.cons ⟨_, rfl⟩ (.cons ⟨_, rfl⟩ (.cons ⟨_, rfl⟩ (.cons ⟨_, rfl⟩ .nil)))))))))))⟩⟩,
    c_gcd := PySem.W.mg_of X G b_gcd,
    c_lcm := PySem.W.mg_of X G b_lcm,
    z_len := PySem.W.mg_none_of X G z_len,
    z_range := PySem.W.mg_none_of X G z_range,
    z_int := PySem.W.mg_none_of X G z_int,
    z_bool := PySem.W.mg_none_of X G z_bool,
    z_list := PySem.W.mg_none_of X G z_list,
    z_tuple := PySem.W.mg_none_of X G z_tuple,
    z_sum := PySem.W.mg_none_of X G z_sum,
    z_all := PySem.W.mg_none_of X G z_all,
    z_min := PySem.W.mg_none_of X G z_min,
    z_max := PySem.W.mg_none_of X G z_max,
    z_isinstance := PySem.W.mg_none_of X G z_isinstance,
    z_ValueError := PySem.W.mg_none_of X G z_ValueError,
    z_str := PySem.W.mg_none_of X G z_str,
    z_abs := PySem.W.mg_none_of X G z_abs,
    z_enumerate := PySem.W.mg_none_of X G z_enumerate,
    z_zip := PySem.W.mg_none_of X G z_zip,
    z_sorted := PySem.W.mg_none_of X G z_sorted
  }
  exact ⟨PySem.W.fnOf "law" "law" (defArgs s_law) (defBody s_law) (defScope s_law) .none kV40 dc40 pm40 an40 cd40 ct40, fun s v => .of_eq rfl, fun base _ _ => ok_law T (fun_mk (st := s_law) l40 c40 k40)⟩
theorem walk {l : PySem.W.OpenLaw} {q : Program} {loose : List Str} {XP : (Str → Option Value) → Heap → Prop} {YP : World → Heap → Prop} {d : DefRec} {K : Params → PySem.W.Frag} (hn : l.most = some 63) (hdf : d.params.defaults = [])
    (hY : ∀ (w : World) (h : Heap), YP w h → (K w.params).In h)
    (F : ∀ (w : World) (mg : Str → Option Value) (fa : Addr) (h : Heap), (K w.params).In h → h.Ns mainGlobals mg → mg d.name = some (.ref fa) →
      ∃ fd : FuncData, (∀ (s : Shared) (u : Value), BindsTo s fd ⟨[u], []⟩ [("script", u)]) ∧ ∀ base : Heap, (K w.params).In base → base.Ns mainGlobals mg → FnOk l.prog w (K w.params) mg base CX0 20 fa fd ["script"] (sp_law (K w.params))) :
    PySem.W.WalkO q loose XP YP l.row.toRowW d [] (fun f vs => PySem.call f vs) :=
  L2.walk_of (n := 63) (k := 20) (x := "script") (CX := fun _ => CX0) (sp := fun w => sp_law (K w.params)) hn (by decide) hdf ⟨rfl, by decide, by decide⟩ hY F (fun _ _ a ns hl _ hS => ⟨a, ns, rfl, hS, hl, fun _ => rfl⟩) fun _ _ _ _ _ z => z
end K06

open PySem PySem.W PyProof.Rows in
set_option maxRecDepth 100000 in
set_option maxHeartbeats 0 in
theorem PySem.Challenge.cw_unmovedforms_k06_solved_or_barred_holds : PySem.Challenge.rw_unmovedforms_k06_solved_or_barred.Holds := by
  w_on; o_law; k_head; (case hw => w_witness2)
  k_fill
  refine K06.walk (l := PySem.Challenge.rw_unmovedforms_k06_solved_or_barred) rfl rfl (fun w h Y => PySem.W.kIn_of Y) ?F
  case F =>
    intro w mg fa h KX G hmg
    refine' K06.all_mk KX G hmg ?spG ?tkG ?gycForms ?gycCount ?ge0 ?gae0 ?gge0 ?exe0 ?tye0 ?kce0 ?hde0 ?ise0 ?cle0 ?moe0 ?qe0 ?ge1 ?gae1 ?gge1 ?exe1 ?tye1 ?kce1 ?hde1 ?ise1 ?cle1 ?moe1 ?xLe1 ?xve1 ?sae1 ?iCe1 ?tIe1 ?le1 ?ce1 ?ke1 ?ge2 ?gae2 ?gge2 ?exe2 ?tye2 ?kce2 ?hde2 ?ise2 ?cle2 ?moe2 ?xLe2 ?xve2 ?sae2 ?iCe2 ?tIe2 ?le2 ?ce2 ?ke2 ?ge3 ?gae3 ?gge3 ?exe3 ?tye3 ?kce3 ?hde3 ?ise3 ?cle3 ?moe3 ?xLe3 ?xve3 ?sae3 ?iCe3 ?tIe3 ?le3 ?ce3 ?ke3 ?go0 ?pgo0 ?hdo0 ?poo0 ?sao0 ?sfo0 ?i1o0 ?i2o0 ?s1o0 ?obo0 ?clo0 ?moo0 ?iso0 ?tyo0 ?mko0 ?kco0 ?go1 ?pgo1 ?hdo1 ?poo1 ?sao1 ?sfo1 ?i1o1 ?i2o1 ?s1o1 ?obo1 ?clo1 ?moo1 ?iso1 ?tyo1 ?mko1 ?kco1 ?nf_cSizes_given ?nf_cSizes_wanted ?xm_cSizes ?kt_kSizes_0 ?kt_kSizes_1 ?kt_kSizes_2 ?nf_cWhole_integer ?nf_cPrime_prime ?na_nNum ?na_nDen ?na_nPrime ?atm_f_init ?fnm_f_init ?lm_f_init ?cm_f_init ?km_f_init ?atm_f_add ?fnm_f_add ?lm_f_add ?cm_f_add ?km_f_add ?atm_f_radd ?fnm_f_radd ?lm_f_radd ?cm_f_radd ?km_f_radd ?atm_f_sub ?fnm_f_sub ?lm_f_sub ?cm_f_sub ?km_f_sub ?atm_f_rsub ?fnm_f_rsub ?lm_f_rsub ?cm_f_rsub ?km_f_rsub ?atm_f_mul ?fnm_f_mul ?lm_f_mul ?cm_f_mul ?km_f_mul ?atm_f_rmul ?fnm_f_rmul ?lm_f_rmul ?cm_f_rmul ?km_f_rmul ?atm_f_neg ?fnm_f_neg ?lm_f_neg ?cm_f_neg ?km_f_neg ?atm_f_eq ?fnm_f_eq ?lm_f_eq ?cm_f_eq ?km_f_eq ?atm_g_init ?fnm_g_init ?lm_g_init ?cm_g_init ?km_g_init ?lTm_g_init ?daoAdd ?dboAdd ?dcoAdd ?ddoAdd ?daoSub ?dboSub ?dcoSub ?ddoSub ?daoMul ?dboMul ?dcoMul ?ddoMul ?nefEq ?a0 ?l0 ?c0 ?k0 ?a1 ?l1 ?c1 ?k1 ?a2 ?l2 ?c2 ?k2 ?a3 ?l3 ?c3 ?k3 ?a4 ?l4 ?c4 ?k4 ?a5 ?l5 ?c5 ?k5 ?a6 ?l6 ?c6 ?k6 ?a7 ?l7 ?c7 ?k7 ?a8 ?l8 ?c8 ?k8 ?a9 ?l9 ?c9 ?k9 ?a10 ?l10 ?c10 ?k10 ?a11 ?l11 ?c11 ?k11 ?a12 ?l12 ?c12 ?k12 ?a13 ?l13 ?c13 ?k13 ?a14 ?l14 ?c14 ?k14 ?a15 ?l15 ?c15 ?k15 ?a16 ?l16 ?c16 ?k16 ?a17 ?l17 ?c17 ?k17 ?a18 ?l18 ?c18 ?k18 ?a19 ?l19 ?c19 ?k19 ?a20 ?l20 ?c20 ?k20 ?a21 ?l21 ?c21 ?k21 ?a22 ?l22 ?c22 ?k22 ?a23 ?l23 ?c23 ?k23 ?a24 ?l24 ?c24 ?k24 ?a25 ?l25 ?c25 ?k25 ?a26 ?l26 ?c26 ?k26 ?a27 ?l27 ?c27 ?k27 ?a28 ?l28 ?c28 ?k28 ?a29 ?l29 ?c29 ?k29 ?a30 ?l30 ?c30 ?k30 ?a31 ?l31 ?c31 ?k31 ?a32 ?l32 ?c32 ?k32 ?a33 ?l33 ?c33 ?k33 ?a34 ?l34 ?c34 ?k34 ?a35 ?l35 ?c35 ?k35 ?a36 ?l36 ?c36 ?k36 ?a37 ?l37 ?c37 ?k37 ?a38 ?l38 ?c38 ?k38 ?a39 ?l39 ?c39 ?k39 ?a40 ?l40 ?c40 ?k40 ?gPRIMES ?lPRIMES ?b_gcd ?b_lcm ?z_len ?z_range ?z_int ?z_bool ?z_list ?z_tuple ?z_sum ?z_all ?z_min ?z_max ?z_isinstance ?z_ValueError ?z_str ?z_abs ?z_enumerate ?z_zip ?z_sorted
    (case spG => k_is)
    (case tkG => k_is)
    (case gycForms => k_is)
    (case gycCount => k_is)
    (case ge0 => k_is)
    (case gae0 => k_is)
    (case gge0 => k_is)
    (case exe0 => k_is)
    (case tye0 => k_is)
    (case kce0 => k_is)
    (case hde0 => k_is)
    (case ise0 => k_is)
    (case cle0 => k_is)
    (case moe0 => k_is)
    (case qe0 => k_exc)
    (case ge1 => k_is)
    (case gae1 => k_is)
    (case gge1 => k_is)
    (case exe1 => k_is)
    (case tye1 => k_is)
    (case kce1 => k_is)
    (case hde1 => k_is)
    (case ise1 => k_is)
    (case cle1 => k_is)
    (case moe1 => k_is)
    (case xLe1 => k_is)
    (case xve1 => rfl)
    (case sae1 => k_is)
    (case iCe1 => k_is)
    (case tIe1 => k_is)
    (case le1 => k_is)
    (case ce1 => k_is)
    (case ke1 => k_is)
    (case ge2 => k_is)
    (case gae2 => k_is)
    (case gge2 => k_is)
    (case exe2 => k_is)
    (case tye2 => k_is)
    (case kce2 => k_is)
    (case hde2 => k_is)
    (case ise2 => k_is)
    (case cle2 => k_is)
    (case moe2 => k_is)
    (case xLe2 => k_is)
    (case xve2 => rfl)
    (case sae2 => k_is)
    (case iCe2 => k_is)
    (case tIe2 => k_is)
    (case le2 => k_is)
    (case ce2 => k_is)
    (case ke2 => k_is)
    (case ge3 => k_is)
    (case gae3 => k_is)
    (case gge3 => k_is)
    (case exe3 => k_is)
    (case tye3 => k_is)
    (case kce3 => k_is)
    (case hde3 => k_is)
    (case ise3 => k_is)
    (case cle3 => k_is)
    (case moe3 => k_is)
    (case xLe3 => k_is)
    (case xve3 => rfl)
    (case sae3 => k_is)
    (case iCe3 => k_is)
    (case tIe3 => k_is)
    (case le3 => k_is)
    (case ce3 => k_is)
    (case ke3 => k_is)
    (case go0 => k_is)
    (case pgo0 => k_is)
    (case hdo0 => k_is)
    (case poo0 => k_is)
    (case sao0 => k_is)
    (case sfo0 => k_is)
    (case i1o0 => k_is)
    (case i2o0 => k_is)
    (case s1o0 => k_is)
    (case obo0 => k_is)
    (case clo0 => k_is)
    (case moo0 => k_is)
    (case iso0 => k_is)
    (case tyo0 => k_is)
    (case mko0 => k_is)
    (case kco0 => k_is)
    (case go1 => k_is)
    (case pgo1 => k_is)
    (case hdo1 => k_is)
    (case poo1 => k_is)
    (case sao1 => k_is)
    (case sfo1 => k_is)
    (case i1o1 => k_is)
    (case i2o1 => k_is)
    (case s1o1 => k_is)
    (case obo1 => k_is)
    (case clo1 => k_is)
    (case moo1 => k_is)
    (case iso1 => k_is)
    (case tyo1 => k_is)
    (case mko1 => k_is)
    (case kco1 => k_is)
    (case nf_cSizes_given => k_is)
    (case nf_cSizes_wanted => k_is)
    (case xm_cSizes => exact K06.exm_cl (by k_is) (by k_is) (by k_is) (by k_is))
    (case kt_kSizes_0 => exact K06.kit_eq)
    (case kt_kSizes_1 => exact K06.kit_bi (by decide +kernel) (by k_is))
    (case kt_kSizes_2 => exact K06.kit_ne (by k_is) (by k_is) (by k_is) (by first | rfl | k_is))
    (case nf_cWhole_integer => k_is)
    (case nf_cPrime_prime => k_is)
    (case na_nNum => k_is)
    (case na_nDen => k_is)
    (case na_nPrime => k_is)
    (case atm_f_init => k_is)
    (case fnm_f_init => k_is)
    (case lm_f_init => k_is)
    (case cm_f_init => k_is)
    (case km_f_init => k_is)
    (case atm_f_add => k_is)
    (case fnm_f_add => k_is)
    (case lm_f_add => k_is)
    (case cm_f_add => k_is)
    (case km_f_add => k_is)
    (case atm_f_radd => k_is)
    (case fnm_f_radd => k_is)
    (case lm_f_radd => k_is)
    (case cm_f_radd => k_is)
    (case km_f_radd => k_is)
    (case atm_f_sub => k_is)
    (case fnm_f_sub => k_is)
    (case lm_f_sub => k_is)
    (case cm_f_sub => k_is)
    (case km_f_sub => k_is)
    (case atm_f_rsub => k_is)
    (case fnm_f_rsub => k_is)
    (case lm_f_rsub => k_is)
    (case cm_f_rsub => k_is)
    (case km_f_rsub => k_is)
    (case atm_f_mul => k_is)
    (case fnm_f_mul => k_is)
    (case lm_f_mul => k_is)
    (case cm_f_mul => k_is)
    (case km_f_mul => k_is)
    (case atm_f_rmul => k_is)
    (case fnm_f_rmul => k_is)
    (case lm_f_rmul => k_is)
    (case cm_f_rmul => k_is)
    (case km_f_rmul => k_is)
    (case atm_f_neg => k_is)
    (case fnm_f_neg => k_is)
    (case lm_f_neg => k_is)
    (case cm_f_neg => k_is)
    (case km_f_neg => k_is)
    (case atm_f_eq => k_is)
    (case fnm_f_eq => k_is)
    (case lm_f_eq => k_is)
    (case cm_f_eq => k_is)
    (case km_f_eq => k_is)
    (case atm_g_init => k_is)
    (case fnm_g_init => k_is)
    (case lm_g_init => k_is)
    (case cm_g_init => k_is)
    (case km_g_init => k_is)
    (case lTm_g_init => k_is)
    (case daoAdd => k_is)
    (case dboAdd => k_is)
    (case dcoAdd => k_is)
    (case ddoAdd => k_is)
    (case daoSub => k_is)
    (case dboSub => k_is)
    (case dcoSub => k_is)
    (case ddoSub => k_is)
    (case daoMul => k_is)
    (case dboMul => k_is)
    (case dcoMul => k_is)
    (case ddoMul => k_is)
    (case nefEq => k_is)
    (case a0 => k_is)
    (case l0 => k_is)
    (case c0 => k_is)
    (case k0 => k_is)
    (case a1 => k_is)
    (case l1 => k_is)
    (case c1 => k_is)
    (case k1 => k_is)
    (case a2 => k_is)
    (case l2 => k_is)
    (case c2 => k_is)
    (case k2 => k_is)
    (case a3 => k_is)
    (case l3 => k_is)
    (case c3 => k_is)
    (case k3 => k_is)
    (case a4 => k_is)
    (case l4 => k_is)
    (case c4 => k_is)
    (case k4 => k_is)
    (case a5 => k_is)
    (case l5 => k_is)
    (case c5 => k_is)
    (case k5 => k_is)
    (case a6 => k_is)
    (case l6 => k_is)
    (case c6 => k_is)
    (case k6 => k_is)
    (case a7 => k_is)
    (case l7 => k_is)
    (case c7 => k_is)
    (case k7 => k_is)
    (case a8 => k_is)
    (case l8 => k_is)
    (case c8 => k_is)
    (case k8 => k_is)
    (case a9 => k_is)
    (case l9 => k_is)
    (case c9 => k_is)
    (case k9 => k_is)
    (case a10 => k_is)
    (case l10 => k_is)
    (case c10 => k_is)
    (case k10 => k_is)
    (case a11 => k_is)
    (case l11 => k_is)
    (case c11 => k_is)
    (case k11 => k_is)
    (case a12 => k_is)
    (case l12 => k_is)
    (case c12 => k_is)
    (case k12 => k_is)
    (case a13 => k_is)
    (case l13 => k_is)
    (case c13 => k_is)
    (case k13 => k_is)
    (case a14 => k_is)
    (case l14 => k_is)
    (case c14 => k_is)
    (case k14 => k_is)
    (case a15 => k_is)
    (case l15 => k_is)
    (case c15 => k_is)
    (case k15 => k_is)
    (case a16 => k_is)
    (case l16 => k_is)
    (case c16 => k_is)
    (case k16 => k_is)
    (case a17 => k_is)
    (case l17 => k_is)
    (case c17 => k_is)
    (case k17 => k_is)
    (case a18 => k_is)
    (case l18 => k_is)
    (case c18 => k_is)
    (case k18 => k_is)
    (case a19 => k_is)
    (case l19 => k_is)
    (case c19 => k_is)
    (case k19 => k_is)
    (case a20 => k_is)
    (case l20 => k_is)
    (case c20 => k_is)
    (case k20 => k_is)
    (case a21 => k_is)
    (case l21 => k_is)
    (case c21 => k_is)
    (case k21 => k_is)
    (case a22 => k_is)
    (case l22 => k_is)
    (case c22 => k_is)
    (case k22 => k_is)
    (case a23 => k_is)
    (case l23 => k_is)
    (case c23 => k_is)
    (case k23 => k_is)
    (case a24 => k_is)
    (case l24 => k_is)
    (case c24 => k_is)
    (case k24 => k_is)
    (case a25 => k_is)
    (case l25 => k_is)
    (case c25 => k_is)
    (case k25 => k_is)
    (case a26 => k_is)
    (case l26 => k_is)
    (case c26 => k_is)
    (case k26 => k_is)
    (case a27 => k_is)
    (case l27 => k_is)
    (case c27 => k_is)
    (case k27 => k_is)
    (case a28 => k_is)
    (case l28 => k_is)
    (case c28 => k_is)
    (case k28 => k_is)
    (case a29 => k_is)
    (case l29 => k_is)
    (case c29 => k_is)
    (case k29 => k_is)
    (case a30 => k_is)
    (case l30 => k_is)
    (case c30 => k_is)
    (case k30 => k_is)
    (case a31 => k_is)
    (case l31 => k_is)
    (case c31 => k_is)
    (case k31 => k_is)
    (case a32 => k_is)
    (case l32 => k_is)
    (case c32 => k_is)
    (case k32 => k_is)
    (case a33 => k_is)
    (case l33 => k_is)
    (case c33 => k_is)
    (case k33 => k_is)
    (case a34 => k_is)
    (case l34 => k_is)
    (case c34 => k_is)
    (case k34 => k_is)
    (case a35 => k_is)
    (case l35 => k_is)
    (case c35 => k_is)
    (case k35 => k_is)
    (case a36 => k_is)
    (case l36 => k_is)
    (case c36 => k_is)
    (case k36 => k_is)
    (case a37 => k_is)
    (case l37 => k_is)
    (case c37 => k_is)
    (case k37 => k_is)
    (case a38 => k_is)
    (case l38 => k_is)
    (case c38 => k_is)
    (case k38 => k_is)
    (case a39 => k_is)
    (case l39 => k_is)
    (case c39 => k_is)
    (case k39 => k_is)
    (case a40 => k_is)
    (case l40 => k_is)
    (case c40 => k_is)
    (case k40 => k_is)
    (case gPRIMES => k_is)
    (case lPRIMES => k_is)
    (case b_gcd => k_is)
    (case b_lcm => k_is)
    (case z_len => k_is)
    (case z_range => k_is)
    (case z_int => k_is)
    (case z_bool => k_is)
    (case z_list => k_is)
    (case z_tuple => k_is)
    (case z_sum => k_is)
    (case z_all => k_is)
    (case z_min => k_is)
    (case z_max => k_is)
    (case z_isinstance => k_is)
    (case z_ValueError => k_is)
    (case z_str => k_is)
    (case z_abs => k_is)
    (case z_enumerate => k_is)
    (case z_zip => k_is)
    (case z_sorted => k_is)
#print axioms PySem.Challenge.cw_unmovedforms_k06_solved_or_barred_holds

