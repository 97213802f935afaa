import PyProof.Rows.All
import Wide.All
import OpenK.AllK
import Wide.FinOn
import HandS.ForMost
import HandS.Exc
import HandS.ExcOwn
import HandS.ExcCtx
import HandS.ExcIs
import HandS.Rev
import HandS.TupAny
import HandS.Deep
import HandS.IsInst
import HandS.Style
import HandS.More
import HandS.HotCalls
import HandS.Flow
import HandS.Gcd
import HandS.SortInts
import HandS.Star
import HandS.TupMul
import KE.SortData
import KE.DataMinMax
import KE.KDictWalk
import KE.KDictPairs
import KE.DataFind
import HandS.DictTup
import HandS.TupLen
import HandS.Iter
import HandS.Dict
import HandS.Small
import KE.GoesMore
import KE.GoesEnum
import HandS.TryMany
import HandS.Wide
import PySem.Challenge.RW_sametrace_k21_whole_ranks_that_are_kept
set_option Elab.async false
set_option linter.all false
set_option maxRecDepth 100000
namespace HL
open PySem PySem.Spec PyProof.Rows L2 HotX
section
variable {prog : Program} {w : World} {A : Around} {E : Value → Shared → Prop} {s : Shared}
/-- the end of a list's iterator while an exception is handled -/
theorem list_ends_hot {it l x1 : Addr} {i : Nat} {items : Array Value} {Q : Option Value → Shared → Prop} (hot : HotAt A x1 s.heap)
    (hit : s.heap.IsListIter it l i) (hl : s.heap.IsList l items) (hx : items[i]? = none) (nx : x1 ≠ it)
    (hQ : ∀ h', (∀ b o, b ≠ it → s.heap.get? b = some o → h'.get? b = some o) → Q none { s with heap := h' }) : wpAny (model prog w) A (pyNext (.ref it)) Q E s := by
  obtain ⟨hh, o1, vs1, h1, d1, c1⟩ := hot
  obtain ⟨o, ho, hc, hd⟩ := id hit
  obtain ⟨ol, hol, _, nl, hdl⟩ := hl
  unfold pyNext
  refine wpAny_bind (wpAny_attempt (wpAny_callSpecial?_slot (name := Str.ofString "__next__") hit.typeIs slot_listiter_next
    (wpAny_call_entry slot_listiter_next hit.typeIs entry_listiter_next ?_ (args_listiter_next _))))
  show wpAny _ _ (field (.ref it) 0 >>= _) _ _ s
  refine wpAny_bind (wpAny_field ho hd (x := .ref l) rfl ?_)
  show wpAny _ _ (if (Value.ref l == Value.none) = true then _ else _) _ _ s
  rw [if_neg (show ¬ ((Value.ref l == Value.none) = true) from Bool.false_ne_true)]
  show wpAny _ _ (field (.ref it) 1 >>= _) _ _ s
  refine wpAny_bind (wpAny_field ho hd (x := .int i 0) rfl ?_)
  show wpAny _ _ (seqItems? (.ref l) >>= _) _ _ s
  refine wpAny_bind (wpAny_seqItems hol hdl ?_)
  simp only [Int.toNat_natCast, hx]
  refine wpAny_bind (wpAny_rule (wpAny_bind (wpAny_setField ho hd (by simp) ?_)))
  show wpAny _ _ (newExc (.type "StopIteration") [] >>= _) _ _ _
  refine wpAny_bind ?_
  simp only [newExc, newTuple]
  refine wpAny_bind (wpAny_newObj_type ?_ (by size_fits))
  refine wpAny_bind (m := firstArgMember _ _) (wpAny_of_eq (a := Value.none) (by first | rfl | (simp only [firstArgMember]; rfl)) ?_)
  refine wpAny_newObj_type ?_ (by size_fits)
  have up : ∀ {b o'}, b ≠ it → s.heap.get? b = some o' → (s.heap.update it (Obj.mapFields (·.setIfInBounds 0 .none))).get? b = some o' := fun {b o'} hb e => by
    rw [Heap.get?_update_other _ _ (Ne.symm hb)]; exact e
  refine raiseNew_hot ⟨hh, o1, vs1, Heap.get?_push_of_some _ (Heap.get?_push_of_some _ (up nx h1)), d1, c1⟩ (Nat.ne_of_lt (Heap.lt_size (Heap.get?_push_of_some _ (up nx h1)))) (Heap.get?_push_size _ rfl) rfl (by first | (simp; done) | (simp; omega)) ?_
  refine wpAny_bind (wpAny_isInstance (T := "StopIteration") (b := true) ⟨_, Heap.get?_update_self _ (Heap.get?_push_size _ rfl) rfl, rfl⟩ isSubtype_stop ?_)
  refine wpAny_pure (hQ _ fun b o' hb e => ?_)
  rw [Heap.get?_update_other _ _ (Nat.ne_of_gt (Heap.lt_size (Heap.get?_push_of_some _ (up hb e))))]
  exact Heap.get?_push_of_some _ (Heap.get?_push_of_some _ (up hb e))
end
section
variable {X : Cx}
/-- where an exception is handled: a comprehension over a list -/
theorem pe_lcH {l elt tg : Expr} {ifs : List Expr} {scope : Scope} {own : List (Str × Nat)} {pos : Pos} {tl : TE} {g : TG} {tt : TT} {te : TE} (hot : L2H.HotC X) (hN : X.N.Nodup) (hl : PE X l tl) (ok : BlkOk X.N X.env.scope scope own)
    (hg : ∀ (s : Shared) (H : Hp) (C : Addr) (cl : List (Str × Addr)) (fp : List Addr), PG (X.blk s H scope (compEnvC scope cl C X.env) fp) tg g)
    (ht : ∀ (s : Shared) (H : Hp) (C : Addr) (cl : List (Str × Addr)) (fp : List Addr), PTs (X.blk s H scope (compEnvC scope cl C X.env) fp) ifs tt)
    (he : ∀ (s : Shared) (H : Hp) (C : Addr) (cl : List (Str × Addr)) (fp : List Addr), PE (X.blk s H scope (compEnvC scope cl C X.env) fp) elt te)
    (hs : ∀ x, foldedSetIterable l X.env x = pure x := by intro _; rfl) :
    PE X (.ListComp elt [⟨tg, l, ifs, 0⟩] scope pos) (tLc (iList X.K tl) g tt te (own.map (·.2))) := by
  refine ⟨fun pins s σ H Q I h => ?_⟩
  rw [eval_ListComp]
  have hfree : ∀ y ∈ scope.names, y.2 = .free → ∃ c, X.env.cells.lookup y.1 = some c := fun y hy e => (ok.free y hy e).elim (fun k => I.ok.has _ (.inl k)) fun k => I.ok.has _ (.inr k)
  refine wpAny_comprehension_free (use := none) rfl hs (closure_ok hfree) ok.kind (fun y hy e => by rw [ok.uniq y hy, e])
    (thn (hl.run pins s σ H _ I h) fun xv s1 hx => ?_)
  obtain ⟨v, H2, I1, r1, a, ea, ⟨xs, hq⟩, q⟩ := hx
  subst ea
  cases r1
  obtain ⟨its, rv, p, hz⟩ := I1.list hq
  refine wpAny_pyIter_list p.isList ?_
  generalize hit : s1.heap.objs.size = it
  generalize hs2 : ({ s1 with heap := s1.heap.push { cls := .type "list_iterator", data := .fields #[.ref a, .int 0 0] } } : Shared) = s2
  have I2 : Inv X pins σ H2 s2 := by
    rw [← hs2]
    exact I1.kept (t' := s1.toks) fun b o e => Heap.get?_push_of_some _ e
  have st2 : s2.heap.IsListIter it a 0 := by
    rw [← hs2, ← hit]
    exact ⟨_, Heap.get?_push_size _ rfl, rfl, rfl⟩
  have f2 : FpOk X pins H2 it := I1.fpOk (Nat.le_of_eq hit) (I1.hok.fresh (Nat.le_of_eq hit))
  refine wpAny_newObj_type (newEnv_comp ?_) (by show 0 ≤ sizeLine; decide)
  generalize hD : s2.heap.objs.size = D
  have hDn : H2 D = none := I2.hok.fresh (Nat.le_of_eq hD)
  obtain ⟨W, ⟨m0, w0⟩, turn⟩ := q D hDn
  generalize hs3 : ({ s2 with heap := s2.heap.push { cls := .type "list", data := .seq ([] : List Value).toArray } } : Shared) = s3
  have I3 : Inv X pins σ (upd H2 D (.lst [])) s3 := by
    rw [← hs3]
    refine I2.laid (t' := s2.toks) (fun b o e => Heap.get?_push_of_some _ e) (Nat.le_of_eq hD) ⟨Nat.zero_le _, [], 0, .nil, ?_⟩
    rw [← hD]
    exact Heap.get?_push_size _ rfl
  have h3 : s3.heap = s2.heap.push { cls := .type "list", data := .seq ([] : List Value).toArray } := by rw [← hs3]
  have lt2 : it < s2.heap.objs.size := by
    obtain ⟨o, e, _⟩ := id st2
    exact Heap.lt_size e
  have nD : it ≠ D := by rw [← hD]; exact Nat.ne_of_lt lt2
  have f3 : ∀ b ∈ [it], FpOk X pins (upd H2 D (.lst [])) b ∧ b < s3.heap.objs.size := fun b hb => by
    have e : b = it := by simpa using hb
    subst e
    exact ⟨⟨by rw [upd_ne nD]; exact f2.1, f2.2⟩, by rw [h3, Heap.size_push]; exact Nat.lt_succ_of_lt lt2⟩
  have st3 : s3.heap.IsListIter it a 0 := by
    obtain ⟨o, e, c, d⟩ := id st2
    exact ⟨o, by rw [h3]; exact Heap.get?_push_of_some _ e, c, d⟩
  -- the handled exception stands, out of reach of the block
  obtain ⟨pe0, ⟨hh, v1, e1, c1⟩, hp0⟩ := hot
  obtain ⟨g0, n0, nl0, nf0, nc0⟩ := I3.pin pe0 (List.mem_append_left _ hp0)
  have ns0 : pe0.1 ∉ frs X.stack := fun z => (List.mem_cons.mp (I3.stkSub pe0.1 z)).elim nl0 nf0
  have ni0 : pe0.1 ≠ it := (f3 it (by simp)).1.2.2.2.2.2 pe0 (List.mem_append_left _ hp0)
  have I4 := block_start I3 ok hN f3
  have pg := hg s3 (upd H2 D (.lst [])) s3.heap.objs.size (cellsFrom (s3.heap.objs.size + 1) scope.names (cloFrom X.env.cells scope.names [])) [it]
  have pt := ht s3 (upd H2 D (.lst [])) s3.heap.objs.size (cellsFrom (s3.heap.objs.size + 1) scope.names (cloFrom X.env.cells scope.names [])) [it]
  have pe := he s3 (upd H2 D (.lst [])) s3.heap.objs.size (cellsFrom (s3.heap.objs.size + 1) scope.names (cloFrom X.env.cells scope.names [])) [it]
  show codeAny _ _ (.compStart (.ListComp elt [⟨tg, l, ifs, 0⟩] scope pos) 0 (.ref it) (.ref D) (compEnvC scope (cellsFrom (s3.heap.objs.size + 1) scope.names (cloFrom X.env.cells scope.names [])) s3.heap.objs.size X.env)) (compPost (model X.prog X.w) X.A X.xe none (EP X pins σ Q) (.ref D) s3.heap.objs.size) { s3 with heap := pushCells (s3.heap.push { cls := .type "dict", data := .dict #[] }) scope.names }
  generalize hce : compEnvC scope (cellsFrom (s3.heap.objs.size + 1) scope.names (cloFrom X.env.cells scope.names [])) s3.heap.objs.size X.env = ce at I4 pg pt pe ⊢
  have cL : ce.locals = s3.heap.objs.size := by subst hce; rfl
  have n3 : (upd H2 D (.lst [])) it = none := (f3 it (by simp)).1.1
  generalize hH3 : upd H2 D (.lst []) = H3 at I3 I4 pg pt pe w0 n3 f3 n0
  generalize hs4 : ({ s3 with heap := pushCells (s3.heap.push { cls := .type "dict", data := .dict #[] }) scope.names } : Shared) = s4 at I4 ⊢
  have st4 : s4.heap.IsListIter it a 0 := by
    obtain ⟨o, e, c, d⟩ := id st3
    exact ⟨o, by rw [← hs4]; exact pushCells_keeps _ _ _ _ (Heap.get?_push_of_some _ e), c, d⟩
  have stat : ∀ {σ' : L2.St} {H' : Hp} {s' : Shared}, Inv (X.blk s3 H3 scope ce [it]) [] σ' H' s' → H' it = none → FpOk (X.blk s3 H3 scope ce [it]) [] H' it := fun {_ H' s'} I' hn =>
    ⟨hn, (I'.ok.exf it (by simp)).1, I'.ok.exfs it (by simp), .inl (by simp), fun x c e => (I'.ok.exf it (by simp)).2 x c e, fun p hp => absurd (show p ∈ ([] : List (Addr × Obj)) ++ [] from hp) (by simp)⟩
  have loop : codeAny (model X.prog X.w) X.A (.compLoop (.ListComp elt [⟨tg, l, ifs, 0⟩] scope pos) 0 (.ref it) (.ref D) ce) (compPost (model X.prog X.w) X.A X.xe none (EP X pins σ Q) (.ref D) s3.heap.objs.size) s4 := by
    refine compLoop_any (fun n s' => ∃ i H', Inv (X.blk s3 H3 scope ce [it]) [] (wipe σ (own.map (·.2))) H' s' ∧ s'.heap.IsListIter it a i ∧ H' it = none ∧ W i n H') ?_ m0 ⟨0, H3, I4, st4, n3, w0⟩
    rintro n s5 ⟨i, H5, I5, st5, n5, w5⟩
    have F5 := stat I5 n5
    obtain ⟨q0, q1, q2, q3, q4, q5⟩ := id F5
    rcases turn i n H5 w5 with ⟨stop, qq⟩ | ⟨go, Nx, hNx, step⟩
    · obtain ⟨ys, hys, hle⟩ := stop
      obtain ⟨jts, rvj, pj, _⟩ := I5.list hys
      have hotAt : HotAt X.A pe0.1 s5.heap := ⟨hh, pe0.2, v1, I5.base.keep pe0.1 pe0.2 g0 n0 ns0 (by simpa using ni0), e1, c1⟩
      refine list_ends_hot hotAt st5 pj.isList (by have := rvj.length; simp; omega) ni0 fun h' keep => ?_
      have I6 : Inv (X.blk s3 H3 scope ce [it]) [] (wipe σ (own.map (·.2))) H5 { s5 with heap := h' } := I5.turned (t' := s5.toks) keep q0 q1 q3 q4 q5
      have I7 : Inv X pins σ H5 { s5 with heap := h' } := I3.call' (ch := [it]) I6.os I6.base I6.hok I6.bare fun b hb => ⟨(f3 b hb).1.2.2.2.1, (f3 b hb).1.2.1, (f3 b hb).1.2.2.2.2.1, (f3 b hb).1.2.2.2.2.2⟩
      have nC : H5 s3.heap.objs.size = none := by
        have z : H5 ce.locals = none := I6.free
        rwa [cL] at z
      obtain ⟨m, hn, _⟩ := I6.loc
      have hn : h'.Ns ce.locals m := hn
      rw [cL] at hn
      refine ⟨m, hn, fun h'' sb => ?_⟩
      obtain ⟨f0, f1, f2, f3, f4, f5⟩ := I3.fpOk (Nat.le_refl _) nC
      exact ⟨.ref D, H5, I7.turned (t' := s5.toks) (fun b o hb e => (sb.2 b hb).trans e) f0 f1 f3 f4 f5, rfl, qq⟩
    · obtain ⟨ys, x, hys, hx⟩ := go
      obtain ⟨jts, rvj, pj, _⟩ := I5.list hys
      obtain ⟨u, hu, ru⟩ := rvj.get hx
      refine wpAny_pyNext_list_item st5 pj.isList (x := u) (by simpa using hu) fun h' st' sb => ?_
      have I6 : Inv (X.blk s3 H3 scope ce [it]) [] (wipe σ (own.map (·.2))) H5 { s5 with heap := h' } := I5.turned (t' := s5.toks) (fun b o hb e => (sb.2 b hb).trans e) q0 q1 q3 q4 q5
      obtain ⟨oi, ei, ci, di⟩ := id st'
      refine go_of (s := { s5 with heap := h' }) ei ci di (by decide) ?_
      have I7 := I6.pinned (fp := [it]) (fun b hb => by have e : b = it := by simpa using hb
                                                        subst e; exact stat I6 n5) (fun b hb => by
        have e : b = it := by simpa using hb
        subst e
        exact ⟨oi, ei, fun v z => by rw [di] at z; cases z⟩)
      refine thnF (pg.run _ { s5 with heap := h' } _ H5 x u _ I7 ru (step x H5 ⟨rfl, fun zs hzs => by rw [I5.list_inj hzs hys]; exact hx⟩)) fun _ s8 ⟨σ8, H8, I8, hw8, q8⟩ => ?_
      refine thnF (pt.run _ s8 σ8 H8 _ I8 q8) fun b s9 ⟨H9, I9, q9⟩ => ?_
      have fin : ∀ {s' : Shared} {H' : Hp}, Inv (X.blk s3 H3 scope ce [it]) ([] ++ pinsAt [it] h') σ8 H' s' → Nx H' → ∃ m, m < n ∧ ∃ i H', Inv (X.blk s3 H3 scope ce [it]) [] (wipe σ (own.map (·.2))) H' s' ∧ s'.heap.IsListIter it a i ∧ H' it = none ∧ W i m H' := fun {s' H'} I' nx => by
        obtain ⟨m', hm, w'⟩ := hNx H' nx
        have z := I'.pin (it, oi) (List.mem_append_right _ (List.mem_append_right _ (mem_pinsAt (by simp) ei)))
        have hlen : (wipe σ (own.map (·.2))).length = σ8.length := by rw [← hw8, wipe_length]
        refine ⟨m', hm, i + 1, H', (I'.unpinned (pins := [])).weak hlen (fun j v e => ?_), ⟨oi, z.1, ci, di⟩, z.2.1, w'⟩
        rw [← hw8] at e
        exact (wipe_some e).1
      cases b with
      | false =>
        simp only [Bool.false_eq_true, if_false] at q9 ⊢
        exact fin I9 q9
      | true =>
        simp only [if_true] at q9 ⊢
        refine thnF (pe.run _ s9 σ8 H9 _ I9 q9) fun z s10 ⟨yv, H10, I10, r10, acc, hD10, hz10, nx⟩ => ?_
        exact app_ok (X := X.blk s3 H3 scope ce [it]) I10 hD10 hz10 r10 fun s11 I11 => fin I11 nx
  refine codeAny_compStart_list loop ?_
  exact (turn_list (P := X.prog) (w := X.w) (K := X.K) (tg := tg) a it).self X.A 0 _ _ _ st4 loop
end
/-! ### calls whose exceptions are wished for at the caller's slots; methods, makers -/
section
variable {X : Cx} {CX : CXT} {k : Nat} {f C : Addr} {fd : FuncData} {ps : List Str} {sp : Sp} {E : L2.St → XK} {x m : Str} {p pos apos : Pos} {e o : Expr} {es : List Expr} {ta : TE} {t : TA}
/-- what lets nothing out -/
theorem at0 {σ : L2.St} {E' : XK} : PassesAt CX0 X σ E' := fun _ _ _ _ _ _ h => h.elim
/-- no wish at all: the callee raises nothing there -/
theorem atN {σ : L2.St} : PassesAt (L2N.CX X.prog X.w) X σ (fun _ _ _ => False) := fun _ _ _ _ _ _ h => by
  obtain ⟨_, _, _, _, _, _, _, _, _, _, _, _, z⟩ := h
  exact z.elim
theorem runE {pins : List (Addr × Obj)} {σ : L2.St} {H : Hp} {s : Shared} {Q : VK} {us : List Value} {vs : List V} (F : FnOk X.prog X.w X.K X.mg X.base CX k f fd ps sp) (hr : Room k X.A) (hb : Binds X.K fd ps []) (hx : PassesAt CX X σ (E σ))
    (I : Inv X pins σ H s) (r : Vals vs us) (h : sp vs H Q (E σ)) : wpAny (model X.prog X.w) X.A (call (.ref f) us) (EP X pins σ Q) X.xe s := run_fnS F hr hb hx I r h
theorem c_call (F : FnOk X.prog X.w X.K X.mg X.base CX k f fd ps sp) (hr : Room k X.A) (hm : X.mg x = some (.ref f)) (hk : PySem.W.keepIn X.K (.ref f) = true) (hb : Binds X.K fd ps []) (hx : ∀ σ, PassesAt CX X σ (E σ))
    (ha : PA X (e :: es) t) (hg : Gl X x := by rfl) (hdb : (x == ("__debug__" : Str)) = false := by decide) (he : starEach (e :: es) X.env = (false, eval e X.env) :: starEach es X.env := by rfl) (hpl : (backTo pos (starEach es X.env)).any (·.1) = false := by rfl) :
    PE X (.Call (.Name x p) (e :: es) [] pos) (tCallS sp E t) := pe_callS F hr hg hm hk hb hx ha hdb he hpl
/-- o.m(..), of an instance -/
def tMethE (C : Addr) (m : Str) (sp : Sp) (E : L2.St → XK) (ta : TE) (t : TA) : TE := fun σ H Q => ta σ H fun x H1 => ∃ a dx fs, x = .ref a ∧ H1 a = some (.ins C dx fs) ∧ fs.lookup m = none ∧
  t σ H1 fun vs H2 => sp (x :: vs) H2 Q (E σ)
theorem c_meth {pl : Sem Bool} (he : PE X o ta) (c : Cls X.K C) (hm : Meth X.K C m f) (F : FnOk X.prog X.w X.K X.mg X.base CX k f fd ps sp) (hr : Room k X.A) (hb : Binds X.K fd ps []) (hx : ∀ σ, PassesAt CX X σ (E σ)) (ha : PA X (e :: es) t)
    (hst : starEach (e :: es) X.env = (false, eval e X.env) :: starEach es X.env := by rfl) (hpl : (backTo pos (starEach es X.env)).any (·.1) = false := by rfl)
    (ht : eval (.Call (.Attribute o m apos) (e :: es) [] pos) X.env = (do
      let ov ← eval o X.env
      standAt apos.atName
      let (f, first) ← holding [ov] (getMethod ov m pl)
      callWith pos f first (backTo pos (starEach (e :: es) X.env)) (backToKw pos (keywordEach [] X.env))) := by rfl) :
    PE X (.Call (.Attribute o m apos) (e :: es) [] pos) (tMethE C m sp E ta t) := by
  refine ⟨fun pins s σ H Q I h => PySem.W.methodCall_KW (pl := pl) (thn (he.run pins s σ H _ I h) fun u s1 hh => ?_) ht⟩
  obtain ⟨x, H1, I1, rx, a, dx, fs, ex, ea, l, q⟩ := hh
  subst ex
  obtain rfl : u = Value.ref a := rx
  refine getmeth_ok I1 ea c hm l (PySem.W.callWith_K (first := [.ref a]) (h₀ := X.base) I.ok.mod.kin hm.kp (thn (ha.run pos pins s1 σ H1 _ I1 q) fun us s2 hh => ?_) hst hpl)
  obtain ⟨vs, H2, I2, r, q2⟩ := hh
  exact ⟨I2.kIn, runE (us := .ref a :: us) (vs := .ref a :: vs) F hr hb (hx σ) I2 (.cons rfl r) q2⟩
theorem c_meth0 {pl : Sem Bool} (he : PE X o ta) (c : Cls X.K C) (hm : Meth X.K C m f) (F : FnOk X.prog X.w X.K X.mg X.base CX k f fd ps sp) (hr : Room k X.A) (hb : Binds X.K fd ps []) (hx : ∀ σ, PassesAt CX X σ (E σ))
    (ht : eval (.Call (.Attribute o m apos) [] [] pos) X.env = (do
      let ov ← eval o X.env
      standAt apos.atName
      let (f, first) ← holding [ov] (getMethod ov m pl)
      callWith pos f first (backTo pos (starEach [] X.env)) (backToKw pos (keywordEach [] X.env))) := by rfl) :
    PE X (.Call (.Attribute o m apos) [] [] pos) (tMethE C m sp E ta tNil) := by
  refine ⟨fun pins s σ H Q I h => PySem.W.methodCall_KW (pl := pl) (thn (he.run pins s σ H _ I h) fun u s1 hh => ?_) ht⟩
  obtain ⟨x, H1, I1, rx, a, dx, fs, ex, ea, l, q⟩ := hh
  subst ex
  obtain rfl : u = Value.ref a := rx
  exact getmeth_ok I1 ea c hm l (PySem.W.callWith_K0 (first := [.ref a]) I1.kIn hm.kp (runE (us := [.ref a]) (vs := [.ref a]) F hr hb (hx σ) I1 (.cons rfl .nil) q))
/-- C(..) -/
def tMakeE (C : Addr) (sp : Sp) (E : L2.St → XK) (t : TA) : TE := fun σ H Q => t σ H fun vs H1 => ∀ x dx, H1 x = none → H1 dx = none → dx ≠ x →
  sp (.ref x :: vs) (upd (upd H1 dx (.own x)) x (.ins C dx [])) (fun v H2 => v = .non ∧ Q (.ref x) H2) (E σ)
theorem run_makeE {pins : List (Addr × Obj)} {σ : L2.St} {H : Hp} {s : Shared} {Q : VK} {us : List Value} {vs : List V} (M : Mk X.K C f) (F : FnOk X.prog X.w X.K X.mg X.base CX k f fd ps sp) (hr : Room (k + 1) X.A) (hb : Binds X.K fd ps [])
    (hx : PassesAt CX X σ (E σ)) (I : Inv X pins σ H s) (r : Vals vs us)
    (h : ∀ x dx, H x = none → H dx = none → dx ≠ x → sp (.ref x :: vs) (upd (upd H dx (.own x)) x (.ins C dx [])) (fun v H2 => v = .non ∧ Q (.ref x) H2) (E σ)) :
    wpAny (model X.prog X.w) X.A (call (.ref C) us) (EP X pins σ Q) X.xe s := by
  have hq := h (s.heap.objs.size + 1) s.heap.objs.size (I.hok.fresh (Nat.le_succ _)) (I.hok.fresh (Nat.le_refl _)) (Nat.ne_of_lt (Nat.lt_succ_self _))
  have I2 := Inv.made (C := C) I
  have r2 : Vals (V.ref (s.heap.objs.size + 1) :: vs) (Value.ref (s.heap.objs.size + 1) :: us) := .cons rfl r
  have hl : (Value.ref (s.heap.objs.size + 1) :: us ++ []).length = ps.length := by
    rw [List.append_nil, ← r2.length, F.len _ _ _ _ hq]
  have hb2 := hb _ (Value.ref (s.heap.objs.size + 1) :: us) I2.kIn hl
  rw [List.append_nil] at hb2
  refine wpAny_call (make_map (f := f) I.kIn M.makes M.init (beq_iff_eq.mp M.fn) (codeAny_mono (F.run _ X.stack _ _ ⟨Value.ref (s.heap.objs.size + 1) :: us, []⟩ (Value.ref (s.heap.objs.size + 1) :: us) _ _ (E σ) (hr.make C us [])
    (I2.env0.make C us []) hb2 r2 hq) fun r s' hq' => ?_))
  match r, hq' with
  | .error e, hq' => exact hx pins _ _ e s' I2 hq'
  | .ok (.ret u), hq' =>
    obtain ⟨v, H', I3, rv, ev, q3⟩ := I2.after hq'
    subst ev
    exact ⟨rv, ⟨V.ref (s.heap.objs.size + 1), H', I3, rfl, q3⟩⟩
  | .ok .next, hq' => exact False.elim hq'
  | .ok .brk, hq' => exact False.elim hq'
  | .ok .cont, hq' => exact False.elim hq'
theorem c_make (M : Mk X.K C f) (F : FnOk X.prog X.w X.K X.mg X.base CX k f fd ps sp) (hr : Room (k + 1) X.A) (hm : X.mg x = some (.ref C)) (hb : Binds X.K fd ps []) (hx : ∀ σ, PassesAt CX X σ (E σ))
    (ha : PA X (e :: es) t) (hg : Gl X x := by rfl) (hdb : (x == ("__debug__" : Str)) = false := by decide) (he : starEach (e :: es) X.env = (false, eval e X.env) :: starEach es X.env := by rfl) (hpl : (backTo pos (starEach es X.env)).any (·.1) = false := by rfl) :
    PE X (.Call (.Name x p) (e :: es) [] pos) (tMakeE C sp E t) := by
  refine ⟨fun pins s σ H Q I h => wpAny_Call_Name_kw (ld_glob I hg hm ?_ hdb)⟩
  refine PySem.W.callWith_K (h₀ := X.base) I.ok.mod.kin M.kp (thn (ha.run pos pins s σ H _ I h) fun us s1 ⟨vs, H1, I1, r, q⟩ => ⟨I1.kIn, ?_⟩) he hpl
  exact run_makeE M F hr hb (hx σ) I1 r q
theorem c_make0 (M : Mk X.K C f) (F : FnOk X.prog X.w X.K X.mg X.base CX k f fd ps sp) (hr : Room (k + 1) X.A) (hm : X.mg x = some (.ref C)) (hb : Binds X.K fd ps []) (hx : ∀ σ, PassesAt CX X σ (E σ))
    (hg : Gl X x := by rfl) (hdb : (x == ("__debug__" : Str)) = false := by decide) : PE X (.Call (.Name x p) [] [] pos) (tMakeE C sp E tNil) := by
  refine ⟨fun pins s σ H Q I h => wpAny_Call_Name_kw (ld_glob I hg hm ?_ hdb)⟩
  exact PySem.W.callWith_K0 I.kIn M.kp (run_makeE (us := []) M F hr hb (hx σ) I .nil h)
end
/-- a def that may raise, raised where nothing is handled -/
theorem okN {P : Program} {w : World} {K : PySem.W.Frag} {mg : Str → Option Value} {base : Heap} {x qual : Str} {st : Stmt} {f : Addr} {fd : FuncData} {N ps : List Str} {k : Nat} {sp : Sp} (F : Fun K x qual st f fd) (S : FnScope N ps (defScope st)) (len : ∀ vs H Q E, sp vs H Q E → vs.length = ps.length)
    (hbody : ∀ (cdv : Value) (A : Around) (outer : List Env) (s : Shared) (H : Hp) (vs : List V) (Q : VK) (E : XK), Room k (A.deeper (envOfC qual (defScope st) s.heap.objs.size f cdv)) → sp vs H Q E →
      ∃ t, PSs (cxOf (L2N.CX P w) P w K mg base N qual (defScope st) f cdv A outer s H E) (defBody st) t ∧ t { nx := fun _ H' => Q .non H', rt := Q } (start N vs) H) : FnOk P w K mg base (L2N.CX P w) (k + 1) f fd ps sp := by
  obtain ⟨oc, od, kV, doc, pm, an, cdv, ct, osl, rfl, lk, hcd⟩ := F.ex
  exact fn_of lk hcd S len fun A outer s H vs Q E hr hsp => hbody cdv A outer s H vs Q E hr hsp
/-! ### a def called in an except suite with the exception that is handled -/
/-- what is told of the exception: where it stands, its class, its own dict -/
abbrev SpE := Addr → Value → Option Addr → Sp
structure FnE (P : Program) (w : World) (K : PySem.W.Frag) (mg : Str → Option Value) (base : Heap) (k : Nat) (f : Addr) (fd : FuncData) (ps : List Str) (sp : SpE) : Prop where
  len : ∀ a c d vs H Q E, sp a c d vs H Q E → vs.length = ps.length
  run : ∀ (A : Around) (outer : List Env) (s : Shared) (H : Hp) (args : Args) (us : List Value) (vs : List V) (Q : VK) (E : XK) (p : Addr × Obj) (c : Value) (d : Option Addr), L2H.RoomH k A → L2H.Hot1 A p → Zc c d p.2 → L2H.PinOk outer H s p → Env0 P w K mg base A outer s H → BindsTo s fd args (ps.zip us) → Vals vs us → sp p.1 c d vs H Q E →
    codeAny (model P w) A (.call (.ref f) args) (CR CX0 outer P w H s Q E) s
theorem fnE_of {P : Program} {w : World} {K : PySem.W.Frag} {mg : Str → Option Value} {base : Heap} {x qual : Str} {st : Stmt} {f : Addr} {fd : FuncData} {N ps : List Str} {k : Nat} {sp : SpE} (F : Fun K x qual st f fd) (S : FnScope N ps (defScope st))
    (len : ∀ a c d vs H Q E, sp a c d vs H Q E → vs.length = ps.length)
    (hbody : ∀ (cdv : Value) (A : Around) (outer : List Env) (s : Shared) (H : Hp) (vs : List V) (Q : VK) (E : XK) (p : Addr × Obj) (c : Value) (d : Option Addr), L2H.Hot1 (A.deeper (envOfC qual (defScope st) s.heap.objs.size f cdv)) p → Zc c d p.2 → L2H.RoomH k (A.deeper (envOfC qual (defScope st) s.heap.objs.size f cdv)) → sp p.1 c d vs H Q E →
      ∃ t, PSs (L2H.cxH CX0 P w K mg base N qual (defScope st) f cdv A outer s H E p) (defBody st) t ∧ t { nx := fun _ H' => Q .non H', rt := Q } (L2.start N vs) H) :
    FnE P w K mg base (k + 1) f fd ps sp := by
  obtain ⟨oc, od, kV, doc, pm, an, cdv, ct, osl, rfl, lk, hcd⟩ := F.ex
  refine ⟨len, fun A outer s H args us vs Q E p c d hr hot hz hpin e0 hb r hsp => ?_⟩
  have hl := len _ _ _ _ _ _ _ hsp
  have KX : K.In s.heap := e0.mod.kin.keeps fun b o e => (e0.bs b o e).1
  have lim : s.heap.NoLimit := e0.mod.nolimit.keeps fun b o e => (e0.bs b o e).1
  have hkind : ∀ y ∈ ps.zip us, (defScope st).names.lookup y.1 = some .local ∨ ((defScope st).names.lookup y.1 = some .cell ∧ ((cellsFrom (s.heap.objs.size + 1) (defScope st).names []).lookup y.1).isSome = true) := fun ⟨n, v⟩ hy =>
    (S.par n (List.of_mem_zip hy).1).elim .inl fun q => .inr ⟨q, PySem.W.cellsFrom_some _ _ _ (.inl q)⟩
  refine codeAny_call_function hr.depth (KX _ _ lk) rfl S.co S.gen rfl (PySem.W.codeRec_of KX hcd) (hb _ _ _ _ (wpAny_newFunctionEnv_cells S.kind hkind fun env he s1 x => ?_))
  subst he
  refine ⟨lim.keeps x.toInCall.keep, codeAny_func ?_⟩
  obtain ⟨t, ht, hq⟩ := hbody cdv A outer s H vs Q E p c d hot hz (hr.deeper _) hsp
  have I : Inv (L2H.cxH CX0 P w K mg base N qual (defScope st) f cdv A outer s H E p) [] (L2.start N vs) H s1 := L2H.inv_startH S hpin e0 hl r x
  refine wpAny_mono (ht.run [] s1 (L2.start N vs) H _ I hq) (fun fl s' hs => ?_) fun e s' hs => hs
  match fl, hs with
  | .ret u, ⟨v, σ', H', J, rv, q⟩ => exact ⟨v, H', J.os, J.bare, J.base, J.hok, rv, q⟩
  | .next, ⟨σ', H', J, q⟩ => exact ⟨V.non, H', J.os, J.bare, J.base, J.hok, rfl, q⟩
  | .brk, ⟨_, _, _, q⟩ => exact False.elim q
  | .cont, ⟨_, _, _, q⟩ => exact False.elim q
section
variable {X : Cx} {k : Nat} {f : Addr} {fd : FuncData} {ps : List Str} {sp : SpE} {x : Str} {q pos : Pos} {e : Expr} {es : List Expr} {t : TA}
def tCallE (sp : SpE) (a : Addr) (c : Value) (d : Option Addr) (t : TA) : TE := fun σ H Q => t σ H fun vs H1 => sp a c d vs H1 Q (fun _ _ _ => False)
theorem c_callE {a : Addr} {oe : Obj} {c : Value} {d : Option Addr} (F : FnE X.prog X.w X.K X.mg X.base k f fd ps sp) (hr : L2H.RoomH k X.A) (hh : X.A.handled = some (.ref a)) (hp : (a, oe) ∈ X.pn) (hz : L2N.Zn c d oe) (hf : ∃ vs, oe.data = .fields vs)
    (hm : X.mg x = some (.ref f)) (hk : PySem.W.keepIn X.K (.ref f) = true) (hb : Binds X.K fd ps [])
    (ha : PA X (e :: es) t) (hg : Gl X x := by rfl) (hdb : (x == ("__debug__" : Str)) = false := by decide) (he : starEach (e :: es) X.env = (false, eval e X.env) :: starEach es X.env := by rfl) (hpl : (backTo pos (starEach es X.env)).any (·.1) = false := by rfl) :
    PE X (.Call (.Name x q) (e :: es) [] pos) (tCallE sp a c d t) := by
  refine ⟨fun pins s σ H Q I h => wpAny_Call_Name_kw (ld_glob I hg hm ?_ hdb)⟩
  refine PySem.W.callWith_K (h₀ := X.base) I.ok.mod.kin hk (thn (ha.run pos pins s σ H _ I h) fun us s1 ⟨vs, H1, I1, r, q⟩ => ⟨I1.kIn, ?_⟩) he hpl
  obtain ⟨v1, hv1⟩ := hf
  have hot : L2H.Hot1 X.A (a, oe) := ⟨hh, v1, hv1, hz.2.2 v1 hv1⟩
  have hl : us.length = ps.length := by rw [← r.length]; exact F.len _ _ _ _ _ _ _ q
  have b := hb s1 us I1.kIn (by rw [List.append_nil]; exact hl)
  rw [List.append_nil] at b
  have P1 := I1.pin (a, oe) (List.mem_append_left _ hp)
  have hpin : L2H.PinOk X.stack H1 s1 (a, oe) := ⟨P1.1, P1.2.1, fun hm => (List.mem_cons.mp (I1.stkSub a hm)).elim P1.2.2.1 P1.2.2.2.1, P1.2.2.2.2⟩
  refine wpAny_call (codeAny_mono (F.run X.A X.stack s1 H1 ⟨us, []⟩ us vs Q (fun _ _ _ => False) (a, oe) c d hr hot hz.zc hpin I1.env0 b r q) fun r s' hq => ?_)
  match r, hq with
  | .error e, hq => exact False.elim hq
  | .ok (.ret u), hq => exact I1.after hq
  | .ok .next, hq => exact False.elim hq
  | .ok .brk, hq => exact False.elim hq
  | .ok .cont, hq => exact False.elim hq
/-- isinstance(e, c), e an exception that every state bears -/
theorem call_isP {a D : Addr} {oe : Obj} (C : ExcC X.K D) (hp : (a, oe) ∈ X.pn) (hz : Zc (.ref D) none oe) (hf : ∃ vs, oe.data = .fields vs) : CallR X (.builtin "isinstance") (rIsE X.K D a) := by
  intro pins s σ H xs us Q I r h
  obtain ⟨c, cv, b, rfl, hcv, e, q⟩ := h
  cases r with
  | cons rx rr =>
    cases rr with
    | cons rt rr =>
      cases rr
      cases rx
      have ec := hcv _ rt
      subst ec
      obtain ⟨hget, _⟩ := I.pin (a, oe) (List.mem_append.mpr (.inl hp))
      obtain ⟨vs, hv⟩ := hf
      have J : PySem.W.InstAt s.heap a oe D none := by
        obtain ⟨oc, od, oda, osl⟩ := oe
        obtain ⟨h1, h2⟩ := hz
        dsimp only at h1 h2 hv
        subst h1 h2 hv
        exact ⟨hget, rfl, rfl, trivial⟩
      exact PySem.W.kia_one (PySem.W.handS_kitx_exc C.hg C.hk C.hs C.hd C.ha C.hn C.ht C.hm) I.kIn J e (fun z => nomatch z) fun tk => ⟨.bl b, H, I.kept (t' := tk) fun _ _ z => z, rfl, q⟩
end
/-! ### list(reversed(xs)) -/
section
variable {prog : Program} {w : World} {A : Around} {E : Value → Shared → Prop} {s : Shared}
theorem call_list_rev {it l : Addr} {items : Array Value} {Q : Value → Shared → Prop} (hh : A.handled = none) (hit : s.heap.IsRevIter it l ((items.size : Int) - 1)) (hl : s.heap.IsList l items) (hne : l ≠ it) (hn : items.size ≤ sizeLine)
    (hQ : ∀ (h' : Heap) (tk : Nat) (acc : Array Value) (c : Nat), (∀ b o, b ≠ it → s.heap.get? b = some o → h'.get? b = some o) → h'.get? s.heap.objs.size = some { cls := .type "list", data := .seq acc c } →
      ItemsOf (fun i v => items[items.size - 1 - i]? = some v) acc items.size → Q (.ref s.heap.objs.size) { s with heap := h', toks := tk }) :
    wpAny (model prog w) A (call (.type "list") [.ref it]) Q E s := by
  refine callType_codes (Q₁ := fun obj s₁ => obj = .ref s.heap.objs.size ∧ s₁ = { s with heap := s.heap.push { cls := .type "list", data := .seq #[] } }) F.called_list (F.typeCall_list_1 _) F.entry_list_init
    (code_list_new _ ⟨rfl, rfl⟩) fun obj s₁ h₁ => ?_
  obtain ⟨rfl, rfl⟩ := h₁
  have hS : (s.heap.push { cls := .type "list", data := .seq #[] }).get? s.heap.objs.size = some { cls := .type "list", data := .seq #[] } := Heap.get?_push_size _ rfl
  refine ⟨⟨_, hS, rfl⟩, F.args_list_init_2 _ _, ?_⟩
  generalize hSe : s.heap.objs.size = S at hS ⊢
  obtain ⟨oi, hoi, _⟩ := id hit
  obtain ⟨ol, hol, _⟩ := id hl
  have hSi : S ≠ it := by rw [← hSe]; exact Nat.ne_of_gt (Heap.lt_size hoi)
  have hSl : S ≠ l := by rw [← hSe]; exact Nat.ne_of_gt (Heap.lt_size hol)
  have hSf : S ∉ [it, l] := by simp only [List.mem_cons, List.not_mem_nil, or_false, not_or]; exact ⟨hSi, hSl⟩
  show wpAny _ _ (do let old ← Builtin.List.listItems (.ref S); Builtin.List.listUpdate (.ref S) (fun _ => #[]); letGo old.toList.reverse; Builtin.List.listExtendWith (.ref S) (.ref it) .none) _ _ _
  refine wpAny_bind ?_
  unfold Builtin.List.listItems
  refine wpAny_bind (wpAny_seqItems hS rfl (wpAny_pure ?_))
  show wpAny _ _ (updateSeq S (fun _ => #[]) >>= fun _ => letGo (#[] : Array Value).toList.reverse >>= fun _ => Builtin.List.listExtendWith (.ref S) (.ref it) .none) _ _ _
  refine wpAny_bind (wpAny_updateSeq hS rfl ?_)
  have hS₂ := Heap.get?_update_self (Obj.mapSeq (fun _ => (#[] : Array Value))) hS rfl
  have oth : ∀ b o, b ≠ S → s.heap.get? b = some o → ((s.heap.push { cls := .type "list", data := .seq #[] }).update S (Obj.mapSeq (fun _ => (#[] : Array Value)))).get? b = some o :=
    fun b o hb e => (Heap.get?_update_other _ _ (Ne.symm hb)).trans (Heap.get?_push_of_some _ e)
  generalize hh2 : (s.heap.push { cls := .type "list", data := .seq #[] }).update S (Obj.mapSeq (fun _ => (#[] : Array Value))) = h2 at hS₂ oth ⊢
  refine wpAny_bind (wpAny_letGo ?_)
  have hit1 : h2.IsRevIter it l ((items.size : Int) - 1) := hit.at fun o e => oth it o (Ne.symm hSi) e
  have hl1 : h2.IsList l items := by
    obtain ⟨o, a, b, c, d⟩ := hl
    exact ⟨o, oth l o (Ne.symm hSl) a, b, c, d⟩
  have hT : ({ s with heap := h2 } : Shared).TypeIs (.ref it) "list_reverseiterator" := Heap.IsRevIter.typeIs (s := { s with heap := h2 }) hit1
  have h1 : Builtin.List.listSameRef (.ref S) (.ref it) = false := by simp [Builtin.List.listSameRef, hSi]
  have W := (Walks.listRev (prog := prog) (w := w) (A := A.in1.in1) hh it l hne items).toS
  unfold Builtin.List.listExtendWith
  refine wpAny_bind (wpAny_typeOf hT ?_)
  rw [if_neg (by rw [h1]; decide)]
  refine wpAny_bind (wpAny_pyIter_revIter (s := { s with heap := h2 }) hit1 ?_)
  refine wpAny_bind (wpAny_holding ?_)
  unfold Builtin.List.listLengthHint
  refine wpAny_bind (wpAny_specialOf hT RT.nolen_lri ?_)
  show wpAny _ _ (specialOf (Value.ref it) (Str.ofString "__length_hint__") >>= _) _ _ _
  refine wpAny_bind (wpAny_specialOf hT RT.hint_lri ?_)
  generalize hid : ("list_reverseiterator.__length_hint__" : String) = id0
  wp_delta
  rw [show splitId id0 = some ("list_reverseiterator", "__length_hint__") from by subst hid; decide +kernel]
  subst hid
  refine wpAny_bind (wpAny_isInstance (b := true) hT (by rw [isSubtype_type]; kernel_rfl) ?_)
  refine wpAny_pure ?_
  rw [if_neg (by decide)]
  have e0 : ((items.size : Nat) : Int) - 1 - ((0 : Nat) : Int) = (items.size : Int) - 1 := by omega
  refine wpAny_pure ⟨plainId_quiet F.plain_extend_loop _, codeAny_extend_loopS W hn _ hSf _ items.size 0 _ _ _ rfl (Nat.zero_le _) ⟨Nat.zero_le _, by rw [e0]; exact hit1, hl1⟩ hS₂ (ItemsOf.nil _) fun s' acc' c' hm hS' hacc => ?_⟩
  refine ⟨rfl, ?_⟩
  rw [Moved.eq_with hm]
  have goal := hQ s'.heap s'.toks acc' c' (fun b o hb e => hm.heap b o (fun hmem => ?_) (oth b o (by rw [← hSe]; exact Nat.ne_of_lt (Heap.lt_size e)) e)) (by rw [hSe]; exact hS') hacc
  · rw [hSe] at goal
    exact goal
  · rcases List.mem_cons.mp hmem with e' | hmem
    · exact absurd (Heap.lt_size e) (by rw [e', ← hSe]; exact Nat.lt_irrefl _)
    · exact hb (List.mem_singleton.mp hmem)
end
section
variable {X : Cx}
def tListRev (K : PySem.W.Frag) (te : TE) : TE := fun σ H Q => te σ H fun v H1 => ∃ (a : Addr) (xs : List V), v = .ref a ∧ SqL K H1 a xs ∧ ∀ q, H1 q = none → Q (.ref q) (upd H1 q (.lst xs.reverse))
theorem pe_listRev {e : Expr} {te : TE} {p p2 pos pos2 : Pos} (hc : X.calm = true) (hm : X.mg "list" = none) (hm2 : X.mg "reversed" = none) (he : PE X e te) (hg : Gl X "list" := by rfl) (hg2 : Gl X "reversed" := by rfl)
    (hs : starEach [e] X.env = (false, eval e X.env) :: starEach [] X.env := by rfl)
    (hs2 : starEach [.Call (.Name "reversed" p2) [e] [] pos2] X.env = (false, eval (.Call (.Name "reversed" p2) [e] [] pos2) X.env) :: starEach [] X.env := by rfl) :
    PE X (.Call (.Name "list" p) [.Call (.Name "reversed" p2) [e] [] pos2] [] pos) (tListRev X.K te) := by
  refine ⟨fun pins s σ H Q I h => ?_⟩
  refine Call_ (ld_blt I hg hm boot_list (PyProof.Rows.callWith_type1 (args_cons (Call_ (ld_blt I hg2 hm2 PyProof.Rows.boot_reversed (PyProof.Rows.callWith_type1 (args_cons (thn (he.run pins s σ H _ I h) fun u s1 hh => args_nil ?_) hs) hs rfl))) hs2) hs2 rfl))
  obtain ⟨v, H1, I1, r1, a, xs, ev, hq, q⟩ := hh
  subst ev
  obtain rfl : u = Value.ref a := r1
  obtain ⟨its, rv, p', hz⟩ := I1.list hq
  refine call_reversed_list p'.isList (args_nil ?_)
  have k0 : ∀ b o, s1.heap.get? b = some o → (s1.heap.push (revObj a ((its.toArray.size : Int) - 1))).get? b = some o := fun b o e => Heap.get?_push_of_some _ e
  have I2 : Inv X pins σ H1 { s1 with heap := s1.heap.push (revObj a ((its.toArray.size : Int) - 1)) } := I1.kept (t' := s1.toks) k0
  obtain ⟨f0, f1, f2, f3, f4, f5⟩ := I1.fpOk (H' := H1) (b := s1.heap.objs.size) (Nat.le_refl _) (I1.hok.fresh (Nat.le_refl _))
  have hl := p'.isList
  obtain ⟨ol, hol, _⟩ := id hl
  have hne : a ≠ s1.heap.objs.size := Nat.ne_of_lt (Heap.lt_size hol)
  have hn : its.toArray.size ≤ sizeLine := by rw [List.size_toArray, ← rv.length]; exact hz
  refine call_list_rev (s := { s1 with heap := s1.heap.push (revObj a ((its.toArray.size : Int) - 1)) }) (I1.ok.hd hc) ⟨_, Heap.get?_push_size _ rfl, rfl, rfl⟩ (hl.push _) hne hn fun h' tk acc c hk hS hi => ?_
  have hle : s1.heap.objs.size ≤ (s1.heap.push (revObj a ((its.toArray.size : Int) - 1))).objs.size := by rw [Heap.size_push]; exact Nat.le_succ _
  generalize hS1 : (s1.heap.push (revObj a ((its.toArray.size : Int) - 1))).objs.size = S at hS hle ⊢
  refine ⟨.ref S, upd H1 S (.lst xs.reverse), I1.laid (t' := tk) (h' := h') (fun b o e => hk b o (Nat.ne_of_lt (Heap.lt_size e)) (k0 b o e)) hle (show ObjOk X.prog X.w _ _ _ (.lst xs.reverse) from ⟨by rw [List.length_reverse]; exact hz, acc.toList, c, RT.vals_rev rv hi, ?_⟩), rfl, q _ (I1.hok.fresh hle)⟩
  rw [Array.toArray_toList]
  exact hS
end
/-! ### readings under names of their own -/
def rISub : R2 := rI0 fun i j => .int (i - j)
def rIMod : R2 := rI (fun _ j => 0 < j) fun i j => .int (i % j)
def rIDiv : R2 := rI CDiv fun i j => .int (i / j)
def rIPow : R2 := rI CPow fun i j => .int (i ^ j.toNat)
def rINeg : V → Hp → VK → Prop := rU fun i => .int (-i)
def rAbs : List V → Hp → VK → Prop := fun xs H Q => ∃ i, xs = [.int i] ∧ Q (.int (if i < 0 then -i else i)) H
def rMax2 : List V → Hp → VK → Prop := fun xs H Q => ∃ i j, xs = [.int i, .int j] ∧ Q (.int (if j > i then j else i)) H
def rMin2 : List V → Hp → VK → Prop := fun xs H Q => ∃ i j, xs = [.int i, .int j] ∧ Q (.int (if j < i then j else i)) H
def rInt : List V → Hp → VK → Prop := fun xs H Q => (∃ i, xs = [.int i] ∧ Q (.int i) H) ∨ ∃ k, xs = [.bl k] ∧ Q (.int (if k then 1 else 0)) H
def rTupleOf (K : PySem.W.Frag) : List V → Hp → VK → Prop := fun xs H Q => ∃ p ys, xs = [.ref p] ∧ ((SqL K H p ys ∧ ∀ l, H l = none → Q (.ref l) (upd H l (.tup ys))) ∨ (SqT K H p ys ∧ Q (.ref p) H))
def rListOf (K : PySem.W.Frag) : List V → Hp → VK → Prop := fun xs H Q => ∃ p ys, xs = [.ref p] ∧ (SqL K H p ys ∨ SqT K H p ys) ∧ ∀ l, H l = none → Q (.ref l) (upd H l (.lst ys))
def rInsert : V → List V → Hp → VK → Prop := fun x vs H Q => ∃ (l : Addr) (xs : List V) (i : Int) (y : V), x = .ref l ∧ vs = [.int i, y] ∧ H l = some (.lst xs) ∧ xs.length < sizeLine ∧ 0 ≤ i ∧ i < 2 ^ 63 ∧ Q .non (upd H l (.lst (xs.take i.toNat ++ [y] ++ xs.drop i.toNat)))
def uLen (K : PySem.W.Frag) : List V → Hp → VK → Prop := fun xs H Q => ∃ x n, xs = [x] ∧ LenV K x H n ∧ Q (.int n) H
def uAdd (K : PySem.W.Frag) : R2 := fun x y H Q => rI0 (fun i j => .int (i + j)) x y H Q ∨ (∃ i j, x = .str i ∧ y = .str j ∧ i.length + j.length ≤ sizeLine ∧ Q (.str (i ++ j)) H) ∨ rCat x y H Q ∨ rCatA K x y H Q
def uMul : R2 := fun x y H Q => rI CMul (fun i j => .int (i * j)) x y H Q ∨ rRep x y H Q
def uEq (K : PySem.W.Frag) : R2 := fun x y H Q => rEq x y H Q ∨ rEqD K x y H Q
def uNe (K : PySem.W.Frag) : R2 := fun x y H Q => rNe x y H Q ∨ rNeD K x y H Q
def uLt (_ : PySem.W.Frag) : R2 := rI0 fun i j => .bl (decide (i < j))
def uLe (_ : PySem.W.Frag) : R2 := rI0 fun i j => .bl (decide (i ≤ j))
def uGt (_ : PySem.W.Frag) : R2 := rI0 fun i j => .bl (decide (j < i))
def uGe (_ : PySem.W.Frag) : R2 := rI0 fun i j => .bl (decide (j ≤ i))
def uIs : R2 := fun x y H Q => y = .non ∧ Q (.bl (decide (x = .non))) H
def uIsNot : R2 := fun x y H Q => y = .non ∧ Q (.bl (!decide (x = .non))) H
def uIn (K : PySem.W.Frag) : R2 := fun x y H Q => rIn K false x y H Q ∨ rInD K x y H Q
def uNotIn (K : PySem.W.Frag) : R2 := fun x y H Q => rIn K true x y H Q ∨ rNotInD K x y H Q
def uSl (K : PySem.W.Frag) : V → Option Int → Option Int → Hp → VK → Prop := fun x lo hi H Q => rSlL K x lo hi H Q ∨ rSlA K x lo hi H Q
def tTru (K : PySem.W.Frag) (ta : TE) : TT := fun σ H Q => ta σ H fun x H' => ∃ k, TruV K x H' k ∧ Q k H'
def tRaiseN (W : WX) (C : Addr) : TS := fun _ σ H => W (.ref C) none σ H
def tTryAs (K : PySem.W.Frag) (c : Value) (i : Nat) (tb : WX → TS) (ts : Addr → Value → Option Addr → TS) (Wout : WX) : TS := fun D σ H => tb (wAs K c i ts Wout D) D σ H
section
variable {X : Cx}
theorem u_len : CallR X (.builtin "len") (uLen X.K) := call_len
theorem u_add : OpR X (binaryOp .Add) (uAdd X.K) := op_add.or (op_add_str.or (op_cat.or op_catA))
theorem u_mul : OpR X (binaryOp .Mult) uMul := op_mul.or op_rep
theorem u_eq {k : Nat} (hr : Room k X.A) : OpR X (compareOp .Eq) (uEq X.K) := op_eq.or (op_eqD hr.units)
theorem u_ne {k : Nat} (hr : Room k X.A) : OpR X (compareOp .NotEq) (uNe X.K) := op_ne.or (op_neD hr.units)
theorem u_lt : OpR X (compareOp .Lt) (uLt X.K) := op_lt
theorem u_le : OpR X (compareOp .LtE) (uLe X.K) := op_le
theorem u_gt : OpR X (compareOp .Gt) (uGt X.K) := op_gt
theorem u_ge : OpR X (compareOp .GtE) (uGe X.K) := op_ge
theorem u_is : OpR X (compareOp .Is) uIs := op_isN
theorem u_isnot : OpR X (compareOp .IsNot) uIsNot := op_notN
theorem room65 {k : Nat} {A : Around} (hr : Room k A) : A.units + 65 < cLine := by have := hr.un; omega
theorem u_in {k : Nat} (hr : Room k X.A) : OpR X (compareOp .In) (uIn X.K) := op_in_seq.or (op_inD (room65 hr))
theorem u_notin {k : Nat} (hr : Room k X.A) : OpR X (compareOp .NotIn) (uNotIn X.K) := op_notIn_seq.or (op_notInD (room65 hr))
theorem u_sl : SlR X (uSl X.K) := sl_list.or sl_tupA
theorem u_eqH {k : Nat} (hr : L2H.RoomH k X.A) : OpR X (compareOp .Eq) (uEq X.K) := op_eq.or (op_eqD (by have := hr.un; omega))
theorem pt_tru {a : Expr} {ta : TE} (ha : PE X a ta) (he : ∀ whole, isTrue a X.env whole = (do let v ← whole; standAt a.pos; holding [v] (truthy v)) := by intro _; rfl) : PT X a (tTru X.K ta) := pt_truth ha he
theorem takesN0 : L2N.Takes X (fun _ _ _ _ => False) := fun _ _ h => by
  obtain ⟨_, _, _, _, _, _, _, _, _, _, _, _, _, _, _, _, z⟩ := h
  exact z.elim
theorem tkN {E : XK} (hs : X.stack = X.env :: X.outer) (hf : X.env.frame = some X.env.locals) (hex : X.ex = []) {E₁ : Value → Shared → Prop}
    (hx : X.xe = fun e s' => wpAny (model X.prog X.w) X.A (leaving X.env e) (fun _ s'' => L2N.CX X.prog X.w X.outer X.H_0 X.s_0 E e s'') E₁ s') : L2N.Takes X (fun cls d _ H => E cls d H) := L2N.takes_of hs hf hex hx
end
/-! ### what the top has written, def by def -/
structure FnAt (K : PySem.W.Frag) (mg : Str → Option Value) (x : Str) (st : Stmt) (ps : List Str) where
  a : Addr
  fd : FuncData
  F : Fun K x x st a fd
  b : Binds K fd ps []
  g : mg x = some (.ref a)
structure MeAt (K : PySem.W.Frag) (C : Addr) (x qual : Str) (st : Stmt) (ps : List Str) where
  a : Addr
  fd : FuncData
  F : Fun K x qual st a fd
  b : Binds K fd ps []
  m : Meth K C x a
structure InAt (K : PySem.W.Frag) (mg : Str → Option Value) (C : Addr) (x qual : Str) (st : Stmt) (ps : List Str) where
  a : Addr
  fd : FuncData
  F : Fun K "__init__" qual st a fd
  b : Binds K fd ps []
  made : Mk K C a
  cl : Cls K C
  g : mg x = some (.ref C)
/-- an exception's class -/
structure ExAt (K : PySem.W.Frag) (mg : Str → Option Value) (x : Str) (C : Addr) : Prop where
  ex : PySem.W.excIn K C [.type "ValueError", .type "Exception", .type "BaseException", .type "object"] "ValueError.__new__" = true
  g : mg x = some (.ref C)
  k : PySem.W.keepIn K (.ref C) = true
  b : PySem.W.subIn K (.ref C) (.type "BaseException") = some true
  t : PySem.W.typeIn K (.ref C) = some (.type "type")
  e : ExcC K C
structure CoAt (K : PySem.W.Frag) (mg : Str → Option Value) (x : Str) (v : V) : Prop where
  ex : ∃ u, mg x = some u ∧ RelV v u
/-! ### readings that reckon: by cases of what stands, so that simp goes through them -/
section
variable {X : Cx}
theorem peI {e : Expr} {t u : TE} (h : PE X e t) (i : ∀ σ H Q, u σ H Q → t σ H Q) : PE X e u := ⟨fun pins s σ H Q I q => h.run pins s σ H Q I (i σ H Q q)⟩
theorem ptI {e : Expr} {t u : TT} (h : PT X e t) (i : ∀ σ H Q, u σ H Q → t σ H Q) : PT X e u := ⟨fun pins s σ H Q I q => h.run pins s σ H Q I (i σ H Q q)⟩
theorem psI {e : Stmt} {t u : TS} (h : PS X e t) (i : ∀ D σ H, u D σ H → t D σ H) : PS X e u := ⟨fun pins s σ H D I q => h.run pins s σ H D I (i D σ H q)⟩
theorem pgI {e : Expr} {t u : TG} (h : PG X e t) (i : ∀ v σ H Q, u v σ H Q → t v σ H Q) : PG X e u := ⟨fun pins s σ H v w Q I r q => h.run pins s σ H v w Q I r (i v σ H Q q)⟩
theorem pgsI {e : List Expr} {t u : TGs} (h : PGs X e t) (i : ∀ v σ H Q, u v σ H Q → t v σ H Q) : PGs X e u := ⟨fun pins s σ H v w Q I r q => h.run pins s σ H v w Q I r (i v σ H Q q)⟩
theorem opM {f : Value → Value → Sem Value} {r r' : R2} (h : OpR X f r) (i : ∀ x y H Q, r' x y H Q → r x y H Q) : OpR X f r' := fun pins s σ H x y v u Q I rx ry q => h pins s σ H x y v u Q I rx ry (i x y H Q q)
theorem ixM {r r' : R2} (h : IxR X r) (i : ∀ x y H Q, r' x y H Q → r x y H Q) : IxR X r' := fun va sl pins s σ H x y v u Q I rx ry q z => h va sl pins s σ H x y v u Q I rx ry (i x y H Q q) z
theorem unM {f : Value → Sem Value} {r r' : V → Hp → VK → Prop} (h : UnR X f r) (i : ∀ x H Q, r' x H Q → r x H Q) : UnR X f r' := fun pins s σ H x v Q I rx q => h pins s σ H x v Q I rx (i x H Q q)
theorem caM {f : Value} {r r' : List V → Hp → VK → Prop} (h : CallR X f r) (i : ∀ x H Q, r' x H Q → r x H Q) : CallR X f r' := fun pins s σ H xs us Q I rx q => h pins s σ H xs us Q I rx (i xs H Q q)
theorem mtM {id : String} {r r' : V → List V → Hp → VK → Prop} (h : MtR X id r) (i : ∀ x xs H Q, r' x xs H Q → r x xs H Q) : MtR X id r' := fun pins s σ H x xs v us Q I rx rxs q => h pins s σ H x xs v us Q I rx rxs (i x xs H Q q)
/-- what is wanted may be weakened -/
def mE (t : TE) : TE := fun σ H Q => ∃ P : VK, t σ H P ∧ ∀ v H', P v H' → Q v H'
def mT (t : TT) : TT := fun σ H Q => ∃ P : Bool → Hp → Prop, t σ H P ∧ ∀ v H', P v H' → Q v H'
def mA (t : TA) : TA := fun σ H Q => ∃ P : List V → Hp → Prop, t σ H P ∧ ∀ v H', P v H' → Q v H'
theorem peM {e : Expr} {t : TE} (h : PE X e t) : PE X e (mE t) := ⟨fun pins s σ H Q I q => by
  obtain ⟨P, q, i⟩ := q
  refine thn (h.run pins s σ H P I q) fun v s1 hh => ?_
  obtain ⟨x, H1, I1, r1, q1⟩ := hh
  exact ⟨x, H1, I1, r1, i _ _ q1⟩⟩
theorem ptM {e : Expr} {t : TT} (h : PT X e t) : PT X e (mT t) := ⟨fun pins s σ H Q I q => by
  obtain ⟨P, q, i⟩ := q
  refine thn (h.run pins s σ H P I q) fun v s1 hh => ?_
  obtain ⟨H1, I1, q1⟩ := hh
  exact ⟨H1, I1, i _ _ q1⟩⟩
theorem paM {e : List Expr} {t : TA} (h : PA X e t) : PA X e (mA t) := ⟨fun pos pins s σ H Q I q => by
  obtain ⟨P, q, i⟩ := q
  refine thn (h.run pos pins s σ H P I q) fun v s1 hh => ?_
  obtain ⟨x, H1, I1, r1, q1⟩ := hh
  exact ⟨x, H1, I1, r1, i _ _ q1⟩⟩
end
/-- a name's slot -/
def dVar (i : Nat) : TE := fun σ H Q => match σ[i]? with
  | some (some v) => Q v H
  | _ => False
/-- what stands as a list, as a tuple -/
def lstAt (o : Option HO) (k : List V → Prop) : Prop := match o with
  | some (.lst xs) => k xs
  | some (.frz _ (.lst xs)) => k xs
  | _ => False
def tupAt (o : Option HO) (k : List V → Prop) : Prop := match o with
  | some (.tup xs) => k xs
  | some (.frz _ (.tup xs)) => k xs
  | _ => False
def seqAt (o : Option HO) (k : List V → Prop) : Prop := match o with
  | some (.lst xs) => k xs
  | some (.tup xs) => k xs
  | some (.frz _ (.lst xs)) => k xs
  | some (.frz _ (.tup xs)) => k xs
  | _ => False
theorem lstAt_sq {K : PySem.W.Frag} {H : Hp} {a : Addr} {k : List V → Prop} (h : lstAt (H a) k) : ∃ xs, SqL K H a xs ∧ k xs := by
  unfold lstAt at h
  split at h
  · rename_i xs e
    exact ⟨xs, .inl (.inl e), h⟩
  · rename_i o xs e
    exact ⟨xs, .inl (.inr ⟨o, e⟩), h⟩
  · exact h.elim
theorem tupAt_sq {K : PySem.W.Frag} {H : Hp} {a : Addr} {k : List V → Prop} (h : tupAt (H a) k) : ∃ xs, SqT K H a xs ∧ k xs := by
  unfold tupAt at h
  split at h
  · rename_i xs e
    exact ⟨xs, .inl (.inl e), h⟩
  · rename_i o xs e
    exact ⟨xs, .inl (.inr ⟨o, e⟩), h⟩
  · exact h.elim
theorem seqAt_sq {K : PySem.W.Frag} {H : Hp} {a : Addr} {k : List V → Prop} (h : seqAt (H a) k) : ∃ xs, (SqL K H a xs ∨ SqT K H a xs) ∧ k xs := by
  unfold seqAt at h
  split at h
  · rename_i xs e
    exact ⟨xs, .inl (.inl (.inl e)), h⟩
  · rename_i xs e
    exact ⟨xs, .inr (.inl (.inl e)), h⟩
  · rename_i o xs e
    exact ⟨xs, .inl (.inl (.inr ⟨o, e⟩)), h⟩
  · rename_i o xs e
    exact ⟨xs, .inr (.inl (.inr ⟨o, e⟩)), h⟩
  · exact h.elim
def dAdd : R2 := fun x y H Q => match x, y with
  | .int i, .int j => Q (.int (i + j)) H
  | .str i, .str j => i.length + j.length ≤ sizeLine ∧ Q (.str (i ++ j)) H
  | .ref a, .ref b => match H a, H b with
    | some (.lst xs), some (.lst ys) => xs.length + ys.length ≤ sizeLine ∧ ∀ p, H p = none → Q (.ref p) (upd H p (.lst (xs ++ ys)))
    | _, _ => False
  | _, _ => False
def dI2 (f : Int → Int → V) : R2 := fun x y H Q => match x, y with
  | .int i, .int j => Q (f i j) H
  | _, _ => False
def dI2C (C : Int → Int → Prop) (f : Int → Int → V) : R2 := fun x y H Q => match x, y with
  | .int i, .int j => C i j ∧ Q (f i j) H
  | _, _ => False
def dSub : R2 := dI2 fun i j => .int (i - j)
def dMod : R2 := dI2C (fun _ j => 0 < j) fun i j => .int (i % j)
def dDiv : R2 := dI2C CDiv fun i j => .int (i / j)
def dPow : R2 := dI2C CPow fun i j => .int (i ^ j.toNat)
def dLt : R2 := dI2 fun i j => .bl (decide (i < j))
def dLe : R2 := dI2 fun i j => .bl (decide (i ≤ j))
def dGt : R2 := dI2 fun i j => .bl (decide (j < i))
def dGe : R2 := dI2 fun i j => .bl (decide (j ≤ i))
def dMul : R2 := fun x y H Q => match x, y with
  | .int i, .int j => CMul i j ∧ Q (.int (i * j)) H
  | .ref a, .int k => match H a with
    | some (.lst xs) => -(2 ^ 63) ≤ k ∧ k < 2 ^ 63 ∧ xs.length * k.toNat ≤ sizeLine ∧ ∀ p, H p = none → Q (.ref p) (upd H p (.lst (List.replicate k.toNat xs).flatten))
    | _ => False
  | _, _ => False
/-- scalars alone -/
def dEq : R2 := fun x y H Q => match x, y with
  | .int i, .int j => Q (.bl (decide (i = j))) H
  | .str i, .str j => Q (.bl (decide (i = j))) H
  | .bl i, .bl j => Q (.bl (decide (i = j))) H
  | .non, .non => Q (.bl true) H
  | _, _ => scal x y = true ∧ Q (.bl (decide (x = y))) H
def dNe : R2 := fun x y H Q => dEq x y H fun v H' => match v with
  | .bl b => Q (.bl (!b)) H'
  | _ => False
/-- data -/
def dEqD (K : PySem.W.Frag) : R2 := rEqD K
def dNeD (K : PySem.W.Frag) : R2 := rNeD K
def isNon : V → Bool
  | .non => true
  | _ => false
def dIs : R2 := fun x y H Q => match y with
  | .non => Q (.bl (isNon x)) H
  | _ => False
def dIsNot : R2 := fun x y H Q => match y with
  | .non => Q (.bl (!isNon x)) H
  | _ => False
def dNeg : V → Hp → VK → Prop := fun x H Q => match x with
  | .int i => Q (.int (-i)) H
  | _ => False
def dAbs : List V → Hp → VK → Prop := fun xs H Q => match xs with
  | [.int i] => Q (.int (if i < 0 then -i else i)) H
  | _ => False
def dMax2 : List V → Hp → VK → Prop := fun xs H Q => match xs with
  | [.int i, .int j] => Q (.int (if j > i then j else i)) H
  | _ => False
def dMin2 : List V → Hp → VK → Prop := fun xs H Q => match xs with
  | [.int i, .int j] => Q (.int (if j < i then j else i)) H
  | _ => False
def dInt : List V → Hp → VK → Prop := fun xs H Q => match xs with
  | [.int i] => Q (.int i) H
  | [.bl k] => Q (.int (if k then 1 else 0)) H
  | _ => False
def dLen : List V → Hp → VK → Prop := fun xs H Q => match xs with
  | [.ref p] => seqAt (H p) fun ys => Q (.int ys.length) H
  | [.str z] => z.length ≤ sizeLine ∧ Q (.int z.length) H
  | _ => False
/-- list(x) -/
def dListOf : List V → Hp → VK → Prop := fun xs H Q => match xs with
  | [.ref p] => seqAt (H p) fun ys => ∀ l, H l = none → Q (.ref l) (upd H l (.lst ys))
  | _ => False
def dTupleOf : List V → Hp → VK → Prop := fun xs H Q => match xs with
  | [.ref p] => match H p with
    | some (.lst ys) => ∀ l, H l = none → Q (.ref l) (upd H l (.tup ys))
    | some (.tup _) => Q (.ref p) H
    | _ => False
  | _ => False
/-- an item by its place -/
def atK (xs : List V) (i : Int) (k : V → Prop) : Prop := match atI xs i with
  | some v => k v
  | none => False
def dIx : R2 := fun x y H Q => match x, y with
  | .ref p, .int i => seqAt (H p) fun xs => atK xs i fun v => Q v H
  | _, _ => False
def dFld (C : Addr) (ta : TE) (f : Str) : TE := fun σ H Q => ta σ H fun x H1 => match x with
  | .ref a => match H1 a with
    | some (.ins C' _ fs) => C' = C ∧ match fs.lookup f with
      | some v => Q v H1
      | none => False
    | _ => False
  | _ => False
def dSFld (C : Addr) (ta tv : TE) (f : Str) : TS := fun D σ H => tv σ H fun y H1 => ta σ H1 fun x H2 => match x with
  | .ref a => match H2 a with
    | some (.ins C' dx fs) => C' = C ∧ fs.length < 1000 ∧ D.nx σ (upd H2 a (.ins C dx (putF f y fs)))
    | _ => False
  | _ => False
/-- o.f op= e, ints: op by g -/
def dSAug (C : Addr) (ta tv : TE) (g : Int → Int → Int) (f : Str) : TS := fun D σ H => ta σ H fun x H1 => match x with
  | .ref a => match H1 a with
    | some (.ins C' _ fs) => C' = C ∧ match fs.lookup f with
      | some (.int i) => tv σ H1 fun y H2 => match y with
        | .int j => match H2 a with
          | some (.ins C2 dx fs2) => C2 = C ∧ fs2.length < 1000 ∧ D.nx σ (upd H2 a (.ins C dx (putF f (.int (g i j)) fs2)))
          | _ => False
        | _ => False
      | _ => False
    | _ => False
  | _ => False
def dAug (i : Nat) (te : TE) (g : Int → Int → Int) : TS := fun D σ H => match σ[i]? with
  | some (some (.int x)) => te σ H fun y H1 => match y with
    | .int j => D.nx (σ.set i (some (.int (g x j)))) H1
    | _ => False
  | _ => False
def dTest (t : TE) : TT := fun σ H Q => t σ H fun x H' => match x with
  | .bl k => Q k H'
  | _ => False
/-- truth of what is a bool, an int, none, a list, a tuple -/
def dTru (ta : TE) : TT := fun σ H Q => ta σ H fun x H' => match x with
  | .bl k => Q k H'
  | .non => Q false H'
  | .int i => Q (i != 0) H'
  | .ref p => seqAt (H' p) fun xs => Q (!xs.isEmpty) H'
  | _ => False
def dAndV (ta tb : TE) : TE := fun σ H Q => ta σ H fun x H1 => match x with
  | .bl c => if c = true then tb σ H1 Q else Q (.bl false) H1
  | _ => False
def dOrV (ta tb : TE) : TE := fun σ H Q => ta σ H fun x H1 => match x with
  | .bl c => if c = true then Q (.bl true) H1 else tb σ H1 Q
  | _ => False
def dNotV (ta : TE) : TE := fun σ H Q => ta σ H fun x H1 => match x with
  | .bl c => Q (.bl (!c)) H1
  | _ => False
def dChain (r r' : R2) (ta tb tc : TE) : TE := fun σ H Q => ta σ H fun x H1 => tb σ H1 fun y H2 => r x y H2 fun z H3 => match z with
  | .bl k => if k = true then tc σ H3 fun w' H4 => r' y w' H4 Q else Q (.bl false) H3
  | _ => False
/-- methods of lists -/
def dAppend : V → List V → Hp → VK → Prop := fun x vs H Q => match x, vs with
  | .ref l, [y] => match H l with
    | some (.lst xs) => xs.length < sizeLine ∧ Q .non (upd H l (.lst (xs ++ [y])))
    | _ => False
  | _, _ => False
def dPop : V → List V → Hp → VK → Prop := fun x vs H Q => match x, vs with
  | .ref l, [] => match H l with
    | some (.lst xs) => match xs.getLast? with
      | some y => Q y (upd H l (.lst xs.dropLast))
      | none => False
    | _ => False
  | _, _ => False
/-- pop(i), 0 ≤ i -/
def dPopAt : V → List V → Hp → VK → Prop := fun x vs H Q => match x, vs with
  | .ref l, [.int i] => match H l with
    | some (.lst xs) => 0 ≤ i ∧ i < 2 ^ 63 ∧ match xs[i.toNat]? with
      | some y => Q y (upd H l (.lst (xs.eraseIdx i.toNat)))
      | none => False
    | _ => False
  | _, _ => False
def dInsert : V → List V → Hp → VK → Prop := fun x vs H Q => match x, vs with
  | .ref l, [.int i, y] => match H l with
    | some (.lst xs) => xs.length < sizeLine ∧ 0 ≤ i ∧ i < 2 ^ 63 ∧ Q .non (upd H l (.lst (xs.take i.toNat ++ [y] ++ xs.drop i.toNat)))
    | _ => False
  | _, _ => False
/-- a method of a list (a tracked one) -/
def dBM (r : V → List V → Hp → VK → Prop) (to : TE) (t : TA) : TE := fun σ H Q => to σ H fun x H1 => match x with
  | .ref l => match H1 l with
    | some (.lst _) => t σ H1 fun xs H2 => r x xs H2 Q
    | _ => False
  | _ => False
def dMethE (C : Addr) (m : Str) (sp : Sp) (E : L2.St → XK) (ta : TE) (t : TA) : TE := fun σ H Q => ta σ H fun x H1 => match x with
  | .ref a => match H1 a with
    | some (.ins C' _ fs) => C' = C ∧ fs.lookup m = none ∧ t σ H1 fun vs H2 => sp (x :: vs) H2 Q (E σ)
    | _ => False
  | _ => False
def dPar (i j : Nat) (ta : TA) : TS := fun D σ H => ta σ H fun vs H1 => match vs with
  | [v, w] => D.nx ((σ.set i (some v)).set j (some w)) H1
  | _ => False
def dPar3 (i j l : Nat) (ta : TA) : TS := fun D σ H => ta σ H fun vs H1 => match vs with
  | [u, v, w] => D.nx (((σ.set i (some u)).set j (some v)).set l (some w)) H1
  | _ => False
/-- targets -/
def dgTup (n : Nat) (t : TGs) : TG := fun v σ H Q => match v with
  | .ref a => tupAt (H a) fun xs => xs.length = n ∧ t xs σ H Q
  | _ => False
def dgCons (t : TG) (u : TGs) : TGs := fun vs σ H Q => match vs with
  | v :: r => t v σ H fun σ' H' => u r σ' H' Q
  | [] => False
def dgNil : TGs := fun vs σ H Q => match vs with
  | [] => Q σ H
  | _ => False
section
variable {X : Cx}
theorem dv (i : Nat) {x : Str} {pos : Pos} (hN : X.N[i]? = some x := by rfl) (hv : Vis X.env.scope x := by first | exact Or.inl rfl | exact Or.inr (Or.inl rfl) | exact Or.inr (Or.inr rfl)) (hd : (x == ("__debug__" : Str)) = false := by decide)
    (hcd : (x == ("__classdict__" : Str)) = false := by decide) : PE X (.Name x pos) (dVar i) := peI (pe_var hN hv hd hcd) fun σ H Q h => by
  unfold dVar at h
  split at h
  · rename_i v e
    exact ⟨v, e, h⟩
  · exact h.elim
theorem i2 {f : Int → Int → V} {op : Value → Value → Sem Value} (h : OpR X op (rI0 f)) : OpR X op (dI2 f) := opM h fun x y H Q q => by
  unfold dI2 at q
  split at q
  · exact ⟨_, _, rfl, rfl, q⟩
  · exact q.elim
theorem i2C {C : Int → Int → Prop} {f : Int → Int → V} {op : Value → Value → Sem Value} (h : OpR X op (rI C f)) : OpR X op (dI2C C f) := opM h fun x y H Q q => by
  unfold dI2C at q
  split at q
  · exact ⟨_, _, rfl, rfl, q.1, q.2⟩
  · exact q.elim
theorem d_sub : OpR X (binaryOp .Sub) dSub := i2 op_sub
theorem d_mod : OpR X (binaryOp .Mod) dMod := i2C op_mod
theorem d_div : OpR X (binaryOp .FloorDiv) dDiv := i2C op_fdiv
theorem d_pow : OpR X (binaryOp .Pow) dPow := i2C op_pow
theorem d_lt : OpR X (compareOp .Lt) dLt := i2 op_lt
theorem d_le : OpR X (compareOp .LtE) dLe := i2 op_le
theorem d_gt : OpR X (compareOp .Gt) dGt := i2 op_gt
theorem d_ge : OpR X (compareOp .GtE) dGe := i2 op_ge
theorem d_add : OpR X (binaryOp .Add) dAdd := opM (u_add (X := X)) fun x y H Q q => by
  unfold dAdd at q
  split at q
  · exact .inl ⟨_, _, rfl, rfl, q⟩
  · exact .inr (.inl ⟨_, _, rfl, rfl, q.1, q.2⟩)
  · split at q
    · rename_i h1 h2
      exact .inr (.inr (.inl ⟨_, _, _, _, rfl, rfl, h1, h2, q.1, q.2⟩))
    · exact q.elim
  · exact q.elim
theorem d_mul : OpR X (binaryOp .Mult) dMul := opM (u_mul (X := X)) fun x y H Q q => by
  unfold dMul at q
  split at q
  · exact .inl ⟨_, _, rfl, rfl, q.1, q.2⟩
  · split at q
    · rename_i h1
      exact .inr ⟨_, _, _, rfl, rfl, h1, q.1, q.2.1, q.2.2.1, q.2.2.2⟩
    · exact q.elim
  · exact q.elim
theorem dEq_r {x y : V} {H : Hp} {Q : VK} (q : dEq x y H Q) : rEq x y H Q := by
  unfold dEq at q
  split at q
  · refine ⟨rfl, ?_⟩
    rename_i i j
    have e : decide (V.int i = V.int j) = decide (i = j) := by simp
    rw [e]; exact q
  · refine ⟨rfl, ?_⟩
    rename_i i j
    have e : decide (V.str i = V.str j) = decide (i = j) := by simp
    rw [e]; exact q
  · refine ⟨rfl, ?_⟩
    rename_i i j
    have e : decide (V.bl i = V.bl j) = decide (i = j) := by simp
    rw [e]; exact q
  · exact ⟨rfl, q⟩
  · exact q
theorem d_eq : OpR X (compareOp .Eq) dEq := opM (op_eq (X := X)) fun x y H Q q => dEq_r q
theorem d_ne : OpR X (compareOp .NotEq) dNe := opM (op_ne (X := X)) fun x y H Q q => by
  obtain ⟨h1, h2⟩ := dEq_r (show dEq x y H _ from q)
  exact ⟨h1, h2⟩
theorem d_eqD {k : Nat} (hr : Room k X.A) : OpR X (compareOp .Eq) (dEqD X.K) := op_eqD hr.units
theorem d_neD {k : Nat} (hr : Room k X.A) : OpR X (compareOp .NotEq) (dNeD X.K) := op_neD hr.units
theorem d_is : OpR X (compareOp .Is) dIs := opM (op_isN (X := X)) fun x y H Q q => by
  unfold dIs at q
  split at q
  · refine ⟨rfl, ?_⟩
    have e : decide (x = V.non) = isNon x := by cases x <;> simp [isNon]
    rw [e]; exact q
  · exact q.elim
theorem d_isnot : OpR X (compareOp .IsNot) dIsNot := opM (op_notN (X := X)) fun x y H Q q => by
  unfold dIsNot at q
  split at q
  · refine ⟨rfl, ?_⟩
    have e : (!decide (x = V.non)) = !isNon x := by cases x <;> simp [isNon]
    rw [e]; exact q
  · exact q.elim
theorem d_neg : UnR X (unaryOp .USub) dNeg := unM (un_neg (X := X)) fun x H Q q => by
  unfold dNeg at q
  split at q
  · exact ⟨_, rfl, q⟩
  · exact q.elim
theorem d_abs : CallR X (.builtin "abs") dAbs := caM (call_abs (X := X)) fun xs H Q q => by
  unfold dAbs at q
  split at q
  · exact ⟨_, rfl, q⟩
  · exact q.elim
theorem d_max2 (hc : X.calm = true) : CallR X (.builtin "max") dMax2 := caM (call_max2 hc) fun xs H Q q => by
  unfold dMax2 at q
  split at q
  · exact ⟨_, _, rfl, q⟩
  · exact q.elim
theorem d_min2 (hc : X.calm = true) : CallR X (.builtin "min") dMin2 := caM (call_min2 hc) fun xs H Q q => by
  unfold dMin2 at q
  split at q
  · exact ⟨_, _, rfl, q⟩
  · exact q.elim
theorem d_int : CallR X (.type "int") dInt := caM (call_int1 (X := X)) fun xs H Q q => by
  unfold dInt at q
  split at q
  · exact .inl ⟨_, rfl, q⟩
  · exact .inr ⟨_, rfl, q⟩
  · exact q.elim
theorem d_len : CallR X (.builtin "len") dLen := caM (call_len (X := X)) fun xs H Q q => by
  unfold dLen at q
  split at q
  · obtain ⟨ys, h, k⟩ := seqAt_sq (K := X.K) q
    refine ⟨_, _, rfl, ?_, k⟩
    unfold LenV
    exact h.elim (fun h => .inl ⟨ys, h, rfl⟩) (fun h => .inr ⟨ys, h, rfl⟩)
  · exact ⟨_, _, rfl, ⟨q.1, rfl⟩, q.2⟩
  · exact q.elim
theorem d_listOf : CallR X (.type "list") dListOf := caM (call_list_of (X := X)) fun xs H Q q => by
  unfold dListOf at q
  split at q
  · obtain ⟨ys, h, k⟩ := seqAt_sq (K := X.K) q
    exact ⟨_, ys, rfl, h, k⟩
  · exact q.elim
theorem d_tupleOf : CallR X (.type "tuple") dTupleOf := caM (call_tuple_of (X := X)) fun xs H Q q => by
  unfold dTupleOf at q
  split at q
  · split at q
    · rename_i e
      exact ⟨_, _, rfl, .inl ⟨.inl (.inl e), q⟩⟩
    · rename_i e
      exact ⟨_, _, rfl, .inr ⟨.inl (.inl e), q⟩⟩
    · exact q.elim
  · exact q.elim
theorem d_ix : IxR X dIx := ixM (ix_seq (X := X)) fun x y H Q q => by
  unfold dIx at q
  split at q
  · obtain ⟨ys, h, k⟩ := seqAt_sq (K := X.K) q
    unfold atK at k
    split at k
    · rename_i e
      exact h.elim (fun h => .inl ⟨_, ys, _, _, rfl, rfl, h, e, k⟩) (fun h => .inr (.inl ⟨_, ys, _, _, rfl, rfl, h, e, k⟩))
    · exact k.elim
  · exact q.elim
variable {C : Addr} {e o a b c value : Expr} {es : List Expr} {ta tb tc tv te : TE} {t : TA} {f m : Str} {pos pos' tpos apos : Pos}
theorem d_fld (hc : Cls X.K C) (hn : NoAttr X.K C f) (he : PE X e ta) (hb : attributeBase e f X.env (eval e X.env) = eval e X.env := by rfl) : PE X (.Attribute e f pos) (dFld C ta f) :=
  peI (pe_fld (peM he) hb) fun σ H Q q1 => ⟨_, q1, fun v H' q2 => by
  split at q2
  · split at q2
    · rename_i h
      obtain ⟨e1, q2⟩ := q2
      subst e1
      split at q2
      · rename_i l
        exact ⟨_, _, _, _, _, rfl, h, hc, hn, l, q2⟩
      · exact q2.elim
    · exact q2.elim
  · exact q2.elim⟩
theorem d_sfld (hc : Cls X.K C) (hn : NoAttr X.K C f) (ha : PE X o ta) (hv : PE X value tv) (hs : swapsWith value (some (.Attribute o f pos')) pos.line X.env = pure false := by rfl) : PS X (.Assign [.Attribute o f pos'] value pos) (dSFld C ta tv f) :=
  psI (ps_fld (peM ha) (peM hv) hs) fun D σ H q1 => ⟨_, q1, fun y H1 q2 => ⟨_, q2, fun x H2 q3 => by
  split at q3
  · split at q3
    · rename_i h
      obtain ⟨e1, l, q3⟩ := q3
      subst e1
      exact ⟨_, _, _, _, rfl, h, hc, hn, l, q3⟩
    · exact q3.elim
  · exact q3.elim⟩⟩
theorem in_g {op : Operator} {g : Int → Int → Int} (h : OpR X (inplaceOp op) (rI0 fun i j => .int (g i j))) : InOp X op (fun x y H Q => ∃ i j, x = .int i ∧ y = .int j ∧ Q (.int (g i j)) H) := fun pins s σ H x y u v Q I rx ry q => h pins s σ H x y u v Q I rx ry q
theorem d_saug {op : Operator} {g : Int → Int → Int} (hop : OpR X (inplaceOp op) (rI0 fun i j => .int (g i j))) (hc : Cls X.K C) (hn : NoAttr X.K C f) (ha : PE X o ta) (hv : PE X value tv) : PS X (.AugAssign (.Attribute o f tpos) op value pos) (dSAug C ta tv g f) :=
  psI (ps_fldaug (peM ha) (peM hv) (in_g hop)) fun D σ H q1 => ⟨_, q1, fun x H1 q2 => by
  split at q2
  · split at q2
    · rename_i h
      obtain ⟨e1, q3⟩ := q2
      subst e1
      split at q3
      · rename_i l
        refine ⟨_, _, _, _, _, rfl, h, hc, hn, l, _, q3, fun y H2 q4 => ?_⟩
        split at q4
        · split at q4
          · rename_i h2
            obtain ⟨e2, l2, q5⟩ := q4
            subst e2
            exact ⟨_, _, rfl, rfl, _, _, h2, l2, q5⟩
          · exact q4.elim
        · exact q4.elim
      · exact q3.elim
    · exact q2.elim
  · exact q2.elim⟩
theorem ip_g {op : Operator} {g : Int → Int → Int} (h : OpR X (inplaceOp op) (rI0 fun i j => .int (g i j))) : PIp X op (ipI g) := fun pins s σ H x y v u Q I r1 r2 q => h pins s σ H x y v u Q I r1 r2 q
theorem d_aug {i : Nat} {x : Str} {op : Operator} {g : Int → Int → Int} {pos' : Pos} (hop : OpR X (inplaceOp op) (rI0 fun i j => .int (g i j))) (hN : X.N.Nodup) (hi : X.N[i]? = some x) (hx : Loc X.env.scope x) (he : PE X e te) (hf : X.fn x = true ∨ X.env.scope.names.lookup x = some .local := by first | exact .inl rfl | exact .inr rfl | assumption) :
    PS X (.AugAssign (.Name x pos') op e pos) (dAug i te g) := psI (ps_aug hN hi hx (peM he) (ip_g hop) hf) fun D σ H q1 => by
  unfold dAug at q1
  split at q1
  · rename_i x h
    refine ⟨_, h, _, q1, fun y H1 q2 => ?_⟩
    split at q2
    · exact ⟨_, _, rfl, rfl, q2⟩
    · exact q2.elim
  · exact q1.elim
theorem opMono {f : Value → Value → Sem Value} {r : R2} (ho : OpR X f r) : OpR X f (fun x y H Q => ∃ P : VK, r x y H P ∧ ∀ v H', P v H' → Q v H') := fun pins s σ H x y v u Q I rx ry q => by
  obtain ⟨P, q, i⟩ := q
  refine thn (ho pins s σ H x y v u P I rx ry q) fun w s1 hh => ?_
  obtain ⟨x1, H1, I1, r1, q1⟩ := hh
  exact ⟨x1, H1, I1, r1, i _ _ q1⟩
theorem dt_cmp {op : CmpOp} {r : R2} (ho : OpR X (compareOp op) r) (ha : PE X a ta) (hb : PE X b tb) (hm : behindInMarks op b = false) : PT X (.Compare a [op] [b] pos) (dTest (tOp r ta tb)) :=
  ptI (pt_cmpR (opMono ho) (peM ha) (peM hb) hm) fun σ H Q q1 => ⟨_, q1, fun x H1 q2 => ⟨_, q2, fun y H2 q3 => ⟨_, q3, fun v H' q4 => by
    split at q4
    · exact ⟨_, rfl, q4⟩
    · exact q4.elim⟩⟩⟩
theorem dt_tru (ha : PE X a ta) (he : ∀ whole, isTrue a X.env whole = (do let v ← whole; standAt a.pos; holding [v] (truthy v)) := by intro _; rfl) : PT X a (dTru ta) :=
  ptI (pt_truth (peM ha) he) fun σ H Q q1 => ⟨_, q1, fun v H' q2 => by
    split at q2
    · exact ⟨_, rfl, q2⟩
    · exact ⟨_, rfl, q2⟩
    · exact ⟨_, rfl, q2⟩
    · obtain ⟨xs, h, k⟩ := seqAt_sq (K := X.K) q2
      exact ⟨_, h.elim (fun h => .inl ⟨xs, h, rfl⟩) (fun h => .inr (.inl ⟨xs, h, rfl⟩)), k⟩
    · exact q2.elim⟩
theorem d_and {rest : List Expr} (ha : PE X a ta) (hb : PE X (.BoolOp .And (b :: rest) pos) tb) : PE X (.BoolOp .And (a :: b :: rest) pos) (dAndV ta tb) :=
  peI (pe_and (peM ha) hb) fun σ H Q q1 => ⟨_, q1, fun v H' q2 => by
    split at q2
    · exact ⟨_, rfl, q2⟩
    · exact q2.elim⟩
theorem d_or {rest : List Expr} (ha : PE X a ta) (hb : PE X (.BoolOp .Or (b :: rest) pos) tb) : PE X (.BoolOp .Or (a :: b :: rest) pos) (dOrV ta tb) :=
  peI (pe_or (peM ha) hb) fun σ H Q q1 => ⟨_, q1, fun v H' q2 => by
    split at q2
    · exact ⟨_, rfl, q2⟩
    · exact q2.elim⟩
theorem d_not (ha : PE X a ta) : PE X (.UnaryOp .Not a pos) (dNotV ta) :=
  peI (pe_not (peM ha)) fun σ H Q q1 => ⟨_, q1, fun v H' q2 => by
    split at q2
    · exact ⟨_, rfl, q2⟩
    · exact q2.elim⟩
theorem d_chain {op op' : CmpOp} {r r' : R2} (ho : OpR X (compareOp op) r) (ho' : OpR X (compareOp op') r') (ha : PE X a ta) (hb : PE X b tb) (hc : PE X c tc)
    (hm : lastMarks [op, op'] [b, c] = false := by with_unfolding_all rfl) : PE X (.Compare a [op, op'] [b, c] pos) (dChain r r' ta tb tc) :=
  peI (pe_chain (opMono ho) ho' (peM ha) (peM hb) hc hm) fun σ H Q q1 => ⟨_, q1, fun x H1 q2 => ⟨_, q2, fun y H2 q3 => ⟨_, q3, fun z H3 q4 => by
    split at q4
    · exact ⟨_, rfl, q4⟩
    · exact q4.elim⟩⟩⟩
theorem dt_chain {op op' : CmpOp} {r r' : R2} (ho : OpR X (compareOp op) r) (ho' : OpR X (compareOp op') r') (ha : PE X a ta) (hb : PE X b tb) (hc : PE X c tc)
    (hm : lastMarks [op, op'] [b, c] = false := by with_unfolding_all rfl) : PT X (.Compare a [op, op'] [b, c] pos) (dTest (dChain r r' ta tb tc)) :=
  ptI (pt_chain (opMono ho) (opMono ho') (peM ha) (peM hb) (peM hc) hm) fun σ H Q q1 => ⟨_, q1, fun x H1 q2 => ⟨_, q2, fun y H2 q3 => ⟨_, q3, fun z H3 q4 => by
    split at q4
    · rename_i k
      refine ⟨_, rfl, ?_⟩
      cases k with
      | true =>
        rw [if_pos rfl] at q4 ⊢
        refine ⟨_, q4, fun w H4 q5 => ⟨_, q5, fun v H5 q6 => ?_⟩⟩
        split at q6
        · exact ⟨_, rfl, q6⟩
        · exact q6.elim
      | false => exact ⟨_, rfl, q4⟩
    · exact q4.elim⟩⟩⟩
theorem m_append : MtR X "list.append" dAppend := mtM (mt_append (X := X)) fun x xs H Q q => by
  unfold dAppend at q
  split at q
  · split at q
    · rename_i h
      exact ⟨_, _, _, rfl, rfl, h, q.1, q.2⟩
    · exact q.elim
  · exact q.elim
theorem m_pop : MtR X "list.pop" dPop := mtM (mt_pop (X := X)) fun x xs H Q q => by
  unfold dPop at q
  split at q
  · split at q
    · rename_i h
      split at q
      · rename_i e
        exact ⟨_, _, _, rfl, rfl, h, by rw [← List.getLast?_eq_getElem?]; exact e, q⟩
      · exact q.elim
    · exact q.elim
  · exact q.elim
theorem m_popAt : MtR X "list.pop" dPopAt := mtM (mt_popAt (X := X)) fun x xs H Q q => by
  unfold dPopAt at q
  split at q
  · split at q
    · rename_i h
      obtain ⟨h0, h1, q⟩ := q
      split at q
      · rename_i i _ ys _ y e
        have hl := (List.getElem?_eq_some_iff.mp e).1
        exact ⟨_, _, _, i.toNat, _, rfl, rfl, h, by omega, h1, (ixN_seq (n := ys.length) (i := i) (j := i.toNat) (by unfold ixN; rw [if_pos h0, if_pos (by omega)])).1, e, q⟩
      · exact q.elim
    · exact q.elim
  · exact q.elim
theorem m_insert : MtR X "list.insert" dInsert := mtM (mt_insert (X := X)) fun x xs H Q q => by
  unfold dInsert at q
  split at q
  · split at q
    · rename_i h
      exact ⟨_, _, _, _, rfl, rfl, h, q⟩
    · exact q.elim
  · exact q.elim
theorem d_bm {name id : String} {r : V → List V → Hp → VK → Prop} {cpos : Pos} (pa : PlainAttrs "list") (slot : Slot "list" name id) (hty : typeOf (.builtin id) = pure (.type "method_descriptor")) (hm : MtR X id r) (ho : PE X o ta) (ha : PA X (e :: es) t)
    (hbase : attributeBase o name X.env (eval o X.env) = eval o X.env := by rfl)
    (hfew : ((backTo cpos (starEach (e :: es) X.env)).all (fun x => !x.1) && (backToKw cpos (keywordEach [] X.env)).all (fun x => x.1.isSome)
      && decide ((e :: es).length + ([] : List Keyword).length + (if ([] : List Keyword).isEmpty then 0 else 1) < 30)) = true := by rfl)
    (hline : (apos.endLine == cpos.line) = true := by rfl) (hs : starEach (e :: es) X.env = (false, eval e X.env) :: starEach es X.env := by rfl) (hplain : (backTo cpos (starEach es X.env)).any (·.1) = false := by rfl) : PE X (.Call (.Attribute o name apos) (e :: es) [] cpos) (dBM r ta t) :=
  peI (pe_bm pa slot hty hm (peM ho) ha hbase hfew hline hs hplain) fun σ H Q q1 => ⟨_, q1, fun v H' q2 => by
    split at q2
    · split at q2
      · rename_i h
        exact ⟨Or.inl ⟨rfl, _, SqL.of h⟩, q2⟩
      · exact q2.elim
    · exact q2.elim⟩
end
section
variable {X : Cx} {C : Addr} {e o a b c value : Expr} {es : List Expr} {ta tb tc tv te : TE} {t : TA} {f m : Str} {pos pos' tpos apos : Pos}
def dBM0 (r : V → List V → Hp → VK → Prop) (to : TE) : TE := fun σ H Q => to σ H fun x H1 => match x with
  | .ref l => match H1 l with
    | some (.lst _) => r x [] H1 Q
    | _ => False
  | _ => False
theorem d_bm0 {name id : String} {r : V → List V → Hp → VK → Prop} {cpos : Pos} (pa : PlainAttrs "list") (slot : Slot "list" name id) (hty : typeOf (.builtin id) = pure (.type "method_descriptor")) (hm : MtR X id r) (ho : PE X o ta)
    (hbase : attributeBase o name X.env (eval o X.env) = eval o X.env := by rfl) (hline : (apos.endLine == cpos.line) = true := by rfl) : PE X (.Call (.Attribute o name apos) [] [] cpos) (dBM0 r ta) :=
  peI (pe_bm0 pa slot hty hm (peM ho) hbase hline) fun σ H Q q1 => ⟨_, q1, fun v H' q2 => by
    split at q2
    · split at q2
      · rename_i h
        exact ⟨Or.inl ⟨rfl, _, SqL.of h⟩, q2⟩
      · exact q2.elim
    · exact q2.elim⟩
variable {CX : CXT} {k : Nat} {fa : Addr} {fd : FuncData} {ps : List Str} {sp : Sp} {E : L2.St → XK}
theorem d_meth {pl : Sem Bool} (he : PE X o ta) (c : Cls X.K C) (hm : Meth X.K C m fa) (F : FnOk X.prog X.w X.K X.mg X.base CX k fa fd ps sp) (hr : Room k X.A) (hb : Binds X.K fd ps []) (hx : ∀ σ, PassesAt CX X σ (E σ)) (ha : PA X (e :: es) t)
    (hst : starEach (e :: es) X.env = (false, eval e X.env) :: starEach es X.env := by rfl) (hpl : (backTo pos (starEach es X.env)).any (·.1) = false := by rfl)
    (ht : eval (.Call (.Attribute o m apos) (e :: es) [] pos) X.env = (do
      let ov ← eval o X.env
      standAt apos.atName
      let (f, first) ← holding [ov] (getMethod ov m pl)
      callWith pos f first (backTo pos (starEach (e :: es) X.env)) (backToKw pos (keywordEach [] X.env))) := by rfl) :
    PE X (.Call (.Attribute o m apos) (e :: es) [] pos) (dMethE C m sp E ta t) :=
  peI (c_meth (pl := pl) (peM he) c hm F hr hb hx ha hst hpl ht) fun σ H Q q1 => ⟨_, q1, fun v H' q2 => by
    split at q2
    · split at q2
      · rename_i h
        obtain ⟨e1, l, q3⟩ := q2
        subst e1
        exact ⟨_, _, _, rfl, h, l, q3⟩
      · exact q2.elim
    · exact q2.elim⟩
theorem d_meth0 {pl : Sem Bool} (he : PE X o ta) (c : Cls X.K C) (hm : Meth X.K C m fa) (F : FnOk X.prog X.w X.K X.mg X.base CX k fa fd ps sp) (hr : Room k X.A) (hb : Binds X.K fd ps []) (hx : ∀ σ, PassesAt CX X σ (E σ))
    (ht : eval (.Call (.Attribute o m apos) [] [] pos) X.env = (do
      let ov ← eval o X.env
      standAt apos.atName
      let (f, first) ← holding [ov] (getMethod ov m pl)
      callWith pos f first (backTo pos (starEach [] X.env)) (backToKw pos (keywordEach [] X.env))) := by rfl) :
    PE X (.Call (.Attribute o m apos) [] [] pos) (dMethE C m sp E ta tNil) :=
  peI (c_meth0 (pl := pl) (peM he) c hm F hr hb hx ht) fun σ H Q q1 => ⟨_, q1, fun v H' q2 => by
    split at q2
    · split at q2
      · rename_i h
        obtain ⟨e1, l, q3⟩ := q2
        subst e1
        exact ⟨_, _, _, rfl, h, l, q3⟩
      · exact q2.elim
    · exact q2.elim⟩
theorem d_par {i j : Nat} {x y : Str} {px py pt : Pos} {kt k2 pt2} (hc : X.calm = true) (hN : X.N.Nodup) (hi : X.N[i]? = some x) (hj : X.N[j]? = some y) (hij : i ≠ j)
    (hx : X.env.scope.names.lookup x = some .local) (hy : X.env.scope.names.lookup y = some .local) (ha : PA X [a, b] t)
    (hw : swappedStores [.Tuple [.Name x px, .Name y py] kt pt] (.Tuple [a, b] k2 pt2) X.env = pure (some [x, y]))
    (hs : swapsWithSole [.Tuple [.Name x px, .Name y py] kt pt] (.Tuple [a, b] k2 pt2) pos.line X.env = pure false := by rfl) :
    PS X (.Assign [.Tuple [.Name x px, .Name y py] kt pt] (.Tuple [a, b] k2 pt2) pos) (dPar i j t) :=
  psI (ps_par hc hN hi hj hij hx hy (paM ha) hw hs) fun D σ H q1 => ⟨_, q1, fun v H' q2 => by
    split at q2
    · exact ⟨_, _, rfl, q2⟩
    · exact q2.elim⟩
theorem d_par3 {i j l : Nat} {x y z : Str} {px py pz pt : Pos} {kt k2 pt2} (hc : X.calm = true) (hN : X.N.Nodup) (hi : X.N[i]? = some x) (hj : X.N[j]? = some y) (hl : X.N[l]? = some z) (hij : i ≠ j) (hil : i ≠ l) (hjl : j ≠ l)
    (hx : X.env.scope.names.lookup x = some .local) (hy : X.env.scope.names.lookup y = some .local) (hz : X.env.scope.names.lookup z = some .local) (ha : PA X [a, b, c] t)
    (hw : swappedStores [.Tuple [.Name x px, .Name y py, .Name z pz] kt pt] (.Tuple [a, b, c] k2 pt2) X.env = pure (some [x, y, z]))
    (hs : swapsWithSole [.Tuple [.Name x px, .Name y py, .Name z pz] kt pt] (.Tuple [a, b, c] k2 pt2) pos.line X.env = pure false := by rfl) :
    PS X (.Assign [.Tuple [.Name x px, .Name y py, .Name z pz] kt pt] (.Tuple [a, b, c] k2 pt2) pos) (dPar3 i j l t) :=
  psI (ps_par3 hc hN hi hj hl hij hil hjl hx hy hz (paM ha) hw hs) fun D σ H q1 => ⟨_, q1, fun v H' q2 => by
    split at q2
    · exact ⟨_, _, _, rfl, q2⟩
    · exact q2.elim⟩
theorem dg_nil : PGs X [] dgNil := pgsI pgs_nil fun vs σ H Q q1 => by
  unfold dgNil at q1
  split at q1
  · exact ⟨rfl, q1⟩
  · exact q1.elim
theorem dg_cons {ge : Expr} {ges : List Expr} {gt : TG} {gu : TGs} (h1 : PG X ge gt) (h2 : PGs X ges gu)
    (hs : (assignEach (ge :: ges) X.env).map (·.2) = assign ge X.env :: (assignEach ges X.env).map (·.2) := by rfl) : PGs X (ge :: ges) (dgCons gt gu) := pgsI (pgs_cons h1 h2 hs) fun vs σ H Q q1 => by
  unfold dgCons at q1
  split at q1
  · exact ⟨_, _, rfl, q1⟩
  · exact q1.elim
theorem dg_tup {ges : List Expr} {kk : Nat} {gt : TGs} {n : Nat} (hc : X.calm = true) (h : PGs X ges gt)
    (hn : (assignEach ges X.env).length = n := by rfl) (hst : (assignEach ges X.env).findIdx? (·.1) = none := by rfl) : PG X (.Tuple ges kk pos) (dgTup n gt) := pgI (pg_tup hc h hn hst) fun v σ H Q q1 => by
  unfold dgTup at q1
  split at q1
  · obtain ⟨xs, h1, h2, h3⟩ := tupAt_sq (K := X.K) q1
    exact ⟨_, xs, rfl, h1, h2, h3⟩
  · exact q1.elim
end
/-! ### loops -/
/-- what a for asks of what it walks -/
def ForJ (J : It) (g : TG) (tb : TS) : TS := fun D σ H => ∃ W : Nat → Nat → L2.St → Hp → Prop, (∃ m, W 0 m σ H) ∧ ∀ i m σ H, W i m σ H →
  (J.stop i H ∧ D.nx σ H) ∨ (J.go i H ∧ ∃ N : L2.St → Hp → Prop, (∀ σ' H', N σ' H' → ∃ m', m' < m ∧ W (i + 1) m' σ' H') ∧ ∀ x H', J.yld i H x H' → g x σ H' fun σ2 H2 => tb { D with nx := N, ct := N, bk := D.nx } σ2 H2)
def ForL (K : PySem.W.Frag) (a : Addr) (g : TG) (tb : TS) : TS := fun D σ H => (∃ xs, SqL K H a xs) ∧ ForJ (Itl K a) g tb D σ H
def ForT (K : PySem.W.Frag) (a : Addr) (g : TG) (tb : TS) : TS := fun D σ H => (∃ xs, SqT K H a xs) ∧ ForJ (Itt K a) g tb D σ H
def ForR (lo : Int) (n : Nat) (g : TG) (tb : TS) : TS := fun D σ H => ForJ (Itr lo n) g tb D σ H
def dForL (K : PySem.W.Frag) (tl : TE) (g : TG) (tb : TS) : TS := fun D σ H => tl σ H fun x H1 => match x with
  | .ref a => ForL K a g tb D σ H1
  | _ => False
def dForT (K : PySem.W.Frag) (tl : TE) (g : TG) (tb : TS) : TS := fun D σ H => tl σ H fun x H1 => match x with
  | .ref a => ForT K a g tb D σ H1
  | _ => False
def dForR1 (ta : TA) (g : TG) (tb : TS) : TS := fun D σ H => ta σ H fun vs H1 => match vs with
  | [.int j] => (-(2 ^ 62) ≤ j ∧ j < 2 ^ 62) ∧ ForR 0 j.toNat g tb D σ H1
  | _ => False
def dForR2 (ta : TA) (g : TG) (tb : TS) : TS := fun D σ H => ta σ H fun vs H1 => match vs with
  | [.int i, .int j] => (-(2 ^ 62) ≤ i ∧ i < 2 ^ 62 ∧ -(2 ^ 62) ≤ j ∧ j < 2 ^ 62) ∧ ForR i (j - i).toNat g tb D σ H1
  | _ => False
/-- what a comprehension asks -/
def LcJ (J : It) (g : TG) (tt : TT) (te : TE) (vs : List Nat) : L2.St → Hp → VK → Prop := fun σ H1 Q => ∀ D, H1 D = none → ∃ W : Nat → Nat → Hp → Prop, (∃ m, W 0 m (upd H1 D (.lst []))) ∧ ∀ i m H, W i m H →
  (J.stop i H ∧ Q (.ref D) H) ∨ (J.go i H ∧ ∃ Nx : Hp → Prop, (∀ H', Nx H' → ∃ m', m' < m ∧ W (i + 1) m' H') ∧ ∀ x H', J.yld i H x H' → g x (wipe σ vs) H' fun σ2 H2 => wipe σ2 vs = wipe σ vs ∧ tt σ2 H2 fun b H3 =>
    if b = true then te σ2 H3 fun y H4 => ∃ acc, H4 D = some (.lst acc) ∧ acc.length < sizeLine ∧ Nx (upd H4 D (.lst (acc ++ [y]))) else Nx H3)
def LcL (K : PySem.W.Frag) (a : Addr) (g : TG) (tt : TT) (te : TE) (vs : List Nat) : L2.St → Hp → VK → Prop := fun σ H Q => (∃ xs, SqL K H a xs) ∧ LcJ (Itl K a) g tt te vs σ H Q
def LcT (K : PySem.W.Frag) (a : Addr) (g : TG) (tt : TT) (te : TE) (vs : List Nat) : L2.St → Hp → VK → Prop := fun σ H Q => (∃ xs, SqT K H a xs) ∧ LcJ (Itt K a) g tt te vs σ H Q
def dLcL (K : PySem.W.Frag) (tl : TE) (g : TG) (tt : TT) (te : TE) (vs : List Nat) : TE := fun σ H Q => tl σ H fun x H1 => match x with
  | .ref a => LcL K a g tt te vs σ H1 Q
  | _ => False
def dLcT (K : PySem.W.Frag) (tl : TE) (g : TG) (tt : TT) (te : TE) (vs : List Nat) : TE := fun σ H Q => tl σ H fun x H1 => match x with
  | .ref a => LcT K a g tt te vs σ H1 Q
  | _ => False
def dLcR1 (ta : TA) (g : TG) (tt : TT) (te : TE) (vs : List Nat) : TE := fun σ H Q => ta σ H fun us H1 => match us with
  | [.int j] => (-(2 ^ 62) ≤ j ∧ j < 2 ^ 62) ∧ LcJ (Itr 0 j.toNat) g tt te vs σ H1 Q
  | _ => False
def dLcR2 (ta : TA) (g : TG) (tt : TT) (te : TE) (vs : List Nat) : TE := fun σ H Q => ta σ H fun us H1 => match us with
  | [.int i, .int j] => (-(2 ^ 62) ≤ i ∧ i < 2 ^ 62 ∧ -(2 ^ 62) ≤ j ∧ j < 2 ^ 62) ∧ LcJ (Itr i (j - i).toNat) g tt te vs σ H1 Q
  | _ => False
section
variable {X : Cx} {e a b target : Expr} {body : List Stmt} {tl : TE} {ta : TA} {g : TG} {tb : TS} {pos p p2 : Pos}
theorem d_forL (hp : PassesOwn (model X.prog X.w) X.A X.env X.xe) (hc : X.calm = true) (hl : PE X e tl) (hg : PG X target g) (hb : PSs X body tb)
    (hs : ∀ x, foldedSetIterable e X.env x = pure x := by intro _; rfl) : PS X (.For target e body [] pos) (dForL X.K tl g tb) :=
  psI (ps_for hp hc (pi_list (peM hl)) hg hb hs) fun D σ H q1 => ⟨_, q1, fun v H' q2 => by
    split at q2
    · exact ⟨_, rfl, q2.1, q2.2⟩
    · exact q2.elim⟩
theorem d_forT (hp : PassesOwn (model X.prog X.w) X.A X.env X.xe) (hc : X.calm = true) (hl : PE X e tl) (hg : PG X target g) (hb : PSs X body tb)
    (hs : ∀ x, foldedSetIterable e X.env x = pure x := by intro _; rfl) : PS X (.For target e body [] pos) (dForT X.K tl g tb) :=
  psI (ps_for hp hc (pi_tup (peM hl)) hg hb hs) fun D σ H q1 => ⟨_, q1, fun v H' q2 => by
    split at q2
    · exact ⟨_, rfl, q2.1, q2.2⟩
    · exact q2.elim⟩
theorem d_forR1 (hp : PassesOwn (model X.prog X.w) X.A X.env X.xe) (hc : X.calm = true) (hm : X.mg "range" = none) (ha : PA X [a] ta) (hg : PG X target g) (hb : PSs X body tb) (hgl : Gl X "range" := by rfl)
    (hs : ∀ x, foldedSetIterable (.Call (.Name "range" p) [a] [] p2) X.env x = pure x := by intro _; rfl) (hst : starEach [a] X.env = [(false, eval a X.env)] := by rfl) : PS X (.For target (.Call (.Name "range" p) [a] [] p2) body [] pos) (dForR1 ta g tb) :=
  psI (ps_for hp hc (pi_range1 hgl hm (paM ha) hst) hg hb hs) fun D σ H q1 => ⟨_, q1, fun vs H1 q2 => by
    split at q2
    · exact ⟨_, rfl, q2.1.1, q2.1.2, q2.2⟩
    · exact q2.elim⟩
theorem d_forR2 (hp : PassesOwn (model X.prog X.w) X.A X.env X.xe) (hc : X.calm = true) (hm : X.mg "range" = none) (ha : PA X [a, b] ta) (hg : PG X target g) (hb : PSs X body tb) (hgl : Gl X "range" := by rfl)
    (hs : ∀ x, foldedSetIterable (.Call (.Name "range" p) [a, b] [] p2) X.env x = pure x := by intro _; rfl) (hst : starEach [a, b] X.env = [(false, eval a X.env), (false, eval b X.env)] := by rfl) (hst2 : starEach [b] X.env = [(false, eval b X.env)] := by rfl) : PS X (.For target (.Call (.Name "range" p) [a, b] [] p2) body [] pos) (dForR2 ta g tb) :=
  psI (ps_for hp hc (pi_range2 hgl hm (paM ha) hst hst2) hg hb hs) fun D σ H q1 => ⟨_, q1, fun vs H1 q2 => by
    split at q2
    · exact ⟨_, _, rfl, q2.1, q2.2⟩
    · exact q2.elim⟩
end
section
variable {X : Cx} {e a b elt tg : Expr} {ifs : List Expr} {scope : Scope} {own : List (Str × Nat)} {tl te : TE} {ta : TA} {g : TG} {tt : TT} {pos p p2 : Pos}
abbrev BG (X : Cx) (scope : Scope) (tg : Expr) (g : TG) : Prop := ∀ (s : Shared) (H : Hp) (C : Addr) (cl : List (Str × Addr)) (fp : List Addr), PG (X.blk s H scope (compEnvC scope cl C X.env) fp) tg g
abbrev BT (X : Cx) (scope : Scope) (ifs : List Expr) (t : TT) : Prop := ∀ (s : Shared) (H : Hp) (C : Addr) (cl : List (Str × Addr)) (fp : List Addr), PTs (X.blk s H scope (compEnvC scope cl C X.env) fp) ifs t
abbrev BE (X : Cx) (scope : Scope) (e : Expr) (t : TE) : Prop := ∀ (s : Shared) (H : Hp) (C : Addr) (cl : List (Str × Addr)) (fp : List Addr), PE (X.blk s H scope (compEnvC scope cl C X.env) fp) e t
theorem lc_l {tl : TE} {σ : L2.St} {H : Hp} {Q : VK} {K : PySem.W.Frag} {vs : List Nat} (q1 : dLcL K tl g tt te vs σ H Q) : tLc (iList K (mE tl)) g tt te vs σ H Q := ⟨_, q1, fun v H' q2 => by
  split at q2
  · exact ⟨_, rfl, q2.1, q2.2⟩
  · exact q2.elim⟩
theorem lc_t {tl : TE} {σ : L2.St} {H : Hp} {Q : VK} {K : PySem.W.Frag} {vs : List Nat} (q1 : dLcT K tl g tt te vs σ H Q) : tLc (iTup K (mE tl)) g tt te vs σ H Q := ⟨_, q1, fun v H' q2 => by
  split at q2
  · exact ⟨_, rfl, q2.1, q2.2⟩
  · exact q2.elim⟩
theorem lc_r1 {σ : L2.St} {H : Hp} {Q : VK} {vs : List Nat} (q1 : dLcR1 ta g tt te vs σ H Q) : tLc (iRng1 (mA ta)) g tt te vs σ H Q := ⟨_, q1, fun v H' q2 => by
  split at q2
  · exact ⟨_, rfl, q2.1.1, q2.1.2, q2.2⟩
  · exact q2.elim⟩
theorem lc_r2 {σ : L2.St} {H : Hp} {Q : VK} {vs : List Nat} (q1 : dLcR2 ta g tt te vs σ H Q) : tLc (iRng2 (mA ta)) g tt te vs σ H Q := ⟨_, q1, fun v H' q2 => by
  split at q2
  · exact ⟨_, _, rfl, q2.1, q2.2⟩
  · exact q2.elim⟩
theorem d_lcL (hc : X.calm = true) (hN : X.N.Nodup) (hl : PE X e tl) (ok : BlkOk X.N X.env.scope scope own) (hg : BG X scope tg g) (ht : BT X scope ifs tt) (he : BE X scope elt te) (hs : ∀ x, foldedSetIterable e X.env x = pure x := by intro _; rfl) :
    PE X (.ListComp elt [⟨tg, e, ifs, 0⟩] scope pos) (dLcL X.K tl g tt te (own.map (·.2))) := peI (pe_lc hc hN (pi_list (peM hl)) ok hg ht he hs) fun _ _ _ q => lc_l q
theorem d_lcT (hc : X.calm = true) (hN : X.N.Nodup) (hl : PE X e tl) (ok : BlkOk X.N X.env.scope scope own) (hg : BG X scope tg g) (ht : BT X scope ifs tt) (he : BE X scope elt te) (hs : ∀ x, foldedSetIterable e X.env x = pure x := by intro _; rfl) :
    PE X (.ListComp elt [⟨tg, e, ifs, 0⟩] scope pos) (dLcT X.K tl g tt te (own.map (·.2))) := peI (pe_lc hc hN (pi_tup (peM hl)) ok hg ht he hs) fun _ _ _ q => lc_t q
theorem d_lcH (hot : L2H.HotC X) (hN : X.N.Nodup) (hl : PE X e tl) (ok : BlkOk X.N X.env.scope scope own) (hg : BG X scope tg g) (ht : BT X scope ifs tt) (he : BE X scope elt te) (hs : ∀ x, foldedSetIterable e X.env x = pure x := by intro _; rfl) :
    PE X (.ListComp elt [⟨tg, e, ifs, 0⟩] scope pos) (dLcL X.K tl g tt te (own.map (·.2))) := peI (pe_lcH hot hN (peM hl) ok hg ht he hs) fun _ _ _ q => lc_l q
theorem d_lcR1 (hc : X.calm = true) (hN : X.N.Nodup) (hm : X.mg "range" = none) (ha : PA X [a] ta) (ok : BlkOk X.N X.env.scope scope own) (hg : BG X scope tg g) (ht : BT X scope ifs tt) (he : BE X scope elt te) (hgl : Gl X "range" := by rfl)
    (hs : ∀ x, foldedSetIterable (.Call (.Name "range" p) [a] [] p2) X.env x = pure x := by intro _; rfl) (hst : starEach [a] X.env = [(false, eval a X.env)] := by rfl) :
    PE X (.ListComp elt [⟨tg, .Call (.Name "range" p) [a] [] p2, ifs, 0⟩] scope pos) (dLcR1 ta g tt te (own.map (·.2))) := peI (pe_lc hc hN (pi_range1 hgl hm (paM ha) hst) ok hg ht he hs) fun _ _ _ q => lc_r1 q
theorem d_lcR2 (hc : X.calm = true) (hN : X.N.Nodup) (hm : X.mg "range" = none) (ha : PA X [a, b] ta) (ok : BlkOk X.N X.env.scope scope own) (hg : BG X scope tg g) (ht : BT X scope ifs tt) (he : BE X scope elt te) (hgl : Gl X "range" := by rfl)
    (hs : ∀ x, foldedSetIterable (.Call (.Name "range" p) [a, b] [] p2) X.env x = pure x := by intro _; rfl) (hst : starEach [a, b] X.env = [(false, eval a X.env), (false, eval b X.env)] := by rfl) (hst2 : starEach [b] X.env = [(false, eval b X.env)] := by rfl) :
    PE X (.ListComp elt [⟨tg, .Call (.Name "range" p) [a, b] [] p2, ifs, 0⟩] scope pos) (dLcR2 ta g tt te (own.map (·.2))) := peI (pe_lc hc hN (pi_range2 hgl hm (paM ha) hst hst2) ok hg ht he hs) fun _ _ _ q => lc_r2 q
variable {i : Nat} {y : Str} {py spos : Pos}
theorem d_setL (hc : X.calm = true) (hN : X.N.Nodup) (hy : X.N[i]? = some y) (hyl : X.env.scope.names.lookup y = some .local) (hsw : swapsWith (.ListComp elt [⟨tg, e, ifs, 0⟩] scope pos) (some (.Name y py)) spos.line X.env = pure true)
    (hl : PE X e tl) (ok : BlkOk X.N X.env.scope scope own) (hg : BG X scope tg g) (ht : BT X scope ifs tt) (he : BE X scope elt te) (hs : ∀ x, foldedSetIterable e X.env x = pure x := by intro _; rfl) :
    PS X (.Assign [.Name y py] (.ListComp elt [⟨tg, e, ifs, 0⟩] scope pos) spos) (tAsg (dLcL X.K tl g tt te (own.map (·.2))) (gName i)) := psI (ps_setLc hc hN hy hyl hsw (pi_list (peM hl)) ok hg ht he hs) fun _ _ _ q => lc_l q
theorem d_setT (hc : X.calm = true) (hN : X.N.Nodup) (hy : X.N[i]? = some y) (hyl : X.env.scope.names.lookup y = some .local) (hsw : swapsWith (.ListComp elt [⟨tg, e, ifs, 0⟩] scope pos) (some (.Name y py)) spos.line X.env = pure true)
    (hl : PE X e tl) (ok : BlkOk X.N X.env.scope scope own) (hg : BG X scope tg g) (ht : BT X scope ifs tt) (he : BE X scope elt te) (hs : ∀ x, foldedSetIterable e X.env x = pure x := by intro _; rfl) :
    PS X (.Assign [.Name y py] (.ListComp elt [⟨tg, e, ifs, 0⟩] scope pos) spos) (tAsg (dLcT X.K tl g tt te (own.map (·.2))) (gName i)) := psI (ps_setLc hc hN hy hyl hsw (pi_tup (peM hl)) ok hg ht he hs) fun _ _ _ q => lc_t q
theorem d_setR1 (hc : X.calm = true) (hN : X.N.Nodup) (hy : X.N[i]? = some y) (hyl : X.env.scope.names.lookup y = some .local) (hsw : swapsWith (.ListComp elt [⟨tg, .Call (.Name "range" p) [a] [] p2, ifs, 0⟩] scope pos) (some (.Name y py)) spos.line X.env = pure true)
    (hm : X.mg "range" = none) (ha : PA X [a] ta) (ok : BlkOk X.N X.env.scope scope own) (hg : BG X scope tg g) (ht : BT X scope ifs tt) (he : BE X scope elt te) (hgl : Gl X "range" := by rfl)
    (hs : ∀ x, foldedSetIterable (.Call (.Name "range" p) [a] [] p2) X.env x = pure x := by intro _; rfl) (hst : starEach [a] X.env = [(false, eval a X.env)] := by rfl) :
    PS X (.Assign [.Name y py] (.ListComp elt [⟨tg, .Call (.Name "range" p) [a] [] p2, ifs, 0⟩] scope pos) spos) (tAsg (dLcR1 ta g tt te (own.map (·.2))) (gName i)) := psI (ps_setLc hc hN hy hyl hsw (pi_range1 hgl hm (paM ha) hst) ok hg ht he hs) fun _ _ _ q => lc_r1 q
end
/-! ### how loops and comprehensions are answered -/
/-- what stands as a tuple stays so -/
def KT (H H' : Hp) : Prop := ∀ a xs, H a = some (.tup xs) → H' a = some (.tup xs)
theorem KT.refl (H : Hp) : KT H H := fun _ _ h => h
theorem KT.trans {H H1 H2 : Hp} (a : KT H H1) (b : KT H1 H2) : KT H H2 := fun c o h => b c o (a c o h)
theorem KT.same {H H' : Hp} (s : Same H H') : KT H H' := fun a xs h => s a _ h
theorem KT.new {H : Hp} {p : Addr} {o : HO} (h : H p = none) : KT H (upd H p o) := fun a xs e => by rw [upd_ne (ne_of_none e h)]; exact e
theorem same_new {H : Hp} {p : Addr} {o : HO} (h : H p = none) : Same H (upd H p o) := fun a xs e => by rw [upd_ne (ne_of_none e h)]; exact e
theorem same_mut {H H' : Hp} {p : Addr} {o : HO} (s : Same H H') (h : H p = none) : Same H (upd H' p o) := fun a xs e => by rw [upd_ne (ne_of_none e h)]; exact s a _ e
def isTup : Option HO → Bool
  | some (.tup _) => true
  | _ => false
theorem KT.mut {H : Hp} {p : Addr} {o : HO} (h : isTup (H p) = false) : KT H (upd H p o) := fun a xs e => by
  rw [upd_ne (fun z => by rw [← z, e] at h; cases h)]
  exact e
theorem forL_go {K : PySem.W.Frag} {a : Addr} {xs : List V} {g : TG} {tb : TS} {D : Ends} {σ : L2.St} {H : Hp} (hq : SqL K H a xs) (Pv : Nat → L2.St → Hp → Prop) (h0 : Pv 0 σ H) (hl : ∀ i σ H, i ≤ xs.length → Pv i σ H → SqL K H a xs)
    (hs : ∀ i x σ H, xs[i]? = some x → Pv i σ H → g x σ H fun σ2 H2 => tb { D with nx := Pv (i + 1), ct := Pv (i + 1), bk := D.nx } σ2 H2) (hd : ∀ σ H, Pv xs.length σ H → D.nx σ H) : ForL K a g tb D σ H := ⟨⟨_, hq⟩, for_list Pv h0 hl hs hd⟩
theorem forT_go {K : PySem.W.Frag} {a : Addr} {xs : List V} {g : TG} {tb : TS} {D : Ends} {σ : L2.St} {H : Hp} (hq : SqT K H a xs) (Pv : Nat → L2.St → Hp → Prop) (h0 : Pv 0 σ H) (hl : ∀ i σ H, i ≤ xs.length → Pv i σ H → SqT K H a xs)
    (hs : ∀ i x σ H, xs[i]? = some x → Pv i σ H → g x σ H fun σ2 H2 => tb { D with nx := Pv (i + 1), ct := Pv (i + 1), bk := D.nx } σ2 H2) (hd : ∀ σ H, Pv xs.length σ H → D.nx σ H) : ForT K a g tb D σ H := ⟨⟨_, hq⟩, for_tup Pv h0 hl hs hd⟩
theorem forR_go {lo : Int} {n : Nat} {g : TG} {tb : TS} {D : Ends} {σ : L2.St} {H : Hp} (Pv : Nat → L2.St → Hp → Prop) (h0 : Pv 0 σ H)
    (hs : ∀ i σ H, i < n → Pv i σ H → g (.int (lo + i)) σ H fun σ2 H2 => tb { D with nx := Pv (i + 1), ct := Pv (i + 1), bk := D.nx } σ2 H2) (hd : ∀ σ H, Pv n σ H → D.nx σ H) : ForR lo n g tb D σ H := for_range Pv h0 hs hd
/-- one turn of a comprehension: kept with a value, or left out -/
abbrev LcTurn (g : TG) (tt : TT) (te : TE) (vs : List Nat) (σ : L2.St) (x : V) (H : Hp) (k1 : VK) (k0 : Hp → Prop) : Prop :=
  g x (wipe σ vs) H fun σ2 H2 => wipe σ2 vs = wipe σ vs ∧ tt σ2 H2 fun b H3 => if b = true then te σ2 H3 k1 else k0 H3
theorem paired_app {α β : Type} {F : α → β → Prop} : ∀ {l₁ : List α} {l₂ : List β} {m₁ : List α} {m₂ : List β}, Paired F l₁ l₂ → Paired F m₁ m₂ → Paired F (l₁ ++ m₁) (l₂ ++ m₂)
  | _, _, _, _, .nil, h => h
  | _, _, _, _, .cons r t, h => .cons r (paired_app t h)
theorem lcL_core {K : PySem.W.Frag} {a : Addr} {xs : List V} {g : TG} {tt : TT} {te : TE} {vs : List Nat} {σ : L2.St} {H1 : Hp} {Q : VK} (hq : SqL K H1 a xs) (hz : xs.length ≤ 1000000) (f : V → Bool) (R : V → V → Hp → Prop)
    (st : ∀ x y H H', KT H H' → R x y H → R x y H')
    (turn : ∀ x ∈ xs, ∀ H, Same H1 H → ∀ (k1 : VK) (k0 : Hp → Prop), (f x = true → ∀ y H', Same H H' → R x y H' → k1 y H') → (f x = false → ∀ H', Same H H' → k0 H') → LcTurn g tt te vs σ x H k1 k0)
    (hd : ∀ D H ys, H1 D = none → Same H1 H → H D = some (.lst ys) → Paired (fun x y => R x y H) (xs.filter f) ys → Q (.ref D) H) : LcL K a g tt te vs σ H1 Q := by
  refine ⟨⟨_, hq⟩, fun D hD => lc_list (K := K) (a := a) (xs := xs) (fun i H => Same H1 H ∧ ∃ ys, H D = some (.lst ys) ∧ ys.length ≤ i ∧ Paired (fun x y => R x y H) ((xs.take i).filter f) ys) ⟨same_new hD, [], upd_same, Nat.le_refl _, .nil⟩ (fun i H _ p => p.1.seq hq) ?_ ?_⟩
  · rintro i x H hx ⟨s, ys, hDs, hy, pr⟩
    have hlt := (List.getElem?_eq_some_iff.mp hx).1
    have e1 : xs.take (i + 1) = xs.take i ++ [x] := by rw [List.take_succ, hx]; rfl
    refine turn x (List.mem_of_getElem? hx) H s _ _ (fun hf y H' s' r => ⟨ys, s' D _ hDs, Nat.lt_of_le_of_lt hy (by rw [sizeLine_eq]; omega), same_mut (s.trans s') hD, ys ++ [y], upd_same, by rw [List.length_append]; exact Nat.succ_le_succ hy, ?_⟩) fun hf H' s' => ⟨s.trans s', ys, s' D _ hDs, Nat.le_succ_of_le hy, ?_⟩
    · have kt : KT H (upd H' D (.lst (ys ++ [y]))) := (KT.same s').trans (KT.mut (by rw [s' D _ hDs]; rfl))
      have kt2 : KT H' (upd H' D (.lst (ys ++ [y]))) := KT.mut (by rw [s' D _ hDs]; rfl)
      rw [e1, List.filter_append, List.filter_cons, if_pos hf]
      exact paired_app (Paired.mapP pr fun _ _ z => st _ _ _ _ kt z) (.cons (st _ _ _ _ kt2 r) .nil)
    · rw [e1, List.filter_append, List.filter_cons, if_neg (by rw [hf]; decide), List.filter_nil, List.append_nil]
      exact Paired.mapP pr fun _ _ z => st _ _ _ _ (KT.same s') z
  · rintro H ⟨s, ys, hDs, hy, pr⟩
    rw [List.take_length] at pr
    exact hd D H ys hD s hDs pr
/-! ### isinstance of built-in values -/
def tyName (x : V) (H : Hp) : Option String := match x with
  | .int _ => some "int"
  | .bl _ => some "bool"
  | .non => some "NoneType"
  | .str _ => some "str"
  | .ref p => match H p with
    | some (.lst _) => some "list"
    | some (.tup _) => some "tuple"
    | some (.dK _) => some "dict"
    | _ => none
  | _ => none
def isK (a b : String) : Bool := (kitB a b).getD false
def isKnown (a b : String) : Bool := (kitB a b).isSome
def dIsi : List V → Hp → VK → Prop := fun xs H Q => match xs with
  | [x, .ty n] => match tyName x H with
    | some a => isKnown a n = true ∧ Q (.bl (isK a n)) H
    | none => False
  | _ => False
theorem tyName_of {K : PySem.W.Frag} {x : V} {H : Hp} {a : String} (h : tyName x H = some a) : TyX K H x (.type a) := by
  unfold tyName at h
  split at h
  · cases h; exact .base (.int _)
  · cases h; exact .base (.bl _)
  · cases h; exact .base .non
  · cases h; exact .base (.str _)
  · split at h
    · rename_i e
      cases h
      exact .base (.lst e)
    · rename_i e
      cases h
      exact .base (.tup e)
    · rename_i e
      cases h
      exact .base (.dK e)
    · cases h
  · cases h
section
variable {X : Cx}
theorem d_isi : CallR X (.builtin "isinstance") dIsi := caM (call_isi (X := X)) fun xs H Q q => by
  unfold dIsi at q
  split at q
  · split at q
    · rename_i n _ a e
      obtain ⟨k, q⟩ := q
      refine ⟨_, _, _, _, isK a n, rfl, .ty n, tyName_of e, ?_, q⟩
      refine kit_ty ?_
      unfold isKnown at k
      unfold isK
      obtain ⟨b, hb⟩ := Option.isSome_iff_exists.mp k
      rw [hb] <;> rfl
    · exact q.elim
  · exact q.elim
end
theorem is_int_int : isK "int" "int" = true := by decide +kernel
theorem kn_int_int : isKnown "int" "int" = true := by decide +kernel
theorem is_int_bool : isK "int" "bool" = false := by decide +kernel
theorem kn_int_bool : isKnown "int" "bool" = true := by decide +kernel
theorem is_int_str : isK "int" "str" = false := by decide +kernel
theorem kn_int_str : isKnown "int" "str" = true := by decide +kernel
theorem is_int_list : isK "int" "list" = false := by decide +kernel
theorem kn_int_list : isKnown "int" "list" = true := by decide +kernel
theorem is_int_tuple : isK "int" "tuple" = false := by decide +kernel
theorem kn_int_tuple : isKnown "int" "tuple" = true := by decide +kernel
theorem is_int_dict : isK "int" "dict" = false := by decide +kernel
theorem kn_int_dict : isKnown "int" "dict" = true := by decide +kernel
theorem is_bool_int : isK "bool" "int" = true := by decide +kernel
theorem kn_bool_int : isKnown "bool" "int" = true := by decide +kernel
theorem is_bool_bool : isK "bool" "bool" = true := by decide +kernel
theorem kn_bool_bool : isKnown "bool" "bool" = true := by decide +kernel
theorem is_bool_str : isK "bool" "str" = false := by decide +kernel
theorem kn_bool_str : isKnown "bool" "str" = true := by decide +kernel
theorem is_bool_list : isK "bool" "list" = false := by decide +kernel
theorem kn_bool_list : isKnown "bool" "list" = true := by decide +kernel
theorem is_bool_tuple : isK "bool" "tuple" = false := by decide +kernel
theorem kn_bool_tuple : isKnown "bool" "tuple" = true := by decide +kernel
theorem is_bool_dict : isK "bool" "dict" = false := by decide +kernel
theorem kn_bool_dict : isKnown "bool" "dict" = true := by decide +kernel
theorem is_NoneType_int : isK "NoneType" "int" = false := by decide +kernel
theorem kn_NoneType_int : isKnown "NoneType" "int" = true := by decide +kernel
theorem is_NoneType_bool : isK "NoneType" "bool" = false := by decide +kernel
theorem kn_NoneType_bool : isKnown "NoneType" "bool" = true := by decide +kernel
theorem is_NoneType_str : isK "NoneType" "str" = false := by decide +kernel
theorem kn_NoneType_str : isKnown "NoneType" "str" = true := by decide +kernel
theorem is_NoneType_list : isK "NoneType" "list" = false := by decide +kernel
theorem kn_NoneType_list : isKnown "NoneType" "list" = true := by decide +kernel
theorem is_NoneType_tuple : isK "NoneType" "tuple" = false := by decide +kernel
theorem kn_NoneType_tuple : isKnown "NoneType" "tuple" = true := by decide +kernel
theorem is_NoneType_dict : isK "NoneType" "dict" = false := by decide +kernel
theorem kn_NoneType_dict : isKnown "NoneType" "dict" = true := by decide +kernel
theorem is_str_int : isK "str" "int" = false := by decide +kernel
theorem kn_str_int : isKnown "str" "int" = true := by decide +kernel
theorem is_str_bool : isK "str" "bool" = false := by decide +kernel
theorem kn_str_bool : isKnown "str" "bool" = true := by decide +kernel
theorem is_str_str : isK "str" "str" = true := by decide +kernel
theorem kn_str_str : isKnown "str" "str" = true := by decide +kernel
theorem is_str_list : isK "str" "list" = false := by decide +kernel
theorem kn_str_list : isKnown "str" "list" = true := by decide +kernel
theorem is_str_tuple : isK "str" "tuple" = false := by decide +kernel
theorem kn_str_tuple : isKnown "str" "tuple" = true := by decide +kernel
theorem is_str_dict : isK "str" "dict" = false := by decide +kernel
theorem kn_str_dict : isKnown "str" "dict" = true := by decide +kernel
theorem is_list_int : isK "list" "int" = false := by decide +kernel
theorem kn_list_int : isKnown "list" "int" = true := by decide +kernel
theorem is_list_bool : isK "list" "bool" = false := by decide +kernel
theorem kn_list_bool : isKnown "list" "bool" = true := by decide +kernel
theorem is_list_str : isK "list" "str" = false := by decide +kernel
theorem kn_list_str : isKnown "list" "str" = true := by decide +kernel
theorem is_list_list : isK "list" "list" = true := by decide +kernel
theorem kn_list_list : isKnown "list" "list" = true := by decide +kernel
theorem is_list_tuple : isK "list" "tuple" = false := by decide +kernel
theorem kn_list_tuple : isKnown "list" "tuple" = true := by decide +kernel
theorem is_list_dict : isK "list" "dict" = false := by decide +kernel
theorem kn_list_dict : isKnown "list" "dict" = true := by decide +kernel
theorem is_tuple_int : isK "tuple" "int" = false := by decide +kernel
theorem kn_tuple_int : isKnown "tuple" "int" = true := by decide +kernel
theorem is_tuple_bool : isK "tuple" "bool" = false := by decide +kernel
theorem kn_tuple_bool : isKnown "tuple" "bool" = true := by decide +kernel
theorem is_tuple_str : isK "tuple" "str" = false := by decide +kernel
theorem kn_tuple_str : isKnown "tuple" "str" = true := by decide +kernel
theorem is_tuple_list : isK "tuple" "list" = false := by decide +kernel
theorem kn_tuple_list : isKnown "tuple" "list" = true := by decide +kernel
theorem is_tuple_tuple : isK "tuple" "tuple" = true := by decide +kernel
theorem kn_tuple_tuple : isKnown "tuple" "tuple" = true := by decide +kernel
theorem is_tuple_dict : isK "tuple" "dict" = false := by decide +kernel
theorem kn_tuple_dict : isKnown "tuple" "dict" = true := by decide +kernel
theorem is_dict_int : isK "dict" "int" = false := by decide +kernel
theorem kn_dict_int : isKnown "dict" "int" = true := by decide +kernel
theorem is_dict_bool : isK "dict" "bool" = false := by decide +kernel
theorem kn_dict_bool : isKnown "dict" "bool" = true := by decide +kernel
theorem is_dict_str : isK "dict" "str" = false := by decide +kernel
theorem kn_dict_str : isKnown "dict" "str" = true := by decide +kernel
theorem is_dict_list : isK "dict" "list" = false := by decide +kernel
theorem kn_dict_list : isKnown "dict" "list" = true := by decide +kernel
theorem is_dict_tuple : isK "dict" "tuple" = false := by decide +kernel
theorem kn_dict_tuple : isKnown "dict" "tuple" = true := by decide +kernel
theorem is_dict_dict : isK "dict" "dict" = true := by decide +kernel
theorem kn_dict_dict : isKnown "dict" "dict" = true := by decide +kernel
theorem lcR_core {lo : Int} {n : Nat} {g : TG} {tt : TT} {te : TE} {vs : List Nat} {σ : L2.St} {H1 : Hp} {Q : VK} (hz : n ≤ 1000000) (f : Nat → Bool) (R : Nat → V → Hp → Prop)
    (st : ∀ x y H H', KT H H' → R x y H → R x y H')
    (turn : ∀ (i : Nat), i < n → ∀ H, Same H1 H → ∀ (k1 : VK) (k0 : Hp → Prop), (f i = true → ∀ y H', Same H H' → R i y H' → k1 y H') → (f i = false → ∀ H', Same H H' → k0 H') → LcTurn g tt te vs σ (.int (lo + (i : Nat))) H k1 k0)
    (hd : ∀ D H ys, H1 D = none → Same H1 H → H D = some (.lst ys) → Paired (fun x y => R x y H) ((List.range n).filter f) ys → Q (.ref D) H) : LcJ (Itr lo n) g tt te vs σ H1 Q := by
  refine fun D hD => lc_range (lo := lo) (n := n) (fun i H => Same H1 H ∧ ∃ ys, H D = some (.lst ys) ∧ ys.length ≤ i ∧ Paired (fun x y => R x y H) ((List.range i).filter f) ys) ⟨same_new hD, [], upd_same, Nat.le_refl _, .nil⟩ ?_ ?_
  · rintro i H hlt ⟨s, ys, hDs, hy, pr⟩
    refine turn i hlt H s _ _ (fun hf y H' s' r => ⟨ys, s' D _ hDs, Nat.lt_of_le_of_lt hy (by rw [sizeLine_eq]; omega), same_mut (s.trans s') hD, ys ++ [y], upd_same, by rw [List.length_append]; exact Nat.succ_le_succ hy, ?_⟩) fun hf H' s' => ⟨s.trans s', ys, s' D _ hDs, Nat.le_succ_of_le hy, ?_⟩
    · have kt : KT H (upd H' D (.lst (ys ++ [y]))) := (KT.same s').trans (KT.mut (by rw [s' D _ hDs]; rfl))
      have kt2 : KT H' (upd H' D (.lst (ys ++ [y]))) := KT.mut (by rw [s' D _ hDs]; rfl)
      rw [List.range_succ, List.filter_append, List.filter_cons, if_pos hf]
      exact paired_app (Paired.mapP pr fun _ _ z => st _ _ _ _ kt z) (.cons (st _ _ _ _ kt2 r) .nil)
    · rw [List.range_succ, List.filter_append, List.filter_cons, if_neg (by rw [hf]; decide), List.filter_nil, List.append_nil]
      exact Paired.mapP pr fun _ _ z => st _ _ _ _ (KT.same s') z
  · rintro H ⟨s, ys, hDs, hy, pr⟩
    exact hd D H ys hD s hDs pr
/-! ### nested data, as it is tracked: to a depth -/
def AtomD (v : V) (d : PyData) : Prop := (v = .non ∧ d = .none) ∨ (∃ b, v = .bl b ∧ d = .bool b) ∨ (∃ i, v = .int i ∧ d = .int i) ∨ ∃ x, v = .str x ∧ d = .str x ∧ PyData.strOk x = true
def Da (H : Hp) : Nat → V → PyData → Prop
  | 0, v, d => AtomD v d
  | n + 1, v, d => AtomD v d ∨ (∃ (a : Addr) (xs : List V) (ds : List PyData), v = .ref a ∧ d = .list ds ∧ H a = some (.lst xs) ∧ xs.length ≤ 100000 ∧ Paired (Da H n) xs ds) ∨
    ∃ (a : Addr) (xs : List V) (ds : List PyData), v = .ref a ∧ d = .tuple ds ∧ H a = some (.tup xs) ∧ xs.length ≤ 100000 ∧ Paired (Da H n) xs ds
theorem AtomD.da {v : V} {d : PyData} {H : Hp} (h : AtomD v d) : ∀ {n : Nat}, Da H n v d
  | 0 => h
  | _ + 1 => .inl h
theorem Da.int {H : Hp} {n : Nat} {i : Int} : Da H n (.int i) (.int i) := AtomD.da (.inr (.inr (.inl ⟨i, rfl, rfl⟩)))
theorem Da.bl {H : Hp} {n : Nat} {i : Bool} : Da H n (.bl i) (.bool i) := AtomD.da (.inr (.inl ⟨i, rfl, rfl⟩))
theorem Da.non {H : Hp} {n : Nat} : Da H n .non .none := AtomD.da (.inl ⟨rfl, rfl⟩)
theorem Da.str {H : Hp} {n : Nat} {x : Str} (h : PyData.strOk x = true) : Da H n (.str x) (.str x) := AtomD.da (.inr (.inr (.inr ⟨x, rfl, rfl, h⟩)))
theorem Da.lst {H : Hp} {n : Nat} {a : Addr} {xs : List V} {ds : List PyData} (h : H a = some (.lst xs)) (hl : xs.length ≤ 100000) (p : Paired (Da H n) xs ds) : Da H (n + 1) (.ref a) (.list ds) := .inr (.inl ⟨a, xs, ds, rfl, rfl, h, hl, p⟩)
theorem Da.tup {H : Hp} {n : Nat} {a : Addr} {xs : List V} {ds : List PyData} (h : H a = some (.tup xs)) (hl : xs.length ≤ 100000) (p : Paired (Da H n) xs ds) : Da H (n + 1) (.ref a) (.tuple ds) := .inr (.inr ⟨a, xs, ds, rfl, rfl, h, hl, p⟩)
theorem Da.same {H H' : Hp} (s : Same H H') : ∀ {n : Nat} {v : V} {d : PyData}, Da H n v d → Da H' n v d
  | 0, _, _, h => h
  | n + 1, v, d, h => by
    rcases h with h | ⟨a, xs, ds, e1, e2, h, hl, p⟩ | ⟨a, xs, ds, e1, e2, h, hl, p⟩
    · exact .inl h
    · exact .inr (.inl ⟨a, xs, ds, e1, e2, s a _ h, hl, Paired.mapP p fun _ _ q => Da.same s q⟩)
    · exact .inr (.inr ⟨a, xs, ds, e1, e2, s a _ h, hl, Paired.mapP p fun _ _ q => Da.same s q⟩)
theorem AtomD.dp {K : PySem.W.Frag} {H : Hp} {v : V} {d : PyData} (h : AtomD v d) : Dp K H v d := by
  rcases h with ⟨rfl, rfl⟩ | ⟨b, rfl, rfl⟩ | ⟨b, rfl, rfl⟩ | ⟨x, rfl, rfl, _⟩
  · exact .non
  · exact .bl _
  · exact .int _
  · exact .str _
theorem dpAll {K : PySem.W.Frag} {H : Hp} : ∀ {xs : List V} {ds : List PyData}, Paired (Dp K H) xs ds → DpAll K H xs ds
  | _, _, .nil => .nil
  | _, _, .cons h t => .cons h (dpAll t)
theorem Da.dp {K : PySem.W.Frag} {H : Hp} : ∀ {n : Nat} {v : V} {d : PyData}, Da H n v d → Dp K H v d
  | 0, _, _, h => AtomD.dp h
  | n + 1, v, d, h => by
    rcases h with h | ⟨a, xs, ds, rfl, rfl, h, hl, p⟩ | ⟨a, xs, ds, rfl, rfl, h, hl, p⟩
    · exact AtomD.dp h
    · exact .lst (SqL.of h) (dpAll (Paired.mapP p fun _ _ q => Da.dp q))
    · exact .tup (SqT.of h) (dpAll (Paired.mapP p fun _ _ q => Da.dp q))
theorem AtomD.lay {v : V} {d : PyData} (h : AtomD v d) : d.canLay0 = true ∧ d.depth = 0 := by
  rcases h with ⟨rfl, rfl⟩ | ⟨b, rfl, rfl⟩ | ⟨b, rfl, rfl⟩ | ⟨x, rfl, rfl, hx⟩
  · exact ⟨by simp [PyData.canLay0], by simp [PyData.depth]⟩
  · exact ⟨by simp [PyData.canLay0], by simp [PyData.depth]⟩
  · exact ⟨by simp [PyData.canLay0], by simp [PyData.depth]⟩
  · exact ⟨by simpa [PyData.canLay0] using hx, by simp [PyData.depth]⟩
theorem Da.lays {H : Hp} {n : Nat} (ih : ∀ {v : V} {d : PyData}, Da H n v d → d.canLay0 = true ∧ d.depth ≤ n) : ∀ {xs : List V} {ds : List PyData}, Paired (Da H n) xs ds → PyData.canLayAll0 ds = true ∧ PyData.depthAll ds ≤ n
  | _, _, .nil => ⟨by simp [PyData.canLayAll0], by simp [PyData.depthAll]⟩
  | _, _, .cons h t => by
    obtain ⟨a, b⟩ := ih h
    obtain ⟨c, d⟩ := Da.lays ih t
    exact ⟨by simp [PyData.canLayAll0, a, c], by simp only [PyData.depthAll]; omega⟩
theorem Da.lay {H : Hp} : ∀ {n : Nat} {v : V} {d : PyData}, Da H n v d → d.canLay0 = true ∧ d.depth ≤ n
  | 0, _, _, h => ⟨(AtomD.lay h).1, Nat.le_of_eq (AtomD.lay h).2⟩
  | n + 1, v, d, h => by
    rcases h with h | ⟨a, xs, ds, rfl, rfl, h, hl, p⟩ | ⟨a, xs, ds, rfl, rfl, h, hl, p⟩
    · exact ⟨(AtomD.lay h).1, by have := (AtomD.lay h).2; omega⟩
    · obtain ⟨a, b⟩ := Da.lays (fun q => Da.lay q) p
      exact ⟨by simpa [PyData.canLay0] using a, by simp only [PyData.depth]; omega⟩
    · obtain ⟨a, b⟩ := Da.lays (fun q => Da.lay q) p
      exact ⟨by simpa [PyData.canLay0] using a, by simp only [PyData.depth]; omega⟩
theorem Da.shaped {H : Hp} {n : Nat} {v : V} {d : PyData} (h : Da H n v d) (hn : n ≤ 64) : SeqAt.shaped d = true := by
  obtain ⟨a, b⟩ := Da.lay h
  show (d.canLay0 && decide (d.depth ≤ 64)) = true
  rw [a, decide_eq_true (by omega)]
  rfl
theorem pairedAt {α β : Type} {F : α → β → Prop} : ∀ {l₁ : List α} {l₂ : List β} {i : Nat} {y : β}, Paired F l₁ l₂ → l₂[i]? = some y → ∃ x, l₁[i]? = some x ∧ F x y
  | _, _, _, _, .nil, e => by simp at e
  | _, _, 0, _, .cons r _, e => by simp at e; subst e; exact ⟨_, rfl, r⟩
  | _, _, i + 1, _, .cons _ t, e => by
    obtain ⟨x, h1, h2⟩ := pairedAt (i := i) t (by simpa using e)
    exact ⟨x, by simpa using h1, h2⟩
theorem paired_len {α β : Type} {F : α → β → Prop} : ∀ {l₁ : List α} {l₂ : List β}, Paired F l₁ l₂ → l₁.length = l₂.length
  | _, _, .nil => rfl
  | _, _, .cons _ t => congrArg (· + 1) (paired_len t)
/-- == of data that is the same -/
theorem eqD_same {K : PySem.W.Frag} {H : Hp} {Q : VK} {n : Nat} {x y : V} {d : PyData} (h : Da H n x d) (h' : Da H n y d) (hn : n ≤ 64) (q : Q (.bl true) H) : dEqD K x y H Q :=
  ⟨d, d, h.dp, h'.dp, h.shaped hn, h'.shaped hn, by rw [SeqAt.eqv_refl d h.lay.1]; exact q⟩
theorem neD_same {K : PySem.W.Frag} {H : Hp} {Q : VK} {n : Nat} {x y : V} {d : PyData} (h : Da H n x d) (h' : Da H n y d) (hn : n ≤ 64) (q : Q (.bl false) H) : dNeD K x y H Q :=
  ⟨d, d, h.dp, h'.dp, h.shaped hn, h'.shaped hn, by rw [SeqAt.eqv_refl d h.lay.1]; exact q⟩
theorem seqAt_lst {xs : List V} {k : List V → Prop} : seqAt (some (.lst xs)) k = k xs := rfl
theorem seqAt_tup {xs : List V} {k : List V → Prop} : seqAt (some (.tup xs)) k = k xs := rfl
theorem seqAt_frz {o : Obj} {xs : List V} {k : List V → Prop} : seqAt (some (.frz o (.lst xs))) k = k xs := rfl
theorem lstAt_lst {xs : List V} {k : List V → Prop} : lstAt (some (.lst xs)) k = k xs := rfl
theorem tupAt_tup {xs : List V} {k : List V → Prop} : tupAt (some (.tup xs)) k = k xs := rfl
theorem atK_of {xs : List V} {i : Int} {v : V} {k : V → Prop} (h : atI xs i = some v) : atK xs i k = k v := by
  unfold atK
  rw [h]
theorem atI_zero {x : V} {xs : List V} : atI (x :: xs) 0 = some x := atI_nat (j := 0) rfl
theorem atK_zero {x : V} {xs : List V} {k : V → Prop} : atK (x :: xs) 0 k = k x := atK_of atI_zero
theorem atI_one {x y : V} {xs : List V} : atI (x :: y :: xs) 1 = some y := atI_nat (j := 1) rfl
theorem atK_one {x y : V} {xs : List V} {k : V → Prop} : atK (x :: y :: xs) 1 k = k y := atK_of atI_one
theorem atK_last {x : V} {xs : List V} {k : V → Prop} : atK (xs ++ [x]) (-1) k = k x := atK_of (atI_last xs x)
theorem atK_nat {xs : List V} {i : Nat} {v : V} {k : V → Prop} (h : xs[i]? = some v) (q : k v) : atK xs (i : Int) k := by rw [atK_of (atI_nat h)]; exact q
theorem seqE {o : Option HO} {zs : List V} {k : List V → Prop} (h : seqAt o (· = zs)) (hk : k zs) : seqAt o k := by
  unfold seqAt at h ⊢
  split at h <;> first | (subst h; exact hk) | exact h.elim
/-- isinstance(e, C), e the exception at ax, of the class D -/
def dIsE (K : PySem.W.Frag) (D ax : Addr) : List V → Hp → VK → Prop := fun xs H Q => match xs with
  | [.ref a, .ref C] => a = ax ∧ match PySem.W.kitOne K (.ref D) (.ref C) with
    | some b => Q (.bl b) H
    | none => False
  | _ => False
section
variable {X : Cx}
theorem d_isP {a D : Addr} {oe : Obj} (C : ExcC X.K D) (hp : (a, oe) ∈ X.pn) (hz : Zc (.ref D) none oe) (hf : ∃ vs, oe.data = .fields vs) : CallR X (.builtin "isinstance") (dIsE X.K D a) := caM (call_isP C hp hz hf) fun xs H Q q => by
  unfold dIsE at q
  split at q
  · obtain ⟨rfl, q⟩ := q
    split at q
    · rename_i e
      exact ⟨_, _, _, rfl, fun u r => r, e, q⟩
    · exact q.elim
  · exact q.elim
end
theorem seq1 {t u : TS} {D : Ends} {σ : L2.St} {H : Hp} (h : t { D with nx := u D } σ H) : tSeq t u D σ H := h
theorem upd_none {H : Hp} {x r : Addr} {o : HO} (h : upd H x o r = none) : x ≠ r ∧ H r = none := by
  unfold upd at h
  split at h
  · cases h
  · rename_i n
    exact ⟨fun e => n e.symm, h⟩
theorem while_go {c : TT} {tb : TS} {D : Ends} {σ : L2.St} {H : Hp} (W : Nat → L2.St → Hp → Prop) (m : Nat) (h0 : W m σ H)
    (hs : ∀ m σ H, W m σ H → c σ H fun b H1 => if b = true then ∃ N : L2.St → Hp → Prop, (∀ σ' H', N σ' H' → ∃ m', m' < m ∧ W m' σ' H') ∧ tb { D with nx := N, ct := N, bk := D.nx } σ H1 else D.nx σ H1) : tWhile c tb D σ H := ⟨W, ⟨m, h0⟩, hs⟩
theorem upd_fresh {H : Hp} {x r : Addr} {o : HO} : (upd H x o r = none) = (x ≠ r ∧ H r = none) := propext ⟨upd_none, fun ⟨n, h⟩ => by rw [upd_ne (fun e => n e.symm)]; exact h⟩
theorem n00 : ((0 : Nat) : Int) = 0 := rfl
theorem posS {n : Nat} : ((0 : Int) < ((n + 1 : Nat) : Int)) = True := eq_true (by omega)
theorem eqS0 {n : Nat} : (((n + 1 : Nat) : Int) = 0) = False := eq_false (by omega)
theorem lt00 : ((0 : Int) < 0) = False := eq_false (by decide)
theorem turnN {W : Nat → L2.St → Hp → Prop} {m : Nat} {t : (L2.St → Hp → Prop) → Prop} (h : ∀ N : L2.St → Hp → Prop, (∀ m' σ' H', m' < m → W m' σ' H' → N σ' H') → t N) : ∃ N : L2.St → Hp → Prop, (∀ σ' H', N σ' H' → ∃ m', m' < m ∧ W m' σ' H') ∧ t N :=
  ⟨fun σ' H' => ∃ m', m' < m ∧ W m' σ' H', fun _ _ h => h, h _ fun m' σ' H' a b => ⟨m', a, b⟩⟩
theorem while_to {c : TT} {tb : TS} {D : Ends} {σ : L2.St} {H : Hp} (W : Nat → L2.St → Hp → Prop) (X : L2.St → Hp → Prop) (m : Nat) (h0 : W m σ H) (hx : ∀ σ H, X σ H → D.nx σ H)
    (hs : ∀ nx : L2.St → Hp → Prop, (∀ σ H, X σ H → nx σ H) → ∀ m σ H, W m σ H → c σ H fun b H1 => if b = true then ∃ N : L2.St → Hp → Prop, (∀ σ' H', N σ' H' → ∃ m', m' < m ∧ W m' σ' H') ∧ tb { D with nx := N, ct := N, bk := nx } σ H1 else nx σ H1) : tWhile c tb D σ H := ⟨W, ⟨m, h0⟩, hs D.nx hx⟩
theorem forL_to {K : PySem.W.Frag} {a : Addr} {xs : List V} {g : TG} {tb : TS} {D : Ends} {σ : L2.St} {H : Hp} (hq : SqL K H a xs) (Pv : Nat → L2.St → Hp → Prop) (X : L2.St → Hp → Prop) (h0 : Pv 0 σ H) (hl : ∀ i σ H, i ≤ xs.length → Pv i σ H → SqL K H a xs)
    (hd : ∀ σ H, Pv xs.length σ H → X σ H) (hx : ∀ σ H, X σ H → D.nx σ H)
    (hs : ∀ (N nx : L2.St → Hp → Prop), (∀ σ H, X σ H → nx σ H) → ∀ i x σ H, xs[i]? = some x → (∀ σ H, Pv (i + 1) σ H → N σ H) → Pv i σ H → g x σ H fun σ2 H2 => tb { D with nx := N, ct := N, bk := nx } σ2 H2) : ForL K a g tb D σ H := ⟨⟨_, hq⟩, for_list Pv h0 hl (fun i x σ H e p => hs (Pv (i + 1)) D.nx hx i x σ H e (fun _ _ h => h) p) fun σ H p => hx σ H (hd σ H p)⟩
theorem forT_to {K : PySem.W.Frag} {a : Addr} {xs : List V} {g : TG} {tb : TS} {D : Ends} {σ : L2.St} {H : Hp} (hq : SqT K H a xs) (Pv : Nat → L2.St → Hp → Prop) (X : L2.St → Hp → Prop) (h0 : Pv 0 σ H) (hl : ∀ i σ H, i ≤ xs.length → Pv i σ H → SqT K H a xs)
    (hd : ∀ σ H, Pv xs.length σ H → X σ H) (hx : ∀ σ H, X σ H → D.nx σ H)
    (hs : ∀ (N nx : L2.St → Hp → Prop), (∀ σ H, X σ H → nx σ H) → ∀ i x σ H, xs[i]? = some x → (∀ σ H, Pv (i + 1) σ H → N σ H) → Pv i σ H → g x σ H fun σ2 H2 => tb { D with nx := N, ct := N, bk := nx } σ2 H2) : ForT K a g tb D σ H := ⟨⟨_, hq⟩, for_tup Pv h0 hl (fun i x σ H e p => hs (Pv (i + 1)) D.nx hx i x σ H e (fun _ _ h => h) p) fun σ H p => hx σ H (hd σ H p)⟩
theorem forR_to {lo : Int} {n : Nat} {g : TG} {tb : TS} {D : Ends} {σ : L2.St} {H : Hp} (Pv : Nat → L2.St → Hp → Prop) (X : L2.St → Hp → Prop) (h0 : Pv 0 σ H)
    (hd : ∀ σ H, Pv n σ H → X σ H) (hx : ∀ σ H, X σ H → D.nx σ H)
    (hs : ∀ (N nx : L2.St → Hp → Prop), (∀ σ H, X σ H → nx σ H) → ∀ i σ H, i < n → (∀ σ H, Pv (i + 1) σ H → N σ H) → Pv i σ H → g (.int (lo + i)) σ H fun σ2 H2 => tb { D with nx := N, ct := N, bk := nx } σ2 H2) : ForR lo n g tb D σ H := for_range Pv h0 (fun i σ H e p => hs (Pv (i + 1)) D.nx hx i σ H e (fun _ _ h => h) p) fun σ H p => hx σ H (hd σ H p)
theorem le00 : ((0 : Int) ≤ 0) = True := eq_true (by decide)
theorem p63 : ((0 : Int) < 2 ^ 63) = True := eq_true (by decide)
theorem tn0 : Int.toNat 0 = 0 := rfl
theorem erz {α : Type} {x : α} {xs : List α} : (x :: xs).eraseIdx 0 = xs := rfl
theorem last_snoc {α : Type} {x : α} {xs : List α} : (xs ++ [x]).getLast? = some x := by simp
theorem drop_snoc {α : Type} {x : α} {xs : List α} : (xs ++ [x]).dropLast = xs := by simp
theorem len_snoc {α : Type} {x : α} {xs : List α} : (xs ++ [x]).length = xs.length + 1 := by simp
theorem pairedGet {α β : Type} {F : α → β → Prop} : ∀ {l₁ : List α} {l₂ : List β} {i : Nat} {x : α}, Paired F l₁ l₂ → l₁[i]? = some x → ∃ y, l₂[i]? = some y ∧ F x y
  | _, _, _, _, .nil, e => by simp at e
  | _, _, 0, _, .cons r _, e => by simp at e; subst e; exact ⟨_, rfl, r⟩
  | _, _, i + 1, _, .cons _ t, e => by
    obtain ⟨x, h1, h2⟩ := pairedGet (i := i) t (by simpa using e)
    exact ⟨x, by simpa using h1, h2⟩
/-- a comprehension over a list, whose values stand for those of another list -/
theorem lcL_pair {β : Type} {K : PySem.W.Frag} {a : Addr} {xs : List V} {ps : List β} {F : V → β → Prop} {g : TG} {tt : TT} {te : TE} {vs : List Nat} {σ : L2.St} {H1 : Hp} {Q : VK} (hq : SqL K H1 a xs) (pr : Paired F xs ps) (hz : xs.length ≤ 1000000) (f : β → Bool) (R : β → V → Hp → Prop)
    (st : ∀ x y H H', KT H H' → R x y H → R x y H')
    (turn : ∀ (i : Nat) (x : V) (p : β), xs[i]? = some x → ps[i]? = some p → F x p → ∀ H, Same H1 H → ∀ (k1 : VK) (k0 : Hp → Prop), (f p = true → ∀ y H', Same H H' → R p y H' → k1 y H') → (f p = false → ∀ H', Same H H' → k0 H') → LcTurn g tt te vs σ x H k1 k0)
    (hd : ∀ D H ys, H1 D = none → Same H1 H → H D = some (.lst ys) → Paired (fun p y => R p y H) (ps.filter f) ys → Q (.ref D) H) : LcL K a g tt te vs σ H1 Q := by
  refine ⟨⟨_, hq⟩, fun D hD => lc_list (K := K) (a := a) (xs := xs) (fun i H => Same H1 H ∧ ∃ ys, H D = some (.lst ys) ∧ ys.length ≤ i ∧ Paired (fun p y => R p y H) ((ps.take i).filter f) ys) ⟨same_new hD, [], upd_same, Nat.le_refl _, .nil⟩ (fun i H _ p => p.1.seq hq) ?_ ?_⟩
  · rintro i x H hx ⟨s, ys, hDs, hy, pq⟩
    have hlt := (List.getElem?_eq_some_iff.mp hx).1
    obtain ⟨p, hp, hF⟩ := pairedGet pr hx
    have e1 : ps.take (i + 1) = ps.take i ++ [p] := by rw [List.take_succ, hp]; rfl
    refine turn i x p hx hp hF H s _ _ (fun hf y H' s' r => ⟨ys, s' D _ hDs, Nat.lt_of_le_of_lt hy (by rw [sizeLine_eq]; omega), same_mut (s.trans s') hD, ys ++ [y], upd_same, by rw [List.length_append]; exact Nat.succ_le_succ hy, ?_⟩) fun hf H' s' => ⟨s.trans s', ys, s' D _ hDs, Nat.le_succ_of_le hy, ?_⟩
    · have kt : KT H (upd H' D (.lst (ys ++ [y]))) := (KT.same s').trans (KT.mut (by rw [s' D _ hDs]; rfl))
      have kt2 : KT H' (upd H' D (.lst (ys ++ [y]))) := KT.mut (by rw [s' D _ hDs]; rfl)
      rw [e1, List.filter_append, List.filter_cons, if_pos hf]
      exact paired_app (Paired.mapP pq fun _ _ z => st _ _ _ _ kt z) (.cons (st _ _ _ _ kt2 r) .nil)
    · rw [e1, List.filter_append, List.filter_cons, if_neg (by rw [hf]; decide), List.filter_nil, List.append_nil]
      exact Paired.mapP pq fun _ _ z => st _ _ _ _ (KT.same s') z
  · rintro H ⟨s, ys, hDs, hy, pq⟩
    have hlen : ps.length = xs.length := (paired_len pr).symm
    rw [← hlen, List.take_length] at pq
    exact hd D H ys hD s hDs pq
theorem paired_map {α β : Type} {f : α → β} {xs : List α} {ys : List β} (h : Paired (fun x y => y = f x) xs ys) : ys = xs.map f := by
  induction h with
  | nil => rfl
  | cons e _ ih => rw [List.map_cons, ← e, ih]
theorem eqD_da {K : PySem.W.Frag} {H : Hp} {Q : VK} {n : Nat} {x y : V} {d e : PyData} (h : Da H n x d) (h' : Da H n y e) (hn : n ≤ 64) (q : Q (.bl (PyData.eqv d e)) H) : dEqD K x y H Q := ⟨d, e, h.dp, h'.dp, h.shaped hn, h'.shaped hn, q⟩
theorem neD_da {K : PySem.W.Frag} {H : Hp} {Q : VK} {n : Nat} {x y : V} {d e : PyData} (h : Da H n x d) (h' : Da H n y e) (hn : n ≤ 64) (q : Q (.bl (!PyData.eqv d e)) H) : dNeD K x y H Q := ⟨d, e, h.dp, h'.dp, h.shaped hn, h'.shaped hn, q⟩
theorem da_ints {H : Hp} {n : Nat} : ∀ {ns : List Int}, Paired (Da H n) (ns.map V.int) (ns.map PyData.int)
  | [] => .nil
  | _ :: _ => .cons Da.int da_ints
theorem da_lints {H : Hp} {n : Nat} {a : Addr} {ns : List Int} (h : H a = some (.lst (ns.map V.int))) (hl : ns.length ≤ 100000) : Da H (n + 1) (.ref a) (.list (ns.map PyData.int)) := Da.lst h (by rw [List.length_map]; exact hl) da_ints
theorem da_nil {H : Hp} {n : Nat} {a : Addr} (h : H a = some (.lst [])) : Da H (n + 1) (.ref a) (.list []) := Da.lst h (Nat.zero_le _) .nil
theorem eqv_cons_nil {x : PyData} {xs : List PyData} : PyData.eqv (.list (x :: xs)) (.list []) = false := by simp [PyData.eqv, PyData.eqvAll]
theorem eqv_nil_nil : PyData.eqv (.list []) (.list []) = true := by simp [PyData.eqv, PyData.eqvAll]
theorem same_upd {H H1 : Hp} {p : Addr} {o : HO} (s : Same H H1) (h : H1 p = none) : Same H (upd H1 p o) := s.trans (same_new h)
/-- a statement, and then what follows, by what stands between -/
theorem seq_to {t u : TS} {D : Ends} {σ : L2.St} {H : Hp} (X : L2.St → Hp → Prop) (h : ∀ nx : L2.St → Hp → Prop, (∀ σ H, X σ H → nx σ H) → t { D with nx := nx } σ H) (hu : ∀ σ H, X σ H → u D σ H) : tSeq t u D σ H := h (u D) hu
structure GlAt (K : PySem.W.Frag) (mg : Str → Option Value) (x : Str) (C : Addr) : Prop where
  g : mg x = some (.ref C)
theorem kitCls_of {K : PySem.W.Frag} {C : Addr} {t : Value} {b : Bool} (h2 : PySem.W.isClsIn K C = true) (h3 : PySem.W.typeIn K (.ref C) = some (.type "type")) (h4 : PySem.W.subIn K t (.ref C) = some b) : PySem.W.kitCls K t (.ref C) = some b := by
  have e2 : ((PySem.W.clsIn K C).isSome && PySem.W.typeIn K (.ref C) == some (.type "type")) = true := by
    have h2' : (PySem.W.clsIn K C).isSome = true := h2
    rw [h2', h3] <;> rfl
  show (if ((PySem.W.clsIn K C).isSome && PySem.W.typeIn K (.ref C) == some (.type "type")) = true then PySem.W.subIn K t (.ref C) else none) = some b
  rw [if_pos e2]
  exact h4
theorem exm_of {K : PySem.W.Frag} {C : Addr} {t : Value} {b : Bool} (h1 : PySem.W.subIn K (.ref C) (.type "BaseException") = some true) (h2 : PySem.W.isClsIn K C = true) (h3 : PySem.W.typeIn K (.ref C) = some (.type "type")) (h4 : PySem.W.subIn K t (.ref C) = some b) : PySem.W.exmOne K t (.ref C) = some b := by
  have e1 : (PySem.W.subIn K (.ref C) (.type "BaseException") == some true) = true := by rw [h1] <;> rfl
  unfold PySem.W.exmOne
  rw [if_pos e1]
  exact kitCls_of h2 h3 h4
theorem ref_beq {C D : Addr} (h : C ≠ D) : (Value.ref C == Value.ref D) = false := by
  rw [beq_eq_false_iff_ne]
  intro e
  cases e
  exact h rfl
theorem kit_self {K : PySem.W.Frag} {C : Addr} : PySem.W.kitOne K (.ref C) (.ref C) = some true := by
  unfold PySem.W.kitOne
  rw [if_pos (beq_self_eq_true _)]
theorem kit_yes {K : PySem.W.Frag} {C D : Addr} (h2 : PySem.W.isClsIn K C = true) (h3 : PySem.W.typeIn K (.ref C) = some (.type "type")) (h4 : PySem.W.subIn K (.ref D) (.ref C) = some true) : PySem.W.kitOne K (.ref D) (.ref C) = some true := by
  unfold PySem.W.kitOne
  split
  · rfl
  · exact kitCls_of h2 h3 h4
theorem kit_no {K : PySem.W.Frag} {C D : Addr} (n : D ≠ C) (h2 : PySem.W.isClsIn K C = true) (h3 : PySem.W.typeIn K (.ref C) = some (.type "type")) (h4 : PySem.W.subIn K (.ref D) (.ref C) = some false) : PySem.W.kitOne K (.ref D) (.ref C) = some false := by
  unfold PySem.W.kitOne
  rw [if_neg (by rw [ref_beq n]; decide)]
  exact kitCls_of h2 h3 h4
/-! ### more readings by cases: slices, in, count, items set, the other way round -/
def dPart (t : TE) : TO := fun σ H Q => t σ H fun x H1 => match x with
  | .int i => Q (some i) H1
  | _ => False
def wholeV (xs : List V) (lo hi : Option Int) : Prop := HT.sIx xs.length 0 lo = 0 ∧ HT.sIx xs.length xs.length hi = xs.length
def dSl : V → Option Int → Option Int → Hp → VK → Prop := fun x lo hi H Q => match x with
  | .ref a => match H a with
    | some (.lst xs) => ∀ p, H p = none → Q (.ref p) (upd H p (.lst (cutV xs lo hi)))
    | some (.tup xs) => (wholeV xs lo hi → Q (.ref a) H) ∧ (¬ wholeV xs lo hi → ∀ p, H p = none → Q (.ref p) (upd H p (.tup (cutV xs lo hi))))
    | _ => False
  | .str z => z.length ≤ sizeLine ∧ Q (.str (cutS z lo hi)) H
  | _ => False
def dRevL (te : TE) : TE := fun σ H Q => te σ H fun x H1 => match x with
  | .ref a => seqLst (H1 a) fun xs => ∀ p, H1 p = none → Q (.ref p) (upd H1 p (.lst xs.reverse))
  | _ => False
where seqLst (o : Option HO) (k : List V → Prop) : Prop := match o with
  | some (.lst xs) => k xs
  | _ => False
def cntV (x : V) (xs : List V) : Nat := xs.countP fun y => eqV y x
def dCnt : V → List V → Hp → VK → Prop := fun x xs H Q => match x, xs with
  | .ref a, [y] => lstAt (H a) fun ys => flatV y = true ∧ ys.all flatV = true ∧ Q (.int (cntV y ys : Nat)) H
  | _, _ => False
/-- one text in another -/
def inS (i j : Str) : Bool := !(Builtin.Str.occurrences j i 0 j.length 1).isEmpty
def dIn : R2 := fun x y H Q => match y with
  | .ref p => seqAt (H p) fun xs => flatV x = true ∧ xs.all flatV = true ∧ Q (.bl (inV x xs)) H
  | .str j => match x with
    | .str i => Q (.bl (inS i j)) H
    | _ => False
  | _ => False
def dNotIn : R2 := fun x y H Q => match y with
  | .ref p => seqAt (H p) fun xs => flatV x = true ∧ xs.all flatV = true ∧ Q (.bl (!inV x xs)) H
  | .str j => match x with
    | .str i => Q (.bl (!inS i j)) H
    | _ => False
  | _ => False
def dSetL : TSet := fun o i v H Q => match o, i with
  | .ref p, .int k => match H p with
    | some (.lst xs) => 0 ≤ k ∧ k < xs.length ∧ Q (upd H p (.lst (xs.set k.toNat v)))
    | _ => False
  | _, _ => False
section
variable {X : Cx}
theorem po_d {e : Expr} {t : TE} (he : PE X e t) : PO X (some e) (dPart t) := by
  have h := po_some (peM he)
  refine ⟨fun pins s σ H Q I q => h.run pins s σ H Q I ⟨_, q, fun v H' q2 => ?_⟩⟩
  split at q2
  · exact ⟨_, rfl, q2⟩
  · exact q2.elim
theorem slM {r r' : V → Option Int → Option Int → Hp → VK → Prop} (h : SlR X r) (i : ∀ x lo hi H Q, r' x lo hi H Q → r x lo hi H Q) : SlR X r' := fun pins s σ H x v vl vu lo hi sl Q I rx hs pl pu q => h pins s σ H x v vl vu lo hi sl Q I rx hs pl pu (i _ _ _ _ _ q)
theorem d_sl : SlR X dSl := slM (SlR.or (SlR.or sl_list sl_tupA) sl_str) fun x lo hi H Q q => by
  unfold dSl at q
  split at q
  · split at q
    · rename_i xs e
      exact .inl (.inl ⟨_, xs, rfl, .inl (.inl e), q⟩)
    · rename_i xs e
      exact .inl (.inr ⟨_, xs, rfl, .inl (.inl e), q.1, q.2⟩)
    · exact q.elim
  · exact .inr ⟨_, rfl, q.1, q.2⟩
  · exact q.elim
theorem d_revL {e : Expr} {te : TE} {k : Nat} {p1 p2 p3 pos : Pos} (he : PE X e te) : PE X (.Subscript e (.Slice none none (some (.UnaryOp .USub (.Constant (.int 1) k p1) p2)) p3) pos) (dRevL te) := peI (pe_revL (peM he)) fun σ H Q q => ⟨_, q, fun v H' q2 => by
  split at q2
  · unfold dRevL.seqLst at q2
    split at q2
    · rename_i xs e
      exact ⟨_, xs, rfl, .inl (.inl e), q2⟩
    · exact q2.elim
  · exact q2.elim⟩
theorem eqU_count {y : V} : ∀ {xs : List V} {us : List Value}, Vals xs us → xs.all flatV = true → us.countP (eqU y) = cntV y xs
  | _, _, .nil, _ => rfl
  | x :: xs, u :: us, .cons r t, f => by
    rw [List.all_cons, Bool.and_eq_true] at f
    unfold cntV
    rw [List.countP_cons, List.countP_cons, eqU_of r f.1, eqU_count t f.2]
    rfl
theorem m_count : MtR X "list.count" dCnt := by
  intro pins s σ H x xs v us Q I rx rxs q
  unfold dCnt at q
  split at q
  · rename_i a y
    obtain ⟨ys, hs, fy, fys, q⟩ := lstAt_sq (K := X.K) q
    cases rx
    cases rxs with
    | cons ry rt =>
      rename_i uy ut
      cases rt
      obtain ⟨its, rv, ⟨⟨cls, dd, data, sl⟩, n, ho, hc, hdn, hd⟩, hlen⟩ := I.list hs
      simp only at hc hd
      subst hc hd
      refine call_meets PySem.F.slot_list_count ⟨_, ho, rfl⟩ PySem.F.entry_list_count (PySem.F.args_list_count_2 _ _)
        (SeqAt.list_countAt a its.toArray n dd sl uy (eqU y)) ⟨ho, fun u' hu' => mem_eqAt ry fy rv fys u' (by simpa using hu'), ?_⟩
      have ec : its.toArray.toList.countP (eqU y) = cntV y ys := eqU_count rv fys
      refine ⟨.int (cntV y ys : Nat), H, I.tok _, ⟨s.toks, ?_⟩, q⟩
      show Value.int ((its.toArray.toList.countP (eqU y) : Nat) : Int) s.toks = Value.int ((cntV y ys : Nat) : Int) s.toks
      rw [ec]
  · exact q.elim
theorem d_in : OpR X (compareOp .In) dIn := opM (OpR.or op_in_seq op_in_str) fun x y H Q q => by
  unfold dIn at q
  split at q
  · obtain ⟨xs, hs, f, fs, q⟩ := seqAt_sq (K := X.K) q
    exact .inl ⟨_, xs, rfl, hs, f, fs, q⟩
  · split at q
    · exact .inr ⟨_, _, rfl, rfl, q⟩
    · exact q.elim
  · exact q.elim
theorem d_notin : OpR X (compareOp .NotIn) dNotIn := opM (OpR.or op_notIn_seq op_notIn_str) fun x y H Q q => by
  unfold dNotIn at q
  split at q
  · obtain ⟨xs, hs, f, fs, q⟩ := seqAt_sq (K := X.K) q
    exact .inl ⟨_, xs, rfl, hs, f, fs, q⟩
  · split at q
    · exact .inr ⟨_, _, rfl, rfl, q⟩
    · exact q.elim
  · exact q.elim
theorem setM {t t' : TSet} (h : PSet X t) (i : ∀ o k v H Q, t' o k v H Q → t o k v H Q) : PSet X t' := fun pins s σ H o k v ov iv u Q I ro ri rv q => h pins s σ H o k v ov iv u Q I ro ri rv (i _ _ _ _ _ q)
theorem s_setL : PSet X dSetL := setM set_list fun o i v H Q q => by
  unfold dSetL at q
  split at q
  · rename_i p k
    split at q
    · rename_i xs e
      obtain ⟨h0, h1, q⟩ := q
      refine ⟨p, xs, k, k.toNat, rfl, rfl, e, ?_, q⟩
      unfold ixN
      rw [if_pos h0, if_pos h1]
    · exact q.elim
  · exact q.elim
end
theorem cutV_to {xs : List V} {k : Nat} : cutV xs none (some (k : Int)) = xs.take k := by
  unfold cutV
  rw [HT.sIx_none, HT.sIx_nat, List.drop_zero, Nat.sub_zero]
  rcases Nat.le_total k xs.length with h | h
  · rw [Nat.min_eq_left h]
  · rw [Nat.min_eq_right h, List.take_of_length_le (Nat.le_refl _), List.take_of_length_le h]
theorem cutV_from {xs : List V} {k : Nat} : cutV xs (some (k : Int)) none = xs.drop k := by
  unfold cutV
  rw [HT.sIx_none, HT.sIx_nat]
  rcases Nat.le_total k xs.length with h | h
  · rw [Nat.min_eq_left h, List.take_of_length_le (by rw [List.length_drop]; omega)]
  · rw [Nat.min_eq_right h, List.drop_eq_nil_of_le h, List.drop_eq_nil_of_le (Nat.le_refl _)]
    simp
/-! ### what is kept: all but the addresses of S -/
def Keep (S : List Addr) (H H' : Hp) : Prop := ∀ b o, H b = some o → b ∉ S → H' b = some o
theorem Keep.refl {S : List Addr} {H : Hp} : Keep S H H := fun _ _ h _ => h
theorem Keep.trans {S : List Addr} {H H1 H2 : Hp} (a : Keep S H H1) (b : Keep S H1 H2) : Keep S H H2 := fun x o h n => b x o (a x o h n) n
theorem Keep.mono {S T : List Addr} {H H' : Hp} (k : Keep S H H') (h : ∀ x ∈ S, x ∈ T) : Keep T H H' := fun x o e n => k x o e fun m => n (h x m)
theorem Keep.same {S : List Addr} {H H' : Hp} (k : Same H H') : Keep S H H' := fun b o h _ => k b o h
theorem Keep.up {S : List Addr} {H H' : Hp} {a : Addr} {x : HO} (k : Keep S H H') (h : a ∈ S) : Keep S H (upd H' a x) := fun b o e n => by
  rw [upd_ne (fun z => n (by rw [z]; exact h))]
  exact k b o e n
theorem Keep.new {S : List Addr} {H H' : Hp} {a : Addr} {x : HO} (k : Keep S H H') (h : H' a = none) : Keep S H (upd H' a x) := fun b o e n => by
  have := k b o e n
  rw [upd_ne (ne_of_none this h)]
  exact this
theorem Keep.new0 {S : List Addr} {H H' : Hp} {a : Addr} {x : HO} (k : Keep S H H') (h : H a = none) : Keep S H (upd H' a x) := fun b o e n => by
  rw [upd_ne (ne_of_none e h)]
  exact k b o e n
theorem keep_up {S : List Addr} {H : Hp} {a : Addr} {x : HO} (h : a ∈ S) : Keep S H (upd H a x) := Keep.refl.up h
/-- data, none of it at the addresses of S -/
def Dz (S : List Addr) (H : Hp) : Nat → V → PyData → Prop
  | 0, v, d => AtomD v d
  | n + 1, v, d => AtomD v d ∨ (∃ (a : Addr) (xs : List V) (ds : List PyData), v = .ref a ∧ d = .list ds ∧ a ∉ S ∧ H a = some (.lst xs) ∧ xs.length ≤ 100000 ∧ Paired (Dz S H n) xs ds) ∨
    ∃ (a : Addr) (xs : List V) (ds : List PyData), v = .ref a ∧ d = .tuple ds ∧ a ∉ S ∧ H a = some (.tup xs) ∧ xs.length ≤ 100000 ∧ Paired (Dz S H n) xs ds
theorem AtomD.dz {S : List Addr} {v : V} {d : PyData} {H : Hp} (h : AtomD v d) : ∀ {n : Nat}, Dz S H n v d
  | 0 => h
  | _ + 1 => .inl h
theorem Dz.da {S : List Addr} {H : Hp} : ∀ {n : Nat} {v : V} {d : PyData}, Dz S H n v d → Da H n v d
  | 0, _, _, h => h
  | n + 1, v, d, h => by
    rcases h with h | ⟨a, xs, ds, e1, e2, _, h, hl, p⟩ | ⟨a, xs, ds, e1, e2, _, h, hl, p⟩
    · exact .inl h
    · exact .inr (.inl ⟨a, xs, ds, e1, e2, h, hl, Paired.mapP p fun _ _ q => Dz.da q⟩)
    · exact .inr (.inr ⟨a, xs, ds, e1, e2, h, hl, Paired.mapP p fun _ _ q => Dz.da q⟩)
theorem Dz.keep {S : List Addr} {H H' : Hp} (k : Keep S H H') : ∀ {n : Nat} {v : V} {d : PyData}, Dz S H n v d → Dz S H' n v d
  | 0, _, _, h => h
  | n + 1, v, d, h => by
    rcases h with h | ⟨a, xs, ds, e1, e2, n, h, hl, p⟩ | ⟨a, xs, ds, e1, e2, n, h, hl, p⟩
    · exact .inl h
    · exact .inr (.inl ⟨a, xs, ds, e1, e2, n, k a _ h n, hl, Paired.mapP p fun _ _ q => Dz.keep k q⟩)
    · exact .inr (.inr ⟨a, xs, ds, e1, e2, n, k a _ h n, hl, Paired.mapP p fun _ _ q => Dz.keep k q⟩)
/-- other addresses: those that are new were free -/
theorem Dz.grow {S T : List Addr} {H : Hp} (g : ∀ x ∈ T, x ∈ S ∨ H x = none) : ∀ {n : Nat} {v : V} {d : PyData}, Dz S H n v d → Dz T H n v d
  | 0, _, _, h => h
  | n + 1, v, d, h => by
    have out : ∀ {a : Addr} {o : HO}, a ∉ S → H a = some o → a ∉ T := fun n e m => (g _ m).elim n fun z => by rw [z] at e; cases e
    rcases h with h | ⟨a, xs, ds, e1, e2, n, h, hl, p⟩ | ⟨a, xs, ds, e1, e2, n, h, hl, p⟩
    · exact .inl h
    · exact .inr (.inl ⟨a, xs, ds, e1, e2, out n h, h, hl, Paired.mapP p fun _ _ q => Dz.grow g q⟩)
    · exact .inr (.inr ⟨a, xs, ds, e1, e2, out n h, h, hl, Paired.mapP p fun _ _ q => Dz.grow g q⟩)
theorem Dz.up {S : List Addr} {H : Hp} : ∀ {n : Nat} {v : V} {d : PyData}, Dz S H n v d → Dz S H (n + 1) v d
  | 0, _, _, h => .inl h
  | n + 1, v, d, h => by
    rcases h with h | ⟨a, xs, ds, e1, e2, n, h, hl, p⟩ | ⟨a, xs, ds, e1, e2, n, h, hl, p⟩
    · exact .inl h
    · exact .inr (.inl ⟨a, xs, ds, e1, e2, n, h, hl, Paired.mapP p fun _ _ q => Dz.up q⟩)
    · exact .inr (.inr ⟨a, xs, ds, e1, e2, n, h, hl, Paired.mapP p fun _ _ q => Dz.up q⟩)
/-- all of it is new -/
theorem Da.dz_of {S : List Addr} {H : Hp} {n : Nat} {v : V} {d : PyData} (h : Dz [] H n v d) (f : ∀ x ∈ S, H x = none) : Dz S H n v d := Dz.grow (fun x m => .inr (f x m)) h
theorem Dz.int {S : List Addr} {H : Hp} {n : Nat} {i : Int} : Dz S H n (.int i) (.int i) := AtomD.dz (.inr (.inr (.inl ⟨i, rfl, rfl⟩)))
theorem Dz.bl {S : List Addr} {H : Hp} {n : Nat} {i : Bool} : Dz S H n (.bl i) (.bool i) := AtomD.dz (.inr (.inl ⟨i, rfl, rfl⟩))
theorem Dz.non {S : List Addr} {H : Hp} {n : Nat} : Dz S H n .non .none := AtomD.dz (.inl ⟨rfl, rfl⟩)
theorem Dz.str {S : List Addr} {H : Hp} {n : Nat} {x : Str} (h : PyData.strOk x = true) : Dz S H n (.str x) (.str x) := AtomD.dz (.inr (.inr (.inr ⟨x, rfl, rfl, h⟩)))
theorem Dz.lst {S : List Addr} {H : Hp} {n : Nat} {a : Addr} {xs : List V} {ds : List PyData} (h : H a = some (.lst xs)) (ha : a ∉ S) (hl : xs.length ≤ 100000) (p : Paired (Dz S H n) xs ds) : Dz S H (n + 1) (.ref a) (.list ds) := .inr (.inl ⟨a, xs, ds, rfl, rfl, ha, h, hl, p⟩)
theorem Dz.tup {S : List Addr} {H : Hp} {n : Nat} {a : Addr} {xs : List V} {ds : List PyData} (h : H a = some (.tup xs)) (ha : a ∉ S) (hl : xs.length ≤ 100000) (p : Paired (Dz S H n) xs ds) : Dz S H (n + 1) (.ref a) (.tuple ds) := .inr (.inr ⟨a, xs, ds, rfl, rfl, ha, h, hl, p⟩)
theorem Dz.list_inv {S : List Addr} {H : Hp} {n : Nat} {v : V} {ds : List PyData} (h : Dz S H (n + 1) v (.list ds)) : ∃ a xs, v = .ref a ∧ a ∉ S ∧ H a = some (.lst xs) ∧ xs.length ≤ 100000 ∧ Paired (Dz S H n) xs ds := by
  rcases h with h | ⟨a, xs, ds', e1, e2, n, h, hl, p⟩ | ⟨a, xs, ds, e1, e2, n, h, hl, p⟩
  · rcases h with ⟨_, e⟩ | ⟨_, _, e⟩ | ⟨_, _, e⟩ | ⟨_, _, e, _⟩ <;> cases e
  · cases e2; exact ⟨a, xs, e1, n, h, hl, p⟩
  · cases e2
theorem Dz.tuple_inv {S : List Addr} {H : Hp} {n : Nat} {v : V} {ds : List PyData} (h : Dz S H (n + 1) v (.tuple ds)) : ∃ a xs, v = .ref a ∧ a ∉ S ∧ H a = some (.tup xs) ∧ xs.length ≤ 100000 ∧ Paired (Dz S H n) xs ds := by
  rcases h with h | ⟨a, xs, ds', e1, e2, n, h, hl, p⟩ | ⟨a, xs, ds', e1, e2, n, h, hl, p⟩
  · rcases h with ⟨_, e⟩ | ⟨_, _, e⟩ | ⟨_, _, e⟩ | ⟨_, _, e, _⟩ <;> cases e
  · cases e2
  · cases e2; exact ⟨a, xs, e1, n, h, hl, p⟩
theorem dz_strs {S : List Addr} {H : Hp} {n : Nat} : ∀ {ns : List Str}, (∀ x ∈ ns, PyData.strOk x = true) → Paired (Dz S H n) (ns.map V.str) (ns.map PyData.str)
  | [], _ => .nil
  | _ :: _, h => .cons (Dz.str (h _ List.mem_cons_self)) (dz_strs fun x m => h x (List.mem_cons_of_mem _ m))
theorem dz_strs_inv {S : List Addr} {H : Hp} {n : Nat} : ∀ {ns : List Str} {xs : List V}, Paired (Dz S H n) xs (ns.map PyData.str) → xs = ns.map V.str
  | [], _, h => by cases h; rfl
  | x :: ns, _, h => by
    cases h with
    | cons h t =>
      have e : ∀ {n : Nat} {v : V}, Dz S H n v (.str x) → v = .str x := by
        intro n v h
        have aux : ∀ {v : V}, AtomD v (.str x) → v = .str x := fun h => by rcases h with ⟨_, e⟩ | ⟨_, _, e⟩ | ⟨_, _, e⟩ | ⟨_, rfl, e, _⟩ <;> cases e; rfl
        cases n with
        | zero => exact aux h
        | succ n =>
          rcases h with h | ⟨_, _, _, _, e, _⟩ | ⟨_, _, _, _, e, _⟩
          · exact aux h
          · cases e
          · cases e
      rw [e h, dz_strs_inv t]
      rfl
theorem nodup_ix {α : Type} {l : List α} (nd : l.Nodup) {i j : Nat} {a : α} (h1 : l[i]? = some a) (h2 : l[j]? = some a) : i = j := by
  obtain ⟨l1, e1⟩ := List.getElem?_eq_some_iff.mp h1
  obtain ⟨l2, e2⟩ := List.getElem?_eq_some_iff.mp h2
  have p := List.pairwise_iff_getElem.mp nd
  rcases Nat.lt_trichotomy i j with h | h | h
  · exact absurd (e1.trans e2.symm) (p i j l1 l2 h)
  · exact h
  · exact absurd (e2.trans e1.symm) (p j i l2 l1 h)
theorem eqv_strs : ∀ {l m : List Str}, PyData.eqvAll (l.map PyData.str) (m.map PyData.str) = decide (l = m)
  | [], [] => by simp [PyData.eqvAll]
  | [], _ :: _ => by simp [PyData.eqvAll]
  | _ :: _, [] => by simp [PyData.eqvAll]
  | x :: l, y :: m => by
    rw [List.map_cons, List.map_cons, PyData.eqvAll, eqv_strs]
    have : PyData.eqv (.str x) (.str y) = decide (x = y) := by simp [PyData.eqv]; rfl
    rw [this]
    by_cases h1 : x = y <;> by_cases h2 : l = m <;> simp [h1, h2]
theorem da_strs {H : Hp} {n : Nat} {a : Addr} {l : List Str} (h : H a = some (.lst (l.map V.str))) (hl : l.length ≤ 100000) (ok : ∀ x ∈ l, PyData.strOk x = true) : Da H (n + 1) (.ref a) (.list (l.map PyData.str)) :=
  Da.lst h (by rw [List.length_map]; exact hl) (Paired.mapP (dz_strs (S := []) (H := H) ok) fun _ _ q => q.da)
theorem dat_strs {H : Hp} {n : Nat} {a : Addr} {l : List Str} (h : H a = some (.tup (l.map V.str))) (hl : l.length ≤ 100000) (ok : ∀ x ∈ l, PyData.strOk x = true) : Da H (n + 1) (.ref a) (.tuple (l.map PyData.str)) :=
  Da.tup h (by rw [List.length_map]; exact hl) (Paired.mapP (dz_strs (S := []) (H := H) ok) fun _ _ q => q.da)
theorem eqD_strs {K : PySem.W.Frag} {H : Hp} {Q : VK} {a b : Addr} {l m : List Str} (h1 : H a = some (.lst (l.map V.str))) (h2 : H b = some (.lst (m.map V.str))) (l1 : l.length ≤ 100000) (l2 : m.length ≤ 100000) (o1 : ∀ x ∈ l, PyData.strOk x = true) (o2 : ∀ x ∈ m, PyData.strOk x = true) (q : Q (.bl (decide (l = m))) H) : dEqD K (.ref a) (.ref b) H Q :=
  eqD_da (n := 1) (da_strs h1 l1 o1) (da_strs h2 l2 o2) (by decide) (by
    have : PyData.eqv (.list (l.map PyData.str)) (.list (m.map PyData.str)) = decide (l = m) := by rw [PyData.eqv, eqv_strs]
    rw [this]
    exact q)
theorem neD_strs {K : PySem.W.Frag} {H : Hp} {Q : VK} {a b : Addr} {l m : List Str} (h1 : H a = some (.lst (l.map V.str))) (h2 : H b = some (.lst (m.map V.str))) (l1 : l.length ≤ 100000) (l2 : m.length ≤ 100000) (o1 : ∀ x ∈ l, PyData.strOk x = true) (o2 : ∀ x ∈ m, PyData.strOk x = true) (q : Q (.bl (!decide (l = m))) H) : dNeD K (.ref a) (.ref b) H Q :=
  neD_da (n := 1) (da_strs h1 l1 o1) (da_strs h2 l2 o2) (by decide) (by
    have : PyData.eqv (.list (l.map PyData.str)) (.list (m.map PyData.str)) = decide (l = m) := by rw [PyData.eqv, eqv_strs]
    rw [this]
    exact q)
theorem flat_strs {l : List Str} : (l.map V.str).all flatV = true := by
  rw [List.all_eq_true]
  intro x hx
  obtain ⟨s, _, rfl⟩ := List.mem_map.mp hx
  rfl
theorem cnt_strs {x : Str} {l : List Str} : cntV (.str x) (l.map V.str) = l.count x := by
  unfold cntV
  rw [List.countP_map, List.count]
  rfl
theorem in_strs {x : Str} {l : List Str} : inV (.str x) (l.map V.str) = decide (x ∈ l) := by
  unfold inV
  rw [List.any_map]
  induction l with
  | nil => rfl
  | cons y l ih =>
    rw [List.any_cons, ih]
    have : ((fun y => eqV y (V.str x)) ∘ V.str) y = decide (y = x) := by show (y == x) = _; rfl
    rw [this]
    by_cases h : y = x
    · subst h; simp
    · have : ¬ x = y := fun e => h e.symm
      simp [h, this]
theorem slice_strs {l : List Str} {k : Nat} : (l.map V.str).take k = (l.take k).map V.str := by rw [List.map_take]
theorem paired_refs {β : Type} {F : Addr → β → Prop} {qs : List Addr} {R : List β} (h : Paired F qs R) : Paired (fun v r => ∃ q, v = V.ref q ∧ F q r) (qs.map V.ref) R := by
  induction h with
  | nil => exact .nil
  | cons h _ ih => exact .cons ⟨_, rfl, h⟩ ih
theorem paired_strs : ∀ {l : List Str}, Paired (fun v x => v = V.str x) (l.map V.str) l
  | [] => .nil
  | _ :: _ => .cons rfl paired_strs
theorem paired_mapv {β : Type} {f : β → V} : ∀ {l : List β}, Paired (fun v x => v = f x) (l.map f) l
  | [] => .nil
  | _ :: _ => .cons rfl paired_mapv
theorem paired_mem {α β : Type} {F G : α → β → Prop} : ∀ {l : List α} {m : List β}, Paired F l m → (∀ a b, a ∈ l → F a b → G a b) → Paired G l m
  | _, _, .nil, _ => .nil
  | _, _, .cons h t, hh => .cons (hh _ _ List.mem_cons_self h) (paired_mem t fun a b m f => hh a b (List.mem_cons_of_mem _ m) f)
theorem paired_get {α β : Type} {F : α → β → Prop} : ∀ {l : List α} {m : List β} {i : Nat} {a : α} {b : β}, Paired F l m → l[i]? = some a → m[i]? = some b → F a b
  | _, _, _, _, _, .nil, e, _ => by simp at e
  | _, _, 0, _, _, .cons h _, e1, e2 => by simp at e1 e2; subst e1 e2; exact h
  | _, _, i + 1, _, _, .cons _ t, e1, e2 => paired_get t (by simpa using e1) (by simpa using e2)
/-- comprehensions whose values are new objects -/
theorem lcR_new {lo : Int} {n : Nat} {g : TG} {tt : TT} {te : TE} {vs : List Nat} {σ : L2.St} {H1 : Hp} {Q : VK} (hz : n ≤ 1000000) (obj : Nat → HO)
    (turn : ∀ (i : Nat), i < n → ∀ H, Same H1 H → ∀ (k1 : VK) (k0 : Hp → Prop), (∀ q H', Same H H' → H q = none → H' q = some (obj i) → k1 (.ref q) H') → LcTurn g tt te vs σ (.int (lo + (i : Nat))) H k1 k0)
    (hd : ∀ D H qs, H1 D = none → Same H1 H → H D = some (.lst (qs.map V.ref)) → qs.Nodup → D ∉ qs → (∀ q ∈ qs, H1 q = none) → Paired (fun q i => H q = some (obj i)) qs (List.range n) → Q (.ref D) H) : LcJ (Itr lo n) g tt te vs σ H1 Q := by
  refine fun D hD => lc_range (lo := lo) (n := n) (fun i H => Same H1 H ∧ ∃ qs, H D = some (.lst (qs.map V.ref)) ∧ qs.length = i ∧ qs.Nodup ∧ D ∉ qs ∧ (∀ q ∈ qs, H1 q = none) ∧ Paired (fun q i => H q = some (obj i)) qs (List.range i))
    ⟨same_new hD, [], upd_same, rfl, List.nodup_nil, by simp, by simp, .nil⟩ ?_ ?_
  · rintro i H hlt ⟨s, qs, hDs, hy, nd, nD, hn, pr⟩
    refine turn i hlt H s _ _ fun q H' s' hq hq' => ⟨qs.map V.ref, s' D _ hDs, by rw [List.length_map, sizeLine_eq]; omega, same_mut (s.trans s') hD, qs ++ [q], by rw [upd_same, List.map_append]; rfl, by rw [List.length_append, hy]; rfl, ?_, ?_, ?_, ?_⟩
    · refine List.nodup_append.mpr ⟨nd, by simp, ?_⟩
      rintro a ha b hb rfl
      simp at hb
      subst hb
      obtain ⟨j, hj⟩ := List.getElem?_of_mem ha
      obtain ⟨x, _, hx⟩ := pairedGet pr hj
      rw [hq] at hx
      cases hx
    · intro m
      rcases List.mem_append.mp m with m | m
      · exact nD m
      · simp at m
        subst m
        rw [hq] at hDs
        cases hDs
    · intro x hx
      rcases List.mem_append.mp hx with hx | hx
      · exact hn x hx
      · simp at hx
        subst hx
        exact s.free hq
    · rw [List.range_succ]
      have ne : ∀ x ∈ qs, x ≠ D := fun x hx e => nD (by rw [← e]; exact hx)
      refine paired_app ?_ (.cons ?_ .nil)
      · refine paired_mem pr fun a b m f => ?_
        show upd H' D _ a = _
        rw [upd_ne (ne a m)]
        exact s' _ _ f
      · show upd H' D _ q = _
        rw [upd_ne (fun e => by rw [← e, hq] at hDs; cases hDs)]
        exact hq'
  · rintro H ⟨s, qs, hDs, hy, nd, nD, hn, pr⟩
    exact hd D H qs hD s hDs nd nD hn pr
theorem lcL_new {β : Type} {K : PySem.W.Frag} {a : Addr} {xs : List V} {ps : List β} {F : V → β → Prop} {g : TG} {tt : TT} {te : TE} {vs : List Nat} {σ : L2.St} {H1 : Hp} {Q : VK} (hq : SqL K H1 a xs) (pp : Paired F xs ps) (hz : xs.length ≤ 1000000) (obj : β → HO)
    (turn : ∀ (i : Nat) (x : V) (b : β), xs[i]? = some x → ps[i]? = some b → F x b → ∀ H, Same H1 H → ∀ (k1 : VK) (k0 : Hp → Prop), (∀ q H', Same H H' → H q = none → H' q = some (obj b) → k1 (.ref q) H') → LcTurn g tt te vs σ x H k1 k0)
    (hd : ∀ D H qs, H1 D = none → Same H1 H → H D = some (.lst (qs.map V.ref)) → qs.Nodup → D ∉ qs → (∀ q ∈ qs, H1 q = none) → Paired (fun q b => H q = some (obj b)) qs ps → Q (.ref D) H) : LcL K a g tt te vs σ H1 Q := by
  refine ⟨⟨_, hq⟩, fun D hD => lc_list (K := K) (a := a) (xs := xs) (fun i H => Same H1 H ∧ ∃ qs, H D = some (.lst (qs.map V.ref)) ∧ qs.length = i ∧ qs.Nodup ∧ D ∉ qs ∧ (∀ q ∈ qs, H1 q = none) ∧ Paired (fun q b => H q = some (obj b)) qs (ps.take i))
    ⟨same_new hD, [], upd_same, rfl, List.nodup_nil, by simp, by simp, .nil⟩ (fun i H _ p => p.1.seq hq) ?_ ?_⟩
  · rintro i x H hx ⟨s, qs, hDs, hy, nd, nD, hn, pr⟩
    have hlt := (List.getElem?_eq_some_iff.mp hx).1
    obtain ⟨b, hb, hF⟩ := pairedGet pp hx
    have e1 : ps.take (i + 1) = ps.take i ++ [b] := by rw [List.take_succ, hb]; rfl
    refine turn i x b hx hb hF H s _ _ fun q H' s' hq hq' => ⟨qs.map V.ref, s' D _ hDs, by rw [List.length_map, sizeLine_eq]; omega, same_mut (s.trans s') hD, qs ++ [q], by rw [upd_same, List.map_append]; rfl, by rw [List.length_append, hy]; rfl, ?_, ?_, ?_, ?_⟩
    · refine List.nodup_append.mpr ⟨nd, by simp, ?_⟩
      rintro a ha b hb rfl
      simp at hb
      subst hb
      obtain ⟨j, hj⟩ := List.getElem?_of_mem ha
      obtain ⟨x, _, hx⟩ := pairedGet pr hj
      rw [hq] at hx
      cases hx
    · intro m
      rcases List.mem_append.mp m with m | m
      · exact nD m
      · simp at m
        subst m
        rw [hq] at hDs
        cases hDs
    · intro x hx
      rcases List.mem_append.mp hx with hx | hx
      · exact hn x hx
      · simp at hx
        subst hx
        exact s.free hq
    · rw [e1]
      have ne : ∀ x ∈ qs, x ≠ D := fun x hx e => nD (by rw [← e]; exact hx)
      refine paired_app ?_ (.cons ?_ .nil)
      · refine paired_mem pr fun a b m f => ?_
        show upd H' D _ a = _
        rw [upd_ne (ne a m)]
        exact s' _ _ f
      · show upd H' D _ q = _
        rw [upd_ne (fun e => by rw [← e, hq] at hDs; cases hDs)]
        exact hq'
  · rintro H ⟨s, qs, hDs, hy, nd, nD, hn, pr⟩
    rw [paired_len pp, List.take_length] at pr
    exact hd D H qs hD s hDs nd nD hn pr
theorem getD_at {α : Type} {l : List α} {i : Nat} {x d : α} (h : l[i]? = some x) : l.getD i d = x := by rw [List.getD_eq_getElem?_getD, h]; rfl
theorem atK_all {xs : List V} {i : Int} {k : V → Prop} (h0 : 0 ≤ i) (h1 : i < xs.length) (hk : ∀ v ∈ xs, k v) : atK xs i k := by
  obtain ⟨j, rfl⟩ := Int.eq_ofNat_of_zero_le h0
  have hj : j < xs.length := by omega
  exact atK_nat (List.getElem?_eq_getElem hj) (hk _ (List.getElem_mem hj))
/-- data that is kept while the addresses change -/
theorem Dz.move {S T : List Addr} {H H' : Hp} (k : Keep S H H') (g : ∀ x ∈ T, x ∈ S ∨ H x = none) : ∀ {n : Nat} {v : V} {d : PyData}, Dz S H n v d → Dz T H' n v d
  | 0, _, _, h => h
  | n + 1, v, d, h => by
    have out : ∀ {a : Addr} {o : HO}, a ∉ S → H a = some o → a ∉ T := fun n e m => (g _ m).elim n fun z => by rw [z] at e; cases e
    rcases h with h | ⟨a, xs, ds, e1, e2, n, h, hl, p⟩ | ⟨a, xs, ds, e1, e2, n, h, hl, p⟩
    · exact .inl h
    · exact .inr (.inl ⟨a, xs, ds, e1, e2, out n h, k a _ h n, hl, Paired.mapP p fun _ _ q => Dz.move k g q⟩)
    · exact .inr (.inr ⟨a, xs, ds, e1, e2, out n h, k a _ h n, hl, Paired.mapP p fun _ _ q => Dz.move k g q⟩)
/-- the other way first -/
theorem ifS_els {c : TT} {t e : TS} {D : Ends} {σ : L2.St} {H : Hp} (he : e D σ H) (h : ∀ e' : TS, e' D σ H → tIfS c t e' D σ H) : tIfS c t e D σ H := h e he
theorem Dz.non_inv {S : List Addr} {H : Hp} {n : Nat} {v : V} (h : Dz S H n v .none) : v = .non := by
  have aux : AtomD v .none → v = .non := fun h => by rcases h with ⟨rfl, _⟩ | ⟨_, _, e⟩ | ⟨_, _, e⟩ | ⟨_, _, e, _⟩ <;> first | rfl | cases e
  cases n with
  | zero => exact aux h
  | succ n =>
    rcases h with h | ⟨_, _, _, _, e, _⟩ | ⟨_, _, _, _, e, _⟩
    · exact aux h
    · cases e
    · cases e
theorem Dz.str_inv {S : List Addr} {H : Hp} {n : Nat} {v : V} {x : Str} (h : Dz S H n v (.str x)) : v = .str x ∧ PyData.strOk x = true := by
  have aux : AtomD v (.str x) → v = .str x ∧ PyData.strOk x = true := fun h => by rcases h with ⟨_, e⟩ | ⟨_, _, e⟩ | ⟨_, _, e⟩ | ⟨_, rfl, e, h⟩ <;> cases e; exact ⟨rfl, h⟩
  cases n with
  | zero => exact aux h
  | succ n =>
    rcases h with h | ⟨_, _, _, _, e, _⟩ | ⟨_, _, _, _, e, _⟩
    · exact aux h
    · cases e
    · cases e
theorem Dz.int_inv {S : List Addr} {H : Hp} {n : Nat} {v : V} {x : Int} (h : Dz S H n v (.int x)) : v = .int x := by
  have aux : AtomD v (.int x) → v = .int x := fun h => by rcases h with ⟨_, e⟩ | ⟨_, _, e⟩ | ⟨_, rfl, e⟩ | ⟨_, _, e, h⟩ <;> cases e; rfl
  cases n with
  | zero => exact aux h
  | succ n =>
    rcases h with h | ⟨_, _, _, _, e, _⟩ | ⟨_, _, _, _, e, _⟩
    · exact aux h
    · cases e
    · cases e
theorem paired_mapR {α β γ : Type} {G : α → γ → Prop} {f : β → γ} : ∀ {l : List α} {m : List β}, Paired (fun a b => G a (f b)) l m → Paired G l (m.map f)
  | _, _, .nil => .nil
  | _, _, .cons h t => .cons h (paired_mapR t)
theorem paired_range {α β : Type} {G : α → β → Prop} {f : Nat → β} {rs : List α} {l : List β} (h : Paired (fun q i => G q (f i)) rs (List.range l.length)) (hf : ∀ i x, l[i]? = some x → f i = x) : Paired G rs l := by
  have e : l = (List.range l.length).map f := by
    apply List.ext_getElem?
    intro i
    rw [List.getElem?_map]
    cases e : l[i]? with
    | none =>
      have := List.getElem?_eq_none_iff.mp e
      rw [List.getElem?_eq_none_iff.mpr (by rw [List.length_range]; exact this)]
      rfl
    | some x =>
      have hl := (List.getElem?_eq_some_iff.mp e).1
      rw [List.getElem?_range hl]
      show some x = some (f i)
      rw [hf i x e]
  rw [e]
  exact paired_mapR h
theorem notInD_da {K : PySem.W.Frag} {H : Hp} {Q : VK} {n : Nat} {x y : V} {d : PyData} {ds : List PyData} (h : Da H n x d) (h' : Da H n y (.list ds)) (hn : n ≤ 64) (m : d ∈ ds) (q : Q (.bl false) H) : rNotInD K x y H Q := by
  refine ⟨d, ds, h.dp, h'.dp, h.shaped hn, h'.shaped hn, ?_⟩
  have : (ds.any fun z => PyData.eqv z d) = true := List.any_eq_true.mpr ⟨d, m, SeqAt.eqv_refl d h.lay.1⟩
  rw [this]
  exact q
/-! ### the order of data: <, sorted, min, max -/
section
variable {X : Cx}
def rLtD (K : PySem.W.Frag) : R2 := fun x y H Q => ∃ d e, Dp K H x d ∧ Dp K H y e ∧ PySem.W.alike d e = true ∧ d ≠ .none ∧ d.depth ≤ 64 ∧ Q (.bl (PySem.W.dataLt d e)) H
theorem op_ltD (hu : X.A.units + 64 < cLine) : OpR X (compareOp .Lt) (rLtD X.K) := by
  intro pins s σ H x y v u Q I rx ry h
  obtain ⟨d, e, hd, he, ha, hn, hdp, q⟩ := h
  obtain ⟨as, r1⟩ := Dp.reads I d x v hd rx
  obtain ⟨bs, r2⟩ := Dp.reads I e y u he ry
  exact PySem.W.lt_data r1 r2 ha hn (by have := Nat.min_le_left d.depth e.depth; omega) ⟨.bl _, H, I, rfl, q⟩
def rSortD (K : PySem.W.Frag) : List V → Hp → VK → Prop := fun vs H Q => ∃ (a : Addr) (bs : List (V × PyData)), vs = [.ref a] ∧ SqL K H a (bs.map (·.1)) ∧ (∀ b ∈ bs, Dp K H b.1 b.2) ∧ PySem.W.AllAlike (bs.map (·.2)) ∧ PySem.W.Sortable (bs.map (·.2)) ∧ (∀ b ∈ bs, b.2.depth ≤ 60) ∧ bs.length ≤ 1000000 ∧
  ∀ p, H p = none → Q (.ref p) (upd H p (.lst ((bs.mergeSort (PySem.W.dataLe false (·.2))).map (·.1))))
theorem each_vals : ∀ {bs : List (V × PyData)} {us : List Value}, Vals (bs.map (·.1)) us → PySem.W.EachIs (fun u (b : V × PyData) => RelV b.1 u) us bs
  | [], _, h => by cases h; exact .nil
  | _ :: _, _, h => by
    cases h with
    | cons h t => exact .cons h (each_vals t)
theorem vals_each {us : List Value} {bs : List (V × PyData)} (h : PySem.W.EachIs (fun u (b : V × PyData) => RelV b.1 u) us bs) : Vals (bs.map (·.1)) us := by
  induction h with
  | nil => exact .nil
  | cons h _ ih => exact .cons h ih
theorem cr_sortD (hu : X.A.units + 64 < cLine) : CallR X (.builtin "sorted") (rSortD X.K) := by
  intro pins s σ H vs us Q I r h
  obtain ⟨a, bs, rfl, hs, hd, hal, hk, hdp, hl, q⟩ := h
  obtain ⟨its, rv, hil, hz⟩ := I.list hs
  rw [Vals.ref1 r]
  have e := each_vals rv
  have hL : bs.length ≤ sizeLine := by rw [sizeLine_eq]; omega
  have er : PySem.W.EachIs (fun v (b : V × PyData) => ∃ as, Reads s.heap v b.2 as) its bs := by
    clear rv hil hs hal hk hdp hl q hL hz
    induction e with
    | nil => exact .nil
    | @cons u b us bs h t ih => exact .cons (Dp.reads I b.2 b.1 u (hd b List.mem_cons_self) h) (ih fun b m => hd b (List.mem_cons_of_mem _ m))
  refine PySem.W.sorted_data (enc := fun b : V × PyData => b.2) hil.isList e er hal hk hL (fun b m => by have := hdp b m; omega) fun out h1 h2 => ?_
  obtain ⟨ep, he'⟩ := PyProof.Rows.sortedAll_at s.heap its out.toArray
  have hv := vals_each h2
  refine ⟨.ref _, upd H (s.heap.objs.size + 1) (.lst ((bs.mergeSort (PySem.W.dataLe false (·.2))).map (·.1))), I.laid (t' := s.toks) (fun _ _ => PyProof.Rows.sortedAll_old) (Nat.le_succ _) ⟨?_, out, ep, hv, ?_⟩, rfl, q _ (I.hok.fresh (Nat.le_succ _))⟩
  · rw [List.length_map, List.length_mergeSort]; exact hL
  · exact he'
def rBestD (m : PyData → List PyData → PyData) (K : PySem.W.Frag) : List V → Hp → VK → Prop := fun vs H Q => ∃ (a : Addr) (xs : List V) (d : PyData) (ds : List PyData), vs = [.ref a] ∧ SqL K H a xs ∧ Paired (Dp K H) xs (d :: ds) ∧ PySem.W.AlikeAll (d :: ds) ∧ PyData.depthAll (d :: ds) ≤ 60 ∧
  ∀ (i : Nat) (y : V), xs[i]? = some y → (d :: ds)[i]? = some (m d ds) → Q y H
theorem reads_vals {s : Shared} {pins : List (Addr × Obj)} {σ : L2.St} {H : Hp} (I : Inv X pins σ H s) : ∀ {xs : List V} {ds : List PyData} {us : List Value}, Paired (Dp X.K H) xs ds → Vals xs us → ∃ as, ReadsAll s.heap us ds as
  | _, _, _, .nil, h => by cases h; exact ⟨_, .nil⟩
  | _, _, _, .cons h t, hv => by
    cases hv with
    | cons hu tv =>
      obtain ⟨as, r⟩ := Dp.reads I _ _ _ h hu
      obtain ⟨bs, rs⟩ := reads_vals I t tv
      exact ⟨_, .cons r rs⟩
theorem best_mem {f : PyData → PyData → Bool} : ∀ {ds : List PyData} {d : PyData}, ds.foldl (fun a y => if f a y then y else a) d ∈ d :: ds
  | [], _ => List.mem_cons_self
  | x :: ds, d => by
    rw [List.foldl_cons]
    have := best_mem (f := f) (ds := ds) (d := if f d x then x else d)
    rcases List.mem_cons.mp this with h | h
    · rw [h]
      split
      · exact List.mem_cons_of_mem _ List.mem_cons_self
      · exact List.mem_cons_self
    · exact List.mem_cons_of_mem _ (List.mem_cons_of_mem _ h)
theorem cr_minD (hc : X.calm = true) (hu : X.A.units + 65 < cLine) : CallR X (.builtin "min") (rBestD PySem.W.minD X.K) := by
  intro pins s σ H vs us Q I r h
  obtain ⟨a, xs, d, ds, rfl, hs, pd, hal, hdp, q⟩ := h
  obtain ⟨its, rv, hil, hz⟩ := I.list hs
  rw [Vals.ref1 r]
  obtain ⟨as, hr⟩ := reads_vals I pd rv
  refine PySem.W.min_list_data (I.ok.hd hc) hil.isList (by simpa using hr) hal (by omega) fun i v h' tk bs hv rb hk => ?_
  have hv' : its[i]? = some v := by simpa using hv
  obtain ⟨y, hy, ry⟩ : ∃ y, xs[i]? = some y ∧ RelV y v := by
    have hl := rv.length
    have hi : i < xs.length := by rw [hl]; exact (List.getElem?_eq_some_iff.mp hv').1
    obtain ⟨u, hu, ru⟩ := rv.get (List.getElem?_eq_getElem hi)
    rw [hv'] at hu
    cases hu
    exact ⟨_, List.getElem?_eq_getElem hi, ru⟩
  obtain ⟨e, he, dy⟩ := pairedGet pd hy
  obtain ⟨cs, rc⟩ := Dp.reads I e y v dy ry
  have : e = PySem.W.minD d ds := PySem.W.alike_unique _ _ _ _ _ (hal.1 _ (List.mem_of_getElem? he) _ (best_mem (f := fun a y => PySem.W.dataLt y a))) (PySem.W.reads_keeps hk rc) rb
  subst this
  exact ⟨y, H, I.kept hk, ry, q i y hy he⟩
theorem cr_maxD (hc : X.calm = true) (hu : X.A.units + 65 < cLine) : CallR X (.builtin "max") (rBestD PySem.W.maxD X.K) := by
  intro pins s σ H vs us Q I r h
  obtain ⟨a, xs, d, ds, rfl, hs, pd, hal, hdp, q⟩ := h
  obtain ⟨its, rv, hil, hz⟩ := I.list hs
  rw [Vals.ref1 r]
  obtain ⟨as, hr⟩ := reads_vals I pd rv
  refine PySem.W.max_list_data (I.ok.hd hc) hil.isList (by simpa using hr) hal (by omega) fun i v h' tk bs hv rb hk => ?_
  have hv' : its[i]? = some v := by simpa using hv
  obtain ⟨y, hy, ry⟩ : ∃ y, xs[i]? = some y ∧ RelV y v := by
    have hl := rv.length
    have hi : i < xs.length := by rw [hl]; exact (List.getElem?_eq_some_iff.mp hv').1
    obtain ⟨u, hu, ru⟩ := rv.get (List.getElem?_eq_getElem hi)
    rw [hv'] at hu
    cases hu
    exact ⟨_, List.getElem?_eq_getElem hi, ru⟩
  obtain ⟨e, he, dy⟩ := pairedGet pd hy
  obtain ⟨cs, rc⟩ := Dp.reads I e y v dy ry
  have : e = PySem.W.maxD d ds := PySem.W.alike_unique _ _ _ _ _ (hal.1 _ (List.mem_of_getElem? he) _ (best_mem (f := fun a y => PySem.W.dataLt a y))) (PySem.W.reads_keeps hk rc) rb
  subst this
  exact ⟨y, H, I.kept hk, ry, q i y hy he⟩
end
/-! ### more displays and sums -/
def dStar (te : TE) (t : TA) : TA := fun σ H Q => te σ H fun x H1 => match x with
  | .ref p => seqAt (H1 p) fun xs => t σ H1 fun ys H2 => Q (xs ++ ys) H2
  | _ => False
/-- + of ints, texts, lists, tuples -/
def dAdd2 : R2 := fun x y H Q => match x, y with
  | .int i, .int j => Q (.int (i + j)) H
  | .str i, .str j => i.length + j.length ≤ sizeLine ∧ Q (.str (i ++ j)) H
  | .ref a, .ref b => match H a, H b with
    | some (.lst xs), some (.lst ys) => xs.length + ys.length ≤ sizeLine ∧ ∀ p, H p = none → Q (.ref p) (upd H p (.lst (xs ++ ys)))
    | some (.tup xs), some (.tup ys) => xs.length + ys.length ≤ sizeLine ∧ (xs = [] → Q (.ref b) H) ∧ (xs ≠ [] → ys = [] → Q (.ref a) H) ∧ (xs ≠ [] → ys ≠ [] → ∀ p, H p = none → Q (.ref p) (upd H p (.tup (xs ++ ys))))
    | _, _ => False
  | _, _ => False
def dGcd : List V → Hp → VK → Prop := fun vs H Q => match vs with
  | [.int a, .int b] => Q (.int ((Nat.gcd a.natAbs b.natAbs : Nat) : Int)) H
  | _ => False
section
variable {X : Cx}
theorem d_star {e : Expr} {es : List Expr} {te : TE} {t : TA} {p : Pos} (he : PE X e te) (hr : PA X es t) (hs : starEach (.Starred e p :: es) X.env = (true, eval e X.env) :: starEach es X.env := by rfl) : PA X (.Starred e p :: es) (dStar te t) := by
  have h := StX.pa_star (peM he) hr hs
  refine ⟨fun pos pins s σ H Q I q => h.run pos pins s σ H Q I ⟨_, q, fun v H' q2 => ?_⟩⟩
  split at q2
  · obtain ⟨xs, hs, q3⟩ := seqAt_sq (K := X.K) q2
    exact ⟨_, xs, rfl, hs.symm, q3⟩
  · exact q2.elim
theorem d_add2 : OpR X (binaryOp .Add) dAdd2 := opM (u_add (X := X)) fun x y H Q q => by
  unfold dAdd2 at q
  split at q
  · exact .inl ⟨_, _, rfl, rfl, q⟩
  · exact .inr (.inl ⟨_, _, rfl, rfl, q.1, q.2⟩)
  · split at q
    · rename_i h1 h2
      exact .inr (.inr (.inl ⟨_, _, _, _, rfl, rfl, h1, h2, q.1, q.2⟩))
    · rename_i xs ys h1 h2
      exact .inr (.inr (.inr ⟨_, _, xs, ys, rfl, rfl, .inl (.inl h1), .inl (.inl h2), q.1, q.2.1, q.2.2.1, q.2.2.2⟩))
    · exact q.elim
  · exact q.elim
theorem d_gcd : CallR X (.builtin "math.gcd") dGcd := caM cr_gcd fun xs H Q q => by
  unfold dGcd at q
  split at q
  · exact ⟨_, _, rfl, q⟩
  · exact q.elim
end
/-! ### comprehensions with two fors -/
section
variable {K : PySem.W.Frag}
abbrev Lc2In (wi1 : TI) (g1 : TG) (tt1 : TT) (te : TE) (vs1 : List Nat) (D : Addr) (σ2 : L2.St) (H3 : Hp) (Nx : Hp → Prop) : Prop :=
  wi1 σ2 H3 fun J1 H4 => ∃ W1 : Nat → Nat → Hp → Prop, (∃ m, W1 0 m H4) ∧ ∀ j k H, W1 j k H →
    (J1.stop j H ∧ Nx H) ∨ (J1.go j H ∧ ∃ Nx1 : Hp → Prop, (∀ H', Nx1 H' → ∃ k', k' < k ∧ W1 (j + 1) k' H') ∧ ∀ x H', J1.yld j H x H' → g1 x (wipe σ2 vs1) H' fun σ3 H5 => wipe σ3 vs1 = wipe σ2 vs1 ∧ tt1 σ3 H5 fun b H6 =>
      if b = true then te σ3 H6 fun y H7 => ∃ acc, H7 D = some (.lst acc) ∧ acc.length < sizeLine ∧ Nx1 (upd H7 D (.lst (acc ++ [y]))) else Nx1 H6)
/-- the inner walk of a sequence -/
theorem lc2_in {J : It} {n : Nat} {g1 : TG} {tt1 : TT} {te : TE} {vs1 : List Nat} {D : Addr} {σ2 : L2.St} {H4 : Hp} {Nx : Hp → Prop} (it : Nat → V → Prop) (Pw : Nat → Hp → Prop) (h0 : Pw 0 H4)
    (hgo : ∀ j H, j < n → Pw j H → J.go j H) (hst : ∀ H, Pw n H → J.stop n H) (hy : ∀ j H x H', j < n → Pw j H → J.yld j H x H' → H' = H ∧ it j x)
    (hs : ∀ j x H, j < n → it j x → Pw j H → g1 x (wipe σ2 vs1) H fun σ3 H5 => wipe σ3 vs1 = wipe σ2 vs1 ∧ tt1 σ3 H5 fun b H6 => if b = true then te σ3 H6 fun y H7 => ∃ acc, H7 D = some (.lst acc) ∧ acc.length < sizeLine ∧ Pw (j + 1) (upd H7 D (.lst (acc ++ [y]))) else Pw (j + 1) H6) (hd : ∀ H, Pw n H → Nx H) :
    ∃ W1 : Nat → Nat → Hp → Prop, (∃ m, W1 0 m H4) ∧ ∀ j k H, W1 j k H →
      (J.stop j H ∧ Nx H) ∨ (J.go j H ∧ ∃ Nx1 : Hp → Prop, (∀ H', Nx1 H' → ∃ k', k' < k ∧ W1 (j + 1) k' H') ∧ ∀ x H', J.yld j H x H' → g1 x (wipe σ2 vs1) H' fun σ3 H5 => wipe σ3 vs1 = wipe σ2 vs1 ∧ tt1 σ3 H5 fun b H6 =>
        if b = true then te σ3 H6 fun y H7 => ∃ acc, H7 D = some (.lst acc) ∧ acc.length < sizeLine ∧ Nx1 (upd H7 D (.lst (acc ++ [y]))) else Nx1 H6) := by
  refine ⟨fun j k H => k = n - j ∧ j ≤ n ∧ Pw j H, ⟨n, by omega, Nat.zero_le _, h0⟩, ?_⟩
  rintro j k H ⟨rfl, hj, p⟩
  rcases Nat.lt_or_ge j n with h | h
  · refine .inr ⟨hgo j H h p, Pw (j + 1), fun H' q => ⟨n - (j + 1), by omega, rfl, h, q⟩, fun x H' y => ?_⟩
    obtain ⟨rfl, e⟩ := hy j H x H' h p y
    exact hs j x _ h e p
  · have : j = n := by omega
    subst this
    exact .inl ⟨hst H p, hd H p⟩
end
/-- a walk over what stands as a list or a tuple, old or new -/
structure SeqJ (K : PySem.W.Frag) (J : It) (H1 H H4 : Hp) (ys : List V) : Prop where
  ex : ∃ b, (H b = none ∨ H1 b ≠ none) ∧ ((J = Itl K b ∧ H4 b = some (.lst ys)) ∨ (J = Itt K b ∧ H4 b = some (.tup ys)))
section
variable {K : PySem.W.Frag}
/-- the outer walk -/
theorem lc2_out {J : It} {n : Nat} {g : TG} {tt : TT} {wi1 : TI} {g1 : TG} {tt1 : TT} {te : TE} {vs vs1 : List Nat} {σ : L2.St} {H1 : Hp} {D : Addr} {Qd : Hp → Prop} (it : Nat → V → Prop) (Pv : Nat → Hp → Prop) (h0 : Pv 0 (upd H1 D (.lst [])))
    (hgo : ∀ j H, j < n → Pv j H → J.go j H) (hst : ∀ H, Pv n H → J.stop n H) (hy : ∀ j H x H', j < n → Pv j H → J.yld j H x H' → H' = H ∧ it j x)
    (hs : ∀ j x H, j < n → it j x → Pv j H → g x (wipe σ vs) H fun σ2 H2 => wipe σ2 vs = wipe σ vs ∧ tt σ2 H2 fun b H3 => if b = true then Lc2In wi1 g1 tt1 te vs1 D σ2 H3 (Pv (j + 1)) else Pv (j + 1) H3) (hd : ∀ H, Pv n H → Qd H) :
    ∃ W : Nat → Nat → Hp → Prop, (∃ m, W 0 m (upd H1 D (.lst []))) ∧ ∀ i m H, W i m H →
      (J.stop i H ∧ Qd H) ∨ (J.go i H ∧ ∃ Nx : Hp → Prop, (∀ H', Nx H' → ∃ m', m' < m ∧ W (i + 1) m' H') ∧ ∀ x H', J.yld i H x H' → g x (wipe σ vs) H' fun σ2 H2 => wipe σ2 vs = wipe σ vs ∧ tt σ2 H2 fun b H3 =>
        if b = true then Lc2In wi1 g1 tt1 te vs1 D σ2 H3 Nx else Nx H3) := by
  refine ⟨fun j k H => k = n - j ∧ j ≤ n ∧ Pv j H, ⟨n, by omega, Nat.zero_le _, h0⟩, ?_⟩
  rintro j k H ⟨rfl, hj, p⟩
  rcases Nat.lt_or_ge j n with h | h
  · refine .inr ⟨hgo j H h p, Pv (j + 1), fun H' q => ⟨n - (j + 1), by omega, rfl, h, q⟩, fun x H' y => ?_⟩
    obtain ⟨rfl, e⟩ := hy j H x H' h p y
    exact hs j x _ h e p
  · have : j = n := by omega
    subst this
    exact .inl ⟨hst H p, hd H p⟩
/-- what is found by two fors -/
theorem lc2_pair {β γ : Type} {a : Addr} {xs : List V} {ps : List β} {F : V → β → Prop} {g : TG} {tt : TT} {wi1 : TI} {g1 : TG} {tt1 : TT} {te : TE} {vs vs1 : List Nat} {σ : L2.St} {H1 : Hp} {Q : VK} (hq : SqL K H1 a xs) (pp : Paired F xs ps) (B : Nat) (hz : xs.length * B ≤ 1000000) (qs : β → List γ) (hqs : ∀ p, (qs p).length ≤ B)
    (G : β → V → γ → Prop) (R : β → γ → V → Hp → Prop) (st : ∀ p q y H H', KT H H' → R p q y H → R p q y H') (s2 : V → L2.St)
    (outer : ∀ (i : Nat) (x : V) (p : β), xs[i]? = some x → ps[i]? = some p → F x p → ∀ H, Same H1 H → ∀ (C : L2.St → It → Hp → Prop) (k0 : Hp → Prop), (∀ J H4 ys, Same H H4 → SeqJ K J H1 H H4 ys → Paired (G p) ys (qs p) → C (s2 x) J H4) →
      g x (wipe σ vs) H fun σ2 H2 => wipe σ2 vs = wipe σ vs ∧ tt σ2 H2 fun b H3 => if b = true then wi1 σ2 H3 (C σ2) else k0 H3)
    (inner : ∀ (i : Nat) (x : V) (p : β) (y : V) (q : γ), xs[i]? = some x → ps[i]? = some p → F x p → q ∈ qs p → G p y q → ∀ H, Same H1 H → ∀ (k1 : VK) (k0 : Hp → Prop), (∀ v H', Same H H' → R p q v H' → k1 v H') → LcTurn g1 tt1 te vs1 (s2 x) y H k1 k0)
    (hd : ∀ D H ys, H1 D = none → Same H1 H → H D = some (.lst ys) → Paired (fun pq v => R pq.1 pq.2 v H) (ps.flatMap fun p => (qs p).map fun q => (p, q)) ys → Q (.ref D) H) :
    ∀ D, H1 D = none → ∃ W : Nat → Nat → Hp → Prop, (∃ m, W 0 m (upd H1 D (.lst []))) ∧ ∀ i m H, W i m H →
      ((Itl K a).stop i H ∧ Q (.ref D) H) ∨ ((Itl K a).go i H ∧ ∃ Nx : Hp → Prop, (∀ H', Nx H' → ∃ m', m' < m ∧ W (i + 1) m' H') ∧ ∀ x H', (Itl K a).yld i H x H' → g x (wipe σ vs) H' fun σ2 H2 => wipe σ2 vs = wipe σ vs ∧ tt σ2 H2 fun b H3 =>
        if b = true then Lc2In wi1 g1 tt1 te vs1 D σ2 H3 Nx else Nx H3) := by
  intro D hD
  refine lc2_out (n := xs.length) (fun j x => xs[j]? = some x) (fun i H => Same H1 H ∧ ∃ acc, H D = some (.lst acc) ∧ acc.length ≤ i * B ∧ Paired (fun pq v => R pq.1 pq.2 v H) ((ps.take i).flatMap fun p => (qs p).map fun q => (p, q)) acc)
    ⟨same_new hD, [], upd_same, Nat.zero_le _, .nil⟩ ?_ ?_ ?_ ?_ ?_
  · rintro j H hj ⟨s, _⟩
    exact ⟨xs, xs[j], s.seq hq, List.getElem?_eq_getElem hj⟩
  · rintro H ⟨s, _⟩
    exact ⟨xs, s.seq hq, Nat.le_refl _⟩
  · rintro j H x H' hj ⟨s, _⟩ ⟨e, h⟩
    exact ⟨e, h xs (s.seq hq)⟩
  · rintro i x H hi hx ⟨s, acc, hDs, hy, pr⟩
    obtain ⟨p, hp, hF⟩ := pairedGet pp hx
    have e1 : ps.take (i + 1) = ps.take i ++ [p] := by rw [List.take_succ, hp]; rfl
    refine outer i x p hx hp hF H s (fun σ2 J1 H4 => _) _ fun J H4 ys s4 sj pg => ?_
    obtain ⟨b, hb, hJ⟩ := sj.ex
    have nb : b ≠ D := by
      rcases hb with hb | hb
      · intro e; rw [e, hDs] at hb; cases hb
      · intro e; rw [e] at hb; exact hb hD
    have hlen := paired_len pg
    have hB := hqs p
    have him : i * B + B ≤ 1000000 := by
      have h1 : (i + 1) * B ≤ xs.length * B := Nat.mul_le_mul_right _ hi
      rw [Nat.succ_mul] at h1
      omega
    refine lc2_in (J := J) (n := ys.length) (fun j y => ys[j]? = some y) (fun j H => Same H1 H ∧ H b = H4 b ∧ ∃ acc, H D = some (.lst acc) ∧ acc.length ≤ i * B + j ∧ Paired (fun pq v => R pq.1 pq.2 v H) (((ps.take i).flatMap fun p => (qs p).map fun q => (p, q)) ++ ((qs p).take j).map fun q => (p, q)) acc) ?_ ?_ ?_ ?_ ?_ ?_
    · refine ⟨s.trans s4, rfl, acc, s4 _ _ hDs, hy, ?_⟩
      rw [List.take_zero, List.map_nil, List.append_nil]
      exact Paired.mapP pr fun _ _ z => st _ _ _ _ _ (KT.same s4) z
    · rintro j H hj ⟨_, eb, _⟩
      rcases hJ with ⟨rfl, h⟩ | ⟨rfl, h⟩
      · exact ⟨ys, ys[j], .inl (.inl (eb.trans h)), List.getElem?_eq_getElem hj⟩
      · exact ⟨ys, ys[j], .inl (.inl (eb.trans h)), List.getElem?_eq_getElem hj⟩
    · rintro H ⟨_, eb, _⟩
      rcases hJ with ⟨rfl, h⟩ | ⟨rfl, h⟩
      · exact ⟨ys, .inl (.inl (eb.trans h)), Nat.le_refl _⟩
      · exact ⟨ys, .inl (.inl (eb.trans h)), Nat.le_refl _⟩
    · rintro j H y H' hj ⟨_, eb, _⟩ hyl
      rcases hJ with ⟨rfl, h⟩ | ⟨rfl, h⟩
      · exact ⟨hyl.1, hyl.2 ys (.inl (.inl (eb.trans h)))⟩
      · exact ⟨hyl.1, hyl.2 ys (.inl (.inl (eb.trans h)))⟩
    · rintro j y H hj hyj ⟨sH, eb, acc2, hD2, hl2, pr2⟩
      obtain ⟨q, hqj, hG⟩ := pairedGet pg hyj
      have hbs : H b ≠ none := by
        rw [eb]
        rcases hJ with ⟨_, h⟩ | ⟨_, h⟩ <;> rw [h] <;> simp
      refine inner i x p y q hx hp hF (List.mem_of_getElem? hqj) hG H sH _ _ fun v H' s' r => ⟨acc2, s' D _ hD2, by rw [sizeLine_eq]; omega, same_mut (sH.trans s') hD, ?_, acc2 ++ [v], upd_same, by rw [List.length_append, List.length_singleton]; omega, ?_⟩
      · rw [upd_ne nb]
        cases e : H b with
        | none => exact absurd e hbs
        | some o => rw [s' b o e, ← eb, e]
      · have kt : KT H (upd H' D (.lst (acc2 ++ [v]))) := (KT.same s').trans (KT.mut (by rw [s' D _ hD2]; rfl))
        have kt2 : KT H' (upd H' D (.lst (acc2 ++ [v]))) := KT.mut (by rw [s' D _ hD2]; rfl)
        have e2 : (qs p).take (j + 1) = (qs p).take j ++ [q] := by rw [List.take_succ, hqj]; rfl
        rw [e2, List.map_append, ← List.append_assoc]
        exact paired_app (Paired.mapP pr2 fun _ _ z => st _ _ _ _ _ kt z) (.cons (st _ _ _ _ _ kt2 r) .nil)
    · rintro H ⟨sH, _, acc2, hD2, hl2, pr2⟩
      rw [hlen, List.take_length] at pr2
      refine ⟨sH, acc2, hD2, by rw [Nat.succ_mul]; omega, ?_⟩
      rw [e1, List.flatMap_append]
      simpa using pr2
  · rintro H ⟨s, acc, hDs, hy, pr⟩
    rw [paired_len pp, List.take_length] at pr
    exact hd D H acc hD s hDs pr
end
def dIL (K : PySem.W.Frag) (tl : TE) : TI := fun σ H R => tl σ H fun x H1 => match x with
  | .ref a => (∃ xs, SqL K H1 a xs) ∧ R (Itl K a) H1
  | _ => False
def dIT (K : PySem.W.Frag) (tl : TE) : TI := fun σ H R => tl σ H fun x H1 => match x with
  | .ref a => (∃ xs, SqT K H1 a xs) ∧ R (Itt K a) H1
  | _ => False
def Lc2J (J : It) (g : TG) (tt : TT) (wi1 : TI) (g1 : TG) (tt1 : TT) (te : TE) (vs vs1 : List Nat) : L2.St → Hp → VK → Prop := fun σ H1 Q =>
  ∀ D, H1 D = none → ∃ W : Nat → Nat → Hp → Prop, (∃ m, W 0 m (upd H1 D (.lst []))) ∧ ∀ i m H, W i m H →
      (J.stop i H ∧ Q (.ref D) H) ∨ (J.go i H ∧ ∃ Nx : Hp → Prop, (∀ H', Nx H' → ∃ m', m' < m ∧ W (i + 1) m' H') ∧ ∀ x H', J.yld i H x H' → g x (wipe σ vs) H' fun σ2 H2 => wipe σ2 vs = wipe σ vs ∧ tt σ2 H2 fun b H3 =>
        if b = true then Lc2In wi1 g1 tt1 te vs1 D σ2 H3 Nx else Nx H3)
def dLc2 (K : PySem.W.Frag) (tl : TE) (g : TG) (tt : TT) (wi1 : TI) (g1 : TG) (tt1 : TT) (te : TE) (vs vs1 : List Nat) : TE := fun σ H Q => tl σ H fun x H1 => match x with
  | .ref a => (∃ xs, SqL K H1 a xs) ∧ Lc2J (Itl K a) g tt wi1 g1 tt1 te vs vs1 σ H1 Q
  | _ => False
section
variable {X : Cx}
theorem pi_dL {tg e : Expr} {tl : TE} (h : PE X e tl) : PI X tg e (dIL X.K tl) := by
  have h := pi_list (tg := tg) (peM h)
  refine ⟨fun pins s σ H R I q => h.run pins s σ H R I ⟨_, q, fun v H' q2 => ?_⟩⟩
  split at q2
  · exact ⟨_, rfl, q2.1, q2.2⟩
  · exact q2.elim
theorem pi_dT {tg e : Expr} {tl : TE} (h : PE X e tl) : PI X tg e (dIT X.K tl) := by
  have h := pi_tup (tg := tg) (peM h)
  refine ⟨fun pins s σ H R I q => h.run pins s σ H R I ⟨_, q, fun v H' q2 => ?_⟩⟩
  split at q2
  · exact ⟨_, rfl, q2.1, q2.2⟩
  · exact q2.elim
theorem lc2_l {K : PySem.W.Frag} {tl : TE} {g g1 : TG} {tt tt1 : TT} {te : TE} {wi1 : TI} {vs vs1 : List Nat} {σ : L2.St} {H : Hp} {Q : VK} (q1 : dLc2 K tl g tt wi1 g1 tt1 te vs vs1 σ H Q) : tLc2 (iList K (mE tl)) g tt wi1 g1 tt1 te vs vs1 σ H Q := ⟨_, q1, fun v H' q2 => by
  split at q2
  · exact ⟨_, rfl, q2.1, q2.2⟩
  · exact q2.elim⟩
variable {elt tg iter tg1 iter1 : Expr} {ifs ifs1 : List Expr} {scope : Scope} {own : List (Str × Nat)} {vs1 : List Nat} {pos : Pos} {tl te : TE} {wi1 : TI} {g g1 : TG} {tt tt1 : TT}
theorem d_lc2 (hc : X.calm = true) (hN : X.N.Nodup) (hl : PE X iter tl) (ok : BlkOk X.N X.env.scope scope own) (hv : ∀ i ∈ vs1, i ∈ own.map (·.2)) (hg : BG X scope tg g) (ht : BT X scope ifs tt)
    (hi1 : ∀ (s : Shared) (H : Hp) (C : Addr) (cl : List (Str × Addr)) (fp : List Addr), PI (X.blk s H scope (compEnvC scope cl C X.env) fp) tg1 iter1 wi1) (hg1 : BG X scope tg1 g1) (ht1 : BT X scope ifs1 tt1) (he : BE X scope elt te)
    (hs : ∀ x, foldedSetIterable iter X.env x = pure x := by intro _; rfl) (hs1 : ∀ env x, foldedSetIterable iter1 env x = pure x := by intro _ _; rfl) :
    PE X (.ListComp elt [⟨tg, iter, ifs, 0⟩, ⟨tg1, iter1, ifs1, 0⟩] scope pos) (dLc2 X.K tl g tt wi1 g1 tt1 te (own.map (·.2)) vs1) := peI (pe_lc2 hc hN (pi_list (peM hl)) ok hv hg ht hi1 hg1 ht1 he hs hs1) fun _ _ _ q => lc2_l q
theorem d_set2 {i : Nat} {y : Str} {py spos : Pos} (hc : X.calm = true) (hN : X.N.Nodup) (hy : X.N[i]? = some y) (hyl : X.env.scope.names.lookup y = some .local) (hsw : swapsWith (.ListComp elt [⟨tg, iter, ifs, 0⟩, ⟨tg1, iter1, ifs1, 0⟩] scope pos) (some (.Name y py)) spos.line X.env = pure true)
    (hl : PE X iter tl) (ok : BlkOk X.N X.env.scope scope own) (hv : ∀ i ∈ vs1, i ∈ own.map (·.2)) (hg : BG X scope tg g) (ht : BT X scope ifs tt)
    (hi1 : ∀ (s : Shared) (H : Hp) (C : Addr) (cl : List (Str × Addr)) (fp : List Addr), PI (X.blk s H scope (compEnvC scope cl C X.env) fp) tg1 iter1 wi1) (hg1 : BG X scope tg1 g1) (ht1 : BT X scope ifs1 tt1) (he : BE X scope elt te)
    (hs : ∀ x, foldedSetIterable iter X.env x = pure x := by intro _; rfl) (hs1 : ∀ env x, foldedSetIterable iter1 env x = pure x := by intro _ _; rfl) :
    PS X (.Assign [.Name y py] (.ListComp elt [⟨tg, iter, ifs, 0⟩, ⟨tg1, iter1, ifs1, 0⟩] scope pos) spos) (tAsg (dLc2 X.K tl g tt wi1 g1 tt1 te (own.map (·.2)) vs1) (gName i)) := psI (ps_setLc2 hc hN hy hyl hsw (pi_list (peM hl)) ok hv hg ht hi1 hg1 ht1 he hs hs1) fun _ _ _ q => lc2_l q
end
section
variable {X : Cx} {a b elt tg : Expr} {ifs : List Expr} {scope : Scope} {own : List (Str × Nat)} {te : TE} {ta : TA} {g : TG} {tt : TT} {pos p p2 : Pos} {i : Nat} {y : Str} {py spos : Pos}
theorem d_setR2 (hc : X.calm = true) (hN : X.N.Nodup) (hy : X.N[i]? = some y) (hyl : X.env.scope.names.lookup y = some .local) (hsw : swapsWith (.ListComp elt [⟨tg, .Call (.Name "range" p) [a, b] [] p2, ifs, 0⟩] scope pos) (some (.Name y py)) spos.line X.env = pure true)
    (hm : X.mg "range" = none) (ha : PA X [a, b] ta) (ok : BlkOk X.N X.env.scope scope own) (hg : BG X scope tg g) (ht : BT X scope ifs tt) (he : BE X scope elt te) (hgl : Gl X "range" := by rfl)
    (hs : ∀ x, foldedSetIterable (.Call (.Name "range" p) [a, b] [] p2) X.env x = pure x := by intro _; rfl) (hst : starEach [a, b] X.env = [(false, eval a X.env), (false, eval b X.env)] := by rfl) (hst2 : starEach [b] X.env = [(false, eval b X.env)] := by rfl) :
    PS X (.Assign [.Name y py] (.ListComp elt [⟨tg, .Call (.Name "range" p) [a, b] [] p2, ifs, 0⟩] scope pos) spos) (tAsg (dLcR2 ta g tt te (own.map (·.2))) (gName i)) := psI (ps_setLc hc hN hy hyl hsw (pi_range2 hgl hm (paM ha) hst hst2) ok hg ht he hs) fun _ _ _ q => lc_r2 q
end
/-! ### comprehensions over tuples; a tuple times an int -/
theorem lcT_core {K : PySem.W.Frag} {a : Addr} {xs : List V} {g : TG} {tt : TT} {te : TE} {vs : List Nat} {σ : L2.St} {H1 : Hp} {Q : VK} (hq : H1 a = some (.tup xs)) (hz : xs.length ≤ 1000000) (f : V → Bool) (R : V → V → Hp → Prop)
    (st : ∀ x y H H', KT H H' → R x y H → R x y H')
    (turn : ∀ x ∈ xs, ∀ H, Same H1 H → ∀ (k1 : VK) (k0 : Hp → Prop), (f x = true → ∀ y H', Same H H' → R x y H' → k1 y H') → (f x = false → ∀ H', Same H H' → k0 H') → LcTurn g tt te vs σ x H k1 k0)
    (hd : ∀ D H ys, H1 D = none → Same H1 H → H D = some (.lst ys) → Paired (fun x y => R x y H) (xs.filter f) ys → Q (.ref D) H) : LcT K a g tt te vs σ H1 Q := by
  refine ⟨⟨_, .of hq⟩, fun D hD => lc_tup (K := K) (a := a) (xs := xs) (fun i H => Same H1 H ∧ ∃ ys, H D = some (.lst ys) ∧ ys.length ≤ i ∧ Paired (fun x y => R x y H) ((xs.take i).filter f) ys) ⟨same_new hD, [], upd_same, Nat.le_refl _, .nil⟩ (fun i H _ p => .of (p.1 _ _ hq)) ?_ ?_⟩
  · rintro i x H hx ⟨s, ys, hDs, hy, pr⟩
    have hlt := (List.getElem?_eq_some_iff.mp hx).1
    have e1 : xs.take (i + 1) = xs.take i ++ [x] := by rw [List.take_succ, hx]; rfl
    refine turn x (List.mem_of_getElem? hx) H s _ _ (fun hf y H' s' r => ⟨ys, s' D _ hDs, Nat.lt_of_le_of_lt hy (by rw [sizeLine_eq]; omega), same_mut (s.trans s') hD, ys ++ [y], upd_same, by rw [List.length_append]; exact Nat.succ_le_succ hy, ?_⟩) fun hf H' s' => ⟨s.trans s', ys, s' D _ hDs, Nat.le_succ_of_le hy, ?_⟩
    · have kt : KT H (upd H' D (.lst (ys ++ [y]))) := (KT.same s').trans (KT.mut (by rw [s' D _ hDs]; rfl))
      have kt2 : KT H' (upd H' D (.lst (ys ++ [y]))) := KT.mut (by rw [s' D _ hDs]; rfl)
      rw [e1, List.filter_append, List.filter_cons, if_pos hf]
      exact paired_app (Paired.mapP pr fun _ _ z => st _ _ _ _ kt z) (.cons (st _ _ _ _ kt2 r) .nil)
    · rw [e1, List.filter_append, List.filter_cons, if_neg (by rw [hf]; decide), List.filter_nil, List.append_nil]
      exact Paired.mapP pr fun _ _ z => st _ _ _ _ (KT.same s') z
  · rintro H ⟨s, ys, hDs, hy, pr⟩
    rw [List.take_length] at pr
    exact hd D H ys hD s hDs pr
theorem lc2_pairJ {K : PySem.W.Frag} {β γ : Type} {a : Addr} {xs : List V} {ps : List β} {F : V → β → Prop} {g : TG} {tt : TT} {wi1 : TI} {g1 : TG} {tt1 : TT} {te : TE} {vs vs1 : List Nat} {σ : L2.St} {H1 : Hp} {Q : VK} (hq : SqL K H1 a xs) (pp : Paired F xs ps) (B : Nat) (hz : xs.length * B ≤ 1000000) (qs : β → List γ) (hqs : ∀ p, (qs p).length ≤ B)
    (G : β → V → γ → Prop) (R : β → γ → V → Hp → Prop) (st : ∀ p q y H H', KT H H' → R p q y H → R p q y H') (s2 : V → L2.St)
    (outer : ∀ (i : Nat) (x : V) (p : β), xs[i]? = some x → ps[i]? = some p → F x p → ∀ H, Same H1 H → ∀ (C : L2.St → It → Hp → Prop) (k0 : Hp → Prop), (∀ J H4 ys, Same H H4 → SeqJ K J H1 H H4 ys → Paired (G p) ys (qs p) → C (s2 x) J H4) →
      g x (wipe σ vs) H fun σ2 H2 => wipe σ2 vs = wipe σ vs ∧ tt σ2 H2 fun b H3 => if b = true then wi1 σ2 H3 (C σ2) else k0 H3)
    (inner : ∀ (i : Nat) (x : V) (p : β) (y : V) (q : γ), xs[i]? = some x → ps[i]? = some p → F x p → q ∈ qs p → G p y q → ∀ H, Same H1 H → ∀ (k1 : VK) (k0 : Hp → Prop), (∀ v H', Same H H' → R p q v H' → k1 v H') → LcTurn g1 tt1 te vs1 (s2 x) y H k1 k0)
    (hd : ∀ D H ys, H1 D = none → Same H1 H → H D = some (.lst ys) → Paired (fun pq v => R pq.1 pq.2 v H) (ps.flatMap fun p => (qs p).map fun q => (p, q)) ys → Q (.ref D) H) :
    Lc2J (Itl K a) g tt wi1 g1 tt1 te vs vs1 σ H1 Q := fun D hD => lc2_pair hq pp B hz qs hqs G R st s2 outer inner hd D hD
def dMulT : R2 := fun x y H Q => match x, y with
  | .ref a, .int k => match H a with
    | some (.tup xs) => xs ≠ [] ∧ 2 ≤ k ∧ k ≤ 1000 ∧ xs.length ≤ 1000 ∧ ∀ p, H p = none → Q (.ref p) (upd H p (.tup (List.replicate k.toNat xs).flatten))
    | _ => False
  | _, _ => False
def dIsB : R2 := fun x y H Q => match x, y with
  | .bl a, .bl b => Q (.bl (decide (a = b))) H
  | _, _ => False
def dNotB : R2 := fun x y H Q => match x, y with
  | .bl a, .bl b => Q (.bl (!decide (a = b))) H
  | _, _ => False
section
variable {X : Cx}
theorem d_isB : OpR X (compareOp .Is) dIsB := opM (op_isBl (X := X)) fun x y H Q q => by
  unfold dIsB at q
  split at q
  · exact ⟨_, _, rfl, rfl, q⟩
  · exact q.elim
theorem d_notB : OpR X (compareOp .IsNot) dNotB := opM (op_notBl (X := X)) fun x y H Q q => by
  unfold dNotB at q
  split at q
  · exact ⟨_, _, rfl, rfl, q⟩
  · exact q.elim
theorem d_mulT : OpR X (binaryOp .Mult) dMulT := opM (op_repT (X := X)) fun x y H Q q => by
  unfold dMulT at q
  split at q
  · split at q
    · rename_i xs h
      exact ⟨_, _, xs, rfl, rfl, .of h, q.1, q.2.1, q.2.2.1, q.2.2.2.1, q.2.2.2.2⟩
    · exact q.elim
  · exact q.elim
end
/-! ### comprehensions that draw -/
def DrawsAt (H : Hp) (d : Addr) : Prop := ∃ ms : List Int, H d = some (.lst (ms.map V.int))
theorem DrawsAt.same {H H' : Hp} {d : Addr} (s : Same H H') (h : DrawsAt H d) : DrawsAt H' d := by obtain ⟨ms, hm⟩ := h; exact ⟨ms, s _ _ hm⟩
theorem DrawsAt.ne {H : Hp} {d x : Addr} (h : DrawsAt H d) (hx : H x = none) : d ≠ x := by obtain ⟨ms, hm⟩ := h; exact ne_of_none hm hx
theorem lcR_draw {lo : Int} {n : Nat} {g : TG} {tt : TT} {te : TE} {vs : List Nat} {σ : L2.St} {H1 : Hp} {Q : VK} {d : Addr} (hz : n ≤ 1000000) (h0 : DrawsAt H1 d) (R : Nat → V → Prop)
    (turn : ∀ (i : Nat), i < n → ∀ H, Keep [d] H1 H → DrawsAt H d → ∀ (k1 : VK) (k0 : Hp → Prop), (∀ y H', Keep [d] H H' → DrawsAt H' d → R i y → k1 y H') → LcTurn g tt te vs σ (.int (lo + (i : Nat))) H k1 k0)
    (hd : ∀ D H ys, H1 D = none → Keep [d] H1 H → DrawsAt H d → H D = some (.lst ys) → Paired R (List.range n) ys → Q (.ref D) H) : LcJ (Itr lo n) g tt te vs σ H1 Q := by
  intro D hD
  have nd : d ≠ D := h0.ne hD
  refine lc_range (lo := lo) (n := n) (fun i H => Keep [d] H1 H ∧ DrawsAt H d ∧ ∃ ys, H D = some (.lst ys) ∧ ys.length ≤ i ∧ Paired R (List.range i) ys) ⟨.same (same_new hD), h0.same (same_new hD), [], upd_same, Nat.le_refl _, .nil⟩ ?_ ?_
  · rintro i H hlt ⟨kp, dr, ys, hDs, hy, pr⟩
    refine turn i hlt H kp dr _ _ (fun y H' kp' dr' r => ?_)
    have hD' : H' D = some (.lst ys) := kp' D _ hDs (by simpa using fun e => nd e.symm)
    refine ⟨ys, hD', Nat.lt_of_le_of_lt hy (by rw [sizeLine_eq]; omega), ?_, ?_, ys ++ [y], upd_same, by rw [List.length_append]; exact Nat.succ_le_succ hy, ?_⟩
    · exact Keep.new0 (kp.trans kp') hD
    · obtain ⟨ms, hm⟩ := dr'
      exact ⟨ms, by rw [upd_ne nd]; exact hm⟩
    · rw [List.range_succ]
      exact paired_app pr (.cons r .nil)
  · rintro H ⟨kp, dr, ys, hDs, hy, pr⟩
    exact hd D H ys hD kp dr hDs pr
/-! ### dicts with tuple keys: pop(k), min(d), values() -/
section
variable {prog : Program} {w : World} {KK : Type} [DecidableEq KK] {knd : HeapKind prog w KK} {s : Shared} {A : Around} {E : Value → Shared → Prop}
theorem meetsPop1 {d b : Addr} {k : KK} (hd : (d == sysModules) = false) :
    MeetsIn prog w (Builtin.«dict.pop» ⟨[.ref d, .ref b], []⟩) (fun A R s => ∃ xs p, knd.room A.in1 ∧ knd.is s.heap k b ∧ s.heap.DictOfH knd d xs ∧ xs.length ≤ sizeLine ∧ atKey xs k = some p ∧
      ∀ h' tk, h'.DictOfH knd d (DT.dropH xs k) → Heap.SameBut d s.heap h' → R (.ok (.ret p.2)) { s with heap := h', toks := tk }) :=
  .of_wp fun A R s ⟨xs, p0, hu, hkey, hm, hsz, hp0, hsome⟩ => by
    obtain ⟨o, es, ep, ho, hc, hdat, he, his, hn⟩ := id hm
    have hes : es.size = xs.length := size_of_entries he
    have hpart : (keyPart (Value.ref b)).isSome = false := rfl
    unfold Builtin.«dict.pop»
    refine wpAny_bind ?_
    unfold Builtin.Dict.keyAndDefault
    refine wpAny_bind (wpAny_notOrdered_dict hm.typeIs ?_)
    show wpAny _ _ (pure (d, Value.ref b, none)) _ _ s
    refine wpAny_pure ?_
    simp only [hpart, Bool.false_eq_true, if_false]
    refine wpAny_bind (wpAny_dictEntries ho hdat (wpAny_bind (wpAny_pure ?_)))
    cases hem : es.isEmpty with
    | true =>
      have h0 : xs = [] := by
        have z : es.size = 0 := by simpa using hem
        exact List.length_eq_zero_iff.mp (by omega)
      rw [h0] at hp0
      cases hp0
    | false =>
      simp only [Bool.false_eq_true, if_false]
      refine wpAny_bind (DT.takeH hu hkey hm hsz (fun hno => ?_) fun p e hp hev h' hm' hs' => ?_)
      · rw [hp0] at hno
        cases hno
      · rw [hp0] at hp
        cases hp
        simp only [Option.isNone_some, Bool.false_eq_true, if_false]
        exact wpAny_bind (wpAny_letGo (wpAny_pure ⟨e.val, rfl, by rw [hev]; exact hsome h' _ hm' hs'⟩))
end
section
variable {X : Cx}
/-- d.pop(k), k there -/
def rPop1T : V → List V → Hp → VK → Prop := fun x xs H Q => ∃ (a : Addr) (kvs : List (List L2.Key × V)) (k : List L2.Key) (b : Addr) (v : V), x = .ref a ∧ xs = [.ref b] ∧ H a = some (.dT kvs) ∧ H b = some (.tup (k.map kV)) ∧ valV kvs k = some v ∧ Q v (upd H a (.dT (dropK kvs k)))
theorem mt_pop1T (hu : X.A.units + 1 < cLine) : MtR X "dict.pop" rPop1T := by
  intro pins s σ H x xs v us Q I rx rxs h
  obtain ⟨a, kvs, k, b, v0, rfl, rfl, ha, hb, ev, q1⟩ := h
  cases rx
  obtain ⟨u1, rfl, r1⟩ := rxs.one
  cases r1
  obtain ⟨z, hd, xs', rel, dd⟩ := dt_of I.hok ha
  have hz : xs'.length ≤ sizeLine := by rw [← Paired.length rel]; exact z
  have r := rel.val k
  rw [ev] at r
  obtain ⟨p, hp, rv⟩ : ∃ p, atKey xs' k = some p ∧ RelV v0 p.2 := by
    cases hn : atKey xs' k with
    | none => rw [hn] at r; exact (show False from r).elim
    | some p => rw [hn] at r; exact ⟨p, rfl, r⟩
  refine call_meetsIn PySem.F.slot_dict_pop dd.typeIs PySem.F.entry_dict_pop (PySem.F.args_dict_pop_2 _ _) (meetsPop1 (knd := tupleKind (mixKind X.prog X.w)) (k := k) hd)
    ⟨xs', p, tupleKind_room_in1 hu, key_of I.hok hb, dd, hz, hp, fun h' tk dd' hs => ?_⟩
  obtain ⟨o, es, ep, hq, h2, h3, h4, _, h5⟩ := dd'
  have I2 : Inv X pins σ (upd H a (.dT (dropK kvs k))) { s with heap := h', toks := tk } :=
    d_write I (by rw [ha]; exact True.intro) hs ⟨o, hq⟩ ⟨Nat.le_trans (dropK_le kvs k) z, hd, _, (DX.KT_drop k rel).keeps (fun c ys ec => (by rw [upd_ne (ne_of ec ha (fun z => nomatch z))]; exact ec)), o, es, ep, hq, h2, h3, h4, h5⟩
  show EP X pins σ Q p.2 _
  exact ⟨v0, _, I2, rv, q1⟩
/-- a key as data -/
def keyD : L2.Key → PyData
  | .inl i => .int i
  | .inr x => .str x
theorem keyDp {K : PySem.W.Frag} {H : Hp} : ∀ {k : List L2.Key}, DpAll K H (k.map kV) (k.map keyD)
  | [] => .nil
  | .inl _ :: _ => .cons (.int _) keyDp
  | .inr _ :: _ => .cons (.str _) keyDp
/-- min(d), the least key -/
def rMinT : List V → Hp → VK → Prop := fun vs H Q => ∃ (a : Addr) (kvs : List (List L2.Key × V)) (d : PyData) (ds : List PyData), vs = [.ref a] ∧ H a = some (.dT kvs) ∧ kvs.map (fun p => PyData.tuple (p.1.map keyD)) = d :: ds ∧ PySem.W.AlikeAll (d :: ds) ∧ PyData.depthAll (d :: ds) ≤ 60 ∧
  ∀ (p : List L2.Key × V) (b : Addr), p ∈ kvs → PyData.tuple (p.1.map keyD) = PySem.W.minD d ds → H b = some (.tup (p.1.map kV)) → Q (.ref b) H
theorem cr_minT (hc : X.calm = true) (hu : X.A.units + 65 < cLine) : CallR X (.builtin "min") rMinT := by
  intro pins s σ H vs us Q I r h
  obtain ⟨a, kvs, d, ds, rfl, ha, hds, hal, hdp, q⟩ := h
  rw [Vals.ref1 r]
  obtain ⟨z, hs, xs, pr, dd⟩ := dt_of I.hok ha
  obtain ⟨es, ep, raw, hsz, hx⟩ := dd.raw
  have hlt : a < s.heap.objs.size := by obtain ⟨o, ho, _⟩ := raw; exact Heap.lt_size ho
  have kp : ∀ (i : Nat) y, xs[i]? = some y → ∃ p, kvs[i]? = some p ∧ H y.2.1 = some (.tup (p.1.map kV)) := fun i y hy => by
    obtain ⟨p, hp, h1, h2, _⟩ := pairedAt pr hy
    exact ⟨p, hp, h2⟩
  obtain ⟨as, hr⟩ : ∃ as, ReadsAll s.heap (xs.map fun y => Value.ref y.2.1) (d :: ds) as := by
    have p2 : Paired (Dp X.K H) (xs.map fun y => V.ref y.2.1) (d :: ds) := by
      rw [← hds]
      clear hds hal hdp q hx hsz kp r ha z dd raw
      induction pr with
      | nil => exact .nil
      | cons hpq t ih => exact .cons (.tup (.of hpq.2.1) keyDp) ih
    have v2 : Vals (xs.map fun y => V.ref y.2.1) (xs.map fun y => Value.ref y.2.1) := by
      clear p2 hx hsz kp dd pr
      induction xs with
      | nil => exact .nil
      | cons y ys ih => exact .cons rfl ih
    exact reads_vals I p2 v2
  have hxl : xs.length = ds.length + 1 := by
    have h1 := Paired.length pr
    have h2 := congrArg List.length hds
    rw [List.length_map, List.length_cons] at h2
    omega
  refine PySem.call_min_walkH (wpAny_pyIter_dict_raw hs raw ?_)
  have Wk := (Walks.keysH (prog := X.prog) (w := X.w) (A := X.A.in1) (I.ok.hd hc) s.heap.objs.size a (Nat.ne_of_lt hlt) es ep (fun i hi => let ⟨y, h1, h2, h3, _⟩ := hx i hi; ⟨y, h1, h2, h3⟩)).mono_item (P' := fun i v => (xs.map fun y => Value.ref y.2.1).toArray[i]? = some v) fun i v _ ⟨y, h1, e⟩ => by
    rw [e]
    simp [h1]
  refine ⟨_, _, _, _, _, _, _, s.heap, _, rfl, Wk.toS, ⟨⟨_, Heap.get?_push_size _ rfl, rfl, rfl⟩, raw.at fun o e => Heap.get?_push_of_some _ e⟩, fun b hb => ?_, by omega, fun b o e hb => ?_, fun b o e => Heap.get?_push_of_some _ e, PySem.W.cmpIn_lt (A := X.A.in1) (by simpa using hr) hal (by show X.A.units + 1 + _ < _; omega), fun v s' hP m => ?_⟩
  · show b < (s.heap.push _).objs.size
    rw [Heap.size_push]
    rcases List.mem_cons.mp hb with rfl | hb
    · exact Nat.lt_succ_self _
    · rcases List.mem_cons.mp hb with rfl | hb
      · exact Nat.lt_succ_of_lt hlt
      · cases hb
  · exact absurd (Heap.lt_size e) ((List.mem_singleton.mp hb) ▸ Nat.lt_irrefl _)
  · obtain ⟨h', tk, rfl, hk'⟩ := PySem.W.moved_old rfl rfl m
    have e1 : es.size - 1 = ds.length := by omega
    have e2 := (PySem.W.argBest_fold PySem.W.dataLt PyData.none d ds ds.length (Nat.le_refl _)).2
    rw [List.take_length] at e2
    rw [e1] at hP
    have hP' : (xs.map fun y => Value.ref y.2.1)[argBest (fun i j => PySem.W.dataLt ((d :: ds).getD i .none) ((d :: ds).getD j .none)) ds.length]? = some v := by simpa using hP
    rw [List.getElem?_map] at hP'
    obtain ⟨y, hy, rfl⟩ := Option.map_eq_some_iff.mp hP'
    obtain ⟨p, hp, hb⟩ := kp _ y hy
    refine ⟨.ref y.2.1, H, I.kept hk', rfl, q p _ (List.mem_of_getElem? hp) ?_ hb⟩
    have e3 : (d :: ds)[argBest (fun i j => PySem.W.dataLt ((d :: ds).getD i .none) ((d :: ds).getD j .none)) ds.length]? = some (PyData.tuple (p.1.map keyD)) := by
      rw [← hds, List.getElem?_map]
      rw [hds, hp]
      rfl
    have e4 : (d :: ds).getD (argBest (fun i j => PySem.W.dataLt ((d :: ds).getD i .none) ((d :: ds).getD j .none)) ds.length) .none = PyData.tuple (p.1.map keyD) := by rw [List.getD_eq_getElem?_getD, e3]; rfl
    rw [← e4]
    unfold PySem.W.minD
    exact e2
end
/-- the values of the locked dict with tuple keys -/
def Itdt (d : Addr) (o : Obj) (kvs : List (List L2.Key × V)) : It :=
  ⟨fun i H => H d = some (.frz o (.dT kvs)) ∧ i < kvs.length, fun i H x H' => H' = H ∧ ∃ k, kvs[i]? = some (k, x), fun i H => H d = some (.frz o (.dT kvs)) ∧ kvs.length ≤ i⟩
theorem frzT2 {X : Cx} {pins : List (Addr × Obj)} {σ : L2.St} {H : Hp} {s : Shared} {d : Addr} {o : Obj} {kvs : List (List L2.Key × V)} (I : Inv X pins σ H s) (h : H d = some (.frz o (.dT kvs))) :
    (d == sysModules) = false ∧ s.heap.get? d = some o ∧ o.ExactDict ∧ ∃ (es : Array DictEntry) (ep : Nat), o.data = .dict es ep ∧ es.size = kvs.length ∧
      ∀ (i : Nat) (k : List L2.Key) (v : V) (hi : i < es.size), kvs[i]? = some (k, v) → RelV v es[i].val := by
  obtain ⟨hd, z, hs, xs, pr, o', es, ep, ho, hx, hdt, he, _⟩ := I.hok d _ h
  rw [hd] at ho
  cases ho
  have l1 : es.size = xs.length := size_of_entries he
  have l2 : kvs.length = xs.length := Paired.length pr
  refine ⟨hs, hd, hx, es, ep, hdt, by omega, fun i k v hi e => ?_⟩
  obtain ⟨b, hb, _, _, r⟩ := pairedGet pr e
  have q := entry_at he i
  rw [hb, Array.getElem?_eq_getElem hi] at q
  have q2 := Option.some.inj q
  rw [q2]
  exact r
section
variable {P : Program} {w : World} {K : PySem.W.Frag} {tg : Expr} {d : Addr} {o : Obj} {es : Array DictEntry} {ep : Nat}
theorem turn_valsT {kvs : List (List L2.Key × V)} (it : Addr) (hod : o.data = .dict es ep) : Turn P w K tg (Itdt d o kvs) [it] it (fun i h => h.IsValIter it d i kvs.length ep) where
  mem := by simp
  obj := fun i h st b hb => by
    have e : b = it := by simpa using hb
    subst e
    obtain ⟨oi, e, c, dd⟩ := st
    exact ⟨oi, e, fun v z => by rw [dd] at z; cases z⟩
  keep := fun i h h' st k => st.at fun oi e => k it (by simp) oi e
  item := by
    intro X hP hw hK hc i pins s σ H E I hf st hg
    subst hP hw hK
    obtain ⟨hd, hi⟩ := hg
    obtain ⟨f0, f1, f2, f3, f4, f5⟩ := hf it (by simp)
    obtain ⟨hs, hgd, hx, es', ep', hdt, hsz, rel⟩ := frzT2 I hd
    obtain ⟨rfl, rfl⟩ := dict_ep hod hdt
    obtain ⟨⟨k, v⟩, hkv⟩ : ∃ p, kvs[i]? = some p := ⟨kvs[i], List.getElem?_eq_getElem hi⟩
    have hlt : i < es'.size := by omega
    rw [← hsz] at st
    refine wpAny_pyNext_values_item_raw st ⟨o, hgd, hx, hod⟩ hlt fun h' st' sb => ?_
    have I1 : Inv X pins σ H { s with heap := h' } := I.turned (t' := s.toks) (fun b ob hb e => (sb.2 b hb).trans e) f0 f1 f3 f4 f5
    obtain ⟨oi, e, c, dd⟩ := id st'
    refine ⟨_, rfl, go_of (s := { s with heap := h' }) e c dd (by decide) ⟨v, H, I1, rel i k v hlt hkv, ⟨rfl, k, hkv⟩, ?_, fun b hb => (hf b hb).1⟩⟩
    show h'.IsValIter it d (i + 1) kvs.length _
    rw [← hsz]
    exact st'
  done := by
    intro X hP hw hK hc i pins s σ H E I hf st hg
    subst hP hw hK
    obtain ⟨hd, hi⟩ := hg
    obtain ⟨f0, f1, f2, f3, f4, f5⟩ := hf it (by simp)
    obtain ⟨hs, hgd, hx, es', ep', hdt, hsz, rel⟩ := frzT2 I hd
    obtain ⟨rfl, rfl⟩ := dict_ep hod hdt
    rw [← hsz] at st
    exact wpAny_pyNext_values_end_raw (I.ok.hd hc) st ⟨o, hgd, hx, hod⟩ (by omega) fun h' eb => ⟨rfl, I.turned (t' := s.toks) (fun b ob hb e => eb b ob hb e) f0 f1 f3 f4 f5⟩
  self := fun A i s Q E st h => wpAny_pyIter_valiter st h
end
def iValsT (td : TE) : TI := fun σ H R => td σ H fun x H1 => ∃ d o kvs, x = .ref d ∧ H1 d = some (.frz o (.dT kvs)) ∧ R (Itdt d o kvs) H1
section
variable {X : Cx} {tg e : Expr} {td : TE} {apos cpos : Pos}
theorem pi_valuesT (he : PE X e td) (hbase : attributeBase e "values" X.env (eval e X.env) = eval e X.env := by rfl) (hline : (apos.endLine == cpos.line) = true := by rfl) : PI X tg (.Call (.Attribute e "values" apos) [] [] cpos) (iValsT td) := by
  refine ⟨fun pins s σ H R I h => ?_⟩
  refine wpAny_Call_method (T := "dict") (id := "dict.values") hbase rfl hline F.plainAttrs_dict F.slot_dict_values F.type_dict_values (thn (he.run pins s σ H _ I h) fun u s1 ⟨x, H1, I1, rx, d, o, kvs, ex, hd, q⟩ => ?_)
  subst ex
  obtain rfl : u = Value.ref d := rx
  obtain ⟨hs, hgd, hx, es, ep, hdt, hsz, rel⟩ := frzT2 I1 hd
  have raw : s1.heap.DictRaw d es ep := ⟨o, hgd, hx, hdt⟩
  refine ⟨raw.typeIs, (fun b hb => by cases hb; exact ⟨o, hgd, hx.2.1⟩), ?_⟩
  have I2 : Inv X pins σ H1 { s1 with heap := s1.heap.push { cls := .type "dict_values", data := .fields #[.ref d] } } := I1.kept (t' := s1.toks) fun b ob q => Heap.get?_push_of_some _ q
  have fin : wpAny (model X.prog X.w) X.A (pyIter (.ref s1.heap.objs.size)) (PIE X pins σ tg R) X.xe { s1 with heap := s1.heap.push { cls := .type "dict_values", data := .fields #[.ref d] } } := by
    refine wpAny_pyIter_values_raw (d := d) ⟨_, Heap.get?_push_size _ rfl, rfl, rfl⟩ (raw.at fun o e => Heap.get?_push_of_some _ e) (pi_one (tk := s1.toks) I2 _ (turn_valsT _ hdt) ⟨_, Heap.get?_push_size _ rfl, rfl, ?_⟩ q)
    rw [hsz] <;> rfl
  show wpAny _ _ (callWith cpos (.builtin "dict.values") [.ref d] [] []) _ X.xe s1
  exact method_meetsIn F.slot_dict_values F.entry_dict_values rfl (PySem.evalArgs_none ⟨rfl, raw.typeIs, F.args_dict_values_1 _, _, meets_dict_values_raw d hs, ⟨⟨es, ep, raw⟩, fin⟩⟩)
end
/-! ### l.remove(x) over data -/
theorem vals_erase {xs : List V} {us : List Value} (h : Vals xs us) (j : Nat) : Vals (xs.eraseIdx j) (us.eraseIdx j) := h.eraseIdx j
def rRemD (K : PySem.W.Frag) : V → List V → Hp → VK → Prop := fun x xs H Q => ∃ (a : Addr) (y : V) (d : PyData) (vs : List V) (ds : List PyData) (j : Nat) (z : PyData), x = V.ref a ∧ xs = [y] ∧ H a = some (.lst vs) ∧ DpAll K H vs ds ∧ Dp K H y d ∧
  SeqAt.shaped (.list ds) = true ∧ SeqAt.shaped d = true ∧ ds[j]? = some z ∧ PyData.eqv z d = true ∧ (∀ (m : Nat) (z' : PyData), m < j → ds[m]? = some z' → PyData.eqv z' d = false) ∧ Q .non (upd H a (.lst (vs.eraseIdx j)))
section
variable {X : Cx}
theorem mt_remD (hu : X.A.units + 65 < cLine) : MtM X "list.remove" (rRemD X.K) := by
  intro pins s σ H x xs v us Q I rx rxs h
  obtain ⟨a, y, d, vs, ds, j, z, rfl, rfl, hH, ha, hy, sl, sd, hz, hzj, hno, q⟩ := h
  cases rx
  obtain ⟨uy, rfl, ry⟩ := rxs.one
  obtain ⟨bs, r1⟩ := Dp.reads I d y uy hy ry
  have hxs : PyData.canLayAll0 ds = true := SeqAt.canLay_of_shaped sl
  have hroom : X.A.units + 1 + min (PyData.depthAll ds) d.depth < cLine := room_in_shaped sd hu
  obtain ⟨zl, its, n, rv, hlen, e⟩ := I.lstM hH
  obtain ⟨as, h4⟩ := Dp.readsAll I ds _ its ha rv
  have hn : its.length = ds.length := SeqAt.ReadsAll.length ds its as h4
  have hmap : its.map (SeqAt.readOf s.heap) = ds := SeqAt.readsAll_map ds its as hxs h4
  have hsl := sizeLine_eq
  obtain ⟨hjd, _⟩ := List.getElem?_eq_some_iff.mp hz
  have hjl : j < its.length := by omega
  have hj : j < its.toArray.size := by simpa using hjl
  have at_ : ∀ (m : Nat) (hm : m < its.toArray.size) (z' : PyData), ds[m]? = some z' → SeqAt.readOf s.heap its.toArray[m] = z' := by
    intro m hm z' hz'
    have hml : m < its.length := by simpa using hm
    rw [← hmap, List.getElem?_map, List.getElem?_eq_getElem hml] at hz'
    have e1 : SeqAt.readOf s.heap its[m] = z' := Option.some.inj (show some (SeqAt.readOf s.heap its[m]) = some z' from hz')
    simpa using e1
  refine call_meets PySem.F.slot_list_remove ⟨_, e, rfl⟩ PySem.F.entry_list_remove (PySem.F.args_list_remove_2 _ _)
    (SeqAt.list_removeAt a its.toArray n none #[] uy (fun u => PyData.eqv (SeqAt.readOf s.heap u) d) j hj ?_ ?_ (by rw [List.size_toArray]; omega)) ⟨e, SeqAt.items_eqAt (vs := its.toArray) (show ReadsAll s.heap its.toArray.toList ds as from h4) r1 hxs (SeqAt.canLay_of_shaped sd) hroom, ?_⟩
  · rw [at_ j hj z hz]; exact hzj
  · intro m hm hmj
    have hml : m < ds.length := by have : m < its.length := by simpa using hm
                                   omega
    rw [at_ m hm _ (List.getElem?_eq_getElem hml)]
    exact hno m _ hmj (List.getElem?_eq_getElem hml)
  · refine ⟨.non, _, I.lset (its' := its.eraseIdx j) (t' := s.toks) hH e ?_ (rv.eraseIdx j) ?_, rfl, q⟩
    · show its.toArray.eraseIdxIfInBounds j = (its.eraseIdx j).toArray
      rw [List.eraseIdxIfInBounds_toArray]
    · have z2 : (vs.eraseIdx j).length ≤ vs.length := List.length_eraseIdx_le ..
      omega
end
theorem room64 {k : Nat} {A : Around} (hr : Room k A) : A.units + 64 < cLine := by have := hr.un; omega
theorem room1 {k : Nat} {A : Around} (hr : Room k A) : A.units + 1 < cLine := by have := hr.un; omega
theorem lc2_vals {K : PySem.W.Frag} {β γ : Type} {od : Obj} {kvs : List (List L2.Key × V)} {a : Addr} {xs : List V} {ps : List β} {F : V → β → Prop} {g : TG} {tt : TT} {wi1 : TI} {g1 : TG} {tt1 : TT} {te : TE} {vs vs1 : List Nat} {σ : L2.St} {H1 : Hp} {Q : VK} (hq : H1 a = some (.frz od (.dT kvs))) (hxs : xs = kvs.map (·.2)) (pp : Paired F xs ps) (B : Nat) (hz : xs.length * B ≤ 1000000) (qs : β → List γ) (hqs : ∀ p, (qs p).length ≤ B)
    (G : β → V → γ → Prop) (R : β → γ → V → Hp → Prop) (st : ∀ p q y H H', KT H H' → R p q y H → R p q y H') (s2 : V → L2.St)
    (outer : ∀ (i : Nat) (x : V) (p : β), xs[i]? = some x → ps[i]? = some p → F x p → ∀ H, Same H1 H → ∀ (C : L2.St → It → Hp → Prop) (k0 : Hp → Prop), (∀ J H4 ys, Same H H4 → SeqJ K J H1 H H4 ys → Paired (G p) ys (qs p) → C (s2 x) J H4) →
      g x (wipe σ vs) H fun σ2 H2 => wipe σ2 vs = wipe σ vs ∧ tt σ2 H2 fun b H3 => if b = true then wi1 σ2 H3 (C σ2) else k0 H3)
    (inner : ∀ (i : Nat) (x : V) (p : β) (y : V) (q : γ), xs[i]? = some x → ps[i]? = some p → F x p → q ∈ qs p → G p y q → ∀ H, Same H1 H → ∀ (k1 : VK) (k0 : Hp → Prop), (∀ v H', Same H H' → R p q v H' → k1 v H') → LcTurn g1 tt1 te vs1 (s2 x) y H k1 k0)
    (hd : ∀ D H ys, H1 D = none → Same H1 H → H D = some (.lst ys) → Paired (fun pq v => R pq.1 pq.2 v H) (ps.flatMap fun p => (qs p).map fun q => (p, q)) ys → Q (.ref D) H) :
    Lc2J (Itdt a od kvs) g tt wi1 g1 tt1 te vs vs1 σ H1 Q := by
  intro D hD
  refine lc2_out (n := xs.length) (fun j x => xs[j]? = some x) (fun i H => Same H1 H ∧ ∃ acc, H D = some (.lst acc) ∧ acc.length ≤ i * B ∧ Paired (fun pq v => R pq.1 pq.2 v H) ((ps.take i).flatMap fun p => (qs p).map fun q => (p, q)) acc)
    ⟨same_new hD, [], upd_same, Nat.zero_le _, .nil⟩ ?_ ?_ ?_ ?_ ?_
  · rintro j H hj ⟨s, _⟩
    exact ⟨s _ _ hq, by rw [hxs, List.length_map] at hj; exact hj⟩
  · rintro H ⟨s, _⟩
    exact ⟨s _ _ hq, by rw [hxs, List.length_map]; exact Nat.le_refl _⟩
  · rintro j H x H' hj ⟨s, _⟩ ⟨e, k, h⟩
    exact ⟨e, by rw [hxs, List.getElem?_map, h]; rfl⟩
  · rintro i x H hi hx ⟨s, acc, hDs, hy, pr⟩
    obtain ⟨p, hp, hF⟩ := pairedGet pp hx
    have e1 : ps.take (i + 1) = ps.take i ++ [p] := by rw [List.take_succ, hp]; rfl
    refine outer i x p hx hp hF H s (fun σ2 J1 H4 => _) _ fun J H4 ys s4 sj pg => ?_
    obtain ⟨b, hb, hJ⟩ := sj.ex
    have nb : b ≠ D := by
      rcases hb with hb | hb
      · intro e; rw [e, hDs] at hb; cases hb
      · intro e; rw [e] at hb; exact hb hD
    have hlen := paired_len pg
    have hB := hqs p
    have him : i * B + B ≤ 1000000 := by
      have h1 : (i + 1) * B ≤ xs.length * B := Nat.mul_le_mul_right _ hi
      rw [Nat.succ_mul] at h1
      omega
    refine lc2_in (J := J) (n := ys.length) (fun j y => ys[j]? = some y) (fun j H => Same H1 H ∧ H b = H4 b ∧ ∃ acc, H D = some (.lst acc) ∧ acc.length ≤ i * B + j ∧ Paired (fun pq v => R pq.1 pq.2 v H) (((ps.take i).flatMap fun p => (qs p).map fun q => (p, q)) ++ ((qs p).take j).map fun q => (p, q)) acc) ?_ ?_ ?_ ?_ ?_ ?_
    · refine ⟨s.trans s4, rfl, acc, s4 _ _ hDs, hy, ?_⟩
      rw [List.take_zero, List.map_nil, List.append_nil]
      exact Paired.mapP pr fun _ _ z => st _ _ _ _ _ (KT.same s4) z
    · rintro j H hj ⟨_, eb, _⟩
      rcases hJ with ⟨rfl, h⟩ | ⟨rfl, h⟩
      · exact ⟨ys, ys[j], .inl (.inl (eb.trans h)), List.getElem?_eq_getElem hj⟩
      · exact ⟨ys, ys[j], .inl (.inl (eb.trans h)), List.getElem?_eq_getElem hj⟩
    · rintro H ⟨_, eb, _⟩
      rcases hJ with ⟨rfl, h⟩ | ⟨rfl, h⟩
      · exact ⟨ys, .inl (.inl (eb.trans h)), Nat.le_refl _⟩
      · exact ⟨ys, .inl (.inl (eb.trans h)), Nat.le_refl _⟩
    · rintro j H y H' hj ⟨_, eb, _⟩ hyl
      rcases hJ with ⟨rfl, h⟩ | ⟨rfl, h⟩
      · exact ⟨hyl.1, hyl.2 ys (.inl (.inl (eb.trans h)))⟩
      · exact ⟨hyl.1, hyl.2 ys (.inl (.inl (eb.trans h)))⟩
    · rintro j y H hj hyj ⟨sH, eb, acc2, hD2, hl2, pr2⟩
      obtain ⟨q, hqj, hG⟩ := pairedGet pg hyj
      have hbs : H b ≠ none := by
        rw [eb]
        rcases hJ with ⟨_, h⟩ | ⟨_, h⟩ <;> rw [h] <;> simp
      refine inner i x p y q hx hp hF (List.mem_of_getElem? hqj) hG H sH _ _ fun v H' s' r => ⟨acc2, s' D _ hD2, by rw [sizeLine_eq]; omega, same_mut (sH.trans s') hD, ?_, acc2 ++ [v], upd_same, by rw [List.length_append, List.length_singleton]; omega, ?_⟩
      · rw [upd_ne nb]
        cases e : H b with
        | none => exact absurd e hbs
        | some o => rw [s' b o e, ← eb, e]
      · have kt : KT H (upd H' D (.lst (acc2 ++ [v]))) := (KT.same s').trans (KT.mut (by rw [s' D _ hD2]; rfl))
        have kt2 : KT H' (upd H' D (.lst (acc2 ++ [v]))) := KT.mut (by rw [s' D _ hD2]; rfl)
        have e2 : (qs p).take (j + 1) = (qs p).take j ++ [q] := by rw [List.take_succ, hqj]; rfl
        rw [e2, List.map_append, ← List.append_assoc]
        exact paired_app (Paired.mapP pr2 fun _ _ z => st _ _ _ _ _ kt z) (.cons (st _ _ _ _ _ kt2 r) .nil)
    · rintro H ⟨sH, _, acc2, hD2, hl2, pr2⟩
      rw [hlen, List.take_length] at pr2
      refine ⟨sH, acc2, hD2, by rw [Nat.succ_mul]; omega, ?_⟩
      rw [e1, List.flatMap_append]
      simpa using pr2
  · rintro H ⟨s, acc, hDs, hy, pr⟩
    rw [paired_len pp, List.take_length] at pr
    exact hd D H acc hD s hDs pr
/-! ### tuples made by tuple(list) whose object is known; dict() of such a tuple of pairs -/
def PlainTup (ob : Obj) : Prop := ob.cls = .type "tuple" ∧ ob.dict = none
section
variable {X : Cx}
/-- tuple(l), the object told -/
def rTupF (K : PySem.W.Frag) : List V → Hp → VK → Prop := fun xs H Q => ∃ (p : Addr) (ys : List V), xs = [.ref p] ∧ SqL K H p ys ∧ ∀ l ob, H l = none → PlainTup ob → Q (.ref l) (upd H l (.frz ob (.tup ys)))
theorem cr_tupF : CallR X (.type "tuple") (rTupF X.K) := by
  intro pins s σ H xs us Q I r h
  obtain ⟨p, ys, rfl, hq, q⟩ := h
  rw [Vals.ref1 r]
  obtain ⟨its, r', pl, hz⟩ := I.list hq
  have hlen := r'.length
  refine call_tuple_list pl.isList (fun h' kp => ?_) (by simp only [List.size_toArray] <;> omega)
  have I1 : Inv X pins σ H { s with heap := h' } := I.kept (t' := s.toks) kp
  have I2 : Inv X pins σ (upd H h'.objs.size (.frz { cls := .type "tuple", data := .seq its.toArray } (.tup ys))) { s with heap := h'.push { cls := .type "tuple", data := .seq its.toArray } } :=
    I1.laid (t' := s.toks) (fun b o e => Heap.get?_push_of_some _ e) (Nat.le_refl _) (show ObjOk X.prog X.w _ _ _ (.frz _ (.tup ys)) from ⟨Heap.get?_push_size _ rfl, hz, its, r', IsTup.new _ _⟩)
  exact ⟨.ref h'.objs.size, _, I2, rfl, q _ _ (I1.hok.fresh (Nat.le_refl _)) ⟨rfl, rfl⟩⟩
theorem pairsV {pins : List (Addr × Obj)} {σ : L2.St} {H : Hp} {s : Shared} (I : Inv X pins σ H s) : ∀ {ps : List Addr} {kvs : List (L2.Key × V)}, Paired (fun p kv => SqT X.K H p [kV kv.1, kv.2]) ps kvs →
    ∃ (vs : List (Value × Value)) (prs : List (L2.Key × Value)), KV kvs prs ∧ prs.length = ps.length ∧ vs.length = ps.length ∧ ∀ (j : Nat) (q : Value × Value), vs[j]? = some q → ∃ (b : Addr) (k : L2.Key), ps[j]? = some b ∧ IsTup s.heap b #[q.1, q.2] ∧ prs[j]? = some (k, q.2) ∧ keyIs k q.1 = true
  | _, _, .nil => ⟨[], [], .nil, rfl, rfl, fun j q e => by simp at e⟩
  | _, _, .cons (a := p) (b := kv) h t => by
    obtain ⟨vs, prs, r, hl, hv, hp⟩ := pairsV I t
    obtain ⟨its, rv, ht, _⟩ := I.tuple h
    obtain ⟨u, y, ei, ru, ry⟩ := vals2 rv
    subst ei
    refine ⟨(u, y) :: vs, (kv.1, y) :: prs, .cons ⟨rfl, ry⟩ r, by rw [List.length_cons, List.length_cons, hl], by rw [List.length_cons, List.length_cons, hv], fun j q e => ?_⟩
    cases j with
    | zero =>
      have e' : (u, y) = q := Option.some.inj e
      subst e'
      exact ⟨p, kv.1, rfl, ht, rfl, kV_is (P := X.prog) (w := X.w) ru⟩
    | succ j =>
      obtain ⟨b, k, e1, e2, e3, e4⟩ := hp j q (by simpa using e)
      exact ⟨b, k, by simpa using e1, e2, by simpa using e3, e4⟩
/-- dict(t), t a tuple of pairs whose object is told -/
def rDictPF (K : PySem.W.Frag) : List V → Hp → VK → Prop := fun xs H Q => ∃ (a : Addr) (ob : Obj) (ps : List Addr) (kvs : List (L2.Key × V)), xs = [.ref a] ∧ H a = some (.frz ob (.tup (ps.map V.ref))) ∧ PlainTup ob ∧ Paired (fun p kv => SqT K H p [kV kv.1, kv.2]) ps kvs ∧
  ∀ p, H p = none → Q (.ref p) (upd H p (.dK (mergeK [] kvs)))
theorem cr_dictPF (hc : X.calm = true) : CallR X (.type "dict") (rDictPF X.K) := by
  intro pins s σ H xs us Q I r h
  obtain ⟨a, ob, ps, kvs, rfl, ha, ⟨hcls, hdict⟩, hp, q⟩ := h
  rw [Vals.ref1 r]
  obtain ⟨hga, hz, its, rv, ⟨o', ho', hc', n, hd'⟩⟩ := I.hok a _ ha
  rw [hga] at ho'
  cases ho'
  have ei := refs_at rv
  subst ei
  rw [List.length_map] at hz
  obtain ⟨vs, prs, rel, hl, hv, hpr⟩ := pairsV I hp
  have P := PySem.PairArg.tuple (prog := X.prog) (w := X.w) a (ps.map Value.ref).toArray (fun j => ps.getD j 0) vs
  have hitems : PySem.PairItems s.heap (ps.map Value.ref).toArray (fun j => ps.getD j 0) vs := by
    refine ⟨by simp [hv], fun j k v e => ?_⟩
    obtain ⟨b, k', e1, e2, _⟩ := hpr j (k, v) e
    have eb : ps.getD j 0 = b := by rw [List.getD_eq_getElem?_getD, e1]; rfl
    show _ = some (Value.ref (ps.getD j 0)) ∧ PySem.PairAt s.heap (ps.getD j 0) k v
    rw [eb]
    exact ⟨by simp [e1], .inl e2⟩
  have hlen : (mergeK [] kvs).length ≤ sizeLine := by
    refine Nat.le_trans (length_mergeK kvs []) ?_
    rw [List.length_nil, Nat.zero_add, rel.length, hl]
    exact hz
  refine PySem.call_dict_pairs (knd := mixKind X.prog X.w) (kvs := prs) P (I.ok.hd hc) ⟨⟨ob, n, hga, hcls, hdict, hd'⟩, hitems⟩ ⟨by omega, fun i key v e => ?_⟩ (by omega) fun h' tk hd k => ?_
  · obtain ⟨b, k, _, _, e3, e4⟩ := hpr i (key, v) e
    exact ⟨k, e3, e4⟩
  · have hm : (s.heap.objs.size == sysModules) = false := beq_eq_false_iff_ne.mpr (Nat.ne_of_gt I.big)
    exact ⟨.ref s.heap.objs.size, upd H s.heap.objs.size (.dK (mergeK [] kvs)), I.laid (t' := tk) (fun b o e => k b o (by simp) e) (Nat.le_refl _) (show ObjOk X.prog X.w _ _ _ (.dK (mergeK [] kvs)) from ⟨hlen, hm, PySem.merged [] prs, KV.merge rel .nil, hd⟩), rfl, q _ (I.hok.fresh (Nat.le_refl _))⟩
/-- dict(l), l a list of pairs -/
def rDictP (K : PySem.W.Frag) : List V → Hp → VK → Prop := fun xs H Q => ∃ (a : Addr) (ps : List Addr) (kvs : List (L2.Key × V)), xs = [.ref a] ∧ SqL K H a (ps.map V.ref) ∧ Paired (fun p kv => SqT K H p [kV kv.1, kv.2]) ps kvs ∧ ∀ p, H p = none → Q (.ref p) (upd H p (.dK (mergeK [] kvs)))
theorem cr_dictP (hc : X.calm = true) : CallR X (.type "dict") (rDictP X.K) := call_dictP hc
end
/-! ### dicts with keys that are ints or texts: d-readings -/
def keyV : V → Option L2.Key
  | .int i => some (.inl i)
  | .str x => some (.inr x)
  | _ => none
theorem keyV_kV {y : V} {k : L2.Key} (h : keyV y = some k) : y = kV k := by
  cases y <;> simp [keyV] at h <;> subst h <;> rfl
def dDG (td ty : TE) : TE := fun σ H Q => td σ H fun x H1 => ty σ H1 fun y H2 => match x, keyV y with
  | .ref a, some k => match H2 a with
    | some (.dK kvs) => match valV kvs k with
      | some v => Q v H2
      | none => False
    | _ => False
  | _, _ => False
def dSetK : V → V → V → Hp → (Hp → Prop) → Prop := fun o i v H Q => match o, keyV i with
  | .ref a, some k => match H a with
    | some (.dK kvs) => kvs.length < sizeLine ∧ Q (upd H a (.dK (putK kvs k v)))
    | _ => False
  | _, _ => False
section
variable {X : Cx} {o i : Expr} {td ty : TE} {pos : Pos}
theorem d_dgetK (hu : X.A.units + 1 < cLine) (ho : PE X o td) (hi : PE X i ty) (hs : NoSl i) : PE X (.Subscript o i pos) (dDG td ty) :=
  peI (pe_dget hu (peM ho) (peM hi) hs) fun σ H Q q1 => ⟨_, q1, fun x H1 q2 => ⟨_, q2, fun y H2 q3 => by
    split at q3
    · rename_i a k ek
      split at q3
      · rename_i kvs e
        split at q3
        · rename_i v ev
          exact ⟨a, v, rfl, .inl ⟨kvs, k, .of e, keyV_kV ek, ev.symm⟩, q3⟩
        · exact q3.elim
      · exact q3.elim
    · exact q3.elim⟩⟩
end
section
variable {X : Cx}
theorem s_setK (hu : X.A.units + 1 < cLine) : PSet X dSetK := setM (set_dict hu) fun o i v H Q q => by
  unfold dSetK at q
  split at q
  · rename_i a k ek
    split at q
    · rename_i kvs e
      have ey := keyV_kV ek
      subst ey
      exact ⟨a, _, rfl, DPut.k e q.1, q.2⟩
    · exact q.elim
  · exact q.elim
end
/-- d.get(k, z) -/
def dDG2 (td ty tx : TE) : TE := fun σ H Q => td σ H fun x H1 => match x with
  | .ref a => match H1 a with
    | some (.dK _) => ty σ H1 fun y H2 => tx σ H2 fun z H3 => match keyV y, H3 a with
      | some k, some (.dK kvs) => Q ((valV kvs k).getD z) H3
      | _, _ => False
    | _ => False
  | _ => False
section
variable {X : Cx} {o e f : Expr} {td ty tx : TE} {apos cpos : Pos}
theorem d_dget2K (hu : X.A.units + 1 < cLine) (ho : PE X o td) (hy : PE X e ty) (hx : PE X f tx) (m : M2 X o "get" apos e f cpos) : PE X (.Call (.Attribute o "get" apos) [e, f] [] cpos) (dDG2 td ty tx) :=
  peI (pe_dget2 hu (peM ho) (peM hy) (peM hx) m) fun σ H Q q1 => ⟨_, q1, fun x H1 q2 => by
    split at q2
    · rename_i a
      split at q2
      · rename_i kvs0 e0
        refine ⟨a, rfl, .inl ⟨kvs0, .of e0⟩, _, q2, fun y H2 q3 => ⟨_, q3, fun z H3 q4 => ?_⟩⟩
        split at q4
        · rename_i k kvs ek e3
          exact ⟨_, .inl ⟨kvs, k, .of e3, keyV_kV ek, rfl⟩, q4⟩
        · exact q4.elim
      · exact q2.elim
    · exact q2.elim⟩
end
section
variable {X : Cx}
/-! ### more rules: // by greater divisors, dead code, two fors over a tuple, try without a name, enumerate(tuple) -/
def dDivW : R2 := dI2C CDivW fun i j => .int (i / j)
theorem d_divW : OpR X (binaryOp .FloorDiv) dDivW := i2C op_fdivW
def tDead : TS := fun _ _ _ => False
theorem ps_dead {st : Stmt} : PS X st tDead := ⟨fun _ _ _ _ _ _ h => h.elim⟩
def eDead : TE := fun _ _ _ => False
theorem pe_dead {e : Expr} : PE X e eDead := ⟨fun _ _ _ _ _ _ h => h.elim⟩
def dLc2T (K : PySem.W.Frag) (tl : TE) (g : TG) (tt : TT) (wi1 : TI) (g1 : TG) (tt1 : TT) (te : TE) (vs vs1 : List Nat) : TE := fun σ H Q => tl σ H fun x H1 => match x with
  | .ref a => (∃ xs, SqT K H1 a xs) ∧ Lc2J (Itt K a) g tt wi1 g1 tt1 te vs vs1 σ H1 Q
  | _ => False
theorem lc2_t {K : PySem.W.Frag} {tl : TE} {g g1 : TG} {tt tt1 : TT} {te : TE} {wi1 : TI} {vs vs1 : List Nat} {σ : L2.St} {H : Hp} {Q : VK} (q1 : dLc2T K tl g tt wi1 g1 tt1 te vs vs1 σ H Q) : tLc2 (iTup K (mE tl)) g tt wi1 g1 tt1 te vs vs1 σ H Q := ⟨_, q1, fun v H' q2 => by
  split at q2
  · exact ⟨_, rfl, q2.1, q2.2⟩
  · exact q2.elim⟩
variable {elt tg iter tg1 iter1 : Expr} {ifs ifs1 : List Expr} {scope : Scope} {own : List (Str × Nat)} {vs1 : List Nat} {pos : Pos} {tl te : TE} {wi1 : TI} {g g1 : TG} {tt tt1 : TT}
theorem d_lc2T (hc : X.calm = true) (hN : X.N.Nodup) (hl : PE X iter tl) (ok : BlkOk X.N X.env.scope scope own) (hv : ∀ i ∈ vs1, i ∈ own.map (·.2)) (hg : BG X scope tg g) (ht : BT X scope ifs tt)
    (hi1 : ∀ (s : Shared) (H : Hp) (C : Addr) (cl : List (Str × Addr)) (fp : List Addr), PI (X.blk s H scope (compEnvC scope cl C X.env) fp) tg1 iter1 wi1) (hg1 : BG X scope tg1 g1) (ht1 : BT X scope ifs1 tt1) (he : BE X scope elt te)
    (hs : ∀ x, foldedSetIterable iter X.env x = pure x := by intro _; rfl) (hs1 : ∀ env x, foldedSetIterable iter1 env x = pure x := by intro _ _; rfl) :
    PE X (.ListComp elt [⟨tg, iter, ifs, 0⟩, ⟨tg1, iter1, ifs1, 0⟩] scope pos) (dLc2T X.K tl g tt wi1 g1 tt1 te (own.map (·.2)) vs1) := peI (pe_lc2 hc hN (pi_tup (peM hl)) ok hv hg ht hi1 hg1 ht1 he hs hs1) fun _ _ _ q => lc2_t q
theorem d_set2T {i : Nat} {y : Str} {py spos : Pos} (hc : X.calm = true) (hN : X.N.Nodup) (hy : X.N[i]? = some y) (hyl : X.env.scope.names.lookup y = some .local) (hsw : swapsWith (.ListComp elt [⟨tg, iter, ifs, 0⟩, ⟨tg1, iter1, ifs1, 0⟩] scope pos) (some (.Name y py)) spos.line X.env = pure true)
    (hl : PE X iter tl) (ok : BlkOk X.N X.env.scope scope own) (hv : ∀ i ∈ vs1, i ∈ own.map (·.2)) (hg : BG X scope tg g) (ht : BT X scope ifs tt)
    (hi1 : ∀ (s : Shared) (H : Hp) (C : Addr) (cl : List (Str × Addr)) (fp : List Addr), PI (X.blk s H scope (compEnvC scope cl C X.env) fp) tg1 iter1 wi1) (hg1 : BG X scope tg1 g1) (ht1 : BT X scope ifs1 tt1) (he : BE X scope elt te)
    (hs : ∀ x, foldedSetIterable iter X.env x = pure x := by intro _; rfl) (hs1 : ∀ env x, foldedSetIterable iter1 env x = pure x := by intro _ _; rfl) :
    PS X (.Assign [.Name y py] (.ListComp elt [⟨tg, iter, ifs, 0⟩, ⟨tg1, iter1, ifs1, 0⟩] scope pos) spos) (tAsg (dLc2T X.K tl g tt wi1 g1 tt1 te (own.map (·.2)) vs1) (gName i)) := psI (ps_setLc2 hc hN hy hyl hsw (pi_tup (peM hl)) ok hv hg ht hi1 hg1 ht1 he hs hs1) fun _ _ _ q => lc2_t q
end
section
variable {K : PySem.W.Frag}
/-- what is found by two fors -/
theorem lc2_pairT {β γ : Type} {a : Addr} {xs : List V} {ps : List β} {F : V → β → Prop} {g : TG} {tt : TT} {wi1 : TI} {g1 : TG} {tt1 : TT} {te : TE} {vs vs1 : List Nat} {σ : L2.St} {H1 : Hp} {Q : VK} (hq : H1 a = some (.tup xs)) (pp : Paired F xs ps) (B : Nat) (hz : xs.length * B ≤ 1000000) (qs : β → List γ) (hqs : ∀ p, (qs p).length ≤ B)
    (G : β → V → γ → Prop) (R : β → γ → V → Hp → Prop) (st : ∀ p q y H H', KT H H' → R p q y H → R p q y H') (s2 : V → L2.St)
    (outer : ∀ (i : Nat) (x : V) (p : β), xs[i]? = some x → ps[i]? = some p → F x p → ∀ H, Same H1 H → ∀ (C : L2.St → It → Hp → Prop) (k0 : Hp → Prop), (∀ J H4 ys, Same H H4 → SeqJ K J H1 H H4 ys → Paired (G p) ys (qs p) → C (s2 x) J H4) →
      g x (wipe σ vs) H fun σ2 H2 => wipe σ2 vs = wipe σ vs ∧ tt σ2 H2 fun b H3 => if b = true then wi1 σ2 H3 (C σ2) else k0 H3)
    (inner : ∀ (i : Nat) (x : V) (p : β) (y : V) (q : γ), xs[i]? = some x → ps[i]? = some p → F x p → q ∈ qs p → G p y q → ∀ H, Same H1 H → ∀ (k1 : VK) (k0 : Hp → Prop), (∀ v H', Same H H' → R p q v H' → k1 v H') → LcTurn g1 tt1 te vs1 (s2 x) y H k1 k0)
    (hd : ∀ D H ys, H1 D = none → Same H1 H → H D = some (.lst ys) → Paired (fun pq v => R pq.1 pq.2 v H) (ps.flatMap fun p => (qs p).map fun q => (p, q)) ys → Q (.ref D) H) :
    ∀ D, H1 D = none → ∃ W : Nat → Nat → Hp → Prop, (∃ m, W 0 m (upd H1 D (.lst []))) ∧ ∀ i m H, W i m H →
      ((Itt K a).stop i H ∧ Q (.ref D) H) ∨ ((Itt K a).go i H ∧ ∃ Nx : Hp → Prop, (∀ H', Nx H' → ∃ m', m' < m ∧ W (i + 1) m' H') ∧ ∀ x H', (Itt K a).yld i H x H' → g x (wipe σ vs) H' fun σ2 H2 => wipe σ2 vs = wipe σ vs ∧ tt σ2 H2 fun b H3 =>
        if b = true then Lc2In wi1 g1 tt1 te vs1 D σ2 H3 Nx else Nx H3) := by
  intro D hD
  refine lc2_out (n := xs.length) (fun j x => xs[j]? = some x) (fun i H => Same H1 H ∧ ∃ acc, H D = some (.lst acc) ∧ acc.length ≤ i * B ∧ Paired (fun pq v => R pq.1 pq.2 v H) ((ps.take i).flatMap fun p => (qs p).map fun q => (p, q)) acc)
    ⟨same_new hD, [], upd_same, Nat.zero_le _, .nil⟩ ?_ ?_ ?_ ?_ ?_
  · rintro j H hj ⟨s, _⟩
    exact ⟨xs, xs[j], .inl (.inl (s _ _ hq)), List.getElem?_eq_getElem hj⟩
  · rintro H ⟨s, _⟩
    exact ⟨xs, .inl (.inl (s _ _ hq)), Nat.le_refl _⟩
  · rintro j H x H' hj ⟨s, _⟩ ⟨e, h⟩
    exact ⟨e, h xs (.inl (.inl (s _ _ hq)))⟩
  · rintro i x H hi hx ⟨s, acc, hDs, hy, pr⟩
    obtain ⟨p, hp, hF⟩ := pairedGet pp hx
    have e1 : ps.take (i + 1) = ps.take i ++ [p] := by rw [List.take_succ, hp]; rfl
    refine outer i x p hx hp hF H s (fun σ2 J1 H4 => _) _ fun J H4 ys s4 sj pg => ?_
    obtain ⟨b, hb, hJ⟩ := sj.ex
    have nb : b ≠ D := by
      rcases hb with hb | hb
      · intro e; rw [e, hDs] at hb; cases hb
      · intro e; rw [e] at hb; exact hb hD
    have hlen := paired_len pg
    have hB := hqs p
    have him : i * B + B ≤ 1000000 := by
      have h1 : (i + 1) * B ≤ xs.length * B := Nat.mul_le_mul_right _ hi
      rw [Nat.succ_mul] at h1
      omega
    refine lc2_in (J := J) (n := ys.length) (fun j y => ys[j]? = some y) (fun j H => Same H1 H ∧ H b = H4 b ∧ ∃ acc, H D = some (.lst acc) ∧ acc.length ≤ i * B + j ∧ Paired (fun pq v => R pq.1 pq.2 v H) (((ps.take i).flatMap fun p => (qs p).map fun q => (p, q)) ++ ((qs p).take j).map fun q => (p, q)) acc) ?_ ?_ ?_ ?_ ?_ ?_
    · refine ⟨s.trans s4, rfl, acc, s4 _ _ hDs, hy, ?_⟩
      rw [List.take_zero, List.map_nil, List.append_nil]
      exact Paired.mapP pr fun _ _ z => st _ _ _ _ _ (KT.same s4) z
    · rintro j H hj ⟨_, eb, _⟩
      rcases hJ with ⟨rfl, h⟩ | ⟨rfl, h⟩
      · exact ⟨ys, ys[j], .inl (.inl (eb.trans h)), List.getElem?_eq_getElem hj⟩
      · exact ⟨ys, ys[j], .inl (.inl (eb.trans h)), List.getElem?_eq_getElem hj⟩
    · rintro H ⟨_, eb, _⟩
      rcases hJ with ⟨rfl, h⟩ | ⟨rfl, h⟩
      · exact ⟨ys, .inl (.inl (eb.trans h)), Nat.le_refl _⟩
      · exact ⟨ys, .inl (.inl (eb.trans h)), Nat.le_refl _⟩
    · rintro j H y H' hj ⟨_, eb, _⟩ hyl
      rcases hJ with ⟨rfl, h⟩ | ⟨rfl, h⟩
      · exact ⟨hyl.1, hyl.2 ys (.inl (.inl (eb.trans h)))⟩
      · exact ⟨hyl.1, hyl.2 ys (.inl (.inl (eb.trans h)))⟩
    · rintro j y H hj hyj ⟨sH, eb, acc2, hD2, hl2, pr2⟩
      obtain ⟨q, hqj, hG⟩ := pairedGet pg hyj
      have hbs : H b ≠ none := by
        rw [eb]
        rcases hJ with ⟨_, h⟩ | ⟨_, h⟩ <;> rw [h] <;> simp
      refine inner i x p y q hx hp hF (List.mem_of_getElem? hqj) hG H sH _ _ fun v H' s' r => ⟨acc2, s' D _ hD2, by rw [sizeLine_eq]; omega, same_mut (sH.trans s') hD, ?_, acc2 ++ [v], upd_same, by rw [List.length_append, List.length_singleton]; omega, ?_⟩
      · rw [upd_ne nb]
        cases e : H b with
        | none => exact absurd e hbs
        | some o => rw [s' b o e, ← eb, e]
      · have kt : KT H (upd H' D (.lst (acc2 ++ [v]))) := (KT.same s').trans (KT.mut (by rw [s' D _ hD2]; rfl))
        have kt2 : KT H' (upd H' D (.lst (acc2 ++ [v]))) := KT.mut (by rw [s' D _ hD2]; rfl)
        have e2 : (qs p).take (j + 1) = (qs p).take j ++ [q] := by rw [List.take_succ, hqj]; rfl
        rw [e2, List.map_append, ← List.append_assoc]
        exact paired_app (Paired.mapP pr2 fun _ _ z => st _ _ _ _ _ kt z) (.cons (st _ _ _ _ _ kt2 r) .nil)
    · rintro H ⟨sH, _, acc2, hD2, hl2, pr2⟩
      rw [hlen, List.take_length] at pr2
      refine ⟨sH, acc2, hD2, by rw [Nat.succ_mul]; omega, ?_⟩
      rw [e1, List.flatMap_append]
      simpa using pr2
  · rintro H ⟨s, acc, hDs, hy, pr⟩
    rw [paired_len pp, List.take_length] at pr
    exact hd D H acc hD s hDs pr
end
def tTryOnly (K : PySem.W.Frag) (c : Value) (tb : WX → TS) (ts : Addr → Value → Option Addr → TS) (Wout : WX) : TS := fun D σ H => tb (wMany K Wout D [(c, ts)]) D σ H
section
variable {X : Cx} {x : Str} {c : Value} {body suite : List Stmt} {b₀ : Stmt} {np pos pos' : Pos} {tb : WX → TS} {ts : Addr → Value → Option Addr → TS} {Wout : WX}
theorem d_tryOnly (hs : X.stack = X.env :: X.outer) (hf : X.env.frame = some X.env.locals) (hc : Names X x c) (tk : L2N.Takes X Wout)
    (hb : ∀ (W : WX) (pn : List (Addr × Obj)) (xe : Value → Shared → Prop), L2N.Takes (X.tr pn xe) W → PassesOwn (model X.prog X.w) X.A X.env xe → PSs (X.tr pn xe) body (tb W))
    (hsu : ∀ (a : Addr) (oe : Obj) (cls : Value) (d : Option Addr) (pn : List (Addr × Obj)), L2N.Zn cls d oe → (∃ vs, oe.data = .fields vs) → PSs (X.suite a ((a, oe) :: pn)) (b₀ :: suite) (ts a cls d)) :
    PS X (.Try body [.ExceptHandler (some (.Name x np)) none (b₀ :: suite) pos'] [] [] pos) (tTryOnly X.K c tb ts Wout) := L2N.ps_try_many hs hf tk hb (.cons hc hsu .nil)
end
section
open Sem (wp)
open AutoSeq1 (wpAny_loadPart')
set_option maxHeartbeats 1000000 in
theorem meets_enumerate_new1 {v : Value} {o : Obj} {H : Heap → Prop} (B : Begins v o H) :
    Meets (Builtin.«enumerate.__new__» ⟨[.type "enumerate", v], []⟩) (fun _ R s => H s.heap ∧
      R (.ok (.ret (.ref (s.heap.push o).objs.size))) { s with heap := (s.heap.push o).push { cls := .type "enumerate", data := .fields #[.none, .bool false, .ref s.heap.objs.size, rawInt 0, .none, .none] } }) :=
  .of_wp fun prog w A R s h => by
    obtain ⟨hp, g, d, tk, os⟩ := s; obtain ⟨h1, h⟩ := h
    have hsub := sub_enumerate
    have q1 : ∀ {A' : Around} {E : Value → Shared → Prop} {Q : Value → Shared → Prop}, Q (.ref hp.objs.size) ⟨hp.push o, g, d, tk, os⟩ → wpAny (model prog w) A' (pyIter v) Q E ⟨hp, g, d, tk, os⟩ :=
      fun q => B.iter prog w _ _ ⟨hp, g, d, tk, os⟩ _ h1 q
    wp_walk using q1
    refine wpAny_stack_any fun st => wpAny_pure ?_
    split
    · rename_i c _ _ _ _ _
      cases (c == Value.type "enumerate")
      · wp_walk using q1
        exact ⟨_, rfl, h⟩
      · wp_walk using q1
        exact ⟨_, rfl, h⟩
    · wp_walk using q1
      exact ⟨_, rfl, h⟩
section
variable {prog : Program} {w : World} {A : Around} {E : Value → Shared → Prop} {s : Shared}
theorem enum_begins1 {v : Value} {o : Obj} {H : Heap → Prop} {Q : Value → Shared → Prop} (B : Begins v o H) (h1 : H s.heap)
    (h : ∀ h', IsEnum h' (s.heap.objs.size + 1) s.heap.objs.size 0 .none → h'.get? s.heap.objs.size = some o → h'.objs.size = s.heap.objs.size + 2 →
      (∀ b o, s.heap.get? b = some o → h'.get? b = some o) → Q (.ref (s.heap.objs.size + 1)) { s with heap := h' }) :
    wpAny (model prog w) A (call (.type "enumerate") [v]) Q E s := by
  refine callType_new F.called_enumerate (by decide) (F.typeCall_enumerate_1 _) (F.newCall_enumerate_1 _) (fun obj => F.args_object_init_2 obj _) F.entry_enumerate_new
    (meets_enumerate_new1 B) ⟨h1, ?_⟩
  have hz : (s.heap.push o).objs.size = s.heap.objs.size + 1 := Heap.size_push ..
  show _ ∧ _
  rw [hz]
  have he : IsEnum ((s.heap.push o).push { cls := .type "enumerate", data := .fields #[.none, .bool false, .ref s.heap.objs.size, rawInt 0, .none, .none] }) (s.heap.objs.size + 1) s.heap.objs.size 0 .none := by
    have := Heap.get?_push_size (s.heap.push o) (o := { cls := .type "enumerate", data := .fields #[.none, .bool false, .ref s.heap.objs.size, rawInt 0, .none, .none] }) rfl
    rw [hz] at this; exact this
  refine ⟨⟨_, he, rfl⟩, h _ he (Heap.get?_push_of_some _ (Heap.get?_push_size _ B.free)) (by rw [Heap.size_push, hz]) fun b o x => Heap.get?_push_of_some _ (Heap.get?_push_of_some _ x)⟩
end
end
/-! ### enumerate(tuple) in a comprehension -/
def IteT (K : PySem.W.Frag) (a : Addr) : It :=
  ⟨fun i H => ∃ (xs : List V) (x : V), SqT K H a xs ∧ xs[i]? = some x, fun i H v H' => ∃ T x, v = .ref T ∧ H T = none ∧ H' = upd H T (.tup [.int (i : Nat), x]) ∧ ∀ xs, SqT K H a xs → xs[i]? = some x, fun i H => ∃ xs : List V, SqT K H a xs ∧ xs.length ≤ i⟩
theorem enum_apart {h : Heap} {e it a : Addr} {c : Int} {old : Value} {its : Array Value} {i : Nat} (he : IsEnum h e it c old) (hit : h.IsTupleIter it a i) (p : h.IsTuple a its) : a ≠ it ∧ e ≠ a := by
  obtain ⟨o1, h1, c1, d1⟩ := hit
  obtain ⟨o2, h2, c2, n, d2⟩ := p
  refine ⟨fun z => ?_, fun z => ?_⟩
  · subst z
    rw [h1] at h2
    cases h2
    rw [d1] at d2
    cases d2
  · subst z
    have he' : h.get? e = some _ := he
    rw [he'] at h2
    cases h2
    cases d2
theorem turn_enumT {P : Program} {w : World} {K : PySem.W.Frag} {elts : List Expr} {kk : Nat} {tpos : Pos} (a e it : Addr) :
    Turn P w K (.Tuple elts kk tpos) (IteT K a) [e, it] e (fun i h => (∃ old, IsEnum h e it ((i : Nat) : Int) old) ∧ h.IsTupleIter it a i ∧ e ≠ it) where
  mem := by simp
  obj := fun i h st b hb => by
    obtain ⟨⟨old, he⟩, ⟨o, ho, hc, hd⟩, _⟩ := st
    have e' : b = e ∨ b = it := by simpa using hb
    rcases e' with z | z
    · rw [z]; exact ⟨_, he, fun v q => nomatch q⟩
    · rw [z]; exact ⟨o, ho, fun v q => by rw [hd] at q; cases q⟩
  keep := fun i h h' st k => let ⟨⟨old, he⟩, hi, hne⟩ := st; ⟨⟨old, k e (by simp) _ he⟩, hi.at fun o q => k it (by simp) o q, hne⟩
  item := by
    intro X hP hw hK hc i pins s σ H E I hf st hg
    subst hP hw hK
    obtain ⟨⟨old, he⟩, hit, hne⟩ := st
    obtain ⟨xs, x, hq, hx⟩ := hg
    obtain ⟨its, rv, p, hz⟩ := I.tuple hq
    obtain ⟨u, hu, ru⟩ := rv.get hx
    have hel : e < s.heap.objs.size := Heap.lt_size he
    have hil : it < s.heap.objs.size := by obtain ⟨_, q, _⟩ := hit; exact Heap.lt_size q
    obtain ⟨n1, n2⟩ := enum_apart he hit p
    have D := PySem.Draws.tuple (prog := X.prog) (w := X.w) (A := X.A.in1) (I.ok.hd hc) it a n1 its.toArray
    have hlt : i < its.toArray.size := by
      have := (List.getElem?_eq_some_iff.mp hu).1
      simpa using this
    refine PySem.wpAny_pyNext_enum_itemD D he ⟨hit, p⟩ hlt hne (by simp only [List.mem_cons, List.not_mem_nil, or_false]; exact fun h => h.elim hne n2) fun x' h' tk hP ho hst' hT hsz hk => ?_
    have ex : x' = u := by
      have : its[i]? = some x' := by simpa using hP
      rw [hu] at this
      exact (Option.some.inj this).symm
    subst ex
    refine ⟨_, rfl, wpAny_letOwnedTupleGo_enum (s := { s with heap := h', toks := tk + 1 }) ho fun h'' he' sb => ?_⟩
    have hT2 : h''.get? s.heap.objs.size = some { cls := .type "tuple", data := .seq #[.int i tk, x'] } := (sb.2 _ (Nat.ne_of_gt hel)).trans hT
    have new : ObjOk X.prog X.w (upd H s.heap.objs.size (.tup [.int (i : Nat), x])) h'' s.heap.objs.size (.tup [.int (i : Nat), x]) :=
      ⟨by show 2 ≤ sizeLine; decide, [.int i tk, x'], .cons ⟨_, rfl⟩ (.cons ru .nil), ⟨_, hT2, rfl, _, rfl⟩⟩
    have I1 : Inv X pins σ (upd H s.heap.objs.size (.tup [.int (i : Nat), x])) { s with heap := h'', toks := tk + 1 } :=
      I.turnedNew (ch := [e, it]) (fun b ob hb q => (sb.2 b (fun z => hb (by simp [z]))).trans (hk b ob (fun z => hb (by simp [z])) (fun z => hb (by simp [z])) q)) hf (Nat.le_refl _) new
    refine ⟨.ref s.heap.objs.size, _, I1, rfl, ⟨_, x, rfl, I.hok.fresh (Nat.le_refl _), rfl, fun ys hy => by rw [I.tuple_inj hy hq]; exact hx⟩, ⟨⟨x', ?_⟩, hst'.1.at fun o q => (sb.2 it (Ne.symm hne)).trans q, hne⟩, fun b hb => ?_⟩
    · have e1 : ((i + 1 : Nat) : Int) = (i : Int) + 1 := by omega
      rw [e1]; exact he'
    · have hb' : b < s.heap.objs.size := by
        have e' : b = e ∨ b = it := by simpa using hb
        rcases e' with z | z
        · rw [z]; exact hel
        · rw [z]; exact hil
      rw [upd_ne (Nat.ne_of_lt hb')]
      exact (hf b hb).1
  done := by
    intro X hP hw hK hc i pins s σ H E I hf st hg
    subst hP hw hK
    obtain ⟨⟨old, he⟩, hit, hne⟩ := st
    obtain ⟨xs, hq, hx⟩ := hg
    obtain ⟨its, rv, p, hz⟩ := I.tuple hq
    obtain ⟨f0, f1, f2, f3, f4, f5⟩ := hf it (by simp)
    have hl := rv.length
    obtain ⟨n1, n2⟩ := enum_apart he hit p
    have hT : s.TypeIs (.ref e) "enumerate" := ⟨_, he, rfl⟩
    unfold pyNext
    refine wpAny_bind (wpAny_attempt (wpAny_callSpecial?_slot (name := Str.ofString "__next__") hT F.slot_enumerate_next
      (wpAny_call_entry F.slot_enumerate_next hT F.entry_enumerate_next ?_ (F.args_enumerate_next_1 _))))
    show wpAny _ _ (field (.ref e) 2 >>= _) _ _ _
    refine wpAny_bind (wpAny_field he rfl (x := .ref it) rfl ?_)
    refine wpAny_bind (PySem.wpAny_nextOf_tuple_end (I.ok.hd hc) hit p (by simp; omega) fun h' x he' hx' => ?_)
    obtain ⟨o, ho, hc'⟩ := hx'
    refine wpAny_bind (wpAny_isInstance (T := "StopIteration") (b := true) ⟨o, ho, hc'⟩ isSubtype_stop ?_)
    exact wpAny_pure ⟨rfl, I.turned (t' := s.toks) (fun b o hb e => he' b o hb e) f0 f1 f3 f4 f5⟩
  self := fun A i s Q E st h => let ⟨⟨_, he⟩, _⟩ := st; wpAny_pyIter_enum he h
def iEnumT (K : PySem.W.Frag) (ta : TA) : TI := fun σ H R => ta σ H fun vs H1 => ∃ a xs, vs = [.ref a] ∧ SqT K H1 a xs ∧ R (IteT K a) H1
theorem pi_enumT {X : Cx} {e : Expr} {ta : TA} {p pos tpos : Pos} {elts : List Expr} {kk : Nat} (hg : Gl X "enumerate") (hm : X.mg "enumerate" = none) (ha : PA X [e] ta) (hs : starEach [e] X.env = [(false, eval e X.env)] := by rfl) :
    PI X (.Tuple elts kk tpos) (.Call (.Name "enumerate" p) [e] [] pos) (iEnumT X.K ta) := by
  refine ⟨fun pins s σ H R I h => ?_⟩
  refine Call_ (ld_blt I hg hm boot_enumerate (PyProof.Rows.callWith_type1 (thn (ha.run pos pins s σ H _ I h) fun us s1 ⟨vs, H1, I1, r1, q1⟩ => ?_) hs rfl))
  obtain ⟨a, xs, ex, hq, q⟩ := q1
  subst ex
  cases r1 with
  | cons r rr =>
    cases rr
    cases r
    obtain ⟨its, rv, p', hz⟩ := I1.tuple hq
    refine enum_begins1 (begins_tuple a its.toArray) p' fun h' he hit hsz hk => wpAny_pyIter_enum he ?_
    have I2 : Inv X pins σ H1 { s1 with heap := h' } := I1.kept (t' := s1.toks) hk
    refine ⟨s1.heap.objs.size + 1, [s1.heap.objs.size + 1, s1.heap.objs.size], _, _, H1, rfl, I2, turn_enumT a (s1.heap.objs.size + 1) s1.heap.objs.size, ⟨⟨.none, he⟩, ⟨_, hit, rfl, rfl⟩, Nat.succ_ne_self _⟩, fun b hb => ?_, q⟩
    have e' : b = s1.heap.objs.size + 1 ∨ b = s1.heap.objs.size := by simpa using hb
    have hle : s1.heap.objs.size ≤ b := by
      rcases e' with z | z
      · rw [z]; exact Nat.le_add_right _ _
      · rw [z]; exact Nat.le_refl _
    exact I1.fpOk hle (I1.hok.fresh hle)
/-- what a comprehension over enumerate(t) asks -/
def LcE (K : PySem.W.Frag) (a : Addr) (g : TG) (tt : TT) (te : TE) (vs : List Nat) : L2.St → Hp → VK → Prop := fun σ H Q => (∃ xs, SqT K H a xs) ∧ LcJ (IteT K a) g tt te vs σ H Q
def dLcE (K : PySem.W.Frag) (ta : TA) (g : TG) (tt : TT) (te : TE) (vs : List Nat) : TE := fun σ H Q => ta σ H fun us H1 => match us with
  | [.ref a] => LcE K a g tt te vs σ H1 Q
  | _ => False
section
variable {X : Cx} {e elt : Expr} {ifs elts : List Expr} {kk : Nat} {scope : Scope} {own : List (Str × Nat)} {te : TE} {ta : TA} {g : TG} {tt : TT} {pos p p2 tpos : Pos}
theorem lc_e {σ : L2.St} {H : Hp} {Q : VK} {K : PySem.W.Frag} {vs : List Nat} (q1 : dLcE K ta g tt te vs σ H Q) : tLc (iEnumT K (mA ta)) g tt te vs σ H Q := ⟨_, q1, fun v H' q2 => by
  split at q2
  · obtain ⟨xs, hq⟩ := q2.1
    exact ⟨_, xs, rfl, hq, q2.2⟩
  · exact q2.elim⟩
theorem d_lcE (hc : X.calm = true) (hN : X.N.Nodup) (hm : X.mg "enumerate" = none) (ha : PA X [e] ta) (ok : BlkOk X.N X.env.scope scope own) (hg : BG X scope (.Tuple elts kk tpos) g) (ht : BT X scope ifs tt) (he : BE X scope elt te) (hgl : Gl X "enumerate" := by rfl)
    (hs : ∀ x, foldedSetIterable (.Call (.Name "enumerate" p) [e] [] p2) X.env x = pure x := by intro _; rfl) (hst : starEach [e] X.env = [(false, eval e X.env)] := by rfl) :
    PE X (.ListComp elt [⟨.Tuple elts kk tpos, .Call (.Name "enumerate" p) [e] [] p2, ifs, 0⟩] scope pos) (dLcE X.K ta g tt te (own.map (·.2))) := peI (pe_lc hc hN (pi_enumT hgl hm (paM ha) hst) ok hg ht he hs) fun _ _ _ q => lc_e q
end
theorem lcE_pair {β : Type} {K : PySem.W.Frag} {a : Addr} {xs : List V} {ps : List β} {F : V → β → Prop} {g : TG} {tt : TT} {te : TE} {vs : List Nat} {σ : L2.St} {H1 : Hp} {Q : VK} (hq : H1 a = some (.tup xs)) (pr : Paired F xs ps) (hz : xs.length ≤ 1000000) (R : β → V → Hp → Prop)
    (st : ∀ x y H H', KT H H' → R x y H → R x y H')
    (turn : ∀ (i : Nat) (x : V) (p : β) (T : Addr), xs[i]? = some x → ps[i]? = some p → F x p → ∀ H, Same H1 H → H T = some (.tup [.int (i : Nat), x]) → ∀ (k1 : VK) (k0 : Hp → Prop), (∀ y H', Same H H' → R p y H' → k1 y H') → LcTurn g tt te vs σ (.ref T) H k1 k0)
    (hd : ∀ D H ys, H1 D = none → Same H1 H → H D = some (.lst ys) → Paired (fun p y => R p y H) ps ys → Q (.ref D) H) : LcE K a g tt te vs σ H1 Q := by
  refine ⟨⟨_, .inl (.inl hq)⟩, fun D hD => ⟨fun i m H => m = xs.length - i ∧ i ≤ xs.length ∧ Same H1 H ∧ ∃ ys, H D = some (.lst ys) ∧ ys.length = i ∧ Paired (fun p y => R p y H) (ps.take i) ys, ⟨_, rfl, Nat.zero_le _, same_new hD, [], upd_same, rfl, .nil⟩, ?_⟩⟩
  rintro i m H ⟨rfl, hi, s, ys, hDs, hl, pp⟩
  rcases Nat.lt_or_ge i xs.length with hlt | hge
  · refine .inr ⟨⟨xs, xs[i], .inl (.inl (s _ _ hq)), List.getElem?_eq_getElem hlt⟩, fun H => i + 1 ≤ xs.length ∧ Same H1 H ∧ ∃ ys, H D = some (.lst ys) ∧ ys.length = i + 1 ∧ Paired (fun p y => R p y H) (ps.take (i + 1)) ys, fun H' q => ⟨xs.length - (i + 1), by omega, rfl, q⟩, ?_⟩
    rintro v H' ⟨T, x, rfl, hT, rfl, hx⟩
    have hx := hx xs (.inl (.inl (s _ _ hq)))
    obtain ⟨p, hp, hF⟩ := pairedGet pr hx
    have sT := same_new (o := .tup [.int (i : Nat), x]) hT
    refine turn i x p T hx hp hF _ (s.trans sT) upd_same _ _ fun y H2 s2 r => ?_
    have hD2 := s2 _ _ (sT _ _ hDs)
    have kt : KT H (upd H2 D (.lst (ys ++ [y]))) := ((KT.same sT).trans (.same s2)).trans (KT.mut (by rw [hD2]; rfl))
    have kt2 : KT H2 (upd H2 D (.lst (ys ++ [y]))) := KT.mut (by rw [hD2]; rfl)
    refine ⟨ys, hD2, by rw [sizeLine_eq]; omega, hlt, same_mut ((s.trans sT).trans s2) hD, ys ++ [y], upd_same, by rw [List.length_append, List.length_singleton]; omega, ?_⟩
    have e2 : ps.take (i + 1) = ps.take i ++ [p] := by rw [List.take_succ, hp]; rfl
    rw [e2]
    exact paired_app (Paired.mapP pp fun _ _ z => st _ _ _ _ kt z) (.cons (st _ _ _ _ kt2 r) .nil)
  · have : i = xs.length := by omega
    subst this
    rw [paired_len pr, List.take_length] at pp
    exact .inl ⟨⟨xs, .inl (.inl (s _ _ hq)), Nat.le_refl _⟩, hd D H ys hD s hDs pp⟩
/-! ### sorted(xs), xs a list or a tuple of ints, any number of them -/
section
variable {prog : Program} {w : World} {A : Around} {E : Value → Shared → Prop} {s : Shared}
/-- what a list or a tuple holds, gathered in a new list that nobody keeps -/
theorem gather {t : Addr} {T : String} {ob : Obj} {its : List Value} {k : Nat} {Q : List Value → Shared → Prop} (hT : (Value.type T == Value.type "list" || Value.type T == Value.type "tuple") = true) (g : s.heap.get? t = some ob) (cl : ob.cls = .type T) (da : ob.data = .seq its.toArray k) (hz : its.length ≤ sizeLine)
    (q : ∀ h1 : Heap, s.heap.objs.size ≤ h1.objs.size → (∀ b o, s.heap.get? b = some o → h1.get? b = some o) → Q its { s with heap := h1 }) : wpAny (model prog w) A (collect (.ref t)) Q E s := by
  have n0 : (s.heap.push (PyProof.Rows.seqObj "list" #[] 0)).get? s.heap.objs.size = some (PyProof.Rows.seqObj "list" #[] 0) := Heap.get?_push_size _ rfl
  have t0 : (s.heap.push (PyProof.Rows.seqObj "list" #[] 0)).get? t = some ob := Heap.get?_push_of_some _ g
  have keep : ∀ b o, s.heap.get? b = some o → ((s.heap.push (PyProof.Rows.seqObj "list" #[] 0)).update s.heap.objs.size (Obj.mapSeq (· ++ its.toArray))).get? b = some o := fun b o e =>
    (Heap.get?_update_ne _ _ _ _ (Nat.ne_of_lt (Heap.lt_size e))).trans (Heap.get?_push_of_some _ e)
  have size : s.heap.objs.size ≤ ((s.heap.push (PyProof.Rows.seqObj "list" #[] 0)).update s.heap.objs.size (Obj.mapSeq (· ++ its.toArray))).objs.size := by
    rw [Heap.size_update, Heap.size_push]
    exact Nat.le_succ _
  have fit : (#[] ++ its.toArray : Array Value).size ≤ sizeLine + 1 := by simp; omega
  have end_ := q _ size keep
  have got := PyProof.Rows.get?_update_seq n0 (· ++ its.toArray)
  generalize hh : (s.heap.push (PyProof.Rows.seqObj "list" #[] 0)).update s.heap.objs.size (Obj.mapSeq (· ++ its.toArray)) = h1 at *
  have last : wpAny (model prog w) A (do
      let o ← load s.heap.objs.size
      match o.data with
      | .seq xs _ => pure xs.toList
      | _ => unsupported "internal:collect") Q E { s with heap := h1 } := wpAny_bind (wpAny_load got (wpAny_pure (by simpa using end_)))
  unfold collect
  refine wpAny_bind (wpAny_runValue (codeAny_builtin PyProof.Rows.entry_proto_collect' ?_))
  change wpAny _ _ (newList [] >>= fun l => again (.builtin "list.__iadd__" ⟨[l, .ref t], []⟩)) _ _ s
  refine wpAny_bind (wpAny_newList (wpAny_pure ⟨Code.quiet_builtin _ (by decide +kernel), codeAny_builtin PyProof.Rows.entry_list_iadd' ?_⟩))
  change wpAny _ _ (Builtin.List.listExtendWith (.ref s.heap.objs.size) (.ref t) (.ref s.heap.objs.size)) _ _ { s with heap := s.heap.push (PyProof.Rows.seqObj "list" #[] 0) }
  unfold Builtin.List.listExtendWith
  refine wpAny_bind (wpAny_typeOf (T := T) ⟨ob, t0, cl⟩ ?_)
  rw [Bool.or_assoc, hT, Bool.or_true, if_pos rfl]
  refine wpAny_bind (PyProof.Rows.listItems_at t0 da (wpAny_bind (PyProof.Rows.listItems_at (xs := #[]) (n := 0) n0 rfl ?_)))
  rw [if_neg (by simp)]
  refine wpAny_bind (PyProof.Rows.listUpdate_at (xs := #[]) (n := 0) n0 rfl (wpAny_pure ?_) (Nat.zero_le _) fit)
  rw [hh]
  exact last
/-- sorted(t), t a tuple of ints: a new list at some place, all else as it was -/
theorem sorted_tup {t : Addr} {its : List Value} {ns : List Int} {Q : Value → Shared → Prop} (ht : s.heap.IsTuple t its.toArray) (hi : IntsAre its ns) (hz : its.length ≤ sizeLine)
    (h : ∀ (p : Addr) (h' : Heap) (out : List Value), s.heap.objs.size ≤ p → (∀ b o, s.heap.get? b = some o → h'.get? b = some o) → IntsAre out (out.map SrtO.iv) → (out.map SrtO.iv).Perm ns → (out.map SrtO.iv).Pairwise (· ≤ ·) →
      (∃ e, h'.get? p = some (PyProof.Rows.seqObj "list" out.toArray e)) → Q (.ref p) { s with heap := h' }) : wpAny (model prog w) A (call (.builtin "sorted") [.ref t]) Q E s := by
  obtain ⟨ob, g, cl, k, da⟩ := ht
  refine PySem.Calls.call_function_entry PyProof.Rows.kind_sorted PyProof.Rows.plain_sorted PyProof.Rows.entry_sorted (PyProof.Rows.args_sorted1 _) ?_
  unfold Builtin.«sorted»
  refine wpAny_bind (m := checkCount "sorted" 1 1 _) (wpAny_pure (wpAny_bind (gather rfl g cl da hz fun h1 le k1 => wpAny_bind (wpAny_newList ?_ hz))))
  have here : (h1.push (PyProof.Rows.seqObj "list" its.toArray 0)).get? h1.objs.size = some (PyProof.Rows.seqObj "list" its.toArray 0) := Heap.get?_push_size _ rfl
  refine wpAny_bind (wpAny_holding (wpAny_call_entry PyProof.Rows.slot_list_sort ⟨_, here, rfl⟩ PyProof.Rows.entry_list_sort
    (SrtO.list_sort_ord SrtO.swo_int here hz (fun h2 => SrtO.ints_sortable hi h2) fun out a1 a2 => ⟨_, rfl, wpAny_pure ⟨_, rfl, ?_⟩⟩) (PyProof.Rows.args_list_sort _)))
  obtain ⟨k1', k2, k3⟩ := SrtO.ints_out hi a1 a2
  refine h _ _ out le (fun b o hb => ?_) k1' k2 k3 (PyProof.Rows.sortedHeap_at here)
  have hb1 := k1 b o hb
  have hlt := Heap.lt_size hb1
  refine (PyProof.Rows.sortedHeap_old (Nat.ne_of_lt hlt) (Heap.lt_size (Heap.get?_push_of_some _ hb1))).trans (Heap.get?_push_of_some _ hb1)
end
def rSortedLT (K : PySem.W.Frag) : List V → Hp → VK → Prop := fun vs H Q => ∃ (a : Addr) (ns : List Int), vs = [V.ref a] ∧ (SqL K H a (ns.map V.int) ∨ SqT K H a (ns.map V.int)) ∧
  ∀ (ns' : List Int) (p : Addr), ns'.Perm ns → ns'.Pairwise (· ≤ ·) → H p = none → Q (.ref p) (upd H p (.lst (ns'.map V.int)))
theorem cr_sortedLT {X : Cx} : CallR X (.builtin "sorted") (rSortedLT X.K) := by
  intro pins s σ H vs us Q I r h
  obtain ⟨a, ns, rfl, hs | hs, q⟩ := h
  · exact cr_sortedI pins s σ H _ us Q I r ⟨a, ns, rfl, hs, q⟩
  obtain ⟨its, rv, hl, hz⟩ := I.tuple hs
  rw [Vals.ref1 r]
  refine sorted_tup (show s.heap.IsTuple a its.toArray from hl) rv.ints (by rw [← rv.length]; exact hz) fun p h' out hp kp hi pm srt ⟨e, he⟩ => ?_
  have len : ((out.map SrtO.iv).map V.int).length ≤ sizeLine := by
    have := pm.length_eq
    simp only [List.length_map] at this hz ⊢
    omega
  exact ⟨.ref p, upd H p (.lst ((out.map SrtO.iv).map V.int)), I.laid (t' := s.toks) kp hp ⟨len, out, e, vals_of_ints hi, he⟩, rfl, q _ _ pm srt (I.hok.fresh hp)⟩
/-- where the classes stand -/
structure Ads where
  Ranked : Addr
  TraceError : Addr
  OutOfRange : Addr
  Malformed : Addr
  NotThere : Addr
  Refused : Addr
  TooMuch : Addr
def fl_Ranked (v0 v1 v2 v3 v4 v5 : V) : List (Str × V) := [("part", v0), ("whole", v1), ("low", v2), ("high", v3), ("lows", v4), ("many", v5)]
theorem fq_Ranked_part_whole : (("part" : Str) = "whole") = False := eq_false (by decide +kernel)
theorem fq_Ranked_part_low : (("part" : Str) = "low") = False := eq_false (by decide +kernel)
theorem fq_Ranked_part_high : (("part" : Str) = "high") = False := eq_false (by decide +kernel)
theorem fq_Ranked_part_lows : (("part" : Str) = "lows") = False := eq_false (by decide +kernel)
theorem fq_Ranked_part_many : (("part" : Str) = "many") = False := eq_false (by decide +kernel)
theorem fq_Ranked_whole_part : (("whole" : Str) = "part") = False := eq_false (by decide +kernel)
theorem fq_Ranked_whole_low : (("whole" : Str) = "low") = False := eq_false (by decide +kernel)
theorem fq_Ranked_whole_high : (("whole" : Str) = "high") = False := eq_false (by decide +kernel)
theorem fq_Ranked_whole_lows : (("whole" : Str) = "lows") = False := eq_false (by decide +kernel)
theorem fq_Ranked_whole_many : (("whole" : Str) = "many") = False := eq_false (by decide +kernel)
theorem fq_Ranked_low_part : (("low" : Str) = "part") = False := eq_false (by decide +kernel)
theorem fq_Ranked_low_whole : (("low" : Str) = "whole") = False := eq_false (by decide +kernel)
theorem fq_Ranked_low_high : (("low" : Str) = "high") = False := eq_false (by decide +kernel)
theorem fq_Ranked_low_lows : (("low" : Str) = "lows") = False := eq_false (by decide +kernel)
theorem fq_Ranked_low_many : (("low" : Str) = "many") = False := eq_false (by decide +kernel)
theorem fq_Ranked_high_part : (("high" : Str) = "part") = False := eq_false (by decide +kernel)
theorem fq_Ranked_high_whole : (("high" : Str) = "whole") = False := eq_false (by decide +kernel)
theorem fq_Ranked_high_low : (("high" : Str) = "low") = False := eq_false (by decide +kernel)
theorem fq_Ranked_high_lows : (("high" : Str) = "lows") = False := eq_false (by decide +kernel)
theorem fq_Ranked_high_many : (("high" : Str) = "many") = False := eq_false (by decide +kernel)
theorem fq_Ranked_lows_part : (("lows" : Str) = "part") = False := eq_false (by decide +kernel)
theorem fq_Ranked_lows_whole : (("lows" : Str) = "whole") = False := eq_false (by decide +kernel)
theorem fq_Ranked_lows_low : (("lows" : Str) = "low") = False := eq_false (by decide +kernel)
theorem fq_Ranked_lows_high : (("lows" : Str) = "high") = False := eq_false (by decide +kernel)
theorem fq_Ranked_lows_many : (("lows" : Str) = "many") = False := eq_false (by decide +kernel)
theorem fq_Ranked_many_part : (("many" : Str) = "part") = False := eq_false (by decide +kernel)
theorem fq_Ranked_many_whole : (("many" : Str) = "whole") = False := eq_false (by decide +kernel)
theorem fq_Ranked_many_low : (("many" : Str) = "low") = False := eq_false (by decide +kernel)
theorem fq_Ranked_many_high : (("many" : Str) = "high") = False := eq_false (by decide +kernel)
theorem fq_Ranked_many_lows : (("many" : Str) = "lows") = False := eq_false (by decide +kernel)
theorem fp_Ranked_part {v0 v1 v2 v3 v4 v5 x : V} : putF "part" x (fl_Ranked v0 v1 v2 v3 v4 v5) = fl_Ranked x v1 v2 v3 v4 v5 := by simp [fl_Ranked, putF, fq_Ranked_whole_part, fq_Ranked_low_part, fq_Ranked_high_part, fq_Ranked_lows_part, fq_Ranked_many_part]
theorem fg_Ranked_part {v0 v1 v2 v3 v4 v5 : V} : (fl_Ranked v0 v1 v2 v3 v4 v5).lookup ("part" : Str) = some v0 := by rfl
theorem fp_Ranked_whole {v0 v1 v2 v3 v4 v5 x : V} : putF "whole" x (fl_Ranked v0 v1 v2 v3 v4 v5) = fl_Ranked v0 x v2 v3 v4 v5 := by simp [fl_Ranked, putF, fq_Ranked_part_whole, fq_Ranked_low_whole, fq_Ranked_high_whole, fq_Ranked_lows_whole, fq_Ranked_many_whole]
theorem fg_Ranked_whole {v0 v1 v2 v3 v4 v5 : V} : (fl_Ranked v0 v1 v2 v3 v4 v5).lookup ("whole" : Str) = some v1 := by rfl
theorem fp_Ranked_low {v0 v1 v2 v3 v4 v5 x : V} : putF "low" x (fl_Ranked v0 v1 v2 v3 v4 v5) = fl_Ranked v0 v1 x v3 v4 v5 := by simp [fl_Ranked, putF, fq_Ranked_part_low, fq_Ranked_whole_low, fq_Ranked_high_low, fq_Ranked_lows_low, fq_Ranked_many_low]
theorem fg_Ranked_low {v0 v1 v2 v3 v4 v5 : V} : (fl_Ranked v0 v1 v2 v3 v4 v5).lookup ("low" : Str) = some v2 := by rfl
theorem fp_Ranked_high {v0 v1 v2 v3 v4 v5 x : V} : putF "high" x (fl_Ranked v0 v1 v2 v3 v4 v5) = fl_Ranked v0 v1 v2 x v4 v5 := by simp [fl_Ranked, putF, fq_Ranked_part_high, fq_Ranked_whole_high, fq_Ranked_low_high, fq_Ranked_lows_high, fq_Ranked_many_high]
theorem fg_Ranked_high {v0 v1 v2 v3 v4 v5 : V} : (fl_Ranked v0 v1 v2 v3 v4 v5).lookup ("high" : Str) = some v3 := by rfl
theorem fp_Ranked_lows {v0 v1 v2 v3 v4 v5 x : V} : putF "lows" x (fl_Ranked v0 v1 v2 v3 v4 v5) = fl_Ranked v0 v1 v2 v3 x v5 := by simp [fl_Ranked, putF, fq_Ranked_part_lows, fq_Ranked_whole_lows, fq_Ranked_low_lows, fq_Ranked_high_lows, fq_Ranked_many_lows]
theorem fg_Ranked_lows {v0 v1 v2 v3 v4 v5 : V} : (fl_Ranked v0 v1 v2 v3 v4 v5).lookup ("lows" : Str) = some v4 := by rfl
theorem fp_Ranked_many {v0 v1 v2 v3 v4 v5 x : V} : putF "many" x (fl_Ranked v0 v1 v2 v3 v4 v5) = fl_Ranked v0 v1 v2 v3 v4 x := by simp [fl_Ranked, putF, fq_Ranked_part_many, fq_Ranked_whole_many, fq_Ranked_low_many, fq_Ranked_high_many, fq_Ranked_lows_many]
theorem fg_Ranked_many {v0 v1 v2 v3 v4 v5 : V} : (fl_Ranked v0 v1 v2 v3 v4 v5).lookup ("many" : Str) = some v5 := by rfl
theorem fn_Ranked {v0 v1 v2 v3 v4 v5 : V} : (fl_Ranked v0 v1 v2 v3 v4 v5).length = 6 := rfl
theorem fi_Ranked_part {x : V} : putF "part" x [] = [(("part" : Str), x)] := by simp [fl_Ranked, putF]
theorem fi_Ranked_whole {v0 x : V} : putF "whole" x [(("part" : Str), v0)] = [(("part" : Str), v0), (("whole" : Str), x)] := by simp [fl_Ranked, putF, fq_Ranked_part_whole]
theorem fi_Ranked_low {v0 v1 x : V} : putF "low" x [(("part" : Str), v0), (("whole" : Str), v1)] = [(("part" : Str), v0), (("whole" : Str), v1), (("low" : Str), x)] := by simp [fl_Ranked, putF, fq_Ranked_part_low, fq_Ranked_whole_low]
theorem fi_Ranked_high {v0 v1 v2 x : V} : putF "high" x [(("part" : Str), v0), (("whole" : Str), v1), (("low" : Str), v2)] = [(("part" : Str), v0), (("whole" : Str), v1), (("low" : Str), v2), (("high" : Str), x)] := by simp [fl_Ranked, putF, fq_Ranked_part_high, fq_Ranked_whole_high, fq_Ranked_low_high]
theorem fi_Ranked_lows {v0 v1 v2 v3 x : V} : putF "lows" x [(("part" : Str), v0), (("whole" : Str), v1), (("low" : Str), v2), (("high" : Str), v3)] = [(("part" : Str), v0), (("whole" : Str), v1), (("low" : Str), v2), (("high" : Str), v3), (("lows" : Str), x)] := by simp [fl_Ranked, putF, fq_Ranked_part_lows, fq_Ranked_whole_lows, fq_Ranked_low_lows, fq_Ranked_high_lows]
theorem fi_Ranked_many {v0 v1 v2 v3 v4 x : V} : putF "many" x [(("part" : Str), v0), (("whole" : Str), v1), (("low" : Str), v2), (("high" : Str), v3), (("lows" : Str), v4)] = fl_Ranked v0 v1 v2 v3 v4 x := by simp [fl_Ranked, putF, fq_Ranked_part_many, fq_Ranked_whole_many, fq_Ranked_low_many, fq_Ranked_high_many, fq_Ranked_lows_many]
theorem fm_Ranked_even {v0 v1 v2 v3 v4 v5 : V} : (fl_Ranked v0 v1 v2 v3 v4 v5).lookup ("even" : Str) = none := by rfl
theorem fm_Ranked_put {v0 v1 v2 v3 v4 v5 : V} : (fl_Ranked v0 v1 v2 v3 v4 v5).lookup ("put" : Str) = none := by rfl
theorem fm_Ranked_drop {v0 v1 v2 v3 v4 v5 : V} : (fl_Ranked v0 v1 v2 v3 v4 v5).lookup ("drop" : Str) = none := by rfl
theorem fm_Ranked_told {v0 v1 v2 v3 v4 v5 : V} : (fl_Ranked v0 v1 v2 v3 v4 v5).lookup ("told" : Str) = none := by rfl
theorem fm_Ranked_numbers {v0 v1 v2 v3 v4 v5 : V} : (fl_Ranked v0 v1 v2 v3 v4 v5).lookup ("numbers" : Str) = none := by rfl
theorem fm_Ranked_has {v0 v1 v2 v3 v4 v5 : V} : (fl_Ranked v0 v1 v2 v3 v4 v5).lookup ("has" : Str) = none := by rfl
set_option maxHeartbeats 8000000
local macro_rules
  | `(tactic| wp_walk using $ts,*) => `(tactic| simp only [tSeq, tAsg, gName, tRet, tRetN, tNext, tDrop, tIfS, tIf, tBreak, tCont, tOp, tUn, tC, tCons, tNil, tCB, tCallS, tMakeE, tLst, tTup, tAnd, tOr, tNot, tYes, tSl, tPart, tNoPart, tRaiseN, tTryAs,
  dVar, dAdd, dI2, dI2C, dSub, dMod, dDiv, dPow, dLt, dLe, dGt, dGe, dMul, dEq, dNe, dIs, dIsNot, isNon, dNeg, dAbs, dMax2, dMin2, dInt, dLen, dListOf, dTupleOf, dIx, dFld, dSFld, dSAug, dAug, dTest, dTru, dAndV, dOrV, dNotV, dChain, dAppend, dPop, dPopAt, dInsert, dBM, dBM0, dMethE, dPar, dPar3, dPart, dStar, dAdd2, dMulT, dDivW, dLc2T, dLcE, tTryOnly, wMany, dDG, dSetK, dDG2, keyV, tDisp, tPairs, dIsB, dNotB, tDGet, tDGet2, sDPut, tDNewT, tBM, dGcd, dSl, dRevL, dRevL.seqLst, dCnt, dIn, dNotIn, dSetL, gSub, dgTup, dgCons, dgNil,
  dForL, dForT, dForR1, dForR2, dLc2, dIL, dIT, tAsg2, dLcL, dLcT, dLcR1, dLcR2, dIsi, dIsE, tyName, seqAt_lst, seqAt_tup, seqAt_frz, lstAt_lst, tupAt_tup, atK_zero, atK_one,
  L2.start, List.map_cons, List.map_nil, List.length_cons, List.length_nil, List.cons_append, List.nil_append, List.replicate, Nat.sub_self, Nat.reduceAdd, Nat.reduceSub, List.set_cons_zero, List.set_cons_succ, List.getElem?_cons_zero, List.getElem?_cons_succ, wipe,
  Int.reduceEq, Int.reduceLT, Int.reduceLE, last_snoc, drop_snoc, len_snoc, atK_last, le00, p63, tn0, erz, n00, posS, eqS0, lt00, cutV_to, cutV_from, upd_same, upd_upd, upd_ne, ne_eq, not_false_eq_true, decide_true, decide_false, if_true, if_false, Bool.false_eq_true, Bool.not_true, Bool.not_false, decide_eq_true_eq, Bool.not_eq_true', true_and, and_true, reduceCtorEq, fn_Ranked, fp_Ranked_part, fp_Ranked_whole, fp_Ranked_low, fp_Ranked_high, fp_Ranked_lows, fp_Ranked_many, fg_Ranked_part, fg_Ranked_whole, fg_Ranked_low, fg_Ranked_high, fg_Ranked_lows, fg_Ranked_many, fi_Ranked_part, fi_Ranked_whole, fi_Ranked_low, fi_Ranked_high, fi_Ranked_lows, fi_Ranked_many, fm_Ranked_even, fm_Ranked_put, fm_Ranked_drop, fm_Ranked_told, fm_Ranked_numbers, fm_Ranked_has, is_int_int, is_int_bool, is_int_str, is_int_list, is_int_tuple, is_int_dict, is_bool_int, is_bool_bool, is_bool_str, is_bool_list, is_bool_tuple, is_bool_dict, is_NoneType_int, is_NoneType_bool, is_NoneType_str, is_NoneType_list, is_NoneType_tuple, is_NoneType_dict, is_str_int, is_str_bool, is_str_str, is_str_list, is_str_tuple, is_str_dict, is_list_int, is_list_bool, is_list_str, is_list_list, is_list_tuple, is_list_dict, is_tuple_int, is_tuple_bool, is_tuple_str, is_tuple_list, is_tuple_tuple, is_tuple_dict, is_dict_int, is_dict_bool, is_dict_str, is_dict_list, is_dict_tuple, is_dict_dict, kn_int_int, kn_int_bool, kn_int_str, kn_int_list, kn_int_tuple, kn_int_dict, kn_bool_int, kn_bool_bool, kn_bool_str, kn_bool_list, kn_bool_tuple, kn_bool_dict, kn_NoneType_int, kn_NoneType_bool, kn_NoneType_str, kn_NoneType_list, kn_NoneType_tuple, kn_NoneType_dict, kn_str_int, kn_str_bool, kn_str_str, kn_str_list, kn_str_tuple, kn_str_dict, kn_list_int, kn_list_bool, kn_list_str, kn_list_list, kn_list_tuple, kn_list_dict, kn_tuple_int, kn_tuple_bool, kn_tuple_str, kn_tuple_list, kn_tuple_tuple, kn_tuple_dict, kn_dict_int, kn_dict_bool, kn_dict_str, kn_dict_list, kn_dict_tuple, kn_dict_dict, ite_true, ite_false, $[$ts:term],*])
  | `(tactic| wide_line using [$ts,*]) => `(tactic| simp only [tAsg, gName, tRet, tRetN, tNext, tDrop, tIfS, tIf, tBreak, tCont, tOp, tUn, tC, tCons, tNil, tCB, tCallS, tMakeE, tLst, tTup, tAnd, tOr, tNot, tYes, tSl, tPart, tNoPart, tRaiseN, tTryAs,
  dVar, dAdd, dI2, dI2C, dSub, dMod, dDiv, dPow, dLt, dLe, dGt, dGe, dMul, dEq, dNe, dIs, dIsNot, isNon, dNeg, dAbs, dMax2, dMin2, dInt, dLen, dListOf, dTupleOf, dIx, dFld, dSFld, dSAug, dAug, dTest, dTru, dAndV, dOrV, dNotV, dChain, dAppend, dPop, dPopAt, dInsert, dBM, dBM0, dMethE, dPar, dPar3, dPart, dStar, dAdd2, dMulT, dDivW, dLc2T, dLcE, tTryOnly, wMany, dDG, dSetK, dDG2, keyV, tDisp, tPairs, dIsB, dNotB, tDGet, tDGet2, sDPut, tDNewT, tBM, dGcd, dSl, dRevL, dRevL.seqLst, dCnt, dIn, dNotIn, dSetL, gSub, dgTup, dgCons, dgNil,
  dForL, dForT, dForR1, dForR2, dLc2, dIL, dIT, tAsg2, dLcL, dLcT, dLcR1, dLcR2, dIsi, dIsE, tyName, seqAt_lst, seqAt_tup, seqAt_frz, lstAt_lst, tupAt_tup, atK_zero, atK_one,
  L2.start, List.map_cons, List.map_nil, List.length_cons, List.length_nil, List.cons_append, List.nil_append, List.replicate, Nat.sub_self, Nat.reduceAdd, Nat.reduceSub, List.set_cons_zero, List.set_cons_succ, List.getElem?_cons_zero, List.getElem?_cons_succ, wipe,
  Int.reduceEq, Int.reduceLT, Int.reduceLE, last_snoc, drop_snoc, len_snoc, atK_last, le00, p63, tn0, erz, n00, posS, eqS0, lt00, cutV_to, cutV_from, upd_same, upd_upd, upd_ne, ne_eq, not_false_eq_true, decide_true, decide_false, if_true, if_false, Bool.false_eq_true, Bool.not_true, Bool.not_false, decide_eq_true_eq, Bool.not_eq_true', true_and, and_true, reduceCtorEq, fn_Ranked, fp_Ranked_part, fp_Ranked_whole, fp_Ranked_low, fp_Ranked_high, fp_Ranked_lows, fp_Ranked_many, fg_Ranked_part, fg_Ranked_whole, fg_Ranked_low, fg_Ranked_high, fg_Ranked_lows, fg_Ranked_many, fi_Ranked_part, fi_Ranked_whole, fi_Ranked_low, fi_Ranked_high, fi_Ranked_lows, fi_Ranked_many, fm_Ranked_even, fm_Ranked_put, fm_Ranked_drop, fm_Ranked_told, fm_Ranked_numbers, fm_Ranked_has, is_int_int, is_int_bool, is_int_str, is_int_list, is_int_tuple, is_int_dict, is_bool_int, is_bool_bool, is_bool_str, is_bool_list, is_bool_tuple, is_bool_dict, is_NoneType_int, is_NoneType_bool, is_NoneType_str, is_NoneType_list, is_NoneType_tuple, is_NoneType_dict, is_str_int, is_str_bool, is_str_str, is_str_list, is_str_tuple, is_str_dict, is_list_int, is_list_bool, is_list_str, is_list_list, is_list_tuple, is_list_dict, is_tuple_int, is_tuple_bool, is_tuple_str, is_tuple_list, is_tuple_tuple, is_tuple_dict, is_dict_int, is_dict_bool, is_dict_str, is_dict_list, is_dict_tuple, is_dict_dict, kn_int_int, kn_int_bool, kn_int_str, kn_int_list, kn_int_tuple, kn_int_dict, kn_bool_int, kn_bool_bool, kn_bool_str, kn_bool_list, kn_bool_tuple, kn_bool_dict, kn_NoneType_int, kn_NoneType_bool, kn_NoneType_str, kn_NoneType_list, kn_NoneType_tuple, kn_NoneType_dict, kn_str_int, kn_str_bool, kn_str_str, kn_str_list, kn_str_tuple, kn_str_dict, kn_list_int, kn_list_bool, kn_list_str, kn_list_list, kn_list_tuple, kn_list_dict, kn_tuple_int, kn_tuple_bool, kn_tuple_str, kn_tuple_list, kn_tuple_tuple, kn_tuple_dict, kn_dict_int, kn_dict_bool, kn_dict_str, kn_dict_list, kn_dict_tuple, kn_dict_dict, ite_true, ite_false, $[$ts:term],*])
  | `(tactic| walk_at "ev") => `(tactic| wp_walk using upd_same)
/-! ### what every law of this kind begins with -/
theorem sz {n : Nat} (h : n ≤ 1000000) : n < sizeLine := by rw [sizeLine_eq]; omega
theorem map_snoc (ms : List Int) (z : Int) : ms.map V.int ++ [V.int z] = (ms ++ [z]).map V.int := by simp
def sp_law_take : Sp := fun vs H Q _ => ∃ (d : Addr) (ns : List Int) (b : Int), vs = [.ref d, .int b] ∧ H d = some (.lst (ns.map V.int)) ∧ 0 < b ∧ ∀ (r : Int) (ns' : List Int), 0 ≤ r → r < b → Q (.int r) (upd H d (.lst (ns'.map V.int)))
def sp_law_draws (K : PySem.W.Frag) : Sp := fun vs H Q _ => ∃ (a : Addr) (ns : List Int), vs = [.ref a] ∧ SqL K H a (ns.map V.int) ∧ ns.length ≤ 63 ∧
  ∀ (d : Addr) (H' : Hp) (ms : List Int), H d = none → Same H H' → H' d = some (.lst (ms.map V.int)) → Q (.ref d) H'
def sp_law_alike (K : PySem.W.Frag) (n : Nat) : Sp := fun vs H Q _ => ∃ (x y : V) (d : PyData), vs = [x, y] ∧ Da H n x d ∧ Da H n y d ∧ ∀ H', Same H H' → Q (.bl true) H'
def sp_law_word (K : PySem.W.Frag) (A : Ads) : SpE := fun a c d vs H Q _ => ∃ (D : Addr) (b1 b2 b3 b4 b5 : Bool) (w : Str), vs = [.ref a] ∧ c = .ref D ∧ d = none ∧ ExcC K D ∧
  PySem.W.kitOne K (.ref D) (.ref A.OutOfRange) = some b1 ∧ PySem.W.kitOne K (.ref D) (.ref A.Malformed) = some b2 ∧ PySem.W.kitOne K (.ref D) (.ref A.NotThere) = some b3 ∧ PySem.W.kitOne K (.ref D) (.ref A.Refused) = some b4 ∧ PySem.W.kitOne K (.ref D) (.ref A.TooMuch) = some b5 ∧
  (b1, b2, b3, b4, b5, w) ∈ ([(true, false, false, false, false, "range"), (false, true, false, false, false, "form"), (false, false, true, false, false, "none"), (false, false, false, true, false, "refused"), (false, false, false, false, true, "much")] : List (Bool × Bool × Bool × Bool × Bool × Str)) ∧
  ∀ H', Same H H' → Q (.str w) H'
/-- an exception's class, and the word for it -/
structure WordOk (K : PySem.W.Frag) (A : Ads) (D : Addr) (w : Str) : Prop where
  ex : ExcC K D
  te : PySem.W.exmOne K (.ref D) (.ref A.TraceError) = some true
  kit : ∃ b1 b2 b3 b4 b5, PySem.W.kitOne K (.ref D) (.ref A.OutOfRange) = some b1 ∧ PySem.W.kitOne K (.ref D) (.ref A.Malformed) = some b2 ∧ PySem.W.kitOne K (.ref D) (.ref A.NotThere) = some b3 ∧ PySem.W.kitOne K (.ref D) (.ref A.Refused) = some b4 ∧ PySem.W.kitOne K (.ref D) (.ref A.TooMuch) = some b5 ∧
    (b1, b2, b3, b4, b5, w) ∈ ([(true, false, false, false, false, "range"), (false, true, false, false, false, "form"), (false, false, true, false, false, "none"), (false, false, false, true, false, "refused"), (false, false, false, false, true, "much")] : List (Bool × Bool × Bool × Bool × Bool × Str))
theorem WordOk.sp {K : PySem.W.Frag} {A : Ads} {D a : Addr} {w : Str} {H : Hp} {Q : VK} {E : XK} (h : WordOk K A D w) (q : ∀ H', Same H H' → Q (.str w) H') : sp_law_word K A a (.ref D) none [.ref a] H Q E :=
  let ⟨b1, b2, b3, b4, b5, h1, h2, h3, h4, h5, m⟩ := h.kit
  ⟨D, b1, b2, b3, b4, b5, w, rfl, rfl, rfl, h.ex, h1, h2, h3, h4, h5, m, q⟩
/-- what is caught is told by its word -/
theorem WordOk.told {K : PySem.W.Frag} {A : Ads} {D : Addr} {w : Str} {i : Nat} {H : Hp} {σ : L2.St} {De : Ends} {Wout : WX} (h : WordOk K A D w) (hi : i < σ.length) (q : ∀ H', Same H H' → De.rt (.str w) H') :
    wAs K (.ref A.TraceError) i (fun a cls d => tRet (tCallE (sp_law_word K A) a cls d (tCons (dVar i) tNil))) Wout De (.ref D) none σ H := by
  refine ⟨true, h.te, fun _ a ha => ?_, fun e => (nomatch e)⟩
  have e : (σ.set i (some (V.ref a)))[i]? = some (some (V.ref a)) := by rw [List.getElem?_set_self hi]
  simp only [tRet, tCallE, tCons, dVar, tNil, e]
  exact h.sp q
/-! ### the law's models, as data -/
def Tz (H : Hp) : Nat → V → PyData → Prop
  | 0, v, d => AtomD v d
  | n + 1, v, d => AtomD v d ∨ ∃ (a : Addr) (xs : List V) (ds : List PyData), v = .ref a ∧ d = .tuple ds ∧ H a = some (.tup xs) ∧ xs.length ≤ 100000 ∧ Paired (Tz H n) xs ds
theorem AtomD.tz {v : V} {d : PyData} {H : Hp} (h : AtomD v d) : ∀ {n : Nat}, Tz H n v d
  | 0 => h
  | _ + 1 => .inl h
theorem Tz.kt {H H' : Hp} (k : KT H H') : ∀ {n : Nat} {v : V} {d : PyData}, Tz H n v d → Tz H' n v d
  | 0, _, _, h => h
  | n + 1, _, _, h => by
    rcases h with h | ⟨a, xs, ds, e1, e2, h, hl, p⟩
    · exact .inl h
    · exact .inr ⟨a, xs, ds, e1, e2, k _ _ h, hl, Paired.mapP p fun _ _ z => Tz.kt k z⟩
theorem Tz.da {H : Hp} : ∀ {n : Nat} {v : V} {d : PyData}, Tz H n v d → Da H n v d
  | 0, _, _, h => h
  | n + 1, _, _, h => by
    rcases h with h | ⟨a, xs, ds, e1, e2, h, hl, p⟩
    · exact .inl h
    · exact .inr (.inr ⟨a, xs, ds, e1, e2, h, hl, Paired.mapP p fun _ _ z => Tz.da z⟩)
theorem Tz.up {H : Hp} : ∀ {n : Nat} {v : V} {d : PyData}, Tz H n v d → Tz H (n + 1) v d
  | 0, _, _, h => .inl h
  | n + 1, _, _, h => by
    rcases h with h | ⟨a, xs, ds, e1, e2, h, hl, p⟩
    · exact .inl h
    · exact .inr ⟨a, xs, ds, e1, e2, h, hl, Paired.mapP p fun _ _ z => Tz.up z⟩
theorem Tz.le {H : Hp} {n m : Nat} {v : V} {d : PyData} (h : Tz H n v d) (hn : n ≤ m) : Tz H m v d := by
  induction hn with
  | refl => exact h
  | step _ ih => exact ih.up
theorem Tz.int {H : Hp} {n : Nat} {i : Int} : Tz H n (.int i) (.int i) := AtomD.tz (.inr (.inr (.inl ⟨i, rfl, rfl⟩)))
theorem Tz.str {H : Hp} {n : Nat} {x : Str} (h : PyData.strOk x = true) : Tz H n (.str x) (.str x) := AtomD.tz (.inr (.inr (.inr ⟨x, rfl, rfl, h⟩)))
theorem Tz.tup {H : Hp} {n : Nat} {a : Addr} {xs : List V} {ds : List PyData} (h : H a = some (.tup xs)) (hl : xs.length ≤ 100000) (p : Paired (Tz H n) xs ds) : Tz H (n + 1) (.ref a) (.tuple ds) := .inr ⟨a, xs, ds, rfl, rfl, h, hl, p⟩
theorem Tz.tuple_inv {H : Hp} {n : Nat} {v : V} {ds : List PyData} (h : Tz H (n + 1) v (.tuple ds)) : ∃ a xs, v = .ref a ∧ H a = some (.tup xs) ∧ xs.length ≤ 100000 ∧ Paired (Tz H n) xs ds := by
  rcases h with h | ⟨a, xs, ds', e1, e2, h, hl, p⟩
  · rcases h with ⟨_, e⟩ | ⟨_, _, e⟩ | ⟨_, _, e⟩ | ⟨_, _, e, _⟩ <;> cases e
  · cases e2; exact ⟨a, xs, e1, h, hl, p⟩
def signs : List Str := ["+", "-", "*", "mod", "<", "=="]
def LeafD (ns : List Str) (d : PyData) : Prop := (∃ i : Int, d = .tuple [.str "num", .int i] ∧ 0 ≤ i ∧ i ≤ 999999) ∨ d = .tuple [.str "load"] ∨ d = .tuple [.str "now"] ∨ ∃ x ∈ ns, d = .tuple [.str "var", .str x]
def ExD (ns : List Str) : Nat → PyData → Prop
  | 0, d => LeafD ns d
  | n + 1, d => LeafD ns d ∨ ∃ s a b, s ∈ signs ∧ d = .tuple [.str "op", .str s, a, b] ∧ ExD ns n a ∧ ExD ns n b
theorem ExD.up {ns : List Str} : ∀ {n : Nat} {d : PyData}, ExD ns n d → ExD ns (n + 1) d
  | 0, _, h => .inl h
  | n + 1, _, h => by
    rcases h with h | ⟨s, a, b, h1, h2, h3, h4⟩
    · exact .inl h
    · exact .inr ⟨s, a, b, h1, h2, h3.up, h4.up⟩
theorem ExD.le {ns : List Str} {n m : Nat} {d : PyData} (h : ExD ns n d) (hn : n ≤ m) : ExD ns m d := by
  induction hn with
  | refl => exact h
  | step _ ih => exact ih.up
theorem ExD.leaf {ns : List Str} {d : PyData} (h : LeafD ns d) : ∀ {n : Nat}, ExD ns n d
  | 0 => h
  | _ + 1 => .inl h
def SayW (w : Str) : Prop := w = "hit" ∨ w = "lost" ∨ w = "n"
def KindW (w : Str) : Prop := w = "go" ∨ w = "up" ∨ w = "via"
def SimpleD (ns : List Str) (d : PyData) : Prop :=
  (∃ x e, x ∈ ns ∧ d = .tuple [.str "set", .str x, e] ∧ ExD ns 2 e) ∨ (∃ x e, x ∈ ns ∧ d = .tuple [.str "draw", .str x, e] ∧ ExD ns 2 e) ∨ (∃ w e, SayW w ∧ d = .tuple [.str "say", .str w, e] ∧ ExD ns 2 e) ∨
  ∃ p k l m, KindW k ∧ d = .tuple [.str "send", p, .str k, l, m] ∧ ExD ns 2 p ∧ ExD ns 2 l ∧ ExD ns 2 m
def StD (ns : List Str) : Nat → PyData → Prop
  | 0, d => SimpleD ns d
  | n + 1, d => SimpleD ns d ∨ ∃ e b1 b2, d = .tuple [.str "if", e, .tuple b1, .tuple b2] ∧ ExD ns 2 e ∧ (∀ x ∈ b1, StD ns n x) ∧ (∀ x ∈ b2, StD ns n x) ∧ b1.length ≤ 5 ∧ b2.length ≤ 5
theorem StD.up {ns : List Str} : ∀ {n : Nat} {d : PyData}, StD ns n d → StD ns (n + 1) d
  | 0, _, h => .inl h
  | n + 1, _, h => by
    rcases h with h | ⟨e, b1, b2, h1, h2, h3, h4, h5, h6⟩
    · exact .inl h
    · exact .inr ⟨e, b1, b2, h1, h2, fun x hx => (h3 x hx).up, fun x hx => (h4 x hx).up, h5, h6⟩
theorem StD.le {ns : List Str} {n m : Nat} {d : PyData} (h : StD ns n d) (hn : n ≤ m) : StD ns m d := by
  induction hn with
  | refl => exact h
  | step _ ih => exact ih.up
theorem StD.simple {ns : List Str} {d : PyData} (h : SimpleD ns d) : ∀ {n : Nat}, StD ns n d
  | 0 => h
  | _ + 1 => .inl h
def OkNs (ns : List Str) : Prop := ns.length ≤ 5 ∧ ∀ x ∈ ns, PyData.strOk x = true
def NsAt (H : Hp) (nl : Addr) (ns : List Str) : Prop := H nl = some (.lst (ns.map V.str))
def sp_law_expression (n : Nat) : Sp := fun vs H Q _ => ∃ (dr nl : Addr) (ns : List Str) (k : Nat), vs = [.ref dr, .ref nl, .int k] ∧ k ≤ n ∧ DrawsAt H dr ∧ NsAt H nl ns ∧ nl ≠ dr ∧ OkNs ns ∧
  ∀ v e H', Keep [dr] H H' → DrawsAt H' dr → Tz H' (k + 1) v e → ExD ns k e → Q v H'
/-- a body: a tuple of statements -/
def BodyAt (H : Hp) (ns : List Str) (n : Nat) (v : V) : Prop := ∃ ds, Tz H (2 * n + 5) v (.tuple ds) ∧ ds.length ≤ 5 ∧ ∀ x ∈ ds, StD ns n x
def sp_law_body (n : Nat) : Sp := fun vs H Q _ => ∃ (dr nl kl : Addr) (ns : List Str) (ks : List Str) (k : Nat), vs = [.ref dr, .ref nl, .ref kl, .int k] ∧ k ≤ n ∧ DrawsAt H dr ∧ NsAt H nl ns ∧ nl ≠ dr ∧ OkNs ns ∧
  ∀ v ds H', Keep [dr] H H' → DrawsAt H' dr → Tz H' (2 * k + 5) v (.tuple ds) → ds.length ≤ 3 → (∀ x ∈ ds, StD ns k x) → Q v H'
def OkKs (ks : List Str) : Prop := ks ≠ [] ∧ ks.length ≤ 3 ∧ ∀ x ∈ ks, KindW x
def sp_law_send : Sp := fun vs H Q _ => ∃ (dr nl kl : Addr) (ns ks : List Str), vs = [.ref dr, .ref nl, .ref kl] ∧ DrawsAt H dr ∧ NsAt H nl ns ∧ nl ≠ dr ∧ OkNs ns ∧ NsAt H kl ks ∧ kl ≠ dr ∧ OkKs ks ∧
  ∀ v d H', Keep [dr] H H' → DrawsAt H' dr → Tz H' 4 v d → SimpleD ns d → Q v H'
def sp_law_many (n : Nat) : Sp := fun vs H Q _ => ∃ (v : V) (d : PyData), vs = [v] ∧ Tz H n v d ∧ ∀ (i : Int) H', Same H H' → 0 ≤ i → Q (.int i) H'
theorem Tz.int_inv {H : Hp} {n : Nat} {v : V} {x : Int} (h : Tz H n v (.int x)) : v = .int x := by
  have aux : AtomD v (.int x) → v = .int x := fun h => by rcases h with ⟨_, e⟩ | ⟨_, _, e⟩ | ⟨_, rfl, e⟩ | ⟨_, _, e, h⟩ <;> cases e; rfl
  cases n with
  | zero => exact aux h
  | succ n =>
    rcases h with h | ⟨_, _, _, _, e, _⟩
    · exact aux h
    · cases e
theorem Tz.str_inv {H : Hp} {n : Nat} {v : V} {x : Str} (h : Tz H n v (.str x)) : v = .str x := by
  have aux : AtomD v (.str x) → v = .str x := fun h => by rcases h with ⟨_, e⟩ | ⟨_, _, e⟩ | ⟨_, _, e⟩ | ⟨_, rfl, e, h⟩ <;> cases e; rfl
  cases n with
  | zero => exact aux h
  | succ n =>
    rcases h with h | ⟨_, _, _, _, e, _⟩
    · exact aux h
    · cases e
def placeNames : List Str := ["ash", "bay", "cot", "dip", "elm"]
def varNames : List Str := ["a", "b", "c"]
def varD (x : Str) (i : Int) : PyData := .tuple [.str x, .int i]
def RuleD (ns : List Str) (d : PyData) : Prop := ∃ k b, d = .tuple [.str k, .tuple b] ∧ KindW k ∧ b.length ≤ 5 ∧ ∀ s ∈ b, StD ns 3 s
def PlaceD (nm : Str) (d : PyData) : Prop := ∃ (ns : List Str) (is : List Int) (rules : List PyData), d = .tuple [.str nm, .tuple (List.zipWith varD ns is), .tuple rules] ∧ (∃ r, ns = varNames.take r) ∧ is.length = ns.length ∧ (∀ i ∈ is, 0 ≤ i ∧ i ≤ 999999) ∧ rules.length ≤ 3 ∧ ∀ r ∈ rules, RuleD ns r
def ModelD (ds : List PyData) : Prop := 0 < ds.length ∧ ds.length ≤ 5 ∧ ∀ (j : Nat) d, ds[j]? = some d → ∃ nm, placeNames[j]? = some nm ∧ PlaceD nm d
/-- the heaps' tuples, those whose object is told among them, stay -/
def KTF (H H' : Hp) : Prop := ∀ a o, H a = some o → ((∃ xs, o = .tup xs) ∨ ∃ ob xs, o = .frz ob (.tup xs)) → H' a = some o
theorem KTF.trans {H H1 H2 : Hp} (a : KTF H H1) (b : KTF H1 H2) : KTF H H2 := fun x o e h => b x o (a x o e h) h
theorem KTF.same {H H' : Hp} (k : Same H H') : KTF H H' := fun x o e _ => k x o e
theorem KTF.kt {H H' : Hp} (k : KTF H H') : KT H H' := fun a xs e => k a _ e (.inl ⟨xs, rfl⟩)
theorem KTF.list {H : Hp} {a : Addr} {xs : List V} {u : HO} (h : H a = some (.lst xs)) : KTF H (upd H a u) := fun b o e ht => by
  rw [upd_ne]
  · exact e
  · rintro rfl
    rw [h] at e
    cases e
    rcases ht with ⟨_, e⟩ | ⟨_, _, e⟩ <;> cases e
theorem keep_ktf {H H' : Hp} {d : Addr} (k : Keep [d] H H') (h : DrawsAt H d) : KTF H H' := fun a o e ht => by
  obtain ⟨ms, hm⟩ := h
  refine k a _ e ?_
  simp only [List.mem_singleton]
  rintro rfl
  rw [hm] at e
  cases e
  rcases ht with ⟨_, e⟩ | ⟨_, _, e⟩ <;> cases e
/-- a place of a model in the heap: its rules are a tuple whose object is told -/
def PlAt (H : Hp) (v : V) (d : PyData) : Prop := ∃ (a : Addr) (nm : Str) (va : V) (vd : PyData) (ra : Addr) (ob : Obj) (rx : List V) (rd : List PyData), v = .ref a ∧ d = .tuple [.str nm, vd, .tuple rd] ∧ H a = some (.tup [.str nm, va, .ref ra]) ∧ Tz H 2 va vd ∧ H ra = some (.frz ob (.tup rx)) ∧ PlainTup ob ∧ rx.length ≤ 100000 ∧ Paired (Tz H 12) rx rd
theorem PlAt.kt {H H' : Hp} (k : KTF H H') {v : V} {d : PyData} (h : PlAt H v d) : PlAt H' v d := by
  obtain ⟨a, nm, va, vd, ra, ob, rx, rd, rfl, rfl, ha, z, hr, po, l, p⟩ := h
  exact ⟨a, nm, va, vd, ra, ob, rx, rd, rfl, rfl, k _ _ ha (.inl ⟨_, rfl⟩), z.kt k.kt, k _ _ hr (.inr ⟨_, _, rfl⟩), po, l, Paired.mapP p fun _ _ z => z.kt k.kt⟩
/-- a model in the heap -/
def MdAt (H : Hp) (v : V) (ds : List PyData) : Prop := ∃ (a : Addr) (xs : List V), v = .ref a ∧ H a = some (.tup xs) ∧ xs.length ≤ 100000 ∧ Paired (PlAt H) xs ds
theorem MdAt.kt {H H' : Hp} (k : KTF H H') {v : V} {ds : List PyData} (h : MdAt H v ds) : MdAt H' v ds := by
  obtain ⟨a, xs, rfl, ha, l, p⟩ := h
  exact ⟨a, xs, rfl, k _ _ ha (.inl ⟨_, rfl⟩), l, Paired.mapP p fun _ _ z => z.kt k⟩
def sp_law_model : Sp := fun vs H Q _ => ∃ (dr : Addr) (most : Int), vs = [.ref dr, .int most] ∧ DrawsAt H dr ∧ 0 < most ∧ most ≤ 5 ∧ ∀ v ds H', Keep [dr] H H' → DrawsAt H' dr → MdAt H' v ds → ModelD ds → Q v H'
def StartD (ds : List PyData) (d : PyData) : Prop := ∃ (t l : Int) (nm k : Str) (j : Nat), d = .tuple [.int t, .str nm, .str k, .int l] ∧ 0 ≤ t ∧ t < 9 ∧ j < ds.length ∧ placeNames[j]? = some nm ∧ KindW k ∧ 0 ≤ l ∧ l < 99
def sp_law_starts : Sp := fun vs H Q _ => ∃ (dr : Addr) (mv : V) (ds : List PyData), vs = [.ref dr, mv] ∧ DrawsAt H dr ∧ MdAt H mv ds ∧ ModelD ds ∧ ∀ v ss H', Keep [dr] H H' → DrawsAt H' dr → Tz H' 2 v (.tuple ss) → 0 < ss.length → ss.length ≤ 5 → (∀ s ∈ ss, StartD ds s) → Q v H'
/-! ### what a law's run does, over data -/
def opD (s : Str) (a b : Int) : Int :=
  if s = "<" then (if a < b then 1 else 0) else if s = "==" then (if a = b then 1 else 0) else if s = "mod" then (if 0 < b then a % b else 0) else
    (if s = "+" then a + b else if s = "-" then a - b + 1000000 else a * b) % 1000000
/-- the number that an expression tells -/
def numD (vs : List (Str × Int)) (load time : Int) : Nat → PyData → Int
  | _, .tuple [.str w] => if w = "load" then load else time % 1000000
  | _, .tuple [.str _, .int i] => i
  | _, .tuple [.str _, .str x] => (vs.lookup x).getD 0
  | n + 1, .tuple [.str _, .str s, a, b] => opD s (numD vs load time n a) (numD vs load time n b)
  | _, _ => 0
def VsOk (ns : List Str) (vs : List (Str × Int)) : Prop := vs.map (·.1) = ns ∧ ns.Nodup ∧ ∀ p ∈ vs, 0 ≤ p.2 ∧ p.2 ≤ 999999
def vsK (vs : List (Str × Int)) : List (L2.Key × V) := vs.map fun p => (.inr p.1, .int p.2)
/-- the values of what is known -/
def ValsAt (H : Hp) (kn vd : Addr) (vs : List (Str × Int)) : Prop := (∃ kvs, H kn = some (.dK kvs) ∧ valV kvs (.inr "values") = some (.ref vd)) ∧ H vd = some (.dK (vsK vs))
def sp_law_number (n : Nat) : Sp := fun xs H Q _ => ∃ (kn vd ev : Addr) (e p kd sd ct : V) (vs : List (Str × Int)) (load time : Int) (ed : PyData) (ns : List Str) (k q : Nat), xs = [.ref kn, .ref ev, e] ∧ k ≤ n ∧ ValsAt H kn vd vs ∧ VsOk ns vs ∧ H ev = some (.tup [.int time, p, kd, .int load, sd, ct]) ∧ 0 ≤ time ∧ 0 ≤ load ∧ load ≤ 999999 ∧
  Tz H q e ed ∧ ExD ns k ed ∧ ∀ H', Same H H' → Q (.int (numD vs load time k ed)) H'
theorem opD_bd {s : Str} {a b : Int} (ha : 0 ≤ a ∧ a ≤ 999999) (hb : 0 ≤ b ∧ b ≤ 999999) : 0 ≤ opD s a b ∧ opD s a b ≤ 999999 := by
  unfold opD
  repeat' split
  all_goals first
    | omega
    | (have := Int.emod_nonneg a (b := b) (by omega); have := Int.emod_lt_of_pos a (b := b) (by omega); omega)
theorem lookup_bd {ns : List Str} {vs : List (Str × Int)} (h : VsOk ns vs) {x : Str} (hx : x ∈ ns) : ∃ i, vs.lookup x = some i ∧ 0 ≤ i ∧ i ≤ 999999 := by
  obtain ⟨e, nd, hb⟩ := h
  subst e
  clear nd
  induction vs with
  | nil => simp at hx
  | cons p vs ih =>
    rw [List.lookup_cons]
    by_cases hp : x = p.1
    · subst hp
      simp only [beq_self_eq_true]
      exact ⟨p.2, rfl, hb p (List.mem_cons_self ..)⟩
    · have : (x == p.1) = false := by simpa using hp
      simp only [this]
      refine ih (fun q hq => hb q (List.mem_cons_of_mem _ hq)) ?_
      rw [List.map_cons] at hx
      rcases List.mem_cons.mp hx with h | h
      · exact absurd h hp
      · exact h
theorem numD_bd {ns : List Str} {vs : List (Str × Int)} {load time : Int} (h : VsOk ns vs) (l0 : 0 ≤ load) (l1 : load ≤ 999999) : ∀ {n : Nat} {d : PyData}, ExD ns n d → 0 ≤ numD vs load time n d ∧ numD vs load time n d ≤ 999999 := by
  have leaf : ∀ (n : Nat) (d : PyData), LeafD ns d → 0 ≤ numD vs load time n d ∧ numD vs load time n d ≤ 999999 := by
    intro n d hd
    rcases hd with ⟨i, rfl, h0, h1⟩ | rfl | rfl | ⟨x, hx, rfl⟩
    · cases n <;> exact ⟨h0, h1⟩
    · cases n <;> (simp only [numD]; split <;> omega)
    · cases n <;> (simp only [numD]; split <;> omega)
    · obtain ⟨i, e, b⟩ := lookup_bd h hx
      cases n <;> (simp only [numD, e]; exact b)
  intro n
  induction n with
  | zero => exact fun hd => leaf 0 _ hd
  | succ n ih =>
    intro d hd
    rcases hd with hd | ⟨s, a, b, _, rfl, ha, hb⟩
    · exact leaf _ _ hd
    · simp only [numD]
      exact opD_bd (ih ha) (ih hb)
theorem Tz.tuple_inv0 {H : Hp} {n : Nat} {v : V} {ds : List PyData} (h : Tz H n v (.tuple ds)) : ∃ a xs m, n = m + 1 ∧ v = .ref a ∧ H a = some (.tup xs) ∧ Paired (Tz H m) xs ds := by
  cases n with
  | zero =>
    rcases h with ⟨_, e⟩ | ⟨_, _, e⟩ | ⟨_, _, e⟩ | ⟨_, _, e, _⟩ <;> cases e
  | succ m =>
    obtain ⟨a, xs, e, h, _, p⟩ := Tz.tuple_inv h
    exact ⟨a, xs, m, rfl, e, h, p⟩
/-- an event of a model of m places; a row that is said -/
def EvD (m : Nat) (d : PyData) : Prop := ∃ (t l c : Int) (p k s : Str), d = .tuple [.int t, .str p, .str k, .int l, .str s, .int c] ∧ 0 ≤ t ∧ p ∈ placeNames.take m ∧ KindW k ∧ 0 ≤ l ∧ l ≤ 999999 ∧ (s = "" ∨ s ∈ placeNames)
def SaidD (d : PyData) : Prop := ∃ (t n : Int) (p w : Str), d = .tuple [.int t, .str p, .str w, .int n] ∧ p ∈ placeNames ∧ SayW w
def Evs (m : Nat) (H : Hp) (v : V) : Prop := ∃ d, Tz H 1 v d ∧ EvD m d
def Sas (H : Hp) (v : V) : Prop := ∃ d, Tz H 1 v d ∧ SaidD d
def knK (vd sl yl : Addr) (st ct : Int) : List (L2.Key × V) := [(.inr "values", .ref vd), (.inr "stream", .int st), (.inr "count", .int ct), (.inr "sent", .ref sl), (.inr "said", .ref yl)]
/-- what a step knows, as it stands -/
structure KnAt (H : Hp) (kn vd sl yl : Addr) (ns : List Str) (ss ys : List V) : Prop where
  ex : ∃ vs st ct, VsOk ns vs ∧ H kn = some (.dK (knK vd sl yl st ct)) ∧ H vd = some (.dK (vsK vs))
  hs : H sl = some (.lst ss)
  hy : H yl = some (.lst ys)
def sp_law_do (n : Nat) : Sp := fun xs H Q _ => ∃ (mv bv : V) (kn vd sl yl ev : Addr) (ds bd : List PyData) (ns : List Str) (ss ys : List V) (k q : Nat) (ed : PyData), xs = [mv, .ref kn, .ref ev, bv] ∧ k ≤ n ∧ k ≤ 4 ∧ MdAt H mv ds ∧ ModelD ds ∧ OkNs ns ∧ KnAt H kn vd sl yl ns ss ys ∧ [kn, vd, sl, yl].Nodup ∧
  Tz H 1 (.ref ev) ed ∧ EvD ds.length ed ∧ Tz H q bv (.tuple bd) ∧ (∀ x ∈ bd, StD ns k x) ∧ ss.length + bd.length * 5 ^ k ≤ 100000 ∧ ys.length + bd.length * 5 ^ k ≤ 100000 ∧
  ∀ H' ss' ys', Keep [kn, vd, sl, yl] H H' → KnAt H' kn vd sl yl ns (ss ++ ss') (ys ++ ys') → (∀ v ∈ ss', Evs ds.length H' v) → (∀ v ∈ ys', Sas H' v) → ss'.length ≤ bd.length * 5 ^ k → ys'.length ≤ bd.length * 5 ^ k → Q .non H'
/-- the names of the variables at a place of a model -/
def NsOf (ds : List PyData) (p : Str) (ns : List Str) : Prop := ∃ (j : Nat) (is0 : List Int) (rules : List PyData), ds[j]? = some (.tuple [.str p, .tuple (List.zipWith varD ns is0), .tuple rules]) ∧ placeNames[j]? = some p ∧ is0.length = ns.length ∧ (∃ r, ns = varNames.take r) ∧ rules.length ≤ 3 ∧ ∀ r ∈ rules, RuleD ns r
/-- a state of a place -/
def StOk (H : Hp) (ds : List PyData) (p : Str) (v : V) : Prop := ∃ (sa va : Addr) (st ct : Int) (is : List Int) (ns : List Str), v = .ref sa ∧ H sa = some (.tup [.ref va, .int st, .int ct]) ∧ H va = some (.tup (is.map V.int)) ∧ NsOf ds p ns ∧ is.length = ns.length ∧ ∀ i ∈ is, 0 ≤ i ∧ i ≤ 999999
theorem StOk.kt {H H' : Hp} {ds : List PyData} {p : Str} {v : V} (k : KT H H') (h : StOk H ds p v) : StOk H' ds p v := by
  obtain ⟨sa, va, st, ct, is, ns, e, h1, h2, r⟩ := h
  exact ⟨sa, va, st, ct, is, ns, e, k _ _ h1, k _ _ h2, r⟩
def evP : PyData → Str
  | .tuple (_ :: .str p :: _) => p
  | _ => ""
def sp_law_step : Sp := fun xs H Q _ => ∃ (mv sv : V) (ev : Addr) (ds : List PyData) (ed : PyData), xs = [mv, sv, .ref ev] ∧ MdAt H mv ds ∧ ModelD ds ∧ Tz H 1 (.ref ev) ed ∧ EvD ds.length ed ∧ StOk H ds (evP ed) sv ∧
  ∀ H' ra sv' sl yl ss ys, Same H H' → H' ra = some (.tup [sv', .ref sl, .ref yl]) → StOk H' ds (evP ed) sv' → H' sl = some (.lst ss) → H' yl = some (.lst ys) → H sl = none → ss.length ≤ 700 → ys.length ≤ 700 → (∀ v ∈ ss, Evs ds.length H' v) → (∀ v ∈ ys, Sas H' v) → Q (.ref ra) H'
/-- a row of a trace: an event and what it said -/
def RowOk (m : Nat) (H : Hp) (v : V) : Prop := ∃ (a e sd : Addr) (ed : PyData) (ys : List V), v = .ref a ∧ H a = some (.tup [.ref e, .ref sd]) ∧ Tz H 1 (.ref e) ed ∧ EvD m ed ∧ H sd = some (.tup ys) ∧ ys.length ≤ 700 ∧ ∀ y ∈ ys, Sas H y
def sp_law_run : Sp := fun xs H Q _ => ∃ (mv : V) (sa : Addr) (u : Int) (ds ss : List PyData), xs = [mv, .ref sa, .int u] ∧ MdAt H mv ds ∧ ModelD ds ∧ Tz H 2 (.ref sa) (.tuple ss) ∧ ss.length ≤ 5 ∧ (∀ s ∈ ss, StartD ds s) ∧
  (∀ H', Same H H' → Q .non H') ∧ ∀ H' ra tr st wt xs, Same H H' → H' ra = some (.tup [.ref tr, st, wt]) → H' tr = some (.tup xs) → xs.length ≤ 300 → (∀ v ∈ xs, RowOk ds.length H' v) → Q (.ref ra) H'
/-! ### leftist heaps, as they stand -/
inductive Lh where
  | nil : Lh
  | node : Int → Int → Lh → Lh → Lh
def Lh.items : Lh → List Int
  | .nil => []
  | .node _ x l t => x :: (l.items ++ t.items)
/-- in the order of a heap -/
def Lh.Hd : Lh → Prop
  | .nil => True
  | .node _ x l t => l.Hd ∧ t.Hd ∧ ∀ y ∈ l.items ++ t.items, x ≤ y
def LhAt (H : Hp) : Lh → V → Prop
  | .nil, v => ∃ a, v = .ref a ∧ H a = some (.tup [])
  | .node r x l t, v => ∃ (a b : Addr) (vl vt : V), v = .ref a ∧ H a = some (.tup [.int r, .ref b, vl, vt]) ∧ H b = some (.tup [.int x]) ∧ LhAt H l vl ∧ LhAt H t vt
theorem LhAt.kt {H H' : Hp} (k : KT H H') : ∀ {h : Lh} {v : V}, LhAt H h v → LhAt H' h v
  | .nil, _, ⟨a, e, h⟩ => ⟨a, e, k _ _ h⟩
  | .node _ _ _ _, _, ⟨a, b, vl, vt, e, h1, h2, h3, h4⟩ => ⟨a, b, vl, vt, e, k _ _ h1, k _ _ h2, LhAt.kt k h3, LhAt.kt k h4⟩
def sp_rank_of : Sp := fun xs H Q _ => ∃ (v : V) (h : Lh), xs = [v] ∧ LhAt H h v ∧ ∀ i, Q (.int i) H
def sp_node_of : Sp := fun xs H Q _ => ∃ (b : Addr) (x : Int) (v1 v2 : V) (h1 h2 : Lh), xs = [.ref b, v1, v2] ∧ H b = some (.tup [.int x]) ∧ LhAt H h1 v1 ∧ LhAt H h2 v2 ∧
  ∀ v h r H', Same H H' → LhAt H' h v → (h = .node r x h1 h2 ∨ h = .node r x h2 h1) → Q v H'
def sp_met : Sp := fun xs H Q _ => ∃ (v1 v2 : V) (h1 h2 : Lh), xs = [v1, v2] ∧ LhAt H h1 v1 ∧ LhAt H h2 v2 ∧ h1.Hd ∧ h2.Hd ∧ h1.items.length + h2.items.length ≤ 1000000 ∧
  ∀ v h H', Same H H' → LhAt H' h v → h.Hd → h.items.Perm (h1.items ++ h2.items) → Q v H'
def sp_put_in : Sp := fun xs H Q _ => ∃ (v : V) (b : Addr) (x : Int) (h : Lh), xs = [v, .ref b] ∧ H b = some (.tup [.int x]) ∧ LhAt H h v ∧ h.Hd ∧ h.items.length ≤ 999999 ∧
  ∀ v' h' H', Same H H' → LhAt H' h' v' → h'.Hd → h'.items.Perm (x :: h.items) → Q v' H'
def sp_least : Sp := fun xs H Q _ => ∃ (v : V) (r x : Int) (l t : Lh), xs = [v] ∧ LhAt H (.node r x l t) v ∧ ∀ b, H b = some (.tup [.int x]) → Q (.ref b) H
def sp_without_least : Sp := fun xs H Q _ => ∃ (v : V) (r x : Int) (l t : Lh), xs = [v] ∧ LhAt H (.node r x l t) v ∧ (Lh.node r x l t).Hd ∧ l.items.length + t.items.length ≤ 1000000 ∧
  ∀ v' h' H', Same H H' → LhAt H' h' v' → h'.Hd → h'.items.Perm (l.items ++ t.items) → Q v' H'
def sp_heap_of : Sp := fun xs H Q _ => ∃ (a : Addr), xs = [.ref a] ∧ H a = some (.tup []) ∧ ∀ v H', Same H H' → LhAt H' .nil v → Q v H'
def sp_items_of : Sp := fun xs H Q _ => ∃ (v : V) (h : Lh), xs = [v] ∧ LhAt H h v ∧ h.items.length ≤ 1000000 ∧
  ∀ p qs ys H', Same H H' → H' p = some (.tup (qs.map V.ref)) → Paired (fun q y => H' q = some (.tup [.int y])) qs ys → ys.Perm h.items → ys.Pairwise (· ≤ ·) → Q (.ref p) H'
/-- one row of the search: a part of the heap, the row above it and its side there -/
def RwAt (H : Hp) (v : V) (r : Lh × Int × Int) : Prop := ∃ (a : Addr) (tv : V), v = .ref a ∧ H a = some (.tup [tv, .int r.2.1, .int r.2.2]) ∧ LhAt H r.1 tv
theorem RwAt.kt {H H' : Hp} (k : KT H H') {v : V} {r : Lh × Int × Int} (h : RwAt H v r) : RwAt H' v r := let ⟨a, tv, e, h1, h2⟩ := h; ⟨a, tv, e, k _ _ h1, h2.kt k⟩
/-- how the rows of the search hang together -/
def Hangs (h : Lh) (ts : List (Lh × Int × Int)) : Prop := ∀ (j : Nat) T ab sd, ts[j]? = some (T, ab, sd) → (j = 0 ∧ T = h ∧ ab = -1) ∨
  ∃ (i : Nat) (r y : Int) (l t : Lh) (a s : Int), ab = (i : Int) ∧ i < j ∧ ts[i]? = some (.node r y l t, a, s) ∧ ((sd = 2 ∧ T = l) ∨ (sd = 3 ∧ T = t))
def sp_whereQ (A : Ads) : Sp := fun xs H Q E => ∃ (v : V) (b : Addr) (x : Int) (h : Lh), xs = [v, .ref b] ∧ H b = some (.tup [.int x]) ∧ LhAt H h v ∧ h.Hd ∧ h.items.length ≤ 100000 ∧
  (x ∉ h.items → ∀ H', Same H H' → E (.ref A.NotThere) none H') ∧
  (x ∈ h.items → ∀ H' ra rl rows ts (n : Nat) r l t a s, Same H H' → H' ra = some (.tup [.ref rl, .int (n : Nat)]) → H' rl = some (.lst rows) → Paired (RwAt H') rows ts → Hangs h ts → ts[n]? = some (.node r x l t, a, s) → Q (.ref ra) H')
def sp_taken_out (A : Ads) : Sp := fun xs H Q E => ∃ (v : V) (b : Addr) (x : Int) (h : Lh), xs = [v, .ref b] ∧ H b = some (.tup [.int x]) ∧ LhAt H h v ∧ h.Hd ∧ h.items.length ≤ 100000 ∧
  (x ∉ h.items → ∀ H', Same H H' → E (.ref A.NotThere) none H') ∧
  (x ∈ h.items → ∀ v' g H', Same H H' → LhAt H' g v' → g.Hd → (x :: g.items).Perm h.items → Q v' H')
/-! ### ranks -/
def isort (l : List Int) : List Int := l.mergeSort fun a b => decide (a ≤ b)
/-- how many are low -/
def dueN (n : Nat) (p w : Int) : Int := if n = 0 then 0 else ((n : Int) - 1) * p / w + 1
def PW (p w : Int) : Prop := 1 ≤ w ∧ w ≤ 1000 ∧ 0 ≤ p ∧ p ≤ w
/-- a ranked object as it stands: its low (negated) and its high -/
def RkU (A : Ads) (H : Hp) (r : Addr) (p w : Int) (L G : Lh) (lows many : Int) : Prop := ∃ (dx : Addr) (lv hv : V), H r = some (.ins A.Ranked dx (fl_Ranked (.int p) (.int w) lv hv (.int lows) (.int many))) ∧ LhAt H L lv ∧ LhAt H G hv ∧ L.Hd ∧ G.Hd
/-- the numbers of both, the low ones not above the high ones -/
def Parted (L G : Lh) (ms : List Int) : Prop := (L.items.map (fun a => 0 - a) ++ G.items).Perm ms ∧ ∀ a ∈ L.items, ∀ b ∈ G.items, 0 - a ≤ b
def RkAt (A : Ads) (H : Hp) (r : Addr) (p w : Int) (ms : List Int) : Prop := ∃ L G, RkU A H r p w L G L.items.length ms.length ∧ Parted L G ms ∧ (L.items.length : Int) = dueN ms.length p w
/-- the number at the part of the way -/
def rankD (ms : List Int) (p w : Int) : Int := (isort ms).getD (((ms.length : Int) - 1) * p / w).toNat 0
theorem RkAt.perm {A : Ads} {H : Hp} {r : Addr} {p w : Int} {ms ms' : List Int} (h : RkAt A H r p w ms) (e : ms.Perm ms') : RkAt A H r p w ms' := by
  obtain ⟨L, G, u, ⟨pm, o⟩, d⟩ := h
  rw [e.length_eq] at u d
  exact ⟨L, G, u, ⟨pm.trans e, o⟩, d⟩
def ScalV (v : V) : Prop := v = .non ∨ (∃ b, v = .bl b) ∨ (∃ i, v = .int i) ∨ ∃ x, v = .str x
def sp_is_number : Sp := fun vs H Q _ => ∃ (v : V) (lo hi : Int), vs = [v, .int lo, .int hi] ∧ (ScalV v ∧ ∀ b, (b = true ↔ ∃ i, v = .int i ∧ lo ≤ i ∧ i ≤ hi) → Q (.bl b) H)
def sp_rank_place : Sp := fun vs H Q _ => ∃ (m p w : Int), vs = [.int m, .int p, .int w] ∧ PW p w ∧ Q (.int ((m - 1) * p / w)) H
def GoodPW (v1 v2 : V) : Prop := ∃ p w, v1 = .int p ∧ v2 = .int w ∧ PW p w
def sp_Ranked__init_ (A : Ads) : Sp := fun vs H Q E => ∃ (r : Addr) (dx : Addr) (v1 v2 : V), vs = [.ref r, v1, v2] ∧ H r = some (.ins A.Ranked dx []) ∧ ScalV v1 ∧ ScalV v2 ∧ (¬ GoodPW v1 v2 → E (.ref A.OutOfRange) none H) ∧
  ∀ p w, v1 = .int p → v2 = .int w → PW p w → ∀ H', Keep [r] H H' → RkAt A H' r p w [] → Q .non H'
def sp_Ranked_even (A : Ads) : Sp := fun vs H Q _ => ∃ (r : Addr) (p w : Int) (L G : Lh) (ms : List Int), vs = [.ref r] ∧ PW p w ∧ RkU A H r p w L G L.items.length ms.length ∧ Parted L G ms ∧ ms.length ≤ 600000 ∧ ∀ H', Keep [r] H H' → RkAt A H' r p w ms → Q .non H'
def sp_Ranked_put (A : Ads) : Sp := fun vs H Q _ => ∃ (r : Addr) (p w x : Int) (ms : List Int), vs = [.ref r, .int x] ∧ PW p w ∧ RkAt A H r p w ms ∧ ms.length ≤ 500000 ∧ ∀ H', Keep [r] H H' → RkAt A H' r p w (x :: ms) → Q .non H'
def sp_Ranked_drop (A : Ads) : Sp := fun vs H Q E => ∃ (r : Addr) (p w x : Int) (ms : List Int), vs = [.ref r, .int x] ∧ PW p w ∧ RkAt A H r p w ms ∧ ms.length ≤ 80000 ∧ (x ∉ ms → ∀ H', Keep [r] H H' → RkAt A H' r p w ms → E (.ref A.NotThere) none H') ∧
  (x ∈ ms → ∀ H', Keep [r] H H' → RkAt A H' r p w (ms.erase x) → Q .non H')
def sp_Ranked_told (A : Ads) : Sp := fun vs H Q E => ∃ (r : Addr) (p w : Int) (ms : List Int), vs = [.ref r] ∧ PW p w ∧ RkAt A H r p w ms ∧ (ms = [] → E (.ref A.NotThere) none H) ∧ (ms ≠ [] → Q (.int (rankD ms p w)) H)
def sp_Ranked_numbers (A : Ads) : Sp := fun vs H Q _ => ∃ (r : Addr) (p w : Int) (ms : List Int), vs = [.ref r] ∧ RkAt A H r p w ms ∧ ms.length ≤ 600000 ∧ ∀ q H', Same H H' → H' q = some (.tup ((isort ms).map V.int)) → Q (.ref q) H'
def sp_Ranked_has (A : Ads) : Sp := fun vs H Q _ => ∃ (r : Addr) (p w x : Int) (ms : List Int), vs = [.ref r, .int x] ∧ RkAt A H r p w ms ∧ ms.length ≤ 90000 ∧ ∀ H', Same H H' → Q (.bl (decide (x ∈ ms))) H'
def sp_rank_of_all (A : Ads) : Sp := fun vs H Q E => ∃ (a : Addr) (p w : Int) (ms : List Int), vs = [.ref a, .int p, .int w] ∧ PW p w ∧ (H a = some (.lst (ms.map V.int)) ∨ H a = some (.tup (ms.map V.int))) ∧ (ms = [] → E (.ref A.NotThere) none H) ∧
  (ms ≠ [] → ∀ H', Same H H' → Q (.int (rankD ms p w)) H')
def sp_law_says : Sp := fun vs H Q _ => ∃ (b c : Bool), vs = [.bl b, .bl c] ∧ Q (.bl (decide (b = c))) H
/-- a word or a number: what the rank is -/
def dueV (ms : List Int) (p w : Int) : V := if ms = [] then .str "none" else .int (rankD ms p w)
def sp_law_due : Sp := fun vs H Q _ => ∃ (a : Addr) (p w : Int) (ms : List Int), vs = [.ref a, .int p, .int w] ∧ PW p w ∧ H a = some (.lst (ms.map V.int)) ∧ ms.length ≤ 600000 ∧ ∀ H', Same H H' → Q (dueV ms p w) H'
def sp_law_told (A : Ads) : Sp := fun vs H Q _ => (∃ (r : Addr) (p w : Int) (ms : List Int), vs = [.int 0, .ref r, .non] ∧ PW p w ∧ RkAt A H r p w ms ∧ ∀ H', Same H H' → Q (dueV ms p w) H') ∨
  (∃ (r : Addr) (p w x : Int) (ms : List Int), vs = [.int 1, .ref r, .int x] ∧ PW p w ∧ RkAt A H r p w ms ∧ ms.length ≤ 80000 ∧ (x ∉ ms → ∀ H', Keep [r] H H' → RkAt A H' r p w ms → Q (.str "none") H') ∧ (x ∈ ms → ∀ H', Keep [r] H H' → RkAt A H' r p w (ms.erase x) → Q .non H')) ∨
  (∃ (t : Addr) (v1 v2 : V), vs = [.int 2, .non, .ref t] ∧ H t = some (.tup [v1, v2]) ∧ ScalV v1 ∧ ScalV v2 ∧ ¬ GoodPW v1 v2 ∧ ∀ H', Same H H' → Q (.str "range") H')
def sp_law_all (A : Ads) : Sp := fun vs H Q _ => ∃ (a : Addr) (p w : Int) (ms : List Int), vs = [.ref a, .int p, .int w] ∧ PW p w ∧ (H a = some (.lst (ms.map V.int)) ∨ H a = some (.tup (ms.map V.int))) ∧ ∀ H', Same H H' → Q (dueV ms p w) H'
def sp_law_right (A : Ads) : Sp := fun vs H Q _ => ∃ (r a : Addr) (p w : Int) (ms ns : List Int), vs = [.ref r, .ref a, .int p, .int w] ∧ PW p w ∧ RkAt A H r p w ms ∧ ms.Perm ns ∧ H a = some (.lst (ns.map V.int)) ∧ ns.length ≤ 500000 ∧ ∀ H', Same H H' → Q (.bl true) H'
/-- what is said of one row: its time, place, word, number -/
def sp_is_meant : Sp := fun vs H Q _ => ∃ (v : V) (word : Str), vs = [v, .str "", .str word] ∧ PyData.strOk word = true ∧ Sas H v ∧ ∀ b H', Same H H' → Q (.bl b) H'
def KeyRow (H : Hp) (v : V) : Prop := ∃ (a k : Addr) (s : V), v = .ref a ∧ H a = some (.tup [.ref k, s]) ∧ Sas H s
def NumRow (H : Hp) (v : V) : Prop := ∃ (a k : Addr) (n : Int), v = .ref a ∧ H a = some (.tup [.ref k, .int n])
def sp_keyed : Sp := fun vs H Q _ => ∃ (v : V) (m : Nat), vs = [v] ∧ RowOk m H v ∧ ∀ D H' ys, H D = none → Same H H' → H' D = some (.lst ys) → ys.length ≤ 700 → (∀ y ∈ ys, KeyRow H' y) → Q (.ref D) H'
def sp_numbers_said : Sp := fun vs H Q _ => ∃ (t : Addr) (word : Str) (xs : List V) (m : Nat), vs = [.ref t, .str "", .str word] ∧ PyData.strOk word = true ∧ H t = some (.tup xs) ∧ xs.length ≤ 300 ∧ (∀ v ∈ xs, RowOk m H v) ∧
  ∀ q H' ys, Same H H' → H' q = some (.tup ys) → ys.length ≤ 210000 → (∀ y ∈ ys, NumRow H' y) → Q (.ref q) H'
def sp_law_runs (A : Ads) : Sp := fun vs H Q _ => ∃ (dr : Addr) (p w : Int), vs = [.ref dr, .int p, .int w] ∧ PW p w ∧ DrawsAt H dr ∧ ∀ H', Q (.bl true) H'
def sp_law (K : PySem.W.Frag) : Sp := fun vs H Q _ => ∃ (a : Addr) (ns : List Int), vs = [.ref a] ∧ SqL K H a (ns.map V.int) ∧ ns.length ≤ 63 ∧ ∀ H', Q (.bl true) H'

def t_rank_of (K : PySem.W.Frag) (A : Ads) (E : XK)  : TS :=
  (tRet (tIf (dTest (tOp dGt (tCB dLen (tCons (dVar 0) tNil)) (tC (.int 0)))) (tOp dIx (dVar 0) (tC (.int 0))) (tC (.int 0))))
def t_node_of (K : PySem.W.Frag) (A : Ads) (E : XK)  : TS :=
  (tSeq (tIfS (dTest (tOp dLt (tCallS sp_rank_of (fun _ => E0) (tCons (dVar 1) tNil)) (tCallS sp_rank_of (fun _ => E0) (tCons (dVar 2) tNil))))
  (dPar 1 2 (tCons (dVar 2) (tCons (dVar 1) tNil)))
  tNext)
  (tRet (tTup (tCons (tOp dAdd2 (tCallS sp_rank_of (fun _ => E0) (tCons (dVar 2) tNil)) (tC (.int 1))) (tCons (dVar 0) (tCons (dVar 1) (tCons (dVar 2) tNil)))))))
def t_met (K : PySem.W.Frag) (A : Ads) (E : XK)  : TS :=
  (tSeq (tAsg (tLst tNil) (gName 2))
  (tSeq (tWhile (tAnd (dTest (tOp dGt (tCB dLen (tCons (dVar 0) tNil)) (tC (.int 0)))) (dTest (tOp dGt (tCB dLen (tCons (dVar 1) tNil)) (tC (.int 0)))))
  (tSeq (tIfS (dTest (tOp (rLtD K) (tOp dIx (dVar 1) (tC (.int 1))) (tOp dIx (dVar 0) (tC (.int 1)))))
  (dPar 0 1 (tCons (dVar 1) (tCons (dVar 0) tNil)))
  tNext)
  (tSeq (tDrop (dBM dAppend (dVar 2) (tCons (dVar 0) tNil)))
  (tAsg (tOp dIx (dVar 0) (tC (.int 3))) (gName 0)))))
  (tSeq (tAsg (tIf (dTest (tOp dEq (tCB dLen (tCons (dVar 1) tNil)) (tC (.int 0)))) (dVar 0) (dVar 1)) (gName 3))
  (tSeq (dForL K (dRevL (dVar 2)) (gName 4)
  (tAsg (tCallS sp_node_of (fun _ => E0) (tCons (tOp dIx (dVar 4) (tC (.int 1))) (tCons (tOp dIx (dVar 4) (tC (.int 2))) (tCons (dVar 3) tNil)))) (gName 3)))
  (tRet (dVar 3))))))
def t_put_in (K : PySem.W.Frag) (A : Ads) (E : XK)  : TS :=
  (tRet (tCallS sp_met (fun _ => E0) (tCons (dVar 0) (tCons (tTup (tCons (tC (.int 1)) (tCons (dVar 1) (tCons (tTup tNil) (tCons (tTup tNil) tNil))))) tNil))))
def t_least (K : PySem.W.Frag) (A : Ads) (E : XK)  : TS :=
  (tSeq (tIfS (dTest (tOp dEq (tCB dLen (tCons (dVar 0) tNil)) (tC (.int 0))))
  (tRaiseN (fun cls d _ H => E cls d H) A.NotThere)
  tNext)
  (tRet (tOp dIx (dVar 0) (tC (.int 1)))))
def t_without_least (K : PySem.W.Frag) (A : Ads) (E : XK)  : TS :=
  (tSeq (tIfS (dTest (tOp dEq (tCB dLen (tCons (dVar 0) tNil)) (tC (.int 0))))
  (tRaiseN (fun cls d _ H => E cls d H) A.NotThere)
  tNext)
  (tRet (tCallS sp_met (fun _ => E0) (tCons (tOp dIx (dVar 0) (tC (.int 2))) (tCons (tOp dIx (dVar 0) (tC (.int 3))) tNil)))))
def t_heap_of (K : PySem.W.Frag) (A : Ads) (E : XK)  : TS :=
  (tSeq (tAsg (dLcT K (dVar 0) (gName 3) tYes (tTup (tCons (tC (.int 1)) (tCons (dVar 3) (tCons (tTup tNil) (tCons (tTup tNil) tNil))))) [3]) (gName 1))
  (tSeq (tWhile (dTest (tOp dGt (tCB dLen (tCons (dVar 1) tNil)) (tC (.int 1))))
  (tSeq tDead
  tDead))
  (tRet (tIf (dTest (tOp dGt (tCB dLen (tCons (dVar 1) tNil)) (tC (.int 0)))) (tOp dIx (dVar 1) (tC (.int 0))) (tTup tNil)))))
def t_items_of (K : PySem.W.Frag) (A : Ads) (E : XK)  : TS :=
  (tSeq (dPar 1 2 (tCons (tLst tNil) (tCons (tLst (tCons (dVar 0) tNil)) tNil)))
  (tSeq (tWhile (dTest (tOp dGt (tCB dLen (tCons (dVar 2) tNil)) (tC (.int 0))))
  (tSeq (tAsg (dBM0 dPop (dVar 2)) (gName 3))
  (tIfS (dTest (tOp dGt (tCB dLen (tCons (dVar 3) tNil)) (tC (.int 0))))
  (tSeq (tDrop (dBM dAppend (dVar 1) (tCons (tOp dIx (dVar 3) (tC (.int 1))) tNil)))
  (tDrop (dBM rExtend (dVar 2) (tCons (tLst (tCons (tOp dIx (dVar 3) (tC (.int 2))) (tCons (tOp dIx (dVar 3) (tC (.int 3))) tNil))) tNil))))
  tNext)))
  (tRet (tCB dTupleOf (tCons (tCB (rSortD K) (tCons (dVar 1) tNil)) tNil)))))
def t_whereQ (K : PySem.W.Frag) (A : Ads) (E : XK)  : TS :=
  (tSeq (tAsg (tLst (tCons (tTup (tCons (dVar 0) (tCons (tUn dNeg (tC (.int 1))) (tCons (tC (.int 0)) tNil)))) tNil)) (gName 2))
  (tSeq (tAsg (tC (.int 0)) (gName 3))
  (tSeq (tWhile (dTest (tOp dLt (dVar 3) (tCB dLen (tCons (dVar 2) tNil))))
  (tSeq (tAsg (tOp dIx (tOp dIx (dVar 2) (dVar 3)) (tC (.int 0))) (gName 4))
  (tSeq (tIfS (tAnd (dTest (tOp dGt (tCB dLen (tCons (dVar 4) tNil)) (tC (.int 0)))) (dTest (tOp (dEqD K) (tOp dIx (dVar 4) (tC (.int 1))) (dVar 1))))
  (tRet (tTup (tCons (dVar 2) (tCons (dVar 3) tNil))))
  tNext)
  (tSeq (tIfS (tAnd (dTest (tOp dGt (tCB dLen (tCons (dVar 4) tNil)) (tC (.int 0)))) (dTest (tOp (rLtD K) (tOp dIx (dVar 4) (tC (.int 1))) (dVar 1))))
  (tDrop (dBM rExtend (dVar 2) (tCons (tLst (tCons (tTup (tCons (tOp dIx (dVar 4) (tC (.int 2))) (tCons (dVar 3) (tCons (tC (.int 2)) tNil)))) (tCons (tTup (tCons (tOp dIx (dVar 4) (tC (.int 3))) (tCons (dVar 3) (tCons (tC (.int 3)) tNil)))) tNil))) tNil)))
  tNext)
  (dAug 3 (tC (.int 1)) (fun i j => i + j))))))
  (tRaiseN (fun cls d _ H => E cls d H) A.NotThere))))
def t_taken_out (K : PySem.W.Frag) (A : Ads) (E : XK)  : TS :=
  (tSeq (tAsg (tCallS (sp_whereQ A) (WE fun cls d _ H => E cls d H) (tCons (dVar 0) (tCons (dVar 1) tNil))) (dgTup 2 (dgCons (gName 2) (dgCons (gName 3) dgNil))))
  (tSeq (tAsg (tCallS sp_met (fun _ => E0) (tCons (tOp dIx (tOp dIx (tOp dIx (dVar 2) (dVar 3)) (tC (.int 0))) (tC (.int 2))) (tCons (tOp dIx (tOp dIx (tOp dIx (dVar 2) (dVar 3)) (tC (.int 0))) (tC (.int 3))) tNil))) (gName 4))
  (tSeq (tWhile (dTest (tOp dGe (tOp dIx (tOp dIx (dVar 2) (dVar 3)) (tC (.int 1))) (tC (.int 0))))
  (tSeq (tAsg (tOp dIx (dVar 2) (dVar 3)) (dgTup 3 (dgCons (gName 5) (dgCons (gName 6) (dgCons (gName 7) dgNil)))))
  (tSeq (tAsg (tOp dIx (tOp dIx (dVar 2) (dVar 6)) (tC (.int 0))) (gName 8))
  (tSeq (tAsg (tIf (dTest (tOp dEq (dVar 7) (tC (.int 2)))) (tCallS sp_node_of (fun _ => E0) (tCons (tOp dIx (dVar 8) (tC (.int 1))) (tCons (dVar 4) (tCons (tOp dIx (dVar 8) (tC (.int 3))) tNil)))) (tCallS sp_node_of (fun _ => E0) (tCons (tOp dIx (dVar 8) (tC (.int 1))) (tCons (tOp dIx (dVar 8) (tC (.int 2))) (tCons (dVar 4) tNil))))) (gName 4))
  (tAsg (dVar 6) (gName 3))))))
  (tRet (dVar 4)))))
def t_is_number (K : PySem.W.Frag) (A : Ads) (E : XK)  : TS :=
  (tRet (dAndV (tCB dIsi (tCons (dVar 0) (tCons (tC (.ty "int")) tNil))) (dAndV (dNotV (tCB dIsi (tCons (dVar 0) (tCons (tC (.ty "bool")) tNil)))) (dChain dLe dLe (dVar 1) (dVar 0) (dVar 2)))))
def t_rank_place (K : PySem.W.Frag) (A : Ads) (E : XK)  : TS :=
  (tRet (tOp dDiv (tOp dMul (tOp dSub (dVar 0) (tC (.int 1))) (dVar 1)) (dVar 2)))
def t_Ranked__init_ (K : PySem.W.Frag) (A : Ads) (E : XK)  : TS :=
  (tSeq (tIfS (tOr (tNot (dTru (tCallS sp_is_number (fun _ => E0) (tCons (dVar 2) (tCons (tC (.int 1)) (tCons (tC (.int 1000)) tNil)))))) (tNot (dTru (tCallS sp_is_number (fun _ => E0) (tCons (dVar 1) (tCons (tC (.int 0)) (tCons (dVar 2) tNil)))))))
  (tRaiseN (fun cls d _ H => E cls d H) A.OutOfRange)
  tNext)
  (tSeq (dSFld A.Ranked (dVar 0) (dVar 1) "part")
  (tSeq (dSFld A.Ranked (dVar 0) (dVar 2) "whole")
  (tSeq (dSFld A.Ranked (dVar 0) (tCallS sp_heap_of (fun _ => E0) (tCons (tTup tNil) tNil)) "low")
  (tSeq (dSFld A.Ranked (dVar 0) (tCallS sp_heap_of (fun _ => E0) (tCons (tTup tNil) tNil)) "high")
  (tSeq (dSFld A.Ranked (dVar 0) (tC (.int 0)) "lows")
  (dSFld A.Ranked (dVar 0) (tC (.int 0)) "many")))))))
def t_Ranked_even (K : PySem.W.Frag) (A : Ads) (E : XK)  : TS :=
  (tSeq (tAsg (tIf (dTest (tOp dGt (dFld A.Ranked (dVar 0) "many") (tC (.int 0)))) (tOp dAdd2 (tCallS sp_rank_place (fun _ => E0) (tCons (dFld A.Ranked (dVar 0) "many") (tCons (dFld A.Ranked (dVar 0) "part") (tCons (dFld A.Ranked (dVar 0) "whole") tNil)))) (tC (.int 1))) (tC (.int 0))) (gName 1))
  (tSeq (tWhile (dTest (tOp dLt (dFld A.Ranked (dVar 0) "lows") (dVar 1)))
  (tSeq (tAsg (tOp dIx (tCallS sp_least (WE fun cls d _ H => E cls d H) (tCons (dFld A.Ranked (dVar 0) "high") tNil)) (tC (.int 0))) (gName 2))
  (tSeq (dSFld A.Ranked (dVar 0) (tCallS sp_without_least (WE fun cls d _ H => E cls d H) (tCons (dFld A.Ranked (dVar 0) "high") tNil)) "high")
  (tSeq (dSFld A.Ranked (dVar 0) (tCallS sp_put_in (fun _ => E0) (tCons (dFld A.Ranked (dVar 0) "low") (tCons (tTup (tCons (tOp dSub (tC (.int 0)) (dVar 2)) tNil)) tNil))) "low")
  (dSAug A.Ranked (dVar 0) (tC (.int 1)) (fun i j => i + j) "lows")))))
  (tWhile (dTest (tOp dGt (dFld A.Ranked (dVar 0) "lows") (dVar 1)))
  (tSeq (tAsg (tOp dSub (tC (.int 0)) (tOp dIx (tCallS sp_least (WE fun cls d _ H => E cls d H) (tCons (dFld A.Ranked (dVar 0) "low") tNil)) (tC (.int 0)))) (gName 2))
  (tSeq (dSFld A.Ranked (dVar 0) (tCallS sp_without_least (WE fun cls d _ H => E cls d H) (tCons (dFld A.Ranked (dVar 0) "low") tNil)) "low")
  (tSeq (dSFld A.Ranked (dVar 0) (tCallS sp_put_in (fun _ => E0) (tCons (dFld A.Ranked (dVar 0) "high") (tCons (tTup (tCons (dVar 2) tNil)) tNil))) "high")
  (dSAug A.Ranked (dVar 0) (tC (.int 1)) (fun i j => i - j) "lows")))))))
def t_Ranked_put (K : PySem.W.Frag) (A : Ads) (E : XK)  : TS :=
  (tSeq (tIfS (tAnd (dTest (tOp dGt (dFld A.Ranked (dVar 0) "lows") (tC (.int 0)))) (dTest (tOp dLt (dVar 1) (tOp dSub (tC (.int 0)) (tOp dIx (tCallS sp_least (WE fun cls d _ H => E cls d H) (tCons (dFld A.Ranked (dVar 0) "low") tNil)) (tC (.int 0)))))))
  (tSeq (dSFld A.Ranked (dVar 0) (tCallS sp_put_in (fun _ => E0) (tCons (dFld A.Ranked (dVar 0) "low") (tCons (tTup (tCons (tOp dSub (tC (.int 0)) (dVar 1)) tNil)) tNil))) "low")
  (dSAug A.Ranked (dVar 0) (tC (.int 1)) (fun i j => i + j) "lows"))
  (dSFld A.Ranked (dVar 0) (tCallS sp_put_in (fun _ => E0) (tCons (dFld A.Ranked (dVar 0) "high") (tCons (tTup (tCons (dVar 1) tNil)) tNil))) "high"))
  (tSeq (dSAug A.Ranked (dVar 0) (tC (.int 1)) (fun i j => i + j) "many")
  (tDrop (dMethE A.Ranked "even" (sp_Ranked_even A) (WE fun cls d _ H => E cls d H) (dVar 0) tNil))))
def t_Ranked_drop (K : PySem.W.Frag) (A : Ads) (E : XK)  : TS :=
  (tSeq (tIfS (tAnd (dTest (tOp dGt (dFld A.Ranked (dVar 0) "lows") (tC (.int 0)))) (dTest (tOp dLe (dVar 1) (tOp dSub (tC (.int 0)) (tOp dIx (tCallS sp_least (WE fun cls d _ H => E cls d H) (tCons (dFld A.Ranked (dVar 0) "low") tNil)) (tC (.int 0)))))))
  (tSeq (dSFld A.Ranked (dVar 0) (tCallS (sp_taken_out A) (WE fun cls d _ H => E cls d H) (tCons (dFld A.Ranked (dVar 0) "low") (tCons (tTup (tCons (tOp dSub (tC (.int 0)) (dVar 1)) tNil)) tNil))) "low")
  (dSAug A.Ranked (dVar 0) (tC (.int 1)) (fun i j => i - j) "lows"))
  (dSFld A.Ranked (dVar 0) (tCallS (sp_taken_out A) (WE fun cls d _ H => E cls d H) (tCons (dFld A.Ranked (dVar 0) "high") (tCons (tTup (tCons (dVar 1) tNil)) tNil))) "high"))
  (tSeq (dSAug A.Ranked (dVar 0) (tC (.int 1)) (fun i j => i - j) "many")
  (tDrop (dMethE A.Ranked "even" (sp_Ranked_even A) (WE fun cls d _ H => E cls d H) (dVar 0) tNil))))
def t_Ranked_told (K : PySem.W.Frag) (A : Ads) (E : XK)  : TS :=
  (tSeq (tIfS (dTest (tOp dEq (dFld A.Ranked (dVar 0) "many") (tC (.int 0))))
  (tRaiseN (fun cls d _ H => E cls d H) A.NotThere)
  tNext)
  (tRet (tOp dSub (tC (.int 0)) (tOp dIx (tCallS sp_least (WE fun cls d _ H => E cls d H) (tCons (dFld A.Ranked (dVar 0) "low") tNil)) (tC (.int 0))))))
def t_Ranked_numbers (K : PySem.W.Frag) (A : Ads) (E : XK)  : TS :=
  (tSeq (tAsg (dLcT K (tCallS sp_items_of (fun _ => E0) (tCons (dFld A.Ranked (dVar 0) "low") tNil)) (gName 2) tYes (tOp dSub (tC (.int 0)) (tOp dIx (dVar 2) (tC (.int 0)))) [2]) (gName 1))
  (tRet (tCB dTupleOf (tCons (tLst (dStar (tCB (rSortedI K) (tCons (dVar 1) tNil)) (dStar (dLcT K (tCallS sp_items_of (fun _ => E0) (tCons (dFld A.Ranked (dVar 0) "high") tNil)) (gName 2) tYes (tOp dIx (dVar 2) (tC (.int 0))) [2]) tNil))) tNil))))
def t_Ranked_has (K : PySem.W.Frag) (A : Ads) (E : XK)  : TS :=
  (tSeq (dForT K (tTup (tCons (tTup (tCons (dFld A.Ranked (dVar 0) "low") (tCons (tTup (tCons (tOp dSub (tC (.int 0)) (dVar 1)) tNil)) tNil))) (tCons (tTup (tCons (dFld A.Ranked (dVar 0) "high") (tCons (tTup (tCons (dVar 1) tNil)) tNil))) tNil))) (dgTup 2 (dgCons (gName 2) (dgCons (gName 3) dgNil)))
  (tTryOnly K (.ref A.NotThere) (fun W => (tSeq (tDrop (tCallS (sp_whereQ A) (WE W) (tCons (dVar 2) (tCons (dVar 3) tNil))))
  (tRet (tC (.bl true))))) (fun a cls d => tCont) (fun _ _ _ _ => False)))
  (tRet (tC (.bl false))))
def t_rank_of_all (K : PySem.W.Frag) (A : Ads) (E : XK)  : TS :=
  (tSeq (tIfS (dTest (tOp dEq (tCB dLen (tCons (dVar 0) tNil)) (tC (.int 0))))
  (tRaiseN (fun cls d _ H => E cls d H) A.NotThere)
  tNext)
  (tRet (tOp dIx (tCB (rSortedLT K) (tCons (dVar 0) tNil)) (tCallS sp_rank_place (fun _ => E0) (tCons (tCB dLen (tCons (dVar 0) tNil)) (tCons (dVar 1) (tCons (dVar 2) tNil)))))))
def t_keyed (K : PySem.W.Frag) (A : Ads) (E : XK)  : TS :=
  (tSeq (tAsg (dVar 0) (dgTup 2 (dgCons (gName 1) (dgCons (gName 2) dgNil))))
  (tRet (dLcE K (tCons (dVar 2) tNil) (dgTup 2 (dgCons (gName 3) (dgCons (gName 4) dgNil))) tYes (tTup (tCons (tTup (tCons (dVar 1) (tCons (dVar 3) tNil))) (tCons (dVar 4) tNil))) [3, 4])))
def t_is_meant (K : PySem.W.Frag) (A : Ads) (E : XK)  : TS :=
  (tRet (dAndV (tOp dIn (dVar 1) (tTup (tCons (tC (.str "")) (tCons (tOp dIx (dVar 0) (tC (.int 1))) tNil)))) (tOp dIn (dVar 2) (tTup (tCons (tC (.str "")) (tCons (tOp dIx (dVar 0) (tC (.int 2))) tNil))))))
def t_numbers_said (K : PySem.W.Frag) (A : Ads) (E : XK)  : TS :=
  (tSeq (tAsg (dLc2T K (dVar 0) (gName 4) tYes (dIL K (tCallS sp_keyed (fun _ => E0) (tCons (dVar 4) tNil))) (gName 5) tYes (dVar 5) [4, 5] [5]) (gName 3))
  (tRet (tCB dTupleOf (tCons (dLcL K (dVar 3) (dgTup 2 (dgCons (gName 6) (dgCons (gName 7) dgNil))) (dTru (tCallS sp_is_meant (fun _ => E0) (tCons (dVar 7) (tCons (dVar 1) (tCons (dVar 2) tNil))))) (tTup (tCons (dVar 6) (tCons (tOp dIx (dVar 7) (tC (.int 3))) tNil))) [6, 7]) tNil))))
def t_law_draws (K : PySem.W.Frag) (A : Ads) (E : XK)  : TS :=
  (tSeq (tAsg (tLst tNil) (gName 1))
  (tSeq (dForL K (dVar 0) (gName 2)
  (tSeq (tAsg (tCB dAbs (tCons (dVar 2) tNil)) (gName 3))
  (tSeq (tIfS (dTest (tOp dLt (dVar 3) (tOp dPow (tC (.int 10)) (tC (.int 18)))))
  (tSeq (tAsg (tOp dMod (tCB dInt (tCons (tOp dAdd2 (tOp dMul (dVar 3) (tC (.int 48271))) (tC (.int 11))) tNil)) (tC (.int 2147483647))) (gName 4))
  (tSeq (tDrop (dBM dAppend (dVar 1) (tCons (tOp dMod (tCB dInt (tCons (tOp dAdd2 (tOp dMul (dVar 4) (tC (.int 69621))) (dVar 3)) tNil)) (tC (.int 2147483629))) tNil)))
  (tSeq (tDrop (dBM dAppend (dVar 1) (tCons (tOp dMod (tCB dInt (tCons (tOp dAdd2 (dVar 4) (tOp dDiv (dVar 3) (tC (.int 7)))) tNil)) (tC (.int 1000003))) tNil)))
  (tAsg (tC (.int 0)) (gName 3)))))
  tNext)
  (dForR1 (tCons (tC (.int 60)) tNil) (gName 5)
  (tIfS (dTest (tOp dGt (dVar 3) (tC (.int 0))))
  (tSeq (tDrop (dBM dAppend (dVar 1) (tCons (tOp dMod (tCB dInt (tCons (dVar 3) tNil)) (tC (.int 997))) tNil)))
  (tAsg (tOp dDiv (dVar 3) (tC (.int 997))) (gName 3)))
  tNext)))))
  (tSeq (tAsg (tC (.int 1)) (gName 6))
  (tSeq (tIfS (dTest (tOp dGt (tCB (uLen K) (tCons (dVar 0) tNil)) (tC (.int 0))))
  (tAsg (tOp dAdd2 (tC (.int 1)) (tCB dAbs (tCons (tOp (rIx K) (dVar 0) (tC (.int 0))) tNil))) (gName 6))
  tNext)
  (tSeq (dForR1 (tCons (tC (.int 900)) tNil) (gName 5)
  (tSeq (tAsg (tOp dMod (tCB dInt (tCons (tOp dAdd2 (tOp dMul (dVar 6) (tC (.int 48271))) (tC (.int 69621))) tNil)) (tC (.int 2147483647))) (gName 6))
  (tDrop (dBM dAppend (dVar 1) (tCons (tOp dDiv (dVar 6) (tC (.int 5))) tNil)))))
  (tRet (tListRev K (dVar 1))))))))
def t_law_take (K : PySem.W.Frag) (A : Ads) (E : XK)  : TS :=
  (tSeq (tIfS (dTest (tOp dEq (tCB dLen (tCons (dVar 0) tNil)) (tC (.int 0))))
  (tRet (tC (.int 0)))
  tNext)
  (tRet (tOp dMod (tCB dInt (tCons (dBM0 dPop (dVar 0)) tNil)) (dVar 1))))
def t_law_alike (K : PySem.W.Frag) (A : Ads) (E : XK) (sq : Sp) : TS :=
  (tSeq (tIfS (tOr (dTru (tCB dIsi (tCons (dVar 1) (tCons (tC (.ty "list")) tNil)))) (dTru (tCB dIsi (tCons (dVar 1) (tCons (tC (.ty "tuple")) tNil)))))
  (tSeq (tIfS (tOr (dTest (tOp dNe (tCB dIsi (tCons (dVar 0) (tCons (tC (.ty "list")) tNil))) (tCB dIsi (tCons (dVar 1) (tCons (tC (.ty "list")) tNil))))) (dTest (tOp dNe (tCB dIsi (tCons (dVar 0) (tCons (tC (.ty "tuple")) tNil))) (tCB dIsi (tCons (dVar 1) (tCons (tC (.ty "tuple")) tNil))))))
  (tRet (tC (.bl false)))
  tNext)
  (tRet (dAndV (tOp dEq (tCB dLen (tCons (dVar 0) tNil)) (tCB dLen (tCons (dVar 1) tNil))) (tOp (dEqD K) (dLcR1 (tCons (tCB dLen (tCons (dVar 1) tNil)) tNil) (gName 2) (tNot (dTru (tCallS sq (fun _ => E0) (tCons (tOp dIx (dVar 0) (dVar 2)) (tCons (tOp dIx (dVar 1) (dVar 2)) tNil))))) (dVar 2) [2]) (tLst tNil)))))
  tNext)
  (tSeq (tIfS (dTest (tOp dIs (dVar 1) (tC .non)))
  (tRet (tOp dIs (dVar 0) (tC .non)))
  tNext)
  (tSeq (tIfS (tOr (dTru (tCB dIsi (tCons (dVar 1) (tCons (tC (.ty "bool")) tNil)))) (dTru (tCB dIsi (tCons (dVar 0) (tCons (tC (.ty "bool")) tNil)))))
  (tRet (dAndV (tCB dIsi (tCons (dVar 0) (tCons (tC (.ty "bool")) tNil))) (dAndV (tCB dIsi (tCons (dVar 1) (tCons (tC (.ty "bool")) tNil))) (tOp dEq (dVar 0) (dVar 1)))))
  tNext)
  (tSeq (tIfS (dTru (tCB dIsi (tCons (dVar 1) (tCons (tC (.ty "int")) tNil))))
  (tRet (dAndV (tCB dIsi (tCons (dVar 0) (tCons (tC (.ty "int")) tNil))) (tOp dEq (dVar 0) (dVar 1))))
  tNext)
  (tRet (dAndV (tCB dIsi (tCons (dVar 0) (tCons (tC (.ty "str")) tNil))) (tOp dEq (dVar 0) (dVar 1))))))))
def t_law_says (K : PySem.W.Frag) (A : Ads) (E : XK)  : TS :=
  (tRet (dAndV (tCB dIsi (tCons (dVar 0) (tCons (tC (.ty "bool")) tNil))) (tOp dEq (dVar 0) (dVar 1))))
def t_law_word (K : PySem.W.Frag) (A : Ads) (E : XK) (ax D : Addr) : TS :=
  (tSeq (tAsg (tLst (tCons (tCB (dIsE K D ax) (tCons (dVar 0) (tCons (tC (.ref A.OutOfRange)) tNil))) (tCons (tCB (dIsE K D ax) (tCons (dVar 0) (tCons (tC (.ref A.Malformed)) tNil))) (tCons (tCB (dIsE K D ax) (tCons (dVar 0) (tCons (tC (.ref A.NotThere)) tNil))) (tCons (tCB (dIsE K D ax) (tCons (dVar 0) (tCons (tC (.ref A.Refused)) tNil))) (tCons (tCB (dIsE K D ax) (tCons (dVar 0) (tCons (tC (.ref A.TooMuch)) tNil))) tNil)))))) (gName 1))
  (tSeq (tIfS (dTest (tOp dNe (tCB dLen (tCons (dLcL K (dVar 1) (gName 2) (dTru (dVar 2)) (dVar 2) [2]) tNil)) (tC (.int 1))))
  (tRet (tC (.str "many")))
  tNext)
  (tRet (tOp dIx (tLst (tCons (tC (.str "range")) (tCons (tC (.str "form")) (tCons (tC (.str "none")) (tCons (tC (.str "refused")) (tCons (tC (.str "much")) tNil)))))) (dBM (rIndex K) (dVar 1) (tCons (tC (.bl true)) tNil))))))
def t_law_expression (K : PySem.W.Frag) (A : Ads) (E : XK) (sq : Sp) : TS :=
  (tSeq (tAsg (tCallS sp_law_take (fun _ => E0) (tCons (dVar 0) (tCons (tC (.int 6)) tNil))) (gName 3))
  (tSeq (tIfS (tOr (dTest (tOp dEq (dVar 2) (tC (.int 0)))) (dTest (tOp dLt (dVar 3) (tC (.int 3)))))
  (tSeq (tAsg (tLst (tCons (tTup (tCons (tC (.str "num")) (tCons (tCallS sp_law_take (fun _ => E0) (tCons (dVar 0) (tCons (tC (.int 9)) tNil))) tNil))) (tCons (tTup (tCons (tC (.str "load")) tNil)) (tCons (tTup (tCons (tC (.str "now")) tNil)) (tCons (tTup (tCons (tC (.str "num")) (tCons (tOp dIx (tLst (tCons (tCallS sp_law_take (fun _ => E0) (tCons (dVar 0) (tCons (tC (.int 40)) tNil))) (tCons (tOp dAdd2 (tC (.int 999990)) (tCallS sp_law_take (fun _ => E0) (tCons (dVar 0) (tCons (tC (.int 10)) tNil)))) tNil))) (tCallS sp_law_take (fun _ => E0) (tCons (dVar 0) (tCons (tC (.int 2)) tNil)))) tNil))) tNil))))) (gName 4))
  (tSeq (tAsg (tOp dAdd2 (dVar 4) (dLcL K (dVar 1) (gName 6) tYes (tTup (tCons (tC (.str "var")) (tCons (dVar 6) tNil))) [6])) (gName 4))
  (tRet (tOp dIx (dVar 4) (tCallS sp_law_take (fun _ => E0) (tCons (dVar 0) (tCons (tCB dLen (tCons (dVar 4) tNil)) tNil)))))))
  tNext)
  (tSeq (tAsg (tOp dIx (tLst (tCons (tC (.str "+")) (tCons (tC (.str "-")) (tCons (tC (.str "*")) (tCons (tC (.str "mod")) (tCons (tC (.str "<")) (tCons (tC (.str "==")) tNil))))))) (tCallS sp_law_take (fun _ => E0) (tCons (dVar 0) (tCons (tC (.int 6)) tNil)))) (gName 5))
  (tRet (tTup (tCons (tC (.str "op")) (tCons (dVar 5) (tCons (tCallS sq (fun _ => E0) (tCons (dVar 0) (tCons (dVar 1) (tCons (tOp dSub (dVar 2) (tC (.int 1))) tNil)))) (tCons (tCallS sq (fun _ => E0) (tCons (dVar 0) (tCons (dVar 1) (tCons (tOp dSub (dVar 2) (tC (.int 1))) tNil)))) tNil)))))))))
def t_law_body (K : PySem.W.Frag) (A : Ads) (E : XK) (sq : Sp) : TS :=
  (tSeq (tAsg (tLst tNil) (gName 4))
  (tSeq (dForR1 (tCons (tCallS sp_law_take (fun _ => E0) (tCons (dVar 0) (tCons (tC (.int 4)) tNil))) tNil) (gName 5)
  (tSeq (tAsg (tCallS sp_law_take (fun _ => E0) (tCons (dVar 0) (tCons (tC (.int 4)) tNil))) (gName 6))
  (tIfS (tAnd (dTest (tOp dEq (dVar 6) (tC (.int 0)))) (dTest (tOp (dNeD K) (dVar 1) (tLst tNil))))
  (tDrop (dBM dAppend (dVar 4) (tCons (tTup (tCons (tC (.str "set")) (tCons (tOp dIx (dVar 1) (tCallS sp_law_take (fun _ => E0) (tCons (dVar 0) (tCons (tCB dLen (tCons (dVar 1) tNil)) tNil)))) (tCons (tCallS (sp_law_expression 2) (fun _ => E0) (tCons (dVar 0) (tCons (dVar 1) (tCons (tC (.int 2)) tNil)))) tNil)))) tNil)))
  (tIfS (tAnd (dTest (tOp dEq (dVar 6) (tC (.int 1)))) (dTest (tOp (dNeD K) (dVar 1) (tLst tNil))))
  (tDrop (dBM dAppend (dVar 4) (tCons (tTup (tCons (tC (.str "draw")) (tCons (tOp dIx (dVar 1) (tCallS sp_law_take (fun _ => E0) (tCons (dVar 0) (tCons (tCB dLen (tCons (dVar 1) tNil)) tNil)))) (tCons (tCallS (sp_law_expression 2) (fun _ => E0) (tCons (dVar 0) (tCons (dVar 1) (tCons (tC (.int 1)) tNil)))) tNil)))) tNil)))
  (tIfS (tAnd (dTest (tOp dEq (dVar 6) (tC (.int 2)))) (dTest (tOp dGt (dVar 3) (tC (.int 0)))))
  (tDrop (dBM dAppend (dVar 4) (tCons (tTup (tCons (tC (.str "if")) (tCons (tCallS (sp_law_expression 2) (fun _ => E0) (tCons (dVar 0) (tCons (dVar 1) (tCons (tC (.int 2)) tNil)))) (tCons (tCallS sq (fun _ => E0) (tCons (dVar 0) (tCons (dVar 1) (tCons (dVar 2) (tCons (tOp dSub (dVar 3) (tC (.int 1))) tNil))))) (tCons (tCallS sq (fun _ => E0) (tCons (dVar 0) (tCons (dVar 1) (tCons (dVar 2) (tCons (tOp dSub (dVar 3) (tC (.int 1))) tNil))))) tNil))))) tNil)))
  (tDrop (dBM dAppend (dVar 4) (tCons (tTup (tCons (tC (.str "say")) (tCons (tOp dIx (tLst (tCons (tC (.str "hit")) (tCons (tC (.str "lost")) (tCons (tC (.str "n")) tNil)))) (tCallS sp_law_take (fun _ => E0) (tCons (dVar 0) (tCons (tC (.int 3)) tNil)))) (tCons (tCallS (sp_law_expression 2) (fun _ => E0) (tCons (dVar 0) (tCons (dVar 1) (tCons (tC (.int 2)) tNil)))) tNil)))) tNil))))))))
  (tRet (tCB dTupleOf (tCons (dVar 4) tNil)))))
def t_law_send (K : PySem.W.Frag) (A : Ads) (E : XK)  : TS :=
  (tSeq (dPar 3 4 (tCons (tCallS (sp_law_expression 2) (fun _ => E0) (tCons (dVar 0) (tCons (dVar 1) (tCons (tC (.int 1)) tNil)))) (tCons (tOp dIx (tLst (tCons (tTup (tCons (tC (.str "num")) (tCons (tCallS sp_law_take (fun _ => E0) (tCons (dVar 0) (tCons (tC (.int 7)) tNil))) tNil))) (tCons (tTup (tCons (tC (.str "op")) (tCons (tC (.str "mod")) (tCons (tCallS (sp_law_expression 2) (fun _ => E0) (tCons (dVar 0) (tCons (dVar 1) (tCons (tC (.int 1)) tNil)))) (tCons (tTup (tCons (tC (.str "num")) (tCons (tC (.int 9)) tNil))) tNil))))) tNil))) (tCallS sp_law_take (fun _ => E0) (tCons (dVar 0) (tCons (tC (.int 2)) tNil)))) tNil)))
  (tRet (tTup (tCons (tC (.str "send")) (tCons (dVar 3) (tCons (tOp dIx (dVar 2) (tCallS sp_law_take (fun _ => E0) (tCons (dVar 0) (tCons (tCB dLen (tCons (dVar 2) tNil)) tNil)))) (tCons (dVar 4) (tCons (tCallS (sp_law_expression 2) (fun _ => E0) (tCons (dVar 0) (tCons (dVar 1) (tCons (tC (.int 2)) tNil)))) tNil))))))))
def t_law_many (K : PySem.W.Frag) (A : Ads) (E : XK) (sq : Sp) : TS :=
  (tSeq (tIfS (tOr (tNot (dTru (tCB dIsi (tCons (dVar 0) (tCons (tC (.ty "tuple")) tNil))))) (dTest (tOp (dEqD K) (dVar 0) (tTup tNil))))
  (tRet (tC (.int 0)))
  tNext)
  (tRet (tOp dAdd2 (tCB dInt (tCons (tCB dIsi (tCons (tOp dIx (dVar 0) (tC (.int 0))) (tCons (tC (.ty "str")) tNil))) tNil)) (tCB (rSum K) (tCons (dLcT K (dVar 0) (gName 1) tYes (tCallS sq (fun _ => E0) (tCons (dVar 1) tNil)) [1]) tNil)))))
def t_law_model (K : PySem.W.Frag) (A : Ads) (E : XK)  : TS :=
  (tSeq (tAsg (tSl dSl (tLst (tCons (tC (.str "go")) (tCons (tC (.str "up")) (tCons (tC (.str "via")) tNil)))) tNoPart (dPart (tOp dAdd2 (tC (.int 1)) (tCallS sp_law_take (fun _ => E0) (tCons (dVar 0) (tCons (tC (.int 3)) tNil)))))) (gName 2))
  (tSeq (dPar 3 4 (tCons (tLst tNil) (tCons (tC (.int 0)) tNil)))
  (tSeq (dForR1 (tCons (tOp dAdd2 (tC (.int 1)) (tCallS sp_law_take (fun _ => E0) (tCons (dVar 0) (tCons (dVar 1) tNil)))) tNil) (gName 5)
  (tSeq (tAsg (tCB dTupleOf (tCons (dLcL K (tSl dSl (tLst (tCons (tC (.str "a")) (tCons (tC (.str "b")) (tCons (tC (.str "c")) tNil)))) tNoPart (dPart (tCallS sp_law_take (fun _ => E0) (tCons (dVar 0) (tCons (tC (.int 4)) tNil))))) (gName 12) tYes (tTup (tCons (dVar 12) (tCons (tCallS sp_law_take (fun _ => E0) (tCons (dVar 0) (tCons (tC (.int 9)) tNil))) tNil))) [12]) tNil)) (gName 6))
  (tSeq (tAsg (dLcT K (dVar 6) (dgTup 2 (dgCons (gName 12) (dgCons (gName 13) dgNil))) tYes (dVar 12) [12, 13]) (gName 7))
  (tSeq (tAsg (tLst tNil) (gName 8))
  (tSeq (dForL K (dVar 2) (gName 9)
  (tIfS (dTest (tOp dGt (tCallS sp_law_take (fun _ => E0) (tCons (dVar 0) (tCons (tC (.int 8)) tNil))) (tC (.int 0))))
  (tSeq (tAsg (tOp dAdd2 (tCallS (sp_law_body 2) (fun _ => E0) (tCons (dVar 0) (tCons (dVar 7) (tCons (dVar 2) (tCons (tC (.int 2)) tNil))))) (tTup (tCons (tCallS sp_law_send (fun _ => E0) (tCons (dVar 0) (tCons (dVar 7) (tCons (dVar 2) tNil)))) tNil))) (gName 10))
  (tSeq (tAsg (tTup (tCons (tC (.str "op")) (tCons (tC (.str "<")) (tCons (tTup (tCons (tC (.str "now")) tNil)) (tCons (tTup (tCons (tC (.str "num")) (tCons (tC (.int 12)) tNil))) tNil))))) (gName 11))
  (tSeq (tIfS (dTest (tOp dEq (tCallS sp_law_take (fun _ => E0) (tCons (dVar 0) (tCons (tC (.int 3)) tNil))) (tC (.int 0))))
  (tAsg (tOp dAdd2 (dVar 10) (tTup (tCons (tTup (tCons (tC (.str "if")) (tCons (dVar 11) (tCons (tTup (tCons (tCallS sp_law_send (fun _ => E0) (tCons (dVar 0) (tCons (dVar 7) (tCons (dVar 2) tNil)))) tNil)) (tCons (tTup tNil) tNil))))) tNil))) (gName 10))
  tNext)
  (tSeq (tIfS (dTest (tOp dEq (tCallS sp_law_take (fun _ => E0) (tCons (dVar 0) (tCons (tC (.int 5)) tNil))) (tC (.int 0))))
  (tAsg (tTup (tCons (tTup (tCons (tC (.str "if")) (tCons (tTup (tCons (tC (.str "op")) (tCons (tC (.str "<")) (tCons (tTup (tCons (tC (.str "load")) tNil)) (tCons (tTup (tCons (tC (.str "num")) (tCons (tC (.int 500000)) tNil))) tNil))))) (tCons (dVar 10) (tCons (tTup tNil) tNil))))) tNil)) (gName 10))
  tNext)
  (tSeq (tIfS (dTest (tOp dGt (tOp dAdd2 (dVar 4) (tCallS (sp_law_many 11) (fun _ => E0) (tCons (dVar 10) tNil))) (tC (.int 200))))
  (tAsg (tTup (tCons (tTup (tCons (tC (.str "say")) (tCons (tC (.str "n")) (tCons (tTup (tCons (tC (.str "num")) (tCons (tC (.int 1)) tNil))) tNil)))) tNil)) (gName 10))
  tNext)
  (tSeq (tAsg (tOp dAdd2 (dVar 4) (tCallS (sp_law_many 11) (fun _ => E0) (tCons (dVar 10) tNil))) (gName 4))
  (tDrop (dBM dAppend (dVar 8) (tCons (tTup (tCons (dVar 9) (tCons (dVar 10) tNil))) tNil)))))))))
  tNext))
  (tDrop (dBM dAppend (dVar 3) (tCons (tTup (tCons (tOp dIx (tLst (tCons (tC (.str "ash")) (tCons (tC (.str "bay")) (tCons (tC (.str "cot")) (tCons (tC (.str "dip")) (tCons (tC (.str "elm")) tNil)))))) (dVar 5)) (tCons (dVar 6) (tCons (tCB (rTupF K) (tCons (dVar 8) tNil)) tNil)))) tNil))))))))
  (tRet (tCB dTupleOf (tCons (dVar 3) tNil))))))
def t_law_starts (K : PySem.W.Frag) (A : Ads) (E : XK)  : TS :=
  (tSeq (tAsg (tLst (tCons (tC (.str "go")) (tCons (tC (.str "up")) (tCons (tC (.str "via")) tNil)))) (gName 2))
  (tSeq (tAsg (tLst tNil) (gName 3))
  (tSeq (dForR1 (tCons (tOp dAdd2 (tC (.int 1)) (tCallS sp_law_take (fun _ => E0) (tCons (dVar 0) (tCons (tC (.int 5)) tNil)))) tNil) (gName 4)
  (tDrop (dBM dAppend (dVar 3) (tCons (tTup (tCons (tCallS sp_law_take (fun _ => E0) (tCons (dVar 0) (tCons (tC (.int 9)) tNil))) (tCons (tOp dIx (tOp dIx (dVar 1) (tCallS sp_law_take (fun _ => E0) (tCons (dVar 0) (tCons (tCB dLen (tCons (dVar 1) tNil)) tNil)))) (tC (.int 0))) (tCons (tOp dIx (dVar 2) (tCallS sp_law_take (fun _ => E0) (tCons (dVar 0) (tCons (tC (.int 3)) tNil)))) (tCons (tCallS sp_law_take (fun _ => E0) (tCons (dVar 0) (tCons (tC (.int 99)) tNil))) tNil))))) tNil))))
  (tRet (tCB dTupleOf (tCons (dVar 3) tNil))))))
def t_law_number (K : PySem.W.Frag) (A : Ads) (E : XK) (sq : Sp) : TS :=
  (tSeq (tIfS (dTest (tOp dEq (tCB dLen (tCons (dVar 2) tNil)) (tC (.int 1))))
  (tRet (tIf (dTest (tOp dEq (tOp dIx (dVar 2) (tC (.int 0))) (tC (.str "load")))) (tOp dIx (dVar 1) (tC (.int 3))) (tOp dMod (tCB dInt (tCons (tOp dIx (dVar 1) (tC (.int 0))) tNil)) (tC (.int 1000000)))))
  tNext)
  (tSeq (tIfS (dTest (tOp dEq (tCB dLen (tCons (dVar 2) tNil)) (tC (.int 2))))
  (tRet (tIf (dTest (tOp dEq (tOp dIx (dVar 2) (tC (.int 0))) (tC (.str "num")))) (tOp dIx (dVar 2) (tC (.int 1))) (dDG (dDG (dVar 0) (tC (.str "values"))) (tOp dIx (dVar 2) (tC (.int 1))))))
  tNext)
  (tSeq (dPar 3 4 (tCons (tCallS sq (fun _ => E0) (tCons (dVar 0) (tCons (dVar 1) (tCons (tOp dIx (dVar 2) (tC (.int 2))) tNil)))) (tCons (tCallS sq (fun _ => E0) (tCons (dVar 0) (tCons (dVar 1) (tCons (tOp dIx (dVar 2) (tC (.int 3))) tNil)))) tNil)))
  (tSeq (tIfS (dTest (tOp dIn (tOp dIx (dVar 2) (tC (.int 1))) (tLst (tCons (tC (.str "<")) (tCons (tC (.str "==")) tNil)))))
  (tRet (tIf (dTest (tOp dEq (tOp dIx (dVar 2) (tC (.int 1))) (tC (.str "<")))) (tCB dInt (tCons (tOp dLt (dVar 3) (dVar 4)) tNil)) (tCB dInt (tCons (tOp dEq (dVar 3) (dVar 4)) tNil))))
  tNext)
  (tSeq (tIfS (dTest (tOp dEq (tOp dIx (dVar 2) (tC (.int 1))) (tC (.str "mod"))))
  (tRet (tIf (dTest (tOp dGt (dVar 4) (tC (.int 0)))) (tOp dSub (dVar 3) (tOp dMul (tOp dDiv (dVar 3) (dVar 4)) (dVar 4))) (tC (.int 0))))
  tNext)
  (tSeq (tAsg (dDG (tDisp [((tC (.str "+")), (tOp dAdd2 (dVar 3) (dVar 4))), ((tC (.str "-")), (tOp dAdd2 (tOp dSub (dVar 3) (dVar 4)) (tC (.int 1000000)))), ((tC (.str "*")), (tOp dMul (dVar 3) (dVar 4)))]) (tOp dIx (dVar 2) (tC (.int 1)))) (gName 5))
  (tRet (tOp dSub (dVar 5) (tOp dMul (tOp dDiv (dVar 5) (tC (.int 1000000))) (tC (.int 1000000)))))))))))
def t_law_do (K : PySem.W.Frag) (A : Ads) (E : XK) (sq : Sp) : TS :=
  (dForT K (dVar 3) (gName 4)
  (tIfS (dTest (tOp dEq (tOp dIx (dVar 4) (tC (.int 0))) (tC (.str "if"))))
  (tDrop (tCallS sq (fun _ => E0) (tCons (dVar 0) (tCons (dVar 1) (tCons (dVar 2) (tCons (tIf (dTest (tOp dGt (tCallS (sp_law_number 3) (fun _ => E0) (tCons (dVar 1) (tCons (dVar 2) (tCons (tOp dIx (dVar 4) (tC (.int 1))) tNil)))) (tC (.int 0)))) (tOp dIx (dVar 4) (tC (.int 2))) (tOp dIx (dVar 4) (tC (.int 3)))) tNil))))))
  (tIfS (dTest (tOp dEq (tOp dIx (dVar 4) (tC (.int 0))) (tC (.str "set"))))
  (tAsg (tCallS (sp_law_number 3) (fun _ => E0) (tCons (dVar 1) (tCons (dVar 2) (tCons (tOp dIx (dVar 4) (tC (.int 2))) tNil)))) (gSub (dDG (dVar 1) (tC (.str "values"))) (tOp dIx (dVar 4) (tC (.int 1))) dSetK))
  (tIfS (dTest (tOp dEq (tOp dIx (dVar 4) (tC (.int 0))) (tC (.str "draw"))))
  (tSeq (tAsg (tCallS (sp_law_number 3) (fun _ => E0) (tCons (dVar 1) (tCons (dVar 2) (tCons (tOp dIx (dVar 4) (tC (.int 2))) tNil)))) (gName 5))
  (tSeq (tAsg (tOp dAdd2 (tOp dMul (dDG (dVar 1) (tC (.str "stream"))) (tC (.int 2862933))) (tC (.int 3037))) (gName 6))
  (tSeq (tAsg (tOp dSub (dVar 6) (tOp dMul (tOp dDivW (dVar 6) (tOp dPow (tC (.int 2)) (tC (.int 31)))) (tOp dPow (tC (.int 2)) (tC (.int 31))))) (gSub (dVar 1) (tC (.str "stream")) dSetK))
  (tAsg (tIf (dTest (tOp dGt (dVar 5) (tC (.int 0)))) (tOp dMod (tCB dInt (tCons (tOp dDiv (dDG (dVar 1) (tC (.str "stream"))) (tC (.int 64))) tNil)) (dVar 5)) (tC (.int 0))) (gSub (dDG (dVar 1) (tC (.str "values"))) (tOp dIx (dVar 4) (tC (.int 1))) dSetK)))))
  (tIfS (dTest (tOp dEq (tOp dIx (dVar 4) (tC (.int 0))) (tC (.str "say"))))
  (tDrop (dBM dAppend (dDG (dVar 1) (tC (.str "said"))) (tCons (tTup (tCons (tOp dIx (dVar 2) (tC (.int 0))) (tCons (tOp dIx (dVar 2) (tC (.int 1))) (tCons (tOp dIx (dVar 4) (tC (.int 1))) (tCons (tCallS (sp_law_number 3) (fun _ => E0) (tCons (dVar 1) (tCons (dVar 2) (tCons (tOp dIx (dVar 4) (tC (.int 2))) tNil)))) tNil))))) tNil)))
  (tSeq (tAsg (tOp dIx (tOp dIx (dVar 0) (tOp dMod (tCB dInt (tCons (tCallS (sp_law_number 3) (fun _ => E0) (tCons (dVar 1) (tCons (dVar 2) (tCons (tOp dIx (dVar 4) (tC (.int 1))) tNil)))) tNil)) (tCB dLen (tCons (dVar 0) tNil)))) (tC (.int 0))) (gName 7))
  (tSeq (tAsg (tCB dMax2 (tCons (tC (.int 1)) (tCons (tCallS (sp_law_number 3) (fun _ => E0) (tCons (dVar 1) (tCons (dVar 2) (tCons (tOp dIx (dVar 4) (tC (.int 3))) tNil)))) tNil))) (gName 8))
  (tSeq (tDrop (dBM dAppend (dDG (dVar 1) (tC (.str "sent"))) (tCons (tTup (tCons (tOp dAdd2 (tOp dIx (dVar 2) (tC (.int 0))) (dVar 8)) (tCons (dVar 7) (tCons (tOp dIx (dVar 4) (tC (.int 2))) (tCons (tCallS (sp_law_number 3) (fun _ => E0) (tCons (dVar 1) (tCons (dVar 2) (tCons (tOp dIx (dVar 4) (tC (.int 4))) tNil)))) (tCons (tOp dIx (dVar 2) (tC (.int 1))) (tCons (dDG (dVar 1) (tC (.str "count"))) tNil))))))) tNil)))
  (tAsg (tOp dAdd2 (dDG (dVar 1) (tC (.str "count"))) (tC (.int 1))) (gSub (dVar 1) (tC (.str "count")) dSetK))))))))))
def t_law_step (K : PySem.W.Frag) (A : Ads) (E : XK)  : TS :=
  (tSeq (tAsg (tOp dIx (dLcR1 (tCons (tCB dLen (tCons (dVar 0) tNil)) tNil) (gName 9) (dTest (tOp dEq (tOp dIx (tOp dIx (dVar 0) (dVar 9)) (tC (.int 0))) (tOp dIx (dVar 2) (tC (.int 1))))) (dVar 9) [9]) (tC (.int 0))) (gName 3))
  (tSeq (tAsg (dLcT K (tOp dIx (tOp dIx (dVar 0) (dVar 3)) (tC (.int 1))) (dgTup 2 (dgCons (gName 7) (dgCons (gName 8) dgNil))) tYes (dVar 7) [7, 8]) (gName 4))
  (tSeq (tAsg (tDisp [((tC (.str "values")), (tCB (rDictP K) (tCons (dLcR1 (tCons (tCB dLen (tCons (dVar 4) tNil)) tNil) (gName 9) tYes (tTup (tCons (tOp dIx (dVar 4) (dVar 9)) (tCons (tOp dIx (tOp dIx (dVar 1) (tC (.int 0))) (dVar 9)) tNil))) [9]) tNil))), ((tC (.str "stream")), (tOp dIx (dVar 1) (tC (.int 1)))), ((tC (.str "count")), (tOp dIx (dVar 1) (tC (.int 2)))), ((tC (.str "sent")), (tLst tNil)), ((tC (.str "said")), (tLst tNil))]) (gName 5))
  (tSeq (tAsg (dDG2 (tCB (rDictPF K) (tCons (tOp dIx (tOp dIx (dVar 0) (dVar 3)) (tC (.int 2))) tNil)) (tOp dIx (dVar 2) (tC (.int 2))) (tTup tNil)) (gName 6))
  (tSeq (tDrop (tCallS (sp_law_do 4) (fun _ => E0) (tCons (dVar 0) (tCons (dVar 5) (tCons (dVar 2) (tCons (dVar 6) tNil))))))
  (tRet (tTup (tCons (tTup (tCons (tCB dTupleOf (tCons (dLcL K (dVar 4) (gName 7) tYes (dDG (dDG (dVar 5) (tC (.str "values"))) (dVar 7)) [7]) tNil)) (tCons (dDG (dVar 5) (tC (.str "stream"))) (tCons (dDG (dVar 5) (tC (.str "count"))) tNil)))) (tCons (dDG (dVar 5) (tC (.str "sent"))) (tCons (dDG (dVar 5) (tC (.str "said"))) tNil))))))))))
def t_law_run (K : PySem.W.Frag) (A : Ads) (E : XK)  : TS :=
  (tSeq (tAsg tDNewK (gName 3))
  (tSeq (dForR1 (tCons (tCB dLen (tCons (dVar 0) tNil)) tNil) (gName 4)
  (tSeq (tAsg (tOp dAdd2 (tOp dMul (tOp dAdd2 (dVar 4) (tC (.int 1))) (tC (.int 2862933))) (tC (.int 3037))) (gName 5))
  (tAsg (tTup (tCons (tCB dTupleOf (tCons (dLcT K (tOp dIx (tOp dIx (dVar 0) (dVar 4)) (tC (.int 1))) (dgTup 2 (dgCons (gName 11) (dgCons (gName 12) dgNil))) tYes (dVar 12) [11, 12]) tNil)) (tCons (tOp dSub (dVar 5) (tOp dMul (tOp dDivW (dVar 5) (tOp dPow (tC (.int 2)) (tC (.int 31)))) (tOp dPow (tC (.int 2)) (tC (.int 31))))) (tCons (tC (.int 0)) tNil)))) (gSub (dVar 3) (tOp dIx (tOp dIx (dVar 0) (dVar 4)) (tC (.int 0))) dSetK))))
  (tSeq (tAsg (dLcR1 (tCons (tCB dLen (tCons (dVar 1) tNil)) tNil) (gName 4) tYes (tOp dAdd2 (tOp dIx (dVar 1) (dVar 4)) (tTup (tCons (tC (.str "")) (tCons (dVar 4) tNil)))) [4]) (gName 6))
  (tSeq (tAsg (tLst tNil) (gName 7))
  (tSeq (tWhile (dTest (tOp (dNeD K) (dLcL K (dVar 6) (gName 8) (dTest (tOp dLt (tOp dIx (dVar 8) (tC (.int 0))) (dVar 2))) (dVar 8) [8]) (tLst tNil)))
  (tSeq (tAsg (tCB (rBestD PySem.W.minD K) (tCons (dVar 6) tNil)) (gName 8))
  (tSeq (tDrop (dBM (rRemD K) (dVar 6) (tCons (dVar 8) tNil)))
  (tSeq (tAsg (tCallS sp_law_step (fun _ => E0) (tCons (dVar 0) (tCons (dDG (dVar 3) (tOp dIx (dVar 8) (tC (.int 1)))) (tCons (dVar 8) tNil)))) (dgTup 3 (dgCons (gSub (dVar 3) (tOp dIx (dVar 8) (tC (.int 1))) dSetK) (dgCons (gName 9) (dgCons (gName 10) dgNil)))))
  (tSeq (tDrop (dBM dAppend (dVar 7) (tCons (tTup (tCons (dVar 8) (tCons (tCB dTupleOf (tCons (dVar 10) tNil)) tNil))) tNil)))
  (tSeq (tAsg (tOp dAdd2 (dVar 6) (dVar 9)) (gName 6))
  (tIfS (dTest (tOp dGt (tCB dLen (tCons (dVar 7) tNil)) (tC (.int 300))))
  (tRet (tC .non))
  tNext)))))))
  (tRet (tTup (tCons (tCB dTupleOf (tCons (dVar 7) tNil)) (tCons (dVar 3) (tCons (tCB dTupleOf (tCons (tCB (rSortD K) (tCons (dVar 6) tNil)) tNil)) tNil))))))))))
def t_law_due (K : PySem.W.Frag) (A : Ads) (E : XK)  : TS :=
  (tSeq (tIfS (dTest (tOp (dEqD K) (dVar 0) (tLst tNil)))
  (tRet (tC (.str "none")))
  tNext)
  (tSeq (dPar 3 4 (tCons (tCB (rSortedI K) (tCons (dVar 0) tNil)) (tCons (tC (.int 0)) tNil)))
  (tSeq (tWhile (dTest (tOp dLe (tOp dMul (tOp dAdd2 (dVar 4) (tC (.int 1))) (dVar 2)) (tOp dMul (tOp dSub (tCB dLen (tCons (dVar 0) tNil)) (tC (.int 1))) (dVar 1))))
  (tAsg (tOp dAdd2 (dVar 4) (tC (.int 1))) (gName 4)))
  (tRet (tOp dIx (dVar 3) (dVar 4))))))
def t_law_told (K : PySem.W.Frag) (A : Ads) (E : XK)  : TS :=
  (tTryAs K (.ref A.TraceError) 3 (fun W => (tSeq (tIfS (dTest (tOp dEq (dVar 0) (tC (.int 0))))
  (tRet (dMethE A.Ranked "told" (sp_Ranked_told A) (WE W) (dVar 1) tNil))
  tNext)
  (tRet (tIf (dTest (tOp dEq (dVar 0) (tC (.int 1)))) (dMethE A.Ranked "drop" (sp_Ranked_drop A) (WE W) (dVar 1) (tCons (dVar 2) tNil)) (tMakeE A.Ranked (sp_Ranked__init_ A) (WE W) (tCons (tOp dIx (dVar 2) (tC (.int 0))) (tCons (tOp dIx (dVar 2) (tC (.int 1))) tNil))))))) (fun a cls d => (tRet (tCallE (sp_law_word K A) a cls d (tCons (dVar 3) tNil)))) (fun _ _ _ _ => False))
def t_law_all (K : PySem.W.Frag) (A : Ads) (E : XK)  : TS :=
  (tTryAs K (.ref A.TraceError) 3 (fun W => (tRet (tCallS (sp_rank_of_all A) (WE W) (tCons (dVar 0) (tCons (dVar 1) (tCons (dVar 2) tNil)))))) (fun a cls d => (tRet (tCallE (sp_law_word K A) a cls d (tCons (dVar 3) tNil)))) (fun _ _ _ _ => False))
def t_law_right (K : PySem.W.Frag) (A : Ads) (E : XK)  : TS :=
  (tSeq (tAsg (tCallS sp_law_due (fun _ => E0) (tCons (dVar 1) (tCons (dVar 2) (tCons (dVar 3) tNil)))) (gName 4))
  (tSeq (tIfS (tOr (tNot (dTru (tCallS (sp_law_alike K 2) (fun _ => E0) (tCons (tCallS (sp_law_told A) (fun _ => E0) (tCons (tC (.int 0)) (tCons (dVar 0) (tCons (tC .non) tNil)))) (tCons (dVar 4) tNil))))) (tOr (tNot (dTru (tCallS (sp_law_alike K 2) (fun _ => E0) (tCons (tCallS (sp_law_all A) (fun _ => E0) (tCons (dVar 1) (tCons (dVar 2) (tCons (dVar 3) tNil)))) (tCons (dVar 4) tNil))))) (tNot (dTru (tCallS (sp_law_alike K 2) (fun _ => E0) (tCons (tCallS (sp_law_all A) (fun _ => E0) (tCons (tCB dTupleOf (tCons (tCB (rSortedI K) (tCons (dVar 1) tNil)) tNil)) (tCons (dVar 2) (tCons (dVar 3) tNil)))) (tCons (dVar 4) tNil)))))))
  (tRet (tC (.bl false)))
  tNext)
  (tRet (tOp (dEqD K) (dMethE A.Ranked "numbers" (sp_Ranked_numbers A) (fun _ => E0) (dVar 0) tNil) (tCB dTupleOf (tCons (tCB (rSortedI K) (tCons (dVar 1) tNil)) tNil))))))
def t_law_runs (K : PySem.W.Frag) (A : Ads) (E : XK)  : TS :=
  (tSeq (tAsg (tCallS sp_law_model (fun _ => E0) (tCons (dVar 0) (tCons (tC (.int 4)) tNil))) (gName 3))
  (tSeq (tAsg (tCallS sp_law_run (fun _ => E0) (tCons (dVar 3) (tCons (tCallS sp_law_starts (fun _ => E0) (tCons (dVar 0) (tCons (dVar 3) tNil))) (tCons (tOp dAdd2 (tC (.int 4)) (tCallS sp_law_take (fun _ => E0) (tCons (dVar 0) (tCons (tC (.int 25)) tNil)))) tNil)))) (gName 4))
  (tSeq (tIfS (dTest (tOp dIs (dVar 4) (tC .non)))
  (tRet (tC (.bl true)))
  tNext)
  (tSeq (dForL K (tLst (tCons (tC (.str "hit")) (tCons (tC (.str "n")) (tCons (tC (.str "")) tNil)))) (gName 5)
  (tSeq (tAsg (dLcT K (tCallS sp_numbers_said (fun _ => E0) (tCons (tOp dIx (dVar 4) (tC (.int 0))) (tCons (tC (.str "")) (tCons (dVar 5) tNil)))) (dgTup 2 (dgCons (gName 9) (dgCons (gName 10) dgNil))) tYes (dVar 10) [9, 10]) (gName 6))
  (tSeq (dPar 7 8 (tCons (tMakeE A.Ranked (sp_Ranked__init_ A) (fun _ => E0) (tCons (dVar 1) (tCons (dVar 2) tNil))) (tCons (tCB dListOf (tCons (dVar 6) tNil)) tNil)))
  (tSeq (tWhile (dTest (tOp (dNeD K) (dVar 8) (tLst tNil)))
  (tDrop (dMethE A.Ranked "put" (sp_Ranked_put A) (fun _ => E0) (dVar 7) (tCons (dBM dPopAt (dVar 8) (tCons (tCallS sp_law_take (fun _ => E0) (tCons (dVar 0) (tCons (tCB dLen (tCons (dVar 8) tNil)) tNil))) tNil)) tNil))))
  (tIfS (tNot (dTru (tCallS (sp_law_right A) (fun _ => E0) (tCons (dVar 7) (tCons (dVar 6) (tCons (dVar 1) (tCons (dVar 2) tNil)))))))
  (tRet (tC (.bl false)))
  tNext)))))
  (tRet (tC (.bl true)))))))
def t_law (K : PySem.W.Frag) (A : Ads) (E : XK)  : TS :=
  (tSeq (tAsg (tCallS (sp_law_draws K) (fun _ => E0) (tCons (dVar 0) tNil)) (gName 1))
  (tSeq (tAsg (tOp dIx (tLst (tCons (tTup (tCons (tC (.int 1)) (tCons (tC (.int 2)) tNil))) (tCons (tTup (tCons (tC (.int 0)) (tCons (tC (.int 1)) tNil))) (tCons (tTup (tCons (tC (.int 1)) (tCons (tC (.int 1)) tNil))) (tCons (tTup (tCons (tC (.int 9)) (tCons (tC (.int 10)) tNil))) (tCons (tTup (tCons (tC (.int 1)) (tCons (tC (.int 1000)) tNil))) (tCons (tTup (tCons (tC (.int 333)) (tCons (tC (.int 1000)) tNil))) (tCons (tTup (tCons (tC (.int 0)) (tCons (tC (.int 7)) tNil))) tNil)))))))) (tCallS sp_law_take (fun _ => E0) (tCons (dVar 1) (tCons (tC (.int 7)) tNil)))) (dgTup 2 (dgCons (gName 2) (dgCons (gName 3) dgNil))))
  (tSeq (dPar 4 5 (tCons (tMakeE A.Ranked (sp_Ranked__init_ A) (fun _ => E0) (tCons (dVar 2) (tCons (dVar 3) tNil))) (tCons (tLst tNil) tNil)))
  (tSeq (tIfS (tNot (dTru (tCallS (sp_law_right A) (fun _ => E0) (tCons (dVar 4) (tCons (dVar 5) (tCons (dVar 2) (tCons (dVar 3) tNil)))))))
  (tRet (tC (.bl false)))
  tNext)
  (tSeq (tAsg (tOp dIx (tLst (tCons (tC (.int 3)) (tCons (tC (.int 20)) (tCons (tC (.int 1000000)) tNil)))) (tCallS sp_law_take (fun _ => E0) (tCons (dVar 1) (tCons (tC (.int 3)) tNil)))) (gName 6))
  (tSeq (dForR1 (tCons (tOp dAdd2 (tC (.int 10)) (tCallS sp_law_take (fun _ => E0) (tCons (dVar 1) (tCons (tC (.int 40)) tNil)))) tNil) (gName 7)
  (tSeq (tAsg (tOp dSub (tCallS sp_law_take (fun _ => E0) (tCons (dVar 1) (tCons (dVar 6) tNil))) (tOp dDiv (dVar 6) (tC (.int 3)))) (gName 8))
  (tSeq (tIfS (dTest (tOp dLt (tCallS sp_law_take (fun _ => E0) (tCons (dVar 1) (tCons (tC (.int 5)) tNil))) (tC (.int 3))))
  (tSeq (tDrop (dMethE A.Ranked "put" (sp_Ranked_put A) (fun _ => E0) (dVar 4) (tCons (dVar 8) tNil)))
  (tDrop (dBM dAppend (dVar 5) (tCons (dVar 8) tNil))))
  (tSeq (tIfS (tAnd (dTest (tOp (dNeD K) (dVar 5) (tLst tNil))) (dTest (tOp dGt (tCallS sp_law_take (fun _ => E0) (tCons (dVar 1) (tCons (tC (.int 3)) tNil))) (tC (.int 0)))))
  (tAsg (tOp dIx (dVar 5) (tCallS sp_law_take (fun _ => E0) (tCons (dVar 1) (tCons (tCB dLen (tCons (dVar 5) tNil)) tNil)))) (gName 8))
  tNext)
  (tSeq (tIfS (tOr (tNot (dTru (tCallS sp_law_says (fun _ => E0) (tCons (dMethE A.Ranked "has" (sp_Ranked_has A) (fun _ => E0) (dVar 4) (tCons (dVar 8) tNil)) (tCons (tOp dIn (dVar 8) (dVar 5)) tNil))))) (tNot (dTru (tCallS (sp_law_alike K 2) (fun _ => E0) (tCons (tCallS (sp_law_told A) (fun _ => E0) (tCons (tC (.int 1)) (tCons (dVar 4) (tCons (dVar 8) tNil)))) (tCons (tIf (dTest (tOp dIn (dVar 8) (dVar 5))) (tC .non) (tC (.str "none"))) tNil))))))
  (tRet (tC (.bl false)))
  tNext)
  (tIfS (dTest (tOp dIn (dVar 8) (dVar 5)))
  (tDrop (dBM (rRemD K) (dVar 5) (tCons (dVar 8) tNil)))
  tNext))))
  (tIfS (tNot (dTru (tCallS (sp_law_right A) (fun _ => E0) (tCons (dVar 4) (tCons (dVar 5) (tCons (dVar 2) (tCons (dVar 3) tNil)))))))
  (tRet (tC (.bl false)))
  tNext))))
  (tSeq (tWhile (dTest (tOp (dNeD K) (dVar 5) (tLst tNil)))
  (tSeq (tAsg (dBM dPopAt (dVar 5) (tCons (tCallS sp_law_take (fun _ => E0) (tCons (dVar 1) (tCons (tCB dLen (tCons (dVar 5) tNil)) tNil))) tNil)) (gName 8))
  (tSeq (tDrop (dMethE A.Ranked "drop" (sp_Ranked_drop A) (fun _ => E0) (dVar 4) (tCons (dVar 8) tNil)))
  (tIfS (tNot (dTru (tCallS (sp_law_right A) (fun _ => E0) (tCons (dVar 4) (tCons (dVar 5) (tCons (dVar 2) (tCons (dVar 3) tNil)))))))
  (tRet (tC (.bl false)))
  tNext))))
  (tSeq (tAsg (tLst (tCons (tTup (tCons (tC (.int 0)) (tCons (tC (.int 0)) tNil))) (tCons (tTup (tCons (tC (.int 1)) (tCons (tC (.int 0)) tNil))) (tCons (tTup (tCons (tC (.int 2)) (tCons (tC (.int 1)) tNil))) (tCons (tTup (tCons (tUn dNeg (tC (.int 1))) (tCons (tC (.int 2)) tNil))) (tCons (tTup (tCons (tC (.int 1)) (tCons (tC (.int 1001)) tNil))) (tCons (tTup (tCons (tC .non) (tCons (tC (.int 2)) tNil))) (tCons (tTup (tCons (tC (.int 1)) (tCons (tC .non) tNil))) (tCons (tTup (tCons (tC (.bl true)) (tCons (tC (.int 2)) tNil))) (tCons (tTup (tCons (tC (.int 0)) (tCons (tC (.bl true)) tNil))) (tCons (tTup (tCons (tC (.str "1")) (tCons (tC (.int 2)) tNil))) tNil))))))))))) (gName 9))
  (tRet (dAndV (tOp (dEqD K) (dLcL K (dVar 9) (gName 10) (dTest (tOp dNe (tCallS (sp_law_told A) (fun _ => E0) (tCons (tC (.int 2)) (tCons (tC .non) (tCons (dVar 10) tNil)))) (tC (.str "range")))) (dVar 10) [10]) (tLst tNil)) (tCallS (sp_law_runs A) (fun _ => E0) (tCons (dVar 1) (tCons (dVar 2) (tCons (dVar 3) tNil))))))))))))))
theorem upd_self {H : Hp} {a : Addr} {o : HO} (h : H a = some o) : upd H a o = H := by
  funext b
  unfold upd
  split
  · rename_i e; rw [e, h]
  · rfl
theorem r_law_take {K : PySem.W.Frag} {A : Ads} {E : XK} {vs : List V} {H : Hp} {Q : VK} (h : sp_law_take vs H Q E) : t_law_take K A E { nx := fun _ H' => Q .non H', rt := Q } (L2.start ["draws", "bound"] vs) H := by
  obtain ⟨d, ns, b, rfl, hd, hb, k⟩ := h
  unfold t_law_take
  wp_walk using hd, hb
  rcases List.eq_nil_or_concat ns with rfl | ⟨ms, z, rfl⟩
  · have q := k 0 [] (Int.le_refl _) hb
    rw [upd_self hd] at q
    simpa using q
  · have e : ((List.map V.int (ms.concat z)).length : Int) ≠ 0 := by simp; omega
    rw [if_neg e, List.concat_eq_append, ← map_snoc, List.getLast?_concat, List.dropLast_concat]
    exact k _ _ (Int.emod_nonneg _ (by omega)) (Int.emod_lt_of_pos _ hb)
/-- the draws so far -/
def Dr (H : Hp) (a p : Addr) (m : Nat) (σ : L2.St) (H1 : Hp) : Prop := ∃ v2 v3 v4 v5 v6 : Option V, σ = [some (.ref a), some (.ref p), v2, v3, v4, v5, v6] ∧ Same H H1 ∧ ∃ ms : List Int, H1 p = some (.lst (ms.map V.int)) ∧ ms.length ≤ m
theorem int_at {ns : List Int} {i : Nat} {x : V} (hx : (ns.map V.int)[i]? = some x) : ∃ z, ns[i]? = some z ∧ x = V.int z := by
  rw [List.getElem?_map] at hx
  cases e : ns[i]? with
  | none => rw [e] at hx; cases hx
  | some z => rw [e] at hx; exact ⟨z, rfl, (Option.some.inj hx).symm⟩
theorem r_draws_digits {H : Hp} {a p : Addr} {i : Nat} {D : Ends} (hp : H p = none) (hi : i < 63) (nx : ∀ σ H1, Dr H a p (62 * (i + 1)) σ H1 → D.nx σ H1) {n : Int} {v2 v4 v5 v6 : Option V} {H2 : Hp} {ms : List Int} (s : Same H H2) (h2 : H2 p = some (.lst (ms.map V.int))) (hl : ms.length ≤ 62 * i + 2) :
    ForR 0 (60 : Int).toNat (gName 5) (tIfS (dTest (tOp dGt (dVar 3) (tC (.int 0)))) (tSeq (tDrop (dBM dAppend (dVar 1) (tCons (tOp dMod (tCB dInt (tCons (dVar 3) tNil)) (tC (.int 997))) tNil))) (tAsg (tOp dDiv (dVar 3) (tC (.int 997))) (gName 3))) tNext)
      D [some (.ref a), some (.ref p), v2, some (.int n), v4, v5, v6] H2 := by
  refine forR_go (fun j σ H1 => ∃ (n : Int) (v2 v4 v5 v6 : Option V), σ = [some (.ref a), some (.ref p), v2, some (.int n), v4, v5, v6] ∧ Same H H1 ∧ ∃ ms : List Int, H1 p = some (.lst (ms.map V.int)) ∧ ms.length ≤ 62 * i + 2 + j)
    ⟨n, v2, v4, v5, v6, rfl, s, ms, h2, hl⟩ ?_ ?_
  · rintro j σ H1 hj ⟨n, v2, v4, v5, v6, rfl, s, ms, h2, hl⟩
    have hj' : j < 60 := hj
    wp_walk using h2
    refine ite2 (fun _ => ?_) fun _ => ⟨_, _, _, _, _, rfl, s, ms, rfl, by omega⟩
    exact ⟨by rw [List.length_map]; exact sz (by omega), by unfold CDiv; decide, _, _, _, _, _, rfl, same_mut s hp, ms ++ [n % 997], by simp, by simp; omega⟩
  · rintro σ H1 ⟨n, v2, v4, v5, v6, rfl, s, ms, h2, hl⟩
    have e : (60 : Int).toNat = 60 := rfl
    exact nx _ _ ⟨_, _, _, _, _, rfl, s, ms, h2, by rw [e] at hl; omega⟩
theorem r_draws_seeds {H : Hp} {a p : Addr} {D : Ends} (hp : H p = none) (nx : ∀ σ H1, Dr H a p 5000 σ H1 → D.nx σ H1) {n : Int} {v2 v3 v4 v5 : Option V} {H2 : Hp} {ms : List Int} (s : Same H H2) (h2 : H2 p = some (.lst (ms.map V.int))) (hl : ms.length ≤ 62 * 63) :
    ForR 0 (900 : Int).toNat (gName 5) (tSeq (tAsg (tOp dMod (tCB dInt (tCons (tOp dAdd (tOp dMul (dVar 6) (tC (.int 48271))) (tC (.int 69621))) tNil)) (tC (.int 2147483647))) (gName 6)) (tDrop (dBM dAppend (dVar 1) (tCons (tOp dDiv (dVar 6) (tC (.int 5))) tNil))))
      D [some (.ref a), some (.ref p), v2, v3, v4, v5, some (.int n)] H2 := by
  refine forR_go (fun j σ H1 => ∃ (n : Int) (v2 v3 v4 v5 : Option V), σ = [some (.ref a), some (.ref p), v2, v3, v4, v5, some (.int n)] ∧ Same H H1 ∧ ∃ ms : List Int, H1 p = some (.lst (ms.map V.int)) ∧ ms.length ≤ 62 * 63 + j)
    ⟨n, v2, v3, v4, v5, rfl, s, ms, h2, hl⟩ ?_ ?_
  · rintro j σ H1 hj ⟨n, v2, v3, v4, v5, rfl, s, ms, h2, hl⟩
    have hj' : j < 900 := hj
    wp_walk using h2
    exact ⟨.inr (by decide), by unfold CDiv; decide, by rw [List.length_map]; exact sz (by omega), _, _, _, _, _, rfl, same_mut s hp, ms ++ [(n * 48271 + 69621) % 2147483647 / 5], by simp, by simp; omega⟩
  · rintro σ H1 ⟨n, v2, v3, v4, v5, rfl, s, ms, h2, hl⟩
    have e : (900 : Int).toNat = 900 := rfl
    exact nx _ _ ⟨_, _, _, _, _, rfl, s, ms, h2, by rw [e] at hl; omega⟩
theorem r_law_draws {K : PySem.W.Frag} {A : Ads} {E : XK} {vs : List V} {H : Hp} {Q : VK} (h : sp_law_draws K vs H Q E) : t_law_draws K A E { nx := fun _ H' => Q .non H', rt := Q } (L2.start ["script", "draws", "cell", "number", "first", "k", "seed"] vs) H := by
  obtain ⟨a, ns, rfl, hS, hl, k⟩ := h
  unfold t_law_draws
  walk_at "ev"
  refine ⟨Nat.zero_le _, fun p hp => ?_⟩
  have s0 : Same H (upd H p (.lst [])) := same_new hp
  refine forL_go (xs := ns.map V.int) (s0.seq hS) (fun i σ H1 => Dr H a p (62 * i) σ H1)
    ⟨none, none, none, none, none, rfl, s0, [], upd_same, Nat.le_refl _⟩ (fun i σ H1 _ ⟨_, _, _, _, _, _, s, _⟩ => s.seq hS) ?_ ?_
  · rintro i x σ H1 hx ⟨v2, v3, v4, v5, v6, rfl, s, ms, hm, hml⟩
    have hi := (List.getElem?_eq_some_iff.mp hx).1
    rw [List.length_map] at hi
    obtain ⟨z, _, rfl⟩ := int_at hx
    have e0 : (-(2 ^ 62) ≤ (60 : Int) ∧ (60 : Int) < 2 ^ 62) := by decide
    wp_walk using hm, e0
    refine ⟨by unfold CPow; decide, ite2 (fun _ => ?_) fun _ => ?_⟩
    · refine ⟨.inr (by decide), .inr (by decide), by rw [List.length_map]; exact sz (by omega), by unfold CDiv; decide, ?_⟩
      refine ⟨by simp; exact sz (by omega), r_draws_digits (i := i) hp (by omega) (fun σ H1 h => h) (same_mut s hp) (ms := ms ++ [(((if z < 0 then -z else z) * 48271 + 11) % 2147483647 * 69621 + if z < 0 then -z else z) % 2147483629, (((if z < 0 then -z else z) * 48271 + 11) % 2147483647 + (if z < 0 then -z else z) / 7) % 1000003]) (by rw [upd_same]; simp) (by simp; omega)⟩
    · exact r_draws_digits (i := i) hp (by omega) (fun σ H1 h => h) s hm (by omega)
  · rintro σ H1 ⟨v2, v3, v4, v5, v6, rfl, s, ms, hm, hml⟩
    rw [List.length_map] at hml
    have hS1 : SqL K H1 a (ns.map V.int) := s.seq hS
    have e0 : (-(2 ^ 62) ≤ (900 : Int) ∧ (900 : Int) < 2 ^ 62) := by decide
    have last : ∀ σ H1, Dr H a p 5000 σ H1 → tRet (tListRev K (dVar 1)) { nx := fun _ H' => Q .non H', rt := Q } σ H1 := by
      rintro σ H1 ⟨v2, v3, v4, v5, v6, rfl, s, ms, hm, hml⟩
      unfold tListRev
      walk_at "ev"
      refine ⟨p, ms.map V.int, rfl, SqL.of hm, fun q hq => ?_⟩
      rw [← List.map_reverse]
      exact k q _ ms.reverse (s.free hq) (s.trans (same_new hq)) upd_same
    have go : ∀ (n : Int), ForR 0 (900 : Int).toNat (gName 5) (tSeq (tAsg (tOp dMod (tCB dInt (tCons (tOp dAdd (tOp dMul (dVar 6) (tC (.int 48271))) (tC (.int 69621))) tNil)) (tC (.int 2147483647))) (gName 6)) (tDrop (dBM dAppend (dVar 1) (tCons (tOp dDiv (dVar 6) (tC (.int 5))) tNil))))
      { nx := tRet (tListRev K (dVar 1)) { nx := fun _ H' => Q .non H', rt := Q }, rt := Q } [some (.ref a), some (.ref p), v2, v3, v4, v5, some (.int n)] H1 := fun n => r_draws_seeds hp last s hm (by omega)
    walk_at "ev"
    refine ⟨.ref a, (ns.map V.int).length, rfl, .inl ⟨_, hS1, rfl⟩, ?_⟩
    wp_walk using e0
    refine ite2 (fun hn => ?_) fun _ => go 1
    rw [List.length_map] at hn
    cases ns with
    | nil => simp at hn
    | cons z r =>
      refine .inl ⟨a, _, 0, V.int z, rfl, rfl, hS1, atI_nat (j := 0) rfl, ?_⟩
      wp_walk using e0
      exact go _
theorem paired2 {α β : Type} {F G : α → β → Prop} : ∀ {l m : List α} {ds : List β}, Paired F l ds → Paired G m ds → l.length = m.length := fun p q => (paired_len p).trans (paired_len q).symm
theorem seqI {xs : List V} {i : Nat} (h : i < xs.length) {k : V → Prop} (q : k (xs[i]'h)) : atK xs ((0 : Int) + (i : Nat)) k := by
  unfold atK
  have e : atI xs ((0 : Int) + (i : Nat)) = some (xs[i]'h) := by
    rw [Int.zero_add]
    exact atI_nat (List.getElem?_eq_getElem h)
  rw [e]
  exact q
/-- the items alike, one by one -/
theorem r_alike_items {K : PySem.W.Frag} {n : Nat} {H : Hp} {Q : VK} {p q : Addr} {xs ys : List V} {ds : List PyData} (hp : seqAt (H p) (· = xs)) (hq : seqAt (H q) (· = ys)) (hpk : ∀ H', Same H H' → seqAt (H' p) (· = xs)) (hqk : ∀ H', Same H H' → seqAt (H' q) (· = ys))
    (l1 : xs.length ≤ 100000) (px : Paired (Da H n) xs ds) (py : Paired (Da H n) ys ds) (k : ∀ H', Same H H' → Q (.bl true) H') :
    (-2 ^ 62 ≤ (xs.length : Int) ∧ (xs.length : Int) < 2 ^ 62) ∧ LcJ (Itr 0 (xs.length : Int).toNat) (gName 2) (tNot (dTru (tCallS (sp_law_alike K n) (fun _ => E0) (tCons (tOp dIx (dVar 0) (dVar 2)) (tCons (tOp dIx (dVar 1) (dVar 2)) tNil))))) (dVar 2) [2] [some (.ref p), some (.ref q), none] H
      (fun x H1 => 0 ≤ sizeLine ∧ ∀ (r : Addr), H1 r = none → dEqD K x (.ref r) (upd H1 r (.lst [])) Q) := by
  have el : ys.length = xs.length := paired2 py px
  refine ⟨⟨by omega, by omega⟩, lcR_core (n := (xs.length : Int).toNat) (by omega) (fun _ => false) (fun _ _ _ => True) (fun _ _ _ _ _ _ => trivial) ?_ ?_⟩
  · intro i hi H1 s k1 k0 _ h0
    have hi' : i < ys.length := by omega
    walk_at "ev"
    refine seqE (hpk H1 s) (seqI (by omega) ?_)
    refine seqE (hqk H1 s) (seqI hi' ?_)
    obtain ⟨d, hd⟩ : ∃ d, ds[i]? = some d := ⟨ds[i]'(by rw [← paired_len py]; exact hi'), List.getElem?_eq_getElem _⟩
    obtain ⟨x, hx, dx⟩ := pairedAt px hd
    obtain ⟨y, hy, dy⟩ := pairedAt py hd
    rw [List.getElem?_eq_getElem (show i < xs.length by omega)] at hx
    rw [List.getElem?_eq_getElem hi'] at hy
    cases hx
    cases hy
    refine ⟨_, _, d, rfl, dx.same s, dy.same s, fun H' s' => ?_⟩
    walk_at "ev"
    exact h0 rfl H' s'
  · intro D H1 zs hD s hz pr
    have e : zs = [] := by
      have := paired_len pr
      cases zs with
      | nil => rfl
      | cons z zs =>
        rw [List.filter_eq_nil_iff.mpr (fun _ _ => by simp)] at this
        cases this
    subst e
    refine ⟨by show 0 ≤ sizeLine; decide, fun r hr => ?_⟩
    have s2 := same_new (o := .lst []) hr
    exact eqD_same (n := 1) (Da.lst (s2 D _ hz) (Nat.zero_le _) .nil) (Da.lst upd_same (Nat.zero_le _) .nil) (by decide) (k _ (s.trans s2))
theorem r_alike_atom {K : PySem.W.Frag} {A : Ads} {E : XK} {sq : Sp} {x y : V} {d : PyData} {H : Hp} {Q : VK} (hx : AtomD x d) (hy : AtomD y d) (k : Q (.bl true) H) : t_law_alike K A E sq { nx := fun _ H' => Q .non H', rt := Q } (L2.start ["found", "due", "k"] [x, y]) H := by
  unfold t_law_alike
  rcases hy with ⟨rfl, rfl⟩ | ⟨b, rfl, rfl⟩ | ⟨b, rfl, rfl⟩ | ⟨z, rfl, rfl, hz⟩
  · obtain rfl : x = .non := by
      rcases hx with ⟨rfl, _⟩ | ⟨_, _, e⟩ | ⟨_, _, e⟩ | ⟨_, _, e, _⟩ <;> first | rfl | cases e
    wp_walk using is_NoneType_list, kn_NoneType_list, is_NoneType_tuple, kn_NoneType_tuple
    exact k
  · obtain rfl : x = .bl b := by
      rcases hx with ⟨_, e⟩ | ⟨_, rfl, e⟩ | ⟨_, _, e⟩ | ⟨_, _, e, _⟩ <;> first | (cases e; done) | (cases e; rfl)
    wp_walk using is_bool_list, kn_bool_list, is_bool_tuple, kn_bool_tuple, is_bool_bool, kn_bool_bool
    exact k
  · obtain rfl : x = .int b := by
      rcases hx with ⟨_, e⟩ | ⟨_, _, e⟩ | ⟨_, rfl, e⟩ | ⟨_, _, e, _⟩ <;> first | (cases e; done) | (cases e; rfl)
    wp_walk using is_int_list, kn_int_list, is_int_tuple, kn_int_tuple, is_int_bool, kn_int_bool, is_int_int, kn_int_int
    exact k
  · obtain rfl : x = .str z := by
      rcases hx with ⟨_, e⟩ | ⟨_, _, e⟩ | ⟨_, _, e⟩ | ⟨_, rfl, e, _⟩ <;> first | (cases e; done) | (cases e; rfl)
    wp_walk using is_str_list, kn_str_list, is_str_tuple, kn_str_tuple, is_str_bool, kn_str_bool, is_str_int, kn_str_int, is_str_str, kn_str_str
    exact k
theorem r_law_alike0 {K : PySem.W.Frag} {A : Ads} {E : XK} {sq : Sp} {vs : List V} {H : Hp} {Q : VK} (h : sp_law_alike K 0 vs H Q E) : t_law_alike K A E sq { nx := fun _ H' => Q .non H', rt := Q } (L2.start ["found", "due", "k"] vs) H := by
  obtain ⟨x, y, d, rfl, hx, hy, k⟩ := h
  exact r_alike_atom hx hy (k H (Same.refl H))
theorem r_law_alike {K : PySem.W.Frag} {A : Ads} {E : XK} {n : Nat} {vs : List V} {H : Hp} {Q : VK} (h : sp_law_alike K (n + 1) vs H Q E) : t_law_alike K A E (sp_law_alike K n) { nx := fun _ H' => Q .non H', rt := Q } (L2.start ["found", "due", "k"] vs) H := by
  obtain ⟨x, y, d, rfl, hx, hy, k⟩ := h
  unfold t_law_alike
  rcases hy with hy | ⟨b, ys, ds, rfl, rfl, hb, hlb, py⟩ | ⟨b, ys, ds, rfl, rfl, hb, hlb, py⟩
  · have hx : AtomD x d := by
      rcases hx with hx | ⟨_, _, _, _, e, _⟩ | ⟨_, _, _, _, e, _⟩
      · exact hx
      · subst e
        rcases hy with ⟨_, e⟩ | ⟨_, _, e⟩ | ⟨_, _, e⟩ | ⟨_, _, e, _⟩ <;> cases e
      · subst e
        rcases hy with ⟨_, e⟩ | ⟨_, _, e⟩ | ⟨_, _, e⟩ | ⟨_, _, e, _⟩ <;> cases e
    have := r_alike_atom (K := K) (A := A) (E := E) (sq := sp_law_alike K n) hx hy (k H (Same.refl H))
    unfold t_law_alike at this
    exact this
  · obtain ⟨a, xs, rfl, ha, hla, px⟩ : ∃ a xs, x = .ref a ∧ H a = some (.lst xs) ∧ xs.length ≤ 100000 ∧ Paired (Da H n) xs ds := by
      rcases hx with hx | ⟨a, xs, _, rfl, e, h1, h2, h3⟩ | ⟨_, _, _, _, e, _⟩
      · rcases hx with ⟨_, e⟩ | ⟨_, _, e⟩ | ⟨_, _, e⟩ | ⟨_, _, e, _⟩ <;> cases e
      · cases e; exact ⟨a, xs, rfl, h1, h2, h3⟩
      · cases e
    have el : (ys.length : Int) = (xs.length : Int) := by rw [paired2 px py]
    have it := r_alike_items (K := K) (Q := Q) (p := a) (q := b) (xs := xs) (ys := ys) (by rw [ha]; rfl) (by rw [hb]; rfl) (fun H' s => by rw [s a _ ha]; rfl) (fun H' s => by rw [s b _ hb]; rfl) hla px py k
    wp_walk using ha, hb, el, is_list_list, kn_list_list, is_list_tuple, kn_list_tuple
    exact it
  · obtain ⟨a, xs, rfl, ha, hla, px⟩ : ∃ a xs, x = .ref a ∧ H a = some (.tup xs) ∧ xs.length ≤ 100000 ∧ Paired (Da H n) xs ds := by
      rcases hx with hx | ⟨_, _, _, _, e, _⟩ | ⟨a, xs, _, rfl, e, h1, h2, h3⟩
      · rcases hx with ⟨_, e⟩ | ⟨_, _, e⟩ | ⟨_, _, e⟩ | ⟨_, _, e, _⟩ <;> cases e
      · cases e
      · cases e; exact ⟨a, xs, rfl, h1, h2, h3⟩
    have el : (ys.length : Int) = (xs.length : Int) := by rw [paired2 px py]
    have it := r_alike_items (K := K) (Q := Q) (p := a) (q := b) (xs := xs) (ys := ys) (by rw [ha]; rfl) (by rw [hb]; rfl) (fun H' s => by rw [s a _ ha]; rfl) (fun H' s => by rw [s b _ hb]; rfl) hla px py k
    wp_walk using ha, hb, el, is_tuple_list, kn_tuple_list, is_tuple_tuple, kn_tuple_tuple
    exact it
theorem r_law_word {K : PySem.W.Frag} {A : Ads} {E : XK} {ax D : Addr} {vs : List V} {H : Hp} {Q : VK} (h : sp_law_word K A ax (.ref D) none vs H Q E) : t_law_word K A E ax D { nx := fun _ H' => Q .non H', rt := Q } (L2.start ["e", "kinds", "kind"] vs) H := by
  obtain ⟨D', b1, b2, b3, b4, b5, w, rfl, eD, _, _, k1, k2, k3, k4, k5, hw, k⟩ := h
  cases eD
  unfold t_law_word
  have one : ∀ (bs : List Bool) (j : Nat), bs.length = 5 → bs[j]? = some true → (∀ m, m < j → bs[m]? = some false) → bs.filter id = [true] → ∀ (p : Addr) (H1 : Hp), Same H H1 → H1 p = some (.lst (bs.map V.bl)) →
      (∀ H', Same H H' → (["range", "form", "none", "refused", "much"] : List Str)[j]? = some w → Q (.str w) H') → (["range", "form", "none", "refused", "much"] : List Str)[j]? = some w →
      (tSeq (tIfS (dTest (tOp dNe (tCB dLen (tCons (dLcL K (dVar 1) (gName 2) (dTru (dVar 2)) (dVar 2) [2]) tNil)) (tC (.int 1)))) (tRet (tC (.str "many"))) tNext)
        (tRet (tOp dIx (tLst (tCons (tC (.str "range")) (tCons (tC (.str "form")) (tCons (tC (.str "none")) (tCons (tC (.str "refused")) (tCons (tC (.str "much")) tNil)))))) (dBM (rIndex K) (dVar 1) (tCons (tC (.bl true)) tNil)))))
        { nx := fun _ H' => Q .non H', rt := Q } [some (.ref ax), some (.ref p), none] H1 := by
    intro bs j hl hj hb hf p H1 s hp q1 q2
    wp_walk using hp
    refine lcL_core (xs := bs.map V.bl) (SqL.of hp) (by rw [List.length_map, hl]; decide) (fun x => decide (x = .bl true)) (fun x y _ => y = x) (fun _ _ _ _ _ h => h) ?_ ?_
    · intro x hx H2 s2 k1 k0 h1 h0
      obtain ⟨b, _, rfl⟩ := List.mem_map.mp hx
      walk_at "ev"
      cases b with
      | true =>
        walk_at "ev"
        exact h1 (by decide) _ H2 (Same.refl _) rfl
      | false =>
        walk_at "ev"
        exact h0 (by decide) H2 (Same.refl _)
    · intro D2 H2 ys hD s2 hys pr
      have e : (bs.map V.bl).filter (fun x => decide (x = .bl true)) = (bs.filter id).map V.bl := by
        rw [List.filter_map]
        congr 1
        apply List.filter_congr
        intro b _
        cases b <;> rfl
      rw [e, hf] at pr
      have ly : ys.length = 1 := (paired_len pr).symm
      wp_walk using hys, ly
      refine ⟨by show 5 ≤ sizeLine; decide, fun r hr => ?_⟩
      have s3 : Same H1 (upd H2 r (.lst [.str "range", .str "form", .str "none", .str "refused", .str "much"])) := s2.trans (same_new hr)
      have hp3 := s3 p _ hp
      wp_walk using hp3
      refine ⟨p, bs.map V.bl, .bl true, j, .bl true, rfl, rfl, SqL.of hp3, rfl, by simp [flatV], by rw [List.getElem?_map, hj]; rfl, rfl, fun m z' hm hz => ?_, ?_⟩
      · rw [List.getElem?_map, hb m hm] at hz
        cases hz
        rfl
      · have ee : ([V.str "range", .str "form", .str "none", .str "refused", .str "much"] : List V)[j]? = some (.str w) := by
          have := congrArg (Option.map V.str) q2
          rw [← List.getElem?_map] at this
          exact this
        walk_at "ev"
        exact atK_nat ee (q1 _ (s.trans s3) q2)
  refine seq1 ?_
  wide_line using [k1, k2, k3, k4, k5]
  simp only [List.mem_cons, Prod.mk.injEq, List.not_mem_nil, or_false] at hw
  refine ⟨by show 5 ≤ sizeLine; decide, fun p hp => ?_⟩
  have s := same_new (o := .lst [.bl b1, .bl b2, .bl b3, .bl b4, .bl b5]) hp
  have few : ∀ (bs : List Bool) (j : Nat), bs[j]? = some true → (∀ m, m < j → bs[m]? = some false) → True := fun _ _ _ _ => trivial
  rcases hw with ⟨rfl, rfl, rfl, rfl, rfl, rfl⟩ | ⟨rfl, rfl, rfl, rfl, rfl, rfl⟩ | ⟨rfl, rfl, rfl, rfl, rfl, rfl⟩ | ⟨rfl, rfl, rfl, rfl, rfl, rfl⟩ | ⟨rfl, rfl, rfl, rfl, rfl, rfl⟩
  · exact one [true, false, false, false, false] 0 rfl rfl (fun m hm => by omega) rfl p _ s upd_same (fun H' s' _ => k H' s') rfl
  · exact one [false, true, false, false, false] 1 rfl rfl (fun m hm => by match m, hm with | 0, _ => rfl) rfl p _ s upd_same (fun H' s' _ => k H' s') rfl
  · exact one [false, false, true, false, false] 2 rfl rfl (fun m hm => by match m, hm with | 0, _ => rfl | 1, _ => rfl) rfl p _ s upd_same (fun H' s' _ => k H' s') rfl
  · exact one [false, false, false, true, false] 3 rfl rfl (fun m hm => by match m, hm with | 0, _ => rfl | 1, _ => rfl | 2, _ => rfl) rfl p _ s upd_same (fun H' s' _ => k H' s') rfl
  · exact one [false, false, false, false, true] 4 rfl rfl (fun m hm => by match m, hm with | 0, _ => rfl | 1, _ => rfl | 2, _ => rfl | 3, _ => rfl) rfl p _ s upd_same (fun H' s' _ => k H' s') rfl
theorem take_on {H : Hp} {d : Addr} {b : Int} {Q : VK} {E : XK} (h : DrawsAt H d) (hb : 0 < b) (q : ∀ r H', 0 ≤ r → r < b → Keep [d] H H' → DrawsAt H' d → Q (.int r) H') : sp_law_take [.ref d, .int b] H Q E := by
  obtain ⟨ms, hm⟩ := h
  exact ⟨d, ms, b, rfl, hm, hb, fun r ms' r0 r1 => q r _ r0 r1 (keep_up (by simp)) ⟨ms', upd_same⟩⟩
theorem keep_kt {H H' : Hp} {d : Addr} (k : Keep [d] H H') (h : DrawsAt H d) : KT H H' := fun a xs e => by
  obtain ⟨ms, hm⟩ := h
  refine k a _ e ?_
  simp only [List.mem_singleton]
  rintro rfl
  rw [hm] at e
  cases e
theorem ite_or2 {c d : Prop} [Decidable c] [Decidable d] {X Y : Prop} (h1 : X) (h2 : ¬ c → ¬ d → Y) : if c then X else if d then X else Y := by
  by_cases hc : c
  · rw [if_pos hc]; exact h1
  · rw [if_neg hc]
    by_cases hd : d
    · rw [if_pos hd]; exact h1
    · rw [if_neg hd]; exact h2 hc hd
theorem paired_ints {α : Type} {G : α → Int → Prop} : ∀ {js : List α} {ys : List V}, Paired (fun j v => ∃ r, v = V.int r ∧ G j r) js ys → ∃ rs : List Int, ys = rs.map V.int ∧ Paired G js rs
  | _, _, .nil => ⟨[], rfl, .nil⟩
  | _, _, .cons ⟨r, e, g⟩ t => let ⟨rs, e2, p⟩ := paired_ints t; ⟨r :: rs, by rw [e, e2]; rfl, .cons g p⟩
theorem paired_memL {α β : Type} {G : α → β → Prop} {js : List α} {rs : List β} (p : Paired G js rs) {j : α} (h : j ∈ js) : ∃ r ∈ rs, G j r := by
  obtain ⟨i, hi⟩ := List.mem_iff_getElem?.mp h
  obtain ⟨r, h1, h2⟩ := pairedGet p hi
  exact ⟨r, List.mem_of_getElem? h1, h2⟩
theorem paired_memR {α β : Type} {G : α → β → Prop} {js : List α} {rs : List β} (p : Paired G js rs) {r : β} (h : r ∈ rs) : ∃ j ∈ js, G j r := by
  obtain ⟨i, hi⟩ := List.mem_iff_getElem?.mp h
  obtain ⟨j, h1, h2⟩ := pairedAt p hi
  exact ⟨j, List.mem_of_getElem? h1, h2⟩
theorem sum_nonneg : ∀ {rs : List Int}, (∀ x ∈ rs, 0 ≤ x) → 0 ≤ rs.sum
  | [], _ => by simp
  | x :: xs, h => by
    have := sum_nonneg (rs := xs) fun y hy => h y (List.mem_cons_of_mem _ hy)
    have := h x (List.mem_cons_self ..)
    simp
    omega
theorem lcL_draw {K : PySem.W.Frag} {a : Addr} {xs : List V} {g : TG} {tt : TT} {te : TE} {vs : List Nat} {σ : L2.St} {H1 : Hp} {Q : VK} {d : Addr} (hq : H1 a = some (.lst xs)) (na : a ≠ d) (hz : xs.length ≤ 1000000) (h0 : DrawsAt H1 d) (R : V → V → Hp → Prop) (st : ∀ x y H H', KT H H' → R x y H → R x y H')
    (turn : ∀ (i : Nat) (x : V), xs[i]? = some x → ∀ H, Keep [d] H1 H → DrawsAt H d → ∀ (k1 : VK) (k0 : Hp → Prop), (∀ y H', Keep [d] H H' → DrawsAt H' d → R x y H' → k1 y H') → LcTurn g tt te vs σ x H k1 k0)
    (hd : ∀ D H ys, H1 D = none → Keep [d] H1 H → DrawsAt H d → H D = some (.lst ys) → Paired (fun x y => R x y H) xs ys → Q (.ref D) H) : LcL K a g tt te vs σ H1 Q := by
  refine ⟨⟨_, .of hq⟩, fun D hD => ?_⟩
  have nd : d ≠ D := h0.ne hD
  refine lc_list (K := K) (a := a) (xs := xs) (fun i H => Keep [d] H1 H ∧ DrawsAt H d ∧ ∃ ys, H D = some (.lst ys) ∧ ys.length ≤ i ∧ Paired (fun x y => R x y H) (xs.take i) ys) ⟨.same (same_new hD), h0.same (same_new hD), [], upd_same, Nat.le_refl _, .nil⟩ (fun i H _ p => .of (p.1 _ _ hq (by simpa using na))) ?_ ?_
  · rintro i x H hx ⟨kp, dr, ys, hDs, hy, pr⟩
    have hlt := (List.getElem?_eq_some_iff.mp hx).1
    have e1 : xs.take (i + 1) = xs.take i ++ [x] := by rw [List.take_succ, hx]; rfl
    refine turn i x hx H kp dr _ _ (fun y H' kp' dr' r => ?_)
    have hD' : H' D = some (.lst ys) := kp' D _ hDs (by simpa using fun e => nd e.symm)
    have kt2 : KT H' (upd H' D (.lst (ys ++ [y]))) := KT.mut (by rw [hD']; rfl)
    refine ⟨ys, hD', Nat.lt_of_le_of_lt hy (by rw [sizeLine_eq]; omega), ?_, ?_, ys ++ [y], upd_same, by rw [List.length_append]; exact Nat.succ_le_succ hy, ?_⟩
    · exact Keep.new0 (kp.trans kp') hD
    · obtain ⟨ms, hm⟩ := dr'
      exact ⟨ms, by rw [upd_ne nd]; exact hm⟩
    · rw [e1]
      exact paired_app (Paired.mapP pr fun _ _ z => st _ _ _ _ ((keep_kt kp' dr).trans kt2) z) (.cons (st _ _ _ _ kt2 r) .nil)
  · rintro H ⟨kp, dr, ys, hDs, hy, pr⟩
    rw [List.take_length] at pr
    exact hd D H ys hD kp dr hDs pr
theorem atK_n {xs : List V} {i : Int} {v : V} {k : V → Prop} (n : Nat) (e : i = n) (h : xs[n]? = some v) (q : k v) : atK xs i k := by
  subst e
  exact atK_nat h q
theorem upd_here {H : Hp} {p : Addr} {o : HO} (_ : H p = none) : upd H p o p = some o := upd_same
theorem say_at {j : Nat} (h : j < 3) : ∃ w, w ∈ (["hit", "lost", "n"] : List Str) ∧ [V.str "hit", V.str "lost", V.str "n"][j]? = some (.str w) := by
  have : j = 0 ∨ j = 1 ∨ j = 2 := by omega
  rcases this with rfl | rfl | rfl
  · exact ⟨"hit", by simp, rfl⟩
  · exact ⟨"lost", by simp, rfl⟩
  · exact ⟨"n", by simp, rfl⟩
theorem say_w {w : Str} (h : w ∈ (["hit", "lost", "n"] : List Str)) : SayW w := by simpa [SayW] using h
theorem strOk_st : PyData.strOk "set" = true ∧ PyData.strOk "draw" = true ∧ PyData.strOk "if" = true ∧ PyData.strOk "say" = true ∧ PyData.strOk "send" = true := by decide +kernel
theorem say_ok : ∀ s ∈ (["hit", "lost", "n"] : List Str), PyData.strOk s = true := by decide +kernel
theorem r_law_body_gen {K : PySem.W.Frag} {A : Ads} {E : XK} {vs : List V} {H : Hp} {Q : VK} {sq : Sp} {n : Nat} (hsq : ∀ vs H Q E, (∃ m, n = m + 1 ∧ sp_law_body m vs H Q E) → sq vs H Q E) (h : sp_law_body n vs H Q E) : t_law_body K A E sq { nx := fun _ H' => Q .non H', rt := Q } (L2.start ["draws", "names", "kinds", "deep", "found", "turn", "kind"] vs) H := by
  obtain ⟨dr, nl, kl, ns, ks, k, rfl, hkn, hd, hn, nd, ⟨hl, hok⟩, kq⟩ := h
  unfold t_law_body
  have s1 : (0 : Nat) ≤ sizeLine ∧ (3 : Nat) ≤ sizeLine ∧ (4 : Nat) ≤ sizeLine := by rw [sizeLine_eq]; decide
  obtain ⟨o1, o2, o3, o4, o5⟩ := strOk_st
  refine seq1 ?_
  wide_line using [upd_same]
  refine ⟨s1.1, fun fl hfl => ?_⟩
  have k0 : Keep [dr] H (upd H fl (.lst [])) := .same (same_new hfl)
  have d0 := hd.same (same_new (o := .lst []) hfl)
  have q0 : upd H fl (.lst []) fl = some (.lst []) := upd_same
  have nf : dr ≠ fl := hd.ne hfl
  generalize upd H fl (.lst []) = H0 at *
  refine seq1 ?_
  wide_line using [upd_same]
  refine take_on d0 (by decide) fun r0 H1 a0 b0 k1 d1 => ⟨⟨by omega, by omega⟩, ?_⟩
  have q1 := k1 _ _ q0 (by simpa using fun e => nf e.symm)
  refine forR_to (fun i σ H' => Keep [dr] H H' ∧ DrawsAt H' dr ∧ ∃ (z1 z2 : Option V) (xs : List V) (ds : List PyData), σ = [some (.ref dr), some (.ref nl), some (.ref kl), some (.int k), some (.ref fl), z1, z2] ∧ H' fl = some (.lst xs) ∧ xs.length = i ∧ Paired (Tz H' (2 * k + 4)) xs ds ∧ ∀ d ∈ ds, StD ns k d)
    (fun σ H' => Keep [dr] H H' ∧ DrawsAt H' dr ∧ ∃ (z1 z2 : Option V) (xs : List V) (ds : List PyData), σ = [some (.ref dr), some (.ref nl), some (.ref kl), some (.int k), some (.ref fl), z1, z2] ∧ H' fl = some (.lst xs) ∧ xs.length ≤ 3 ∧ Paired (Tz H' (2 * k + 4)) xs ds ∧ ∀ d ∈ ds, StD ns k d)
    ⟨k0.trans k1, d1, none, none, [], [], rfl, q1, rfl, .nil, by simp⟩ ?_ ?_ ?_
  · rintro σ H' ⟨kp, dp, z1, z2, xs, ds, rfl, hx, hxl, pr, hs⟩
    exact ⟨kp, dp, z1, z2, xs, ds, rfl, hx, by omega, pr, hs⟩
  · rintro σ H' ⟨kp, dp, z1, z2, xs, ds, rfl, hx, hxl, pr, hs⟩
    wp_walk using hx
    refine fun p hp => kq _ ds _ (kp.trans (.same (same_new hp))) (dp.same (same_new hp)) (.tup upd_same (by omega) (Paired.mapP pr fun _ _ z => z.kt (.same (same_new hp)))) (by rw [← paired_len pr]; exact hxl) hs
  · rintro N nx hnx i σ H' hi hN ⟨kp, dp, z1, z2, xs, ds, rfl, hx, hxl, pr, hs⟩
    have hnp : H' nl = some (.lst (ns.map V.str)) := kp _ _ hn (by simpa using nd)
    have fin : ∀ (v : V) (d : PyData) (H2 : Hp) (z1 z2 : Option V), Keep [dr] H' H2 → DrawsAt H2 dr → Tz H2 (2 * k + 4) v d → StD ns k d → H2 fl = some (.lst xs) ∧ xs.length < sizeLine ∧ N [some (.ref dr), some (.ref nl), some (.ref kl), some (.int k), some (.ref fl), z1, z2] (upd H2 fl (.lst (xs ++ [v]))) := by
      intro v d H2 z1 z2 k2 d2 hz hd2
      have hx2 := k2 _ _ hx (by simpa using fun e => nf e.symm)
      have ku : KT H2 (upd H2 fl (.lst (xs ++ [v]))) := KT.mut (by rw [hx2]; rfl)
      refine ⟨hx2, by rw [sizeLine_eq]; omega, hN _ _ ⟨(kp.trans k2).new0 hfl, ?_, _, _, xs ++ [v], ds ++ [d], rfl, upd_same, by simp [hxl], paired_app (Paired.mapP pr fun _ _ z => (z.kt (keep_kt k2 dp)).kt ku) (.cons (hz.kt ku) .nil), ?_⟩⟩
      · obtain ⟨ms, hm⟩ := d2
        exact ⟨ms, by rw [upd_ne nf]; exact hm⟩
      · intro x hx
        rcases List.mem_append.mp hx with hx | hx
        · exact hs x hx
        · simp at hx; subst hx; exact hd2
    refine seq1 ?_
    wide_line using [upd_same]
    refine take_on dp (by decide) fun r2 H2 a2 b2 k2 d2 => ?_
    have hx2 := k2 _ _ hx (by simpa using fun e => nf e.symm)
    have hn2 := k2 _ _ hnp (by simpa using nd)
    have kc := k2
    have dc := d2
    have hxc := hx2
    have hnc := hn2
    clear k2 d2 hx2 hn2 kq q1 q0
    try (wide_line using [upd_same])
    refine ite2 (fun hc => ?_) fun hc => ?_
    · refine ⟨s1.1, fun p hp => neD_strs (l := ns) (m := []) (same_new hp _ _ hnc) upd_same (by omega) (by simp) hok (by simp) ?_⟩
      have kc := kc.trans (.same (same_new (o := .lst []) hp))
      have dc := dc.same (same_new (o := .lst []) hp)
      have hxc := same_new (o := .lst []) hp _ _ hxc
      have hnc := same_new (o := .lst []) hp _ _ hnc
      generalize upd _ p (.lst []) = Hd at *
      by_cases hns : ns = []
      · simp only [hns, decide_true, Bool.not_true, Bool.false_eq_true, if_false]
        refine ite2 (fun hc => ?_) fun hc => ?_
        · refine ⟨s1.1, fun p hp => neD_strs (l := ns) (m := []) (same_new hp _ _ hnc) upd_same (by omega) (by simp) hok (by simp) ?_⟩
          have kc := kc.trans (.same (same_new (o := .lst []) hp))
          have dc := dc.same (same_new (o := .lst []) hp)
          have hxc := same_new (o := .lst []) hp _ _ hxc
          have hnc := same_new (o := .lst []) hp _ _ hnc
          generalize upd _ p (.lst []) = Hd at *
          by_cases hns : ns = []
          · simp only [hns, decide_true, Bool.not_true, Bool.false_eq_true, if_false]
            refine ite2 (fun hc => ?_) fun hc => ?_
            · refine ite2 (fun hk => ?_) fun hk => ?_
              · obtain ⟨k', rfl⟩ : ∃ k', k = k' + 1 := ⟨k - 1, by omega⟩
                obtain ⟨m, rfl⟩ : ∃ m, n = m + 1 := ⟨n - 1, by omega⟩
                have ek : ((k' + 1 : Nat) : Int) - 1 = (k' : Int) := by omega
                simp only [hxc]
                refine ⟨dr, nl, ns, 2, rfl, by decide, dc, hnc, nd, ⟨hl, hok⟩, fun ve de Hxve kxve dxve ze xe => ?_⟩
                have kc := kc.trans kxve
                have hxc := kxve _ _ hxc (by simpa using fun e => nf e.symm)
                have hnc := kxve _ _ hnc (by simpa using nd)
                have dpve := dc
                have dc := dxve
                rw [ek]
                refine hsq _ _ _ _ ⟨m, rfl, dr, nl, kl, ns, ks, k', rfl, by omega, dc, hnc, nd, ⟨hl, hok⟩, fun v1 b1 Hy ky dy z1 l1 x1 => ?_⟩
                have kc := kc.trans ky
                have hxc := ky _ _ hxc (by simpa using fun e => nf e.symm)
                have hnc := ky _ _ hnc (by simpa using nd)
                have ze := ze.kt (keep_kt ky dc)
                have dc := dy
                refine hsq _ _ _ _ ⟨m, rfl, dr, nl, kl, ns, ks, k', rfl, by omega, dc, hnc, nd, ⟨hl, hok⟩, fun v2 b2 Hz kz dz z2 l2 x2 => ?_⟩
                have kc := kc.trans kz
                have hxc := kz _ _ hxc (by simpa using fun e => nf e.symm)
                have ze := ze.kt (keep_kt kz dc)
                have z1 := z1.kt (keep_kt kz dc)
                have dc := dz
                refine ⟨s1.2.2, fun q hq => ?_⟩
                obtain ⟨f1, f2, f3⟩ := fin (.ref q) (.tuple [.str "if", de, .tuple b1, .tuple b2]) _ _ _ (kc.trans (.same (same_new hq))) (dc.same (same_new hq)) (.tup upd_same (by simp) (.cons (.str o3) (.cons ((ze.le (by omega)).kt (.same (same_new hq))) (.cons ((z1.le (by omega)).kt (.same (same_new hq))) (.cons ((z2.le (by omega)).kt (.same (same_new hq))) .nil))))) (.inr ⟨_, _, _, rfl, xe, x1, x2, by omega, by omega⟩)
                simp only [f1]
                exact ⟨f2, f3⟩
              · simp only [hxc]
                refine ⟨s1.2.1, fun pw hpw => ?_⟩
                have qw := upd_here (o := .lst [V.str "hit", V.str "lost", V.str "n"]) hpw
                have npw := dc.ne hpw
                have kc := kc.trans (.same (same_new (o := .lst [V.str "hit", V.str "lost", V.str "n"]) hpw))
                have dc := dc.same (same_new (o := .lst [V.str "hit", V.str "lost", V.str "n"]) hpw)
                have hxc := same_new (o := .lst [V.str "hit", V.str "lost", V.str "n"]) hpw _ _ hxc
                have hnc := same_new (o := .lst [V.str "hit", V.str "lost", V.str "n"]) hpw _ _ hnc
                generalize upd _ pw (.lst [V.str "hit", V.str "lost", V.str "n"]) = Hw at *
                refine take_on dc (by decide) fun r5 H6 a6 b6 k6 d6 => ?_
                have qw := k6 _ _ qw (by simpa using fun e => npw e.symm)
                have kc := kc.trans k6
                have hxc := k6 _ _ hxc (by simpa using fun e => nf e.symm)
                have hnc := k6 _ _ hnc (by simpa using nd)
                have dc := d6
                obtain ⟨j, rfl⟩ := Int.eq_ofNat_of_zero_le a6
                obtain ⟨sw, ms, hsw⟩ := say_at (j := j) (by omega)
                simp only [qw, seqAt_lst]
                refine atK_nat hsw ?_
                have sok := say_ok sw ms
                refine ⟨dr, nl, ns, 2, rfl, by decide, dc, hnc, nd, ⟨hl, hok⟩, fun ve de Hxve kxve dxve ze xe => ?_⟩
                have kc := kc.trans kxve
                have hxc := kxve _ _ hxc (by simpa using fun e => nf e.symm)
                have hnc := kxve _ _ hnc (by simpa using nd)
                have dpve := dc
                have dc := dxve
                refine ⟨s1.2.1, fun q hq => ?_⟩
                obtain ⟨f1, f2, f3⟩ := fin (.ref q) (.tuple [.str "say", .str sw, de]) _ _ _ (kc.trans (.same (same_new hq))) (dc.same (same_new hq)) (.tup upd_same (by simp) (.cons (.str o4) (.cons (.str sok) (.cons ((ze.le (by omega)).kt (.same (same_new hq))) .nil)))) (.simple (.inr (.inr (.inl ⟨_, _, say_w ms, rfl, xe⟩))))
                simp only [f1]
                exact ⟨f2, f3⟩
            · simp only [hxc]
              refine ⟨s1.2.1, fun pw hpw => ?_⟩
              have qw := upd_here (o := .lst [V.str "hit", V.str "lost", V.str "n"]) hpw
              have npw := dc.ne hpw
              have kc := kc.trans (.same (same_new (o := .lst [V.str "hit", V.str "lost", V.str "n"]) hpw))
              have dc := dc.same (same_new (o := .lst [V.str "hit", V.str "lost", V.str "n"]) hpw)
              have hxc := same_new (o := .lst [V.str "hit", V.str "lost", V.str "n"]) hpw _ _ hxc
              have hnc := same_new (o := .lst [V.str "hit", V.str "lost", V.str "n"]) hpw _ _ hnc
              generalize upd _ pw (.lst [V.str "hit", V.str "lost", V.str "n"]) = Hw at *
              refine take_on dc (by decide) fun r5 H6 a6 b6 k6 d6 => ?_
              have qw := k6 _ _ qw (by simpa using fun e => npw e.symm)
              have kc := kc.trans k6
              have hxc := k6 _ _ hxc (by simpa using fun e => nf e.symm)
              have hnc := k6 _ _ hnc (by simpa using nd)
              have dc := d6
              obtain ⟨j, rfl⟩ := Int.eq_ofNat_of_zero_le a6
              obtain ⟨sw, ms, hsw⟩ := say_at (j := j) (by omega)
              simp only [qw, seqAt_lst]
              refine atK_nat hsw ?_
              have sok := say_ok sw ms
              refine ⟨dr, nl, ns, 2, rfl, by decide, dc, hnc, nd, ⟨hl, hok⟩, fun ve de Hxve kxve dxve ze xe => ?_⟩
              have kc := kc.trans kxve
              have hxc := kxve _ _ hxc (by simpa using fun e => nf e.symm)
              have hnc := kxve _ _ hnc (by simpa using nd)
              have dpve := dc
              have dc := dxve
              refine ⟨s1.2.1, fun q hq => ?_⟩
              obtain ⟨f1, f2, f3⟩ := fin (.ref q) (.tuple [.str "say", .str sw, de]) _ _ _ (kc.trans (.same (same_new hq))) (dc.same (same_new hq)) (.tup upd_same (by simp) (.cons (.str o4) (.cons (.str sok) (.cons ((ze.le (by omega)).kt (.same (same_new hq))) .nil)))) (.simple (.inr (.inr (.inl ⟨_, _, say_w ms, rfl, xe⟩))))
              simp only [f1]
              exact ⟨f2, f3⟩
          · simp only [hns, decide_false, Bool.not_false, if_true]
            simp only [hxc, hnc, seqAt_lst, List.length_map]
            refine take_on dc (by have := List.length_pos_iff.mpr hns; omega) fun r3 H4 a4 b4 k4 d4 => ?_
            have kc := kc.trans k4
            have hxc := k4 _ _ hxc (by simpa using fun e => nf e.symm)
            have hnc := k4 _ _ hnc (by simpa using nd)
            have dc := d4
            obtain ⟨j, rfl⟩ := Int.eq_ofNat_of_zero_le a4
            have hj : j < ns.length := by omega
            simp only [hnc, seqAt_lst]
            refine atK_nat (v := .str ns[j]) (by rw [List.getElem?_map, List.getElem?_eq_getElem hj]; rfl) ?_
            have mx : ns[j] ∈ ns := List.getElem_mem hj
            refine ⟨dr, nl, ns, 1, rfl, by decide, dc, hnc, nd, ⟨hl, hok⟩, fun ve de Hxve kxve dxve ze xe => ?_⟩
            have kc := kc.trans kxve
            have hxc := kxve _ _ hxc (by simpa using fun e => nf e.symm)
            have hnc := kxve _ _ hnc (by simpa using nd)
            have dpve := dc
            have dc := dxve
            refine ⟨s1.2.1, fun q hq => ?_⟩
            obtain ⟨f1, f2, f3⟩ := fin (.ref q) (.tuple [.str "draw", .str ns[j], de]) _ _ _ (kc.trans (.same (same_new hq))) (dc.same (same_new hq)) (.tup upd_same (by simp) (.cons (.str o2) (.cons (.str (hok _ mx)) (.cons ((ze.le (by omega)).kt (.same (same_new hq))) .nil)))) (.simple (.inr (.inl ⟨_, _, mx, rfl, xe.le (by decide)⟩)))
            simp only [f1]
            exact ⟨f2, f3⟩
        · refine ite2 (fun hc => ?_) fun hc => ?_
          · refine ite2 (fun hk => ?_) fun hk => ?_
            · obtain ⟨k', rfl⟩ : ∃ k', k = k' + 1 := ⟨k - 1, by omega⟩
              obtain ⟨m, rfl⟩ : ∃ m, n = m + 1 := ⟨n - 1, by omega⟩
              have ek : ((k' + 1 : Nat) : Int) - 1 = (k' : Int) := by omega
              simp only [hxc]
              refine ⟨dr, nl, ns, 2, rfl, by decide, dc, hnc, nd, ⟨hl, hok⟩, fun ve de Hxve kxve dxve ze xe => ?_⟩
              have kc := kc.trans kxve
              have hxc := kxve _ _ hxc (by simpa using fun e => nf e.symm)
              have hnc := kxve _ _ hnc (by simpa using nd)
              have dpve := dc
              have dc := dxve
              rw [ek]
              refine hsq _ _ _ _ ⟨m, rfl, dr, nl, kl, ns, ks, k', rfl, by omega, dc, hnc, nd, ⟨hl, hok⟩, fun v1 b1 Hy ky dy z1 l1 x1 => ?_⟩
              have kc := kc.trans ky
              have hxc := ky _ _ hxc (by simpa using fun e => nf e.symm)
              have hnc := ky _ _ hnc (by simpa using nd)
              have ze := ze.kt (keep_kt ky dc)
              have dc := dy
              refine hsq _ _ _ _ ⟨m, rfl, dr, nl, kl, ns, ks, k', rfl, by omega, dc, hnc, nd, ⟨hl, hok⟩, fun v2 b2 Hz kz dz z2 l2 x2 => ?_⟩
              have kc := kc.trans kz
              have hxc := kz _ _ hxc (by simpa using fun e => nf e.symm)
              have ze := ze.kt (keep_kt kz dc)
              have z1 := z1.kt (keep_kt kz dc)
              have dc := dz
              refine ⟨s1.2.2, fun q hq => ?_⟩
              obtain ⟨f1, f2, f3⟩ := fin (.ref q) (.tuple [.str "if", de, .tuple b1, .tuple b2]) _ _ _ (kc.trans (.same (same_new hq))) (dc.same (same_new hq)) (.tup upd_same (by simp) (.cons (.str o3) (.cons ((ze.le (by omega)).kt (.same (same_new hq))) (.cons ((z1.le (by omega)).kt (.same (same_new hq))) (.cons ((z2.le (by omega)).kt (.same (same_new hq))) .nil))))) (.inr ⟨_, _, _, rfl, xe, x1, x2, by omega, by omega⟩)
              simp only [f1]
              exact ⟨f2, f3⟩
            · simp only [hxc]
              refine ⟨s1.2.1, fun pw hpw => ?_⟩
              have qw := upd_here (o := .lst [V.str "hit", V.str "lost", V.str "n"]) hpw
              have npw := dc.ne hpw
              have kc := kc.trans (.same (same_new (o := .lst [V.str "hit", V.str "lost", V.str "n"]) hpw))
              have dc := dc.same (same_new (o := .lst [V.str "hit", V.str "lost", V.str "n"]) hpw)
              have hxc := same_new (o := .lst [V.str "hit", V.str "lost", V.str "n"]) hpw _ _ hxc
              have hnc := same_new (o := .lst [V.str "hit", V.str "lost", V.str "n"]) hpw _ _ hnc
              generalize upd _ pw (.lst [V.str "hit", V.str "lost", V.str "n"]) = Hw at *
              refine take_on dc (by decide) fun r5 H6 a6 b6 k6 d6 => ?_
              have qw := k6 _ _ qw (by simpa using fun e => npw e.symm)
              have kc := kc.trans k6
              have hxc := k6 _ _ hxc (by simpa using fun e => nf e.symm)
              have hnc := k6 _ _ hnc (by simpa using nd)
              have dc := d6
              obtain ⟨j, rfl⟩ := Int.eq_ofNat_of_zero_le a6
              obtain ⟨sw, ms, hsw⟩ := say_at (j := j) (by omega)
              simp only [qw, seqAt_lst]
              refine atK_nat hsw ?_
              have sok := say_ok sw ms
              refine ⟨dr, nl, ns, 2, rfl, by decide, dc, hnc, nd, ⟨hl, hok⟩, fun ve de Hxve kxve dxve ze xe => ?_⟩
              have kc := kc.trans kxve
              have hxc := kxve _ _ hxc (by simpa using fun e => nf e.symm)
              have hnc := kxve _ _ hnc (by simpa using nd)
              have dpve := dc
              have dc := dxve
              refine ⟨s1.2.1, fun q hq => ?_⟩
              obtain ⟨f1, f2, f3⟩ := fin (.ref q) (.tuple [.str "say", .str sw, de]) _ _ _ (kc.trans (.same (same_new hq))) (dc.same (same_new hq)) (.tup upd_same (by simp) (.cons (.str o4) (.cons (.str sok) (.cons ((ze.le (by omega)).kt (.same (same_new hq))) .nil)))) (.simple (.inr (.inr (.inl ⟨_, _, say_w ms, rfl, xe⟩))))
              simp only [f1]
              exact ⟨f2, f3⟩
          · simp only [hxc]
            refine ⟨s1.2.1, fun pw hpw => ?_⟩
            have qw := upd_here (o := .lst [V.str "hit", V.str "lost", V.str "n"]) hpw
            have npw := dc.ne hpw
            have kc := kc.trans (.same (same_new (o := .lst [V.str "hit", V.str "lost", V.str "n"]) hpw))
            have dc := dc.same (same_new (o := .lst [V.str "hit", V.str "lost", V.str "n"]) hpw)
            have hxc := same_new (o := .lst [V.str "hit", V.str "lost", V.str "n"]) hpw _ _ hxc
            have hnc := same_new (o := .lst [V.str "hit", V.str "lost", V.str "n"]) hpw _ _ hnc
            generalize upd _ pw (.lst [V.str "hit", V.str "lost", V.str "n"]) = Hw at *
            refine take_on dc (by decide) fun r5 H6 a6 b6 k6 d6 => ?_
            have qw := k6 _ _ qw (by simpa using fun e => npw e.symm)
            have kc := kc.trans k6
            have hxc := k6 _ _ hxc (by simpa using fun e => nf e.symm)
            have hnc := k6 _ _ hnc (by simpa using nd)
            have dc := d6
            obtain ⟨j, rfl⟩ := Int.eq_ofNat_of_zero_le a6
            obtain ⟨sw, ms, hsw⟩ := say_at (j := j) (by omega)
            simp only [qw, seqAt_lst]
            refine atK_nat hsw ?_
            have sok := say_ok sw ms
            refine ⟨dr, nl, ns, 2, rfl, by decide, dc, hnc, nd, ⟨hl, hok⟩, fun ve de Hxve kxve dxve ze xe => ?_⟩
            have kc := kc.trans kxve
            have hxc := kxve _ _ hxc (by simpa using fun e => nf e.symm)
            have hnc := kxve _ _ hnc (by simpa using nd)
            have dpve := dc
            have dc := dxve
            refine ⟨s1.2.1, fun q hq => ?_⟩
            obtain ⟨f1, f2, f3⟩ := fin (.ref q) (.tuple [.str "say", .str sw, de]) _ _ _ (kc.trans (.same (same_new hq))) (dc.same (same_new hq)) (.tup upd_same (by simp) (.cons (.str o4) (.cons (.str sok) (.cons ((ze.le (by omega)).kt (.same (same_new hq))) .nil)))) (.simple (.inr (.inr (.inl ⟨_, _, say_w ms, rfl, xe⟩))))
            simp only [f1]
            exact ⟨f2, f3⟩
      · simp only [hns, decide_false, Bool.not_false, if_true]
        simp only [hxc, hnc, seqAt_lst, List.length_map]
        refine take_on dc (by have := List.length_pos_iff.mpr hns; omega) fun r3 H4 a4 b4 k4 d4 => ?_
        have kc := kc.trans k4
        have hxc := k4 _ _ hxc (by simpa using fun e => nf e.symm)
        have hnc := k4 _ _ hnc (by simpa using nd)
        have dc := d4
        obtain ⟨j, rfl⟩ := Int.eq_ofNat_of_zero_le a4
        have hj : j < ns.length := by omega
        simp only [hnc, seqAt_lst]
        refine atK_nat (v := .str ns[j]) (by rw [List.getElem?_map, List.getElem?_eq_getElem hj]; rfl) ?_
        have mx : ns[j] ∈ ns := List.getElem_mem hj
        refine ⟨dr, nl, ns, 2, rfl, by decide, dc, hnc, nd, ⟨hl, hok⟩, fun ve de Hxve kxve dxve ze xe => ?_⟩
        have kc := kc.trans kxve
        have hxc := kxve _ _ hxc (by simpa using fun e => nf e.symm)
        have hnc := kxve _ _ hnc (by simpa using nd)
        have dpve := dc
        have dc := dxve
        refine ⟨s1.2.1, fun q hq => ?_⟩
        obtain ⟨f1, f2, f3⟩ := fin (.ref q) (.tuple [.str "set", .str ns[j], de]) _ _ _ (kc.trans (.same (same_new hq))) (dc.same (same_new hq)) (.tup upd_same (by simp) (.cons (.str o1) (.cons (.str (hok _ mx)) (.cons ((ze.le (by omega)).kt (.same (same_new hq))) .nil)))) (.simple (.inl ⟨_, _, mx, rfl, xe.le (by decide)⟩))
        simp only [f1]
        exact ⟨f2, f3⟩
    · refine ite2 (fun hc => ?_) fun hc => ?_
      · refine ⟨s1.1, fun p hp => neD_strs (l := ns) (m := []) (same_new hp _ _ hnc) upd_same (by omega) (by simp) hok (by simp) ?_⟩
        have kc := kc.trans (.same (same_new (o := .lst []) hp))
        have dc := dc.same (same_new (o := .lst []) hp)
        have hxc := same_new (o := .lst []) hp _ _ hxc
        have hnc := same_new (o := .lst []) hp _ _ hnc
        generalize upd _ p (.lst []) = Hd at *
        by_cases hns : ns = []
        · simp only [hns, decide_true, Bool.not_true, Bool.false_eq_true, if_false]
          refine ite2 (fun hc => ?_) fun hc => ?_
          · refine ite2 (fun hk => ?_) fun hk => ?_
            · obtain ⟨k', rfl⟩ : ∃ k', k = k' + 1 := ⟨k - 1, by omega⟩
              obtain ⟨m, rfl⟩ : ∃ m, n = m + 1 := ⟨n - 1, by omega⟩
              have ek : ((k' + 1 : Nat) : Int) - 1 = (k' : Int) := by omega
              simp only [hxc]
              refine ⟨dr, nl, ns, 2, rfl, by decide, dc, hnc, nd, ⟨hl, hok⟩, fun ve de Hxve kxve dxve ze xe => ?_⟩
              have kc := kc.trans kxve
              have hxc := kxve _ _ hxc (by simpa using fun e => nf e.symm)
              have hnc := kxve _ _ hnc (by simpa using nd)
              have dpve := dc
              have dc := dxve
              rw [ek]
              refine hsq _ _ _ _ ⟨m, rfl, dr, nl, kl, ns, ks, k', rfl, by omega, dc, hnc, nd, ⟨hl, hok⟩, fun v1 b1 Hy ky dy z1 l1 x1 => ?_⟩
              have kc := kc.trans ky
              have hxc := ky _ _ hxc (by simpa using fun e => nf e.symm)
              have hnc := ky _ _ hnc (by simpa using nd)
              have ze := ze.kt (keep_kt ky dc)
              have dc := dy
              refine hsq _ _ _ _ ⟨m, rfl, dr, nl, kl, ns, ks, k', rfl, by omega, dc, hnc, nd, ⟨hl, hok⟩, fun v2 b2 Hz kz dz z2 l2 x2 => ?_⟩
              have kc := kc.trans kz
              have hxc := kz _ _ hxc (by simpa using fun e => nf e.symm)
              have ze := ze.kt (keep_kt kz dc)
              have z1 := z1.kt (keep_kt kz dc)
              have dc := dz
              refine ⟨s1.2.2, fun q hq => ?_⟩
              obtain ⟨f1, f2, f3⟩ := fin (.ref q) (.tuple [.str "if", de, .tuple b1, .tuple b2]) _ _ _ (kc.trans (.same (same_new hq))) (dc.same (same_new hq)) (.tup upd_same (by simp) (.cons (.str o3) (.cons ((ze.le (by omega)).kt (.same (same_new hq))) (.cons ((z1.le (by omega)).kt (.same (same_new hq))) (.cons ((z2.le (by omega)).kt (.same (same_new hq))) .nil))))) (.inr ⟨_, _, _, rfl, xe, x1, x2, by omega, by omega⟩)
              simp only [f1]
              exact ⟨f2, f3⟩
            · simp only [hxc]
              refine ⟨s1.2.1, fun pw hpw => ?_⟩
              have qw := upd_here (o := .lst [V.str "hit", V.str "lost", V.str "n"]) hpw
              have npw := dc.ne hpw
              have kc := kc.trans (.same (same_new (o := .lst [V.str "hit", V.str "lost", V.str "n"]) hpw))
              have dc := dc.same (same_new (o := .lst [V.str "hit", V.str "lost", V.str "n"]) hpw)
              have hxc := same_new (o := .lst [V.str "hit", V.str "lost", V.str "n"]) hpw _ _ hxc
              have hnc := same_new (o := .lst [V.str "hit", V.str "lost", V.str "n"]) hpw _ _ hnc
              generalize upd _ pw (.lst [V.str "hit", V.str "lost", V.str "n"]) = Hw at *
              refine take_on dc (by decide) fun r5 H6 a6 b6 k6 d6 => ?_
              have qw := k6 _ _ qw (by simpa using fun e => npw e.symm)
              have kc := kc.trans k6
              have hxc := k6 _ _ hxc (by simpa using fun e => nf e.symm)
              have hnc := k6 _ _ hnc (by simpa using nd)
              have dc := d6
              obtain ⟨j, rfl⟩ := Int.eq_ofNat_of_zero_le a6
              obtain ⟨sw, ms, hsw⟩ := say_at (j := j) (by omega)
              simp only [qw, seqAt_lst]
              refine atK_nat hsw ?_
              have sok := say_ok sw ms
              refine ⟨dr, nl, ns, 2, rfl, by decide, dc, hnc, nd, ⟨hl, hok⟩, fun ve de Hxve kxve dxve ze xe => ?_⟩
              have kc := kc.trans kxve
              have hxc := kxve _ _ hxc (by simpa using fun e => nf e.symm)
              have hnc := kxve _ _ hnc (by simpa using nd)
              have dpve := dc
              have dc := dxve
              refine ⟨s1.2.1, fun q hq => ?_⟩
              obtain ⟨f1, f2, f3⟩ := fin (.ref q) (.tuple [.str "say", .str sw, de]) _ _ _ (kc.trans (.same (same_new hq))) (dc.same (same_new hq)) (.tup upd_same (by simp) (.cons (.str o4) (.cons (.str sok) (.cons ((ze.le (by omega)).kt (.same (same_new hq))) .nil)))) (.simple (.inr (.inr (.inl ⟨_, _, say_w ms, rfl, xe⟩))))
              simp only [f1]
              exact ⟨f2, f3⟩
          · simp only [hxc]
            refine ⟨s1.2.1, fun pw hpw => ?_⟩
            have qw := upd_here (o := .lst [V.str "hit", V.str "lost", V.str "n"]) hpw
            have npw := dc.ne hpw
            have kc := kc.trans (.same (same_new (o := .lst [V.str "hit", V.str "lost", V.str "n"]) hpw))
            have dc := dc.same (same_new (o := .lst [V.str "hit", V.str "lost", V.str "n"]) hpw)
            have hxc := same_new (o := .lst [V.str "hit", V.str "lost", V.str "n"]) hpw _ _ hxc
            have hnc := same_new (o := .lst [V.str "hit", V.str "lost", V.str "n"]) hpw _ _ hnc
            generalize upd _ pw (.lst [V.str "hit", V.str "lost", V.str "n"]) = Hw at *
            refine take_on dc (by decide) fun r5 H6 a6 b6 k6 d6 => ?_
            have qw := k6 _ _ qw (by simpa using fun e => npw e.symm)
            have kc := kc.trans k6
            have hxc := k6 _ _ hxc (by simpa using fun e => nf e.symm)
            have hnc := k6 _ _ hnc (by simpa using nd)
            have dc := d6
            obtain ⟨j, rfl⟩ := Int.eq_ofNat_of_zero_le a6
            obtain ⟨sw, ms, hsw⟩ := say_at (j := j) (by omega)
            simp only [qw, seqAt_lst]
            refine atK_nat hsw ?_
            have sok := say_ok sw ms
            refine ⟨dr, nl, ns, 2, rfl, by decide, dc, hnc, nd, ⟨hl, hok⟩, fun ve de Hxve kxve dxve ze xe => ?_⟩
            have kc := kc.trans kxve
            have hxc := kxve _ _ hxc (by simpa using fun e => nf e.symm)
            have hnc := kxve _ _ hnc (by simpa using nd)
            have dpve := dc
            have dc := dxve
            refine ⟨s1.2.1, fun q hq => ?_⟩
            obtain ⟨f1, f2, f3⟩ := fin (.ref q) (.tuple [.str "say", .str sw, de]) _ _ _ (kc.trans (.same (same_new hq))) (dc.same (same_new hq)) (.tup upd_same (by simp) (.cons (.str o4) (.cons (.str sok) (.cons ((ze.le (by omega)).kt (.same (same_new hq))) .nil)))) (.simple (.inr (.inr (.inl ⟨_, _, say_w ms, rfl, xe⟩))))
            simp only [f1]
            exact ⟨f2, f3⟩
        · simp only [hns, decide_false, Bool.not_false, if_true]
          simp only [hxc, hnc, seqAt_lst, List.length_map]
          refine take_on dc (by have := List.length_pos_iff.mpr hns; omega) fun r3 H4 a4 b4 k4 d4 => ?_
          have kc := kc.trans k4
          have hxc := k4 _ _ hxc (by simpa using fun e => nf e.symm)
          have hnc := k4 _ _ hnc (by simpa using nd)
          have dc := d4
          obtain ⟨j, rfl⟩ := Int.eq_ofNat_of_zero_le a4
          have hj : j < ns.length := by omega
          simp only [hnc, seqAt_lst]
          refine atK_nat (v := .str ns[j]) (by rw [List.getElem?_map, List.getElem?_eq_getElem hj]; rfl) ?_
          have mx : ns[j] ∈ ns := List.getElem_mem hj
          refine ⟨dr, nl, ns, 1, rfl, by decide, dc, hnc, nd, ⟨hl, hok⟩, fun ve de Hxve kxve dxve ze xe => ?_⟩
          have kc := kc.trans kxve
          have hxc := kxve _ _ hxc (by simpa using fun e => nf e.symm)
          have hnc := kxve _ _ hnc (by simpa using nd)
          have dpve := dc
          have dc := dxve
          refine ⟨s1.2.1, fun q hq => ?_⟩
          obtain ⟨f1, f2, f3⟩ := fin (.ref q) (.tuple [.str "draw", .str ns[j], de]) _ _ _ (kc.trans (.same (same_new hq))) (dc.same (same_new hq)) (.tup upd_same (by simp) (.cons (.str o2) (.cons (.str (hok _ mx)) (.cons ((ze.le (by omega)).kt (.same (same_new hq))) .nil)))) (.simple (.inr (.inl ⟨_, _, mx, rfl, xe.le (by decide)⟩)))
          simp only [f1]
          exact ⟨f2, f3⟩
      · refine ite2 (fun hc => ?_) fun hc => ?_
        · refine ite2 (fun hk => ?_) fun hk => ?_
          · obtain ⟨k', rfl⟩ : ∃ k', k = k' + 1 := ⟨k - 1, by omega⟩
            obtain ⟨m, rfl⟩ : ∃ m, n = m + 1 := ⟨n - 1, by omega⟩
            have ek : ((k' + 1 : Nat) : Int) - 1 = (k' : Int) := by omega
            simp only [hxc]
            refine ⟨dr, nl, ns, 2, rfl, by decide, dc, hnc, nd, ⟨hl, hok⟩, fun ve de Hxve kxve dxve ze xe => ?_⟩
            have kc := kc.trans kxve
            have hxc := kxve _ _ hxc (by simpa using fun e => nf e.symm)
            have hnc := kxve _ _ hnc (by simpa using nd)
            have dpve := dc
            have dc := dxve
            rw [ek]
            refine hsq _ _ _ _ ⟨m, rfl, dr, nl, kl, ns, ks, k', rfl, by omega, dc, hnc, nd, ⟨hl, hok⟩, fun v1 b1 Hy ky dy z1 l1 x1 => ?_⟩
            have kc := kc.trans ky
            have hxc := ky _ _ hxc (by simpa using fun e => nf e.symm)
            have hnc := ky _ _ hnc (by simpa using nd)
            have ze := ze.kt (keep_kt ky dc)
            have dc := dy
            refine hsq _ _ _ _ ⟨m, rfl, dr, nl, kl, ns, ks, k', rfl, by omega, dc, hnc, nd, ⟨hl, hok⟩, fun v2 b2 Hz kz dz z2 l2 x2 => ?_⟩
            have kc := kc.trans kz
            have hxc := kz _ _ hxc (by simpa using fun e => nf e.symm)
            have ze := ze.kt (keep_kt kz dc)
            have z1 := z1.kt (keep_kt kz dc)
            have dc := dz
            refine ⟨s1.2.2, fun q hq => ?_⟩
            obtain ⟨f1, f2, f3⟩ := fin (.ref q) (.tuple [.str "if", de, .tuple b1, .tuple b2]) _ _ _ (kc.trans (.same (same_new hq))) (dc.same (same_new hq)) (.tup upd_same (by simp) (.cons (.str o3) (.cons ((ze.le (by omega)).kt (.same (same_new hq))) (.cons ((z1.le (by omega)).kt (.same (same_new hq))) (.cons ((z2.le (by omega)).kt (.same (same_new hq))) .nil))))) (.inr ⟨_, _, _, rfl, xe, x1, x2, by omega, by omega⟩)
            simp only [f1]
            exact ⟨f2, f3⟩
          · simp only [hxc]
            refine ⟨s1.2.1, fun pw hpw => ?_⟩
            have qw := upd_here (o := .lst [V.str "hit", V.str "lost", V.str "n"]) hpw
            have npw := dc.ne hpw
            have kc := kc.trans (.same (same_new (o := .lst [V.str "hit", V.str "lost", V.str "n"]) hpw))
            have dc := dc.same (same_new (o := .lst [V.str "hit", V.str "lost", V.str "n"]) hpw)
            have hxc := same_new (o := .lst [V.str "hit", V.str "lost", V.str "n"]) hpw _ _ hxc
            have hnc := same_new (o := .lst [V.str "hit", V.str "lost", V.str "n"]) hpw _ _ hnc
            generalize upd _ pw (.lst [V.str "hit", V.str "lost", V.str "n"]) = Hw at *
            refine take_on dc (by decide) fun r5 H6 a6 b6 k6 d6 => ?_
            have qw := k6 _ _ qw (by simpa using fun e => npw e.symm)
            have kc := kc.trans k6
            have hxc := k6 _ _ hxc (by simpa using fun e => nf e.symm)
            have hnc := k6 _ _ hnc (by simpa using nd)
            have dc := d6
            obtain ⟨j, rfl⟩ := Int.eq_ofNat_of_zero_le a6
            obtain ⟨sw, ms, hsw⟩ := say_at (j := j) (by omega)
            simp only [qw, seqAt_lst]
            refine atK_nat hsw ?_
            have sok := say_ok sw ms
            refine ⟨dr, nl, ns, 2, rfl, by decide, dc, hnc, nd, ⟨hl, hok⟩, fun ve de Hxve kxve dxve ze xe => ?_⟩
            have kc := kc.trans kxve
            have hxc := kxve _ _ hxc (by simpa using fun e => nf e.symm)
            have hnc := kxve _ _ hnc (by simpa using nd)
            have dpve := dc
            have dc := dxve
            refine ⟨s1.2.1, fun q hq => ?_⟩
            obtain ⟨f1, f2, f3⟩ := fin (.ref q) (.tuple [.str "say", .str sw, de]) _ _ _ (kc.trans (.same (same_new hq))) (dc.same (same_new hq)) (.tup upd_same (by simp) (.cons (.str o4) (.cons (.str sok) (.cons ((ze.le (by omega)).kt (.same (same_new hq))) .nil)))) (.simple (.inr (.inr (.inl ⟨_, _, say_w ms, rfl, xe⟩))))
            simp only [f1]
            exact ⟨f2, f3⟩
        · simp only [hxc]
          refine ⟨s1.2.1, fun pw hpw => ?_⟩
          have qw := upd_here (o := .lst [V.str "hit", V.str "lost", V.str "n"]) hpw
          have npw := dc.ne hpw
          have kc := kc.trans (.same (same_new (o := .lst [V.str "hit", V.str "lost", V.str "n"]) hpw))
          have dc := dc.same (same_new (o := .lst [V.str "hit", V.str "lost", V.str "n"]) hpw)
          have hxc := same_new (o := .lst [V.str "hit", V.str "lost", V.str "n"]) hpw _ _ hxc
          have hnc := same_new (o := .lst [V.str "hit", V.str "lost", V.str "n"]) hpw _ _ hnc
          generalize upd _ pw (.lst [V.str "hit", V.str "lost", V.str "n"]) = Hw at *
          refine take_on dc (by decide) fun r5 H6 a6 b6 k6 d6 => ?_
          have qw := k6 _ _ qw (by simpa using fun e => npw e.symm)
          have kc := kc.trans k6
          have hxc := k6 _ _ hxc (by simpa using fun e => nf e.symm)
          have hnc := k6 _ _ hnc (by simpa using nd)
          have dc := d6
          obtain ⟨j, rfl⟩ := Int.eq_ofNat_of_zero_le a6
          obtain ⟨sw, ms, hsw⟩ := say_at (j := j) (by omega)
          simp only [qw, seqAt_lst]
          refine atK_nat hsw ?_
          have sok := say_ok sw ms
          refine ⟨dr, nl, ns, 2, rfl, by decide, dc, hnc, nd, ⟨hl, hok⟩, fun ve de Hxve kxve dxve ze xe => ?_⟩
          have kc := kc.trans kxve
          have hxc := kxve _ _ hxc (by simpa using fun e => nf e.symm)
          have hnc := kxve _ _ hnc (by simpa using nd)
          have dpve := dc
          have dc := dxve
          refine ⟨s1.2.1, fun q hq => ?_⟩
          obtain ⟨f1, f2, f3⟩ := fin (.ref q) (.tuple [.str "say", .str sw, de]) _ _ _ (kc.trans (.same (same_new hq))) (dc.same (same_new hq)) (.tup upd_same (by simp) (.cons (.str o4) (.cons (.str sok) (.cons ((ze.le (by omega)).kt (.same (same_new hq))) .nil)))) (.simple (.inr (.inr (.inl ⟨_, _, say_w ms, rfl, xe⟩))))
          simp only [f1]
          exact ⟨f2, f3⟩
theorem strOk_lit : PyData.strOk "num" = true ∧ PyData.strOk "load" = true ∧ PyData.strOk "now" = true ∧ PyData.strOk "var" = true ∧ PyData.strOk "op" = true ∧ PyData.strOk "mod" = true := by decide +kernel
theorem sign_ok : ∀ s ∈ signs, PyData.strOk s = true := by decide +kernel
theorem r_law_expression_gen {K : PySem.W.Frag} {A : Ads} {E : XK} {vs : List V} {H : Hp} {Q : VK} {sq : Sp} {n : Nat} (hsq : ∀ vs H Q E, (∃ m, n = m + 1 ∧ sp_law_expression m vs H Q E) → sq vs H Q E) (h : sp_law_expression n vs H Q E) : t_law_expression K A E sq { nx := fun _ H' => Q .non H', rt := Q } (L2.start ["draws", "names", "deep", "kind", "rows", "sign", "name"] vs) H := by
  obtain ⟨dr, nl, ns, k, rfl, hkn, hd, hn, nd, ⟨hl, hok⟩, kq⟩ := h
  unfold t_law_expression
  refine seq1 ?_
  wide_line using [upd_same]
  refine take_on hd (by decide) fun r1 H1 a1 b1 k1 d1 => ?_
  have hn1 : H1 nl = some (.lst (ns.map V.str)) := k1 _ _ hn (by simpa using nd)
  have s1 : (1 : Nat) ≤ sizeLine ∧ (2 : Nat) ≤ sizeLine ∧ (4 : Nat) ≤ sizeLine ∧ 6 ≤ sizeLine := by rw [sizeLine_eq]; decide
  obtain ⟨o1, o2, o3, o4, o5, o6⟩ := strOk_lit
  refine seq_to (fun σ H' => σ = [some (.ref dr), some (.ref nl), some (.int k), some (.int r1), none, none, none] ∧ H1 = H' ∧ k ≠ 0) (fun nx hnx => ?_) ?_
  · wide_line using [upd_same]
    refine ite_or2 ?_ fun hk _ => hnx _ _ ⟨rfl, rfl, by omega⟩
    refine seq1 ?_
    wide_line using [upd_same]
    refine take_on d1 (by decide) fun r2 H2 a2 b2 k2 d2 => ⟨s1.2.1, fun p1 hp1 => ?_⟩
    have kA := (k1.trans k2).trans (.same (same_new (o := .tup [V.str "num", V.int r2]) hp1))
    have dA := d2.same (same_new (o := .tup [V.str "num", V.int r2]) hp1)
    have t1 : Tz (upd H2 p1 (.tup [V.str "num", V.int r2])) 1 (.ref p1) (.tuple [.str "num", .int r2]) := .tup upd_same (by simp) (.cons (.str o1) (.cons .int .nil))
    have hnA := same_new (o := .tup [V.str "num", V.int r2]) hp1 _ _ (k2 _ _ hn1 (by simpa using nd))
    generalize upd H2 p1 _ = H3 at *
    refine ⟨s1.1, fun p2 hp2 => ?_⟩
    have sB := same_new (o := .tup [V.str "load"]) hp2
    have t2 : Tz (upd H3 p2 (.tup [V.str "load"])) 1 (.ref p2) (.tuple [.str "load"]) := .tup upd_same (by simp) (.cons (.str o2) .nil)
    have t1 := t1.kt (.same sB)
    have kB := kA.trans (.same sB)
    have dB := dA.same sB
    have hnB := sB _ _ hnA
    generalize upd H3 p2 _ = H4 at *
    refine ⟨s1.1, fun p3 hp3 => ?_⟩
    have sC := same_new (o := .tup [V.str "now"]) hp3
    have t3 : Tz (upd H4 p3 (.tup [V.str "now"])) 1 (.ref p3) (.tuple [.str "now"]) := .tup upd_same (by simp) (.cons (.str o3) .nil)
    have t1 := t1.kt (.same sC)
    have t2 := t2.kt (.same sC)
    have kC := kB.trans (.same sC)
    have kAB := kC
    have dC := dB.same sC
    have hnC := sC _ _ hnB
    generalize upd H4 p3 _ = H5 at *
    have nx2 : ∀ {H6 : Hp}, Keep [dr] H5 H6 → Tz H6 1 (.ref p1) (.tuple [.str "num", .int r2]) ∧ Tz H6 1 (.ref p2) (.tuple [.str "load"]) ∧ Tz H6 1 (.ref p3) (.tuple [.str "now"]) ∧ H6 nl = some (.lst (ns.map V.str)) := fun k => ⟨t1.kt (keep_kt k dC), t2.kt (keep_kt k dC), t3.kt (keep_kt k dC), k _ _ hnC (by simpa using nd)⟩
    clear t1 t2 t3 hnC
    refine take_on dC (by decide) fun r3 H6 a6 b6 k6 d6 => ?_
    refine take_on d6 (by decide) fun r4 H7 a7 b7 k7 d7 => ?_
    refine ⟨s1.2.1, fun p4 hp4 => ?_⟩
    have sD := same_new (o := .lst [V.int r3, V.int (999990 + r4)]) hp4
    have q4 : upd H7 p4 (.lst [V.int r3, V.int (999990 + r4)]) p4 = some (.lst [V.int r3, V.int (999990 + r4)]) := upd_same
    have np4 := d7.ne hp4
    have kD := (k6.trans k7).trans (.same sD)
    have dD := d7.same sD
    generalize upd H7 p4 _ = H8 at *
    refine take_on dD (by decide) fun r5 H9 a9 b9 k9 d9 => ?_
    have q9 := k9 _ _ q4 (by simpa using fun e => np4 e.symm)
    have kE := kD.trans k9
    simp only [q9, seqAt_lst]
    have num : ∃ i : Int, 0 ≤ i ∧ i ≤ 999999 ∧ [V.int r3, V.int (999990 + r4)][r5.toNat]? = some (.int i) := by
      have : r5 = 0 ∨ r5 = 1 := by omega
      rcases this with rfl | rfl
      · exact ⟨r3, by omega, by omega, rfl⟩
      · exact ⟨_, by omega, by omega, rfl⟩
    obtain ⟨i, i0, i1, hi⟩ := num
    obtain ⟨j, rfl⟩ := Int.eq_ofNat_of_zero_le a9
    refine atK_nat hi ?_
    refine ⟨s1.2.1, fun p5 hp5 => ?_⟩
    have sF := same_new (o := .tup [V.str "num", V.int i]) hp5
    have t4 : Tz (upd H9 p5 (.tup [V.str "num", V.int i])) 1 (.ref p5) (.tuple [.str "num", .int i]) := .tup upd_same (by simp) (.cons (.str o1) (.cons .int .nil))
    have kF := kE.trans (.same sF)
    have dF := d9.same sF
    generalize upd H9 p5 _ = H10 at *
    refine ⟨s1.2.2.1, fun p6 hp6 => ?_⟩
    have sG := same_new (o := .lst [V.ref p1, V.ref p2, V.ref p3, V.ref p5]) hp6
    have q6 : upd H10 p6 (.lst [V.ref p1, V.ref p2, V.ref p3, V.ref p5]) p6 = some (.lst [V.ref p1, V.ref p2, V.ref p3, V.ref p5]) := upd_same
    have t4 := t4.kt (.same sG)
    have kG := kF.trans (.same sG)
    have dG := dF.same sG
    have np6 := dF.ne hp6
    generalize upd H10 p6 _ = H11 at *
    obtain ⟨t1, t2, t3, hn11⟩ := nx2 kG
    refine seq1 ?_
    wide_line using [hn11]
    refine lcL_pair (.of hn11) (paired_mapv (f := V.str)) (by rw [List.length_map]; omega) (fun _ => true) (fun x y H' => Tz H' 1 y (.tuple [.str "var", .str x])) (fun _ _ _ _ kt z => z.kt kt) (fun a x y hx hy hF H12 s12 kk1 kk0 h1 _ => ?_) fun D H12 ys hD s12 hDs pr => ?_
    · subst hF
      unfold LcTurn
      wp_walk using upd_same
      refine ⟨s1.2.1, fun q hq => h1 rfl _ _ (same_new hq) (.tup upd_same (by simp) (.cons (.str o4) (.cons (.str (hok _ (List.mem_of_getElem? hy))) .nil)))⟩
    rw [List.filter_eq_self.mpr (fun _ _ => rfl)] at pr
    have hl2 := paired_len pr
    have q12 := s12 _ _ q6
    simp only [q12, hDs]
    refine ⟨by rw [sizeLine_eq]; simp; omega, fun p7 hp7 => ?_⟩
    have sH := same_new (o := .lst ([V.ref p1, V.ref p2, V.ref p3, V.ref p5] ++ ys)) hp7
    have q7 : upd H12 p7 (.lst ([V.ref p1, V.ref p2, V.ref p3, V.ref p5] ++ ys)) p7 = some (.lst ([V.ref p1, V.ref p2, V.ref p3, V.ref p5] ++ ys)) := upd_same
    have kH := (kG.trans (.same s12)).trans (.same sH)
    have dH := (dG.same s12).same sH
    have np7 := (dG.same s12).ne hp7
    have leafs : ∀ v ∈ [V.ref p1, V.ref p2, V.ref p3, V.ref p5] ++ ys, ∃ e, Tz (upd H12 p7 (.lst ([V.ref p1, V.ref p2, V.ref p3, V.ref p5] ++ ys))) 1 v e ∧ LeafD ns e := by
      have ks := KT.same (s12.trans sH)
      intro v hv
      rcases List.mem_append.mp hv with hv | hv
      · simp at hv
        rcases hv with rfl | rfl | rfl | rfl
        · exact ⟨_, t1.kt ks, .inl ⟨r2, rfl, by omega, by omega⟩⟩
        · exact ⟨_, t2.kt ks, .inr (.inl rfl)⟩
        · exact ⟨_, t3.kt ks, .inr (.inr (.inl rfl))⟩
        · exact ⟨_, t4.kt ks, .inl ⟨i, rfl, i0, i1⟩⟩
      · obtain ⟨a, ha⟩ := List.mem_iff_getElem?.mp hv
        obtain ⟨x, hx, z⟩ := pairedAt pr ha
        exact ⟨_, z.kt (.same sH), .inr (.inr (.inr ⟨x, List.mem_of_getElem? hx, rfl⟩))⟩
    have lp : 0 < ([V.ref p1, V.ref p2, V.ref p3, V.ref p5] ++ ys).length := by simp
    generalize [V.ref p1, V.ref p2, V.ref p3, V.ref p5] ++ ys = rows at *
    generalize upd H12 p7 _ = H13 at *
    try (wide_line using [q7])
    refine take_on dH (by omega) fun r6 H14 a14 b14 k14 d14 => ?_
    obtain ⟨j2, rfl⟩ := Int.eq_ofNat_of_zero_le a14
    have hj2 : j2 < rows.length := by omega
    have q14 := k14 _ _ q7 (by simpa using fun e => np7 e.symm)
    simp only [q14, seqAt_lst]
    refine atK_nat (List.getElem?_eq_getElem hj2) ?_
    obtain ⟨e, z, le⟩ := leafs _ (List.getElem_mem hj2)
    exact kq _ e _ ((kAB.trans kH).trans k14) d14 ((z.kt (keep_kt k14 dH)).le (by omega)) (.leaf le)
  · rintro σ H' ⟨rfl, rfl, hk0⟩
    obtain ⟨k', rfl⟩ : ∃ k', k = k' + 1 := ⟨k - 1, by omega⟩
    obtain ⟨m, rfl⟩ : ∃ m, n = m + 1 := ⟨n - 1, by omega⟩
    refine seq1 ?_
    wide_line using [upd_same]
    refine ⟨s1.2.2.2, fun p1 hp1 => ?_⟩
    have sA := same_new (o := .lst [V.str "+", V.str "-", V.str "*", V.str "mod", V.str "<", V.str "=="]) hp1
    have q1 : upd H1 p1 (.lst [V.str "+", V.str "-", V.str "*", V.str "mod", V.str "<", V.str "=="]) p1 = some (.lst (signs.map V.str)) := upd_same
    have d2 := d1.same sA
    have k2 := k1.trans (.same sA)
    have hn2 := sA _ _ hn1
    have np1 := d1.ne hp1
    generalize upd H1 p1 _ = H2 at *
    refine take_on d2 (by decide) fun r2 H3 a2 b2 k3 d3 => ?_
    have q3 := k3 _ _ q1 (by simpa using fun e => np1 e.symm)
    obtain ⟨j, rfl⟩ := Int.eq_ofNat_of_zero_le a2
    have hj : j < signs.length := by show j < 6; omega
    simp only [q3, seqAt_lst]
    refine atK_nat (v := .str signs[j]) (by rw [List.getElem?_map, List.getElem?_eq_getElem hj]; rfl) ?_
    have hn3 := k3 _ _ hn2 (by simpa using nd)
    try (wide_line using [upd_same])
    have ek : ((k' + 1 : Nat) : Int) - 1 = (k' : Int) := by omega
    rw [ek]
    refine hsq _ _ _ _ ⟨m, rfl, dr, nl, ns, k', rfl, by omega, d3, hn3, nd, ⟨hl, hok⟩, fun v1 e1 H4 k4 d4 z1 x1 => ?_⟩
    have hn4 := k4 _ _ hn3 (by simpa using nd)
    refine hsq _ _ _ _ ⟨m, rfl, dr, nl, ns, k', rfl, by omega, d4, hn4, nd, ⟨hl, hok⟩, fun v2 e2 H5 k5 d5 z2 x2 => ?_⟩
    refine ⟨s1.2.2.1, fun p2 hp2 => ?_⟩
    have sB := same_new (o := .tup [V.str "op", V.str signs[j], v1, v2]) hp2
    have ms : signs[j] ∈ signs := List.getElem_mem hj
    refine kq _ (.tuple [.str "op", .str signs[j], e1, e2]) _ ((((k2.trans k3).trans k4).trans k5).trans (.same sB)) (d5.same sB) (.tup upd_same (by simp) (.cons (.str o5) (.cons (.str (sign_ok _ ms)) (.cons ((z1.kt (keep_kt k5 d4)).kt (.same sB)) (.cons (z2.kt (.same sB)) .nil))))) (.inr ⟨_, _, _, ms, rfl, x1, x2⟩)
theorem kind_ok {w : Str} (h : KindW w) : PyData.strOk w = true := by
  rcases h with rfl | rfl | rfl <;> decide +kernel
theorem r_law_send {K : PySem.W.Frag} {A : Ads} {E : XK} {vs : List V} {H : Hp} {Q : VK} (h : sp_law_send vs H Q E) : t_law_send K A E { nx := fun _ H' => Q .non H', rt := Q } (L2.start ["draws", "names", "kinds", "place", "delay"] vs) H := by
  obtain ⟨dr, nl, kl, ns, ks, rfl, hd, hn, nd, okn, hk, kd, ⟨kne, kln, kok⟩, kq⟩ := h
  unfold t_law_send
  have s1 : (1 : Nat) ≤ sizeLine ∧ (2 : Nat) ≤ sizeLine ∧ (4 : Nat) ≤ sizeLine ∧ (5 : Nat) ≤ sizeLine := by rw [sizeLine_eq]; decide
  obtain ⟨o1, o2, o3, o4, o5, o6⟩ := strOk_lit
  obtain ⟨_, _, _, _, os⟩ := strOk_st
  refine seq1 ?_
  wide_line using [upd_same]
  refine ⟨dr, nl, ns, 1, rfl, by decide, hd, hn, nd, okn, fun v1 e1 H1 k1 d1 z1 x1 => ?_⟩
  have kp := k1
  have dp := d1
  have hn' : NsAt H1 nl ns := k1 _ _ hn (by simpa using nd)
  have hk' : NsAt H1 kl ks := k1 _ _ hk (by simpa using kd)
  refine take_on dp (by decide) fun r2 H2 a2 b2 k2 d2 => ?_
  have z1 := z1.kt (keep_kt k2 dp)
  have kp := kp.trans k2
  have hn' : NsAt H2 nl ns := k2 _ _ hn' (by simpa using nd)
  have hk' : NsAt H2 kl ks := k2 _ _ hk' (by simpa using kd)
  have dp := d2
  refine ⟨s1.2.1, fun p1 hp1 => ?_⟩
  have sA := same_new (o := .tup [V.str "num", V.int r2]) hp1
  have t1 : Tz (upd H2 p1 (.tup [V.str "num", V.int r2])) 1 (.ref p1) (.tuple [.str "num", .int r2]) := .tup upd_same (by simp) (.cons (.str o1) (.cons .int .nil))
  have z1 := z1.kt (.same sA)
  have kp := kp.trans (.same sA)
  have hn' : NsAt _ nl ns := sA _ _ hn'
  have hk' : NsAt _ kl ks := sA _ _ hk'
  have dp := dp.same sA
  generalize upd H2 p1 _ = H3 at *
  refine ⟨dr, nl, ns, 1, rfl, by decide, dp, hn', nd, okn, fun v2 e2 H4 k4 d4 z2 x2 => ?_⟩
  have z1 := z1.kt (keep_kt k4 dp)
  have t1 := t1.kt (keep_kt k4 dp)
  have kp := kp.trans k4
  have hn' : NsAt H4 nl ns := k4 _ _ hn' (by simpa using nd)
  have hk' : NsAt H4 kl ks := k4 _ _ hk' (by simpa using kd)
  have dp := d4
  refine ⟨s1.2.1, fun p2 hp2 => ?_⟩
  have sB := same_new (o := .tup [V.str "num", V.int 9]) hp2
  have t2 : Tz (upd H4 p2 (.tup [V.str "num", V.int 9])) 1 (.ref p2) (.tuple [.str "num", .int 9]) := .tup upd_same (by simp) (.cons (.str o1) (.cons .int .nil))
  have z1 := z1.kt (.same sB)
  have z2 := z2.kt (.same sB)
  have t1 := t1.kt (.same sB)
  have kp := kp.trans (.same sB)
  have hn' : NsAt _ nl ns := sB _ _ hn'
  have hk' : NsAt _ kl ks := sB _ _ hk'
  have dp := dp.same sB
  generalize upd H4 p2 _ = H5 at *
  refine ⟨s1.2.2.1, fun p3 hp3 => ?_⟩
  have sC := same_new (o := .tup [V.str "op", V.str "mod", v2, V.ref p2]) hp3
  have t3 : Tz (upd H5 p3 (.tup [V.str "op", V.str "mod", v2, V.ref p2])) 3 (.ref p3) (.tuple [.str "op", .str "mod", e2, .tuple [.str "num", .int 9]]) := .tup upd_same (by simp) (.cons (.str o5) (.cons (.str o6) (.cons (z2.kt (.same sC)) (.cons ((t2.le (by decide)).kt (.same sC)) .nil))))
  have z1 := z1.kt (.same sC)
  have t1 := t1.kt (.same sC)
  have kp := kp.trans (.same sC)
  have hn' : NsAt _ nl ns := sC _ _ hn'
  have hk' : NsAt _ kl ks := sC _ _ hk'
  have dp := dp.same sC
  generalize upd H5 p3 _ = H6 at *
  refine ⟨s1.2.1, fun p4 hp4 => ?_⟩
  have sD := same_new (o := .lst [V.ref p1, V.ref p3]) hp4
  have q4 := upd_here (o := .lst [V.ref p1, V.ref p3]) hp4
  have np4 := dp.ne hp4
  have z1 := z1.kt (.same sD)
  have t1 := t1.kt (.same sD)
  have t3 := t3.kt (.same sD)
  have kp := kp.trans (.same sD)
  have hn' : NsAt _ nl ns := sD _ _ hn'
  have hk' : NsAt _ kl ks := sD _ _ hk'
  have dp := dp.same sD
  generalize upd H6 p4 _ = H7 at *
  refine take_on dp (by decide) fun r5 H8 a8 b8 k8 d8 => ?_
  have q4 := k8 _ _ q4 (by simpa using fun e => np4 e.symm)
  have z1 := z1.kt (keep_kt k8 dp)
  have t1 := t1.kt (keep_kt k8 dp)
  have t3 := t3.kt (keep_kt k8 dp)
  have kp := kp.trans k8
  have hn' : NsAt H8 nl ns := k8 _ _ hn' (by simpa using nd)
  have hk' : NsAt H8 kl ks := k8 _ _ hk' (by simpa using kd)
  have dp := d8
  have del : ∃ v d, [V.ref p1, V.ref p3][r5.toNat]? = some v ∧ Tz H8 3 v d ∧ ExD ns 2 d := by
    have : r5 = 0 ∨ r5 = 1 := by omega
    rcases this with rfl | rfl
    · exact ⟨_, _, rfl, t1.le (by decide), .leaf (.inl ⟨r2, rfl, by omega, by omega⟩)⟩
    · exact ⟨_, _, rfl, t3, .inr ⟨_, _, _, by simp [signs], rfl, x2, .leaf (.inl ⟨9, rfl, by decide, by decide⟩)⟩⟩
  obtain ⟨vd, dd, hvd, td, xd⟩ := del
  obtain ⟨j, rfl⟩ := Int.eq_ofNat_of_zero_le a8
  simp only [q4, seqAt_lst]
  refine atK_nat hvd ?_
  clear t1 t2 t3 z2 q4
  try (wide_line using [hk'])
  have hks : H8 kl = some (.lst (ks.map V.str)) := hk'
  simp only [hks, seqAt_lst, List.length_map]
  refine take_on dp (by have := List.length_pos_iff.mpr kne; omega) fun r6 H9 a9 b9 k9 d9 => ?_
  have z1 := z1.kt (keep_kt k9 dp)
  have td := td.kt (keep_kt k9 dp)
  have kp := kp.trans k9
  have hn' : NsAt H9 nl ns := k9 _ _ hn' (by simpa using nd)
  have hks : H9 kl = some (.lst (ks.map V.str)) := k9 _ _ hks (by simpa using kd)
  have dp := d9
  obtain ⟨j2, rfl⟩ := Int.eq_ofNat_of_zero_le a9
  have hj2 : j2 < ks.length := by omega
  simp only [hks, seqAt_lst]
  refine atK_nat (v := .str ks[j2]) (by rw [List.getElem?_map, List.getElem?_eq_getElem hj2]; rfl) ?_
  have kw := kok _ (List.getElem_mem hj2)
  refine ⟨dr, nl, ns, 2, rfl, by decide, dp, hn', nd, okn, fun v3 e3 H10 k10 d10 z3 x3 => ⟨s1.2.2.2, fun q hq => ?_⟩⟩
  have sE := same_new (o := .tup [V.str "send", v1, V.str ks[j2], vd, v3]) hq
  refine kq _ (.tuple [.str "send", e1, .str ks[j2], dd, e3]) _ ((kp.trans k10).trans (.same sE)) (d10.same sE) (.tup upd_same (by simp) (.cons (.str os) (.cons ?_ (.cons (.str (kind_ok kw)) (.cons ?_ (.cons (z3.kt (.same sE)) .nil)))))) (.inr (.inr (.inr ⟨_, _, _, _, kw, rfl, x1.le (by decide), xd, x3⟩)))
  · exact ((z1.kt (keep_kt k10 dp)).kt (.same sE)).le (by decide)
  · exact (td.kt (keep_kt k10 dp)).kt (.same sE)
theorem r_law_many_gen {K : PySem.W.Frag} {A : Ads} {E : XK} {vs : List V} {H : Hp} {Q : VK} {sq : Sp} {n : Nat} (hsq : ∀ vs H Q E, (∃ m, n = m + 1 ∧ sp_law_many m vs H Q E) → sq vs H Q E) (h : sp_law_many n vs H Q E) (hn : n ≤ 60) : t_law_many K A E sq { nx := fun _ H' => Q .non H', rt := Q } (L2.start ["part", "one"] vs) H := by
  obtain ⟨v, d, rfl, hz, kq⟩ := h
  unfold t_law_many
  have atom : AtomD v d → t_law_many K A E sq { nx := fun _ H' => Q .non H', rt := Q } (L2.start ["part", "one"] [v]) H := by
    intro ha
    unfold t_law_many
    rcases ha with ⟨rfl, _⟩ | ⟨b, rfl, _⟩ | ⟨i, rfl, _⟩ | ⟨x, rfl, _⟩
    all_goals (walk_at "ev"; exact kq 0 H (Same.refl _) (by decide))
  cases n with
  | zero => exact atom hz
  | succ m =>
    rcases hz with hz | ⟨a, xs, ds, rfl, rfl, ha, hl, pr⟩
    · exact atom hz
    · refine seq1 ?_
      wide_line using [ha]
      refine ⟨by rw [sizeLine_eq]; decide, fun p hp => ?_⟩
      have sA := same_new (o := .tup []) hp
      have hz0 : Tz H (m + 1) (.ref a) (.tuple ds) := .inr ⟨a, xs, ds, rfl, rfl, ha, hl, pr⟩
      have da : Da (upd H p (.tup [])) (m + 1) (.ref a) (.tuple ds) := (hz0.kt (.same sA)).da
      refine eqD_da da (.tup (n := m) upd_same (by simp) .nil) (by omega) ?_
      have ha2 := sA _ _ ha
      have pr2 : Paired (Tz (upd H p (.tup [])) m) xs ds := Paired.mapP pr fun _ _ z => z.kt (.same sA)
      generalize upd H p (.tup []) = H2 at *
      cases ds with
      | nil =>
        have e0 : PyData.eqv (.tuple []) (.tuple []) = true := by simp [PyData.eqv, PyData.eqvAll]
        simp only [e0, if_true]
        exact kq 0 _ sA (by decide)
      | cons d0 dr =>
        have e0 : PyData.eqv (.tuple (d0 :: dr)) (.tuple []) = false := by simp [PyData.eqv, PyData.eqvAll]
        simp only [e0, Bool.false_eq_true, if_false]
        have inner : ∀ x ∈ xs, ∃ dx, Tz H2 m x dx := fun x hx => by
          obtain ⟨dx, _, z⟩ := paired_memL pr2 hx
          exact ⟨dx, z⟩
        have tail : ∀ (Q' : VK), (∀ (rs : List Int) D H3, (∀ x ∈ rs, 0 ≤ x) → Same H2 H3 → H3 D = some (.lst (rs.map V.int)) → Q' (.ref D) H3) → LcT K a (gName 1) tYes (tCallS sq (fun x => E0) (tCons (dVar 1) tNil)) [1] [some (V.ref a), none] H2 Q' := by
          intro Q' hq
          refine lcT_core ha2 (by omega) (fun _ => true) (fun x y _ => ∃ i : Int, y = .int i ∧ 0 ≤ i) (fun _ _ _ _ _ h => h) (fun x hx H3 s3 k1 k0 h1 _ => ?_) fun D H3 ys hD s3 hDs pr3 => ?_
          · obtain ⟨dx, zx⟩ := inner x hx
            unfold LcTurn
            wp_walk using upd_same
            exact hsq _ _ _ _ ⟨m, rfl, x, dx, rfl, zx.kt (.same s3), fun i H' s' h0 => h1 rfl _ _ s' ⟨i, rfl, h0⟩⟩
          · rw [List.filter_eq_self.mpr (fun _ _ => rfl)] at pr3
            obtain ⟨rs, rfl, p4⟩ := paired_ints pr3
            refine hq rs D H3 (fun x hx => ?_) s3 hDs
            obtain ⟨_, _, h⟩ := paired_memR p4 hx
            exact h
        cases pr2 with | cons z0 prr =>
        rename_i x0 xr
        simp only [ha2, seqAt_tup, atK_zero]
        have sumq : ∀ (b : Int), 0 ≤ b → ∀ (rs : List Int) D H3, (∀ x ∈ rs, 0 ≤ x) → Same H2 H3 → H3 D = some (.lst (rs.map V.int)) → Q (.int (b + rs.sum)) H3 := fun b hb rs D H3 h0 s3 _ => kq _ _ (sA.trans s3) (by have := sum_nonneg h0; omega)
        have shape : AtomD x0 d0 ∨ ∃ q ys, x0 = .ref q ∧ H2 q = some (.tup ys) := by
          cases m with
          | zero => exact .inl z0
          | succ m' =>
            rcases z0 with h | ⟨q, ys, _, e, _, h, _⟩
            · exact .inl h
            · exact .inr ⟨q, ys, e, h⟩
        rcases shape with (⟨rfl, _⟩ | ⟨b, rfl, _⟩ | ⟨i, rfl, _⟩ | ⟨x, rfl, _⟩) | ⟨q, ys, rfl, hq⟩
        · wp_walk using upd_same
          exact tail _ fun rs D H3 h0 s3 hD => ⟨D, rs, rfl, .of hD, sumq 0 (by decide) rs D H3 h0 s3 hD⟩
        · wp_walk using upd_same
          exact tail _ fun rs D H3 h0 s3 hD => ⟨D, rs, rfl, .of hD, sumq 0 (by decide) rs D H3 h0 s3 hD⟩
        · wp_walk using upd_same
          exact tail _ fun rs D H3 h0 s3 hD => ⟨D, rs, rfl, .of hD, sumq 0 (by decide) rs D H3 h0 s3 hD⟩
        · wp_walk using upd_same
          exact tail _ fun rs D H3 h0 s3 hD => ⟨D, rs, rfl, .of hD, sumq 1 (by decide) rs D H3 h0 s3 hD⟩
        · wp_walk using hq
          exact tail _ fun rs D H3 h0 s3 hD => ⟨D, rs, rfl, .of hD, sumq 0 (by decide) rs D H3 h0 s3 hD⟩
theorem strOk_nm : (∀ x ∈ placeNames, PyData.strOk x = true) ∧ (∀ x ∈ varNames, PyData.strOk x = true) := by decide +kernel
theorem r_law_starts {K : PySem.W.Frag} {A : Ads} {E : XK} {vs : List V} {H : Hp} {Q : VK} (h : sp_law_starts vs H Q E) : t_law_starts K A E { nx := fun _ H' => Q .non H', rt := Q } (L2.start ["draws", "model", "kinds", "found", "k"] vs) H := by
  obtain ⟨dr, mv, ds, rfl, hd, hm, ⟨m0, m5, mp⟩, kq⟩ := h
  unfold t_law_starts
  have s1 : (0 : Nat) ≤ sizeLine ∧ (3 : Nat) ≤ sizeLine ∧ (4 : Nat) ≤ sizeLine := by rw [sizeLine_eq]; decide
  refine seq1 ?_
  wide_line using [upd_same]
  refine ⟨s1.2.1, fun kl hkl => ?_⟩
  have k0 : Keep [dr] H _ := .same (same_new (o := .lst [V.str "go", V.str "up", V.str "via"]) hkl)
  have d0 := hd.same (same_new (o := .lst [V.str "go", V.str "up", V.str "via"]) hkl)
  have q0 := upd_here (o := .lst [V.str "go", V.str "up", V.str "via"]) hkl
  have nk : dr ≠ kl := hd.ne hkl
  have hm0 := hm.kt (KTF.same (same_new (o := .lst [V.str "go", V.str "up", V.str "via"]) hkl))
  generalize upd H kl _ = H0 at *
  refine seq1 ?_
  wide_line using [upd_same]
  refine ⟨s1.1, fun fl hfl => ?_⟩
  have nf : dr ≠ fl := d0.ne hfl
  have nkf : kl ≠ fl := ne_of_none q0 hfl
  have sA := same_new (o := .lst []) hfl
  have hflH : H fl = none := by
    cases e : H fl with
    | none => rfl
    | some o => have := k0 _ _ e (by simpa using fun e => nf e.symm); rw [hfl] at this; cases this
  have k1 := k0.trans (.same sA)
  have d1 := d0.same sA
  have q1 := sA _ _ q0
  have f1 := upd_here (o := .lst []) hfl
  have hm1 := hm0.kt (KTF.same sA)
  generalize upd H0 fl _ = H1 at *
  refine seq1 ?_
  wide_line using [upd_same]
  refine take_on d1 (by decide) fun r0 H2 a0 b0 k2 d2 => ?_
  try (wide_line using [upd_same])
  refine ⟨⟨by omega, by omega⟩, ?_⟩
  refine forR_to (fun i σ H' => Keep [dr] H H' ∧ DrawsAt H' dr ∧ ∃ (z1 : Option V) (xs : List V) (ss : List PyData), σ = [some (.ref dr), some mv, some (.ref kl), some (.ref fl), z1] ∧ H' fl = some (.lst xs) ∧ H' kl = some (.lst [V.str "go", V.str "up", V.str "via"]) ∧ xs.length = i ∧ Paired (Tz H' 1) xs ss ∧ (∀ d ∈ ss, StartD ds d) ∧ MdAt H' mv ds)
    (fun σ H' => Keep [dr] H H' ∧ DrawsAt H' dr ∧ ∃ (z1 : Option V) (xs : List V) (ss : List PyData), σ = [some (.ref dr), some mv, some (.ref kl), some (.ref fl), z1] ∧ H' fl = some (.lst xs) ∧ 0 < xs.length ∧ xs.length ≤ 5 ∧ Paired (Tz H' 1) xs ss ∧ ∀ d ∈ ss, StartD ds d)
    ⟨k1.trans k2, d2, none, [], [], rfl, k2 _ _ f1 (by simpa using fun e => nf e.symm), k2 _ _ q1 (by simpa using fun e => nk e.symm), rfl, .nil, by simp, hm1.kt (keep_ktf k2 d1)⟩ ?_ ?_ ?_
  · rintro σ H' ⟨kp, dp, z1, xs, ss, rfl, hx, _, hxl, pr, hs, _⟩
    exact ⟨kp, dp, z1, xs, ss, rfl, hx, by omega, by omega, pr, hs⟩
  · rintro σ H' ⟨kp, dp, z1, xs, ss, rfl, hx, hx0, hxl, pr, hs⟩
    wp_walk using hx
    have e := paired_len pr
    exact fun p hp => kq _ ss _ (kp.trans (.same (same_new hp))) (dp.same (same_new hp)) (.tup upd_same (by omega) (Paired.mapP pr fun _ _ z => z.kt (.same (same_new hp)))) (by omega) (by omega) hs
  · rintro N nx hnx i σ H' hi hN ⟨kp, dp, z1, xs, ss, rfl, hx, hk, hxl, pr, hs, hmz⟩
    wide_line using [hx]
    refine take_on dp (by decide) fun r1 H3 a1 b1 k3 d3 => ?_
    have kc := k3
    have hx' := k3 _ _ hx (by simpa using fun e => nf e.symm)
    have hk' := k3 _ _ hk (by simpa using fun e => nk e.symm)
    have hz := hmz.kt (keep_ktf k3 dp)
    obtain ⟨ma, ms, rfl, hma, hml, mpr⟩ := hz
    have ml := paired_len mpr
    try (wide_line using [hma])
    try (simp only [hma, seqAt_tup])
    refine take_on d3 (by omega) fun r2 H4 a2 b2 k4 d4 => ?_
    have kc := kc.trans k4
    have hx' := k4 _ _ hx' (by simpa using fun e => nf e.symm)
    have hk' := k4 _ _ hk' (by simpa using fun e => nk e.symm)
    have hma4 := keep_kt k4 d3 _ _ hma
    have mpr := Paired.mapP mpr fun _ _ z => PlAt.kt (keep_ktf k4 d3) z
    obtain ⟨j, rfl⟩ := Int.eq_ofNat_of_zero_le a2
    have hj : j < ms.length := by omega
    obtain ⟨pd, hpd, pz⟩ := pairedGet mpr (List.getElem?_eq_getElem hj)
    obtain ⟨nm, hnm, ns, is, rules, rfl, _⟩ := mp j pd hpd
    obtain ⟨pa, nm', va, vd, ra, ob, rx, rd, e, ed, hpa, _⟩ := pz
    injection ed with ed
    injection ed with ed1 _
    injection ed1 with ed1
    subst ed1
    simp only [hma4, seqAt_tup]
    refine atK_nat (List.getElem?_eq_getElem hj) ?_
    rw [e]
    simp only [hpa, seqAt_tup, atK_zero]
    refine take_on d4 (by decide) fun r3 H5 a5 b5 k5 d5 => ?_
    have kc := kc.trans k5
    have hx' := k5 _ _ hx' (by simpa using fun e => nf e.symm)
    have hk' := k5 _ _ hk' (by simpa using fun e => nk e.symm)
    have kw : ∃ w, KindW w ∧ [V.str "go", V.str "up", V.str "via"][r3.toNat]? = some (.str w) := by
      have : r3 = 0 ∨ r3 = 1 ∨ r3 = 2 := by omega
      rcases this with rfl | rfl | rfl
      · exact ⟨"go", .inl rfl, rfl⟩
      · exact ⟨"up", .inr (.inl rfl), rfl⟩
      · exact ⟨"via", .inr (.inr rfl), rfl⟩
    obtain ⟨w, hw, hwi⟩ := kw
    obtain ⟨j3, rfl⟩ := Int.eq_ofNat_of_zero_le a5
    simp only [hk', seqAt_lst]
    refine atK_nat hwi ?_
    refine take_on d5 (by decide) fun r4 H6 a6 b6 k6 d6 => ⟨s1.2.2, fun p hp => ?_⟩
    have kc := kc.trans k6
    have hx' := k6 _ _ hx' (by simpa using fun e => nf e.symm)
    have hk' := k6 _ _ hk' (by simpa using fun e => nk e.symm)
    have sP := same_new (o := .tup [V.int r1, V.str nm, V.str w, V.int r4]) hp
    have tp : Tz (upd H6 p (.tup [V.int r1, V.str nm, V.str w, V.int r4])) 1 (.ref p) (.tuple [.int r1, .str nm, .str w, .int r4]) := .tup upd_same (by simp) (.cons .int (.cons (.str (strOk_nm.1 _ (List.mem_of_getElem? hnm))) (.cons (.str (kind_ok hw)) (.cons .int .nil))))
    have kc := kc.trans (.same sP)
    have hx' := sP _ _ hx'
    have hk' := sP _ _ hk'
    have d7 := d6.same sP
    generalize upd H6 p _ = H7 at *
    simp only [hx']
    have ku : KT H7 (upd H7 fl (.lst (xs ++ [V.ref p]))) := KT.mut (by rw [hx']; rfl)
    have kall := (keep_kt kc dp).trans ku
    have kallf : KTF H' (upd H7 fl (.lst (xs ++ [V.ref p]))) := (keep_ktf kc dp).trans (KTF.list hx')
    refine ⟨by rw [sizeLine_eq]; omega, hN _ _ ⟨(kp.trans kc).new0 hflH, ?_, _, xs ++ [V.ref p], ss ++ [_], rfl, upd_same, ?_, by simp [hxl], paired_app (Paired.mapP pr fun _ _ z => z.kt kall) (.cons (tp.kt ku) .nil), ?_, hmz.kt kallf⟩⟩
    · obtain ⟨mm, hmm⟩ := d7
      exact ⟨mm, by rw [upd_ne nf]; exact hmm⟩
    · rw [upd_ne nkf]; exact hk'
    · intro d hd
      rcases List.mem_append.mp hd with hd | hd
      · exact hs d hd
      · simp at hd
        subst hd
        exact ⟨r1, r4, nm, w, j, rfl, a1, b1, by omega, hnm, hw, a6, b6⟩
/-- a body that is not yet wrapped; any body -/
def BO9 (H : Hp) (ns : List Str) (m : Nat) (v : V) : Prop := ∃ bs, Tz H 9 v (.tuple bs) ∧ bs.length ≤ m ∧ ∀ s ∈ bs, StD ns 2 s
def BO11 (H : Hp) (ns : List Str) (v : V) : Prop := ∃ bs, Tz H 11 v (.tuple bs) ∧ bs.length ≤ 5 ∧ ∀ s ∈ bs, StD ns 3 s
theorem BO9.kt {H H' : Hp} {ns : List Str} {m : Nat} {v : V} (k : KT H H') (h : BO9 H ns m v) : BO9 H' ns m v := let ⟨bs, z, l, s⟩ := h; ⟨bs, z.kt k, l, s⟩
theorem BO11.kt {H H' : Hp} {ns : List Str} {v : V} (k : KT H H') (h : BO11 H ns v) : BO11 H' ns v := let ⟨bs, z, l, s⟩ := h; ⟨bs, z.kt k, l, s⟩
theorem BO9.up {H : Hp} {ns : List Str} {v : V} (h : BO9 H ns 5 v) : BO11 H ns v := let ⟨bs, z, l, s⟩ := h; ⟨bs, z.le (by decide), by omega, fun x hx => (s x hx).up⟩
/-- + of two tuples -/
theorem add_tups {H : Hp} {a b : Addr} {xs ys : List V} {m n : Nat} {ds es : List PyData} {Q : VK} (ha : H a = some (.tup xs)) (hb : H b = some (.tup ys)) (pa : Paired (Tz H n) xs ds) (pb : Paired (Tz H n) ys es) (hl : xs.length + ys.length ≤ 1000) (q : ∀ v H', Same H H' → Tz H' (n + 1) v (.tuple (ds ++ es)) → Q v H') : dAdd2 (.ref a) (.ref b) H Q := by
  unfold dAdd2
  simp only [ha, hb]
  refine ⟨by rw [sizeLine_eq]; omega, fun e => ?_, fun e1 e2 => ?_, fun e1 e2 p hp => ?_⟩
  · subst e
    cases pa
    exact q _ _ (Same.refl _) (.tup hb (by omega) pb)
  · subst e2
    cases pb
    rw [List.append_nil] at q
    exact q _ _ (Same.refl _) (.tup ha (by omega) pa)
  · refine q _ _ (same_new hp) (.tup upd_same (by rw [List.length_append]; omega) ?_)
    exact paired_app (Paired.mapP pa fun _ _ z => z.kt (.same (same_new hp))) (Paired.mapP pb fun _ _ z => z.kt (.same (same_new hp)))
theorem kinds_at {r : Int} (h0 : 0 ≤ r) (h1 : r < 3) : ∃ ks, OkKs ks ∧ cutV [V.str "go", V.str "up", V.str "via"] none (some (1 + r)) = ks.map V.str := by
  obtain ⟨j, rfl⟩ := Int.eq_ofNat_of_zero_le h0
  have e : (1 + (j : Int)) = ((1 + j : Nat) : Int) := by push_cast; rfl
  rw [e, cutV_to]
  have : j = 0 ∨ j = 1 ∨ j = 2 := by omega
  rcases this with rfl | rfl | rfl
  · exact ⟨["go"], ⟨by simp, by simp, by simp [KindW]⟩, rfl⟩
  · exact ⟨["go", "up"], ⟨by simp, by simp, by simp [KindW]⟩, rfl⟩
  · exact ⟨["go", "up", "via"], ⟨by simp, by simp, by simp [KindW]⟩, rfl⟩
theorem vars_at {r : Int} (h0 : 0 ≤ r) (h1 : r < 4) : ∃ ns : List Str, (∃ r, ns = varNames.take r) ∧ cutV [V.str "a", V.str "b", V.str "c"] none (some r) = ns.map V.str ∧ ns.length ≤ 3 ∧ ∀ x ∈ ns, PyData.strOk x = true := by
  obtain ⟨j, rfl⟩ := Int.eq_ofNat_of_zero_le h0
  rw [cutV_to]
  have : j = 0 ∨ j = 1 ∨ j = 2 ∨ j = 3 := by omega
  have ok : ∀ x ∈ varNames, PyData.strOk x = true := strOk_nm.2
  refine ⟨varNames.take j, ⟨j, rfl⟩, ?_, by simp [varNames]; omega, fun x hx => ok x (List.mem_of_mem_take hx)⟩
  rcases this with rfl | rfl | rfl | rfl <;> rfl
theorem pairD {H : Hp} : ∀ {ns : List Str} {ys : List V}, Paired (fun x y => ∃ nm i, x = V.str nm ∧ 0 ≤ i ∧ i ≤ 999999 ∧ Tz H 1 y (varD nm i)) (ns.map V.str) ys → ∃ is : List Int, is.length = ns.length ∧ (∀ i ∈ is, 0 ≤ i ∧ i ≤ 999999) ∧ Paired (Tz H 1) ys (List.zipWith varD ns is)
  | [], _, .nil => ⟨[], rfl, by simp, .nil⟩
  | n :: ns, _, .cons ⟨nm, i, e, h1, h2, z⟩ t => by
    cases e
    obtain ⟨is, l, h, p⟩ := pairD t
    exact ⟨i :: is, by simp [l], by simpa using ⟨⟨h1, h2⟩, h⟩, .cons z p⟩
theorem mem_varD : ∀ {ns : List Str} {is : List Int} {d : PyData}, d ∈ List.zipWith varD ns is → ∃ nm i, d = .tuple [.str nm, .int i]
  | n :: ns, i :: is, d, h => by
    rcases List.mem_cons.mp h with rfl | h
    · exact ⟨n, i, rfl⟩
    · exact mem_varD h
theorem pair_names {H : Hp} : ∀ {ns : List Str} {is : List Int} {ys zs : List V}, is.length = ns.length → Paired (Tz H 1) ys (List.zipWith varD ns is) → Paired (fun x y => ∃ a b, x = V.ref a ∧ H a = some (.tup [y, b])) ys zs → zs = ns.map V.str
  | [], [], _, _, _, .nil, .nil => rfl
  | n :: ns, i :: is, _, _, hl, .cons z t, .cons ⟨a, b, e, h⟩ t2 => by
    obtain ⟨a2, xs, e2, h2, _, p⟩ := Tz.tuple_inv (ds := [.str n, .int i]) z
    rw [e] at e2
    cases e2
    rw [h] at h2
    cases h2
    cases p with | cons z1 p =>
    rw [Tz.str_inv z1, pair_names (by simpa using hl) t t2]
    rfl
theorem zero_add_c {i : Nat} : (0 : Int) + (i : Int) = (i : Int) := by omega
theorem nm_at {i : Nat} (h : i < 5) : ∃ nm, placeNames[i]? = some nm ∧ [V.str "ash", V.str "bay", V.str "cot", V.str "dip", V.str "elm"][i]? = some (.str nm) := by
  have : i = 0 ∨ i = 1 ∨ i = 2 ∨ i = 3 ∨ i = 4 := by omega
  rcases this with rfl | rfl | rfl | rfl | rfl <;> exact ⟨_, rfl, rfl⟩
theorem add_to {H : Hp} {a b : Addr} {xs ys : List V} {m : Nat} {ds es : List PyData} {R : V → Hp → Prop} (ha : H a = some (.tup xs)) (hb : H b = some (.tup ys)) (pa : Paired (Tz H m) xs ds) (pb : Paired (Tz H m) ys es) (hl : xs.length + ys.length ≤ 1000) (q : ∀ v H', Same H H' → Tz H' (m + 1) v (.tuple (ds ++ es)) → R v H') :
    xs.length + ys.length ≤ sizeLine ∧ (xs = [] → R (.ref b) H) ∧ (¬ xs = [] → ys = [] → R (.ref a) H) ∧ (¬ xs = [] → ¬ ys = [] → ∀ p, H p = none → R (.ref p) (upd H p (.tup (xs ++ ys)))) := by
  refine ⟨by rw [sizeLine_eq]; omega, fun e => ?_, fun e1 e2 => ?_, fun e1 e2 p hp => ?_⟩
  · subst e
    cases pa
    exact q _ _ (Same.refl _) (.tup hb (by omega) pb)
  · subst e2
    cases pb
    rw [List.append_nil] at q
    exact q _ _ (Same.refl _) (.tup ha (by omega) pa)
  · refine q _ _ (same_new hp) (.tup upd_same (by rw [List.length_append]; omega) ?_)
    exact paired_app (Paired.mapP pa fun _ _ z => z.kt (.same (same_new hp))) (Paired.mapP pb fun _ _ z => z.kt (.same (same_new hp)))
theorem early_at {H : Hp} {ns : List Str} {w : Str} {n : Int} {p p2 p3 : Addr} (hw : w = "load" ∨ w = "now") (h0 : 0 ≤ n) (h1 : n ≤ 999999) (hp : H p = none) (hp2 : upd H p (.tup [V.str w]) p2 = none) (hp3 : upd (upd H p (.tup [V.str w])) p2 (.tup [V.str "num", V.int n]) p3 = none) :
    Same H (upd (upd (upd H p (.tup [V.str w])) p2 (.tup [V.str "num", V.int n])) p3 (.tup [V.str "op", V.str "<", V.ref p, V.ref p2])) ∧ ∃ ed, Tz (upd (upd (upd H p (.tup [V.str w])) p2 (.tup [V.str "num", V.int n])) p3 (.tup [V.str "op", V.str "<", V.ref p, V.ref p2])) 2 (.ref p3) ed ∧ ExD ns 2 ed := by
  obtain ⟨o1, o2, o3, o4, o5, o6⟩ := strOk_lit
  have s1 := same_new (o := .tup [V.str w]) hp
  have q1 := upd_here (o := .tup [V.str w]) hp
  generalize upd H p _ = H1 at *
  have s2 := same_new (o := .tup [V.str "num", V.int n]) hp2
  have q2 := upd_here (o := .tup [V.str "num", V.int n]) hp2
  have q1 := s2 _ _ q1
  generalize upd H1 p2 _ = H2 at *
  have s3 := same_new (o := .tup [V.str "op", V.str "<", V.ref p, V.ref p2]) hp3
  have ow : PyData.strOk w = true := by
    rcases hw with rfl | rfl
    · exact o2
    · exact o3
  refine ⟨s1.trans (s2.trans s3), .tuple [.str "op", .str "<", .tuple [.str w], .tuple [.str "num", .int n]], .tup upd_same (by simp) (.cons (.str o5) (.cons (.str (by decide +kernel)) (.cons (.tup (s3 _ _ q1) (by simp) (.cons (.str ow) .nil)) (.cons (.tup (s3 _ _ q2) (by simp) (.cons (.str o1) (.cons .int .nil))) .nil)))), .inr ⟨"<", _, _, by simp [signs], rfl, .leaf ?_, .leaf (.inl ⟨n, rfl, h0, h1⟩)⟩⟩
  rcases hw with rfl | rfl
  · exact .inr (.inl rfl)
  · exact .inr (.inr (.inl rfl))
theorem if_at {H : Hp} {ns : List Str} {e v : V} {ed d : PyData} {p p1 p2 p3 : Addr} (ze : Tz H 2 e ed) (xe : ExD ns 2 ed) (zv : Tz H 4 v d) (sv : SimpleD ns d) (hp : H p = none) (hp1 : upd H p (.tup [v]) p1 = none) (hp2 : upd (upd H p (.tup [v])) p1 (.tup []) p2 = none)
    (hp3 : upd (upd (upd H p (.tup [v])) p1 (.tup [])) p2 (.tup [V.str "if", e, V.ref p, V.ref p1]) p3 = none) :
    Same H (upd (upd (upd (upd H p (.tup [v])) p1 (.tup [])) p2 (.tup [V.str "if", e, V.ref p, V.ref p1])) p3 (.tup [V.ref p2])) ∧ upd (upd (upd (upd H p (.tup [v])) p1 (.tup [])) p2 (.tup [V.str "if", e, V.ref p, V.ref p1])) p3 (.tup [V.ref p2]) p3 = some (.tup [V.ref p2]) ∧
      ∃ sd, Tz (upd (upd (upd (upd H p (.tup [v])) p1 (.tup [])) p2 (.tup [V.str "if", e, V.ref p, V.ref p1])) p3 (.tup [V.ref p2])) 6 (.ref p2) sd ∧ StD ns 2 sd := by
  obtain ⟨_, _, oif, osay, _⟩ := strOk_st
  have s1 := same_new (o := .tup [v]) hp
  have q1 := upd_here (o := .tup [v]) hp
  generalize upd H p _ = H1 at *
  have s2 := same_new (o := .tup []) hp1
  have q2 := upd_here (o := .tup []) hp1
  have q1 := s2 _ _ q1
  generalize upd H1 p1 _ = H2 at *
  have s3 := same_new (o := .tup [V.str "if", e, V.ref p, V.ref p1]) hp2
  have q3 := upd_here (o := .tup [V.str "if", e, V.ref p, V.ref p1]) hp2
  have q1 := s3 _ _ q1
  have q2 := s3 _ _ q2
  generalize upd H2 p2 _ = H3 at *
  have s4 := same_new (o := .tup [V.ref p2]) hp3
  have sa := s1.trans (s2.trans (s3.trans s4))
  refine ⟨sa, upd_same, .tuple [.str "if", ed, .tuple [d], .tuple []], .tup (s4 _ _ q3) (by simp) (.cons (.str oif) (.cons ((ze.kt (.same sa)).le (by decide)) (.cons (.tup (s4 _ _ q1) (by simp) (.cons (zv.kt (.same sa)) .nil)) (.cons (.tup (s4 _ _ q2) (by simp) .nil) .nil)))), .inr ⟨ed, [d], [], rfl, xe, ?_, by simp, by simp, by simp⟩⟩
  intro x hx
  simp at hx
  subst hx
  exact .simple sv
theorem wrap_at {H : Hp} {ns : List Str} {e b : V} {ed : PyData} {p p1 p2 : Addr} (ze : Tz H 2 e ed) (xe : ExD ns 2 ed) (zb : BO9 H ns 5 b) (hp : H p = none) (hp1 : upd H p (.tup []) p1 = none) (hp2 : upd (upd H p (.tup [])) p1 (.tup [V.str "if", e, b, V.ref p]) p2 = none) :
    Same H (upd (upd (upd H p (.tup [])) p1 (.tup [V.str "if", e, b, V.ref p])) p2 (.tup [V.ref p1])) ∧ BO11 (upd (upd (upd H p (.tup [])) p1 (.tup [V.str "if", e, b, V.ref p])) p2 (.tup [V.ref p1])) ns (.ref p2) := by
  obtain ⟨_, _, oif, osay, _⟩ := strOk_st
  obtain ⟨bs, zb, lb, sb⟩ := zb
  have s1 := same_new (o := .tup []) hp
  have q1 := upd_here (o := .tup []) hp
  generalize upd H p _ = H1 at *
  have s2 := same_new (o := .tup [V.str "if", e, b, V.ref p]) hp1
  have q2 := upd_here (o := .tup [V.str "if", e, b, V.ref p]) hp1
  have q1 := s2 _ _ q1
  generalize upd H1 p1 _ = H2 at *
  have s3 := same_new (o := .tup [V.ref p1]) hp2
  have sa := s1.trans (s2.trans s3)
  refine ⟨sa, [.tuple [.str "if", ed, .tuple bs, .tuple []]], .tup upd_same (by simp) (.cons (.tup (n := 9) (s3 _ _ q2) (by simp) (.cons (.str oif) (.cons ((ze.kt (.same sa)).le (by decide)) (.cons (zb.kt (.same sa)) (.cons (Tz.tup (n := 8) (s3 _ _ q1) (by simp) .nil) .nil))))) .nil), by simp, ?_⟩
  intro x hx
  simp at hx
  subst hx
  exact .inr ⟨ed, bs, [], rfl, xe, sb, by simp, by omega, by simp⟩
theorem sayn_at {H : Hp} {ns : List Str} {p p1 p2 : Addr} (hp : H p = none) (hp1 : upd H p (.tup [V.str "num", V.int 1]) p1 = none) (hp2 : upd (upd H p (.tup [V.str "num", V.int 1])) p1 (.tup [V.str "say", V.str "n", V.ref p]) p2 = none) :
    Same H (upd (upd (upd H p (.tup [V.str "num", V.int 1])) p1 (.tup [V.str "say", V.str "n", V.ref p])) p2 (.tup [V.ref p1])) ∧ BO11 (upd (upd (upd H p (.tup [V.str "num", V.int 1])) p1 (.tup [V.str "say", V.str "n", V.ref p])) p2 (.tup [V.ref p1])) ns (.ref p2) := by
  obtain ⟨_, _, oif, osay, _⟩ := strOk_st
  obtain ⟨o1, _⟩ := strOk_lit
  have s1 := same_new (o := .tup [V.str "num", V.int 1]) hp
  have q1 := upd_here (o := .tup [V.str "num", V.int 1]) hp
  generalize upd H p _ = H1 at *
  have s2 := same_new (o := .tup [V.str "say", V.str "n", V.ref p]) hp1
  have q2 := upd_here (o := .tup [V.str "say", V.str "n", V.ref p]) hp1
  have q1 := s2 _ _ q1
  generalize upd H1 p1 _ = H2 at *
  have s3 := same_new (o := .tup [V.ref p1]) hp2
  have sa := s1.trans (s2.trans s3)
  refine ⟨sa, [.tuple [.str "say", .str "n", .tuple [.str "num", .int 1]]], (Tz.tup (n := 2) upd_same (by simp) (.cons (.tup (n := 1) (s3 _ _ q2) (by simp) (.cons (.str osay) (.cons (.str (by decide +kernel)) (.cons (.tup (n := 0) (s3 _ _ q1) (by simp) (.cons (.str o1) (.cons .int .nil))) .nil)))) .nil)).le (by decide), by simp, ?_⟩
  intro x hx
  simp at hx
  subst hx
  exact .simple (.inr (.inr (.inl ⟨"n", _, .inr (.inr rfl), rfl, .leaf (.inl ⟨1, rfl, by decide, by decide⟩)⟩)))
theorem r_law_model {K : PySem.W.Frag} {A : Ads} {E : XK} {vs : List V} {H : Hp} {Q : VK} (h : sp_law_model vs H Q E) : t_law_model K A E { nx := fun _ H' => Q .non H', rt := Q } (L2.start ["draws", "most", "kinds", "spots", "total", "k", "variables", "names", "rules", "kind", "body", "early", "name", "number"] vs) H := by
  obtain ⟨dr, most, rfl, hd, m0, m5, kq⟩ := h
  unfold t_law_model
  have s1 : (0 : Nat) ≤ sizeLine ∧ (1 : Nat) ≤ sizeLine ∧ (2 : Nat) ≤ sizeLine ∧ (3 : Nat) ≤ sizeLine ∧ (4 : Nat) ≤ sizeLine ∧ 5 ≤ sizeLine := by rw [sizeLine_eq]; decide
  obtain ⟨o1, o2, o3, o4, o5, o6⟩ := strOk_lit
  obtain ⟨_, _, oif, osay, _⟩ := strOk_st
  refine seq1 ?_
  wide_line using [upd_same]
  refine ⟨s1.2.2.2.1, fun p0 hp0 => ?_⟩
  have k0 : Keep [dr] H _ := .same (same_new (o := .lst [V.str "go", V.str "up", V.str "via"]) hp0)
  have d0 := hd.same (same_new (o := .lst [V.str "go", V.str "up", V.str "via"]) hp0)
  have q0 := upd_here (o := .lst [V.str "go", V.str "up", V.str "via"]) hp0
  have n0 := hd.ne hp0
  generalize upd H p0 _ = H0 at *
  refine take_on d0 (by decide) fun r0 H1 a0 b0 k1 d1 => ?_
  have q1 := k1 _ _ q0 (by simpa using fun e => n0 e.symm)
  have k1 := k0.trans k1
  simp only [q1]
  refine fun kl hkl => ?_
  obtain ⟨ks, hks, ek⟩ := kinds_at a0 b0
  rw [ek]
  have sA := same_new (o := .lst (ks.map V.str)) hkl
  have hk := upd_here (o := .lst (ks.map V.str)) hkl
  have nk := d1.ne hkl
  have d2 := d1.same sA
  have k2 := k1.trans (.same sA)
  generalize upd H1 kl _ = H2 at *
  clear q0 q1 k0 d0 k1 d1 sA hkl hp0 n0 ek
  refine seq1 ?_
  wide_line using [upd_same]
  refine ⟨s1.1, fun sp hsp => ?_⟩
  have sB := same_new (o := .lst []) hsp
  have hs0 := upd_here (o := .lst []) hsp
  have nsp := d2.ne hsp
  have nkp : kl ≠ sp := ne_of_none hk hsp
  have hspH : H sp = none := by
    cases e : H sp with
    | none => rfl
    | some o => have := k2 _ _ e (by simpa using fun e => nsp e.symm); rw [hsp] at this; cases this
  have d3 := d2.same sB
  have k3 := k2.trans (.same sB)
  have hk3 := sB _ _ hk
  generalize upd H2 sp _ = H3 at *
  clear k2 d2 hk sB hsp
  refine seq1 ?_
  try (wide_line using [upd_same])
  refine take_on d3 m0 fun r1 H4 a1 b1 k4 d4 => ?_
  try (wide_line using [upd_same])
  refine ⟨⟨by omega, by omega⟩, ?_⟩
  refine forR_to (fun i σ H' => Keep [dr] H H' ∧ DrawsAt H' dr ∧ H' kl = some (.lst (ks.map V.str)) ∧ ∃ (tot : Int) (z5 z6 z7 z8 z9 z10 z11 : Option V) (xs : List V) (ds : List PyData), 0 ≤ tot ∧ σ = [some (.ref dr), some (.int most), some (.ref kl), some (.ref sp), some (.int tot), z5, z6, z7, z8, z9, z10, z11, none, none] ∧
      H' sp = some (.lst xs) ∧ xs.length = i ∧ Paired (PlAt H') xs ds ∧ ∀ (j : Nat) d, ds[j]? = some d → ∃ nm, placeNames[j]? = some nm ∧ PlaceD nm d)
    (fun σ H' => Keep [dr] H H' ∧ DrawsAt H' dr ∧ ∃ (z4 z5 z6 z7 z8 z9 z10 z11 : Option V) (xs : List V) (ds : List PyData), σ = [some (.ref dr), some (.int most), some (.ref kl), some (.ref sp), z4, z5, z6, z7, z8, z9, z10, z11, none, none] ∧
      H' sp = some (.lst xs) ∧ 0 < xs.length ∧ xs.length ≤ 5 ∧ Paired (PlAt H') xs ds ∧ ∀ (j : Nat) d, ds[j]? = some d → ∃ nm, placeNames[j]? = some nm ∧ PlaceD nm d)
    ⟨k3.trans k4, d4, k4 _ _ hk3 (by simpa using fun e => nk e.symm), 0, none, none, none, none, none, none, none, [], [], by decide, rfl, k4 _ _ hs0 (by simpa using fun e => nsp e.symm), rfl, .nil, by simp⟩ ?_ ?_ ?_
  · rintro σ H' ⟨kp, dp, _, tot, z5, z6, z7, z8, z9, z10, z11, xs, ds, _, rfl, hx, hxl, pr, hs⟩
    exact ⟨kp, dp, _, z5, z6, z7, z8, z9, z10, z11, xs, ds, rfl, hx, by omega, by omega, pr, hs⟩
  · rintro σ H' ⟨kp, dp, z4, z5, z6, z7, z8, z9, z10, z11, xs, ds, rfl, hx, hx0, hxl, pr, hs⟩
    wp_walk using hx
    have e := paired_len pr
    exact fun p hp => kq _ ds _ (kp.trans (.same (same_new hp))) (dp.same (same_new hp)) ⟨_, _, rfl, upd_same, by omega, Paired.mapP pr fun _ _ z => PlAt.kt (KTF.same (same_new hp)) z⟩ ⟨by omega, by omega, hs⟩
  · rintro N nx hnx i σ H' hi hN ⟨kp, dp, hkk, tot, z5, z6, z7, z8, z9, z10, z11, xs, ds, tot0, rfl, hx, hxl, pr, hs⟩
    refine seq1 ?_
    wide_line using [upd_same]
    refine ⟨s1.2.2.2.1, fun p1 hp1 => ?_⟩
    have sA := same_new (o := .lst [V.str "a", V.str "b", V.str "c"]) hp1
    have qA := upd_here (o := .lst [V.str "a", V.str "b", V.str "c"]) hp1
    have nA := dp.ne hp1
    have dA := dp.same sA
    have cA : Keep [dr] H' _ := .same sA
    generalize upd H' p1 _ = HA at *
    refine take_on dA (by decide) fun r2 HB a2 b2 kB dB => ?_
    have qB := kB _ _ qA (by simpa using fun e => nA e.symm)
    have cB := cA.trans kB
    simp only [qB]
    refine fun vl hvl => ?_
    obtain ⟨ns, ⟨rr, ens⟩, ecut, hns, hnk⟩ := vars_at a2 b2
    rw [ecut]
    have sC := same_new (o := .lst (ns.map V.str)) hvl
    have qC := upd_here (o := .lst (ns.map V.str)) hvl
    have nC := dB.ne hvl
    have dC := dB.same sC
    have cC := cB.trans (.same sC)
    generalize upd HB vl _ = HC at *
    clear sA qA nA dA cA qB cB sC hvl kB dB hp1
    refine lcL_draw (K := K) (d := dr) qC nC.symm (by rw [List.length_map]; omega) dC (fun x y H => ∃ nm i, x = V.str nm ∧ 0 ≤ i ∧ i ≤ 999999 ∧ Tz H 1 y (varD nm i)) (fun x y H H' k ⟨nm, i, e1, e2, e3, z⟩ => ⟨nm, i, e1, e2, e3, z.kt k⟩) ?_ ?_
    · intro jj x hxj HT kT dT k1 k0 hk1
      have hxm := List.mem_of_getElem? hxj
      obtain ⟨nm, hnm, rfl⟩ := List.mem_map.mp hxm
      unfold LcTurn
      wide_line using []
      refine take_on dT (by decide) fun r3 HU a3 b3 kU dU => ⟨s1.2.2.1, fun pt hpt => ?_⟩
      have sU := same_new (o := .tup [V.str nm, V.int r3]) hpt
      refine hk1 _ _ (kU.trans (.same sU)) (dU.same sU) ⟨nm, r3, rfl, a3, by omega, .tup upd_same (by simp) (.cons (.str (hnk nm hnm)) (.cons .int .nil))⟩
    intro D HD ys hD kD dD hDs prD
    obtain ⟨is, il, ib, pvs⟩ := pairD prD
    have yl := paired_len prD
    have cD := cC.trans kD
    simp only [hDs]
    refine fun vt hvt => ?_
    have sE := same_new (o := .tup ys) hvt
    have qE := upd_here (o := .tup ys) hvt
    have dE := dD.same sE
    have cE := cD.trans (.same sE)
    have pvE : Paired (Tz _ 1) ys _ := Paired.mapP pvs fun _ _ z => z.kt (.same sE)
    generalize upd HD vt _ = HE at *
    clear sE hvt dD cD hDs prD pvs hD kD cC dC qC
    rw [List.length_map] at yl
    have yl5 : ys.length ≤ 100000 := by omega
    refine seq1 ?_
    wide_line using [qE]
    refine lcT_core (K := K) qE (by omega) (fun _ => true) (fun x y _ => ∃ a b, x = .ref a ∧ HE a = some (.tup [y, b])) (fun _ _ _ _ _ h => h) ?_ ?_
    · intro x hxm HF sF k1 k0 hk1 _
      obtain ⟨d, hd, z⟩ := paired_memL pvE hxm
      have hd' := mem_varD hd
      obtain ⟨nm, i', rfl⟩ := hd'
      obtain ⟨ax, xx, rfl, hax, _, pxx⟩ := z.tuple_inv
      cases pxx with | cons z1 pxx => cases pxx with | cons z2 pxx => cases pxx with | nil =>
      have e1 := Tz.str_inv z1
      subst e1
      have hax' := sF _ _ hax
      unfold LcTurn
      wide_line using [hax']
      exact hk1 rfl _ _ (.refl _) ⟨_, _, rfl, hax⟩
    intro D2 HG zs hD2 sG hDG prG
    rw [List.filter_eq_self.mpr (fun _ _ => rfl)] at prG
    have ezs : zs = ns.map V.str := pair_names (by omega) pvE prG
    subst ezs
    have pvG : Paired (Tz HG 1) ys _ := Paired.mapP pvE fun _ _ z => z.kt (.same sG)
    have qvG := sG _ _ qE
    have nN := dE.ne hD2
    have dG := dE.same sG
    have cG := cE.trans (.same sG)
    have lns : ns.length ≤ 5 := by omega
    clear prG sG hD2 pvE qE dE cE ecut
    refine seq1 ?_
    wide_line using [hDG]
    refine ⟨s1.1, fun rl hrl => ?_⟩
    have hrN : D2 ≠ rl := ne_of_none hDG hrl
    have hrk : kl ≠ rl := ne_of_none (cG _ _ hkk (by simpa using fun e => nk e.symm)) hrl
    have hrd := dG.ne hrl
    have hrs : sp ≠ rl := ne_of_none (cG _ _ hx (by simpa using fun e => nsp e.symm)) hrl
    have sR := same_new (o := .lst []) hrl
    have qR := upd_here (o := .lst []) hrl
    have dR := dG.same sR
    have kR := cG _ _ hkk (by simpa using fun e => nk e.symm)
    have kR' := sR _ _ kR
    have cR : Keep [dr] HG _ := .same sR
    generalize upd HG rl _ = HR at *
    refine seq1 ?_
    wide_line using [kR']
    refine forL_to (K := K) (.of kR') (fun j σ Hh => Keep [dr] HG Hh ∧ DrawsAt Hh dr ∧ ∃ (tt : Int) (z9 z10 z11 : Option V) (rx : List V) (rd : List PyData), 0 ≤ tt ∧ σ = [some (.ref dr), some (.int most), some (.ref kl), some (.ref sp), some (.int tt), some (.int (0 + (i : Int))), some (.ref vt), some (.ref D2), some (.ref rl), z9, z10, z11, none, none] ∧
        Hh rl = some (.lst rx) ∧ rx.length ≤ j ∧ Paired (Tz Hh 12) rx rd ∧ ∀ r ∈ rd, RuleD ns r)
      (fun σ Hh => Keep [dr] HG Hh ∧ DrawsAt Hh dr ∧ ∃ (tt : Int) (z9 z10 z11 : Option V) (rx : List V) (rd : List PyData), 0 ≤ tt ∧ σ = [some (.ref dr), some (.int most), some (.ref kl), some (.ref sp), some (.int tt), some (.int (0 + (i : Int))), some (.ref vt), some (.ref D2), some (.ref rl), z9, z10, z11, none, none] ∧
        Hh rl = some (.lst rx) ∧ rx.length ≤ 3 ∧ Paired (Tz Hh 12) rx rd ∧ ∀ r ∈ rd, RuleD ns r)
      ⟨cR, dR, tot, z9, z10, z11, [], [], tot0, rfl, qR, Nat.le_refl _, .nil, by simp⟩ (fun j σ Hh _ p => .of (p.1 _ _ kR (by simpa using fun e => nk e.symm))) ?_ ?_ ?_
    · rintro σ Hh ⟨c, dd, tt, y9, y10, y11, rx, rd, h1, rfl, h2, h3, h4, h5⟩
      have := hks.2.1
      rw [List.length_map] at h3
      exact ⟨c, dd, tt, y9, y10, y11, rx, rd, h1, rfl, h2, by omega, h4, h5⟩
    · rintro σ Hh ⟨c, dd, tt, y9, y10, y11, rx, rd, h1, rfl, h2, h3, h4, h5⟩
      have hxh := c _ _ (cG _ _ hx (by simpa using fun e => nsp e.symm)) (by simpa using fun e => nsp e.symm)
      wide_line using [h2]
      simp only [hxh]
      refine ⟨s1.2.2.2.2.2, fun p hp => ?_⟩
      have sS := same_new (o := .lst [V.str "ash", V.str "bay", V.str "cot", V.str "dip", V.str "elm"]) hp
      have h2' := sS _ _ h2
      have hxS := sS _ _ hxh
      have dS := dd.same sS
      have cS := c.trans (.same sS)
      have rS := Paired.mapP h4 fun _ _ z => z.kt (.same sS)
      generalize upd Hh p _ = HS at *
      obtain ⟨nm, hnm, hnv⟩ := nm_at (i := i) (by omega)
      rw [zero_add_c]
      refine atK_nat hnv ?_
      refine ⟨rl, rx, rfl, .of h2', fun l ob hl hob => ⟨s1.2.2.2.1, fun q hq => ?_⟩⟩
      have sT := same_new (o := .frz ob (.tup rx)) hl
      have hT := upd_here (o := .frz ob (.tup rx)) hl
      have hxT := sT _ _ hxS
      have dT := dS.same sT
      have cT := cS.trans (.same sT)
      have rT := Paired.mapP rS fun _ _ z => z.kt (.same sT)
      generalize upd HS l _ = HT at *
      have sU := same_new (o := .tup [V.str nm, V.ref vt, V.ref l]) hq
      have hxU := sU _ _ hxT
      have tz : PlAt (upd HT q (.tup [V.str nm, V.ref vt, V.ref l])) (.ref q) (.tuple [.str nm, .tuple (List.zipWith varD ns is), .tuple rd]) := by
        refine ⟨_, _, _, _, l, ob, rx, rd, rfl, rfl, upd_same, ?_, sU _ _ hT, hob, by omega, Paired.mapP rT fun _ _ z => z.kt (.same sU)⟩
        exact Tz.tup (sU _ _ (cT _ _ qvG (by rintro m; simp at m; subst m; obtain ⟨_, e⟩ := dG; rw [qvG] at e; cases e))) yl5 (Paired.mapP pvG fun _ _ z => z.kt ((keep_kt cT dG).trans (.same sU)))
      have dU := dT.same sU
      have cU := cG.trans (cT.trans (.same sU))
      generalize upd HT q _ = HU at *
      simp only [hxU]
      have ku : KTF HU (upd HU sp (.lst (xs ++ [V.ref q]))) := KTF.list hxU
      have kall := (keep_ktf cU dp).trans ku
      refine ⟨by rw [sizeLine_eq]; omega, hN _ _ ⟨(kp.trans cU).new0 hspH, ?_, ?_, tt, _, _, _, _, _, _, _, xs ++ [V.ref q], ds ++ [_], h1, rfl, upd_same, by simp [hxl], paired_app (Paired.mapP pr fun _ _ z => z.kt kall) (.cons (tz.kt ku) .nil), ?_⟩⟩
      · obtain ⟨mm, hmm⟩ := dU
        exact ⟨mm, by rw [upd_ne nsp]; exact hmm⟩
      · rw [upd_ne nkp]
        exact cU _ _ hkk (by simpa using fun e => nk e.symm)
      · intro j d hd
        have hdl := paired_len pr
        rw [List.getElem?_append] at hd
        split at hd
        · exact hs j d hd
        · have : j = ds.length := by
            have := (List.getElem?_eq_some_iff.mp hd).1
            simp at this
            omega
          subst this
          simp at hd
          subst hd
          exact ⟨nm, by rw [← hdl, hxl]; exact hnm, ns, is, rd, rfl, ⟨rr, ens⟩, il, ib, by have := paired_len h4; omega, h5⟩
    · rintro N2 nx2 hnx2 j x σ Hh hxj hN2 ⟨c, dd, tt, y9, y10, y11, rx, rd, h1, rfl, h2, h3, h4, h5⟩
      have hxm := List.mem_of_getElem? hxj
      obtain ⟨kw, hkw, rfl⟩ := List.mem_map.mp hxm
      have hkW := hks.2.2 kw hkw
      have hDh : Hh D2 = some (.lst (ns.map V.str)) := c _ _ hDG (by simpa using fun e => nN e.symm)
      have hkh : Hh kl = some (.lst (ks.map V.str)) := c _ _ kR (by simpa using fun e => nk e.symm)
      have okn : OkNs ns := ⟨lns, hnk⟩
      wide_line using [h2]
      refine take_on dd (by decide) fun r4 HI a4 b4 kI dI => ?_
      have keepN : ∀ {Hx : Hp}, Keep [dr] Hh Hx → NsAt Hx D2 ns := fun k => k _ _ hDh (by simpa using fun e => nN e.symm)
      have keepK : ∀ {Hx : Hp}, Keep [dr] Hh Hx → NsAt Hx kl ks := fun k => k _ _ hkh (by simpa using fun e => nk e.symm)
      have keepR : ∀ {Hx : Hp}, Keep [dr] Hh Hx → Hx rl = some (.lst rx) := fun k => k _ _ h2 (by simpa using fun e => hrd e.symm)
      dsimp only
      by_cases hr4 : (0 : Int) < r4
      · rw [if_pos hr4]
        refine seq_to (fun σ Hx => Keep [dr] Hh Hx ∧ DrawsAt Hx dr ∧ ∃ b : V, σ = [some (.ref dr), some (.int most), some (.ref kl), some (.ref sp), some (.int tt), some (.int (0 + (i : Int))), some (.ref vt), some (.ref D2), some (.ref rl), some (.str kw), some b, y11, none, none] ∧ BO9 Hx ns 4 b) (fun nx3 hnx3 => ?_) ?_
        · wide_line using []
          refine ⟨dr, D2, kl, ns, ks, 2, rfl, Nat.le_refl _, dI, keepN kI, nN.symm, okn, fun v bs HJ kJ dJ zJ lJ sJ => ?_⟩
          have kJ := kI.trans kJ
          refine ⟨dr, D2, kl, ns, ks, rfl, dJ, keepN kJ, nN.symm, okn, keepK kJ, nk.symm, hks, fun v2 d2 HK kK dK zK sK => ⟨s1.2.1, fun p hp => ?_⟩⟩
          obtain ⟨ba, bx, rfl, hba, hbl, pba⟩ := zJ.tuple_inv
          have sP := same_new (o := .tup [v2]) hp
          have kt := (keep_kt kK dJ).trans (.same sP)
          have bl := paired_len pba
          have hba' := kt _ _ hba
          simp only [hba', upd_same]
          refine add_to (m := 8) (R := fun v Hx => nx3 [some (.ref dr), some (.int most), some (.ref kl), some (.ref sp), some (.int tt), some (.int (0 + (i : Int))), some (.ref vt), some (.ref D2), some (.ref rl), some (.str kw), some v, y11, none, none] Hx) hba' upd_same (Paired.mapP pba fun _ _ z => z.kt kt) (.cons ((zK.kt (.same sP)).le (by decide)) .nil) (by simp; omega) fun v3 HL sL z3 => ?_
          refine hnx3 _ _ ⟨(kJ.trans kK).trans (.same (sP.trans sL)), dK.same (sP.trans sL), v3, rfl, _, z3, by simp; omega, ?_⟩
          intro s hs
          rcases List.mem_append.mp hs with hs | hs
          · exact sJ s hs
          · simp at hs
            subst hs
            exact .simple sK
        rintro σ HJ ⟨kJ, dJ, b, rfl, bJ⟩
        refine seq_to (fun σ Hx => Keep [dr] Hh Hx ∧ DrawsAt Hx dr ∧ ∃ b e : V, σ = [some (.ref dr), some (.int most), some (.ref kl), some (.ref sp), some (.int tt), some (.int (0 + (i : Int))), some (.ref vt), some (.ref D2), some (.ref rl), some (.str kw), some b, some e, none, none] ∧ BO9 Hx ns 4 b ∧ ∃ ed, Tz Hx 2 e ed ∧ ExD ns 2 ed) (fun nx3 hnx3 => ?_) ?_
        · wide_line using []
          refine ⟨s1.2.1, fun p hp => ⟨s1.2.2.1, fun p2 hp2 => ⟨s1.2.2.2.2.1, fun p3 hp3 => ?_⟩⟩⟩
          obtain ⟨sE, edd, zE, xE⟩ := early_at (ns := ns) (w := "now") (n := 12) (.inr rfl) (by decide) (by decide) hp hp2 hp3
          exact hnx3 _ _ ⟨kJ.trans (.same sE), dJ.same sE, b, _, rfl, bJ.kt (.same sE), edd, zE, xE⟩
        rintro σ HK ⟨kK, dK, b, e, rfl, bK, ed, zK, xK⟩
        refine seq_to (fun σ Hx => Keep [dr] Hh Hx ∧ DrawsAt Hx dr ∧ ∃ b e : V, σ = [some (.ref dr), some (.int most), some (.ref kl), some (.ref sp), some (.int tt), some (.int (0 + (i : Int))), some (.ref vt), some (.ref D2), some (.ref rl), some (.str kw), some b, some e, none, none] ∧ BO9 Hx ns 5 b) (fun nx3 hnx3 => ?_) ?_
        · wide_line using []
          refine take_on dK (by decide) fun r5 HL a5 b5 kL dL => ?_
          have bL := bK.kt (keep_kt kL dK)
          have zL := zK.kt (keep_kt kL dK)
          have kL := kK.trans kL
          dsimp only
          by_cases hr5 : r5 = 0
          · rw [if_pos hr5]
            refine ⟨dr, D2, kl, ns, ks, rfl, dL, keepN kL, nN.symm, okn, keepK kL, nk.symm, hks, fun v2 d2 HU kU dU zU sU => ⟨s1.2.1, fun p hp => ⟨s1.1, fun p1 hp1 => ⟨s1.2.2.2.2.1, fun p2 hp2 => ⟨s1.2.1, fun p3 hp3 => ?_⟩⟩⟩⟩⟩
            have bU := bL.kt (keep_kt kU dL)
            have zE := zL.kt (keep_kt kU dL)
            obtain ⟨sI, hI, sd, zI, xI⟩ := if_at zE xK zU sU hp hp1 hp2 hp3
            generalize upd _ p3 _ = HV at *
            obtain ⟨bs, zb, lb, sb⟩ := bU.kt (.same sI)
            obtain ⟨ba, bx, rfl, hba, hbl, pba⟩ := zb.tuple_inv
            have bl := paired_len pba
            dsimp only
            simp only [hba, hI]
            refine add_to (m := 8) (R := fun v Hx => nx3 [some (.ref dr), some (.int most), some (.ref kl), some (.ref sp), some (.int tt), some (.int (0 + (i : Int))), some (.ref vt), some (.ref D2), some (.ref rl), some (.str kw), some v, some e, none, none] Hx) hba hI pba (.cons (zI.le (by decide)) .nil) (by simp; omega) fun v3 HW sW z3 => ?_
            refine hnx3 _ _ ⟨kL.trans (kU.trans (.same (sI.trans sW))), dU.same (sI.trans sW), v3, e, rfl, _, z3, by simp; omega, ?_⟩
            intro s hs
            rcases List.mem_append.mp hs with hs | hs
            · exact sb s hs
            · simp at hs
              subst hs
              exact xI
          · rw [if_neg (by simpa using hr5)]
            obtain ⟨bs, zb, lb, sb⟩ := bL
            exact hnx3 _ _ ⟨kL, dL, b, e, rfl, bs, zb, by omega, sb⟩
        rintro σ HL ⟨kL, dL, b, e, rfl, bL⟩
        refine seq_to (fun σ Hx => Keep [dr] Hh Hx ∧ DrawsAt Hx dr ∧ ∃ b e : V, σ = [some (.ref dr), some (.int most), some (.ref kl), some (.ref sp), some (.int tt), some (.int (0 + (i : Int))), some (.ref vt), some (.ref D2), some (.ref rl), some (.str kw), some b, some e, none, none] ∧ BO11 Hx ns b) (fun nx3 hnx3 => ?_) ?_
        · wide_line using []
          refine take_on dL (by decide) fun r5 HM a5 b5 kM dM => ?_
          have bM := bL.kt (keep_kt kM dL)
          have kM := kL.trans kM
          dsimp only
          by_cases hr5 : r5 = 0
          · rw [if_pos hr5]
            refine ⟨s1.2.1, fun p hp => ⟨s1.2.2.1, fun p2 hp2 => ⟨s1.2.2.2.2.1, fun p3 hp3 => ⟨s1.1, fun p4 hp4 => ⟨s1.2.2.2.2.1, fun p5 hp5 => ⟨s1.2.1, fun p6 hp6 => ?_⟩⟩⟩⟩⟩⟩
            obtain ⟨sE, edd, zE, xE⟩ := early_at (ns := ns) (w := "load") (n := 500000) (.inl rfl) (by decide) (by decide) hp hp2 hp3
            generalize upd _ p3 _ = HV at *
            obtain ⟨sW, bW⟩ := wrap_at zE xE (bM.kt (.same sE)) hp4 hp5 hp6
            exact hnx3 _ _ ⟨kM.trans (.same (sE.trans sW)), dM.same (sE.trans sW), _, e, rfl, bW⟩
          · rw [if_neg (by simpa using hr5)]
            exact hnx3 _ _ ⟨kM, dM, b, e, rfl, bM.up⟩
        rintro σ HM ⟨kM, dM, b, e, rfl, bM⟩
        refine seq_to (fun σ Hx => Keep [dr] Hh Hx ∧ DrawsAt Hx dr ∧ ∃ b e : V, σ = [some (.ref dr), some (.int most), some (.ref kl), some (.ref sp), some (.int tt), some (.int (0 + (i : Int))), some (.ref vt), some (.ref D2), some (.ref rl), some (.str kw), some b, some e, none, none] ∧ BO11 Hx ns b) (fun nx3 hnx3 => ?_) ?_
        · wide_line using []
          obtain ⟨bs, zb, lb, sb⟩ := bM
          refine ⟨b, _, rfl, zb, fun n HN sN hn => ?_⟩
          have bN : BO11 HN ns b := ⟨bs, zb.kt (.same sN), lb, sb⟩
          dsimp only
          by_cases hr5 : (200 : Int) < tt + n
          · rw [if_pos hr5]
            refine ⟨s1.2.2.1, fun p hp => ⟨s1.2.2.2.1, fun p2 hp2 => ⟨s1.2.1, fun p3 hp3 => ?_⟩⟩⟩
            obtain ⟨sS, bS⟩ := sayn_at (ns := ns) hp hp2 hp3
            exact hnx3 _ _ ⟨kM.trans (.same (sN.trans sS)), dM.same (sN.trans sS), _, e, rfl, bS⟩
          · rw [if_neg hr5]
            exact hnx3 _ _ ⟨kM.trans (.same sN), dM.same sN, b, e, rfl, bN⟩
        rintro σ HN ⟨kN, dN, b, e, rfl, bN⟩
        refine seq_to (fun σ Hx => Keep [dr] Hh Hx ∧ DrawsAt Hx dr ∧ ∃ (b e : V) (t2 : Int), 0 ≤ t2 ∧ σ = [some (.ref dr), some (.int most), some (.ref kl), some (.ref sp), some (.int t2), some (.int (0 + (i : Int))), some (.ref vt), some (.ref D2), some (.ref rl), some (.str kw), some b, some e, none, none] ∧ BO11 Hx ns b) (fun nx3 hnx3 => ?_) ?_
        · wide_line using []
          obtain ⟨bs, zb, lb, sb⟩ := bN
          refine ⟨b, _, rfl, zb, fun n HO sO hn => ?_⟩
          exact hnx3 _ _ ⟨kN.trans (.same sO), dN.same sO, b, e, tt + n, by omega, rfl, bs, zb.kt (.same sO), lb, sb⟩
        rintro σ HO ⟨kO, dO, b, e, t2, ht2, rfl, bO⟩
        wide_line using []
        have hrO := keepR kO
        simp only [hrO]
        refine ⟨s1.2.2.1, fun p hp => ?_⟩
        have sP := same_new (o := .tup [V.str kw, b]) hp
        have hrP := sP _ _ hrO
        obtain ⟨bs, zb, lb, sb⟩ := bO
        have tz : Tz _ 12 (.ref p) (.tuple [.str kw, .tuple bs]) := .tup (upd_here (o := .tup [V.str kw, b]) hp) (by simp) (.cons (.str (kind_ok hkW)) (.cons (zb.kt (.same sP)) .nil))
        have dP := dO.same sP
        have cP := c.trans (kO.trans (.same sP))
        have kP := (keep_kt kO dd).trans (.same sP)
        generalize upd HO p _ = HP at *
        simp only [hrP]
        have ku : KT HP (upd HP rl (.lst (rx ++ [V.ref p]))) := KT.mut (by rw [hrP]; rfl)
        have jl := (List.getElem?_eq_some_iff.mp hxj).1
        rw [List.length_map] at jl
        have := hks.2.1
        refine ⟨by rw [sizeLine_eq]; omega, hN2 _ _ ⟨cP.new0 hrl, ?_, t2, _, _, _, rx ++ [V.ref p], rd ++ [_], ht2, rfl, upd_same, by simp; omega, paired_app (Paired.mapP h4 fun _ _ z => z.kt (kP.trans ku)) (.cons (tz.kt ku) .nil), ?_⟩⟩
        · obtain ⟨mm, hmm⟩ := dP
          exact ⟨mm, by rw [upd_ne hrd]; exact hmm⟩
        · intro d hd
          rcases List.mem_append.mp hd with hd | hd
          · exact h5 d hd
          · simp at hd
            subst hd
            exact ⟨kw, bs, rfl, hkW, lb, sb⟩
      · rw [if_neg hr4]
        have cI := c.trans kI
        exact hN2 _ _ ⟨cI, dI, tt, _, _, _, rx, rd, h1, rfl, keepR kI, by omega, Paired.mapP h4 fun _ _ z => z.kt (keep_kt kI dd), h5⟩
theorem opD_lt {a b : Int} : opD "<" a b = if a < b then 1 else 0 := by unfold opD; rw [if_pos rfl]
theorem opD_eq {a b : Int} : opD "==" a b = if a = b then 1 else 0 := by unfold opD; rw [if_neg (by decide +kernel), if_pos rfl]
theorem opD_mod {a b : Int} : opD "mod" a b = if 0 < b then a % b else 0 := by unfold opD; rw [if_neg (by decide +kernel), if_neg (by decide +kernel), if_pos rfl]
theorem opD_add {a b : Int} : opD "+" a b = (a + b) % 1000000 := by unfold opD; rw [if_neg (by decide +kernel), if_neg (by decide +kernel), if_neg (by decide +kernel), if_pos rfl]
theorem opD_sub {a b : Int} : opD "-" a b = (a - b + 1000000) % 1000000 := by unfold opD; rw [if_neg (by decide +kernel), if_neg (by decide +kernel), if_neg (by decide +kernel), if_neg (by decide +kernel), if_pos rfl]
theorem opD_mul {a b : Int} : opD "*" a b = (a * b) % 1000000 := by unfold opD; rw [if_neg (by decide +kernel), if_neg (by decide +kernel), if_neg (by decide +kernel), if_neg (by decide +kernel), if_neg (by decide +kernel)]
theorem exD_cases {ns : List Str} {k : Nat} {d : PyData} (h : ExD ns k d) : LeafD ns d ∨ ∃ k' s a b, k = k' + 1 ∧ s ∈ signs ∧ d = .tuple [.str "op", .str s, a, b] ∧ ExD ns k' a ∧ ExD ns k' b := by
  cases k with
  | zero => exact .inl h
  | succ k =>
    rcases h with h | ⟨s, a, b, h1, h2, h3, h4⟩
    · exact .inl h
    · exact .inr ⟨k, s, a, b, rfl, h1, h2, h3, h4⟩
theorem valV_vsK : ∀ {vs : List (Str × Int)} {x : Str} {i : Int}, vs.lookup x = some i → valV (vsK vs) (.inr x) = some (.int i)
  | [], _, _, h => by simp at h
  | p :: vs, x, i, h => by
    rw [List.lookup_cons] at h
    by_cases e : x = p.1
    · subst e
      simp only [beq_self_eq_true] at h
      cases h
      exact valV_pos rfl
    · have : (x == p.1) = false := by simpa using e
      simp only [this] at h
      show valV ((.inr p.1, .int p.2) :: vsK vs) _ = _
      rw [valV_neg (by intro z; exact e (by injection z with z; exact z.symm))]
      exact valV_vsK h
theorem num_walk {K : PySem.W.Frag} {A : Ads} {E : XK} {vs : List V} {H : Hp} {Q : VK} {sq : Sp} {n : Nat} (hsq : ∀ vs H Q E, (∃ m, n = m + 1 ∧ sp_law_number m vs H Q E) → sq vs H Q E) (h : sp_law_number n vs H Q E) : t_law_number K A E sq { nx := fun _ H' => Q .non H', rt := Q } (L2.start ["known", "event", "e", "one", "other", "whole_one"] vs) H := by
  obtain ⟨kn, vd, ev, e, p, kd, sd, ct, vs, load, time, ed, ns, k, q, rfl, hkn, ⟨⟨kvs, hk, hkv⟩, hvd⟩, hv, hev, t0, l0, l1, hz, hx, kq⟩ := h
  unfold t_law_number
  rcases exD_cases hx with hl | ⟨k', s, a, b, rfl, hs, rfl, ha, hb⟩
  · rcases hl with ⟨i, rfl, i0, i1⟩ | rfl | rfl | ⟨x, hx', rfl⟩
    · obtain ⟨ea, xs, q, rfl, rfl, he, pr⟩ := Tz.tuple_inv0 hz
      cases pr with | cons z1 pr =>
      cases pr with | cons z2 pr =>
      cases pr
      rw [Tz.str_inv z1, Tz.int_inv z2] at he
      refine seq1 ?_
      wide_line using [he]
      rw [if_neg (by decide)]
      refine seq1 ?_
      wide_line using [he]
      rw [if_pos (by decide)]
      have := kq _ (Same.refl H)
      cases k <;> exact this
    · obtain ⟨ea, xs, q, rfl, rfl, he, pr⟩ := Tz.tuple_inv0 hz
      cases pr with | cons z1 pr =>
      cases pr
      rw [Tz.str_inv z1] at he
      refine seq1 ?_
      wide_line using [he]
      rw [if_pos (by decide)]
      simp only [hev, seqAt_tup]
      refine atK_n 3 rfl rfl ?_
      have := kq _ (Same.refl H)
      cases k <;> exact this
    · obtain ⟨ea, xs, q, rfl, rfl, he, pr⟩ := Tz.tuple_inv0 hz
      cases pr with | cons z1 pr =>
      cases pr
      rw [Tz.str_inv z1] at he
      refine seq1 ?_
      wide_line using [he]
      rw [if_pos (by decide), if_neg (by decide +kernel)]
      simp only [hev, seqAt_tup, atK_zero]
      have := kq _ (Same.refl H)
      cases k <;> exact this
    · obtain ⟨ea, xs, q, rfl, rfl, he, pr⟩ := Tz.tuple_inv0 hz
      cases pr with | cons z1 pr =>
      cases pr with | cons z2 pr =>
      cases pr
      rw [Tz.str_inv z1, Tz.str_inv z2] at he
      refine seq1 ?_
      wide_line using [he]
      rw [if_neg (by decide)]
      refine seq1 ?_
      wide_line using [he]
      rw [if_pos (by decide), if_neg (by decide +kernel)]
      obtain ⟨i, hi, _⟩ := lookup_bd hv hx'
      have hg := valV_vsK hi
      simp only [hk, hkv, hvd, hg]
      have := kq _ (Same.refl H)
      cases k <;> (simp only [numD, hi] at this; exact this)
  · obtain ⟨ea, xs, q, rfl, rfl, he, pr⟩ := Tz.tuple_inv0 hz
    cases pr with | cons z1 pr =>
    cases pr with | cons z2 pr =>
    cases pr with | cons z3 pr =>
    cases pr with | cons z4 pr =>
    cases pr
    rw [Tz.str_inv z1, Tz.str_inv z2] at he
    obtain ⟨m, rfl⟩ : ∃ m, n = m + 1 := ⟨n - 1, by omega⟩
    refine seq1 ?_
    wide_line using [he]
    rw [if_neg (by decide)]
    refine seq1 ?_
    wide_line using [he]
    rw [if_neg (by decide)]
    refine seq1 ?_
    wide_line using [he]
    refine atK_n 2 rfl rfl ?_
    refine hsq _ _ _ _ ⟨m, rfl, kn, vd, ev, _, p, kd, sd, ct, vs, load, time, a, ns, k', _, rfl, by omega, ⟨⟨kvs, hk, hkv⟩, hvd⟩, hv, hev, t0, l0, l1, z3, ha, fun H1 s1 => ?_⟩
    have he1 := s1 _ _ he
    simp only [he1, seqAt_tup]
    refine atK_n 3 rfl rfl ?_
    refine hsq _ _ _ _ ⟨m, rfl, kn, vd, ev, _, p, kd, sd, ct, vs, load, time, b, ns, k', _, rfl, by omega, ⟨⟨kvs, s1 _ _ hk, hkv⟩, s1 _ _ hvd⟩, hv, s1 _ _ hev, t0, l0, l1, z4.kt (.same s1), hb, fun H2 s2 => ?_⟩
    have he2 := s2 _ _ he1
    have kq2 := fun H' (sq : Same H2 H') => kq H' ((s1.trans s2).trans sq)
    simp only [numD] at kq2
    obtain ⟨A0, A1⟩ := numD_bd (vs := vs) (load := load) (time := time) hv l0 l1 ha
    obtain ⟨B0, B1⟩ := numD_bd (vs := vs) (load := load) (time := time) hv l0 l1 hb
    generalize numD vs load time k' a = x at *
    generalize numD vs load time k' b = y at *
    refine seq1 ?_
    wide_line using [he2]
    refine ⟨by rw [sizeLine_eq]; decide, fun p hp => ⟨rfl, rfl, ?_⟩⟩
    have sA := same_new (o := .lst [V.str "<", V.str "=="]) hp
    have he3 := sA _ _ he2
    have kq3 := fun H' (sq : Same _ H') => kq2 H' (sA.trans sq)
    generalize upd H2 p (.lst [V.str "<", V.str "=="]) = H3 at *
    have hsc : s = "<" ∨ s = "==" ∨ s = "mod" ∨ s = "+" ∨ s = "-" ∨ s = "*" := by simp only [signs, List.mem_cons, List.not_mem_nil, or_false] at hs; rcases hs with h | h | h | h | h | h <;> simp [h]
    rcases hsc with rfl | rfl | rfl | hsc
    · rw [if_pos (by decide +kernel)]
      simp only [he3, seqAt_tup, atK_one, if_true]
      have := kq3 _ (Same.refl _)
      rw [opD_lt] at this
      exact this
    · rw [if_pos (by decide +kernel)]
      simp only [he3, seqAt_tup, atK_one]
      rw [if_neg (by decide +kernel)]
      have := kq3 _ (Same.refl _)
      rw [opD_eq] at this
      exact this
    · rw [if_neg (by decide +kernel)]
      refine seq1 ?_
      wide_line using [he3]
      have := kq3 _ (Same.refl _)
      rw [opD_mod] at this
      by_cases hy : 0 < y
      · rw [if_pos hy] at this ⊢
        refine ⟨⟨hy, by omega⟩, .inr ⟨by omega, by omega⟩, ?_⟩
        have e : x - x / y * y = x % y := by rw [Int.emod_def, Int.mul_comm]
        rw [e]
        exact this
      · rw [if_neg hy] at this ⊢
        exact this
    · have hn : ¬ inV (V.str s) [V.str "<", V.str "=="] = true := by rcases hsc with rfl | rfl | rfl <;> decide +kernel
      have hn2 : ¬ s = ("mod" : Str) := by rcases hsc with rfl | rfl | rfl <;> decide +kernel
      rw [if_neg hn]
      refine seq1 ?_
      wide_line using [he3]
      rw [if_neg hn2]
      refine seq1 ?_
      wide_line using [he3]
      refine fun p2 hp2 => ⟨.inl ⟨by omega, by omega⟩, [(.inr "+", .int (x + y)), (.inr "-", .int (x - y + 1000000)), (.inr "*", .int (x * y))], rfl, by simp, ?_⟩
      have sB := same_new (o := .dK (mergeK [] [(.inr "+", .int (x + y)), (.inr "-", .int (x - y + 1000000)), (.inr "*", .int (x * y))])) hp2
      have he4 := sB _ _ he3
      have kq4 := kq3 _ sB
      have u4 : upd H3 p2 (.dK (mergeK [] [(.inr "+", .int (x + y)), (.inr "-", .int (x - y + 1000000)), (.inr "*", .int (x * y))])) p2 = some (.dK (mergeK [] [(.inr "+", .int (x + y)), (.inr "-", .int (x - y + 1000000)), (.inr "*", .int (x * y))])) := upd_same
      have m4 : ∃ i, valV (mergeK [] [(.inr "+", .int (x + y)), (.inr "-", .int (x - y + 1000000)), (.inr "*", .int (x * y))]) (.inr s) = some (.int i) ∧ opD s x y = i % 1000000 := by
        rcases hsc with rfl | rfl | rfl
        · exact ⟨_, rfl, opD_add⟩
        · exact ⟨_, rfl, opD_sub⟩
        · exact ⟨_, rfl, opD_mul⟩
      obtain ⟨i, m4, oe⟩ := m4
      generalize upd H3 p2 _ = H4 at *
      simp only [he4, seqAt_tup, atK_one, u4, m4]
      refine ⟨⟨by decide, by decide⟩, .inr ⟨by decide, by decide⟩, ?_⟩
      have e : i - i / 1000000 * 1000000 = i % 1000000 := by rw [Int.emod_def, Int.mul_comm]
      rw [e, ← oe]
      exact kq4
theorem r_law_number0 {K : PySem.W.Frag} {A : Ads} {E : XK} {vs : List V} {H : Hp} {Q : VK} (h : sp_law_number 0 vs H Q E) : t_law_number K A E (fun _ _ _ _ => False) { nx := fun _ H' => Q .non H', rt := Q } (L2.start ["known", "event", "e", "one", "other", "whole_one"] vs) H := num_walk (fun _ _ _ _ ⟨_, e, _⟩ => by cases e) h
theorem r_law_number {K : PySem.W.Frag} {A : Ads} {E : XK} {vs : List V} {H : Hp} {Q : VK} {n : Nat} (h : sp_law_number (n + 1) vs H Q E) : t_law_number K A E (sp_law_number n) { nx := fun _ H' => Q .non H', rt := Q } (L2.start ["known", "event", "e", "one", "other", "whole_one"] vs) H := num_walk (fun _ _ _ _ ⟨m, e, h⟩ => by cases e; exact h) h
theorem sayW_ok {w : Str} (h : SayW w) : PyData.strOk w = true := by rcases h with rfl | rfl | rfl <;> decide +kernel
theorem valV_kn {vd sl yl : Addr} {st ct : Int} : valV (knK vd sl yl st ct) (.inr "values") = some (.ref vd) ∧ valV (knK vd sl yl st ct) (.inr "stream") = some (.int st) ∧ valV (knK vd sl yl st ct) (.inr "count") = some (.int ct) ∧ valV (knK vd sl yl st ct) (.inr "sent") = some (.ref sl) ∧ valV (knK vd sl yl st ct) (.inr "said") = some (.ref yl) := ⟨rfl, rfl, rfl, rfl, rfl⟩
theorem putK_stream {vd sl yl : Addr} {st ct x : Int} : putK (knK vd sl yl st ct) (.inr "stream") (.int x) = knK vd sl yl x ct := rfl
theorem putK_count {vd sl yl : Addr} {st ct x : Int} : putK (knK vd sl yl st ct) (.inr "count") (.int x) = knK vd sl yl st x := rfl
theorem putK_vs {ns : List Str} {vs : List (Str × Int)} (h : VsOk ns vs) {x : Str} (hx : x ∈ ns) {i : Int} (h0 : 0 ≤ i) (h1 : i ≤ 999999) : ∃ vs', VsOk ns vs' ∧ putK (vsK vs) (.inr x) (.int i) = vsK vs' := by
  obtain ⟨e, nd, hb⟩ := h
  refine ⟨vs.map fun p => if p.1 = x then (p.1, i) else p, ⟨?_, nd, ?_⟩, ?_⟩
  · rw [List.map_map, ← e]
    refine List.map_congr_left fun p _ => ?_
    show (if p.1 = x then (p.1, i) else p).1 = p.1
    split <;> rfl
  · intro p hp
    obtain ⟨q, hq, rfl⟩ := List.mem_map.mp hp
    split
    · exact ⟨h0, h1⟩
    · exact hb q hq
  · have hany : ((vsK vs).any fun kv => decide (kv.1 = .inr x)) = true := by
      rw [List.any_eq_true]
      subst e
      obtain ⟨p, hp, rfl⟩ := List.mem_map.mp hx
      exact ⟨(.inr p.1, .int p.2), List.mem_map.mpr ⟨p, hp, rfl⟩, by simp⟩
    unfold putK
    rw [if_pos hany]
    unfold vsK
    rw [List.map_map, List.map_map]
    refine List.map_congr_left fun p _ => ?_
    show (if (Sum.inr p.1 : L2.Key) = Sum.inr x then ((Sum.inr p.1 : L2.Key), V.int i) else ((Sum.inr p.1 : L2.Key), V.int p.2)) = ((Sum.inr (if p.1 = x then (p.1, i) else p).1 : L2.Key), V.int (if p.1 = x then (p.1, i) else p).2)
    by_cases hc : p.1 = x
    · rw [if_pos (congrArg _ hc), if_pos hc]
    · rw [if_neg (by intro z; exact hc (by injection z)), if_neg hc]
theorem KnAt.ktf {H H' : Hp} {kn vd sl yl : Addr} {ns : List Str} {ss ys : List V} (h : KnAt H kn vd sl yl ns ss ys) (k : Keep [kn, vd, sl, yl] H H') : KTF H H' := fun a o e ht => by
  obtain ⟨⟨vs, st, ct, _, h1, h2⟩, h3, h4⟩ := h
  refine k a _ e ?_
  simp only [List.mem_cons, List.not_mem_nil, or_false]
  rintro (rfl | rfl | rfl | rfl)
  · rw [h1] at e; cases e; rcases ht with ⟨_, e⟩ | ⟨_, _, e⟩ <;> cases e
  · rw [h2] at e; cases e; rcases ht with ⟨_, e⟩ | ⟨_, _, e⟩ <;> cases e
  · rw [h3] at e; cases e; rcases ht with ⟨_, e⟩ | ⟨_, _, e⟩ <;> cases e
  · rw [h4] at e; cases e; rcases ht with ⟨_, e⟩ | ⟨_, _, e⟩ <;> cases e
theorem Evs.kt {m : Nat} {H H' : Hp} {v : V} (k : KT H H') (h : Evs m H v) : Evs m H' v := let ⟨d, z, e⟩ := h; ⟨d, z.kt k, e⟩
theorem Sas.kt {H H' : Hp} {v : V} (k : KT H H') (h : Sas H v) : Sas H' v := let ⟨d, z, e⟩ := h; ⟨d, z.kt k, e⟩
theorem StD.cases {ns : List Str} {k : Nat} {d : PyData} (h : StD ns k d) : SimpleD ns d ∨ ∃ k' e b1 b2, k = k' + 1 ∧ d = .tuple [.str "if", e, .tuple b1, .tuple b2] ∧ ExD ns 2 e ∧ (∀ x ∈ b1, StD ns k' x) ∧ (∀ x ∈ b2, StD ns k' x) ∧ b1.length ≤ 5 ∧ b2.length ≤ 5 := by
  cases k with
  | zero => exact .inl h
  | succ k =>
    rcases h with h | ⟨e, b1, b2, h⟩
    · exact .inl h
    · exact .inr ⟨k, e, b1, b2, rfl, h⟩
theorem KnAt.same {H H' : Hp} {kn vd sl yl : Addr} {ns : List Str} {ss ys : List V} (h : KnAt H kn vd sl yl ns ss ys) (s : Same H H') : KnAt H' kn vd sl yl ns ss ys := by
  obtain ⟨⟨vs, st, ct, hv, h1, h2⟩, h3, h4⟩ := h
  exact ⟨⟨vs, st, ct, hv, s _ _ h1, s _ _ h2⟩, s _ _ h3, s _ _ h4⟩
theorem number_on {H : Hp} {kn vd sl yl ev : Addr} {ns : List Str} {ss ys : List V} {t l : Int} {p kd s c v : V} {q : Nat} {e : PyData} {Q : VK} {E : XK} (ka : KnAt H kn vd sl yl ns ss ys) (hea : H ev = some (.tup [.int t, p, kd, .int l, s, c])) (t0 : 0 ≤ t) (l0 : 0 ≤ l) (l1 : l ≤ 999999)
    (z : Tz H q v e) (hx : ExD ns 2 e) (kq : ∀ i H', Same H H' → 0 ≤ i → i ≤ 999999 → Q (.int i) H') : sp_law_number 3 [.ref kn, .ref ev, v] H Q E := by
  obtain ⟨⟨vs, st, ct, hv, h1, h2⟩, h3, h4⟩ := ka
  refine ⟨kn, vd, ev, v, p, kd, s, c, vs, l, t, e, ns, 2, q, rfl, by decide, ⟨⟨_, h1, valV_kn.1⟩, h2⟩, hv, hea, t0, l0, l1, z, hx, fun H' sm => ?_⟩
  obtain ⟨b0, b1⟩ := numD_bd (vs := vs) (load := l) (time := t) hv l0 l1 hx
  exact kq _ _ sm b0 b1
theorem vsK_len {ns : List Str} {vs : List (Str × Int)} (h : VsOk ns vs) (hn : OkNs ns) : (vsK vs).length < sizeLine := by
  obtain ⟨e, _⟩ := h
  have : vs.length = ns.length := by rw [← e, List.length_map]
  have := hn.1
  unfold vsK
  rw [List.length_map, sizeLine_eq]
  omega
theorem do_walk {K : PySem.W.Frag} {A : Ads} {E : XK} {vs : List V} {H : Hp} {Q : VK} {sq : Sp} {n : Nat} (hsq : ∀ vs H Q E, (∃ m, n = m + 1 ∧ sp_law_do m vs H Q E) → sq vs H Q E) (h : sp_law_do n vs H Q E) : t_law_do K A E sq { nx := fun _ H' => Q .non H', rt := Q } (L2.start ["model", "known", "event", "body", "row", "most", "grown", "place", "later"] vs) H := by
  obtain ⟨mv, bv, kn, vd, sl, yl, ev, ds, bd, ns, ss, ys, k, q, ed, rfl, hk, hk4, hm, hmd, hns, kna, nd, hev, evd, hb, hst, hs1, hy1, kq⟩ := h
  obtain ⟨t, l, c, p, kd, s, rfl, t0, hp, hkd, l0, l1, hs⟩ := evd
  have evd : EvD ds.length (.tuple [.int t, .str p, .str kd, .int l, .str s, .int c]) := ⟨t, l, c, p, kd, s, rfl, t0, hp, hkd, l0, l1, hs⟩
  have hev0 := hev
  obtain ⟨ea, exs, m0, _, e1, hea, epr⟩ := Tz.tuple_inv0 hev
  cases e1
  have ee : exs = [.int t, .str p, .str kd, .int l, .str s, .int c] := by
    cases epr with | cons z1 epr =>
    cases epr with | cons z2 epr =>
    cases epr with | cons z3 epr =>
    cases epr with | cons z4 epr =>
    cases epr with | cons z5 epr =>
    cases epr with | cons z6 epr =>
    cases epr
    rw [Tz.int_inv z1, Tz.str_inv z2, Tz.str_inv z3, Tz.int_inv z4, Tz.str_inv z5, Tz.int_inv z6]
  subst ee
  clear epr
  obtain ⟨ba, bx, q, rfl, rfl, hba, bpr⟩ := Tz.tuple_inv0 hb
  have bl := paired_len bpr
  obtain ⟨n12, n13, n14, n23, n24, n34⟩ : kn ≠ vd ∧ kn ≠ sl ∧ kn ≠ yl ∧ vd ≠ sl ∧ vd ≠ yl ∧ sl ≠ yl := by simp at nd; exact ⟨nd.1.1, nd.1.2.1, nd.1.2.2, nd.2.1.1, nd.2.1.2, nd.2.2⟩
  unfold t_law_do
  wide_line using [upd_same]
  refine forT_to (.of hba) (fun i σ H' => ∃ z4 z5 z6 z7 z8 ss' ys', σ = [some mv, some (.ref kn), some (.ref ev), some (.ref ba), z4, z5, z6, z7, z8] ∧ Keep [kn, vd, sl, yl] H H' ∧ KnAt H' kn vd sl yl ns (ss ++ ss') (ys ++ ys') ∧ (∀ v ∈ ss', Evs ds.length H' v) ∧ (∀ v ∈ ys', Sas H' v) ∧ ss'.length ≤ i * 5 ^ k ∧ ys'.length ≤ i * 5 ^ k)
    (fun σ H' => ∃ ss' ys', Keep [kn, vd, sl, yl] H H' ∧ KnAt H' kn vd sl yl ns (ss ++ ss') (ys ++ ys') ∧ (∀ v ∈ ss', Evs ds.length H' v) ∧ (∀ v ∈ ys', Sas H' v) ∧ ss'.length ≤ bx.length * 5 ^ k ∧ ys'.length ≤ bx.length * 5 ^ k)
    ⟨none, none, none, none, none, [], [], rfl, .refl, by simpa using kna, by simp, by simp, by simp, by simp⟩ ?_ ?_ ?_ ?_
  · rintro i σ H' _ ⟨_, _, _, _, _, _, _, _, kp, _⟩
    exact .of ((kna.ktf kp) _ _ hba (.inl ⟨_, rfl⟩))
  · rintro σ H' ⟨_, _, _, _, _, ss', ys', _, kp, ka, h1, h2, h3, h4⟩
    exact ⟨ss', ys', kp, ka, h1, h2, h3, h4⟩
  · rintro σ H' ⟨ss', ys', kp, ka, h1, h2, h3, h4⟩
    rw [bl] at h3 h4
    exact kq _ _ _ kp ka h1 h2 h3 h4
  · rintro N nx hnx i x σ H1 hx hN ⟨z4, z5, z6, z7, z8, ss', ys', rfl, kp, ka, h1, h2, h3, h4⟩
    obtain ⟨rd, hrd, zr⟩ := pairedGet bpr hx
    have ktf := kna.ktf kp
    have hi : i < bd.length := (List.getElem?_eq_some_iff.mp hrd).1
    have zr := zr.kt ktf.kt
    have hea1 := ktf _ _ hea (.inl ⟨_, rfl⟩)
    have hm1 := hm.kt ktf
    have p1' : 1 ≤ 5 ^ k := Nat.one_le_pow _ _ (by decide)
    have bnd : (i + 1) * 5 ^ k ≤ bd.length * 5 ^ k := Nat.mul_le_mul_right _ hi
    have es : (i + 1) * 5 ^ k = i * 5 ^ k + 5 ^ k := Nat.succ_mul ..
    have fin : ∀ {H3 : Hp} {z4 z5 z6 z7 z8 : Option V} {a b : List V}, Keep [kn, vd, sl, yl] H1 H3 → KnAt H3 kn vd sl yl ns ((ss ++ ss') ++ a) ((ys ++ ys') ++ b) → (∀ v ∈ a, Evs ds.length H3 v) → (∀ v ∈ b, Sas H3 v) → a.length ≤ 5 ^ k → b.length ≤ 5 ^ k → N [some mv, some (.ref kn), some (.ref ev), some (.ref ba), z4, z5, z6, z7, z8] H3 := fun {H3 z4 z5 z6 z7 z8 a b} k3 ka3 ha hb la lb => by
      have kt3 := (ka.ktf k3).kt
      rw [List.append_assoc, List.append_assoc] at ka3
      refine hN _ _ ⟨z4, z5, z6, z7, z8, ss' ++ a, ys' ++ b, rfl, kp.trans k3, ka3, fun v hv => ?_, fun v hv => ?_, by rw [List.length_append]; omega, by rw [List.length_append]; omega⟩
      · rcases List.mem_append.mp hv with hv | hv
        · exact (h1 v hv).kt kt3
        · exact ha v hv
      · rcases List.mem_append.mp hv with hv | hv
        · exact (h2 v hv).kt kt3
        · exact hb v hv
    rcases StD.cases (hst _ (List.mem_of_getElem? hrd)) with hsd | ⟨k', e, b1, b2, rfl, rfl, hx1, hb1, hb2, l1', l2'⟩
    · rcases hsd with ⟨y, e, hy, rfl, hx1⟩ | ⟨y, e, hy, rfl, hx1⟩ | ⟨w, e, hw, rfl, hx1⟩ | ⟨pe, kk, le, me, hkk, rfl, hx1, hx2, hx3⟩
      · obtain ⟨ra, rx, q', rfl, rfl, hra, pr⟩ := Tz.tuple_inv0 zr
        cases pr with | cons y1 pr =>
        cases pr with | cons y2 pr =>
        cases pr with | cons y3 pr =>
        cases pr
        rw [Tz.str_inv y1, Tz.str_inv y2] at hra
        wide_line using [hra]
        rw [if_neg (by decide +kernel)]
        refine atK_n 2 rfl rfl ?_
        refine number_on ka hea1 t0 l0 l1 y3 hx1 fun i H2 s2 i0 i1 => ?_
        obtain ⟨⟨vs, st, ct, hv, hk2, hv2⟩, hs2, hy2⟩ := ka.same s2
        have hra2 := s2 _ _ hra
        simp only [hk2, valV_kn.1, hra2, seqAt_tup, atK_one, hv2]
        obtain ⟨vs', hv', ep⟩ := putK_vs hv hy i0 i1
        rw [ep]
        refine ⟨vsK_len hv hns, fin (a := []) (b := []) ((Keep.same s2).up (by simp)) ?_ (by simp) (by simp) (by simp) (by simp)⟩
        rw [List.append_nil, List.append_nil]
        exact ⟨⟨vs', st, ct, hv', by rw [upd_ne n12]; exact hk2, upd_same⟩, by rw [upd_ne n23.symm]; exact hs2, by rw [upd_ne n24.symm]; exact hy2⟩
      · obtain ⟨ra, rx, q', rfl, rfl, hra, pr⟩ := Tz.tuple_inv0 zr
        cases pr with | cons y1 pr =>
        cases pr with | cons y2 pr =>
        cases pr with | cons y3 pr =>
        cases pr
        rw [Tz.str_inv y1, Tz.str_inv y2] at hra
        wide_line using [hra]
        rw [if_neg (by decide +kernel), if_neg (by decide +kernel)]
        refine seq1 ?_
        wide_line using [hra]
        refine atK_n 2 rfl rfl ?_
        refine number_on ka hea1 t0 l0 l1 y3 hx1 fun i H2 s2 i0 i1 => ?_
        obtain ⟨⟨vs, st, ct, hv, hk2, hv2⟩, hs2, hy2⟩ := ka.same s2
        have hra2 := s2 _ _ hra
        refine seq1 ?_
        wide_line using [hk2, valV_kn.2.1]
        refine ⟨.inr ⟨by decide, by decide⟩, ?_⟩
        generalize st * 2862933 + 3037 = gr
        refine seq1 ?_
        wide_line using [hk2, valV_kn.2.1]
        refine ⟨⟨by decide, by decide, by decide⟩, ⟨by decide, by decide +kernel⟩, ⟨by decide, by decide, by decide⟩, .inr ⟨by decide, by decide⟩, (show 5 < sizeLine by rw [sizeLine_eq]; decide), ?_⟩
        generalize gr - gr / 2 ^ Int.toNat 31 * 2 ^ Int.toNat 31 = st2
        have nra : ra ≠ kn := by rintro rfl; rw [hk2] at hra2; cases hra2
        have hv3 : upd H2 kn (.dK (knK vd sl yl st2 ct)) vd = some (.dK (vsK vs)) := by rw [upd_ne n12.symm]; exact hv2
        have go : ∀ j, 0 ≤ j → j ≤ 999999 → (vsK vs).length < sizeLine ∧ N [some mv, some (V.ref kn), some (V.ref ev), some (V.ref ba), some (V.ref ra), some (V.int i), some (V.int gr), z7, z8] (upd (upd H2 kn (.dK (knK vd sl yl st2 ct))) vd (.dK (putK (vsK vs) (.inr y) (.int j)))) := fun j j0 j1 => by
          obtain ⟨vs', hv', ep⟩ := putK_vs hv hy j0 j1
          rw [ep]
          refine ⟨vsK_len hv hns, fin (a := []) (b := []) (((Keep.same s2).up (by simp)).up (by simp)) ?_ (by simp) (by simp) (by simp) (by simp)⟩
          rw [List.append_nil, List.append_nil]
          exact ⟨⟨vs', st2, ct, hv', by rw [upd_ne n12]; exact upd_same, upd_same⟩, by rw [upd_ne n23.symm, upd_ne n13.symm]; exact hs2, by rw [upd_ne n24.symm, upd_ne n14.symm]; exact hy2⟩
        simp only [putK_stream, valV_kn.1, valV_kn.2.1, upd_ne nra, hra2, hv3, seqAt_tup, atK_one]
        by_cases hi0 : 0 < i
        · rw [if_pos hi0]
          exact ⟨⟨by decide, by decide⟩, hi0, go _ (Int.emod_nonneg _ (by omega)) (by have := Int.emod_lt_of_pos (st2 / 64) hi0; omega)⟩
        · rw [if_neg hi0]
          exact go _ (by decide) (by decide)
      · obtain ⟨ra, rx, q', rfl, rfl, hra, pr⟩ := Tz.tuple_inv0 zr
        cases pr with | cons y1 pr =>
        cases pr with | cons y2 pr =>
        cases pr with | cons y3 pr =>
        cases pr
        rw [Tz.str_inv y1, Tz.str_inv y2] at hra
        wide_line using [hra]
        rw [if_neg (by decide +kernel), if_neg (by decide +kernel), if_neg (by decide +kernel)]
        obtain ⟨⟨vs, st, ct, hv, hk1, hv1⟩, hs1', hy1'⟩ := id ka
        simp only [hk1, valV_kn.2.2.2.2, hea1, hra, hy1', seqAt_tup, atK_one, atK_zero]
        refine atK_n 2 rfl rfl ?_
        refine number_on ka hea1 t0 l0 l1 y3 hx1 fun i H2 s2 i0 i1 => ?_
        obtain ⟨⟨vs2, st2, ct2, hv2, hk2, hvd2⟩, hs2, hy2⟩ := id (ka.same s2)
        refine ⟨by rw [sizeLine_eq]; decide, fun p1 hp1 => ?_⟩
        have sA := same_new (o := .tup [.int t, .str p, .str w, .int i]) hp1
        have tz : Tz (upd H2 p1 (.tup [.int t, .str p, .str w, .int i])) 1 (.ref p1) (.tuple [.int t, .str p, .str w, .int i]) := .tup upd_same (by simp) (.cons .int (.cons (.str (strOk_nm.1 _ (List.mem_of_mem_take hp))) (.cons (.str (sayW_ok hw)) (.cons .int .nil))))
        have ka3 := (ka.same s2).same sA
        have kp3 : Keep [kn, vd, sl, yl] H1 _ := (Keep.same s2).trans (.same sA)
        generalize upd H2 p1 _ = H3 at *
        obtain ⟨⟨vs3, st3, ct3, hv3, hk3, hvd3⟩, hs3, hy3⟩ := ka3
        simp only [hy3]
        refine ⟨by rw [List.length_append, sizeLine_eq]; omega, fin (a := []) (b := [.ref p1]) (kp3.up (by simp)) ?_ (by simp) ?_ (by simp) (by simpa using p1')⟩
        · rw [List.append_nil]
          exact ⟨⟨vs3, st3, ct3, hv3, by rw [upd_ne n14]; exact hk3, by rw [upd_ne n24]; exact hvd3⟩, by rw [upd_ne n34]; exact hs3, upd_same⟩
        · intro v hv
          simp at hv
          subst hv
          exact ⟨_, tz.kt (KT.mut (by rw [hy3]; rfl)), t, i, p, w, rfl, List.mem_of_mem_take hp, hw⟩
      · obtain ⟨ra, rx, q', rfl, rfl, hra, pr⟩ := Tz.tuple_inv0 zr
        cases pr with | cons y1 pr =>
        cases pr with | cons y2 pr =>
        cases pr with | cons y3 pr =>
        cases pr with | cons y4 pr =>
        cases pr with | cons y5 pr =>
        cases pr
        rw [Tz.str_inv y1, Tz.str_inv y3] at hra
        wide_line using [hra]
        rw [if_neg (by decide +kernel), if_neg (by decide +kernel), if_neg (by decide +kernel), if_neg (by decide +kernel)]
        obtain ⟨ma, ms, rfl, hma, hml, mpr⟩ := hm1
        have ml := paired_len mpr
        refine seq1 ?_
        wide_line using [hma, hra]
        refine number_on ka hea1 t0 l0 l1 y2 hx1 fun i H2 s2 i0 i1 => ?_
        have hma2 := s2 _ _ hma
        simp only [hma2, seqAt_tup]
        obtain ⟨hm0, hm5, hmj⟩ := hmd
        refine ⟨by omega, ?_⟩
        have e0 := Int.emod_nonneg i (b := (ms.length : Int)) (by omega)
        have e1 := Int.emod_lt_of_pos i (b := (ms.length : Int)) (by omega)
        generalize i % (ms.length : Int) = r at *
        obtain ⟨j, rfl⟩ := Int.eq_ofNat_of_zero_le e0
        have hj : j < ms.length := by omega
        obtain ⟨pd, hpd, pz⟩ := pairedGet mpr (List.getElem?_eq_getElem hj)
        obtain ⟨nm, hnm, ns', is', rules, rfl, _⟩ := hmj j pd hpd
        obtain ⟨pa, nm', va, vd', ra', ob, rx', rd', e, ed, hpa, _⟩ := pz
        injection ed with ed
        injection ed with ed1 _
        injection ed1 with ed1
        subst ed1
        have hnt : nm ∈ placeNames.take ds.length := by
          rw [List.mem_iff_getElem?]
          exact ⟨j, by rw [List.getElem?_take, if_pos (by omega)]; exact hnm⟩
        refine atK_nat (List.getElem?_eq_getElem hj) ?_
        rw [e]
        simp only [s2 _ _ hpa, seqAt_tup, atK_zero]
        have hra2 := s2 _ _ hra
        refine seq1 ?_
        wide_line using [hra2]
        refine atK_n 3 rfl rfl ?_
        refine number_on (ka.same s2) (s2 _ _ hea1) t0 l0 l1 (y4.kt (.same s2)) hx2 fun i2 H3 s3 i20 i21 => ?_
        have hlt : 1 ≤ (if i2 > 1 then i2 else 1) := by split <;> omega
        have s23 := s2.trans s3
        have hra3 := s3 _ _ hra2
        have hea3 := s23 _ _ hea1
        obtain ⟨⟨vs3, st3, ct3, hv3, hk3, hvd3⟩, hs3, hy3⟩ := id (ka.same s23)
        refine seq1 ?_
        wide_line using [hk3, valV_kn.2.2.2.1, hra3, hea3, hs3]
        refine atK_n 2 rfl rfl ?_
        refine atK_n 4 rfl rfl ?_
        refine number_on (ka.same s23) hea3 t0 l0 l1 (y5.kt (.same s23)) hx3 fun i4 H4 s4 i40 i41 => ?_
        have s24 := s23.trans s4
        have hea4 := s4 _ _ hea3
        obtain ⟨⟨vs4, st4, ct4, hv4, hk4, hvd4⟩, hs4, hy4⟩ := id (ka.same s24)
        simp only [hk4, valV_kn.2.2.1, hea4, seqAt_tup, atK_one]
        refine ⟨by rw [sizeLine_eq]; decide, fun p1 hp1 => ?_⟩
        have hlt0 : 0 ≤ t + (if i2 > 1 then i2 else 1) := by omega
        generalize t + (if i2 > 1 then i2 else 1) = t2 at *
        have sA := same_new (o := .tup [.int t2, .str nm, .str kk, .int i4, .str p, .int ct4]) hp1
        have tz : Tz (upd H4 p1 (.tup [.int t2, .str nm, .str kk, .int i4, .str p, .int ct4])) 1 (.ref p1) (.tuple [.int t2, .str nm, .str kk, .int i4, .str p, .int ct4]) := .tup upd_same (by simp) (.cons .int (.cons (.str (strOk_nm.1 _ (List.mem_of_mem_take hnt))) (.cons (.str (kind_ok hkk)) (.cons .int (.cons (.str (strOk_nm.1 _ (List.mem_of_mem_take hp))) (.cons .int .nil))))))
        have ka5 := (ka.same s24).same sA
        have kp5 : Keep [kn, vd, sl, yl] H1 _ := (Keep.same s24).trans (.same sA)
        have hk5 := sA _ _ hk4
        have hvd5 := sA _ _ hvd4
        have hs5 := sA _ _ hs4
        have hy5 := sA _ _ hy4
        generalize upd H4 p1 _ = H5 at *
        simp only [hs5]
        refine ⟨by rw [List.length_append, sizeLine_eq]; omega, ?_⟩
        simp only [upd_ne n13, hk5, valV_kn.2.2.1, putK_count]
        refine ⟨(show 5 < sizeLine by rw [sizeLine_eq]; decide), fin (a := [.ref p1]) (b := []) ((kp5.up (by simp)).up (by simp)) ?_ ?_ (by simp) (by simpa using p1') (by simp)⟩
        · rw [List.append_nil]
          exact ⟨⟨vs4, st4, ct4 + 1, hv4, upd_same, by rw [upd_ne n12.symm, upd_ne n23]; exact hvd5⟩, by rw [upd_ne n13.symm]; exact upd_same, by rw [upd_ne n14.symm, upd_ne n34.symm]; exact hy5⟩
        · intro v hv
          simp at hv
          subst hv
          have kt : KT H5 (upd (upd H5 sl (.lst (ss ++ ss' ++ [.ref p1]))) kn (.dK (knK vd sl yl st4 (ct4 + 1)))) := (KT.mut (by rw [hs5]; rfl)).trans (KT.mut (by rw [upd_ne n13, hk5]; rfl))
          exact ⟨_, tz.kt kt, t2, i4, ct4, nm, kk, p, rfl, hlt0, hnt, hkk, i40, i41, .inr (List.mem_of_mem_take hp)⟩
    · obtain ⟨ra, rx, q', rfl, rfl, hra, pr⟩ := Tz.tuple_inv0 zr
      cases pr with | cons y1 pr =>
      cases pr with | cons y2 pr =>
      cases pr with | cons y3 pr =>
      cases pr with | cons y4 pr =>
      cases pr
      rw [Tz.str_inv y1] at hra
      obtain ⟨n', rfl⟩ : ∃ n', n = n' + 1 := ⟨n - 1, by omega⟩
      have pw : 5 ^ (k' + 1) = 5 * 5 ^ k' := by rw [Nat.pow_succ, Nat.mul_comm]
      wide_line using [hra]
      refine number_on ka hea1 t0 l0 l1 y2 hx1 fun i1 H2 s2 i10 i11 => ?_
      have hra2 := s2 _ _ hra
      have ka2 := ka.same s2
      have go : ∀ v b, Tz H2 q' v (.tuple b) → (∀ x ∈ b, StD ns k' x) → b.length ≤ 5 → sq [mv, .ref kn, .ref ev, v] H2 (fun _ H1 => N [some mv, some (.ref kn), some (.ref ev), some (.ref ba), some (.ref ra), z5, z6, z7, z8] H1) E0 := fun v b zb hb lb => by
        have l5 : b.length * 5 ^ k' ≤ 5 * 5 ^ k' := Nat.mul_le_mul_right _ lb
        refine hsq _ _ _ _ ⟨n', rfl, mv, v, kn, vd, sl, yl, ev, ds, b, ns, ss ++ ss', ys ++ ys', k', q', _, rfl, by omega, by omega, hm1.kt (KTF.same s2), hmd, hns, ka2, nd, (hev0.kt ktf.kt).kt (.same s2), evd, zb, hb, by rw [List.length_append]; omega, by rw [List.length_append]; omega, fun H3 a c k3 ka3 ha hc la lc => ?_⟩
        exact fin (a := a) (b := c) ((Keep.same s2).trans k3) ka3 ha hc (by omega) (by omega)
      dsimp only
      by_cases hi1 : 0 < i1
      · rw [if_pos hi1]
        simp only [hra2, seqAt_tup]
        exact atK_n 2 rfl rfl (go _ b1 (y3.kt (.same s2)) hb1 l1')
      · rw [if_neg hi1]
        simp only [hra2, seqAt_tup]
        exact atK_n 3 rfl rfl (go _ b2 (y4.kt (.same s2)) hb2 l2')
theorem r_law_do0 {K : PySem.W.Frag} {A : Ads} {E : XK} {vs : List V} {H : Hp} {Q : VK} (h : sp_law_do 0 vs H Q E) : t_law_do K A E (fun _ _ _ _ => False) { nx := fun _ H' => Q .non H', rt := Q } (L2.start ["model", "known", "event", "body", "row", "most", "grown", "place", "later"] vs) H := do_walk (fun _ _ _ _ ⟨_, e, _⟩ => by cases e) h
theorem r_law_do {K : PySem.W.Frag} {A : Ads} {E : XK} {vs : List V} {H : Hp} {Q : VK} {n : Nat} (h : sp_law_do (n + 1) vs H Q E) : t_law_do K A E (sp_law_do n) { nx := fun _ H' => Q .non H', rt := Q } (L2.start ["model", "known", "event", "body", "row", "most", "grown", "place", "later"] vs) H := do_walk (fun _ _ _ _ ⟨m, e, h⟩ => by cases e; exact h) h
theorem mergeK_nodup : ∀ {kvs acc : List (L2.Key × V)}, ((acc ++ kvs).map (·.1)).Nodup → mergeK acc kvs = acc ++ kvs
  | [], acc, _ => by simp [mergeK]
  | kv :: kvs, acc, h => by
    have hn : valV acc kv.1 = none := by
      cases e : valV acc kv.1 with
      | none => rfl
      | some v =>
        exfalso
        have hm := valV_in e
        rw [List.map_append, List.nodup_append] at h
        exact h.2.2 _ hm _ (by simp) rfl
    show mergeK (putK acc kv.1 kv.2) kvs = _
    rw [putK_new _ hn, mergeK_nodup (by simpa using h)]
    simp
theorem valV_merge : ∀ {kvs acc : List (L2.Key × V)} {k : L2.Key} {v : V}, valV (mergeK acc kvs) k = some v → valV acc k = some v ∨ (k, v) ∈ kvs
  | [], acc, k, v, h => .inl h
  | kv :: kvs, acc, k, v, h => by
    rcases valV_merge (kvs := kvs) (acc := putK acc kv.1 kv.2) h with h | h
    · rw [valV_put] at h
      split at h
      · rename_i e
        cases h
        exact .inr (by rw [e]; exact List.mem_cons_self ..)
      · exact .inl h
    · exact .inr (List.mem_cons_of_mem _ h)
theorem vsK_merge {ns : List Str} {vs : List (Str × Int)} (h : VsOk ns vs) : mergeK [] (vsK vs) = vsK vs := by
  refine mergeK_nodup ?_
  rw [List.nil_append]
  obtain ⟨e, nd, _⟩ := h
  have : (vsK vs).map (·.1) = ns.map Sum.inr := by
    rw [← e]; unfold vsK; rw [List.map_map, List.map_map]; rfl
  rw [this]
  exact List.Pairwise.map _ (fun a b hn e => hn (by injection e)) nd
theorem place_inj {i j : Nat} {p : Str} (hi : placeNames[i]? = some p) (hj : placeNames[j]? = some p) : i = j := by
  have li := (List.getElem?_eq_some_iff.mp hi).1
  have lj := (List.getElem?_eq_some_iff.mp hj).1
  have nd : placeNames.Nodup := by decide +kernel
  exact (List.getElem?_inj li nd).mp (hi.trans hj.symm)
theorem var_nodup : varNames.Nodup := by decide +kernel
theorem paired_fR {α β γ : Type} {G : α → γ → Prop} {f : β → γ} : ∀ {xs : List α} {ys : List β}, Paired (fun a b => G a (f b)) xs ys → Paired G xs (ys.map f)
  | _, _, .nil => .nil
  | _, _, .cons h t => .cons h (paired_fR t)
theorem rules_at {K : PySem.W.Frag} {H : Hp} {ns : List Str} : ∀ {rx : List V} {rules : List PyData}, Paired (Tz H 12) rx rules → (∀ r ∈ rules, RuleD ns r) → ∃ (ps : List Addr) (kvs : List (L2.Key × V)), rx = ps.map V.ref ∧ Paired (fun p kv => SqT K H p [kV kv.1, kv.2]) ps kvs ∧ ∀ kv ∈ kvs, ∃ b, Tz H 11 kv.2 (.tuple b) ∧ b.length ≤ 5 ∧ ∀ s ∈ b, StD ns 3 s
  | _, _, .nil, _ => ⟨[], [], rfl, .nil, by simp⟩
  | _, _, .cons (b := d) z t, h => by
    obtain ⟨ps, kvs, e, pr, hk⟩ := rules_at (K := K) t fun r hr => h r (List.mem_cons_of_mem _ hr)
    obtain ⟨k, b, rfl, hkw, bl, hb⟩ := h d (List.mem_cons_self ..)
    obtain ⟨a, xs, m, em, rfl, ha, apr⟩ := Tz.tuple_inv0 z
    cases apr with | cons a1 apr =>
    cases apr with | @cons v2 _ _ _ a2 apr =>
    cases apr
    cases em
    rw [Tz.str_inv a1] at ha
    refine ⟨a :: ps, (.inr k, v2) :: kvs, by rw [e]; rfl, .cons (.inl (.inl ha)) pr, fun kv hkv => ?_⟩
    rcases List.mem_cons.mp hkv with rfl | hkv
    · exact ⟨b, a2, bl, hb⟩
    · exact hk kv hkv
theorem zip_range {ns : List Str} {is : List Int} (h : is.length = ns.length) : vsK (ns.zip is) = (List.range ns.length).map fun i => ((.inr (ns.getD i "") : L2.Key), V.int (is.getD i 0)) := by
  unfold vsK
  refine List.ext_getElem (by simp; omega) fun i h1 h2 => ?_
  simp at h2
  simp [h2, h]
theorem vsOk_zip {ns : List Str} {is : List Int} (h : is.length = ns.length) (nd : ns.Nodup) (hb : ∀ i ∈ is, 0 ≤ i ∧ i ≤ 999999) : VsOk ns (ns.zip is) :=
  ⟨List.map_fst_zip (by omega), nd, fun p hp => hb _ (List.of_mem_zip (a := p.1) (b := p.2) hp).2⟩
theorem md_at {H : Hp} {ms : List V} {ds : List PyData} (mpr : Paired (PlAt H) ms ds) (hmj : ∀ (j : Nat) d, ds[j]? = some d → ∃ nm, placeNames[j]? = some nm ∧ PlaceD nm d) {i : Nat} (hi : i < ms.length) : ∃ (pa : Addr) (nm : Str) (va : V) (vd : PyData) (ra : Addr) (ob : Obj) (rx : List V) (rd : List PyData), ms[i]? = some (.ref pa) ∧ H pa = some (.tup [.str nm, va, .ref ra]) ∧ placeNames[i]? = some nm ∧ ds[i]? = some (.tuple [.str nm, vd, .tuple rd]) ∧ Tz H 2 va vd ∧ H ra = some (.frz ob (.tup rx)) ∧ PlainTup ob ∧ Paired (Tz H 12) rx rd := by
  obtain ⟨pd, hpd, pz⟩ := pairedGet mpr (List.getElem?_eq_getElem hi)
  obtain ⟨nm, hnm, ns', is', rules, rfl, _⟩ := hmj i pd hpd
  obtain ⟨pa, nm', va, vd, ra, ob, rx, rd, e, ed, hpa, z, hra, po, _, pr⟩ := pz
  injection ed with ed
  injection ed with ed1 ed
  injection ed1 with ed1
  injection ed with ed2 ed
  injection ed with ed3 ed
  injection ed3 with ed3
  subst ed1 ed2 ed3
  exact ⟨pa, nm, va, _, ra, ob, rx, _, by rw [List.getElem?_eq_getElem hi, e], hpa, hnm, hpd, z, hra, po, pr⟩
theorem r_law_step {K : PySem.W.Frag} {A : Ads} {E : XK} {vs : List V} {H : Hp} {Q : VK} (h : sp_law_step vs H Q E) : t_law_step K A E { nx := fun _ H' => Q .non H', rt := Q } (L2.start ["model", "state", "event", "number", "names", "known", "body", "name", "first", "k"] vs) H := by
  obtain ⟨mv, sv, ev, ds, ed, rfl, hm, hmd, hev, evd, hst, kq⟩ := h
  obtain ⟨t, l, c, p, kd, s, rfl, t0, hp, hkd, l0, l1, hs⟩ := evd
  have evd : EvD ds.length (.tuple [.int t, .str p, .str kd, .int l, .str s, .int c]) := ⟨t, l, c, p, kd, s, rfl, t0, hp, hkd, l0, l1, hs⟩
  have hev0 := hev
  obtain ⟨ea, exs, m0, _, e1, hea, epr⟩ := Tz.tuple_inv0 hev
  cases e1
  have ee : exs = [.int t, .str p, .str kd, .int l, .str s, .int c] := by
    cases epr with | cons z1 epr =>
    cases epr with | cons z2 epr =>
    cases epr with | cons z3 epr =>
    cases epr with | cons z4 epr =>
    cases epr with | cons z5 epr =>
    cases epr with | cons z6 epr =>
    cases epr
    rw [Tz.int_inv z1, Tz.str_inv z2, Tz.str_inv z3, Tz.int_inv z4, Tz.str_inv z5, Tz.int_inv z6]
  subst ee
  clear epr
  have hm0 := hm
  obtain ⟨ma, ms, rfl, hma, hml, mpr⟩ := hm
  have ml := paired_len mpr
  obtain ⟨hmd0, hmd5, hmj⟩ := id hmd
  obtain ⟨sa, va, st, ct, is, ns, rfl, hsa, hva, hns, il, ib⟩ := hst
  obtain ⟨j, is0, rules, hdj, hpj, il0, ⟨r, ens⟩, rl, hrl⟩ := hns
  simp only [evP] at hpj hdj kq
  have hj : j < ds.length := (List.getElem?_eq_some_iff.mp hdj).1
  have nsl : ns.length ≤ 3 := by rw [ens, List.length_take]; simp [varNames]; omega
  have nso : OkNs ns := ⟨by omega, fun x hx => strOk_nm.2 _ (by rw [ens] at hx; exact List.mem_of_mem_take hx)⟩
  unfold t_law_step
  refine seq1 ?_
  wide_line using [hma]
  refine ⟨⟨by omega, by omega⟩, ?_⟩
  refine lcR_core (n := ms.length) (by omega) (fun i => decide (i = j)) (fun i v _ => v = .int (i : Nat)) (fun _ _ _ _ _ h => h) (fun i hi H1 s1 k1 k0 hk1 hk0 => ?_) fun D H1 ys hD s1 hDs pr => ?_
  · unfold LcTurn
    wide_line using [s1 _ _ hma, s1 _ _ hea]
    obtain ⟨pa, nm, va', vd, ra, ob, rx, rd, hmi, hpa, hnm, _⟩ := md_at mpr hmj (i := i) (by omega)
    have e0 : (0 : Int) + (i : Int) = (i : Int) := by omega
    rw [e0]
    refine atK_nat hmi ?_
    simp only [s1 _ _ hpa, seqAt_tup, atK_zero]
    by_cases e : i = j
    · have : nm = p := by rw [e, hpj] at hnm; exact (Option.some.inj hnm).symm
      rw [if_pos this]
      exact hk1 (by simp [e]) _ _ (Same.refl _) rfl
    · have : ¬ nm = p := fun z => e (place_inj hnm (by rw [z]; exact hpj))
      rw [if_neg this]
      exact hk0 (by simp [e]) _ (Same.refl _)
  · have hmem : j ∈ (List.range ms.length).filter (fun i => decide (i = j)) := by simp; omega
    have hh : ∃ zs, ys = .int (j : Nat) :: zs := by
      generalize hfl : (List.range ms.length).filter (fun i => decide (i = j)) = fl at pr hmem
      cases pr with
      | nil => simp at hmem
      | @cons a b as bs h t =>
        have : a ∈ (List.range ms.length).filter (fun i => decide (i = j)) := by rw [hfl]; exact List.mem_cons_self ..
        have ea : a = j := by simpa using (List.mem_filter.mp this).2
        exact ⟨_, by rw [h, ea]⟩
    obtain ⟨zs, rfl⟩ := hh
    simp only [hDs, seqAt_lst, atK_zero]
    have hma1 := s1 _ _ hma
    have mpr1 := Paired.mapP mpr fun _ _ z => PlAt.kt (KTF.same s1) z
    obtain ⟨pa, nm, va', vd, ra, ob, rx, rd, hmi, hpa, hnm, hdj', z, hra, po, rpr⟩ := md_at mpr1 hmj (i := j) (by omega)
    rw [hpj] at hnm
    cases hnm
    rw [hdj] at hdj'
    injection hdj' with hdj'
    injection hdj' with hdj'
    injection hdj' with _ hdj'
    injection hdj' with ed2 hdj'
    injection hdj' with ed3 _
    injection ed3 with ed3
    subst ed2 ed3
    obtain ⟨vl, vx, q0, e0, rfl, hvl, vpr⟩ := Tz.tuple_inv0 z
    cases e0
    refine seq1 ?_
    wide_line using [hma1]
    refine atK_nat hmi ?_
    simp only [hpa, seqAt_tup, atK_one]
    have vlen := paired_len vpr
    have zl : (List.zipWith varD ns is0).length = ns.length := by rw [List.length_zipWith, il0, Nat.min_self]
    refine lcT_core hvl (by omega) (fun _ => true) (fun x y H => ∃ a b, x = V.ref a ∧ H a = some (.tup [y, b])) (fun _ _ _ _ k ⟨a, b, e, h⟩ => ⟨a, b, e, k _ _ h⟩) (fun x hx H2 s2 k1 k0 hk1 _ => ?_) fun D2 H2 ws hD2 s2 hDs2 wpr => ?_
    · obtain ⟨i, hi⟩ := List.mem_iff_getElem?.mp hx
      obtain ⟨d, hd, zd⟩ := pairedGet vpr hi
      obtain ⟨nm, n0, rfl⟩ := mem_varD (List.mem_of_getElem? hd)
      obtain ⟨a, xs, m, _, rfl, ha, apr⟩ := Tz.tuple_inv0 zd
      cases apr with | cons a1 apr =>
      cases apr with | cons a2 apr =>
      cases apr
      rw [Tz.str_inv a1, Tz.int_inv a2] at ha
      unfold LcTurn
      wide_line using [s2 _ _ ha]
      exact hk1 rfl _ _ (Same.refl _) ⟨a, _, rfl, s2 _ _ ha⟩
    · rw [List.filter_eq_self.mpr (fun _ _ => rfl)] at wpr
      have ew := pair_names il0 (Paired.mapP vpr fun _ _ z => z.kt (.same s2)) wpr
      subst ew
      have sH := s1.trans s2
      have hsa2 := sH _ _ hsa
      have hva2 := sH _ _ hva
      have hea2 := sH _ _ hea
      have hma2 := sH _ _ hma
      have hpa2 := s2 _ _ hpa
      have hra2 := s2 _ _ hra
      have rpr2 := Paired.mapP rpr fun _ _ z => z.kt (.same s2)
      refine seq1 ?_
      wide_line using [upd_same]
      intro kn hkn
      have sK := same_new (o := .dK []) hkn
      have qK : upd H2 kn (.dK []) kn = some (.dK []) := upd_same
      have sH3 := sH.trans sK
      have hsa3 := sK _ _ hsa2
      have hva3 := sK _ _ hva2
      have hD3 := sK _ _ hDs2
      generalize hH3 : upd H2 kn (.dK []) = H3 at *
      simp only [hD3, seqAt_lst, List.length_map]
      refine ⟨⟨by omega, by omega⟩, ?_⟩
      refine lcR_new (n := ns.length) (by omega) (fun i => .tup [.str (ns.getD i ""), .int (is.getD i 0)]) (fun i hi H4 s4 k1 k0 hk1 => ?_) fun D3 H4 qs hD3n s4 hDs3 qnd hq0 hqn qpr => ?_
      · unfold LcTurn
        wide_line using [s4 _ _ hD3, s4 _ _ hsa3, s4 _ _ hva3]
        have e0 : (0 : Int) + (i : Int) = (i : Int) := by omega
        rw [e0]
        have h1 : (ns.map V.str)[i]? = some (.str (ns.getD i "")) := by simp [hi]
        have h2 : (is.map V.int)[i]? = some (.int (is.getD i 0)) := by
          have : i < is.length := by omega
          simp [this]
        refine atK_nat h1 (atK_nat h2 ⟨by rw [sizeLine_eq]; decide, fun p1 hp1 => hk1 _ _ (same_new hp1) hp1 upd_same⟩)
      · have vok : VsOk ns (ns.zip is) := vsOk_zip il (by rw [ens]; exact var_nodup.sublist (List.take_sublist ..)) ib
        refine ⟨D3, qs, vsK (ns.zip is), rfl, .of hDs3, ?_, fun vd hvd => ?_⟩
        · rw [zip_range il]
          exact paired_fR (Paired.mapP qpr fun _ _ h => .inl (.inl h))
        rw [vsK_merge vok]
        have sV := same_new (o := .dK (vsK (ns.zip is))) hvd
        have qV : upd H4 vd (.dK (vsK (ns.zip is))) vd = some (.dK (vsK (ns.zip is))) := upd_same
        have kn4 := s4 _ _ qK
        have nkv : kn ≠ vd := ne_of_none kn4 hvd
        have kn5 := sV _ _ kn4
        have sH5 := (sH3.trans s4).trans sV
        have sHk := (sK.trans s4).trans sV
        have hsa5 := sV _ _ (s4 _ _ hsa3)
        have nDk : D2 ≠ kn := ne_of_none hDs2 hkn
        have nDv : D2 ≠ vd := ne_of_none (s4 _ _ hD3) hvd
        have hD5 := sV _ _ (s4 _ _ hD3)
        generalize upd H4 vd (.dK (vsK (ns.zip is))) = H5 at *
        simp only [hsa5, seqAt_tup, atK_one]
        refine atK_n 2 rfl rfl ⟨by rw [sizeLine_eq]; decide, fun sl hsl => ⟨by rw [sizeLine_eq]; decide, fun yl hyl => ?_⟩⟩
        have sS := same_new (o := .lst []) hsl
        have qS : upd H5 sl (.lst []) sl = some (.lst []) := upd_same
        have nks : kn ≠ sl := ne_of_none kn5 hsl
        have nvs : vd ≠ sl := ne_of_none qV hsl
        have sY := same_new (o := .lst []) hyl
        have qY : upd (upd H5 sl (.lst [])) yl (.lst []) yl = some (.lst []) := upd_same
        have nky : kn ≠ yl := ne_of_none (sS _ _ kn5) hyl
        have nvy : vd ≠ yl := ne_of_none (sS _ _ qV) hyl
        have nsy : sl ≠ yl := ne_of_none qS hyl
        have nDs : D2 ≠ sl := ne_of_none hD5 hsl
        have nDy : D2 ≠ yl := ne_of_none (sS _ _ hD5) hyl
        have slH : H sl = none := by
          cases e : H sl with
          | none => rfl
          | some o => have := sH5 _ _ e; rw [hsl] at this; cases this
        have ylH : H yl = none := by
          cases e : H yl with
          | none => rfl
          | some o => have := (sH5.trans sS) _ _ e; rw [hyl] at this; cases this
        have qS := sY _ _ qS
        have qV := sY _ _ (sS _ _ qV)
        have kn7 := sY _ _ (sS _ _ kn5)
        have sH7 := (sH5.trans sS).trans sY
        have sHk := (sHk.trans sS).trans sY
        generalize upd (upd H5 sl (.lst [])) yl (.lst []) = H7 at *
        refine ⟨kn7, [(.inr "values", .ref vd), (.inr "stream", .int st), (.inr "count", .int ct), (.inr "sent", .ref sl), (.inr "said", .ref yl)], rfl, by simp, ?_⟩
        have em : mergeK [] [((.inr "values" : L2.Key), V.ref vd), (.inr "stream", .int st), (.inr "count", .int ct), (.inr "sent", .ref sl), (.inr "said", .ref yl)] = knK vd sl yl st ct := rfl
        rw [em]
        have knH : H kn = none := by
          cases e : H kn with
          | none => rfl
          | some o => have := sH _ _ e; rw [hkn] at this; cases this
        have vdH : H vd = none := by
          cases e : H vd with
          | none => rfl
          | some o => have := (sH3.trans s4) _ _ e; rw [hvd] at this; cases this
        have sM : Same H2 (upd H7 kn (.dK (knK vd sl yl st ct))) := same_mut sHk hkn
        have sH8 : Same H (upd H7 kn (.dK (knK vd sl yl st ct))) := same_mut sH7 knH
        have kn8 : upd H7 kn (.dK (knK vd sl yl st ct)) kn = some (.dK (knK vd sl yl st ct)) := upd_same
        have vd8 : upd H7 kn (.dK (knK vd sl yl st ct)) vd = some (.dK (vsK (ns.zip is))) := by rw [upd_ne nkv.symm]; exact qV
        have sl8 : upd H7 kn (.dK (knK vd sl yl st ct)) sl = some (.lst []) := by rw [upd_ne nks.symm]; exact qS
        have yl8 : upd H7 kn (.dK (knK vd sl yl st ct)) yl = some (.lst []) := by rw [upd_ne nky.symm]; exact qY
        generalize upd H7 kn (.dK (knK vd sl yl st ct)) = H8 at *
        have hma8 := sM _ _ hma2
        have hpa8 := sM _ _ hpa2
        have hra8 := sM _ _ hra2
        have hea8 := sM _ _ hea2
        have rpr8 := Paired.mapP rpr2 fun _ _ z => z.kt (.same sM)
        obtain ⟨ps, kvs, erx, kpr, hkvs⟩ := rules_at (K := K) rpr8 hrl
        subst erx
        refine seq1 ?_
        wide_line using [hma8]
        refine atK_nat hmi ?_
        simp only [hpa8, seqAt_tup]
        refine atK_n 2 rfl rfl ⟨ra, ob, ps, kvs, rfl, hra8, po, kpr, fun dp hdp => ?_⟩
        have sD := same_new (o := .dK (mergeK [] kvs)) hdp
        have qD : upd H8 dp (.dK (mergeK [] kvs)) dp = some (.dK (mergeK [] kvs)) := upd_same
        have hea9 := sD _ _ hea8
        have sH9 := sH8.trans sD
        have sM9 := sM.trans sD
        have kna : KnAt (upd H8 dp (.dK (mergeK [] kvs))) kn vd sl yl ns [] [] := ⟨⟨_, st, ct, vok, sD _ _ kn8, sD _ _ vd8⟩, sD _ _ sl8, sD _ _ yl8⟩
        have hkv9 : ∀ kv ∈ kvs, ∃ b, Tz _ 11 kv.2 (.tuple b) ∧ b.length ≤ 5 ∧ ∀ s ∈ b, StD ns 3 s := fun kv h => let ⟨b, z, r⟩ := hkvs kv h; ⟨b, z.kt (.same sD), r⟩
        generalize upd H8 dp (.dK (mergeK [] kvs)) = H9 at *
        simp only [qD, hea9, seqAt_tup]
        refine atK_n 2 rfl rfl ⟨by rw [sizeLine_eq]; decide, fun zp hzp => ?_⟩
        have sZ := same_new (o := .tup []) hzp
        have tz0 : Tz (upd H9 zp (.tup [])) 1 (.ref zp) (.tuple []) := .tup upd_same (by simp) .nil
        have qD10 := sZ _ _ qD
        have sH10 := sH9.trans sZ
        have sM10 := sM9.trans sZ
        have kna10 := kna.same sZ
        have hkv10 : ∀ kv ∈ kvs, ∃ b, Tz _ 11 kv.2 (.tuple b) ∧ b.length ≤ 5 ∧ ∀ s ∈ b, StD ns 3 s := fun kv h => let ⟨b, z, r⟩ := hkv9 kv h; ⟨b, z.kt (.same sZ), r⟩
        generalize upd H9 zp (.tup []) = H10 at *
        simp only [qD10]
        have hbody : ∃ b q, Tz H10 q ((valV (mergeK [] kvs) (.inr kd)).getD (.ref zp)) (.tuple b) ∧ b.length ≤ 5 ∧ ∀ s ∈ b, StD ns 3 s := by
          cases e : valV (mergeK [] kvs) (.inr kd) with
          | none => exact ⟨[], 1, tz0, by simp, by simp⟩
          | some v =>
            rcases valV_merge e with h | h
            · cases h
            · obtain ⟨b, z, r⟩ := hkv10 _ h
              exact ⟨b, 11, z, r⟩
        obtain ⟨bd, bq, zb, bdl, hbd⟩ := hbody
        generalize (valV (mergeK [] kvs) (.inr kd)).getD (.ref zp) = bv at *
        clear hkv10 hkv9 hkvs qD10 qD sZ sD tz0 hzp hdp
        refine seq1 ?_
        wide_line using [upd_same]
        have hm10 := hm0.kt (KTF.same sH10)
        have hev10 := hev0.kt (.same sH10)
        have hD10 := sM10 _ _ hDs2
        refine ⟨_, bv, kn, vd, sl, yl, ev, ds, bd, ns, [], [], 3, bq, _, rfl, by decide, by decide, hm10, hmd, nso, kna10, by simp [nkv, nks, nky, nvs, nvy, nsy], hev10, evd, zb, hbd, by simp; omega, by simp; omega, fun H11 ss ys k11 ka11 hss hys lss lys => ?_⟩
        have e1 : bd.length * 5 ^ 3 ≤ 625 := by
          have : bd.length * 5 ^ 3 ≤ 5 * 5 ^ 3 := Nat.mul_le_mul_right _ bdl
          omega
        have hD11 := k11 _ _ hD10 (by simp [nDk, nDv, nDs, nDy])
        rw [List.nil_append, List.nil_append] at ka11
        obtain ⟨⟨vs11, st11, ct11, vok11, kn11, vd11⟩, sl11, yl11⟩ := ka11
        have s11 : Same H H11 := fun a o e => by
          have e10 := sH10 _ _ e
          refine k11 _ _ e10 ?_
          simp only [List.mem_cons, List.not_mem_nil, or_false]
          rintro (rfl | rfl | rfl | rfl)
          · rw [knH] at e; cases e
          · rw [vdH] at e; cases e
          · rw [slH] at e; cases e
          · rw [ylH] at e; cases e
        dsimp only
        refine lcL_core (.of hD11) (by rw [List.length_map]; omega) (fun _ => true) (fun x y _ => ∃ r, y = .int r ∧ (0 ≤ r ∧ r ≤ 999999)) (fun _ _ _ _ _ h => h) (fun x hx H12 s12 k1 k0 hk1 _ => ?_) fun D4 H12 ws hD4 s12 hDs4 wpr => ?_
        · obtain ⟨nm, hnm, rfl⟩ := List.mem_map.mp hx
          obtain ⟨r0, hr0, rb⟩ := lookup_bd vok11 hnm
          unfold LcTurn
          wide_line using [s12 _ _ kn11, valV_kn.1, s12 _ _ vd11, valV_vsK hr0]
          exact hk1 rfl _ _ (Same.refl _) ⟨r0, rfl, rb⟩
        rw [List.filter_eq_self.mpr (fun _ _ => rfl)] at wpr
        obtain ⟨rs, ews, rpr3⟩ := paired_ints wpr
        have lrs := paired_len rpr3
        rw [List.length_map] at lrs
        have hrs : ∀ i ∈ rs, 0 ≤ i ∧ i ≤ 999999 := fun i hi => by obtain ⟨_, _, h⟩ := paired_memR rpr3 hi; exact h
        subst ews
        simp only [hDs4]
        intro pa1 hpa1
        have sA := same_new (o := .tup (rs.map V.int)) hpa1
        have qA : upd H12 pa1 (.tup (rs.map V.int)) pa1 = some (.tup (rs.map V.int)) := upd_same
        have s13 := (s11.trans s12).trans sA
        have kn13 := sA _ _ (s12 _ _ kn11)
        have sl13 := sA _ _ (s12 _ _ sl11)
        have yl13 := sA _ _ (s12 _ _ yl11)
        have ss13 : ∀ v ∈ ss, Evs ds.length (upd H12 pa1 (.tup (rs.map V.int))) v := fun v hv => (hss v hv).kt (.same (s12.trans sA))
        have ys13 : ∀ v ∈ ys, Sas (upd H12 pa1 (.tup (rs.map V.int))) v := fun v hv => (hys v hv).kt (.same (s12.trans sA))
        generalize upd H12 pa1 (.tup (rs.map V.int)) = H13 at *
        simp only [kn13, valV_kn.2.1, valV_kn.2.2.1]
        refine ⟨by rw [sizeLine_eq]; decide, fun pa2 hpa2 => ?_⟩
        have sB := same_new (o := .tup [.ref pa1, .int st11, .int ct11]) hpa2
        have qB : upd H13 pa2 (.tup [.ref pa1, .int st11, .int ct11]) pa2 = some (.tup [.ref pa1, .int st11, .int ct11]) := upd_same
        have kn14 := sB _ _ kn13
        have s14 := s13.trans sB
        have qA14 := sB _ _ qA
        have sl14 := sB _ _ sl13
        have yl14 := sB _ _ yl13
        have ss14 := fun v hv => (ss13 v hv).kt (.same sB)
        have ys14 := fun v hv => (ys13 v hv).kt (.same sB)
        generalize upd H13 pa2 _ = H14 at *
        simp only [kn14, valV_kn.2.2.2.1, valV_kn.2.2.2.2]
        refine ⟨by rw [sizeLine_eq]; decide, fun pa3 hpa3 => ?_⟩
        have sC := same_new (o := .tup [.ref pa2, .ref sl, .ref yl]) hpa3
        exact kq _ pa3 (.ref pa2) sl yl ss ys (s14.trans sC) upd_same ⟨pa2, pa1, st11, ct11, rs, ns, rfl, sC _ _ qB, sC _ _ qA14, ⟨j, is0, _, hdj, hpj, il0, ⟨r, ens⟩, rl, hrl⟩, by omega, hrs⟩ (sC _ _ sl14) (sC _ _ yl14) slH (by omega) (by omega) (fun v hv => (ss14 v hv).kt (.same sC)) (fun v hv => (ys14 v hv).kt (.same sC))
theorem RowOk.kt {m : Nat} {H H' : Hp} {v : V} (k : KT H H') (h : RowOk m H v) : RowOk m H' v := by
  obtain ⟨a, e, sd, ed, ys, rfl, h1, z, ev, h2, l, hy⟩ := h
  exact ⟨a, e, sd, ed, ys, rfl, k _ _ h1, z.kt k, ev, k _ _ h2, l, fun y hm => (hy y hm).kt k⟩
/-- the states of a run, as they stand -/
def StsOk (H : Hp) (ds : List PyData) (kvs : List (L2.Key × V)) : Prop := ∀ nm ∈ placeNames.take ds.length, ∃ v, valV kvs (.inr nm) = some v ∧ StOk H ds nm v
theorem exists_first {P : Nat → Prop} (h : ∃ n, P n) : ∃ n, P n ∧ ∀ m, m < n → ¬ P m := by
  obtain ⟨n, hn⟩ := h
  induction n using Nat.strongRecOn with
  | ind n ih =>
    by_cases h : ∃ m, m < n ∧ P m
    · obtain ⟨m, hm, hp⟩ := h
      exact ih m hm hp
    · exact ⟨n, hn, fun m hm hp => h ⟨m, hm, hp⟩⟩
theorem evs_list {m : Nat} {H : Hp} : ∀ {ws : List V}, (∀ v ∈ ws, Evs m H v) → ∃ es, Paired (fun v d => Tz H 1 v d ∧ EvD m d) ws es
  | [], _ => ⟨[], .nil⟩
  | w :: ws, h => by
    obtain ⟨d, z, e⟩ := h w (List.mem_cons_self ..)
    obtain ⟨es, p⟩ := evs_list fun v hv => h v (List.mem_cons_of_mem _ hv)
    exact ⟨d :: es, .cons ⟨z, e⟩ p⟩
theorem ev_alike {m : Nat} {d e : PyData} (h : EvD m d) (h' : EvD m e) : PySem.W.alike d e = true := by
  obtain ⟨_, _, _, _, _, _, rfl, _⟩ := h
  obtain ⟨_, _, _, _, _, _, rfl, _⟩ := h'
  simp [PySem.W.alike, PySem.W.alikeAll]
theorem neD_nil {K : PySem.W.Frag} {H : Hp} {Q : VK} {n : Nat} {a b : Addr} {xs : List V} {ds : List PyData} (ha : H a = some (.lst xs)) (p : Paired (Da H n) xs ds) (hn : n ≤ 60) (hb : H b = some (.lst [])) (q : Q (.bl (!decide (xs = []))) H) : dNeD K (.ref a) (.ref b) H Q := by
  obtain ⟨l1, l2⟩ := Da.lays (fun q => Da.lay q) p
  have sh : SeqAt.shaped (.list ds) = true := by
    show ((PyData.list ds).canLay0 && decide ((PyData.list ds).depth ≤ 64)) = true
    have c1 : (PyData.list ds).canLay0 = true := by simpa [PyData.canLay0] using l1
    have c2 : (PyData.list ds).depth ≤ 64 := by simp only [PyData.depth]; omega
    rw [c1, decide_eq_true c2]
    rfl
  refine ⟨.list ds, .list [], .lst (SqL.of ha) (dpAll (Paired.mapP p fun _ _ q => Da.dp q)), .lst (SqL.of hb) .nil, sh, rfl, ?_⟩
  cases p with
  | nil => exact q
  | @cons x d xs ds h t =>
    simp only [reduceCtorEq, decide_false, Bool.not_false] at q
    have : PyData.eqv (.list (d :: ds)) (.list []) = false := by simp [PyData.eqv, PyData.eqvAll]
    rw [this]
    exact q
theorem putK_le (c : List (L2.Key × V)) (k : L2.Key) (x : V) : (putK c k x).length ≤ c.length + 1 := by
  unfold putK
  split <;> simp
theorem evs_bs {m : Nat} {H : Hp} : ∀ {ws : List V}, (∀ v ∈ ws, Evs m H v) → ∃ bs : List (V × PyData), bs.map (·.1) = ws ∧ ∀ b ∈ bs, Tz H 1 b.1 b.2 ∧ EvD m b.2
  | [], _ => ⟨[], rfl, by simp⟩
  | w :: ws, h => by
    obtain ⟨d, z, e⟩ := h w (List.mem_cons_self ..)
    obtain ⟨bs, p, q⟩ := evs_bs fun v hv => h v (List.mem_cons_of_mem _ hv)
    refine ⟨(w, d) :: bs, by rw [List.map_cons, p], fun b hb => ?_⟩
    rcases List.mem_cons.mp hb with rfl | hb
    · exact ⟨z, e⟩
    · exact q b hb
def evT : PyData → Int
  | .tuple (.int t :: _) => t
  | _ => 0
theorem ev_not {m : Nat} {d : PyData} (h : EvD m d) : d ≠ .none := by
  obtain ⟨_, _, _, _, _, _, rfl, _⟩ := h
  intro e
  cases e
theorem paired_flip {α β : Type} {G : α → β → Prop} : ∀ {xs : List α} {ys : List β}, Paired G xs ys → Paired (fun b a => G a b) ys xs
  | _, _, .nil => .nil
  | _, _, .cons h t => .cons h (paired_flip t)
theorem mem_varD2 : ∀ {ns : List Str} {is : List Int} {d : PyData}, d ∈ List.zipWith varD ns is → ∃ nm i, i ∈ is ∧ d = .tuple [.str nm, .int i]
  | n :: ns, i :: is, d, h => by
    rcases List.mem_cons.mp h with rfl | h
    · exact ⟨n, i, List.mem_cons_self .., rfl⟩
    · obtain ⟨nm, j, hj, e⟩ := mem_varD2 h
      exact ⟨nm, j, List.mem_cons_of_mem _ hj, e⟩
theorem r_law_run {K : PySem.W.Frag} {A : Ads} {E : XK} {vs : List V} {H : Hp} {Q : VK} (h : sp_law_run vs H Q E) : t_law_run K A E { nx := fun _ H' => Q .non H', rt := Q } (L2.start ["model", "starts", "until", "states", "k", "grown", "waiting", "trace_one", "event", "sent", "said", "name", "first"] vs) H := by
  obtain ⟨mv, sa, u, ds, ss, rfl, hm, hmd, hz, ssl, hss, kqn, kq⟩ := h
  have hm0 := hm
  obtain ⟨ma, ms, rfl, hma, hml, mpr⟩ := hm
  have ml := paired_len mpr
  obtain ⟨hmd0, hmd5, hmj⟩ := id hmd
  unfold t_law_run
  refine seq1 ?_
  wide_line using [tDNewK]
  intro sp hsp
  have s0 := same_new (o := .dK []) hsp
  have q0 : upd H sp (.dK []) sp = some (.dK []) := upd_same
  generalize upd H sp (.dK []) = H0 at *
  refine seq1 ?_
  wide_line using [s0 _ _ hma]
  refine ⟨⟨by omega, by omega⟩, ?_⟩
  refine forR_to (n := ms.length) (fun i σ H' => ∃ z4 z5 z6 z7 z8 z9 z10 kvs, σ = [some (.ref ma), some (.ref sa), some (.int u), some (.ref sp), z4, z5, z6, z7, z8, z9, z10, none, none] ∧ Same H H' ∧ H' sp = some (.dK kvs) ∧ kvs.length ≤ i ∧ ∀ (j : Nat) nm, j < i → placeNames[j]? = some nm → ∃ v, valV kvs (.inr nm) = some v ∧ StOk H' ds nm v)
    (fun σ H' => ∃ z4 z5 z6 z7 z8 z9 z10 kvs, σ = [some (.ref ma), some (.ref sa), some (.int u), some (.ref sp), z4, z5, z6, z7, z8, z9, z10, none, none] ∧ Same H H' ∧ H' sp = some (.dK kvs) ∧ kvs.length ≤ 5 ∧ StsOk H' ds kvs)
    ⟨none, none, none, none, none, none, none, [], rfl, s0, q0, Nat.le_refl _, fun j nm hj => by omega⟩ ?_ ?_ ?_
  · rintro σ H' ⟨z4, z5, z6, z7, z8, z9, z10, kvs, rfl, s, hk, hl, hv⟩
    refine ⟨z4, z5, z6, z7, z8, z9, z10, kvs, rfl, s, hk, by omega, fun nm hnm => ?_⟩
    obtain ⟨j, hj⟩ := List.mem_iff_getElem?.mp hnm
    rw [List.getElem?_take] at hj
    split at hj
    · exact hv j nm (by omega) hj
    · cases hj
  · rintro σ H1 ⟨z4, z5, z6, z7, z8, z9, z10, kvs, rfl, s, hk, hkl, hst⟩
    obtain ⟨sa', sx, q1, eq1, e1, hsa, spr⟩ := Tz.tuple_inv0 hz
    cases e1
    cases eq1
    have sl := paired_len spr
    have hsa1 := s _ _ hsa
    dsimp only
    refine seq1 ?_
    wide_line using [hsa1]
    refine ⟨⟨by omega, by omega⟩, ?_⟩
    refine lcR_core (n := sx.length) (by omega) (fun _ => true) (fun i v H => Evs ds.length H v) (fun _ _ _ _ k h => h.kt k) (fun i hi H2 s2 k1 k0 hk1 _ => ?_) fun wl H2 ws hwl s2 hwls wpr => ?_
    · unfold LcTurn
      wide_line using [s2 _ _ hsa1]
      have e0 : (0 : Int) + (i : Int) = (i : Int) := by omega
      rw [e0]
      obtain ⟨sd, hsd, zs⟩ := pairedGet spr (List.getElem?_eq_getElem hi)
      obtain ⟨t, l, nm, k, j, rfl, t0, t9, hj, hnm, hkw, l0, l9⟩ := hss _ (List.mem_of_getElem? hsd)
      obtain ⟨ra, rx, q2, eq2, er, hra, rpr⟩ := Tz.tuple_inv0 zs
      cases rpr with | cons a1 rpr =>
      cases rpr with | cons a2 rpr =>
      cases rpr with | cons a3 rpr =>
      cases rpr with | cons a4 rpr =>
      cases rpr
      rw [Tz.int_inv a1, Tz.str_inv a2, Tz.str_inv a3, Tz.int_inv a4] at hra
      refine atK_nat (List.getElem?_eq_getElem hi) ?_
      rw [er]
      refine ⟨by rw [sizeLine_eq]; decide, fun p1 hp1 => ?_⟩
      have sA := same_new (o := .tup [.str "", .int (i : Nat)]) hp1
      have q1 : upd H2 p1 (.tup [.str "", .int (i : Nat)]) p1 = some (.tup [.str "", .int (i : Nat)]) := upd_same
      have hra2 := sA _ _ (s2 _ _ (s _ _ hra))
      generalize upd H2 p1 (.tup [.str "", .int (i : Nat)]) = H3 at *
      simp only [hra2, q1]
      refine ⟨by rw [sizeLine_eq]; simp, (fun e => by cases e), (fun _ e => by cases e), fun _ _ p2 hp2 => ?_⟩
      have hnt : nm ∈ placeNames.take ds.length := by
        rw [List.mem_iff_getElem?]
        exact ⟨j, by rw [List.getElem?_take, if_pos hj]; exact hnm⟩
      refine hk1 rfl _ _ (sA.trans (same_new hp2)) ⟨_, .tup upd_same (by simp) (.cons .int (.cons (.str (strOk_nm.1 _ (List.mem_of_mem_take hnt))) (.cons (.str (kind_ok hkw)) (.cons .int (.cons (.str (by decide +kernel)) (.cons .int .nil)))))), t, l, _, nm, k, _, rfl, t0, hnt, hkw, l0, by omega, .inl rfl⟩
    · rw [List.filter_eq_self.mpr (fun _ _ => rfl)] at wpr
      have wsl := paired_len wpr
      rw [List.length_range] at wsl
      have hws : ∀ v ∈ ws, Evs ds.length H2 v := fun v hv => by obtain ⟨_, _, h⟩ := paired_memR wpr hv; exact h
      clear wpr
      refine seq1 ?_
      wide_line using [upd_same]
      refine ⟨by rw [sizeLine_eq]; decide, fun tl htl => ?_⟩
      have sT := same_new (o := .lst []) htl
      have qT : upd H2 tl (.lst []) tl = some (.lst []) := upd_same
      have nwt : wl ≠ tl := ne_of_none hwls htl
      have hwls := sT _ _ hwls
      have s3 := (s.trans s2).trans sT
      have tlH : H tl = none := by
        cases e : H tl with
        | none => rfl
        | some o => have := (s.trans s2) _ _ e; rw [htl] at this; cases this
      have wlH : H wl = none := by
        cases e : H wl with
        | none => rfl
        | some o => have := s _ _ e; rw [hwl] at this; cases this
      have hws := fun v hv => (hws v hv).kt (.same sT)
      have hk3 := sT _ _ (s2 _ _ hk)
      have hst3 : StsOk _ ds kvs := fun nm hnm => let ⟨v, h1, h2⟩ := hst nm hnm; ⟨v, h1, h2.kt (.same (s2.trans sT))⟩
      generalize upd H2 tl (.lst []) = H3 at *
      refine seq1 ?_
      refine while_to (fun m σ H' => ∃ z4 z5 z8 z9 z10 wl ws xs kvs, σ = [some (.ref ma), some (.ref sa), some (.int u), some (.ref sp), z4, z5, some (.ref wl), some (.ref tl), z8, z9, z10, none, none] ∧ Same H H' ∧ H' sp = some (.dK kvs) ∧ H' wl = some (.lst ws) ∧ H' tl = some (.lst xs) ∧ wl ≠ tl ∧ H wl = none ∧ StsOk H' ds kvs ∧ kvs.length ≤ 5 + xs.length ∧ (∀ v ∈ ws, Evs ds.length H' v) ∧ (∀ v ∈ xs, RowOk ds.length H' v) ∧ xs.length ≤ 300 ∧ ws.length ≤ 5 + 700 * xs.length ∧ m = 301 - xs.length)
        (fun σ H' => ∃ z4 z5 z8 z9 z10 wl ws xs, σ = [some (.ref ma), some (.ref sa), some (.int u), some (.ref sp), z4, z5, some (.ref wl), some (.ref tl), z8, z9, z10, none, none] ∧ Same H H' ∧ H' wl = some (.lst ws) ∧ H' tl = some (.lst xs) ∧ (∀ v ∈ ws, Evs ds.length H' v) ∧ (∀ v ∈ xs, RowOk ds.length H' v) ∧ xs.length ≤ 300 ∧ ws.length ≤ 5 + 700 * xs.length)
        301 ⟨z4, z5, z8, z9, z10, wl, ws, [], kvs, rfl, s3, hk3, hwls, qT, nwt, wlH, hst3, by simpa using hkl, hws, by simp, by simp, by simp; omega, by simp⟩ ?_ ?_
      · rintro σ H4 ⟨z4, z5, z8, z9, z10, wl, ws, xs, rfl, s4, hw4, ht4, hws4, hxs4, hxl, hwl4⟩
        wp_walk using hw4, ht4
        intro l hl
        have sL := same_new (o := .tup xs) hl
        have qL : upd H4 l (.tup xs) l = some (.tup xs) := upd_same
        obtain ⟨bs, ebs, hbs⟩ := evs_bs fun v hv => (hws4 v hv).kt (.same sL)
        refine ⟨wl, bs, rfl, by rw [ebs]; exact .of (sL _ _ hw4), fun b hb => ((hbs b hb).1.da).dp, ?_, .inl ?_, fun b hb => ?_, ?_, fun p hp => ?_⟩
        · intro d hd e he
          obtain ⟨b, hb, rfl⟩ := List.mem_map.mp hd
          obtain ⟨c, hc, rfl⟩ := List.mem_map.mp he
          exact ev_alike (hbs b hb).2 (hbs c hc).2
        · intro d hd
          obtain ⟨b, hb, rfl⟩ := List.mem_map.mp hd
          obtain ⟨_, _, _, _, _, _, e, _⟩ := (hbs b hb).2
          exact ⟨_, _, e⟩
        · have := (((hbs b hb).1.da).lay).2
          omega
        · have : bs.length = ws.length := by rw [← ebs, List.length_map]
          omega
        · have sP := same_new (o := .lst ((bs.mergeSort (PySem.W.dataLe false (·.2))).map (·.1))) hp
          dsimp only
          simp only [upd_same]
          intro l2 hl2
          have sQ := same_new (o := .tup ((bs.mergeSort (PySem.W.dataLe false (·.2))).map (·.1))) hl2
          refine ⟨by rw [sizeLine_eq]; decide, fun l3 hl3 => ?_⟩
          have sR := same_new (o := .tup [.ref l, .ref sp, .ref l2]) hl3
          have sAll := ((sL.trans sP).trans sQ).trans sR
          exact kq _ l3 l _ _ xs (s4.trans sAll) upd_same (((sP.trans sQ).trans sR) _ _ qL) hxl fun v hv => (hxs4 v hv).kt (.same sAll)
      · rintro nx hnx m σ H4 ⟨z4, z5, z8, z9, z10, wl, ws, xs, kvs, rfl, s4, hk4, hw4, ht4, nwt4, wlH4, hst4, hkl4, hws4, hxs4, hxl, hwl4, rfl⟩
        obtain ⟨es, epr⟩ := evs_list hws4
        wide_line using [hw4]
        refine lcL_pair (.of hw4) epr (by omega) (fun d => decide (evT d < u)) (fun d y H => Tz H 1 y d) (fun _ _ _ _ k z => z.kt k) (fun i x d hx hd ⟨zd, ed⟩ H5 s5 k1 k0 hk1 hk0 => ?_) fun D5 H5 ys hD5 s5 hDs5 ypr => ?_
        · obtain ⟨t, l, c, p, kd, s, rfl, _⟩ := ed
          obtain ⟨ra, rx, q', eq', rfl, hra, rpr⟩ := Tz.tuple_inv0 zd
          cases rpr with | cons a1 rpr =>
          rw [Tz.int_inv a1] at hra
          unfold LcTurn
          wide_line using [s5 _ _ hra]
          by_cases hc : t < u
          · rw [if_pos hc]
            exact hk1 (by simp [evT, hc]) _ _ (Same.refl _) (zd.kt (.same s5))
          · rw [if_neg hc]
            exact hk0 (by simp [evT, hc]) _ (Same.refl _)
        · refine ⟨Nat.zero_le _, fun b5 hb5 => ?_⟩
          have sB := same_new (o := .lst []) hb5
          have s6 := s5.trans sB
          have zpr : Paired (Da (upd H5 b5 (.lst [])) 1) ys (es.filter fun d => decide (evT d < u)) := paired_flip (Paired.mapP ypr fun _ _ z => (z.kt (.same sB)).da)
          have es5 : ys ≠ [] → ws ≠ [] := by
            rintro h rfl
            cases epr
            cases ypr
            exact h rfl
          refine neD_nil (sB _ _ hDs5) zpr (by decide) upd_same ?_
          dsimp only
          have s46 := s4.trans s6
          have hk6 := s6 _ _ hk4
          have hw6 := s6 _ _ hw4
          have ht6 := s6 _ _ ht4
          have hws6 := fun v hv => (hws4 v hv).kt (.same s6)
          have hxs6 := fun v hv => (hxs4 v hv).kt (.same s6)
          have hst6 : StsOk _ ds kvs := fun nm hnm => let ⟨v, h1, h2⟩ := hst4 nm hnm; ⟨v, h1, h2.kt (.same s6)⟩
          have epr6 : Paired (fun v d => Tz _ 1 v d ∧ EvD ds.length d) ws es := Paired.mapP epr fun _ _ z => ⟨z.1.kt (.same s6), z.2⟩
          generalize upd H5 b5 (.lst []) = H6 at *
          by_cases hys : ys = []
          · rw [if_neg (by simp [hys])]
            exact hnx _ _ ⟨_, _, _, _, _, wl, ws, xs, rfl, s46, hw6, ht6, hws6, hxs6, hxl, hwl4⟩
          · rw [if_pos (by simp [hys])]
            have hne := es5 hys
            clear zpr ypr hDs5 sB s5 hD5 hb5 es5 hys
            refine ⟨fun σ' H' => ∃ m', m' < 301 - xs.length ∧ ∃ z4 z5 z8 z9 z10 wl ws xs kvs, σ' = [some (.ref ma), some (.ref sa), some (.int u), some (.ref sp), z4, z5, some (.ref wl), some (.ref tl), z8, z9, z10, none, none] ∧ Same H H' ∧ H' sp = some (.dK kvs) ∧ H' wl = some (.lst ws) ∧ H' tl = some (.lst xs) ∧ ¬ wl = tl ∧ H wl = none ∧ StsOk H' ds kvs ∧ kvs.length ≤ 5 + xs.length ∧ (∀ v ∈ ws, Evs ds.length H' v) ∧ (∀ v ∈ xs, RowOk ds.length H' v) ∧ xs.length ≤ 300 ∧ ws.length ≤ 5 + 700 * xs.length ∧ m' = 301 - xs.length, fun _ _ h => h, ?_⟩
            cases epr6 with
            | nil => exact absurd rfl hne
            | @cons w0 d0 ws' es' h0 t0 =>
            have epr6 : Paired (fun v d => Tz H6 1 v d ∧ EvD ds.length d) (w0 :: ws') (d0 :: es') := .cons h0 t0
            have hee : ∀ d ∈ d0 :: es', EvD ds.length d := fun d hd => by obtain ⟨_, _, h⟩ := paired_memR epr6 hd; exact h.2
            have dpr6 : Paired (Da H6 1) (w0 :: ws') (d0 :: es') := Paired.mapP epr6 fun _ _ z => z.1.da
            obtain ⟨ly1, ly2⟩ := Da.lays (fun q => Da.lay q) dpr6
            refine seq1 ?_
            wide_line using [upd_same]
            refine ⟨wl, w0 :: ws', d0, es', rfl, .of hw6, Paired.mapP dpr6 fun _ _ z => z.dp, ⟨fun d hd e he => ev_alike (hee d hd) (hee e he), fun d hd => ev_not (hee d hd)⟩, by omega, fun i y hy _ => ?_⟩
            obtain ⟨dy, hdy, zy, evy⟩ := pairedGet epr6 hy
            try dsimp only
            refine seq1 ?_
            wide_line using [hw6]
            obtain ⟨j, ⟨z, hz, hze⟩, hj⟩ := exists_first (P := fun n => ∃ z, (d0 :: es')[n]? = some z ∧ PyData.eqv z dy = true) ⟨i, dy, hdy, SeqAt.eqv_refl dy zy.da.lay.1⟩
            have shl : SeqAt.shaped (.list (d0 :: es')) = true := by
              show ((PyData.list (d0 :: es')).canLay0 && decide ((PyData.list (d0 :: es')).depth ≤ 64)) = true
              have c1 : (PyData.list (d0 :: es')).canLay0 = true := by simpa [PyData.canLay0] using ly1
              have c2 : (PyData.list (d0 :: es')).depth ≤ 64 := by simp only [PyData.depth]; omega
              rw [c1, decide_eq_true c2]
              rfl
            refine ⟨wl, y, dy, w0 :: ws', d0 :: es', j, z, rfl, rfl, hw6, dpAll (Paired.mapP dpr6 fun _ _ z => z.dp), zy.da.dp, shl, zy.da.shaped (by decide), hz, hze, fun m z' hm hz' => ?_, ?_⟩
            · cases e : PyData.eqv z' dy with
              | false => rfl
              | true => exact absurd ⟨z', hz', e⟩ (hj m hm)
            have hwl7 : ((w0 :: ws').eraseIdx j).length ≤ (w0 :: ws').length := List.length_eraseIdx_le ..
            have hsub : ∀ v ∈ (w0 :: ws').eraseIdx j, v ∈ w0 :: ws' := fun v hv => List.mem_of_mem_eraseIdx hv
            generalize (w0 :: ws').eraseIdx j = ws7 at *
            have kt7 : KT H6 (upd H6 wl (.lst ws7)) := KT.mut (by rw [hw6]; rfl)
            have s7 : Same H (upd H6 wl (.lst ws7)) := same_mut s46 wlH4
            have nsw : sp ≠ wl := by rintro rfl; rw [hk6] at hw6; cases hw6
            have nst : sp ≠ tl := by rintro rfl; rw [hk6] at ht6; cases ht6
            have hw7 : upd H6 wl (.lst ws7) wl = some (.lst ws7) := upd_same
            have hk7 : upd H6 wl (.lst ws7) sp = some (.dK kvs) := by rw [upd_ne nsw]; exact hk6
            have ht7 : upd H6 wl (.lst ws7) tl = some (.lst xs) := by rw [upd_ne (Ne.symm nwt4)]; exact ht6
            have hws7 : ∀ v ∈ ws7, Evs ds.length (upd H6 wl (.lst ws7)) v := fun v hv => (hws6 v (hsub v hv)).kt kt7
            have hxs7 : ∀ v ∈ xs, RowOk ds.length (upd H6 wl (.lst ws7)) v := fun v hv => (hxs6 v hv).kt kt7
            have hst7 : StsOk (upd H6 wl (.lst ws7)) ds kvs := fun nm hnm => let ⟨v, h1, h2⟩ := hst6 nm hnm; ⟨v, h1, h2.kt kt7⟩
            have zy7 := zy.kt kt7
            generalize upd H6 wl (.lst ws7) = H7 at *
            clear hst6 hxs6 hws6 hsub epr6 dpr6 hee t0 h0 epr hws4 hxs4 hst4
            obtain ⟨t, l, c, p, kd, s, rfl, t00, hp, hkd, l00, l01, hs⟩ := id evy
            obtain ⟨ey, exs, q7, eq7, rfl, hey, eypr⟩ := Tz.tuple_inv0 zy7
            cases eypr with | cons b1 eypr =>
            cases eypr with | cons b2 eypr =>
            rw [Tz.int_inv b1, Tz.str_inv b2] at hey
            obtain ⟨sv, hsv, hstv⟩ := hst7 p hp
            refine seq1 ?_
            wide_line using [hey, hk7, hsv]
            refine ⟨.ref ma, sv, ey, ds, _, rfl, hm0.kt (KTF.same s7), hmd, zy7, evy, hstv, fun H8 ra sv' sl yl ss8 ys8 s8 hra hst' hsl hyl hslN lss lys hss hys => ?_⟩
            simp only [evP] at hst'
            have hey8 := s8 _ _ hey
            have hk8 := s8 _ _ hk7
            simp only [hra, seqAt_tup, hey8, atK_one, hk8, tupAt_tup]
            refine ⟨rfl, by rw [sizeLine_eq]; omega, ?_⟩
            have ksp : KT H8 (upd H8 sp (.dK (putK kvs (.inr p) sv'))) := KT.mut (by rw [hk8]; rfl)
            have s9 : Same H (upd H8 sp (.dK (putK kvs (.inr p) sv'))) := same_mut (s7.trans s8) hsp
            have hk9 : upd H8 sp (.dK (putK kvs (.inr p) sv')) sp = some (.dK (putK kvs (.inr p) sv')) := upd_same
            have nwl : wl ≠ sp := Ne.symm nsw
            have ntl : tl ≠ sp := Ne.symm nst
            have nsl : sl ≠ sp := by rintro rfl; rw [hk8] at hsl; cases hsl
            have nyl : yl ≠ sp := by rintro rfl; rw [hk8] at hyl; cases hyl
            have nslt : sl ≠ tl := by rintro rfl; rw [ht7] at hslN; cases hslN
            have hw9 : upd H8 sp (.dK (putK kvs (.inr p) sv')) wl = some (.lst ws7) := by rw [upd_ne nwl]; exact s8 _ _ hw7
            have ht9 : upd H8 sp (.dK (putK kvs (.inr p) sv')) tl = some (.lst xs) := by rw [upd_ne ntl]; exact s8 _ _ ht7
            have hsl9 : upd H8 sp (.dK (putK kvs (.inr p) sv')) sl = some (.lst ss8) := by rw [upd_ne nsl]; exact hsl
            have hyl9 : upd H8 sp (.dK (putK kvs (.inr p) sv')) yl = some (.lst ys8) := by rw [upd_ne nyl]; exact hyl
            have kt79 := (KT.same s8).trans ksp
            have hst9 : StsOk (upd H8 sp (.dK (putK kvs (.inr p) sv'))) ds (putK kvs (.inr p) sv') := fun nm hnm => by
              rw [valV_put]
              by_cases e : nm = p
              · subst e
                exact ⟨_, if_pos rfl, hst'.kt ksp⟩
              · rw [if_neg (by intro z; exact e (by injection z))]
                obtain ⟨v, h1, h2⟩ := hst7 nm hnm
                exact ⟨v, h1, h2.kt kt79⟩
            have hkl9 : (putK kvs (.inr p) sv').length ≤ 5 + (xs.length + 1) := by have := putK_le kvs (.inr p) sv'; omega
            have hws9 := fun v hv => (hws7 v hv).kt kt79
            have hxs9 := fun v hv => (hxs7 v hv).kt kt79
            have hss9 := fun v hv => (hss v hv).kt ksp
            have hys9 := fun v hv => (hys v hv).kt ksp
            have zy9 := zy7.kt kt79
            generalize putK kvs (.inr p) sv' = kvs' at *
            generalize upd H8 sp (.dK kvs') = H9 at *
            clear ksp kt79 hst' hst7 hws7 hxs7 hss hys zy7 hk8 hey8 hsl hyl hra
            refine seq1 ?_
            wide_line using [ht9, hyl9]
            intro p1 hp1
            have sA := same_new (o := .tup ys8) hp1
            have qA : upd H9 p1 (.tup ys8) p1 = some (.tup ys8) := upd_same
            refine ⟨by rw [sizeLine_eq]; decide, fun p2 hp2 => ?_⟩
            have sB := same_new (o := .tup [.ref ey, .ref p1]) hp2
            have qB : upd (upd H9 p1 (.tup ys8)) p2 (.tup [.ref ey, .ref p1]) p2 = some (.tup [.ref ey, .ref p1]) := upd_same
            have sAB := sA.trans sB
            have qA2 := sB _ _ qA
            have hrow : RowOk ds.length (upd (upd H9 p1 (.tup ys8)) p2 (.tup [.ref ey, .ref p1])) (.ref p2) := ⟨p2, ey, p1, _, ys8, rfl, qB, zy9.kt (.same sAB), evy, qA2, lys, fun y hy => (hys9 y hy).kt (.same sAB)⟩
            have ht11 := sAB _ _ ht9
            have hk11 := sAB _ _ hk9
            have hw11 := sAB _ _ hw9
            have hsl11 := sAB _ _ hsl9
            have s11 := s9.trans sAB
            have hst11 : StsOk _ ds kvs' := fun nm hnm => let ⟨v, h1, h2⟩ := hst9 nm hnm; ⟨v, h1, h2.kt (.same sAB)⟩
            have hws11 := fun v hv => (hws9 v hv).kt (.same sAB)
            have hxs11 := fun v hv => (hxs9 v hv).kt (.same sAB)
            have hss11 := fun v hv => (hss9 v hv).kt (.same sAB)
            generalize upd (upd H9 p1 (.tup ys8)) p2 (.tup [.ref ey, .ref p1]) = H11 at *
            simp only [ht11]
            refine ⟨by rw [sizeLine_eq]; omega, ?_⟩
            have ktt : KT H11 (upd H11 tl (.lst (xs ++ [.ref p2]))) := KT.mut (by rw [ht11]; rfl)
            have s12 : Same H (upd H11 tl (.lst (xs ++ [.ref p2]))) := same_mut s11 tlH
            have ht12 : upd H11 tl (.lst (xs ++ [.ref p2])) tl = some (.lst (xs ++ [.ref p2])) := upd_same
            have hk12 : upd H11 tl (.lst (xs ++ [.ref p2])) sp = some (.dK kvs') := by rw [upd_ne nst]; exact hk11
            have hw12 : upd H11 tl (.lst (xs ++ [.ref p2])) wl = some (.lst ws7) := by rw [upd_ne nwt4]; exact hw11
            have hsl12 : upd H11 tl (.lst (xs ++ [.ref p2])) sl = some (.lst ss8) := by rw [upd_ne nslt]; exact hsl11
            have hst12 : StsOk (upd H11 tl (.lst (xs ++ [.ref p2]))) ds kvs' := fun nm hnm => let ⟨v, h1, h2⟩ := hst11 nm hnm; ⟨v, h1, h2.kt ktt⟩
            have hws12 : ∀ v ∈ ws7 ++ ss8, Evs ds.length (upd H11 tl (.lst (xs ++ [.ref p2]))) v := fun v hv => by
              rcases List.mem_append.mp hv with hv | hv
              · exact (hws11 v hv).kt ktt
              · exact (hss11 v hv).kt ktt
            have hxs12 : ∀ v ∈ xs ++ [.ref p2], RowOk ds.length (upd H11 tl (.lst (xs ++ [.ref p2]))) v := fun v hv => by
              rcases List.mem_append.mp hv with hv | hv
              · exact (hxs11 v hv).kt ktt
              · simp at hv
                subst hv
                exact hrow.kt ktt
            have hxl12 : (xs ++ [V.ref p2]).length = xs.length + 1 := by simp
            generalize upd H11 tl (.lst (xs ++ [.ref p2])) = H12 at *
            generalize xs ++ [V.ref p2] = xs' at *
            refine seq1 ?_
            wide_line using [hw12, hsl12]
            simp only [List.length_cons] at hwl4 hwl7
            refine ⟨by rw [sizeLine_eq]; omega, fun w2 hw2 => ?_⟩
            have sC := same_new (o := .lst (ws7 ++ ss8)) hw2
            have qC : upd H12 w2 (.lst (ws7 ++ ss8)) w2 = some (.lst (ws7 ++ ss8)) := upd_same
            have w2H : H w2 = none := by
              cases e : H w2 with
              | none => rfl
              | some o => have := s12 _ _ e; rw [hw2] at this; cases this
            have ntw : tl ≠ w2 := ne_of_none ht12 hw2
            have ht13 := sC _ _ ht12
            have hk13 := sC _ _ hk12
            have s13 := s12.trans sC
            have hst13 : StsOk _ ds kvs' := fun nm hnm => let ⟨v, h1, h2⟩ := hst12 nm hnm; ⟨v, h1, h2.kt (.same sC)⟩
            have hws13 := fun v hv => (hws12 v hv).kt (.same sC)
            have hxs13 := fun v hv => (hxs12 v hv).kt (.same sC)
            generalize upd H12 w2 (.lst (ws7 ++ ss8)) = H13 at *
            simp only [ht13, seqAt_lst]
            by_cases hc : (300 : Int) < (xs'.length : Int)
            · rw [if_pos hc]
              exact kqn _ s13
            · rw [if_neg hc]
              exact ⟨301 - xs'.length, by omega, _, _, _, _, _, w2, ws7 ++ ss8, xs', kvs', rfl, s13, hk13, qC, rfl, Ne.symm ntw, w2H, hst13, by omega, hws13, hxs13, by omega, by rw [List.length_append]; omega, rfl⟩
  · rintro N nx hnx i σ H1 hi hN ⟨z4, z5, z6, z7, z8, z9, z10, kvs, rfl, s, hk, hl, hv⟩
    refine seq1 ?_
    wide_line using [upd_same]
    refine ⟨.inr ⟨by decide, by decide⟩, ?_⟩
    generalize ((0 : Int) + (i : Int) + 1) * 2862933 + 3037 = gr
    have e0 : (0 : Int) + (i : Int) = (i : Int) := by omega
    have hma1 := s _ _ hma
    have mpr1 := Paired.mapP mpr fun _ _ z => PlAt.kt (KTF.same s) z
    obtain ⟨pa, nm, va', vd, ra, ob, rx, rd, hmi, hpa, hnm, hdj', z, hra, po, rpr⟩ := md_at mpr1 hmj hi
    obtain ⟨nm', hnm', ns, is0, rules, ed, ⟨r, ens⟩, il0, ib0, rl, hrl⟩ := hmj _ _ hdj'
    rw [hnm] at hnm'
    cases hnm'
    injection ed with ed
    injection ed with _ ed
    injection ed with ed2 ed
    injection ed with ed3 _
    injection ed3 with ed3
    subst ed2 ed3
    obtain ⟨vl, vx, q0', e00, rfl, hvl, vpr⟩ := Tz.tuple_inv0 z
    cases e00
    try (wide_line using [hma1])
    rw [e0]
    refine atK_nat hmi ?_
    simp only [hpa, seqAt_tup, atK_one]
    have vlen := paired_len vpr
    have nsl : ns.length ≤ 3 := by rw [ens, List.length_take]; simp [varNames]; omega
    have zl : (List.zipWith varD ns is0).length = ns.length := by rw [List.length_zipWith, il0, Nat.min_self]
    refine lcT_core hvl (by omega) (fun _ => true) (fun x y H => ∃ r, y = .int r ∧ (0 ≤ r ∧ r ≤ 999999)) (fun _ _ _ _ _ h => h) (fun x hx H2 s2 k1 k0 hk1 _ => ?_) fun D2 H2 ws hD2 s2 hDs2 wpr => ?_
    · obtain ⟨i', hi'⟩ := List.mem_iff_getElem?.mp hx
      obtain ⟨d, hd, zd⟩ := pairedGet vpr hi'
      have hdm := List.mem_of_getElem? hd
      obtain ⟨nm2, n0, hn0, rfl⟩ : ∃ nm2 n0, n0 ∈ is0 ∧ d = .tuple [.str nm2, .int n0] := mem_varD2 hdm
      obtain ⟨a, xs, m, _, rfl, ha, apr⟩ := Tz.tuple_inv0 zd
      cases apr with | cons a1 apr =>
      cases apr with | cons a2 apr =>
      cases apr
      rw [Tz.str_inv a1, Tz.int_inv a2] at ha
      unfold LcTurn
      wide_line using [s2 _ _ ha]
      obtain ⟨n0a, n0b⟩ := ib0 _ hn0
      exact hk1 rfl _ _ (Same.refl _) ⟨n0, rfl, n0a, n0b⟩
    · rw [List.filter_eq_self.mpr (fun _ _ => rfl)] at wpr
      obtain ⟨rs, ews, rpr3⟩ := paired_ints wpr
      have lrs := paired_len rpr3
      have hrs : ∀ i ∈ rs, 0 ≤ i ∧ i ≤ 999999 := fun i hi => by obtain ⟨_, _, h⟩ := paired_memR rpr3 hi; exact h
      subst ews
      simp only [hDs2]
      intro l hl1
      refine ⟨⟨by decide, by decide, by decide⟩, ⟨by decide, by decide +kernel⟩, ⟨by decide, by decide, by decide⟩, .inr ⟨by decide, by decide⟩, by rw [sizeLine_eq]; decide, fun p hp => ?_⟩
      generalize gr - gr / 2 ^ Int.toNat 31 * 2 ^ Int.toNat 31 = st
      have sA := same_new (o := .tup (rs.map V.int)) hl1
      have sB := same_new (o := .tup [.ref l, .int st, .int 0]) hp
      have qA : upd (upd H2 l (.tup (rs.map V.int))) p (.tup [.ref l, .int st, .int 0]) l = some (.tup (rs.map V.int)) := sB _ _ upd_same
      have qB : upd (upd H2 l (.tup (rs.map V.int))) p (.tup [.ref l, .int st, .int 0]) p = some (.tup [.ref l, .int st, .int 0]) := upd_same
      have s3 := (s2.trans sA).trans sB
      have s03 := s.trans s3
      generalize upd (upd H2 l (.tup (rs.map V.int))) p (.tup [.ref l, .int st, .int 0]) = H3 at *
      simp only [s3 _ _ hma1, seqAt_tup]
      refine atK_nat hmi ?_
      have hk3 := s3 _ _ hk
      simp only [s3 _ _ hpa, seqAt_tup, atK_zero, hk3]
      have kt : KT H3 (upd H3 sp (.dK (putK kvs (.inr nm) (.ref p)))) := KT.mut (by rw [hk3]; rfl)
      have st0 : StOk (upd H3 sp (.dK (putK kvs (.inr nm) (.ref p)))) ds nm (.ref p) := ⟨p, l, st, 0, rs, ns, rfl, kt _ _ qB, kt _ _ qA, ⟨i, is0, _, hdj', hnm, il0, ⟨r, ens⟩, rl, hrl⟩, by omega, hrs⟩
      refine ⟨by rw [sizeLine_eq]; omega, hN _ _ ⟨_, _, _, _, _, _, _, putK kvs (.inr nm) (.ref p), rfl, same_mut s03 hsp, upd_same, ?_, fun j nm2 hj hnm2 => ?_⟩⟩
      · have := putK_le kvs (.inr nm) (.ref p)
        omega
      · rw [valV_put]
        by_cases e : nm2 = nm
        · subst e
          exact ⟨_, if_pos rfl, st0⟩
        · rw [if_neg (by intro z; exact e (by injection z))]
          have hj2 : j < i := by
            rcases Nat.lt_or_ge j i with h | h
            · exact h
            · exfalso
              have : j = i := by omega
              rw [this, hnm] at hnm2
              exact e (Option.some.inj hnm2).symm
          obtain ⟨v, hv1, hv2⟩ := hv j nm2 hj2 hnm2
          exact ⟨v, hv1, hv2.kt ((KT.same s3).trans kt)⟩
theorem r_rank_of {K : PySem.W.Frag} {A : Ads} {E : XK} {vs : List V} {H : Hp} {Q : VK} (h : sp_rank_of vs H Q E) : t_rank_of K A E { nx := fun _ H' => Q .non H', rt := Q } (L2.start ["heap"] vs) H := by
  obtain ⟨v, h, rfl, ha, kq⟩ := h
  unfold t_rank_of
  cases h with
  | nil =>
    obtain ⟨a, rfl, ha⟩ := ha
    wp_walk using ha
    exact kq 0
  | node r x l t =>
    obtain ⟨a, b, vl, vt, rfl, ha, _⟩ := ha
    wp_walk using ha
    exact kq r
theorem r_node_of {K : PySem.W.Frag} {A : Ads} {E : XK} {vs : List V} {H : Hp} {Q : VK} (h : sp_node_of vs H Q E) : t_node_of K A E { nx := fun _ H' => Q .non H', rt := Q } (L2.start ["item", "one", "other"] vs) H := by
  obtain ⟨b, x, v1, v2, h1, h2, rfl, hb, a1, a2, kq⟩ := h
  unfold t_node_of
  have e4 : (4 : Nat) ≤ sizeLine := by rw [sizeLine_eq]; decide
  refine seq1 ?_
  wide_line using [upd_same]
  refine ⟨v1, h1, rfl, a1, fun i => ⟨v2, h2, rfl, a2, fun j => ?_⟩⟩
  dsimp only
  by_cases hc : i < j
  · rw [if_pos hc]
    try (wide_line using [upd_same])
    refine ⟨v1, h1, rfl, a1, fun k => ⟨e4, fun p hp => ?_⟩⟩
    exact kq _ (.node (k + 1) x h2 h1) _ _ (same_new hp) ⟨p, b, v2, v1, rfl, upd_same, same_new hp _ _ hb, a2.kt (.same (same_new hp)), a1.kt (.same (same_new hp))⟩ (.inr rfl)
  · rw [if_neg hc]
    try (wide_line using [upd_same])
    refine ⟨v2, h2, rfl, a2, fun k => ⟨e4, fun p hp => ?_⟩⟩
    exact kq _ (.node (k + 1) x h1 h2) _ _ (same_new hp) ⟨p, b, v1, v2, rfl, upd_same, same_new hp _ _ hb, a1.kt (.same (same_new hp)), a2.kt (.same (same_new hp))⟩ (.inl rfl)
theorem r_least {K : PySem.W.Frag} {A : Ads} {E : XK} {vs : List V} {H : Hp} {Q : VK} (h : sp_least vs H Q E) : t_least K A E { nx := fun _ H' => Q .non H', rt := Q } (L2.start ["heap"] vs) H := by
  obtain ⟨v, r, x, l, t, rfl, ha, kq⟩ := h
  unfold t_least
  obtain ⟨a, b, vl, vt, rfl, ha, hb, _⟩ := ha
  wp_walk using ha
  exact kq b hb
theorem r_without_least {K : PySem.W.Frag} {A : Ads} {E : XK} {vs : List V} {H : Hp} {Q : VK} (h : sp_without_least vs H Q E) : t_without_least K A E { nx := fun _ H' => Q .non H', rt := Q } (L2.start ["heap"] vs) H := by
  obtain ⟨v, r, x, l, t, rfl, ha, hd, hl, kq⟩ := h
  unfold t_without_least
  obtain ⟨a, b, vl, vt, rfl, ha, hb, hl1, ht1⟩ := ha
  wp_walk using ha
  refine atK_n 2 rfl rfl (atK_n 3 rfl rfl ?_)
  exact ⟨vl, vt, l, t, rfl, hl1, ht1, hd.1, hd.2.1, hl, kq⟩
theorem r_put_in {K : PySem.W.Frag} {A : Ads} {E : XK} {vs : List V} {H : Hp} {Q : VK} (h : sp_put_in vs H Q E) : t_put_in K A E { nx := fun _ H' => Q .non H', rt := Q } (L2.start ["heap", "item"] vs) H := by
  obtain ⟨v, b, x, h, rfl, hb, ha, hd, hl, kq⟩ := h
  unfold t_put_in
  have e4 : (4 : Nat) ≤ sizeLine := by rw [sizeLine_eq]; decide
  wp_walk using upd_same
  refine ⟨Nat.zero_le _, fun p1 hp1 => ⟨Nat.zero_le _, fun p2 hp2 => ⟨e4, fun p3 hp3 => ?_⟩⟩⟩
  have s1 := same_new (o := .tup []) hp1
  have s2 := same_new (o := .tup []) hp2
  have s3 := same_new (o := .tup [.int 1, .ref b, .ref p1, .ref p2]) hp3
  have sA := (s1.trans s2).trans s3
  refine ⟨v, .ref p3, h, .node 1 x .nil .nil, rfl, ha.kt (.same sA), ⟨p3, b, _, _, rfl, upd_same, sA _ _ hb, ⟨p1, rfl, s3 _ _ (s2 _ _ upd_same)⟩, ⟨p2, rfl, s3 _ _ upd_same⟩⟩, hd, ⟨trivial, trivial, by simp [Lh.items]⟩, by simp [Lh.items]; omega, fun v' h' H' s' a' d' pe => ?_⟩
  refine kq v' h' H' (sA.trans s') a' d' (pe.trans ?_)
  simp [Lh.items]
theorem r_heap_of {K : PySem.W.Frag} {A : Ads} {E : XK} {vs : List V} {H : Hp} {Q : VK} (h : sp_heap_of vs H Q E) : t_heap_of K A E { nx := fun _ H' => Q .non H', rt := Q } (L2.start ["items", "rows", "more", "item", "at"] vs) H := by
  obtain ⟨a, rfl, ha, kq⟩ := h
  unfold t_heap_of
  refine seq1 ?_
  wide_line using [upd_same]
  refine lcT_core ha (by simp) (fun _ => true) (fun _ _ _ => True) (fun _ _ _ _ _ h => h) (fun x hx => by simp at hx) fun D H1 ys hD s1 hDs pr => ?_
  cases pr
  refine seq1 ?_
  refine while_to (fun m σ H' => σ = [some (.ref a), some (.ref D), none, none, none] ∧ H' = H1) (fun σ H' => σ = [some (.ref a), some (.ref D), none, none, none] ∧ H' = H1) 0 ⟨rfl, rfl⟩ ?_ ?_
  · rintro σ H' ⟨rfl, rfl⟩
    wp_walk using hDs
    exact ⟨Nat.zero_le _, fun p hp => kq _ _ (s1.trans (same_new hp)) ⟨p, rfl, upd_same⟩⟩
  · rintro nx hnx m σ H' ⟨rfl, rfl⟩
    wide_line using [hDs]
    exact hnx _ _ ⟨rfl, rfl⟩
/-- the nodes that were gone through, outermost first -/
def chItems : List (Int × Lh) → List Int
  | [] => []
  | (x, l) :: r => x :: (l.items ++ chItems r)
def ChOk : List (Int × Lh) → List Int → Prop
  | [], _ => True
  | (x, l) :: r, rest => l.Hd ∧ (∀ y ∈ l.items ++ (chItems r ++ rest), x ≤ y) ∧ ChOk r rest
theorem ChOk.mono : ∀ {c : List (Int × Lh)} {r1 r2 : List Int}, (∀ y ∈ r2, y ∈ r1) → ChOk c r1 → ChOk c r2
  | [], _, _, _, _ => trivial
  | (x, l) :: c, r1, r2, h, ⟨a, b, d⟩ => ⟨a, fun y hy => b y (by
      rcases List.mem_append.mp hy with hy | hy
      · exact List.mem_append.mpr (.inl hy)
      · rcases List.mem_append.mp hy with hy | hy
        · exact List.mem_append.mpr (.inr (List.mem_append.mpr (.inl hy)))
        · exact List.mem_append.mpr (.inr (List.mem_append.mpr (.inr (h y hy))))), ChOk.mono h d⟩
theorem chItems_app : ∀ {c d : List (Int × Lh)}, chItems (c ++ d) = chItems c ++ chItems d
  | [], _ => rfl
  | (x, l) :: c, d => by simp [chItems, chItems_app (c := c) (d := d)]
theorem ChOk.snoc : ∀ {c : List (Int × Lh)} {x : Int} {l : Lh} {r1 r2 : List Int}, ChOk c r1 → (∀ y ∈ x :: (l.items ++ r2), y ∈ r1) → l.Hd → (∀ y ∈ l.items ++ r2, x ≤ y) → ChOk (c ++ [(x, l)]) r2
  | [], x, l, r1, r2, _, h, hd, hx => ⟨hd, by simpa [chItems] using hx, trivial⟩
  | (x', l') :: c, x, l, r1, r2, ⟨a, b, d⟩, h, hd, hx => by
    refine ⟨a, fun y hy => b y ?_, ChOk.snoc d h hd hx⟩
    have e : chItems (c.append [(x, l)]) = chItems c ++ (x :: l.items) := by
      show chItems (c ++ _) = _
      rw [chItems_app]
      simp [chItems]
    rw [e] at hy
    simp only [List.mem_append, List.mem_cons] at hy h ⊢
    rcases hy with hy | (hy | (hy | hy)) | hy
    · exact .inl hy
    · exact .inr (.inl hy)
    · exact .inr (.inr (h y (.inl hy)))
    · exact .inr (.inr (h y (.inr (.inl hy))))
    · exact .inr (.inr (h y (.inr (.inr hy))))
theorem ChOk.drop : ∀ {cs : List (Int × Lh)} {rest : List Int} {k : Nat} {x : Int} {l : Lh} {r : List (Int × Lh)}, ChOk cs rest → cs.drop k = (x, l) :: r → l.Hd ∧ ∀ y ∈ l.items ++ (chItems r ++ rest), x ≤ y
  | [], _, k, _, _, _, _, e => by simp at e
  | (x', l') :: cs, rest, 0, x, l, r, ⟨a, b, d⟩, e => by
    simp at e
    obtain ⟨⟨rfl, rfl⟩, rfl⟩ := e
    exact ⟨a, b⟩
  | (x', l') :: cs, rest, k + 1, x, l, r, ⟨a, b, d⟩, e => ChOk.drop (k := k) d (by simpa using e)
/-- a node as it stands in the list of those gone through -/
def NdAt (H : Hp) (v : V) (c : Int × Lh) : Prop := ∃ r t, LhAt H (.node r c.1 c.2 t) v
theorem NdAt.kt {H H' : Hp} (k : KT H H') {v : V} {c : Int × Lh} (h : NdAt H v c) : NdAt H' v c := let ⟨r, t, z⟩ := h; ⟨r, t, z.kt k⟩
theorem lt1 {K : PySem.W.Frag} {H : Hp} {a b : Addr} {x y : Int} {Q : VK} (ha : H a = some (.tup [.int x])) (hb : H b = some (.tup [.int y])) (q : Q (.bl (decide (x < y))) H) : rLtD K (.ref a) (.ref b) H Q := by
  refine ⟨.tuple [.int x], .tuple [.int y], (Tz.da (n := 1) (.tup ha (by simp) (.cons .int .nil))).dp, (Tz.da (n := 1) (.tup hb (by simp) (.cons .int .nil))).dp, by simp [PySem.W.alike, PySem.W.alikeAll], by simp, by simp [PyData.depth, PyData.depthAll], ?_⟩
  have e : PySem.W.dataLt (.tuple [.int x]) (.tuple [.int y]) = decide (x < y) := by
    rw [PySem.W.dataLt_tuple, PySem.W.dataLt_cons (by simp [PySem.W.alike]), PySem.W.dataLt_int]
    have e0 : PyProof.Rows.lexLt itemOrd (PySem.W.keyToksAll []) (PySem.W.keyToksAll []) = false := lex_irrefl _
    rw [e0]
    simp only [PyData.eqv, beq_iff_eq]
    by_cases h : x = y <;> simp [h]
  rw [e]
  exact q
theorem r_met {K : PySem.W.Frag} {A : Ads} {E : XK} {vs : List V} {H : Hp} {Q : VK} (h : sp_met vs H Q E) : t_met K A E { nx := fun _ H' => Q .non H', rt := Q } (L2.start ["one", "other", "left", "found", "node"] vs) H := by
  obtain ⟨v1, v2, h1, h2, rfl, a1, a2, d1, d2, hl, kq⟩ := h
  unfold t_met
  refine seq1 ?_
  wide_line using [upd_same]
  refine ⟨Nat.zero_le _, fun ll hll => ?_⟩
  have s0 := same_new (o := .lst []) hll
  have q0 : upd H ll (.lst []) ll = some (.lst []) := upd_same
  generalize upd H ll (.lst []) = H0 at *
  refine seq1 ?_
  refine while_to (fun m σ H' => ∃ w1 w2 g1 g2 nds cs, σ = [some w1, some w2, some (.ref ll), none, none] ∧ Same H H' ∧ H' ll = some (.lst nds) ∧ LhAt H' g1 w1 ∧ LhAt H' g2 w2 ∧ g1.Hd ∧ g2.Hd ∧ Paired (NdAt H') nds cs ∧ ChOk cs (g1.items ++ g2.items) ∧ (chItems cs ++ (g1.items ++ g2.items)).Perm (h1.items ++ h2.items) ∧ m = g1.items.length + g2.items.length)
    (fun σ H' => ∃ w1 w2 g nds cs, (σ = [some w1, some w2, some (.ref ll), none, none] ∧ ((LhAt H' g w1 ∧ LhAt H' .nil w2) ∨ (LhAt H' .nil w1 ∧ LhAt H' g w2 ∧ g ≠ .nil))) ∧ Same H H' ∧ H' ll = some (.lst nds) ∧ g.Hd ∧ Paired (NdAt H') nds cs ∧ ChOk cs g.items ∧ (chItems cs ++ g.items).Perm (h1.items ++ h2.items))
    (h1.items.length + h2.items.length) ⟨v1, v2, h1, h2, [], [], rfl, s0, q0, a1.kt (.same s0), a2.kt (.same s0), d1, d2, .nil, trivial, by simp [chItems], rfl⟩ ?_ ?_
  · rintro σ H1 ⟨w1, w2, g, nds, cs, ⟨rfl, hg⟩, s1, hl1, hd, pr, ck, pm⟩
    dsimp only
    have hf : ∃ w, LhAt H1 g w ∧ ∀ {D : Ends}, D.nx [some w1, some w2, some (.ref ll), some w, none] H1 → tAsg (tIf (dTest (tOp dEq (tCB dLen (tCons (dVar 1) tNil)) (tC (.int 0)))) (dVar 0) (dVar 1)) (gName 3) D [some w1, some w2, some (.ref ll), none, none] H1 := by
      rcases hg with ⟨z1, z2⟩ | ⟨z1, z2, ng⟩
      · obtain ⟨a2, rfl, ha2⟩ := z2
        refine ⟨w1, z1, fun {D} hz => ?_⟩
        wide_line using [ha2]
        exact hz
      · cases g with
        | nil => exact absurd rfl ng
        | node r x l t =>
          obtain ⟨a', b', vl', vt', rfl, ha', hb', al', at'⟩ := id z2
          refine ⟨.ref a', z2, fun {D} hz => ?_⟩
          wide_line using [ha']
          exact hz
    obtain ⟨w, hw, hz⟩ := hf
    refine seq1 (hz ?_)
    dsimp only
    refine seq1 ?_
    wide_line using [hl1]
    intro rv hrv
    have sR := same_new (o := .lst nds.reverse) hrv
    have qR : upd H1 rv (.lst nds.reverse) rv = some (.lst nds.reverse) := upd_same
    have hw2 := hw.kt (.same sR)
    have pr2 : Paired (NdAt _) nds cs := Paired.mapP pr fun _ _ z => z.kt (.same sR)
    have sHR := s1.trans sR
    generalize upd H1 rv (.lst nds.reverse) = H2 at *
    have nl := paired_len pr2
    refine forL_to (.of qR) (fun i σ H' => ∃ wf T z4, σ = [some w1, some w2, some (.ref ll), some wf, z4] ∧ Same H2 H' ∧ LhAt H' T wf ∧ T.Hd ∧ T.items.Perm (chItems (cs.drop (cs.length - i)) ++ g.items))
      (fun σ H' => ∃ wf T z4, σ = [some w1, some w2, some (.ref ll), some wf, z4] ∧ Same H2 H' ∧ LhAt H' T wf ∧ T.Hd ∧ T.items.Perm (chItems cs ++ g.items))
      ⟨w, g, none, rfl, Same.refl _, hw2, hd, by simp [chItems]⟩ ?_ ?_ ?_ ?_
    · rintro i σ H' _ ⟨wf, T, z4, rfl, s, _⟩
      exact .of (s _ _ qR)
    · rintro σ H' ⟨wf, T, z4, rfl, s, aT, dT, pT⟩
      rw [List.length_reverse, nl, Nat.sub_self, List.drop_zero] at pT
      exact ⟨wf, T, z4, rfl, s, aT, dT, pT⟩
    · rintro σ H' ⟨wf, T, z4, rfl, s, aT, dT, pT⟩
      wp_walk using upd_same
      exact kq _ T _ (sHR.trans s) aT dT (pT.trans pm)
    · rintro N nx hnx i x σ H3 hx hN ⟨wf, T, z4, rfl, s, aT, dT, pT⟩
      have hi : i < nds.length := by have := (List.getElem?_eq_some_iff.mp hx).1; simpa using this
      rw [List.getElem?_reverse hi] at hx
      obtain ⟨⟨y, l⟩, hc, r, t, hn⟩ := pairedGet pr2 hx
      obtain ⟨a, b, vl, vt, rfl, ha, hb, al, at_⟩ := hn
      have hk : nds.length - 1 - i < cs.length := by omega
      have ed : cs.drop (cs.length - (i + 1)) = (y, l) :: cs.drop (cs.length - i) := by
        have e1 : cs.length - (i + 1) = nds.length - 1 - i := by omega
        rw [e1, List.drop_eq_getElem_cons hk]
        have e2 : cs[nds.length - 1 - i] = (y, l) := by rw [List.getElem?_eq_getElem hk] at hc; exact Option.some.inj hc
        have e3 : nds.length - 1 - i + 1 = cs.length - i := by omega
        rw [e2, e3]
      obtain ⟨cl, cx⟩ := ChOk.drop (k := cs.length - (i + 1)) ck ed
      wide_line using [s _ _ ha]
      refine atK_n 2 rfl rfl ?_
      refine ⟨b, y, vl, wf, l, T, rfl, s _ _ hb, al.kt (.same s), aT, fun v' h' r' H4 s4 a4 hor => ?_⟩
      have dall : ∀ z ∈ l.items ++ T.items, y ≤ z := fun z hz => by
        rcases List.mem_append.mp hz with hz | hz
        · exact cx z (List.mem_append.mpr (.inl hz))
        · exact cx z (List.mem_append.mpr (.inr (pT.mem_iff.mp hz)))
      refine hN _ _ ⟨v', h', _, rfl, s.trans s4, a4, ?_, ?_⟩
      · rcases hor with rfl | rfl
        · exact ⟨cl, dT, dall⟩
        · exact ⟨dT, cl, fun z hz => dall z (List.perm_append_comm.mem_iff.mp hz)⟩
      · have p1 : h'.items.Perm (y :: (l.items ++ T.items)) := by
          rcases hor with rfl | rfl
          · exact List.Perm.refl _
          · exact List.Perm.cons _ List.perm_append_comm
        refine p1.trans ?_
        rw [ed]
        show (y :: (l.items ++ T.items)).Perm ((y :: (l.items ++ chItems (cs.drop (cs.length - i)))) ++ g.items)
        rw [List.cons_append, List.append_assoc]
        exact List.Perm.cons _ (List.Perm.append_left _ pT)
  · rintro nx hnx m σ H1 ⟨w1, w2, g1, g2, nds, cs, rfl, s1, hl1, b1, b2, e1, e2, pr, ck, pm, rfl⟩
    cases g1 with
    | nil =>
      obtain ⟨a, rfl, ha⟩ := b1
      wide_line using [ha]
      refine hnx _ _ ⟨_, w2, g2, nds, cs, ⟨rfl, ?_⟩, s1, hl1, e2, pr, by simpa [Lh.items] using ck, by simpa [Lh.items] using pm⟩
      cases g2 with
      | nil => exact .inl ⟨⟨a, rfl, ha⟩, b2⟩
      | node r x l t => exact .inr ⟨⟨a, rfl, ha⟩, b2, by simp⟩
    | node r x l t =>
      cases g2 with
      | nil =>
        obtain ⟨a, b, vl, vt, rfl, ha, hb, al, at_⟩ := b1
        obtain ⟨a', rfl, ha'⟩ := b2
        wide_line using [ha, ha']
        exact hnx _ _ ⟨_, _, .node r x l t, nds, cs, ⟨rfl, .inl ⟨⟨a, b, vl, vt, rfl, ha, hb, al, at_⟩, ⟨a', rfl, ha'⟩⟩⟩, s1, hl1, e1, pr, by simpa [Lh.items] using ck, by simpa [Lh.items] using pm⟩
      | node r' x' l' t' =>
        obtain ⟨a, b, vl, vt, rfl, ha, hb, al, at_⟩ := b1
        obtain ⟨a', b', vl', vt', rfl, ha', hb', al', at'⟩ := b2
        wide_line using [ha, ha']
        refine ⟨_, fun _ _ h => h, ?_⟩
        have nl : ∀ {p : Addr} {xs : List V}, H1 p = some (.tup xs) → p ≠ ll := fun hp e => by rw [e, hl1] at hp; cases hp
        have kt : ∀ {ys : List V}, KT H1 (upd H1 ll (.lst ys)) := KT.mut (by rw [hl1]; rfl)
        have hllH : H ll = none := hll
        have nlen : nds.length < 1000001 := by
          have e := paired_len pr
          have e2 := pm.length_eq
          have e3 : ∀ c : List (Int × Lh), c.length ≤ (chItems c).length := fun c => by
            induction c with
            | nil => simp [chItems]
            | cons p c ih => obtain ⟨x, l⟩ := p; simp [chItems]; omega
          have := e3 cs
          simp only [List.length_append] at e2
          omega
        have go : ∀ {N nx : L2.St → Hp → Prop} {a b vl vt wo r x l t g M}, H1 a = some (.tup [.int r, .ref b, vl, vt]) → H1 b = some (.tup [.int x]) → LhAt H1 l vl → LhAt H1 t vt → LhAt H1 g wo → (Lh.node r x l t).Hd → g.Hd → (∀ y ∈ g.items, x ≤ y) → ChOk cs ((Lh.node r x l t).items ++ g.items) → (chItems cs ++ ((Lh.node r x l t).items ++ g.items)).Perm (h1.items ++ h2.items) → M = (Lh.node r x l t).items.length + g.items.length →
            (∀ σ' H', (∃ m', m' < M ∧ ∃ w1 w2 g1 g2 nds cs, σ' = [some w1, some w2, some (.ref ll), none, none] ∧ Same H H' ∧ H' ll = some (.lst nds) ∧ LhAt H' g1 w1 ∧ LhAt H' g2 w2 ∧ g1.Hd ∧ g2.Hd ∧ Paired (NdAt H') nds cs ∧ ChOk cs (g1.items ++ g2.items) ∧ (chItems cs ++ (g1.items ++ g2.items)).Perm (h1.items ++ h2.items) ∧ m' = g1.items.length + g2.items.length) → N σ' H') →
            tSeq (tDrop (dBM dAppend (dVar 2) (tCons (dVar 0) tNil))) (tAsg (tOp dIx (dVar 0) (tC (.int 3))) (gName 0)) { nx := N, rt := Q, bk := nx, ct := N } [some (.ref a), some wo, some (.ref ll), none, none] H1 := by
          intro N nx a b vl vt wo r x l t g M ha hb al at_ ag dn dg hx ck pm hM hN
          refine seq1 ?_
          wide_line using [hl1]
          refine ⟨by rw [sizeLine_eq]; omega, ?_⟩
          have hqa : upd H1 ll (.lst (nds ++ [.ref a])) a = some (.tup [.int r, .ref b, vl, vt]) := kt _ _ ha
          simp only [hqa, seqAt_tup]
          refine atK_n 3 rfl rfl (hN _ _ ⟨t.items.length + g.items.length, by rw [hM]; simp [Lh.items]; omega, vt, wo, t, g, nds ++ [.ref a], cs ++ [(x, l)], rfl, same_mut s1 hllH, upd_same, at_.kt kt, ag.kt kt, dn.2.1, dg, paired_app (Paired.mapP pr fun _ _ z => z.kt kt) (.cons ⟨r, t, a, b, vl, vt, rfl, kt _ _ ha, kt _ _ hb, al.kt kt, at_.kt kt⟩ .nil), ?_, ?_, rfl⟩)
          · refine ck.snoc (fun y hy => ?_) dn.1 (fun y hy => ?_)
            · simp only [Lh.items, List.mem_append, List.mem_cons] at hy ⊢
              rcases hy with h | h | h | h
              · exact .inl (.inl h)
              · exact .inl (.inr (.inl h))
              · exact .inl (.inr (.inr h))
              · exact .inr h
            · simp only [List.mem_append] at hy
              rcases hy with h | h | h
              · exact dn.2.2 y (List.mem_append.mpr (.inl h))
              · exact dn.2.2 y (List.mem_append.mpr (.inr h))
              · exact hx y h
          · simpa [chItems_app, chItems, Lh.items] using pm
        refine seq1 ?_
        wide_line using [ha, ha']
        refine lt1 hb' hb ?_
        dsimp only
        by_cases hc : x' < x
        · rw [if_pos (by simpa using hc)]
          refine go (g := .node r x l t) ha' hb' al' at' ⟨a, b, vl, vt, rfl, ha, hb, al, at_⟩ e2 e1 (fun y hy => ?_) (ck.mono fun y hy => (List.perm_append_comm.mem_iff).mp hy) ((List.Perm.append_left _ List.perm_append_comm).trans pm) (Nat.add_comm ..) fun _ _ h => h
          rcases List.mem_cons.mp hy with rfl | hy
          · omega
          · have := e1.2.2 y hy
            omega
        · rw [if_neg (by simpa using hc)]
          refine go (g := .node r' x' l' t') ha hb al at_ ⟨a', b', vl', vt', rfl, ha', hb', al', at'⟩ e1 e2 (fun y hy => ?_) ck pm rfl fun _ _ h => h
          rcases List.mem_cons.mp hy with rfl | hy
          · omega
          · have := e2.2.2 y hy
            omega
theorem dl1 {x y : Int} : PySem.W.dataLt (.tuple [.int x]) (.tuple [.int y]) = decide (x < y) := by
  rw [PySem.W.dataLt_tuple, PySem.W.dataLt_cons (by simp [PySem.W.alike]), PySem.W.dataLt_int]
  have e0 : PyProof.Rows.lexLt itemOrd (PySem.W.keyToksAll []) (PySem.W.keyToksAll []) = false := lex_irrefl _
  rw [e0]
  simp only [PyData.eqv, beq_iff_eq]
  by_cases h : x = y <;> simp [h]
def key1 (b : V × PyData) : Int := match b.2 with
  | .tuple [.int y] => y
  | _ => 0
def adr1 (b : V × PyData) : Addr := match b.1 with
  | .ref a => a
  | _ => 0
theorem bs_of {H : Hp} : ∀ {fs : List Addr} {ys : List Int}, Paired (fun q y => H q = some (.tup [.int y])) fs ys → ∃ bs : List (V × PyData), bs.map (·.1) = fs.map V.ref ∧ bs.map key1 = ys ∧ ∀ b ∈ bs, ∃ q y, b = (.ref q, .tuple [.int y]) ∧ H q = some (.tup [.int y])
  | _, _, .nil => ⟨[], rfl, rfl, by simp⟩
  | _, _, .cons (a := q) (b := y) h t => by
    obtain ⟨bs, e1, e2, e3⟩ := bs_of t
    refine ⟨(.ref q, .tuple [.int y]) :: bs, by rw [List.map_cons, e1]; rfl, by rw [List.map_cons, e2]; rfl, fun b hb => ?_⟩
    rcases List.mem_cons.mp hb with rfl | hb
    · exact ⟨q, y, rfl, h⟩
    · exact e3 b hb
theorem of_bs {H : Hp} : ∀ {bs : List (V × PyData)}, (∀ b ∈ bs, ∃ q y, b = (.ref q, .tuple [.int y]) ∧ H q = some (.tup [.int y])) → bs.map (·.1) = (bs.map adr1).map V.ref ∧ Paired (fun q y => H q = some (.tup [.int y])) (bs.map adr1) (bs.map key1)
  | [], _ => ⟨rfl, .nil⟩
  | b :: bs, h => by
    obtain ⟨e1, e2⟩ := of_bs fun c hc => h c (List.mem_cons_of_mem _ hc)
    obtain ⟨q, y, rfl, hq⟩ := h b (List.mem_cons_self ..)
    exact ⟨by rw [List.map_cons, e1]; rfl, .cons hq e2⟩
theorem sort_bs {H : Hp} {bs : List (V × PyData)} (h : ∀ b ∈ bs, ∃ q y, b = (.ref q, .tuple [.int y]) ∧ H q = some (.tup [.int y])) : (bs.mergeSort (PySem.W.dataLe false (·.2))).map key1 = (bs.map key1).mergeSort (fun a b => decide (a ≤ b)) := by
  refine List.map_mergeSort fun a ha b hb => ?_
  obtain ⟨q, y, rfl, _⟩ := h a ha
  obtain ⟨q', y', rfl, _⟩ := h b hb
  show (!PySem.W.dataLt (.tuple [.int y']) (.tuple [.int y])) = decide (y ≤ y')
  rw [dl1]
  by_cases hc : y' < y
  · have : ¬ y ≤ y' := by omega
    simp [hc, this]
  · have : y ≤ y' := by omega
    simp [hc, this]
theorem ints_sorted (l : List Int) : (l.mergeSort (fun a b => decide (a ≤ b))).Pairwise (· ≤ ·) := by
  have := List.pairwise_mergeSort (le := fun a b : Int => decide (a ≤ b)) (fun a b c h1 h2 => by simp at *; omega) (fun a b => by simp; omega) l
  exact this.imp fun h => by simpa using h
theorem paired_snoc {α β : Type} {F : α → β → Prop} {xs : List α} {x : α} : ∀ {ys : List β}, Paired F (xs ++ [x]) ys → ∃ ys' y, ys = ys' ++ [y] ∧ Paired F xs ys' ∧ F x y := by
  induction xs with
  | nil =>
    intro ys h
    cases h with | cons h t =>
    cases t
    exact ⟨[], _, rfl, .nil, h⟩
  | cons z xs ih =>
    intro ys h
    cases h with | cons h t =>
    obtain ⟨ys', y, rfl, p, f⟩ := ih t
    exact ⟨_ :: ys', y, rfl, .cons h p, f⟩
def Lh.wt : Lh → Nat
  | .nil => 1
  | .node _ _ l t => 1 + l.wt + t.wt
def wts : List Lh → Nat
  | [] => 0
  | t :: ts => t.wt + wts ts
theorem Lh.wt_pos (h : Lh) : 1 ≤ h.wt := by cases h <;> simp [Lh.wt] <;> omega
theorem Lh.wt_eq : ∀ h : Lh, h.wt = 2 * h.items.length + 1
  | .nil => rfl
  | .node _ _ l t => by simp [Lh.wt, Lh.items, Lh.wt_eq l, Lh.wt_eq t]; omega
theorem wts_app : ∀ {a b : List Lh}, wts (a ++ b) = wts a + wts b
  | [], _ => by simp [wts]
  | t :: a, b => by simp [wts, wts_app (a := a) (b := b)]; omega
theorem wts_len : ∀ ts : List Lh, ts.length ≤ wts ts
  | [] => Nat.le_refl _
  | t :: ts => by have := wts_len ts; have := t.wt_pos; simp [wts]; omega
theorem r_items_of {K : PySem.W.Frag} {A : Ads} {E : XK} {vs : List V} {H : Hp} {Q : VK} (h : sp_items_of vs H Q E) : t_items_of K A E { nx := fun _ H' => Q .non H', rt := Q } (L2.start ["heap", "found", "left", "node"] vs) H := by
  obtain ⟨v, h, rfl, ha, hl, kq⟩ := h
  unfold t_items_of
  have e1 : (1 : Nat) ≤ sizeLine ∧ 2 ≤ sizeLine := by rw [sizeLine_eq]; decide
  refine seq1 ?_
  wide_line using [upd_same]
  refine ⟨Nat.zero_le _, fun fl hfl => ⟨e1.1, fun ll hll => ?_⟩⟩
  have nfl : fl ≠ ll := ne_of_none upd_same hll
  have sA := (same_new (o := .lst []) hfl).trans (same_new (o := .lst [v]) hll)
  have qf : upd (upd H fl (.lst [])) ll (.lst [v]) fl = some (.lst []) := by rw [upd_ne nfl]; exact upd_same
  have ql : upd (upd H fl (.lst [])) ll (.lst [v]) ll = some (.lst [v]) := upd_same
  have llH : H ll = none := by
    cases e : H ll with
    | none => rfl
    | some o => have := same_new (o := .lst []) hfl _ _ e; rw [hll] at this; cases this
  generalize upd (upd H fl (.lst [])) ll (.lst [v]) = H0 at *
  refine seq1 ?_
  refine while_to (fun m σ H' => ∃ z3 fs ys ls ts, σ = [some v, some (.ref fl), some (.ref ll), z3] ∧ Same H H' ∧ H' fl = some (.lst (fs.map V.ref)) ∧ H' ll = some (.lst ls) ∧ Paired (fun q y => H' q = some (.tup [.int y])) fs ys ∧ Paired (fun v t => LhAt H' t v) ls ts ∧ (ys ++ ts.flatMap Lh.items).Perm h.items ∧ wts ts ≤ 2000001 ∧ m = wts ts)
    (fun σ H' => ∃ z3 fs ys, σ = [some v, some (.ref fl), some (.ref ll), z3] ∧ Same H H' ∧ H' fl = some (.lst (fs.map V.ref)) ∧ Paired (fun q y => H' q = some (.tup [.int y])) fs ys ∧ ys.Perm h.items)
    (wts [h]) ⟨none, [], [], [v], [h], rfl, sA, qf, ql, .nil, .cons (ha.kt (.same sA)) .nil, by simp, by simp [wts, Lh.wt_eq]; omega, rfl⟩ ?_ ?_
  · rintro σ H1 ⟨z3, fs, ys, rfl, s1, hf, pr, pm⟩
    wp_walk using hf
    obtain ⟨bs, b1, b2, b3⟩ := bs_of pr
    have len : bs.length ≤ 1000000 := by
      have : (bs.map key1).length = bs.length := List.length_map ..
      rw [b2] at this
      have := pm.length_eq
      omega
    refine ⟨fl, bs, rfl, by rw [b1]; exact .of hf, fun b hb => ?_, fun d hd e he => ?_, .inl fun d hd => ?_, fun b hb => ?_, len, fun p hp => ?_⟩
    · obtain ⟨q, y, rfl, hq⟩ := b3 b hb
      exact (Tz.da (n := 1) (.tup hq (by simp) (.cons .int .nil))).dp
    · obtain ⟨b, hb, rfl⟩ := List.mem_map.mp hd
      obtain ⟨c, hc, rfl⟩ := List.mem_map.mp he
      obtain ⟨q, y, rfl, hq⟩ := b3 b hb
      obtain ⟨q', y', rfl, hq'⟩ := b3 c hc
      simp [PySem.W.alike, PySem.W.alikeAll]
    · obtain ⟨b, hb, rfl⟩ := List.mem_map.mp hd
      obtain ⟨q, y, rfl, hq⟩ := b3 b hb
      exact ⟨_, _, rfl⟩
    · obtain ⟨q, y, rfl, hq⟩ := b3 b hb
      simp [PyData.depth, PyData.depthAll]
    · have hz : ∀ b ∈ bs.mergeSort (PySem.W.dataLe false (·.2)), ∃ q y, b = (.ref q, .tuple [.int y]) ∧ H1 q = some (.tup [.int y]) := fun b hb => b3 b ((List.mergeSort_perm ..).mem_iff.mp hb)
      obtain ⟨c1, c2⟩ := of_bs hz
      have c3 := sort_bs b3
      generalize bs.mergeSort (PySem.W.dataLe false (·.2)) = zs at *
      dsimp only
      simp only [upd_same]
      intro p2 hp2
      have sP := same_new (o := .lst (zs.map (·.1))) hp
      have sQ := same_new (o := .tup (zs.map (·.1))) hp2
      refine kq p2 (zs.map adr1) (zs.map key1) _ ((s1.trans sP).trans sQ) (by rw [← c1]; exact upd_same) (Paired.mapP c2 fun _ _ z => (sP.trans sQ) _ _ z) ?_ ?_
      · rw [c3, b2]
        exact (List.mergeSort_perm ..).trans pm
      · rw [c3]
        exact ints_sorted _
  · rintro nx hnx m σ H1 ⟨z3, fs, ys, ls, ts, rfl, s1, hf, hl1, pf, pl, pm, wl, rfl⟩
    wide_line using [hl1]
    rcases List.eq_nil_or_concat ls with rfl | ⟨ls', x, rfl⟩
    · cases pl
      rw [if_neg (by simp)]
      exact hnx _ _ ⟨z3, fs, ys, rfl, s1, hf, pf, by simpa using pm⟩
    · rw [List.concat_eq_append] at *
      obtain ⟨ts', t, rfl, pl', ht⟩ := paired_snoc pl
      rw [if_pos (by simp)]
      refine ⟨_, fun _ _ h => h, ?_⟩
      refine seq1 ?_
      wide_line using [hl1, last_snoc, drop_snoc]
      have k1 : KT H1 (upd H1 ll (.lst ls')) := KT.mut (by rw [hl1]; rfl)
      have hf2 : upd H1 ll (.lst ls') fl = some (.lst (fs.map V.ref)) := by rw [upd_ne nfl]; exact hf
      have hl2 : upd H1 ll (.lst ls') ll = some (.lst ls') := upd_same
      have s2 : Same H (upd H1 ll (.lst ls')) := same_mut s1 llH
      have pf2 : Paired (fun q y => upd H1 ll (.lst ls') q = some (.tup [.int y])) fs ys := Paired.mapP pf fun _ _ z => k1 _ _ z
      have pl2 : Paired (fun v t => LhAt (upd H1 ll (.lst ls')) t v) ls' ts' := Paired.mapP pl' fun _ _ z => z.kt k1
      have ht2 := ht.kt k1
      generalize upd H1 ll (.lst ls') = H2 at *
      have wts' := wts_app (a := ts') (b := [t])
      have flen : fs.length ≤ 1000000 := by
        have a1 := paired_len pf
        have a2 := pm.length_eq
        simp only [List.length_append] at a2
        omega
      cases t with
      | nil =>
        obtain ⟨a, rfl, ha⟩ := ht2
        simp only [ha, seqAt_tup, List.length_nil]
        rw [if_neg (by decide)]
        refine ⟨wts ts', by rw [wts']; simp [wts, Lh.wt], _, fs, ys, ls', ts', rfl, s2, hf2, by first | exact hl2 | rfl, pf2, pl2, by simpa [Lh.items] using pm, by omega, rfl⟩
      | node r x l t =>
        obtain ⟨a, b, vl, vt, rfl, ha, hb, al, at_⟩ := ht2
        simp only [ha, seqAt_tup, List.length_cons, List.length_nil]
        rw [if_pos (by decide)]
        refine seq1 ?_
        wide_line using [hf2, ha]
        refine ⟨by rw [List.length_map, sizeLine_eq]; omega, ?_⟩
        have flH : H fl = none := hfl
        have k3 : KT H2 (upd H2 fl (.lst (fs.map V.ref ++ [.ref b]))) := KT.mut (by rw [hf2]; rfl)
        have hf3 : upd H2 fl (.lst (fs.map V.ref ++ [.ref b])) fl = some (.lst ((fs ++ [b]).map V.ref)) := by rw [upd_same]; simp
        have hl3 : upd H2 fl (.lst (fs.map V.ref ++ [.ref b])) ll = some (.lst ls') := by rw [upd_ne (Ne.symm nfl)]; exact hl2
        have s3 : Same H (upd H2 fl (.lst (fs.map V.ref ++ [.ref b]))) := same_mut s2 flH
        have ha3 := k3 _ _ ha
        have hb3 := k3 _ _ hb
        have al3 := al.kt k3
        have at3 := at_.kt k3
        have pf3 : Paired (fun q y => upd H2 fl (.lst (fs.map V.ref ++ [.ref b])) q = some (.tup [.int y])) fs ys := Paired.mapP pf2 fun _ _ z => k3 _ _ z
        have pl3 : Paired (fun v t => LhAt (upd H2 fl (.lst (fs.map V.ref ++ [.ref b]))) t v) ls' ts' := Paired.mapP pl2 fun _ _ z => z.kt k3
        generalize upd H2 fl (.lst (fs.map V.ref ++ [.ref b])) = H3 at *
        simp only [hl3, ha3, seqAt_tup]
        refine atK_n 2 rfl rfl (atK_n 3 rfl rfl ⟨e1.2, fun p hp => ?_⟩)
        have sP := same_new (o := .lst [vl, vt]) hp
        have qP : upd H3 p (.lst [vl, vt]) p = some (.lst [vl, vt]) := upd_same
        have hl4 := sP _ _ hl3
        have hf4 := sP _ _ hf3
        have s4 := s3.trans sP
        have hb4 := sP _ _ hb3
        have al4 := al3.kt (.same sP)
        have at4 := at3.kt (.same sP)
        have pf4 := Paired.mapP pf3 fun _ _ z => sP _ _ z
        have pl4 := Paired.mapP pl3 fun _ _ z => LhAt.kt (.same sP) z
        generalize upd H3 p (.lst [vl, vt]) = H4 at *
        have ll4 := wts_len ts'
        have lp := paired_len pl4
        refine ⟨ll, p, ls', [vl, vt], rfl, rfl, hl4, qP, by rw [sizeLine_eq]; simp; omega, ?_⟩
        have k5 : KT H4 (upd H4 ll (.lst (ls' ++ [vl, vt]))) := KT.mut (by rw [hl4]; rfl)
        refine ⟨wts (ts' ++ [l, t]), by rw [wts', wts_app]; simp [wts, Lh.wt] <;> omega, _, fs ++ [b], ys ++ [x], ls' ++ [vl, vt], ts' ++ [l, t], rfl, same_mut s4 llH, by rw [upd_ne nfl]; exact hf4, upd_same, paired_app (Paired.mapP pf4 fun _ _ z => k5 _ _ z) (.cons (k5 _ _ hb4) .nil), paired_app (Paired.mapP pl4 fun _ _ z => LhAt.kt k5 z) (.cons (al4.kt k5) (.cons (at4.kt k5) .nil)), ?_, by rw [wts_app]; rw [wts'] at wl; simp [wts, Lh.wt] at wl ⊢; omega, rfl⟩
        refine List.Perm.trans ?_ pm
        simp [Lh.items]
        refine List.Perm.append_left _ ?_
        exact (List.perm_middle (l₁ := ts'.flatMap Lh.items)).symm
theorem eq1 {K : PySem.W.Frag} {H : Hp} {a b : Addr} {x y : Int} {Q : VK} (ha : H a = some (.tup [.int x])) (hb : H b = some (.tup [.int y])) (q : Q (.bl (decide (x = y))) H) : dEqD K (.ref a) (.ref b) H Q := by
  refine eqD_da (n := 1) (Tz.da (.tup ha (by simp) (.cons .int .nil))) (Tz.da (.tup hb (by simp) (.cons .int .nil))) (by decide) ?_
  have e : PyData.eqv (.tuple [.int x]) (.tuple [.int y]) = decide (x = y) := by
    by_cases h : x = y <;> simp [PyData.eqv, PyData.eqvAll, h]
  rw [e]
  exact q
/-- how much is yet to be searched -/
def wtR : List (Lh × Int × Int) → Nat
  | [] => 0
  | t :: ts => t.1.wt + wtR ts
theorem wtR_app : ∀ {a b : List (Lh × Int × Int)}, wtR (a ++ b) = wtR a + wtR b
  | [], _ => by simp [wtR]
  | t :: a, b => by simp [wtR, wtR_app (a := a) (b := b)]; omega
theorem wtR_drop {ts : List (Lh × Int × Int)} {n : Nat} {t : Lh × Int × Int} (h : ts[n]? = some t) : wtR (ts.drop n) = t.1.wt + wtR (ts.drop (n + 1)) := by
  have hl := (List.getElem?_eq_some_iff.mp h).1
  have e : ts[n] = t := (List.getElem?_eq_some_iff.mp h).2
  rw [List.drop_eq_getElem_cons hl, e]
  rfl
theorem wtR_len : ∀ ts : List (Lh × Int × Int), ts.length ≤ wtR ts
  | [] => Nat.le_refl _
  | t :: ts => by have := wtR_len ts; have := t.1.wt_pos; simp [wtR]; omega
theorem lenR (ts : List (Lh × Int × Int)) (k : Nat) : ts.length ≤ k + wtR (ts.drop k) := by
  have := wtR_len (ts.drop k)
  rw [List.length_drop] at this
  omega
theorem Hangs.hd {h : Lh} {ts : List (Lh × Int × Int)} (hg : Hangs h ts) (hh : h.Hd) : ∀ (j : Nat) T ab sd, ts[j]? = some (T, ab, sd) → T.Hd := by
  intro j
  induction j using Nat.strongRecOn with
  | ind j ih =>
    intro T ab sd e
    rcases hg j T ab sd e with ⟨_, rfl, _⟩ | ⟨i, r, y, l, t, a, s, _, hi, e2, h2⟩
    · exact hh
    · have := ih i hi _ _ _ e2
      rcases h2 with ⟨_, rfl⟩ | ⟨_, rfl⟩
      · exact this.1
      · exact this.2.1
theorem Hangs.mem {h : Lh} {ts : List (Lh × Int × Int)} (hg : Hangs h ts) : ∀ (j : Nat) T ab sd, ts[j]? = some (T, ab, sd) → ∀ z ∈ T.items, z ∈ h.items := by
  intro j
  induction j using Nat.strongRecOn with
  | ind j ih =>
    intro T ab sd e z hz
    rcases hg j T ab sd e with ⟨_, rfl, _⟩ | ⟨i, r, y, l, t, a, s, _, hi, e2, h2⟩
    · exact hz
    · refine ih i hi _ _ _ e2 z ?_
      simp only [Lh.items, List.mem_cons, List.mem_append]
      rcases h2 with ⟨_, rfl⟩ | ⟨_, rfl⟩
      · exact .inr (.inl hz)
      · exact .inr (.inr hz)
theorem Hangs.app {h : Lh} {ts : List (Lh × Int × Int)} (hg : Hangs h ts) {i : Nat} {r y : Int} {l t : Lh} {a s : Int} (hi : ts[i]? = some (.node r y l t, a, s)) : Hangs h (ts ++ [(l, (i : Int), 2), (t, (i : Int), 3)]) := by
  intro j T ab sd e
  have il := (List.getElem?_eq_some_iff.mp hi).1
  have hi' : (ts ++ [(l, (i : Int), 2), (t, (i : Int), 3)])[i]? = some (.node r y l t, a, s) := by rw [List.getElem?_append_left il]; exact hi
  rcases Nat.lt_or_ge j ts.length with hj | hj
  · rw [List.getElem?_append_left hj] at e
    rcases hg j T ab sd e with h | ⟨i', r', y', l', t', a', s', h1, h2, h3, h4⟩
    · exact .inl h
    · exact .inr ⟨i', r', y', l', t', a', s', h1, h2, by rw [List.getElem?_append_left (by omega)]; exact h3, h4⟩
  · rw [List.getElem?_append_right hj] at e
    have hc : j - ts.length = 0 ∨ j - ts.length = 1 ∨ 2 ≤ j - ts.length := by omega
    rcases hc with h | h | h
    · rw [h] at e
      injection (Option.some.inj e) with e1 e2
      injection e2 with e2 e3
      subst e1 e2 e3
      exact .inr ⟨i, r, y, l, t, a, s, rfl, by omega, hi', .inl ⟨rfl, rfl⟩⟩
    · rw [h] at e
      injection (Option.some.inj e) with e1 e2
      injection e2 with e2 e3
      subst e1 e2 e3
      exact .inr ⟨i, r, y, l, t, a, s, rfl, by omega, hi', .inr ⟨rfl, rfl⟩⟩
    · rw [List.getElem?_eq_none (by simpa using h)] at e
      cases e
/-- the rows yet to be searched hold x, if the heap does -/
def Holds (x : Int) (h : Lh) (ts : List (Lh × Int × Int)) (n : Nat) : Prop := x ∈ h.items → ∃ j, n ≤ j ∧ ∃ r, ts[j]? = some r ∧ x ∈ r.1.items
theorem r_whereQ {K : PySem.W.Frag} {A : Ads} {E : XK} {vs : List V} {H : Hp} {Q : VK} (h : sp_whereQ A vs H Q E) : t_whereQ K A E { nx := fun _ H' => Q .non H', rt := Q } (L2.start ["heap", "item", "rows", "at", "node"] vs) H := by
  obtain ⟨v, b, x, h, rfl, hb, ha, hd, hl, ke, kq⟩ := h
  unfold t_whereQ
  have e1 : (1 : Nat) ≤ sizeLine ∧ 2 ≤ sizeLine ∧ 3 ≤ sizeLine := by rw [sizeLine_eq]; decide
  refine seq1 ?_
  wide_line using [upd_same]
  refine ⟨e1.2.2, fun p0 hp0 => ⟨e1.1, fun rl hrl => ?_⟩⟩
  have s0 := same_new (o := .tup [v, .int (-1), .int 0]) hp0
  have s1 := same_new (o := .lst [.ref p0]) hrl
  have sA := s0.trans s1
  have q0 : upd (upd H p0 (.tup [v, .int (-1), .int 0])) rl (.lst [.ref p0]) p0 = some (.tup [v, .int (-1), .int 0]) := s1 _ _ upd_same
  have qr : upd (upd H p0 (.tup [v, .int (-1), .int 0])) rl (.lst [.ref p0]) rl = some (.lst [.ref p0]) := upd_same
  have rlH : H rl = none := by
    cases e : H rl with
    | none => rfl
    | some o => have := s0 _ _ e; rw [hrl] at this; cases this
  generalize upd (upd H p0 (.tup [v, .int (-1), .int 0])) rl (.lst [.ref p0]) = H0 at *
  refine seq1 ?_
  wide_line using [upd_same]
  refine seq1 ?_
  have wh := h.wt_eq
  refine while_to (fun m σ H' => ∃ (n : Nat) (z4 : Option V) (rows : List V) (ts : List (Lh × Int × Int)), σ = [some v, some (.ref b), some (.ref rl), some (.int (n : Nat)), z4] ∧ Same H H' ∧ H' rl = some (.lst rows) ∧ Paired (RwAt H') rows ts ∧ Hangs h ts ∧ Holds x h ts n ∧ n ≤ ts.length ∧ ts.length ≤ n + wtR (ts.drop n) ∧ n + wtR (ts.drop n) ≤ 200001 ∧ m = wtR (ts.drop n))
    (fun σ H' => ∃ z3 z4, σ = [some v, some (.ref b), some (.ref rl), z3, z4] ∧ Same H H' ∧ x ∉ h.items)
    (wtR ([(h, (-1 : Int), (0 : Int))].drop 0)) ⟨0, none, [.ref p0], [(h, -1, 0)], rfl, sA, qr, .cons ⟨p0, v, rfl, q0, ha.kt (.same sA)⟩ .nil, ?_, fun hx => ⟨0, Nat.le_refl _, _, rfl, hx⟩, Nat.zero_le _, by simp [wtR]; omega, by simp [wtR]; omega, rfl⟩ ?_ ?_
  · intro j T ab sd e
    cases j with
    | zero =>
      injection (Option.some.inj e) with e1 e2
      injection e2 with e2 e3
      exact .inl ⟨rfl, e1.symm, e2.symm⟩
    | succ j => simp at e
  · rintro σ H1 ⟨z3, z4, rfl, s, hx⟩
    wp_walk using upd_same
    exact ke hx _ s
  · rintro nx hnx m σ H1 ⟨n, z4, rows, ts, rfl, s, hr, pr, hg, ho, hn, hl1, hl2, rfl⟩
    have lr := paired_len pr
    wide_line using [hr]
    by_cases hc : (n : Int) < (rows.length : Int)
    · rw [if_pos hc]
      refine ⟨_, fun _ _ h => h, ?_⟩
      have hnr : n < rows.length := by omega
      obtain ⟨⟨T, ab, sd⟩, hT, a, tv, ev, ha1, hTv⟩ := pairedGet pr (List.getElem?_eq_getElem hnr)
      have wd := wtR_drop hT
      have hTd := hg.hd hd _ _ _ _ hT
      refine seq1 ?_
      wide_line using [hr]
      refine atK_nat (List.getElem?_eq_getElem hnr) ?_
      rw [ev]
      simp only [ha1, seqAt_tup, atK_zero]
      have hb1 := s _ _ hb
      cases T with
      | nil =>
        obtain ⟨ta, rfl, hta⟩ := hTv
        refine seq1 ?_
        wide_line using [hta]
        refine seq1 ?_
        wide_line using [hta]
        refine ⟨wtR (ts.drop (n + 1)), by rw [wd]; simp [Lh.wt], n + 1, some (.ref ta), rows, ts, rfl, s, hr, pr, hg, fun hx => ?_, by omega, ?_, ?_, rfl⟩
        · obtain ⟨j, hj, r, hr, hxr⟩ := ho hx
          rcases Nat.lt_or_ge n j with h1 | h1
          · exact ⟨j, h1, r, hr, hxr⟩
          · have : j = n := by omega
            rw [this, hT] at hr
            cases hr
            simp [Lh.items] at hxr
        · rw [wd] at hl1; simp [Lh.wt] at hl1; omega
        · rw [wd] at hl2; simp [Lh.wt] at hl2; omega
      | node r y l t =>
        obtain ⟨ta, tb, vl, vt, rfl, hta, htb, al, at_⟩ := hTv
        refine seq1 ?_
        wide_line using [hta]
        refine eq1 htb hb1 ?_
        dsimp only
        by_cases hxy : y = x
        · rw [if_pos (by simpa using hxy)]
          refine ⟨e1.2.1, fun p hp => ?_⟩
          have sp := same_new (o := .tup [.ref rl, .int (n : Nat)]) hp
          subst hxy
          have hx : y ∈ h.items := hg.mem _ _ _ _ hT y (by simp [Lh.items])
          exact kq hx _ p rl rows ts n r l t ab sd (s.trans sp) upd_same (sp _ _ hr) (Paired.mapP pr fun _ _ z => z.kt (.same sp)) hg hT
        · rw [if_neg (by simpa using hxy)]
          refine seq1 ?_
          wide_line using [hta]
          refine lt1 htb hb1 ?_
          dsimp only
          by_cases hlt : y < x
          · rw [if_pos (by simpa using hlt)]
            simp only [hr, hta, seqAt_tup]
            refine atK_n 2 rfl rfl ⟨e1.2.2, fun p1 hp1 => ?_⟩
            have t1 := same_new (o := .tup [vl, .int (n : Nat), .int 2]) hp1
            have u1 : upd H1 p1 (.tup [vl, .int (n : Nat), .int 2]) p1 = some (.tup [vl, .int (n : Nat), .int 2]) := upd_same
            have hta2 := t1 _ _ hta
            have hr2 := t1 _ _ hr
            have al2 := al.kt (.same t1)
            have at2 := at_.kt (.same t1)
            have pr2 := Paired.mapP pr fun _ _ z => RwAt.kt (.same t1) z
            have s2 := s.trans t1
            generalize upd H1 p1 (.tup [vl, .int (n : Nat), .int 2]) = H2 at *
            simp only [hta2, seqAt_tup]
            refine atK_n 3 rfl rfl ⟨e1.2.2, fun p2 hp2 => ⟨e1.2.1, fun p3 hp3 => ?_⟩⟩
            have t2 := same_new (o := .tup [vt, .int (n : Nat), .int 3]) hp2
            have u2 : upd H2 p2 (.tup [vt, .int (n : Nat), .int 3]) p2 = some (.tup [vt, .int (n : Nat), .int 3]) := upd_same
            have t3 := same_new (o := .lst [.ref p1, .ref p2]) hp3
            have u3 : upd (upd H2 p2 (.tup [vt, .int (n : Nat), .int 3])) p3 (.lst [.ref p1, .ref p2]) p3 = some (.lst [.ref p1, .ref p2]) := upd_same
            have t23 := t2.trans t3
            have u1 := t23 _ _ u1
            have u2 := t3 _ _ u2
            have hr4 := t23 _ _ hr2
            have al4 := al2.kt (.same t23)
            have at4 := at2.kt (.same t23)
            have pr4 := Paired.mapP pr2 fun _ _ z => RwAt.kt (.same t23) z
            have s4 := s2.trans t23
            generalize upd (upd H2 p2 (.tup [vt, .int (n : Nat), .int 3])) p3 (.lst [.ref p1, .ref p2]) = H4 at *
            have hcast : (n : Int) + 1 = ((n + 1 : Nat) : Int) := rfl
            have tl : ts.length ≤ 200001 := by omega
            refine ⟨rl, p3, rows, [.ref p1, .ref p2], rfl, rfl, hr4, u3, by rw [sizeLine_eq]; simp; omega, ?_⟩
            have k5 : KT H4 (upd H4 rl (.lst (rows ++ [.ref p1, .ref p2]))) := KT.mut (by rw [hr4]; rfl)
            have ed : (ts ++ [(l, (n : Int), (2 : Int)), (t, (n : Int), (3 : Int))]).drop (n + 1) = ts.drop (n + 1) ++ [(l, (n : Int), (2 : Int)), (t, (n : Int), (3 : Int))] := by rw [List.drop_append_of_le_length (by omega)]
            have ew : wtR ((ts ++ [(l, (n : Int), (2 : Int)), (t, (n : Int), (3 : Int))]).drop (n + 1)) = wtR (ts.drop (n + 1)) + (l.wt + t.wt) := by rw [ed, wtR_app]; simp [wtR]
            simp only [Lh.wt] at wd
            refine ⟨wtR ((ts ++ [(l, (n : Int), (2 : Int)), (t, (n : Int), (3 : Int))]).drop (n + 1)), by rw [ew, wd]; omega, n + 1, some (.ref ta), rows ++ [.ref p1, .ref p2], ts ++ [(l, (n : Int), (2 : Int)), (t, (n : Int), (3 : Int))], rfl, same_mut s4 rlH, upd_same, paired_app (Paired.mapP pr4 fun _ _ z => RwAt.kt k5 z) (.cons ⟨p1, vl, rfl, k5 _ _ u1, al4.kt k5⟩ (.cons ⟨p2, vt, rfl, k5 _ _ u2, at4.kt k5⟩ .nil)), hg.app hT, fun hx => ?_, by simp; omega, lenR _ _, by rw [ew]; omega, rfl⟩
            obtain ⟨j, hj, r', hr', hxr⟩ := ho hx
            rcases Nat.lt_or_ge n j with h1 | h1
            · exact ⟨j, h1, r', by rw [List.getElem?_append_left (List.getElem?_eq_some_iff.mp hr').1]; exact hr', hxr⟩
            · have ej : j = n := by omega
              rw [ej, hT] at hr'
              cases hr'
              simp only [Lh.items, List.mem_cons, List.mem_append] at hxr
              rcases hxr with e | e | e
              · exact absurd e.symm hxy
              · exact ⟨ts.length, by omega, _, by rw [List.getElem?_append_right (Nat.le_refl _), Nat.sub_self]; rfl, e⟩
              · exact ⟨ts.length + 1, by omega, (t, (n : Int), 3), by rw [List.getElem?_append_right (by omega)]; simp, e⟩
          · rw [if_neg (by simpa using hlt)]
            simp only [Lh.wt] at wd
            refine ⟨wtR (ts.drop (n + 1)), by rw [wd]; omega, n + 1, some (.ref ta), rows, ts, rfl, s, hr, pr, hg, fun hx => ?_, by omega, lenR _ _, by omega, rfl⟩
            obtain ⟨j, hj, r', hr', hxr⟩ := ho hx
            rcases Nat.lt_or_ge n j with h1 | h1
            · exact ⟨j, h1, r', hr', hxr⟩
            · exfalso
              have ej : j = n := by omega
              rw [ej, hT] at hr'
              cases hr'
              rcases List.mem_cons.mp hxr with e | e
              · exact hxy e.symm
              · have := hTd.2.2 x e
                omega
    · rw [if_neg hc]
      refine hnx _ _ ⟨_, _, rfl, s, fun hx => ?_⟩
      obtain ⟨j, hj, r, hr, _⟩ := ho hx
      have := (List.getElem?_eq_some_iff.mp hr).1
      omega
theorem Hangs.len {h : Lh} {ts : List (Lh × Int × Int)} (hg : Hangs h ts) : ∀ (j : Nat) T ab sd, ts[j]? = some (T, ab, sd) → T.items.length ≤ h.items.length := by
  intro j
  induction j using Nat.strongRecOn with
  | ind j ih =>
    intro T ab sd e
    rcases hg j T ab sd e with ⟨_, rfl, _⟩ | ⟨i, r, y, l, t, a, s, _, hi, e2, h2⟩
    · exact Nat.le_refl _
    · have := ih i hi _ _ _ e2
      simp only [Lh.items, List.length_cons, List.length_append] at this
      rcases h2 with ⟨_, rfl⟩ | ⟨_, rfl⟩ <;> omega
theorem r_taken_out {K : PySem.W.Frag} {A : Ads} {E : XK} {vs : List V} {H : Hp} {Q : VK} (h : sp_taken_out A vs H Q E) : t_taken_out K A E { nx := fun _ H' => Q .non H', rt := Q } (L2.start ["heap", "item", "rows", "at", "found", "_", "above", "side", "node"] vs) H := by
  obtain ⟨v, b, x, h, rfl, hb, ha, hd, hl, ke, kq⟩ := h
  unfold t_taken_out
  refine seq1 ?_
  wide_line using [upd_same]
  refine ⟨v, b, x, h, rfl, hb, ha, hd, hl, fun hx H' s => ke hx H' s, fun hx H1 ra rl rows ts n r l t a sd s1 hra hrl pr hg hn => ?_⟩
  have kq := kq hx
  simp only [hra, tupAt_tup]
  refine ⟨rfl, ?_⟩
  obtain ⟨_, hr0, ra0, tv, ev0, ha0, hT0⟩ := pairedAt pr hn
  obtain ⟨ta, tb, vl, vt, rfl, hta, htb, al, at_⟩ := hT0
  refine seq1 ?_
  wide_line using [hrl]
  refine atK_nat hr0 ?_
  rw [ev0]
  simp only [ha0, seqAt_tup, atK_zero, hta]
  refine atK_n 2 rfl rfl ?_
  try (simp only [hrl, seqAt_lst])
  refine atK_nat hr0 ?_
  rw [ev0]
  simp only [ha0, seqAt_tup, atK_zero, hta]
  refine atK_n 3 rfl rfl ?_
  have hdT := hg.hd hd _ _ _ _ hn
  have lT : l.items.length + t.items.length ≤ 1000000 := by
    have := hg.len _ _ _ _ hn
    simp [Lh.items] at this
    omega
  refine ⟨vl, vt, l, t, rfl, al, at_, hdT.1, hdT.2.1, lT, fun vf g H2 s2 ag dg pg => ?_⟩
  have s12 := s1.trans s2
  have hrl2 := s2 _ _ hrl
  have pr2 := Paired.mapP pr fun _ _ z => RwAt.kt (.same s2) z
  refine seq1 ?_
  refine while_to (fun m σ H' => ∃ (n : Nat) (T : Lh) (ab sd : Int) (vf : V) (g : Lh) (z5 z6 z7 z8 : Option V), σ = [some v, some (.ref b), some (.ref rl), some (.int (n : Nat)), some vf, z5, z6, z7, z8] ∧ Same H2 H' ∧ ts[n]? = some (T, ab, sd) ∧ LhAt H' g vf ∧ g.Hd ∧ (x :: g.items).Perm T.items ∧ m = n)
    (fun σ H' => ∃ (z3 : Option V) (vf : V) (g : Lh) (z5 z6 z7 z8 : Option V), σ = [some v, some (.ref b), some (.ref rl), z3, some vf, z5, z6, z7, z8] ∧ Same H2 H' ∧ LhAt H' g vf ∧ g.Hd ∧ (x :: g.items).Perm h.items)
    n ⟨n, _, a, sd, vf, g, none, none, none, none, rfl, Same.refl _, hn, ag, dg, List.Perm.cons _ pg, rfl⟩ ?_ ?_
  · rintro σ H3 ⟨z3, vf, g, z5, z6, z7, z8, rfl, s3, ag, dg, pg⟩
    wp_walk using upd_same
    exact kq _ g _ (s12.trans s3) ag dg pg
  · rintro nx hnx m σ H3 ⟨n, T, ab, sd, vf, g, z5, z6, z7, z8, rfl, s3, hn, ag, dg, pg, rfl⟩
    have hrl3 := s3 _ _ hrl2
    obtain ⟨rv, hr1, ra1, tv1, ev1, ha1, hT1⟩ := pairedAt pr2 hn
    have ha1 := s3 _ _ ha1
    wide_line using [hrl3]
    refine atK_nat hr1 ?_
    rw [ev1]
    simp only [ha1, seqAt_tup, atK_one]
    rcases hg m T ab sd hn with ⟨rfl, rfl, rfl⟩ | ⟨i, r, y, l, t, a', s', rfl, hi, hti, hor⟩
    · rw [if_neg (by decide)]
      exact hnx _ _ ⟨_, vf, g, _, _, _, _, rfl, s3, ag, dg, pg⟩
    · rw [if_pos (by omega)]
      refine ⟨_, fun _ _ h => h, ?_⟩
      refine seq1 ?_
      wide_line using [hrl3]
      refine atK_nat hr1 ?_
      rw [ev1]
      simp only [ha1, tupAt_tup]
      refine ⟨rfl, ?_⟩
      obtain ⟨rv2, hr2, ra2, tv2, ev2, ha2, hT2⟩ := pairedAt pr2 hti
      obtain ⟨ta, tb, vl, vt, rfl, hta, htb, al, at_⟩ := hT2
      have ha2 := s3 _ _ ha2
      have hta := s3 _ _ hta
      have htb := s3 _ _ htb
      have al := al.kt (.same s3)
      have at_ := at_.kt (.same s3)
      have hdN := hg.hd hd _ _ _ _ hti
      refine seq1 ?_
      wide_line using [hrl3]
      refine atK_nat hr2 ?_
      rw [ev2]
      simp only [ha2, seqAt_tup, atK_zero]
      refine seq1 ?_
      wide_line using [hta]
      have fin : ∀ {o p : Lh} {v' : V} {h' : Lh} {r' : Int} {H4 : Hp}, Same H3 H4 → LhAt H4 h' v' → (h'.items.Perm (y :: (g.items ++ o.items))) → h'.Hd → (y :: (p.items ++ o.items)).Perm (Lh.node r y l t).items → (x :: g.items).Perm p.items → ∃ m', m' < m ∧ ∃ (n : Nat) (T : Lh) (ab sd_1 : Int) (vf : V) (g : Lh) (z5 z6 z7 z8 : Option V), [some v, some (V.ref b), some (V.ref rl), some (V.int (i : Nat)), some v', some tv1, some (V.int (i : Nat)), some (V.int sd), some (V.ref ta)] = [some v, some (V.ref b), some (V.ref rl), some (V.int (n : Nat)), some vf, z5, z6, z7, z8] ∧ Same H2 H4 ∧ ts[n]? = some (T, ab, sd_1) ∧ LhAt H4 g vf ∧ g.Hd ∧ (x :: g.items).Perm T.items ∧ m' = n := by
        intro o p v' h' r' H4 s4 a4 ph dh pp pg
        refine ⟨i, hi, i, _, a', s', v', h', _, _, _, _, rfl, s3.trans s4, hti, a4, dh, ?_, rfl⟩
        refine List.Perm.trans ?_ pp
        refine (List.Perm.cons x ph).trans ((List.Perm.swap y x _).trans (List.Perm.cons y ?_))
        exact (List.Perm.append_right o.items pg)
      rcases hor with ⟨rfl, rfl⟩ | ⟨rfl, rfl⟩
      · rw [if_pos rfl]
        have dall : ∀ z ∈ g.items ++ t.items, y ≤ z := fun z hz => by
          rcases List.mem_append.mp hz with hz | hz
          · exact hdN.2.2 z (List.mem_append.mpr (.inl (pg.mem_iff.mp (List.mem_cons_of_mem _ hz))))
          · exact hdN.2.2 z (List.mem_append.mpr (.inr hz))
        refine atK_n 3 rfl rfl ⟨tb, y, vf, vt, g, t, rfl, htb, ag, at_, fun v' h' r' H4 s4 a4 hor => ?_⟩
        refine fin (o := t) (p := T) (r' := r') s4 a4 ?_ ?_ (List.Perm.refl _) pg
        · rcases hor with rfl | rfl
          · exact List.Perm.refl _
          · exact List.Perm.cons _ List.perm_append_comm
        · rcases hor with rfl | rfl
          · exact ⟨dg, hdN.2.1, dall⟩
          · exact ⟨hdN.2.1, dg, fun z hz => dall z (List.perm_append_comm.mem_iff.mp hz)⟩
      · rw [if_neg (by decide)]
        have dall : ∀ z ∈ g.items ++ l.items, y ≤ z := fun z hz => by
          rcases List.mem_append.mp hz with hz | hz
          · exact hdN.2.2 z (List.mem_append.mpr (.inr (pg.mem_iff.mp (List.mem_cons_of_mem _ hz))))
          · exact hdN.2.2 z (List.mem_append.mpr (.inl hz))
        refine atK_n 2 rfl rfl ⟨tb, y, vl, vf, l, g, rfl, htb, al, ag, fun v' h' r' H4 s4 a4 hor => ?_⟩
        refine fin (o := l) (p := T) (r' := r') s4 a4 ?_ ?_ (List.Perm.cons _ List.perm_append_comm) pg
        · rcases hor with rfl | rfl
          · exact List.Perm.cons _ List.perm_append_comm
          · exact List.Perm.refl _
        · rcases hor with rfl | rfl
          · exact ⟨hdN.1, dg, fun z hz => dall z (List.perm_append_comm.mem_iff.mp hz)⟩
          · exact ⟨dg, hdN.1, dall⟩
theorem dueN_le {n : Nat} {p w : Int} (h : PW p w) : 0 ≤ dueN n p w ∧ dueN n p w ≤ n ∧ (0 < n → 1 ≤ dueN n p w) := by
  obtain ⟨w0, w1, p0, pw⟩ := h
  unfold dueN
  by_cases e : n = 0
  · rw [if_pos e]
    exact ⟨Int.le_refl _, by omega, by omega⟩
  · rw [if_neg e]
    have h0 : 0 ≤ ((n : Int) - 1) * p := Int.mul_nonneg (by omega) p0
    have h1 : 0 ≤ ((n : Int) - 1) * p / w := Int.ediv_nonneg h0 (by omega)
    have h2 : ((n : Int) - 1) * p ≤ ((n : Int) - 1) * w := Int.mul_le_mul_of_nonneg_left pw (by omega)
    have h3 : ((n : Int) - 1) * p / w ≤ (n : Int) - 1 := by
      have := Int.ediv_le_ediv (c := w) (by omega) h2
      rwa [Int.mul_ediv_cancel _ (by omega)] at this
    exact ⟨by omega, by omega, fun _ => by omega⟩
theorem r_is_number {K : PySem.W.Frag} {A : Ads} {E : XK} {vs : List V} {H : Hp} {Q : VK} (h : sp_is_number vs H Q E) : t_is_number K A E { nx := fun _ H' => Q .non H', rt := Q } (L2.start ["value", "least", "most"] vs) H := by
  obtain ⟨v, lo, hi, rfl, hv, k⟩ := h
  unfold t_is_number
  rcases hv with rfl | ⟨b, rfl⟩ | ⟨i, rfl⟩ | ⟨x, rfl⟩
  · walk_at "ev"
    exact k false ⟨fun h => (nomatch h), fun ⟨_, e, _⟩ => (nomatch e)⟩
  · walk_at "ev"
    exact k false ⟨fun h => (nomatch h), fun ⟨_, e, _⟩ => (nomatch e)⟩
  · walk_at "ev"
    refine ite2 (fun h1 => k _ ?_) (fun h1 => k _ ?_)
    · rw [decide_eq_true_iff]
      exact ⟨fun h => ⟨i, rfl, h1, h⟩, fun ⟨j, e, _, h⟩ => by cases e; exact h⟩
    · exact ⟨fun h => (nomatch h), fun ⟨j, e, h, _⟩ => by cases e; exact absurd h h1⟩
  · walk_at "ev"
    exact k false ⟨fun h => (nomatch h), fun ⟨_, e, _⟩ => (nomatch e)⟩
theorem r_rank_place {K : PySem.W.Frag} {A : Ads} {E : XK} {vs : List V} {H : Hp} {Q : VK} (h : sp_rank_place vs H Q E) : t_rank_place K A E { nx := fun _ H' => Q .non H', rt := Q } (L2.start ["many", "part", "whole"] vs) H := by
  obtain ⟨m, p, w, rfl, ⟨w0, w1, p0, pw⟩, k⟩ := h
  unfold t_rank_place
  wp_walk using upd_same
  exact ⟨.inr ⟨by omega, by omega⟩, ⟨by omega, by omega⟩, k⟩
theorem r_Ranked__init_ {K : PySem.W.Frag} {A : Ads} {E : XK} {vs : List V} {H : Hp} {Q : VK} (h : sp_Ranked__init_ A vs H Q E) : t_Ranked__init_ K A E { nx := fun _ H' => Q .non H', rt := Q } (L2.start ["self", "part", "whole"] vs) H := by
  obtain ⟨r, dx, v1, v2, rfl, hr, sv1, sv2, ke, kq⟩ := h
  unfold t_Ranked__init_
  refine seq1 ?_
  wide_line using [upd_same]
  refine ⟨v2, 1, 1000, rfl, sv2, fun b1 hb1 => ?_⟩
  cases b1 with
  | false =>
    dsimp only
    rw [if_pos rfl]
    refine ke fun ⟨p, w, e1, e2, w0, w1, _⟩ => Bool.noConfusion (hb1.mpr ⟨w, e2, w0, w1⟩)
  | true =>
    dsimp only
    rw [if_neg (by decide)]
    obtain ⟨w, rfl, w0, w1⟩ := hb1.mp rfl
    refine ⟨v1, 0, w, rfl, sv1, fun b2 hb2 => ?_⟩
    cases b2 with
    | false =>
      dsimp only
      rw [if_pos rfl]
      refine ke fun ⟨p, w', e1, e2, _, _, p0, pw⟩ => ?_
      cases e2
      exact Bool.noConfusion (hb2.mpr ⟨p, e1, p0, pw⟩)
    | true =>
      dsimp only
      rw [if_neg (by decide)]
      obtain ⟨p, rfl, p0, pw⟩ := hb2.mp rfl
      have kq := kq p w rfl rfl ⟨w0, w1, p0, pw⟩
      refine seq1 ?_
      wide_line using [hr]
      refine ⟨by decide, seq1 ?_⟩
      wide_line using [upd_same]
      refine ⟨by decide, seq1 ?_⟩
      wide_line using [upd_same]
      have k2 : Keep [r] H (upd H r (.ins A.Ranked dx [("part", .int p), ("whole", .int w)])) := keep_up (by simp)
      have hr2 : upd H r (.ins A.Ranked dx [("part", .int p), ("whole", .int w)]) r = some (.ins A.Ranked dx [("part", .int p), ("whole", .int w)]) := upd_same
      generalize upd H r (.ins A.Ranked dx [("part", .int p), ("whole", .int w)]) = H2 at *
      refine ⟨Nat.zero_le _, fun p1 hp1 => ⟨p1, rfl, upd_same, fun lv H3 s3 a3 => ?_⟩⟩
      have s23 := (same_new (o := .tup []) hp1).trans s3
      have hr3 := s23 _ _ hr2
      wide_line using [hr3]
      refine ⟨by decide, ?_⟩
      have k4 : Keep [r] H (upd H3 r (.ins A.Ranked dx [("part", .int p), ("whole", .int w), ("low", lv)])) := (k2.trans (.same s23)).up (by simp)
      have kt4 : KT H3 (upd H3 r (.ins A.Ranked dx [("part", .int p), ("whole", .int w), ("low", lv)])) := KT.mut (by rw [hr3]; rfl)
      have hr4 : upd H3 r (.ins A.Ranked dx [("part", .int p), ("whole", .int w), ("low", lv)]) r = some (.ins A.Ranked dx [("part", .int p), ("whole", .int w), ("low", lv)]) := upd_same
      have a4 := a3.kt kt4
      generalize upd H3 r (.ins A.Ranked dx [("part", .int p), ("whole", .int w), ("low", lv)]) = H4 at *
      refine seq1 ?_
      wide_line using [upd_same]
      refine ⟨Nat.zero_le _, fun p2 hp2 => ⟨p2, rfl, upd_same, fun hv H5 s5 a5 => ?_⟩⟩
      have s45 := (same_new (o := .tup []) hp2).trans s5
      have hr5 := s45 _ _ hr4
      have a4' := a4.kt (.same s45)
      wide_line using [hr5]
      refine ⟨by decide, ?_⟩
      refine seq1 ?_
      wide_line using [upd_same]
      refine ⟨by decide, ?_⟩
      try (wide_line using [upd_same])
      refine ⟨by decide, ?_⟩
      have kt : KT H5 (upd H5 r (.ins A.Ranked dx (fl_Ranked (.int p) (.int w) lv hv (.int 0) (.int 0)))) := KT.mut (by rw [hr5]; rfl)
      refine kq _ ((k4.trans (.same s45)).up (by simp)) ⟨.nil, .nil, ⟨dx, lv, hv, upd_same, a4'.kt kt, a5.kt kt, trivial, trivial⟩, ⟨List.Perm.refl _, by simp [Lh.items]⟩, rfl⟩
theorem parted_up {L L' G2 l t : Lh} {r x : Int} {ms : List Int} (h : Parted L (.node r x l t) ms) (hd : (Lh.node r x l t).Hd) (e1 : L'.items.Perm ((0 - x) :: L.items)) (e2 : G2.items.Perm (l.items ++ t.items)) : Parted L' G2 ms := by
  obtain ⟨pm, od⟩ := h
  refine ⟨?_, fun a ha b hb => ?_⟩
  · refine List.Perm.trans ?_ pm
    refine (List.Perm.append (e1.map _) e2).trans ?_
    have e : (0 : Int) - (0 - x) = x := by omega
    simp only [List.map_cons, e, Lh.items]
    exact (List.perm_middle (l₁ := L.items.map fun a => 0 - a)).symm
  · have hb' := e2.mem_iff.mp hb
    rcases List.mem_cons.mp (e1.mem_iff.mp ha) with rfl | ha
    · have := hd.2.2 b hb'
      omega
    · exact od a ha b (List.mem_cons_of_mem _ hb')
theorem parted_down {G G' L2 l t : Lh} {r x : Int} {ms : List Int} (h : Parted (.node r x l t) G ms) (hd : (Lh.node r x l t).Hd) (e1 : L2.items.Perm (l.items ++ t.items)) (e2 : G'.items.Perm ((0 - x) :: G.items)) : Parted L2 G' ms := by
  obtain ⟨pm, od⟩ := h
  refine ⟨?_, fun a ha b hb => ?_⟩
  · refine List.Perm.trans ?_ pm
    refine (List.Perm.append (e1.map _) e2).trans ?_
    simp only [Lh.items, List.map_cons, List.cons_append]
    exact List.perm_middle
  · have ha' := e1.mem_iff.mp ha
    have hx := hd.2.2 a ha'
    rcases List.mem_cons.mp (e2.mem_iff.mp hb) with rfl | hb
    · omega
    · exact od a (List.mem_cons_of_mem _ ha') b hb
theorem r_Ranked_even {K : PySem.W.Frag} {A : Ads} {E : XK} {vs : List V} {H : Hp} {Q : VK} (h : sp_Ranked_even A vs H Q E) : t_Ranked_even K A E { nx := fun _ H' => Q .non H', rt := Q } (L2.start ["self", "due", "number"] vs) H := by
  obtain ⟨r, p, w, L, G, ms, rfl, hpw, ⟨dx, lv, hv, hr, aL, aG, dL, dG⟩, ⟨pm, od⟩, len, kq⟩ := h
  unfold t_Ranked_even
  have hdue : ∀ {D : Ends}, D.nx [some (.ref r), some (.int (dueN ms.length p w)), none] H → tAsg (tIf (dTest (tOp dGt (dFld A.Ranked (dVar 0) "many") (tC (.int 0)))) (tOp dAdd2 (tCallS sp_rank_place (fun _ => E0) (tCons (dFld A.Ranked (dVar 0) "many") (tCons (dFld A.Ranked (dVar 0) "part") (tCons (dFld A.Ranked (dVar 0) "whole") tNil)))) (tC (.int 1))) (tC (.int 0))) (gName 1) D [some (.ref r), none, none] H := fun {D} hD => by
    wide_line using [hr]
    by_cases e : ms.length = 0
    · rw [if_neg (by omega)]
      have : dueN ms.length p w = 0 := by unfold dueN; rw [if_pos e]
      rw [this] at hD
      exact hD
    · rw [if_pos (by omega)]
      refine ⟨ms.length, p, w, rfl, hpw, ?_⟩
      dsimp only
      have : dueN ms.length p w = ((ms.length : Int) - 1) * p / w + 1 := by unfold dueN; rw [if_neg e]
      rw [this] at hD
      exact hD
  obtain ⟨due0, dueM, due1⟩ := dueN_le (n := ms.length) hpw
  refine seq1 (hdue ?_)
  dsimp only
  generalize hdd : dueN ms.length p w = due at *
  refine seq1 ?_
  have ml : L.items.length + G.items.length = ms.length := by have := pm.length_eq; simpa using this
  refine while_to (fun m σ H' => ∃ (z2 : Option V) (L G : Lh), σ = [some (.ref r), some (.int due), z2] ∧ Keep [r] H H' ∧ RkU A H' r p w L G L.items.length ms.length ∧ Parted L G ms ∧ m = (due - L.items.length).toNat)
    (fun σ H' => ∃ (z2 : Option V) (L G : Lh), σ = [some (.ref r), some (.int due), z2] ∧ Keep [r] H H' ∧ RkU A H' r p w L G L.items.length ms.length ∧ Parted L G ms ∧ due ≤ L.items.length)
    _ ⟨none, L, G, rfl, .refl, ⟨dx, lv, hv, hr, aL, aG, dL, dG⟩, ⟨pm, od⟩, rfl⟩ ?_ ?_
  · rintro σ H1 ⟨z2, L, G, rfl, k1, u1, P1, hle⟩
    dsimp only
    refine while_to (fun m σ H' => ∃ (z2 : Option V) (L G : Lh), σ = [some (.ref r), some (.int due), z2] ∧ Keep [r] H H' ∧ RkU A H' r p w L G L.items.length ms.length ∧ Parted L G ms ∧ due ≤ L.items.length ∧ m = (L.items.length - due).toNat)
      (fun σ H' => ∃ (z2 : Option V) (L G : Lh), σ = [some (.ref r), some (.int due), z2] ∧ Keep [r] H H' ∧ RkU A H' r p w L G L.items.length ms.length ∧ Parted L G ms ∧ due = L.items.length)
      _ ⟨z2, L, G, rfl, k1, u1, P1, hle, rfl⟩ ?_ ?_
    · rintro σ H2 ⟨z2, L, G, rfl, k2, u2, P2, he⟩
      exact kq _ k2 ⟨L, G, u2, P2, by rw [hdd, he]⟩
    · rintro nx hnx m σ H2 ⟨z2, L, G, rfl, k2, ⟨dx, lv, hv, hr, aL, aG, dL, dG⟩, ⟨pm, od⟩, hle, rfl⟩
      have ml : L.items.length + G.items.length = ms.length := by have := pm.length_eq; simpa using this
      wide_line using [hr]
      by_cases hc : due < (L.items.length : Int)
      · rw [if_pos hc]
        refine ⟨_, fun _ _ h => h, ?_⟩
        cases L with
        | nil => simp [Lh.items] at hc; omega
        | node r' x l t =>
          refine seq1 ?_
          wide_line using [hr]
          refine ⟨lv, r', x, l, t, rfl, aL, fun b hb => ?_⟩
          simp only [hb, seqAt_tup, atK_zero]
          refine seq1 ?_
          wide_line using [hr]
          have mlc := ml
          simp only [Lh.items, List.length_cons, List.length_append] at mlc
          refine ⟨lv, r', x, l, t, rfl, aL, dL, by omega, fun lv2 L2 H3 s3 aL2 dL2 pL2 => ?_⟩
          have hr3 := s3 _ _ hr
          have aG3 := aG.kt (.same s3)
          wide_line using [hr3]
          refine ⟨by decide, ?_⟩
          have kt4 : KT H3 (upd H3 r (.ins A.Ranked dx (fl_Ranked (.int p) (.int w) lv2 hv (.int (Lh.node r' x l t).items.length) (.int ms.length)))) := KT.mut (by rw [hr3]; rfl)
          have k4 : Keep [r] H (upd H3 r (.ins A.Ranked dx (fl_Ranked (.int p) (.int w) lv2 hv (.int (Lh.node r' x l t).items.length) (.int ms.length)))) := (k2.trans (.same s3)).up (by simp)
          have hr4 : upd H3 r (.ins A.Ranked dx (fl_Ranked (.int p) (.int w) lv2 hv (.int (Lh.node r' x l t).items.length) (.int ms.length))) r = some (.ins A.Ranked dx (fl_Ranked (.int p) (.int w) lv2 hv (.int (Lh.node r' x l t).items.length) (.int ms.length))) := upd_same
          have aG4 := aG3.kt kt4
          have aL4 := aL2.kt kt4
          generalize upd H3 r (.ins A.Ranked dx (fl_Ranked (.int p) (.int w) lv2 hv (.int (Lh.node r' x l t).items.length) (.int ms.length))) = H4 at *
          refine seq1 ?_
          wide_line using [hr4]
          refine ⟨by rw [sizeLine_eq]; decide, fun b2 hb2 => ?_⟩
          have sB := same_new (o := .tup [.int (0 - x)]) hb2
          refine ⟨hv, b2, 0 - x, G, rfl, upd_same, aG4.kt (.same sB), dG, by omega, fun hv3 G3 H5 s5 aG5 dG5 pG5 => ?_⟩
          have s45 := sB.trans s5
          have hr5 := s45 _ _ hr4
          have aL5 := aL4.kt (.same s45)
          wide_line using [hr5]
          refine ⟨by decide, ?_⟩
          try (wide_line using [upd_same])
          have l2 := pL2.length_eq
          rw [List.length_append] at l2
          have hcn : ((Lh.node r' x l t).items.length : Int) - 1 = (L2.items.length : Int) := by simp only [Lh.items, List.length_cons, List.length_append]; omega
          have kt : KT H5 (upd H5 r (.ins A.Ranked dx (fl_Ranked (.int p) (.int w) lv2 hv3 (.int ((Lh.node r' x l t).items.length - 1)) (.int ms.length)))) := KT.mut (by rw [hr5]; rfl)
          refine ⟨by decide, _, ?_, _, L2, G3, rfl, (k4.trans (.same s45)).up (by simp), ⟨dx, lv2, hv3, by rw [upd_same, hcn], aL5.kt kt, aG5.kt kt, dL2, dG5⟩, parted_down ⟨pm, od⟩ dL pL2 pG5, by omega, rfl⟩
          omega
      · rw [if_neg hc]
        exact hnx _ _ ⟨z2, L, G, rfl, k2, ⟨dx, lv, hv, hr, aL, aG, dL, dG⟩, ⟨pm, od⟩, by omega⟩
  · rintro nx hnx m σ H2 ⟨z2, L, G, rfl, k2, ⟨dx, lv, hv, hr, aL, aG, dL, dG⟩, ⟨pm, od⟩, rfl⟩
    have ml : L.items.length + G.items.length = ms.length := by have := pm.length_eq; simpa using this
    wide_line using [hr]
    by_cases hc : (L.items.length : Int) < due
    · rw [if_pos hc]
      refine ⟨_, fun _ _ h => h, ?_⟩
      cases G with
      | nil => simp [Lh.items] at ml; omega
      | node r' x l t =>
        refine seq1 ?_
        wide_line using [hr]
        refine ⟨hv, r', x, l, t, rfl, aG, fun b hb => ?_⟩
        simp only [hb, seqAt_tup, atK_zero]
        refine seq1 ?_
        wide_line using [hr]
        simp only [Lh.items, List.length_cons, List.length_append] at ml
        refine ⟨hv, r', x, l, t, rfl, aG, dG, by omega, fun hv2 G2 H3 s3 aG2 dG2 pG2 => ?_⟩
        have hr3 := s3 _ _ hr
        have aL3 := aL.kt (.same s3)
        wide_line using [hr3]
        refine ⟨by decide, ?_⟩
        have kt4 : KT H3 (upd H3 r (.ins A.Ranked dx (fl_Ranked (.int p) (.int w) lv hv2 (.int L.items.length) (.int ms.length)))) := KT.mut (by rw [hr3]; rfl)
        have k4 : Keep [r] H (upd H3 r (.ins A.Ranked dx (fl_Ranked (.int p) (.int w) lv hv2 (.int L.items.length) (.int ms.length)))) := (k2.trans (.same s3)).up (by simp)
        have hr4 : upd H3 r (.ins A.Ranked dx (fl_Ranked (.int p) (.int w) lv hv2 (.int L.items.length) (.int ms.length))) r = some (.ins A.Ranked dx (fl_Ranked (.int p) (.int w) lv hv2 (.int L.items.length) (.int ms.length))) := upd_same
        have aL4 := aL3.kt kt4
        have aG4 := aG2.kt kt4
        generalize upd H3 r (.ins A.Ranked dx (fl_Ranked (.int p) (.int w) lv hv2 (.int L.items.length) (.int ms.length))) = H4 at *
        refine seq1 ?_
        wide_line using [hr4]
        refine ⟨by rw [sizeLine_eq]; decide, fun b2 hb2 => ?_⟩
        have sB := same_new (o := .tup [.int (0 - x)]) hb2
        refine ⟨lv, b2, 0 - x, L, rfl, upd_same, aL4.kt (.same sB), dL, by omega, fun lv3 L3 H5 s5 aL5 dL5 pL5 => ?_⟩
        have s45 := sB.trans s5
        have hr5 := s45 _ _ hr4
        have aG5 := aG4.kt (.same s45)
        wide_line using [hr5]
        refine ⟨by decide, ?_⟩
        try (wide_line using [upd_same])
        have l3 := pL5.length_eq
        rw [List.length_cons] at l3
        have hcn : (L.items.length : Int) + 1 = (L3.items.length : Int) := by omega
        have kt : KT H5 (upd H5 r (.ins A.Ranked dx (fl_Ranked (.int p) (.int w) lv3 hv2 (.int (L.items.length + 1)) (.int ms.length)))) := KT.mut (by rw [hr5]; rfl)
        refine ⟨by decide, _, ?_, _, L3, G2, rfl, (k4.trans (.same s45)).up (by simp), ⟨dx, lv3, hv2, by rw [upd_same, hcn], aL5.kt kt, aG5.kt kt, dL5, dG2⟩, parted_up ⟨pm, od⟩ dG pL5 pG2, rfl⟩
        omega
    · rw [if_neg hc]
      exact hnx _ _ ⟨z2, L, G, rfl, k2, ⟨dx, lv, hv, hr, aL, aG, dL, dG⟩, ⟨pm, od⟩, by omega⟩
theorem neg_items {L : Lh} : ∀ {a : Int}, a ∈ L.items.map (fun a => 0 - a) ↔ 0 - a ∈ L.items := by
  intro a
  rw [List.mem_map]
  constructor
  · rintro ⟨b, hb, rfl⟩
    have : 0 - (0 - b) = b := by omega
    rw [this]; exact hb
  · intro h
    exact ⟨0 - a, h, by omega⟩
/-- the least of a heap stands at its top -/
theorem Lh.top_le {r x : Int} {l t : Lh} (h : (Lh.node r x l t).Hd) : ∀ y ∈ (Lh.node r x l t).items, x ≤ y := fun y hy => by
  rcases List.mem_cons.mp hy with rfl | hy
  · exact Int.le_refl _
  · exact h.2.2 y hy
theorem r_Ranked_put {K : PySem.W.Frag} {A : Ads} {E : XK} {vs : List V} {H : Hp} {Q : VK} (h : sp_Ranked_put A vs H Q E) : t_Ranked_put K A E { nx := fun _ H' => Q .non H', rt := Q } (L2.start ["self", "number"] vs) H := by
  obtain ⟨r, p, w, x, ms, rfl, hpw, ⟨L, G, ⟨dx, lv, hv, hr, aL, aG, dL, dG⟩, ⟨pm, od⟩, hdue⟩, len, kq⟩ := h
  have ml : L.items.length + G.items.length = ms.length := by have := pm.length_eq; simpa using this
  obtain ⟨due0, dueM, due1⟩ := dueN_le (n := ms.length) hpw
  unfold t_Ranked_put
  have low : ∀ {D : Ends}, (∀ y ∈ G.items, x ≤ y) → (∀ (lv' : V) (L' : Lh) (H' : Hp), Keep [r] H H' → H' r = some (.ins A.Ranked dx (fl_Ranked (.int p) (.int w) lv' hv (.int L'.items.length) (.int ms.length))) → LhAt H' L' lv' → LhAt H' G hv → L'.Hd → L'.items.Perm ((0 - x) :: L.items) → D.nx [some (.ref r), some (.int x)] H') →
      tSeq (dSFld A.Ranked (dVar 0) (tCallS sp_put_in (fun _ => E0) (tCons (dFld A.Ranked (dVar 0) "low") (tCons (tTup (tCons (tOp dSub (tC (.int 0)) (dVar 1)) tNil)) tNil))) "low") (dSAug A.Ranked (dVar 0) (tC (.int 1)) (fun i j => i + j) "lows") D [some (.ref r), some (.int x)] H := by
    intro D hx hD
    refine seq1 ?_
    wide_line using [hr]
    refine ⟨by rw [sizeLine_eq]; decide, fun b2 hb2 => ?_⟩
    have sB := same_new (o := .tup [.int (0 - x)]) hb2
    refine ⟨lv, b2, 0 - x, L, rfl, upd_same, aL.kt (.same sB), dL, by omega, fun lv3 L3 H5 s5 aL5 dL5 pL5 => ?_⟩
    have s45 := sB.trans s5
    have hr5 := s45 _ _ hr
    have aG5 := aG.kt (.same s45)
    wide_line using [hr5]
    refine ⟨by decide, ?_⟩
    try (wide_line using [upd_same])
    have l3 := pL5.length_eq
    rw [List.length_cons] at l3
    have hcn : (L.items.length : Int) + 1 = (L3.items.length : Int) := by omega
    have kt : KT H5 (upd H5 r (.ins A.Ranked dx (fl_Ranked (.int p) (.int w) lv3 hv (.int (L.items.length + 1)) (.int ms.length)))) := KT.mut (by rw [hr5]; rfl)
    exact ⟨by decide, hD lv3 L3 _ ((Keep.same s45).up (by simp)) (by rw [upd_same, hcn]) (aL5.kt kt) (aG5.kt kt) dL5 pL5⟩
  have high : ∀ {D : Ends}, (∀ (hv' : V) (G' : Lh) (H' : Hp), Keep [r] H H' → H' r = some (.ins A.Ranked dx (fl_Ranked (.int p) (.int w) lv hv' (.int L.items.length) (.int ms.length))) → LhAt H' L lv → LhAt H' G' hv' → G'.Hd → G'.items.Perm (x :: G.items) → D.nx [some (.ref r), some (.int x)] H') →
      dSFld A.Ranked (dVar 0) (tCallS sp_put_in (fun _ => E0) (tCons (dFld A.Ranked (dVar 0) "high") (tCons (tTup (tCons (dVar 1) tNil)) tNil))) "high" D [some (.ref r), some (.int x)] H := by
    intro D hD
    wide_line using [hr]
    refine ⟨by rw [sizeLine_eq]; decide, fun b2 hb2 => ?_⟩
    have sB := same_new (o := .tup [.int x]) hb2
    refine ⟨hv, b2, x, G, rfl, upd_same, aG.kt (.same sB), dG, by omega, fun hv3 G3 H5 s5 aG5 dG5 pG5 => ?_⟩
    have s45 := sB.trans s5
    have hr5 := s45 _ _ hr
    have aL5 := aL.kt (.same s45)
    wide_line using [hr5]
    have kt : KT H5 (upd H5 r (.ins A.Ranked dx (fl_Ranked (.int p) (.int w) lv hv3 (.int L.items.length) (.int ms.length)))) := KT.mut (by rw [hr5]; rfl)
    exact ⟨by decide, hD hv3 G3 _ ((Keep.same s45).up (by simp)) upd_same (aL5.kt kt) (aG5.kt kt) dG5 pG5⟩
  have fin : ∀ {lv' hv' : V} {L' G' : Lh} {H' : Hp}, Keep [r] H H' → H' r = some (.ins A.Ranked dx (fl_Ranked (.int p) (.int w) lv' hv' (.int L'.items.length) (.int ms.length))) → LhAt H' L' lv' → LhAt H' G' hv' → L'.Hd → G'.Hd → Parted L' G' (x :: ms) →
      tSeq (dSAug A.Ranked (dVar 0) (tC (.int 1)) (fun i j => i + j) "many") (tDrop (dMethE A.Ranked "even" (sp_Ranked_even A) (WE fun cls d _ H => E cls d H) (dVar 0) tNil)) { nx := fun _ H' => Q .non H', rt := Q } [some (.ref r), some (.int x)] H' := by
    intro lv' hv' L' G' H' k' hr' aL' aG' dL' dG' P'
    refine seq1 ?_
    wide_line using [hr']
    refine ⟨by decide, ?_⟩
    have kt : KT H' (upd H' r (.ins A.Ranked dx (fl_Ranked (.int p) (.int w) lv' hv' (.int L'.items.length) (.int (ms.length + 1))))) := KT.mut (by rw [hr']; rfl)
    refine ⟨r, p, w, L', G', x :: ms, rfl, hpw, ⟨dx, lv', hv', by rw [upd_same]; rfl, aL'.kt kt, aG'.kt kt, dL', dG'⟩, P', by simp; omega, fun H2 k2 rk => kq _ ((k'.up (by simp)).trans k2) rk⟩
  refine seq1 ?_
  have hiP : ∀ {G' : Lh}, (∀ a ∈ L.items, 0 - a ≤ x) → G'.items.Perm (x :: G.items) → Parted L G' (x :: ms) := fun {G'} hx e => by
    refine ⟨((List.Perm.append_left _ e).trans List.perm_middle).trans (List.Perm.cons x pm), fun a ha b hb => ?_⟩
    rcases List.mem_cons.mp (e.mem_iff.mp hb) with rfl | hb
    · exact hx a ha
    · exact od a ha b hb
  generalize dSFld A.Ranked (dVar 0) (tCallS sp_put_in (fun _ => E0) (tCons (dFld A.Ranked (dVar 0) "high") (tCons (tTup (tCons (dVar 1) tNil)) tNil))) "high" = B at *
  cases L with
  | nil =>
    simp only [Lh.items, List.length_nil] at hr
    wide_line using [hr]
    refine high fun hv' G' H' k' hr' aL' aG' dG' e => ?_
    exact fin k' hr' aL' aG' dL dG' (hiP (by simp [Lh.items]) e)
  | node r0 y l t =>
    have hL : (Lh.node r0 y l t).items.length = l.items.length + t.items.length + 1 := by simp [Lh.items]
    wide_line using [hr]
    rw [if_pos (by omega)]
    refine ⟨lv, r0, y, l, t, rfl, aL, fun b hb => ?_⟩
    simp only [hb, seqAt_tup, atK_zero]
    by_cases hc : x < 0 - y
    · rw [if_pos hc]
      have hxG : ∀ b ∈ G.items, x ≤ b := fun b hb => by have := od y (List.mem_cons_self ..) b hb; omega
      refine low hxG fun lv' L' H' k' hr' aL' aG' dL' e => ?_
      refine fin k' hr' aL' aG' dL' dG ⟨?_, fun a ha b hb => ?_⟩
      · refine (List.Perm.append_right _ (e.map _)).trans ?_
        have e0 : (0 : Int) - (0 - x) = x := by omega
        simp only [List.map_cons, e0, List.cons_append]
        exact List.Perm.cons x pm
      · rcases List.mem_cons.mp (e.mem_iff.mp ha) with rfl | ha
        · have := hxG b hb
          omega
        · exact od a ha b hb
    · rw [if_neg hc]
      refine high fun hv' G' H' k' hr' aL' aG' dG' e => ?_
      refine fin k' hr' aL' aG' dL dG' (hiP (fun a ha => ?_) e)
      have := Lh.top_le dL a ha
      omega
theorem RkAt.same {A : Ads} {H H' : Hp} {r : Addr} {p w : Int} {ms : List Int} (h : RkAt A H r p w ms) (s : Same H H') : RkAt A H' r p w ms := by
  obtain ⟨L, G, ⟨dx, lv, hv, hr, aL, aG, dL, dG⟩, P, d⟩ := h
  exact ⟨L, G, ⟨dx, lv, hv, s _ _ hr, aL.kt (.same s), aG.kt (.same s), dL, dG⟩, P, d⟩
theorem perm_erase {x : Int} {l ms : List Int} (h : (x :: l).Perm ms) : l.Perm (ms.erase x) := by
  have := h.erase x
  simpa using this
theorem r_Ranked_drop {K : PySem.W.Frag} {A : Ads} {E : XK} {vs : List V} {H : Hp} {Q : VK} (h : sp_Ranked_drop A vs H Q E) : t_Ranked_drop K A E { nx := fun _ H' => Q .non H', rt := Q } (L2.start ["self", "number"] vs) H := by
  obtain ⟨r, p, w, x, ms, rfl, hpw, rk, len, ke, kq⟩ := h
  have ke := fun hx H' (s : Same H H') => ke hx H' (.same s) (rk.same s)
  obtain ⟨L, G, ⟨dx, lv, hv, hr, aL, aG, dL, dG⟩, ⟨pm, od⟩, hdue⟩ := rk
  have ml : L.items.length + G.items.length = ms.length := by have := pm.length_eq; simpa using this
  have memS : ∀ z, z ∈ ms ↔ (0 - z ∈ L.items ∨ z ∈ G.items) := fun z => by
    rw [← pm.mem_iff, List.mem_append, neg_items]
  unfold t_Ranked_drop
  have fin : ∀ {lv' hv' : V} {L' G' : Lh} {H' : Hp}, x ∈ ms → Keep [r] H H' → H' r = some (.ins A.Ranked dx (fl_Ranked (.int p) (.int w) lv' hv' (.int L'.items.length) (.int ms.length))) → LhAt H' L' lv' → LhAt H' G' hv' → L'.Hd → G'.Hd → Parted L' G' (ms.erase x) →
      tSeq (dSAug A.Ranked (dVar 0) (tC (.int 1)) (fun i j => i - j) "many") (tDrop (dMethE A.Ranked "even" (sp_Ranked_even A) (WE fun cls d _ H => E cls d H) (dVar 0) tNil)) { nx := fun _ H' => Q .non H', rt := Q } [some (.ref r), some (.int x)] H' := by
    intro lv' hv' L' G' H' hx k' hr' aL' aG' dL' dG' P'
    refine seq1 ?_
    wide_line using [hr']
    refine ⟨by decide, ?_⟩
    have kt : KT H' (upd H' r (.ins A.Ranked dx (fl_Ranked (.int p) (.int w) lv' hv' (.int L'.items.length) (.int (ms.length - 1))))) := KT.mut (by rw [hr']; rfl)
    have l1 := List.length_erase_of_mem hx
    have l2 : 0 < ms.length := List.length_pos_of_mem hx
    have hcn : (ms.length : Int) - 1 = ((ms.erase x).length : Int) := by omega
    refine ⟨r, p, w, L', G', ms.erase x, rfl, hpw, ⟨dx, lv', hv', by rw [upd_same, hcn], aL'.kt kt, aG'.kt kt, dL', dG'⟩, P', by omega, fun H2 k2 rk => kq hx _ ((k'.up (by simp)).trans k2) rk⟩
  have low : (0 - x ∉ L.items → x ∉ ms) → tSeq (dSFld A.Ranked (dVar 0) (tCallS (sp_taken_out A) (WE fun cls d _ H => E cls d H) (tCons (dFld A.Ranked (dVar 0) "low") (tCons (tTup (tCons (tOp dSub (tC (.int 0)) (dVar 1)) tNil)) tNil))) "low") (dSAug A.Ranked (dVar 0) (tC (.int 1)) (fun i j => i - j) "lows")
      { nx := tSeq (dSAug A.Ranked (dVar 0) (tC (.int 1)) (fun i j => i - j) "many") (tDrop (dMethE A.Ranked "even" (sp_Ranked_even A) (WE fun cls d _ H => E cls d H) (dVar 0) tNil)) { nx := fun _ H' => Q .non H', rt := Q }, rt := Q } [some (.ref r), some (.int x)] H := by
    intro hno
    refine seq1 ?_
    wide_line using [hr]
    refine ⟨by rw [sizeLine_eq]; decide, fun b2 hb2 => ?_⟩
    have sB := same_new (o := .tup [.int (0 - x)]) hb2
    refine ⟨lv, b2, 0 - x, L, rfl, upd_same, aL.kt (.same sB), dL, by omega, fun hn H' s' => ke (hno hn) _ (sB.trans s'), fun hx lv3 L3 H5 s5 aL5 dL5 pL5 => ?_⟩
    have s45 := sB.trans s5
    have hr5 := s45 _ _ hr
    have aG5 := aG.kt (.same s45)
    wide_line using [hr5]
    refine ⟨by decide, ?_⟩
    have l3 := pL5.length_eq
    rw [List.length_cons] at l3
    have hcn : (L.items.length : Int) - 1 = (L3.items.length : Int) := by omega
    have kt : KT H5 (upd H5 r (.ins A.Ranked dx (fl_Ranked (.int p) (.int w) lv3 hv (.int (L.items.length - 1)) (.int ms.length)))) := KT.mut (by rw [hr5]; rfl)
    have e0 : (0 : Int) - (0 - x) = x := by omega
    have P3 : Parted L3 G (ms.erase x) := ⟨perm_erase (by
      refine List.Perm.trans ?_ pm
      have := (List.Perm.append_right G.items (pL5.map fun a => 0 - a))
      simpa only [List.map_cons, e0, List.cons_append] using this), fun a ha b hb => od a (pL5.mem_iff.mp (List.mem_cons_of_mem _ ha)) b hb⟩
    exact ⟨by decide, fin ((memS x).mpr (.inl hx)) ((Keep.same s45).up (by simp)) (by rw [upd_same, hcn]) (aL5.kt kt) (aG5.kt kt) dL5 dG P3⟩
  have high : (x ∉ G.items → x ∉ ms) → dSFld A.Ranked (dVar 0) (tCallS (sp_taken_out A) (WE fun cls d _ H => E cls d H) (tCons (dFld A.Ranked (dVar 0) "high") (tCons (tTup (tCons (dVar 1) tNil)) tNil))) "high"
      { nx := tSeq (dSAug A.Ranked (dVar 0) (tC (.int 1)) (fun i j => i - j) "many") (tDrop (dMethE A.Ranked "even" (sp_Ranked_even A) (WE fun cls d _ H => E cls d H) (dVar 0) tNil)) { nx := fun _ H' => Q .non H', rt := Q }, rt := Q } [some (.ref r), some (.int x)] H := by
    intro hno
    wide_line using [hr]
    refine ⟨by rw [sizeLine_eq]; decide, fun b2 hb2 => ?_⟩
    have sB := same_new (o := .tup [.int x]) hb2
    refine ⟨hv, b2, x, G, rfl, upd_same, aG.kt (.same sB), dG, by omega, fun hn H' s' => ke (hno hn) _ (sB.trans s'), fun hx hv3 G3 H5 s5 aG5 dG5 pG5 => ?_⟩
    have s45 := sB.trans s5
    have hr5 := s45 _ _ hr
    have aL5 := aL.kt (.same s45)
    wide_line using [hr5]
    have kt : KT H5 (upd H5 r (.ins A.Ranked dx (fl_Ranked (.int p) (.int w) lv hv3 (.int L.items.length) (.int ms.length)))) := KT.mut (by rw [hr5]; rfl)
    have P3 : Parted L G3 (ms.erase x) := ⟨perm_erase (by
      refine List.Perm.trans ?_ pm
      exact (List.perm_middle.symm).trans (List.Perm.append_left _ pG5)), fun a ha b hb => od a ha b (pG5.mem_iff.mp (List.mem_cons_of_mem _ hb))⟩
    exact ⟨by decide, fin ((memS x).mpr (.inr hx)) ((Keep.same s45).up (by simp)) upd_same (aL5.kt kt) (aG5.kt kt) dL dG5 P3⟩
  refine seq1 ?_
  dsimp only at low high ⊢
  generalize dSFld A.Ranked (dVar 0) (tCallS (sp_taken_out A) (WE fun cls d _ H => E cls d H) (tCons (dFld A.Ranked (dVar 0) "high") (tCons (tTup (tCons (dVar 1) tNil)) tNil))) "high" = B at *
  cases L with
  | nil =>
    simp only [Lh.items, List.length_nil] at hr
    wide_line using [hr]
    exact high fun hn hx => by
      rcases (memS x).mp hx with h | h
      · simp [Lh.items] at h
      · exact hn h
  | node r0 y l t =>
    have hL : (Lh.node r0 y l t).items.length = l.items.length + t.items.length + 1 := by simp [Lh.items]
    wide_line using [hr]
    rw [if_pos (by omega)]
    refine ⟨lv, r0, y, l, t, rfl, aL, fun b hb => ?_⟩
    simp only [hb, seqAt_tup, atK_zero]
    by_cases hc : x ≤ 0 - y
    · rw [if_pos hc]
      refine low fun hn hx => ?_
      rcases (memS x).mp hx with h | h
      · exact hn h
      · have := od y (List.mem_cons_self ..) x h
        have e : 0 - x = y := by omega
        exact hn (by rw [e]; exact List.mem_cons_self ..)
    · rw [if_neg hc]
      refine high fun hn hx => ?_
      rcases (memS x).mp hx with h | h
      · have := Lh.top_le dL _ h
        omega
      · exact hn h
theorem isort_perm (l : List Int) : (isort l).Perm l := List.mergeSort_perm ..
theorem isort_sorted (l : List Int) : (isort l).Pairwise (· ≤ ·) := ints_sorted l
theorem isort_eq {l m : List Int} (h : m.Perm l) (s : m.Pairwise (· ≤ ·)) : isort l = m :=
  List.Perm.eq_of_pairwise (fun a b _ _ h1 h2 => Int.le_antisymm h1 h2) (isort_sorted l) s ((isort_perm l).trans h.symm)
theorem rank_low {G l t : Lh} {r y p w : Int} {ms : List Int} (h : Parted (.node r y l t) G ms) (hd : (Lh.node r y l t).Hd) (e : ((Lh.node r y l t).items.length : Int) = ((ms.length : Int) - 1) * p / w + 1) : rankD ms p w = 0 - y := by
  obtain ⟨pm, od⟩ := h
  have eq : isort ms = isort ((l.items ++ t.items).map fun a => 0 - a) ++ ((0 - y) :: isort G.items) := by
    refine isort_eq ?_ ?_
    · refine List.Perm.trans ?_ pm
      refine List.perm_middle.trans ?_
      show ((0 - y) :: _).Perm ((0 - y) :: (((l.items ++ t.items).map fun a => 0 - a) ++ G.items))
      exact List.Perm.cons _ (List.Perm.append (isort_perm _) (isort_perm _))
    · rw [List.pairwise_append]
      refine ⟨isort_sorted _, List.pairwise_cons.mpr ⟨fun b hb => ?_, isort_sorted _⟩, fun a ha b hb => ?_⟩
      · exact od y (List.mem_cons_self ..) b ((isort_perm _).mem_iff.mp hb)
      · obtain ⟨a', ha', rfl⟩ := List.mem_map.mp ((isort_perm _).mem_iff.mp ha)
        rcases List.mem_cons.mp hb with rfl | hb
        · have := hd.2.2 a' ha'
          omega
        · exact od a' (List.mem_cons_of_mem _ ha') b ((isort_perm _).mem_iff.mp hb)
  have hl : (isort ((l.items ++ t.items).map fun a => 0 - a)).length = l.items.length + t.items.length := by
    rw [(isort_perm _).length_eq, List.length_map, List.length_append]
  unfold rankD
  have hk : (((ms.length : Int) - 1) * p / w).toNat = (isort ((l.items ++ t.items).map fun a => 0 - a)).length := by
    simp only [Lh.items, List.length_cons, List.length_append] at e
    omega
  rw [eq, hk, List.getD_eq_getElem?_getD, List.getElem?_append_right (Nat.le_refl _), Nat.sub_self]
  rfl
theorem parts_sorted {L G : Lh} {ms xs ys : List Int} (h : Parted L G ms) (e1 : xs.Perm (L.items.map fun a => 0 - a)) (s1 : xs.Pairwise (· ≤ ·)) (e2 : ys.Perm G.items) (s2 : ys.Pairwise (· ≤ ·)) : xs ++ ys = isort ms := by
  obtain ⟨pm, od⟩ := h
  refine (isort_eq ((List.Perm.append e1 e2).trans pm) ?_).symm
  rw [List.pairwise_append]
  refine ⟨s1, s2, fun a ha b hb => ?_⟩
  obtain ⟨a', ha', rfl⟩ := List.mem_map.mp (e1.mem_iff.mp ha)
  exact od a' ha' b (e2.mem_iff.mp hb)
theorem r_Ranked_told {K : PySem.W.Frag} {A : Ads} {E : XK} {vs : List V} {H : Hp} {Q : VK} (h : sp_Ranked_told A vs H Q E) : t_Ranked_told K A E { nx := fun _ H' => Q .non H', rt := Q } (L2.start ["self"] vs) H := by
  obtain ⟨r, p, w, ms, rfl, hpw, ⟨L, G, ⟨dx, lv, hv, hr, aL, aG, dL, dG⟩, P, hdue⟩, ke, kq⟩ := h
  obtain ⟨due0, dueM, due1⟩ := dueN_le (n := ms.length) hpw
  unfold t_Ranked_told
  refine seq1 ?_
  wide_line using [hr]
  by_cases e : ms = []
  · rw [if_pos (by simp [e])]
    exact ke e
  · have el : 0 < ms.length := List.length_pos_iff.mpr e
    rw [if_neg (by omega)]
    cases L with
    | nil => simp only [Lh.items, List.length_nil] at hdue; have := due1 el; omega
    | node r0 y l t =>
      try (wide_line using [hr])
      refine ⟨lv, r0, y, l, t, rfl, aL, fun b hb => ?_⟩
      simp only [hb, seqAt_tup, atK_zero]
      have := kq e
      rw [rank_low P dL (by rw [hdue]; unfold dueN; rw [if_neg (by omega)])] at this
      exact this
theorem zs_of {H : Hp} {f : Int → Int} : ∀ {qs : List Addr} {ys : List Int} {zs : List V}, Paired (fun x y => ∃ q i, x = V.ref q ∧ H q = some (.tup [.int i]) ∧ y = .int (f i)) (qs.map V.ref) zs → Paired (fun q y => H q = some (.tup [.int y])) qs ys → zs = (ys.map f).map V.int
  | [], _, _, .nil, .nil => rfl
  | q :: qs, _, _, .cons ⟨q', i, e, h, ey⟩ t, .cons h' t' => by
    cases e
    rw [h'] at h
    cases h
    rw [ey, zs_of t t']
    rfl
theorem pick_ints {K : PySem.W.Frag} {f : Int → Int} {q : Addr} {qs : List Addr} {ys : List Int} {g : TG} {tt : TT} {te : TE} {vs : List Nat} {σ : L2.St} {H1 : Hp} {Q : VK} (hq : H1 q = some (.tup (qs.map V.ref))) (pr : Paired (fun q y => H1 q = some (.tup [.int y])) qs ys) (hl : qs.length ≤ 1000000)
    (turn : ∀ q' i H2, H2 q' = some (.tup [.int i]) → ∀ (k1 : VK) (k0 : Hp → Prop), k1 (.int (f i)) H2 → LcTurn g tt te vs σ (.ref q') H2 k1 k0)
    (hd : ∀ D H2, H1 D = none → Same H1 H2 → H2 D = some (.lst ((ys.map f).map V.int)) → Q (.ref D) H2) : LcT K q g tt te vs σ H1 Q := by
  refine lcT_core hq (by rw [List.length_map]; omega) (fun _ => true) (fun x y H => ∃ q i, x = V.ref q ∧ H q = some (.tup [.int i]) ∧ y = .int (f i)) (fun _ _ _ _ k ⟨q, i, e1, h, e2⟩ => ⟨q, i, e1, k _ _ h, e2⟩) (fun x hx H2 s2 k1 k0 hk1 _ => ?_) fun D H2 zs hD s2 hDs zpr => ?_
  · obtain ⟨q', hq', rfl⟩ := List.mem_map.mp hx
    obtain ⟨i, hi, hqi⟩ := paired_memL pr hq'
    exact turn q' i H2 (s2 _ _ hqi) k1 k0 (hk1 rfl _ _ (Same.refl _) ⟨q', i, rfl, s2 _ _ hqi, rfl⟩)
  · rw [List.filter_eq_self.mpr (fun _ _ => rfl)] at zpr
    exact hd D H2 hD s2 (by rw [hDs, zs_of zpr (Paired.mapP pr fun _ _ z => s2 _ _ z)])
theorem r_Ranked_numbers {K : PySem.W.Frag} {A : Ads} {E : XK} {vs : List V} {H : Hp} {Q : VK} (h : sp_Ranked_numbers A vs H Q E) : t_Ranked_numbers K A E { nx := fun _ H' => Q .non H', rt := Q } (L2.start ["self", "lows", "one"] vs) H := by
  obtain ⟨r, p, w, ms, rfl, ⟨L, G, ⟨dx, lv, hv, hr, aL, aG, dL, dG⟩, P, hdue⟩, len, kq⟩ := h
  have ml : L.items.length + G.items.length = ms.length := by have := P.1.length_eq; simpa using this
  unfold t_Ranked_numbers
  refine seq1 ?_
  wide_line using [hr]
  refine ⟨lv, L, rfl, aL, by omega, fun q qs ys H1 s1 hq pr pm sy => ?_⟩
  have ly := paired_len pr
  have lp := pm.length_eq
  dsimp only
  refine pick_ints (f := fun i => 0 - i) hq pr (by omega) (fun q' i H2 h2 k1 k0 hk => ?_) fun D H2 hD s2 hDs => ?_
  · unfold LcTurn
    wide_line using [h2]
    exact hk
  refine ⟨D, _, rfl, .of hDs, fun xs p1 xp xsd hp1 => ?_⟩
  have s3 := same_new (o := .lst (xs.map V.int)) hp1
  have u3 : upd H2 p1 (.lst (xs.map V.int)) p1 = some (.lst (xs.map V.int)) := upd_same
  have s13 := s2.trans s3
  have hr3 := (s1.trans s13) _ _ hr
  have aG3 := aG.kt (.same (s1.trans s13))
  generalize upd H2 p1 (.lst (xs.map V.int)) = H3 at *
  dsimp only
  wide_line using [u3, hr3]
  refine ⟨hv, G, rfl, aG3, by omega, fun q2 qs2 ys2 H4 s4 hq2 pr2 pm2 sy2 => ?_⟩
  have ly2 := paired_len pr2
  have lp2 := pm2.length_eq
  dsimp only
  refine pick_ints (f := fun i => i) hq2 pr2 (by omega) (fun q' i H2 h2 k1 k0 hk => ?_) fun D2 H5 hD2 s5 hDs2 => ?_
  · unfold LcTurn
    wide_line using [h2]
    exact hk
  simp only [hDs2, seqAt_lst]
  have lx := xp.length_eq
  rw [List.length_map] at lx
  have e : xs.map V.int ++ ((ys2.map fun i => i).map V.int ++ []) = (isort ms).map V.int := by
    rw [List.append_nil, ← List.map_append, List.map_id']
    exact congrArg _ (parts_sorted P (xp.trans (pm.map _)) xsd pm2 sy2)
  rw [e]
  refine ⟨by rw [List.length_map, (isort_perm _).length_eq, sizeLine_eq]; omega, fun p2 hp2 l hl => ?_⟩
  exact kq l _ ((((s1.trans s13).trans s4).trans s5).trans ((same_new hp2).trans (same_new hl))) upd_same
theorem r_rank_of_all {K : PySem.W.Frag} {A : Ads} {E : XK} {vs : List V} {H : Hp} {Q : VK} (h : sp_rank_of_all A vs H Q E) : t_rank_of_all K A E { nx := fun _ H' => Q .non H', rt := Q } (L2.start ["numbers", "part", "whole"] vs) H := by
  obtain ⟨a, p, w, ms, rfl, hpw, ha, ke, kq⟩ := h
  obtain ⟨due0, dueM, due1⟩ := dueN_le (n := ms.length) hpw
  unfold t_rank_of_all
  have hsq : SqL K H a (ms.map V.int) ∨ SqT K H a (ms.map V.int) := ha.imp (fun h => .of h) (fun h => .inl (.inl h))
  have hseq : ∀ {H' : Hp} {k : List V → Prop}, Same H H' → k (ms.map V.int) → seqAt (H' a) k := fun s hk => by
    rcases ha with h | h
    · rw [s _ _ h]; exact hk
    · rw [s _ _ h]; exact hk
  refine seq1 ?_
  wide_line using []
  refine hseq (Same.refl _) ?_
  rw [List.length_map]
  by_cases e : ms = []
  · rw [if_pos (by simp [e])]
    exact ke e
  · have el : 0 < ms.length := List.length_pos_iff.mpr e
    rw [if_neg (by omega)]
    try (wide_line using [])
    refine ⟨a, ms, rfl, hsq, fun xs p1 xp xsd hp1 => ?_⟩
    have s1 := same_new (o := .lst (xs.map V.int)) hp1
    have u1 : upd H p1 (.lst (xs.map V.int)) p1 = some (.lst (xs.map V.int)) := upd_same
    generalize upd H p1 (.lst (xs.map V.int)) = H1 at *
    dsimp only
    refine hseq s1 ?_
    rw [List.length_map]
    refine ⟨ms.length, p, w, rfl, hpw, ?_⟩
    simp only [u1, seqAt_lst]
    have e1 := isort_eq xp xsd
    subst e1
    have hd := due1 el
    unfold dueN at hd dueM
    rw [if_neg (by omega)] at hd dueM
    have hk : ((ms.length : Int) - 1) * p / w = ((((ms.length : Int) - 1) * p / w).toNat : Int) := by omega
    rw [hk]
    have hlt : (((ms.length : Int) - 1) * p / w).toNat < (isort ms).length := by rw [(isort_perm _).length_eq]; omega
    refine atK_nat (v := .int (rankD ms p w)) ?_ (kq e _ s1)
    unfold rankD
    rw [List.getElem?_map, List.getElem?_eq_getElem hlt, List.getD_eq_getElem?_getD, List.getElem?_eq_getElem hlt]
    rfl
theorem r_Ranked_has {K : PySem.W.Frag} {A : Ads} {E : XK} {vs : List V} {H : Hp} {Q : VK} (hEx : PySem.W.exmOne K (.ref A.NotThere) (.ref A.NotThere) = some true) (h : sp_Ranked_has A vs H Q E) : t_Ranked_has K A E { nx := fun _ H' => Q .non H', rt := Q } (L2.start ["self", "number", "heap", "item"] vs) H := by
  obtain ⟨r, p, w, x, ms, rfl, ⟨L, G, ⟨dx, lv, hv, hr, aL, aG, dL, dG⟩, ⟨pm, od⟩, hdue⟩, len, kq⟩ := h
  have ml : L.items.length + G.items.length = ms.length := by have := pm.length_eq; simpa using this
  have memS : ∀ z, z ∈ ms ↔ (0 - z ∈ L.items ∨ z ∈ G.items) := fun z => by
    rw [← pm.mem_iff, List.mem_append, neg_items]
  have s1 : (1 : Nat) ≤ sizeLine ∧ 2 ≤ sizeLine := by rw [sizeLine_eq]; decide
  unfold t_Ranked_has
  refine seq1 ?_
  wide_line using [hr]
  refine ⟨s1.1, fun p1 hp1 => ?_⟩
  have t1 := same_new (o := .tup [.int (0 - x)]) hp1
  have u1 : upd H p1 (.tup [.int (0 - x)]) p1 = some (.tup [.int (0 - x)]) := upd_same
  generalize upd H p1 (.tup [.int (0 - x)]) = H1 at *
  refine ⟨s1.2, fun p2 hp2 => ?_⟩
  have t2 := same_new (o := .tup [lv, .ref p1]) hp2
  have u2 : upd H1 p2 (.tup [lv, .ref p1]) p2 = some (.tup [lv, .ref p1]) := upd_same
  have u1 := t2 _ _ u1
  have t12 := t1.trans t2
  have hr2 := t12 _ _ hr
  generalize upd H1 p2 (.tup [lv, .ref p1]) = H2 at *
  simp only [hr2, fg_Ranked_high]
  refine ⟨trivial, s1.1, fun p3 hp3 => ⟨s1.2, fun p4 hp4 => ⟨s1.2, fun p5 hp5 => ?_⟩⟩⟩
  have t3 := same_new (o := .tup [.int x]) hp3
  have t4 := same_new (o := .tup [hv, .ref p3]) hp4
  have t5 := same_new (o := .tup [.ref p2, .ref p4]) hp5
  have u5 : upd (upd (upd H2 p3 (.tup [.int x])) p4 (.tup [hv, .ref p3])) p5 (.tup [.ref p2, .ref p4]) p5 = some (.tup [.ref p2, .ref p4]) := upd_same
  have u4 : upd (upd (upd H2 p3 (.tup [.int x])) p4 (.tup [hv, .ref p3])) p5 (.tup [.ref p2, .ref p4]) p4 = some (.tup [hv, .ref p3]) := t5 _ _ upd_same
  have u3 : upd (upd (upd H2 p3 (.tup [.int x])) p4 (.tup [hv, .ref p3])) p5 (.tup [.ref p2, .ref p4]) p3 = some (.tup [.int x]) := t5 _ _ (t4 _ _ upd_same)
  have t35 := (t3.trans t4).trans t5
  have u1 := t35 _ _ u1
  have u2 := t35 _ _ u2
  have t := t12.trans t35
  generalize upd (upd (upd H2 p3 (.tup [.int x])) p4 (.tup [hv, .ref p3])) p5 (.tup [.ref p2, .ref p4]) = H5 at *
  have aL5 := aL.kt (.same t)
  have aG5 := aG.kt (.same t)
  refine forT_to (xs := [.ref p2, .ref p4]) (.inl (.inl u5)) (fun i σ H' => ∃ z2 z3, σ = [some (.ref r), some (.int x), z2, z3] ∧ Same H5 H' ∧ (1 ≤ i → 0 - x ∉ L.items) ∧ (2 ≤ i → x ∉ G.items))
    (fun σ H' => ∃ z2 z3, σ = [some (.ref r), some (.int x), z2, z3] ∧ Same H5 H' ∧ 0 - x ∉ L.items ∧ x ∉ G.items)
    ⟨none, none, rfl, Same.refl _, by omega, by omega⟩ ?_ ?_ ?_ ?_
  · rintro i σ H' _ ⟨z2, z3, rfl, s, _⟩
    exact .inl (.inl (s _ _ u5))
  · rintro σ H' ⟨z2, z3, rfl, s, h1, h2⟩
    exact ⟨z2, z3, rfl, s, h1 (by simp), h2 (by simp)⟩
  · rintro σ H' ⟨z2, z3, rfl, s, h1, h2⟩
    wp_walk using upd_same
    have := kq _ (t.trans s)
    rw [decide_eq_false (fun hx => ((memS x).mp hx).elim h1 h2)] at this
    exact this
  · rintro N nx hnx i y σ H' hy hN ⟨z2, z3, rfl, s, h1, h2⟩
    have go : ∀ {pt pn : Addr} {tv : V} {T : Lh} {z : Int}, y = .ref pt → H5 pt = some (.tup [tv, .ref pn]) → H5 pn = some (.tup [.int z]) → LhAt H5 T tv → T.Hd → T.items.length ≤ 100000 → (z ∈ T.items → x ∈ ms) → (z ∉ T.items → ∀ H2, Same H5 H2 → N [some (.ref r), some (.int x), some tv, some (.ref pn)] H2) →
        dgTup 2 (dgCons (gName 2) (dgCons (gName 3) dgNil)) y [some (.ref r), some (.int x), z2, z3] H' fun σ2 H2 => tTryOnly K (.ref A.NotThere) (fun W => tSeq (tDrop (tCallS (sp_whereQ A) (WE W) (tCons (dVar 2) (tCons (dVar 3) tNil)))) (tRet (tC (.bl true)))) (fun a cls d => tCont) (fun _ _ _ _ => False)
          { nx := N, rt := Q, bk := nx, ct := N } σ2 H2 := by
      intro pt pn tv T z ey ht hn aT dT lT hin hout
      subst ey
      wide_line using [s _ _ ht]
      refine seq1 ?_
      wide_line using [upd_same]
      refine ⟨tv, pn, z, T, rfl, s _ _ hn, aT.kt (.same s), dT, lT, fun hz H2 s2 => ?_, fun hz H2 ra rl rows ts n r' l t' a sd s2 _ _ _ _ _ => ?_⟩
      · exact ⟨true, hEx, fun _ _ _ => hout hz H2 (s.trans s2), fun e => by cases e⟩
      · have := kq _ ((t.trans s).trans s2)
        rw [decide_eq_true (hin hz)] at this
        exact this
    match i, hy with
    | 0, hy =>
      cases hy
      exact go rfl u2 u1 aL5 dL (by omega) (fun hz => (memS x).mpr (.inl hz)) fun hz H2 s2 => hN _ _ ⟨_, _, rfl, s2, fun _ => hz, by omega⟩
    | 1, hy =>
      cases hy
      exact go rfl u4 u3 aG5 dG (by omega) (fun hz => (memS x).mpr (.inr hz)) fun hz H2 s2 => hN _ _ ⟨_, _, rfl, s2, fun _ => h1 (Nat.le_refl _), fun _ => hz⟩
    | i + 2, hy => simp at hy
/-- what is gathered by two fors over a tuple, when all that the inner lists hold has a property that stays -/
theorem lc2_keep {K : PySem.W.Frag} {a : Addr} {xs : List V} {g : TG} {tt : TT} {wi1 : TI} {g1 : TG} {tt1 : TT} {te : TE} {vs vs1 : List Nat} {σ : L2.St} {H1 : Hp} {Q : VK} (hq : H1 a = some (.tup xs)) (B : Nat) (hz : xs.length * B ≤ 1000000)
    (Pr : V → Hp → Prop) (st : ∀ v H H', KT H H' → Pr v H → Pr v H') (s2 : V → L2.St)
    (outer : ∀ (i : Nat) (x : V), xs[i]? = some x → ∀ H, Same H1 H → ∀ (C : L2.St → It → Hp → Prop) (k0 : Hp → Prop), (∀ J H4 ys, Same H H4 → SeqJ K J H1 H H4 ys → ys.length ≤ B → (∀ y ∈ ys, Pr y H4) → C (s2 x) J H4) →
      g x (wipe σ vs) H fun σ2 H2 => wipe σ2 vs = wipe σ vs ∧ tt σ2 H2 fun b H3 => if b = true then wi1 σ2 H3 (C σ2) else k0 H3)
    (inner : ∀ (i : Nat) (x y : V), xs[i]? = some x → ∀ H, Same H1 H → Pr y H → ∀ (k1 : VK) (k0 : Hp → Prop), (∀ v H', Same H H' → Pr v H' → k1 v H') → LcTurn g1 tt1 te vs1 (s2 x) y H k1 k0)
    (hd : ∀ D H ys, H1 D = none → Same H1 H → H D = some (.lst ys) → ys.length ≤ xs.length * B → (∀ y ∈ ys, Pr y H) → Q (.ref D) H) : Lc2J (Itt K a) g tt wi1 g1 tt1 te vs vs1 σ H1 Q := by
  intro D hD
  refine lc2_out (n := xs.length) (fun j x => xs[j]? = some x) (fun i H => Same H1 H ∧ ∃ acc, H D = some (.lst acc) ∧ acc.length ≤ i * B ∧ ∀ y ∈ acc, Pr y H) ⟨same_new hD, [], upd_same, Nat.zero_le _, by simp⟩ ?_ ?_ ?_ ?_ ?_
  · rintro j H hj ⟨s, _⟩
    exact ⟨xs, xs[j], .inl (.inl (s _ _ hq)), List.getElem?_eq_getElem hj⟩
  · rintro H ⟨s, _⟩
    exact ⟨xs, .inl (.inl (s _ _ hq)), Nat.le_refl _⟩
  · rintro j H x H' hj ⟨s, _⟩ ⟨e, h⟩
    exact ⟨e, h xs (.inl (.inl (s _ _ hq)))⟩
  · rintro i x H hi hx ⟨s, acc, hDs, hy, pa⟩
    refine outer i x hx H s (fun σ2 J1 H4 => _) _ fun J H4 ys s4 sj yl py => ?_
    obtain ⟨b, hb, hJ⟩ := sj.ex
    have nb : b ≠ D := by
      rintro rfl
      rcases hb with hb | hb
      · rw [hDs] at hb; cases hb
      · exact hb hD
    have room : i * B + B ≤ 1000000 := by
      have h1 : (i + 1) * B ≤ xs.length * B := Nat.mul_le_mul_right _ hi
      rw [Nat.succ_mul] at h1
      omega
    have at_ : ∀ {H : Hp}, H b = H4 b → (J = Itl K b ∧ H b = some (.lst ys)) ∨ (J = Itt K b ∧ H b = some (.tup ys)) := fun eb => hJ.imp (fun h => ⟨h.1, eb.trans h.2⟩) (fun h => ⟨h.1, eb.trans h.2⟩)
    refine lc2_in (J := J) (n := ys.length) (fun j y => ys[j]? = some y) (fun j H => Same H1 H ∧ H b = H4 b ∧ (∀ y ∈ ys, Pr y H) ∧ ∃ acc, H D = some (.lst acc) ∧ acc.length ≤ i * B + j ∧ ∀ y ∈ acc, Pr y H) ⟨s.trans s4, rfl, py, acc, s4 _ _ hDs, hy, fun y hm => st _ _ _ (.same s4) (pa y hm)⟩ ?_ ?_ ?_ ?_ ?_
    · rintro j H hj ⟨_, eb, _⟩
      rcases at_ eb with ⟨rfl, h⟩ | ⟨rfl, h⟩ <;> exact ⟨ys, ys[j], .inl (.inl h), List.getElem?_eq_getElem hj⟩
    · rintro H ⟨_, eb, _⟩
      rcases at_ eb with ⟨rfl, h⟩ | ⟨rfl, h⟩ <;> exact ⟨ys, .inl (.inl h), Nat.le_refl _⟩
    · rintro j H y H' hj ⟨_, eb, _⟩ hyl
      rcases at_ eb with ⟨rfl, h⟩ | ⟨rfl, h⟩ <;> exact ⟨hyl.1, hyl.2 ys (.inl (.inl h))⟩
    · rintro j y H hj hyj ⟨sH, eb, py2, acc2, hD2, hl2, pa2⟩
      have hbs : H b ≠ none := by rcases at_ eb with ⟨_, h⟩ | ⟨_, h⟩ <;> rw [h] <;> simp
      refine inner i x y hx H sH (py2 y (List.mem_of_getElem? hyj)) _ _ fun v H' s' r => ?_
      have kt : KT H' (upd H' D (.lst (acc2 ++ [v]))) := KT.mut (by rw [s' D _ hD2]; rfl)
      have kt0 : KT H (upd H' D (.lst (acc2 ++ [v]))) := (KT.same s').trans kt
      refine ⟨acc2, s' D _ hD2, by rw [sizeLine_eq]; omega, same_mut (sH.trans s') hD, ?_, fun z hz => st _ _ _ kt0 (py2 z hz), acc2 ++ [v], upd_same, by rw [List.length_append, List.length_singleton]; omega, fun z hz => ?_⟩
      · rw [upd_ne nb]
        cases e : H b with
        | none => exact absurd e hbs
        | some o => rw [s' b o e, ← eb, e]
      · rcases List.mem_append.mp hz with hz | hz
        · exact st _ _ _ kt0 (pa2 z hz)
        · simp at hz
          subst hz
          exact st _ _ _ kt r
    · rintro H ⟨sH, _, _, acc2, hD2, hl2, pa2⟩
      exact ⟨sH, acc2, hD2, by rw [Nat.succ_mul]; omega, pa2⟩
  · rintro H ⟨s, acc, hDs, hy, pa⟩
    exact hd D H acc hD s hDs hy pa
/-- what is kept of a list, whatever the test says, when each value has a property that stays -/
theorem lcL_keep {K : PySem.W.Frag} {a : Addr} {xs : List V} {g : TG} {tt : TT} {te : TE} {vs : List Nat} {σ : L2.St} {H1 : Hp} {Q : VK} (hq : SqL K H1 a xs) (hz : xs.length ≤ 1000000) (Pr : V → Hp → Prop) (st : ∀ v H H', KT H H' → Pr v H → Pr v H')
    (turn : ∀ x ∈ xs, ∀ H, Same H1 H → ∀ (k1 : VK) (k0 : Hp → Prop), (∀ y H', Same H H' → Pr y H' → k1 y H') → (∀ H', Same H H' → k0 H') → LcTurn g tt te vs σ x H k1 k0)
    (hd : ∀ D H ys, H1 D = none → Same H1 H → H D = some (.lst ys) → ys.length ≤ xs.length → (∀ y ∈ ys, Pr y H) → Q (.ref D) H) : LcL K a g tt te vs σ H1 Q := by
  refine ⟨⟨_, hq⟩, fun D hD => lc_list (K := K) (a := a) (xs := xs) (fun i H => Same H1 H ∧ ∃ ys, H D = some (.lst ys) ∧ ys.length ≤ i ∧ ∀ y ∈ ys, Pr y H) ⟨same_new hD, [], upd_same, Nat.le_refl _, by simp⟩ (fun i H _ p => p.1.seq hq) ?_ ?_⟩
  · rintro i x H hx ⟨s, ys, hDs, hy, pa⟩
    have hlt := (List.getElem?_eq_some_iff.mp hx).1
    refine turn x (List.mem_of_getElem? hx) H s _ _ (fun y H' s' r => ?_) fun H' s' => ⟨s.trans s', ys, s' D _ hDs, Nat.le_succ_of_le hy, fun z hz => st _ _ _ (.same s') (pa z hz)⟩
    have kt : KT H' (upd H' D (.lst (ys ++ [y]))) := KT.mut (by rw [s' D _ hDs]; rfl)
    refine ⟨ys, s' D _ hDs, by rw [sizeLine_eq]; omega, same_mut (s.trans s') hD, ys ++ [y], upd_same, by rw [List.length_append, List.length_singleton]; omega, fun z hz => ?_⟩
    rcases List.mem_append.mp hz with hz | hz
    · exact st _ _ _ ((KT.same s').trans kt) (pa z hz)
    · simp at hz
      subst hz
      exact st _ _ _ kt r
  · rintro H ⟨s, ys, hDs, hy, pa⟩
    exact hd D H ys hD s hDs hy pa
theorem NumRow.kt {H H' : Hp} (k : KT H H') {v : V} (h : NumRow H v) : NumRow H' v := let ⟨a, b, n, e, h1⟩ := h; ⟨a, b, n, e, k _ _ h1⟩
theorem paired_same {α : Type} : ∀ xs : List α, Paired (fun x y => x = y) xs xs
  | [] => .nil
  | _ :: xs => .cons rfl (paired_same xs)
theorem KeyRow.kt {H H' : Hp} (k : KT H H') {v : V} (h : KeyRow H v) : KeyRow H' v := let ⟨a, b, s, e, h1, h2⟩ := h; ⟨a, b, s, e, k _ _ h1, Sas.kt k h2⟩
theorem r_keyed {K : PySem.W.Frag} {A : Ads} {E : XK} {vs : List V} {H : Hp} {Q : VK} (h : sp_keyed vs H Q E) : t_keyed K A E { nx := fun _ H' => Q .non H', rt := Q } (L2.start ["row", "event", "said", "at", "one"] vs) H := by
  obtain ⟨v, m, rfl, ⟨a, e, sd, ed, ys, rfl, ha, ez, ev, hsd, yl, hys⟩, kq⟩ := h
  have s2 : (2 : Nat) ≤ sizeLine := by rw [sizeLine_eq]; decide
  unfold t_keyed
  refine seq1 ?_
  wide_line using [ha]
  refine lcE_pair hsd (paired_same ys) (by omega) (fun p y H => KeyRow H y) (fun x y H H' k h => h.kt k) (fun i x p T hx hp ex H2 s2' hT k1 k0 hk1 => ?_) fun D H2 zs hD s2' hDs pr => ?_
  · subst ex
    unfold LcTurn
    wide_line using [hT]
    refine ⟨s2, fun p1 hp1 => ⟨s2, fun p2 hp2 => ?_⟩⟩
    have t1 := same_new (o := .tup [.ref e, .int (i : Nat)]) hp1
    have t2 := same_new (o := .tup [.ref p1, x]) hp2
    exact hk1 _ _ (t1.trans t2) ⟨p2, p1, x, rfl, upd_same, (hys x (List.mem_of_getElem? hx)).kt (.same ((s2'.trans t1).trans t2))⟩
  · have zl := paired_len pr
    exact kq D H2 zs hD s2' hDs (by omega) fun y hy => by obtain ⟨_, _, h⟩ := paired_memR pr hy; exact h
theorem r_is_meant {K : PySem.W.Frag} {A : Ads} {E : XK} {vs : List V} {H : Hp} {Q : VK} (h : sp_is_meant vs H Q E) : t_is_meant K A E { nx := fun _ H' => Q .non H', rt := Q } (L2.start ["said", "place", "word"] vs) H := by
  obtain ⟨v, word, rfl, ok, ⟨d, z, t, n, p, w, rfl, hp, hw⟩, kq⟩ := h
  have s2 : (2 : Nat) ≤ sizeLine := by rw [sizeLine_eq]; decide
  obtain ⟨a, xs, q0, _, rfl, ha, pr⟩ := Tz.tuple_inv0 z
  cases pr with | cons y1 pr =>
  cases pr with | cons y2 pr =>
  cases pr with | cons y3 pr =>
  cases pr with | cons y4 pr =>
  cases pr
  rw [Tz.int_inv y1, Tz.str_inv y2, Tz.str_inv y3, Tz.int_inv y4] at ha
  unfold t_is_meant
  wp_walk using ha
  refine ⟨s2, fun p1 hp1 => ⟨rfl, rfl, ?_⟩⟩
  have t1 := same_new (o := .tup [.str "", .str p]) hp1
  rw [if_pos (by simp [inV]; exact .inl rfl)]
  simp only [t1 _ _ ha, seqAt_tup]
  refine atK_n 2 rfl rfl ⟨s2, fun p2 hp2 => ⟨rfl, rfl, kq _ _ (t1.trans (same_new hp2))⟩⟩
theorem r_numbers_said {K : PySem.W.Frag} {A : Ads} {E : XK} {vs : List V} {H : Hp} {Q : VK} (h : sp_numbers_said vs H Q E) : t_numbers_said K A E { nx := fun _ H' => Q .non H', rt := Q } (L2.start ["trace_done", "place", "word", "rows", "row", "pair", "key", "said"] vs) H := by
  obtain ⟨t, word, xs, m, rfl, ok, ht, xl, hrow, kq⟩ := h
  have s2 : (2 : Nat) ≤ sizeLine := by rw [sizeLine_eq]; decide
  unfold t_numbers_said
  refine seq1 ?_
  wide_line using [ht]
  refine ⟨⟨_, .inl (.inl ht)⟩, lc2_keep ht 700 (by omega) (fun v H => KeyRow H v) (fun v H H' k h => h.kt k) (fun x => [some (V.ref t), some (V.str ""), some (V.str word), none, some x, none, none, none]) (fun i x hx H2 s2' C k0 hC => ?_) (fun i x y hx H2 s2' hy k1 k0 hk1 => ?_) fun D H2 ys hD s2' hDs yl hys => ?_⟩
  · wide_line using [upd_same]
    refine ⟨x, m, rfl, (hrow x (List.mem_of_getElem? hx)).kt (.same s2'), fun D H3 ys hD s3 hDs yl hys => ?_⟩
    dsimp only
    exact ⟨⟨_, .of hDs⟩, hC _ H3 ys s3 ⟨D, .inl hD, .inl ⟨rfl, hDs⟩⟩ yl hys⟩
  · unfold LcTurn
    wide_line using [upd_same]
    exact hk1 _ _ (Same.refl _) hy
  · dsimp only
    have yl' : ys.length ≤ 210000 := by have : xs.length * 700 ≤ 300 * 700 := Nat.mul_le_mul_right _ xl; omega
    refine lcL_keep (.of hDs) (by omega) (fun v H => NumRow H v) (fun v H H' k h => h.kt k) (fun y hy H3 s3 k1 k0 hk1 hk0 => ?_) fun D2 H3 zs hD2 s3 hDs2 zl hzs => ?_
    · obtain ⟨a, k, sv, rfl, ha, hs⟩ := hys y hy
      have ha3 := s3 _ _ ha
      have hs3 := Sas.kt (.same s3) hs
      unfold LcTurn
      wide_line using [ha3]
      refine ⟨sv, word, rfl, ok, hs3, fun b H4 s4 => ?_⟩
      cases b with
      | false =>
        dsimp only
        exact hk0 _ s4
      | true =>
        dsimp only
        obtain ⟨d, z, tt, n, p, w, rfl, hp, hw⟩ := hs3
        obtain ⟨sa, sx, q0, _, rfl, hsa, pr⟩ := Tz.tuple_inv0 z
        cases pr with | cons y1 pr =>
        cases pr with | cons y2 pr =>
        cases pr with | cons y3 pr =>
        cases pr with | cons y4 pr =>
        cases pr
        rw [Tz.int_inv y4] at hsa
        simp only [s4 _ _ hsa, seqAt_tup]
        rw [if_pos trivial]
        refine atK_n 3 rfl rfl ⟨s2, fun p1 hp1 => hk1 _ _ (s4.trans (same_new hp1)) ⟨p1, k, n, rfl, upd_same⟩⟩
    · simp only [hDs2]
      intro l hl
      have sl := same_new (o := .tup zs) hl
      exact kq l _ zs ((s2'.trans s3).trans sl) upd_same (by omega) fun y hy => (hzs y hy).kt (.same sl)
theorem r_law_says {K : PySem.W.Frag} {A : Ads} {E : XK} {vs : List V} {H : Hp} {Q : VK} (h : sp_law_says vs H Q E) : t_law_says K A E { nx := fun _ H' => Q .non H', rt := Q } (L2.start ["told", "due"] vs) H := by
  obtain ⟨b, c, rfl, kq⟩ := h
  unfold t_law_says
  walk_at "ev"
  cases b <;> cases c <;> first | exact kq | simpa using kq
theorem eqD_nil {K : PySem.W.Frag} {H : Hp} {Q : VK} {n : Nat} {a b : Addr} {xs : List V} {ds : List PyData} (ha : H a = some (.lst xs)) (p : Paired (Da H n) xs ds) (hn : n ≤ 60) (hb : H b = some (.lst [])) (q : Q (.bl (decide (xs = []))) H) : dEqD K (.ref a) (.ref b) H Q := by
  obtain ⟨l1, l2⟩ := Da.lays (fun q => Da.lay q) p
  have sh : SeqAt.shaped (.list ds) = true := by
    show ((PyData.list ds).canLay0 && decide ((PyData.list ds).depth ≤ 64)) = true
    have c1 : (PyData.list ds).canLay0 = true := by simpa [PyData.canLay0] using l1
    have c2 : (PyData.list ds).depth ≤ 64 := by simp only [PyData.depth]; omega
    rw [c1, decide_eq_true c2]
    rfl
  refine ⟨.list ds, .list [], .lst (SqL.of ha) (dpAll (Paired.mapP p fun _ _ q => Da.dp q)), .lst (SqL.of hb) .nil, sh, rfl, ?_⟩
  cases p with
  | nil => exact q
  | @cons x d xs ds h t =>
    have : PyData.eqv (.list (d :: ds)) (.list []) = false := by simp [PyData.eqv, PyData.eqvAll]
    rw [this]
    simpa using q
/-- == of two tuples that hold the same ints -/
theorem eqD_ints {K : PySem.W.Frag} {H : Hp} {Q : VK} {a b : Addr} {ns : List Int} (ha : H a = some (.tup (ns.map V.int))) (hb : H b = some (.tup (ns.map V.int))) (q : Q (.bl true) H) : dEqD K (.ref a) (.ref b) H Q := by
  have p : Paired (Da H 0) (ns.map V.int) (ns.map PyData.int) := da_ints
  obtain ⟨l1, l2⟩ := Da.lays (fun q => Da.lay q) p
  have c1 : (PyData.tuple (ns.map PyData.int)).canLay0 = true := by simpa [PyData.canLay0] using l1
  have sh : SeqAt.shaped (.tuple (ns.map PyData.int)) = true := by
    show ((PyData.tuple (ns.map PyData.int)).canLay0 && decide ((PyData.tuple (ns.map PyData.int)).depth ≤ 64)) = true
    have c2 : (PyData.tuple (ns.map PyData.int)).depth ≤ 64 := by simp only [PyData.depth]; omega
    rw [c1, decide_eq_true c2]
    rfl
  have dp := dpAll (Paired.mapP p fun _ _ q => Da.dp (K := K) q)
  exact ⟨_, _, .tup (SqT.of ha) dp, .tup (SqT.of hb) dp, sh, sh, by rw [SeqAt.eqv_refl _ c1]; exact q⟩
theorem r_law_due {K : PySem.W.Frag} {A : Ads} {E : XK} {vs : List V} {H : Hp} {Q : VK} (h : sp_law_due vs H Q E) : t_law_due K A E { nx := fun _ H' => Q .non H', rt := Q } (L2.start ["numbers", "part", "whole_one", "row", "place"] vs) H := by
  obtain ⟨a, p, w, ms, rfl, hpw, ha, len, kq⟩ := h
  obtain ⟨due0, dueM, due1⟩ := dueN_le (n := ms.length) hpw
  unfold t_law_due
  refine seq1 ?_
  wide_line using [upd_same]
  refine ⟨Nat.zero_le _, fun p1 hp1 => ?_⟩
  have t1 := same_new (o := .lst []) hp1
  have ha1 := t1 _ _ ha
  refine eqD_nil (n := 0) ha1 da_ints (by decide) upd_same ?_
  dsimp only
  by_cases e : ms = []
  · rw [if_pos (by simp [e])]
    have := kq _ t1
    unfold dueV at this
    rw [if_pos e] at this
    exact this
  · rw [if_neg (by simpa using e)]
    have el : 0 < ms.length := List.length_pos_iff.mpr e
    generalize upd H p1 (.lst []) = H1 at *
    refine seq1 ?_
    wide_line using [upd_same]
    refine ⟨a, ms, rfl, .of ha1, fun xs p2 xp xsd hp2 => ?_⟩
    have t2 := same_new (o := .lst (xs.map V.int)) hp2
    have u2 : upd H1 p2 (.lst (xs.map V.int)) p2 = some (.lst (xs.map V.int)) := upd_same
    have ha2 := t2 _ _ ha1
    generalize upd H1 p2 (.lst (xs.map V.int)) = H2 at *
    have e1 := isort_eq xp xsd
    subst e1
    obtain ⟨w0, w1, p0, pw⟩ := hpw
    have hq0 : 0 ≤ ((ms.length : Int) - 1) * p := Int.mul_nonneg (by omega) p0
    refine seq1 ?_
    refine while_to (fun m σ H' => ∃ (k : Nat), σ = [some (.ref a), some (.int p), some (.int w), some (.ref p2), some (.int (k : Nat))] ∧ H' = H2 ∧ (k : Int) * w ≤ ((ms.length : Int) - 1) * p ∧ m = (((ms.length : Int) - 1) * p - k * w).toNat)
      (fun σ H' => ∃ (k : Nat), σ = [some (.ref a), some (.int p), some (.int w), some (.ref p2), some (.int (k : Nat))] ∧ H' = H2 ∧ (k : Int) = ((ms.length : Int) - 1) * p / w)
      _ ⟨0, rfl, rfl, by simpa using hq0, rfl⟩ ?_ ?_
    · rintro σ H' ⟨k, rfl, rfl, hk⟩
      wp_walk using u2
      have hlt : k < (isort ms).length := by
        rw [(isort_perm _).length_eq]
        unfold dueN at dueM
        rw [if_neg (by omega)] at dueM
        omega
      have := kq _ (t1.trans t2)
      unfold dueV rankD at this
      rw [if_neg e, ← hk, Int.toNat_natCast, List.getD_eq_getElem?_getD, List.getElem?_eq_getElem hlt] at this
      exact atK_nat (v := .int (isort ms)[k]) (by rw [List.getElem?_map, List.getElem?_eq_getElem hlt]; rfl) this
    · rintro nx hnx m σ H' ⟨k, rfl, rfl, hk, rfl⟩
      wide_line using [ha2]
      rw [List.length_map]
      refine ⟨.inr ⟨by omega, by omega⟩, .inr ⟨by omega, by omega⟩, ?_⟩
      have em : ((k : Int) + 1) * w = k * w + w := by rw [Int.add_mul, Int.one_mul]
      by_cases hc : ((k : Int) + 1) * w ≤ ((ms.length : Int) - 1) * p
      · rw [if_pos hc]
        refine ⟨_, fun _ _ h => h, _, ?_, k + 1, rfl, rfl, hc, rfl⟩
        have e2 : (((k + 1 : Nat) : Int)) * w = k * w + w := em
        rw [e2]
        rw [em] at hc
        omega
      · rw [if_neg hc]
        refine hnx _ _ ⟨k, rfl, rfl, ?_⟩
        have h1 : (k : Int) ≤ ((ms.length : Int) - 1) * p / w := Int.le_ediv_of_mul_le (by omega) hk
        have h2 : ((ms.length : Int) - 1) * p / w < (k : Int) + 1 := Int.ediv_lt_of_lt_mul (by omega) (by omega)
        omega
theorem r_law_all {K : PySem.W.Frag} {A : Ads} {E : XK} {vs : List V} {H : Hp} {Q : VK} (F2 : WordOk K A A.NotThere "none") (h : sp_law_all A vs H Q E) : t_law_all K A E { nx := fun _ H' => Q .non H', rt := Q } (L2.start ["numbers", "part", "whole_one", "e"] vs) H := by
  obtain ⟨a, p, w, ms, rfl, hpw, ha, kq⟩ := h
  unfold t_law_all
  wp_walk using upd_same
  refine ⟨a, p, w, ms, rfl, hpw, ha, fun e => ?_, fun e H' s => ?_⟩
  · refine F2.told (show 3 < 4 by decide) fun H' s => ?_
    have := kq H' s
    unfold dueV at this
    rw [if_pos e] at this
    exact this
  · have := kq H' s
    unfold dueV at this
    rw [if_neg e] at this
    exact this
theorem r_law_told {K : PySem.W.Frag} {A : Ads} {E : XK} {vs : List V} {H : Hp} {Q : VK} (F1 : WordOk K A A.OutOfRange "range") (F2 : WordOk K A A.NotThere "none") (h : sp_law_told A vs H Q E) : t_law_told K A E { nx := fun _ H' => Q .non H', rt := Q } (L2.start ["which", "ranked", "number", "e"] vs) H := by
  unfold t_law_told
  rcases h with ⟨r, p, w, ms, rfl, hpw, rk, kq⟩ | ⟨r, p, w, x, ms, rfl, hpw, rk, len, ke, kq⟩ | ⟨t, v1, v2, rfl, ht, s1, s2, bad, kq⟩
  · have rk0 := rk
    obtain ⟨L, G, ⟨dx, lv, hv, hr, _⟩, _⟩ := rk
    refine seq1 ?_
    wide_line using [hr]
    refine ⟨r, p, w, ms, rfl, hpw, rk0, fun e => F2.told (show 3 < 4 by decide) fun H' s => ?_, fun e => ?_⟩
    · have := kq H' s
      unfold dueV at this
      rw [if_pos e] at this
      exact this
    · have := kq H (Same.refl _)
      unfold dueV at this
      rw [if_neg e] at this
      exact this
  · have rk0 := rk
    obtain ⟨L, G, ⟨dx, lv, hv, hr, _⟩, _⟩ := rk
    refine seq1 ?_
    wide_line using [hr]
    exact ⟨r, p, w, x, ms, rfl, hpw, rk0, len, fun hx H' k rk' => F2.told (show 3 < 4 by decide) fun H2 s => ke hx H2 (k.trans (.same s)) (rk'.same s), fun hx H' k rk' => kq hx H' k rk'⟩
  · refine seq1 ?_
    wide_line using [ht]
    intro x dx hx hdx hne
    have sA : Same H (upd (upd H dx (.own x)) x (.ins A.Ranked dx [])) := same_mut (same_new hdx) hx
    refine ⟨x, dx, v1, v2, rfl, upd_same, s1, s2, fun _ => F1.told (show 3 < 4 by decide) fun H2 s => kq H2 (sA.trans s), fun p w e1 e2 hpw => absurd ⟨p, w, e1, e2, hpw⟩ bad⟩
def dueD (ms : List Int) (p w : Int) : PyData := if ms = [] then .str "none" else .int (rankD ms p w)
theorem due_da {H : Hp} {n : Nat} {ms : List Int} {p w : Int} : Da H n (dueV ms p w) (dueD ms p w) := by
  unfold dueV dueD
  split
  · exact .str (by decide +kernel)
  · exact .int
theorem dueV_perm {ms ns : List Int} {p w : Int} (h : ms.Perm ns) : dueV ms p w = dueV ns p w := by
  have e : (ms = []) = (ns = []) := by
    rw [← List.length_eq_zero_iff, ← List.length_eq_zero_iff, h.length_eq]
  have e2 : isort ms = isort ns := isort_eq ((isort_perm ns).trans h.symm) (isort_sorted ns)
  unfold dueV rankD
  rw [e2, h.length_eq]
  simp only [e]
theorem r_law_right {K : PySem.W.Frag} {A : Ads} {E : XK} {vs : List V} {H : Hp} {Q : VK} (h : sp_law_right A vs H Q E) : t_law_right K A E { nx := fun _ H' => Q .non H', rt := Q } (L2.start ["ranked", "numbers", "part", "whole_one", "due"] vs) H := by
  obtain ⟨r, a, p, w, ms, ns, rfl, hpw, rk, pm, ha, len, kq⟩ := h
  have nl := pm.length_eq
  unfold t_law_right
  refine seq1 ?_
  wide_line using [upd_same]
  refine ⟨a, p, w, ns, rfl, hpw, ha, by omega, fun H1 s1 => ?_⟩
  refine seq1 ?_
  wide_line using [upd_same]
  refine .inl ⟨r, p, w, ms, rfl, hpw, rk.same s1, fun H2 s2 => ?_⟩
  dsimp only
  rw [dueV_perm pm]
  refine ⟨_, _, dueD ns p w, rfl, due_da, due_da, fun H3 s3 => ?_⟩
  dsimp only
  rw [if_neg (by decide)]
  have s13 := (s1.trans s2).trans s3
  refine ⟨a, p, w, ns, rfl, hpw, .inl (s13 _ _ ha), fun H4 s4 => ?_⟩
  refine ⟨_, _, dueD ns p w, rfl, due_da, due_da, fun H5 s5 => ?_⟩
  dsimp only
  rw [if_neg (by decide)]
  have s15 := (s13.trans s4).trans s5
  refine ⟨a, ns, rfl, .of (s15 _ _ ha), fun xs p1 xp xsd hp1 => ?_⟩
  have t1 := same_new (o := .lst (xs.map V.int)) hp1
  dsimp only
  simp only [upd_same]
  intro p2 hp2
  have t2 := same_new (o := .tup (xs.map V.int)) hp2
  have e1 := isort_eq xp xsd
  subst e1
  have s17 := (s15.trans t1).trans t2
  refine ⟨p2, p, w, isort ns, rfl, hpw, .inr upd_same, fun H8 s8 => ?_⟩
  rw [dueV_perm (isort_perm ns)]
  refine ⟨_, _, dueD ns p w, rfl, due_da, due_da, fun H9 s9 => ?_⟩
  dsimp only
  rw [if_neg (by decide)]
  have s19 := (s17.trans s8).trans s9
  have rk9 := rk.same s19
  obtain ⟨L, G, ⟨dx, lv, hv, hr, _⟩, _⟩ := id rk9
  wide_line using [hr]
  refine ⟨r, p, w, ms, rfl, rk9, by omega, fun q H10 s10 hq => ?_⟩
  have s110 := s19.trans s10
  refine ⟨a, ns, rfl, .of (s110 _ _ ha), fun xs p3 xp xsd hp3 => ?_⟩
  have t3 := same_new (o := .lst (xs.map V.int)) hp3
  have e1 := isort_eq xp xsd
  have e2 : isort ms = isort ns := isort_eq ((isort_perm ns).trans pm.symm) (isort_sorted ns)
  subst e1
  dsimp only
  simp only [upd_same]
  intro p4 hp4
  have t4 := same_new (o := .tup ((isort ns).map V.int)) hp4
  refine eqD_ints (ns := isort ns) ?_ upd_same (kq _ ((s110.trans t3).trans t4))
  rw [← e2] at t3 t4 ⊢
  exact t4 _ _ (t3 _ _ hq)
theorem keep3_kt {H H' : Hp} {d r l : Addr} {C dx : Addr} {fs : List (Str × V)} {xs : List V} (k : Keep [d, r, l] H H') (hd : DrawsAt H d) (hr : H r = some (.ins C dx fs)) (hl : H l = some (.lst xs)) : KT H H' := fun a ys e => by
  obtain ⟨ms, hm⟩ := hd
  refine k a _ e ?_
  simp only [List.mem_cons, List.not_mem_nil, or_false]
  rintro (rfl | rfl | rfl)
  · rw [hm] at e; cases e
  · rw [hr] at e; cases e
  · rw [hl] at e; cases e
theorem eraseIdx_mapI {α β : Type} {f : α → β} : ∀ (l : List α) (i : Nat), (l.map f).eraseIdx i = (l.eraseIdx i).map f
  | [], _ => rfl
  | _ :: _, 0 => rfl
  | x :: l, i + 1 => by simp [eraseIdx_mapI l i]
theorem eraseIdx_permI {α : Type} : ∀ (l : List α) (i : Nat) (h : i < l.length), (l[i] :: l.eraseIdx i).Perm l
  | [], _, h => by simp at h
  | _ :: _, 0, _ => List.Perm.refl _
  | x :: l, i + 1, h => (List.Perm.swap x _ _).trans (List.Perm.cons x (eraseIdx_permI l i (by simpa using h)))
theorem RkAt.kt {A : Ads} {H H' : Hp} {r : Addr} {p w : Int} {ms : List Int} (h : RkAt A H r p w ms) (k : KT H H') (e : H' r = H r) : RkAt A H' r p w ms := by
  obtain ⟨L, G, ⟨dx, lv, hv, hr, aL, aG, dL, dG⟩, P, d⟩ := h
  exact ⟨L, G, ⟨dx, lv, hv, e.trans hr, aL.kt k, aG.kt k, dL, dG⟩, P, d⟩
theorem DrawsAt.keep {H H' : Hp} {d : Addr} {S : List Addr} (h : DrawsAt H d) (k : Keep S H H') (n : d ∉ S) : DrawsAt H' d := let ⟨ms, e⟩ := h; ⟨ms, k _ _ e n⟩
theorem word_at {i : Nat} {x : V} (h : [V.str "hit", V.str "n", V.str ""][i]? = some x) : ∃ w, x = .str w ∧ PyData.strOk w = true := by
  match i, h with
  | 0, h => cases h; exact ⟨_, rfl, by decide +kernel⟩
  | 1, h => cases h; exact ⟨_, rfl, by decide +kernel⟩
  | 2, h => cases h; exact ⟨_, rfl, by decide +kernel⟩
  | i + 3, h => simp at h
theorem num_list {H : Hp} : ∀ {ys : List V}, (∀ y ∈ ys, NumRow H y) → ∃ ns : List Int, Paired (fun y n => ∃ (a k : Addr), y = .ref a ∧ H a = some (.tup [.ref k, .int n])) ys ns
  | [], _ => ⟨[], .nil⟩
  | y :: ys, h => by
    obtain ⟨a, k, n, e, h1⟩ := h y (List.mem_cons_self ..)
    obtain ⟨ns, p⟩ := num_list fun z hz => h z (List.mem_cons_of_mem _ hz)
    exact ⟨n :: ns, .cons ⟨a, k, e, h1⟩ p⟩
theorem nums_of {H : Hp} : ∀ {ys : List V} {ns : List Int} {zs : List V}, Paired (fun x y => ∃ (a k : Addr) (n : Int), x = V.ref a ∧ H a = some (.tup [.ref k, .int n]) ∧ y = .int n) ys zs → Paired (fun y n => ∃ (a k : Addr), y = V.ref a ∧ H a = some (.tup [.ref k, .int n])) ys ns → zs = ns.map V.int
  | _, _, _, .nil, .nil => rfl
  | _, _, _, .cons ⟨a, k, n, e, h, ey⟩ t, .cons ⟨a', k', e', h'⟩ t' => by
    rw [e] at e'
    cases e'
    rw [h] at h'
    cases h'
    rw [ey, nums_of t t']
    rfl
/-- one rank object of drawn numbers is made and filled -/
theorem r_law_runs {K : PySem.W.Frag} {A : Ads} {E : XK} {vs : List V} {H : Hp} {Q : VK} (h : sp_law_runs A vs H Q E) : t_law_runs K A E { nx := fun _ H' => Q .non H', rt := Q } (L2.start ["draws", "part", "whole_one", "model", "found", "word", "numbers", "ranked", "rows", "key", "number"] vs) H := by
  obtain ⟨dr, p, w, rfl, hpw, hd, kq⟩ := h
  unfold t_law_runs
  refine seq1 ?_
  wide_line using [upd_same]
  refine ⟨dr, 4, rfl, hd, by decide, by decide, fun mv ds H1 k1 d1 md mdd => ?_⟩
  refine seq1 ?_
  wide_line using [upd_same]
  refine ⟨dr, mv, ds, rfl, d1, md, mdd, fun sv ss H2 k2 d2 z l0 l5 hs => ?_⟩
  have md2 := md.kt (keep_ktf k2 d1)
  refine take_on d2 (by decide) fun u H3 u0 u1 k3 d3 => ?_
  have md3 := md2.kt (keep_ktf k3 d2)
  have z3 := z.kt (keep_kt k3 d2)
  obtain ⟨sa, sx, _, _, rfl, _, _⟩ := Tz.tuple_inv0 z3
  dsimp only
  refine ⟨mv, sa, 4 + u, ds, ss, rfl, md3, mdd, z3, l5, hs, fun H4 s4 => ?_, fun H4 ra tr st wt xs s4 hra htr xl hrow => ?_⟩
  · refine seq1 ?_
    wide_line using [upd_same]
    exact kq _
  · have d4 := d3.same s4
    clear md md2 md3 z z3 hs mdd k1 k2 k3 d1 d2 hd s4 d3
    refine seq1 ?_
    wide_line using [upd_same]
    refine seq1 ?_
    wide_line using [upd_same]
    refine ⟨by rw [sizeLine_eq]; decide, fun wl hwl => ?_⟩
    have t1 := same_new (o := .lst [V.str "hit", V.str "n", V.str ""]) hwl
    have u1 : upd H4 wl (.lst [V.str "hit", V.str "n", V.str ""]) wl = some (.lst [V.str "hit", V.str "n", V.str ""]) := upd_same
    have nwd : wl ≠ dr := (d4.ne hwl).symm
    have d5 := d4.same t1
    have hra5 := t1 _ _ hra
    have htr5 := t1 _ _ htr
    have hrow5 := fun v hv => (hrow v hv).kt (.same t1)
    generalize upd H4 wl (.lst [V.str "hit", V.str "n", V.str ""]) = H5 at *
    refine forL_to (.of u1) (fun i σ H' => ∃ z5 z6 z7 z8 z9 z10, σ = [some (.ref dr), some (.int p), some (.int w), some mv, some (.ref ra), z5, z6, z7, z8, z9, z10] ∧ KT H5 H' ∧ H' wl = some (.lst [V.str "hit", V.str "n", V.str ""]) ∧ DrawsAt H' dr)
      (fun σ H' => True) ⟨none, none, none, none, none, none, rfl, KT.refl _, u1, d5⟩ ?_ ?_ ?_ ?_
    · rintro i σ H' _ ⟨_, _, _, _, _, _, rfl, _, h, _⟩
      exact .of h
    · intros
      trivial
    · rintro σ H' _
      wp_walk using upd_same
      exact kq _
    · rintro N nx hnx i x σ H6 hx hN ⟨z5, z6, z7, z8, z9, z10, rfl, kt6, hw6, d6⟩
      obtain ⟨word, rfl, wok⟩ := word_at hx
      have hra6 := kt6 _ _ hra5
      have htr6 := kt6 _ _ htr5
      have hrow6 := fun v hv => (hrow5 v hv).kt kt6
      refine seq1 ?_
      wide_line using [hra6]
      refine ⟨tr, word, xs, ds.length, rfl, wok, htr6, xl, hrow6, fun q H7 ys s7 hq yl hys => ?_⟩
      obtain ⟨ns, npr⟩ := num_list hys
      have nlen := paired_len npr
      dsimp only
      refine lcT_core hq (by omega) (fun _ => true) (fun x y H => ∃ (a k : Addr) (n : Int), x = V.ref a ∧ H a = some (.tup [.ref k, .int n]) ∧ y = .int n) (fun _ _ _ _ kt ⟨a, k, n, e1, h, e2⟩ => ⟨a, k, n, e1, kt _ _ h, e2⟩) (fun x hx H8 s8 k1 k0 hk1 _ => ?_) fun nl H8 zs hnl s8 hnls zpr => ?_
      · obtain ⟨a, k, n, rfl, ha⟩ := hys x hx
        unfold LcTurn
        wide_line using [s8 _ _ ha]
        exact hk1 rfl _ _ (Same.refl _) ⟨a, k, n, rfl, s8 _ _ ha, rfl⟩
      rw [List.filter_eq_self.mpr (fun _ _ => rfl)] at zpr
      have nln : nl ≠ dr := ((d6.same s7).ne hnl).symm
      have ez := nums_of zpr (Paired.mapP npr fun _ _ ⟨a, k, e, h⟩ => ⟨a, k, e, s8 _ _ h⟩)
      subst ez
      have s68 := s7.trans s8
      have hw8 := s68 _ _ hw6
      have d8 := d6.same s68
      have kt8 := kt6.trans (.same s68)
      refine seq1 ?_
      wide_line using [upd_same]
      intro r dx hr hdx hne
      have nrn : nl ≠ r := ne_of_none hnls hr
      have ndx : nl ≠ dx := ne_of_none hnls hdx
      have sM : Same H8 (upd (upd H8 dx (.own r)) r (.ins A.Ranked dx [])) := same_mut (same_new hdx) hr
      have rM : upd (upd H8 dx (.own r)) r (.ins A.Ranked dx []) r = some (.ins A.Ranked dx []) := upd_same
      have nrd : dr ≠ r := d8.ne hr
      have nrw : wl ≠ r := ne_of_none hw8 hr
      have hnl9 := sM _ _ hnls
      have hw9 := sM _ _ hw8
      have d9 := d8.same sM
      have kt9 := kt8.trans (.same sM)
      generalize upd (upd H8 dx (.own r)) r (.ins A.Ranked dx []) = H9 at *
      refine ⟨r, dx, _, _, rfl, rM, .inr (.inr (.inl ⟨_, rfl⟩)), .inr (.inr (.inl ⟨_, rfl⟩)), fun hb => absurd ⟨p, w, rfl, rfl, hpw⟩ hb, fun p' w' e1 e2 _ H10 k10 rk10 => ⟨rfl, ?_⟩⟩
      cases e1
      cases e2
      have hnl10 := k10 _ _ hnl9 (by simpa using nrn)
      have hw10 := k10 _ _ hw9 (by simpa using nrw)
      have d10 := d9.keep k10 (by simpa using nrd)
      have kt10 : KT H9 H10 := fun a ys e => k10 a _ e (by
        simp only [List.mem_singleton]
        rintro rfl
        rw [rM] at e
        cases e)
      have kt10 := kt9.trans kt10
      simp only [hnl10, seqAt_lst]
      intro rl hrl
      have s11 := same_new (o := .lst (ns.map V.int)) hrl
      have rl11 : upd H10 rl (.lst (ns.map V.int)) rl = some (.lst (ns.map V.int)) := upd_same
      have nrl : nl ≠ rl := ne_of_none hnl10 hrl
      have nwl : wl ≠ rl := ne_of_none hw10 hrl
      have ndl : dr ≠ rl := d10.ne hrl
      have rk11 := rk10.same s11
      have hnl11 := s11 _ _ hnl10
      have hw11 := s11 _ _ hw10
      have d11 := d10.same s11
      have kt11 := kt10.trans (.same s11)
      have nrr : r ≠ rl := by
        obtain ⟨_, _, ⟨_, _, _, hr', _⟩, _⟩ := rk10
        exact ne_of_none hr' hrl
      generalize upd H10 rl (.lst (ns.map V.int)) = H11 at *
      refine seq1 ?_
      refine while_to (fun m σ H' => ∃ (rs ms : List Int), σ = [some (.ref dr), some (.int p), some (.int w), some mv, some (.ref ra), some (.str word), some (.ref nl), some (.ref r), some (.ref rl), z9, z10] ∧ Keep [dr, r, rl] H11 H' ∧ DrawsAt H' dr ∧ RkAt A H' r p w ms ∧ H' rl = some (.lst (rs.map V.int)) ∧ (ms ++ rs).Perm ns ∧ m = rs.length)
        (fun σ H' => ∃ (ms : List Int), σ = [some (.ref dr), some (.int p), some (.int w), some mv, some (.ref ra), some (.str word), some (.ref nl), some (.ref r), some (.ref rl), z9, z10] ∧ Keep [dr, r, rl] H11 H' ∧ DrawsAt H' dr ∧ RkAt A H' r p w ms ∧ ms.Perm ns)
        ns.length ⟨ns, [], rfl, .refl, d11, rk11, rl11, List.Perm.refl _, rfl⟩ ?_ ?_
      · rintro σ H12 ⟨ms, rfl, k12, d12, rk12, pm12⟩
        have hnl12 := k12 _ _ hnl11 (by simp [nln, nrn, nrl])
        have hw12 := k12 _ _ hw11 (by simp [nwd, nrw, nwl])
        have kt12 : KT H11 H12 := by
          obtain ⟨_, _, ⟨_, _, _, hr', _⟩, _⟩ := rk11
          exact keep3_kt k12 d11 hr' rl11
        wide_line using [upd_same]
        refine ⟨r, nl, p, w, ms, ns, rfl, hpw, rk12, pm12, hnl12, by omega, fun H13 s13 => ?_⟩
        dsimp only
        rw [if_neg (by decide)]
        exact hN _ _ ⟨_, _, _, _, _, _, rfl, (kt11.trans kt12).trans (.same s13), s13 _ _ hw12, d12.same s13⟩
      · rintro nx hnx m σ H12 ⟨rs, ms, rfl, k12, d12, rk12, hrl12, pm12, rfl⟩
        have pl := pm12.length_eq
        rw [List.length_append] at pl
        wide_line using [upd_same]
        refine ⟨Nat.zero_le _, fun b hb => ?_⟩
        have sB := same_new (o := .lst []) hb
        refine neD_nil (n := 0) (sB _ _ hrl12) da_ints (by decide) upd_same ?_
        dsimp only
        have k13 := k12.trans (.same sB)
        have d13 := d12.same sB
        have rk13 := rk12.same sB
        have hrl13 := sB _ _ hrl12
        generalize upd H12 b (.lst []) = H13 at *
        by_cases e : rs = []
        · rw [if_neg (by simp [e])]
          subst e
          exact hnx _ _ ⟨ms, rfl, k13, d13, rk13, by simpa using pm12⟩
        · rw [if_pos (by simpa using e)]
          refine ⟨_, fun _ _ h => h, ?_⟩
          have el : 0 < rs.length := List.length_pos_iff.mpr e
          obtain ⟨L, G, ⟨dx', lv, hv, hr', aL, aG, dL, dG⟩, P', due'⟩ := id rk13
          wide_line using [hr', hrl13]
          rw [List.length_map]
          refine take_on d13 (by omega) fun j H14 j0 j1 k14 d14 => ?_
          have hrl14 := k14 _ _ hrl13 (by simpa using ndl.symm)
          obtain ⟨jn, rfl⟩ := Int.eq_ofNat_of_zero_le j0
          have hjn : jn < rs.length := by omega
          have hat : (rs.map V.int)[jn]? = some (.int rs[jn]) := by rw [List.getElem?_map, List.getElem?_eq_getElem hjn]; rfl
          simp only [hrl14, Int.toNat_natCast, hat]
          refine ⟨by omega, by omega, ?_⟩
          have hr14 := k14 _ _ hr' (by simpa using nrd.symm)
          have rk14 := rk13.kt (keep_kt k14 d13) (hr14.trans hr'.symm)
          have kt15 : KT H14 (upd H14 rl (.lst ((rs.map V.int).eraseIdx jn))) := KT.mut (by rw [hrl14]; rfl)
          have rk15 := rk14.kt kt15 (upd_ne nrr)
          have k15 : Keep [dr, r, rl] H11 (upd H14 rl (.lst ((rs.map V.int).eraseIdx jn))) := (k13.trans (k14.mono (by simp))).up (by simp)
          have d15 : DrawsAt (upd H14 rl (.lst ((rs.map V.int).eraseIdx jn))) dr := let ⟨q, e⟩ := d14; ⟨q, by rw [upd_ne ndl]; exact e⟩
          have rl15 : upd H14 rl (.lst ((rs.map V.int).eraseIdx jn)) rl = some (.lst ((rs.eraseIdx jn).map V.int)) := by rw [upd_same, eraseIdx_mapI]
          generalize upd H14 rl (.lst ((rs.map V.int).eraseIdx jn)) = H15 at *
          have le := List.length_eraseIdx_of_lt hjn
          refine ⟨r, p, w, rs[jn], ms, rfl, hpw, rk15, by omega, fun H16 k16 rk16 => ⟨(rs.eraseIdx jn).length, by omega, rs.eraseIdx jn, rs[jn] :: ms, k15.trans (k16.mono (by simp)), d15.keep k16 (by simpa using nrd), rk16, k16 _ _ rl15 (by simpa using nrr.symm), ?_, rfl⟩⟩
          refine List.Perm.trans ?_ pm12
          exact (List.perm_middle.symm).trans (List.Perm.append_left _ (eraseIdx_permI rs jn hjn))
theorem inV_ints {x : Int} : ∀ {ns : List Int}, inV (.int x) (ns.map V.int) = decide (x ∈ ns)
  | [] => by simp [inV]
  | n :: ns => by
    have ih := inV_ints (x := x) (ns := ns)
    unfold inV at ih ⊢
    rw [List.map_cons, List.any_cons, ih]
    by_cases h : n = x
    · subst h
      simp [eqV]
    · have h2 : ¬ x = n := fun e => h e.symm
      simp [eqV, h, h2]
theorem flat_ints {ns : List Int} : (ns.map V.int).all flatV = true := by
  rw [List.all_eq_true]
  intro v hv
  obtain ⟨i, _, rfl⟩ := List.mem_map.mp hv
  rfl
theorem rem_ints {K : PySem.W.Frag} {H : Hp} {Q : VK} {a : Addr} {ns : List Int} {y : Int} (ha : H a = some (.lst (ns.map V.int))) (hy : y ∈ ns) (q : ∀ ns' : List Int, (y :: ns').Perm ns → Q .non (upd H a (.lst (ns'.map V.int)))) : rRemD K (.ref a) [.int y] H Q := by
  have dpr : Paired (Da H 0) (ns.map V.int) (ns.map PyData.int) := da_ints
  obtain ⟨ly1, ly2⟩ := Da.lays (fun q => Da.lay q) dpr
  have shl : SeqAt.shaped (.list (ns.map PyData.int)) = true := by
    show ((PyData.list (ns.map PyData.int)).canLay0 && decide ((PyData.list (ns.map PyData.int)).depth ≤ 64)) = true
    have c1 : (PyData.list (ns.map PyData.int)).canLay0 = true := by simpa [PyData.canLay0] using ly1
    have c2 : (PyData.list (ns.map PyData.int)).depth ≤ 64 := by simp only [PyData.depth]; omega
    rw [c1, decide_eq_true c2]
    rfl
  obtain ⟨i, hi⟩ := List.mem_iff_getElem?.mp hy
  obtain ⟨j, ⟨z, hz, hze⟩, hj⟩ := exists_first (P := fun n => ∃ z, (ns.map PyData.int)[n]? = some z ∧ PyData.eqv z (.int y) = true) ⟨i, .int y, by rw [List.getElem?_map, hi]; rfl, by simp [PyData.eqv]⟩
  have hjl : j < ns.length := by have := (List.getElem?_eq_some_iff.mp hz).1; simpa using this
  have ez : z = .int ns[j] := by
    rw [List.getElem?_map, List.getElem?_eq_getElem hjl] at hz
    exact (Option.some.inj hz).symm
  have ey : ns[j] = y := by
    rw [ez] at hze
    simpa [PyData.eqv] using hze
  refine ⟨a, .int y, .int y, ns.map V.int, ns.map PyData.int, j, z, rfl, rfl, ha, dpAll (Paired.mapP dpr fun _ _ z => z.dp), .int _, shl, by rfl, hz, hze, fun m z' hm hz' => ?_, ?_⟩
  · cases e : PyData.eqv z' (.int y) with
    | false => rfl
    | true => exact absurd ⟨z', hz', e⟩ (hj m hm)
  · rw [eraseIdx_mapI]
    refine q _ ?_
    have := eraseIdx_permI ns j hjl
    rw [ey] at this
    exact this
theorem r_law {K : PySem.W.Frag} {A : Ads} {E : XK} {vs : List V} {H : Hp} {Q : VK} (h : sp_law K vs H Q E) : t_law K A E { nx := fun _ H' => Q .non H', rt := Q } (L2.start ["script", "draws", "part", "whole_one", "ranked", "numbers", "wide", "turn", "number", "odd", "pair"] vs) H := by
  obtain ⟨a, ns0, rfl, hs, hl, kq⟩ := h
  unfold t_law
  refine seq1 ?_
  wide_line using [upd_same]
  refine ⟨a, ns0, rfl, hs, hl, fun d H1 ms hd S1 hd1 => ?_⟩
  have d1 : DrawsAt H1 d := ⟨ms, hd1⟩
  clear hs S1
  refine seq1 ?_
  wide_line using [upd_same]
  refine ⟨by rw [sizeLine_eq]; decide, fun p1 hp1 => ?_⟩
  have sp1 := same_new (o := .tup [(V.int 1), (V.int 2)]) hp1
  have qp1 : upd H1 p1 (.tup [(V.int 1), (V.int 2)]) p1 = _ := upd_same
  generalize upd H1 p1 _ = G0 at *
  refine ⟨by rw [sizeLine_eq]; decide, fun p2 hp2 => ?_⟩
  have sp2 := same_new (o := .tup [(V.int 0), (V.int 1)]) hp2
  have qp2 : upd G0 p2 (.tup [(V.int 0), (V.int 1)]) p2 = _ := upd_same
  have qp1 := sp2 _ _ qp1
  generalize upd G0 p2 _ = G1 at *
  refine ⟨by rw [sizeLine_eq]; decide, fun p3 hp3 => ?_⟩
  have sp3 := same_new (o := .tup [(V.int 1), (V.int 1)]) hp3
  have qp3 : upd G1 p3 (.tup [(V.int 1), (V.int 1)]) p3 = _ := upd_same
  have qp1 := sp3 _ _ qp1
  have qp2 := sp3 _ _ qp2
  generalize upd G1 p3 _ = G2 at *
  refine ⟨by rw [sizeLine_eq]; decide, fun p4 hp4 => ?_⟩
  have sp4 := same_new (o := .tup [(V.int 9), (V.int 10)]) hp4
  have qp4 : upd G2 p4 (.tup [(V.int 9), (V.int 10)]) p4 = _ := upd_same
  have qp1 := sp4 _ _ qp1
  have qp2 := sp4 _ _ qp2
  have qp3 := sp4 _ _ qp3
  generalize upd G2 p4 _ = G3 at *
  refine ⟨by rw [sizeLine_eq]; decide, fun p5 hp5 => ?_⟩
  have sp5 := same_new (o := .tup [(V.int 1), (V.int 1000)]) hp5
  have qp5 : upd G3 p5 (.tup [(V.int 1), (V.int 1000)]) p5 = _ := upd_same
  have qp1 := sp5 _ _ qp1
  have qp2 := sp5 _ _ qp2
  have qp3 := sp5 _ _ qp3
  have qp4 := sp5 _ _ qp4
  generalize upd G3 p5 _ = G4 at *
  refine ⟨by rw [sizeLine_eq]; decide, fun p6 hp6 => ?_⟩
  have sp6 := same_new (o := .tup [(V.int 333), (V.int 1000)]) hp6
  have qp6 : upd G4 p6 (.tup [(V.int 333), (V.int 1000)]) p6 = _ := upd_same
  have qp1 := sp6 _ _ qp1
  have qp2 := sp6 _ _ qp2
  have qp3 := sp6 _ _ qp3
  have qp4 := sp6 _ _ qp4
  have qp5 := sp6 _ _ qp5
  generalize upd G4 p6 _ = G5 at *
  refine ⟨by rw [sizeLine_eq]; decide, fun p7 hp7 => ?_⟩
  have sp7 := same_new (o := .tup [(V.int 0), (V.int 7)]) hp7
  have qp7 : upd G5 p7 (.tup [(V.int 0), (V.int 7)]) p7 = _ := upd_same
  have qp1 := sp7 _ _ qp1
  have qp2 := sp7 _ _ qp2
  have qp3 := sp7 _ _ qp3
  have qp4 := sp7 _ _ qp4
  have qp5 := sp7 _ _ qp5
  have qp6 := sp7 _ _ qp6
  generalize upd G5 p7 _ = G6 at *
  refine ⟨by rw [sizeLine_eq]; decide, fun pl hpl => ?_⟩
  have spl := same_new (o := .lst [V.ref p1, V.ref p2, V.ref p3, V.ref p4, V.ref p5, V.ref p6, V.ref p7]) hpl
  have qpl : upd G6 pl (.lst [V.ref p1, V.ref p2, V.ref p3, V.ref p4, V.ref p5, V.ref p6, V.ref p7]) pl = _ := upd_same
  have qp1 := spl _ _ qp1
  have qp2 := spl _ _ qp2
  have qp3 := spl _ _ qp3
  have qp4 := spl _ _ qp4
  have qp5 := spl _ _ qp5
  have qp6 := spl _ _ qp6
  have qp7 := spl _ _ qp7
  have nlp : pl ≠ d := ((d1.same (sp1.trans (sp2.trans (sp3.trans (sp4.trans (sp5.trans (sp6.trans (sp7)))))))).ne hpl).symm
  have sAllp := sp1.trans (sp2.trans (sp3.trans (sp4.trans (sp5.trans (sp6.trans (sp7.trans (spl)))))))
  generalize upd G6 pl _ = GL at *
  clear sp1 hp1 sp2 hp2 sp3 hp3 sp4 hp4 sp5 hp5 sp6 hp6 sp7 hp7 spl
  have dA := d1.same sAllp
  refine take_on dA (by decide) fun j H2 j0 j1 k2 d2 => ?_
  have kt2 := keep_kt k2 dA
  have qp1 := kt2 _ _ qp1
  have qp2 := kt2 _ _ qp2
  have qp3 := kt2 _ _ qp3
  have qp4 := kt2 _ _ qp4
  have qp5 := kt2 _ _ qp5
  have qp6 := kt2 _ _ qp6
  have qp7 := kt2 _ _ qp7
  have qpl := k2 _ _ qpl (by simpa using nlp)
  obtain ⟨jn, rfl⟩ := Int.eq_ofNat_of_zero_le j0
  have pick : ∃ t p w, [V.ref p1, V.ref p2, V.ref p3, V.ref p4, V.ref p5, V.ref p6, V.ref p7][jn]? = some (V.ref t) ∧ H2 t = some (.tup [V.int p, V.int w]) ∧ PW p w := by
    have : jn = 0 ∨ jn = 1 ∨ jn = 2 ∨ jn = 3 ∨ jn = 4 ∨ jn = 5 ∨ jn = 6 := by omega
    rcases this with rfl | rfl | rfl | rfl | rfl | rfl | rfl
    · exact ⟨p1, 1, 2, rfl, qp1, by decide, by decide, by decide, by decide⟩
    · exact ⟨p2, 0, 1, rfl, qp2, by decide, by decide, by decide, by decide⟩
    · exact ⟨p3, 1, 1, rfl, qp3, by decide, by decide, by decide, by decide⟩
    · exact ⟨p4, 9, 10, rfl, qp4, by decide, by decide, by decide, by decide⟩
    · exact ⟨p5, 1, 1000, rfl, qp5, by decide, by decide, by decide, by decide⟩
    · exact ⟨p6, 333, 1000, rfl, qp6, by decide, by decide, by decide, by decide⟩
    · exact ⟨p7, 0, 7, rfl, qp7, by decide, by decide, by decide, by decide⟩
  obtain ⟨t, p, w, ht, hT, hpw⟩ := pick
  clear qp1 qp2 qp3 qp4 qp5 qp6 qp7
  simp only [qpl, seqAt_lst]
  refine atK_nat ht ?_
  simp only [hT, tupAt_tup]
  refine ⟨rfl, seq1 ?_⟩
  wide_line using [upd_same]
  clear hT ht qpl dA d1 sAllp kt2 k2 nlp j0 j1
  intro r dx hr hdx hne
  have ndr : d ≠ r := d2.ne hr
  have sM : Same H2 (upd (upd H2 dx (.own r)) r (.ins A.Ranked dx [])) := same_mut (same_new hdx) hr
  have rM : upd (upd H2 dx (.own r)) r (.ins A.Ranked dx []) r = some (.ins A.Ranked dx []) := upd_same
  have d3 := d2.same sM
  generalize upd (upd H2 dx (.own r)) r (.ins A.Ranked dx []) = H3 at *
  refine ⟨r, dx, _, _, rfl, rM, .inr (.inr (.inl ⟨_, rfl⟩)), .inr (.inr (.inl ⟨_, rfl⟩)), fun hb => absurd ⟨p, w, rfl, rfl, hpw⟩ hb, fun p' w' e1 e2 _ H4 k4 rk4 => ⟨rfl, ?_⟩⟩
  cases e1
  cases e2
  have d4 := d3.keep k4 (by simpa using ndr)
  refine ⟨Nat.zero_le _, fun nl hnl => ?_⟩
  have s5 := same_new (o := .lst []) hnl
  have nl5 : upd H4 nl (.lst []) nl = some (.lst (([] : List Int).map V.int)) := upd_same
  have ndl : d ≠ nl := d4.ne hnl
  have rk5 := rk4.same s5
  have d5 := d4.same s5
  have nrl : r ≠ nl := by
    obtain ⟨_, _, ⟨_, _, _, hr', _⟩, _⟩ := rk4
    exact ne_of_none hr' hnl
  generalize upd H4 nl (.lst []) = H5 at *
  clear hr hdx hne sM rM d3 k4 rk4 d4 hnl s5 d2
  have rkd : ∀ {Ha Hb : Hp} {ms : List Int}, RkAt A Ha r p w ms → DrawsAt Ha d → Keep [d] Ha Hb → RkAt A Hb r p w ms := fun {Ha Hb ms} rk dd k => by
    have rk' := rk
    obtain ⟨_, _, ⟨_, _, _, hr', _⟩, _⟩ := rk'
    exact rk.kt (keep_kt k dd) ((k _ _ hr' (by simpa using ndr.symm)).trans hr'.symm)
  refine seq1 ?_
  wide_line using [upd_same]
  refine ⟨r, nl, p, w, [], [], rfl, hpw, rk5, List.Perm.refl _, nl5, by simp, fun H6 s6 => ?_⟩
  dsimp only
  rw [if_neg (by decide)]
  have nl6 := s6 _ _ nl5
  have rk6 := rk5.same s6
  have d6 := d5.same s6
  clear nl5 rk5 d5 s6
  refine seq1 ?_
  wide_line using [upd_same]
  refine ⟨by rw [sizeLine_eq]; decide, fun wl hwl => ?_⟩
  have s7 := same_new (o := .lst [V.int 3, V.int 20, V.int 1000000]) hwl
  have wl7 : upd H6 wl (.lst [V.int 3, V.int 20, V.int 1000000]) wl = _ := upd_same
  have ndw : wl ≠ d := (d6.ne hwl).symm
  have nl7 := s7 _ _ nl6
  have rk7 := rk6.same s7
  have d7 := d6.same s7
  generalize upd H6 wl (.lst [V.int 3, V.int 20, V.int 1000000]) = H7 at *
  refine take_on d7 (by decide) fun j H8 j0 j1 k8 d8 => ?_
  have wl8 := k8 _ _ wl7 (by simpa using ndw)
  have nl8 := k8 _ _ nl7 (by simpa using ndl.symm)
  have rk8 : RkAt A H8 r p w [] := by
    have rk7' := rk7
    obtain ⟨_, _, ⟨_, _, _, hr', _⟩, _⟩ := rk7'
    exact rk7.kt (keep_kt k8 d7) ((k8 _ _ hr' (by simpa using ndr.symm)).trans hr'.symm)
  obtain ⟨jn, rfl⟩ := Int.eq_ofNat_of_zero_le j0
  have pick : ∃ wd : Int, [V.int 3, V.int 20, V.int 1000000][jn]? = some (.int wd) ∧ 0 < wd := by
    have : jn = 0 ∨ jn = 1 ∨ jn = 2 := by omega
    rcases this with rfl | rfl | rfl
    · exact ⟨3, rfl, by decide⟩
    · exact ⟨20, rfl, by decide⟩
    · exact ⟨1000000, rfl, by decide⟩
  obtain ⟨wd, hwd, wd0⟩ := pick
  simp only [wl8, seqAt_lst]
  refine atK_nat hwd ?_
  clear wl8 wl7 hwd s7 hwl nl6 rk6 d6 nl7 rk7 k8 d7 ndw
  refine seq1 ?_
  wide_line using [upd_same]
  refine take_on d8 (by decide) fun turns H9 t0 t1 k9 d9 => ?_
  have nl9 := k9 _ _ nl8 (by simpa using ndl.symm)
  have rk9 : RkAt A H9 r p w [] := by
    have rk7' := rk8
    obtain ⟨_, _, ⟨_, _, _, hr', _⟩, _⟩ := rk7'
    exact rk8.kt (keep_kt k9 d8) ((k9 _ _ hr' (by simpa using ndr.symm)).trans hr'.symm)
  clear nl8 rk8 d8 k9
  refine ⟨⟨by omega, by omega⟩, ?_⟩
  refine forR_to (fun i σ H' => ∃ z7 z8 ns ms, σ = [some (.ref a), some (.ref d), some (.int p), some (.int w), some (.ref r), some (.ref nl), some (.int wd), z7, z8, none, none] ∧ DrawsAt H' d ∧ H' nl = some (.lst (ns.map V.int)) ∧ RkAt A H' r p w ms ∧ ms.Perm ns ∧ ns.length ≤ i)
    (fun σ H' => ∃ z7 z8 ns ms, σ = [some (.ref a), some (.ref d), some (.int p), some (.int w), some (.ref r), some (.ref nl), some (.int wd), z7, z8, none, none] ∧ DrawsAt H' d ∧ H' nl = some (.lst (ns.map V.int)) ∧ RkAt A H' r p w ms ∧ ms.Perm ns ∧ ns.length ≤ 50)
    ⟨none, none, [], [], rfl, d9, nl9, rk9, List.Perm.refl _, Nat.le_refl _⟩ ?_ ?_ ?_
  · rintro σ H' ⟨z7, z8, ns, ms, rfl, d', nl', rk', pm', len'⟩
    exact ⟨z7, z8, ns, ms, rfl, d', nl', rk', pm', by omega⟩
  · rintro σ H10 ⟨z7, z8, ns, ms, rfl, d10, nl10, rk10, pm10, len10⟩
    clear rk9 nl9 d9
    dsimp only
    refine seq1 ?_
    refine while_to (fun m σ H' => ∃ (z8 : Option V) (ns ms : List Int), σ = [some (.ref a), some (.ref d), some (.int p), some (.int w), some (.ref r), some (.ref nl), some (.int wd), z7, z8, none, none] ∧ DrawsAt H' d ∧ H' nl = some (.lst (ns.map V.int)) ∧ RkAt A H' r p w ms ∧ ms.Perm ns ∧ ns.length ≤ 50 ∧ m = ns.length)
      (fun σ H' => ∃ (z8 : Option V), σ = [some (.ref a), some (.ref d), some (.int p), some (.int w), some (.ref r), some (.ref nl), some (.int wd), z7, z8, none, none] ∧ DrawsAt H' d)
      _ ⟨z8, ns, ms, rfl, d10, nl10, rk10, pm10, len10, rfl⟩ ?_ ?_
    · rintro σ H20 ⟨z8, rfl, d20⟩
      clear d10 nl10 rk10 pm10 len10
      dsimp only
      refine seq1 ?_
      wide_line using [upd_same]
      refine ⟨by rw [sizeLine_eq]; decide, fun o1 ho1 => ?_⟩
      have so1 := same_new (o := .tup [(V.int 0), (V.int 0)]) ho1
      have qo1 : upd H20 o1 (.tup [(V.int 0), (V.int 0)]) o1 = _ := upd_same
      generalize upd H20 o1 _ = F0 at *
      refine ⟨by rw [sizeLine_eq]; decide, fun o2 ho2 => ?_⟩
      have so2 := same_new (o := .tup [(V.int 1), (V.int 0)]) ho2
      have qo2 : upd F0 o2 (.tup [(V.int 1), (V.int 0)]) o2 = _ := upd_same
      have qo1 := so2 _ _ qo1
      generalize upd F0 o2 _ = F1 at *
      refine ⟨by rw [sizeLine_eq]; decide, fun o3 ho3 => ?_⟩
      have so3 := same_new (o := .tup [(V.int 2), (V.int 1)]) ho3
      have qo3 : upd F1 o3 (.tup [(V.int 2), (V.int 1)]) o3 = _ := upd_same
      have qo1 := so3 _ _ qo1
      have qo2 := so3 _ _ qo2
      generalize upd F1 o3 _ = F2 at *
      refine ⟨by rw [sizeLine_eq]; decide, fun o4 ho4 => ?_⟩
      have so4 := same_new (o := .tup [(V.int (-1)), (V.int 2)]) ho4
      have qo4 : upd F2 o4 (.tup [(V.int (-1)), (V.int 2)]) o4 = _ := upd_same
      have qo1 := so4 _ _ qo1
      have qo2 := so4 _ _ qo2
      have qo3 := so4 _ _ qo3
      generalize upd F2 o4 _ = F3 at *
      refine ⟨by rw [sizeLine_eq]; decide, fun o5 ho5 => ?_⟩
      have so5 := same_new (o := .tup [(V.int 1), (V.int 1001)]) ho5
      have qo5 : upd F3 o5 (.tup [(V.int 1), (V.int 1001)]) o5 = _ := upd_same
      have qo1 := so5 _ _ qo1
      have qo2 := so5 _ _ qo2
      have qo3 := so5 _ _ qo3
      have qo4 := so5 _ _ qo4
      generalize upd F3 o5 _ = F4 at *
      refine ⟨by rw [sizeLine_eq]; decide, fun o6 ho6 => ?_⟩
      have so6 := same_new (o := .tup [V.non, (V.int 2)]) ho6
      have qo6 : upd F4 o6 (.tup [V.non, (V.int 2)]) o6 = _ := upd_same
      have qo1 := so6 _ _ qo1
      have qo2 := so6 _ _ qo2
      have qo3 := so6 _ _ qo3
      have qo4 := so6 _ _ qo4
      have qo5 := so6 _ _ qo5
      generalize upd F4 o6 _ = F5 at *
      refine ⟨by rw [sizeLine_eq]; decide, fun o7 ho7 => ?_⟩
      have so7 := same_new (o := .tup [(V.int 1), V.non]) ho7
      have qo7 : upd F5 o7 (.tup [(V.int 1), V.non]) o7 = _ := upd_same
      have qo1 := so7 _ _ qo1
      have qo2 := so7 _ _ qo2
      have qo3 := so7 _ _ qo3
      have qo4 := so7 _ _ qo4
      have qo5 := so7 _ _ qo5
      have qo6 := so7 _ _ qo6
      generalize upd F5 o7 _ = F6 at *
      refine ⟨by rw [sizeLine_eq]; decide, fun o8 ho8 => ?_⟩
      have so8 := same_new (o := .tup [(V.bl true), (V.int 2)]) ho8
      have qo8 : upd F6 o8 (.tup [(V.bl true), (V.int 2)]) o8 = _ := upd_same
      have qo1 := so8 _ _ qo1
      have qo2 := so8 _ _ qo2
      have qo3 := so8 _ _ qo3
      have qo4 := so8 _ _ qo4
      have qo5 := so8 _ _ qo5
      have qo6 := so8 _ _ qo6
      have qo7 := so8 _ _ qo7
      generalize upd F6 o8 _ = F7 at *
      refine ⟨by rw [sizeLine_eq]; decide, fun o9 ho9 => ?_⟩
      have so9 := same_new (o := .tup [(V.int 0), (V.bl true)]) ho9
      have qo9 : upd F7 o9 (.tup [(V.int 0), (V.bl true)]) o9 = _ := upd_same
      have qo1 := so9 _ _ qo1
      have qo2 := so9 _ _ qo2
      have qo3 := so9 _ _ qo3
      have qo4 := so9 _ _ qo4
      have qo5 := so9 _ _ qo5
      have qo6 := so9 _ _ qo6
      have qo7 := so9 _ _ qo7
      have qo8 := so9 _ _ qo8
      generalize upd F7 o9 _ = F8 at *
      refine ⟨by rw [sizeLine_eq]; decide, fun o10 ho10 => ?_⟩
      have so10 := same_new (o := .tup [(V.str "1"), (V.int 2)]) ho10
      have qo10 : upd F8 o10 (.tup [(V.str "1"), (V.int 2)]) o10 = _ := upd_same
      have qo1 := so10 _ _ qo1
      have qo2 := so10 _ _ qo2
      have qo3 := so10 _ _ qo3
      have qo4 := so10 _ _ qo4
      have qo5 := so10 _ _ qo5
      have qo6 := so10 _ _ qo6
      have qo7 := so10 _ _ qo7
      have qo8 := so10 _ _ qo8
      have qo9 := so10 _ _ qo9
      generalize upd F8 o10 _ = F9 at *
      refine ⟨by rw [sizeLine_eq]; decide, fun ol hol => ?_⟩
      have sol := same_new (o := .lst [V.ref o1, V.ref o2, V.ref o3, V.ref o4, V.ref o5, V.ref o6, V.ref o7, V.ref o8, V.ref o9, V.ref o10]) hol
      have qol : upd F9 ol (.lst [V.ref o1, V.ref o2, V.ref o3, V.ref o4, V.ref o5, V.ref o6, V.ref o7, V.ref o8, V.ref o9, V.ref o10]) ol = _ := upd_same
      have qo1 := sol _ _ qo1
      have qo2 := sol _ _ qo2
      have qo3 := sol _ _ qo3
      have qo4 := sol _ _ qo4
      have qo5 := sol _ _ qo5
      have qo6 := sol _ _ qo6
      have qo7 := sol _ _ qo7
      have qo8 := sol _ _ qo8
      have qo9 := sol _ _ qo9
      have qo10 := sol _ _ qo10
      have sAllo := so1.trans (so2.trans (so3.trans (so4.trans (so5.trans (so6.trans (so7.trans (so8.trans (so9.trans (so10.trans (sol))))))))))
      generalize upd F9 ol _ = FL at *
      clear so1 ho1 so2 ho2 so3 ho3 so4 ho4 so5 ho5 so6 ho6 so7 ho7 so8 ho8 so9 ho9 so10 ho10 sol
      have odds : ∀ y ∈ [V.ref o1, V.ref o2, V.ref o3, V.ref o4, V.ref o5, V.ref o6, V.ref o7, V.ref o8, V.ref o9, V.ref o10], ∃ (t : Addr) (v1 v2 : V), y = .ref t ∧ FL t = some (.tup [v1, v2]) ∧ ScalV v1 ∧ ScalV v2 ∧ ¬ GoodPW v1 v2 := by
        intro y hy
        simp only [List.mem_cons, List.not_mem_nil, or_false] at hy
        rcases hy with rfl | rfl | rfl | rfl | rfl | rfl | rfl | rfl | rfl | rfl
        · refine ⟨o1, _, _, rfl, qo1, by simp [ScalV], by simp [ScalV], ?_⟩
          rintro ⟨p, w, e1, e2, w0, w1, p0, pw⟩
          first | (cases e1; done) | (cases e2; done) | (cases e1; cases e2; done) | (cases e1; cases e2; omega)
        · refine ⟨o2, _, _, rfl, qo2, by simp [ScalV], by simp [ScalV], ?_⟩
          rintro ⟨p, w, e1, e2, w0, w1, p0, pw⟩
          first | (cases e1; done) | (cases e2; done) | (cases e1; cases e2; done) | (cases e1; cases e2; omega)
        · refine ⟨o3, _, _, rfl, qo3, by simp [ScalV], by simp [ScalV], ?_⟩
          rintro ⟨p, w, e1, e2, w0, w1, p0, pw⟩
          first | (cases e1; done) | (cases e2; done) | (cases e1; cases e2; done) | (cases e1; cases e2; omega)
        · refine ⟨o4, _, _, rfl, qo4, by simp [ScalV], by simp [ScalV], ?_⟩
          rintro ⟨p, w, e1, e2, w0, w1, p0, pw⟩
          first | (cases e1; done) | (cases e2; done) | (cases e1; cases e2; done) | (cases e1; cases e2; omega)
        · refine ⟨o5, _, _, rfl, qo5, by simp [ScalV], by simp [ScalV], ?_⟩
          rintro ⟨p, w, e1, e2, w0, w1, p0, pw⟩
          first | (cases e1; done) | (cases e2; done) | (cases e1; cases e2; done) | (cases e1; cases e2; omega)
        · refine ⟨o6, _, _, rfl, qo6, by simp [ScalV], by simp [ScalV], ?_⟩
          rintro ⟨p, w, e1, e2, w0, w1, p0, pw⟩
          first | (cases e1; done) | (cases e2; done) | (cases e1; cases e2; done) | (cases e1; cases e2; omega)
        · refine ⟨o7, _, _, rfl, qo7, by simp [ScalV], by simp [ScalV], ?_⟩
          rintro ⟨p, w, e1, e2, w0, w1, p0, pw⟩
          first | (cases e1; done) | (cases e2; done) | (cases e1; cases e2; done) | (cases e1; cases e2; omega)
        · refine ⟨o8, _, _, rfl, qo8, by simp [ScalV], by simp [ScalV], ?_⟩
          rintro ⟨p, w, e1, e2, w0, w1, p0, pw⟩
          first | (cases e1; done) | (cases e2; done) | (cases e1; cases e2; done) | (cases e1; cases e2; omega)
        · refine ⟨o9, _, _, rfl, qo9, by simp [ScalV], by simp [ScalV], ?_⟩
          rintro ⟨p, w, e1, e2, w0, w1, p0, pw⟩
          first | (cases e1; done) | (cases e2; done) | (cases e1; cases e2; done) | (cases e1; cases e2; omega)
        · refine ⟨o10, _, _, rfl, qo10, by simp [ScalV], by simp [ScalV], ?_⟩
          rintro ⟨p, w, e1, e2, w0, w1, p0, pw⟩
          first | (cases e1; done) | (cases e2; done) | (cases e1; cases e2; done) | (cases e1; cases e2; omega)
      clear qo1 qo2 qo3 qo4 qo5 qo6 qo7 qo8 qo9 qo10
      have dF := d20.same sAllo
      try (wide_line using [upd_same])
      refine lcL_core (.of qol) (by simp) (fun _ => false) (fun _ _ _ => True) (fun _ _ _ _ _ h => h) (fun y hy H21 s21 k1 k0 _ hk0 => ?_) fun D H21 ys hD s21 hDs pr => ?_
      · obtain ⟨t, v1, v2, rfl, ht, sv1, sv2, bad⟩ := odds y hy
        unfold LcTurn
        wide_line using [upd_same]
        refine .inr (.inr ⟨t, v1, v2, rfl, s21 _ _ ht, sv1, sv2, bad, fun H22 s22 => ?_⟩)
        dsimp only
        simp only [if_true, Bool.not_true, Bool.false_eq_true, if_false]
        exact hk0 rfl _ s22
      · have ey : ys = [] := by
          have := paired_len pr
          simpa using this.symm
        subst ey
        have d21 := dF.same s21
        refine ⟨Nat.zero_le _, fun b hb => ?_⟩
        have sB := same_new (o := .lst []) hb
        refine eqD_nil (n := 0) (sB _ _ hDs) .nil (by decide) upd_same ?_
        simp only [decide_true]
        exact ⟨d, p, w, rfl, hpw, d21.same sB, fun H' => kq H'⟩
    · rintro nx hnx m σ H20 ⟨z8, ns, ms, rfl, d20, nl20, rk20, pm20, len20, rfl⟩
      clear d10 nl10 rk10 pm10 len10
      wide_line using [upd_same]
      refine ⟨Nat.zero_le _, fun b hb => ?_⟩
      have sB := same_new (o := .lst []) hb
      refine neD_nil (n := 0) (sB _ _ nl20) da_ints (by decide) upd_same ?_
      dsimp only
      have d21 := d20.same sB
      have nl21 := sB _ _ nl20
      have rk21 := rk20.same sB
      generalize upd H20 b (.lst []) = H21 at *
      by_cases e : ns = []
      · rw [if_neg (by simp [e])]
        exact hnx _ _ ⟨_, rfl, d21⟩
      · rw [if_pos (by simpa using e)]
        refine ⟨_, fun _ _ h => h, ?_⟩
        have el : 0 < ns.length := List.length_pos_iff.mpr e
        refine seq1 ?_
        wide_line using [nl21]
        rw [List.length_map]
        refine take_on d21 (by omega) fun j H22 j0 j1 k22 d22 => ?_
        have nl22 := k22 _ _ nl21 (by simpa using ndl.symm)
        have rk22 := rkd rk21 d21 k22
        obtain ⟨jn, rfl⟩ := Int.eq_ofNat_of_zero_le j0
        have hjn : jn < ns.length := by omega
        have hat : (ns.map V.int)[jn]? = some (.int ns[jn]) := by rw [List.getElem?_map, List.getElem?_eq_getElem hjn]; rfl
        simp only [nl22, Int.toNat_natCast, hat]
        refine ⟨by omega, by omega, ?_⟩
        have kt : KT H22 (upd H22 nl (.lst ((ns.map V.int).eraseIdx jn))) := KT.mut (by rw [nl22]; rfl)
        have rk23 := rk22.kt kt (upd_ne nrl)
        have d23 : DrawsAt (upd H22 nl (.lst ((ns.map V.int).eraseIdx jn))) d := let ⟨q, e⟩ := d22; ⟨q, by rw [upd_ne ndl]; exact e⟩
        have nl23 : upd H22 nl (.lst ((ns.map V.int).eraseIdx jn)) nl = some (.lst ((ns.eraseIdx jn).map V.int)) := by rw [upd_same, eraseIdx_mapI]
        generalize upd H22 nl (.lst ((ns.map V.int).eraseIdx jn)) = H23 at *
        have le := List.length_eraseIdx_of_lt hjn
        have pe := eraseIdx_permI ns jn hjn
        have hm : ns[jn] ∈ ms := pm20.mem_iff.mpr (List.getElem_mem hjn)
        have lm := pm20.length_eq
        refine seq1 ?_
        obtain ⟨_, _, ⟨_, _, _, hr23, _⟩, _⟩ := id rk23
        wide_line using [hr23]
        refine ⟨r, p, w, ns[jn], ms, rfl, hpw, rk23, by omega, fun hn => absurd hm hn, fun _ H24 k24 rk24 => ?_⟩
        have nl24 := k24 _ _ nl23 (by simpa using nrl.symm)
        have d24 := d23.keep k24 (by simpa using ndr)
        have pm24 : (ms.erase ns[jn]).Perm (ns.eraseIdx jn) := (pm20.erase _).trans (perm_erase pe).symm
        try (wide_line using [upd_same])
        refine ⟨r, nl, p, w, ms.erase ns[jn], ns.eraseIdx jn, rfl, hpw, rk24, pm24, nl24, by omega, fun H25 s25 => ?_⟩
        dsimp only
        rw [if_neg (by decide)]
        exact ⟨(ns.eraseIdx jn).length, by omega, _, ns.eraseIdx jn, ms.erase ns[jn], rfl, d24.same s25, s25 _ _ nl24, rk24.same s25, pm24, by omega, rfl⟩
  · rintro N nx hnx i σ H10 hi hN ⟨z7, z8, ns, ms, rfl, d10, nl10, rk10, pm10, len10⟩
    clear rk9 nl9 d9
    refine seq1 ?_
    wide_line using [upd_same]
    refine take_on d10 wd0 fun x0 H11 x00 x01 k11 d11 => ?_
    have nl11 := k11 _ _ nl10 (by simpa using ndl.symm)
    have rk11 := rkd rk10 d10 k11
    refine ⟨⟨by decide, by decide⟩, ?_⟩
    dsimp only
    generalize x0 - wd / 3 = x
    clear nl10 rk10 k11 d10
    have right : ∀ {Hx : Hp} {ns ms : List Int} {x7 x8 : Option V}, DrawsAt Hx d → Hx nl = some (.lst (ns.map V.int)) → RkAt A Hx r p w ms → ms.Perm ns → ns.length ≤ i + 1 →
        (tIfS (tNot (dTru (tCallS (sp_law_right A) (fun _ => E0) (tCons (dVar 4) (tCons (dVar 5) (tCons (dVar 2) (tCons (dVar 3) tNil))))))) (tRet (tC (.bl false))) tNext) { nx := N, rt := Q, bk := nx, ct := N }
          [some (.ref a), some (.ref d), some (.int p), some (.int w), some (.ref r), some (.ref nl), some (.int wd), x7, x8, none, none] Hx := by
      intro Hx ns ms x7 x8 dx nlx rkx pmx lenx
      wide_line using [upd_same]
      refine ⟨r, nl, p, w, ms, ns, rfl, hpw, rkx, pmx, nlx, by omega, fun Hy sy => ?_⟩
      dsimp only
      rw [if_neg (by decide)]
      exact hN _ _ ⟨_, _, ns, ms, rfl, dx.same sy, sy _ _ nlx, rkx.same sy, pmx, lenx⟩
    generalize (tIfS (tNot (dTru (tCallS (sp_law_right A) (fun _ => E0) (tCons (dVar 4) (tCons (dVar 5) (tCons (dVar 2) (tCons (dVar 3) tNil))))))) (tRet (tC (.bl false))) tNext) = R at *
    have lenm := pm10.length_eq
    refine seq1 ?_
    wide_line using [upd_same]
    refine take_on d11 (by decide) fun c5 H12 c50 c51 k12 d12 => ?_
    have nl12 := k12 _ _ nl11 (by simpa using ndl.symm)
    have rk12 := rkd rk11 d11 k12
    dsimp only
    clear nl11 rk11 k12 d11
    by_cases hc5 : c5 < 3
    · rw [if_pos hc5]
      refine seq1 ?_
      obtain ⟨_, _, ⟨_, _, _, hr12, _⟩, _⟩ := id rk12
      wide_line using [hr12]
      refine ⟨r, p, w, x, ms, rfl, hpw, rk12, by omega, fun H13 k13 rk13 => ?_⟩
      have nl13 := k13 _ _ nl12 (by simpa using nrl.symm)
      have d13 := d12.keep k13 (by simpa using ndr)
      simp only [nl13]
      refine ⟨by rw [List.length_map, sizeLine_eq]; omega, ?_⟩
      have kt : KT H13 (upd H13 nl (.lst (ns.map V.int ++ [.int x]))) := KT.mut (by rw [nl13]; rfl)
      refine right (ns := ns ++ [x]) (ms := x :: ms) (let ⟨q, e⟩ := d13; ⟨q, by rw [upd_ne ndl]; exact e⟩) (by rw [upd_same]; simp) (rk13.kt kt (upd_ne nrl)) ?_ (by simp; omega)
      exact (List.Perm.cons x pm10).trans (List.perm_append_comm (l₁ := [x]))
    · rw [if_neg hc5]
      refine seq_to (fun σ H' => ∃ x' : Int, σ = [some (.ref a), some (.ref d), some (.int p), some (.int w), some (.ref r), some (.ref nl), some (.int wd), some (.int (0 + (i : Nat))), some (.int x'), none, none] ∧ DrawsAt H' d ∧ H' nl = some (.lst (ns.map V.int)) ∧ RkAt A H' r p w ms) (fun nx2 hnx2 => ?_) ?_
      · wide_line using [upd_same]
        refine ⟨Nat.zero_le _, fun b hb => ?_⟩
        have sB := same_new (o := .lst []) hb
        refine neD_nil (n := 0) (sB _ _ nl12) da_ints (by decide) upd_same ?_
        dsimp only
        have d13 := d12.same sB
        have nl13 := sB _ _ nl12
        have rk13 := rk12.same sB
        generalize upd H12 b (.lst []) = H13 at *
        by_cases e : ns = []
        · rw [if_neg (by simp [e])]
          exact hnx2 _ _ ⟨x, rfl, d13, nl13, rk13⟩
        · rw [if_pos (by simpa using e)]
          have el : 0 < ns.length := List.length_pos_iff.mpr e
          refine take_on d13 (by decide) fun c3 H14 c30 c31 k14 d14 => ?_
          have nl14 := k14 _ _ nl13 (by simpa using ndl.symm)
          have rk14 := rkd rk13 d13 k14
          dsimp only
          by_cases hc3 : 0 < c3
          · rw [if_pos hc3]
            simp only [nl14, seqAt_lst, List.length_map]
            refine take_on d14 (by omega) fun j H15 j0 j1 k15 d15 => ?_
            have nl15 := k15 _ _ nl14 (by simpa using ndl.symm)
            have rk15 := rkd rk14 d14 k15
            obtain ⟨jn, rfl⟩ := Int.eq_ofNat_of_zero_le j0
            have hjn : jn < ns.length := by omega
            simp only [nl15, seqAt_lst]
            refine atK_nat (v := .int ns[jn]) (by rw [List.getElem?_map, List.getElem?_eq_getElem hjn]; rfl) ?_
            exact hnx2 _ _ ⟨ns[jn], rfl, d15, nl15, rk15⟩
          · rw [if_neg hc3]
            exact hnx2 _ _ ⟨x, rfl, d14, nl14, rk14⟩
      · rintro σ H16 ⟨y, rfl, d16, nl16, rk16⟩
        clear d12 nl12 rk12
        obtain ⟨_, _, ⟨_, _, _, hr16, _⟩, _⟩ := id rk16
        refine seq1 ?_
        wide_line using [hr16]
        refine ⟨r, p, w, y, ms, rfl, rk16, by omega, fun H17 s17 => ?_⟩
        have nl17 := s17 _ _ nl16
        simp only [nl17, seqAt_lst, inV_ints]
        refine ⟨rfl, flat_ints, ?_⟩
        have hmem : y ∈ ms ↔ y ∈ ns := pm10.mem_iff
        have rk17 := rk16.same s17
        have d17 := d16.same s17
        clear rk16 d16 s17 nl16 hr16
        refine ⟨_, _, rfl, ?_⟩
        by_cases hy : y ∈ ns
        · have hym := hmem.mpr hy
          simp only [hy, hym, decide_true, Bool.true_eq_false, if_false]
          refine .inr (.inl ⟨r, p, w, y, ms, rfl, hpw, rk17, by omega, fun hn => absurd hym hn, fun _ H18 k18 rk18 => ?_⟩)
          have nl18 := k18 _ _ nl17 (by simpa using nrl.symm)
          have d18 := d17.keep k18 (by simpa using ndr)
          simp only [nl18, seqAt_lst, inV_ints]
          refine ⟨rfl, flat_ints, ?_⟩
          rw [if_pos (decide_eq_true hy)]
          refine ⟨_, _, .none, rfl, .non, .non, fun H19 s19 => ?_⟩
          dsimp only
          rw [if_neg (by decide)]
          have nl19 := s19 _ _ nl18
          simp only [nl19, seqAt_lst, inV_ints]
          refine ⟨rfl, flat_ints, ?_⟩
          rw [if_pos (decide_eq_true hy)]
          refine rem_ints nl19 hy fun ns' pn => ?_
          have kt : KT H19 (upd H19 nl (.lst (ns'.map V.int))) := KT.mut (by rw [nl19]; rfl)
          have pl := pn.length_eq
          rw [List.length_cons] at pl
          refine right (ns := ns') (ms := ms.erase y) (let ⟨q, e⟩ := d18.same s19; ⟨q, by rw [upd_ne ndl]; exact e⟩) upd_same ((rk18.same s19).kt kt (upd_ne nrl)) ?_ (by omega)
          exact (pm10.erase y).trans (perm_erase pn).symm
        · have hym : ¬ y ∈ ms := fun h => hy (hmem.mp h)
          simp only [hy, hym, decide_false, decide_true, Bool.true_eq_false, if_false]
          refine .inr (.inl ⟨r, p, w, y, ms, rfl, hpw, rk17, by omega, fun _ H18 k18 rk18 => ?_, fun hn => absurd hn hym⟩)
          have nl18 := k18 _ _ nl17 (by simpa using nrl.symm)
          have d18 := d17.keep k18 (by simpa using ndr)
          simp only [nl18, seqAt_lst, inV_ints]
          refine ⟨rfl, flat_ints, ?_⟩
          rw [if_neg (by simp [hy])]
          refine ⟨_, _, .str "none", rfl, .str (by decide +kernel), .str (by decide +kernel), fun H19 s19 => ?_⟩
          dsimp only
          rw [if_neg (by decide)]
          have nl19 := s19 _ _ nl18
          simp only [nl19, seqAt_lst, inV_ints]
          refine ⟨rfl, flat_ints, ?_⟩
          rw [if_neg (by simp [hy])]
          exact right (ns := ns) (ms := ms) (d18.same s19) nl19 (rk18.same s19) pm10 (by omega)
theorem r_law_expression0 {K : PySem.W.Frag} {A : Ads} {E : XK} {vs : List V} {H : Hp} {Q : VK} (h : sp_law_expression 0 vs H Q E) : t_law_expression K A E (fun _ _ _ _ => False) { nx := fun _ H' => Q .non H', rt := Q } (L2.start ["draws", "names", "deep", "kind", "rows", "sign", "name"] vs) H := r_law_expression_gen (fun _ _ _ _ ⟨_, e, _⟩ => by cases e) h
theorem r_law_expression {K : PySem.W.Frag} {A : Ads} {E : XK} {vs : List V} {H : Hp} {Q : VK} {n : Nat} (h : sp_law_expression (n + 1) vs H Q E) : t_law_expression K A E (sp_law_expression n) { nx := fun _ H' => Q .non H', rt := Q } (L2.start ["draws", "names", "deep", "kind", "rows", "sign", "name"] vs) H := r_law_expression_gen (fun _ _ _ _ ⟨_, e, h⟩ => by cases e; exact h) h
theorem r_law_body0 {K : PySem.W.Frag} {A : Ads} {E : XK} {vs : List V} {H : Hp} {Q : VK} (h : sp_law_body 0 vs H Q E) : t_law_body K A E (fun _ _ _ _ => False) { nx := fun _ H' => Q .non H', rt := Q } (L2.start ["draws", "names", "kinds", "deep", "found", "turn", "kind"] vs) H := r_law_body_gen (fun _ _ _ _ ⟨_, e, _⟩ => by cases e) h
theorem r_law_body {K : PySem.W.Frag} {A : Ads} {E : XK} {vs : List V} {H : Hp} {Q : VK} {n : Nat} (h : sp_law_body (n + 1) vs H Q E) : t_law_body K A E (sp_law_body n) { nx := fun _ H' => Q .non H', rt := Q } (L2.start ["draws", "names", "kinds", "deep", "found", "turn", "kind"] vs) H := r_law_body_gen (fun _ _ _ _ ⟨_, e, h⟩ => by cases e; exact h) h
theorem r_law_many0 {K : PySem.W.Frag} {A : Ads} {E : XK} {vs : List V} {H : Hp} {Q : VK} (h : sp_law_many 0 vs H Q E) : t_law_many K A E (fun _ _ _ _ => False) { nx := fun _ H' => Q .non H', rt := Q } (L2.start ["part", "one"] vs) H := r_law_many_gen (fun _ _ _ _ ⟨_, e, _⟩ => by cases e) h (by decide)
theorem r_law_many {K : PySem.W.Frag} {A : Ads} {E : XK} {vs : List V} {H : Hp} {Q : VK} {n : Nat} (h : sp_law_many (n + 1) vs H Q E) (hn : n + 1 ≤ 60 := by decide) : t_law_many K A E (sp_law_many n) { nx := fun _ H' => Q .non H', rt := Q } (L2.start ["part", "one"] vs) H := r_law_many_gen (fun _ _ _ _ ⟨_, e, h⟩ => by cases e; exact h) h hn
def top (i : Nat) : Stmt := PySem.Challenge.pw_sametrace_k21_whole_ranks_that_are_kept.main.body.getD i (.Pass ⟨0, 0, 0, 0⟩)
abbrev s_rank_of : Stmt := top 8
abbrev N_rank_of : List Str := ["heap"]
theorem sc_rank_of : FnScope N_rank_of ["heap"] (defScope s_rank_of) := ⟨rfl, rfl, rfl, by decide +kernel, rfl, by decide +kernel, by decide +kernel⟩
abbrev s_node_of : Stmt := top 9
abbrev N_node_of : List Str := ["item", "one", "other"]
theorem sc_node_of : FnScope N_node_of ["item", "one", "other"] (defScope s_node_of) := ⟨rfl, rfl, rfl, by decide +kernel, rfl, by decide +kernel, by decide +kernel⟩
abbrev s_met : Stmt := top 10
abbrev N_met : List Str := ["one", "other", "left", "found", "node"]
theorem sc_met : FnScope N_met ["one", "other"] (defScope s_met) := ⟨rfl, rfl, rfl, by decide +kernel, rfl, by decide +kernel, by decide +kernel⟩
abbrev s_put_in : Stmt := top 11
abbrev N_put_in : List Str := ["heap", "item"]
theorem sc_put_in : FnScope N_put_in ["heap", "item"] (defScope s_put_in) := ⟨rfl, rfl, rfl, by decide +kernel, rfl, by decide +kernel, by decide +kernel⟩
abbrev s_least : Stmt := top 12
abbrev N_least : List Str := ["heap"]
theorem sc_least : FnScope N_least ["heap"] (defScope s_least) := ⟨rfl, rfl, rfl, by decide +kernel, rfl, by decide +kernel, by decide +kernel⟩
abbrev s_without_least : Stmt := top 13
abbrev N_without_least : List Str := ["heap"]
theorem sc_without_least : FnScope N_without_least ["heap"] (defScope s_without_least) := ⟨rfl, rfl, rfl, by decide +kernel, rfl, by decide +kernel, by decide +kernel⟩
abbrev s_heap_of : Stmt := top 14
abbrev N_heap_of : List Str := ["items", "rows", "more", "item", "at"]
theorem sc_heap_of : FnScope N_heap_of ["items"] (defScope s_heap_of) := ⟨rfl, rfl, rfl, by decide +kernel, rfl, by decide +kernel, by decide +kernel⟩
abbrev s_items_of : Stmt := top 15
abbrev N_items_of : List Str := ["heap", "found", "left", "node"]
theorem sc_items_of : FnScope N_items_of ["heap"] (defScope s_items_of) := ⟨rfl, rfl, rfl, by decide +kernel, rfl, by decide +kernel, by decide +kernel⟩
abbrev s_whereQ : Stmt := top 16
abbrev N_whereQ : List Str := ["heap", "item", "rows", "at", "node"]
theorem sc_whereQ : FnScope N_whereQ ["heap", "item"] (defScope s_whereQ) := ⟨rfl, rfl, rfl, by decide +kernel, rfl, by decide +kernel, by decide +kernel⟩
abbrev s_taken_out : Stmt := top 17
abbrev N_taken_out : List Str := ["heap", "item", "rows", "at", "found", "_", "above", "side", "node"]
theorem sc_taken_out : FnScope N_taken_out ["heap", "item"] (defScope s_taken_out) := ⟨rfl, rfl, rfl, by decide +kernel, rfl, by decide +kernel, by decide +kernel⟩
abbrev s_is_number : Stmt := top 19
abbrev N_is_number : List Str := ["value", "least", "most"]
theorem sc_is_number : FnScope N_is_number ["value", "least", "most"] (defScope s_is_number) := ⟨rfl, rfl, rfl, by decide +kernel, rfl, by decide +kernel, by decide +kernel⟩
abbrev s_rank_place : Stmt := top 22
abbrev N_rank_place : List Str := ["many", "part", "whole"]
theorem sc_rank_place : FnScope N_rank_place ["many", "part", "whole"] (defScope s_rank_place) := ⟨rfl, rfl, rfl, by decide +kernel, rfl, by decide +kernel, by decide +kernel⟩
abbrev s_Ranked__init_ : Stmt := inClass (top 23) 0
abbrev N_Ranked__init_ : List Str := ["self", "part", "whole"]
theorem sc_Ranked__init_ : FnScope N_Ranked__init_ ["self", "part", "whole"] (defScope s_Ranked__init_) := ⟨rfl, rfl, rfl, by decide +kernel, rfl, by decide +kernel, by decide +kernel⟩
abbrev s_Ranked_even : Stmt := inClass (top 23) 1
abbrev N_Ranked_even : List Str := ["self", "due", "number"]
theorem sc_Ranked_even : FnScope N_Ranked_even ["self"] (defScope s_Ranked_even) := ⟨rfl, rfl, rfl, by decide +kernel, rfl, by decide +kernel, by decide +kernel⟩
abbrev s_Ranked_put : Stmt := inClass (top 23) 2
abbrev N_Ranked_put : List Str := ["self", "number"]
theorem sc_Ranked_put : FnScope N_Ranked_put ["self", "number"] (defScope s_Ranked_put) := ⟨rfl, rfl, rfl, by decide +kernel, rfl, by decide +kernel, by decide +kernel⟩
abbrev s_Ranked_drop : Stmt := inClass (top 23) 3
abbrev N_Ranked_drop : List Str := ["self", "number"]
theorem sc_Ranked_drop : FnScope N_Ranked_drop ["self", "number"] (defScope s_Ranked_drop) := ⟨rfl, rfl, rfl, by decide +kernel, rfl, by decide +kernel, by decide +kernel⟩
abbrev s_Ranked_told : Stmt := inClass (top 23) 4
abbrev N_Ranked_told : List Str := ["self"]
theorem sc_Ranked_told : FnScope N_Ranked_told ["self"] (defScope s_Ranked_told) := ⟨rfl, rfl, rfl, by decide +kernel, rfl, by decide +kernel, by decide +kernel⟩
abbrev s_Ranked_numbers : Stmt := inClass (top 23) 5
abbrev N_Ranked_numbers : List Str := ["self", "lows", "one"]
theorem sc_Ranked_numbers : FnScope N_Ranked_numbers ["self"] (defScope s_Ranked_numbers) := ⟨rfl, rfl, rfl, by decide +kernel, rfl, by decide +kernel, by decide +kernel⟩
abbrev s_Ranked_has : Stmt := inClass (top 23) 6
abbrev N_Ranked_has : List Str := ["self", "number", "heap", "item"]
theorem sc_Ranked_has : FnScope N_Ranked_has ["self", "number"] (defScope s_Ranked_has) := ⟨rfl, rfl, rfl, by decide +kernel, rfl, by decide +kernel, by decide +kernel⟩
abbrev s_rank_of_all : Stmt := top 24
abbrev N_rank_of_all : List Str := ["numbers", "part", "whole"]
theorem sc_rank_of_all : FnScope N_rank_of_all ["numbers", "part", "whole"] (defScope s_rank_of_all) := ⟨rfl, rfl, rfl, by decide +kernel, rfl, by decide +kernel, by decide +kernel⟩
abbrev s_keyed : Stmt := top 26
abbrev N_keyed : List Str := ["row", "event", "said", "at", "one"]
theorem sc_keyed : FnScope N_keyed ["row"] (defScope s_keyed) := ⟨rfl, rfl, rfl, by decide +kernel, rfl, by decide +kernel, by decide +kernel⟩
abbrev s_is_meant : Stmt := top 27
abbrev N_is_meant : List Str := ["said", "place", "word"]
theorem sc_is_meant : FnScope N_is_meant ["said", "place", "word"] (defScope s_is_meant) := ⟨rfl, rfl, rfl, by decide +kernel, rfl, by decide +kernel, by decide +kernel⟩
abbrev s_numbers_said : Stmt := top 28
abbrev N_numbers_said : List Str := ["trace_done", "place", "word", "rows", "row", "pair", "key", "said"]
theorem sc_numbers_said : FnScope N_numbers_said ["trace_done", "place", "word"] (defScope s_numbers_said) := ⟨rfl, rfl, rfl, by decide +kernel, rfl, by decide +kernel, by decide +kernel⟩
abbrev s_law_draws : Stmt := top 30
abbrev N_law_draws : List Str := ["script", "draws", "cell", "number", "first", "k", "seed"]
theorem sc_law_draws : FnScope N_law_draws ["script"] (defScope s_law_draws) := ⟨rfl, rfl, rfl, by decide +kernel, rfl, by decide +kernel, by decide +kernel⟩
abbrev s_law_take : Stmt := top 31
abbrev N_law_take : List Str := ["draws", "bound"]
theorem sc_law_take : FnScope N_law_take ["draws", "bound"] (defScope s_law_take) := ⟨rfl, rfl, rfl, by decide +kernel, rfl, by decide +kernel, by decide +kernel⟩
abbrev s_law_alike : Stmt := top 32
abbrev N_law_alike : List Str := ["found", "due", "k"]
theorem sc_law_alike : FnScope N_law_alike ["found", "due"] (defScope s_law_alike) := ⟨rfl, rfl, rfl, by decide +kernel, rfl, by decide +kernel, by decide +kernel⟩
abbrev s_law_says : Stmt := top 33
abbrev N_law_says : List Str := ["told", "due"]
theorem sc_law_says : FnScope N_law_says ["told", "due"] (defScope s_law_says) := ⟨rfl, rfl, rfl, by decide +kernel, rfl, by decide +kernel, by decide +kernel⟩
abbrev s_law_word : Stmt := top 34
abbrev N_law_word : List Str := ["e", "kinds", "kind"]
theorem sc_law_word : FnScope N_law_word ["e"] (defScope s_law_word) := ⟨rfl, rfl, rfl, by decide +kernel, rfl, by decide +kernel, by decide +kernel⟩
abbrev s_law_expression : Stmt := top 35
abbrev N_law_expression : List Str := ["draws", "names", "deep", "kind", "rows", "sign", "name"]
theorem sc_law_expression : FnScope N_law_expression ["draws", "names", "deep"] (defScope s_law_expression) := ⟨rfl, rfl, rfl, by decide +kernel, rfl, by decide +kernel, by decide +kernel⟩
abbrev s_law_body : Stmt := top 36
abbrev N_law_body : List Str := ["draws", "names", "kinds", "deep", "found", "turn", "kind"]
theorem sc_law_body : FnScope N_law_body ["draws", "names", "kinds", "deep"] (defScope s_law_body) := ⟨rfl, rfl, rfl, by decide +kernel, rfl, by decide +kernel, by decide +kernel⟩
abbrev s_law_send : Stmt := top 37
abbrev N_law_send : List Str := ["draws", "names", "kinds", "place", "delay"]
theorem sc_law_send : FnScope N_law_send ["draws", "names", "kinds"] (defScope s_law_send) := ⟨rfl, rfl, rfl, by decide +kernel, rfl, by decide +kernel, by decide +kernel⟩
abbrev s_law_many : Stmt := top 38
abbrev N_law_many : List Str := ["part", "one"]
theorem sc_law_many : FnScope N_law_many ["part"] (defScope s_law_many) := ⟨rfl, rfl, rfl, by decide +kernel, rfl, by decide +kernel, by decide +kernel⟩
abbrev s_law_model : Stmt := top 39
abbrev N_law_model : List Str := ["draws", "most", "kinds", "spots", "total", "k", "variables", "names", "rules", "kind", "body", "early", "name", "number"]
theorem sc_law_model : FnScope N_law_model ["draws", "most"] (defScope s_law_model) := ⟨rfl, rfl, rfl, by decide +kernel, rfl, by decide +kernel, by decide +kernel⟩
abbrev s_law_starts : Stmt := top 40
abbrev N_law_starts : List Str := ["draws", "model", "kinds", "found", "k"]
theorem sc_law_starts : FnScope N_law_starts ["draws", "model"] (defScope s_law_starts) := ⟨rfl, rfl, rfl, by decide +kernel, rfl, by decide +kernel, by decide +kernel⟩
abbrev s_law_number : Stmt := top 42
abbrev N_law_number : List Str := ["known", "event", "e", "one", "other", "whole_one"]
theorem sc_law_number : FnScope N_law_number ["known", "event", "e"] (defScope s_law_number) := ⟨rfl, rfl, rfl, by decide +kernel, rfl, by decide +kernel, by decide +kernel⟩
abbrev s_law_do : Stmt := top 43
abbrev N_law_do : List Str := ["model", "known", "event", "body", "row", "most", "grown", "place", "later"]
theorem sc_law_do : FnScope N_law_do ["model", "known", "event", "body"] (defScope s_law_do) := ⟨rfl, rfl, rfl, by decide +kernel, rfl, by decide +kernel, by decide +kernel⟩
abbrev s_law_step : Stmt := top 41
abbrev N_law_step : List Str := ["model", "state", "event", "number", "names", "known", "body", "name", "first", "k"]
theorem sc_law_step : FnScope N_law_step ["model", "state", "event"] (defScope s_law_step) := ⟨rfl, rfl, rfl, by decide +kernel, rfl, by decide +kernel, by decide +kernel⟩
abbrev s_law_run : Stmt := top 44
abbrev N_law_run : List Str := ["model", "starts", "until", "states", "k", "grown", "waiting", "trace_one", "event", "sent", "said", "name", "first"]
theorem sc_law_run : FnScope N_law_run ["model", "starts", "until"] (defScope s_law_run) := ⟨rfl, rfl, rfl, by decide +kernel, rfl, by decide +kernel, by decide +kernel⟩
abbrev s_law_due : Stmt := top 45
abbrev N_law_due : List Str := ["numbers", "part", "whole_one", "row", "place"]
theorem sc_law_due : FnScope N_law_due ["numbers", "part", "whole_one"] (defScope s_law_due) := ⟨rfl, rfl, rfl, by decide +kernel, rfl, by decide +kernel, by decide +kernel⟩
abbrev s_law_told : Stmt := top 46
abbrev N_law_told : List Str := ["which", "ranked", "number", "e"]
theorem sc_law_told : FnScope N_law_told ["which", "ranked", "number"] (defScope s_law_told) := ⟨rfl, rfl, rfl, by decide +kernel, rfl, by decide +kernel, by decide +kernel⟩
abbrev s_law_all : Stmt := top 47
abbrev N_law_all : List Str := ["numbers", "part", "whole_one", "e"]
theorem sc_law_all : FnScope N_law_all ["numbers", "part", "whole_one"] (defScope s_law_all) := ⟨rfl, rfl, rfl, by decide +kernel, rfl, by decide +kernel, by decide +kernel⟩
abbrev s_law_right : Stmt := top 48
abbrev N_law_right : List Str := ["ranked", "numbers", "part", "whole_one", "due"]
theorem sc_law_right : FnScope N_law_right ["ranked", "numbers", "part", "whole_one"] (defScope s_law_right) := ⟨rfl, rfl, rfl, by decide +kernel, rfl, by decide +kernel, by decide +kernel⟩
abbrev s_law_runs : Stmt := top 49
abbrev N_law_runs : List Str := ["draws", "part", "whole_one", "model", "found", "word", "numbers", "ranked", "rows", "key", "number"]
theorem sc_law_runs : FnScope N_law_runs ["draws", "part", "whole_one"] (defScope s_law_runs) := ⟨rfl, rfl, rfl, by decide +kernel, rfl, by decide +kernel, by decide +kernel⟩
abbrev s_law : Stmt := top 50
abbrev N_law : List Str := ["script", "draws", "part", "whole_one", "ranked", "numbers", "wide", "turn", "number", "odd", "pair"]
theorem sc_law : FnScope N_law ["script"] (defScope s_law) := ⟨rfl, rfl, rfl, by decide +kernel, rfl, by decide +kernel, by decide +kernel⟩
structure Txt (K : PySem.W.Frag) (mg : Str → Option Value) (A : Ads) where
  rank_of : FnAt K mg "rank_of" s_rank_of ["heap"]
  node_of : FnAt K mg "node_of" s_node_of ["item", "one", "other"]
  met : FnAt K mg "met" s_met ["one", "other"]
  put_in : FnAt K mg "put_in" s_put_in ["heap", "item"]
  least : FnAt K mg "least" s_least ["heap"]
  without_least : FnAt K mg "without_least" s_without_least ["heap"]
  heap_of : FnAt K mg "heap_of" s_heap_of ["items"]
  items_of : FnAt K mg "items_of" s_items_of ["heap"]
  whereQ : FnAt K mg "where" s_whereQ ["heap", "item"]
  taken_out : FnAt K mg "taken_out" s_taken_out ["heap", "item"]
  is_number : FnAt K mg "is_number" s_is_number ["value", "least", "most"]
  rank_place : FnAt K mg "rank_place" s_rank_place ["many", "part", "whole"]
  Ranked__init_ : InAt K mg A.Ranked "Ranked" "Ranked.__init__" s_Ranked__init_ ["self", "part", "whole"]
  Ranked_even : MeAt K A.Ranked "even" "Ranked.even" s_Ranked_even ["self"]
  Ranked_put : MeAt K A.Ranked "put" "Ranked.put" s_Ranked_put ["self", "number"]
  Ranked_drop : MeAt K A.Ranked "drop" "Ranked.drop" s_Ranked_drop ["self", "number"]
  Ranked_told : MeAt K A.Ranked "told" "Ranked.told" s_Ranked_told ["self"]
  Ranked_numbers : MeAt K A.Ranked "numbers" "Ranked.numbers" s_Ranked_numbers ["self"]
  Ranked_has : MeAt K A.Ranked "has" "Ranked.has" s_Ranked_has ["self", "number"]
  rank_of_all : FnAt K mg "rank_of_all" s_rank_of_all ["numbers", "part", "whole"]
  keyed : FnAt K mg "keyed" s_keyed ["row"]
  is_meant : FnAt K mg "is_meant" s_is_meant ["said", "place", "word"]
  numbers_said : FnAt K mg "numbers_said" s_numbers_said ["trace_done", "place", "word"]
  law_draws : FnAt K mg "_law_draws" s_law_draws ["script"]
  law_take : FnAt K mg "_law_take" s_law_take ["draws", "bound"]
  law_alike : FnAt K mg "_law_alike" s_law_alike ["found", "due"]
  law_says : FnAt K mg "_law_says" s_law_says ["told", "due"]
  law_word : FnAt K mg "_law_word" s_law_word ["e"]
  law_expression : FnAt K mg "_law_expression" s_law_expression ["draws", "names", "deep"]
  law_body : FnAt K mg "_law_body" s_law_body ["draws", "names", "kinds", "deep"]
  law_send : FnAt K mg "_law_send" s_law_send ["draws", "names", "kinds"]
  law_many : FnAt K mg "_law_many" s_law_many ["part"]
  law_model : FnAt K mg "_law_model" s_law_model ["draws", "most"]
  law_starts : FnAt K mg "_law_starts" s_law_starts ["draws", "model"]
  law_number : FnAt K mg "_law_number" s_law_number ["known", "event", "e"]
  law_do : FnAt K mg "_law_do" s_law_do ["model", "known", "event", "body"]
  law_step : FnAt K mg "_law_step" s_law_step ["model", "state", "event"]
  law_run : FnAt K mg "_law_run" s_law_run ["model", "starts", "until"]
  law_due : FnAt K mg "_law_due" s_law_due ["numbers", "part", "whole_one"]
  law_told : FnAt K mg "_law_told" s_law_told ["which", "ranked", "number"]
  law_all : FnAt K mg "_law_all" s_law_all ["numbers", "part", "whole_one"]
  law_right : FnAt K mg "_law_right" s_law_right ["ranked", "numbers", "part", "whole_one"]
  law_runs : FnAt K mg "_law_runs" s_law_runs ["draws", "part", "whole_one"]
  law : FnAt K mg "law" s_law ["script"]
  n_Ranked_part : NoAttr K A.Ranked "part"
  n_Ranked_whole : NoAttr K A.Ranked "whole"
  n_Ranked_low : NoAttr K A.Ranked "low"
  n_Ranked_high : NoAttr K A.Ranked "high"
  n_Ranked_lows : NoAttr K A.Ranked "lows"
  n_Ranked_many : NoAttr K A.Ranked "many"
  x_TraceError : GlAt K mg "TraceError" A.TraceError
  x_OutOfRange : ExAt K mg "OutOfRange" A.OutOfRange
  x_Malformed : GlAt K mg "Malformed" A.Malformed
  x_NotThere : ExAt K mg "NotThere" A.NotThere
  x_Refused : GlAt K mg "Refused" A.Refused
  x_TooMuch : GlAt K mg "TooMuch" A.TooMuch
  e_OutOfRange_TraceError : PySem.W.exmOne K (.ref A.OutOfRange) (.ref A.TraceError) = some true
  e_NotThere_TraceError : PySem.W.exmOne K (.ref A.NotThere) (.ref A.TraceError) = some true
  e_NotThere_NotThere : PySem.W.exmOne K (.ref A.NotThere) (.ref A.NotThere) = some true
  i_OutOfRange_OutOfRange : PySem.W.kitOne K (.ref A.OutOfRange) (.ref A.OutOfRange) = some true
  i_OutOfRange_Malformed : PySem.W.kitOne K (.ref A.OutOfRange) (.ref A.Malformed) = some false
  i_OutOfRange_NotThere : PySem.W.kitOne K (.ref A.OutOfRange) (.ref A.NotThere) = some false
  i_OutOfRange_Refused : PySem.W.kitOne K (.ref A.OutOfRange) (.ref A.Refused) = some false
  i_OutOfRange_TooMuch : PySem.W.kitOne K (.ref A.OutOfRange) (.ref A.TooMuch) = some false
  i_NotThere_OutOfRange : PySem.W.kitOne K (.ref A.NotThere) (.ref A.OutOfRange) = some false
  i_NotThere_Malformed : PySem.W.kitOne K (.ref A.NotThere) (.ref A.Malformed) = some false
  i_NotThere_NotThere : PySem.W.kitOne K (.ref A.NotThere) (.ref A.NotThere) = some true
  i_NotThere_Refused : PySem.W.kitOne K (.ref A.NotThere) (.ref A.Refused) = some false
  i_NotThere_TooMuch : PySem.W.kitOne K (.ref A.NotThere) (.ref A.TooMuch) = some false
  b_len : mg "len" = none
  b_abs : mg "abs" = none
  b_int : mg "int" = none
  b_list : mg "list" = none
  b_reversed : mg "reversed" = none
  b_isinstance : mg "isinstance" = none
  b_range : mg "range" = none
  b_bool : mg "bool" = none
  b_str : mg "str" = none
  b_tuple : mg "tuple" = none
  b_min : mg "min" = none
  b_max : mg "max" = none
  b_sorted : mg "sorted" = none
  b_sum : mg "sum" = none
  b_dict : mg "dict" = none
  b_enumerate : mg "enumerate" = none
  c_MOST_WHOLE : CoAt K mg "MOST_WHOLE" (.int 1000)
section
variable {P : Program} {w : World} {K : PySem.W.Frag} {mg : Str → Option Value} {base : Heap} {A : Ads}
theorem ok_rank_of (T : Txt K mg A)  
    (len : ∀ vs H Q E, sp_rank_of vs H Q E → vs.length = 1) (rd : ∀ vs H Q E, sp_rank_of vs H Q E → t_rank_of K A E  { nx := fun _ H' => Q .non H', rt := Q } (L2.start N_rank_of vs) H) :
    FnOk P w K mg base CX0 1 T.rank_of.a T.rank_of.fd ["heap"] sp_rank_of := by
  refine T.rank_of.F.ok sc_rank_of len (fun cdv AA outer s H vs Q E hr h => ⟨t_rank_of K A E , ?_, rd vs H Q E h⟩)
  have hr : Room 0 _ := hr
  have hu := hr
  have nd := sc_rank_of.nd
  exact (pss_one (ps_ret (pe_ifExp (dt_cmp d_gt (pe_callB d_len (by rfl) T.b_len (by decide +kernel) (pa_cons (dv 0) pa_nil)) pe_int (nomark _)) (pe_ix d_ix (dv 0) pe_int (fun _ _ => rfl)) pe_int)))
theorem ok_node_of (T : Txt K mg A)  (G_rank_of : FnOk P w K mg base CX0 1 T.rank_of.a T.rank_of.fd ["heap"] sp_rank_of)
    (len : ∀ vs H Q E, sp_node_of vs H Q E → vs.length = 3) (rd : ∀ vs H Q E, sp_node_of vs H Q E → t_node_of K A E  { nx := fun _ H' => Q .non H', rt := Q } (L2.start N_node_of vs) H) :
    FnOk P w K mg base CX0 2 T.node_of.a T.node_of.fd ["item", "one", "other"] sp_node_of := by
  refine T.node_of.F.ok sc_node_of len (fun cdv AA outer s H vs Q E hr h => ⟨t_node_of K A E , ?_, rd vs H Q E h⟩)
  have hr : Room 1 _ := hr
  have hu := hr
  have nd := sc_node_of.nd
  exact (pss_cons (ps_if (dt_cmp d_lt (c_call G_rank_of (hr.mono (by decide)) T.rank_of.g T.rank_of.F.kp T.rank_of.b (fun _ => at0) (pa_cons (dv 1) pa_nil)) (c_call G_rank_of (hr.mono (by decide)) T.rank_of.g T.rank_of.F.kp T.rank_of.b (fun _ => at0) (pa_cons (dv 2) pa_nil)) (nomark _))
  (pss_one (d_par (by rfl) nd rfl rfl (by decide) rfl rfl (pa_cons (dv 2) (pa_cons (dv 1) pa_nil)) (by rfl)))
  pss_nil)
  (pss_one (ps_ret (pe_tup (pa_cons (pe_op d_add2 (c_call G_rank_of (hr.mono (by decide)) T.rank_of.g T.rank_of.F.kp T.rank_of.b (fun _ => at0) (pa_cons (dv 2) pa_nil)) pe_int) (pa_cons (dv 0) (pa_cons (dv 1) (pa_cons (dv 2) pa_nil))))))))
theorem ok_met (T : Txt K mg A)  (G_node_of : FnOk P w K mg base CX0 2 T.node_of.a T.node_of.fd ["item", "one", "other"] sp_node_of)
    (len : ∀ vs H Q E, sp_met vs H Q E → vs.length = 2) (rd : ∀ vs H Q E, sp_met vs H Q E → t_met K A E  { nx := fun _ H' => Q .non H', rt := Q } (L2.start N_met vs) H) :
    FnOk P w K mg base CX0 3 T.met.a T.met.fd ["one", "other"] sp_met := by
  refine T.met.F.ok sc_met len (fun cdv AA outer s H vs Q E hr h => ⟨t_met K A E , ?_, rd vs H Q E h⟩)
  have hr : Room 2 _ := hr
  have hu := hr
  have nd := sc_met.nd
  exact (pss_cons (ps_set (i := 2) nd rfl (Or.inl rfl) (pe_lst pa_nil))
  (pss_cons (ps_while PassesOwn.never (PW.pt (pw_and (dt_cmp d_gt (pe_callB d_len (by rfl) T.b_len (by decide +kernel) (pa_cons (dv 0) pa_nil)) pe_int (nomark _)) (pw_and1 (dt_cmp d_gt (pe_callB d_len (by rfl) T.b_len (by decide +kernel) (pa_cons (dv 1) pa_nil)) pe_int (nomark _)))))
  (pss_cons (ps_if (dt_cmp (op_ltD (room64 hu)) (pe_ix d_ix (dv 1) pe_int (fun _ _ => rfl)) (pe_ix d_ix (dv 0) pe_int (fun _ _ => rfl)) (nomark _))
  (pss_one (d_par (by rfl) nd rfl rfl (by decide) rfl rfl (pa_cons (dv 1) (pa_cons (dv 0) pa_nil)) (by rfl)))
  pss_nil)
  (pss_cons (ps_expr (d_bm PySem.F.plainAttrs_list PySem.F.slot_list_append PySem.F.type_list_append m_append (dv 2) (pa_cons (dv 0) pa_nil)))
  (pss_one (ps_set (i := 0) nd rfl (Or.inl rfl) (pe_ix d_ix (dv 0) pe_int (fun _ _ => rfl)))))))
  (pss_cons (ps_set (i := 3) nd rfl (Or.inl rfl) (pe_ifExp (dt_cmp d_eq (pe_callB d_len (by rfl) T.b_len (by decide +kernel) (pa_cons (dv 1) pa_nil)) pe_int (nomark _)) (dv 0) (dv 1)))
  (pss_cons (d_forL PassesOwn.never rfl (d_revL (dv 2)) (pg_name (i := 4) nd rfl (Or.inl rfl))
  (pss_one (ps_set (i := 3) nd rfl (Or.inl rfl) (c_call G_node_of (hr.mono (by decide)) T.node_of.g T.node_of.F.kp T.node_of.b (fun _ => at0) (pa_cons (pe_ix d_ix (dv 4) pe_int (fun _ _ => rfl)) (pa_cons (pe_ix d_ix (dv 4) pe_int (fun _ _ => rfl)) (pa_cons (dv 3) pa_nil)))))))
  (pss_one (ps_ret (dv 3)))))))
theorem ok_put_in (T : Txt K mg A)  (G_met : FnOk P w K mg base CX0 3 T.met.a T.met.fd ["one", "other"] sp_met)
    (len : ∀ vs H Q E, sp_put_in vs H Q E → vs.length = 2) (rd : ∀ vs H Q E, sp_put_in vs H Q E → t_put_in K A E  { nx := fun _ H' => Q .non H', rt := Q } (L2.start N_put_in vs) H) :
    FnOk P w K mg base CX0 4 T.put_in.a T.put_in.fd ["heap", "item"] sp_put_in := by
  refine T.put_in.F.ok sc_put_in len (fun cdv AA outer s H vs Q E hr h => ⟨t_put_in K A E , ?_, rd vs H Q E h⟩)
  have hr : Room 3 _ := hr
  have hu := hr
  have nd := sc_put_in.nd
  exact (pss_one (ps_ret (c_call G_met (hr.mono (by decide)) T.met.g T.met.F.kp T.met.b (fun _ => at0) (pa_cons (dv 0) (pa_cons (pe_tup (pa_cons pe_int (pa_cons (dv 1) (pa_cons (pe_tup pa_nil) (pa_cons (pe_tup pa_nil) pa_nil))))) pa_nil)))))
theorem ok_least (T : Txt K mg A)  
    (len : ∀ vs H Q E, sp_least vs H Q E → vs.length = 1) (rd : ∀ vs H Q E, sp_least vs H Q E → t_least K A E  { nx := fun _ H' => Q .non H', rt := Q } (L2.start N_least vs) H) :
    FnOk P w K mg base (L2N.CX P w) 1 T.least.a T.least.fd ["heap"] sp_least := by
  refine okN T.least.F sc_least len (fun cdv AA outer s H vs Q E hr h => ⟨t_least K A E , ?_, rd vs H Q E h⟩)
  have hr : Room 0 _ := hr
  have hu := hr
  have nd := sc_least.nd
  exact (pss_cons (ps_if (dt_cmp d_eq (pe_callB d_len (by rfl) T.b_len (by decide +kernel) (pa_cons (dv 0) pa_nil)) pe_int (nomark _))
  (pss_one (L2N.ps_raise rfl (tkN rfl rfl rfl rfl) (L2N.pmk_own PySem.F.excBase_ValueError T.x_NotThere.ex T.x_NotThere.g T.x_NotThere.k (raises_own T.x_NotThere.b T.x_NotThere.t) (by rfl))))
  pss_nil)
  (pss_one (ps_ret (pe_ix d_ix (dv 0) pe_int (fun _ _ => rfl)))))
theorem ok_without_least (T : Txt K mg A)  (G_met : FnOk P w K mg base CX0 3 T.met.a T.met.fd ["one", "other"] sp_met)
    (len : ∀ vs H Q E, sp_without_least vs H Q E → vs.length = 1) (rd : ∀ vs H Q E, sp_without_least vs H Q E → t_without_least K A E  { nx := fun _ H' => Q .non H', rt := Q } (L2.start N_without_least vs) H) :
    FnOk P w K mg base (L2N.CX P w) 4 T.without_least.a T.without_least.fd ["heap"] sp_without_least := by
  refine okN T.without_least.F sc_without_least len (fun cdv AA outer s H vs Q E hr h => ⟨t_without_least K A E , ?_, rd vs H Q E h⟩)
  have hr : Room 3 _ := hr
  have hu := hr
  have nd := sc_without_least.nd
  exact (pss_cons (ps_if (dt_cmp d_eq (pe_callB d_len (by rfl) T.b_len (by decide +kernel) (pa_cons (dv 0) pa_nil)) pe_int (nomark _))
  (pss_one (L2N.ps_raise rfl (tkN rfl rfl rfl rfl) (L2N.pmk_own PySem.F.excBase_ValueError T.x_NotThere.ex T.x_NotThere.g T.x_NotThere.k (raises_own T.x_NotThere.b T.x_NotThere.t) (by rfl))))
  pss_nil)
  (pss_one (ps_ret (c_call G_met (hr.mono (by decide)) T.met.g T.met.F.kp T.met.b (fun _ => at0) (pa_cons (pe_ix d_ix (dv 0) pe_int (fun _ _ => rfl)) (pa_cons (pe_ix d_ix (dv 0) pe_int (fun _ _ => rfl)) pa_nil))))))
theorem ok_heap_of (T : Txt K mg A)  
    (len : ∀ vs H Q E, sp_heap_of vs H Q E → vs.length = 1) (rd : ∀ vs H Q E, sp_heap_of vs H Q E → t_heap_of K A E  { nx := fun _ H' => Q .non H', rt := Q } (L2.start N_heap_of vs) H) :
    FnOk P w K mg base CX0 1 T.heap_of.a T.heap_of.fd ["items"] sp_heap_of := by
  refine T.heap_of.F.ok sc_heap_of len (fun cdv AA outer s H vs Q E hr h => ⟨t_heap_of K A E , ?_, rd vs H Q E h⟩)
  have hr : Room 0 _ := hr
  have hu := hr
  have nd := sc_heap_of.nd
  exact (pss_cons (ps_set (i := 1) nd rfl (Or.inr rfl) (d_lcT (own := [("item", 3)]) rfl nd (dv 0) (blkOk_by (N := N_heap_of) (sc := (defScope s_heap_of)) (by decide +kernel)) (fun _ _ _ _ _ => (pg_name (i := 3) nd rfl (Or.inl rfl))) (fun _ _ _ _ _ => pts_nil) (fun _ _ _ _ _ => (pe_tup (pa_cons pe_int (pa_cons (dv 3) (pa_cons (pe_tup pa_nil) (pa_cons (pe_tup pa_nil) pa_nil))))))))
  (pss_cons (ps_while PassesOwn.never (dt_cmp d_gt (pe_callB d_len (by rfl) T.b_len (by decide +kernel) (pa_cons (dv 1) pa_nil)) pe_int (nomark _))
  (pss_cons ps_dead
  (pss_one ps_dead)))
  (pss_one (ps_ret (pe_ifExp (dt_cmp d_gt (pe_callB d_len (by rfl) T.b_len (by decide +kernel) (pa_cons (dv 1) pa_nil)) pe_int (nomark _)) (pe_ix d_ix (dv 1) pe_int (fun _ _ => rfl)) (pe_tup pa_nil))))))
theorem ok_items_of (T : Txt K mg A)  
    (len : ∀ vs H Q E, sp_items_of vs H Q E → vs.length = 1) (rd : ∀ vs H Q E, sp_items_of vs H Q E → t_items_of K A E  { nx := fun _ H' => Q .non H', rt := Q } (L2.start N_items_of vs) H) :
    FnOk P w K mg base CX0 1 T.items_of.a T.items_of.fd ["heap"] sp_items_of := by
  refine T.items_of.F.ok sc_items_of len (fun cdv AA outer s H vs Q E hr h => ⟨t_items_of K A E , ?_, rd vs H Q E h⟩)
  have hr : Room 0 _ := hr
  have hu := hr
  have nd := sc_items_of.nd
  exact (pss_cons (d_par (by rfl) nd rfl rfl (by decide) rfl rfl (pa_cons (pe_lst pa_nil) (pa_cons (pe_lst (pa_cons (dv 0) pa_nil)) pa_nil)) (by rfl))
  (pss_cons (ps_while PassesOwn.never (dt_cmp d_gt (pe_callB d_len (by rfl) T.b_len (by decide +kernel) (pa_cons (dv 2) pa_nil)) pe_int (nomark _))
  (pss_cons (ps_set (i := 3) nd rfl (Or.inl rfl) (d_bm0 PySem.F.plainAttrs_list PySem.F.slot_list_pop PySem.F.type_list_pop m_pop (dv 2)))
  (pss_one (ps_if (dt_cmp d_gt (pe_callB d_len (by rfl) T.b_len (by decide +kernel) (pa_cons (dv 3) pa_nil)) pe_int (nomark _))
  (pss_cons (ps_expr (d_bm PySem.F.plainAttrs_list PySem.F.slot_list_append PySem.F.type_list_append m_append (dv 1) (pa_cons (pe_ix d_ix (dv 3) pe_int (fun _ _ => rfl)) pa_nil)))
  (pss_one (ps_expr (d_bm PySem.F.plainAttrs_list PySem.F.slot_list_extend PySem.F.type_list_extend mt_extend (dv 2) (pa_cons (pe_lst (pa_cons (pe_ix d_ix (dv 3) pe_int (fun _ _ => rfl)) (pa_cons (pe_ix d_ix (dv 3) pe_int (fun _ _ => rfl)) pa_nil))) pa_nil)))))
  pss_nil))))
  (pss_one (ps_ret (pe_callTy d_tupleOf (by rfl) T.b_tuple (by decide +kernel) (pa_cons (pe_callB (cr_sortD (room64 hu)) (by rfl) T.b_sorted (by decide +kernel) (pa_cons (dv 1) pa_nil)) pa_nil))))))
theorem ok_whereQ (T : Txt K mg A)  
    (len : ∀ vs H Q E, (sp_whereQ A) vs H Q E → vs.length = 2) (rd : ∀ vs H Q E, (sp_whereQ A) vs H Q E → t_whereQ K A E  { nx := fun _ H' => Q .non H', rt := Q } (L2.start N_whereQ vs) H) :
    FnOk P w K mg base (L2N.CX P w) 1 T.whereQ.a T.whereQ.fd ["heap", "item"] (sp_whereQ A) := by
  refine okN T.whereQ.F sc_whereQ len (fun cdv AA outer s H vs Q E hr h => ⟨t_whereQ K A E , ?_, rd vs H Q E h⟩)
  have hr : Room 0 _ := hr
  have hu := hr
  have nd := sc_whereQ.nd
  exact (pss_cons (ps_set (i := 2) nd rfl (Or.inl rfl) (pe_lst (pa_cons (pe_tup (pa_cons (dv 0) (pa_cons (pe_un d_neg pe_int) (pa_cons pe_int pa_nil)))) pa_nil)))
  (pss_cons (ps_set (i := 3) nd rfl (Or.inl rfl) pe_int)
  (pss_cons (ps_while (L2.passes_of rfl) (dt_cmp d_lt (dv 3) (pe_callB d_len (by rfl) T.b_len (by decide +kernel) (pa_cons (dv 2) pa_nil)) (nomark _))
  (pss_cons (ps_set (i := 4) nd rfl (Or.inl rfl) (pe_ix d_ix (pe_ix d_ix (dv 2) (dv 3) (fun _ _ => rfl)) pe_int (fun _ _ => rfl)))
  (pss_cons (ps_if (PW.pt (pw_and (dt_cmp d_gt (pe_callB d_len (by rfl) T.b_len (by decide +kernel) (pa_cons (dv 4) pa_nil)) pe_int (nomark _)) (pw_and1 (dt_cmp (d_eqD hu) (pe_ix d_ix (dv 4) pe_int (fun _ _ => rfl)) (dv 1) (nomark _)))))
  (pss_one (ps_ret (pe_tup (pa_cons (dv 2) (pa_cons (dv 3) pa_nil)))))
  pss_nil)
  (pss_cons (ps_if (PW.pt (pw_and (dt_cmp d_gt (pe_callB d_len (by rfl) T.b_len (by decide +kernel) (pa_cons (dv 4) pa_nil)) pe_int (nomark _)) (pw_and1 (dt_cmp (op_ltD (room64 hu)) (pe_ix d_ix (dv 4) pe_int (fun _ _ => rfl)) (dv 1) (nomark _)))))
  (pss_one (ps_expr (d_bm PySem.F.plainAttrs_list PySem.F.slot_list_extend PySem.F.type_list_extend mt_extend (dv 2) (pa_cons (pe_lst (pa_cons (pe_tup (pa_cons (pe_ix d_ix (dv 4) pe_int (fun _ _ => rfl)) (pa_cons (dv 3) (pa_cons pe_int pa_nil)))) (pa_cons (pe_tup (pa_cons (pe_ix d_ix (dv 4) pe_int (fun _ _ => rfl)) (pa_cons (dv 3) (pa_cons pe_int pa_nil)))) pa_nil))) pa_nil))))
  pss_nil)
  (pss_one (d_aug (i := 3) iop_add nd rfl (Or.inl rfl) pe_int))))))
  (pss_one (L2N.ps_raise rfl (tkN rfl rfl rfl rfl) (L2N.pmk_own PySem.F.excBase_ValueError T.x_NotThere.ex T.x_NotThere.g T.x_NotThere.k (raises_own T.x_NotThere.b T.x_NotThere.t) (by rfl)))))))
theorem ok_taken_out (T : Txt K mg A)  (G_node_of : FnOk P w K mg base CX0 2 T.node_of.a T.node_of.fd ["item", "one", "other"] sp_node_of) (G_met : FnOk P w K mg base CX0 3 T.met.a T.met.fd ["one", "other"] sp_met) (G_whereQ : FnOk P w K mg base (L2N.CX P w) 1 T.whereQ.a T.whereQ.fd ["heap", "item"] (sp_whereQ A))
    (len : ∀ vs H Q E, (sp_taken_out A) vs H Q E → vs.length = 2) (rd : ∀ vs H Q E, (sp_taken_out A) vs H Q E → t_taken_out K A E  { nx := fun _ H' => Q .non H', rt := Q } (L2.start N_taken_out vs) H) :
    FnOk P w K mg base (L2N.CX P w) 4 T.taken_out.a T.taken_out.fd ["heap", "item"] (sp_taken_out A) := by
  refine okN T.taken_out.F sc_taken_out len (fun cdv AA outer s H vs Q E hr h => ⟨t_taken_out K A E , ?_, rd vs H Q E h⟩)
  have hr : Room 3 _ := hr
  have hu := hr
  have nd := sc_taken_out.nd
  exact (pss_cons (ps_asg (c_call G_whereQ (hr.mono (by decide)) T.whereQ.g T.whereQ.F.kp T.whereQ.b (fun σ => L2N.passAt (tkN rfl rfl rfl rfl) σ) (pa_cons (dv 0) (pa_cons (dv 1) pa_nil))) (dg_tup (by rfl) (dg_cons (pg_name (i := 2) nd rfl (Or.inl rfl)) (dg_cons (pg_name (i := 3) nd rfl (Or.inl rfl)) dg_nil))))
  (pss_cons (ps_set (i := 4) nd rfl (Or.inl rfl) (c_call G_met (hr.mono (by decide)) T.met.g T.met.F.kp T.met.b (fun _ => at0) (pa_cons (pe_ix d_ix (pe_ix d_ix (pe_ix d_ix (dv 2) (dv 3) (fun _ _ => rfl)) pe_int (fun _ _ => rfl)) pe_int (fun _ _ => rfl)) (pa_cons (pe_ix d_ix (pe_ix d_ix (pe_ix d_ix (dv 2) (dv 3) (fun _ _ => rfl)) pe_int (fun _ _ => rfl)) pe_int (fun _ _ => rfl)) pa_nil))))
  (pss_cons (ps_while (L2.passes_of rfl) (dt_cmp d_ge (pe_ix d_ix (pe_ix d_ix (dv 2) (dv 3) (fun _ _ => rfl)) pe_int (fun _ _ => rfl)) pe_int (nomark _))
  (pss_cons (ps_asg (pe_ix d_ix (dv 2) (dv 3) (fun _ _ => rfl)) (dg_tup (by rfl) (dg_cons (pg_name (i := 5) nd rfl (Or.inl rfl)) (dg_cons (pg_name (i := 6) nd rfl (Or.inl rfl)) (dg_cons (pg_name (i := 7) nd rfl (Or.inl rfl)) dg_nil)))))
  (pss_cons (ps_set (i := 8) nd rfl (Or.inl rfl) (pe_ix d_ix (pe_ix d_ix (dv 2) (dv 6) (fun _ _ => rfl)) pe_int (fun _ _ => rfl)))
  (pss_cons (ps_set (i := 4) nd rfl (Or.inl rfl) (pe_ifExp (dt_cmp d_eq (dv 7) pe_int (nomark _)) (c_call G_node_of (hr.mono (by decide)) T.node_of.g T.node_of.F.kp T.node_of.b (fun _ => at0) (pa_cons (pe_ix d_ix (dv 8) pe_int (fun _ _ => rfl)) (pa_cons (dv 4) (pa_cons (pe_ix d_ix (dv 8) pe_int (fun _ _ => rfl)) pa_nil)))) (c_call G_node_of (hr.mono (by decide)) T.node_of.g T.node_of.F.kp T.node_of.b (fun _ => at0) (pa_cons (pe_ix d_ix (dv 8) pe_int (fun _ _ => rfl)) (pa_cons (pe_ix d_ix (dv 8) pe_int (fun _ _ => rfl)) (pa_cons (dv 4) pa_nil))))))
  (pss_one (ps_set (i := 3) nd rfl (Or.inl rfl) (dv 6)))))))
  (pss_one (ps_ret (dv 4))))))
theorem ok_is_number (T : Txt K mg A)  
    (len : ∀ vs H Q E, sp_is_number vs H Q E → vs.length = 3) (rd : ∀ vs H Q E, sp_is_number vs H Q E → t_is_number K A E  { nx := fun _ H' => Q .non H', rt := Q } (L2.start N_is_number vs) H) :
    FnOk P w K mg base CX0 1 T.is_number.a T.is_number.fd ["value", "least", "most"] sp_is_number := by
  refine T.is_number.F.ok sc_is_number len (fun cdv AA outer s H vs Q E hr h => ⟨t_is_number K A E , ?_, rd vs H Q E h⟩)
  have hr : Room 0 _ := hr
  have hu := hr
  have nd := sc_is_number.nd
  exact (pss_one (ps_ret (d_and (pe_callB d_isi (by rfl) T.b_isinstance (by decide +kernel) (pa_cons (dv 0) (pa_cons (pe_bltn (by rfl) T.b_int boot_int rfl) pa_nil))) (d_and (d_not (pe_callB d_isi (by rfl) T.b_isinstance (by decide +kernel) (pa_cons (dv 0) (pa_cons (pe_bltn (by rfl) T.b_bool boot_bool rfl) pa_nil)))) (pe_one (d_chain d_le d_le (dv 1) (dv 0) (dv 2)))))))
theorem ok_rank_place (T : Txt K mg A)  
    (len : ∀ vs H Q E, sp_rank_place vs H Q E → vs.length = 3) (rd : ∀ vs H Q E, sp_rank_place vs H Q E → t_rank_place K A E  { nx := fun _ H' => Q .non H', rt := Q } (L2.start N_rank_place vs) H) :
    FnOk P w K mg base CX0 1 T.rank_place.a T.rank_place.fd ["many", "part", "whole"] sp_rank_place := by
  refine T.rank_place.F.ok sc_rank_place len (fun cdv AA outer s H vs Q E hr h => ⟨t_rank_place K A E , ?_, rd vs H Q E h⟩)
  have hr : Room 0 _ := hr
  have hu := hr
  have nd := sc_rank_place.nd
  exact (pss_one (ps_ret (pe_op d_div (pe_op d_mul (pe_op d_sub (dv 0) pe_int) (dv 1)) (dv 2))))
theorem ok_Ranked__init_ (T : Txt K mg A)  (G_heap_of : FnOk P w K mg base CX0 1 T.heap_of.a T.heap_of.fd ["items"] sp_heap_of) (G_is_number : FnOk P w K mg base CX0 1 T.is_number.a T.is_number.fd ["value", "least", "most"] sp_is_number)
    (len : ∀ vs H Q E, (sp_Ranked__init_ A) vs H Q E → vs.length = 3) (rd : ∀ vs H Q E, (sp_Ranked__init_ A) vs H Q E → t_Ranked__init_ K A E  { nx := fun _ H' => Q .non H', rt := Q } (L2.start N_Ranked__init_ vs) H) :
    FnOk P w K mg base (L2N.CX P w) 2 T.Ranked__init_.a T.Ranked__init_.fd ["self", "part", "whole"] (sp_Ranked__init_ A) := by
  refine okN T.Ranked__init_.F sc_Ranked__init_ len (fun cdv AA outer s H vs Q E hr h => ⟨t_Ranked__init_ K A E , ?_, rd vs H Q E h⟩)
  have hr : Room 1 _ := hr
  have hu := hr
  have nd := sc_Ranked__init_.nd
  exact (pss_cons (ps_if (PW.pt (pw_or (pt_not (dt_tru (c_call G_is_number (hr.mono (by decide)) T.is_number.g T.is_number.F.kp T.is_number.b (fun _ => at0) (pa_cons (dv 2) (pa_cons pe_int (pa_cons (let ⟨_, hm, hr⟩ := T.c_MOST_WHOLE.ex; pe_glob (by rfl) hm hr) pa_nil)))))) (pw_or1 (pt_not (dt_tru (c_call G_is_number (hr.mono (by decide)) T.is_number.g T.is_number.F.kp T.is_number.b (fun _ => at0) (pa_cons (dv 1) (pa_cons pe_int (pa_cons (dv 2) pa_nil)))))))))
  (pss_one (L2N.ps_raise rfl (tkN rfl rfl rfl rfl) (L2N.pmk_own PySem.F.excBase_ValueError T.x_OutOfRange.ex T.x_OutOfRange.g T.x_OutOfRange.k (raises_own T.x_OutOfRange.b T.x_OutOfRange.t) (by rfl))))
  pss_nil)
  (pss_cons (d_sfld T.Ranked__init_.cl T.n_Ranked_part (dv 0) (dv 1))
  (pss_cons (d_sfld T.Ranked__init_.cl T.n_Ranked_whole (dv 0) (dv 2))
  (pss_cons (d_sfld T.Ranked__init_.cl T.n_Ranked_low (dv 0) (c_call G_heap_of (hr.mono (by decide)) T.heap_of.g T.heap_of.F.kp T.heap_of.b (fun _ => at0) (pa_cons (pe_tup pa_nil) pa_nil)))
  (pss_cons (d_sfld T.Ranked__init_.cl T.n_Ranked_high (dv 0) (c_call G_heap_of (hr.mono (by decide)) T.heap_of.g T.heap_of.F.kp T.heap_of.b (fun _ => at0) (pa_cons (pe_tup pa_nil) pa_nil)))
  (pss_cons (d_sfld T.Ranked__init_.cl T.n_Ranked_lows (dv 0) pe_int)
  (pss_one (d_sfld T.Ranked__init_.cl T.n_Ranked_many (dv 0) pe_int))))))))
theorem ok_Ranked_even (T : Txt K mg A)  (G_put_in : FnOk P w K mg base CX0 4 T.put_in.a T.put_in.fd ["heap", "item"] sp_put_in) (G_without_least : FnOk P w K mg base (L2N.CX P w) 4 T.without_least.a T.without_least.fd ["heap"] sp_without_least) (G_least : FnOk P w K mg base (L2N.CX P w) 1 T.least.a T.least.fd ["heap"] sp_least) (G_rank_place : FnOk P w K mg base CX0 1 T.rank_place.a T.rank_place.fd ["many", "part", "whole"] sp_rank_place)
    (len : ∀ vs H Q E, (sp_Ranked_even A) vs H Q E → vs.length = 1) (rd : ∀ vs H Q E, (sp_Ranked_even A) vs H Q E → t_Ranked_even K A E  { nx := fun _ H' => Q .non H', rt := Q } (L2.start N_Ranked_even vs) H) :
    FnOk P w K mg base (L2N.CX P w) 5 T.Ranked_even.a T.Ranked_even.fd ["self"] (sp_Ranked_even A) := by
  refine okN T.Ranked_even.F sc_Ranked_even len (fun cdv AA outer s H vs Q E hr h => ⟨t_Ranked_even K A E , ?_, rd vs H Q E h⟩)
  have hr : Room 4 _ := hr
  have hu := hr
  have nd := sc_Ranked_even.nd
  exact (pss_cons (ps_set (i := 1) nd rfl (Or.inl rfl) (pe_ifExp (dt_cmp d_gt (d_fld T.Ranked__init_.cl T.n_Ranked_many (dv 0)) pe_int (nomark _)) (pe_op d_add2 (c_call G_rank_place (hr.mono (by decide)) T.rank_place.g T.rank_place.F.kp T.rank_place.b (fun _ => at0) (pa_cons (d_fld T.Ranked__init_.cl T.n_Ranked_many (dv 0)) (pa_cons (d_fld T.Ranked__init_.cl T.n_Ranked_part (dv 0)) (pa_cons (d_fld T.Ranked__init_.cl T.n_Ranked_whole (dv 0)) pa_nil)))) pe_int) pe_int))
  (pss_cons (ps_while (L2.passes_of rfl) (dt_cmp d_lt (d_fld T.Ranked__init_.cl T.n_Ranked_lows (dv 0)) (dv 1) (nomark _))
  (pss_cons (ps_set (i := 2) nd rfl (Or.inl rfl) (pe_ix d_ix (c_call G_least (hr.mono (by decide)) T.least.g T.least.F.kp T.least.b (fun σ => L2N.passAt (tkN rfl rfl rfl rfl) σ) (pa_cons (d_fld T.Ranked__init_.cl T.n_Ranked_high (dv 0)) pa_nil)) pe_int (fun _ _ => rfl)))
  (pss_cons (d_sfld T.Ranked__init_.cl T.n_Ranked_high (dv 0) (c_call G_without_least (hr.mono (by decide)) T.without_least.g T.without_least.F.kp T.without_least.b (fun σ => L2N.passAt (tkN rfl rfl rfl rfl) σ) (pa_cons (d_fld T.Ranked__init_.cl T.n_Ranked_high (dv 0)) pa_nil)))
  (pss_cons (d_sfld T.Ranked__init_.cl T.n_Ranked_low (dv 0) (c_call G_put_in (hr.mono (by decide)) T.put_in.g T.put_in.F.kp T.put_in.b (fun _ => at0) (pa_cons (d_fld T.Ranked__init_.cl T.n_Ranked_low (dv 0)) (pa_cons (pe_tup (pa_cons (pe_op d_sub pe_int (dv 2)) pa_nil)) pa_nil))))
  (pss_one (d_saug iop_add T.Ranked__init_.cl T.n_Ranked_lows (dv 0) pe_int))))))
  (pss_one (ps_while (L2.passes_of rfl) (dt_cmp d_gt (d_fld T.Ranked__init_.cl T.n_Ranked_lows (dv 0)) (dv 1) (nomark _))
  (pss_cons (ps_set (i := 2) nd rfl (Or.inl rfl) (pe_op d_sub pe_int (pe_ix d_ix (c_call G_least (hr.mono (by decide)) T.least.g T.least.F.kp T.least.b (fun σ => L2N.passAt (tkN rfl rfl rfl rfl) σ) (pa_cons (d_fld T.Ranked__init_.cl T.n_Ranked_low (dv 0)) pa_nil)) pe_int (fun _ _ => rfl))))
  (pss_cons (d_sfld T.Ranked__init_.cl T.n_Ranked_low (dv 0) (c_call G_without_least (hr.mono (by decide)) T.without_least.g T.without_least.F.kp T.without_least.b (fun σ => L2N.passAt (tkN rfl rfl rfl rfl) σ) (pa_cons (d_fld T.Ranked__init_.cl T.n_Ranked_low (dv 0)) pa_nil)))
  (pss_cons (d_sfld T.Ranked__init_.cl T.n_Ranked_high (dv 0) (c_call G_put_in (hr.mono (by decide)) T.put_in.g T.put_in.F.kp T.put_in.b (fun _ => at0) (pa_cons (d_fld T.Ranked__init_.cl T.n_Ranked_high (dv 0)) (pa_cons (pe_tup (pa_cons (dv 2) pa_nil)) pa_nil))))
  (pss_one (d_saug iop_sub T.Ranked__init_.cl T.n_Ranked_lows (dv 0) pe_int)))))))))
theorem ok_Ranked_put (T : Txt K mg A)  (G_Ranked_even : FnOk P w K mg base (L2N.CX P w) 5 T.Ranked_even.a T.Ranked_even.fd ["self"] (sp_Ranked_even A)) (G_least : FnOk P w K mg base (L2N.CX P w) 1 T.least.a T.least.fd ["heap"] sp_least) (G_put_in : FnOk P w K mg base CX0 4 T.put_in.a T.put_in.fd ["heap", "item"] sp_put_in)
    (len : ∀ vs H Q E, (sp_Ranked_put A) vs H Q E → vs.length = 2) (rd : ∀ vs H Q E, (sp_Ranked_put A) vs H Q E → t_Ranked_put K A E  { nx := fun _ H' => Q .non H', rt := Q } (L2.start N_Ranked_put vs) H) :
    FnOk P w K mg base (L2N.CX P w) 6 T.Ranked_put.a T.Ranked_put.fd ["self", "number"] (sp_Ranked_put A) := by
  refine okN T.Ranked_put.F sc_Ranked_put len (fun cdv AA outer s H vs Q E hr h => ⟨t_Ranked_put K A E , ?_, rd vs H Q E h⟩)
  have hr : Room 5 _ := hr
  have hu := hr
  have nd := sc_Ranked_put.nd
  exact (pss_cons (ps_if (PW.pt (pw_and (dt_cmp d_gt (d_fld T.Ranked__init_.cl T.n_Ranked_lows (dv 0)) pe_int (nomark _)) (pw_and1 (dt_cmp d_lt (dv 1) (pe_op d_sub pe_int (pe_ix d_ix (c_call G_least (hr.mono (by decide)) T.least.g T.least.F.kp T.least.b (fun σ => L2N.passAt (tkN rfl rfl rfl rfl) σ) (pa_cons (d_fld T.Ranked__init_.cl T.n_Ranked_low (dv 0)) pa_nil)) pe_int (fun _ _ => rfl))) (nomark _)))))
  (pss_cons (d_sfld T.Ranked__init_.cl T.n_Ranked_low (dv 0) (c_call G_put_in (hr.mono (by decide)) T.put_in.g T.put_in.F.kp T.put_in.b (fun _ => at0) (pa_cons (d_fld T.Ranked__init_.cl T.n_Ranked_low (dv 0)) (pa_cons (pe_tup (pa_cons (pe_op d_sub pe_int (dv 1)) pa_nil)) pa_nil))))
  (pss_one (d_saug iop_add T.Ranked__init_.cl T.n_Ranked_lows (dv 0) pe_int)))
  (pss_one (d_sfld T.Ranked__init_.cl T.n_Ranked_high (dv 0) (c_call G_put_in (hr.mono (by decide)) T.put_in.g T.put_in.F.kp T.put_in.b (fun _ => at0) (pa_cons (d_fld T.Ranked__init_.cl T.n_Ranked_high (dv 0)) (pa_cons (pe_tup (pa_cons (dv 1) pa_nil)) pa_nil))))))
  (pss_cons (d_saug iop_add T.Ranked__init_.cl T.n_Ranked_many (dv 0) pe_int)
  (pss_one (ps_expr (d_meth0 (dv 0) T.Ranked__init_.cl T.Ranked_even.m G_Ranked_even (hr.mono (by decide)) T.Ranked_even.b (fun σ => L2N.passAt (tkN rfl rfl rfl rfl) σ))))))
theorem ok_Ranked_drop (T : Txt K mg A)  (G_Ranked_even : FnOk P w K mg base (L2N.CX P w) 5 T.Ranked_even.a T.Ranked_even.fd ["self"] (sp_Ranked_even A)) (G_least : FnOk P w K mg base (L2N.CX P w) 1 T.least.a T.least.fd ["heap"] sp_least) (G_taken_out : FnOk P w K mg base (L2N.CX P w) 4 T.taken_out.a T.taken_out.fd ["heap", "item"] (sp_taken_out A))
    (len : ∀ vs H Q E, (sp_Ranked_drop A) vs H Q E → vs.length = 2) (rd : ∀ vs H Q E, (sp_Ranked_drop A) vs H Q E → t_Ranked_drop K A E  { nx := fun _ H' => Q .non H', rt := Q } (L2.start N_Ranked_drop vs) H) :
    FnOk P w K mg base (L2N.CX P w) 6 T.Ranked_drop.a T.Ranked_drop.fd ["self", "number"] (sp_Ranked_drop A) := by
  refine okN T.Ranked_drop.F sc_Ranked_drop len (fun cdv AA outer s H vs Q E hr h => ⟨t_Ranked_drop K A E , ?_, rd vs H Q E h⟩)
  have hr : Room 5 _ := hr
  have hu := hr
  have nd := sc_Ranked_drop.nd
  exact (pss_cons (ps_if (PW.pt (pw_and (dt_cmp d_gt (d_fld T.Ranked__init_.cl T.n_Ranked_lows (dv 0)) pe_int (nomark _)) (pw_and1 (dt_cmp d_le (dv 1) (pe_op d_sub pe_int (pe_ix d_ix (c_call G_least (hr.mono (by decide)) T.least.g T.least.F.kp T.least.b (fun σ => L2N.passAt (tkN rfl rfl rfl rfl) σ) (pa_cons (d_fld T.Ranked__init_.cl T.n_Ranked_low (dv 0)) pa_nil)) pe_int (fun _ _ => rfl))) (nomark _)))))
  (pss_cons (d_sfld T.Ranked__init_.cl T.n_Ranked_low (dv 0) (c_call G_taken_out (hr.mono (by decide)) T.taken_out.g T.taken_out.F.kp T.taken_out.b (fun σ => L2N.passAt (tkN rfl rfl rfl rfl) σ) (pa_cons (d_fld T.Ranked__init_.cl T.n_Ranked_low (dv 0)) (pa_cons (pe_tup (pa_cons (pe_op d_sub pe_int (dv 1)) pa_nil)) pa_nil))))
  (pss_one (d_saug iop_sub T.Ranked__init_.cl T.n_Ranked_lows (dv 0) pe_int)))
  (pss_one (d_sfld T.Ranked__init_.cl T.n_Ranked_high (dv 0) (c_call G_taken_out (hr.mono (by decide)) T.taken_out.g T.taken_out.F.kp T.taken_out.b (fun σ => L2N.passAt (tkN rfl rfl rfl rfl) σ) (pa_cons (d_fld T.Ranked__init_.cl T.n_Ranked_high (dv 0)) (pa_cons (pe_tup (pa_cons (dv 1) pa_nil)) pa_nil))))))
  (pss_cons (d_saug iop_sub T.Ranked__init_.cl T.n_Ranked_many (dv 0) pe_int)
  (pss_one (ps_expr (d_meth0 (dv 0) T.Ranked__init_.cl T.Ranked_even.m G_Ranked_even (hr.mono (by decide)) T.Ranked_even.b (fun σ => L2N.passAt (tkN rfl rfl rfl rfl) σ))))))
theorem ok_Ranked_told (T : Txt K mg A)  (G_least : FnOk P w K mg base (L2N.CX P w) 1 T.least.a T.least.fd ["heap"] sp_least)
    (len : ∀ vs H Q E, (sp_Ranked_told A) vs H Q E → vs.length = 1) (rd : ∀ vs H Q E, (sp_Ranked_told A) vs H Q E → t_Ranked_told K A E  { nx := fun _ H' => Q .non H', rt := Q } (L2.start N_Ranked_told vs) H) :
    FnOk P w K mg base (L2N.CX P w) 2 T.Ranked_told.a T.Ranked_told.fd ["self"] (sp_Ranked_told A) := by
  refine okN T.Ranked_told.F sc_Ranked_told len (fun cdv AA outer s H vs Q E hr h => ⟨t_Ranked_told K A E , ?_, rd vs H Q E h⟩)
  have hr : Room 1 _ := hr
  have hu := hr
  have nd := sc_Ranked_told.nd
  exact (pss_cons (ps_if (dt_cmp d_eq (d_fld T.Ranked__init_.cl T.n_Ranked_many (dv 0)) pe_int (nomark _))
  (pss_one (L2N.ps_raise rfl (tkN rfl rfl rfl rfl) (L2N.pmk_own PySem.F.excBase_ValueError T.x_NotThere.ex T.x_NotThere.g T.x_NotThere.k (raises_own T.x_NotThere.b T.x_NotThere.t) (by rfl))))
  pss_nil)
  (pss_one (ps_ret (pe_op d_sub pe_int (pe_ix d_ix (c_call G_least (hr.mono (by decide)) T.least.g T.least.F.kp T.least.b (fun σ => L2N.passAt (tkN rfl rfl rfl rfl) σ) (pa_cons (d_fld T.Ranked__init_.cl T.n_Ranked_low (dv 0)) pa_nil)) pe_int (fun _ _ => rfl))))))
theorem ok_Ranked_numbers (T : Txt K mg A)  (G_items_of : FnOk P w K mg base CX0 1 T.items_of.a T.items_of.fd ["heap"] sp_items_of)
    (len : ∀ vs H Q E, (sp_Ranked_numbers A) vs H Q E → vs.length = 1) (rd : ∀ vs H Q E, (sp_Ranked_numbers A) vs H Q E → t_Ranked_numbers K A E  { nx := fun _ H' => Q .non H', rt := Q } (L2.start N_Ranked_numbers vs) H) :
    FnOk P w K mg base CX0 2 T.Ranked_numbers.a T.Ranked_numbers.fd ["self"] (sp_Ranked_numbers A) := by
  refine T.Ranked_numbers.F.ok sc_Ranked_numbers len (fun cdv AA outer s H vs Q E hr h => ⟨t_Ranked_numbers K A E , ?_, rd vs H Q E h⟩)
  have hr : Room 1 _ := hr
  have hu := hr
  have nd := sc_Ranked_numbers.nd
  exact (pss_cons (d_setT (i := 1) (own := [("one", 2)]) rfl nd rfl rfl (sw_true rfl rfl rfl (by decide +kernel)) (c_call G_items_of (hr.mono (by decide)) T.items_of.g T.items_of.F.kp T.items_of.b (fun _ => at0) (pa_cons (d_fld T.Ranked__init_.cl T.n_Ranked_low (dv 0)) pa_nil)) (blkOk_by (N := N_Ranked_numbers) (sc := (defScope s_Ranked_numbers)) (by decide +kernel)) (fun _ _ _ _ _ => (pg_name (i := 2) nd rfl (Or.inl rfl))) (fun _ _ _ _ _ => pts_nil) (fun _ _ _ _ _ => (pe_op d_sub pe_int (pe_ix d_ix (dv 2) pe_int (fun _ _ => rfl)))))
  (pss_one (ps_ret (pe_callTy d_tupleOf (by rfl) T.b_tuple (by decide +kernel) (pa_cons (pe_lst (d_star (pe_callB cr_sortedI (by rfl) T.b_sorted (by decide +kernel) (pa_cons (dv 1) pa_nil)) (d_star (d_lcT (own := [("one", 2)]) rfl nd (c_call G_items_of (hr.mono (by decide)) T.items_of.g T.items_of.F.kp T.items_of.b (fun _ => at0) (pa_cons (d_fld T.Ranked__init_.cl T.n_Ranked_high (dv 0)) pa_nil)) (blkOk_by (N := N_Ranked_numbers) (sc := (defScope s_Ranked_numbers)) (by decide +kernel)) (fun _ _ _ _ _ => (pg_name (i := 2) nd rfl (Or.inl rfl))) (fun _ _ _ _ _ => pts_nil) (fun _ _ _ _ _ => (pe_ix d_ix (dv 2) pe_int (fun _ _ => rfl)))) pa_nil))) pa_nil)))))
theorem ok_Ranked_has (T : Txt K mg A)  (G_whereQ : FnOk P w K mg base (L2N.CX P w) 1 T.whereQ.a T.whereQ.fd ["heap", "item"] (sp_whereQ A))
    (len : ∀ vs H Q E, (sp_Ranked_has A) vs H Q E → vs.length = 2) (rd : ∀ vs H Q E, (sp_Ranked_has A) vs H Q E → t_Ranked_has K A E  { nx := fun _ H' => Q .non H', rt := Q } (L2.start N_Ranked_has vs) H) :
    FnOk P w K mg base CX0 2 T.Ranked_has.a T.Ranked_has.fd ["self", "number"] (sp_Ranked_has A) := by
  refine T.Ranked_has.F.ok sc_Ranked_has len (fun cdv AA outer s H vs Q E hr h => ⟨t_Ranked_has K A E , ?_, rd vs H Q E h⟩)
  have hr : Room 1 _ := hr
  have hu := hr
  have nd := sc_Ranked_has.nd
  exact (pss_cons (d_forT PassesOwn.never rfl (pe_tup (pa_cons (pe_tup (pa_cons (d_fld T.Ranked__init_.cl T.n_Ranked_low (dv 0)) (pa_cons (pe_tup (pa_cons (pe_op d_sub pe_int (dv 1)) pa_nil)) pa_nil))) (pa_cons (pe_tup (pa_cons (d_fld T.Ranked__init_.cl T.n_Ranked_high (dv 0)) (pa_cons (pe_tup (pa_cons (dv 1) pa_nil)) pa_nil))) pa_nil))) (dg_tup (by rfl) (dg_cons (pg_name (i := 2) nd rfl (Or.inl rfl)) (dg_cons (pg_name (i := 3) nd rfl (Or.inl rfl)) dg_nil)))
  (pss_one (d_tryOnly (tb := fun W => (tSeq (tDrop (tCallS (sp_whereQ A) (WE W) (tCons (dVar 2) (tCons (dVar 3) tNil))))
  (tRet (tC (.bl true))))) (ts := fun a cls d => tCont) (Wout := (fun _ _ _ _ => False)) rfl rfl ⟨rfl, by decide, Or.inl T.x_NotThere.g⟩ takesN0
  (fun W pn xe tk hpa => (pss_cons (ps_expr (c_call G_whereQ (hr.mono (by decide)) T.whereQ.g T.whereQ.F.kp T.whereQ.b (fun σ => L2N.passAt tk σ) (pa_cons (dv 2) (pa_cons (dv 3) pa_nil))))
  (pss_one (ps_ret pe_bl))))
  (fun a oe cls d pn hz hf => (pss_one ps_continue)))))
  (pss_one (ps_ret pe_bl)))
theorem ok_rank_of_all (T : Txt K mg A)  (G_rank_place : FnOk P w K mg base CX0 1 T.rank_place.a T.rank_place.fd ["many", "part", "whole"] sp_rank_place)
    (len : ∀ vs H Q E, (sp_rank_of_all A) vs H Q E → vs.length = 3) (rd : ∀ vs H Q E, (sp_rank_of_all A) vs H Q E → t_rank_of_all K A E  { nx := fun _ H' => Q .non H', rt := Q } (L2.start N_rank_of_all vs) H) :
    FnOk P w K mg base (L2N.CX P w) 2 T.rank_of_all.a T.rank_of_all.fd ["numbers", "part", "whole"] (sp_rank_of_all A) := by
  refine okN T.rank_of_all.F sc_rank_of_all len (fun cdv AA outer s H vs Q E hr h => ⟨t_rank_of_all K A E , ?_, rd vs H Q E h⟩)
  have hr : Room 1 _ := hr
  have hu := hr
  have nd := sc_rank_of_all.nd
  exact (pss_cons (ps_if (dt_cmp d_eq (pe_callB d_len (by rfl) T.b_len (by decide +kernel) (pa_cons (dv 0) pa_nil)) pe_int (nomark _))
  (pss_one (L2N.ps_raise rfl (tkN rfl rfl rfl rfl) (L2N.pmk_own PySem.F.excBase_ValueError T.x_NotThere.ex T.x_NotThere.g T.x_NotThere.k (raises_own T.x_NotThere.b T.x_NotThere.t) (by rfl))))
  pss_nil)
  (pss_one (ps_ret (pe_ix d_ix (pe_callB cr_sortedLT (by rfl) T.b_sorted (by decide +kernel) (pa_cons (dv 0) pa_nil)) (c_call G_rank_place (hr.mono (by decide)) T.rank_place.g T.rank_place.F.kp T.rank_place.b (fun _ => at0) (pa_cons (pe_callB d_len (by rfl) T.b_len (by decide +kernel) (pa_cons (dv 0) pa_nil)) (pa_cons (dv 1) (pa_cons (dv 2) pa_nil)))) (fun _ _ => rfl)))))
theorem ok_keyed (T : Txt K mg A)  
    (len : ∀ vs H Q E, sp_keyed vs H Q E → vs.length = 1) (rd : ∀ vs H Q E, sp_keyed vs H Q E → t_keyed K A E  { nx := fun _ H' => Q .non H', rt := Q } (L2.start N_keyed vs) H) :
    FnOk P w K mg base CX0 1 T.keyed.a T.keyed.fd ["row"] sp_keyed := by
  refine T.keyed.F.ok sc_keyed len (fun cdv AA outer s H vs Q E hr h => ⟨t_keyed K A E , ?_, rd vs H Q E h⟩)
  have hr : Room 0 _ := hr
  have hu := hr
  have nd := sc_keyed.nd
  exact (pss_cons (ps_asg (dv 0) (dg_tup (by rfl) (dg_cons (pg_name (i := 1) nd rfl (Or.inr rfl)) (dg_cons (pg_name (i := 2) nd rfl (Or.inl rfl)) dg_nil))))
  (pss_one (ps_ret (d_lcE (own := [("at", 3), ("one", 4)]) rfl nd T.b_enumerate (pa_cons (dv 2) pa_nil) (blkOk_by (N := N_keyed) (sc := (defScope s_keyed)) (by decide +kernel)) (fun _ _ _ _ _ => (dg_tup (by rfl) (dg_cons (pg_name (i := 3) nd rfl (Or.inl rfl)) (dg_cons (pg_name (i := 4) nd rfl (Or.inl rfl)) dg_nil)))) (fun _ _ _ _ _ => pts_nil) (fun _ _ _ _ _ => (pe_tup (pa_cons (pe_tup (pa_cons (dv 1) (pa_cons (dv 3) pa_nil))) (pa_cons (dv 4) pa_nil))))))))
theorem ok_is_meant (T : Txt K mg A)  
    (len : ∀ vs H Q E, sp_is_meant vs H Q E → vs.length = 3) (rd : ∀ vs H Q E, sp_is_meant vs H Q E → t_is_meant K A E  { nx := fun _ H' => Q .non H', rt := Q } (L2.start N_is_meant vs) H) :
    FnOk P w K mg base CX0 1 T.is_meant.a T.is_meant.fd ["said", "place", "word"] sp_is_meant := by
  refine T.is_meant.F.ok sc_is_meant len (fun cdv AA outer s H vs Q E hr h => ⟨t_is_meant K A E , ?_, rd vs H Q E h⟩)
  have hr : Room 0 _ := hr
  have hu := hr
  have nd := sc_is_meant.nd
  exact (pss_one (ps_ret (d_and (pe_cmpR d_in (dv 1) (pe_tup (pa_cons pe_str (pa_cons (pe_ix d_ix (dv 0) pe_int (fun _ _ => rfl)) pa_nil))) (by rfl)) (pe_one (pe_cmpR d_in (dv 2) (pe_tup (pa_cons pe_str (pa_cons (pe_ix d_ix (dv 0) pe_int (fun _ _ => rfl)) pa_nil))) (by rfl))))))
theorem ok_numbers_said (T : Txt K mg A)  (G_is_meant : FnOk P w K mg base CX0 1 T.is_meant.a T.is_meant.fd ["said", "place", "word"] sp_is_meant) (G_keyed : FnOk P w K mg base CX0 1 T.keyed.a T.keyed.fd ["row"] sp_keyed)
    (len : ∀ vs H Q E, sp_numbers_said vs H Q E → vs.length = 3) (rd : ∀ vs H Q E, sp_numbers_said vs H Q E → t_numbers_said K A E  { nx := fun _ H' => Q .non H', rt := Q } (L2.start N_numbers_said vs) H) :
    FnOk P w K mg base CX0 2 T.numbers_said.a T.numbers_said.fd ["trace_done", "place", "word"] sp_numbers_said := by
  refine T.numbers_said.F.ok sc_numbers_said len (fun cdv AA outer s H vs Q E hr h => ⟨t_numbers_said K A E , ?_, rd vs H Q E h⟩)
  have hr : Room 1 _ := hr
  have hu := hr
  have nd := sc_numbers_said.nd
  exact (pss_cons (d_set2T (i := 3) (own := [("row", 4), ("pair", 5)]) (vs1 := [5]) rfl nd rfl rfl (sw_true rfl rfl rfl (by decide +kernel)) (dv 0) (blkOk_by (N := N_numbers_said) (sc := (defScope s_numbers_said)) (by decide +kernel)) (by decide) (fun _ _ _ _ _ => (pg_name (i := 4) nd rfl (Or.inl rfl))) (fun _ _ _ _ _ => pts_nil) (fun _ _ _ _ _ => pi_dL (c_call G_keyed (hr.mono (by decide)) T.keyed.g T.keyed.F.kp T.keyed.b (fun _ => at0) (pa_cons (dv 4) pa_nil))) (fun _ _ _ _ _ => (pg_name (i := 5) nd rfl (Or.inl rfl))) (fun _ _ _ _ _ => pts_nil) (fun _ _ _ _ _ => (dv 5)))
  (pss_one (ps_ret (pe_callTy d_tupleOf (by rfl) T.b_tuple (by decide +kernel) (pa_cons (d_lcL (own := [("key", 6), ("said", 7)]) rfl nd (dv 3) (blkOk_by (N := N_numbers_said) (sc := (defScope s_numbers_said)) (by decide +kernel)) (fun _ _ _ _ _ => (dg_tup (by rfl) (dg_cons (pg_name (i := 6) nd rfl (Or.inl rfl)) (dg_cons (pg_name (i := 7) nd rfl (Or.inl rfl)) dg_nil)))) (fun _ _ _ _ _ => pts_one (dt_tru (c_call G_is_meant (hr.mono (by decide)) T.is_meant.g T.is_meant.F.kp T.is_meant.b (fun _ => at0) (pa_cons (dv 7) (pa_cons (dv 1) (pa_cons (dv 2) pa_nil)))))) (fun _ _ _ _ _ => (pe_tup (pa_cons (dv 6) (pa_cons (pe_ix d_ix (dv 7) pe_int (fun _ _ => rfl)) pa_nil))))) pa_nil)))))
theorem ok_law_draws (T : Txt K mg A)  
    (len : ∀ vs H Q E, (sp_law_draws K) vs H Q E → vs.length = 1) (rd : ∀ vs H Q E, (sp_law_draws K) vs H Q E → t_law_draws K A E  { nx := fun _ H' => Q .non H', rt := Q } (L2.start N_law_draws vs) H) :
    FnOk P w K mg base CX0 1 T.law_draws.a T.law_draws.fd ["script"] (sp_law_draws K) := by
  refine T.law_draws.F.ok sc_law_draws len (fun cdv AA outer s H vs Q E hr h => ⟨t_law_draws K A E , ?_, rd vs H Q E h⟩)
  have hr : Room 0 _ := hr
  have hu := hr
  have nd := sc_law_draws.nd
  exact (pss_cons (ps_set (i := 1) nd rfl (Or.inl rfl) (pe_lst pa_nil))
  (pss_cons (d_forL PassesOwn.never rfl (dv 0) (pg_name (i := 2) nd rfl (Or.inl rfl))
  (pss_cons (ps_set (i := 3) nd rfl (Or.inl rfl) (pe_callB d_abs (by rfl) T.b_abs (by decide +kernel) (pa_cons (dv 2) pa_nil)))
  (pss_cons (ps_if (dt_cmp d_lt (dv 3) (pe_op d_pow pe_int pe_int) (nomark _))
  (pss_cons (ps_set (i := 4) nd rfl (Or.inl rfl) (pe_op d_mod (pe_callTy d_int (by rfl) T.b_int (by decide +kernel) (pa_cons (pe_op d_add2 (pe_op d_mul (dv 3) pe_int) pe_int) pa_nil)) pe_int))
  (pss_cons (ps_expr (d_bm PySem.F.plainAttrs_list PySem.F.slot_list_append PySem.F.type_list_append m_append (dv 1) (pa_cons (pe_op d_mod (pe_callTy d_int (by rfl) T.b_int (by decide +kernel) (pa_cons (pe_op d_add2 (pe_op d_mul (dv 4) pe_int) (dv 3)) pa_nil)) pe_int) pa_nil)))
  (pss_cons (ps_expr (d_bm PySem.F.plainAttrs_list PySem.F.slot_list_append PySem.F.type_list_append m_append (dv 1) (pa_cons (pe_op d_mod (pe_callTy d_int (by rfl) T.b_int (by decide +kernel) (pa_cons (pe_op d_add2 (dv 4) (pe_op d_div (dv 3) pe_int)) pa_nil)) pe_int) pa_nil)))
  (pss_one (ps_set (i := 3) nd rfl (Or.inl rfl) pe_int)))))
  pss_nil)
  (pss_one (d_forR1 PassesOwn.never rfl T.b_range (pa_cons pe_int pa_nil) (pg_name (i := 5) nd rfl (Or.inl rfl))
  (pss_one (ps_if (dt_cmp d_gt (dv 3) pe_int (nomark _))
  (pss_cons (ps_expr (d_bm PySem.F.plainAttrs_list PySem.F.slot_list_append PySem.F.type_list_append m_append (dv 1) (pa_cons (pe_op d_mod (pe_callTy d_int (by rfl) T.b_int (by decide +kernel) (pa_cons (dv 3) pa_nil)) pe_int) pa_nil)))
  (pss_one (ps_set (i := 3) nd rfl (Or.inl rfl) (pe_op d_div (dv 3) pe_int))))
  pss_nil)))))))
  (pss_cons (ps_set (i := 6) nd rfl (Or.inl rfl) pe_int)
  (pss_cons (ps_if (dt_cmp d_gt (pe_callB u_len (by rfl) T.b_len (by decide +kernel) (pa_cons (dv 0) pa_nil)) pe_int (nomark _))
  (pss_one (ps_set (i := 6) nd rfl (Or.inl rfl) (pe_op d_add2 pe_int (pe_callB d_abs (by rfl) T.b_abs (by decide +kernel) (pa_cons (pe_ix ix_seq (dv 0) pe_int (fun _ _ => rfl)) pa_nil)))))
  pss_nil)
  (pss_cons (d_forR1 PassesOwn.never rfl T.b_range (pa_cons pe_int pa_nil) (pg_name (i := 5) nd rfl (Or.inl rfl))
  (pss_cons (ps_set (i := 6) nd rfl (Or.inl rfl) (pe_op d_mod (pe_callTy d_int (by rfl) T.b_int (by decide +kernel) (pa_cons (pe_op d_add2 (pe_op d_mul (dv 6) pe_int) pe_int) pa_nil)) pe_int))
  (pss_one (ps_expr (d_bm PySem.F.plainAttrs_list PySem.F.slot_list_append PySem.F.type_list_append m_append (dv 1) (pa_cons (pe_op d_div (dv 6) pe_int) pa_nil))))))
  (pss_one (ps_ret (pe_listRev rfl T.b_list T.b_reversed (dv 1)))))))))
theorem ok_law_take (T : Txt K mg A)  
    (len : ∀ vs H Q E, sp_law_take vs H Q E → vs.length = 2) (rd : ∀ vs H Q E, sp_law_take vs H Q E → t_law_take K A E  { nx := fun _ H' => Q .non H', rt := Q } (L2.start N_law_take vs) H) :
    FnOk P w K mg base CX0 1 T.law_take.a T.law_take.fd ["draws", "bound"] sp_law_take := by
  refine T.law_take.F.ok sc_law_take len (fun cdv AA outer s H vs Q E hr h => ⟨t_law_take K A E , ?_, rd vs H Q E h⟩)
  have hr : Room 0 _ := hr
  have hu := hr
  have nd := sc_law_take.nd
  exact (pss_cons (ps_if (dt_cmp d_eq (pe_callB d_len (by rfl) T.b_len (by decide +kernel) (pa_cons (dv 0) pa_nil)) pe_int (nomark _))
  (pss_one (ps_ret pe_int))
  pss_nil)
  (pss_one (ps_ret (pe_op d_mod (pe_callTy d_int (by rfl) T.b_int (by decide +kernel) (pa_cons (d_bm0 PySem.F.plainAttrs_list PySem.F.slot_list_pop PySem.F.type_list_pop m_pop (dv 0)) pa_nil)) (dv 1)))))
theorem ok_law_alike (T : Txt K mg A) (sq ss : Sp) (n : Nat) (G_law_alike : FnOk P w K mg base CX0 (n + 1) T.law_alike.a T.law_alike.fd ["found", "due"] sq)
    (len : ∀ vs H Q E, ss vs H Q E → vs.length = 2) (rd : ∀ vs H Q E, ss vs H Q E → t_law_alike K A E sq { nx := fun _ H' => Q .non H', rt := Q } (L2.start N_law_alike vs) H) :
    FnOk P w K mg base CX0 (n + 2) T.law_alike.a T.law_alike.fd ["found", "due"] ss := by
  refine T.law_alike.F.ok sc_law_alike len (fun cdv AA outer s H vs Q E hr h => ⟨t_law_alike K A E sq, ?_, rd vs H Q E h⟩)
  have hr : Room (n + 1) _ := hr
  have hu := hr
  have nd := sc_law_alike.nd
  exact (pss_cons (ps_if (PW.pt (pw_or (dt_tru (pe_callB d_isi (by rfl) T.b_isinstance (by decide +kernel) (pa_cons (dv 1) (pa_cons (pe_bltn (by rfl) T.b_list boot_list rfl) pa_nil)))) (pw_or1 (dt_tru (pe_callB d_isi (by rfl) T.b_isinstance (by decide +kernel) (pa_cons (dv 1) (pa_cons (pe_bltn (by rfl) T.b_tuple boot_tuple rfl) pa_nil)))))))
  (pss_cons (ps_if (PW.pt (pw_or (dt_cmp d_ne (pe_callB d_isi (by rfl) T.b_isinstance (by decide +kernel) (pa_cons (dv 0) (pa_cons (pe_bltn (by rfl) T.b_list boot_list rfl) pa_nil))) (pe_callB d_isi (by rfl) T.b_isinstance (by decide +kernel) (pa_cons (dv 1) (pa_cons (pe_bltn (by rfl) T.b_list boot_list rfl) pa_nil))) (nomark _)) (pw_or1 (dt_cmp d_ne (pe_callB d_isi (by rfl) T.b_isinstance (by decide +kernel) (pa_cons (dv 0) (pa_cons (pe_bltn (by rfl) T.b_tuple boot_tuple rfl) pa_nil))) (pe_callB d_isi (by rfl) T.b_isinstance (by decide +kernel) (pa_cons (dv 1) (pa_cons (pe_bltn (by rfl) T.b_tuple boot_tuple rfl) pa_nil))) (nomark _)))))
  (pss_one (ps_ret pe_bl))
  pss_nil)
  (pss_one (ps_ret (d_and (pe_cmpR d_eq (pe_callB d_len (by rfl) T.b_len (by decide +kernel) (pa_cons (dv 0) pa_nil)) (pe_callB d_len (by rfl) T.b_len (by decide +kernel) (pa_cons (dv 1) pa_nil)) (nomark _)) (pe_one (pe_cmpR (d_eqD hu) (d_lcR1 (own := [("k", 2)]) rfl nd T.b_range (pa_cons (pe_callB d_len (by rfl) T.b_len (by decide +kernel) (pa_cons (dv 1) pa_nil)) pa_nil) (blkOk_by (N := N_law_alike) (sc := (defScope s_law_alike)) (by decide +kernel)) (fun _ _ _ _ _ => (pg_name (i := 2) nd rfl (Or.inl rfl))) (fun _ _ _ _ _ => pts_one (pt_not (dt_tru (c_call G_law_alike (hr.mono (by omega)) T.law_alike.g T.law_alike.F.kp T.law_alike.b (fun _ => at0) (pa_cons (pe_ix d_ix (dv 0) (dv 2) (fun _ _ => rfl)) (pa_cons (pe_ix d_ix (dv 1) (dv 2) (fun _ _ => rfl)) pa_nil)))))) (fun _ _ _ _ _ => (dv 2))) (pe_lst pa_nil) (nomark _)))))))
  pss_nil)
  (pss_cons (ps_if (dt_cmp d_is (dv 1) pe_non (nomark _))
  (pss_one (ps_ret (pe_cmpR d_is (dv 0) pe_non (nomark _))))
  pss_nil)
  (pss_cons (ps_if (PW.pt (pw_or (dt_tru (pe_callB d_isi (by rfl) T.b_isinstance (by decide +kernel) (pa_cons (dv 1) (pa_cons (pe_bltn (by rfl) T.b_bool boot_bool rfl) pa_nil)))) (pw_or1 (dt_tru (pe_callB d_isi (by rfl) T.b_isinstance (by decide +kernel) (pa_cons (dv 0) (pa_cons (pe_bltn (by rfl) T.b_bool boot_bool rfl) pa_nil)))))))
  (pss_one (ps_ret (d_and (pe_callB d_isi (by rfl) T.b_isinstance (by decide +kernel) (pa_cons (dv 0) (pa_cons (pe_bltn (by rfl) T.b_bool boot_bool rfl) pa_nil))) (d_and (pe_callB d_isi (by rfl) T.b_isinstance (by decide +kernel) (pa_cons (dv 1) (pa_cons (pe_bltn (by rfl) T.b_bool boot_bool rfl) pa_nil))) (pe_one (pe_cmpR d_eq (dv 0) (dv 1) (nomark _)))))))
  pss_nil)
  (pss_cons (ps_if (dt_tru (pe_callB d_isi (by rfl) T.b_isinstance (by decide +kernel) (pa_cons (dv 1) (pa_cons (pe_bltn (by rfl) T.b_int boot_int rfl) pa_nil))))
  (pss_one (ps_ret (d_and (pe_callB d_isi (by rfl) T.b_isinstance (by decide +kernel) (pa_cons (dv 0) (pa_cons (pe_bltn (by rfl) T.b_int boot_int rfl) pa_nil))) (pe_one (pe_cmpR d_eq (dv 0) (dv 1) (nomark _))))))
  pss_nil)
  (pss_one (ps_ret (d_and (pe_callB d_isi (by rfl) T.b_isinstance (by decide +kernel) (pa_cons (dv 0) (pa_cons (pe_bltn (by rfl) T.b_str boot_str rfl) pa_nil))) (pe_one (pe_cmpR d_eq (dv 0) (dv 1) (nomark _))))))))))
theorem ok_law_says (T : Txt K mg A)  
    (len : ∀ vs H Q E, sp_law_says vs H Q E → vs.length = 2) (rd : ∀ vs H Q E, sp_law_says vs H Q E → t_law_says K A E  { nx := fun _ H' => Q .non H', rt := Q } (L2.start N_law_says vs) H) :
    FnOk P w K mg base CX0 1 T.law_says.a T.law_says.fd ["told", "due"] sp_law_says := by
  refine T.law_says.F.ok sc_law_says len (fun cdv AA outer s H vs Q E hr h => ⟨t_law_says K A E , ?_, rd vs H Q E h⟩)
  have hr : Room 0 _ := hr
  have hu := hr
  have nd := sc_law_says.nd
  exact (pss_one (ps_ret (d_and (pe_callB d_isi (by rfl) T.b_isinstance (by decide +kernel) (pa_cons (dv 0) (pa_cons (pe_bltn (by rfl) T.b_bool boot_bool rfl) pa_nil))) (pe_one (pe_cmpR d_eq (dv 0) (dv 1) (nomark _))))))
theorem ok_law_word (T : Txt K mg A) (len : ∀ a c d vs H Q E, (sp_law_word K A) a c d vs H Q E → vs.length = 1)
    (hD : ∀ a c d vs H Q E, (sp_law_word K A) a c d vs H Q E → ∃ D, c = .ref D ∧ d = none ∧ ExcC K D) (rd : ∀ ax D vs H Q E, (sp_law_word K A) ax (.ref D) none vs H Q E → t_law_word K A E ax D { nx := fun _ H' => Q .non H', rt := Q } (L2.start N_law_word vs) H) :
    FnE P w K mg base 1 T.law_word.a T.law_word.fd ["e"] (sp_law_word K A) := by
  refine fnE_of T.law_word.F sc_law_word len (fun cdv AA outer s H vs Q E p c dd hot1 hzp hr h => ?_)
  obtain ⟨D, rfl, rfl, hDx⟩ := hD _ _ _ _ _ _ _ h
  obtain ⟨ax, oe⟩ := p
  refine ⟨t_law_word K A E ax D, ?_, rd ax D vs H Q E h⟩
  have hfp : ∃ vs, oe.data = .fields vs := hot1.2.elim fun v h => ⟨v, h.1⟩
  have nd := sc_law_word.nd
  have hot : L2H.HotC (L2H.cxH CX0 P w K mg base N_law_word "_law_word" (defScope s_law_word) T.law_word.a cdv AA outer s H E (ax, oe)) := ⟨(ax, oe), hot1, List.mem_cons_self⟩
  exact (pss_cons (ps_set (i := 1) nd rfl (Or.inl rfl) (pe_lst (pa_cons (pe_callB (d_isP hDx List.mem_cons_self hzp hfp) (by rfl) T.b_isinstance (by decide +kernel) (pa_cons (dv 0) (pa_cons (pe_glob (by rfl) T.x_OutOfRange.g rfl) pa_nil))) (pa_cons (pe_callB (d_isP hDx List.mem_cons_self hzp hfp) (by rfl) T.b_isinstance (by decide +kernel) (pa_cons (dv 0) (pa_cons (pe_glob (by rfl) T.x_Malformed.g rfl) pa_nil))) (pa_cons (pe_callB (d_isP hDx List.mem_cons_self hzp hfp) (by rfl) T.b_isinstance (by decide +kernel) (pa_cons (dv 0) (pa_cons (pe_glob (by rfl) T.x_NotThere.g rfl) pa_nil))) (pa_cons (pe_callB (d_isP hDx List.mem_cons_self hzp hfp) (by rfl) T.b_isinstance (by decide +kernel) (pa_cons (dv 0) (pa_cons (pe_glob (by rfl) T.x_Refused.g rfl) pa_nil))) (pa_cons (pe_callB (d_isP hDx List.mem_cons_self hzp hfp) (by rfl) T.b_isinstance (by decide +kernel) (pa_cons (dv 0) (pa_cons (pe_glob (by rfl) T.x_TooMuch.g rfl) pa_nil))) pa_nil)))))))
  (pss_cons (ps_if (dt_cmp d_ne (pe_callB d_len (by rfl) T.b_len (by decide +kernel) (pa_cons (d_lcH (own := [("kind", 2)]) hot nd (dv 1) (blkOk_by (N := N_law_word) (sc := (defScope s_law_word)) (by decide +kernel)) (fun _ _ _ _ _ => (pg_name (i := 2) nd rfl (Or.inl rfl))) (fun _ _ _ _ _ => pts_one (dt_tru (dv 2))) (fun _ _ _ _ _ => (dv 2))) pa_nil)) pe_int (nomark _))
  (pss_one (ps_ret pe_str))
  pss_nil)
  (pss_one (ps_ret (pe_ix d_ix (pe_lst (pa_cons pe_str (pa_cons pe_str (pa_cons pe_str (pa_cons pe_str (pa_cons pe_str pa_nil)))))) (d_bm PySem.F.plainAttrs_list PySem.F.slot_list_index PySem.F.type_list_index mt_index (dv 1) (pa_cons pe_bl pa_nil)) (fun _ _ => rfl))))))
theorem ok_law_expression (T : Txt K mg A) (sq ss : Sp) (n : Nat) (G_law_expression : FnOk P w K mg base CX0 (n + 1) T.law_expression.a T.law_expression.fd ["draws", "names", "deep"] sq) (G_law_take : FnOk P w K mg base CX0 1 T.law_take.a T.law_take.fd ["draws", "bound"] sp_law_take)
    (len : ∀ vs H Q E, ss vs H Q E → vs.length = 3) (rd : ∀ vs H Q E, ss vs H Q E → t_law_expression K A E sq { nx := fun _ H' => Q .non H', rt := Q } (L2.start N_law_expression vs) H) :
    FnOk P w K mg base CX0 (n + 2) T.law_expression.a T.law_expression.fd ["draws", "names", "deep"] ss := by
  refine T.law_expression.F.ok sc_law_expression len (fun cdv AA outer s H vs Q E hr h => ⟨t_law_expression K A E sq, ?_, rd vs H Q E h⟩)
  have hr : Room (n + 1) _ := hr
  have hu := hr
  have nd := sc_law_expression.nd
  exact (pss_cons (ps_set (i := 3) nd rfl (Or.inl rfl) (c_call G_law_take (hr.mono (by omega)) T.law_take.g T.law_take.F.kp T.law_take.b (fun _ => at0) (pa_cons (dv 0) (pa_cons pe_int pa_nil))))
  (pss_cons (ps_if (PW.pt (pw_or (dt_cmp d_eq (dv 2) pe_int (nomark _)) (pw_or1 (dt_cmp d_lt (dv 3) pe_int (nomark _)))))
  (pss_cons (ps_set (i := 4) nd rfl (Or.inl rfl) (pe_lst (pa_cons (pe_tup (pa_cons pe_str (pa_cons (c_call G_law_take (hr.mono (by omega)) T.law_take.g T.law_take.F.kp T.law_take.b (fun _ => at0) (pa_cons (dv 0) (pa_cons pe_int pa_nil))) pa_nil))) (pa_cons (pe_tup (pa_cons pe_str pa_nil)) (pa_cons (pe_tup (pa_cons pe_str pa_nil)) (pa_cons (pe_tup (pa_cons pe_str (pa_cons (pe_ix d_ix (pe_lst (pa_cons (c_call G_law_take (hr.mono (by omega)) T.law_take.g T.law_take.F.kp T.law_take.b (fun _ => at0) (pa_cons (dv 0) (pa_cons pe_int pa_nil))) (pa_cons (pe_op d_add2 pe_int (c_call G_law_take (hr.mono (by omega)) T.law_take.g T.law_take.F.kp T.law_take.b (fun _ => at0) (pa_cons (dv 0) (pa_cons pe_int pa_nil)))) pa_nil))) (c_call G_law_take (hr.mono (by omega)) T.law_take.g T.law_take.F.kp T.law_take.b (fun _ => at0) (pa_cons (dv 0) (pa_cons pe_int pa_nil))) (fun _ _ => rfl)) pa_nil))) pa_nil))))))
  (pss_cons (ps_set (i := 4) nd rfl (Or.inl rfl) (pe_op d_add2 (dv 4) (d_lcL (own := [("name", 6)]) rfl nd (dv 1) (blkOk_by (N := N_law_expression) (sc := (defScope s_law_expression)) (by decide +kernel)) (fun _ _ _ _ _ => (pg_name (i := 6) nd rfl (Or.inl rfl))) (fun _ _ _ _ _ => pts_nil) (fun _ _ _ _ _ => (pe_tup (pa_cons pe_str (pa_cons (dv 6) pa_nil)))))))
  (pss_one (ps_ret (pe_ix d_ix (dv 4) (c_call G_law_take (hr.mono (by omega)) T.law_take.g T.law_take.F.kp T.law_take.b (fun _ => at0) (pa_cons (dv 0) (pa_cons (pe_callB d_len (by rfl) T.b_len (by decide +kernel) (pa_cons (dv 4) pa_nil)) pa_nil))) (fun _ _ => rfl))))))
  pss_nil)
  (pss_cons (ps_set (i := 5) nd rfl (Or.inl rfl) (pe_ix d_ix (pe_lst (pa_cons pe_str (pa_cons pe_str (pa_cons pe_str (pa_cons pe_str (pa_cons pe_str (pa_cons pe_str pa_nil))))))) (c_call G_law_take (hr.mono (by omega)) T.law_take.g T.law_take.F.kp T.law_take.b (fun _ => at0) (pa_cons (dv 0) (pa_cons pe_int pa_nil))) (fun _ _ => rfl)))
  (pss_one (ps_ret (pe_tup (pa_cons pe_str (pa_cons (dv 5) (pa_cons (c_call G_law_expression (hr.mono (by omega)) T.law_expression.g T.law_expression.F.kp T.law_expression.b (fun _ => at0) (pa_cons (dv 0) (pa_cons (dv 1) (pa_cons (pe_op d_sub (dv 2) pe_int) pa_nil)))) (pa_cons (c_call G_law_expression (hr.mono (by omega)) T.law_expression.g T.law_expression.F.kp T.law_expression.b (fun _ => at0) (pa_cons (dv 0) (pa_cons (dv 1) (pa_cons (pe_op d_sub (dv 2) pe_int) pa_nil)))) pa_nil))))))))))
theorem ok_law_body (T : Txt K mg A) (sq ss : Sp) (n : Nat) (G_law_take : FnOk P w K mg base CX0 1 T.law_take.a T.law_take.fd ["draws", "bound"] sp_law_take) (G_law_expression : FnOk P w K mg base CX0 4 T.law_expression.a T.law_expression.fd ["draws", "names", "deep"] (sp_law_expression 2)) (G_law_body : FnOk P w K mg base CX0 (n + 4) T.law_body.a T.law_body.fd ["draws", "names", "kinds", "deep"] sq)
    (len : ∀ vs H Q E, ss vs H Q E → vs.length = 4) (rd : ∀ vs H Q E, ss vs H Q E → t_law_body K A E sq { nx := fun _ H' => Q .non H', rt := Q } (L2.start N_law_body vs) H) :
    FnOk P w K mg base CX0 (n + 5) T.law_body.a T.law_body.fd ["draws", "names", "kinds", "deep"] ss := by
  refine T.law_body.F.ok sc_law_body len (fun cdv AA outer s H vs Q E hr h => ⟨t_law_body K A E sq, ?_, rd vs H Q E h⟩)
  have hr : Room (n + 4) _ := hr
  have hu := hr
  have nd := sc_law_body.nd
  exact (pss_cons (ps_set (i := 4) nd rfl (Or.inl rfl) (pe_lst pa_nil))
  (pss_cons (d_forR1 PassesOwn.never rfl T.b_range (pa_cons (c_call G_law_take (hr.mono (by omega)) T.law_take.g T.law_take.F.kp T.law_take.b (fun _ => at0) (pa_cons (dv 0) (pa_cons pe_int pa_nil))) pa_nil) (pg_name (i := 5) nd rfl (Or.inl rfl))
  (pss_cons (ps_set (i := 6) nd rfl (Or.inl rfl) (c_call G_law_take (hr.mono (by omega)) T.law_take.g T.law_take.F.kp T.law_take.b (fun _ => at0) (pa_cons (dv 0) (pa_cons pe_int pa_nil))))
  (pss_one (ps_if (PW.pt (pw_and (dt_cmp d_eq (dv 6) pe_int (nomark _)) (pw_and1 (dt_cmp (d_neD hu) (dv 1) (pe_lst pa_nil) (nomark _)))))
  (pss_one (ps_expr (d_bm PySem.F.plainAttrs_list PySem.F.slot_list_append PySem.F.type_list_append m_append (dv 4) (pa_cons (pe_tup (pa_cons pe_str (pa_cons (pe_ix d_ix (dv 1) (c_call G_law_take (hr.mono (by omega)) T.law_take.g T.law_take.F.kp T.law_take.b (fun _ => at0) (pa_cons (dv 0) (pa_cons (pe_callB d_len (by rfl) T.b_len (by decide +kernel) (pa_cons (dv 1) pa_nil)) pa_nil))) (fun _ _ => rfl)) (pa_cons (c_call G_law_expression (hr.mono (by omega)) T.law_expression.g T.law_expression.F.kp T.law_expression.b (fun _ => at0) (pa_cons (dv 0) (pa_cons (dv 1) (pa_cons pe_int pa_nil)))) pa_nil)))) pa_nil))))
  (pss_one (ps_if (PW.pt (pw_and (dt_cmp d_eq (dv 6) pe_int (nomark _)) (pw_and1 (dt_cmp (d_neD hu) (dv 1) (pe_lst pa_nil) (nomark _)))))
  (pss_one (ps_expr (d_bm PySem.F.plainAttrs_list PySem.F.slot_list_append PySem.F.type_list_append m_append (dv 4) (pa_cons (pe_tup (pa_cons pe_str (pa_cons (pe_ix d_ix (dv 1) (c_call G_law_take (hr.mono (by omega)) T.law_take.g T.law_take.F.kp T.law_take.b (fun _ => at0) (pa_cons (dv 0) (pa_cons (pe_callB d_len (by rfl) T.b_len (by decide +kernel) (pa_cons (dv 1) pa_nil)) pa_nil))) (fun _ _ => rfl)) (pa_cons (c_call G_law_expression (hr.mono (by omega)) T.law_expression.g T.law_expression.F.kp T.law_expression.b (fun _ => at0) (pa_cons (dv 0) (pa_cons (dv 1) (pa_cons pe_int pa_nil)))) pa_nil)))) pa_nil))))
  (pss_one (ps_if (PW.pt (pw_and (dt_cmp d_eq (dv 6) pe_int (nomark _)) (pw_and1 (dt_cmp d_gt (dv 3) pe_int (nomark _)))))
  (pss_one (ps_expr (d_bm PySem.F.plainAttrs_list PySem.F.slot_list_append PySem.F.type_list_append m_append (dv 4) (pa_cons (pe_tup (pa_cons pe_str (pa_cons (c_call G_law_expression (hr.mono (by omega)) T.law_expression.g T.law_expression.F.kp T.law_expression.b (fun _ => at0) (pa_cons (dv 0) (pa_cons (dv 1) (pa_cons pe_int pa_nil)))) (pa_cons (c_call G_law_body (hr.mono (by omega)) T.law_body.g T.law_body.F.kp T.law_body.b (fun _ => at0) (pa_cons (dv 0) (pa_cons (dv 1) (pa_cons (dv 2) (pa_cons (pe_op d_sub (dv 3) pe_int) pa_nil))))) (pa_cons (c_call G_law_body (hr.mono (by omega)) T.law_body.g T.law_body.F.kp T.law_body.b (fun _ => at0) (pa_cons (dv 0) (pa_cons (dv 1) (pa_cons (dv 2) (pa_cons (pe_op d_sub (dv 3) pe_int) pa_nil))))) pa_nil))))) pa_nil))))
  (pss_one (ps_expr (d_bm PySem.F.plainAttrs_list PySem.F.slot_list_append PySem.F.type_list_append m_append (dv 4) (pa_cons (pe_tup (pa_cons pe_str (pa_cons (pe_ix d_ix (pe_lst (pa_cons pe_str (pa_cons pe_str (pa_cons pe_str pa_nil)))) (c_call G_law_take (hr.mono (by omega)) T.law_take.g T.law_take.F.kp T.law_take.b (fun _ => at0) (pa_cons (dv 0) (pa_cons pe_int pa_nil))) (fun _ _ => rfl)) (pa_cons (c_call G_law_expression (hr.mono (by omega)) T.law_expression.g T.law_expression.F.kp T.law_expression.b (fun _ => at0) (pa_cons (dv 0) (pa_cons (dv 1) (pa_cons pe_int pa_nil)))) pa_nil)))) pa_nil))))))))))))
  (pss_one (ps_ret (pe_callTy d_tupleOf (by rfl) T.b_tuple (by decide +kernel) (pa_cons (dv 4) pa_nil))))))
theorem ok_law_send (T : Txt K mg A)  (G_law_expression : FnOk P w K mg base CX0 4 T.law_expression.a T.law_expression.fd ["draws", "names", "deep"] (sp_law_expression 2)) (G_law_take : FnOk P w K mg base CX0 1 T.law_take.a T.law_take.fd ["draws", "bound"] sp_law_take)
    (len : ∀ vs H Q E, sp_law_send vs H Q E → vs.length = 3) (rd : ∀ vs H Q E, sp_law_send vs H Q E → t_law_send K A E  { nx := fun _ H' => Q .non H', rt := Q } (L2.start N_law_send vs) H) :
    FnOk P w K mg base CX0 5 T.law_send.a T.law_send.fd ["draws", "names", "kinds"] sp_law_send := by
  refine T.law_send.F.ok sc_law_send len (fun cdv AA outer s H vs Q E hr h => ⟨t_law_send K A E , ?_, rd vs H Q E h⟩)
  have hr : Room 4 _ := hr
  have hu := hr
  have nd := sc_law_send.nd
  exact (pss_cons (d_par (by rfl) nd rfl rfl (by decide) rfl rfl (pa_cons (c_call G_law_expression (hr.mono (by decide)) T.law_expression.g T.law_expression.F.kp T.law_expression.b (fun _ => at0) (pa_cons (dv 0) (pa_cons (dv 1) (pa_cons pe_int pa_nil)))) (pa_cons (pe_ix d_ix (pe_lst (pa_cons (pe_tup (pa_cons pe_str (pa_cons (c_call G_law_take (hr.mono (by decide)) T.law_take.g T.law_take.F.kp T.law_take.b (fun _ => at0) (pa_cons (dv 0) (pa_cons pe_int pa_nil))) pa_nil))) (pa_cons (pe_tup (pa_cons pe_str (pa_cons pe_str (pa_cons (c_call G_law_expression (hr.mono (by decide)) T.law_expression.g T.law_expression.F.kp T.law_expression.b (fun _ => at0) (pa_cons (dv 0) (pa_cons (dv 1) (pa_cons pe_int pa_nil)))) (pa_cons (pe_tup (pa_cons pe_str (pa_cons pe_int pa_nil))) pa_nil))))) pa_nil))) (c_call G_law_take (hr.mono (by decide)) T.law_take.g T.law_take.F.kp T.law_take.b (fun _ => at0) (pa_cons (dv 0) (pa_cons pe_int pa_nil))) (fun _ _ => rfl)) pa_nil)) (by rfl))
  (pss_one (ps_ret (pe_tup (pa_cons pe_str (pa_cons (dv 3) (pa_cons (pe_ix d_ix (dv 2) (c_call G_law_take (hr.mono (by decide)) T.law_take.g T.law_take.F.kp T.law_take.b (fun _ => at0) (pa_cons (dv 0) (pa_cons (pe_callB d_len (by rfl) T.b_len (by decide +kernel) (pa_cons (dv 2) pa_nil)) pa_nil))) (fun _ _ => rfl)) (pa_cons (dv 4) (pa_cons (c_call G_law_expression (hr.mono (by decide)) T.law_expression.g T.law_expression.F.kp T.law_expression.b (fun _ => at0) (pa_cons (dv 0) (pa_cons (dv 1) (pa_cons pe_int pa_nil)))) pa_nil)))))))))
theorem ok_law_many (T : Txt K mg A) (sq ss : Sp) (n : Nat) (G_law_many : FnOk P w K mg base CX0 (n + 1) T.law_many.a T.law_many.fd ["part"] sq)
    (len : ∀ vs H Q E, ss vs H Q E → vs.length = 1) (rd : ∀ vs H Q E, ss vs H Q E → t_law_many K A E sq { nx := fun _ H' => Q .non H', rt := Q } (L2.start N_law_many vs) H) :
    FnOk P w K mg base CX0 (n + 2) T.law_many.a T.law_many.fd ["part"] ss := by
  refine T.law_many.F.ok sc_law_many len (fun cdv AA outer s H vs Q E hr h => ⟨t_law_many K A E sq, ?_, rd vs H Q E h⟩)
  have hr : Room (n + 1) _ := hr
  have hu := hr
  have nd := sc_law_many.nd
  exact (pss_cons (ps_if (PW.pt (pw_or (pt_not (dt_tru (pe_callB d_isi (by rfl) T.b_isinstance (by decide +kernel) (pa_cons (dv 0) (pa_cons (pe_bltn (by rfl) T.b_tuple boot_tuple rfl) pa_nil))))) (pw_or1 (dt_cmp (d_eqD hu) (dv 0) (pe_tup pa_nil) (nomark _)))))
  (pss_one (ps_ret pe_int))
  pss_nil)
  (pss_one (ps_ret (pe_op d_add2 (pe_callTy d_int (by rfl) T.b_int (by decide +kernel) (pa_cons (pe_callB d_isi (by rfl) T.b_isinstance (by decide +kernel) (pa_cons (pe_ix d_ix (dv 0) pe_int (fun _ _ => rfl)) (pa_cons (pe_bltn (by rfl) T.b_str boot_str rfl) pa_nil))) pa_nil)) (pe_callB (cr_sum rfl) (by rfl) T.b_sum (by decide +kernel) (pa_cons (d_lcT (own := [("one", 1)]) rfl nd (dv 0) (blkOk_by (N := N_law_many) (sc := (defScope s_law_many)) (by decide +kernel)) (fun _ _ _ _ _ => (pg_name (i := 1) nd rfl (Or.inl rfl))) (fun _ _ _ _ _ => pts_nil) (fun _ _ _ _ _ => (c_call G_law_many (hr.mono (by omega)) T.law_many.g T.law_many.F.kp T.law_many.b (fun _ => at0) (pa_cons (dv 1) pa_nil)))) pa_nil))))))
theorem ok_law_model (T : Txt K mg A)  (G_law_take : FnOk P w K mg base CX0 1 T.law_take.a T.law_take.fd ["draws", "bound"] sp_law_take) (G_law_many : FnOk P w K mg base CX0 13 T.law_many.a T.law_many.fd ["part"] (sp_law_many 11)) (G_law_send : FnOk P w K mg base CX0 5 T.law_send.a T.law_send.fd ["draws", "names", "kinds"] sp_law_send) (G_law_body : FnOk P w K mg base CX0 7 T.law_body.a T.law_body.fd ["draws", "names", "kinds", "deep"] (sp_law_body 2))
    (len : ∀ vs H Q E, sp_law_model vs H Q E → vs.length = 2) (rd : ∀ vs H Q E, sp_law_model vs H Q E → t_law_model K A E  { nx := fun _ H' => Q .non H', rt := Q } (L2.start N_law_model vs) H) :
    FnOk P w K mg base CX0 14 T.law_model.a T.law_model.fd ["draws", "most"] sp_law_model := by
  refine T.law_model.F.ok sc_law_model len (fun cdv AA outer s H vs Q E hr h => ⟨t_law_model K A E , ?_, rd vs H Q E h⟩)
  have hr : Room 13 _ := hr
  have hu := hr
  have nd := sc_law_model.nd
  exact (pss_cons (ps_set (i := 2) nd rfl (Or.inl rfl) (pe_slice d_sl (pe_lst (pa_cons pe_str (pa_cons pe_str (pa_cons pe_str pa_nil)))) po_none (po_d (pe_op d_add2 pe_int (c_call G_law_take (hr.mono (by decide)) T.law_take.g T.law_take.F.kp T.law_take.b (fun _ => at0) (pa_cons (dv 0) (pa_cons pe_int pa_nil)))))))
  (pss_cons (d_par (by rfl) nd rfl rfl (by decide) rfl rfl (pa_cons (pe_lst pa_nil) (pa_cons pe_int pa_nil)) (by rfl))
  (pss_cons (d_forR1 PassesOwn.never rfl T.b_range (pa_cons (pe_op d_add2 pe_int (c_call G_law_take (hr.mono (by decide)) T.law_take.g T.law_take.F.kp T.law_take.b (fun _ => at0) (pa_cons (dv 0) (pa_cons (dv 1) pa_nil)))) pa_nil) (pg_name (i := 5) nd rfl (Or.inl rfl))
  (pss_cons (ps_set (i := 6) nd rfl (Or.inl rfl) (pe_callTy d_tupleOf (by rfl) T.b_tuple (by decide +kernel) (pa_cons (d_lcL (own := [("name", 12)]) rfl nd (pe_slice d_sl (pe_lst (pa_cons pe_str (pa_cons pe_str (pa_cons pe_str pa_nil)))) po_none (po_d (c_call G_law_take (hr.mono (by decide)) T.law_take.g T.law_take.F.kp T.law_take.b (fun _ => at0) (pa_cons (dv 0) (pa_cons pe_int pa_nil))))) (blkOk_by (N := N_law_model) (sc := (defScope s_law_model)) (by decide +kernel)) (fun _ _ _ _ _ => (pg_name (i := 12) nd rfl (Or.inl rfl))) (fun _ _ _ _ _ => pts_nil) (fun _ _ _ _ _ => (pe_tup (pa_cons (dv 12) (pa_cons (c_call G_law_take (hr.mono (by decide)) T.law_take.g T.law_take.F.kp T.law_take.b (fun _ => at0) (pa_cons (dv 0) (pa_cons pe_int pa_nil))) pa_nil))))) pa_nil)))
  (pss_cons (d_setT (i := 7) (own := [("name", 12), ("number", 13)]) rfl nd rfl rfl (sw_true rfl rfl rfl (by decide +kernel)) (dv 6) (blkOk_by (N := N_law_model) (sc := (defScope s_law_model)) (by decide +kernel)) (fun _ _ _ _ _ => (dg_tup (by rfl) (dg_cons (pg_name (i := 12) nd rfl (Or.inl rfl)) (dg_cons (pg_name (i := 13) nd rfl (Or.inl rfl)) dg_nil)))) (fun _ _ _ _ _ => pts_nil) (fun _ _ _ _ _ => (dv 12)))
  (pss_cons (ps_set (i := 8) nd rfl (Or.inl rfl) (pe_lst pa_nil))
  (pss_cons (d_forL PassesOwn.never rfl (dv 2) (pg_name (i := 9) nd rfl (Or.inl rfl))
  (pss_one (ps_if (dt_cmp d_gt (c_call G_law_take (hr.mono (by decide)) T.law_take.g T.law_take.F.kp T.law_take.b (fun _ => at0) (pa_cons (dv 0) (pa_cons pe_int pa_nil))) pe_int (nomark _))
  (pss_cons (ps_set (i := 10) nd rfl (Or.inl rfl) (pe_op d_add2 (c_call G_law_body (hr.mono (by decide)) T.law_body.g T.law_body.F.kp T.law_body.b (fun _ => at0) (pa_cons (dv 0) (pa_cons (dv 7) (pa_cons (dv 2) (pa_cons pe_int pa_nil))))) (pe_tup (pa_cons (c_call G_law_send (hr.mono (by decide)) T.law_send.g T.law_send.F.kp T.law_send.b (fun _ => at0) (pa_cons (dv 0) (pa_cons (dv 7) (pa_cons (dv 2) pa_nil)))) pa_nil))))
  (pss_cons (ps_set (i := 11) nd rfl (Or.inl rfl) (pe_tup (pa_cons pe_str (pa_cons pe_str (pa_cons (pe_tup (pa_cons pe_str pa_nil)) (pa_cons (pe_tup (pa_cons pe_str (pa_cons pe_int pa_nil))) pa_nil))))))
  (pss_cons (ps_if (dt_cmp d_eq (c_call G_law_take (hr.mono (by decide)) T.law_take.g T.law_take.F.kp T.law_take.b (fun _ => at0) (pa_cons (dv 0) (pa_cons pe_int pa_nil))) pe_int (nomark _))
  (pss_one (ps_set (i := 10) nd rfl (Or.inl rfl) (pe_op d_add2 (dv 10) (pe_tup (pa_cons (pe_tup (pa_cons pe_str (pa_cons (dv 11) (pa_cons (pe_tup (pa_cons (c_call G_law_send (hr.mono (by decide)) T.law_send.g T.law_send.F.kp T.law_send.b (fun _ => at0) (pa_cons (dv 0) (pa_cons (dv 7) (pa_cons (dv 2) pa_nil)))) pa_nil)) (pa_cons (pe_tup pa_nil) pa_nil))))) pa_nil)))))
  pss_nil)
  (pss_cons (ps_if (dt_cmp d_eq (c_call G_law_take (hr.mono (by decide)) T.law_take.g T.law_take.F.kp T.law_take.b (fun _ => at0) (pa_cons (dv 0) (pa_cons pe_int pa_nil))) pe_int (nomark _))
  (pss_one (ps_set (i := 10) nd rfl (Or.inl rfl) (pe_tup (pa_cons (pe_tup (pa_cons pe_str (pa_cons (pe_tup (pa_cons pe_str (pa_cons pe_str (pa_cons (pe_tup (pa_cons pe_str pa_nil)) (pa_cons (pe_tup (pa_cons pe_str (pa_cons pe_int pa_nil))) pa_nil))))) (pa_cons (dv 10) (pa_cons (pe_tup pa_nil) pa_nil))))) pa_nil))))
  pss_nil)
  (pss_cons (ps_if (dt_cmp d_gt (pe_op d_add2 (dv 4) (c_call G_law_many (hr.mono (by decide)) T.law_many.g T.law_many.F.kp T.law_many.b (fun _ => at0) (pa_cons (dv 10) pa_nil))) pe_int (nomark _))
  (pss_one (ps_set (i := 10) nd rfl (Or.inl rfl) (pe_tup (pa_cons (pe_tup (pa_cons pe_str (pa_cons pe_str (pa_cons (pe_tup (pa_cons pe_str (pa_cons pe_int pa_nil))) pa_nil)))) pa_nil))))
  pss_nil)
  (pss_cons (ps_set (i := 4) nd rfl (Or.inl rfl) (pe_op d_add2 (dv 4) (c_call G_law_many (hr.mono (by decide)) T.law_many.g T.law_many.F.kp T.law_many.b (fun _ => at0) (pa_cons (dv 10) pa_nil))))
  (pss_one (ps_expr (d_bm PySem.F.plainAttrs_list PySem.F.slot_list_append PySem.F.type_list_append m_append (dv 8) (pa_cons (pe_tup (pa_cons (dv 9) (pa_cons (dv 10) pa_nil))) pa_nil))))))))))
  pss_nil)))
  (pss_one (ps_expr (d_bm PySem.F.plainAttrs_list PySem.F.slot_list_append PySem.F.type_list_append m_append (dv 3) (pa_cons (pe_tup (pa_cons (pe_ix d_ix (pe_lst (pa_cons pe_str (pa_cons pe_str (pa_cons pe_str (pa_cons pe_str (pa_cons pe_str pa_nil)))))) (dv 5) (fun _ _ => rfl)) (pa_cons (dv 6) (pa_cons (pe_callTy cr_tupF (by rfl) T.b_tuple (by decide +kernel) (pa_cons (dv 8) pa_nil)) pa_nil)))) pa_nil)))))))))
  (pss_one (ps_ret (pe_callTy d_tupleOf (by rfl) T.b_tuple (by decide +kernel) (pa_cons (dv 3) pa_nil)))))))
theorem ok_law_starts (T : Txt K mg A)  (G_law_take : FnOk P w K mg base CX0 1 T.law_take.a T.law_take.fd ["draws", "bound"] sp_law_take)
    (len : ∀ vs H Q E, sp_law_starts vs H Q E → vs.length = 2) (rd : ∀ vs H Q E, sp_law_starts vs H Q E → t_law_starts K A E  { nx := fun _ H' => Q .non H', rt := Q } (L2.start N_law_starts vs) H) :
    FnOk P w K mg base CX0 2 T.law_starts.a T.law_starts.fd ["draws", "model"] sp_law_starts := by
  refine T.law_starts.F.ok sc_law_starts len (fun cdv AA outer s H vs Q E hr h => ⟨t_law_starts K A E , ?_, rd vs H Q E h⟩)
  have hr : Room 1 _ := hr
  have hu := hr
  have nd := sc_law_starts.nd
  exact (pss_cons (ps_set (i := 2) nd rfl (Or.inl rfl) (pe_lst (pa_cons pe_str (pa_cons pe_str (pa_cons pe_str pa_nil)))))
  (pss_cons (ps_set (i := 3) nd rfl (Or.inl rfl) (pe_lst pa_nil))
  (pss_cons (d_forR1 PassesOwn.never rfl T.b_range (pa_cons (pe_op d_add2 pe_int (c_call G_law_take (hr.mono (by decide)) T.law_take.g T.law_take.F.kp T.law_take.b (fun _ => at0) (pa_cons (dv 0) (pa_cons pe_int pa_nil)))) pa_nil) (pg_name (i := 4) nd rfl (Or.inl rfl))
  (pss_one (ps_expr (d_bm PySem.F.plainAttrs_list PySem.F.slot_list_append PySem.F.type_list_append m_append (dv 3) (pa_cons (pe_tup (pa_cons (c_call G_law_take (hr.mono (by decide)) T.law_take.g T.law_take.F.kp T.law_take.b (fun _ => at0) (pa_cons (dv 0) (pa_cons pe_int pa_nil))) (pa_cons (pe_ix d_ix (pe_ix d_ix (dv 1) (c_call G_law_take (hr.mono (by decide)) T.law_take.g T.law_take.F.kp T.law_take.b (fun _ => at0) (pa_cons (dv 0) (pa_cons (pe_callB d_len (by rfl) T.b_len (by decide +kernel) (pa_cons (dv 1) pa_nil)) pa_nil))) (fun _ _ => rfl)) pe_int (fun _ _ => rfl)) (pa_cons (pe_ix d_ix (dv 2) (c_call G_law_take (hr.mono (by decide)) T.law_take.g T.law_take.F.kp T.law_take.b (fun _ => at0) (pa_cons (dv 0) (pa_cons pe_int pa_nil))) (fun _ _ => rfl)) (pa_cons (c_call G_law_take (hr.mono (by decide)) T.law_take.g T.law_take.F.kp T.law_take.b (fun _ => at0) (pa_cons (dv 0) (pa_cons pe_int pa_nil))) pa_nil))))) pa_nil)))))
  (pss_one (ps_ret (pe_callTy d_tupleOf (by rfl) T.b_tuple (by decide +kernel) (pa_cons (dv 3) pa_nil)))))))
theorem ok_law_number (T : Txt K mg A) (sq ss : Sp) (n : Nat) (G_law_number : FnOk P w K mg base CX0 (n + 1) T.law_number.a T.law_number.fd ["known", "event", "e"] sq)
    (len : ∀ vs H Q E, ss vs H Q E → vs.length = 3) (rd : ∀ vs H Q E, ss vs H Q E → t_law_number K A E sq { nx := fun _ H' => Q .non H', rt := Q } (L2.start N_law_number vs) H) :
    FnOk P w K mg base CX0 (n + 2) T.law_number.a T.law_number.fd ["known", "event", "e"] ss := by
  refine T.law_number.F.ok sc_law_number len (fun cdv AA outer s H vs Q E hr h => ⟨t_law_number K A E sq, ?_, rd vs H Q E h⟩)
  have hr : Room (n + 1) _ := hr
  have hu := hr
  have nd := sc_law_number.nd
  exact (pss_cons (ps_if (dt_cmp d_eq (pe_callB d_len (by rfl) T.b_len (by decide +kernel) (pa_cons (dv 2) pa_nil)) pe_int (nomark _))
  (pss_one (ps_ret (pe_ifExp (dt_cmp d_eq (pe_ix d_ix (dv 2) pe_int (fun _ _ => rfl)) pe_str (nomark _)) (pe_ix d_ix (dv 1) pe_int (fun _ _ => rfl)) (pe_op d_mod (pe_callTy d_int (by rfl) T.b_int (by decide +kernel) (pa_cons (pe_ix d_ix (dv 1) pe_int (fun _ _ => rfl)) pa_nil)) pe_int))))
  pss_nil)
  (pss_cons (ps_if (dt_cmp d_eq (pe_callB d_len (by rfl) T.b_len (by decide +kernel) (pa_cons (dv 2) pa_nil)) pe_int (nomark _))
  (pss_one (ps_ret (pe_ifExp (dt_cmp d_eq (pe_ix d_ix (dv 2) pe_int (fun _ _ => rfl)) pe_str (nomark _)) (pe_ix d_ix (dv 2) pe_int (fun _ _ => rfl)) (d_dgetK (room1 hu) (d_dgetK (room1 hu) (dv 0) pe_str (fun _ _ => rfl)) (pe_ix d_ix (dv 2) pe_int (fun _ _ => rfl)) (fun _ _ => rfl)))))
  pss_nil)
  (pss_cons (d_par (by rfl) nd rfl rfl (by decide) rfl rfl (pa_cons (c_call G_law_number (hr.mono (by omega)) T.law_number.g T.law_number.F.kp T.law_number.b (fun _ => at0) (pa_cons (dv 0) (pa_cons (dv 1) (pa_cons (pe_ix d_ix (dv 2) pe_int (fun _ _ => rfl)) pa_nil)))) (pa_cons (c_call G_law_number (hr.mono (by omega)) T.law_number.g T.law_number.F.kp T.law_number.b (fun _ => at0) (pa_cons (dv 0) (pa_cons (dv 1) (pa_cons (pe_ix d_ix (dv 2) pe_int (fun _ _ => rfl)) pa_nil)))) pa_nil)) (by rfl))
  (pss_cons (ps_if (dt_cmp d_in (pe_ix d_ix (dv 2) pe_int (fun _ _ => rfl)) (pe_lst (pa_cons pe_str (pa_cons pe_str pa_nil))) (by rfl))
  (pss_one (ps_ret (pe_ifExp (dt_cmp d_eq (pe_ix d_ix (dv 2) pe_int (fun _ _ => rfl)) pe_str (nomark _)) (pe_callTy d_int (by rfl) T.b_int (by decide +kernel) (pa_cons (pe_cmpR d_lt (dv 3) (dv 4) (nomark _)) pa_nil)) (pe_callTy d_int (by rfl) T.b_int (by decide +kernel) (pa_cons (pe_cmpR d_eq (dv 3) (dv 4) (nomark _)) pa_nil)))))
  pss_nil)
  (pss_cons (ps_if (dt_cmp d_eq (pe_ix d_ix (dv 2) pe_int (fun _ _ => rfl)) pe_str (nomark _))
  (pss_one (ps_ret (pe_ifExp (dt_cmp d_gt (dv 4) pe_int (nomark _)) (pe_op d_sub (dv 3) (pe_op d_mul (pe_op d_div (dv 3) (dv 4)) (dv 4))) pe_int)))
  pss_nil)
  (pss_cons (ps_set (i := 5) nd rfl (Or.inl rfl) (d_dgetK (room1 hu) (pe_disp (pps_cons pe_str (pe_op d_add2 (dv 3) (dv 4)) (pps_cons pe_str (pe_op d_add2 (pe_op d_sub (dv 3) (dv 4)) pe_int) (pps_cons pe_str (pe_op d_mul (dv 3) (dv 4)) pps_nil))) (by rfl) (by rfl) (fun z => by cases z) (by decide)) (pe_ix d_ix (dv 2) pe_int (fun _ _ => rfl)) (fun _ _ => rfl)))
  (pss_one (ps_ret (pe_op d_sub (dv 5) (pe_op d_mul (pe_op d_div (dv 5) pe_int) pe_int))))))))))
theorem ok_law_do (T : Txt K mg A) (sq ss : Sp) (n : Nat) (G_law_number : FnOk P w K mg base CX0 5 T.law_number.a T.law_number.fd ["known", "event", "e"] (sp_law_number 3)) (G_law_do : FnOk P w K mg base CX0 (n + 5) T.law_do.a T.law_do.fd ["model", "known", "event", "body"] sq)
    (len : ∀ vs H Q E, ss vs H Q E → vs.length = 4) (rd : ∀ vs H Q E, ss vs H Q E → t_law_do K A E sq { nx := fun _ H' => Q .non H', rt := Q } (L2.start N_law_do vs) H) :
    FnOk P w K mg base CX0 (n + 6) T.law_do.a T.law_do.fd ["model", "known", "event", "body"] ss := by
  refine T.law_do.F.ok sc_law_do len (fun cdv AA outer s H vs Q E hr h => ⟨t_law_do K A E sq, ?_, rd vs H Q E h⟩)
  have hr : Room (n + 5) _ := hr
  have hu := hr
  have nd := sc_law_do.nd
  exact (pss_one (d_forT PassesOwn.never rfl (dv 3) (pg_name (i := 4) nd rfl (Or.inl rfl))
  (pss_one (ps_if (dt_cmp d_eq (pe_ix d_ix (dv 4) pe_int (fun _ _ => rfl)) pe_str (nomark _))
  (pss_one (ps_expr (c_call G_law_do (hr.mono (by omega)) T.law_do.g T.law_do.F.kp T.law_do.b (fun _ => at0) (pa_cons (dv 0) (pa_cons (dv 1) (pa_cons (dv 2) (pa_cons (pe_ifExp (dt_cmp d_gt (c_call G_law_number (hr.mono (by omega)) T.law_number.g T.law_number.F.kp T.law_number.b (fun _ => at0) (pa_cons (dv 1) (pa_cons (dv 2) (pa_cons (pe_ix d_ix (dv 4) pe_int (fun _ _ => rfl)) pa_nil)))) pe_int (nomark _)) (pe_ix d_ix (dv 4) pe_int (fun _ _ => rfl)) (pe_ix d_ix (dv 4) pe_int (fun _ _ => rfl))) pa_nil)))))))
  (pss_one (ps_if (dt_cmp d_eq (pe_ix d_ix (dv 4) pe_int (fun _ _ => rfl)) pe_str (nomark _))
  (pss_one (ps_asg (c_call G_law_number (hr.mono (by omega)) T.law_number.g T.law_number.F.kp T.law_number.b (fun _ => at0) (pa_cons (dv 1) (pa_cons (dv 2) (pa_cons (pe_ix d_ix (dv 4) pe_int (fun _ _ => rfl)) pa_nil)))) (pg_sub (d_dgetK (room1 hu) (dv 1) pe_str (fun _ _ => rfl)) (pe_ix d_ix (dv 4) pe_int (fun _ _ => rfl)) (s_setK (room1 hu)))))
  (pss_one (ps_if (dt_cmp d_eq (pe_ix d_ix (dv 4) pe_int (fun _ _ => rfl)) pe_str (nomark _))
  (pss_cons (ps_set (i := 5) nd rfl (Or.inl rfl) (c_call G_law_number (hr.mono (by omega)) T.law_number.g T.law_number.F.kp T.law_number.b (fun _ => at0) (pa_cons (dv 1) (pa_cons (dv 2) (pa_cons (pe_ix d_ix (dv 4) pe_int (fun _ _ => rfl)) pa_nil)))))
  (pss_cons (ps_set (i := 6) nd rfl (Or.inl rfl) (pe_op d_add2 (pe_op d_mul (d_dgetK (room1 hu) (dv 1) pe_str (fun _ _ => rfl)) pe_int) pe_int))
  (pss_cons (ps_asg (pe_op d_sub (dv 6) (pe_op d_mul (pe_op d_divW (dv 6) (pe_op d_pow pe_int pe_int)) (pe_op d_pow pe_int pe_int))) (pg_sub (dv 1) pe_str (s_setK (room1 hu))))
  (pss_one (ps_asg (pe_ifExp (dt_cmp d_gt (dv 5) pe_int (nomark _)) (pe_op d_mod (pe_callTy d_int (by rfl) T.b_int (by decide +kernel) (pa_cons (pe_op d_div (d_dgetK (room1 hu) (dv 1) pe_str (fun _ _ => rfl)) pe_int) pa_nil)) (dv 5)) pe_int) (pg_sub (d_dgetK (room1 hu) (dv 1) pe_str (fun _ _ => rfl)) (pe_ix d_ix (dv 4) pe_int (fun _ _ => rfl)) (s_setK (room1 hu))))))))
  (pss_one (ps_if (dt_cmp d_eq (pe_ix d_ix (dv 4) pe_int (fun _ _ => rfl)) pe_str (nomark _))
  (pss_one (ps_expr (d_bm PySem.F.plainAttrs_list PySem.F.slot_list_append PySem.F.type_list_append m_append (d_dgetK (room1 hu) (dv 1) pe_str (fun _ _ => rfl)) (pa_cons (pe_tup (pa_cons (pe_ix d_ix (dv 2) pe_int (fun _ _ => rfl)) (pa_cons (pe_ix d_ix (dv 2) pe_int (fun _ _ => rfl)) (pa_cons (pe_ix d_ix (dv 4) pe_int (fun _ _ => rfl)) (pa_cons (c_call G_law_number (hr.mono (by omega)) T.law_number.g T.law_number.F.kp T.law_number.b (fun _ => at0) (pa_cons (dv 1) (pa_cons (dv 2) (pa_cons (pe_ix d_ix (dv 4) pe_int (fun _ _ => rfl)) pa_nil)))) pa_nil))))) pa_nil))))
  (pss_cons (ps_set (i := 7) nd rfl (Or.inl rfl) (pe_ix d_ix (pe_ix d_ix (dv 0) (pe_op d_mod (pe_callTy d_int (by rfl) T.b_int (by decide +kernel) (pa_cons (c_call G_law_number (hr.mono (by omega)) T.law_number.g T.law_number.F.kp T.law_number.b (fun _ => at0) (pa_cons (dv 1) (pa_cons (dv 2) (pa_cons (pe_ix d_ix (dv 4) pe_int (fun _ _ => rfl)) pa_nil)))) pa_nil)) (pe_callB d_len (by rfl) T.b_len (by decide +kernel) (pa_cons (dv 0) pa_nil))) (fun _ _ => rfl)) pe_int (fun _ _ => rfl)))
  (pss_cons (ps_set (i := 8) nd rfl (Or.inl rfl) (pe_callB (d_max2 rfl) (by rfl) T.b_max (by decide +kernel) (pa_cons pe_int (pa_cons (c_call G_law_number (hr.mono (by omega)) T.law_number.g T.law_number.F.kp T.law_number.b (fun _ => at0) (pa_cons (dv 1) (pa_cons (dv 2) (pa_cons (pe_ix d_ix (dv 4) pe_int (fun _ _ => rfl)) pa_nil)))) pa_nil))))
  (pss_cons (ps_expr (d_bm PySem.F.plainAttrs_list PySem.F.slot_list_append PySem.F.type_list_append m_append (d_dgetK (room1 hu) (dv 1) pe_str (fun _ _ => rfl)) (pa_cons (pe_tup (pa_cons (pe_op d_add2 (pe_ix d_ix (dv 2) pe_int (fun _ _ => rfl)) (dv 8)) (pa_cons (dv 7) (pa_cons (pe_ix d_ix (dv 4) pe_int (fun _ _ => rfl)) (pa_cons (c_call G_law_number (hr.mono (by omega)) T.law_number.g T.law_number.F.kp T.law_number.b (fun _ => at0) (pa_cons (dv 1) (pa_cons (dv 2) (pa_cons (pe_ix d_ix (dv 4) pe_int (fun _ _ => rfl)) pa_nil)))) (pa_cons (pe_ix d_ix (dv 2) pe_int (fun _ _ => rfl)) (pa_cons (d_dgetK (room1 hu) (dv 1) pe_str (fun _ _ => rfl)) pa_nil))))))) pa_nil)))
  (pss_one (ps_asg (pe_op d_add2 (d_dgetK (room1 hu) (dv 1) pe_str (fun _ _ => rfl)) pe_int) (pg_sub (dv 1) pe_str (s_setK (room1 hu))))))))))))))))))
theorem ok_law_step (T : Txt K mg A)  (G_law_do : FnOk P w K mg base CX0 10 T.law_do.a T.law_do.fd ["model", "known", "event", "body"] (sp_law_do 4))
    (len : ∀ vs H Q E, sp_law_step vs H Q E → vs.length = 3) (rd : ∀ vs H Q E, sp_law_step vs H Q E → t_law_step K A E  { nx := fun _ H' => Q .non H', rt := Q } (L2.start N_law_step vs) H) :
    FnOk P w K mg base CX0 11 T.law_step.a T.law_step.fd ["model", "state", "event"] sp_law_step := by
  refine T.law_step.F.ok sc_law_step len (fun cdv AA outer s H vs Q E hr h => ⟨t_law_step K A E , ?_, rd vs H Q E h⟩)
  have hr : Room 10 _ := hr
  have hu := hr
  have nd := sc_law_step.nd
  exact (pss_cons (ps_set (i := 3) nd rfl (Or.inl rfl) (pe_ix d_ix (d_lcR1 (own := [("k", 9)]) rfl nd T.b_range (pa_cons (pe_callB d_len (by rfl) T.b_len (by decide +kernel) (pa_cons (dv 0) pa_nil)) pa_nil) (blkOk_by (N := N_law_step) (sc := (defScope s_law_step)) (by decide +kernel)) (fun _ _ _ _ _ => (pg_name (i := 9) nd rfl (Or.inl rfl))) (fun _ _ _ _ _ => pts_one (dt_cmp d_eq (pe_ix d_ix (pe_ix d_ix (dv 0) (dv 9) (fun _ _ => rfl)) pe_int (fun _ _ => rfl)) (pe_ix d_ix (dv 2) pe_int (fun _ _ => rfl)) (nomark _))) (fun _ _ _ _ _ => (dv 9))) pe_int (fun _ _ => rfl)))
  (pss_cons (ps_set (i := 4) nd rfl (Or.inr rfl) (d_lcT (own := [("name", 7), ("first", 8)]) rfl nd (pe_ix d_ix (pe_ix d_ix (dv 0) (dv 3) (fun _ _ => rfl)) pe_int (fun _ _ => rfl)) (blkOk_by (N := N_law_step) (sc := (defScope s_law_step)) (by decide +kernel)) (fun _ _ _ _ _ => (dg_tup (by rfl) (dg_cons (pg_name (i := 7) nd rfl (Or.inl rfl)) (dg_cons (pg_name (i := 8) nd rfl (Or.inl rfl)) dg_nil)))) (fun _ _ _ _ _ => pts_nil) (fun _ _ _ _ _ => (dv 7))))
  (pss_cons (ps_set (i := 5) nd rfl (Or.inr rfl) (pe_disp (pps_cons pe_str (pe_callTy (cr_dictP rfl) (by rfl) T.b_dict (by decide +kernel) (pa_cons (d_lcR1 (own := [("k", 9)]) rfl nd T.b_range (pa_cons (pe_callB d_len (by rfl) T.b_len (by decide +kernel) (pa_cons (dv 4) pa_nil)) pa_nil) (blkOk_by (N := N_law_step) (sc := (defScope s_law_step)) (by decide +kernel)) (fun _ _ _ _ _ => (pg_name (i := 9) nd rfl (Or.inl rfl))) (fun _ _ _ _ _ => pts_nil) (fun _ _ _ _ _ => (pe_tup (pa_cons (pe_ix d_ix (dv 4) (dv 9) (fun _ _ => rfl)) (pa_cons (pe_ix d_ix (pe_ix d_ix (dv 1) pe_int (fun _ _ => rfl)) (dv 9) (fun _ _ => rfl)) pa_nil))))) pa_nil)) (pps_cons pe_str (pe_ix d_ix (dv 1) pe_int (fun _ _ => rfl)) (pps_cons pe_str (pe_ix d_ix (dv 1) pe_int (fun _ _ => rfl)) (pps_cons pe_str (pe_lst pa_nil) (pps_cons pe_str (pe_lst pa_nil) pps_nil))))) (by rfl) (by rfl) (fun z => by cases z) (by decide)))
  (pss_cons (ps_set (i := 6) nd rfl (Or.inl rfl) (d_dget2K (room1 hu) (pe_callTy (cr_dictPF rfl) (by rfl) T.b_dict (by decide +kernel) (pa_cons (pe_ix d_ix (pe_ix d_ix (dv 0) (dv 3) (fun _ _ => rfl)) pe_int (fun _ _ => rfl)) pa_nil)) (pe_ix d_ix (dv 2) pe_int (fun _ _ => rfl)) (pe_tup pa_nil) ⟨rfl, by rfl, by rfl, by rfl⟩))
  (pss_cons (ps_expr (c_call G_law_do (hr.mono (by decide)) T.law_do.g T.law_do.F.kp T.law_do.b (fun _ => at0) (pa_cons (dv 0) (pa_cons (dv 5) (pa_cons (dv 2) (pa_cons (dv 6) pa_nil))))))
  (pss_one (ps_ret (pe_tup (pa_cons (pe_tup (pa_cons (pe_callTy d_tupleOf (by rfl) T.b_tuple (by decide +kernel) (pa_cons (d_lcL (own := [("name", 7)]) rfl nd (dv 4) (blkOk_by (N := N_law_step) (sc := (defScope s_law_step)) (by decide +kernel)) (fun _ _ _ _ _ => (pg_name (i := 7) nd rfl (Or.inl rfl))) (fun _ _ _ _ _ => pts_nil) (fun _ _ _ _ _ => (d_dgetK (room1 hu) (d_dgetK (room1 hu) (dv 5) pe_str (fun _ _ => rfl)) (dv 7) (fun _ _ => rfl)))) pa_nil)) (pa_cons (d_dgetK (room1 hu) (dv 5) pe_str (fun _ _ => rfl)) (pa_cons (d_dgetK (room1 hu) (dv 5) pe_str (fun _ _ => rfl)) pa_nil)))) (pa_cons (d_dgetK (room1 hu) (dv 5) pe_str (fun _ _ => rfl)) (pa_cons (d_dgetK (room1 hu) (dv 5) pe_str (fun _ _ => rfl)) pa_nil)))))))))))
theorem ok_law_run (T : Txt K mg A)  (G_law_step : FnOk P w K mg base CX0 11 T.law_step.a T.law_step.fd ["model", "state", "event"] sp_law_step)
    (len : ∀ vs H Q E, sp_law_run vs H Q E → vs.length = 3) (rd : ∀ vs H Q E, sp_law_run vs H Q E → t_law_run K A E  { nx := fun _ H' => Q .non H', rt := Q } (L2.start N_law_run vs) H) :
    FnOk P w K mg base CX0 12 T.law_run.a T.law_run.fd ["model", "starts", "until"] sp_law_run := by
  refine T.law_run.F.ok sc_law_run len (fun cdv AA outer s H vs Q E hr h => ⟨t_law_run K A E , ?_, rd vs H Q E h⟩)
  have hr : Room 11 _ := hr
  have hu := hr
  have nd := sc_law_run.nd
  exact (pss_cons (ps_set (i := 3) nd rfl (Or.inl rfl) pe_dnewK)
  (pss_cons (d_forR1 PassesOwn.never rfl T.b_range (pa_cons (pe_callB d_len (by rfl) T.b_len (by decide +kernel) (pa_cons (dv 0) pa_nil)) pa_nil) (pg_name (i := 4) nd rfl (Or.inl rfl))
  (pss_cons (ps_set (i := 5) nd rfl (Or.inl rfl) (pe_op d_add2 (pe_op d_mul (pe_op d_add2 (dv 4) pe_int) pe_int) pe_int))
  (pss_one (ps_asg (pe_tup (pa_cons (pe_callTy d_tupleOf (by rfl) T.b_tuple (by decide +kernel) (pa_cons (d_lcT (own := [("name", 11), ("first", 12)]) rfl nd (pe_ix d_ix (pe_ix d_ix (dv 0) (dv 4) (fun _ _ => rfl)) pe_int (fun _ _ => rfl)) (blkOk_by (N := N_law_run) (sc := (defScope s_law_run)) (by decide +kernel)) (fun _ _ _ _ _ => (dg_tup (by rfl) (dg_cons (pg_name (i := 11) nd rfl (Or.inl rfl)) (dg_cons (pg_name (i := 12) nd rfl (Or.inl rfl)) dg_nil)))) (fun _ _ _ _ _ => pts_nil) (fun _ _ _ _ _ => (dv 12))) pa_nil)) (pa_cons (pe_op d_sub (dv 5) (pe_op d_mul (pe_op d_divW (dv 5) (pe_op d_pow pe_int pe_int)) (pe_op d_pow pe_int pe_int))) (pa_cons pe_int pa_nil)))) (pg_sub (dv 3) (pe_ix d_ix (pe_ix d_ix (dv 0) (dv 4) (fun _ _ => rfl)) pe_int (fun _ _ => rfl)) (s_setK (room1 hu)))))))
  (pss_cons (d_setR1 (i := 6) (own := [("k", 4)]) rfl nd rfl rfl (sw_true rfl rfl rfl (by decide +kernel)) T.b_range (pa_cons (pe_callB d_len (by rfl) T.b_len (by decide +kernel) (pa_cons (dv 1) pa_nil)) pa_nil) (blkOk_by (N := N_law_run) (sc := (defScope s_law_run)) (by decide +kernel)) (fun _ _ _ _ _ => (pg_name (i := 4) nd rfl (Or.inl rfl))) (fun _ _ _ _ _ => pts_nil) (fun _ _ _ _ _ => (pe_op d_add2 (pe_ix d_ix (dv 1) (dv 4) (fun _ _ => rfl)) (pe_tup (pa_cons pe_str (pa_cons (dv 4) pa_nil))))))
  (pss_cons (ps_set (i := 7) nd rfl (Or.inl rfl) (pe_lst pa_nil))
  (pss_cons (ps_while PassesOwn.never (dt_cmp (d_neD hu) (d_lcL (own := [("event", 8)]) rfl nd (dv 6) (blkOk_by (N := N_law_run) (sc := (defScope s_law_run)) (by decide +kernel)) (fun _ _ _ _ _ => (pg_name (i := 8) nd rfl (Or.inl rfl))) (fun _ _ _ _ _ => pts_one (dt_cmp d_lt (pe_ix d_ix (dv 8) pe_int (fun _ _ => rfl)) (dv 2) (nomark _))) (fun _ _ _ _ _ => (dv 8))) (pe_lst pa_nil) (nomark _))
  (pss_cons (ps_set (i := 8) nd rfl (Or.inl rfl) (pe_callB (cr_minD rfl (room65 hu)) (by rfl) T.b_min (by decide +kernel) (pa_cons (dv 6) pa_nil)))
  (pss_cons (ps_expr (d_bm PySem.F.plainAttrs_list PySem.F.slot_list_remove PySem.F.type_list_remove (mt_remD (room65 hu)) (dv 6) (pa_cons (dv 8) pa_nil)))
  (pss_cons (ps_asg (c_call G_law_step (hr.mono (by decide)) T.law_step.g T.law_step.F.kp T.law_step.b (fun _ => at0) (pa_cons (dv 0) (pa_cons (d_dgetK (room1 hu) (dv 3) (pe_ix d_ix (dv 8) pe_int (fun _ _ => rfl)) (fun _ _ => rfl)) (pa_cons (dv 8) pa_nil)))) (dg_tup (by rfl) (dg_cons (pg_sub (dv 3) (pe_ix d_ix (dv 8) pe_int (fun _ _ => rfl)) (s_setK (room1 hu))) (dg_cons (pg_name (i := 9) nd rfl (Or.inl rfl)) (dg_cons (pg_name (i := 10) nd rfl (Or.inl rfl)) dg_nil)))))
  (pss_cons (ps_expr (d_bm PySem.F.plainAttrs_list PySem.F.slot_list_append PySem.F.type_list_append m_append (dv 7) (pa_cons (pe_tup (pa_cons (dv 8) (pa_cons (pe_callTy d_tupleOf (by rfl) T.b_tuple (by decide +kernel) (pa_cons (dv 10) pa_nil)) pa_nil))) pa_nil)))
  (pss_cons (ps_set (i := 6) nd rfl (Or.inl rfl) (pe_op d_add2 (dv 6) (dv 9)))
  (pss_one (ps_if (dt_cmp d_gt (pe_callB d_len (by rfl) T.b_len (by decide +kernel) (pa_cons (dv 7) pa_nil)) pe_int (nomark _))
  (pss_one (ps_ret pe_non))
  pss_nil))))))))
  (pss_one (ps_ret (pe_tup (pa_cons (pe_callTy d_tupleOf (by rfl) T.b_tuple (by decide +kernel) (pa_cons (dv 7) pa_nil)) (pa_cons (dv 3) (pa_cons (pe_callTy d_tupleOf (by rfl) T.b_tuple (by decide +kernel) (pa_cons (pe_callB (cr_sortD (room64 hu)) (by rfl) T.b_sorted (by decide +kernel) (pa_cons (dv 6) pa_nil)) pa_nil)) pa_nil)))))))))))
theorem ok_law_due (T : Txt K mg A)  
    (len : ∀ vs H Q E, sp_law_due vs H Q E → vs.length = 3) (rd : ∀ vs H Q E, sp_law_due vs H Q E → t_law_due K A E  { nx := fun _ H' => Q .non H', rt := Q } (L2.start N_law_due vs) H) :
    FnOk P w K mg base CX0 1 T.law_due.a T.law_due.fd ["numbers", "part", "whole_one"] sp_law_due := by
  refine T.law_due.F.ok sc_law_due len (fun cdv AA outer s H vs Q E hr h => ⟨t_law_due K A E , ?_, rd vs H Q E h⟩)
  have hr : Room 0 _ := hr
  have hu := hr
  have nd := sc_law_due.nd
  exact (pss_cons (ps_if (dt_cmp (d_eqD hu) (dv 0) (pe_lst pa_nil) (nomark _))
  (pss_one (ps_ret pe_str))
  pss_nil)
  (pss_cons (d_par (by rfl) nd rfl rfl (by decide) rfl rfl (pa_cons (pe_callB cr_sortedI (by rfl) T.b_sorted (by decide +kernel) (pa_cons (dv 0) pa_nil)) (pa_cons pe_int pa_nil)) (by rfl))
  (pss_cons (ps_while PassesOwn.never (dt_cmp d_le (pe_op d_mul (pe_op d_add2 (dv 4) pe_int) (dv 2)) (pe_op d_mul (pe_op d_sub (pe_callB d_len (by rfl) T.b_len (by decide +kernel) (pa_cons (dv 0) pa_nil)) pe_int) (dv 1)) (nomark _))
  (pss_one (ps_set (i := 4) nd rfl (Or.inl rfl) (pe_op d_add2 (dv 4) pe_int))))
  (pss_one (ps_ret (pe_ix d_ix (dv 3) (dv 4) (fun _ _ => rfl)))))))
theorem ok_law_told (T : Txt K mg A)  (G_Ranked_drop : FnOk P w K mg base (L2N.CX P w) 6 T.Ranked_drop.a T.Ranked_drop.fd ["self", "number"] (sp_Ranked_drop A)) (G_Ranked__init_ : FnOk P w K mg base (L2N.CX P w) 2 T.Ranked__init_.a T.Ranked__init_.fd ["self", "part", "whole"] (sp_Ranked__init_ A)) (G_Ranked_told : FnOk P w K mg base (L2N.CX P w) 2 T.Ranked_told.a T.Ranked_told.fd ["self"] (sp_Ranked_told A)) (G_law_word : FnE P w K mg base 1 T.law_word.a T.law_word.fd ["e"] (sp_law_word K A))
    (len : ∀ vs H Q E, (sp_law_told A) vs H Q E → vs.length = 3) (rd : ∀ vs H Q E, (sp_law_told A) vs H Q E → t_law_told K A E  { nx := fun _ H' => Q .non H', rt := Q } (L2.start N_law_told vs) H) :
    FnOk P w K mg base CX0 7 T.law_told.a T.law_told.fd ["which", "ranked", "number"] (sp_law_told A) := by
  refine T.law_told.F.ok sc_law_told len (fun cdv AA outer s H vs Q E hr h => ⟨t_law_told K A E , ?_, rd vs H Q E h⟩)
  have hr : Room 6 _ := hr
  have hu := hr
  have nd := sc_law_told.nd
  exact (pss_one (L2N.ps_try_as (i := 3) (tb := fun W => (tSeq (tIfS (dTest (tOp dEq (dVar 0) (tC (.int 0))))
  (tRet (dMethE A.Ranked "told" (sp_Ranked_told A) (WE W) (dVar 1) tNil))
  tNext)
  (tRet (tIf (dTest (tOp dEq (dVar 0) (tC (.int 1)))) (dMethE A.Ranked "drop" (sp_Ranked_drop A) (WE W) (dVar 1) (tCons (dVar 2) tNil)) (tMakeE A.Ranked (sp_Ranked__init_ A) (WE W) (tCons (tOp dIx (dVar 2) (tC (.int 0))) (tCons (tOp dIx (dVar 2) (tC (.int 1))) tNil))))))) (ts := fun a cls d => (tRet (tCallE (sp_law_word K A) a cls d (tCons (dVar 3) tNil)))) (Wout := (fun _ _ _ _ => False)) rfl rfl nd rfl rfl ⟨rfl, by decide, Or.inl T.x_TraceError.g⟩ takesN0
  (fun W pn xe tk hpa => (pss_cons (ps_if (dt_cmp d_eq (dv 0) pe_int (nomark _))
  (pss_one (ps_ret (d_meth0 (dv 1) T.Ranked__init_.cl T.Ranked_told.m G_Ranked_told (hr.mono (by decide)) T.Ranked_told.b (fun σ => L2N.passAt tk σ))))
  pss_nil)
  (pss_one (ps_ret (pe_ifExp (dt_cmp d_eq (dv 0) pe_int (nomark _)) (d_meth (dv 1) T.Ranked__init_.cl T.Ranked_drop.m G_Ranked_drop (hr.mono (by decide)) T.Ranked_drop.b (fun σ => L2N.passAt tk σ) (pa_cons (dv 2) pa_nil)) (c_make T.Ranked__init_.made G_Ranked__init_ (hr.mono (by decide)) T.Ranked__init_.g T.Ranked__init_.b (fun σ => L2N.passAt tk σ) (pa_cons (pe_ix d_ix (dv 2) pe_int (fun _ _ => rfl)) (pa_cons (pe_ix d_ix (dv 2) pe_int (fun _ _ => rfl)) pa_nil))))))))
  (fun a oe cls d pn hz hf => (pss_one (ps_ret (c_callE G_law_word (L2H.RoomH.mono (k := 6) ⟨hr.dp, hr.un⟩ (by decide)) rfl List.mem_cons_self hz hf T.law_word.g T.law_word.F.kp T.law_word.b (pa_cons (dv 3) pa_nil)))))))
theorem ok_law_all (T : Txt K mg A)  (G_rank_of_all : FnOk P w K mg base (L2N.CX P w) 2 T.rank_of_all.a T.rank_of_all.fd ["numbers", "part", "whole"] (sp_rank_of_all A)) (G_law_word : FnE P w K mg base 1 T.law_word.a T.law_word.fd ["e"] (sp_law_word K A))
    (len : ∀ vs H Q E, (sp_law_all A) vs H Q E → vs.length = 3) (rd : ∀ vs H Q E, (sp_law_all A) vs H Q E → t_law_all K A E  { nx := fun _ H' => Q .non H', rt := Q } (L2.start N_law_all vs) H) :
    FnOk P w K mg base CX0 3 T.law_all.a T.law_all.fd ["numbers", "part", "whole_one"] (sp_law_all A) := by
  refine T.law_all.F.ok sc_law_all len (fun cdv AA outer s H vs Q E hr h => ⟨t_law_all K A E , ?_, rd vs H Q E h⟩)
  have hr : Room 2 _ := hr
  have hu := hr
  have nd := sc_law_all.nd
  exact (pss_one (L2N.ps_try_as (i := 3) (tb := fun W => (tRet (tCallS (sp_rank_of_all A) (WE W) (tCons (dVar 0) (tCons (dVar 1) (tCons (dVar 2) tNil)))))) (ts := fun a cls d => (tRet (tCallE (sp_law_word K A) a cls d (tCons (dVar 3) tNil)))) (Wout := (fun _ _ _ _ => False)) rfl rfl nd rfl rfl ⟨rfl, by decide, Or.inl T.x_TraceError.g⟩ takesN0
  (fun W pn xe tk hpa => (pss_one (ps_ret (c_call G_rank_of_all (hr.mono (by decide)) T.rank_of_all.g T.rank_of_all.F.kp T.rank_of_all.b (fun σ => L2N.passAt tk σ) (pa_cons (dv 0) (pa_cons (dv 1) (pa_cons (dv 2) pa_nil)))))))
  (fun a oe cls d pn hz hf => (pss_one (ps_ret (c_callE G_law_word (L2H.RoomH.mono (k := 2) ⟨hr.dp, hr.un⟩ (by decide)) rfl List.mem_cons_self hz hf T.law_word.g T.law_word.F.kp T.law_word.b (pa_cons (dv 3) pa_nil)))))))
theorem ok_law_right (T : Txt K mg A)  (G_Ranked_numbers : FnOk P w K mg base CX0 2 T.Ranked_numbers.a T.Ranked_numbers.fd ["self"] (sp_Ranked_numbers A)) (G_law_told : FnOk P w K mg base CX0 7 T.law_told.a T.law_told.fd ["which", "ranked", "number"] (sp_law_told A)) (G_law_alike : FnOk P w K mg base CX0 4 T.law_alike.a T.law_alike.fd ["found", "due"] (sp_law_alike K 2)) (G_law_all : FnOk P w K mg base CX0 3 T.law_all.a T.law_all.fd ["numbers", "part", "whole_one"] (sp_law_all A)) (G_law_due : FnOk P w K mg base CX0 1 T.law_due.a T.law_due.fd ["numbers", "part", "whole_one"] sp_law_due)
    (len : ∀ vs H Q E, (sp_law_right A) vs H Q E → vs.length = 4) (rd : ∀ vs H Q E, (sp_law_right A) vs H Q E → t_law_right K A E  { nx := fun _ H' => Q .non H', rt := Q } (L2.start N_law_right vs) H) :
    FnOk P w K mg base CX0 8 T.law_right.a T.law_right.fd ["ranked", "numbers", "part", "whole_one"] (sp_law_right A) := by
  refine T.law_right.F.ok sc_law_right len (fun cdv AA outer s H vs Q E hr h => ⟨t_law_right K A E , ?_, rd vs H Q E h⟩)
  have hr : Room 7 _ := hr
  have hu := hr
  have nd := sc_law_right.nd
  exact (pss_cons (ps_set (i := 4) nd rfl (Or.inl rfl) (c_call G_law_due (hr.mono (by decide)) T.law_due.g T.law_due.F.kp T.law_due.b (fun _ => at0) (pa_cons (dv 1) (pa_cons (dv 2) (pa_cons (dv 3) pa_nil)))))
  (pss_cons (ps_if (PW.pt (pw_or (pt_not (dt_tru (c_call G_law_alike (hr.mono (by decide)) T.law_alike.g T.law_alike.F.kp T.law_alike.b (fun _ => at0) (pa_cons (c_call G_law_told (hr.mono (by decide)) T.law_told.g T.law_told.F.kp T.law_told.b (fun _ => at0) (pa_cons pe_int (pa_cons (dv 0) (pa_cons pe_non pa_nil)))) (pa_cons (dv 4) pa_nil))))) (pw_or (pt_not (dt_tru (c_call G_law_alike (hr.mono (by decide)) T.law_alike.g T.law_alike.F.kp T.law_alike.b (fun _ => at0) (pa_cons (c_call G_law_all (hr.mono (by decide)) T.law_all.g T.law_all.F.kp T.law_all.b (fun _ => at0) (pa_cons (dv 1) (pa_cons (dv 2) (pa_cons (dv 3) pa_nil)))) (pa_cons (dv 4) pa_nil))))) (pw_or1 (pt_not (dt_tru (c_call G_law_alike (hr.mono (by decide)) T.law_alike.g T.law_alike.F.kp T.law_alike.b (fun _ => at0) (pa_cons (c_call G_law_all (hr.mono (by decide)) T.law_all.g T.law_all.F.kp T.law_all.b (fun _ => at0) (pa_cons (pe_callTy d_tupleOf (by rfl) T.b_tuple (by decide +kernel) (pa_cons (pe_callB cr_sortedI (by rfl) T.b_sorted (by decide +kernel) (pa_cons (dv 1) pa_nil)) pa_nil)) (pa_cons (dv 2) (pa_cons (dv 3) pa_nil)))) (pa_cons (dv 4) pa_nil)))))))))
  (pss_one (ps_ret pe_bl))
  pss_nil)
  (pss_one (ps_ret (pe_cmpR (d_eqD hu) (d_meth0 (dv 0) T.Ranked__init_.cl T.Ranked_numbers.m G_Ranked_numbers (hr.mono (by decide)) T.Ranked_numbers.b (fun _ => at0)) (pe_callTy d_tupleOf (by rfl) T.b_tuple (by decide +kernel) (pa_cons (pe_callB cr_sortedI (by rfl) T.b_sorted (by decide +kernel) (pa_cons (dv 1) pa_nil)) pa_nil)) (nomark _))))))
theorem ok_law_runs (T : Txt K mg A)  (G_law_right : FnOk P w K mg base CX0 8 T.law_right.a T.law_right.fd ["ranked", "numbers", "part", "whole_one"] (sp_law_right A)) (G_Ranked_put : FnOk P w K mg base (L2N.CX P w) 6 T.Ranked_put.a T.Ranked_put.fd ["self", "number"] (sp_Ranked_put A)) (G_law_take : FnOk P w K mg base CX0 1 T.law_take.a T.law_take.fd ["draws", "bound"] sp_law_take) (G_Ranked__init_ : FnOk P w K mg base (L2N.CX P w) 2 T.Ranked__init_.a T.Ranked__init_.fd ["self", "part", "whole"] (sp_Ranked__init_ A)) (G_numbers_said : FnOk P w K mg base CX0 2 T.numbers_said.a T.numbers_said.fd ["trace_done", "place", "word"] sp_numbers_said) (G_law_starts : FnOk P w K mg base CX0 2 T.law_starts.a T.law_starts.fd ["draws", "model"] sp_law_starts) (G_law_run : FnOk P w K mg base CX0 12 T.law_run.a T.law_run.fd ["model", "starts", "until"] sp_law_run) (G_law_model : FnOk P w K mg base CX0 14 T.law_model.a T.law_model.fd ["draws", "most"] sp_law_model)
    (len : ∀ vs H Q E, (sp_law_runs A) vs H Q E → vs.length = 3) (rd : ∀ vs H Q E, (sp_law_runs A) vs H Q E → t_law_runs K A E  { nx := fun _ H' => Q .non H', rt := Q } (L2.start N_law_runs vs) H) :
    FnOk P w K mg base CX0 15 T.law_runs.a T.law_runs.fd ["draws", "part", "whole_one"] (sp_law_runs A) := by
  refine T.law_runs.F.ok sc_law_runs len (fun cdv AA outer s H vs Q E hr h => ⟨t_law_runs K A E , ?_, rd vs H Q E h⟩)
  have hr : Room 14 _ := hr
  have hu := hr
  have nd := sc_law_runs.nd
  exact (pss_cons (ps_set (i := 3) nd rfl (Or.inl rfl) (c_call G_law_model (hr.mono (by decide)) T.law_model.g T.law_model.F.kp T.law_model.b (fun _ => at0) (pa_cons (dv 0) (pa_cons pe_int pa_nil))))
  (pss_cons (ps_set (i := 4) nd rfl (Or.inl rfl) (c_call G_law_run (hr.mono (by decide)) T.law_run.g T.law_run.F.kp T.law_run.b (fun _ => at0) (pa_cons (dv 3) (pa_cons (c_call G_law_starts (hr.mono (by decide)) T.law_starts.g T.law_starts.F.kp T.law_starts.b (fun _ => at0) (pa_cons (dv 0) (pa_cons (dv 3) pa_nil))) (pa_cons (pe_op d_add2 pe_int (c_call G_law_take (hr.mono (by decide)) T.law_take.g T.law_take.F.kp T.law_take.b (fun _ => at0) (pa_cons (dv 0) (pa_cons pe_int pa_nil)))) pa_nil)))))
  (pss_cons (ps_if (dt_cmp d_is (dv 4) pe_non (nomark _))
  (pss_one (ps_ret pe_bl))
  pss_nil)
  (pss_cons (d_forL PassesOwn.never rfl (pe_lst (pa_cons pe_str (pa_cons pe_str (pa_cons pe_str pa_nil)))) (pg_name (i := 5) nd rfl (Or.inl rfl))
  (pss_cons (d_setT (i := 6) (own := [("key", 9), ("number", 10)]) rfl nd rfl rfl (sw_true rfl rfl rfl (by decide +kernel)) (c_call G_numbers_said (hr.mono (by decide)) T.numbers_said.g T.numbers_said.F.kp T.numbers_said.b (fun _ => at0) (pa_cons (pe_ix d_ix (dv 4) pe_int (fun _ _ => rfl)) (pa_cons pe_str (pa_cons (dv 5) pa_nil)))) (blkOk_by (N := N_law_runs) (sc := (defScope s_law_runs)) (by decide +kernel)) (fun _ _ _ _ _ => (dg_tup (by rfl) (dg_cons (pg_name (i := 9) nd rfl (Or.inl rfl)) (dg_cons (pg_name (i := 10) nd rfl (Or.inl rfl)) dg_nil)))) (fun _ _ _ _ _ => pts_nil) (fun _ _ _ _ _ => (dv 10)))
  (pss_cons (d_par (by rfl) nd rfl rfl (by decide) rfl rfl (pa_cons (c_make T.Ranked__init_.made G_Ranked__init_ (hr.mono (by decide)) T.Ranked__init_.g T.Ranked__init_.b (fun _ => atN) (pa_cons (dv 1) (pa_cons (dv 2) pa_nil))) (pa_cons (pe_callTy d_listOf (by rfl) T.b_list (by decide +kernel) (pa_cons (dv 6) pa_nil)) pa_nil)) (by rfl))
  (pss_cons (ps_while PassesOwn.never (dt_cmp (d_neD hu) (dv 8) (pe_lst pa_nil) (nomark _))
  (pss_one (ps_expr (d_meth (dv 7) T.Ranked__init_.cl T.Ranked_put.m G_Ranked_put (hr.mono (by decide)) T.Ranked_put.b (fun _ => atN) (pa_cons (d_bm PySem.F.plainAttrs_list PySem.F.slot_list_pop PySem.F.type_list_pop m_popAt (dv 8) (pa_cons (c_call G_law_take (hr.mono (by decide)) T.law_take.g T.law_take.F.kp T.law_take.b (fun _ => at0) (pa_cons (dv 0) (pa_cons (pe_callB d_len (by rfl) T.b_len (by decide +kernel) (pa_cons (dv 8) pa_nil)) pa_nil))) pa_nil)) pa_nil)))))
  (pss_one (ps_if (pt_not (dt_tru (c_call G_law_right (hr.mono (by decide)) T.law_right.g T.law_right.F.kp T.law_right.b (fun _ => at0) (pa_cons (dv 7) (pa_cons (dv 6) (pa_cons (dv 1) (pa_cons (dv 2) pa_nil)))))))
  (pss_one (ps_ret pe_bl))
  pss_nil))))))
  (pss_one (ps_ret pe_bl))))))
theorem ok_law (T : Txt K mg A)  (G_law_told : FnOk P w K mg base CX0 7 T.law_told.a T.law_told.fd ["which", "ranked", "number"] (sp_law_told A)) (G_law_runs : FnOk P w K mg base CX0 15 T.law_runs.a T.law_runs.fd ["draws", "part", "whole_one"] (sp_law_runs A)) (G_law_right : FnOk P w K mg base CX0 8 T.law_right.a T.law_right.fd ["ranked", "numbers", "part", "whole_one"] (sp_law_right A)) (G_Ranked_drop : FnOk P w K mg base (L2N.CX P w) 6 T.Ranked_drop.a T.Ranked_drop.fd ["self", "number"] (sp_Ranked_drop A)) (G_law_take : FnOk P w K mg base CX0 1 T.law_take.a T.law_take.fd ["draws", "bound"] sp_law_take) (G_Ranked_put : FnOk P w K mg base (L2N.CX P w) 6 T.Ranked_put.a T.Ranked_put.fd ["self", "number"] (sp_Ranked_put A)) (G_Ranked_has : FnOk P w K mg base CX0 2 T.Ranked_has.a T.Ranked_has.fd ["self", "number"] (sp_Ranked_has A)) (G_law_says : FnOk P w K mg base CX0 1 T.law_says.a T.law_says.fd ["told", "due"] sp_law_says) (G_law_alike : FnOk P w K mg base CX0 4 T.law_alike.a T.law_alike.fd ["found", "due"] (sp_law_alike K 2)) (G_Ranked__init_ : FnOk P w K mg base (L2N.CX P w) 2 T.Ranked__init_.a T.Ranked__init_.fd ["self", "part", "whole"] (sp_Ranked__init_ A)) (G_law_draws : FnOk P w K mg base CX0 1 T.law_draws.a T.law_draws.fd ["script"] (sp_law_draws K))
    (len : ∀ vs H Q E, (sp_law K) vs H Q E → vs.length = 1) (rd : ∀ vs H Q E, (sp_law K) vs H Q E → t_law K A E  { nx := fun _ H' => Q .non H', rt := Q } (L2.start N_law vs) H) :
    FnOk P w K mg base CX0 16 T.law.a T.law.fd ["script"] (sp_law K) := by
  refine T.law.F.ok sc_law len (fun cdv AA outer s H vs Q E hr h => ⟨t_law K A E , ?_, rd vs H Q E h⟩)
  have hr : Room 15 _ := hr
  have hu := hr
  have nd := sc_law.nd
  exact (pss_cons (ps_set (i := 1) nd rfl (Or.inl rfl) (c_call G_law_draws (hr.mono (by decide)) T.law_draws.g T.law_draws.F.kp T.law_draws.b (fun _ => at0) (pa_cons (dv 0) pa_nil)))
  (pss_cons (ps_asg (pe_ix d_ix (pe_lst (pa_cons (pe_tup (pa_cons pe_int (pa_cons pe_int pa_nil))) (pa_cons (pe_tup (pa_cons pe_int (pa_cons pe_int pa_nil))) (pa_cons (pe_tup (pa_cons pe_int (pa_cons pe_int pa_nil))) (pa_cons (pe_tup (pa_cons pe_int (pa_cons pe_int pa_nil))) (pa_cons (pe_tup (pa_cons pe_int (pa_cons pe_int pa_nil))) (pa_cons (pe_tup (pa_cons pe_int (pa_cons pe_int pa_nil))) (pa_cons (pe_tup (pa_cons pe_int (pa_cons pe_int pa_nil))) pa_nil)))))))) (c_call G_law_take (hr.mono (by decide)) T.law_take.g T.law_take.F.kp T.law_take.b (fun _ => at0) (pa_cons (dv 1) (pa_cons pe_int pa_nil))) (fun _ _ => rfl)) (dg_tup (by rfl) (dg_cons (pg_name (i := 2) nd rfl (Or.inl rfl)) (dg_cons (pg_name (i := 3) nd rfl (Or.inl rfl)) dg_nil))))
  (pss_cons (d_par (by rfl) nd rfl rfl (by decide) rfl rfl (pa_cons (c_make T.Ranked__init_.made G_Ranked__init_ (hr.mono (by decide)) T.Ranked__init_.g T.Ranked__init_.b (fun _ => atN) (pa_cons (dv 2) (pa_cons (dv 3) pa_nil))) (pa_cons (pe_lst pa_nil) pa_nil)) (by rfl))
  (pss_cons (ps_if (pt_not (dt_tru (c_call G_law_right (hr.mono (by decide)) T.law_right.g T.law_right.F.kp T.law_right.b (fun _ => at0) (pa_cons (dv 4) (pa_cons (dv 5) (pa_cons (dv 2) (pa_cons (dv 3) pa_nil)))))))
  (pss_one (ps_ret pe_bl))
  pss_nil)
  (pss_cons (ps_set (i := 6) nd rfl (Or.inl rfl) (pe_ix d_ix (pe_lst (pa_cons pe_int (pa_cons pe_int (pa_cons pe_int pa_nil)))) (c_call G_law_take (hr.mono (by decide)) T.law_take.g T.law_take.F.kp T.law_take.b (fun _ => at0) (pa_cons (dv 1) (pa_cons pe_int pa_nil))) (fun _ _ => rfl)))
  (pss_cons (d_forR1 PassesOwn.never rfl T.b_range (pa_cons (pe_op d_add2 pe_int (c_call G_law_take (hr.mono (by decide)) T.law_take.g T.law_take.F.kp T.law_take.b (fun _ => at0) (pa_cons (dv 1) (pa_cons pe_int pa_nil)))) pa_nil) (pg_name (i := 7) nd rfl (Or.inl rfl))
  (pss_cons (ps_set (i := 8) nd rfl (Or.inl rfl) (pe_op d_sub (c_call G_law_take (hr.mono (by decide)) T.law_take.g T.law_take.F.kp T.law_take.b (fun _ => at0) (pa_cons (dv 1) (pa_cons (dv 6) pa_nil))) (pe_op d_div (dv 6) pe_int)))
  (pss_cons (ps_if (dt_cmp d_lt (c_call G_law_take (hr.mono (by decide)) T.law_take.g T.law_take.F.kp T.law_take.b (fun _ => at0) (pa_cons (dv 1) (pa_cons pe_int pa_nil))) pe_int (nomark _))
  (pss_cons (ps_expr (d_meth (dv 4) T.Ranked__init_.cl T.Ranked_put.m G_Ranked_put (hr.mono (by decide)) T.Ranked_put.b (fun _ => atN) (pa_cons (dv 8) pa_nil)))
  (pss_one (ps_expr (d_bm PySem.F.plainAttrs_list PySem.F.slot_list_append PySem.F.type_list_append m_append (dv 5) (pa_cons (dv 8) pa_nil)))))
  (pss_cons (ps_if (PW.pt (pw_and (dt_cmp (d_neD hu) (dv 5) (pe_lst pa_nil) (nomark _)) (pw_and1 (dt_cmp d_gt (c_call G_law_take (hr.mono (by decide)) T.law_take.g T.law_take.F.kp T.law_take.b (fun _ => at0) (pa_cons (dv 1) (pa_cons pe_int pa_nil))) pe_int (nomark _)))))
  (pss_one (ps_set (i := 8) nd rfl (Or.inl rfl) (pe_ix d_ix (dv 5) (c_call G_law_take (hr.mono (by decide)) T.law_take.g T.law_take.F.kp T.law_take.b (fun _ => at0) (pa_cons (dv 1) (pa_cons (pe_callB d_len (by rfl) T.b_len (by decide +kernel) (pa_cons (dv 5) pa_nil)) pa_nil))) (fun _ _ => rfl))))
  pss_nil)
  (pss_cons (ps_if (PW.pt (pw_or (pt_not (dt_tru (c_call G_law_says (hr.mono (by decide)) T.law_says.g T.law_says.F.kp T.law_says.b (fun _ => at0) (pa_cons (d_meth (dv 4) T.Ranked__init_.cl T.Ranked_has.m G_Ranked_has (hr.mono (by decide)) T.Ranked_has.b (fun _ => at0) (pa_cons (dv 8) pa_nil)) (pa_cons (pe_cmpR d_in (dv 8) (dv 5) (by rfl)) pa_nil))))) (pw_or1 (pt_not (dt_tru (c_call G_law_alike (hr.mono (by decide)) T.law_alike.g T.law_alike.F.kp T.law_alike.b (fun _ => at0) (pa_cons (c_call G_law_told (hr.mono (by decide)) T.law_told.g T.law_told.F.kp T.law_told.b (fun _ => at0) (pa_cons pe_int (pa_cons (dv 4) (pa_cons (dv 8) pa_nil)))) (pa_cons (pe_ifExp (dt_cmp d_in (dv 8) (dv 5) (by rfl)) pe_non pe_str) pa_nil))))))))
  (pss_one (ps_ret pe_bl))
  pss_nil)
  (pss_one (ps_if (dt_cmp d_in (dv 8) (dv 5) (by rfl))
  (pss_one (ps_expr (d_bm PySem.F.plainAttrs_list PySem.F.slot_list_remove PySem.F.type_list_remove (mt_remD (room65 hu)) (dv 5) (pa_cons (dv 8) pa_nil))))
  pss_nil)))))
  (pss_one (ps_if (pt_not (dt_tru (c_call G_law_right (hr.mono (by decide)) T.law_right.g T.law_right.F.kp T.law_right.b (fun _ => at0) (pa_cons (dv 4) (pa_cons (dv 5) (pa_cons (dv 2) (pa_cons (dv 3) pa_nil)))))))
  (pss_one (ps_ret pe_bl))
  pss_nil)))))
  (pss_cons (ps_while PassesOwn.never (dt_cmp (d_neD hu) (dv 5) (pe_lst pa_nil) (nomark _))
  (pss_cons (ps_set (i := 8) nd rfl (Or.inl rfl) (d_bm PySem.F.plainAttrs_list PySem.F.slot_list_pop PySem.F.type_list_pop m_popAt (dv 5) (pa_cons (c_call G_law_take (hr.mono (by decide)) T.law_take.g T.law_take.F.kp T.law_take.b (fun _ => at0) (pa_cons (dv 1) (pa_cons (pe_callB d_len (by rfl) T.b_len (by decide +kernel) (pa_cons (dv 5) pa_nil)) pa_nil))) pa_nil)))
  (pss_cons (ps_expr (d_meth (dv 4) T.Ranked__init_.cl T.Ranked_drop.m G_Ranked_drop (hr.mono (by decide)) T.Ranked_drop.b (fun _ => atN) (pa_cons (dv 8) pa_nil)))
  (pss_one (ps_if (pt_not (dt_tru (c_call G_law_right (hr.mono (by decide)) T.law_right.g T.law_right.F.kp T.law_right.b (fun _ => at0) (pa_cons (dv 4) (pa_cons (dv 5) (pa_cons (dv 2) (pa_cons (dv 3) pa_nil)))))))
  (pss_one (ps_ret pe_bl))
  pss_nil)))))
  (pss_cons (ps_set (i := 9) nd rfl (Or.inl rfl) (pe_lst (pa_cons (pe_tup (pa_cons pe_int (pa_cons pe_int pa_nil))) (pa_cons (pe_tup (pa_cons pe_int (pa_cons pe_int pa_nil))) (pa_cons (pe_tup (pa_cons pe_int (pa_cons pe_int pa_nil))) (pa_cons (pe_tup (pa_cons (pe_un d_neg pe_int) (pa_cons pe_int pa_nil))) (pa_cons (pe_tup (pa_cons pe_int (pa_cons pe_int pa_nil))) (pa_cons (pe_tup (pa_cons pe_non (pa_cons pe_int pa_nil))) (pa_cons (pe_tup (pa_cons pe_int (pa_cons pe_non pa_nil))) (pa_cons (pe_tup (pa_cons pe_bl (pa_cons pe_int pa_nil))) (pa_cons (pe_tup (pa_cons pe_int (pa_cons pe_bl pa_nil))) (pa_cons (pe_tup (pa_cons pe_str (pa_cons pe_int pa_nil))) pa_nil))))))))))))
  (pss_one (ps_ret (d_and (pe_cmpR (d_eqD hu) (d_lcL (own := [("pair", 10)]) rfl nd (dv 9) (blkOk_by (N := N_law) (sc := (defScope s_law)) (by decide +kernel)) (fun _ _ _ _ _ => (pg_name (i := 10) nd rfl (Or.inl rfl))) (fun _ _ _ _ _ => pts_one (dt_cmp d_ne (c_call G_law_told (hr.mono (by decide)) T.law_told.g T.law_told.F.kp T.law_told.b (fun _ => at0) (pa_cons pe_int (pa_cons pe_non (pa_cons (dv 10) pa_nil)))) pe_str (nomark _))) (fun _ _ _ _ _ => (dv 10))) (pe_lst pa_nil) (nomark _)) (pe_one (c_call G_law_runs (hr.mono (by decide)) T.law_runs.g T.law_runs.F.kp T.law_runs.b (fun _ => at0) (pa_cons (dv 1) (pa_cons (dv 2) (pa_cons (dv 3) pa_nil))))))))))))))))
end
theorem wordOk_OutOfRange {K : PySem.W.Frag} {mg : Str → Option Value} {A : Ads} (T : Txt K mg A) : WordOk K A A.OutOfRange "range" :=
  ⟨T.x_OutOfRange.e, T.e_OutOfRange_TraceError, _, _, _, _, _, T.i_OutOfRange_OutOfRange, T.i_OutOfRange_Malformed, T.i_OutOfRange_NotThere, T.i_OutOfRange_Refused, T.i_OutOfRange_TooMuch, by decide +kernel⟩
theorem wordOk_NotThere {K : PySem.W.Frag} {mg : Str → Option Value} {A : Ads} (T : Txt K mg A) : WordOk K A A.NotThere "none" :=
  ⟨T.x_NotThere.e, T.e_NotThere_TraceError, _, _, _, _, _, T.i_NotThere_OutOfRange, T.i_NotThere_Malformed, T.i_NotThere_NotThere, T.i_NotThere_Refused, T.i_NotThere_TooMuch, by decide +kernel⟩
section
variable {P : Program} {w : World} {K : PySem.W.Frag} {mg : Str → Option Value} {A : Ads}
theorem ok_all (T : Txt K mg A) (base : Heap) : FnOk P w K mg base CX0 16 T.law.a T.law.fd ["script"] (sp_law K) := by
  have G_rank_of := ok_rank_of (P := P) (w := w) (base := base) T  (by intro vs H Q E h; first | (obtain ⟨_, rfl, _⟩ := h; rfl) | (obtain ⟨_, _, rfl, _⟩ := h; rfl) | (obtain ⟨_, _, _, rfl, _⟩ := h; rfl) | (obtain ⟨_, _, _, _, rfl, _⟩ := h; rfl) | (obtain ⟨_, _, _, _, _, rfl, _⟩ := h; rfl) | (obtain ⟨_, _, _, _, _, _, rfl, _⟩ := h; rfl) | (obtain ⟨_, _, _, _, _, _, _, rfl, _⟩ := h; rfl) | (obtain ⟨_, _, _, _, _, _, _, _, rfl, _⟩ := h; rfl) | (obtain ⟨_, _, _, _, _, _, _, _, _, rfl, _⟩ := h; rfl) | (obtain ⟨_, _, _, _, _, _, _, _, _, _, rfl, _⟩ := h; rfl) | (obtain ⟨_, _, _, _, _, _, _, _, _, _, _, rfl, _⟩ := h; rfl) | (obtain ⟨_, _, _, _, _, _, _, _, _, _, _, _, rfl, _⟩ := h; rfl) | (obtain ⟨_, _, _, _, _, _, _, _, _, _, _, _, _, rfl, _⟩ := h; rfl) | (obtain ⟨_, _, _, _, _, _, _, _, _, _, _, _, _, _, rfl, _⟩ := h; rfl) | (obtain ⟨_, _, _, _, _, _, _, _, _, _, _, _, _, _, _, rfl, _⟩ := h; rfl)) (fun vs H Q E h => r_rank_of h)
  have G_node_of := ok_node_of (P := P) (w := w) (base := base) T G_rank_of (by intro vs H Q E h; first | (obtain ⟨_, rfl, _⟩ := h; rfl) | (obtain ⟨_, _, rfl, _⟩ := h; rfl) | (obtain ⟨_, _, _, rfl, _⟩ := h; rfl) | (obtain ⟨_, _, _, _, rfl, _⟩ := h; rfl) | (obtain ⟨_, _, _, _, _, rfl, _⟩ := h; rfl) | (obtain ⟨_, _, _, _, _, _, rfl, _⟩ := h; rfl) | (obtain ⟨_, _, _, _, _, _, _, rfl, _⟩ := h; rfl) | (obtain ⟨_, _, _, _, _, _, _, _, rfl, _⟩ := h; rfl) | (obtain ⟨_, _, _, _, _, _, _, _, _, rfl, _⟩ := h; rfl) | (obtain ⟨_, _, _, _, _, _, _, _, _, _, rfl, _⟩ := h; rfl) | (obtain ⟨_, _, _, _, _, _, _, _, _, _, _, rfl, _⟩ := h; rfl) | (obtain ⟨_, _, _, _, _, _, _, _, _, _, _, _, rfl, _⟩ := h; rfl) | (obtain ⟨_, _, _, _, _, _, _, _, _, _, _, _, _, rfl, _⟩ := h; rfl) | (obtain ⟨_, _, _, _, _, _, _, _, _, _, _, _, _, _, rfl, _⟩ := h; rfl) | (obtain ⟨_, _, _, _, _, _, _, _, _, _, _, _, _, _, _, rfl, _⟩ := h; rfl)) (fun vs H Q E h => r_node_of h)
  have G_met := ok_met (P := P) (w := w) (base := base) T G_node_of (by intro vs H Q E h; first | (obtain ⟨_, rfl, _⟩ := h; rfl) | (obtain ⟨_, _, rfl, _⟩ := h; rfl) | (obtain ⟨_, _, _, rfl, _⟩ := h; rfl) | (obtain ⟨_, _, _, _, rfl, _⟩ := h; rfl) | (obtain ⟨_, _, _, _, _, rfl, _⟩ := h; rfl) | (obtain ⟨_, _, _, _, _, _, rfl, _⟩ := h; rfl) | (obtain ⟨_, _, _, _, _, _, _, rfl, _⟩ := h; rfl) | (obtain ⟨_, _, _, _, _, _, _, _, rfl, _⟩ := h; rfl) | (obtain ⟨_, _, _, _, _, _, _, _, _, rfl, _⟩ := h; rfl) | (obtain ⟨_, _, _, _, _, _, _, _, _, _, rfl, _⟩ := h; rfl) | (obtain ⟨_, _, _, _, _, _, _, _, _, _, _, rfl, _⟩ := h; rfl) | (obtain ⟨_, _, _, _, _, _, _, _, _, _, _, _, rfl, _⟩ := h; rfl) | (obtain ⟨_, _, _, _, _, _, _, _, _, _, _, _, _, rfl, _⟩ := h; rfl) | (obtain ⟨_, _, _, _, _, _, _, _, _, _, _, _, _, _, rfl, _⟩ := h; rfl) | (obtain ⟨_, _, _, _, _, _, _, _, _, _, _, _, _, _, _, rfl, _⟩ := h; rfl)) (fun vs H Q E h => r_met h)
  have G_put_in := ok_put_in (P := P) (w := w) (base := base) T G_met (by intro vs H Q E h; first | (obtain ⟨_, rfl, _⟩ := h; rfl) | (obtain ⟨_, _, rfl, _⟩ := h; rfl) | (obtain ⟨_, _, _, rfl, _⟩ := h; rfl) | (obtain ⟨_, _, _, _, rfl, _⟩ := h; rfl) | (obtain ⟨_, _, _, _, _, rfl, _⟩ := h; rfl) | (obtain ⟨_, _, _, _, _, _, rfl, _⟩ := h; rfl) | (obtain ⟨_, _, _, _, _, _, _, rfl, _⟩ := h; rfl) | (obtain ⟨_, _, _, _, _, _, _, _, rfl, _⟩ := h; rfl) | (obtain ⟨_, _, _, _, _, _, _, _, _, rfl, _⟩ := h; rfl) | (obtain ⟨_, _, _, _, _, _, _, _, _, _, rfl, _⟩ := h; rfl) | (obtain ⟨_, _, _, _, _, _, _, _, _, _, _, rfl, _⟩ := h; rfl) | (obtain ⟨_, _, _, _, _, _, _, _, _, _, _, _, rfl, _⟩ := h; rfl) | (obtain ⟨_, _, _, _, _, _, _, _, _, _, _, _, _, rfl, _⟩ := h; rfl) | (obtain ⟨_, _, _, _, _, _, _, _, _, _, _, _, _, _, rfl, _⟩ := h; rfl) | (obtain ⟨_, _, _, _, _, _, _, _, _, _, _, _, _, _, _, rfl, _⟩ := h; rfl)) (fun vs H Q E h => r_put_in h)
  have G_least := ok_least (P := P) (w := w) (base := base) T  (by intro vs H Q E h; first | (obtain ⟨_, rfl, _⟩ := h; rfl) | (obtain ⟨_, _, rfl, _⟩ := h; rfl) | (obtain ⟨_, _, _, rfl, _⟩ := h; rfl) | (obtain ⟨_, _, _, _, rfl, _⟩ := h; rfl) | (obtain ⟨_, _, _, _, _, rfl, _⟩ := h; rfl) | (obtain ⟨_, _, _, _, _, _, rfl, _⟩ := h; rfl) | (obtain ⟨_, _, _, _, _, _, _, rfl, _⟩ := h; rfl) | (obtain ⟨_, _, _, _, _, _, _, _, rfl, _⟩ := h; rfl) | (obtain ⟨_, _, _, _, _, _, _, _, _, rfl, _⟩ := h; rfl) | (obtain ⟨_, _, _, _, _, _, _, _, _, _, rfl, _⟩ := h; rfl) | (obtain ⟨_, _, _, _, _, _, _, _, _, _, _, rfl, _⟩ := h; rfl) | (obtain ⟨_, _, _, _, _, _, _, _, _, _, _, _, rfl, _⟩ := h; rfl) | (obtain ⟨_, _, _, _, _, _, _, _, _, _, _, _, _, rfl, _⟩ := h; rfl) | (obtain ⟨_, _, _, _, _, _, _, _, _, _, _, _, _, _, rfl, _⟩ := h; rfl) | (obtain ⟨_, _, _, _, _, _, _, _, _, _, _, _, _, _, _, rfl, _⟩ := h; rfl)) (fun vs H Q E h => r_least h)
  have G_without_least := ok_without_least (P := P) (w := w) (base := base) T G_met (by intro vs H Q E h; first | (obtain ⟨_, rfl, _⟩ := h; rfl) | (obtain ⟨_, _, rfl, _⟩ := h; rfl) | (obtain ⟨_, _, _, rfl, _⟩ := h; rfl) | (obtain ⟨_, _, _, _, rfl, _⟩ := h; rfl) | (obtain ⟨_, _, _, _, _, rfl, _⟩ := h; rfl) | (obtain ⟨_, _, _, _, _, _, rfl, _⟩ := h; rfl) | (obtain ⟨_, _, _, _, _, _, _, rfl, _⟩ := h; rfl) | (obtain ⟨_, _, _, _, _, _, _, _, rfl, _⟩ := h; rfl) | (obtain ⟨_, _, _, _, _, _, _, _, _, rfl, _⟩ := h; rfl) | (obtain ⟨_, _, _, _, _, _, _, _, _, _, rfl, _⟩ := h; rfl) | (obtain ⟨_, _, _, _, _, _, _, _, _, _, _, rfl, _⟩ := h; rfl) | (obtain ⟨_, _, _, _, _, _, _, _, _, _, _, _, rfl, _⟩ := h; rfl) | (obtain ⟨_, _, _, _, _, _, _, _, _, _, _, _, _, rfl, _⟩ := h; rfl) | (obtain ⟨_, _, _, _, _, _, _, _, _, _, _, _, _, _, rfl, _⟩ := h; rfl) | (obtain ⟨_, _, _, _, _, _, _, _, _, _, _, _, _, _, _, rfl, _⟩ := h; rfl)) (fun vs H Q E h => r_without_least h)
  have G_heap_of := ok_heap_of (P := P) (w := w) (base := base) T  (by intro vs H Q E h; first | (obtain ⟨_, rfl, _⟩ := h; rfl) | (obtain ⟨_, _, rfl, _⟩ := h; rfl) | (obtain ⟨_, _, _, rfl, _⟩ := h; rfl) | (obtain ⟨_, _, _, _, rfl, _⟩ := h; rfl) | (obtain ⟨_, _, _, _, _, rfl, _⟩ := h; rfl) | (obtain ⟨_, _, _, _, _, _, rfl, _⟩ := h; rfl) | (obtain ⟨_, _, _, _, _, _, _, rfl, _⟩ := h; rfl) | (obtain ⟨_, _, _, _, _, _, _, _, rfl, _⟩ := h; rfl) | (obtain ⟨_, _, _, _, _, _, _, _, _, rfl, _⟩ := h; rfl) | (obtain ⟨_, _, _, _, _, _, _, _, _, _, rfl, _⟩ := h; rfl) | (obtain ⟨_, _, _, _, _, _, _, _, _, _, _, rfl, _⟩ := h; rfl) | (obtain ⟨_, _, _, _, _, _, _, _, _, _, _, _, rfl, _⟩ := h; rfl) | (obtain ⟨_, _, _, _, _, _, _, _, _, _, _, _, _, rfl, _⟩ := h; rfl) | (obtain ⟨_, _, _, _, _, _, _, _, _, _, _, _, _, _, rfl, _⟩ := h; rfl) | (obtain ⟨_, _, _, _, _, _, _, _, _, _, _, _, _, _, _, rfl, _⟩ := h; rfl)) (fun vs H Q E h => r_heap_of h)
  have G_items_of := ok_items_of (P := P) (w := w) (base := base) T  (by intro vs H Q E h; first | (obtain ⟨_, rfl, _⟩ := h; rfl) | (obtain ⟨_, _, rfl, _⟩ := h; rfl) | (obtain ⟨_, _, _, rfl, _⟩ := h; rfl) | (obtain ⟨_, _, _, _, rfl, _⟩ := h; rfl) | (obtain ⟨_, _, _, _, _, rfl, _⟩ := h; rfl) | (obtain ⟨_, _, _, _, _, _, rfl, _⟩ := h; rfl) | (obtain ⟨_, _, _, _, _, _, _, rfl, _⟩ := h; rfl) | (obtain ⟨_, _, _, _, _, _, _, _, rfl, _⟩ := h; rfl) | (obtain ⟨_, _, _, _, _, _, _, _, _, rfl, _⟩ := h; rfl) | (obtain ⟨_, _, _, _, _, _, _, _, _, _, rfl, _⟩ := h; rfl) | (obtain ⟨_, _, _, _, _, _, _, _, _, _, _, rfl, _⟩ := h; rfl) | (obtain ⟨_, _, _, _, _, _, _, _, _, _, _, _, rfl, _⟩ := h; rfl) | (obtain ⟨_, _, _, _, _, _, _, _, _, _, _, _, _, rfl, _⟩ := h; rfl) | (obtain ⟨_, _, _, _, _, _, _, _, _, _, _, _, _, _, rfl, _⟩ := h; rfl) | (obtain ⟨_, _, _, _, _, _, _, _, _, _, _, _, _, _, _, rfl, _⟩ := h; rfl)) (fun vs H Q E h => r_items_of h)
  have G_whereQ := ok_whereQ (P := P) (w := w) (base := base) T  (by intro vs H Q E h; first | (obtain ⟨_, rfl, _⟩ := h; rfl) | (obtain ⟨_, _, rfl, _⟩ := h; rfl) | (obtain ⟨_, _, _, rfl, _⟩ := h; rfl) | (obtain ⟨_, _, _, _, rfl, _⟩ := h; rfl) | (obtain ⟨_, _, _, _, _, rfl, _⟩ := h; rfl) | (obtain ⟨_, _, _, _, _, _, rfl, _⟩ := h; rfl) | (obtain ⟨_, _, _, _, _, _, _, rfl, _⟩ := h; rfl) | (obtain ⟨_, _, _, _, _, _, _, _, rfl, _⟩ := h; rfl) | (obtain ⟨_, _, _, _, _, _, _, _, _, rfl, _⟩ := h; rfl) | (obtain ⟨_, _, _, _, _, _, _, _, _, _, rfl, _⟩ := h; rfl) | (obtain ⟨_, _, _, _, _, _, _, _, _, _, _, rfl, _⟩ := h; rfl) | (obtain ⟨_, _, _, _, _, _, _, _, _, _, _, _, rfl, _⟩ := h; rfl) | (obtain ⟨_, _, _, _, _, _, _, _, _, _, _, _, _, rfl, _⟩ := h; rfl) | (obtain ⟨_, _, _, _, _, _, _, _, _, _, _, _, _, _, rfl, _⟩ := h; rfl) | (obtain ⟨_, _, _, _, _, _, _, _, _, _, _, _, _, _, _, rfl, _⟩ := h; rfl)) (fun vs H Q E h => r_whereQ h)
  have G_taken_out := ok_taken_out (P := P) (w := w) (base := base) T G_node_of G_met G_whereQ (by intro vs H Q E h; first | (obtain ⟨_, rfl, _⟩ := h; rfl) | (obtain ⟨_, _, rfl, _⟩ := h; rfl) | (obtain ⟨_, _, _, rfl, _⟩ := h; rfl) | (obtain ⟨_, _, _, _, rfl, _⟩ := h; rfl) | (obtain ⟨_, _, _, _, _, rfl, _⟩ := h; rfl) | (obtain ⟨_, _, _, _, _, _, rfl, _⟩ := h; rfl) | (obtain ⟨_, _, _, _, _, _, _, rfl, _⟩ := h; rfl) | (obtain ⟨_, _, _, _, _, _, _, _, rfl, _⟩ := h; rfl) | (obtain ⟨_, _, _, _, _, _, _, _, _, rfl, _⟩ := h; rfl) | (obtain ⟨_, _, _, _, _, _, _, _, _, _, rfl, _⟩ := h; rfl) | (obtain ⟨_, _, _, _, _, _, _, _, _, _, _, rfl, _⟩ := h; rfl) | (obtain ⟨_, _, _, _, _, _, _, _, _, _, _, _, rfl, _⟩ := h; rfl) | (obtain ⟨_, _, _, _, _, _, _, _, _, _, _, _, _, rfl, _⟩ := h; rfl) | (obtain ⟨_, _, _, _, _, _, _, _, _, _, _, _, _, _, rfl, _⟩ := h; rfl) | (obtain ⟨_, _, _, _, _, _, _, _, _, _, _, _, _, _, _, rfl, _⟩ := h; rfl)) (fun vs H Q E h => r_taken_out h)
  have G_is_number := ok_is_number (P := P) (w := w) (base := base) T  (by intro vs H Q E h; first | (obtain ⟨_, rfl, _⟩ := h; rfl) | (obtain ⟨_, _, rfl, _⟩ := h; rfl) | (obtain ⟨_, _, _, rfl, _⟩ := h; rfl) | (obtain ⟨_, _, _, _, rfl, _⟩ := h; rfl) | (obtain ⟨_, _, _, _, _, rfl, _⟩ := h; rfl) | (obtain ⟨_, _, _, _, _, _, rfl, _⟩ := h; rfl) | (obtain ⟨_, _, _, _, _, _, _, rfl, _⟩ := h; rfl) | (obtain ⟨_, _, _, _, _, _, _, _, rfl, _⟩ := h; rfl) | (obtain ⟨_, _, _, _, _, _, _, _, _, rfl, _⟩ := h; rfl) | (obtain ⟨_, _, _, _, _, _, _, _, _, _, rfl, _⟩ := h; rfl) | (obtain ⟨_, _, _, _, _, _, _, _, _, _, _, rfl, _⟩ := h; rfl) | (obtain ⟨_, _, _, _, _, _, _, _, _, _, _, _, rfl, _⟩ := h; rfl) | (obtain ⟨_, _, _, _, _, _, _, _, _, _, _, _, _, rfl, _⟩ := h; rfl) | (obtain ⟨_, _, _, _, _, _, _, _, _, _, _, _, _, _, rfl, _⟩ := h; rfl) | (obtain ⟨_, _, _, _, _, _, _, _, _, _, _, _, _, _, _, rfl, _⟩ := h; rfl)) (fun vs H Q E h => r_is_number h)
  have G_rank_place := ok_rank_place (P := P) (w := w) (base := base) T  (by intro vs H Q E h; first | (obtain ⟨_, rfl, _⟩ := h; rfl) | (obtain ⟨_, _, rfl, _⟩ := h; rfl) | (obtain ⟨_, _, _, rfl, _⟩ := h; rfl) | (obtain ⟨_, _, _, _, rfl, _⟩ := h; rfl) | (obtain ⟨_, _, _, _, _, rfl, _⟩ := h; rfl) | (obtain ⟨_, _, _, _, _, _, rfl, _⟩ := h; rfl) | (obtain ⟨_, _, _, _, _, _, _, rfl, _⟩ := h; rfl) | (obtain ⟨_, _, _, _, _, _, _, _, rfl, _⟩ := h; rfl) | (obtain ⟨_, _, _, _, _, _, _, _, _, rfl, _⟩ := h; rfl) | (obtain ⟨_, _, _, _, _, _, _, _, _, _, rfl, _⟩ := h; rfl) | (obtain ⟨_, _, _, _, _, _, _, _, _, _, _, rfl, _⟩ := h; rfl) | (obtain ⟨_, _, _, _, _, _, _, _, _, _, _, _, rfl, _⟩ := h; rfl) | (obtain ⟨_, _, _, _, _, _, _, _, _, _, _, _, _, rfl, _⟩ := h; rfl) | (obtain ⟨_, _, _, _, _, _, _, _, _, _, _, _, _, _, rfl, _⟩ := h; rfl) | (obtain ⟨_, _, _, _, _, _, _, _, _, _, _, _, _, _, _, rfl, _⟩ := h; rfl)) (fun vs H Q E h => r_rank_place h)
  have G_Ranked__init_ := ok_Ranked__init_ (P := P) (w := w) (base := base) T G_heap_of G_is_number (by intro vs H Q E h; first | (obtain ⟨_, rfl, _⟩ := h; rfl) | (obtain ⟨_, _, rfl, _⟩ := h; rfl) | (obtain ⟨_, _, _, rfl, _⟩ := h; rfl) | (obtain ⟨_, _, _, _, rfl, _⟩ := h; rfl) | (obtain ⟨_, _, _, _, _, rfl, _⟩ := h; rfl) | (obtain ⟨_, _, _, _, _, _, rfl, _⟩ := h; rfl) | (obtain ⟨_, _, _, _, _, _, _, rfl, _⟩ := h; rfl) | (obtain ⟨_, _, _, _, _, _, _, _, rfl, _⟩ := h; rfl) | (obtain ⟨_, _, _, _, _, _, _, _, _, rfl, _⟩ := h; rfl) | (obtain ⟨_, _, _, _, _, _, _, _, _, _, rfl, _⟩ := h; rfl) | (obtain ⟨_, _, _, _, _, _, _, _, _, _, _, rfl, _⟩ := h; rfl) | (obtain ⟨_, _, _, _, _, _, _, _, _, _, _, _, rfl, _⟩ := h; rfl) | (obtain ⟨_, _, _, _, _, _, _, _, _, _, _, _, _, rfl, _⟩ := h; rfl) | (obtain ⟨_, _, _, _, _, _, _, _, _, _, _, _, _, _, rfl, _⟩ := h; rfl) | (obtain ⟨_, _, _, _, _, _, _, _, _, _, _, _, _, _, _, rfl, _⟩ := h; rfl)) (fun vs H Q E h => r_Ranked__init_ h)
  have G_Ranked_even := ok_Ranked_even (P := P) (w := w) (base := base) T G_put_in G_without_least G_least G_rank_place (by intro vs H Q E h; first | (obtain ⟨_, rfl, _⟩ := h; rfl) | (obtain ⟨_, _, rfl, _⟩ := h; rfl) | (obtain ⟨_, _, _, rfl, _⟩ := h; rfl) | (obtain ⟨_, _, _, _, rfl, _⟩ := h; rfl) | (obtain ⟨_, _, _, _, _, rfl, _⟩ := h; rfl) | (obtain ⟨_, _, _, _, _, _, rfl, _⟩ := h; rfl) | (obtain ⟨_, _, _, _, _, _, _, rfl, _⟩ := h; rfl) | (obtain ⟨_, _, _, _, _, _, _, _, rfl, _⟩ := h; rfl) | (obtain ⟨_, _, _, _, _, _, _, _, _, rfl, _⟩ := h; rfl) | (obtain ⟨_, _, _, _, _, _, _, _, _, _, rfl, _⟩ := h; rfl) | (obtain ⟨_, _, _, _, _, _, _, _, _, _, _, rfl, _⟩ := h; rfl) | (obtain ⟨_, _, _, _, _, _, _, _, _, _, _, _, rfl, _⟩ := h; rfl) | (obtain ⟨_, _, _, _, _, _, _, _, _, _, _, _, _, rfl, _⟩ := h; rfl) | (obtain ⟨_, _, _, _, _, _, _, _, _, _, _, _, _, _, rfl, _⟩ := h; rfl) | (obtain ⟨_, _, _, _, _, _, _, _, _, _, _, _, _, _, _, rfl, _⟩ := h; rfl)) (fun vs H Q E h => r_Ranked_even h)
  have G_Ranked_put := ok_Ranked_put (P := P) (w := w) (base := base) T G_Ranked_even G_least G_put_in (by intro vs H Q E h; first | (obtain ⟨_, rfl, _⟩ := h; rfl) | (obtain ⟨_, _, rfl, _⟩ := h; rfl) | (obtain ⟨_, _, _, rfl, _⟩ := h; rfl) | (obtain ⟨_, _, _, _, rfl, _⟩ := h; rfl) | (obtain ⟨_, _, _, _, _, rfl, _⟩ := h; rfl) | (obtain ⟨_, _, _, _, _, _, rfl, _⟩ := h; rfl) | (obtain ⟨_, _, _, _, _, _, _, rfl, _⟩ := h; rfl) | (obtain ⟨_, _, _, _, _, _, _, _, rfl, _⟩ := h; rfl) | (obtain ⟨_, _, _, _, _, _, _, _, _, rfl, _⟩ := h; rfl) | (obtain ⟨_, _, _, _, _, _, _, _, _, _, rfl, _⟩ := h; rfl) | (obtain ⟨_, _, _, _, _, _, _, _, _, _, _, rfl, _⟩ := h; rfl) | (obtain ⟨_, _, _, _, _, _, _, _, _, _, _, _, rfl, _⟩ := h; rfl) | (obtain ⟨_, _, _, _, _, _, _, _, _, _, _, _, _, rfl, _⟩ := h; rfl) | (obtain ⟨_, _, _, _, _, _, _, _, _, _, _, _, _, _, rfl, _⟩ := h; rfl) | (obtain ⟨_, _, _, _, _, _, _, _, _, _, _, _, _, _, _, rfl, _⟩ := h; rfl)) (fun vs H Q E h => r_Ranked_put h)
  have G_Ranked_drop := ok_Ranked_drop (P := P) (w := w) (base := base) T G_Ranked_even G_least G_taken_out (by intro vs H Q E h; first | (obtain ⟨_, rfl, _⟩ := h; rfl) | (obtain ⟨_, _, rfl, _⟩ := h; rfl) | (obtain ⟨_, _, _, rfl, _⟩ := h; rfl) | (obtain ⟨_, _, _, _, rfl, _⟩ := h; rfl) | (obtain ⟨_, _, _, _, _, rfl, _⟩ := h; rfl) | (obtain ⟨_, _, _, _, _, _, rfl, _⟩ := h; rfl) | (obtain ⟨_, _, _, _, _, _, _, rfl, _⟩ := h; rfl) | (obtain ⟨_, _, _, _, _, _, _, _, rfl, _⟩ := h; rfl) | (obtain ⟨_, _, _, _, _, _, _, _, _, rfl, _⟩ := h; rfl) | (obtain ⟨_, _, _, _, _, _, _, _, _, _, rfl, _⟩ := h; rfl) | (obtain ⟨_, _, _, _, _, _, _, _, _, _, _, rfl, _⟩ := h; rfl) | (obtain ⟨_, _, _, _, _, _, _, _, _, _, _, _, rfl, _⟩ := h; rfl) | (obtain ⟨_, _, _, _, _, _, _, _, _, _, _, _, _, rfl, _⟩ := h; rfl) | (obtain ⟨_, _, _, _, _, _, _, _, _, _, _, _, _, _, rfl, _⟩ := h; rfl) | (obtain ⟨_, _, _, _, _, _, _, _, _, _, _, _, _, _, _, rfl, _⟩ := h; rfl)) (fun vs H Q E h => r_Ranked_drop h)
  have G_Ranked_told := ok_Ranked_told (P := P) (w := w) (base := base) T G_least (by intro vs H Q E h; first | (obtain ⟨_, rfl, _⟩ := h; rfl) | (obtain ⟨_, _, rfl, _⟩ := h; rfl) | (obtain ⟨_, _, _, rfl, _⟩ := h; rfl) | (obtain ⟨_, _, _, _, rfl, _⟩ := h; rfl) | (obtain ⟨_, _, _, _, _, rfl, _⟩ := h; rfl) | (obtain ⟨_, _, _, _, _, _, rfl, _⟩ := h; rfl) | (obtain ⟨_, _, _, _, _, _, _, rfl, _⟩ := h; rfl) | (obtain ⟨_, _, _, _, _, _, _, _, rfl, _⟩ := h; rfl) | (obtain ⟨_, _, _, _, _, _, _, _, _, rfl, _⟩ := h; rfl) | (obtain ⟨_, _, _, _, _, _, _, _, _, _, rfl, _⟩ := h; rfl) | (obtain ⟨_, _, _, _, _, _, _, _, _, _, _, rfl, _⟩ := h; rfl) | (obtain ⟨_, _, _, _, _, _, _, _, _, _, _, _, rfl, _⟩ := h; rfl) | (obtain ⟨_, _, _, _, _, _, _, _, _, _, _, _, _, rfl, _⟩ := h; rfl) | (obtain ⟨_, _, _, _, _, _, _, _, _, _, _, _, _, _, rfl, _⟩ := h; rfl) | (obtain ⟨_, _, _, _, _, _, _, _, _, _, _, _, _, _, _, rfl, _⟩ := h; rfl)) (fun vs H Q E h => r_Ranked_told h)
  have G_Ranked_numbers := ok_Ranked_numbers (P := P) (w := w) (base := base) T G_items_of (by intro vs H Q E h; first | (obtain ⟨_, rfl, _⟩ := h; rfl) | (obtain ⟨_, _, rfl, _⟩ := h; rfl) | (obtain ⟨_, _, _, rfl, _⟩ := h; rfl) | (obtain ⟨_, _, _, _, rfl, _⟩ := h; rfl) | (obtain ⟨_, _, _, _, _, rfl, _⟩ := h; rfl) | (obtain ⟨_, _, _, _, _, _, rfl, _⟩ := h; rfl) | (obtain ⟨_, _, _, _, _, _, _, rfl, _⟩ := h; rfl) | (obtain ⟨_, _, _, _, _, _, _, _, rfl, _⟩ := h; rfl) | (obtain ⟨_, _, _, _, _, _, _, _, _, rfl, _⟩ := h; rfl) | (obtain ⟨_, _, _, _, _, _, _, _, _, _, rfl, _⟩ := h; rfl) | (obtain ⟨_, _, _, _, _, _, _, _, _, _, _, rfl, _⟩ := h; rfl) | (obtain ⟨_, _, _, _, _, _, _, _, _, _, _, _, rfl, _⟩ := h; rfl) | (obtain ⟨_, _, _, _, _, _, _, _, _, _, _, _, _, rfl, _⟩ := h; rfl) | (obtain ⟨_, _, _, _, _, _, _, _, _, _, _, _, _, _, rfl, _⟩ := h; rfl) | (obtain ⟨_, _, _, _, _, _, _, _, _, _, _, _, _, _, _, rfl, _⟩ := h; rfl)) (fun vs H Q E h => r_Ranked_numbers h)
  have G_Ranked_has := ok_Ranked_has (P := P) (w := w) (base := base) T G_whereQ (by intro vs H Q E h; first | (obtain ⟨_, rfl, _⟩ := h; rfl) | (obtain ⟨_, _, rfl, _⟩ := h; rfl) | (obtain ⟨_, _, _, rfl, _⟩ := h; rfl) | (obtain ⟨_, _, _, _, rfl, _⟩ := h; rfl) | (obtain ⟨_, _, _, _, _, rfl, _⟩ := h; rfl) | (obtain ⟨_, _, _, _, _, _, rfl, _⟩ := h; rfl) | (obtain ⟨_, _, _, _, _, _, _, rfl, _⟩ := h; rfl) | (obtain ⟨_, _, _, _, _, _, _, _, rfl, _⟩ := h; rfl) | (obtain ⟨_, _, _, _, _, _, _, _, _, rfl, _⟩ := h; rfl) | (obtain ⟨_, _, _, _, _, _, _, _, _, _, rfl, _⟩ := h; rfl) | (obtain ⟨_, _, _, _, _, _, _, _, _, _, _, rfl, _⟩ := h; rfl) | (obtain ⟨_, _, _, _, _, _, _, _, _, _, _, _, rfl, _⟩ := h; rfl) | (obtain ⟨_, _, _, _, _, _, _, _, _, _, _, _, _, rfl, _⟩ := h; rfl) | (obtain ⟨_, _, _, _, _, _, _, _, _, _, _, _, _, _, rfl, _⟩ := h; rfl) | (obtain ⟨_, _, _, _, _, _, _, _, _, _, _, _, _, _, _, rfl, _⟩ := h; rfl)) (fun vs H Q E h => r_Ranked_has T.e_NotThere_NotThere h)
  have G_rank_of_all := ok_rank_of_all (P := P) (w := w) (base := base) T G_rank_place (by intro vs H Q E h; first | (obtain ⟨_, rfl, _⟩ := h; rfl) | (obtain ⟨_, _, rfl, _⟩ := h; rfl) | (obtain ⟨_, _, _, rfl, _⟩ := h; rfl) | (obtain ⟨_, _, _, _, rfl, _⟩ := h; rfl) | (obtain ⟨_, _, _, _, _, rfl, _⟩ := h; rfl) | (obtain ⟨_, _, _, _, _, _, rfl, _⟩ := h; rfl) | (obtain ⟨_, _, _, _, _, _, _, rfl, _⟩ := h; rfl) | (obtain ⟨_, _, _, _, _, _, _, _, rfl, _⟩ := h; rfl) | (obtain ⟨_, _, _, _, _, _, _, _, _, rfl, _⟩ := h; rfl) | (obtain ⟨_, _, _, _, _, _, _, _, _, _, rfl, _⟩ := h; rfl) | (obtain ⟨_, _, _, _, _, _, _, _, _, _, _, rfl, _⟩ := h; rfl) | (obtain ⟨_, _, _, _, _, _, _, _, _, _, _, _, rfl, _⟩ := h; rfl) | (obtain ⟨_, _, _, _, _, _, _, _, _, _, _, _, _, rfl, _⟩ := h; rfl) | (obtain ⟨_, _, _, _, _, _, _, _, _, _, _, _, _, _, rfl, _⟩ := h; rfl) | (obtain ⟨_, _, _, _, _, _, _, _, _, _, _, _, _, _, _, rfl, _⟩ := h; rfl)) (fun vs H Q E h => r_rank_of_all h)
  have G_keyed := ok_keyed (P := P) (w := w) (base := base) T  (by intro vs H Q E h; first | (obtain ⟨_, rfl, _⟩ := h; rfl) | (obtain ⟨_, _, rfl, _⟩ := h; rfl) | (obtain ⟨_, _, _, rfl, _⟩ := h; rfl) | (obtain ⟨_, _, _, _, rfl, _⟩ := h; rfl) | (obtain ⟨_, _, _, _, _, rfl, _⟩ := h; rfl) | (obtain ⟨_, _, _, _, _, _, rfl, _⟩ := h; rfl) | (obtain ⟨_, _, _, _, _, _, _, rfl, _⟩ := h; rfl) | (obtain ⟨_, _, _, _, _, _, _, _, rfl, _⟩ := h; rfl) | (obtain ⟨_, _, _, _, _, _, _, _, _, rfl, _⟩ := h; rfl) | (obtain ⟨_, _, _, _, _, _, _, _, _, _, rfl, _⟩ := h; rfl) | (obtain ⟨_, _, _, _, _, _, _, _, _, _, _, rfl, _⟩ := h; rfl) | (obtain ⟨_, _, _, _, _, _, _, _, _, _, _, _, rfl, _⟩ := h; rfl) | (obtain ⟨_, _, _, _, _, _, _, _, _, _, _, _, _, rfl, _⟩ := h; rfl) | (obtain ⟨_, _, _, _, _, _, _, _, _, _, _, _, _, _, rfl, _⟩ := h; rfl) | (obtain ⟨_, _, _, _, _, _, _, _, _, _, _, _, _, _, _, rfl, _⟩ := h; rfl)) (fun vs H Q E h => r_keyed h)
  have G_is_meant := ok_is_meant (P := P) (w := w) (base := base) T  (by intro vs H Q E h; first | (obtain ⟨_, rfl, _⟩ := h; rfl) | (obtain ⟨_, _, rfl, _⟩ := h; rfl) | (obtain ⟨_, _, _, rfl, _⟩ := h; rfl) | (obtain ⟨_, _, _, _, rfl, _⟩ := h; rfl) | (obtain ⟨_, _, _, _, _, rfl, _⟩ := h; rfl) | (obtain ⟨_, _, _, _, _, _, rfl, _⟩ := h; rfl) | (obtain ⟨_, _, _, _, _, _, _, rfl, _⟩ := h; rfl) | (obtain ⟨_, _, _, _, _, _, _, _, rfl, _⟩ := h; rfl) | (obtain ⟨_, _, _, _, _, _, _, _, _, rfl, _⟩ := h; rfl) | (obtain ⟨_, _, _, _, _, _, _, _, _, _, rfl, _⟩ := h; rfl) | (obtain ⟨_, _, _, _, _, _, _, _, _, _, _, rfl, _⟩ := h; rfl) | (obtain ⟨_, _, _, _, _, _, _, _, _, _, _, _, rfl, _⟩ := h; rfl) | (obtain ⟨_, _, _, _, _, _, _, _, _, _, _, _, _, rfl, _⟩ := h; rfl) | (obtain ⟨_, _, _, _, _, _, _, _, _, _, _, _, _, _, rfl, _⟩ := h; rfl) | (obtain ⟨_, _, _, _, _, _, _, _, _, _, _, _, _, _, _, rfl, _⟩ := h; rfl)) (fun vs H Q E h => r_is_meant h)
  have G_numbers_said := ok_numbers_said (P := P) (w := w) (base := base) T G_is_meant G_keyed (by intro vs H Q E h; first | (obtain ⟨_, rfl, _⟩ := h; rfl) | (obtain ⟨_, _, rfl, _⟩ := h; rfl) | (obtain ⟨_, _, _, rfl, _⟩ := h; rfl) | (obtain ⟨_, _, _, _, rfl, _⟩ := h; rfl) | (obtain ⟨_, _, _, _, _, rfl, _⟩ := h; rfl) | (obtain ⟨_, _, _, _, _, _, rfl, _⟩ := h; rfl) | (obtain ⟨_, _, _, _, _, _, _, rfl, _⟩ := h; rfl) | (obtain ⟨_, _, _, _, _, _, _, _, rfl, _⟩ := h; rfl) | (obtain ⟨_, _, _, _, _, _, _, _, _, rfl, _⟩ := h; rfl) | (obtain ⟨_, _, _, _, _, _, _, _, _, _, rfl, _⟩ := h; rfl) | (obtain ⟨_, _, _, _, _, _, _, _, _, _, _, rfl, _⟩ := h; rfl) | (obtain ⟨_, _, _, _, _, _, _, _, _, _, _, _, rfl, _⟩ := h; rfl) | (obtain ⟨_, _, _, _, _, _, _, _, _, _, _, _, _, rfl, _⟩ := h; rfl) | (obtain ⟨_, _, _, _, _, _, _, _, _, _, _, _, _, _, rfl, _⟩ := h; rfl) | (obtain ⟨_, _, _, _, _, _, _, _, _, _, _, _, _, _, _, rfl, _⟩ := h; rfl)) (fun vs H Q E h => r_numbers_said h)
  have G_law_draws := ok_law_draws (P := P) (w := w) (base := base) T  (by intro vs H Q E h; first | (obtain ⟨_, rfl, _⟩ := h; rfl) | (obtain ⟨_, _, rfl, _⟩ := h; rfl) | (obtain ⟨_, _, _, rfl, _⟩ := h; rfl) | (obtain ⟨_, _, _, _, rfl, _⟩ := h; rfl) | (obtain ⟨_, _, _, _, _, rfl, _⟩ := h; rfl) | (obtain ⟨_, _, _, _, _, _, rfl, _⟩ := h; rfl) | (obtain ⟨_, _, _, _, _, _, _, rfl, _⟩ := h; rfl) | (obtain ⟨_, _, _, _, _, _, _, _, rfl, _⟩ := h; rfl) | (obtain ⟨_, _, _, _, _, _, _, _, _, rfl, _⟩ := h; rfl) | (obtain ⟨_, _, _, _, _, _, _, _, _, _, rfl, _⟩ := h; rfl) | (obtain ⟨_, _, _, _, _, _, _, _, _, _, _, rfl, _⟩ := h; rfl) | (obtain ⟨_, _, _, _, _, _, _, _, _, _, _, _, rfl, _⟩ := h; rfl) | (obtain ⟨_, _, _, _, _, _, _, _, _, _, _, _, _, rfl, _⟩ := h; rfl) | (obtain ⟨_, _, _, _, _, _, _, _, _, _, _, _, _, _, rfl, _⟩ := h; rfl) | (obtain ⟨_, _, _, _, _, _, _, _, _, _, _, _, _, _, _, rfl, _⟩ := h; rfl)) (fun vs H Q E h => r_law_draws h)
  have G_law_take := ok_law_take (P := P) (w := w) (base := base) T  (by intro vs H Q E h; first | (obtain ⟨_, rfl, _⟩ := h; rfl) | (obtain ⟨_, _, rfl, _⟩ := h; rfl) | (obtain ⟨_, _, _, rfl, _⟩ := h; rfl) | (obtain ⟨_, _, _, _, rfl, _⟩ := h; rfl) | (obtain ⟨_, _, _, _, _, rfl, _⟩ := h; rfl) | (obtain ⟨_, _, _, _, _, _, rfl, _⟩ := h; rfl) | (obtain ⟨_, _, _, _, _, _, _, rfl, _⟩ := h; rfl) | (obtain ⟨_, _, _, _, _, _, _, _, rfl, _⟩ := h; rfl) | (obtain ⟨_, _, _, _, _, _, _, _, _, rfl, _⟩ := h; rfl) | (obtain ⟨_, _, _, _, _, _, _, _, _, _, rfl, _⟩ := h; rfl) | (obtain ⟨_, _, _, _, _, _, _, _, _, _, _, rfl, _⟩ := h; rfl) | (obtain ⟨_, _, _, _, _, _, _, _, _, _, _, _, rfl, _⟩ := h; rfl) | (obtain ⟨_, _, _, _, _, _, _, _, _, _, _, _, _, rfl, _⟩ := h; rfl) | (obtain ⟨_, _, _, _, _, _, _, _, _, _, _, _, _, _, rfl, _⟩ := h; rfl) | (obtain ⟨_, _, _, _, _, _, _, _, _, _, _, _, _, _, _, rfl, _⟩ := h; rfl)) (fun vs H Q E h => r_law_take h)
  have law_alikeZ0 : FnOk P w K mg base CX0 1 T.law_alike.a T.law_alike.fd ["found", "due"] (fun _ _ _ _ => False) := ⟨fun _ _ _ _ h => h.elim, fun _ _ _ _ _ _ _ _ _ _ _ _ _ h => h.elim⟩
  have law_alikeZ1 := ok_law_alike (P := P) (w := w) (base := base) T (fun _ _ _ _ => False) (sp_law_alike K 0) 0 law_alikeZ0 (by intro vs H Q E h; first | (obtain ⟨_, rfl, _⟩ := h; rfl) | (obtain ⟨_, _, rfl, _⟩ := h; rfl) | (obtain ⟨_, _, _, rfl, _⟩ := h; rfl) | (obtain ⟨_, _, _, _, rfl, _⟩ := h; rfl) | (obtain ⟨_, _, _, _, _, rfl, _⟩ := h; rfl) | (obtain ⟨_, _, _, _, _, _, rfl, _⟩ := h; rfl) | (obtain ⟨_, _, _, _, _, _, _, rfl, _⟩ := h; rfl) | (obtain ⟨_, _, _, _, _, _, _, _, rfl, _⟩ := h; rfl) | (obtain ⟨_, _, _, _, _, _, _, _, _, rfl, _⟩ := h; rfl) | (obtain ⟨_, _, _, _, _, _, _, _, _, _, rfl, _⟩ := h; rfl) | (obtain ⟨_, _, _, _, _, _, _, _, _, _, _, rfl, _⟩ := h; rfl) | (obtain ⟨_, _, _, _, _, _, _, _, _, _, _, _, rfl, _⟩ := h; rfl) | (obtain ⟨_, _, _, _, _, _, _, _, _, _, _, _, _, rfl, _⟩ := h; rfl) | (obtain ⟨_, _, _, _, _, _, _, _, _, _, _, _, _, _, rfl, _⟩ := h; rfl) | (obtain ⟨_, _, _, _, _, _, _, _, _, _, _, _, _, _, _, rfl, _⟩ := h; rfl)) (fun vs H Q E h => r_law_alike0 h)
  have law_alikeZ2 := ok_law_alike (P := P) (w := w) (base := base) T (sp_law_alike K 0) (sp_law_alike K 1) 1 law_alikeZ1 (by intro vs H Q E h; first | (obtain ⟨_, rfl, _⟩ := h; rfl) | (obtain ⟨_, _, rfl, _⟩ := h; rfl) | (obtain ⟨_, _, _, rfl, _⟩ := h; rfl) | (obtain ⟨_, _, _, _, rfl, _⟩ := h; rfl) | (obtain ⟨_, _, _, _, _, rfl, _⟩ := h; rfl) | (obtain ⟨_, _, _, _, _, _, rfl, _⟩ := h; rfl) | (obtain ⟨_, _, _, _, _, _, _, rfl, _⟩ := h; rfl) | (obtain ⟨_, _, _, _, _, _, _, _, rfl, _⟩ := h; rfl) | (obtain ⟨_, _, _, _, _, _, _, _, _, rfl, _⟩ := h; rfl) | (obtain ⟨_, _, _, _, _, _, _, _, _, _, rfl, _⟩ := h; rfl) | (obtain ⟨_, _, _, _, _, _, _, _, _, _, _, rfl, _⟩ := h; rfl) | (obtain ⟨_, _, _, _, _, _, _, _, _, _, _, _, rfl, _⟩ := h; rfl) | (obtain ⟨_, _, _, _, _, _, _, _, _, _, _, _, _, rfl, _⟩ := h; rfl) | (obtain ⟨_, _, _, _, _, _, _, _, _, _, _, _, _, _, rfl, _⟩ := h; rfl) | (obtain ⟨_, _, _, _, _, _, _, _, _, _, _, _, _, _, _, rfl, _⟩ := h; rfl)) (fun vs H Q E h => r_law_alike h)
  have law_alikeZ3 := ok_law_alike (P := P) (w := w) (base := base) T (sp_law_alike K 1) (sp_law_alike K 2) 2 law_alikeZ2 (by intro vs H Q E h; first | (obtain ⟨_, rfl, _⟩ := h; rfl) | (obtain ⟨_, _, rfl, _⟩ := h; rfl) | (obtain ⟨_, _, _, rfl, _⟩ := h; rfl) | (obtain ⟨_, _, _, _, rfl, _⟩ := h; rfl) | (obtain ⟨_, _, _, _, _, rfl, _⟩ := h; rfl) | (obtain ⟨_, _, _, _, _, _, rfl, _⟩ := h; rfl) | (obtain ⟨_, _, _, _, _, _, _, rfl, _⟩ := h; rfl) | (obtain ⟨_, _, _, _, _, _, _, _, rfl, _⟩ := h; rfl) | (obtain ⟨_, _, _, _, _, _, _, _, _, rfl, _⟩ := h; rfl) | (obtain ⟨_, _, _, _, _, _, _, _, _, _, rfl, _⟩ := h; rfl) | (obtain ⟨_, _, _, _, _, _, _, _, _, _, _, rfl, _⟩ := h; rfl) | (obtain ⟨_, _, _, _, _, _, _, _, _, _, _, _, rfl, _⟩ := h; rfl) | (obtain ⟨_, _, _, _, _, _, _, _, _, _, _, _, _, rfl, _⟩ := h; rfl) | (obtain ⟨_, _, _, _, _, _, _, _, _, _, _, _, _, _, rfl, _⟩ := h; rfl) | (obtain ⟨_, _, _, _, _, _, _, _, _, _, _, _, _, _, _, rfl, _⟩ := h; rfl)) (fun vs H Q E h => r_law_alike h)
  have G_law_alike := law_alikeZ3
  have G_law_says := ok_law_says (P := P) (w := w) (base := base) T  (by intro vs H Q E h; first | (obtain ⟨_, rfl, _⟩ := h; rfl) | (obtain ⟨_, _, rfl, _⟩ := h; rfl) | (obtain ⟨_, _, _, rfl, _⟩ := h; rfl) | (obtain ⟨_, _, _, _, rfl, _⟩ := h; rfl) | (obtain ⟨_, _, _, _, _, rfl, _⟩ := h; rfl) | (obtain ⟨_, _, _, _, _, _, rfl, _⟩ := h; rfl) | (obtain ⟨_, _, _, _, _, _, _, rfl, _⟩ := h; rfl) | (obtain ⟨_, _, _, _, _, _, _, _, rfl, _⟩ := h; rfl) | (obtain ⟨_, _, _, _, _, _, _, _, _, rfl, _⟩ := h; rfl) | (obtain ⟨_, _, _, _, _, _, _, _, _, _, rfl, _⟩ := h; rfl) | (obtain ⟨_, _, _, _, _, _, _, _, _, _, _, rfl, _⟩ := h; rfl) | (obtain ⟨_, _, _, _, _, _, _, _, _, _, _, _, rfl, _⟩ := h; rfl) | (obtain ⟨_, _, _, _, _, _, _, _, _, _, _, _, _, rfl, _⟩ := h; rfl) | (obtain ⟨_, _, _, _, _, _, _, _, _, _, _, _, _, _, rfl, _⟩ := h; rfl) | (obtain ⟨_, _, _, _, _, _, _, _, _, _, _, _, _, _, _, rfl, _⟩ := h; rfl)) (fun vs H Q E h => r_law_says h)
  have G_law_word := ok_law_word (P := P) (w := w) (base := base) T (by intro a c d vs H Q E h; first | (obtain ⟨_, rfl, _⟩ := h; rfl) | (obtain ⟨_, _, rfl, _⟩ := h; rfl) | (obtain ⟨_, _, _, rfl, _⟩ := h; rfl) | (obtain ⟨_, _, _, _, rfl, _⟩ := h; rfl) | (obtain ⟨_, _, _, _, _, rfl, _⟩ := h; rfl) | (obtain ⟨_, _, _, _, _, _, rfl, _⟩ := h; rfl) | (obtain ⟨_, _, _, _, _, _, _, rfl, _⟩ := h; rfl) | (obtain ⟨_, _, _, _, _, _, _, _, rfl, _⟩ := h; rfl) | (obtain ⟨_, _, _, _, _, _, _, _, _, rfl, _⟩ := h; rfl) | (obtain ⟨_, _, _, _, _, _, _, _, _, _, rfl, _⟩ := h; rfl) | (obtain ⟨_, _, _, _, _, _, _, _, _, _, _, rfl, _⟩ := h; rfl) | (obtain ⟨_, _, _, _, _, _, _, _, _, _, _, _, rfl, _⟩ := h; rfl) | (obtain ⟨_, _, _, _, _, _, _, _, _, _, _, _, _, rfl, _⟩ := h; rfl) | (obtain ⟨_, _, _, _, _, _, _, _, _, _, _, _, _, _, rfl, _⟩ := h; rfl) | (obtain ⟨_, _, _, _, _, _, _, _, _, _, _, _, _, _, _, rfl, _⟩ := h; rfl)) (fun a c d vs H Q E h => let ⟨D, _, _, _, _, _, _, _, h1, h2, h3, _⟩ := h; ⟨D, h1, h2, h3⟩) (fun ax D vs H Q E h => r_law_word h)
  have law_expressionZ0 : FnOk P w K mg base CX0 1 T.law_expression.a T.law_expression.fd ["draws", "names", "deep"] (fun _ _ _ _ => False) := ⟨fun _ _ _ _ h => h.elim, fun _ _ _ _ _ _ _ _ _ _ _ _ _ h => h.elim⟩
  have law_expressionZ1 := ok_law_expression (P := P) (w := w) (base := base) T (fun _ _ _ _ => False) (sp_law_expression 0) 0 law_expressionZ0 G_law_take (by intro vs H Q E h; first | (obtain ⟨_, rfl, _⟩ := h; rfl) | (obtain ⟨_, _, rfl, _⟩ := h; rfl) | (obtain ⟨_, _, _, rfl, _⟩ := h; rfl) | (obtain ⟨_, _, _, _, rfl, _⟩ := h; rfl) | (obtain ⟨_, _, _, _, _, rfl, _⟩ := h; rfl) | (obtain ⟨_, _, _, _, _, _, rfl, _⟩ := h; rfl) | (obtain ⟨_, _, _, _, _, _, _, rfl, _⟩ := h; rfl) | (obtain ⟨_, _, _, _, _, _, _, _, rfl, _⟩ := h; rfl) | (obtain ⟨_, _, _, _, _, _, _, _, _, rfl, _⟩ := h; rfl) | (obtain ⟨_, _, _, _, _, _, _, _, _, _, rfl, _⟩ := h; rfl) | (obtain ⟨_, _, _, _, _, _, _, _, _, _, _, rfl, _⟩ := h; rfl) | (obtain ⟨_, _, _, _, _, _, _, _, _, _, _, _, rfl, _⟩ := h; rfl) | (obtain ⟨_, _, _, _, _, _, _, _, _, _, _, _, _, rfl, _⟩ := h; rfl) | (obtain ⟨_, _, _, _, _, _, _, _, _, _, _, _, _, _, rfl, _⟩ := h; rfl) | (obtain ⟨_, _, _, _, _, _, _, _, _, _, _, _, _, _, _, rfl, _⟩ := h; rfl)) (fun vs H Q E h => r_law_expression0 h)
  have law_expressionZ2 := ok_law_expression (P := P) (w := w) (base := base) T (sp_law_expression 0) (sp_law_expression 1) 1 law_expressionZ1 G_law_take (by intro vs H Q E h; first | (obtain ⟨_, rfl, _⟩ := h; rfl) | (obtain ⟨_, _, rfl, _⟩ := h; rfl) | (obtain ⟨_, _, _, rfl, _⟩ := h; rfl) | (obtain ⟨_, _, _, _, rfl, _⟩ := h; rfl) | (obtain ⟨_, _, _, _, _, rfl, _⟩ := h; rfl) | (obtain ⟨_, _, _, _, _, _, rfl, _⟩ := h; rfl) | (obtain ⟨_, _, _, _, _, _, _, rfl, _⟩ := h; rfl) | (obtain ⟨_, _, _, _, _, _, _, _, rfl, _⟩ := h; rfl) | (obtain ⟨_, _, _, _, _, _, _, _, _, rfl, _⟩ := h; rfl) | (obtain ⟨_, _, _, _, _, _, _, _, _, _, rfl, _⟩ := h; rfl) | (obtain ⟨_, _, _, _, _, _, _, _, _, _, _, rfl, _⟩ := h; rfl) | (obtain ⟨_, _, _, _, _, _, _, _, _, _, _, _, rfl, _⟩ := h; rfl) | (obtain ⟨_, _, _, _, _, _, _, _, _, _, _, _, _, rfl, _⟩ := h; rfl) | (obtain ⟨_, _, _, _, _, _, _, _, _, _, _, _, _, _, rfl, _⟩ := h; rfl) | (obtain ⟨_, _, _, _, _, _, _, _, _, _, _, _, _, _, _, rfl, _⟩ := h; rfl)) (fun vs H Q E h => r_law_expression h)
  have law_expressionZ3 := ok_law_expression (P := P) (w := w) (base := base) T (sp_law_expression 1) (sp_law_expression 2) 2 law_expressionZ2 G_law_take (by intro vs H Q E h; first | (obtain ⟨_, rfl, _⟩ := h; rfl) | (obtain ⟨_, _, rfl, _⟩ := h; rfl) | (obtain ⟨_, _, _, rfl, _⟩ := h; rfl) | (obtain ⟨_, _, _, _, rfl, _⟩ := h; rfl) | (obtain ⟨_, _, _, _, _, rfl, _⟩ := h; rfl) | (obtain ⟨_, _, _, _, _, _, rfl, _⟩ := h; rfl) | (obtain ⟨_, _, _, _, _, _, _, rfl, _⟩ := h; rfl) | (obtain ⟨_, _, _, _, _, _, _, _, rfl, _⟩ := h; rfl) | (obtain ⟨_, _, _, _, _, _, _, _, _, rfl, _⟩ := h; rfl) | (obtain ⟨_, _, _, _, _, _, _, _, _, _, rfl, _⟩ := h; rfl) | (obtain ⟨_, _, _, _, _, _, _, _, _, _, _, rfl, _⟩ := h; rfl) | (obtain ⟨_, _, _, _, _, _, _, _, _, _, _, _, rfl, _⟩ := h; rfl) | (obtain ⟨_, _, _, _, _, _, _, _, _, _, _, _, _, rfl, _⟩ := h; rfl) | (obtain ⟨_, _, _, _, _, _, _, _, _, _, _, _, _, _, rfl, _⟩ := h; rfl) | (obtain ⟨_, _, _, _, _, _, _, _, _, _, _, _, _, _, _, rfl, _⟩ := h; rfl)) (fun vs H Q E h => r_law_expression h)
  have G_law_expression := law_expressionZ3
  have law_bodyZ0 : FnOk P w K mg base CX0 4 T.law_body.a T.law_body.fd ["draws", "names", "kinds", "deep"] (fun _ _ _ _ => False) := ⟨fun _ _ _ _ h => h.elim, fun _ _ _ _ _ _ _ _ _ _ _ _ _ h => h.elim⟩
  have law_bodyZ1 := ok_law_body (P := P) (w := w) (base := base) T (fun _ _ _ _ => False) (sp_law_body 0) 0 G_law_take G_law_expression law_bodyZ0 (by intro vs H Q E h; first | (obtain ⟨_, rfl, _⟩ := h; rfl) | (obtain ⟨_, _, rfl, _⟩ := h; rfl) | (obtain ⟨_, _, _, rfl, _⟩ := h; rfl) | (obtain ⟨_, _, _, _, rfl, _⟩ := h; rfl) | (obtain ⟨_, _, _, _, _, rfl, _⟩ := h; rfl) | (obtain ⟨_, _, _, _, _, _, rfl, _⟩ := h; rfl) | (obtain ⟨_, _, _, _, _, _, _, rfl, _⟩ := h; rfl) | (obtain ⟨_, _, _, _, _, _, _, _, rfl, _⟩ := h; rfl) | (obtain ⟨_, _, _, _, _, _, _, _, _, rfl, _⟩ := h; rfl) | (obtain ⟨_, _, _, _, _, _, _, _, _, _, rfl, _⟩ := h; rfl) | (obtain ⟨_, _, _, _, _, _, _, _, _, _, _, rfl, _⟩ := h; rfl) | (obtain ⟨_, _, _, _, _, _, _, _, _, _, _, _, rfl, _⟩ := h; rfl) | (obtain ⟨_, _, _, _, _, _, _, _, _, _, _, _, _, rfl, _⟩ := h; rfl) | (obtain ⟨_, _, _, _, _, _, _, _, _, _, _, _, _, _, rfl, _⟩ := h; rfl) | (obtain ⟨_, _, _, _, _, _, _, _, _, _, _, _, _, _, _, rfl, _⟩ := h; rfl)) (fun vs H Q E h => r_law_body0 h)
  have law_bodyZ2 := ok_law_body (P := P) (w := w) (base := base) T (sp_law_body 0) (sp_law_body 1) 1 G_law_take G_law_expression law_bodyZ1 (by intro vs H Q E h; first | (obtain ⟨_, rfl, _⟩ := h; rfl) | (obtain ⟨_, _, rfl, _⟩ := h; rfl) | (obtain ⟨_, _, _, rfl, _⟩ := h; rfl) | (obtain ⟨_, _, _, _, rfl, _⟩ := h; rfl) | (obtain ⟨_, _, _, _, _, rfl, _⟩ := h; rfl) | (obtain ⟨_, _, _, _, _, _, rfl, _⟩ := h; rfl) | (obtain ⟨_, _, _, _, _, _, _, rfl, _⟩ := h; rfl) | (obtain ⟨_, _, _, _, _, _, _, _, rfl, _⟩ := h; rfl) | (obtain ⟨_, _, _, _, _, _, _, _, _, rfl, _⟩ := h; rfl) | (obtain ⟨_, _, _, _, _, _, _, _, _, _, rfl, _⟩ := h; rfl) | (obtain ⟨_, _, _, _, _, _, _, _, _, _, _, rfl, _⟩ := h; rfl) | (obtain ⟨_, _, _, _, _, _, _, _, _, _, _, _, rfl, _⟩ := h; rfl) | (obtain ⟨_, _, _, _, _, _, _, _, _, _, _, _, _, rfl, _⟩ := h; rfl) | (obtain ⟨_, _, _, _, _, _, _, _, _, _, _, _, _, _, rfl, _⟩ := h; rfl) | (obtain ⟨_, _, _, _, _, _, _, _, _, _, _, _, _, _, _, rfl, _⟩ := h; rfl)) (fun vs H Q E h => r_law_body h)
  have law_bodyZ3 := ok_law_body (P := P) (w := w) (base := base) T (sp_law_body 1) (sp_law_body 2) 2 G_law_take G_law_expression law_bodyZ2 (by intro vs H Q E h; first | (obtain ⟨_, rfl, _⟩ := h; rfl) | (obtain ⟨_, _, rfl, _⟩ := h; rfl) | (obtain ⟨_, _, _, rfl, _⟩ := h; rfl) | (obtain ⟨_, _, _, _, rfl, _⟩ := h; rfl) | (obtain ⟨_, _, _, _, _, rfl, _⟩ := h; rfl) | (obtain ⟨_, _, _, _, _, _, rfl, _⟩ := h; rfl) | (obtain ⟨_, _, _, _, _, _, _, rfl, _⟩ := h; rfl) | (obtain ⟨_, _, _, _, _, _, _, _, rfl, _⟩ := h; rfl) | (obtain ⟨_, _, _, _, _, _, _, _, _, rfl, _⟩ := h; rfl) | (obtain ⟨_, _, _, _, _, _, _, _, _, _, rfl, _⟩ := h; rfl) | (obtain ⟨_, _, _, _, _, _, _, _, _, _, _, rfl, _⟩ := h; rfl) | (obtain ⟨_, _, _, _, _, _, _, _, _, _, _, _, rfl, _⟩ := h; rfl) | (obtain ⟨_, _, _, _, _, _, _, _, _, _, _, _, _, rfl, _⟩ := h; rfl) | (obtain ⟨_, _, _, _, _, _, _, _, _, _, _, _, _, _, rfl, _⟩ := h; rfl) | (obtain ⟨_, _, _, _, _, _, _, _, _, _, _, _, _, _, _, rfl, _⟩ := h; rfl)) (fun vs H Q E h => r_law_body h)
  have G_law_body := law_bodyZ3
  have G_law_send := ok_law_send (P := P) (w := w) (base := base) T G_law_expression G_law_take (by intro vs H Q E h; first | (obtain ⟨_, rfl, _⟩ := h; rfl) | (obtain ⟨_, _, rfl, _⟩ := h; rfl) | (obtain ⟨_, _, _, rfl, _⟩ := h; rfl) | (obtain ⟨_, _, _, _, rfl, _⟩ := h; rfl) | (obtain ⟨_, _, _, _, _, rfl, _⟩ := h; rfl) | (obtain ⟨_, _, _, _, _, _, rfl, _⟩ := h; rfl) | (obtain ⟨_, _, _, _, _, _, _, rfl, _⟩ := h; rfl) | (obtain ⟨_, _, _, _, _, _, _, _, rfl, _⟩ := h; rfl) | (obtain ⟨_, _, _, _, _, _, _, _, _, rfl, _⟩ := h; rfl) | (obtain ⟨_, _, _, _, _, _, _, _, _, _, rfl, _⟩ := h; rfl) | (obtain ⟨_, _, _, _, _, _, _, _, _, _, _, rfl, _⟩ := h; rfl) | (obtain ⟨_, _, _, _, _, _, _, _, _, _, _, _, rfl, _⟩ := h; rfl) | (obtain ⟨_, _, _, _, _, _, _, _, _, _, _, _, _, rfl, _⟩ := h; rfl) | (obtain ⟨_, _, _, _, _, _, _, _, _, _, _, _, _, _, rfl, _⟩ := h; rfl) | (obtain ⟨_, _, _, _, _, _, _, _, _, _, _, _, _, _, _, rfl, _⟩ := h; rfl)) (fun vs H Q E h => r_law_send h)
  have law_manyZ0 : FnOk P w K mg base CX0 1 T.law_many.a T.law_many.fd ["part"] (fun _ _ _ _ => False) := ⟨fun _ _ _ _ h => h.elim, fun _ _ _ _ _ _ _ _ _ _ _ _ _ h => h.elim⟩
  have law_manyZ1 := ok_law_many (P := P) (w := w) (base := base) T (fun _ _ _ _ => False) (sp_law_many 0) 0 law_manyZ0 (by intro vs H Q E h; first | (obtain ⟨_, rfl, _⟩ := h; rfl) | (obtain ⟨_, _, rfl, _⟩ := h; rfl) | (obtain ⟨_, _, _, rfl, _⟩ := h; rfl) | (obtain ⟨_, _, _, _, rfl, _⟩ := h; rfl) | (obtain ⟨_, _, _, _, _, rfl, _⟩ := h; rfl) | (obtain ⟨_, _, _, _, _, _, rfl, _⟩ := h; rfl) | (obtain ⟨_, _, _, _, _, _, _, rfl, _⟩ := h; rfl) | (obtain ⟨_, _, _, _, _, _, _, _, rfl, _⟩ := h; rfl) | (obtain ⟨_, _, _, _, _, _, _, _, _, rfl, _⟩ := h; rfl) | (obtain ⟨_, _, _, _, _, _, _, _, _, _, rfl, _⟩ := h; rfl) | (obtain ⟨_, _, _, _, _, _, _, _, _, _, _, rfl, _⟩ := h; rfl) | (obtain ⟨_, _, _, _, _, _, _, _, _, _, _, _, rfl, _⟩ := h; rfl) | (obtain ⟨_, _, _, _, _, _, _, _, _, _, _, _, _, rfl, _⟩ := h; rfl) | (obtain ⟨_, _, _, _, _, _, _, _, _, _, _, _, _, _, rfl, _⟩ := h; rfl) | (obtain ⟨_, _, _, _, _, _, _, _, _, _, _, _, _, _, _, rfl, _⟩ := h; rfl)) (fun vs H Q E h => r_law_many0 h)
  have law_manyZ2 := ok_law_many (P := P) (w := w) (base := base) T (sp_law_many 0) (sp_law_many 1) 1 law_manyZ1 (by intro vs H Q E h; first | (obtain ⟨_, rfl, _⟩ := h; rfl) | (obtain ⟨_, _, rfl, _⟩ := h; rfl) | (obtain ⟨_, _, _, rfl, _⟩ := h; rfl) | (obtain ⟨_, _, _, _, rfl, _⟩ := h; rfl) | (obtain ⟨_, _, _, _, _, rfl, _⟩ := h; rfl) | (obtain ⟨_, _, _, _, _, _, rfl, _⟩ := h; rfl) | (obtain ⟨_, _, _, _, _, _, _, rfl, _⟩ := h; rfl) | (obtain ⟨_, _, _, _, _, _, _, _, rfl, _⟩ := h; rfl) | (obtain ⟨_, _, _, _, _, _, _, _, _, rfl, _⟩ := h; rfl) | (obtain ⟨_, _, _, _, _, _, _, _, _, _, rfl, _⟩ := h; rfl) | (obtain ⟨_, _, _, _, _, _, _, _, _, _, _, rfl, _⟩ := h; rfl) | (obtain ⟨_, _, _, _, _, _, _, _, _, _, _, _, rfl, _⟩ := h; rfl) | (obtain ⟨_, _, _, _, _, _, _, _, _, _, _, _, _, rfl, _⟩ := h; rfl) | (obtain ⟨_, _, _, _, _, _, _, _, _, _, _, _, _, _, rfl, _⟩ := h; rfl) | (obtain ⟨_, _, _, _, _, _, _, _, _, _, _, _, _, _, _, rfl, _⟩ := h; rfl)) (fun vs H Q E h => r_law_many h)
  have law_manyZ3 := ok_law_many (P := P) (w := w) (base := base) T (sp_law_many 1) (sp_law_many 2) 2 law_manyZ2 (by intro vs H Q E h; first | (obtain ⟨_, rfl, _⟩ := h; rfl) | (obtain ⟨_, _, rfl, _⟩ := h; rfl) | (obtain ⟨_, _, _, rfl, _⟩ := h; rfl) | (obtain ⟨_, _, _, _, rfl, _⟩ := h; rfl) | (obtain ⟨_, _, _, _, _, rfl, _⟩ := h; rfl) | (obtain ⟨_, _, _, _, _, _, rfl, _⟩ := h; rfl) | (obtain ⟨_, _, _, _, _, _, _, rfl, _⟩ := h; rfl) | (obtain ⟨_, _, _, _, _, _, _, _, rfl, _⟩ := h; rfl) | (obtain ⟨_, _, _, _, _, _, _, _, _, rfl, _⟩ := h; rfl) | (obtain ⟨_, _, _, _, _, _, _, _, _, _, rfl, _⟩ := h; rfl) | (obtain ⟨_, _, _, _, _, _, _, _, _, _, _, rfl, _⟩ := h; rfl) | (obtain ⟨_, _, _, _, _, _, _, _, _, _, _, _, rfl, _⟩ := h; rfl) | (obtain ⟨_, _, _, _, _, _, _, _, _, _, _, _, _, rfl, _⟩ := h; rfl) | (obtain ⟨_, _, _, _, _, _, _, _, _, _, _, _, _, _, rfl, _⟩ := h; rfl) | (obtain ⟨_, _, _, _, _, _, _, _, _, _, _, _, _, _, _, rfl, _⟩ := h; rfl)) (fun vs H Q E h => r_law_many h)
  have law_manyZ4 := ok_law_many (P := P) (w := w) (base := base) T (sp_law_many 2) (sp_law_many 3) 3 law_manyZ3 (by intro vs H Q E h; first | (obtain ⟨_, rfl, _⟩ := h; rfl) | (obtain ⟨_, _, rfl, _⟩ := h; rfl) | (obtain ⟨_, _, _, rfl, _⟩ := h; rfl) | (obtain ⟨_, _, _, _, rfl, _⟩ := h; rfl) | (obtain ⟨_, _, _, _, _, rfl, _⟩ := h; rfl) | (obtain ⟨_, _, _, _, _, _, rfl, _⟩ := h; rfl) | (obtain ⟨_, _, _, _, _, _, _, rfl, _⟩ := h; rfl) | (obtain ⟨_, _, _, _, _, _, _, _, rfl, _⟩ := h; rfl) | (obtain ⟨_, _, _, _, _, _, _, _, _, rfl, _⟩ := h; rfl) | (obtain ⟨_, _, _, _, _, _, _, _, _, _, rfl, _⟩ := h; rfl) | (obtain ⟨_, _, _, _, _, _, _, _, _, _, _, rfl, _⟩ := h; rfl) | (obtain ⟨_, _, _, _, _, _, _, _, _, _, _, _, rfl, _⟩ := h; rfl) | (obtain ⟨_, _, _, _, _, _, _, _, _, _, _, _, _, rfl, _⟩ := h; rfl) | (obtain ⟨_, _, _, _, _, _, _, _, _, _, _, _, _, _, rfl, _⟩ := h; rfl) | (obtain ⟨_, _, _, _, _, _, _, _, _, _, _, _, _, _, _, rfl, _⟩ := h; rfl)) (fun vs H Q E h => r_law_many h)
  have law_manyZ5 := ok_law_many (P := P) (w := w) (base := base) T (sp_law_many 3) (sp_law_many 4) 4 law_manyZ4 (by intro vs H Q E h; first | (obtain ⟨_, rfl, _⟩ := h; rfl) | (obtain ⟨_, _, rfl, _⟩ := h; rfl) | (obtain ⟨_, _, _, rfl, _⟩ := h; rfl) | (obtain ⟨_, _, _, _, rfl, _⟩ := h; rfl) | (obtain ⟨_, _, _, _, _, rfl, _⟩ := h; rfl) | (obtain ⟨_, _, _, _, _, _, rfl, _⟩ := h; rfl) | (obtain ⟨_, _, _, _, _, _, _, rfl, _⟩ := h; rfl) | (obtain ⟨_, _, _, _, _, _, _, _, rfl, _⟩ := h; rfl) | (obtain ⟨_, _, _, _, _, _, _, _, _, rfl, _⟩ := h; rfl) | (obtain ⟨_, _, _, _, _, _, _, _, _, _, rfl, _⟩ := h; rfl) | (obtain ⟨_, _, _, _, _, _, _, _, _, _, _, rfl, _⟩ := h; rfl) | (obtain ⟨_, _, _, _, _, _, _, _, _, _, _, _, rfl, _⟩ := h; rfl) | (obtain ⟨_, _, _, _, _, _, _, _, _, _, _, _, _, rfl, _⟩ := h; rfl) | (obtain ⟨_, _, _, _, _, _, _, _, _, _, _, _, _, _, rfl, _⟩ := h; rfl) | (obtain ⟨_, _, _, _, _, _, _, _, _, _, _, _, _, _, _, rfl, _⟩ := h; rfl)) (fun vs H Q E h => r_law_many h)
  have law_manyZ6 := ok_law_many (P := P) (w := w) (base := base) T (sp_law_many 4) (sp_law_many 5) 5 law_manyZ5 (by intro vs H Q E h; first | (obtain ⟨_, rfl, _⟩ := h; rfl) | (obtain ⟨_, _, rfl, _⟩ := h; rfl) | (obtain ⟨_, _, _, rfl, _⟩ := h; rfl) | (obtain ⟨_, _, _, _, rfl, _⟩ := h; rfl) | (obtain ⟨_, _, _, _, _, rfl, _⟩ := h; rfl) | (obtain ⟨_, _, _, _, _, _, rfl, _⟩ := h; rfl) | (obtain ⟨_, _, _, _, _, _, _, rfl, _⟩ := h; rfl) | (obtain ⟨_, _, _, _, _, _, _, _, rfl, _⟩ := h; rfl) | (obtain ⟨_, _, _, _, _, _, _, _, _, rfl, _⟩ := h; rfl) | (obtain ⟨_, _, _, _, _, _, _, _, _, _, rfl, _⟩ := h; rfl) | (obtain ⟨_, _, _, _, _, _, _, _, _, _, _, rfl, _⟩ := h; rfl) | (obtain ⟨_, _, _, _, _, _, _, _, _, _, _, _, rfl, _⟩ := h; rfl) | (obtain ⟨_, _, _, _, _, _, _, _, _, _, _, _, _, rfl, _⟩ := h; rfl) | (obtain ⟨_, _, _, _, _, _, _, _, _, _, _, _, _, _, rfl, _⟩ := h; rfl) | (obtain ⟨_, _, _, _, _, _, _, _, _, _, _, _, _, _, _, rfl, _⟩ := h; rfl)) (fun vs H Q E h => r_law_many h)
  have law_manyZ7 := ok_law_many (P := P) (w := w) (base := base) T (sp_law_many 5) (sp_law_many 6) 6 law_manyZ6 (by intro vs H Q E h; first | (obtain ⟨_, rfl, _⟩ := h; rfl) | (obtain ⟨_, _, rfl, _⟩ := h; rfl) | (obtain ⟨_, _, _, rfl, _⟩ := h; rfl) | (obtain ⟨_, _, _, _, rfl, _⟩ := h; rfl) | (obtain ⟨_, _, _, _, _, rfl, _⟩ := h; rfl) | (obtain ⟨_, _, _, _, _, _, rfl, _⟩ := h; rfl) | (obtain ⟨_, _, _, _, _, _, _, rfl, _⟩ := h; rfl) | (obtain ⟨_, _, _, _, _, _, _, _, rfl, _⟩ := h; rfl) | (obtain ⟨_, _, _, _, _, _, _, _, _, rfl, _⟩ := h; rfl) | (obtain ⟨_, _, _, _, _, _, _, _, _, _, rfl, _⟩ := h; rfl) | (obtain ⟨_, _, _, _, _, _, _, _, _, _, _, rfl, _⟩ := h; rfl) | (obtain ⟨_, _, _, _, _, _, _, _, _, _, _, _, rfl, _⟩ := h; rfl) | (obtain ⟨_, _, _, _, _, _, _, _, _, _, _, _, _, rfl, _⟩ := h; rfl) | (obtain ⟨_, _, _, _, _, _, _, _, _, _, _, _, _, _, rfl, _⟩ := h; rfl) | (obtain ⟨_, _, _, _, _, _, _, _, _, _, _, _, _, _, _, rfl, _⟩ := h; rfl)) (fun vs H Q E h => r_law_many h)
  have law_manyZ8 := ok_law_many (P := P) (w := w) (base := base) T (sp_law_many 6) (sp_law_many 7) 7 law_manyZ7 (by intro vs H Q E h; first | (obtain ⟨_, rfl, _⟩ := h; rfl) | (obtain ⟨_, _, rfl, _⟩ := h; rfl) | (obtain ⟨_, _, _, rfl, _⟩ := h; rfl) | (obtain ⟨_, _, _, _, rfl, _⟩ := h; rfl) | (obtain ⟨_, _, _, _, _, rfl, _⟩ := h; rfl) | (obtain ⟨_, _, _, _, _, _, rfl, _⟩ := h; rfl) | (obtain ⟨_, _, _, _, _, _, _, rfl, _⟩ := h; rfl) | (obtain ⟨_, _, _, _, _, _, _, _, rfl, _⟩ := h; rfl) | (obtain ⟨_, _, _, _, _, _, _, _, _, rfl, _⟩ := h; rfl) | (obtain ⟨_, _, _, _, _, _, _, _, _, _, rfl, _⟩ := h; rfl) | (obtain ⟨_, _, _, _, _, _, _, _, _, _, _, rfl, _⟩ := h; rfl) | (obtain ⟨_, _, _, _, _, _, _, _, _, _, _, _, rfl, _⟩ := h; rfl) | (obtain ⟨_, _, _, _, _, _, _, _, _, _, _, _, _, rfl, _⟩ := h; rfl) | (obtain ⟨_, _, _, _, _, _, _, _, _, _, _, _, _, _, rfl, _⟩ := h; rfl) | (obtain ⟨_, _, _, _, _, _, _, _, _, _, _, _, _, _, _, rfl, _⟩ := h; rfl)) (fun vs H Q E h => r_law_many h)
  have law_manyZ9 := ok_law_many (P := P) (w := w) (base := base) T (sp_law_many 7) (sp_law_many 8) 8 law_manyZ8 (by intro vs H Q E h; first | (obtain ⟨_, rfl, _⟩ := h; rfl) | (obtain ⟨_, _, rfl, _⟩ := h; rfl) | (obtain ⟨_, _, _, rfl, _⟩ := h; rfl) | (obtain ⟨_, _, _, _, rfl, _⟩ := h; rfl) | (obtain ⟨_, _, _, _, _, rfl, _⟩ := h; rfl) | (obtain ⟨_, _, _, _, _, _, rfl, _⟩ := h; rfl) | (obtain ⟨_, _, _, _, _, _, _, rfl, _⟩ := h; rfl) | (obtain ⟨_, _, _, _, _, _, _, _, rfl, _⟩ := h; rfl) | (obtain ⟨_, _, _, _, _, _, _, _, _, rfl, _⟩ := h; rfl) | (obtain ⟨_, _, _, _, _, _, _, _, _, _, rfl, _⟩ := h; rfl) | (obtain ⟨_, _, _, _, _, _, _, _, _, _, _, rfl, _⟩ := h; rfl) | (obtain ⟨_, _, _, _, _, _, _, _, _, _, _, _, rfl, _⟩ := h; rfl) | (obtain ⟨_, _, _, _, _, _, _, _, _, _, _, _, _, rfl, _⟩ := h; rfl) | (obtain ⟨_, _, _, _, _, _, _, _, _, _, _, _, _, _, rfl, _⟩ := h; rfl) | (obtain ⟨_, _, _, _, _, _, _, _, _, _, _, _, _, _, _, rfl, _⟩ := h; rfl)) (fun vs H Q E h => r_law_many h)
  have law_manyZ10 := ok_law_many (P := P) (w := w) (base := base) T (sp_law_many 8) (sp_law_many 9) 9 law_manyZ9 (by intro vs H Q E h; first | (obtain ⟨_, rfl, _⟩ := h; rfl) | (obtain ⟨_, _, rfl, _⟩ := h; rfl) | (obtain ⟨_, _, _, rfl, _⟩ := h; rfl) | (obtain ⟨_, _, _, _, rfl, _⟩ := h; rfl) | (obtain ⟨_, _, _, _, _, rfl, _⟩ := h; rfl) | (obtain ⟨_, _, _, _, _, _, rfl, _⟩ := h; rfl) | (obtain ⟨_, _, _, _, _, _, _, rfl, _⟩ := h; rfl) | (obtain ⟨_, _, _, _, _, _, _, _, rfl, _⟩ := h; rfl) | (obtain ⟨_, _, _, _, _, _, _, _, _, rfl, _⟩ := h; rfl) | (obtain ⟨_, _, _, _, _, _, _, _, _, _, rfl, _⟩ := h; rfl) | (obtain ⟨_, _, _, _, _, _, _, _, _, _, _, rfl, _⟩ := h; rfl) | (obtain ⟨_, _, _, _, _, _, _, _, _, _, _, _, rfl, _⟩ := h; rfl) | (obtain ⟨_, _, _, _, _, _, _, _, _, _, _, _, _, rfl, _⟩ := h; rfl) | (obtain ⟨_, _, _, _, _, _, _, _, _, _, _, _, _, _, rfl, _⟩ := h; rfl) | (obtain ⟨_, _, _, _, _, _, _, _, _, _, _, _, _, _, _, rfl, _⟩ := h; rfl)) (fun vs H Q E h => r_law_many h)
  have law_manyZ11 := ok_law_many (P := P) (w := w) (base := base) T (sp_law_many 9) (sp_law_many 10) 10 law_manyZ10 (by intro vs H Q E h; first | (obtain ⟨_, rfl, _⟩ := h; rfl) | (obtain ⟨_, _, rfl, _⟩ := h; rfl) | (obtain ⟨_, _, _, rfl, _⟩ := h; rfl) | (obtain ⟨_, _, _, _, rfl, _⟩ := h; rfl) | (obtain ⟨_, _, _, _, _, rfl, _⟩ := h; rfl) | (obtain ⟨_, _, _, _, _, _, rfl, _⟩ := h; rfl) | (obtain ⟨_, _, _, _, _, _, _, rfl, _⟩ := h; rfl) | (obtain ⟨_, _, _, _, _, _, _, _, rfl, _⟩ := h; rfl) | (obtain ⟨_, _, _, _, _, _, _, _, _, rfl, _⟩ := h; rfl) | (obtain ⟨_, _, _, _, _, _, _, _, _, _, rfl, _⟩ := h; rfl) | (obtain ⟨_, _, _, _, _, _, _, _, _, _, _, rfl, _⟩ := h; rfl) | (obtain ⟨_, _, _, _, _, _, _, _, _, _, _, _, rfl, _⟩ := h; rfl) | (obtain ⟨_, _, _, _, _, _, _, _, _, _, _, _, _, rfl, _⟩ := h; rfl) | (obtain ⟨_, _, _, _, _, _, _, _, _, _, _, _, _, _, rfl, _⟩ := h; rfl) | (obtain ⟨_, _, _, _, _, _, _, _, _, _, _, _, _, _, _, rfl, _⟩ := h; rfl)) (fun vs H Q E h => r_law_many h)
  have law_manyZ12 := ok_law_many (P := P) (w := w) (base := base) T (sp_law_many 10) (sp_law_many 11) 11 law_manyZ11 (by intro vs H Q E h; first | (obtain ⟨_, rfl, _⟩ := h; rfl) | (obtain ⟨_, _, rfl, _⟩ := h; rfl) | (obtain ⟨_, _, _, rfl, _⟩ := h; rfl) | (obtain ⟨_, _, _, _, rfl, _⟩ := h; rfl) | (obtain ⟨_, _, _, _, _, rfl, _⟩ := h; rfl) | (obtain ⟨_, _, _, _, _, _, rfl, _⟩ := h; rfl) | (obtain ⟨_, _, _, _, _, _, _, rfl, _⟩ := h; rfl) | (obtain ⟨_, _, _, _, _, _, _, _, rfl, _⟩ := h; rfl) | (obtain ⟨_, _, _, _, _, _, _, _, _, rfl, _⟩ := h; rfl) | (obtain ⟨_, _, _, _, _, _, _, _, _, _, rfl, _⟩ := h; rfl) | (obtain ⟨_, _, _, _, _, _, _, _, _, _, _, rfl, _⟩ := h; rfl) | (obtain ⟨_, _, _, _, _, _, _, _, _, _, _, _, rfl, _⟩ := h; rfl) | (obtain ⟨_, _, _, _, _, _, _, _, _, _, _, _, _, rfl, _⟩ := h; rfl) | (obtain ⟨_, _, _, _, _, _, _, _, _, _, _, _, _, _, rfl, _⟩ := h; rfl) | (obtain ⟨_, _, _, _, _, _, _, _, _, _, _, _, _, _, _, rfl, _⟩ := h; rfl)) (fun vs H Q E h => r_law_many h)
  have G_law_many := law_manyZ12
  have G_law_model := ok_law_model (P := P) (w := w) (base := base) T G_law_take G_law_many G_law_send G_law_body (by intro vs H Q E h; first | (obtain ⟨_, rfl, _⟩ := h; rfl) | (obtain ⟨_, _, rfl, _⟩ := h; rfl) | (obtain ⟨_, _, _, rfl, _⟩ := h; rfl) | (obtain ⟨_, _, _, _, rfl, _⟩ := h; rfl) | (obtain ⟨_, _, _, _, _, rfl, _⟩ := h; rfl) | (obtain ⟨_, _, _, _, _, _, rfl, _⟩ := h; rfl) | (obtain ⟨_, _, _, _, _, _, _, rfl, _⟩ := h; rfl) | (obtain ⟨_, _, _, _, _, _, _, _, rfl, _⟩ := h; rfl) | (obtain ⟨_, _, _, _, _, _, _, _, _, rfl, _⟩ := h; rfl) | (obtain ⟨_, _, _, _, _, _, _, _, _, _, rfl, _⟩ := h; rfl) | (obtain ⟨_, _, _, _, _, _, _, _, _, _, _, rfl, _⟩ := h; rfl) | (obtain ⟨_, _, _, _, _, _, _, _, _, _, _, _, rfl, _⟩ := h; rfl) | (obtain ⟨_, _, _, _, _, _, _, _, _, _, _, _, _, rfl, _⟩ := h; rfl) | (obtain ⟨_, _, _, _, _, _, _, _, _, _, _, _, _, _, rfl, _⟩ := h; rfl) | (obtain ⟨_, _, _, _, _, _, _, _, _, _, _, _, _, _, _, rfl, _⟩ := h; rfl)) (fun vs H Q E h => r_law_model h)
  have G_law_starts := ok_law_starts (P := P) (w := w) (base := base) T G_law_take (by intro vs H Q E h; first | (obtain ⟨_, rfl, _⟩ := h; rfl) | (obtain ⟨_, _, rfl, _⟩ := h; rfl) | (obtain ⟨_, _, _, rfl, _⟩ := h; rfl) | (obtain ⟨_, _, _, _, rfl, _⟩ := h; rfl) | (obtain ⟨_, _, _, _, _, rfl, _⟩ := h; rfl) | (obtain ⟨_, _, _, _, _, _, rfl, _⟩ := h; rfl) | (obtain ⟨_, _, _, _, _, _, _, rfl, _⟩ := h; rfl) | (obtain ⟨_, _, _, _, _, _, _, _, rfl, _⟩ := h; rfl) | (obtain ⟨_, _, _, _, _, _, _, _, _, rfl, _⟩ := h; rfl) | (obtain ⟨_, _, _, _, _, _, _, _, _, _, rfl, _⟩ := h; rfl) | (obtain ⟨_, _, _, _, _, _, _, _, _, _, _, rfl, _⟩ := h; rfl) | (obtain ⟨_, _, _, _, _, _, _, _, _, _, _, _, rfl, _⟩ := h; rfl) | (obtain ⟨_, _, _, _, _, _, _, _, _, _, _, _, _, rfl, _⟩ := h; rfl) | (obtain ⟨_, _, _, _, _, _, _, _, _, _, _, _, _, _, rfl, _⟩ := h; rfl) | (obtain ⟨_, _, _, _, _, _, _, _, _, _, _, _, _, _, _, rfl, _⟩ := h; rfl)) (fun vs H Q E h => r_law_starts h)
  have law_numberZ0 : FnOk P w K mg base CX0 1 T.law_number.a T.law_number.fd ["known", "event", "e"] (fun _ _ _ _ => False) := ⟨fun _ _ _ _ h => h.elim, fun _ _ _ _ _ _ _ _ _ _ _ _ _ h => h.elim⟩
  have law_numberZ1 := ok_law_number (P := P) (w := w) (base := base) T (fun _ _ _ _ => False) (sp_law_number 0) 0 law_numberZ0 (by intro vs H Q E h; first | (obtain ⟨_, rfl, _⟩ := h; rfl) | (obtain ⟨_, _, rfl, _⟩ := h; rfl) | (obtain ⟨_, _, _, rfl, _⟩ := h; rfl) | (obtain ⟨_, _, _, _, rfl, _⟩ := h; rfl) | (obtain ⟨_, _, _, _, _, rfl, _⟩ := h; rfl) | (obtain ⟨_, _, _, _, _, _, rfl, _⟩ := h; rfl) | (obtain ⟨_, _, _, _, _, _, _, rfl, _⟩ := h; rfl) | (obtain ⟨_, _, _, _, _, _, _, _, rfl, _⟩ := h; rfl) | (obtain ⟨_, _, _, _, _, _, _, _, _, rfl, _⟩ := h; rfl) | (obtain ⟨_, _, _, _, _, _, _, _, _, _, rfl, _⟩ := h; rfl) | (obtain ⟨_, _, _, _, _, _, _, _, _, _, _, rfl, _⟩ := h; rfl) | (obtain ⟨_, _, _, _, _, _, _, _, _, _, _, _, rfl, _⟩ := h; rfl) | (obtain ⟨_, _, _, _, _, _, _, _, _, _, _, _, _, rfl, _⟩ := h; rfl) | (obtain ⟨_, _, _, _, _, _, _, _, _, _, _, _, _, _, rfl, _⟩ := h; rfl) | (obtain ⟨_, _, _, _, _, _, _, _, _, _, _, _, _, _, _, rfl, _⟩ := h; rfl)) (fun vs H Q E h => r_law_number0 h)
  have law_numberZ2 := ok_law_number (P := P) (w := w) (base := base) T (sp_law_number 0) (sp_law_number 1) 1 law_numberZ1 (by intro vs H Q E h; first | (obtain ⟨_, rfl, _⟩ := h; rfl) | (obtain ⟨_, _, rfl, _⟩ := h; rfl) | (obtain ⟨_, _, _, rfl, _⟩ := h; rfl) | (obtain ⟨_, _, _, _, rfl, _⟩ := h; rfl) | (obtain ⟨_, _, _, _, _, rfl, _⟩ := h; rfl) | (obtain ⟨_, _, _, _, _, _, rfl, _⟩ := h; rfl) | (obtain ⟨_, _, _, _, _, _, _, rfl, _⟩ := h; rfl) | (obtain ⟨_, _, _, _, _, _, _, _, rfl, _⟩ := h; rfl) | (obtain ⟨_, _, _, _, _, _, _, _, _, rfl, _⟩ := h; rfl) | (obtain ⟨_, _, _, _, _, _, _, _, _, _, rfl, _⟩ := h; rfl) | (obtain ⟨_, _, _, _, _, _, _, _, _, _, _, rfl, _⟩ := h; rfl) | (obtain ⟨_, _, _, _, _, _, _, _, _, _, _, _, rfl, _⟩ := h; rfl) | (obtain ⟨_, _, _, _, _, _, _, _, _, _, _, _, _, rfl, _⟩ := h; rfl) | (obtain ⟨_, _, _, _, _, _, _, _, _, _, _, _, _, _, rfl, _⟩ := h; rfl) | (obtain ⟨_, _, _, _, _, _, _, _, _, _, _, _, _, _, _, rfl, _⟩ := h; rfl)) (fun vs H Q E h => r_law_number h)
  have law_numberZ3 := ok_law_number (P := P) (w := w) (base := base) T (sp_law_number 1) (sp_law_number 2) 2 law_numberZ2 (by intro vs H Q E h; first | (obtain ⟨_, rfl, _⟩ := h; rfl) | (obtain ⟨_, _, rfl, _⟩ := h; rfl) | (obtain ⟨_, _, _, rfl, _⟩ := h; rfl) | (obtain ⟨_, _, _, _, rfl, _⟩ := h; rfl) | (obtain ⟨_, _, _, _, _, rfl, _⟩ := h; rfl) | (obtain ⟨_, _, _, _, _, _, rfl, _⟩ := h; rfl) | (obtain ⟨_, _, _, _, _, _, _, rfl, _⟩ := h; rfl) | (obtain ⟨_, _, _, _, _, _, _, _, rfl, _⟩ := h; rfl) | (obtain ⟨_, _, _, _, _, _, _, _, _, rfl, _⟩ := h; rfl) | (obtain ⟨_, _, _, _, _, _, _, _, _, _, rfl, _⟩ := h; rfl) | (obtain ⟨_, _, _, _, _, _, _, _, _, _, _, rfl, _⟩ := h; rfl) | (obtain ⟨_, _, _, _, _, _, _, _, _, _, _, _, rfl, _⟩ := h; rfl) | (obtain ⟨_, _, _, _, _, _, _, _, _, _, _, _, _, rfl, _⟩ := h; rfl) | (obtain ⟨_, _, _, _, _, _, _, _, _, _, _, _, _, _, rfl, _⟩ := h; rfl) | (obtain ⟨_, _, _, _, _, _, _, _, _, _, _, _, _, _, _, rfl, _⟩ := h; rfl)) (fun vs H Q E h => r_law_number h)
  have law_numberZ4 := ok_law_number (P := P) (w := w) (base := base) T (sp_law_number 2) (sp_law_number 3) 3 law_numberZ3 (by intro vs H Q E h; first | (obtain ⟨_, rfl, _⟩ := h; rfl) | (obtain ⟨_, _, rfl, _⟩ := h; rfl) | (obtain ⟨_, _, _, rfl, _⟩ := h; rfl) | (obtain ⟨_, _, _, _, rfl, _⟩ := h; rfl) | (obtain ⟨_, _, _, _, _, rfl, _⟩ := h; rfl) | (obtain ⟨_, _, _, _, _, _, rfl, _⟩ := h; rfl) | (obtain ⟨_, _, _, _, _, _, _, rfl, _⟩ := h; rfl) | (obtain ⟨_, _, _, _, _, _, _, _, rfl, _⟩ := h; rfl) | (obtain ⟨_, _, _, _, _, _, _, _, _, rfl, _⟩ := h; rfl) | (obtain ⟨_, _, _, _, _, _, _, _, _, _, rfl, _⟩ := h; rfl) | (obtain ⟨_, _, _, _, _, _, _, _, _, _, _, rfl, _⟩ := h; rfl) | (obtain ⟨_, _, _, _, _, _, _, _, _, _, _, _, rfl, _⟩ := h; rfl) | (obtain ⟨_, _, _, _, _, _, _, _, _, _, _, _, _, rfl, _⟩ := h; rfl) | (obtain ⟨_, _, _, _, _, _, _, _, _, _, _, _, _, _, rfl, _⟩ := h; rfl) | (obtain ⟨_, _, _, _, _, _, _, _, _, _, _, _, _, _, _, rfl, _⟩ := h; rfl)) (fun vs H Q E h => r_law_number h)
  have G_law_number := law_numberZ4
  have law_doZ0 : FnOk P w K mg base CX0 5 T.law_do.a T.law_do.fd ["model", "known", "event", "body"] (fun _ _ _ _ => False) := ⟨fun _ _ _ _ h => h.elim, fun _ _ _ _ _ _ _ _ _ _ _ _ _ h => h.elim⟩
  have law_doZ1 := ok_law_do (P := P) (w := w) (base := base) T (fun _ _ _ _ => False) (sp_law_do 0) 0 G_law_number law_doZ0 (by intro vs H Q E h; first | (obtain ⟨_, rfl, _⟩ := h; rfl) | (obtain ⟨_, _, rfl, _⟩ := h; rfl) | (obtain ⟨_, _, _, rfl, _⟩ := h; rfl) | (obtain ⟨_, _, _, _, rfl, _⟩ := h; rfl) | (obtain ⟨_, _, _, _, _, rfl, _⟩ := h; rfl) | (obtain ⟨_, _, _, _, _, _, rfl, _⟩ := h; rfl) | (obtain ⟨_, _, _, _, _, _, _, rfl, _⟩ := h; rfl) | (obtain ⟨_, _, _, _, _, _, _, _, rfl, _⟩ := h; rfl) | (obtain ⟨_, _, _, _, _, _, _, _, _, rfl, _⟩ := h; rfl) | (obtain ⟨_, _, _, _, _, _, _, _, _, _, rfl, _⟩ := h; rfl) | (obtain ⟨_, _, _, _, _, _, _, _, _, _, _, rfl, _⟩ := h; rfl) | (obtain ⟨_, _, _, _, _, _, _, _, _, _, _, _, rfl, _⟩ := h; rfl) | (obtain ⟨_, _, _, _, _, _, _, _, _, _, _, _, _, rfl, _⟩ := h; rfl) | (obtain ⟨_, _, _, _, _, _, _, _, _, _, _, _, _, _, rfl, _⟩ := h; rfl) | (obtain ⟨_, _, _, _, _, _, _, _, _, _, _, _, _, _, _, rfl, _⟩ := h; rfl)) (fun vs H Q E h => r_law_do0 h)
  have law_doZ2 := ok_law_do (P := P) (w := w) (base := base) T (sp_law_do 0) (sp_law_do 1) 1 G_law_number law_doZ1 (by intro vs H Q E h; first | (obtain ⟨_, rfl, _⟩ := h; rfl) | (obtain ⟨_, _, rfl, _⟩ := h; rfl) | (obtain ⟨_, _, _, rfl, _⟩ := h; rfl) | (obtain ⟨_, _, _, _, rfl, _⟩ := h; rfl) | (obtain ⟨_, _, _, _, _, rfl, _⟩ := h; rfl) | (obtain ⟨_, _, _, _, _, _, rfl, _⟩ := h; rfl) | (obtain ⟨_, _, _, _, _, _, _, rfl, _⟩ := h; rfl) | (obtain ⟨_, _, _, _, _, _, _, _, rfl, _⟩ := h; rfl) | (obtain ⟨_, _, _, _, _, _, _, _, _, rfl, _⟩ := h; rfl) | (obtain ⟨_, _, _, _, _, _, _, _, _, _, rfl, _⟩ := h; rfl) | (obtain ⟨_, _, _, _, _, _, _, _, _, _, _, rfl, _⟩ := h; rfl) | (obtain ⟨_, _, _, _, _, _, _, _, _, _, _, _, rfl, _⟩ := h; rfl) | (obtain ⟨_, _, _, _, _, _, _, _, _, _, _, _, _, rfl, _⟩ := h; rfl) | (obtain ⟨_, _, _, _, _, _, _, _, _, _, _, _, _, _, rfl, _⟩ := h; rfl) | (obtain ⟨_, _, _, _, _, _, _, _, _, _, _, _, _, _, _, rfl, _⟩ := h; rfl)) (fun vs H Q E h => r_law_do h)
  have law_doZ3 := ok_law_do (P := P) (w := w) (base := base) T (sp_law_do 1) (sp_law_do 2) 2 G_law_number law_doZ2 (by intro vs H Q E h; first | (obtain ⟨_, rfl, _⟩ := h; rfl) | (obtain ⟨_, _, rfl, _⟩ := h; rfl) | (obtain ⟨_, _, _, rfl, _⟩ := h; rfl) | (obtain ⟨_, _, _, _, rfl, _⟩ := h; rfl) | (obtain ⟨_, _, _, _, _, rfl, _⟩ := h; rfl) | (obtain ⟨_, _, _, _, _, _, rfl, _⟩ := h; rfl) | (obtain ⟨_, _, _, _, _, _, _, rfl, _⟩ := h; rfl) | (obtain ⟨_, _, _, _, _, _, _, _, rfl, _⟩ := h; rfl) | (obtain ⟨_, _, _, _, _, _, _, _, _, rfl, _⟩ := h; rfl) | (obtain ⟨_, _, _, _, _, _, _, _, _, _, rfl, _⟩ := h; rfl) | (obtain ⟨_, _, _, _, _, _, _, _, _, _, _, rfl, _⟩ := h; rfl) | (obtain ⟨_, _, _, _, _, _, _, _, _, _, _, _, rfl, _⟩ := h; rfl) | (obtain ⟨_, _, _, _, _, _, _, _, _, _, _, _, _, rfl, _⟩ := h; rfl) | (obtain ⟨_, _, _, _, _, _, _, _, _, _, _, _, _, _, rfl, _⟩ := h; rfl) | (obtain ⟨_, _, _, _, _, _, _, _, _, _, _, _, _, _, _, rfl, _⟩ := h; rfl)) (fun vs H Q E h => r_law_do h)
  have law_doZ4 := ok_law_do (P := P) (w := w) (base := base) T (sp_law_do 2) (sp_law_do 3) 3 G_law_number law_doZ3 (by intro vs H Q E h; first | (obtain ⟨_, rfl, _⟩ := h; rfl) | (obtain ⟨_, _, rfl, _⟩ := h; rfl) | (obtain ⟨_, _, _, rfl, _⟩ := h; rfl) | (obtain ⟨_, _, _, _, rfl, _⟩ := h; rfl) | (obtain ⟨_, _, _, _, _, rfl, _⟩ := h; rfl) | (obtain ⟨_, _, _, _, _, _, rfl, _⟩ := h; rfl) | (obtain ⟨_, _, _, _, _, _, _, rfl, _⟩ := h; rfl) | (obtain ⟨_, _, _, _, _, _, _, _, rfl, _⟩ := h; rfl) | (obtain ⟨_, _, _, _, _, _, _, _, _, rfl, _⟩ := h; rfl) | (obtain ⟨_, _, _, _, _, _, _, _, _, _, rfl, _⟩ := h; rfl) | (obtain ⟨_, _, _, _, _, _, _, _, _, _, _, rfl, _⟩ := h; rfl) | (obtain ⟨_, _, _, _, _, _, _, _, _, _, _, _, rfl, _⟩ := h; rfl) | (obtain ⟨_, _, _, _, _, _, _, _, _, _, _, _, _, rfl, _⟩ := h; rfl) | (obtain ⟨_, _, _, _, _, _, _, _, _, _, _, _, _, _, rfl, _⟩ := h; rfl) | (obtain ⟨_, _, _, _, _, _, _, _, _, _, _, _, _, _, _, rfl, _⟩ := h; rfl)) (fun vs H Q E h => r_law_do h)
  have law_doZ5 := ok_law_do (P := P) (w := w) (base := base) T (sp_law_do 3) (sp_law_do 4) 4 G_law_number law_doZ4 (by intro vs H Q E h; first | (obtain ⟨_, rfl, _⟩ := h; rfl) | (obtain ⟨_, _, rfl, _⟩ := h; rfl) | (obtain ⟨_, _, _, rfl, _⟩ := h; rfl) | (obtain ⟨_, _, _, _, rfl, _⟩ := h; rfl) | (obtain ⟨_, _, _, _, _, rfl, _⟩ := h; rfl) | (obtain ⟨_, _, _, _, _, _, rfl, _⟩ := h; rfl) | (obtain ⟨_, _, _, _, _, _, _, rfl, _⟩ := h; rfl) | (obtain ⟨_, _, _, _, _, _, _, _, rfl, _⟩ := h; rfl) | (obtain ⟨_, _, _, _, _, _, _, _, _, rfl, _⟩ := h; rfl) | (obtain ⟨_, _, _, _, _, _, _, _, _, _, rfl, _⟩ := h; rfl) | (obtain ⟨_, _, _, _, _, _, _, _, _, _, _, rfl, _⟩ := h; rfl) | (obtain ⟨_, _, _, _, _, _, _, _, _, _, _, _, rfl, _⟩ := h; rfl) | (obtain ⟨_, _, _, _, _, _, _, _, _, _, _, _, _, rfl, _⟩ := h; rfl) | (obtain ⟨_, _, _, _, _, _, _, _, _, _, _, _, _, _, rfl, _⟩ := h; rfl) | (obtain ⟨_, _, _, _, _, _, _, _, _, _, _, _, _, _, _, rfl, _⟩ := h; rfl)) (fun vs H Q E h => r_law_do h)
  have G_law_do := law_doZ5
  have G_law_step := ok_law_step (P := P) (w := w) (base := base) T G_law_do (by intro vs H Q E h; first | (obtain ⟨_, rfl, _⟩ := h; rfl) | (obtain ⟨_, _, rfl, _⟩ := h; rfl) | (obtain ⟨_, _, _, rfl, _⟩ := h; rfl) | (obtain ⟨_, _, _, _, rfl, _⟩ := h; rfl) | (obtain ⟨_, _, _, _, _, rfl, _⟩ := h; rfl) | (obtain ⟨_, _, _, _, _, _, rfl, _⟩ := h; rfl) | (obtain ⟨_, _, _, _, _, _, _, rfl, _⟩ := h; rfl) | (obtain ⟨_, _, _, _, _, _, _, _, rfl, _⟩ := h; rfl) | (obtain ⟨_, _, _, _, _, _, _, _, _, rfl, _⟩ := h; rfl) | (obtain ⟨_, _, _, _, _, _, _, _, _, _, rfl, _⟩ := h; rfl) | (obtain ⟨_, _, _, _, _, _, _, _, _, _, _, rfl, _⟩ := h; rfl) | (obtain ⟨_, _, _, _, _, _, _, _, _, _, _, _, rfl, _⟩ := h; rfl) | (obtain ⟨_, _, _, _, _, _, _, _, _, _, _, _, _, rfl, _⟩ := h; rfl) | (obtain ⟨_, _, _, _, _, _, _, _, _, _, _, _, _, _, rfl, _⟩ := h; rfl) | (obtain ⟨_, _, _, _, _, _, _, _, _, _, _, _, _, _, _, rfl, _⟩ := h; rfl)) (fun vs H Q E h => r_law_step h)
  have G_law_run := ok_law_run (P := P) (w := w) (base := base) T G_law_step (by intro vs H Q E h; first | (obtain ⟨_, rfl, _⟩ := h; rfl) | (obtain ⟨_, _, rfl, _⟩ := h; rfl) | (obtain ⟨_, _, _, rfl, _⟩ := h; rfl) | (obtain ⟨_, _, _, _, rfl, _⟩ := h; rfl) | (obtain ⟨_, _, _, _, _, rfl, _⟩ := h; rfl) | (obtain ⟨_, _, _, _, _, _, rfl, _⟩ := h; rfl) | (obtain ⟨_, _, _, _, _, _, _, rfl, _⟩ := h; rfl) | (obtain ⟨_, _, _, _, _, _, _, _, rfl, _⟩ := h; rfl) | (obtain ⟨_, _, _, _, _, _, _, _, _, rfl, _⟩ := h; rfl) | (obtain ⟨_, _, _, _, _, _, _, _, _, _, rfl, _⟩ := h; rfl) | (obtain ⟨_, _, _, _, _, _, _, _, _, _, _, rfl, _⟩ := h; rfl) | (obtain ⟨_, _, _, _, _, _, _, _, _, _, _, _, rfl, _⟩ := h; rfl) | (obtain ⟨_, _, _, _, _, _, _, _, _, _, _, _, _, rfl, _⟩ := h; rfl) | (obtain ⟨_, _, _, _, _, _, _, _, _, _, _, _, _, _, rfl, _⟩ := h; rfl) | (obtain ⟨_, _, _, _, _, _, _, _, _, _, _, _, _, _, _, rfl, _⟩ := h; rfl)) (fun vs H Q E h => r_law_run h)
  have G_law_due := ok_law_due (P := P) (w := w) (base := base) T  (by intro vs H Q E h; first | (obtain ⟨_, rfl, _⟩ := h; rfl) | (obtain ⟨_, _, rfl, _⟩ := h; rfl) | (obtain ⟨_, _, _, rfl, _⟩ := h; rfl) | (obtain ⟨_, _, _, _, rfl, _⟩ := h; rfl) | (obtain ⟨_, _, _, _, _, rfl, _⟩ := h; rfl) | (obtain ⟨_, _, _, _, _, _, rfl, _⟩ := h; rfl) | (obtain ⟨_, _, _, _, _, _, _, rfl, _⟩ := h; rfl) | (obtain ⟨_, _, _, _, _, _, _, _, rfl, _⟩ := h; rfl) | (obtain ⟨_, _, _, _, _, _, _, _, _, rfl, _⟩ := h; rfl) | (obtain ⟨_, _, _, _, _, _, _, _, _, _, rfl, _⟩ := h; rfl) | (obtain ⟨_, _, _, _, _, _, _, _, _, _, _, rfl, _⟩ := h; rfl) | (obtain ⟨_, _, _, _, _, _, _, _, _, _, _, _, rfl, _⟩ := h; rfl) | (obtain ⟨_, _, _, _, _, _, _, _, _, _, _, _, _, rfl, _⟩ := h; rfl) | (obtain ⟨_, _, _, _, _, _, _, _, _, _, _, _, _, _, rfl, _⟩ := h; rfl) | (obtain ⟨_, _, _, _, _, _, _, _, _, _, _, _, _, _, _, rfl, _⟩ := h; rfl)) (fun vs H Q E h => r_law_due h)
  have G_law_told := ok_law_told (P := P) (w := w) (base := base) T G_Ranked_drop G_Ranked__init_ G_Ranked_told G_law_word (by intro vs H Q E h; rcases h with ⟨_, _, _, _, rfl, _⟩ | ⟨_, _, _, _, _, rfl, _⟩ | ⟨_, _, _, rfl, _⟩ <;> rfl) (fun vs H Q E h => r_law_told (wordOk_OutOfRange T) (wordOk_NotThere T) h)
  have G_law_all := ok_law_all (P := P) (w := w) (base := base) T G_rank_of_all G_law_word (by intro vs H Q E h; first | (obtain ⟨_, rfl, _⟩ := h; rfl) | (obtain ⟨_, _, rfl, _⟩ := h; rfl) | (obtain ⟨_, _, _, rfl, _⟩ := h; rfl) | (obtain ⟨_, _, _, _, rfl, _⟩ := h; rfl) | (obtain ⟨_, _, _, _, _, rfl, _⟩ := h; rfl) | (obtain ⟨_, _, _, _, _, _, rfl, _⟩ := h; rfl) | (obtain ⟨_, _, _, _, _, _, _, rfl, _⟩ := h; rfl) | (obtain ⟨_, _, _, _, _, _, _, _, rfl, _⟩ := h; rfl) | (obtain ⟨_, _, _, _, _, _, _, _, _, rfl, _⟩ := h; rfl) | (obtain ⟨_, _, _, _, _, _, _, _, _, _, rfl, _⟩ := h; rfl) | (obtain ⟨_, _, _, _, _, _, _, _, _, _, _, rfl, _⟩ := h; rfl) | (obtain ⟨_, _, _, _, _, _, _, _, _, _, _, _, rfl, _⟩ := h; rfl) | (obtain ⟨_, _, _, _, _, _, _, _, _, _, _, _, _, rfl, _⟩ := h; rfl) | (obtain ⟨_, _, _, _, _, _, _, _, _, _, _, _, _, _, rfl, _⟩ := h; rfl) | (obtain ⟨_, _, _, _, _, _, _, _, _, _, _, _, _, _, _, rfl, _⟩ := h; rfl)) (fun vs H Q E h => r_law_all (wordOk_NotThere T) h)
  have G_law_right := ok_law_right (P := P) (w := w) (base := base) T G_Ranked_numbers G_law_told G_law_alike G_law_all G_law_due (by intro vs H Q E h; first | (obtain ⟨_, rfl, _⟩ := h; rfl) | (obtain ⟨_, _, rfl, _⟩ := h; rfl) | (obtain ⟨_, _, _, rfl, _⟩ := h; rfl) | (obtain ⟨_, _, _, _, rfl, _⟩ := h; rfl) | (obtain ⟨_, _, _, _, _, rfl, _⟩ := h; rfl) | (obtain ⟨_, _, _, _, _, _, rfl, _⟩ := h; rfl) | (obtain ⟨_, _, _, _, _, _, _, rfl, _⟩ := h; rfl) | (obtain ⟨_, _, _, _, _, _, _, _, rfl, _⟩ := h; rfl) | (obtain ⟨_, _, _, _, _, _, _, _, _, rfl, _⟩ := h; rfl) | (obtain ⟨_, _, _, _, _, _, _, _, _, _, rfl, _⟩ := h; rfl) | (obtain ⟨_, _, _, _, _, _, _, _, _, _, _, rfl, _⟩ := h; rfl) | (obtain ⟨_, _, _, _, _, _, _, _, _, _, _, _, rfl, _⟩ := h; rfl) | (obtain ⟨_, _, _, _, _, _, _, _, _, _, _, _, _, rfl, _⟩ := h; rfl) | (obtain ⟨_, _, _, _, _, _, _, _, _, _, _, _, _, _, rfl, _⟩ := h; rfl) | (obtain ⟨_, _, _, _, _, _, _, _, _, _, _, _, _, _, _, rfl, _⟩ := h; rfl)) (fun vs H Q E h => r_law_right h)
  have G_law_runs := ok_law_runs (P := P) (w := w) (base := base) T G_law_right G_Ranked_put G_law_take G_Ranked__init_ G_numbers_said G_law_starts G_law_run G_law_model (by intro vs H Q E h; first | (obtain ⟨_, rfl, _⟩ := h; rfl) | (obtain ⟨_, _, rfl, _⟩ := h; rfl) | (obtain ⟨_, _, _, rfl, _⟩ := h; rfl) | (obtain ⟨_, _, _, _, rfl, _⟩ := h; rfl) | (obtain ⟨_, _, _, _, _, rfl, _⟩ := h; rfl) | (obtain ⟨_, _, _, _, _, _, rfl, _⟩ := h; rfl) | (obtain ⟨_, _, _, _, _, _, _, rfl, _⟩ := h; rfl) | (obtain ⟨_, _, _, _, _, _, _, _, rfl, _⟩ := h; rfl) | (obtain ⟨_, _, _, _, _, _, _, _, _, rfl, _⟩ := h; rfl) | (obtain ⟨_, _, _, _, _, _, _, _, _, _, rfl, _⟩ := h; rfl) | (obtain ⟨_, _, _, _, _, _, _, _, _, _, _, rfl, _⟩ := h; rfl) | (obtain ⟨_, _, _, _, _, _, _, _, _, _, _, _, rfl, _⟩ := h; rfl) | (obtain ⟨_, _, _, _, _, _, _, _, _, _, _, _, _, rfl, _⟩ := h; rfl) | (obtain ⟨_, _, _, _, _, _, _, _, _, _, _, _, _, _, rfl, _⟩ := h; rfl) | (obtain ⟨_, _, _, _, _, _, _, _, _, _, _, _, _, _, _, rfl, _⟩ := h; rfl)) (fun vs H Q E h => r_law_runs h)
  have G_law := ok_law (P := P) (w := w) (base := base) T G_law_told G_law_runs G_law_right G_Ranked_drop G_law_take G_Ranked_put G_Ranked_has G_law_says G_law_alike G_Ranked__init_ G_law_draws (by intro vs H Q E h; first | (obtain ⟨_, rfl, _⟩ := h; rfl) | (obtain ⟨_, _, rfl, _⟩ := h; rfl) | (obtain ⟨_, _, _, rfl, _⟩ := h; rfl) | (obtain ⟨_, _, _, _, rfl, _⟩ := h; rfl) | (obtain ⟨_, _, _, _, _, rfl, _⟩ := h; rfl) | (obtain ⟨_, _, _, _, _, _, rfl, _⟩ := h; rfl) | (obtain ⟨_, _, _, _, _, _, _, rfl, _⟩ := h; rfl) | (obtain ⟨_, _, _, _, _, _, _, _, rfl, _⟩ := h; rfl) | (obtain ⟨_, _, _, _, _, _, _, _, _, rfl, _⟩ := h; rfl) | (obtain ⟨_, _, _, _, _, _, _, _, _, _, rfl, _⟩ := h; rfl) | (obtain ⟨_, _, _, _, _, _, _, _, _, _, _, rfl, _⟩ := h; rfl) | (obtain ⟨_, _, _, _, _, _, _, _, _, _, _, _, rfl, _⟩ := h; rfl) | (obtain ⟨_, _, _, _, _, _, _, _, _, _, _, _, _, rfl, _⟩ := h; rfl) | (obtain ⟨_, _, _, _, _, _, _, _, _, _, _, _, _, _, rfl, _⟩ := h; rfl) | (obtain ⟨_, _, _, _, _, _, _, _, _, _, _, _, _, _, _, rfl, _⟩ := h; rfl)) (fun vs H Q E h => r_law h)
  exact G_law
end
theorem all_mk {P : Program} {w : World} {K : PySem.W.Frag} {h : Heap} {mg : Str → Option Value} {fa : Addr} (X : K.In h) (G : h.Ns mainGlobals mg) (hfa : mg "law" = some (.ref fa))
    {C_Ranked C_TraceError C_OutOfRange C_Malformed C_NotThere C_Refused C_TooMuch f_rank_of f_node_of f_met f_put_in f_least f_without_least f_heap_of f_items_of f_whereQ f_taken_out f_is_number f_rank_place f_Ranked__init_ f_Ranked_even f_Ranked_put f_Ranked_drop f_Ranked_told f_Ranked_numbers f_Ranked_has f_rank_of_all f_keyed f_is_meant f_numbers_said f_law_draws f_law_take f_law_alike f_law_says f_law_word f_law_expression f_law_body f_law_send f_law_many f_law_model f_law_starts f_law_number f_law_do f_law_step f_law_run f_law_due f_law_told f_law_all f_law_right f_law_runs f_law : Addr}
    {od_rank_of an_rank_of od_node_of an_node_of od_met an_met od_put_in an_put_in od_least an_least od_without_least an_without_least od_heap_of an_heap_of od_items_of an_items_of od_whereQ an_whereQ od_taken_out an_taken_out od_is_number an_is_number od_rank_place an_rank_place od_Ranked__init_ an_Ranked__init_ od_Ranked_even an_Ranked_even od_Ranked_put an_Ranked_put od_Ranked_drop an_Ranked_drop od_Ranked_told an_Ranked_told od_Ranked_numbers an_Ranked_numbers od_Ranked_has an_Ranked_has od_rank_of_all an_rank_of_all od_keyed an_keyed od_is_meant an_is_meant od_numbers_said an_numbers_said od_law_draws an_law_draws od_law_take an_law_take od_law_alike an_law_alike od_law_says an_law_says od_law_word an_law_word od_law_expression an_law_expression od_law_body an_law_body od_law_send an_law_send od_law_many an_law_many od_law_model an_law_model od_law_starts an_law_starts od_law_number an_law_number od_law_do an_law_do od_law_step an_law_step od_law_run an_law_run od_law_due an_law_due od_law_told an_law_told od_law_all an_law_all od_law_right an_law_right od_law_runs an_law_runs od_law an_law : Option Addr} {sl_rank_of sl_node_of sl_met sl_put_in sl_least sl_without_least sl_heap_of sl_items_of sl_whereQ sl_taken_out sl_is_number sl_rank_place sl_Ranked__init_ sl_Ranked_even sl_Ranked_put sl_Ranked_drop sl_Ranked_told sl_Ranked_numbers sl_Ranked_has sl_rank_of_all sl_keyed sl_is_meant sl_numbers_said sl_law_draws sl_law_take sl_law_alike sl_law_says sl_law_word sl_law_expression sl_law_body sl_law_send sl_law_many sl_law_model sl_law_starts sl_law_number sl_law_do sl_law_step sl_law_run sl_law_due sl_law_told sl_law_all sl_law_right sl_law_runs sl_law : Array (Option Value)} {oc_rank_of kV_rank_of dc_rank_of pm_rank_of cd_rank_of ct_rank_of oc_node_of kV_node_of dc_node_of pm_node_of cd_node_of ct_node_of oc_met kV_met dc_met pm_met cd_met ct_met oc_put_in kV_put_in dc_put_in pm_put_in cd_put_in ct_put_in oc_least kV_least dc_least pm_least cd_least ct_least oc_without_least kV_without_least dc_without_least pm_without_least cd_without_least ct_without_least oc_heap_of kV_heap_of dc_heap_of pm_heap_of cd_heap_of ct_heap_of oc_items_of kV_items_of dc_items_of pm_items_of cd_items_of ct_items_of oc_whereQ kV_whereQ dc_whereQ pm_whereQ cd_whereQ ct_whereQ oc_taken_out kV_taken_out dc_taken_out pm_taken_out cd_taken_out ct_taken_out oc_is_number kV_is_number dc_is_number pm_is_number cd_is_number ct_is_number oc_rank_place kV_rank_place dc_rank_place pm_rank_place cd_rank_place ct_rank_place oc_Ranked__init_ kV_Ranked__init_ dc_Ranked__init_ pm_Ranked__init_ cd_Ranked__init_ ct_Ranked__init_ oc_Ranked_even kV_Ranked_even dc_Ranked_even pm_Ranked_even cd_Ranked_even ct_Ranked_even oc_Ranked_put kV_Ranked_put dc_Ranked_put pm_Ranked_put cd_Ranked_put ct_Ranked_put oc_Ranked_drop kV_Ranked_drop dc_Ranked_drop pm_Ranked_drop cd_Ranked_drop ct_Ranked_drop oc_Ranked_told kV_Ranked_told dc_Ranked_told pm_Ranked_told cd_Ranked_told ct_Ranked_told oc_Ranked_numbers kV_Ranked_numbers dc_Ranked_numbers pm_Ranked_numbers cd_Ranked_numbers ct_Ranked_numbers oc_Ranked_has kV_Ranked_has dc_Ranked_has pm_Ranked_has cd_Ranked_has ct_Ranked_has oc_rank_of_all kV_rank_of_all dc_rank_of_all pm_rank_of_all cd_rank_of_all ct_rank_of_all oc_keyed kV_keyed dc_keyed pm_keyed cd_keyed ct_keyed oc_is_meant kV_is_meant dc_is_meant pm_is_meant cd_is_meant ct_is_meant oc_numbers_said kV_numbers_said dc_numbers_said pm_numbers_said cd_numbers_said ct_numbers_said oc_law_draws kV_law_draws dc_law_draws pm_law_draws cd_law_draws ct_law_draws oc_law_take kV_law_take dc_law_take pm_law_take cd_law_take ct_law_take oc_law_alike kV_law_alike dc_law_alike pm_law_alike cd_law_alike ct_law_alike oc_law_says kV_law_says dc_law_says pm_law_says cd_law_says ct_law_says oc_law_word kV_law_word dc_law_word pm_law_word cd_law_word ct_law_word oc_law_expression kV_law_expression dc_law_expression pm_law_expression cd_law_expression ct_law_expression oc_law_body kV_law_body dc_law_body pm_law_body cd_law_body ct_law_body oc_law_send kV_law_send dc_law_send pm_law_send cd_law_send ct_law_send oc_law_many kV_law_many dc_law_many pm_law_many cd_law_many ct_law_many oc_law_model kV_law_model dc_law_model pm_law_model cd_law_model ct_law_model oc_law_starts kV_law_starts dc_law_starts pm_law_starts cd_law_starts ct_law_starts oc_law_number kV_law_number dc_law_number pm_law_number cd_law_number ct_law_number oc_law_do kV_law_do dc_law_do pm_law_do cd_law_do ct_law_do oc_law_step kV_law_step dc_law_step pm_law_step cd_law_step ct_law_step oc_law_run kV_law_run dc_law_run pm_law_run cd_law_run ct_law_run oc_law_due kV_law_due dc_law_due pm_law_due cd_law_due ct_law_due oc_law_told kV_law_told dc_law_told pm_law_told cd_law_told ct_law_told oc_law_all kV_law_all dc_law_all pm_law_all cd_law_all ct_law_all oc_law_right kV_law_right dc_law_right pm_law_right cd_law_right ct_law_right oc_law_runs kV_law_runs dc_law_runs pm_law_runs cd_law_runs ct_law_runs oc_law kV_law dc_law pm_law cd_law ct_law : Value}
    {tk_MOST_WHOLE : Tok}
    (a_Ranked : PySem.W.nsIn K mainGlobals "Ranked" = some (some (.ref C_Ranked)))
    (a_TraceError : PySem.W.nsIn K mainGlobals "TraceError" = some (some (.ref C_TraceError)))
    (a_OutOfRange : PySem.W.nsIn K mainGlobals "OutOfRange" = some (some (.ref C_OutOfRange)))
    (a_Malformed : PySem.W.nsIn K mainGlobals "Malformed" = some (some (.ref C_Malformed)))
    (a_NotThere : PySem.W.nsIn K mainGlobals "NotThere" = some (some (.ref C_NotThere)))
    (a_Refused : PySem.W.nsIn K mainGlobals "Refused" = some (some (.ref C_Refused)))
    (a_TooMuch : PySem.W.nsIn K mainGlobals "TooMuch" = some (some (.ref C_TooMuch)))
    (a_rank_of : PySem.W.nsIn K mainGlobals "rank_of" = some (some (.ref f_rank_of)))
    (l_rank_of : K.lookup f_rank_of = some ⟨oc_rank_of, od_rank_of, .func (PySem.W.fnOf "rank_of" "rank_of" (defArgs s_rank_of) (defBody s_rank_of) (defScope s_rank_of) .none kV_rank_of dc_rank_of pm_rank_of an_rank_of cd_rank_of ct_rank_of), sl_rank_of⟩)
    (c_rank_of : PySem.W.codeIn K cd_rank_of "rank_of" = true)
    (k_rank_of : PySem.W.keepIn K (.ref f_rank_of) = true)
    (a_node_of : PySem.W.nsIn K mainGlobals "node_of" = some (some (.ref f_node_of)))
    (l_node_of : K.lookup f_node_of = some ⟨oc_node_of, od_node_of, .func (PySem.W.fnOf "node_of" "node_of" (defArgs s_node_of) (defBody s_node_of) (defScope s_node_of) .none kV_node_of dc_node_of pm_node_of an_node_of cd_node_of ct_node_of), sl_node_of⟩)
    (c_node_of : PySem.W.codeIn K cd_node_of "node_of" = true)
    (k_node_of : PySem.W.keepIn K (.ref f_node_of) = true)
    (a_met : PySem.W.nsIn K mainGlobals "met" = some (some (.ref f_met)))
    (l_met : K.lookup f_met = some ⟨oc_met, od_met, .func (PySem.W.fnOf "met" "met" (defArgs s_met) (defBody s_met) (defScope s_met) .none kV_met dc_met pm_met an_met cd_met ct_met), sl_met⟩)
    (c_met : PySem.W.codeIn K cd_met "met" = true)
    (k_met : PySem.W.keepIn K (.ref f_met) = true)
    (a_put_in : PySem.W.nsIn K mainGlobals "put_in" = some (some (.ref f_put_in)))
    (l_put_in : K.lookup f_put_in = some ⟨oc_put_in, od_put_in, .func (PySem.W.fnOf "put_in" "put_in" (defArgs s_put_in) (defBody s_put_in) (defScope s_put_in) .none kV_put_in dc_put_in pm_put_in an_put_in cd_put_in ct_put_in), sl_put_in⟩)
    (c_put_in : PySem.W.codeIn K cd_put_in "put_in" = true)
    (k_put_in : PySem.W.keepIn K (.ref f_put_in) = true)
    (a_least : PySem.W.nsIn K mainGlobals "least" = some (some (.ref f_least)))
    (l_least : K.lookup f_least = some ⟨oc_least, od_least, .func (PySem.W.fnOf "least" "least" (defArgs s_least) (defBody s_least) (defScope s_least) .none kV_least dc_least pm_least an_least cd_least ct_least), sl_least⟩)
    (c_least : PySem.W.codeIn K cd_least "least" = true)
    (k_least : PySem.W.keepIn K (.ref f_least) = true)
    (a_without_least : PySem.W.nsIn K mainGlobals "without_least" = some (some (.ref f_without_least)))
    (l_without_least : K.lookup f_without_least = some ⟨oc_without_least, od_without_least, .func (PySem.W.fnOf "without_least" "without_least" (defArgs s_without_least) (defBody s_without_least) (defScope s_without_least) .none kV_without_least dc_without_least pm_without_least an_without_least cd_without_least ct_without_least), sl_without_least⟩)
    (c_without_least : PySem.W.codeIn K cd_without_least "without_least" = true)
    (k_without_least : PySem.W.keepIn K (.ref f_without_least) = true)
    (a_heap_of : PySem.W.nsIn K mainGlobals "heap_of" = some (some (.ref f_heap_of)))
    (l_heap_of : K.lookup f_heap_of = some ⟨oc_heap_of, od_heap_of, .func (PySem.W.fnOf "heap_of" "heap_of" (defArgs s_heap_of) (defBody s_heap_of) (defScope s_heap_of) .none kV_heap_of dc_heap_of pm_heap_of an_heap_of cd_heap_of ct_heap_of), sl_heap_of⟩)
    (c_heap_of : PySem.W.codeIn K cd_heap_of "heap_of" = true)
    (k_heap_of : PySem.W.keepIn K (.ref f_heap_of) = true)
    (a_items_of : PySem.W.nsIn K mainGlobals "items_of" = some (some (.ref f_items_of)))
    (l_items_of : K.lookup f_items_of = some ⟨oc_items_of, od_items_of, .func (PySem.W.fnOf "items_of" "items_of" (defArgs s_items_of) (defBody s_items_of) (defScope s_items_of) .none kV_items_of dc_items_of pm_items_of an_items_of cd_items_of ct_items_of), sl_items_of⟩)
    (c_items_of : PySem.W.codeIn K cd_items_of "items_of" = true)
    (k_items_of : PySem.W.keepIn K (.ref f_items_of) = true)
    (a_whereQ : PySem.W.nsIn K mainGlobals "where" = some (some (.ref f_whereQ)))
    (l_whereQ : K.lookup f_whereQ = some ⟨oc_whereQ, od_whereQ, .func (PySem.W.fnOf "where" "where" (defArgs s_whereQ) (defBody s_whereQ) (defScope s_whereQ) .none kV_whereQ dc_whereQ pm_whereQ an_whereQ cd_whereQ ct_whereQ), sl_whereQ⟩)
    (c_whereQ : PySem.W.codeIn K cd_whereQ "where" = true)
    (k_whereQ : PySem.W.keepIn K (.ref f_whereQ) = true)
    (a_taken_out : PySem.W.nsIn K mainGlobals "taken_out" = some (some (.ref f_taken_out)))
    (l_taken_out : K.lookup f_taken_out = some ⟨oc_taken_out, od_taken_out, .func (PySem.W.fnOf "taken_out" "taken_out" (defArgs s_taken_out) (defBody s_taken_out) (defScope s_taken_out) .none kV_taken_out dc_taken_out pm_taken_out an_taken_out cd_taken_out ct_taken_out), sl_taken_out⟩)
    (c_taken_out : PySem.W.codeIn K cd_taken_out "taken_out" = true)
    (k_taken_out : PySem.W.keepIn K (.ref f_taken_out) = true)
    (a_is_number : PySem.W.nsIn K mainGlobals "is_number" = some (some (.ref f_is_number)))
    (l_is_number : K.lookup f_is_number = some ⟨oc_is_number, od_is_number, .func (PySem.W.fnOf "is_number" "is_number" (defArgs s_is_number) (defBody s_is_number) (defScope s_is_number) .none kV_is_number dc_is_number pm_is_number an_is_number cd_is_number ct_is_number), sl_is_number⟩)
    (c_is_number : PySem.W.codeIn K cd_is_number "is_number" = true)
    (k_is_number : PySem.W.keepIn K (.ref f_is_number) = true)
    (a_rank_place : PySem.W.nsIn K mainGlobals "rank_place" = some (some (.ref f_rank_place)))
    (l_rank_place : K.lookup f_rank_place = some ⟨oc_rank_place, od_rank_place, .func (PySem.W.fnOf "rank_place" "rank_place" (defArgs s_rank_place) (defBody s_rank_place) (defScope s_rank_place) .none kV_rank_place dc_rank_place pm_rank_place an_rank_place cd_rank_place ct_rank_place), sl_rank_place⟩)
    (c_rank_place : PySem.W.codeIn K cd_rank_place "rank_place" = true)
    (k_rank_place : PySem.W.keepIn K (.ref f_rank_place) = true)
    (a_Ranked__init_ : PySem.W.findIn K (.ref C_Ranked) "__init__" = some (some (.ref f_Ranked__init_)))
    (i_Ranked__init_ : PySem.W.isFn K (.ref f_Ranked__init_) = true)
    (l_Ranked__init_ : K.lookup f_Ranked__init_ = some ⟨oc_Ranked__init_, od_Ranked__init_, .func (PySem.W.fnOf "__init__" "Ranked.__init__" (defArgs s_Ranked__init_) (defBody s_Ranked__init_) (defScope s_Ranked__init_) .none kV_Ranked__init_ dc_Ranked__init_ pm_Ranked__init_ an_Ranked__init_ cd_Ranked__init_ ct_Ranked__init_), sl_Ranked__init_⟩)
    (c_Ranked__init_ : PySem.W.codeIn K cd_Ranked__init_ "Ranked.__init__" = true)
    (k_Ranked__init_ : PySem.W.keepIn K (.ref f_Ranked__init_) = true)
    (a_Ranked_even : PySem.W.findIn K (.ref C_Ranked) "even" = some (some (.ref f_Ranked_even)))
    (i_Ranked_even : PySem.W.isFn K (.ref f_Ranked_even) = true)
    (l_Ranked_even : K.lookup f_Ranked_even = some ⟨oc_Ranked_even, od_Ranked_even, .func (PySem.W.fnOf "even" "Ranked.even" (defArgs s_Ranked_even) (defBody s_Ranked_even) (defScope s_Ranked_even) .none kV_Ranked_even dc_Ranked_even pm_Ranked_even an_Ranked_even cd_Ranked_even ct_Ranked_even), sl_Ranked_even⟩)
    (c_Ranked_even : PySem.W.codeIn K cd_Ranked_even "Ranked.even" = true)
    (k_Ranked_even : PySem.W.keepIn K (.ref f_Ranked_even) = true)
    (a_Ranked_put : PySem.W.findIn K (.ref C_Ranked) "put" = some (some (.ref f_Ranked_put)))
    (i_Ranked_put : PySem.W.isFn K (.ref f_Ranked_put) = true)
    (l_Ranked_put : K.lookup f_Ranked_put = some ⟨oc_Ranked_put, od_Ranked_put, .func (PySem.W.fnOf "put" "Ranked.put" (defArgs s_Ranked_put) (defBody s_Ranked_put) (defScope s_Ranked_put) .none kV_Ranked_put dc_Ranked_put pm_Ranked_put an_Ranked_put cd_Ranked_put ct_Ranked_put), sl_Ranked_put⟩)
    (c_Ranked_put : PySem.W.codeIn K cd_Ranked_put "Ranked.put" = true)
    (k_Ranked_put : PySem.W.keepIn K (.ref f_Ranked_put) = true)
    (a_Ranked_drop : PySem.W.findIn K (.ref C_Ranked) "drop" = some (some (.ref f_Ranked_drop)))
    (i_Ranked_drop : PySem.W.isFn K (.ref f_Ranked_drop) = true)
    (l_Ranked_drop : K.lookup f_Ranked_drop = some ⟨oc_Ranked_drop, od_Ranked_drop, .func (PySem.W.fnOf "drop" "Ranked.drop" (defArgs s_Ranked_drop) (defBody s_Ranked_drop) (defScope s_Ranked_drop) .none kV_Ranked_drop dc_Ranked_drop pm_Ranked_drop an_Ranked_drop cd_Ranked_drop ct_Ranked_drop), sl_Ranked_drop⟩)
    (c_Ranked_drop : PySem.W.codeIn K cd_Ranked_drop "Ranked.drop" = true)
    (k_Ranked_drop : PySem.W.keepIn K (.ref f_Ranked_drop) = true)
    (a_Ranked_told : PySem.W.findIn K (.ref C_Ranked) "told" = some (some (.ref f_Ranked_told)))
    (i_Ranked_told : PySem.W.isFn K (.ref f_Ranked_told) = true)
    (l_Ranked_told : K.lookup f_Ranked_told = some ⟨oc_Ranked_told, od_Ranked_told, .func (PySem.W.fnOf "told" "Ranked.told" (defArgs s_Ranked_told) (defBody s_Ranked_told) (defScope s_Ranked_told) .none kV_Ranked_told dc_Ranked_told pm_Ranked_told an_Ranked_told cd_Ranked_told ct_Ranked_told), sl_Ranked_told⟩)
    (c_Ranked_told : PySem.W.codeIn K cd_Ranked_told "Ranked.told" = true)
    (k_Ranked_told : PySem.W.keepIn K (.ref f_Ranked_told) = true)
    (a_Ranked_numbers : PySem.W.findIn K (.ref C_Ranked) "numbers" = some (some (.ref f_Ranked_numbers)))
    (i_Ranked_numbers : PySem.W.isFn K (.ref f_Ranked_numbers) = true)
    (l_Ranked_numbers : K.lookup f_Ranked_numbers = some ⟨oc_Ranked_numbers, od_Ranked_numbers, .func (PySem.W.fnOf "numbers" "Ranked.numbers" (defArgs s_Ranked_numbers) (defBody s_Ranked_numbers) (defScope s_Ranked_numbers) .none kV_Ranked_numbers dc_Ranked_numbers pm_Ranked_numbers an_Ranked_numbers cd_Ranked_numbers ct_Ranked_numbers), sl_Ranked_numbers⟩)
    (c_Ranked_numbers : PySem.W.codeIn K cd_Ranked_numbers "Ranked.numbers" = true)
    (k_Ranked_numbers : PySem.W.keepIn K (.ref f_Ranked_numbers) = true)
    (a_Ranked_has : PySem.W.findIn K (.ref C_Ranked) "has" = some (some (.ref f_Ranked_has)))
    (i_Ranked_has : PySem.W.isFn K (.ref f_Ranked_has) = true)
    (l_Ranked_has : K.lookup f_Ranked_has = some ⟨oc_Ranked_has, od_Ranked_has, .func (PySem.W.fnOf "has" "Ranked.has" (defArgs s_Ranked_has) (defBody s_Ranked_has) (defScope s_Ranked_has) .none kV_Ranked_has dc_Ranked_has pm_Ranked_has an_Ranked_has cd_Ranked_has ct_Ranked_has), sl_Ranked_has⟩)
    (c_Ranked_has : PySem.W.codeIn K cd_Ranked_has "Ranked.has" = true)
    (k_Ranked_has : PySem.W.keepIn K (.ref f_Ranked_has) = true)
    (a_rank_of_all : PySem.W.nsIn K mainGlobals "rank_of_all" = some (some (.ref f_rank_of_all)))
    (l_rank_of_all : K.lookup f_rank_of_all = some ⟨oc_rank_of_all, od_rank_of_all, .func (PySem.W.fnOf "rank_of_all" "rank_of_all" (defArgs s_rank_of_all) (defBody s_rank_of_all) (defScope s_rank_of_all) .none kV_rank_of_all dc_rank_of_all pm_rank_of_all an_rank_of_all cd_rank_of_all ct_rank_of_all), sl_rank_of_all⟩)
    (c_rank_of_all : PySem.W.codeIn K cd_rank_of_all "rank_of_all" = true)
    (k_rank_of_all : PySem.W.keepIn K (.ref f_rank_of_all) = true)
    (a_keyed : PySem.W.nsIn K mainGlobals "keyed" = some (some (.ref f_keyed)))
    (l_keyed : K.lookup f_keyed = some ⟨oc_keyed, od_keyed, .func (PySem.W.fnOf "keyed" "keyed" (defArgs s_keyed) (defBody s_keyed) (defScope s_keyed) .none kV_keyed dc_keyed pm_keyed an_keyed cd_keyed ct_keyed), sl_keyed⟩)
    (c_keyed : PySem.W.codeIn K cd_keyed "keyed" = true)
    (k_keyed : PySem.W.keepIn K (.ref f_keyed) = true)
    (a_is_meant : PySem.W.nsIn K mainGlobals "is_meant" = some (some (.ref f_is_meant)))
    (l_is_meant : K.lookup f_is_meant = some ⟨oc_is_meant, od_is_meant, .func (PySem.W.fnOf "is_meant" "is_meant" (defArgs s_is_meant) (defBody s_is_meant) (defScope s_is_meant) .none kV_is_meant dc_is_meant pm_is_meant an_is_meant cd_is_meant ct_is_meant), sl_is_meant⟩)
    (c_is_meant : PySem.W.codeIn K cd_is_meant "is_meant" = true)
    (k_is_meant : PySem.W.keepIn K (.ref f_is_meant) = true)
    (a_numbers_said : PySem.W.nsIn K mainGlobals "numbers_said" = some (some (.ref f_numbers_said)))
    (l_numbers_said : K.lookup f_numbers_said = some ⟨oc_numbers_said, od_numbers_said, .func (PySem.W.fnOf "numbers_said" "numbers_said" (defArgs s_numbers_said) (defBody s_numbers_said) (defScope s_numbers_said) .none kV_numbers_said dc_numbers_said pm_numbers_said an_numbers_said cd_numbers_said ct_numbers_said), sl_numbers_said⟩)
    (c_numbers_said : PySem.W.codeIn K cd_numbers_said "numbers_said" = true)
    (k_numbers_said : PySem.W.keepIn K (.ref f_numbers_said) = true)
    (a_law_draws : PySem.W.nsIn K mainGlobals "_law_draws" = some (some (.ref f_law_draws)))
    (l_law_draws : K.lookup f_law_draws = some ⟨oc_law_draws, od_law_draws, .func (PySem.W.fnOf "_law_draws" "_law_draws" (defArgs s_law_draws) (defBody s_law_draws) (defScope s_law_draws) .none kV_law_draws dc_law_draws pm_law_draws an_law_draws cd_law_draws ct_law_draws), sl_law_draws⟩)
    (c_law_draws : PySem.W.codeIn K cd_law_draws "_law_draws" = true)
    (k_law_draws : PySem.W.keepIn K (.ref f_law_draws) = true)
    (a_law_take : PySem.W.nsIn K mainGlobals "_law_take" = some (some (.ref f_law_take)))
    (l_law_take : K.lookup f_law_take = some ⟨oc_law_take, od_law_take, .func (PySem.W.fnOf "_law_take" "_law_take" (defArgs s_law_take) (defBody s_law_take) (defScope s_law_take) .none kV_law_take dc_law_take pm_law_take an_law_take cd_law_take ct_law_take), sl_law_take⟩)
    (c_law_take : PySem.W.codeIn K cd_law_take "_law_take" = true)
    (k_law_take : PySem.W.keepIn K (.ref f_law_take) = true)
    (a_law_alike : PySem.W.nsIn K mainGlobals "_law_alike" = some (some (.ref f_law_alike)))
    (l_law_alike : K.lookup f_law_alike = some ⟨oc_law_alike, od_law_alike, .func (PySem.W.fnOf "_law_alike" "_law_alike" (defArgs s_law_alike) (defBody s_law_alike) (defScope s_law_alike) .none kV_law_alike dc_law_alike pm_law_alike an_law_alike cd_law_alike ct_law_alike), sl_law_alike⟩)
    (c_law_alike : PySem.W.codeIn K cd_law_alike "_law_alike" = true)
    (k_law_alike : PySem.W.keepIn K (.ref f_law_alike) = true)
    (a_law_says : PySem.W.nsIn K mainGlobals "_law_says" = some (some (.ref f_law_says)))
    (l_law_says : K.lookup f_law_says = some ⟨oc_law_says, od_law_says, .func (PySem.W.fnOf "_law_says" "_law_says" (defArgs s_law_says) (defBody s_law_says) (defScope s_law_says) .none kV_law_says dc_law_says pm_law_says an_law_says cd_law_says ct_law_says), sl_law_says⟩)
    (c_law_says : PySem.W.codeIn K cd_law_says "_law_says" = true)
    (k_law_says : PySem.W.keepIn K (.ref f_law_says) = true)
    (a_law_word : PySem.W.nsIn K mainGlobals "_law_word" = some (some (.ref f_law_word)))
    (l_law_word : K.lookup f_law_word = some ⟨oc_law_word, od_law_word, .func (PySem.W.fnOf "_law_word" "_law_word" (defArgs s_law_word) (defBody s_law_word) (defScope s_law_word) .none kV_law_word dc_law_word pm_law_word an_law_word cd_law_word ct_law_word), sl_law_word⟩)
    (c_law_word : PySem.W.codeIn K cd_law_word "_law_word" = true)
    (k_law_word : PySem.W.keepIn K (.ref f_law_word) = true)
    (a_law_expression : PySem.W.nsIn K mainGlobals "_law_expression" = some (some (.ref f_law_expression)))
    (l_law_expression : K.lookup f_law_expression = some ⟨oc_law_expression, od_law_expression, .func (PySem.W.fnOf "_law_expression" "_law_expression" (defArgs s_law_expression) (defBody s_law_expression) (defScope s_law_expression) .none kV_law_expression dc_law_expression pm_law_expression an_law_expression cd_law_expression ct_law_expression), sl_law_expression⟩)
    (c_law_expression : PySem.W.codeIn K cd_law_expression "_law_expression" = true)
    (k_law_expression : PySem.W.keepIn K (.ref f_law_expression) = true)
    (a_law_body : PySem.W.nsIn K mainGlobals "_law_body" = some (some (.ref f_law_body)))
    (l_law_body : K.lookup f_law_body = some ⟨oc_law_body, od_law_body, .func (PySem.W.fnOf "_law_body" "_law_body" (defArgs s_law_body) (defBody s_law_body) (defScope s_law_body) .none kV_law_body dc_law_body pm_law_body an_law_body cd_law_body ct_law_body), sl_law_body⟩)
    (c_law_body : PySem.W.codeIn K cd_law_body "_law_body" = true)
    (k_law_body : PySem.W.keepIn K (.ref f_law_body) = true)
    (a_law_send : PySem.W.nsIn K mainGlobals "_law_send" = some (some (.ref f_law_send)))
    (l_law_send : K.lookup f_law_send = some ⟨oc_law_send, od_law_send, .func (PySem.W.fnOf "_law_send" "_law_send" (defArgs s_law_send) (defBody s_law_send) (defScope s_law_send) .none kV_law_send dc_law_send pm_law_send an_law_send cd_law_send ct_law_send), sl_law_send⟩)
    (c_law_send : PySem.W.codeIn K cd_law_send "_law_send" = true)
    (k_law_send : PySem.W.keepIn K (.ref f_law_send) = true)
    (a_law_many : PySem.W.nsIn K mainGlobals "_law_many" = some (some (.ref f_law_many)))
    (l_law_many : K.lookup f_law_many = some ⟨oc_law_many, od_law_many, .func (PySem.W.fnOf "_law_many" "_law_many" (defArgs s_law_many) (defBody s_law_many) (defScope s_law_many) .none kV_law_many dc_law_many pm_law_many an_law_many cd_law_many ct_law_many), sl_law_many⟩)
    (c_law_many : PySem.W.codeIn K cd_law_many "_law_many" = true)
    (k_law_many : PySem.W.keepIn K (.ref f_law_many) = true)
    (a_law_model : PySem.W.nsIn K mainGlobals "_law_model" = some (some (.ref f_law_model)))
    (l_law_model : K.lookup f_law_model = some ⟨oc_law_model, od_law_model, .func (PySem.W.fnOf "_law_model" "_law_model" (defArgs s_law_model) (defBody s_law_model) (defScope s_law_model) .none kV_law_model dc_law_model pm_law_model an_law_model cd_law_model ct_law_model), sl_law_model⟩)
    (c_law_model : PySem.W.codeIn K cd_law_model "_law_model" = true)
    (k_law_model : PySem.W.keepIn K (.ref f_law_model) = true)
    (a_law_starts : PySem.W.nsIn K mainGlobals "_law_starts" = some (some (.ref f_law_starts)))
    (l_law_starts : K.lookup f_law_starts = some ⟨oc_law_starts, od_law_starts, .func (PySem.W.fnOf "_law_starts" "_law_starts" (defArgs s_law_starts) (defBody s_law_starts) (defScope s_law_starts) .none kV_law_starts dc_law_starts pm_law_starts an_law_starts cd_law_starts ct_law_starts), sl_law_starts⟩)
    (c_law_starts : PySem.W.codeIn K cd_law_starts "_law_starts" = true)
    (k_law_starts : PySem.W.keepIn K (.ref f_law_starts) = true)
    (a_law_number : PySem.W.nsIn K mainGlobals "_law_number" = some (some (.ref f_law_number)))
    (l_law_number : K.lookup f_law_number = some ⟨oc_law_number, od_law_number, .func (PySem.W.fnOf "_law_number" "_law_number" (defArgs s_law_number) (defBody s_law_number) (defScope s_law_number) .none kV_law_number dc_law_number pm_law_number an_law_number cd_law_number ct_law_number), sl_law_number⟩)
    (c_law_number : PySem.W.codeIn K cd_law_number "_law_number" = true)
    (k_law_number : PySem.W.keepIn K (.ref f_law_number) = true)
    (a_law_do : PySem.W.nsIn K mainGlobals "_law_do" = some (some (.ref f_law_do)))
    (l_law_do : K.lookup f_law_do = some ⟨oc_law_do, od_law_do, .func (PySem.W.fnOf "_law_do" "_law_do" (defArgs s_law_do) (defBody s_law_do) (defScope s_law_do) .none kV_law_do dc_law_do pm_law_do an_law_do cd_law_do ct_law_do), sl_law_do⟩)
    (c_law_do : PySem.W.codeIn K cd_law_do "_law_do" = true)
    (k_law_do : PySem.W.keepIn K (.ref f_law_do) = true)
    (a_law_step : PySem.W.nsIn K mainGlobals "_law_step" = some (some (.ref f_law_step)))
    (l_law_step : K.lookup f_law_step = some ⟨oc_law_step, od_law_step, .func (PySem.W.fnOf "_law_step" "_law_step" (defArgs s_law_step) (defBody s_law_step) (defScope s_law_step) .none kV_law_step dc_law_step pm_law_step an_law_step cd_law_step ct_law_step), sl_law_step⟩)
    (c_law_step : PySem.W.codeIn K cd_law_step "_law_step" = true)
    (k_law_step : PySem.W.keepIn K (.ref f_law_step) = true)
    (a_law_run : PySem.W.nsIn K mainGlobals "_law_run" = some (some (.ref f_law_run)))
    (l_law_run : K.lookup f_law_run = some ⟨oc_law_run, od_law_run, .func (PySem.W.fnOf "_law_run" "_law_run" (defArgs s_law_run) (defBody s_law_run) (defScope s_law_run) .none kV_law_run dc_law_run pm_law_run an_law_run cd_law_run ct_law_run), sl_law_run⟩)
    (c_law_run : PySem.W.codeIn K cd_law_run "_law_run" = true)
    (k_law_run : PySem.W.keepIn K (.ref f_law_run) = true)
    (a_law_due : PySem.W.nsIn K mainGlobals "_law_due" = some (some (.ref f_law_due)))
    (l_law_due : K.lookup f_law_due = some ⟨oc_law_due, od_law_due, .func (PySem.W.fnOf "_law_due" "_law_due" (defArgs s_law_due) (defBody s_law_due) (defScope s_law_due) .none kV_law_due dc_law_due pm_law_due an_law_due cd_law_due ct_law_due), sl_law_due⟩)
    (c_law_due : PySem.W.codeIn K cd_law_due "_law_due" = true)
    (k_law_due : PySem.W.keepIn K (.ref f_law_due) = true)
    (a_law_told : PySem.W.nsIn K mainGlobals "_law_told" = some (some (.ref f_law_told)))
    (l_law_told : K.lookup f_law_told = some ⟨oc_law_told, od_law_told, .func (PySem.W.fnOf "_law_told" "_law_told" (defArgs s_law_told) (defBody s_law_told) (defScope s_law_told) .none kV_law_told dc_law_told pm_law_told an_law_told cd_law_told ct_law_told), sl_law_told⟩)
    (c_law_told : PySem.W.codeIn K cd_law_told "_law_told" = true)
    (k_law_told : PySem.W.keepIn K (.ref f_law_told) = true)
    (a_law_all : PySem.W.nsIn K mainGlobals "_law_all" = some (some (.ref f_law_all)))
    (l_law_all : K.lookup f_law_all = some ⟨oc_law_all, od_law_all, .func (PySem.W.fnOf "_law_all" "_law_all" (defArgs s_law_all) (defBody s_law_all) (defScope s_law_all) .none kV_law_all dc_law_all pm_law_all an_law_all cd_law_all ct_law_all), sl_law_all⟩)
    (c_law_all : PySem.W.codeIn K cd_law_all "_law_all" = true)
    (k_law_all : PySem.W.keepIn K (.ref f_law_all) = true)
    (a_law_right : PySem.W.nsIn K mainGlobals "_law_right" = some (some (.ref f_law_right)))
    (l_law_right : K.lookup f_law_right = some ⟨oc_law_right, od_law_right, .func (PySem.W.fnOf "_law_right" "_law_right" (defArgs s_law_right) (defBody s_law_right) (defScope s_law_right) .none kV_law_right dc_law_right pm_law_right an_law_right cd_law_right ct_law_right), sl_law_right⟩)
    (c_law_right : PySem.W.codeIn K cd_law_right "_law_right" = true)
    (k_law_right : PySem.W.keepIn K (.ref f_law_right) = true)
    (a_law_runs : PySem.W.nsIn K mainGlobals "_law_runs" = some (some (.ref f_law_runs)))
    (l_law_runs : K.lookup f_law_runs = some ⟨oc_law_runs, od_law_runs, .func (PySem.W.fnOf "_law_runs" "_law_runs" (defArgs s_law_runs) (defBody s_law_runs) (defScope s_law_runs) .none kV_law_runs dc_law_runs pm_law_runs an_law_runs cd_law_runs ct_law_runs), sl_law_runs⟩)
    (c_law_runs : PySem.W.codeIn K cd_law_runs "_law_runs" = true)
    (k_law_runs : PySem.W.keepIn K (.ref f_law_runs) = true)
    (a_law : PySem.W.nsIn K mainGlobals "law" = some (some (.ref f_law)))
    (l_law : K.lookup f_law = some ⟨oc_law, od_law, .func (PySem.W.fnOf "law" "law" (defArgs s_law) (defBody s_law) (defScope s_law) .none kV_law dc_law pm_law an_law cd_law ct_law), sl_law⟩)
    (c_law : PySem.W.codeIn K cd_law "law" = true)
    (k_law : PySem.W.keepIn K (.ref f_law) = true)
    (pg_Ranked : PySem.W.plainGet K C_Ranked Str.empty = true)
    (hd_Ranked : PySem.W.hasDictIn K C_Ranked = true)
    (po_Ranked : PySem.W.plainOver K C_Ranked = true)
    (sa_Ranked : PySem.W.findIn K (.ref C_Ranked) "__setattr__" = some (some (.builtin "object.__setattr__")))
    (mk_Ranked : PySem.W.makesIn K C_Ranked = true)
    (kc_Ranked : PySem.W.keepIn K (.ref C_Ranked) = true)
    (n_Ranked_part : PySem.W.findIn K (.ref C_Ranked) "part" = some none)
    (n_Ranked_whole : PySem.W.findIn K (.ref C_Ranked) "whole" = some none)
    (n_Ranked_low : PySem.W.findIn K (.ref C_Ranked) "low" = some none)
    (n_Ranked_high : PySem.W.findIn K (.ref C_Ranked) "high" = some none)
    (n_Ranked_lows : PySem.W.findIn K (.ref C_Ranked) "lows" = some none)
    (n_Ranked_many : PySem.W.findIn K (.ref C_Ranked) "many" = some none)
    (y_n : PySem.W.specialIn K (.builtin "object.__class__") "__get__" = some (some (.builtin "getset_descriptor.__get__")))
    (y_t : PySem.W.takesIn K (.builtin "object.__class__") = some true)
    (ex_OutOfRange : PySem.W.excIn K C_OutOfRange [.type "ValueError", .type "Exception", .type "BaseException", .type "object"] "ValueError.__new__" = true)
    (kx_OutOfRange : PySem.W.keepIn K (.ref C_OutOfRange) = true)
    (yg_OutOfRange : PySem.W.findIn K (.ref C_OutOfRange) "__getattribute__" = some (some (.builtin "BaseException.__getattribute__")))
    (yk_OutOfRange : PySem.W.findIn K (.ref C_OutOfRange) "__getattr__" = some none)
    (yd_OutOfRange : PySem.W.hasDictIn K C_OutOfRange = true)
    (ya_OutOfRange : PySem.W.findIn K (.ref C_OutOfRange) "__class__" = some (some (.builtin "object.__class__")))
    (ym_OutOfRange : PySem.W.mroIn K C_OutOfRange (.type "object") = some true)
    (ex_NotThere : PySem.W.excIn K C_NotThere [.type "ValueError", .type "Exception", .type "BaseException", .type "object"] "ValueError.__new__" = true)
    (kx_NotThere : PySem.W.keepIn K (.ref C_NotThere) = true)
    (yg_NotThere : PySem.W.findIn K (.ref C_NotThere) "__getattribute__" = some (some (.builtin "BaseException.__getattribute__")))
    (yk_NotThere : PySem.W.findIn K (.ref C_NotThere) "__getattr__" = some none)
    (yd_NotThere : PySem.W.hasDictIn K C_NotThere = true)
    (ya_NotThere : PySem.W.findIn K (.ref C_NotThere) "__class__" = some (some (.builtin "object.__class__")))
    (ym_NotThere : PySem.W.mroIn K C_NotThere (.type "object") = some true)
    (bx_Malformed : PySem.W.subIn K (.ref C_Malformed) (.type "BaseException") = some true)
    (tx_Malformed : PySem.W.typeIn K (.ref C_Malformed) = some (.type "type"))
    (ix_Malformed : PySem.W.isClsIn K C_Malformed = true)
    (bx_NotThere : PySem.W.subIn K (.ref C_NotThere) (.type "BaseException") = some true)
    (tx_NotThere : PySem.W.typeIn K (.ref C_NotThere) = some (.type "type"))
    (ix_NotThere : PySem.W.isClsIn K C_NotThere = true)
    (bx_OutOfRange : PySem.W.subIn K (.ref C_OutOfRange) (.type "BaseException") = some true)
    (tx_OutOfRange : PySem.W.typeIn K (.ref C_OutOfRange) = some (.type "type"))
    (ix_OutOfRange : PySem.W.isClsIn K C_OutOfRange = true)
    (bx_Refused : PySem.W.subIn K (.ref C_Refused) (.type "BaseException") = some true)
    (tx_Refused : PySem.W.typeIn K (.ref C_Refused) = some (.type "type"))
    (ix_Refused : PySem.W.isClsIn K C_Refused = true)
    (bx_TooMuch : PySem.W.subIn K (.ref C_TooMuch) (.type "BaseException") = some true)
    (tx_TooMuch : PySem.W.typeIn K (.ref C_TooMuch) = some (.type "type"))
    (ix_TooMuch : PySem.W.isClsIn K C_TooMuch = true)
    (bx_TraceError : PySem.W.subIn K (.ref C_TraceError) (.type "BaseException") = some true)
    (tx_TraceError : PySem.W.typeIn K (.ref C_TraceError) = some (.type "type"))
    (ix_TraceError : PySem.W.isClsIn K C_TraceError = true)
    (s_OutOfRange_TraceError : PySem.W.subIn K (.ref C_OutOfRange) (.ref C_TraceError) = some true)
    (s_NotThere_TraceError : PySem.W.subIn K (.ref C_NotThere) (.ref C_TraceError) = some true)
    (s_NotThere_NotThere : PySem.W.subIn K (.ref C_NotThere) (.ref C_NotThere) = some true)
    (s_OutOfRange_Malformed : PySem.W.subIn K (.ref C_OutOfRange) (.ref C_Malformed) = some false)
    (s_OutOfRange_NotThere : PySem.W.subIn K (.ref C_OutOfRange) (.ref C_NotThere) = some false)
    (s_OutOfRange_Refused : PySem.W.subIn K (.ref C_OutOfRange) (.ref C_Refused) = some false)
    (s_OutOfRange_TooMuch : PySem.W.subIn K (.ref C_OutOfRange) (.ref C_TooMuch) = some false)
    (s_NotThere_OutOfRange : PySem.W.subIn K (.ref C_NotThere) (.ref C_OutOfRange) = some false)
    (s_NotThere_Malformed : PySem.W.subIn K (.ref C_NotThere) (.ref C_Malformed) = some false)
    (s_NotThere_Refused : PySem.W.subIn K (.ref C_NotThere) (.ref C_Refused) = some false)
    (s_NotThere_TooMuch : PySem.W.subIn K (.ref C_NotThere) (.ref C_TooMuch) = some false)
    (ne_OutOfRange_Malformed : C_OutOfRange ≠ C_Malformed)
    (ne_OutOfRange_NotThere : C_OutOfRange ≠ C_NotThere)
    (ne_OutOfRange_Refused : C_OutOfRange ≠ C_Refused)
    (ne_OutOfRange_TooMuch : C_OutOfRange ≠ C_TooMuch)
    (ne_NotThere_OutOfRange : C_NotThere ≠ C_OutOfRange)
    (ne_NotThere_Malformed : C_NotThere ≠ C_Malformed)
    (ne_NotThere_Refused : C_NotThere ≠ C_Refused)
    (ne_NotThere_TooMuch : C_NotThere ≠ C_TooMuch)
    (b_len : PySem.W.nsIn K mainGlobals "len" = some none)
    (b_abs : PySem.W.nsIn K mainGlobals "abs" = some none)
    (b_int : PySem.W.nsIn K mainGlobals "int" = some none)
    (b_list : PySem.W.nsIn K mainGlobals "list" = some none)
    (b_reversed : PySem.W.nsIn K mainGlobals "reversed" = some none)
    (b_isinstance : PySem.W.nsIn K mainGlobals "isinstance" = some none)
    (b_range : PySem.W.nsIn K mainGlobals "range" = some none)
    (b_bool : PySem.W.nsIn K mainGlobals "bool" = some none)
    (b_str : PySem.W.nsIn K mainGlobals "str" = some none)
    (b_tuple : PySem.W.nsIn K mainGlobals "tuple" = some none)
    (b_min : PySem.W.nsIn K mainGlobals "min" = some none)
    (b_max : PySem.W.nsIn K mainGlobals "max" = some none)
    (b_sorted : PySem.W.nsIn K mainGlobals "sorted" = some none)
    (b_sum : PySem.W.nsIn K mainGlobals "sum" = some none)
    (b_dict : PySem.W.nsIn K mainGlobals "dict" = some none)
    (b_enumerate : PySem.W.nsIn K mainGlobals "enumerate" = some none)
    (v_MOST_WHOLE : PySem.W.nsIn K mainGlobals "MOST_WHOLE" = some (some (.int 1000 tk_MOST_WHOLE))) :
    ∃ fd : FuncData, (∀ (s : Shared) (v : Value), BindsTo s fd ⟨[v], []⟩ [("script", v)]) ∧ ∀ base : Heap, K.In base → base.Ns mainGlobals mg → FnOk P w K mg base CX0 16 fa fd ["script"] (sp_law K) := by
  have T : Txt K mg ⟨C_Ranked, C_TraceError, C_OutOfRange, C_Malformed, C_NotThere, C_Refused, C_TooMuch⟩ := {
    rank_of := ⟨_, _, fun_mk (st := s_rank_of) l_rank_of c_rank_of k_rank_of, (Fun.binds (ps := ["heap"]) (fun_mk (st := s_rank_of) l_rank_of c_rank_of k_rank_of) fun _ _ _ _ _ _ us hl => match us, hl with | [_], _ => rfl), PySem.W.mg_of X G a_rank_of⟩,
    node_of := ⟨_, _, fun_mk (st := s_node_of) l_node_of c_node_of k_node_of, (Fun.binds (ps := ["item", "one", "other"]) (fun_mk (st := s_node_of) l_node_of c_node_of k_node_of) fun _ _ _ _ _ _ us hl => match us, hl with | [_, _, _], _ => rfl), PySem.W.mg_of X G a_node_of⟩,
    met := ⟨_, _, fun_mk (st := s_met) l_met c_met k_met, (Fun.binds (ps := ["one", "other"]) (fun_mk (st := s_met) l_met c_met k_met) fun _ _ _ _ _ _ us hl => match us, hl with | [_, _], _ => rfl), PySem.W.mg_of X G a_met⟩,
    put_in := ⟨_, _, fun_mk (st := s_put_in) l_put_in c_put_in k_put_in, (Fun.binds (ps := ["heap", "item"]) (fun_mk (st := s_put_in) l_put_in c_put_in k_put_in) fun _ _ _ _ _ _ us hl => match us, hl with | [_, _], _ => rfl), PySem.W.mg_of X G a_put_in⟩,
    least := ⟨_, _, fun_mk (st := s_least) l_least c_least k_least, (Fun.binds (ps := ["heap"]) (fun_mk (st := s_least) l_least c_least k_least) fun _ _ _ _ _ _ us hl => match us, hl with | [_], _ => rfl), PySem.W.mg_of X G a_least⟩,
    without_least := ⟨_, _, fun_mk (st := s_without_least) l_without_least c_without_least k_without_least, (Fun.binds (ps := ["heap"]) (fun_mk (st := s_without_least) l_without_least c_without_least k_without_least) fun _ _ _ _ _ _ us hl => match us, hl with | [_], _ => rfl), PySem.W.mg_of X G a_without_least⟩,
    heap_of := ⟨_, _, fun_mk (st := s_heap_of) l_heap_of c_heap_of k_heap_of, (Fun.binds (ps := ["items"]) (fun_mk (st := s_heap_of) l_heap_of c_heap_of k_heap_of) fun _ _ _ _ _ _ us hl => match us, hl with | [_], _ => rfl), PySem.W.mg_of X G a_heap_of⟩,
    items_of := ⟨_, _, fun_mk (st := s_items_of) l_items_of c_items_of k_items_of, (Fun.binds (ps := ["heap"]) (fun_mk (st := s_items_of) l_items_of c_items_of k_items_of) fun _ _ _ _ _ _ us hl => match us, hl with | [_], _ => rfl), PySem.W.mg_of X G a_items_of⟩,
    whereQ := ⟨_, _, fun_mk (st := s_whereQ) l_whereQ c_whereQ k_whereQ, (Fun.binds (ps := ["heap", "item"]) (fun_mk (st := s_whereQ) l_whereQ c_whereQ k_whereQ) fun _ _ _ _ _ _ us hl => match us, hl with | [_, _], _ => rfl), PySem.W.mg_of X G a_whereQ⟩,
    taken_out := ⟨_, _, fun_mk (st := s_taken_out) l_taken_out c_taken_out k_taken_out, (Fun.binds (ps := ["heap", "item"]) (fun_mk (st := s_taken_out) l_taken_out c_taken_out k_taken_out) fun _ _ _ _ _ _ us hl => match us, hl with | [_, _], _ => rfl), PySem.W.mg_of X G a_taken_out⟩,
    is_number := ⟨_, _, fun_mk (st := s_is_number) l_is_number c_is_number k_is_number, (Fun.binds (ps := ["value", "least", "most"]) (fun_mk (st := s_is_number) l_is_number c_is_number k_is_number) fun _ _ _ _ _ _ us hl => match us, hl with | [_, _, _], _ => rfl), PySem.W.mg_of X G a_is_number⟩,
    rank_place := ⟨_, _, fun_mk (st := s_rank_place) l_rank_place c_rank_place k_rank_place, (Fun.binds (ps := ["many", "part", "whole"]) (fun_mk (st := s_rank_place) l_rank_place c_rank_place k_rank_place) fun _ _ _ _ _ _ us hl => match us, hl with | [_, _, _], _ => rfl), PySem.W.mg_of X G a_rank_place⟩,
    Ranked__init_ := ⟨_, _, fun_mk (st := s_Ranked__init_) l_Ranked__init_ c_Ranked__init_ k_Ranked__init_, (Fun.binds (ps := ["self", "part", "whole"]) (fun_mk (st := s_Ranked__init_) l_Ranked__init_ c_Ranked__init_ k_Ranked__init_) fun _ _ _ _ _ _ us hl => match us, hl with | [_, _, _], _ => rfl), ⟨mk_Ranked, a_Ranked__init_, i_Ranked__init_, kc_Ranked⟩, ⟨pg_Ranked, hd_Ranked, po_Ranked, sa_Ranked⟩, PySem.W.mg_of X G a_Ranked⟩,
    Ranked_even := ⟨_, _, fun_mk (st := s_Ranked_even) l_Ranked_even c_Ranked_even k_Ranked_even, (Fun.binds (ps := ["self"]) (fun_mk (st := s_Ranked_even) l_Ranked_even c_Ranked_even k_Ranked_even) fun _ _ _ _ _ _ us hl => match us, hl with | [_], _ => rfl), ⟨a_Ranked_even, i_Ranked_even, k_Ranked_even⟩⟩,
    Ranked_put := ⟨_, _, fun_mk (st := s_Ranked_put) l_Ranked_put c_Ranked_put k_Ranked_put, (Fun.binds (ps := ["self", "number"]) (fun_mk (st := s_Ranked_put) l_Ranked_put c_Ranked_put k_Ranked_put) fun _ _ _ _ _ _ us hl => match us, hl with | [_, _], _ => rfl), ⟨a_Ranked_put, i_Ranked_put, k_Ranked_put⟩⟩,
    Ranked_drop := ⟨_, _, fun_mk (st := s_Ranked_drop) l_Ranked_drop c_Ranked_drop k_Ranked_drop, (Fun.binds (ps := ["self", "number"]) (fun_mk (st := s_Ranked_drop) l_Ranked_drop c_Ranked_drop k_Ranked_drop) fun _ _ _ _ _ _ us hl => match us, hl with | [_, _], _ => rfl), ⟨a_Ranked_drop, i_Ranked_drop, k_Ranked_drop⟩⟩,
    Ranked_told := ⟨_, _, fun_mk (st := s_Ranked_told) l_Ranked_told c_Ranked_told k_Ranked_told, (Fun.binds (ps := ["self"]) (fun_mk (st := s_Ranked_told) l_Ranked_told c_Ranked_told k_Ranked_told) fun _ _ _ _ _ _ us hl => match us, hl with | [_], _ => rfl), ⟨a_Ranked_told, i_Ranked_told, k_Ranked_told⟩⟩,
    Ranked_numbers := ⟨_, _, fun_mk (st := s_Ranked_numbers) l_Ranked_numbers c_Ranked_numbers k_Ranked_numbers, (Fun.binds (ps := ["self"]) (fun_mk (st := s_Ranked_numbers) l_Ranked_numbers c_Ranked_numbers k_Ranked_numbers) fun _ _ _ _ _ _ us hl => match us, hl with | [_], _ => rfl), ⟨a_Ranked_numbers, i_Ranked_numbers, k_Ranked_numbers⟩⟩,
    Ranked_has := ⟨_, _, fun_mk (st := s_Ranked_has) l_Ranked_has c_Ranked_has k_Ranked_has, (Fun.binds (ps := ["self", "number"]) (fun_mk (st := s_Ranked_has) l_Ranked_has c_Ranked_has k_Ranked_has) fun _ _ _ _ _ _ us hl => match us, hl with | [_, _], _ => rfl), ⟨a_Ranked_has, i_Ranked_has, k_Ranked_has⟩⟩,
    rank_of_all := ⟨_, _, fun_mk (st := s_rank_of_all) l_rank_of_all c_rank_of_all k_rank_of_all, (Fun.binds (ps := ["numbers", "part", "whole"]) (fun_mk (st := s_rank_of_all) l_rank_of_all c_rank_of_all k_rank_of_all) fun _ _ _ _ _ _ us hl => match us, hl with | [_, _, _], _ => rfl), PySem.W.mg_of X G a_rank_of_all⟩,
    keyed := ⟨_, _, fun_mk (st := s_keyed) l_keyed c_keyed k_keyed, (Fun.binds (ps := ["row"]) (fun_mk (st := s_keyed) l_keyed c_keyed k_keyed) fun _ _ _ _ _ _ us hl => match us, hl with | [_], _ => rfl), PySem.W.mg_of X G a_keyed⟩,
    is_meant := ⟨_, _, fun_mk (st := s_is_meant) l_is_meant c_is_meant k_is_meant, (Fun.binds (ps := ["said", "place", "word"]) (fun_mk (st := s_is_meant) l_is_meant c_is_meant k_is_meant) fun _ _ _ _ _ _ us hl => match us, hl with | [_, _, _], _ => rfl), PySem.W.mg_of X G a_is_meant⟩,
    numbers_said := ⟨_, _, fun_mk (st := s_numbers_said) l_numbers_said c_numbers_said k_numbers_said, (Fun.binds (ps := ["trace_done", "place", "word"]) (fun_mk (st := s_numbers_said) l_numbers_said c_numbers_said k_numbers_said) fun _ _ _ _ _ _ us hl => match us, hl with | [_, _, _], _ => rfl), PySem.W.mg_of X G a_numbers_said⟩,
    law_draws := ⟨_, _, fun_mk (st := s_law_draws) l_law_draws c_law_draws k_law_draws, (Fun.binds (ps := ["script"]) (fun_mk (st := s_law_draws) l_law_draws c_law_draws k_law_draws) fun _ _ _ _ _ _ us hl => match us, hl with | [_], _ => rfl), PySem.W.mg_of X G a_law_draws⟩,
    law_take := ⟨_, _, fun_mk (st := s_law_take) l_law_take c_law_take k_law_take, (Fun.binds (ps := ["draws", "bound"]) (fun_mk (st := s_law_take) l_law_take c_law_take k_law_take) fun _ _ _ _ _ _ us hl => match us, hl with | [_, _], _ => rfl), PySem.W.mg_of X G a_law_take⟩,
    law_alike := ⟨_, _, fun_mk (st := s_law_alike) l_law_alike c_law_alike k_law_alike, (Fun.binds (ps := ["found", "due"]) (fun_mk (st := s_law_alike) l_law_alike c_law_alike k_law_alike) fun _ _ _ _ _ _ us hl => match us, hl with | [_, _], _ => rfl), PySem.W.mg_of X G a_law_alike⟩,
    law_says := ⟨_, _, fun_mk (st := s_law_says) l_law_says c_law_says k_law_says, (Fun.binds (ps := ["told", "due"]) (fun_mk (st := s_law_says) l_law_says c_law_says k_law_says) fun _ _ _ _ _ _ us hl => match us, hl with | [_, _], _ => rfl), PySem.W.mg_of X G a_law_says⟩,
    law_word := ⟨_, _, fun_mk (st := s_law_word) l_law_word c_law_word k_law_word, (Fun.binds (ps := ["e"]) (fun_mk (st := s_law_word) l_law_word c_law_word k_law_word) fun _ _ _ _ _ _ us hl => match us, hl with | [_], _ => rfl), PySem.W.mg_of X G a_law_word⟩,
    law_expression := ⟨_, _, fun_mk (st := s_law_expression) l_law_expression c_law_expression k_law_expression, (Fun.binds (ps := ["draws", "names", "deep"]) (fun_mk (st := s_law_expression) l_law_expression c_law_expression k_law_expression) fun _ _ _ _ _ _ us hl => match us, hl with | [_, _, _], _ => rfl), PySem.W.mg_of X G a_law_expression⟩,
    law_body := ⟨_, _, fun_mk (st := s_law_body) l_law_body c_law_body k_law_body, (Fun.binds (ps := ["draws", "names", "kinds", "deep"]) (fun_mk (st := s_law_body) l_law_body c_law_body k_law_body) fun _ _ _ _ _ _ us hl => match us, hl with | [_, _, _, _], _ => rfl), PySem.W.mg_of X G a_law_body⟩,
    law_send := ⟨_, _, fun_mk (st := s_law_send) l_law_send c_law_send k_law_send, (Fun.binds (ps := ["draws", "names", "kinds"]) (fun_mk (st := s_law_send) l_law_send c_law_send k_law_send) fun _ _ _ _ _ _ us hl => match us, hl with | [_, _, _], _ => rfl), PySem.W.mg_of X G a_law_send⟩,
    law_many := ⟨_, _, fun_mk (st := s_law_many) l_law_many c_law_many k_law_many, (Fun.binds (ps := ["part"]) (fun_mk (st := s_law_many) l_law_many c_law_many k_law_many) fun _ _ _ _ _ _ us hl => match us, hl with | [_], _ => rfl), PySem.W.mg_of X G a_law_many⟩,
    law_model := ⟨_, _, fun_mk (st := s_law_model) l_law_model c_law_model k_law_model, (Fun.binds (ps := ["draws", "most"]) (fun_mk (st := s_law_model) l_law_model c_law_model k_law_model) fun _ _ _ _ _ _ us hl => match us, hl with | [_, _], _ => rfl), PySem.W.mg_of X G a_law_model⟩,
    law_starts := ⟨_, _, fun_mk (st := s_law_starts) l_law_starts c_law_starts k_law_starts, (Fun.binds (ps := ["draws", "model"]) (fun_mk (st := s_law_starts) l_law_starts c_law_starts k_law_starts) fun _ _ _ _ _ _ us hl => match us, hl with | [_, _], _ => rfl), PySem.W.mg_of X G a_law_starts⟩,
    law_number := ⟨_, _, fun_mk (st := s_law_number) l_law_number c_law_number k_law_number, (Fun.binds (ps := ["known", "event", "e"]) (fun_mk (st := s_law_number) l_law_number c_law_number k_law_number) fun _ _ _ _ _ _ us hl => match us, hl with | [_, _, _], _ => rfl), PySem.W.mg_of X G a_law_number⟩,
    law_do := ⟨_, _, fun_mk (st := s_law_do) l_law_do c_law_do k_law_do, (Fun.binds (ps := ["model", "known", "event", "body"]) (fun_mk (st := s_law_do) l_law_do c_law_do k_law_do) fun _ _ _ _ _ _ us hl => match us, hl with | [_, _, _, _], _ => rfl), PySem.W.mg_of X G a_law_do⟩,
    law_step := ⟨_, _, fun_mk (st := s_law_step) l_law_step c_law_step k_law_step, (Fun.binds (ps := ["model", "state", "event"]) (fun_mk (st := s_law_step) l_law_step c_law_step k_law_step) fun _ _ _ _ _ _ us hl => match us, hl with | [_, _, _], _ => rfl), PySem.W.mg_of X G a_law_step⟩,
    law_run := ⟨_, _, fun_mk (st := s_law_run) l_law_run c_law_run k_law_run, (Fun.binds (ps := ["model", "starts", "until"]) (fun_mk (st := s_law_run) l_law_run c_law_run k_law_run) fun _ _ _ _ _ _ us hl => match us, hl with | [_, _, _], _ => rfl), PySem.W.mg_of X G a_law_run⟩,
    law_due := ⟨_, _, fun_mk (st := s_law_due) l_law_due c_law_due k_law_due, (Fun.binds (ps := ["numbers", "part", "whole_one"]) (fun_mk (st := s_law_due) l_law_due c_law_due k_law_due) fun _ _ _ _ _ _ us hl => match us, hl with | [_, _, _], _ => rfl), PySem.W.mg_of X G a_law_due⟩,
    law_told := ⟨_, _, fun_mk (st := s_law_told) l_law_told c_law_told k_law_told, (Fun.binds (ps := ["which", "ranked", "number"]) (fun_mk (st := s_law_told) l_law_told c_law_told k_law_told) fun _ _ _ _ _ _ us hl => match us, hl with | [_, _, _], _ => rfl), PySem.W.mg_of X G a_law_told⟩,
    law_all := ⟨_, _, fun_mk (st := s_law_all) l_law_all c_law_all k_law_all, (Fun.binds (ps := ["numbers", "part", "whole_one"]) (fun_mk (st := s_law_all) l_law_all c_law_all k_law_all) fun _ _ _ _ _ _ us hl => match us, hl with | [_, _, _], _ => rfl), PySem.W.mg_of X G a_law_all⟩,
    law_right := ⟨_, _, fun_mk (st := s_law_right) l_law_right c_law_right k_law_right, (Fun.binds (ps := ["ranked", "numbers", "part", "whole_one"]) (fun_mk (st := s_law_right) l_law_right c_law_right k_law_right) fun _ _ _ _ _ _ us hl => match us, hl with | [_, _, _, _], _ => rfl), PySem.W.mg_of X G a_law_right⟩,
    law_runs := ⟨_, _, fun_mk (st := s_law_runs) l_law_runs c_law_runs k_law_runs, (Fun.binds (ps := ["draws", "part", "whole_one"]) (fun_mk (st := s_law_runs) l_law_runs c_law_runs k_law_runs) fun _ _ _ _ _ _ us hl => match us, hl with | [_, _, _], _ => rfl), PySem.W.mg_of X G a_law_runs⟩,
    law := ⟨_, _, fun_mk (st := s_law) l_law c_law k_law, (Fun.binds (ps := ["script"]) (fun_mk (st := s_law) l_law c_law k_law) fun _ _ _ _ _ _ us hl => match us, hl with | [_], _ => rfl), PySem.W.mg_of X G a_law⟩,
    n_Ranked_part := n_Ranked_part,
    n_Ranked_whole := n_Ranked_whole,
    n_Ranked_low := n_Ranked_low,
    n_Ranked_high := n_Ranked_high,
    n_Ranked_lows := n_Ranked_lows,
    n_Ranked_many := n_Ranked_many,
    x_TraceError := ⟨PySem.W.mg_of X G a_TraceError⟩,
    x_OutOfRange := ⟨ex_OutOfRange, PySem.W.mg_of X G a_OutOfRange, kx_OutOfRange, bx_OutOfRange, tx_OutOfRange, ⟨yg_OutOfRange, yk_OutOfRange, bx_OutOfRange, yd_OutOfRange, ya_OutOfRange, y_n, y_t, ym_OutOfRange⟩⟩,
    x_Malformed := ⟨PySem.W.mg_of X G a_Malformed⟩,
    x_NotThere := ⟨ex_NotThere, PySem.W.mg_of X G a_NotThere, kx_NotThere, bx_NotThere, tx_NotThere, ⟨yg_NotThere, yk_NotThere, bx_NotThere, yd_NotThere, ya_NotThere, y_n, y_t, ym_NotThere⟩⟩,
    x_Refused := ⟨PySem.W.mg_of X G a_Refused⟩,
    x_TooMuch := ⟨PySem.W.mg_of X G a_TooMuch⟩,
    e_OutOfRange_TraceError := exm_of bx_TraceError ix_TraceError tx_TraceError s_OutOfRange_TraceError,
    e_NotThere_TraceError := exm_of bx_TraceError ix_TraceError tx_TraceError s_NotThere_TraceError,
    e_NotThere_NotThere := exm_of bx_NotThere ix_NotThere tx_NotThere s_NotThere_NotThere,
    i_OutOfRange_OutOfRange := kit_self,
    i_OutOfRange_Malformed := kit_no ne_OutOfRange_Malformed ix_Malformed tx_Malformed s_OutOfRange_Malformed,
    i_OutOfRange_NotThere := kit_no ne_OutOfRange_NotThere ix_NotThere tx_NotThere s_OutOfRange_NotThere,
    i_OutOfRange_Refused := kit_no ne_OutOfRange_Refused ix_Refused tx_Refused s_OutOfRange_Refused,
    i_OutOfRange_TooMuch := kit_no ne_OutOfRange_TooMuch ix_TooMuch tx_TooMuch s_OutOfRange_TooMuch,
    i_NotThere_OutOfRange := kit_no ne_NotThere_OutOfRange ix_OutOfRange tx_OutOfRange s_NotThere_OutOfRange,
    i_NotThere_Malformed := kit_no ne_NotThere_Malformed ix_Malformed tx_Malformed s_NotThere_Malformed,
    i_NotThere_NotThere := kit_self,
    i_NotThere_Refused := kit_no ne_NotThere_Refused ix_Refused tx_Refused s_NotThere_Refused,
    i_NotThere_TooMuch := kit_no ne_NotThere_TooMuch ix_TooMuch tx_TooMuch s_NotThere_TooMuch,
    b_len := PySem.W.mg_none_of X G b_len,
    b_abs := PySem.W.mg_none_of X G b_abs,
    b_int := PySem.W.mg_none_of X G b_int,
    b_list := PySem.W.mg_none_of X G b_list,
    b_reversed := PySem.W.mg_none_of X G b_reversed,
    b_isinstance := PySem.W.mg_none_of X G b_isinstance,
    b_range := PySem.W.mg_none_of X G b_range,
    b_bool := PySem.W.mg_none_of X G b_bool,
    b_str := PySem.W.mg_none_of X G b_str,
    b_tuple := PySem.W.mg_none_of X G b_tuple,
    b_min := PySem.W.mg_none_of X G b_min,
    b_max := PySem.W.mg_none_of X G b_max,
    b_sorted := PySem.W.mg_none_of X G b_sorted,
    b_sum := PySem.W.mg_none_of X G b_sum,
    b_dict := PySem.W.mg_none_of X G b_dict,
    b_enumerate := PySem.W.mg_none_of X G b_enumerate,
    c_MOST_WHOLE := ⟨_, PySem.W.mg_of X G v_MOST_WHOLE, ⟨_, rfl⟩⟩ }
  have e := hfa.symm.trans T.law.g
  cases e
  obtain ⟨oc, od, kV, dc, pm, an, cd, ct, sl, e, _⟩ := T.law.F.ex
  exact ⟨T.law.fd, fun s v => by rw [e]; exact .of_eq rfl, fun base _ _ => ok_all T base⟩
end HL
open PySem PySem.W PyProof.Rows
set_option maxRecDepth 100000 in
set_option maxHeartbeats 0 in
theorem PySem.Challenge.cw_sametrace_k21_whole_ranks_that_are_kept_holds : PySem.Challenge.rw_sametrace_k21_whole_ranks_that_are_kept.Holds := by
  w_on; o_law; k_head; (case hw => w_witness2)
  k_fill
  refine L2.walk_of (l := PySem.Challenge.rw_sametrace_k21_whole_ranks_that_are_kept) (n := 63) (k := 16) (x := "script") (CX := fun _ => L2.CX0) (sp := fun w => HL.sp_law _) rfl (by decide) rfl ⟨rfl, by decide, by decide⟩ (fun w h Y => PySem.W.kIn_of Y) ?F (fun _ _ a ns hl _ hS => ⟨a, ns, rfl, hS, hl, fun _ => rfl⟩) (fun _ _ _ _ _ z => z)
  case F =>
    intro w mg fa h KX G hmg
    refine' HL.all_mk KX G hmg ?a_Ranked ?a_TraceError ?a_OutOfRange ?a_Malformed ?a_NotThere ?a_Refused ?a_TooMuch ?a_rank_of ?l_rank_of ?c_rank_of ?k_rank_of ?a_node_of ?l_node_of ?c_node_of ?k_node_of ?a_met ?l_met ?c_met ?k_met ?a_put_in ?l_put_in ?c_put_in ?k_put_in ?a_least ?l_least ?c_least ?k_least ?a_without_least ?l_without_least ?c_without_least ?k_without_least ?a_heap_of ?l_heap_of ?c_heap_of ?k_heap_of ?a_items_of ?l_items_of ?c_items_of ?k_items_of ?a_whereQ ?l_whereQ ?c_whereQ ?k_whereQ ?a_taken_out ?l_taken_out ?c_taken_out ?k_taken_out ?a_is_number ?l_is_number ?c_is_number ?k_is_number ?a_rank_place ?l_rank_place ?c_rank_place ?k_rank_place ?a_Ranked__init_ ?i_Ranked__init_ ?l_Ranked__init_ ?c_Ranked__init_ ?k_Ranked__init_ ?a_Ranked_even ?i_Ranked_even ?l_Ranked_even ?c_Ranked_even ?k_Ranked_even ?a_Ranked_put ?i_Ranked_put ?l_Ranked_put ?c_Ranked_put ?k_Ranked_put ?a_Ranked_drop ?i_Ranked_drop ?l_Ranked_drop ?c_Ranked_drop ?k_Ranked_drop ?a_Ranked_told ?i_Ranked_told ?l_Ranked_told ?c_Ranked_told ?k_Ranked_told ?a_Ranked_numbers ?i_Ranked_numbers ?l_Ranked_numbers ?c_Ranked_numbers ?k_Ranked_numbers ?a_Ranked_has ?i_Ranked_has ?l_Ranked_has ?c_Ranked_has ?k_Ranked_has ?a_rank_of_all ?l_rank_of_all ?c_rank_of_all ?k_rank_of_all ?a_keyed ?l_keyed ?c_keyed ?k_keyed ?a_is_meant ?l_is_meant ?c_is_meant ?k_is_meant ?a_numbers_said ?l_numbers_said ?c_numbers_said ?k_numbers_said ?a_law_draws ?l_law_draws ?c_law_draws ?k_law_draws ?a_law_take ?l_law_take ?c_law_take ?k_law_take ?a_law_alike ?l_law_alike ?c_law_alike ?k_law_alike ?a_law_says ?l_law_says ?c_law_says ?k_law_says ?a_law_word ?l_law_word ?c_law_word ?k_law_word ?a_law_expression ?l_law_expression ?c_law_expression ?k_law_expression ?a_law_body ?l_law_body ?c_law_body ?k_law_body ?a_law_send ?l_law_send ?c_law_send ?k_law_send ?a_law_many ?l_law_many ?c_law_many ?k_law_many ?a_law_model ?l_law_model ?c_law_model ?k_law_model ?a_law_starts ?l_law_starts ?c_law_starts ?k_law_starts ?a_law_number ?l_law_number ?c_law_number ?k_law_number ?a_law_do ?l_law_do ?c_law_do ?k_law_do ?a_law_step ?l_law_step ?c_law_step ?k_law_step ?a_law_run ?l_law_run ?c_law_run ?k_law_run ?a_law_due ?l_law_due ?c_law_due ?k_law_due ?a_law_told ?l_law_told ?c_law_told ?k_law_told ?a_law_all ?l_law_all ?c_law_all ?k_law_all ?a_law_right ?l_law_right ?c_law_right ?k_law_right ?a_law_runs ?l_law_runs ?c_law_runs ?k_law_runs ?a_law ?l_law ?c_law ?k_law ?pg_Ranked ?hd_Ranked ?po_Ranked ?sa_Ranked ?mk_Ranked ?kc_Ranked ?n_Ranked_part ?n_Ranked_whole ?n_Ranked_low ?n_Ranked_high ?n_Ranked_lows ?n_Ranked_many ?y_n ?y_t ?ex_OutOfRange ?kx_OutOfRange ?yg_OutOfRange ?yk_OutOfRange ?yd_OutOfRange ?ya_OutOfRange ?ym_OutOfRange ?ex_NotThere ?kx_NotThere ?yg_NotThere ?yk_NotThere ?yd_NotThere ?ya_NotThere ?ym_NotThere ?bx_Malformed ?tx_Malformed ?ix_Malformed ?bx_NotThere ?tx_NotThere ?ix_NotThere ?bx_OutOfRange ?tx_OutOfRange ?ix_OutOfRange ?bx_Refused ?tx_Refused ?ix_Refused ?bx_TooMuch ?tx_TooMuch ?ix_TooMuch ?bx_TraceError ?tx_TraceError ?ix_TraceError ?s_OutOfRange_TraceError ?s_NotThere_TraceError ?s_NotThere_NotThere ?s_OutOfRange_Malformed ?s_OutOfRange_NotThere ?s_OutOfRange_Refused ?s_OutOfRange_TooMuch ?s_NotThere_OutOfRange ?s_NotThere_Malformed ?s_NotThere_Refused ?s_NotThere_TooMuch ?ne_OutOfRange_Malformed ?ne_OutOfRange_NotThere ?ne_OutOfRange_Refused ?ne_OutOfRange_TooMuch ?ne_NotThere_OutOfRange ?ne_NotThere_Malformed ?ne_NotThere_Refused ?ne_NotThere_TooMuch ?b_len ?b_abs ?b_int ?b_list ?b_reversed ?b_isinstance ?b_range ?b_bool ?b_str ?b_tuple ?b_min ?b_max ?b_sorted ?b_sum ?b_dict ?b_enumerate ?v_MOST_WHOLE
    (case a_Ranked => k_is); (case a_TraceError => k_is); (case a_OutOfRange => k_is); (case a_Malformed => k_is); (case a_NotThere => k_is); (case a_Refused => k_is)
    (case a_TooMuch => k_is); (case a_rank_of => k_is); (case l_rank_of => k_is); (case c_rank_of => k_is); (case k_rank_of => k_is); (case a_node_of => k_is)
    (case l_node_of => k_is); (case c_node_of => k_is); (case k_node_of => k_is); (case a_met => k_is); (case l_met => k_is); (case c_met => k_is)
    (case k_met => k_is); (case a_put_in => k_is); (case l_put_in => k_is); (case c_put_in => k_is); (case k_put_in => k_is); (case a_least => k_is)
    (case l_least => k_is); (case c_least => k_is); (case k_least => k_is); (case a_without_least => k_is); (case l_without_least => k_is); (case c_without_least => k_is)
    (case k_without_least => k_is); (case a_heap_of => k_is); (case l_heap_of => k_is); (case c_heap_of => k_is); (case k_heap_of => k_is); (case a_items_of => k_is)
    (case l_items_of => k_is); (case c_items_of => k_is); (case k_items_of => k_is); (case a_whereQ => k_is); (case l_whereQ => k_is); (case c_whereQ => k_is)
    (case k_whereQ => k_is); (case a_taken_out => k_is); (case l_taken_out => k_is); (case c_taken_out => k_is); (case k_taken_out => k_is); (case a_is_number => k_is)
    (case l_is_number => k_is); (case c_is_number => k_is); (case k_is_number => k_is); (case a_rank_place => k_is); (case l_rank_place => k_is); (case c_rank_place => k_is)
    (case k_rank_place => k_is); (case a_Ranked__init_ => k_is); (case i_Ranked__init_ => k_is); (case l_Ranked__init_ => k_is); (case c_Ranked__init_ => k_is); (case k_Ranked__init_ => k_is)
    (case a_Ranked_even => k_is); (case i_Ranked_even => k_is); (case l_Ranked_even => k_is); (case c_Ranked_even => k_is); (case k_Ranked_even => k_is); (case a_Ranked_put => k_is)
    (case i_Ranked_put => k_is); (case l_Ranked_put => k_is); (case c_Ranked_put => k_is); (case k_Ranked_put => k_is); (case a_Ranked_drop => k_is); (case i_Ranked_drop => k_is)
    (case l_Ranked_drop => k_is); (case c_Ranked_drop => k_is); (case k_Ranked_drop => k_is); (case a_Ranked_told => k_is); (case i_Ranked_told => k_is); (case l_Ranked_told => k_is)
    (case c_Ranked_told => k_is); (case k_Ranked_told => k_is); (case a_Ranked_numbers => k_is); (case i_Ranked_numbers => k_is); (case l_Ranked_numbers => k_is); (case c_Ranked_numbers => k_is)
    (case k_Ranked_numbers => k_is); (case a_Ranked_has => k_is); (case i_Ranked_has => k_is); (case l_Ranked_has => k_is); (case c_Ranked_has => k_is); (case k_Ranked_has => k_is)
    (case a_rank_of_all => k_is); (case l_rank_of_all => k_is); (case c_rank_of_all => k_is); (case k_rank_of_all => k_is); (case a_keyed => k_is); (case l_keyed => k_is)
    (case c_keyed => k_is); (case k_keyed => k_is); (case a_is_meant => k_is); (case l_is_meant => k_is); (case c_is_meant => k_is); (case k_is_meant => k_is)
    (case a_numbers_said => k_is); (case l_numbers_said => k_is); (case c_numbers_said => k_is); (case k_numbers_said => k_is); (case a_law_draws => k_is); (case l_law_draws => k_is)
    (case c_law_draws => k_is); (case k_law_draws => k_is); (case a_law_take => k_is); (case l_law_take => k_is); (case c_law_take => k_is); (case k_law_take => k_is)
    (case a_law_alike => k_is); (case l_law_alike => k_is); (case c_law_alike => k_is); (case k_law_alike => k_is); (case a_law_says => k_is); (case l_law_says => k_is)
    (case c_law_says => k_is); (case k_law_says => k_is); (case a_law_word => k_is); (case l_law_word => k_is); (case c_law_word => k_is); (case k_law_word => k_is)
    (case a_law_expression => k_is); (case l_law_expression => k_is); (case c_law_expression => k_is); (case k_law_expression => k_is); (case a_law_body => k_is); (case l_law_body => k_is)
    (case c_law_body => k_is); (case k_law_body => k_is); (case a_law_send => k_is); (case l_law_send => k_is); (case c_law_send => k_is); (case k_law_send => k_is)
    (case a_law_many => k_is); (case l_law_many => k_is); (case c_law_many => k_is); (case k_law_many => k_is); (case a_law_model => k_is); (case l_law_model => k_is)
    (case c_law_model => k_is); (case k_law_model => k_is); (case a_law_starts => k_is); (case l_law_starts => k_is); (case c_law_starts => k_is); (case k_law_starts => k_is)
    (case a_law_number => k_is); (case l_law_number => k_is); (case c_law_number => k_is); (case k_law_number => k_is); (case a_law_do => k_is); (case l_law_do => k_is)
    (case c_law_do => k_is); (case k_law_do => k_is); (case a_law_step => k_is); (case l_law_step => k_is); (case c_law_step => k_is); (case k_law_step => k_is)
    (case a_law_run => k_is); (case l_law_run => k_is); (case c_law_run => k_is); (case k_law_run => k_is); (case a_law_due => k_is); (case l_law_due => k_is)
    (case c_law_due => k_is); (case k_law_due => k_is); (case a_law_told => k_is); (case l_law_told => k_is); (case c_law_told => k_is); (case k_law_told => k_is)
    (case a_law_all => k_is); (case l_law_all => k_is); (case c_law_all => k_is); (case k_law_all => k_is); (case a_law_right => k_is); (case l_law_right => k_is)
    (case c_law_right => k_is); (case k_law_right => k_is); (case a_law_runs => k_is); (case l_law_runs => k_is); (case c_law_runs => k_is); (case k_law_runs => k_is)
    (case a_law => k_is); (case l_law => k_is); (case c_law => k_is); (case k_law => k_is); (case pg_Ranked => k_is); (case hd_Ranked => k_is)
    (case po_Ranked => k_is); (case sa_Ranked => k_is); (case mk_Ranked => k_is); (case kc_Ranked => k_is); (case n_Ranked_part => k_is); (case n_Ranked_whole => k_is)
    (case n_Ranked_low => k_is); (case n_Ranked_high => k_is); (case n_Ranked_lows => k_is); (case n_Ranked_many => k_is); (case y_n => k_is); (case y_t => k_is)
    (case ex_OutOfRange => k_exc); (case kx_OutOfRange => k_is); (case yg_OutOfRange => k_is); (case yk_OutOfRange => k_is); (case yd_OutOfRange => k_is); (case ya_OutOfRange => k_is)
    (case ym_OutOfRange => k_is); (case ex_NotThere => k_exc); (case kx_NotThere => k_is); (case yg_NotThere => k_is); (case yk_NotThere => k_is); (case yd_NotThere => k_is)
    (case ya_NotThere => k_is); (case ym_NotThere => k_is); (case bx_Malformed => k_is); (case tx_Malformed => k_is); (case ix_Malformed => k_is); (case bx_NotThere => k_is)
    (case tx_NotThere => k_is); (case ix_NotThere => k_is); (case bx_OutOfRange => k_is); (case tx_OutOfRange => k_is); (case ix_OutOfRange => k_is); (case bx_Refused => k_is)
    (case tx_Refused => k_is); (case ix_Refused => k_is); (case bx_TooMuch => k_is); (case tx_TooMuch => k_is); (case ix_TooMuch => k_is); (case bx_TraceError => k_is)
    (case tx_TraceError => k_is); (case ix_TraceError => k_is); (case s_OutOfRange_TraceError => k_is); (case s_NotThere_TraceError => k_is); (case s_NotThere_NotThere => k_is); (case s_OutOfRange_Malformed => k_is)
    (case s_OutOfRange_NotThere => k_is); (case s_OutOfRange_Refused => k_is); (case s_OutOfRange_TooMuch => k_is); (case s_NotThere_OutOfRange => k_is); (case s_NotThere_Malformed => k_is); (case s_NotThere_Refused => k_is)
    (case s_NotThere_TooMuch => k_is); (case ne_OutOfRange_Malformed => decide); (case ne_OutOfRange_NotThere => decide); (case ne_OutOfRange_Refused => decide); (case ne_OutOfRange_TooMuch => decide); (case ne_NotThere_OutOfRange => decide)
    (case ne_NotThere_Malformed => decide); (case ne_NotThere_Refused => decide); (case ne_NotThere_TooMuch => decide); (case b_len => k_is); (case b_abs => k_is); (case b_int => k_is)
    (case b_list => k_is); (case b_reversed => k_is); (case b_isinstance => k_is); (case b_range => k_is); (case b_bool => k_is); (case b_str => k_is)
    (case b_tuple => k_is); (case b_min => k_is); (case b_max => k_is); (case b_sorted => k_is); (case b_sum => k_is); (case b_dict => k_is)
    (case b_enumerate => k_is); (case v_MOST_WHOLE => k_is)
