import PyProof.Rows.All
import Wide.All
import OpenK.AllK
import Wide.FinOn
import HandS.ForMost
import HandS.Exc
import HandS.ExcOwn
import HandS.ExcCtx
import HandS.ExcIs
import HandS.Rev
import HandS.TupAny
import HandS.Deep
import HandS.IsInst
import HandS.Style
import HandS.More
import HandS.HotCalls
import HandS.Flow
import HandS.Gcd
import HandS.SortInts
import HandS.Star
import HandS.TupMul
import KE.SortData
import KE.DataMinMax
import KE.KDictWalk
import KE.KDictPairs
import KE.DataFind
import HandS.DictTup
import HandS.TupLen
import HandS.Iter
import HandS.Dict
import HandS.Small
import KE.GoesMore
import KE.GoesEnum
import HandS.TryMany
import HandS.Wide
import HandS.Zip
import HandS.Walk
import HandS.AnyAll
import HandS.GenOver
import HandS.EndOwn
import PySem.Challenge.RW_sametrace_k41_whole_nets_and_schedules
set_option Elab.async false
set_option linter.all false
set_option maxRecDepth 100000
namespace HL
open PySem PySem.Spec PyProof.Rows L2 HotX
section
variable {prog : Program} {w : World} {A : Around} {E : Value → Shared → Prop} {s : Shared}
/-- the end of a list's iterator while an exception is handled -/
theorem list_ends_hot {it l x1 : Addr} {i : Nat} {items : Array Value} {Q : Option Value → Shared → Prop} (hot : HotAt A x1 s.heap)
    (hit : s.heap.IsListIter it l i) (hl : s.heap.IsList l items) (hx : items[i]? = none) (nx : x1 ≠ it)
    (hQ : ∀ h', (∀ b o, b ≠ it → s.heap.get? b = some o → h'.get? b = some o) → Q none { s with heap := h' }) : wpAny (model prog w) A (pyNext (.ref it)) Q E s := by
  obtain ⟨hh, o1, vs1, h1, d1, c1⟩ := hot
  obtain ⟨o, ho, hc, hd⟩ := id hit
  obtain ⟨ol, hol, _, nl, hdl⟩ := hl
  unfold pyNext
  refine wpAny_bind (wpAny_attempt (wpAny_callSpecial?_slot (name := Str.ofString "__next__") hit.typeIs slot_listiter_next
    (wpAny_call_entry slot_listiter_next hit.typeIs entry_listiter_next ?_ (args_listiter_next _))))
  show wpAny _ _ (field (.ref it) 0 >>= _) _ _ s
  refine wpAny_bind (wpAny_field ho hd (x := .ref l) rfl ?_)
  show wpAny _ _ (if (Value.ref l == Value.none) = true then _ else _) _ _ s
  rw [if_neg (show ¬ ((Value.ref l == Value.none) = true) from Bool.false_ne_true)]
  show wpAny _ _ (field (.ref it) 1 >>= _) _ _ s
  refine wpAny_bind (wpAny_field ho hd (x := .int i 0) rfl ?_)
  show wpAny _ _ (seqItems? (.ref l) >>= _) _ _ s
  refine wpAny_bind (wpAny_seqItems hol hdl ?_)
  simp only [Int.toNat_natCast, hx]
  refine wpAny_bind (wpAny_rule (wpAny_bind (wpAny_setField ho hd (by simp) ?_)))
  show wpAny _ _ (newExc (.type "StopIteration") [] >>= _) _ _ _
  refine wpAny_bind ?_
  simp only [newExc, newTuple]
  refine wpAny_bind (wpAny_newObj_type ?_ (by size_fits))
  refine wpAny_bind (m := firstArgMember _ _) (wpAny_of_eq (a := Value.none) (by first | rfl | (simp only [firstArgMember]; rfl)) ?_)
  refine wpAny_newObj_type ?_ (by size_fits)
  have up : ∀ {b o'}, b ≠ it → s.heap.get? b = some o' → (s.heap.update it (Obj.mapFields (·.setIfInBounds 0 .none))).get? b = some o' := fun {b o'} hb e => by
    rw [Heap.get?_update_other _ _ (Ne.symm hb)]; exact e
  refine raiseNew_hot ⟨hh, o1, vs1, Heap.get?_push_of_some _ (Heap.get?_push_of_some _ (up nx h1)), d1, c1⟩ (Nat.ne_of_lt (Heap.lt_size (Heap.get?_push_of_some _ (up nx h1)))) (Heap.get?_push_size _ rfl) rfl (by first | (simp; done) | (simp; omega)) ?_
  refine wpAny_bind (wpAny_isInstance (T := "StopIteration") (b := true) ⟨_, Heap.get?_update_self _ (Heap.get?_push_size _ rfl) rfl, rfl⟩ isSubtype_stop ?_)
  refine wpAny_pure (hQ _ fun b o' hb e => ?_)
  rw [Heap.get?_update_other _ _ (Nat.ne_of_gt (Heap.lt_size (Heap.get?_push_of_some _ (up hb e))))]
  exact Heap.get?_push_of_some _ (Heap.get?_push_of_some _ (up hb e))
end
section
variable {X : Cx}
/-- where an exception is handled: a comprehension over a list -/
theorem pe_lcH {l elt tg : Expr} {ifs : List Expr} {scope : Scope} {own : List (Str × Nat)} {pos : Pos} {tl : TE} {g : TG} {tt : TT} {te : TE} (hot : L2H.HotC X) (hN : X.N.Nodup) (hl : PE X l tl) (ok : BlkOk X.N X.env.scope scope own)
    (hg : ∀ (s : Shared) (H : Hp) (C : Addr) (cl : List (Str × Addr)) (fp : List Addr), PG (X.blk s H scope (compEnvC scope cl C X.env) fp) tg g)
    (ht : ∀ (s : Shared) (H : Hp) (C : Addr) (cl : List (Str × Addr)) (fp : List Addr), PTs (X.blk s H scope (compEnvC scope cl C X.env) fp) ifs tt)
    (he : ∀ (s : Shared) (H : Hp) (C : Addr) (cl : List (Str × Addr)) (fp : List Addr), PE (X.blk s H scope (compEnvC scope cl C X.env) fp) elt te)
    (hs : ∀ x, foldedSetIterable l X.env x = pure x := by intro _; rfl) :
    PE X (.ListComp elt [⟨tg, l, ifs, 0⟩] scope pos) (tLc (iList X.K tl) g tt te (own.map (·.2))) := by
  refine ⟨fun pins s σ H Q I h => ?_⟩
  rw [eval_ListComp]
  have hfree : ∀ y ∈ scope.names, y.2 = .free → ∃ c, X.env.cells.lookup y.1 = some c := fun y hy e => (ok.free y hy e).elim (fun k => I.ok.has _ (.inl k)) fun k => I.ok.has _ (.inr k)
  refine wpAny_comprehension_free (use := none) rfl hs (closure_ok hfree) ok.kind (fun y hy e => by rw [ok.uniq y hy, e])
    (thn (hl.run pins s σ H _ I h) fun xv s1 hx => ?_)
  obtain ⟨v, H2, I1, r1, a, ea, ⟨xs, hq⟩, q⟩ := hx
  subst ea
  cases r1
  obtain ⟨its, rv, p, hz⟩ := I1.list hq
  refine wpAny_pyIter_list p.isList ?_
  generalize hit : s1.heap.objs.size = it
  generalize hs2 : ({ s1 with heap := s1.heap.push { cls := .type "list_iterator", data := .fields #[.ref a, .int 0 0] } } : Shared) = s2
  have I2 : Inv X pins σ H2 s2 := by
    rw [← hs2]
    exact I1.kept (t' := s1.toks) fun b o e => Heap.get?_push_of_some _ e
  have st2 : s2.heap.IsListIter it a 0 := by
    rw [← hs2, ← hit]
    exact ⟨_, Heap.get?_push_size _ rfl, rfl, rfl⟩
  have f2 : FpOk X pins H2 it := I1.fpOk (Nat.le_of_eq hit) (I1.hok.fresh (Nat.le_of_eq hit))
  refine wpAny_newObj_type (newEnv_comp ?_) (by show 0 ≤ sizeLine; decide)
  generalize hD : s2.heap.objs.size = D
  have hDn : H2 D = none := I2.hok.fresh (Nat.le_of_eq hD)
  obtain ⟨W, ⟨m0, w0⟩, turn⟩ := q D hDn
  generalize hs3 : ({ s2 with heap := s2.heap.push { cls := .type "list", data := .seq ([] : List Value).toArray } } : Shared) = s3
  have I3 : Inv X pins σ (upd H2 D (.lst [])) s3 := by
    rw [← hs3]
    refine I2.laid (t' := s2.toks) (fun b o e => Heap.get?_push_of_some _ e) (Nat.le_of_eq hD) ⟨Nat.zero_le _, [], 0, .nil, ?_⟩
    rw [← hD]
    exact Heap.get?_push_size _ rfl
  have h3 : s3.heap = s2.heap.push { cls := .type "list", data := .seq ([] : List Value).toArray } := by rw [← hs3]
  have lt2 : it < s2.heap.objs.size := by
    obtain ⟨o, e, _⟩ := id st2
    exact Heap.lt_size e
  have nD : it ≠ D := by rw [← hD]; exact Nat.ne_of_lt lt2
  have f3 : ∀ b ∈ [it], FpOk X pins (upd H2 D (.lst [])) b ∧ b < s3.heap.objs.size := fun b hb => by
    have e : b = it := by simpa using hb
    subst e
    exact ⟨⟨by rw [upd_ne nD]; exact f2.1, f2.2⟩, by rw [h3, Heap.size_push]; exact Nat.lt_succ_of_lt lt2⟩
  have st3 : s3.heap.IsListIter it a 0 := by
    obtain ⟨o, e, c, d⟩ := id st2
    exact ⟨o, by rw [h3]; exact Heap.get?_push_of_some _ e, c, d⟩
  -- the handled exception stands, out of reach of the block
  obtain ⟨pe0, ⟨hh, v1, e1, c1⟩, hp0⟩ := hot
  obtain ⟨g0, n0, nl0, nf0, nc0⟩ := I3.pin pe0 (List.mem_append_left _ hp0)
  have ns0 : pe0.1 ∉ frs X.stack := fun z => (List.mem_cons.mp (I3.stkSub pe0.1 z)).elim nl0 nf0
  have ni0 : pe0.1 ≠ it := (f3 it (by simp)).1.2.2.2.2.2 pe0 (List.mem_append_left _ hp0)
  have I4 := block_start I3 ok hN f3
  have pg := hg s3 (upd H2 D (.lst [])) s3.heap.objs.size (cellsFrom (s3.heap.objs.size + 1) scope.names (cloFrom X.env.cells scope.names [])) [it]
  have pt := ht s3 (upd H2 D (.lst [])) s3.heap.objs.size (cellsFrom (s3.heap.objs.size + 1) scope.names (cloFrom X.env.cells scope.names [])) [it]
  have pe := he s3 (upd H2 D (.lst [])) s3.heap.objs.size (cellsFrom (s3.heap.objs.size + 1) scope.names (cloFrom X.env.cells scope.names [])) [it]
  show codeAny _ _ (.compStart (.ListComp elt [⟨tg, l, ifs, 0⟩] scope pos) 0 (.ref it) (.ref D) (compEnvC scope (cellsFrom (s3.heap.objs.size + 1) scope.names (cloFrom X.env.cells scope.names [])) s3.heap.objs.size X.env)) (compPost (model X.prog X.w) X.A X.xe none (EP X pins σ Q) (.ref D) s3.heap.objs.size) { s3 with heap := pushCells (s3.heap.push { cls := .type "dict", data := .dict #[] }) scope.names }
  generalize hce : compEnvC scope (cellsFrom (s3.heap.objs.size + 1) scope.names (cloFrom X.env.cells scope.names [])) s3.heap.objs.size X.env = ce at I4 pg pt pe ⊢
  have cL : ce.locals = s3.heap.objs.size := by subst hce; rfl
  have n3 : (upd H2 D (.lst [])) it = none := (f3 it (by simp)).1.1
  generalize hH3 : upd H2 D (.lst []) = H3 at I3 I4 pg pt pe w0 n3 f3 n0
  generalize hs4 : ({ s3 with heap := pushCells (s3.heap.push { cls := .type "dict", data := .dict #[] }) scope.names } : Shared) = s4 at I4 ⊢
  have st4 : s4.heap.IsListIter it a 0 := by
    obtain ⟨o, e, c, d⟩ := id st3
    exact ⟨o, by rw [← hs4]; exact pushCells_keeps _ _ _ _ (Heap.get?_push_of_some _ e), c, d⟩
  have stat : ∀ {σ' : L2.St} {H' : Hp} {s' : Shared}, Inv (X.blk s3 H3 scope ce [it]) [] σ' H' s' → H' it = none → FpOk (X.blk s3 H3 scope ce [it]) [] H' it := fun {_ H' s'} I' hn =>
    ⟨hn, (I'.ok.exf it (by simp)).1, I'.ok.exfs it (by simp), .inl (by simp), fun x c e => (I'.ok.exf it (by simp)).2 x c e, fun p hp => absurd (show p ∈ ([] : List (Addr × Obj)) ++ [] from hp) (by simp)⟩
  have loop : codeAny (model X.prog X.w) X.A (.compLoop (.ListComp elt [⟨tg, l, ifs, 0⟩] scope pos) 0 (.ref it) (.ref D) ce) (compPost (model X.prog X.w) X.A X.xe none (EP X pins σ Q) (.ref D) s3.heap.objs.size) s4 := by
    refine compLoop_any (fun n s' => ∃ i H', Inv (X.blk s3 H3 scope ce [it]) [] (wipe σ (own.map (·.2))) H' s' ∧ s'.heap.IsListIter it a i ∧ H' it = none ∧ W i n H') ?_ m0 ⟨0, H3, I4, st4, n3, w0⟩
    rintro n s5 ⟨i, H5, I5, st5, n5, w5⟩
    have F5 := stat I5 n5
    obtain ⟨q0, q1, q2, q3, q4, q5⟩ := id F5
    rcases turn i n H5 w5 with ⟨stop, qq⟩ | ⟨go, Nx, hNx, step⟩
    · obtain ⟨ys, hys, hle⟩ := stop
      obtain ⟨jts, rvj, pj, _⟩ := I5.list hys
      have hotAt : HotAt X.A pe0.1 s5.heap := ⟨hh, pe0.2, v1, I5.base.keep pe0.1 pe0.2 g0 n0 ns0 (by simpa using ni0), e1, c1⟩
      refine list_ends_hot hotAt st5 pj.isList (by have := rvj.length; simp; omega) ni0 fun h' keep => ?_
      have I6 : Inv (X.blk s3 H3 scope ce [it]) [] (wipe σ (own.map (·.2))) H5 { s5 with heap := h' } := I5.turned (t' := s5.toks) keep q0 q1 q3 q4 q5
      have I7 : Inv X pins σ H5 { s5 with heap := h' } := I3.call' (ch := [it]) I6.os I6.base I6.hok I6.bare fun b hb => ⟨(f3 b hb).1.2.2.2.1, (f3 b hb).1.2.1, (f3 b hb).1.2.2.2.2.1, (f3 b hb).1.2.2.2.2.2⟩
      have nC : H5 s3.heap.objs.size = none := by
        have z : H5 ce.locals = none := I6.free
        rwa [cL] at z
      obtain ⟨m, hn, _⟩ := I6.loc
      have hn : h'.Ns ce.locals m := hn
      rw [cL] at hn
      refine ⟨m, hn, fun h'' sb => ?_⟩
      obtain ⟨f0, f1, f2, f3, f4, f5⟩ := I3.fpOk (Nat.le_refl _) nC
      exact ⟨.ref D, H5, I7.turned (t' := s5.toks) (fun b o hb e => (sb.2 b hb).trans e) f0 f1 f3 f4 f5, rfl, qq⟩
    · obtain ⟨ys, x, hys, hx⟩ := go
      obtain ⟨jts, rvj, pj, _⟩ := I5.list hys
      obtain ⟨u, hu, ru⟩ := rvj.get hx
      refine wpAny_pyNext_list_item st5 pj.isList (x := u) (by simpa using hu) fun h' st' sb => ?_
      have I6 : Inv (X.blk s3 H3 scope ce [it]) [] (wipe σ (own.map (·.2))) H5 { s5 with heap := h' } := I5.turned (t' := s5.toks) (fun b o hb e => (sb.2 b hb).trans e) q0 q1 q3 q4 q5
      obtain ⟨oi, ei, ci, di⟩ := id st'
      refine go_of (s := { s5 with heap := h' }) ei ci di (by decide) ?_
      have I7 := I6.pinned (fp := [it]) (fun b hb => by have e : b = it := by simpa using hb
                                                        subst e; exact stat I6 n5) (fun b hb => by
        have e : b = it := by simpa using hb
        subst e
        exact ⟨oi, ei, fun v z => by rw [di] at z; cases z⟩)
      refine thnF (pg.run _ { s5 with heap := h' } _ H5 x u _ I7 ru (step x H5 ⟨rfl, fun zs hzs => by rw [I5.list_inj hzs hys]; exact hx⟩)) fun _ s8 ⟨σ8, H8, I8, hw8, q8⟩ => ?_
      refine thnF (pt.run _ s8 σ8 H8 _ I8 q8) fun b s9 ⟨H9, I9, q9⟩ => ?_
      have fin : ∀ {s' : Shared} {H' : Hp}, Inv (X.blk s3 H3 scope ce [it]) ([] ++ pinsAt [it] h') σ8 H' s' → Nx H' → ∃ m, m < n ∧ ∃ i H', Inv (X.blk s3 H3 scope ce [it]) [] (wipe σ (own.map (·.2))) H' s' ∧ s'.heap.IsListIter it a i ∧ H' it = none ∧ W i m H' := fun {s' H'} I' nx => by
        obtain ⟨m', hm, w'⟩ := hNx H' nx
        have z := I'.pin (it, oi) (List.mem_append_right _ (List.mem_append_right _ (mem_pinsAt (by simp) ei)))
        have hlen : (wipe σ (own.map (·.2))).length = σ8.length := by rw [← hw8, wipe_length]
        refine ⟨m', hm, i + 1, H', (I'.unpinned (pins := [])).weak hlen (fun j v e => ?_), ⟨oi, z.1, ci, di⟩, z.2.1, w'⟩
        rw [← hw8] at e
        exact (wipe_some e).1
      cases b with
      | false =>
        simp only [Bool.false_eq_true, if_false] at q9 ⊢
        exact fin I9 q9
      | true =>
        simp only [if_true] at q9 ⊢
        refine thnF (pe.run _ s9 σ8 H9 _ I9 q9) fun z s10 ⟨yv, H10, I10, r10, acc, hD10, hz10, nx⟩ => ?_
        exact app_ok (X := X.blk s3 H3 scope ce [it]) I10 hD10 hz10 r10 fun s11 I11 => fin I11 nx
  refine codeAny_compStart_list loop ?_
  exact (turn_list (P := X.prog) (w := X.w) (K := X.K) (tg := tg) a it).self X.A 0 _ _ _ st4 loop
end
/-! ### calls whose exceptions are wished for at the caller's slots; methods, makers -/
section
variable {X : Cx} {CX : CXT} {k : Nat} {f C : Addr} {fd : FuncData} {ps : List Str} {sp : Sp} {E : L2.St → XK} {x m : Str} {p pos apos : Pos} {e o : Expr} {es : List Expr} {ta : TE} {t : TA}
/-- what lets nothing out -/
theorem at0 {σ : L2.St} {E' : XK} : PassesAt CX0 X σ E' := fun _ _ _ _ _ _ h => h.elim
/-- no wish at all: the callee raises nothing there -/
theorem atN {σ : L2.St} : PassesAt (L2N.CX X.prog X.w) X σ (fun _ _ _ => False) := fun _ _ _ _ _ _ h => by
  obtain ⟨_, _, _, _, _, _, _, _, _, _, _, _, z⟩ := h
  exact z.elim
theorem runE {pins : List (Addr × Obj)} {σ : L2.St} {H : Hp} {s : Shared} {Q : VK} {us : List Value} {vs : List V} (F : FnOk X.prog X.w X.K X.mg X.base CX k f fd ps sp) (hr : Room k X.A) (hb : Binds X.K fd ps []) (hx : PassesAt CX X σ (E σ))
    (I : Inv X pins σ H s) (r : Vals vs us) (h : sp vs H Q (E σ)) : wpAny (model X.prog X.w) X.A (call (.ref f) us) (EP X pins σ Q) X.xe s := run_fnS F hr hb hx I r h
theorem c_call (F : FnOk X.prog X.w X.K X.mg X.base CX k f fd ps sp) (hr : Room k X.A) (hm : X.mg x = some (.ref f)) (hk : PySem.W.keepIn X.K (.ref f) = true) (hb : Binds X.K fd ps []) (hx : ∀ σ, PassesAt CX X σ (E σ))
    (ha : PA X (e :: es) t) (hg : Gl X x := by rfl) (hdb : (x == ("__debug__" : Str)) = false := by decide) (he : starEach (e :: es) X.env = (false, eval e X.env) :: starEach es X.env := by rfl) (hpl : (backTo pos (starEach es X.env)).any (·.1) = false := by rfl) :
    PE X (.Call (.Name x p) (e :: es) [] pos) (tCallS sp E t) := pe_callS F hr hg hm hk hb hx ha hdb he hpl
/-- o.m(..), of an instance -/
def tMethE (C : Addr) (m : Str) (sp : Sp) (E : L2.St → XK) (ta : TE) (t : TA) : TE := fun σ H Q => ta σ H fun x H1 => ∃ a dx fs, x = .ref a ∧ H1 a = some (.ins C dx fs) ∧ fs.lookup m = none ∧
  t σ H1 fun vs H2 => sp (x :: vs) H2 Q (E σ)
theorem c_meth {pl : Sem Bool} (he : PE X o ta) (c : Cls X.K C) (hm : Meth X.K C m f) (F : FnOk X.prog X.w X.K X.mg X.base CX k f fd ps sp) (hr : Room k X.A) (hb : Binds X.K fd ps []) (hx : ∀ σ, PassesAt CX X σ (E σ)) (ha : PA X (e :: es) t)
    (hst : starEach (e :: es) X.env = (false, eval e X.env) :: starEach es X.env := by rfl) (hpl : (backTo pos (starEach es X.env)).any (·.1) = false := by rfl)
    (ht : eval (.Call (.Attribute o m apos) (e :: es) [] pos) X.env = (do
      let ov ← eval o X.env
      standAt apos.atName
      let (f, first) ← holding [ov] (getMethod ov m pl)
      callWith pos f first (backTo pos (starEach (e :: es) X.env)) (backToKw pos (keywordEach [] X.env))) := by rfl) :
    PE X (.Call (.Attribute o m apos) (e :: es) [] pos) (tMethE C m sp E ta t) := by
  refine ⟨fun pins s σ H Q I h => PySem.W.methodCall_KW (pl := pl) (thn (he.run pins s σ H _ I h) fun u s1 hh => ?_) ht⟩
  obtain ⟨x, H1, I1, rx, a, dx, fs, ex, ea, l, q⟩ := hh
  subst ex
  obtain rfl : u = Value.ref a := rx
  refine getmeth_ok I1 ea c hm l (PySem.W.callWith_K (first := [.ref a]) (h₀ := X.base) I.ok.mod.kin hm.kp (thn (ha.run pos pins s1 σ H1 _ I1 q) fun us s2 hh => ?_) hst hpl)
  obtain ⟨vs, H2, I2, r, q2⟩ := hh
  exact ⟨I2.kIn, runE (us := .ref a :: us) (vs := .ref a :: vs) F hr hb (hx σ) I2 (.cons rfl r) q2⟩
theorem c_meth0 {pl : Sem Bool} (he : PE X o ta) (c : Cls X.K C) (hm : Meth X.K C m f) (F : FnOk X.prog X.w X.K X.mg X.base CX k f fd ps sp) (hr : Room k X.A) (hb : Binds X.K fd ps []) (hx : ∀ σ, PassesAt CX X σ (E σ))
    (ht : eval (.Call (.Attribute o m apos) [] [] pos) X.env = (do
      let ov ← eval o X.env
      standAt apos.atName
      let (f, first) ← holding [ov] (getMethod ov m pl)
      callWith pos f first (backTo pos (starEach [] X.env)) (backToKw pos (keywordEach [] X.env))) := by rfl) :
    PE X (.Call (.Attribute o m apos) [] [] pos) (tMethE C m sp E ta tNil) := by
  refine ⟨fun pins s σ H Q I h => PySem.W.methodCall_KW (pl := pl) (thn (he.run pins s σ H _ I h) fun u s1 hh => ?_) ht⟩
  obtain ⟨x, H1, I1, rx, a, dx, fs, ex, ea, l, q⟩ := hh
  subst ex
  obtain rfl : u = Value.ref a := rx
  exact getmeth_ok I1 ea c hm l (PySem.W.callWith_K0 (first := [.ref a]) I1.kIn hm.kp (runE (us := [.ref a]) (vs := [.ref a]) F hr hb (hx σ) I1 (.cons rfl .nil) q))
/-- C(..) -/
def tMakeE (C : Addr) (sp : Sp) (E : L2.St → XK) (t : TA) : TE := fun σ H Q => t σ H fun vs H1 => ∀ x dx, H1 x = none → H1 dx = none → dx ≠ x →
  sp (.ref x :: vs) (upd (upd H1 dx (.own x)) x (.ins C dx [])) (fun v H2 => v = .non ∧ Q (.ref x) H2) (E σ)
theorem run_makeE {pins : List (Addr × Obj)} {σ : L2.St} {H : Hp} {s : Shared} {Q : VK} {us : List Value} {vs : List V} (M : Mk X.K C f) (F : FnOk X.prog X.w X.K X.mg X.base CX k f fd ps sp) (hr : Room (k + 1) X.A) (hb : Binds X.K fd ps [])
    (hx : PassesAt CX X σ (E σ)) (I : Inv X pins σ H s) (r : Vals vs us)
    (h : ∀ x dx, H x = none → H dx = none → dx ≠ x → sp (.ref x :: vs) (upd (upd H dx (.own x)) x (.ins C dx [])) (fun v H2 => v = .non ∧ Q (.ref x) H2) (E σ)) :
    wpAny (model X.prog X.w) X.A (call (.ref C) us) (EP X pins σ Q) X.xe s := by
  have hq := h (s.heap.objs.size + 1) s.heap.objs.size (I.hok.fresh (Nat.le_succ _)) (I.hok.fresh (Nat.le_refl _)) (Nat.ne_of_lt (Nat.lt_succ_self _))
  have I2 := Inv.made (C := C) I
  have r2 : Vals (V.ref (s.heap.objs.size + 1) :: vs) (Value.ref (s.heap.objs.size + 1) :: us) := .cons rfl r
  have hl : (Value.ref (s.heap.objs.size + 1) :: us ++ []).length = ps.length := by
    rw [List.append_nil, ← r2.length, F.len _ _ _ _ hq]
  have hb2 := hb _ (Value.ref (s.heap.objs.size + 1) :: us) I2.kIn hl
  rw [List.append_nil] at hb2
  refine wpAny_call (make_map (f := f) I.kIn M.makes M.init (beq_iff_eq.mp M.fn) (codeAny_mono (F.run _ X.stack _ _ ⟨Value.ref (s.heap.objs.size + 1) :: us, []⟩ (Value.ref (s.heap.objs.size + 1) :: us) _ _ (E σ) (hr.make C us [])
    (I2.env0.make C us []) hb2 r2 hq) fun r s' hq' => ?_))
  match r, hq' with
  | .error e, hq' => exact hx pins _ _ e s' I2 hq'
  | .ok (.ret u), hq' =>
    obtain ⟨v, H', I3, rv, ev, q3⟩ := I2.after hq'
    subst ev
    exact ⟨rv, ⟨V.ref (s.heap.objs.size + 1), H', I3, rfl, q3⟩⟩
  | .ok .next, hq' => exact False.elim hq'
  | .ok .brk, hq' => exact False.elim hq'
  | .ok .cont, hq' => exact False.elim hq'
theorem c_make (M : Mk X.K C f) (F : FnOk X.prog X.w X.K X.mg X.base CX k f fd ps sp) (hr : Room (k + 1) X.A) (hm : X.mg x = some (.ref C)) (hb : Binds X.K fd ps []) (hx : ∀ σ, PassesAt CX X σ (E σ))
    (ha : PA X (e :: es) t) (hg : Gl X x := by rfl) (hdb : (x == ("__debug__" : Str)) = false := by decide) (he : starEach (e :: es) X.env = (false, eval e X.env) :: starEach es X.env := by rfl) (hpl : (backTo pos (starEach es X.env)).any (·.1) = false := by rfl) :
    PE X (.Call (.Name x p) (e :: es) [] pos) (tMakeE C sp E t) := by
  refine ⟨fun pins s σ H Q I h => wpAny_Call_Name_kw (ld_glob I hg hm ?_ hdb)⟩
  refine PySem.W.callWith_K (h₀ := X.base) I.ok.mod.kin M.kp (thn (ha.run pos pins s σ H _ I h) fun us s1 ⟨vs, H1, I1, r, q⟩ => ⟨I1.kIn, ?_⟩) he hpl
  exact run_makeE M F hr hb (hx σ) I1 r q
theorem c_make0 (M : Mk X.K C f) (F : FnOk X.prog X.w X.K X.mg X.base CX k f fd ps sp) (hr : Room (k + 1) X.A) (hm : X.mg x = some (.ref C)) (hb : Binds X.K fd ps []) (hx : ∀ σ, PassesAt CX X σ (E σ))
    (hg : Gl X x := by rfl) (hdb : (x == ("__debug__" : Str)) = false := by decide) : PE X (.Call (.Name x p) [] [] pos) (tMakeE C sp E tNil) := by
  refine ⟨fun pins s σ H Q I h => wpAny_Call_Name_kw (ld_glob I hg hm ?_ hdb)⟩
  exact PySem.W.callWith_K0 I.kIn M.kp (run_makeE (us := []) M F hr hb (hx σ) I .nil h)
end
/-- a def that may raise, raised where nothing is handled -/
theorem okN {P : Program} {w : World} {K : PySem.W.Frag} {mg : Str → Option Value} {base : Heap} {x qual : Str} {st : Stmt} {f : Addr} {fd : FuncData} {N ps : List Str} {k : Nat} {sp : Sp} (F : Fun K x qual st f fd) (S : FnScope N ps (defScope st)) (len : ∀ vs H Q E, sp vs H Q E → vs.length = ps.length)
    (hbody : ∀ (cdv : Value) (A : Around) (outer : List Env) (s : Shared) (H : Hp) (vs : List V) (Q : VK) (E : XK), Room k (A.deeper (envOfC qual (defScope st) s.heap.objs.size f cdv)) → sp vs H Q E →
      ∃ t, PSs (cxOf (L2N.CX P w) P w K mg base N qual (defScope st) f cdv A outer s H E) (defBody st) t ∧ t { nx := fun _ H' => Q .non H', rt := Q } (start N vs) H) : FnOk P w K mg base (L2N.CX P w) (k + 1) f fd ps sp := by
  obtain ⟨oc, od, kV, doc, pm, an, cdv, ct, osl, rfl, lk, hcd⟩ := F.ex
  exact fn_of lk hcd S len fun A outer s H vs Q E hr hsp => hbody cdv A outer s H vs Q E hr hsp
/-! ### a def called in an except suite with the exception that is handled -/
/-- what is told of the exception: where it stands, its class, its own dict -/
abbrev SpE := Addr → Value → Option Addr → Sp
structure FnE (P : Program) (w : World) (K : PySem.W.Frag) (mg : Str → Option Value) (base : Heap) (k : Nat) (f : Addr) (fd : FuncData) (ps : List Str) (sp : SpE) : Prop where
  len : ∀ a c d vs H Q E, sp a c d vs H Q E → vs.length = ps.length
  run : ∀ (A : Around) (outer : List Env) (s : Shared) (H : Hp) (args : Args) (us : List Value) (vs : List V) (Q : VK) (E : XK) (p : Addr × Obj) (c : Value) (d : Option Addr), L2H.RoomH k A → L2H.Hot1 A p → Zc c d p.2 → L2H.PinOk outer H s p → Env0 P w K mg base A outer s H → BindsTo s fd args (ps.zip us) → Vals vs us → sp p.1 c d vs H Q E →
    codeAny (model P w) A (.call (.ref f) args) (CR CX0 outer P w H s Q E) s
theorem fnE_of {P : Program} {w : World} {K : PySem.W.Frag} {mg : Str → Option Value} {base : Heap} {x qual : Str} {st : Stmt} {f : Addr} {fd : FuncData} {N ps : List Str} {k : Nat} {sp : SpE} (F : Fun K x qual st f fd) (S : FnScope N ps (defScope st))
    (len : ∀ a c d vs H Q E, sp a c d vs H Q E → vs.length = ps.length)
    (hbody : ∀ (cdv : Value) (A : Around) (outer : List Env) (s : Shared) (H : Hp) (vs : List V) (Q : VK) (E : XK) (p : Addr × Obj) (c : Value) (d : Option Addr), L2H.Hot1 (A.deeper (envOfC qual (defScope st) s.heap.objs.size f cdv)) p → Zc c d p.2 → L2H.RoomH k (A.deeper (envOfC qual (defScope st) s.heap.objs.size f cdv)) → sp p.1 c d vs H Q E →
      ∃ t, PSs (L2H.cxH CX0 P w K mg base N qual (defScope st) f cdv A outer s H E p) (defBody st) t ∧ t { nx := fun _ H' => Q .non H', rt := Q } (L2.start N vs) H) :
    FnE P w K mg base (k + 1) f fd ps sp := by
  obtain ⟨oc, od, kV, doc, pm, an, cdv, ct, osl, rfl, lk, hcd⟩ := F.ex
  refine ⟨len, fun A outer s H args us vs Q E p c d hr hot hz hpin e0 hb r hsp => ?_⟩
  have hl := len _ _ _ _ _ _ _ hsp
  have KX : K.In s.heap := e0.mod.kin.keeps fun b o e => (e0.bs b o e).1
  have lim : s.heap.NoLimit := e0.mod.nolimit.keeps fun b o e => (e0.bs b o e).1
  have hkind : ∀ y ∈ ps.zip us, (defScope st).names.lookup y.1 = some .local ∨ ((defScope st).names.lookup y.1 = some .cell ∧ ((cellsFrom (s.heap.objs.size + 1) (defScope st).names []).lookup y.1).isSome = true) := fun ⟨n, v⟩ hy =>
    (S.par n (List.of_mem_zip hy).1).elim .inl fun q => .inr ⟨q, PySem.W.cellsFrom_some _ _ _ (.inl q)⟩
  refine codeAny_call_function hr.depth (KX _ _ lk) rfl S.co S.gen rfl (PySem.W.codeRec_of KX hcd) (hb _ _ _ _ (wpAny_newFunctionEnv_cells S.kind hkind fun env he s1 x => ?_))
  subst he
  refine ⟨lim.keeps x.toInCall.keep, codeAny_func ?_⟩
  obtain ⟨t, ht, hq⟩ := hbody cdv A outer s H vs Q E p c d hot hz (hr.deeper _) hsp
  have I : Inv (L2H.cxH CX0 P w K mg base N qual (defScope st) f cdv A outer s H E p) [] (L2.start N vs) H s1 := L2H.inv_startH S hpin e0 hl r x
  refine wpAny_mono (ht.run [] s1 (L2.start N vs) H _ I hq) (fun fl s' hs => ?_) fun e s' hs => hs
  match fl, hs with
  | .ret u, ⟨v, σ', H', J, rv, q⟩ => exact ⟨v, H', J.os, J.bare, J.base, J.hok, rv, q⟩
  | .next, ⟨σ', H', J, q⟩ => exact ⟨V.non, H', J.os, J.bare, J.base, J.hok, rfl, q⟩
  | .brk, ⟨_, _, _, q⟩ => exact False.elim q
  | .cont, ⟨_, _, _, q⟩ => exact False.elim q
section
variable {X : Cx} {k : Nat} {f : Addr} {fd : FuncData} {ps : List Str} {sp : SpE} {x : Str} {q pos : Pos} {e : Expr} {es : List Expr} {t : TA}
def tCallE (sp : SpE) (a : Addr) (c : Value) (d : Option Addr) (t : TA) : TE := fun σ H Q => t σ H fun vs H1 => sp a c d vs H1 Q (fun _ _ _ => False)
theorem c_callE {a : Addr} {oe : Obj} {c : Value} {d : Option Addr} (F : FnE X.prog X.w X.K X.mg X.base k f fd ps sp) (hr : L2H.RoomH k X.A) (hh : X.A.handled = some (.ref a)) (hp : (a, oe) ∈ X.pn) (hz : L2N.Zn c d oe) (hf : ∃ vs, oe.data = .fields vs)
    (hm : X.mg x = some (.ref f)) (hk : PySem.W.keepIn X.K (.ref f) = true) (hb : Binds X.K fd ps [])
    (ha : PA X (e :: es) t) (hg : Gl X x := by rfl) (hdb : (x == ("__debug__" : Str)) = false := by decide) (he : starEach (e :: es) X.env = (false, eval e X.env) :: starEach es X.env := by rfl) (hpl : (backTo pos (starEach es X.env)).any (·.1) = false := by rfl) :
    PE X (.Call (.Name x q) (e :: es) [] pos) (tCallE sp a c d t) := by
  refine ⟨fun pins s σ H Q I h => wpAny_Call_Name_kw (ld_glob I hg hm ?_ hdb)⟩
  refine PySem.W.callWith_K (h₀ := X.base) I.ok.mod.kin hk (thn (ha.run pos pins s σ H _ I h) fun us s1 ⟨vs, H1, I1, r, q⟩ => ⟨I1.kIn, ?_⟩) he hpl
  obtain ⟨v1, hv1⟩ := hf
  have hot : L2H.Hot1 X.A (a, oe) := ⟨hh, v1, hv1, hz.2.2 v1 hv1⟩
  have hl : us.length = ps.length := by rw [← r.length]; exact F.len _ _ _ _ _ _ _ q
  have b := hb s1 us I1.kIn (by rw [List.append_nil]; exact hl)
  rw [List.append_nil] at b
  have P1 := I1.pin (a, oe) (List.mem_append_left _ hp)
  have hpin : L2H.PinOk X.stack H1 s1 (a, oe) := ⟨P1.1, P1.2.1, fun hm => (List.mem_cons.mp (I1.stkSub a hm)).elim P1.2.2.1 P1.2.2.2.1, P1.2.2.2.2⟩
  refine wpAny_call (codeAny_mono (F.run X.A X.stack s1 H1 ⟨us, []⟩ us vs Q (fun _ _ _ => False) (a, oe) c d hr hot hz.zc hpin I1.env0 b r q) fun r s' hq => ?_)
  match r, hq with
  | .error e, hq => exact False.elim hq
  | .ok (.ret u), hq => exact I1.after hq
  | .ok .next, hq => exact False.elim hq
  | .ok .brk, hq => exact False.elim hq
  | .ok .cont, hq => exact False.elim hq
/-- isinstance(e, c), e an exception that every state bears -/
theorem call_isP {a D : Addr} {oe : Obj} (C : ExcC X.K D) (hp : (a, oe) ∈ X.pn) (hz : Zc (.ref D) none oe) (hf : ∃ vs, oe.data = .fields vs) : CallR X (.builtin "isinstance") (rIsE X.K D a) := by
  intro pins s σ H xs us Q I r h
  obtain ⟨c, cv, b, rfl, hcv, e, q⟩ := h
  cases r with
  | cons rx rr =>
    cases rr with
    | cons rt rr =>
      cases rr
      cases rx
      have ec := hcv _ rt
      subst ec
      obtain ⟨hget, _⟩ := I.pin (a, oe) (List.mem_append.mpr (.inl hp))
      obtain ⟨vs, hv⟩ := hf
      have J : PySem.W.InstAt s.heap a oe D none := by
        obtain ⟨oc, od, oda, osl⟩ := oe
        obtain ⟨h1, h2⟩ := hz
        dsimp only at h1 h2 hv
        subst h1 h2 hv
        exact ⟨hget, rfl, rfl, trivial⟩
      exact PySem.W.kia_one (PySem.W.handS_kitx_exc C.hg C.hk C.hs C.hd C.ha C.hn C.ht C.hm) I.kIn J e (fun z => nomatch z) fun tk => ⟨.bl b, H, I.kept (t' := tk) fun _ _ z => z, rfl, q⟩
end
/-! ### list(reversed(xs)) -/
section
variable {prog : Program} {w : World} {A : Around} {E : Value → Shared → Prop} {s : Shared}
theorem call_list_rev {it l : Addr} {items : Array Value} {Q : Value → Shared → Prop} (hh : A.handled = none) (hit : s.heap.IsRevIter it l ((items.size : Int) - 1)) (hl : s.heap.IsList l items) (hne : l ≠ it) (hn : items.size ≤ sizeLine)
    (hQ : ∀ (h' : Heap) (tk : Nat) (acc : Array Value) (c : Nat), (∀ b o, b ≠ it → s.heap.get? b = some o → h'.get? b = some o) → h'.get? s.heap.objs.size = some { cls := .type "list", data := .seq acc c } →
      ItemsOf (fun i v => items[items.size - 1 - i]? = some v) acc items.size → Q (.ref s.heap.objs.size) { s with heap := h', toks := tk }) :
    wpAny (model prog w) A (call (.type "list") [.ref it]) Q E s := by
  refine callType_codes (Q₁ := fun obj s₁ => obj = .ref s.heap.objs.size ∧ s₁ = { s with heap := s.heap.push { cls := .type "list", data := .seq #[] } }) F.called_list (F.typeCall_list_1 _) F.entry_list_init
    (code_list_new _ ⟨rfl, rfl⟩) fun obj s₁ h₁ => ?_
  obtain ⟨rfl, rfl⟩ := h₁
  have hS : (s.heap.push { cls := .type "list", data := .seq #[] }).get? s.heap.objs.size = some { cls := .type "list", data := .seq #[] } := Heap.get?_push_size _ rfl
  refine ⟨⟨_, hS, rfl⟩, F.args_list_init_2 _ _, ?_⟩
  generalize hSe : s.heap.objs.size = S at hS ⊢
  obtain ⟨oi, hoi, _⟩ := id hit
  obtain ⟨ol, hol, _⟩ := id hl
  have hSi : S ≠ it := by rw [← hSe]; exact Nat.ne_of_gt (Heap.lt_size hoi)
  have hSl : S ≠ l := by rw [← hSe]; exact Nat.ne_of_gt (Heap.lt_size hol)
  have hSf : S ∉ [it, l] := by simp only [List.mem_cons, List.not_mem_nil, or_false, not_or]; exact ⟨hSi, hSl⟩
  show wpAny _ _ (do let old ← Builtin.List.listItems (.ref S); Builtin.List.listUpdate (.ref S) (fun _ => #[]); letGo old.toList.reverse; Builtin.List.listExtendWith (.ref S) (.ref it) .none) _ _ _
  refine wpAny_bind ?_
  unfold Builtin.List.listItems
  refine wpAny_bind (wpAny_seqItems hS rfl (wpAny_pure ?_))
  show wpAny _ _ (updateSeq S (fun _ => #[]) >>= fun _ => letGo (#[] : Array Value).toList.reverse >>= fun _ => Builtin.List.listExtendWith (.ref S) (.ref it) .none) _ _ _
  refine wpAny_bind (wpAny_updateSeq hS rfl ?_)
  have hS₂ := Heap.get?_update_self (Obj.mapSeq (fun _ => (#[] : Array Value))) hS rfl
  have oth : ∀ b o, b ≠ S → s.heap.get? b = some o → ((s.heap.push { cls := .type "list", data := .seq #[] }).update S (Obj.mapSeq (fun _ => (#[] : Array Value)))).get? b = some o :=
    fun b o hb e => (Heap.get?_update_other _ _ (Ne.symm hb)).trans (Heap.get?_push_of_some _ e)
  generalize hh2 : (s.heap.push { cls := .type "list", data := .seq #[] }).update S (Obj.mapSeq (fun _ => (#[] : Array Value))) = h2 at hS₂ oth ⊢
  refine wpAny_bind (wpAny_letGo ?_)
  have hit1 : h2.IsRevIter it l ((items.size : Int) - 1) := hit.at fun o e => oth it o (Ne.symm hSi) e
  have hl1 : h2.IsList l items := by
    obtain ⟨o, a, b, c, d⟩ := hl
    exact ⟨o, oth l o (Ne.symm hSl) a, b, c, d⟩
  have hT : ({ s with heap := h2 } : Shared).TypeIs (.ref it) "list_reverseiterator" := Heap.IsRevIter.typeIs (s := { s with heap := h2 }) hit1
  have h1 : Builtin.List.listSameRef (.ref S) (.ref it) = false := by simp [Builtin.List.listSameRef, hSi]
  have W := (Walks.listRev (prog := prog) (w := w) (A := A.in1.in1) hh it l hne items).toS
  unfold Builtin.List.listExtendWith
  refine wpAny_bind (wpAny_typeOf hT ?_)
  rw [if_neg (by rw [h1]; decide)]
  refine wpAny_bind (wpAny_pyIter_revIter (s := { s with heap := h2 }) hit1 ?_)
  refine wpAny_bind (wpAny_holding ?_)
  unfold Builtin.List.listLengthHint
  refine wpAny_bind (wpAny_specialOf hT RT.nolen_lri ?_)
  show wpAny _ _ (specialOf (Value.ref it) (Str.ofString "__length_hint__") >>= _) _ _ _
  refine wpAny_bind (wpAny_specialOf hT RT.hint_lri ?_)
  generalize hid : ("list_reverseiterator.__length_hint__" : String) = id0
  wp_delta
  rw [show splitId id0 = some ("list_reverseiterator", "__length_hint__") from by subst hid; decide +kernel]
  subst hid
  refine wpAny_bind (wpAny_isInstance (b := true) hT (by rw [isSubtype_type]; kernel_rfl) ?_)
  refine wpAny_pure ?_
  rw [if_neg (by decide)]
  have e0 : ((items.size : Nat) : Int) - 1 - ((0 : Nat) : Int) = (items.size : Int) - 1 := by omega
  refine wpAny_pure ⟨plainId_quiet F.plain_extend_loop _, codeAny_extend_loopS W hn _ hSf _ items.size 0 _ _ _ rfl (Nat.zero_le _) ⟨Nat.zero_le _, by rw [e0]; exact hit1, hl1⟩ hS₂ (ItemsOf.nil _) fun s' acc' c' hm hS' hacc => ?_⟩
  refine ⟨rfl, ?_⟩
  rw [Moved.eq_with hm]
  have goal := hQ s'.heap s'.toks acc' c' (fun b o hb e => hm.heap b o (fun hmem => ?_) (oth b o (by rw [← hSe]; exact Nat.ne_of_lt (Heap.lt_size e)) e)) (by rw [hSe]; exact hS') hacc
  · rw [hSe] at goal
    exact goal
  · rcases List.mem_cons.mp hmem with e' | hmem
    · exact absurd (Heap.lt_size e) (by rw [e', ← hSe]; exact Nat.lt_irrefl _)
    · exact hb (List.mem_singleton.mp hmem)
end
section
variable {X : Cx}
def tListRev (K : PySem.W.Frag) (te : TE) : TE := fun σ H Q => te σ H fun v H1 => ∃ (a : Addr) (xs : List V), v = .ref a ∧ SqL K H1 a xs ∧ ∀ q, H1 q = none → Q (.ref q) (upd H1 q (.lst xs.reverse))
theorem pe_listRev {e : Expr} {te : TE} {p p2 pos pos2 : Pos} (hc : X.calm = true) (hm : X.mg "list" = none) (hm2 : X.mg "reversed" = none) (he : PE X e te) (hg : Gl X "list" := by rfl) (hg2 : Gl X "reversed" := by rfl)
    (hs : starEach [e] X.env = (false, eval e X.env) :: starEach [] X.env := by rfl)
    (hs2 : starEach [.Call (.Name "reversed" p2) [e] [] pos2] X.env = (false, eval (.Call (.Name "reversed" p2) [e] [] pos2) X.env) :: starEach [] X.env := by rfl) :
    PE X (.Call (.Name "list" p) [.Call (.Name "reversed" p2) [e] [] pos2] [] pos) (tListRev X.K te) := by
  refine ⟨fun pins s σ H Q I h => ?_⟩
  refine Call_ (ld_blt I hg hm boot_list (PyProof.Rows.callWith_type1 (args_cons (Call_ (ld_blt I hg2 hm2 PyProof.Rows.boot_reversed (PyProof.Rows.callWith_type1 (args_cons (thn (he.run pins s σ H _ I h) fun u s1 hh => args_nil ?_) hs) hs rfl))) hs2) hs2 rfl))
  obtain ⟨v, H1, I1, r1, a, xs, ev, hq, q⟩ := hh
  subst ev
  obtain rfl : u = Value.ref a := r1
  obtain ⟨its, rv, p', hz⟩ := I1.list hq
  refine call_reversed_list p'.isList (args_nil ?_)
  have k0 : ∀ b o, s1.heap.get? b = some o → (s1.heap.push (revObj a ((its.toArray.size : Int) - 1))).get? b = some o := fun b o e => Heap.get?_push_of_some _ e
  have I2 : Inv X pins σ H1 { s1 with heap := s1.heap.push (revObj a ((its.toArray.size : Int) - 1)) } := I1.kept (t' := s1.toks) k0
  obtain ⟨f0, f1, f2, f3, f4, f5⟩ := I1.fpOk (H' := H1) (b := s1.heap.objs.size) (Nat.le_refl _) (I1.hok.fresh (Nat.le_refl _))
  have hl := p'.isList
  obtain ⟨ol, hol, _⟩ := id hl
  have hne : a ≠ s1.heap.objs.size := Nat.ne_of_lt (Heap.lt_size hol)
  have hn : its.toArray.size ≤ sizeLine := by rw [List.size_toArray, ← rv.length]; exact hz
  refine call_list_rev (s := { s1 with heap := s1.heap.push (revObj a ((its.toArray.size : Int) - 1)) }) (I1.ok.hd hc) ⟨_, Heap.get?_push_size _ rfl, rfl, rfl⟩ (hl.push _) hne hn fun h' tk acc c hk hS hi => ?_
  have hle : s1.heap.objs.size ≤ (s1.heap.push (revObj a ((its.toArray.size : Int) - 1))).objs.size := by rw [Heap.size_push]; exact Nat.le_succ _
  generalize hS1 : (s1.heap.push (revObj a ((its.toArray.size : Int) - 1))).objs.size = S at hS hle ⊢
  refine ⟨.ref S, upd H1 S (.lst xs.reverse), I1.laid (t' := tk) (h' := h') (fun b o e => hk b o (Nat.ne_of_lt (Heap.lt_size e)) (k0 b o e)) hle (show ObjOk X.prog X.w _ _ _ (.lst xs.reverse) from ⟨by rw [List.length_reverse]; exact hz, acc.toList, c, RT.vals_rev rv hi, ?_⟩), rfl, q _ (I1.hok.fresh hle)⟩
  rw [Array.toArray_toList]
  exact hS
end
/-! ### readings under names of their own -/
def rISub : R2 := rI0 fun i j => .int (i - j)
def rIMod : R2 := rI (fun _ j => 0 < j) fun i j => .int (i % j)
def rIDiv : R2 := rI CDiv fun i j => .int (i / j)
def rIPow : R2 := rI CPow fun i j => .int (i ^ j.toNat)
def rINeg : V → Hp → VK → Prop := rU fun i => .int (-i)
def rAbs : List V → Hp → VK → Prop := fun xs H Q => ∃ i, xs = [.int i] ∧ Q (.int (if i < 0 then -i else i)) H
def rMax2 : List V → Hp → VK → Prop := fun xs H Q => ∃ i j, xs = [.int i, .int j] ∧ Q (.int (if j > i then j else i)) H
def rMin2 : List V → Hp → VK → Prop := fun xs H Q => ∃ i j, xs = [.int i, .int j] ∧ Q (.int (if j < i then j else i)) H
def rInt : List V → Hp → VK → Prop := fun xs H Q => (∃ i, xs = [.int i] ∧ Q (.int i) H) ∨ ∃ k, xs = [.bl k] ∧ Q (.int (if k then 1 else 0)) H
def rTupleOf (K : PySem.W.Frag) : List V → Hp → VK → Prop := fun xs H Q => ∃ p ys, xs = [.ref p] ∧ ((SqL K H p ys ∧ ∀ l, H l = none → Q (.ref l) (upd H l (.tup ys))) ∨ (SqT K H p ys ∧ Q (.ref p) H))
def rListOf (K : PySem.W.Frag) : List V → Hp → VK → Prop := fun xs H Q => ∃ p ys, xs = [.ref p] ∧ (SqL K H p ys ∨ SqT K H p ys) ∧ ∀ l, H l = none → Q (.ref l) (upd H l (.lst ys))
def rInsert : V → List V → Hp → VK → Prop := fun x vs H Q => ∃ (l : Addr) (xs : List V) (i : Int) (y : V), x = .ref l ∧ vs = [.int i, y] ∧ H l = some (.lst xs) ∧ xs.length < sizeLine ∧ 0 ≤ i ∧ i < 2 ^ 63 ∧ Q .non (upd H l (.lst (xs.take i.toNat ++ [y] ++ xs.drop i.toNat)))
def uLen (K : PySem.W.Frag) : List V → Hp → VK → Prop := fun xs H Q => ∃ x n, xs = [x] ∧ LenV K x H n ∧ Q (.int n) H
def uAdd (K : PySem.W.Frag) : R2 := fun x y H Q => rI0 (fun i j => .int (i + j)) x y H Q ∨ (∃ i j, x = .str i ∧ y = .str j ∧ i.length + j.length ≤ sizeLine ∧ Q (.str (i ++ j)) H) ∨ rCat x y H Q ∨ rCatA K x y H Q
def uMul : R2 := fun x y H Q => rI CMul (fun i j => .int (i * j)) x y H Q ∨ rRep x y H Q
def uEq (K : PySem.W.Frag) : R2 := fun x y H Q => rEq x y H Q ∨ rEqD K x y H Q
def uNe (K : PySem.W.Frag) : R2 := fun x y H Q => rNe x y H Q ∨ rNeD K x y H Q
def uLt (_ : PySem.W.Frag) : R2 := rI0 fun i j => .bl (decide (i < j))
def uLe (_ : PySem.W.Frag) : R2 := rI0 fun i j => .bl (decide (i ≤ j))
def uGt (_ : PySem.W.Frag) : R2 := rI0 fun i j => .bl (decide (j < i))
def uGe (_ : PySem.W.Frag) : R2 := rI0 fun i j => .bl (decide (j ≤ i))
def uIs : R2 := fun x y H Q => y = .non ∧ Q (.bl (decide (x = .non))) H
def uIsNot : R2 := fun x y H Q => y = .non ∧ Q (.bl (!decide (x = .non))) H
def uIn (K : PySem.W.Frag) : R2 := fun x y H Q => rIn K false x y H Q ∨ rInD K x y H Q
def uNotIn (K : PySem.W.Frag) : R2 := fun x y H Q => rIn K true x y H Q ∨ rNotInD K x y H Q
def uSl (K : PySem.W.Frag) : V → Option Int → Option Int → Hp → VK → Prop := fun x lo hi H Q => rSlL K x lo hi H Q ∨ rSlA K x lo hi H Q
def tTru (K : PySem.W.Frag) (ta : TE) : TT := fun σ H Q => ta σ H fun x H' => ∃ k, TruV K x H' k ∧ Q k H'
def tRaiseN (W : WX) (C : Addr) : TS := fun _ σ H => W (.ref C) none σ H
def tTryAs (K : PySem.W.Frag) (c : Value) (i : Nat) (tb : WX → TS) (ts : Addr → Value → Option Addr → TS) (Wout : WX) : TS := fun D σ H => tb (wAs K c i ts Wout D) D σ H
section
variable {X : Cx}
theorem u_len : CallR X (.builtin "len") (uLen X.K) := call_len
theorem u_add : OpR X (binaryOp .Add) (uAdd X.K) := op_add.or (op_add_str.or (op_cat.or op_catA))
theorem u_mul : OpR X (binaryOp .Mult) uMul := op_mul.or op_rep
theorem u_eq {k : Nat} (hr : Room k X.A) : OpR X (compareOp .Eq) (uEq X.K) := op_eq.or (op_eqD hr.units)
theorem u_ne {k : Nat} (hr : Room k X.A) : OpR X (compareOp .NotEq) (uNe X.K) := op_ne.or (op_neD hr.units)
theorem u_lt : OpR X (compareOp .Lt) (uLt X.K) := op_lt
theorem u_le : OpR X (compareOp .LtE) (uLe X.K) := op_le
theorem u_gt : OpR X (compareOp .Gt) (uGt X.K) := op_gt
theorem u_ge : OpR X (compareOp .GtE) (uGe X.K) := op_ge
theorem u_is : OpR X (compareOp .Is) uIs := op_isN
theorem u_isnot : OpR X (compareOp .IsNot) uIsNot := op_notN
theorem room65 {k : Nat} {A : Around} (hr : Room k A) : A.units + 65 < cLine := by have := hr.un; omega
theorem u_in {k : Nat} (hr : Room k X.A) : OpR X (compareOp .In) (uIn X.K) := op_in_seq.or (op_inD (room65 hr))
theorem u_notin {k : Nat} (hr : Room k X.A) : OpR X (compareOp .NotIn) (uNotIn X.K) := op_notIn_seq.or (op_notInD (room65 hr))
theorem u_sl : SlR X (uSl X.K) := sl_list.or sl_tupA
theorem u_eqH {k : Nat} (hr : L2H.RoomH k X.A) : OpR X (compareOp .Eq) (uEq X.K) := op_eq.or (op_eqD (by have := hr.un; omega))
theorem pt_tru {a : Expr} {ta : TE} (ha : PE X a ta) (he : ∀ whole, isTrue a X.env whole = (do let v ← whole; standAt a.pos; holding [v] (truthy v)) := by intro _; rfl) : PT X a (tTru X.K ta) := pt_truth ha he
theorem takesN0 : L2N.Takes X (fun _ _ _ _ => False) := fun _ _ h => by
  obtain ⟨_, _, _, _, _, _, _, _, _, _, _, _, _, _, _, _, z⟩ := h
  exact z.elim
theorem tkN {E : XK} (hs : X.stack = X.env :: X.outer) (hf : X.env.frame = some X.env.locals) (hex : X.ex = []) {E₁ : Value → Shared → Prop}
    (hx : X.xe = fun e s' => wpAny (model X.prog X.w) X.A (leaving X.env e) (fun _ s'' => L2N.CX X.prog X.w X.outer X.H_0 X.s_0 E e s'') E₁ s') : L2N.Takes X (fun cls d _ H => E cls d H) := L2N.takes_of hs hf hex hx
end
/-! ### what the top has written, def by def -/
structure FnAt (K : PySem.W.Frag) (mg : Str → Option Value) (x : Str) (st : Stmt) (ps : List Str) where
  a : Addr
  fd : FuncData
  F : Fun K x x st a fd
  b : Binds K fd ps []
  g : mg x = some (.ref a)
structure MeAt (K : PySem.W.Frag) (C : Addr) (x qual : Str) (st : Stmt) (ps : List Str) where
  a : Addr
  fd : FuncData
  F : Fun K x qual st a fd
  b : Binds K fd ps []
  m : Meth K C x a
structure InAt (K : PySem.W.Frag) (mg : Str → Option Value) (C : Addr) (x qual : Str) (st : Stmt) (ps : List Str) where
  a : Addr
  fd : FuncData
  F : Fun K "__init__" qual st a fd
  b : Binds K fd ps []
  made : Mk K C a
  cl : Cls K C
  g : mg x = some (.ref C)
/-- an exception's class -/
structure ExAt (K : PySem.W.Frag) (mg : Str → Option Value) (x : Str) (C : Addr) : Prop where
  ex : PySem.W.excIn K C [.type "ValueError", .type "Exception", .type "BaseException", .type "object"] "ValueError.__new__" = true
  g : mg x = some (.ref C)
  k : PySem.W.keepIn K (.ref C) = true
  b : PySem.W.subIn K (.ref C) (.type "BaseException") = some true
  t : PySem.W.typeIn K (.ref C) = some (.type "type")
  e : ExcC K C
structure CoAt (K : PySem.W.Frag) (mg : Str → Option Value) (x : Str) (v : V) : Prop where
  ex : ∃ u, mg x = some u ∧ RelV v u
/-! ### readings that reckon: by cases of what stands, so that simp goes through them -/
section
variable {X : Cx}
theorem peI {e : Expr} {t u : TE} (h : PE X e t) (i : ∀ σ H Q, u σ H Q → t σ H Q) : PE X e u := ⟨fun pins s σ H Q I q => h.run pins s σ H Q I (i σ H Q q)⟩
theorem ptI {e : Expr} {t u : TT} (h : PT X e t) (i : ∀ σ H Q, u σ H Q → t σ H Q) : PT X e u := ⟨fun pins s σ H Q I q => h.run pins s σ H Q I (i σ H Q q)⟩
theorem psI {e : Stmt} {t u : TS} (h : PS X e t) (i : ∀ D σ H, u D σ H → t D σ H) : PS X e u := ⟨fun pins s σ H D I q => h.run pins s σ H D I (i D σ H q)⟩
theorem pgI {e : Expr} {t u : TG} (h : PG X e t) (i : ∀ v σ H Q, u v σ H Q → t v σ H Q) : PG X e u := ⟨fun pins s σ H v w Q I r q => h.run pins s σ H v w Q I r (i v σ H Q q)⟩
theorem pgsI {e : List Expr} {t u : TGs} (h : PGs X e t) (i : ∀ v σ H Q, u v σ H Q → t v σ H Q) : PGs X e u := ⟨fun pins s σ H v w Q I r q => h.run pins s σ H v w Q I r (i v σ H Q q)⟩
theorem opM {f : Value → Value → Sem Value} {r r' : R2} (h : OpR X f r) (i : ∀ x y H Q, r' x y H Q → r x y H Q) : OpR X f r' := fun pins s σ H x y v u Q I rx ry q => h pins s σ H x y v u Q I rx ry (i x y H Q q)
theorem ixM {r r' : R2} (h : IxR X r) (i : ∀ x y H Q, r' x y H Q → r x y H Q) : IxR X r' := fun va sl pins s σ H x y v u Q I rx ry q z => h va sl pins s σ H x y v u Q I rx ry (i x y H Q q) z
theorem unM {f : Value → Sem Value} {r r' : V → Hp → VK → Prop} (h : UnR X f r) (i : ∀ x H Q, r' x H Q → r x H Q) : UnR X f r' := fun pins s σ H x v Q I rx q => h pins s σ H x v Q I rx (i x H Q q)
theorem caM {f : Value} {r r' : List V → Hp → VK → Prop} (h : CallR X f r) (i : ∀ x H Q, r' x H Q → r x H Q) : CallR X f r' := fun pins s σ H xs us Q I rx q => h pins s σ H xs us Q I rx (i xs H Q q)
theorem mtM {id : String} {r r' : V → List V → Hp → VK → Prop} (h : MtR X id r) (i : ∀ x xs H Q, r' x xs H Q → r x xs H Q) : MtR X id r' := fun pins s σ H x xs v us Q I rx rxs q => h pins s σ H x xs v us Q I rx rxs (i x xs H Q q)
/-- what is wanted may be weakened -/
def mE (t : TE) : TE := fun σ H Q => ∃ P : VK, t σ H P ∧ ∀ v H', P v H' → Q v H'
def mT (t : TT) : TT := fun σ H Q => ∃ P : Bool → Hp → Prop, t σ H P ∧ ∀ v H', P v H' → Q v H'
def mA (t : TA) : TA := fun σ H Q => ∃ P : List V → Hp → Prop, t σ H P ∧ ∀ v H', P v H' → Q v H'
theorem peM {e : Expr} {t : TE} (h : PE X e t) : PE X e (mE t) := ⟨fun pins s σ H Q I q => by
  obtain ⟨P, q, i⟩ := q
  refine thn (h.run pins s σ H P I q) fun v s1 hh => ?_
  obtain ⟨x, H1, I1, r1, q1⟩ := hh
  exact ⟨x, H1, I1, r1, i _ _ q1⟩⟩
theorem ptM {e : Expr} {t : TT} (h : PT X e t) : PT X e (mT t) := ⟨fun pins s σ H Q I q => by
  obtain ⟨P, q, i⟩ := q
  refine thn (h.run pins s σ H P I q) fun v s1 hh => ?_
  obtain ⟨H1, I1, q1⟩ := hh
  exact ⟨H1, I1, i _ _ q1⟩⟩
theorem paM {e : List Expr} {t : TA} (h : PA X e t) : PA X e (mA t) := ⟨fun pos pins s σ H Q I q => by
  obtain ⟨P, q, i⟩ := q
  refine thn (h.run pos pins s σ H P I q) fun v s1 hh => ?_
  obtain ⟨x, H1, I1, r1, q1⟩ := hh
  exact ⟨x, H1, I1, r1, i _ _ q1⟩⟩
end
/-- a name's slot -/
def dVar (i : Nat) : TE := fun σ H Q => match σ[i]? with
  | some (some v) => Q v H
  | _ => False
/-- what stands as a list, as a tuple -/
def lstAt (o : Option HO) (k : List V → Prop) : Prop := match o with
  | some (.lst xs) => k xs
  | some (.frz _ (.lst xs)) => k xs
  | _ => False
def tupAt (o : Option HO) (k : List V → Prop) : Prop := match o with
  | some (.tup xs) => k xs
  | some (.frz _ (.tup xs)) => k xs
  | _ => False
def seqAt (o : Option HO) (k : List V → Prop) : Prop := match o with
  | some (.lst xs) => k xs
  | some (.tup xs) => k xs
  | some (.frz _ (.lst xs)) => k xs
  | some (.frz _ (.tup xs)) => k xs
  | _ => False
theorem lstAt_sq {K : PySem.W.Frag} {H : Hp} {a : Addr} {k : List V → Prop} (h : lstAt (H a) k) : ∃ xs, SqL K H a xs ∧ k xs := by
  unfold lstAt at h
  split at h
  · rename_i xs e
    exact ⟨xs, .inl (.inl e), h⟩
  · rename_i o xs e
    exact ⟨xs, .inl (.inr ⟨o, e⟩), h⟩
  · exact h.elim
theorem tupAt_sq {K : PySem.W.Frag} {H : Hp} {a : Addr} {k : List V → Prop} (h : tupAt (H a) k) : ∃ xs, SqT K H a xs ∧ k xs := by
  unfold tupAt at h
  split at h
  · rename_i xs e
    exact ⟨xs, .inl (.inl e), h⟩
  · rename_i o xs e
    exact ⟨xs, .inl (.inr ⟨o, e⟩), h⟩
  · exact h.elim
theorem seqAt_sq {K : PySem.W.Frag} {H : Hp} {a : Addr} {k : List V → Prop} (h : seqAt (H a) k) : ∃ xs, (SqL K H a xs ∨ SqT K H a xs) ∧ k xs := by
  unfold seqAt at h
  split at h
  · rename_i xs e
    exact ⟨xs, .inl (.inl (.inl e)), h⟩
  · rename_i xs e
    exact ⟨xs, .inr (.inl (.inl e)), h⟩
  · rename_i o xs e
    exact ⟨xs, .inl (.inl (.inr ⟨o, e⟩)), h⟩
  · rename_i o xs e
    exact ⟨xs, .inr (.inl (.inr ⟨o, e⟩)), h⟩
  · exact h.elim
def dAdd : R2 := fun x y H Q => match x, y with
  | .int i, .int j => Q (.int (i + j)) H
  | .str i, .str j => i.length + j.length ≤ sizeLine ∧ Q (.str (i ++ j)) H
  | .ref a, .ref b => match H a, H b with
    | some (.lst xs), some (.lst ys) => xs.length + ys.length ≤ sizeLine ∧ ∀ p, H p = none → Q (.ref p) (upd H p (.lst (xs ++ ys)))
    | _, _ => False
  | _, _ => False
def dI2 (f : Int → Int → V) : R2 := fun x y H Q => match x, y with
  | .int i, .int j => Q (f i j) H
  | _, _ => False
def dI2C (C : Int → Int → Prop) (f : Int → Int → V) : R2 := fun x y H Q => match x, y with
  | .int i, .int j => C i j ∧ Q (f i j) H
  | _, _ => False
def dSub : R2 := dI2 fun i j => .int (i - j)
def dMod : R2 := dI2C (fun _ j => 0 < j) fun i j => .int (i % j)
def dDiv : R2 := dI2C CDiv fun i j => .int (i / j)
def dPow : R2 := dI2C CPow fun i j => .int (i ^ j.toNat)
def dLt : R2 := dI2 fun i j => .bl (decide (i < j))
def dLe : R2 := dI2 fun i j => .bl (decide (i ≤ j))
def dGt : R2 := dI2 fun i j => .bl (decide (j < i))
def dGe : R2 := dI2 fun i j => .bl (decide (j ≤ i))
def dMul : R2 := fun x y H Q => match x, y with
  | .int i, .int j => CMul i j ∧ Q (.int (i * j)) H
  | .ref a, .int k => match H a with
    | some (.lst xs) => -(2 ^ 63) ≤ k ∧ k < 2 ^ 63 ∧ xs.length * k.toNat ≤ sizeLine ∧ ∀ p, H p = none → Q (.ref p) (upd H p (.lst (List.replicate k.toNat xs).flatten))
    | _ => False
  | _, _ => False
/-- scalars alone -/
def dEq : R2 := fun x y H Q => match x, y with
  | .int i, .int j => Q (.bl (decide (i = j))) H
  | .str i, .str j => Q (.bl (decide (i = j))) H
  | .bl i, .bl j => Q (.bl (decide (i = j))) H
  | .non, .non => Q (.bl true) H
  | _, _ => scal x y = true ∧ Q (.bl (decide (x = y))) H
def dNe : R2 := fun x y H Q => dEq x y H fun v H' => match v with
  | .bl b => Q (.bl (!b)) H'
  | _ => False
/-- data -/
def dEqD (K : PySem.W.Frag) : R2 := rEqD K
def dNeD (K : PySem.W.Frag) : R2 := rNeD K
def isNon : V → Bool
  | .non => true
  | _ => false
def dIs : R2 := fun x y H Q => match y with
  | .non => Q (.bl (isNon x)) H
  | _ => False
def dIsNot : R2 := fun x y H Q => match y with
  | .non => Q (.bl (!isNon x)) H
  | _ => False
def dNeg : V → Hp → VK → Prop := fun x H Q => match x with
  | .int i => Q (.int (-i)) H
  | _ => False
def dAbs : List V → Hp → VK → Prop := fun xs H Q => match xs with
  | [.int i] => Q (.int (if i < 0 then -i else i)) H
  | _ => False
def dMax2 : List V → Hp → VK → Prop := fun xs H Q => match xs with
  | [.int i, .int j] => Q (.int (if j > i then j else i)) H
  | _ => False
def dMin2 : List V → Hp → VK → Prop := fun xs H Q => match xs with
  | [.int i, .int j] => Q (.int (if j < i then j else i)) H
  | _ => False
def dInt : List V → Hp → VK → Prop := fun xs H Q => match xs with
  | [.int i] => Q (.int i) H
  | [.bl k] => Q (.int (if k then 1 else 0)) H
  | _ => False
def dLen : List V → Hp → VK → Prop := fun xs H Q => match xs with
  | [.ref p] => seqAt (H p) fun ys => Q (.int ys.length) H
  | [.str z] => z.length ≤ sizeLine ∧ Q (.int z.length) H
  | _ => False
/-- list(x) -/
def dListOf : List V → Hp → VK → Prop := fun xs H Q => match xs with
  | [.ref p] => seqAt (H p) fun ys => ∀ l, H l = none → Q (.ref l) (upd H l (.lst ys))
  | _ => False
def dTupleOf : List V → Hp → VK → Prop := fun xs H Q => match xs with
  | [.ref p] => match H p with
    | some (.lst ys) => ∀ l, H l = none → Q (.ref l) (upd H l (.tup ys))
    | some (.tup _) => Q (.ref p) H
    | _ => False
  | _ => False
/-- an item by its place -/
def atK (xs : List V) (i : Int) (k : V → Prop) : Prop := match atI xs i with
  | some v => k v
  | none => False
def dIx : R2 := fun x y H Q => match x, y with
  | .ref p, .int i => seqAt (H p) fun xs => atK xs i fun v => Q v H
  | _, _ => False
def dFld (C : Addr) (ta : TE) (f : Str) : TE := fun σ H Q => ta σ H fun x H1 => match x with
  | .ref a => match H1 a with
    | some (.ins C' _ fs) => C' = C ∧ match fs.lookup f with
      | some v => Q v H1
      | none => False
    | _ => False
  | _ => False
def dSFld (C : Addr) (ta tv : TE) (f : Str) : TS := fun D σ H => tv σ H fun y H1 => ta σ H1 fun x H2 => match x with
  | .ref a => match H2 a with
    | some (.ins C' dx fs) => C' = C ∧ fs.length < 1000 ∧ D.nx σ (upd H2 a (.ins C dx (putF f y fs)))
    | _ => False
  | _ => False
/-- o.f op= e, ints: op by g -/
def dSAug (C : Addr) (ta tv : TE) (g : Int → Int → Int) (f : Str) : TS := fun D σ H => ta σ H fun x H1 => match x with
  | .ref a => match H1 a with
    | some (.ins C' _ fs) => C' = C ∧ match fs.lookup f with
      | some (.int i) => tv σ H1 fun y H2 => match y with
        | .int j => match H2 a with
          | some (.ins C2 dx fs2) => C2 = C ∧ fs2.length < 1000 ∧ D.nx σ (upd H2 a (.ins C dx (putF f (.int (g i j)) fs2)))
          | _ => False
        | _ => False
      | _ => False
    | _ => False
  | _ => False
def dAug (i : Nat) (te : TE) (g : Int → Int → Int) : TS := fun D σ H => match σ[i]? with
  | some (some (.int x)) => te σ H fun y H1 => match y with
    | .int j => D.nx (σ.set i (some (.int (g x j)))) H1
    | _ => False
  | _ => False
def dTest (t : TE) : TT := fun σ H Q => t σ H fun x H' => match x with
  | .bl k => Q k H'
  | _ => False
/-- truth of what is a bool, an int, none, a list, a tuple -/
def dTru (ta : TE) : TT := fun σ H Q => ta σ H fun x H' => match x with
  | .bl k => Q k H'
  | .non => Q false H'
  | .int i => Q (i != 0) H'
  | .ref p => seqAt (H' p) fun xs => Q (!xs.isEmpty) H'
  | _ => False
def dAndV (ta tb : TE) : TE := fun σ H Q => ta σ H fun x H1 => match x with
  | .bl c => if c = true then tb σ H1 Q else Q (.bl false) H1
  | _ => False
def dOrV (ta tb : TE) : TE := fun σ H Q => ta σ H fun x H1 => match x with
  | .bl c => if c = true then Q (.bl true) H1 else tb σ H1 Q
  | _ => False
def dNotV (ta : TE) : TE := fun σ H Q => ta σ H fun x H1 => match x with
  | .bl c => Q (.bl (!c)) H1
  | _ => False
def dChain (r r' : R2) (ta tb tc : TE) : TE := fun σ H Q => ta σ H fun x H1 => tb σ H1 fun y H2 => r x y H2 fun z H3 => match z with
  | .bl k => if k = true then tc σ H3 fun w' H4 => r' y w' H4 Q else Q (.bl false) H3
  | _ => False
/-- methods of lists -/
def dAppend : V → List V → Hp → VK → Prop := fun x vs H Q => match x, vs with
  | .ref l, [y] => match H l with
    | some (.lst xs) => xs.length < sizeLine ∧ Q .non (upd H l (.lst (xs ++ [y])))
    | _ => False
  | _, _ => False
def dPop : V → List V → Hp → VK → Prop := fun x vs H Q => match x, vs with
  | .ref l, [] => match H l with
    | some (.lst xs) => match xs.getLast? with
      | some y => Q y (upd H l (.lst xs.dropLast))
      | none => False
    | _ => False
  | _, _ => False
/-- pop(i), 0 ≤ i -/
def dPopAt : V → List V → Hp → VK → Prop := fun x vs H Q => match x, vs with
  | .ref l, [.int i] => match H l with
    | some (.lst xs) => 0 ≤ i ∧ i < 2 ^ 63 ∧ match xs[i.toNat]? with
      | some y => Q y (upd H l (.lst (xs.eraseIdx i.toNat)))
      | none => False
    | _ => False
  | _, _ => False
def dInsert : V → List V → Hp → VK → Prop := fun x vs H Q => match x, vs with
  | .ref l, [.int i, y] => match H l with
    | some (.lst xs) => xs.length < sizeLine ∧ 0 ≤ i ∧ i < 2 ^ 63 ∧ Q .non (upd H l (.lst (xs.take i.toNat ++ [y] ++ xs.drop i.toNat)))
    | _ => False
  | _, _ => False
/-- a method of a list (a tracked one) -/
def dBM (r : V → List V → Hp → VK → Prop) (to : TE) (t : TA) : TE := fun σ H Q => to σ H fun x H1 => match x with
  | .ref l => match H1 l with
    | some (.lst _) => t σ H1 fun xs H2 => r x xs H2 Q
    | _ => False
  | _ => False
def dMethE (C : Addr) (m : Str) (sp : Sp) (E : L2.St → XK) (ta : TE) (t : TA) : TE := fun σ H Q => ta σ H fun x H1 => match x with
  | .ref a => match H1 a with
    | some (.ins C' _ fs) => C' = C ∧ fs.lookup m = none ∧ t σ H1 fun vs H2 => sp (x :: vs) H2 Q (E σ)
    | _ => False
  | _ => False
def dPar (i j : Nat) (ta : TA) : TS := fun D σ H => ta σ H fun vs H1 => match vs with
  | [v, w] => D.nx ((σ.set i (some v)).set j (some w)) H1
  | _ => False
def dPar3 (i j l : Nat) (ta : TA) : TS := fun D σ H => ta σ H fun vs H1 => match vs with
  | [u, v, w] => D.nx (((σ.set i (some u)).set j (some v)).set l (some w)) H1
  | _ => False
/-- targets -/
def dgTup (n : Nat) (t : TGs) : TG := fun v σ H Q => match v with
  | .ref a => tupAt (H a) fun xs => xs.length = n ∧ t xs σ H Q
  | _ => False
def dgCons (t : TG) (u : TGs) : TGs := fun vs σ H Q => match vs with
  | v :: r => t v σ H fun σ' H' => u r σ' H' Q
  | [] => False
def dgNil : TGs := fun vs σ H Q => match vs with
  | [] => Q σ H
  | _ => False
section
variable {X : Cx}
theorem dv (i : Nat) {x : Str} {pos : Pos} (hN : X.N[i]? = some x := by rfl) (hv : Vis X.env.scope x := by first | exact Or.inl rfl | exact Or.inr (Or.inl rfl) | exact Or.inr (Or.inr rfl)) (hd : (x == ("__debug__" : Str)) = false := by decide)
    (hcd : (x == ("__classdict__" : Str)) = false := by decide) : PE X (.Name x pos) (dVar i) := peI (pe_var hN hv hd hcd) fun σ H Q h => by
  unfold dVar at h
  split at h
  · rename_i v e
    exact ⟨v, e, h⟩
  · exact h.elim
theorem i2 {f : Int → Int → V} {op : Value → Value → Sem Value} (h : OpR X op (rI0 f)) : OpR X op (dI2 f) := opM h fun x y H Q q => by
  unfold dI2 at q
  split at q
  · exact ⟨_, _, rfl, rfl, q⟩
  · exact q.elim
theorem i2C {C : Int → Int → Prop} {f : Int → Int → V} {op : Value → Value → Sem Value} (h : OpR X op (rI C f)) : OpR X op (dI2C C f) := opM h fun x y H Q q => by
  unfold dI2C at q
  split at q
  · exact ⟨_, _, rfl, rfl, q.1, q.2⟩
  · exact q.elim
theorem d_sub : OpR X (binaryOp .Sub) dSub := i2 op_sub
theorem d_mod : OpR X (binaryOp .Mod) dMod := i2C op_mod
theorem d_div : OpR X (binaryOp .FloorDiv) dDiv := i2C op_fdiv
theorem d_pow : OpR X (binaryOp .Pow) dPow := i2C op_pow
theorem d_lt : OpR X (compareOp .Lt) dLt := i2 op_lt
theorem d_le : OpR X (compareOp .LtE) dLe := i2 op_le
theorem d_gt : OpR X (compareOp .Gt) dGt := i2 op_gt
theorem d_ge : OpR X (compareOp .GtE) dGe := i2 op_ge
theorem d_add : OpR X (binaryOp .Add) dAdd := opM (u_add (X := X)) fun x y H Q q => by
  unfold dAdd at q
  split at q
  · exact .inl ⟨_, _, rfl, rfl, q⟩
  · exact .inr (.inl ⟨_, _, rfl, rfl, q.1, q.2⟩)
  · split at q
    · rename_i h1 h2
      exact .inr (.inr (.inl ⟨_, _, _, _, rfl, rfl, h1, h2, q.1, q.2⟩))
    · exact q.elim
  · exact q.elim
theorem d_mul : OpR X (binaryOp .Mult) dMul := opM (u_mul (X := X)) fun x y H Q q => by
  unfold dMul at q
  split at q
  · exact .inl ⟨_, _, rfl, rfl, q.1, q.2⟩
  · split at q
    · rename_i h1
      exact .inr ⟨_, _, _, rfl, rfl, h1, q.1, q.2.1, q.2.2.1, q.2.2.2⟩
    · exact q.elim
  · exact q.elim
theorem dEq_r {x y : V} {H : Hp} {Q : VK} (q : dEq x y H Q) : rEq x y H Q := by
  unfold dEq at q
  split at q
  · refine ⟨rfl, ?_⟩
    rename_i i j
    have e : decide (V.int i = V.int j) = decide (i = j) := by simp
    rw [e]; exact q
  · refine ⟨rfl, ?_⟩
    rename_i i j
    have e : decide (V.str i = V.str j) = decide (i = j) := by simp
    rw [e]; exact q
  · refine ⟨rfl, ?_⟩
    rename_i i j
    have e : decide (V.bl i = V.bl j) = decide (i = j) := by simp
    rw [e]; exact q
  · exact ⟨rfl, q⟩
  · exact q
theorem d_eq : OpR X (compareOp .Eq) dEq := opM (op_eq (X := X)) fun x y H Q q => dEq_r q
theorem d_ne : OpR X (compareOp .NotEq) dNe := opM (op_ne (X := X)) fun x y H Q q => by
  obtain ⟨h1, h2⟩ := dEq_r (show dEq x y H _ from q)
  exact ⟨h1, h2⟩
theorem d_eqD {k : Nat} (hr : Room k X.A) : OpR X (compareOp .Eq) (dEqD X.K) := op_eqD hr.units
theorem d_neD {k : Nat} (hr : Room k X.A) : OpR X (compareOp .NotEq) (dNeD X.K) := op_neD hr.units
theorem d_is : OpR X (compareOp .Is) dIs := opM (op_isN (X := X)) fun x y H Q q => by
  unfold dIs at q
  split at q
  · refine ⟨rfl, ?_⟩
    have e : decide (x = V.non) = isNon x := by cases x <;> simp [isNon]
    rw [e]; exact q
  · exact q.elim
theorem d_isnot : OpR X (compareOp .IsNot) dIsNot := opM (op_notN (X := X)) fun x y H Q q => by
  unfold dIsNot at q
  split at q
  · refine ⟨rfl, ?_⟩
    have e : (!decide (x = V.non)) = !isNon x := by cases x <;> simp [isNon]
    rw [e]; exact q
  · exact q.elim
theorem d_neg : UnR X (unaryOp .USub) dNeg := unM (un_neg (X := X)) fun x H Q q => by
  unfold dNeg at q
  split at q
  · exact ⟨_, rfl, q⟩
  · exact q.elim
theorem d_abs : CallR X (.builtin "abs") dAbs := caM (call_abs (X := X)) fun xs H Q q => by
  unfold dAbs at q
  split at q
  · exact ⟨_, rfl, q⟩
  · exact q.elim
theorem d_max2 (hc : X.calm = true) : CallR X (.builtin "max") dMax2 := caM (call_max2 hc) fun xs H Q q => by
  unfold dMax2 at q
  split at q
  · exact ⟨_, _, rfl, q⟩
  · exact q.elim
theorem d_min2 (hc : X.calm = true) : CallR X (.builtin "min") dMin2 := caM (call_min2 hc) fun xs H Q q => by
  unfold dMin2 at q
  split at q
  · exact ⟨_, _, rfl, q⟩
  · exact q.elim
theorem d_int : CallR X (.type "int") dInt := caM (call_int1 (X := X)) fun xs H Q q => by
  unfold dInt at q
  split at q
  · exact .inl ⟨_, rfl, q⟩
  · exact .inr ⟨_, rfl, q⟩
  · exact q.elim
theorem d_len : CallR X (.builtin "len") dLen := caM (call_len (X := X)) fun xs H Q q => by
  unfold dLen at q
  split at q
  · obtain ⟨ys, h, k⟩ := seqAt_sq (K := X.K) q
    refine ⟨_, _, rfl, ?_, k⟩
    unfold LenV
    exact h.elim (fun h => .inl ⟨ys, h, rfl⟩) (fun h => .inr ⟨ys, h, rfl⟩)
  · exact ⟨_, _, rfl, ⟨q.1, rfl⟩, q.2⟩
  · exact q.elim
theorem d_listOf : CallR X (.type "list") dListOf := caM (call_list_of (X := X)) fun xs H Q q => by
  unfold dListOf at q
  split at q
  · obtain ⟨ys, h, k⟩ := seqAt_sq (K := X.K) q
    exact ⟨_, ys, rfl, h, k⟩
  · exact q.elim
theorem d_tupleOf : CallR X (.type "tuple") dTupleOf := caM (call_tuple_of (X := X)) fun xs H Q q => by
  unfold dTupleOf at q
  split at q
  · split at q
    · rename_i e
      exact ⟨_, _, rfl, .inl ⟨.inl (.inl e), q⟩⟩
    · rename_i e
      exact ⟨_, _, rfl, .inr ⟨.inl (.inl e), q⟩⟩
    · exact q.elim
  · exact q.elim
theorem d_ix : IxR X dIx := ixM (ix_seq (X := X)) fun x y H Q q => by
  unfold dIx at q
  split at q
  · obtain ⟨ys, h, k⟩ := seqAt_sq (K := X.K) q
    unfold atK at k
    split at k
    · rename_i e
      exact h.elim (fun h => .inl ⟨_, ys, _, _, rfl, rfl, h, e, k⟩) (fun h => .inr (.inl ⟨_, ys, _, _, rfl, rfl, h, e, k⟩))
    · exact k.elim
  · exact q.elim
variable {C : Addr} {e o a b c value : Expr} {es : List Expr} {ta tb tc tv te : TE} {t : TA} {f m : Str} {pos pos' tpos apos : Pos}
theorem d_fld (hc : Cls X.K C) (hn : NoAttr X.K C f) (he : PE X e ta) (hb : attributeBase e f X.env (eval e X.env) = eval e X.env := by rfl) : PE X (.Attribute e f pos) (dFld C ta f) :=
  peI (pe_fld (peM he) hb) fun σ H Q q1 => ⟨_, q1, fun v H' q2 => by
  split at q2
  · split at q2
    · rename_i h
      obtain ⟨e1, q2⟩ := q2
      subst e1
      split at q2
      · rename_i l
        exact ⟨_, _, _, _, _, rfl, h, hc, hn, l, q2⟩
      · exact q2.elim
    · exact q2.elim
  · exact q2.elim⟩
theorem d_sfld (hc : Cls X.K C) (hn : NoAttr X.K C f) (ha : PE X o ta) (hv : PE X value tv) (hs : swapsWith value (some (.Attribute o f pos')) pos.line X.env = pure false := by rfl) : PS X (.Assign [.Attribute o f pos'] value pos) (dSFld C ta tv f) :=
  psI (ps_fld (peM ha) (peM hv) hs) fun D σ H q1 => ⟨_, q1, fun y H1 q2 => ⟨_, q2, fun x H2 q3 => by
  split at q3
  · split at q3
    · rename_i h
      obtain ⟨e1, l, q3⟩ := q3
      subst e1
      exact ⟨_, _, _, _, rfl, h, hc, hn, l, q3⟩
    · exact q3.elim
  · exact q3.elim⟩⟩
theorem in_g {op : Operator} {g : Int → Int → Int} (h : OpR X (inplaceOp op) (rI0 fun i j => .int (g i j))) : InOp X op (fun x y H Q => ∃ i j, x = .int i ∧ y = .int j ∧ Q (.int (g i j)) H) := fun pins s σ H x y u v Q I rx ry q => h pins s σ H x y u v Q I rx ry q
theorem d_saug {op : Operator} {g : Int → Int → Int} (hop : OpR X (inplaceOp op) (rI0 fun i j => .int (g i j))) (hc : Cls X.K C) (hn : NoAttr X.K C f) (ha : PE X o ta) (hv : PE X value tv) : PS X (.AugAssign (.Attribute o f tpos) op value pos) (dSAug C ta tv g f) :=
  psI (ps_fldaug (peM ha) (peM hv) (in_g hop)) fun D σ H q1 => ⟨_, q1, fun x H1 q2 => by
  split at q2
  · split at q2
    · rename_i h
      obtain ⟨e1, q3⟩ := q2
      subst e1
      split at q3
      · rename_i l
        refine ⟨_, _, _, _, _, rfl, h, hc, hn, l, _, q3, fun y H2 q4 => ?_⟩
        split at q4
        · split at q4
          · rename_i h2
            obtain ⟨e2, l2, q5⟩ := q4
            subst e2
            exact ⟨_, _, rfl, rfl, _, _, h2, l2, q5⟩
          · exact q4.elim
        · exact q4.elim
      · exact q3.elim
    · exact q2.elim
  · exact q2.elim⟩
theorem ip_g {op : Operator} {g : Int → Int → Int} (h : OpR X (inplaceOp op) (rI0 fun i j => .int (g i j))) : PIp X op (ipI g) := fun pins s σ H x y v u Q I r1 r2 q => h pins s σ H x y v u Q I r1 r2 q
theorem d_aug {i : Nat} {x : Str} {op : Operator} {g : Int → Int → Int} {pos' : Pos} (hop : OpR X (inplaceOp op) (rI0 fun i j => .int (g i j))) (hN : X.N.Nodup) (hi : X.N[i]? = some x) (hx : Loc X.env.scope x) (he : PE X e te) (hf : X.fn x = true ∨ X.env.scope.names.lookup x = some .local := by first | exact .inl rfl | exact .inr rfl | assumption) :
    PS X (.AugAssign (.Name x pos') op e pos) (dAug i te g) := psI (ps_aug hN hi hx (peM he) (ip_g hop) hf) fun D σ H q1 => by
  unfold dAug at q1
  split at q1
  · rename_i x h
    refine ⟨_, h, _, q1, fun y H1 q2 => ?_⟩
    split at q2
    · exact ⟨_, _, rfl, rfl, q2⟩
    · exact q2.elim
  · exact q1.elim
theorem opMono {f : Value → Value → Sem Value} {r : R2} (ho : OpR X f r) : OpR X f (fun x y H Q => ∃ P : VK, r x y H P ∧ ∀ v H', P v H' → Q v H') := fun pins s σ H x y v u Q I rx ry q => by
  obtain ⟨P, q, i⟩ := q
  refine thn (ho pins s σ H x y v u P I rx ry q) fun w s1 hh => ?_
  obtain ⟨x1, H1, I1, r1, q1⟩ := hh
  exact ⟨x1, H1, I1, r1, i _ _ q1⟩
theorem dt_cmp {op : CmpOp} {r : R2} (ho : OpR X (compareOp op) r) (ha : PE X a ta) (hb : PE X b tb) (hm : behindInMarks op b = false) : PT X (.Compare a [op] [b] pos) (dTest (tOp r ta tb)) :=
  ptI (pt_cmpR (opMono ho) (peM ha) (peM hb) hm) fun σ H Q q1 => ⟨_, q1, fun x H1 q2 => ⟨_, q2, fun y H2 q3 => ⟨_, q3, fun v H' q4 => by
    split at q4
    · exact ⟨_, rfl, q4⟩
    · exact q4.elim⟩⟩⟩
theorem dt_tru (ha : PE X a ta) (he : ∀ whole, isTrue a X.env whole = (do let v ← whole; standAt a.pos; holding [v] (truthy v)) := by intro _; rfl) : PT X a (dTru ta) :=
  ptI (pt_truth (peM ha) he) fun σ H Q q1 => ⟨_, q1, fun v H' q2 => by
    split at q2
    · exact ⟨_, rfl, q2⟩
    · exact ⟨_, rfl, q2⟩
    · exact ⟨_, rfl, q2⟩
    · obtain ⟨xs, h, k⟩ := seqAt_sq (K := X.K) q2
      exact ⟨_, h.elim (fun h => .inl ⟨xs, h, rfl⟩) (fun h => .inr (.inl ⟨xs, h, rfl⟩)), k⟩
    · exact q2.elim⟩
theorem d_and {rest : List Expr} (ha : PE X a ta) (hb : PE X (.BoolOp .And (b :: rest) pos) tb) : PE X (.BoolOp .And (a :: b :: rest) pos) (dAndV ta tb) :=
  peI (pe_and (peM ha) hb) fun σ H Q q1 => ⟨_, q1, fun v H' q2 => by
    split at q2
    · exact ⟨_, rfl, q2⟩
    · exact q2.elim⟩
theorem d_or {rest : List Expr} (ha : PE X a ta) (hb : PE X (.BoolOp .Or (b :: rest) pos) tb) : PE X (.BoolOp .Or (a :: b :: rest) pos) (dOrV ta tb) :=
  peI (pe_or (peM ha) hb) fun σ H Q q1 => ⟨_, q1, fun v H' q2 => by
    split at q2
    · exact ⟨_, rfl, q2⟩
    · exact q2.elim⟩
theorem d_not (ha : PE X a ta) : PE X (.UnaryOp .Not a pos) (dNotV ta) :=
  peI (pe_not (peM ha)) fun σ H Q q1 => ⟨_, q1, fun v H' q2 => by
    split at q2
    · exact ⟨_, rfl, q2⟩
    · exact q2.elim⟩
theorem d_chain {op op' : CmpOp} {r r' : R2} (ho : OpR X (compareOp op) r) (ho' : OpR X (compareOp op') r') (ha : PE X a ta) (hb : PE X b tb) (hc : PE X c tc)
    (hm : lastMarks [op, op'] [b, c] = false := by with_unfolding_all rfl) : PE X (.Compare a [op, op'] [b, c] pos) (dChain r r' ta tb tc) :=
  peI (pe_chain (opMono ho) ho' (peM ha) (peM hb) hc hm) fun σ H Q q1 => ⟨_, q1, fun x H1 q2 => ⟨_, q2, fun y H2 q3 => ⟨_, q3, fun z H3 q4 => by
    split at q4
    · exact ⟨_, rfl, q4⟩
    · exact q4.elim⟩⟩⟩
theorem dt_chain {op op' : CmpOp} {r r' : R2} (ho : OpR X (compareOp op) r) (ho' : OpR X (compareOp op') r') (ha : PE X a ta) (hb : PE X b tb) (hc : PE X c tc)
    (hm : lastMarks [op, op'] [b, c] = false := by with_unfolding_all rfl) : PT X (.Compare a [op, op'] [b, c] pos) (dTest (dChain r r' ta tb tc)) :=
  ptI (pt_chain (opMono ho) (opMono ho') (peM ha) (peM hb) (peM hc) hm) fun σ H Q q1 => ⟨_, q1, fun x H1 q2 => ⟨_, q2, fun y H2 q3 => ⟨_, q3, fun z H3 q4 => by
    split at q4
    · rename_i k
      refine ⟨_, rfl, ?_⟩
      cases k with
      | true =>
        rw [if_pos rfl] at q4 ⊢
        refine ⟨_, q4, fun w H4 q5 => ⟨_, q5, fun v H5 q6 => ?_⟩⟩
        split at q6
        · exact ⟨_, rfl, q6⟩
        · exact q6.elim
      | false => exact ⟨_, rfl, q4⟩
    · exact q4.elim⟩⟩⟩
theorem m_append : MtR X "list.append" dAppend := mtM (mt_append (X := X)) fun x xs H Q q => by
  unfold dAppend at q
  split at q
  · split at q
    · rename_i h
      exact ⟨_, _, _, rfl, rfl, h, q.1, q.2⟩
    · exact q.elim
  · exact q.elim
theorem m_pop : MtR X "list.pop" dPop := mtM (mt_pop (X := X)) fun x xs H Q q => by
  unfold dPop at q
  split at q
  · split at q
    · rename_i h
      split at q
      · rename_i e
        exact ⟨_, _, _, rfl, rfl, h, by rw [← List.getLast?_eq_getElem?]; exact e, q⟩
      · exact q.elim
    · exact q.elim
  · exact q.elim
theorem m_popAt : MtR X "list.pop" dPopAt := mtM (mt_popAt (X := X)) fun x xs H Q q => by
  unfold dPopAt at q
  split at q
  · split at q
    · rename_i h
      obtain ⟨h0, h1, q⟩ := q
      split at q
      · rename_i i _ ys _ y e
        have hl := (List.getElem?_eq_some_iff.mp e).1
        exact ⟨_, _, _, i.toNat, _, rfl, rfl, h, by omega, h1, (ixN_seq (n := ys.length) (i := i) (j := i.toNat) (by unfold ixN; rw [if_pos h0, if_pos (by omega)])).1, e, q⟩
      · exact q.elim
    · exact q.elim
  · exact q.elim
theorem m_insert : MtR X "list.insert" dInsert := mtM (mt_insert (X := X)) fun x xs H Q q => by
  unfold dInsert at q
  split at q
  · split at q
    · rename_i h
      exact ⟨_, _, _, _, rfl, rfl, h, q⟩
    · exact q.elim
  · exact q.elim
theorem d_bm {name id : String} {r : V → List V → Hp → VK → Prop} {cpos : Pos} (pa : PlainAttrs "list") (slot : Slot "list" name id) (hty : typeOf (.builtin id) = pure (.type "method_descriptor")) (hm : MtR X id r) (ho : PE X o ta) (ha : PA X (e :: es) t)
    (hbase : attributeBase o name X.env (eval o X.env) = eval o X.env := by rfl)
    (hfew : ((backTo cpos (starEach (e :: es) X.env)).all (fun x => !x.1) && (backToKw cpos (keywordEach [] X.env)).all (fun x => x.1.isSome)
      && decide ((e :: es).length + ([] : List Keyword).length + (if ([] : List Keyword).isEmpty then 0 else 1) < 30)) = true := by rfl)
    (hline : (apos.endLine == cpos.line) = true := by rfl) (hs : starEach (e :: es) X.env = (false, eval e X.env) :: starEach es X.env := by rfl) (hplain : (backTo cpos (starEach es X.env)).any (·.1) = false := by rfl) : PE X (.Call (.Attribute o name apos) (e :: es) [] cpos) (dBM r ta t) :=
  peI (pe_bm pa slot hty hm (peM ho) ha hbase hfew hline hs hplain) fun σ H Q q1 => ⟨_, q1, fun v H' q2 => by
    split at q2
    · split at q2
      · rename_i h
        exact ⟨Or.inl ⟨rfl, _, SqL.of h⟩, q2⟩
      · exact q2.elim
    · exact q2.elim⟩
end
section
variable {X : Cx} {C : Addr} {e o a b c value : Expr} {es : List Expr} {ta tb tc tv te : TE} {t : TA} {f m : Str} {pos pos' tpos apos : Pos}
def dBM0 (r : V → List V → Hp → VK → Prop) (to : TE) : TE := fun σ H Q => to σ H fun x H1 => match x with
  | .ref l => match H1 l with
    | some (.lst _) => r x [] H1 Q
    | _ => False
  | _ => False
theorem d_bm0 {name id : String} {r : V → List V → Hp → VK → Prop} {cpos : Pos} (pa : PlainAttrs "list") (slot : Slot "list" name id) (hty : typeOf (.builtin id) = pure (.type "method_descriptor")) (hm : MtR X id r) (ho : PE X o ta)
    (hbase : attributeBase o name X.env (eval o X.env) = eval o X.env := by rfl) (hline : (apos.endLine == cpos.line) = true := by rfl) : PE X (.Call (.Attribute o name apos) [] [] cpos) (dBM0 r ta) :=
  peI (pe_bm0 pa slot hty hm (peM ho) hbase hline) fun σ H Q q1 => ⟨_, q1, fun v H' q2 => by
    split at q2
    · split at q2
      · rename_i h
        exact ⟨Or.inl ⟨rfl, _, SqL.of h⟩, q2⟩
      · exact q2.elim
    · exact q2.elim⟩
variable {CX : CXT} {k : Nat} {fa : Addr} {fd : FuncData} {ps : List Str} {sp : Sp} {E : L2.St → XK}
theorem d_meth {pl : Sem Bool} (he : PE X o ta) (c : Cls X.K C) (hm : Meth X.K C m fa) (F : FnOk X.prog X.w X.K X.mg X.base CX k fa fd ps sp) (hr : Room k X.A) (hb : Binds X.K fd ps []) (hx : ∀ σ, PassesAt CX X σ (E σ)) (ha : PA X (e :: es) t)
    (hst : starEach (e :: es) X.env = (false, eval e X.env) :: starEach es X.env := by rfl) (hpl : (backTo pos (starEach es X.env)).any (·.1) = false := by rfl)
    (ht : eval (.Call (.Attribute o m apos) (e :: es) [] pos) X.env = (do
      let ov ← eval o X.env
      standAt apos.atName
      let (f, first) ← holding [ov] (getMethod ov m pl)
      callWith pos f first (backTo pos (starEach (e :: es) X.env)) (backToKw pos (keywordEach [] X.env))) := by rfl) :
    PE X (.Call (.Attribute o m apos) (e :: es) [] pos) (dMethE C m sp E ta t) :=
  peI (c_meth (pl := pl) (peM he) c hm F hr hb hx ha hst hpl ht) fun σ H Q q1 => ⟨_, q1, fun v H' q2 => by
    split at q2
    · split at q2
      · rename_i h
        obtain ⟨e1, l, q3⟩ := q2
        subst e1
        exact ⟨_, _, _, rfl, h, l, q3⟩
      · exact q2.elim
    · exact q2.elim⟩
theorem d_meth0 {pl : Sem Bool} (he : PE X o ta) (c : Cls X.K C) (hm : Meth X.K C m fa) (F : FnOk X.prog X.w X.K X.mg X.base CX k fa fd ps sp) (hr : Room k X.A) (hb : Binds X.K fd ps []) (hx : ∀ σ, PassesAt CX X σ (E σ))
    (ht : eval (.Call (.Attribute o m apos) [] [] pos) X.env = (do
      let ov ← eval o X.env
      standAt apos.atName
      let (f, first) ← holding [ov] (getMethod ov m pl)
      callWith pos f first (backTo pos (starEach [] X.env)) (backToKw pos (keywordEach [] X.env))) := by rfl) :
    PE X (.Call (.Attribute o m apos) [] [] pos) (dMethE C m sp E ta tNil) :=
  peI (c_meth0 (pl := pl) (peM he) c hm F hr hb hx ht) fun σ H Q q1 => ⟨_, q1, fun v H' q2 => by
    split at q2
    · split at q2
      · rename_i h
        obtain ⟨e1, l, q3⟩ := q2
        subst e1
        exact ⟨_, _, _, rfl, h, l, q3⟩
      · exact q2.elim
    · exact q2.elim⟩
theorem d_par {i j : Nat} {x y : Str} {px py pt : Pos} {kt k2 pt2} (hc : X.calm = true) (hN : X.N.Nodup) (hi : X.N[i]? = some x) (hj : X.N[j]? = some y) (hij : i ≠ j)
    (hx : X.env.scope.names.lookup x = some .local) (hy : X.env.scope.names.lookup y = some .local) (ha : PA X [a, b] t)
    (hw : swappedStores [.Tuple [.Name x px, .Name y py] kt pt] (.Tuple [a, b] k2 pt2) X.env = pure (some [x, y]))
    (hs : swapsWithSole [.Tuple [.Name x px, .Name y py] kt pt] (.Tuple [a, b] k2 pt2) pos.line X.env = pure false := by rfl) :
    PS X (.Assign [.Tuple [.Name x px, .Name y py] kt pt] (.Tuple [a, b] k2 pt2) pos) (dPar i j t) :=
  psI (ps_par hc hN hi hj hij hx hy (paM ha) hw hs) fun D σ H q1 => ⟨_, q1, fun v H' q2 => by
    split at q2
    · exact ⟨_, _, rfl, q2⟩
    · exact q2.elim⟩
theorem d_par3 {i j l : Nat} {x y z : Str} {px py pz pt : Pos} {kt k2 pt2} (hc : X.calm = true) (hN : X.N.Nodup) (hi : X.N[i]? = some x) (hj : X.N[j]? = some y) (hl : X.N[l]? = some z) (hij : i ≠ j) (hil : i ≠ l) (hjl : j ≠ l)
    (hx : X.env.scope.names.lookup x = some .local) (hy : X.env.scope.names.lookup y = some .local) (hz : X.env.scope.names.lookup z = some .local) (ha : PA X [a, b, c] t)
    (hw : swappedStores [.Tuple [.Name x px, .Name y py, .Name z pz] kt pt] (.Tuple [a, b, c] k2 pt2) X.env = pure (some [x, y, z]))
    (hs : swapsWithSole [.Tuple [.Name x px, .Name y py, .Name z pz] kt pt] (.Tuple [a, b, c] k2 pt2) pos.line X.env = pure false := by rfl) :
    PS X (.Assign [.Tuple [.Name x px, .Name y py, .Name z pz] kt pt] (.Tuple [a, b, c] k2 pt2) pos) (dPar3 i j l t) :=
  psI (ps_par3 hc hN hi hj hl hij hil hjl hx hy hz (paM ha) hw hs) fun D σ H q1 => ⟨_, q1, fun v H' q2 => by
    split at q2
    · exact ⟨_, _, _, rfl, q2⟩
    · exact q2.elim⟩
theorem dg_nil : PGs X [] dgNil := pgsI pgs_nil fun vs σ H Q q1 => by
  unfold dgNil at q1
  split at q1
  · exact ⟨rfl, q1⟩
  · exact q1.elim
theorem dg_cons {ge : Expr} {ges : List Expr} {gt : TG} {gu : TGs} (h1 : PG X ge gt) (h2 : PGs X ges gu)
    (hs : (assignEach (ge :: ges) X.env).map (·.2) = assign ge X.env :: (assignEach ges X.env).map (·.2) := by rfl) : PGs X (ge :: ges) (dgCons gt gu) := pgsI (pgs_cons h1 h2 hs) fun vs σ H Q q1 => by
  unfold dgCons at q1
  split at q1
  · exact ⟨_, _, rfl, q1⟩
  · exact q1.elim
theorem dg_tup {ges : List Expr} {kk : Nat} {gt : TGs} {n : Nat} (hc : X.calm = true) (h : PGs X ges gt)
    (hn : (assignEach ges X.env).length = n := by rfl) (hst : (assignEach ges X.env).findIdx? (·.1) = none := by rfl) : PG X (.Tuple ges kk pos) (dgTup n gt) := pgI (pg_tup hc h hn hst) fun v σ H Q q1 => by
  unfold dgTup at q1
  split at q1
  · obtain ⟨xs, h1, h2, h3⟩ := tupAt_sq (K := X.K) q1
    exact ⟨_, xs, rfl, h1, h2, h3⟩
  · exact q1.elim
end
/-! ### loops -/
/-- what a for asks of what it walks -/
def ForJ (J : It) (g : TG) (tb : TS) : TS := fun D σ H => ∃ W : Nat → Nat → L2.St → Hp → Prop, (∃ m, W 0 m σ H) ∧ ∀ i m σ H, W i m σ H →
  (J.stop i H ∧ D.nx σ H) ∨ (J.go i H ∧ ∃ N : L2.St → Hp → Prop, (∀ σ' H', N σ' H' → ∃ m', m' < m ∧ W (i + 1) m' σ' H') ∧ ∀ x H', J.yld i H x H' → g x σ H' fun σ2 H2 => tb { D with nx := N, ct := N, bk := D.nx } σ2 H2)
def ForL (K : PySem.W.Frag) (a : Addr) (g : TG) (tb : TS) : TS := fun D σ H => (∃ xs, SqL K H a xs) ∧ ForJ (Itl K a) g tb D σ H
def ForT (K : PySem.W.Frag) (a : Addr) (g : TG) (tb : TS) : TS := fun D σ H => (∃ xs, SqT K H a xs) ∧ ForJ (Itt K a) g tb D σ H
def ForR (lo : Int) (n : Nat) (g : TG) (tb : TS) : TS := fun D σ H => ForJ (Itr lo n) g tb D σ H
def dForL (K : PySem.W.Frag) (tl : TE) (g : TG) (tb : TS) : TS := fun D σ H => tl σ H fun x H1 => match x with
  | .ref a => ForL K a g tb D σ H1
  | _ => False
def dForT (K : PySem.W.Frag) (tl : TE) (g : TG) (tb : TS) : TS := fun D σ H => tl σ H fun x H1 => match x with
  | .ref a => ForT K a g tb D σ H1
  | _ => False
def dForR1 (ta : TA) (g : TG) (tb : TS) : TS := fun D σ H => ta σ H fun vs H1 => match vs with
  | [.int j] => (-(2 ^ 62) ≤ j ∧ j < 2 ^ 62) ∧ ForR 0 j.toNat g tb D σ H1
  | _ => False
def dForR2 (ta : TA) (g : TG) (tb : TS) : TS := fun D σ H => ta σ H fun vs H1 => match vs with
  | [.int i, .int j] => (-(2 ^ 62) ≤ i ∧ i < 2 ^ 62 ∧ -(2 ^ 62) ≤ j ∧ j < 2 ^ 62) ∧ ForR i (j - i).toNat g tb D σ H1
  | _ => False
/-- what a comprehension asks -/
def LcJ (J : It) (g : TG) (tt : TT) (te : TE) (vs : List Nat) : L2.St → Hp → VK → Prop := fun σ H1 Q => ∀ D, H1 D = none → ∃ W : Nat → Nat → Hp → Prop, (∃ m, W 0 m (upd H1 D (.lst []))) ∧ ∀ i m H, W i m H →
  (J.stop i H ∧ Q (.ref D) H) ∨ (J.go i H ∧ ∃ Nx : Hp → Prop, (∀ H', Nx H' → ∃ m', m' < m ∧ W (i + 1) m' H') ∧ ∀ x H', J.yld i H x H' → g x (wipe σ vs) H' fun σ2 H2 => wipe σ2 vs = wipe σ vs ∧ tt σ2 H2 fun b H3 =>
    if b = true then te σ2 H3 fun y H4 => ∃ acc, H4 D = some (.lst acc) ∧ acc.length < sizeLine ∧ Nx (upd H4 D (.lst (acc ++ [y]))) else Nx H3)
def LcL (K : PySem.W.Frag) (a : Addr) (g : TG) (tt : TT) (te : TE) (vs : List Nat) : L2.St → Hp → VK → Prop := fun σ H Q => (∃ xs, SqL K H a xs) ∧ LcJ (Itl K a) g tt te vs σ H Q
def LcT (K : PySem.W.Frag) (a : Addr) (g : TG) (tt : TT) (te : TE) (vs : List Nat) : L2.St → Hp → VK → Prop := fun σ H Q => (∃ xs, SqT K H a xs) ∧ LcJ (Itt K a) g tt te vs σ H Q
def dLcL (K : PySem.W.Frag) (tl : TE) (g : TG) (tt : TT) (te : TE) (vs : List Nat) : TE := fun σ H Q => tl σ H fun x H1 => match x with
  | .ref a => LcL K a g tt te vs σ H1 Q
  | _ => False
def dLcT (K : PySem.W.Frag) (tl : TE) (g : TG) (tt : TT) (te : TE) (vs : List Nat) : TE := fun σ H Q => tl σ H fun x H1 => match x with
  | .ref a => LcT K a g tt te vs σ H1 Q
  | _ => False
def dLcR1 (ta : TA) (g : TG) (tt : TT) (te : TE) (vs : List Nat) : TE := fun σ H Q => ta σ H fun us H1 => match us with
  | [.int j] => (-(2 ^ 62) ≤ j ∧ j < 2 ^ 62) ∧ LcJ (Itr 0 j.toNat) g tt te vs σ H1 Q
  | _ => False
def dLcR2 (ta : TA) (g : TG) (tt : TT) (te : TE) (vs : List Nat) : TE := fun σ H Q => ta σ H fun us H1 => match us with
  | [.int i, .int j] => (-(2 ^ 62) ≤ i ∧ i < 2 ^ 62 ∧ -(2 ^ 62) ≤ j ∧ j < 2 ^ 62) ∧ LcJ (Itr i (j - i).toNat) g tt te vs σ H1 Q
  | _ => False
section
variable {X : Cx} {e a b target : Expr} {body : List Stmt} {tl : TE} {ta : TA} {g : TG} {tb : TS} {pos p p2 : Pos}
theorem d_forL (hp : PassesOwn (model X.prog X.w) X.A X.env X.xe) (hc : X.calm = true) (hl : PE X e tl) (hg : PG X target g) (hb : PSs X body tb)
    (hs : ∀ x, foldedSetIterable e X.env x = pure x := by intro _; rfl) : PS X (.For target e body [] pos) (dForL X.K tl g tb) :=
  psI (ps_for hp hc (pi_list (peM hl)) hg hb hs) fun D σ H q1 => ⟨_, q1, fun v H' q2 => by
    split at q2
    · exact ⟨_, rfl, q2.1, q2.2⟩
    · exact q2.elim⟩
theorem d_forT (hp : PassesOwn (model X.prog X.w) X.A X.env X.xe) (hc : X.calm = true) (hl : PE X e tl) (hg : PG X target g) (hb : PSs X body tb)
    (hs : ∀ x, foldedSetIterable e X.env x = pure x := by intro _; rfl) : PS X (.For target e body [] pos) (dForT X.K tl g tb) :=
  psI (ps_for hp hc (pi_tup (peM hl)) hg hb hs) fun D σ H q1 => ⟨_, q1, fun v H' q2 => by
    split at q2
    · exact ⟨_, rfl, q2.1, q2.2⟩
    · exact q2.elim⟩
theorem d_forR1 (hp : PassesOwn (model X.prog X.w) X.A X.env X.xe) (hc : X.calm = true) (hm : X.mg "range" = none) (ha : PA X [a] ta) (hg : PG X target g) (hb : PSs X body tb) (hgl : Gl X "range" := by rfl)
    (hs : ∀ x, foldedSetIterable (.Call (.Name "range" p) [a] [] p2) X.env x = pure x := by intro _; rfl) (hst : starEach [a] X.env = [(false, eval a X.env)] := by rfl) : PS X (.For target (.Call (.Name "range" p) [a] [] p2) body [] pos) (dForR1 ta g tb) :=
  psI (ps_for hp hc (pi_range1 hgl hm (paM ha) hst) hg hb hs) fun D σ H q1 => ⟨_, q1, fun vs H1 q2 => by
    split at q2
    · exact ⟨_, rfl, q2.1.1, q2.1.2, q2.2⟩
    · exact q2.elim⟩
theorem d_forR2 (hp : PassesOwn (model X.prog X.w) X.A X.env X.xe) (hc : X.calm = true) (hm : X.mg "range" = none) (ha : PA X [a, b] ta) (hg : PG X target g) (hb : PSs X body tb) (hgl : Gl X "range" := by rfl)
    (hs : ∀ x, foldedSetIterable (.Call (.Name "range" p) [a, b] [] p2) X.env x = pure x := by intro _; rfl) (hst : starEach [a, b] X.env = [(false, eval a X.env), (false, eval b X.env)] := by rfl) (hst2 : starEach [b] X.env = [(false, eval b X.env)] := by rfl) : PS X (.For target (.Call (.Name "range" p) [a, b] [] p2) body [] pos) (dForR2 ta g tb) :=
  psI (ps_for hp hc (pi_range2 hgl hm (paM ha) hst hst2) hg hb hs) fun D σ H q1 => ⟨_, q1, fun vs H1 q2 => by
    split at q2
    · exact ⟨_, _, rfl, q2.1, q2.2⟩
    · exact q2.elim⟩
end
section
variable {X : Cx} {e a b elt tg : Expr} {ifs : List Expr} {scope : Scope} {own : List (Str × Nat)} {tl te : TE} {ta : TA} {g : TG} {tt : TT} {pos p p2 : Pos}
abbrev BG (X : Cx) (scope : Scope) (tg : Expr) (g : TG) : Prop := ∀ (s : Shared) (H : Hp) (C : Addr) (cl : List (Str × Addr)) (fp : List Addr), PG (X.blk s H scope (compEnvC scope cl C X.env) fp) tg g
abbrev BT (X : Cx) (scope : Scope) (ifs : List Expr) (t : TT) : Prop := ∀ (s : Shared) (H : Hp) (C : Addr) (cl : List (Str × Addr)) (fp : List Addr), PTs (X.blk s H scope (compEnvC scope cl C X.env) fp) ifs t
abbrev BE (X : Cx) (scope : Scope) (e : Expr) (t : TE) : Prop := ∀ (s : Shared) (H : Hp) (C : Addr) (cl : List (Str × Addr)) (fp : List Addr), PE (X.blk s H scope (compEnvC scope cl C X.env) fp) e t
theorem lc_l {tl : TE} {σ : L2.St} {H : Hp} {Q : VK} {K : PySem.W.Frag} {vs : List Nat} (q1 : dLcL K tl g tt te vs σ H Q) : tLc (iList K (mE tl)) g tt te vs σ H Q := ⟨_, q1, fun v H' q2 => by
  split at q2
  · exact ⟨_, rfl, q2.1, q2.2⟩
  · exact q2.elim⟩
theorem lc_t {tl : TE} {σ : L2.St} {H : Hp} {Q : VK} {K : PySem.W.Frag} {vs : List Nat} (q1 : dLcT K tl g tt te vs σ H Q) : tLc (iTup K (mE tl)) g tt te vs σ H Q := ⟨_, q1, fun v H' q2 => by
  split at q2
  · exact ⟨_, rfl, q2.1, q2.2⟩
  · exact q2.elim⟩
theorem lc_r1 {σ : L2.St} {H : Hp} {Q : VK} {vs : List Nat} (q1 : dLcR1 ta g tt te vs σ H Q) : tLc (iRng1 (mA ta)) g tt te vs σ H Q := ⟨_, q1, fun v H' q2 => by
  split at q2
  · exact ⟨_, rfl, q2.1.1, q2.1.2, q2.2⟩
  · exact q2.elim⟩
theorem lc_r2 {σ : L2.St} {H : Hp} {Q : VK} {vs : List Nat} (q1 : dLcR2 ta g tt te vs σ H Q) : tLc (iRng2 (mA ta)) g tt te vs σ H Q := ⟨_, q1, fun v H' q2 => by
  split at q2
  · exact ⟨_, _, rfl, q2.1, q2.2⟩
  · exact q2.elim⟩
theorem d_lcL (hc : X.calm = true) (hN : X.N.Nodup) (hl : PE X e tl) (ok : BlkOk X.N X.env.scope scope own) (hg : BG X scope tg g) (ht : BT X scope ifs tt) (he : BE X scope elt te) (hs : ∀ x, foldedSetIterable e X.env x = pure x := by intro _; rfl) :
    PE X (.ListComp elt [⟨tg, e, ifs, 0⟩] scope pos) (dLcL X.K tl g tt te (own.map (·.2))) := peI (pe_lc hc hN (pi_list (peM hl)) ok hg ht he hs) fun _ _ _ q => lc_l q
theorem d_lcT (hc : X.calm = true) (hN : X.N.Nodup) (hl : PE X e tl) (ok : BlkOk X.N X.env.scope scope own) (hg : BG X scope tg g) (ht : BT X scope ifs tt) (he : BE X scope elt te) (hs : ∀ x, foldedSetIterable e X.env x = pure x := by intro _; rfl) :
    PE X (.ListComp elt [⟨tg, e, ifs, 0⟩] scope pos) (dLcT X.K tl g tt te (own.map (·.2))) := peI (pe_lc hc hN (pi_tup (peM hl)) ok hg ht he hs) fun _ _ _ q => lc_t q
theorem d_lcH (hot : L2H.HotC X) (hN : X.N.Nodup) (hl : PE X e tl) (ok : BlkOk X.N X.env.scope scope own) (hg : BG X scope tg g) (ht : BT X scope ifs tt) (he : BE X scope elt te) (hs : ∀ x, foldedSetIterable e X.env x = pure x := by intro _; rfl) :
    PE X (.ListComp elt [⟨tg, e, ifs, 0⟩] scope pos) (dLcL X.K tl g tt te (own.map (·.2))) := peI (pe_lcH hot hN (peM hl) ok hg ht he hs) fun _ _ _ q => lc_l q
theorem d_lcR1 (hc : X.calm = true) (hN : X.N.Nodup) (hm : X.mg "range" = none) (ha : PA X [a] ta) (ok : BlkOk X.N X.env.scope scope own) (hg : BG X scope tg g) (ht : BT X scope ifs tt) (he : BE X scope elt te) (hgl : Gl X "range" := by rfl)
    (hs : ∀ x, foldedSetIterable (.Call (.Name "range" p) [a] [] p2) X.env x = pure x := by intro _; rfl) (hst : starEach [a] X.env = [(false, eval a X.env)] := by rfl) :
    PE X (.ListComp elt [⟨tg, .Call (.Name "range" p) [a] [] p2, ifs, 0⟩] scope pos) (dLcR1 ta g tt te (own.map (·.2))) := peI (pe_lc hc hN (pi_range1 hgl hm (paM ha) hst) ok hg ht he hs) fun _ _ _ q => lc_r1 q
theorem d_lcR2 (hc : X.calm = true) (hN : X.N.Nodup) (hm : X.mg "range" = none) (ha : PA X [a, b] ta) (ok : BlkOk X.N X.env.scope scope own) (hg : BG X scope tg g) (ht : BT X scope ifs tt) (he : BE X scope elt te) (hgl : Gl X "range" := by rfl)
    (hs : ∀ x, foldedSetIterable (.Call (.Name "range" p) [a, b] [] p2) X.env x = pure x := by intro _; rfl) (hst : starEach [a, b] X.env = [(false, eval a X.env), (false, eval b X.env)] := by rfl) (hst2 : starEach [b] X.env = [(false, eval b X.env)] := by rfl) :
    PE X (.ListComp elt [⟨tg, .Call (.Name "range" p) [a, b] [] p2, ifs, 0⟩] scope pos) (dLcR2 ta g tt te (own.map (·.2))) := peI (pe_lc hc hN (pi_range2 hgl hm (paM ha) hst hst2) ok hg ht he hs) fun _ _ _ q => lc_r2 q
variable {i : Nat} {y : Str} {py spos : Pos}
theorem d_setL (hc : X.calm = true) (hN : X.N.Nodup) (hy : X.N[i]? = some y) (hyl : X.env.scope.names.lookup y = some .local) (hsw : swapsWith (.ListComp elt [⟨tg, e, ifs, 0⟩] scope pos) (some (.Name y py)) spos.line X.env = pure true)
    (hl : PE X e tl) (ok : BlkOk X.N X.env.scope scope own) (hg : BG X scope tg g) (ht : BT X scope ifs tt) (he : BE X scope elt te) (hs : ∀ x, foldedSetIterable e X.env x = pure x := by intro _; rfl) :
    PS X (.Assign [.Name y py] (.ListComp elt [⟨tg, e, ifs, 0⟩] scope pos) spos) (tAsg (dLcL X.K tl g tt te (own.map (·.2))) (gName i)) := psI (ps_setLc hc hN hy hyl hsw (pi_list (peM hl)) ok hg ht he hs) fun _ _ _ q => lc_l q
theorem d_setT (hc : X.calm = true) (hN : X.N.Nodup) (hy : X.N[i]? = some y) (hyl : X.env.scope.names.lookup y = some .local) (hsw : swapsWith (.ListComp elt [⟨tg, e, ifs, 0⟩] scope pos) (some (.Name y py)) spos.line X.env = pure true)
    (hl : PE X e tl) (ok : BlkOk X.N X.env.scope scope own) (hg : BG X scope tg g) (ht : BT X scope ifs tt) (he : BE X scope elt te) (hs : ∀ x, foldedSetIterable e X.env x = pure x := by intro _; rfl) :
    PS X (.Assign [.Name y py] (.ListComp elt [⟨tg, e, ifs, 0⟩] scope pos) spos) (tAsg (dLcT X.K tl g tt te (own.map (·.2))) (gName i)) := psI (ps_setLc hc hN hy hyl hsw (pi_tup (peM hl)) ok hg ht he hs) fun _ _ _ q => lc_t q
theorem d_setR1 (hc : X.calm = true) (hN : X.N.Nodup) (hy : X.N[i]? = some y) (hyl : X.env.scope.names.lookup y = some .local) (hsw : swapsWith (.ListComp elt [⟨tg, .Call (.Name "range" p) [a] [] p2, ifs, 0⟩] scope pos) (some (.Name y py)) spos.line X.env = pure true)
    (hm : X.mg "range" = none) (ha : PA X [a] ta) (ok : BlkOk X.N X.env.scope scope own) (hg : BG X scope tg g) (ht : BT X scope ifs tt) (he : BE X scope elt te) (hgl : Gl X "range" := by rfl)
    (hs : ∀ x, foldedSetIterable (.Call (.Name "range" p) [a] [] p2) X.env x = pure x := by intro _; rfl) (hst : starEach [a] X.env = [(false, eval a X.env)] := by rfl) :
    PS X (.Assign [.Name y py] (.ListComp elt [⟨tg, .Call (.Name "range" p) [a] [] p2, ifs, 0⟩] scope pos) spos) (tAsg (dLcR1 ta g tt te (own.map (·.2))) (gName i)) := psI (ps_setLc hc hN hy hyl hsw (pi_range1 hgl hm (paM ha) hst) ok hg ht he hs) fun _ _ _ q => lc_r1 q
end
/-! ### how loops and comprehensions are answered -/
/-- what stands as a tuple stays so -/
def KT (H H' : Hp) : Prop := ∀ a xs, H a = some (.tup xs) → H' a = some (.tup xs)
theorem KT.refl (H : Hp) : KT H H := fun _ _ h => h
theorem KT.trans {H H1 H2 : Hp} (a : KT H H1) (b : KT H1 H2) : KT H H2 := fun c o h => b c o (a c o h)
theorem KT.same {H H' : Hp} (s : Same H H') : KT H H' := fun a xs h => s a _ h
theorem KT.new {H : Hp} {p : Addr} {o : HO} (h : H p = none) : KT H (upd H p o) := fun a xs e => by rw [upd_ne (ne_of_none e h)]; exact e
theorem same_new {H : Hp} {p : Addr} {o : HO} (h : H p = none) : Same H (upd H p o) := fun a xs e => by rw [upd_ne (ne_of_none e h)]; exact e
theorem same_mut {H H' : Hp} {p : Addr} {o : HO} (s : Same H H') (h : H p = none) : Same H (upd H' p o) := fun a xs e => by rw [upd_ne (ne_of_none e h)]; exact s a _ e
def isTup : Option HO → Bool
  | some (.tup _) => true
  | _ => false
theorem KT.mut {H : Hp} {p : Addr} {o : HO} (h : isTup (H p) = false) : KT H (upd H p o) := fun a xs e => by
  rw [upd_ne (fun z => by rw [← z, e] at h; cases h)]
  exact e
theorem forL_go {K : PySem.W.Frag} {a : Addr} {xs : List V} {g : TG} {tb : TS} {D : Ends} {σ : L2.St} {H : Hp} (hq : SqL K H a xs) (Pv : Nat → L2.St → Hp → Prop) (h0 : Pv 0 σ H) (hl : ∀ i σ H, i ≤ xs.length → Pv i σ H → SqL K H a xs)
    (hs : ∀ i x σ H, xs[i]? = some x → Pv i σ H → g x σ H fun σ2 H2 => tb { D with nx := Pv (i + 1), ct := Pv (i + 1), bk := D.nx } σ2 H2) (hd : ∀ σ H, Pv xs.length σ H → D.nx σ H) : ForL K a g tb D σ H := ⟨⟨_, hq⟩, for_list Pv h0 hl hs hd⟩
theorem forT_go {K : PySem.W.Frag} {a : Addr} {xs : List V} {g : TG} {tb : TS} {D : Ends} {σ : L2.St} {H : Hp} (hq : SqT K H a xs) (Pv : Nat → L2.St → Hp → Prop) (h0 : Pv 0 σ H) (hl : ∀ i σ H, i ≤ xs.length → Pv i σ H → SqT K H a xs)
    (hs : ∀ i x σ H, xs[i]? = some x → Pv i σ H → g x σ H fun σ2 H2 => tb { D with nx := Pv (i + 1), ct := Pv (i + 1), bk := D.nx } σ2 H2) (hd : ∀ σ H, Pv xs.length σ H → D.nx σ H) : ForT K a g tb D σ H := ⟨⟨_, hq⟩, for_tup Pv h0 hl hs hd⟩
theorem forR_go {lo : Int} {n : Nat} {g : TG} {tb : TS} {D : Ends} {σ : L2.St} {H : Hp} (Pv : Nat → L2.St → Hp → Prop) (h0 : Pv 0 σ H)
    (hs : ∀ i σ H, i < n → Pv i σ H → g (.int (lo + i)) σ H fun σ2 H2 => tb { D with nx := Pv (i + 1), ct := Pv (i + 1), bk := D.nx } σ2 H2) (hd : ∀ σ H, Pv n σ H → D.nx σ H) : ForR lo n g tb D σ H := for_range Pv h0 hs hd
/-- one turn of a comprehension: kept with a value, or left out -/
abbrev LcTurn (g : TG) (tt : TT) (te : TE) (vs : List Nat) (σ : L2.St) (x : V) (H : Hp) (k1 : VK) (k0 : Hp → Prop) : Prop :=
  g x (wipe σ vs) H fun σ2 H2 => wipe σ2 vs = wipe σ vs ∧ tt σ2 H2 fun b H3 => if b = true then te σ2 H3 k1 else k0 H3
theorem paired_app {α β : Type} {F : α → β → Prop} : ∀ {l₁ : List α} {l₂ : List β} {m₁ : List α} {m₂ : List β}, Paired F l₁ l₂ → Paired F m₁ m₂ → Paired F (l₁ ++ m₁) (l₂ ++ m₂)
  | _, _, _, _, .nil, h => h
  | _, _, _, _, .cons r t, h => .cons r (paired_app t h)
theorem lcL_core {K : PySem.W.Frag} {a : Addr} {xs : List V} {g : TG} {tt : TT} {te : TE} {vs : List Nat} {σ : L2.St} {H1 : Hp} {Q : VK} (hq : SqL K H1 a xs) (hz : xs.length ≤ 1000000) (f : V → Bool) (R : V → V → Hp → Prop)
    (st : ∀ x y H H', KT H H' → R x y H → R x y H')
    (turn : ∀ x ∈ xs, ∀ H, Same H1 H → ∀ (k1 : VK) (k0 : Hp → Prop), (f x = true → ∀ y H', Same H H' → R x y H' → k1 y H') → (f x = false → ∀ H', Same H H' → k0 H') → LcTurn g tt te vs σ x H k1 k0)
    (hd : ∀ D H ys, H1 D = none → Same H1 H → H D = some (.lst ys) → Paired (fun x y => R x y H) (xs.filter f) ys → Q (.ref D) H) : LcL K a g tt te vs σ H1 Q := by
  refine ⟨⟨_, hq⟩, fun D hD => lc_list (K := K) (a := a) (xs := xs) (fun i H => Same H1 H ∧ ∃ ys, H D = some (.lst ys) ∧ ys.length ≤ i ∧ Paired (fun x y => R x y H) ((xs.take i).filter f) ys) ⟨same_new hD, [], upd_same, Nat.le_refl _, .nil⟩ (fun i H _ p => p.1.seq hq) ?_ ?_⟩
  · rintro i x H hx ⟨s, ys, hDs, hy, pr⟩
    have hlt := (List.getElem?_eq_some_iff.mp hx).1
    have e1 : xs.take (i + 1) = xs.take i ++ [x] := by rw [List.take_succ, hx]; rfl
    refine turn x (List.mem_of_getElem? hx) H s _ _ (fun hf y H' s' r => ⟨ys, s' D _ hDs, Nat.lt_of_le_of_lt hy (by rw [sizeLine_eq]; omega), same_mut (s.trans s') hD, ys ++ [y], upd_same, by rw [List.length_append]; exact Nat.succ_le_succ hy, ?_⟩) fun hf H' s' => ⟨s.trans s', ys, s' D _ hDs, Nat.le_succ_of_le hy, ?_⟩
    · have kt : KT H (upd H' D (.lst (ys ++ [y]))) := (KT.same s').trans (KT.mut (by rw [s' D _ hDs]; rfl))
      have kt2 : KT H' (upd H' D (.lst (ys ++ [y]))) := KT.mut (by rw [s' D _ hDs]; rfl)
      rw [e1, List.filter_append, List.filter_cons, if_pos hf]
      exact paired_app (Paired.mapP pr fun _ _ z => st _ _ _ _ kt z) (.cons (st _ _ _ _ kt2 r) .nil)
    · rw [e1, List.filter_append, List.filter_cons, if_neg (by rw [hf]; decide), List.filter_nil, List.append_nil]
      exact Paired.mapP pr fun _ _ z => st _ _ _ _ (KT.same s') z
  · rintro H ⟨s, ys, hDs, hy, pr⟩
    rw [List.take_length] at pr
    exact hd D H ys hD s hDs pr
/-! ### isinstance of built-in values -/
def tyName (x : V) (H : Hp) : Option String := match x with
  | .int _ => some "int"
  | .bl _ => some "bool"
  | .non => some "NoneType"
  | .str _ => some "str"
  | .ref p => match H p with
    | some (.lst _) => some "list"
    | some (.tup _) => some "tuple"
    | some (.dK _) => some "dict"
    | _ => none
  | _ => none
def isK (a b : String) : Bool := (kitB a b).getD false
def isKnown (a b : String) : Bool := (kitB a b).isSome
def dIsi : List V → Hp → VK → Prop := fun xs H Q => match xs with
  | [x, .ty n] => match tyName x H with
    | some a => isKnown a n = true ∧ Q (.bl (isK a n)) H
    | none => False
  | _ => False
theorem tyName_of {K : PySem.W.Frag} {x : V} {H : Hp} {a : String} (h : tyName x H = some a) : TyX K H x (.type a) := by
  unfold tyName at h
  split at h
  · cases h; exact .base (.int _)
  · cases h; exact .base (.bl _)
  · cases h; exact .base .non
  · cases h; exact .base (.str _)
  · split at h
    · rename_i e
      cases h
      exact .base (.lst e)
    · rename_i e
      cases h
      exact .base (.tup e)
    · rename_i e
      cases h
      exact .base (.dK e)
    · cases h
  · cases h
section
variable {X : Cx}
theorem d_isi : CallR X (.builtin "isinstance") dIsi := caM (call_isi (X := X)) fun xs H Q q => by
  unfold dIsi at q
  split at q
  · split at q
    · rename_i n _ a e
      obtain ⟨k, q⟩ := q
      refine ⟨_, _, _, _, isK a n, rfl, .ty n, tyName_of e, ?_, q⟩
      refine kit_ty ?_
      unfold isKnown at k
      unfold isK
      obtain ⟨b, hb⟩ := Option.isSome_iff_exists.mp k
      rw [hb] <;> rfl
    · exact q.elim
  · exact q.elim
end
theorem is_int_int : isK "int" "int" = true := by decide +kernel
theorem kn_int_int : isKnown "int" "int" = true := by decide +kernel
theorem is_int_bool : isK "int" "bool" = false := by decide +kernel
theorem kn_int_bool : isKnown "int" "bool" = true := by decide +kernel
theorem is_int_str : isK "int" "str" = false := by decide +kernel
theorem kn_int_str : isKnown "int" "str" = true := by decide +kernel
theorem is_int_list : isK "int" "list" = false := by decide +kernel
theorem kn_int_list : isKnown "int" "list" = true := by decide +kernel
theorem is_int_tuple : isK "int" "tuple" = false := by decide +kernel
theorem kn_int_tuple : isKnown "int" "tuple" = true := by decide +kernel
theorem is_int_dict : isK "int" "dict" = false := by decide +kernel
theorem kn_int_dict : isKnown "int" "dict" = true := by decide +kernel
theorem is_bool_int : isK "bool" "int" = true := by decide +kernel
theorem kn_bool_int : isKnown "bool" "int" = true := by decide +kernel
theorem is_bool_bool : isK "bool" "bool" = true := by decide +kernel
theorem kn_bool_bool : isKnown "bool" "bool" = true := by decide +kernel
theorem is_bool_str : isK "bool" "str" = false := by decide +kernel
theorem kn_bool_str : isKnown "bool" "str" = true := by decide +kernel
theorem is_bool_list : isK "bool" "list" = false := by decide +kernel
theorem kn_bool_list : isKnown "bool" "list" = true := by decide +kernel
theorem is_bool_tuple : isK "bool" "tuple" = false := by decide +kernel
theorem kn_bool_tuple : isKnown "bool" "tuple" = true := by decide +kernel
theorem is_bool_dict : isK "bool" "dict" = false := by decide +kernel
theorem kn_bool_dict : isKnown "bool" "dict" = true := by decide +kernel
theorem is_NoneType_int : isK "NoneType" "int" = false := by decide +kernel
theorem kn_NoneType_int : isKnown "NoneType" "int" = true := by decide +kernel
theorem is_NoneType_bool : isK "NoneType" "bool" = false := by decide +kernel
theorem kn_NoneType_bool : isKnown "NoneType" "bool" = true := by decide +kernel
theorem is_NoneType_str : isK "NoneType" "str" = false := by decide +kernel
theorem kn_NoneType_str : isKnown "NoneType" "str" = true := by decide +kernel
theorem is_NoneType_list : isK "NoneType" "list" = false := by decide +kernel
theorem kn_NoneType_list : isKnown "NoneType" "list" = true := by decide +kernel
theorem is_NoneType_tuple : isK "NoneType" "tuple" = false := by decide +kernel
theorem kn_NoneType_tuple : isKnown "NoneType" "tuple" = true := by decide +kernel
theorem is_NoneType_dict : isK "NoneType" "dict" = false := by decide +kernel
theorem kn_NoneType_dict : isKnown "NoneType" "dict" = true := by decide +kernel
theorem is_str_int : isK "str" "int" = false := by decide +kernel
theorem kn_str_int : isKnown "str" "int" = true := by decide +kernel
theorem is_str_bool : isK "str" "bool" = false := by decide +kernel
theorem kn_str_bool : isKnown "str" "bool" = true := by decide +kernel
theorem is_str_str : isK "str" "str" = true := by decide +kernel
theorem kn_str_str : isKnown "str" "str" = true := by decide +kernel
theorem is_str_list : isK "str" "list" = false := by decide +kernel
theorem kn_str_list : isKnown "str" "list" = true := by decide +kernel
theorem is_str_tuple : isK "str" "tuple" = false := by decide +kernel
theorem kn_str_tuple : isKnown "str" "tuple" = true := by decide +kernel
theorem is_str_dict : isK "str" "dict" = false := by decide +kernel
theorem kn_str_dict : isKnown "str" "dict" = true := by decide +kernel
theorem is_list_int : isK "list" "int" = false := by decide +kernel
theorem kn_list_int : isKnown "list" "int" = true := by decide +kernel
theorem is_list_bool : isK "list" "bool" = false := by decide +kernel
theorem kn_list_bool : isKnown "list" "bool" = true := by decide +kernel
theorem is_list_str : isK "list" "str" = false := by decide +kernel
theorem kn_list_str : isKnown "list" "str" = true := by decide +kernel
theorem is_list_list : isK "list" "list" = true := by decide +kernel
theorem kn_list_list : isKnown "list" "list" = true := by decide +kernel
theorem is_list_tuple : isK "list" "tuple" = false := by decide +kernel
theorem kn_list_tuple : isKnown "list" "tuple" = true := by decide +kernel
theorem is_list_dict : isK "list" "dict" = false := by decide +kernel
theorem kn_list_dict : isKnown "list" "dict" = true := by decide +kernel
theorem is_tuple_int : isK "tuple" "int" = false := by decide +kernel
theorem kn_tuple_int : isKnown "tuple" "int" = true := by decide +kernel
theorem is_tuple_bool : isK "tuple" "bool" = false := by decide +kernel
theorem kn_tuple_bool : isKnown "tuple" "bool" = true := by decide +kernel
theorem is_tuple_str : isK "tuple" "str" = false := by decide +kernel
theorem kn_tuple_str : isKnown "tuple" "str" = true := by decide +kernel
theorem is_tuple_list : isK "tuple" "list" = false := by decide +kernel
theorem kn_tuple_list : isKnown "tuple" "list" = true := by decide +kernel
theorem is_tuple_tuple : isK "tuple" "tuple" = true := by decide +kernel
theorem kn_tuple_tuple : isKnown "tuple" "tuple" = true := by decide +kernel
theorem is_tuple_dict : isK "tuple" "dict" = false := by decide +kernel
theorem kn_tuple_dict : isKnown "tuple" "dict" = true := by decide +kernel
theorem is_dict_int : isK "dict" "int" = false := by decide +kernel
theorem kn_dict_int : isKnown "dict" "int" = true := by decide +kernel
theorem is_dict_bool : isK "dict" "bool" = false := by decide +kernel
theorem kn_dict_bool : isKnown "dict" "bool" = true := by decide +kernel
theorem is_dict_str : isK "dict" "str" = false := by decide +kernel
theorem kn_dict_str : isKnown "dict" "str" = true := by decide +kernel
theorem is_dict_list : isK "dict" "list" = false := by decide +kernel
theorem kn_dict_list : isKnown "dict" "list" = true := by decide +kernel
theorem is_dict_tuple : isK "dict" "tuple" = false := by decide +kernel
theorem kn_dict_tuple : isKnown "dict" "tuple" = true := by decide +kernel
theorem is_dict_dict : isK "dict" "dict" = true := by decide +kernel
theorem kn_dict_dict : isKnown "dict" "dict" = true := by decide +kernel
theorem lcR_core {lo : Int} {n : Nat} {g : TG} {tt : TT} {te : TE} {vs : List Nat} {σ : L2.St} {H1 : Hp} {Q : VK} (hz : n ≤ 1000000) (f : Nat → Bool) (R : Nat → V → Hp → Prop)
    (st : ∀ x y H H', KT H H' → R x y H → R x y H')
    (turn : ∀ (i : Nat), i < n → ∀ H, Same H1 H → ∀ (k1 : VK) (k0 : Hp → Prop), (f i = true → ∀ y H', Same H H' → R i y H' → k1 y H') → (f i = false → ∀ H', Same H H' → k0 H') → LcTurn g tt te vs σ (.int (lo + (i : Nat))) H k1 k0)
    (hd : ∀ D H ys, H1 D = none → Same H1 H → H D = some (.lst ys) → Paired (fun x y => R x y H) ((List.range n).filter f) ys → Q (.ref D) H) : LcJ (Itr lo n) g tt te vs σ H1 Q := by
  refine fun D hD => lc_range (lo := lo) (n := n) (fun i H => Same H1 H ∧ ∃ ys, H D = some (.lst ys) ∧ ys.length ≤ i ∧ Paired (fun x y => R x y H) ((List.range i).filter f) ys) ⟨same_new hD, [], upd_same, Nat.le_refl _, .nil⟩ ?_ ?_
  · rintro i H hlt ⟨s, ys, hDs, hy, pr⟩
    refine turn i hlt H s _ _ (fun hf y H' s' r => ⟨ys, s' D _ hDs, Nat.lt_of_le_of_lt hy (by rw [sizeLine_eq]; omega), same_mut (s.trans s') hD, ys ++ [y], upd_same, by rw [List.length_append]; exact Nat.succ_le_succ hy, ?_⟩) fun hf H' s' => ⟨s.trans s', ys, s' D _ hDs, Nat.le_succ_of_le hy, ?_⟩
    · have kt : KT H (upd H' D (.lst (ys ++ [y]))) := (KT.same s').trans (KT.mut (by rw [s' D _ hDs]; rfl))
      have kt2 : KT H' (upd H' D (.lst (ys ++ [y]))) := KT.mut (by rw [s' D _ hDs]; rfl)
      rw [List.range_succ, List.filter_append, List.filter_cons, if_pos hf]
      exact paired_app (Paired.mapP pr fun _ _ z => st _ _ _ _ kt z) (.cons (st _ _ _ _ kt2 r) .nil)
    · rw [List.range_succ, List.filter_append, List.filter_cons, if_neg (by rw [hf]; decide), List.filter_nil, List.append_nil]
      exact Paired.mapP pr fun _ _ z => st _ _ _ _ (KT.same s') z
  · rintro H ⟨s, ys, hDs, hy, pr⟩
    exact hd D H ys hD s hDs pr
/-! ### nested data, as it is tracked: to a depth -/
def AtomD (v : V) (d : PyData) : Prop := (v = .non ∧ d = .none) ∨ (∃ b, v = .bl b ∧ d = .bool b) ∨ (∃ i, v = .int i ∧ d = .int i) ∨ ∃ x, v = .str x ∧ d = .str x ∧ PyData.strOk x = true
def Da (H : Hp) : Nat → V → PyData → Prop
  | 0, v, d => AtomD v d
  | n + 1, v, d => AtomD v d ∨ (∃ (a : Addr) (xs : List V) (ds : List PyData), v = .ref a ∧ d = .list ds ∧ H a = some (.lst xs) ∧ xs.length ≤ 100000 ∧ Paired (Da H n) xs ds) ∨
    ∃ (a : Addr) (xs : List V) (ds : List PyData), v = .ref a ∧ d = .tuple ds ∧ H a = some (.tup xs) ∧ xs.length ≤ 100000 ∧ Paired (Da H n) xs ds
theorem AtomD.da {v : V} {d : PyData} {H : Hp} (h : AtomD v d) : ∀ {n : Nat}, Da H n v d
  | 0 => h
  | _ + 1 => .inl h
theorem Da.int {H : Hp} {n : Nat} {i : Int} : Da H n (.int i) (.int i) := AtomD.da (.inr (.inr (.inl ⟨i, rfl, rfl⟩)))
theorem Da.bl {H : Hp} {n : Nat} {i : Bool} : Da H n (.bl i) (.bool i) := AtomD.da (.inr (.inl ⟨i, rfl, rfl⟩))
theorem Da.non {H : Hp} {n : Nat} : Da H n .non .none := AtomD.da (.inl ⟨rfl, rfl⟩)
theorem Da.str {H : Hp} {n : Nat} {x : Str} (h : PyData.strOk x = true) : Da H n (.str x) (.str x) := AtomD.da (.inr (.inr (.inr ⟨x, rfl, rfl, h⟩)))
theorem Da.lst {H : Hp} {n : Nat} {a : Addr} {xs : List V} {ds : List PyData} (h : H a = some (.lst xs)) (hl : xs.length ≤ 100000) (p : Paired (Da H n) xs ds) : Da H (n + 1) (.ref a) (.list ds) := .inr (.inl ⟨a, xs, ds, rfl, rfl, h, hl, p⟩)
theorem Da.tup {H : Hp} {n : Nat} {a : Addr} {xs : List V} {ds : List PyData} (h : H a = some (.tup xs)) (hl : xs.length ≤ 100000) (p : Paired (Da H n) xs ds) : Da H (n + 1) (.ref a) (.tuple ds) := .inr (.inr ⟨a, xs, ds, rfl, rfl, h, hl, p⟩)
theorem Da.same {H H' : Hp} (s : Same H H') : ∀ {n : Nat} {v : V} {d : PyData}, Da H n v d → Da H' n v d
  | 0, _, _, h => h
  | n + 1, v, d, h => by
    rcases h with h | ⟨a, xs, ds, e1, e2, h, hl, p⟩ | ⟨a, xs, ds, e1, e2, h, hl, p⟩
    · exact .inl h
    · exact .inr (.inl ⟨a, xs, ds, e1, e2, s a _ h, hl, Paired.mapP p fun _ _ q => Da.same s q⟩)
    · exact .inr (.inr ⟨a, xs, ds, e1, e2, s a _ h, hl, Paired.mapP p fun _ _ q => Da.same s q⟩)
theorem AtomD.dp {K : PySem.W.Frag} {H : Hp} {v : V} {d : PyData} (h : AtomD v d) : Dp K H v d := by
  rcases h with ⟨rfl, rfl⟩ | ⟨b, rfl, rfl⟩ | ⟨b, rfl, rfl⟩ | ⟨x, rfl, rfl, _⟩
  · exact .non
  · exact .bl _
  · exact .int _
  · exact .str _
theorem dpAll {K : PySem.W.Frag} {H : Hp} : ∀ {xs : List V} {ds : List PyData}, Paired (Dp K H) xs ds → DpAll K H xs ds
  | _, _, .nil => .nil
  | _, _, .cons h t => .cons h (dpAll t)
theorem Da.dp {K : PySem.W.Frag} {H : Hp} : ∀ {n : Nat} {v : V} {d : PyData}, Da H n v d → Dp K H v d
  | 0, _, _, h => AtomD.dp h
  | n + 1, v, d, h => by
    rcases h with h | ⟨a, xs, ds, rfl, rfl, h, hl, p⟩ | ⟨a, xs, ds, rfl, rfl, h, hl, p⟩
    · exact AtomD.dp h
    · exact .lst (SqL.of h) (dpAll (Paired.mapP p fun _ _ q => Da.dp q))
    · exact .tup (SqT.of h) (dpAll (Paired.mapP p fun _ _ q => Da.dp q))
theorem AtomD.lay {v : V} {d : PyData} (h : AtomD v d) : d.canLay0 = true ∧ d.depth = 0 := by
  rcases h with ⟨rfl, rfl⟩ | ⟨b, rfl, rfl⟩ | ⟨b, rfl, rfl⟩ | ⟨x, rfl, rfl, hx⟩
  · exact ⟨by simp [PyData.canLay0], by simp [PyData.depth]⟩
  · exact ⟨by simp [PyData.canLay0], by simp [PyData.depth]⟩
  · exact ⟨by simp [PyData.canLay0], by simp [PyData.depth]⟩
  · exact ⟨by simpa [PyData.canLay0] using hx, by simp [PyData.depth]⟩
theorem Da.lays {H : Hp} {n : Nat} (ih : ∀ {v : V} {d : PyData}, Da H n v d → d.canLay0 = true ∧ d.depth ≤ n) : ∀ {xs : List V} {ds : List PyData}, Paired (Da H n) xs ds → PyData.canLayAll0 ds = true ∧ PyData.depthAll ds ≤ n
  | _, _, .nil => ⟨by simp [PyData.canLayAll0], by simp [PyData.depthAll]⟩
  | _, _, .cons h t => by
    obtain ⟨a, b⟩ := ih h
    obtain ⟨c, d⟩ := Da.lays ih t
    exact ⟨by simp [PyData.canLayAll0, a, c], by simp only [PyData.depthAll]; omega⟩
theorem Da.lay {H : Hp} : ∀ {n : Nat} {v : V} {d : PyData}, Da H n v d → d.canLay0 = true ∧ d.depth ≤ n
  | 0, _, _, h => ⟨(AtomD.lay h).1, Nat.le_of_eq (AtomD.lay h).2⟩
  | n + 1, v, d, h => by
    rcases h with h | ⟨a, xs, ds, rfl, rfl, h, hl, p⟩ | ⟨a, xs, ds, rfl, rfl, h, hl, p⟩
    · exact ⟨(AtomD.lay h).1, by have := (AtomD.lay h).2; omega⟩
    · obtain ⟨a, b⟩ := Da.lays (fun q => Da.lay q) p
      exact ⟨by simpa [PyData.canLay0] using a, by simp only [PyData.depth]; omega⟩
    · obtain ⟨a, b⟩ := Da.lays (fun q => Da.lay q) p
      exact ⟨by simpa [PyData.canLay0] using a, by simp only [PyData.depth]; omega⟩
theorem Da.shaped {H : Hp} {n : Nat} {v : V} {d : PyData} (h : Da H n v d) (hn : n ≤ 64) : SeqAt.shaped d = true := by
  obtain ⟨a, b⟩ := Da.lay h
  show (d.canLay0 && decide (d.depth ≤ 64)) = true
  rw [a, decide_eq_true (by omega)]
  rfl
theorem pairedAt {α β : Type} {F : α → β → Prop} : ∀ {l₁ : List α} {l₂ : List β} {i : Nat} {y : β}, Paired F l₁ l₂ → l₂[i]? = some y → ∃ x, l₁[i]? = some x ∧ F x y
  | _, _, _, _, .nil, e => by simp at e
  | _, _, 0, _, .cons r _, e => by simp at e; subst e; exact ⟨_, rfl, r⟩
  | _, _, i + 1, _, .cons _ t, e => by
    obtain ⟨x, h1, h2⟩ := pairedAt (i := i) t (by simpa using e)
    exact ⟨x, by simpa using h1, h2⟩
theorem paired_len {α β : Type} {F : α → β → Prop} : ∀ {l₁ : List α} {l₂ : List β}, Paired F l₁ l₂ → l₁.length = l₂.length
  | _, _, .nil => rfl
  | _, _, .cons _ t => congrArg (· + 1) (paired_len t)
/-- == of data that is the same -/
theorem eqD_same {K : PySem.W.Frag} {H : Hp} {Q : VK} {n : Nat} {x y : V} {d : PyData} (h : Da H n x d) (h' : Da H n y d) (hn : n ≤ 64) (q : Q (.bl true) H) : dEqD K x y H Q :=
  ⟨d, d, h.dp, h'.dp, h.shaped hn, h'.shaped hn, by rw [SeqAt.eqv_refl d h.lay.1]; exact q⟩
theorem neD_same {K : PySem.W.Frag} {H : Hp} {Q : VK} {n : Nat} {x y : V} {d : PyData} (h : Da H n x d) (h' : Da H n y d) (hn : n ≤ 64) (q : Q (.bl false) H) : dNeD K x y H Q :=
  ⟨d, d, h.dp, h'.dp, h.shaped hn, h'.shaped hn, by rw [SeqAt.eqv_refl d h.lay.1]; exact q⟩
theorem seqAt_lst {xs : List V} {k : List V → Prop} : seqAt (some (.lst xs)) k = k xs := rfl
theorem seqAt_tup {xs : List V} {k : List V → Prop} : seqAt (some (.tup xs)) k = k xs := rfl
theorem seqAt_frz {o : Obj} {xs : List V} {k : List V → Prop} : seqAt (some (.frz o (.lst xs))) k = k xs := rfl
theorem lstAt_lst {xs : List V} {k : List V → Prop} : lstAt (some (.lst xs)) k = k xs := rfl
theorem tupAt_tup {xs : List V} {k : List V → Prop} : tupAt (some (.tup xs)) k = k xs := rfl
theorem atK_of {xs : List V} {i : Int} {v : V} {k : V → Prop} (h : atI xs i = some v) : atK xs i k = k v := by
  unfold atK
  rw [h]
theorem atI_zero {x : V} {xs : List V} : atI (x :: xs) 0 = some x := atI_nat (j := 0) rfl
theorem atK_zero {x : V} {xs : List V} {k : V → Prop} : atK (x :: xs) 0 k = k x := atK_of atI_zero
theorem atI_one {x y : V} {xs : List V} : atI (x :: y :: xs) 1 = some y := atI_nat (j := 1) rfl
theorem atK_one {x y : V} {xs : List V} {k : V → Prop} : atK (x :: y :: xs) 1 k = k y := atK_of atI_one
theorem atK_last {x : V} {xs : List V} {k : V → Prop} : atK (xs ++ [x]) (-1) k = k x := atK_of (atI_last xs x)
theorem atK_nat {xs : List V} {i : Nat} {v : V} {k : V → Prop} (h : xs[i]? = some v) (q : k v) : atK xs (i : Int) k := by rw [atK_of (atI_nat h)]; exact q
theorem seqE {o : Option HO} {zs : List V} {k : List V → Prop} (h : seqAt o (· = zs)) (hk : k zs) : seqAt o k := by
  unfold seqAt at h ⊢
  split at h <;> first | (subst h; exact hk) | exact h.elim
/-- isinstance(e, C), e the exception at ax, of the class D -/
def dIsE (K : PySem.W.Frag) (D ax : Addr) : List V → Hp → VK → Prop := fun xs H Q => match xs with
  | [.ref a, .ref C] => a = ax ∧ match PySem.W.kitOne K (.ref D) (.ref C) with
    | some b => Q (.bl b) H
    | none => False
  | _ => False
section
variable {X : Cx}
theorem d_isP {a D : Addr} {oe : Obj} (C : ExcC X.K D) (hp : (a, oe) ∈ X.pn) (hz : Zc (.ref D) none oe) (hf : ∃ vs, oe.data = .fields vs) : CallR X (.builtin "isinstance") (dIsE X.K D a) := caM (call_isP C hp hz hf) fun xs H Q q => by
  unfold dIsE at q
  split at q
  · obtain ⟨rfl, q⟩ := q
    split at q
    · rename_i e
      exact ⟨_, _, _, rfl, fun u r => r, e, q⟩
    · exact q.elim
  · exact q.elim
end
theorem seq1 {t u : TS} {D : Ends} {σ : L2.St} {H : Hp} (h : t { D with nx := u D } σ H) : tSeq t u D σ H := h
theorem upd_none {H : Hp} {x r : Addr} {o : HO} (h : upd H x o r = none) : x ≠ r ∧ H r = none := by
  unfold upd at h
  split at h
  · cases h
  · rename_i n
    exact ⟨fun e => n e.symm, h⟩
theorem while_go {c : TT} {tb : TS} {D : Ends} {σ : L2.St} {H : Hp} (W : Nat → L2.St → Hp → Prop) (m : Nat) (h0 : W m σ H)
    (hs : ∀ m σ H, W m σ H → c σ H fun b H1 => if b = true then ∃ N : L2.St → Hp → Prop, (∀ σ' H', N σ' H' → ∃ m', m' < m ∧ W m' σ' H') ∧ tb { D with nx := N, ct := N, bk := D.nx } σ H1 else D.nx σ H1) : tWhile c tb D σ H := ⟨W, ⟨m, h0⟩, hs⟩
theorem upd_fresh {H : Hp} {x r : Addr} {o : HO} : (upd H x o r = none) = (x ≠ r ∧ H r = none) := propext ⟨upd_none, fun ⟨n, h⟩ => by rw [upd_ne (fun e => n e.symm)]; exact h⟩
theorem n00 : ((0 : Nat) : Int) = 0 := rfl
theorem posS {n : Nat} : ((0 : Int) < ((n + 1 : Nat) : Int)) = True := eq_true (by omega)
theorem eqS0 {n : Nat} : (((n + 1 : Nat) : Int) = 0) = False := eq_false (by omega)
theorem lt00 : ((0 : Int) < 0) = False := eq_false (by decide)
theorem turnN {W : Nat → L2.St → Hp → Prop} {m : Nat} {t : (L2.St → Hp → Prop) → Prop} (h : ∀ N : L2.St → Hp → Prop, (∀ m' σ' H', m' < m → W m' σ' H' → N σ' H') → t N) : ∃ N : L2.St → Hp → Prop, (∀ σ' H', N σ' H' → ∃ m', m' < m ∧ W m' σ' H') ∧ t N :=
  ⟨fun σ' H' => ∃ m', m' < m ∧ W m' σ' H', fun _ _ h => h, h _ fun m' σ' H' a b => ⟨m', a, b⟩⟩
theorem while_to {c : TT} {tb : TS} {D : Ends} {σ : L2.St} {H : Hp} (W : Nat → L2.St → Hp → Prop) (X : L2.St → Hp → Prop) (m : Nat) (h0 : W m σ H) (hx : ∀ σ H, X σ H → D.nx σ H)
    (hs : ∀ nx : L2.St → Hp → Prop, (∀ σ H, X σ H → nx σ H) → ∀ m σ H, W m σ H → c σ H fun b H1 => if b = true then ∃ N : L2.St → Hp → Prop, (∀ σ' H', N σ' H' → ∃ m', m' < m ∧ W m' σ' H') ∧ tb { D with nx := N, ct := N, bk := nx } σ H1 else nx σ H1) : tWhile c tb D σ H := ⟨W, ⟨m, h0⟩, hs D.nx hx⟩
theorem forL_to {K : PySem.W.Frag} {a : Addr} {xs : List V} {g : TG} {tb : TS} {D : Ends} {σ : L2.St} {H : Hp} (hq : SqL K H a xs) (Pv : Nat → L2.St → Hp → Prop) (X : L2.St → Hp → Prop) (h0 : Pv 0 σ H) (hl : ∀ i σ H, i ≤ xs.length → Pv i σ H → SqL K H a xs)
    (hd : ∀ σ H, Pv xs.length σ H → X σ H) (hx : ∀ σ H, X σ H → D.nx σ H)
    (hs : ∀ (N nx : L2.St → Hp → Prop), (∀ σ H, X σ H → nx σ H) → ∀ i x σ H, xs[i]? = some x → (∀ σ H, Pv (i + 1) σ H → N σ H) → Pv i σ H → g x σ H fun σ2 H2 => tb { D with nx := N, ct := N, bk := nx } σ2 H2) : ForL K a g tb D σ H := ⟨⟨_, hq⟩, for_list Pv h0 hl (fun i x σ H e p => hs (Pv (i + 1)) D.nx hx i x σ H e (fun _ _ h => h) p) fun σ H p => hx σ H (hd σ H p)⟩
theorem forT_to {K : PySem.W.Frag} {a : Addr} {xs : List V} {g : TG} {tb : TS} {D : Ends} {σ : L2.St} {H : Hp} (hq : SqT K H a xs) (Pv : Nat → L2.St → Hp → Prop) (X : L2.St → Hp → Prop) (h0 : Pv 0 σ H) (hl : ∀ i σ H, i ≤ xs.length → Pv i σ H → SqT K H a xs)
    (hd : ∀ σ H, Pv xs.length σ H → X σ H) (hx : ∀ σ H, X σ H → D.nx σ H)
    (hs : ∀ (N nx : L2.St → Hp → Prop), (∀ σ H, X σ H → nx σ H) → ∀ i x σ H, xs[i]? = some x → (∀ σ H, Pv (i + 1) σ H → N σ H) → Pv i σ H → g x σ H fun σ2 H2 => tb { D with nx := N, ct := N, bk := nx } σ2 H2) : ForT K a g tb D σ H := ⟨⟨_, hq⟩, for_tup Pv h0 hl (fun i x σ H e p => hs (Pv (i + 1)) D.nx hx i x σ H e (fun _ _ h => h) p) fun σ H p => hx σ H (hd σ H p)⟩
theorem forR_to {lo : Int} {n : Nat} {g : TG} {tb : TS} {D : Ends} {σ : L2.St} {H : Hp} (Pv : Nat → L2.St → Hp → Prop) (X : L2.St → Hp → Prop) (h0 : Pv 0 σ H)
    (hd : ∀ σ H, Pv n σ H → X σ H) (hx : ∀ σ H, X σ H → D.nx σ H)
    (hs : ∀ (N nx : L2.St → Hp → Prop), (∀ σ H, X σ H → nx σ H) → ∀ i σ H, i < n → (∀ σ H, Pv (i + 1) σ H → N σ H) → Pv i σ H → g (.int (lo + i)) σ H fun σ2 H2 => tb { D with nx := N, ct := N, bk := nx } σ2 H2) : ForR lo n g tb D σ H := for_range Pv h0 (fun i σ H e p => hs (Pv (i + 1)) D.nx hx i σ H e (fun _ _ h => h) p) fun σ H p => hx σ H (hd σ H p)
theorem le00 : ((0 : Int) ≤ 0) = True := eq_true (by decide)
theorem p63 : ((0 : Int) < 2 ^ 63) = True := eq_true (by decide)
theorem tn0 : Int.toNat 0 = 0 := rfl
theorem erz {α : Type} {x : α} {xs : List α} : (x :: xs).eraseIdx 0 = xs := rfl
theorem last_snoc {α : Type} {x : α} {xs : List α} : (xs ++ [x]).getLast? = some x := by simp
theorem drop_snoc {α : Type} {x : α} {xs : List α} : (xs ++ [x]).dropLast = xs := by simp
theorem len_snoc {α : Type} {x : α} {xs : List α} : (xs ++ [x]).length = xs.length + 1 := by simp
theorem pairedGet {α β : Type} {F : α → β → Prop} : ∀ {l₁ : List α} {l₂ : List β} {i : Nat} {x : α}, Paired F l₁ l₂ → l₁[i]? = some x → ∃ y, l₂[i]? = some y ∧ F x y
  | _, _, _, _, .nil, e => by simp at e
  | _, _, 0, _, .cons r _, e => by simp at e; subst e; exact ⟨_, rfl, r⟩
  | _, _, i + 1, _, .cons _ t, e => by
    obtain ⟨x, h1, h2⟩ := pairedGet (i := i) t (by simpa using e)
    exact ⟨x, by simpa using h1, h2⟩
/-- a comprehension over a list, whose values stand for those of another list -/
theorem lcL_pair {β : Type} {K : PySem.W.Frag} {a : Addr} {xs : List V} {ps : List β} {F : V → β → Prop} {g : TG} {tt : TT} {te : TE} {vs : List Nat} {σ : L2.St} {H1 : Hp} {Q : VK} (hq : SqL K H1 a xs) (pr : Paired F xs ps) (hz : xs.length ≤ 1000000) (f : β → Bool) (R : β → V → Hp → Prop)
    (st : ∀ x y H H', KT H H' → R x y H → R x y H')
    (turn : ∀ (i : Nat) (x : V) (p : β), xs[i]? = some x → ps[i]? = some p → F x p → ∀ H, Same H1 H → ∀ (k1 : VK) (k0 : Hp → Prop), (f p = true → ∀ y H', Same H H' → R p y H' → k1 y H') → (f p = false → ∀ H', Same H H' → k0 H') → LcTurn g tt te vs σ x H k1 k0)
    (hd : ∀ D H ys, H1 D = none → Same H1 H → H D = some (.lst ys) → Paired (fun p y => R p y H) (ps.filter f) ys → Q (.ref D) H) : LcL K a g tt te vs σ H1 Q := by
  refine ⟨⟨_, hq⟩, fun D hD => lc_list (K := K) (a := a) (xs := xs) (fun i H => Same H1 H ∧ ∃ ys, H D = some (.lst ys) ∧ ys.length ≤ i ∧ Paired (fun p y => R p y H) ((ps.take i).filter f) ys) ⟨same_new hD, [], upd_same, Nat.le_refl _, .nil⟩ (fun i H _ p => p.1.seq hq) ?_ ?_⟩
  · rintro i x H hx ⟨s, ys, hDs, hy, pq⟩
    have hlt := (List.getElem?_eq_some_iff.mp hx).1
    obtain ⟨p, hp, hF⟩ := pairedGet pr hx
    have e1 : ps.take (i + 1) = ps.take i ++ [p] := by rw [List.take_succ, hp]; rfl
    refine turn i x p hx hp hF H s _ _ (fun hf y H' s' r => ⟨ys, s' D _ hDs, Nat.lt_of_le_of_lt hy (by rw [sizeLine_eq]; omega), same_mut (s.trans s') hD, ys ++ [y], upd_same, by rw [List.length_append]; exact Nat.succ_le_succ hy, ?_⟩) fun hf H' s' => ⟨s.trans s', ys, s' D _ hDs, Nat.le_succ_of_le hy, ?_⟩
    · have kt : KT H (upd H' D (.lst (ys ++ [y]))) := (KT.same s').trans (KT.mut (by rw [s' D _ hDs]; rfl))
      have kt2 : KT H' (upd H' D (.lst (ys ++ [y]))) := KT.mut (by rw [s' D _ hDs]; rfl)
      rw [e1, List.filter_append, List.filter_cons, if_pos hf]
      exact paired_app (Paired.mapP pq fun _ _ z => st _ _ _ _ kt z) (.cons (st _ _ _ _ kt2 r) .nil)
    · rw [e1, List.filter_append, List.filter_cons, if_neg (by rw [hf]; decide), List.filter_nil, List.append_nil]
      exact Paired.mapP pq fun _ _ z => st _ _ _ _ (KT.same s') z
  · rintro H ⟨s, ys, hDs, hy, pq⟩
    have hlen : ps.length = xs.length := (paired_len pr).symm
    rw [← hlen, List.take_length] at pq
    exact hd D H ys hD s hDs pq
theorem paired_map {α β : Type} {f : α → β} {xs : List α} {ys : List β} (h : Paired (fun x y => y = f x) xs ys) : ys = xs.map f := by
  induction h with
  | nil => rfl
  | cons e _ ih => rw [List.map_cons, ← e, ih]
theorem eqD_da {K : PySem.W.Frag} {H : Hp} {Q : VK} {n : Nat} {x y : V} {d e : PyData} (h : Da H n x d) (h' : Da H n y e) (hn : n ≤ 64) (q : Q (.bl (PyData.eqv d e)) H) : dEqD K x y H Q := ⟨d, e, h.dp, h'.dp, h.shaped hn, h'.shaped hn, q⟩
theorem neD_da {K : PySem.W.Frag} {H : Hp} {Q : VK} {n : Nat} {x y : V} {d e : PyData} (h : Da H n x d) (h' : Da H n y e) (hn : n ≤ 64) (q : Q (.bl (!PyData.eqv d e)) H) : dNeD K x y H Q := ⟨d, e, h.dp, h'.dp, h.shaped hn, h'.shaped hn, q⟩
theorem da_ints {H : Hp} {n : Nat} : ∀ {ns : List Int}, Paired (Da H n) (ns.map V.int) (ns.map PyData.int)
  | [] => .nil
  | _ :: _ => .cons Da.int da_ints
theorem da_lints {H : Hp} {n : Nat} {a : Addr} {ns : List Int} (h : H a = some (.lst (ns.map V.int))) (hl : ns.length ≤ 100000) : Da H (n + 1) (.ref a) (.list (ns.map PyData.int)) := Da.lst h (by rw [List.length_map]; exact hl) da_ints
theorem da_nil {H : Hp} {n : Nat} {a : Addr} (h : H a = some (.lst [])) : Da H (n + 1) (.ref a) (.list []) := Da.lst h (Nat.zero_le _) .nil
theorem eqv_cons_nil {x : PyData} {xs : List PyData} : PyData.eqv (.list (x :: xs)) (.list []) = false := by simp [PyData.eqv, PyData.eqvAll]
theorem eqv_nil_nil : PyData.eqv (.list []) (.list []) = true := by simp [PyData.eqv, PyData.eqvAll]
theorem same_upd {H H1 : Hp} {p : Addr} {o : HO} (s : Same H H1) (h : H1 p = none) : Same H (upd H1 p o) := s.trans (same_new h)
/-- a statement, and then what follows, by what stands between -/
theorem seq_to {t u : TS} {D : Ends} {σ : L2.St} {H : Hp} (X : L2.St → Hp → Prop) (h : ∀ nx : L2.St → Hp → Prop, (∀ σ H, X σ H → nx σ H) → t { D with nx := nx } σ H) (hu : ∀ σ H, X σ H → u D σ H) : tSeq t u D σ H := h (u D) hu
structure GlAt (K : PySem.W.Frag) (mg : Str → Option Value) (x : Str) (C : Addr) : Prop where
  g : mg x = some (.ref C)
theorem kitCls_of {K : PySem.W.Frag} {C : Addr} {t : Value} {b : Bool} (h2 : PySem.W.isClsIn K C = true) (h3 : PySem.W.typeIn K (.ref C) = some (.type "type")) (h4 : PySem.W.subIn K t (.ref C) = some b) : PySem.W.kitCls K t (.ref C) = some b := by
  have e2 : ((PySem.W.clsIn K C).isSome && PySem.W.typeIn K (.ref C) == some (.type "type")) = true := by
    have h2' : (PySem.W.clsIn K C).isSome = true := h2
    rw [h2', h3] <;> rfl
  show (if ((PySem.W.clsIn K C).isSome && PySem.W.typeIn K (.ref C) == some (.type "type")) = true then PySem.W.subIn K t (.ref C) else none) = some b
  rw [if_pos e2]
  exact h4
theorem exm_of {K : PySem.W.Frag} {C : Addr} {t : Value} {b : Bool} (h1 : PySem.W.subIn K (.ref C) (.type "BaseException") = some true) (h2 : PySem.W.isClsIn K C = true) (h3 : PySem.W.typeIn K (.ref C) = some (.type "type")) (h4 : PySem.W.subIn K t (.ref C) = some b) : PySem.W.exmOne K t (.ref C) = some b := by
  have e1 : (PySem.W.subIn K (.ref C) (.type "BaseException") == some true) = true := by rw [h1] <;> rfl
  unfold PySem.W.exmOne
  rw [if_pos e1]
  exact kitCls_of h2 h3 h4
theorem ref_beq {C D : Addr} (h : C ≠ D) : (Value.ref C == Value.ref D) = false := by
  rw [beq_eq_false_iff_ne]
  intro e
  cases e
  exact h rfl
theorem kit_self {K : PySem.W.Frag} {C : Addr} : PySem.W.kitOne K (.ref C) (.ref C) = some true := by
  unfold PySem.W.kitOne
  rw [if_pos (beq_self_eq_true _)]
theorem kit_yes {K : PySem.W.Frag} {C D : Addr} (h2 : PySem.W.isClsIn K C = true) (h3 : PySem.W.typeIn K (.ref C) = some (.type "type")) (h4 : PySem.W.subIn K (.ref D) (.ref C) = some true) : PySem.W.kitOne K (.ref D) (.ref C) = some true := by
  unfold PySem.W.kitOne
  split
  · rfl
  · exact kitCls_of h2 h3 h4
theorem kit_no {K : PySem.W.Frag} {C D : Addr} (n : D ≠ C) (h2 : PySem.W.isClsIn K C = true) (h3 : PySem.W.typeIn K (.ref C) = some (.type "type")) (h4 : PySem.W.subIn K (.ref D) (.ref C) = some false) : PySem.W.kitOne K (.ref D) (.ref C) = some false := by
  unfold PySem.W.kitOne
  rw [if_neg (by rw [ref_beq n]; decide)]
  exact kitCls_of h2 h3 h4
/-! ### more readings by cases: slices, in, count, items set, the other way round -/
def dPart (t : TE) : TO := fun σ H Q => t σ H fun x H1 => match x with
  | .int i => Q (some i) H1
  | _ => False
def wholeV (xs : List V) (lo hi : Option Int) : Prop := HT.sIx xs.length 0 lo = 0 ∧ HT.sIx xs.length xs.length hi = xs.length
def dSl : V → Option Int → Option Int → Hp → VK → Prop := fun x lo hi H Q => match x with
  | .ref a => match H a with
    | some (.lst xs) => ∀ p, H p = none → Q (.ref p) (upd H p (.lst (cutV xs lo hi)))
    | some (.tup xs) => (wholeV xs lo hi → Q (.ref a) H) ∧ (¬ wholeV xs lo hi → ∀ p, H p = none → Q (.ref p) (upd H p (.tup (cutV xs lo hi))))
    | _ => False
  | .str z => z.length ≤ sizeLine ∧ Q (.str (cutS z lo hi)) H
  | _ => False
def dRevL (te : TE) : TE := fun σ H Q => te σ H fun x H1 => match x with
  | .ref a => seqLst (H1 a) fun xs => ∀ p, H1 p = none → Q (.ref p) (upd H1 p (.lst xs.reverse))
  | _ => False
where seqLst (o : Option HO) (k : List V → Prop) : Prop := match o with
  | some (.lst xs) => k xs
  | _ => False
def cntV (x : V) (xs : List V) : Nat := xs.countP fun y => eqV y x
def dCnt : V → List V → Hp → VK → Prop := fun x xs H Q => match x, xs with
  | .ref a, [y] => lstAt (H a) fun ys => flatV y = true ∧ ys.all flatV = true ∧ Q (.int (cntV y ys : Nat)) H
  | _, _ => False
/-- one text in another -/
def inS (i j : Str) : Bool := !(Builtin.Str.occurrences j i 0 j.length 1).isEmpty
def dIn : R2 := fun x y H Q => match y with
  | .ref p => seqAt (H p) fun xs => flatV x = true ∧ xs.all flatV = true ∧ Q (.bl (inV x xs)) H
  | .str j => match x with
    | .str i => Q (.bl (inS i j)) H
    | _ => False
  | _ => False
def dNotIn : R2 := fun x y H Q => match y with
  | .ref p => seqAt (H p) fun xs => flatV x = true ∧ xs.all flatV = true ∧ Q (.bl (!inV x xs)) H
  | .str j => match x with
    | .str i => Q (.bl (!inS i j)) H
    | _ => False
  | _ => False
def dSetL : TSet := fun o i v H Q => match o, i with
  | .ref p, .int k => match H p with
    | some (.lst xs) => 0 ≤ k ∧ k < xs.length ∧ Q (upd H p (.lst (xs.set k.toNat v)))
    | _ => False
  | _, _ => False
section
variable {X : Cx}
theorem po_d {e : Expr} {t : TE} (he : PE X e t) : PO X (some e) (dPart t) := by
  have h := po_some (peM he)
  refine ⟨fun pins s σ H Q I q => h.run pins s σ H Q I ⟨_, q, fun v H' q2 => ?_⟩⟩
  split at q2
  · exact ⟨_, rfl, q2⟩
  · exact q2.elim
theorem slM {r r' : V → Option Int → Option Int → Hp → VK → Prop} (h : SlR X r) (i : ∀ x lo hi H Q, r' x lo hi H Q → r x lo hi H Q) : SlR X r' := fun pins s σ H x v vl vu lo hi sl Q I rx hs pl pu q => h pins s σ H x v vl vu lo hi sl Q I rx hs pl pu (i _ _ _ _ _ q)
theorem d_sl : SlR X dSl := slM (SlR.or (SlR.or sl_list sl_tupA) sl_str) fun x lo hi H Q q => by
  unfold dSl at q
  split at q
  · split at q
    · rename_i xs e
      exact .inl (.inl ⟨_, xs, rfl, .inl (.inl e), q⟩)
    · rename_i xs e
      exact .inl (.inr ⟨_, xs, rfl, .inl (.inl e), q.1, q.2⟩)
    · exact q.elim
  · exact .inr ⟨_, rfl, q.1, q.2⟩
  · exact q.elim
theorem d_revL {e : Expr} {te : TE} {k : Nat} {p1 p2 p3 pos : Pos} (he : PE X e te) : PE X (.Subscript e (.Slice none none (some (.UnaryOp .USub (.Constant (.int 1) k p1) p2)) p3) pos) (dRevL te) := peI (pe_revL (peM he)) fun σ H Q q => ⟨_, q, fun v H' q2 => by
  split at q2
  · unfold dRevL.seqLst at q2
    split at q2
    · rename_i xs e
      exact ⟨_, xs, rfl, .inl (.inl e), q2⟩
    · exact q2.elim
  · exact q2.elim⟩
theorem eqU_count {y : V} : ∀ {xs : List V} {us : List Value}, Vals xs us → xs.all flatV = true → us.countP (eqU y) = cntV y xs
  | _, _, .nil, _ => rfl
  | x :: xs, u :: us, .cons r t, f => by
    rw [List.all_cons, Bool.and_eq_true] at f
    unfold cntV
    rw [List.countP_cons, List.countP_cons, eqU_of r f.1, eqU_count t f.2]
    rfl
theorem m_count : MtR X "list.count" dCnt := by
  intro pins s σ H x xs v us Q I rx rxs q
  unfold dCnt at q
  split at q
  · rename_i a y
    obtain ⟨ys, hs, fy, fys, q⟩ := lstAt_sq (K := X.K) q
    cases rx
    cases rxs with
    | cons ry rt =>
      rename_i uy ut
      cases rt
      obtain ⟨its, rv, ⟨⟨cls, dd, data, sl⟩, n, ho, hc, hdn, hd⟩, hlen⟩ := I.list hs
      simp only at hc hd
      subst hc hd
      refine call_meets PySem.F.slot_list_count ⟨_, ho, rfl⟩ PySem.F.entry_list_count (PySem.F.args_list_count_2 _ _)
        (SeqAt.list_countAt a its.toArray n dd sl uy (eqU y)) ⟨ho, fun u' hu' => mem_eqAt ry fy rv fys u' (by simpa using hu'), ?_⟩
      have ec : its.toArray.toList.countP (eqU y) = cntV y ys := eqU_count rv fys
      refine ⟨.int (cntV y ys : Nat), H, I.tok _, ⟨s.toks, ?_⟩, q⟩
      show Value.int ((its.toArray.toList.countP (eqU y) : Nat) : Int) s.toks = Value.int ((cntV y ys : Nat) : Int) s.toks
      rw [ec]
  · exact q.elim
theorem d_in : OpR X (compareOp .In) dIn := opM (OpR.or op_in_seq op_in_str) fun x y H Q q => by
  unfold dIn at q
  split at q
  · obtain ⟨xs, hs, f, fs, q⟩ := seqAt_sq (K := X.K) q
    exact .inl ⟨_, xs, rfl, hs, f, fs, q⟩
  · split at q
    · exact .inr ⟨_, _, rfl, rfl, q⟩
    · exact q.elim
  · exact q.elim
theorem d_notin : OpR X (compareOp .NotIn) dNotIn := opM (OpR.or op_notIn_seq op_notIn_str) fun x y H Q q => by
  unfold dNotIn at q
  split at q
  · obtain ⟨xs, hs, f, fs, q⟩ := seqAt_sq (K := X.K) q
    exact .inl ⟨_, xs, rfl, hs, f, fs, q⟩
  · split at q
    · exact .inr ⟨_, _, rfl, rfl, q⟩
    · exact q.elim
  · exact q.elim
theorem setM {t t' : TSet} (h : PSet X t) (i : ∀ o k v H Q, t' o k v H Q → t o k v H Q) : PSet X t' := fun pins s σ H o k v ov iv u Q I ro ri rv q => h pins s σ H o k v ov iv u Q I ro ri rv (i _ _ _ _ _ q)
theorem s_setL : PSet X dSetL := setM set_list fun o i v H Q q => by
  unfold dSetL at q
  split at q
  · rename_i p k
    split at q
    · rename_i xs e
      obtain ⟨h0, h1, q⟩ := q
      refine ⟨p, xs, k, k.toNat, rfl, rfl, e, ?_, q⟩
      unfold ixN
      rw [if_pos h0, if_pos h1]
    · exact q.elim
  · exact q.elim
end
theorem cutV_to {xs : List V} {k : Nat} : cutV xs none (some (k : Int)) = xs.take k := by
  unfold cutV
  rw [HT.sIx_none, HT.sIx_nat, List.drop_zero, Nat.sub_zero]
  rcases Nat.le_total k xs.length with h | h
  · rw [Nat.min_eq_left h]
  · rw [Nat.min_eq_right h, List.take_of_length_le (Nat.le_refl _), List.take_of_length_le h]
theorem cutV_from {xs : List V} {k : Nat} : cutV xs (some (k : Int)) none = xs.drop k := by
  unfold cutV
  rw [HT.sIx_none, HT.sIx_nat]
  rcases Nat.le_total k xs.length with h | h
  · rw [Nat.min_eq_left h, List.take_of_length_le (by rw [List.length_drop]; omega)]
  · rw [Nat.min_eq_right h, List.drop_eq_nil_of_le h, List.drop_eq_nil_of_le (Nat.le_refl _)]
    simp
/-! ### what is kept: all but the addresses of S -/
def Keep (S : List Addr) (H H' : Hp) : Prop := ∀ b o, H b = some o → b ∉ S → H' b = some o
theorem Keep.refl {S : List Addr} {H : Hp} : Keep S H H := fun _ _ h _ => h
theorem Keep.trans {S : List Addr} {H H1 H2 : Hp} (a : Keep S H H1) (b : Keep S H1 H2) : Keep S H H2 := fun x o h n => b x o (a x o h n) n
theorem Keep.mono {S T : List Addr} {H H' : Hp} (k : Keep S H H') (h : ∀ x ∈ S, x ∈ T) : Keep T H H' := fun x o e n => k x o e fun m => n (h x m)
theorem Keep.same {S : List Addr} {H H' : Hp} (k : Same H H') : Keep S H H' := fun b o h _ => k b o h
theorem Keep.up {S : List Addr} {H H' : Hp} {a : Addr} {x : HO} (k : Keep S H H') (h : a ∈ S) : Keep S H (upd H' a x) := fun b o e n => by
  rw [upd_ne (fun z => n (by rw [z]; exact h))]
  exact k b o e n
theorem Keep.new {S : List Addr} {H H' : Hp} {a : Addr} {x : HO} (k : Keep S H H') (h : H' a = none) : Keep S H (upd H' a x) := fun b o e n => by
  have := k b o e n
  rw [upd_ne (ne_of_none this h)]
  exact this
theorem Keep.new0 {S : List Addr} {H H' : Hp} {a : Addr} {x : HO} (k : Keep S H H') (h : H a = none) : Keep S H (upd H' a x) := fun b o e n => by
  rw [upd_ne (ne_of_none e h)]
  exact k b o e n
theorem keep_up {S : List Addr} {H : Hp} {a : Addr} {x : HO} (h : a ∈ S) : Keep S H (upd H a x) := Keep.refl.up h
/-- data, none of it at the addresses of S -/
def Dz (S : List Addr) (H : Hp) : Nat → V → PyData → Prop
  | 0, v, d => AtomD v d
  | n + 1, v, d => AtomD v d ∨ (∃ (a : Addr) (xs : List V) (ds : List PyData), v = .ref a ∧ d = .list ds ∧ a ∉ S ∧ H a = some (.lst xs) ∧ xs.length ≤ 100000 ∧ Paired (Dz S H n) xs ds) ∨
    ∃ (a : Addr) (xs : List V) (ds : List PyData), v = .ref a ∧ d = .tuple ds ∧ a ∉ S ∧ H a = some (.tup xs) ∧ xs.length ≤ 100000 ∧ Paired (Dz S H n) xs ds
theorem AtomD.dz {S : List Addr} {v : V} {d : PyData} {H : Hp} (h : AtomD v d) : ∀ {n : Nat}, Dz S H n v d
  | 0 => h
  | _ + 1 => .inl h
theorem Dz.da {S : List Addr} {H : Hp} : ∀ {n : Nat} {v : V} {d : PyData}, Dz S H n v d → Da H n v d
  | 0, _, _, h => h
  | n + 1, v, d, h => by
    rcases h with h | ⟨a, xs, ds, e1, e2, _, h, hl, p⟩ | ⟨a, xs, ds, e1, e2, _, h, hl, p⟩
    · exact .inl h
    · exact .inr (.inl ⟨a, xs, ds, e1, e2, h, hl, Paired.mapP p fun _ _ q => Dz.da q⟩)
    · exact .inr (.inr ⟨a, xs, ds, e1, e2, h, hl, Paired.mapP p fun _ _ q => Dz.da q⟩)
theorem Dz.keep {S : List Addr} {H H' : Hp} (k : Keep S H H') : ∀ {n : Nat} {v : V} {d : PyData}, Dz S H n v d → Dz S H' n v d
  | 0, _, _, h => h
  | n + 1, v, d, h => by
    rcases h with h | ⟨a, xs, ds, e1, e2, n, h, hl, p⟩ | ⟨a, xs, ds, e1, e2, n, h, hl, p⟩
    · exact .inl h
    · exact .inr (.inl ⟨a, xs, ds, e1, e2, n, k a _ h n, hl, Paired.mapP p fun _ _ q => Dz.keep k q⟩)
    · exact .inr (.inr ⟨a, xs, ds, e1, e2, n, k a _ h n, hl, Paired.mapP p fun _ _ q => Dz.keep k q⟩)
/-- other addresses: those that are new were free -/
theorem Dz.grow {S T : List Addr} {H : Hp} (g : ∀ x ∈ T, x ∈ S ∨ H x = none) : ∀ {n : Nat} {v : V} {d : PyData}, Dz S H n v d → Dz T H n v d
  | 0, _, _, h => h
  | n + 1, v, d, h => by
    have out : ∀ {a : Addr} {o : HO}, a ∉ S → H a = some o → a ∉ T := fun n e m => (g _ m).elim n fun z => by rw [z] at e; cases e
    rcases h with h | ⟨a, xs, ds, e1, e2, n, h, hl, p⟩ | ⟨a, xs, ds, e1, e2, n, h, hl, p⟩
    · exact .inl h
    · exact .inr (.inl ⟨a, xs, ds, e1, e2, out n h, h, hl, Paired.mapP p fun _ _ q => Dz.grow g q⟩)
    · exact .inr (.inr ⟨a, xs, ds, e1, e2, out n h, h, hl, Paired.mapP p fun _ _ q => Dz.grow g q⟩)
theorem Dz.up {S : List Addr} {H : Hp} : ∀ {n : Nat} {v : V} {d : PyData}, Dz S H n v d → Dz S H (n + 1) v d
  | 0, _, _, h => .inl h
  | n + 1, v, d, h => by
    rcases h with h | ⟨a, xs, ds, e1, e2, n, h, hl, p⟩ | ⟨a, xs, ds, e1, e2, n, h, hl, p⟩
    · exact .inl h
    · exact .inr (.inl ⟨a, xs, ds, e1, e2, n, h, hl, Paired.mapP p fun _ _ q => Dz.up q⟩)
    · exact .inr (.inr ⟨a, xs, ds, e1, e2, n, h, hl, Paired.mapP p fun _ _ q => Dz.up q⟩)
/-- all of it is new -/
theorem Da.dz_of {S : List Addr} {H : Hp} {n : Nat} {v : V} {d : PyData} (h : Dz [] H n v d) (f : ∀ x ∈ S, H x = none) : Dz S H n v d := Dz.grow (fun x m => .inr (f x m)) h
theorem Dz.int {S : List Addr} {H : Hp} {n : Nat} {i : Int} : Dz S H n (.int i) (.int i) := AtomD.dz (.inr (.inr (.inl ⟨i, rfl, rfl⟩)))
theorem Dz.bl {S : List Addr} {H : Hp} {n : Nat} {i : Bool} : Dz S H n (.bl i) (.bool i) := AtomD.dz (.inr (.inl ⟨i, rfl, rfl⟩))
theorem Dz.non {S : List Addr} {H : Hp} {n : Nat} : Dz S H n .non .none := AtomD.dz (.inl ⟨rfl, rfl⟩)
theorem Dz.str {S : List Addr} {H : Hp} {n : Nat} {x : Str} (h : PyData.strOk x = true) : Dz S H n (.str x) (.str x) := AtomD.dz (.inr (.inr (.inr ⟨x, rfl, rfl, h⟩)))
theorem Dz.lst {S : List Addr} {H : Hp} {n : Nat} {a : Addr} {xs : List V} {ds : List PyData} (h : H a = some (.lst xs)) (ha : a ∉ S) (hl : xs.length ≤ 100000) (p : Paired (Dz S H n) xs ds) : Dz S H (n + 1) (.ref a) (.list ds) := .inr (.inl ⟨a, xs, ds, rfl, rfl, ha, h, hl, p⟩)
theorem Dz.tup {S : List Addr} {H : Hp} {n : Nat} {a : Addr} {xs : List V} {ds : List PyData} (h : H a = some (.tup xs)) (ha : a ∉ S) (hl : xs.length ≤ 100000) (p : Paired (Dz S H n) xs ds) : Dz S H (n + 1) (.ref a) (.tuple ds) := .inr (.inr ⟨a, xs, ds, rfl, rfl, ha, h, hl, p⟩)
theorem Dz.list_inv {S : List Addr} {H : Hp} {n : Nat} {v : V} {ds : List PyData} (h : Dz S H (n + 1) v (.list ds)) : ∃ a xs, v = .ref a ∧ a ∉ S ∧ H a = some (.lst xs) ∧ xs.length ≤ 100000 ∧ Paired (Dz S H n) xs ds := by
  rcases h with h | ⟨a, xs, ds', e1, e2, n, h, hl, p⟩ | ⟨a, xs, ds, e1, e2, n, h, hl, p⟩
  · rcases h with ⟨_, e⟩ | ⟨_, _, e⟩ | ⟨_, _, e⟩ | ⟨_, _, e, _⟩ <;> cases e
  · cases e2; exact ⟨a, xs, e1, n, h, hl, p⟩
  · cases e2
theorem Dz.tuple_inv {S : List Addr} {H : Hp} {n : Nat} {v : V} {ds : List PyData} (h : Dz S H (n + 1) v (.tuple ds)) : ∃ a xs, v = .ref a ∧ a ∉ S ∧ H a = some (.tup xs) ∧ xs.length ≤ 100000 ∧ Paired (Dz S H n) xs ds := by
  rcases h with h | ⟨a, xs, ds', e1, e2, n, h, hl, p⟩ | ⟨a, xs, ds', e1, e2, n, h, hl, p⟩
  · rcases h with ⟨_, e⟩ | ⟨_, _, e⟩ | ⟨_, _, e⟩ | ⟨_, _, e, _⟩ <;> cases e
  · cases e2
  · cases e2; exact ⟨a, xs, e1, n, h, hl, p⟩
theorem dz_strs {S : List Addr} {H : Hp} {n : Nat} : ∀ {ns : List Str}, (∀ x ∈ ns, PyData.strOk x = true) → Paired (Dz S H n) (ns.map V.str) (ns.map PyData.str)
  | [], _ => .nil
  | _ :: _, h => .cons (Dz.str (h _ List.mem_cons_self)) (dz_strs fun x m => h x (List.mem_cons_of_mem _ m))
theorem dz_strs_inv {S : List Addr} {H : Hp} {n : Nat} : ∀ {ns : List Str} {xs : List V}, Paired (Dz S H n) xs (ns.map PyData.str) → xs = ns.map V.str
  | [], _, h => by cases h; rfl
  | x :: ns, _, h => by
    cases h with
    | cons h t =>
      have e : ∀ {n : Nat} {v : V}, Dz S H n v (.str x) → v = .str x := by
        intro n v h
        have aux : ∀ {v : V}, AtomD v (.str x) → v = .str x := fun h => by rcases h with ⟨_, e⟩ | ⟨_, _, e⟩ | ⟨_, _, e⟩ | ⟨_, rfl, e, _⟩ <;> cases e; rfl
        cases n with
        | zero => exact aux h
        | succ n =>
          rcases h with h | ⟨_, _, _, _, e, _⟩ | ⟨_, _, _, _, e, _⟩
          · exact aux h
          · cases e
          · cases e
      rw [e h, dz_strs_inv t]
      rfl
theorem nodup_ix {α : Type} {l : List α} (nd : l.Nodup) {i j : Nat} {a : α} (h1 : l[i]? = some a) (h2 : l[j]? = some a) : i = j := by
  obtain ⟨l1, e1⟩ := List.getElem?_eq_some_iff.mp h1
  obtain ⟨l2, e2⟩ := List.getElem?_eq_some_iff.mp h2
  have p := List.pairwise_iff_getElem.mp nd
  rcases Nat.lt_trichotomy i j with h | h | h
  · exact absurd (e1.trans e2.symm) (p i j l1 l2 h)
  · exact h
  · exact absurd (e2.trans e1.symm) (p j i l2 l1 h)
theorem eqv_strs : ∀ {l m : List Str}, PyData.eqvAll (l.map PyData.str) (m.map PyData.str) = decide (l = m)
  | [], [] => by simp [PyData.eqvAll]
  | [], _ :: _ => by simp [PyData.eqvAll]
  | _ :: _, [] => by simp [PyData.eqvAll]
  | x :: l, y :: m => by
    rw [List.map_cons, List.map_cons, PyData.eqvAll, eqv_strs]
    have : PyData.eqv (.str x) (.str y) = decide (x = y) := by simp [PyData.eqv]; rfl
    rw [this]
    by_cases h1 : x = y <;> by_cases h2 : l = m <;> simp [h1, h2]
theorem da_strs {H : Hp} {n : Nat} {a : Addr} {l : List Str} (h : H a = some (.lst (l.map V.str))) (hl : l.length ≤ 100000) (ok : ∀ x ∈ l, PyData.strOk x = true) : Da H (n + 1) (.ref a) (.list (l.map PyData.str)) :=
  Da.lst h (by rw [List.length_map]; exact hl) (Paired.mapP (dz_strs (S := []) (H := H) ok) fun _ _ q => q.da)
theorem dat_strs {H : Hp} {n : Nat} {a : Addr} {l : List Str} (h : H a = some (.tup (l.map V.str))) (hl : l.length ≤ 100000) (ok : ∀ x ∈ l, PyData.strOk x = true) : Da H (n + 1) (.ref a) (.tuple (l.map PyData.str)) :=
  Da.tup h (by rw [List.length_map]; exact hl) (Paired.mapP (dz_strs (S := []) (H := H) ok) fun _ _ q => q.da)
theorem eqD_strs {K : PySem.W.Frag} {H : Hp} {Q : VK} {a b : Addr} {l m : List Str} (h1 : H a = some (.lst (l.map V.str))) (h2 : H b = some (.lst (m.map V.str))) (l1 : l.length ≤ 100000) (l2 : m.length ≤ 100000) (o1 : ∀ x ∈ l, PyData.strOk x = true) (o2 : ∀ x ∈ m, PyData.strOk x = true) (q : Q (.bl (decide (l = m))) H) : dEqD K (.ref a) (.ref b) H Q :=
  eqD_da (n := 1) (da_strs h1 l1 o1) (da_strs h2 l2 o2) (by decide) (by
    have : PyData.eqv (.list (l.map PyData.str)) (.list (m.map PyData.str)) = decide (l = m) := by rw [PyData.eqv, eqv_strs]
    rw [this]
    exact q)
theorem neD_strs {K : PySem.W.Frag} {H : Hp} {Q : VK} {a b : Addr} {l m : List Str} (h1 : H a = some (.lst (l.map V.str))) (h2 : H b = some (.lst (m.map V.str))) (l1 : l.length ≤ 100000) (l2 : m.length ≤ 100000) (o1 : ∀ x ∈ l, PyData.strOk x = true) (o2 : ∀ x ∈ m, PyData.strOk x = true) (q : Q (.bl (!decide (l = m))) H) : dNeD K (.ref a) (.ref b) H Q :=
  neD_da (n := 1) (da_strs h1 l1 o1) (da_strs h2 l2 o2) (by decide) (by
    have : PyData.eqv (.list (l.map PyData.str)) (.list (m.map PyData.str)) = decide (l = m) := by rw [PyData.eqv, eqv_strs]
    rw [this]
    exact q)
theorem flat_strs {l : List Str} : (l.map V.str).all flatV = true := by
  rw [List.all_eq_true]
  intro x hx
  obtain ⟨s, _, rfl⟩ := List.mem_map.mp hx
  rfl
theorem cnt_strs {x : Str} {l : List Str} : cntV (.str x) (l.map V.str) = l.count x := by
  unfold cntV
  rw [List.countP_map, List.count]
  rfl
theorem in_strs {x : Str} {l : List Str} : inV (.str x) (l.map V.str) = decide (x ∈ l) := by
  unfold inV
  rw [List.any_map]
  induction l with
  | nil => rfl
  | cons y l ih =>
    rw [List.any_cons, ih]
    have : ((fun y => eqV y (V.str x)) ∘ V.str) y = decide (y = x) := by show (y == x) = _; rfl
    rw [this]
    by_cases h : y = x
    · subst h; simp
    · have : ¬ x = y := fun e => h e.symm
      simp [h, this]
theorem slice_strs {l : List Str} {k : Nat} : (l.map V.str).take k = (l.take k).map V.str := by rw [List.map_take]
theorem paired_refs {β : Type} {F : Addr → β → Prop} {qs : List Addr} {R : List β} (h : Paired F qs R) : Paired (fun v r => ∃ q, v = V.ref q ∧ F q r) (qs.map V.ref) R := by
  induction h with
  | nil => exact .nil
  | cons h _ ih => exact .cons ⟨_, rfl, h⟩ ih
theorem paired_strs : ∀ {l : List Str}, Paired (fun v x => v = V.str x) (l.map V.str) l
  | [] => .nil
  | _ :: _ => .cons rfl paired_strs
theorem paired_mapv {β : Type} {f : β → V} : ∀ {l : List β}, Paired (fun v x => v = f x) (l.map f) l
  | [] => .nil
  | _ :: _ => .cons rfl paired_mapv
theorem paired_mem {α β : Type} {F G : α → β → Prop} : ∀ {l : List α} {m : List β}, Paired F l m → (∀ a b, a ∈ l → F a b → G a b) → Paired G l m
  | _, _, .nil, _ => .nil
  | _, _, .cons h t, hh => .cons (hh _ _ List.mem_cons_self h) (paired_mem t fun a b m f => hh a b (List.mem_cons_of_mem _ m) f)
theorem paired_get {α β : Type} {F : α → β → Prop} : ∀ {l : List α} {m : List β} {i : Nat} {a : α} {b : β}, Paired F l m → l[i]? = some a → m[i]? = some b → F a b
  | _, _, _, _, _, .nil, e, _ => by simp at e
  | _, _, 0, _, _, .cons h _, e1, e2 => by simp at e1 e2; subst e1 e2; exact h
  | _, _, i + 1, _, _, .cons _ t, e1, e2 => paired_get t (by simpa using e1) (by simpa using e2)
/-- comprehensions whose values are new objects -/
theorem lcR_new {lo : Int} {n : Nat} {g : TG} {tt : TT} {te : TE} {vs : List Nat} {σ : L2.St} {H1 : Hp} {Q : VK} (hz : n ≤ 1000000) (obj : Nat → HO)
    (turn : ∀ (i : Nat), i < n → ∀ H, Same H1 H → ∀ (k1 : VK) (k0 : Hp → Prop), (∀ q H', Same H H' → H q = none → H' q = some (obj i) → k1 (.ref q) H') → LcTurn g tt te vs σ (.int (lo + (i : Nat))) H k1 k0)
    (hd : ∀ D H qs, H1 D = none → Same H1 H → H D = some (.lst (qs.map V.ref)) → qs.Nodup → D ∉ qs → (∀ q ∈ qs, H1 q = none) → Paired (fun q i => H q = some (obj i)) qs (List.range n) → Q (.ref D) H) : LcJ (Itr lo n) g tt te vs σ H1 Q := by
  refine fun D hD => lc_range (lo := lo) (n := n) (fun i H => Same H1 H ∧ ∃ qs, H D = some (.lst (qs.map V.ref)) ∧ qs.length = i ∧ qs.Nodup ∧ D ∉ qs ∧ (∀ q ∈ qs, H1 q = none) ∧ Paired (fun q i => H q = some (obj i)) qs (List.range i))
    ⟨same_new hD, [], upd_same, rfl, List.nodup_nil, by simp, by simp, .nil⟩ ?_ ?_
  · rintro i H hlt ⟨s, qs, hDs, hy, nd, nD, hn, pr⟩
    refine turn i hlt H s _ _ fun q H' s' hq hq' => ⟨qs.map V.ref, s' D _ hDs, by rw [List.length_map, sizeLine_eq]; omega, same_mut (s.trans s') hD, qs ++ [q], by rw [upd_same, List.map_append]; rfl, by rw [List.length_append, hy]; rfl, ?_, ?_, ?_, ?_⟩
    · refine List.nodup_append.mpr ⟨nd, by simp, ?_⟩
      rintro a ha b hb rfl
      simp at hb
      subst hb
      obtain ⟨j, hj⟩ := List.getElem?_of_mem ha
      obtain ⟨x, _, hx⟩ := pairedGet pr hj
      rw [hq] at hx
      cases hx
    · intro m
      rcases List.mem_append.mp m with m | m
      · exact nD m
      · simp at m
        subst m
        rw [hq] at hDs
        cases hDs
    · intro x hx
      rcases List.mem_append.mp hx with hx | hx
      · exact hn x hx
      · simp at hx
        subst hx
        exact s.free hq
    · rw [List.range_succ]
      have ne : ∀ x ∈ qs, x ≠ D := fun x hx e => nD (by rw [← e]; exact hx)
      refine paired_app ?_ (.cons ?_ .nil)
      · refine paired_mem pr fun a b m f => ?_
        show upd H' D _ a = _
        rw [upd_ne (ne a m)]
        exact s' _ _ f
      · show upd H' D _ q = _
        rw [upd_ne (fun e => by rw [← e, hq] at hDs; cases hDs)]
        exact hq'
  · rintro H ⟨s, qs, hDs, hy, nd, nD, hn, pr⟩
    exact hd D H qs hD s hDs nd nD hn pr
theorem lcL_new {β : Type} {K : PySem.W.Frag} {a : Addr} {xs : List V} {ps : List β} {F : V → β → Prop} {g : TG} {tt : TT} {te : TE} {vs : List Nat} {σ : L2.St} {H1 : Hp} {Q : VK} (hq : SqL K H1 a xs) (pp : Paired F xs ps) (hz : xs.length ≤ 1000000) (obj : β → HO)
    (turn : ∀ (i : Nat) (x : V) (b : β), xs[i]? = some x → ps[i]? = some b → F x b → ∀ H, Same H1 H → ∀ (k1 : VK) (k0 : Hp → Prop), (∀ q H', Same H H' → H q = none → H' q = some (obj b) → k1 (.ref q) H') → LcTurn g tt te vs σ x H k1 k0)
    (hd : ∀ D H qs, H1 D = none → Same H1 H → H D = some (.lst (qs.map V.ref)) → qs.Nodup → D ∉ qs → (∀ q ∈ qs, H1 q = none) → Paired (fun q b => H q = some (obj b)) qs ps → Q (.ref D) H) : LcL K a g tt te vs σ H1 Q := by
  refine ⟨⟨_, hq⟩, fun D hD => lc_list (K := K) (a := a) (xs := xs) (fun i H => Same H1 H ∧ ∃ qs, H D = some (.lst (qs.map V.ref)) ∧ qs.length = i ∧ qs.Nodup ∧ D ∉ qs ∧ (∀ q ∈ qs, H1 q = none) ∧ Paired (fun q b => H q = some (obj b)) qs (ps.take i))
    ⟨same_new hD, [], upd_same, rfl, List.nodup_nil, by simp, by simp, .nil⟩ (fun i H _ p => p.1.seq hq) ?_ ?_⟩
  · rintro i x H hx ⟨s, qs, hDs, hy, nd, nD, hn, pr⟩
    have hlt := (List.getElem?_eq_some_iff.mp hx).1
    obtain ⟨b, hb, hF⟩ := pairedGet pp hx
    have e1 : ps.take (i + 1) = ps.take i ++ [b] := by rw [List.take_succ, hb]; rfl
    refine turn i x b hx hb hF H s _ _ fun q H' s' hq hq' => ⟨qs.map V.ref, s' D _ hDs, by rw [List.length_map, sizeLine_eq]; omega, same_mut (s.trans s') hD, qs ++ [q], by rw [upd_same, List.map_append]; rfl, by rw [List.length_append, hy]; rfl, ?_, ?_, ?_, ?_⟩
    · refine List.nodup_append.mpr ⟨nd, by simp, ?_⟩
      rintro a ha b hb rfl
      simp at hb
      subst hb
      obtain ⟨j, hj⟩ := List.getElem?_of_mem ha
      obtain ⟨x, _, hx⟩ := pairedGet pr hj
      rw [hq] at hx
      cases hx
    · intro m
      rcases List.mem_append.mp m with m | m
      · exact nD m
      · simp at m
        subst m
        rw [hq] at hDs
        cases hDs
    · intro x hx
      rcases List.mem_append.mp hx with hx | hx
      · exact hn x hx
      · simp at hx
        subst hx
        exact s.free hq
    · rw [e1]
      have ne : ∀ x ∈ qs, x ≠ D := fun x hx e => nD (by rw [← e]; exact hx)
      refine paired_app ?_ (.cons ?_ .nil)
      · refine paired_mem pr fun a b m f => ?_
        show upd H' D _ a = _
        rw [upd_ne (ne a m)]
        exact s' _ _ f
      · show upd H' D _ q = _
        rw [upd_ne (fun e => by rw [← e, hq] at hDs; cases hDs)]
        exact hq'
  · rintro H ⟨s, qs, hDs, hy, nd, nD, hn, pr⟩
    rw [paired_len pp, List.take_length] at pr
    exact hd D H qs hD s hDs nd nD hn pr
theorem getD_at {α : Type} {l : List α} {i : Nat} {x d : α} (h : l[i]? = some x) : l.getD i d = x := by rw [List.getD_eq_getElem?_getD, h]; rfl
theorem atK_all {xs : List V} {i : Int} {k : V → Prop} (h0 : 0 ≤ i) (h1 : i < xs.length) (hk : ∀ v ∈ xs, k v) : atK xs i k := by
  obtain ⟨j, rfl⟩ := Int.eq_ofNat_of_zero_le h0
  have hj : j < xs.length := by omega
  exact atK_nat (List.getElem?_eq_getElem hj) (hk _ (List.getElem_mem hj))
/-- data that is kept while the addresses change -/
theorem Dz.move {S T : List Addr} {H H' : Hp} (k : Keep S H H') (g : ∀ x ∈ T, x ∈ S ∨ H x = none) : ∀ {n : Nat} {v : V} {d : PyData}, Dz S H n v d → Dz T H' n v d
  | 0, _, _, h => h
  | n + 1, v, d, h => by
    have out : ∀ {a : Addr} {o : HO}, a ∉ S → H a = some o → a ∉ T := fun n e m => (g _ m).elim n fun z => by rw [z] at e; cases e
    rcases h with h | ⟨a, xs, ds, e1, e2, n, h, hl, p⟩ | ⟨a, xs, ds, e1, e2, n, h, hl, p⟩
    · exact .inl h
    · exact .inr (.inl ⟨a, xs, ds, e1, e2, out n h, k a _ h n, hl, Paired.mapP p fun _ _ q => Dz.move k g q⟩)
    · exact .inr (.inr ⟨a, xs, ds, e1, e2, out n h, k a _ h n, hl, Paired.mapP p fun _ _ q => Dz.move k g q⟩)
/-- the other way first -/
theorem ifS_els {c : TT} {t e : TS} {D : Ends} {σ : L2.St} {H : Hp} (he : e D σ H) (h : ∀ e' : TS, e' D σ H → tIfS c t e' D σ H) : tIfS c t e D σ H := h e he
theorem Dz.non_inv {S : List Addr} {H : Hp} {n : Nat} {v : V} (h : Dz S H n v .none) : v = .non := by
  have aux : AtomD v .none → v = .non := fun h => by rcases h with ⟨rfl, _⟩ | ⟨_, _, e⟩ | ⟨_, _, e⟩ | ⟨_, _, e, _⟩ <;> first | rfl | cases e
  cases n with
  | zero => exact aux h
  | succ n =>
    rcases h with h | ⟨_, _, _, _, e, _⟩ | ⟨_, _, _, _, e, _⟩
    · exact aux h
    · cases e
    · cases e
theorem Dz.str_inv {S : List Addr} {H : Hp} {n : Nat} {v : V} {x : Str} (h : Dz S H n v (.str x)) : v = .str x ∧ PyData.strOk x = true := by
  have aux : AtomD v (.str x) → v = .str x ∧ PyData.strOk x = true := fun h => by rcases h with ⟨_, e⟩ | ⟨_, _, e⟩ | ⟨_, _, e⟩ | ⟨_, rfl, e, h⟩ <;> cases e; exact ⟨rfl, h⟩
  cases n with
  | zero => exact aux h
  | succ n =>
    rcases h with h | ⟨_, _, _, _, e, _⟩ | ⟨_, _, _, _, e, _⟩
    · exact aux h
    · cases e
    · cases e
theorem Dz.int_inv {S : List Addr} {H : Hp} {n : Nat} {v : V} {x : Int} (h : Dz S H n v (.int x)) : v = .int x := by
  have aux : AtomD v (.int x) → v = .int x := fun h => by rcases h with ⟨_, e⟩ | ⟨_, _, e⟩ | ⟨_, rfl, e⟩ | ⟨_, _, e, h⟩ <;> cases e; rfl
  cases n with
  | zero => exact aux h
  | succ n =>
    rcases h with h | ⟨_, _, _, _, e, _⟩ | ⟨_, _, _, _, e, _⟩
    · exact aux h
    · cases e
    · cases e
theorem paired_mapR {α β γ : Type} {G : α → γ → Prop} {f : β → γ} : ∀ {l : List α} {m : List β}, Paired (fun a b => G a (f b)) l m → Paired G l (m.map f)
  | _, _, .nil => .nil
  | _, _, .cons h t => .cons h (paired_mapR t)
theorem paired_range {α β : Type} {G : α → β → Prop} {f : Nat → β} {rs : List α} {l : List β} (h : Paired (fun q i => G q (f i)) rs (List.range l.length)) (hf : ∀ i x, l[i]? = some x → f i = x) : Paired G rs l := by
  have e : l = (List.range l.length).map f := by
    apply List.ext_getElem?
    intro i
    rw [List.getElem?_map]
    cases e : l[i]? with
    | none =>
      have := List.getElem?_eq_none_iff.mp e
      rw [List.getElem?_eq_none_iff.mpr (by rw [List.length_range]; exact this)]
      rfl
    | some x =>
      have hl := (List.getElem?_eq_some_iff.mp e).1
      rw [List.getElem?_range hl]
      show some x = some (f i)
      rw [hf i x e]
  rw [e]
  exact paired_mapR h
theorem notInD_da {K : PySem.W.Frag} {H : Hp} {Q : VK} {n : Nat} {x y : V} {d : PyData} {ds : List PyData} (h : Da H n x d) (h' : Da H n y (.list ds)) (hn : n ≤ 64) (m : d ∈ ds) (q : Q (.bl false) H) : rNotInD K x y H Q := by
  refine ⟨d, ds, h.dp, h'.dp, h.shaped hn, h'.shaped hn, ?_⟩
  have : (ds.any fun z => PyData.eqv z d) = true := List.any_eq_true.mpr ⟨d, m, SeqAt.eqv_refl d h.lay.1⟩
  rw [this]
  exact q
/-! ### the order of data: <, sorted, min, max -/
section
variable {X : Cx}
def rLtD (K : PySem.W.Frag) : R2 := fun x y H Q => ∃ d e, Dp K H x d ∧ Dp K H y e ∧ PySem.W.alike d e = true ∧ d ≠ .none ∧ d.depth ≤ 64 ∧ Q (.bl (PySem.W.dataLt d e)) H
theorem op_ltD (hu : X.A.units + 64 < cLine) : OpR X (compareOp .Lt) (rLtD X.K) := by
  intro pins s σ H x y v u Q I rx ry h
  obtain ⟨d, e, hd, he, ha, hn, hdp, q⟩ := h
  obtain ⟨as, r1⟩ := Dp.reads I d x v hd rx
  obtain ⟨bs, r2⟩ := Dp.reads I e y u he ry
  exact PySem.W.lt_data r1 r2 ha hn (by have := Nat.min_le_left d.depth e.depth; omega) ⟨.bl _, H, I, rfl, q⟩
def rSortD (K : PySem.W.Frag) : List V → Hp → VK → Prop := fun vs H Q => ∃ (a : Addr) (bs : List (V × PyData)), vs = [.ref a] ∧ SqL K H a (bs.map (·.1)) ∧ (∀ b ∈ bs, Dp K H b.1 b.2) ∧ PySem.W.AllAlike (bs.map (·.2)) ∧ PySem.W.Sortable (bs.map (·.2)) ∧ (∀ b ∈ bs, b.2.depth ≤ 60) ∧ bs.length ≤ 1000000 ∧
  ∀ p, H p = none → Q (.ref p) (upd H p (.lst ((bs.mergeSort (PySem.W.dataLe false (·.2))).map (·.1))))
theorem each_vals : ∀ {bs : List (V × PyData)} {us : List Value}, Vals (bs.map (·.1)) us → PySem.W.EachIs (fun u (b : V × PyData) => RelV b.1 u) us bs
  | [], _, h => by cases h; exact .nil
  | _ :: _, _, h => by
    cases h with
    | cons h t => exact .cons h (each_vals t)
theorem vals_each {us : List Value} {bs : List (V × PyData)} (h : PySem.W.EachIs (fun u (b : V × PyData) => RelV b.1 u) us bs) : Vals (bs.map (·.1)) us := by
  induction h with
  | nil => exact .nil
  | cons h _ ih => exact .cons h ih
theorem cr_sortD (hu : X.A.units + 64 < cLine) : CallR X (.builtin "sorted") (rSortD X.K) := by
  intro pins s σ H vs us Q I r h
  obtain ⟨a, bs, rfl, hs, hd, hal, hk, hdp, hl, q⟩ := h
  obtain ⟨its, rv, hil, hz⟩ := I.list hs
  rw [Vals.ref1 r]
  have e := each_vals rv
  have hL : bs.length ≤ sizeLine := by rw [sizeLine_eq]; omega
  have er : PySem.W.EachIs (fun v (b : V × PyData) => ∃ as, Reads s.heap v b.2 as) its bs := by
    clear rv hil hs hal hk hdp hl q hL hz
    induction e with
    | nil => exact .nil
    | @cons u b us bs h t ih => exact .cons (Dp.reads I b.2 b.1 u (hd b List.mem_cons_self) h) (ih fun b m => hd b (List.mem_cons_of_mem _ m))
  refine PySem.W.sorted_data (enc := fun b : V × PyData => b.2) hil.isList e er hal hk hL (fun b m => by have := hdp b m; omega) fun out h1 h2 => ?_
  obtain ⟨ep, he'⟩ := PyProof.Rows.sortedAll_at s.heap its out.toArray
  have hv := vals_each h2
  refine ⟨.ref _, upd H (s.heap.objs.size + 1) (.lst ((bs.mergeSort (PySem.W.dataLe false (·.2))).map (·.1))), I.laid (t' := s.toks) (fun _ _ => PyProof.Rows.sortedAll_old) (Nat.le_succ _) ⟨?_, out, ep, hv, ?_⟩, rfl, q _ (I.hok.fresh (Nat.le_succ _))⟩
  · rw [List.length_map, List.length_mergeSort]; exact hL
  · exact he'
def rBestD (m : PyData → List PyData → PyData) (K : PySem.W.Frag) : List V → Hp → VK → Prop := fun vs H Q => ∃ (a : Addr) (xs : List V) (d : PyData) (ds : List PyData), vs = [.ref a] ∧ SqL K H a xs ∧ Paired (Dp K H) xs (d :: ds) ∧ PySem.W.AlikeAll (d :: ds) ∧ PyData.depthAll (d :: ds) ≤ 60 ∧
  ∀ (i : Nat) (y : V), xs[i]? = some y → (d :: ds)[i]? = some (m d ds) → Q y H
theorem reads_vals {s : Shared} {pins : List (Addr × Obj)} {σ : L2.St} {H : Hp} (I : Inv X pins σ H s) : ∀ {xs : List V} {ds : List PyData} {us : List Value}, Paired (Dp X.K H) xs ds → Vals xs us → ∃ as, ReadsAll s.heap us ds as
  | _, _, _, .nil, h => by cases h; exact ⟨_, .nil⟩
  | _, _, _, .cons h t, hv => by
    cases hv with
    | cons hu tv =>
      obtain ⟨as, r⟩ := Dp.reads I _ _ _ h hu
      obtain ⟨bs, rs⟩ := reads_vals I t tv
      exact ⟨_, .cons r rs⟩
theorem best_mem {f : PyData → PyData → Bool} : ∀ {ds : List PyData} {d : PyData}, ds.foldl (fun a y => if f a y then y else a) d ∈ d :: ds
  | [], _ => List.mem_cons_self
  | x :: ds, d => by
    rw [List.foldl_cons]
    have := best_mem (f := f) (ds := ds) (d := if f d x then x else d)
    rcases List.mem_cons.mp this with h | h
    · rw [h]
      split
      · exact List.mem_cons_of_mem _ List.mem_cons_self
      · exact List.mem_cons_self
    · exact List.mem_cons_of_mem _ (List.mem_cons_of_mem _ h)
theorem cr_minD (hc : X.calm = true) (hu : X.A.units + 65 < cLine) : CallR X (.builtin "min") (rBestD PySem.W.minD X.K) := by
  intro pins s σ H vs us Q I r h
  obtain ⟨a, xs, d, ds, rfl, hs, pd, hal, hdp, q⟩ := h
  obtain ⟨its, rv, hil, hz⟩ := I.list hs
  rw [Vals.ref1 r]
  obtain ⟨as, hr⟩ := reads_vals I pd rv
  refine PySem.W.min_list_data (I.ok.hd hc) hil.isList (by simpa using hr) hal (by omega) fun i v h' tk bs hv rb hk => ?_
  have hv' : its[i]? = some v := by simpa using hv
  obtain ⟨y, hy, ry⟩ : ∃ y, xs[i]? = some y ∧ RelV y v := by
    have hl := rv.length
    have hi : i < xs.length := by rw [hl]; exact (List.getElem?_eq_some_iff.mp hv').1
    obtain ⟨u, hu, ru⟩ := rv.get (List.getElem?_eq_getElem hi)
    rw [hv'] at hu
    cases hu
    exact ⟨_, List.getElem?_eq_getElem hi, ru⟩
  obtain ⟨e, he, dy⟩ := pairedGet pd hy
  obtain ⟨cs, rc⟩ := Dp.reads I e y v dy ry
  have : e = PySem.W.minD d ds := PySem.W.alike_unique _ _ _ _ _ (hal.1 _ (List.mem_of_getElem? he) _ (best_mem (f := fun a y => PySem.W.dataLt y a))) (PySem.W.reads_keeps hk rc) rb
  subst this
  exact ⟨y, H, I.kept hk, ry, q i y hy he⟩
theorem cr_maxD (hc : X.calm = true) (hu : X.A.units + 65 < cLine) : CallR X (.builtin "max") (rBestD PySem.W.maxD X.K) := by
  intro pins s σ H vs us Q I r h
  obtain ⟨a, xs, d, ds, rfl, hs, pd, hal, hdp, q⟩ := h
  obtain ⟨its, rv, hil, hz⟩ := I.list hs
  rw [Vals.ref1 r]
  obtain ⟨as, hr⟩ := reads_vals I pd rv
  refine PySem.W.max_list_data (I.ok.hd hc) hil.isList (by simpa using hr) hal (by omega) fun i v h' tk bs hv rb hk => ?_
  have hv' : its[i]? = some v := by simpa using hv
  obtain ⟨y, hy, ry⟩ : ∃ y, xs[i]? = some y ∧ RelV y v := by
    have hl := rv.length
    have hi : i < xs.length := by rw [hl]; exact (List.getElem?_eq_some_iff.mp hv').1
    obtain ⟨u, hu, ru⟩ := rv.get (List.getElem?_eq_getElem hi)
    rw [hv'] at hu
    cases hu
    exact ⟨_, List.getElem?_eq_getElem hi, ru⟩
  obtain ⟨e, he, dy⟩ := pairedGet pd hy
  obtain ⟨cs, rc⟩ := Dp.reads I e y v dy ry
  have : e = PySem.W.maxD d ds := PySem.W.alike_unique _ _ _ _ _ (hal.1 _ (List.mem_of_getElem? he) _ (best_mem (f := fun a y => PySem.W.dataLt a y))) (PySem.W.reads_keeps hk rc) rb
  subst this
  exact ⟨y, H, I.kept hk, ry, q i y hy he⟩
end
/-! ### more displays and sums -/
def dStar (te : TE) (t : TA) : TA := fun σ H Q => te σ H fun x H1 => match x with
  | .ref p => seqAt (H1 p) fun xs => t σ H1 fun ys H2 => Q (xs ++ ys) H2
  | _ => False
/-- + of ints, texts, lists, tuples -/
def dAdd2 : R2 := fun x y H Q => match x, y with
  | .int i, .int j => Q (.int (i + j)) H
  | .str i, .str j => i.length + j.length ≤ sizeLine ∧ Q (.str (i ++ j)) H
  | .ref a, .ref b => match H a, H b with
    | some (.lst xs), some (.lst ys) => xs.length + ys.length ≤ sizeLine ∧ ∀ p, H p = none → Q (.ref p) (upd H p (.lst (xs ++ ys)))
    | some (.tup xs), some (.tup ys) => xs.length + ys.length ≤ sizeLine ∧ (xs = [] → Q (.ref b) H) ∧ (xs ≠ [] → ys = [] → Q (.ref a) H) ∧ (xs ≠ [] → ys ≠ [] → ∀ p, H p = none → Q (.ref p) (upd H p (.tup (xs ++ ys))))
    | _, _ => False
  | _, _ => False
def dGcd : List V → Hp → VK → Prop := fun vs H Q => match vs with
  | [.int a, .int b] => Q (.int ((Nat.gcd a.natAbs b.natAbs : Nat) : Int)) H
  | _ => False
section
variable {X : Cx}
theorem d_star {e : Expr} {es : List Expr} {te : TE} {t : TA} {p : Pos} (he : PE X e te) (hr : PA X es t) (hs : starEach (.Starred e p :: es) X.env = (true, eval e X.env) :: starEach es X.env := by rfl) : PA X (.Starred e p :: es) (dStar te t) := by
  have h := StX.pa_star (peM he) hr hs
  refine ⟨fun pos pins s σ H Q I q => h.run pos pins s σ H Q I ⟨_, q, fun v H' q2 => ?_⟩⟩
  split at q2
  · obtain ⟨xs, hs, q3⟩ := seqAt_sq (K := X.K) q2
    exact ⟨_, xs, rfl, hs.symm, q3⟩
  · exact q2.elim
theorem d_add2 : OpR X (binaryOp .Add) dAdd2 := opM (u_add (X := X)) fun x y H Q q => by
  unfold dAdd2 at q
  split at q
  · exact .inl ⟨_, _, rfl, rfl, q⟩
  · exact .inr (.inl ⟨_, _, rfl, rfl, q.1, q.2⟩)
  · split at q
    · rename_i h1 h2
      exact .inr (.inr (.inl ⟨_, _, _, _, rfl, rfl, h1, h2, q.1, q.2⟩))
    · rename_i xs ys h1 h2
      exact .inr (.inr (.inr ⟨_, _, xs, ys, rfl, rfl, .inl (.inl h1), .inl (.inl h2), q.1, q.2.1, q.2.2.1, q.2.2.2⟩))
    · exact q.elim
  · exact q.elim
theorem d_gcd : CallR X (.builtin "math.gcd") dGcd := caM cr_gcd fun xs H Q q => by
  unfold dGcd at q
  split at q
  · exact ⟨_, _, rfl, q⟩
  · exact q.elim
end
/-! ### comprehensions with two fors -/
section
variable {K : PySem.W.Frag}
abbrev Lc2In (wi1 : TI) (g1 : TG) (tt1 : TT) (te : TE) (vs1 : List Nat) (D : Addr) (σ2 : L2.St) (H3 : Hp) (Nx : Hp → Prop) : Prop :=
  wi1 σ2 H3 fun J1 H4 => ∃ W1 : Nat → Nat → Hp → Prop, (∃ m, W1 0 m H4) ∧ ∀ j k H, W1 j k H →
    (J1.stop j H ∧ Nx H) ∨ (J1.go j H ∧ ∃ Nx1 : Hp → Prop, (∀ H', Nx1 H' → ∃ k', k' < k ∧ W1 (j + 1) k' H') ∧ ∀ x H', J1.yld j H x H' → g1 x (wipe σ2 vs1) H' fun σ3 H5 => wipe σ3 vs1 = wipe σ2 vs1 ∧ tt1 σ3 H5 fun b H6 =>
      if b = true then te σ3 H6 fun y H7 => ∃ acc, H7 D = some (.lst acc) ∧ acc.length < sizeLine ∧ Nx1 (upd H7 D (.lst (acc ++ [y]))) else Nx1 H6)
/-- the inner walk of a sequence -/
theorem lc2_in {J : It} {n : Nat} {g1 : TG} {tt1 : TT} {te : TE} {vs1 : List Nat} {D : Addr} {σ2 : L2.St} {H4 : Hp} {Nx : Hp → Prop} (it : Nat → V → Prop) (Pw : Nat → Hp → Prop) (h0 : Pw 0 H4)
    (hgo : ∀ j H, j < n → Pw j H → J.go j H) (hst : ∀ H, Pw n H → J.stop n H) (hy : ∀ j H x H', j < n → Pw j H → J.yld j H x H' → H' = H ∧ it j x)
    (hs : ∀ j x H, j < n → it j x → Pw j H → g1 x (wipe σ2 vs1) H fun σ3 H5 => wipe σ3 vs1 = wipe σ2 vs1 ∧ tt1 σ3 H5 fun b H6 => if b = true then te σ3 H6 fun y H7 => ∃ acc, H7 D = some (.lst acc) ∧ acc.length < sizeLine ∧ Pw (j + 1) (upd H7 D (.lst (acc ++ [y]))) else Pw (j + 1) H6) (hd : ∀ H, Pw n H → Nx H) :
    ∃ W1 : Nat → Nat → Hp → Prop, (∃ m, W1 0 m H4) ∧ ∀ j k H, W1 j k H →
      (J.stop j H ∧ Nx H) ∨ (J.go j H ∧ ∃ Nx1 : Hp → Prop, (∀ H', Nx1 H' → ∃ k', k' < k ∧ W1 (j + 1) k' H') ∧ ∀ x H', J.yld j H x H' → g1 x (wipe σ2 vs1) H' fun σ3 H5 => wipe σ3 vs1 = wipe σ2 vs1 ∧ tt1 σ3 H5 fun b H6 =>
        if b = true then te σ3 H6 fun y H7 => ∃ acc, H7 D = some (.lst acc) ∧ acc.length < sizeLine ∧ Nx1 (upd H7 D (.lst (acc ++ [y]))) else Nx1 H6) := by
  refine ⟨fun j k H => k = n - j ∧ j ≤ n ∧ Pw j H, ⟨n, by omega, Nat.zero_le _, h0⟩, ?_⟩
  rintro j k H ⟨rfl, hj, p⟩
  rcases Nat.lt_or_ge j n with h | h
  · refine .inr ⟨hgo j H h p, Pw (j + 1), fun H' q => ⟨n - (j + 1), by omega, rfl, h, q⟩, fun x H' y => ?_⟩
    obtain ⟨rfl, e⟩ := hy j H x H' h p y
    exact hs j x _ h e p
  · have : j = n := by omega
    subst this
    exact .inl ⟨hst H p, hd H p⟩
end
/-- a walk over what stands as a list or a tuple, old or new -/
structure SeqJ (K : PySem.W.Frag) (J : It) (H1 H H4 : Hp) (ys : List V) : Prop where
  ex : ∃ b, (H b = none ∨ H1 b ≠ none) ∧ ((J = Itl K b ∧ H4 b = some (.lst ys)) ∨ (J = Itt K b ∧ H4 b = some (.tup ys)))
section
variable {K : PySem.W.Frag}
/-- the outer walk -/
theorem lc2_out {J : It} {n : Nat} {g : TG} {tt : TT} {wi1 : TI} {g1 : TG} {tt1 : TT} {te : TE} {vs vs1 : List Nat} {σ : L2.St} {H1 : Hp} {D : Addr} {Qd : Hp → Prop} (it : Nat → V → Prop) (Pv : Nat → Hp → Prop) (h0 : Pv 0 (upd H1 D (.lst [])))
    (hgo : ∀ j H, j < n → Pv j H → J.go j H) (hst : ∀ H, Pv n H → J.stop n H) (hy : ∀ j H x H', j < n → Pv j H → J.yld j H x H' → H' = H ∧ it j x)
    (hs : ∀ j x H, j < n → it j x → Pv j H → g x (wipe σ vs) H fun σ2 H2 => wipe σ2 vs = wipe σ vs ∧ tt σ2 H2 fun b H3 => if b = true then Lc2In wi1 g1 tt1 te vs1 D σ2 H3 (Pv (j + 1)) else Pv (j + 1) H3) (hd : ∀ H, Pv n H → Qd H) :
    ∃ W : Nat → Nat → Hp → Prop, (∃ m, W 0 m (upd H1 D (.lst []))) ∧ ∀ i m H, W i m H →
      (J.stop i H ∧ Qd H) ∨ (J.go i H ∧ ∃ Nx : Hp → Prop, (∀ H', Nx H' → ∃ m', m' < m ∧ W (i + 1) m' H') ∧ ∀ x H', J.yld i H x H' → g x (wipe σ vs) H' fun σ2 H2 => wipe σ2 vs = wipe σ vs ∧ tt σ2 H2 fun b H3 =>
        if b = true then Lc2In wi1 g1 tt1 te vs1 D σ2 H3 Nx else Nx H3) := by
  refine ⟨fun j k H => k = n - j ∧ j ≤ n ∧ Pv j H, ⟨n, by omega, Nat.zero_le _, h0⟩, ?_⟩
  rintro j k H ⟨rfl, hj, p⟩
  rcases Nat.lt_or_ge j n with h | h
  · refine .inr ⟨hgo j H h p, Pv (j + 1), fun H' q => ⟨n - (j + 1), by omega, rfl, h, q⟩, fun x H' y => ?_⟩
    obtain ⟨rfl, e⟩ := hy j H x H' h p y
    exact hs j x _ h e p
  · have : j = n := by omega
    subst this
    exact .inl ⟨hst H p, hd H p⟩
/-- what is found by two fors -/
theorem lc2_pair {β γ : Type} {a : Addr} {xs : List V} {ps : List β} {F : V → β → Prop} {g : TG} {tt : TT} {wi1 : TI} {g1 : TG} {tt1 : TT} {te : TE} {vs vs1 : List Nat} {σ : L2.St} {H1 : Hp} {Q : VK} (hq : SqL K H1 a xs) (pp : Paired F xs ps) (B : Nat) (hz : xs.length * B ≤ 1000000) (qs : β → List γ) (hqs : ∀ p, (qs p).length ≤ B)
    (G : β → V → γ → Prop) (R : β → γ → V → Hp → Prop) (st : ∀ p q y H H', KT H H' → R p q y H → R p q y H') (s2 : V → L2.St)
    (outer : ∀ (i : Nat) (x : V) (p : β), xs[i]? = some x → ps[i]? = some p → F x p → ∀ H, Same H1 H → ∀ (C : L2.St → It → Hp → Prop) (k0 : Hp → Prop), (∀ J H4 ys, Same H H4 → SeqJ K J H1 H H4 ys → Paired (G p) ys (qs p) → C (s2 x) J H4) →
      g x (wipe σ vs) H fun σ2 H2 => wipe σ2 vs = wipe σ vs ∧ tt σ2 H2 fun b H3 => if b = true then wi1 σ2 H3 (C σ2) else k0 H3)
    (inner : ∀ (i : Nat) (x : V) (p : β) (y : V) (q : γ), xs[i]? = some x → ps[i]? = some p → F x p → q ∈ qs p → G p y q → ∀ H, Same H1 H → ∀ (k1 : VK) (k0 : Hp → Prop), (∀ v H', Same H H' → R p q v H' → k1 v H') → LcTurn g1 tt1 te vs1 (s2 x) y H k1 k0)
    (hd : ∀ D H ys, H1 D = none → Same H1 H → H D = some (.lst ys) → Paired (fun pq v => R pq.1 pq.2 v H) (ps.flatMap fun p => (qs p).map fun q => (p, q)) ys → Q (.ref D) H) :
    ∀ D, H1 D = none → ∃ W : Nat → Nat → Hp → Prop, (∃ m, W 0 m (upd H1 D (.lst []))) ∧ ∀ i m H, W i m H →
      ((Itl K a).stop i H ∧ Q (.ref D) H) ∨ ((Itl K a).go i H ∧ ∃ Nx : Hp → Prop, (∀ H', Nx H' → ∃ m', m' < m ∧ W (i + 1) m' H') ∧ ∀ x H', (Itl K a).yld i H x H' → g x (wipe σ vs) H' fun σ2 H2 => wipe σ2 vs = wipe σ vs ∧ tt σ2 H2 fun b H3 =>
        if b = true then Lc2In wi1 g1 tt1 te vs1 D σ2 H3 Nx else Nx H3) := by
  intro D hD
  refine lc2_out (n := xs.length) (fun j x => xs[j]? = some x) (fun i H => Same H1 H ∧ ∃ acc, H D = some (.lst acc) ∧ acc.length ≤ i * B ∧ Paired (fun pq v => R pq.1 pq.2 v H) ((ps.take i).flatMap fun p => (qs p).map fun q => (p, q)) acc)
    ⟨same_new hD, [], upd_same, Nat.zero_le _, .nil⟩ ?_ ?_ ?_ ?_ ?_
  · rintro j H hj ⟨s, _⟩
    exact ⟨xs, xs[j], s.seq hq, List.getElem?_eq_getElem hj⟩
  · rintro H ⟨s, _⟩
    exact ⟨xs, s.seq hq, Nat.le_refl _⟩
  · rintro j H x H' hj ⟨s, _⟩ ⟨e, h⟩
    exact ⟨e, h xs (s.seq hq)⟩
  · rintro i x H hi hx ⟨s, acc, hDs, hy, pr⟩
    obtain ⟨p, hp, hF⟩ := pairedGet pp hx
    have e1 : ps.take (i + 1) = ps.take i ++ [p] := by rw [List.take_succ, hp]; rfl
    refine outer i x p hx hp hF H s (fun σ2 J1 H4 => _) _ fun J H4 ys s4 sj pg => ?_
    obtain ⟨b, hb, hJ⟩ := sj.ex
    have nb : b ≠ D := by
      rcases hb with hb | hb
      · intro e; rw [e, hDs] at hb; cases hb
      · intro e; rw [e] at hb; exact hb hD
    have hlen := paired_len pg
    have hB := hqs p
    have him : i * B + B ≤ 1000000 := by
      have h1 : (i + 1) * B ≤ xs.length * B := Nat.mul_le_mul_right _ hi
      rw [Nat.succ_mul] at h1
      omega
    refine lc2_in (J := J) (n := ys.length) (fun j y => ys[j]? = some y) (fun j H => Same H1 H ∧ H b = H4 b ∧ ∃ acc, H D = some (.lst acc) ∧ acc.length ≤ i * B + j ∧ Paired (fun pq v => R pq.1 pq.2 v H) (((ps.take i).flatMap fun p => (qs p).map fun q => (p, q)) ++ ((qs p).take j).map fun q => (p, q)) acc) ?_ ?_ ?_ ?_ ?_ ?_
    · refine ⟨s.trans s4, rfl, acc, s4 _ _ hDs, hy, ?_⟩
      rw [List.take_zero, List.map_nil, List.append_nil]
      exact Paired.mapP pr fun _ _ z => st _ _ _ _ _ (KT.same s4) z
    · rintro j H hj ⟨_, eb, _⟩
      rcases hJ with ⟨rfl, h⟩ | ⟨rfl, h⟩
      · exact ⟨ys, ys[j], .inl (.inl (eb.trans h)), List.getElem?_eq_getElem hj⟩
      · exact ⟨ys, ys[j], .inl (.inl (eb.trans h)), List.getElem?_eq_getElem hj⟩
    · rintro H ⟨_, eb, _⟩
      rcases hJ with ⟨rfl, h⟩ | ⟨rfl, h⟩
      · exact ⟨ys, .inl (.inl (eb.trans h)), Nat.le_refl _⟩
      · exact ⟨ys, .inl (.inl (eb.trans h)), Nat.le_refl _⟩
    · rintro j H y H' hj ⟨_, eb, _⟩ hyl
      rcases hJ with ⟨rfl, h⟩ | ⟨rfl, h⟩
      · exact ⟨hyl.1, hyl.2 ys (.inl (.inl (eb.trans h)))⟩
      · exact ⟨hyl.1, hyl.2 ys (.inl (.inl (eb.trans h)))⟩
    · rintro j y H hj hyj ⟨sH, eb, acc2, hD2, hl2, pr2⟩
      obtain ⟨q, hqj, hG⟩ := pairedGet pg hyj
      have hbs : H b ≠ none := by
        rw [eb]
        rcases hJ with ⟨_, h⟩ | ⟨_, h⟩ <;> rw [h] <;> simp
      refine inner i x p y q hx hp hF (List.mem_of_getElem? hqj) hG H sH _ _ fun v H' s' r => ⟨acc2, s' D _ hD2, by rw [sizeLine_eq]; omega, same_mut (sH.trans s') hD, ?_, acc2 ++ [v], upd_same, by rw [List.length_append, List.length_singleton]; omega, ?_⟩
      · rw [upd_ne nb]
        cases e : H b with
        | none => exact absurd e hbs
        | some o => rw [s' b o e, ← eb, e]
      · have kt : KT H (upd H' D (.lst (acc2 ++ [v]))) := (KT.same s').trans (KT.mut (by rw [s' D _ hD2]; rfl))
        have kt2 : KT H' (upd H' D (.lst (acc2 ++ [v]))) := KT.mut (by rw [s' D _ hD2]; rfl)
        have e2 : (qs p).take (j + 1) = (qs p).take j ++ [q] := by rw [List.take_succ, hqj]; rfl
        rw [e2, List.map_append, ← List.append_assoc]
        exact paired_app (Paired.mapP pr2 fun _ _ z => st _ _ _ _ _ kt z) (.cons (st _ _ _ _ _ kt2 r) .nil)
    · rintro H ⟨sH, _, acc2, hD2, hl2, pr2⟩
      rw [hlen, List.take_length] at pr2
      refine ⟨sH, acc2, hD2, by rw [Nat.succ_mul]; omega, ?_⟩
      rw [e1, List.flatMap_append]
      simpa using pr2
  · rintro H ⟨s, acc, hDs, hy, pr⟩
    rw [paired_len pp, List.take_length] at pr
    exact hd D H acc hD s hDs pr
end
def dIL (K : PySem.W.Frag) (tl : TE) : TI := fun σ H R => tl σ H fun x H1 => match x with
  | .ref a => (∃ xs, SqL K H1 a xs) ∧ R (Itl K a) H1
  | _ => False
def dIT (K : PySem.W.Frag) (tl : TE) : TI := fun σ H R => tl σ H fun x H1 => match x with
  | .ref a => (∃ xs, SqT K H1 a xs) ∧ R (Itt K a) H1
  | _ => False
def Lc2J (J : It) (g : TG) (tt : TT) (wi1 : TI) (g1 : TG) (tt1 : TT) (te : TE) (vs vs1 : List Nat) : L2.St → Hp → VK → Prop := fun σ H1 Q =>
  ∀ D, H1 D = none → ∃ W : Nat → Nat → Hp → Prop, (∃ m, W 0 m (upd H1 D (.lst []))) ∧ ∀ i m H, W i m H →
      (J.stop i H ∧ Q (.ref D) H) ∨ (J.go i H ∧ ∃ Nx : Hp → Prop, (∀ H', Nx H' → ∃ m', m' < m ∧ W (i + 1) m' H') ∧ ∀ x H', J.yld i H x H' → g x (wipe σ vs) H' fun σ2 H2 => wipe σ2 vs = wipe σ vs ∧ tt σ2 H2 fun b H3 =>
        if b = true then Lc2In wi1 g1 tt1 te vs1 D σ2 H3 Nx else Nx H3)
def dLc2 (K : PySem.W.Frag) (tl : TE) (g : TG) (tt : TT) (wi1 : TI) (g1 : TG) (tt1 : TT) (te : TE) (vs vs1 : List Nat) : TE := fun σ H Q => tl σ H fun x H1 => match x with
  | .ref a => (∃ xs, SqL K H1 a xs) ∧ Lc2J (Itl K a) g tt wi1 g1 tt1 te vs vs1 σ H1 Q
  | _ => False
section
variable {X : Cx}
theorem pi_dL {tg e : Expr} {tl : TE} (h : PE X e tl) : PI X tg e (dIL X.K tl) := by
  have h := pi_list (tg := tg) (peM h)
  refine ⟨fun pins s σ H R I q => h.run pins s σ H R I ⟨_, q, fun v H' q2 => ?_⟩⟩
  split at q2
  · exact ⟨_, rfl, q2.1, q2.2⟩
  · exact q2.elim
theorem pi_dT {tg e : Expr} {tl : TE} (h : PE X e tl) : PI X tg e (dIT X.K tl) := by
  have h := pi_tup (tg := tg) (peM h)
  refine ⟨fun pins s σ H R I q => h.run pins s σ H R I ⟨_, q, fun v H' q2 => ?_⟩⟩
  split at q2
  · exact ⟨_, rfl, q2.1, q2.2⟩
  · exact q2.elim
theorem lc2_l {K : PySem.W.Frag} {tl : TE} {g g1 : TG} {tt tt1 : TT} {te : TE} {wi1 : TI} {vs vs1 : List Nat} {σ : L2.St} {H : Hp} {Q : VK} (q1 : dLc2 K tl g tt wi1 g1 tt1 te vs vs1 σ H Q) : tLc2 (iList K (mE tl)) g tt wi1 g1 tt1 te vs vs1 σ H Q := ⟨_, q1, fun v H' q2 => by
  split at q2
  · exact ⟨_, rfl, q2.1, q2.2⟩
  · exact q2.elim⟩
variable {elt tg iter tg1 iter1 : Expr} {ifs ifs1 : List Expr} {scope : Scope} {own : List (Str × Nat)} {vs1 : List Nat} {pos : Pos} {tl te : TE} {wi1 : TI} {g g1 : TG} {tt tt1 : TT}
theorem d_lc2 (hc : X.calm = true) (hN : X.N.Nodup) (hl : PE X iter tl) (ok : BlkOk X.N X.env.scope scope own) (hv : ∀ i ∈ vs1, i ∈ own.map (·.2)) (hg : BG X scope tg g) (ht : BT X scope ifs tt)
    (hi1 : ∀ (s : Shared) (H : Hp) (C : Addr) (cl : List (Str × Addr)) (fp : List Addr), PI (X.blk s H scope (compEnvC scope cl C X.env) fp) tg1 iter1 wi1) (hg1 : BG X scope tg1 g1) (ht1 : BT X scope ifs1 tt1) (he : BE X scope elt te)
    (hs : ∀ x, foldedSetIterable iter X.env x = pure x := by intro _; rfl) (hs1 : ∀ env x, foldedSetIterable iter1 env x = pure x := by intro _ _; rfl) :
    PE X (.ListComp elt [⟨tg, iter, ifs, 0⟩, ⟨tg1, iter1, ifs1, 0⟩] scope pos) (dLc2 X.K tl g tt wi1 g1 tt1 te (own.map (·.2)) vs1) := peI (pe_lc2 hc hN (pi_list (peM hl)) ok hv hg ht hi1 hg1 ht1 he hs hs1) fun _ _ _ q => lc2_l q
theorem d_set2 {i : Nat} {y : Str} {py spos : Pos} (hc : X.calm = true) (hN : X.N.Nodup) (hy : X.N[i]? = some y) (hyl : X.env.scope.names.lookup y = some .local) (hsw : swapsWith (.ListComp elt [⟨tg, iter, ifs, 0⟩, ⟨tg1, iter1, ifs1, 0⟩] scope pos) (some (.Name y py)) spos.line X.env = pure true)
    (hl : PE X iter tl) (ok : BlkOk X.N X.env.scope scope own) (hv : ∀ i ∈ vs1, i ∈ own.map (·.2)) (hg : BG X scope tg g) (ht : BT X scope ifs tt)
    (hi1 : ∀ (s : Shared) (H : Hp) (C : Addr) (cl : List (Str × Addr)) (fp : List Addr), PI (X.blk s H scope (compEnvC scope cl C X.env) fp) tg1 iter1 wi1) (hg1 : BG X scope tg1 g1) (ht1 : BT X scope ifs1 tt1) (he : BE X scope elt te)
    (hs : ∀ x, foldedSetIterable iter X.env x = pure x := by intro _; rfl) (hs1 : ∀ env x, foldedSetIterable iter1 env x = pure x := by intro _ _; rfl) :
    PS X (.Assign [.Name y py] (.ListComp elt [⟨tg, iter, ifs, 0⟩, ⟨tg1, iter1, ifs1, 0⟩] scope pos) spos) (tAsg (dLc2 X.K tl g tt wi1 g1 tt1 te (own.map (·.2)) vs1) (gName i)) := psI (ps_setLc2 hc hN hy hyl hsw (pi_list (peM hl)) ok hv hg ht hi1 hg1 ht1 he hs hs1) fun _ _ _ q => lc2_l q
end
section
variable {X : Cx} {a b elt tg : Expr} {ifs : List Expr} {scope : Scope} {own : List (Str × Nat)} {te : TE} {ta : TA} {g : TG} {tt : TT} {pos p p2 : Pos} {i : Nat} {y : Str} {py spos : Pos}
theorem d_setR2 (hc : X.calm = true) (hN : X.N.Nodup) (hy : X.N[i]? = some y) (hyl : X.env.scope.names.lookup y = some .local) (hsw : swapsWith (.ListComp elt [⟨tg, .Call (.Name "range" p) [a, b] [] p2, ifs, 0⟩] scope pos) (some (.Name y py)) spos.line X.env = pure true)
    (hm : X.mg "range" = none) (ha : PA X [a, b] ta) (ok : BlkOk X.N X.env.scope scope own) (hg : BG X scope tg g) (ht : BT X scope ifs tt) (he : BE X scope elt te) (hgl : Gl X "range" := by rfl)
    (hs : ∀ x, foldedSetIterable (.Call (.Name "range" p) [a, b] [] p2) X.env x = pure x := by intro _; rfl) (hst : starEach [a, b] X.env = [(false, eval a X.env), (false, eval b X.env)] := by rfl) (hst2 : starEach [b] X.env = [(false, eval b X.env)] := by rfl) :
    PS X (.Assign [.Name y py] (.ListComp elt [⟨tg, .Call (.Name "range" p) [a, b] [] p2, ifs, 0⟩] scope pos) spos) (tAsg (dLcR2 ta g tt te (own.map (·.2))) (gName i)) := psI (ps_setLc hc hN hy hyl hsw (pi_range2 hgl hm (paM ha) hst hst2) ok hg ht he hs) fun _ _ _ q => lc_r2 q
end
/-! ### comprehensions over tuples; a tuple times an int -/
theorem lcT_core {K : PySem.W.Frag} {a : Addr} {xs : List V} {g : TG} {tt : TT} {te : TE} {vs : List Nat} {σ : L2.St} {H1 : Hp} {Q : VK} (hq : H1 a = some (.tup xs)) (hz : xs.length ≤ 1000000) (f : V → Bool) (R : V → V → Hp → Prop)
    (st : ∀ x y H H', KT H H' → R x y H → R x y H')
    (turn : ∀ x ∈ xs, ∀ H, Same H1 H → ∀ (k1 : VK) (k0 : Hp → Prop), (f x = true → ∀ y H', Same H H' → R x y H' → k1 y H') → (f x = false → ∀ H', Same H H' → k0 H') → LcTurn g tt te vs σ x H k1 k0)
    (hd : ∀ D H ys, H1 D = none → Same H1 H → H D = some (.lst ys) → Paired (fun x y => R x y H) (xs.filter f) ys → Q (.ref D) H) : LcT K a g tt te vs σ H1 Q := by
  refine ⟨⟨_, .of hq⟩, fun D hD => lc_tup (K := K) (a := a) (xs := xs) (fun i H => Same H1 H ∧ ∃ ys, H D = some (.lst ys) ∧ ys.length ≤ i ∧ Paired (fun x y => R x y H) ((xs.take i).filter f) ys) ⟨same_new hD, [], upd_same, Nat.le_refl _, .nil⟩ (fun i H _ p => .of (p.1 _ _ hq)) ?_ ?_⟩
  · rintro i x H hx ⟨s, ys, hDs, hy, pr⟩
    have hlt := (List.getElem?_eq_some_iff.mp hx).1
    have e1 : xs.take (i + 1) = xs.take i ++ [x] := by rw [List.take_succ, hx]; rfl
    refine turn x (List.mem_of_getElem? hx) H s _ _ (fun hf y H' s' r => ⟨ys, s' D _ hDs, Nat.lt_of_le_of_lt hy (by rw [sizeLine_eq]; omega), same_mut (s.trans s') hD, ys ++ [y], upd_same, by rw [List.length_append]; exact Nat.succ_le_succ hy, ?_⟩) fun hf H' s' => ⟨s.trans s', ys, s' D _ hDs, Nat.le_succ_of_le hy, ?_⟩
    · have kt : KT H (upd H' D (.lst (ys ++ [y]))) := (KT.same s').trans (KT.mut (by rw [s' D _ hDs]; rfl))
      have kt2 : KT H' (upd H' D (.lst (ys ++ [y]))) := KT.mut (by rw [s' D _ hDs]; rfl)
      rw [e1, List.filter_append, List.filter_cons, if_pos hf]
      exact paired_app (Paired.mapP pr fun _ _ z => st _ _ _ _ kt z) (.cons (st _ _ _ _ kt2 r) .nil)
    · rw [e1, List.filter_append, List.filter_cons, if_neg (by rw [hf]; decide), List.filter_nil, List.append_nil]
      exact Paired.mapP pr fun _ _ z => st _ _ _ _ (KT.same s') z
  · rintro H ⟨s, ys, hDs, hy, pr⟩
    rw [List.take_length] at pr
    exact hd D H ys hD s hDs pr
theorem lc2_pairJ {K : PySem.W.Frag} {β γ : Type} {a : Addr} {xs : List V} {ps : List β} {F : V → β → Prop} {g : TG} {tt : TT} {wi1 : TI} {g1 : TG} {tt1 : TT} {te : TE} {vs vs1 : List Nat} {σ : L2.St} {H1 : Hp} {Q : VK} (hq : SqL K H1 a xs) (pp : Paired F xs ps) (B : Nat) (hz : xs.length * B ≤ 1000000) (qs : β → List γ) (hqs : ∀ p, (qs p).length ≤ B)
    (G : β → V → γ → Prop) (R : β → γ → V → Hp → Prop) (st : ∀ p q y H H', KT H H' → R p q y H → R p q y H') (s2 : V → L2.St)
    (outer : ∀ (i : Nat) (x : V) (p : β), xs[i]? = some x → ps[i]? = some p → F x p → ∀ H, Same H1 H → ∀ (C : L2.St → It → Hp → Prop) (k0 : Hp → Prop), (∀ J H4 ys, Same H H4 → SeqJ K J H1 H H4 ys → Paired (G p) ys (qs p) → C (s2 x) J H4) →
      g x (wipe σ vs) H fun σ2 H2 => wipe σ2 vs = wipe σ vs ∧ tt σ2 H2 fun b H3 => if b = true then wi1 σ2 H3 (C σ2) else k0 H3)
    (inner : ∀ (i : Nat) (x : V) (p : β) (y : V) (q : γ), xs[i]? = some x → ps[i]? = some p → F x p → q ∈ qs p → G p y q → ∀ H, Same H1 H → ∀ (k1 : VK) (k0 : Hp → Prop), (∀ v H', Same H H' → R p q v H' → k1 v H') → LcTurn g1 tt1 te vs1 (s2 x) y H k1 k0)
    (hd : ∀ D H ys, H1 D = none → Same H1 H → H D = some (.lst ys) → Paired (fun pq v => R pq.1 pq.2 v H) (ps.flatMap fun p => (qs p).map fun q => (p, q)) ys → Q (.ref D) H) :
    Lc2J (Itl K a) g tt wi1 g1 tt1 te vs vs1 σ H1 Q := fun D hD => lc2_pair hq pp B hz qs hqs G R st s2 outer inner hd D hD
def dMulT : R2 := fun x y H Q => match x, y with
  | .ref a, .int k => match H a with
    | some (.tup xs) => xs ≠ [] ∧ 2 ≤ k ∧ k ≤ 1000 ∧ xs.length ≤ 1000 ∧ ∀ p, H p = none → Q (.ref p) (upd H p (.tup (List.replicate k.toNat xs).flatten))
    | _ => False
  | _, _ => False
def dIsB : R2 := fun x y H Q => match x, y with
  | .bl a, .bl b => Q (.bl (decide (a = b))) H
  | _, _ => False
def dNotB : R2 := fun x y H Q => match x, y with
  | .bl a, .bl b => Q (.bl (!decide (a = b))) H
  | _, _ => False
section
variable {X : Cx}
theorem d_isB : OpR X (compareOp .Is) dIsB := opM (op_isBl (X := X)) fun x y H Q q => by
  unfold dIsB at q
  split at q
  · exact ⟨_, _, rfl, rfl, q⟩
  · exact q.elim
theorem d_notB : OpR X (compareOp .IsNot) dNotB := opM (op_notBl (X := X)) fun x y H Q q => by
  unfold dNotB at q
  split at q
  · exact ⟨_, _, rfl, rfl, q⟩
  · exact q.elim
theorem d_mulT : OpR X (binaryOp .Mult) dMulT := opM (op_repT (X := X)) fun x y H Q q => by
  unfold dMulT at q
  split at q
  · split at q
    · rename_i xs h
      exact ⟨_, _, xs, rfl, rfl, .of h, q.1, q.2.1, q.2.2.1, q.2.2.2.1, q.2.2.2.2⟩
    · exact q.elim
  · exact q.elim
end
/-! ### comprehensions that draw -/
def DrawsAt (H : Hp) (d : Addr) : Prop := ∃ ms : List Int, H d = some (.lst (ms.map V.int))
theorem DrawsAt.same {H H' : Hp} {d : Addr} (s : Same H H') (h : DrawsAt H d) : DrawsAt H' d := by obtain ⟨ms, hm⟩ := h; exact ⟨ms, s _ _ hm⟩
theorem DrawsAt.ne {H : Hp} {d x : Addr} (h : DrawsAt H d) (hx : H x = none) : d ≠ x := by obtain ⟨ms, hm⟩ := h; exact ne_of_none hm hx
theorem lcR_draw {lo : Int} {n : Nat} {g : TG} {tt : TT} {te : TE} {vs : List Nat} {σ : L2.St} {H1 : Hp} {Q : VK} {d : Addr} (hz : n ≤ 1000000) (h0 : DrawsAt H1 d) (R : Nat → V → Prop)
    (turn : ∀ (i : Nat), i < n → ∀ H, Keep [d] H1 H → DrawsAt H d → ∀ (k1 : VK) (k0 : Hp → Prop), (∀ y H', Keep [d] H H' → DrawsAt H' d → R i y → k1 y H') → LcTurn g tt te vs σ (.int (lo + (i : Nat))) H k1 k0)
    (hd : ∀ D H ys, H1 D = none → Keep [d] H1 H → DrawsAt H d → H D = some (.lst ys) → Paired R (List.range n) ys → Q (.ref D) H) : LcJ (Itr lo n) g tt te vs σ H1 Q := by
  intro D hD
  have nd : d ≠ D := h0.ne hD
  refine lc_range (lo := lo) (n := n) (fun i H => Keep [d] H1 H ∧ DrawsAt H d ∧ ∃ ys, H D = some (.lst ys) ∧ ys.length ≤ i ∧ Paired R (List.range i) ys) ⟨.same (same_new hD), h0.same (same_new hD), [], upd_same, Nat.le_refl _, .nil⟩ ?_ ?_
  · rintro i H hlt ⟨kp, dr, ys, hDs, hy, pr⟩
    refine turn i hlt H kp dr _ _ (fun y H' kp' dr' r => ?_)
    have hD' : H' D = some (.lst ys) := kp' D _ hDs (by simpa using fun e => nd e.symm)
    refine ⟨ys, hD', Nat.lt_of_le_of_lt hy (by rw [sizeLine_eq]; omega), ?_, ?_, ys ++ [y], upd_same, by rw [List.length_append]; exact Nat.succ_le_succ hy, ?_⟩
    · exact Keep.new0 (kp.trans kp') hD
    · obtain ⟨ms, hm⟩ := dr'
      exact ⟨ms, by rw [upd_ne nd]; exact hm⟩
    · rw [List.range_succ]
      exact paired_app pr (.cons r .nil)
  · rintro H ⟨kp, dr, ys, hDs, hy, pr⟩
    exact hd D H ys hD kp dr hDs pr
/-! ### dicts with tuple keys: pop(k), min(d), values() -/
section
variable {prog : Program} {w : World} {KK : Type} [DecidableEq KK] {knd : HeapKind prog w KK} {s : Shared} {A : Around} {E : Value → Shared → Prop}
theorem meetsPop1 {d b : Addr} {k : KK} (hd : (d == sysModules) = false) :
    MeetsIn prog w (Builtin.«dict.pop» ⟨[.ref d, .ref b], []⟩) (fun A R s => ∃ xs p, knd.room A.in1 ∧ knd.is s.heap k b ∧ s.heap.DictOfH knd d xs ∧ xs.length ≤ sizeLine ∧ atKey xs k = some p ∧
      ∀ h' tk, h'.DictOfH knd d (DT.dropH xs k) → Heap.SameBut d s.heap h' → R (.ok (.ret p.2)) { s with heap := h', toks := tk }) :=
  .of_wp fun A R s ⟨xs, p0, hu, hkey, hm, hsz, hp0, hsome⟩ => by
    obtain ⟨o, es, ep, ho, hc, hdat, he, his, hn⟩ := id hm
    have hes : es.size = xs.length := size_of_entries he
    have hpart : (keyPart (Value.ref b)).isSome = false := rfl
    unfold Builtin.«dict.pop»
    refine wpAny_bind ?_
    unfold Builtin.Dict.keyAndDefault
    refine wpAny_bind (wpAny_notOrdered_dict hm.typeIs ?_)
    show wpAny _ _ (pure (d, Value.ref b, none)) _ _ s
    refine wpAny_pure ?_
    simp only [hpart, Bool.false_eq_true, if_false]
    refine wpAny_bind (wpAny_dictEntries ho hdat (wpAny_bind (wpAny_pure ?_)))
    cases hem : es.isEmpty with
    | true =>
      have h0 : xs = [] := by
        have z : es.size = 0 := by simpa using hem
        exact List.length_eq_zero_iff.mp (by omega)
      rw [h0] at hp0
      cases hp0
    | false =>
      simp only [Bool.false_eq_true, if_false]
      refine wpAny_bind (DT.takeH hu hkey hm hsz (fun hno => ?_) fun p e hp hev h' hm' hs' => ?_)
      · rw [hp0] at hno
        cases hno
      · rw [hp0] at hp
        cases hp
        simp only [Option.isNone_some, Bool.false_eq_true, if_false]
        exact wpAny_bind (wpAny_letGo (wpAny_pure ⟨e.val, rfl, by rw [hev]; exact hsome h' _ hm' hs'⟩))
end
section
variable {X : Cx}
/-- d.pop(k), k there -/
def rPop1T : V → List V → Hp → VK → Prop := fun x xs H Q => ∃ (a : Addr) (kvs : List (List L2.Key × V)) (k : List L2.Key) (b : Addr) (v : V), x = .ref a ∧ xs = [.ref b] ∧ H a = some (.dT kvs) ∧ H b = some (.tup (k.map kV)) ∧ valV kvs k = some v ∧ Q v (upd H a (.dT (dropK kvs k)))
theorem mt_pop1T (hu : X.A.units + 1 < cLine) : MtR X "dict.pop" rPop1T := by
  intro pins s σ H x xs v us Q I rx rxs h
  obtain ⟨a, kvs, k, b, v0, rfl, rfl, ha, hb, ev, q1⟩ := h
  cases rx
  obtain ⟨u1, rfl, r1⟩ := rxs.one
  cases r1
  obtain ⟨z, hd, xs', rel, dd⟩ := dt_of I.hok ha
  have hz : xs'.length ≤ sizeLine := by rw [← Paired.length rel]; exact z
  have r := rel.val k
  rw [ev] at r
  obtain ⟨p, hp, rv⟩ : ∃ p, atKey xs' k = some p ∧ RelV v0 p.2 := by
    cases hn : atKey xs' k with
    | none => rw [hn] at r; exact (show False from r).elim
    | some p => rw [hn] at r; exact ⟨p, rfl, r⟩
  refine call_meetsIn PySem.F.slot_dict_pop dd.typeIs PySem.F.entry_dict_pop (PySem.F.args_dict_pop_2 _ _) (meetsPop1 (knd := tupleKind (mixKind X.prog X.w)) (k := k) hd)
    ⟨xs', p, tupleKind_room_in1 hu, key_of I.hok hb, dd, hz, hp, fun h' tk dd' hs => ?_⟩
  obtain ⟨o, es, ep, hq, h2, h3, h4, _, h5⟩ := dd'
  have I2 : Inv X pins σ (upd H a (.dT (dropK kvs k))) { s with heap := h', toks := tk } :=
    d_write I (by rw [ha]; exact True.intro) hs ⟨o, hq⟩ ⟨Nat.le_trans (dropK_le kvs k) z, hd, _, (DX.KT_drop k rel).keeps (fun c ys ec => (by rw [upd_ne (ne_of ec ha (fun z => nomatch z))]; exact ec)), o, es, ep, hq, h2, h3, h4, h5⟩
  show EP X pins σ Q p.2 _
  exact ⟨v0, _, I2, rv, q1⟩
/-- a key as data -/
def keyD : L2.Key → PyData
  | .inl i => .int i
  | .inr x => .str x
theorem keyDp {K : PySem.W.Frag} {H : Hp} : ∀ {k : List L2.Key}, DpAll K H (k.map kV) (k.map keyD)
  | [] => .nil
  | .inl _ :: _ => .cons (.int _) keyDp
  | .inr _ :: _ => .cons (.str _) keyDp
/-- min(d), the least key -/
def rMinT : List V → Hp → VK → Prop := fun vs H Q => ∃ (a : Addr) (kvs : List (List L2.Key × V)) (d : PyData) (ds : List PyData), vs = [.ref a] ∧ H a = some (.dT kvs) ∧ kvs.map (fun p => PyData.tuple (p.1.map keyD)) = d :: ds ∧ PySem.W.AlikeAll (d :: ds) ∧ PyData.depthAll (d :: ds) ≤ 60 ∧
  ∀ (p : List L2.Key × V) (b : Addr), p ∈ kvs → PyData.tuple (p.1.map keyD) = PySem.W.minD d ds → H b = some (.tup (p.1.map kV)) → Q (.ref b) H
theorem cr_minT (hc : X.calm = true) (hu : X.A.units + 65 < cLine) : CallR X (.builtin "min") rMinT := by
  intro pins s σ H vs us Q I r h
  obtain ⟨a, kvs, d, ds, rfl, ha, hds, hal, hdp, q⟩ := h
  rw [Vals.ref1 r]
  obtain ⟨z, hs, xs, pr, dd⟩ := dt_of I.hok ha
  obtain ⟨es, ep, raw, hsz, hx⟩ := dd.raw
  have hlt : a < s.heap.objs.size := by obtain ⟨o, ho, _⟩ := raw; exact Heap.lt_size ho
  have kp : ∀ (i : Nat) y, xs[i]? = some y → ∃ p, kvs[i]? = some p ∧ H y.2.1 = some (.tup (p.1.map kV)) := fun i y hy => by
    obtain ⟨p, hp, h1, h2, _⟩ := pairedAt pr hy
    exact ⟨p, hp, h2⟩
  obtain ⟨as, hr⟩ : ∃ as, ReadsAll s.heap (xs.map fun y => Value.ref y.2.1) (d :: ds) as := by
    have p2 : Paired (Dp X.K H) (xs.map fun y => V.ref y.2.1) (d :: ds) := by
      rw [← hds]
      clear hds hal hdp q hx hsz kp r ha z dd raw
      induction pr with
      | nil => exact .nil
      | cons hpq t ih => exact .cons (.tup (.of hpq.2.1) keyDp) ih
    have v2 : Vals (xs.map fun y => V.ref y.2.1) (xs.map fun y => Value.ref y.2.1) := by
      clear p2 hx hsz kp dd pr
      induction xs with
      | nil => exact .nil
      | cons y ys ih => exact .cons rfl ih
    exact reads_vals I p2 v2
  have hxl : xs.length = ds.length + 1 := by
    have h1 := Paired.length pr
    have h2 := congrArg List.length hds
    rw [List.length_map, List.length_cons] at h2
    omega
  refine PySem.call_min_walkH (wpAny_pyIter_dict_raw hs raw ?_)
  have Wk := (Walks.keysH (prog := X.prog) (w := X.w) (A := X.A.in1) (I.ok.hd hc) s.heap.objs.size a (Nat.ne_of_lt hlt) es ep (fun i hi => let ⟨y, h1, h2, h3, _⟩ := hx i hi; ⟨y, h1, h2, h3⟩)).mono_item (P' := fun i v => (xs.map fun y => Value.ref y.2.1).toArray[i]? = some v) fun i v _ ⟨y, h1, e⟩ => by
    rw [e]
    simp [h1]
  refine ⟨_, _, _, _, _, _, _, s.heap, _, rfl, Wk.toS, ⟨⟨_, Heap.get?_push_size _ rfl, rfl, rfl⟩, raw.at fun o e => Heap.get?_push_of_some _ e⟩, fun b hb => ?_, by omega, fun b o e hb => ?_, fun b o e => Heap.get?_push_of_some _ e, PySem.W.cmpIn_lt (A := X.A.in1) (by simpa using hr) hal (by show X.A.units + 1 + _ < _; omega), fun v s' hP m => ?_⟩
  · show b < (s.heap.push _).objs.size
    rw [Heap.size_push]
    rcases List.mem_cons.mp hb with rfl | hb
    · exact Nat.lt_succ_self _
    · rcases List.mem_cons.mp hb with rfl | hb
      · exact Nat.lt_succ_of_lt hlt
      · cases hb
  · exact absurd (Heap.lt_size e) ((List.mem_singleton.mp hb) ▸ Nat.lt_irrefl _)
  · obtain ⟨h', tk, rfl, hk'⟩ := PySem.W.moved_old rfl rfl m
    have e1 : es.size - 1 = ds.length := by omega
    have e2 := (PySem.W.argBest_fold PySem.W.dataLt PyData.none d ds ds.length (Nat.le_refl _)).2
    rw [List.take_length] at e2
    rw [e1] at hP
    have hP' : (xs.map fun y => Value.ref y.2.1)[argBest (fun i j => PySem.W.dataLt ((d :: ds).getD i .none) ((d :: ds).getD j .none)) ds.length]? = some v := by simpa using hP
    rw [List.getElem?_map] at hP'
    obtain ⟨y, hy, rfl⟩ := Option.map_eq_some_iff.mp hP'
    obtain ⟨p, hp, hb⟩ := kp _ y hy
    refine ⟨.ref y.2.1, H, I.kept hk', rfl, q p _ (List.mem_of_getElem? hp) ?_ hb⟩
    have e3 : (d :: ds)[argBest (fun i j => PySem.W.dataLt ((d :: ds).getD i .none) ((d :: ds).getD j .none)) ds.length]? = some (PyData.tuple (p.1.map keyD)) := by
      rw [← hds, List.getElem?_map]
      rw [hds, hp]
      rfl
    have e4 : (d :: ds).getD (argBest (fun i j => PySem.W.dataLt ((d :: ds).getD i .none) ((d :: ds).getD j .none)) ds.length) .none = PyData.tuple (p.1.map keyD) := by rw [List.getD_eq_getElem?_getD, e3]; rfl
    rw [← e4]
    unfold PySem.W.minD
    exact e2
end
/-- the values of the locked dict with tuple keys -/
def Itdt (d : Addr) (o : Obj) (kvs : List (List L2.Key × V)) : It :=
  ⟨fun i H => H d = some (.frz o (.dT kvs)) ∧ i < kvs.length, fun i H x H' => H' = H ∧ ∃ k, kvs[i]? = some (k, x), fun i H => H d = some (.frz o (.dT kvs)) ∧ kvs.length ≤ i⟩
theorem frzT2 {X : Cx} {pins : List (Addr × Obj)} {σ : L2.St} {H : Hp} {s : Shared} {d : Addr} {o : Obj} {kvs : List (List L2.Key × V)} (I : Inv X pins σ H s) (h : H d = some (.frz o (.dT kvs))) :
    (d == sysModules) = false ∧ s.heap.get? d = some o ∧ o.ExactDict ∧ ∃ (es : Array DictEntry) (ep : Nat), o.data = .dict es ep ∧ es.size = kvs.length ∧
      ∀ (i : Nat) (k : List L2.Key) (v : V) (hi : i < es.size), kvs[i]? = some (k, v) → RelV v es[i].val := by
  obtain ⟨hd, z, hs, xs, pr, o', es, ep, ho, hx, hdt, he, _⟩ := I.hok d _ h
  rw [hd] at ho
  cases ho
  have l1 : es.size = xs.length := size_of_entries he
  have l2 : kvs.length = xs.length := Paired.length pr
  refine ⟨hs, hd, hx, es, ep, hdt, by omega, fun i k v hi e => ?_⟩
  obtain ⟨b, hb, _, _, r⟩ := pairedGet pr e
  have q := entry_at he i
  rw [hb, Array.getElem?_eq_getElem hi] at q
  have q2 := Option.some.inj q
  rw [q2]
  exact r
section
variable {P : Program} {w : World} {K : PySem.W.Frag} {tg : Expr} {d : Addr} {o : Obj} {es : Array DictEntry} {ep : Nat}
theorem turn_valsT {kvs : List (List L2.Key × V)} (it : Addr) (hod : o.data = .dict es ep) : Turn P w K tg (Itdt d o kvs) [it] it (fun i h => h.IsValIter it d i kvs.length ep) where
  mem := by simp
  obj := fun i h st b hb => by
    have e : b = it := by simpa using hb
    subst e
    obtain ⟨oi, e, c, dd⟩ := st
    exact ⟨oi, e, fun v z => by rw [dd] at z; cases z⟩
  keep := fun i h h' st k => st.at fun oi e => k it (by simp) oi e
  item := by
    intro X hP hw hK hc i pins s σ H E I hf st hg
    subst hP hw hK
    obtain ⟨hd, hi⟩ := hg
    obtain ⟨f0, f1, f2, f3, f4, f5⟩ := hf it (by simp)
    obtain ⟨hs, hgd, hx, es', ep', hdt, hsz, rel⟩ := frzT2 I hd
    obtain ⟨rfl, rfl⟩ := dict_ep hod hdt
    obtain ⟨⟨k, v⟩, hkv⟩ : ∃ p, kvs[i]? = some p := ⟨kvs[i], List.getElem?_eq_getElem hi⟩
    have hlt : i < es'.size := by omega
    rw [← hsz] at st
    refine wpAny_pyNext_values_item_raw st ⟨o, hgd, hx, hod⟩ hlt fun h' st' sb => ?_
    have I1 : Inv X pins σ H { s with heap := h' } := I.turned (t' := s.toks) (fun b ob hb e => (sb.2 b hb).trans e) f0 f1 f3 f4 f5
    obtain ⟨oi, e, c, dd⟩ := id st'
    refine ⟨_, rfl, go_of (s := { s with heap := h' }) e c dd (by decide) ⟨v, H, I1, rel i k v hlt hkv, ⟨rfl, k, hkv⟩, ?_, fun b hb => (hf b hb).1⟩⟩
    show h'.IsValIter it d (i + 1) kvs.length _
    rw [← hsz]
    exact st'
  done := by
    intro X hP hw hK hc i pins s σ H E I hf st hg
    subst hP hw hK
    obtain ⟨hd, hi⟩ := hg
    obtain ⟨f0, f1, f2, f3, f4, f5⟩ := hf it (by simp)
    obtain ⟨hs, hgd, hx, es', ep', hdt, hsz, rel⟩ := frzT2 I hd
    obtain ⟨rfl, rfl⟩ := dict_ep hod hdt
    rw [← hsz] at st
    exact wpAny_pyNext_values_end_raw (I.ok.hd hc) st ⟨o, hgd, hx, hod⟩ (by omega) fun h' eb => ⟨rfl, I.turned (t' := s.toks) (fun b ob hb e => eb b ob hb e) f0 f1 f3 f4 f5⟩
  self := fun A i s Q E st h => wpAny_pyIter_valiter st h
end
def iValsT (td : TE) : TI := fun σ H R => td σ H fun x H1 => ∃ d o kvs, x = .ref d ∧ H1 d = some (.frz o (.dT kvs)) ∧ R (Itdt d o kvs) H1
section
variable {X : Cx} {tg e : Expr} {td : TE} {apos cpos : Pos}
theorem pi_valuesT (he : PE X e td) (hbase : attributeBase e "values" X.env (eval e X.env) = eval e X.env := by rfl) (hline : (apos.endLine == cpos.line) = true := by rfl) : PI X tg (.Call (.Attribute e "values" apos) [] [] cpos) (iValsT td) := by
  refine ⟨fun pins s σ H R I h => ?_⟩
  refine wpAny_Call_method (T := "dict") (id := "dict.values") hbase rfl hline F.plainAttrs_dict F.slot_dict_values F.type_dict_values (thn (he.run pins s σ H _ I h) fun u s1 ⟨x, H1, I1, rx, d, o, kvs, ex, hd, q⟩ => ?_)
  subst ex
  obtain rfl : u = Value.ref d := rx
  obtain ⟨hs, hgd, hx, es, ep, hdt, hsz, rel⟩ := frzT2 I1 hd
  have raw : s1.heap.DictRaw d es ep := ⟨o, hgd, hx, hdt⟩
  refine ⟨raw.typeIs, (fun b hb => by cases hb; exact ⟨o, hgd, hx.2.1⟩), ?_⟩
  have I2 : Inv X pins σ H1 { s1 with heap := s1.heap.push { cls := .type "dict_values", data := .fields #[.ref d] } } := I1.kept (t' := s1.toks) fun b ob q => Heap.get?_push_of_some _ q
  have fin : wpAny (model X.prog X.w) X.A (pyIter (.ref s1.heap.objs.size)) (PIE X pins σ tg R) X.xe { s1 with heap := s1.heap.push { cls := .type "dict_values", data := .fields #[.ref d] } } := by
    refine wpAny_pyIter_values_raw (d := d) ⟨_, Heap.get?_push_size _ rfl, rfl, rfl⟩ (raw.at fun o e => Heap.get?_push_of_some _ e) (pi_one (tk := s1.toks) I2 _ (turn_valsT _ hdt) ⟨_, Heap.get?_push_size _ rfl, rfl, ?_⟩ q)
    rw [hsz] <;> rfl
  show wpAny _ _ (callWith cpos (.builtin "dict.values") [.ref d] [] []) _ X.xe s1
  exact method_meetsIn F.slot_dict_values F.entry_dict_values rfl (PySem.evalArgs_none ⟨rfl, raw.typeIs, F.args_dict_values_1 _, _, meets_dict_values_raw d hs, ⟨⟨es, ep, raw⟩, fin⟩⟩)
end
/-! ### l.remove(x) over data -/
theorem vals_erase {xs : List V} {us : List Value} (h : Vals xs us) (j : Nat) : Vals (xs.eraseIdx j) (us.eraseIdx j) := h.eraseIdx j
def rRemD (K : PySem.W.Frag) : V → List V → Hp → VK → Prop := fun x xs H Q => ∃ (a : Addr) (y : V) (d : PyData) (vs : List V) (ds : List PyData) (j : Nat) (z : PyData), x = V.ref a ∧ xs = [y] ∧ H a = some (.lst vs) ∧ DpAll K H vs ds ∧ Dp K H y d ∧
  SeqAt.shaped (.list ds) = true ∧ SeqAt.shaped d = true ∧ ds[j]? = some z ∧ PyData.eqv z d = true ∧ (∀ (m : Nat) (z' : PyData), m < j → ds[m]? = some z' → PyData.eqv z' d = false) ∧ Q .non (upd H a (.lst (vs.eraseIdx j)))
section
variable {X : Cx}
theorem mt_remD (hu : X.A.units + 65 < cLine) : MtM X "list.remove" (rRemD X.K) := by
  intro pins s σ H x xs v us Q I rx rxs h
  obtain ⟨a, y, d, vs, ds, j, z, rfl, rfl, hH, ha, hy, sl, sd, hz, hzj, hno, q⟩ := h
  cases rx
  obtain ⟨uy, rfl, ry⟩ := rxs.one
  obtain ⟨bs, r1⟩ := Dp.reads I d y uy hy ry
  have hxs : PyData.canLayAll0 ds = true := SeqAt.canLay_of_shaped sl
  have hroom : X.A.units + 1 + min (PyData.depthAll ds) d.depth < cLine := room_in_shaped sd hu
  obtain ⟨zl, its, n, rv, hlen, e⟩ := I.lstM hH
  obtain ⟨as, h4⟩ := Dp.readsAll I ds _ its ha rv
  have hn : its.length = ds.length := SeqAt.ReadsAll.length ds its as h4
  have hmap : its.map (SeqAt.readOf s.heap) = ds := SeqAt.readsAll_map ds its as hxs h4
  have hsl := sizeLine_eq
  obtain ⟨hjd, _⟩ := List.getElem?_eq_some_iff.mp hz
  have hjl : j < its.length := by omega
  have hj : j < its.toArray.size := by simpa using hjl
  have at_ : ∀ (m : Nat) (hm : m < its.toArray.size) (z' : PyData), ds[m]? = some z' → SeqAt.readOf s.heap its.toArray[m] = z' := by
    intro m hm z' hz'
    have hml : m < its.length := by simpa using hm
    rw [← hmap, List.getElem?_map, List.getElem?_eq_getElem hml] at hz'
    have e1 : SeqAt.readOf s.heap its[m] = z' := Option.some.inj (show some (SeqAt.readOf s.heap its[m]) = some z' from hz')
    simpa using e1
  refine call_meets PySem.F.slot_list_remove ⟨_, e, rfl⟩ PySem.F.entry_list_remove (PySem.F.args_list_remove_2 _ _)
    (SeqAt.list_removeAt a its.toArray n none #[] uy (fun u => PyData.eqv (SeqAt.readOf s.heap u) d) j hj ?_ ?_ (by rw [List.size_toArray]; omega)) ⟨e, SeqAt.items_eqAt (vs := its.toArray) (show ReadsAll s.heap its.toArray.toList ds as from h4) r1 hxs (SeqAt.canLay_of_shaped sd) hroom, ?_⟩
  · rw [at_ j hj z hz]; exact hzj
  · intro m hm hmj
    have hml : m < ds.length := by have : m < its.length := by simpa using hm
                                   omega
    rw [at_ m hm _ (List.getElem?_eq_getElem hml)]
    exact hno m _ hmj (List.getElem?_eq_getElem hml)
  · refine ⟨.non, _, I.lset (its' := its.eraseIdx j) (t' := s.toks) hH e ?_ (rv.eraseIdx j) ?_, rfl, q⟩
    · show its.toArray.eraseIdxIfInBounds j = (its.eraseIdx j).toArray
      rw [List.eraseIdxIfInBounds_toArray]
    · have z2 : (vs.eraseIdx j).length ≤ vs.length := List.length_eraseIdx_le ..
      omega
end
theorem room64 {k : Nat} {A : Around} (hr : Room k A) : A.units + 64 < cLine := by have := hr.un; omega
theorem room1 {k : Nat} {A : Around} (hr : Room k A) : A.units + 1 < cLine := by have := hr.un; omega
theorem lc2_vals {K : PySem.W.Frag} {β γ : Type} {od : Obj} {kvs : List (List L2.Key × V)} {a : Addr} {xs : List V} {ps : List β} {F : V → β → Prop} {g : TG} {tt : TT} {wi1 : TI} {g1 : TG} {tt1 : TT} {te : TE} {vs vs1 : List Nat} {σ : L2.St} {H1 : Hp} {Q : VK} (hq : H1 a = some (.frz od (.dT kvs))) (hxs : xs = kvs.map (·.2)) (pp : Paired F xs ps) (B : Nat) (hz : xs.length * B ≤ 1000000) (qs : β → List γ) (hqs : ∀ p, (qs p).length ≤ B)
    (G : β → V → γ → Prop) (R : β → γ → V → Hp → Prop) (st : ∀ p q y H H', KT H H' → R p q y H → R p q y H') (s2 : V → L2.St)
    (outer : ∀ (i : Nat) (x : V) (p : β), xs[i]? = some x → ps[i]? = some p → F x p → ∀ H, Same H1 H → ∀ (C : L2.St → It → Hp → Prop) (k0 : Hp → Prop), (∀ J H4 ys, Same H H4 → SeqJ K J H1 H H4 ys → Paired (G p) ys (qs p) → C (s2 x) J H4) →
      g x (wipe σ vs) H fun σ2 H2 => wipe σ2 vs = wipe σ vs ∧ tt σ2 H2 fun b H3 => if b = true then wi1 σ2 H3 (C σ2) else k0 H3)
    (inner : ∀ (i : Nat) (x : V) (p : β) (y : V) (q : γ), xs[i]? = some x → ps[i]? = some p → F x p → q ∈ qs p → G p y q → ∀ H, Same H1 H → ∀ (k1 : VK) (k0 : Hp → Prop), (∀ v H', Same H H' → R p q v H' → k1 v H') → LcTurn g1 tt1 te vs1 (s2 x) y H k1 k0)
    (hd : ∀ D H ys, H1 D = none → Same H1 H → H D = some (.lst ys) → Paired (fun pq v => R pq.1 pq.2 v H) (ps.flatMap fun p => (qs p).map fun q => (p, q)) ys → Q (.ref D) H) :
    Lc2J (Itdt a od kvs) g tt wi1 g1 tt1 te vs vs1 σ H1 Q := by
  intro D hD
  refine lc2_out (n := xs.length) (fun j x => xs[j]? = some x) (fun i H => Same H1 H ∧ ∃ acc, H D = some (.lst acc) ∧ acc.length ≤ i * B ∧ Paired (fun pq v => R pq.1 pq.2 v H) ((ps.take i).flatMap fun p => (qs p).map fun q => (p, q)) acc)
    ⟨same_new hD, [], upd_same, Nat.zero_le _, .nil⟩ ?_ ?_ ?_ ?_ ?_
  · rintro j H hj ⟨s, _⟩
    exact ⟨s _ _ hq, by rw [hxs, List.length_map] at hj; exact hj⟩
  · rintro H ⟨s, _⟩
    exact ⟨s _ _ hq, by rw [hxs, List.length_map]; exact Nat.le_refl _⟩
  · rintro j H x H' hj ⟨s, _⟩ ⟨e, k, h⟩
    exact ⟨e, by rw [hxs, List.getElem?_map, h]; rfl⟩
  · rintro i x H hi hx ⟨s, acc, hDs, hy, pr⟩
    obtain ⟨p, hp, hF⟩ := pairedGet pp hx
    have e1 : ps.take (i + 1) = ps.take i ++ [p] := by rw [List.take_succ, hp]; rfl
    refine outer i x p hx hp hF H s (fun σ2 J1 H4 => _) _ fun J H4 ys s4 sj pg => ?_
    obtain ⟨b, hb, hJ⟩ := sj.ex
    have nb : b ≠ D := by
      rcases hb with hb | hb
      · intro e; rw [e, hDs] at hb; cases hb
      · intro e; rw [e] at hb; exact hb hD
    have hlen := paired_len pg
    have hB := hqs p
    have him : i * B + B ≤ 1000000 := by
      have h1 : (i + 1) * B ≤ xs.length * B := Nat.mul_le_mul_right _ hi
      rw [Nat.succ_mul] at h1
      omega
    refine lc2_in (J := J) (n := ys.length) (fun j y => ys[j]? = some y) (fun j H => Same H1 H ∧ H b = H4 b ∧ ∃ acc, H D = some (.lst acc) ∧ acc.length ≤ i * B + j ∧ Paired (fun pq v => R pq.1 pq.2 v H) (((ps.take i).flatMap fun p => (qs p).map fun q => (p, q)) ++ ((qs p).take j).map fun q => (p, q)) acc) ?_ ?_ ?_ ?_ ?_ ?_
    · refine ⟨s.trans s4, rfl, acc, s4 _ _ hDs, hy, ?_⟩
      rw [List.take_zero, List.map_nil, List.append_nil]
      exact Paired.mapP pr fun _ _ z => st _ _ _ _ _ (KT.same s4) z
    · rintro j H hj ⟨_, eb, _⟩
      rcases hJ with ⟨rfl, h⟩ | ⟨rfl, h⟩
      · exact ⟨ys, ys[j], .inl (.inl (eb.trans h)), List.getElem?_eq_getElem hj⟩
      · exact ⟨ys, ys[j], .inl (.inl (eb.trans h)), List.getElem?_eq_getElem hj⟩
    · rintro H ⟨_, eb, _⟩
      rcases hJ with ⟨rfl, h⟩ | ⟨rfl, h⟩
      · exact ⟨ys, .inl (.inl (eb.trans h)), Nat.le_refl _⟩
      · exact ⟨ys, .inl (.inl (eb.trans h)), Nat.le_refl _⟩
    · rintro j H y H' hj ⟨_, eb, _⟩ hyl
      rcases hJ with ⟨rfl, h⟩ | ⟨rfl, h⟩
      · exact ⟨hyl.1, hyl.2 ys (.inl (.inl (eb.trans h)))⟩
      · exact ⟨hyl.1, hyl.2 ys (.inl (.inl (eb.trans h)))⟩
    · rintro j y H hj hyj ⟨sH, eb, acc2, hD2, hl2, pr2⟩
      obtain ⟨q, hqj, hG⟩ := pairedGet pg hyj
      have hbs : H b ≠ none := by
        rw [eb]
        rcases hJ with ⟨_, h⟩ | ⟨_, h⟩ <;> rw [h] <;> simp
      refine inner i x p y q hx hp hF (List.mem_of_getElem? hqj) hG H sH _ _ fun v H' s' r => ⟨acc2, s' D _ hD2, by rw [sizeLine_eq]; omega, same_mut (sH.trans s') hD, ?_, acc2 ++ [v], upd_same, by rw [List.length_append, List.length_singleton]; omega, ?_⟩
      · rw [upd_ne nb]
        cases e : H b with
        | none => exact absurd e hbs
        | some o => rw [s' b o e, ← eb, e]
      · have kt : KT H (upd H' D (.lst (acc2 ++ [v]))) := (KT.same s').trans (KT.mut (by rw [s' D _ hD2]; rfl))
        have kt2 : KT H' (upd H' D (.lst (acc2 ++ [v]))) := KT.mut (by rw [s' D _ hD2]; rfl)
        have e2 : (qs p).take (j + 1) = (qs p).take j ++ [q] := by rw [List.take_succ, hqj]; rfl
        rw [e2, List.map_append, ← List.append_assoc]
        exact paired_app (Paired.mapP pr2 fun _ _ z => st _ _ _ _ _ kt z) (.cons (st _ _ _ _ _ kt2 r) .nil)
    · rintro H ⟨sH, _, acc2, hD2, hl2, pr2⟩
      rw [hlen, List.take_length] at pr2
      refine ⟨sH, acc2, hD2, by rw [Nat.succ_mul]; omega, ?_⟩
      rw [e1, List.flatMap_append]
      simpa using pr2
  · rintro H ⟨s, acc, hDs, hy, pr⟩
    rw [paired_len pp, List.take_length] at pr
    exact hd D H acc hD s hDs pr
/-! ### tuples made by tuple(list) whose object is known; dict() of such a tuple of pairs -/
def PlainTup (ob : Obj) : Prop := ob.cls = .type "tuple" ∧ ob.dict = none
section
variable {X : Cx}
/-- tuple(l), the object told -/
def rTupF (K : PySem.W.Frag) : List V → Hp → VK → Prop := fun xs H Q => ∃ (p : Addr) (ys : List V), xs = [.ref p] ∧ SqL K H p ys ∧ ∀ l ob, H l = none → PlainTup ob → Q (.ref l) (upd H l (.frz ob (.tup ys)))
theorem cr_tupF : CallR X (.type "tuple") (rTupF X.K) := by
  intro pins s σ H xs us Q I r h
  obtain ⟨p, ys, rfl, hq, q⟩ := h
  rw [Vals.ref1 r]
  obtain ⟨its, r', pl, hz⟩ := I.list hq
  have hlen := r'.length
  refine call_tuple_list pl.isList (fun h' kp => ?_) (by simp only [List.size_toArray] <;> omega)
  have I1 : Inv X pins σ H { s with heap := h' } := I.kept (t' := s.toks) kp
  have I2 : Inv X pins σ (upd H h'.objs.size (.frz { cls := .type "tuple", data := .seq its.toArray } (.tup ys))) { s with heap := h'.push { cls := .type "tuple", data := .seq its.toArray } } :=
    I1.laid (t' := s.toks) (fun b o e => Heap.get?_push_of_some _ e) (Nat.le_refl _) (show ObjOk X.prog X.w _ _ _ (.frz _ (.tup ys)) from ⟨Heap.get?_push_size _ rfl, hz, its, r', IsTup.new _ _⟩)
  exact ⟨.ref h'.objs.size, _, I2, rfl, q _ _ (I1.hok.fresh (Nat.le_refl _)) ⟨rfl, rfl⟩⟩
theorem pairsV {pins : List (Addr × Obj)} {σ : L2.St} {H : Hp} {s : Shared} (I : Inv X pins σ H s) : ∀ {ps : List Addr} {kvs : List (L2.Key × V)}, Paired (fun p kv => SqT X.K H p [kV kv.1, kv.2]) ps kvs →
    ∃ (vs : List (Value × Value)) (prs : List (L2.Key × Value)), KV kvs prs ∧ prs.length = ps.length ∧ vs.length = ps.length ∧ ∀ (j : Nat) (q : Value × Value), vs[j]? = some q → ∃ (b : Addr) (k : L2.Key), ps[j]? = some b ∧ IsTup s.heap b #[q.1, q.2] ∧ prs[j]? = some (k, q.2) ∧ keyIs k q.1 = true
  | _, _, .nil => ⟨[], [], .nil, rfl, rfl, fun j q e => by simp at e⟩
  | _, _, .cons (a := p) (b := kv) h t => by
    obtain ⟨vs, prs, r, hl, hv, hp⟩ := pairsV I t
    obtain ⟨its, rv, ht, _⟩ := I.tuple h
    obtain ⟨u, y, ei, ru, ry⟩ := vals2 rv
    subst ei
    refine ⟨(u, y) :: vs, (kv.1, y) :: prs, .cons ⟨rfl, ry⟩ r, by rw [List.length_cons, List.length_cons, hl], by rw [List.length_cons, List.length_cons, hv], fun j q e => ?_⟩
    cases j with
    | zero =>
      have e' : (u, y) = q := Option.some.inj e
      subst e'
      exact ⟨p, kv.1, rfl, ht, rfl, kV_is (P := X.prog) (w := X.w) ru⟩
    | succ j =>
      obtain ⟨b, k, e1, e2, e3, e4⟩ := hp j q (by simpa using e)
      exact ⟨b, k, by simpa using e1, e2, by simpa using e3, e4⟩
/-- dict(t), t a tuple of pairs whose object is told -/
def rDictPF (K : PySem.W.Frag) : List V → Hp → VK → Prop := fun xs H Q => ∃ (a : Addr) (ob : Obj) (ps : List Addr) (kvs : List (L2.Key × V)), xs = [.ref a] ∧ H a = some (.frz ob (.tup (ps.map V.ref))) ∧ PlainTup ob ∧ Paired (fun p kv => SqT K H p [kV kv.1, kv.2]) ps kvs ∧
  ∀ p, H p = none → Q (.ref p) (upd H p (.dK (mergeK [] kvs)))
theorem cr_dictPF (hc : X.calm = true) : CallR X (.type "dict") (rDictPF X.K) := by
  intro pins s σ H xs us Q I r h
  obtain ⟨a, ob, ps, kvs, rfl, ha, ⟨hcls, hdict⟩, hp, q⟩ := h
  rw [Vals.ref1 r]
  obtain ⟨hga, hz, its, rv, ⟨o', ho', hc', n, hd'⟩⟩ := I.hok a _ ha
  rw [hga] at ho'
  cases ho'
  have ei := refs_at rv
  subst ei
  rw [List.length_map] at hz
  obtain ⟨vs, prs, rel, hl, hv, hpr⟩ := pairsV I hp
  have P := PySem.PairArg.tuple (prog := X.prog) (w := X.w) a (ps.map Value.ref).toArray (fun j => ps.getD j 0) vs
  have hitems : PySem.PairItems s.heap (ps.map Value.ref).toArray (fun j => ps.getD j 0) vs := by
    refine ⟨by simp [hv], fun j k v e => ?_⟩
    obtain ⟨b, k', e1, e2, _⟩ := hpr j (k, v) e
    have eb : ps.getD j 0 = b := by rw [List.getD_eq_getElem?_getD, e1]; rfl
    show _ = some (Value.ref (ps.getD j 0)) ∧ PySem.PairAt s.heap (ps.getD j 0) k v
    rw [eb]
    exact ⟨by simp [e1], .inl e2⟩
  have hlen : (mergeK [] kvs).length ≤ sizeLine := by
    refine Nat.le_trans (length_mergeK kvs []) ?_
    rw [List.length_nil, Nat.zero_add, rel.length, hl]
    exact hz
  refine PySem.call_dict_pairs (knd := mixKind X.prog X.w) (kvs := prs) P (I.ok.hd hc) ⟨⟨ob, n, hga, hcls, hdict, hd'⟩, hitems⟩ ⟨by omega, fun i key v e => ?_⟩ (by omega) fun h' tk hd k => ?_
  · obtain ⟨b, k, _, _, e3, e4⟩ := hpr i (key, v) e
    exact ⟨k, e3, e4⟩
  · have hm : (s.heap.objs.size == sysModules) = false := beq_eq_false_iff_ne.mpr (Nat.ne_of_gt I.big)
    exact ⟨.ref s.heap.objs.size, upd H s.heap.objs.size (.dK (mergeK [] kvs)), I.laid (t' := tk) (fun b o e => k b o (by simp) e) (Nat.le_refl _) (show ObjOk X.prog X.w _ _ _ (.dK (mergeK [] kvs)) from ⟨hlen, hm, PySem.merged [] prs, KV.merge rel .nil, hd⟩), rfl, q _ (I.hok.fresh (Nat.le_refl _))⟩
/-- dict(l), l a list of pairs -/
def rDictP (K : PySem.W.Frag) : List V → Hp → VK → Prop := fun xs H Q => ∃ (a : Addr) (ps : List Addr) (kvs : List (L2.Key × V)), xs = [.ref a] ∧ SqL K H a (ps.map V.ref) ∧ Paired (fun p kv => SqT K H p [kV kv.1, kv.2]) ps kvs ∧ ∀ p, H p = none → Q (.ref p) (upd H p (.dK (mergeK [] kvs)))
theorem cr_dictP (hc : X.calm = true) : CallR X (.type "dict") (rDictP X.K) := call_dictP hc
end
/-! ### dicts with keys that are ints or texts: d-readings -/
def keyV : V → Option L2.Key
  | .int i => some (.inl i)
  | .str x => some (.inr x)
  | _ => none
theorem keyV_kV {y : V} {k : L2.Key} (h : keyV y = some k) : y = kV k := by
  cases y <;> simp [keyV] at h <;> subst h <;> rfl
def dDG (td ty : TE) : TE := fun σ H Q => td σ H fun x H1 => ty σ H1 fun y H2 => match x, keyV y with
  | .ref a, some k => match H2 a with
    | some (.dK kvs) => match valV kvs k with
      | some v => Q v H2
      | none => False
    | _ => False
  | _, _ => False
def dSetK : V → V → V → Hp → (Hp → Prop) → Prop := fun o i v H Q => match o, keyV i with
  | .ref a, some k => match H a with
    | some (.dK kvs) => kvs.length < sizeLine ∧ Q (upd H a (.dK (putK kvs k v)))
    | _ => False
  | _, _ => False
section
variable {X : Cx} {o i : Expr} {td ty : TE} {pos : Pos}
theorem d_dgetK (hu : X.A.units + 1 < cLine) (ho : PE X o td) (hi : PE X i ty) (hs : NoSl i) : PE X (.Subscript o i pos) (dDG td ty) :=
  peI (pe_dget hu (peM ho) (peM hi) hs) fun σ H Q q1 => ⟨_, q1, fun x H1 q2 => ⟨_, q2, fun y H2 q3 => by
    split at q3
    · rename_i a k ek
      split at q3
      · rename_i kvs e
        split at q3
        · rename_i v ev
          exact ⟨a, v, rfl, .inl ⟨kvs, k, .of e, keyV_kV ek, ev.symm⟩, q3⟩
        · exact q3.elim
      · exact q3.elim
    · exact q3.elim⟩⟩
end
section
variable {X : Cx}
theorem s_setK (hu : X.A.units + 1 < cLine) : PSet X dSetK := setM (set_dict hu) fun o i v H Q q => by
  unfold dSetK at q
  split at q
  · rename_i a k ek
    split at q
    · rename_i kvs e
      have ey := keyV_kV ek
      subst ey
      exact ⟨a, _, rfl, DPut.k e q.1, q.2⟩
    · exact q.elim
  · exact q.elim
end
/-- d.get(k, z) -/
def dDG2 (td ty tx : TE) : TE := fun σ H Q => td σ H fun x H1 => match x with
  | .ref a => match H1 a with
    | some (.dK _) => ty σ H1 fun y H2 => tx σ H2 fun z H3 => match keyV y, H3 a with
      | some k, some (.dK kvs) => Q ((valV kvs k).getD z) H3
      | _, _ => False
    | _ => False
  | _ => False
section
variable {X : Cx} {o e f : Expr} {td ty tx : TE} {apos cpos : Pos}
theorem d_dget2K (hu : X.A.units + 1 < cLine) (ho : PE X o td) (hy : PE X e ty) (hx : PE X f tx) (m : M2 X o "get" apos e f cpos) : PE X (.Call (.Attribute o "get" apos) [e, f] [] cpos) (dDG2 td ty tx) :=
  peI (pe_dget2 hu (peM ho) (peM hy) (peM hx) m) fun σ H Q q1 => ⟨_, q1, fun x H1 q2 => by
    split at q2
    · rename_i a
      split at q2
      · rename_i kvs0 e0
        refine ⟨a, rfl, .inl ⟨kvs0, .of e0⟩, _, q2, fun y H2 q3 => ⟨_, q3, fun z H3 q4 => ?_⟩⟩
        split at q4
        · rename_i k kvs ek e3
          exact ⟨_, .inl ⟨kvs, k, .of e3, keyV_kV ek, rfl⟩, q4⟩
        · exact q4.elim
      · exact q2.elim
    · exact q2.elim⟩
end
section
variable {X : Cx}
/-! ### more rules: // by greater divisors, dead code, two fors over a tuple, try without a name, enumerate(tuple) -/
def dDivW : R2 := dI2C CDivW fun i j => .int (i / j)
theorem d_divW : OpR X (binaryOp .FloorDiv) dDivW := i2C op_fdivW
def tDead : TS := fun _ _ _ => False
theorem ps_dead {st : Stmt} : PS X st tDead := ⟨fun _ _ _ _ _ _ h => h.elim⟩
def eDead : TE := fun _ _ _ => False
theorem pe_dead {e : Expr} : PE X e eDead := ⟨fun _ _ _ _ _ _ h => h.elim⟩
def dLc2T (K : PySem.W.Frag) (tl : TE) (g : TG) (tt : TT) (wi1 : TI) (g1 : TG) (tt1 : TT) (te : TE) (vs vs1 : List Nat) : TE := fun σ H Q => tl σ H fun x H1 => match x with
  | .ref a => (∃ xs, SqT K H1 a xs) ∧ Lc2J (Itt K a) g tt wi1 g1 tt1 te vs vs1 σ H1 Q
  | _ => False
theorem lc2_t {K : PySem.W.Frag} {tl : TE} {g g1 : TG} {tt tt1 : TT} {te : TE} {wi1 : TI} {vs vs1 : List Nat} {σ : L2.St} {H : Hp} {Q : VK} (q1 : dLc2T K tl g tt wi1 g1 tt1 te vs vs1 σ H Q) : tLc2 (iTup K (mE tl)) g tt wi1 g1 tt1 te vs vs1 σ H Q := ⟨_, q1, fun v H' q2 => by
  split at q2
  · exact ⟨_, rfl, q2.1, q2.2⟩
  · exact q2.elim⟩
variable {elt tg iter tg1 iter1 : Expr} {ifs ifs1 : List Expr} {scope : Scope} {own : List (Str × Nat)} {vs1 : List Nat} {pos : Pos} {tl te : TE} {wi1 : TI} {g g1 : TG} {tt tt1 : TT}
theorem d_lc2T (hc : X.calm = true) (hN : X.N.Nodup) (hl : PE X iter tl) (ok : BlkOk X.N X.env.scope scope own) (hv : ∀ i ∈ vs1, i ∈ own.map (·.2)) (hg : BG X scope tg g) (ht : BT X scope ifs tt)
    (hi1 : ∀ (s : Shared) (H : Hp) (C : Addr) (cl : List (Str × Addr)) (fp : List Addr), PI (X.blk s H scope (compEnvC scope cl C X.env) fp) tg1 iter1 wi1) (hg1 : BG X scope tg1 g1) (ht1 : BT X scope ifs1 tt1) (he : BE X scope elt te)
    (hs : ∀ x, foldedSetIterable iter X.env x = pure x := by intro _; rfl) (hs1 : ∀ env x, foldedSetIterable iter1 env x = pure x := by intro _ _; rfl) :
    PE X (.ListComp elt [⟨tg, iter, ifs, 0⟩, ⟨tg1, iter1, ifs1, 0⟩] scope pos) (dLc2T X.K tl g tt wi1 g1 tt1 te (own.map (·.2)) vs1) := peI (pe_lc2 hc hN (pi_tup (peM hl)) ok hv hg ht hi1 hg1 ht1 he hs hs1) fun _ _ _ q => lc2_t q
theorem d_set2T {i : Nat} {y : Str} {py spos : Pos} (hc : X.calm = true) (hN : X.N.Nodup) (hy : X.N[i]? = some y) (hyl : X.env.scope.names.lookup y = some .local) (hsw : swapsWith (.ListComp elt [⟨tg, iter, ifs, 0⟩, ⟨tg1, iter1, ifs1, 0⟩] scope pos) (some (.Name y py)) spos.line X.env = pure true)
    (hl : PE X iter tl) (ok : BlkOk X.N X.env.scope scope own) (hv : ∀ i ∈ vs1, i ∈ own.map (·.2)) (hg : BG X scope tg g) (ht : BT X scope ifs tt)
    (hi1 : ∀ (s : Shared) (H : Hp) (C : Addr) (cl : List (Str × Addr)) (fp : List Addr), PI (X.blk s H scope (compEnvC scope cl C X.env) fp) tg1 iter1 wi1) (hg1 : BG X scope tg1 g1) (ht1 : BT X scope ifs1 tt1) (he : BE X scope elt te)
    (hs : ∀ x, foldedSetIterable iter X.env x = pure x := by intro _; rfl) (hs1 : ∀ env x, foldedSetIterable iter1 env x = pure x := by intro _ _; rfl) :
    PS X (.Assign [.Name y py] (.ListComp elt [⟨tg, iter, ifs, 0⟩, ⟨tg1, iter1, ifs1, 0⟩] scope pos) spos) (tAsg (dLc2T X.K tl g tt wi1 g1 tt1 te (own.map (·.2)) vs1) (gName i)) := psI (ps_setLc2 hc hN hy hyl hsw (pi_tup (peM hl)) ok hv hg ht hi1 hg1 ht1 he hs hs1) fun _ _ _ q => lc2_t q
end
section
variable {K : PySem.W.Frag}
/-- what is found by two fors -/
theorem lc2_pairT {β γ : Type} {a : Addr} {xs : List V} {ps : List β} {F : V → β → Prop} {g : TG} {tt : TT} {wi1 : TI} {g1 : TG} {tt1 : TT} {te : TE} {vs vs1 : List Nat} {σ : L2.St} {H1 : Hp} {Q : VK} (hq : H1 a = some (.tup xs)) (pp : Paired F xs ps) (B : Nat) (hz : xs.length * B ≤ 1000000) (qs : β → List γ) (hqs : ∀ p, (qs p).length ≤ B)
    (G : β → V → γ → Prop) (R : β → γ → V → Hp → Prop) (st : ∀ p q y H H', KT H H' → R p q y H → R p q y H') (s2 : V → L2.St)
    (outer : ∀ (i : Nat) (x : V) (p : β), xs[i]? = some x → ps[i]? = some p → F x p → ∀ H, Same H1 H → ∀ (C : L2.St → It → Hp → Prop) (k0 : Hp → Prop), (∀ J H4 ys, Same H H4 → SeqJ K J H1 H H4 ys → Paired (G p) ys (qs p) → C (s2 x) J H4) →
      g x (wipe σ vs) H fun σ2 H2 => wipe σ2 vs = wipe σ vs ∧ tt σ2 H2 fun b H3 => if b = true then wi1 σ2 H3 (C σ2) else k0 H3)
    (inner : ∀ (i : Nat) (x : V) (p : β) (y : V) (q : γ), xs[i]? = some x → ps[i]? = some p → F x p → q ∈ qs p → G p y q → ∀ H, Same H1 H → ∀ (k1 : VK) (k0 : Hp → Prop), (∀ v H', Same H H' → R p q v H' → k1 v H') → LcTurn g1 tt1 te vs1 (s2 x) y H k1 k0)
    (hd : ∀ D H ys, H1 D = none → Same H1 H → H D = some (.lst ys) → Paired (fun pq v => R pq.1 pq.2 v H) (ps.flatMap fun p => (qs p).map fun q => (p, q)) ys → Q (.ref D) H) :
    ∀ D, H1 D = none → ∃ W : Nat → Nat → Hp → Prop, (∃ m, W 0 m (upd H1 D (.lst []))) ∧ ∀ i m H, W i m H →
      ((Itt K a).stop i H ∧ Q (.ref D) H) ∨ ((Itt K a).go i H ∧ ∃ Nx : Hp → Prop, (∀ H', Nx H' → ∃ m', m' < m ∧ W (i + 1) m' H') ∧ ∀ x H', (Itt K a).yld i H x H' → g x (wipe σ vs) H' fun σ2 H2 => wipe σ2 vs = wipe σ vs ∧ tt σ2 H2 fun b H3 =>
        if b = true then Lc2In wi1 g1 tt1 te vs1 D σ2 H3 Nx else Nx H3) := by
  intro D hD
  refine lc2_out (n := xs.length) (fun j x => xs[j]? = some x) (fun i H => Same H1 H ∧ ∃ acc, H D = some (.lst acc) ∧ acc.length ≤ i * B ∧ Paired (fun pq v => R pq.1 pq.2 v H) ((ps.take i).flatMap fun p => (qs p).map fun q => (p, q)) acc)
    ⟨same_new hD, [], upd_same, Nat.zero_le _, .nil⟩ ?_ ?_ ?_ ?_ ?_
  · rintro j H hj ⟨s, _⟩
    exact ⟨xs, xs[j], .inl (.inl (s _ _ hq)), List.getElem?_eq_getElem hj⟩
  · rintro H ⟨s, _⟩
    exact ⟨xs, .inl (.inl (s _ _ hq)), Nat.le_refl _⟩
  · rintro j H x H' hj ⟨s, _⟩ ⟨e, h⟩
    exact ⟨e, h xs (.inl (.inl (s _ _ hq)))⟩
  · rintro i x H hi hx ⟨s, acc, hDs, hy, pr⟩
    obtain ⟨p, hp, hF⟩ := pairedGet pp hx
    have e1 : ps.take (i + 1) = ps.take i ++ [p] := by rw [List.take_succ, hp]; rfl
    refine outer i x p hx hp hF H s (fun σ2 J1 H4 => _) _ fun J H4 ys s4 sj pg => ?_
    obtain ⟨b, hb, hJ⟩ := sj.ex
    have nb : b ≠ D := by
      rcases hb with hb | hb
      · intro e; rw [e, hDs] at hb; cases hb
      · intro e; rw [e] at hb; exact hb hD
    have hlen := paired_len pg
    have hB := hqs p
    have him : i * B + B ≤ 1000000 := by
      have h1 : (i + 1) * B ≤ xs.length * B := Nat.mul_le_mul_right _ hi
      rw [Nat.succ_mul] at h1
      omega
    refine lc2_in (J := J) (n := ys.length) (fun j y => ys[j]? = some y) (fun j H => Same H1 H ∧ H b = H4 b ∧ ∃ acc, H D = some (.lst acc) ∧ acc.length ≤ i * B + j ∧ Paired (fun pq v => R pq.1 pq.2 v H) (((ps.take i).flatMap fun p => (qs p).map fun q => (p, q)) ++ ((qs p).take j).map fun q => (p, q)) acc) ?_ ?_ ?_ ?_ ?_ ?_
    · refine ⟨s.trans s4, rfl, acc, s4 _ _ hDs, hy, ?_⟩
      rw [List.take_zero, List.map_nil, List.append_nil]
      exact Paired.mapP pr fun _ _ z => st _ _ _ _ _ (KT.same s4) z
    · rintro j H hj ⟨_, eb, _⟩
      rcases hJ with ⟨rfl, h⟩ | ⟨rfl, h⟩
      · exact ⟨ys, ys[j], .inl (.inl (eb.trans h)), List.getElem?_eq_getElem hj⟩
      · exact ⟨ys, ys[j], .inl (.inl (eb.trans h)), List.getElem?_eq_getElem hj⟩
    · rintro H ⟨_, eb, _⟩
      rcases hJ with ⟨rfl, h⟩ | ⟨rfl, h⟩
      · exact ⟨ys, .inl (.inl (eb.trans h)), Nat.le_refl _⟩
      · exact ⟨ys, .inl (.inl (eb.trans h)), Nat.le_refl _⟩
    · rintro j H y H' hj ⟨_, eb, _⟩ hyl
      rcases hJ with ⟨rfl, h⟩ | ⟨rfl, h⟩
      · exact ⟨hyl.1, hyl.2 ys (.inl (.inl (eb.trans h)))⟩
      · exact ⟨hyl.1, hyl.2 ys (.inl (.inl (eb.trans h)))⟩
    · rintro j y H hj hyj ⟨sH, eb, acc2, hD2, hl2, pr2⟩
      obtain ⟨q, hqj, hG⟩ := pairedGet pg hyj
      have hbs : H b ≠ none := by
        rw [eb]
        rcases hJ with ⟨_, h⟩ | ⟨_, h⟩ <;> rw [h] <;> simp
      refine inner i x p y q hx hp hF (List.mem_of_getElem? hqj) hG H sH _ _ fun v H' s' r => ⟨acc2, s' D _ hD2, by rw [sizeLine_eq]; omega, same_mut (sH.trans s') hD, ?_, acc2 ++ [v], upd_same, by rw [List.length_append, List.length_singleton]; omega, ?_⟩
      · rw [upd_ne nb]
        cases e : H b with
        | none => exact absurd e hbs
        | some o => rw [s' b o e, ← eb, e]
      · have kt : KT H (upd H' D (.lst (acc2 ++ [v]))) := (KT.same s').trans (KT.mut (by rw [s' D _ hD2]; rfl))
        have kt2 : KT H' (upd H' D (.lst (acc2 ++ [v]))) := KT.mut (by rw [s' D _ hD2]; rfl)
        have e2 : (qs p).take (j + 1) = (qs p).take j ++ [q] := by rw [List.take_succ, hqj]; rfl
        rw [e2, List.map_append, ← List.append_assoc]
        exact paired_app (Paired.mapP pr2 fun _ _ z => st _ _ _ _ _ kt z) (.cons (st _ _ _ _ _ kt2 r) .nil)
    · rintro H ⟨sH, _, acc2, hD2, hl2, pr2⟩
      rw [hlen, List.take_length] at pr2
      refine ⟨sH, acc2, hD2, by rw [Nat.succ_mul]; omega, ?_⟩
      rw [e1, List.flatMap_append]
      simpa using pr2
  · rintro H ⟨s, acc, hDs, hy, pr⟩
    rw [paired_len pp, List.take_length] at pr
    exact hd D H acc hD s hDs pr
end
def tTryOnly (K : PySem.W.Frag) (c : Value) (tb : WX → TS) (ts : Addr → Value → Option Addr → TS) (Wout : WX) : TS := fun D σ H => tb (wMany K Wout D [(c, ts)]) D σ H
section
variable {X : Cx} {x : Str} {c : Value} {body suite : List Stmt} {b₀ : Stmt} {np pos pos' : Pos} {tb : WX → TS} {ts : Addr → Value → Option Addr → TS} {Wout : WX}
theorem d_tryOnly (hs : X.stack = X.env :: X.outer) (hf : X.env.frame = some X.env.locals) (hc : Names X x c) (tk : L2N.Takes X Wout)
    (hb : ∀ (W : WX) (pn : List (Addr × Obj)) (xe : Value → Shared → Prop), L2N.Takes (X.tr pn xe) W → PassesOwn (model X.prog X.w) X.A X.env xe → PSs (X.tr pn xe) body (tb W))
    (hsu : ∀ (a : Addr) (oe : Obj) (cls : Value) (d : Option Addr) (pn : List (Addr × Obj)), L2N.Zn cls d oe → (∃ vs, oe.data = .fields vs) → PSs (X.suite a ((a, oe) :: pn)) (b₀ :: suite) (ts a cls d)) :
    PS X (.Try body [.ExceptHandler (some (.Name x np)) none (b₀ :: suite) pos'] [] [] pos) (tTryOnly X.K c tb ts Wout) := L2N.ps_try_many hs hf tk hb (.cons hc hsu .nil)
end
section
open Sem (wp)
open AutoSeq1 (wpAny_loadPart')
set_option maxHeartbeats 1000000 in
theorem meets_enumerate_new1 {v : Value} {o : Obj} {H : Heap → Prop} (B : Begins v o H) :
    Meets (Builtin.«enumerate.__new__» ⟨[.type "enumerate", v], []⟩) (fun _ R s => H s.heap ∧
      R (.ok (.ret (.ref (s.heap.push o).objs.size))) { s with heap := (s.heap.push o).push { cls := .type "enumerate", data := .fields #[.none, .bool false, .ref s.heap.objs.size, rawInt 0, .none, .none] } }) :=
  .of_wp fun prog w A R s h => by
    obtain ⟨hp, g, d, tk, os⟩ := s; obtain ⟨h1, h⟩ := h
    have hsub := sub_enumerate
    have q1 : ∀ {A' : Around} {E : Value → Shared → Prop} {Q : Value → Shared → Prop}, Q (.ref hp.objs.size) ⟨hp.push o, g, d, tk, os⟩ → wpAny (model prog w) A' (pyIter v) Q E ⟨hp, g, d, tk, os⟩ :=
      fun q => B.iter prog w _ _ ⟨hp, g, d, tk, os⟩ _ h1 q
    wp_walk using q1
    refine wpAny_stack_any fun st => wpAny_pure ?_
    split
    · rename_i c _ _ _ _ _
      cases (c == Value.type "enumerate")
      · wp_walk using q1
        exact ⟨_, rfl, h⟩
      · wp_walk using q1
        exact ⟨_, rfl, h⟩
    · wp_walk using q1
      exact ⟨_, rfl, h⟩
section
variable {prog : Program} {w : World} {A : Around} {E : Value → Shared → Prop} {s : Shared}
theorem enum_begins1 {v : Value} {o : Obj} {H : Heap → Prop} {Q : Value → Shared → Prop} (B : Begins v o H) (h1 : H s.heap)
    (h : ∀ h', IsEnum h' (s.heap.objs.size + 1) s.heap.objs.size 0 .none → h'.get? s.heap.objs.size = some o → h'.objs.size = s.heap.objs.size + 2 →
      (∀ b o, s.heap.get? b = some o → h'.get? b = some o) → Q (.ref (s.heap.objs.size + 1)) { s with heap := h' }) :
    wpAny (model prog w) A (call (.type "enumerate") [v]) Q E s := by
  refine callType_new F.called_enumerate (by decide) (F.typeCall_enumerate_1 _) (F.newCall_enumerate_1 _) (fun obj => F.args_object_init_2 obj _) F.entry_enumerate_new
    (meets_enumerate_new1 B) ⟨h1, ?_⟩
  have hz : (s.heap.push o).objs.size = s.heap.objs.size + 1 := Heap.size_push ..
  show _ ∧ _
  rw [hz]
  have he : IsEnum ((s.heap.push o).push { cls := .type "enumerate", data := .fields #[.none, .bool false, .ref s.heap.objs.size, rawInt 0, .none, .none] }) (s.heap.objs.size + 1) s.heap.objs.size 0 .none := by
    have := Heap.get?_push_size (s.heap.push o) (o := { cls := .type "enumerate", data := .fields #[.none, .bool false, .ref s.heap.objs.size, rawInt 0, .none, .none] }) rfl
    rw [hz] at this; exact this
  refine ⟨⟨_, he, rfl⟩, h _ he (Heap.get?_push_of_some _ (Heap.get?_push_size _ B.free)) (by rw [Heap.size_push, hz]) fun b o x => Heap.get?_push_of_some _ (Heap.get?_push_of_some _ x)⟩
end
end
/-! ### enumerate(tuple) in a comprehension -/
def IteT (K : PySem.W.Frag) (a : Addr) : It :=
  ⟨fun i H => ∃ (xs : List V) (x : V), SqT K H a xs ∧ xs[i]? = some x, fun i H v H' => ∃ T x, v = .ref T ∧ H T = none ∧ H' = upd H T (.tup [.int (i : Nat), x]) ∧ ∀ xs, SqT K H a xs → xs[i]? = some x, fun i H => ∃ xs : List V, SqT K H a xs ∧ xs.length ≤ i⟩
theorem enum_apart {h : Heap} {e it a : Addr} {c : Int} {old : Value} {its : Array Value} {i : Nat} (he : IsEnum h e it c old) (hit : h.IsTupleIter it a i) (p : h.IsTuple a its) : a ≠ it ∧ e ≠ a := by
  obtain ⟨o1, h1, c1, d1⟩ := hit
  obtain ⟨o2, h2, c2, n, d2⟩ := p
  refine ⟨fun z => ?_, fun z => ?_⟩
  · subst z
    rw [h1] at h2
    cases h2
    rw [d1] at d2
    cases d2
  · subst z
    have he' : h.get? e = some _ := he
    rw [he'] at h2
    cases h2
    cases d2
theorem turn_enumT {P : Program} {w : World} {K : PySem.W.Frag} {elts : List Expr} {kk : Nat} {tpos : Pos} (a e it : Addr) :
    Turn P w K (.Tuple elts kk tpos) (IteT K a) [e, it] e (fun i h => (∃ old, IsEnum h e it ((i : Nat) : Int) old) ∧ h.IsTupleIter it a i ∧ e ≠ it) where
  mem := by simp
  obj := fun i h st b hb => by
    obtain ⟨⟨old, he⟩, ⟨o, ho, hc, hd⟩, _⟩ := st
    have e' : b = e ∨ b = it := by simpa using hb
    rcases e' with z | z
    · rw [z]; exact ⟨_, he, fun v q => nomatch q⟩
    · rw [z]; exact ⟨o, ho, fun v q => by rw [hd] at q; cases q⟩
  keep := fun i h h' st k => let ⟨⟨old, he⟩, hi, hne⟩ := st; ⟨⟨old, k e (by simp) _ he⟩, hi.at fun o q => k it (by simp) o q, hne⟩
  item := by
    intro X hP hw hK hc i pins s σ H E I hf st hg
    subst hP hw hK
    obtain ⟨⟨old, he⟩, hit, hne⟩ := st
    obtain ⟨xs, x, hq, hx⟩ := hg
    obtain ⟨its, rv, p, hz⟩ := I.tuple hq
    obtain ⟨u, hu, ru⟩ := rv.get hx
    have hel : e < s.heap.objs.size := Heap.lt_size he
    have hil : it < s.heap.objs.size := by obtain ⟨_, q, _⟩ := hit; exact Heap.lt_size q
    obtain ⟨n1, n2⟩ := enum_apart he hit p
    have D := PySem.Draws.tuple (prog := X.prog) (w := X.w) (A := X.A.in1) (I.ok.hd hc) it a n1 its.toArray
    have hlt : i < its.toArray.size := by
      have := (List.getElem?_eq_some_iff.mp hu).1
      simpa using this
    refine PySem.wpAny_pyNext_enum_itemD D he ⟨hit, p⟩ hlt hne (by simp only [List.mem_cons, List.not_mem_nil, or_false]; exact fun h => h.elim hne n2) fun x' h' tk hP ho hst' hT hsz hk => ?_
    have ex : x' = u := by
      have : its[i]? = some x' := by simpa using hP
      rw [hu] at this
      exact (Option.some.inj this).symm
    subst ex
    refine ⟨_, rfl, wpAny_letOwnedTupleGo_enum (s := { s with heap := h', toks := tk + 1 }) ho fun h'' he' sb => ?_⟩
    have hT2 : h''.get? s.heap.objs.size = some { cls := .type "tuple", data := .seq #[.int i tk, x'] } := (sb.2 _ (Nat.ne_of_gt hel)).trans hT
    have new : ObjOk X.prog X.w (upd H s.heap.objs.size (.tup [.int (i : Nat), x])) h'' s.heap.objs.size (.tup [.int (i : Nat), x]) :=
      ⟨by show 2 ≤ sizeLine; decide, [.int i tk, x'], .cons ⟨_, rfl⟩ (.cons ru .nil), ⟨_, hT2, rfl, _, rfl⟩⟩
    have I1 : Inv X pins σ (upd H s.heap.objs.size (.tup [.int (i : Nat), x])) { s with heap := h'', toks := tk + 1 } :=
      I.turnedNew (ch := [e, it]) (fun b ob hb q => (sb.2 b (fun z => hb (by simp [z]))).trans (hk b ob (fun z => hb (by simp [z])) (fun z => hb (by simp [z])) q)) hf (Nat.le_refl _) new
    refine ⟨.ref s.heap.objs.size, _, I1, rfl, ⟨_, x, rfl, I.hok.fresh (Nat.le_refl _), rfl, fun ys hy => by rw [I.tuple_inj hy hq]; exact hx⟩, ⟨⟨x', ?_⟩, hst'.1.at fun o q => (sb.2 it (Ne.symm hne)).trans q, hne⟩, fun b hb => ?_⟩
    · have e1 : ((i + 1 : Nat) : Int) = (i : Int) + 1 := by omega
      rw [e1]; exact he'
    · have hb' : b < s.heap.objs.size := by
        have e' : b = e ∨ b = it := by simpa using hb
        rcases e' with z | z
        · rw [z]; exact hel
        · rw [z]; exact hil
      rw [upd_ne (Nat.ne_of_lt hb')]
      exact (hf b hb).1
  done := by
    intro X hP hw hK hc i pins s σ H E I hf st hg
    subst hP hw hK
    obtain ⟨⟨old, he⟩, hit, hne⟩ := st
    obtain ⟨xs, hq, hx⟩ := hg
    obtain ⟨its, rv, p, hz⟩ := I.tuple hq
    obtain ⟨f0, f1, f2, f3, f4, f5⟩ := hf it (by simp)
    have hl := rv.length
    obtain ⟨n1, n2⟩ := enum_apart he hit p
    have hT : s.TypeIs (.ref e) "enumerate" := ⟨_, he, rfl⟩
    unfold pyNext
    refine wpAny_bind (wpAny_attempt (wpAny_callSpecial?_slot (name := Str.ofString "__next__") hT F.slot_enumerate_next
      (wpAny_call_entry F.slot_enumerate_next hT F.entry_enumerate_next ?_ (F.args_enumerate_next_1 _))))
    show wpAny _ _ (field (.ref e) 2 >>= _) _ _ _
    refine wpAny_bind (wpAny_field he rfl (x := .ref it) rfl ?_)
    refine wpAny_bind (PySem.wpAny_nextOf_tuple_end (I.ok.hd hc) hit p (by simp; omega) fun h' x he' hx' => ?_)
    obtain ⟨o, ho, hc'⟩ := hx'
    refine wpAny_bind (wpAny_isInstance (T := "StopIteration") (b := true) ⟨o, ho, hc'⟩ isSubtype_stop ?_)
    exact wpAny_pure ⟨rfl, I.turned (t' := s.toks) (fun b o hb e => he' b o hb e) f0 f1 f3 f4 f5⟩
  self := fun A i s Q E st h => let ⟨⟨_, he⟩, _⟩ := st; wpAny_pyIter_enum he h
def iEnumT (K : PySem.W.Frag) (ta : TA) : TI := fun σ H R => ta σ H fun vs H1 => ∃ a xs, vs = [.ref a] ∧ SqT K H1 a xs ∧ R (IteT K a) H1
theorem pi_enumT {X : Cx} {e : Expr} {ta : TA} {p pos tpos : Pos} {elts : List Expr} {kk : Nat} (hg : Gl X "enumerate") (hm : X.mg "enumerate" = none) (ha : PA X [e] ta) (hs : starEach [e] X.env = [(false, eval e X.env)] := by rfl) :
    PI X (.Tuple elts kk tpos) (.Call (.Name "enumerate" p) [e] [] pos) (iEnumT X.K ta) := by
  refine ⟨fun pins s σ H R I h => ?_⟩
  refine Call_ (ld_blt I hg hm boot_enumerate (PyProof.Rows.callWith_type1 (thn (ha.run pos pins s σ H _ I h) fun us s1 ⟨vs, H1, I1, r1, q1⟩ => ?_) hs rfl))
  obtain ⟨a, xs, ex, hq, q⟩ := q1
  subst ex
  cases r1 with
  | cons r rr =>
    cases rr
    cases r
    obtain ⟨its, rv, p', hz⟩ := I1.tuple hq
    refine enum_begins1 (begins_tuple a its.toArray) p' fun h' he hit hsz hk => wpAny_pyIter_enum he ?_
    have I2 : Inv X pins σ H1 { s1 with heap := h' } := I1.kept (t' := s1.toks) hk
    refine ⟨s1.heap.objs.size + 1, [s1.heap.objs.size + 1, s1.heap.objs.size], _, _, H1, rfl, I2, turn_enumT a (s1.heap.objs.size + 1) s1.heap.objs.size, ⟨⟨.none, he⟩, ⟨_, hit, rfl, rfl⟩, Nat.succ_ne_self _⟩, fun b hb => ?_, q⟩
    have e' : b = s1.heap.objs.size + 1 ∨ b = s1.heap.objs.size := by simpa using hb
    have hle : s1.heap.objs.size ≤ b := by
      rcases e' with z | z
      · rw [z]; exact Nat.le_add_right _ _
      · rw [z]; exact Nat.le_refl _
    exact I1.fpOk hle (I1.hok.fresh hle)
/-- what a comprehension over enumerate(t) asks -/
def LcE (K : PySem.W.Frag) (a : Addr) (g : TG) (tt : TT) (te : TE) (vs : List Nat) : L2.St → Hp → VK → Prop := fun σ H Q => (∃ xs, SqT K H a xs) ∧ LcJ (IteT K a) g tt te vs σ H Q
def dLcE (K : PySem.W.Frag) (ta : TA) (g : TG) (tt : TT) (te : TE) (vs : List Nat) : TE := fun σ H Q => ta σ H fun us H1 => match us with
  | [.ref a] => LcE K a g tt te vs σ H1 Q
  | _ => False
section
variable {X : Cx} {e elt : Expr} {ifs elts : List Expr} {kk : Nat} {scope : Scope} {own : List (Str × Nat)} {te : TE} {ta : TA} {g : TG} {tt : TT} {pos p p2 tpos : Pos}
theorem lc_e {σ : L2.St} {H : Hp} {Q : VK} {K : PySem.W.Frag} {vs : List Nat} (q1 : dLcE K ta g tt te vs σ H Q) : tLc (iEnumT K (mA ta)) g tt te vs σ H Q := ⟨_, q1, fun v H' q2 => by
  split at q2
  · obtain ⟨xs, hq⟩ := q2.1
    exact ⟨_, xs, rfl, hq, q2.2⟩
  · exact q2.elim⟩
theorem d_lcE (hc : X.calm = true) (hN : X.N.Nodup) (hm : X.mg "enumerate" = none) (ha : PA X [e] ta) (ok : BlkOk X.N X.env.scope scope own) (hg : BG X scope (.Tuple elts kk tpos) g) (ht : BT X scope ifs tt) (he : BE X scope elt te) (hgl : Gl X "enumerate" := by rfl)
    (hs : ∀ x, foldedSetIterable (.Call (.Name "enumerate" p) [e] [] p2) X.env x = pure x := by intro _; rfl) (hst : starEach [e] X.env = [(false, eval e X.env)] := by rfl) :
    PE X (.ListComp elt [⟨.Tuple elts kk tpos, .Call (.Name "enumerate" p) [e] [] p2, ifs, 0⟩] scope pos) (dLcE X.K ta g tt te (own.map (·.2))) := peI (pe_lc hc hN (pi_enumT hgl hm (paM ha) hst) ok hg ht he hs) fun _ _ _ q => lc_e q
end
theorem lcE_pair {β : Type} {K : PySem.W.Frag} {a : Addr} {xs : List V} {ps : List β} {F : V → β → Prop} {g : TG} {tt : TT} {te : TE} {vs : List Nat} {σ : L2.St} {H1 : Hp} {Q : VK} (hq : H1 a = some (.tup xs)) (pr : Paired F xs ps) (hz : xs.length ≤ 1000000) (R : β → V → Hp → Prop)
    (st : ∀ x y H H', KT H H' → R x y H → R x y H')
    (turn : ∀ (i : Nat) (x : V) (p : β) (T : Addr), xs[i]? = some x → ps[i]? = some p → F x p → ∀ H, Same H1 H → H T = some (.tup [.int (i : Nat), x]) → ∀ (k1 : VK) (k0 : Hp → Prop), (∀ y H', Same H H' → R p y H' → k1 y H') → LcTurn g tt te vs σ (.ref T) H k1 k0)
    (hd : ∀ D H ys, H1 D = none → Same H1 H → H D = some (.lst ys) → Paired (fun p y => R p y H) ps ys → Q (.ref D) H) : LcE K a g tt te vs σ H1 Q := by
  refine ⟨⟨_, .inl (.inl hq)⟩, fun D hD => ⟨fun i m H => m = xs.length - i ∧ i ≤ xs.length ∧ Same H1 H ∧ ∃ ys, H D = some (.lst ys) ∧ ys.length = i ∧ Paired (fun p y => R p y H) (ps.take i) ys, ⟨_, rfl, Nat.zero_le _, same_new hD, [], upd_same, rfl, .nil⟩, ?_⟩⟩
  rintro i m H ⟨rfl, hi, s, ys, hDs, hl, pp⟩
  rcases Nat.lt_or_ge i xs.length with hlt | hge
  · refine .inr ⟨⟨xs, xs[i], .inl (.inl (s _ _ hq)), List.getElem?_eq_getElem hlt⟩, fun H => i + 1 ≤ xs.length ∧ Same H1 H ∧ ∃ ys, H D = some (.lst ys) ∧ ys.length = i + 1 ∧ Paired (fun p y => R p y H) (ps.take (i + 1)) ys, fun H' q => ⟨xs.length - (i + 1), by omega, rfl, q⟩, ?_⟩
    rintro v H' ⟨T, x, rfl, hT, rfl, hx⟩
    have hx := hx xs (.inl (.inl (s _ _ hq)))
    obtain ⟨p, hp, hF⟩ := pairedGet pr hx
    have sT := same_new (o := .tup [.int (i : Nat), x]) hT
    refine turn i x p T hx hp hF _ (s.trans sT) upd_same _ _ fun y H2 s2 r => ?_
    have hD2 := s2 _ _ (sT _ _ hDs)
    have kt : KT H (upd H2 D (.lst (ys ++ [y]))) := ((KT.same sT).trans (.same s2)).trans (KT.mut (by rw [hD2]; rfl))
    have kt2 : KT H2 (upd H2 D (.lst (ys ++ [y]))) := KT.mut (by rw [hD2]; rfl)
    refine ⟨ys, hD2, by rw [sizeLine_eq]; omega, hlt, same_mut ((s.trans sT).trans s2) hD, ys ++ [y], upd_same, by rw [List.length_append, List.length_singleton]; omega, ?_⟩
    have e2 : ps.take (i + 1) = ps.take i ++ [p] := by rw [List.take_succ, hp]; rfl
    rw [e2]
    exact paired_app (Paired.mapP pp fun _ _ z => st _ _ _ _ kt z) (.cons (st _ _ _ _ kt2 r) .nil)
  · have : i = xs.length := by omega
    subst this
    rw [paired_len pr, List.take_length] at pp
    exact .inl ⟨⟨xs, .inl (.inl (s _ _ hq)), Nat.le_refl _⟩, hd D H ys hD s hDs pp⟩
/-! ### sorted(xs), xs a list or a tuple of ints, any number of them -/
section
variable {prog : Program} {w : World} {A : Around} {E : Value → Shared → Prop} {s : Shared}
/-- what a list or a tuple holds, gathered in a new list that nobody keeps -/
theorem gather {t : Addr} {T : String} {ob : Obj} {its : List Value} {k : Nat} {Q : List Value → Shared → Prop} (hT : (Value.type T == Value.type "list" || Value.type T == Value.type "tuple") = true) (g : s.heap.get? t = some ob) (cl : ob.cls = .type T) (da : ob.data = .seq its.toArray k) (hz : its.length ≤ sizeLine)
    (q : ∀ h1 : Heap, s.heap.objs.size ≤ h1.objs.size → (∀ b o, s.heap.get? b = some o → h1.get? b = some o) → Q its { s with heap := h1 }) : wpAny (model prog w) A (collect (.ref t)) Q E s := by
  have n0 : (s.heap.push (PyProof.Rows.seqObj "list" #[] 0)).get? s.heap.objs.size = some (PyProof.Rows.seqObj "list" #[] 0) := Heap.get?_push_size _ rfl
  have t0 : (s.heap.push (PyProof.Rows.seqObj "list" #[] 0)).get? t = some ob := Heap.get?_push_of_some _ g
  have keep : ∀ b o, s.heap.get? b = some o → ((s.heap.push (PyProof.Rows.seqObj "list" #[] 0)).update s.heap.objs.size (Obj.mapSeq (· ++ its.toArray))).get? b = some o := fun b o e =>
    (Heap.get?_update_ne _ _ _ _ (Nat.ne_of_lt (Heap.lt_size e))).trans (Heap.get?_push_of_some _ e)
  have size : s.heap.objs.size ≤ ((s.heap.push (PyProof.Rows.seqObj "list" #[] 0)).update s.heap.objs.size (Obj.mapSeq (· ++ its.toArray))).objs.size := by
    rw [Heap.size_update, Heap.size_push]
    exact Nat.le_succ _
  have fit : (#[] ++ its.toArray : Array Value).size ≤ sizeLine + 1 := by simp; omega
  have end_ := q _ size keep
  have got := PyProof.Rows.get?_update_seq n0 (· ++ its.toArray)
  generalize hh : (s.heap.push (PyProof.Rows.seqObj "list" #[] 0)).update s.heap.objs.size (Obj.mapSeq (· ++ its.toArray)) = h1 at *
  have last : wpAny (model prog w) A (do
      let o ← load s.heap.objs.size
      match o.data with
      | .seq xs _ => pure xs.toList
      | _ => unsupported "internal:collect") Q E { s with heap := h1 } := wpAny_bind (wpAny_load got (wpAny_pure (by simpa using end_)))
  unfold collect
  refine wpAny_bind (wpAny_runValue (codeAny_builtin PyProof.Rows.entry_proto_collect' ?_))
  change wpAny _ _ (newList [] >>= fun l => again (.builtin "list.__iadd__" ⟨[l, .ref t], []⟩)) _ _ s
  refine wpAny_bind (wpAny_newList (wpAny_pure ⟨Code.quiet_builtin _ (by decide +kernel), codeAny_builtin PyProof.Rows.entry_list_iadd' ?_⟩))
  change wpAny _ _ (Builtin.List.listExtendWith (.ref s.heap.objs.size) (.ref t) (.ref s.heap.objs.size)) _ _ { s with heap := s.heap.push (PyProof.Rows.seqObj "list" #[] 0) }
  unfold Builtin.List.listExtendWith
  refine wpAny_bind (wpAny_typeOf (T := T) ⟨ob, t0, cl⟩ ?_)
  rw [Bool.or_assoc, hT, Bool.or_true, if_pos rfl]
  refine wpAny_bind (PyProof.Rows.listItems_at t0 da (wpAny_bind (PyProof.Rows.listItems_at (xs := #[]) (n := 0) n0 rfl ?_)))
  rw [if_neg (by simp)]
  refine wpAny_bind (PyProof.Rows.listUpdate_at (xs := #[]) (n := 0) n0 rfl (wpAny_pure ?_) (Nat.zero_le _) fit)
  rw [hh]
  exact last
/-- sorted(t), t a tuple of ints: a new list at some place, all else as it was -/
theorem sorted_tup {t : Addr} {its : List Value} {ns : List Int} {Q : Value → Shared → Prop} (ht : s.heap.IsTuple t its.toArray) (hi : IntsAre its ns) (hz : its.length ≤ sizeLine)
    (h : ∀ (p : Addr) (h' : Heap) (out : List Value), s.heap.objs.size ≤ p → (∀ b o, s.heap.get? b = some o → h'.get? b = some o) → IntsAre out (out.map SrtO.iv) → (out.map SrtO.iv).Perm ns → (out.map SrtO.iv).Pairwise (· ≤ ·) →
      (∃ e, h'.get? p = some (PyProof.Rows.seqObj "list" out.toArray e)) → Q (.ref p) { s with heap := h' }) : wpAny (model prog w) A (call (.builtin "sorted") [.ref t]) Q E s := by
  obtain ⟨ob, g, cl, k, da⟩ := ht
  refine PySem.Calls.call_function_entry PyProof.Rows.kind_sorted PyProof.Rows.plain_sorted PyProof.Rows.entry_sorted (PyProof.Rows.args_sorted1 _) ?_
  unfold Builtin.«sorted»
  refine wpAny_bind (m := checkCount "sorted" 1 1 _) (wpAny_pure (wpAny_bind (gather rfl g cl da hz fun h1 le k1 => wpAny_bind (wpAny_newList ?_ hz))))
  have here : (h1.push (PyProof.Rows.seqObj "list" its.toArray 0)).get? h1.objs.size = some (PyProof.Rows.seqObj "list" its.toArray 0) := Heap.get?_push_size _ rfl
  refine wpAny_bind (wpAny_holding (wpAny_call_entry PyProof.Rows.slot_list_sort ⟨_, here, rfl⟩ PyProof.Rows.entry_list_sort
    (SrtO.list_sort_ord SrtO.swo_int here hz (fun h2 => SrtO.ints_sortable hi h2) fun out a1 a2 => ⟨_, rfl, wpAny_pure ⟨_, rfl, ?_⟩⟩) (PyProof.Rows.args_list_sort _)))
  obtain ⟨k1', k2, k3⟩ := SrtO.ints_out hi a1 a2
  refine h _ _ out le (fun b o hb => ?_) k1' k2 k3 (PyProof.Rows.sortedHeap_at here)
  have hb1 := k1 b o hb
  have hlt := Heap.lt_size hb1
  refine (PyProof.Rows.sortedHeap_old (Nat.ne_of_lt hlt) (Heap.lt_size (Heap.get?_push_of_some _ hb1))).trans (Heap.get?_push_of_some _ hb1)
end
def rSortedLT (K : PySem.W.Frag) : List V → Hp → VK → Prop := fun vs H Q => ∃ (a : Addr) (ns : List Int), vs = [V.ref a] ∧ (SqL K H a (ns.map V.int) ∨ SqT K H a (ns.map V.int)) ∧
  ∀ (ns' : List Int) (p : Addr), ns'.Perm ns → ns'.Pairwise (· ≤ ·) → H p = none → Q (.ref p) (upd H p (.lst (ns'.map V.int)))
theorem cr_sortedLT {X : Cx} : CallR X (.builtin "sorted") (rSortedLT X.K) := by
  intro pins s σ H vs us Q I r h
  obtain ⟨a, ns, rfl, hs | hs, q⟩ := h
  · exact cr_sortedI pins s σ H _ us Q I r ⟨a, ns, rfl, hs, q⟩
  obtain ⟨its, rv, hl, hz⟩ := I.tuple hs
  rw [Vals.ref1 r]
  refine sorted_tup (show s.heap.IsTuple a its.toArray from hl) rv.ints (by rw [← rv.length]; exact hz) fun p h' out hp kp hi pm srt ⟨e, he⟩ => ?_
  have len : ((out.map SrtO.iv).map V.int).length ≤ sizeLine := by
    have := pm.length_eq
    simp only [List.length_map] at this hz ⊢
    omega
  exact ⟨.ref p, upd H p (.lst ((out.map SrtO.iv).map V.int)), I.laid (t' := s.toks) kp hp ⟨len, out, e, vals_of_ints hi, he⟩, rfl, q _ _ pm srt (I.hok.fresh hp)⟩
/-! ### lists beside [], whatever they hold; min and max of two data; zip of two tuples; dicts with tuple keys: items, sorted -/
section
variable {X : Cx}
def rNeNil : R2 := fun x y H Q => ∃ (a b : Addr) (xs : List V), x = .ref a ∧ y = .ref b ∧ H a = some (.lst xs) ∧ H b = some (.lst []) ∧ Q (.bl (!decide (xs = []))) H
theorem op_neNil (hu : X.A.units + 64 < cLine) : OpR X (compareOp .NotEq) rNeNil := by
  intro pins s σ H x y v u Q I rx ry h
  obtain ⟨a, b, xs, rfl, rfl, ha, hb, q⟩ := h
  cases rx
  cases ry
  obtain ⟨its, rv, ⟨⟨cls, dd, data, sl⟩, n, ho, hc, hdn, hd⟩, hlen⟩ := I.list (SqL.of ha)
  obtain ⟨its2, rv2, ⟨⟨cls2, dd2, data2, sl2⟩, n2, ho2, hc2, hdn2, hd2⟩, hlen2⟩ := I.list (SqL.of hb)
  simp only at hc hd hc2 hd2
  subst hc hd hc2 hd2
  cases rv2
  refine richCompare_meets_room (op := .NotEq) ⟨_, ho, rfl⟩ ⟨_, ho2, rfl⟩ PySem.F.slot_list_ne PySem.F.entry_list_ne (PySem.F.args_list_ne_2 _ _) (S := fun A R s' => s' = s ∧ R (.ok (.ret (.bool (!decide (xs = []))))) s') ?_ ⟨rfl, ?_⟩ (by omega)
  · intro prog w A R s' h
    obtain ⟨e, h⟩ := h
    subst e
    cases rv with
    | nil => exact SeqAt.list_neAt a b _ _ n n2 dd dd2 sl sl2 rfl (fun _ => true) prog w A R s' ⟨ho, ho2, fun j h1 => absurd h1 (by simp), h⟩
    | cons r t => exact SeqAt.list_ne_lengthsAt a b _ _ n n2 dd dd2 sl sl2 (by simp) prog w A R s' ⟨ho, ho2, h⟩
  · exact ⟨(fun z => nomatch z), ⟨.bl _, H, I, rfl, q⟩⟩
end
section
open Sem (wp)
variable {prog : Program} {w : World} {A : Around} {E : Value → Shared → Prop} {s : Shared}
theorem call_min_twoH {a b : Value} {Q : Value → Shared → Prop}
    (h : wpAny (model prog w) A.in1 (pyIter (.ref s.heap.objs.size)) (fun it s₂ => ∃ I fp wr G n P St H bt, it = .ref I ∧ WalksS prog w A.in1 I fp wr G n P St ∧ St 0 s₂ ∧ (∀ b ∈ fp, b < s₂.heap.objs.size) ∧ 0 < n ∧
      (∀ b o, H.get? b = some o → b ∉ wr) ∧ (∀ b o, H.get? b = some o → s₂.heap.get? b = some o) ∧ CmpIn prog w A.in1 .Lt H P bt ∧ ∀ v s', P (argBest bt (n - 1)) v → Moved wr G s₂ s' → Q v s') E { s with heap := s.heap.push { cls := .type "tuple", data := .seq #[a, b] } }) :
    wpAny (model prog w) A (call (.builtin "min") [a, b]) Q E s := by
  have hname : (toString "min" ++ toString ".loop" : String) = "min.loop" := by decide
  refine call_function_tree F.kind_min F.plain_min F.entry_min (F.args_min2 _ _) ?_
  show wpAny _ A.in1 (Builtin.Builtins.bindParams "min" ["key", "default"] 0 ⟨[], []⟩ >>= _) _ _ s
  refine wpAny_bind (wpAny_of_eq (show Builtin.Builtins.bindParams "min" ["key", "default"] 0 ⟨[], []⟩ = pure [none, none] from rfl) ?_)
  show wpAny _ A.in1 (newTuple [a, b] >>= _) _ _ s
  refine wpAny_bind (wpAny_newObj_type ?_)
  refine wpAny_bind (wpAny_mono h (fun it s₂ h₂ => ?_) fun _ _ e => e)
  obtain ⟨I, fp, wr, G, n, P, St, H, bt, rfl, W, hst, hfp, hn, hw, hk, hcmp, hQ⟩ := h₂
  refine wpAny_bind (wpAny_newObj_type ?_)
  have hSf : s₂.heap.objs.size ∉ fp := fun hm => Nat.lt_irrefl _ (hfp _ hm)
  rw [hname]
  refine wpAny_pure ⟨plainId_quiet F.plain_min_loop _, codeAny_min_loop_firstH W H hw bt hcmp s₂.heap.objs.size hSf (fresh_in hk) _ hn (fun b o e => Heap.get?_push_of_some _ (hk b o e)) (W.frame _ s₂ _ s₂.toks hst (Nat.le_refl _) fun b _ o e => Heap.get?_push_of_some _ e) (Heap.get?_push_size _ rfl) fun v s' hP m => ?_⟩
  exact hQ v s' hP (Moved.drop_new (tk := s₂.toks) m (Nat.le_refl _))
theorem call_max_twoH {a b : Value} {Q : Value → Shared → Prop}
    (h : wpAny (model prog w) A.in1 (pyIter (.ref s.heap.objs.size)) (fun it s₂ => ∃ I fp wr G n P St H bt, it = .ref I ∧ WalksS prog w A.in1 I fp wr G n P St ∧ St 0 s₂ ∧ (∀ b ∈ fp, b < s₂.heap.objs.size) ∧ 0 < n ∧
      (∀ b o, H.get? b = some o → b ∉ wr) ∧ (∀ b o, H.get? b = some o → s₂.heap.get? b = some o) ∧ CmpIn prog w A.in1 .Gt H P bt ∧ ∀ v s', P (argBest bt (n - 1)) v → Moved wr G s₂ s' → Q v s') E { s with heap := s.heap.push { cls := .type "tuple", data := .seq #[a, b] } }) :
    wpAny (model prog w) A (call (.builtin "max") [a, b]) Q E s := by
  have hname : (toString "max" ++ toString ".loop" : String) = "max.loop" := by decide
  refine call_function_tree F.kind_max F.plain_max F.entry_max (F.args_max2 _ _) ?_
  show wpAny _ A.in1 (Builtin.Builtins.bindParams "max" ["key", "default"] 0 ⟨[], []⟩ >>= _) _ _ s
  refine wpAny_bind (wpAny_of_eq (show Builtin.Builtins.bindParams "max" ["key", "default"] 0 ⟨[], []⟩ = pure [none, none] from rfl) ?_)
  show wpAny _ A.in1 (newTuple [a, b] >>= _) _ _ s
  refine wpAny_bind (wpAny_newObj_type ?_)
  refine wpAny_bind (wpAny_mono h (fun it s₂ h₂ => ?_) fun _ _ e => e)
  obtain ⟨I, fp, wr, G, n, P, St, H, bt, rfl, W, hst, hfp, hn, hw, hk, hcmp, hQ⟩ := h₂
  refine wpAny_bind (wpAny_newObj_type ?_)
  have hSf : s₂.heap.objs.size ∉ fp := fun hm => Nat.lt_irrefl _ (hfp _ hm)
  rw [hname]
  refine wpAny_pure ⟨plainId_quiet F.plain_max_loop _, codeAny_max_loop_firstH W H hw bt hcmp s₂.heap.objs.size hSf (fresh_in hk) _ hn (fun b o e => Heap.get?_push_of_some _ (hk b o e)) (W.frame _ s₂ _ s₂.toks hst (Nat.le_refl _) fun b _ o e => Heap.get?_push_of_some _ e) (Heap.get?_push_size _ rfl) fun v s' hP m => ?_⟩
  exact hQ v s' hP (Moved.drop_new (tk := s₂.toks) m (Nat.le_refl _))
end
section
variable {X : Cx}
def rMin2D (K : PySem.W.Frag) : List V → Hp → VK → Prop := fun vs H Q => ∃ x y d e, vs = [x, y] ∧ Dp K H x d ∧ Dp K H y e ∧ PySem.W.AlikeAll [d, e] ∧ d.depth ≤ 60 ∧ e.depth ≤ 60 ∧ Q (if PySem.W.dataLt e d then y else x) H
theorem cr_min2D (hc : X.calm = true) (hu : X.A.units + 65 < cLine) : CallR X (.builtin "min") (rMin2D X.K) := by
  intro pins s σ H vs us Q I r h
  obtain ⟨x, y, d, e, rfl, hd, he, hal, d1, d2, q⟩ := h
  obtain ⟨u1, u2, rfl, r1, r2⟩ := vals2 r
  obtain ⟨as, ra⟩ := Dp.reads I d x u1 hd r1
  obtain ⟨bs, rb⟩ := Dp.reads I e y u2 he r2
  have k0 : ∀ b o, s.heap.get? b = some o → (s.heap.push { cls := .type "tuple", data := .seq #[u1, u2] }).get? b = some o := fun b o e => Heap.get?_push_of_some _ e
  have hr : ReadsAll (s.heap.push { cls := .type "tuple", data := .seq #[u1, u2] }) [u1, u2] [d, e] _ := .cons (PySem.W.reads_keeps k0 ra) (.cons (PySem.W.reads_keeps k0 rb) .nil)
  refine call_min_twoH (PySem.W.iter_tupleW (A := X.A.in1) (s := { s with heap := s.heap.push { cls := .type "tuple", data := .seq #[u1, u2] } }) (vs := #[u1, u2]) (I.ok.hd hc) ⟨_, Heap.get?_push_size _ rfl, rfl, 0, rfl⟩ fun s₂ e2 W st hfp hw hk => ?_)
  refine ⟨_, _, _, _, _, _, _, s.heap.push { cls := .type "tuple", data := .seq #[u1, u2] }, _, rfl, W, st, hfp, by simp, hw, hk, PySem.W.cmpIn_lt (s := { s with heap := s.heap.push { cls := .type "tuple", data := .seq #[u1, u2] } }) (A := X.A.in1) (by simpa using hr) hal (by show X.A.units + 1 + _ < _; simp only [PyData.depthAll]; omega), fun v s' hP m => ?_⟩
  obtain ⟨h', tk, rfl, hk'⟩ := PySem.W.moved_old e2 rfl m
  have I1 : Inv X pins σ H { s with heap := h', toks := tk } := I.kept (t' := tk) fun b o e => hk' b o (k0 b o e)
  have e3 : argBest (fun i j => PySem.W.dataLt ([d, e].getD i .none) ([d, e].getD j .none)) (2 - 1) = if PySem.W.dataLt e d then 1 else 0 := by
    simp [argBest]
  have hP : (#[u1, u2] : Array Value)[argBest (fun i j => PySem.W.dataLt ([d, e].getD i .none) ([d, e].getD j .none)) (2 - 1)]? = some v := hP
  rw [e3] at hP
  by_cases c : PySem.W.dataLt e d = true
  · rw [if_pos c] at hP q
    have : v = u2 := by simpa using hP.symm
    subst this
    exact ⟨y, H, I1, r2, q⟩
  · rw [if_neg c] at hP q
    have : v = u1 := by simpa using hP.symm
    subst this
    exact ⟨x, H, I1, r1, q⟩
def rMax2D (K : PySem.W.Frag) : List V → Hp → VK → Prop := fun vs H Q => ∃ x y d e, vs = [x, y] ∧ Dp K H x d ∧ Dp K H y e ∧ PySem.W.AlikeAll [d, e] ∧ d.depth ≤ 60 ∧ e.depth ≤ 60 ∧ Q (if PySem.W.dataLt d e then y else x) H
theorem cr_max2D (hc : X.calm = true) (hu : X.A.units + 65 < cLine) : CallR X (.builtin "max") (rMax2D X.K) := by
  intro pins s σ H vs us Q I r h
  obtain ⟨x, y, d, e, rfl, hd, he, hal, d1, d2, q⟩ := h
  obtain ⟨u1, u2, rfl, r1, r2⟩ := vals2 r
  obtain ⟨as, ra⟩ := Dp.reads I d x u1 hd r1
  obtain ⟨bs, rb⟩ := Dp.reads I e y u2 he r2
  have k0 : ∀ b o, s.heap.get? b = some o → (s.heap.push { cls := .type "tuple", data := .seq #[u1, u2] }).get? b = some o := fun b o e => Heap.get?_push_of_some _ e
  have hr : ReadsAll (s.heap.push { cls := .type "tuple", data := .seq #[u1, u2] }) [u1, u2] [d, e] _ := .cons (PySem.W.reads_keeps k0 ra) (.cons (PySem.W.reads_keeps k0 rb) .nil)
  refine call_max_twoH (PySem.W.iter_tupleW (A := X.A.in1) (s := { s with heap := s.heap.push { cls := .type "tuple", data := .seq #[u1, u2] } }) (vs := #[u1, u2]) (I.ok.hd hc) ⟨_, Heap.get?_push_size _ rfl, rfl, 0, rfl⟩ fun s₂ e2 W st hfp hw hk => ?_)
  refine ⟨_, _, _, _, _, _, _, s.heap.push { cls := .type "tuple", data := .seq #[u1, u2] }, _, rfl, W, st, hfp, by simp, hw, hk, PySem.W.cmpIn_gt (s := { s with heap := s.heap.push { cls := .type "tuple", data := .seq #[u1, u2] } }) (A := X.A.in1) (by simpa using hr) hal (by show X.A.units + 1 + _ < _; simp only [PyData.depthAll]; omega), fun v s' hP m => ?_⟩
  obtain ⟨h', tk, rfl, hk'⟩ := PySem.W.moved_old e2 rfl m
  have I1 : Inv X pins σ H { s with heap := h', toks := tk } := I.kept (t' := tk) fun b o e => hk' b o (k0 b o e)
  have e3 : argBest (fun i j => PySem.W.dataLt ([d, e].getD j .none) ([d, e].getD i .none)) (2 - 1) = if PySem.W.dataLt d e then 1 else 0 := by
    simp [argBest]
  have hP : (#[u1, u2] : Array Value)[argBest (fun i j => PySem.W.dataLt ([d, e].getD j .none) ([d, e].getD i .none)) (2 - 1)]? = some v := hP
  rw [e3] at hP
  by_cases c : PySem.W.dataLt d e = true
  · rw [if_pos c] at hP q
    have : v = u2 := by simpa using hP.symm
    subst this
    exact ⟨y, H, I1, r2, q⟩
  · rw [if_neg c] at hP q
    have : v = u1 := by simpa using hP.symm
    subst this
    exact ⟨x, H, I1, r1, q⟩
end
/-! ### zip of two tuples in a comprehension -/
def LcZ (K : PySem.W.Frag) (a b : Addr) (g : TG) (tt : TT) (te : TE) (vs : List Nat) : L2.St → Hp → VK → Prop := fun σ H Q => (∃ xs, SqT K H a xs) ∧ (∃ ys, SqT K H b ys) ∧ LcJ (RZ.ItzT K a b) g tt te vs σ H Q
def dLcZ (K : PySem.W.Frag) (ta : TA) (g : TG) (tt : TT) (te : TE) (vs : List Nat) : TE := fun σ H Q => ta σ H fun us H1 => match us with
  | [.ref a, .ref b] => LcZ K a b g tt te vs σ H1 Q
  | _ => False
section
variable {X : Cx} {e e2 elt : Expr} {ifs elts : List Expr} {kk : Nat} {scope : Scope} {own : List (Str × Nat)} {te : TE} {ta : TA} {g : TG} {tt : TT} {pos p p2 tpos : Pos}
theorem lc_z {σ : L2.St} {H : Hp} {Q : VK} {K : PySem.W.Frag} {vs : List Nat} (q1 : dLcZ K ta g tt te vs σ H Q) : tLc (RZ.iZipA K (mA ta)) g tt te vs σ H Q := ⟨_, q1, fun v H' q2 => by
  split at q2
  · obtain ⟨⟨xs, hx⟩, ⟨ys, hy⟩, q3⟩ := q2
    exact ⟨_, _, xs, ys, rfl, .inr ⟨hx, hy, q3⟩⟩
  · exact q2.elim⟩
theorem d_lcZ (hc : X.calm = true) (hN : X.N.Nodup) (hm : X.mg "zip" = none) (ha : PA X [e, e2] ta) (ok : BlkOk X.N X.env.scope scope own) (hg : BG X scope (.Tuple elts kk tpos) g) (ht : BT X scope ifs tt) (he : BE X scope elt te) (hgl : Gl X "zip" := by rfl)
    (hs : ∀ x, foldedSetIterable (.Call (.Name "zip" p) [e, e2] [] p2) X.env x = pure x := by intro _; rfl) (hst : starEach [e, e2] X.env = (false, eval e X.env) :: starEach [e2] X.env := by rfl) (hpl : (backTo p2 (starEach [e2] X.env)).any (·.1) = false := by rfl) :
    PE X (.ListComp elt [⟨.Tuple elts kk tpos, .Call (.Name "zip" p) [e, e2] [] p2, ifs, 0⟩] scope pos) (dLcZ X.K ta g tt te (own.map (·.2))) := peI (pe_lc hc hN (RZ.pi_zipA hgl hm (paM ha) hst hpl) ok hg ht he hs) fun _ _ _ q => lc_z q
theorem d_setZ {i : Nat} {y : Str} {py spos : Pos} (hc : X.calm = true) (hN : X.N.Nodup) (hy : X.N[i]? = some y) (hyl : X.env.scope.names.lookup y = some .local) (hsw : swapsWith (.ListComp elt [⟨.Tuple elts kk tpos, .Call (.Name "zip" p) [e, e2] [] p2, ifs, 0⟩] scope pos) (some (.Name y py)) spos.line X.env = pure true)
    (hm : X.mg "zip" = none) (ha : PA X [e, e2] ta) (ok : BlkOk X.N X.env.scope scope own) (hg : BG X scope (.Tuple elts kk tpos) g) (ht : BT X scope ifs tt) (he : BE X scope elt te) (hgl : Gl X "zip" := by rfl)
    (hs : ∀ x, foldedSetIterable (.Call (.Name "zip" p) [e, e2] [] p2) X.env x = pure x := by intro _; rfl) (hst : starEach [e, e2] X.env = (false, eval e X.env) :: starEach [e2] X.env := by rfl) (hpl : (backTo p2 (starEach [e2] X.env)).any (·.1) = false := by rfl) :
    PS X (.Assign [.Name y py] (.ListComp elt [⟨.Tuple elts kk tpos, .Call (.Name "zip" p) [e, e2] [] p2, ifs, 0⟩] scope pos) spos) (tAsg (dLcZ X.K ta g tt te (own.map (·.2))) (gName i)) := psI (ps_setLc hc hN hy hyl hsw (RZ.pi_zipA hgl hm (paM ha) hst hpl) ok hg ht he hs) fun _ _ _ q => lc_z q
end
theorem lcZ_pair {K : PySem.W.Frag} {a b : Addr} {xs ys : List V} {g : TG} {tt : TT} {te : TE} {vs : List Nat} {σ : L2.St} {H1 : Hp} {Q : VK} (hq : H1 a = some (.tup xs)) (hq2 : H1 b = some (.tup ys)) (hl : ys.length = xs.length) (hz : xs.length ≤ 1000000) (out : Nat → V)
    (turn : ∀ (i : Nat) (x y : V) (T : Addr), xs[i]? = some x → ys[i]? = some y → ∀ H, Same H1 H → H T = some (.tup [x, y]) → ∀ (k1 : VK) (k0 : Hp → Prop), (∀ H', Same H H' → k1 (out i) H') → LcTurn g tt te vs σ (.ref T) H k1 k0)
    (hd : ∀ D H, H1 D = none → Same H1 H → H D = some (.lst ((List.range xs.length).map out)) → Q (.ref D) H) : LcZ K a b g tt te vs σ H1 Q := by
  refine ⟨⟨_, .inl (.inl hq)⟩, ⟨_, .inl (.inl hq2)⟩, fun D hD => ⟨fun i m H => m = xs.length - i ∧ i ≤ xs.length ∧ Same H1 H ∧ H D = some (.lst ((List.range i).map out)), ⟨_, rfl, Nat.zero_le _, same_new hD, upd_same⟩, ?_⟩⟩
  rintro i m H ⟨rfl, hi, s, hDs⟩
  rcases Nat.lt_or_ge i xs.length with hlt | hge
  · refine .inr ⟨⟨xs, ys, xs[i], ys[i]'(by omega), .inl (.inl (s _ _ hq)), .inl (.inl (s _ _ hq2)), List.getElem?_eq_getElem hlt, List.getElem?_eq_getElem (by omega)⟩, fun H => i + 1 ≤ xs.length ∧ Same H1 H ∧ H D = some (.lst ((List.range (i + 1)).map out)), fun H' q => ⟨xs.length - (i + 1), by omega, rfl, q⟩, ?_⟩
    rintro v H' ⟨T, x, y, rfl, hT, rfl, hx, hy⟩
    have hx := hx xs (.inl (.inl (s _ _ hq)))
    have hy := hy ys (.inl (.inl (s _ _ hq2)))
    have sT := same_new (o := .tup [x, y]) hT
    refine turn i x y T hx hy _ (s.trans sT) upd_same _ _ fun H2 s2 => ?_
    have hD2 := s2 _ _ (sT _ _ hDs)
    refine ⟨_, hD2, by rw [List.length_map, List.length_range, sizeLine_eq]; omega, hlt, same_mut ((s.trans sT).trans s2) hD, ?_⟩
    rw [List.range_succ, List.map_append]
    exact upd_same
  · have : i = xs.length := by omega
    subst this
    exact .inl ⟨⟨xs, ys, .inl (.inl (s _ _ hq)), .inl (.inl (s _ _ hq2)), .inl (Nat.le_refl _)⟩, hd D H hD s hDs⟩
/-! ### for .. in d.items(), d with tuple keys -/
def ItiT (d : Addr) (o : Obj) (kvs : List (List L2.Key × V)) : It :=
  ⟨fun i H => H d = some (.frz o (.dT kvs)) ∧ i < kvs.length, fun i H x H' => ∃ T q k v, kvs[i]? = some (k, v) ∧ x = .ref T ∧ H T = none ∧ H q = some (.tup (k.map kV)) ∧ H' = upd H T (.tup [.ref q, v]), fun i H => H d = some (.frz o (.dT kvs)) ∧ kvs.length ≤ i⟩
theorem frzT3 {X : Cx} {pins : List (Addr × Obj)} {σ : L2.St} {H : Hp} {s : Shared} {d : Addr} {o : Obj} {kvs : List (List L2.Key × V)} (I : Inv X pins σ H s) (h : H d = some (.frz o (.dT kvs))) :
    (d == sysModules) = false ∧ s.heap.get? d = some o ∧ o.ExactDict ∧ ∃ (es : Array DictEntry) (ep : Nat), o.data = .dict es ep ∧ es.size = kvs.length ∧
      ∀ (i : Nat) (k : List L2.Key) (v : V) (hi : i < es.size), kvs[i]? = some (k, v) → ∃ q, es[i].key = .ref q ∧ H q = some (.tup (k.map kV)) ∧ RelV v es[i].val := by
  obtain ⟨hd, z, hs, xs, pr, o', es, ep, ho, hx, hdt, he, _⟩ := I.hok d _ h
  rw [hd] at ho
  cases ho
  have l1 : es.size = xs.length := size_of_entries he
  have l2 : kvs.length = xs.length := Paired.length pr
  refine ⟨hs, hd, hx, es, ep, hdt, by omega, fun i k v hi e => ?_⟩
  obtain ⟨b, hb, _, h2, r⟩ := pairedGet pr e
  have q := entry_at he i
  rw [hb, Array.getElem?_eq_getElem hi] at q
  have q2 := Option.some.inj q
  rw [q2]
  exact ⟨_, rfl, h2, r⟩
section
variable {P : Program} {w : World} {K : PySem.W.Frag} {d : Addr} {o : Obj} {es : Array DictEntry} {ep : Nat}
theorem turn_itemsT {kvs : List (List L2.Key × V)} {elts : List Expr} {kk : Nat} {tpos : Pos} (it : Addr) (hod : o.data = .dict es ep) :
    Turn P w K (.Tuple elts kk tpos) (ItiT d o kvs) [it] it (fun i h => ∃ ok ov, IsItemIter h it d i kvs.length ep ok ov) where
  mem := by simp
  obj := fun i h st b hb => by
    have e : b = it := by simpa using hb
    subst e
    obtain ⟨ok, ov, e⟩ := st
    exact ⟨_, e, fun v z => nomatch z⟩
  keep := fun i h h' st k => let ⟨ok, ov, e⟩ := st; ⟨ok, ov, k it (by simp) _ e⟩
  item := by
    intro X hP hw hK hc i pins s σ H E I hf st hg
    subst hP hw hK
    obtain ⟨hd, hi⟩ := hg
    obtain ⟨hs, hgd, hx, es', ep', hdt, hsz, ent⟩ := frzT3 I hd
    obtain ⟨rfl, rfl⟩ := dict_ep hod hdt
    obtain ⟨⟨k, v⟩, hkv⟩ : ∃ p, kvs[i]? = some p := ⟨kvs[i], List.getElem?_eq_getElem hi⟩
    have hlt' : i < es'.size := by omega
    obtain ⟨q, eq, hq, rv⟩ := ent i k v hlt' hkv
    obtain ⟨ok, ov, he⟩ := st
    rw [← hsz] at he
    have hlt : it < s.heap.objs.size := Heap.lt_size he
    refine wpAny_pyNext_items_item_raw he ⟨o, hgd, hx, hod⟩ hlt' fun h' ho hT hz hk => ?_
    refine ⟨_, rfl, wpAny_letOwnedTupleGo_items (s := { s with heap := h' }) ho fun h'' he' sb => ?_⟩
    have hT2 : h''.get? s.heap.objs.size = some { cls := .type "tuple", data := .seq #[es'[i].key, es'[i].val] } := (sb.2 _ (Nat.ne_of_gt hlt)).trans hT
    have new : ObjOk X.prog X.w (upd H s.heap.objs.size (.tup [.ref q, v])) h'' s.heap.objs.size (.tup [.ref q, v]) :=
      ⟨by show 2 ≤ sizeLine; decide, [es'[i].key, es'[i].val], .cons eq (.cons rv .nil), ⟨_, hT2, rfl, _, rfl⟩⟩
    have I1 : Inv X pins σ (upd H s.heap.objs.size (.tup [.ref q, v])) { s with heap := h'' } :=
      I.turnedNew (t' := s.toks) (ch := [it]) (fun b ob hb e => (sb.2 b (by simpa using hb)).trans (hk b ob (by simpa using hb) e)) hf (Nat.le_refl _) new
    refine ⟨.ref s.heap.objs.size, _, I1, rfl, ⟨_, q, k, v, hkv, rfl, I.hok.fresh (Nat.le_refl _), hq, rfl⟩, ⟨es'[i].key, es'[i].val, ?_⟩, fun b hb => ?_⟩
    · rw [← hsz]; exact he'
    · have e : b = it := by simpa using hb
      rw [e, upd_ne (Nat.ne_of_lt hlt)]
      exact (hf it (by simp)).1
  done := by
    intro X hP hw hK hc i pins s σ H E I hf st hg
    subst hP hw hK
    obtain ⟨hd, hi⟩ := hg
    obtain ⟨f0, f1, f2, f3, f4, f5⟩ := hf it (by simp)
    obtain ⟨hs, hgd, hx, es', ep', hdt, hsz, ent⟩ := frzT3 I hd
    obtain ⟨rfl, rfl⟩ := dict_ep hod hdt
    obtain ⟨ok, ov, he⟩ := st
    rw [← hsz] at he
    exact wpAny_pyNext_items_end_raw (I.ok.hd hc) he ⟨o, hgd, hx, hod⟩ (by omega) fun h' eb => ⟨rfl, I.turned (t' := s.toks) (fun b ob hb e => eb b ob hb e) f0 f1 f3 f4 f5⟩
  self := fun A i s Q E st h => let ⟨_, _, e⟩ := st; PySem.W.kcp_self e h
end
def iItemsT (td : TE) : TI := fun σ H R => td σ H fun x H1 => ∃ d o kvs, x = .ref d ∧ H1 d = some (.frz o (.dT kvs)) ∧ R (ItiT d o kvs) H1
section
variable {X : Cx} {e : Expr} {td : TE} {apos cpos : Pos}
theorem pi_itemsT {elts : List Expr} {kk : Nat} {tpos : Pos} (he : PE X e td) (hbase : attributeBase e "items" X.env (eval e X.env) = eval e X.env := by rfl) (hline : (apos.endLine == cpos.line) = true := by rfl) : PI X (.Tuple elts kk tpos) (.Call (.Attribute e "items" apos) [] [] cpos) (iItemsT td) := by
  refine ⟨fun pins s σ H R I h => ?_⟩
  refine wpAny_Call_method (T := "dict") (id := "dict.items") hbase rfl hline F.plainAttrs_dict F.slot_dict_items F.type_dict_items (thn (he.run pins s σ H _ I h) fun u s1 ⟨x, H1, I1, rx, d, o, kvs, ex, hd, q⟩ => ?_)
  subst ex
  obtain rfl : u = Value.ref d := rx
  obtain ⟨hs, hgd, hx, es, ep, hdt, hsz, rel⟩ := frzT3 I1 hd
  have raw : s1.heap.DictRaw d es ep := ⟨o, hgd, hx, hdt⟩
  refine ⟨raw.typeIs, (fun b hb => by cases hb; exact ⟨o, hgd, hx.2.1⟩), ?_⟩
  have I2 : Inv X pins σ H1 { s1 with heap := s1.heap.push { cls := .type "dict_items", data := .fields #[.ref d] } } := I1.kept (t' := s1.toks) fun b ob q => Heap.get?_push_of_some _ q
  have fin : wpAny (model X.prog X.w) X.A (pyIter (.ref s1.heap.objs.size)) (PIE X pins σ (.Tuple elts kk tpos) R) X.xe { s1 with heap := s1.heap.push { cls := .type "dict_items", data := .fields #[.ref d] } } := by
    refine wpAny_pyIter_items_raw (d := d) ⟨_, Heap.get?_push_size _ rfl, rfl, rfl⟩ (raw.at fun o e => Heap.get?_push_of_some _ e) (pi_one (tk := s1.toks) I2 _ (turn_itemsT _ hdt) ⟨.none, .none, ?_⟩ q)
    rw [← hsz]
    exact Heap.get?_push_size _ rfl
  show wpAny _ _ (callWith cpos (.builtin "dict.items") [.ref d] [] []) _ X.xe s1
  exact method_meetsIn F.slot_dict_items F.entry_dict_items rfl (PySem.evalArgs_none ⟨rfl, raw.typeIs, F.args_dict_items_1 _, _, meets_dict_items_raw d hs, ⟨⟨es, ep, raw⟩, fin⟩⟩)
end
/-! ### sorted(d.items()), sorted(d), d with tuple keys -/
mutual
theorem reads_lt {h : Heap} : ∀ {v : Value} {d : PyData} {as : List Addr}, Reads h v d as → ∀ a ∈ as, a < h.objs.size
  | _, _, _, .none, _, m => by cases m
  | _, _, _, .bool _, _, m => by cases m
  | _, _, _, .int _ _, _, m => by cases m
  | _, _, _, .str _ _, _, m => by cases m
  | _, _, _, .list h1 _ _ h4, b, m => by
    rcases List.mem_cons.mp m with rfl | m
    · exact Heap.lt_size h1
    · exact readsAll_lt h4 b m
  | _, _, _, .tuple _ _ _ h4, b, m => readsAll_lt h4 b m
  | _, _, _, .dict h1 _ _ h4 h5, b, m => by
    rcases List.mem_cons.mp m with rfl | m
    · exact Heap.lt_size h1
    · rcases List.mem_append.mp m with m | m
      · exact readsAll_lt h4 b m
      · exact readsAll_lt h5 b m
theorem readsAll_lt {h : Heap} : ∀ {vs : List Value} {ds : List PyData} {as : List Addr}, ReadsAll h vs ds as → ∀ a ∈ as, a < h.objs.size
  | _, _, _, .nil, _, m => by cases m
  | _, _, _, .cons h1 h2, b, m => by
    rcases List.mem_append.mp m with m | m
    · exact reads_lt h1 b m
    · exact readsAll_lt h2 b m
end
theorem each_get {α β : Type} {R : α → β → Prop} : ∀ {l : List α} {m : List β}, l.length = m.length → (∀ (i : Nat) a b, l[i]? = some a → m[i]? = some b → R a b) → PySem.W.EachIs R l m
  | [], [], _, _ => .nil
  | [], _ :: _, e, _ => by simp at e
  | _ :: _, [], e, _ => by simp at e
  | a :: l, b :: m, e, h => .cons (h 0 a b rfl rfl) (each_get (by simpa using e) fun i x y hx hy => h (i + 1) x y hx hy)
theorem each_paired {α β : Type} {R : α → β → Prop} {l : List α} {m : List β} (h : PySem.W.EachIs R l m) : Paired R l m := by
  induction h with
  | nil => exact .nil
  | cons h _ ih => exact .cons h ih
theorem paired_imp {α β γ δ : Type} {R : α → β → Prop} {S : γ → δ → Prop} {f : α → γ} {g : β → δ} : ∀ {l : List α} {m : List β}, Paired R l m → (∀ a b, b ∈ m → R a b → S (f a) (g b)) → Paired S (l.map f) (m.map g)
  | _, _, .nil, _ => .nil
  | _, _, .cons h t, k => .cons (k _ _ List.mem_cons_self h) (paired_imp t fun a b m => k a b (List.mem_cons_of_mem _ m))
theorem sqL_same {K : PySem.W.Frag} {H H' : Hp} (s : Same H H') {a : Addr} {xs : List V} (h : SqL K H a xs) : SqL K H' a xs := by
  rcases h with (h | ⟨o, h⟩) | h
  · exact .inl (.inl (s _ _ h))
  · exact .inl (.inr ⟨o, s _ _ h⟩)
  · exact .inr h
theorem sqT_same {K : PySem.W.Frag} {H H' : Hp} (s : Same H H') {a : Addr} {xs : List V} (h : SqT K H a xs) : SqT K H' a xs := by
  rcases h with (h | ⟨o, h⟩) | h
  · exact .inl (.inl (s _ _ h))
  · exact .inl (.inr ⟨o, s _ _ h⟩)
  · exact .inr h
mutual
theorem dp_same {K : PySem.W.Frag} {H H' : Hp} (s : Same H H') : ∀ {v : V} {d : PyData}, Dp K H v d → Dp K H' v d
  | _, _, .non => .non
  | _, _, .bl b => .bl b
  | _, _, .int i => .int i
  | _, _, .str x => .str x
  | _, _, .lst h t => .lst (sqL_same s h) (dpAll_same s t)
  | _, _, .tup h t => .tup (sqT_same s h) (dpAll_same s t)
theorem dpAll_same {K : PySem.W.Frag} {H H' : Hp} (s : Same H H') : ∀ {v : List V} {d : List PyData}, DpAll K H v d → DpAll K H' v d
  | _, _, .nil => .nil
  | _, _, .cons h t => .cons (dp_same s h) (dpAll_same s t)
end
section
variable {X : Cx}
/-- sorted(d.items()): new pairs in the order of enc, the pair's data -/
def rSortItD (K : PySem.W.Frag) : List V → Hp → VK → Prop := fun vs H Q => ∃ (p a : Addr) (kvs : List (List L2.Key × V)) (enc : List L2.Key × V → PyData), vs = [.ref p] ∧ H p = some (DX.itemsO p a) ∧ H a = some (.dT kvs) ∧ kvs.length ≤ 1000000 ∧
  (∀ e ∈ kvs, ∃ d, Dp K H e.2 d ∧ enc e = .tuple [.tuple (e.1.map keyD), d]) ∧ PySem.W.AllAlike (kvs.map enc) ∧ (∀ e ∈ kvs, (enc e).depth ≤ 60) ∧
  ∀ (H' : Hp) (l : Addr) (zs : List Addr), Same H H' → H' l = some (.lst (zs.map V.ref)) → Paired (fun z (e : List L2.Key × V) => ∃ q, H' z = some (.tup [.ref q, e.2]) ∧ H' q = some (.tup (e.1.map kV))) zs (kvs.mergeSort (PySem.W.dataLe false enc)) → Q (.ref l) H'
theorem cr_sortItD (hc : X.calm = true) (hu : X.A.units + 64 < cLine) : CallR X (.builtin "sorted") (rSortItD X.K) := by
  intro pins s σ H xs us Q I r h
  obtain ⟨p, a, kvs, enc, rfl, hp, ha, hlen, hd, hal, hdp, q⟩ := h
  obtain rfl := Vals.ref1 r
  have view : s.heap.IsItemsView p a := (show ObjOk X.prog X.w H s.heap p (DX.itemsO p a) from I.hok p _ hp).1
  obtain ⟨z, hsys, xs', rel, o, es, ep, ho, hx, hdat, hes, his, hn⟩ := dt_of I.hok ha
  have l1 : kvs.length = xs'.length := Paired.length rel
  have l2 : es.size = xs'.length := size_of_entries hes
  have hL : kvs.length ≤ sizeLine := by rw [sizeLine_eq]; omega
  refine DT.sortedI (es := es) (ep := ep) (I.ok.hd hc) view ⟨o, ho, hx, hdat⟩ (by omega) fun h' tk as hk hlt hl hG => ?_
  have lak : as.length = kvs.length := by omega
  have nd : as.Nodup := List.Pairwise.imp (fun h => Nat.ne_of_lt h) hG.rise
  have I0 : Inv X pins σ H { s with heap := h', toks := tk } := I.kept hk
  obtain ⟨H2, I2, g, qt⟩ := DX.takeT (P := fun b vs => ∃ (j : Nat) (e : List L2.Key × V) (kq : Addr), as[j]? = some b ∧ kvs[j]? = some e ∧ vs = [.ref kq, e.2] ∧ H kq = some (.tup (e.1.map kV))) I as _ I0 nd fun b hb => by
    obtain ⟨j, hj⟩ := List.mem_iff_getElem?.mp hb
    obtain ⟨en, he, hg⟩ := hG.pairs j b hj
    rw [entry_at hes j] at he
    cases hxj : xs'[j]? with
    | none => rw [hxj] at he; cases he
    | some x =>
      rw [hxj] at he
      have een : entryOfKey (tupleKind (mixKind X.prog X.w)) x = en := Option.some.inj he
      obtain ⟨e0, he0, r1, r2, r3⟩ := DX.pget rel hxj
      have hbl : s.heap.objs.size ≤ b := Nat.le_of_lt (hG.above b hb)
      refine ⟨hbl, I.hok.fresh hbl, [.ref x.2.1, e0.2], ⟨j, e0, x.2.1, hj, he0, rfl, r2⟩, fun H3 => ⟨(by rw [sizeLine_eq]; show 2 ≤ 16777216; omega), [.ref x.2.1, x.2.2], .cons rfl (.cons r3 .nil), ⟨_, hg, rfl, 0, ?_⟩⟩⟩
      rw [← een]
      rfl
  have at_ : ∀ (j : Nat) (b : Addr) (e : List L2.Key × V), as[j]? = some b → kvs[j]? = some e → ∃ kq, H2 b = some (.tup [.ref kq, e.2]) ∧ H kq = some (.tup (e.1.map kV)) := by
    intro j b e hj he
    obtain ⟨vs, ⟨i, e', kq, i1, i2, ev, hkq⟩, hH⟩ := qt b (List.mem_of_getElem? hj)
    have eij : i = j := (List.getElem?_inj (List.getElem?_eq_some_iff.mp i1).1 nd).mp (i1.trans hj.symm)
    subst eij
    rw [i2] at he
    cases he
    rw [ev] at hH
    exact ⟨kq, hH, hkq⟩
  have hob : (h'.push { cls := .type "list", data := .seq (as.map Value.ref).toArray }).get? h'.objs.size = some (seqObj "list" (as.map Value.ref).toArray 0) := Heap.get?_push_size _ rfl
  have kp : ∀ b o, h'.get? b = some o → (h'.push { cls := .type "list", data := .seq (as.map Value.ref).toArray }).get? b = some o := fun b o e => Heap.get?_push_of_some _ e
  generalize hh2 : h'.push { cls := .type "list", data := .seq (as.map Value.ref).toArray } = h2 at hob kp ⊢
  have er : PySem.W.EachIs (fun v (b : Addr × (List L2.Key × V)) => ∃ as', Reads h2 v (enc b.2) as' ∧ h'.objs.size ∉ as') (as.map Value.ref) (as.zip kvs) := by
    refine each_get (by rw [List.length_map, List.length_zip]; omega) fun i v b hv hb => ?_
    obtain ⟨b1, b2⟩ := b
    obtain ⟨e1, e2⟩ := List.getElem?_zip_eq_some.mp hb
    rw [List.getElem?_map, e1] at hv
    cases hv
    obtain ⟨kq, hz, hkq⟩ := at_ i b1 b2 e1 e2
    obtain ⟨d, hdd, ee⟩ := hd b2 (List.mem_of_getElem? e2)
    have D : Dp X.K H2 (.ref b1) (enc b2) := by
      rw [ee]
      exact .tup (SqT.of hz) (.cons (.tup (SqT.of (g _ _ hkq)) keyDp) (.cons (dp_same g hdd) .nil))
    obtain ⟨as', r'⟩ := Dp.reads I2 _ _ (.ref b1) D rfl
    exact ⟨as', PySem.W.reads_keeps kp r', fun m => absurd (reads_lt r' _ m) (Nat.lt_irrefl _)⟩
  have ez : (as.zip kvs).map (fun b => enc b.2) = kvs.map enc := by
    have : (as.zip kvs).map Prod.snd = kvs := List.map_snd_zip (by omega)
    calc (as.zip kvs).map (fun b => enc b.2) = ((as.zip kvs).map Prod.snd).map enc := by rw [List.map_map]; rfl
      _ = kvs.map enc := by rw [this]
  refine PySem.W.list_sort_data (s := { s with heap := h2, toks := tk }) (R := fun v (b : Addr × (List L2.Key × V)) => v = .ref b.1 ∧ b ∈ as.zip kvs) (bs := as.zip kvs) (enc := fun b => enc b.2) hob ?_ er (by rw [ez]; exact hal) ?_ (by rw [List.length_zip]; omega) (fun b m => ?_) fun out ol oe => ?_
  · refine each_get (by rw [List.length_map, List.length_zip]; omega) fun i v b hv hb => ?_
    obtain ⟨e1, e2⟩ := List.getElem?_zip_eq_some.mp hb
    rw [List.getElem?_map, e1] at hv
    cases hv
    exact ⟨rfl, List.mem_of_getElem? hb⟩
  · refine .inl fun d m => ?_
    rw [ez] at m
    obtain ⟨e, he, rfl⟩ := List.mem_map.mp m
    obtain ⟨d, _, ee⟩ := hd e he
    exact ⟨_, _, ee⟩
  · have := hdp b.2 (List.of_mem_zip m).2
    show X.A.units + 1 + 1 + _ < _
    omega
  · obtain ⟨eF, heF⟩ := PyProof.Rows.sortedHeap_at (vs := as.map Value.ref) (out := out.toArray) hob
    have kF : ∀ b o, h'.get? b = some o → (sortedHeap h2 h'.objs.size (as.map Value.ref) out.toArray).get? b = some o := fun b o e => (PyProof.Rows.sortedHeap_old (Nat.ne_of_lt (Heap.lt_size e)) (Heap.lt_size (kp b o e))).trans (kp b o e)
    have pz := each_paired oe
    have hout : out = (((as.zip kvs).mergeSort (PySem.W.dataLe false fun b => enc b.2)).map Prod.fst).map Value.ref := by
      clear ol heF kF
      generalize (as.zip kvs).mergeSort (PySem.W.dataLe false fun b => enc b.2) = L at pz oe
      induction pz with
      | nil => rfl
      | cons h t ih =>
        cases oe with
        | cons _ oe =>
          rw [List.map_cons, List.map_cons, ← ih oe, h.1]
    have ezk : ((as.zip kvs).mergeSort (PySem.W.dataLe false fun b => enc b.2)).map Prod.snd = kvs.mergeSort (PySem.W.dataLe false enc) := by
      have := List.map_mergeSort (r := PySem.W.dataLe false fun b : Addr × (List L2.Key × V) => enc b.2) (s := PySem.W.dataLe false enc) (f := Prod.snd) (l := as.zip kvs) (fun _ _ _ _ => rfl)
      rw [this, List.map_snd_zip (by omega)]
    have lz : (((as.zip kvs).mergeSort (PySem.W.dataLe false fun b => enc b.2)).map Prod.fst).length = kvs.length := by
      rw [List.length_map, List.length_mergeSort, List.length_zip]; omega
    have I3 : Inv X pins σ (upd H2 h'.objs.size (.lst ((((as.zip kvs).mergeSort (PySem.W.dataLe false fun b => enc b.2)).map Prod.fst).map V.ref))) { s with heap := sortedHeap h2 h'.objs.size (as.map Value.ref) out.toArray, toks := tk } := by
      refine I2.laid (t' := tk) kF (Nat.le_refl _) ⟨by rw [List.length_map, lz]; exact hL, out, eF, ?_, heF⟩
      rw [hout]
      exact vals_maps V.ref Value.ref _ fun _ _ => rfl
    have hn0 : H h'.objs.size = none := I.hok.fresh (Nat.le_of_lt hlt)
    have ne2 : ∀ b o, H2 b = some o → b ≠ h'.objs.size := fun b o e z => by
      have := I2.hok.fresh (Nat.le_refl h'.objs.size)
      rw [z, this] at e
      cases e
    have up : ∀ b o, H2 b = some o → upd H2 h'.objs.size (.lst ((((as.zip kvs).mergeSort (PySem.W.dataLe false fun b => enc b.2)).map Prod.fst).map V.ref)) b = some o := fun b o e => by rw [upd_ne (ne2 b o e)]; exact e
    refine ⟨.ref h'.objs.size, _, I3, rfl, q _ _ _ (fun b o e => up b o (g b o e)) upd_same ?_⟩
    rw [← ezk]
    have self : ∀ L : List (Addr × (List L2.Key × V)), (∀ b ∈ L, b ∈ as.zip kvs) → Paired (fun z (e : List L2.Key × V) => ∃ q, upd H2 h'.objs.size (.lst ((((as.zip kvs).mergeSort (PySem.W.dataLe false fun b => enc b.2)).map Prod.fst).map V.ref)) z = some (.tup [.ref q, e.2]) ∧ upd H2 h'.objs.size (.lst ((((as.zip kvs).mergeSort (PySem.W.dataLe false fun b => enc b.2)).map Prod.fst).map V.ref)) q = some (.tup (e.1.map kV))) (L.map Prod.fst) (L.map Prod.snd) := by
      intro L
      induction L with
      | nil => exact fun _ => .nil
      | cons b L ih =>
        intro hm
        refine .cons ?_ (ih fun b m => hm b (List.mem_cons_of_mem _ m))
        obtain ⟨j, hj⟩ := List.mem_iff_getElem?.mp (hm b List.mem_cons_self)
        obtain ⟨e1, e2⟩ := List.getElem?_zip_eq_some.mp hj
        obtain ⟨kq, h1, h2⟩ := at_ j _ _ e1 e2
        exact ⟨kq, up _ _ h1, up _ _ (g _ _ h2)⟩
    exact self _ fun b m => (List.mergeSort_perm _ _).mem_iff.mp m
end
theorem raw_lt {h : Heap} {d : Addr} {es : Array DictEntry} {ep : Nat} (x : h.DictRaw d es ep) : d < h.objs.size := let ⟨_, ho, _⟩ := x; Heap.lt_size ho
theorem kdl_rawd {prog : Program} {w : World} {d : Addr} {es : Array DictEntry} {ep : Nat} (lo : (d == sysModules) = false) : PySem.W.KdlSrc prog w "dict" d d es.size (fun i v => ∃ hi : i < es.size, v = es[i].key) (fun h => h.DictRaw d es ep) where
  type := fun _ hm => hm.typeIs
  there := fun _ hm => ⟨raw_lt hm, raw_lt hm⟩
  keep := fun _ _ hm hk => hm.at fun o e => hk d (.inl rfl) o e
  notList := by decide
  notTuple := by decide
  hint := fun _ _ _ _ hm hq => PySem.W.kdl_hint_dict hm.typeIs hq
  iter := fun _ _ hh hm => ⟨_, _, (fun _ _ hq => wpAny_pyIter_dict_raw lo hm hq), Walks.rawKeys hh _ d (Nat.ne_of_lt (raw_lt hm)) es ep, ⟨⟨_, Heap.get?_push_size _ rfl, rfl, rfl⟩, hm.at fun _ e => Heap.get?_push_of_some _ e⟩⟩
/-- the data of a dict's key -/
def keyT (e : List L2.Key × V) : PyData := .tuple (e.1.map keyD)
section
variable {X : Cx}
/-- sorted(d): the keys' own tuples -/
def rSortKT : List V → Hp → VK → Prop := fun vs H Q => ∃ (a : Addr) (kvs : List (List L2.Key × V)), vs = [.ref a] ∧ H a = some (.dT kvs) ∧ kvs.length ≤ 1000000 ∧ PySem.W.AllAlike (kvs.map keyT) ∧ (∀ e ∈ kvs, e.1 ≠ []) ∧
  ∀ (l : Addr) (zs : List Addr), H l = none → Paired (fun z (e : List L2.Key × V) => H z = some (.tup (e.1.map kV))) zs (kvs.mergeSort (PySem.W.dataLe false keyT)) → Q (.ref l) (upd H l (.lst (zs.map V.ref)))
theorem keyT_depth : ∀ k : List L2.Key, PyData.depthAll (k.map keyD) = 0
  | [] => rfl
  | .inl _ :: k => by simp [PyData.depthAll, keyD, PyData.depth, keyT_depth k]
  | .inr _ :: k => by simp [PyData.depthAll, keyD, PyData.depth, keyT_depth k]
theorem cr_sortKT (hc : X.calm = true) (hu : X.A.units + 64 < cLine) : CallR X (.builtin "sorted") rSortKT := by
  intro pins s σ H xs us Q I r h
  obtain ⟨a, kvs, rfl, ha, hlen, hal, hne, q⟩ := h
  obtain rfl := Vals.ref1 r
  obtain ⟨z, hsys, xs', rel, o, es, ep, ho, hx, hdat, hes, his, hn⟩ := dt_of I.hok ha
  have l1 : kvs.length = xs'.length := Paired.length rel
  have l2 : es.size = xs'.length := size_of_entries hes
  have hL : kvs.length ≤ sizeLine := by rw [sizeLine_eq]; omega
  refine PySem.Calls.call_function_entry PyProof.Rows.kind_sorted PyProof.Rows.plain_sorted PyProof.Rows.entry_sorted (PyProof.Rows.args_sorted1 _) ?_
  unfold Builtin.«sorted»
  refine wpAny_bind (m := checkCount "sorted" 1 1 _) (wpAny_pure ?_)
  refine wpAny_bind (PySem.W.kdu_collect (A := X.A.in1) (kdl_rawd (ep := ep) hsys) (I.ok.hd hc) ⟨o, ho, hx, hdat⟩ (by omega) fun h' tk acc hk hacc => ?_)
  have I1 : Inv X pins σ H { s with heap := h', toks := tk } := I.kept hk
  -- the keys
  have at_ : ∀ (j : Nat) (e : List L2.Key × V), kvs[j]? = some e → ∃ b, acc.toList[j]? = some (.ref b) ∧ H b = some (.tup (e.1.map kV)) := by
    intro j e he
    obtain ⟨x, hx2, _, r2, _⟩ := pairedGet rel he
    have hj : j < es.size := by rw [l2]; exact (List.getElem?_eq_some_iff.mp hx2).1
    have hj2 : j < acc.toList.length := by rw [Array.length_toList, hacc.1]; exact hj
    refine ⟨x.2.1, ?_, r2⟩
    obtain ⟨hi, e1⟩ := hacc.2 j (acc.toList[j]) (by rw [← Array.getElem?_toList]; exact List.getElem?_eq_getElem hj2)
    rw [List.getElem?_eq_getElem hj2, e1]
    have e2 := entry_at hes j
    rw [hx2, Array.getElem?_eq_getElem hi] at e2
    rw [Option.some.inj e2]
    rfl
  have lacc : acc.toList.length = kvs.length := by rw [Array.length_toList, hacc.1]; omega
  refine wpAny_bind (wpAny_newList ?_ (by rw [lacc]; exact hL))
  have hob : (h'.push (seqObj "list" acc.toList.toArray 0)).get? h'.objs.size = some (seqObj "list" acc.toList.toArray 0) := Heap.get?_push_size _ rfl
  have kp : ∀ b o, h'.get? b = some o → (h'.push (seqObj "list" acc.toList.toArray 0)).get? b = some o := fun b o e => Heap.get?_push_of_some _ e
  show wpAny _ _ _ _ _ { s with heap := h'.push (seqObj "list" acc.toList.toArray 0), toks := tk }
  generalize h'.push (seqObj "list" acc.toList.toArray 0) = h2 at hob kp ⊢
  refine wpAny_bind (wpAny_holding (PySem.W.list_sort_data (s := { s with heap := h2, toks := tk }) (R := fun v (e : List L2.Key × V) => ∃ b, v = .ref b ∧ H b = some (.tup (e.1.map kV))) (bs := kvs) (enc := keyT) hob ?_ ?_ hal ?_ hL (fun b m => ?_) fun out ol oe => ?_))
  · refine each_get lacc fun i v e hv he => ?_
    obtain ⟨b, h1, h2⟩ := at_ i e he
    rw [hv] at h1
    exact ⟨b, Option.some.inj h1, h2⟩
  · refine each_get lacc fun i v e hv he => ?_
    obtain ⟨b, h1, h2⟩ := at_ i e he
    rw [hv] at h1
    cases h1
    obtain ⟨as', r'⟩ := Dp.reads I1 (keyT e) (.ref b) (.ref b) (.tup (SqT.of h2) keyDp) rfl
    exact ⟨as', PySem.W.reads_keeps kp r', fun m => absurd (reads_lt r' _ m) (Nat.lt_irrefl _)⟩
  · refine .inl fun d m => ?_
    obtain ⟨e, he, rfl⟩ := List.mem_map.mp m
    cases h0 : e.1 with
    | nil => exact absurd h0 (hne e he)
    | cons k t => exact ⟨_, _, by unfold keyT; rw [h0]; rfl⟩
  · have : (keyT b).depth ≤ 1 := by
      unfold keyT
      simp only [PyData.depth, keyT_depth]
      omega
    show X.A.units + 1 + 1 + _ < _
    omega
  · obtain ⟨eF, heF⟩ := PyProof.Rows.sortedHeap_at (vs := acc.toList) (out := out.toArray) hob
    have kF : ∀ b o, h'.get? b = some o → (sortedHeap h2 h'.objs.size acc.toList out.toArray).get? b = some o := fun b o e => (PyProof.Rows.sortedHeap_old (Nat.ne_of_lt (Heap.lt_size e)) (Heap.lt_size (kp b o e))).trans (kp b o e)
    obtain ⟨zs, ez, pz⟩ : ∃ zs : List Addr, out = zs.map Value.ref ∧ Paired (fun z (e : List L2.Key × V) => H z = some (.tup (e.1.map kV))) zs (kvs.mergeSort (PySem.W.dataLe false keyT)) := by
      have pz := each_paired oe
      clear ol oe heF kF
      generalize kvs.mergeSort (PySem.W.dataLe false keyT) = L at pz
      induction pz with
      | nil => exact ⟨[], rfl, .nil⟩
      | cons h t ih =>
        obtain ⟨zs, e1, p1⟩ := ih
        obtain ⟨b, e2, h2⟩ := h
        exact ⟨b :: zs, by rw [List.map_cons, e2, e1], .cons h2 p1⟩
    refine wpAny_pure ⟨_, rfl, .ref h'.objs.size, upd H h'.objs.size (.lst (zs.map V.ref)), I1.laid (t' := tk) kF (Nat.le_refl _) ⟨?_, out, eF, ?_, heF⟩, rfl, q _ zs (I1.hok.fresh (Nat.le_refl _)) pz⟩
    · have := paired_len pz
      rw [List.length_mergeSort] at this
      rw [List.length_map, this]
      exact hL
    · rw [ez]
      exact vals_maps V.ref Value.ref _ fun _ _ => rfl
end
/-! ### what stands in the written part is not tracked -/
def KNone (K : PySem.W.Frag) (H : Hp) : Prop := ∀ a o, K.lookup a = some o → H a = none
def tKn (K : PySem.W.Frag) (ta : TA) : TA := fun σ H R => ta σ H fun vs H1 => KNone K H1 → R vs H1
theorem knone_of {X : Cx} {pins : List (Addr × Obj)} {σ : L2.St} {H : Hp} {s : Shared} (I : Inv X pins σ H s) : KNone X.K H := fun a o e => (I.bs a o (I.mod.kin a o e)).2
theorem paK {X : Cx} {es : List Expr} {ta : TA} (h : PA X es ta) : PA X es (tKn X.K ta) :=
  ⟨fun pos pins s σ H R I q => thn (h.run pos pins s σ H _ I q) fun us s1 ⟨vs, H1, I1, r1, q1⟩ => ⟨vs, H1, I1, r1, q1 (knone_of I1)⟩⟩
/-- isinstance, len, [..] of an address: what is tracked, and else what is written -/
def dIsiN (K : PySem.W.Frag) : List V → Hp → VK → Prop := fun xs H Q => match xs with
  | [.ref a, .ty t] => match H a with
    | some _ => dIsi [.ref a, .ty t] H Q
    | none => rIsi K [.ref a, .ty t] H Q
  | _ => dIsi xs H Q
def dLenN (K : PySem.W.Frag) : List V → Hp → VK → Prop := fun xs H Q => match xs with
  | [.ref a] => match H a with
    | some _ => dLen [.ref a] H Q
    | none => uLen K [.ref a] H Q
  | _ => dLen xs H Q
def dIxN (K : PySem.W.Frag) : R2 := fun x y H Q => match x with
  | .ref a => match H a with
    | some _ => dIx (.ref a) y H Q
    | none => rIx K (.ref a) y H Q
  | _ => dIx x y H Q
section
variable {X : Cx}
theorem d_isiN : CallR X (.builtin "isinstance") (dIsiN X.K) := by
  intro pins s σ H xs us Q I r h
  unfold dIsiN at h
  split at h
  · split at h
    · exact d_isi pins s σ H _ us Q I r h
    · exact call_isi pins s σ H _ us Q I r h
  · exact d_isi pins s σ H _ us Q I r h
theorem d_lenN : CallR X (.builtin "len") (dLenN X.K) := by
  intro pins s σ H xs us Q I r h
  unfold dLenN at h
  split at h
  · split at h
    · exact d_len pins s σ H _ us Q I r h
    · exact u_len pins s σ H _ us Q I r h
  · exact d_len pins s σ H _ us Q I r h
theorem d_ixN : IxR X (dIxN X.K) := by
  intro value slice pins s σ H x y v u Q I rx ry h hs
  unfold dIxN at h
  split at h
  · split at h
    · exact d_ix value slice pins s σ H _ y v u Q I rx ry h hs
    · exact ix_seq value slice pins s σ H _ y v u Q I rx ry h hs
  · exact d_ix value slice pins s σ H _ y v u Q I rx ry h hs
def dIsiK (K : PySem.W.Frag) : List V → Hp → VK → Prop := fun xs H Q => KNone K H → dIsiN K xs H Q
def dLenK (K : PySem.W.Frag) : List V → Hp → VK → Prop := fun xs H Q => KNone K H → dLenN K xs H Q
def dIxK (K : PySem.W.Frag) : R2 := fun x y H Q => KNone K H → dIxN K x y H Q
theorem d_isiK : CallR X (.builtin "isinstance") (dIsiK X.K) := fun pins s σ H xs us Q I r h => d_isiN pins s σ H xs us Q I r (h (knone_of I))
theorem d_lenK : CallR X (.builtin "len") (dLenK X.K) := fun pins s σ H xs us Q I r h => d_lenN pins s σ H xs us Q I r (h (knone_of I))
theorem d_ixK : IxR X (dIxK X.K) := fun value slice pins s σ H x y v u Q I rx ry h hs => d_ixN value slice pins s σ H x y v u Q I rx ry (h (knone_of I)) hs
def rLenK : List V → Hp → VK → Prop := fun xs H Q => ∃ (p : Addr) (kvs : List (L2.Key × V)), xs = [.ref p] ∧ H p = some (.dK kvs) ∧ Q (.int ((kvs.length : Nat) : Int)) H
theorem cr_lenK : CallR X (.builtin "len") rLenK := by
  intro pins s σ H xs us Q I r h
  obtain ⟨p, kvs, rfl, hp, q⟩ := h
  rw [Vals.ref1 r]
  exact L2.d_len I (.inl hp) fun t s' I' => ⟨.int ((kvs.length : Nat) : Int), H, I', ⟨t, rfl⟩, q⟩
end
/-! ### generator expressions in all(..), any(..): the element may call defs -/
abbrev gxE (elt tg iter : Expr) (ifs : List Expr) (scope : Scope) (pos : Pos) : Expr := .GeneratorExp elt [⟨tg, iter, ifs, 0⟩] scope pos
theorem over_gxL {A : Around} {elt tg iter : Expr} {ifs : List Expr} {scope : Scope} {pos : Pos} {it acc : Value} {env : Env} : A.over (.compLoop (gxE elt tg iter ifs scope pos) 0 it acc env) [] = A.deeper env := by
  first
    | rfl
    | (obtain ⟨hd, d, fr, gs, u⟩ := A; cases fr <;> cases gs <;> simp [Around.over, Around.deeper, marksOver, frameCount, unitsOf, envsOf, guardsOf, pushEnvs, pushGuards, Code.envs, Code.env?, Code.isFrame, Code.guards, Code.isGuard, Code.weight, Code.frames, Code.isCreation, Code.isCaller, Code.cUnits])
theorem over_gxS {A : Around} {elt tg iter : Expr} {ifs : List Expr} {scope : Scope} {pos : Pos} {it acc : Value} {env : Env} : A.over (.compStart (gxE elt tg iter ifs scope pos) 0 it acc env) [] = A.deeper env := by
  first
    | rfl
    | (obtain ⟨hd, d, fr, gs, u⟩ := A; cases fr <;> cases gs <;> simp [Around.over, Around.deeper, marksOver, frameCount, unitsOf, envsOf, guardsOf, pushEnvs, pushGuards, Code.envs, Code.env?, Code.isFrame, Code.guards, Code.isGuard, Code.weight, Code.frames, Code.isCreation, Code.isCaller, Code.cUnits])
/-- the context of a generator expression's frame: it is made at s, its iterator's objects at fp -/
abbrev gxp (X : Cx) (s : Shared) (H : Hp) (cenv : Env) (fp : List Addr) : Cx := { X with A := X.A.in1.in1.deeper cenv, s_0 := s, H_0 := H, env := cenv, outer := X.stack, stack := cenv :: X.stack, ex := fp, fn := fun _ => false, pn := [], xe := fun _ _ => False }
abbrev gxEnv (X : Cx) (scope : Scope) (C : Addr) (code : Value) : Env := genEnv scope (cloFrom X.env.cells scope.names []) C code builtinsNs X.env
/-- the scope of a generator expression -/
structure GxOk (N : List Str) (sc scope : Scope) (own : List (Str × Nat)) : Prop where
  blk : BlkOk N sc scope own
  co : scope.isCoroutine = false
  nocell : ∀ y ∈ scope.names, y.2 ≠ .cell
  dot : scope.names.lookup (".0" : Str) = some NameKind.local
theorem gx_start {X : Cx} {pins : List (Addr × Obj)} {σ : L2.St} {H : Hp} {s : Shared} {scope : Scope} {own : List (Str × Nat)} {fp : List Addr} {code : Value} {h' : Heap} {g' : Array GenState} {t' : Nat} (I : Inv X pins σ H s) (ok : GxOk X.N X.env.scope scope own) (hN : X.N.Nodup) (hfp : ∀ b ∈ fp, FpOk X pins H b ∧ b < s.heap.objs.size)
    (kp : ∀ b o, s.heap.get? b = some o → h'.get? b = some o) (hns : ∃ m, h'.Ns s.heap.objs.size m) (hg : AllBare g') :
    Inv (gxp X s H (gxEnv X scope s.heap.objs.size code) fp) [] (wipe σ (own.map (·.2))) H { s with heap := h', gens := g', toks := t' } := by
  have hfree : ∀ y ∈ scope.names, y.2 = .free → ∃ c, X.env.cells.lookup y.1 = some c := fun y hy e => by
    rcases ok.blk.free y hy e with k | k
    · exact I.ok.has _ (.inl k)
    · exact I.ok.has _ (.inr k)
  generalize hcenv : gxEnv X scope s.heap.objs.size code = cenv
  have hL : cenv.locals = s.heap.objs.size := by rw [← hcenv]; rfl
  have hcl : cenv.cells = cloFrom X.env.cells scope.names [] := by rw [← hcenv]; rfl
  have hsc : cenv.scope = scope := by rw [← hcenv]; rfl
  have cm : ∀ {y c}, (y, c) ∈ cloFrom X.env.cells scope.names [] → X.env.cells.lookup y = some c ∧ c < s.heap.objs.size := fun {y c} hm => by
    rcases cloFrom_mem hm with hm | ⟨h1, rfl⟩
    · cases hm
    · obtain ⟨c, hc⟩ := hfree _ h1 rfl
      rw [hc]
      obtain ⟨w, z⟩ := I.cell _ _ hc
      exact ⟨rfl, z.lt⟩
  have mem : ∀ {y c}, cenv.cells.lookup y = some c → X.env.cells.lookup y = some c ∧ c < s.heap.objs.size := fun {y c} e => by
    rw [hcl] at e
    exact cm (PySem.mem_of_lookup e)
  have look : ∀ {y}, scope.names.lookup y = some .free → ∃ c, cenv.cells.lookup y = some c ∧ X.env.cells.lookup y = some c := fun {y} hl => by
    have hy : (y, NameKind.free) ∈ scope.names := PySem.mem_of_lookup hl
    obtain ⟨c', e'⟩ := mem_lookup (cloFrom_has (cells := X.env.cells) (acc := []) hy)
    refine ⟨c', by rw [hcl]; exact e', (cm (PySem.mem_of_lookup e')).1⟩
  have okB : (gxp X s H cenv fp).Ok := by
    refine ⟨I.ok.mod, by show cenv.scope.kind = _; rw [hsc]; exact ok.blk.kind, by show cenv.globals = _; rw [← hcenv]; exact I.ok.glob, by show cenv.builtins = _; rw [← hcenv]; rfl, by show s.heap.objs.size ≤ cenv.locals; rw [hL]; exact Nat.le_refl _,
      fun y z c e1 e2 => I.ok.inj y z c (mem e1).1 (mem e2).1, fun y hy => ?_, fun y c z e => (by cases z), I.ok.hd, ?_, .inr ⟨rfl, by rw [← hcenv]; rfl⟩, fun b hb => ⟨?_, fun y c e z => ?_⟩, I.bs, Nat.le_trans I.ok.bsz I.sz, fun b o e hb => ?_, fun b hb z => ?_, I.stack, I.stkFree⟩
    · show ∃ c, cenv.cells.lookup y = some c
      have key : ∀ k, scope.names.lookup y = some k → (k = .cell ∨ k = .free) → ∃ c, cenv.cells.lookup y = some c := fun k e hk' => by
        rcases hk' with rfl | rfl
        · exact absurd rfl (ok.nocell _ (PySem.mem_of_lookup e))
        · obtain ⟨c, h1, _⟩ := look e
          exact ⟨c, h1⟩
      have kf : cenv.kindOf y = scope.names.lookup y := by unfold Env.kindOf; rw [hsc]
      rcases hy with hy | hy
      · have hy : cenv.kindOf y = some .cell := hy
        rw [kf] at hy
        exact key _ hy (.inl rfl)
      · have hy : cenv.kindOf y = some .free := hy
        rw [kf] at hy
        exact key _ hy (.inr rfl)
    · show (X.A.in1.in1.deeper cenv).frames = some (cenv :: X.stack)
      show Option.map (fun x => cenv :: x) X.A.frames = _
      rw [I.ok.frames]
      rfl
    · show b ≠ cenv.locals
      rw [hL]; exact Nat.ne_of_lt (hfp b hb).2
    · exact (hfp b hb).1.2.2.2.2.1 y c (mem e).1 z
    · rcases (hfp b hb).1.2.2.2.1 with z | z
      · exact I.ok.noex b o e z
      · exact absurd (Nat.lt_of_lt_of_le (Heap.lt_size e) (Nat.le_trans I.ok.bsz z)) (Nat.lt_irrefl _)
    · rcases List.mem_cons.mp (I.stkSub b z) with z | z
      · exact (hfp b hb).1.2.1 z
      · exact (hfp b hb).1.2.2.1 z
  refine ⟨okB, rfl, hg, Un.kept kp, ⟨hns.choose, ?_, fun i y av e1 e2 e3 => ?_⟩, fun y c e => ?_, ?_, fun y c e => ?_, fun p hp => ?_, I.hok.kept kp, by rw [wipe_length]; exact I.len⟩
  · show Heap.Ns _ cenv.locals _
    rw [hL]
    exact hns.choose_spec
  · obtain ⟨e2, hne⟩ := wipe_some e2
    have e3 : Vis cenv.scope y := e3
    rw [hsc] at e3
    have hfr : scope.names.lookup y = some .free := by
      have no : ∀ k, scope.names.lookup y = some k → ¬ (k = .local ∨ k = .cell) := fun k e hh => by
        rcases ok.blk.own _ (PySem.mem_of_lookup e) hh with e' | e'
        · obtain ⟨p, hp, hpy⟩ := List.mem_map.mp e'
          have e3 := ok.blk.ix p hp
          have : p.1 = y := hpy
          rw [this] at e3
          exact hne (List.mem_map.mpr ⟨p, hp, L2.nodup_ix hN e3 e1⟩)
        · exact e' (List.mem_of_getElem? e1)
      rcases e3 with e3 | e3 | e3
      · exact absurd (.inl rfl) (no _ e3)
      · exact absurd (.inr rfl) (no _ e3)
      · exact e3
    obtain ⟨m, hn, hl⟩ := I.loc
    have hvis : Vis X.env.scope y := (ok.blk.free _ (PySem.mem_of_lookup hfr) rfl).elim (fun k => .inr (.inl k)) (fun k => .inr (.inr k))
    obtain ⟨w, r, q⟩ := hl i y av e1 e2 hvis
    refine ⟨w, r, .inr ⟨.inr (by show cenv.kindOf y = _; unfold Env.kindOf; rw [hsc]; exact hfr), ?_⟩⟩
    obtain ⟨c, h1, h2⟩ := look hfr
    rcases q with ⟨k, _⟩ | ⟨_, c', e', z⟩
    · have k : X.env.scope.names.lookup y = some .local := k
      rcases ok.blk.free _ (PySem.mem_of_lookup hfr) rfl with k' | k' <;> rw [show X.env.scope.names.lookup y = _ from k'] at k <;> cases k
    · rw [h2] at e'; cases e'
      exact ⟨c, h1, z.keeps kp⟩
  · have e : cenv.cells.lookup y = some c := e
    obtain ⟨w, z⟩ := I.cell y c (mem e).1
    exact ⟨w, z.keeps kp⟩
  · show H cenv.locals = none
    rw [hL]; exact I.hok.fresh (Nat.le_refl _)
  · have e : cenv.cells.lookup y = some c := e
    exact I.freeC y c (mem e).1
  · exact absurd (show p ∈ ([] : List (Addr × Obj)) ++ [] from hp) (by simp)
/-- the generator's object stands, no one else's generator is torn -/
structure GxGood (a : Addr) (g : Nat) (s : Shared) : Prop where
  gen : s.heap.IsGen a g
  lim : s.heap.NoLimit
  bare : AllBare s.gens
  lt : g < s.gens.size
/-- what is wanted at the end: the answer b -/
def GxFin (Y : Cx) (pn : List (Addr × Obj)) (Q : VK) (b : Bool) (s : Shared) : Prop := ∃ σ H, Inv Y pn σ H s ∧ Q (.bl b) H
/-- kd ends the walk -/
def gxY (kd : Bool) (Fin : Bool → Shared → Prop) (a : Addr) (g : Nat) : Protocol := fun _ _ v s kap => ∃ b, v = .bool b ∧ GxGood a g s ∧ (b = kd → Fin kd s) ∧ (b ≠ kd → ∀ G' : Array GenState, AllBare G' → g < G'.size → kap (.send .none) { s with gens := G' })
def gxP (kd : Bool) (Fin : Bool → Shared → Prop) (a : Addr) (g : Nat) : Nat → Shared → Shared → Prop := fun _ _ s => GxGood a g s ∧ Fin (!kd) s
theorem gens_inv {Y : Cx} {pins : List (Addr × Obj)} {σ : L2.St} {H : Hp} {s : Shared} {G' : Array GenState} (I : Inv Y pins σ H s) (h : AllBare G') : Inv Y pins σ H { s with gens := G' } := ⟨I.ok, I.os, h, I.base, I.loc, I.cell, I.free, I.freeC, I.pin, I.hok, I.len⟩
/-- a generator's object, as it is made -/
def GenObjOk (oa : Obj) (g : Nat) : Prop := oa.cls = .type "generator" ∧ (∃ nm qn, oa.data = .fields #[.int g 0, nm, qn]) ∧ oa.slots = #[]
theorem gx_good {Y : Cx} {a : Addr} {oa : Obj} {g : Nat} {ps : List (Addr × Obj)} {σ : L2.St} {H : Hp} {s : Shared} (ho : GenObjOk oa g) (I : Inv Y ((a, oa) :: ps) σ H s) (hg : g < s.gens.size) : GxGood a g s := by
  obtain ⟨h1, ⟨nm, qn, h2⟩, h3⟩ := ho
  exact ⟨⟨oa, nm, qn, (I.pin (a, oa) (List.mem_append_right _ List.mem_cons_self)).1, h1, h2, h3⟩, I.nolimit, I.bare, hg⟩
/-- the reading of the walk: W by the turn and a measure -/
def GxJ (kd : Bool) (J : It) (gt : TG) (tt : TT) (te : TE) (vs : List Nat) (σ0 : L2.St) (Q : VK) (W : Nat → Nat → Hp → Prop) : Prop := ∀ i m H, W i m H →
  (J.stop i H ∧ Q (.bl (!kd)) H) ∨ (J.go i H ∧ ∃ Nx : Hp → Prop, (∀ H', Nx H' → ∃ m', m' < m ∧ W (i + 1) m' H') ∧ ∀ x H', J.yld i H x H' → gt x σ0 H' fun σ2 H2 => wipe σ2 vs = σ0 ∧ tt σ2 H2 fun b H3 =>
    if b = true then te σ2 H3 fun y H4 => ∃ k : Bool, y = .bl k ∧ if k = kd then Q (.bl kd) H4 else Nx H4 else Nx H3)
theorem seg_gx {Y : Cx} {A : Around} {elt tg iter : Expr} {ifs : List Expr} {scope : Scope} {pos : Pos} {a it : Addr} {oa : Obj} {g : Nat} {fp : List Addr} {tn : Nat → Heap → Prop} {J : It} {gt : TG} {tt : TT} {te : TE} {vs : List Nat} {σ0 : L2.St} {Q : VK} {W : Nat → Nat → Hp → Prop} {kd : Bool}
    (hA : Y.A = A.deeper Y.env) (hxe : ∀ e s, ¬ Y.xe e s) (hc : Y.calm = true) (hco : Y.env.scope.isCoroutine = false) (hoa : GenObjOk oa g) (T : Turn Y.prog Y.w Y.K tg J fp it tn)
    (stat : ∀ {σ : L2.St} {H : Hp} {s : Shared}, Inv Y [(a, oa)] σ H s → (∀ b ∈ fp, H b = none) → ∀ b ∈ fp, FpOk Y [(a, oa)] H b) (hσ : wipe σ0 vs = σ0 ∨ True) (pg : PG Y tg gt) (pt : PTs Y ifs tt) (pe : PE Y elt te) (turn : GxJ kd J gt tt te vs σ0 Q W)
    (hwl : ∀ σ2, wipe σ2 vs = σ0 → σ0.length = σ2.length ∧ ∀ (j : Nat) v, σ0[j]? = some (some v) → σ2[j]? = some (some v)) :
    ∀ (m i : Nat) (H : Hp) (n : Nat) (s₀ s : Shared), m < n → Inv Y [(a, oa)] σ0 H s → tn i s.heap → (∀ b ∈ fp, H b = none) → W i m H → g < s.gens.size →
      Seg (model Y.prog Y.w) A (fun n s₀ r s₁ => r = .ok .next ∧ gxP kd (GxFin Y [(a, oa)] Q) a g n s₀ s₁) (gxY kd (GxFin Y [(a, oa)] Q) a g) n s₀ (.compLoop (gxE elt tg iter ifs scope pos) 0 (.ref it) .none Y.env) ((model Y.prog Y.w).den (.compLoop (gxE elt tg iter ifs scope pos) 0 (.ref it) .none Y.env)) [] s := by
  intro m
  induction m using Nat.strongRecOn with
  | _ m ih =>
    intro i H n s₀ s hmn I st nfp w hgs
    obtain ⟨n, rfl⟩ : ∃ k, n = k + 1 := ⟨n - 1, by omega⟩
    show Seg _ A _ _ _ s₀ _ ((compTurn (gxE elt tg iter ifs scope pos) 0 (.ref it) .none Y.env).onRaise (leaving Y.env)) [] s
    rw [compTurn_gen, Sem.onRaise_eq_wrap]
    refine seg_bind_wrap (wpAny_standAt ?_)
    rcases turn i m H w with ⟨stop, q⟩ | ⟨go, Nx, hNx, step⟩
    · refine seg_bind_wrap ?_
      rw [over_gxL, ← hA]
      refine GenW.wpAny_gsz (n := g + 1) hgs ?_
      refine thnF (T.done Y rfl rfl rfl hc i [(a, oa)] s σ0 H (fun _ _ => False) I (stat I nfp) st stop) fun r s6 ⟨hr, I6⟩ hg6 => ?_
      subst hr
      exact seg_end (.ok .next) ⟨rfl, gx_good hoa I6 hg6, σ0, H, I6, q⟩
    · refine seg_bind_wrap ?_
      rw [over_gxL, ← hA]
      refine GenW.wpAny_gsz (n := g + 1) hgs ?_
      refine thnF (T.item Y rfl rfl rfl hc i [(a, oa)] s σ0 H (fun _ _ => False) I (stat I nfp) st go) fun r s6 ⟨u, hr, h6⟩ hg6 => ?_
      subst hr
      refine seg_bind_wrap ?_
      rw [over_gxL, ← hA]
      refine GenW.wpAny_gsz (n := g + 1) hg6 ?_
      refine thnF h6 fun _ s7 ⟨x, H7, I7, r7, y7, st7, n7⟩ hg7 => ?_
      have I7' := I7.pinned (stat I7 n7) (T.obj _ _ st7)
      refine seg_bind_wrap ?_
      rw [over_gxL, ← hA]
      refine GenW.wpAny_gsz (n := g + 1) hg7 ?_
      refine wpAny_mono (pg.run _ s7 _ H7 x u _ I7' r7 (step x H7 y7)) (fun _ s8 ⟨σ8, H8, I8, hw8, q8⟩ hg8 => ?_) fun e s' z => (hxe e s' z).elim
      refine seg_bind_wrap ?_
      rw [over_gxL, ← hA]
      refine GenW.wpAny_gsz (n := g + 1) hg8 ?_
      refine wpAny_mono (pt.run _ s8 σ8 H8 _ I8 q8) (fun b s9 ⟨H9, I9, q9⟩ hg9 => ?_) fun e s' z => (hxe e s' z).elim
      have fin : ∀ {s' : Shared} {H' : Hp} {n' : Nat} (s₀' : Shared), Inv Y ([(a, oa)] ++ pinsAt fp s7.heap) σ8 H' s' → Nx H' → m < n' + 1 → g < s'.gens.size → (∀ m', m' < m → m' < n' → True) →
          ∃ m', m' < m ∧ Inv Y [(a, oa)] σ0 H' s' ∧ tn (i + 1) s'.heap ∧ (∀ b ∈ fp, H' b = none) ∧ W (i + 1) m' H' := fun {s' H' n'} _ I' nx _ _ _ => by
        obtain ⟨m', hm, w'⟩ := hNx H' nx
        have pin' : ∀ b ∈ fp, ∀ o, s7.heap.get? b = some o → s'.heap.get? b = some o ∧ H' b = none := fun b hb o e =>
          let z := I'.pin (b, o) (List.mem_append_right _ (List.mem_append_right _ (mem_pinsAt hb e)))
          ⟨z.1, z.2.1⟩
        obtain ⟨hl, hw⟩ := hwl σ8 hw8
        refine ⟨m', hm, (I'.unpinned (pins := [(a, oa)])).weak hl hw, T.keep _ _ _ st7 fun b hb o e => (pin' b hb o e).1, fun b hb => ?_, w'⟩
        obtain ⟨o, e, _⟩ := T.obj _ _ st7 b hb
        exact (pin' b hb o e).2
      cases b with
      | false =>
        simp only [Bool.false_eq_true, if_false] at q9 ⊢
        obtain ⟨m', hm, I', st', n', w'⟩ := fin (n' := n) s₀ I9 q9 (by omega) hg9 (fun _ _ _ => trivial)
        exact seg_again rfl (ih m' hm (i + 1) H9 (n + 1) s₀ s9 (by omega) I' st' n' w' hg9)
      | true =>
        simp only [if_true] at q9 ⊢
        have hy : ∀ v, yieldOut Y.env v = yieldValue v := fun v => by simp only [yieldOut, hco, Bool.false_eq_true, if_false]
        simp only [hy]
        rw [Sem.bind_eq_wrap', Sem.bind_eq_wrap', Sem.wrap_wrap, Sem.wrap_wrap]
        refine seg_wrap ?_
        rw [over_gxL, ← hA]
        refine GenW.wpAny_gsz (n := g + 1) hg9 ?_
        refine wpAny_mono (pe.run _ s9 σ8 H9 _ I9 q9) (fun z s10 ⟨yv, H10, I10, r10, k, ek, qk⟩ hg10 => ?_) fun e s' z => (hxe e s' z).elim
        subst ek
        obtain rfl : z = Value.bool k := r10
        have I10' : Inv Y [(a, oa)] σ8 H10 s10 := I10.unpinned (pins := [(a, oa)])
        refine seg_at (seg_yield rfl rfl rfl ⟨k, rfl, gx_good hoa I10' hg10, fun e => ?_, fun e G' hG hgG => ?_⟩)
        · rw [if_pos e] at qk
          exact ⟨σ8, H10, I10', qk⟩
        · rw [if_neg e] at qk
          obtain ⟨m', hm, I', st', n', w'⟩ := fin (n' := n) s₀ I10 qk (by omega) hg10 (fun _ _ _ => trivial)
          exact seg_again rfl (ih m' hm (i + 1) H10 n _ _ (by omega) (gens_inv I' hG) st' n' w' hgG)
theorem AllBare_set {G : Array GenState} {g : Nat} {x : GenState} (h : AllBare G) (hx : x.bare = true) : AllBare (G.setIfInBounds g x) := fun y hy => by
  obtain ⟨i, hi, rfl⟩ := Array.mem_iff_getElem.mp hy
  rw [Array.getElem_setIfInBounds (by simpa using hi)]
  split
  · exact hx
  · exact h _ (Array.getElem_mem _)
theorem setGen_get {s : Shared} {g : Nat} {x : GenState} (h : g < s.gens.size) : (s.setGen g x).gens[g]? = some x := by
  simp [Shared.setGen, h]
section
variable {Y : Cx} {A0 : Around} {a : Addr} {oa : Obj} {g : Nat} {Q : VK} {kd : Bool}
/-- the generator sleeps, n turns left -/
def GxReady (Y : Cx) (A0 : Around) (a : Addr) (oa : Obj) (g : Nat) (kd : Bool) (Q : VK) (n : Nat) (s : Shared) : Prop := GxGood a g s ∧ ∃ gs, s.gens[g]? = some gs ∧ ∀ G' : Array GenState, AllBare G' → g < G'.size →
  gs.Goes (model Y.prog Y.w) A0.in1.in1 (fun n s₀ r s₁ => r = .ok .next ∧ gxP kd (GxFin Y [(a, oa)] Q) a g n s₀ s₁) (gxY kd (GxFin Y [(a, oa)] Q) a g) n (.send .none) { s with gens := G' }
theorem gx_next {E : Value → Shared → Prop} {Qn : Option Value → Shared → Prop} {n : Nat} {s : Shared} (hh : A0.handled = none) (hroom : A0.depth < recursionLimit) (h : GxReady Y A0 a oa g kd Q n s)
    (hsome : ∀ b s', GxGood a g s' → (b = kd → GxFin Y [(a, oa)] Q kd s') → (b ≠ kd → ∃ m, n = m + 1 ∧ GxReady Y A0 a oa g kd Q m s') → Qn (some (.bool b)) s') (hnone : ∀ s', GxFin Y [(a, oa)] Q (!kd) s' → Qn none s') :
    wpAny (model Y.prog Y.w) A0.in1 (pyNext (.ref a)) Qn E s := by
  obtain ⟨good, gs, hgs, hgo⟩ := h
  have hb0 : AllBare (s.setGen g .running).gens := AllBare_set good.bare rfl
  have hl0 : g < (s.setGen g .running).gens.size := by show g < (s.gens.setIfInBounds g _).size; rw [Array.size_setIfInBounds]; exact good.lt
  refine wpAny_pyNext_genexpQ (P := gxP kd (GxFin Y [(a, oa)] Q) a g) hh good.lim hroom good.gen hgs (hgo _ hb0 hl0) (fun v s₁ gs' hb hv => ?_) (fun s₁ hp h' hk => ?_)
  · obtain ⟨b, rfl, good1, e1, e2⟩ := hv
    have good2 : GxGood a g (s₁.setGen g gs') := ⟨good1.gen, good1.lim, AllBare_set good1.bare hb, by show g < (s₁.gens.setIfInBounds g _).size; rw [Array.size_setIfInBounds]; exact good1.lt⟩
    refine hsome b _ good2 (fun e => ?_) fun e => ?_
    · obtain ⟨σ, H, I, q⟩ := e1 e
      exact ⟨σ, H, gens_inv I (AllBare_set good1.bare hb), q⟩
    · cases n with
      | zero => exact (e2 e s₁.gens good1.bare good1.lt).elim
      | succ m => exact ⟨m, rfl, good2, gs', setGen_get good1.lt, fun G' hG hgG => e2 e G' hG hgG⟩
  · obtain ⟨good1, σ, H, I, q⟩ := hp
    exact hnone _ ⟨σ, H, gens_inv (I.kept (t' := s₁.toks) hk) (AllBare_set good1.bare rfl), q⟩
theorem loop_all (hh : A0.handled = none) (hroom : A0.depth < recursionLimit) : ∀ (n : Nat) (s : Shared), GxReady Y A0 a oa g false Q n s → codeAny (model Y.prog Y.w) A0 (.builtin "all.loop" ⟨[.ref a], []⟩) (fun r s' => ∃ b, r = .ok (.ret (.bool b)) ∧ GxFin Y [(a, oa)] Q b s') s := by
  intro n
  induction n with
  | zero =>
    intro s h
    refine codeAny_builtin F.entry_all_loop ?_
    rw [Around.under_plainId F.plain_all_loop _]
    show wpAny _ A0.in1 (pyNext (.ref a) >>= _) _ _ s
    refine wpAny_bind (gx_next hh hroom h (fun b s' _ e1 e2 => ?_) fun s' hf => wpAny_bind (wpAny_rule (wpAny_pure ⟨_, rfl, hf⟩)))
    refine wpAny_bind (wpAny_holding (wpAny_truthy_bool (wpAny_bind (wpAny_letGo ?_))))
    cases b with
    | true => obtain ⟨m, e, _⟩ := e2 (by decide); cases e
    | false =>
      simp only [Bool.false_eq_true, if_false]
      exact wpAny_bind (wpAny_rule (wpAny_pure ⟨_, rfl, e1 rfl⟩))
  | succ n ih =>
    intro s h
    refine codeAny_builtin F.entry_all_loop ?_
    rw [Around.under_plainId F.plain_all_loop _]
    show wpAny _ A0.in1 (pyNext (.ref a) >>= _) _ _ s
    refine wpAny_bind (gx_next hh hroom h (fun b s' _ e1 e2 => ?_) fun s' hf => wpAny_bind (wpAny_rule (wpAny_pure ⟨_, rfl, hf⟩)))
    refine wpAny_bind (wpAny_holding (wpAny_truthy_bool (wpAny_bind (wpAny_letGo ?_))))
    cases b with
    | true =>
      obtain ⟨m, e, hr⟩ := e2 (by decide)
      obtain rfl : n = m := by omega
      simp only [if_true]
      exact wpAny_pure ⟨plainId_quiet F.plain_all_loop _, ih _ hr⟩
    | false =>
      simp only [Bool.false_eq_true, if_false]
      exact wpAny_bind (wpAny_rule (wpAny_pure ⟨_, rfl, e1 rfl⟩))
theorem loop_any (hh : A0.handled = none) (hroom : A0.depth < recursionLimit) : ∀ (n : Nat) (s : Shared), GxReady Y A0 a oa g true Q n s → codeAny (model Y.prog Y.w) A0 (.builtin "any.loop" ⟨[.ref a], []⟩) (fun r s' => ∃ b, r = .ok (.ret (.bool b)) ∧ GxFin Y [(a, oa)] Q b s') s := by
  intro n
  induction n with
  | zero =>
    intro s h
    refine codeAny_builtin F.entry_any_loop ?_
    rw [Around.under_plainId F.plain_any_loop _]
    show wpAny _ A0.in1 (pyNext (.ref a) >>= _) _ _ s
    refine wpAny_bind (gx_next hh hroom h (fun b s' _ e1 e2 => ?_) fun s' hf => wpAny_bind (wpAny_rule (wpAny_pure ⟨_, rfl, hf⟩)))
    refine wpAny_bind (wpAny_holding (wpAny_truthy_bool (wpAny_bind (wpAny_letGo ?_))))
    cases b with
    | false => obtain ⟨m, e, _⟩ := e2 (by decide); cases e
    | true =>
      simp only [if_true]
      exact wpAny_bind (wpAny_rule (wpAny_pure ⟨_, rfl, e1 rfl⟩))
  | succ n ih =>
    intro s h
    refine codeAny_builtin F.entry_any_loop ?_
    rw [Around.under_plainId F.plain_any_loop _]
    show wpAny _ A0.in1 (pyNext (.ref a) >>= _) _ _ s
    refine wpAny_bind (gx_next hh hroom h (fun b s' _ e1 e2 => ?_) fun s' hf => wpAny_bind (wpAny_rule (wpAny_pure ⟨_, rfl, hf⟩)))
    refine wpAny_bind (wpAny_holding (wpAny_truthy_bool (wpAny_bind (wpAny_letGo ?_))))
    cases b with
    | false =>
      obtain ⟨m, e, hr⟩ := e2 (by decide)
      obtain rfl : n = m := by omega
      simp only [Bool.false_eq_true, if_false]
      exact wpAny_pure ⟨plainId_quiet F.plain_any_loop _, ih _ hr⟩
    | true =>
      simp only [if_true]
      exact wpAny_bind (wpAny_rule (wpAny_pure ⟨_, rfl, e1 rfl⟩))
end
theorem seg_gxStart {prog : Program} {w : World} {A : Around} {R : GenEnd} {Yp : Protocol} {n : Nat} {s₀ s : Shared} {elt tg iter : Expr} {ifs : List Expr} {scope : Scope} {pos : Pos} {it : Addr} {cenv : Env}
    (self : ∀ (A : Around) (Q : Value → Shared → Prop) (E : Value → Shared → Prop), Q (.ref it) s → wpAny (model prog w) A (pyIter (.ref it)) Q E s)
    (loop : Seg (model prog w) A R Yp n s₀ (.compLoop (gxE elt tg iter ifs scope pos) 0 (.ref it) .none cenv) ((model prog w).den (.compLoop (gxE elt tg iter ifs scope pos) 0 (.ref it) .none cenv)) [] s) :
    Seg (model prog w) A R Yp n s₀ (.compStart (gxE elt tg iter ifs scope pos) 0 (.ref it) .none cenv) ((model prog w).den (.compStart (gxE elt tg iter ifs scope pos) 0 (.ref it) .none cenv)) [] s := by
  show Seg _ A _ _ _ s₀ _ ((compStart (gxE elt tg iter ifs scope pos) 0 (.ref it) .none cenv).onRaise (leaving cenv)) [] s
  unfold compStart
  rw [Sem.onRaise_eq_wrap]
  show Seg _ A _ _ _ s₀ _ ((ask >>= _).wrap _ _ _ _) [] s
  refine seg_bind_wrap (wpAny_askSetting ?_)
  split
  · exact seg_again rfl loop
  · first
      | exact seg_bind_wrap (wpAny_rule (seg_bind_wrap (wpAny_standAt (seg_bind_wrap (self _ _ _ (seg_again rfl loop))))))
      | (refine seg_bind_wrap (wpAny_rule ?_); show Seg _ A _ _ _ s₀ _ ((standAt iter.pos >>= _).wrap _ _ _ _) [] s; exact seg_bind_wrap (wpAny_standAt (seg_bind_wrap (self _ _ _ (seg_again rfl loop)))))
theorem gen_gx {X : Cx} {pins : List (Addr × Obj)} {σ : L2.St} {H : Hp} {s : Shared} {c P : Addr} {elt tg iter : Expr} {ifs : List Expr} {scope : Scope} {own : List (Str × Nat)} {gpos : Pos} {wi : TI} {k : Nat} {Q' : Value → Shared → Prop} {RR : It → Hp → Prop}
    (hN : X.N.Nodup) (hr : Room k X.A) (TB : GxR.TabB X.base X.mg c P) (hcode : X.env.code = .ref c) (ok : GxOk X.N X.env.scope scope own) (hi : PI X tg iter wi) (hs : ∀ v, genFold iter X.env v = pure v) (I : Inv X pins σ H s)
    (h : wi σ H fun J H1 => GxR.TabG H1 P ∧ ∀ H2, GxR.Tabbed P H1 H2 → RR J H2)
    (hQ : ∀ (s4 : Shared) (H4 : Hp) (code : Value) (fp : List Addr) (it a : Addr) (g : Nat) (oa : Obj) (tn : Nat → Heap → Prop) (J : It) (s5 : Shared), Inv X pins σ H4 s4 → (∀ b ∈ fp, FpOk X pins H4 b ∧ b < s4.heap.objs.size) → RR J H4 → Turn X.prog X.w X.K tg J fp it tn → GenObjOk oa g →
      Inv (gxp X s4 H4 (gxEnv X scope s4.heap.objs.size code) fp) [(a, oa)] (wipe σ (own.map (·.2))) H4 s5 → tn 0 s5.heap → (∀ b ∈ fp, H4 b = none) → a ∉ fp → g < s5.gens.size →
      s5.gens[g]? = some (.fresh (.compStart (gxE elt tg iter ifs scope gpos) 0 (.ref it) .none (gxEnv X scope s4.heap.objs.size code))) → Q' (.ref a) s5) :
    wpAny (model X.prog X.w) X.A (eval (gxE elt tg iter ifs scope gpos) X.env) Q' X.xe s := by
  have hfree : ∀ y ∈ scope.names, y.2 = .free → ∃ c, X.env.cells.lookup y.1 = some c := fun y hy e => by
    rcases ok.blk.free y hy e with k | k
    · exact I.ok.has _ (.inl k)
    · exact I.ok.has _ (.inr k)
  refine wpAny_GeneratorExp_make ok.co (closure_ok hfree) ok.nocell ok.dot ok.blk.kind (by have := hr.dp; omega) ?_ hs
  refine thn (hi.run pins s σ H _ I h) fun xv s1 hx => thn hx fun itv s2 h2 => ?_
  obtain ⟨it, fp, tn, J, H2, e, I2, T, st2, f2, ⟨ps, hP, ht⟩, q⟩ := h2
  subst e
  refine ⟨I2.nolimit, ?_⟩
  have hPs : s2.heap.get? P = some { cls := .none, data := .fields ps } := I2.hok P _ hP
  have cd : PySem.W.CodeHd s2.heap c P := TB.code.keeps fun b u e => I2.bk b u e
  have nfP : ∀ b ∈ fp, b ≠ P := fun b hb z => by
    have := (f2 b hb).1
    rw [z, hP] at this
    cases this
  have cont : ∀ (code : Value) (h3 : Heap) (tk : Nat) (ps' : Array Value), Heap.ExtBut P s2.heap h3 → s2.heap.objs.size ≤ h3.objs.size → h3.get? P = some { cls := .none, data := .fields ps' } → (∃ more, ps' = ps ++ more) → TriplesOk ps'.toList →
      wpAny (model X.prog X.w) X.A (builtinsFor X.env.globals X.env.builtins) (fun bi s₄ => ∀ h' : Heap, h'.Ns s₄.heap.objs.size (fun y => if y = (".0" : Str) then some (.ref it) else none) → Heap.SameBut s₄.heap.objs.size (s₄.heap.push { cls := .type "frame", data := .dict #[] }) h' →
          Q' (.ref h'.objs.size) { s₄ with
            gens := s₄.gens.push (.fresh (.compStart (gxE elt tg iter ifs scope gpos) 0 (.ref it) .none (genEnv scope (cloFrom X.env.cells scope.names []) s₄.heap.objs.size code bi X.env))),
            toks := s₄.toks + 1 + 1 + 1,
            heap := h'.push { cls := .type "generator", data := .fields #[.int s₄.gens.size 0, .str "<genexpr>" (s₄.toks + 1), .str (X.env.qual ++ "<genexpr>") (s₄.toks + 1 + 1)] } }) X.xe { s2 with heap := h3, toks := tk } := by
    intro code h3 tk ps' hx hsz hP3 hmore ht3
    obtain ⟨bm, ob, e1, e2, e3, e4, e5, e6, e7, e8⟩ := TB.bm
    have keep3 : ∀ b u, b ≠ P → s2.heap.get? b = some u → h3.get? b = some u := fun b u hb e => hx b u hb e
    refine wpAny_builtinsFor (m := X.mg) (by rw [I2.ok.glob]; exact ((I2.mod.glob.keeps I2.bk)).extBut hx TB.gP) e1 e2 (keep3 _ _ e4 (I2.bk _ _ e5)) e6 e7 e8 ?_
    intro h' hn' hs'
    obtain ⟨more, em⟩ := hmore
    have I4 : Inv X pins σ (upd H2 P (.tbl (ps ++ more))) { s2 with heap := h3, toks := tk } := GxR.inv_tab (more := more) (h' := h3) (g' := s2.gens) (d' := s2.drawn) (t' := tk) I2 hP (fun b o hb e => keep3 b o hb e) (by rw [← em]; exact hP3) I2.bare
    have hT : GxR.Tabbed P H2 (upd H2 P (.tbl (ps ++ more))) := ⟨⟨ps ++ more, upd_same, by rw [← em]; exact ht3⟩, fun b hb => upd_ne hb⟩
    have hf4 : ∀ b ∈ fp, (upd H2 P (.tbl (ps ++ more))) b = none := fun b hb => by rw [upd_ne (nfP b hb)]; exact (f2 b hb).1
    have f4 : ∀ b ∈ fp, FpOk X pins (upd H2 P (.tbl (ps ++ more))) b ∧ b < h3.objs.size := fun b hb => by
      obtain ⟨o, e, _⟩ := T.obj _ _ st2 b hb
      exact ⟨⟨hf4 b hb, (f2 b hb).2⟩, Nat.lt_of_lt_of_le (Heap.lt_size e) hsz⟩
    have hsz' : h'.objs.size = h3.objs.size + 1 := by rw [hs'.1, Heap.size_push]
    have keep' : ∀ b o, h3.get? b = some o → h'.get? b = some o := fun b o e => hs'.extBut b o (Nat.ne_of_lt (Heap.lt_size e)) (Heap.get?_push_of_some _ e)
    generalize hoa : ({ cls := .type "generator", data := .fields #[.int ({ s2 with heap := h3, toks := tk } : Shared).gens.size 0, .str "<genexpr>" (({ s2 with heap := h3, toks := tk } : Shared).toks + 1), .str (X.env.qual ++ "<genexpr>") (({ s2 with heap := h3, toks := tk } : Shared).toks + 1 + 1)] } : Obj) = oa
    have ho : GenObjOk oa s2.gens.size := by rw [← hoa]; exact ⟨rfl, ⟨_, _, rfl⟩, rfl⟩
    have keep5 : ∀ b o, h3.get? b = some o → (h'.push oa).get? b = some o := fun b o e => Heap.get?_push_of_some _ (keep' b o e)
    have I5 := gx_start (code := code) (h' := h'.push oa) (g' := s2.gens.push (.fresh (.compStart (gxE elt tg iter ifs scope gpos) 0 (.ref it) .none (gxEnv X scope h3.objs.size code)))) (t' := tk + 1 + 1 + 1) I4 ok hN f4 keep5 ⟨_, hn'.push _⟩ (I2.bare.push rfl)
    have fr : (upd H2 P (.tbl (ps ++ more))) h'.objs.size = none := I4.hok.fresh (by show h3.objs.size ≤ h'.objs.size; omega)
    have I6 : Inv (gxp X { s2 with heap := h3, toks := tk } (upd H2 P (.tbl (ps ++ more))) (gxEnv X scope h3.objs.size code) fp) [(h'.objs.size, oa)] (wipe σ (own.map (·.2))) (upd H2 P (.tbl (ps ++ more))) _ := I5.pins_of fun p hp => by
      obtain rfl : p = (h'.objs.size, oa) := by simpa using hp
      refine ⟨Heap.get?_push_size _ (by rw [← hoa]; rfl), fr, by show h'.objs.size ≠ h3.objs.size; omega, fun z => ?_, fun v => ?_⟩
      · rcases List.mem_cons.mp (I4.stkSub _ z) with z | z
        · have := I4.lt
          have e : h'.objs.size = X.env.locals := z
          have e2 : X.env.locals < h3.objs.size := this
          rw [← e] at e2
          have e3 : h'.objs.size < h3.objs.size := e2
          omega
        · exact I4.nofs (by show h3.objs.size ≤ h'.objs.size; omega) z
      · obtain ⟨_, ⟨nm, qn, e⟩, _⟩ := ho
        rw [e]
        nofun
    refine hQ { s2 with heap := h3, toks := tk } _ code fp it h'.objs.size s2.gens.size oa tn J _ I4 f4 (q _ hT) T ho I6 (T.keep _ _ _ st2 fun b hb o e => keep5 b o (keep3 b o (nfP b hb) e)) hf4 (fun hm => ?_) ?_ ?_
    · have h9 : h'.objs.size < h3.objs.size := (f4 _ hm).2
      omega
    · show s2.gens.size < (s2.gens.push _).size
      rw [Array.size_push]
      omega
    · exact Array.getElem?_push_size ..
  cases hf : codeAmong gpos ps.toList with
  | none =>
    refine wpAny_genexprCodeX hcode (cd.code hPs ht) (cd.tab hPs) hf fun c' h' tk hx hge hlt hco' _ htab' _ => ?_
    obtain ⟨o1, vs, f1, tf, fl, tg', inF, tx, tt', op, _, _, _, _, _, _, _, _, _, htr, _⟩ := hco'
    exact cont _ h' tk _ hx (Nat.le_trans hge (Nat.le_of_lt hlt)) htab'.2 ⟨_, rfl⟩ htr
  | some cv =>
    refine wpAny_genexprCode_hit hcode (cd.code hPs ht) hf ?_
    exact cont cv s2.heap s2.toks ps (Heap.ExtBut.refl _ _) (Nat.le_refl _) hPs ⟨#[], by simp⟩ ht
/-- all(elt for tg in iter if ..) (kd = false), any(..) (kd = true); behind it the def's table may have grown -/
def tGx (kd : Bool) (P : Addr) (wi : TI) (gt : TG) (tt : TT) (te : TE) (vs : List Nat) : TE := fun σ H Q => wi σ H fun J H1 => GxR.TabG H1 P ∧ ∀ H2, GxR.Tabbed P H1 H2 → ∃ W : Nat → Nat → Hp → Prop, (∃ m, W 0 m H2) ∧ GxJ kd J gt tt te vs (wipe σ vs) Q W
section
variable {X : Cx} {c P : Addr} {elt tg iter : Expr} {ifs : List Expr} {scope : Scope} {own : List (Str × Nat)} {p pos gpos : Pos} {wi : TI} {gt : TG} {tt : TT} {te : TE} {k : Nat}
theorem boot_all : bootBuiltins "all" = some (.builtin "all") := by first | rfl | decide +kernel | kernel_rfl
/-- from the generator to the walk -/
theorem gx_ready {pins : List (Addr × Obj)} {σ : L2.St} {Q : VK} {kd : Bool} {W : Nat → Nat → Hp → Prop} {s4 : Shared} {H4 : Hp} {code : Value} {fp : List Addr} {it a : Addr} {g : Nat} {oa : Obj} {tn : Nat → Heap → Prop} {J : It} {s5 : Shared} {m0 : Nat}
    (hc : X.calm = true) (ok : GxOk X.N X.env.scope scope own)
    (hgt : ∀ (s : Shared) (H : Hp) (code : Value) (C : Addr) (fp : List Addr), PG (gxp X s H (gxEnv X scope C code) fp) tg gt) (ht : ∀ (s : Shared) (H : Hp) (code : Value) (C : Addr) (fp : List Addr), PTs (gxp X s H (gxEnv X scope C code) fp) ifs tt)
    (he : ∀ (s : Shared) (H : Hp) (code : Value) (C : Addr) (fp : List Addr), PE (gxp X s H (gxEnv X scope C code) fp) elt te)
    (T : Turn X.prog X.w X.K tg J fp it tn) (hoa : GenObjOk oa g) (I5 : Inv (gxp X s4 H4 (gxEnv X scope s4.heap.objs.size code) fp) [(a, oa)] (wipe σ (own.map (·.2))) H4 s5) (st : tn 0 s5.heap) (nfp : ∀ b ∈ fp, H4 b = none) (naf : a ∉ fp) (hg : g < s5.gens.size)
    (hgs : s5.gens[g]? = some (.fresh (.compStart (gxE elt tg iter ifs scope gpos) 0 (.ref it) .none (gxEnv X scope s4.heap.objs.size code)))) (w0 : W 0 m0 H4) (turn : GxJ kd J gt tt te (own.map (·.2)) (wipe σ (own.map (·.2))) Q W) :
    GxReady (gxp X s4 H4 (gxEnv X scope s4.heap.objs.size code) fp) X.A a oa g kd Q (m0 + 1) s5 := by
  refine ⟨gx_good hoa I5 hg, _, hgs, fun G' hG hgG => ⟨rfl, ?_⟩⟩
  refine seg_gxStart (fun A Q E q => T.self A 0 _ Q E st q) ?_
  refine seg_gx (Y := gxp X s4 H4 (gxEnv X scope s4.heap.objs.size code) fp) rfl (fun _ _ z => z) hc ok.co hoa T (fun {σ' H' s'} I' hn b hb => ⟨hn b hb, (I'.ok.exf b hb).1, I'.ok.exfs b hb, .inl hb, fun x c e => (I'.ok.exf b hb).2 x c e, fun p hp => ?_⟩) (.inr trivial) (hgt _ _ _ _ _) (ht _ _ _ _ _) (he _ _ _ _ _) turn (fun σ2 e => ?_) m0 0 H4 (m0 + 1) _ _ (Nat.lt_succ_self _) (gens_inv I5 hG) st nfp w0 hgG
  · obtain rfl : p = (a, oa) := by simpa using hp
    intro z
    have z : a = b := z
    rw [z] at naf
    exact naf hb
  · exact ⟨by rw [← e, wipe_length], fun j v hv => by rw [← e] at hv; exact (wipe_some hv).1⟩
/-- back in the def -/
theorem gx_back {pins : List (Addr × Obj)} {σ : L2.St} {Q : VK} {s4 : Shared} {H4 : Hp} {cenv : Env} {fp : List Addr} {a : Addr} {oa : Obj} {b : Bool} {s' : Shared} (I4 : Inv X pins σ H4 s4) (f4 : ∀ b ∈ fp, FpOk X pins H4 b ∧ b < s4.heap.objs.size) (h : GxFin (gxp X s4 H4 cenv fp) [(a, oa)] Q b s') : EP X pins σ Q (.bool b) s' := by
  obtain ⟨σ', H', I', q⟩ := h
  exact ⟨.bl b, H', I4.call' (ch := fp) I'.os I'.base I'.hok I'.bare (fun b hb => ⟨(f4 b hb).1.2.2.2.1, (f4 b hb).1.2.1, (f4 b hb).1.2.2.2.2.1, (f4 b hb).1.2.2.2.2.2⟩), rfl, q⟩
theorem pe_allG (hc : X.calm = true) (hN : X.N.Nodup) (hr : Room k X.A) (hm : X.mg "all" = none) (TB : GxR.TabB X.base X.mg c P) (hcode : X.env.code = .ref c) (ok : GxOk X.N X.env.scope scope own) (hi : PI X tg iter wi)
    (hgt : ∀ (s : Shared) (H : Hp) (code : Value) (C : Addr) (fp : List Addr), PG (gxp X s H (gxEnv X scope C code) fp) tg gt) (ht : ∀ (s : Shared) (H : Hp) (code : Value) (C : Addr) (fp : List Addr), PTs (gxp X s H (gxEnv X scope C code) fp) ifs tt)
    (he : ∀ (s : Shared) (H : Hp) (code : Value) (C : Addr) (fp : List Addr), PE (gxp X s H (gxEnv X scope C code) fp) elt te) (hg : Gl X "all" := by rfl) (hs : ∀ v, genFold iter X.env v = pure v := by intro _; rfl)
    (hst : starEach [gxE elt tg iter ifs scope gpos] X.env = (false, eval (gxE elt tg iter ifs scope gpos) X.env) :: starEach [] X.env := by rfl) :
    PE X (.Call (.Name "all" p) [gxE elt tg iter ifs scope gpos] [] pos) (tGx false P wi gt tt te (own.map (·.2))) := by
  refine ⟨fun pins s σ H Q I h => ?_⟩
  refine wpAny_Call_Name_kw (ld_blt I hg hm boot_all ?_)
  refine PyProof.Rows.callWith_builtin1 ?_ hst (by rfl)
  rw [hst]
  show wpAny _ _ (spliced ((false, eval (gxE elt tg iter ifs scope gpos) X.env) :: backTo pos (starEach [] X.env))) _ _ s
  refine Calls.spliced_cons (gen_gx hN hr TB hcode ok hi hs I h fun s4 H4 code fp it a g oa tn J s5 I4 f4 hW T hoa I5 st nfp naf hgl hgs => ?_)
  obtain ⟨W, ⟨m0, w0⟩, turn⟩ := hW
  have rd := gx_ready (pins := pins) hc ok hgt ht he T hoa I5 st nfp naf hgl hgs w0 turn
  refine Calls.spliced_nil ?_
  refine call_function_tree F.kind_all F.plain_all F.entry_all (F.args_all1 _) ?_
  unfold Builtin.«all»
  refine wpAny_bind (m := oneArg "all" _) (wpAny_pure ?_)
  refine wpAny_bind (wpAny_pyIter_gen rd.1.gen ?_)
  refine wpAny_pure ⟨plainId_quiet F.plain_all_loop _, codeAny_mono (loop_all (Y := gxp X s4 H4 (gxEnv X scope s4.heap.objs.size code) fp) hr.hd hr.depth _ _ rd) fun r s' ⟨b, e, fin⟩ => ?_⟩
  subst e
  exact gx_back I4 f4 fin
theorem pe_anyG (hc : X.calm = true) (hN : X.N.Nodup) (hr : Room k X.A) (hm : X.mg "any" = none) (TB : GxR.TabB X.base X.mg c P) (hcode : X.env.code = .ref c) (ok : GxOk X.N X.env.scope scope own) (hi : PI X tg iter wi)
    (hgt : ∀ (s : Shared) (H : Hp) (code : Value) (C : Addr) (fp : List Addr), PG (gxp X s H (gxEnv X scope C code) fp) tg gt) (ht : ∀ (s : Shared) (H : Hp) (code : Value) (C : Addr) (fp : List Addr), PTs (gxp X s H (gxEnv X scope C code) fp) ifs tt)
    (he : ∀ (s : Shared) (H : Hp) (code : Value) (C : Addr) (fp : List Addr), PE (gxp X s H (gxEnv X scope C code) fp) elt te) (hg : Gl X "any" := by rfl) (hs : ∀ v, genFold iter X.env v = pure v := by intro _; rfl)
    (hst : starEach [gxE elt tg iter ifs scope gpos] X.env = (false, eval (gxE elt tg iter ifs scope gpos) X.env) :: starEach [] X.env := by rfl) :
    PE X (.Call (.Name "any" p) [gxE elt tg iter ifs scope gpos] [] pos) (tGx true P wi gt tt te (own.map (·.2))) := by
  refine ⟨fun pins s σ H Q I h => ?_⟩
  refine wpAny_Call_Name_kw (ld_blt I hg hm boot_any ?_)
  refine PyProof.Rows.callWith_builtin1 ?_ hst (by rfl)
  rw [hst]
  show wpAny _ _ (spliced ((false, eval (gxE elt tg iter ifs scope gpos) X.env) :: backTo pos (starEach [] X.env))) _ _ s
  refine Calls.spliced_cons (gen_gx hN hr TB hcode ok hi hs I h fun s4 H4 code fp it a g oa tn J s5 I4 f4 hW T hoa I5 st nfp naf hgl hgs => ?_)
  obtain ⟨W, ⟨m0, w0⟩, turn⟩ := hW
  have rd := gx_ready (pins := pins) hc ok hgt ht he T hoa I5 st nfp naf hgl hgs w0 turn
  refine Calls.spliced_nil ?_
  refine call_function_tree F.kind_any F.plain_any F.entry_any (F.args_any1 _) ?_
  unfold Builtin.«any»
  refine wpAny_bind (m := oneArg "any" _) (wpAny_pure ?_)
  refine wpAny_bind (wpAny_pyIter_gen rd.1.gen ?_)
  refine wpAny_pure ⟨plainId_quiet F.plain_any_loop _, codeAny_mono (loop_any (Y := gxp X s4 H4 (gxEnv X scope s4.heap.objs.size code) fp) hr.hd hr.depth _ _ rd) fun r s' ⟨b, e, fin⟩ => ?_⟩
  subst e
  exact gx_back I4 f4 fin
end
/-! ### readings of all(..), any(..); defs whose code object is told; the end with tables -/
/-- one look at the scope of a generator expression -/
def gxC (N : List Str) (sc scope : Scope) (own : List (Str × Nat)) : Bool := blkC N sc scope own && (!scope.isCoroutine && (scope.names.all (fun y => decide (y.2 ≠ .cell)) && decide (scope.names.lookup (".0" : Str) = some NameKind.local)))
theorem gxOk_by {N : List Str} {sc scope : Scope} {own : List (Str × Nat)} (h : gxC N sc scope own = true) : GxOk N sc scope own := by
  unfold gxC at h
  simp only [Bool.and_eq_true, Bool.not_eq_true', List.all_eq_true, decide_eq_true_eq] at h
  exact ⟨blkOk_by h.1, h.2.1, h.2.2.1, h.2.2.2⟩
theorem room_gx {k : Nat} {A : Around} {env : Env} (r : Room (k + 1) A) : Room k (A.in1.in1.deeper env) :=
  ⟨r.hd, by have := r.dp; show A.depth + 1 + 3 * k + 5 < _; omega, by have := r.un; show A.units + 1 + 1 + 3 + 16 * k + 200 < _; omega⟩
/-- the walk, its iterator told -/
def GxW (kd : Bool) (P : Addr) (J : It) (gt : TG) (tt : TT) (te : TE) (vs : List Nat) : L2.St → Hp → VK → Prop := fun σ H1 Q => GxR.TabG H1 P ∧ ∀ H2, GxR.Tabbed P H1 H2 → ∃ W : Nat → Nat → Hp → Prop, (∃ m, W 0 m H2) ∧ GxJ kd J gt tt te vs (wipe σ vs) Q W
def GxT (K : PySem.W.Frag) (kd : Bool) (P a : Addr) (gt : TG) (tt : TT) (te : TE) (vs : List Nat) : L2.St → Hp → VK → Prop := fun σ H1 Q => (∃ xs, SqT K H1 a xs) ∧ GxW kd P (Itt K a) gt tt te vs σ H1 Q
def GxL (K : PySem.W.Frag) (kd : Bool) (P a : Addr) (gt : TG) (tt : TT) (te : TE) (vs : List Nat) : L2.St → Hp → VK → Prop := fun σ H1 Q => (∃ xs, SqL K H1 a xs) ∧ GxW kd P (Itl K a) gt tt te vs σ H1 Q
def dGxT (K : PySem.W.Frag) (kd : Bool) (P : Addr) (tl : TE) (gt : TG) (tt : TT) (te : TE) (vs : List Nat) : TE := fun σ H Q => tl σ H fun x H1 => match x with
  | .ref a => GxT K kd P a gt tt te vs σ H1 Q
  | _ => False
def dGxL (K : PySem.W.Frag) (kd : Bool) (P : Addr) (tl : TE) (gt : TG) (tt : TT) (te : TE) (vs : List Nat) : TE := fun σ H Q => tl σ H fun x H1 => match x with
  | .ref a => GxL K kd P a gt tt te vs σ H1 Q
  | _ => False
theorem gx_t {K : PySem.W.Frag} {kd : Bool} {P : Addr} {tl : TE} {gt : TG} {tt : TT} {te : TE} {vs : List Nat} {σ : L2.St} {H : Hp} {Q : VK} (q1 : dGxT K kd P tl gt tt te vs σ H Q) : tGx kd P (iTup K (mE tl)) gt tt te vs σ H Q := ⟨_, q1, fun v H' q2 => by
  split at q2
  · exact ⟨_, rfl, q2.1, q2.2⟩
  · exact q2.elim⟩
theorem gx_l {K : PySem.W.Frag} {kd : Bool} {P : Addr} {tl : TE} {gt : TG} {tt : TT} {te : TE} {vs : List Nat} {σ : L2.St} {H : Hp} {Q : VK} (q1 : dGxL K kd P tl gt tt te vs σ H Q) : tGx kd P (iList K (mE tl)) gt tt te vs σ H Q := ⟨_, q1, fun v H' q2 => by
  split at q2
  · exact ⟨_, rfl, q2.1, q2.2⟩
  · exact q2.elim⟩
section
variable {X : Cx} {c P : Addr} {elt tg iter : Expr} {ifs : List Expr} {scope : Scope} {own : List (Str × Nat)} {p pos gpos : Pos} {tl : TE} {gt : TG} {tt : TT} {te : TE} {k : Nat}
theorem d_allT (hc : X.calm = true) (hN : X.N.Nodup) (hr : Room (k + 1) X.A) (hm : X.mg "all" = none) (TB : GxR.TabB X.base X.mg c P) (hcode : X.env.code = .ref c) (hl : PE X iter tl) (ok : GxOk X.N X.env.scope scope own)
    (hgt : ∀ (s : Shared) (H : Hp) (code : Value) (C : Addr) (fp : List Addr), PG (gxp X s H (gxEnv X scope C code) fp) tg gt) (ht : ∀ (s : Shared) (H : Hp) (code : Value) (C : Addr) (fp : List Addr), Room k (X.A.in1.in1.deeper (gxEnv X scope C code)) → PTs (gxp X s H (gxEnv X scope C code) fp) ifs tt)
    (he : ∀ (s : Shared) (H : Hp) (code : Value) (C : Addr) (fp : List Addr), Room k (X.A.in1.in1.deeper (gxEnv X scope C code)) → PE (gxp X s H (gxEnv X scope C code) fp) elt te) (hg : Gl X "all" := by rfl) (hs : ∀ v, genFold iter X.env v = pure v := by intro _; rfl)
    (hst : starEach [gxE elt tg iter ifs scope gpos] X.env = (false, eval (gxE elt tg iter ifs scope gpos) X.env) :: starEach [] X.env := by rfl) :
    PE X (.Call (.Name "all" p) [gxE elt tg iter ifs scope gpos] [] pos) (dGxT X.K false P tl gt tt te (own.map (·.2))) := peI (pe_allG hc hN hr hm TB hcode ok (pi_tup (peM hl)) hgt (fun s H code C fp => ht s H code C fp (room_gx hr)) (fun s H code C fp => he s H code C fp (room_gx hr)) hg hs hst) fun _ _ _ q => gx_t q
theorem d_allL (hc : X.calm = true) (hN : X.N.Nodup) (hr : Room (k + 1) X.A) (hm : X.mg "all" = none) (TB : GxR.TabB X.base X.mg c P) (hcode : X.env.code = .ref c) (hl : PE X iter tl) (ok : GxOk X.N X.env.scope scope own)
    (hgt : ∀ (s : Shared) (H : Hp) (code : Value) (C : Addr) (fp : List Addr), PG (gxp X s H (gxEnv X scope C code) fp) tg gt) (ht : ∀ (s : Shared) (H : Hp) (code : Value) (C : Addr) (fp : List Addr), Room k (X.A.in1.in1.deeper (gxEnv X scope C code)) → PTs (gxp X s H (gxEnv X scope C code) fp) ifs tt)
    (he : ∀ (s : Shared) (H : Hp) (code : Value) (C : Addr) (fp : List Addr), Room k (X.A.in1.in1.deeper (gxEnv X scope C code)) → PE (gxp X s H (gxEnv X scope C code) fp) elt te) (hg : Gl X "all" := by rfl) (hs : ∀ v, genFold iter X.env v = pure v := by intro _; rfl)
    (hst : starEach [gxE elt tg iter ifs scope gpos] X.env = (false, eval (gxE elt tg iter ifs scope gpos) X.env) :: starEach [] X.env := by rfl) :
    PE X (.Call (.Name "all" p) [gxE elt tg iter ifs scope gpos] [] pos) (dGxL X.K false P tl gt tt te (own.map (·.2))) := peI (pe_allG hc hN hr hm TB hcode ok (pi_list (peM hl)) hgt (fun s H code C fp => ht s H code C fp (room_gx hr)) (fun s H code C fp => he s H code C fp (room_gx hr)) hg hs hst) fun _ _ _ q => gx_l q
theorem d_anyT (hc : X.calm = true) (hN : X.N.Nodup) (hr : Room (k + 1) X.A) (hm : X.mg "any" = none) (TB : GxR.TabB X.base X.mg c P) (hcode : X.env.code = .ref c) (hl : PE X iter tl) (ok : GxOk X.N X.env.scope scope own)
    (hgt : ∀ (s : Shared) (H : Hp) (code : Value) (C : Addr) (fp : List Addr), PG (gxp X s H (gxEnv X scope C code) fp) tg gt) (ht : ∀ (s : Shared) (H : Hp) (code : Value) (C : Addr) (fp : List Addr), Room k (X.A.in1.in1.deeper (gxEnv X scope C code)) → PTs (gxp X s H (gxEnv X scope C code) fp) ifs tt)
    (he : ∀ (s : Shared) (H : Hp) (code : Value) (C : Addr) (fp : List Addr), Room k (X.A.in1.in1.deeper (gxEnv X scope C code)) → PE (gxp X s H (gxEnv X scope C code) fp) elt te) (hg : Gl X "any" := by rfl) (hs : ∀ v, genFold iter X.env v = pure v := by intro _; rfl)
    (hst : starEach [gxE elt tg iter ifs scope gpos] X.env = (false, eval (gxE elt tg iter ifs scope gpos) X.env) :: starEach [] X.env := by rfl) :
    PE X (.Call (.Name "any" p) [gxE elt tg iter ifs scope gpos] [] pos) (dGxT X.K true P tl gt tt te (own.map (·.2))) := peI (pe_anyG hc hN hr hm TB hcode ok (pi_tup (peM hl)) hgt (fun s H code C fp => ht s H code C fp (room_gx hr)) (fun s H code C fp => he s H code C fp (room_gx hr)) hg hs hst) fun _ _ _ q => gx_t q
theorem d_anyL (hc : X.calm = true) (hN : X.N.Nodup) (hr : Room (k + 1) X.A) (hm : X.mg "any" = none) (TB : GxR.TabB X.base X.mg c P) (hcode : X.env.code = .ref c) (hl : PE X iter tl) (ok : GxOk X.N X.env.scope scope own)
    (hgt : ∀ (s : Shared) (H : Hp) (code : Value) (C : Addr) (fp : List Addr), PG (gxp X s H (gxEnv X scope C code) fp) tg gt) (ht : ∀ (s : Shared) (H : Hp) (code : Value) (C : Addr) (fp : List Addr), Room k (X.A.in1.in1.deeper (gxEnv X scope C code)) → PTs (gxp X s H (gxEnv X scope C code) fp) ifs tt)
    (he : ∀ (s : Shared) (H : Hp) (code : Value) (C : Addr) (fp : List Addr), Room k (X.A.in1.in1.deeper (gxEnv X scope C code)) → PE (gxp X s H (gxEnv X scope C code) fp) elt te) (hg : Gl X "any" := by rfl) (hs : ∀ v, genFold iter X.env v = pure v := by intro _; rfl)
    (hst : starEach [gxE elt tg iter ifs scope gpos] X.env = (false, eval (gxE elt tg iter ifs scope gpos) X.env) :: starEach [] X.env := by rfl) :
    PE X (.Call (.Name "any" p) [gxE elt tg iter ifs scope gpos] [] pos) (dGxL X.K true P tl gt tt te (own.map (·.2))) := peI (pe_anyG hc hN hr hm TB hcode ok (pi_list (peM hl)) hgt (fun s H code C fp => ht s H code C fp (room_gx hr)) (fun s H code C fp => he s H code C fp (room_gx hr)) hg hs hst) fun _ _ _ q => gx_l q
end
theorem TabG.same {H H' : Hp} {P : Addr} (s : Same H H') (h : GxR.TabG H P) : GxR.TabG H' P := let ⟨ps, e, t⟩ := h; ⟨ps, s _ _ e, t⟩
theorem Tabbed.same_of {P : Addr} {H H' : Hp} (h : GxR.Tabbed P H H') {b : Addr} {o : HO} (e : H b = some o) (n : ∀ ps, o ≠ .tbl ps) (hP : GxR.TabG H P) : H' b = some o := by
  obtain ⟨ps, eP, _⟩ := hP
  rw [h.2 b (by rintro rfl; rw [eP] at e; cases e; exact n _ rfl)]
  exact e
/-- the walk over a tuple or a list whose items are tested one by one, each test leaving what stands; Rl: what the tests keep -/
theorem gx_core {kd : Bool} {J : It} {xs : List V} {gt : TG} {te : TE} {vs : List Nat} {σ : L2.St} {Q : VK} {H2 : Hp} (Rl : Hp → Hp → Prop) (r0 : Rl H2 H2)
    (go : ∀ i H, i < xs.length → Rl H2 H → J.go i H) (stop : ∀ H, Rl H2 H → J.stop xs.length H) (yl : ∀ i H x H', Rl H2 H → J.yld i H x H' → H' = H ∧ xs[i]? = some x) (f : V → Bool)
    (turn : ∀ x ∈ xs, ∀ H, Rl H2 H → ∀ k : VK, (∀ H', Rl H2 H' → k (.bl (f x)) H') → gt x (wipe σ vs) H fun σ2 H3 => wipe σ2 vs = wipe σ vs ∧ te σ2 H3 k)
    (hd : ∀ H', Rl H2 H' → Q (.bl (if kd = true then xs.any f else xs.all f)) H') : ∃ W : Nat → Nat → Hp → Prop, (∃ m, W 0 m H2) ∧ GxJ kd J gt tYes te vs (wipe σ vs) Q W := by
  refine ⟨fun i m H => i + m = xs.length ∧ Rl H2 H ∧ ∀ j x, j < i → xs[j]? = some x → f x = !kd, ⟨xs.length, by omega, r0, fun j _ h => by omega⟩, ?_⟩
  rintro i m H ⟨e, r, q⟩
  by_cases hi : i < xs.length
  · refine .inr ⟨go i H hi r, fun H' => Rl H2 H' ∧ ∀ j x, j < i + 1 → xs[j]? = some x → f x = !kd, fun H' h => ⟨m - 1, by omega, by omega, h⟩, fun x H' y => ?_⟩
    obtain ⟨rfl, hx⟩ := yl i H x H' r y
    have mx := List.mem_of_getElem? hx
    have t := turn x mx H' r (fun y H4 => ∃ k : Bool, y = .bl k ∧ if k = kd then Q (.bl kd) H4 else (Rl H2 H4 ∧ ∀ j x, j < i + 1 → xs[j]? = some x → f x = !kd)) fun H4 r4 => ⟨f x, rfl, by
      by_cases c : f x = kd
      · rw [if_pos c]
        have h := hd H4 r4
        cases kd with
        | false =>
          have : xs.all f = false := by
            cases c2 : xs.all f with
            | false => rfl
            | true => rw [List.all_eq_true.mp c2 x mx] at c; cases c
          simpa [this] using h
        | true =>
          have : xs.any f = true := List.any_eq_true.mpr ⟨x, mx, c⟩
          simpa [this] using h
      · rw [if_neg c]
        refine ⟨r4, fun j y hj hy => ?_⟩
        by_cases cj : j = i
        · subst cj
          rw [hx] at hy
          cases hy
          cases hf : f x <;> cases kd <;> simp_all
        · exact q j y (by omega) hy⟩
    exact t
  · have e2 : i = xs.length := by omega
    subst e2
    refine .inl ⟨stop H r, ?_⟩
    have h := hd H r
    have hall : ∀ x ∈ xs, f x = !kd := fun x hx => by
      obtain ⟨j, hj⟩ := List.mem_iff_getElem?.mp hx
      exact q j x (List.getElem?_eq_some_iff.mp hj).1 hj
    cases kd with
    | false =>
      have : xs.all f = true := List.all_eq_true.mpr hall
      simpa [this] using h
    | true =>
      have : xs.any f = false := by
        cases c2 : xs.any f with
        | false => rfl
        | true =>
          obtain ⟨x, hx, hf⟩ := List.any_eq_true.mp c2
          rw [hall x hx] at hf
          cases hf
      simpa [this] using h
/-- over a tuple -/
theorem gxT_core {K : PySem.W.Frag} {kd : Bool} {P a : Addr} {xs : List V} {gt : TG} {te : TE} {vs : List Nat} {σ : L2.St} {Q : VK} {H1 : Hp} (hq : H1 a = some (.tup xs)) (ht : GxR.TabG H1 P) (f : V → Bool)
    (turn : ∀ H2, GxR.Tabbed P H1 H2 → ∀ x ∈ xs, ∀ H, Same H2 H → ∀ k : VK, (∀ H', Same H H' → k (.bl (f x)) H') → gt x (wipe σ vs) H fun σ2 H3 => wipe σ2 vs = wipe σ vs ∧ te σ2 H3 k)
    (hd : ∀ H2 H', GxR.Tabbed P H1 H2 → Same H2 H' → Q (.bl (if kd = true then xs.any f else xs.all f)) H') : GxT K kd P a gt tYes te vs σ H1 Q := by
  refine ⟨⟨xs, .of hq⟩, ht, fun H2 h2 => ?_⟩
  have hq2 : ∀ H, Same H2 H → SqT K H a xs := fun H s => .of (s _ _ (Tabbed.same_of h2 hq (fun _ => nofun) ht))
  refine gx_core (xs := xs) (fun _ H => Same H2 H) (Same.refl _) (fun i H hi s => ⟨xs, xs[i], hq2 H s, by simp [hi]⟩) (fun H s => ⟨xs, hq2 H s, Nat.le_refl _⟩) (fun i H x H' s y => ⟨y.1, y.2 xs (hq2 H s)⟩) f
    (fun x hx H s k hk => turn H2 h2 x hx H s k fun H' s' => hk H' (s.trans s')) fun H' s => hd H2 H' h2 s
/-- a def whose code object stands at c -/
structure FunC (K : PySem.W.Frag) (x qual : Str) (st : Stmt) (f : Addr) (fd : FuncData) (c : Addr) : Prop where
  ex : ∃ (oc : Value) (od : Option Addr) (kV doc pm : Value) (an : Option Addr) (ct : Value) (osl : Array (Option Value)),
    fd = PySem.W.fnOf x qual (defArgs st) (defBody st) (defScope st) .none kV doc pm an (.ref c) ct ∧ K.lookup f = some ⟨oc, od, .func fd, osl⟩ ∧ PySem.W.codeIn K (.ref c) qual = true
theorem FunC.ok {P : Program} {w : World} {K : PySem.W.Frag} {base : Heap} {mg : Str → Option Value} {x qual : Str} {st : Stmt} {f c : Addr} {fd : FuncData} {N ps : List Str} {k : Nat} {sp : Sp} (F : FunC K x qual st f fd c) (S : FnScope N ps (defScope st)) (len : ∀ vs H Q E, sp vs H Q E → vs.length = ps.length)
    (body : ∀ (A : Around) (outer : List Env) (s : Shared) (H : Hp) (vs : List V) (Q : VK) (E : XK), Room k (A.deeper (envOfC qual (defScope st) s.heap.objs.size f (.ref c))) → sp vs H Q E →
      ∃ t, PSs (cxOf CX0 P w K mg base N qual (defScope st) f (.ref c) A outer s H E).nox (defBody st) t ∧ t { nx := fun _ H' => Q .non H', rt := Q } (start N vs) H) : FnOk P w K mg base CX0 (k + 1) f fd ps sp := by
  obtain ⟨oc, od, kV, doc, pm, an, ct, osl, rfl, lk, cod⟩ := F.ex
  exact fn_of lk cod S len fun A outer s H vs Q E hr hsp => let ⟨t, h, q⟩ := body A outer s H vs Q E hr hsp; ⟨t, h.nox, q⟩
theorem FunC.okN {P : Program} {w : World} {K : PySem.W.Frag} {base : Heap} {mg : Str → Option Value} {x qual : Str} {st : Stmt} {f c : Addr} {fd : FuncData} {N ps : List Str} {k : Nat} {sp : Sp} (F : FunC K x qual st f fd c) (S : FnScope N ps (defScope st)) (len : ∀ vs H Q E, sp vs H Q E → vs.length = ps.length)
    (body : ∀ (A : Around) (outer : List Env) (s : Shared) (H : Hp) (vs : List V) (Q : VK) (E : XK), Room k (A.deeper (envOfC qual (defScope st) s.heap.objs.size f (.ref c))) → sp vs H Q E →
      ∃ t, PSs (cxOf (L2N.CX P w) P w K mg base N qual (defScope st) f (.ref c) A outer s H E) (defBody st) t ∧ t { nx := fun _ H' => Q .non H', rt := Q } (start N vs) H) : FnOk P w K mg base (L2N.CX P w) (k + 1) f fd ps sp := by
  obtain ⟨oc, od, kV, doc, pm, an, ct, osl, rfl, lk, cod⟩ := F.ex
  exact fn_of lk cod S len fun A outer s H vs Q E hr hsp => body A outer s H vs Q E hr hsp
theorem tabB_gx {base : Heap} {mg : Str → Option Value} {c P : Addr} (h : LamX.TabB base mg c P) : GxR.TabB base mg c P := ⟨h.code, h.bm, h.gP⟩
/-- the end: the tables of the law's defs are empty where the law begins -/
theorem walk_tabs {l : PySem.W.OpenLaw} {n k : Nat} {q : Program} {loose : List Str} {XP : (Str → Option Value) → Heap → Prop} {YP : World → Heap → Prop} {d : DefRec} {K : Params → PySem.W.Frag} {CX : World → CXT} {x : Str}
    (hn : l.most = some n) (hn2 : n ≤ sizeLine) (hdf : d.params.defaults = []) (hr : Room k callerA) (hY : ∀ (w : World) (h : Heap), YP w h → (K w.params).In h)
    (F : ∀ (w : World) (mg : Str → Option Value) (fa : Addr) (h : Heap), (K w.params).In h → h.Ns mainGlobals mg → mg d.name = some (.ref fa) → (∀ (y : Str) (fy : Addr), ((recsOf q).any fun e => e.name == y) = true → mg y = some (.ref fy) → LamX.OwnTab (K w.params) fy h) → LamX.LawAtS l w (K w.params) (CX w) k n x mg fa h)
    (hCX : ∀ (w : World) (H : Hp) (s : Shared) (e : Value) (s' : Shared), CX w [] H s (fun _ _ _ => False) e s' → False) :
    PySem.W.WalkO q loose XP YP l.row.toRowW d [] (fun f vs => PySem.call f vs) := by
  refine Att.attach_callB hn hdf fun w s₀ s₁ mg mb fa o pm cd doc a vs ns G Y ho hd hcd hmg hobj hints hlen hbits hg => ?_
  have KX := hY w _ Y
  have own : ∀ (y : Str) (fy : Addr), ((recsOf q).any fun e => e.name == y) = true → mg y = some (.ref fy) → LamX.OwnTab (K w.params) fy s₁.heap := fun y fy hy hfy c P ob fd1 e dd vs1 sl k1 k2 k3 k4 k5 => by
    obtain ⟨r, hm, en⟩ := List.any_eq_true.mp hy
    obtain ⟨a2, o2, fd2, c2, P2, i1, i2, i3, i4, _, ⟨⟨ob3, vs3, j1, _, j2, j3⟩, hP⟩⟩ := G.T.tab r hm
    rw [beq_iff_eq.mp en, hfy] at i1
    cases i1
    rw [KX _ _ k1] at i2
    cases i2
    rw [k2] at i3
    cases i3
    rw [k3] at i4
    cases i4
    rw [KX _ _ k4] at j1
    cases j1
    cases j2
    rw [k5] at j3
    cases j3
    exact hP
  obtain ⟨fd, cs, sp, hT, nT, C, hb, hsp, hF⟩ := F w mg fa _ KX G.T.g hmg own
  exact LamX.law_callTs KX G.T.g G.T.b G.T.builtins G.T.nolimit hg hT nT C G.T.bmain hobj hints (Nat.le_trans hlen hn2) hr hF hb (fun H hH hS => hsp H a ns hlen hbits hH hS) fun H e s' => hCX w H s₁ e s'
/-- one look at a code object as it is written out -/
def codeChk (vs : Array Value) (c P : Addr) : Bool := (match (vs[11]? : Option Value) with | some (.ref P') => P' == P | _ => false) && (match vs.getD 18 .none with | .str _ _ => true | _ => false) && (match vs.getD 7 .none with | .int _ _ => true | _ => false) && (match vs.getD 9 .none with | .bool _ => true | _ => false) && (match vs.getD 10 .none with | .int _ _ => true | _ => false) && c != P
theorem codeHd_mk {K : PySem.W.Frag} {c P : Addr} {dd : Option Addr} {vs : Array Value} {sl : Array (Option Value)} (kc : K.lookup c = some ⟨.type "code", dd, .fields vs, sl⟩) (h : codeChk vs c P = true) : PySem.W.codeHdIn K c P = true := by
  unfold PySem.W.codeHdIn
  rw [kc]
  exact h
/-- where the classes stand -/
structure Ads where
  Net : Addr
  TraceError : Addr
  OutOfRange : Addr
  Malformed : Addr
  NotThere : Addr
  Refused : Addr
  TooMuch : Addr
  D_is_map : Addr
  P_is_map : Addr
  D_is_schedule : Addr
  P_is_schedule : Addr
/-- the code objects of the defs that hold generator expressions, and their tables -/
def codes (A : Ads) : List (Addr × Addr) := [(A.D_is_map, A.P_is_map), (A.D_is_schedule, A.P_is_schedule)]
def TabsOk (A : Ads) (H : Hp) : Prop := ∀ p ∈ codes A, GxR.TabG H p.2
def fl_Net (v0 v1 : V) : List (Str × V) := [("processors", v0), ("rows", v1)]
theorem fq_Net_processors_rows : (("processors" : Str) = "rows") = False := eq_false (by decide +kernel)
theorem fq_Net_rows_processors : (("rows" : Str) = "processors") = False := eq_false (by decide +kernel)
theorem fp_Net_processors {v0 v1 x : V} : putF "processors" x (fl_Net v0 v1) = fl_Net x v1 := by simp [fl_Net, putF, fq_Net_rows_processors]
theorem fg_Net_processors {v0 v1 : V} : (fl_Net v0 v1).lookup ("processors" : Str) = some v0 := by rfl
theorem fp_Net_rows {v0 v1 x : V} : putF "rows" x (fl_Net v0 v1) = fl_Net v0 x := by simp [fl_Net, putF, fq_Net_processors_rows]
theorem fg_Net_rows {v0 v1 : V} : (fl_Net v0 v1).lookup ("rows" : Str) = some v1 := by rfl
theorem fn_Net {v0 v1 : V} : (fl_Net v0 v1).length = 2 := rfl
theorem fi_Net_processors {x : V} : putF "processors" x [] = [(("processors" : Str), x)] := by simp [fl_Net, putF]
theorem fi_Net_rows {v0 x : V} : putF "rows" x [(("processors" : Str), v0)] = fl_Net v0 x := by simp [fl_Net, putF, fq_Net_processors_rows]
theorem fm_Net_check {v0 v1 : V} : (fl_Net v0 v1).lookup ("check" : Str) = none := by rfl
theorem fm_Net_put {v0 v1 : V} : (fl_Net v0 v1).lookup ("put" : Str) = none := by rfl
theorem fm_Net_take {v0 v1 : V} : (fl_Net v0 v1).lookup ("take" : Str) = none := by rfl
theorem fm_Net_ready {v0 v1 : V} : (fl_Net v0 v1).lookup ("ready" : Str) = none := by rfl
theorem fm_Net_messages {v0 v1 : V} : (fl_Net v0 v1).lookup ("messages" : Str) = none := by rfl
theorem fm_Net_many {v0 v1 : V} : (fl_Net v0 v1).lookup ("many" : Str) = none := by rfl
set_option maxHeartbeats 8000000
local macro_rules
  | `(tactic| wp_walk using $ts,*) => `(tactic| simp only [tSeq, tAsg, gName, tRet, tRetN, tNext, tDrop, tIfS, tIf, tBreak, tCont, tOp, tUn, tC, tCons, tNil, tCB, tCallS, tMakeE, tLst, tTup, tAnd, tOr, tNot, tYes, tSl, tPart, tNoPart, tRaiseN, tTryAs,
  dVar, dAdd, dI2, dI2C, dSub, dMod, dDiv, dPow, dLt, dLe, dGt, dGe, dMul, dEq, dNe, dIs, dIsNot, isNon, dNeg, dAbs, dMax2, dMin2, dInt, dLen, dListOf, dTupleOf, dIx, dFld, dSFld, dSAug, dAug, dTest, dTru, dAndV, dOrV, dNotV, dChain, dAppend, dPop, dPopAt, dInsert, dBM, dBM0, dMethE, dPar, dPar3, dPart, dStar, dAdd2, dMulT, dDivW, dLc2T, dLcE, tTryOnly, wMany, dDG, dSetK, dDG2, keyV, tDisp, tPairs, dIsB, dNotB, tDGet, tDGet2, sDPut, tDNewT, tBM, dGcd, dSl, dRevL, dRevL.seqLst, dCnt, dIn, dNotIn, dSetL, gSub, dgTup, dgCons, dgNil,
  dForL, dForT, dForR1, dForR2, dLc2, dIL, dIT, tAsg2, dLcL, dLcT, dLcR1, dLcR2, dGxT, dGxL, dIsi, dIsE, tyName, seqAt_lst, seqAt_tup, seqAt_frz, lstAt_lst, tupAt_tup, atK_zero, atK_one,
  L2.start, List.map_cons, List.map_nil, List.length_cons, List.length_nil, List.cons_append, List.nil_append, List.replicate, Nat.sub_self, Nat.reduceAdd, Nat.reduceSub, List.set_cons_zero, List.set_cons_succ, List.getElem?_cons_zero, List.getElem?_cons_succ, wipe,
  Int.reduceEq, Int.reduceLT, Int.reduceLE, last_snoc, drop_snoc, len_snoc, atK_last, le00, p63, tn0, erz, n00, posS, eqS0, lt00, cutV_to, cutV_from, upd_same, upd_upd, upd_ne, ne_eq, not_false_eq_true, decide_true, decide_false, if_true, if_false, Bool.false_eq_true, Bool.not_true, Bool.not_false, decide_eq_true_eq, Bool.not_eq_true', true_and, and_true, reduceCtorEq, fn_Net, fp_Net_processors, fp_Net_rows, fg_Net_processors, fg_Net_rows, fi_Net_processors, fi_Net_rows, fm_Net_check, fm_Net_put, fm_Net_take, fm_Net_ready, fm_Net_messages, fm_Net_many, is_int_int, is_int_bool, is_int_str, is_int_list, is_int_tuple, is_int_dict, is_bool_int, is_bool_bool, is_bool_str, is_bool_list, is_bool_tuple, is_bool_dict, is_NoneType_int, is_NoneType_bool, is_NoneType_str, is_NoneType_list, is_NoneType_tuple, is_NoneType_dict, is_str_int, is_str_bool, is_str_str, is_str_list, is_str_tuple, is_str_dict, is_list_int, is_list_bool, is_list_str, is_list_list, is_list_tuple, is_list_dict, is_tuple_int, is_tuple_bool, is_tuple_str, is_tuple_list, is_tuple_tuple, is_tuple_dict, is_dict_int, is_dict_bool, is_dict_str, is_dict_list, is_dict_tuple, is_dict_dict, kn_int_int, kn_int_bool, kn_int_str, kn_int_list, kn_int_tuple, kn_int_dict, kn_bool_int, kn_bool_bool, kn_bool_str, kn_bool_list, kn_bool_tuple, kn_bool_dict, kn_NoneType_int, kn_NoneType_bool, kn_NoneType_str, kn_NoneType_list, kn_NoneType_tuple, kn_NoneType_dict, kn_str_int, kn_str_bool, kn_str_str, kn_str_list, kn_str_tuple, kn_str_dict, kn_list_int, kn_list_bool, kn_list_str, kn_list_list, kn_list_tuple, kn_list_dict, kn_tuple_int, kn_tuple_bool, kn_tuple_str, kn_tuple_list, kn_tuple_tuple, kn_tuple_dict, kn_dict_int, kn_dict_bool, kn_dict_str, kn_dict_list, kn_dict_tuple, kn_dict_dict, ite_true, ite_false, $[$ts:term],*])
  | `(tactic| wide_line using [$ts,*]) => `(tactic| simp only [tAsg, gName, tRet, tRetN, tNext, tDrop, tIfS, tIf, tBreak, tCont, tOp, tUn, tC, tCons, tNil, tCB, tCallS, tMakeE, tLst, tTup, tAnd, tOr, tNot, tYes, tSl, tPart, tNoPart, tRaiseN, tTryAs,
  dVar, dAdd, dI2, dI2C, dSub, dMod, dDiv, dPow, dLt, dLe, dGt, dGe, dMul, dEq, dNe, dIs, dIsNot, isNon, dNeg, dAbs, dMax2, dMin2, dInt, dLen, dListOf, dTupleOf, dIx, dFld, dSFld, dSAug, dAug, dTest, dTru, dAndV, dOrV, dNotV, dChain, dAppend, dPop, dPopAt, dInsert, dBM, dBM0, dMethE, dPar, dPar3, dPart, dStar, dAdd2, dMulT, dDivW, dLc2T, dLcE, tTryOnly, wMany, dDG, dSetK, dDG2, keyV, tDisp, tPairs, dIsB, dNotB, tDGet, tDGet2, sDPut, tDNewT, tBM, dGcd, dSl, dRevL, dRevL.seqLst, dCnt, dIn, dNotIn, dSetL, gSub, dgTup, dgCons, dgNil,
  dForL, dForT, dForR1, dForR2, dLc2, dIL, dIT, tAsg2, dLcL, dLcT, dLcR1, dLcR2, dGxT, dGxL, dIsi, dIsE, tyName, seqAt_lst, seqAt_tup, seqAt_frz, lstAt_lst, tupAt_tup, atK_zero, atK_one,
  L2.start, List.map_cons, List.map_nil, List.length_cons, List.length_nil, List.cons_append, List.nil_append, List.replicate, Nat.sub_self, Nat.reduceAdd, Nat.reduceSub, List.set_cons_zero, List.set_cons_succ, List.getElem?_cons_zero, List.getElem?_cons_succ, wipe,
  Int.reduceEq, Int.reduceLT, Int.reduceLE, last_snoc, drop_snoc, len_snoc, atK_last, le00, p63, tn0, erz, n00, posS, eqS0, lt00, cutV_to, cutV_from, upd_same, upd_upd, upd_ne, ne_eq, not_false_eq_true, decide_true, decide_false, if_true, if_false, Bool.false_eq_true, Bool.not_true, Bool.not_false, decide_eq_true_eq, Bool.not_eq_true', true_and, and_true, reduceCtorEq, fn_Net, fp_Net_processors, fp_Net_rows, fg_Net_processors, fg_Net_rows, fi_Net_processors, fi_Net_rows, fm_Net_check, fm_Net_put, fm_Net_take, fm_Net_ready, fm_Net_messages, fm_Net_many, is_int_int, is_int_bool, is_int_str, is_int_list, is_int_tuple, is_int_dict, is_bool_int, is_bool_bool, is_bool_str, is_bool_list, is_bool_tuple, is_bool_dict, is_NoneType_int, is_NoneType_bool, is_NoneType_str, is_NoneType_list, is_NoneType_tuple, is_NoneType_dict, is_str_int, is_str_bool, is_str_str, is_str_list, is_str_tuple, is_str_dict, is_list_int, is_list_bool, is_list_str, is_list_list, is_list_tuple, is_list_dict, is_tuple_int, is_tuple_bool, is_tuple_str, is_tuple_list, is_tuple_tuple, is_tuple_dict, is_dict_int, is_dict_bool, is_dict_str, is_dict_list, is_dict_tuple, is_dict_dict, kn_int_int, kn_int_bool, kn_int_str, kn_int_list, kn_int_tuple, kn_int_dict, kn_bool_int, kn_bool_bool, kn_bool_str, kn_bool_list, kn_bool_tuple, kn_bool_dict, kn_NoneType_int, kn_NoneType_bool, kn_NoneType_str, kn_NoneType_list, kn_NoneType_tuple, kn_NoneType_dict, kn_str_int, kn_str_bool, kn_str_str, kn_str_list, kn_str_tuple, kn_str_dict, kn_list_int, kn_list_bool, kn_list_str, kn_list_list, kn_list_tuple, kn_list_dict, kn_tuple_int, kn_tuple_bool, kn_tuple_str, kn_tuple_list, kn_tuple_tuple, kn_tuple_dict, kn_dict_int, kn_dict_bool, kn_dict_str, kn_dict_list, kn_dict_tuple, kn_dict_dict, ite_true, ite_false, $[$ts:term],*])
  | `(tactic| walk_at "ev") => `(tactic| wp_walk using upd_same)
/-! ### what every law of this kind begins with -/
theorem sz {n : Nat} (h : n ≤ 1000000) : n < sizeLine := by rw [sizeLine_eq]; omega
theorem map_snoc (ms : List Int) (z : Int) : ms.map V.int ++ [V.int z] = (ms ++ [z]).map V.int := by simp
def sp_law_take : Sp := fun vs H Q _ => ∃ (d : Addr) (ns : List Int) (b : Int), vs = [.ref d, .int b] ∧ H d = some (.lst (ns.map V.int)) ∧ 0 < b ∧ ∀ (r : Int) (ns' : List Int), 0 ≤ r → r < b → Q (.int r) (upd H d (.lst (ns'.map V.int)))
def sp_law_draws (K : PySem.W.Frag) : Sp := fun vs H Q _ => ∃ (a : Addr) (ns : List Int), vs = [.ref a] ∧ SqL K H a (ns.map V.int) ∧ ns.length ≤ 63 ∧
  ∀ (d : Addr) (H' : Hp) (ms : List Int), H d = none → Same H H' → H' d = some (.lst (ms.map V.int)) → Q (.ref d) H'
def sp_law_alike (K : PySem.W.Frag) (n : Nat) : Sp := fun vs H Q _ => ∃ (x y : V) (d : PyData), vs = [x, y] ∧ Da H n x d ∧ Da H n y d ∧ ∀ H', Same H H' → Q (.bl true) H'
def sp_law_word (K : PySem.W.Frag) (A : Ads) : SpE := fun a c d vs H Q _ => ∃ (D : Addr) (b1 b2 b3 b4 b5 : Bool) (w : Str), vs = [.ref a] ∧ c = .ref D ∧ d = none ∧ ExcC K D ∧
  PySem.W.kitOne K (.ref D) (.ref A.OutOfRange) = some b1 ∧ PySem.W.kitOne K (.ref D) (.ref A.Malformed) = some b2 ∧ PySem.W.kitOne K (.ref D) (.ref A.NotThere) = some b3 ∧ PySem.W.kitOne K (.ref D) (.ref A.Refused) = some b4 ∧ PySem.W.kitOne K (.ref D) (.ref A.TooMuch) = some b5 ∧
  (b1, b2, b3, b4, b5, w) ∈ ([(true, false, false, false, false, "range"), (false, true, false, false, false, "form"), (false, false, true, false, false, "none"), (false, false, false, true, false, "refused"), (false, false, false, false, true, "much")] : List (Bool × Bool × Bool × Bool × Bool × Str)) ∧
  ∀ H', Same H H' → Q (.str w) H'
/-- an exception's class, and the word for it -/
structure WordOk (K : PySem.W.Frag) (A : Ads) (D : Addr) (w : Str) : Prop where
  ex : ExcC K D
  te : PySem.W.exmOne K (.ref D) (.ref A.TraceError) = some true
  kit : ∃ b1 b2 b3 b4 b5, PySem.W.kitOne K (.ref D) (.ref A.OutOfRange) = some b1 ∧ PySem.W.kitOne K (.ref D) (.ref A.Malformed) = some b2 ∧ PySem.W.kitOne K (.ref D) (.ref A.NotThere) = some b3 ∧ PySem.W.kitOne K (.ref D) (.ref A.Refused) = some b4 ∧ PySem.W.kitOne K (.ref D) (.ref A.TooMuch) = some b5 ∧
    (b1, b2, b3, b4, b5, w) ∈ ([(true, false, false, false, false, "range"), (false, true, false, false, false, "form"), (false, false, true, false, false, "none"), (false, false, false, true, false, "refused"), (false, false, false, false, true, "much")] : List (Bool × Bool × Bool × Bool × Bool × Str))
theorem WordOk.sp {K : PySem.W.Frag} {A : Ads} {D a : Addr} {w : Str} {H : Hp} {Q : VK} {E : XK} (h : WordOk K A D w) (q : ∀ H', Same H H' → Q (.str w) H') : sp_law_word K A a (.ref D) none [.ref a] H Q E :=
  let ⟨b1, b2, b3, b4, b5, h1, h2, h3, h4, h5, m⟩ := h.kit
  ⟨D, b1, b2, b3, b4, b5, w, rfl, rfl, rfl, h.ex, h1, h2, h3, h4, h5, m, q⟩
/-- what is caught is told by its word -/
theorem WordOk.told {K : PySem.W.Frag} {A : Ads} {D : Addr} {w : Str} {i : Nat} {H : Hp} {σ : L2.St} {De : Ends} {Wout : WX} (h : WordOk K A D w) (hi : i < σ.length) (q : ∀ H', Same H H' → De.rt (.str w) H') :
    wAs K (.ref A.TraceError) i (fun a cls d => tRet (tCallE (sp_law_word K A) a cls d (tCons (dVar i) tNil))) Wout De (.ref D) none σ H := by
  refine ⟨true, h.te, fun _ a ha => ?_, fun e => (nomatch e)⟩
  have e : (σ.set i (some (V.ref a)))[i]? = some (some (V.ref a)) := by rw [List.getElem?_set_self hi]
  simp only [tRet, tCallE, tCons, dVar, tNil, e]
  exact h.sp q
/-! ### the law's models, as data -/
def Tz (H : Hp) : Nat → V → PyData → Prop
  | 0, v, d => AtomD v d
  | n + 1, v, d => AtomD v d ∨ ∃ (a : Addr) (xs : List V) (ds : List PyData), v = .ref a ∧ d = .tuple ds ∧ H a = some (.tup xs) ∧ xs.length ≤ 100000 ∧ Paired (Tz H n) xs ds
theorem AtomD.tz {v : V} {d : PyData} {H : Hp} (h : AtomD v d) : ∀ {n : Nat}, Tz H n v d
  | 0 => h
  | _ + 1 => .inl h
theorem Tz.kt {H H' : Hp} (k : KT H H') : ∀ {n : Nat} {v : V} {d : PyData}, Tz H n v d → Tz H' n v d
  | 0, _, _, h => h
  | n + 1, _, _, h => by
    rcases h with h | ⟨a, xs, ds, e1, e2, h, hl, p⟩
    · exact .inl h
    · exact .inr ⟨a, xs, ds, e1, e2, k _ _ h, hl, Paired.mapP p fun _ _ z => Tz.kt k z⟩
theorem Tz.da {H : Hp} : ∀ {n : Nat} {v : V} {d : PyData}, Tz H n v d → Da H n v d
  | 0, _, _, h => h
  | n + 1, _, _, h => by
    rcases h with h | ⟨a, xs, ds, e1, e2, h, hl, p⟩
    · exact .inl h
    · exact .inr (.inr ⟨a, xs, ds, e1, e2, h, hl, Paired.mapP p fun _ _ z => Tz.da z⟩)
theorem Tz.up {H : Hp} : ∀ {n : Nat} {v : V} {d : PyData}, Tz H n v d → Tz H (n + 1) v d
  | 0, _, _, h => .inl h
  | n + 1, _, _, h => by
    rcases h with h | ⟨a, xs, ds, e1, e2, h, hl, p⟩
    · exact .inl h
    · exact .inr ⟨a, xs, ds, e1, e2, h, hl, Paired.mapP p fun _ _ z => Tz.up z⟩
theorem Tz.le {H : Hp} {n m : Nat} {v : V} {d : PyData} (h : Tz H n v d) (hn : n ≤ m) : Tz H m v d := by
  induction hn with
  | refl => exact h
  | step _ ih => exact ih.up
theorem Tz.int {H : Hp} {n : Nat} {i : Int} : Tz H n (.int i) (.int i) := AtomD.tz (.inr (.inr (.inl ⟨i, rfl, rfl⟩)))
theorem Tz.str {H : Hp} {n : Nat} {x : Str} (h : PyData.strOk x = true) : Tz H n (.str x) (.str x) := AtomD.tz (.inr (.inr (.inr ⟨x, rfl, rfl, h⟩)))
theorem Tz.tup {H : Hp} {n : Nat} {a : Addr} {xs : List V} {ds : List PyData} (h : H a = some (.tup xs)) (hl : xs.length ≤ 100000) (p : Paired (Tz H n) xs ds) : Tz H (n + 1) (.ref a) (.tuple ds) := .inr ⟨a, xs, ds, rfl, rfl, h, hl, p⟩
theorem Tz.tuple_inv {H : Hp} {n : Nat} {v : V} {ds : List PyData} (h : Tz H (n + 1) v (.tuple ds)) : ∃ a xs, v = .ref a ∧ H a = some (.tup xs) ∧ xs.length ≤ 100000 ∧ Paired (Tz H n) xs ds := by
  rcases h with h | ⟨a, xs, ds', e1, e2, h, hl, p⟩
  · rcases h with ⟨_, e⟩ | ⟨_, _, e⟩ | ⟨_, _, e⟩ | ⟨_, _, e, _⟩ <;> cases e
  · cases e2; exact ⟨a, xs, e1, h, hl, p⟩
def signs : List Str := ["+", "-", "*", "mod", "<", "=="]
def LeafD (ns : List Str) (d : PyData) : Prop := (∃ i : Int, d = .tuple [.str "num", .int i] ∧ 0 ≤ i ∧ i ≤ 999999) ∨ d = .tuple [.str "load"] ∨ d = .tuple [.str "now"] ∨ ∃ x ∈ ns, d = .tuple [.str "var", .str x]
def ExD (ns : List Str) : Nat → PyData → Prop
  | 0, d => LeafD ns d
  | n + 1, d => LeafD ns d ∨ ∃ s a b, s ∈ signs ∧ d = .tuple [.str "op", .str s, a, b] ∧ ExD ns n a ∧ ExD ns n b
theorem ExD.up {ns : List Str} : ∀ {n : Nat} {d : PyData}, ExD ns n d → ExD ns (n + 1) d
  | 0, _, h => .inl h
  | n + 1, _, h => by
    rcases h with h | ⟨s, a, b, h1, h2, h3, h4⟩
    · exact .inl h
    · exact .inr ⟨s, a, b, h1, h2, h3.up, h4.up⟩
theorem ExD.le {ns : List Str} {n m : Nat} {d : PyData} (h : ExD ns n d) (hn : n ≤ m) : ExD ns m d := by
  induction hn with
  | refl => exact h
  | step _ ih => exact ih.up
theorem ExD.leaf {ns : List Str} {d : PyData} (h : LeafD ns d) : ∀ {n : Nat}, ExD ns n d
  | 0 => h
  | _ + 1 => .inl h
def SayW (w : Str) : Prop := w = "hit" ∨ w = "lost" ∨ w = "n"
def KindW (w : Str) : Prop := w = "go" ∨ w = "up" ∨ w = "via"
def SimpleD (ns : List Str) (d : PyData) : Prop :=
  (∃ x e, x ∈ ns ∧ d = .tuple [.str "set", .str x, e] ∧ ExD ns 2 e) ∨ (∃ x e, x ∈ ns ∧ d = .tuple [.str "draw", .str x, e] ∧ ExD ns 2 e) ∨ (∃ w e, SayW w ∧ d = .tuple [.str "say", .str w, e] ∧ ExD ns 2 e) ∨
  ∃ p k l m, KindW k ∧ d = .tuple [.str "send", p, .str k, l, m] ∧ ExD ns 2 p ∧ ExD ns 2 l ∧ ExD ns 2 m
def StD (ns : List Str) : Nat → PyData → Prop
  | 0, d => SimpleD ns d
  | n + 1, d => SimpleD ns d ∨ ∃ e b1 b2, d = .tuple [.str "if", e, .tuple b1, .tuple b2] ∧ ExD ns 2 e ∧ (∀ x ∈ b1, StD ns n x) ∧ (∀ x ∈ b2, StD ns n x) ∧ b1.length ≤ 5 ∧ b2.length ≤ 5
theorem StD.up {ns : List Str} : ∀ {n : Nat} {d : PyData}, StD ns n d → StD ns (n + 1) d
  | 0, _, h => .inl h
  | n + 1, _, h => by
    rcases h with h | ⟨e, b1, b2, h1, h2, h3, h4, h5, h6⟩
    · exact .inl h
    · exact .inr ⟨e, b1, b2, h1, h2, fun x hx => (h3 x hx).up, fun x hx => (h4 x hx).up, h5, h6⟩
theorem StD.le {ns : List Str} {n m : Nat} {d : PyData} (h : StD ns n d) (hn : n ≤ m) : StD ns m d := by
  induction hn with
  | refl => exact h
  | step _ ih => exact ih.up
theorem StD.simple {ns : List Str} {d : PyData} (h : SimpleD ns d) : ∀ {n : Nat}, StD ns n d
  | 0 => h
  | _ + 1 => .inl h
def OkNs (ns : List Str) : Prop := ns.length ≤ 5 ∧ ∀ x ∈ ns, PyData.strOk x = true
def NsAt (H : Hp) (nl : Addr) (ns : List Str) : Prop := H nl = some (.lst (ns.map V.str))
def sp_law_expression (n : Nat) : Sp := fun vs H Q _ => ∃ (dr nl : Addr) (ns : List Str) (k : Nat), vs = [.ref dr, .ref nl, .int k] ∧ k ≤ n ∧ DrawsAt H dr ∧ NsAt H nl ns ∧ nl ≠ dr ∧ OkNs ns ∧
  ∀ v e H', Keep [dr] H H' → DrawsAt H' dr → Tz H' (k + 1) v e → ExD ns k e → Q v H'
/-- a body: a tuple of statements -/
def BodyAt (H : Hp) (ns : List Str) (n : Nat) (v : V) : Prop := ∃ ds, Tz H (2 * n + 5) v (.tuple ds) ∧ ds.length ≤ 5 ∧ ∀ x ∈ ds, StD ns n x
def sp_law_body (n : Nat) : Sp := fun vs H Q _ => ∃ (dr nl kl : Addr) (ns : List Str) (ks : List Str) (k : Nat), vs = [.ref dr, .ref nl, .ref kl, .int k] ∧ k ≤ n ∧ DrawsAt H dr ∧ NsAt H nl ns ∧ nl ≠ dr ∧ OkNs ns ∧
  ∀ v ds H', Keep [dr] H H' → DrawsAt H' dr → Tz H' (2 * k + 5) v (.tuple ds) → ds.length ≤ 3 → (∀ x ∈ ds, StD ns k x) → Q v H'
def OkKs (ks : List Str) : Prop := ks ≠ [] ∧ ks.length ≤ 3 ∧ ∀ x ∈ ks, KindW x
def sp_law_send : Sp := fun vs H Q _ => ∃ (dr nl kl : Addr) (ns ks : List Str), vs = [.ref dr, .ref nl, .ref kl] ∧ DrawsAt H dr ∧ NsAt H nl ns ∧ nl ≠ dr ∧ OkNs ns ∧ NsAt H kl ks ∧ kl ≠ dr ∧ OkKs ks ∧
  ∀ v d H', Keep [dr] H H' → DrawsAt H' dr → Tz H' 4 v d → SimpleD ns d → Q v H'
def sp_law_many (n : Nat) : Sp := fun vs H Q _ => ∃ (v : V) (d : PyData), vs = [v] ∧ Tz H n v d ∧ ∀ (i : Int) H', Same H H' → 0 ≤ i → Q (.int i) H'
theorem Tz.int_inv {H : Hp} {n : Nat} {v : V} {x : Int} (h : Tz H n v (.int x)) : v = .int x := by
  have aux : AtomD v (.int x) → v = .int x := fun h => by rcases h with ⟨_, e⟩ | ⟨_, _, e⟩ | ⟨_, rfl, e⟩ | ⟨_, _, e, h⟩ <;> cases e; rfl
  cases n with
  | zero => exact aux h
  | succ n =>
    rcases h with h | ⟨_, _, _, _, e, _⟩
    · exact aux h
    · cases e
theorem Tz.str_inv {H : Hp} {n : Nat} {v : V} {x : Str} (h : Tz H n v (.str x)) : v = .str x := by
  have aux : AtomD v (.str x) → v = .str x := fun h => by rcases h with ⟨_, e⟩ | ⟨_, _, e⟩ | ⟨_, _, e⟩ | ⟨_, rfl, e, h⟩ <;> cases e; rfl
  cases n with
  | zero => exact aux h
  | succ n =>
    rcases h with h | ⟨_, _, _, _, e, _⟩
    · exact aux h
    · cases e
def placeNames : List Str := ["ash", "bay", "cot", "dip", "elm"]
def varNames : List Str := ["a", "b", "c"]
def varD (x : Str) (i : Int) : PyData := .tuple [.str x, .int i]
def RuleD (ns : List Str) (d : PyData) : Prop := ∃ k b, d = .tuple [.str k, .tuple b] ∧ KindW k ∧ b.length ≤ 5 ∧ ∀ s ∈ b, StD ns 3 s
def PlaceD (nm : Str) (d : PyData) : Prop := ∃ (ns : List Str) (is : List Int) (rules : List PyData), d = .tuple [.str nm, .tuple (List.zipWith varD ns is), .tuple rules] ∧ (∃ r, ns = varNames.take r) ∧ is.length = ns.length ∧ (∀ i ∈ is, 0 ≤ i ∧ i ≤ 999999) ∧ rules.length ≤ 3 ∧ ∀ r ∈ rules, RuleD ns r
def ModelD (ds : List PyData) : Prop := 0 < ds.length ∧ ds.length ≤ 5 ∧ ∀ (j : Nat) d, ds[j]? = some d → ∃ nm, placeNames[j]? = some nm ∧ PlaceD nm d
/-- the heaps' tuples, those whose object is told among them, stay -/
def KTF (H H' : Hp) : Prop := ∀ a o, H a = some o → ((∃ xs, o = .tup xs) ∨ ∃ ob xs, o = .frz ob (.tup xs)) → H' a = some o
theorem KTF.trans {H H1 H2 : Hp} (a : KTF H H1) (b : KTF H1 H2) : KTF H H2 := fun x o e h => b x o (a x o e h) h
theorem KTF.same {H H' : Hp} (k : Same H H') : KTF H H' := fun x o e _ => k x o e
theorem KTF.kt {H H' : Hp} (k : KTF H H') : KT H H' := fun a xs e => k a _ e (.inl ⟨xs, rfl⟩)
theorem KTF.list {H : Hp} {a : Addr} {xs : List V} {u : HO} (h : H a = some (.lst xs)) : KTF H (upd H a u) := fun b o e ht => by
  rw [upd_ne]
  · exact e
  · rintro rfl
    rw [h] at e
    cases e
    rcases ht with ⟨_, e⟩ | ⟨_, _, e⟩ <;> cases e
theorem keep_ktf {H H' : Hp} {d : Addr} (k : Keep [d] H H') (h : DrawsAt H d) : KTF H H' := fun a o e ht => by
  obtain ⟨ms, hm⟩ := h
  refine k a _ e ?_
  simp only [List.mem_singleton]
  rintro rfl
  rw [hm] at e
  cases e
  rcases ht with ⟨_, e⟩ | ⟨_, _, e⟩ <;> cases e
/-- a place of a model in the heap: its rules are a tuple whose object is told -/
def PlAt (H : Hp) (v : V) (d : PyData) : Prop := ∃ (a : Addr) (nm : Str) (va : V) (vd : PyData) (ra : Addr) (ob : Obj) (rx : List V) (rd : List PyData), v = .ref a ∧ d = .tuple [.str nm, vd, .tuple rd] ∧ H a = some (.tup [.str nm, va, .ref ra]) ∧ Tz H 2 va vd ∧ H ra = some (.frz ob (.tup rx)) ∧ PlainTup ob ∧ rx.length ≤ 100000 ∧ Paired (Tz H 12) rx rd
theorem PlAt.kt {H H' : Hp} (k : KTF H H') {v : V} {d : PyData} (h : PlAt H v d) : PlAt H' v d := by
  obtain ⟨a, nm, va, vd, ra, ob, rx, rd, rfl, rfl, ha, z, hr, po, l, p⟩ := h
  exact ⟨a, nm, va, vd, ra, ob, rx, rd, rfl, rfl, k _ _ ha (.inl ⟨_, rfl⟩), z.kt k.kt, k _ _ hr (.inr ⟨_, _, rfl⟩), po, l, Paired.mapP p fun _ _ z => z.kt k.kt⟩
/-- a model in the heap -/
def MdAt (H : Hp) (v : V) (ds : List PyData) : Prop := ∃ (a : Addr) (xs : List V), v = .ref a ∧ H a = some (.tup xs) ∧ xs.length ≤ 100000 ∧ Paired (PlAt H) xs ds
theorem MdAt.kt {H H' : Hp} (k : KTF H H') {v : V} {ds : List PyData} (h : MdAt H v ds) : MdAt H' v ds := by
  obtain ⟨a, xs, rfl, ha, l, p⟩ := h
  exact ⟨a, xs, rfl, k _ _ ha (.inl ⟨_, rfl⟩), l, Paired.mapP p fun _ _ z => z.kt k⟩
def sp_law_model : Sp := fun vs H Q _ => ∃ (dr : Addr) (most : Int), vs = [.ref dr, .int most] ∧ DrawsAt H dr ∧ 0 < most ∧ most ≤ 5 ∧ ∀ v ds H', Keep [dr] H H' → DrawsAt H' dr → MdAt H' v ds → ModelD ds → Q v H'
def StartD (ds : List PyData) (d : PyData) : Prop := ∃ (t l : Int) (nm k : Str) (j : Nat), d = .tuple [.int t, .str nm, .str k, .int l] ∧ 0 ≤ t ∧ t < 9 ∧ j < ds.length ∧ placeNames[j]? = some nm ∧ KindW k ∧ 0 ≤ l ∧ l < 99
def sp_law_starts : Sp := fun vs H Q _ => ∃ (dr : Addr) (mv : V) (ds : List PyData), vs = [.ref dr, mv] ∧ DrawsAt H dr ∧ MdAt H mv ds ∧ ModelD ds ∧ ∀ v ss H', Keep [dr] H H' → DrawsAt H' dr → Tz H' 2 v (.tuple ss) → 0 < ss.length → ss.length ≤ 5 → (∀ s ∈ ss, StartD ds s) → Q v H'
/-! ### order of data -/
mutual
theorem eqv_eq : ∀ x y : PyData, PySem.W.alike x y = true → PyData.eqv x y = true → x = y
  | .none, .none, _, _ => rfl
  | .none, .bool _, h, _ => absurd h (by simp [PySem.W.alike])
  | .none, .int _, h, _ => absurd h (by simp [PySem.W.alike])
  | .none, .str _, h, _ => absurd h (by simp [PySem.W.alike])
  | .none, .list _, h, _ => absurd h (by simp [PySem.W.alike])
  | .none, .tuple _, h, _ => absurd h (by simp [PySem.W.alike])
  | .none, .dict _, h, _ => absurd h (by simp [PySem.W.alike])
  | .bool _, y, h, e => by cases y <;> first | (simp [PySem.W.alike] at h; done) | (simp [PyData.eqv] at e; rw [e])
  | .int _, y, h, e => by cases y <;> first | (simp [PySem.W.alike] at h; done) | (simp [PyData.eqv] at e; rw [e])
  | .str _, y, h, e => by cases y <;> first | (simp [PySem.W.alike] at h; done) | (simp [PyData.eqv] at e; rw [e])
  | .list xs, y, h, e => by
    cases y with
    | list ys => rw [eqvAll_eq xs ys (by simpa [PySem.W.alike] using h) (by simpa [PyData.eqv] using e)]
    | _ => simp [PySem.W.alike] at h
  | .tuple xs, y, h, e => by
    cases y with
    | tuple ys => rw [eqvAll_eq xs ys (by simpa [PySem.W.alike] using h) (by simpa [PyData.eqv] using e)]
    | _ => simp [PySem.W.alike] at h
  | .dict _, y, h, _ => absurd h (by cases y <;> simp [PySem.W.alike])
theorem eqvAll_eq : ∀ xs ys : List PyData, PySem.W.alikeAll xs ys = true → PyData.eqvAll xs ys = true → xs = ys
  | [], [], _, _ => rfl
  | [], _ :: _, _, e => absurd e (by simp [PyData.eqvAll])
  | _ :: _, [], _, e => absurd e (by simp [PyData.eqvAll])
  | x :: xs, y :: ys, h, e => by
    obtain ⟨h1, h2⟩ := PySem.W.alike_all_cons h
    have e' : PyData.eqv x y = true ∧ PyData.eqvAll xs ys = true := by simpa [PyData.eqvAll] using e
    rw [eqv_eq x y h1 e'.1, eqvAll_eq xs ys h2 e'.2]
end
theorem lt_self (d : PyData) : PySem.W.dataLt d d = false := PyProof.Rows.lex_irrefl _
theorem lt_trans' {x y z : PyData} (h1 : PySem.W.dataLt x y = true) (h2 : PySem.W.dataLt y z = true) : PySem.W.dataLt x z = true := PyProof.Rows.lex_trans _ _ _ h1 h2
theorem lt_total' {x y : PyData} (h : PySem.W.alike x y = true) (h1 : PySem.W.dataLt x y = false) (h2 : PySem.W.dataLt y x = false) : x = y := by
  have e : PySem.W.keyToks x = PySem.W.keyToks y := PyProof.Rows.lex_total _ _ h1 h2
  cases c : PyData.eqv x y with
  | true => exact eqv_eq x y h c
  | false =>
    have q := (PySem.W.toks_eqv x y h).2 c [] [Sum.inl 0]
    rw [e, PyProof.Rows.lex_irrefl] at q
    have : PyProof.Rows.lexLt PyProof.Rows.itemOrd (PySem.W.keyToks y ++ []) (PySem.W.keyToks y ++ [Sum.inl 0]) = true := by rw [PySem.W.lex_pre]; rfl
    rw [this] at q
    cases q
theorem lt_neg {x y z : PyData} (h1 : PySem.W.dataLt y x = false) (h2 : PySem.W.dataLt z y = false) : PySem.W.dataLt z x = false := by
  cases c : PySem.W.dataLt z x with
  | false => rfl
  | true =>
    rcases PyProof.Rows.lex_negTrans _ (PySem.W.keyToks y) _ c with h | h
    · exact absurd h (by show ¬ PySem.W.dataLt z y = true; rw [h2]; decide)
    · exact absurd h (by show ¬ PySem.W.dataLt y x = true; rw [h1]; decide)
/-! ### numbers, pairs, nets -/
abbrev Pr := Int × Int
def keyP (p : Pr) : List L2.Key := [.inl p.1, .inl p.2]
def prD (p : Pr) : PyData := .tuple [.int p.1, .int p.2]
def sortP (ps : List Pr) : List Pr := ps.mergeSort (PySem.W.dataLe false prD)
def Scal (v : V) : Prop := (∃ i, v = .int i) ∨ (∃ b, v = .bl b) ∨ v = .non ∨ ∃ x, v = .str x
def numB : V → Int → Int → Bool
  | .int i, lo, hi => decide (lo ≤ i) && decide (i ≤ hi)
  | _, _, _ => false
def prOf : V → V → Int → Option Pr
  | .int i, .int j, n => if (0 ≤ i ∧ i ≤ n - 1) ∧ (0 ≤ j ∧ j ≤ n - 1) ∧ i ≠ j then some (i, j) else none
  | _, _, _ => none
def upP {α : Type} (M : Pr → List α) (p : Pr) (l : List α) : Pr → List α := fun q => if q = p then l else M q
/-- a dict of lists, by pairs -/
def DAt (av : Addr) (H : Hp) (td : Addr) (n : Int) (M : Pr → List V) : Prop := ∃ kvs ps, H td = some (.dT kvs) ∧ Paired (fun e q => e.1 = keyP q ∧ ∃ l, e.2 = .ref l ∧ l ≠ av ∧ H l = some (.lst (M q))) kvs ps ∧ H av ≠ none ∧ ps.Nodup ∧ (∀ q, M q ≠ [] → q ∈ ps) ∧ (∀ q ∈ ps, (0 ≤ q.1 ∧ q.1 ≤ n - 1) ∧ 0 ≤ q.2 ∧ q.2 ≤ n - 1) ∧ n ≤ 8 ∧ ∀ q, (M q).length ≤ 1000
def NetAt (A : Ads) (av : Addr) (H : Hp) (f td : Addr) (n : Int) (M : Pr → List V) : Prop := (∃ dx, H f = some (.ins A.Net dx (fl_Net (.int n) (.ref td)))) ∧ DAt av H td n M
def FullP {α : Type} (M : Pr → List α) (ps : List Pr) : Prop := ps.Nodup ∧ ∀ q, q ∈ ps ↔ M q ≠ []
/-- all but the table of a def stand -/
def Tbd (P : Addr) (H H' : Hp) : Prop := GxR.TabG H' P ∧ Keep [P] H H'
def sp_is_number : Sp := fun vs H Q _ => ∃ (v : V) (lo hi : Int), vs = [v, .int lo, .int hi] ∧ Scal v ∧ Q (.bl (numB v lo hi)) H
def TupOr (H : Hp) (v : V) (xs : Option (List V)) : Prop := match xs with
  | some xs => (∃ a, v = .ref a ∧ H a = some (.tup xs)) ∧ ∀ x ∈ xs, Scal x
  | none => Scal v ∨ ∃ a xs, v = .ref a ∧ H a = some (.lst xs)
def mapB (m : Nat) (n : Int) : Option (List V) → Bool
  | some xs => decide (xs.length = m) && xs.all fun x => numB x 0 (n - 1)
  | none => false
def schB : Option (List V) → Bool
  | some xs => decide (0 < xs.length) && xs.all fun x => numB x 0 1000000000
  | none => false
def sp_is_map (A : Ads) : Sp := fun vs H Q _ => ∃ (m : Addr) (n : Int) (v : V) (ms : List V) (xs : Option (List V)), vs = [.ref m, .int n, v] ∧ H m = some (.tup ms) ∧ TupOr H v xs ∧ GxR.TabG H A.P_is_map ∧ ∀ H', Tbd A.P_is_map H H' → Q (.bl (mapB ms.length n xs)) H'
def sp_is_schedule (A : Ads) : Sp := fun vs H Q _ => ∃ (v : V) (xs : Option (List V)), vs = [v] ∧ TupOr H v xs ∧ GxR.TabG H A.P_is_schedule ∧ ∀ H', Tbd A.P_is_schedule H H' → Q (.bl (schB xs)) H'
def sp_chosen : Sp := fun vs H Q _ => ∃ (a : Addr) (k : Int) (o : Addr) (ns : List Int) (xs : List V) (i : Int) (v : V), vs = [.ref a, .int k, .ref o] ∧ H a = some (.tup (ns.map V.int)) ∧ H o = some (.lst xs) ∧ 0 ≤ k ∧ ns[(k % (ns.length : Int)).toNat]? = some i ∧ 0 ≤ i ∧ xs[(i % (xs.length : Int)).toNat]? = some v ∧ Q v H
def sp_Net__init_ (A : Ads) : Sp := fun vs H Q _ => ∃ (av f dx : Addr) (n : Int), vs = [.ref f, .int n] ∧ H av ≠ none ∧ H f = some (.ins A.Net dx []) ∧ n ≤ 8 ∧ ∀ H' td, Keep [f] H H' → H td = none → NetAt A av H' f td n (fun _ => []) → Q .non H'
def sp_Net_check (A : Ads) : Sp := fun vs H Q E => ∃ (av f td : Addr) (n : Int) (M : Pr → List V) (x y : V), vs = [.ref f, x, y] ∧ NetAt A av H f td n M ∧ Scal x ∧ Scal y ∧ (prOf x y n = none → E (.ref A.NotThere) none H) ∧ (∀ p, prOf x y n = some p → Q .non H)
def sp_Net_put (A : Ads) : Sp := fun vs H Q E => ∃ (av f td : Addr) (n : Int) (M : Pr → List V) (x y m : V), vs = [.ref f, x, y, m] ∧ NetAt A av H f td n M ∧ Scal x ∧ Scal y ∧ (prOf x y n = none → E (.ref A.NotThere) none H) ∧ (∀ p, prOf x y n = some p → (M p).length < 1000 ∧ ∀ H', Keep [td] H H' → NetAt A av H' f td n (upP M p (M p ++ [m])) → Q .non H')
def sp_Net_take (A : Ads) : Sp := fun vs H Q E => ∃ (av f td : Addr) (n : Int) (M : Pr → List V) (x y : V), vs = [.ref f, x, y] ∧ NetAt A av H f td n M ∧ Scal x ∧ Scal y ∧ (prOf x y n = none → E (.ref A.NotThere) none H) ∧
  (∀ p, prOf x y n = some p → (M p = [] → ∀ H', Same H H' → E (.ref A.NotThere) none H') ∧ ∀ v t, M p = v :: t → ∀ H', Keep [td] H H' → NetAt A av H' f td n (upP M p t) → Q v H')
def sp_Net_ready (A : Ads) : Sp := fun vs H Q _ => ∃ (av f td : Addr) (n : Int) (M : Pr → List V), vs = [.ref f] ∧ NetAt A av H f td n M ∧ ∀ q H' ps, Same H H' → FullP M ps → Tz H' 2 (.ref q) (.tuple ((sortP ps).map prD)) → Q (.ref q) H'
def sp_Net_messages (A : Ads) : Sp := fun vs H Q _ => ∃ (av f td : Addr) (n : Int) (M : Pr → List V), vs = [.ref f] ∧ NetAt A av H f td n M ∧ ∀ D H' ps, H D = none → Same H H' → FullP M ps → H' D = some (.lst ((sortP ps).flatMap M)) → Q (.ref D) H'
def sp_Net_many (A : Ads) : Sp := fun vs H Q _ => ∃ (av f td : Addr) (n : Int) (M : Pr → List V), vs = [.ref f] ∧ NetAt A av H f td n M ∧ ∀ H' ps, Same H H' → FullP M ps → Q (.int (((sortP ps).flatMap M).length : Nat)) H'
def sp_law_says : Sp := fun vs H Q _ => ∃ (b c : Bool), vs = [.bl b, .bl c] ∧ Q (.bl (b == c)) H
def sp_law_told (A : Ads) : Sp := fun vs H Q _ => ∃ (av f td : Addr) (n : Int) (M : Pr → List V) (w : Bool) (x y : V), vs = [.ref f, .int (if w = true then 1 else 0), x, y] ∧ NetAt A av H f td n M ∧ Scal x ∧ Scal y ∧ (prOf x y n = none → ∀ H', Same H H' → Q (.str "none") H') ∧
  (∀ p, prOf x y n = some p → w = false ∧ (M p = [] → ∀ H', Same H H' → Q (.str "none") H') ∧ ∀ v t, M p = v :: t → ∀ H', Keep [td] H H' → NetAt A av H' f td n (upP M p t) → Q v H')
def sp_law (K : PySem.W.Frag) (A : Ads) : Sp := fun vs H Q _ => ∃ (a : Addr) (ns : List Int), vs = [.ref a] ∧ SqL K H a (ns.map V.int) ∧ ns.length ≤ 63 ∧ TabsOk A H ∧ ∀ H', Q (.bl true) H'
def t_is_number (K : PySem.W.Frag) (A : Ads) (E : XK)  : TS :=
  (tRet (dAndV (tCB dIsi (tCons (dVar 0) (tCons (tC (.ty "int")) tNil))) (dAndV (dNotV (tCB dIsi (tCons (dVar 0) (tCons (tC (.ty "bool")) tNil)))) (dChain dLe dLe (dVar 1) (dVar 0) (dVar 2)))))
def t_is_map (K : PySem.W.Frag) (A : Ads) (E : XK)  : TS :=
  (tSeq (tIfS (tOr (tNot (dTru (tCB dIsi (tCons (dVar 2) (tCons (tC (.ty "tuple")) tNil))))) (dTest (tOp dNe (tCB dLen (tCons (dVar 2) tNil)) (tCB dLen (tCons (dVar 0) tNil)))))
  (tRet (tC (.bl false)))
  tNext)
  (tRet (dGxT K false A.P_is_map (dVar 2) (gName 3) tYes (tCallS sp_is_number (fun _ => E0) (tCons (dVar 3) (tCons (tC (.int 0)) (tCons (tOp dSub (dVar 1) (tC (.int 1))) tNil)))) [3])))
def t_is_schedule (K : PySem.W.Frag) (A : Ads) (E : XK)  : TS :=
  (tRet (dAndV (tCB dIsi (tCons (dVar 0) (tCons (tC (.ty "tuple")) tNil))) (dAndV (tOp dGt (tCB dLen (tCons (dVar 0) tNil)) (tC (.int 0))) (dGxT K false A.P_is_schedule (dVar 0) (gName 1) tYes (tCallS sp_is_number (fun _ => E0) (tCons (dVar 1) (tCons (tC (.int 0)) (tCons (tC (.int 1000000000)) tNil)))) [1]))))
def t_chosen (K : PySem.W.Frag) (A : Ads) (E : XK)  : TS :=
  (tRet (tOp dIx (dVar 2) (tOp dMod (tOp dIx (dVar 0) (tOp dMod (dVar 1) (tCB dLen (tCons (dVar 0) tNil)))) (tCB dLen (tCons (dVar 2) tNil)))))
def t_Net__init_ (K : PySem.W.Frag) (A : Ads) (E : XK)  : TS :=
  (tSeq (dSFld A.Net (dVar 0) (dVar 1) "processors")
  (dSFld A.Net (dVar 0) tDNewT "rows"))
def t_Net_check (K : PySem.W.Frag) (A : Ads) (E : XK)  : TS :=
  (tSeq (tIfS (tOr (tNot (dTru (tCallS sp_is_number (fun _ => E0) (tCons (dVar 1) (tCons (tC (.int 0)) (tCons (tOp dSub (dFld A.Net (dVar 0) "processors") (tC (.int 1))) tNil)))))) (tNot (dTru (tCallS sp_is_number (fun _ => E0) (tCons (dVar 2) (tCons (tC (.int 0)) (tCons (tOp dSub (dFld A.Net (dVar 0) "processors") (tC (.int 1))) tNil)))))))
  (tRaiseN (fun cls d _ H => E cls d H) A.NotThere)
  tNext)
  (tIfS (dTest (tOp dEq (dVar 1) (dVar 2)))
  (tRaiseN (fun cls d _ H => E cls d H) A.NotThere)
  tNext))
def t_Net_put (K : PySem.W.Frag) (A : Ads) (E : XK)  : TS :=
  (tSeq (tDrop (dMethE A.Net "check" (sp_Net_check A) (WE fun cls d _ H => E cls d H) (dVar 0) (tCons (dVar 1) (tCons (dVar 2) tNil))))
  (sDPut (dFld A.Net (dVar 0) "rows") (tTup (tCons (dVar 1) (tCons (dVar 2) tNil))) (tLst (dStar (tDGet2 (dFld A.Net (dVar 0) "rows") (tTup (tCons (dVar 1) (tCons (dVar 2) tNil))) (tLst tNil)) (tCons (dVar 3) tNil)))))
def t_Net_take (K : PySem.W.Frag) (A : Ads) (E : XK)  : TS :=
  (tSeq (tDrop (dMethE A.Net "check" (sp_Net_check A) (WE fun cls d _ H => E cls d H) (dVar 0) (tCons (dVar 1) (tCons (dVar 2) tNil))))
  (tSeq (tAsg (tDGet2 (dFld A.Net (dVar 0) "rows") (tTup (tCons (dVar 1) (tCons (dVar 2) tNil))) (tLst tNil)) (gName 3))
  (tSeq (tIfS (dTest (tOp dEq (tCB dLen (tCons (dVar 3) tNil)) (tC (.int 0))))
  (tRaiseN (fun cls d _ H => E cls d H) A.NotThere)
  tNext)
  (tSeq (sDPut (dFld A.Net (dVar 0) "rows") (tTup (tCons (dVar 1) (tCons (dVar 2) tNil))) (tSl dSl (dVar 3) (dPart (tC (.int 1))) tNoPart))
  (tRet (tOp dIx (dVar 3) (tC (.int 0))))))))
def t_Net_ready (K : PySem.W.Frag) (A : Ads) (E : XK)  : TS :=
  (tRet (tCB dTupleOf (tCons (tCB (rSortD K) (tCons (tLockE (tLc (iItemsT (dFld A.Net (dVar 0) "rows")) (dgTup 2 (dgCons (gName 1) (dgCons (gName 2) dgNil))) (dTest (tOp dGt (tCB dLen (tCons (dVar 2) tNil)) (tC (.int 0)))) (dVar 1) [1, 2])) tNil)) tNil)))
def t_Net_messages (K : PySem.W.Frag) (A : Ads) (E : XK)  : TS :=
  (tSeq (tAsg (tLst tNil) (gName 1))
  (tSeq (dForL K (tCB rSortKT (tCons (dFld A.Net (dVar 0) "rows") tNil)) (gName 2)
  (tAug 1 (tDGet (dFld A.Net (dVar 0) "rows") (dVar 2)) rExt2))
  (tRet (dVar 1))))
def t_Net_many (K : PySem.W.Frag) (A : Ads) (E : XK)  : TS :=
  (tRet (tCB dLen (tCons (dMethE A.Net "messages" (sp_Net_messages A) (fun _ => E0) (dVar 0) tNil) tNil)))
def t_law_draws (K : PySem.W.Frag) (A : Ads) (E : XK)  : TS :=
  (tSeq (tAsg (tLst tNil) (gName 1))
  (tSeq (dForL K (dVar 0) (gName 2)
  (tSeq (tAsg (tCB dAbs (tCons (dVar 2) tNil)) (gName 3))
  (tSeq (tIfS (dTest (tOp dLt (dVar 3) (tOp dPow (tC (.int 10)) (tC (.int 18)))))
  (tSeq (tAsg (tOp dMod (tCB dInt (tCons (tOp dAdd2 (tOp dMul (dVar 3) (tC (.int 48271))) (tC (.int 11))) tNil)) (tC (.int 2147483647))) (gName 4))
  (tSeq (tDrop (dBM dAppend (dVar 1) (tCons (tOp dMod (tCB dInt (tCons (tOp dAdd2 (tOp dMul (dVar 4) (tC (.int 69621))) (dVar 3)) tNil)) (tC (.int 2147483629))) tNil)))
  (tSeq (tDrop (dBM dAppend (dVar 1) (tCons (tOp dMod (tCB dInt (tCons (tOp dAdd2 (dVar 4) (tOp dDiv (dVar 3) (tC (.int 7)))) tNil)) (tC (.int 1000003))) tNil)))
  (tAsg (tC (.int 0)) (gName 3)))))
  tNext)
  (dForR1 (tCons (tC (.int 60)) tNil) (gName 5)
  (tIfS (dTest (tOp dGt (dVar 3) (tC (.int 0))))
  (tSeq (tDrop (dBM dAppend (dVar 1) (tCons (tOp dMod (tCB dInt (tCons (dVar 3) tNil)) (tC (.int 997))) tNil)))
  (tAsg (tOp dDiv (dVar 3) (tC (.int 997))) (gName 3)))
  tNext)))))
  (tSeq (tAsg (tC (.int 1)) (gName 6))
  (tSeq (tIfS (dTest (tOp dGt (tCB (uLen K) (tCons (dVar 0) tNil)) (tC (.int 0))))
  (tAsg (tOp dAdd2 (tC (.int 1)) (tCB dAbs (tCons (tOp (rIx K) (dVar 0) (tC (.int 0))) tNil))) (gName 6))
  tNext)
  (tSeq (dForR1 (tCons (tC (.int 900)) tNil) (gName 5)
  (tSeq (tAsg (tOp dMod (tCB dInt (tCons (tOp dAdd2 (tOp dMul (dVar 6) (tC (.int 48271))) (tC (.int 69621))) tNil)) (tC (.int 2147483647))) (gName 6))
  (tDrop (dBM dAppend (dVar 1) (tCons (tOp dDiv (dVar 6) (tC (.int 5))) tNil)))))
  (tRet (tListRev K (dVar 1))))))))
def t_law_take (K : PySem.W.Frag) (A : Ads) (E : XK)  : TS :=
  (tSeq (tIfS (dTest (tOp dEq (tCB dLen (tCons (dVar 0) tNil)) (tC (.int 0))))
  (tRet (tC (.int 0)))
  tNext)
  (tRet (tOp dMod (tCB dInt (tCons (dBM0 dPop (dVar 0)) tNil)) (dVar 1))))
def t_law_alike (K : PySem.W.Frag) (A : Ads) (E : XK) (sq : Sp) : TS :=
  (tSeq (tIfS (tOr (dTru (tCB dIsi (tCons (dVar 1) (tCons (tC (.ty "list")) tNil)))) (dTru (tCB dIsi (tCons (dVar 1) (tCons (tC (.ty "tuple")) tNil)))))
  (tSeq (tIfS (tOr (dTest (tOp dNe (tCB dIsi (tCons (dVar 0) (tCons (tC (.ty "list")) tNil))) (tCB dIsi (tCons (dVar 1) (tCons (tC (.ty "list")) tNil))))) (dTest (tOp dNe (tCB dIsi (tCons (dVar 0) (tCons (tC (.ty "tuple")) tNil))) (tCB dIsi (tCons (dVar 1) (tCons (tC (.ty "tuple")) tNil))))))
  (tRet (tC (.bl false)))
  tNext)
  (tRet (dAndV (tOp dEq (tCB dLen (tCons (dVar 0) tNil)) (tCB dLen (tCons (dVar 1) tNil))) (tOp (dEqD K) (dLcR1 (tCons (tCB dLen (tCons (dVar 1) tNil)) tNil) (gName 2) (tNot (dTru (tCallS sq (fun _ => E0) (tCons (tOp dIx (dVar 0) (dVar 2)) (tCons (tOp dIx (dVar 1) (dVar 2)) tNil))))) (dVar 2) [2]) (tLst tNil)))))
  tNext)
  (tSeq (tIfS (dTest (tOp dIs (dVar 1) (tC .non)))
  (tRet (tOp dIs (dVar 0) (tC .non)))
  tNext)
  (tSeq (tIfS (tOr (dTru (tCB dIsi (tCons (dVar 1) (tCons (tC (.ty "bool")) tNil)))) (dTru (tCB dIsi (tCons (dVar 0) (tCons (tC (.ty "bool")) tNil)))))
  (tRet (dAndV (tCB dIsi (tCons (dVar 0) (tCons (tC (.ty "bool")) tNil))) (dAndV (tCB dIsi (tCons (dVar 1) (tCons (tC (.ty "bool")) tNil))) (tOp dEq (dVar 0) (dVar 1)))))
  tNext)
  (tSeq (tIfS (dTru (tCB dIsi (tCons (dVar 1) (tCons (tC (.ty "int")) tNil))))
  (tRet (dAndV (tCB dIsi (tCons (dVar 0) (tCons (tC (.ty "int")) tNil))) (tOp dEq (dVar 0) (dVar 1))))
  tNext)
  (tRet (dAndV (tCB dIsi (tCons (dVar 0) (tCons (tC (.ty "str")) tNil))) (tOp dEq (dVar 0) (dVar 1))))))))
def t_law_says (K : PySem.W.Frag) (A : Ads) (E : XK)  : TS :=
  (tRet (dAndV (tCB dIsi (tCons (dVar 0) (tCons (tC (.ty "bool")) tNil))) (tOp dEq (dVar 0) (dVar 1))))
def t_law_word (K : PySem.W.Frag) (A : Ads) (E : XK) (ax D : Addr) : TS :=
  (tSeq (tAsg (tLst (tCons (tCB (dIsE K D ax) (tCons (dVar 0) (tCons (tC (.ref A.OutOfRange)) tNil))) (tCons (tCB (dIsE K D ax) (tCons (dVar 0) (tCons (tC (.ref A.Malformed)) tNil))) (tCons (tCB (dIsE K D ax) (tCons (dVar 0) (tCons (tC (.ref A.NotThere)) tNil))) (tCons (tCB (dIsE K D ax) (tCons (dVar 0) (tCons (tC (.ref A.Refused)) tNil))) (tCons (tCB (dIsE K D ax) (tCons (dVar 0) (tCons (tC (.ref A.TooMuch)) tNil))) tNil)))))) (gName 1))
  (tSeq (tIfS (dTest (tOp dNe (tCB dLen (tCons (dLcL K (dVar 1) (gName 2) (dTru (dVar 2)) (dVar 2) [2]) tNil)) (tC (.int 1))))
  (tRet (tC (.str "many")))
  tNext)
  (tRet (tOp dIx (tLst (tCons (tC (.str "range")) (tCons (tC (.str "form")) (tCons (tC (.str "none")) (tCons (tC (.str "refused")) (tCons (tC (.str "much")) tNil)))))) (dBM (rIndex K) (dVar 1) (tCons (tC (.bl true)) tNil))))))
def t_law_expression (K : PySem.W.Frag) (A : Ads) (E : XK) (sq : Sp) : TS :=
  (tSeq (tAsg (tCallS sp_law_take (fun _ => E0) (tCons (dVar 0) (tCons (tC (.int 6)) tNil))) (gName 3))
  (tSeq (tIfS (tOr (dTest (tOp dEq (dVar 2) (tC (.int 0)))) (dTest (tOp dLt (dVar 3) (tC (.int 3)))))
  (tSeq (tAsg (tLst (tCons (tTup (tCons (tC (.str "num")) (tCons (tCallS sp_law_take (fun _ => E0) (tCons (dVar 0) (tCons (tC (.int 9)) tNil))) tNil))) (tCons (tTup (tCons (tC (.str "load")) tNil)) (tCons (tTup (tCons (tC (.str "now")) tNil)) (tCons (tTup (tCons (tC (.str "num")) (tCons (tOp dIx (tLst (tCons (tCallS sp_law_take (fun _ => E0) (tCons (dVar 0) (tCons (tC (.int 40)) tNil))) (tCons (tOp dAdd2 (tC (.int 999990)) (tCallS sp_law_take (fun _ => E0) (tCons (dVar 0) (tCons (tC (.int 10)) tNil)))) tNil))) (tCallS sp_law_take (fun _ => E0) (tCons (dVar 0) (tCons (tC (.int 2)) tNil)))) tNil))) tNil))))) (gName 4))
  (tSeq (tAsg (tOp dAdd2 (dVar 4) (dLcL K (dVar 1) (gName 6) tYes (tTup (tCons (tC (.str "var")) (tCons (dVar 6) tNil))) [6])) (gName 4))
  (tRet (tOp dIx (dVar 4) (tCallS sp_law_take (fun _ => E0) (tCons (dVar 0) (tCons (tCB dLen (tCons (dVar 4) tNil)) tNil)))))))
  tNext)
  (tSeq (tAsg (tOp dIx (tLst (tCons (tC (.str "+")) (tCons (tC (.str "-")) (tCons (tC (.str "*")) (tCons (tC (.str "mod")) (tCons (tC (.str "<")) (tCons (tC (.str "==")) tNil))))))) (tCallS sp_law_take (fun _ => E0) (tCons (dVar 0) (tCons (tC (.int 6)) tNil)))) (gName 5))
  (tRet (tTup (tCons (tC (.str "op")) (tCons (dVar 5) (tCons (tCallS sq (fun _ => E0) (tCons (dVar 0) (tCons (dVar 1) (tCons (tOp dSub (dVar 2) (tC (.int 1))) tNil)))) (tCons (tCallS sq (fun _ => E0) (tCons (dVar 0) (tCons (dVar 1) (tCons (tOp dSub (dVar 2) (tC (.int 1))) tNil)))) tNil)))))))))
def t_law_body (K : PySem.W.Frag) (A : Ads) (E : XK) (sq : Sp) : TS :=
  (tSeq (tAsg (tLst tNil) (gName 4))
  (tSeq (dForR1 (tCons (tCallS sp_law_take (fun _ => E0) (tCons (dVar 0) (tCons (tC (.int 4)) tNil))) tNil) (gName 5)
  (tSeq (tAsg (tCallS sp_law_take (fun _ => E0) (tCons (dVar 0) (tCons (tC (.int 4)) tNil))) (gName 6))
  (tIfS (tAnd (dTest (tOp dEq (dVar 6) (tC (.int 0)))) (dTest (tOp (dNeD K) (dVar 1) (tLst tNil))))
  (tDrop (dBM dAppend (dVar 4) (tCons (tTup (tCons (tC (.str "set")) (tCons (tOp dIx (dVar 1) (tCallS sp_law_take (fun _ => E0) (tCons (dVar 0) (tCons (tCB dLen (tCons (dVar 1) tNil)) tNil)))) (tCons (tCallS (sp_law_expression 2) (fun _ => E0) (tCons (dVar 0) (tCons (dVar 1) (tCons (tC (.int 2)) tNil)))) tNil)))) tNil)))
  (tIfS (tAnd (dTest (tOp dEq (dVar 6) (tC (.int 1)))) (dTest (tOp (dNeD K) (dVar 1) (tLst tNil))))
  (tDrop (dBM dAppend (dVar 4) (tCons (tTup (tCons (tC (.str "draw")) (tCons (tOp dIx (dVar 1) (tCallS sp_law_take (fun _ => E0) (tCons (dVar 0) (tCons (tCB dLen (tCons (dVar 1) tNil)) tNil)))) (tCons (tCallS (sp_law_expression 2) (fun _ => E0) (tCons (dVar 0) (tCons (dVar 1) (tCons (tC (.int 1)) tNil)))) tNil)))) tNil)))
  (tIfS (tAnd (dTest (tOp dEq (dVar 6) (tC (.int 2)))) (dTest (tOp dGt (dVar 3) (tC (.int 0)))))
  (tDrop (dBM dAppend (dVar 4) (tCons (tTup (tCons (tC (.str "if")) (tCons (tCallS (sp_law_expression 2) (fun _ => E0) (tCons (dVar 0) (tCons (dVar 1) (tCons (tC (.int 2)) tNil)))) (tCons (tCallS sq (fun _ => E0) (tCons (dVar 0) (tCons (dVar 1) (tCons (dVar 2) (tCons (tOp dSub (dVar 3) (tC (.int 1))) tNil))))) (tCons (tCallS sq (fun _ => E0) (tCons (dVar 0) (tCons (dVar 1) (tCons (dVar 2) (tCons (tOp dSub (dVar 3) (tC (.int 1))) tNil))))) tNil))))) tNil)))
  (tDrop (dBM dAppend (dVar 4) (tCons (tTup (tCons (tC (.str "say")) (tCons (tOp dIx (tLst (tCons (tC (.str "hit")) (tCons (tC (.str "lost")) (tCons (tC (.str "n")) tNil)))) (tCallS sp_law_take (fun _ => E0) (tCons (dVar 0) (tCons (tC (.int 3)) tNil)))) (tCons (tCallS (sp_law_expression 2) (fun _ => E0) (tCons (dVar 0) (tCons (dVar 1) (tCons (tC (.int 2)) tNil)))) tNil)))) tNil))))))))
  (tRet (tCB dTupleOf (tCons (dVar 4) tNil)))))
def t_law_send (K : PySem.W.Frag) (A : Ads) (E : XK)  : TS :=
  (tSeq (dPar 3 4 (tCons (tCallS (sp_law_expression 2) (fun _ => E0) (tCons (dVar 0) (tCons (dVar 1) (tCons (tC (.int 1)) tNil)))) (tCons (tOp dIx (tLst (tCons (tTup (tCons (tC (.str "num")) (tCons (tCallS sp_law_take (fun _ => E0) (tCons (dVar 0) (tCons (tC (.int 7)) tNil))) tNil))) (tCons (tTup (tCons (tC (.str "op")) (tCons (tC (.str "mod")) (tCons (tCallS (sp_law_expression 2) (fun _ => E0) (tCons (dVar 0) (tCons (dVar 1) (tCons (tC (.int 1)) tNil)))) (tCons (tTup (tCons (tC (.str "num")) (tCons (tC (.int 9)) tNil))) tNil))))) tNil))) (tCallS sp_law_take (fun _ => E0) (tCons (dVar 0) (tCons (tC (.int 2)) tNil)))) tNil)))
  (tRet (tTup (tCons (tC (.str "send")) (tCons (dVar 3) (tCons (tOp dIx (dVar 2) (tCallS sp_law_take (fun _ => E0) (tCons (dVar 0) (tCons (tCB dLen (tCons (dVar 2) tNil)) tNil)))) (tCons (dVar 4) (tCons (tCallS (sp_law_expression 2) (fun _ => E0) (tCons (dVar 0) (tCons (dVar 1) (tCons (tC (.int 2)) tNil)))) tNil))))))))
def t_law_many (K : PySem.W.Frag) (A : Ads) (E : XK) (sq : Sp) : TS :=
  (tSeq (tIfS (tOr (tNot (dTru (tCB dIsi (tCons (dVar 0) (tCons (tC (.ty "tuple")) tNil))))) (dTest (tOp (dEqD K) (dVar 0) (tTup tNil))))
  (tRet (tC (.int 0)))
  tNext)
  (tRet (tOp dAdd2 (tCB dInt (tCons (tCB dIsi (tCons (tOp dIx (dVar 0) (tC (.int 0))) (tCons (tC (.ty "str")) tNil))) tNil)) (tCB (rSum K) (tCons (dLcT K (dVar 0) (gName 1) tYes (tCallS sq (fun _ => E0) (tCons (dVar 1) tNil)) [1]) tNil)))))
def t_law_model (K : PySem.W.Frag) (A : Ads) (E : XK)  : TS :=
  (tSeq (tAsg (tSl dSl (tLst (tCons (tC (.str "go")) (tCons (tC (.str "up")) (tCons (tC (.str "via")) tNil)))) tNoPart (dPart (tOp dAdd2 (tC (.int 1)) (tCallS sp_law_take (fun _ => E0) (tCons (dVar 0) (tCons (tC (.int 3)) tNil)))))) (gName 2))
  (tSeq (dPar 3 4 (tCons (tLst tNil) (tCons (tC (.int 0)) tNil)))
  (tSeq (dForR1 (tCons (tOp dAdd2 (tC (.int 1)) (tCallS sp_law_take (fun _ => E0) (tCons (dVar 0) (tCons (dVar 1) tNil)))) tNil) (gName 5)
  (tSeq (tAsg (tCB dTupleOf (tCons (dLcL K (tSl dSl (tLst (tCons (tC (.str "a")) (tCons (tC (.str "b")) (tCons (tC (.str "c")) tNil)))) tNoPart (dPart (tCallS sp_law_take (fun _ => E0) (tCons (dVar 0) (tCons (tC (.int 4)) tNil))))) (gName 12) tYes (tTup (tCons (dVar 12) (tCons (tCallS sp_law_take (fun _ => E0) (tCons (dVar 0) (tCons (tC (.int 9)) tNil))) tNil))) [12]) tNil)) (gName 6))
  (tSeq (tAsg (dLcT K (dVar 6) (dgTup 2 (dgCons (gName 12) (dgCons (gName 13) dgNil))) tYes (dVar 12) [12, 13]) (gName 7))
  (tSeq (tAsg (tLst tNil) (gName 8))
  (tSeq (dForL K (dVar 2) (gName 9)
  (tIfS (dTest (tOp dGt (tCallS sp_law_take (fun _ => E0) (tCons (dVar 0) (tCons (tC (.int 8)) tNil))) (tC (.int 0))))
  (tSeq (tAsg (tOp dAdd2 (tCallS (sp_law_body 2) (fun _ => E0) (tCons (dVar 0) (tCons (dVar 7) (tCons (dVar 2) (tCons (tC (.int 2)) tNil))))) (tTup (tCons (tCallS sp_law_send (fun _ => E0) (tCons (dVar 0) (tCons (dVar 7) (tCons (dVar 2) tNil)))) tNil))) (gName 10))
  (tSeq (tAsg (tTup (tCons (tC (.str "op")) (tCons (tC (.str "<")) (tCons (tTup (tCons (tC (.str "now")) tNil)) (tCons (tTup (tCons (tC (.str "num")) (tCons (tC (.int 12)) tNil))) tNil))))) (gName 11))
  (tSeq (tIfS (dTest (tOp dEq (tCallS sp_law_take (fun _ => E0) (tCons (dVar 0) (tCons (tC (.int 3)) tNil))) (tC (.int 0))))
  (tAsg (tOp dAdd2 (dVar 10) (tTup (tCons (tTup (tCons (tC (.str "if")) (tCons (dVar 11) (tCons (tTup (tCons (tCallS sp_law_send (fun _ => E0) (tCons (dVar 0) (tCons (dVar 7) (tCons (dVar 2) tNil)))) tNil)) (tCons (tTup tNil) tNil))))) tNil))) (gName 10))
  tNext)
  (tSeq (tIfS (dTest (tOp dEq (tCallS sp_law_take (fun _ => E0) (tCons (dVar 0) (tCons (tC (.int 5)) tNil))) (tC (.int 0))))
  (tAsg (tTup (tCons (tTup (tCons (tC (.str "if")) (tCons (tTup (tCons (tC (.str "op")) (tCons (tC (.str "<")) (tCons (tTup (tCons (tC (.str "load")) tNil)) (tCons (tTup (tCons (tC (.str "num")) (tCons (tC (.int 500000)) tNil))) tNil))))) (tCons (dVar 10) (tCons (tTup tNil) tNil))))) tNil)) (gName 10))
  tNext)
  (tSeq (tIfS (dTest (tOp dGt (tOp dAdd2 (dVar 4) (tCallS (sp_law_many 11) (fun _ => E0) (tCons (dVar 10) tNil))) (tC (.int 200))))
  (tAsg (tTup (tCons (tTup (tCons (tC (.str "say")) (tCons (tC (.str "n")) (tCons (tTup (tCons (tC (.str "num")) (tCons (tC (.int 1)) tNil))) tNil)))) tNil)) (gName 10))
  tNext)
  (tSeq (tAsg (tOp dAdd2 (dVar 4) (tCallS (sp_law_many 11) (fun _ => E0) (tCons (dVar 10) tNil))) (gName 4))
  (tDrop (dBM dAppend (dVar 8) (tCons (tTup (tCons (dVar 9) (tCons (dVar 10) tNil))) tNil)))))))))
  tNext))
  (tDrop (dBM dAppend (dVar 3) (tCons (tTup (tCons (tOp dIx (tLst (tCons (tC (.str "ash")) (tCons (tC (.str "bay")) (tCons (tC (.str "cot")) (tCons (tC (.str "dip")) (tCons (tC (.str "elm")) tNil)))))) (dVar 5)) (tCons (dVar 6) (tCons (tCB (rTupF K) (tCons (dVar 8) tNil)) tNil)))) tNil))))))))
  (tRet (tCB dTupleOf (tCons (dVar 3) tNil))))))
def t_law_told (K : PySem.W.Frag) (A : Ads) (E : XK)  : TS :=
  (tTryAs K (.ref A.TraceError) 4 (fun W => (tRet (tIf (dTest (tOp dEq (dVar 1) (tC (.int 0)))) (dMethE A.Net "take" (sp_Net_take A) (WE W) (dVar 0) (tCons (dVar 2) (tCons (dVar 3) tNil))) (dMethE A.Net "put" (sp_Net_put A) (WE W) (dVar 0) (tCons (dVar 2) (tCons (dVar 3) (tCons (tC (.str "x")) tNil))))))) (fun a cls d => (tRet (tCallE (sp_law_word K A) a cls d (tCons (dVar 4) tNil)))) (fun _ _ _ _ => False))
def t_law (K : PySem.W.Frag) (A : Ads) (E : XK)  : TS :=
  (tSeq (tAsg (tCallS (sp_law_draws K) (fun _ => E0) (tCons (dVar 0) tNil)) (gName 1))
  (tSeq (tAsg (tOp dAdd2 (tC (.int 2)) (tCallS sp_law_take (fun _ => E0) (tCons (dVar 1) (tCons (tC (.int 7)) tNil)))) (gName 2))
  (tSeq (tAsg (tTup (tCons (tMakeE A.Net (sp_Net__init_ A) (fun _ => E0) (tCons (dVar 2) tNil)) (tCons tDNewT tNil))) (dgTup 2 (dgCons (gName 3) (dgCons (gName 4) dgNil))))
  (tSeq (dForR1 (tCons (tC (.int 40)) tNil) (gName 5)
  (tSeq (dPar 6 7 (tCons (tCallS sp_law_take (fun _ => E0) (tCons (dVar 1) (tCons (dVar 2) tNil))) (tCons (tCallS sp_law_take (fun _ => E0) (tCons (dVar 1) (tCons (dVar 2) tNil))) tNil)))
  (tSeq (tIfS (dTest (tOp dEq (dVar 6) (dVar 7)))
  (tIfS (tOr (dTest (tOp dNe (tCallS (sp_law_told A) (fun _ => E0) (tCons (dVar 3) (tCons (tC (.int 0)) (tCons (dVar 6) (tCons (dVar 7) tNil))))) (tC (.str "none")))) (dTest (tOp dNe (tCallS (sp_law_told A) (fun _ => E0) (tCons (dVar 3) (tCons (tC (.int 1)) (tCons (dVar 6) (tCons (dVar 7) tNil))))) (tC (.str "none")))))
  (tRet (tC (.bl false)))
  tNext)
  (tIfS (dTest (tOp dEq (tCallS sp_law_take (fun _ => E0) (tCons (dVar 1) (tCons (tC (.int 2)) tNil))) (tC (.int 0))))
  (tSeq (tDrop (dMethE A.Net "put" (sp_Net_put A) (fun _ => E0) (dVar 3) (tCons (dVar 6) (tCons (dVar 7) (tCons (tTup (tCons (dVar 5) (tCons (tCallS sp_law_take (fun _ => E0) (tCons (dVar 1) (tCons (tC (.int 9)) tNil))) tNil))) tNil)))))
  (sDPut (dVar 4) (tTup (tCons (dVar 6) (tCons (dVar 7) tNil))) (tOp dAdd2 (tDGet2 (dVar 4) (tTup (tCons (dVar 6) (tCons (dVar 7) tNil))) (tLst tNil)) (tLst (tCons (dVar 5) tNil)))))
  (tSeq (tAsg (tDGet2 (dVar 4) (tTup (tCons (dVar 6) (tCons (dVar 7) tNil))) (tLst tNil)) (gName 8))
  (tSeq (tAsg (tCallS (sp_law_told A) (fun _ => E0) (tCons (dVar 3) (tCons (tC (.int 0)) (tCons (dVar 6) (tCons (dVar 7) tNil))))) (gName 9))
  (tSeq (tIfS (tOr (tAnd (dTest (tOp (dEqD K) (dVar 8) (tLst tNil))) (dTest (tOp dNe (dVar 9) (tC (.str "none"))))) (tAnd (dTest (tOp rNeNil (dVar 8) (tLst tNil))) (tOr (tNot (dTru (tCB dIsi (tCons (dVar 9) (tCons (tC (.ty "tuple")) tNil))))) (dTest (tOp dNe (tOp dIx (dVar 9) (tC (.int 0))) (tOp dIx (dVar 8) (tC (.int 0))))))))
  (tRet (tC (.bl false)))
  tNext)
  (sDPut (dVar 4) (tTup (tCons (dVar 6) (tCons (dVar 7) tNil))) (tSl dSl (dVar 8) (dPart (tC (.int 1))) tNoPart)))))))
  (tSeq (tAsg (tCB (rSortD K) (tCons (tLockE (tLc (iKeys (dVar 4)) (gName 11) (dTest (tOp rNeNil (tDGet (dVar 4) (dVar 11)) (tLst tNil))) (dVar 11) [11])) tNil)) (gName 10))
  (tSeq (tAsg (tLst tNil) (gName 12))
  (tSeq (dForL K (dVar 10) (gName 11)
  (tAsg (tOp dAdd2 (dVar 12) (tDGet (dVar 4) (dVar 11))) (gName 12)))
  (tIfS (tOr (tNot (dTru (tCallS (sp_law_alike K 3) (fun _ => E0) (tCons (dMethE A.Net "ready" (sp_Net_ready A) (fun _ => E0) (dVar 3) tNil) (tCons (tCB dTupleOf (tCons (dVar 10) tNil)) tNil))))) (tOr (dTest (tOp (dNeD K) (dLcL K (dMethE A.Net "messages" (sp_Net_messages A) (fun _ => E0) (dVar 3) tNil) (gName 21) tYes (tOp dIx (dVar 21) (tC (.int 0))) [21]) (dVar 12))) (tNot (dTru (tCallS (sp_law_alike K 3) (fun _ => E0) (tCons (dMethE A.Net "many" (sp_Net_many A) (fun _ => E0) (dVar 3) tNil) (tCons (tCB dLen (tCons (dVar 12) tNil)) tNil)))))))
  (tRet (tC (.bl false)))
  tNext)))))))
  (tSeq (dForL K (tLst (tCons (tUn dNeg (tC (.int 1))) (tCons (dVar 2) (tCons (tC .non) (tCons (tC (.bl true)) (tCons (tC (.str "0")) tNil)))))) (gName 13)
  (tIfS (dTest (tOp (dNeD K) (tOp dAdd2 (dLcR1 (tCons (tC (.int 2)) tNil) (gName 22) tYes (tCallS (sp_law_told A) (fun _ => E0) (tCons (dVar 3) (tCons (dVar 22) (tCons (dVar 13) (tCons (tC (.int 0)) tNil))))) [22]) (dLcR1 (tCons (tC (.int 2)) tNil) (gName 22) tYes (tCallS (sp_law_told A) (fun _ => E0) (tCons (dVar 3) (tCons (dVar 22) (tCons (tC (.int 0)) (tCons (dVar 13) tNil))))) [22])) (tOp dMul (tLst (tCons (tC (.str "none")) tNil)) (tC (.int 4)))))
  (tRet (tC (.bl false)))
  tNext))
  (tSeq (tAsg (dLcR1 (tCons (tOp dAdd2 (tC (.int 1)) (tCallS sp_law_take (fun _ => E0) (tCons (dVar 1) (tCons (tC (.int 5)) tNil)))) tNil) (gName 18) tYes (tTup (tCons (tC (.str "take")) (tCons (dVar 18) (tCons (tC (.int 0)) tNil)))) [18]) (gName 14))
  (tSeq (tAsg (tCB dTupleOf (tCons (dLcR1 (tCons (tOp dAdd2 (tC (.int 1)) (tCallS sp_law_take (fun _ => E0) (tCons (dVar 1) (tCons (tC (.int 6)) tNil)))) tNil) (gName 18) tYes (tCallS sp_law_take (fun _ => E0) (tCons (dVar 1) (tCons (tC (.int 997)) tNil))) [18]) tNil)) (gName 8))
  (tSeq (dForR1 (tCons (tC (.int 12)) tNil) (gName 5)
  (tIfS (dTest (tOp (dNeD K) (tCallS sp_chosen (fun _ => E0) (tCons (dVar 8) (tCons (dVar 5) (tCons (dVar 14) tNil)))) (tOp dIx (dVar 14) (tOp dMod (tCB dInt (tCons (tOp dIx (dVar 8) (tOp dMod (tCB dInt (tCons (dVar 5) tNil)) (tCB dLen (tCons (dVar 8) tNil)))) tNil)) (tCB dLen (tCons (dVar 14) tNil))))))
  (tRet (tC (.bl false)))
  tNext))
  (tSeq (tAsg (tCallS sp_law_model (fun _ => E0) (tCons (dVar 1) (tCons (tC (.int 4)) tNil))) (gName 15))
  (tSeq (tAsg (tCB dTupleOf (tCons (dLcT K (dVar 15) (gName 19) tYes (tCallS sp_law_take (fun _ => E0) (tCons (dVar 1) (tCons (dVar 2) tNil))) [19]) tNil)) (gName 16))
  (tSeq (tAsg (tLst (tCons (tC .non) (tCons (tCB dListOf (tCons (dVar 16) tNil)) (tCons (tSl dSl (dVar 16) (dPart (tC (.int 1))) tNoPart) (tCons (tOp dAdd2 (dVar 16) (tTup (tCons (tC (.int 0)) tNil))) (tCons (tOp dAdd2 (tTup (tCons (dVar 2) tNil)) (tSl dSl (dVar 16) (dPart (tC (.int 1))) tNoPart)) (tCons (tOp dAdd2 (tTup (tCons (tUn dNeg (tC (.int 1))) tNil)) (tSl dSl (dVar 16) (dPart (tC (.int 1))) tNoPart)) (tCons (tOp dAdd2 (tTup (tCons (tC .non) tNil)) (tSl dSl (dVar 16) (dPart (tC (.int 1))) tNoPart)) (tCons (tOp dAdd2 (tTup (tCons (tC (.bl false)) tNil)) (tSl dSl (dVar 16) (dPart (tC (.int 1))) tNoPart)) (tCons (tC (.int 5)) tNil)))))))))) (gName 17))
  (tSeq (tIfS (tOr (tNot (dTru (tCallS sp_law_says (fun _ => E0) (tCons (tCallS (sp_is_map A) (fun _ => E0) (tCons (dVar 15) (tCons (dVar 2) (tCons (dVar 16) tNil)))) (tCons (tC (.bl true)) tNil))))) (dTest (tOp (dNeD K) (dLcL K (dVar 17) (gName 20) (tNot (dTru (tCallS sp_law_says (fun _ => E0) (tCons (tCallS (sp_is_map A) (fun _ => E0) (tCons (dVar 15) (tCons (dVar 2) (tCons (dVar 20) tNil)))) (tCons (tC (.bl false)) tNil))))) (dVar 20) [20]) (tLst tNil))))
  (tRet (tC (.bl false)))
  tNext)
  (tSeq (tAsg (tLst (tCons (tC .non) (tCons (tTup tNil) (tCons (tLst (tCons (tC (.int 1)) tNil)) (tCons (tTup (tCons (tUn dNeg (tC (.int 1))) tNil)) (tCons (tTup (tCons (tOp dAdd2 (tOp dPow (tC (.int 10)) (tC (.int 9))) (tC (.int 1))) tNil)) (tCons (tTup (tCons (tC .non) tNil)) (tCons (tTup (tCons (tC (.bl true)) tNil)) (tCons (tTup (tCons (tC (.str "1")) tNil)) (tCons (tC (.int 5)) tNil)))))))))) (gName 17))
  (tRet (dAndV (tOp dIsB (tCallS (sp_is_schedule A) (fun _ => E0) (tCons (dVar 8) tNil)) (tC (.bl true))) (dAndV (tOp dIsB (tCallS (sp_is_schedule A) (fun _ => E0) (tCons (tTup (tCons (tOp dPow (tC (.int 10)) (tC (.int 9))) tNil)) tNil)) (tC (.bl true))) (tOp (dEqD K) (dLcL K (dVar 17) (gName 20) (tNot (dTru (tCallS sp_law_says (fun _ => E0) (tCons (tCallS (sp_is_schedule A) (fun _ => E0) (tCons (dVar 20) tNil)) (tCons (tC (.bl false)) tNil))))) (dVar 20) [20]) (tLst tNil))))))))))))))))))
theorem upd_self {H : Hp} {a : Addr} {o : HO} (h : H a = some o) : upd H a o = H := by
  funext b
  unfold upd
  split
  · rename_i e; rw [e, h]
  · rfl
theorem r_law_take {K : PySem.W.Frag} {A : Ads} {E : XK} {vs : List V} {H : Hp} {Q : VK} (h : sp_law_take vs H Q E) : t_law_take K A E { nx := fun _ H' => Q .non H', rt := Q } (L2.start ["draws", "bound"] vs) H := by
  obtain ⟨d, ns, b, rfl, hd, hb, k⟩ := h
  unfold t_law_take
  wp_walk using hd, hb
  rcases List.eq_nil_or_concat ns with rfl | ⟨ms, z, rfl⟩
  · have q := k 0 [] (Int.le_refl _) hb
    rw [upd_self hd] at q
    simpa using q
  · have e : ((List.map V.int (ms.concat z)).length : Int) ≠ 0 := by simp; omega
    rw [if_neg e, List.concat_eq_append, ← map_snoc, List.getLast?_concat, List.dropLast_concat]
    exact k _ _ (Int.emod_nonneg _ (by omega)) (Int.emod_lt_of_pos _ hb)
/-- the draws so far -/
def Dr (H : Hp) (a p : Addr) (m : Nat) (σ : L2.St) (H1 : Hp) : Prop := ∃ v2 v3 v4 v5 v6 : Option V, σ = [some (.ref a), some (.ref p), v2, v3, v4, v5, v6] ∧ Same H H1 ∧ ∃ ms : List Int, H1 p = some (.lst (ms.map V.int)) ∧ ms.length ≤ m
theorem int_at {ns : List Int} {i : Nat} {x : V} (hx : (ns.map V.int)[i]? = some x) : ∃ z, ns[i]? = some z ∧ x = V.int z := by
  rw [List.getElem?_map] at hx
  cases e : ns[i]? with
  | none => rw [e] at hx; cases hx
  | some z => rw [e] at hx; exact ⟨z, rfl, (Option.some.inj hx).symm⟩
theorem r_draws_digits {H : Hp} {a p : Addr} {i : Nat} {D : Ends} (hp : H p = none) (hi : i < 63) (nx : ∀ σ H1, Dr H a p (62 * (i + 1)) σ H1 → D.nx σ H1) {n : Int} {v2 v4 v5 v6 : Option V} {H2 : Hp} {ms : List Int} (s : Same H H2) (h2 : H2 p = some (.lst (ms.map V.int))) (hl : ms.length ≤ 62 * i + 2) :
    ForR 0 (60 : Int).toNat (gName 5) (tIfS (dTest (tOp dGt (dVar 3) (tC (.int 0)))) (tSeq (tDrop (dBM dAppend (dVar 1) (tCons (tOp dMod (tCB dInt (tCons (dVar 3) tNil)) (tC (.int 997))) tNil))) (tAsg (tOp dDiv (dVar 3) (tC (.int 997))) (gName 3))) tNext)
      D [some (.ref a), some (.ref p), v2, some (.int n), v4, v5, v6] H2 := by
  refine forR_go (fun j σ H1 => ∃ (n : Int) (v2 v4 v5 v6 : Option V), σ = [some (.ref a), some (.ref p), v2, some (.int n), v4, v5, v6] ∧ Same H H1 ∧ ∃ ms : List Int, H1 p = some (.lst (ms.map V.int)) ∧ ms.length ≤ 62 * i + 2 + j)
    ⟨n, v2, v4, v5, v6, rfl, s, ms, h2, hl⟩ ?_ ?_
  · rintro j σ H1 hj ⟨n, v2, v4, v5, v6, rfl, s, ms, h2, hl⟩
    have hj' : j < 60 := hj
    wp_walk using h2
    refine ite2 (fun _ => ?_) fun _ => ⟨_, _, _, _, _, rfl, s, ms, rfl, by omega⟩
    exact ⟨by rw [List.length_map]; exact sz (by omega), by unfold CDiv; decide, _, _, _, _, _, rfl, same_mut s hp, ms ++ [n % 997], by simp, by simp; omega⟩
  · rintro σ H1 ⟨n, v2, v4, v5, v6, rfl, s, ms, h2, hl⟩
    have e : (60 : Int).toNat = 60 := rfl
    exact nx _ _ ⟨_, _, _, _, _, rfl, s, ms, h2, by rw [e] at hl; omega⟩
theorem r_draws_seeds {H : Hp} {a p : Addr} {D : Ends} (hp : H p = none) (nx : ∀ σ H1, Dr H a p 5000 σ H1 → D.nx σ H1) {n : Int} {v2 v3 v4 v5 : Option V} {H2 : Hp} {ms : List Int} (s : Same H H2) (h2 : H2 p = some (.lst (ms.map V.int))) (hl : ms.length ≤ 62 * 63) :
    ForR 0 (900 : Int).toNat (gName 5) (tSeq (tAsg (tOp dMod (tCB dInt (tCons (tOp dAdd (tOp dMul (dVar 6) (tC (.int 48271))) (tC (.int 69621))) tNil)) (tC (.int 2147483647))) (gName 6)) (tDrop (dBM dAppend (dVar 1) (tCons (tOp dDiv (dVar 6) (tC (.int 5))) tNil))))
      D [some (.ref a), some (.ref p), v2, v3, v4, v5, some (.int n)] H2 := by
  refine forR_go (fun j σ H1 => ∃ (n : Int) (v2 v3 v4 v5 : Option V), σ = [some (.ref a), some (.ref p), v2, v3, v4, v5, some (.int n)] ∧ Same H H1 ∧ ∃ ms : List Int, H1 p = some (.lst (ms.map V.int)) ∧ ms.length ≤ 62 * 63 + j)
    ⟨n, v2, v3, v4, v5, rfl, s, ms, h2, hl⟩ ?_ ?_
  · rintro j σ H1 hj ⟨n, v2, v3, v4, v5, rfl, s, ms, h2, hl⟩
    have hj' : j < 900 := hj
    wp_walk using h2
    exact ⟨.inr (by decide), by unfold CDiv; decide, by rw [List.length_map]; exact sz (by omega), _, _, _, _, _, rfl, same_mut s hp, ms ++ [(n * 48271 + 69621) % 2147483647 / 5], by simp, by simp; omega⟩
  · rintro σ H1 ⟨n, v2, v3, v4, v5, rfl, s, ms, h2, hl⟩
    have e : (900 : Int).toNat = 900 := rfl
    exact nx _ _ ⟨_, _, _, _, _, rfl, s, ms, h2, by rw [e] at hl; omega⟩
theorem r_law_draws {K : PySem.W.Frag} {A : Ads} {E : XK} {vs : List V} {H : Hp} {Q : VK} (h : sp_law_draws K vs H Q E) : t_law_draws K A E { nx := fun _ H' => Q .non H', rt := Q } (L2.start ["script", "draws", "cell", "number", "first", "k", "seed"] vs) H := by
  obtain ⟨a, ns, rfl, hS, hl, k⟩ := h
  unfold t_law_draws
  walk_at "ev"
  refine ⟨Nat.zero_le _, fun p hp => ?_⟩
  have s0 : Same H (upd H p (.lst [])) := same_new hp
  refine forL_go (xs := ns.map V.int) (s0.seq hS) (fun i σ H1 => Dr H a p (62 * i) σ H1)
    ⟨none, none, none, none, none, rfl, s0, [], upd_same, Nat.le_refl _⟩ (fun i σ H1 _ ⟨_, _, _, _, _, _, s, _⟩ => s.seq hS) ?_ ?_
  · rintro i x σ H1 hx ⟨v2, v3, v4, v5, v6, rfl, s, ms, hm, hml⟩
    have hi := (List.getElem?_eq_some_iff.mp hx).1
    rw [List.length_map] at hi
    obtain ⟨z, _, rfl⟩ := int_at hx
    have e0 : (-(2 ^ 62) ≤ (60 : Int) ∧ (60 : Int) < 2 ^ 62) := by decide
    wp_walk using hm, e0
    refine ⟨by unfold CPow; decide, ite2 (fun _ => ?_) fun _ => ?_⟩
    · refine ⟨.inr (by decide), .inr (by decide), by rw [List.length_map]; exact sz (by omega), by unfold CDiv; decide, ?_⟩
      refine ⟨by simp; exact sz (by omega), r_draws_digits (i := i) hp (by omega) (fun σ H1 h => h) (same_mut s hp) (ms := ms ++ [(((if z < 0 then -z else z) * 48271 + 11) % 2147483647 * 69621 + if z < 0 then -z else z) % 2147483629, (((if z < 0 then -z else z) * 48271 + 11) % 2147483647 + (if z < 0 then -z else z) / 7) % 1000003]) (by rw [upd_same]; simp) (by simp; omega)⟩
    · exact r_draws_digits (i := i) hp (by omega) (fun σ H1 h => h) s hm (by omega)
  · rintro σ H1 ⟨v2, v3, v4, v5, v6, rfl, s, ms, hm, hml⟩
    rw [List.length_map] at hml
    have hS1 : SqL K H1 a (ns.map V.int) := s.seq hS
    have e0 : (-(2 ^ 62) ≤ (900 : Int) ∧ (900 : Int) < 2 ^ 62) := by decide
    have last : ∀ σ H1, Dr H a p 5000 σ H1 → tRet (tListRev K (dVar 1)) { nx := fun _ H' => Q .non H', rt := Q } σ H1 := by
      rintro σ H1 ⟨v2, v3, v4, v5, v6, rfl, s, ms, hm, hml⟩
      unfold tListRev
      walk_at "ev"
      refine ⟨p, ms.map V.int, rfl, SqL.of hm, fun q hq => ?_⟩
      rw [← List.map_reverse]
      exact k q _ ms.reverse (s.free hq) (s.trans (same_new hq)) upd_same
    have go : ∀ (n : Int), ForR 0 (900 : Int).toNat (gName 5) (tSeq (tAsg (tOp dMod (tCB dInt (tCons (tOp dAdd (tOp dMul (dVar 6) (tC (.int 48271))) (tC (.int 69621))) tNil)) (tC (.int 2147483647))) (gName 6)) (tDrop (dBM dAppend (dVar 1) (tCons (tOp dDiv (dVar 6) (tC (.int 5))) tNil))))
      { nx := tRet (tListRev K (dVar 1)) { nx := fun _ H' => Q .non H', rt := Q }, rt := Q } [some (.ref a), some (.ref p), v2, v3, v4, v5, some (.int n)] H1 := fun n => r_draws_seeds hp last s hm (by omega)
    walk_at "ev"
    refine ⟨.ref a, (ns.map V.int).length, rfl, .inl ⟨_, hS1, rfl⟩, ?_⟩
    wp_walk using e0
    refine ite2 (fun hn => ?_) fun _ => go 1
    rw [List.length_map] at hn
    cases ns with
    | nil => simp at hn
    | cons z r =>
      refine .inl ⟨a, _, 0, V.int z, rfl, rfl, hS1, atI_nat (j := 0) rfl, ?_⟩
      wp_walk using e0
      exact go _
theorem paired2 {α β : Type} {F G : α → β → Prop} : ∀ {l m : List α} {ds : List β}, Paired F l ds → Paired G m ds → l.length = m.length := fun p q => (paired_len p).trans (paired_len q).symm
theorem seqI {xs : List V} {i : Nat} (h : i < xs.length) {k : V → Prop} (q : k (xs[i]'h)) : atK xs ((0 : Int) + (i : Nat)) k := by
  unfold atK
  have e : atI xs ((0 : Int) + (i : Nat)) = some (xs[i]'h) := by
    rw [Int.zero_add]
    exact atI_nat (List.getElem?_eq_getElem h)
  rw [e]
  exact q
/-- the items alike, one by one -/
theorem r_alike_items {K : PySem.W.Frag} {n : Nat} {H : Hp} {Q : VK} {p q : Addr} {xs ys : List V} {ds : List PyData} (hp : seqAt (H p) (· = xs)) (hq : seqAt (H q) (· = ys)) (hpk : ∀ H', Same H H' → seqAt (H' p) (· = xs)) (hqk : ∀ H', Same H H' → seqAt (H' q) (· = ys))
    (l1 : xs.length ≤ 100000) (px : Paired (Da H n) xs ds) (py : Paired (Da H n) ys ds) (k : ∀ H', Same H H' → Q (.bl true) H') :
    (-2 ^ 62 ≤ (xs.length : Int) ∧ (xs.length : Int) < 2 ^ 62) ∧ LcJ (Itr 0 (xs.length : Int).toNat) (gName 2) (tNot (dTru (tCallS (sp_law_alike K n) (fun _ => E0) (tCons (tOp dIx (dVar 0) (dVar 2)) (tCons (tOp dIx (dVar 1) (dVar 2)) tNil))))) (dVar 2) [2] [some (.ref p), some (.ref q), none] H
      (fun x H1 => 0 ≤ sizeLine ∧ ∀ (r : Addr), H1 r = none → dEqD K x (.ref r) (upd H1 r (.lst [])) Q) := by
  have el : ys.length = xs.length := paired2 py px
  refine ⟨⟨by omega, by omega⟩, lcR_core (n := (xs.length : Int).toNat) (by omega) (fun _ => false) (fun _ _ _ => True) (fun _ _ _ _ _ _ => trivial) ?_ ?_⟩
  · intro i hi H1 s k1 k0 _ h0
    have hi' : i < ys.length := by omega
    walk_at "ev"
    refine seqE (hpk H1 s) (seqI (by omega) ?_)
    refine seqE (hqk H1 s) (seqI hi' ?_)
    obtain ⟨d, hd⟩ : ∃ d, ds[i]? = some d := ⟨ds[i]'(by rw [← paired_len py]; exact hi'), List.getElem?_eq_getElem _⟩
    obtain ⟨x, hx, dx⟩ := pairedAt px hd
    obtain ⟨y, hy, dy⟩ := pairedAt py hd
    rw [List.getElem?_eq_getElem (show i < xs.length by omega)] at hx
    rw [List.getElem?_eq_getElem hi'] at hy
    cases hx
    cases hy
    refine ⟨_, _, d, rfl, dx.same s, dy.same s, fun H' s' => ?_⟩
    walk_at "ev"
    exact h0 rfl H' s'
  · intro D H1 zs hD s hz pr
    have e : zs = [] := by
      have := paired_len pr
      cases zs with
      | nil => rfl
      | cons z zs =>
        rw [List.filter_eq_nil_iff.mpr (fun _ _ => by simp)] at this
        cases this
    subst e
    refine ⟨by show 0 ≤ sizeLine; decide, fun r hr => ?_⟩
    have s2 := same_new (o := .lst []) hr
    exact eqD_same (n := 1) (Da.lst (s2 D _ hz) (Nat.zero_le _) .nil) (Da.lst upd_same (Nat.zero_le _) .nil) (by decide) (k _ (s.trans s2))
theorem r_alike_atom {K : PySem.W.Frag} {A : Ads} {E : XK} {sq : Sp} {x y : V} {d : PyData} {H : Hp} {Q : VK} (hx : AtomD x d) (hy : AtomD y d) (k : Q (.bl true) H) : t_law_alike K A E sq { nx := fun _ H' => Q .non H', rt := Q } (L2.start ["found", "due", "k"] [x, y]) H := by
  unfold t_law_alike
  rcases hy with ⟨rfl, rfl⟩ | ⟨b, rfl, rfl⟩ | ⟨b, rfl, rfl⟩ | ⟨z, rfl, rfl, hz⟩
  · obtain rfl : x = .non := by
      rcases hx with ⟨rfl, _⟩ | ⟨_, _, e⟩ | ⟨_, _, e⟩ | ⟨_, _, e, _⟩ <;> first | rfl | cases e
    wp_walk using is_NoneType_list, kn_NoneType_list, is_NoneType_tuple, kn_NoneType_tuple
    exact k
  · obtain rfl : x = .bl b := by
      rcases hx with ⟨_, e⟩ | ⟨_, rfl, e⟩ | ⟨_, _, e⟩ | ⟨_, _, e, _⟩ <;> first | (cases e; done) | (cases e; rfl)
    wp_walk using is_bool_list, kn_bool_list, is_bool_tuple, kn_bool_tuple, is_bool_bool, kn_bool_bool
    exact k
  · obtain rfl : x = .int b := by
      rcases hx with ⟨_, e⟩ | ⟨_, _, e⟩ | ⟨_, rfl, e⟩ | ⟨_, _, e, _⟩ <;> first | (cases e; done) | (cases e; rfl)
    wp_walk using is_int_list, kn_int_list, is_int_tuple, kn_int_tuple, is_int_bool, kn_int_bool, is_int_int, kn_int_int
    exact k
  · obtain rfl : x = .str z := by
      rcases hx with ⟨_, e⟩ | ⟨_, _, e⟩ | ⟨_, _, e⟩ | ⟨_, rfl, e, _⟩ <;> first | (cases e; done) | (cases e; rfl)
    wp_walk using is_str_list, kn_str_list, is_str_tuple, kn_str_tuple, is_str_bool, kn_str_bool, is_str_int, kn_str_int, is_str_str, kn_str_str
    exact k
theorem r_law_alike0 {K : PySem.W.Frag} {A : Ads} {E : XK} {sq : Sp} {vs : List V} {H : Hp} {Q : VK} (h : sp_law_alike K 0 vs H Q E) : t_law_alike K A E sq { nx := fun _ H' => Q .non H', rt := Q } (L2.start ["found", "due", "k"] vs) H := by
  obtain ⟨x, y, d, rfl, hx, hy, k⟩ := h
  exact r_alike_atom hx hy (k H (Same.refl H))
theorem r_law_alike {K : PySem.W.Frag} {A : Ads} {E : XK} {n : Nat} {vs : List V} {H : Hp} {Q : VK} (h : sp_law_alike K (n + 1) vs H Q E) : t_law_alike K A E (sp_law_alike K n) { nx := fun _ H' => Q .non H', rt := Q } (L2.start ["found", "due", "k"] vs) H := by
  obtain ⟨x, y, d, rfl, hx, hy, k⟩ := h
  unfold t_law_alike
  rcases hy with hy | ⟨b, ys, ds, rfl, rfl, hb, hlb, py⟩ | ⟨b, ys, ds, rfl, rfl, hb, hlb, py⟩
  · have hx : AtomD x d := by
      rcases hx with hx | ⟨_, _, _, _, e, _⟩ | ⟨_, _, _, _, e, _⟩
      · exact hx
      · subst e
        rcases hy with ⟨_, e⟩ | ⟨_, _, e⟩ | ⟨_, _, e⟩ | ⟨_, _, e, _⟩ <;> cases e
      · subst e
        rcases hy with ⟨_, e⟩ | ⟨_, _, e⟩ | ⟨_, _, e⟩ | ⟨_, _, e, _⟩ <;> cases e
    have := r_alike_atom (K := K) (A := A) (E := E) (sq := sp_law_alike K n) hx hy (k H (Same.refl H))
    unfold t_law_alike at this
    exact this
  · obtain ⟨a, xs, rfl, ha, hla, px⟩ : ∃ a xs, x = .ref a ∧ H a = some (.lst xs) ∧ xs.length ≤ 100000 ∧ Paired (Da H n) xs ds := by
      rcases hx with hx | ⟨a, xs, _, rfl, e, h1, h2, h3⟩ | ⟨_, _, _, _, e, _⟩
      · rcases hx with ⟨_, e⟩ | ⟨_, _, e⟩ | ⟨_, _, e⟩ | ⟨_, _, e, _⟩ <;> cases e
      · cases e; exact ⟨a, xs, rfl, h1, h2, h3⟩
      · cases e
    have el : (ys.length : Int) = (xs.length : Int) := by rw [paired2 px py]
    have it := r_alike_items (K := K) (Q := Q) (p := a) (q := b) (xs := xs) (ys := ys) (by rw [ha]; rfl) (by rw [hb]; rfl) (fun H' s => by rw [s a _ ha]; rfl) (fun H' s => by rw [s b _ hb]; rfl) hla px py k
    wp_walk using ha, hb, el, is_list_list, kn_list_list, is_list_tuple, kn_list_tuple
    exact it
  · obtain ⟨a, xs, rfl, ha, hla, px⟩ : ∃ a xs, x = .ref a ∧ H a = some (.tup xs) ∧ xs.length ≤ 100000 ∧ Paired (Da H n) xs ds := by
      rcases hx with hx | ⟨_, _, _, _, e, _⟩ | ⟨a, xs, _, rfl, e, h1, h2, h3⟩
      · rcases hx with ⟨_, e⟩ | ⟨_, _, e⟩ | ⟨_, _, e⟩ | ⟨_, _, e, _⟩ <;> cases e
      · cases e
      · cases e; exact ⟨a, xs, rfl, h1, h2, h3⟩
    have el : (ys.length : Int) = (xs.length : Int) := by rw [paired2 px py]
    have it := r_alike_items (K := K) (Q := Q) (p := a) (q := b) (xs := xs) (ys := ys) (by rw [ha]; rfl) (by rw [hb]; rfl) (fun H' s => by rw [s a _ ha]; rfl) (fun H' s => by rw [s b _ hb]; rfl) hla px py k
    wp_walk using ha, hb, el, is_tuple_list, kn_tuple_list, is_tuple_tuple, kn_tuple_tuple
    exact it
theorem r_law_word {K : PySem.W.Frag} {A : Ads} {E : XK} {ax D : Addr} {vs : List V} {H : Hp} {Q : VK} (h : sp_law_word K A ax (.ref D) none vs H Q E) : t_law_word K A E ax D { nx := fun _ H' => Q .non H', rt := Q } (L2.start ["e", "kinds", "kind"] vs) H := by
  obtain ⟨D', b1, b2, b3, b4, b5, w, rfl, eD, _, _, k1, k2, k3, k4, k5, hw, k⟩ := h
  cases eD
  unfold t_law_word
  have one : ∀ (bs : List Bool) (j : Nat), bs.length = 5 → bs[j]? = some true → (∀ m, m < j → bs[m]? = some false) → bs.filter id = [true] → ∀ (p : Addr) (H1 : Hp), Same H H1 → H1 p = some (.lst (bs.map V.bl)) →
      (∀ H', Same H H' → (["range", "form", "none", "refused", "much"] : List Str)[j]? = some w → Q (.str w) H') → (["range", "form", "none", "refused", "much"] : List Str)[j]? = some w →
      (tSeq (tIfS (dTest (tOp dNe (tCB dLen (tCons (dLcL K (dVar 1) (gName 2) (dTru (dVar 2)) (dVar 2) [2]) tNil)) (tC (.int 1)))) (tRet (tC (.str "many"))) tNext)
        (tRet (tOp dIx (tLst (tCons (tC (.str "range")) (tCons (tC (.str "form")) (tCons (tC (.str "none")) (tCons (tC (.str "refused")) (tCons (tC (.str "much")) tNil)))))) (dBM (rIndex K) (dVar 1) (tCons (tC (.bl true)) tNil)))))
        { nx := fun _ H' => Q .non H', rt := Q } [some (.ref ax), some (.ref p), none] H1 := by
    intro bs j hl hj hb hf p H1 s hp q1 q2
    wp_walk using hp
    refine lcL_core (xs := bs.map V.bl) (SqL.of hp) (by rw [List.length_map, hl]; decide) (fun x => decide (x = .bl true)) (fun x y _ => y = x) (fun _ _ _ _ _ h => h) ?_ ?_
    · intro x hx H2 s2 k1 k0 h1 h0
      obtain ⟨b, _, rfl⟩ := List.mem_map.mp hx
      walk_at "ev"
      cases b with
      | true =>
        walk_at "ev"
        exact h1 (by decide) _ H2 (Same.refl _) rfl
      | false =>
        walk_at "ev"
        exact h0 (by decide) H2 (Same.refl _)
    · intro D2 H2 ys hD s2 hys pr
      have e : (bs.map V.bl).filter (fun x => decide (x = .bl true)) = (bs.filter id).map V.bl := by
        rw [List.filter_map]
        congr 1
        apply List.filter_congr
        intro b _
        cases b <;> rfl
      rw [e, hf] at pr
      have ly : ys.length = 1 := (paired_len pr).symm
      wp_walk using hys, ly
      refine ⟨by show 5 ≤ sizeLine; decide, fun r hr => ?_⟩
      have s3 : Same H1 (upd H2 r (.lst [.str "range", .str "form", .str "none", .str "refused", .str "much"])) := s2.trans (same_new hr)
      have hp3 := s3 p _ hp
      wp_walk using hp3
      refine ⟨p, bs.map V.bl, .bl true, j, .bl true, rfl, rfl, SqL.of hp3, rfl, by simp [flatV], by rw [List.getElem?_map, hj]; rfl, rfl, fun m z' hm hz => ?_, ?_⟩
      · rw [List.getElem?_map, hb m hm] at hz
        cases hz
        rfl
      · have ee : ([V.str "range", .str "form", .str "none", .str "refused", .str "much"] : List V)[j]? = some (.str w) := by
          have := congrArg (Option.map V.str) q2
          rw [← List.getElem?_map] at this
          exact this
        walk_at "ev"
        exact atK_nat ee (q1 _ (s.trans s3) q2)
  refine seq1 ?_
  wide_line using [k1, k2, k3, k4, k5]
  simp only [List.mem_cons, Prod.mk.injEq, List.not_mem_nil, or_false] at hw
  refine ⟨by show 5 ≤ sizeLine; decide, fun p hp => ?_⟩
  have s := same_new (o := .lst [.bl b1, .bl b2, .bl b3, .bl b4, .bl b5]) hp
  have few : ∀ (bs : List Bool) (j : Nat), bs[j]? = some true → (∀ m, m < j → bs[m]? = some false) → True := fun _ _ _ _ => trivial
  rcases hw with ⟨rfl, rfl, rfl, rfl, rfl, rfl⟩ | ⟨rfl, rfl, rfl, rfl, rfl, rfl⟩ | ⟨rfl, rfl, rfl, rfl, rfl, rfl⟩ | ⟨rfl, rfl, rfl, rfl, rfl, rfl⟩ | ⟨rfl, rfl, rfl, rfl, rfl, rfl⟩
  · exact one [true, false, false, false, false] 0 rfl rfl (fun m hm => by omega) rfl p _ s upd_same (fun H' s' _ => k H' s') rfl
  · exact one [false, true, false, false, false] 1 rfl rfl (fun m hm => by match m, hm with | 0, _ => rfl) rfl p _ s upd_same (fun H' s' _ => k H' s') rfl
  · exact one [false, false, true, false, false] 2 rfl rfl (fun m hm => by match m, hm with | 0, _ => rfl | 1, _ => rfl) rfl p _ s upd_same (fun H' s' _ => k H' s') rfl
  · exact one [false, false, false, true, false] 3 rfl rfl (fun m hm => by match m, hm with | 0, _ => rfl | 1, _ => rfl | 2, _ => rfl) rfl p _ s upd_same (fun H' s' _ => k H' s') rfl
  · exact one [false, false, false, false, true] 4 rfl rfl (fun m hm => by match m, hm with | 0, _ => rfl | 1, _ => rfl | 2, _ => rfl | 3, _ => rfl) rfl p _ s upd_same (fun H' s' _ => k H' s') rfl
theorem take_on {H : Hp} {d : Addr} {b : Int} {Q : VK} {E : XK} (h : DrawsAt H d) (hb : 0 < b) (q : ∀ r H', 0 ≤ r → r < b → Keep [d] H H' → DrawsAt H' d → Q (.int r) H') : sp_law_take [.ref d, .int b] H Q E := by
  obtain ⟨ms, hm⟩ := h
  exact ⟨d, ms, b, rfl, hm, hb, fun r ms' r0 r1 => q r _ r0 r1 (keep_up (by simp)) ⟨ms', upd_same⟩⟩
theorem keep_kt {H H' : Hp} {d : Addr} (k : Keep [d] H H') (h : DrawsAt H d) : KT H H' := fun a xs e => by
  obtain ⟨ms, hm⟩ := h
  refine k a _ e ?_
  simp only [List.mem_singleton]
  rintro rfl
  rw [hm] at e
  cases e
theorem ite_or2 {c d : Prop} [Decidable c] [Decidable d] {X Y : Prop} (h1 : X) (h2 : ¬ c → ¬ d → Y) : if c then X else if d then X else Y := by
  by_cases hc : c
  · rw [if_pos hc]; exact h1
  · rw [if_neg hc]
    by_cases hd : d
    · rw [if_pos hd]; exact h1
    · rw [if_neg hd]; exact h2 hc hd
theorem paired_ints {α : Type} {G : α → Int → Prop} : ∀ {js : List α} {ys : List V}, Paired (fun j v => ∃ r, v = V.int r ∧ G j r) js ys → ∃ rs : List Int, ys = rs.map V.int ∧ Paired G js rs
  | _, _, .nil => ⟨[], rfl, .nil⟩
  | _, _, .cons ⟨r, e, g⟩ t => let ⟨rs, e2, p⟩ := paired_ints t; ⟨r :: rs, by rw [e, e2]; rfl, .cons g p⟩
theorem paired_memL {α β : Type} {G : α → β → Prop} {js : List α} {rs : List β} (p : Paired G js rs) {j : α} (h : j ∈ js) : ∃ r ∈ rs, G j r := by
  obtain ⟨i, hi⟩ := List.mem_iff_getElem?.mp h
  obtain ⟨r, h1, h2⟩ := pairedGet p hi
  exact ⟨r, List.mem_of_getElem? h1, h2⟩
theorem paired_memR {α β : Type} {G : α → β → Prop} {js : List α} {rs : List β} (p : Paired G js rs) {r : β} (h : r ∈ rs) : ∃ j ∈ js, G j r := by
  obtain ⟨i, hi⟩ := List.mem_iff_getElem?.mp h
  obtain ⟨j, h1, h2⟩ := pairedAt p hi
  exact ⟨j, List.mem_of_getElem? h1, h2⟩
theorem sum_nonneg : ∀ {rs : List Int}, (∀ x ∈ rs, 0 ≤ x) → 0 ≤ rs.sum
  | [], _ => by simp
  | x :: xs, h => by
    have := sum_nonneg (rs := xs) fun y hy => h y (List.mem_cons_of_mem _ hy)
    have := h x (List.mem_cons_self ..)
    simp
    omega
theorem lcL_draw {K : PySem.W.Frag} {a : Addr} {xs : List V} {g : TG} {tt : TT} {te : TE} {vs : List Nat} {σ : L2.St} {H1 : Hp} {Q : VK} {d : Addr} (hq : H1 a = some (.lst xs)) (na : a ≠ d) (hz : xs.length ≤ 1000000) (h0 : DrawsAt H1 d) (R : V → V → Hp → Prop) (st : ∀ x y H H', KT H H' → R x y H → R x y H')
    (turn : ∀ (i : Nat) (x : V), xs[i]? = some x → ∀ H, Keep [d] H1 H → DrawsAt H d → ∀ (k1 : VK) (k0 : Hp → Prop), (∀ y H', Keep [d] H H' → DrawsAt H' d → R x y H' → k1 y H') → LcTurn g tt te vs σ x H k1 k0)
    (hd : ∀ D H ys, H1 D = none → Keep [d] H1 H → DrawsAt H d → H D = some (.lst ys) → Paired (fun x y => R x y H) xs ys → Q (.ref D) H) : LcL K a g tt te vs σ H1 Q := by
  refine ⟨⟨_, .of hq⟩, fun D hD => ?_⟩
  have nd : d ≠ D := h0.ne hD
  refine lc_list (K := K) (a := a) (xs := xs) (fun i H => Keep [d] H1 H ∧ DrawsAt H d ∧ ∃ ys, H D = some (.lst ys) ∧ ys.length ≤ i ∧ Paired (fun x y => R x y H) (xs.take i) ys) ⟨.same (same_new hD), h0.same (same_new hD), [], upd_same, Nat.le_refl _, .nil⟩ (fun i H _ p => .of (p.1 _ _ hq (by simpa using na))) ?_ ?_
  · rintro i x H hx ⟨kp, dr, ys, hDs, hy, pr⟩
    have hlt := (List.getElem?_eq_some_iff.mp hx).1
    have e1 : xs.take (i + 1) = xs.take i ++ [x] := by rw [List.take_succ, hx]; rfl
    refine turn i x hx H kp dr _ _ (fun y H' kp' dr' r => ?_)
    have hD' : H' D = some (.lst ys) := kp' D _ hDs (by simpa using fun e => nd e.symm)
    have kt2 : KT H' (upd H' D (.lst (ys ++ [y]))) := KT.mut (by rw [hD']; rfl)
    refine ⟨ys, hD', Nat.lt_of_le_of_lt hy (by rw [sizeLine_eq]; omega), ?_, ?_, ys ++ [y], upd_same, by rw [List.length_append]; exact Nat.succ_le_succ hy, ?_⟩
    · exact Keep.new0 (kp.trans kp') hD
    · obtain ⟨ms, hm⟩ := dr'
      exact ⟨ms, by rw [upd_ne nd]; exact hm⟩
    · rw [e1]
      exact paired_app (Paired.mapP pr fun _ _ z => st _ _ _ _ ((keep_kt kp' dr).trans kt2) z) (.cons (st _ _ _ _ kt2 r) .nil)
  · rintro H ⟨kp, dr, ys, hDs, hy, pr⟩
    rw [List.take_length] at pr
    exact hd D H ys hD kp dr hDs pr
theorem atK_n {xs : List V} {i : Int} {v : V} {k : V → Prop} (n : Nat) (e : i = n) (h : xs[n]? = some v) (q : k v) : atK xs i k := by
  subst e
  exact atK_nat h q
theorem upd_here {H : Hp} {p : Addr} {o : HO} (_ : H p = none) : upd H p o p = some o := upd_same
theorem say_at {j : Nat} (h : j < 3) : ∃ w, w ∈ (["hit", "lost", "n"] : List Str) ∧ [V.str "hit", V.str "lost", V.str "n"][j]? = some (.str w) := by
  have : j = 0 ∨ j = 1 ∨ j = 2 := by omega
  rcases this with rfl | rfl | rfl
  · exact ⟨"hit", by simp, rfl⟩
  · exact ⟨"lost", by simp, rfl⟩
  · exact ⟨"n", by simp, rfl⟩
theorem say_w {w : Str} (h : w ∈ (["hit", "lost", "n"] : List Str)) : SayW w := by simpa [SayW] using h
theorem strOk_st : PyData.strOk "set" = true ∧ PyData.strOk "draw" = true ∧ PyData.strOk "if" = true ∧ PyData.strOk "say" = true ∧ PyData.strOk "send" = true := by decide +kernel
theorem say_ok : ∀ s ∈ (["hit", "lost", "n"] : List Str), PyData.strOk s = true := by decide +kernel
theorem r_law_body_gen {K : PySem.W.Frag} {A : Ads} {E : XK} {vs : List V} {H : Hp} {Q : VK} {sq : Sp} {n : Nat} (hsq : ∀ vs H Q E, (∃ m, n = m + 1 ∧ sp_law_body m vs H Q E) → sq vs H Q E) (h : sp_law_body n vs H Q E) : t_law_body K A E sq { nx := fun _ H' => Q .non H', rt := Q } (L2.start ["draws", "names", "kinds", "deep", "found", "turn", "kind"] vs) H := by
  obtain ⟨dr, nl, kl, ns, ks, k, rfl, hkn, hd, hn, nd, ⟨hl, hok⟩, kq⟩ := h
  unfold t_law_body
  have s1 : (0 : Nat) ≤ sizeLine ∧ (3 : Nat) ≤ sizeLine ∧ (4 : Nat) ≤ sizeLine := by rw [sizeLine_eq]; decide
  obtain ⟨o1, o2, o3, o4, o5⟩ := strOk_st
  refine seq1 ?_
  wide_line using [upd_same]
  refine ⟨s1.1, fun fl hfl => ?_⟩
  have k0 : Keep [dr] H (upd H fl (.lst [])) := .same (same_new hfl)
  have d0 := hd.same (same_new (o := .lst []) hfl)
  have q0 : upd H fl (.lst []) fl = some (.lst []) := upd_same
  have nf : dr ≠ fl := hd.ne hfl
  generalize upd H fl (.lst []) = H0 at *
  refine seq1 ?_
  wide_line using [upd_same]
  refine take_on d0 (by decide) fun r0 H1 a0 b0 k1 d1 => ⟨⟨by omega, by omega⟩, ?_⟩
  have q1 := k1 _ _ q0 (by simpa using fun e => nf e.symm)
  refine forR_to (fun i σ H' => Keep [dr] H H' ∧ DrawsAt H' dr ∧ ∃ (z1 z2 : Option V) (xs : List V) (ds : List PyData), σ = [some (.ref dr), some (.ref nl), some (.ref kl), some (.int k), some (.ref fl), z1, z2] ∧ H' fl = some (.lst xs) ∧ xs.length = i ∧ Paired (Tz H' (2 * k + 4)) xs ds ∧ ∀ d ∈ ds, StD ns k d)
    (fun σ H' => Keep [dr] H H' ∧ DrawsAt H' dr ∧ ∃ (z1 z2 : Option V) (xs : List V) (ds : List PyData), σ = [some (.ref dr), some (.ref nl), some (.ref kl), some (.int k), some (.ref fl), z1, z2] ∧ H' fl = some (.lst xs) ∧ xs.length ≤ 3 ∧ Paired (Tz H' (2 * k + 4)) xs ds ∧ ∀ d ∈ ds, StD ns k d)
    ⟨k0.trans k1, d1, none, none, [], [], rfl, q1, rfl, .nil, by simp⟩ ?_ ?_ ?_
  · rintro σ H' ⟨kp, dp, z1, z2, xs, ds, rfl, hx, hxl, pr, hs⟩
    exact ⟨kp, dp, z1, z2, xs, ds, rfl, hx, by omega, pr, hs⟩
  · rintro σ H' ⟨kp, dp, z1, z2, xs, ds, rfl, hx, hxl, pr, hs⟩
    wp_walk using hx
    refine fun p hp => kq _ ds _ (kp.trans (.same (same_new hp))) (dp.same (same_new hp)) (.tup upd_same (by omega) (Paired.mapP pr fun _ _ z => z.kt (.same (same_new hp)))) (by rw [← paired_len pr]; exact hxl) hs
  · rintro N nx hnx i σ H' hi hN ⟨kp, dp, z1, z2, xs, ds, rfl, hx, hxl, pr, hs⟩
    have hnp : H' nl = some (.lst (ns.map V.str)) := kp _ _ hn (by simpa using nd)
    have fin : ∀ (v : V) (d : PyData) (H2 : Hp) (z1 z2 : Option V), Keep [dr] H' H2 → DrawsAt H2 dr → Tz H2 (2 * k + 4) v d → StD ns k d → H2 fl = some (.lst xs) ∧ xs.length < sizeLine ∧ N [some (.ref dr), some (.ref nl), some (.ref kl), some (.int k), some (.ref fl), z1, z2] (upd H2 fl (.lst (xs ++ [v]))) := by
      intro v d H2 z1 z2 k2 d2 hz hd2
      have hx2 := k2 _ _ hx (by simpa using fun e => nf e.symm)
      have ku : KT H2 (upd H2 fl (.lst (xs ++ [v]))) := KT.mut (by rw [hx2]; rfl)
      refine ⟨hx2, by rw [sizeLine_eq]; omega, hN _ _ ⟨(kp.trans k2).new0 hfl, ?_, _, _, xs ++ [v], ds ++ [d], rfl, upd_same, by simp [hxl], paired_app (Paired.mapP pr fun _ _ z => (z.kt (keep_kt k2 dp)).kt ku) (.cons (hz.kt ku) .nil), ?_⟩⟩
      · obtain ⟨ms, hm⟩ := d2
        exact ⟨ms, by rw [upd_ne nf]; exact hm⟩
      · intro x hx
        rcases List.mem_append.mp hx with hx | hx
        · exact hs x hx
        · simp at hx; subst hx; exact hd2
    refine seq1 ?_
    wide_line using [upd_same]
    refine take_on dp (by decide) fun r2 H2 a2 b2 k2 d2 => ?_
    have hx2 := k2 _ _ hx (by simpa using fun e => nf e.symm)
    have hn2 := k2 _ _ hnp (by simpa using nd)
    have kc := k2
    have dc := d2
    have hxc := hx2
    have hnc := hn2
    clear k2 d2 hx2 hn2 kq q1 q0
    try (wide_line using [upd_same])
    refine ite2 (fun hc => ?_) fun hc => ?_
    · refine ⟨s1.1, fun p hp => neD_strs (l := ns) (m := []) (same_new hp _ _ hnc) upd_same (by omega) (by simp) hok (by simp) ?_⟩
      have kc := kc.trans (.same (same_new (o := .lst []) hp))
      have dc := dc.same (same_new (o := .lst []) hp)
      have hxc := same_new (o := .lst []) hp _ _ hxc
      have hnc := same_new (o := .lst []) hp _ _ hnc
      generalize upd _ p (.lst []) = Hd at *
      by_cases hns : ns = []
      · simp only [hns, decide_true, Bool.not_true, Bool.false_eq_true, if_false]
        refine ite2 (fun hc => ?_) fun hc => ?_
        · refine ⟨s1.1, fun p hp => neD_strs (l := ns) (m := []) (same_new hp _ _ hnc) upd_same (by omega) (by simp) hok (by simp) ?_⟩
          have kc := kc.trans (.same (same_new (o := .lst []) hp))
          have dc := dc.same (same_new (o := .lst []) hp)
          have hxc := same_new (o := .lst []) hp _ _ hxc
          have hnc := same_new (o := .lst []) hp _ _ hnc
          generalize upd _ p (.lst []) = Hd at *
          by_cases hns : ns = []
          · simp only [hns, decide_true, Bool.not_true, Bool.false_eq_true, if_false]
            refine ite2 (fun hc => ?_) fun hc => ?_
            · refine ite2 (fun hk => ?_) fun hk => ?_
              · obtain ⟨k', rfl⟩ : ∃ k', k = k' + 1 := ⟨k - 1, by omega⟩
                obtain ⟨m, rfl⟩ : ∃ m, n = m + 1 := ⟨n - 1, by omega⟩
                have ek : ((k' + 1 : Nat) : Int) - 1 = (k' : Int) := by omega
                simp only [hxc]
                refine ⟨dr, nl, ns, 2, rfl, by decide, dc, hnc, nd, ⟨hl, hok⟩, fun ve de Hxve kxve dxve ze xe => ?_⟩
                have kc := kc.trans kxve
                have hxc := kxve _ _ hxc (by simpa using fun e => nf e.symm)
                have hnc := kxve _ _ hnc (by simpa using nd)
                have dpve := dc
                have dc := dxve
                rw [ek]
                refine hsq _ _ _ _ ⟨m, rfl, dr, nl, kl, ns, ks, k', rfl, by omega, dc, hnc, nd, ⟨hl, hok⟩, fun v1 b1 Hy ky dy z1 l1 x1 => ?_⟩
                have kc := kc.trans ky
                have hxc := ky _ _ hxc (by simpa using fun e => nf e.symm)
                have hnc := ky _ _ hnc (by simpa using nd)
                have ze := ze.kt (keep_kt ky dc)
                have dc := dy
                refine hsq _ _ _ _ ⟨m, rfl, dr, nl, kl, ns, ks, k', rfl, by omega, dc, hnc, nd, ⟨hl, hok⟩, fun v2 b2 Hz kz dz z2 l2 x2 => ?_⟩
                have kc := kc.trans kz
                have hxc := kz _ _ hxc (by simpa using fun e => nf e.symm)
                have ze := ze.kt (keep_kt kz dc)
                have z1 := z1.kt (keep_kt kz dc)
                have dc := dz
                refine ⟨s1.2.2, fun q hq => ?_⟩
                obtain ⟨f1, f2, f3⟩ := fin (.ref q) (.tuple [.str "if", de, .tuple b1, .tuple b2]) _ _ _ (kc.trans (.same (same_new hq))) (dc.same (same_new hq)) (.tup upd_same (by simp) (.cons (.str o3) (.cons ((ze.le (by omega)).kt (.same (same_new hq))) (.cons ((z1.le (by omega)).kt (.same (same_new hq))) (.cons ((z2.le (by omega)).kt (.same (same_new hq))) .nil))))) (.inr ⟨_, _, _, rfl, xe, x1, x2, by omega, by omega⟩)
                simp only [f1]
                exact ⟨f2, f3⟩
              · simp only [hxc]
                refine ⟨s1.2.1, fun pw hpw => ?_⟩
                have qw := upd_here (o := .lst [V.str "hit", V.str "lost", V.str "n"]) hpw
                have npw := dc.ne hpw
                have kc := kc.trans (.same (same_new (o := .lst [V.str "hit", V.str "lost", V.str "n"]) hpw))
                have dc := dc.same (same_new (o := .lst [V.str "hit", V.str "lost", V.str "n"]) hpw)
                have hxc := same_new (o := .lst [V.str "hit", V.str "lost", V.str "n"]) hpw _ _ hxc
                have hnc := same_new (o := .lst [V.str "hit", V.str "lost", V.str "n"]) hpw _ _ hnc
                generalize upd _ pw (.lst [V.str "hit", V.str "lost", V.str "n"]) = Hw at *
                refine take_on dc (by decide) fun r5 H6 a6 b6 k6 d6 => ?_
                have qw := k6 _ _ qw (by simpa using fun e => npw e.symm)
                have kc := kc.trans k6
                have hxc := k6 _ _ hxc (by simpa using fun e => nf e.symm)
                have hnc := k6 _ _ hnc (by simpa using nd)
                have dc := d6
                obtain ⟨j, rfl⟩ := Int.eq_ofNat_of_zero_le a6
                obtain ⟨sw, ms, hsw⟩ := say_at (j := j) (by omega)
                simp only [qw, seqAt_lst]
                refine atK_nat hsw ?_
                have sok := say_ok sw ms
                refine ⟨dr, nl, ns, 2, rfl, by decide, dc, hnc, nd, ⟨hl, hok⟩, fun ve de Hxve kxve dxve ze xe => ?_⟩
                have kc := kc.trans kxve
                have hxc := kxve _ _ hxc (by simpa using fun e => nf e.symm)
                have hnc := kxve _ _ hnc (by simpa using nd)
                have dpve := dc
                have dc := dxve
                refine ⟨s1.2.1, fun q hq => ?_⟩
                obtain ⟨f1, f2, f3⟩ := fin (.ref q) (.tuple [.str "say", .str sw, de]) _ _ _ (kc.trans (.same (same_new hq))) (dc.same (same_new hq)) (.tup upd_same (by simp) (.cons (.str o4) (.cons (.str sok) (.cons ((ze.le (by omega)).kt (.same (same_new hq))) .nil)))) (.simple (.inr (.inr (.inl ⟨_, _, say_w ms, rfl, xe⟩))))
                simp only [f1]
                exact ⟨f2, f3⟩
            · simp only [hxc]
              refine ⟨s1.2.1, fun pw hpw => ?_⟩
              have qw := upd_here (o := .lst [V.str "hit", V.str "lost", V.str "n"]) hpw
              have npw := dc.ne hpw
              have kc := kc.trans (.same (same_new (o := .lst [V.str "hit", V.str "lost", V.str "n"]) hpw))
              have dc := dc.same (same_new (o := .lst [V.str "hit", V.str "lost", V.str "n"]) hpw)
              have hxc := same_new (o := .lst [V.str "hit", V.str "lost", V.str "n"]) hpw _ _ hxc
              have hnc := same_new (o := .lst [V.str "hit", V.str "lost", V.str "n"]) hpw _ _ hnc
              generalize upd _ pw (.lst [V.str "hit", V.str "lost", V.str "n"]) = Hw at *
              refine take_on dc (by decide) fun r5 H6 a6 b6 k6 d6 => ?_
              have qw := k6 _ _ qw (by simpa using fun e => npw e.symm)
              have kc := kc.trans k6
              have hxc := k6 _ _ hxc (by simpa using fun e => nf e.symm)
              have hnc := k6 _ _ hnc (by simpa using nd)
              have dc := d6
              obtain ⟨j, rfl⟩ := Int.eq_ofNat_of_zero_le a6
              obtain ⟨sw, ms, hsw⟩ := say_at (j := j) (by omega)
              simp only [qw, seqAt_lst]
              refine atK_nat hsw ?_
              have sok := say_ok sw ms
              refine ⟨dr, nl, ns, 2, rfl, by decide, dc, hnc, nd, ⟨hl, hok⟩, fun ve de Hxve kxve dxve ze xe => ?_⟩
              have kc := kc.trans kxve
              have hxc := kxve _ _ hxc (by simpa using fun e => nf e.symm)
              have hnc := kxve _ _ hnc (by simpa using nd)
              have dpve := dc
              have dc := dxve
              refine ⟨s1.2.1, fun q hq => ?_⟩
              obtain ⟨f1, f2, f3⟩ := fin (.ref q) (.tuple [.str "say", .str sw, de]) _ _ _ (kc.trans (.same (same_new hq))) (dc.same (same_new hq)) (.tup upd_same (by simp) (.cons (.str o4) (.cons (.str sok) (.cons ((ze.le (by omega)).kt (.same (same_new hq))) .nil)))) (.simple (.inr (.inr (.inl ⟨_, _, say_w ms, rfl, xe⟩))))
              simp only [f1]
              exact ⟨f2, f3⟩
          · simp only [hns, decide_false, Bool.not_false, if_true]
            simp only [hxc, hnc, seqAt_lst, List.length_map]
            refine take_on dc (by have := List.length_pos_iff.mpr hns; omega) fun r3 H4 a4 b4 k4 d4 => ?_
            have kc := kc.trans k4
            have hxc := k4 _ _ hxc (by simpa using fun e => nf e.symm)
            have hnc := k4 _ _ hnc (by simpa using nd)
            have dc := d4
            obtain ⟨j, rfl⟩ := Int.eq_ofNat_of_zero_le a4
            have hj : j < ns.length := by omega
            simp only [hnc, seqAt_lst]
            refine atK_nat (v := .str ns[j]) (by rw [List.getElem?_map, List.getElem?_eq_getElem hj]; rfl) ?_
            have mx : ns[j] ∈ ns := List.getElem_mem hj
            refine ⟨dr, nl, ns, 1, rfl, by decide, dc, hnc, nd, ⟨hl, hok⟩, fun ve de Hxve kxve dxve ze xe => ?_⟩
            have kc := kc.trans kxve
            have hxc := kxve _ _ hxc (by simpa using fun e => nf e.symm)
            have hnc := kxve _ _ hnc (by simpa using nd)
            have dpve := dc
            have dc := dxve
            refine ⟨s1.2.1, fun q hq => ?_⟩
            obtain ⟨f1, f2, f3⟩ := fin (.ref q) (.tuple [.str "draw", .str ns[j], de]) _ _ _ (kc.trans (.same (same_new hq))) (dc.same (same_new hq)) (.tup upd_same (by simp) (.cons (.str o2) (.cons (.str (hok _ mx)) (.cons ((ze.le (by omega)).kt (.same (same_new hq))) .nil)))) (.simple (.inr (.inl ⟨_, _, mx, rfl, xe.le (by decide)⟩)))
            simp only [f1]
            exact ⟨f2, f3⟩
        · refine ite2 (fun hc => ?_) fun hc => ?_
          · refine ite2 (fun hk => ?_) fun hk => ?_
            · obtain ⟨k', rfl⟩ : ∃ k', k = k' + 1 := ⟨k - 1, by omega⟩
              obtain ⟨m, rfl⟩ : ∃ m, n = m + 1 := ⟨n - 1, by omega⟩
              have ek : ((k' + 1 : Nat) : Int) - 1 = (k' : Int) := by omega
              simp only [hxc]
              refine ⟨dr, nl, ns, 2, rfl, by decide, dc, hnc, nd, ⟨hl, hok⟩, fun ve de Hxve kxve dxve ze xe => ?_⟩
              have kc := kc.trans kxve
              have hxc := kxve _ _ hxc (by simpa using fun e => nf e.symm)
              have hnc := kxve _ _ hnc (by simpa using nd)
              have dpve := dc
              have dc := dxve
              rw [ek]
              refine hsq _ _ _ _ ⟨m, rfl, dr, nl, kl, ns, ks, k', rfl, by omega, dc, hnc, nd, ⟨hl, hok⟩, fun v1 b1 Hy ky dy z1 l1 x1 => ?_⟩
              have kc := kc.trans ky
              have hxc := ky _ _ hxc (by simpa using fun e => nf e.symm)
              have hnc := ky _ _ hnc (by simpa using nd)
              have ze := ze.kt (keep_kt ky dc)
              have dc := dy
              refine hsq _ _ _ _ ⟨m, rfl, dr, nl, kl, ns, ks, k', rfl, by omega, dc, hnc, nd, ⟨hl, hok⟩, fun v2 b2 Hz kz dz z2 l2 x2 => ?_⟩
              have kc := kc.trans kz
              have hxc := kz _ _ hxc (by simpa using fun e => nf e.symm)
              have ze := ze.kt (keep_kt kz dc)
              have z1 := z1.kt (keep_kt kz dc)
              have dc := dz
              refine ⟨s1.2.2, fun q hq => ?_⟩
              obtain ⟨f1, f2, f3⟩ := fin (.ref q) (.tuple [.str "if", de, .tuple b1, .tuple b2]) _ _ _ (kc.trans (.same (same_new hq))) (dc.same (same_new hq)) (.tup upd_same (by simp) (.cons (.str o3) (.cons ((ze.le (by omega)).kt (.same (same_new hq))) (.cons ((z1.le (by omega)).kt (.same (same_new hq))) (.cons ((z2.le (by omega)).kt (.same (same_new hq))) .nil))))) (.inr ⟨_, _, _, rfl, xe, x1, x2, by omega, by omega⟩)
              simp only [f1]
              exact ⟨f2, f3⟩
            · simp only [hxc]
              refine ⟨s1.2.1, fun pw hpw => ?_⟩
              have qw := upd_here (o := .lst [V.str "hit", V.str "lost", V.str "n"]) hpw
              have npw := dc.ne hpw
              have kc := kc.trans (.same (same_new (o := .lst [V.str "hit", V.str "lost", V.str "n"]) hpw))
              have dc := dc.same (same_new (o := .lst [V.str "hit", V.str "lost", V.str "n"]) hpw)
              have hxc := same_new (o := .lst [V.str "hit", V.str "lost", V.str "n"]) hpw _ _ hxc
              have hnc := same_new (o := .lst [V.str "hit", V.str "lost", V.str "n"]) hpw _ _ hnc
              generalize upd _ pw (.lst [V.str "hit", V.str "lost", V.str "n"]) = Hw at *
              refine take_on dc (by decide) fun r5 H6 a6 b6 k6 d6 => ?_
              have qw := k6 _ _ qw (by simpa using fun e => npw e.symm)
              have kc := kc.trans k6
              have hxc := k6 _ _ hxc (by simpa using fun e => nf e.symm)
              have hnc := k6 _ _ hnc (by simpa using nd)
              have dc := d6
              obtain ⟨j, rfl⟩ := Int.eq_ofNat_of_zero_le a6
              obtain ⟨sw, ms, hsw⟩ := say_at (j := j) (by omega)
              simp only [qw, seqAt_lst]
              refine atK_nat hsw ?_
              have sok := say_ok sw ms
              refine ⟨dr, nl, ns, 2, rfl, by decide, dc, hnc, nd, ⟨hl, hok⟩, fun ve de Hxve kxve dxve ze xe => ?_⟩
              have kc := kc.trans kxve
              have hxc := kxve _ _ hxc (by simpa using fun e => nf e.symm)
              have hnc := kxve _ _ hnc (by simpa using nd)
              have dpve := dc
              have dc := dxve
              refine ⟨s1.2.1, fun q hq => ?_⟩
              obtain ⟨f1, f2, f3⟩ := fin (.ref q) (.tuple [.str "say", .str sw, de]) _ _ _ (kc.trans (.same (same_new hq))) (dc.same (same_new hq)) (.tup upd_same (by simp) (.cons (.str o4) (.cons (.str sok) (.cons ((ze.le (by omega)).kt (.same (same_new hq))) .nil)))) (.simple (.inr (.inr (.inl ⟨_, _, say_w ms, rfl, xe⟩))))
              simp only [f1]
              exact ⟨f2, f3⟩
          · simp only [hxc]
            refine ⟨s1.2.1, fun pw hpw => ?_⟩
            have qw := upd_here (o := .lst [V.str "hit", V.str "lost", V.str "n"]) hpw
            have npw := dc.ne hpw
            have kc := kc.trans (.same (same_new (o := .lst [V.str "hit", V.str "lost", V.str "n"]) hpw))
            have dc := dc.same (same_new (o := .lst [V.str "hit", V.str "lost", V.str "n"]) hpw)
            have hxc := same_new (o := .lst [V.str "hit", V.str "lost", V.str "n"]) hpw _ _ hxc
            have hnc := same_new (o := .lst [V.str "hit", V.str "lost", V.str "n"]) hpw _ _ hnc
            generalize upd _ pw (.lst [V.str "hit", V.str "lost", V.str "n"]) = Hw at *
            refine take_on dc (by decide) fun r5 H6 a6 b6 k6 d6 => ?_
            have qw := k6 _ _ qw (by simpa using fun e => npw e.symm)
            have kc := kc.trans k6
            have hxc := k6 _ _ hxc (by simpa using fun e => nf e.symm)
            have hnc := k6 _ _ hnc (by simpa using nd)
            have dc := d6
            obtain ⟨j, rfl⟩ := Int.eq_ofNat_of_zero_le a6
            obtain ⟨sw, ms, hsw⟩ := say_at (j := j) (by omega)
            simp only [qw, seqAt_lst]
            refine atK_nat hsw ?_
            have sok := say_ok sw ms
            refine ⟨dr, nl, ns, 2, rfl, by decide, dc, hnc, nd, ⟨hl, hok⟩, fun ve de Hxve kxve dxve ze xe => ?_⟩
            have kc := kc.trans kxve
            have hxc := kxve _ _ hxc (by simpa using fun e => nf e.symm)
            have hnc := kxve _ _ hnc (by simpa using nd)
            have dpve := dc
            have dc := dxve
            refine ⟨s1.2.1, fun q hq => ?_⟩
            obtain ⟨f1, f2, f3⟩ := fin (.ref q) (.tuple [.str "say", .str sw, de]) _ _ _ (kc.trans (.same (same_new hq))) (dc.same (same_new hq)) (.tup upd_same (by simp) (.cons (.str o4) (.cons (.str sok) (.cons ((ze.le (by omega)).kt (.same (same_new hq))) .nil)))) (.simple (.inr (.inr (.inl ⟨_, _, say_w ms, rfl, xe⟩))))
            simp only [f1]
            exact ⟨f2, f3⟩
      · simp only [hns, decide_false, Bool.not_false, if_true]
        simp only [hxc, hnc, seqAt_lst, List.length_map]
        refine take_on dc (by have := List.length_pos_iff.mpr hns; omega) fun r3 H4 a4 b4 k4 d4 => ?_
        have kc := kc.trans k4
        have hxc := k4 _ _ hxc (by simpa using fun e => nf e.symm)
        have hnc := k4 _ _ hnc (by simpa using nd)
        have dc := d4
        obtain ⟨j, rfl⟩ := Int.eq_ofNat_of_zero_le a4
        have hj : j < ns.length := by omega
        simp only [hnc, seqAt_lst]
        refine atK_nat (v := .str ns[j]) (by rw [List.getElem?_map, List.getElem?_eq_getElem hj]; rfl) ?_
        have mx : ns[j] ∈ ns := List.getElem_mem hj
        refine ⟨dr, nl, ns, 2, rfl, by decide, dc, hnc, nd, ⟨hl, hok⟩, fun ve de Hxve kxve dxve ze xe => ?_⟩
        have kc := kc.trans kxve
        have hxc := kxve _ _ hxc (by simpa using fun e => nf e.symm)
        have hnc := kxve _ _ hnc (by simpa using nd)
        have dpve := dc
        have dc := dxve
        refine ⟨s1.2.1, fun q hq => ?_⟩
        obtain ⟨f1, f2, f3⟩ := fin (.ref q) (.tuple [.str "set", .str ns[j], de]) _ _ _ (kc.trans (.same (same_new hq))) (dc.same (same_new hq)) (.tup upd_same (by simp) (.cons (.str o1) (.cons (.str (hok _ mx)) (.cons ((ze.le (by omega)).kt (.same (same_new hq))) .nil)))) (.simple (.inl ⟨_, _, mx, rfl, xe.le (by decide)⟩))
        simp only [f1]
        exact ⟨f2, f3⟩
    · refine ite2 (fun hc => ?_) fun hc => ?_
      · refine ⟨s1.1, fun p hp => neD_strs (l := ns) (m := []) (same_new hp _ _ hnc) upd_same (by omega) (by simp) hok (by simp) ?_⟩
        have kc := kc.trans (.same (same_new (o := .lst []) hp))
        have dc := dc.same (same_new (o := .lst []) hp)
        have hxc := same_new (o := .lst []) hp _ _ hxc
        have hnc := same_new (o := .lst []) hp _ _ hnc
        generalize upd _ p (.lst []) = Hd at *
        by_cases hns : ns = []
        · simp only [hns, decide_true, Bool.not_true, Bool.false_eq_true, if_false]
          refine ite2 (fun hc => ?_) fun hc => ?_
          · refine ite2 (fun hk => ?_) fun hk => ?_
            · obtain ⟨k', rfl⟩ : ∃ k', k = k' + 1 := ⟨k - 1, by omega⟩
              obtain ⟨m, rfl⟩ : ∃ m, n = m + 1 := ⟨n - 1, by omega⟩
              have ek : ((k' + 1 : Nat) : Int) - 1 = (k' : Int) := by omega
              simp only [hxc]
              refine ⟨dr, nl, ns, 2, rfl, by decide, dc, hnc, nd, ⟨hl, hok⟩, fun ve de Hxve kxve dxve ze xe => ?_⟩
              have kc := kc.trans kxve
              have hxc := kxve _ _ hxc (by simpa using fun e => nf e.symm)
              have hnc := kxve _ _ hnc (by simpa using nd)
              have dpve := dc
              have dc := dxve
              rw [ek]
              refine hsq _ _ _ _ ⟨m, rfl, dr, nl, kl, ns, ks, k', rfl, by omega, dc, hnc, nd, ⟨hl, hok⟩, fun v1 b1 Hy ky dy z1 l1 x1 => ?_⟩
              have kc := kc.trans ky
              have hxc := ky _ _ hxc (by simpa using fun e => nf e.symm)
              have hnc := ky _ _ hnc (by simpa using nd)
              have ze := ze.kt (keep_kt ky dc)
              have dc := dy
              refine hsq _ _ _ _ ⟨m, rfl, dr, nl, kl, ns, ks, k', rfl, by omega, dc, hnc, nd, ⟨hl, hok⟩, fun v2 b2 Hz kz dz z2 l2 x2 => ?_⟩
              have kc := kc.trans kz
              have hxc := kz _ _ hxc (by simpa using fun e => nf e.symm)
              have ze := ze.kt (keep_kt kz dc)
              have z1 := z1.kt (keep_kt kz dc)
              have dc := dz
              refine ⟨s1.2.2, fun q hq => ?_⟩
              obtain ⟨f1, f2, f3⟩ := fin (.ref q) (.tuple [.str "if", de, .tuple b1, .tuple b2]) _ _ _ (kc.trans (.same (same_new hq))) (dc.same (same_new hq)) (.tup upd_same (by simp) (.cons (.str o3) (.cons ((ze.le (by omega)).kt (.same (same_new hq))) (.cons ((z1.le (by omega)).kt (.same (same_new hq))) (.cons ((z2.le (by omega)).kt (.same (same_new hq))) .nil))))) (.inr ⟨_, _, _, rfl, xe, x1, x2, by omega, by omega⟩)
              simp only [f1]
              exact ⟨f2, f3⟩
            · simp only [hxc]
              refine ⟨s1.2.1, fun pw hpw => ?_⟩
              have qw := upd_here (o := .lst [V.str "hit", V.str "lost", V.str "n"]) hpw
              have npw := dc.ne hpw
              have kc := kc.trans (.same (same_new (o := .lst [V.str "hit", V.str "lost", V.str "n"]) hpw))
              have dc := dc.same (same_new (o := .lst [V.str "hit", V.str "lost", V.str "n"]) hpw)
              have hxc := same_new (o := .lst [V.str "hit", V.str "lost", V.str "n"]) hpw _ _ hxc
              have hnc := same_new (o := .lst [V.str "hit", V.str "lost", V.str "n"]) hpw _ _ hnc
              generalize upd _ pw (.lst [V.str "hit", V.str "lost", V.str "n"]) = Hw at *
              refine take_on dc (by decide) fun r5 H6 a6 b6 k6 d6 => ?_
              have qw := k6 _ _ qw (by simpa using fun e => npw e.symm)
              have kc := kc.trans k6
              have hxc := k6 _ _ hxc (by simpa using fun e => nf e.symm)
              have hnc := k6 _ _ hnc (by simpa using nd)
              have dc := d6
              obtain ⟨j, rfl⟩ := Int.eq_ofNat_of_zero_le a6
              obtain ⟨sw, ms, hsw⟩ := say_at (j := j) (by omega)
              simp only [qw, seqAt_lst]
              refine atK_nat hsw ?_
              have sok := say_ok sw ms
              refine ⟨dr, nl, ns, 2, rfl, by decide, dc, hnc, nd, ⟨hl, hok⟩, fun ve de Hxve kxve dxve ze xe => ?_⟩
              have kc := kc.trans kxve
              have hxc := kxve _ _ hxc (by simpa using fun e => nf e.symm)
              have hnc := kxve _ _ hnc (by simpa using nd)
              have dpve := dc
              have dc := dxve
              refine ⟨s1.2.1, fun q hq => ?_⟩
              obtain ⟨f1, f2, f3⟩ := fin (.ref q) (.tuple [.str "say", .str sw, de]) _ _ _ (kc.trans (.same (same_new hq))) (dc.same (same_new hq)) (.tup upd_same (by simp) (.cons (.str o4) (.cons (.str sok) (.cons ((ze.le (by omega)).kt (.same (same_new hq))) .nil)))) (.simple (.inr (.inr (.inl ⟨_, _, say_w ms, rfl, xe⟩))))
              simp only [f1]
              exact ⟨f2, f3⟩
          · simp only [hxc]
            refine ⟨s1.2.1, fun pw hpw => ?_⟩
            have qw := upd_here (o := .lst [V.str "hit", V.str "lost", V.str "n"]) hpw
            have npw := dc.ne hpw
            have kc := kc.trans (.same (same_new (o := .lst [V.str "hit", V.str "lost", V.str "n"]) hpw))
            have dc := dc.same (same_new (o := .lst [V.str "hit", V.str "lost", V.str "n"]) hpw)
            have hxc := same_new (o := .lst [V.str "hit", V.str "lost", V.str "n"]) hpw _ _ hxc
            have hnc := same_new (o := .lst [V.str "hit", V.str "lost", V.str "n"]) hpw _ _ hnc
            generalize upd _ pw (.lst [V.str "hit", V.str "lost", V.str "n"]) = Hw at *
            refine take_on dc (by decide) fun r5 H6 a6 b6 k6 d6 => ?_
            have qw := k6 _ _ qw (by simpa using fun e => npw e.symm)
            have kc := kc.trans k6
            have hxc := k6 _ _ hxc (by simpa using fun e => nf e.symm)
            have hnc := k6 _ _ hnc (by simpa using nd)
            have dc := d6
            obtain ⟨j, rfl⟩ := Int.eq_ofNat_of_zero_le a6
            obtain ⟨sw, ms, hsw⟩ := say_at (j := j) (by omega)
            simp only [qw, seqAt_lst]
            refine atK_nat hsw ?_
            have sok := say_ok sw ms
            refine ⟨dr, nl, ns, 2, rfl, by decide, dc, hnc, nd, ⟨hl, hok⟩, fun ve de Hxve kxve dxve ze xe => ?_⟩
            have kc := kc.trans kxve
            have hxc := kxve _ _ hxc (by simpa using fun e => nf e.symm)
            have hnc := kxve _ _ hnc (by simpa using nd)
            have dpve := dc
            have dc := dxve
            refine ⟨s1.2.1, fun q hq => ?_⟩
            obtain ⟨f1, f2, f3⟩ := fin (.ref q) (.tuple [.str "say", .str sw, de]) _ _ _ (kc.trans (.same (same_new hq))) (dc.same (same_new hq)) (.tup upd_same (by simp) (.cons (.str o4) (.cons (.str sok) (.cons ((ze.le (by omega)).kt (.same (same_new hq))) .nil)))) (.simple (.inr (.inr (.inl ⟨_, _, say_w ms, rfl, xe⟩))))
            simp only [f1]
            exact ⟨f2, f3⟩
        · simp only [hns, decide_false, Bool.not_false, if_true]
          simp only [hxc, hnc, seqAt_lst, List.length_map]
          refine take_on dc (by have := List.length_pos_iff.mpr hns; omega) fun r3 H4 a4 b4 k4 d4 => ?_
          have kc := kc.trans k4
          have hxc := k4 _ _ hxc (by simpa using fun e => nf e.symm)
          have hnc := k4 _ _ hnc (by simpa using nd)
          have dc := d4
          obtain ⟨j, rfl⟩ := Int.eq_ofNat_of_zero_le a4
          have hj : j < ns.length := by omega
          simp only [hnc, seqAt_lst]
          refine atK_nat (v := .str ns[j]) (by rw [List.getElem?_map, List.getElem?_eq_getElem hj]; rfl) ?_
          have mx : ns[j] ∈ ns := List.getElem_mem hj
          refine ⟨dr, nl, ns, 1, rfl, by decide, dc, hnc, nd, ⟨hl, hok⟩, fun ve de Hxve kxve dxve ze xe => ?_⟩
          have kc := kc.trans kxve
          have hxc := kxve _ _ hxc (by simpa using fun e => nf e.symm)
          have hnc := kxve _ _ hnc (by simpa using nd)
          have dpve := dc
          have dc := dxve
          refine ⟨s1.2.1, fun q hq => ?_⟩
          obtain ⟨f1, f2, f3⟩ := fin (.ref q) (.tuple [.str "draw", .str ns[j], de]) _ _ _ (kc.trans (.same (same_new hq))) (dc.same (same_new hq)) (.tup upd_same (by simp) (.cons (.str o2) (.cons (.str (hok _ mx)) (.cons ((ze.le (by omega)).kt (.same (same_new hq))) .nil)))) (.simple (.inr (.inl ⟨_, _, mx, rfl, xe.le (by decide)⟩)))
          simp only [f1]
          exact ⟨f2, f3⟩
      · refine ite2 (fun hc => ?_) fun hc => ?_
        · refine ite2 (fun hk => ?_) fun hk => ?_
          · obtain ⟨k', rfl⟩ : ∃ k', k = k' + 1 := ⟨k - 1, by omega⟩
            obtain ⟨m, rfl⟩ : ∃ m, n = m + 1 := ⟨n - 1, by omega⟩
            have ek : ((k' + 1 : Nat) : Int) - 1 = (k' : Int) := by omega
            simp only [hxc]
            refine ⟨dr, nl, ns, 2, rfl, by decide, dc, hnc, nd, ⟨hl, hok⟩, fun ve de Hxve kxve dxve ze xe => ?_⟩
            have kc := kc.trans kxve
            have hxc := kxve _ _ hxc (by simpa using fun e => nf e.symm)
            have hnc := kxve _ _ hnc (by simpa using nd)
            have dpve := dc
            have dc := dxve
            rw [ek]
            refine hsq _ _ _ _ ⟨m, rfl, dr, nl, kl, ns, ks, k', rfl, by omega, dc, hnc, nd, ⟨hl, hok⟩, fun v1 b1 Hy ky dy z1 l1 x1 => ?_⟩
            have kc := kc.trans ky
            have hxc := ky _ _ hxc (by simpa using fun e => nf e.symm)
            have hnc := ky _ _ hnc (by simpa using nd)
            have ze := ze.kt (keep_kt ky dc)
            have dc := dy
            refine hsq _ _ _ _ ⟨m, rfl, dr, nl, kl, ns, ks, k', rfl, by omega, dc, hnc, nd, ⟨hl, hok⟩, fun v2 b2 Hz kz dz z2 l2 x2 => ?_⟩
            have kc := kc.trans kz
            have hxc := kz _ _ hxc (by simpa using fun e => nf e.symm)
            have ze := ze.kt (keep_kt kz dc)
            have z1 := z1.kt (keep_kt kz dc)
            have dc := dz
            refine ⟨s1.2.2, fun q hq => ?_⟩
            obtain ⟨f1, f2, f3⟩ := fin (.ref q) (.tuple [.str "if", de, .tuple b1, .tuple b2]) _ _ _ (kc.trans (.same (same_new hq))) (dc.same (same_new hq)) (.tup upd_same (by simp) (.cons (.str o3) (.cons ((ze.le (by omega)).kt (.same (same_new hq))) (.cons ((z1.le (by omega)).kt (.same (same_new hq))) (.cons ((z2.le (by omega)).kt (.same (same_new hq))) .nil))))) (.inr ⟨_, _, _, rfl, xe, x1, x2, by omega, by omega⟩)
            simp only [f1]
            exact ⟨f2, f3⟩
          · simp only [hxc]
            refine ⟨s1.2.1, fun pw hpw => ?_⟩
            have qw := upd_here (o := .lst [V.str "hit", V.str "lost", V.str "n"]) hpw
            have npw := dc.ne hpw
            have kc := kc.trans (.same (same_new (o := .lst [V.str "hit", V.str "lost", V.str "n"]) hpw))
            have dc := dc.same (same_new (o := .lst [V.str "hit", V.str "lost", V.str "n"]) hpw)
            have hxc := same_new (o := .lst [V.str "hit", V.str "lost", V.str "n"]) hpw _ _ hxc
            have hnc := same_new (o := .lst [V.str "hit", V.str "lost", V.str "n"]) hpw _ _ hnc
            generalize upd _ pw (.lst [V.str "hit", V.str "lost", V.str "n"]) = Hw at *
            refine take_on dc (by decide) fun r5 H6 a6 b6 k6 d6 => ?_
            have qw := k6 _ _ qw (by simpa using fun e => npw e.symm)
            have kc := kc.trans k6
            have hxc := k6 _ _ hxc (by simpa using fun e => nf e.symm)
            have hnc := k6 _ _ hnc (by simpa using nd)
            have dc := d6
            obtain ⟨j, rfl⟩ := Int.eq_ofNat_of_zero_le a6
            obtain ⟨sw, ms, hsw⟩ := say_at (j := j) (by omega)
            simp only [qw, seqAt_lst]
            refine atK_nat hsw ?_
            have sok := say_ok sw ms
            refine ⟨dr, nl, ns, 2, rfl, by decide, dc, hnc, nd, ⟨hl, hok⟩, fun ve de Hxve kxve dxve ze xe => ?_⟩
            have kc := kc.trans kxve
            have hxc := kxve _ _ hxc (by simpa using fun e => nf e.symm)
            have hnc := kxve _ _ hnc (by simpa using nd)
            have dpve := dc
            have dc := dxve
            refine ⟨s1.2.1, fun q hq => ?_⟩
            obtain ⟨f1, f2, f3⟩ := fin (.ref q) (.tuple [.str "say", .str sw, de]) _ _ _ (kc.trans (.same (same_new hq))) (dc.same (same_new hq)) (.tup upd_same (by simp) (.cons (.str o4) (.cons (.str sok) (.cons ((ze.le (by omega)).kt (.same (same_new hq))) .nil)))) (.simple (.inr (.inr (.inl ⟨_, _, say_w ms, rfl, xe⟩))))
            simp only [f1]
            exact ⟨f2, f3⟩
        · simp only [hxc]
          refine ⟨s1.2.1, fun pw hpw => ?_⟩
          have qw := upd_here (o := .lst [V.str "hit", V.str "lost", V.str "n"]) hpw
          have npw := dc.ne hpw
          have kc := kc.trans (.same (same_new (o := .lst [V.str "hit", V.str "lost", V.str "n"]) hpw))
          have dc := dc.same (same_new (o := .lst [V.str "hit", V.str "lost", V.str "n"]) hpw)
          have hxc := same_new (o := .lst [V.str "hit", V.str "lost", V.str "n"]) hpw _ _ hxc
          have hnc := same_new (o := .lst [V.str "hit", V.str "lost", V.str "n"]) hpw _ _ hnc
          generalize upd _ pw (.lst [V.str "hit", V.str "lost", V.str "n"]) = Hw at *
          refine take_on dc (by decide) fun r5 H6 a6 b6 k6 d6 => ?_
          have qw := k6 _ _ qw (by simpa using fun e => npw e.symm)
          have kc := kc.trans k6
          have hxc := k6 _ _ hxc (by simpa using fun e => nf e.symm)
          have hnc := k6 _ _ hnc (by simpa using nd)
          have dc := d6
          obtain ⟨j, rfl⟩ := Int.eq_ofNat_of_zero_le a6
          obtain ⟨sw, ms, hsw⟩ := say_at (j := j) (by omega)
          simp only [qw, seqAt_lst]
          refine atK_nat hsw ?_
          have sok := say_ok sw ms
          refine ⟨dr, nl, ns, 2, rfl, by decide, dc, hnc, nd, ⟨hl, hok⟩, fun ve de Hxve kxve dxve ze xe => ?_⟩
          have kc := kc.trans kxve
          have hxc := kxve _ _ hxc (by simpa using fun e => nf e.symm)
          have hnc := kxve _ _ hnc (by simpa using nd)
          have dpve := dc
          have dc := dxve
          refine ⟨s1.2.1, fun q hq => ?_⟩
          obtain ⟨f1, f2, f3⟩ := fin (.ref q) (.tuple [.str "say", .str sw, de]) _ _ _ (kc.trans (.same (same_new hq))) (dc.same (same_new hq)) (.tup upd_same (by simp) (.cons (.str o4) (.cons (.str sok) (.cons ((ze.le (by omega)).kt (.same (same_new hq))) .nil)))) (.simple (.inr (.inr (.inl ⟨_, _, say_w ms, rfl, xe⟩))))
          simp only [f1]
          exact ⟨f2, f3⟩
theorem strOk_lit : PyData.strOk "num" = true ∧ PyData.strOk "load" = true ∧ PyData.strOk "now" = true ∧ PyData.strOk "var" = true ∧ PyData.strOk "op" = true ∧ PyData.strOk "mod" = true := by decide +kernel
theorem sign_ok : ∀ s ∈ signs, PyData.strOk s = true := by decide +kernel
theorem r_law_expression_gen {K : PySem.W.Frag} {A : Ads} {E : XK} {vs : List V} {H : Hp} {Q : VK} {sq : Sp} {n : Nat} (hsq : ∀ vs H Q E, (∃ m, n = m + 1 ∧ sp_law_expression m vs H Q E) → sq vs H Q E) (h : sp_law_expression n vs H Q E) : t_law_expression K A E sq { nx := fun _ H' => Q .non H', rt := Q } (L2.start ["draws", "names", "deep", "kind", "rows", "sign", "name"] vs) H := by
  obtain ⟨dr, nl, ns, k, rfl, hkn, hd, hn, nd, ⟨hl, hok⟩, kq⟩ := h
  unfold t_law_expression
  refine seq1 ?_
  wide_line using [upd_same]
  refine take_on hd (by decide) fun r1 H1 a1 b1 k1 d1 => ?_
  have hn1 : H1 nl = some (.lst (ns.map V.str)) := k1 _ _ hn (by simpa using nd)
  have s1 : (1 : Nat) ≤ sizeLine ∧ (2 : Nat) ≤ sizeLine ∧ (4 : Nat) ≤ sizeLine ∧ 6 ≤ sizeLine := by rw [sizeLine_eq]; decide
  obtain ⟨o1, o2, o3, o4, o5, o6⟩ := strOk_lit
  refine seq_to (fun σ H' => σ = [some (.ref dr), some (.ref nl), some (.int k), some (.int r1), none, none, none] ∧ H1 = H' ∧ k ≠ 0) (fun nx hnx => ?_) ?_
  · wide_line using [upd_same]
    refine ite_or2 ?_ fun hk _ => hnx _ _ ⟨rfl, rfl, by omega⟩
    refine seq1 ?_
    wide_line using [upd_same]
    refine take_on d1 (by decide) fun r2 H2 a2 b2 k2 d2 => ⟨s1.2.1, fun p1 hp1 => ?_⟩
    have kA := (k1.trans k2).trans (.same (same_new (o := .tup [V.str "num", V.int r2]) hp1))
    have dA := d2.same (same_new (o := .tup [V.str "num", V.int r2]) hp1)
    have t1 : Tz (upd H2 p1 (.tup [V.str "num", V.int r2])) 1 (.ref p1) (.tuple [.str "num", .int r2]) := .tup upd_same (by simp) (.cons (.str o1) (.cons .int .nil))
    have hnA := same_new (o := .tup [V.str "num", V.int r2]) hp1 _ _ (k2 _ _ hn1 (by simpa using nd))
    generalize upd H2 p1 _ = H3 at *
    refine ⟨s1.1, fun p2 hp2 => ?_⟩
    have sB := same_new (o := .tup [V.str "load"]) hp2
    have t2 : Tz (upd H3 p2 (.tup [V.str "load"])) 1 (.ref p2) (.tuple [.str "load"]) := .tup upd_same (by simp) (.cons (.str o2) .nil)
    have t1 := t1.kt (.same sB)
    have kB := kA.trans (.same sB)
    have dB := dA.same sB
    have hnB := sB _ _ hnA
    generalize upd H3 p2 _ = H4 at *
    refine ⟨s1.1, fun p3 hp3 => ?_⟩
    have sC := same_new (o := .tup [V.str "now"]) hp3
    have t3 : Tz (upd H4 p3 (.tup [V.str "now"])) 1 (.ref p3) (.tuple [.str "now"]) := .tup upd_same (by simp) (.cons (.str o3) .nil)
    have t1 := t1.kt (.same sC)
    have t2 := t2.kt (.same sC)
    have kC := kB.trans (.same sC)
    have kAB := kC
    have dC := dB.same sC
    have hnC := sC _ _ hnB
    generalize upd H4 p3 _ = H5 at *
    have nx2 : ∀ {H6 : Hp}, Keep [dr] H5 H6 → Tz H6 1 (.ref p1) (.tuple [.str "num", .int r2]) ∧ Tz H6 1 (.ref p2) (.tuple [.str "load"]) ∧ Tz H6 1 (.ref p3) (.tuple [.str "now"]) ∧ H6 nl = some (.lst (ns.map V.str)) := fun k => ⟨t1.kt (keep_kt k dC), t2.kt (keep_kt k dC), t3.kt (keep_kt k dC), k _ _ hnC (by simpa using nd)⟩
    clear t1 t2 t3 hnC
    refine take_on dC (by decide) fun r3 H6 a6 b6 k6 d6 => ?_
    refine take_on d6 (by decide) fun r4 H7 a7 b7 k7 d7 => ?_
    refine ⟨s1.2.1, fun p4 hp4 => ?_⟩
    have sD := same_new (o := .lst [V.int r3, V.int (999990 + r4)]) hp4
    have q4 : upd H7 p4 (.lst [V.int r3, V.int (999990 + r4)]) p4 = some (.lst [V.int r3, V.int (999990 + r4)]) := upd_same
    have np4 := d7.ne hp4
    have kD := (k6.trans k7).trans (.same sD)
    have dD := d7.same sD
    generalize upd H7 p4 _ = H8 at *
    refine take_on dD (by decide) fun r5 H9 a9 b9 k9 d9 => ?_
    have q9 := k9 _ _ q4 (by simpa using fun e => np4 e.symm)
    have kE := kD.trans k9
    simp only [q9, seqAt_lst]
    have num : ∃ i : Int, 0 ≤ i ∧ i ≤ 999999 ∧ [V.int r3, V.int (999990 + r4)][r5.toNat]? = some (.int i) := by
      have : r5 = 0 ∨ r5 = 1 := by omega
      rcases this with rfl | rfl
      · exact ⟨r3, by omega, by omega, rfl⟩
      · exact ⟨_, by omega, by omega, rfl⟩
    obtain ⟨i, i0, i1, hi⟩ := num
    obtain ⟨j, rfl⟩ := Int.eq_ofNat_of_zero_le a9
    refine atK_nat hi ?_
    refine ⟨s1.2.1, fun p5 hp5 => ?_⟩
    have sF := same_new (o := .tup [V.str "num", V.int i]) hp5
    have t4 : Tz (upd H9 p5 (.tup [V.str "num", V.int i])) 1 (.ref p5) (.tuple [.str "num", .int i]) := .tup upd_same (by simp) (.cons (.str o1) (.cons .int .nil))
    have kF := kE.trans (.same sF)
    have dF := d9.same sF
    generalize upd H9 p5 _ = H10 at *
    refine ⟨s1.2.2.1, fun p6 hp6 => ?_⟩
    have sG := same_new (o := .lst [V.ref p1, V.ref p2, V.ref p3, V.ref p5]) hp6
    have q6 : upd H10 p6 (.lst [V.ref p1, V.ref p2, V.ref p3, V.ref p5]) p6 = some (.lst [V.ref p1, V.ref p2, V.ref p3, V.ref p5]) := upd_same
    have t4 := t4.kt (.same sG)
    have kG := kF.trans (.same sG)
    have dG := dF.same sG
    have np6 := dF.ne hp6
    generalize upd H10 p6 _ = H11 at *
    obtain ⟨t1, t2, t3, hn11⟩ := nx2 kG
    refine seq1 ?_
    wide_line using [hn11]
    refine lcL_pair (.of hn11) (paired_mapv (f := V.str)) (by rw [List.length_map]; omega) (fun _ => true) (fun x y H' => Tz H' 1 y (.tuple [.str "var", .str x])) (fun _ _ _ _ kt z => z.kt kt) (fun a x y hx hy hF H12 s12 kk1 kk0 h1 _ => ?_) fun D H12 ys hD s12 hDs pr => ?_
    · subst hF
      unfold LcTurn
      wp_walk using upd_same
      refine ⟨s1.2.1, fun q hq => h1 rfl _ _ (same_new hq) (.tup upd_same (by simp) (.cons (.str o4) (.cons (.str (hok _ (List.mem_of_getElem? hy))) .nil)))⟩
    rw [List.filter_eq_self.mpr (fun _ _ => rfl)] at pr
    have hl2 := paired_len pr
    have q12 := s12 _ _ q6
    simp only [q12, hDs]
    refine ⟨by rw [sizeLine_eq]; simp; omega, fun p7 hp7 => ?_⟩
    have sH := same_new (o := .lst ([V.ref p1, V.ref p2, V.ref p3, V.ref p5] ++ ys)) hp7
    have q7 : upd H12 p7 (.lst ([V.ref p1, V.ref p2, V.ref p3, V.ref p5] ++ ys)) p7 = some (.lst ([V.ref p1, V.ref p2, V.ref p3, V.ref p5] ++ ys)) := upd_same
    have kH := (kG.trans (.same s12)).trans (.same sH)
    have dH := (dG.same s12).same sH
    have np7 := (dG.same s12).ne hp7
    have leafs : ∀ v ∈ [V.ref p1, V.ref p2, V.ref p3, V.ref p5] ++ ys, ∃ e, Tz (upd H12 p7 (.lst ([V.ref p1, V.ref p2, V.ref p3, V.ref p5] ++ ys))) 1 v e ∧ LeafD ns e := by
      have ks := KT.same (s12.trans sH)
      intro v hv
      rcases List.mem_append.mp hv with hv | hv
      · simp at hv
        rcases hv with rfl | rfl | rfl | rfl
        · exact ⟨_, t1.kt ks, .inl ⟨r2, rfl, by omega, by omega⟩⟩
        · exact ⟨_, t2.kt ks, .inr (.inl rfl)⟩
        · exact ⟨_, t3.kt ks, .inr (.inr (.inl rfl))⟩
        · exact ⟨_, t4.kt ks, .inl ⟨i, rfl, i0, i1⟩⟩
      · obtain ⟨a, ha⟩ := List.mem_iff_getElem?.mp hv
        obtain ⟨x, hx, z⟩ := pairedAt pr ha
        exact ⟨_, z.kt (.same sH), .inr (.inr (.inr ⟨x, List.mem_of_getElem? hx, rfl⟩))⟩
    have lp : 0 < ([V.ref p1, V.ref p2, V.ref p3, V.ref p5] ++ ys).length := by simp
    generalize [V.ref p1, V.ref p2, V.ref p3, V.ref p5] ++ ys = rows at *
    generalize upd H12 p7 _ = H13 at *
    try (wide_line using [q7])
    refine take_on dH (by omega) fun r6 H14 a14 b14 k14 d14 => ?_
    obtain ⟨j2, rfl⟩ := Int.eq_ofNat_of_zero_le a14
    have hj2 : j2 < rows.length := by omega
    have q14 := k14 _ _ q7 (by simpa using fun e => np7 e.symm)
    simp only [q14, seqAt_lst]
    refine atK_nat (List.getElem?_eq_getElem hj2) ?_
    obtain ⟨e, z, le⟩ := leafs _ (List.getElem_mem hj2)
    exact kq _ e _ ((kAB.trans kH).trans k14) d14 ((z.kt (keep_kt k14 dH)).le (by omega)) (.leaf le)
  · rintro σ H' ⟨rfl, rfl, hk0⟩
    obtain ⟨k', rfl⟩ : ∃ k', k = k' + 1 := ⟨k - 1, by omega⟩
    obtain ⟨m, rfl⟩ : ∃ m, n = m + 1 := ⟨n - 1, by omega⟩
    refine seq1 ?_
    wide_line using [upd_same]
    refine ⟨s1.2.2.2, fun p1 hp1 => ?_⟩
    have sA := same_new (o := .lst [V.str "+", V.str "-", V.str "*", V.str "mod", V.str "<", V.str "=="]) hp1
    have q1 : upd H1 p1 (.lst [V.str "+", V.str "-", V.str "*", V.str "mod", V.str "<", V.str "=="]) p1 = some (.lst (signs.map V.str)) := upd_same
    have d2 := d1.same sA
    have k2 := k1.trans (.same sA)
    have hn2 := sA _ _ hn1
    have np1 := d1.ne hp1
    generalize upd H1 p1 _ = H2 at *
    refine take_on d2 (by decide) fun r2 H3 a2 b2 k3 d3 => ?_
    have q3 := k3 _ _ q1 (by simpa using fun e => np1 e.symm)
    obtain ⟨j, rfl⟩ := Int.eq_ofNat_of_zero_le a2
    have hj : j < signs.length := by show j < 6; omega
    simp only [q3, seqAt_lst]
    refine atK_nat (v := .str signs[j]) (by rw [List.getElem?_map, List.getElem?_eq_getElem hj]; rfl) ?_
    have hn3 := k3 _ _ hn2 (by simpa using nd)
    try (wide_line using [upd_same])
    have ek : ((k' + 1 : Nat) : Int) - 1 = (k' : Int) := by omega
    rw [ek]
    refine hsq _ _ _ _ ⟨m, rfl, dr, nl, ns, k', rfl, by omega, d3, hn3, nd, ⟨hl, hok⟩, fun v1 e1 H4 k4 d4 z1 x1 => ?_⟩
    have hn4 := k4 _ _ hn3 (by simpa using nd)
    refine hsq _ _ _ _ ⟨m, rfl, dr, nl, ns, k', rfl, by omega, d4, hn4, nd, ⟨hl, hok⟩, fun v2 e2 H5 k5 d5 z2 x2 => ?_⟩
    refine ⟨s1.2.2.1, fun p2 hp2 => ?_⟩
    have sB := same_new (o := .tup [V.str "op", V.str signs[j], v1, v2]) hp2
    have ms : signs[j] ∈ signs := List.getElem_mem hj
    refine kq _ (.tuple [.str "op", .str signs[j], e1, e2]) _ ((((k2.trans k3).trans k4).trans k5).trans (.same sB)) (d5.same sB) (.tup upd_same (by simp) (.cons (.str o5) (.cons (.str (sign_ok _ ms)) (.cons ((z1.kt (keep_kt k5 d4)).kt (.same sB)) (.cons (z2.kt (.same sB)) .nil))))) (.inr ⟨_, _, _, ms, rfl, x1, x2⟩)
theorem kind_ok {w : Str} (h : KindW w) : PyData.strOk w = true := by
  rcases h with rfl | rfl | rfl <;> decide +kernel
theorem r_law_send {K : PySem.W.Frag} {A : Ads} {E : XK} {vs : List V} {H : Hp} {Q : VK} (h : sp_law_send vs H Q E) : t_law_send K A E { nx := fun _ H' => Q .non H', rt := Q } (L2.start ["draws", "names", "kinds", "place", "delay"] vs) H := by
  obtain ⟨dr, nl, kl, ns, ks, rfl, hd, hn, nd, okn, hk, kd, ⟨kne, kln, kok⟩, kq⟩ := h
  unfold t_law_send
  have s1 : (1 : Nat) ≤ sizeLine ∧ (2 : Nat) ≤ sizeLine ∧ (4 : Nat) ≤ sizeLine ∧ (5 : Nat) ≤ sizeLine := by rw [sizeLine_eq]; decide
  obtain ⟨o1, o2, o3, o4, o5, o6⟩ := strOk_lit
  obtain ⟨_, _, _, _, os⟩ := strOk_st
  refine seq1 ?_
  wide_line using [upd_same]
  refine ⟨dr, nl, ns, 1, rfl, by decide, hd, hn, nd, okn, fun v1 e1 H1 k1 d1 z1 x1 => ?_⟩
  have kp := k1
  have dp := d1
  have hn' : NsAt H1 nl ns := k1 _ _ hn (by simpa using nd)
  have hk' : NsAt H1 kl ks := k1 _ _ hk (by simpa using kd)
  refine take_on dp (by decide) fun r2 H2 a2 b2 k2 d2 => ?_
  have z1 := z1.kt (keep_kt k2 dp)
  have kp := kp.trans k2
  have hn' : NsAt H2 nl ns := k2 _ _ hn' (by simpa using nd)
  have hk' : NsAt H2 kl ks := k2 _ _ hk' (by simpa using kd)
  have dp := d2
  refine ⟨s1.2.1, fun p1 hp1 => ?_⟩
  have sA := same_new (o := .tup [V.str "num", V.int r2]) hp1
  have t1 : Tz (upd H2 p1 (.tup [V.str "num", V.int r2])) 1 (.ref p1) (.tuple [.str "num", .int r2]) := .tup upd_same (by simp) (.cons (.str o1) (.cons .int .nil))
  have z1 := z1.kt (.same sA)
  have kp := kp.trans (.same sA)
  have hn' : NsAt _ nl ns := sA _ _ hn'
  have hk' : NsAt _ kl ks := sA _ _ hk'
  have dp := dp.same sA
  generalize upd H2 p1 _ = H3 at *
  refine ⟨dr, nl, ns, 1, rfl, by decide, dp, hn', nd, okn, fun v2 e2 H4 k4 d4 z2 x2 => ?_⟩
  have z1 := z1.kt (keep_kt k4 dp)
  have t1 := t1.kt (keep_kt k4 dp)
  have kp := kp.trans k4
  have hn' : NsAt H4 nl ns := k4 _ _ hn' (by simpa using nd)
  have hk' : NsAt H4 kl ks := k4 _ _ hk' (by simpa using kd)
  have dp := d4
  refine ⟨s1.2.1, fun p2 hp2 => ?_⟩
  have sB := same_new (o := .tup [V.str "num", V.int 9]) hp2
  have t2 : Tz (upd H4 p2 (.tup [V.str "num", V.int 9])) 1 (.ref p2) (.tuple [.str "num", .int 9]) := .tup upd_same (by simp) (.cons (.str o1) (.cons .int .nil))
  have z1 := z1.kt (.same sB)
  have z2 := z2.kt (.same sB)
  have t1 := t1.kt (.same sB)
  have kp := kp.trans (.same sB)
  have hn' : NsAt _ nl ns := sB _ _ hn'
  have hk' : NsAt _ kl ks := sB _ _ hk'
  have dp := dp.same sB
  generalize upd H4 p2 _ = H5 at *
  refine ⟨s1.2.2.1, fun p3 hp3 => ?_⟩
  have sC := same_new (o := .tup [V.str "op", V.str "mod", v2, V.ref p2]) hp3
  have t3 : Tz (upd H5 p3 (.tup [V.str "op", V.str "mod", v2, V.ref p2])) 3 (.ref p3) (.tuple [.str "op", .str "mod", e2, .tuple [.str "num", .int 9]]) := .tup upd_same (by simp) (.cons (.str o5) (.cons (.str o6) (.cons (z2.kt (.same sC)) (.cons ((t2.le (by decide)).kt (.same sC)) .nil))))
  have z1 := z1.kt (.same sC)
  have t1 := t1.kt (.same sC)
  have kp := kp.trans (.same sC)
  have hn' : NsAt _ nl ns := sC _ _ hn'
  have hk' : NsAt _ kl ks := sC _ _ hk'
  have dp := dp.same sC
  generalize upd H5 p3 _ = H6 at *
  refine ⟨s1.2.1, fun p4 hp4 => ?_⟩
  have sD := same_new (o := .lst [V.ref p1, V.ref p3]) hp4
  have q4 := upd_here (o := .lst [V.ref p1, V.ref p3]) hp4
  have np4 := dp.ne hp4
  have z1 := z1.kt (.same sD)
  have t1 := t1.kt (.same sD)
  have t3 := t3.kt (.same sD)
  have kp := kp.trans (.same sD)
  have hn' : NsAt _ nl ns := sD _ _ hn'
  have hk' : NsAt _ kl ks := sD _ _ hk'
  have dp := dp.same sD
  generalize upd H6 p4 _ = H7 at *
  refine take_on dp (by decide) fun r5 H8 a8 b8 k8 d8 => ?_
  have q4 := k8 _ _ q4 (by simpa using fun e => np4 e.symm)
  have z1 := z1.kt (keep_kt k8 dp)
  have t1 := t1.kt (keep_kt k8 dp)
  have t3 := t3.kt (keep_kt k8 dp)
  have kp := kp.trans k8
  have hn' : NsAt H8 nl ns := k8 _ _ hn' (by simpa using nd)
  have hk' : NsAt H8 kl ks := k8 _ _ hk' (by simpa using kd)
  have dp := d8
  have del : ∃ v d, [V.ref p1, V.ref p3][r5.toNat]? = some v ∧ Tz H8 3 v d ∧ ExD ns 2 d := by
    have : r5 = 0 ∨ r5 = 1 := by omega
    rcases this with rfl | rfl
    · exact ⟨_, _, rfl, t1.le (by decide), .leaf (.inl ⟨r2, rfl, by omega, by omega⟩)⟩
    · exact ⟨_, _, rfl, t3, .inr ⟨_, _, _, by simp [signs], rfl, x2, .leaf (.inl ⟨9, rfl, by decide, by decide⟩)⟩⟩
  obtain ⟨vd, dd, hvd, td, xd⟩ := del
  obtain ⟨j, rfl⟩ := Int.eq_ofNat_of_zero_le a8
  simp only [q4, seqAt_lst]
  refine atK_nat hvd ?_
  clear t1 t2 t3 z2 q4
  try (wide_line using [hk'])
  have hks : H8 kl = some (.lst (ks.map V.str)) := hk'
  simp only [hks, seqAt_lst, List.length_map]
  refine take_on dp (by have := List.length_pos_iff.mpr kne; omega) fun r6 H9 a9 b9 k9 d9 => ?_
  have z1 := z1.kt (keep_kt k9 dp)
  have td := td.kt (keep_kt k9 dp)
  have kp := kp.trans k9
  have hn' : NsAt H9 nl ns := k9 _ _ hn' (by simpa using nd)
  have hks : H9 kl = some (.lst (ks.map V.str)) := k9 _ _ hks (by simpa using kd)
  have dp := d9
  obtain ⟨j2, rfl⟩ := Int.eq_ofNat_of_zero_le a9
  have hj2 : j2 < ks.length := by omega
  simp only [hks, seqAt_lst]
  refine atK_nat (v := .str ks[j2]) (by rw [List.getElem?_map, List.getElem?_eq_getElem hj2]; rfl) ?_
  have kw := kok _ (List.getElem_mem hj2)
  refine ⟨dr, nl, ns, 2, rfl, by decide, dp, hn', nd, okn, fun v3 e3 H10 k10 d10 z3 x3 => ⟨s1.2.2.2, fun q hq => ?_⟩⟩
  have sE := same_new (o := .tup [V.str "send", v1, V.str ks[j2], vd, v3]) hq
  refine kq _ (.tuple [.str "send", e1, .str ks[j2], dd, e3]) _ ((kp.trans k10).trans (.same sE)) (d10.same sE) (.tup upd_same (by simp) (.cons (.str os) (.cons ?_ (.cons (.str (kind_ok kw)) (.cons ?_ (.cons (z3.kt (.same sE)) .nil)))))) (.inr (.inr (.inr ⟨_, _, _, _, kw, rfl, x1.le (by decide), xd, x3⟩)))
  · exact ((z1.kt (keep_kt k10 dp)).kt (.same sE)).le (by decide)
  · exact (td.kt (keep_kt k10 dp)).kt (.same sE)
theorem r_law_many_gen {K : PySem.W.Frag} {A : Ads} {E : XK} {vs : List V} {H : Hp} {Q : VK} {sq : Sp} {n : Nat} (hsq : ∀ vs H Q E, (∃ m, n = m + 1 ∧ sp_law_many m vs H Q E) → sq vs H Q E) (h : sp_law_many n vs H Q E) (hn : n ≤ 60) : t_law_many K A E sq { nx := fun _ H' => Q .non H', rt := Q } (L2.start ["part", "one"] vs) H := by
  obtain ⟨v, d, rfl, hz, kq⟩ := h
  unfold t_law_many
  have atom : AtomD v d → t_law_many K A E sq { nx := fun _ H' => Q .non H', rt := Q } (L2.start ["part", "one"] [v]) H := by
    intro ha
    unfold t_law_many
    rcases ha with ⟨rfl, _⟩ | ⟨b, rfl, _⟩ | ⟨i, rfl, _⟩ | ⟨x, rfl, _⟩
    all_goals (walk_at "ev"; exact kq 0 H (Same.refl _) (by decide))
  cases n with
  | zero => exact atom hz
  | succ m =>
    rcases hz with hz | ⟨a, xs, ds, rfl, rfl, ha, hl, pr⟩
    · exact atom hz
    · refine seq1 ?_
      wide_line using [ha]
      refine ⟨by rw [sizeLine_eq]; decide, fun p hp => ?_⟩
      have sA := same_new (o := .tup []) hp
      have hz0 : Tz H (m + 1) (.ref a) (.tuple ds) := .inr ⟨a, xs, ds, rfl, rfl, ha, hl, pr⟩
      have da : Da (upd H p (.tup [])) (m + 1) (.ref a) (.tuple ds) := (hz0.kt (.same sA)).da
      refine eqD_da da (.tup (n := m) upd_same (by simp) .nil) (by omega) ?_
      have ha2 := sA _ _ ha
      have pr2 : Paired (Tz (upd H p (.tup [])) m) xs ds := Paired.mapP pr fun _ _ z => z.kt (.same sA)
      generalize upd H p (.tup []) = H2 at *
      cases ds with
      | nil =>
        have e0 : PyData.eqv (.tuple []) (.tuple []) = true := by simp [PyData.eqv, PyData.eqvAll]
        simp only [e0, if_true]
        exact kq 0 _ sA (by decide)
      | cons d0 dr =>
        have e0 : PyData.eqv (.tuple (d0 :: dr)) (.tuple []) = false := by simp [PyData.eqv, PyData.eqvAll]
        simp only [e0, Bool.false_eq_true, if_false]
        have inner : ∀ x ∈ xs, ∃ dx, Tz H2 m x dx := fun x hx => by
          obtain ⟨dx, _, z⟩ := paired_memL pr2 hx
          exact ⟨dx, z⟩
        have tail : ∀ (Q' : VK), (∀ (rs : List Int) D H3, (∀ x ∈ rs, 0 ≤ x) → Same H2 H3 → H3 D = some (.lst (rs.map V.int)) → Q' (.ref D) H3) → LcT K a (gName 1) tYes (tCallS sq (fun x => E0) (tCons (dVar 1) tNil)) [1] [some (V.ref a), none] H2 Q' := by
          intro Q' hq
          refine lcT_core ha2 (by omega) (fun _ => true) (fun x y _ => ∃ i : Int, y = .int i ∧ 0 ≤ i) (fun _ _ _ _ _ h => h) (fun x hx H3 s3 k1 k0 h1 _ => ?_) fun D H3 ys hD s3 hDs pr3 => ?_
          · obtain ⟨dx, zx⟩ := inner x hx
            unfold LcTurn
            wp_walk using upd_same
            exact hsq _ _ _ _ ⟨m, rfl, x, dx, rfl, zx.kt (.same s3), fun i H' s' h0 => h1 rfl _ _ s' ⟨i, rfl, h0⟩⟩
          · rw [List.filter_eq_self.mpr (fun _ _ => rfl)] at pr3
            obtain ⟨rs, rfl, p4⟩ := paired_ints pr3
            refine hq rs D H3 (fun x hx => ?_) s3 hDs
            obtain ⟨_, _, h⟩ := paired_memR p4 hx
            exact h
        cases pr2 with | cons z0 prr =>
        rename_i x0 xr
        simp only [ha2, seqAt_tup, atK_zero]
        have sumq : ∀ (b : Int), 0 ≤ b → ∀ (rs : List Int) D H3, (∀ x ∈ rs, 0 ≤ x) → Same H2 H3 → H3 D = some (.lst (rs.map V.int)) → Q (.int (b + rs.sum)) H3 := fun b hb rs D H3 h0 s3 _ => kq _ _ (sA.trans s3) (by have := sum_nonneg h0; omega)
        have shape : AtomD x0 d0 ∨ ∃ q ys, x0 = .ref q ∧ H2 q = some (.tup ys) := by
          cases m with
          | zero => exact .inl z0
          | succ m' =>
            rcases z0 with h | ⟨q, ys, _, e, _, h, _⟩
            · exact .inl h
            · exact .inr ⟨q, ys, e, h⟩
        rcases shape with (⟨rfl, _⟩ | ⟨b, rfl, _⟩ | ⟨i, rfl, _⟩ | ⟨x, rfl, _⟩) | ⟨q, ys, rfl, hq⟩
        · wp_walk using upd_same
          exact tail _ fun rs D H3 h0 s3 hD => ⟨D, rs, rfl, .of hD, sumq 0 (by decide) rs D H3 h0 s3 hD⟩
        · wp_walk using upd_same
          exact tail _ fun rs D H3 h0 s3 hD => ⟨D, rs, rfl, .of hD, sumq 0 (by decide) rs D H3 h0 s3 hD⟩
        · wp_walk using upd_same
          exact tail _ fun rs D H3 h0 s3 hD => ⟨D, rs, rfl, .of hD, sumq 0 (by decide) rs D H3 h0 s3 hD⟩
        · wp_walk using upd_same
          exact tail _ fun rs D H3 h0 s3 hD => ⟨D, rs, rfl, .of hD, sumq 1 (by decide) rs D H3 h0 s3 hD⟩
        · wp_walk using hq
          exact tail _ fun rs D H3 h0 s3 hD => ⟨D, rs, rfl, .of hD, sumq 0 (by decide) rs D H3 h0 s3 hD⟩
theorem strOk_nm : (∀ x ∈ placeNames, PyData.strOk x = true) ∧ (∀ x ∈ varNames, PyData.strOk x = true) := by decide +kernel
/-- a body that is not yet wrapped; any body -/
def BO9 (H : Hp) (ns : List Str) (m : Nat) (v : V) : Prop := ∃ bs, Tz H 9 v (.tuple bs) ∧ bs.length ≤ m ∧ ∀ s ∈ bs, StD ns 2 s
def BO11 (H : Hp) (ns : List Str) (v : V) : Prop := ∃ bs, Tz H 11 v (.tuple bs) ∧ bs.length ≤ 5 ∧ ∀ s ∈ bs, StD ns 3 s
theorem BO9.kt {H H' : Hp} {ns : List Str} {m : Nat} {v : V} (k : KT H H') (h : BO9 H ns m v) : BO9 H' ns m v := let ⟨bs, z, l, s⟩ := h; ⟨bs, z.kt k, l, s⟩
theorem BO11.kt {H H' : Hp} {ns : List Str} {v : V} (k : KT H H') (h : BO11 H ns v) : BO11 H' ns v := let ⟨bs, z, l, s⟩ := h; ⟨bs, z.kt k, l, s⟩
theorem BO9.up {H : Hp} {ns : List Str} {v : V} (h : BO9 H ns 5 v) : BO11 H ns v := let ⟨bs, z, l, s⟩ := h; ⟨bs, z.le (by decide), by omega, fun x hx => (s x hx).up⟩
/-- + of two tuples -/
theorem add_tups {H : Hp} {a b : Addr} {xs ys : List V} {m n : Nat} {ds es : List PyData} {Q : VK} (ha : H a = some (.tup xs)) (hb : H b = some (.tup ys)) (pa : Paired (Tz H n) xs ds) (pb : Paired (Tz H n) ys es) (hl : xs.length + ys.length ≤ 1000) (q : ∀ v H', Same H H' → Tz H' (n + 1) v (.tuple (ds ++ es)) → Q v H') : dAdd2 (.ref a) (.ref b) H Q := by
  unfold dAdd2
  simp only [ha, hb]
  refine ⟨by rw [sizeLine_eq]; omega, fun e => ?_, fun e1 e2 => ?_, fun e1 e2 p hp => ?_⟩
  · subst e
    cases pa
    exact q _ _ (Same.refl _) (.tup hb (by omega) pb)
  · subst e2
    cases pb
    rw [List.append_nil] at q
    exact q _ _ (Same.refl _) (.tup ha (by omega) pa)
  · refine q _ _ (same_new hp) (.tup upd_same (by rw [List.length_append]; omega) ?_)
    exact paired_app (Paired.mapP pa fun _ _ z => z.kt (.same (same_new hp))) (Paired.mapP pb fun _ _ z => z.kt (.same (same_new hp)))
theorem kinds_at {r : Int} (h0 : 0 ≤ r) (h1 : r < 3) : ∃ ks, OkKs ks ∧ cutV [V.str "go", V.str "up", V.str "via"] none (some (1 + r)) = ks.map V.str := by
  obtain ⟨j, rfl⟩ := Int.eq_ofNat_of_zero_le h0
  have e : (1 + (j : Int)) = ((1 + j : Nat) : Int) := by push_cast; rfl
  rw [e, cutV_to]
  have : j = 0 ∨ j = 1 ∨ j = 2 := by omega
  rcases this with rfl | rfl | rfl
  · exact ⟨["go"], ⟨by simp, by simp, by simp [KindW]⟩, rfl⟩
  · exact ⟨["go", "up"], ⟨by simp, by simp, by simp [KindW]⟩, rfl⟩
  · exact ⟨["go", "up", "via"], ⟨by simp, by simp, by simp [KindW]⟩, rfl⟩
theorem vars_at {r : Int} (h0 : 0 ≤ r) (h1 : r < 4) : ∃ ns : List Str, (∃ r, ns = varNames.take r) ∧ cutV [V.str "a", V.str "b", V.str "c"] none (some r) = ns.map V.str ∧ ns.length ≤ 3 ∧ ∀ x ∈ ns, PyData.strOk x = true := by
  obtain ⟨j, rfl⟩ := Int.eq_ofNat_of_zero_le h0
  rw [cutV_to]
  have : j = 0 ∨ j = 1 ∨ j = 2 ∨ j = 3 := by omega
  have ok : ∀ x ∈ varNames, PyData.strOk x = true := strOk_nm.2
  refine ⟨varNames.take j, ⟨j, rfl⟩, ?_, by simp [varNames]; omega, fun x hx => ok x (List.mem_of_mem_take hx)⟩
  rcases this with rfl | rfl | rfl | rfl <;> rfl
theorem pairD {H : Hp} : ∀ {ns : List Str} {ys : List V}, Paired (fun x y => ∃ nm i, x = V.str nm ∧ 0 ≤ i ∧ i ≤ 999999 ∧ Tz H 1 y (varD nm i)) (ns.map V.str) ys → ∃ is : List Int, is.length = ns.length ∧ (∀ i ∈ is, 0 ≤ i ∧ i ≤ 999999) ∧ Paired (Tz H 1) ys (List.zipWith varD ns is)
  | [], _, .nil => ⟨[], rfl, by simp, .nil⟩
  | n :: ns, _, .cons ⟨nm, i, e, h1, h2, z⟩ t => by
    cases e
    obtain ⟨is, l, h, p⟩ := pairD t
    exact ⟨i :: is, by simp [l], by simpa using ⟨⟨h1, h2⟩, h⟩, .cons z p⟩
theorem mem_varD : ∀ {ns : List Str} {is : List Int} {d : PyData}, d ∈ List.zipWith varD ns is → ∃ nm i, d = .tuple [.str nm, .int i]
  | n :: ns, i :: is, d, h => by
    rcases List.mem_cons.mp h with rfl | h
    · exact ⟨n, i, rfl⟩
    · exact mem_varD h
theorem pair_names {H : Hp} : ∀ {ns : List Str} {is : List Int} {ys zs : List V}, is.length = ns.length → Paired (Tz H 1) ys (List.zipWith varD ns is) → Paired (fun x y => ∃ a b, x = V.ref a ∧ H a = some (.tup [y, b])) ys zs → zs = ns.map V.str
  | [], [], _, _, _, .nil, .nil => rfl
  | n :: ns, i :: is, _, _, hl, .cons z t, .cons ⟨a, b, e, h⟩ t2 => by
    obtain ⟨a2, xs, e2, h2, _, p⟩ := Tz.tuple_inv (ds := [.str n, .int i]) z
    rw [e] at e2
    cases e2
    rw [h] at h2
    cases h2
    cases p with | cons z1 p =>
    rw [Tz.str_inv z1, pair_names (by simpa using hl) t t2]
    rfl
theorem zero_add_c {i : Nat} : (0 : Int) + (i : Int) = (i : Int) := by omega
theorem nm_at {i : Nat} (h : i < 5) : ∃ nm, placeNames[i]? = some nm ∧ [V.str "ash", V.str "bay", V.str "cot", V.str "dip", V.str "elm"][i]? = some (.str nm) := by
  have : i = 0 ∨ i = 1 ∨ i = 2 ∨ i = 3 ∨ i = 4 := by omega
  rcases this with rfl | rfl | rfl | rfl | rfl <;> exact ⟨_, rfl, rfl⟩
theorem add_to {H : Hp} {a b : Addr} {xs ys : List V} {m : Nat} {ds es : List PyData} {R : V → Hp → Prop} (ha : H a = some (.tup xs)) (hb : H b = some (.tup ys)) (pa : Paired (Tz H m) xs ds) (pb : Paired (Tz H m) ys es) (hl : xs.length + ys.length ≤ 1000) (q : ∀ v H', Same H H' → Tz H' (m + 1) v (.tuple (ds ++ es)) → R v H') :
    xs.length + ys.length ≤ sizeLine ∧ (xs = [] → R (.ref b) H) ∧ (¬ xs = [] → ys = [] → R (.ref a) H) ∧ (¬ xs = [] → ¬ ys = [] → ∀ p, H p = none → R (.ref p) (upd H p (.tup (xs ++ ys)))) := by
  refine ⟨by rw [sizeLine_eq]; omega, fun e => ?_, fun e1 e2 => ?_, fun e1 e2 p hp => ?_⟩
  · subst e
    cases pa
    exact q _ _ (Same.refl _) (.tup hb (by omega) pb)
  · subst e2
    cases pb
    rw [List.append_nil] at q
    exact q _ _ (Same.refl _) (.tup ha (by omega) pa)
  · refine q _ _ (same_new hp) (.tup upd_same (by rw [List.length_append]; omega) ?_)
    exact paired_app (Paired.mapP pa fun _ _ z => z.kt (.same (same_new hp))) (Paired.mapP pb fun _ _ z => z.kt (.same (same_new hp)))
theorem early_at {H : Hp} {ns : List Str} {w : Str} {n : Int} {p p2 p3 : Addr} (hw : w = "load" ∨ w = "now") (h0 : 0 ≤ n) (h1 : n ≤ 999999) (hp : H p = none) (hp2 : upd H p (.tup [V.str w]) p2 = none) (hp3 : upd (upd H p (.tup [V.str w])) p2 (.tup [V.str "num", V.int n]) p3 = none) :
    Same H (upd (upd (upd H p (.tup [V.str w])) p2 (.tup [V.str "num", V.int n])) p3 (.tup [V.str "op", V.str "<", V.ref p, V.ref p2])) ∧ ∃ ed, Tz (upd (upd (upd H p (.tup [V.str w])) p2 (.tup [V.str "num", V.int n])) p3 (.tup [V.str "op", V.str "<", V.ref p, V.ref p2])) 2 (.ref p3) ed ∧ ExD ns 2 ed := by
  obtain ⟨o1, o2, o3, o4, o5, o6⟩ := strOk_lit
  have s1 := same_new (o := .tup [V.str w]) hp
  have q1 := upd_here (o := .tup [V.str w]) hp
  generalize upd H p _ = H1 at *
  have s2 := same_new (o := .tup [V.str "num", V.int n]) hp2
  have q2 := upd_here (o := .tup [V.str "num", V.int n]) hp2
  have q1 := s2 _ _ q1
  generalize upd H1 p2 _ = H2 at *
  have s3 := same_new (o := .tup [V.str "op", V.str "<", V.ref p, V.ref p2]) hp3
  have ow : PyData.strOk w = true := by
    rcases hw with rfl | rfl
    · exact o2
    · exact o3
  refine ⟨s1.trans (s2.trans s3), .tuple [.str "op", .str "<", .tuple [.str w], .tuple [.str "num", .int n]], .tup upd_same (by simp) (.cons (.str o5) (.cons (.str (by decide +kernel)) (.cons (.tup (s3 _ _ q1) (by simp) (.cons (.str ow) .nil)) (.cons (.tup (s3 _ _ q2) (by simp) (.cons (.str o1) (.cons .int .nil))) .nil)))), .inr ⟨"<", _, _, by simp [signs], rfl, .leaf ?_, .leaf (.inl ⟨n, rfl, h0, h1⟩)⟩⟩
  rcases hw with rfl | rfl
  · exact .inr (.inl rfl)
  · exact .inr (.inr (.inl rfl))
theorem if_at {H : Hp} {ns : List Str} {e v : V} {ed d : PyData} {p p1 p2 p3 : Addr} (ze : Tz H 2 e ed) (xe : ExD ns 2 ed) (zv : Tz H 4 v d) (sv : SimpleD ns d) (hp : H p = none) (hp1 : upd H p (.tup [v]) p1 = none) (hp2 : upd (upd H p (.tup [v])) p1 (.tup []) p2 = none)
    (hp3 : upd (upd (upd H p (.tup [v])) p1 (.tup [])) p2 (.tup [V.str "if", e, V.ref p, V.ref p1]) p3 = none) :
    Same H (upd (upd (upd (upd H p (.tup [v])) p1 (.tup [])) p2 (.tup [V.str "if", e, V.ref p, V.ref p1])) p3 (.tup [V.ref p2])) ∧ upd (upd (upd (upd H p (.tup [v])) p1 (.tup [])) p2 (.tup [V.str "if", e, V.ref p, V.ref p1])) p3 (.tup [V.ref p2]) p3 = some (.tup [V.ref p2]) ∧
      ∃ sd, Tz (upd (upd (upd (upd H p (.tup [v])) p1 (.tup [])) p2 (.tup [V.str "if", e, V.ref p, V.ref p1])) p3 (.tup [V.ref p2])) 6 (.ref p2) sd ∧ StD ns 2 sd := by
  obtain ⟨_, _, oif, osay, _⟩ := strOk_st
  have s1 := same_new (o := .tup [v]) hp
  have q1 := upd_here (o := .tup [v]) hp
  generalize upd H p _ = H1 at *
  have s2 := same_new (o := .tup []) hp1
  have q2 := upd_here (o := .tup []) hp1
  have q1 := s2 _ _ q1
  generalize upd H1 p1 _ = H2 at *
  have s3 := same_new (o := .tup [V.str "if", e, V.ref p, V.ref p1]) hp2
  have q3 := upd_here (o := .tup [V.str "if", e, V.ref p, V.ref p1]) hp2
  have q1 := s3 _ _ q1
  have q2 := s3 _ _ q2
  generalize upd H2 p2 _ = H3 at *
  have s4 := same_new (o := .tup [V.ref p2]) hp3
  have sa := s1.trans (s2.trans (s3.trans s4))
  refine ⟨sa, upd_same, .tuple [.str "if", ed, .tuple [d], .tuple []], .tup (s4 _ _ q3) (by simp) (.cons (.str oif) (.cons ((ze.kt (.same sa)).le (by decide)) (.cons (.tup (s4 _ _ q1) (by simp) (.cons (zv.kt (.same sa)) .nil)) (.cons (.tup (s4 _ _ q2) (by simp) .nil) .nil)))), .inr ⟨ed, [d], [], rfl, xe, ?_, by simp, by simp, by simp⟩⟩
  intro x hx
  simp at hx
  subst hx
  exact .simple sv
theorem wrap_at {H : Hp} {ns : List Str} {e b : V} {ed : PyData} {p p1 p2 : Addr} (ze : Tz H 2 e ed) (xe : ExD ns 2 ed) (zb : BO9 H ns 5 b) (hp : H p = none) (hp1 : upd H p (.tup []) p1 = none) (hp2 : upd (upd H p (.tup [])) p1 (.tup [V.str "if", e, b, V.ref p]) p2 = none) :
    Same H (upd (upd (upd H p (.tup [])) p1 (.tup [V.str "if", e, b, V.ref p])) p2 (.tup [V.ref p1])) ∧ BO11 (upd (upd (upd H p (.tup [])) p1 (.tup [V.str "if", e, b, V.ref p])) p2 (.tup [V.ref p1])) ns (.ref p2) := by
  obtain ⟨_, _, oif, osay, _⟩ := strOk_st
  obtain ⟨bs, zb, lb, sb⟩ := zb
  have s1 := same_new (o := .tup []) hp
  have q1 := upd_here (o := .tup []) hp
  generalize upd H p _ = H1 at *
  have s2 := same_new (o := .tup [V.str "if", e, b, V.ref p]) hp1
  have q2 := upd_here (o := .tup [V.str "if", e, b, V.ref p]) hp1
  have q1 := s2 _ _ q1
  generalize upd H1 p1 _ = H2 at *
  have s3 := same_new (o := .tup [V.ref p1]) hp2
  have sa := s1.trans (s2.trans s3)
  refine ⟨sa, [.tuple [.str "if", ed, .tuple bs, .tuple []]], .tup upd_same (by simp) (.cons (.tup (n := 9) (s3 _ _ q2) (by simp) (.cons (.str oif) (.cons ((ze.kt (.same sa)).le (by decide)) (.cons (zb.kt (.same sa)) (.cons (Tz.tup (n := 8) (s3 _ _ q1) (by simp) .nil) .nil))))) .nil), by simp, ?_⟩
  intro x hx
  simp at hx
  subst hx
  exact .inr ⟨ed, bs, [], rfl, xe, sb, by simp, by omega, by simp⟩
theorem sayn_at {H : Hp} {ns : List Str} {p p1 p2 : Addr} (hp : H p = none) (hp1 : upd H p (.tup [V.str "num", V.int 1]) p1 = none) (hp2 : upd (upd H p (.tup [V.str "num", V.int 1])) p1 (.tup [V.str "say", V.str "n", V.ref p]) p2 = none) :
    Same H (upd (upd (upd H p (.tup [V.str "num", V.int 1])) p1 (.tup [V.str "say", V.str "n", V.ref p])) p2 (.tup [V.ref p1])) ∧ BO11 (upd (upd (upd H p (.tup [V.str "num", V.int 1])) p1 (.tup [V.str "say", V.str "n", V.ref p])) p2 (.tup [V.ref p1])) ns (.ref p2) := by
  obtain ⟨_, _, oif, osay, _⟩ := strOk_st
  obtain ⟨o1, _⟩ := strOk_lit
  have s1 := same_new (o := .tup [V.str "num", V.int 1]) hp
  have q1 := upd_here (o := .tup [V.str "num", V.int 1]) hp
  generalize upd H p _ = H1 at *
  have s2 := same_new (o := .tup [V.str "say", V.str "n", V.ref p]) hp1
  have q2 := upd_here (o := .tup [V.str "say", V.str "n", V.ref p]) hp1
  have q1 := s2 _ _ q1
  generalize upd H1 p1 _ = H2 at *
  have s3 := same_new (o := .tup [V.ref p1]) hp2
  have sa := s1.trans (s2.trans s3)
  refine ⟨sa, [.tuple [.str "say", .str "n", .tuple [.str "num", .int 1]]], (Tz.tup (n := 2) upd_same (by simp) (.cons (.tup (n := 1) (s3 _ _ q2) (by simp) (.cons (.str osay) (.cons (.str (by decide +kernel)) (.cons (.tup (n := 0) (s3 _ _ q1) (by simp) (.cons (.str o1) (.cons .int .nil))) .nil)))) .nil)).le (by decide), by simp, ?_⟩
  intro x hx
  simp at hx
  subst hx
  exact .simple (.inr (.inr (.inl ⟨"n", _, .inr (.inr rfl), rfl, .leaf (.inl ⟨1, rfl, by decide, by decide⟩)⟩)))
theorem r_law_model {K : PySem.W.Frag} {A : Ads} {E : XK} {vs : List V} {H : Hp} {Q : VK} (h : sp_law_model vs H Q E) : t_law_model K A E { nx := fun _ H' => Q .non H', rt := Q } (L2.start ["draws", "most", "kinds", "spots", "total", "k", "variables", "names", "rules", "kind", "body", "early", "name", "number"] vs) H := by
  obtain ⟨dr, most, rfl, hd, m0, m5, kq⟩ := h
  unfold t_law_model
  have s1 : (0 : Nat) ≤ sizeLine ∧ (1 : Nat) ≤ sizeLine ∧ (2 : Nat) ≤ sizeLine ∧ (3 : Nat) ≤ sizeLine ∧ (4 : Nat) ≤ sizeLine ∧ 5 ≤ sizeLine := by rw [sizeLine_eq]; decide
  obtain ⟨o1, o2, o3, o4, o5, o6⟩ := strOk_lit
  obtain ⟨_, _, oif, osay, _⟩ := strOk_st
  refine seq1 ?_
  wide_line using [upd_same]
  refine ⟨s1.2.2.2.1, fun p0 hp0 => ?_⟩
  have k0 : Keep [dr] H _ := .same (same_new (o := .lst [V.str "go", V.str "up", V.str "via"]) hp0)
  have d0 := hd.same (same_new (o := .lst [V.str "go", V.str "up", V.str "via"]) hp0)
  have q0 := upd_here (o := .lst [V.str "go", V.str "up", V.str "via"]) hp0
  have n0 := hd.ne hp0
  generalize upd H p0 _ = H0 at *
  refine take_on d0 (by decide) fun r0 H1 a0 b0 k1 d1 => ?_
  have q1 := k1 _ _ q0 (by simpa using fun e => n0 e.symm)
  have k1 := k0.trans k1
  simp only [q1]
  refine fun kl hkl => ?_
  obtain ⟨ks, hks, ek⟩ := kinds_at a0 b0
  rw [ek]
  have sA := same_new (o := .lst (ks.map V.str)) hkl
  have hk := upd_here (o := .lst (ks.map V.str)) hkl
  have nk := d1.ne hkl
  have d2 := d1.same sA
  have k2 := k1.trans (.same sA)
  generalize upd H1 kl _ = H2 at *
  clear q0 q1 k0 d0 k1 d1 sA hkl hp0 n0 ek
  refine seq1 ?_
  wide_line using [upd_same]
  refine ⟨s1.1, fun sp hsp => ?_⟩
  have sB := same_new (o := .lst []) hsp
  have hs0 := upd_here (o := .lst []) hsp
  have nsp := d2.ne hsp
  have nkp : kl ≠ sp := ne_of_none hk hsp
  have hspH : H sp = none := by
    cases e : H sp with
    | none => rfl
    | some o => have := k2 _ _ e (by simpa using fun e => nsp e.symm); rw [hsp] at this; cases this
  have d3 := d2.same sB
  have k3 := k2.trans (.same sB)
  have hk3 := sB _ _ hk
  generalize upd H2 sp _ = H3 at *
  clear k2 d2 hk sB hsp
  refine seq1 ?_
  try (wide_line using [upd_same])
  refine take_on d3 m0 fun r1 H4 a1 b1 k4 d4 => ?_
  try (wide_line using [upd_same])
  refine ⟨⟨by omega, by omega⟩, ?_⟩
  refine forR_to (fun i σ H' => Keep [dr] H H' ∧ DrawsAt H' dr ∧ H' kl = some (.lst (ks.map V.str)) ∧ ∃ (tot : Int) (z5 z6 z7 z8 z9 z10 z11 : Option V) (xs : List V) (ds : List PyData), 0 ≤ tot ∧ σ = [some (.ref dr), some (.int most), some (.ref kl), some (.ref sp), some (.int tot), z5, z6, z7, z8, z9, z10, z11, none, none] ∧
      H' sp = some (.lst xs) ∧ xs.length = i ∧ Paired (PlAt H') xs ds ∧ ∀ (j : Nat) d, ds[j]? = some d → ∃ nm, placeNames[j]? = some nm ∧ PlaceD nm d)
    (fun σ H' => Keep [dr] H H' ∧ DrawsAt H' dr ∧ ∃ (z4 z5 z6 z7 z8 z9 z10 z11 : Option V) (xs : List V) (ds : List PyData), σ = [some (.ref dr), some (.int most), some (.ref kl), some (.ref sp), z4, z5, z6, z7, z8, z9, z10, z11, none, none] ∧
      H' sp = some (.lst xs) ∧ 0 < xs.length ∧ xs.length ≤ 5 ∧ Paired (PlAt H') xs ds ∧ ∀ (j : Nat) d, ds[j]? = some d → ∃ nm, placeNames[j]? = some nm ∧ PlaceD nm d)
    ⟨k3.trans k4, d4, k4 _ _ hk3 (by simpa using fun e => nk e.symm), 0, none, none, none, none, none, none, none, [], [], by decide, rfl, k4 _ _ hs0 (by simpa using fun e => nsp e.symm), rfl, .nil, by simp⟩ ?_ ?_ ?_
  · rintro σ H' ⟨kp, dp, _, tot, z5, z6, z7, z8, z9, z10, z11, xs, ds, _, rfl, hx, hxl, pr, hs⟩
    exact ⟨kp, dp, _, z5, z6, z7, z8, z9, z10, z11, xs, ds, rfl, hx, by omega, by omega, pr, hs⟩
  · rintro σ H' ⟨kp, dp, z4, z5, z6, z7, z8, z9, z10, z11, xs, ds, rfl, hx, hx0, hxl, pr, hs⟩
    wp_walk using hx
    have e := paired_len pr
    exact fun p hp => kq _ ds _ (kp.trans (.same (same_new hp))) (dp.same (same_new hp)) ⟨_, _, rfl, upd_same, by omega, Paired.mapP pr fun _ _ z => PlAt.kt (KTF.same (same_new hp)) z⟩ ⟨by omega, by omega, hs⟩
  · rintro N nx hnx i σ H' hi hN ⟨kp, dp, hkk, tot, z5, z6, z7, z8, z9, z10, z11, xs, ds, tot0, rfl, hx, hxl, pr, hs⟩
    refine seq1 ?_
    wide_line using [upd_same]
    refine ⟨s1.2.2.2.1, fun p1 hp1 => ?_⟩
    have sA := same_new (o := .lst [V.str "a", V.str "b", V.str "c"]) hp1
    have qA := upd_here (o := .lst [V.str "a", V.str "b", V.str "c"]) hp1
    have nA := dp.ne hp1
    have dA := dp.same sA
    have cA : Keep [dr] H' _ := .same sA
    generalize upd H' p1 _ = HA at *
    refine take_on dA (by decide) fun r2 HB a2 b2 kB dB => ?_
    have qB := kB _ _ qA (by simpa using fun e => nA e.symm)
    have cB := cA.trans kB
    simp only [qB]
    refine fun vl hvl => ?_
    obtain ⟨ns, ⟨rr, ens⟩, ecut, hns, hnk⟩ := vars_at a2 b2
    rw [ecut]
    have sC := same_new (o := .lst (ns.map V.str)) hvl
    have qC := upd_here (o := .lst (ns.map V.str)) hvl
    have nC := dB.ne hvl
    have dC := dB.same sC
    have cC := cB.trans (.same sC)
    generalize upd HB vl _ = HC at *
    clear sA qA nA dA cA qB cB sC hvl kB dB hp1
    refine lcL_draw (K := K) (d := dr) qC nC.symm (by rw [List.length_map]; omega) dC (fun x y H => ∃ nm i, x = V.str nm ∧ 0 ≤ i ∧ i ≤ 999999 ∧ Tz H 1 y (varD nm i)) (fun x y H H' k ⟨nm, i, e1, e2, e3, z⟩ => ⟨nm, i, e1, e2, e3, z.kt k⟩) ?_ ?_
    · intro jj x hxj HT kT dT k1 k0 hk1
      have hxm := List.mem_of_getElem? hxj
      obtain ⟨nm, hnm, rfl⟩ := List.mem_map.mp hxm
      unfold LcTurn
      wide_line using []
      refine take_on dT (by decide) fun r3 HU a3 b3 kU dU => ⟨s1.2.2.1, fun pt hpt => ?_⟩
      have sU := same_new (o := .tup [V.str nm, V.int r3]) hpt
      refine hk1 _ _ (kU.trans (.same sU)) (dU.same sU) ⟨nm, r3, rfl, a3, by omega, .tup upd_same (by simp) (.cons (.str (hnk nm hnm)) (.cons .int .nil))⟩
    intro D HD ys hD kD dD hDs prD
    obtain ⟨is, il, ib, pvs⟩ := pairD prD
    have yl := paired_len prD
    have cD := cC.trans kD
    simp only [hDs]
    refine fun vt hvt => ?_
    have sE := same_new (o := .tup ys) hvt
    have qE := upd_here (o := .tup ys) hvt
    have dE := dD.same sE
    have cE := cD.trans (.same sE)
    have pvE : Paired (Tz _ 1) ys _ := Paired.mapP pvs fun _ _ z => z.kt (.same sE)
    generalize upd HD vt _ = HE at *
    clear sE hvt dD cD hDs prD pvs hD kD cC dC qC
    rw [List.length_map] at yl
    have yl5 : ys.length ≤ 100000 := by omega
    refine seq1 ?_
    wide_line using [qE]
    refine lcT_core (K := K) qE (by omega) (fun _ => true) (fun x y _ => ∃ a b, x = .ref a ∧ HE a = some (.tup [y, b])) (fun _ _ _ _ _ h => h) ?_ ?_
    · intro x hxm HF sF k1 k0 hk1 _
      obtain ⟨d, hd, z⟩ := paired_memL pvE hxm
      have hd' := mem_varD hd
      obtain ⟨nm, i', rfl⟩ := hd'
      obtain ⟨ax, xx, rfl, hax, _, pxx⟩ := z.tuple_inv
      cases pxx with | cons z1 pxx => cases pxx with | cons z2 pxx => cases pxx with | nil =>
      have e1 := Tz.str_inv z1
      subst e1
      have hax' := sF _ _ hax
      unfold LcTurn
      wide_line using [hax']
      exact hk1 rfl _ _ (.refl _) ⟨_, _, rfl, hax⟩
    intro D2 HG zs hD2 sG hDG prG
    rw [List.filter_eq_self.mpr (fun _ _ => rfl)] at prG
    have ezs : zs = ns.map V.str := pair_names (by omega) pvE prG
    subst ezs
    have pvG : Paired (Tz HG 1) ys _ := Paired.mapP pvE fun _ _ z => z.kt (.same sG)
    have qvG := sG _ _ qE
    have nN := dE.ne hD2
    have dG := dE.same sG
    have cG := cE.trans (.same sG)
    have lns : ns.length ≤ 5 := by omega
    clear prG sG hD2 pvE qE dE cE ecut
    refine seq1 ?_
    wide_line using [hDG]
    refine ⟨s1.1, fun rl hrl => ?_⟩
    have hrN : D2 ≠ rl := ne_of_none hDG hrl
    have hrk : kl ≠ rl := ne_of_none (cG _ _ hkk (by simpa using fun e => nk e.symm)) hrl
    have hrd := dG.ne hrl
    have hrs : sp ≠ rl := ne_of_none (cG _ _ hx (by simpa using fun e => nsp e.symm)) hrl
    have sR := same_new (o := .lst []) hrl
    have qR := upd_here (o := .lst []) hrl
    have dR := dG.same sR
    have kR := cG _ _ hkk (by simpa using fun e => nk e.symm)
    have kR' := sR _ _ kR
    have cR : Keep [dr] HG _ := .same sR
    generalize upd HG rl _ = HR at *
    refine seq1 ?_
    wide_line using [kR']
    refine forL_to (K := K) (.of kR') (fun j σ Hh => Keep [dr] HG Hh ∧ DrawsAt Hh dr ∧ ∃ (tt : Int) (z9 z10 z11 : Option V) (rx : List V) (rd : List PyData), 0 ≤ tt ∧ σ = [some (.ref dr), some (.int most), some (.ref kl), some (.ref sp), some (.int tt), some (.int (0 + (i : Int))), some (.ref vt), some (.ref D2), some (.ref rl), z9, z10, z11, none, none] ∧
        Hh rl = some (.lst rx) ∧ rx.length ≤ j ∧ Paired (Tz Hh 12) rx rd ∧ ∀ r ∈ rd, RuleD ns r)
      (fun σ Hh => Keep [dr] HG Hh ∧ DrawsAt Hh dr ∧ ∃ (tt : Int) (z9 z10 z11 : Option V) (rx : List V) (rd : List PyData), 0 ≤ tt ∧ σ = [some (.ref dr), some (.int most), some (.ref kl), some (.ref sp), some (.int tt), some (.int (0 + (i : Int))), some (.ref vt), some (.ref D2), some (.ref rl), z9, z10, z11, none, none] ∧
        Hh rl = some (.lst rx) ∧ rx.length ≤ 3 ∧ Paired (Tz Hh 12) rx rd ∧ ∀ r ∈ rd, RuleD ns r)
      ⟨cR, dR, tot, z9, z10, z11, [], [], tot0, rfl, qR, Nat.le_refl _, .nil, by simp⟩ (fun j σ Hh _ p => .of (p.1 _ _ kR (by simpa using fun e => nk e.symm))) ?_ ?_ ?_
    · rintro σ Hh ⟨c, dd, tt, y9, y10, y11, rx, rd, h1, rfl, h2, h3, h4, h5⟩
      have := hks.2.1
      rw [List.length_map] at h3
      exact ⟨c, dd, tt, y9, y10, y11, rx, rd, h1, rfl, h2, by omega, h4, h5⟩
    · rintro σ Hh ⟨c, dd, tt, y9, y10, y11, rx, rd, h1, rfl, h2, h3, h4, h5⟩
      have hxh := c _ _ (cG _ _ hx (by simpa using fun e => nsp e.symm)) (by simpa using fun e => nsp e.symm)
      wide_line using [h2]
      simp only [hxh]
      refine ⟨s1.2.2.2.2.2, fun p hp => ?_⟩
      have sS := same_new (o := .lst [V.str "ash", V.str "bay", V.str "cot", V.str "dip", V.str "elm"]) hp
      have h2' := sS _ _ h2
      have hxS := sS _ _ hxh
      have dS := dd.same sS
      have cS := c.trans (.same sS)
      have rS := Paired.mapP h4 fun _ _ z => z.kt (.same sS)
      generalize upd Hh p _ = HS at *
      obtain ⟨nm, hnm, hnv⟩ := nm_at (i := i) (by omega)
      rw [zero_add_c]
      refine atK_nat hnv ?_
      refine ⟨rl, rx, rfl, .of h2', fun l ob hl hob => ⟨s1.2.2.2.1, fun q hq => ?_⟩⟩
      have sT := same_new (o := .frz ob (.tup rx)) hl
      have hT := upd_here (o := .frz ob (.tup rx)) hl
      have hxT := sT _ _ hxS
      have dT := dS.same sT
      have cT := cS.trans (.same sT)
      have rT := Paired.mapP rS fun _ _ z => z.kt (.same sT)
      generalize upd HS l _ = HT at *
      have sU := same_new (o := .tup [V.str nm, V.ref vt, V.ref l]) hq
      have hxU := sU _ _ hxT
      have tz : PlAt (upd HT q (.tup [V.str nm, V.ref vt, V.ref l])) (.ref q) (.tuple [.str nm, .tuple (List.zipWith varD ns is), .tuple rd]) := by
        refine ⟨_, _, _, _, l, ob, rx, rd, rfl, rfl, upd_same, ?_, sU _ _ hT, hob, by omega, Paired.mapP rT fun _ _ z => z.kt (.same sU)⟩
        exact Tz.tup (sU _ _ (cT _ _ qvG (by rintro m; simp at m; subst m; obtain ⟨_, e⟩ := dG; rw [qvG] at e; cases e))) yl5 (Paired.mapP pvG fun _ _ z => z.kt ((keep_kt cT dG).trans (.same sU)))
      have dU := dT.same sU
      have cU := cG.trans (cT.trans (.same sU))
      generalize upd HT q _ = HU at *
      simp only [hxU]
      have ku : KTF HU (upd HU sp (.lst (xs ++ [V.ref q]))) := KTF.list hxU
      have kall := (keep_ktf cU dp).trans ku
      refine ⟨by rw [sizeLine_eq]; omega, hN _ _ ⟨(kp.trans cU).new0 hspH, ?_, ?_, tt, _, _, _, _, _, _, _, xs ++ [V.ref q], ds ++ [_], h1, rfl, upd_same, by simp [hxl], paired_app (Paired.mapP pr fun _ _ z => z.kt kall) (.cons (tz.kt ku) .nil), ?_⟩⟩
      · obtain ⟨mm, hmm⟩ := dU
        exact ⟨mm, by rw [upd_ne nsp]; exact hmm⟩
      · rw [upd_ne nkp]
        exact cU _ _ hkk (by simpa using fun e => nk e.symm)
      · intro j d hd
        have hdl := paired_len pr
        rw [List.getElem?_append] at hd
        split at hd
        · exact hs j d hd
        · have : j = ds.length := by
            have := (List.getElem?_eq_some_iff.mp hd).1
            simp at this
            omega
          subst this
          simp at hd
          subst hd
          exact ⟨nm, by rw [← hdl, hxl]; exact hnm, ns, is, rd, rfl, ⟨rr, ens⟩, il, ib, by have := paired_len h4; omega, h5⟩
    · rintro N2 nx2 hnx2 j x σ Hh hxj hN2 ⟨c, dd, tt, y9, y10, y11, rx, rd, h1, rfl, h2, h3, h4, h5⟩
      have hxm := List.mem_of_getElem? hxj
      obtain ⟨kw, hkw, rfl⟩ := List.mem_map.mp hxm
      have hkW := hks.2.2 kw hkw
      have hDh : Hh D2 = some (.lst (ns.map V.str)) := c _ _ hDG (by simpa using fun e => nN e.symm)
      have hkh : Hh kl = some (.lst (ks.map V.str)) := c _ _ kR (by simpa using fun e => nk e.symm)
      have okn : OkNs ns := ⟨lns, hnk⟩
      wide_line using [h2]
      refine take_on dd (by decide) fun r4 HI a4 b4 kI dI => ?_
      have keepN : ∀ {Hx : Hp}, Keep [dr] Hh Hx → NsAt Hx D2 ns := fun k => k _ _ hDh (by simpa using fun e => nN e.symm)
      have keepK : ∀ {Hx : Hp}, Keep [dr] Hh Hx → NsAt Hx kl ks := fun k => k _ _ hkh (by simpa using fun e => nk e.symm)
      have keepR : ∀ {Hx : Hp}, Keep [dr] Hh Hx → Hx rl = some (.lst rx) := fun k => k _ _ h2 (by simpa using fun e => hrd e.symm)
      dsimp only
      by_cases hr4 : (0 : Int) < r4
      · rw [if_pos hr4]
        refine seq_to (fun σ Hx => Keep [dr] Hh Hx ∧ DrawsAt Hx dr ∧ ∃ b : V, σ = [some (.ref dr), some (.int most), some (.ref kl), some (.ref sp), some (.int tt), some (.int (0 + (i : Int))), some (.ref vt), some (.ref D2), some (.ref rl), some (.str kw), some b, y11, none, none] ∧ BO9 Hx ns 4 b) (fun nx3 hnx3 => ?_) ?_
        · wide_line using []
          refine ⟨dr, D2, kl, ns, ks, 2, rfl, Nat.le_refl _, dI, keepN kI, nN.symm, okn, fun v bs HJ kJ dJ zJ lJ sJ => ?_⟩
          have kJ := kI.trans kJ
          refine ⟨dr, D2, kl, ns, ks, rfl, dJ, keepN kJ, nN.symm, okn, keepK kJ, nk.symm, hks, fun v2 d2 HK kK dK zK sK => ⟨s1.2.1, fun p hp => ?_⟩⟩
          obtain ⟨ba, bx, rfl, hba, hbl, pba⟩ := zJ.tuple_inv
          have sP := same_new (o := .tup [v2]) hp
          have kt := (keep_kt kK dJ).trans (.same sP)
          have bl := paired_len pba
          have hba' := kt _ _ hba
          simp only [hba', upd_same]
          refine add_to (m := 8) (R := fun v Hx => nx3 [some (.ref dr), some (.int most), some (.ref kl), some (.ref sp), some (.int tt), some (.int (0 + (i : Int))), some (.ref vt), some (.ref D2), some (.ref rl), some (.str kw), some v, y11, none, none] Hx) hba' upd_same (Paired.mapP pba fun _ _ z => z.kt kt) (.cons ((zK.kt (.same sP)).le (by decide)) .nil) (by simp; omega) fun v3 HL sL z3 => ?_
          refine hnx3 _ _ ⟨(kJ.trans kK).trans (.same (sP.trans sL)), dK.same (sP.trans sL), v3, rfl, _, z3, by simp; omega, ?_⟩
          intro s hs
          rcases List.mem_append.mp hs with hs | hs
          · exact sJ s hs
          · simp at hs
            subst hs
            exact .simple sK
        rintro σ HJ ⟨kJ, dJ, b, rfl, bJ⟩
        refine seq_to (fun σ Hx => Keep [dr] Hh Hx ∧ DrawsAt Hx dr ∧ ∃ b e : V, σ = [some (.ref dr), some (.int most), some (.ref kl), some (.ref sp), some (.int tt), some (.int (0 + (i : Int))), some (.ref vt), some (.ref D2), some (.ref rl), some (.str kw), some b, some e, none, none] ∧ BO9 Hx ns 4 b ∧ ∃ ed, Tz Hx 2 e ed ∧ ExD ns 2 ed) (fun nx3 hnx3 => ?_) ?_
        · wide_line using []
          refine ⟨s1.2.1, fun p hp => ⟨s1.2.2.1, fun p2 hp2 => ⟨s1.2.2.2.2.1, fun p3 hp3 => ?_⟩⟩⟩
          obtain ⟨sE, edd, zE, xE⟩ := early_at (ns := ns) (w := "now") (n := 12) (.inr rfl) (by decide) (by decide) hp hp2 hp3
          exact hnx3 _ _ ⟨kJ.trans (.same sE), dJ.same sE, b, _, rfl, bJ.kt (.same sE), edd, zE, xE⟩
        rintro σ HK ⟨kK, dK, b, e, rfl, bK, ed, zK, xK⟩
        refine seq_to (fun σ Hx => Keep [dr] Hh Hx ∧ DrawsAt Hx dr ∧ ∃ b e : V, σ = [some (.ref dr), some (.int most), some (.ref kl), some (.ref sp), some (.int tt), some (.int (0 + (i : Int))), some (.ref vt), some (.ref D2), some (.ref rl), some (.str kw), some b, some e, none, none] ∧ BO9 Hx ns 5 b) (fun nx3 hnx3 => ?_) ?_
        · wide_line using []
          refine take_on dK (by decide) fun r5 HL a5 b5 kL dL => ?_
          have bL := bK.kt (keep_kt kL dK)
          have zL := zK.kt (keep_kt kL dK)
          have kL := kK.trans kL
          dsimp only
          by_cases hr5 : r5 = 0
          · rw [if_pos hr5]
            refine ⟨dr, D2, kl, ns, ks, rfl, dL, keepN kL, nN.symm, okn, keepK kL, nk.symm, hks, fun v2 d2 HU kU dU zU sU => ⟨s1.2.1, fun p hp => ⟨s1.1, fun p1 hp1 => ⟨s1.2.2.2.2.1, fun p2 hp2 => ⟨s1.2.1, fun p3 hp3 => ?_⟩⟩⟩⟩⟩
            have bU := bL.kt (keep_kt kU dL)
            have zE := zL.kt (keep_kt kU dL)
            obtain ⟨sI, hI, sd, zI, xI⟩ := if_at zE xK zU sU hp hp1 hp2 hp3
            generalize upd _ p3 _ = HV at *
            obtain ⟨bs, zb, lb, sb⟩ := bU.kt (.same sI)
            obtain ⟨ba, bx, rfl, hba, hbl, pba⟩ := zb.tuple_inv
            have bl := paired_len pba
            dsimp only
            simp only [hba, hI]
            refine add_to (m := 8) (R := fun v Hx => nx3 [some (.ref dr), some (.int most), some (.ref kl), some (.ref sp), some (.int tt), some (.int (0 + (i : Int))), some (.ref vt), some (.ref D2), some (.ref rl), some (.str kw), some v, some e, none, none] Hx) hba hI pba (.cons (zI.le (by decide)) .nil) (by simp; omega) fun v3 HW sW z3 => ?_
            refine hnx3 _ _ ⟨kL.trans (kU.trans (.same (sI.trans sW))), dU.same (sI.trans sW), v3, e, rfl, _, z3, by simp; omega, ?_⟩
            intro s hs
            rcases List.mem_append.mp hs with hs | hs
            · exact sb s hs
            · simp at hs
              subst hs
              exact xI
          · rw [if_neg (by simpa using hr5)]
            obtain ⟨bs, zb, lb, sb⟩ := bL
            exact hnx3 _ _ ⟨kL, dL, b, e, rfl, bs, zb, by omega, sb⟩
        rintro σ HL ⟨kL, dL, b, e, rfl, bL⟩
        refine seq_to (fun σ Hx => Keep [dr] Hh Hx ∧ DrawsAt Hx dr ∧ ∃ b e : V, σ = [some (.ref dr), some (.int most), some (.ref kl), some (.ref sp), some (.int tt), some (.int (0 + (i : Int))), some (.ref vt), some (.ref D2), some (.ref rl), some (.str kw), some b, some e, none, none] ∧ BO11 Hx ns b) (fun nx3 hnx3 => ?_) ?_
        · wide_line using []
          refine take_on dL (by decide) fun r5 HM a5 b5 kM dM => ?_
          have bM := bL.kt (keep_kt kM dL)
          have kM := kL.trans kM
          dsimp only
          by_cases hr5 : r5 = 0
          · rw [if_pos hr5]
            refine ⟨s1.2.1, fun p hp => ⟨s1.2.2.1, fun p2 hp2 => ⟨s1.2.2.2.2.1, fun p3 hp3 => ⟨s1.1, fun p4 hp4 => ⟨s1.2.2.2.2.1, fun p5 hp5 => ⟨s1.2.1, fun p6 hp6 => ?_⟩⟩⟩⟩⟩⟩
            obtain ⟨sE, edd, zE, xE⟩ := early_at (ns := ns) (w := "load") (n := 500000) (.inl rfl) (by decide) (by decide) hp hp2 hp3
            generalize upd _ p3 _ = HV at *
            obtain ⟨sW, bW⟩ := wrap_at zE xE (bM.kt (.same sE)) hp4 hp5 hp6
            exact hnx3 _ _ ⟨kM.trans (.same (sE.trans sW)), dM.same (sE.trans sW), _, e, rfl, bW⟩
          · rw [if_neg (by simpa using hr5)]
            exact hnx3 _ _ ⟨kM, dM, b, e, rfl, bM.up⟩
        rintro σ HM ⟨kM, dM, b, e, rfl, bM⟩
        refine seq_to (fun σ Hx => Keep [dr] Hh Hx ∧ DrawsAt Hx dr ∧ ∃ b e : V, σ = [some (.ref dr), some (.int most), some (.ref kl), some (.ref sp), some (.int tt), some (.int (0 + (i : Int))), some (.ref vt), some (.ref D2), some (.ref rl), some (.str kw), some b, some e, none, none] ∧ BO11 Hx ns b) (fun nx3 hnx3 => ?_) ?_
        · wide_line using []
          obtain ⟨bs, zb, lb, sb⟩ := bM
          refine ⟨b, _, rfl, zb, fun n HN sN hn => ?_⟩
          have bN : BO11 HN ns b := ⟨bs, zb.kt (.same sN), lb, sb⟩
          dsimp only
          by_cases hr5 : (200 : Int) < tt + n
          · rw [if_pos hr5]
            refine ⟨s1.2.2.1, fun p hp => ⟨s1.2.2.2.1, fun p2 hp2 => ⟨s1.2.1, fun p3 hp3 => ?_⟩⟩⟩
            obtain ⟨sS, bS⟩ := sayn_at (ns := ns) hp hp2 hp3
            exact hnx3 _ _ ⟨kM.trans (.same (sN.trans sS)), dM.same (sN.trans sS), _, e, rfl, bS⟩
          · rw [if_neg hr5]
            exact hnx3 _ _ ⟨kM.trans (.same sN), dM.same sN, b, e, rfl, bN⟩
        rintro σ HN ⟨kN, dN, b, e, rfl, bN⟩
        refine seq_to (fun σ Hx => Keep [dr] Hh Hx ∧ DrawsAt Hx dr ∧ ∃ (b e : V) (t2 : Int), 0 ≤ t2 ∧ σ = [some (.ref dr), some (.int most), some (.ref kl), some (.ref sp), some (.int t2), some (.int (0 + (i : Int))), some (.ref vt), some (.ref D2), some (.ref rl), some (.str kw), some b, some e, none, none] ∧ BO11 Hx ns b) (fun nx3 hnx3 => ?_) ?_
        · wide_line using []
          obtain ⟨bs, zb, lb, sb⟩ := bN
          refine ⟨b, _, rfl, zb, fun n HO sO hn => ?_⟩
          exact hnx3 _ _ ⟨kN.trans (.same sO), dN.same sO, b, e, tt + n, by omega, rfl, bs, zb.kt (.same sO), lb, sb⟩
        rintro σ HO ⟨kO, dO, b, e, t2, ht2, rfl, bO⟩
        wide_line using []
        have hrO := keepR kO
        simp only [hrO]
        refine ⟨s1.2.2.1, fun p hp => ?_⟩
        have sP := same_new (o := .tup [V.str kw, b]) hp
        have hrP := sP _ _ hrO
        obtain ⟨bs, zb, lb, sb⟩ := bO
        have tz : Tz _ 12 (.ref p) (.tuple [.str kw, .tuple bs]) := .tup (upd_here (o := .tup [V.str kw, b]) hp) (by simp) (.cons (.str (kind_ok hkW)) (.cons (zb.kt (.same sP)) .nil))
        have dP := dO.same sP
        have cP := c.trans (kO.trans (.same sP))
        have kP := (keep_kt kO dd).trans (.same sP)
        generalize upd HO p _ = HP at *
        simp only [hrP]
        have ku : KT HP (upd HP rl (.lst (rx ++ [V.ref p]))) := KT.mut (by rw [hrP]; rfl)
        have jl := (List.getElem?_eq_some_iff.mp hxj).1
        rw [List.length_map] at jl
        have := hks.2.1
        refine ⟨by rw [sizeLine_eq]; omega, hN2 _ _ ⟨cP.new0 hrl, ?_, t2, _, _, _, rx ++ [V.ref p], rd ++ [_], ht2, rfl, upd_same, by simp; omega, paired_app (Paired.mapP h4 fun _ _ z => z.kt (kP.trans ku)) (.cons (tz.kt ku) .nil), ?_⟩⟩
        · obtain ⟨mm, hmm⟩ := dP
          exact ⟨mm, by rw [upd_ne hrd]; exact hmm⟩
        · intro d hd
          rcases List.mem_append.mp hd with hd | hd
          · exact h5 d hd
          · simp at hd
            subst hd
            exact ⟨kw, bs, rfl, hkW, lb, sb⟩
      · rw [if_neg hr4]
        have cI := c.trans kI
        exact hN2 _ _ ⟨cI, dI, tt, _, _, _, rx, rd, h1, rfl, keepR kI, by omega, Paired.mapP h4 fun _ _ z => z.kt (keep_kt kI dd), h5⟩
theorem r_law_expression0 {K : PySem.W.Frag} {A : Ads} {E : XK} {vs : List V} {H : Hp} {Q : VK} (h : sp_law_expression 0 vs H Q E) : t_law_expression K A E (fun _ _ _ _ => False) { nx := fun _ H' => Q .non H', rt := Q } (L2.start ["draws", "names", "deep", "kind", "rows", "sign", "name"] vs) H := r_law_expression_gen (fun _ _ _ _ ⟨_, e, _⟩ => by cases e) h
theorem r_law_expression {K : PySem.W.Frag} {A : Ads} {E : XK} {vs : List V} {H : Hp} {Q : VK} {n : Nat} (h : sp_law_expression (n + 1) vs H Q E) : t_law_expression K A E (sp_law_expression n) { nx := fun _ H' => Q .non H', rt := Q } (L2.start ["draws", "names", "deep", "kind", "rows", "sign", "name"] vs) H := r_law_expression_gen (fun _ _ _ _ ⟨_, e, h⟩ => by cases e; exact h) h
theorem r_law_body0 {K : PySem.W.Frag} {A : Ads} {E : XK} {vs : List V} {H : Hp} {Q : VK} (h : sp_law_body 0 vs H Q E) : t_law_body K A E (fun _ _ _ _ => False) { nx := fun _ H' => Q .non H', rt := Q } (L2.start ["draws", "names", "kinds", "deep", "found", "turn", "kind"] vs) H := r_law_body_gen (fun _ _ _ _ ⟨_, e, _⟩ => by cases e) h
theorem r_law_body {K : PySem.W.Frag} {A : Ads} {E : XK} {vs : List V} {H : Hp} {Q : VK} {n : Nat} (h : sp_law_body (n + 1) vs H Q E) : t_law_body K A E (sp_law_body n) { nx := fun _ H' => Q .non H', rt := Q } (L2.start ["draws", "names", "kinds", "deep", "found", "turn", "kind"] vs) H := r_law_body_gen (fun _ _ _ _ ⟨_, e, h⟩ => by cases e; exact h) h
theorem r_law_many0 {K : PySem.W.Frag} {A : Ads} {E : XK} {vs : List V} {H : Hp} {Q : VK} (h : sp_law_many 0 vs H Q E) : t_law_many K A E (fun _ _ _ _ => False) { nx := fun _ H' => Q .non H', rt := Q } (L2.start ["part", "one"] vs) H := r_law_many_gen (fun _ _ _ _ ⟨_, e, _⟩ => by cases e) h (by decide)
theorem r_law_many {K : PySem.W.Frag} {A : Ads} {E : XK} {vs : List V} {H : Hp} {Q : VK} {n : Nat} (h : sp_law_many (n + 1) vs H Q E) (hn : n + 1 ≤ 60 := by decide) : t_law_many K A E (sp_law_many n) { nx := fun _ H' => Q .non H', rt := Q } (L2.start ["part", "one"] vs) H := r_law_many_gen (fun _ _ _ _ ⟨_, e, h⟩ => by cases e; exact h) h hn
theorem paired_snoc {α β : Type} {F : α → β → Prop} {l : List α} {m : List β} {a : α} {b : β} (h : Paired F l m) (q : F a b) : Paired F (l ++ [a]) (m ++ [b]) := paired_app h (.cons q .nil)
theorem key_injP {n m : Pr} (h : keyP n = keyP m) : n = m := by
  unfold keyP at h
  injection h with h1 h2
  injection h2 with h3 _
  exact Prod.ext (Sum.inl.inj h1) (Sum.inl.inj h3)
theorem nodup_le {α : Type} [DecidableEq α] : ∀ {l m : List α}, l.Nodup → (∀ x ∈ l, x ∈ m) → l.length ≤ m.length
  | [], _, _, _ => Nat.zero_le _
  | x :: l, m, hn, h => by
    rw [List.nodup_cons] at hn
    have hx := h x List.mem_cons_self
    have ih := nodup_le (l := l) (m := m.erase x) hn.2 fun y hy => (List.mem_erase_of_ne (by rintro rfl; exact hn.1 hy)).mpr (h y (List.mem_cons_of_mem _ hy))
    rw [List.length_erase_of_mem hx] at ih
    have := List.length_pos_of_mem hx
    rw [List.length_cons]
    omega
theorem valV_P {G : V → Pr → Prop} : ∀ {kvs : List (List L2.Key × V)} {ns : List Pr} {n : Pr}, Paired (fun p n => p.1 = keyP n ∧ G p.2 n) kvs ns → (n ∈ ns → ∃ v, valV kvs (keyP n) = some v ∧ G v n) ∧ (n ∉ ns → valV kvs (keyP n) = none)
  | _, _, n, .nil => ⟨fun h => by simp at h, fun _ => rfl⟩
  | _, _, n, .cons (a := p) (b := m) (l₁ := kvs) (l₂ := ns) h t => by
    obtain ⟨i1, i2⟩ := valV_P (n := n) t
    by_cases e : m = n
    · subst e
      exact ⟨fun _ => ⟨p.2, valV_pos h.1, h.2⟩, fun hn => absurd List.mem_cons_self hn⟩
    · have ne : ¬ p.1 = keyP n := fun z => e (key_injP (h.1.symm.trans z))
      rw [valV_neg ne]
      refine ⟨fun hn => i1 ?_, fun hn => i2 fun z => hn (List.mem_cons_of_mem _ z)⟩
      rcases List.mem_cons.mp hn with h | h
      · exact absurd h.symm e
      · exact h
theorem paired_mem2 {α β : Type} {F G : α → β → Prop} : ∀ {l : List α} {m : List β}, Paired F l m → (∀ a b, b ∈ m → F a b → G a b) → Paired G l m
  | _, _, .nil, _ => .nil
  | _, _, .cons h t, hh => .cons (hh _ _ List.mem_cons_self h) (paired_mem2 t fun a b m f => hh a b (List.mem_cons_of_mem _ m) f)
theorem put_P {G G' : V → Pr → Prop} {kvs : List (List L2.Key × V)} {ns : List Pr} {n : Pr} {v : V} (h : Paired (fun p n => p.1 = keyP n ∧ G p.2 n) kvs ns) (hG : ∀ m w, m ≠ n → G w m → G' w m) (hv : G' v n) : Paired (fun p n => p.1 = keyP n ∧ G' p.2 n) (putK kvs (keyP n) v) (if n ∈ ns then ns else ns ++ [n]) := by
  have ha : (kvs.any fun kv => decide (kv.1 = keyP n)) = true ↔ n ∈ ns := by
    rw [List.any_eq_true]
    constructor
    · rintro ⟨p, hp, e⟩
      obtain ⟨j, hj⟩ := List.mem_iff_getElem?.mp hp
      obtain ⟨m, hm, e2, _⟩ := pairedGet h hj
      have : m = n := key_injP (e2.symm.trans (by simpa using e))
      subst this
      exact List.mem_of_getElem? hm
    · intro hn
      obtain ⟨j, hj⟩ := List.mem_iff_getElem?.mp hn
      obtain ⟨p, hp, e, _⟩ := pairedAt h hj
      exact ⟨p, List.mem_of_getElem? hp, by simpa using e⟩
  unfold putK
  by_cases c : n ∈ ns
  · rw [if_pos (ha.mpr c), if_pos c]
    clear ha c
    induction h with
    | nil => exact .nil
    | @cons p m l1 l2 h t ih =>
      refine .cons ?_ ih
      dsimp only
      by_cases e : p.1 = keyP n
      · have : m = n := key_injP (h.1.symm.trans e)
        subst this
        rw [if_pos e]
        exact ⟨e, hv⟩
      · rw [if_neg e]
        exact ⟨h.1, hG m p.2 (fun z => e (by rw [h.1, z])) h.2⟩
  · rw [if_neg (fun z => c (ha.mp z)), if_neg c]
    refine paired_snoc (paired_mem2 h fun p m hm hp => ⟨hp.1, hG m p.2 (by rintro rfl; exact c hm) hp.2⟩) ⟨rfl, hv⟩
def allPr : List Pr := (List.range 8).flatMap fun i : Nat => (List.range 8).map fun j : Nat => ((i : Int), (j : Int))
theorem few_P {n : Int} {ps : List Pr} (nd : ps.Nodup) (h : ∀ q ∈ ps, (0 ≤ q.1 ∧ q.1 ≤ n - 1) ∧ 0 ≤ q.2 ∧ q.2 ≤ n - 1) (hn : n ≤ 8) : ps.length ≤ 64 := by
  have := nodup_le (m := allPr) nd fun q hq => by
    obtain ⟨⟨h1, h2⟩, h3, h4⟩ := h q hq
    refine List.mem_flatMap.mpr ⟨q.1.toNat, List.mem_range.mpr (by omega), List.mem_map.mpr ⟨q.2.toNat, List.mem_range.mpr (by omega), ?_⟩⟩
    exact Prod.ext (by show ((q.1.toNat : Nat) : Int) = q.1; omega) (by show ((q.2.toNat : Nat) : Int) = q.2; omega)
  exact this
theorem DAt.keep {av : Addr} {H H' : Hp} {td : Addr} {n : Int} {M : Pr → List V} {S : List Addr} (k : Keep S H H') (h1 : td ∉ S) (hS : ∀ a ∈ S, a = av ∨ ∀ xs, H a ≠ some (.lst xs)) (hav : H' av ≠ none) (h : DAt av H td n M) : DAt av H' td n M := by
  obtain ⟨kvs, ps, ht, p, _, r⟩ := h
  refine ⟨kvs, ps, k _ _ ht h1, Paired.mapP p fun e q ⟨e1, l, e2, nl, hl⟩ => ⟨e1, l, e2, nl, k _ _ hl fun m => ?_⟩, hav, r⟩
  rcases hS l m with e | e
  · exact nl e
  · exact e _ hl
theorem ne_none_same {H H' : Hp} {a : Addr} (s : Same H H') (h : H a ≠ none) : H' a ≠ none := by
  cases e : H a with
  | none => exact absurd e h
  | some o => rw [s _ _ e]; simp
theorem DAt.same {av : Addr} {H H' : Hp} {td : Addr} {n : Int} {M : Pr → List V} (s : Same H H') (h : DAt av H td n M) : DAt av H' td n M := by
  refine DAt.keep (S := []) (Keep.same s) (by simp) (by simp) ?_ h
  obtain ⟨_, _, _, _, hav, _⟩ := h
  exact ne_none_same s hav
theorem NetAt.same {A : Ads} {av : Addr} {H H' : Hp} {f td : Addr} {n : Int} {M : Pr → List V} (s : Same H H') (h : NetAt A av H f td n M) : NetAt A av H' f td n M := let ⟨⟨dx, hf⟩, d⟩ := h; ⟨⟨dx, s _ _ hf⟩, d.same s⟩
theorem upP_eq {α : Type} {M : Pr → List α} {p : Pr} {l : List α} : upP M p l p = l := if_pos rfl
theorem upP_ne {α : Type} {M : Pr → List α} {p q : Pr} {l : List α} (h : q ≠ p) : upP M p l q = M q := if_neg h
/-- a new list put at a pair -/
theorem DAt.put {av : Addr} {H : Hp} {td : Addr} {n : Int} {M : Pr → List V} {p : Pr} {l : Addr} {xs : List V} (h : DAt av H td n M) (hp : (0 ≤ p.1 ∧ p.1 ≤ n - 1) ∧ 0 ≤ p.2 ∧ p.2 ≤ n - 1) (hl : H l = some (.lst xs)) (nl : l ≠ av) (xl : xs.length ≤ 1000) :
    ∃ kvs, H td = some (.dT kvs) ∧ kvs.length < sizeLine ∧ DAt av (upd H td (.dT (putK kvs (keyP p) (.ref l)))) td n (upP M p xs) := by
  obtain ⟨kvs, ps, ht, pr, hav, nd, mem, inn, n8, len⟩ := h
  have few := few_P nd inn n8
  have lk := paired_len pr
  have stay : ∀ b ys, H b = some (.lst ys) → upd H td (.dT (putK kvs (keyP p) (.ref l))) b = some (.lst ys) := fun b ys e => by
    rw [upd_ne (by rintro rfl; rw [ht] at e; cases e)]
    exact e
  refine ⟨kvs, ht, by rw [sizeLine_eq]; omega, _, _, upd_same, put_P (G := fun v q => ∃ l, v = .ref l ∧ l ≠ av ∧ H l = some (.lst (M q))) (G' := fun v q => ∃ l', v = .ref l' ∧ l' ≠ av ∧ upd H td (.dT (putK kvs (keyP p) (.ref l))) l' = some (.lst (upP M p xs q))) (n := p) pr ?_ ?_, ?_, ?_, ?_, ?_, n8, ?_⟩
  · rintro m w ne ⟨b, e, nb, hb⟩
    exact ⟨b, e, nb, by rw [upP_ne ne]; exact stay _ _ hb⟩
  · exact ⟨l, rfl, nl, by rw [upP_eq]; exact stay _ _ hl⟩
  · by_cases c : av = td
    · rw [c, upd_same]; simp
    · rw [upd_ne c]; exact hav
  · split
    · exact nd
    · rename_i c
      refine List.nodup_append.mpr ⟨nd, by simp, fun a ha b hb => ?_⟩
      rw [List.mem_singleton.mp hb]
      rintro rfl
      exact c ha
  · intro q hq
    by_cases e : q = p
    · subst e
      split
      · assumption
      · simp
    · rw [upP_ne e] at hq
      have := mem q hq
      split
      · exact this
      · exact List.mem_append_left _ this
  · intro q hq
    have : q ∈ ps ∨ q = p := by
      split at hq
      · exact .inl hq
      · simpa using hq
    rcases this with h | rfl
    · exact inn q h
    · exact hp
  · intro q
    unfold upP
    split
    · exact xl
    · exact len q
/-- what stands at a pair, or nothing -/
theorem DAt.get {av : Addr} {H : Hp} {td : Addr} {n : Int} {M : Pr → List V} {p : Pr} (h : DAt av H td n M) : ∃ kvs, H td = some (.dT kvs) ∧ ((∃ l, valV kvs (keyP p) = some (.ref l) ∧ l ≠ av ∧ H l = some (.lst (M p))) ∨ (valV kvs (keyP p) = none ∧ M p = [])) := by
  obtain ⟨kvs, ps, ht, pr, _, nd, mem, inn, n8, len⟩ := h
  obtain ⟨g1, g2⟩ := valV_P (G := fun v q => ∃ l, v = .ref l ∧ l ≠ av ∧ H l = some (.lst (M q))) (n := p) pr
  refine ⟨kvs, ht, ?_⟩
  by_cases c : p ∈ ps
  · obtain ⟨v, e, l, rfl, nl, hl⟩ := g1 c
    exact .inl ⟨l, e, nl, hl⟩
  · refine .inr ⟨g2 c, ?_⟩
    by_cases e : M p = []
    · exact e
    · exact absurd (mem p e) c
theorem prOf_some {x y : V} {n : Int} {p : Pr} (h : prOf x y n = some p) : x = .int p.1 ∧ y = .int p.2 ∧ ((0 ≤ p.1 ∧ p.1 ≤ n - 1) ∧ 0 ≤ p.2 ∧ p.2 ≤ n - 1) ∧ p.1 ≠ p.2 := by
  unfold prOf at h
  split at h
  · split at h
    · rename_i c
      cases h
      exact ⟨rfl, rfl, ⟨c.1, c.2.1⟩, c.2.2⟩
    · cases h
  · cases h
theorem r_is_number {K : PySem.W.Frag} {A : Ads} {E : XK} {vs : List V} {H : Hp} {Q : VK} (h : sp_is_number vs H Q E) : t_is_number K A E { nx := fun _ H' => Q .non H', rt := Q } (L2.start ["value", "least", "most"] vs) H := by
  obtain ⟨v, lo, hi, rfl, hv, k⟩ := h
  unfold t_is_number
  rcases hv with ⟨i, rfl⟩ | ⟨b, rfl⟩ | rfl | ⟨x, rfl⟩
  · walk_at "ev"
    refine ite2 (fun h1 => ?_) (fun h1 => ?_)
    · have : decide (i ≤ hi) = numB (.int i) lo hi := by simp [numB, h1]
      rw [this]
      exact k
    · have : false = numB (.int i) lo hi := by simp [numB, h1]
      rw [this]
      exact k
  · walk_at "ev"
    exact k
  · walk_at "ev"
    exact k
  · walk_at "ev"
    exact k
theorem r_law_says {K : PySem.W.Frag} {A : Ads} {E : XK} {vs : List V} {H : Hp} {Q : VK} (h : sp_law_says vs H Q E) : t_law_says K A E { nx := fun _ H' => Q .non H', rt := Q } (L2.start ["told", "due"] vs) H := by
  obtain ⟨b, c, rfl, k⟩ := h
  unfold t_law_says
  walk_at "ev"
  cases b <;> cases c <;> exact k
theorem r_chosen {K : PySem.W.Frag} {A : Ads} {E : XK} {vs : List V} {H : Hp} {Q : VK} (h : sp_chosen vs H Q E) : t_chosen K A E { nx := fun _ H' => Q .non H', rt := Q } (L2.start ["schedule", "step", "options"] vs) H := by
  obtain ⟨a, k, o, ns, xs, i, v, rfl, ha, ho, k0, hi, i0, hv, q⟩ := h
  unfold t_chosen
  walk_at "ev"
  simp only [ha, ho, seqAt_tup, seqAt_lst, List.length_map]
  have n0 : 0 < ns.length := by
    cases ns with
    | nil => simp at hi
    | cons _ _ => simp
  have x0 : 0 < xs.length := by
    cases xs with
    | nil => simp at hv
    | cons _ _ => simp
  refine ⟨by omega, ?_⟩
  refine atK_n (k % (ns.length : Int)).toNat (by have := Int.emod_nonneg k (show (ns.length : Int) ≠ 0 by omega); omega) (by rw [List.getElem?_map, hi]; rfl) ?_
  refine ⟨by omega, atK_n (i % (xs.length : Int)).toNat (by have := Int.emod_nonneg i (show (xs.length : Int) ≠ 0 by omega); omega) hv q⟩
theorem r_Net__init_ {K : PySem.W.Frag} {A : Ads} {E : XK} {vs : List V} {H : Hp} {Q : VK} (h : sp_Net__init_ A vs H Q E) : t_Net__init_ K A E { nx := fun _ H' => Q .non H', rt := Q } (L2.start ["self", "processors"] vs) H := by
  obtain ⟨av, f, dx, n, rfl, hav, hf, n8, k⟩ := h
  unfold t_Net__init_
  refine seq1 ?_
  wide_line using [hf]
  refine ⟨by decide, fun p hp => ?_⟩
  have s0 : Keep [f] H (upd H f (.ins A.Net dx [(Str.ofString "processors", V.int n)])) := Keep.refl.up (by simp)
  have hf1 : upd H f (.ins A.Net dx [(Str.ofString "processors", V.int n)]) f = some (.ins A.Net dx [(Str.ofString "processors", V.int n)]) := upd_same
  have hp0 : H p = none := by
    by_cases e : p = f
    · rw [e, hf1] at hp; cases hp
    · rwa [upd_ne e] at hp
  have hav1 : upd H f (.ins A.Net dx [(Str.ofString "processors", V.int n)]) av ≠ none := by
    by_cases e : av = f
    · rw [e, hf1]; simp
    · rw [upd_ne e]; exact hav
  generalize upd H f (.ins A.Net dx [(Str.ofString "processors", V.int n)]) = H1 at *
  have npf : p ≠ f := by rintro rfl; rw [hf1] at hp; cases hp
  rw [upd_ne npf.symm, hf1]
  refine ⟨rfl, by show 1 < 1000; decide, ?_⟩
  rw [show putF ("rows" : Str) (V.ref p) [((Str.ofString "processors" : Str), V.int n)] = fl_Net (.int n) (.ref p) from fi_Net_rows]
  refine k _ p ((s0.new hp).up (by simp)) hp0 ⟨⟨dx, upd_same⟩, [], [], by rw [upd_ne npf]; exact upd_same, .nil, ?_, List.nodup_nil, fun q hq => absurd rfl hq, by simp, n8, fun q => Nat.zero_le _⟩
  by_cases e : av = f
  · rw [e, upd_same]; simp
  · rw [upd_ne e]
    by_cases e2 : av = p
    · rw [e2, upd_same]; simp
    · rw [upd_ne e2]; exact hav1
theorem numB_true {x : V} {lo hi : Int} (h : numB x lo hi = true) : ∃ i, x = .int i ∧ lo ≤ i ∧ i ≤ hi := by
  unfold numB at h
  split at h
  · simp only [Bool.and_eq_true, decide_eq_true_eq] at h
    exact ⟨_, rfl, h⟩
  · cases h
theorem prOf_none {x y : V} {n : Int} (h : numB x 0 (n - 1) = false ∨ numB y 0 (n - 1) = false) : prOf x y n = none := by
  cases e : prOf x y n with
  | none => rfl
  | some p =>
    obtain ⟨rfl, rfl, ⟨⟨h1, h2⟩, h3, h4⟩, _⟩ := prOf_some e
    rcases h with h | h <;> simp [numB, h1, h2, h3, h4] at h
theorem r_Net_check {K : PySem.W.Frag} {A : Ads} {E : XK} {vs : List V} {H : Hp} {Q : VK} (h : sp_Net_check A vs H Q E) : t_Net_check K A E { nx := fun _ H' => Q .non H', rt := Q } (L2.start ["self", "sender", "receiver"] vs) H := by
  obtain ⟨av, f, td, n, M, x, y, rfl, nt, sx, sy, ke, kq⟩ := h
  obtain ⟨⟨dx, hf⟩, d⟩ := nt
  unfold t_Net_check
  refine seq1 ?_
  wide_line using [hf]
  refine ⟨x, 0, n - 1, rfl, sx, ?_⟩
  cases c1 : numB x 0 (n - 1) with
  | false => exact ke (prOf_none (.inl c1))
  | true =>
    wide_line using [hf]
    refine ⟨y, 0, n - 1, rfl, sy, ?_⟩
    cases c2 : numB y 0 (n - 1) with
    | false => exact ke (prOf_none (.inr c2))
    | true =>
      obtain ⟨i, rfl, i0, i1⟩ := numB_true c1
      obtain ⟨j, rfl, j0, j1⟩ := numB_true c2
      wide_line using [hf]
      refine ite2 (fun e => ke ?_) fun e => kq (i, j) ?_
      · simp [prOf, e]
      · simp [prOf, e, i0, i1, j0, j1]
theorem DAt.get2 {av : Addr} {H : Hp} {td : Addr} {n : Int} {M : Pr → List V} {p : Pr} {b e : Addr} (h : DAt av H td n M) (hb : H b = some (.tup [.int p.1, .int p.2])) (he : H e = some (.lst [])) (ne : e ≠ av) : ∃ o l, DGet H td (.ref b) o ∧ o.getD (.ref e) = .ref l ∧ l ≠ av ∧ H l = some (.lst (M p)) := by
  obtain ⟨kvs, ht, hv⟩ := h.get (p := p)
  have hb' : H b = some (.tup ((keyP p).map kV)) := hb
  have g := DGet.t ht hb'
  rcases hv with ⟨l, e1, nl, hl⟩ | ⟨e1, e2⟩
  · rw [e1] at g
    exact ⟨_, l, g, rfl, nl, hl⟩
  · rw [e1] at g
    exact ⟨_, e, g, rfl, ne, by rw [e2]; exact he⟩
theorem DAt.isD {av : Addr} {H : Hp} {td : Addr} {n : Int} {M : Pr → List V} (h : DAt av H td n M) : IsD H td := let ⟨kvs, _, ht, _⟩ := h; .inr ⟨kvs, .inl ht⟩
theorem NetAt.ne {A : Ads} {av : Addr} {H : Hp} {f td : Addr} {n : Int} {M : Pr → List V} (h : NetAt A av H f td n M) : f ≠ td := by
  obtain ⟨⟨dx, hf⟩, kvs, _, ht, _⟩ := h
  rintro rfl
  rw [hf] at ht
  cases ht
theorem DAt.av {av : Addr} {H : Hp} {td : Addr} {n : Int} {M : Pr → List V} (h : DAt av H td n M) : H av ≠ none := let ⟨_, _, _, _, hv, _⟩ := h; hv
theorem DAt.len {av : Addr} {H : Hp} {td : Addr} {n : Int} {M : Pr → List V} (h : DAt av H td n M) (q : Pr) : (M q).length ≤ 1000 := let ⟨_, _, _, _, _, _, _, _, _, l⟩ := h; l q
theorem cut_tail {v : V} {t : List V} : cutV (v :: t) (some 1) none = t := cutV_from (k := 1)
theorem r_Net_put {K : PySem.W.Frag} {A : Ads} {E : XK} {vs : List V} {H : Hp} {Q : VK} (h : sp_Net_put A vs H Q E) : t_Net_put K A E { nx := fun _ H' => Q .non H', rt := Q } (L2.start ["self", "sender", "receiver", "message"] vs) H := by
  obtain ⟨av, f, td, n, M, x, y, m, rfl, nt, sx, sy, ke, kq⟩ := h
  obtain ⟨dx, hf⟩ := nt.1
  unfold t_Net_put
  refine seq1 ?_
  wide_line using [hf]
  refine ⟨av, f, td, n, M, x, y, rfl, nt, sx, sy, ke, fun p hp => ?_⟩
  obtain ⟨len, kput⟩ := kq p hp
  obtain ⟨rfl, rfl, inn, _⟩ := prOf_some hp
  wide_line using [hf]
  refine ⟨td, rfl, nt.2.isD, by rw [sizeLine_eq]; decide, fun p1 hp1 => ⟨Nat.zero_le _, fun p2 hp2 => ?_⟩⟩
  have s1 := same_new (o := .tup [.int p.1, .int p.2]) hp1
  have s2 := same_new (o := .lst []) hp2
  have u1 := s2 _ _ (upd_same (H := H) (a := p1) (o := .tup [.int p.1, .int p.2]))
  have u2 : upd (upd H p1 (.tup [.int p.1, .int p.2])) p2 (.lst []) p2 = some (.lst []) := upd_same
  have n2 : p2 ≠ av := by rintro rfl; exact ne_none_same s1 nt.2.av hp2
  have s12 := s1.trans s2
  generalize upd (upd H p1 (.tup [.int p.1, .int p.2])) p2 (.lst []) = H2 at *
  obtain ⟨o, l, g, e1, nl, hl⟩ := (nt.2.same s12).get2 u1 u2 n2
  refine ⟨o, g, ?_⟩
  rw [e1]
  simp only [hl, seqAt_lst]
  refine ⟨by rw [sizeLine_eq]; omega, fun p4 hp4 => ?_⟩
  have s3 := same_new (o := .lst (M p ++ [m])) hp4
  have u4 : upd H2 p4 (.lst (M p ++ [m])) p4 = some (.lst (M p ++ [m])) := upd_same
  have n4 : p4 ≠ av := by rintro rfl; exact ne_none_same s12 nt.2.av hp4
  have s13 := s12.trans s3
  generalize upd H2 p4 (.lst (M p ++ [m])) = H3 at *
  rw [s13 _ _ hf]
  simp only [fg_Net_rows]
  refine ⟨trivial, by rw [sizeLine_eq]; decide, fun p5 hp5 => ?_⟩
  have s4 := same_new (o := .tup [.int p.1, .int p.2]) hp5
  have u5 : upd H3 p5 (.tup [.int p.1, .int p.2]) p5 = some (.tup ((keyP p).map kV)) := upd_same
  have s14 := s13.trans s4
  have u4' := s4 _ _ u4
  generalize upd H3 p5 (.tup [.int p.1, .int p.2]) = H4 at *
  obtain ⟨kvs, ht, hz, d4⟩ := (nt.2.same s14).put inn u4' n4 (by rw [List.length_append, List.length_singleton]; omega)
  refine ⟨td, _, rfl, DPut.t ht u5 hz, kput _ ((Keep.same s14).up (by simp)) ⟨⟨dx, ?_⟩, d4⟩⟩
  rw [upd_ne nt.ne]
  exact s14 _ _ hf
theorem r_Net_take {K : PySem.W.Frag} {A : Ads} {E : XK} {vs : List V} {H : Hp} {Q : VK} (h : sp_Net_take A vs H Q E) : t_Net_take K A E { nx := fun _ H' => Q .non H', rt := Q } (L2.start ["self", "sender", "receiver", "row"] vs) H := by
  obtain ⟨av, f, td, n, M, x, y, rfl, nt, sx, sy, ke, kq⟩ := h
  obtain ⟨dx, hf⟩ := nt.1
  unfold t_Net_take
  refine seq1 ?_
  wide_line using [hf]
  refine ⟨av, f, td, n, M, x, y, rfl, nt, sx, sy, ke, fun p hp => ?_⟩
  obtain ⟨k0, k1⟩ := kq p hp
  obtain ⟨rfl, rfl, inn, _⟩ := prOf_some hp
  refine seq1 ?_
  wide_line using [hf]
  refine ⟨td, rfl, nt.2.isD, by rw [sizeLine_eq]; decide, fun p1 hp1 => ⟨Nat.zero_le _, fun p2 hp2 => ?_⟩⟩
  have s1 := same_new (o := .tup [.int p.1, .int p.2]) hp1
  have s2 := same_new (o := .lst []) hp2
  have u1 := s2 _ _ (upd_same (H := H) (a := p1) (o := .tup [.int p.1, .int p.2]))
  have u2 : upd (upd H p1 (.tup [.int p.1, .int p.2])) p2 (.lst []) p2 = some (.lst []) := upd_same
  have n2 : p2 ≠ av := by rintro rfl; exact ne_none_same s1 nt.2.av hp2
  have s12 := s1.trans s2
  generalize upd (upd H p1 (.tup [.int p.1, .int p.2])) p2 (.lst []) = H2 at *
  obtain ⟨o, l, g, e1, nl, hl⟩ := (nt.2.same s12).get2 u1 u2 n2
  refine ⟨o, g, ?_⟩
  rw [e1]
  have len := nt.2.len p
  refine seq1 ?_
  wide_line using [hl]
  cases hM : M p with
  | nil =>
    wide_line using [hl]
    exact k0 hM _ s12
  | cons v t =>
    rw [hM] at hl len
    wide_line using [hl]
    have hf2 := s12 _ _ hf
    refine seq1 ?_
    wide_line using [hf2, hl]
    intro p4 hp4
    rw [show cutV (v :: t) (some 1) none = t from cut_tail]
    have s3 := same_new (o := .lst t) hp4
    have u4 : upd H2 p4 (.lst t) p4 = some (.lst t) := upd_same
    have n4 : p4 ≠ av := by rintro rfl; exact ne_none_same s12 nt.2.av hp4
    have s13 := s12.trans s3
    have hl3 := s3 _ _ hl
    generalize upd H2 p4 (.lst t) = H3 at *
    rw [s13 _ _ hf]
    simp only [fg_Net_rows]
    refine ⟨trivial, by rw [sizeLine_eq]; decide, fun p5 hp5 => ?_⟩
    have s4 := same_new (o := .tup [.int p.1, .int p.2]) hp5
    have u5 : upd H3 p5 (.tup [.int p.1, .int p.2]) p5 = some (.tup ((keyP p).map kV)) := upd_same
    have s14 := s13.trans s4
    have u4' := s4 _ _ u4
    have hl4 := s4 _ _ hl3
    generalize upd H3 p5 (.tup [.int p.1, .int p.2]) = H4 at *
    obtain ⟨kvs, ht, hz, d4⟩ := (nt.2.same s14).put inn u4' n4 (by rw [List.length_cons] at len; omega)
    refine ⟨td, _, rfl, DPut.t ht u5 hz, ?_⟩
    have ntl : l ≠ td := by rintro rfl; rw [hl4] at ht; cases ht
    rw [upd_ne ntl, hl4, seqAt_lst]
    refine atK_n 0 rfl rfl (k1 v t hM _ ((Keep.same s14).up (by simp)) ⟨⟨dx, ?_⟩, d4⟩)
    rw [upd_ne nt.ne]
    exact s14 _ _ hf
theorem walk_itemsT {d : Addr} {o : Obj} {kvs : List (List L2.Key × V)} : Walk (ItiT d o kvs) kvs.length (fun H => H d = some (.frz o (.dT kvs))) (fun i H x H' => ∃ T q k v, kvs[i]? = some (k, v) ∧ x = .ref T ∧ H T = none ∧ H q = some (.tup (k.map kV)) ∧ H' = upd H T (.tup [.ref q, v])) :=
  ⟨fun _ _ hi q => ⟨q, hi⟩, fun _ q => ⟨q, Nat.le_refl _⟩, fun _ _ _ _ _ _ y => y⟩
def PrAt (H : Hp) (v : V) (q : Pr) : Prop := ∃ z, v = .ref z ∧ H z = some (.tup [.int q.1, .int q.2])
theorem PrAt.same {H H' : Hp} (s : Same H H') {v : V} {q : Pr} (h : PrAt H v q) : PrAt H' v q := let ⟨z, e, h⟩ := h; ⟨z, e, s _ _ h⟩
theorem PrAt.kt {H H' : Hp} (s : KT H H') {v : V} {q : Pr} (h : PrAt H v q) : PrAt H' v q := let ⟨z, e, h⟩ := h; ⟨z, e, s _ _ h⟩
theorem PrAt.tz {H : Hp} {v : V} {q : Pr} (h : PrAt H v q) : Tz H 1 v (prD q) := let ⟨_, e, h⟩ := h; e ▸ Tz.tup h (by show 2 ≤ 100000; decide) (.cons Tz.int (.cons Tz.int .nil))
theorem pairs_tz {H : Hp} {ys : List V} {ps : List Pr} (h : Paired (PrAt H) ys ps) : Paired (Tz H 1) ys (ps.map prD) := by
  induction h with
  | nil => exact .nil
  | cons h t ih => exact .cons h.tz ih
theorem pairs_bs {H : Hp} : ∀ {ys : List V} {ps : List Pr}, Paired (PrAt H) ys ps → ∃ bs : List (V × Pr), bs.map (·.1) = ys ∧ bs.map (·.2) = ps ∧ ∀ b ∈ bs, PrAt H b.1 b.2
  | _, _, .nil => ⟨[], rfl, rfl, by simp⟩
  | y :: ys, n :: ns, .cons h t => by
    obtain ⟨bs, e1, e2, hb⟩ := pairs_bs t
    refine ⟨(y, n) :: bs, by rw [List.map_cons, e1], by rw [List.map_cons, e2], fun b m => ?_⟩
    rcases List.mem_cons.mp m with rfl | m
    · exact h
    · exact hb b m
theorem bs_pairs {H : Hp} : ∀ {bs : List (V × Pr)}, (∀ b ∈ bs, PrAt H b.1 b.2) → Paired (PrAt H) (bs.map (·.1)) (bs.map (·.2))
  | [], _ => .nil
  | b :: bs, h => .cons (h b List.mem_cons_self) (bs_pairs fun x m => h x (List.mem_cons_of_mem _ m))
theorem prD_alike (p q : Pr) : PySem.W.alike (prD p) (prD q) = true := by simp [prD, PySem.W.alike, PySem.W.alikeAll]
/-- sorted(..) of a list of pairs -/
theorem sort_to {K : PySem.W.Frag} {H : Hp} {Q : VK} {E : Addr} {ys : List V} {ps : List Pr} (hE : H E = some (.lst ys)) (pz : Paired (PrAt H) ys ps) (few : ps.length ≤ 64) (k : ∀ p zs, H p = none → Paired (PrAt H) zs (sortP ps) → Q (.ref p) (upd H p (.lst zs))) : rSortD K [.ref E] H Q := by
  obtain ⟨bs, rfl, rfl, hb⟩ := pairs_bs pz
  have em : ∀ f : V × Pr → V × PyData, (∀ b, f b = (b.1, prD b.2)) → (bs.map f).map (·.1) = bs.map (·.1) := fun f h => by
    rw [List.map_map]
    exact List.map_congr_left fun b _ => by rw [Function.comp_apply, h]
  refine ⟨E, bs.map fun b => (b.1, prD b.2), rfl, .of (by rw [em _ fun _ => rfl]; exact hE), fun b m => ?_, ?_, ?_, fun b m => ?_, by rw [List.length_map] at few ⊢; omega, fun p hp => ?_⟩
  · obtain ⟨c, hc, rfl⟩ := List.mem_map.mp m
    exact (hb c hc).tz.da.dp
  · intro d hd d' hd'
    obtain ⟨b, hb, rfl⟩ := List.mem_map.mp hd
    obtain ⟨c, _, rfl⟩ := List.mem_map.mp hb
    obtain ⟨b', hb', rfl⟩ := List.mem_map.mp hd'
    obtain ⟨c', _, rfl⟩ := List.mem_map.mp hb'
    exact prD_alike _ _
  · refine .inl fun d hd => ?_
    obtain ⟨b, hb, rfl⟩ := List.mem_map.mp hd
    obtain ⟨c, _, rfl⟩ := List.mem_map.mp hb
    exact ⟨_, _, rfl⟩
  · obtain ⟨c, hc, rfl⟩ := List.mem_map.mp m
    have := (hb c hc).tz.da.lay.2
    show (prD c.2).depth ≤ 60
    omega
  · have e1 : (bs.map fun b => ((b.1, prD b.2) : V × PyData)).mergeSort (PySem.W.dataLe false (·.2)) = (bs.mergeSort (PySem.W.dataLe false fun b => prD b.2)).map fun b => (b.1, prD b.2) :=
      (List.map_mergeSort (r := PySem.W.dataLe false (fun b : V × Pr => prD b.2)) (s := PySem.W.dataLe false (fun b : V × PyData => b.2)) (f := fun b : V × Pr => ((b.1, prD b.2) : V × PyData)) (l := bs) (fun a _ b _ => by rw [PySem.W.dataLe_eq, PySem.W.dataLe_eq])).symm
    have e2 : (bs.mergeSort (PySem.W.dataLe false fun b => prD b.2)).map (·.2) = sortP (bs.map (·.2)) :=
      List.map_mergeSort (r := PySem.W.dataLe false (fun b : V × Pr => prD b.2)) (s := PySem.W.dataLe false prD) (f := fun b : V × Pr => b.2) (l := bs) (fun a _ b _ => by rw [PySem.W.dataLe_eq, PySem.W.dataLe_eq])
    have pp := bs_pairs (H := H) (bs := bs.mergeSort (PySem.W.dataLe false fun b => prD b.2)) fun b m => hb b ((List.mergeSort_perm _ _).mem_iff.mp m)
    rw [e2] at pp
    rw [e1, List.map_map]
    exact k p _ hp pp
theorem le_P {a b : Pr} : PySem.W.dataLe false prD a b = true ↔ PySem.W.dataLt (prD b) (prD a) = false := by
  rw [PySem.W.dataLe_eq]
  simp
theorem sortP_pw (ms : List Pr) : (sortP ms).Pairwise fun a b => PySem.W.dataLe false prD a b = true := by
  have tr : ∀ a b c : Pr, PySem.W.dataLe false prD a b = true → PySem.W.dataLe false prD b c = true → PySem.W.dataLe false prD a c = true := fun a b c h1 h2 => by
    rw [le_P] at *
    exact lt_neg h1 h2
  have tot : ∀ a b : Pr, (PySem.W.dataLe false prD a b || PySem.W.dataLe false prD b a) = true := fun a b => by
    rw [Bool.or_eq_true, le_P, le_P]
    cases c : PySem.W.dataLt (prD b) (prD a) with
    | false => exact .inl rfl
    | true =>
      refine .inr ?_
      cases c2 : PySem.W.dataLt (prD a) (prD b) with
      | false => rfl
      | true =>
        have := lt_trans' c c2
        rw [lt_self] at this
        cases this
  exact List.pairwise_mergeSort tr tot ms
theorem eq_P {ms ns : List Pr} (h : ms.Perm ns) (h1 : ms.Pairwise fun a b => PySem.W.dataLe false prD a b = true) (h2 : ns.Pairwise fun a b => PySem.W.dataLe false prD a b = true) : ms = ns := by
  refine List.Perm.eq_of_pairwise (le := fun a b => PySem.W.dataLe false prD a b = true) (fun a b _ _ h1 h2 => ?_) h1 h2 h
  rw [le_P] at h1 h2
  have := lt_total' (prD_alike a b) h2 h1
  unfold prD at this
  injection this with this
  injection this with e1 this
  injection this with e2 _
  injection e1 with e1
  injection e2 with e2
  exact Prod.ext e1 e2
theorem sortP_perm {ms ns : List Pr} (h : ms.Perm ns) : sortP ms = sortP ns := eq_P (((List.mergeSort_perm ms _).trans h).trans (List.mergeSort_perm ns _).symm) (sortP_pw ms) (sortP_pw ns)
theorem FullP.eq {α β : Type} {M : Pr → List α} {L : Pr → List β} {ps qs : List Pr} (h1 : FullP M ps) (h2 : FullP L qs) (h : ∀ q, M q = [] ↔ L q = []) : sortP ps = sortP qs :=
  sortP_perm ((List.perm_ext_iff_of_nodup h1.1 h2.1).mpr fun a => by rw [h1.2, h2.2, ne_eq, ne_eq, h])
/-- pairs without messages say nothing -/
theorem flat_full {α : Type} {M : Pr → List α} {ps : List Pr} (nd : ps.Nodup) (mem : ∀ q, M q ≠ [] → q ∈ ps) : FullP M (ps.filter fun q => !(M q).isEmpty) ∧ (sortP ps).flatMap M = (sortP (ps.filter fun q => !(M q).isEmpty)).flatMap M := by
  have hf : FullP M (ps.filter fun q => !(M q).isEmpty) := ⟨nd.filter _, fun q => by
    rw [List.mem_filter]
    simp only [Bool.not_eq_true', List.isEmpty_eq_false_iff]
    exact ⟨fun h => h.2, fun h => ⟨mem q h, h⟩⟩⟩
  refine ⟨hf, ?_⟩
  have e : (sortP ps).filter (fun q => !(M q).isEmpty) = sortP (ps.filter fun q => !(M q).isEmpty) :=
    eq_P (((List.mergeSort_perm ps _).filter _).trans (List.mergeSort_perm _ _).symm) ((sortP_pw ps).filter _) (sortP_pw _)
  rw [← e]
  generalize sortP ps = l
  induction l with
  | nil => rfl
  | cons q l ih =>
    rw [List.flatMap_cons, List.filter_cons]
    cases c : (M q).isEmpty with
    | true => 
      rw [List.isEmpty_iff.mp c]
      simpa [c] using ih
    | false => simp [ih]
theorem thaw_same {H H4 : Hp} {td : Addr} {od : Obj} {o : HO} (ht : H td = some o) (s : Same (upd H td (.frz od o)) H4) : Same H (upd H4 td o) := fun b x e => by
  by_cases c : b = td
  · subst c
    rw [upd_same, ← ht, e]
  · rw [upd_ne c]
    refine s _ _ ?_
    rw [upd_ne c]
    exact e
theorem r_Net_ready {K : PySem.W.Frag} {A : Ads} {E : XK} {vs : List V} {H : Hp} {Q : VK} (h : sp_Net_ready A vs H Q E) : t_Net_ready K A E { nx := fun _ H' => Q .non H', rt := Q } (L2.start ["self", "pair", "row"] vs) H := by
  obtain ⟨av, f, td, n, M, rfl, nt, k⟩ := h
  obtain ⟨⟨dx, hf⟩, d⟩ := nt
  obtain ⟨kvs, ps, ht, pr, hav, nd, mem, inn, n8, len⟩ := d
  have nft : f ≠ td := by rintro rfl; rw [hf] at ht; cases ht
  have few := few_P nd inn n8
  have lk := paired_len pr
  unfold t_Net_ready
  refine ⟨td, .dT kvs, ht, trivial, fun od => ?_⟩
  have hf0 : upd H td (.frz od (.dT kvs)) f = some (.ins A.Net dx (fl_Net (.int n) (.ref td))) := by rw [upd_ne nft]; exact hf
  have hfld : ∀ k : VK, k (.ref td) (upd H td (.frz od (.dT kvs))) → dFld A.Net (dVar 0) "rows" [some (.ref f), none, none] (upd H td (.frz od (.dT kvs))) k := fun k hk => by
    wp_walk using hf0
    exact hk
  unfold tLc iItemsT
  refine hfld _ ⟨td, od, kvs, rfl, upd_same, fun D hD => ?_⟩
  have hl0 : ∀ b xs, H b = some (.lst xs) → upd H td (.frz od (.dT kvs)) b = some (.lst xs) := fun b xs e => by
    rw [upd_ne (by rintro rfl; rw [ht] at e; cases e)]
    exact e
  refine lc_it walk_itemsT (fun i H' => Same (upd H td (.frz od (.dT kvs))) H' ∧ ∃ ys, H' D = some (.lst ys) ∧ Paired (PrAt H') ys ((ps.take i).filter fun q => !(M q).isEmpty)) ⟨same_new hD, [], upd_same, .nil⟩ ?_ ?_ ?_
  · rintro i H' _ ⟨s, _⟩
    exact s _ _ upd_same
  · rintro i x H3 H4 hi ⟨s3, ys, hD3, pz⟩ ⟨T, q, kk, v, hkv, rfl, hT, hq, rfl⟩
    obtain ⟨p, hp, e1, l, rfl, nl, hl⟩ := pairedGet pr hkv
    simp only at e1
    subst e1
    have s1 := same_new (o := .tup [.ref q, .ref l]) hT
    have s4 := s3.trans s1
    have hl4 := s4 _ _ (hl0 _ _ hl)
    have uT : upd H3 T (.tup [.ref q, .ref l]) T = _ := upd_same
    have hq4 : upd H3 T (.tup [.ref q, .ref l]) q = some (.tup [.int p.1, .int p.2]) := s1 _ _ hq
    have hD4 := s1 _ _ hD3
    have pz4 := Paired.mapP pz fun _ _ z => PrAt.same s1 z
    generalize upd H3 T (.tup [.ref q, .ref l]) = H4 at *
    have e2 : ps.take (i + 1) = ps.take i ++ [p] := by rw [List.take_succ, hp]; rfl
    have lt := List.length_take_le i ps
    have lf := List.length_filter_le (fun q => !(M q).isEmpty) (ps.take i)
    have ly := paired_len pz4
    wide_line using [uT, hl4]
    refine ite2 (fun c => ?_) fun c => ?_
    · have c2 : (!(M p).isEmpty) = true := by
        cases hm : M p with
        | nil => rw [hm] at c; simp at c
        | cons _ _ => rfl
      refine ⟨ys, hD4, by rw [sizeLine_eq]; omega, same_mut s4 hD, ys ++ [.ref q], rfl, ?_⟩
      rw [e2, List.filter_append, List.filter_cons_of_pos (p := fun q => !(M q).isEmpty) c2, List.filter_nil]
      have kt : KT H4 (upd H4 D (.lst (ys ++ [.ref q]))) := KT.mut (by rw [hD4]; rfl)
      exact paired_snoc (Paired.mapP pz4 fun _ _ z => z.kt kt) ⟨q, rfl, kt _ _ hq4⟩
    · have c2 : (!(M p).isEmpty) = false := by
        cases hm : M p with
        | nil => rfl
        | cons _ _ => rw [hm] at c; simp at c
      refine ⟨s4, ys, hD4, ?_⟩
      rw [e2, List.filter_append, List.filter_cons_of_neg (by rw [c2]; decide), List.filter_nil, List.append_nil]
      exact pz4
  · rintro H3 ⟨s3, ys, hD3, pz⟩
    rw [List.take_of_length_le (by omega)] at pz
    have hn3 : H3 td = some (.frz od (.dT kvs)) := s3 _ _ upd_same
    refine ⟨hn3, ?_⟩
    have s23 := thaw_same ht s3
    have nDt : D ≠ td := by rintro rfl; rw [hD3] at hn3; cases hn3
    have hE4 : upd H3 td (.dT kvs) D = some (.lst ys) := by rw [upd_ne nDt]; exact hD3
    have pz4 : Paired (PrAt (upd H3 td (.dT kvs))) ys (ps.filter fun q => !(M q).isEmpty) := Paired.mapP pz fun z n ⟨a, e, h⟩ => ⟨a, e, by
      rw [upd_ne (by rintro rfl; rw [h] at hn3; cases hn3)]
      exact h⟩
    generalize upd H3 td (.dT kvs) = H4 at *
    obtain ⟨fl, _⟩ := flat_full nd mem
    have few2 : (ps.filter fun q => !(M q).isEmpty).length ≤ 64 := Nat.le_trans (List.length_filter_le _ _) few
    dsimp only [tNil]
    refine sort_to hE4 pz4 few2 fun p zs hp pzs => ?_
    have s5 := same_new (o := .lst zs) hp
    wide_line using [upd_same]
    intro q hq
    have s6 := same_new (o := .tup zs) hq
    refine k q _ _ (s23.trans (s5.trans s6)) fl (Tz.tup upd_same ?_ (pairs_tz (Paired.mapP pzs fun _ _ z => z.same (s5.trans s6))))
    have := paired_len pzs
    unfold sortP at this
    rw [List.length_mergeSort] at this
    omega
def prK : List L2.Key → Pr
  | [.inl a, .inl b] => (a, b)
  | _ => (0, 0)
theorem prK_key (n : Pr) : prK (keyP n) = n := rfl
theorem flat_take {α β : Type} {f : α → List β} {l : List α} {i : Nat} {x : α} (h : l[i]? = some x) : (l.take (i + 1)).flatMap f = (l.take i).flatMap f ++ f x := by
  rw [List.take_succ, h, List.flatMap_append]
  simp [List.flatMap_cons]
theorem flat_le {α β : Type} {f : α → List β} {B : Nat} : ∀ {l : List α}, (∀ x ∈ l, (f x).length ≤ B) → (l.flatMap f).length ≤ l.length * B
  | [], _ => by simp
  | x :: l, h => by
    rw [List.flatMap_cons, List.length_append, List.length_cons, Nat.succ_mul]
    have := flat_le (l := l) fun y m => h y (List.mem_cons_of_mem _ m)
    have := h x List.mem_cons_self
    omega
theorem r_Net_messages {K : PySem.W.Frag} {A : Ads} {E : XK} {vs : List V} {H : Hp} {Q : VK} (h : sp_Net_messages A vs H Q E) : t_Net_messages K A E { nx := fun _ H' => Q .non H', rt := Q } (L2.start ["self", "found", "pair"] vs) H := by
  obtain ⟨av, f, td, n, M, rfl, nt, k⟩ := h
  have d := nt.2
  obtain ⟨⟨dx, hf⟩, kvs, ps, ht, pr, hav, nd, mem, inn, n8, len⟩ := nt
  have few := few_P nd inn n8
  have lk := paired_len pr
  have ek : ∀ e ∈ kvs, ∃ q, e.1 = keyP q ∧ q ∈ ps := fun e he => by
    obtain ⟨j, hj⟩ := List.mem_iff_getElem?.mp he
    obtain ⟨q, hq, h1, _⟩ := pairedGet pr hj
    exact ⟨q, h1, List.mem_of_getElem? hq⟩
  unfold t_Net_messages
  refine seq1 ?_
  wide_line using [hf]
  refine ⟨Nat.zero_le _, fun D hD => ?_⟩
  have s1 := same_new (o := .lst []) hD
  have u1 : upd H D (.lst []) D = some (.lst []) := upd_same
  have hf1 := s1 _ _ hf
  have ht1 := s1 _ _ ht
  generalize upd H D (.lst []) = H1 at *
  refine seq1 ?_
  wide_line using [hf1]
  refine ⟨td, kvs, rfl, ht1, by omega, ?_, fun e he => ?_, fun l zs hl pz => ?_⟩
  · intro x hx y hy
    obtain ⟨e, he, rfl⟩ := List.mem_map.mp hx
    obtain ⟨e', he', rfl⟩ := List.mem_map.mp hy
    obtain ⟨q, h1, _⟩ := ek e he
    obtain ⟨q', h1', _⟩ := ek e' he'
    unfold keyT
    rw [h1, h1']
    simp [keyP, keyD, PySem.W.alike, PySem.W.alikeAll]
  · obtain ⟨q, h1, _⟩ := ek e he
    rw [h1]
    simp [keyP]
  have s2 := same_new (o := .lst (zs.map V.ref)) hl
  have u2 : upd H1 l (.lst (zs.map V.ref)) l = some (.lst (zs.map V.ref)) := upd_same
  generalize upd H1 l (.lst (zs.map V.ref)) = H2 at *
  have es : (kvs.mergeSort (PySem.W.dataLe false keyT)).map (fun e => prK e.1) = sortP ps := by
    have := List.map_mergeSort (r := PySem.W.dataLe false keyT) (s := PySem.W.dataLe false prD) (f := fun e : List L2.Key × V => prK e.1) (l := kvs) (fun a ha b hb => by
      obtain ⟨n, h1, _⟩ := ek a ha
      obtain ⟨m, h2, _⟩ := ek b hb
      rw [PySem.W.dataLe_eq, PySem.W.dataLe_eq]
      unfold keyT
      dsimp only
      rw [h1, h2]
      rfl)
    rw [this]
    unfold sortP
    congr 1
    clear this ek d ht ht1 pz lk k u1 hf1 nd mem inn few
    induction pr with
    | nil => rfl
    | cons h t ih => rw [List.map_cons, ih, h.1, prK_key]
  have pz2 : Paired (PrAt H2) (zs.map V.ref) (sortP ps) := by
    rw [← es]
    have aux : ∀ {zs : List Addr} {sk : List (List L2.Key × V)}, (∀ e ∈ sk, e ∈ kvs) → Paired (fun z (e : List L2.Key × V) => H1 z = some (.tup (e.1.map kV))) zs sk → Paired (PrAt H2) (zs.map V.ref) (sk.map fun e => prK e.1) := fun {zs sk} hk pz => by
      induction pz with
      | nil => exact .nil
      | @cons z e zs sk h t ih =>
        obtain ⟨q, h1, h2⟩ := ek e (hk e List.mem_cons_self)
        refine .cons ?_ (ih fun e m => hk e (List.mem_cons_of_mem _ m))
        dsimp only
        rw [h1, prK_key]
        rw [h1] at h
        exact ⟨z, rfl, s2 _ _ h⟩
    exact aux (fun e m => (List.mergeSort_perm _ _).mem_iff.mp m) pz
  have lz := paired_len pz2
  have ls : (sortP ps).length = ps.length := List.length_mergeSort ps
  have hD2 := s2 _ _ u1
  have s12 := s1.trans s2
  have d2 := d.same s12
  have hf2 := s12 _ _ hf
  have nDa : ∀ b o, H b = some o → b ≠ D := fun b o e c => by rw [c, hD] at e; cases e
  have nlD : l ≠ D := by rintro rfl; rw [u1] at hl; cases hl
  obtain ⟨fl, ef⟩ := flat_full nd mem
  refine forL_to (xs := zs.map V.ref) (.of u2) (fun i σ H' => ∃ z2, σ = [some (.ref f), some (.ref D), z2] ∧ Keep [D] H2 H' ∧ H' D = some (.lst (((sortP ps).take i).flatMap M))) (fun σ H' => ∃ z2, σ = [some (.ref f), some (.ref D), z2] ∧ Keep [D] H2 H' ∧ H' D = some (.lst ((sortP ps).flatMap M))) ⟨_, rfl, Keep.refl, by simpa using hD2⟩ ?_ ?_ ?_ ?_
  · rintro i σ H' _ ⟨_, _, kp, _⟩
    exact .of (kp _ _ u2 (by simpa using nlD))
  · rintro σ H' ⟨z2, e, kp, g⟩
    rw [List.take_of_length_le (by omega)] at g
    exact ⟨z2, e, kp, g⟩
  · rintro σ H' ⟨z2, rfl, kp, g⟩
    wp_walk using g
    refine k D H' _ hD (fun b o e => kp _ _ (s12 _ _ e) (by simpa using nDa b o e)) fl ?_
    rw [← ef]
    exact g
  · rintro N nx _ i x σ H3 hx hN ⟨z2, rfl, kp, g⟩
    obtain ⟨q, hq, z, rfl, hz⟩ := pairedGet pz2 hx
    have hqp : q ∈ ps := (List.mergeSort_perm ps _).mem_iff.mp (List.mem_of_getElem? hq)
    obtain ⟨v, ev, l2, rfl, _, hl2⟩ := (valV_P (G := fun v q => ∃ l, v = .ref l ∧ l ≠ av ∧ H l = some (.lst (M q))) (n := q) pr).1 hqp
    have ht2 := s12 _ _ ht
    have kd : ∀ b o, H2 b = some o → b ≠ D → H3 b = some o := fun b o e n => kp _ _ e (by simpa using n)
    have hf3 := kd _ _ hf2 (nDa _ _ hf)
    have nzD : z ≠ D := by rintro rfl; rw [hD2] at hz; cases hz
    have hz3 : H3 z = some (.tup ((keyP q).map kV)) := kd _ _ hz nzD
    have ht3 := kd _ _ ht2 (nDa _ _ ht)
    refine ⟨.ref D, rfl, ?_⟩
    wide_line using [hf3]
    have hl3 := kd _ _ (s12 _ _ hl2) (nDa _ _ hl2)
    have g1 := DGet.t ht3 hz3
    rw [ev] at g1
    have lt := flat_le (f := M) (l := (sortP ps).take i) (B := 1000) fun q _ => len q
    have ll : ((sortP ps).take i).length ≤ (sortP ps).length := by rw [List.length_take]; omega
    have lq := len q
    refine ⟨td, _, rfl, g1, D, l2, _, _, rfl, rfl, g, hl3, by rw [sizeLine_eq]; omega, hN _ _ ⟨_, rfl, kp.up (by simp), ?_⟩⟩
    rw [upd_same, flat_take hq]
theorem r_Net_many {K : PySem.W.Frag} {A : Ads} {E : XK} {vs : List V} {H : Hp} {Q : VK} (h : sp_Net_many A vs H Q E) : t_Net_many K A E { nx := fun _ H' => Q .non H', rt := Q } (L2.start ["self"] vs) H := by
  obtain ⟨av, f, td, n, M, rfl, nt, k⟩ := h
  obtain ⟨dx, hf⟩ := nt.1
  unfold t_Net_many
  wide_line using [hf]
  refine ⟨av, f, td, n, M, rfl, nt, fun D H' ps hD s fl g => ?_⟩
  wide_line using [g]
  exact k H' ps s fl
theorem r_law_told {K : PySem.W.Frag} {A : Ads} {E : XK} {vs : List V} {H : Hp} {Q : VK} (F2 : WordOk K A A.NotThere "none") (h : sp_law_told A vs H Q E) : t_law_told K A E { nx := fun _ H' => Q .non H', rt := Q } (L2.start ["net", "which", "one", "other", "e"] vs) H := by
  obtain ⟨av, f, td, n, M, w, x, y, rfl, nt, sx, sy, k0, k1⟩ := h
  obtain ⟨dx, hf⟩ := nt.1
  unfold t_law_told
  cases w
  · wp_walk using hf
    refine ⟨av, f, td, n, M, x, y, rfl, nt, sx, sy, fun e => F2.told (show 4 < 5 by decide) (k0 e), fun p hp => ?_⟩
    obtain ⟨_, k2, k3⟩ := k1 p hp
    exact ⟨fun hm H' s => F2.told (show 4 < 5 by decide) fun H'' s' => k2 hm H'' (s.trans s'), k3⟩
  · wp_walk using hf
    refine ⟨av, f, td, n, M, x, y, _, rfl, nt, sx, sy, fun e => F2.told (show 4 < 5 by decide) (k0 e), fun p hp => ?_⟩
    have := (k1 p hp).1
    cases this
theorem tbd_of {P : Addr} {H H2 H' : Hp} (hP : GxR.TabG H P) (h : GxR.Tabbed P H H2) (s : Same H2 H') : Tbd P H H' := by
  refine ⟨TabG.same s h.1, fun b o e n => ?_⟩
  refine s _ _ ?_
  rw [h.2 b (by simpa using n)]
  exact e
theorem r_is_map {K : PySem.W.Frag} {A : Ads} {E : XK} {vs : List V} {H : Hp} {Q : VK} (h : sp_is_map A vs H Q E) : t_is_map K A E { nx := fun _ H' => Q .non H', rt := Q } (L2.start ["model", "processors", "value", "one"] vs) H := by
  obtain ⟨m, n, v, ms, xs, rfl, hm, hv, tb, k⟩ := h
  have k0 : Tbd A.P_is_map H H := ⟨tb, Keep.refl⟩
  unfold t_is_map
  refine seq1 ?_
  cases xs with
  | none =>
    rcases hv with (⟨i, rfl⟩ | ⟨b, rfl⟩ | rfl | ⟨x, rfl⟩) | ⟨a, xs, rfl, ha⟩
    · wide_line using [hm]
      exact k H k0
    · wide_line using [hm]
      exact k H k0
    · wide_line using [hm]
      exact k H k0
    · wide_line using [hm]
      exact k H k0
    · wide_line using [hm, ha]
      exact k H k0
  | some xs =>
    obtain ⟨⟨a, rfl, ha⟩, sc⟩ := hv
    wide_line using [hm, ha]
    refine ite2 (fun c => ?_) fun c => ?_
    · have e : mapB ms.length n (some xs) = false := by
        have : ¬ xs.length = ms.length := fun e => by rw [e] at c; simp at c
        simp [mapB, this]
      rw [e] at k
      exact k H k0
    · have e : xs.length = ms.length := by
        have : (xs.length : Int) = (ms.length : Int) := by simpa using c
        omega
      refine gxT_core ha tb (fun x => numB x 0 (n - 1)) (fun H2 h2 x hx H' s' kk hk => ?_) fun H2 H' h2 s' => ?_
      · wide_line using [upd_same]
        exact ⟨x, 0, n - 1, rfl, sc x hx, hk _ (Same.refl _)⟩
      · have e2 : mapB ms.length n (some xs) = (if false = true then xs.any fun x => numB x 0 (n - 1) else xs.all fun x => numB x 0 (n - 1)) := by simp [mapB, e]
        rw [← e2]
        exact k H' (tbd_of tb h2 s')
theorem r_is_schedule {K : PySem.W.Frag} {A : Ads} {E : XK} {vs : List V} {H : Hp} {Q : VK} (h : sp_is_schedule A vs H Q E) : t_is_schedule K A E { nx := fun _ H' => Q .non H', rt := Q } (L2.start ["value", "one"] vs) H := by
  obtain ⟨v, xs, rfl, hv, tb, k⟩ := h
  have k0 : Tbd A.P_is_schedule H H := ⟨tb, Keep.refl⟩
  unfold t_is_schedule
  cases xs with
  | none =>
    rcases hv with (⟨i, rfl⟩ | ⟨b, rfl⟩ | rfl | ⟨x, rfl⟩) | ⟨a, xs, rfl, ha⟩
    · wide_line using [tb]
      exact k H k0
    · wide_line using [tb]
      exact k H k0
    · wide_line using [tb]
      exact k H k0
    · wide_line using [tb]
      exact k H k0
    · wide_line using [ha]
      exact k H k0
  | some xs =>
    obtain ⟨⟨a, rfl, ha⟩, sc⟩ := hv
    wide_line using [ha]
    refine ite2 (fun c => ?_) fun c => ?_
    · have c' : 0 < xs.length := by omega
      refine gxT_core ha tb (fun x => numB x 0 1000000000) (fun H2 h2 x hx H' s' kk hk => ?_) fun H2 H' h2 s' => ?_
      · wide_line using [upd_same]
        exact ⟨x, 0, 1000000000, rfl, sc x hx, hk _ (Same.refl _)⟩
      · have e2 : schB (some xs) = (if false = true then xs.any fun x => numB x 0 1000000000 else xs.all fun x => numB x 0 1000000000) := by simp [schB, c']
        rw [← e2]
        exact k H' (tbd_of tb h2 s')
    · have e : schB (some xs) = false := by
        have : ¬ 0 < xs.length := by omega
        simp [schB, this]
      rw [e] at k
      exact k H k0
def MsgAt (H : Hp) (v : V) (s : Int) : Prop := ∃ t x, v = .ref t ∧ H t = some (.tup [.int s, .int x])
theorem MsgAt.kt {H H' : Hp} (k : KT H H') {v : V} {s : Int} (h : MsgAt H v s) : MsgAt H' v s := let ⟨t, x, e, h⟩ := h; ⟨t, x, e, k _ _ h⟩
/-- what stands in the law's first loop -/
structure LI (A : Ads) (H : Hp) (dr f td rd : Addr) (n : Int) (M : Pr → List V) (L : Pr → List Int) (i : Nat) : Prop where
  dw : DrawsAt H dr
  nt : NetAt A dr H f td n M
  rw_ : DAt dr H rd n fun q => (L q).map V.int
  rel : ∀ q, Paired (MsgAt H) (M q) (L q)
  len : ∀ q, (L q).length ≤ i
  tabs : TabsOk A H
  ne : td ≠ rd
theorem TabsOk.same {A : Ads} {H H' : Hp} (s : Same H H') (h : TabsOk A H) : TabsOk A H' := fun p m => TabG.same s (h p m)
theorem TabsOk.keep {A : Ads} {H H' : Hp} {S : List Addr} (k : Keep S H H') (hS : ∀ a ∈ S, ∀ ps, H a ≠ some (.tbl ps)) (h : TabsOk A H) : TabsOk A H' := fun p m => by
  obtain ⟨ps, e, t⟩ := h p m
  exact ⟨ps, k _ _ e fun m => hS _ m _ e, t⟩
theorem LI.same {A : Ads} {H H' : Hp} {dr f td rd : Addr} {n : Int} {M : Pr → List V} {L : Pr → List Int} {i : Nat} (s : Same H H') (h : LI A H dr f td rd n M L i) : LI A H' dr f td rd n M L i :=
  ⟨h.dw.same s, h.nt.same s, h.rw_.same s, fun q => Paired.mapP (h.rel q) fun _ _ z => z.kt (.same s), h.len, h.tabs.same s, h.ne⟩
theorem LI.draw {A : Ads} {H H' : Hp} {dr f td rd : Addr} {n : Int} {M : Pr → List V} {L : Pr → List Int} {i : Nat} (k : Keep [dr] H H') (d' : DrawsAt H' dr) (h : LI A H dr f td rd n M L i) : LI A H' dr f td rd n M L i := by
  obtain ⟨ms, hd⟩ := h.dw
  have kt := keep_kt k h.dw
  have hav : H' dr ≠ none := by obtain ⟨ms', e⟩ := d'; rw [e]; simp
  have nd : ∀ {t : Addr} {n : Int} {M : Pr → List V}, DAt dr H t n M → t ∉ [dr] := fun {t n M} ⟨kvs, _, ht, _⟩ m => by
    rw [List.mem_singleton.mp m, hd] at ht
    cases ht
  have dk : ∀ {t : Addr} {n : Int} {M : Pr → List V}, DAt dr H t n M → DAt dr H' t n M := fun {t n M} d => d.keep k (nd d) (fun a m => .inl (List.mem_singleton.mp m)) hav
  refine ⟨d', ⟨?_, dk h.nt.2⟩, dk h.rw_, fun q => Paired.mapP (h.rel q) fun _ _ z => z.kt kt, h.len, h.tabs.keep k fun a m ps e => ?_, h.ne⟩
  · obtain ⟨dx, hf⟩ := h.nt.1
    exact ⟨dx, k _ _ hf fun m => by rw [List.mem_singleton.mp m, hd] at hf; cases hf⟩
  · rw [List.mem_singleton.mp m, hd] at e
    cases e
theorem paired_flat {α β γ : Type} {F : β → γ → Prop} {f : α → List β} {g : α → List γ} : ∀ {l : List α}, (∀ x ∈ l, Paired F (f x) (g x)) → Paired F (l.flatMap f) (l.flatMap g)
  | [], _ => .nil
  | x :: l, h => by
    rw [List.flatMap_cons, List.flatMap_cons]
    exact paired_app (h x List.mem_cons_self) (paired_flat fun y m => h y (List.mem_cons_of_mem _ m))
theorem LI.nil {A : Ads} {H : Hp} {dr f td rd : Addr} {n : Int} {M : Pr → List V} {L : Pr → List Int} {i : Nat} (h : LI A H dr f td rd n M L i) (q : Pr) : M q = [] ↔ L q = [] := by
  rw [← List.length_eq_zero_iff, ← List.length_eq_zero_iff, paired_len (h.rel q)]
theorem dVar_at {i : Nat} {σ : L2.St} {H : Hp} {Q : VK} {v : V} (h : σ[i]? = some (some v)) (q : Q v H) : dVar i σ H Q := by
  unfold dVar
  rw [h]
  exact q
theorem law_look {K : PySem.W.Frag} {A : Ads} {D0 : Ends} {H : Hp} {dr f td rd : Addr} {n : Int} {M : Pr → List V} {L : Pr → List Int} {i : Nat} {z0 z5 z6 z7 z8 z9 z10 z11 z12 z13 z14 z15 z16 z17 z18 z19 z20 z21 z22 : Option V} (li : LI A H dr f td rd n M L i) (hi : i ≤ 40)
    (fin : ∀ H' z10 z11 z12, LI A H' dr f td rd n M L i → D0.nx [z0, some (.ref dr), some (.int n), some (.ref f), some (.ref rd), z5, z6, z7, z8, z9, z10, z11, z12, z13, z14, z15, z16, z17, z18, z19, z20, z21, z22] H') :
  (tSeq (tAsg (tCB (rSortD K) (tCons (tLockE (tLc (iKeys (dVar 4)) (gName 11) (dTest (tOp rNeNil (tDGet (dVar 4) (dVar 11)) (tLst tNil))) (dVar 11) [11])) tNil)) (gName 10))
  (tSeq (tAsg (tLst tNil) (gName 12))
  (tSeq (dForL K (dVar 10) (gName 11)
  (tAsg (tOp dAdd2 (dVar 12) (tDGet (dVar 4) (dVar 11))) (gName 12)))
  (tIfS (tOr (tNot (dTru (tCallS (sp_law_alike K 3) (fun _ => E0) (tCons (dMethE A.Net "ready" (sp_Net_ready A) (fun _ => E0) (dVar 3) tNil) (tCons (tCB dTupleOf (tCons (dVar 10) tNil)) tNil))))) (tOr (dTest (tOp (dNeD K) (dLcL K (dMethE A.Net "messages" (sp_Net_messages A) (fun _ => E0) (dVar 3) tNil) (gName 21) tYes (tOp dIx (dVar 21) (tC (.int 0))) [21]) (dVar 12))) (tNot (dTru (tCallS (sp_law_alike K 3) (fun _ => E0) (tCons (dMethE A.Net "many" (sp_Net_many A) (fun _ => E0) (dVar 3) tNil) (tCons (tCB dLen (tCons (dVar 12) tNil)) tNil)))))))
  (tRet (tC (.bl false)))
  tNext)))) D0 [z0, some (.ref dr), some (.int n), some (.ref f), some (.ref rd), z5, z6, z7, z8, z9, z10, z11, z12, z13, z14, z15, z16, z17, z18, z19, z20, z21, z22] H := by
  obtain ⟨kvs, ps, ht, pr, hav, nd, mem, inn, n8, lenL⟩ := li.rw_
  have few := few_P nd inn n8
  have lk := paired_len pr
  have hl0 : ∀ (od : Obj) b xs, H b = some (.lst xs) → upd H rd (.frz od (.dT kvs)) b = some (.lst xs) := fun od b xs e => by
    rw [upd_ne (by rintro rfl; rw [ht] at e; cases e)]
    exact e
  refine seq1 ?_
  refine ⟨rd, .dT kvs, ht, trivial, fun od => ?_⟩
  unfold tLc iKeys
  refine dVar_at rfl ⟨rd, od, rfl, .inr ⟨kvs, upd_same, fun D hD => ?_⟩⟩
  refine lc_it walk_keysT (fun i H' => Same (upd H rd (.frz od (.dT kvs))) H' ∧ ∃ ys, H' D = some (.lst ys) ∧ Paired (PrAt H') ys ((ps.take i).filter fun q => !(L q).isEmpty)) ⟨same_new hD, [], upd_same, .nil⟩ ?_ ?_ ?_
  · rintro i H' _ ⟨s, _⟩
    exact s _ _ upd_same
  · rintro j x H3 H4 hi ⟨s3, ys, hD3, pz⟩ ⟨rfl, kk, v, q, hkv, rfl, hq⟩
    obtain ⟨p, hp, e1, l, rfl, nl, hl⟩ := pairedGet pr hkv
    simp only at e1
    subst e1
    have hl4 := s3 _ _ (hl0 od _ _ hl)
    have hn3 : H4 rd = some (.frz od (.dT kvs)) := s3 _ _ upd_same
    have hq4 : H4 q = some (.tup [.int p.1, .int p.2]) := hq
    have e2 : ps.take (j + 1) = ps.take j ++ [p] := by rw [List.take_succ, hp]; rfl
    have lt := List.length_take_le j ps
    have lf := List.length_filter_le (fun q => !(L q).isEmpty) (ps.take j)
    have ly := paired_len pz
    have hpp : p ∈ ps := List.mem_of_getElem? hp
    obtain ⟨v2, ev, l2, rfl, _, hl2⟩ := (valV_P (G := fun v q => ∃ l, v = .ref l ∧ l ≠ dr ∧ H l = some (.lst ((L q).map V.int))) (n := p) pr).1 hpp
    have g1 : DGet H4 rd (.ref q) (some (.ref l2)) := .inr ⟨kvs, keyP p, q, .inr ⟨od, hn3⟩, rfl, hq, ev.symm⟩
    wide_line using [upd_same]
    refine ⟨rd, _, rfl, g1, Nat.zero_le _, fun p1 hp1 => ?_⟩
    have s5 := same_new (o := .lst []) hp1
    refine ⟨l2, p1, _, rfl, rfl, s5 _ _ (s3 _ _ (hl0 od _ _ hl2)), upd_same, ?_⟩
    have hD5 := s5 _ _ hD3
    have hq5 := s5 _ _ hq4
    have s35 := s3.trans s5
    have pz5 := Paired.mapP pz fun _ _ z => PrAt.same s5 z
    generalize upd H4 p1 (.lst []) = H5 at *
    have eb : (!decide ((L p).map V.int = [])) = !(L p).isEmpty := by cases L p <;> rfl
    rw [eb]
    dsimp only
    refine ite2 (fun c => ?_) fun c => ?_
    · refine ⟨ys, hD5, by rw [sizeLine_eq]; omega, same_mut s35 hD, ys ++ [.ref q], rfl, ?_⟩
      rw [e2, List.filter_append, List.filter_cons_of_pos (p := fun q => !(L q).isEmpty) c, List.filter_nil]
      have kt : KT H5 (upd H5 D (.lst (ys ++ [.ref q]))) := KT.mut (by rw [hD5]; rfl)
      exact paired_snoc (Paired.mapP pz5 fun _ _ z => z.kt kt) ⟨q, rfl, kt _ _ hq5⟩
    · refine ⟨s35, ys, hD5, ?_⟩
      rw [e2, List.filter_append, List.filter_cons_of_neg (p := fun q => !(L q).isEmpty) c, List.filter_nil, List.append_nil]
      exact pz5
  · rintro H3 ⟨s3, ys, hD3, pz⟩
    rw [List.take_of_length_le (by omega)] at pz
    have hn3 : H3 rd = some (.frz od (.dT kvs)) := s3 _ _ upd_same
    refine ⟨hn3, ?_⟩
    have s23 := thaw_same ht s3
    have nDt : D ≠ rd := by rintro rfl; rw [hD3] at hn3; cases hn3
    have hE4 : upd H3 rd (.dT kvs) D = some (.lst ys) := by rw [upd_ne nDt]; exact hD3
    have pz4 : Paired (PrAt (upd H3 rd (.dT kvs))) ys (ps.filter fun q => !(L q).isEmpty) := Paired.mapP pz fun z n ⟨a, e, h⟩ => ⟨a, e, by
      rw [upd_ne (by rintro rfl; rw [h] at hn3; cases hn3)]
      exact h⟩
    generalize upd H3 rd (.dT kvs) = H4 at *
    have mem' : ∀ q, L q ≠ [] → q ∈ ps := fun q hq => mem q (by simpa using hq)
    obtain ⟨fl, _⟩ := flat_full (M := L) nd mem'
    generalize hqs : (ps.filter fun q => !(L q).isEmpty) = qs at *
    have few2 : qs.length ≤ 64 := by rw [← hqs]; exact Nat.le_trans (List.length_filter_le _ _) few
    have subq : ∀ q ∈ qs, q ∈ ps := fun q hq => by rw [← hqs] at hq; exact (List.mem_filter.mp hq).1
    dsimp only [tNil]
    refine sort_to hE4 pz4 few2 fun fa zs hfa pzs => ?_
    have s5 := same_new (o := .lst zs) hfa
    have u5 : upd H4 fa (.lst zs) fa = some (.lst zs) := upd_same
    have pz5 : Paired (PrAt (upd H4 fa (.lst zs))) zs (sortP qs) := Paired.mapP pzs fun _ _ z => z.same s5
    have s25 := s23.trans s5
    generalize upd H4 fa (.lst zs) = H5 at *
    have ls : (sortP qs).length = qs.length := List.length_mergeSort qs
    have lz := paired_len pz5
    have li5 := li.same s25
    refine seq1 ?_
    wide_line using [upd_same]
    refine ⟨Nat.zero_le _, fun ea hea => ?_⟩
    have s6 := same_new (o := .lst []) hea
    have u6 : upd H5 ea (.lst []) ea = some (.lst ([].map V.int)) := upd_same
    have s26 := s25.trans s6
    have u56 := s6 _ _ u5
    have pz6 : Paired (PrAt (upd H5 ea (.lst []))) zs (sortP qs) := Paired.mapP pz5 fun _ _ z => z.same s6
    have li6 := li5.same s6
    generalize upd H5 ea (.lst []) = H6 at *
    refine seq1 ?_
    wide_line using [u56]
    have d6 := li6.rw_
    have lb : ∀ j, (((sortP qs).take j).flatMap L).length ≤ 64 * 40 := fun j => by
      have h1 := flat_le (f := L) (l := (sortP qs).take j) (B := 40) fun q _ => Nat.le_trans (li.len q) hi
      have h2 : ((sortP qs).take j).length ≤ (sortP qs).length := by rw [List.length_take]; omega
      omega
    refine forL_to (xs := zs) (.of u56) (fun j σ H' => ∃ z11 ea, σ = [z0, some (.ref dr), some (.int n), some (.ref f), some (.ref rd), z5, z6, z7, z8, z9, some (.ref fa), z11, some (.ref ea), z13, z14, z15, z16, z17, z18, z19, z20, z21, z22] ∧ Same H6 H' ∧ H' ea = some (.lst ((((sortP qs).take j).flatMap L).map V.int))) (fun σ H' => ∃ z11 ea, σ = [z0, some (.ref dr), some (.int n), some (.ref f), some (.ref rd), z5, z6, z7, z8, z9, some (.ref fa), z11, some (.ref ea), z13, z14, z15, z16, z17, z18, z19, z20, z21, z22] ∧ Same H6 H' ∧ H' ea = some (.lst (((sortP qs).flatMap L).map V.int))) ⟨_, _, rfl, Same.refl _, by simpa using u6⟩ ?_ ?_ ?_ ?_
    · rintro j σ H' _ ⟨_, _, _, s, _⟩
      exact .of (s _ _ u56)
    · rintro σ H' ⟨z11, ea, e, s, g⟩
      rw [List.take_of_length_le (by omega)] at g
      exact ⟨z11, ea, e, s, g⟩
    · rintro σ H7 ⟨z11, ea, rfl, s7, g7⟩
      have li7 := li6.same s7
      have u57 := s7 _ _ u56
      have pz7 : Paired (PrAt H7) zs (sortP qs) := Paired.mapP pz6 fun _ _ z => z.same s7
      obtain ⟨dx, hf⟩ := li7.nt.1
      wide_line using [hf]
      refine ⟨dr, f, td, n, M, rfl, li7.nt, fun ra H8 rs s8 flM tzr => ?_⟩
      have er : sortP rs = sortP qs := FullP.eq flM fl fun q => li7.nil q
      rw [er] at tzr
      have u58 := s8 _ _ u57
      have g8 := s8 _ _ g7
      have li8 := li7.same s8
      have pz8 : Paired (PrAt H8) zs (sortP qs) := Paired.mapP pz7 fun _ _ z => z.same s8
      wide_line using [u58]
      intro ta hta
      have s9 := same_new (o := .tup zs) hta
      have u9 : upd H8 ta (.tup zs) ta = some (.tup zs) := upd_same
      have g9 := s9 _ _ g8
      have li9 := li8.same s9
      have tzr9 := tzr.kt (.same s9)
      have tz9 : Tz (upd H8 ta (.tup zs)) 2 (.ref ta) (.tuple ((sortP qs).map prD)) := Tz.tup u9 (by omega) (pairs_tz (Paired.mapP pz8 fun _ _ z => z.same s9))
      generalize upd H8 ta (.tup zs) = H9 at *
      refine ⟨_, _, _, rfl, tzr9.up.da, tz9.up.da, fun H10 s10 => ?_⟩
      have li10 := li9.same s10
      have g10 := s10 _ _ g9
      obtain ⟨dx, hf10⟩ := li10.nt.1
      wide_line using [hf10]
      refine ⟨dr, f, td, n, M, rfl, li10.nt, fun ma H11 rs2 hma s11 flM2 hm => ?_⟩
      have er2 : sortP rs2 = sortP qs := (flM2.eq flM fun _ => Iff.rfl).trans er
      rw [er2] at hm
      have li11 := li10.same s11
      have g11 := s11 _ _ g10
      have pm : Paired (MsgAt H11) ((sortP qs).flatMap M) ((sortP qs).flatMap L) := paired_flat fun q _ => li11.rel q
      have lm := paired_len pm
      have ll := lb (sortP qs).length
      rw [List.take_length] at ll
      dsimp only
      refine lcL_pair (.of hm) pm (by omega) (fun _ => true) (fun s v _ => v = .int s) (fun _ _ _ _ _ z => z) (fun j x s _ _ hF H12 s12 k1 k0 h1 _ => ?_) fun ca H12 ws hca s12 hw pw => ?_
      · obtain ⟨t, y, rfl, ht⟩ := hF
        unfold LcTurn
        wide_line using [s12 _ _ ht]
        exact h1 rfl _ _ (Same.refl _) rfl
      · rw [List.filter_eq_self.mpr (fun _ _ => rfl)] at pw
        have ew : ws = ((sortP qs).flatMap L).map V.int := by
          clear hw pm lm ll hm g7 g8 g9 g10 g11 lb
          generalize (sortP qs).flatMap L = l at pw
          induction pw with
          | nil => rfl
          | cons h t ih => rw [List.map_cons, ih, h]
        rw [ew] at hw
        have g12 := s12 _ _ g11
        refine neD_same (n := 2) (da_lints hw (by omega)) (da_lints g12 (by omega)) (by decide) ?_
        have li12 := li11.same s12
        obtain ⟨dx, hf12⟩ := li12.nt.1
        wide_line using [hf12]
        refine ⟨dr, f, td, n, M, rfl, li12.nt, fun H13 rs3 s13 flM3 => ?_⟩
        have er3 : sortP rs3 = sortP qs := (flM3.eq flM fun _ => Iff.rfl).trans er
        rw [er3, lm]
        have g13 := s13 _ _ g12
        wide_line using [g13]
        rw [List.length_map]
        refine ⟨_, _, _, rfl, Da.int, Da.int, fun H14 s14 => ?_⟩
        wide_line using [upd_same]
        exact fin _ _ _ _ ((li12.same s13).same s14)
    · rintro N nx _ j x σ H7 hx hN ⟨z11, ea, rfl, s7, g⟩
      obtain ⟨q, hq, z, rfl, hz⟩ := pairedGet pz6 hx
      have hqp : q ∈ ps := subq q ((List.mergeSort_perm qs _).mem_iff.mp (List.mem_of_getElem? hq))
      obtain ⟨v2, ev, l2, rfl, _, hl2⟩ := (valV_P (G := fun v q => ∃ l, v = .ref l ∧ l ≠ dr ∧ H l = some (.lst ((L q).map V.int))) (n := q) pr).1 hqp
      have s27 := s26.trans s7
      have hz7 : H7 z = some (.tup ((keyP q).map kV)) := s7 _ _ hz
      have g1 := DGet.t (s27 _ _ ht) hz7
      rw [ev] at g1
      wide_line using [g]
      refine ⟨rd, _, rfl, g1, ?_⟩
      have hl7 := s27 _ _ hl2
      wide_line using [hl7, g]
      have l1 := lb j
      have l2' := Nat.le_trans (li.len q) hi
      refine ⟨by rw [sizeLine_eq, List.length_map, List.length_map]; omega, fun p hp => hN _ _ ⟨_, p, rfl, s7.trans (same_new hp), ?_⟩⟩
      rw [upd_same, flat_take hq, List.map_append]
theorem scal_int {i : Int} : Scal (.int i) := .inl ⟨i, rfl⟩
theorem prOf_ne {i j n : Int} (hi : 0 ≤ i) (hi' : i < n) (hj : 0 ≤ j) (hj' : j < n) (h : i ≠ j) : prOf (.int i) (.int j) n = some (i, j) := by
  exact if_pos ⟨⟨hi, by omega⟩, ⟨hj, by omega⟩, h⟩
theorem prOf_eq {i n : Int} : prOf (.int i) (.int i) n = none := by
  exact if_neg fun h => h.2.2 rfl
theorem LI.up {A : Ads} {H : Hp} {dr f td rd : Addr} {n : Int} {M : Pr → List V} {L : Pr → List Int} {i : Nat} (h : LI A H dr f td rd n M L i) : LI A H dr f td rd n M L (i + 1) :=
  ⟨h.dw, h.nt, h.rw_, h.rel, fun q => Nat.le_succ_of_le (h.len q), h.tabs, h.ne⟩
/-- both rows of a pair are put anew -/
theorem LI.both {A : Ads} {H H1 H2 : Hp} {dr f td rd : Addr} {n : Int} {M : Pr → List V} {L : Pr → List Int} {i : Nat} {p : Pr} {m : List V} {l : List Int} (h : LI A H dr f td rd n M L i) (k1 : Keep [td] H H1) (n1 : NetAt A dr H1 f td n (upP M p m)) (s : Same H1 H2)
    (hp : (0 ≤ p.1 ∧ p.1 ≤ n - 1) ∧ 0 ≤ p.2 ∧ p.2 ≤ n - 1) {b : Addr} (hb : H2 b = some (.lst (l.map V.int))) (nb : b ≠ dr) (rel : Paired (MsgAt H2) m l) (len : l.length ≤ i + 1) (hi : i < 1000) :
    ∃ kvs, H2 rd = some (.dT kvs) ∧ kvs.length < sizeLine ∧ LI A (upd H2 rd (.dT (putK kvs (keyP p) (.ref b)))) dr f td rd n (upP M p m) (upP L p l) (i + 1) := by
  obtain ⟨tk, _, htd, _⟩ := h.nt.2
  have hnl : ∀ a ∈ [td], ∀ o, H a = some o → o = .dT tk := fun a m o e => by
    rw [List.mem_singleton.mp m, htd] at e
    exact (Option.some.inj e).symm
  have rw1 : DAt dr H1 rd n fun q => (L q).map V.int := h.rw_.keep k1 (by simpa using h.ne.symm) (fun a m => .inr fun xs e => nomatch hnl a m _ e) n1.2.av
  have rw2 := rw1.same s
  have dw1 : DrawsAt H1 dr := by
    obtain ⟨ms, hd⟩ := h.dw
    exact ⟨ms, k1 _ _ hd fun m => by rw [List.mem_singleton.mp m, htd] at hd; cases hd⟩
  have kt1 : KT H H1 := fun b o e => k1 _ _ e fun m => nomatch hnl b m _ e
  have tb1 : TabsOk A H1 := h.tabs.keep k1 fun a m ps e => nomatch hnl a m _ e
  have nt2 := n1.same s
  obtain ⟨kvs, ht, hz, d⟩ := rw2.put hp hb nb (by rw [List.length_map]; omega)
  refine ⟨kvs, ht, hz, ?_⟩
  have kt3 : KT H2 (upd H2 rd (.dT (putK kvs (keyP p) (.ref b)))) := KT.mut (by rw [ht]; rfl)
  have up : Keep [rd] H2 (upd H2 rd (.dT (putK kvs (keyP p) (.ref b)))) := keep_up (by simp)
  have hnr : ∀ a ∈ [rd], ∀ o, H2 a = some o → o = .dT kvs := fun a m o e => by
    rw [List.mem_singleton.mp m, ht] at e
    exact (Option.some.inj e).symm
  refine ⟨?_, ⟨?_, nt2.2.keep up (by simpa using h.ne) (fun a m => .inr fun xs e => nomatch hnr a m _ e) d.av⟩, ?_, fun q => ?_, fun q => ?_, (tb1.same s).keep up (fun a m ps e => (nomatch hnr a m _ e)), h.ne⟩
  · obtain ⟨ms, hd⟩ := dw1.same s
    exact ⟨ms, up _ _ hd fun m => nomatch hnr _ m _ hd⟩
  · obtain ⟨dx, hf⟩ := nt2.1
    exact ⟨dx, up _ _ hf fun m => nomatch hnr _ m _ hf⟩
  · have e : (fun q => (upP L p l q).map V.int) = upP (fun q => (L q).map V.int) p (l.map V.int) := by
      funext q
      unfold upP
      split <;> rfl
    rw [e]
    exact d
  · unfold upP
    split
    · exact Paired.mapP rel fun _ _ z => z.kt kt3
    · exact Paired.mapP (h.rel q) fun _ _ z => z.kt ((kt1.trans (.same s)).trans kt3)
  · unfold upP
    split
    · exact len
    · exact Nat.le_succ_of_le (h.len q)
theorem eqD_lnil {K : PySem.W.Frag} {H : Hp} {Q : VK} {l b : Addr} {xs : List Int} (hl : H l = some (.lst (xs.map V.int))) (len : xs.length ≤ 100000) (hb : H b = some (.lst [])) (q : Q (.bl (decide (xs = []))) H) : dEqD K (.ref l) (.ref b) H Q := by
  have h := da_lints (n := 0) hl len
  have h' := da_lints (n := 0) (ns := []) hb (Nat.zero_le _)
  refine ⟨_, _, h.dp, h'.dp, h.shaped (by decide), h'.shaped (by decide), ?_⟩
  cases xs with
  | nil => simpa [PyData.eqv, PyData.eqvAll] using q
  | cons x t => simpa [PyData.eqv, PyData.eqvAll] using q
theorem upP_self {α : Type} {M : Pr → List α} {p : Pr} : upP M p (M p) = M := by
  funext q
  unfold upP
  split
  · rename_i e; rw [e]
  · rfl
theorem law_turn {K : PySem.W.Frag} {A : Ads} {D0 : Ends} {H : Hp} {dr f td rd : Addr} {n : Int} {M : Pr → List V} {L : Pr → List Int} {i : Nat} {z0 z6 z7 z8 z9 z10 z11 z12 z13 z14 z15 z16 z17 z18 z19 z20 z21 z22 : Option V} (li : LI A H dr f td rd n M L i) (hi : i < 40) (n0 : 2 ≤ n)
    (fin : ∀ H' z6 z7 z8 z9 z10 z11 z12 M L, LI A H' dr f td rd n M L (i + 1) → D0.nx [z0, some (.ref dr), some (.int n), some (.ref f), some (.ref rd), some (.int i), z6, z7, z8, z9, z10, z11, z12, z13, z14, z15, z16, z17, z18, z19, z20, z21, z22] H') :
  (tSeq (dPar 6 7 (tCons (tCallS sp_law_take (fun _ => E0) (tCons (dVar 1) (tCons (dVar 2) tNil))) (tCons (tCallS sp_law_take (fun _ => E0) (tCons (dVar 1) (tCons (dVar 2) tNil))) tNil)))
  (tSeq (tIfS (dTest (tOp dEq (dVar 6) (dVar 7)))
  (tIfS (tOr (dTest (tOp dNe (tCallS (sp_law_told A) (fun _ => E0) (tCons (dVar 3) (tCons (tC (.int 0)) (tCons (dVar 6) (tCons (dVar 7) tNil))))) (tC (.str "none")))) (dTest (tOp dNe (tCallS (sp_law_told A) (fun _ => E0) (tCons (dVar 3) (tCons (tC (.int 1)) (tCons (dVar 6) (tCons (dVar 7) tNil))))) (tC (.str "none")))))
  (tRet (tC (.bl false)))
  tNext)
  (tIfS (dTest (tOp dEq (tCallS sp_law_take (fun _ => E0) (tCons (dVar 1) (tCons (tC (.int 2)) tNil))) (tC (.int 0))))
  (tSeq (tDrop (dMethE A.Net "put" (sp_Net_put A) (fun _ => E0) (dVar 3) (tCons (dVar 6) (tCons (dVar 7) (tCons (tTup (tCons (dVar 5) (tCons (tCallS sp_law_take (fun _ => E0) (tCons (dVar 1) (tCons (tC (.int 9)) tNil))) tNil))) tNil)))))
  (sDPut (dVar 4) (tTup (tCons (dVar 6) (tCons (dVar 7) tNil))) (tOp dAdd2 (tDGet2 (dVar 4) (tTup (tCons (dVar 6) (tCons (dVar 7) tNil))) (tLst tNil)) (tLst (tCons (dVar 5) tNil)))))
  (tSeq (tAsg (tDGet2 (dVar 4) (tTup (tCons (dVar 6) (tCons (dVar 7) tNil))) (tLst tNil)) (gName 8))
  (tSeq (tAsg (tCallS (sp_law_told A) (fun _ => E0) (tCons (dVar 3) (tCons (tC (.int 0)) (tCons (dVar 6) (tCons (dVar 7) tNil))))) (gName 9))
  (tSeq (tIfS (tOr (tAnd (dTest (tOp (dEqD K) (dVar 8) (tLst tNil))) (dTest (tOp dNe (dVar 9) (tC (.str "none"))))) (tAnd (dTest (tOp rNeNil (dVar 8) (tLst tNil))) (tOr (tNot (dTru (tCB dIsi (tCons (dVar 9) (tCons (tC (.ty "tuple")) tNil))))) (dTest (tOp dNe (tOp dIx (dVar 9) (tC (.int 0))) (tOp dIx (dVar 8) (tC (.int 0))))))))
  (tRet (tC (.bl false)))
  tNext)
  (sDPut (dVar 4) (tTup (tCons (dVar 6) (tCons (dVar 7) tNil))) (tSl dSl (dVar 8) (dPart (tC (.int 1))) tNoPart)))))))
  (tSeq (tAsg (tCB (rSortD K) (tCons (tLockE (tLc (iKeys (dVar 4)) (gName 11) (dTest (tOp rNeNil (tDGet (dVar 4) (dVar 11)) (tLst tNil))) (dVar 11) [11])) tNil)) (gName 10))
  (tSeq (tAsg (tLst tNil) (gName 12))
  (tSeq (dForL K (dVar 10) (gName 11)
  (tAsg (tOp dAdd2 (dVar 12) (tDGet (dVar 4) (dVar 11))) (gName 12)))
  (tIfS (tOr (tNot (dTru (tCallS (sp_law_alike K 3) (fun _ => E0) (tCons (dMethE A.Net "ready" (sp_Net_ready A) (fun _ => E0) (dVar 3) tNil) (tCons (tCB dTupleOf (tCons (dVar 10) tNil)) tNil))))) (tOr (dTest (tOp (dNeD K) (dLcL K (dMethE A.Net "messages" (sp_Net_messages A) (fun _ => E0) (dVar 3) tNil) (gName 21) tYes (tOp dIx (dVar 21) (tC (.int 0))) [21]) (dVar 12))) (tNot (dTru (tCallS (sp_law_alike K 3) (fun _ => E0) (tCons (dMethE A.Net "many" (sp_Net_many A) (fun _ => E0) (dVar 3) tNil) (tCons (tCB dLen (tCons (dVar 12) tNil)) tNil)))))))
  (tRet (tC (.bl false)))
  tNext)))))) D0 [z0, some (.ref dr), some (.int n), some (.ref f), some (.ref rd), some (.int i), z6, z7, z8, z9, z10, z11, z12, z13, z14, z15, z16, z17, z18, z19, z20, z21, z22] H := by
  refine seq1 ?_
  wide_line using [upd_same]
  refine take_on li.dw (by omega) fun a H1 a0 a1 k1 d1 => ?_
  have li1 := li.draw k1 d1
  refine take_on d1 (by omega) fun b H2 b0 b1 k2 d2 => ?_
  have li2 := li1.draw k2 d2
  clear li li1 k1 k2 d1 d2
  refine seq_to (fun σ H' => ∃ z8 z9 M L, σ = [z0, some (.ref dr), some (.int n), some (.ref f), some (.ref rd), some (.int i), some (.int a), some (.int b), z8, z9, z10, z11, z12, z13, z14, z15, z16, z17, z18, z19, z20, z21, z22] ∧ LI A H' dr f td rd n M L (i + 1)) (fun nx' hnx' => ?_) ?_
  · wide_line using [upd_same]
    refine ite2 (fun e => ?_) fun ne => ?_
    · subst e
      refine ⟨dr, f, td, n, M, false, _, _, rfl, li2.nt, scal_int, scal_int, fun _ H3 s3 => ?_, fun p hp => by rw [prOf_eq] at hp; cases hp⟩
      have li3 := li2.same s3
      wide_line using [upd_same]
      refine ⟨dr, f, td, n, M, true, _, _, rfl, li3.nt, scal_int, scal_int, fun _ H4 s4 => ?_, fun p hp => by rw [prOf_eq] at hp; cases hp⟩
      wide_line using [upd_same]
      exact hnx' _ _ ⟨_, _, M, L, rfl, (li3.same s4).up⟩
    · refine take_on li2.dw (by decide) fun c H3 c0 c1 k3 d3 => ?_
      have li3 := li2.draw k3 d3
      have hpr := prOf_ne a0 a1 b0 b1 ne
      have inn : (0 ≤ a ∧ a ≤ n - 1) ∧ 0 ≤ b ∧ b ≤ n - 1 := ⟨⟨a0, by omega⟩, b0, by omega⟩
      clear li2 k3 d3
      refine ite2 (fun ec => ?_) fun nc => ?_
      · obtain ⟨dx, hf3⟩ := li3.nt.1
        refine seq1 ?_
        wide_line using [hf3]
        refine take_on li3.dw (by decide) fun y H4 y0 y1 k4 d4 => ?_
        have li4 := li3.draw k4 d4
        refine ⟨by rw [sizeLine_eq]; decide, fun ma hma => ?_⟩
        have s5 := same_new (o := .tup [.int i, .int y]) hma
        have u5 : upd H4 ma (.tup [.int i, .int y]) ma = some (.tup [.int i, .int y]) := upd_same
        have li5 := li4.same s5
        generalize upd H4 ma (.tup [.int i, .int y]) = H5 at *
        have lM := paired_len (li5.rel (a, b))
        have lL := li5.len (a, b)
        refine ⟨dr, f, td, n, M, _, _, _, rfl, li5.nt, scal_int, scal_int, fun h => (by rw [hpr] at h; cases h), fun p hp => ?_⟩
        rw [hpr] at hp
        cases hp
        refine ⟨by omega, fun H6 k6 nt6 => ?_⟩
        obtain ⟨tk, _, htd, _⟩ := li5.nt.2
        have nmt : ma ≠ td := by rintro rfl; rw [u5] at htd; cases htd
        have u6 := k6 _ _ u5 (by simpa using nmt)
        have rw6 : DAt dr H6 rd n fun q => (L q).map V.int := li5.rw_.keep k6 (by simpa using li5.ne.symm) (fun a m => .inr fun xs e => by rw [List.mem_singleton.mp m, htd] at e; cases e) nt6.2.av
        refine ⟨rd, rfl, rw6.isD, by rw [sizeLine_eq]; decide, fun p1 hp1 => ⟨Nat.zero_le _, fun p2 hp2 => ?_⟩⟩
        have s7 := same_new (o := .tup [.int a, .int b]) hp1
        have s8 := same_new (o := .lst []) hp2
        have u1 := s8 _ _ (upd_same (H := H6) (a := p1) (o := .tup [.int a, .int b]))
        have u2 : upd (upd H6 p1 (.tup [.int a, .int b])) p2 (.lst []) p2 = some (.lst []) := upd_same
        have n2 : p2 ≠ dr := by rintro rfl; exact ne_none_same s7 rw6.av hp2
        have s78 := s7.trans s8
        generalize upd (upd H6 p1 (.tup [.int a, .int b])) p2 (.lst []) = H8 at *
        obtain ⟨o, l, g, e1, nl, hl⟩ := (rw6.same s78).get2 (p := (a, b)) u1 u2 n2
        refine ⟨o, g, ?_⟩
        rw [e1]
        refine ⟨by rw [sizeLine_eq]; decide, fun p9 hp9 => ?_⟩
        have s9 := same_new (o := .lst [.int i]) hp9
        have u9 : upd H8 p9 (.lst [.int i]) p9 = some (.lst [.int i]) := upd_same
        have hl9 := s9 _ _ hl
        have s79 := s78.trans s9
        generalize upd H8 p9 (.lst [.int i]) = H9 at *
        wide_line using [hl9, u9]
        refine ⟨by rw [sizeLine_eq, List.length_map]; omega, fun p10 hp10 => ⟨by rw [sizeLine_eq]; decide, fun p11 hp11 => ?_⟩⟩
        rw [map_snoc] at hp11 ⊢
        have s10 := same_new (o := .lst ((L (a, b) ++ [(i : Int)]).map V.int)) hp10
        have u10 : upd H9 p10 (.lst ((L (a, b) ++ [(i : Int)]).map V.int)) p10 = some (.lst ((L (a, b) ++ [(i : Int)]).map V.int)) := upd_same
        have s710 := s79.trans s10
        have n10 : p10 ≠ dr := by rintro rfl; exact ne_none_same s79 rw6.av hp10
        generalize upd H9 p10 (.lst ((L (a, b) ++ [(i : Int)]).map V.int)) = H10 at *
        have s11 := same_new (o := .tup [.int a, .int b]) hp11
        have u11 : upd H10 p11 (.tup [.int a, .int b]) p11 = some (.tup ((keyP (a, b)).map kV)) := upd_same
        have u10' := s11 _ _ u10
        have s711 := s710.trans s11
        generalize upd H10 p11 (.tup [.int a, .int b]) = H11 at *
        have u6' := s711 _ _ u6
        obtain ⟨kvs, ht, hz, li'⟩ := li5.both (p := (a, b)) k6 nt6 s711 inn u10' n10 (by
          refine paired_snoc (Paired.mapP (li5.rel (a, b)) fun _ _ z => z.kt ?_) ⟨ma, y, rfl, u6'⟩
          exact KT.trans (fun b' o e => k6 _ _ e (by simp only [List.mem_singleton]; rintro rfl; rw [htd] at e; cases e)) (.same s711)) (by rw [List.length_append, List.length_singleton]; omega) (by omega)
        exact ⟨rd, _, rfl, DPut.t ht u11 hz, hnx' _ _ ⟨_, _, _, _, rfl, li'⟩⟩
      · refine seq1 ?_
        wide_line using [upd_same]
        refine ⟨rd, rfl, li3.rw_.isD, by rw [sizeLine_eq]; decide, fun p1 hp1 => ⟨Nat.zero_le _, fun p2 hp2 => ?_⟩⟩
        have s7 := same_new (o := .tup [.int a, .int b]) hp1
        have s8 := same_new (o := .lst []) hp2
        have u1 := s8 _ _ (upd_same (H := H3) (a := p1) (o := .tup [.int a, .int b]))
        have u2 : upd (upd H3 p1 (.tup [.int a, .int b])) p2 (.lst []) p2 = some (.lst []) := upd_same
        have n2 : p2 ≠ dr := by rintro rfl; exact ne_none_same s7 li3.rw_.av hp2
        have s78 := s7.trans s8
        have li8 := li3.same s78
        generalize upd (upd H3 p1 (.tup [.int a, .int b])) p2 (.lst []) = H8 at *
        obtain ⟨o, l, g, e1, nl, hl⟩ := li8.rw_.get2 (p := (a, b)) u1 u2 n2
        refine ⟨o, g, ?_⟩
        rw [e1]
        refine seq1 ?_
        wide_line using [upd_same]
        have rel := li8.rel (a, b)
        have lL := li8.len (a, b)
        refine ⟨dr, f, td, n, M, false, _, _, rfl, li8.nt, scal_int, scal_int, fun h => (by rw [hpr] at h; cases h), fun p hp => ?_⟩
        rw [hpr] at hp
        cases hp
        refine ⟨rfl, fun hM H9 s9 => ?_, fun v t hM H9 k9 nt9 => ?_⟩
        · have hL : L (a, b) = [] := (li8.nil (a, b)).mp hM
          have li9 := li8.same s9
          have hl9 := s9 _ _ hl
          rw [hL] at hl9
          dsimp only
          refine seq1 ?_
          wide_line using [hl9]
          refine ⟨Nat.zero_le _, fun pe hpe => ?_⟩
          have s10 := same_new (o := .lst []) hpe
          have u10 : upd H9 pe (.lst []) pe = some (.lst []) := upd_same
          have hl10 := s10 _ _ hl9
          have li10 := li9.same s10
          generalize upd H9 pe (.lst []) = H10 at *
          refine eqD_lnil (xs := []) hl10 (Nat.zero_le _) u10 ?_
          wide_line using [upd_same]
          refine ⟨Nat.zero_le _, fun pf hpf => ?_⟩
          have s11 := same_new (o := .lst []) hpf
          have u11 : upd H10 pf (.lst []) pf = some (.lst []) := upd_same
          have hl11 := s11 _ _ hl10
          have li11 := li10.same s11
          generalize upd H10 pf (.lst []) = H11 at *
          refine ⟨l, pf, _, rfl, rfl, hl11, u11, ?_⟩
          wide_line using [hl11]
          intro pg hpg
          refine ⟨by rw [sizeLine_eq]; decide, fun ph hph => ?_⟩
          rw [show cutV ([] : List V) (some 1) none = [] from cutV_from (k := 1)] at hph ⊢
          have s12 := same_new (o := .lst []) hpg
          have u12 : upd H11 pg (.lst []) pg = some (.lst (([] : List Int).map V.int)) := upd_same
          have n12 : pg ≠ dr := by rintro rfl; exact li11.rw_.av hpg
          have li12 := li11.same s12
          generalize upd H11 pg (.lst []) = H12 at *
          have s13 := same_new (o := .tup [.int a, .int b]) hph
          have u13 : upd H12 ph (.tup [.int a, .int b]) ph = some (.tup ((keyP (a, b)).map kV)) := upd_same
          have u12' := s13 _ _ u12
          have li13 := li12.same s13
          generalize upd H12 ph (.tup [.int a, .int b]) = H13 at *
          have eM : upP M (a, b) [] = M := by rw [← hM]; exact upP_self
          obtain ⟨kvs, ht, hz, li'⟩ := li13.both (p := (a, b)) (m := []) Keep.refl (by rw [eM]; exact li13.nt) (Same.refl _) inn u12' n12 .nil (Nat.zero_le _) (by omega)
          exact ⟨rd, _, rfl, DPut.t ht u13 hz, hnx' _ _ ⟨_, _, _, _, rfl, li'⟩⟩
        · obtain ⟨s, sl, hL⟩ : ∃ s sl, L (a, b) = s :: sl := by
            cases h : L (a, b) with
            | nil => rw [(li8.nil (a, b)).mpr h] at hM; cases hM
            | cons s sl => exact ⟨s, sl, rfl⟩
          rw [hM, hL] at rel
          obtain ⟨tk, _, htd, _⟩ := li8.nt.2
          have kt9 : KT H8 H9 := fun b' o e => k9 _ _ e (by simp only [List.mem_singleton]; rintro rfl; rw [htd] at e; cases e)
          have hl9 := k9 _ _ hl (by simp only [List.mem_singleton]; rintro rfl; rw [htd] at hl; cases hl)
          rw [hL] at hl9 lL
          cases rel with | cons r0 r1 =>
          obtain ⟨ta, tx, rfl, hta⟩ := r0.kt kt9
          have r1' := Paired.mapP r1 fun _ _ z => z.kt kt9
          refine seq1 ?_
          wide_line using [hl9]
          refine ⟨Nat.zero_le _, fun pe hpe => ?_⟩
          have s10 := same_new (o := .lst []) hpe
          have u10 : upd H9 pe (.lst []) pe = some (.lst []) := upd_same
          have hl10 := s10 _ _ hl9
          have hta10 := s10 _ _ hta
          generalize upd H9 pe (.lst []) = H10 at *
          refine eqD_lnil (xs := s :: sl) hl10 (by omega) u10 ?_
          wide_line using [upd_same]
          refine ⟨Nat.zero_le _, fun pf hpf => ?_⟩
          have s11 := same_new (o := .lst []) hpf
          have u11 : upd H10 pf (.lst []) pf = some (.lst []) := upd_same
          have hl11 := s11 _ _ hl10
          have hta11 := s11 _ _ hta10
          have s911 := s10.trans s11
          generalize upd H10 pf (.lst []) = H11 at *
          refine ⟨l, pf, _, rfl, rfl, hl11, u11, ?_⟩
          wide_line using [hl11, hta11]
          intro pg hpg
          refine ⟨by rw [sizeLine_eq]; decide, fun ph hph => ?_⟩
          rw [show cutV (V.int s :: sl.map V.int) (some 1) none = sl.map V.int from cut_tail] at hph ⊢
          have s12 := same_new (o := .lst (sl.map V.int)) hpg
          have u12 : upd H11 pg (.lst (sl.map V.int)) pg = some (.lst (sl.map V.int)) := upd_same
          have s912 := s911.trans s12
          have n12 : pg ≠ dr := by rintro rfl; exact ne_none_same s911 nt9.2.av hpg
          generalize upd H11 pg (.lst (sl.map V.int)) = H12 at *
          have s13 := same_new (o := .tup [.int a, .int b]) hph
          have u13 : upd H12 ph (.tup [.int a, .int b]) ph = some (.tup ((keyP (a, b)).map kV)) := upd_same
          have u12' := s13 _ _ u12
          have s913 := s912.trans s13
          generalize upd H12 ph (.tup [.int a, .int b]) = H13 at *
          rw [List.length_cons] at lL
          obtain ⟨kvs, ht, hz, li'⟩ := li8.both (p := (a, b)) k9 nt9 s913 inn u12' n12 (Paired.mapP r1' fun _ _ z => z.kt (.same s913)) (by omega) (by omega)
          exact ⟨rd, _, rfl, DPut.t ht u13 hz, hnx' _ _ ⟨_, _, _, _, rfl, li'⟩⟩
  · rintro σ H' ⟨z8, z9, M, L, rfl, li'⟩
    exact law_look li' (by omega) fun H'' z10 z11 z12 li'' => fin _ _ _ _ _ _ _ _ _ _ li''
theorem upd2_same {H : Hp} : Same H H := Same.refl _
theorem numB_out {x : V} {lo hi : Int} (h : ∀ i, x = .int i → i < lo ∨ hi < i) : numB x lo hi = false := by
  cases c : numB x lo hi with
  | false => rfl
  | true =>
    obtain ⟨i, rfl, h1, h2⟩ := numB_true c
    rcases h i rfl with h | h <;> omega
theorem told_bad {A : Ads} {H : Hp} {dr f td : Addr} {n : Int} {M : Pr → List V} {w : Nat} {x y : V} {Q : VK} {E : XK} (hw : w < 2) (nt : NetAt A dr H f td n M) (sx : Scal x) (sy : Scal y) (h : numB x 0 (n - 1) = false ∨ numB y 0 (n - 1) = false) (q : ∀ H', Same H H' → Q (.str "none") H') : sp_law_told A [.ref f, .int (0 + (w : Nat)), x, y] H Q E := by
  have hp := prOf_none h
  have e : (0 + (w : Int)) = if decide (w = 1) = true then 1 else 0 := by
    rcases (show w = 0 ∨ w = 1 by omega) with rfl | rfl <;> rfl
  refine ⟨dr, f, td, n, M, decide (w = 1), x, y, by rw [e], nt, sx, sy, fun _ => q, fun p h => by rw [hp] at h; cases h⟩
theorem paired_const {v : V} {α : Type} {l : List α} {ys : List V} (h : Paired (fun _ y => y = v) l ys) : ys = List.replicate l.length v := by
  induction h with
  | nil => rfl
  | cons h t ih => rw [h, ih, List.length_cons, List.replicate_succ]
theorem law_bad {K : PySem.W.Frag} {A : Ads} {D0 : Ends} {H : Hp} {dr f td : Addr} {n : Int} {M : Pr → List V} {z0 z1 z2 z4 z5 z6 z7 z8 z9 z10 z11 z12 z13 z14 z15 z16 z17 z18 z19 z20 z21 z22 : Option V} (nt : NetAt A dr H f td n M) (n0 : 2 ≤ n) (hz2 : z2 = some (.int n))
    (fin : ∀ H' z13, Same H H' → D0.nx [z0, z1, z2, some (.ref f), z4, z5, z6, z7, z8, z9, z10, z11, z12, z13, z14, z15, z16, z17, z18, z19, z20, z21, z22] H') :
  (dForL K (tLst (tCons (tUn dNeg (tC (.int 1))) (tCons (dVar 2) (tCons (tC .non) (tCons (tC (.bl true)) (tCons (tC (.str "0")) tNil)))))) (gName 13)
  (tIfS (dTest (tOp (dNeD K) (tOp dAdd2 (dLcR1 (tCons (tC (.int 2)) tNil) (gName 22) tYes (tCallS (sp_law_told A) (fun _ => E0) (tCons (dVar 3) (tCons (dVar 22) (tCons (dVar 13) (tCons (tC (.int 0)) tNil))))) [22]) (dLcR1 (tCons (tC (.int 2)) tNil) (gName 22) tYes (tCallS (sp_law_told A) (fun _ => E0) (tCons (dVar 3) (tCons (dVar 22) (tCons (tC (.int 0)) (tCons (dVar 13) tNil))))) [22])) (tOp dMul (tLst (tCons (tC (.str "none")) tNil)) (tC (.int 4)))))
  (tRet (tC (.bl false)))
  tNext)) D0 [z0, z1, z2, some (.ref f), z4, z5, z6, z7, z8, z9, z10, z11, z12, z13, z14, z15, z16, z17, z18, z19, z20, z21, z22] H := by
  subst hz2
  wide_line using [upd_same]
  refine ⟨by rw [sizeLine_eq]; decide, fun ba hba => ?_⟩
  have s1 := same_new (o := .lst [V.int (-1), .int n, .non, .bl true, .str "0"]) hba
  have u1 : upd H ba (.lst [V.int (-1), .int n, .non, .bl true, .str "0"]) ba = some (.lst [V.int (-1), .int n, .non, .bl true, .str "0"]) := upd_same
  have nt1 := nt.same s1
  generalize upd H ba (.lst [V.int (-1), .int n, .non, .bl true, .str "0"]) = H1 at *
  have bad : ∀ v ∈ [V.int (-1), .int n, .non, .bl true, .str "0"], Scal v ∧ numB v 0 (n - 1) = false := by
    intro v hv
    simp only [List.mem_cons, List.not_mem_nil, or_false] at hv
    rcases hv with rfl | rfl | rfl | rfl | rfl
    · exact ⟨scal_int, numB_out fun i e => by cases e; omega⟩
    · exact ⟨scal_int, numB_out fun i e => by cases e; omega⟩
    · exact ⟨.inr (.inr (.inl rfl)), rfl⟩
    · exact ⟨.inr (.inl ⟨_, rfl⟩), rfl⟩
    · exact ⟨.inr (.inr (.inr ⟨_, rfl⟩)), rfl⟩
  refine forL_to (.of u1) (fun i σ H' => ∃ z13, σ = [z0, z1, some (.int n), some (.ref f), z4, z5, z6, z7, z8, z9, z10, z11, z12, z13, z14, z15, z16, z17, z18, z19, z20, z21, z22] ∧ Same H1 H') (fun σ H' => ∃ z13, σ = [z0, z1, some (.int n), some (.ref f), z4, z5, z6, z7, z8, z9, z10, z11, z12, z13, z14, z15, z16, z17, z18, z19, z20, z21, z22] ∧ Same H1 H') ⟨_, rfl, Same.refl _⟩ ?_ (fun _ _ h => h) ?_ ?_
  · rintro i σ H' _ ⟨_, _, s⟩
    exact .of (s _ _ u1)
  · rintro σ H' ⟨z13, rfl, s⟩
    exact fin _ _ (s1.trans s)
  · rintro N nx _ i x σ H2 hx hN ⟨z13, rfl, s2⟩
    obtain ⟨sx, bx⟩ := bad x (List.mem_of_getElem? hx)
    have nt2 := nt1.same s2
    wide_line using [upd_same]
    refine ⟨by decide, ?_⟩
    refine lcR_core (by decide) (fun _ => true) (fun _ y _ => y = .str "none") (fun _ _ _ _ _ z => z) (fun w hw H3 s3 k1 k0 h1 _ => ?_) fun c1 H3 ys hc1 s3 hc1s p1 => ?_
    · unfold LcTurn
      wide_line using [upd_same]
      refine told_bad hw (nt2.same s3) sx scal_int (.inl bx) fun H4 s4 => h1 rfl _ _ s4 rfl
    · rw [List.filter_eq_self.mpr (fun _ _ => rfl)] at p1
      have e1 : ys = [.str "none", .str "none"] := paired_const p1
      refine ⟨by decide, ?_⟩
      refine lcR_core (by decide) (fun _ => true) (fun _ y _ => y = .str "none") (fun _ _ _ _ _ z => z) (fun w hw H4 s4 k1 k0 h1 _ => ?_) fun c2 H4 zs hc2 s4 hc2s p2 => ?_
      · unfold LcTurn
        wide_line using [upd_same]
        refine told_bad hw ((nt2.same s3).same s4) scal_int sx (.inr bx) fun H5 s5 => h1 rfl _ _ s5 rfl
      · rw [List.filter_eq_self.mpr (fun _ _ => rfl)] at p2
        have e2 : zs = [.str "none", .str "none"] := paired_const p2
        have hc1s4 := s4 _ _ hc1s
        subst e1 e2
        wide_line using [hc1s4, hc2s]
        refine ⟨by rw [sizeLine_eq]; decide, fun p1 hp1 => ⟨by rw [sizeLine_eq]; decide, fun p2 hp2 => ⟨by decide, by decide, by rw [sizeLine_eq]; decide, fun p3 hp3 => ?_⟩⟩⟩
        have t1 := same_new (o := .lst [V.str "none", .str "none", .str "none", .str "none"]) hp1
        have t2 := same_new (o := .lst [V.str "none"]) hp2
        have t3 := same_new (o := .lst (List.replicate (Int.toNat 4) [V.str "none"]).flatten) hp3
        have w1 := (t2.trans t3) _ _ (upd_same (H := H4) (a := p1) (o := .lst [V.str "none", .str "none", .str "none", .str "none"]))
        have w3 := upd_same (H := upd (upd H4 p1 (.lst [V.str "none", .str "none", .str "none", .str "none"])) p2 (.lst [V.str "none"])) (a := p3) (o := .lst (List.replicate (Int.toNat 4) [V.str "none"]).flatten)
        refine neD_same (n := 1) (da_strs (l := ["none", "none", "none", "none"]) w1 (by decide) (by decide +kernel)) (da_strs (l := ["none", "none", "none", "none"]) w3 (by decide) (by decide +kernel)) (by decide) ?_
        wide_line using [upd_same]
        exact hN _ _ ⟨_, rfl, (((s2.trans s3).trans s4).trans t1).trans (t2.trans t3)⟩
/-- the law's end: maps, schedules; first options and what is chosen -/
theorem law_chosen {K : PySem.W.Frag} {A : Ads} {D0 : Ends} {H : Hp} {oa ra : Addr} {os : List V} {od : List PyData} {ns : List Int} {z0 z1 z2 z3 z4 z5 z6 z7 z9 z10 z11 z12 z13 z15 z16 z17 z18 z19 z20 z21 z22 : Option V}
    (ho : H oa = some (.lst os)) (po : Paired (Tz H 1) os od) (o0 : 0 < os.length) (hr : H ra = some (.tup (ns.map V.int))) (r0 : 0 < ns.length) (rn : ∀ x ∈ ns, 0 ≤ x)
    (fin : ∀ H' z5, Same H H' → D0.nx [z0, z1, z2, z3, z4, z5, z6, z7, some (.ref ra), z9, z10, z11, z12, z13, some (.ref oa), z15, z16, z17, z18, z19, z20, z21, z22] H') :
  (dForR1 (tCons (tC (.int 12)) tNil) (gName 5)
  (tIfS (dTest (tOp (dNeD K) (tCallS sp_chosen (fun _ => E0) (tCons (dVar 8) (tCons (dVar 5) (tCons (dVar 14) tNil)))) (tOp dIx (dVar 14) (tOp dMod (tCB dInt (tCons (tOp dIx (dVar 8) (tOp dMod (tCB dInt (tCons (dVar 5) tNil)) (tCB dLen (tCons (dVar 8) tNil)))) tNil)) (tCB dLen (tCons (dVar 14) tNil))))))
  (tRet (tC (.bl false)))
  tNext)) D0 [z0, z1, z2, z3, z4, z5, z6, z7, some (.ref ra), z9, z10, z11, z12, z13, some (.ref oa), z15, z16, z17, z18, z19, z20, z21, z22] H := by
  wide_line using [upd_same]
  refine ⟨by decide, ?_⟩
  refine forR_to (fun i σ H' => ∃ z5, σ = [z0, z1, z2, z3, z4, z5, z6, z7, some (.ref ra), z9, z10, z11, z12, z13, some (.ref oa), z15, z16, z17, z18, z19, z20, z21, z22] ∧ Same H H') (fun σ H' => ∃ z5, σ = [z0, z1, z2, z3, z4, z5, z6, z7, some (.ref ra), z9, z10, z11, z12, z13, some (.ref oa), z15, z16, z17, z18, z19, z20, z21, z22] ∧ Same H H') ⟨_, rfl, Same.refl _⟩ (fun _ _ h => h) ?_ ?_
  · rintro σ H' ⟨z5, rfl, s⟩
    exact fin _ _ s
  · rintro N nx _ i σ H' hi hN ⟨z5, rfl, s⟩
    have ho' := s _ _ ho
    have hr' := s _ _ hr
    have i1 : (0 + (i : Int)) % (ns.length : Int) < ns.length := Int.emod_lt_of_pos _ (by omega)
    have i0 : 0 ≤ (0 + (i : Int)) % (ns.length : Int) := Int.emod_nonneg _ (by omega)
    have hx : ns[((0 + (i : Int)) % (ns.length : Int)).toNat]? = some ns[((0 + (i : Int)) % (ns.length : Int)).toNat] := List.getElem?_eq_getElem (by omega)
    have x0 := rn _ (List.mem_of_getElem? hx)
    generalize ns[((0 + (i : Int)) % (ns.length : Int)).toNat] = x at *
    have j1 : x % (os.length : Int) < os.length := Int.emod_lt_of_pos _ (by omega)
    have j0 : 0 ≤ x % (os.length : Int) := Int.emod_nonneg _ (by omega)
    have hv : os[(x % (os.length : Int)).toNat]? = some os[(x % (os.length : Int)).toNat] := List.getElem?_eq_getElem (by omega)
    generalize os[(x % (os.length : Int)).toNat] = v at *
    obtain ⟨d, hd, tz⟩ := pairedGet po hv
    wide_line using [ho', hr']
    refine ⟨ra, 0 + (i : Int), oa, ns, os, x, v, rfl, hr', ho', by omega, hx, x0, hv, ?_⟩
    wide_line using [ho', hr', List.length_map]
    refine ⟨by omega, atK_n ((0 + (i : Int)) % (ns.length : Int)).toNat (by omega) (by rw [List.getElem?_map, hx]; rfl) ?_⟩
    dsimp only
    refine ⟨by omega, atK_n (x % (os.length : Int)).toNat (by omega) hv ?_⟩
    refine neD_same (n := 1) (tz.kt (.same s)).da (tz.kt (.same s)).da (by decide) ?_
    wide_line using [upd_same]
    exact hN _ _ ⟨_, rfl, s⟩
/-- all but tables stand -/
def TSm (A : Ads) (H H' : Hp) : Prop := (∀ b o, H b = some o → (∀ ps, o ≠ .tbl ps) → H' b = some o) ∧ TabsOk A H'
theorem TSm.trans {A : Ads} {H H1 H2 : Hp} (a : TSm A H H1) (b : TSm A H1 H2) : TSm A H H2 := ⟨fun x o h n => b.1 x o (a.1 x o h n) n, b.2⟩
theorem TSm.same {A : Ads} {H H' : Hp} (t : TabsOk A H) (s : Same H H') : TSm A H H' := ⟨fun b o h _ => s b o h, t.same s⟩
theorem TSm.tbd {A : Ads} {P : Addr} {H H' : Hp} (t : TabsOk A H) (tb : GxR.TabG H P) (h : Tbd P H H') : TSm A H H' := by
  obtain ⟨ps, eP, _⟩ := tb
  refine ⟨fun b o e n => h.2 b o e fun m => ?_, fun p m => ?_⟩
  · rw [List.mem_singleton.mp m, eP] at e
    cases e
    exact n _ rfl
  · by_cases c : p.2 = P
    · rw [c]; exact h.1
    · obtain ⟨qs, e, x⟩ := t p m
      exact ⟨qs, h.2 _ _ e (by simpa using c), x⟩
theorem TSm.tup {A : Ads} {H H' : Hp} (t : TSm A H H') {b : Addr} {xs : List V} (h : H b = some (.tup xs)) : H' b = some (.tup xs) := t.1 _ _ h fun _ => nofun
theorem TSm.lst {A : Ads} {H H' : Hp} (t : TSm A H H') {b : Addr} {xs : List V} (h : H b = some (.lst xs)) : H' b = some (.lst xs) := t.1 _ _ h fun _ => nofun
theorem TupOr.ts {A : Ads} {H H' : Hp} (t : TSm A H H') {v : V} {xs : Option (List V)} (h : TupOr H v xs) : TupOr H' v xs := by
  cases xs with
  | some xs =>
    obtain ⟨⟨a, e, ha⟩, sc⟩ := h
    exact ⟨⟨a, e, t.tup ha⟩, sc⟩
  | none =>
    rcases h with h | ⟨a, xs, e, ha⟩
    · exact .inl h
    · exact .inr ⟨a, xs, e, t.lst ha⟩
/-- nothing is gathered, while tables grow -/
theorem lcL_none {K : PySem.W.Frag} {A : Ads} {a : Addr} {xs : List V} {g : TG} {tt : TT} {te : TE} {vs : List Nat} {σ : L2.St} {H1 : Hp} {Q : VK} (hq : H1 a = some (.lst xs)) (tb : TabsOk A H1)
    (turn : ∀ x ∈ xs, ∀ H, TSm A H1 H → ∀ (k1 : VK) (k0 : Hp → Prop), (∀ H', TSm A H H' → k0 H') → LcTurn g tt te vs σ x H k1 k0)
    (hd : ∀ D H, TSm A H1 H → H D = some (.lst []) → Q (.ref D) H) : LcL K a g tt te vs σ H1 Q := by
  refine ⟨⟨_, .of hq⟩, fun D hD => lc_list (K := K) (a := a) (xs := xs) (fun i H => TSm A H1 H ∧ H D = some (.lst [])) ⟨TSm.same tb (same_new hD), upd_same⟩ (fun i H _ p => .of (p.1.lst hq)) ?_ ?_⟩
  · rintro i x H hx ⟨s, hDs⟩
    exact turn x (List.mem_of_getElem? hx) H s _ _ fun H' t => ⟨s.trans t, t.lst hDs⟩
  · rintro H ⟨s, hDs⟩
    exact hd D H s hDs
theorem whole_no {xs : List V} (h : 0 < xs.length) : ¬ wholeV xs (some 1) none := fun ⟨e, _⟩ => by
  have : HT.sIx xs.length 0 (some 1) = 1 := by
    simp [HT.sIx]
    omega
  omega
theorem cons_at {te : TE} {ta : TA} {σ : L2.St} {H : Hp} {R : List V → Hp → Prop} (h : te σ H fun x H1 => ta σ H1 fun xs H2 => R (x :: xs) H2) : tCons te ta σ H R := h
/-- t[1:] -/
theorem el_tail {i : Nat} {σ : L2.St} {H : Hp} {Q : VK} {ga : Addr} {x : V} {xs : List V} (hi : σ[i]? = some (some (.ref ga))) (hg : H ga = some (.tup (x :: xs))) (q : ∀ p H', Same H H' → H' p = some (.tup xs) → Q (.ref p) H') : tSl dSl (dVar i) (dPart (tC (.int 1))) tNoPart σ H Q := by
  wide_line using [hi, hg]
  refine ⟨fun w => absurd w (whole_no (by simp)), fun _ p hp => ?_⟩
  rw [cut_tail]
  exact q p _ (same_new hp) upd_same
/-- (v,) + t[1:] -/
theorem el_pre {i : Nat} {σ : L2.St} {H : Hp} {Q : VK} {ga : Addr} {x v : V} {xs : List V} {te : TE} (ht : ∀ Q : VK, Q v H → te σ H Q) (hi : σ[i]? = some (some (.ref ga))) (hg : H ga = some (.tup (x :: xs))) (xl : xs.length ≤ 1000) (q : ∀ p H', Same H H' → H' p = some (.tup (v :: xs)) → Q (.ref p) H') : tOp dAdd2 (tTup (tCons te tNil)) (tSl dSl (dVar i) (dPart (tC (.int 1))) tNoPart) σ H Q := by
  unfold tOp tTup
  refine cons_at (ht _ ?_)
  dsimp only [tNil]
  refine ⟨by rw [sizeLine_eq]; show 1 ≤ _; decide, fun p hp => ?_⟩
  have s1 := same_new (o := .tup [v]) hp
  have u1 : upd H p (.tup [v]) p = some (.tup [v]) := upd_same
  have hg1 := s1 _ _ hg
  generalize upd H p (.tup [v]) = H1 at *
  refine el_tail hi hg1 fun p2 H2 s2 h2 => ?_
  have u2 := s2 _ _ u1
  wide_line using [u2, h2]
  refine ⟨by rw [sizeLine_eq]; omega, ?_⟩
  have s12 := s1.trans s2
  refine ⟨fun h => h.elim, fun _ e => ?_, fun _ _ p3 hp3 => q p3 _ (s12.trans (same_new hp3)) upd_same⟩
  subst e
  exact q p _ s12 u2
theorem el_list {i : Nat} {σ : L2.St} {H : Hp} {Q : VK} {ga : Addr} {xs : List V} (hi : σ[i]? = some (some (.ref ga))) (hg : H ga = some (.tup xs)) (q : ∀ p H', Same H H' → H' p = some (.lst xs) → Q (.ref p) H') : tCB dListOf (tCons (dVar i) tNil) σ H Q := by
  wide_line using [hi, hg]
  intro p hp
  exact q p _ (same_new hp) upd_same
theorem el_post {i : Nat} {σ : L2.St} {H : Hp} {Q : VK} {ga : Addr} {v : V} {xs : List V} (hi : σ[i]? = some (some (.ref ga))) (hg : H ga = some (.tup xs)) (xl : xs.length ≤ 1000) (x0 : xs ≠ []) (q : ∀ p H', Same H H' → H' p = some (.tup (xs ++ [v])) → Q (.ref p) H') : tOp dAdd2 (dVar i) (tTup (tCons (tC v) tNil)) σ H Q := by
  wide_line using [hi]
  refine ⟨by rw [sizeLine_eq]; decide, fun p hp => ?_⟩
  have s1 := same_new (o := .tup [v]) hp
  have u1 : upd H p (.tup [v]) p = some (.tup [v]) := upd_same
  have hg1 := s1 _ _ hg
  generalize upd H p (.tup [v]) = H1 at *
  wide_line using [u1, hg1]
  refine ⟨by rw [sizeLine_eq]; omega, fun e => absurd e x0, fun _ h => (by cases h), fun _ _ p3 hp3 => q p3 _ (s1.trans (same_new hp3)) upd_same⟩
theorem mapB_len {m : Nat} {n : Int} {xs : List V} (h : xs.length ≠ m) : mapB m n (some xs) = false := by simp [mapB, h]
theorem mapB_bad {m : Nat} {n : Int} {v : V} {xs : List V} (h : numB v 0 (n - 1) = false) : mapB m n (some (v :: xs)) = false := by simp [mapB, h]
theorem law_odd {K : PySem.W.Frag} {A : Ads} {D0 : Ends} {H : Hp} {ga ra ma : Addr} {n : Int} {mx : List V} {g : Int} {gs : List Int} {z0 z1 z3 z4 z5 z6 z7 z9 z10 z11 z12 z13 z14 z17 z18 z19 z20 z21 z22 : Option V}
    (tb : TabsOk A H) (hg : H ga = some (.tup (V.int g :: gs.map V.int))) (lg : gs.length + 1 = mx.length) (gl : gs.length ≤ 5)
    (fin : ∀ H' od os, TSm A H H' → H' od = some (.lst os) → (∀ v ∈ os, ∃ xs, TupOr H' v xs ∧ mapB mx.length n xs = false) → D0.nx [z0, z1, some (.int n), z3, z4, z5, z6, z7, some (.ref ra), z9, z10, z11, z12, z13, z14, some (.ref ma), some (.ref ga), some (.ref od), z18, z19, z20, z21, z22] H') :
  (tAsg (tLst (tCons (tC .non) (tCons (tCB dListOf (tCons (dVar 16) tNil)) (tCons (tSl dSl (dVar 16) (dPart (tC (.int 1))) tNoPart) (tCons (tOp dAdd2 (dVar 16) (tTup (tCons (tC (.int 0)) tNil))) (tCons (tOp dAdd2 (tTup (tCons (dVar 2) tNil)) (tSl dSl (dVar 16) (dPart (tC (.int 1))) tNoPart)) (tCons (tOp dAdd2 (tTup (tCons (tUn dNeg (tC (.int 1))) tNil)) (tSl dSl (dVar 16) (dPart (tC (.int 1))) tNoPart)) (tCons (tOp dAdd2 (tTup (tCons (tC .non) tNil)) (tSl dSl (dVar 16) (dPart (tC (.int 1))) tNoPart)) (tCons (tOp dAdd2 (tTup (tCons (tC (.bl false)) tNil)) (tSl dSl (dVar 16) (dPart (tC (.int 1))) tNoPart)) (tCons (tC (.int 5)) tNil)))))))))) (gName 17)) D0 [z0, z1, some (.int n), z3, z4, z5, z6, z7, some (.ref ra), z9, z10, z11, z12, z13, z14, some (.ref ma), some (.ref ga), z17, z18, z19, z20, z21, z22] H := by
  have sg : ∀ x ∈ V.int g :: gs.map V.int, Scal x := fun x hx => by
    rcases List.mem_cons.mp hx with rfl | hx
    · exact scal_int
    · obtain ⟨y, _, rfl⟩ := List.mem_map.mp hx
      exact scal_int
  have st : ∀ x ∈ gs.map V.int, Scal x := fun x hx => sg x (List.mem_cons_of_mem _ hx)
  have sv : ∀ {v : V}, Scal v → ∀ x ∈ v :: gs.map V.int, Scal x := fun h x hx => by
    rcases List.mem_cons.mp hx with rfl | hx
    · exact h
    · exact st x hx
  have ll : (gs.map V.int).length ≤ 1000 := by rw [List.length_map]; omega
  unfold tAsg tLst
  refine cons_at ?_
  dsimp only [tC]
  refine cons_at ?_
  refine el_list rfl hg fun p1 H1 s1 u1 => cons_at ?_
  have g1 := s1 _ _ hg
  refine el_tail rfl g1 fun p2 H2 s2 u2 => cons_at ?_
  have g2 := s2 _ _ g1
  refine el_post rfl g2 (by rw [List.length_cons, List.length_map]; omega) (by simp) fun p3 H3 s3 u3 => cons_at ?_
  have g3 := s3 _ _ g2
  refine el_pre (v := .int n) (fun Q q => q) rfl g3 ll fun p4 H4 s4 u4 => cons_at ?_
  have g4 := s4 _ _ g3
  refine el_pre (v := .int (-1)) (fun Q q => q) rfl g4 ll fun p5 H5 s5 u5 => cons_at ?_
  have g5 := s5 _ _ g4
  refine el_pre (v := .non) (fun Q q => q) rfl g5 ll fun p6 H6 s6 u6 => cons_at ?_
  have g6 := s6 _ _ g5
  refine el_pre (v := .bl false) (fun Q q => q) rfl g6 ll fun p7 H7 s7 u7 => ?_
  have g7 := s7 _ _ g6
  wide_line using [upd_same]
  refine ⟨by rw [sizeLine_eq]; decide, fun p8 hp8 => ?_⟩
  have s8 := same_new (o := .lst [.non, V.ref p1, .ref p2, .ref p3, .ref p4, .ref p5, .ref p6, .ref p7, .int 5]) hp8
  have u8 : upd H7 p8 (.lst [.non, V.ref p1, .ref p2, .ref p3, .ref p4, .ref p5, .ref p6, .ref p7, .int 5]) p8 = some (.lst [.non, V.ref p1, .ref p2, .ref p3, .ref p4, .ref p5, .ref p6, .ref p7, .int 5]) := upd_same
  generalize upd H7 p8 (.lst [.non, V.ref p1, .ref p2, .ref p3, .ref p4, .ref p5, .ref p6, .ref p7, .int 5]) = H8 at *
  have t78 := s7.trans s8
  have t68 := s6.trans t78
  have t58 := s5.trans t68
  have t48 := s4.trans t58
  have t38 := s3.trans t48
  have t28 := s2.trans t38
  have t18 := s1.trans t28
  refine fin H8 p8 _ (TSm.same tb t18) u8 fun v hv => ?_
  simp only [List.mem_cons, List.not_mem_nil, or_false] at hv
  rcases hv with rfl | rfl | rfl | rfl | rfl | rfl | rfl | rfl | rfl
  · exact ⟨none, .inl (.inr (.inr (.inl rfl))), rfl⟩
  · exact ⟨none, .inr ⟨p1, _, rfl, t28 _ _ u1⟩, rfl⟩
  · exact ⟨some _, ⟨⟨p2, rfl, t38 _ _ u2⟩, st⟩, mapB_len (by rw [List.length_map]; omega)⟩
  · exact ⟨some _, ⟨⟨p3, rfl, t48 _ _ u3⟩, fun x hx => by
      rcases List.mem_append.mp hx with hx | hx
      · exact sg x hx
      · rw [List.mem_singleton.mp hx]; exact scal_int⟩, mapB_len (by rw [List.length_append, List.length_cons, List.length_map, List.length_singleton]; omega)⟩
  · exact ⟨some _, ⟨⟨p4, rfl, t58 _ _ u4⟩, sv scal_int⟩, mapB_bad (numB_out fun i e => by cases e; omega)⟩
  · exact ⟨some _, ⟨⟨p5, rfl, t68 _ _ u5⟩, sv scal_int⟩, mapB_bad (numB_out fun i e => by cases e; omega)⟩
  · exact ⟨some _, ⟨⟨p6, rfl, t78 _ _ u6⟩, sv (.inr (.inr (.inl rfl)))⟩, mapB_bad rfl⟩
  · exact ⟨some _, ⟨⟨p7, rfl, s8 _ _ u7⟩, sv (.inr (.inl ⟨_, rfl⟩))⟩, mapB_bad rfl⟩
  · exact ⟨none, .inl scal_int, rfl⟩
theorem tabP {A : Ads} {H : Hp} (t : TabsOk A H) : GxR.TabG H A.P_is_map ∧ GxR.TabG H A.P_is_schedule := ⟨t (A.D_is_map, A.P_is_map) (by simp [codes]), t (A.D_is_schedule, A.P_is_schedule) (by simp [codes])⟩
theorem law_maps {K : PySem.W.Frag} {A : Ads} {D0 : Ends} {H : Hp} {ga ra ma oa : Addr} {n : Int} {mx os : List V} {gs : List Int} {z0 z1 z3 z4 z5 z6 z7 z9 z10 z11 z12 z13 z14 z18 z19 z20 z21 z22 : Option V}
    (tb : TabsOk A H) (hm : H ma = some (.tup mx)) (hg : H ga = some (.tup (gs.map V.int))) (lg : gs.length = mx.length) (gn : ∀ x ∈ gs, 0 ≤ x ∧ x < n) (ho : H oa = some (.lst os)) (od : ∀ v ∈ os, ∃ xs, TupOr H v xs ∧ mapB mx.length n xs = false)
    (fin : ∀ H', TSm A H H' → D0.nx [z0, z1, some (.int n), z3, z4, z5, z6, z7, some (.ref ra), z9, z10, z11, z12, z13, z14, some (.ref ma), some (.ref ga), some (.ref oa), z18, z19, z20, z21, z22] H') :
  (tIfS (tOr (tNot (dTru (tCallS sp_law_says (fun _ => E0) (tCons (tCallS (sp_is_map A) (fun _ => E0) (tCons (dVar 15) (tCons (dVar 2) (tCons (dVar 16) tNil)))) (tCons (tC (.bl true)) tNil))))) (dTest (tOp (dNeD K) (dLcL K (dVar 17) (gName 20) (tNot (dTru (tCallS sp_law_says (fun _ => E0) (tCons (tCallS (sp_is_map A) (fun _ => E0) (tCons (dVar 15) (tCons (dVar 2) (tCons (dVar 20) tNil)))) (tCons (tC (.bl false)) tNil))))) (dVar 20) [20]) (tLst tNil))))
  (tRet (tC (.bl false)))
  tNext) D0 [z0, z1, some (.int n), z3, z4, z5, z6, z7, some (.ref ra), z9, z10, z11, z12, z13, z14, some (.ref ma), some (.ref ga), some (.ref oa), z18, z19, z20, z21, z22] H := by
  wide_line using [upd_same]
  refine ⟨ma, n, .ref ga, mx, some (gs.map V.int), rfl, hm, ⟨⟨ga, rfl, hg⟩, fun x hx => ?_⟩, (tabP tb).1, fun H1 t1 => ?_⟩
  · obtain ⟨y, _, rfl⟩ := List.mem_map.mp hx
    exact scal_int
  have T1 := TSm.tbd tb (tabP tb).1 t1
  have e1 : mapB mx.length n (some (gs.map V.int)) = true := by
    simp only [mapB, List.length_map, lg, decide_true, Bool.true_and, List.all_eq_true, List.mem_map]
    rintro v ⟨y, hy, rfl⟩
    have := gn y hy
    simp [numB]
    omega
  rw [e1]
  refine ⟨true, true, rfl, ?_⟩
  wide_line using [upd_same]
  refine lcL_none (T1.lst ho) T1.2 (fun x hx H2 T2 k1 k0 h0 => ?_) fun D H2 T2 hD => ?_
  · obtain ⟨xs, tx, bx⟩ := od x hx
    have T12 := T1.trans T2
    unfold LcTurn
    wide_line using [upd_same]
    refine ⟨ma, n, x, mx, xs, rfl, T12.tup hm, tx.ts T12, (tabP T12.2).1, fun H3 t3 => ?_⟩
    rw [bx]
    refine ⟨false, false, rfl, ?_⟩
    wide_line using [upd_same]
    exact h0 H3 (TSm.tbd T12.2 (tabP T12.2).1 t3)
  · refine ⟨Nat.zero_le _, fun p hp => ?_⟩
    have s3 := same_new (o := .lst []) hp
    refine neD_same (n := 1) (da_lints (ns := []) (s3 _ _ hD) (Nat.zero_le _)) (da_lints (ns := []) upd_same (Nat.zero_le _)) (by decide) ?_
    wide_line using [upd_same]
    exact fin _ ((T1.trans T2).trans (TSm.same T2.2 s3))
/-- (v,) -/
theorem el_one {σ : L2.St} {H : Hp} {Q : VK} {v : V} {te : TE} (ht : ∀ Q : VK, Q v H → te σ H Q) (q : ∀ p H', Same H H' → H' p = some (.tup [v]) → Q (.ref p) H') : tTup (tCons te tNil) σ H Q := by
  unfold tTup
  refine cons_at (ht _ ?_)
  dsimp only [tNil]
  exact ⟨by rw [sizeLine_eq]; show 1 ≤ _; decide, fun p hp => q p _ (same_new hp) upd_same⟩
theorem schB_bad {v : V} {xs : List V} (h : numB v 0 1000000000 = false) : schB (some (v :: xs)) = false := by simp [schB, h]
theorem ite1 {c : Prop} [Decidable c] {a b : Prop} (h : c) (q : a) : if c then a else b := by rw [if_pos h]; exact q
theorem law_sched {K : PySem.W.Frag} {A : Ads} {D0 : Ends} {H : Hp} {ra : Addr} {ns : List Int} {z0 z1 z2 z3 z4 z5 z6 z7 z9 z10 z11 z12 z13 z14 z15 z16 z17 z18 z19 z20 z21 z22 : Option V}
    (tb : TabsOk A H) (hr : H ra = some (.tup (ns.map V.int))) (r0 : 0 < ns.length) (rn : ∀ x ∈ ns, 0 ≤ x ∧ x < 997) (fin : ∀ H', D0.rt (.bl true) H') :
  (tSeq (tAsg (tLst (tCons (tC .non) (tCons (tTup tNil) (tCons (tLst (tCons (tC (.int 1)) tNil)) (tCons (tTup (tCons (tUn dNeg (tC (.int 1))) tNil)) (tCons (tTup (tCons (tOp dAdd2 (tOp dPow (tC (.int 10)) (tC (.int 9))) (tC (.int 1))) tNil)) (tCons (tTup (tCons (tC .non) tNil)) (tCons (tTup (tCons (tC (.bl true)) tNil)) (tCons (tTup (tCons (tC (.str "1")) tNil)) (tCons (tC (.int 5)) tNil)))))))))) (gName 17))
  (tRet (dAndV (tOp dIsB (tCallS (sp_is_schedule A) (fun _ => E0) (tCons (dVar 8) tNil)) (tC (.bl true))) (dAndV (tOp dIsB (tCallS (sp_is_schedule A) (fun _ => E0) (tCons (tTup (tCons (tOp dPow (tC (.int 10)) (tC (.int 9))) tNil)) tNil)) (tC (.bl true))) (tOp (dEqD K) (dLcL K (dVar 17) (gName 20) (tNot (dTru (tCallS sp_law_says (fun _ => E0) (tCons (tCallS (sp_is_schedule A) (fun _ => E0) (tCons (dVar 20) tNil)) (tCons (tC (.bl false)) tNil))))) (dVar 20) [20]) (tLst tNil)))))) D0 [z0, z1, z2, z3, z4, z5, z6, z7, some (.ref ra), z9, z10, z11, z12, z13, z14, z15, z16, z17, z18, z19, z20, z21, z22] H := by
  refine seq1 ?_
  unfold tAsg tLst
  refine cons_at ?_
  dsimp only [tC]
  refine cons_at ?_
  refine ⟨Nat.zero_le _, fun p1 hp1 => cons_at ?_⟩
  have s1 := same_new (o := .tup []) hp1
  have u1 : upd H p1 (.tup []) p1 = some (.tup []) := upd_same
  generalize upd H p1 (.tup []) = H1 at *
  refine ⟨by rw [sizeLine_eq]; decide, fun p2 hp2 => cons_at ?_⟩
  have s2 := same_new (o := .lst [V.int 1]) hp2
  have u2 : upd H1 p2 (.lst [V.int 1]) p2 = some (.lst [V.int 1]) := upd_same
  change tTup _ _ (upd H1 p2 (.lst [V.int 1])) _
  generalize upd H1 p2 (.lst [V.int 1]) = H2 at *
  refine el_one (v := .int (-1)) (fun Q q => q) fun p3 H3 s3 u3 => cons_at ?_
  refine el_one (v := .int (10 ^ 9 + 1)) (fun Q q => ?_) fun p4 H4 s4 u4 => cons_at ?_
  · wide_line using [upd_same]
    exact ⟨by unfold CPow; decide, q⟩
  refine el_one (v := .non) (fun Q q => q) fun p5 H5 s5 u5 => cons_at ?_
  refine el_one (v := .bl true) (fun Q q => q) fun p6 H6 s6 u6 => cons_at ?_
  refine el_one (v := .str "1") (fun Q q => q) fun p7 H7 s7 u7 => ?_
  wide_line using [upd_same]
  refine ⟨by rw [sizeLine_eq]; decide, fun p8 hp8 => ?_⟩
  have s8 := same_new (o := .lst [.non, V.ref p1, .ref p2, .ref p3, .ref p4, .ref p5, .ref p6, .ref p7, .int 5]) hp8
  have u8 : upd H7 p8 (.lst [.non, V.ref p1, .ref p2, .ref p3, .ref p4, .ref p5, .ref p6, .ref p7, .int 5]) p8 = some (.lst [.non, V.ref p1, .ref p2, .ref p3, .ref p4, .ref p5, .ref p6, .ref p7, .int 5]) := upd_same
  generalize upd H7 p8 (.lst [.non, V.ref p1, .ref p2, .ref p3, .ref p4, .ref p5, .ref p6, .ref p7, .int 5]) = H8 at *
  have t78 := s7.trans s8
  have t68 := s6.trans t78
  have t58 := s5.trans t68
  have t48 := s4.trans t58
  have t38 := s3.trans t48
  have t28 := s2.trans t38
  have t18 := s1.trans t28
  have od : ∀ v ∈ [V.non, V.ref p1, .ref p2, .ref p3, .ref p4, .ref p5, .ref p6, .ref p7, .int 5], ∃ xs, TupOr H8 v xs ∧ schB xs = false := fun v hv => by
    have sv : ∀ {v : V}, Scal v → ∀ x ∈ [v], Scal x := fun h x hx => by rw [List.mem_singleton.mp hx]; exact h
    simp only [List.mem_cons, List.not_mem_nil, or_false] at hv
    rcases hv with rfl | rfl | rfl | rfl | rfl | rfl | rfl | rfl | rfl
    · exact ⟨none, .inl (.inr (.inr (.inl rfl))), rfl⟩
    · exact ⟨some _, ⟨⟨p1, rfl, t28 _ _ u1⟩, by simp⟩, rfl⟩
    · exact ⟨none, .inr ⟨p2, _, rfl, t38 _ _ u2⟩, rfl⟩
    · exact ⟨some _, ⟨⟨p3, rfl, t48 _ _ u3⟩, sv scal_int⟩, schB_bad (numB_out fun i e => by cases e; omega)⟩
    · exact ⟨some _, ⟨⟨p4, rfl, t58 _ _ u4⟩, sv scal_int⟩, schB_bad (numB_out fun i e => by cases e; omega)⟩
    · exact ⟨some _, ⟨⟨p5, rfl, t68 _ _ u5⟩, sv (.inr (.inr (.inl rfl)))⟩, schB_bad rfl⟩
    · exact ⟨some _, ⟨⟨p6, rfl, t78 _ _ u6⟩, sv (.inr (.inl ⟨_, rfl⟩))⟩, schB_bad rfl⟩
    · exact ⟨some _, ⟨⟨p7, rfl, s8 _ _ u7⟩, sv (.inr (.inr (.inr ⟨_, rfl⟩)))⟩, schB_bad rfl⟩
    · exact ⟨none, .inl scal_int, rfl⟩
  have tb8 := tb.same t18
  have hr8 := t18 _ _ hr
  refine ⟨.ref ra, some (ns.map V.int), rfl, ⟨⟨ra, rfl, hr8⟩, fun x hx => ?_⟩, (tabP tb8).2, fun H9 t9 => ?_⟩
  · obtain ⟨y, _, rfl⟩ := List.mem_map.mp hx
    exact scal_int
  have T9 := TSm.tbd tb8 (tabP tb8).2 t9
  have e1 : schB (some (ns.map V.int)) = true := by
    simp only [schB, List.length_map, r0, decide_true, Bool.true_and, List.all_eq_true, List.mem_map]
    rintro v ⟨y, hy, rfl⟩
    have := rn y hy
    simp [numB]
    omega
  rw [e1]
  dsimp only
  refine ite1 rfl ⟨by unfold CPow; decide, by rw [sizeLine_eq]; decide, fun pa hpa => ?_⟩
  have s10 := same_new (o := .tup [V.int (10 ^ Int.toNat 9)]) hpa
  have u10 : upd H9 pa (.tup [V.int (10 ^ Int.toNat 9)]) pa = some (.tup [V.int (10 ^ Int.toNat 9)]) := upd_same
  have T10 := T9.trans (TSm.same T9.2 s10)
  generalize upd H9 pa (.tup [V.int (10 ^ Int.toNat 9)]) = H10 at *
  refine ⟨.ref pa, some [V.int (10 ^ Int.toNat 9)], rfl, ⟨⟨pa, rfl, u10⟩, fun x hx => by rw [List.mem_singleton.mp hx]; exact scal_int⟩, (tabP T10.2).2, fun H11 t11 => ?_⟩
  have T11 := T10.trans (TSm.tbd T10.2 (tabP T10.2).2 t11)
  have e2 : schB (some [V.int (10 ^ Int.toNat 9)]) = true := by decide
  rw [e2]
  dsimp only
  refine ite1 rfl ?_
  refine lcL_none (T11.lst u8) T11.2 (fun x hx H2 T2 k1 k0 h0 => ?_) fun D H2 T2 hD => ?_
  · obtain ⟨xs, tx, bx⟩ := od x hx
    have T12 := T11.trans T2
    unfold LcTurn
    wide_line using [upd_same]
    refine ⟨x, xs, rfl, tx.ts T12, (tabP T12.2).2, fun H3 t3 => ?_⟩
    rw [bx]
    refine ⟨false, false, rfl, ?_⟩
    wide_line using [upd_same]
    exact h0 H3 (TSm.tbd T12.2 (tabP T12.2).2 t3)
  · refine ⟨Nat.zero_le _, fun p hp => ?_⟩
    have s3 := same_new (o := .lst []) hp
    exact eqD_lnil (xs := []) (s3 _ _ hD) (Nat.zero_le _) upd_same (fin _)
theorem DrawsAt.keep {H H' : Hp} {d : Addr} {S : List Addr} (h : DrawsAt H d) (k : Keep S H H') (n : d ∉ S) : DrawsAt H' d := let ⟨ms, e⟩ := h; ⟨ms, k _ _ e n⟩
theorem TabsOk.draw {A : Ads} {H H' : Hp} {dr : Addr} (k : Keep [dr] H H') (d : DrawsAt H dr) (t : TabsOk A H) : TabsOk A H' := by
  obtain ⟨ms, hd⟩ := d
  exact t.keep k fun a m ps e => by rw [List.mem_singleton.mp m, hd] at e; cases e
/-- a list of numbers drawn, one for each of a range -/
theorem draw_range {A : Ads} {H1 : Hp} {dr : Addr} {m : Nat} {b : Int} {g : TG} {te : TE} {vs : List Nat} {σ : L2.St} {Q : VK} (d1 : DrawsAt H1 dr) (t1 : TabsOk A H1) (hm : m ≤ 1000) (hb : 0 < b)
    (turn : ∀ (i : Nat) (H : Hp) (k1 : VK) (k0 : Hp → Prop), sp_law_take [.ref dr, .int b] H k1 E0 → LcTurn g tYes te vs σ (.int (0 + (i : Nat))) H k1 k0)
    (q : ∀ D H' (ns : List Int), H1 D = none → Keep [dr] H1 H' → DrawsAt H' dr → TabsOk A H' → H' D = some (.lst (ns.map V.int)) → ns.length = m → (∀ x ∈ ns, 0 ≤ x ∧ x < b) → Q (.ref D) H') : LcJ (Itr 0 m) g tYes te vs σ H1 Q := by
  intro D hD
  have nD : D ≠ dr := (d1.ne hD).symm
  refine lc_range (lo := 0) (n := m) (fun i H' => Keep [dr] H1 H' ∧ DrawsAt H' dr ∧ TabsOk A H' ∧ ∃ ns : List Int, H' D = some (.lst (ns.map V.int)) ∧ ns.length = i ∧ ∀ x ∈ ns, 0 ≤ x ∧ x < b) ⟨Keep.same (same_new hD), d1.same (same_new hD), t1.same (same_new hD), [], upd_same, rfl, by simp⟩ ?_ ?_
  · rintro i H hi ⟨k, d, t, ns, hDs, ln, hn⟩
    refine turn i H _ _ (take_on d hb fun r H2 r0 r1 k2 d2 => ?_)
    have hD2 := k2 _ _ hDs (by simpa using nD)
    have kD : Keep [D] H2 (upd H2 D (.lst (ns.map V.int ++ [.int r]))) := keep_up (by simp)
    refine ⟨_, hD2, by rw [sizeLine_eq, List.length_map]; omega, fun b o e nb => ?_, d2.keep kD (by simpa using nD.symm), (t.draw k2 d).keep kD (fun a m ps e => by rw [List.mem_singleton.mp m, hD2] at e; cases e), ns ++ [r], by rw [upd_same, map_snoc], by rw [List.length_append, ln]; rfl, fun x hx => ?_⟩
    · have hbD : b ≠ D := by rintro rfl; rw [hD] at e; cases e
      exact kD _ _ (k2 _ _ (k _ _ e nb) nb) (by simpa using hbD)
    · rcases List.mem_append.mp hx with hx | hx
      · exact hn x hx
      · rw [List.mem_singleton.mp hx]; exact ⟨r0, r1⟩
  · rintro H ⟨k, d, t, ns, hDs, ln, hn⟩
    exact q D H ns hD k d t hDs ln hn
/-- a list of numbers drawn, one for each place of a tuple -/
theorem draw_tup {K : PySem.W.Frag} {A : Ads} {a : Addr} {xs : List V} {H1 : Hp} {dr : Addr} {b : Int} {g : TG} {te : TE} {vs : List Nat} {σ : L2.St} {Q : VK} (hq : H1 a = some (.tup xs)) (d1 : DrawsAt H1 dr) (t1 : TabsOk A H1) (hm : xs.length ≤ 1000) (hb : 0 < b)
    (turn : ∀ (x : V) (H : Hp) (k1 : VK) (k0 : Hp → Prop), sp_law_take [.ref dr, .int b] H k1 E0 → LcTurn g tYes te vs σ x H k1 k0)
    (q : ∀ D H' (ns : List Int), H1 D = none → Keep [dr] H1 H' → DrawsAt H' dr → TabsOk A H' → H' D = some (.lst (ns.map V.int)) → ns.length = xs.length → (∀ x ∈ ns, 0 ≤ x ∧ x < b) → Q (.ref D) H') : LcT K a g tYes te vs σ H1 Q := by
  refine ⟨⟨_, .of hq⟩, fun D hD => ?_⟩
  have nD : D ≠ dr := (d1.ne hD).symm
  have na : a ∉ [dr] := fun m => by
    obtain ⟨ms, hd⟩ := d1
    rw [List.mem_singleton.mp m, hd] at hq
    cases hq
  refine lc_tup (K := K) (a := a) (xs := xs) (fun i H' => Keep [dr] H1 H' ∧ DrawsAt H' dr ∧ TabsOk A H' ∧ ∃ ns : List Int, H' D = some (.lst (ns.map V.int)) ∧ ns.length = i ∧ ∀ x ∈ ns, 0 ≤ x ∧ x < b) ⟨Keep.same (same_new hD), d1.same (same_new hD), t1.same (same_new hD), [], upd_same, rfl, by simp⟩ (fun i H _ p => .of (p.1 _ _ hq na)) ?_ ?_
  · rintro i x H hi ⟨k, d, t, ns, hDs, ln, hn⟩
    have il := (List.getElem?_eq_some_iff.mp hi).1
    refine turn x H _ _ (take_on d hb fun r H2 r0 r1 k2 d2 => ?_)
    have hD2 := k2 _ _ hDs (by simpa using nD)
    have kD : Keep [D] H2 (upd H2 D (.lst (ns.map V.int ++ [.int r]))) := keep_up (by simp)
    refine ⟨_, hD2, by rw [sizeLine_eq, List.length_map]; omega, fun b o e nb => ?_, d2.keep kD (by simpa using nD.symm), (t.draw k2 d).keep kD (fun a m ps e => by rw [List.mem_singleton.mp m, hD2] at e; cases e), ns ++ [r], by rw [upd_same, map_snoc], by rw [List.length_append, ln]; rfl, fun x hx => ?_⟩
    · have hbD : b ≠ D := by rintro rfl; rw [hD] at e; cases e
      exact kD _ _ (k2 _ _ (k _ _ e nb) nb) (by simpa using hbD)
    · rcases List.mem_append.mp hx with hx | hx
      · exact hn x hx
      · rw [List.mem_singleton.mp hx]; exact ⟨r0, r1⟩
  · rintro H ⟨k, d, t, ns, hDs, ln, hn⟩
    exact q D H ns hD k d t hDs ln hn
theorem r_law {K : PySem.W.Frag} {A : Ads} {E : XK} {vs : List V} {H : Hp} {Q : VK} (h : sp_law K A vs H Q E) : t_law K A E { nx := fun _ H' => Q .non H', rt := Q } (L2.start ["script", "draws", "many", "net", "rows", "step", "one", "other", "row", "told", "full", "pair", "every", "bad", "options", "model", "good", "odd", "k", "place", "value", "message", "which"] vs) H := by
  obtain ⟨a, ns0, rfl, hs, hl, tb, kq⟩ := h
  unfold t_law
  refine seq1 ?_
  wide_line using [upd_same]
  refine ⟨a, ns0, rfl, hs, hl, fun d H1 ms hd S1 hd1 => ?_⟩
  have d1 : DrawsAt H1 d := ⟨ms, hd1⟩
  have t1 := tb.same S1
  clear hs S1 tb
  refine seq1 ?_
  wide_line using [upd_same]
  refine take_on d1 (by decide) fun n0 H2 n1 n2 k2 d2 => ?_
  have t2 := t1.draw k2 d1
  refine seq1 ?_
  wide_line using [upd_same]
  intro f dx hf hdx nfd
  have m0 : Same H2 (upd (upd H2 dx (.own f)) f (.ins A.Net dx [])) := (same_new hdx).trans (same_new (by rw [upd_ne (fun e => nfd e.symm)]; exact hf))
  have uf : upd (upd H2 dx (.own f)) f (.ins A.Net dx []) f = some (.ins A.Net dx []) := upd_same
  have d3 := d2.same m0
  have t3 := t2.same m0
  have nfd' : f ≠ d := (d2.ne hf).symm
  generalize upd (upd H2 dx (.own f)) f (.ins A.Net dx []) = H3 at *
  refine ⟨d, f, dx, _, rfl, by obtain ⟨ms', e⟩ := d3; rw [e]; simp, uf, by omega, fun H4 td k4 htd nt4 => ⟨rfl, fun rd hrd => ⟨by rw [sizeLine_eq]; decide, fun pt hpt => ?_⟩⟩⟩
  have d4 := d3.keep k4 (by simpa using nfd'.symm)
  have t4 : TabsOk A H4 := t3.keep k4 fun a m ps e => by rw [List.mem_singleton.mp m, uf] at e; cases e
  have s5 := same_new (o := .dT []) hrd
  have u5 : upd H4 rd (.dT []) rd = some (.dT []) := upd_same
  have ntr : td ≠ rd := by
    obtain ⟨_, _, h, _⟩ := nt4.2
    rintro rfl
    rw [hrd] at h
    cases h
  have li5 : LI A (upd H4 rd (.dT [])) d f td rd (2 + n0) (fun _ => []) (fun _ => []) 0 := by
    refine ⟨d4.same s5, nt4.same s5, ⟨[], [], u5, .nil, ?_, List.nodup_nil, fun q h => absurd rfl h, by simp, by omega, fun _ => Nat.zero_le _⟩, fun _ => .nil, fun _ => Nat.zero_le _, t4.same s5, ntr⟩
    exact ne_none_same s5 nt4.2.av
  generalize upd H4 rd (.dT []) = H5 at *
  have s6 := same_new (o := .tup [.ref f, .ref rd]) hpt
  have u6 : upd H5 pt (.tup [.ref f, .ref rd]) pt = some (.tup [.ref f, .ref rd]) := upd_same
  have li6 := li5.same s6
  have n8 : 2 ≤ 2 + n0 := by omega
  have n9 : 2 + n0 ≤ 8 := by omega
  generalize upd H5 pt (.tup [.ref f, .ref rd]) = H6 at *
  generalize 2 + n0 = n at *
  clear li5 d4 t4 nt4 k4 d3 t3 d2 t2 k2 d1 t1
  refine seq1 ?_
  unfold dForR1
  dsimp only [tCons, tC, tNil]
  refine ⟨by decide, ?_⟩
  let σs : Option V → Option V → Option V → Option V → Option V → Option V → Option V → Option V → L2.St := fun z5 z6 z7 z8 z9 z10 z11 z12 => [some (.ref a), some (.ref d), some (.int n), some (.ref f), some (.ref rd), z5, z6, z7, z8, z9, z10, z11, z12, none, none, none, none, none, none, none, none, none, none]
  refine forR_to (fun i σ H' => ∃ z5 z6 z7 z8 z9 z10 z11 z12 M L, σ = σs z5 z6 z7 z8 z9 z10 z11 z12 ∧ LI A H' d f td rd n M L i) (fun σ H' => ∃ z5 z6 z7 z8 z9 z10 z11 z12 M L, σ = σs z5 z6 z7 z8 z9 z10 z11 z12 ∧ LI A H' d f td rd n M L 40) ⟨_, _, _, _, _, _, _, _, _, _, rfl, li6⟩ (fun _ _ h => h) ?_ ?_
  · rintro σ H7 ⟨z5, z6, z7, z8, z9, z10, z11, z12, M, L, rfl, li7⟩
    refine seq1 ?_
    refine law_bad li7.nt n8 rfl fun H8 z13 s8 => ?_
    have d8 := li7.dw.same s8
    have t8 := li7.tabs.same s8
    clear li7
    dsimp only
    refine seq1 ?_
    wide_line using [upd_same]
    refine take_on d8 (by decide) fun c H9 c0 c1 k9 d9 => ?_
    have t9 := t8.draw k9 d8
    dsimp only
    refine ⟨by omega, ?_⟩
    refine lcR_core (by omega) (fun _ => true) (fun i v H => ∃ t x, v = .ref t ∧ H t = some (.tup [.str "take", .int x, .int 0])) (fun _ _ _ _ k ⟨t, x, e, h⟩ => ⟨t, x, e, k _ _ h⟩) (fun i hi H10 s10 k1 k0 h1 _ => ?_) fun oa H10 os hoa s10 ho po => ?_
    · unfold LcTurn
      wide_line using [upd_same]
      exact ⟨by rw [sizeLine_eq]; decide, fun p hp => h1 rfl _ _ (same_new hp) ⟨p, _, rfl, upd_same⟩⟩
    rw [List.filter_eq_self.mpr (fun _ _ => rfl)] at po
    have lo := paired_len po
    rw [List.length_range] at lo
    obtain ⟨od, pod⟩ : ∃ od, Paired (Tz H10 1) os od := by
      clear ho lo
      generalize List.range (1 + c).toNat = l at po
      induction po with
      | nil => exact ⟨[], .nil⟩
      | cons h t ih =>
        obtain ⟨od, p⟩ := ih
        obtain ⟨ta, x, e, hta⟩ := h
        exact ⟨_ :: od, .cons (by rw [e]; exact Tz.tup hta (by show 3 ≤ 100000; decide) (.cons (Tz.str (by decide +kernel)) (.cons Tz.int (.cons Tz.int .nil)))) p⟩
    have d10 := d9.same s10
    have t10 := t9.same s10
    have noa : oa ≠ d := (d9.ne hoa).symm
    clear po
    refine seq1 ?_
    wide_line using [upd_same]
    refine take_on d10 (by decide) fun e H11 e0 e1 k11 d11 => ?_
    have t11 := t10.draw k11 d10
    have ho11 := k11 _ _ ho (by simpa using noa)
    have pod11 := Paired.mapP pod fun _ _ z => z.kt (keep_kt k11 d10)
    dsimp only
    refine ⟨by omega, ?_⟩
    refine draw_range d11 t11 (by omega) (show (0 : Int) < 997 by decide) (fun i H k1 k0 h => ?_) fun ral H12 ns hra k12 d12 t12 hral ln hn => ?_
    · unfold LcTurn
      wide_line using [upd_same]
      exact h
    dsimp only
    rw [hral]
    intro ra hraN
    have s13 := same_new (o := .tup (ns.map V.int)) hraN
    have u13 : upd H12 ra (.tup (ns.map V.int)) ra = some (.tup (ns.map V.int)) := upd_same
    have ho13 := s13 _ _ (k12 _ _ ho11 (by simpa using noa))
    have kt12 := keep_kt k12 d11
    have pod13 := Paired.mapP pod11 fun _ _ z => z.kt (kt12.trans (.same s13))
    have d13 := d12.same s13
    have t13 := t12.same s13
    generalize upd H12 ra (.tup (ns.map V.int)) = H13 at *
    refine seq1 ?_
    refine law_chosen (K := K) (A := A) ho13 pod13 (by omega) u13 (by omega) (fun x hx => (hn x hx).1) fun H14 z5 s14 => ?_
    have d14 := d13.same s14
    have t14 := t13.same s14
    have u14 := s14 _ _ u13
    refine seq1 ?_
    wide_line using [upd_same]
    refine ⟨d, 4, rfl, d14, by decide, by decide, fun mv ds H15 k15 d15 md mdd => ?_⟩
    have t15 := t14.draw k15 d14
    have nra : ra ≠ d := by
      obtain ⟨ms', e'⟩ := d14
      rintro rfl
      rw [u14] at e'
      cases e'
    have u15 := k15 _ _ u14 (by simpa using nra)
    obtain ⟨ma, mx, rfl, hma, ml, pm⟩ := md
    have lm := paired_len pm
    have l5 := mdd.2.1
    have l0 := mdd.1
    dsimp only
    refine seq1 ?_
    wide_line using [hma]
    refine draw_tup hma d15 t15 (by omega) (show 0 < n by omega) (fun x H k1 k0 h => ?_) fun gl H16 gs hgl k16 d16 t16 hgl16 lg hgs => ?_
    · unfold LcTurn
      wide_line using [upd_same]
      exact h
    dsimp only
    rw [hgl16]
    intro ga hga
    have s17 := same_new (o := .tup (gs.map V.int)) hga
    have u17 : upd H16 ga (.tup (gs.map V.int)) ga = some (.tup (gs.map V.int)) := upd_same
    have nma : ma ≠ d := by
      obtain ⟨ms', e'⟩ := d15
      rintro rfl
      rw [hma] at e'
      cases e'
    have hma17 := s17 _ _ (k16 _ _ hma (by simpa using nma))
    have u16 := s17 _ _ (k16 _ _ u15 (by simpa using nra))
    have t17 := t16.same s17
    generalize upd H16 ga (.tup (gs.map V.int)) = H17 at *
    obtain ⟨g, gt, rfl⟩ : ∃ g gt, gs = g :: gt := by
      cases gs with
      | nil => simp at lg; omega
      | cons g gt => exact ⟨g, gt, rfl⟩
    refine seq1 ?_
    refine law_odd (K := K) (mx := mx) t17 u17 (by rw [List.length_cons] at lg; exact lg) (by rw [List.length_cons] at lg; omega) fun H18 od os T18 hod hos => ?_
    dsimp only
    refine seq1 ?_
    refine law_maps (K := K) T18.2 (T18.tup hma17) (T18.tup u17) lg hgs hod hos fun H19 T19 => ?_
    dsimp only
    have T1719 := T18.trans T19
    exact law_sched (K := K) T1719.2 (T1719.tup u16) (by omega) hn kq
  · rintro N nx _ i σ H7 hi hN ⟨z5, z6, z7, z8, z9, z10, z11, z12, M, L, rfl, li7⟩
    dsimp only [σs, gName, List.set_cons_succ, List.set_cons_zero]
    rw [Int.zero_add]
    exact law_turn li7 hi n8 fun H' z6 z7 z8 z9 z10 z11 z12 M L li' => hN _ _ ⟨_, _, _, _, _, _, _, _, M, L, rfl, li'⟩
def top (i : Nat) : Stmt := PySem.Challenge.pw_sametrace_k41_whole_nets_and_schedules.main.body.getD i (.Pass ⟨0, 0, 0, 0⟩)
abbrev s_is_number : Stmt := top 8
abbrev N_is_number : List Str := ["value", "least", "most"]
theorem sc_is_number : FnScope N_is_number ["value", "least", "most"] (defScope s_is_number) := ⟨rfl, rfl, rfl, by decide +kernel, rfl, by decide +kernel, by decide +kernel⟩
abbrev s_is_map : Stmt := top 11
abbrev N_is_map : List Str := ["model", "processors", "value", "one"]
theorem sc_is_map : FnScope N_is_map ["model", "processors", "value"] (defScope s_is_map) := ⟨rfl, rfl, rfl, by decide +kernel, rfl, by decide +kernel, by decide +kernel⟩
abbrev s_is_schedule : Stmt := top 12
abbrev N_is_schedule : List Str := ["value", "one"]
theorem sc_is_schedule : FnScope N_is_schedule ["value"] (defScope s_is_schedule) := ⟨rfl, rfl, rfl, by decide +kernel, rfl, by decide +kernel, by decide +kernel⟩
abbrev s_chosen : Stmt := top 13
abbrev N_chosen : List Str := ["schedule", "step", "options"]
theorem sc_chosen : FnScope N_chosen ["schedule", "step", "options"] (defScope s_chosen) := ⟨rfl, rfl, rfl, by decide +kernel, rfl, by decide +kernel, by decide +kernel⟩
abbrev s_Net__init_ : Stmt := inClass (top 14) 0
abbrev N_Net__init_ : List Str := ["self", "processors"]
theorem sc_Net__init_ : FnScope N_Net__init_ ["self", "processors"] (defScope s_Net__init_) := ⟨rfl, rfl, rfl, by decide +kernel, rfl, by decide +kernel, by decide +kernel⟩
abbrev s_Net_check : Stmt := inClass (top 14) 1
abbrev N_Net_check : List Str := ["self", "sender", "receiver"]
theorem sc_Net_check : FnScope N_Net_check ["self", "sender", "receiver"] (defScope s_Net_check) := ⟨rfl, rfl, rfl, by decide +kernel, rfl, by decide +kernel, by decide +kernel⟩
abbrev s_Net_put : Stmt := inClass (top 14) 2
abbrev N_Net_put : List Str := ["self", "sender", "receiver", "message"]
theorem sc_Net_put : FnScope N_Net_put ["self", "sender", "receiver", "message"] (defScope s_Net_put) := ⟨rfl, rfl, rfl, by decide +kernel, rfl, by decide +kernel, by decide +kernel⟩
abbrev s_Net_take : Stmt := inClass (top 14) 3
abbrev N_Net_take : List Str := ["self", "sender", "receiver", "row"]
theorem sc_Net_take : FnScope N_Net_take ["self", "sender", "receiver"] (defScope s_Net_take) := ⟨rfl, rfl, rfl, by decide +kernel, rfl, by decide +kernel, by decide +kernel⟩
abbrev s_Net_ready : Stmt := inClass (top 14) 4
abbrev N_Net_ready : List Str := ["self", "pair", "row"]
theorem sc_Net_ready : FnScope N_Net_ready ["self"] (defScope s_Net_ready) := ⟨rfl, rfl, rfl, by decide +kernel, rfl, by decide +kernel, by decide +kernel⟩
abbrev s_Net_messages : Stmt := inClass (top 14) 5
abbrev N_Net_messages : List Str := ["self", "found", "pair"]
theorem sc_Net_messages : FnScope N_Net_messages ["self"] (defScope s_Net_messages) := ⟨rfl, rfl, rfl, by decide +kernel, rfl, by decide +kernel, by decide +kernel⟩
abbrev s_Net_many : Stmt := inClass (top 14) 6
abbrev N_Net_many : List Str := ["self"]
theorem sc_Net_many : FnScope N_Net_many ["self"] (defScope s_Net_many) := ⟨rfl, rfl, rfl, by decide +kernel, rfl, by decide +kernel, by decide +kernel⟩
abbrev s_law_draws : Stmt := top 16
abbrev N_law_draws : List Str := ["script", "draws", "cell", "number", "first", "k", "seed"]
theorem sc_law_draws : FnScope N_law_draws ["script"] (defScope s_law_draws) := ⟨rfl, rfl, rfl, by decide +kernel, rfl, by decide +kernel, by decide +kernel⟩
abbrev s_law_take : Stmt := top 17
abbrev N_law_take : List Str := ["draws", "bound"]
theorem sc_law_take : FnScope N_law_take ["draws", "bound"] (defScope s_law_take) := ⟨rfl, rfl, rfl, by decide +kernel, rfl, by decide +kernel, by decide +kernel⟩
abbrev s_law_alike : Stmt := top 18
abbrev N_law_alike : List Str := ["found", "due", "k"]
theorem sc_law_alike : FnScope N_law_alike ["found", "due"] (defScope s_law_alike) := ⟨rfl, rfl, rfl, by decide +kernel, rfl, by decide +kernel, by decide +kernel⟩
abbrev s_law_says : Stmt := top 19
abbrev N_law_says : List Str := ["told", "due"]
theorem sc_law_says : FnScope N_law_says ["told", "due"] (defScope s_law_says) := ⟨rfl, rfl, rfl, by decide +kernel, rfl, by decide +kernel, by decide +kernel⟩
abbrev s_law_word : Stmt := top 20
abbrev N_law_word : List Str := ["e", "kinds", "kind"]
theorem sc_law_word : FnScope N_law_word ["e"] (defScope s_law_word) := ⟨rfl, rfl, rfl, by decide +kernel, rfl, by decide +kernel, by decide +kernel⟩
abbrev s_law_expression : Stmt := top 21
abbrev N_law_expression : List Str := ["draws", "names", "deep", "kind", "rows", "sign", "name"]
theorem sc_law_expression : FnScope N_law_expression ["draws", "names", "deep"] (defScope s_law_expression) := ⟨rfl, rfl, rfl, by decide +kernel, rfl, by decide +kernel, by decide +kernel⟩
abbrev s_law_body : Stmt := top 22
abbrev N_law_body : List Str := ["draws", "names", "kinds", "deep", "found", "turn", "kind"]
theorem sc_law_body : FnScope N_law_body ["draws", "names", "kinds", "deep"] (defScope s_law_body) := ⟨rfl, rfl, rfl, by decide +kernel, rfl, by decide +kernel, by decide +kernel⟩
abbrev s_law_send : Stmt := top 23
abbrev N_law_send : List Str := ["draws", "names", "kinds", "place", "delay"]
theorem sc_law_send : FnScope N_law_send ["draws", "names", "kinds"] (defScope s_law_send) := ⟨rfl, rfl, rfl, by decide +kernel, rfl, by decide +kernel, by decide +kernel⟩
abbrev s_law_many : Stmt := top 24
abbrev N_law_many : List Str := ["part", "one"]
theorem sc_law_many : FnScope N_law_many ["part"] (defScope s_law_many) := ⟨rfl, rfl, rfl, by decide +kernel, rfl, by decide +kernel, by decide +kernel⟩
abbrev s_law_model : Stmt := top 25
abbrev N_law_model : List Str := ["draws", "most", "kinds", "spots", "total", "k", "variables", "names", "rules", "kind", "body", "early", "name", "number"]
theorem sc_law_model : FnScope N_law_model ["draws", "most"] (defScope s_law_model) := ⟨rfl, rfl, rfl, by decide +kernel, rfl, by decide +kernel, by decide +kernel⟩
abbrev s_law_told : Stmt := top 26
abbrev N_law_told : List Str := ["net", "which", "one", "other", "e"]
theorem sc_law_told : FnScope N_law_told ["net", "which", "one", "other"] (defScope s_law_told) := ⟨rfl, rfl, rfl, by decide +kernel, rfl, by decide +kernel, by decide +kernel⟩
abbrev s_law : Stmt := top 27
abbrev N_law : List Str := ["script", "draws", "many", "net", "rows", "step", "one", "other", "row", "told", "full", "pair", "every", "bad", "options", "model", "good", "odd", "k", "place", "value", "message", "which"]
theorem sc_law : FnScope N_law ["script"] (defScope s_law) := ⟨rfl, rfl, rfl, by decide +kernel, rfl, by decide +kernel, by decide +kernel⟩
structure Txt (K : PySem.W.Frag) (mg : Str → Option Value) (A : Ads) where
  is_number : FnAt K mg "is_number" s_is_number ["value", "least", "most"]
  is_map : FnAt K mg "is_map" s_is_map ["model", "processors", "value"]
  is_schedule : FnAt K mg "is_schedule" s_is_schedule ["value"]
  chosen : FnAt K mg "chosen" s_chosen ["schedule", "step", "options"]
  Net__init_ : InAt K mg A.Net "Net" "Net.__init__" s_Net__init_ ["self", "processors"]
  Net_check : MeAt K A.Net "check" "Net.check" s_Net_check ["self", "sender", "receiver"]
  Net_put : MeAt K A.Net "put" "Net.put" s_Net_put ["self", "sender", "receiver", "message"]
  Net_take : MeAt K A.Net "take" "Net.take" s_Net_take ["self", "sender", "receiver"]
  Net_ready : MeAt K A.Net "ready" "Net.ready" s_Net_ready ["self"]
  Net_messages : MeAt K A.Net "messages" "Net.messages" s_Net_messages ["self"]
  Net_many : MeAt K A.Net "many" "Net.many" s_Net_many ["self"]
  law_draws : FnAt K mg "_law_draws" s_law_draws ["script"]
  law_take : FnAt K mg "_law_take" s_law_take ["draws", "bound"]
  law_alike : FnAt K mg "_law_alike" s_law_alike ["found", "due"]
  law_says : FnAt K mg "_law_says" s_law_says ["told", "due"]
  law_word : FnAt K mg "_law_word" s_law_word ["e"]
  law_expression : FnAt K mg "_law_expression" s_law_expression ["draws", "names", "deep"]
  law_body : FnAt K mg "_law_body" s_law_body ["draws", "names", "kinds", "deep"]
  law_send : FnAt K mg "_law_send" s_law_send ["draws", "names", "kinds"]
  law_many : FnAt K mg "_law_many" s_law_many ["part"]
  law_model : FnAt K mg "_law_model" s_law_model ["draws", "most"]
  law_told : FnAt K mg "_law_told" s_law_told ["net", "which", "one", "other"]
  law : FnAt K mg "law" s_law ["script"]
  d_is_map : FunC K "is_map" "is_map" s_is_map is_map.a is_map.fd A.D_is_map
  d_is_schedule : FunC K "is_schedule" "is_schedule" s_is_schedule is_schedule.a is_schedule.fd A.D_is_schedule
  n_Net_processors : NoAttr K A.Net "processors"
  n_Net_rows : NoAttr K A.Net "rows"
  x_TraceError : GlAt K mg "TraceError" A.TraceError
  x_OutOfRange : GlAt K mg "OutOfRange" A.OutOfRange
  x_Malformed : GlAt K mg "Malformed" A.Malformed
  x_NotThere : ExAt K mg "NotThere" A.NotThere
  x_Refused : GlAt K mg "Refused" A.Refused
  x_TooMuch : GlAt K mg "TooMuch" A.TooMuch
  e_NotThere_TraceError : PySem.W.exmOne K (.ref A.NotThere) (.ref A.TraceError) = some true
  i_NotThere_OutOfRange : PySem.W.kitOne K (.ref A.NotThere) (.ref A.OutOfRange) = some false
  i_NotThere_Malformed : PySem.W.kitOne K (.ref A.NotThere) (.ref A.Malformed) = some false
  i_NotThere_NotThere : PySem.W.kitOne K (.ref A.NotThere) (.ref A.NotThere) = some true
  i_NotThere_Refused : PySem.W.kitOne K (.ref A.NotThere) (.ref A.Refused) = some false
  i_NotThere_TooMuch : PySem.W.kitOne K (.ref A.NotThere) (.ref A.TooMuch) = some false
  b_len : mg "len" = none
  b_abs : mg "abs" = none
  b_int : mg "int" = none
  b_list : mg "list" = none
  b_reversed : mg "reversed" = none
  b_isinstance : mg "isinstance" = none
  b_range : mg "range" = none
  b_bool : mg "bool" = none
  b_str : mg "str" = none
  b_tuple : mg "tuple" = none
  b_sorted : mg "sorted" = none
  b_sum : mg "sum" = none
  b_all : mg "all" = none
  c_MOST_DRAW : CoAt K mg "MOST_DRAW" (.int 1000000000)
section
variable {P : Program} {w : World} {K : PySem.W.Frag} {mg : Str → Option Value} {base : Heap} {A : Ads}
theorem ok_is_number (T : Txt K mg A)  
    (len : ∀ vs H Q E, sp_is_number vs H Q E → vs.length = 3) (rd : ∀ vs H Q E, sp_is_number vs H Q E → t_is_number K A E  { nx := fun _ H' => Q .non H', rt := Q } (L2.start N_is_number vs) H) :
    FnOk P w K mg base CX0 1 T.is_number.a T.is_number.fd ["value", "least", "most"] sp_is_number := by
  refine T.is_number.F.ok sc_is_number len (fun cdv AA outer s H vs Q E hr h => ⟨t_is_number K A E , ?_, rd vs H Q E h⟩)
  have hr : Room 0 _ := hr
  have hu := hr
  have nd := sc_is_number.nd
  exact (pss_one (ps_ret (d_and (pe_callB d_isi (by rfl) T.b_isinstance (by decide +kernel) (pa_cons (dv 0) (pa_cons (pe_bltn (by rfl) T.b_int boot_int rfl) pa_nil))) (d_and (d_not (pe_callB d_isi (by rfl) T.b_isinstance (by decide +kernel) (pa_cons (dv 0) (pa_cons (pe_bltn (by rfl) T.b_bool boot_bool rfl) pa_nil)))) (pe_one (d_chain d_le d_le (dv 1) (dv 0) (dv 2)))))))
theorem ok_is_map (T : Txt K mg A)  (TB_is_map : GxR.TabB base mg A.D_is_map A.P_is_map) (G_is_number : FnOk P w K mg base CX0 1 T.is_number.a T.is_number.fd ["value", "least", "most"] sp_is_number)
    (len : ∀ vs H Q E, (sp_is_map A) vs H Q E → vs.length = 3) (rd : ∀ vs H Q E, (sp_is_map A) vs H Q E → t_is_map K A E  { nx := fun _ H' => Q .non H', rt := Q } (L2.start N_is_map vs) H) :
    FnOk P w K mg base CX0 3 T.is_map.a T.is_map.fd ["model", "processors", "value"] (sp_is_map A) := by
  refine T.d_is_map.ok sc_is_map len (fun AA outer s H vs Q E hr h => ⟨t_is_map K A E , ?_, rd vs H Q E h⟩)
  have hr : Room 2 _ := hr
  have hu := hr
  have nd := sc_is_map.nd
  exact (pss_cons (ps_if (PW.pt (pw_or (pt_not (dt_tru (pe_callB d_isi (by rfl) T.b_isinstance (by decide +kernel) (pa_cons (dv 2) (pa_cons (pe_bltn (by rfl) T.b_tuple boot_tuple rfl) pa_nil))))) (pw_or1 (dt_cmp d_ne (pe_callB d_len (by rfl) T.b_len (by decide +kernel) (pa_cons (dv 2) pa_nil)) (pe_callB d_len (by rfl) T.b_len (by decide +kernel) (pa_cons (dv 0) pa_nil)) (nomark _)))))
  (pss_one (ps_ret pe_bl))
  pss_nil)
  (pss_one (ps_ret (d_allT (own := [("one", 3)]) rfl nd hr T.b_all TB_is_map rfl (dv 2) (gxOk_by (N := N_is_map) (sc := (defScope s_is_map)) (by decide +kernel)) (fun _ _ _ _ _ => (pg_name (i := 3) nd rfl (Or.inl rfl))) (fun _ _ _ _ _ _ => pts_nil) (fun _ _ _ _ _ hr => by have hu := hr; exact (c_call G_is_number (hr.mono (by decide)) T.is_number.g T.is_number.F.kp T.is_number.b (fun _ => at0) (pa_cons (dv 3) (pa_cons pe_int (pa_cons (pe_op d_sub (dv 1) pe_int) pa_nil)))))))))
theorem ok_is_schedule (T : Txt K mg A)  (TB_is_schedule : GxR.TabB base mg A.D_is_schedule A.P_is_schedule) (G_is_number : FnOk P w K mg base CX0 1 T.is_number.a T.is_number.fd ["value", "least", "most"] sp_is_number)
    (len : ∀ vs H Q E, (sp_is_schedule A) vs H Q E → vs.length = 1) (rd : ∀ vs H Q E, (sp_is_schedule A) vs H Q E → t_is_schedule K A E  { nx := fun _ H' => Q .non H', rt := Q } (L2.start N_is_schedule vs) H) :
    FnOk P w K mg base CX0 3 T.is_schedule.a T.is_schedule.fd ["value"] (sp_is_schedule A) := by
  refine T.d_is_schedule.ok sc_is_schedule len (fun AA outer s H vs Q E hr h => ⟨t_is_schedule K A E , ?_, rd vs H Q E h⟩)
  have hr : Room 2 _ := hr
  have hu := hr
  have nd := sc_is_schedule.nd
  exact (pss_one (ps_ret (d_and (pe_callB d_isi (by rfl) T.b_isinstance (by decide +kernel) (pa_cons (dv 0) (pa_cons (pe_bltn (by rfl) T.b_tuple boot_tuple rfl) pa_nil))) (d_and (pe_cmpR d_gt (pe_callB d_len (by rfl) T.b_len (by decide +kernel) (pa_cons (dv 0) pa_nil)) pe_int (nomark _)) (pe_one (d_allT (own := [("one", 1)]) rfl nd hr T.b_all TB_is_schedule rfl (dv 0) (gxOk_by (N := N_is_schedule) (sc := (defScope s_is_schedule)) (by decide +kernel)) (fun _ _ _ _ _ => (pg_name (i := 1) nd rfl (Or.inl rfl))) (fun _ _ _ _ _ _ => pts_nil) (fun _ _ _ _ _ hr => by have hu := hr; exact (c_call G_is_number (hr.mono (by decide)) T.is_number.g T.is_number.F.kp T.is_number.b (fun _ => at0) (pa_cons (dv 1) (pa_cons pe_int (pa_cons (let ⟨_, hm, hr⟩ := T.c_MOST_DRAW.ex; pe_glob (by rfl) hm hr) pa_nil)))))))))))
theorem ok_chosen (T : Txt K mg A)  
    (len : ∀ vs H Q E, sp_chosen vs H Q E → vs.length = 3) (rd : ∀ vs H Q E, sp_chosen vs H Q E → t_chosen K A E  { nx := fun _ H' => Q .non H', rt := Q } (L2.start N_chosen vs) H) :
    FnOk P w K mg base CX0 1 T.chosen.a T.chosen.fd ["schedule", "step", "options"] sp_chosen := by
  refine T.chosen.F.ok sc_chosen len (fun cdv AA outer s H vs Q E hr h => ⟨t_chosen K A E , ?_, rd vs H Q E h⟩)
  have hr : Room 0 _ := hr
  have hu := hr
  have nd := sc_chosen.nd
  exact (pss_one (ps_ret (pe_ix d_ix (dv 2) (pe_op d_mod (pe_ix d_ix (dv 0) (pe_op d_mod (dv 1) (pe_callB d_len (by rfl) T.b_len (by decide +kernel) (pa_cons (dv 0) pa_nil))) (fun _ _ => rfl)) (pe_callB d_len (by rfl) T.b_len (by decide +kernel) (pa_cons (dv 2) pa_nil))) (fun _ _ => rfl))))
theorem ok_Net__init_ (T : Txt K mg A)  
    (len : ∀ vs H Q E, (sp_Net__init_ A) vs H Q E → vs.length = 2) (rd : ∀ vs H Q E, (sp_Net__init_ A) vs H Q E → t_Net__init_ K A E  { nx := fun _ H' => Q .non H', rt := Q } (L2.start N_Net__init_ vs) H) :
    FnOk P w K mg base CX0 1 T.Net__init_.a T.Net__init_.fd ["self", "processors"] (sp_Net__init_ A) := by
  refine T.Net__init_.F.ok sc_Net__init_ len (fun cdv AA outer s H vs Q E hr h => ⟨t_Net__init_ K A E , ?_, rd vs H Q E h⟩)
  have hr : Room 0 _ := hr
  have hu := hr
  have nd := sc_Net__init_.nd
  exact (pss_cons (d_sfld T.Net__init_.cl T.n_Net_processors (dv 0) (dv 1))
  (pss_one (d_sfld T.Net__init_.cl T.n_Net_rows (dv 0) pe_dnewT)))
theorem ok_Net_check (T : Txt K mg A)  (G_is_number : FnOk P w K mg base CX0 1 T.is_number.a T.is_number.fd ["value", "least", "most"] sp_is_number)
    (len : ∀ vs H Q E, (sp_Net_check A) vs H Q E → vs.length = 3) (rd : ∀ vs H Q E, (sp_Net_check A) vs H Q E → t_Net_check K A E  { nx := fun _ H' => Q .non H', rt := Q } (L2.start N_Net_check vs) H) :
    FnOk P w K mg base (L2N.CX P w) 2 T.Net_check.a T.Net_check.fd ["self", "sender", "receiver"] (sp_Net_check A) := by
  refine okN T.Net_check.F sc_Net_check len (fun cdv AA outer s H vs Q E hr h => ⟨t_Net_check K A E , ?_, rd vs H Q E h⟩)
  have hr : Room 1 _ := hr
  have hu := hr
  have nd := sc_Net_check.nd
  exact (pss_cons (ps_if (PW.pt (pw_or (pt_not (dt_tru (c_call G_is_number (hr.mono (by decide)) T.is_number.g T.is_number.F.kp T.is_number.b (fun _ => at0) (pa_cons (dv 1) (pa_cons pe_int (pa_cons (pe_op d_sub (d_fld T.Net__init_.cl T.n_Net_processors (dv 0)) pe_int) pa_nil)))))) (pw_or1 (pt_not (dt_tru (c_call G_is_number (hr.mono (by decide)) T.is_number.g T.is_number.F.kp T.is_number.b (fun _ => at0) (pa_cons (dv 2) (pa_cons pe_int (pa_cons (pe_op d_sub (d_fld T.Net__init_.cl T.n_Net_processors (dv 0)) pe_int) pa_nil)))))))))
  (pss_one (L2N.ps_raise rfl (tkN rfl rfl rfl rfl) (L2N.pmk_own PySem.F.excBase_ValueError T.x_NotThere.ex T.x_NotThere.g T.x_NotThere.k (raises_own T.x_NotThere.b T.x_NotThere.t) (by rfl))))
  pss_nil)
  (pss_one (ps_if (dt_cmp d_eq (dv 1) (dv 2) (nomark _))
  (pss_one (L2N.ps_raise rfl (tkN rfl rfl rfl rfl) (L2N.pmk_own PySem.F.excBase_ValueError T.x_NotThere.ex T.x_NotThere.g T.x_NotThere.k (raises_own T.x_NotThere.b T.x_NotThere.t) (by rfl))))
  pss_nil)))
theorem ok_Net_put (T : Txt K mg A)  (G_Net_check : FnOk P w K mg base (L2N.CX P w) 2 T.Net_check.a T.Net_check.fd ["self", "sender", "receiver"] (sp_Net_check A))
    (len : ∀ vs H Q E, (sp_Net_put A) vs H Q E → vs.length = 4) (rd : ∀ vs H Q E, (sp_Net_put A) vs H Q E → t_Net_put K A E  { nx := fun _ H' => Q .non H', rt := Q } (L2.start N_Net_put vs) H) :
    FnOk P w K mg base (L2N.CX P w) 3 T.Net_put.a T.Net_put.fd ["self", "sender", "receiver", "message"] (sp_Net_put A) := by
  refine okN T.Net_put.F sc_Net_put len (fun cdv AA outer s H vs Q E hr h => ⟨t_Net_put K A E , ?_, rd vs H Q E h⟩)
  have hr : Room 2 _ := hr
  have hu := hr
  have nd := sc_Net_put.nd
  exact (pss_cons (ps_expr (d_meth (dv 0) T.Net__init_.cl T.Net_check.m G_Net_check (hr.mono (by decide)) T.Net_check.b (fun σ => L2N.passAt (tkN rfl rfl rfl rfl) σ) (pa_cons (dv 1) (pa_cons (dv 2) pa_nil))))
  (pss_one (ps_dput (room1 hu) (d_fld T.Net__init_.cl T.n_Net_rows (dv 0)) (pe_tup (pa_cons (dv 1) (pa_cons (dv 2) pa_nil))) (pe_lst (d_star (pe_dget2 (room1 hu) (d_fld T.Net__init_.cl T.n_Net_rows (dv 0)) (pe_tup (pa_cons (dv 1) (pa_cons (dv 2) pa_nil))) (pe_lst pa_nil) ⟨rfl, by rfl, by rfl, by rfl⟩) (pa_cons (dv 3) pa_nil))) rfl)))
theorem ok_Net_take (T : Txt K mg A)  (G_Net_check : FnOk P w K mg base (L2N.CX P w) 2 T.Net_check.a T.Net_check.fd ["self", "sender", "receiver"] (sp_Net_check A))
    (len : ∀ vs H Q E, (sp_Net_take A) vs H Q E → vs.length = 3) (rd : ∀ vs H Q E, (sp_Net_take A) vs H Q E → t_Net_take K A E  { nx := fun _ H' => Q .non H', rt := Q } (L2.start N_Net_take vs) H) :
    FnOk P w K mg base (L2N.CX P w) 3 T.Net_take.a T.Net_take.fd ["self", "sender", "receiver"] (sp_Net_take A) := by
  refine okN T.Net_take.F sc_Net_take len (fun cdv AA outer s H vs Q E hr h => ⟨t_Net_take K A E , ?_, rd vs H Q E h⟩)
  have hr : Room 2 _ := hr
  have hu := hr
  have nd := sc_Net_take.nd
  exact (pss_cons (ps_expr (d_meth (dv 0) T.Net__init_.cl T.Net_check.m G_Net_check (hr.mono (by decide)) T.Net_check.b (fun σ => L2N.passAt (tkN rfl rfl rfl rfl) σ) (pa_cons (dv 1) (pa_cons (dv 2) pa_nil))))
  (pss_cons (ps_set (i := 3) nd rfl (Or.inl rfl) (pe_dget2 (room1 hu) (d_fld T.Net__init_.cl T.n_Net_rows (dv 0)) (pe_tup (pa_cons (dv 1) (pa_cons (dv 2) pa_nil))) (pe_lst pa_nil) ⟨rfl, by rfl, by rfl, by rfl⟩))
  (pss_cons (ps_if (dt_cmp d_eq (pe_callB d_len (by rfl) T.b_len (by decide +kernel) (pa_cons (dv 3) pa_nil)) pe_int (nomark _))
  (pss_one (L2N.ps_raise rfl (tkN rfl rfl rfl rfl) (L2N.pmk_own PySem.F.excBase_ValueError T.x_NotThere.ex T.x_NotThere.g T.x_NotThere.k (raises_own T.x_NotThere.b T.x_NotThere.t) (by rfl))))
  pss_nil)
  (pss_cons (ps_dput (room1 hu) (d_fld T.Net__init_.cl T.n_Net_rows (dv 0)) (pe_tup (pa_cons (dv 1) (pa_cons (dv 2) pa_nil))) (pe_slice d_sl (dv 3) (po_d pe_int) po_none) rfl)
  (pss_one (ps_ret (pe_ix d_ix (dv 3) pe_int (fun _ _ => rfl))))))))
theorem ok_Net_ready (T : Txt K mg A)  
    (len : ∀ vs H Q E, (sp_Net_ready A) vs H Q E → vs.length = 1) (rd : ∀ vs H Q E, (sp_Net_ready A) vs H Q E → t_Net_ready K A E  { nx := fun _ H' => Q .non H', rt := Q } (L2.start N_Net_ready vs) H) :
    FnOk P w K mg base CX0 1 T.Net_ready.a T.Net_ready.fd ["self"] (sp_Net_ready A) := by
  refine T.Net_ready.F.ok sc_Net_ready len (fun cdv AA outer s H vs Q E hr h => ⟨t_Net_ready K A E , ?_, rd vs H Q E h⟩)
  have hr : Room 0 _ := hr
  have hu := hr
  have nd := sc_Net_ready.nd
  exact (pss_one (ps_ret (pe_callTy d_tupleOf (by rfl) T.b_tuple (by decide +kernel) (pa_cons (pe_callB (cr_sortD (room64 hu)) (by rfl) T.b_sorted (by decide +kernel) (pa_cons (pe_lock (pe_lc (own := [("pair", 1), ("row", 2)]) rfl nd (pi_itemsT (d_fld T.Net__init_.cl T.n_Net_rows (dv 0))) (blkOk_by (N := N_Net_ready) (sc := (defScope s_Net_ready)) (by decide +kernel)) (fun _ _ _ _ _ => (dg_tup (by rfl) (dg_cons (pg_name (i := 1) nd rfl (Or.inl rfl)) (dg_cons (pg_name (i := 2) nd rfl (Or.inl rfl)) dg_nil)))) (fun _ _ _ _ _ => pts_one (dt_cmp d_gt (pe_callB d_len (by rfl) T.b_len (by decide +kernel) (pa_cons (dv 2) pa_nil)) pe_int (nomark _))) (fun _ _ _ _ _ => (dv 1)))) pa_nil)) pa_nil))))
theorem ok_Net_messages (T : Txt K mg A)  
    (len : ∀ vs H Q E, (sp_Net_messages A) vs H Q E → vs.length = 1) (rd : ∀ vs H Q E, (sp_Net_messages A) vs H Q E → t_Net_messages K A E  { nx := fun _ H' => Q .non H', rt := Q } (L2.start N_Net_messages vs) H) :
    FnOk P w K mg base CX0 1 T.Net_messages.a T.Net_messages.fd ["self"] (sp_Net_messages A) := by
  refine T.Net_messages.F.ok sc_Net_messages len (fun cdv AA outer s H vs Q E hr h => ⟨t_Net_messages K A E , ?_, rd vs H Q E h⟩)
  have hr : Room 0 _ := hr
  have hu := hr
  have nd := sc_Net_messages.nd
  exact (pss_cons (ps_set (i := 1) nd rfl (Or.inl rfl) (pe_lst pa_nil))
  (pss_cons (d_forL PassesOwn.never rfl (pe_callB (cr_sortKT rfl (room64 hu)) (by rfl) T.b_sorted (by decide +kernel) (pa_cons (d_fld T.Net__init_.cl T.n_Net_rows (dv 0)) pa_nil)) (pg_name (i := 2) nd rfl (Or.inl rfl))
  (pss_one (ps_aug (i := 1) nd rfl (Or.inl rfl) (pe_dget (room1 hu) (d_fld T.Net__init_.cl T.n_Net_rows (dv 0)) (dv 2) (fun _ _ => rfl)) (fun pins s σ H x y v u Q I r1 r2 q => iop_ext pins s σ H x y v u Q I r1 r2 q))))
  (pss_one (ps_ret (dv 1)))))
theorem ok_Net_many (T : Txt K mg A)  (G_Net_messages : FnOk P w K mg base CX0 1 T.Net_messages.a T.Net_messages.fd ["self"] (sp_Net_messages A))
    (len : ∀ vs H Q E, (sp_Net_many A) vs H Q E → vs.length = 1) (rd : ∀ vs H Q E, (sp_Net_many A) vs H Q E → t_Net_many K A E  { nx := fun _ H' => Q .non H', rt := Q } (L2.start N_Net_many vs) H) :
    FnOk P w K mg base CX0 2 T.Net_many.a T.Net_many.fd ["self"] (sp_Net_many A) := by
  refine T.Net_many.F.ok sc_Net_many len (fun cdv AA outer s H vs Q E hr h => ⟨t_Net_many K A E , ?_, rd vs H Q E h⟩)
  have hr : Room 1 _ := hr
  have hu := hr
  have nd := sc_Net_many.nd
  exact (pss_one (ps_ret (pe_callB d_len (by rfl) T.b_len (by decide +kernel) (pa_cons (d_meth0 (dv 0) T.Net__init_.cl T.Net_messages.m G_Net_messages (hr.mono (by decide)) T.Net_messages.b (fun _ => at0)) pa_nil))))
theorem ok_law_draws (T : Txt K mg A)  
    (len : ∀ vs H Q E, (sp_law_draws K) vs H Q E → vs.length = 1) (rd : ∀ vs H Q E, (sp_law_draws K) vs H Q E → t_law_draws K A E  { nx := fun _ H' => Q .non H', rt := Q } (L2.start N_law_draws vs) H) :
    FnOk P w K mg base CX0 1 T.law_draws.a T.law_draws.fd ["script"] (sp_law_draws K) := by
  refine T.law_draws.F.ok sc_law_draws len (fun cdv AA outer s H vs Q E hr h => ⟨t_law_draws K A E , ?_, rd vs H Q E h⟩)
  have hr : Room 0 _ := hr
  have hu := hr
  have nd := sc_law_draws.nd
  exact (pss_cons (ps_set (i := 1) nd rfl (Or.inl rfl) (pe_lst pa_nil))
  (pss_cons (d_forL PassesOwn.never rfl (dv 0) (pg_name (i := 2) nd rfl (Or.inl rfl))
  (pss_cons (ps_set (i := 3) nd rfl (Or.inl rfl) (pe_callB d_abs (by rfl) T.b_abs (by decide +kernel) (pa_cons (dv 2) pa_nil)))
  (pss_cons (ps_if (dt_cmp d_lt (dv 3) (pe_op d_pow pe_int pe_int) (nomark _))
  (pss_cons (ps_set (i := 4) nd rfl (Or.inl rfl) (pe_op d_mod (pe_callTy d_int (by rfl) T.b_int (by decide +kernel) (pa_cons (pe_op d_add2 (pe_op d_mul (dv 3) pe_int) pe_int) pa_nil)) pe_int))
  (pss_cons (ps_expr (d_bm PySem.F.plainAttrs_list PySem.F.slot_list_append PySem.F.type_list_append m_append (dv 1) (pa_cons (pe_op d_mod (pe_callTy d_int (by rfl) T.b_int (by decide +kernel) (pa_cons (pe_op d_add2 (pe_op d_mul (dv 4) pe_int) (dv 3)) pa_nil)) pe_int) pa_nil)))
  (pss_cons (ps_expr (d_bm PySem.F.plainAttrs_list PySem.F.slot_list_append PySem.F.type_list_append m_append (dv 1) (pa_cons (pe_op d_mod (pe_callTy d_int (by rfl) T.b_int (by decide +kernel) (pa_cons (pe_op d_add2 (dv 4) (pe_op d_div (dv 3) pe_int)) pa_nil)) pe_int) pa_nil)))
  (pss_one (ps_set (i := 3) nd rfl (Or.inl rfl) pe_int)))))
  pss_nil)
  (pss_one (d_forR1 PassesOwn.never rfl T.b_range (pa_cons pe_int pa_nil) (pg_name (i := 5) nd rfl (Or.inl rfl))
  (pss_one (ps_if (dt_cmp d_gt (dv 3) pe_int (nomark _))
  (pss_cons (ps_expr (d_bm PySem.F.plainAttrs_list PySem.F.slot_list_append PySem.F.type_list_append m_append (dv 1) (pa_cons (pe_op d_mod (pe_callTy d_int (by rfl) T.b_int (by decide +kernel) (pa_cons (dv 3) pa_nil)) pe_int) pa_nil)))
  (pss_one (ps_set (i := 3) nd rfl (Or.inl rfl) (pe_op d_div (dv 3) pe_int))))
  pss_nil)))))))
  (pss_cons (ps_set (i := 6) nd rfl (Or.inl rfl) pe_int)
  (pss_cons (ps_if (dt_cmp d_gt (pe_callB u_len (by rfl) T.b_len (by decide +kernel) (pa_cons (dv 0) pa_nil)) pe_int (nomark _))
  (pss_one (ps_set (i := 6) nd rfl (Or.inl rfl) (pe_op d_add2 pe_int (pe_callB d_abs (by rfl) T.b_abs (by decide +kernel) (pa_cons (pe_ix ix_seq (dv 0) pe_int (fun _ _ => rfl)) pa_nil)))))
  pss_nil)
  (pss_cons (d_forR1 PassesOwn.never rfl T.b_range (pa_cons pe_int pa_nil) (pg_name (i := 5) nd rfl (Or.inl rfl))
  (pss_cons (ps_set (i := 6) nd rfl (Or.inl rfl) (pe_op d_mod (pe_callTy d_int (by rfl) T.b_int (by decide +kernel) (pa_cons (pe_op d_add2 (pe_op d_mul (dv 6) pe_int) pe_int) pa_nil)) pe_int))
  (pss_one (ps_expr (d_bm PySem.F.plainAttrs_list PySem.F.slot_list_append PySem.F.type_list_append m_append (dv 1) (pa_cons (pe_op d_div (dv 6) pe_int) pa_nil))))))
  (pss_one (ps_ret (pe_listRev rfl T.b_list T.b_reversed (dv 1)))))))))
theorem ok_law_take (T : Txt K mg A)  
    (len : ∀ vs H Q E, sp_law_take vs H Q E → vs.length = 2) (rd : ∀ vs H Q E, sp_law_take vs H Q E → t_law_take K A E  { nx := fun _ H' => Q .non H', rt := Q } (L2.start N_law_take vs) H) :
    FnOk P w K mg base CX0 1 T.law_take.a T.law_take.fd ["draws", "bound"] sp_law_take := by
  refine T.law_take.F.ok sc_law_take len (fun cdv AA outer s H vs Q E hr h => ⟨t_law_take K A E , ?_, rd vs H Q E h⟩)
  have hr : Room 0 _ := hr
  have hu := hr
  have nd := sc_law_take.nd
  exact (pss_cons (ps_if (dt_cmp d_eq (pe_callB d_len (by rfl) T.b_len (by decide +kernel) (pa_cons (dv 0) pa_nil)) pe_int (nomark _))
  (pss_one (ps_ret pe_int))
  pss_nil)
  (pss_one (ps_ret (pe_op d_mod (pe_callTy d_int (by rfl) T.b_int (by decide +kernel) (pa_cons (d_bm0 PySem.F.plainAttrs_list PySem.F.slot_list_pop PySem.F.type_list_pop m_pop (dv 0)) pa_nil)) (dv 1)))))
theorem ok_law_alike (T : Txt K mg A) (sq ss : Sp) (n : Nat) (G_law_alike : FnOk P w K mg base CX0 (n + 1) T.law_alike.a T.law_alike.fd ["found", "due"] sq)
    (len : ∀ vs H Q E, ss vs H Q E → vs.length = 2) (rd : ∀ vs H Q E, ss vs H Q E → t_law_alike K A E sq { nx := fun _ H' => Q .non H', rt := Q } (L2.start N_law_alike vs) H) :
    FnOk P w K mg base CX0 (n + 2) T.law_alike.a T.law_alike.fd ["found", "due"] ss := by
  refine T.law_alike.F.ok sc_law_alike len (fun cdv AA outer s H vs Q E hr h => ⟨t_law_alike K A E sq, ?_, rd vs H Q E h⟩)
  have hr : Room (n + 1) _ := hr
  have hu := hr
  have nd := sc_law_alike.nd
  exact (pss_cons (ps_if (PW.pt (pw_or (dt_tru (pe_callB d_isi (by rfl) T.b_isinstance (by decide +kernel) (pa_cons (dv 1) (pa_cons (pe_bltn (by rfl) T.b_list boot_list rfl) pa_nil)))) (pw_or1 (dt_tru (pe_callB d_isi (by rfl) T.b_isinstance (by decide +kernel) (pa_cons (dv 1) (pa_cons (pe_bltn (by rfl) T.b_tuple boot_tuple rfl) pa_nil)))))))
  (pss_cons (ps_if (PW.pt (pw_or (dt_cmp d_ne (pe_callB d_isi (by rfl) T.b_isinstance (by decide +kernel) (pa_cons (dv 0) (pa_cons (pe_bltn (by rfl) T.b_list boot_list rfl) pa_nil))) (pe_callB d_isi (by rfl) T.b_isinstance (by decide +kernel) (pa_cons (dv 1) (pa_cons (pe_bltn (by rfl) T.b_list boot_list rfl) pa_nil))) (nomark _)) (pw_or1 (dt_cmp d_ne (pe_callB d_isi (by rfl) T.b_isinstance (by decide +kernel) (pa_cons (dv 0) (pa_cons (pe_bltn (by rfl) T.b_tuple boot_tuple rfl) pa_nil))) (pe_callB d_isi (by rfl) T.b_isinstance (by decide +kernel) (pa_cons (dv 1) (pa_cons (pe_bltn (by rfl) T.b_tuple boot_tuple rfl) pa_nil))) (nomark _)))))
  (pss_one (ps_ret pe_bl))
  pss_nil)
  (pss_one (ps_ret (d_and (pe_cmpR d_eq (pe_callB d_len (by rfl) T.b_len (by decide +kernel) (pa_cons (dv 0) pa_nil)) (pe_callB d_len (by rfl) T.b_len (by decide +kernel) (pa_cons (dv 1) pa_nil)) (nomark _)) (pe_one (pe_cmpR (d_eqD hu) (d_lcR1 (own := [("k", 2)]) rfl nd T.b_range (pa_cons (pe_callB d_len (by rfl) T.b_len (by decide +kernel) (pa_cons (dv 1) pa_nil)) pa_nil) (blkOk_by (N := N_law_alike) (sc := (defScope s_law_alike)) (by decide +kernel)) (fun _ _ _ _ _ => (pg_name (i := 2) nd rfl (Or.inl rfl))) (fun _ _ _ _ _ => pts_one (pt_not (dt_tru (c_call G_law_alike (hr.mono (by omega)) T.law_alike.g T.law_alike.F.kp T.law_alike.b (fun _ => at0) (pa_cons (pe_ix d_ix (dv 0) (dv 2) (fun _ _ => rfl)) (pa_cons (pe_ix d_ix (dv 1) (dv 2) (fun _ _ => rfl)) pa_nil)))))) (fun _ _ _ _ _ => (dv 2))) (pe_lst pa_nil) (nomark _)))))))
  pss_nil)
  (pss_cons (ps_if (dt_cmp d_is (dv 1) pe_non (nomark _))
  (pss_one (ps_ret (pe_cmpR d_is (dv 0) pe_non (nomark _))))
  pss_nil)
  (pss_cons (ps_if (PW.pt (pw_or (dt_tru (pe_callB d_isi (by rfl) T.b_isinstance (by decide +kernel) (pa_cons (dv 1) (pa_cons (pe_bltn (by rfl) T.b_bool boot_bool rfl) pa_nil)))) (pw_or1 (dt_tru (pe_callB d_isi (by rfl) T.b_isinstance (by decide +kernel) (pa_cons (dv 0) (pa_cons (pe_bltn (by rfl) T.b_bool boot_bool rfl) pa_nil)))))))
  (pss_one (ps_ret (d_and (pe_callB d_isi (by rfl) T.b_isinstance (by decide +kernel) (pa_cons (dv 0) (pa_cons (pe_bltn (by rfl) T.b_bool boot_bool rfl) pa_nil))) (d_and (pe_callB d_isi (by rfl) T.b_isinstance (by decide +kernel) (pa_cons (dv 1) (pa_cons (pe_bltn (by rfl) T.b_bool boot_bool rfl) pa_nil))) (pe_one (pe_cmpR d_eq (dv 0) (dv 1) (nomark _)))))))
  pss_nil)
  (pss_cons (ps_if (dt_tru (pe_callB d_isi (by rfl) T.b_isinstance (by decide +kernel) (pa_cons (dv 1) (pa_cons (pe_bltn (by rfl) T.b_int boot_int rfl) pa_nil))))
  (pss_one (ps_ret (d_and (pe_callB d_isi (by rfl) T.b_isinstance (by decide +kernel) (pa_cons (dv 0) (pa_cons (pe_bltn (by rfl) T.b_int boot_int rfl) pa_nil))) (pe_one (pe_cmpR d_eq (dv 0) (dv 1) (nomark _))))))
  pss_nil)
  (pss_one (ps_ret (d_and (pe_callB d_isi (by rfl) T.b_isinstance (by decide +kernel) (pa_cons (dv 0) (pa_cons (pe_bltn (by rfl) T.b_str boot_str rfl) pa_nil))) (pe_one (pe_cmpR d_eq (dv 0) (dv 1) (nomark _))))))))))
theorem ok_law_says (T : Txt K mg A)  
    (len : ∀ vs H Q E, sp_law_says vs H Q E → vs.length = 2) (rd : ∀ vs H Q E, sp_law_says vs H Q E → t_law_says K A E  { nx := fun _ H' => Q .non H', rt := Q } (L2.start N_law_says vs) H) :
    FnOk P w K mg base CX0 1 T.law_says.a T.law_says.fd ["told", "due"] sp_law_says := by
  refine T.law_says.F.ok sc_law_says len (fun cdv AA outer s H vs Q E hr h => ⟨t_law_says K A E , ?_, rd vs H Q E h⟩)
  have hr : Room 0 _ := hr
  have hu := hr
  have nd := sc_law_says.nd
  exact (pss_one (ps_ret (d_and (pe_callB d_isi (by rfl) T.b_isinstance (by decide +kernel) (pa_cons (dv 0) (pa_cons (pe_bltn (by rfl) T.b_bool boot_bool rfl) pa_nil))) (pe_one (pe_cmpR d_eq (dv 0) (dv 1) (nomark _))))))
theorem ok_law_word (T : Txt K mg A) (len : ∀ a c d vs H Q E, (sp_law_word K A) a c d vs H Q E → vs.length = 1)
    (hD : ∀ a c d vs H Q E, (sp_law_word K A) a c d vs H Q E → ∃ D, c = .ref D ∧ d = none ∧ ExcC K D) (rd : ∀ ax D vs H Q E, (sp_law_word K A) ax (.ref D) none vs H Q E → t_law_word K A E ax D { nx := fun _ H' => Q .non H', rt := Q } (L2.start N_law_word vs) H) :
    FnE P w K mg base 1 T.law_word.a T.law_word.fd ["e"] (sp_law_word K A) := by
  refine fnE_of T.law_word.F sc_law_word len (fun cdv AA outer s H vs Q E p c dd hot1 hzp hr h => ?_)
  obtain ⟨D, rfl, rfl, hDx⟩ := hD _ _ _ _ _ _ _ h
  obtain ⟨ax, oe⟩ := p
  refine ⟨t_law_word K A E ax D, ?_, rd ax D vs H Q E h⟩
  have hfp : ∃ vs, oe.data = .fields vs := hot1.2.elim fun v h => ⟨v, h.1⟩
  have nd := sc_law_word.nd
  have hot : L2H.HotC (L2H.cxH CX0 P w K mg base N_law_word "_law_word" (defScope s_law_word) T.law_word.a cdv AA outer s H E (ax, oe)) := ⟨(ax, oe), hot1, List.mem_cons_self⟩
  exact (pss_cons (ps_set (i := 1) nd rfl (Or.inl rfl) (pe_lst (pa_cons (pe_callB (d_isP hDx List.mem_cons_self hzp hfp) (by rfl) T.b_isinstance (by decide +kernel) (pa_cons (dv 0) (pa_cons (pe_glob (by rfl) T.x_OutOfRange.g rfl) pa_nil))) (pa_cons (pe_callB (d_isP hDx List.mem_cons_self hzp hfp) (by rfl) T.b_isinstance (by decide +kernel) (pa_cons (dv 0) (pa_cons (pe_glob (by rfl) T.x_Malformed.g rfl) pa_nil))) (pa_cons (pe_callB (d_isP hDx List.mem_cons_self hzp hfp) (by rfl) T.b_isinstance (by decide +kernel) (pa_cons (dv 0) (pa_cons (pe_glob (by rfl) T.x_NotThere.g rfl) pa_nil))) (pa_cons (pe_callB (d_isP hDx List.mem_cons_self hzp hfp) (by rfl) T.b_isinstance (by decide +kernel) (pa_cons (dv 0) (pa_cons (pe_glob (by rfl) T.x_Refused.g rfl) pa_nil))) (pa_cons (pe_callB (d_isP hDx List.mem_cons_self hzp hfp) (by rfl) T.b_isinstance (by decide +kernel) (pa_cons (dv 0) (pa_cons (pe_glob (by rfl) T.x_TooMuch.g rfl) pa_nil))) pa_nil)))))))
  (pss_cons (ps_if (dt_cmp d_ne (pe_callB d_len (by rfl) T.b_len (by decide +kernel) (pa_cons (d_lcH (own := [("kind", 2)]) hot nd (dv 1) (blkOk_by (N := N_law_word) (sc := (defScope s_law_word)) (by decide +kernel)) (fun _ _ _ _ _ => (pg_name (i := 2) nd rfl (Or.inl rfl))) (fun _ _ _ _ _ => pts_one (dt_tru (dv 2))) (fun _ _ _ _ _ => (dv 2))) pa_nil)) pe_int (nomark _))
  (pss_one (ps_ret pe_str))
  pss_nil)
  (pss_one (ps_ret (pe_ix d_ix (pe_lst (pa_cons pe_str (pa_cons pe_str (pa_cons pe_str (pa_cons pe_str (pa_cons pe_str pa_nil)))))) (d_bm PySem.F.plainAttrs_list PySem.F.slot_list_index PySem.F.type_list_index mt_index (dv 1) (pa_cons pe_bl pa_nil)) (fun _ _ => rfl))))))
theorem ok_law_expression (T : Txt K mg A) (sq ss : Sp) (n : Nat) (G_law_expression : FnOk P w K mg base CX0 (n + 1) T.law_expression.a T.law_expression.fd ["draws", "names", "deep"] sq) (G_law_take : FnOk P w K mg base CX0 1 T.law_take.a T.law_take.fd ["draws", "bound"] sp_law_take)
    (len : ∀ vs H Q E, ss vs H Q E → vs.length = 3) (rd : ∀ vs H Q E, ss vs H Q E → t_law_expression K A E sq { nx := fun _ H' => Q .non H', rt := Q } (L2.start N_law_expression vs) H) :
    FnOk P w K mg base CX0 (n + 2) T.law_expression.a T.law_expression.fd ["draws", "names", "deep"] ss := by
  refine T.law_expression.F.ok sc_law_expression len (fun cdv AA outer s H vs Q E hr h => ⟨t_law_expression K A E sq, ?_, rd vs H Q E h⟩)
  have hr : Room (n + 1) _ := hr
  have hu := hr
  have nd := sc_law_expression.nd
  exact (pss_cons (ps_set (i := 3) nd rfl (Or.inl rfl) (c_call G_law_take (hr.mono (by omega)) T.law_take.g T.law_take.F.kp T.law_take.b (fun _ => at0) (pa_cons (dv 0) (pa_cons pe_int pa_nil))))
  (pss_cons (ps_if (PW.pt (pw_or (dt_cmp d_eq (dv 2) pe_int (nomark _)) (pw_or1 (dt_cmp d_lt (dv 3) pe_int (nomark _)))))
  (pss_cons (ps_set (i := 4) nd rfl (Or.inl rfl) (pe_lst (pa_cons (pe_tup (pa_cons pe_str (pa_cons (c_call G_law_take (hr.mono (by omega)) T.law_take.g T.law_take.F.kp T.law_take.b (fun _ => at0) (pa_cons (dv 0) (pa_cons pe_int pa_nil))) pa_nil))) (pa_cons (pe_tup (pa_cons pe_str pa_nil)) (pa_cons (pe_tup (pa_cons pe_str pa_nil)) (pa_cons (pe_tup (pa_cons pe_str (pa_cons (pe_ix d_ix (pe_lst (pa_cons (c_call G_law_take (hr.mono (by omega)) T.law_take.g T.law_take.F.kp T.law_take.b (fun _ => at0) (pa_cons (dv 0) (pa_cons pe_int pa_nil))) (pa_cons (pe_op d_add2 pe_int (c_call G_law_take (hr.mono (by omega)) T.law_take.g T.law_take.F.kp T.law_take.b (fun _ => at0) (pa_cons (dv 0) (pa_cons pe_int pa_nil)))) pa_nil))) (c_call G_law_take (hr.mono (by omega)) T.law_take.g T.law_take.F.kp T.law_take.b (fun _ => at0) (pa_cons (dv 0) (pa_cons pe_int pa_nil))) (fun _ _ => rfl)) pa_nil))) pa_nil))))))
  (pss_cons (ps_set (i := 4) nd rfl (Or.inl rfl) (pe_op d_add2 (dv 4) (d_lcL (own := [("name", 6)]) rfl nd (dv 1) (blkOk_by (N := N_law_expression) (sc := (defScope s_law_expression)) (by decide +kernel)) (fun _ _ _ _ _ => (pg_name (i := 6) nd rfl (Or.inl rfl))) (fun _ _ _ _ _ => pts_nil) (fun _ _ _ _ _ => (pe_tup (pa_cons pe_str (pa_cons (dv 6) pa_nil)))))))
  (pss_one (ps_ret (pe_ix d_ix (dv 4) (c_call G_law_take (hr.mono (by omega)) T.law_take.g T.law_take.F.kp T.law_take.b (fun _ => at0) (pa_cons (dv 0) (pa_cons (pe_callB d_len (by rfl) T.b_len (by decide +kernel) (pa_cons (dv 4) pa_nil)) pa_nil))) (fun _ _ => rfl))))))
  pss_nil)
  (pss_cons (ps_set (i := 5) nd rfl (Or.inl rfl) (pe_ix d_ix (pe_lst (pa_cons pe_str (pa_cons pe_str (pa_cons pe_str (pa_cons pe_str (pa_cons pe_str (pa_cons pe_str pa_nil))))))) (c_call G_law_take (hr.mono (by omega)) T.law_take.g T.law_take.F.kp T.law_take.b (fun _ => at0) (pa_cons (dv 0) (pa_cons pe_int pa_nil))) (fun _ _ => rfl)))
  (pss_one (ps_ret (pe_tup (pa_cons pe_str (pa_cons (dv 5) (pa_cons (c_call G_law_expression (hr.mono (by omega)) T.law_expression.g T.law_expression.F.kp T.law_expression.b (fun _ => at0) (pa_cons (dv 0) (pa_cons (dv 1) (pa_cons (pe_op d_sub (dv 2) pe_int) pa_nil)))) (pa_cons (c_call G_law_expression (hr.mono (by omega)) T.law_expression.g T.law_expression.F.kp T.law_expression.b (fun _ => at0) (pa_cons (dv 0) (pa_cons (dv 1) (pa_cons (pe_op d_sub (dv 2) pe_int) pa_nil)))) pa_nil))))))))))
theorem ok_law_body (T : Txt K mg A) (sq ss : Sp) (n : Nat) (G_law_take : FnOk P w K mg base CX0 1 T.law_take.a T.law_take.fd ["draws", "bound"] sp_law_take) (G_law_expression : FnOk P w K mg base CX0 4 T.law_expression.a T.law_expression.fd ["draws", "names", "deep"] (sp_law_expression 2)) (G_law_body : FnOk P w K mg base CX0 (n + 4) T.law_body.a T.law_body.fd ["draws", "names", "kinds", "deep"] sq)
    (len : ∀ vs H Q E, ss vs H Q E → vs.length = 4) (rd : ∀ vs H Q E, ss vs H Q E → t_law_body K A E sq { nx := fun _ H' => Q .non H', rt := Q } (L2.start N_law_body vs) H) :
    FnOk P w K mg base CX0 (n + 5) T.law_body.a T.law_body.fd ["draws", "names", "kinds", "deep"] ss := by
  refine T.law_body.F.ok sc_law_body len (fun cdv AA outer s H vs Q E hr h => ⟨t_law_body K A E sq, ?_, rd vs H Q E h⟩)
  have hr : Room (n + 4) _ := hr
  have hu := hr
  have nd := sc_law_body.nd
  exact (pss_cons (ps_set (i := 4) nd rfl (Or.inl rfl) (pe_lst pa_nil))
  (pss_cons (d_forR1 PassesOwn.never rfl T.b_range (pa_cons (c_call G_law_take (hr.mono (by omega)) T.law_take.g T.law_take.F.kp T.law_take.b (fun _ => at0) (pa_cons (dv 0) (pa_cons pe_int pa_nil))) pa_nil) (pg_name (i := 5) nd rfl (Or.inl rfl))
  (pss_cons (ps_set (i := 6) nd rfl (Or.inl rfl) (c_call G_law_take (hr.mono (by omega)) T.law_take.g T.law_take.F.kp T.law_take.b (fun _ => at0) (pa_cons (dv 0) (pa_cons pe_int pa_nil))))
  (pss_one (ps_if (PW.pt (pw_and (dt_cmp d_eq (dv 6) pe_int (nomark _)) (pw_and1 (dt_cmp (d_neD hu) (dv 1) (pe_lst pa_nil) (nomark _)))))
  (pss_one (ps_expr (d_bm PySem.F.plainAttrs_list PySem.F.slot_list_append PySem.F.type_list_append m_append (dv 4) (pa_cons (pe_tup (pa_cons pe_str (pa_cons (pe_ix d_ix (dv 1) (c_call G_law_take (hr.mono (by omega)) T.law_take.g T.law_take.F.kp T.law_take.b (fun _ => at0) (pa_cons (dv 0) (pa_cons (pe_callB d_len (by rfl) T.b_len (by decide +kernel) (pa_cons (dv 1) pa_nil)) pa_nil))) (fun _ _ => rfl)) (pa_cons (c_call G_law_expression (hr.mono (by omega)) T.law_expression.g T.law_expression.F.kp T.law_expression.b (fun _ => at0) (pa_cons (dv 0) (pa_cons (dv 1) (pa_cons pe_int pa_nil)))) pa_nil)))) pa_nil))))
  (pss_one (ps_if (PW.pt (pw_and (dt_cmp d_eq (dv 6) pe_int (nomark _)) (pw_and1 (dt_cmp (d_neD hu) (dv 1) (pe_lst pa_nil) (nomark _)))))
  (pss_one (ps_expr (d_bm PySem.F.plainAttrs_list PySem.F.slot_list_append PySem.F.type_list_append m_append (dv 4) (pa_cons (pe_tup (pa_cons pe_str (pa_cons (pe_ix d_ix (dv 1) (c_call G_law_take (hr.mono (by omega)) T.law_take.g T.law_take.F.kp T.law_take.b (fun _ => at0) (pa_cons (dv 0) (pa_cons (pe_callB d_len (by rfl) T.b_len (by decide +kernel) (pa_cons (dv 1) pa_nil)) pa_nil))) (fun _ _ => rfl)) (pa_cons (c_call G_law_expression (hr.mono (by omega)) T.law_expression.g T.law_expression.F.kp T.law_expression.b (fun _ => at0) (pa_cons (dv 0) (pa_cons (dv 1) (pa_cons pe_int pa_nil)))) pa_nil)))) pa_nil))))
  (pss_one (ps_if (PW.pt (pw_and (dt_cmp d_eq (dv 6) pe_int (nomark _)) (pw_and1 (dt_cmp d_gt (dv 3) pe_int (nomark _)))))
  (pss_one (ps_expr (d_bm PySem.F.plainAttrs_list PySem.F.slot_list_append PySem.F.type_list_append m_append (dv 4) (pa_cons (pe_tup (pa_cons pe_str (pa_cons (c_call G_law_expression (hr.mono (by omega)) T.law_expression.g T.law_expression.F.kp T.law_expression.b (fun _ => at0) (pa_cons (dv 0) (pa_cons (dv 1) (pa_cons pe_int pa_nil)))) (pa_cons (c_call G_law_body (hr.mono (by omega)) T.law_body.g T.law_body.F.kp T.law_body.b (fun _ => at0) (pa_cons (dv 0) (pa_cons (dv 1) (pa_cons (dv 2) (pa_cons (pe_op d_sub (dv 3) pe_int) pa_nil))))) (pa_cons (c_call G_law_body (hr.mono (by omega)) T.law_body.g T.law_body.F.kp T.law_body.b (fun _ => at0) (pa_cons (dv 0) (pa_cons (dv 1) (pa_cons (dv 2) (pa_cons (pe_op d_sub (dv 3) pe_int) pa_nil))))) pa_nil))))) pa_nil))))
  (pss_one (ps_expr (d_bm PySem.F.plainAttrs_list PySem.F.slot_list_append PySem.F.type_list_append m_append (dv 4) (pa_cons (pe_tup (pa_cons pe_str (pa_cons (pe_ix d_ix (pe_lst (pa_cons pe_str (pa_cons pe_str (pa_cons pe_str pa_nil)))) (c_call G_law_take (hr.mono (by omega)) T.law_take.g T.law_take.F.kp T.law_take.b (fun _ => at0) (pa_cons (dv 0) (pa_cons pe_int pa_nil))) (fun _ _ => rfl)) (pa_cons (c_call G_law_expression (hr.mono (by omega)) T.law_expression.g T.law_expression.F.kp T.law_expression.b (fun _ => at0) (pa_cons (dv 0) (pa_cons (dv 1) (pa_cons pe_int pa_nil)))) pa_nil)))) pa_nil))))))))))))
  (pss_one (ps_ret (pe_callTy d_tupleOf (by rfl) T.b_tuple (by decide +kernel) (pa_cons (dv 4) pa_nil))))))
theorem ok_law_send (T : Txt K mg A)  (G_law_expression : FnOk P w K mg base CX0 4 T.law_expression.a T.law_expression.fd ["draws", "names", "deep"] (sp_law_expression 2)) (G_law_take : FnOk P w K mg base CX0 1 T.law_take.a T.law_take.fd ["draws", "bound"] sp_law_take)
    (len : ∀ vs H Q E, sp_law_send vs H Q E → vs.length = 3) (rd : ∀ vs H Q E, sp_law_send vs H Q E → t_law_send K A E  { nx := fun _ H' => Q .non H', rt := Q } (L2.start N_law_send vs) H) :
    FnOk P w K mg base CX0 5 T.law_send.a T.law_send.fd ["draws", "names", "kinds"] sp_law_send := by
  refine T.law_send.F.ok sc_law_send len (fun cdv AA outer s H vs Q E hr h => ⟨t_law_send K A E , ?_, rd vs H Q E h⟩)
  have hr : Room 4 _ := hr
  have hu := hr
  have nd := sc_law_send.nd
  exact (pss_cons (d_par (by rfl) nd rfl rfl (by decide) rfl rfl (pa_cons (c_call G_law_expression (hr.mono (by decide)) T.law_expression.g T.law_expression.F.kp T.law_expression.b (fun _ => at0) (pa_cons (dv 0) (pa_cons (dv 1) (pa_cons pe_int pa_nil)))) (pa_cons (pe_ix d_ix (pe_lst (pa_cons (pe_tup (pa_cons pe_str (pa_cons (c_call G_law_take (hr.mono (by decide)) T.law_take.g T.law_take.F.kp T.law_take.b (fun _ => at0) (pa_cons (dv 0) (pa_cons pe_int pa_nil))) pa_nil))) (pa_cons (pe_tup (pa_cons pe_str (pa_cons pe_str (pa_cons (c_call G_law_expression (hr.mono (by decide)) T.law_expression.g T.law_expression.F.kp T.law_expression.b (fun _ => at0) (pa_cons (dv 0) (pa_cons (dv 1) (pa_cons pe_int pa_nil)))) (pa_cons (pe_tup (pa_cons pe_str (pa_cons pe_int pa_nil))) pa_nil))))) pa_nil))) (c_call G_law_take (hr.mono (by decide)) T.law_take.g T.law_take.F.kp T.law_take.b (fun _ => at0) (pa_cons (dv 0) (pa_cons pe_int pa_nil))) (fun _ _ => rfl)) pa_nil)) (by rfl))
  (pss_one (ps_ret (pe_tup (pa_cons pe_str (pa_cons (dv 3) (pa_cons (pe_ix d_ix (dv 2) (c_call G_law_take (hr.mono (by decide)) T.law_take.g T.law_take.F.kp T.law_take.b (fun _ => at0) (pa_cons (dv 0) (pa_cons (pe_callB d_len (by rfl) T.b_len (by decide +kernel) (pa_cons (dv 2) pa_nil)) pa_nil))) (fun _ _ => rfl)) (pa_cons (dv 4) (pa_cons (c_call G_law_expression (hr.mono (by decide)) T.law_expression.g T.law_expression.F.kp T.law_expression.b (fun _ => at0) (pa_cons (dv 0) (pa_cons (dv 1) (pa_cons pe_int pa_nil)))) pa_nil)))))))))
theorem ok_law_many (T : Txt K mg A) (sq ss : Sp) (n : Nat) (G_law_many : FnOk P w K mg base CX0 (n + 1) T.law_many.a T.law_many.fd ["part"] sq)
    (len : ∀ vs H Q E, ss vs H Q E → vs.length = 1) (rd : ∀ vs H Q E, ss vs H Q E → t_law_many K A E sq { nx := fun _ H' => Q .non H', rt := Q } (L2.start N_law_many vs) H) :
    FnOk P w K mg base CX0 (n + 2) T.law_many.a T.law_many.fd ["part"] ss := by
  refine T.law_many.F.ok sc_law_many len (fun cdv AA outer s H vs Q E hr h => ⟨t_law_many K A E sq, ?_, rd vs H Q E h⟩)
  have hr : Room (n + 1) _ := hr
  have hu := hr
  have nd := sc_law_many.nd
  exact (pss_cons (ps_if (PW.pt (pw_or (pt_not (dt_tru (pe_callB d_isi (by rfl) T.b_isinstance (by decide +kernel) (pa_cons (dv 0) (pa_cons (pe_bltn (by rfl) T.b_tuple boot_tuple rfl) pa_nil))))) (pw_or1 (dt_cmp (d_eqD hu) (dv 0) (pe_tup pa_nil) (nomark _)))))
  (pss_one (ps_ret pe_int))
  pss_nil)
  (pss_one (ps_ret (pe_op d_add2 (pe_callTy d_int (by rfl) T.b_int (by decide +kernel) (pa_cons (pe_callB d_isi (by rfl) T.b_isinstance (by decide +kernel) (pa_cons (pe_ix d_ix (dv 0) pe_int (fun _ _ => rfl)) (pa_cons (pe_bltn (by rfl) T.b_str boot_str rfl) pa_nil))) pa_nil)) (pe_callB (cr_sum rfl) (by rfl) T.b_sum (by decide +kernel) (pa_cons (d_lcT (own := [("one", 1)]) rfl nd (dv 0) (blkOk_by (N := N_law_many) (sc := (defScope s_law_many)) (by decide +kernel)) (fun _ _ _ _ _ => (pg_name (i := 1) nd rfl (Or.inl rfl))) (fun _ _ _ _ _ => pts_nil) (fun _ _ _ _ _ => (c_call G_law_many (hr.mono (by omega)) T.law_many.g T.law_many.F.kp T.law_many.b (fun _ => at0) (pa_cons (dv 1) pa_nil)))) pa_nil))))))
theorem ok_law_model (T : Txt K mg A)  (G_law_take : FnOk P w K mg base CX0 1 T.law_take.a T.law_take.fd ["draws", "bound"] sp_law_take) (G_law_many : FnOk P w K mg base CX0 13 T.law_many.a T.law_many.fd ["part"] (sp_law_many 11)) (G_law_send : FnOk P w K mg base CX0 5 T.law_send.a T.law_send.fd ["draws", "names", "kinds"] sp_law_send) (G_law_body : FnOk P w K mg base CX0 7 T.law_body.a T.law_body.fd ["draws", "names", "kinds", "deep"] (sp_law_body 2))
    (len : ∀ vs H Q E, sp_law_model vs H Q E → vs.length = 2) (rd : ∀ vs H Q E, sp_law_model vs H Q E → t_law_model K A E  { nx := fun _ H' => Q .non H', rt := Q } (L2.start N_law_model vs) H) :
    FnOk P w K mg base CX0 14 T.law_model.a T.law_model.fd ["draws", "most"] sp_law_model := by
  refine T.law_model.F.ok sc_law_model len (fun cdv AA outer s H vs Q E hr h => ⟨t_law_model K A E , ?_, rd vs H Q E h⟩)
  have hr : Room 13 _ := hr
  have hu := hr
  have nd := sc_law_model.nd
  exact (pss_cons (ps_set (i := 2) nd rfl (Or.inl rfl) (pe_slice d_sl (pe_lst (pa_cons pe_str (pa_cons pe_str (pa_cons pe_str pa_nil)))) po_none (po_d (pe_op d_add2 pe_int (c_call G_law_take (hr.mono (by decide)) T.law_take.g T.law_take.F.kp T.law_take.b (fun _ => at0) (pa_cons (dv 0) (pa_cons pe_int pa_nil)))))))
  (pss_cons (d_par (by rfl) nd rfl rfl (by decide) rfl rfl (pa_cons (pe_lst pa_nil) (pa_cons pe_int pa_nil)) (by rfl))
  (pss_cons (d_forR1 PassesOwn.never rfl T.b_range (pa_cons (pe_op d_add2 pe_int (c_call G_law_take (hr.mono (by decide)) T.law_take.g T.law_take.F.kp T.law_take.b (fun _ => at0) (pa_cons (dv 0) (pa_cons (dv 1) pa_nil)))) pa_nil) (pg_name (i := 5) nd rfl (Or.inl rfl))
  (pss_cons (ps_set (i := 6) nd rfl (Or.inl rfl) (pe_callTy d_tupleOf (by rfl) T.b_tuple (by decide +kernel) (pa_cons (d_lcL (own := [("name", 12)]) rfl nd (pe_slice d_sl (pe_lst (pa_cons pe_str (pa_cons pe_str (pa_cons pe_str pa_nil)))) po_none (po_d (c_call G_law_take (hr.mono (by decide)) T.law_take.g T.law_take.F.kp T.law_take.b (fun _ => at0) (pa_cons (dv 0) (pa_cons pe_int pa_nil))))) (blkOk_by (N := N_law_model) (sc := (defScope s_law_model)) (by decide +kernel)) (fun _ _ _ _ _ => (pg_name (i := 12) nd rfl (Or.inl rfl))) (fun _ _ _ _ _ => pts_nil) (fun _ _ _ _ _ => (pe_tup (pa_cons (dv 12) (pa_cons (c_call G_law_take (hr.mono (by decide)) T.law_take.g T.law_take.F.kp T.law_take.b (fun _ => at0) (pa_cons (dv 0) (pa_cons pe_int pa_nil))) pa_nil))))) pa_nil)))
  (pss_cons (d_setT (i := 7) (own := [("name", 12), ("number", 13)]) rfl nd rfl rfl (sw_true rfl rfl rfl (by decide +kernel)) (dv 6) (blkOk_by (N := N_law_model) (sc := (defScope s_law_model)) (by decide +kernel)) (fun _ _ _ _ _ => (dg_tup (by rfl) (dg_cons (pg_name (i := 12) nd rfl (Or.inl rfl)) (dg_cons (pg_name (i := 13) nd rfl (Or.inl rfl)) dg_nil)))) (fun _ _ _ _ _ => pts_nil) (fun _ _ _ _ _ => (dv 12)))
  (pss_cons (ps_set (i := 8) nd rfl (Or.inl rfl) (pe_lst pa_nil))
  (pss_cons (d_forL PassesOwn.never rfl (dv 2) (pg_name (i := 9) nd rfl (Or.inl rfl))
  (pss_one (ps_if (dt_cmp d_gt (c_call G_law_take (hr.mono (by decide)) T.law_take.g T.law_take.F.kp T.law_take.b (fun _ => at0) (pa_cons (dv 0) (pa_cons pe_int pa_nil))) pe_int (nomark _))
  (pss_cons (ps_set (i := 10) nd rfl (Or.inl rfl) (pe_op d_add2 (c_call G_law_body (hr.mono (by decide)) T.law_body.g T.law_body.F.kp T.law_body.b (fun _ => at0) (pa_cons (dv 0) (pa_cons (dv 7) (pa_cons (dv 2) (pa_cons pe_int pa_nil))))) (pe_tup (pa_cons (c_call G_law_send (hr.mono (by decide)) T.law_send.g T.law_send.F.kp T.law_send.b (fun _ => at0) (pa_cons (dv 0) (pa_cons (dv 7) (pa_cons (dv 2) pa_nil)))) pa_nil))))
  (pss_cons (ps_set (i := 11) nd rfl (Or.inl rfl) (pe_tup (pa_cons pe_str (pa_cons pe_str (pa_cons (pe_tup (pa_cons pe_str pa_nil)) (pa_cons (pe_tup (pa_cons pe_str (pa_cons pe_int pa_nil))) pa_nil))))))
  (pss_cons (ps_if (dt_cmp d_eq (c_call G_law_take (hr.mono (by decide)) T.law_take.g T.law_take.F.kp T.law_take.b (fun _ => at0) (pa_cons (dv 0) (pa_cons pe_int pa_nil))) pe_int (nomark _))
  (pss_one (ps_set (i := 10) nd rfl (Or.inl rfl) (pe_op d_add2 (dv 10) (pe_tup (pa_cons (pe_tup (pa_cons pe_str (pa_cons (dv 11) (pa_cons (pe_tup (pa_cons (c_call G_law_send (hr.mono (by decide)) T.law_send.g T.law_send.F.kp T.law_send.b (fun _ => at0) (pa_cons (dv 0) (pa_cons (dv 7) (pa_cons (dv 2) pa_nil)))) pa_nil)) (pa_cons (pe_tup pa_nil) pa_nil))))) pa_nil)))))
  pss_nil)
  (pss_cons (ps_if (dt_cmp d_eq (c_call G_law_take (hr.mono (by decide)) T.law_take.g T.law_take.F.kp T.law_take.b (fun _ => at0) (pa_cons (dv 0) (pa_cons pe_int pa_nil))) pe_int (nomark _))
  (pss_one (ps_set (i := 10) nd rfl (Or.inl rfl) (pe_tup (pa_cons (pe_tup (pa_cons pe_str (pa_cons (pe_tup (pa_cons pe_str (pa_cons pe_str (pa_cons (pe_tup (pa_cons pe_str pa_nil)) (pa_cons (pe_tup (pa_cons pe_str (pa_cons pe_int pa_nil))) pa_nil))))) (pa_cons (dv 10) (pa_cons (pe_tup pa_nil) pa_nil))))) pa_nil))))
  pss_nil)
  (pss_cons (ps_if (dt_cmp d_gt (pe_op d_add2 (dv 4) (c_call G_law_many (hr.mono (by decide)) T.law_many.g T.law_many.F.kp T.law_many.b (fun _ => at0) (pa_cons (dv 10) pa_nil))) pe_int (nomark _))
  (pss_one (ps_set (i := 10) nd rfl (Or.inl rfl) (pe_tup (pa_cons (pe_tup (pa_cons pe_str (pa_cons pe_str (pa_cons (pe_tup (pa_cons pe_str (pa_cons pe_int pa_nil))) pa_nil)))) pa_nil))))
  pss_nil)
  (pss_cons (ps_set (i := 4) nd rfl (Or.inl rfl) (pe_op d_add2 (dv 4) (c_call G_law_many (hr.mono (by decide)) T.law_many.g T.law_many.F.kp T.law_many.b (fun _ => at0) (pa_cons (dv 10) pa_nil))))
  (pss_one (ps_expr (d_bm PySem.F.plainAttrs_list PySem.F.slot_list_append PySem.F.type_list_append m_append (dv 8) (pa_cons (pe_tup (pa_cons (dv 9) (pa_cons (dv 10) pa_nil))) pa_nil))))))))))
  pss_nil)))
  (pss_one (ps_expr (d_bm PySem.F.plainAttrs_list PySem.F.slot_list_append PySem.F.type_list_append m_append (dv 3) (pa_cons (pe_tup (pa_cons (pe_ix d_ix (pe_lst (pa_cons pe_str (pa_cons pe_str (pa_cons pe_str (pa_cons pe_str (pa_cons pe_str pa_nil)))))) (dv 5) (fun _ _ => rfl)) (pa_cons (dv 6) (pa_cons (pe_callTy cr_tupF (by rfl) T.b_tuple (by decide +kernel) (pa_cons (dv 8) pa_nil)) pa_nil)))) pa_nil)))))))))
  (pss_one (ps_ret (pe_callTy d_tupleOf (by rfl) T.b_tuple (by decide +kernel) (pa_cons (dv 3) pa_nil)))))))
theorem ok_law_told (T : Txt K mg A)  (G_Net_take : FnOk P w K mg base (L2N.CX P w) 3 T.Net_take.a T.Net_take.fd ["self", "sender", "receiver"] (sp_Net_take A)) (G_Net_put : FnOk P w K mg base (L2N.CX P w) 3 T.Net_put.a T.Net_put.fd ["self", "sender", "receiver", "message"] (sp_Net_put A)) (G_law_word : FnE P w K mg base 1 T.law_word.a T.law_word.fd ["e"] (sp_law_word K A))
    (len : ∀ vs H Q E, (sp_law_told A) vs H Q E → vs.length = 4) (rd : ∀ vs H Q E, (sp_law_told A) vs H Q E → t_law_told K A E  { nx := fun _ H' => Q .non H', rt := Q } (L2.start N_law_told vs) H) :
    FnOk P w K mg base CX0 4 T.law_told.a T.law_told.fd ["net", "which", "one", "other"] (sp_law_told A) := by
  refine T.law_told.F.ok sc_law_told len (fun cdv AA outer s H vs Q E hr h => ⟨t_law_told K A E , ?_, rd vs H Q E h⟩)
  have hr : Room 3 _ := hr
  have hu := hr
  have nd := sc_law_told.nd
  exact (pss_one (L2N.ps_try_as (i := 4) (tb := fun W => (tRet (tIf (dTest (tOp dEq (dVar 1) (tC (.int 0)))) (dMethE A.Net "take" (sp_Net_take A) (WE W) (dVar 0) (tCons (dVar 2) (tCons (dVar 3) tNil))) (dMethE A.Net "put" (sp_Net_put A) (WE W) (dVar 0) (tCons (dVar 2) (tCons (dVar 3) (tCons (tC (.str "x")) tNil))))))) (ts := fun a cls d => (tRet (tCallE (sp_law_word K A) a cls d (tCons (dVar 4) tNil)))) (Wout := (fun _ _ _ _ => False)) rfl rfl nd rfl rfl ⟨rfl, by decide, Or.inl T.x_TraceError.g⟩ takesN0
  (fun W pn xe tk hpa => (pss_one (ps_ret (pe_ifExp (dt_cmp d_eq (dv 1) pe_int (nomark _)) (d_meth (dv 0) T.Net__init_.cl T.Net_take.m G_Net_take (hr.mono (by decide)) T.Net_take.b (fun σ => L2N.passAt tk σ) (pa_cons (dv 2) (pa_cons (dv 3) pa_nil))) (d_meth (dv 0) T.Net__init_.cl T.Net_put.m G_Net_put (hr.mono (by decide)) T.Net_put.b (fun σ => L2N.passAt tk σ) (pa_cons (dv 2) (pa_cons (dv 3) (pa_cons pe_str pa_nil))))))))
  (fun a oe cls d pn hz hf => (pss_one (ps_ret (c_callE G_law_word (L2H.RoomH.mono (k := 3) ⟨hr.dp, hr.un⟩ (by decide)) rfl List.mem_cons_self hz hf T.law_word.g T.law_word.F.kp T.law_word.b (pa_cons (dv 4) pa_nil)))))))
theorem ok_law (T : Txt K mg A)  (G_is_schedule : FnOk P w K mg base CX0 3 T.is_schedule.a T.is_schedule.fd ["value"] (sp_is_schedule A)) (G_law_says : FnOk P w K mg base CX0 1 T.law_says.a T.law_says.fd ["told", "due"] sp_law_says) (G_is_map : FnOk P w K mg base CX0 3 T.is_map.a T.is_map.fd ["model", "processors", "value"] (sp_is_map A)) (G_law_take : FnOk P w K mg base CX0 1 T.law_take.a T.law_take.fd ["draws", "bound"] sp_law_take) (G_law_model : FnOk P w K mg base CX0 14 T.law_model.a T.law_model.fd ["draws", "most"] sp_law_model) (G_chosen : FnOk P w K mg base CX0 1 T.chosen.a T.chosen.fd ["schedule", "step", "options"] sp_chosen) (G_law_told : FnOk P w K mg base CX0 4 T.law_told.a T.law_told.fd ["net", "which", "one", "other"] (sp_law_told A)) (G_Net_ready : FnOk P w K mg base CX0 1 T.Net_ready.a T.Net_ready.fd ["self"] (sp_Net_ready A)) (G_law_alike : FnOk P w K mg base CX0 5 T.law_alike.a T.law_alike.fd ["found", "due"] (sp_law_alike K 3)) (G_Net_messages : FnOk P w K mg base CX0 1 T.Net_messages.a T.Net_messages.fd ["self"] (sp_Net_messages A)) (G_Net_many : FnOk P w K mg base CX0 2 T.Net_many.a T.Net_many.fd ["self"] (sp_Net_many A)) (G_Net_put : FnOk P w K mg base (L2N.CX P w) 3 T.Net_put.a T.Net_put.fd ["self", "sender", "receiver", "message"] (sp_Net_put A)) (G_Net__init_ : FnOk P w K mg base CX0 1 T.Net__init_.a T.Net__init_.fd ["self", "processors"] (sp_Net__init_ A)) (G_law_draws : FnOk P w K mg base CX0 1 T.law_draws.a T.law_draws.fd ["script"] (sp_law_draws K))
    (len : ∀ vs H Q E, (sp_law K A) vs H Q E → vs.length = 1) (rd : ∀ vs H Q E, (sp_law K A) vs H Q E → t_law K A E  { nx := fun _ H' => Q .non H', rt := Q } (L2.start N_law vs) H) :
    FnOk P w K mg base CX0 15 T.law.a T.law.fd ["script"] (sp_law K A) := by
  refine T.law.F.ok sc_law len (fun cdv AA outer s H vs Q E hr h => ⟨t_law K A E , ?_, rd vs H Q E h⟩)
  have hr : Room 14 _ := hr
  have hu := hr
  have nd := sc_law.nd
  exact (pss_cons (ps_set (i := 1) nd rfl (Or.inr rfl) (c_call G_law_draws (hr.mono (by decide)) T.law_draws.g T.law_draws.F.kp T.law_draws.b (fun _ => at0) (pa_cons (dv 0) pa_nil)))
  (pss_cons (ps_set (i := 2) nd rfl (Or.inr rfl) (pe_op d_add2 pe_int (c_call G_law_take (hr.mono (by decide)) T.law_take.g T.law_take.F.kp T.law_take.b (fun _ => at0) (pa_cons (dv 1) (pa_cons pe_int pa_nil)))))
  (pss_cons (ps_asg (pe_tup (pa_cons (c_make T.Net__init_.made G_Net__init_ (hr.mono (by decide)) T.Net__init_.g T.Net__init_.b (fun _ => at0) (pa_cons (dv 2) pa_nil)) (pa_cons pe_dnewT pa_nil))) (dg_tup (by rfl) (dg_cons (pg_name (i := 3) nd rfl (Or.inr rfl)) (dg_cons (pg_name (i := 4) nd rfl (Or.inr rfl)) dg_nil))))
  (pss_cons (d_forR1 PassesOwn.never rfl T.b_range (pa_cons pe_int pa_nil) (pg_name (i := 5) nd rfl (Or.inl rfl))
  (pss_cons (d_par (by rfl) nd rfl rfl (by decide) rfl rfl (pa_cons (c_call G_law_take (hr.mono (by decide)) T.law_take.g T.law_take.F.kp T.law_take.b (fun _ => at0) (pa_cons (dv 1) (pa_cons (dv 2) pa_nil))) (pa_cons (c_call G_law_take (hr.mono (by decide)) T.law_take.g T.law_take.F.kp T.law_take.b (fun _ => at0) (pa_cons (dv 1) (pa_cons (dv 2) pa_nil))) pa_nil)) (by rfl))
  (pss_cons (ps_if (dt_cmp d_eq (dv 6) (dv 7) (nomark _))
  (pss_one (ps_if (PW.pt (pw_or (dt_cmp d_ne (c_call G_law_told (hr.mono (by decide)) T.law_told.g T.law_told.F.kp T.law_told.b (fun _ => at0) (pa_cons (dv 3) (pa_cons pe_int (pa_cons (dv 6) (pa_cons (dv 7) pa_nil))))) pe_str (nomark _)) (pw_or1 (dt_cmp d_ne (c_call G_law_told (hr.mono (by decide)) T.law_told.g T.law_told.F.kp T.law_told.b (fun _ => at0) (pa_cons (dv 3) (pa_cons pe_int (pa_cons (dv 6) (pa_cons (dv 7) pa_nil))))) pe_str (nomark _)))))
  (pss_one (ps_ret pe_bl))
  pss_nil))
  (pss_one (ps_if (dt_cmp d_eq (c_call G_law_take (hr.mono (by decide)) T.law_take.g T.law_take.F.kp T.law_take.b (fun _ => at0) (pa_cons (dv 1) (pa_cons pe_int pa_nil))) pe_int (nomark _))
  (pss_cons (ps_expr (d_meth (dv 3) T.Net__init_.cl T.Net_put.m G_Net_put (hr.mono (by decide)) T.Net_put.b (fun _ => atN) (pa_cons (dv 6) (pa_cons (dv 7) (pa_cons (pe_tup (pa_cons (dv 5) (pa_cons (c_call G_law_take (hr.mono (by decide)) T.law_take.g T.law_take.F.kp T.law_take.b (fun _ => at0) (pa_cons (dv 1) (pa_cons pe_int pa_nil))) pa_nil))) pa_nil)))))
  (pss_one (ps_dput (room1 hu) (dv 4) (pe_tup (pa_cons (dv 6) (pa_cons (dv 7) pa_nil))) (pe_op d_add2 (pe_dget2 (room1 hu) (dv 4) (pe_tup (pa_cons (dv 6) (pa_cons (dv 7) pa_nil))) (pe_lst pa_nil) ⟨rfl, by rfl, by rfl, by rfl⟩) (pe_lst (pa_cons (dv 5) pa_nil))) rfl)))
  (pss_cons (ps_set (i := 8) nd rfl (Or.inl rfl) (pe_dget2 (room1 hu) (dv 4) (pe_tup (pa_cons (dv 6) (pa_cons (dv 7) pa_nil))) (pe_lst pa_nil) ⟨rfl, by rfl, by rfl, by rfl⟩))
  (pss_cons (ps_set (i := 9) nd rfl (Or.inl rfl) (c_call G_law_told (hr.mono (by decide)) T.law_told.g T.law_told.F.kp T.law_told.b (fun _ => at0) (pa_cons (dv 3) (pa_cons pe_int (pa_cons (dv 6) (pa_cons (dv 7) pa_nil))))))
  (pss_cons (ps_if (PW.pt (pw_or (PW.pt (pw_and (dt_cmp (d_eqD hu) (dv 8) (pe_lst pa_nil) (nomark _)) (pw_and1 (dt_cmp d_ne (dv 9) pe_str (nomark _))))) (pw_or1 (PW.pt (pw_and (dt_cmp (op_neNil (room64 hu)) (dv 8) (pe_lst pa_nil) (nomark _)) (pw_and1 (PW.pt (pw_or (pt_not (dt_tru (pe_callB d_isi (by rfl) T.b_isinstance (by decide +kernel) (pa_cons (dv 9) (pa_cons (pe_bltn (by rfl) T.b_tuple boot_tuple rfl) pa_nil))))) (pw_or1 (dt_cmp d_ne (pe_ix d_ix (dv 9) pe_int (fun _ _ => rfl)) (pe_ix d_ix (dv 8) pe_int (fun _ _ => rfl)) (nomark _)))))))))))
  (pss_one (ps_ret pe_bl))
  pss_nil)
  (pss_one (ps_dput (room1 hu) (dv 4) (pe_tup (pa_cons (dv 6) (pa_cons (dv 7) pa_nil))) (pe_slice d_sl (dv 8) (po_d pe_int) po_none) rfl))))))))
  (pss_cons (ps_set (i := 10) nd rfl (Or.inl rfl) (pe_callB (cr_sortD (room64 hu)) (by rfl) T.b_sorted (by decide +kernel) (pa_cons (pe_lock (pe_lc (own := [("pair", 11)]) rfl nd (pi_keys (dv 4)) (blkOk_by (N := N_law) (sc := (defScope s_law)) (by decide +kernel)) (fun _ _ _ _ _ => (pg_name (i := 11) nd rfl (Or.inl rfl))) (fun _ _ _ _ _ => pts_one (dt_cmp (op_neNil (room64 hu)) (pe_dget (room1 hu) (dv 4) (dv 11) (fun _ _ => rfl)) (pe_lst pa_nil) (nomark _))) (fun _ _ _ _ _ => (dv 11)))) pa_nil)))
  (pss_cons (ps_set (i := 12) nd rfl (Or.inl rfl) (pe_lst pa_nil))
  (pss_cons (d_forL PassesOwn.never rfl (dv 10) (pg_name (i := 11) nd rfl (Or.inl rfl))
  (pss_one (ps_set (i := 12) nd rfl (Or.inl rfl) (pe_op d_add2 (dv 12) (pe_dget (room1 hu) (dv 4) (dv 11) (fun _ _ => rfl))))))
  (pss_one (ps_if (PW.pt (pw_or (pt_not (dt_tru (c_call G_law_alike (hr.mono (by decide)) T.law_alike.g T.law_alike.F.kp T.law_alike.b (fun _ => at0) (pa_cons (d_meth0 (dv 3) T.Net__init_.cl T.Net_ready.m G_Net_ready (hr.mono (by decide)) T.Net_ready.b (fun _ => at0)) (pa_cons (pe_callTy d_tupleOf (by rfl) T.b_tuple (by decide +kernel) (pa_cons (dv 10) pa_nil)) pa_nil))))) (pw_or (dt_cmp (d_neD hu) (d_lcL (own := [("message", 21)]) rfl nd (d_meth0 (dv 3) T.Net__init_.cl T.Net_messages.m G_Net_messages (hr.mono (by decide)) T.Net_messages.b (fun _ => at0)) (blkOk_by (N := N_law) (sc := (defScope s_law)) (by decide +kernel)) (fun _ _ _ _ _ => (pg_name (i := 21) nd rfl (Or.inl rfl))) (fun _ _ _ _ _ => pts_nil) (fun _ _ _ _ _ => (pe_ix d_ix (dv 21) pe_int (fun _ _ => rfl)))) (dv 12) (nomark _)) (pw_or1 (pt_not (dt_tru (c_call G_law_alike (hr.mono (by decide)) T.law_alike.g T.law_alike.F.kp T.law_alike.b (fun _ => at0) (pa_cons (d_meth0 (dv 3) T.Net__init_.cl T.Net_many.m G_Net_many (hr.mono (by decide)) T.Net_many.b (fun _ => at0)) (pa_cons (pe_callB d_len (by rfl) T.b_len (by decide +kernel) (pa_cons (dv 12) pa_nil)) pa_nil)))))))))
  (pss_one (ps_ret pe_bl))
  pss_nil))))))))
  (pss_cons (d_forL PassesOwn.never rfl (pe_lst (pa_cons (pe_un d_neg pe_int) (pa_cons (dv 2) (pa_cons pe_non (pa_cons pe_bl (pa_cons pe_str pa_nil)))))) (pg_name (i := 13) nd rfl (Or.inr rfl))
  (pss_one (ps_if (dt_cmp (d_neD hu) (pe_op d_add2 (d_lcR1 (own := [("which", 22)]) rfl nd T.b_range (pa_cons pe_int pa_nil) (blkOk_by (N := N_law) (sc := (defScope s_law)) (by decide +kernel)) (fun _ _ _ _ _ => (pg_name (i := 22) nd rfl (Or.inl rfl))) (fun _ _ _ _ _ => pts_nil) (fun _ _ _ _ _ => (c_call G_law_told (hr.mono (by decide)) T.law_told.g T.law_told.F.kp T.law_told.b (fun _ => at0) (pa_cons (dv 3) (pa_cons (dv 22) (pa_cons (dv 13) (pa_cons pe_int pa_nil))))))) (d_lcR1 (own := [("which", 22)]) rfl nd T.b_range (pa_cons pe_int pa_nil) (blkOk_by (N := N_law) (sc := (defScope s_law)) (by decide +kernel)) (fun _ _ _ _ _ => (pg_name (i := 22) nd rfl (Or.inl rfl))) (fun _ _ _ _ _ => pts_nil) (fun _ _ _ _ _ => (c_call G_law_told (hr.mono (by decide)) T.law_told.g T.law_told.F.kp T.law_told.b (fun _ => at0) (pa_cons (dv 3) (pa_cons (dv 22) (pa_cons pe_int (pa_cons (dv 13) pa_nil)))))))) (pe_op d_mul (pe_lst (pa_cons pe_str pa_nil)) pe_int) (nomark _))
  (pss_one (ps_ret pe_bl))
  pss_nil)))
  (pss_cons (d_setR1 (i := 14) (own := [("k", 18)]) rfl nd rfl rfl (sw_true rfl rfl rfl (by decide +kernel)) T.b_range (pa_cons (pe_op d_add2 pe_int (c_call G_law_take (hr.mono (by decide)) T.law_take.g T.law_take.F.kp T.law_take.b (fun _ => at0) (pa_cons (dv 1) (pa_cons pe_int pa_nil)))) pa_nil) (blkOk_by (N := N_law) (sc := (defScope s_law)) (by decide +kernel)) (fun _ _ _ _ _ => (pg_name (i := 18) nd rfl (Or.inl rfl))) (fun _ _ _ _ _ => pts_nil) (fun _ _ _ _ _ => (pe_tup (pa_cons pe_str (pa_cons (dv 18) (pa_cons pe_int pa_nil))))))
  (pss_cons (ps_set (i := 8) nd rfl (Or.inl rfl) (pe_callTy d_tupleOf (by rfl) T.b_tuple (by decide +kernel) (pa_cons (d_lcR1 (own := [("k", 18)]) rfl nd T.b_range (pa_cons (pe_op d_add2 pe_int (c_call G_law_take (hr.mono (by decide)) T.law_take.g T.law_take.F.kp T.law_take.b (fun _ => at0) (pa_cons (dv 1) (pa_cons pe_int pa_nil)))) pa_nil) (blkOk_by (N := N_law) (sc := (defScope s_law)) (by decide +kernel)) (fun _ _ _ _ _ => (pg_name (i := 18) nd rfl (Or.inl rfl))) (fun _ _ _ _ _ => pts_nil) (fun _ _ _ _ _ => (c_call G_law_take (hr.mono (by decide)) T.law_take.g T.law_take.F.kp T.law_take.b (fun _ => at0) (pa_cons (dv 1) (pa_cons pe_int pa_nil))))) pa_nil)))
  (pss_cons (d_forR1 PassesOwn.never rfl T.b_range (pa_cons pe_int pa_nil) (pg_name (i := 5) nd rfl (Or.inl rfl))
  (pss_one (ps_if (dt_cmp (d_neD hu) (c_call G_chosen (hr.mono (by decide)) T.chosen.g T.chosen.F.kp T.chosen.b (fun _ => at0) (pa_cons (dv 8) (pa_cons (dv 5) (pa_cons (dv 14) pa_nil)))) (pe_ix d_ix (dv 14) (pe_op d_mod (pe_callTy d_int (by rfl) T.b_int (by decide +kernel) (pa_cons (pe_ix d_ix (dv 8) (pe_op d_mod (pe_callTy d_int (by rfl) T.b_int (by decide +kernel) (pa_cons (dv 5) pa_nil)) (pe_callB d_len (by rfl) T.b_len (by decide +kernel) (pa_cons (dv 8) pa_nil))) (fun _ _ => rfl)) pa_nil)) (pe_callB d_len (by rfl) T.b_len (by decide +kernel) (pa_cons (dv 14) pa_nil))) (fun _ _ => rfl)) (nomark _))
  (pss_one (ps_ret pe_bl))
  pss_nil)))
  (pss_cons (ps_set (i := 15) nd rfl (Or.inr rfl) (c_call G_law_model (hr.mono (by decide)) T.law_model.g T.law_model.F.kp T.law_model.b (fun _ => at0) (pa_cons (dv 1) (pa_cons pe_int pa_nil))))
  (pss_cons (ps_set (i := 16) nd rfl (Or.inl rfl) (pe_callTy d_tupleOf (by rfl) T.b_tuple (by decide +kernel) (pa_cons (d_lcT (own := [("place", 19)]) rfl nd (dv 15) (blkOk_by (N := N_law) (sc := (defScope s_law)) (by decide +kernel)) (fun _ _ _ _ _ => (pg_name (i := 19) nd rfl (Or.inl rfl))) (fun _ _ _ _ _ => pts_nil) (fun _ _ _ _ _ => (c_call G_law_take (hr.mono (by decide)) T.law_take.g T.law_take.F.kp T.law_take.b (fun _ => at0) (pa_cons (dv 1) (pa_cons (dv 2) pa_nil))))) pa_nil)))
  (pss_cons (ps_set (i := 17) nd rfl (Or.inl rfl) (pe_lst (pa_cons pe_non (pa_cons (pe_callTy d_listOf (by rfl) T.b_list (by decide +kernel) (pa_cons (dv 16) pa_nil)) (pa_cons (pe_slice d_sl (dv 16) (po_d pe_int) po_none) (pa_cons (pe_op d_add2 (dv 16) (pe_tup (pa_cons pe_int pa_nil))) (pa_cons (pe_op d_add2 (pe_tup (pa_cons (dv 2) pa_nil)) (pe_slice d_sl (dv 16) (po_d pe_int) po_none)) (pa_cons (pe_op d_add2 (pe_tup (pa_cons (pe_un d_neg pe_int) pa_nil)) (pe_slice d_sl (dv 16) (po_d pe_int) po_none)) (pa_cons (pe_op d_add2 (pe_tup (pa_cons pe_non pa_nil)) (pe_slice d_sl (dv 16) (po_d pe_int) po_none)) (pa_cons (pe_op d_add2 (pe_tup (pa_cons pe_bl pa_nil)) (pe_slice d_sl (dv 16) (po_d pe_int) po_none)) (pa_cons pe_int pa_nil)))))))))))
  (pss_cons (ps_if (PW.pt (pw_or (pt_not (dt_tru (c_call G_law_says (hr.mono (by decide)) T.law_says.g T.law_says.F.kp T.law_says.b (fun _ => at0) (pa_cons (c_call G_is_map (hr.mono (by decide)) T.is_map.g T.is_map.F.kp T.is_map.b (fun _ => at0) (pa_cons (dv 15) (pa_cons (dv 2) (pa_cons (dv 16) pa_nil)))) (pa_cons pe_bl pa_nil))))) (pw_or1 (dt_cmp (d_neD hu) (d_lcL (own := [("value", 20)]) rfl nd (dv 17) (blkOk_by (N := N_law) (sc := (defScope s_law)) (by decide +kernel)) (fun _ _ _ _ _ => (pg_name (i := 20) nd rfl (Or.inl rfl))) (fun _ _ _ _ _ => pts_one (pt_not (dt_tru (c_call G_law_says (hr.mono (by decide)) T.law_says.g T.law_says.F.kp T.law_says.b (fun _ => at0) (pa_cons (c_call G_is_map (hr.mono (by decide)) T.is_map.g T.is_map.F.kp T.is_map.b (fun _ => at0) (pa_cons (dv 15) (pa_cons (dv 2) (pa_cons (dv 20) pa_nil)))) (pa_cons pe_bl pa_nil)))))) (fun _ _ _ _ _ => (dv 20))) (pe_lst pa_nil) (nomark _)))))
  (pss_one (ps_ret pe_bl))
  pss_nil)
  (pss_cons (ps_set (i := 17) nd rfl (Or.inl rfl) (pe_lst (pa_cons pe_non (pa_cons (pe_tup pa_nil) (pa_cons (pe_lst (pa_cons pe_int pa_nil)) (pa_cons (pe_tup (pa_cons (pe_un d_neg pe_int) pa_nil)) (pa_cons (pe_tup (pa_cons (pe_op d_add2 (pe_op d_pow pe_int pe_int) pe_int) pa_nil)) (pa_cons (pe_tup (pa_cons pe_non pa_nil)) (pa_cons (pe_tup (pa_cons pe_bl pa_nil)) (pa_cons (pe_tup (pa_cons pe_str pa_nil)) (pa_cons pe_int pa_nil)))))))))))
  (pss_one (ps_ret (d_and (pe_cmpR d_isB (c_call G_is_schedule (hr.mono (by decide)) T.is_schedule.g T.is_schedule.F.kp T.is_schedule.b (fun _ => at0) (pa_cons (dv 8) pa_nil)) pe_bl (nomark _)) (d_and (pe_cmpR d_isB (c_call G_is_schedule (hr.mono (by decide)) T.is_schedule.g T.is_schedule.F.kp T.is_schedule.b (fun _ => at0) (pa_cons (pe_tup (pa_cons (pe_op d_pow pe_int pe_int) pa_nil)) pa_nil)) pe_bl (nomark _)) (pe_one (pe_cmpR (d_eqD hu) (d_lcL (own := [("value", 20)]) rfl nd (dv 17) (blkOk_by (N := N_law) (sc := (defScope s_law)) (by decide +kernel)) (fun _ _ _ _ _ => (pg_name (i := 20) nd rfl (Or.inl rfl))) (fun _ _ _ _ _ => pts_one (pt_not (dt_tru (c_call G_law_says (hr.mono (by decide)) T.law_says.g T.law_says.F.kp T.law_says.b (fun _ => at0) (pa_cons (c_call G_is_schedule (hr.mono (by decide)) T.is_schedule.g T.is_schedule.F.kp T.is_schedule.b (fun _ => at0) (pa_cons (dv 20) pa_nil)) (pa_cons pe_bl pa_nil)))))) (fun _ _ _ _ _ => (dv 20))) (pe_lst pa_nil) (nomark _))))))))))))))))))))
end
theorem wordOk_NotThere {K : PySem.W.Frag} {mg : Str → Option Value} {A : Ads} (T : Txt K mg A) : WordOk K A A.NotThere "none" :=
  ⟨T.x_NotThere.e, T.e_NotThere_TraceError, _, _, _, _, _, T.i_NotThere_OutOfRange, T.i_NotThere_Malformed, T.i_NotThere_NotThere, T.i_NotThere_Refused, T.i_NotThere_TooMuch, by decide +kernel⟩
section
variable {P : Program} {w : World} {K : PySem.W.Frag} {mg : Str → Option Value} {A : Ads}
theorem ok_all (T : Txt K mg A) (base : Heap) (tb : ∀ p ∈ codes A, GxR.TabB base mg p.1 p.2) : FnOk P w K mg base CX0 15 T.law.a T.law.fd ["script"] (sp_law K A) := by
  have G_is_number := ok_is_number (P := P) (w := w) (base := base) T  (by intro vs H Q E h; first | (obtain ⟨_, rfl, _⟩ := h; rfl) | (obtain ⟨_, _, rfl, _⟩ := h; rfl) | (obtain ⟨_, _, _, rfl, _⟩ := h; rfl) | (obtain ⟨_, _, _, _, rfl, _⟩ := h; rfl) | (obtain ⟨_, _, _, _, _, rfl, _⟩ := h; rfl) | (obtain ⟨_, _, _, _, _, _, rfl, _⟩ := h; rfl) | (obtain ⟨_, _, _, _, _, _, _, rfl, _⟩ := h; rfl) | (obtain ⟨_, _, _, _, _, _, _, _, rfl, _⟩ := h; rfl) | (obtain ⟨_, _, _, _, _, _, _, _, _, rfl, _⟩ := h; rfl) | (obtain ⟨_, _, _, _, _, _, _, _, _, _, rfl, _⟩ := h; rfl) | (obtain ⟨_, _, _, _, _, _, _, _, _, _, _, rfl, _⟩ := h; rfl) | (obtain ⟨_, _, _, _, _, _, _, _, _, _, _, _, rfl, _⟩ := h; rfl) | (obtain ⟨_, _, _, _, _, _, _, _, _, _, _, _, _, rfl, _⟩ := h; rfl) | (obtain ⟨_, _, _, _, _, _, _, _, _, _, _, _, _, _, rfl, _⟩ := h; rfl) | (obtain ⟨_, _, _, _, _, _, _, _, _, _, _, _, _, _, _, rfl, _⟩ := h; rfl)) (fun vs H Q E h => r_is_number h)
  have G_is_map := ok_is_map (P := P) (w := w) (base := base) T (tb (A.D_is_map, A.P_is_map) (by simp [codes])) G_is_number (by intro vs H Q E h; first | (obtain ⟨_, rfl, _⟩ := h; rfl) | (obtain ⟨_, _, rfl, _⟩ := h; rfl) | (obtain ⟨_, _, _, rfl, _⟩ := h; rfl) | (obtain ⟨_, _, _, _, rfl, _⟩ := h; rfl) | (obtain ⟨_, _, _, _, _, rfl, _⟩ := h; rfl) | (obtain ⟨_, _, _, _, _, _, rfl, _⟩ := h; rfl) | (obtain ⟨_, _, _, _, _, _, _, rfl, _⟩ := h; rfl) | (obtain ⟨_, _, _, _, _, _, _, _, rfl, _⟩ := h; rfl) | (obtain ⟨_, _, _, _, _, _, _, _, _, rfl, _⟩ := h; rfl) | (obtain ⟨_, _, _, _, _, _, _, _, _, _, rfl, _⟩ := h; rfl) | (obtain ⟨_, _, _, _, _, _, _, _, _, _, _, rfl, _⟩ := h; rfl) | (obtain ⟨_, _, _, _, _, _, _, _, _, _, _, _, rfl, _⟩ := h; rfl) | (obtain ⟨_, _, _, _, _, _, _, _, _, _, _, _, _, rfl, _⟩ := h; rfl) | (obtain ⟨_, _, _, _, _, _, _, _, _, _, _, _, _, _, rfl, _⟩ := h; rfl) | (obtain ⟨_, _, _, _, _, _, _, _, _, _, _, _, _, _, _, rfl, _⟩ := h; rfl)) (fun vs H Q E h => r_is_map h)
  have G_is_schedule := ok_is_schedule (P := P) (w := w) (base := base) T (tb (A.D_is_schedule, A.P_is_schedule) (by simp [codes])) G_is_number (by intro vs H Q E h; first | (obtain ⟨_, rfl, _⟩ := h; rfl) | (obtain ⟨_, _, rfl, _⟩ := h; rfl) | (obtain ⟨_, _, _, rfl, _⟩ := h; rfl) | (obtain ⟨_, _, _, _, rfl, _⟩ := h; rfl) | (obtain ⟨_, _, _, _, _, rfl, _⟩ := h; rfl) | (obtain ⟨_, _, _, _, _, _, rfl, _⟩ := h; rfl) | (obtain ⟨_, _, _, _, _, _, _, rfl, _⟩ := h; rfl) | (obtain ⟨_, _, _, _, _, _, _, _, rfl, _⟩ := h; rfl) | (obtain ⟨_, _, _, _, _, _, _, _, _, rfl, _⟩ := h; rfl) | (obtain ⟨_, _, _, _, _, _, _, _, _, _, rfl, _⟩ := h; rfl) | (obtain ⟨_, _, _, _, _, _, _, _, _, _, _, rfl, _⟩ := h; rfl) | (obtain ⟨_, _, _, _, _, _, _, _, _, _, _, _, rfl, _⟩ := h; rfl) | (obtain ⟨_, _, _, _, _, _, _, _, _, _, _, _, _, rfl, _⟩ := h; rfl) | (obtain ⟨_, _, _, _, _, _, _, _, _, _, _, _, _, _, rfl, _⟩ := h; rfl) | (obtain ⟨_, _, _, _, _, _, _, _, _, _, _, _, _, _, _, rfl, _⟩ := h; rfl)) (fun vs H Q E h => r_is_schedule h)
  have G_chosen := ok_chosen (P := P) (w := w) (base := base) T  (by intro vs H Q E h; first | (obtain ⟨_, rfl, _⟩ := h; rfl) | (obtain ⟨_, _, rfl, _⟩ := h; rfl) | (obtain ⟨_, _, _, rfl, _⟩ := h; rfl) | (obtain ⟨_, _, _, _, rfl, _⟩ := h; rfl) | (obtain ⟨_, _, _, _, _, rfl, _⟩ := h; rfl) | (obtain ⟨_, _, _, _, _, _, rfl, _⟩ := h; rfl) | (obtain ⟨_, _, _, _, _, _, _, rfl, _⟩ := h; rfl) | (obtain ⟨_, _, _, _, _, _, _, _, rfl, _⟩ := h; rfl) | (obtain ⟨_, _, _, _, _, _, _, _, _, rfl, _⟩ := h; rfl) | (obtain ⟨_, _, _, _, _, _, _, _, _, _, rfl, _⟩ := h; rfl) | (obtain ⟨_, _, _, _, _, _, _, _, _, _, _, rfl, _⟩ := h; rfl) | (obtain ⟨_, _, _, _, _, _, _, _, _, _, _, _, rfl, _⟩ := h; rfl) | (obtain ⟨_, _, _, _, _, _, _, _, _, _, _, _, _, rfl, _⟩ := h; rfl) | (obtain ⟨_, _, _, _, _, _, _, _, _, _, _, _, _, _, rfl, _⟩ := h; rfl) | (obtain ⟨_, _, _, _, _, _, _, _, _, _, _, _, _, _, _, rfl, _⟩ := h; rfl)) (fun vs H Q E h => r_chosen h)
  have G_Net__init_ := ok_Net__init_ (P := P) (w := w) (base := base) T  (by intro vs H Q E h; first | (obtain ⟨_, rfl, _⟩ := h; rfl) | (obtain ⟨_, _, rfl, _⟩ := h; rfl) | (obtain ⟨_, _, _, rfl, _⟩ := h; rfl) | (obtain ⟨_, _, _, _, rfl, _⟩ := h; rfl) | (obtain ⟨_, _, _, _, _, rfl, _⟩ := h; rfl) | (obtain ⟨_, _, _, _, _, _, rfl, _⟩ := h; rfl) | (obtain ⟨_, _, _, _, _, _, _, rfl, _⟩ := h; rfl) | (obtain ⟨_, _, _, _, _, _, _, _, rfl, _⟩ := h; rfl) | (obtain ⟨_, _, _, _, _, _, _, _, _, rfl, _⟩ := h; rfl) | (obtain ⟨_, _, _, _, _, _, _, _, _, _, rfl, _⟩ := h; rfl) | (obtain ⟨_, _, _, _, _, _, _, _, _, _, _, rfl, _⟩ := h; rfl) | (obtain ⟨_, _, _, _, _, _, _, _, _, _, _, _, rfl, _⟩ := h; rfl) | (obtain ⟨_, _, _, _, _, _, _, _, _, _, _, _, _, rfl, _⟩ := h; rfl) | (obtain ⟨_, _, _, _, _, _, _, _, _, _, _, _, _, _, rfl, _⟩ := h; rfl) | (obtain ⟨_, _, _, _, _, _, _, _, _, _, _, _, _, _, _, rfl, _⟩ := h; rfl)) (fun vs H Q E h => r_Net__init_ h)
  have G_Net_check := ok_Net_check (P := P) (w := w) (base := base) T G_is_number (by intro vs H Q E h; first | (obtain ⟨_, rfl, _⟩ := h; rfl) | (obtain ⟨_, _, rfl, _⟩ := h; rfl) | (obtain ⟨_, _, _, rfl, _⟩ := h; rfl) | (obtain ⟨_, _, _, _, rfl, _⟩ := h; rfl) | (obtain ⟨_, _, _, _, _, rfl, _⟩ := h; rfl) | (obtain ⟨_, _, _, _, _, _, rfl, _⟩ := h; rfl) | (obtain ⟨_, _, _, _, _, _, _, rfl, _⟩ := h; rfl) | (obtain ⟨_, _, _, _, _, _, _, _, rfl, _⟩ := h; rfl) | (obtain ⟨_, _, _, _, _, _, _, _, _, rfl, _⟩ := h; rfl) | (obtain ⟨_, _, _, _, _, _, _, _, _, _, rfl, _⟩ := h; rfl) | (obtain ⟨_, _, _, _, _, _, _, _, _, _, _, rfl, _⟩ := h; rfl) | (obtain ⟨_, _, _, _, _, _, _, _, _, _, _, _, rfl, _⟩ := h; rfl) | (obtain ⟨_, _, _, _, _, _, _, _, _, _, _, _, _, rfl, _⟩ := h; rfl) | (obtain ⟨_, _, _, _, _, _, _, _, _, _, _, _, _, _, rfl, _⟩ := h; rfl) | (obtain ⟨_, _, _, _, _, _, _, _, _, _, _, _, _, _, _, rfl, _⟩ := h; rfl)) (fun vs H Q E h => r_Net_check h)
  have G_Net_put := ok_Net_put (P := P) (w := w) (base := base) T G_Net_check (by intro vs H Q E h; first | (obtain ⟨_, rfl, _⟩ := h; rfl) | (obtain ⟨_, _, rfl, _⟩ := h; rfl) | (obtain ⟨_, _, _, rfl, _⟩ := h; rfl) | (obtain ⟨_, _, _, _, rfl, _⟩ := h; rfl) | (obtain ⟨_, _, _, _, _, rfl, _⟩ := h; rfl) | (obtain ⟨_, _, _, _, _, _, rfl, _⟩ := h; rfl) | (obtain ⟨_, _, _, _, _, _, _, rfl, _⟩ := h; rfl) | (obtain ⟨_, _, _, _, _, _, _, _, rfl, _⟩ := h; rfl) | (obtain ⟨_, _, _, _, _, _, _, _, _, rfl, _⟩ := h; rfl) | (obtain ⟨_, _, _, _, _, _, _, _, _, _, rfl, _⟩ := h; rfl) | (obtain ⟨_, _, _, _, _, _, _, _, _, _, _, rfl, _⟩ := h; rfl) | (obtain ⟨_, _, _, _, _, _, _, _, _, _, _, _, rfl, _⟩ := h; rfl) | (obtain ⟨_, _, _, _, _, _, _, _, _, _, _, _, _, rfl, _⟩ := h; rfl) | (obtain ⟨_, _, _, _, _, _, _, _, _, _, _, _, _, _, rfl, _⟩ := h; rfl) | (obtain ⟨_, _, _, _, _, _, _, _, _, _, _, _, _, _, _, rfl, _⟩ := h; rfl)) (fun vs H Q E h => r_Net_put h)
  have G_Net_take := ok_Net_take (P := P) (w := w) (base := base) T G_Net_check (by intro vs H Q E h; first | (obtain ⟨_, rfl, _⟩ := h; rfl) | (obtain ⟨_, _, rfl, _⟩ := h; rfl) | (obtain ⟨_, _, _, rfl, _⟩ := h; rfl) | (obtain ⟨_, _, _, _, rfl, _⟩ := h; rfl) | (obtain ⟨_, _, _, _, _, rfl, _⟩ := h; rfl) | (obtain ⟨_, _, _, _, _, _, rfl, _⟩ := h; rfl) | (obtain ⟨_, _, _, _, _, _, _, rfl, _⟩ := h; rfl) | (obtain ⟨_, _, _, _, _, _, _, _, rfl, _⟩ := h; rfl) | (obtain ⟨_, _, _, _, _, _, _, _, _, rfl, _⟩ := h; rfl) | (obtain ⟨_, _, _, _, _, _, _, _, _, _, rfl, _⟩ := h; rfl) | (obtain ⟨_, _, _, _, _, _, _, _, _, _, _, rfl, _⟩ := h; rfl) | (obtain ⟨_, _, _, _, _, _, _, _, _, _, _, _, rfl, _⟩ := h; rfl) | (obtain ⟨_, _, _, _, _, _, _, _, _, _, _, _, _, rfl, _⟩ := h; rfl) | (obtain ⟨_, _, _, _, _, _, _, _, _, _, _, _, _, _, rfl, _⟩ := h; rfl) | (obtain ⟨_, _, _, _, _, _, _, _, _, _, _, _, _, _, _, rfl, _⟩ := h; rfl)) (fun vs H Q E h => r_Net_take h)
  have G_Net_ready := ok_Net_ready (P := P) (w := w) (base := base) T  (by intro vs H Q E h; first | (obtain ⟨_, rfl, _⟩ := h; rfl) | (obtain ⟨_, _, rfl, _⟩ := h; rfl) | (obtain ⟨_, _, _, rfl, _⟩ := h; rfl) | (obtain ⟨_, _, _, _, rfl, _⟩ := h; rfl) | (obtain ⟨_, _, _, _, _, rfl, _⟩ := h; rfl) | (obtain ⟨_, _, _, _, _, _, rfl, _⟩ := h; rfl) | (obtain ⟨_, _, _, _, _, _, _, rfl, _⟩ := h; rfl) | (obtain ⟨_, _, _, _, _, _, _, _, rfl, _⟩ := h; rfl) | (obtain ⟨_, _, _, _, _, _, _, _, _, rfl, _⟩ := h; rfl) | (obtain ⟨_, _, _, _, _, _, _, _, _, _, rfl, _⟩ := h; rfl) | (obtain ⟨_, _, _, _, _, _, _, _, _, _, _, rfl, _⟩ := h; rfl) | (obtain ⟨_, _, _, _, _, _, _, _, _, _, _, _, rfl, _⟩ := h; rfl) | (obtain ⟨_, _, _, _, _, _, _, _, _, _, _, _, _, rfl, _⟩ := h; rfl) | (obtain ⟨_, _, _, _, _, _, _, _, _, _, _, _, _, _, rfl, _⟩ := h; rfl) | (obtain ⟨_, _, _, _, _, _, _, _, _, _, _, _, _, _, _, rfl, _⟩ := h; rfl)) (fun vs H Q E h => r_Net_ready h)
  have G_Net_messages := ok_Net_messages (P := P) (w := w) (base := base) T  (by intro vs H Q E h; first | (obtain ⟨_, rfl, _⟩ := h; rfl) | (obtain ⟨_, _, rfl, _⟩ := h; rfl) | (obtain ⟨_, _, _, rfl, _⟩ := h; rfl) | (obtain ⟨_, _, _, _, rfl, _⟩ := h; rfl) | (obtain ⟨_, _, _, _, _, rfl, _⟩ := h; rfl) | (obtain ⟨_, _, _, _, _, _, rfl, _⟩ := h; rfl) | (obtain ⟨_, _, _, _, _, _, _, rfl, _⟩ := h; rfl) | (obtain ⟨_, _, _, _, _, _, _, _, rfl, _⟩ := h; rfl) | (obtain ⟨_, _, _, _, _, _, _, _, _, rfl, _⟩ := h; rfl) | (obtain ⟨_, _, _, _, _, _, _, _, _, _, rfl, _⟩ := h; rfl) | (obtain ⟨_, _, _, _, _, _, _, _, _, _, _, rfl, _⟩ := h; rfl) | (obtain ⟨_, _, _, _, _, _, _, _, _, _, _, _, rfl, _⟩ := h; rfl) | (obtain ⟨_, _, _, _, _, _, _, _, _, _, _, _, _, rfl, _⟩ := h; rfl) | (obtain ⟨_, _, _, _, _, _, _, _, _, _, _, _, _, _, rfl, _⟩ := h; rfl) | (obtain ⟨_, _, _, _, _, _, _, _, _, _, _, _, _, _, _, rfl, _⟩ := h; rfl)) (fun vs H Q E h => r_Net_messages h)
  have G_Net_many := ok_Net_many (P := P) (w := w) (base := base) T G_Net_messages (by intro vs H Q E h; first | (obtain ⟨_, rfl, _⟩ := h; rfl) | (obtain ⟨_, _, rfl, _⟩ := h; rfl) | (obtain ⟨_, _, _, rfl, _⟩ := h; rfl) | (obtain ⟨_, _, _, _, rfl, _⟩ := h; rfl) | (obtain ⟨_, _, _, _, _, rfl, _⟩ := h; rfl) | (obtain ⟨_, _, _, _, _, _, rfl, _⟩ := h; rfl) | (obtain ⟨_, _, _, _, _, _, _, rfl, _⟩ := h; rfl) | (obtain ⟨_, _, _, _, _, _, _, _, rfl, _⟩ := h; rfl) | (obtain ⟨_, _, _, _, _, _, _, _, _, rfl, _⟩ := h; rfl) | (obtain ⟨_, _, _, _, _, _, _, _, _, _, rfl, _⟩ := h; rfl) | (obtain ⟨_, _, _, _, _, _, _, _, _, _, _, rfl, _⟩ := h; rfl) | (obtain ⟨_, _, _, _, _, _, _, _, _, _, _, _, rfl, _⟩ := h; rfl) | (obtain ⟨_, _, _, _, _, _, _, _, _, _, _, _, _, rfl, _⟩ := h; rfl) | (obtain ⟨_, _, _, _, _, _, _, _, _, _, _, _, _, _, rfl, _⟩ := h; rfl) | (obtain ⟨_, _, _, _, _, _, _, _, _, _, _, _, _, _, _, rfl, _⟩ := h; rfl)) (fun vs H Q E h => r_Net_many h)
  have G_law_draws := ok_law_draws (P := P) (w := w) (base := base) T  (by intro vs H Q E h; first | (obtain ⟨_, rfl, _⟩ := h; rfl) | (obtain ⟨_, _, rfl, _⟩ := h; rfl) | (obtain ⟨_, _, _, rfl, _⟩ := h; rfl) | (obtain ⟨_, _, _, _, rfl, _⟩ := h; rfl) | (obtain ⟨_, _, _, _, _, rfl, _⟩ := h; rfl) | (obtain ⟨_, _, _, _, _, _, rfl, _⟩ := h; rfl) | (obtain ⟨_, _, _, _, _, _, _, rfl, _⟩ := h; rfl) | (obtain ⟨_, _, _, _, _, _, _, _, rfl, _⟩ := h; rfl) | (obtain ⟨_, _, _, _, _, _, _, _, _, rfl, _⟩ := h; rfl) | (obtain ⟨_, _, _, _, _, _, _, _, _, _, rfl, _⟩ := h; rfl) | (obtain ⟨_, _, _, _, _, _, _, _, _, _, _, rfl, _⟩ := h; rfl) | (obtain ⟨_, _, _, _, _, _, _, _, _, _, _, _, rfl, _⟩ := h; rfl) | (obtain ⟨_, _, _, _, _, _, _, _, _, _, _, _, _, rfl, _⟩ := h; rfl) | (obtain ⟨_, _, _, _, _, _, _, _, _, _, _, _, _, _, rfl, _⟩ := h; rfl) | (obtain ⟨_, _, _, _, _, _, _, _, _, _, _, _, _, _, _, rfl, _⟩ := h; rfl)) (fun vs H Q E h => r_law_draws h)
  have G_law_take := ok_law_take (P := P) (w := w) (base := base) T  (by intro vs H Q E h; first | (obtain ⟨_, rfl, _⟩ := h; rfl) | (obtain ⟨_, _, rfl, _⟩ := h; rfl) | (obtain ⟨_, _, _, rfl, _⟩ := h; rfl) | (obtain ⟨_, _, _, _, rfl, _⟩ := h; rfl) | (obtain ⟨_, _, _, _, _, rfl, _⟩ := h; rfl) | (obtain ⟨_, _, _, _, _, _, rfl, _⟩ := h; rfl) | (obtain ⟨_, _, _, _, _, _, _, rfl, _⟩ := h; rfl) | (obtain ⟨_, _, _, _, _, _, _, _, rfl, _⟩ := h; rfl) | (obtain ⟨_, _, _, _, _, _, _, _, _, rfl, _⟩ := h; rfl) | (obtain ⟨_, _, _, _, _, _, _, _, _, _, rfl, _⟩ := h; rfl) | (obtain ⟨_, _, _, _, _, _, _, _, _, _, _, rfl, _⟩ := h; rfl) | (obtain ⟨_, _, _, _, _, _, _, _, _, _, _, _, rfl, _⟩ := h; rfl) | (obtain ⟨_, _, _, _, _, _, _, _, _, _, _, _, _, rfl, _⟩ := h; rfl) | (obtain ⟨_, _, _, _, _, _, _, _, _, _, _, _, _, _, rfl, _⟩ := h; rfl) | (obtain ⟨_, _, _, _, _, _, _, _, _, _, _, _, _, _, _, rfl, _⟩ := h; rfl)) (fun vs H Q E h => r_law_take h)
  have law_alikeZ0 : FnOk P w K mg base CX0 1 T.law_alike.a T.law_alike.fd ["found", "due"] (fun _ _ _ _ => False) := ⟨fun _ _ _ _ h => h.elim, fun _ _ _ _ _ _ _ _ _ _ _ _ _ h => h.elim⟩
  have law_alikeZ1 := ok_law_alike (P := P) (w := w) (base := base) T (fun _ _ _ _ => False) (sp_law_alike K 0) 0 law_alikeZ0 (by intro vs H Q E h; first | (obtain ⟨_, rfl, _⟩ := h; rfl) | (obtain ⟨_, _, rfl, _⟩ := h; rfl) | (obtain ⟨_, _, _, rfl, _⟩ := h; rfl) | (obtain ⟨_, _, _, _, rfl, _⟩ := h; rfl) | (obtain ⟨_, _, _, _, _, rfl, _⟩ := h; rfl) | (obtain ⟨_, _, _, _, _, _, rfl, _⟩ := h; rfl) | (obtain ⟨_, _, _, _, _, _, _, rfl, _⟩ := h; rfl) | (obtain ⟨_, _, _, _, _, _, _, _, rfl, _⟩ := h; rfl) | (obtain ⟨_, _, _, _, _, _, _, _, _, rfl, _⟩ := h; rfl) | (obtain ⟨_, _, _, _, _, _, _, _, _, _, rfl, _⟩ := h; rfl) | (obtain ⟨_, _, _, _, _, _, _, _, _, _, _, rfl, _⟩ := h; rfl) | (obtain ⟨_, _, _, _, _, _, _, _, _, _, _, _, rfl, _⟩ := h; rfl) | (obtain ⟨_, _, _, _, _, _, _, _, _, _, _, _, _, rfl, _⟩ := h; rfl) | (obtain ⟨_, _, _, _, _, _, _, _, _, _, _, _, _, _, rfl, _⟩ := h; rfl) | (obtain ⟨_, _, _, _, _, _, _, _, _, _, _, _, _, _, _, rfl, _⟩ := h; rfl)) (fun vs H Q E h => r_law_alike0 h)
  have law_alikeZ2 := ok_law_alike (P := P) (w := w) (base := base) T (sp_law_alike K 0) (sp_law_alike K 1) 1 law_alikeZ1 (by intro vs H Q E h; first | (obtain ⟨_, rfl, _⟩ := h; rfl) | (obtain ⟨_, _, rfl, _⟩ := h; rfl) | (obtain ⟨_, _, _, rfl, _⟩ := h; rfl) | (obtain ⟨_, _, _, _, rfl, _⟩ := h; rfl) | (obtain ⟨_, _, _, _, _, rfl, _⟩ := h; rfl) | (obtain ⟨_, _, _, _, _, _, rfl, _⟩ := h; rfl) | (obtain ⟨_, _, _, _, _, _, _, rfl, _⟩ := h; rfl) | (obtain ⟨_, _, _, _, _, _, _, _, rfl, _⟩ := h; rfl) | (obtain ⟨_, _, _, _, _, _, _, _, _, rfl, _⟩ := h; rfl) | (obtain ⟨_, _, _, _, _, _, _, _, _, _, rfl, _⟩ := h; rfl) | (obtain ⟨_, _, _, _, _, _, _, _, _, _, _, rfl, _⟩ := h; rfl) | (obtain ⟨_, _, _, _, _, _, _, _, _, _, _, _, rfl, _⟩ := h; rfl) | (obtain ⟨_, _, _, _, _, _, _, _, _, _, _, _, _, rfl, _⟩ := h; rfl) | (obtain ⟨_, _, _, _, _, _, _, _, _, _, _, _, _, _, rfl, _⟩ := h; rfl) | (obtain ⟨_, _, _, _, _, _, _, _, _, _, _, _, _, _, _, rfl, _⟩ := h; rfl)) (fun vs H Q E h => r_law_alike h)
  have law_alikeZ3 := ok_law_alike (P := P) (w := w) (base := base) T (sp_law_alike K 1) (sp_law_alike K 2) 2 law_alikeZ2 (by intro vs H Q E h; first | (obtain ⟨_, rfl, _⟩ := h; rfl) | (obtain ⟨_, _, rfl, _⟩ := h; rfl) | (obtain ⟨_, _, _, rfl, _⟩ := h; rfl) | (obtain ⟨_, _, _, _, rfl, _⟩ := h; rfl) | (obtain ⟨_, _, _, _, _, rfl, _⟩ := h; rfl) | (obtain ⟨_, _, _, _, _, _, rfl, _⟩ := h; rfl) | (obtain ⟨_, _, _, _, _, _, _, rfl, _⟩ := h; rfl) | (obtain ⟨_, _, _, _, _, _, _, _, rfl, _⟩ := h; rfl) | (obtain ⟨_, _, _, _, _, _, _, _, _, rfl, _⟩ := h; rfl) | (obtain ⟨_, _, _, _, _, _, _, _, _, _, rfl, _⟩ := h; rfl) | (obtain ⟨_, _, _, _, _, _, _, _, _, _, _, rfl, _⟩ := h; rfl) | (obtain ⟨_, _, _, _, _, _, _, _, _, _, _, _, rfl, _⟩ := h; rfl) | (obtain ⟨_, _, _, _, _, _, _, _, _, _, _, _, _, rfl, _⟩ := h; rfl) | (obtain ⟨_, _, _, _, _, _, _, _, _, _, _, _, _, _, rfl, _⟩ := h; rfl) | (obtain ⟨_, _, _, _, _, _, _, _, _, _, _, _, _, _, _, rfl, _⟩ := h; rfl)) (fun vs H Q E h => r_law_alike h)
  have law_alikeZ4 := ok_law_alike (P := P) (w := w) (base := base) T (sp_law_alike K 2) (sp_law_alike K 3) 3 law_alikeZ3 (by intro vs H Q E h; first | (obtain ⟨_, rfl, _⟩ := h; rfl) | (obtain ⟨_, _, rfl, _⟩ := h; rfl) | (obtain ⟨_, _, _, rfl, _⟩ := h; rfl) | (obtain ⟨_, _, _, _, rfl, _⟩ := h; rfl) | (obtain ⟨_, _, _, _, _, rfl, _⟩ := h; rfl) | (obtain ⟨_, _, _, _, _, _, rfl, _⟩ := h; rfl) | (obtain ⟨_, _, _, _, _, _, _, rfl, _⟩ := h; rfl) | (obtain ⟨_, _, _, _, _, _, _, _, rfl, _⟩ := h; rfl) | (obtain ⟨_, _, _, _, _, _, _, _, _, rfl, _⟩ := h; rfl) | (obtain ⟨_, _, _, _, _, _, _, _, _, _, rfl, _⟩ := h; rfl) | (obtain ⟨_, _, _, _, _, _, _, _, _, _, _, rfl, _⟩ := h; rfl) | (obtain ⟨_, _, _, _, _, _, _, _, _, _, _, _, rfl, _⟩ := h; rfl) | (obtain ⟨_, _, _, _, _, _, _, _, _, _, _, _, _, rfl, _⟩ := h; rfl) | (obtain ⟨_, _, _, _, _, _, _, _, _, _, _, _, _, _, rfl, _⟩ := h; rfl) | (obtain ⟨_, _, _, _, _, _, _, _, _, _, _, _, _, _, _, rfl, _⟩ := h; rfl)) (fun vs H Q E h => r_law_alike h)
  have G_law_alike := law_alikeZ4
  have G_law_says := ok_law_says (P := P) (w := w) (base := base) T  (by intro vs H Q E h; first | (obtain ⟨_, rfl, _⟩ := h; rfl) | (obtain ⟨_, _, rfl, _⟩ := h; rfl) | (obtain ⟨_, _, _, rfl, _⟩ := h; rfl) | (obtain ⟨_, _, _, _, rfl, _⟩ := h; rfl) | (obtain ⟨_, _, _, _, _, rfl, _⟩ := h; rfl) | (obtain ⟨_, _, _, _, _, _, rfl, _⟩ := h; rfl) | (obtain ⟨_, _, _, _, _, _, _, rfl, _⟩ := h; rfl) | (obtain ⟨_, _, _, _, _, _, _, _, rfl, _⟩ := h; rfl) | (obtain ⟨_, _, _, _, _, _, _, _, _, rfl, _⟩ := h; rfl) | (obtain ⟨_, _, _, _, _, _, _, _, _, _, rfl, _⟩ := h; rfl) | (obtain ⟨_, _, _, _, _, _, _, _, _, _, _, rfl, _⟩ := h; rfl) | (obtain ⟨_, _, _, _, _, _, _, _, _, _, _, _, rfl, _⟩ := h; rfl) | (obtain ⟨_, _, _, _, _, _, _, _, _, _, _, _, _, rfl, _⟩ := h; rfl) | (obtain ⟨_, _, _, _, _, _, _, _, _, _, _, _, _, _, rfl, _⟩ := h; rfl) | (obtain ⟨_, _, _, _, _, _, _, _, _, _, _, _, _, _, _, rfl, _⟩ := h; rfl)) (fun vs H Q E h => r_law_says h)
  have G_law_word := ok_law_word (P := P) (w := w) (base := base) T (by intro a c d vs H Q E h; first | (obtain ⟨_, rfl, _⟩ := h; rfl) | (obtain ⟨_, _, rfl, _⟩ := h; rfl) | (obtain ⟨_, _, _, rfl, _⟩ := h; rfl) | (obtain ⟨_, _, _, _, rfl, _⟩ := h; rfl) | (obtain ⟨_, _, _, _, _, rfl, _⟩ := h; rfl) | (obtain ⟨_, _, _, _, _, _, rfl, _⟩ := h; rfl) | (obtain ⟨_, _, _, _, _, _, _, rfl, _⟩ := h; rfl) | (obtain ⟨_, _, _, _, _, _, _, _, rfl, _⟩ := h; rfl) | (obtain ⟨_, _, _, _, _, _, _, _, _, rfl, _⟩ := h; rfl) | (obtain ⟨_, _, _, _, _, _, _, _, _, _, rfl, _⟩ := h; rfl) | (obtain ⟨_, _, _, _, _, _, _, _, _, _, _, rfl, _⟩ := h; rfl) | (obtain ⟨_, _, _, _, _, _, _, _, _, _, _, _, rfl, _⟩ := h; rfl) | (obtain ⟨_, _, _, _, _, _, _, _, _, _, _, _, _, rfl, _⟩ := h; rfl) | (obtain ⟨_, _, _, _, _, _, _, _, _, _, _, _, _, _, rfl, _⟩ := h; rfl) | (obtain ⟨_, _, _, _, _, _, _, _, _, _, _, _, _, _, _, rfl, _⟩ := h; rfl)) (fun a c d vs H Q E h => let ⟨D, _, _, _, _, _, _, _, h1, h2, h3, _⟩ := h; ⟨D, h1, h2, h3⟩) (fun ax D vs H Q E h => r_law_word h)
  have law_expressionZ0 : FnOk P w K mg base CX0 1 T.law_expression.a T.law_expression.fd ["draws", "names", "deep"] (fun _ _ _ _ => False) := ⟨fun _ _ _ _ h => h.elim, fun _ _ _ _ _ _ _ _ _ _ _ _ _ h => h.elim⟩
  have law_expressionZ1 := ok_law_expression (P := P) (w := w) (base := base) T (fun _ _ _ _ => False) (sp_law_expression 0) 0 law_expressionZ0 G_law_take (by intro vs H Q E h; first | (obtain ⟨_, rfl, _⟩ := h; rfl) | (obtain ⟨_, _, rfl, _⟩ := h; rfl) | (obtain ⟨_, _, _, rfl, _⟩ := h; rfl) | (obtain ⟨_, _, _, _, rfl, _⟩ := h; rfl) | (obtain ⟨_, _, _, _, _, rfl, _⟩ := h; rfl) | (obtain ⟨_, _, _, _, _, _, rfl, _⟩ := h; rfl) | (obtain ⟨_, _, _, _, _, _, _, rfl, _⟩ := h; rfl) | (obtain ⟨_, _, _, _, _, _, _, _, rfl, _⟩ := h; rfl) | (obtain ⟨_, _, _, _, _, _, _, _, _, rfl, _⟩ := h; rfl) | (obtain ⟨_, _, _, _, _, _, _, _, _, _, rfl, _⟩ := h; rfl) | (obtain ⟨_, _, _, _, _, _, _, _, _, _, _, rfl, _⟩ := h; rfl) | (obtain ⟨_, _, _, _, _, _, _, _, _, _, _, _, rfl, _⟩ := h; rfl) | (obtain ⟨_, _, _, _, _, _, _, _, _, _, _, _, _, rfl, _⟩ := h; rfl) | (obtain ⟨_, _, _, _, _, _, _, _, _, _, _, _, _, _, rfl, _⟩ := h; rfl) | (obtain ⟨_, _, _, _, _, _, _, _, _, _, _, _, _, _, _, rfl, _⟩ := h; rfl)) (fun vs H Q E h => r_law_expression0 h)
  have law_expressionZ2 := ok_law_expression (P := P) (w := w) (base := base) T (sp_law_expression 0) (sp_law_expression 1) 1 law_expressionZ1 G_law_take (by intro vs H Q E h; first | (obtain ⟨_, rfl, _⟩ := h; rfl) | (obtain ⟨_, _, rfl, _⟩ := h; rfl) | (obtain ⟨_, _, _, rfl, _⟩ := h; rfl) | (obtain ⟨_, _, _, _, rfl, _⟩ := h; rfl) | (obtain ⟨_, _, _, _, _, rfl, _⟩ := h; rfl) | (obtain ⟨_, _, _, _, _, _, rfl, _⟩ := h; rfl) | (obtain ⟨_, _, _, _, _, _, _, rfl, _⟩ := h; rfl) | (obtain ⟨_, _, _, _, _, _, _, _, rfl, _⟩ := h; rfl) | (obtain ⟨_, _, _, _, _, _, _, _, _, rfl, _⟩ := h; rfl) | (obtain ⟨_, _, _, _, _, _, _, _, _, _, rfl, _⟩ := h; rfl) | (obtain ⟨_, _, _, _, _, _, _, _, _, _, _, rfl, _⟩ := h; rfl) | (obtain ⟨_, _, _, _, _, _, _, _, _, _, _, _, rfl, _⟩ := h; rfl) | (obtain ⟨_, _, _, _, _, _, _, _, _, _, _, _, _, rfl, _⟩ := h; rfl) | (obtain ⟨_, _, _, _, _, _, _, _, _, _, _, _, _, _, rfl, _⟩ := h; rfl) | (obtain ⟨_, _, _, _, _, _, _, _, _, _, _, _, _, _, _, rfl, _⟩ := h; rfl)) (fun vs H Q E h => r_law_expression h)
  have law_expressionZ3 := ok_law_expression (P := P) (w := w) (base := base) T (sp_law_expression 1) (sp_law_expression 2) 2 law_expressionZ2 G_law_take (by intro vs H Q E h; first | (obtain ⟨_, rfl, _⟩ := h; rfl) | (obtain ⟨_, _, rfl, _⟩ := h; rfl) | (obtain ⟨_, _, _, rfl, _⟩ := h; rfl) | (obtain ⟨_, _, _, _, rfl, _⟩ := h; rfl) | (obtain ⟨_, _, _, _, _, rfl, _⟩ := h; rfl) | (obtain ⟨_, _, _, _, _, _, rfl, _⟩ := h; rfl) | (obtain ⟨_, _, _, _, _, _, _, rfl, _⟩ := h; rfl) | (obtain ⟨_, _, _, _, _, _, _, _, rfl, _⟩ := h; rfl) | (obtain ⟨_, _, _, _, _, _, _, _, _, rfl, _⟩ := h; rfl) | (obtain ⟨_, _, _, _, _, _, _, _, _, _, rfl, _⟩ := h; rfl) | (obtain ⟨_, _, _, _, _, _, _, _, _, _, _, rfl, _⟩ := h; rfl) | (obtain ⟨_, _, _, _, _, _, _, _, _, _, _, _, rfl, _⟩ := h; rfl) | (obtain ⟨_, _, _, _, _, _, _, _, _, _, _, _, _, rfl, _⟩ := h; rfl) | (obtain ⟨_, _, _, _, _, _, _, _, _, _, _, _, _, _, rfl, _⟩ := h; rfl) | (obtain ⟨_, _, _, _, _, _, _, _, _, _, _, _, _, _, _, rfl, _⟩ := h; rfl)) (fun vs H Q E h => r_law_expression h)
  have G_law_expression := law_expressionZ3
  have law_bodyZ0 : FnOk P w K mg base CX0 4 T.law_body.a T.law_body.fd ["draws", "names", "kinds", "deep"] (fun _ _ _ _ => False) := ⟨fun _ _ _ _ h => h.elim, fun _ _ _ _ _ _ _ _ _ _ _ _ _ h => h.elim⟩
  have law_bodyZ1 := ok_law_body (P := P) (w := w) (base := base) T (fun _ _ _ _ => False) (sp_law_body 0) 0 G_law_take G_law_expression law_bodyZ0 (by intro vs H Q E h; first | (obtain ⟨_, rfl, _⟩ := h; rfl) | (obtain ⟨_, _, rfl, _⟩ := h; rfl) | (obtain ⟨_, _, _, rfl, _⟩ := h; rfl) | (obtain ⟨_, _, _, _, rfl, _⟩ := h; rfl) | (obtain ⟨_, _, _, _, _, rfl, _⟩ := h; rfl) | (obtain ⟨_, _, _, _, _, _, rfl, _⟩ := h; rfl) | (obtain ⟨_, _, _, _, _, _, _, rfl, _⟩ := h; rfl) | (obtain ⟨_, _, _, _, _, _, _, _, rfl, _⟩ := h; rfl) | (obtain ⟨_, _, _, _, _, _, _, _, _, rfl, _⟩ := h; rfl) | (obtain ⟨_, _, _, _, _, _, _, _, _, _, rfl, _⟩ := h; rfl) | (obtain ⟨_, _, _, _, _, _, _, _, _, _, _, rfl, _⟩ := h; rfl) | (obtain ⟨_, _, _, _, _, _, _, _, _, _, _, _, rfl, _⟩ := h; rfl) | (obtain ⟨_, _, _, _, _, _, _, _, _, _, _, _, _, rfl, _⟩ := h; rfl) | (obtain ⟨_, _, _, _, _, _, _, _, _, _, _, _, _, _, rfl, _⟩ := h; rfl) | (obtain ⟨_, _, _, _, _, _, _, _, _, _, _, _, _, _, _, rfl, _⟩ := h; rfl)) (fun vs H Q E h => r_law_body0 h)
  have law_bodyZ2 := ok_law_body (P := P) (w := w) (base := base) T (sp_law_body 0) (sp_law_body 1) 1 G_law_take G_law_expression law_bodyZ1 (by intro vs H Q E h; first | (obtain ⟨_, rfl, _⟩ := h; rfl) | (obtain ⟨_, _, rfl, _⟩ := h; rfl) | (obtain ⟨_, _, _, rfl, _⟩ := h; rfl) | (obtain ⟨_, _, _, _, rfl, _⟩ := h; rfl) | (obtain ⟨_, _, _, _, _, rfl, _⟩ := h; rfl) | (obtain ⟨_, _, _, _, _, _, rfl, _⟩ := h; rfl) | (obtain ⟨_, _, _, _, _, _, _, rfl, _⟩ := h; rfl) | (obtain ⟨_, _, _, _, _, _, _, _, rfl, _⟩ := h; rfl) | (obtain ⟨_, _, _, _, _, _, _, _, _, rfl, _⟩ := h; rfl) | (obtain ⟨_, _, _, _, _, _, _, _, _, _, rfl, _⟩ := h; rfl) | (obtain ⟨_, _, _, _, _, _, _, _, _, _, _, rfl, _⟩ := h; rfl) | (obtain ⟨_, _, _, _, _, _, _, _, _, _, _, _, rfl, _⟩ := h; rfl) | (obtain ⟨_, _, _, _, _, _, _, _, _, _, _, _, _, rfl, _⟩ := h; rfl) | (obtain ⟨_, _, _, _, _, _, _, _, _, _, _, _, _, _, rfl, _⟩ := h; rfl) | (obtain ⟨_, _, _, _, _, _, _, _, _, _, _, _, _, _, _, rfl, _⟩ := h; rfl)) (fun vs H Q E h => r_law_body h)
  have law_bodyZ3 := ok_law_body (P := P) (w := w) (base := base) T (sp_law_body 1) (sp_law_body 2) 2 G_law_take G_law_expression law_bodyZ2 (by intro vs H Q E h; first | (obtain ⟨_, rfl, _⟩ := h; rfl) | (obtain ⟨_, _, rfl, _⟩ := h; rfl) | (obtain ⟨_, _, _, rfl, _⟩ := h; rfl) | (obtain ⟨_, _, _, _, rfl, _⟩ := h; rfl) | (obtain ⟨_, _, _, _, _, rfl, _⟩ := h; rfl) | (obtain ⟨_, _, _, _, _, _, rfl, _⟩ := h; rfl) | (obtain ⟨_, _, _, _, _, _, _, rfl, _⟩ := h; rfl) | (obtain ⟨_, _, _, _, _, _, _, _, rfl, _⟩ := h; rfl) | (obtain ⟨_, _, _, _, _, _, _, _, _, rfl, _⟩ := h; rfl) | (obtain ⟨_, _, _, _, _, _, _, _, _, _, rfl, _⟩ := h; rfl) | (obtain ⟨_, _, _, _, _, _, _, _, _, _, _, rfl, _⟩ := h; rfl) | (obtain ⟨_, _, _, _, _, _, _, _, _, _, _, _, rfl, _⟩ := h; rfl) | (obtain ⟨_, _, _, _, _, _, _, _, _, _, _, _, _, rfl, _⟩ := h; rfl) | (obtain ⟨_, _, _, _, _, _, _, _, _, _, _, _, _, _, rfl, _⟩ := h; rfl) | (obtain ⟨_, _, _, _, _, _, _, _, _, _, _, _, _, _, _, rfl, _⟩ := h; rfl)) (fun vs H Q E h => r_law_body h)
  have G_law_body := law_bodyZ3
  have G_law_send := ok_law_send (P := P) (w := w) (base := base) T G_law_expression G_law_take (by intro vs H Q E h; first | (obtain ⟨_, rfl, _⟩ := h; rfl) | (obtain ⟨_, _, rfl, _⟩ := h; rfl) | (obtain ⟨_, _, _, rfl, _⟩ := h; rfl) | (obtain ⟨_, _, _, _, rfl, _⟩ := h; rfl) | (obtain ⟨_, _, _, _, _, rfl, _⟩ := h; rfl) | (obtain ⟨_, _, _, _, _, _, rfl, _⟩ := h; rfl) | (obtain ⟨_, _, _, _, _, _, _, rfl, _⟩ := h; rfl) | (obtain ⟨_, _, _, _, _, _, _, _, rfl, _⟩ := h; rfl) | (obtain ⟨_, _, _, _, _, _, _, _, _, rfl, _⟩ := h; rfl) | (obtain ⟨_, _, _, _, _, _, _, _, _, _, rfl, _⟩ := h; rfl) | (obtain ⟨_, _, _, _, _, _, _, _, _, _, _, rfl, _⟩ := h; rfl) | (obtain ⟨_, _, _, _, _, _, _, _, _, _, _, _, rfl, _⟩ := h; rfl) | (obtain ⟨_, _, _, _, _, _, _, _, _, _, _, _, _, rfl, _⟩ := h; rfl) | (obtain ⟨_, _, _, _, _, _, _, _, _, _, _, _, _, _, rfl, _⟩ := h; rfl) | (obtain ⟨_, _, _, _, _, _, _, _, _, _, _, _, _, _, _, rfl, _⟩ := h; rfl)) (fun vs H Q E h => r_law_send h)
  have law_manyZ0 : FnOk P w K mg base CX0 1 T.law_many.a T.law_many.fd ["part"] (fun _ _ _ _ => False) := ⟨fun _ _ _ _ h => h.elim, fun _ _ _ _ _ _ _ _ _ _ _ _ _ h => h.elim⟩
  have law_manyZ1 := ok_law_many (P := P) (w := w) (base := base) T (fun _ _ _ _ => False) (sp_law_many 0) 0 law_manyZ0 (by intro vs H Q E h; first | (obtain ⟨_, rfl, _⟩ := h; rfl) | (obtain ⟨_, _, rfl, _⟩ := h; rfl) | (obtain ⟨_, _, _, rfl, _⟩ := h; rfl) | (obtain ⟨_, _, _, _, rfl, _⟩ := h; rfl) | (obtain ⟨_, _, _, _, _, rfl, _⟩ := h; rfl) | (obtain ⟨_, _, _, _, _, _, rfl, _⟩ := h; rfl) | (obtain ⟨_, _, _, _, _, _, _, rfl, _⟩ := h; rfl) | (obtain ⟨_, _, _, _, _, _, _, _, rfl, _⟩ := h; rfl) | (obtain ⟨_, _, _, _, _, _, _, _, _, rfl, _⟩ := h; rfl) | (obtain ⟨_, _, _, _, _, _, _, _, _, _, rfl, _⟩ := h; rfl) | (obtain ⟨_, _, _, _, _, _, _, _, _, _, _, rfl, _⟩ := h; rfl) | (obtain ⟨_, _, _, _, _, _, _, _, _, _, _, _, rfl, _⟩ := h; rfl) | (obtain ⟨_, _, _, _, _, _, _, _, _, _, _, _, _, rfl, _⟩ := h; rfl) | (obtain ⟨_, _, _, _, _, _, _, _, _, _, _, _, _, _, rfl, _⟩ := h; rfl) | (obtain ⟨_, _, _, _, _, _, _, _, _, _, _, _, _, _, _, rfl, _⟩ := h; rfl)) (fun vs H Q E h => r_law_many0 h)
  have law_manyZ2 := ok_law_many (P := P) (w := w) (base := base) T (sp_law_many 0) (sp_law_many 1) 1 law_manyZ1 (by intro vs H Q E h; first | (obtain ⟨_, rfl, _⟩ := h; rfl) | (obtain ⟨_, _, rfl, _⟩ := h; rfl) | (obtain ⟨_, _, _, rfl, _⟩ := h; rfl) | (obtain ⟨_, _, _, _, rfl, _⟩ := h; rfl) | (obtain ⟨_, _, _, _, _, rfl, _⟩ := h; rfl) | (obtain ⟨_, _, _, _, _, _, rfl, _⟩ := h; rfl) | (obtain ⟨_, _, _, _, _, _, _, rfl, _⟩ := h; rfl) | (obtain ⟨_, _, _, _, _, _, _, _, rfl, _⟩ := h; rfl) | (obtain ⟨_, _, _, _, _, _, _, _, _, rfl, _⟩ := h; rfl) | (obtain ⟨_, _, _, _, _, _, _, _, _, _, rfl, _⟩ := h; rfl) | (obtain ⟨_, _, _, _, _, _, _, _, _, _, _, rfl, _⟩ := h; rfl) | (obtain ⟨_, _, _, _, _, _, _, _, _, _, _, _, rfl, _⟩ := h; rfl) | (obtain ⟨_, _, _, _, _, _, _, _, _, _, _, _, _, rfl, _⟩ := h; rfl) | (obtain ⟨_, _, _, _, _, _, _, _, _, _, _, _, _, _, rfl, _⟩ := h; rfl) | (obtain ⟨_, _, _, _, _, _, _, _, _, _, _, _, _, _, _, rfl, _⟩ := h; rfl)) (fun vs H Q E h => r_law_many h)
  have law_manyZ3 := ok_law_many (P := P) (w := w) (base := base) T (sp_law_many 1) (sp_law_many 2) 2 law_manyZ2 (by intro vs H Q E h; first | (obtain ⟨_, rfl, _⟩ := h; rfl) | (obtain ⟨_, _, rfl, _⟩ := h; rfl) | (obtain ⟨_, _, _, rfl, _⟩ := h; rfl) | (obtain ⟨_, _, _, _, rfl, _⟩ := h; rfl) | (obtain ⟨_, _, _, _, _, rfl, _⟩ := h; rfl) | (obtain ⟨_, _, _, _, _, _, rfl, _⟩ := h; rfl) | (obtain ⟨_, _, _, _, _, _, _, rfl, _⟩ := h; rfl) | (obtain ⟨_, _, _, _, _, _, _, _, rfl, _⟩ := h; rfl) | (obtain ⟨_, _, _, _, _, _, _, _, _, rfl, _⟩ := h; rfl) | (obtain ⟨_, _, _, _, _, _, _, _, _, _, rfl, _⟩ := h; rfl) | (obtain ⟨_, _, _, _, _, _, _, _, _, _, _, rfl, _⟩ := h; rfl) | (obtain ⟨_, _, _, _, _, _, _, _, _, _, _, _, rfl, _⟩ := h; rfl) | (obtain ⟨_, _, _, _, _, _, _, _, _, _, _, _, _, rfl, _⟩ := h; rfl) | (obtain ⟨_, _, _, _, _, _, _, _, _, _, _, _, _, _, rfl, _⟩ := h; rfl) | (obtain ⟨_, _, _, _, _, _, _, _, _, _, _, _, _, _, _, rfl, _⟩ := h; rfl)) (fun vs H Q E h => r_law_many h)
  have law_manyZ4 := ok_law_many (P := P) (w := w) (base := base) T (sp_law_many 2) (sp_law_many 3) 3 law_manyZ3 (by intro vs H Q E h; first | (obtain ⟨_, rfl, _⟩ := h; rfl) | (obtain ⟨_, _, rfl, _⟩ := h; rfl) | (obtain ⟨_, _, _, rfl, _⟩ := h; rfl) | (obtain ⟨_, _, _, _, rfl, _⟩ := h; rfl) | (obtain ⟨_, _, _, _, _, rfl, _⟩ := h; rfl) | (obtain ⟨_, _, _, _, _, _, rfl, _⟩ := h; rfl) | (obtain ⟨_, _, _, _, _, _, _, rfl, _⟩ := h; rfl) | (obtain ⟨_, _, _, _, _, _, _, _, rfl, _⟩ := h; rfl) | (obtain ⟨_, _, _, _, _, _, _, _, _, rfl, _⟩ := h; rfl) | (obtain ⟨_, _, _, _, _, _, _, _, _, _, rfl, _⟩ := h; rfl) | (obtain ⟨_, _, _, _, _, _, _, _, _, _, _, rfl, _⟩ := h; rfl) | (obtain ⟨_, _, _, _, _, _, _, _, _, _, _, _, rfl, _⟩ := h; rfl) | (obtain ⟨_, _, _, _, _, _, _, _, _, _, _, _, _, rfl, _⟩ := h; rfl) | (obtain ⟨_, _, _, _, _, _, _, _, _, _, _, _, _, _, rfl, _⟩ := h; rfl) | (obtain ⟨_, _, _, _, _, _, _, _, _, _, _, _, _, _, _, rfl, _⟩ := h; rfl)) (fun vs H Q E h => r_law_many h)
  have law_manyZ5 := ok_law_many (P := P) (w := w) (base := base) T (sp_law_many 3) (sp_law_many 4) 4 law_manyZ4 (by intro vs H Q E h; first | (obtain ⟨_, rfl, _⟩ := h; rfl) | (obtain ⟨_, _, rfl, _⟩ := h; rfl) | (obtain ⟨_, _, _, rfl, _⟩ := h; rfl) | (obtain ⟨_, _, _, _, rfl, _⟩ := h; rfl) | (obtain ⟨_, _, _, _, _, rfl, _⟩ := h; rfl) | (obtain ⟨_, _, _, _, _, _, rfl, _⟩ := h; rfl) | (obtain ⟨_, _, _, _, _, _, _, rfl, _⟩ := h; rfl) | (obtain ⟨_, _, _, _, _, _, _, _, rfl, _⟩ := h; rfl) | (obtain ⟨_, _, _, _, _, _, _, _, _, rfl, _⟩ := h; rfl) | (obtain ⟨_, _, _, _, _, _, _, _, _, _, rfl, _⟩ := h; rfl) | (obtain ⟨_, _, _, _, _, _, _, _, _, _, _, rfl, _⟩ := h; rfl) | (obtain ⟨_, _, _, _, _, _, _, _, _, _, _, _, rfl, _⟩ := h; rfl) | (obtain ⟨_, _, _, _, _, _, _, _, _, _, _, _, _, rfl, _⟩ := h; rfl) | (obtain ⟨_, _, _, _, _, _, _, _, _, _, _, _, _, _, rfl, _⟩ := h; rfl) | (obtain ⟨_, _, _, _, _, _, _, _, _, _, _, _, _, _, _, rfl, _⟩ := h; rfl)) (fun vs H Q E h => r_law_many h)
  have law_manyZ6 := ok_law_many (P := P) (w := w) (base := base) T (sp_law_many 4) (sp_law_many 5) 5 law_manyZ5 (by intro vs H Q E h; first | (obtain ⟨_, rfl, _⟩ := h; rfl) | (obtain ⟨_, _, rfl, _⟩ := h; rfl) | (obtain ⟨_, _, _, rfl, _⟩ := h; rfl) | (obtain ⟨_, _, _, _, rfl, _⟩ := h; rfl) | (obtain ⟨_, _, _, _, _, rfl, _⟩ := h; rfl) | (obtain ⟨_, _, _, _, _, _, rfl, _⟩ := h; rfl) | (obtain ⟨_, _, _, _, _, _, _, rfl, _⟩ := h; rfl) | (obtain ⟨_, _, _, _, _, _, _, _, rfl, _⟩ := h; rfl) | (obtain ⟨_, _, _, _, _, _, _, _, _, rfl, _⟩ := h; rfl) | (obtain ⟨_, _, _, _, _, _, _, _, _, _, rfl, _⟩ := h; rfl) | (obtain ⟨_, _, _, _, _, _, _, _, _, _, _, rfl, _⟩ := h; rfl) | (obtain ⟨_, _, _, _, _, _, _, _, _, _, _, _, rfl, _⟩ := h; rfl) | (obtain ⟨_, _, _, _, _, _, _, _, _, _, _, _, _, rfl, _⟩ := h; rfl) | (obtain ⟨_, _, _, _, _, _, _, _, _, _, _, _, _, _, rfl, _⟩ := h; rfl) | (obtain ⟨_, _, _, _, _, _, _, _, _, _, _, _, _, _, _, rfl, _⟩ := h; rfl)) (fun vs H Q E h => r_law_many h)
  have law_manyZ7 := ok_law_many (P := P) (w := w) (base := base) T (sp_law_many 5) (sp_law_many 6) 6 law_manyZ6 (by intro vs H Q E h; first | (obtain ⟨_, rfl, _⟩ := h; rfl) | (obtain ⟨_, _, rfl, _⟩ := h; rfl) | (obtain ⟨_, _, _, rfl, _⟩ := h; rfl) | (obtain ⟨_, _, _, _, rfl, _⟩ := h; rfl) | (obtain ⟨_, _, _, _, _, rfl, _⟩ := h; rfl) | (obtain ⟨_, _, _, _, _, _, rfl, _⟩ := h; rfl) | (obtain ⟨_, _, _, _, _, _, _, rfl, _⟩ := h; rfl) | (obtain ⟨_, _, _, _, _, _, _, _, rfl, _⟩ := h; rfl) | (obtain ⟨_, _, _, _, _, _, _, _, _, rfl, _⟩ := h; rfl) | (obtain ⟨_, _, _, _, _, _, _, _, _, _, rfl, _⟩ := h; rfl) | (obtain ⟨_, _, _, _, _, _, _, _, _, _, _, rfl, _⟩ := h; rfl) | (obtain ⟨_, _, _, _, _, _, _, _, _, _, _, _, rfl, _⟩ := h; rfl) | (obtain ⟨_, _, _, _, _, _, _, _, _, _, _, _, _, rfl, _⟩ := h; rfl) | (obtain ⟨_, _, _, _, _, _, _, _, _, _, _, _, _, _, rfl, _⟩ := h; rfl) | (obtain ⟨_, _, _, _, _, _, _, _, _, _, _, _, _, _, _, rfl, _⟩ := h; rfl)) (fun vs H Q E h => r_law_many h)
  have law_manyZ8 := ok_law_many (P := P) (w := w) (base := base) T (sp_law_many 6) (sp_law_many 7) 7 law_manyZ7 (by intro vs H Q E h; first | (obtain ⟨_, rfl, _⟩ := h; rfl) | (obtain ⟨_, _, rfl, _⟩ := h; rfl) | (obtain ⟨_, _, _, rfl, _⟩ := h; rfl) | (obtain ⟨_, _, _, _, rfl, _⟩ := h; rfl) | (obtain ⟨_, _, _, _, _, rfl, _⟩ := h; rfl) | (obtain ⟨_, _, _, _, _, _, rfl, _⟩ := h; rfl) | (obtain ⟨_, _, _, _, _, _, _, rfl, _⟩ := h; rfl) | (obtain ⟨_, _, _, _, _, _, _, _, rfl, _⟩ := h; rfl) | (obtain ⟨_, _, _, _, _, _, _, _, _, rfl, _⟩ := h; rfl) | (obtain ⟨_, _, _, _, _, _, _, _, _, _, rfl, _⟩ := h; rfl) | (obtain ⟨_, _, _, _, _, _, _, _, _, _, _, rfl, _⟩ := h; rfl) | (obtain ⟨_, _, _, _, _, _, _, _, _, _, _, _, rfl, _⟩ := h; rfl) | (obtain ⟨_, _, _, _, _, _, _, _, _, _, _, _, _, rfl, _⟩ := h; rfl) | (obtain ⟨_, _, _, _, _, _, _, _, _, _, _, _, _, _, rfl, _⟩ := h; rfl) | (obtain ⟨_, _, _, _, _, _, _, _, _, _, _, _, _, _, _, rfl, _⟩ := h; rfl)) (fun vs H Q E h => r_law_many h)
  have law_manyZ9 := ok_law_many (P := P) (w := w) (base := base) T (sp_law_many 7) (sp_law_many 8) 8 law_manyZ8 (by intro vs H Q E h; first | (obtain ⟨_, rfl, _⟩ := h; rfl) | (obtain ⟨_, _, rfl, _⟩ := h; rfl) | (obtain ⟨_, _, _, rfl, _⟩ := h; rfl) | (obtain ⟨_, _, _, _, rfl, _⟩ := h; rfl) | (obtain ⟨_, _, _, _, _, rfl, _⟩ := h; rfl) | (obtain ⟨_, _, _, _, _, _, rfl, _⟩ := h; rfl) | (obtain ⟨_, _, _, _, _, _, _, rfl, _⟩ := h; rfl) | (obtain ⟨_, _, _, _, _, _, _, _, rfl, _⟩ := h; rfl) | (obtain ⟨_, _, _, _, _, _, _, _, _, rfl, _⟩ := h; rfl) | (obtain ⟨_, _, _, _, _, _, _, _, _, _, rfl, _⟩ := h; rfl) | (obtain ⟨_, _, _, _, _, _, _, _, _, _, _, rfl, _⟩ := h; rfl) | (obtain ⟨_, _, _, _, _, _, _, _, _, _, _, _, rfl, _⟩ := h; rfl) | (obtain ⟨_, _, _, _, _, _, _, _, _, _, _, _, _, rfl, _⟩ := h; rfl) | (obtain ⟨_, _, _, _, _, _, _, _, _, _, _, _, _, _, rfl, _⟩ := h; rfl) | (obtain ⟨_, _, _, _, _, _, _, _, _, _, _, _, _, _, _, rfl, _⟩ := h; rfl)) (fun vs H Q E h => r_law_many h)
  have law_manyZ10 := ok_law_many (P := P) (w := w) (base := base) T (sp_law_many 8) (sp_law_many 9) 9 law_manyZ9 (by intro vs H Q E h; first | (obtain ⟨_, rfl, _⟩ := h; rfl) | (obtain ⟨_, _, rfl, _⟩ := h; rfl) | (obtain ⟨_, _, _, rfl, _⟩ := h; rfl) | (obtain ⟨_, _, _, _, rfl, _⟩ := h; rfl) | (obtain ⟨_, _, _, _, _, rfl, _⟩ := h; rfl) | (obtain ⟨_, _, _, _, _, _, rfl, _⟩ := h; rfl) | (obtain ⟨_, _, _, _, _, _, _, rfl, _⟩ := h; rfl) | (obtain ⟨_, _, _, _, _, _, _, _, rfl, _⟩ := h; rfl) | (obtain ⟨_, _, _, _, _, _, _, _, _, rfl, _⟩ := h; rfl) | (obtain ⟨_, _, _, _, _, _, _, _, _, _, rfl, _⟩ := h; rfl) | (obtain ⟨_, _, _, _, _, _, _, _, _, _, _, rfl, _⟩ := h; rfl) | (obtain ⟨_, _, _, _, _, _, _, _, _, _, _, _, rfl, _⟩ := h; rfl) | (obtain ⟨_, _, _, _, _, _, _, _, _, _, _, _, _, rfl, _⟩ := h; rfl) | (obtain ⟨_, _, _, _, _, _, _, _, _, _, _, _, _, _, rfl, _⟩ := h; rfl) | (obtain ⟨_, _, _, _, _, _, _, _, _, _, _, _, _, _, _, rfl, _⟩ := h; rfl)) (fun vs H Q E h => r_law_many h)
  have law_manyZ11 := ok_law_many (P := P) (w := w) (base := base) T (sp_law_many 9) (sp_law_many 10) 10 law_manyZ10 (by intro vs H Q E h; first | (obtain ⟨_, rfl, _⟩ := h; rfl) | (obtain ⟨_, _, rfl, _⟩ := h; rfl) | (obtain ⟨_, _, _, rfl, _⟩ := h; rfl) | (obtain ⟨_, _, _, _, rfl, _⟩ := h; rfl) | (obtain ⟨_, _, _, _, _, rfl, _⟩ := h; rfl) | (obtain ⟨_, _, _, _, _, _, rfl, _⟩ := h; rfl) | (obtain ⟨_, _, _, _, _, _, _, rfl, _⟩ := h; rfl) | (obtain ⟨_, _, _, _, _, _, _, _, rfl, _⟩ := h; rfl) | (obtain ⟨_, _, _, _, _, _, _, _, _, rfl, _⟩ := h; rfl) | (obtain ⟨_, _, _, _, _, _, _, _, _, _, rfl, _⟩ := h; rfl) | (obtain ⟨_, _, _, _, _, _, _, _, _, _, _, rfl, _⟩ := h; rfl) | (obtain ⟨_, _, _, _, _, _, _, _, _, _, _, _, rfl, _⟩ := h; rfl) | (obtain ⟨_, _, _, _, _, _, _, _, _, _, _, _, _, rfl, _⟩ := h; rfl) | (obtain ⟨_, _, _, _, _, _, _, _, _, _, _, _, _, _, rfl, _⟩ := h; rfl) | (obtain ⟨_, _, _, _, _, _, _, _, _, _, _, _, _, _, _, rfl, _⟩ := h; rfl)) (fun vs H Q E h => r_law_many h)
  have law_manyZ12 := ok_law_many (P := P) (w := w) (base := base) T (sp_law_many 10) (sp_law_many 11) 11 law_manyZ11 (by intro vs H Q E h; first | (obtain ⟨_, rfl, _⟩ := h; rfl) | (obtain ⟨_, _, rfl, _⟩ := h; rfl) | (obtain ⟨_, _, _, rfl, _⟩ := h; rfl) | (obtain ⟨_, _, _, _, rfl, _⟩ := h; rfl) | (obtain ⟨_, _, _, _, _, rfl, _⟩ := h; rfl) | (obtain ⟨_, _, _, _, _, _, rfl, _⟩ := h; rfl) | (obtain ⟨_, _, _, _, _, _, _, rfl, _⟩ := h; rfl) | (obtain ⟨_, _, _, _, _, _, _, _, rfl, _⟩ := h; rfl) | (obtain ⟨_, _, _, _, _, _, _, _, _, rfl, _⟩ := h; rfl) | (obtain ⟨_, _, _, _, _, _, _, _, _, _, rfl, _⟩ := h; rfl) | (obtain ⟨_, _, _, _, _, _, _, _, _, _, _, rfl, _⟩ := h; rfl) | (obtain ⟨_, _, _, _, _, _, _, _, _, _, _, _, rfl, _⟩ := h; rfl) | (obtain ⟨_, _, _, _, _, _, _, _, _, _, _, _, _, rfl, _⟩ := h; rfl) | (obtain ⟨_, _, _, _, _, _, _, _, _, _, _, _, _, _, rfl, _⟩ := h; rfl) | (obtain ⟨_, _, _, _, _, _, _, _, _, _, _, _, _, _, _, rfl, _⟩ := h; rfl)) (fun vs H Q E h => r_law_many h)
  have G_law_many := law_manyZ12
  have G_law_model := ok_law_model (P := P) (w := w) (base := base) T G_law_take G_law_many G_law_send G_law_body (by intro vs H Q E h; first | (obtain ⟨_, rfl, _⟩ := h; rfl) | (obtain ⟨_, _, rfl, _⟩ := h; rfl) | (obtain ⟨_, _, _, rfl, _⟩ := h; rfl) | (obtain ⟨_, _, _, _, rfl, _⟩ := h; rfl) | (obtain ⟨_, _, _, _, _, rfl, _⟩ := h; rfl) | (obtain ⟨_, _, _, _, _, _, rfl, _⟩ := h; rfl) | (obtain ⟨_, _, _, _, _, _, _, rfl, _⟩ := h; rfl) | (obtain ⟨_, _, _, _, _, _, _, _, rfl, _⟩ := h; rfl) | (obtain ⟨_, _, _, _, _, _, _, _, _, rfl, _⟩ := h; rfl) | (obtain ⟨_, _, _, _, _, _, _, _, _, _, rfl, _⟩ := h; rfl) | (obtain ⟨_, _, _, _, _, _, _, _, _, _, _, rfl, _⟩ := h; rfl) | (obtain ⟨_, _, _, _, _, _, _, _, _, _, _, _, rfl, _⟩ := h; rfl) | (obtain ⟨_, _, _, _, _, _, _, _, _, _, _, _, _, rfl, _⟩ := h; rfl) | (obtain ⟨_, _, _, _, _, _, _, _, _, _, _, _, _, _, rfl, _⟩ := h; rfl) | (obtain ⟨_, _, _, _, _, _, _, _, _, _, _, _, _, _, _, rfl, _⟩ := h; rfl)) (fun vs H Q E h => r_law_model h)
  have G_law_told := ok_law_told (P := P) (w := w) (base := base) T G_Net_take G_Net_put G_law_word (by intro vs H Q E h; first | (obtain ⟨_, rfl, _⟩ := h; rfl) | (obtain ⟨_, _, rfl, _⟩ := h; rfl) | (obtain ⟨_, _, _, rfl, _⟩ := h; rfl) | (obtain ⟨_, _, _, _, rfl, _⟩ := h; rfl) | (obtain ⟨_, _, _, _, _, rfl, _⟩ := h; rfl) | (obtain ⟨_, _, _, _, _, _, rfl, _⟩ := h; rfl) | (obtain ⟨_, _, _, _, _, _, _, rfl, _⟩ := h; rfl) | (obtain ⟨_, _, _, _, _, _, _, _, rfl, _⟩ := h; rfl) | (obtain ⟨_, _, _, _, _, _, _, _, _, rfl, _⟩ := h; rfl) | (obtain ⟨_, _, _, _, _, _, _, _, _, _, rfl, _⟩ := h; rfl) | (obtain ⟨_, _, _, _, _, _, _, _, _, _, _, rfl, _⟩ := h; rfl) | (obtain ⟨_, _, _, _, _, _, _, _, _, _, _, _, rfl, _⟩ := h; rfl) | (obtain ⟨_, _, _, _, _, _, _, _, _, _, _, _, _, rfl, _⟩ := h; rfl) | (obtain ⟨_, _, _, _, _, _, _, _, _, _, _, _, _, _, rfl, _⟩ := h; rfl) | (obtain ⟨_, _, _, _, _, _, _, _, _, _, _, _, _, _, _, rfl, _⟩ := h; rfl)) (fun vs H Q E h => r_law_told (wordOk_NotThere T) h)
  have G_law := ok_law (P := P) (w := w) (base := base) T G_is_schedule G_law_says G_is_map G_law_take G_law_model G_chosen G_law_told G_Net_ready G_law_alike G_Net_messages G_Net_many G_Net_put G_Net__init_ G_law_draws (by intro vs H Q E h; first | (obtain ⟨_, rfl, _⟩ := h; rfl) | (obtain ⟨_, _, rfl, _⟩ := h; rfl) | (obtain ⟨_, _, _, rfl, _⟩ := h; rfl) | (obtain ⟨_, _, _, _, rfl, _⟩ := h; rfl) | (obtain ⟨_, _, _, _, _, rfl, _⟩ := h; rfl) | (obtain ⟨_, _, _, _, _, _, rfl, _⟩ := h; rfl) | (obtain ⟨_, _, _, _, _, _, _, rfl, _⟩ := h; rfl) | (obtain ⟨_, _, _, _, _, _, _, _, rfl, _⟩ := h; rfl) | (obtain ⟨_, _, _, _, _, _, _, _, _, rfl, _⟩ := h; rfl) | (obtain ⟨_, _, _, _, _, _, _, _, _, _, rfl, _⟩ := h; rfl) | (obtain ⟨_, _, _, _, _, _, _, _, _, _, _, rfl, _⟩ := h; rfl) | (obtain ⟨_, _, _, _, _, _, _, _, _, _, _, _, rfl, _⟩ := h; rfl) | (obtain ⟨_, _, _, _, _, _, _, _, _, _, _, _, _, rfl, _⟩ := h; rfl) | (obtain ⟨_, _, _, _, _, _, _, _, _, _, _, _, _, _, rfl, _⟩ := h; rfl) | (obtain ⟨_, _, _, _, _, _, _, _, _, _, _, _, _, _, _, rfl, _⟩ := h; rfl)) (fun vs H Q E h => r_law h)
  exact G_law
end
theorem all_mk {l : PySem.W.OpenLaw} {q : Program} {w : World} {K : PySem.W.Frag} {h : Heap} {mg : Str → Option Value} {fa : Addr} (X : K.In h) (G : h.Ns mainGlobals mg) (hfa : mg "law" = some (.ref fa)) (own : ∀ (y : Str) (fy : Addr), ((recsOf q).any fun e => e.name == y) = true → mg y = some (.ref fy) → LamX.OwnTab K fy h)
    {C_Net C_TraceError C_OutOfRange C_Malformed C_NotThere C_Refused C_TooMuch f_is_number f_is_map f_is_schedule f_chosen f_Net__init_ f_Net_check f_Net_put f_Net_take f_Net_ready f_Net_messages f_Net_many f_law_draws f_law_take f_law_alike f_law_says f_law_word f_law_expression f_law_body f_law_send f_law_many f_law_model f_law_told f_law : Addr}
    {D_is_map P_is_map D_is_schedule P_is_schedule : Addr} {dd_is_map dd_is_schedule : Option Addr} {vs_is_map vs_is_schedule : Array Value} {sk_is_map sk_is_schedule : Array (Option Value)}
    {od_is_number an_is_number od_is_map an_is_map od_is_schedule an_is_schedule od_chosen an_chosen od_Net__init_ an_Net__init_ od_Net_check an_Net_check od_Net_put an_Net_put od_Net_take an_Net_take od_Net_ready an_Net_ready od_Net_messages an_Net_messages od_Net_many an_Net_many od_law_draws an_law_draws od_law_take an_law_take od_law_alike an_law_alike od_law_says an_law_says od_law_word an_law_word od_law_expression an_law_expression od_law_body an_law_body od_law_send an_law_send od_law_many an_law_many od_law_model an_law_model od_law_told an_law_told od_law an_law : Option Addr} {sl_is_number sl_is_map sl_is_schedule sl_chosen sl_Net__init_ sl_Net_check sl_Net_put sl_Net_take sl_Net_ready sl_Net_messages sl_Net_many sl_law_draws sl_law_take sl_law_alike sl_law_says sl_law_word sl_law_expression sl_law_body sl_law_send sl_law_many sl_law_model sl_law_told sl_law : Array (Option Value)} {oc_is_number kV_is_number dc_is_number pm_is_number ct_is_number cd_is_number oc_is_map kV_is_map dc_is_map pm_is_map ct_is_map oc_is_schedule kV_is_schedule dc_is_schedule pm_is_schedule ct_is_schedule oc_chosen kV_chosen dc_chosen pm_chosen ct_chosen cd_chosen oc_Net__init_ kV_Net__init_ dc_Net__init_ pm_Net__init_ ct_Net__init_ cd_Net__init_ oc_Net_check kV_Net_check dc_Net_check pm_Net_check ct_Net_check cd_Net_check oc_Net_put kV_Net_put dc_Net_put pm_Net_put ct_Net_put cd_Net_put oc_Net_take kV_Net_take dc_Net_take pm_Net_take ct_Net_take cd_Net_take oc_Net_ready kV_Net_ready dc_Net_ready pm_Net_ready ct_Net_ready cd_Net_ready oc_Net_messages kV_Net_messages dc_Net_messages pm_Net_messages ct_Net_messages cd_Net_messages oc_Net_many kV_Net_many dc_Net_many pm_Net_many ct_Net_many cd_Net_many oc_law_draws kV_law_draws dc_law_draws pm_law_draws ct_law_draws cd_law_draws oc_law_take kV_law_take dc_law_take pm_law_take ct_law_take cd_law_take oc_law_alike kV_law_alike dc_law_alike pm_law_alike ct_law_alike cd_law_alike oc_law_says kV_law_says dc_law_says pm_law_says ct_law_says cd_law_says oc_law_word kV_law_word dc_law_word pm_law_word ct_law_word cd_law_word oc_law_expression kV_law_expression dc_law_expression pm_law_expression ct_law_expression cd_law_expression oc_law_body kV_law_body dc_law_body pm_law_body ct_law_body cd_law_body oc_law_send kV_law_send dc_law_send pm_law_send ct_law_send cd_law_send oc_law_many kV_law_many dc_law_many pm_law_many ct_law_many cd_law_many oc_law_model kV_law_model dc_law_model pm_law_model ct_law_model cd_law_model oc_law_told kV_law_told dc_law_told pm_law_told ct_law_told cd_law_told oc_law kV_law dc_law pm_law ct_law cd_law : Value}
    {tk_MOST_DRAW : Tok}
    (a_Net : PySem.W.nsIn K mainGlobals "Net" = some (some (.ref C_Net)))
    (a_TraceError : PySem.W.nsIn K mainGlobals "TraceError" = some (some (.ref C_TraceError)))
    (a_OutOfRange : PySem.W.nsIn K mainGlobals "OutOfRange" = some (some (.ref C_OutOfRange)))
    (a_Malformed : PySem.W.nsIn K mainGlobals "Malformed" = some (some (.ref C_Malformed)))
    (a_NotThere : PySem.W.nsIn K mainGlobals "NotThere" = some (some (.ref C_NotThere)))
    (a_Refused : PySem.W.nsIn K mainGlobals "Refused" = some (some (.ref C_Refused)))
    (a_TooMuch : PySem.W.nsIn K mainGlobals "TooMuch" = some (some (.ref C_TooMuch)))
    (a_is_number : PySem.W.nsIn K mainGlobals "is_number" = some (some (.ref f_is_number)))
    (l_is_number : K.lookup f_is_number = some ⟨oc_is_number, od_is_number, .func (PySem.W.fnOf "is_number" "is_number" (defArgs s_is_number) (defBody s_is_number) (defScope s_is_number) .none kV_is_number dc_is_number pm_is_number an_is_number cd_is_number ct_is_number), sl_is_number⟩)
    (c_is_number : PySem.W.codeIn K cd_is_number "is_number" = true)
    (k_is_number : PySem.W.keepIn K (.ref f_is_number) = true)
    (a_is_map : PySem.W.nsIn K mainGlobals "is_map" = some (some (.ref f_is_map)))
    (l_is_map : K.lookup f_is_map = some ⟨oc_is_map, od_is_map, .func (PySem.W.fnOf "is_map" "is_map" (defArgs s_is_map) (defBody s_is_map) (defScope s_is_map) .none kV_is_map dc_is_map pm_is_map an_is_map (.ref D_is_map) ct_is_map), sl_is_map⟩)
    (c_is_map : PySem.W.codeIn K (.ref D_is_map) "is_map" = true)
    (kc_is_map : K.lookup D_is_map = some ⟨.type "code", dd_is_map, .fields vs_is_map, sk_is_map⟩)
    (v11_is_map : vs_is_map[11]? = some (.ref P_is_map))
    (np_is_map : K.lookup P_is_map = none)
    (ch_is_map : codeChk vs_is_map D_is_map P_is_map = true)
    (r1_is_map : ((recsOf q).any fun e => e.name == ("is_map" : Str)) = true)
    (k_is_map : PySem.W.keepIn K (.ref f_is_map) = true)
    (a_is_schedule : PySem.W.nsIn K mainGlobals "is_schedule" = some (some (.ref f_is_schedule)))
    (l_is_schedule : K.lookup f_is_schedule = some ⟨oc_is_schedule, od_is_schedule, .func (PySem.W.fnOf "is_schedule" "is_schedule" (defArgs s_is_schedule) (defBody s_is_schedule) (defScope s_is_schedule) .none kV_is_schedule dc_is_schedule pm_is_schedule an_is_schedule (.ref D_is_schedule) ct_is_schedule), sl_is_schedule⟩)
    (c_is_schedule : PySem.W.codeIn K (.ref D_is_schedule) "is_schedule" = true)
    (kc_is_schedule : K.lookup D_is_schedule = some ⟨.type "code", dd_is_schedule, .fields vs_is_schedule, sk_is_schedule⟩)
    (v11_is_schedule : vs_is_schedule[11]? = some (.ref P_is_schedule))
    (np_is_schedule : K.lookup P_is_schedule = none)
    (ch_is_schedule : codeChk vs_is_schedule D_is_schedule P_is_schedule = true)
    (r1_is_schedule : ((recsOf q).any fun e => e.name == ("is_schedule" : Str)) = true)
    (k_is_schedule : PySem.W.keepIn K (.ref f_is_schedule) = true)
    (a_chosen : PySem.W.nsIn K mainGlobals "chosen" = some (some (.ref f_chosen)))
    (l_chosen : K.lookup f_chosen = some ⟨oc_chosen, od_chosen, .func (PySem.W.fnOf "chosen" "chosen" (defArgs s_chosen) (defBody s_chosen) (defScope s_chosen) .none kV_chosen dc_chosen pm_chosen an_chosen cd_chosen ct_chosen), sl_chosen⟩)
    (c_chosen : PySem.W.codeIn K cd_chosen "chosen" = true)
    (k_chosen : PySem.W.keepIn K (.ref f_chosen) = true)
    (a_Net__init_ : PySem.W.findIn K (.ref C_Net) "__init__" = some (some (.ref f_Net__init_)))
    (i_Net__init_ : PySem.W.isFn K (.ref f_Net__init_) = true)
    (l_Net__init_ : K.lookup f_Net__init_ = some ⟨oc_Net__init_, od_Net__init_, .func (PySem.W.fnOf "__init__" "Net.__init__" (defArgs s_Net__init_) (defBody s_Net__init_) (defScope s_Net__init_) .none kV_Net__init_ dc_Net__init_ pm_Net__init_ an_Net__init_ cd_Net__init_ ct_Net__init_), sl_Net__init_⟩)
    (c_Net__init_ : PySem.W.codeIn K cd_Net__init_ "Net.__init__" = true)
    (k_Net__init_ : PySem.W.keepIn K (.ref f_Net__init_) = true)
    (a_Net_check : PySem.W.findIn K (.ref C_Net) "check" = some (some (.ref f_Net_check)))
    (i_Net_check : PySem.W.isFn K (.ref f_Net_check) = true)
    (l_Net_check : K.lookup f_Net_check = some ⟨oc_Net_check, od_Net_check, .func (PySem.W.fnOf "check" "Net.check" (defArgs s_Net_check) (defBody s_Net_check) (defScope s_Net_check) .none kV_Net_check dc_Net_check pm_Net_check an_Net_check cd_Net_check ct_Net_check), sl_Net_check⟩)
    (c_Net_check : PySem.W.codeIn K cd_Net_check "Net.check" = true)
    (k_Net_check : PySem.W.keepIn K (.ref f_Net_check) = true)
    (a_Net_put : PySem.W.findIn K (.ref C_Net) "put" = some (some (.ref f_Net_put)))
    (i_Net_put : PySem.W.isFn K (.ref f_Net_put) = true)
    (l_Net_put : K.lookup f_Net_put = some ⟨oc_Net_put, od_Net_put, .func (PySem.W.fnOf "put" "Net.put" (defArgs s_Net_put) (defBody s_Net_put) (defScope s_Net_put) .none kV_Net_put dc_Net_put pm_Net_put an_Net_put cd_Net_put ct_Net_put), sl_Net_put⟩)
    (c_Net_put : PySem.W.codeIn K cd_Net_put "Net.put" = true)
    (k_Net_put : PySem.W.keepIn K (.ref f_Net_put) = true)
    (a_Net_take : PySem.W.findIn K (.ref C_Net) "take" = some (some (.ref f_Net_take)))
    (i_Net_take : PySem.W.isFn K (.ref f_Net_take) = true)
    (l_Net_take : K.lookup f_Net_take = some ⟨oc_Net_take, od_Net_take, .func (PySem.W.fnOf "take" "Net.take" (defArgs s_Net_take) (defBody s_Net_take) (defScope s_Net_take) .none kV_Net_take dc_Net_take pm_Net_take an_Net_take cd_Net_take ct_Net_take), sl_Net_take⟩)
    (c_Net_take : PySem.W.codeIn K cd_Net_take "Net.take" = true)
    (k_Net_take : PySem.W.keepIn K (.ref f_Net_take) = true)
    (a_Net_ready : PySem.W.findIn K (.ref C_Net) "ready" = some (some (.ref f_Net_ready)))
    (i_Net_ready : PySem.W.isFn K (.ref f_Net_ready) = true)
    (l_Net_ready : K.lookup f_Net_ready = some ⟨oc_Net_ready, od_Net_ready, .func (PySem.W.fnOf "ready" "Net.ready" (defArgs s_Net_ready) (defBody s_Net_ready) (defScope s_Net_ready) .none kV_Net_ready dc_Net_ready pm_Net_ready an_Net_ready cd_Net_ready ct_Net_ready), sl_Net_ready⟩)
    (c_Net_ready : PySem.W.codeIn K cd_Net_ready "Net.ready" = true)
    (k_Net_ready : PySem.W.keepIn K (.ref f_Net_ready) = true)
    (a_Net_messages : PySem.W.findIn K (.ref C_Net) "messages" = some (some (.ref f_Net_messages)))
    (i_Net_messages : PySem.W.isFn K (.ref f_Net_messages) = true)
    (l_Net_messages : K.lookup f_Net_messages = some ⟨oc_Net_messages, od_Net_messages, .func (PySem.W.fnOf "messages" "Net.messages" (defArgs s_Net_messages) (defBody s_Net_messages) (defScope s_Net_messages) .none kV_Net_messages dc_Net_messages pm_Net_messages an_Net_messages cd_Net_messages ct_Net_messages), sl_Net_messages⟩)
    (c_Net_messages : PySem.W.codeIn K cd_Net_messages "Net.messages" = true)
    (k_Net_messages : PySem.W.keepIn K (.ref f_Net_messages) = true)
    (a_Net_many : PySem.W.findIn K (.ref C_Net) "many" = some (some (.ref f_Net_many)))
    (i_Net_many : PySem.W.isFn K (.ref f_Net_many) = true)
    (l_Net_many : K.lookup f_Net_many = some ⟨oc_Net_many, od_Net_many, .func (PySem.W.fnOf "many" "Net.many" (defArgs s_Net_many) (defBody s_Net_many) (defScope s_Net_many) .none kV_Net_many dc_Net_many pm_Net_many an_Net_many cd_Net_many ct_Net_many), sl_Net_many⟩)
    (c_Net_many : PySem.W.codeIn K cd_Net_many "Net.many" = true)
    (k_Net_many : PySem.W.keepIn K (.ref f_Net_many) = true)
    (a_law_draws : PySem.W.nsIn K mainGlobals "_law_draws" = some (some (.ref f_law_draws)))
    (l_law_draws : K.lookup f_law_draws = some ⟨oc_law_draws, od_law_draws, .func (PySem.W.fnOf "_law_draws" "_law_draws" (defArgs s_law_draws) (defBody s_law_draws) (defScope s_law_draws) .none kV_law_draws dc_law_draws pm_law_draws an_law_draws cd_law_draws ct_law_draws), sl_law_draws⟩)
    (c_law_draws : PySem.W.codeIn K cd_law_draws "_law_draws" = true)
    (k_law_draws : PySem.W.keepIn K (.ref f_law_draws) = true)
    (a_law_take : PySem.W.nsIn K mainGlobals "_law_take" = some (some (.ref f_law_take)))
    (l_law_take : K.lookup f_law_take = some ⟨oc_law_take, od_law_take, .func (PySem.W.fnOf "_law_take" "_law_take" (defArgs s_law_take) (defBody s_law_take) (defScope s_law_take) .none kV_law_take dc_law_take pm_law_take an_law_take cd_law_take ct_law_take), sl_law_take⟩)
    (c_law_take : PySem.W.codeIn K cd_law_take "_law_take" = true)
    (k_law_take : PySem.W.keepIn K (.ref f_law_take) = true)
    (a_law_alike : PySem.W.nsIn K mainGlobals "_law_alike" = some (some (.ref f_law_alike)))
    (l_law_alike : K.lookup f_law_alike = some ⟨oc_law_alike, od_law_alike, .func (PySem.W.fnOf "_law_alike" "_law_alike" (defArgs s_law_alike) (defBody s_law_alike) (defScope s_law_alike) .none kV_law_alike dc_law_alike pm_law_alike an_law_alike cd_law_alike ct_law_alike), sl_law_alike⟩)
    (c_law_alike : PySem.W.codeIn K cd_law_alike "_law_alike" = true)
    (k_law_alike : PySem.W.keepIn K (.ref f_law_alike) = true)
    (a_law_says : PySem.W.nsIn K mainGlobals "_law_says" = some (some (.ref f_law_says)))
    (l_law_says : K.lookup f_law_says = some ⟨oc_law_says, od_law_says, .func (PySem.W.fnOf "_law_says" "_law_says" (defArgs s_law_says) (defBody s_law_says) (defScope s_law_says) .none kV_law_says dc_law_says pm_law_says an_law_says cd_law_says ct_law_says), sl_law_says⟩)
    (c_law_says : PySem.W.codeIn K cd_law_says "_law_says" = true)
    (k_law_says : PySem.W.keepIn K (.ref f_law_says) = true)
    (a_law_word : PySem.W.nsIn K mainGlobals "_law_word" = some (some (.ref f_law_word)))
    (l_law_word : K.lookup f_law_word = some ⟨oc_law_word, od_law_word, .func (PySem.W.fnOf "_law_word" "_law_word" (defArgs s_law_word) (defBody s_law_word) (defScope s_law_word) .none kV_law_word dc_law_word pm_law_word an_law_word cd_law_word ct_law_word), sl_law_word⟩)
    (c_law_word : PySem.W.codeIn K cd_law_word "_law_word" = true)
    (k_law_word : PySem.W.keepIn K (.ref f_law_word) = true)
    (a_law_expression : PySem.W.nsIn K mainGlobals "_law_expression" = some (some (.ref f_law_expression)))
    (l_law_expression : K.lookup f_law_expression = some ⟨oc_law_expression, od_law_expression, .func (PySem.W.fnOf "_law_expression" "_law_expression" (defArgs s_law_expression) (defBody s_law_expression) (defScope s_law_expression) .none kV_law_expression dc_law_expression pm_law_expression an_law_expression cd_law_expression ct_law_expression), sl_law_expression⟩)
    (c_law_expression : PySem.W.codeIn K cd_law_expression "_law_expression" = true)
    (k_law_expression : PySem.W.keepIn K (.ref f_law_expression) = true)
    (a_law_body : PySem.W.nsIn K mainGlobals "_law_body" = some (some (.ref f_law_body)))
    (l_law_body : K.lookup f_law_body = some ⟨oc_law_body, od_law_body, .func (PySem.W.fnOf "_law_body" "_law_body" (defArgs s_law_body) (defBody s_law_body) (defScope s_law_body) .none kV_law_body dc_law_body pm_law_body an_law_body cd_law_body ct_law_body), sl_law_body⟩)
    (c_law_body : PySem.W.codeIn K cd_law_body "_law_body" = true)
    (k_law_body : PySem.W.keepIn K (.ref f_law_body) = true)
    (a_law_send : PySem.W.nsIn K mainGlobals "_law_send" = some (some (.ref f_law_send)))
    (l_law_send : K.lookup f_law_send = some ⟨oc_law_send, od_law_send, .func (PySem.W.fnOf "_law_send" "_law_send" (defArgs s_law_send) (defBody s_law_send) (defScope s_law_send) .none kV_law_send dc_law_send pm_law_send an_law_send cd_law_send ct_law_send), sl_law_send⟩)
    (c_law_send : PySem.W.codeIn K cd_law_send "_law_send" = true)
    (k_law_send : PySem.W.keepIn K (.ref f_law_send) = true)
    (a_law_many : PySem.W.nsIn K mainGlobals "_law_many" = some (some (.ref f_law_many)))
    (l_law_many : K.lookup f_law_many = some ⟨oc_law_many, od_law_many, .func (PySem.W.fnOf "_law_many" "_law_many" (defArgs s_law_many) (defBody s_law_many) (defScope s_law_many) .none kV_law_many dc_law_many pm_law_many an_law_many cd_law_many ct_law_many), sl_law_many⟩)
    (c_law_many : PySem.W.codeIn K cd_law_many "_law_many" = true)
    (k_law_many : PySem.W.keepIn K (.ref f_law_many) = true)
    (a_law_model : PySem.W.nsIn K mainGlobals "_law_model" = some (some (.ref f_law_model)))
    (l_law_model : K.lookup f_law_model = some ⟨oc_law_model, od_law_model, .func (PySem.W.fnOf "_law_model" "_law_model" (defArgs s_law_model) (defBody s_law_model) (defScope s_law_model) .none kV_law_model dc_law_model pm_law_model an_law_model cd_law_model ct_law_model), sl_law_model⟩)
    (c_law_model : PySem.W.codeIn K cd_law_model "_law_model" = true)
    (k_law_model : PySem.W.keepIn K (.ref f_law_model) = true)
    (a_law_told : PySem.W.nsIn K mainGlobals "_law_told" = some (some (.ref f_law_told)))
    (l_law_told : K.lookup f_law_told = some ⟨oc_law_told, od_law_told, .func (PySem.W.fnOf "_law_told" "_law_told" (defArgs s_law_told) (defBody s_law_told) (defScope s_law_told) .none kV_law_told dc_law_told pm_law_told an_law_told cd_law_told ct_law_told), sl_law_told⟩)
    (c_law_told : PySem.W.codeIn K cd_law_told "_law_told" = true)
    (k_law_told : PySem.W.keepIn K (.ref f_law_told) = true)
    (a_law : PySem.W.nsIn K mainGlobals "law" = some (some (.ref f_law)))
    (l_law : K.lookup f_law = some ⟨oc_law, od_law, .func (PySem.W.fnOf "law" "law" (defArgs s_law) (defBody s_law) (defScope s_law) .none kV_law dc_law pm_law an_law cd_law ct_law), sl_law⟩)
    (c_law : PySem.W.codeIn K cd_law "law" = true)
    (k_law : PySem.W.keepIn K (.ref f_law) = true)
    (pg_Net : PySem.W.plainGet K C_Net Str.empty = true)
    (hd_Net : PySem.W.hasDictIn K C_Net = true)
    (po_Net : PySem.W.plainOver K C_Net = true)
    (sa_Net : PySem.W.findIn K (.ref C_Net) "__setattr__" = some (some (.builtin "object.__setattr__")))
    (mk_Net : PySem.W.makesIn K C_Net = true)
    (kc_Net : PySem.W.keepIn K (.ref C_Net) = true)
    (n_Net_processors : PySem.W.findIn K (.ref C_Net) "processors" = some none)
    (n_Net_rows : PySem.W.findIn K (.ref C_Net) "rows" = some none)
    (y_n : PySem.W.specialIn K (.builtin "object.__class__") "__get__" = some (some (.builtin "getset_descriptor.__get__")))
    (y_t : PySem.W.takesIn K (.builtin "object.__class__") = some true)
    (ex_NotThere : PySem.W.excIn K C_NotThere [.type "ValueError", .type "Exception", .type "BaseException", .type "object"] "ValueError.__new__" = true)
    (kx_NotThere : PySem.W.keepIn K (.ref C_NotThere) = true)
    (yg_NotThere : PySem.W.findIn K (.ref C_NotThere) "__getattribute__" = some (some (.builtin "BaseException.__getattribute__")))
    (yk_NotThere : PySem.W.findIn K (.ref C_NotThere) "__getattr__" = some none)
    (yd_NotThere : PySem.W.hasDictIn K C_NotThere = true)
    (ya_NotThere : PySem.W.findIn K (.ref C_NotThere) "__class__" = some (some (.builtin "object.__class__")))
    (ym_NotThere : PySem.W.mroIn K C_NotThere (.type "object") = some true)
    (bx_Malformed : PySem.W.subIn K (.ref C_Malformed) (.type "BaseException") = some true)
    (tx_Malformed : PySem.W.typeIn K (.ref C_Malformed) = some (.type "type"))
    (ix_Malformed : PySem.W.isClsIn K C_Malformed = true)
    (bx_NotThere : PySem.W.subIn K (.ref C_NotThere) (.type "BaseException") = some true)
    (tx_NotThere : PySem.W.typeIn K (.ref C_NotThere) = some (.type "type"))
    (ix_NotThere : PySem.W.isClsIn K C_NotThere = true)
    (bx_OutOfRange : PySem.W.subIn K (.ref C_OutOfRange) (.type "BaseException") = some true)
    (tx_OutOfRange : PySem.W.typeIn K (.ref C_OutOfRange) = some (.type "type"))
    (ix_OutOfRange : PySem.W.isClsIn K C_OutOfRange = true)
    (bx_Refused : PySem.W.subIn K (.ref C_Refused) (.type "BaseException") = some true)
    (tx_Refused : PySem.W.typeIn K (.ref C_Refused) = some (.type "type"))
    (ix_Refused : PySem.W.isClsIn K C_Refused = true)
    (bx_TooMuch : PySem.W.subIn K (.ref C_TooMuch) (.type "BaseException") = some true)
    (tx_TooMuch : PySem.W.typeIn K (.ref C_TooMuch) = some (.type "type"))
    (ix_TooMuch : PySem.W.isClsIn K C_TooMuch = true)
    (bx_TraceError : PySem.W.subIn K (.ref C_TraceError) (.type "BaseException") = some true)
    (tx_TraceError : PySem.W.typeIn K (.ref C_TraceError) = some (.type "type"))
    (ix_TraceError : PySem.W.isClsIn K C_TraceError = true)
    (s_NotThere_TraceError : PySem.W.subIn K (.ref C_NotThere) (.ref C_TraceError) = some true)
    (s_NotThere_OutOfRange : PySem.W.subIn K (.ref C_NotThere) (.ref C_OutOfRange) = some false)
    (s_NotThere_Malformed : PySem.W.subIn K (.ref C_NotThere) (.ref C_Malformed) = some false)
    (s_NotThere_Refused : PySem.W.subIn K (.ref C_NotThere) (.ref C_Refused) = some false)
    (s_NotThere_TooMuch : PySem.W.subIn K (.ref C_NotThere) (.ref C_TooMuch) = some false)
    (ne_NotThere_OutOfRange : C_NotThere ≠ C_OutOfRange)
    (ne_NotThere_Malformed : C_NotThere ≠ C_Malformed)
    (ne_NotThere_Refused : C_NotThere ≠ C_Refused)
    (ne_NotThere_TooMuch : C_NotThere ≠ C_TooMuch)
    (b_len : PySem.W.nsIn K mainGlobals "len" = some none)
    (b_abs : PySem.W.nsIn K mainGlobals "abs" = some none)
    (b_int : PySem.W.nsIn K mainGlobals "int" = some none)
    (b_list : PySem.W.nsIn K mainGlobals "list" = some none)
    (b_reversed : PySem.W.nsIn K mainGlobals "reversed" = some none)
    (b_isinstance : PySem.W.nsIn K mainGlobals "isinstance" = some none)
    (b_range : PySem.W.nsIn K mainGlobals "range" = some none)
    (b_bool : PySem.W.nsIn K mainGlobals "bool" = some none)
    (b_str : PySem.W.nsIn K mainGlobals "str" = some none)
    (b_tuple : PySem.W.nsIn K mainGlobals "tuple" = some none)
    (b_sorted : PySem.W.nsIn K mainGlobals "sorted" = some none)
    (b_sum : PySem.W.nsIn K mainGlobals "sum" = some none)
    (b_all : PySem.W.nsIn K mainGlobals "all" = some none)
    (v_MOST_DRAW : PySem.W.nsIn K mainGlobals "MOST_DRAW" = some (some (.int 1000000000 tk_MOST_DRAW))) :
    LamX.LawAtS l w K CX0 15 63 "script" mg fa h := by
  have T : Txt K mg ⟨C_Net, C_TraceError, C_OutOfRange, C_Malformed, C_NotThere, C_Refused, C_TooMuch, D_is_map, P_is_map, D_is_schedule, P_is_schedule⟩ := {
    is_number := ⟨_, _, fun_mk (st := s_is_number) l_is_number c_is_number k_is_number, (Fun.binds (ps := ["value", "least", "most"]) (fun_mk (st := s_is_number) l_is_number c_is_number k_is_number) fun _ _ _ _ _ _ us hl => match us, hl with | [_, _, _], _ => rfl), PySem.W.mg_of X G a_is_number⟩,
    is_map := ⟨_, _, fun_mk (st := s_is_map) l_is_map c_is_map k_is_map, (Fun.binds (ps := ["model", "processors", "value"]) (fun_mk (st := s_is_map) l_is_map c_is_map k_is_map) fun _ _ _ _ _ _ us hl => match us, hl with | [_, _, _], _ => rfl), PySem.W.mg_of X G a_is_map⟩,
    is_schedule := ⟨_, _, fun_mk (st := s_is_schedule) l_is_schedule c_is_schedule k_is_schedule, (Fun.binds (ps := ["value"]) (fun_mk (st := s_is_schedule) l_is_schedule c_is_schedule k_is_schedule) fun _ _ _ _ _ _ us hl => match us, hl with | [_], _ => rfl), PySem.W.mg_of X G a_is_schedule⟩,
    chosen := ⟨_, _, fun_mk (st := s_chosen) l_chosen c_chosen k_chosen, (Fun.binds (ps := ["schedule", "step", "options"]) (fun_mk (st := s_chosen) l_chosen c_chosen k_chosen) fun _ _ _ _ _ _ us hl => match us, hl with | [_, _, _], _ => rfl), PySem.W.mg_of X G a_chosen⟩,
    Net__init_ := ⟨_, _, fun_mk (st := s_Net__init_) l_Net__init_ c_Net__init_ k_Net__init_, (Fun.binds (ps := ["self", "processors"]) (fun_mk (st := s_Net__init_) l_Net__init_ c_Net__init_ k_Net__init_) fun _ _ _ _ _ _ us hl => match us, hl with | [_, _], _ => rfl), ⟨mk_Net, a_Net__init_, i_Net__init_, kc_Net⟩, ⟨pg_Net, hd_Net, po_Net, sa_Net⟩, PySem.W.mg_of X G a_Net⟩,
    Net_check := ⟨_, _, fun_mk (st := s_Net_check) l_Net_check c_Net_check k_Net_check, (Fun.binds (ps := ["self", "sender", "receiver"]) (fun_mk (st := s_Net_check) l_Net_check c_Net_check k_Net_check) fun _ _ _ _ _ _ us hl => match us, hl with | [_, _, _], _ => rfl), ⟨a_Net_check, i_Net_check, k_Net_check⟩⟩,
    Net_put := ⟨_, _, fun_mk (st := s_Net_put) l_Net_put c_Net_put k_Net_put, (Fun.binds (ps := ["self", "sender", "receiver", "message"]) (fun_mk (st := s_Net_put) l_Net_put c_Net_put k_Net_put) fun _ _ _ _ _ _ us hl => match us, hl with | [_, _, _, _], _ => rfl), ⟨a_Net_put, i_Net_put, k_Net_put⟩⟩,
    Net_take := ⟨_, _, fun_mk (st := s_Net_take) l_Net_take c_Net_take k_Net_take, (Fun.binds (ps := ["self", "sender", "receiver"]) (fun_mk (st := s_Net_take) l_Net_take c_Net_take k_Net_take) fun _ _ _ _ _ _ us hl => match us, hl with | [_, _, _], _ => rfl), ⟨a_Net_take, i_Net_take, k_Net_take⟩⟩,
    Net_ready := ⟨_, _, fun_mk (st := s_Net_ready) l_Net_ready c_Net_ready k_Net_ready, (Fun.binds (ps := ["self"]) (fun_mk (st := s_Net_ready) l_Net_ready c_Net_ready k_Net_ready) fun _ _ _ _ _ _ us hl => match us, hl with | [_], _ => rfl), ⟨a_Net_ready, i_Net_ready, k_Net_ready⟩⟩,
    Net_messages := ⟨_, _, fun_mk (st := s_Net_messages) l_Net_messages c_Net_messages k_Net_messages, (Fun.binds (ps := ["self"]) (fun_mk (st := s_Net_messages) l_Net_messages c_Net_messages k_Net_messages) fun _ _ _ _ _ _ us hl => match us, hl with | [_], _ => rfl), ⟨a_Net_messages, i_Net_messages, k_Net_messages⟩⟩,
    Net_many := ⟨_, _, fun_mk (st := s_Net_many) l_Net_many c_Net_many k_Net_many, (Fun.binds (ps := ["self"]) (fun_mk (st := s_Net_many) l_Net_many c_Net_many k_Net_many) fun _ _ _ _ _ _ us hl => match us, hl with | [_], _ => rfl), ⟨a_Net_many, i_Net_many, k_Net_many⟩⟩,
    law_draws := ⟨_, _, fun_mk (st := s_law_draws) l_law_draws c_law_draws k_law_draws, (Fun.binds (ps := ["script"]) (fun_mk (st := s_law_draws) l_law_draws c_law_draws k_law_draws) fun _ _ _ _ _ _ us hl => match us, hl with | [_], _ => rfl), PySem.W.mg_of X G a_law_draws⟩,
    law_take := ⟨_, _, fun_mk (st := s_law_take) l_law_take c_law_take k_law_take, (Fun.binds (ps := ["draws", "bound"]) (fun_mk (st := s_law_take) l_law_take c_law_take k_law_take) fun _ _ _ _ _ _ us hl => match us, hl with | [_, _], _ => rfl), PySem.W.mg_of X G a_law_take⟩,
    law_alike := ⟨_, _, fun_mk (st := s_law_alike) l_law_alike c_law_alike k_law_alike, (Fun.binds (ps := ["found", "due"]) (fun_mk (st := s_law_alike) l_law_alike c_law_alike k_law_alike) fun _ _ _ _ _ _ us hl => match us, hl with | [_, _], _ => rfl), PySem.W.mg_of X G a_law_alike⟩,
    law_says := ⟨_, _, fun_mk (st := s_law_says) l_law_says c_law_says k_law_says, (Fun.binds (ps := ["told", "due"]) (fun_mk (st := s_law_says) l_law_says c_law_says k_law_says) fun _ _ _ _ _ _ us hl => match us, hl with | [_, _], _ => rfl), PySem.W.mg_of X G a_law_says⟩,
    law_word := ⟨_, _, fun_mk (st := s_law_word) l_law_word c_law_word k_law_word, (Fun.binds (ps := ["e"]) (fun_mk (st := s_law_word) l_law_word c_law_word k_law_word) fun _ _ _ _ _ _ us hl => match us, hl with | [_], _ => rfl), PySem.W.mg_of X G a_law_word⟩,
    law_expression := ⟨_, _, fun_mk (st := s_law_expression) l_law_expression c_law_expression k_law_expression, (Fun.binds (ps := ["draws", "names", "deep"]) (fun_mk (st := s_law_expression) l_law_expression c_law_expression k_law_expression) fun _ _ _ _ _ _ us hl => match us, hl with | [_, _, _], _ => rfl), PySem.W.mg_of X G a_law_expression⟩,
    law_body := ⟨_, _, fun_mk (st := s_law_body) l_law_body c_law_body k_law_body, (Fun.binds (ps := ["draws", "names", "kinds", "deep"]) (fun_mk (st := s_law_body) l_law_body c_law_body k_law_body) fun _ _ _ _ _ _ us hl => match us, hl with | [_, _, _, _], _ => rfl), PySem.W.mg_of X G a_law_body⟩,
    law_send := ⟨_, _, fun_mk (st := s_law_send) l_law_send c_law_send k_law_send, (Fun.binds (ps := ["draws", "names", "kinds"]) (fun_mk (st := s_law_send) l_law_send c_law_send k_law_send) fun _ _ _ _ _ _ us hl => match us, hl with | [_, _, _], _ => rfl), PySem.W.mg_of X G a_law_send⟩,
    law_many := ⟨_, _, fun_mk (st := s_law_many) l_law_many c_law_many k_law_many, (Fun.binds (ps := ["part"]) (fun_mk (st := s_law_many) l_law_many c_law_many k_law_many) fun _ _ _ _ _ _ us hl => match us, hl with | [_], _ => rfl), PySem.W.mg_of X G a_law_many⟩,
    law_model := ⟨_, _, fun_mk (st := s_law_model) l_law_model c_law_model k_law_model, (Fun.binds (ps := ["draws", "most"]) (fun_mk (st := s_law_model) l_law_model c_law_model k_law_model) fun _ _ _ _ _ _ us hl => match us, hl with | [_, _], _ => rfl), PySem.W.mg_of X G a_law_model⟩,
    law_told := ⟨_, _, fun_mk (st := s_law_told) l_law_told c_law_told k_law_told, (Fun.binds (ps := ["net", "which", "one", "other"]) (fun_mk (st := s_law_told) l_law_told c_law_told k_law_told) fun _ _ _ _ _ _ us hl => match us, hl with | [_, _, _, _], _ => rfl), PySem.W.mg_of X G a_law_told⟩,
    law := ⟨_, _, fun_mk (st := s_law) l_law c_law k_law, (Fun.binds (ps := ["script"]) (fun_mk (st := s_law) l_law c_law k_law) fun _ _ _ _ _ _ us hl => match us, hl with | [_], _ => rfl), PySem.W.mg_of X G a_law⟩,
    d_is_map := ⟨⟨_, _, _, _, _, _, _, _, rfl, l_is_map, c_is_map⟩⟩,
    d_is_schedule := ⟨⟨_, _, _, _, _, _, _, _, rfl, l_is_schedule, c_is_schedule⟩⟩,
    n_Net_processors := n_Net_processors,
    n_Net_rows := n_Net_rows,
    x_TraceError := ⟨PySem.W.mg_of X G a_TraceError⟩,
    x_OutOfRange := ⟨PySem.W.mg_of X G a_OutOfRange⟩,
    x_Malformed := ⟨PySem.W.mg_of X G a_Malformed⟩,
    x_NotThere := ⟨ex_NotThere, PySem.W.mg_of X G a_NotThere, kx_NotThere, bx_NotThere, tx_NotThere, ⟨yg_NotThere, yk_NotThere, bx_NotThere, yd_NotThere, ya_NotThere, y_n, y_t, ym_NotThere⟩⟩,
    x_Refused := ⟨PySem.W.mg_of X G a_Refused⟩,
    x_TooMuch := ⟨PySem.W.mg_of X G a_TooMuch⟩,
    e_NotThere_TraceError := exm_of bx_TraceError ix_TraceError tx_TraceError s_NotThere_TraceError,
    i_NotThere_OutOfRange := kit_no ne_NotThere_OutOfRange ix_OutOfRange tx_OutOfRange s_NotThere_OutOfRange,
    i_NotThere_Malformed := kit_no ne_NotThere_Malformed ix_Malformed tx_Malformed s_NotThere_Malformed,
    i_NotThere_NotThere := kit_self,
    i_NotThere_Refused := kit_no ne_NotThere_Refused ix_Refused tx_Refused s_NotThere_Refused,
    i_NotThere_TooMuch := kit_no ne_NotThere_TooMuch ix_TooMuch tx_TooMuch s_NotThere_TooMuch,
    b_len := PySem.W.mg_none_of X G b_len,
    b_abs := PySem.W.mg_none_of X G b_abs,
    b_int := PySem.W.mg_none_of X G b_int,
    b_list := PySem.W.mg_none_of X G b_list,
    b_reversed := PySem.W.mg_none_of X G b_reversed,
    b_isinstance := PySem.W.mg_none_of X G b_isinstance,
    b_range := PySem.W.mg_none_of X G b_range,
    b_bool := PySem.W.mg_none_of X G b_bool,
    b_str := PySem.W.mg_none_of X G b_str,
    b_tuple := PySem.W.mg_none_of X G b_tuple,
    b_sorted := PySem.W.mg_none_of X G b_sorted,
    b_sum := PySem.W.mg_none_of X G b_sum,
    b_all := PySem.W.mg_none_of X G b_all,
    c_MOST_DRAW := ⟨_, PySem.W.mg_of X G v_MOST_DRAW, ⟨_, rfl⟩⟩ }
  have e := hfa.symm.trans T.law.g
  cases e
  obtain ⟨oc, od, kV, dc, pm, an, cd, ct, sl, e, _⟩ := T.law.F.ex
  refine ⟨T.law.fd, codes (⟨C_Net, C_TraceError, C_OutOfRange, C_Malformed, C_NotThere, C_Refused, C_TooMuch, D_is_map, P_is_map, D_is_schedule, P_is_schedule⟩ : Ads), (sp_law K (⟨C_Net, C_TraceError, C_OutOfRange, C_Malformed, C_NotThere, C_Refused, C_TooMuch, D_is_map, P_is_map, D_is_schedule, P_is_schedule⟩ : Ads)), ?_, ?_, ?_, fun s v => by rw [e]; exact .of_eq rfl, fun H a ns hl _ hH hS => ⟨a, ns, rfl, hS, hl, fun p hp => ⟨#[], hH p hp, by first | trivial | simp [TriplesOk]⟩, fun _ => rfl⟩, fun base _ _ tb => ok_all T base fun p hp => tabB_gx (tb p hp)⟩
  · exact fun p hp => by
        simp only [codes, List.mem_cons, List.not_mem_nil, or_false] at hp
        rcases hp with rfl | rfl
        · exact own "is_map" _ r1_is_map (PySem.W.mg_of X G a_is_map) _ _ _ _ _ _ _ _ l_is_map rfl rfl kc_is_map v11_is_map
        · exact own "is_schedule" _ r1_is_schedule (PySem.W.mg_of X G a_is_schedule) _ _ _ _ _ _ _ _ l_is_schedule rfl rfl kc_is_schedule v11_is_schedule
  · exact fun p hp => by
        simp only [codes, List.mem_cons, List.not_mem_nil, or_false] at hp
        rcases hp with rfl | rfl
        · exact np_is_map
        · exact np_is_schedule
  · exact fun p hp => by
        simp only [codes, List.mem_cons, List.not_mem_nil, or_false] at hp
        rcases hp with rfl | rfl
        · exact PySem.W.codeHd_of_K X (codeHd_mk kc_is_map ch_is_map)
        · exact PySem.W.codeHd_of_K X (codeHd_mk kc_is_schedule ch_is_schedule)
end HL
open PySem PySem.W PyProof.Rows
set_option maxRecDepth 100000 in
set_option maxHeartbeats 0 in
theorem PySem.Challenge.cw_sametrace_k41_whole_nets_and_schedules_holds : PySem.Challenge.rw_sametrace_k41_whole_nets_and_schedules.Holds := by
  w_on; o_law; k_head; (case hw => w_witness2)
  k_fill
  refine HL.walk_tabs (l := PySem.Challenge.rw_sametrace_k41_whole_nets_and_schedules) (n := 63) (k := 15) (x := "script") (CX := fun _ => L2.CX0) rfl (by decide) rfl ⟨rfl, by decide, by decide⟩ (fun w h Y => PySem.W.kIn_of Y) ?F (fun _ _ _ _ _ z => z)
  case F =>
    intro w mg fa h KX G hmg own
    refine' HL.all_mk KX G hmg own ?a_Net ?a_TraceError ?a_OutOfRange ?a_Malformed ?a_NotThere ?a_Refused ?a_TooMuch ?a_is_number ?l_is_number ?c_is_number ?k_is_number ?a_is_map ?l_is_map ?c_is_map ?kc_is_map ?v11_is_map ?np_is_map ?ch_is_map ?r1_is_map ?k_is_map ?a_is_schedule ?l_is_schedule ?c_is_schedule ?kc_is_schedule ?v11_is_schedule ?np_is_schedule ?ch_is_schedule ?r1_is_schedule ?k_is_schedule ?a_chosen ?l_chosen ?c_chosen ?k_chosen ?a_Net__init_ ?i_Net__init_ ?l_Net__init_ ?c_Net__init_ ?k_Net__init_ ?a_Net_check ?i_Net_check ?l_Net_check ?c_Net_check ?k_Net_check ?a_Net_put ?i_Net_put ?l_Net_put ?c_Net_put ?k_Net_put ?a_Net_take ?i_Net_take ?l_Net_take ?c_Net_take ?k_Net_take ?a_Net_ready ?i_Net_ready ?l_Net_ready ?c_Net_ready ?k_Net_ready ?a_Net_messages ?i_Net_messages ?l_Net_messages ?c_Net_messages ?k_Net_messages ?a_Net_many ?i_Net_many ?l_Net_many ?c_Net_many ?k_Net_many ?a_law_draws ?l_law_draws ?c_law_draws ?k_law_draws ?a_law_take ?l_law_take ?c_law_take ?k_law_take ?a_law_alike ?l_law_alike ?c_law_alike ?k_law_alike ?a_law_says ?l_law_says ?c_law_says ?k_law_says ?a_law_word ?l_law_word ?c_law_word ?k_law_word ?a_law_expression ?l_law_expression ?c_law_expression ?k_law_expression ?a_law_body ?l_law_body ?c_law_body ?k_law_body ?a_law_send ?l_law_send ?c_law_send ?k_law_send ?a_law_many ?l_law_many ?c_law_many ?k_law_many ?a_law_model ?l_law_model ?c_law_model ?k_law_model ?a_law_told ?l_law_told ?c_law_told ?k_law_told ?a_law ?l_law ?c_law ?k_law ?pg_Net ?hd_Net ?po_Net ?sa_Net ?mk_Net ?kc_Net ?n_Net_processors ?n_Net_rows ?y_n ?y_t ?ex_NotThere ?kx_NotThere ?yg_NotThere ?yk_NotThere ?yd_NotThere ?ya_NotThere ?ym_NotThere ?bx_Malformed ?tx_Malformed ?ix_Malformed ?bx_NotThere ?tx_NotThere ?ix_NotThere ?bx_OutOfRange ?tx_OutOfRange ?ix_OutOfRange ?bx_Refused ?tx_Refused ?ix_Refused ?bx_TooMuch ?tx_TooMuch ?ix_TooMuch ?bx_TraceError ?tx_TraceError ?ix_TraceError ?s_NotThere_TraceError ?s_NotThere_OutOfRange ?s_NotThere_Malformed ?s_NotThere_Refused ?s_NotThere_TooMuch ?ne_NotThere_OutOfRange ?ne_NotThere_Malformed ?ne_NotThere_Refused ?ne_NotThere_TooMuch ?b_len ?b_abs ?b_int ?b_list ?b_reversed ?b_isinstance ?b_range ?b_bool ?b_str ?b_tuple ?b_sorted ?b_sum ?b_all ?v_MOST_DRAW
    (case a_Net => k_is); (case a_TraceError => k_is); (case a_OutOfRange => k_is); (case a_Malformed => k_is); (case a_NotThere => k_is); (case a_Refused => k_is)
    (case a_TooMuch => k_is); (case a_is_number => k_is); (case l_is_number => k_is); (case c_is_number => k_is); (case k_is_number => k_is); (case a_is_map => k_is)
    (case l_is_map => k_is); (case c_is_map => k_is); (case kc_is_map => k_is); (case v11_is_map => rfl); (case np_is_map => first | (rfl; done) | (decide +kernel; done) | kernel_rfl | with_unfolding_all rfl); (case ch_is_map => first | rfl | decide +kernel | kernel_rfl)
    (case r1_is_map => decide +kernel); (case k_is_map => k_is); (case a_is_schedule => k_is); (case l_is_schedule => k_is); (case c_is_schedule => k_is); (case kc_is_schedule => k_is)
    (case v11_is_schedule => rfl); (case np_is_schedule => first | (rfl; done) | (decide +kernel; done) | kernel_rfl | with_unfolding_all rfl); (case ch_is_schedule => first | rfl | decide +kernel | kernel_rfl); (case r1_is_schedule => decide +kernel); (case k_is_schedule => k_is); (case a_chosen => k_is)
    (case l_chosen => k_is); (case c_chosen => k_is); (case k_chosen => k_is); (case a_Net__init_ => k_is); (case i_Net__init_ => k_is); (case l_Net__init_ => k_is)
    (case c_Net__init_ => k_is); (case k_Net__init_ => k_is); (case a_Net_check => k_is); (case i_Net_check => k_is); (case l_Net_check => k_is); (case c_Net_check => k_is)
    (case k_Net_check => k_is); (case a_Net_put => k_is); (case i_Net_put => k_is); (case l_Net_put => k_is); (case c_Net_put => k_is); (case k_Net_put => k_is)
    (case a_Net_take => k_is); (case i_Net_take => k_is); (case l_Net_take => k_is); (case c_Net_take => k_is); (case k_Net_take => k_is); (case a_Net_ready => k_is)
    (case i_Net_ready => k_is); (case l_Net_ready => k_is); (case c_Net_ready => k_is); (case k_Net_ready => k_is); (case a_Net_messages => k_is); (case i_Net_messages => k_is)
    (case l_Net_messages => k_is); (case c_Net_messages => k_is); (case k_Net_messages => k_is); (case a_Net_many => k_is); (case i_Net_many => k_is); (case l_Net_many => k_is)
    (case c_Net_many => k_is); (case k_Net_many => k_is); (case a_law_draws => k_is); (case l_law_draws => k_is); (case c_law_draws => k_is); (case k_law_draws => k_is)
    (case a_law_take => k_is); (case l_law_take => k_is); (case c_law_take => k_is); (case k_law_take => k_is); (case a_law_alike => k_is); (case l_law_alike => k_is)
    (case c_law_alike => k_is); (case k_law_alike => k_is); (case a_law_says => k_is); (case l_law_says => k_is); (case c_law_says => k_is); (case k_law_says => k_is)
    (case a_law_word => k_is); (case l_law_word => k_is); (case c_law_word => k_is); (case k_law_word => k_is); (case a_law_expression => k_is); (case l_law_expression => k_is)
    (case c_law_expression => k_is); (case k_law_expression => k_is); (case a_law_body => k_is); (case l_law_body => k_is); (case c_law_body => k_is); (case k_law_body => k_is)
    (case a_law_send => k_is); (case l_law_send => k_is); (case c_law_send => k_is); (case k_law_send => k_is); (case a_law_many => k_is); (case l_law_many => k_is)
    (case c_law_many => k_is); (case k_law_many => k_is); (case a_law_model => k_is); (case l_law_model => k_is); (case c_law_model => k_is); (case k_law_model => k_is)
    (case a_law_told => k_is); (case l_law_told => k_is); (case c_law_told => k_is); (case k_law_told => k_is); (case a_law => k_is); (case l_law => k_is)
    (case c_law => k_is); (case k_law => k_is); (case pg_Net => k_is); (case hd_Net => k_is); (case po_Net => k_is); (case sa_Net => k_is)
    (case mk_Net => k_is); (case kc_Net => k_is); (case n_Net_processors => k_is); (case n_Net_rows => k_is); (case y_n => k_is); (case y_t => k_is)
    (case ex_NotThere => k_exc); (case kx_NotThere => k_is); (case yg_NotThere => k_is); (case yk_NotThere => k_is); (case yd_NotThere => k_is); (case ya_NotThere => k_is)
    (case ym_NotThere => k_is); (case bx_Malformed => k_is); (case tx_Malformed => k_is); (case ix_Malformed => k_is); (case bx_NotThere => k_is); (case tx_NotThere => k_is)
    (case ix_NotThere => k_is); (case bx_OutOfRange => k_is); (case tx_OutOfRange => k_is); (case ix_OutOfRange => k_is); (case bx_Refused => k_is); (case tx_Refused => k_is)
    (case ix_Refused => k_is); (case bx_TooMuch => k_is); (case tx_TooMuch => k_is); (case ix_TooMuch => k_is); (case bx_TraceError => k_is); (case tx_TraceError => k_is)
    (case ix_TraceError => k_is); (case s_NotThere_TraceError => k_is); (case s_NotThere_OutOfRange => k_is); (case s_NotThere_Malformed => k_is); (case s_NotThere_Refused => k_is); (case s_NotThere_TooMuch => k_is)
    (case ne_NotThere_OutOfRange => decide); (case ne_NotThere_Malformed => decide); (case ne_NotThere_Refused => decide); (case ne_NotThere_TooMuch => decide); (case b_len => k_is); (case b_abs => k_is)
    (case b_int => k_is); (case b_list => k_is); (case b_reversed => k_is); (case b_isinstance => k_is); (case b_range => k_is); (case b_bool => k_is)
    (case b_str => k_is); (case b_tuple => k_is); (case b_sorted => k_is); (case b_sum => k_is); (case b_all => k_is); (case v_MOST_DRAW => k_is)
