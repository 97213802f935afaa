import PyProof.Rows.All
import Wide.All
import OpenK.AllK
import Wide.FinOn
import HandS.ForMost
import HandS.Exc
import HandS.ExcOwn
import HandS.ExcCtx
import HandS.ExcIs
import HandS.Rev
import HandS.TupAny
import HandS.Deep
import HandS.IsInst
import HandS.Style
import HandS.More
import HandS.HotCalls
import PySem.Challenge.RW_sametrace_k22_whole_windows_of_the_last
set_option Elab.async false
set_option linter.all false
set_option maxRecDepth 100000
namespace HL
open PySem PySem.Spec PyProof.Rows L2 HotX
section
variable {prog : Program} {w : World} {A : Around} {E : Value → Shared → Prop} {s : Shared}
/-- the end of a list's iterator while an exception is handled -/
theorem list_ends_hot {it l x1 : Addr} {i : Nat} {items : Array Value} {Q : Option Value → Shared → Prop} (hot : HotAt A x1 s.heap)
    (hit : s.heap.IsListIter it l i) (hl : s.heap.IsList l items) (hx : items[i]? = none) (nx : x1 ≠ it)
    (hQ : ∀ h', (∀ b o, b ≠ it → s.heap.get? b = some o → h'.get? b = some o) → Q none { s with heap := h' }) : wpAny (model prog w) A (pyNext (.ref it)) Q E s := by
  obtain ⟨hh, o1, vs1, h1, d1, c1⟩ := hot
  obtain ⟨o, ho, hc, hd⟩ := id hit
  obtain ⟨ol, hol, _, nl, hdl⟩ := hl
  unfold pyNext
  refine wpAny_bind (wpAny_attempt (wpAny_callSpecial?_slot (name := Str.ofString "__next__") hit.typeIs slot_listiter_next
    (wpAny_call_entry slot_listiter_next hit.typeIs entry_listiter_next ?_ (args_listiter_next _))))
  show wpAny _ _ (field (.ref it) 0 >>= _) _ _ s
  refine wpAny_bind (wpAny_field ho hd (x := .ref l) rfl ?_)
  show wpAny _ _ (if (Value.ref l == Value.none) = true then _ else _) _ _ s
  rw [if_neg (show ¬ ((Value.ref l == Value.none) = true) from Bool.false_ne_true)]
  show wpAny _ _ (field (.ref it) 1 >>= _) _ _ s
  refine wpAny_bind (wpAny_field ho hd (x := .int i 0) rfl ?_)
  show wpAny _ _ (seqItems? (.ref l) >>= _) _ _ s
  refine wpAny_bind (wpAny_seqItems hol hdl ?_)
  simp only [Int.toNat_natCast, hx]
  refine wpAny_bind (wpAny_rule (wpAny_bind (wpAny_setField ho hd (by simp) ?_)))
  show wpAny _ _ (newExc (.type "StopIteration") [] >>= _) _ _ _
  refine wpAny_bind ?_
  simp only [newExc, newTuple]
  refine wpAny_bind (wpAny_newObj_type ?_ (by size_fits))
  refine wpAny_bind (m := firstArgMember _ _) (wpAny_of_eq (a := Value.none) (by first | rfl | (simp only [firstArgMember]; rfl)) ?_)
  refine wpAny_newObj_type ?_ (by size_fits)
  have up : ∀ {b o'}, b ≠ it → s.heap.get? b = some o' → (s.heap.update it (Obj.mapFields (·.setIfInBounds 0 .none))).get? b = some o' := fun {b o'} hb e => by
    rw [Heap.get?_update_other _ _ (Ne.symm hb)]; exact e
  refine raiseNew_hot ⟨hh, o1, vs1, Heap.get?_push_of_some _ (Heap.get?_push_of_some _ (up nx h1)), d1, c1⟩ (Nat.ne_of_lt (Heap.lt_size (Heap.get?_push_of_some _ (up nx h1)))) (Heap.get?_push_size _ rfl) rfl (by first | (simp; done) | (simp; omega)) ?_
  refine wpAny_bind (wpAny_isInstance (T := "StopIteration") (b := true) ⟨_, Heap.get?_update_self _ (Heap.get?_push_size _ rfl) rfl, rfl⟩ isSubtype_stop ?_)
  refine wpAny_pure (hQ _ fun b o' hb e => ?_)
  rw [Heap.get?_update_other _ _ (Nat.ne_of_gt (Heap.lt_size (Heap.get?_push_of_some _ (up hb e))))]
  exact Heap.get?_push_of_some _ (Heap.get?_push_of_some _ (up hb e))
end
section
variable {X : Cx}
/-- where an exception is handled: a comprehension over a list -/
theorem pe_lcH {l elt tg : Expr} {ifs : List Expr} {scope : Scope} {own : List (Str × Nat)} {pos : Pos} {tl : TE} {g : TG} {tt : TT} {te : TE} (hot : L2H.HotC X) (hN : X.N.Nodup) (hl : PE X l tl) (ok : BlkOk X.N X.env.scope scope own)
    (hg : ∀ (s : Shared) (H : Hp) (C : Addr) (cl : List (Str × Addr)) (fp : List Addr), PG (X.blk s H scope (compEnvC scope cl C X.env) fp) tg g)
    (ht : ∀ (s : Shared) (H : Hp) (C : Addr) (cl : List (Str × Addr)) (fp : List Addr), PTs (X.blk s H scope (compEnvC scope cl C X.env) fp) ifs tt)
    (he : ∀ (s : Shared) (H : Hp) (C : Addr) (cl : List (Str × Addr)) (fp : List Addr), PE (X.blk s H scope (compEnvC scope cl C X.env) fp) elt te)
    (hs : ∀ x, foldedSetIterable l X.env x = pure x := by intro _; rfl) :
    PE X (.ListComp elt [⟨tg, l, ifs, 0⟩] scope pos) (tLc (iList X.K tl) g tt te (own.map (·.2))) := by
  refine ⟨fun pins s σ H Q I h => ?_⟩
  rw [eval_ListComp]
  have hfree : ∀ y ∈ scope.names, y.2 = .free → ∃ c, X.env.cells.lookup y.1 = some c := fun y hy e => (ok.free y hy e).elim (fun k => I.ok.has _ (.inl k)) fun k => I.ok.has _ (.inr k)
  refine wpAny_comprehension_free (use := none) rfl hs (closure_ok hfree) ok.kind (fun y hy e => by rw [ok.uniq y hy, e])
    (thn (hl.run pins s σ H _ I h) fun xv s1 hx => ?_)
  obtain ⟨v, H2, I1, r1, a, ea, ⟨xs, hq⟩, q⟩ := hx
  subst ea
  cases r1
  obtain ⟨its, rv, p, hz⟩ := I1.list hq
  refine wpAny_pyIter_list p.isList ?_
  generalize hit : s1.heap.objs.size = it
  generalize hs2 : ({ s1 with heap := s1.heap.push { cls := .type "list_iterator", data := .fields #[.ref a, .int 0 0] } } : Shared) = s2
  have I2 : Inv X pins σ H2 s2 := by
    rw [← hs2]
    exact I1.kept (t' := s1.toks) fun b o e => Heap.get?_push_of_some _ e
  have st2 : s2.heap.IsListIter it a 0 := by
    rw [← hs2, ← hit]
    exact ⟨_, Heap.get?_push_size _ rfl, rfl, rfl⟩
  have f2 : FpOk X pins H2 it := I1.fpOk (Nat.le_of_eq hit) (I1.hok.fresh (Nat.le_of_eq hit))
  refine wpAny_newObj_type (newEnv_comp ?_) (by show 0 ≤ sizeLine; decide)
  generalize hD : s2.heap.objs.size = D
  have hDn : H2 D = none := I2.hok.fresh (Nat.le_of_eq hD)
  obtain ⟨W, ⟨m0, w0⟩, turn⟩ := q D hDn
  generalize hs3 : ({ s2 with heap := s2.heap.push { cls := .type "list", data := .seq ([] : List Value).toArray } } : Shared) = s3
  have I3 : Inv X pins σ (upd H2 D (.lst [])) s3 := by
    rw [← hs3]
    refine I2.laid (t' := s2.toks) (fun b o e => Heap.get?_push_of_some _ e) (Nat.le_of_eq hD) ⟨Nat.zero_le _, [], 0, .nil, ?_⟩
    rw [← hD]
    exact Heap.get?_push_size _ rfl
  have h3 : s3.heap = s2.heap.push { cls := .type "list", data := .seq ([] : List Value).toArray } := by rw [← hs3]
  have lt2 : it < s2.heap.objs.size := by
    obtain ⟨o, e, _⟩ := id st2
    exact Heap.lt_size e
  have nD : it ≠ D := by rw [← hD]; exact Nat.ne_of_lt lt2
  have f3 : ∀ b ∈ [it], FpOk X pins (upd H2 D (.lst [])) b ∧ b < s3.heap.objs.size := fun b hb => by
    have e : b = it := by simpa using hb
    subst e
    exact ⟨⟨by rw [upd_ne nD]; exact f2.1, f2.2⟩, by rw [h3, Heap.size_push]; exact Nat.lt_succ_of_lt lt2⟩
  have st3 : s3.heap.IsListIter it a 0 := by
    obtain ⟨o, e, c, d⟩ := id st2
    exact ⟨o, by rw [h3]; exact Heap.get?_push_of_some _ e, c, d⟩
  -- the handled exception stands, out of reach of the block
  obtain ⟨pe0, ⟨hh, v1, e1, c1⟩, hp0⟩ := hot
  obtain ⟨g0, n0, nl0, nf0, nc0⟩ := I3.pin pe0 (List.mem_append_left _ hp0)
  have ns0 : pe0.1 ∉ frs X.stack := fun z => (List.mem_cons.mp (I3.stkSub pe0.1 z)).elim nl0 nf0
  have ni0 : pe0.1 ≠ it := (f3 it (by simp)).1.2.2.2.2.2 pe0 (List.mem_append_left _ hp0)
  have I4 := block_start I3 ok hN f3
  have pg := hg s3 (upd H2 D (.lst [])) s3.heap.objs.size (cellsFrom (s3.heap.objs.size + 1) scope.names (cloFrom X.env.cells scope.names [])) [it]
  have pt := ht s3 (upd H2 D (.lst [])) s3.heap.objs.size (cellsFrom (s3.heap.objs.size + 1) scope.names (cloFrom X.env.cells scope.names [])) [it]
  have pe := he s3 (upd H2 D (.lst [])) s3.heap.objs.size (cellsFrom (s3.heap.objs.size + 1) scope.names (cloFrom X.env.cells scope.names [])) [it]
  show codeAny _ _ (.compStart (.ListComp elt [⟨tg, l, ifs, 0⟩] scope pos) 0 (.ref it) (.ref D) (compEnvC scope (cellsFrom (s3.heap.objs.size + 1) scope.names (cloFrom X.env.cells scope.names [])) s3.heap.objs.size X.env)) (compPost (model X.prog X.w) X.A X.xe none (EP X pins σ Q) (.ref D) s3.heap.objs.size) { s3 with heap := pushCells (s3.heap.push { cls := .type "dict", data := .dict #[] }) scope.names }
  generalize hce : compEnvC scope (cellsFrom (s3.heap.objs.size + 1) scope.names (cloFrom X.env.cells scope.names [])) s3.heap.objs.size X.env = ce at I4 pg pt pe ⊢
  have cL : ce.locals = s3.heap.objs.size := by subst hce; rfl
  have n3 : (upd H2 D (.lst [])) it = none := (f3 it (by simp)).1.1
  generalize hH3 : upd H2 D (.lst []) = H3 at I3 I4 pg pt pe w0 n3 f3 n0
  generalize hs4 : ({ s3 with heap := pushCells (s3.heap.push { cls := .type "dict", data := .dict #[] }) scope.names } : Shared) = s4 at I4 ⊢
  have st4 : s4.heap.IsListIter it a 0 := by
    obtain ⟨o, e, c, d⟩ := id st3
    exact ⟨o, by rw [← hs4]; exact pushCells_keeps _ _ _ _ (Heap.get?_push_of_some _ e), c, d⟩
  have stat : ∀ {σ' : L2.St} {H' : Hp} {s' : Shared}, Inv (X.blk s3 H3 scope ce [it]) [] σ' H' s' → H' it = none → FpOk (X.blk s3 H3 scope ce [it]) [] H' it := fun {_ H' s'} I' hn =>
    ⟨hn, (I'.ok.exf it (by simp)).1, I'.ok.exfs it (by simp), .inl (by simp), fun x c e => (I'.ok.exf it (by simp)).2 x c e, fun p hp => absurd (show p ∈ ([] : List (Addr × Obj)) ++ [] from hp) (by simp)⟩
  have loop : codeAny (model X.prog X.w) X.A (.compLoop (.ListComp elt [⟨tg, l, ifs, 0⟩] scope pos) 0 (.ref it) (.ref D) ce) (compPost (model X.prog X.w) X.A X.xe none (EP X pins σ Q) (.ref D) s3.heap.objs.size) s4 := by
    refine compLoop_any (fun n s' => ∃ i H', Inv (X.blk s3 H3 scope ce [it]) [] (wipe σ (own.map (·.2))) H' s' ∧ s'.heap.IsListIter it a i ∧ H' it = none ∧ W i n H') ?_ m0 ⟨0, H3, I4, st4, n3, w0⟩
    rintro n s5 ⟨i, H5, I5, st5, n5, w5⟩
    have F5 := stat I5 n5
    obtain ⟨q0, q1, q2, q3, q4, q5⟩ := id F5
    rcases turn i n H5 w5 with ⟨stop, qq⟩ | ⟨go, Nx, hNx, step⟩
    · obtain ⟨ys, hys, hle⟩ := stop
      obtain ⟨jts, rvj, pj, _⟩ := I5.list hys
      have hotAt : HotAt X.A pe0.1 s5.heap := ⟨hh, pe0.2, v1, I5.base.keep pe0.1 pe0.2 g0 n0 ns0 (by simpa using ni0), e1, c1⟩
      refine list_ends_hot hotAt st5 pj.isList (by have := rvj.length; simp; omega) ni0 fun h' keep => ?_
      have I6 : Inv (X.blk s3 H3 scope ce [it]) [] (wipe σ (own.map (·.2))) H5 { s5 with heap := h' } := I5.turned (t' := s5.toks) keep q0 q1 q3 q4 q5
      have I7 : Inv X pins σ H5 { s5 with heap := h' } := I3.call' (ch := [it]) I6.os I6.base I6.hok I6.bare fun b hb => ⟨(f3 b hb).1.2.2.2.1, (f3 b hb).1.2.1, (f3 b hb).1.2.2.2.2.1, (f3 b hb).1.2.2.2.2.2⟩
      have nC : H5 s3.heap.objs.size = none := by
        have z : H5 ce.locals = none := I6.free
        rwa [cL] at z
      obtain ⟨m, hn, _⟩ := I6.loc
      have hn : h'.Ns ce.locals m := hn
      rw [cL] at hn
      refine ⟨m, hn, fun h'' sb => ?_⟩
      obtain ⟨f0, f1, f2, f3, f4, f5⟩ := I3.fpOk (Nat.le_refl _) nC
      exact ⟨.ref D, H5, I7.turned (t' := s5.toks) (fun b o hb e => (sb.2 b hb).trans e) f0 f1 f3 f4 f5, rfl, qq⟩
    · obtain ⟨ys, x, hys, hx⟩ := go
      obtain ⟨jts, rvj, pj, _⟩ := I5.list hys
      obtain ⟨u, hu, ru⟩ := rvj.get hx
      refine wpAny_pyNext_list_item st5 pj.isList (x := u) (by simpa using hu) fun h' st' sb => ?_
      have I6 : Inv (X.blk s3 H3 scope ce [it]) [] (wipe σ (own.map (·.2))) H5 { s5 with heap := h' } := I5.turned (t' := s5.toks) (fun b o hb e => (sb.2 b hb).trans e) q0 q1 q3 q4 q5
      obtain ⟨oi, ei, ci, di⟩ := id st'
      refine go_of (s := { s5 with heap := h' }) ei ci di (by decide) ?_
      have I7 := I6.pinned (fp := [it]) (fun b hb => by have e : b = it := by simpa using hb
                                                        subst e; exact stat I6 n5) (fun b hb => by
        have e : b = it := by simpa using hb
        subst e
        exact ⟨oi, ei, fun v z => by rw [di] at z; cases z⟩)
      refine thnF (pg.run _ { s5 with heap := h' } _ H5 x u _ I7 ru (step x H5 ⟨rfl, fun zs hzs => by rw [I5.list_inj hzs hys]; exact hx⟩)) fun _ s8 ⟨σ8, H8, I8, hw8, q8⟩ => ?_
      refine thnF (pt.run _ s8 σ8 H8 _ I8 q8) fun b s9 ⟨H9, I9, q9⟩ => ?_
      have fin : ∀ {s' : Shared} {H' : Hp}, Inv (X.blk s3 H3 scope ce [it]) ([] ++ pinsAt [it] h') σ8 H' s' → Nx H' → ∃ m, m < n ∧ ∃ i H', Inv (X.blk s3 H3 scope ce [it]) [] (wipe σ (own.map (·.2))) H' s' ∧ s'.heap.IsListIter it a i ∧ H' it = none ∧ W i m H' := fun {s' H'} I' nx => by
        obtain ⟨m', hm, w'⟩ := hNx H' nx
        have z := I'.pin (it, oi) (List.mem_append_right _ (List.mem_append_right _ (mem_pinsAt (by simp) ei)))
        have hlen : (wipe σ (own.map (·.2))).length = σ8.length := by rw [← hw8, wipe_length]
        refine ⟨m', hm, i + 1, H', (I'.unpinned (pins := [])).weak hlen (fun j v e => ?_), ⟨oi, z.1, ci, di⟩, z.2.1, w'⟩
        rw [← hw8] at e
        exact (wipe_some e).1
      cases b with
      | false =>
        simp only [Bool.false_eq_true, if_false] at q9 ⊢
        exact fin I9 q9
      | true =>
        simp only [if_true] at q9 ⊢
        refine thnF (pe.run _ s9 σ8 H9 _ I9 q9) fun z s10 ⟨yv, H10, I10, r10, acc, hD10, hz10, nx⟩ => ?_
        exact app_ok (X := X.blk s3 H3 scope ce [it]) I10 hD10 hz10 r10 fun s11 I11 => fin I11 nx
  refine codeAny_compStart_list loop ?_
  exact (turn_list (P := X.prog) (w := X.w) (K := X.K) (tg := tg) a it).self X.A 0 _ _ _ st4 loop
end
/-! ### calls whose exceptions are wished for at the caller's slots; methods, makers -/
section
variable {X : Cx} {CX : CXT} {k : Nat} {f C : Addr} {fd : FuncData} {ps : List Str} {sp : Sp} {E : L2.St → XK} {x m : Str} {p pos apos : Pos} {e o : Expr} {es : List Expr} {ta : TE} {t : TA}
/-- what lets nothing out -/
theorem at0 {σ : L2.St} {E' : XK} : PassesAt CX0 X σ E' := fun _ _ _ _ _ _ h => h.elim
/-- no wish at all: the callee raises nothing there -/
theorem atN {σ : L2.St} : PassesAt (L2N.CX X.prog X.w) X σ (fun _ _ _ => False) := fun _ _ _ _ _ _ h => by
  obtain ⟨_, _, _, _, _, _, _, _, _, _, _, _, z⟩ := h
  exact z.elim
theorem runE {pins : List (Addr × Obj)} {σ : L2.St} {H : Hp} {s : Shared} {Q : VK} {us : List Value} {vs : List V} (F : FnOk X.prog X.w X.K X.mg X.base CX k f fd ps sp) (hr : Room k X.A) (hb : Binds X.K fd ps []) (hx : PassesAt CX X σ (E σ))
    (I : Inv X pins σ H s) (r : Vals vs us) (h : sp vs H Q (E σ)) : wpAny (model X.prog X.w) X.A (call (.ref f) us) (EP X pins σ Q) X.xe s := run_fnS F hr hb hx I r h
theorem c_call (F : FnOk X.prog X.w X.K X.mg X.base CX k f fd ps sp) (hr : Room k X.A) (hm : X.mg x = some (.ref f)) (hk : PySem.W.keepIn X.K (.ref f) = true) (hb : Binds X.K fd ps []) (hx : ∀ σ, PassesAt CX X σ (E σ))
    (ha : PA X (e :: es) t) (hg : Gl X x := by rfl) (hdb : (x == ("__debug__" : Str)) = false := by decide) (he : starEach (e :: es) X.env = (false, eval e X.env) :: starEach es X.env := by rfl) (hpl : (backTo pos (starEach es X.env)).any (·.1) = false := by rfl) :
    PE X (.Call (.Name x p) (e :: es) [] pos) (tCallS sp E t) := pe_callS F hr hg hm hk hb hx ha hdb he hpl
/-- o.m(..), of an instance -/
def tMethE (C : Addr) (m : Str) (sp : Sp) (E : L2.St → XK) (ta : TE) (t : TA) : TE := fun σ H Q => ta σ H fun x H1 => ∃ a dx fs, x = .ref a ∧ H1 a = some (.ins C dx fs) ∧ fs.lookup m = none ∧
  t σ H1 fun vs H2 => sp (x :: vs) H2 Q (E σ)
theorem c_meth {pl : Sem Bool} (he : PE X o ta) (c : Cls X.K C) (hm : Meth X.K C m f) (F : FnOk X.prog X.w X.K X.mg X.base CX k f fd ps sp) (hr : Room k X.A) (hb : Binds X.K fd ps []) (hx : ∀ σ, PassesAt CX X σ (E σ)) (ha : PA X (e :: es) t)
    (hst : starEach (e :: es) X.env = (false, eval e X.env) :: starEach es X.env := by rfl) (hpl : (backTo pos (starEach es X.env)).any (·.1) = false := by rfl)
    (ht : eval (.Call (.Attribute o m apos) (e :: es) [] pos) X.env = (do
      let ov ← eval o X.env
      standAt apos.atName
      let (f, first) ← holding [ov] (getMethod ov m pl)
      callWith pos f first (backTo pos (starEach (e :: es) X.env)) (backToKw pos (keywordEach [] X.env))) := by rfl) :
    PE X (.Call (.Attribute o m apos) (e :: es) [] pos) (tMethE C m sp E ta t) := by
  refine ⟨fun pins s σ H Q I h => PySem.W.methodCall_KW (pl := pl) (thn (he.run pins s σ H _ I h) fun u s1 hh => ?_) ht⟩
  obtain ⟨x, H1, I1, rx, a, dx, fs, ex, ea, l, q⟩ := hh
  subst ex
  obtain rfl : u = Value.ref a := rx
  refine getmeth_ok I1 ea c hm l (PySem.W.callWith_K (first := [.ref a]) (h₀ := X.base) I.ok.mod.kin hm.kp (thn (ha.run pos pins s1 σ H1 _ I1 q) fun us s2 hh => ?_) hst hpl)
  obtain ⟨vs, H2, I2, r, q2⟩ := hh
  exact ⟨I2.kIn, runE (us := .ref a :: us) (vs := .ref a :: vs) F hr hb (hx σ) I2 (.cons rfl r) q2⟩
theorem c_meth0 {pl : Sem Bool} (he : PE X o ta) (c : Cls X.K C) (hm : Meth X.K C m f) (F : FnOk X.prog X.w X.K X.mg X.base CX k f fd ps sp) (hr : Room k X.A) (hb : Binds X.K fd ps []) (hx : ∀ σ, PassesAt CX X σ (E σ))
    (ht : eval (.Call (.Attribute o m apos) [] [] pos) X.env = (do
      let ov ← eval o X.env
      standAt apos.atName
      let (f, first) ← holding [ov] (getMethod ov m pl)
      callWith pos f first (backTo pos (starEach [] X.env)) (backToKw pos (keywordEach [] X.env))) := by rfl) :
    PE X (.Call (.Attribute o m apos) [] [] pos) (tMethE C m sp E ta tNil) := by
  refine ⟨fun pins s σ H Q I h => PySem.W.methodCall_KW (pl := pl) (thn (he.run pins s σ H _ I h) fun u s1 hh => ?_) ht⟩
  obtain ⟨x, H1, I1, rx, a, dx, fs, ex, ea, l, q⟩ := hh
  subst ex
  obtain rfl : u = Value.ref a := rx
  exact getmeth_ok I1 ea c hm l (PySem.W.callWith_K0 (first := [.ref a]) I1.kIn hm.kp (runE (us := [.ref a]) (vs := [.ref a]) F hr hb (hx σ) I1 (.cons rfl .nil) q))
/-- C(..) -/
def tMakeE (C : Addr) (sp : Sp) (E : L2.St → XK) (t : TA) : TE := fun σ H Q => t σ H fun vs H1 => ∀ x dx, H1 x = none → H1 dx = none → dx ≠ x →
  sp (.ref x :: vs) (upd (upd H1 dx (.own x)) x (.ins C dx [])) (fun v H2 => v = .non ∧ Q (.ref x) H2) (E σ)
theorem run_makeE {pins : List (Addr × Obj)} {σ : L2.St} {H : Hp} {s : Shared} {Q : VK} {us : List Value} {vs : List V} (M : Mk X.K C f) (F : FnOk X.prog X.w X.K X.mg X.base CX k f fd ps sp) (hr : Room (k + 1) X.A) (hb : Binds X.K fd ps [])
    (hx : PassesAt CX X σ (E σ)) (I : Inv X pins σ H s) (r : Vals vs us)
    (h : ∀ x dx, H x = none → H dx = none → dx ≠ x → sp (.ref x :: vs) (upd (upd H dx (.own x)) x (.ins C dx [])) (fun v H2 => v = .non ∧ Q (.ref x) H2) (E σ)) :
    wpAny (model X.prog X.w) X.A (call (.ref C) us) (EP X pins σ Q) X.xe s := by
  have hq := h (s.heap.objs.size + 1) s.heap.objs.size (I.hok.fresh (Nat.le_succ _)) (I.hok.fresh (Nat.le_refl _)) (Nat.ne_of_lt (Nat.lt_succ_self _))
  have I2 := Inv.made (C := C) I
  have r2 : Vals (V.ref (s.heap.objs.size + 1) :: vs) (Value.ref (s.heap.objs.size + 1) :: us) := .cons rfl r
  have hl : (Value.ref (s.heap.objs.size + 1) :: us ++ []).length = ps.length := by
    rw [List.append_nil, ← r2.length, F.len _ _ _ _ hq]
  have hb2 := hb _ (Value.ref (s.heap.objs.size + 1) :: us) I2.kIn hl
  rw [List.append_nil] at hb2
  refine wpAny_call (make_map (f := f) I.kIn M.makes M.init (beq_iff_eq.mp M.fn) (codeAny_mono (F.run _ X.stack _ _ ⟨Value.ref (s.heap.objs.size + 1) :: us, []⟩ (Value.ref (s.heap.objs.size + 1) :: us) _ _ (E σ) (hr.make C us [])
    (I2.env0.make C us []) hb2 r2 hq) fun r s' hq' => ?_))
  match r, hq' with
  | .error e, hq' => exact hx pins _ _ e s' I2 hq'
  | .ok (.ret u), hq' =>
    obtain ⟨v, H', I3, rv, ev, q3⟩ := I2.after hq'
    subst ev
    exact ⟨rv, ⟨V.ref (s.heap.objs.size + 1), H', I3, rfl, q3⟩⟩
  | .ok .next, hq' => exact False.elim hq'
  | .ok .brk, hq' => exact False.elim hq'
  | .ok .cont, hq' => exact False.elim hq'
theorem c_make (M : Mk X.K C f) (F : FnOk X.prog X.w X.K X.mg X.base CX k f fd ps sp) (hr : Room (k + 1) X.A) (hm : X.mg x = some (.ref C)) (hb : Binds X.K fd ps []) (hx : ∀ σ, PassesAt CX X σ (E σ))
    (ha : PA X (e :: es) t) (hg : Gl X x := by rfl) (hdb : (x == ("__debug__" : Str)) = false := by decide) (he : starEach (e :: es) X.env = (false, eval e X.env) :: starEach es X.env := by rfl) (hpl : (backTo pos (starEach es X.env)).any (·.1) = false := by rfl) :
    PE X (.Call (.Name x p) (e :: es) [] pos) (tMakeE C sp E t) := by
  refine ⟨fun pins s σ H Q I h => wpAny_Call_Name_kw (ld_glob I hg hm ?_ hdb)⟩
  refine PySem.W.callWith_K (h₀ := X.base) I.ok.mod.kin M.kp (thn (ha.run pos pins s σ H _ I h) fun us s1 ⟨vs, H1, I1, r, q⟩ => ⟨I1.kIn, ?_⟩) he hpl
  exact run_makeE M F hr hb (hx σ) I1 r q
theorem c_make0 (M : Mk X.K C f) (F : FnOk X.prog X.w X.K X.mg X.base CX k f fd ps sp) (hr : Room (k + 1) X.A) (hm : X.mg x = some (.ref C)) (hb : Binds X.K fd ps []) (hx : ∀ σ, PassesAt CX X σ (E σ))
    (hg : Gl X x := by rfl) (hdb : (x == ("__debug__" : Str)) = false := by decide) : PE X (.Call (.Name x p) [] [] pos) (tMakeE C sp E tNil) := by
  refine ⟨fun pins s σ H Q I h => wpAny_Call_Name_kw (ld_glob I hg hm ?_ hdb)⟩
  exact PySem.W.callWith_K0 I.kIn M.kp (run_makeE (us := []) M F hr hb (hx σ) I .nil h)
end
/-- a def that may raise, raised where nothing is handled -/
theorem okN {P : Program} {w : World} {K : PySem.W.Frag} {mg : Str → Option Value} {base : Heap} {x qual : Str} {st : Stmt} {f : Addr} {fd : FuncData} {N ps : List Str} {k : Nat} {sp : Sp} (F : Fun K x qual st f fd) (S : FnScope N ps (defScope st)) (len : ∀ vs H Q E, sp vs H Q E → vs.length = ps.length)
    (hbody : ∀ (cdv : Value) (A : Around) (outer : List Env) (s : Shared) (H : Hp) (vs : List V) (Q : VK) (E : XK), Room k (A.deeper (envOfC qual (defScope st) s.heap.objs.size f cdv)) → sp vs H Q E →
      ∃ t, PSs (cxOf (L2N.CX P w) P w K mg base N qual (defScope st) f cdv A outer s H E) (defBody st) t ∧ t { nx := fun _ H' => Q .non H', rt := Q } (start N vs) H) : FnOk P w K mg base (L2N.CX P w) (k + 1) f fd ps sp := by
  obtain ⟨oc, od, kV, doc, pm, an, cdv, ct, osl, rfl, lk, hcd⟩ := F.ex
  exact fn_of lk hcd S len fun A outer s H vs Q E hr hsp => hbody cdv A outer s H vs Q E hr hsp
/-! ### a def called in an except suite with the exception that is handled -/
/-- what is told of the exception: where it stands, its class, its own dict -/
abbrev SpE := Addr → Value → Option Addr → Sp
structure FnE (P : Program) (w : World) (K : PySem.W.Frag) (mg : Str → Option Value) (base : Heap) (k : Nat) (f : Addr) (fd : FuncData) (ps : List Str) (sp : SpE) : Prop where
  len : ∀ a c d vs H Q E, sp a c d vs H Q E → vs.length = ps.length
  run : ∀ (A : Around) (outer : List Env) (s : Shared) (H : Hp) (args : Args) (us : List Value) (vs : List V) (Q : VK) (E : XK) (p : Addr × Obj) (c : Value) (d : Option Addr), L2H.RoomH k A → L2H.Hot1 A p → Zc c d p.2 → L2H.PinOk outer H s p → Env0 P w K mg base A outer s H → BindsTo s fd args (ps.zip us) → Vals vs us → sp p.1 c d vs H Q E →
    codeAny (model P w) A (.call (.ref f) args) (CR CX0 outer P w H s Q E) s
theorem fnE_of {P : Program} {w : World} {K : PySem.W.Frag} {mg : Str → Option Value} {base : Heap} {x qual : Str} {st : Stmt} {f : Addr} {fd : FuncData} {N ps : List Str} {k : Nat} {sp : SpE} (F : Fun K x qual st f fd) (S : FnScope N ps (defScope st))
    (len : ∀ a c d vs H Q E, sp a c d vs H Q E → vs.length = ps.length)
    (hbody : ∀ (cdv : Value) (A : Around) (outer : List Env) (s : Shared) (H : Hp) (vs : List V) (Q : VK) (E : XK) (p : Addr × Obj) (c : Value) (d : Option Addr), L2H.Hot1 (A.deeper (envOfC qual (defScope st) s.heap.objs.size f cdv)) p → Zc c d p.2 → L2H.RoomH k (A.deeper (envOfC qual (defScope st) s.heap.objs.size f cdv)) → sp p.1 c d vs H Q E →
      ∃ t, PSs (L2H.cxH CX0 P w K mg base N qual (defScope st) f cdv A outer s H E p) (defBody st) t ∧ t { nx := fun _ H' => Q .non H', rt := Q } (L2.start N vs) H) :
    FnE P w K mg base (k + 1) f fd ps sp := by
  obtain ⟨oc, od, kV, doc, pm, an, cdv, ct, osl, rfl, lk, hcd⟩ := F.ex
  refine ⟨len, fun A outer s H args us vs Q E p c d hr hot hz hpin e0 hb r hsp => ?_⟩
  have hl := len _ _ _ _ _ _ _ hsp
  have KX : K.In s.heap := e0.mod.kin.keeps fun b o e => (e0.bs b o e).1
  have lim : s.heap.NoLimit := e0.mod.nolimit.keeps fun b o e => (e0.bs b o e).1
  have hkind : ∀ y ∈ ps.zip us, (defScope st).names.lookup y.1 = some .local ∨ ((defScope st).names.lookup y.1 = some .cell ∧ ((cellsFrom (s.heap.objs.size + 1) (defScope st).names []).lookup y.1).isSome = true) := fun ⟨n, v⟩ hy =>
    (S.par n (List.of_mem_zip hy).1).elim .inl fun q => .inr ⟨q, PySem.W.cellsFrom_some _ _ _ (.inl q)⟩
  refine codeAny_call_function hr.depth (KX _ _ lk) rfl S.co S.gen rfl (PySem.W.codeRec_of KX hcd) (hb _ _ _ _ (wpAny_newFunctionEnv_cells S.kind hkind fun env he s1 x => ?_))
  subst he
  refine ⟨lim.keeps x.toInCall.keep, codeAny_func ?_⟩
  obtain ⟨t, ht, hq⟩ := hbody cdv A outer s H vs Q E p c d hot hz (hr.deeper _) hsp
  have I : Inv (L2H.cxH CX0 P w K mg base N qual (defScope st) f cdv A outer s H E p) [] (L2.start N vs) H s1 := L2H.inv_startH S hpin e0 hl r x
  refine wpAny_mono (ht.run [] s1 (L2.start N vs) H _ I hq) (fun fl s' hs => ?_) fun e s' hs => hs
  match fl, hs with
  | .ret u, ⟨v, σ', H', J, rv, q⟩ => exact ⟨v, H', J.os, J.bare, J.base, J.hok, rv, q⟩
  | .next, ⟨σ', H', J, q⟩ => exact ⟨V.non, H', J.os, J.bare, J.base, J.hok, rfl, q⟩
  | .brk, ⟨_, _, _, q⟩ => exact False.elim q
  | .cont, ⟨_, _, _, q⟩ => exact False.elim q
section
variable {X : Cx} {k : Nat} {f : Addr} {fd : FuncData} {ps : List Str} {sp : SpE} {x : Str} {q pos : Pos} {e : Expr} {es : List Expr} {t : TA}
def tCallE (sp : SpE) (a : Addr) (c : Value) (d : Option Addr) (t : TA) : TE := fun σ H Q => t σ H fun vs H1 => sp a c d vs H1 Q (fun _ _ _ => False)
theorem c_callE {a : Addr} {oe : Obj} {c : Value} {d : Option Addr} (F : FnE X.prog X.w X.K X.mg X.base k f fd ps sp) (hr : L2H.RoomH k X.A) (hh : X.A.handled = some (.ref a)) (hp : (a, oe) ∈ X.pn) (hz : L2N.Zn c d oe) (hf : ∃ vs, oe.data = .fields vs)
    (hm : X.mg x = some (.ref f)) (hk : PySem.W.keepIn X.K (.ref f) = true) (hb : Binds X.K fd ps [])
    (ha : PA X (e :: es) t) (hg : Gl X x := by rfl) (hdb : (x == ("__debug__" : Str)) = false := by decide) (he : starEach (e :: es) X.env = (false, eval e X.env) :: starEach es X.env := by rfl) (hpl : (backTo pos (starEach es X.env)).any (·.1) = false := by rfl) :
    PE X (.Call (.Name x q) (e :: es) [] pos) (tCallE sp a c d t) := by
  refine ⟨fun pins s σ H Q I h => wpAny_Call_Name_kw (ld_glob I hg hm ?_ hdb)⟩
  refine PySem.W.callWith_K (h₀ := X.base) I.ok.mod.kin hk (thn (ha.run pos pins s σ H _ I h) fun us s1 ⟨vs, H1, I1, r, q⟩ => ⟨I1.kIn, ?_⟩) he hpl
  obtain ⟨v1, hv1⟩ := hf
  have hot : L2H.Hot1 X.A (a, oe) := ⟨hh, v1, hv1, hz.2.2 v1 hv1⟩
  have hl : us.length = ps.length := by rw [← r.length]; exact F.len _ _ _ _ _ _ _ q
  have b := hb s1 us I1.kIn (by rw [List.append_nil]; exact hl)
  rw [List.append_nil] at b
  have P1 := I1.pin (a, oe) (List.mem_append_left _ hp)
  have hpin : L2H.PinOk X.stack H1 s1 (a, oe) := ⟨P1.1, P1.2.1, fun hm => (List.mem_cons.mp (I1.stkSub a hm)).elim P1.2.2.1 P1.2.2.2.1, P1.2.2.2.2⟩
  refine wpAny_call (codeAny_mono (F.run X.A X.stack s1 H1 ⟨us, []⟩ us vs Q (fun _ _ _ => False) (a, oe) c d hr hot hz.zc hpin I1.env0 b r q) fun r s' hq => ?_)
  match r, hq with
  | .error e, hq => exact False.elim hq
  | .ok (.ret u), hq => exact I1.after hq
  | .ok .next, hq => exact False.elim hq
  | .ok .brk, hq => exact False.elim hq
  | .ok .cont, hq => exact False.elim hq
/-- isinstance(e, c), e an exception that every state bears -/
theorem call_isP {a D : Addr} {oe : Obj} (C : ExcC X.K D) (hp : (a, oe) ∈ X.pn) (hz : Zc (.ref D) none oe) (hf : ∃ vs, oe.data = .fields vs) : CallR X (.builtin "isinstance") (rIsE X.K D a) := by
  intro pins s σ H xs us Q I r h
  obtain ⟨c, cv, b, rfl, hcv, e, q⟩ := h
  cases r with
  | cons rx rr =>
    cases rr with
    | cons rt rr =>
      cases rr
      cases rx
      have ec := hcv _ rt
      subst ec
      obtain ⟨hget, _⟩ := I.pin (a, oe) (List.mem_append.mpr (.inl hp))
      obtain ⟨vs, hv⟩ := hf
      have J : PySem.W.InstAt s.heap a oe D none := by
        obtain ⟨oc, od, oda, osl⟩ := oe
        obtain ⟨h1, h2⟩ := hz
        dsimp only at h1 h2 hv
        subst h1 h2 hv
        exact ⟨hget, rfl, rfl, trivial⟩
      exact PySem.W.kia_one (PySem.W.handS_kitx_exc C.hg C.hk C.hs C.hd C.ha C.hn C.ht C.hm) I.kIn J e (fun z => nomatch z) fun tk => ⟨.bl b, H, I.kept (t' := tk) fun _ _ z => z, rfl, q⟩
end
/-! ### list(reversed(xs)) -/
section
variable {prog : Program} {w : World} {A : Around} {E : Value → Shared → Prop} {s : Shared}
theorem call_list_rev {it l : Addr} {items : Array Value} {Q : Value → Shared → Prop} (hh : A.handled = none) (hit : s.heap.IsRevIter it l ((items.size : Int) - 1)) (hl : s.heap.IsList l items) (hne : l ≠ it) (hn : items.size ≤ sizeLine)
    (hQ : ∀ (h' : Heap) (tk : Nat) (acc : Array Value) (c : Nat), (∀ b o, b ≠ it → s.heap.get? b = some o → h'.get? b = some o) → h'.get? s.heap.objs.size = some { cls := .type "list", data := .seq acc c } →
      ItemsOf (fun i v => items[items.size - 1 - i]? = some v) acc items.size → Q (.ref s.heap.objs.size) { s with heap := h', toks := tk }) :
    wpAny (model prog w) A (call (.type "list") [.ref it]) Q E s := by
  refine callType_codes (Q₁ := fun obj s₁ => obj = .ref s.heap.objs.size ∧ s₁ = { s with heap := s.heap.push { cls := .type "list", data := .seq #[] } }) F.called_list (F.typeCall_list_1 _) F.entry_list_init
    (code_list_new _ ⟨rfl, rfl⟩) fun obj s₁ h₁ => ?_
  obtain ⟨rfl, rfl⟩ := h₁
  have hS : (s.heap.push { cls := .type "list", data := .seq #[] }).get? s.heap.objs.size = some { cls := .type "list", data := .seq #[] } := Heap.get?_push_size _ rfl
  refine ⟨⟨_, hS, rfl⟩, F.args_list_init_2 _ _, ?_⟩
  generalize hSe : s.heap.objs.size = S at hS ⊢
  obtain ⟨oi, hoi, _⟩ := id hit
  obtain ⟨ol, hol, _⟩ := id hl
  have hSi : S ≠ it := by rw [← hSe]; exact Nat.ne_of_gt (Heap.lt_size hoi)
  have hSl : S ≠ l := by rw [← hSe]; exact Nat.ne_of_gt (Heap.lt_size hol)
  have hSf : S ∉ [it, l] := by simp only [List.mem_cons, List.not_mem_nil, or_false, not_or]; exact ⟨hSi, hSl⟩
  show wpAny _ _ (do let old ← Builtin.List.listItems (.ref S); Builtin.List.listUpdate (.ref S) (fun _ => #[]); letGo old.toList.reverse; Builtin.List.listExtendWith (.ref S) (.ref it) .none) _ _ _
  refine wpAny_bind ?_
  unfold Builtin.List.listItems
  refine wpAny_bind (wpAny_seqItems hS rfl (wpAny_pure ?_))
  show wpAny _ _ (updateSeq S (fun _ => #[]) >>= fun _ => letGo (#[] : Array Value).toList.reverse >>= fun _ => Builtin.List.listExtendWith (.ref S) (.ref it) .none) _ _ _
  refine wpAny_bind (wpAny_updateSeq hS rfl ?_)
  have hS₂ := Heap.get?_update_self (Obj.mapSeq (fun _ => (#[] : Array Value))) hS rfl
  have oth : ∀ b o, b ≠ S → s.heap.get? b = some o → ((s.heap.push { cls := .type "list", data := .seq #[] }).update S (Obj.mapSeq (fun _ => (#[] : Array Value)))).get? b = some o :=
    fun b o hb e => (Heap.get?_update_other _ _ (Ne.symm hb)).trans (Heap.get?_push_of_some _ e)
  generalize hh2 : (s.heap.push { cls := .type "list", data := .seq #[] }).update S (Obj.mapSeq (fun _ => (#[] : Array Value))) = h2 at hS₂ oth ⊢
  refine wpAny_bind (wpAny_letGo ?_)
  have hit1 : h2.IsRevIter it l ((items.size : Int) - 1) := hit.at fun o e => oth it o (Ne.symm hSi) e
  have hl1 : h2.IsList l items := by
    obtain ⟨o, a, b, c, d⟩ := hl
    exact ⟨o, oth l o (Ne.symm hSl) a, b, c, d⟩
  have hT : ({ s with heap := h2 } : Shared).TypeIs (.ref it) "list_reverseiterator" := Heap.IsRevIter.typeIs (s := { s with heap := h2 }) hit1
  have h1 : Builtin.List.listSameRef (.ref S) (.ref it) = false := by simp [Builtin.List.listSameRef, hSi]
  have W := (Walks.listRev (prog := prog) (w := w) (A := A.in1.in1) hh it l hne items).toS
  unfold Builtin.List.listExtendWith
  refine wpAny_bind (wpAny_typeOf hT ?_)
  rw [if_neg (by rw [h1]; decide)]
  refine wpAny_bind (wpAny_pyIter_revIter (s := { s with heap := h2 }) hit1 ?_)
  refine wpAny_bind (wpAny_holding ?_)
  unfold Builtin.List.listLengthHint
  refine wpAny_bind (wpAny_specialOf hT RT.nolen_lri ?_)
  show wpAny _ _ (specialOf (Value.ref it) (Str.ofString "__length_hint__") >>= _) _ _ _
  refine wpAny_bind (wpAny_specialOf hT RT.hint_lri ?_)
  generalize hid : ("list_reverseiterator.__length_hint__" : String) = id0
  wp_delta
  rw [show splitId id0 = some ("list_reverseiterator", "__length_hint__") from by subst hid; decide +kernel]
  subst hid
  refine wpAny_bind (wpAny_isInstance (b := true) hT (by rw [isSubtype_type]; kernel_rfl) ?_)
  refine wpAny_pure ?_
  rw [if_neg (by decide)]
  have e0 : ((items.size : Nat) : Int) - 1 - ((0 : Nat) : Int) = (items.size : Int) - 1 := by omega
  refine wpAny_pure ⟨plainId_quiet F.plain_extend_loop _, codeAny_extend_loopS W hn _ hSf _ items.size 0 _ _ _ rfl (Nat.zero_le _) ⟨Nat.zero_le _, by rw [e0]; exact hit1, hl1⟩ hS₂ (ItemsOf.nil _) fun s' acc' c' hm hS' hacc => ?_⟩
  refine ⟨rfl, ?_⟩
  rw [Moved.eq_with hm]
  have goal := hQ s'.heap s'.toks acc' c' (fun b o hb e => hm.heap b o (fun hmem => ?_) (oth b o (by rw [← hSe]; exact Nat.ne_of_lt (Heap.lt_size e)) e)) (by rw [hSe]; exact hS') hacc
  · rw [hSe] at goal
    exact goal
  · rcases List.mem_cons.mp hmem with e' | hmem
    · exact absurd (Heap.lt_size e) (by rw [e', ← hSe]; exact Nat.lt_irrefl _)
    · exact hb (List.mem_singleton.mp hmem)
end
section
variable {X : Cx}
def tListRev (K : PySem.W.Frag) (te : TE) : TE := fun σ H Q => te σ H fun v H1 => ∃ (a : Addr) (xs : List V), v = .ref a ∧ SqL K H1 a xs ∧ ∀ q, H1 q = none → Q (.ref q) (upd H1 q (.lst xs.reverse))
theorem pe_listRev {e : Expr} {te : TE} {p p2 pos pos2 : Pos} (hc : X.calm = true) (hm : X.mg "list" = none) (hm2 : X.mg "reversed" = none) (he : PE X e te) (hg : Gl X "list" := by rfl) (hg2 : Gl X "reversed" := by rfl)
    (hs : starEach [e] X.env = (false, eval e X.env) :: starEach [] X.env := by rfl)
    (hs2 : starEach [.Call (.Name "reversed" p2) [e] [] pos2] X.env = (false, eval (.Call (.Name "reversed" p2) [e] [] pos2) X.env) :: starEach [] X.env := by rfl) :
    PE X (.Call (.Name "list" p) [.Call (.Name "reversed" p2) [e] [] pos2] [] pos) (tListRev X.K te) := by
  refine ⟨fun pins s σ H Q I h => ?_⟩
  refine Call_ (ld_blt I hg hm boot_list (PyProof.Rows.callWith_type1 (args_cons (Call_ (ld_blt I hg2 hm2 PyProof.Rows.boot_reversed (PyProof.Rows.callWith_type1 (args_cons (thn (he.run pins s σ H _ I h) fun u s1 hh => args_nil ?_) hs) hs rfl))) hs2) hs2 rfl))
  obtain ⟨v, H1, I1, r1, a, xs, ev, hq, q⟩ := hh
  subst ev
  obtain rfl : u = Value.ref a := r1
  obtain ⟨its, rv, p', hz⟩ := I1.list hq
  refine call_reversed_list p'.isList (args_nil ?_)
  have k0 : ∀ b o, s1.heap.get? b = some o → (s1.heap.push (revObj a ((its.toArray.size : Int) - 1))).get? b = some o := fun b o e => Heap.get?_push_of_some _ e
  have I2 : Inv X pins σ H1 { s1 with heap := s1.heap.push (revObj a ((its.toArray.size : Int) - 1)) } := I1.kept (t' := s1.toks) k0
  obtain ⟨f0, f1, f2, f3, f4, f5⟩ := I1.fpOk (H' := H1) (b := s1.heap.objs.size) (Nat.le_refl _) (I1.hok.fresh (Nat.le_refl _))
  have hl := p'.isList
  obtain ⟨ol, hol, _⟩ := id hl
  have hne : a ≠ s1.heap.objs.size := Nat.ne_of_lt (Heap.lt_size hol)
  have hn : its.toArray.size ≤ sizeLine := by rw [List.size_toArray, ← rv.length]; exact hz
  refine call_list_rev (s := { s1 with heap := s1.heap.push (revObj a ((its.toArray.size : Int) - 1)) }) (I1.ok.hd hc) ⟨_, Heap.get?_push_size _ rfl, rfl, rfl⟩ (hl.push _) hne hn fun h' tk acc c hk hS hi => ?_
  have hle : s1.heap.objs.size ≤ (s1.heap.push (revObj a ((its.toArray.size : Int) - 1))).objs.size := by rw [Heap.size_push]; exact Nat.le_succ _
  generalize hS1 : (s1.heap.push (revObj a ((its.toArray.size : Int) - 1))).objs.size = S at hS hle ⊢
  refine ⟨.ref S, upd H1 S (.lst xs.reverse), I1.laid (t' := tk) (h' := h') (fun b o e => hk b o (Nat.ne_of_lt (Heap.lt_size e)) (k0 b o e)) hle (show ObjOk X.prog X.w _ _ _ (.lst xs.reverse) from ⟨by rw [List.length_reverse]; exact hz, acc.toList, c, RT.vals_rev rv hi, ?_⟩), rfl, q _ (I1.hok.fresh hle)⟩
  rw [Array.toArray_toList]
  exact hS
end
/-! ### readings under names of their own -/
def rISub : R2 := rI0 fun i j => .int (i - j)
def rIMod : R2 := rI (fun _ j => 0 < j) fun i j => .int (i % j)
def rIDiv : R2 := rI CDiv fun i j => .int (i / j)
def rIPow : R2 := rI CPow fun i j => .int (i ^ j.toNat)
def rINeg : V → Hp → VK → Prop := rU fun i => .int (-i)
def rAbs : List V → Hp → VK → Prop := fun xs H Q => ∃ i, xs = [.int i] ∧ Q (.int (if i < 0 then -i else i)) H
def rMax2 : List V → Hp → VK → Prop := fun xs H Q => ∃ i j, xs = [.int i, .int j] ∧ Q (.int (if j > i then j else i)) H
def rMin2 : List V → Hp → VK → Prop := fun xs H Q => ∃ i j, xs = [.int i, .int j] ∧ Q (.int (if j < i then j else i)) H
def rInt : List V → Hp → VK → Prop := fun xs H Q => (∃ i, xs = [.int i] ∧ Q (.int i) H) ∨ ∃ k, xs = [.bl k] ∧ Q (.int (if k then 1 else 0)) H
def rTupleOf (K : PySem.W.Frag) : List V → Hp → VK → Prop := fun xs H Q => ∃ p ys, xs = [.ref p] ∧ ((SqL K H p ys ∧ ∀ l, H l = none → Q (.ref l) (upd H l (.tup ys))) ∨ (SqT K H p ys ∧ Q (.ref p) H))
def rListOf (K : PySem.W.Frag) : List V → Hp → VK → Prop := fun xs H Q => ∃ p ys, xs = [.ref p] ∧ (SqL K H p ys ∨ SqT K H p ys) ∧ ∀ l, H l = none → Q (.ref l) (upd H l (.lst ys))
def rInsert : V → List V → Hp → VK → Prop := fun x vs H Q => ∃ (l : Addr) (xs : List V) (i : Int) (y : V), x = .ref l ∧ vs = [.int i, y] ∧ H l = some (.lst xs) ∧ xs.length < sizeLine ∧ 0 ≤ i ∧ i < 2 ^ 63 ∧ Q .non (upd H l (.lst (xs.take i.toNat ++ [y] ++ xs.drop i.toNat)))
def uLen (K : PySem.W.Frag) : List V → Hp → VK → Prop := fun xs H Q => ∃ x n, xs = [x] ∧ LenV K x H n ∧ Q (.int n) H
def uAdd (K : PySem.W.Frag) : R2 := fun x y H Q => rI0 (fun i j => .int (i + j)) x y H Q ∨ (∃ i j, x = .str i ∧ y = .str j ∧ i.length + j.length ≤ sizeLine ∧ Q (.str (i ++ j)) H) ∨ rCat x y H Q ∨ rCatA K x y H Q
def uMul : R2 := fun x y H Q => rI CMul (fun i j => .int (i * j)) x y H Q ∨ rRep x y H Q
def uEq (K : PySem.W.Frag) : R2 := fun x y H Q => rEq x y H Q ∨ rEqD K x y H Q
def uNe (K : PySem.W.Frag) : R2 := fun x y H Q => rNe x y H Q ∨ rNeD K x y H Q
def uLt (_ : PySem.W.Frag) : R2 := rI0 fun i j => .bl (decide (i < j))
def uLe (_ : PySem.W.Frag) : R2 := rI0 fun i j => .bl (decide (i ≤ j))
def uGt (_ : PySem.W.Frag) : R2 := rI0 fun i j => .bl (decide (j < i))
def uGe (_ : PySem.W.Frag) : R2 := rI0 fun i j => .bl (decide (j ≤ i))
def uIs : R2 := fun x y H Q => y = .non ∧ Q (.bl (decide (x = .non))) H
def uIsNot : R2 := fun x y H Q => y = .non ∧ Q (.bl (!decide (x = .non))) H
def uIn (K : PySem.W.Frag) : R2 := fun x y H Q => rIn K false x y H Q ∨ rInD K x y H Q
def uNotIn (K : PySem.W.Frag) : R2 := fun x y H Q => rIn K true x y H Q ∨ rNotInD K x y H Q
def uSl (K : PySem.W.Frag) : V → Option Int → Option Int → Hp → VK → Prop := fun x lo hi H Q => rSlL K x lo hi H Q ∨ rSlA K x lo hi H Q
def tTru (K : PySem.W.Frag) (ta : TE) : TT := fun σ H Q => ta σ H fun x H' => ∃ k, TruV K x H' k ∧ Q k H'
def tRaiseN (W : WX) (C : Addr) : TS := fun _ σ H => W (.ref C) none σ H
def tTryAs (K : PySem.W.Frag) (c : Value) (i : Nat) (tb : WX → TS) (ts : Addr → Value → Option Addr → TS) (Wout : WX) : TS := fun D σ H => tb (wAs K c i ts Wout D) D σ H
section
variable {X : Cx}
theorem u_len : CallR X (.builtin "len") (uLen X.K) := call_len
theorem u_add : OpR X (binaryOp .Add) (uAdd X.K) := op_add.or (op_add_str.or (op_cat.or op_catA))
theorem u_mul : OpR X (binaryOp .Mult) uMul := op_mul.or op_rep
theorem u_eq {k : Nat} (hr : Room k X.A) : OpR X (compareOp .Eq) (uEq X.K) := op_eq.or (op_eqD hr.units)
theorem u_ne {k : Nat} (hr : Room k X.A) : OpR X (compareOp .NotEq) (uNe X.K) := op_ne.or (op_neD hr.units)
theorem u_lt : OpR X (compareOp .Lt) (uLt X.K) := op_lt
theorem u_le : OpR X (compareOp .LtE) (uLe X.K) := op_le
theorem u_gt : OpR X (compareOp .Gt) (uGt X.K) := op_gt
theorem u_ge : OpR X (compareOp .GtE) (uGe X.K) := op_ge
theorem u_is : OpR X (compareOp .Is) uIs := op_isN
theorem u_isnot : OpR X (compareOp .IsNot) uIsNot := op_notN
theorem room65 {k : Nat} {A : Around} (hr : Room k A) : A.units + 65 < cLine := by have := hr.un; omega
theorem u_in {k : Nat} (hr : Room k X.A) : OpR X (compareOp .In) (uIn X.K) := op_in_seq.or (op_inD (room65 hr))
theorem u_notin {k : Nat} (hr : Room k X.A) : OpR X (compareOp .NotIn) (uNotIn X.K) := op_notIn_seq.or (op_notInD (room65 hr))
theorem u_sl : SlR X (uSl X.K) := sl_list.or sl_tupA
theorem u_eqH {k : Nat} (hr : L2H.RoomH k X.A) : OpR X (compareOp .Eq) (uEq X.K) := op_eq.or (op_eqD (by have := hr.un; omega))
theorem pt_tru {a : Expr} {ta : TE} (ha : PE X a ta) (he : ∀ whole, isTrue a X.env whole = (do let v ← whole; standAt a.pos; holding [v] (truthy v)) := by intro _; rfl) : PT X a (tTru X.K ta) := pt_truth ha he
theorem takesN0 : L2N.Takes X (fun _ _ _ _ => False) := fun _ _ h => by
  obtain ⟨_, _, _, _, _, _, _, _, _, _, _, _, _, _, _, _, z⟩ := h
  exact z.elim
theorem tkN {E : XK} (hs : X.stack = X.env :: X.outer) (hf : X.env.frame = some X.env.locals) (hex : X.ex = []) {E₁ : Value → Shared → Prop}
    (hx : X.xe = fun e s' => wpAny (model X.prog X.w) X.A (leaving X.env e) (fun _ s'' => L2N.CX X.prog X.w X.outer X.H_0 X.s_0 E e s'') E₁ s') : L2N.Takes X (fun cls d _ H => E cls d H) := L2N.takes_of hs hf hex hx
end
/-! ### what the top has written, def by def -/
structure FnAt (K : PySem.W.Frag) (mg : Str → Option Value) (x : Str) (st : Stmt) (ps : List Str) where
  a : Addr
  fd : FuncData
  F : Fun K x x st a fd
  b : Binds K fd ps []
  g : mg x = some (.ref a)
structure MeAt (K : PySem.W.Frag) (C : Addr) (x qual : Str) (st : Stmt) (ps : List Str) where
  a : Addr
  fd : FuncData
  F : Fun K x qual st a fd
  b : Binds K fd ps []
  m : Meth K C x a
structure InAt (K : PySem.W.Frag) (mg : Str → Option Value) (C : Addr) (x qual : Str) (st : Stmt) (ps : List Str) where
  a : Addr
  fd : FuncData
  F : Fun K "__init__" qual st a fd
  b : Binds K fd ps []
  made : Mk K C a
  cl : Cls K C
  g : mg x = some (.ref C)
/-- an exception's class -/
structure ExAt (K : PySem.W.Frag) (mg : Str → Option Value) (x : Str) (C : Addr) : Prop where
  ex : PySem.W.excIn K C [.type "ValueError", .type "Exception", .type "BaseException", .type "object"] "ValueError.__new__" = true
  g : mg x = some (.ref C)
  k : PySem.W.keepIn K (.ref C) = true
  b : PySem.W.subIn K (.ref C) (.type "BaseException") = some true
  t : PySem.W.typeIn K (.ref C) = some (.type "type")
  e : ExcC K C
structure CoAt (K : PySem.W.Frag) (mg : Str → Option Value) (x : Str) (v : V) : Prop where
  ex : ∃ u, mg x = some u ∧ RelV v u
/-! ### readings that reckon: by cases of what stands, so that simp goes through them -/
section
variable {X : Cx}
theorem peI {e : Expr} {t u : TE} (h : PE X e t) (i : ∀ σ H Q, u σ H Q → t σ H Q) : PE X e u := ⟨fun pins s σ H Q I q => h.run pins s σ H Q I (i σ H Q q)⟩
theorem ptI {e : Expr} {t u : TT} (h : PT X e t) (i : ∀ σ H Q, u σ H Q → t σ H Q) : PT X e u := ⟨fun pins s σ H Q I q => h.run pins s σ H Q I (i σ H Q q)⟩
theorem psI {e : Stmt} {t u : TS} (h : PS X e t) (i : ∀ D σ H, u D σ H → t D σ H) : PS X e u := ⟨fun pins s σ H D I q => h.run pins s σ H D I (i D σ H q)⟩
theorem pgI {e : Expr} {t u : TG} (h : PG X e t) (i : ∀ v σ H Q, u v σ H Q → t v σ H Q) : PG X e u := ⟨fun pins s σ H v w Q I r q => h.run pins s σ H v w Q I r (i v σ H Q q)⟩
theorem pgsI {e : List Expr} {t u : TGs} (h : PGs X e t) (i : ∀ v σ H Q, u v σ H Q → t v σ H Q) : PGs X e u := ⟨fun pins s σ H v w Q I r q => h.run pins s σ H v w Q I r (i v σ H Q q)⟩
theorem opM {f : Value → Value → Sem Value} {r r' : R2} (h : OpR X f r) (i : ∀ x y H Q, r' x y H Q → r x y H Q) : OpR X f r' := fun pins s σ H x y v u Q I rx ry q => h pins s σ H x y v u Q I rx ry (i x y H Q q)
theorem ixM {r r' : R2} (h : IxR X r) (i : ∀ x y H Q, r' x y H Q → r x y H Q) : IxR X r' := fun va sl pins s σ H x y v u Q I rx ry q z => h va sl pins s σ H x y v u Q I rx ry (i x y H Q q) z
theorem unM {f : Value → Sem Value} {r r' : V → Hp → VK → Prop} (h : UnR X f r) (i : ∀ x H Q, r' x H Q → r x H Q) : UnR X f r' := fun pins s σ H x v Q I rx q => h pins s σ H x v Q I rx (i x H Q q)
theorem caM {f : Value} {r r' : List V → Hp → VK → Prop} (h : CallR X f r) (i : ∀ x H Q, r' x H Q → r x H Q) : CallR X f r' := fun pins s σ H xs us Q I rx q => h pins s σ H xs us Q I rx (i xs H Q q)
theorem mtM {id : String} {r r' : V → List V → Hp → VK → Prop} (h : MtR X id r) (i : ∀ x xs H Q, r' x xs H Q → r x xs H Q) : MtR X id r' := fun pins s σ H x xs v us Q I rx rxs q => h pins s σ H x xs v us Q I rx rxs (i x xs H Q q)
/-- what is wanted may be weakened -/
def mE (t : TE) : TE := fun σ H Q => ∃ P : VK, t σ H P ∧ ∀ v H', P v H' → Q v H'
def mT (t : TT) : TT := fun σ H Q => ∃ P : Bool → Hp → Prop, t σ H P ∧ ∀ v H', P v H' → Q v H'
def mA (t : TA) : TA := fun σ H Q => ∃ P : List V → Hp → Prop, t σ H P ∧ ∀ v H', P v H' → Q v H'
theorem peM {e : Expr} {t : TE} (h : PE X e t) : PE X e (mE t) := ⟨fun pins s σ H Q I q => by
  obtain ⟨P, q, i⟩ := q
  refine thn (h.run pins s σ H P I q) fun v s1 hh => ?_
  obtain ⟨x, H1, I1, r1, q1⟩ := hh
  exact ⟨x, H1, I1, r1, i _ _ q1⟩⟩
theorem ptM {e : Expr} {t : TT} (h : PT X e t) : PT X e (mT t) := ⟨fun pins s σ H Q I q => by
  obtain ⟨P, q, i⟩ := q
  refine thn (h.run pins s σ H P I q) fun v s1 hh => ?_
  obtain ⟨H1, I1, q1⟩ := hh
  exact ⟨H1, I1, i _ _ q1⟩⟩
theorem paM {e : List Expr} {t : TA} (h : PA X e t) : PA X e (mA t) := ⟨fun pos pins s σ H Q I q => by
  obtain ⟨P, q, i⟩ := q
  refine thn (h.run pos pins s σ H P I q) fun v s1 hh => ?_
  obtain ⟨x, H1, I1, r1, q1⟩ := hh
  exact ⟨x, H1, I1, r1, i _ _ q1⟩⟩
end
/-- a name's slot -/
def dVar (i : Nat) : TE := fun σ H Q => match σ[i]? with
  | some (some v) => Q v H
  | _ => False
/-- what stands as a list, as a tuple -/
def lstAt (o : Option HO) (k : List V → Prop) : Prop := match o with
  | some (.lst xs) => k xs
  | some (.frz _ (.lst xs)) => k xs
  | _ => False
def tupAt (o : Option HO) (k : List V → Prop) : Prop := match o with
  | some (.tup xs) => k xs
  | some (.frz _ (.tup xs)) => k xs
  | _ => False
def seqAt (o : Option HO) (k : List V → Prop) : Prop := match o with
  | some (.lst xs) => k xs
  | some (.tup xs) => k xs
  | some (.frz _ (.lst xs)) => k xs
  | some (.frz _ (.tup xs)) => k xs
  | _ => False
theorem lstAt_sq {K : PySem.W.Frag} {H : Hp} {a : Addr} {k : List V → Prop} (h : lstAt (H a) k) : ∃ xs, SqL K H a xs ∧ k xs := by
  unfold lstAt at h
  split at h
  · rename_i xs e
    exact ⟨xs, .inl (.inl e), h⟩
  · rename_i o xs e
    exact ⟨xs, .inl (.inr ⟨o, e⟩), h⟩
  · exact h.elim
theorem tupAt_sq {K : PySem.W.Frag} {H : Hp} {a : Addr} {k : List V → Prop} (h : tupAt (H a) k) : ∃ xs, SqT K H a xs ∧ k xs := by
  unfold tupAt at h
  split at h
  · rename_i xs e
    exact ⟨xs, .inl (.inl e), h⟩
  · rename_i o xs e
    exact ⟨xs, .inl (.inr ⟨o, e⟩), h⟩
  · exact h.elim
theorem seqAt_sq {K : PySem.W.Frag} {H : Hp} {a : Addr} {k : List V → Prop} (h : seqAt (H a) k) : ∃ xs, (SqL K H a xs ∨ SqT K H a xs) ∧ k xs := by
  unfold seqAt at h
  split at h
  · rename_i xs e
    exact ⟨xs, .inl (.inl (.inl e)), h⟩
  · rename_i xs e
    exact ⟨xs, .inr (.inl (.inl e)), h⟩
  · rename_i o xs e
    exact ⟨xs, .inl (.inl (.inr ⟨o, e⟩)), h⟩
  · rename_i o xs e
    exact ⟨xs, .inr (.inl (.inr ⟨o, e⟩)), h⟩
  · exact h.elim
def dAdd : R2 := fun x y H Q => match x, y with
  | .int i, .int j => Q (.int (i + j)) H
  | .str i, .str j => i.length + j.length ≤ sizeLine ∧ Q (.str (i ++ j)) H
  | .ref a, .ref b => match H a, H b with
    | some (.lst xs), some (.lst ys) => xs.length + ys.length ≤ sizeLine ∧ ∀ p, H p = none → Q (.ref p) (upd H p (.lst (xs ++ ys)))
    | _, _ => False
  | _, _ => False
def dI2 (f : Int → Int → V) : R2 := fun x y H Q => match x, y with
  | .int i, .int j => Q (f i j) H
  | _, _ => False
def dI2C (C : Int → Int → Prop) (f : Int → Int → V) : R2 := fun x y H Q => match x, y with
  | .int i, .int j => C i j ∧ Q (f i j) H
  | _, _ => False
def dSub : R2 := dI2 fun i j => .int (i - j)
def dMod : R2 := dI2C (fun _ j => 0 < j) fun i j => .int (i % j)
def dDiv : R2 := dI2C CDiv fun i j => .int (i / j)
def dPow : R2 := dI2C CPow fun i j => .int (i ^ j.toNat)
def dLt : R2 := dI2 fun i j => .bl (decide (i < j))
def dLe : R2 := dI2 fun i j => .bl (decide (i ≤ j))
def dGt : R2 := dI2 fun i j => .bl (decide (j < i))
def dGe : R2 := dI2 fun i j => .bl (decide (j ≤ i))
def dMul : R2 := fun x y H Q => match x, y with
  | .int i, .int j => CMul i j ∧ Q (.int (i * j)) H
  | .ref a, .int k => match H a with
    | some (.lst xs) => -(2 ^ 63) ≤ k ∧ k < 2 ^ 63 ∧ xs.length * k.toNat ≤ sizeLine ∧ ∀ p, H p = none → Q (.ref p) (upd H p (.lst (List.replicate k.toNat xs).flatten))
    | _ => False
  | _, _ => False
/-- scalars alone -/
def dEq : R2 := fun x y H Q => match x, y with
  | .int i, .int j => Q (.bl (decide (i = j))) H
  | .str i, .str j => Q (.bl (decide (i = j))) H
  | .bl i, .bl j => Q (.bl (decide (i = j))) H
  | .non, .non => Q (.bl true) H
  | _, _ => scal x y = true ∧ Q (.bl (decide (x = y))) H
def dNe : R2 := fun x y H Q => dEq x y H fun v H' => match v with
  | .bl b => Q (.bl (!b)) H'
  | _ => False
/-- data -/
def dEqD (K : PySem.W.Frag) : R2 := rEqD K
def dNeD (K : PySem.W.Frag) : R2 := rNeD K
def isNon : V → Bool
  | .non => true
  | _ => false
def dIs : R2 := fun x y H Q => match y with
  | .non => Q (.bl (isNon x)) H
  | _ => False
def dIsNot : R2 := fun x y H Q => match y with
  | .non => Q (.bl (!isNon x)) H
  | _ => False
def dNeg : V → Hp → VK → Prop := fun x H Q => match x with
  | .int i => Q (.int (-i)) H
  | _ => False
def dAbs : List V → Hp → VK → Prop := fun xs H Q => match xs with
  | [.int i] => Q (.int (if i < 0 then -i else i)) H
  | _ => False
def dMax2 : List V → Hp → VK → Prop := fun xs H Q => match xs with
  | [.int i, .int j] => Q (.int (if j > i then j else i)) H
  | _ => False
def dMin2 : List V → Hp → VK → Prop := fun xs H Q => match xs with
  | [.int i, .int j] => Q (.int (if j < i then j else i)) H
  | _ => False
def dInt : List V → Hp → VK → Prop := fun xs H Q => match xs with
  | [.int i] => Q (.int i) H
  | [.bl k] => Q (.int (if k then 1 else 0)) H
  | _ => False
def dLen : List V → Hp → VK → Prop := fun xs H Q => match xs with
  | [.ref p] => seqAt (H p) fun ys => Q (.int ys.length) H
  | [.str z] => z.length ≤ sizeLine ∧ Q (.int z.length) H
  | _ => False
/-- list(x) -/
def dListOf : List V → Hp → VK → Prop := fun xs H Q => match xs with
  | [.ref p] => seqAt (H p) fun ys => ∀ l, H l = none → Q (.ref l) (upd H l (.lst ys))
  | _ => False
def dTupleOf : List V → Hp → VK → Prop := fun xs H Q => match xs with
  | [.ref p] => match H p with
    | some (.lst ys) => ∀ l, H l = none → Q (.ref l) (upd H l (.tup ys))
    | some (.tup _) => Q (.ref p) H
    | _ => False
  | _ => False
/-- an item by its place -/
def atK (xs : List V) (i : Int) (k : V → Prop) : Prop := match atI xs i with
  | some v => k v
  | none => False
def dIx : R2 := fun x y H Q => match x, y with
  | .ref p, .int i => seqAt (H p) fun xs => atK xs i fun v => Q v H
  | _, _ => False
def dFld (C : Addr) (ta : TE) (f : Str) : TE := fun σ H Q => ta σ H fun x H1 => match x with
  | .ref a => match H1 a with
    | some (.ins C' _ fs) => C' = C ∧ match fs.lookup f with
      | some v => Q v H1
      | none => False
    | _ => False
  | _ => False
def dSFld (C : Addr) (ta tv : TE) (f : Str) : TS := fun D σ H => tv σ H fun y H1 => ta σ H1 fun x H2 => match x with
  | .ref a => match H2 a with
    | some (.ins C' dx fs) => C' = C ∧ fs.length < 1000 ∧ D.nx σ (upd H2 a (.ins C dx (putF f y fs)))
    | _ => False
  | _ => False
/-- o.f op= e, ints: op by g -/
def dSAug (C : Addr) (ta tv : TE) (g : Int → Int → Int) (f : Str) : TS := fun D σ H => ta σ H fun x H1 => match x with
  | .ref a => match H1 a with
    | some (.ins C' _ fs) => C' = C ∧ match fs.lookup f with
      | some (.int i) => tv σ H1 fun y H2 => match y with
        | .int j => match H2 a with
          | some (.ins C2 dx fs2) => C2 = C ∧ fs2.length < 1000 ∧ D.nx σ (upd H2 a (.ins C dx (putF f (.int (g i j)) fs2)))
          | _ => False
        | _ => False
      | _ => False
    | _ => False
  | _ => False
def dAug (i : Nat) (te : TE) (g : Int → Int → Int) : TS := fun D σ H => match σ[i]? with
  | some (some (.int x)) => te σ H fun y H1 => match y with
    | .int j => D.nx (σ.set i (some (.int (g x j)))) H1
    | _ => False
  | _ => False
def dTest (t : TE) : TT := fun σ H Q => t σ H fun x H' => match x with
  | .bl k => Q k H'
  | _ => False
/-- truth of what is a bool, an int, none, a list, a tuple -/
def dTru (ta : TE) : TT := fun σ H Q => ta σ H fun x H' => match x with
  | .bl k => Q k H'
  | .non => Q false H'
  | .int i => Q (i != 0) H'
  | .ref p => seqAt (H' p) fun xs => Q (!xs.isEmpty) H'
  | _ => False
def dAndV (ta tb : TE) : TE := fun σ H Q => ta σ H fun x H1 => match x with
  | .bl c => if c = true then tb σ H1 Q else Q (.bl false) H1
  | _ => False
def dOrV (ta tb : TE) : TE := fun σ H Q => ta σ H fun x H1 => match x with
  | .bl c => if c = true then Q (.bl true) H1 else tb σ H1 Q
  | _ => False
def dNotV (ta : TE) : TE := fun σ H Q => ta σ H fun x H1 => match x with
  | .bl c => Q (.bl (!c)) H1
  | _ => False
def dChain (r r' : R2) (ta tb tc : TE) : TE := fun σ H Q => ta σ H fun x H1 => tb σ H1 fun y H2 => r x y H2 fun z H3 => match z with
  | .bl k => if k = true then tc σ H3 fun w' H4 => r' y w' H4 Q else Q (.bl false) H3
  | _ => False
/-- methods of lists -/
def dAppend : V → List V → Hp → VK → Prop := fun x vs H Q => match x, vs with
  | .ref l, [y] => match H l with
    | some (.lst xs) => xs.length < sizeLine ∧ Q .non (upd H l (.lst (xs ++ [y])))
    | _ => False
  | _, _ => False
def dPop : V → List V → Hp → VK → Prop := fun x vs H Q => match x, vs with
  | .ref l, [] => match H l with
    | some (.lst xs) => match xs.getLast? with
      | some y => Q y (upd H l (.lst xs.dropLast))
      | none => False
    | _ => False
  | _, _ => False
/-- pop(i), 0 ≤ i -/
def dPopAt : V → List V → Hp → VK → Prop := fun x vs H Q => match x, vs with
  | .ref l, [.int i] => match H l with
    | some (.lst xs) => 0 ≤ i ∧ i < 2 ^ 63 ∧ match xs[i.toNat]? with
      | some y => Q y (upd H l (.lst (xs.eraseIdx i.toNat)))
      | none => False
    | _ => False
  | _, _ => False
def dInsert : V → List V → Hp → VK → Prop := fun x vs H Q => match x, vs with
  | .ref l, [.int i, y] => match H l with
    | some (.lst xs) => xs.length < sizeLine ∧ 0 ≤ i ∧ i < 2 ^ 63 ∧ Q .non (upd H l (.lst (xs.take i.toNat ++ [y] ++ xs.drop i.toNat)))
    | _ => False
  | _, _ => False
/-- a method of a list (a tracked one) -/
def dBM (r : V → List V → Hp → VK → Prop) (to : TE) (t : TA) : TE := fun σ H Q => to σ H fun x H1 => match x with
  | .ref l => match H1 l with
    | some (.lst _) => t σ H1 fun xs H2 => r x xs H2 Q
    | _ => False
  | _ => False
def dMethE (C : Addr) (m : Str) (sp : Sp) (E : L2.St → XK) (ta : TE) (t : TA) : TE := fun σ H Q => ta σ H fun x H1 => match x with
  | .ref a => match H1 a with
    | some (.ins C' _ fs) => C' = C ∧ fs.lookup m = none ∧ t σ H1 fun vs H2 => sp (x :: vs) H2 Q (E σ)
    | _ => False
  | _ => False
def dPar (i j : Nat) (ta : TA) : TS := fun D σ H => ta σ H fun vs H1 => match vs with
  | [v, w] => D.nx ((σ.set i (some v)).set j (some w)) H1
  | _ => False
def dPar3 (i j l : Nat) (ta : TA) : TS := fun D σ H => ta σ H fun vs H1 => match vs with
  | [u, v, w] => D.nx (((σ.set i (some u)).set j (some v)).set l (some w)) H1
  | _ => False
/-- targets -/
def dgTup (n : Nat) (t : TGs) : TG := fun v σ H Q => match v with
  | .ref a => tupAt (H a) fun xs => xs.length = n ∧ t xs σ H Q
  | _ => False
def dgCons (t : TG) (u : TGs) : TGs := fun vs σ H Q => match vs with
  | v :: r => t v σ H fun σ' H' => u r σ' H' Q
  | [] => False
def dgNil : TGs := fun vs σ H Q => match vs with
  | [] => Q σ H
  | _ => False
section
variable {X : Cx}
theorem dv (i : Nat) {x : Str} {pos : Pos} (hN : X.N[i]? = some x := by rfl) (hv : Vis X.env.scope x := by first | exact Or.inl rfl | exact Or.inr (Or.inl rfl) | exact Or.inr (Or.inr rfl)) (hd : (x == ("__debug__" : Str)) = false := by decide)
    (hcd : (x == ("__classdict__" : Str)) = false := by decide) : PE X (.Name x pos) (dVar i) := peI (pe_var hN hv hd hcd) fun σ H Q h => by
  unfold dVar at h
  split at h
  · rename_i v e
    exact ⟨v, e, h⟩
  · exact h.elim
theorem i2 {f : Int → Int → V} {op : Value → Value → Sem Value} (h : OpR X op (rI0 f)) : OpR X op (dI2 f) := opM h fun x y H Q q => by
  unfold dI2 at q
  split at q
  · exact ⟨_, _, rfl, rfl, q⟩
  · exact q.elim
theorem i2C {C : Int → Int → Prop} {f : Int → Int → V} {op : Value → Value → Sem Value} (h : OpR X op (rI C f)) : OpR X op (dI2C C f) := opM h fun x y H Q q => by
  unfold dI2C at q
  split at q
  · exact ⟨_, _, rfl, rfl, q.1, q.2⟩
  · exact q.elim
theorem d_sub : OpR X (binaryOp .Sub) dSub := i2 op_sub
theorem d_mod : OpR X (binaryOp .Mod) dMod := i2C op_mod
theorem d_div : OpR X (binaryOp .FloorDiv) dDiv := i2C op_fdiv
theorem d_pow : OpR X (binaryOp .Pow) dPow := i2C op_pow
theorem d_lt : OpR X (compareOp .Lt) dLt := i2 op_lt
theorem d_le : OpR X (compareOp .LtE) dLe := i2 op_le
theorem d_gt : OpR X (compareOp .Gt) dGt := i2 op_gt
theorem d_ge : OpR X (compareOp .GtE) dGe := i2 op_ge
theorem d_add : OpR X (binaryOp .Add) dAdd := opM (u_add (X := X)) fun x y H Q q => by
  unfold dAdd at q
  split at q
  · exact .inl ⟨_, _, rfl, rfl, q⟩
  · exact .inr (.inl ⟨_, _, rfl, rfl, q.1, q.2⟩)
  · split at q
    · rename_i h1 h2
      exact .inr (.inr (.inl ⟨_, _, _, _, rfl, rfl, h1, h2, q.1, q.2⟩))
    · exact q.elim
  · exact q.elim
theorem d_mul : OpR X (binaryOp .Mult) dMul := opM (u_mul (X := X)) fun x y H Q q => by
  unfold dMul at q
  split at q
  · exact .inl ⟨_, _, rfl, rfl, q.1, q.2⟩
  · split at q
    · rename_i h1
      exact .inr ⟨_, _, _, rfl, rfl, h1, q.1, q.2.1, q.2.2.1, q.2.2.2⟩
    · exact q.elim
  · exact q.elim
theorem dEq_r {x y : V} {H : Hp} {Q : VK} (q : dEq x y H Q) : rEq x y H Q := by
  unfold dEq at q
  split at q
  · refine ⟨rfl, ?_⟩
    rename_i i j
    have e : decide (V.int i = V.int j) = decide (i = j) := by simp
    rw [e]; exact q
  · refine ⟨rfl, ?_⟩
    rename_i i j
    have e : decide (V.str i = V.str j) = decide (i = j) := by simp
    rw [e]; exact q
  · refine ⟨rfl, ?_⟩
    rename_i i j
    have e : decide (V.bl i = V.bl j) = decide (i = j) := by simp
    rw [e]; exact q
  · exact ⟨rfl, q⟩
  · exact q
theorem d_eq : OpR X (compareOp .Eq) dEq := opM (op_eq (X := X)) fun x y H Q q => dEq_r q
theorem d_ne : OpR X (compareOp .NotEq) dNe := opM (op_ne (X := X)) fun x y H Q q => by
  obtain ⟨h1, h2⟩ := dEq_r (show dEq x y H _ from q)
  exact ⟨h1, h2⟩
theorem d_eqD {k : Nat} (hr : Room k X.A) : OpR X (compareOp .Eq) (dEqD X.K) := op_eqD hr.units
theorem d_neD {k : Nat} (hr : Room k X.A) : OpR X (compareOp .NotEq) (dNeD X.K) := op_neD hr.units
theorem d_is : OpR X (compareOp .Is) dIs := opM (op_isN (X := X)) fun x y H Q q => by
  unfold dIs at q
  split at q
  · refine ⟨rfl, ?_⟩
    have e : decide (x = V.non) = isNon x := by cases x <;> simp [isNon]
    rw [e]; exact q
  · exact q.elim
theorem d_isnot : OpR X (compareOp .IsNot) dIsNot := opM (op_notN (X := X)) fun x y H Q q => by
  unfold dIsNot at q
  split at q
  · refine ⟨rfl, ?_⟩
    have e : (!decide (x = V.non)) = !isNon x := by cases x <;> simp [isNon]
    rw [e]; exact q
  · exact q.elim
theorem d_neg : UnR X (unaryOp .USub) dNeg := unM (un_neg (X := X)) fun x H Q q => by
  unfold dNeg at q
  split at q
  · exact ⟨_, rfl, q⟩
  · exact q.elim
theorem d_abs : CallR X (.builtin "abs") dAbs := caM (call_abs (X := X)) fun xs H Q q => by
  unfold dAbs at q
  split at q
  · exact ⟨_, rfl, q⟩
  · exact q.elim
theorem d_max2 (hc : X.calm = true) : CallR X (.builtin "max") dMax2 := caM (call_max2 hc) fun xs H Q q => by
  unfold dMax2 at q
  split at q
  · exact ⟨_, _, rfl, q⟩
  · exact q.elim
theorem d_min2 (hc : X.calm = true) : CallR X (.builtin "min") dMin2 := caM (call_min2 hc) fun xs H Q q => by
  unfold dMin2 at q
  split at q
  · exact ⟨_, _, rfl, q⟩
  · exact q.elim
theorem d_int : CallR X (.type "int") dInt := caM (call_int1 (X := X)) fun xs H Q q => by
  unfold dInt at q
  split at q
  · exact .inl ⟨_, rfl, q⟩
  · exact .inr ⟨_, rfl, q⟩
  · exact q.elim
theorem d_len : CallR X (.builtin "len") dLen := caM (call_len (X := X)) fun xs H Q q => by
  unfold dLen at q
  split at q
  · obtain ⟨ys, h, k⟩ := seqAt_sq (K := X.K) q
    refine ⟨_, _, rfl, ?_, k⟩
    unfold LenV
    exact h.elim (fun h => .inl ⟨ys, h, rfl⟩) (fun h => .inr ⟨ys, h, rfl⟩)
  · exact ⟨_, _, rfl, ⟨q.1, rfl⟩, q.2⟩
  · exact q.elim
theorem d_listOf : CallR X (.type "list") dListOf := caM (call_list_of (X := X)) fun xs H Q q => by
  unfold dListOf at q
  split at q
  · obtain ⟨ys, h, k⟩ := seqAt_sq (K := X.K) q
    exact ⟨_, ys, rfl, h, k⟩
  · exact q.elim
theorem d_tupleOf : CallR X (.type "tuple") dTupleOf := caM (call_tuple_of (X := X)) fun xs H Q q => by
  unfold dTupleOf at q
  split at q
  · split at q
    · rename_i e
      exact ⟨_, _, rfl, .inl ⟨.inl (.inl e), q⟩⟩
    · rename_i e
      exact ⟨_, _, rfl, .inr ⟨.inl (.inl e), q⟩⟩
    · exact q.elim
  · exact q.elim
theorem d_ix : IxR X dIx := ixM (ix_seq (X := X)) fun x y H Q q => by
  unfold dIx at q
  split at q
  · obtain ⟨ys, h, k⟩ := seqAt_sq (K := X.K) q
    unfold atK at k
    split at k
    · rename_i e
      exact h.elim (fun h => .inl ⟨_, ys, _, _, rfl, rfl, h, e, k⟩) (fun h => .inr (.inl ⟨_, ys, _, _, rfl, rfl, h, e, k⟩))
    · exact k.elim
  · exact q.elim
variable {C : Addr} {e o a b c value : Expr} {es : List Expr} {ta tb tc tv te : TE} {t : TA} {f m : Str} {pos pos' tpos apos : Pos}
theorem d_fld (hc : Cls X.K C) (hn : NoAttr X.K C f) (he : PE X e ta) (hb : attributeBase e f X.env (eval e X.env) = eval e X.env := by rfl) : PE X (.Attribute e f pos) (dFld C ta f) :=
  peI (pe_fld (peM he) hb) fun σ H Q q1 => ⟨_, q1, fun v H' q2 => by
  split at q2
  · split at q2
    · rename_i h
      obtain ⟨e1, q2⟩ := q2
      subst e1
      split at q2
      · rename_i l
        exact ⟨_, _, _, _, _, rfl, h, hc, hn, l, q2⟩
      · exact q2.elim
    · exact q2.elim
  · exact q2.elim⟩
theorem d_sfld (hc : Cls X.K C) (hn : NoAttr X.K C f) (ha : PE X o ta) (hv : PE X value tv) (hs : swapsWith value (some (.Attribute o f pos')) pos.line X.env = pure false := by rfl) : PS X (.Assign [.Attribute o f pos'] value pos) (dSFld C ta tv f) :=
  psI (ps_fld (peM ha) (peM hv) hs) fun D σ H q1 => ⟨_, q1, fun y H1 q2 => ⟨_, q2, fun x H2 q3 => by
  split at q3
  · split at q3
    · rename_i h
      obtain ⟨e1, l, q3⟩ := q3
      subst e1
      exact ⟨_, _, _, _, rfl, h, hc, hn, l, q3⟩
    · exact q3.elim
  · exact q3.elim⟩⟩
theorem in_g {op : Operator} {g : Int → Int → Int} (h : OpR X (inplaceOp op) (rI0 fun i j => .int (g i j))) : InOp X op (fun x y H Q => ∃ i j, x = .int i ∧ y = .int j ∧ Q (.int (g i j)) H) := fun pins s σ H x y u v Q I rx ry q => h pins s σ H x y u v Q I rx ry q
theorem d_saug {op : Operator} {g : Int → Int → Int} (hop : OpR X (inplaceOp op) (rI0 fun i j => .int (g i j))) (hc : Cls X.K C) (hn : NoAttr X.K C f) (ha : PE X o ta) (hv : PE X value tv) : PS X (.AugAssign (.Attribute o f tpos) op value pos) (dSAug C ta tv g f) :=
  psI (ps_fldaug (peM ha) (peM hv) (in_g hop)) fun D σ H q1 => ⟨_, q1, fun x H1 q2 => by
  split at q2
  · split at q2
    · rename_i h
      obtain ⟨e1, q3⟩ := q2
      subst e1
      split at q3
      · rename_i l
        refine ⟨_, _, _, _, _, rfl, h, hc, hn, l, _, q3, fun y H2 q4 => ?_⟩
        split at q4
        · split at q4
          · rename_i h2
            obtain ⟨e2, l2, q5⟩ := q4
            subst e2
            exact ⟨_, _, rfl, rfl, _, _, h2, l2, q5⟩
          · exact q4.elim
        · exact q4.elim
      · exact q3.elim
    · exact q2.elim
  · exact q2.elim⟩
theorem ip_g {op : Operator} {g : Int → Int → Int} (h : OpR X (inplaceOp op) (rI0 fun i j => .int (g i j))) : PIp X op (ipI g) := fun pins s σ H x y v u Q I r1 r2 q => h pins s σ H x y v u Q I r1 r2 q
theorem d_aug {i : Nat} {x : Str} {op : Operator} {g : Int → Int → Int} {pos' : Pos} (hop : OpR X (inplaceOp op) (rI0 fun i j => .int (g i j))) (hN : X.N.Nodup) (hi : X.N[i]? = some x) (hx : Loc X.env.scope x) (he : PE X e te) (hf : X.fn x = true ∨ X.env.scope.names.lookup x = some .local := by first | exact .inl rfl | exact .inr rfl | assumption) :
    PS X (.AugAssign (.Name x pos') op e pos) (dAug i te g) := psI (ps_aug hN hi hx (peM he) (ip_g hop) hf) fun D σ H q1 => by
  unfold dAug at q1
  split at q1
  · rename_i x h
    refine ⟨_, h, _, q1, fun y H1 q2 => ?_⟩
    split at q2
    · exact ⟨_, _, rfl, rfl, q2⟩
    · exact q2.elim
  · exact q1.elim
theorem opMono {f : Value → Value → Sem Value} {r : R2} (ho : OpR X f r) : OpR X f (fun x y H Q => ∃ P : VK, r x y H P ∧ ∀ v H', P v H' → Q v H') := fun pins s σ H x y v u Q I rx ry q => by
  obtain ⟨P, q, i⟩ := q
  refine thn (ho pins s σ H x y v u P I rx ry q) fun w s1 hh => ?_
  obtain ⟨x1, H1, I1, r1, q1⟩ := hh
  exact ⟨x1, H1, I1, r1, i _ _ q1⟩
theorem dt_cmp {op : CmpOp} {r : R2} (ho : OpR X (compareOp op) r) (ha : PE X a ta) (hb : PE X b tb) (hm : behindInMarks op b = false) : PT X (.Compare a [op] [b] pos) (dTest (tOp r ta tb)) :=
  ptI (pt_cmpR (opMono ho) (peM ha) (peM hb) hm) fun σ H Q q1 => ⟨_, q1, fun x H1 q2 => ⟨_, q2, fun y H2 q3 => ⟨_, q3, fun v H' q4 => by
    split at q4
    · exact ⟨_, rfl, q4⟩
    · exact q4.elim⟩⟩⟩
theorem dt_tru (ha : PE X a ta) (he : ∀ whole, isTrue a X.env whole = (do let v ← whole; standAt a.pos; holding [v] (truthy v)) := by intro _; rfl) : PT X a (dTru ta) :=
  ptI (pt_truth (peM ha) he) fun σ H Q q1 => ⟨_, q1, fun v H' q2 => by
    split at q2
    · exact ⟨_, rfl, q2⟩
    · exact ⟨_, rfl, q2⟩
    · exact ⟨_, rfl, q2⟩
    · obtain ⟨xs, h, k⟩ := seqAt_sq (K := X.K) q2
      exact ⟨_, h.elim (fun h => .inl ⟨xs, h, rfl⟩) (fun h => .inr (.inl ⟨xs, h, rfl⟩)), k⟩
    · exact q2.elim⟩
theorem d_and {rest : List Expr} (ha : PE X a ta) (hb : PE X (.BoolOp .And (b :: rest) pos) tb) : PE X (.BoolOp .And (a :: b :: rest) pos) (dAndV ta tb) :=
  peI (pe_and (peM ha) hb) fun σ H Q q1 => ⟨_, q1, fun v H' q2 => by
    split at q2
    · exact ⟨_, rfl, q2⟩
    · exact q2.elim⟩
theorem d_or {rest : List Expr} (ha : PE X a ta) (hb : PE X (.BoolOp .Or (b :: rest) pos) tb) : PE X (.BoolOp .Or (a :: b :: rest) pos) (dOrV ta tb) :=
  peI (pe_or (peM ha) hb) fun σ H Q q1 => ⟨_, q1, fun v H' q2 => by
    split at q2
    · exact ⟨_, rfl, q2⟩
    · exact q2.elim⟩
theorem d_not (ha : PE X a ta) : PE X (.UnaryOp .Not a pos) (dNotV ta) :=
  peI (pe_not (peM ha)) fun σ H Q q1 => ⟨_, q1, fun v H' q2 => by
    split at q2
    · exact ⟨_, rfl, q2⟩
    · exact q2.elim⟩
theorem d_chain {op op' : CmpOp} {r r' : R2} (ho : OpR X (compareOp op) r) (ho' : OpR X (compareOp op') r') (ha : PE X a ta) (hb : PE X b tb) (hc : PE X c tc)
    (hm : lastMarks [op, op'] [b, c] = false := by with_unfolding_all rfl) : PE X (.Compare a [op, op'] [b, c] pos) (dChain r r' ta tb tc) :=
  peI (pe_chain (opMono ho) ho' (peM ha) (peM hb) hc hm) fun σ H Q q1 => ⟨_, q1, fun x H1 q2 => ⟨_, q2, fun y H2 q3 => ⟨_, q3, fun z H3 q4 => by
    split at q4
    · exact ⟨_, rfl, q4⟩
    · exact q4.elim⟩⟩⟩
theorem dt_chain {op op' : CmpOp} {r r' : R2} (ho : OpR X (compareOp op) r) (ho' : OpR X (compareOp op') r') (ha : PE X a ta) (hb : PE X b tb) (hc : PE X c tc)
    (hm : lastMarks [op, op'] [b, c] = false := by with_unfolding_all rfl) : PT X (.Compare a [op, op'] [b, c] pos) (dTest (dChain r r' ta tb tc)) :=
  ptI (pt_chain (opMono ho) (opMono ho') (peM ha) (peM hb) (peM hc) hm) fun σ H Q q1 => ⟨_, q1, fun x H1 q2 => ⟨_, q2, fun y H2 q3 => ⟨_, q3, fun z H3 q4 => by
    split at q4
    · rename_i k
      refine ⟨_, rfl, ?_⟩
      cases k with
      | true =>
        rw [if_pos rfl] at q4 ⊢
        refine ⟨_, q4, fun w H4 q5 => ⟨_, q5, fun v H5 q6 => ?_⟩⟩
        split at q6
        · exact ⟨_, rfl, q6⟩
        · exact q6.elim
      | false => exact ⟨_, rfl, q4⟩
    · exact q4.elim⟩⟩⟩
theorem m_append : MtR X "list.append" dAppend := mtM (mt_append (X := X)) fun x xs H Q q => by
  unfold dAppend at q
  split at q
  · split at q
    · rename_i h
      exact ⟨_, _, _, rfl, rfl, h, q.1, q.2⟩
    · exact q.elim
  · exact q.elim
theorem m_pop : MtR X "list.pop" dPop := mtM (mt_pop (X := X)) fun x xs H Q q => by
  unfold dPop at q
  split at q
  · split at q
    · rename_i h
      split at q
      · rename_i e
        exact ⟨_, _, _, rfl, rfl, h, by rw [← List.getLast?_eq_getElem?]; exact e, q⟩
      · exact q.elim
    · exact q.elim
  · exact q.elim
theorem m_popAt : MtR X "list.pop" dPopAt := mtM (mt_popAt (X := X)) fun x xs H Q q => by
  unfold dPopAt at q
  split at q
  · split at q
    · rename_i h
      obtain ⟨h0, h1, q⟩ := q
      split at q
      · rename_i i _ ys _ y e
        have hl := (List.getElem?_eq_some_iff.mp e).1
        exact ⟨_, _, _, i.toNat, _, rfl, rfl, h, by omega, h1, (ixN_seq (n := ys.length) (i := i) (j := i.toNat) (by unfold ixN; rw [if_pos h0, if_pos (by omega)])).1, e, q⟩
      · exact q.elim
    · exact q.elim
  · exact q.elim
theorem m_insert : MtR X "list.insert" dInsert := mtM (mt_insert (X := X)) fun x xs H Q q => by
  unfold dInsert at q
  split at q
  · split at q
    · rename_i h
      exact ⟨_, _, _, _, rfl, rfl, h, q⟩
    · exact q.elim
  · exact q.elim
theorem d_bm {name id : String} {r : V → List V → Hp → VK → Prop} {cpos : Pos} (pa : PlainAttrs "list") (slot : Slot "list" name id) (hty : typeOf (.builtin id) = pure (.type "method_descriptor")) (hm : MtR X id r) (ho : PE X o ta) (ha : PA X (e :: es) t)
    (hbase : attributeBase o name X.env (eval o X.env) = eval o X.env := by rfl)
    (hfew : ((backTo cpos (starEach (e :: es) X.env)).all (fun x => !x.1) && (backToKw cpos (keywordEach [] X.env)).all (fun x => x.1.isSome)
      && decide ((e :: es).length + ([] : List Keyword).length + (if ([] : List Keyword).isEmpty then 0 else 1) < 30)) = true := by rfl)
    (hline : (apos.endLine == cpos.line) = true := by rfl) (hs : starEach (e :: es) X.env = (false, eval e X.env) :: starEach es X.env := by rfl) (hplain : (backTo cpos (starEach es X.env)).any (·.1) = false := by rfl) : PE X (.Call (.Attribute o name apos) (e :: es) [] cpos) (dBM r ta t) :=
  peI (pe_bm pa slot hty hm (peM ho) ha hbase hfew hline hs hplain) fun σ H Q q1 => ⟨_, q1, fun v H' q2 => by
    split at q2
    · split at q2
      · rename_i h
        exact ⟨Or.inl ⟨rfl, _, SqL.of h⟩, q2⟩
      · exact q2.elim
    · exact q2.elim⟩
end
section
variable {X : Cx} {C : Addr} {e o a b c value : Expr} {es : List Expr} {ta tb tc tv te : TE} {t : TA} {f m : Str} {pos pos' tpos apos : Pos}
def dBM0 (r : V → List V → Hp → VK → Prop) (to : TE) : TE := fun σ H Q => to σ H fun x H1 => match x with
  | .ref l => match H1 l with
    | some (.lst _) => r x [] H1 Q
    | _ => False
  | _ => False
theorem d_bm0 {name id : String} {r : V → List V → Hp → VK → Prop} {cpos : Pos} (pa : PlainAttrs "list") (slot : Slot "list" name id) (hty : typeOf (.builtin id) = pure (.type "method_descriptor")) (hm : MtR X id r) (ho : PE X o ta)
    (hbase : attributeBase o name X.env (eval o X.env) = eval o X.env := by rfl) (hline : (apos.endLine == cpos.line) = true := by rfl) : PE X (.Call (.Attribute o name apos) [] [] cpos) (dBM0 r ta) :=
  peI (pe_bm0 pa slot hty hm (peM ho) hbase hline) fun σ H Q q1 => ⟨_, q1, fun v H' q2 => by
    split at q2
    · split at q2
      · rename_i h
        exact ⟨Or.inl ⟨rfl, _, SqL.of h⟩, q2⟩
      · exact q2.elim
    · exact q2.elim⟩
variable {CX : CXT} {k : Nat} {fa : Addr} {fd : FuncData} {ps : List Str} {sp : Sp} {E : L2.St → XK}
theorem d_meth {pl : Sem Bool} (he : PE X o ta) (c : Cls X.K C) (hm : Meth X.K C m fa) (F : FnOk X.prog X.w X.K X.mg X.base CX k fa fd ps sp) (hr : Room k X.A) (hb : Binds X.K fd ps []) (hx : ∀ σ, PassesAt CX X σ (E σ)) (ha : PA X (e :: es) t)
    (hst : starEach (e :: es) X.env = (false, eval e X.env) :: starEach es X.env := by rfl) (hpl : (backTo pos (starEach es X.env)).any (·.1) = false := by rfl)
    (ht : eval (.Call (.Attribute o m apos) (e :: es) [] pos) X.env = (do
      let ov ← eval o X.env
      standAt apos.atName
      let (f, first) ← holding [ov] (getMethod ov m pl)
      callWith pos f first (backTo pos (starEach (e :: es) X.env)) (backToKw pos (keywordEach [] X.env))) := by rfl) :
    PE X (.Call (.Attribute o m apos) (e :: es) [] pos) (dMethE C m sp E ta t) :=
  peI (c_meth (pl := pl) (peM he) c hm F hr hb hx ha hst hpl ht) fun σ H Q q1 => ⟨_, q1, fun v H' q2 => by
    split at q2
    · split at q2
      · rename_i h
        obtain ⟨e1, l, q3⟩ := q2
        subst e1
        exact ⟨_, _, _, rfl, h, l, q3⟩
      · exact q2.elim
    · exact q2.elim⟩
theorem d_meth0 {pl : Sem Bool} (he : PE X o ta) (c : Cls X.K C) (hm : Meth X.K C m fa) (F : FnOk X.prog X.w X.K X.mg X.base CX k fa fd ps sp) (hr : Room k X.A) (hb : Binds X.K fd ps []) (hx : ∀ σ, PassesAt CX X σ (E σ))
    (ht : eval (.Call (.Attribute o m apos) [] [] pos) X.env = (do
      let ov ← eval o X.env
      standAt apos.atName
      let (f, first) ← holding [ov] (getMethod ov m pl)
      callWith pos f first (backTo pos (starEach [] X.env)) (backToKw pos (keywordEach [] X.env))) := by rfl) :
    PE X (.Call (.Attribute o m apos) [] [] pos) (dMethE C m sp E ta tNil) :=
  peI (c_meth0 (pl := pl) (peM he) c hm F hr hb hx ht) fun σ H Q q1 => ⟨_, q1, fun v H' q2 => by
    split at q2
    · split at q2
      · rename_i h
        obtain ⟨e1, l, q3⟩ := q2
        subst e1
        exact ⟨_, _, _, rfl, h, l, q3⟩
      · exact q2.elim
    · exact q2.elim⟩
theorem d_par {i j : Nat} {x y : Str} {px py pt : Pos} {kt k2 pt2} (hc : X.calm = true) (hN : X.N.Nodup) (hi : X.N[i]? = some x) (hj : X.N[j]? = some y) (hij : i ≠ j)
    (hx : X.env.scope.names.lookup x = some .local) (hy : X.env.scope.names.lookup y = some .local) (ha : PA X [a, b] t)
    (hw : swappedStores [.Tuple [.Name x px, .Name y py] kt pt] (.Tuple [a, b] k2 pt2) X.env = pure (some [x, y]))
    (hs : swapsWithSole [.Tuple [.Name x px, .Name y py] kt pt] (.Tuple [a, b] k2 pt2) pos.line X.env = pure false := by rfl) :
    PS X (.Assign [.Tuple [.Name x px, .Name y py] kt pt] (.Tuple [a, b] k2 pt2) pos) (dPar i j t) :=
  psI (ps_par hc hN hi hj hij hx hy (paM ha) hw hs) fun D σ H q1 => ⟨_, q1, fun v H' q2 => by
    split at q2
    · exact ⟨_, _, rfl, q2⟩
    · exact q2.elim⟩
theorem d_par3 {i j l : Nat} {x y z : Str} {px py pz pt : Pos} {kt k2 pt2} (hc : X.calm = true) (hN : X.N.Nodup) (hi : X.N[i]? = some x) (hj : X.N[j]? = some y) (hl : X.N[l]? = some z) (hij : i ≠ j) (hil : i ≠ l) (hjl : j ≠ l)
    (hx : X.env.scope.names.lookup x = some .local) (hy : X.env.scope.names.lookup y = some .local) (hz : X.env.scope.names.lookup z = some .local) (ha : PA X [a, b, c] t)
    (hw : swappedStores [.Tuple [.Name x px, .Name y py, .Name z pz] kt pt] (.Tuple [a, b, c] k2 pt2) X.env = pure (some [x, y, z]))
    (hs : swapsWithSole [.Tuple [.Name x px, .Name y py, .Name z pz] kt pt] (.Tuple [a, b, c] k2 pt2) pos.line X.env = pure false := by rfl) :
    PS X (.Assign [.Tuple [.Name x px, .Name y py, .Name z pz] kt pt] (.Tuple [a, b, c] k2 pt2) pos) (dPar3 i j l t) :=
  psI (ps_par3 hc hN hi hj hl hij hil hjl hx hy hz (paM ha) hw hs) fun D σ H q1 => ⟨_, q1, fun v H' q2 => by
    split at q2
    · exact ⟨_, _, _, rfl, q2⟩
    · exact q2.elim⟩
theorem dg_nil : PGs X [] dgNil := pgsI pgs_nil fun vs σ H Q q1 => by
  unfold dgNil at q1
  split at q1
  · exact ⟨rfl, q1⟩
  · exact q1.elim
theorem dg_cons {ge : Expr} {ges : List Expr} {gt : TG} {gu : TGs} (h1 : PG X ge gt) (h2 : PGs X ges gu)
    (hs : (assignEach (ge :: ges) X.env).map (·.2) = assign ge X.env :: (assignEach ges X.env).map (·.2) := by rfl) : PGs X (ge :: ges) (dgCons gt gu) := pgsI (pgs_cons h1 h2 hs) fun vs σ H Q q1 => by
  unfold dgCons at q1
  split at q1
  · exact ⟨_, _, rfl, q1⟩
  · exact q1.elim
theorem dg_tup {ges : List Expr} {kk : Nat} {gt : TGs} {n : Nat} (hc : X.calm = true) (h : PGs X ges gt)
    (hn : (assignEach ges X.env).length = n := by rfl) (hst : (assignEach ges X.env).findIdx? (·.1) = none := by rfl) : PG X (.Tuple ges kk pos) (dgTup n gt) := pgI (pg_tup hc h hn hst) fun v σ H Q q1 => by
  unfold dgTup at q1
  split at q1
  · obtain ⟨xs, h1, h2, h3⟩ := tupAt_sq (K := X.K) q1
    exact ⟨_, xs, rfl, h1, h2, h3⟩
  · exact q1.elim
end
/-! ### loops -/
/-- what a for asks of what it walks -/
def ForJ (J : It) (g : TG) (tb : TS) : TS := fun D σ H => ∃ W : Nat → Nat → L2.St → Hp → Prop, (∃ m, W 0 m σ H) ∧ ∀ i m σ H, W i m σ H →
  (J.stop i H ∧ D.nx σ H) ∨ (J.go i H ∧ ∃ N : L2.St → Hp → Prop, (∀ σ' H', N σ' H' → ∃ m', m' < m ∧ W (i + 1) m' σ' H') ∧ ∀ x H', J.yld i H x H' → g x σ H' fun σ2 H2 => tb { D with nx := N, ct := N, bk := D.nx } σ2 H2)
def ForL (K : PySem.W.Frag) (a : Addr) (g : TG) (tb : TS) : TS := fun D σ H => (∃ xs, SqL K H a xs) ∧ ForJ (Itl K a) g tb D σ H
def ForT (K : PySem.W.Frag) (a : Addr) (g : TG) (tb : TS) : TS := fun D σ H => (∃ xs, SqT K H a xs) ∧ ForJ (Itt K a) g tb D σ H
def ForR (lo : Int) (n : Nat) (g : TG) (tb : TS) : TS := fun D σ H => ForJ (Itr lo n) g tb D σ H
def dForL (K : PySem.W.Frag) (tl : TE) (g : TG) (tb : TS) : TS := fun D σ H => tl σ H fun x H1 => match x with
  | .ref a => ForL K a g tb D σ H1
  | _ => False
def dForT (K : PySem.W.Frag) (tl : TE) (g : TG) (tb : TS) : TS := fun D σ H => tl σ H fun x H1 => match x with
  | .ref a => ForT K a g tb D σ H1
  | _ => False
def dForR1 (ta : TA) (g : TG) (tb : TS) : TS := fun D σ H => ta σ H fun vs H1 => match vs with
  | [.int j] => (-(2 ^ 62) ≤ j ∧ j < 2 ^ 62) ∧ ForR 0 j.toNat g tb D σ H1
  | _ => False
def dForR2 (ta : TA) (g : TG) (tb : TS) : TS := fun D σ H => ta σ H fun vs H1 => match vs with
  | [.int i, .int j] => (-(2 ^ 62) ≤ i ∧ i < 2 ^ 62 ∧ -(2 ^ 62) ≤ j ∧ j < 2 ^ 62) ∧ ForR i (j - i).toNat g tb D σ H1
  | _ => False
/-- what a comprehension asks -/
def LcJ (J : It) (g : TG) (tt : TT) (te : TE) (vs : List Nat) : L2.St → Hp → VK → Prop := fun σ H1 Q => ∀ D, H1 D = none → ∃ W : Nat → Nat → Hp → Prop, (∃ m, W 0 m (upd H1 D (.lst []))) ∧ ∀ i m H, W i m H →
  (J.stop i H ∧ Q (.ref D) H) ∨ (J.go i H ∧ ∃ Nx : Hp → Prop, (∀ H', Nx H' → ∃ m', m' < m ∧ W (i + 1) m' H') ∧ ∀ x H', J.yld i H x H' → g x (wipe σ vs) H' fun σ2 H2 => wipe σ2 vs = wipe σ vs ∧ tt σ2 H2 fun b H3 =>
    if b = true then te σ2 H3 fun y H4 => ∃ acc, H4 D = some (.lst acc) ∧ acc.length < sizeLine ∧ Nx (upd H4 D (.lst (acc ++ [y]))) else Nx H3)
def LcL (K : PySem.W.Frag) (a : Addr) (g : TG) (tt : TT) (te : TE) (vs : List Nat) : L2.St → Hp → VK → Prop := fun σ H Q => (∃ xs, SqL K H a xs) ∧ LcJ (Itl K a) g tt te vs σ H Q
def LcT (K : PySem.W.Frag) (a : Addr) (g : TG) (tt : TT) (te : TE) (vs : List Nat) : L2.St → Hp → VK → Prop := fun σ H Q => (∃ xs, SqT K H a xs) ∧ LcJ (Itt K a) g tt te vs σ H Q
def dLcL (K : PySem.W.Frag) (tl : TE) (g : TG) (tt : TT) (te : TE) (vs : List Nat) : TE := fun σ H Q => tl σ H fun x H1 => match x with
  | .ref a => LcL K a g tt te vs σ H1 Q
  | _ => False
def dLcT (K : PySem.W.Frag) (tl : TE) (g : TG) (tt : TT) (te : TE) (vs : List Nat) : TE := fun σ H Q => tl σ H fun x H1 => match x with
  | .ref a => LcT K a g tt te vs σ H1 Q
  | _ => False
def dLcR1 (ta : TA) (g : TG) (tt : TT) (te : TE) (vs : List Nat) : TE := fun σ H Q => ta σ H fun us H1 => match us with
  | [.int j] => (-(2 ^ 62) ≤ j ∧ j < 2 ^ 62) ∧ LcJ (Itr 0 j.toNat) g tt te vs σ H1 Q
  | _ => False
def dLcR2 (ta : TA) (g : TG) (tt : TT) (te : TE) (vs : List Nat) : TE := fun σ H Q => ta σ H fun us H1 => match us with
  | [.int i, .int j] => (-(2 ^ 62) ≤ i ∧ i < 2 ^ 62 ∧ -(2 ^ 62) ≤ j ∧ j < 2 ^ 62) ∧ LcJ (Itr i (j - i).toNat) g tt te vs σ H1 Q
  | _ => False
section
variable {X : Cx} {e a b target : Expr} {body : List Stmt} {tl : TE} {ta : TA} {g : TG} {tb : TS} {pos p p2 : Pos}
theorem d_forL (hp : PassesOwn (model X.prog X.w) X.A X.env X.xe) (hc : X.calm = true) (hl : PE X e tl) (hg : PG X target g) (hb : PSs X body tb)
    (hs : ∀ x, foldedSetIterable e X.env x = pure x := by intro _; rfl) : PS X (.For target e body [] pos) (dForL X.K tl g tb) :=
  psI (ps_for hp hc (pi_list (peM hl)) hg hb hs) fun D σ H q1 => ⟨_, q1, fun v H' q2 => by
    split at q2
    · exact ⟨_, rfl, q2.1, q2.2⟩
    · exact q2.elim⟩
theorem d_forT (hp : PassesOwn (model X.prog X.w) X.A X.env X.xe) (hc : X.calm = true) (hl : PE X e tl) (hg : PG X target g) (hb : PSs X body tb)
    (hs : ∀ x, foldedSetIterable e X.env x = pure x := by intro _; rfl) : PS X (.For target e body [] pos) (dForT X.K tl g tb) :=
  psI (ps_for hp hc (pi_tup (peM hl)) hg hb hs) fun D σ H q1 => ⟨_, q1, fun v H' q2 => by
    split at q2
    · exact ⟨_, rfl, q2.1, q2.2⟩
    · exact q2.elim⟩
theorem d_forR1 (hp : PassesOwn (model X.prog X.w) X.A X.env X.xe) (hc : X.calm = true) (hm : X.mg "range" = none) (ha : PA X [a] ta) (hg : PG X target g) (hb : PSs X body tb) (hgl : Gl X "range" := by rfl)
    (hs : ∀ x, foldedSetIterable (.Call (.Name "range" p) [a] [] p2) X.env x = pure x := by intro _; rfl) (hst : starEach [a] X.env = [(false, eval a X.env)] := by rfl) : PS X (.For target (.Call (.Name "range" p) [a] [] p2) body [] pos) (dForR1 ta g tb) :=
  psI (ps_for hp hc (pi_range1 hgl hm (paM ha) hst) hg hb hs) fun D σ H q1 => ⟨_, q1, fun vs H1 q2 => by
    split at q2
    · exact ⟨_, rfl, q2.1.1, q2.1.2, q2.2⟩
    · exact q2.elim⟩
theorem d_forR2 (hp : PassesOwn (model X.prog X.w) X.A X.env X.xe) (hc : X.calm = true) (hm : X.mg "range" = none) (ha : PA X [a, b] ta) (hg : PG X target g) (hb : PSs X body tb) (hgl : Gl X "range" := by rfl)
    (hs : ∀ x, foldedSetIterable (.Call (.Name "range" p) [a, b] [] p2) X.env x = pure x := by intro _; rfl) (hst : starEach [a, b] X.env = [(false, eval a X.env), (false, eval b X.env)] := by rfl) (hst2 : starEach [b] X.env = [(false, eval b X.env)] := by rfl) : PS X (.For target (.Call (.Name "range" p) [a, b] [] p2) body [] pos) (dForR2 ta g tb) :=
  psI (ps_for hp hc (pi_range2 hgl hm (paM ha) hst hst2) hg hb hs) fun D σ H q1 => ⟨_, q1, fun vs H1 q2 => by
    split at q2
    · exact ⟨_, _, rfl, q2.1, q2.2⟩
    · exact q2.elim⟩
end
section
variable {X : Cx} {e a b elt tg : Expr} {ifs : List Expr} {scope : Scope} {own : List (Str × Nat)} {tl te : TE} {ta : TA} {g : TG} {tt : TT} {pos p p2 : Pos}
abbrev BG (X : Cx) (scope : Scope) (tg : Expr) (g : TG) : Prop := ∀ (s : Shared) (H : Hp) (C : Addr) (cl : List (Str × Addr)) (fp : List Addr), PG (X.blk s H scope (compEnvC scope cl C X.env) fp) tg g
abbrev BT (X : Cx) (scope : Scope) (ifs : List Expr) (t : TT) : Prop := ∀ (s : Shared) (H : Hp) (C : Addr) (cl : List (Str × Addr)) (fp : List Addr), PTs (X.blk s H scope (compEnvC scope cl C X.env) fp) ifs t
abbrev BE (X : Cx) (scope : Scope) (e : Expr) (t : TE) : Prop := ∀ (s : Shared) (H : Hp) (C : Addr) (cl : List (Str × Addr)) (fp : List Addr), PE (X.blk s H scope (compEnvC scope cl C X.env) fp) e t
theorem lc_l {tl : TE} {σ : L2.St} {H : Hp} {Q : VK} {K : PySem.W.Frag} {vs : List Nat} (q1 : dLcL K tl g tt te vs σ H Q) : tLc (iList K (mE tl)) g tt te vs σ H Q := ⟨_, q1, fun v H' q2 => by
  split at q2
  · exact ⟨_, rfl, q2.1, q2.2⟩
  · exact q2.elim⟩
theorem lc_t {tl : TE} {σ : L2.St} {H : Hp} {Q : VK} {K : PySem.W.Frag} {vs : List Nat} (q1 : dLcT K tl g tt te vs σ H Q) : tLc (iTup K (mE tl)) g tt te vs σ H Q := ⟨_, q1, fun v H' q2 => by
  split at q2
  · exact ⟨_, rfl, q2.1, q2.2⟩
  · exact q2.elim⟩
theorem lc_r1 {σ : L2.St} {H : Hp} {Q : VK} {vs : List Nat} (q1 : dLcR1 ta g tt te vs σ H Q) : tLc (iRng1 (mA ta)) g tt te vs σ H Q := ⟨_, q1, fun v H' q2 => by
  split at q2
  · exact ⟨_, rfl, q2.1.1, q2.1.2, q2.2⟩
  · exact q2.elim⟩
theorem lc_r2 {σ : L2.St} {H : Hp} {Q : VK} {vs : List Nat} (q1 : dLcR2 ta g tt te vs σ H Q) : tLc (iRng2 (mA ta)) g tt te vs σ H Q := ⟨_, q1, fun v H' q2 => by
  split at q2
  · exact ⟨_, _, rfl, q2.1, q2.2⟩
  · exact q2.elim⟩
theorem d_lcL (hc : X.calm = true) (hN : X.N.Nodup) (hl : PE X e tl) (ok : BlkOk X.N X.env.scope scope own) (hg : BG X scope tg g) (ht : BT X scope ifs tt) (he : BE X scope elt te) (hs : ∀ x, foldedSetIterable e X.env x = pure x := by intro _; rfl) :
    PE X (.ListComp elt [⟨tg, e, ifs, 0⟩] scope pos) (dLcL X.K tl g tt te (own.map (·.2))) := peI (pe_lc hc hN (pi_list (peM hl)) ok hg ht he hs) fun _ _ _ q => lc_l q
theorem d_lcT (hc : X.calm = true) (hN : X.N.Nodup) (hl : PE X e tl) (ok : BlkOk X.N X.env.scope scope own) (hg : BG X scope tg g) (ht : BT X scope ifs tt) (he : BE X scope elt te) (hs : ∀ x, foldedSetIterable e X.env x = pure x := by intro _; rfl) :
    PE X (.ListComp elt [⟨tg, e, ifs, 0⟩] scope pos) (dLcT X.K tl g tt te (own.map (·.2))) := peI (pe_lc hc hN (pi_tup (peM hl)) ok hg ht he hs) fun _ _ _ q => lc_t q
theorem d_lcH (hot : L2H.HotC X) (hN : X.N.Nodup) (hl : PE X e tl) (ok : BlkOk X.N X.env.scope scope own) (hg : BG X scope tg g) (ht : BT X scope ifs tt) (he : BE X scope elt te) (hs : ∀ x, foldedSetIterable e X.env x = pure x := by intro _; rfl) :
    PE X (.ListComp elt [⟨tg, e, ifs, 0⟩] scope pos) (dLcL X.K tl g tt te (own.map (·.2))) := peI (pe_lcH hot hN (peM hl) ok hg ht he hs) fun _ _ _ q => lc_l q
theorem d_lcR1 (hc : X.calm = true) (hN : X.N.Nodup) (hm : X.mg "range" = none) (ha : PA X [a] ta) (ok : BlkOk X.N X.env.scope scope own) (hg : BG X scope tg g) (ht : BT X scope ifs tt) (he : BE X scope elt te) (hgl : Gl X "range" := by rfl)
    (hs : ∀ x, foldedSetIterable (.Call (.Name "range" p) [a] [] p2) X.env x = pure x := by intro _; rfl) (hst : starEach [a] X.env = [(false, eval a X.env)] := by rfl) :
    PE X (.ListComp elt [⟨tg, .Call (.Name "range" p) [a] [] p2, ifs, 0⟩] scope pos) (dLcR1 ta g tt te (own.map (·.2))) := peI (pe_lc hc hN (pi_range1 hgl hm (paM ha) hst) ok hg ht he hs) fun _ _ _ q => lc_r1 q
theorem d_lcR2 (hc : X.calm = true) (hN : X.N.Nodup) (hm : X.mg "range" = none) (ha : PA X [a, b] ta) (ok : BlkOk X.N X.env.scope scope own) (hg : BG X scope tg g) (ht : BT X scope ifs tt) (he : BE X scope elt te) (hgl : Gl X "range" := by rfl)
    (hs : ∀ x, foldedSetIterable (.Call (.Name "range" p) [a, b] [] p2) X.env x = pure x := by intro _; rfl) (hst : starEach [a, b] X.env = [(false, eval a X.env), (false, eval b X.env)] := by rfl) (hst2 : starEach [b] X.env = [(false, eval b X.env)] := by rfl) :
    PE X (.ListComp elt [⟨tg, .Call (.Name "range" p) [a, b] [] p2, ifs, 0⟩] scope pos) (dLcR2 ta g tt te (own.map (·.2))) := peI (pe_lc hc hN (pi_range2 hgl hm (paM ha) hst hst2) ok hg ht he hs) fun _ _ _ q => lc_r2 q
variable {i : Nat} {y : Str} {py spos : Pos}
theorem d_setL (hc : X.calm = true) (hN : X.N.Nodup) (hy : X.N[i]? = some y) (hyl : X.env.scope.names.lookup y = some .local) (hsw : swapsWith (.ListComp elt [⟨tg, e, ifs, 0⟩] scope pos) (some (.Name y py)) spos.line X.env = pure true)
    (hl : PE X e tl) (ok : BlkOk X.N X.env.scope scope own) (hg : BG X scope tg g) (ht : BT X scope ifs tt) (he : BE X scope elt te) (hs : ∀ x, foldedSetIterable e X.env x = pure x := by intro _; rfl) :
    PS X (.Assign [.Name y py] (.ListComp elt [⟨tg, e, ifs, 0⟩] scope pos) spos) (tAsg (dLcL X.K tl g tt te (own.map (·.2))) (gName i)) := psI (ps_setLc hc hN hy hyl hsw (pi_list (peM hl)) ok hg ht he hs) fun _ _ _ q => lc_l q
theorem d_setT (hc : X.calm = true) (hN : X.N.Nodup) (hy : X.N[i]? = some y) (hyl : X.env.scope.names.lookup y = some .local) (hsw : swapsWith (.ListComp elt [⟨tg, e, ifs, 0⟩] scope pos) (some (.Name y py)) spos.line X.env = pure true)
    (hl : PE X e tl) (ok : BlkOk X.N X.env.scope scope own) (hg : BG X scope tg g) (ht : BT X scope ifs tt) (he : BE X scope elt te) (hs : ∀ x, foldedSetIterable e X.env x = pure x := by intro _; rfl) :
    PS X (.Assign [.Name y py] (.ListComp elt [⟨tg, e, ifs, 0⟩] scope pos) spos) (tAsg (dLcT X.K tl g tt te (own.map (·.2))) (gName i)) := psI (ps_setLc hc hN hy hyl hsw (pi_tup (peM hl)) ok hg ht he hs) fun _ _ _ q => lc_t q
theorem d_setR1 (hc : X.calm = true) (hN : X.N.Nodup) (hy : X.N[i]? = some y) (hyl : X.env.scope.names.lookup y = some .local) (hsw : swapsWith (.ListComp elt [⟨tg, .Call (.Name "range" p) [a] [] p2, ifs, 0⟩] scope pos) (some (.Name y py)) spos.line X.env = pure true)
    (hm : X.mg "range" = none) (ha : PA X [a] ta) (ok : BlkOk X.N X.env.scope scope own) (hg : BG X scope tg g) (ht : BT X scope ifs tt) (he : BE X scope elt te) (hgl : Gl X "range" := by rfl)
    (hs : ∀ x, foldedSetIterable (.Call (.Name "range" p) [a] [] p2) X.env x = pure x := by intro _; rfl) (hst : starEach [a] X.env = [(false, eval a X.env)] := by rfl) :
    PS X (.Assign [.Name y py] (.ListComp elt [⟨tg, .Call (.Name "range" p) [a] [] p2, ifs, 0⟩] scope pos) spos) (tAsg (dLcR1 ta g tt te (own.map (·.2))) (gName i)) := psI (ps_setLc hc hN hy hyl hsw (pi_range1 hgl hm (paM ha) hst) ok hg ht he hs) fun _ _ _ q => lc_r1 q
end
/-! ### how loops and comprehensions are answered -/
/-- what stands as a tuple stays so -/
def KT (H H' : Hp) : Prop := ∀ a xs, H a = some (.tup xs) → H' a = some (.tup xs)
theorem KT.refl (H : Hp) : KT H H := fun _ _ h => h
theorem KT.trans {H H1 H2 : Hp} (a : KT H H1) (b : KT H1 H2) : KT H H2 := fun c o h => b c o (a c o h)
theorem KT.same {H H' : Hp} (s : Same H H') : KT H H' := fun a xs h => s a _ h
theorem KT.new {H : Hp} {p : Addr} {o : HO} (h : H p = none) : KT H (upd H p o) := fun a xs e => by rw [upd_ne (ne_of_none e h)]; exact e
theorem same_new {H : Hp} {p : Addr} {o : HO} (h : H p = none) : Same H (upd H p o) := fun a xs e => by rw [upd_ne (ne_of_none e h)]; exact e
theorem same_mut {H H' : Hp} {p : Addr} {o : HO} (s : Same H H') (h : H p = none) : Same H (upd H' p o) := fun a xs e => by rw [upd_ne (ne_of_none e h)]; exact s a _ e
def isTup : Option HO → Bool
  | some (.tup _) => true
  | _ => false
theorem KT.mut {H : Hp} {p : Addr} {o : HO} (h : isTup (H p) = false) : KT H (upd H p o) := fun a xs e => by
  rw [upd_ne (fun z => by rw [← z, e] at h; cases h)]
  exact e
theorem forL_go {K : PySem.W.Frag} {a : Addr} {xs : List V} {g : TG} {tb : TS} {D : Ends} {σ : L2.St} {H : Hp} (hq : SqL K H a xs) (Pv : Nat → L2.St → Hp → Prop) (h0 : Pv 0 σ H) (hl : ∀ i σ H, i ≤ xs.length → Pv i σ H → SqL K H a xs)
    (hs : ∀ i x σ H, xs[i]? = some x → Pv i σ H → g x σ H fun σ2 H2 => tb { D with nx := Pv (i + 1), ct := Pv (i + 1), bk := D.nx } σ2 H2) (hd : ∀ σ H, Pv xs.length σ H → D.nx σ H) : ForL K a g tb D σ H := ⟨⟨_, hq⟩, for_list Pv h0 hl hs hd⟩
theorem forT_go {K : PySem.W.Frag} {a : Addr} {xs : List V} {g : TG} {tb : TS} {D : Ends} {σ : L2.St} {H : Hp} (hq : SqT K H a xs) (Pv : Nat → L2.St → Hp → Prop) (h0 : Pv 0 σ H) (hl : ∀ i σ H, i ≤ xs.length → Pv i σ H → SqT K H a xs)
    (hs : ∀ i x σ H, xs[i]? = some x → Pv i σ H → g x σ H fun σ2 H2 => tb { D with nx := Pv (i + 1), ct := Pv (i + 1), bk := D.nx } σ2 H2) (hd : ∀ σ H, Pv xs.length σ H → D.nx σ H) : ForT K a g tb D σ H := ⟨⟨_, hq⟩, for_tup Pv h0 hl hs hd⟩
theorem forR_go {lo : Int} {n : Nat} {g : TG} {tb : TS} {D : Ends} {σ : L2.St} {H : Hp} (Pv : Nat → L2.St → Hp → Prop) (h0 : Pv 0 σ H)
    (hs : ∀ i σ H, i < n → Pv i σ H → g (.int (lo + i)) σ H fun σ2 H2 => tb { D with nx := Pv (i + 1), ct := Pv (i + 1), bk := D.nx } σ2 H2) (hd : ∀ σ H, Pv n σ H → D.nx σ H) : ForR lo n g tb D σ H := for_range Pv h0 hs hd
/-- one turn of a comprehension: kept with a value, or left out -/
abbrev LcTurn (g : TG) (tt : TT) (te : TE) (vs : List Nat) (σ : L2.St) (x : V) (H : Hp) (k1 : VK) (k0 : Hp → Prop) : Prop :=
  g x (wipe σ vs) H fun σ2 H2 => wipe σ2 vs = wipe σ vs ∧ tt σ2 H2 fun b H3 => if b = true then te σ2 H3 k1 else k0 H3
theorem paired_app {α β : Type} {F : α → β → Prop} : ∀ {l₁ : List α} {l₂ : List β} {m₁ : List α} {m₂ : List β}, Paired F l₁ l₂ → Paired F m₁ m₂ → Paired F (l₁ ++ m₁) (l₂ ++ m₂)
  | _, _, _, _, .nil, h => h
  | _, _, _, _, .cons r t, h => .cons r (paired_app t h)
theorem lcL_core {K : PySem.W.Frag} {a : Addr} {xs : List V} {g : TG} {tt : TT} {te : TE} {vs : List Nat} {σ : L2.St} {H1 : Hp} {Q : VK} (hq : SqL K H1 a xs) (hz : xs.length ≤ 1000000) (f : V → Bool) (R : V → V → Hp → Prop)
    (st : ∀ x y H H', KT H H' → R x y H → R x y H')
    (turn : ∀ x ∈ xs, ∀ H, Same H1 H → ∀ (k1 : VK) (k0 : Hp → Prop), (f x = true → ∀ y H', Same H H' → R x y H' → k1 y H') → (f x = false → ∀ H', Same H H' → k0 H') → LcTurn g tt te vs σ x H k1 k0)
    (hd : ∀ D H ys, H1 D = none → Same H1 H → H D = some (.lst ys) → Paired (fun x y => R x y H) (xs.filter f) ys → Q (.ref D) H) : LcL K a g tt te vs σ H1 Q := by
  refine ⟨⟨_, hq⟩, fun D hD => lc_list (K := K) (a := a) (xs := xs) (fun i H => Same H1 H ∧ ∃ ys, H D = some (.lst ys) ∧ ys.length ≤ i ∧ Paired (fun x y => R x y H) ((xs.take i).filter f) ys) ⟨same_new hD, [], upd_same, Nat.le_refl _, .nil⟩ (fun i H _ p => p.1.seq hq) ?_ ?_⟩
  · rintro i x H hx ⟨s, ys, hDs, hy, pr⟩
    have hlt := (List.getElem?_eq_some_iff.mp hx).1
    have e1 : xs.take (i + 1) = xs.take i ++ [x] := by rw [List.take_succ, hx]; rfl
    refine turn x (List.mem_of_getElem? hx) H s _ _ (fun hf y H' s' r => ⟨ys, s' D _ hDs, Nat.lt_of_le_of_lt hy (by rw [sizeLine_eq]; omega), same_mut (s.trans s') hD, ys ++ [y], upd_same, by rw [List.length_append]; exact Nat.succ_le_succ hy, ?_⟩) fun hf H' s' => ⟨s.trans s', ys, s' D _ hDs, Nat.le_succ_of_le hy, ?_⟩
    · have kt : KT H (upd H' D (.lst (ys ++ [y]))) := (KT.same s').trans (KT.mut (by rw [s' D _ hDs]; rfl))
      have kt2 : KT H' (upd H' D (.lst (ys ++ [y]))) := KT.mut (by rw [s' D _ hDs]; rfl)
      rw [e1, List.filter_append, List.filter_cons, if_pos hf]
      exact paired_app (Paired.mapP pr fun _ _ z => st _ _ _ _ kt z) (.cons (st _ _ _ _ kt2 r) .nil)
    · rw [e1, List.filter_append, List.filter_cons, if_neg (by rw [hf]; decide), List.filter_nil, List.append_nil]
      exact Paired.mapP pr fun _ _ z => st _ _ _ _ (KT.same s') z
  · rintro H ⟨s, ys, hDs, hy, pr⟩
    rw [List.take_length] at pr
    exact hd D H ys hD s hDs pr
/-! ### isinstance of built-in values -/
def tyName (x : V) (H : Hp) : Option String := match x with
  | .int _ => some "int"
  | .bl _ => some "bool"
  | .non => some "NoneType"
  | .str _ => some "str"
  | .ref p => match H p with
    | some (.lst _) => some "list"
    | some (.tup _) => some "tuple"
    | some (.dK _) => some "dict"
    | _ => none
  | _ => none
def isK (a b : String) : Bool := (kitB a b).getD false
def isKnown (a b : String) : Bool := (kitB a b).isSome
def dIsi : List V → Hp → VK → Prop := fun xs H Q => match xs with
  | [x, .ty n] => match tyName x H with
    | some a => isKnown a n = true ∧ Q (.bl (isK a n)) H
    | none => False
  | _ => False
theorem tyName_of {K : PySem.W.Frag} {x : V} {H : Hp} {a : String} (h : tyName x H = some a) : TyX K H x (.type a) := by
  unfold tyName at h
  split at h
  · cases h; exact .base (.int _)
  · cases h; exact .base (.bl _)
  · cases h; exact .base .non
  · cases h; exact .base (.str _)
  · split at h
    · rename_i e
      cases h
      exact .base (.lst e)
    · rename_i e
      cases h
      exact .base (.tup e)
    · rename_i e
      cases h
      exact .base (.dK e)
    · cases h
  · cases h
section
variable {X : Cx}
theorem d_isi : CallR X (.builtin "isinstance") dIsi := caM (call_isi (X := X)) fun xs H Q q => by
  unfold dIsi at q
  split at q
  · split at q
    · rename_i n _ a e
      obtain ⟨k, q⟩ := q
      refine ⟨_, _, _, _, isK a n, rfl, .ty n, tyName_of e, ?_, q⟩
      refine kit_ty ?_
      unfold isKnown at k
      unfold isK
      obtain ⟨b, hb⟩ := Option.isSome_iff_exists.mp k
      rw [hb] <;> rfl
    · exact q.elim
  · exact q.elim
end
theorem is_int_int : isK "int" "int" = true := by decide +kernel
theorem kn_int_int : isKnown "int" "int" = true := by decide +kernel
theorem is_int_bool : isK "int" "bool" = false := by decide +kernel
theorem kn_int_bool : isKnown "int" "bool" = true := by decide +kernel
theorem is_int_str : isK "int" "str" = false := by decide +kernel
theorem kn_int_str : isKnown "int" "str" = true := by decide +kernel
theorem is_int_list : isK "int" "list" = false := by decide +kernel
theorem kn_int_list : isKnown "int" "list" = true := by decide +kernel
theorem is_int_tuple : isK "int" "tuple" = false := by decide +kernel
theorem kn_int_tuple : isKnown "int" "tuple" = true := by decide +kernel
theorem is_int_dict : isK "int" "dict" = false := by decide +kernel
theorem kn_int_dict : isKnown "int" "dict" = true := by decide +kernel
theorem is_bool_int : isK "bool" "int" = true := by decide +kernel
theorem kn_bool_int : isKnown "bool" "int" = true := by decide +kernel
theorem is_bool_bool : isK "bool" "bool" = true := by decide +kernel
theorem kn_bool_bool : isKnown "bool" "bool" = true := by decide +kernel
theorem is_bool_str : isK "bool" "str" = false := by decide +kernel
theorem kn_bool_str : isKnown "bool" "str" = true := by decide +kernel
theorem is_bool_list : isK "bool" "list" = false := by decide +kernel
theorem kn_bool_list : isKnown "bool" "list" = true := by decide +kernel
theorem is_bool_tuple : isK "bool" "tuple" = false := by decide +kernel
theorem kn_bool_tuple : isKnown "bool" "tuple" = true := by decide +kernel
theorem is_bool_dict : isK "bool" "dict" = false := by decide +kernel
theorem kn_bool_dict : isKnown "bool" "dict" = true := by decide +kernel
theorem is_NoneType_int : isK "NoneType" "int" = false := by decide +kernel
theorem kn_NoneType_int : isKnown "NoneType" "int" = true := by decide +kernel
theorem is_NoneType_bool : isK "NoneType" "bool" = false := by decide +kernel
theorem kn_NoneType_bool : isKnown "NoneType" "bool" = true := by decide +kernel
theorem is_NoneType_str : isK "NoneType" "str" = false := by decide +kernel
theorem kn_NoneType_str : isKnown "NoneType" "str" = true := by decide +kernel
theorem is_NoneType_list : isK "NoneType" "list" = false := by decide +kernel
theorem kn_NoneType_list : isKnown "NoneType" "list" = true := by decide +kernel
theorem is_NoneType_tuple : isK "NoneType" "tuple" = false := by decide +kernel
theorem kn_NoneType_tuple : isKnown "NoneType" "tuple" = true := by decide +kernel
theorem is_NoneType_dict : isK "NoneType" "dict" = false := by decide +kernel
theorem kn_NoneType_dict : isKnown "NoneType" "dict" = true := by decide +kernel
theorem is_str_int : isK "str" "int" = false := by decide +kernel
theorem kn_str_int : isKnown "str" "int" = true := by decide +kernel
theorem is_str_bool : isK "str" "bool" = false := by decide +kernel
theorem kn_str_bool : isKnown "str" "bool" = true := by decide +kernel
theorem is_str_str : isK "str" "str" = true := by decide +kernel
theorem kn_str_str : isKnown "str" "str" = true := by decide +kernel
theorem is_str_list : isK "str" "list" = false := by decide +kernel
theorem kn_str_list : isKnown "str" "list" = true := by decide +kernel
theorem is_str_tuple : isK "str" "tuple" = false := by decide +kernel
theorem kn_str_tuple : isKnown "str" "tuple" = true := by decide +kernel
theorem is_str_dict : isK "str" "dict" = false := by decide +kernel
theorem kn_str_dict : isKnown "str" "dict" = true := by decide +kernel
theorem is_list_int : isK "list" "int" = false := by decide +kernel
theorem kn_list_int : isKnown "list" "int" = true := by decide +kernel
theorem is_list_bool : isK "list" "bool" = false := by decide +kernel
theorem kn_list_bool : isKnown "list" "bool" = true := by decide +kernel
theorem is_list_str : isK "list" "str" = false := by decide +kernel
theorem kn_list_str : isKnown "list" "str" = true := by decide +kernel
theorem is_list_list : isK "list" "list" = true := by decide +kernel
theorem kn_list_list : isKnown "list" "list" = true := by decide +kernel
theorem is_list_tuple : isK "list" "tuple" = false := by decide +kernel
theorem kn_list_tuple : isKnown "list" "tuple" = true := by decide +kernel
theorem is_list_dict : isK "list" "dict" = false := by decide +kernel
theorem kn_list_dict : isKnown "list" "dict" = true := by decide +kernel
theorem is_tuple_int : isK "tuple" "int" = false := by decide +kernel
theorem kn_tuple_int : isKnown "tuple" "int" = true := by decide +kernel
theorem is_tuple_bool : isK "tuple" "bool" = false := by decide +kernel
theorem kn_tuple_bool : isKnown "tuple" "bool" = true := by decide +kernel
theorem is_tuple_str : isK "tuple" "str" = false := by decide +kernel
theorem kn_tuple_str : isKnown "tuple" "str" = true := by decide +kernel
theorem is_tuple_list : isK "tuple" "list" = false := by decide +kernel
theorem kn_tuple_list : isKnown "tuple" "list" = true := by decide +kernel
theorem is_tuple_tuple : isK "tuple" "tuple" = true := by decide +kernel
theorem kn_tuple_tuple : isKnown "tuple" "tuple" = true := by decide +kernel
theorem is_tuple_dict : isK "tuple" "dict" = false := by decide +kernel
theorem kn_tuple_dict : isKnown "tuple" "dict" = true := by decide +kernel
theorem is_dict_int : isK "dict" "int" = false := by decide +kernel
theorem kn_dict_int : isKnown "dict" "int" = true := by decide +kernel
theorem is_dict_bool : isK "dict" "bool" = false := by decide +kernel
theorem kn_dict_bool : isKnown "dict" "bool" = true := by decide +kernel
theorem is_dict_str : isK "dict" "str" = false := by decide +kernel
theorem kn_dict_str : isKnown "dict" "str" = true := by decide +kernel
theorem is_dict_list : isK "dict" "list" = false := by decide +kernel
theorem kn_dict_list : isKnown "dict" "list" = true := by decide +kernel
theorem is_dict_tuple : isK "dict" "tuple" = false := by decide +kernel
theorem kn_dict_tuple : isKnown "dict" "tuple" = true := by decide +kernel
theorem is_dict_dict : isK "dict" "dict" = true := by decide +kernel
theorem kn_dict_dict : isKnown "dict" "dict" = true := by decide +kernel
theorem lcR_core {lo : Int} {n : Nat} {g : TG} {tt : TT} {te : TE} {vs : List Nat} {σ : L2.St} {H1 : Hp} {Q : VK} (hz : n ≤ 1000000) (f : Nat → Bool) (R : Nat → V → Hp → Prop)
    (st : ∀ x y H H', KT H H' → R x y H → R x y H')
    (turn : ∀ (i : Nat), i < n → ∀ H, Same H1 H → ∀ (k1 : VK) (k0 : Hp → Prop), (f i = true → ∀ y H', Same H H' → R i y H' → k1 y H') → (f i = false → ∀ H', Same H H' → k0 H') → LcTurn g tt te vs σ (.int (lo + (i : Nat))) H k1 k0)
    (hd : ∀ D H ys, H1 D = none → Same H1 H → H D = some (.lst ys) → Paired (fun x y => R x y H) ((List.range n).filter f) ys → Q (.ref D) H) : LcJ (Itr lo n) g tt te vs σ H1 Q := by
  refine fun D hD => lc_range (lo := lo) (n := n) (fun i H => Same H1 H ∧ ∃ ys, H D = some (.lst ys) ∧ ys.length ≤ i ∧ Paired (fun x y => R x y H) ((List.range i).filter f) ys) ⟨same_new hD, [], upd_same, Nat.le_refl _, .nil⟩ ?_ ?_
  · rintro i H hlt ⟨s, ys, hDs, hy, pr⟩
    refine turn i hlt H s _ _ (fun hf y H' s' r => ⟨ys, s' D _ hDs, Nat.lt_of_le_of_lt hy (by rw [sizeLine_eq]; omega), same_mut (s.trans s') hD, ys ++ [y], upd_same, by rw [List.length_append]; exact Nat.succ_le_succ hy, ?_⟩) fun hf H' s' => ⟨s.trans s', ys, s' D _ hDs, Nat.le_succ_of_le hy, ?_⟩
    · have kt : KT H (upd H' D (.lst (ys ++ [y]))) := (KT.same s').trans (KT.mut (by rw [s' D _ hDs]; rfl))
      have kt2 : KT H' (upd H' D (.lst (ys ++ [y]))) := KT.mut (by rw [s' D _ hDs]; rfl)
      rw [List.range_succ, List.filter_append, List.filter_cons, if_pos hf]
      exact paired_app (Paired.mapP pr fun _ _ z => st _ _ _ _ kt z) (.cons (st _ _ _ _ kt2 r) .nil)
    · rw [List.range_succ, List.filter_append, List.filter_cons, if_neg (by rw [hf]; decide), List.filter_nil, List.append_nil]
      exact Paired.mapP pr fun _ _ z => st _ _ _ _ (KT.same s') z
  · rintro H ⟨s, ys, hDs, hy, pr⟩
    exact hd D H ys hD s hDs pr
/-! ### nested data, as it is tracked: to a depth -/
def AtomD (v : V) (d : PyData) : Prop := (v = .non ∧ d = .none) ∨ (∃ b, v = .bl b ∧ d = .bool b) ∨ (∃ i, v = .int i ∧ d = .int i) ∨ ∃ x, v = .str x ∧ d = .str x ∧ PyData.strOk x = true
def Da (H : Hp) : Nat → V → PyData → Prop
  | 0, v, d => AtomD v d
  | n + 1, v, d => AtomD v d ∨ (∃ (a : Addr) (xs : List V) (ds : List PyData), v = .ref a ∧ d = .list ds ∧ H a = some (.lst xs) ∧ xs.length ≤ 100000 ∧ Paired (Da H n) xs ds) ∨
    ∃ (a : Addr) (xs : List V) (ds : List PyData), v = .ref a ∧ d = .tuple ds ∧ H a = some (.tup xs) ∧ xs.length ≤ 100000 ∧ Paired (Da H n) xs ds
theorem AtomD.da {v : V} {d : PyData} {H : Hp} (h : AtomD v d) : ∀ {n : Nat}, Da H n v d
  | 0 => h
  | _ + 1 => .inl h
theorem Da.int {H : Hp} {n : Nat} {i : Int} : Da H n (.int i) (.int i) := AtomD.da (.inr (.inr (.inl ⟨i, rfl, rfl⟩)))
theorem Da.bl {H : Hp} {n : Nat} {i : Bool} : Da H n (.bl i) (.bool i) := AtomD.da (.inr (.inl ⟨i, rfl, rfl⟩))
theorem Da.non {H : Hp} {n : Nat} : Da H n .non .none := AtomD.da (.inl ⟨rfl, rfl⟩)
theorem Da.str {H : Hp} {n : Nat} {x : Str} (h : PyData.strOk x = true) : Da H n (.str x) (.str x) := AtomD.da (.inr (.inr (.inr ⟨x, rfl, rfl, h⟩)))
theorem Da.lst {H : Hp} {n : Nat} {a : Addr} {xs : List V} {ds : List PyData} (h : H a = some (.lst xs)) (hl : xs.length ≤ 100000) (p : Paired (Da H n) xs ds) : Da H (n + 1) (.ref a) (.list ds) := .inr (.inl ⟨a, xs, ds, rfl, rfl, h, hl, p⟩)
theorem Da.tup {H : Hp} {n : Nat} {a : Addr} {xs : List V} {ds : List PyData} (h : H a = some (.tup xs)) (hl : xs.length ≤ 100000) (p : Paired (Da H n) xs ds) : Da H (n + 1) (.ref a) (.tuple ds) := .inr (.inr ⟨a, xs, ds, rfl, rfl, h, hl, p⟩)
theorem Da.same {H H' : Hp} (s : Same H H') : ∀ {n : Nat} {v : V} {d : PyData}, Da H n v d → Da H' n v d
  | 0, _, _, h => h
  | n + 1, v, d, h => by
    rcases h with h | ⟨a, xs, ds, e1, e2, h, hl, p⟩ | ⟨a, xs, ds, e1, e2, h, hl, p⟩
    · exact .inl h
    · exact .inr (.inl ⟨a, xs, ds, e1, e2, s a _ h, hl, Paired.mapP p fun _ _ q => Da.same s q⟩)
    · exact .inr (.inr ⟨a, xs, ds, e1, e2, s a _ h, hl, Paired.mapP p fun _ _ q => Da.same s q⟩)
theorem AtomD.dp {K : PySem.W.Frag} {H : Hp} {v : V} {d : PyData} (h : AtomD v d) : Dp K H v d := by
  rcases h with ⟨rfl, rfl⟩ | ⟨b, rfl, rfl⟩ | ⟨b, rfl, rfl⟩ | ⟨x, rfl, rfl, _⟩
  · exact .non
  · exact .bl _
  · exact .int _
  · exact .str _
theorem dpAll {K : PySem.W.Frag} {H : Hp} : ∀ {xs : List V} {ds : List PyData}, Paired (Dp K H) xs ds → DpAll K H xs ds
  | _, _, .nil => .nil
  | _, _, .cons h t => .cons h (dpAll t)
theorem Da.dp {K : PySem.W.Frag} {H : Hp} : ∀ {n : Nat} {v : V} {d : PyData}, Da H n v d → Dp K H v d
  | 0, _, _, h => AtomD.dp h
  | n + 1, v, d, h => by
    rcases h with h | ⟨a, xs, ds, rfl, rfl, h, hl, p⟩ | ⟨a, xs, ds, rfl, rfl, h, hl, p⟩
    · exact AtomD.dp h
    · exact .lst (SqL.of h) (dpAll (Paired.mapP p fun _ _ q => Da.dp q))
    · exact .tup (SqT.of h) (dpAll (Paired.mapP p fun _ _ q => Da.dp q))
theorem AtomD.lay {v : V} {d : PyData} (h : AtomD v d) : d.canLay0 = true ∧ d.depth = 0 := by
  rcases h with ⟨rfl, rfl⟩ | ⟨b, rfl, rfl⟩ | ⟨b, rfl, rfl⟩ | ⟨x, rfl, rfl, hx⟩
  · exact ⟨by simp [PyData.canLay0], by simp [PyData.depth]⟩
  · exact ⟨by simp [PyData.canLay0], by simp [PyData.depth]⟩
  · exact ⟨by simp [PyData.canLay0], by simp [PyData.depth]⟩
  · exact ⟨by simpa [PyData.canLay0] using hx, by simp [PyData.depth]⟩
theorem Da.lays {H : Hp} {n : Nat} (ih : ∀ {v : V} {d : PyData}, Da H n v d → d.canLay0 = true ∧ d.depth ≤ n) : ∀ {xs : List V} {ds : List PyData}, Paired (Da H n) xs ds → PyData.canLayAll0 ds = true ∧ PyData.depthAll ds ≤ n
  | _, _, .nil => ⟨by simp [PyData.canLayAll0], by simp [PyData.depthAll]⟩
  | _, _, .cons h t => by
    obtain ⟨a, b⟩ := ih h
    obtain ⟨c, d⟩ := Da.lays ih t
    exact ⟨by simp [PyData.canLayAll0, a, c], by simp only [PyData.depthAll]; omega⟩
theorem Da.lay {H : Hp} : ∀ {n : Nat} {v : V} {d : PyData}, Da H n v d → d.canLay0 = true ∧ d.depth ≤ n
  | 0, _, _, h => ⟨(AtomD.lay h).1, Nat.le_of_eq (AtomD.lay h).2⟩
  | n + 1, v, d, h => by
    rcases h with h | ⟨a, xs, ds, rfl, rfl, h, hl, p⟩ | ⟨a, xs, ds, rfl, rfl, h, hl, p⟩
    · exact ⟨(AtomD.lay h).1, by have := (AtomD.lay h).2; omega⟩
    · obtain ⟨a, b⟩ := Da.lays (fun q => Da.lay q) p
      exact ⟨by simpa [PyData.canLay0] using a, by simp only [PyData.depth]; omega⟩
    · obtain ⟨a, b⟩ := Da.lays (fun q => Da.lay q) p
      exact ⟨by simpa [PyData.canLay0] using a, by simp only [PyData.depth]; omega⟩
theorem Da.shaped {H : Hp} {n : Nat} {v : V} {d : PyData} (h : Da H n v d) (hn : n ≤ 64) : SeqAt.shaped d = true := by
  obtain ⟨a, b⟩ := Da.lay h
  show (d.canLay0 && decide (d.depth ≤ 64)) = true
  rw [a, decide_eq_true (by omega)]
  rfl
theorem pairedAt {α β : Type} {F : α → β → Prop} : ∀ {l₁ : List α} {l₂ : List β} {i : Nat} {y : β}, Paired F l₁ l₂ → l₂[i]? = some y → ∃ x, l₁[i]? = some x ∧ F x y
  | _, _, _, _, .nil, e => by simp at e
  | _, _, 0, _, .cons r _, e => by simp at e; subst e; exact ⟨_, rfl, r⟩
  | _, _, i + 1, _, .cons _ t, e => by
    obtain ⟨x, h1, h2⟩ := pairedAt (i := i) t (by simpa using e)
    exact ⟨x, by simpa using h1, h2⟩
theorem paired_len {α β : Type} {F : α → β → Prop} : ∀ {l₁ : List α} {l₂ : List β}, Paired F l₁ l₂ → l₁.length = l₂.length
  | _, _, .nil => rfl
  | _, _, .cons _ t => congrArg (· + 1) (paired_len t)
/-- == of data that is the same -/
theorem eqD_same {K : PySem.W.Frag} {H : Hp} {Q : VK} {n : Nat} {x y : V} {d : PyData} (h : Da H n x d) (h' : Da H n y d) (hn : n ≤ 64) (q : Q (.bl true) H) : dEqD K x y H Q :=
  ⟨d, d, h.dp, h'.dp, h.shaped hn, h'.shaped hn, by rw [SeqAt.eqv_refl d h.lay.1]; exact q⟩
theorem neD_same {K : PySem.W.Frag} {H : Hp} {Q : VK} {n : Nat} {x y : V} {d : PyData} (h : Da H n x d) (h' : Da H n y d) (hn : n ≤ 64) (q : Q (.bl false) H) : dNeD K x y H Q :=
  ⟨d, d, h.dp, h'.dp, h.shaped hn, h'.shaped hn, by rw [SeqAt.eqv_refl d h.lay.1]; exact q⟩
theorem seqAt_lst {xs : List V} {k : List V → Prop} : seqAt (some (.lst xs)) k = k xs := rfl
theorem seqAt_tup {xs : List V} {k : List V → Prop} : seqAt (some (.tup xs)) k = k xs := rfl
theorem seqAt_frz {o : Obj} {xs : List V} {k : List V → Prop} : seqAt (some (.frz o (.lst xs))) k = k xs := rfl
theorem lstAt_lst {xs : List V} {k : List V → Prop} : lstAt (some (.lst xs)) k = k xs := rfl
theorem tupAt_tup {xs : List V} {k : List V → Prop} : tupAt (some (.tup xs)) k = k xs := rfl
theorem atK_of {xs : List V} {i : Int} {v : V} {k : V → Prop} (h : atI xs i = some v) : atK xs i k = k v := by
  unfold atK
  rw [h]
theorem atI_zero {x : V} {xs : List V} : atI (x :: xs) 0 = some x := atI_nat (j := 0) rfl
theorem atK_zero {x : V} {xs : List V} {k : V → Prop} : atK (x :: xs) 0 k = k x := atK_of atI_zero
theorem atI_one {x y : V} {xs : List V} : atI (x :: y :: xs) 1 = some y := atI_nat (j := 1) rfl
theorem atK_one {x y : V} {xs : List V} {k : V → Prop} : atK (x :: y :: xs) 1 k = k y := atK_of atI_one
theorem atK_last {x : V} {xs : List V} {k : V → Prop} : atK (xs ++ [x]) (-1) k = k x := atK_of (atI_last xs x)
theorem atK_nat {xs : List V} {i : Nat} {v : V} {k : V → Prop} (h : xs[i]? = some v) (q : k v) : atK xs (i : Int) k := by rw [atK_of (atI_nat h)]; exact q
theorem seqE {o : Option HO} {zs : List V} {k : List V → Prop} (h : seqAt o (· = zs)) (hk : k zs) : seqAt o k := by
  unfold seqAt at h ⊢
  split at h <;> first | (subst h; exact hk) | exact h.elim
/-- isinstance(e, C), e the exception at ax, of the class D -/
def dIsE (K : PySem.W.Frag) (D ax : Addr) : List V → Hp → VK → Prop := fun xs H Q => match xs with
  | [.ref a, .ref C] => a = ax ∧ match PySem.W.kitOne K (.ref D) (.ref C) with
    | some b => Q (.bl b) H
    | none => False
  | _ => False
section
variable {X : Cx}
theorem d_isP {a D : Addr} {oe : Obj} (C : ExcC X.K D) (hp : (a, oe) ∈ X.pn) (hz : Zc (.ref D) none oe) (hf : ∃ vs, oe.data = .fields vs) : CallR X (.builtin "isinstance") (dIsE X.K D a) := caM (call_isP C hp hz hf) fun xs H Q q => by
  unfold dIsE at q
  split at q
  · obtain ⟨rfl, q⟩ := q
    split at q
    · rename_i e
      exact ⟨_, _, _, rfl, fun u r => r, e, q⟩
    · exact q.elim
  · exact q.elim
end
theorem seq1 {t u : TS} {D : Ends} {σ : L2.St} {H : Hp} (h : t { D with nx := u D } σ H) : tSeq t u D σ H := h
theorem upd_none {H : Hp} {x r : Addr} {o : HO} (h : upd H x o r = none) : x ≠ r ∧ H r = none := by
  unfold upd at h
  split at h
  · cases h
  · rename_i n
    exact ⟨fun e => n e.symm, h⟩
theorem while_go {c : TT} {tb : TS} {D : Ends} {σ : L2.St} {H : Hp} (W : Nat → L2.St → Hp → Prop) (m : Nat) (h0 : W m σ H)
    (hs : ∀ m σ H, W m σ H → c σ H fun b H1 => if b = true then ∃ N : L2.St → Hp → Prop, (∀ σ' H', N σ' H' → ∃ m', m' < m ∧ W m' σ' H') ∧ tb { D with nx := N, ct := N, bk := D.nx } σ H1 else D.nx σ H1) : tWhile c tb D σ H := ⟨W, ⟨m, h0⟩, hs⟩
theorem upd_fresh {H : Hp} {x r : Addr} {o : HO} : (upd H x o r = none) = (x ≠ r ∧ H r = none) := propext ⟨upd_none, fun ⟨n, h⟩ => by rw [upd_ne (fun e => n e.symm)]; exact h⟩
theorem n00 : ((0 : Nat) : Int) = 0 := rfl
theorem posS {n : Nat} : ((0 : Int) < ((n + 1 : Nat) : Int)) = True := eq_true (by omega)
theorem eqS0 {n : Nat} : (((n + 1 : Nat) : Int) = 0) = False := eq_false (by omega)
theorem lt00 : ((0 : Int) < 0) = False := eq_false (by decide)
theorem turnN {W : Nat → L2.St → Hp → Prop} {m : Nat} {t : (L2.St → Hp → Prop) → Prop} (h : ∀ N : L2.St → Hp → Prop, (∀ m' σ' H', m' < m → W m' σ' H' → N σ' H') → t N) : ∃ N : L2.St → Hp → Prop, (∀ σ' H', N σ' H' → ∃ m', m' < m ∧ W m' σ' H') ∧ t N :=
  ⟨fun σ' H' => ∃ m', m' < m ∧ W m' σ' H', fun _ _ h => h, h _ fun m' σ' H' a b => ⟨m', a, b⟩⟩
theorem while_to {c : TT} {tb : TS} {D : Ends} {σ : L2.St} {H : Hp} (W : Nat → L2.St → Hp → Prop) (X : L2.St → Hp → Prop) (m : Nat) (h0 : W m σ H) (hx : ∀ σ H, X σ H → D.nx σ H)
    (hs : ∀ nx : L2.St → Hp → Prop, (∀ σ H, X σ H → nx σ H) → ∀ m σ H, W m σ H → c σ H fun b H1 => if b = true then ∃ N : L2.St → Hp → Prop, (∀ σ' H', N σ' H' → ∃ m', m' < m ∧ W m' σ' H') ∧ tb { D with nx := N, ct := N, bk := nx } σ H1 else nx σ H1) : tWhile c tb D σ H := ⟨W, ⟨m, h0⟩, hs D.nx hx⟩
theorem forL_to {K : PySem.W.Frag} {a : Addr} {xs : List V} {g : TG} {tb : TS} {D : Ends} {σ : L2.St} {H : Hp} (hq : SqL K H a xs) (Pv : Nat → L2.St → Hp → Prop) (X : L2.St → Hp → Prop) (h0 : Pv 0 σ H) (hl : ∀ i σ H, i ≤ xs.length → Pv i σ H → SqL K H a xs)
    (hd : ∀ σ H, Pv xs.length σ H → X σ H) (hx : ∀ σ H, X σ H → D.nx σ H)
    (hs : ∀ (N nx : L2.St → Hp → Prop), (∀ σ H, X σ H → nx σ H) → ∀ i x σ H, xs[i]? = some x → (∀ σ H, Pv (i + 1) σ H → N σ H) → Pv i σ H → g x σ H fun σ2 H2 => tb { D with nx := N, ct := N, bk := nx } σ2 H2) : ForL K a g tb D σ H := ⟨⟨_, hq⟩, for_list Pv h0 hl (fun i x σ H e p => hs (Pv (i + 1)) D.nx hx i x σ H e (fun _ _ h => h) p) fun σ H p => hx σ H (hd σ H p)⟩
theorem forT_to {K : PySem.W.Frag} {a : Addr} {xs : List V} {g : TG} {tb : TS} {D : Ends} {σ : L2.St} {H : Hp} (hq : SqT K H a xs) (Pv : Nat → L2.St → Hp → Prop) (X : L2.St → Hp → Prop) (h0 : Pv 0 σ H) (hl : ∀ i σ H, i ≤ xs.length → Pv i σ H → SqT K H a xs)
    (hd : ∀ σ H, Pv xs.length σ H → X σ H) (hx : ∀ σ H, X σ H → D.nx σ H)
    (hs : ∀ (N nx : L2.St → Hp → Prop), (∀ σ H, X σ H → nx σ H) → ∀ i x σ H, xs[i]? = some x → (∀ σ H, Pv (i + 1) σ H → N σ H) → Pv i σ H → g x σ H fun σ2 H2 => tb { D with nx := N, ct := N, bk := nx } σ2 H2) : ForT K a g tb D σ H := ⟨⟨_, hq⟩, for_tup Pv h0 hl (fun i x σ H e p => hs (Pv (i + 1)) D.nx hx i x σ H e (fun _ _ h => h) p) fun σ H p => hx σ H (hd σ H p)⟩
theorem forR_to {lo : Int} {n : Nat} {g : TG} {tb : TS} {D : Ends} {σ : L2.St} {H : Hp} (Pv : Nat → L2.St → Hp → Prop) (X : L2.St → Hp → Prop) (h0 : Pv 0 σ H)
    (hd : ∀ σ H, Pv n σ H → X σ H) (hx : ∀ σ H, X σ H → D.nx σ H)
    (hs : ∀ (N nx : L2.St → Hp → Prop), (∀ σ H, X σ H → nx σ H) → ∀ i σ H, i < n → (∀ σ H, Pv (i + 1) σ H → N σ H) → Pv i σ H → g (.int (lo + i)) σ H fun σ2 H2 => tb { D with nx := N, ct := N, bk := nx } σ2 H2) : ForR lo n g tb D σ H := for_range Pv h0 (fun i σ H e p => hs (Pv (i + 1)) D.nx hx i σ H e (fun _ _ h => h) p) fun σ H p => hx σ H (hd σ H p)
theorem le00 : ((0 : Int) ≤ 0) = True := eq_true (by decide)
theorem p63 : ((0 : Int) < 2 ^ 63) = True := eq_true (by decide)
theorem tn0 : Int.toNat 0 = 0 := rfl
theorem erz {α : Type} {x : α} {xs : List α} : (x :: xs).eraseIdx 0 = xs := rfl
theorem last_snoc {α : Type} {x : α} {xs : List α} : (xs ++ [x]).getLast? = some x := by simp
theorem drop_snoc {α : Type} {x : α} {xs : List α} : (xs ++ [x]).dropLast = xs := by simp
theorem len_snoc {α : Type} {x : α} {xs : List α} : (xs ++ [x]).length = xs.length + 1 := by simp
theorem pairedGet {α β : Type} {F : α → β → Prop} : ∀ {l₁ : List α} {l₂ : List β} {i : Nat} {x : α}, Paired F l₁ l₂ → l₁[i]? = some x → ∃ y, l₂[i]? = some y ∧ F x y
  | _, _, _, _, .nil, e => by simp at e
  | _, _, 0, _, .cons r _, e => by simp at e; subst e; exact ⟨_, rfl, r⟩
  | _, _, i + 1, _, .cons _ t, e => by
    obtain ⟨x, h1, h2⟩ := pairedGet (i := i) t (by simpa using e)
    exact ⟨x, by simpa using h1, h2⟩
/-- a comprehension over a list, whose values stand for those of another list -/
theorem lcL_pair {β : Type} {K : PySem.W.Frag} {a : Addr} {xs : List V} {ps : List β} {F : V → β → Prop} {g : TG} {tt : TT} {te : TE} {vs : List Nat} {σ : L2.St} {H1 : Hp} {Q : VK} (hq : SqL K H1 a xs) (pr : Paired F xs ps) (hz : xs.length ≤ 1000000) (f : β → Bool) (R : β → V → Hp → Prop)
    (st : ∀ x y H H', KT H H' → R x y H → R x y H')
    (turn : ∀ (i : Nat) (x : V) (p : β), xs[i]? = some x → ps[i]? = some p → F x p → ∀ H, Same H1 H → ∀ (k1 : VK) (k0 : Hp → Prop), (f p = true → ∀ y H', Same H H' → R p y H' → k1 y H') → (f p = false → ∀ H', Same H H' → k0 H') → LcTurn g tt te vs σ x H k1 k0)
    (hd : ∀ D H ys, H1 D = none → Same H1 H → H D = some (.lst ys) → Paired (fun p y => R p y H) (ps.filter f) ys → Q (.ref D) H) : LcL K a g tt te vs σ H1 Q := by
  refine ⟨⟨_, hq⟩, fun D hD => lc_list (K := K) (a := a) (xs := xs) (fun i H => Same H1 H ∧ ∃ ys, H D = some (.lst ys) ∧ ys.length ≤ i ∧ Paired (fun p y => R p y H) ((ps.take i).filter f) ys) ⟨same_new hD, [], upd_same, Nat.le_refl _, .nil⟩ (fun i H _ p => p.1.seq hq) ?_ ?_⟩
  · rintro i x H hx ⟨s, ys, hDs, hy, pq⟩
    have hlt := (List.getElem?_eq_some_iff.mp hx).1
    obtain ⟨p, hp, hF⟩ := pairedGet pr hx
    have e1 : ps.take (i + 1) = ps.take i ++ [p] := by rw [List.take_succ, hp]; rfl
    refine turn i x p hx hp hF H s _ _ (fun hf y H' s' r => ⟨ys, s' D _ hDs, Nat.lt_of_le_of_lt hy (by rw [sizeLine_eq]; omega), same_mut (s.trans s') hD, ys ++ [y], upd_same, by rw [List.length_append]; exact Nat.succ_le_succ hy, ?_⟩) fun hf H' s' => ⟨s.trans s', ys, s' D _ hDs, Nat.le_succ_of_le hy, ?_⟩
    · have kt : KT H (upd H' D (.lst (ys ++ [y]))) := (KT.same s').trans (KT.mut (by rw [s' D _ hDs]; rfl))
      have kt2 : KT H' (upd H' D (.lst (ys ++ [y]))) := KT.mut (by rw [s' D _ hDs]; rfl)
      rw [e1, List.filter_append, List.filter_cons, if_pos hf]
      exact paired_app (Paired.mapP pq fun _ _ z => st _ _ _ _ kt z) (.cons (st _ _ _ _ kt2 r) .nil)
    · rw [e1, List.filter_append, List.filter_cons, if_neg (by rw [hf]; decide), List.filter_nil, List.append_nil]
      exact Paired.mapP pq fun _ _ z => st _ _ _ _ (KT.same s') z
  · rintro H ⟨s, ys, hDs, hy, pq⟩
    have hlen : ps.length = xs.length := (paired_len pr).symm
    rw [← hlen, List.take_length] at pq
    exact hd D H ys hD s hDs pq
theorem paired_map {α β : Type} {f : α → β} {xs : List α} {ys : List β} (h : Paired (fun x y => y = f x) xs ys) : ys = xs.map f := by
  induction h with
  | nil => rfl
  | cons e _ ih => rw [List.map_cons, ← e, ih]
theorem eqD_da {K : PySem.W.Frag} {H : Hp} {Q : VK} {n : Nat} {x y : V} {d e : PyData} (h : Da H n x d) (h' : Da H n y e) (hn : n ≤ 64) (q : Q (.bl (PyData.eqv d e)) H) : dEqD K x y H Q := ⟨d, e, h.dp, h'.dp, h.shaped hn, h'.shaped hn, q⟩
theorem neD_da {K : PySem.W.Frag} {H : Hp} {Q : VK} {n : Nat} {x y : V} {d e : PyData} (h : Da H n x d) (h' : Da H n y e) (hn : n ≤ 64) (q : Q (.bl (!PyData.eqv d e)) H) : dNeD K x y H Q := ⟨d, e, h.dp, h'.dp, h.shaped hn, h'.shaped hn, q⟩
theorem da_ints {H : Hp} {n : Nat} : ∀ {ns : List Int}, Paired (Da H n) (ns.map V.int) (ns.map PyData.int)
  | [] => .nil
  | _ :: _ => .cons Da.int da_ints
theorem da_lints {H : Hp} {n : Nat} {a : Addr} {ns : List Int} (h : H a = some (.lst (ns.map V.int))) (hl : ns.length ≤ 100000) : Da H (n + 1) (.ref a) (.list (ns.map PyData.int)) := Da.lst h (by rw [List.length_map]; exact hl) da_ints
theorem da_nil {H : Hp} {n : Nat} {a : Addr} (h : H a = some (.lst [])) : Da H (n + 1) (.ref a) (.list []) := Da.lst h (Nat.zero_le _) .nil
theorem eqv_cons_nil {x : PyData} {xs : List PyData} : PyData.eqv (.list (x :: xs)) (.list []) = false := by simp [PyData.eqv, PyData.eqvAll]
theorem eqv_nil_nil : PyData.eqv (.list []) (.list []) = true := by simp [PyData.eqv, PyData.eqvAll]
theorem same_upd {H H1 : Hp} {p : Addr} {o : HO} (s : Same H H1) (h : H1 p = none) : Same H (upd H1 p o) := s.trans (same_new h)
/-- a statement, and then what follows, by what stands between -/
theorem seq_to {t u : TS} {D : Ends} {σ : L2.St} {H : Hp} (X : L2.St → Hp → Prop) (h : ∀ nx : L2.St → Hp → Prop, (∀ σ H, X σ H → nx σ H) → t { D with nx := nx } σ H) (hu : ∀ σ H, X σ H → u D σ H) : tSeq t u D σ H := h (u D) hu
structure GlAt (K : PySem.W.Frag) (mg : Str → Option Value) (x : Str) (C : Addr) : Prop where
  g : mg x = some (.ref C)
theorem kitCls_of {K : PySem.W.Frag} {C : Addr} {t : Value} {b : Bool} (h2 : PySem.W.isClsIn K C = true) (h3 : PySem.W.typeIn K (.ref C) = some (.type "type")) (h4 : PySem.W.subIn K t (.ref C) = some b) : PySem.W.kitCls K t (.ref C) = some b := by
  have e2 : ((PySem.W.clsIn K C).isSome && PySem.W.typeIn K (.ref C) == some (.type "type")) = true := by
    have h2' : (PySem.W.clsIn K C).isSome = true := h2
    rw [h2', h3] <;> rfl
  show (if ((PySem.W.clsIn K C).isSome && PySem.W.typeIn K (.ref C) == some (.type "type")) = true then PySem.W.subIn K t (.ref C) else none) = some b
  rw [if_pos e2]
  exact h4
theorem exm_of {K : PySem.W.Frag} {C : Addr} {t : Value} {b : Bool} (h1 : PySem.W.subIn K (.ref C) (.type "BaseException") = some true) (h2 : PySem.W.isClsIn K C = true) (h3 : PySem.W.typeIn K (.ref C) = some (.type "type")) (h4 : PySem.W.subIn K t (.ref C) = some b) : PySem.W.exmOne K t (.ref C) = some b := by
  have e1 : (PySem.W.subIn K (.ref C) (.type "BaseException") == some true) = true := by rw [h1] <;> rfl
  unfold PySem.W.exmOne
  rw [if_pos e1]
  exact kitCls_of h2 h3 h4
theorem ref_beq {C D : Addr} (h : C ≠ D) : (Value.ref C == Value.ref D) = false := by
  rw [beq_eq_false_iff_ne]
  intro e
  cases e
  exact h rfl
theorem kit_self {K : PySem.W.Frag} {C : Addr} : PySem.W.kitOne K (.ref C) (.ref C) = some true := by
  unfold PySem.W.kitOne
  rw [if_pos (beq_self_eq_true _)]
theorem kit_yes {K : PySem.W.Frag} {C D : Addr} (h2 : PySem.W.isClsIn K C = true) (h3 : PySem.W.typeIn K (.ref C) = some (.type "type")) (h4 : PySem.W.subIn K (.ref D) (.ref C) = some true) : PySem.W.kitOne K (.ref D) (.ref C) = some true := by
  unfold PySem.W.kitOne
  split
  · rfl
  · exact kitCls_of h2 h3 h4
theorem kit_no {K : PySem.W.Frag} {C D : Addr} (n : D ≠ C) (h2 : PySem.W.isClsIn K C = true) (h3 : PySem.W.typeIn K (.ref C) = some (.type "type")) (h4 : PySem.W.subIn K (.ref D) (.ref C) = some false) : PySem.W.kitOne K (.ref D) (.ref C) = some false := by
  unfold PySem.W.kitOne
  rw [if_neg (by rw [ref_beq n]; decide)]
  exact kitCls_of h2 h3 h4
/-- where the classes stand -/
structure Ads where
  Window : Addr
  TraceError : Addr
  OutOfRange : Addr
  Malformed : Addr
  NotThere : Addr
  Refused : Addr
  TooMuch : Addr
def fl_Window (v0 v1 v2 v3 v4 v5 v6 : V) : List (Str × V) := [("wide", v0), ("now", v1), ("rows", v2), ("tops", v3), ("lows", v4), ("sum", v5), ("work", v6)]
theorem fq_Window_wide_now : (("wide" : Str) = "now") = False := eq_false (by decide +kernel)
theorem fq_Window_wide_rows : (("wide" : Str) = "rows") = False := eq_false (by decide +kernel)
theorem fq_Window_wide_tops : (("wide" : Str) = "tops") = False := eq_false (by decide +kernel)
theorem fq_Window_wide_lows : (("wide" : Str) = "lows") = False := eq_false (by decide +kernel)
theorem fq_Window_wide_sum : (("wide" : Str) = "sum") = False := eq_false (by decide +kernel)
theorem fq_Window_wide_work : (("wide" : Str) = "work") = False := eq_false (by decide +kernel)
theorem fq_Window_now_wide : (("now" : Str) = "wide") = False := eq_false (by decide +kernel)
theorem fq_Window_now_rows : (("now" : Str) = "rows") = False := eq_false (by decide +kernel)
theorem fq_Window_now_tops : (("now" : Str) = "tops") = False := eq_false (by decide +kernel)
theorem fq_Window_now_lows : (("now" : Str) = "lows") = False := eq_false (by decide +kernel)
theorem fq_Window_now_sum : (("now" : Str) = "sum") = False := eq_false (by decide +kernel)
theorem fq_Window_now_work : (("now" : Str) = "work") = False := eq_false (by decide +kernel)
theorem fq_Window_rows_wide : (("rows" : Str) = "wide") = False := eq_false (by decide +kernel)
theorem fq_Window_rows_now : (("rows" : Str) = "now") = False := eq_false (by decide +kernel)
theorem fq_Window_rows_tops : (("rows" : Str) = "tops") = False := eq_false (by decide +kernel)
theorem fq_Window_rows_lows : (("rows" : Str) = "lows") = False := eq_false (by decide +kernel)
theorem fq_Window_rows_sum : (("rows" : Str) = "sum") = False := eq_false (by decide +kernel)
theorem fq_Window_rows_work : (("rows" : Str) = "work") = False := eq_false (by decide +kernel)
theorem fq_Window_tops_wide : (("tops" : Str) = "wide") = False := eq_false (by decide +kernel)
theorem fq_Window_tops_now : (("tops" : Str) = "now") = False := eq_false (by decide +kernel)
theorem fq_Window_tops_rows : (("tops" : Str) = "rows") = False := eq_false (by decide +kernel)
theorem fq_Window_tops_lows : (("tops" : Str) = "lows") = False := eq_false (by decide +kernel)
theorem fq_Window_tops_sum : (("tops" : Str) = "sum") = False := eq_false (by decide +kernel)
theorem fq_Window_tops_work : (("tops" : Str) = "work") = False := eq_false (by decide +kernel)
theorem fq_Window_lows_wide : (("lows" : Str) = "wide") = False := eq_false (by decide +kernel)
theorem fq_Window_lows_now : (("lows" : Str) = "now") = False := eq_false (by decide +kernel)
theorem fq_Window_lows_rows : (("lows" : Str) = "rows") = False := eq_false (by decide +kernel)
theorem fq_Window_lows_tops : (("lows" : Str) = "tops") = False := eq_false (by decide +kernel)
theorem fq_Window_lows_sum : (("lows" : Str) = "sum") = False := eq_false (by decide +kernel)
theorem fq_Window_lows_work : (("lows" : Str) = "work") = False := eq_false (by decide +kernel)
theorem fq_Window_sum_wide : (("sum" : Str) = "wide") = False := eq_false (by decide +kernel)
theorem fq_Window_sum_now : (("sum" : Str) = "now") = False := eq_false (by decide +kernel)
theorem fq_Window_sum_rows : (("sum" : Str) = "rows") = False := eq_false (by decide +kernel)
theorem fq_Window_sum_tops : (("sum" : Str) = "tops") = False := eq_false (by decide +kernel)
theorem fq_Window_sum_lows : (("sum" : Str) = "lows") = False := eq_false (by decide +kernel)
theorem fq_Window_sum_work : (("sum" : Str) = "work") = False := eq_false (by decide +kernel)
theorem fq_Window_work_wide : (("work" : Str) = "wide") = False := eq_false (by decide +kernel)
theorem fq_Window_work_now : (("work" : Str) = "now") = False := eq_false (by decide +kernel)
theorem fq_Window_work_rows : (("work" : Str) = "rows") = False := eq_false (by decide +kernel)
theorem fq_Window_work_tops : (("work" : Str) = "tops") = False := eq_false (by decide +kernel)
theorem fq_Window_work_lows : (("work" : Str) = "lows") = False := eq_false (by decide +kernel)
theorem fq_Window_work_sum : (("work" : Str) = "sum") = False := eq_false (by decide +kernel)
theorem fp_Window_wide {v0 v1 v2 v3 v4 v5 v6 x : V} : putF "wide" x (fl_Window v0 v1 v2 v3 v4 v5 v6) = fl_Window x v1 v2 v3 v4 v5 v6 := by simp [fl_Window, putF, fq_Window_now_wide, fq_Window_rows_wide, fq_Window_tops_wide, fq_Window_lows_wide, fq_Window_sum_wide, fq_Window_work_wide]
theorem fg_Window_wide {v0 v1 v2 v3 v4 v5 v6 : V} : (fl_Window v0 v1 v2 v3 v4 v5 v6).lookup ("wide" : Str) = some v0 := by rfl
theorem fp_Window_now {v0 v1 v2 v3 v4 v5 v6 x : V} : putF "now" x (fl_Window v0 v1 v2 v3 v4 v5 v6) = fl_Window v0 x v2 v3 v4 v5 v6 := by simp [fl_Window, putF, fq_Window_wide_now, fq_Window_rows_now, fq_Window_tops_now, fq_Window_lows_now, fq_Window_sum_now, fq_Window_work_now]
theorem fg_Window_now {v0 v1 v2 v3 v4 v5 v6 : V} : (fl_Window v0 v1 v2 v3 v4 v5 v6).lookup ("now" : Str) = some v1 := by rfl
theorem fp_Window_rows {v0 v1 v2 v3 v4 v5 v6 x : V} : putF "rows" x (fl_Window v0 v1 v2 v3 v4 v5 v6) = fl_Window v0 v1 x v3 v4 v5 v6 := by simp [fl_Window, putF, fq_Window_wide_rows, fq_Window_now_rows, fq_Window_tops_rows, fq_Window_lows_rows, fq_Window_sum_rows, fq_Window_work_rows]
theorem fg_Window_rows {v0 v1 v2 v3 v4 v5 v6 : V} : (fl_Window v0 v1 v2 v3 v4 v5 v6).lookup ("rows" : Str) = some v2 := by rfl
theorem fp_Window_tops {v0 v1 v2 v3 v4 v5 v6 x : V} : putF "tops" x (fl_Window v0 v1 v2 v3 v4 v5 v6) = fl_Window v0 v1 v2 x v4 v5 v6 := by simp [fl_Window, putF, fq_Window_wide_tops, fq_Window_now_tops, fq_Window_rows_tops, fq_Window_lows_tops, fq_Window_sum_tops, fq_Window_work_tops]
theorem fg_Window_tops {v0 v1 v2 v3 v4 v5 v6 : V} : (fl_Window v0 v1 v2 v3 v4 v5 v6).lookup ("tops" : Str) = some v3 := by rfl
theorem fp_Window_lows {v0 v1 v2 v3 v4 v5 v6 x : V} : putF "lows" x (fl_Window v0 v1 v2 v3 v4 v5 v6) = fl_Window v0 v1 v2 v3 x v5 v6 := by simp [fl_Window, putF, fq_Window_wide_lows, fq_Window_now_lows, fq_Window_rows_lows, fq_Window_tops_lows, fq_Window_sum_lows, fq_Window_work_lows]
theorem fg_Window_lows {v0 v1 v2 v3 v4 v5 v6 : V} : (fl_Window v0 v1 v2 v3 v4 v5 v6).lookup ("lows" : Str) = some v4 := by rfl
theorem fp_Window_sum {v0 v1 v2 v3 v4 v5 v6 x : V} : putF "sum" x (fl_Window v0 v1 v2 v3 v4 v5 v6) = fl_Window v0 v1 v2 v3 v4 x v6 := by simp [fl_Window, putF, fq_Window_wide_sum, fq_Window_now_sum, fq_Window_rows_sum, fq_Window_tops_sum, fq_Window_lows_sum, fq_Window_work_sum]
theorem fg_Window_sum {v0 v1 v2 v3 v4 v5 v6 : V} : (fl_Window v0 v1 v2 v3 v4 v5 v6).lookup ("sum" : Str) = some v5 := by rfl
theorem fp_Window_work {v0 v1 v2 v3 v4 v5 v6 x : V} : putF "work" x (fl_Window v0 v1 v2 v3 v4 v5 v6) = fl_Window v0 v1 v2 v3 v4 v5 x := by simp [fl_Window, putF, fq_Window_wide_work, fq_Window_now_work, fq_Window_rows_work, fq_Window_tops_work, fq_Window_lows_work, fq_Window_sum_work]
theorem fg_Window_work {v0 v1 v2 v3 v4 v5 v6 : V} : (fl_Window v0 v1 v2 v3 v4 v5 v6).lookup ("work" : Str) = some v6 := by rfl
theorem fn_Window {v0 v1 v2 v3 v4 v5 v6 : V} : (fl_Window v0 v1 v2 v3 v4 v5 v6).length = 7 := rfl
theorem fi_Window_wide {x : V} : putF "wide" x [] = [(("wide" : Str), x)] := by simp [fl_Window, putF]
theorem fi_Window_now {v0 x : V} : putF "now" x [(("wide" : Str), v0)] = [(("wide" : Str), v0), (("now" : Str), x)] := by simp [fl_Window, putF, fq_Window_wide_now]
theorem fi_Window_rows {v0 v1 x : V} : putF "rows" x [(("wide" : Str), v0), (("now" : Str), v1)] = [(("wide" : Str), v0), (("now" : Str), v1), (("rows" : Str), x)] := by simp [fl_Window, putF, fq_Window_wide_rows, fq_Window_now_rows]
theorem fi_Window_tops {v0 v1 v2 x : V} : putF "tops" x [(("wide" : Str), v0), (("now" : Str), v1), (("rows" : Str), v2)] = [(("wide" : Str), v0), (("now" : Str), v1), (("rows" : Str), v2), (("tops" : Str), x)] := by simp [fl_Window, putF, fq_Window_wide_tops, fq_Window_now_tops, fq_Window_rows_tops]
theorem fi_Window_lows {v0 v1 v2 v3 x : V} : putF "lows" x [(("wide" : Str), v0), (("now" : Str), v1), (("rows" : Str), v2), (("tops" : Str), v3)] = [(("wide" : Str), v0), (("now" : Str), v1), (("rows" : Str), v2), (("tops" : Str), v3), (("lows" : Str), x)] := by simp [fl_Window, putF, fq_Window_wide_lows, fq_Window_now_lows, fq_Window_rows_lows, fq_Window_tops_lows]
theorem fi_Window_sum {v0 v1 v2 v3 v4 x : V} : putF "sum" x [(("wide" : Str), v0), (("now" : Str), v1), (("rows" : Str), v2), (("tops" : Str), v3), (("lows" : Str), v4)] = [(("wide" : Str), v0), (("now" : Str), v1), (("rows" : Str), v2), (("tops" : Str), v3), (("lows" : Str), v4), (("sum" : Str), x)] := by simp [fl_Window, putF, fq_Window_wide_sum, fq_Window_now_sum, fq_Window_rows_sum, fq_Window_tops_sum, fq_Window_lows_sum]
theorem fi_Window_work {v0 v1 v2 v3 v4 v5 x : V} : putF "work" x [(("wide" : Str), v0), (("now" : Str), v1), (("rows" : Str), v2), (("tops" : Str), v3), (("lows" : Str), v4), (("sum" : Str), v5)] = fl_Window v0 v1 v2 v3 v4 v5 x := by simp [fl_Window, putF, fq_Window_wide_work, fq_Window_now_work, fq_Window_rows_work, fq_Window_tops_work, fq_Window_lows_work, fq_Window_sum_work]
theorem fm_Window_come {v0 v1 v2 v3 v4 v5 v6 : V} : (fl_Window v0 v1 v2 v3 v4 v5 v6).lookup ("come" : Str) = none := by rfl
theorem fm_Window_put {v0 v1 v2 v3 v4 v5 v6 : V} : (fl_Window v0 v1 v2 v3 v4 v5 v6).lookup ("put" : Str) = none := by rfl
theorem fm_Window_check {v0 v1 v2 v3 v4 v5 v6 : V} : (fl_Window v0 v1 v2 v3 v4 v5 v6).lookup ("check" : Str) = none := by rfl
theorem fm_Window_greatest {v0 v1 v2 v3 v4 v5 v6 : V} : (fl_Window v0 v1 v2 v3 v4 v5 v6).lookup ("greatest" : Str) = none := by rfl
theorem fm_Window_least {v0 v1 v2 v3 v4 v5 v6 : V} : (fl_Window v0 v1 v2 v3 v4 v5 v6).lookup ("least" : Str) = none := by rfl
theorem fm_Window_total {v0 v1 v2 v3 v4 v5 v6 : V} : (fl_Window v0 v1 v2 v3 v4 v5 v6).lookup ("total" : Str) = none := by rfl
theorem fm_Window_many {v0 v1 v2 v3 v4 v5 v6 : V} : (fl_Window v0 v1 v2 v3 v4 v5 v6).lookup ("many" : Str) = none := by rfl
theorem fm_Window_steps {v0 v1 v2 v3 v4 v5 v6 : V} : (fl_Window v0 v1 v2 v3 v4 v5 v6).lookup ("steps" : Str) = none := by rfl
set_option maxHeartbeats 8000000
local macro_rules
  | `(tactic| wp_walk using $ts,*) => `(tactic| simp only [tSeq, tAsg, gName, tRet, tRetN, tNext, tDrop, tIfS, tIf, tBreak, tCont, tOp, tUn, tC, tCons, tNil, tCB, tCallS, tMakeE, tLst, tTup, tAnd, tOr, tNot, tYes, tSl, tPart, tNoPart, tRaiseN, tTryAs,
  dVar, dAdd, dI2, dI2C, dSub, dMod, dDiv, dPow, dLt, dLe, dGt, dGe, dMul, dEq, dNe, dIs, dIsNot, isNon, dNeg, dAbs, dMax2, dMin2, dInt, dLen, dListOf, dTupleOf, dIx, dFld, dSFld, dSAug, dAug, dTest, dTru, dAndV, dOrV, dNotV, dChain, dAppend, dPop, dPopAt, dInsert, dBM, dBM0, dMethE, dPar, dPar3, dgTup, dgCons, dgNil,
  dForL, dForT, dForR1, dForR2, dLcL, dLcT, dLcR1, dLcR2, dIsi, dIsE, tyName, seqAt_lst, seqAt_tup, seqAt_frz, lstAt_lst, tupAt_tup, atK_zero, atK_one,
  L2.start, List.map_cons, List.map_nil, List.length_cons, List.length_nil, List.cons_append, List.nil_append, List.replicate, Nat.sub_self, Nat.reduceAdd, Nat.reduceSub, List.set_cons_zero, List.set_cons_succ, List.getElem?_cons_zero, List.getElem?_cons_succ, wipe,
  Int.reduceEq, Int.reduceLT, Int.reduceLE, last_snoc, drop_snoc, len_snoc, atK_last, le00, p63, tn0, erz, n00, posS, eqS0, lt00, upd_same, upd_upd, upd_ne, ne_eq, not_false_eq_true, decide_true, decide_false, if_true, if_false, Bool.false_eq_true, Bool.not_true, Bool.not_false, decide_eq_true_eq, Bool.not_eq_true', true_and, and_true, reduceCtorEq, fn_Window, fp_Window_wide, fp_Window_now, fp_Window_rows, fp_Window_tops, fp_Window_lows, fp_Window_sum, fp_Window_work, fg_Window_wide, fg_Window_now, fg_Window_rows, fg_Window_tops, fg_Window_lows, fg_Window_sum, fg_Window_work, fi_Window_wide, fi_Window_now, fi_Window_rows, fi_Window_tops, fi_Window_lows, fi_Window_sum, fi_Window_work, fm_Window_come, fm_Window_put, fm_Window_check, fm_Window_greatest, fm_Window_least, fm_Window_total, fm_Window_many, fm_Window_steps, is_int_int, is_int_bool, is_int_str, is_int_list, is_int_tuple, is_int_dict, is_bool_int, is_bool_bool, is_bool_str, is_bool_list, is_bool_tuple, is_bool_dict, is_NoneType_int, is_NoneType_bool, is_NoneType_str, is_NoneType_list, is_NoneType_tuple, is_NoneType_dict, is_str_int, is_str_bool, is_str_str, is_str_list, is_str_tuple, is_str_dict, is_list_int, is_list_bool, is_list_str, is_list_list, is_list_tuple, is_list_dict, is_tuple_int, is_tuple_bool, is_tuple_str, is_tuple_list, is_tuple_tuple, is_tuple_dict, is_dict_int, is_dict_bool, is_dict_str, is_dict_list, is_dict_tuple, is_dict_dict, kn_int_int, kn_int_bool, kn_int_str, kn_int_list, kn_int_tuple, kn_int_dict, kn_bool_int, kn_bool_bool, kn_bool_str, kn_bool_list, kn_bool_tuple, kn_bool_dict, kn_NoneType_int, kn_NoneType_bool, kn_NoneType_str, kn_NoneType_list, kn_NoneType_tuple, kn_NoneType_dict, kn_str_int, kn_str_bool, kn_str_str, kn_str_list, kn_str_tuple, kn_str_dict, kn_list_int, kn_list_bool, kn_list_str, kn_list_list, kn_list_tuple, kn_list_dict, kn_tuple_int, kn_tuple_bool, kn_tuple_str, kn_tuple_list, kn_tuple_tuple, kn_tuple_dict, kn_dict_int, kn_dict_bool, kn_dict_str, kn_dict_list, kn_dict_tuple, kn_dict_dict, ite_true, ite_false, $[$ts:term],*])
  | `(tactic| wide_line using [$ts,*]) => `(tactic| simp only [tAsg, gName, tRet, tRetN, tNext, tDrop, tIfS, tIf, tBreak, tCont, tOp, tUn, tC, tCons, tNil, tCB, tCallS, tMakeE, tLst, tTup, tAnd, tOr, tNot, tYes, tSl, tPart, tNoPart, tRaiseN, tTryAs,
  dVar, dAdd, dI2, dI2C, dSub, dMod, dDiv, dPow, dLt, dLe, dGt, dGe, dMul, dEq, dNe, dIs, dIsNot, isNon, dNeg, dAbs, dMax2, dMin2, dInt, dLen, dListOf, dTupleOf, dIx, dFld, dSFld, dSAug, dAug, dTest, dTru, dAndV, dOrV, dNotV, dChain, dAppend, dPop, dPopAt, dInsert, dBM, dBM0, dMethE, dPar, dPar3, dgTup, dgCons, dgNil,
  dForL, dForT, dForR1, dForR2, dLcL, dLcT, dLcR1, dLcR2, dIsi, dIsE, tyName, seqAt_lst, seqAt_tup, seqAt_frz, lstAt_lst, tupAt_tup, atK_zero, atK_one,
  L2.start, List.map_cons, List.map_nil, List.length_cons, List.length_nil, List.cons_append, List.nil_append, List.replicate, Nat.sub_self, Nat.reduceAdd, Nat.reduceSub, List.set_cons_zero, List.set_cons_succ, List.getElem?_cons_zero, List.getElem?_cons_succ, wipe,
  Int.reduceEq, Int.reduceLT, Int.reduceLE, last_snoc, drop_snoc, len_snoc, atK_last, le00, p63, tn0, erz, n00, posS, eqS0, lt00, upd_same, upd_upd, upd_ne, ne_eq, not_false_eq_true, decide_true, decide_false, if_true, if_false, Bool.false_eq_true, Bool.not_true, Bool.not_false, decide_eq_true_eq, Bool.not_eq_true', true_and, and_true, reduceCtorEq, fn_Window, fp_Window_wide, fp_Window_now, fp_Window_rows, fp_Window_tops, fp_Window_lows, fp_Window_sum, fp_Window_work, fg_Window_wide, fg_Window_now, fg_Window_rows, fg_Window_tops, fg_Window_lows, fg_Window_sum, fg_Window_work, fi_Window_wide, fi_Window_now, fi_Window_rows, fi_Window_tops, fi_Window_lows, fi_Window_sum, fi_Window_work, fm_Window_come, fm_Window_put, fm_Window_check, fm_Window_greatest, fm_Window_least, fm_Window_total, fm_Window_many, fm_Window_steps, is_int_int, is_int_bool, is_int_str, is_int_list, is_int_tuple, is_int_dict, is_bool_int, is_bool_bool, is_bool_str, is_bool_list, is_bool_tuple, is_bool_dict, is_NoneType_int, is_NoneType_bool, is_NoneType_str, is_NoneType_list, is_NoneType_tuple, is_NoneType_dict, is_str_int, is_str_bool, is_str_str, is_str_list, is_str_tuple, is_str_dict, is_list_int, is_list_bool, is_list_str, is_list_list, is_list_tuple, is_list_dict, is_tuple_int, is_tuple_bool, is_tuple_str, is_tuple_list, is_tuple_tuple, is_tuple_dict, is_dict_int, is_dict_bool, is_dict_str, is_dict_list, is_dict_tuple, is_dict_dict, kn_int_int, kn_int_bool, kn_int_str, kn_int_list, kn_int_tuple, kn_int_dict, kn_bool_int, kn_bool_bool, kn_bool_str, kn_bool_list, kn_bool_tuple, kn_bool_dict, kn_NoneType_int, kn_NoneType_bool, kn_NoneType_str, kn_NoneType_list, kn_NoneType_tuple, kn_NoneType_dict, kn_str_int, kn_str_bool, kn_str_str, kn_str_list, kn_str_tuple, kn_str_dict, kn_list_int, kn_list_bool, kn_list_str, kn_list_list, kn_list_tuple, kn_list_dict, kn_tuple_int, kn_tuple_bool, kn_tuple_str, kn_tuple_list, kn_tuple_tuple, kn_tuple_dict, kn_dict_int, kn_dict_bool, kn_dict_str, kn_dict_list, kn_dict_tuple, kn_dict_dict, ite_true, ite_false, $[$ts:term],*])
  | `(tactic| walk_at "ev") => `(tactic| wp_walk using upd_same)
/-! ### what every law of this kind begins with -/
theorem sz {n : Nat} (h : n ≤ 1000000) : n < sizeLine := by rw [sizeLine_eq]; omega
theorem map_snoc (ms : List Int) (z : Int) : ms.map V.int ++ [V.int z] = (ms ++ [z]).map V.int := by simp
def sp_law_take : Sp := fun vs H Q _ => ∃ (d : Addr) (ns : List Int) (b : Int), vs = [.ref d, .int b] ∧ H d = some (.lst (ns.map V.int)) ∧ 0 < b ∧ ∀ (r : Int) (ns' : List Int), 0 ≤ r → r < b → Q (.int r) (upd H d (.lst (ns'.map V.int)))
def sp_law_draws (K : PySem.W.Frag) : Sp := fun vs H Q _ => ∃ (a : Addr) (ns : List Int), vs = [.ref a] ∧ SqL K H a (ns.map V.int) ∧ ns.length ≤ 63 ∧
  ∀ (d : Addr) (H' : Hp) (ms : List Int), H d = none → Same H H' → H' d = some (.lst (ms.map V.int)) → Q (.ref d) H'
def sp_law_alike (K : PySem.W.Frag) (n : Nat) : Sp := fun vs H Q _ => ∃ (x y : V) (d : PyData), vs = [x, y] ∧ Da H n x d ∧ Da H n y d ∧ ∀ H', Same H H' → Q (.bl true) H'
def sp_law_word (K : PySem.W.Frag) (A : Ads) : SpE := fun a c d vs H Q _ => ∃ (D : Addr) (b1 b2 b3 b4 b5 : Bool) (w : Str), vs = [.ref a] ∧ c = .ref D ∧ d = none ∧ ExcC K D ∧
  PySem.W.kitOne K (.ref D) (.ref A.OutOfRange) = some b1 ∧ PySem.W.kitOne K (.ref D) (.ref A.Malformed) = some b2 ∧ PySem.W.kitOne K (.ref D) (.ref A.NotThere) = some b3 ∧ PySem.W.kitOne K (.ref D) (.ref A.Refused) = some b4 ∧ PySem.W.kitOne K (.ref D) (.ref A.TooMuch) = some b5 ∧
  (b1, b2, b3, b4, b5, w) ∈ ([(true, false, false, false, false, "range"), (false, true, false, false, false, "form"), (false, false, true, false, false, "none"), (false, false, false, true, false, "refused"), (false, false, false, false, true, "much")] : List (Bool × Bool × Bool × Bool × Bool × Str)) ∧
  ∀ H', Same H H' → Q (.str w) H'
/-- an exception's class, and the word for it -/
structure WordOk (K : PySem.W.Frag) (A : Ads) (D : Addr) (w : Str) : Prop where
  ex : ExcC K D
  te : PySem.W.exmOne K (.ref D) (.ref A.TraceError) = some true
  kit : ∃ b1 b2 b3 b4 b5, PySem.W.kitOne K (.ref D) (.ref A.OutOfRange) = some b1 ∧ PySem.W.kitOne K (.ref D) (.ref A.Malformed) = some b2 ∧ PySem.W.kitOne K (.ref D) (.ref A.NotThere) = some b3 ∧ PySem.W.kitOne K (.ref D) (.ref A.Refused) = some b4 ∧ PySem.W.kitOne K (.ref D) (.ref A.TooMuch) = some b5 ∧
    (b1, b2, b3, b4, b5, w) ∈ ([(true, false, false, false, false, "range"), (false, true, false, false, false, "form"), (false, false, true, false, false, "none"), (false, false, false, true, false, "refused"), (false, false, false, false, true, "much")] : List (Bool × Bool × Bool × Bool × Bool × Str))
theorem WordOk.sp {K : PySem.W.Frag} {A : Ads} {D a : Addr} {w : Str} {H : Hp} {Q : VK} {E : XK} (h : WordOk K A D w) (q : ∀ H', Same H H' → Q (.str w) H') : sp_law_word K A a (.ref D) none [.ref a] H Q E :=
  let ⟨b1, b2, b3, b4, b5, h1, h2, h3, h4, h5, m⟩ := h.kit
  ⟨D, b1, b2, b3, b4, b5, w, rfl, rfl, rfl, h.ex, h1, h2, h3, h4, h5, m, q⟩
/-- what is caught is told by its word -/
theorem WordOk.told {K : PySem.W.Frag} {A : Ads} {D : Addr} {w : Str} {i : Nat} {H : Hp} {σ : L2.St} {De : Ends} {Wout : WX} (h : WordOk K A D w) (hi : i < σ.length) (q : ∀ H', Same H H' → De.rt (.str w) H') :
    wAs K (.ref A.TraceError) i (fun a cls d => tRet (tCallE (sp_law_word K A) a cls d (tCons (dVar i) tNil))) Wout De (.ref D) none σ H := by
  refine ⟨true, h.te, fun _ a ha => ?_, fun e => (nomatch e)⟩
  have e : (σ.set i (some (V.ref a)))[i]? = some (some (V.ref a)) := by rw [List.getElem?_set_self hi]
  simp only [tRet, tCallE, tCons, dVar, tNil, e]
  exact h.sp q
/-! ### windows: what stands -/
def Pr (H : Hp) (v : V) (p : Int × Int) : Prop := ∃ t, v = .ref t ∧ H t = some (.tup [.int p.1, .int p.2])
theorem Pr.kt {H H' : Hp} (k : KT H H') {v : V} {p : Int × Int} (h : Pr H v p) : Pr H' v p := let ⟨t, e, q⟩ := h; ⟨t, e, k _ _ q⟩
theorem prs_kt {H H' : Hp} (k : KT H H') {vs : List V} {ps : List (Int × Int)} (h : Paired (Pr H) vs ps) : Paired (Pr H') vs ps := Paired.mapP h fun _ _ q => q.kt k
structure WS where
  wide : Int
  now : Int
  rows : List (Int × Int)
  tops : List (Int × Int)
  lows : List (Int × Int)
  sum : Int
  work : Int
def LstP (H : Hp) (r : Addr) (ps : List (Int × Int)) : Prop := ∃ vs, H r = some (.lst vs) ∧ Paired (Pr H) vs ps
abbrev WS.fl (s : WS) (r t l : Addr) : List (Str × V) := fl_Window (.int s.wide) (.int s.now) (.ref r) (.ref t) (.ref l) (.int s.sum) (.int s.work)
structure WinAt (A : Ads) (H : Hp) (w r t l : Addr) (s : WS) : Prop where
  ob : ∃ dx, H w = some (.ins A.Window dx (s.fl r t l))
  rw : LstP H r s.rows
  tp : LstP H t s.tops
  lw : LstP H l s.lows
  rt : r ≠ t
  rl : r ≠ l
  tl : t ≠ l
/-- all but the window's own objects -/
def FrW (H H' : Hp) (w r t l : Addr) : Prop := ∀ b o, H b = some o → b ≠ w → b ≠ r → b ≠ t → b ≠ l → H' b = some o
theorem FrW.refl {H : Hp} {w r t l : Addr} : FrW H H w r t l := fun _ _ h _ _ _ _ => h
theorem FrW.trans {H H1 H2 : Hp} {w r t l : Addr} (a : FrW H H1 w r t l) (b : FrW H1 H2 w r t l) : FrW H H2 w r t l := fun x o h h1 h2 h3 h4 => b x o (a x o h h1 h2 h3 h4) h1 h2 h3 h4
theorem LstP.ne {H : Hp} {r w C dx : Addr} {fs : List (Str × V)} {ps : List (Int × Int)} (h : LstP H r ps) (hw : H w = some (.ins C dx fs)) : w ≠ r := by
  obtain ⟨vs, h, _⟩ := h
  exact ne_of hw h (by intro z; cases z)
theorem FrW.kt {A : Ads} {H H' : Hp} {w r t l : Addr} {s : WS} (W : WinAt A H w r t l s) (f : FrW H H' w r t l) : KT H H' := fun b xs h => by
  obtain ⟨dx, hw⟩ := W.ob
  obtain ⟨v1, h1, _⟩ := W.rw
  obtain ⟨v2, h2, _⟩ := W.tp
  obtain ⟨v3, h3, _⟩ := W.lw
  exact f b _ h (ne_of h hw (by intro z; cases z)) (ne_of h h1 (by intro z; cases z)) (ne_of h h2 (by intro z; cases z)) (ne_of h h3 (by intro z; cases z))
theorem LstP.keep {H H' : Hp} {r : Addr} {ps : List (Int × Int)} (k : KT H H') (h : LstP H r ps) (e : H' r = H r) : LstP H' r ps := let ⟨vs, a, b⟩ := h; ⟨vs, e.trans a, prs_kt k b⟩
/-- the window's objects stand elsewhere -/
theorem WinAt.frame {A : Ads} {H H' : Hp} {w r t l : Addr} {s : WS} (W : WinAt A H w r t l s) (k : KT H H') (h1 : H' w = H w) (h2 : H' r = H r) (h3 : H' t = H t) (h4 : H' l = H l) : WinAt A H' w r t l s :=
  ⟨let ⟨dx, h⟩ := W.ob; ⟨dx, h1.trans h⟩, W.rw.keep k h2, W.tp.keep k h3, W.lw.keep k h4, W.rt, W.rl, W.tl⟩
theorem WinAt.same {A : Ads} {H H' : Hp} {w r t l : Addr} {s : WS} (W : WinAt A H w r t l s) (k : Same H H') : WinAt A H' w r t l s := by
  obtain ⟨dx, hw⟩ := W.ob
  obtain ⟨v1, h1, _⟩ := W.rw
  obtain ⟨v2, h2, _⟩ := W.tp
  obtain ⟨v3, h3, _⟩ := W.lw
  exact W.frame (KT.same k) ((k _ _ hw).trans hw.symm) ((k _ _ h1).trans h1.symm) ((k _ _ h2).trans h2.symm) ((k _ _ h3).trans h3.symm)
def cut (c : Int) (l : List (Int × Int)) : List (Int × Int) := l.dropWhile fun p => decide (p.1 ≤ c)
def out (c : Int) (l : List (Int × Int)) : List (Int × Int) := l.takeWhile fun p => decide (p.1 ≤ c)
def sum2 (l : List (Int × Int)) : Int := (l.map (·.2)).sum
def WS.come (s : WS) (time : Int) : WS :=
  { s with now := time, rows := cut (time - s.wide) s.rows, tops := cut (time - s.wide) s.tops, lows := cut (time - s.wide) s.lows, sum := s.sum - sum2 (out (time - s.wide) s.rows),
           work := s.work + (out (time - s.wide) s.rows).length + (out (time - s.wide) s.tops).length + (out (time - s.wide) s.lows).length }
/-- what stays behind those that are popped at the end -/
def keepTop (n : Int) (l : List (Int × Int)) : List (Int × Int) := (l.reverse.dropWhile fun p => decide (p.2 ≤ n)).reverse
def keepLow (n : Int) (l : List (Int × Int)) : List (Int × Int) := (l.reverse.dropWhile fun p => decide (n ≤ p.2)).reverse
def WS.put (s : WS) (time number : Int) : WS :=
  { s with rows := s.rows ++ [(time, number)], tops := keepTop number s.tops ++ [(time, number)], lows := keepLow number s.lows ++ [(time, number)], sum := s.sum + number,
           work := s.work + (s.tops.length - (keepTop number s.tops).length : Nat) + (s.lows.length - (keepLow number s.lows).length : Nat) }
def sp_is_number : Sp := fun vs H Q _ => ∃ (v : V) (lo hi : Int), vs = [v, .int lo, .int hi] ∧ ((v = .non ∨ (∃ b, v = .bl b) ∨ (∃ i, v = .int i) ∨ ∃ x, v = .str x) ∧ ∀ b, (b = true ↔ ∃ i, v = .int i ∧ lo ≤ i ∧ i ≤ hi) → Q (.bl b) H)
def sp_Window__init_ (A : Ads) : Sp := fun vs H Q E => ∃ (x dx : Addr) (v : V), vs = [.ref x, v] ∧ H x = some (.ins A.Window dx []) ∧ (v = .non ∨ (∃ b, v = .bl b) ∨ (∃ i, v = .int i) ∨ ∃ x, v = .str x) ∧
  (¬ (∃ i, v = .int i ∧ 1 ≤ i ∧ i ≤ 1000000000) → E (.ref A.OutOfRange) none H) ∧
  (∀ i, v = .int i → 1 ≤ i → i ≤ 1000000000 → ∀ r t l H', WinAt A H' x r t l ⟨i, 0, [], [], [], 0, 0⟩ → (∀ b o, H b = some o → b ≠ x → H' b = some o) → H r = none → H t = none → H l = none → Q .non H')
def sp_Window_come (A : Ads) : Sp := fun vs H Q E => ∃ (w r t l : Addr) (s : WS) (time : Int), vs = [.ref w, .int time] ∧ WinAt A H w r t l s ∧ (time < s.now → E (.ref A.OutOfRange) none H) ∧
  (s.now ≤ time → ∀ H', WinAt A H' w r t l (s.come time) → FrW H H' w r t l → Q .non H')
def sp_Window_put (A : Ads) : Sp := fun vs H Q E => ∃ (w r t l : Addr) (s : WS) (time number : Int), vs = [.ref w, .int time, .int number] ∧ WinAt A H w r t l s ∧ s.rows.length ≤ 1000 ∧ s.tops.length ≤ 1000 ∧ s.lows.length ≤ 1000 ∧ (time < s.now → E (.ref A.OutOfRange) none H) ∧
  (s.now ≤ time → ∀ H', WinAt A H' w r t l ((s.come time).put time number) → FrW H H' w r t l → Q .non H')
def sp_Window_check (A : Ads) : Sp := fun vs H Q E => ∃ (w r t l : Addr) (s : WS), vs = [.ref w] ∧ WinAt A H w r t l s ∧ (s.rows = [] → E (.ref A.NotThere) none H) ∧ (s.rows ≠ [] → Q .non H)
def sp_Window_greatest (A : Ads) : Sp := fun vs H Q E => ∃ (w r t l : Addr) (s : WS), vs = [.ref w] ∧ WinAt A H w r t l s ∧ (s.rows = [] → E (.ref A.NotThere) none H) ∧ (s.rows ≠ [] → ∃ p ps, s.tops = p :: ps ∧ Q (.int p.2) H)
def sp_Window_least (A : Ads) : Sp := fun vs H Q E => ∃ (w r t l : Addr) (s : WS), vs = [.ref w] ∧ WinAt A H w r t l s ∧ (s.rows = [] → E (.ref A.NotThere) none H) ∧ (s.rows ≠ [] → ∃ p ps, s.lows = p :: ps ∧ Q (.int p.2) H)
def sp_Window_total (A : Ads) : Sp := fun vs H Q _ => ∃ (w r t l : Addr) (s : WS), vs = [.ref w] ∧ WinAt A H w r t l s ∧ Q (.int s.sum) H
def sp_Window_many (A : Ads) : Sp := fun vs H Q _ => ∃ (w r t l : Addr) (s : WS), vs = [.ref w] ∧ WinAt A H w r t l s ∧ Q (.int s.rows.length) H
def sp_Window_steps (A : Ads) : Sp := fun vs H Q _ => ∃ (w r t l : Addr) (s : WS), vs = [.ref w] ∧ WinAt A H w r t l s ∧ Q (.int s.work) H
def inWin (now wide : Int) (ps : List (Int × Int)) : List (Int × Int) := ps.filter fun p => decide (now - wide < p.1)
/-- the window answers as its history says -/
structure Fit (s : WS) (ps : List (Int × Int)) (now wide : Int) : Prop where
  rows : s.rows = inWin now wide ps
  top : s.rows ≠ [] → ∃ a b, s.tops = a :: b ∧ a.2 ∈ s.rows.map (·.2) ∧ ∀ y ∈ s.rows.map (·.2), y ≤ a.2
  low : s.rows ≠ [] → ∃ a b, s.lows = a :: b ∧ a.2 ∈ s.rows.map (·.2) ∧ ∀ y ∈ s.rows.map (·.2), a.2 ≤ y
  sum : s.sum = sum2 s.rows
def OffNum (v : V) : Prop := (v = .non ∨ (∃ b, v = .bl b) ∨ (∃ i, v = .int i) ∨ ∃ x, v = .str x) ∧ ¬ ∃ i, v = .int i ∧ 1 ≤ i ∧ i ≤ 1000000000
def sp_law_told (K : PySem.W.Frag) (A : Ads) : Sp := fun vs H Q _ => ∃ (i : Int) (v a b : V), vs = [.int i, v, a, b] ∧
  ((∃ (w r t l : Addr) (s : WS), v = .ref w ∧ WinAt A H w r t l s ∧
    ((i = 0 ∧ (s.rows = [] → ∀ H', Same H H' → Q (.str "none") H') ∧ (s.rows ≠ [] → ∃ p ps, s.tops = p :: ps ∧ ∀ H', Same H H' → Q (.int p.2) H')) ∨
     (i = 1 ∧ (s.rows = [] → ∀ H', Same H H' → Q (.str "none") H') ∧ (s.rows ≠ [] → ∃ p ps, s.lows = p :: ps ∧ ∀ H', Same H H' → Q (.int p.2) H')) ∨
     (i = 2 ∧ ∃ time, a = .int time ∧ (time < s.now → ∀ H', Same H H' → Q (.str "range") H') ∧ (s.now ≤ time → ∀ H', WinAt A H' w r t l (s.come time) → FrW H H' w r t l → Q .non H')) ∨
     (i = 3 ∧ ∃ time number, a = .int time ∧ b = .int number ∧ s.rows.length ≤ 1000 ∧ s.tops.length ≤ 1000 ∧ s.lows.length ≤ 1000 ∧ (time < s.now → ∀ H', Same H H' → Q (.str "range") H') ∧ (s.now ≤ time → ∀ H', WinAt A H' w r t l ((s.come time).put time number) → FrW H H' w r t l → Q .non H')))) ∨
   (i = 4 ∧ OffNum a ∧ ∀ H', Same H H' → Q (.str "range") H'))
def sp_law_right (K : PySem.W.Frag) (A : Ads) : Sp := fun vs H Q _ => ∃ (w r t l q : Addr) (s : WS) (ps : List (Int × Int)) (now wide : Int), vs = [.ref w, .ref q, .int now, .int wide] ∧
  WinAt A H w r t l s ∧ LstP H q ps ∧ ps.length ≤ 1000 ∧ Fit s ps now wide ∧ ∀ H', Same H H' → Q (.bl true) H'
def sp_law (K : PySem.W.Frag) : Sp := fun vs H Q _ => ∃ (a : Addr) (ns : List Int), vs = [.ref a] ∧ SqL K H a (ns.map V.int) ∧ ns.length ≤ 63 ∧ ∀ H', Q (.bl true) H'
/-! ### steps of a window -/
section
variable {A : Ads} {H : Hp} {w r t l : Addr} {s : WS}
theorem WinAt.wr (W : WinAt A H w r t l s) : w ≠ r := let ⟨_, h⟩ := W.ob; W.rw.ne h
theorem WinAt.wt (W : WinAt A H w r t l s) : w ≠ t := let ⟨_, h⟩ := W.ob; W.tp.ne h
theorem WinAt.wl (W : WinAt A H w r t l s) : w ≠ l := let ⟨_, h⟩ := W.ob; W.lw.ne h
theorem lst_notup {a : Addr} {ps : List (Int × Int)} (h : LstP H a ps) : isTup (H a) = false := by
  obtain ⟨vs, h, _⟩ := h
  rw [h]
  rfl
theorem WinAt.setF (W : WinAt A H w r t l s) {s' : WS} {dx : Addr} (e1 : s'.rows = s.rows) (e2 : s'.tops = s.tops) (e3 : s'.lows = s.lows) : WinAt A (upd H w (.ins A.Window dx (s'.fl r t l))) w r t l s' := by
  have k : KT H (upd H w (.ins A.Window dx (s'.fl r t l))) := KT.mut (by obtain ⟨d, h⟩ := W.ob; rw [h]; rfl)
  refine ⟨⟨dx, upd_same⟩, ?_, ?_, ?_, W.rt, W.rl, W.tl⟩
  · rw [e1]; exact W.rw.keep k (upd_ne W.wr.symm)
  · rw [e2]; exact W.tp.keep k (upd_ne W.wt.symm)
  · rw [e3]; exact W.lw.keep k (upd_ne W.wl.symm)
theorem WinAt.setR (W : WinAt A H w r t l s) {vs : List V} {ps : List (Int × Int)} (p : Paired (Pr H) vs ps) : WinAt A (upd H r (.lst vs)) w r t l { s with rows := ps } := by
  have k : KT H (upd H r (.lst vs)) := KT.mut (lst_notup W.rw)
  exact ⟨let ⟨dx, h⟩ := W.ob; ⟨dx, (upd_ne W.wr).trans h⟩, ⟨vs, upd_same, prs_kt k p⟩, W.tp.keep k (upd_ne W.rt.symm), W.lw.keep k (upd_ne W.rl.symm), W.rt, W.rl, W.tl⟩
theorem WinAt.setT (W : WinAt A H w r t l s) {vs : List V} {ps : List (Int × Int)} (p : Paired (Pr H) vs ps) : WinAt A (upd H t (.lst vs)) w r t l { s with tops := ps } := by
  have k : KT H (upd H t (.lst vs)) := KT.mut (lst_notup W.tp)
  exact ⟨let ⟨dx, h⟩ := W.ob; ⟨dx, (upd_ne W.wt).trans h⟩, W.rw.keep k (upd_ne W.rt), ⟨vs, upd_same, prs_kt k p⟩, W.lw.keep k (upd_ne W.tl.symm), W.rt, W.rl, W.tl⟩
theorem WinAt.setL (W : WinAt A H w r t l s) {vs : List V} {ps : List (Int × Int)} (p : Paired (Pr H) vs ps) : WinAt A (upd H l (.lst vs)) w r t l { s with lows := ps } := by
  have k : KT H (upd H l (.lst vs)) := KT.mut (lst_notup W.lw)
  exact ⟨let ⟨dx, h⟩ := W.ob; ⟨dx, (upd_ne W.wl).trans h⟩, W.rw.keep k (upd_ne W.rl), W.tp.keep k (upd_ne W.tl), ⟨vs, upd_same, prs_kt k p⟩, W.rt, W.rl, W.tl⟩
theorem FrW.up {H0 : Hp} (f : FrW H0 H w r t l) {a : Addr} {o : HO} (h : a = w ∨ a = r ∨ a = t ∨ a = l) : FrW H0 (upd H a o) w r t l := fun b x hb n1 n2 n3 n4 => by
  rw [upd_ne (by rcases h with rfl | rfl | rfl | rfl <;> assumption)]
  exact f b x hb n1 n2 n3 n4
theorem FrW.new {H0 : Hp} (f : FrW H0 H w r t l) {a : Addr} {o : HO} (h : H0 a = none) : FrW H0 (upd H a o) w r t l := fun b x hb n1 n2 n3 n4 => by
  rw [upd_ne (ne_of_none hb h)]
  exact f b x hb n1 n2 n3 n4
theorem FrW.of_same {H' : Hp} (k : Same H H') : FrW H H' w r t l := fun b x hb _ _ _ _ => k b x hb
end
/-! ### what is cut off -/
theorem cut_cons {c : Int} {p : Int × Int} {q : List (Int × Int)} (h : p.1 ≤ c) : cut c (p :: q) = cut c q := by simp [cut, List.dropWhile_cons, h]
theorem out_cons {c : Int} {p : Int × Int} {q : List (Int × Int)} (h : p.1 ≤ c) : out c (p :: q) = p :: out c q := by simp [out, List.takeWhile_cons, h]
theorem cut_stop {c : Int} {q : List (Int × Int)} (h : ∀ p r, q = p :: r → ¬ p.1 ≤ c) : cut c q = q := by
  cases q with
  | nil => rfl
  | cons p r => simp [cut, List.dropWhile_cons, h p r rfl]
theorem out_stop {c : Int} {q : List (Int × Int)} (h : ∀ p r, q = p :: r → ¬ p.1 ≤ c) : out c q = [] := by
  cases q with
  | nil => rfl
  | cons p r => simp [out, List.takeWhile_cons, h p r rfl]
theorem sum2_cons {p : Int × Int} {q : List (Int × Int)} : sum2 (p :: q) = p.2 + sum2 q := by simp [sum2]
/-- nothing more is cut off -/
def StD (c : Int) (q : List (Int × Int)) : Prop := cut c q = q ∧ out c q = []
theorem stD {c : Int} {p : Int × Int} {q : List (Int × Int)} (h : ¬ p.1 ≤ c) : StD c (p :: q) := ⟨cut_stop (by rintro p r e; cases e; exact h), out_stop (by rintro p r e; cases e; exact h)⟩
theorem come_done {s s1 : WS} {time : Int} (g1 : s1.now = time) (g2 : s1.wide = s.wide) (g4 : StD (time - s.wide) s1.rows) (g5 : StD (time - s.wide) s1.tops) (g6 : StD (time - s.wide) s1.lows) : s1.come time = s1 := by
  obtain ⟨wide, now, rows, tops, lows, sum, work⟩ := s1
  dsimp only at g1 g2 g4 g5 g6
  subst g1 g2
  simp only [WS.come, g4.1, g5.1, g6.1, g4.2, g5.2, g6.2, WS.mk.injEq, true_and, sum2, List.map_nil, List.sum_nil, List.length_nil]
  omega
theorem FrW.new_any {A : Ads} {H0 H : Hp} {w r t l : Addr} {s : WS} (f : FrW H0 H w r t l) (W : WinAt A H w r t l s) {a : Addr} {o : HO} (h : H a = none) : FrW H0 (upd H a o) w r t l := fun b x hb n1 n2 n3 n4 => by
  have := f b x hb n1 n2 n3 n4
  rw [upd_ne (ne_of_none this h)]
  exact this
theorem paired_snoc {α β : Type} {F : α → β → Prop} {vs : List α} {ps : List β} (h : Paired F vs ps) : (vs = [] ∧ ps = []) ∨ ∃ v p vs' ps', vs = vs' ++ [v] ∧ ps = ps' ++ [p] ∧ F v p ∧ Paired F vs' ps' := by
  induction h with
  | nil => exact .inl ⟨rfl, rfl⟩
  | @cons v p vs ps f t ih =>
    rcases ih with ⟨rfl, rfl⟩ | ⟨v', p', vs', ps', rfl, rfl, f', t'⟩
    · exact .inr ⟨v, p, [], [], rfl, rfl, f, .nil⟩
    · exact .inr ⟨v', p', v :: vs', p :: ps', rfl, rfl, f', .cons f t'⟩
theorem keepTop_snoc {n : Int} {q : List (Int × Int)} {p : Int × Int} : keepTop n (q ++ [p]) = if p.2 ≤ n then keepTop n q else q ++ [p] := by
  unfold keepTop
  rw [List.reverse_append]
  show (List.dropWhile _ (p :: q.reverse)).reverse = _
  rw [List.dropWhile_cons]
  by_cases h : p.2 ≤ n
  · simp [h]
  · simp [h]
theorem keepLow_snoc {n : Int} {q : List (Int × Int)} {p : Int × Int} : keepLow n (q ++ [p]) = if n ≤ p.2 then keepLow n q else q ++ [p] := by
  unfold keepLow
  rw [List.reverse_append]
  show (List.dropWhile _ (p :: q.reverse)).reverse = _
  rw [List.dropWhile_cons]
  by_cases h : n ≤ p.2
  · simp [h]
  · simp [h]
theorem cut_len {c : Int} {q : List (Int × Int)} : (cut c q).length ≤ q.length := (List.dropWhile_sublist _).length_le
section
variable {A : Ads} {H : Hp} {w r t l p : Addr} {s : WS} {vs : List V} {a b : Int}
theorem LstP.pair {H : Hp} {r : Addr} {vs : List V} {ps : List (Int × Int)} (h : LstP H r ps) (e : H r = some (.lst vs)) : Paired (Pr H) vs ps := by
  obtain ⟨us, e', p⟩ := h
  cases e.symm.trans e'
  exact p
theorem pr_push {ps : List (Int × Int)} (pr : Paired (Pr H) vs ps) (hp : H p = none) : Paired (Pr (upd H p (.tup [.int a, .int b]))) (vs ++ [.ref p]) (ps ++ [(a, b)]) := paired_app (prs_kt (KT.new hp) pr) (.cons ⟨p, rfl, upd_same⟩ .nil)
theorem WinAt.pushR (W : WinAt A H w r t l s) (h : H r = some (.lst vs)) (hp : H p = none) : WinAt A (upd (upd H p (.tup [.int a, .int b])) r (.lst (vs ++ [.ref p]))) w r t l { s with rows := s.rows ++ [(a, b)] } := (W.same (same_new hp)).setR (pr_push (W.rw.pair h) hp)
theorem WinAt.pushT (W : WinAt A H w r t l s) (h : H t = some (.lst vs)) (hp : H p = none) : WinAt A (upd (upd H p (.tup [.int a, .int b])) t (.lst (vs ++ [.ref p]))) w r t l { s with tops := s.tops ++ [(a, b)] } := (W.same (same_new hp)).setT (pr_push (W.tp.pair h) hp)
theorem WinAt.pushL (W : WinAt A H w r t l s) (h : H l = some (.lst vs)) (hp : H p = none) : WinAt A (upd (upd H p (.tup [.int a, .int b])) l (.lst (vs ++ [.ref p]))) w r t l { s with lows := s.lows ++ [(a, b)] } := (W.same (same_new hp)).setL (pr_push (W.lw.pair h) hp)
end
theorem keepTop_len {n : Int} {q : List (Int × Int)} : (keepTop n q).length ≤ q.length := by unfold keepTop; rw [List.length_reverse, ← List.length_reverse (as := q)]; exact (List.dropWhile_sublist _).length_le
theorem keepLow_len {n : Int} {q : List (Int × Int)} : (keepLow n q).length ≤ q.length := by unfold keepLow; rw [List.length_reverse, ← List.length_reverse (as := q)]; exact (List.dropWhile_sublist _).length_le
/-! ### plain: what a window answers -/
def recs (f : Int → Int) : List (Int × Int) → List (Int × Int)
  | [] => []
  | p :: r => if ∀ q ∈ r, f q.2 < f p.2 then p :: recs f r else recs f r
def keepF (f : Int → Int) (n : Int) (l : List (Int × Int)) : List (Int × Int) := (l.reverse.dropWhile fun p => decide (f p.2 ≤ f n)).reverse
theorem keepTop_eq {n : Int} {l : List (Int × Int)} : keepTop n l = keepF (fun x => x) n l := rfl
theorem keepLow_eq {n : Int} {l : List (Int × Int)} : keepLow n l = keepF (fun x => -x) n l := by
  unfold keepLow keepF
  congr 2
  funext p
  exact decide_eq_decide.mpr (show n ≤ p.2 ↔ -p.2 ≤ -n by omega)
theorem recs_sub (f : Int → Int) : ∀ {l : List (Int × Int)} {p : Int × Int}, p ∈ recs f l → p ∈ l
  | [], _, h => h
  | p :: r, x, h => by
    unfold recs at h
    split at h
    · rcases List.mem_cons.mp h with rfl | h
      · exact List.mem_cons_self
      · exact List.mem_cons_of_mem _ (recs_sub f h)
    · exact List.mem_cons_of_mem _ (recs_sub f h)
theorem recs_len (f : Int → Int) : ∀ {l : List (Int × Int)}, (recs f l).length ≤ l.length
  | [] => Nat.le_refl _
  | p :: r => by
    unfold recs
    split
    · exact Nat.succ_le_succ (recs_len f)
    · exact Nat.le_succ_of_le (recs_len f)
theorem keepF_cons {f : Int → Int} {n : Int} {p : Int × Int} {l : List (Int × Int)} (h : f n < f p.2) : keepF f n (p :: l) = p :: keepF f n l := by
  unfold keepF
  rw [List.reverse_cons, List.dropWhile_append]
  split
  · rename_i h1
    rw [List.isEmpty_iff] at h1
    rw [h1, List.dropWhile_cons, if_neg (by simp; omega)]
    simp
  · simp
theorem keepF_all {f : Int → Int} {n : Int} {l : List (Int × Int)} (h : ∀ p ∈ l, f p.2 ≤ f n) : keepF f n l = [] := by
  unfold keepF
  rw [List.reverse_eq_nil_iff]
  have : ∀ m : List (Int × Int), (∀ p ∈ m, f p.2 ≤ f n) → m.dropWhile (fun p => decide (f p.2 ≤ f n)) = [] := by
    intro m hm
    induction m with
    | nil => rfl
    | cons a b ih =>
      rw [List.dropWhile_cons, if_pos (decide_eq_true (hm a List.mem_cons_self))]
      exact ih fun p hp => hm p (List.mem_cons_of_mem _ hp)
  exact this _ fun p hp => h p (List.mem_reverse.mp hp)
theorem recs_desc (f : Int → Int) : ∀ {l : List (Int × Int)} {p : Int × Int} {r : List (Int × Int)}, recs f l = p :: r → ∀ q ∈ l, f q.2 ≤ f p.2
  | [], _, _, e => by simp [recs] at e
  | a :: b, p, r, e => by
    intro q hq
    unfold recs at e
    split at e
    · rename_i h
      cases e
      rcases List.mem_cons.mp hq with rfl | hq
      · exact Int.le_refl _
      · exact Int.le_of_lt (h q hq)
    · rename_i h
      rcases List.mem_cons.mp hq with rfl | hq
      · by_cases hx : f q.2 ≤ f p.2
        · exact hx
        · exact absurd (fun z hz => Int.lt_of_le_of_lt (recs_desc f e z hz) (by omega)) h
      · exact recs_desc f e q hq
theorem recs_ne (f : Int → Int) : ∀ {l : List (Int × Int)}, l ≠ [] → recs f l ≠ []
  | [], h => absurd rfl h
  | a :: b, _ => by
    unfold recs
    split
    · exact List.cons_ne_nil _ _
    · rename_i h
      refine recs_ne f ?_
      rintro rfl
      exact h fun q hq => by simp at hq
theorem recs_push (f : Int → Int) (x : Int × Int) : ∀ l : List (Int × Int), recs f (l ++ [x]) = keepF f x.2 (recs f l) ++ [x]
  | [] => by simp [recs, keepF]
  | p :: r => by
    rw [List.cons_append]
    unfold recs
    by_cases h : ∀ q ∈ r, f q.2 < f p.2
    · rw [if_pos h]
      by_cases hx : f x.2 < f p.2
      · rw [if_pos (by intro q hq; rcases List.mem_append.mp hq with hq | hq; exact h q hq; simp at hq; subst hq; exact hx), recs_push f x r, keepF_cons hx, List.cons_append]
      · rw [if_neg (by intro hh; exact hx (hh x (by simp))), recs_push f x r, keepF_all (l := recs f r), keepF_all (l := p :: recs f r)]
        · intro q hq
          rcases List.mem_cons.mp hq with rfl | hq
          · omega
          · have := h q (recs_sub f hq); omega
        · intro q hq
          have := h q (recs_sub f hq); omega
    · rw [if_neg h, if_neg (fun hh => h fun q hq => hh q (List.mem_append_left _ hq))]
      exact recs_push f x r
def Srt (l : List (Int × Int)) : Prop := l.Pairwise fun p q => p.1 ≤ q.1
theorem recs_cut (f : Int → Int) (c : Int) : ∀ {l : List (Int × Int)}, Srt l → recs f (cut c l) = cut c (recs f l)
  | [], _ => rfl
  | p :: r, h => by
    have h' := List.pairwise_cons.mp h
    by_cases hc : p.1 ≤ c
    · rw [cut_cons hc, recs_cut f c h'.2]
      conv => rhs; rw [recs]
      split
      · rw [cut_cons hc]
      · rfl
    · rw [cut_stop (q := p :: r) (by rintro a b e; cases e; exact hc)]
      have hm : ∀ q ∈ recs f (p :: r), ¬ q.1 ≤ c := by
        intro q hq
        rcases List.mem_cons.mp (recs_sub f hq) with rfl | hq
        · exact hc
        · have := h'.1 q hq; omega
      rw [cut_stop]
      rintro a b e
      exact hm a (by rw [e]; exact List.mem_cons_self)
theorem cut_filter (c : Int) : ∀ {l : List (Int × Int)}, Srt l → cut c l = l.filter fun p => decide (c < p.1)
  | [], _ => rfl
  | p :: r, h => by
    have h' := List.pairwise_cons.mp h
    by_cases hc : p.1 ≤ c
    · rw [cut_cons hc, cut_filter c h'.2, List.filter_cons, if_neg (by simp; omega)]
    · rw [cut_stop (q := p :: r) (by rintro a b e; cases e; exact hc), List.filter_eq_self.mpr]
      intro q hq
      rcases List.mem_cons.mp hq with rfl | hq
      · simp; omega
      · have := h'.1 q hq; simp; omega
theorem out_cut {c : Int} {l : List (Int × Int)} : out c l ++ cut c l = l := List.takeWhile_append_dropWhile
theorem sum2_append {a b : List (Int × Int)} : sum2 (a ++ b) = sum2 a + sum2 b := by simp [sum2]
structure Hold (s : WS) (L : List (Int × Int)) (now wide : Int) : Prop where
  w : s.wide = wide
  n : s.now = now
  srt : Srt L
  le : ∀ p ∈ L, p.1 ≤ now
  rows : s.rows = inWin now wide L
  tops : s.tops = recs (fun x => x) s.rows
  lows : s.lows = recs (fun x => -x) s.rows
  sum : s.sum = sum2 s.rows
  work : s.work + s.rows.length + s.tops.length + s.lows.length = 3 * L.length
theorem Hold.fit {s : WS} {L : List (Int × Int)} {now wide : Int} (h : Hold s L now wide) : Fit s L now wide := by
  refine ⟨h.rows, fun hn => ?_, fun hn => ?_, h.sum⟩
  · obtain ⟨a, b, e⟩ := List.exists_cons_of_ne_nil (recs_ne (fun x => x) hn)
    refine ⟨a, b, h.tops.trans e, List.mem_map.mpr ⟨a, recs_sub _ (by rw [e]; exact List.mem_cons_self), rfl⟩, ?_⟩
    intro y hy
    obtain ⟨q, hq, rfl⟩ := List.mem_map.mp hy
    exact recs_desc _ e q hq
  · obtain ⟨a, b, e⟩ := List.exists_cons_of_ne_nil (recs_ne (fun x => -x) hn)
    refine ⟨a, b, h.lows.trans e, List.mem_map.mpr ⟨a, recs_sub _ (by rw [e]; exact List.mem_cons_self), rfl⟩, ?_⟩
    intro y hy
    obtain ⟨q, hq, rfl⟩ := List.mem_map.mp hy
    have := recs_desc _ e q hq
    omega
theorem hold0 {wide : Int} : Hold ⟨wide, 0, [], [], [], 0, 0⟩ [] 0 wide := ⟨rfl, rfl, .nil, by simp, rfl, rfl, rfl, rfl, rfl⟩
theorem inWin_srt {now wide : Int} {L : List (Int × Int)} (h : Srt L) : Srt (inWin now wide L) := List.Pairwise.filter _ h
theorem cut_inWin {now t wide : Int} {L : List (Int × Int)} (h : Srt L) (hle : now ≤ t) : cut (t - wide) (inWin now wide L) = inWin t wide L := by
  rw [cut_filter _ (inWin_srt h)]
  unfold inWin
  rw [List.filter_filter]
  congr 1
  funext p
  rw [← Bool.decide_and]
  exact decide_eq_decide.mpr ⟨fun h => h.1, fun h => ⟨h, by omega⟩⟩
theorem Hold.come {s : WS} {L : List (Int × Int)} {now t wide : Int} (h : Hold s L now wide) (hle : now ≤ t) : Hold (s.come t) L t wide := by
  have hs : Srt s.rows := by rw [h.rows]; exact inWin_srt h.srt
  have hl : ∀ (c : Int) (l : List (Int × Int)), (out c l).length + (cut c l).length = l.length := fun c l => by rw [← List.length_append, out_cut]
  refine ⟨h.w, rfl, h.srt, fun p hp => Int.le_trans (h.le p hp) hle, ?_, ?_, ?_, ?_, ?_⟩
  · show cut (t - s.wide) s.rows = _
    rw [h.w, h.rows, cut_inWin h.srt hle]
  · show cut (t - s.wide) s.tops = recs _ (cut (t - s.wide) s.rows)
    rw [recs_cut _ _ hs, h.tops]
  · show cut (t - s.wide) s.lows = recs _ (cut (t - s.wide) s.rows)
    rw [recs_cut _ _ hs, h.lows]
  · show s.sum - sum2 (out (t - s.wide) s.rows) = sum2 (cut (t - s.wide) s.rows)
    have e : sum2 (out (t - s.wide) s.rows) + sum2 (cut (t - s.wide) s.rows) = sum2 s.rows := by rw [← sum2_append, out_cut]
    rw [h.sum]
    omega
  · show s.work + ((out (t - s.wide) s.rows).length : Int) + ((out (t - s.wide) s.tops).length : Int) + ((out (t - s.wide) s.lows).length : Int) + ((cut (t - s.wide) s.rows).length : Int) + ((cut (t - s.wide) s.tops).length : Int) + ((cut (t - s.wide) s.lows).length : Int) = _
    have h1 := hl (t - s.wide) s.rows
    have h2 := hl (t - s.wide) s.tops
    have h3 := hl (t - s.wide) s.lows
    have := h.work
    omega
theorem Hold.put {s : WS} {L : List (Int × Int)} {now wide n : Int} (h : Hold s L now wide) (hw : 0 < wide) : Hold (s.put now n) (L ++ [(now, n)]) now wide := by
  refine ⟨h.w, h.n, ?_, ?_, ?_, ?_, ?_, ?_, ?_⟩
  · refine List.pairwise_append.mpr ⟨h.srt, List.pairwise_singleton _ _, fun p hp q hq => ?_⟩
    rw [List.mem_singleton.mp hq]
    exact h.le p hp
  · intro p hp
    rcases List.mem_append.mp hp with hp | hp
    · exact h.le p hp
    · rw [List.mem_singleton.mp hp]; exact Int.le_refl _
  · show s.rows ++ [(now, n)] = _
    unfold inWin
    rw [List.filter_append, List.filter_cons, if_pos (decide_eq_true (show now - wide < now by omega)), List.filter_nil, h.rows]
    rfl
  · show keepTop n s.tops ++ [(now, n)] = recs _ (s.rows ++ [(now, n)])
    rw [recs_push, h.tops, keepTop_eq]
  · show keepLow n s.lows ++ [(now, n)] = recs _ (s.rows ++ [(now, n)])
    rw [recs_push, h.lows, keepLow_eq]
  · show s.sum + n = sum2 (s.rows ++ [(now, n)])
    rw [sum2_append, h.sum]
    simp [sum2]
  · show s.work + ((s.tops.length - (keepTop n s.tops).length : Nat) : Int) + ((s.lows.length - (keepLow n s.lows).length : Nat) : Int) + ((s.rows ++ [(now, n)]).length : Int) + ((keepTop n s.tops ++ [(now, n)]).length : Int) + ((keepLow n s.lows ++ [(now, n)]).length : Int) = 3 * ((L ++ [(now, n)]).length : Int)
    have h1 := keepTop_len (n := n) (q := s.tops)
    have h2 := keepLow_len (n := n) (q := s.lows)
    have := h.work
    simp only [List.length_append, List.length_singleton]
    omega
theorem Hold.lens {s : WS} {L : List (Int × Int)} {now wide : Int} (h : Hold s L now wide) : s.rows.length ≤ L.length ∧ s.tops.length ≤ L.length ∧ s.lows.length ≤ L.length := by
  have h1 : s.rows.length ≤ L.length := by rw [h.rows]; exact List.length_filter_le _ _
  exact ⟨h1, by rw [h.tops]; exact Nat.le_trans (recs_len _) h1, by rw [h.lows]; exact Nat.le_trans (recs_len _) h1⟩
/-- all has gone -/
theorem Hold.gone {s : WS} {L : List (Int × Int)} {now wide : Int} (h : Hold s L now wide) : (s.come (now + wide)).rows = [] ∧ Fit (s.come (now + wide)) [] now wide := by
  have e : (s.come (now + wide)).rows = [] := by
    show cut (now + wide - s.wide) s.rows = []
    rw [h.w, show now + wide - wide = now by omega, cut_filter _ (by rw [h.rows]; exact inWin_srt h.srt), List.filter_eq_nil_iff]
    intro p hp
    rw [h.rows] at hp
    have := h.le p (List.mem_filter.mp hp).1
    simp
    omega
  refine ⟨e, e, fun hn => absurd e hn, fun hn => absurd e hn, ?_⟩
  have : (s.come (now + wide)).sum = sum2 (s.come (now + wide)).rows := by
    show s.sum - sum2 (out (now + wide - s.wide) s.rows) = sum2 (cut (now + wide - s.wide) s.rows)
    have e : sum2 (out (now + wide - s.wide) s.rows) + sum2 (cut (now + wide - s.wide) s.rows) = sum2 s.rows := by rw [← sum2_append, out_cut]
    rw [h.sum]
    omega
  exact this
/-! ### what stands while the law runs -/
structure LS (A : Ads) (H : Hp) (d w r t l q : Addr) (ns : List Int) (s : WS) (L : List (Int × Int)) : Prop where
  dr : H d = some (.lst (ns.map V.int))
  W : WinAt A H w r t l s
  Q : LstP H q L
  dR : d ≠ r
  dT : d ≠ t
  dL : d ≠ l
  dQ : d ≠ q
  qR : q ≠ r
  qT : q ≠ t
  qL : q ≠ l
section
variable {A : Ads} {H : Hp} {d w r t l q : Addr} {ns : List Int} {s : WS} {L : List (Int × Int)}
theorem LS.dW (S : LS A H d w r t l q ns s L) : d ≠ w := let ⟨_, h⟩ := S.W.ob; ne_of S.dr h (by intro z; cases z)
theorem LS.qW (S : LS A H d w r t l q ns s L) : q ≠ w := let ⟨_, h⟩ := S.W.ob; (S.Q.ne h).symm
theorem LS.same (S : LS A H d w r t l q ns s L) {H' : Hp} (k : Same H H') : LS A H' d w r t l q ns s L :=
  ⟨k _ _ S.dr, S.W.same k, let ⟨vs, h, p⟩ := S.Q; ⟨vs, k _ _ h, prs_kt (KT.same k) p⟩, S.dR, S.dT, S.dL, S.dQ, S.qR, S.qT, S.qL⟩
theorem LS.take (S : LS A H d w r t l q ns s L) (ns' : List Int) : LS A (upd H d (.lst (ns'.map V.int))) d w r t l q ns' s L := by
  have k : KT H (upd H d (.lst (ns'.map V.int))) := KT.mut (by rw [S.dr]; rfl)
  exact ⟨upd_same, S.W.frame k (upd_ne S.dW.symm) (upd_ne S.dR.symm) (upd_ne S.dT.symm) (upd_ne S.dL.symm), S.Q.keep k (upd_ne S.dQ.symm), S.dR, S.dT, S.dL, S.dQ, S.qR, S.qT, S.qL⟩
theorem LS.win (S : LS A H d w r t l q ns s L) {H' : Hp} {s' : WS} (W : WinAt A H' w r t l s') (f : FrW H H' w r t l) : LS A H' d w r t l q ns s' L :=
  ⟨f _ _ S.dr S.dW S.dR S.dT S.dL, W, let ⟨vs, h, p⟩ := S.Q; ⟨vs, f _ _ h S.qW S.qR S.qT S.qL, prs_kt (FrW.kt S.W f) p⟩, S.dR, S.dT, S.dL, S.dQ, S.qR, S.qT, S.qL⟩
theorem LS.push (S : LS A H d w r t l q ns s L) {vs : List V} {p : Addr} {a b : Int} (h : H q = some (.lst vs)) (hp : H p = none) : LS A (upd (upd H p (.tup [.int a, .int b])) q (.lst (vs ++ [.ref p]))) d w r t l q ns s (L ++ [(a, b)]) := by
  have S1 := S.same (same_new (o := .tup [.int a, .int b]) hp)
  have k : KT (upd H p (.tup [.int a, .int b])) (upd (upd H p (.tup [.int a, .int b])) q (.lst (vs ++ [.ref p]))) := KT.mut (lst_notup S1.Q)
  exact ⟨(upd_ne S.dQ).trans S1.dr, S1.W.frame k (upd_ne S.qW.symm) (upd_ne S.qR.symm) (upd_ne S.qT.symm) (upd_ne S.qL.symm), ⟨_, upd_same, prs_kt k (pr_push (S.Q.pair h) hp)⟩, S.dR, S.dT, S.dL, S.dQ, S.qR, S.qT, S.qL⟩
end
theorem atK_all {xs : List V} {i : Int} {k : V → Prop} (h0 : 0 ≤ i) (h1 : i < xs.length) (hk : ∀ v ∈ xs, k v) : atK xs i k := by
  obtain ⟨j, rfl⟩ := Int.eq_ofNat_of_zero_le h0
  have hj : j < xs.length := by omega
  exact atK_nat (List.getElem?_eq_getElem hj) (hk _ (List.getElem_mem hj))
def t_is_number (K : PySem.W.Frag) (A : Ads) (E : XK)  : TS :=
  (tRet (dAndV (tCB dIsi (tCons (dVar 0) (tCons (tC (.ty "int")) tNil))) (dAndV (dNotV (tCB dIsi (tCons (dVar 0) (tCons (tC (.ty "bool")) tNil)))) (dChain dLe dLe (dVar 1) (dVar 0) (dVar 2)))))
def t_Window__init_ (K : PySem.W.Frag) (A : Ads) (E : XK)  : TS :=
  (tSeq (tIfS (tNot (dTru (tCallS sp_is_number (fun _ => E0) (tCons (dVar 1) (tCons (tC (.int 1)) (tCons (tC (.int 1000000000)) tNil))))))
  (tRaiseN (fun cls d _ H => E cls d H) A.OutOfRange)
  tNext)
  (tSeq (dSFld A.Window (dVar 0) (dVar 1) "wide")
  (tSeq (dSFld A.Window (dVar 0) (tC (.int 0)) "now")
  (tSeq (dSFld A.Window (dVar 0) (tLst tNil) "rows")
  (tSeq (dSFld A.Window (dVar 0) (tLst tNil) "tops")
  (tSeq (dSFld A.Window (dVar 0) (tLst tNil) "lows")
  (tSeq (dSFld A.Window (dVar 0) (tC (.int 0)) "sum")
  (dSFld A.Window (dVar 0) (tC (.int 0)) "work"))))))))
def t_Window_come (K : PySem.W.Frag) (A : Ads) (E : XK)  : TS :=
  (tSeq (tIfS (dTest (tOp dLt (dVar 1) (dFld A.Window (dVar 0) "now")))
  (tRaiseN (fun cls d _ H => E cls d H) A.OutOfRange)
  tNext)
  (tSeq (dSFld A.Window (dVar 0) (dVar 1) "now")
  (tSeq (tWhile (tAnd (dTest (tOp dGt (tCB dLen (tCons (dFld A.Window (dVar 0) "rows") tNil)) (tC (.int 0)))) (dTest (tOp dLe (tOp dIx (tOp dIx (dFld A.Window (dVar 0) "rows") (tC (.int 0))) (tC (.int 0))) (tOp dSub (dVar 1) (dFld A.Window (dVar 0) "wide")))))
  (tSeq (dSAug A.Window (dVar 0) (tOp dIx (dBM dPopAt (dFld A.Window (dVar 0) "rows") (tCons (tC (.int 0)) tNil)) (tC (.int 1))) (fun i j => i - j) "sum")
  (dSAug A.Window (dVar 0) (tC (.int 1)) (fun i j => i + j) "work")))
  (dForT K (tTup (tCons (dFld A.Window (dVar 0) "tops") (tCons (dFld A.Window (dVar 0) "lows") tNil))) (gName 2)
  (tWhile (tAnd (dTest (tOp dGt (tCB dLen (tCons (dVar 2) tNil)) (tC (.int 0)))) (dTest (tOp dLe (tOp dIx (tOp dIx (dVar 2) (tC (.int 0))) (tC (.int 0))) (tOp dSub (dVar 1) (dFld A.Window (dVar 0) "wide")))))
  (tSeq (tDrop (dBM dPopAt (dVar 2) (tCons (tC (.int 0)) tNil)))
  (dSAug A.Window (dVar 0) (tC (.int 1)) (fun i j => i + j) "work")))))))
def t_Window_put (K : PySem.W.Frag) (A : Ads) (E : XK)  : TS :=
  (tSeq (tDrop (dMethE A.Window "come" (sp_Window_come A) (WE fun cls d _ H => E cls d H) (dVar 0) (tCons (dVar 1) tNil)))
  (tSeq (tDrop (dBM dAppend (dFld A.Window (dVar 0) "rows") (tCons (tTup (tCons (dVar 1) (tCons (dVar 2) tNil))) tNil)))
  (tSeq (dSAug A.Window (dVar 0) (dVar 2) (fun i j => i + j) "sum")
  (tSeq (tWhile (tAnd (dTest (tOp dGt (tCB dLen (tCons (dFld A.Window (dVar 0) "tops") tNil)) (tC (.int 0)))) (dTest (tOp dLe (tOp dIx (tOp dIx (dFld A.Window (dVar 0) "tops") (tUn dNeg (tC (.int 1)))) (tC (.int 1))) (dVar 2))))
  (tSeq (tDrop (dBM0 dPop (dFld A.Window (dVar 0) "tops")))
  (dSAug A.Window (dVar 0) (tC (.int 1)) (fun i j => i + j) "work")))
  (tSeq (tDrop (dBM dAppend (dFld A.Window (dVar 0) "tops") (tCons (tTup (tCons (dVar 1) (tCons (dVar 2) tNil))) tNil)))
  (tSeq (tWhile (tAnd (dTest (tOp dGt (tCB dLen (tCons (dFld A.Window (dVar 0) "lows") tNil)) (tC (.int 0)))) (dTest (tOp dGe (tOp dIx (tOp dIx (dFld A.Window (dVar 0) "lows") (tUn dNeg (tC (.int 1)))) (tC (.int 1))) (dVar 2))))
  (tSeq (tDrop (dBM0 dPop (dFld A.Window (dVar 0) "lows")))
  (dSAug A.Window (dVar 0) (tC (.int 1)) (fun i j => i + j) "work")))
  (tDrop (dBM dAppend (dFld A.Window (dVar 0) "lows") (tCons (tTup (tCons (dVar 1) (tCons (dVar 2) tNil))) tNil)))))))))
def t_Window_check (K : PySem.W.Frag) (A : Ads) (E : XK)  : TS :=
  (tIfS (dTest (tOp dEq (tCB dLen (tCons (dFld A.Window (dVar 0) "rows") tNil)) (tC (.int 0))))
  (tRaiseN (fun cls d _ H => E cls d H) A.NotThere)
  tNext)
def t_Window_greatest (K : PySem.W.Frag) (A : Ads) (E : XK)  : TS :=
  (tSeq (tDrop (dMethE A.Window "check" (sp_Window_check A) (WE fun cls d _ H => E cls d H) (dVar 0) tNil))
  (tRet (tOp dIx (tOp dIx (dFld A.Window (dVar 0) "tops") (tC (.int 0))) (tC (.int 1)))))
def t_Window_least (K : PySem.W.Frag) (A : Ads) (E : XK)  : TS :=
  (tSeq (tDrop (dMethE A.Window "check" (sp_Window_check A) (WE fun cls d _ H => E cls d H) (dVar 0) tNil))
  (tRet (tOp dIx (tOp dIx (dFld A.Window (dVar 0) "lows") (tC (.int 0))) (tC (.int 1)))))
def t_Window_total (K : PySem.W.Frag) (A : Ads) (E : XK)  : TS :=
  (tRet (dFld A.Window (dVar 0) "sum"))
def t_Window_many (K : PySem.W.Frag) (A : Ads) (E : XK)  : TS :=
  (tRet (tCB dLen (tCons (dFld A.Window (dVar 0) "rows") tNil)))
def t_Window_steps (K : PySem.W.Frag) (A : Ads) (E : XK)  : TS :=
  (tRet (dFld A.Window (dVar 0) "work"))
def t_law_draws (K : PySem.W.Frag) (A : Ads) (E : XK)  : TS :=
  (tSeq (tAsg (tLst tNil) (gName 1))
  (tSeq (dForL K (dVar 0) (gName 2)
  (tSeq (tAsg (tCB dAbs (tCons (dVar 2) tNil)) (gName 3))
  (tSeq (tIfS (dTest (tOp dLt (dVar 3) (tOp dPow (tC (.int 10)) (tC (.int 18)))))
  (tSeq (tAsg (tOp dMod (tCB dInt (tCons (tOp dAdd (tOp dMul (dVar 3) (tC (.int 48271))) (tC (.int 11))) tNil)) (tC (.int 2147483647))) (gName 4))
  (tSeq (tDrop (dBM dAppend (dVar 1) (tCons (tOp dMod (tCB dInt (tCons (tOp dAdd (tOp dMul (dVar 4) (tC (.int 69621))) (dVar 3)) tNil)) (tC (.int 2147483629))) tNil)))
  (tSeq (tDrop (dBM dAppend (dVar 1) (tCons (tOp dMod (tCB dInt (tCons (tOp dAdd (dVar 4) (tOp dDiv (dVar 3) (tC (.int 7)))) tNil)) (tC (.int 1000003))) tNil)))
  (tAsg (tC (.int 0)) (gName 3)))))
  tNext)
  (dForR1 (tCons (tC (.int 60)) tNil) (gName 5)
  (tIfS (dTest (tOp dGt (dVar 3) (tC (.int 0))))
  (tSeq (tDrop (dBM dAppend (dVar 1) (tCons (tOp dMod (tCB dInt (tCons (dVar 3) tNil)) (tC (.int 997))) tNil)))
  (tAsg (tOp dDiv (dVar 3) (tC (.int 997))) (gName 3)))
  tNext)))))
  (tSeq (tAsg (tC (.int 1)) (gName 6))
  (tSeq (tIfS (dTest (tOp dGt (tCB (uLen K) (tCons (dVar 0) tNil)) (tC (.int 0))))
  (tAsg (tOp dAdd (tC (.int 1)) (tCB dAbs (tCons (tOp (rIx K) (dVar 0) (tC (.int 0))) tNil))) (gName 6))
  tNext)
  (tSeq (dForR1 (tCons (tC (.int 900)) tNil) (gName 5)
  (tSeq (tAsg (tOp dMod (tCB dInt (tCons (tOp dAdd (tOp dMul (dVar 6) (tC (.int 48271))) (tC (.int 69621))) tNil)) (tC (.int 2147483647))) (gName 6))
  (tDrop (dBM dAppend (dVar 1) (tCons (tOp dDiv (dVar 6) (tC (.int 5))) tNil)))))
  (tRet (tListRev K (dVar 1))))))))
def t_law_take (K : PySem.W.Frag) (A : Ads) (E : XK)  : TS :=
  (tSeq (tIfS (dTest (tOp dEq (tCB dLen (tCons (dVar 0) tNil)) (tC (.int 0))))
  (tRet (tC (.int 0)))
  tNext)
  (tRet (tOp dMod (tCB dInt (tCons (dBM0 dPop (dVar 0)) tNil)) (dVar 1))))
def t_law_alike (K : PySem.W.Frag) (A : Ads) (E : XK) (sq : Sp) : TS :=
  (tSeq (tIfS (tOr (dTru (tCB dIsi (tCons (dVar 1) (tCons (tC (.ty "list")) tNil)))) (dTru (tCB dIsi (tCons (dVar 1) (tCons (tC (.ty "tuple")) tNil)))))
  (tSeq (tIfS (tOr (dTest (tOp dNe (tCB dIsi (tCons (dVar 0) (tCons (tC (.ty "list")) tNil))) (tCB dIsi (tCons (dVar 1) (tCons (tC (.ty "list")) tNil))))) (dTest (tOp dNe (tCB dIsi (tCons (dVar 0) (tCons (tC (.ty "tuple")) tNil))) (tCB dIsi (tCons (dVar 1) (tCons (tC (.ty "tuple")) tNil))))))
  (tRet (tC (.bl false)))
  tNext)
  (tRet (dAndV (tOp dEq (tCB dLen (tCons (dVar 0) tNil)) (tCB dLen (tCons (dVar 1) tNil))) (tOp (dEqD K) (dLcR1 (tCons (tCB dLen (tCons (dVar 1) tNil)) tNil) (gName 2) (tNot (dTru (tCallS sq (fun _ => E0) (tCons (tOp dIx (dVar 0) (dVar 2)) (tCons (tOp dIx (dVar 1) (dVar 2)) tNil))))) (dVar 2) [2]) (tLst tNil)))))
  tNext)
  (tSeq (tIfS (dTest (tOp dIs (dVar 1) (tC .non)))
  (tRet (tOp dIs (dVar 0) (tC .non)))
  tNext)
  (tSeq (tIfS (tOr (dTru (tCB dIsi (tCons (dVar 1) (tCons (tC (.ty "bool")) tNil)))) (dTru (tCB dIsi (tCons (dVar 0) (tCons (tC (.ty "bool")) tNil)))))
  (tRet (dAndV (tCB dIsi (tCons (dVar 0) (tCons (tC (.ty "bool")) tNil))) (dAndV (tCB dIsi (tCons (dVar 1) (tCons (tC (.ty "bool")) tNil))) (tOp dEq (dVar 0) (dVar 1)))))
  tNext)
  (tSeq (tIfS (dTru (tCB dIsi (tCons (dVar 1) (tCons (tC (.ty "int")) tNil))))
  (tRet (dAndV (tCB dIsi (tCons (dVar 0) (tCons (tC (.ty "int")) tNil))) (tOp dEq (dVar 0) (dVar 1))))
  tNext)
  (tRet (dAndV (tCB dIsi (tCons (dVar 0) (tCons (tC (.ty "str")) tNil))) (tOp dEq (dVar 0) (dVar 1))))))))
def t_law_word (K : PySem.W.Frag) (A : Ads) (E : XK) (ax D : Addr) : TS :=
  (tSeq (tAsg (tLst (tCons (tCB (dIsE K D ax) (tCons (dVar 0) (tCons (tC (.ref A.OutOfRange)) tNil))) (tCons (tCB (dIsE K D ax) (tCons (dVar 0) (tCons (tC (.ref A.Malformed)) tNil))) (tCons (tCB (dIsE K D ax) (tCons (dVar 0) (tCons (tC (.ref A.NotThere)) tNil))) (tCons (tCB (dIsE K D ax) (tCons (dVar 0) (tCons (tC (.ref A.Refused)) tNil))) (tCons (tCB (dIsE K D ax) (tCons (dVar 0) (tCons (tC (.ref A.TooMuch)) tNil))) tNil)))))) (gName 1))
  (tSeq (tIfS (dTest (tOp dNe (tCB dLen (tCons (dLcL K (dVar 1) (gName 2) (dTru (dVar 2)) (dVar 2) [2]) tNil)) (tC (.int 1))))
  (tRet (tC (.str "many")))
  tNext)
  (tRet (tOp dIx (tLst (tCons (tC (.str "range")) (tCons (tC (.str "form")) (tCons (tC (.str "none")) (tCons (tC (.str "refused")) (tCons (tC (.str "much")) tNil)))))) (dBM (rIndex K) (dVar 1) (tCons (tC (.bl true)) tNil))))))
def t_law_told (K : PySem.W.Frag) (A : Ads) (E : XK)  : TS :=
  (tTryAs K (.ref A.TraceError) 4 (fun W => (tSeq (tIfS (dTest (tOp dEq (dVar 0) (tC (.int 0))))
  (tRet (dMethE A.Window "greatest" (sp_Window_greatest A) (WE W) (dVar 1) tNil))
  tNext)
  (tSeq (tIfS (dTest (tOp dEq (dVar 0) (tC (.int 1))))
  (tRet (dMethE A.Window "least" (sp_Window_least A) (WE W) (dVar 1) tNil))
  tNext)
  (tSeq (tIfS (dTest (tOp dEq (dVar 0) (tC (.int 2))))
  (tRet (dMethE A.Window "come" (sp_Window_come A) (WE W) (dVar 1) (tCons (dVar 2) tNil)))
  tNext)
  (tRet (tIf (dTest (tOp dEq (dVar 0) (tC (.int 3)))) (dMethE A.Window "put" (sp_Window_put A) (WE W) (dVar 1) (tCons (dVar 2) (tCons (dVar 3) tNil))) (tMakeE A.Window (sp_Window__init_ A) (WE W) (tCons (dVar 2) tNil)))))))) (fun a cls d => (tRet (tCallE (sp_law_word K A) a cls d (tCons (dVar 4) tNil)))) (fun _ _ _ _ => False))
def t_law_right (K : PySem.W.Frag) (A : Ads) (E : XK)  : TS :=
  (tSeq (tAsg (dLcL K (dVar 1) (dgTup 2 (dgCons (gName 6) (dgCons (gName 7) dgNil))) (dTest (tOp dGt (dVar 6) (tOp dSub (dVar 2) (dVar 3)))) (dVar 7) [6, 7]) (gName 4))
  (tSeq (tAsg (tIf (dTest (tOp (dNeD K) (dVar 4) (tLst tNil))) (tLst (tCons (tCB (rMax K) (tCons (dVar 4) tNil)) (tCons (tCB (rMin K) (tCons (dVar 4) tNil)) tNil))) (tLst (tCons (tC (.str "none")) (tCons (tC (.str "none")) tNil)))) (gName 5))
  (tRet (tCallS (sp_law_alike K 1) (fun _ => E0) (tCons (tLst (tCons (tCallS (sp_law_told K A) (fun _ => E0) (tCons (tC (.int 0)) (tCons (dVar 0) (tCons (tC (.int 0)) (tCons (tC (.int 0)) tNil))))) (tCons (tCallS (sp_law_told K A) (fun _ => E0) (tCons (tC (.int 1)) (tCons (dVar 0) (tCons (tC (.int 0)) (tCons (tC (.int 0)) tNil))))) (tCons (dMethE A.Window "total" (sp_Window_total A) (fun _ => E0) (dVar 0) tNil) (tCons (dMethE A.Window "many" (sp_Window_many A) (fun _ => E0) (dVar 0) tNil) tNil))))) (tCons (tOp dAdd (dVar 5) (tLst (tCons (tCB (rSum K) (tCons (dVar 4) tNil)) (tCons (tCB dLen (tCons (dVar 4) tNil)) tNil)))) tNil))))))
def t_law (K : PySem.W.Frag) (A : Ads) (E : XK)  : TS :=
  (tSeq (tAsg (tCallS (sp_law_draws K) (fun _ => E0) (tCons (dVar 0) tNil)) (gName 1))
  (tSeq (dForR1 (tCons (tC (.int 2)) tNil) (gName 2)
  (tSeq (tAsg (tOp dIx (tLst (tCons (tC (.int 1)) (tCons (tC (.int 2)) (tCons (tC (.int 7)) (tCons (tC (.int 50)) (tCons (tC (.int 1000000000)) tNil)))))) (tCallS sp_law_take (fun _ => E0) (tCons (dVar 1) (tCons (tC (.int 5)) tNil)))) (gName 3))
  (tSeq (dPar3 4 5 6 (tCons (tMakeE A.Window (sp_Window__init_ A) (fun _ => E0) (tCons (dVar 3) tNil)) (tCons (tLst tNil) (tCons (tC (.int 0)) tNil))))
  (tSeq (tAsg (tCallS sp_law_take (fun _ => E0) (tCons (dVar 1) (tCons (tC (.int 4)) tNil))) (gName 7))
  (tSeq (tIfS (tNot (dTru (tCallS (sp_law_right K A) (fun _ => E0) (tCons (dVar 4) (tCons (dVar 5) (tCons (dVar 6) (tCons (dVar 3) tNil)))))))
  (tRet (tC (.bl false)))
  tNext)
  (tSeq (dForR1 (tCons (tOp dAdd (tC (.int 10)) (tCallS sp_law_take (fun _ => E0) (tCons (dVar 1) (tCons (tC (.int 50)) tNil)))) tNil) (gName 8)
  (tSeq (tAsg (tOp dAdd (dVar 6) (tOp dIx (tLst (tCons (tC (.int 0)) (tCons (tC (.int 0)) (tCons (tC (.int 1)) (tCons (tCallS sp_law_take (fun _ => E0) (tCons (dVar 1) (tCons (tC (.int 9)) tNil))) (tCons (tCallS sp_law_take (fun _ => E0) (tCons (dVar 1) (tCons (tC (.int 200)) tNil))) tNil)))))) (tCallS sp_law_take (fun _ => E0) (tCons (dVar 1) (tCons (tC (.int 5)) tNil))))) (gName 6))
  (tSeq (tIfS (dTest (tOp dEq (tCallS sp_law_take (fun _ => E0) (tCons (dVar 1) (tCons (tC (.int 5)) tNil))) (tC (.int 0))))
  (tIfS (dTest (tOp dIsNot (tCallS (sp_law_told K A) (fun _ => E0) (tCons (tC (.int 2)) (tCons (dVar 4) (tCons (dVar 6) (tCons (tC (.int 0)) tNil))))) (tC .non)))
  (tRet (tC (.bl false)))
  tNext)
  (tSeq (tAsg (tOp dIx (tLst (tCons (tCallS sp_law_take (fun _ => E0) (tCons (dVar 1) (tCons (tC (.int 5)) tNil))) (tCons (tOp dSub (tCallS sp_law_take (fun _ => E0) (tCons (dVar 1) (tCons (tC (.int 1000)) tNil))) (tC (.int 500))) (tCons (dVar 8) (tCons (tOp dSub (tC (.int 0)) (dVar 8)) tNil))))) (dVar 7)) (gName 9))
  (tSeq (tDrop (dBM dAppend (dVar 5) (tCons (tTup (tCons (dVar 6) (tCons (dVar 9) tNil))) tNil)))
  (tIfS (dTest (tOp dIsNot (tCallS (sp_law_told K A) (fun _ => E0) (tCons (tC (.int 3)) (tCons (dVar 4) (tCons (dVar 6) (tCons (dVar 9) tNil))))) (tC .non)))
  (tRet (tC (.bl false)))
  tNext))))
  (tSeq (tIfS (tOr (tNot (dTru (tCallS (sp_law_right K A) (fun _ => E0) (tCons (dVar 4) (tCons (dVar 5) (tCons (dVar 6) (tCons (dVar 3) tNil))))))) (dTest (tOp dGt (dMethE A.Window "steps" (sp_Window_steps A) (fun _ => E0) (dVar 4) tNil) (tOp dMul (tC (.int 3)) (tCB dLen (tCons (dVar 5) tNil))))))
  (tRet (tC (.bl false)))
  tNext)
  (tIfS (tAnd (dTest (tOp dGt (dVar 6) (tC (.int 0)))) (dTest (tOp dEq (tCallS sp_law_take (fun _ => E0) (tCons (dVar 1) (tCons (tC (.int 6)) tNil))) (tC (.int 0)))))
  (tIfS (tOr (dTest (tOp (dNeD K) (tLst (tCons (tCallS (sp_law_told K A) (fun _ => E0) (tCons (tC (.int 2)) (tCons (dVar 4) (tCons (tOp dSub (dVar 6) (tC (.int 1))) (tCons (tC (.int 0)) tNil))))) (tCons (tCallS (sp_law_told K A) (fun _ => E0) (tCons (tC (.int 3)) (tCons (dVar 4) (tCons (tOp dSub (dVar 6) (tC (.int 1))) (tCons (tC (.int 5)) tNil))))) tNil))) (tOp dMul (tLst (tCons (tC (.str "range")) tNil)) (tC (.int 2))))) (tNot (dTru (tCallS (sp_law_right K A) (fun _ => E0) (tCons (dVar 4) (tCons (dVar 5) (tCons (dVar 6) (tCons (dVar 3) tNil))))))))
  (tRet (tC (.bl false)))
  tNext)
  tNext)))))
  (tSeq (tDrop (dMethE A.Window "come" (sp_Window_come A) (fun _ => E0) (dVar 4) (tCons (tOp dAdd (dVar 6) (dVar 3)) tNil)))
  (tIfS (tOr (tNot (dTru (tCallS (sp_law_right K A) (fun _ => E0) (tCons (dVar 4) (tCons (tLst tNil) (tCons (dVar 6) (tCons (dVar 3) tNil))))))) (dTest (tOp dNe (dMethE A.Window "many" (sp_Window_many A) (fun _ => E0) (dVar 4) tNil) (tC (.int 0)))))
  (tRet (tC (.bl false)))
  tNext))))))))
  (tRet (tOp (dEqD K) (dLcL K (tLst (tCons (tC (.int 0)) (tCons (tUn dNeg (tC (.int 1))) (tCons (tC .non) (tCons (tC (.bl true)) (tCons (tC (.str "5")) (tCons (tC (.int 2000000000)) tNil))))))) (gName 10) tYes (tCallS (sp_law_told K A) (fun _ => E0) (tCons (tC (.int 4)) (tCons (tC .non) (tCons (dVar 10) (tCons (tC (.int 0)) tNil))))) [10]) (tOp dMul (tLst (tCons (tC (.str "range")) tNil)) (tC (.int 6)))))))
theorem upd_self {H : Hp} {a : Addr} {o : HO} (h : H a = some o) : upd H a o = H := by
  funext b
  unfold upd
  split
  · rename_i e; rw [e, h]
  · rfl
theorem r_law_take {K : PySem.W.Frag} {A : Ads} {E : XK} {vs : List V} {H : Hp} {Q : VK} (h : sp_law_take vs H Q E) : t_law_take K A E { nx := fun _ H' => Q .non H', rt := Q } (L2.start ["draws", "bound"] vs) H := by
  obtain ⟨d, ns, b, rfl, hd, hb, k⟩ := h
  unfold t_law_take
  wp_walk using hd, hb
  rcases List.eq_nil_or_concat ns with rfl | ⟨ms, z, rfl⟩
  · have q := k 0 [] (Int.le_refl _) hb
    rw [upd_self hd] at q
    simpa using q
  · have e : ((List.map V.int (ms.concat z)).length : Int) ≠ 0 := by simp; omega
    rw [if_neg e, List.concat_eq_append, ← map_snoc, List.getLast?_concat, List.dropLast_concat]
    exact k _ _ (Int.emod_nonneg _ (by omega)) (Int.emod_lt_of_pos _ hb)
/-- the draws so far -/
def Dr (H : Hp) (a p : Addr) (m : Nat) (σ : L2.St) (H1 : Hp) : Prop := ∃ v2 v3 v4 v5 v6 : Option V, σ = [some (.ref a), some (.ref p), v2, v3, v4, v5, v6] ∧ Same H H1 ∧ ∃ ms : List Int, H1 p = some (.lst (ms.map V.int)) ∧ ms.length ≤ m
theorem int_at {ns : List Int} {i : Nat} {x : V} (hx : (ns.map V.int)[i]? = some x) : ∃ z, ns[i]? = some z ∧ x = V.int z := by
  rw [List.getElem?_map] at hx
  cases e : ns[i]? with
  | none => rw [e] at hx; cases hx
  | some z => rw [e] at hx; exact ⟨z, rfl, (Option.some.inj hx).symm⟩
theorem r_draws_digits {H : Hp} {a p : Addr} {i : Nat} {D : Ends} (hp : H p = none) (hi : i < 63) (nx : ∀ σ H1, Dr H a p (62 * (i + 1)) σ H1 → D.nx σ H1) {n : Int} {v2 v4 v5 v6 : Option V} {H2 : Hp} {ms : List Int} (s : Same H H2) (h2 : H2 p = some (.lst (ms.map V.int))) (hl : ms.length ≤ 62 * i + 2) :
    ForR 0 (60 : Int).toNat (gName 5) (tIfS (dTest (tOp dGt (dVar 3) (tC (.int 0)))) (tSeq (tDrop (dBM dAppend (dVar 1) (tCons (tOp dMod (tCB dInt (tCons (dVar 3) tNil)) (tC (.int 997))) tNil))) (tAsg (tOp dDiv (dVar 3) (tC (.int 997))) (gName 3))) tNext)
      D [some (.ref a), some (.ref p), v2, some (.int n), v4, v5, v6] H2 := by
  refine forR_go (fun j σ H1 => ∃ (n : Int) (v2 v4 v5 v6 : Option V), σ = [some (.ref a), some (.ref p), v2, some (.int n), v4, v5, v6] ∧ Same H H1 ∧ ∃ ms : List Int, H1 p = some (.lst (ms.map V.int)) ∧ ms.length ≤ 62 * i + 2 + j)
    ⟨n, v2, v4, v5, v6, rfl, s, ms, h2, hl⟩ ?_ ?_
  · rintro j σ H1 hj ⟨n, v2, v4, v5, v6, rfl, s, ms, h2, hl⟩
    have hj' : j < 60 := hj
    wp_walk using h2
    refine ite2 (fun _ => ?_) fun _ => ⟨_, _, _, _, _, rfl, s, ms, rfl, by omega⟩
    exact ⟨by rw [List.length_map]; exact sz (by omega), by unfold CDiv; decide, _, _, _, _, _, rfl, same_mut s hp, ms ++ [n % 997], by simp, by simp; omega⟩
  · rintro σ H1 ⟨n, v2, v4, v5, v6, rfl, s, ms, h2, hl⟩
    have e : (60 : Int).toNat = 60 := rfl
    exact nx _ _ ⟨_, _, _, _, _, rfl, s, ms, h2, by rw [e] at hl; omega⟩
theorem r_draws_seeds {H : Hp} {a p : Addr} {D : Ends} (hp : H p = none) (nx : ∀ σ H1, Dr H a p 5000 σ H1 → D.nx σ H1) {n : Int} {v2 v3 v4 v5 : Option V} {H2 : Hp} {ms : List Int} (s : Same H H2) (h2 : H2 p = some (.lst (ms.map V.int))) (hl : ms.length ≤ 62 * 63) :
    ForR 0 (900 : Int).toNat (gName 5) (tSeq (tAsg (tOp dMod (tCB dInt (tCons (tOp dAdd (tOp dMul (dVar 6) (tC (.int 48271))) (tC (.int 69621))) tNil)) (tC (.int 2147483647))) (gName 6)) (tDrop (dBM dAppend (dVar 1) (tCons (tOp dDiv (dVar 6) (tC (.int 5))) tNil))))
      D [some (.ref a), some (.ref p), v2, v3, v4, v5, some (.int n)] H2 := by
  refine forR_go (fun j σ H1 => ∃ (n : Int) (v2 v3 v4 v5 : Option V), σ = [some (.ref a), some (.ref p), v2, v3, v4, v5, some (.int n)] ∧ Same H H1 ∧ ∃ ms : List Int, H1 p = some (.lst (ms.map V.int)) ∧ ms.length ≤ 62 * 63 + j)
    ⟨n, v2, v3, v4, v5, rfl, s, ms, h2, hl⟩ ?_ ?_
  · rintro j σ H1 hj ⟨n, v2, v3, v4, v5, rfl, s, ms, h2, hl⟩
    have hj' : j < 900 := hj
    wp_walk using h2
    exact ⟨.inr (by decide), by unfold CDiv; decide, by rw [List.length_map]; exact sz (by omega), _, _, _, _, _, rfl, same_mut s hp, ms ++ [(n * 48271 + 69621) % 2147483647 / 5], by simp, by simp; omega⟩
  · rintro σ H1 ⟨n, v2, v3, v4, v5, rfl, s, ms, h2, hl⟩
    have e : (900 : Int).toNat = 900 := rfl
    exact nx _ _ ⟨_, _, _, _, _, rfl, s, ms, h2, by rw [e] at hl; omega⟩
theorem r_law_draws {K : PySem.W.Frag} {A : Ads} {E : XK} {vs : List V} {H : Hp} {Q : VK} (h : sp_law_draws K vs H Q E) : t_law_draws K A E { nx := fun _ H' => Q .non H', rt := Q } (L2.start ["script", "draws", "cell", "number", "first", "k", "seed"] vs) H := by
  obtain ⟨a, ns, rfl, hS, hl, k⟩ := h
  unfold t_law_draws
  walk_at "ev"
  refine ⟨Nat.zero_le _, fun p hp => ?_⟩
  have s0 : Same H (upd H p (.lst [])) := same_new hp
  refine forL_go (xs := ns.map V.int) (s0.seq hS) (fun i σ H1 => Dr H a p (62 * i) σ H1)
    ⟨none, none, none, none, none, rfl, s0, [], upd_same, Nat.le_refl _⟩ (fun i σ H1 _ ⟨_, _, _, _, _, _, s, _⟩ => s.seq hS) ?_ ?_
  · rintro i x σ H1 hx ⟨v2, v3, v4, v5, v6, rfl, s, ms, hm, hml⟩
    have hi := (List.getElem?_eq_some_iff.mp hx).1
    rw [List.length_map] at hi
    obtain ⟨z, _, rfl⟩ := int_at hx
    have e0 : (-(2 ^ 62) ≤ (60 : Int) ∧ (60 : Int) < 2 ^ 62) := by decide
    wp_walk using hm, e0
    refine ⟨by unfold CPow; decide, ite2 (fun _ => ?_) fun _ => ?_⟩
    · refine ⟨.inr (by decide), .inr (by decide), by rw [List.length_map]; exact sz (by omega), by unfold CDiv; decide, ?_⟩
      refine ⟨by simp; exact sz (by omega), r_draws_digits (i := i) hp (by omega) (fun σ H1 h => h) (same_mut s hp) (ms := ms ++ [(((if z < 0 then -z else z) * 48271 + 11) % 2147483647 * 69621 + if z < 0 then -z else z) % 2147483629, (((if z < 0 then -z else z) * 48271 + 11) % 2147483647 + (if z < 0 then -z else z) / 7) % 1000003]) (by rw [upd_same]; simp) (by simp; omega)⟩
    · exact r_draws_digits (i := i) hp (by omega) (fun σ H1 h => h) s hm (by omega)
  · rintro σ H1 ⟨v2, v3, v4, v5, v6, rfl, s, ms, hm, hml⟩
    rw [List.length_map] at hml
    have hS1 : SqL K H1 a (ns.map V.int) := s.seq hS
    have e0 : (-(2 ^ 62) ≤ (900 : Int) ∧ (900 : Int) < 2 ^ 62) := by decide
    have last : ∀ σ H1, Dr H a p 5000 σ H1 → tRet (tListRev K (dVar 1)) { nx := fun _ H' => Q .non H', rt := Q } σ H1 := by
      rintro σ H1 ⟨v2, v3, v4, v5, v6, rfl, s, ms, hm, hml⟩
      unfold tListRev
      walk_at "ev"
      refine ⟨p, ms.map V.int, rfl, SqL.of hm, fun q hq => ?_⟩
      rw [← List.map_reverse]
      exact k q _ ms.reverse (s.free hq) (s.trans (same_new hq)) upd_same
    have go : ∀ (n : Int), ForR 0 (900 : Int).toNat (gName 5) (tSeq (tAsg (tOp dMod (tCB dInt (tCons (tOp dAdd (tOp dMul (dVar 6) (tC (.int 48271))) (tC (.int 69621))) tNil)) (tC (.int 2147483647))) (gName 6)) (tDrop (dBM dAppend (dVar 1) (tCons (tOp dDiv (dVar 6) (tC (.int 5))) tNil))))
      { nx := tRet (tListRev K (dVar 1)) { nx := fun _ H' => Q .non H', rt := Q }, rt := Q } [some (.ref a), some (.ref p), v2, v3, v4, v5, some (.int n)] H1 := fun n => r_draws_seeds hp last s hm (by omega)
    walk_at "ev"
    refine ⟨.ref a, (ns.map V.int).length, rfl, .inl ⟨_, hS1, rfl⟩, ?_⟩
    wp_walk using e0
    refine ite2 (fun hn => ?_) fun _ => go 1
    rw [List.length_map] at hn
    cases ns with
    | nil => simp at hn
    | cons z r =>
      refine .inl ⟨a, _, 0, V.int z, rfl, rfl, hS1, atI_nat (j := 0) rfl, ?_⟩
      wp_walk using e0
      exact go _
theorem paired2 {α β : Type} {F G : α → β → Prop} : ∀ {l m : List α} {ds : List β}, Paired F l ds → Paired G m ds → l.length = m.length := fun p q => (paired_len p).trans (paired_len q).symm
theorem seqI {xs : List V} {i : Nat} (h : i < xs.length) {k : V → Prop} (q : k (xs[i]'h)) : atK xs ((0 : Int) + (i : Nat)) k := by
  unfold atK
  have e : atI xs ((0 : Int) + (i : Nat)) = some (xs[i]'h) := by
    rw [Int.zero_add]
    exact atI_nat (List.getElem?_eq_getElem h)
  rw [e]
  exact q
/-- the items alike, one by one -/
theorem r_alike_items {K : PySem.W.Frag} {n : Nat} {H : Hp} {Q : VK} {p q : Addr} {xs ys : List V} {ds : List PyData} (hp : seqAt (H p) (· = xs)) (hq : seqAt (H q) (· = ys)) (hpk : ∀ H', Same H H' → seqAt (H' p) (· = xs)) (hqk : ∀ H', Same H H' → seqAt (H' q) (· = ys))
    (l1 : xs.length ≤ 100000) (px : Paired (Da H n) xs ds) (py : Paired (Da H n) ys ds) (k : ∀ H', Same H H' → Q (.bl true) H') :
    (-2 ^ 62 ≤ (xs.length : Int) ∧ (xs.length : Int) < 2 ^ 62) ∧ LcJ (Itr 0 (xs.length : Int).toNat) (gName 2) (tNot (dTru (tCallS (sp_law_alike K n) (fun _ => E0) (tCons (tOp dIx (dVar 0) (dVar 2)) (tCons (tOp dIx (dVar 1) (dVar 2)) tNil))))) (dVar 2) [2] [some (.ref p), some (.ref q), none] H
      (fun x H1 => 0 ≤ sizeLine ∧ ∀ (r : Addr), H1 r = none → dEqD K x (.ref r) (upd H1 r (.lst [])) Q) := by
  have el : ys.length = xs.length := paired2 py px
  refine ⟨⟨by omega, by omega⟩, lcR_core (n := (xs.length : Int).toNat) (by omega) (fun _ => false) (fun _ _ _ => True) (fun _ _ _ _ _ _ => trivial) ?_ ?_⟩
  · intro i hi H1 s k1 k0 _ h0
    have hi' : i < ys.length := by omega
    walk_at "ev"
    refine seqE (hpk H1 s) (seqI (by omega) ?_)
    refine seqE (hqk H1 s) (seqI hi' ?_)
    obtain ⟨d, hd⟩ : ∃ d, ds[i]? = some d := ⟨ds[i]'(by rw [← paired_len py]; exact hi'), List.getElem?_eq_getElem _⟩
    obtain ⟨x, hx, dx⟩ := pairedAt px hd
    obtain ⟨y, hy, dy⟩ := pairedAt py hd
    rw [List.getElem?_eq_getElem (show i < xs.length by omega)] at hx
    rw [List.getElem?_eq_getElem hi'] at hy
    cases hx
    cases hy
    refine ⟨_, _, d, rfl, dx.same s, dy.same s, fun H' s' => ?_⟩
    walk_at "ev"
    exact h0 rfl H' s'
  · intro D H1 zs hD s hz pr
    have e : zs = [] := by
      have := paired_len pr
      cases zs with
      | nil => rfl
      | cons z zs =>
        rw [List.filter_eq_nil_iff.mpr (fun _ _ => by simp)] at this
        cases this
    subst e
    refine ⟨by show 0 ≤ sizeLine; decide, fun r hr => ?_⟩
    have s2 := same_new (o := .lst []) hr
    exact eqD_same (n := 1) (Da.lst (s2 D _ hz) (Nat.zero_le _) .nil) (Da.lst upd_same (Nat.zero_le _) .nil) (by decide) (k _ (s.trans s2))
theorem r_alike_atom {K : PySem.W.Frag} {A : Ads} {E : XK} {sq : Sp} {x y : V} {d : PyData} {H : Hp} {Q : VK} (hx : AtomD x d) (hy : AtomD y d) (k : Q (.bl true) H) : t_law_alike K A E sq { nx := fun _ H' => Q .non H', rt := Q } (L2.start ["found", "due", "k"] [x, y]) H := by
  unfold t_law_alike
  rcases hy with ⟨rfl, rfl⟩ | ⟨b, rfl, rfl⟩ | ⟨b, rfl, rfl⟩ | ⟨z, rfl, rfl, hz⟩
  · obtain rfl : x = .non := by
      rcases hx with ⟨rfl, _⟩ | ⟨_, _, e⟩ | ⟨_, _, e⟩ | ⟨_, _, e, _⟩ <;> first | rfl | cases e
    wp_walk using is_NoneType_list, kn_NoneType_list, is_NoneType_tuple, kn_NoneType_tuple
    exact k
  · obtain rfl : x = .bl b := by
      rcases hx with ⟨_, e⟩ | ⟨_, rfl, e⟩ | ⟨_, _, e⟩ | ⟨_, _, e, _⟩ <;> first | (cases e; done) | (cases e; rfl)
    wp_walk using is_bool_list, kn_bool_list, is_bool_tuple, kn_bool_tuple, is_bool_bool, kn_bool_bool
    exact k
  · obtain rfl : x = .int b := by
      rcases hx with ⟨_, e⟩ | ⟨_, _, e⟩ | ⟨_, rfl, e⟩ | ⟨_, _, e, _⟩ <;> first | (cases e; done) | (cases e; rfl)
    wp_walk using is_int_list, kn_int_list, is_int_tuple, kn_int_tuple, is_int_bool, kn_int_bool, is_int_int, kn_int_int
    exact k
  · obtain rfl : x = .str z := by
      rcases hx with ⟨_, e⟩ | ⟨_, _, e⟩ | ⟨_, _, e⟩ | ⟨_, rfl, e, _⟩ <;> first | (cases e; done) | (cases e; rfl)
    wp_walk using is_str_list, kn_str_list, is_str_tuple, kn_str_tuple, is_str_bool, kn_str_bool, is_str_int, kn_str_int, is_str_str, kn_str_str
    exact k
theorem r_law_alike0 {K : PySem.W.Frag} {A : Ads} {E : XK} {sq : Sp} {vs : List V} {H : Hp} {Q : VK} (h : sp_law_alike K 0 vs H Q E) : t_law_alike K A E sq { nx := fun _ H' => Q .non H', rt := Q } (L2.start ["found", "due", "k"] vs) H := by
  obtain ⟨x, y, d, rfl, hx, hy, k⟩ := h
  exact r_alike_atom hx hy (k H (Same.refl H))
theorem r_law_alike {K : PySem.W.Frag} {A : Ads} {E : XK} {n : Nat} {vs : List V} {H : Hp} {Q : VK} (h : sp_law_alike K (n + 1) vs H Q E) : t_law_alike K A E (sp_law_alike K n) { nx := fun _ H' => Q .non H', rt := Q } (L2.start ["found", "due", "k"] vs) H := by
  obtain ⟨x, y, d, rfl, hx, hy, k⟩ := h
  unfold t_law_alike
  rcases hy with hy | ⟨b, ys, ds, rfl, rfl, hb, hlb, py⟩ | ⟨b, ys, ds, rfl, rfl, hb, hlb, py⟩
  · have hx : AtomD x d := by
      rcases hx with hx | ⟨_, _, _, _, e, _⟩ | ⟨_, _, _, _, e, _⟩
      · exact hx
      · subst e
        rcases hy with ⟨_, e⟩ | ⟨_, _, e⟩ | ⟨_, _, e⟩ | ⟨_, _, e, _⟩ <;> cases e
      · subst e
        rcases hy with ⟨_, e⟩ | ⟨_, _, e⟩ | ⟨_, _, e⟩ | ⟨_, _, e, _⟩ <;> cases e
    have := r_alike_atom (K := K) (A := A) (E := E) (sq := sp_law_alike K n) hx hy (k H (Same.refl H))
    unfold t_law_alike at this
    exact this
  · obtain ⟨a, xs, rfl, ha, hla, px⟩ : ∃ a xs, x = .ref a ∧ H a = some (.lst xs) ∧ xs.length ≤ 100000 ∧ Paired (Da H n) xs ds := by
      rcases hx with hx | ⟨a, xs, _, rfl, e, h1, h2, h3⟩ | ⟨_, _, _, _, e, _⟩
      · rcases hx with ⟨_, e⟩ | ⟨_, _, e⟩ | ⟨_, _, e⟩ | ⟨_, _, e, _⟩ <;> cases e
      · cases e; exact ⟨a, xs, rfl, h1, h2, h3⟩
      · cases e
    have el : (ys.length : Int) = (xs.length : Int) := by rw [paired2 px py]
    have it := r_alike_items (K := K) (Q := Q) (p := a) (q := b) (xs := xs) (ys := ys) (by rw [ha]; rfl) (by rw [hb]; rfl) (fun H' s => by rw [s a _ ha]; rfl) (fun H' s => by rw [s b _ hb]; rfl) hla px py k
    wp_walk using ha, hb, el, is_list_list, kn_list_list, is_list_tuple, kn_list_tuple
    exact it
  · obtain ⟨a, xs, rfl, ha, hla, px⟩ : ∃ a xs, x = .ref a ∧ H a = some (.tup xs) ∧ xs.length ≤ 100000 ∧ Paired (Da H n) xs ds := by
      rcases hx with hx | ⟨_, _, _, _, e, _⟩ | ⟨a, xs, _, rfl, e, h1, h2, h3⟩
      · rcases hx with ⟨_, e⟩ | ⟨_, _, e⟩ | ⟨_, _, e⟩ | ⟨_, _, e, _⟩ <;> cases e
      · cases e
      · cases e; exact ⟨a, xs, rfl, h1, h2, h3⟩
    have el : (ys.length : Int) = (xs.length : Int) := by rw [paired2 px py]
    have it := r_alike_items (K := K) (Q := Q) (p := a) (q := b) (xs := xs) (ys := ys) (by rw [ha]; rfl) (by rw [hb]; rfl) (fun H' s => by rw [s a _ ha]; rfl) (fun H' s => by rw [s b _ hb]; rfl) hla px py k
    wp_walk using ha, hb, el, is_tuple_list, kn_tuple_list, is_tuple_tuple, kn_tuple_tuple
    exact it
theorem r_law_word {K : PySem.W.Frag} {A : Ads} {E : XK} {ax D : Addr} {vs : List V} {H : Hp} {Q : VK} (h : sp_law_word K A ax (.ref D) none vs H Q E) : t_law_word K A E ax D { nx := fun _ H' => Q .non H', rt := Q } (L2.start ["e", "kinds", "kind"] vs) H := by
  obtain ⟨D', b1, b2, b3, b4, b5, w, rfl, eD, _, _, k1, k2, k3, k4, k5, hw, k⟩ := h
  cases eD
  unfold t_law_word
  have one : ∀ (bs : List Bool) (j : Nat), bs.length = 5 → bs[j]? = some true → (∀ m, m < j → bs[m]? = some false) → bs.filter id = [true] → ∀ (p : Addr) (H1 : Hp), Same H H1 → H1 p = some (.lst (bs.map V.bl)) →
      (∀ H', Same H H' → (["range", "form", "none", "refused", "much"] : List Str)[j]? = some w → Q (.str w) H') → (["range", "form", "none", "refused", "much"] : List Str)[j]? = some w →
      (tSeq (tIfS (dTest (tOp dNe (tCB dLen (tCons (dLcL K (dVar 1) (gName 2) (dTru (dVar 2)) (dVar 2) [2]) tNil)) (tC (.int 1)))) (tRet (tC (.str "many"))) tNext)
        (tRet (tOp dIx (tLst (tCons (tC (.str "range")) (tCons (tC (.str "form")) (tCons (tC (.str "none")) (tCons (tC (.str "refused")) (tCons (tC (.str "much")) tNil)))))) (dBM (rIndex K) (dVar 1) (tCons (tC (.bl true)) tNil)))))
        { nx := fun _ H' => Q .non H', rt := Q } [some (.ref ax), some (.ref p), none] H1 := by
    intro bs j hl hj hb hf p H1 s hp q1 q2
    wp_walk using hp
    refine lcL_core (xs := bs.map V.bl) (SqL.of hp) (by rw [List.length_map, hl]; decide) (fun x => decide (x = .bl true)) (fun x y _ => y = x) (fun _ _ _ _ _ h => h) ?_ ?_
    · intro x hx H2 s2 k1 k0 h1 h0
      obtain ⟨b, _, rfl⟩ := List.mem_map.mp hx
      walk_at "ev"
      cases b with
      | true =>
        walk_at "ev"
        exact h1 (by decide) _ H2 (Same.refl _) rfl
      | false =>
        walk_at "ev"
        exact h0 (by decide) H2 (Same.refl _)
    · intro D2 H2 ys hD s2 hys pr
      have e : (bs.map V.bl).filter (fun x => decide (x = .bl true)) = (bs.filter id).map V.bl := by
        rw [List.filter_map]
        congr 1
        apply List.filter_congr
        intro b _
        cases b <;> rfl
      rw [e, hf] at pr
      have ly : ys.length = 1 := (paired_len pr).symm
      wp_walk using hys, ly
      refine ⟨by show 5 ≤ sizeLine; decide, fun r hr => ?_⟩
      have s3 : Same H1 (upd H2 r (.lst [.str "range", .str "form", .str "none", .str "refused", .str "much"])) := s2.trans (same_new hr)
      have hp3 := s3 p _ hp
      wp_walk using hp3
      refine ⟨p, bs.map V.bl, .bl true, j, .bl true, rfl, rfl, SqL.of hp3, rfl, by simp [flatV], by rw [List.getElem?_map, hj]; rfl, rfl, fun m z' hm hz => ?_, ?_⟩
      · rw [List.getElem?_map, hb m hm] at hz
        cases hz
        rfl
      · have ee : ([V.str "range", .str "form", .str "none", .str "refused", .str "much"] : List V)[j]? = some (.str w) := by
          have := congrArg (Option.map V.str) q2
          rw [← List.getElem?_map] at this
          exact this
        walk_at "ev"
        exact atK_nat ee (q1 _ (s.trans s3) q2)
  refine seq1 ?_
  wide_line using [k1, k2, k3, k4, k5]
  simp only [List.mem_cons, Prod.mk.injEq, List.not_mem_nil, or_false] at hw
  refine ⟨by show 5 ≤ sizeLine; decide, fun p hp => ?_⟩
  have s := same_new (o := .lst [.bl b1, .bl b2, .bl b3, .bl b4, .bl b5]) hp
  have few : ∀ (bs : List Bool) (j : Nat), bs[j]? = some true → (∀ m, m < j → bs[m]? = some false) → True := fun _ _ _ _ => trivial
  rcases hw with ⟨rfl, rfl, rfl, rfl, rfl, rfl⟩ | ⟨rfl, rfl, rfl, rfl, rfl, rfl⟩ | ⟨rfl, rfl, rfl, rfl, rfl, rfl⟩ | ⟨rfl, rfl, rfl, rfl, rfl, rfl⟩ | ⟨rfl, rfl, rfl, rfl, rfl, rfl⟩
  · exact one [true, false, false, false, false] 0 rfl rfl (fun m hm => by omega) rfl p _ s upd_same (fun H' s' _ => k H' s') rfl
  · exact one [false, true, false, false, false] 1 rfl rfl (fun m hm => by match m, hm with | 0, _ => rfl) rfl p _ s upd_same (fun H' s' _ => k H' s') rfl
  · exact one [false, false, true, false, false] 2 rfl rfl (fun m hm => by match m, hm with | 0, _ => rfl | 1, _ => rfl) rfl p _ s upd_same (fun H' s' _ => k H' s') rfl
  · exact one [false, false, false, true, false] 3 rfl rfl (fun m hm => by match m, hm with | 0, _ => rfl | 1, _ => rfl | 2, _ => rfl) rfl p _ s upd_same (fun H' s' _ => k H' s') rfl
  · exact one [false, false, false, false, true] 4 rfl rfl (fun m hm => by match m, hm with | 0, _ => rfl | 1, _ => rfl | 2, _ => rfl | 3, _ => rfl) rfl p _ s upd_same (fun H' s' _ => k H' s') rfl
theorem r_is_number {K : PySem.W.Frag} {A : Ads} {E : XK} {vs : List V} {H : Hp} {Q : VK} (h : sp_is_number vs H Q E) : t_is_number K A E { nx := fun _ H' => Q .non H', rt := Q } (L2.start ["value", "least", "most"] vs) H := by
  obtain ⟨v, lo, hi, rfl, hv, k⟩ := h
  unfold t_is_number
  rcases hv with rfl | ⟨b, rfl⟩ | ⟨i, rfl⟩ | ⟨x, rfl⟩
  · walk_at "ev"
    exact k false ⟨fun h => (nomatch h), fun ⟨_, e, _⟩ => (nomatch e)⟩
  · walk_at "ev"
    exact k false ⟨fun h => (nomatch h), fun ⟨_, e, _⟩ => (nomatch e)⟩
  · walk_at "ev"
    refine ite2 (fun h1 => k _ ?_) (fun h1 => k _ ?_)
    · rw [decide_eq_true_iff]
      exact ⟨fun h => ⟨i, rfl, h1, h⟩, fun ⟨j, e, _, h⟩ => by cases e; exact h⟩
    · exact ⟨fun h => (nomatch h), fun ⟨j, e, h, _⟩ => by cases e; exact absurd h h1⟩
  · walk_at "ev"
    exact k false ⟨fun h => (nomatch h), fun ⟨_, e, _⟩ => (nomatch e)⟩
theorem r_Window__init_ {K : PySem.W.Frag} {A : Ads} {E : XK} {vs : List V} {H : Hp} {Q : VK} (h : sp_Window__init_ A vs H Q E) : t_Window__init_ K A E { nx := fun _ H' => Q .non H', rt := Q } (L2.start ["self", "wide"] vs) H := by
  obtain ⟨x, dx, v, rfl, hx, hv, ke, k⟩ := h
  unfold t_Window__init_
  refine seq1 ?_
  walk_at "ev"
  refine ⟨v, 1, 1000000000, rfl, hv, fun b hb => ?_⟩
  cases b with
  | false =>
    walk_at "ev"
    exact ke (fun hh => Bool.noConfusion (hb.mpr hh))
  | true =>
    obtain ⟨i, rfl, h1, h2⟩ := hb.mp rfl
    wp_walk using hx
    refine ⟨by decide, by decide, by decide, fun r hr => ?_⟩
    obtain ⟨n1, hr'⟩ := upd_none hr
    wp_walk using n1
    refine ⟨by decide, by decide, fun t ht => ?_⟩
    obtain ⟨n2, ht1⟩ := upd_none ht
    obtain ⟨n3, ht2⟩ := upd_none ht1
    obtain ⟨_, ht3⟩ := upd_none ht2
    wp_walk using n1, n2, n3
    refine ⟨by decide, by decide, fun l hl => ?_⟩
    simp only [upd_fresh] at hl
    obtain ⟨m1, m2, _, m3, _, hl'⟩ := hl
    have m4 := Ne.symm m1
    have n4 := Ne.symm n1
    wp_walk using n1, n2, n3, m1, m2, m3
    refine ⟨by decide, by decide, by decide, ?_⟩
    refine k i rfl h1 h2 r t l _ ⟨⟨dx, upd_same⟩, ⟨[], ?_, .nil⟩, ⟨[], ?_, .nil⟩, ⟨[], ?_, .nil⟩, n3, m3, m2⟩ ?_ hr' ht3 hl'
    · rw [upd_ne (Ne.symm n1), upd_ne m3, upd_ne (Ne.symm n1), upd_ne n3, upd_ne (Ne.symm n1), upd_same]
    · rw [upd_ne (Ne.symm n2), upd_ne m2, upd_ne (Ne.symm n2), upd_same]
    · rw [upd_ne m4, upd_same]
    · intro b o hb n
      rw [upd_ne n, upd_ne (ne_of_none hb hl'), upd_ne n, upd_ne (ne_of_none hb ht3), upd_ne n, upd_ne (ne_of_none hb hr'), upd_ne n]
      exact hb
theorem r_Window_come {K : PySem.W.Frag} {A : Ads} {E : XK} {vs : List V} {H : Hp} {Q : VK} (h : sp_Window_come A vs H Q E) : t_Window_come K A E { nx := fun _ H' => Q .non H', rt := Q } (L2.start ["self", "time", "row"] vs) H := by
  obtain ⟨w, r, t, l, s, time, rfl, W, ke, k⟩ := h
  unfold t_Window_come
  obtain ⟨dx, hw⟩ := id W.ob
  refine seq1 ?_
  wide_line using [hw]
  refine ite2 (fun hlt => ke hlt) fun hlt => ?_
  refine seq1 ?_
  wide_line using [hw]
  refine ⟨by decide, ?_⟩
  refine seq1 ?_
  refine while_to (fun m σ H' => σ = [some (.ref w), some (.int time), none] ∧ ∃ s', WinAt A H' w r t l s' ∧ FrW H H' w r t l ∧ m = s'.rows.length ∧ s'.now = time ∧ s'.wide = s.wide ∧ s'.come time = s.come time)
    (fun σ H' => σ = [some (.ref w), some (.int time), none] ∧ ∃ s', WinAt A H' w r t l s' ∧ FrW H H' w r t l ∧ s'.now = time ∧ s'.wide = s.wide ∧ s'.come time = s.come time ∧ StD (time - s.wide) s'.rows) _ ⟨rfl, { s with now := time }, W.setF (s' := { s with now := time }) rfl rfl rfl, FrW.refl.up (.inl rfl), rfl, rfl, rfl, rfl⟩ ?_ ?_
  · rintro σ H0 ⟨rfl, s0, W0, F0, e1, e2, e3, e4⟩
    obtain ⟨dx0, hw0⟩ := id W0.ob
    wide_line using [hw0]
    refine ⟨by decide, fun tp htp => ?_⟩
    let Pv1 : Nat → L2.St → Hp → Prop := fun i σ H' => ∃ o s', σ = [some (.ref w), some (.int time), o] ∧ H' tp = some (.tup [.ref t, .ref l]) ∧ WinAt A H' w r t l s' ∧ FrW H H' w r t l ∧ s'.now = time ∧ s'.wide = s.wide ∧ s'.come time = s.come time ∧ StD (time - s.wide) s'.rows ∧ (1 ≤ i → StD (time - s.wide) s'.tops) ∧ (2 ≤ i → StD (time - s.wide) s'.lows)
    refine forT_to (xs := [.ref t, .ref l]) (.inl (.inl upd_same)) Pv1 (Pv1 2) ⟨none, s0, rfl, upd_same, W0.same (same_new htp), F0.new_any W0 htp, e1, e2, e3, e4, fun h => absurd h (by decide), fun h => absurd h (by decide)⟩ ?_ (fun _ _ p => p) ?_ ?_
    · rintro i σ H1 _ ⟨_, _, _, h, _⟩
      exact .inl (.inl h)
    · rintro σ H1 ⟨o, s', rfl, _, W1, F1, g1, g2, g3, g4, g5, g6⟩
      refine k (Int.not_lt.mp hlt) _ ?_ F1
      rw [← g3, come_done g1 g2 g4 (g5 (by decide)) (g6 (by decide))]
      exact W1
    rintro N nx hx i x σ H0 hi hN ⟨o, s0, rfl, htp, W0, F0, e1, e2, e3, e4, e5, e6⟩
    obtain ⟨dx0, hw0⟩ := id W0.ob
    match i, hi with
    | 0, hi =>
      cases hi
      wide_line using [hw0]
      refine while_to (fun m σ H' => σ = [some (.ref w), some (.int time), some (.ref t)] ∧ H' tp = some (.tup [.ref t, .ref l]) ∧ ∃ s', WinAt A H' w r t l s' ∧ FrW H H' w r t l ∧ m = s'.tops.length ∧ s'.now = time ∧ s'.wide = s.wide ∧ s'.come time = s.come time ∧ StD (time - s.wide) s'.rows)
        (fun σ H' => Pv1 (0 + 1) σ H') _ ⟨rfl, htp, s0, W0, F0, rfl, e1, e2, e3, e4⟩ (fun σ H p => hN σ H p) ?_
      rintro nx3 hx3 m σ H1 ⟨rfl, htp1, s', W1, F1, rfl, f1, f2, f3, f4⟩
      obtain ⟨dx1, hw1⟩ := id W1.ob
      obtain ⟨vs, hr, pr⟩ := id W1.tp
      obtain ⟨wide, now, rows, tops, lows, sum, work⟩ := s'
      dsimp only at f1 f2 f4 hr pr ⊢
      subst f1 f2
      cases pr with
      | nil =>
        wide_line using [hw1, hr]
        exact hx3 _ _ ⟨_, _, rfl, htp1, W1, F1, rfl, rfl, f3, f4, (fun _ => ⟨rfl, rfl⟩), (fun h => absurd h (by decide))⟩
      | @cons v p vs ps pv pr =>
        obtain ⟨a, rfl, ha⟩ := pv
        wide_line using [hw1, hr, ha]
        refine ite2 (fun hle => ?_) fun hle => ?_
        · refine turnN fun N3 hN3 => ?_
          have n1 := W1.wt
          have n2 : a ≠ t := ne_of ha hr (by intro z; cases z)
          have n3 : tp ≠ t := ne_of htp1 hr (by intro z; cases z)
          have n4 : tp ≠ w := ne_of htp1 hw1 (by intro z; cases z)
          wp_walk using hw1, hr, ha, n1, n2
          refine ⟨by decide, hN3 ps.length _ _ (Nat.lt_succ_self _) ⟨rfl, by rw [upd_ne n4, upd_ne n3]; exact htp1, ⟨s.wide, now, rows, ps, lows, sum, work + 1⟩, ?_, (F1.up (.inr (.inr (.inl rfl)))).up (.inl rfl), rfl, rfl, rfl, ?_, f4⟩⟩
          · exact (W1.setT pr).setF (s' := ⟨s.wide, now, rows, ps, lows, sum, work + 1⟩) rfl rfl rfl
          · rw [← f3]
            simp only [WS.come, cut_cons hle, out_cons hle, sum2_cons, List.length_cons, WS.mk.injEq, true_and]
            omega
        · exact hx3 _ _ ⟨_, _, rfl, htp1, W1, F1, rfl, rfl, f3, f4, (fun _ => stD hle), (fun h => absurd h (by decide))⟩
    | 1, hi =>
      cases hi
      wide_line using [hw0]
      refine while_to (fun m σ H' => σ = [some (.ref w), some (.int time), some (.ref l)] ∧ H' tp = some (.tup [.ref t, .ref l]) ∧ ∃ s', WinAt A H' w r t l s' ∧ FrW H H' w r t l ∧ m = s'.lows.length ∧ s'.now = time ∧ s'.wide = s.wide ∧ s'.come time = s.come time ∧ StD (time - s.wide) s'.rows ∧ StD (time - s.wide) s'.tops)
        (fun σ H' => Pv1 (1 + 1) σ H') _ ⟨rfl, htp, s0, W0, F0, rfl, e1, e2, e3, e4, e5 (by decide)⟩ (fun σ H p => hN σ H p) ?_
      rintro nx3 hx3 m σ H1 ⟨rfl, htp1, s', W1, F1, rfl, f1, f2, f3, f4, g5⟩
      obtain ⟨dx1, hw1⟩ := id W1.ob
      obtain ⟨vs, hr, pr⟩ := id W1.lw
      obtain ⟨wide, now, rows, tops, lows, sum, work⟩ := s'
      dsimp only at f1 f2 f4 hr pr ⊢
      subst f1 f2
      cases pr with
      | nil =>
        wide_line using [hw1, hr]
        exact hx3 _ _ ⟨_, _, rfl, htp1, W1, F1, rfl, rfl, f3, f4, (fun _ => g5), (fun _ => ⟨rfl, rfl⟩)⟩
      | @cons v p vs ps pv pr =>
        obtain ⟨a, rfl, ha⟩ := pv
        wide_line using [hw1, hr, ha]
        refine ite2 (fun hle => ?_) fun hle => ?_
        · refine turnN fun N3 hN3 => ?_
          have n1 := W1.wl
          have n2 : a ≠ l := ne_of ha hr (by intro z; cases z)
          have n3 : tp ≠ l := ne_of htp1 hr (by intro z; cases z)
          have n4 : tp ≠ w := ne_of htp1 hw1 (by intro z; cases z)
          wp_walk using hw1, hr, ha, n1, n2
          refine ⟨by decide, hN3 ps.length _ _ (Nat.lt_succ_self _) ⟨rfl, by rw [upd_ne n4, upd_ne n3]; exact htp1, ⟨s.wide, now, rows, tops, ps, sum, work + 1⟩, ?_, (F1.up (.inr (.inr (.inr rfl)))).up (.inl rfl), rfl, rfl, rfl, ?_, f4, g5⟩⟩
          · exact (W1.setL pr).setF (s' := ⟨s.wide, now, rows, tops, ps, sum, work + 1⟩) rfl rfl rfl
          · rw [← f3]
            simp only [WS.come, cut_cons hle, out_cons hle, sum2_cons, List.length_cons, WS.mk.injEq, true_and]
            omega
        · exact hx3 _ _ ⟨_, _, rfl, htp1, W1, F1, rfl, rfl, f3, f4, (fun _ => g5), (fun _ => stD hle)⟩
  rintro nx hx m σ H1 ⟨rfl, s', W1, F1, rfl, e1, e2, e3⟩
  obtain ⟨dx1, hw1⟩ := id W1.ob
  obtain ⟨vs, hr, pr⟩ := id W1.rw
  obtain ⟨wide, now, rows, tops, lows, sum, work⟩ := s'
  dsimp only at e1 e2 hr pr ⊢
  subst e1 e2
  cases pr with
  | nil =>
    wide_line using [hw1, hr]
    exact hx _ _ ⟨rfl, _, W1, F1, rfl, rfl, e3, rfl, rfl⟩
  | @cons v p vs ps pv pr =>
    obtain ⟨a, rfl, ha⟩ := pv
    wide_line using [hw1, hr, ha]
    refine ite2 (fun hle => ?_) fun hle => ?_
    · refine turnN fun N hN => ?_
      have n1 := W1.wr
      have n2 : a ≠ r := ne_of ha hr (by intro z; cases z)
      wp_walk using hw1, hr, ha, n1, n2
      refine ⟨by decide, by decide, hN ps.length _ _ (Nat.lt_succ_self _) ⟨rfl, ⟨s.wide, now, ps, tops, lows, sum - p.2, work + 1⟩, ?_, (F1.up (.inr (.inl rfl))).up (.inl rfl), rfl, rfl, rfl, ?_⟩⟩
      · exact (W1.setR pr).setF (s' := ⟨s.wide, now, ps, tops, lows, sum - p.2, work + 1⟩) rfl rfl rfl
      · rw [← e3]
        simp only [WS.come, cut_cons hle, out_cons hle, sum2_cons, List.length_cons, WS.mk.injEq, true_and]
        omega
    · exact hx _ _ ⟨rfl, _, W1, F1, rfl, rfl, e3, stD hle⟩
theorem r_Window_put {K : PySem.W.Frag} {A : Ads} {E : XK} {vs : List V} {H : Hp} {Q : VK} (h : sp_Window_put A vs H Q E) : t_Window_put K A E { nx := fun _ H' => Q .non H', rt := Q } (L2.start ["self", "time", "number"] vs) H := by
  obtain ⟨w, r, t, l, s, time, number, rfl, W, l1, l2, l3, ke, k⟩ := h
  unfold t_Window_put
  obtain ⟨dx, hw⟩ := id W.ob
  refine seq1 ?_
  wide_line using [hw]
  refine ⟨w, r, t, l, s, time, rfl, W, ke, fun hlt H1 W1 F1 => ?_⟩
  obtain ⟨dx1, hw1⟩ := id W1.ob
  obtain ⟨vs, hr, pr⟩ := id W1.rw
  have n1 := W1.wr
  refine seq1 ?_
  wide_line using [hw1, hr]
  refine ⟨by decide, fun p hp => ?_⟩
  have n2 : r ≠ p := ne_of_none hr hp
  have n3 : w ≠ p := ne_of_none hw1 hp
  wide_line using [hw1, hr, n2, n3]
  have lv := paired_len pr
  have lr : (s.come time).rows.length ≤ s.rows.length := cut_len
  have lt : (s.come time).tops.length ≤ s.tops.length := cut_len
  have ll : (s.come time).lows.length ≤ s.lows.length := cut_len
  refine ⟨by rw [sizeLine_eq]; omega, ?_⟩
  have W2 := W1.pushR (a := time) (b := number) hr hp
  obtain ⟨dx2, hw2⟩ := id W2.ob
  refine seq1 ?_
  wide_line using [hw2]
  refine ⟨by decide, ?_⟩
  have W2 := W2.setF (dx := dx2) (s' := ⟨(s.come time).wide, (s.come time).now, (s.come time).rows ++ [(time, number)], (s.come time).tops, (s.come time).lows, (s.come time).sum + number, (s.come time).work⟩) rfl rfl rfl
  generalize hs1 : (⟨(s.come time).wide, (s.come time).now, (s.come time).rows ++ [(time, number)], (s.come time).tops, (s.come time).lows, (s.come time).sum + number, (s.come time).work⟩ : WS) = s1 at W2
  refine seq1 ?_
  -- tops
  refine while_to (fun m σ H' => σ = [some (.ref w), some (.int time), some (.int number)] ∧ ∃ q, WinAt A H' w r t l ⟨s1.wide, s1.now, s1.rows, q, s1.lows, s1.sum, s1.work + (s1.tops.length - (q).length : Nat)⟩ ∧ FrW H H' w r t l ∧ keepTop number q = keepTop number s1.tops ∧ q.length ≤ s1.tops.length ∧ m = q.length)
    (fun σ H' => σ = [some (.ref w), some (.int time), some (.int number)] ∧ WinAt A H' w r t l ⟨s1.wide, s1.now, s1.rows, keepTop number s1.tops, s1.lows, s1.sum, s1.work + (s1.tops.length - (keepTop number s1.tops).length : Nat)⟩ ∧ FrW H H' w r t l) _ ⟨rfl, s1.tops, by rw [Nat.sub_self, n00, Int.add_zero]; subst hs1; exact W2, ((F1.new_any W1 hp).up (.inr (.inl rfl))).up (.inl rfl), rfl, Nat.le_refl _, rfl⟩ ?_ ?_
  · rintro σ H4 ⟨rfl, W4, F4⟩
    generalize hs4 : (⟨s1.wide, s1.now, s1.rows, keepTop number s1.tops, s1.lows, s1.sum, s1.work + (s1.tops.length - (keepTop number s1.tops).length : Nat)⟩ : WS) = s4 at W4
    obtain ⟨dx4, hw4⟩ := id W4.ob
    obtain ⟨vs4, ht4, pr4⟩ := id W4.tp
    have n1 := W4.wt
    dsimp only
    refine seq1 ?_
    wide_line using [hw4, ht4]
    refine ⟨by decide, fun p hp => ?_⟩
    have n2 : t ≠ p := ne_of_none ht4 hp
    have n3 : w ≠ p := ne_of_none hw4 hp
    wide_line using [hw4, ht4, n2, n3]
    have lv := paired_len pr4
    have l4 : s4.tops.length ≤ s.tops.length := by subst hs4 hs1; exact Nat.le_trans keepTop_len lt
    refine ⟨by rw [sizeLine_eq]; omega, ?_⟩
    have W5 := W4.pushT (a := time) (b := number) ht4 hp
    generalize hs2 : (⟨s4.wide, s4.now, s4.rows, s4.tops ++ [(time, number)], s4.lows, s4.sum, s4.work⟩ : WS) = s2 at W5
    refine seq1 ?_
    -- lows
    refine while_to (fun m σ H' => σ = [some (.ref w), some (.int time), some (.int number)] ∧ ∃ q, WinAt A H' w r t l ⟨s2.wide, s2.now, s2.rows, s2.tops, q, s2.sum, s2.work + (s2.lows.length - (q).length : Nat)⟩ ∧ FrW H H' w r t l ∧ keepLow number q = keepLow number s2.lows ∧ q.length ≤ s2.lows.length ∧ m = q.length)
      (fun σ H' => σ = [some (.ref w), some (.int time), some (.int number)] ∧ WinAt A H' w r t l ⟨s2.wide, s2.now, s2.rows, s2.tops, keepLow number s2.lows, s2.sum, s2.work + (s2.lows.length - (keepLow number s2.lows).length : Nat)⟩ ∧ FrW H H' w r t l) _ ⟨rfl, s2.lows, by rw [Nat.sub_self, n00, Int.add_zero]; subst hs2; exact W5, (F4.new_any W4 hp).up (.inr (.inr (.inl rfl))), rfl, Nat.le_refl _, rfl⟩ ?_ ?_
    · rintro σ H6 ⟨rfl, W6, F6⟩
      generalize hs6 : (⟨s2.wide, s2.now, s2.rows, s2.tops, keepLow number s2.lows, s2.sum, s2.work + (s2.lows.length - (keepLow number s2.lows).length : Nat)⟩ : WS) = s6 at W6
      obtain ⟨dx6, hw6⟩ := id W6.ob
      obtain ⟨vs6, ht6, pr6⟩ := id W6.lw
      have n1 := W6.wl
      wide_line using [hw6, ht6]
      refine ⟨by decide, fun p hp => ?_⟩
      have n2 : l ≠ p := ne_of_none ht6 hp
      have n3 : w ≠ p := ne_of_none hw6 hp
      wide_line using [hw6, ht6, n2, n3]
      have lv := paired_len pr6
      have W7 := W6.pushL (a := time) (b := number) ht6 hp
      have l6 : s6.lows.length ≤ s.lows.length := by subst hs6 hs2 hs4 hs1; exact Nat.le_trans keepLow_len ll
      refine ⟨by rw [sizeLine_eq]; omega, ?_⟩
      subst hs6 hs2 hs4 hs1
      refine k hlt _ ?_ ((F6.new_any W6 hp).up (.inr (.inr (.inr rfl))))
      exact W7
    · rintro nx hx m σ H3 ⟨rfl, q, W3, F3, e1, e2, rfl⟩
      obtain ⟨dx3, hw3⟩ := id W3.ob
      obtain ⟨vs3, hr3, pr3⟩ := id W3.lw
      rcases paired_snoc pr3 with ⟨rfl, hq⟩ | ⟨v, p3, vs4, ps4, rfl, hq, ⟨a, rfl, ha⟩, pr4⟩
      · wide_line using [hw3, hr3]
        dsimp only at hq
        subst hq
        exact hx _ _ ⟨rfl, by rw [← e1]; exact W3, F3⟩
      · wide_line using [hw3, hr3, ha]
        dsimp only at hq
        subst hq
        rw [keepLow_snoc] at e1
        rw [len_snoc] at e2
        refine ite2 (fun hle => ?_) fun hle => ?_
        · refine turnN fun N hN => ?_
          have m1 := W3.wl
          have m2 : a ≠ l := ne_of ha hr3 (by intro z; cases z)
          wp_walk using hw3, hr3, ha, m1, m2
          rw [if_pos hle] at e1
          refine ⟨by decide, hN ps4.length _ _ (by simp) ⟨rfl, ps4, ?_, (F3.up (.inr (.inr (.inr rfl)))).up (.inl rfl), e1, by omega, rfl⟩⟩
          have e4 : s2.work + ((s2.lows.length - (ps4 ++ [p3]).length : Nat) : Int) + 1 = s2.work + ((s2.lows.length - ps4.length : Nat) : Int) := by rw [len_snoc]; omega
          rw [len_snoc] at e4
          rw [e4]
          exact (W3.setL pr4).setF (s' := ⟨s2.wide, s2.now, s2.rows, s2.tops, ps4, s2.sum, s2.work + (s2.lows.length - (ps4).length : Nat)⟩) rfl rfl rfl
        · rw [if_neg hle] at e1
          exact hx _ _ ⟨rfl, by rw [← e1]; exact W3, F3⟩
  · rintro nx hx m σ H3 ⟨rfl, q, W3, F3, e1, e2, rfl⟩
    obtain ⟨dx3, hw3⟩ := id W3.ob
    obtain ⟨vs3, hr3, pr3⟩ := id W3.tp
    rcases paired_snoc pr3 with ⟨rfl, hq⟩ | ⟨v, p3, vs4, ps4, rfl, hq, ⟨a, rfl, ha⟩, pr4⟩
    · wide_line using [hw3, hr3]
      dsimp only at hq
      subst hq
      exact hx _ _ ⟨rfl, by rw [← e1]; exact W3, F3⟩
    · wide_line using [hw3, hr3, ha]
      dsimp only at hq
      subst hq
      rw [keepTop_snoc] at e1
      rw [len_snoc] at e2
      refine ite2 (fun hle => ?_) fun hle => ?_
      · refine turnN fun N hN => ?_
        have m1 := W3.wt
        have m2 : a ≠ t := ne_of ha hr3 (by intro z; cases z)
        wp_walk using hw3, hr3, ha, m1, m2
        rw [if_pos hle] at e1
        refine ⟨by decide, hN ps4.length _ _ (by simp) ⟨rfl, ps4, ?_, (F3.up (.inr (.inr (.inl rfl)))).up (.inl rfl), e1, by omega, rfl⟩⟩
        have e4 : s1.work + ((s1.tops.length - (ps4 ++ [p3]).length : Nat) : Int) + 1 = s1.work + ((s1.tops.length - ps4.length : Nat) : Int) := by rw [len_snoc]; omega
        rw [len_snoc] at e4
        rw [e4]
        exact (W3.setT pr4).setF (s' := ⟨s1.wide, s1.now, s1.rows, ps4, s1.lows, s1.sum, s1.work + (s1.tops.length - (ps4).length : Nat)⟩) rfl rfl rfl
      · rw [if_neg hle] at e1
        exact hx _ _ ⟨rfl, by rw [← e1]; exact W3, F3⟩
theorem r_Window_check {K : PySem.W.Frag} {A : Ads} {E : XK} {vs : List V} {H : Hp} {Q : VK} (h : sp_Window_check A vs H Q E) : t_Window_check K A E { nx := fun _ H' => Q .non H', rt := Q } (L2.start ["self"] vs) H := by
  obtain ⟨w, r, t, l, s, rfl, W, ke, k⟩ := h
  unfold t_Window_check
  obtain ⟨dx, hw⟩ := id W.ob
  obtain ⟨vs, hr, pr⟩ := id W.rw
  have lv := paired_len pr
  wp_walk using hw, hr
  refine ite2 (fun h => ke ?_) fun h => k ?_
  · exact List.length_eq_zero_iff.mp (by omega)
  · intro e
    rw [e] at lv
    exact h (by simp at lv; simp [lv])
theorem r_Window_greatest {K : PySem.W.Frag} {A : Ads} {E : XK} {vs : List V} {H : Hp} {Q : VK} (h : sp_Window_greatest A vs H Q E) : t_Window_greatest K A E { nx := fun _ H' => Q .non H', rt := Q } (L2.start ["self"] vs) H := by
  obtain ⟨w, r, t, l, s, rfl, W, ke, k⟩ := h
  unfold t_Window_greatest
  obtain ⟨dx, hw⟩ := id W.ob
  obtain ⟨vs, hr, pr⟩ := id W.tp
  refine seq1 ?_
  wide_line using [hw]
  refine ⟨w, r, t, l, s, rfl, W, ke, fun hn => ?_⟩
  obtain ⟨p, ps, e, q⟩ := k hn
  rw [e] at pr
  cases pr with
  | @cons v _ vs _ pv pr =>
    obtain ⟨a, rfl, ha⟩ := pv
    wp_walk using hw, hr, ha
    exact q
theorem r_Window_least {K : PySem.W.Frag} {A : Ads} {E : XK} {vs : List V} {H : Hp} {Q : VK} (h : sp_Window_least A vs H Q E) : t_Window_least K A E { nx := fun _ H' => Q .non H', rt := Q } (L2.start ["self"] vs) H := by
  obtain ⟨w, r, t, l, s, rfl, W, ke, k⟩ := h
  unfold t_Window_least
  obtain ⟨dx, hw⟩ := id W.ob
  obtain ⟨vs, hr, pr⟩ := id W.lw
  refine seq1 ?_
  wide_line using [hw]
  refine ⟨w, r, t, l, s, rfl, W, ke, fun hn => ?_⟩
  obtain ⟨p, ps, e, q⟩ := k hn
  rw [e] at pr
  cases pr with
  | @cons v _ vs _ pv pr =>
    obtain ⟨a, rfl, ha⟩ := pv
    wp_walk using hw, hr, ha
    exact q
theorem r_Window_total {K : PySem.W.Frag} {A : Ads} {E : XK} {vs : List V} {H : Hp} {Q : VK} (h : sp_Window_total A vs H Q E) : t_Window_total K A E { nx := fun _ H' => Q .non H', rt := Q } (L2.start ["self"] vs) H := by
  obtain ⟨w, r, t, l, s, rfl, W, k⟩ := h
  unfold t_Window_total
  obtain ⟨dx, hw⟩ := id W.ob
  wp_walk using hw
  exact k
theorem r_Window_many {K : PySem.W.Frag} {A : Ads} {E : XK} {vs : List V} {H : Hp} {Q : VK} (h : sp_Window_many A vs H Q E) : t_Window_many K A E { nx := fun _ H' => Q .non H', rt := Q } (L2.start ["self"] vs) H := by
  obtain ⟨w, r, t, l, s, rfl, W, k⟩ := h
  unfold t_Window_many
  obtain ⟨dx, hw⟩ := id W.ob
  obtain ⟨vs, hr, pr⟩ := id W.rw
  wp_walk using hw, hr
  rw [paired_len pr]
  exact k
theorem r_Window_steps {K : PySem.W.Frag} {A : Ads} {E : XK} {vs : List V} {H : Hp} {Q : VK} (h : sp_Window_steps A vs H Q E) : t_Window_steps K A E { nx := fun _ H' => Q .non H', rt := Q } (L2.start ["self"] vs) H := by
  obtain ⟨w, r, t, l, s, rfl, W, k⟩ := h
  unfold t_Window_steps
  obtain ⟨dx, hw⟩ := id W.ob
  wp_walk using hw
  exact k
theorem r_law_told {K : PySem.W.Frag} {A : Ads} {E : XK} {vs : List V} {H : Hp} {Q : VK} (F1 : WordOk K A A.OutOfRange "range") (F2 : WordOk K A A.NotThere "none") (h : sp_law_told K A vs H Q E) : t_law_told K A E { nx := fun _ H' => Q .non H', rt := Q } (L2.start ["which", "window", "a", "b", "e"] vs) H := by
  obtain ⟨i, v, a, b, rfl, ⟨w, r, t, l, s, rfl, W, hc⟩ | ⟨rfl, ho, k⟩⟩ := h
  · obtain ⟨dx, hw⟩ := id W.ob
    rcases hc with ⟨rfl, ke, k⟩ | ⟨rfl, ke, k⟩ | ⟨rfl, time, rfl, ke, k⟩ | ⟨rfl, time, number, rfl, rfl, l1, l2, l3, ke, k⟩
    · unfold t_law_told
      wp_walk using hw
      exact ⟨w, r, t, l, s, rfl, W, fun h => F2.told (show 4 < 5 by decide) (ke h), fun h => let ⟨p, ps, e, q⟩ := k h; ⟨p, ps, e, q H fun _ _ h => h⟩⟩
    · unfold t_law_told
      wp_walk using hw
      exact ⟨w, r, t, l, s, rfl, W, fun h => F2.told (show 4 < 5 by decide) (ke h), fun h => let ⟨p, ps, e, q⟩ := k h; ⟨p, ps, e, q H fun _ _ h => h⟩⟩
    · unfold t_law_told
      wp_walk using hw
      exact ⟨w, r, t, l, s, time, rfl, W, fun h => F1.told (show 4 < 5 by decide) (ke h), k⟩
    · unfold t_law_told
      wp_walk using hw
      exact ⟨w, r, t, l, s, time, number, rfl, W, l1, l2, l3, fun h => F1.told (show 4 < 5 by decide) (ke h), k⟩
  · unfold t_law_told
    wp_walk using upd_same
    intro x dx hx hdx ne
    have s2 : Same H (upd (upd H dx (.own x)) x (.ins A.Window dx [])) := same_mut (same_new hdx) hx
    exact ⟨x, dx, a, rfl, upd_same, ho.1, fun _ => F1.told (show 4 < 5 by decide) fun H' s => k H' (s2.trans s), fun i e h1 h2 => absurd ⟨i, e, h1, h2⟩ ho.2⟩
theorem r_law_right {K : PySem.W.Frag} {A : Ads} {E : XK} {vs : List V} {H : Hp} {Q : VK} (h : sp_law_right K A vs H Q E) : t_law_right K A E { nx := fun _ H' => Q .non H', rt := Q } (L2.start ["window", "rows", "now", "wide", "numbers", "due", "time", "number"] vs) H := by
  obtain ⟨w, r, t, l, q, s, ps, now, wide, rfl, W, hps, hl, fit, k⟩ := h
  obtain ⟨us, hq, pr⟩ := id hps
  unfold t_law_right
  refine seq1 ?_
  wide_line using [hq]
  refine lcL_pair (.inl (.inl hq)) pr (by rw [paired_len pr]; omega) (fun p => decide (now - wide < p.1)) (fun p y _ => y = .int p.2) (fun _ _ _ _ _ h => h) ?_ ?_
  · rintro i x p hx hp ⟨a, rfl, ha⟩ H1 S1 k1 k0 h1 h0
    have ha1 := S1 _ _ ha
    wp_walk using ha1
    exact ite2 (fun h => h1 (decide_eq_true h) _ _ (Same.refl _) rfl) fun h => h0 (decide_eq_false h) _ (Same.refl _)
  rintro D H1 ys hD S1 hD1 pq
  have e := paired_map pq
  subst e
  have hL : List.filter (fun p => decide (now - wide < p.1)) ps = s.rows := fit.rows.symm
  have lr : s.rows.length ≤ ps.length := by rw [fit.rows]; exact List.length_filter_le _ _
  rw [hL] at hD1
  have W1 := W.same S1
  obtain ⟨dx, hw⟩ := id W.ob
  rcases hn : s.rows with _ | ⟨p0, rest⟩
  · rw [hn] at hD1
    refine seq1 ?_
    wide_line using [hD1]
    refine ⟨by decide, fun p hp => neD_da (n := 1) (da_nil (by rw [upd_ne (ne_of_none hD1 hp)]; exact hD1)) (da_nil upd_same) (by decide) ?_⟩
    rw [eqv_nil_nil]
    have S2 := same_upd (o := .lst []) S1 hp
    have hD2 := (same_new (o := .lst []) hp) _ _ hD1
    generalize upd H1 p (.lst []) = H2 at S2 hD2 ⊢
    wide_line using [hD1]
    refine ⟨by decide, fun p2 hp2 => ?_⟩
    have S3 := same_upd (o := .lst [.str "none", .str "none"]) S2 hp2
    have hD3 := (same_new (o := .lst [.str "none", .str "none"]) hp2) _ _ hD2
    have hp3 : upd H2 p2 (.lst [.str "none", .str "none"]) p2 = some (.lst [.str "none", .str "none"]) := upd_same
    generalize upd H2 p2 (.lst [.str "none", .str "none"]) = H3 at S3 hD3 hp3 ⊢
    refine ⟨0, _, _, _, rfl, .inl ⟨w, r, t, l, s, rfl, W.same S3, .inl ⟨rfl, fun _ H4 S4 => ?_, fun h => absurd hn h⟩⟩⟩
    refine ⟨1, _, _, _, rfl, .inl ⟨w, r, t, l, s, rfl, (W.same S3).same S4, .inr (.inl ⟨rfl, fun _ H5 S5 => ?_, fun h => absurd hn h⟩)⟩⟩
    have S6 := (S3.trans S4).trans S5
    have W6 := W.same S6
    have hw6 := S6 _ _ hw
    have hD6 := (S4.trans S5) _ _ hD3
    have hp6 := (S4.trans S5) _ _ hp3
    wide_line using [hw6]
    refine ⟨w, r, t, l, s, rfl, W6, ?_⟩
    wide_line using [hw6]
    refine ⟨w, r, t, l, s, rfl, W6, ?_⟩
    refine ⟨by decide, fun p5 hp5 => ?_⟩
    have n1 : D ≠ p5 := ne_of_none hD6 hp5
    refine ⟨D, [], rfl, .inl (.inl ?_), ?_⟩
    · rw [upd_ne n1]; exact hD6
    wide_line using [hD6, n1]
    refine ⟨by decide, fun p7 hp7 => ?_⟩
    obtain ⟨m1, hp7'⟩ := upd_none hp7
    have n2 : p2 ≠ p7 := ne_of_none hp6 hp7'
    have n3 : p2 ≠ p5 := ne_of_none hp6 hp5
    wide_line using [hp6, n2, n3]
    refine ⟨by decide, fun p8 hp8 => ?_⟩
    obtain ⟨m2, hp8'⟩ := upd_none hp8
    obtain ⟨m3, hp8''⟩ := upd_none hp8'
    have e1 : s.sum = ([] : List Int).sum := by rw [fit.sum, hn]; rfl
    have e2 : (0 : Int) = s.rows.length := by rw [hn]; rfl
    refine ⟨_, _, .list [.str "none", .str "none", .int s.sum, .int s.rows.length], rfl, Da.lst (xs := [.str "none", .str "none", .int s.sum, .int s.rows.length]) (n := 0) ?_ (show 4 ≤ 100000 by decide) (.cons (Da.str (by decide +kernel)) (.cons (Da.str (by decide +kernel)) (.cons Da.int (.cons Da.int .nil)))), Da.lst (n := 0) upd_same (show 4 ≤ 100000 by decide) (.cons (Da.str (by decide +kernel)) (.cons (Da.str (by decide +kernel)) (.cons (by rw [e1]; exact Da.int) (.cons (by rw [e2]; exact Da.int) .nil)))), fun H' S => k H' ((same_upd (same_upd (same_upd S6 hp5) hp7) hp8).trans S)⟩
    rw [upd_ne m3, upd_ne m1, upd_same]
  · rw [hn] at hD1
    have lr0 := lr
    rw [hn] at lr0
    simp only [List.length_cons] at lr0
    have hne : s.rows ≠ [] := by rw [hn]; exact List.cons_ne_nil _ _
    obtain ⟨ta, tb, ht, tm, tg⟩ := fit.top hne
    obtain ⟨la, lb, hll, lm, lg⟩ := fit.low hne
    rw [hn] at tm tg lm lg
    have hD1' : H1 D = some (.lst (((p0 :: rest).map (·.2)).map V.int)) := by rw [hD1, List.map_map]; rfl
    generalize hns : (p0 :: rest).map (·.2) = ns at hD1' tm tg lm lg
    have hns' : ns = p0.2 :: rest.map (·.2) := hns.symm
    have hnl : ns.length = s.rows.length := by rw [← hns, hn, List.length_map]
    clear hD1
    refine seq1 ?_
    wide_line using [hD1']
    refine ⟨by decide, fun p hp => neD_da (n := 1) (da_lints (ns := ns) (by rw [upd_ne (ne_of_none hD1' hp)]; exact hD1') (by omega)) (da_nil upd_same) (by decide) ?_⟩
    rw [hns', List.map_cons, eqv_cons_nil]
    have S2 := same_upd (o := .lst []) S1 hp
    have hD2 := (same_new (o := .lst []) hp) _ _ hD1'
    generalize upd H1 p (.lst []) = H2 at S2 hD2 ⊢
    wide_line using [hD2]
    refine ⟨D, ns, rfl, .inl (.inl hD2), by rw [hns']; exact Nat.succ_pos _, fun mx hm1 hm2 => ⟨D, ns, rfl, .inl (.inl hD2), by rw [hns']; exact Nat.succ_pos _, fun mn hn1 hn2 => ?_⟩⟩
    have emx : mx = ta.2 := Int.le_antisymm (tg _ hm1) (hm2 _ tm)
    have emn : mn = la.2 := Int.le_antisymm (hn2 _ lm) (lg _ hn1)
    subst emx emn
    refine ⟨by decide, fun p2 hp2 => ?_⟩
    have S3 := same_upd (o := .lst [.int ta.2, .int la.2]) S2 hp2
    have hD3 := (same_new (o := .lst [.int ta.2, .int la.2]) hp2) _ _ hD2
    have hp3 : upd H2 p2 (.lst [.int ta.2, .int la.2]) p2 = some (.lst [.int ta.2, .int la.2]) := upd_same
    generalize upd H2 p2 (.lst [.int ta.2, .int la.2]) = H3 at S3 hD3 hp3 ⊢
    refine ⟨0, _, _, _, rfl, .inl ⟨w, r, t, l, s, rfl, W.same S3, .inl ⟨rfl, fun h => absurd h hne, fun _ => ⟨ta, tb, ht, fun H4 S4 => ?_⟩⟩⟩⟩
    refine ⟨1, _, _, _, rfl, .inl ⟨w, r, t, l, s, rfl, (W.same S3).same S4, .inr (.inl ⟨rfl, fun h => absurd h hne, fun _ => ⟨la, lb, hll, fun H5 S5 => ?_⟩⟩)⟩⟩
    have S6 := (S3.trans S4).trans S5
    have W6 := W.same S6
    have hw6 := S6 _ _ hw
    have hD6 := (S4.trans S5) _ _ hD3
    have hp6 := (S4.trans S5) _ _ hp3
    wide_line using [hw6]
    refine ⟨w, r, t, l, s, rfl, W6, ?_⟩
    wide_line using [hw6]
    refine ⟨w, r, t, l, s, rfl, W6, ?_⟩
    refine ⟨by decide, fun p5 hp5 => ?_⟩
    have n1 : D ≠ p5 := ne_of_none hD6 hp5
    refine ⟨D, ns, rfl, .inl (.inl ?_), ?_⟩
    · rw [upd_ne n1]; exact hD6
    wide_line using [hD6, n1]
    refine ⟨by decide, fun p7 hp7 => ?_⟩
    obtain ⟨m1, hp7'⟩ := upd_none hp7
    have n2 : p2 ≠ p7 := ne_of_none hp6 hp7'
    have n3 : p2 ≠ p5 := ne_of_none hp6 hp5
    wide_line using [hp6, n2, n3]
    refine ⟨by decide, fun p8 hp8 => ?_⟩
    obtain ⟨m2, hp8'⟩ := upd_none hp8
    obtain ⟨m3, hp8''⟩ := upd_none hp8'
    have e1 : s.sum = ns.sum := by rw [fit.sum, hn, ← hns]; rfl
    have e2 : ((ns.map V.int).length : Int) = s.rows.length := by rw [List.length_map, hnl]
    refine ⟨_, _, .list [.int ta.2, .int la.2, .int s.sum, .int s.rows.length], rfl, Da.lst (xs := [.int ta.2, .int la.2, .int s.sum, .int s.rows.length]) (n := 0) ?_ (show 4 ≤ 100000 by decide) (.cons Da.int (.cons Da.int (.cons Da.int (.cons Da.int .nil)))), Da.lst (n := 0) upd_same (show 4 ≤ 100000 by decide) (.cons Da.int (.cons Da.int (.cons (by rw [e1]; exact Da.int) (.cons (by rw [e2]; exact Da.int) .nil)))), fun H' S => k H' ((same_upd (same_upd (same_upd S6 hp5) hp7) hp8).trans S)⟩
    rw [upd_ne m3, upd_ne m1, upd_same]
theorem r_law {K : PySem.W.Frag} {A : Ads} {E : XK} {vs : List V} {H : Hp} {Q : VK} (h : sp_law K vs H Q E) : t_law K A E { nx := fun _ H' => Q .non H', rt := Q } (L2.start ["script", "draws", "turn", "wide", "window", "rows", "now", "kind", "step", "number", "value"] vs) H := by
  obtain ⟨a, ns, rfl, hs, hl, k⟩ := h
  unfold t_law
  refine seq1 ?_
  wide_line using [upd_same]
  refine ⟨a, ns, rfl, hs, hl, fun d H1 ms hd S1 hd1 => ?_⟩
  refine seq1 ?_
  wide_line using [upd_same]
  refine ⟨⟨by decide, by decide⟩, ?_⟩
  refine forR_to (fun i σ H' => ∃ o2 o3 o4 o5 o6 o7 o8 o9 ms, σ = [some (V.ref a), some (.ref d), o2, o3, o4, o5, o6, o7, o8, o9, none] ∧ H' d = some (.lst (ms.map V.int))) (fun σ H' => ∃ o2 o3 o4 o5 o6 o7 o8 o9, σ = [some (V.ref a), some (.ref d), o2, o3, o4, o5, o6, o7, o8, o9, none]) ⟨_, _, _, _, _, _, _, _, ms, rfl, hd1⟩ (fun σ H ⟨o2, o3, o4, o5, o6, o7, o8, o9, ms, h, _⟩ => ⟨o2, o3, o4, o5, o6, o7, o8, o9, h⟩) ?_ ?_
  · rintro σ H2 ⟨o2, o3, o4, o5, o6, o7, o8, o9, rfl⟩
    wide_line using [upd_same]
    refine ⟨by decide, fun p hp => ?_⟩
    refine lcL_core (xs := [.int 0, .int (-1), .non, .bl true, .str "5", .int 2000000000]) (.inl (.inl upd_same)) (show 6 ≤ 1000000 by decide) (fun _ => true) (fun _ y _ => y = .str "range") (fun _ _ _ _ _ h => h) ?_ ?_
    · rintro x hx H3 S3 k1 k0 h1 _
      have hx : OffNum x := by
        simp only [List.mem_cons, List.not_mem_nil, or_false] at hx
        rcases hx with rfl | rfl | rfl | rfl | rfl | rfl
        · exact ⟨.inr (.inr (.inl ⟨_, rfl⟩)), by rintro ⟨i, e, h⟩; cases e; omega⟩
        · exact ⟨.inr (.inr (.inl ⟨_, rfl⟩)), by rintro ⟨i, e, h⟩; cases e; omega⟩
        · exact ⟨.inl rfl, by rintro ⟨i, e, h⟩; cases e⟩
        · exact ⟨.inr (.inl ⟨_, rfl⟩), by rintro ⟨i, e, h⟩; cases e⟩
        · exact ⟨.inr (.inr (.inr ⟨_, rfl⟩)), by rintro ⟨i, e, h⟩; cases e⟩
        · exact ⟨.inr (.inr (.inl ⟨_, rfl⟩)), by rintro ⟨i, e, h⟩; cases e; omega⟩
      wp_walk using upd_same
      exact ⟨4, _, _, _, rfl, .inr ⟨rfl, hx, fun H4 S4 => h1 rfl _ _ S4 rfl⟩⟩
    rintro D H3 ys hD S3 hD3 pq
    have e : ys = [.str "range", .str "range", .str "range", .str "range", .str "range", .str "range"] := paired_map (f := fun _ => V.str "range") pq
    subst e
    refine ⟨by decide, fun p1 hp1 => ⟨by decide, by decide, by decide, fun p2 hp2 => ?_⟩⟩
    obtain ⟨m1, h1⟩ := upd_none hp2
    have six : ∀ H, Paired (Da H 0) [V.str "range", .str "range", .str "range", .str "range", .str "range", .str "range"] [.str "range", .str "range", .str "range", .str "range", .str "range", .str "range"] := fun H => .cons (Da.str (by decide +kernel)) (.cons (Da.str (by decide +kernel)) (.cons (Da.str (by decide +kernel)) (.cons (Da.str (by decide +kernel)) (.cons (Da.str (by decide +kernel)) (.cons (Da.str (by decide +kernel)) .nil)))))
    refine eqD_same (n := 1) (Da.lst (xs := [V.str "range", .str "range", .str "range", .str "range", .str "range", .str "range"]) (n := 0) (by rw [upd_ne (ne_of_none hD3 h1), upd_ne (ne_of_none hD3 hp1)]; exact hD3) (show 6 ≤ 100000 by decide) (six _)) (Da.lst (xs := [V.str "range", .str "range", .str "range", .str "range", .str "range", .str "range"]) (n := 0) upd_same (show 6 ≤ 100000 by decide) (six _)) (by decide) (k _)
  rintro nx bx _ i σ H2 hi hN ⟨o2, o3, o4, o5, o6, o7, o8, o9, ms, rfl, hd2⟩
  wide_line using [upd_same]
  refine seq1 ?_
  wide_line using [upd_same]
  refine ⟨by decide, fun p5 hp5 => ⟨d, ms, 5, rfl, by rw [upd_ne (ne_of_none hd2 hp5)]; exact hd2, by decide, fun i5 ms5 b1 b2 => ?_⟩⟩
  have n5 : p5 ≠ d := fun e => by rw [e, hd2] at hp5; cases hp5
  wide_line using [n5]
  refine atK_all b1 b2 fun v hv => ?_
  have hv : ∃ wide, v = .int wide ∧ 1 ≤ wide ∧ wide ≤ 1000000000 := by
    simp only [List.mem_cons, List.not_mem_nil, or_false] at hv
    rcases hv with rfl | rfl | rfl | rfl | rfl <;> exact ⟨_, rfl, by decide, by decide⟩
  obtain ⟨wide, rfl, hw1, hw2⟩ := hv
  have hd3 : upd (upd H2 p5 (.lst [.int 1, .int 2, .int 7, .int 50, .int 1000000000])) d (.lst (ms5.map V.int)) d = some (.lst (ms5.map V.int)) := upd_same
  generalize upd (upd H2 p5 (.lst [.int 1, .int 2, .int 7, .int 50, .int 1000000000])) d (.lst (ms5.map V.int)) = H3 at hd3 ⊢
  refine seq1 ?_
  wide_line using [hd3]
  intro w dx hw hdx nwx
  refine ⟨w, dx, _, rfl, upd_same, .inr (.inr (.inl ⟨_, rfl⟩)), fun h => absurd ⟨_, rfl, hw1, hw2⟩ h, ?_⟩
  intro i9 e9
  cases e9
  intro _ _ r t l H4 W4 F4 hr4 ht4 hl4
  obtain ⟨_, hr4⟩ := upd_none hr4
  obtain ⟨_, hr4⟩ := upd_none hr4
  obtain ⟨_, ht4⟩ := upd_none ht4
  obtain ⟨_, ht4⟩ := upd_none ht4
  obtain ⟨_, hl4⟩ := upd_none hl4
  obtain ⟨_, hl4⟩ := upd_none hl4
  have hd4 : H4 d = some (.lst (ms5.map V.int)) := F4 d _ (by rw [upd_ne (ne_of_none hd3 hw), upd_ne (ne_of_none hd3 hdx)]; exact hd3) (ne_of_none hd3 hw)
  refine ⟨rfl, ?_⟩
  refine ⟨by decide, fun q hq => ?_⟩
  obtain ⟨dx4, hw4⟩ := id W4.ob
  obtain ⟨_, hr5, _⟩ := id W4.rw
  obtain ⟨_, ht5, _⟩ := id W4.tp
  obtain ⟨_, hl5, _⟩ := id W4.lw
  have S : LS A (upd H4 q (.lst [])) d w r t l q ms5 _ [] := ⟨by rw [upd_ne (ne_of_none hd4 hq)]; exact hd4, W4.same (same_new hq), ⟨[], upd_same, .nil⟩, ne_of_none hd3 hr4, ne_of_none hd3 ht4, ne_of_none hd3 hl4, ne_of_none hd4 hq, (ne_of_none hr5 hq).symm, (ne_of_none ht5 hq).symm, (ne_of_none hl5 hq).symm⟩
  generalize upd H4 q (.lst []) = H5 at S ⊢
  have Ho : Hold _ _ _ _ := hold0 (wide := wide)
  generalize hs0 : (⟨wide, 0, [], [], [], 0, 0⟩ : WS) = s0 at S Ho
  refine seq1 ?_
  wide_line using [hd4]
  refine ⟨d, ms5, 4, rfl, S.dr, by decide, fun kind ms6 kd1 kd2 => ?_⟩
  have S := S.take ms6
  generalize upd H5 d (.lst (ms6.map V.int)) = H6 at S ⊢
  refine seq1 ?_
  wide_line using [hd4]
  refine ⟨w, r, t, l, q, s0, [], 0, wide, rfl, S.W, S.Q, by decide, Ho.fit, fun H7 k7 => ?_⟩
  have S := S.same k7
  wide_line using [hd4]
  refine seq1 ?_
  wide_line using [hd4]
  refine ⟨d, ms6, 50, rfl, S.dr, by decide, fun many ms8 my1 my2 => ⟨⟨by omega, by omega⟩, ?_⟩⟩
  have S := S.take ms8
  generalize upd H7 d (.lst (ms8.map V.int)) = H8 at S ⊢
  let Mid : Nat → L2.St → Hp → Prop := fun j σ H' => ∃ o2 o8 o9 now ns s L, σ = [some (V.ref a), some (.ref d), o2, some (.int wide), some (.ref w), some (.ref q), some (.int now), some (.int kind), o8, o9, none] ∧ 0 ≤ now ∧ LS A H' d w r t l q ns s L ∧ Hold s L now wide ∧ L.length ≤ j
  refine forR_to Mid (Mid (10 + many).toNat) ⟨_, _, _, 0, _, _, [], rfl, Int.le_refl _, S, Ho, Nat.zero_le _⟩ (fun _ _ h => h) ?_ ?_
  · rintro σ H9 ⟨o2, o8, o9, now, ns, s, L, rfl, hnow, S, Ho, hL⟩
    dsimp only
    refine seq1 ?_
    obtain ⟨dx9, hw9⟩ := id S.W.ob
    have hsn : s.now = now := Ho.n
    wide_line using [hw9]
    refine ⟨w, r, t, l, s, now + wide, rfl, S.W, fun h => absurd h (by omega), fun _ H10 W10 F10 => ?_⟩
    have S := S.win W10 F10
    refine ⟨by decide, fun p hp => ?_⟩
    have S := S.same (same_new (o := .lst []) hp)
    refine ⟨w, r, t, l, p, _, [], now, wide, rfl, S.W, ⟨[], upd_same, .nil⟩, by decide, Ho.gone.2, fun H11 k11 => ?_⟩
    have S := S.same k11
    obtain ⟨dx11, hw11⟩ := id S.W.ob
    wide_line using [hw11]
    refine ⟨w, r, t, l, _, rfl, S.W, ?_⟩
    rw [Ho.gone.1]
    wide_line using [upd_same]
    exact hN _ _ ⟨_, _, _, _, _, _, _, _, _, rfl, S.dr⟩
  rintro nx3 bx3 _ j σ H9 hj hN3 ⟨o2, o8, o9, now, ns, s, L, rfl, hnow, S, Ho, hL⟩
  have hj2 : (j : Int) < 60 := by omega
  clear hd4 hd3 hd2 hN hi hp5 n5 b1 b2
  wide_line using [upd_same]
  refine seq1 ?_
  wide_line using [upd_same]
  refine ⟨d, ns, 9, rfl, S.dr, by decide, fun t1 ns1 t11 t12 => ?_⟩
  have S := S.take ns1
  generalize upd H9 d (.lst (ns1.map V.int)) = H10 at S ⊢
  refine ⟨d, ns1, 200, rfl, S.dr, by decide, fun t2 ns2 t21 t22 => ?_⟩
  have S := S.take ns2
  generalize upd H10 d (.lst (ns2.map V.int)) = H11 at S ⊢
  refine ⟨by decide, fun p hp => ?_⟩
  have np : p ≠ d := (ne_of_none S.dr hp).symm
  have S := S.same (same_new (o := .lst [.int 0, .int 0, .int 1, .int t1, .int t2]) hp)
  have hp1 : upd H11 p (.lst [.int 0, .int 0, .int 1, .int t1, .int t2]) p = some (.lst [.int 0, .int 0, .int 1, .int t1, .int t2]) := upd_same
  generalize upd H11 p (.lst [.int 0, .int 0, .int 1, .int t1, .int t2]) = H12 at S hp1 ⊢
  refine ⟨d, ns2, 5, rfl, S.dr, by decide, fun t3 ns3 t31 t32 => ?_⟩
  have S := S.take ns3
  wide_line using [np, hp1]
  refine atK_all t31 t32 fun v hv => ?_
  have hv : ∃ dn, v = .int dn ∧ 0 ≤ dn := by
    simp only [List.mem_cons, List.not_mem_nil, or_false] at hv
    rcases hv with rfl | rfl | rfl | rfl | rfl <;> exact ⟨_, rfl, by omega⟩
  obtain ⟨dn, rfl, hdn⟩ := hv
  generalize upd H12 d (.lst (ns3.map V.int)) = H13 at S ⊢
  wide_line using [upd_same]
  have hnow' : 0 ≤ now + dn := by omega
  have hle : now ≤ now + dn := by omega
  have hsn : s.now = now := Ho.n
  generalize now + dn = now1 at hnow' hle ⊢
  refine seq_to (fun σ H' => ∃ o9 ns s L, σ = [some (V.ref a), some (.ref d), o2, some (.int wide), some (.ref w), some (.ref q), some (.int now1), some (.int kind), some (.int (0 + (j : Int))), o9, none] ∧ LS A H' d w r t l q ns s L ∧ Hold s L now1 wide ∧ L.length ≤ j + 1) ?_ ?_
  · intro nx4 hx4
    wide_line using [upd_same]
    refine ⟨d, ns3, 5, rfl, S.dr, by decide, fun t4 ns4 _ _ => ?_⟩
    have S := S.take ns4
    generalize upd H13 d (.lst (ns4.map V.int)) = H14 at S ⊢
    refine ite2 (fun _ => ?_) fun _ => ?_
    · refine ⟨2, _, _, _, rfl, .inl ⟨w, r, t, l, s, rfl, S.W, .inr (.inr (.inl ⟨rfl, now1, rfl, fun h => absurd h (by omega), fun _ H15 W F => ?_⟩))⟩⟩
      wide_line using [upd_same]
      exact hx4 _ _ ⟨o9, _, _, L, rfl, S.win W F, Ho.come hle, by omega⟩
    · refine seq1 ?_
      wide_line using [upd_same]
      refine ⟨d, ns4, 5, rfl, S.dr, by decide, fun t5 ns5 _ _ => ?_⟩
      have S := S.take ns5
      generalize upd H14 d (.lst (ns5.map V.int)) = H15 at S ⊢
      refine ⟨d, ns5, 1000, rfl, S.dr, by decide, fun t6 ns6 _ _ => ?_⟩
      have S := S.take ns6
      generalize upd H15 d (.lst (ns6.map V.int)) = H16 at S ⊢
      wide_line using [upd_same]
      refine ⟨by decide, fun p hp => ?_⟩
      have S := S.same (same_new (o := .lst [.int t5, .int (t6 - 500), .int (0 + (j : Int)), .int (0 - (0 + (j : Int)))]) hp)
      refine atK_all kd1 kd2 fun v hv => ?_
      have hv : ∃ n, v = .int n := by
        simp only [List.mem_cons, List.not_mem_nil, or_false] at hv
        rcases hv with rfl | rfl | rfl | rfl <;> exact ⟨_, rfl⟩
      obtain ⟨n, rfl⟩ := hv
      generalize upd H16 p (.lst [.int t5, .int (t6 - 500), .int (0 + (j : Int)), .int (0 - (0 + (j : Int)))]) = H17 at S ⊢
      refine seq1 ?_
      obtain ⟨vs, hq, pq⟩ := id S.Q
      wide_line using [hq]
      refine ⟨by decide, fun p2 hp2 => ?_⟩
      have nq : q ≠ p2 := ne_of_none hq hp2
      wide_line using [hq, nq]
      refine ⟨by rw [sizeLine_eq, paired_len pq]; omega, ?_⟩
      have S := S.push (a := now1) (b := n) hq hp2
      generalize upd (upd H17 p2 (.tup [.int now1, .int n])) q (.lst (vs ++ [.ref p2])) = H18 at S ⊢
      have lens := Ho.lens
      refine ⟨3, _, _, _, rfl, .inl ⟨w, r, t, l, s, rfl, S.W, .inr (.inr (.inr ⟨rfl, now1, n, rfl, rfl, by omega, by omega, by omega, fun h => absurd h (by omega), fun _ H19 W F => ?_⟩))⟩⟩
      wide_line using [upd_same]
      exact hx4 _ _ ⟨_, _, _, L ++ [(now1, n)], rfl, S.win W F, (Ho.come hle).put (by omega), by rw [List.length_append]; exact Nat.succ_le_succ hL⟩
  rintro σ H14 ⟨o9, ns4, s, L, rfl, S, Ho, hL⟩
  refine seq_to (fun σ H' => ∃ o9 ns s L, σ = [some (V.ref a), some (.ref d), o2, some (.int wide), some (.ref w), some (.ref q), some (.int now1), some (.int kind), some (.int (0 + (j : Int))), o9, none] ∧ LS A H' d w r t l q ns s L ∧ Hold s L now1 wide ∧ L.length ≤ j + 1) ?_ ?_
  · intro nx4 hx4
    wide_line using [upd_same]
    refine ⟨w, r, t, l, q, s, L, now1, wide, rfl, S.W, S.Q, by omega, Ho.fit, fun H15 k15 => ?_⟩
    have S := S.same k15
    obtain ⟨dx15, hw15⟩ := id S.W.ob
    obtain ⟨vs, hq, pq⟩ := id S.Q
    wide_line using [hw15]
    refine ⟨w, r, t, l, s, rfl, S.W, ?_⟩
    wide_line using [hq]
    have lv := paired_len pq
    have hwk := Ho.work
    exact ⟨.inl ⟨by decide, by decide⟩, ite2 (fun h => absurd h (by omega)) fun _ => hx4 _ _ ⟨o9, ns4, s, L, rfl, S, Ho, hL⟩⟩
  rintro σ H14 ⟨o9, ns4, s, L, rfl, S, Ho, hL⟩
  have hsn : s.now = now1 := Ho.n
  have lens := Ho.lens
  have done : ∀ H' ns, LS A H' d w r t l q ns s L → nx3 [some (V.ref a), some (.ref d), o2, some (.int wide), some (.ref w), some (.ref q), some (.int now1), some (.int kind), some (.int (0 + (j : Int))), o9, none] H' := fun H' ns S => hN3 _ _ ⟨o2, _, o9, now1, ns, s, L, rfl, hnow', S, Ho, hL⟩
  wide_line using [upd_same]
  refine ite2 (fun h0 => ?_) fun _ => done _ _ S
  refine ⟨d, ns4, 6, rfl, S.dr, by decide, fun t7 ns7 _ _ => ?_⟩
  have S := S.take ns7
  generalize upd H14 d (.lst (ns7.map V.int)) = H15 at S ⊢
  refine ite2 (fun _ => ?_) fun _ => done _ _ S
  refine ⟨2, _, _, _, rfl, .inl ⟨w, r, t, l, s, rfl, S.W, .inr (.inr (.inl ⟨rfl, now1 - 1, rfl, fun _ H16 k16 => ?_, fun h => absurd h (by omega)⟩))⟩⟩
  have S := S.same k16
  refine ⟨3, _, _, _, rfl, .inl ⟨w, r, t, l, s, rfl, S.W, .inr (.inr (.inr ⟨rfl, now1 - 1, 5, rfl, rfl, by omega, by omega, by omega, fun _ H17 k17 => ?_, fun h => absurd h (by omega)⟩))⟩⟩
  have S := S.same k17
  refine ⟨by decide, fun p hp => ⟨by decide, fun p1 hp1 => ⟨by decide, by decide, by decide, fun p2 hp2 => ?_⟩⟩⟩
  have S := ((S.same (same_new (o := .lst [.str "range", .str "range"]) hp)).same (same_new (o := .lst [.str "range"]) hp1)).same (same_new (o := .lst (List.replicate (Int.toNat 2) [V.str "range"]).flatten) hp2)
  refine neD_same (n := 1) (d := .list [.str "range", .str "range"]) (Da.lst (xs := [.str "range", .str "range"]) (n := 0) ?_ (show 2 ≤ 100000 by decide) (.cons (Da.str (by decide +kernel)) (.cons (Da.str (by decide +kernel)) .nil))) (Da.lst (n := 0) upd_same (show 2 ≤ 100000 by decide) (.cons (Da.str (by decide +kernel)) (.cons (Da.str (by decide +kernel)) .nil))) (by decide) ?_
  · obtain ⟨m1, h1⟩ := upd_none hp1
    obtain ⟨m2, h2⟩ := upd_none hp2
    obtain ⟨m3, h3⟩ := upd_none h2
    rw [upd_ne m3, upd_ne m1, upd_same]
  wide_line using [upd_same]
  refine ⟨w, r, t, l, q, s, L, now1, wide, rfl, S.W, S.Q, by omega, Ho.fit, fun H18 k18 => ?_⟩
  exact done _ _ (S.same k18)
def top (i : Nat) : Stmt := PySem.Challenge.pw_sametrace_k22_whole_windows_of_the_last.main.body.getD i (.Pass ⟨0, 0, 0, 0⟩)
abbrev s_is_number : Stmt := top 8
abbrev N_is_number : List Str := ["value", "least", "most"]
theorem sc_is_number : FnScope N_is_number ["value", "least", "most"] (defScope s_is_number) := ⟨rfl, rfl, rfl, by decide +kernel, rfl, by decide +kernel, by decide +kernel⟩
abbrev s_Window__init_ : Stmt := inClass (top 11) 0
abbrev N_Window__init_ : List Str := ["self", "wide"]
theorem sc_Window__init_ : FnScope N_Window__init_ ["self", "wide"] (defScope s_Window__init_) := ⟨rfl, rfl, rfl, by decide +kernel, rfl, by decide +kernel, by decide +kernel⟩
abbrev s_Window_come : Stmt := inClass (top 11) 1
abbrev N_Window_come : List Str := ["self", "time", "row"]
theorem sc_Window_come : FnScope N_Window_come ["self", "time"] (defScope s_Window_come) := ⟨rfl, rfl, rfl, by decide +kernel, rfl, by decide +kernel, by decide +kernel⟩
abbrev s_Window_put : Stmt := inClass (top 11) 2
abbrev N_Window_put : List Str := ["self", "time", "number"]
theorem sc_Window_put : FnScope N_Window_put ["self", "time", "number"] (defScope s_Window_put) := ⟨rfl, rfl, rfl, by decide +kernel, rfl, by decide +kernel, by decide +kernel⟩
abbrev s_Window_check : Stmt := inClass (top 11) 3
abbrev N_Window_check : List Str := ["self"]
theorem sc_Window_check : FnScope N_Window_check ["self"] (defScope s_Window_check) := ⟨rfl, rfl, rfl, by decide +kernel, rfl, by decide +kernel, by decide +kernel⟩
abbrev s_Window_greatest : Stmt := inClass (top 11) 4
abbrev N_Window_greatest : List Str := ["self"]
theorem sc_Window_greatest : FnScope N_Window_greatest ["self"] (defScope s_Window_greatest) := ⟨rfl, rfl, rfl, by decide +kernel, rfl, by decide +kernel, by decide +kernel⟩
abbrev s_Window_least : Stmt := inClass (top 11) 5
abbrev N_Window_least : List Str := ["self"]
theorem sc_Window_least : FnScope N_Window_least ["self"] (defScope s_Window_least) := ⟨rfl, rfl, rfl, by decide +kernel, rfl, by decide +kernel, by decide +kernel⟩
abbrev s_Window_total : Stmt := inClass (top 11) 6
abbrev N_Window_total : List Str := ["self"]
theorem sc_Window_total : FnScope N_Window_total ["self"] (defScope s_Window_total) := ⟨rfl, rfl, rfl, by decide +kernel, rfl, by decide +kernel, by decide +kernel⟩
abbrev s_Window_many : Stmt := inClass (top 11) 7
abbrev N_Window_many : List Str := ["self"]
theorem sc_Window_many : FnScope N_Window_many ["self"] (defScope s_Window_many) := ⟨rfl, rfl, rfl, by decide +kernel, rfl, by decide +kernel, by decide +kernel⟩
abbrev s_Window_steps : Stmt := inClass (top 11) 8
abbrev N_Window_steps : List Str := ["self"]
theorem sc_Window_steps : FnScope N_Window_steps ["self"] (defScope s_Window_steps) := ⟨rfl, rfl, rfl, by decide +kernel, rfl, by decide +kernel, by decide +kernel⟩
abbrev s_law_draws : Stmt := top 13
abbrev N_law_draws : List Str := ["script", "draws", "cell", "number", "first", "k", "seed"]
theorem sc_law_draws : FnScope N_law_draws ["script"] (defScope s_law_draws) := ⟨rfl, rfl, rfl, by decide +kernel, rfl, by decide +kernel, by decide +kernel⟩
abbrev s_law_take : Stmt := top 14
abbrev N_law_take : List Str := ["draws", "bound"]
theorem sc_law_take : FnScope N_law_take ["draws", "bound"] (defScope s_law_take) := ⟨rfl, rfl, rfl, by decide +kernel, rfl, by decide +kernel, by decide +kernel⟩
abbrev s_law_alike : Stmt := top 15
abbrev N_law_alike : List Str := ["found", "due", "k"]
theorem sc_law_alike : FnScope N_law_alike ["found", "due"] (defScope s_law_alike) := ⟨rfl, rfl, rfl, by decide +kernel, rfl, by decide +kernel, by decide +kernel⟩
abbrev s_law_word : Stmt := top 16
abbrev N_law_word : List Str := ["e", "kinds", "kind"]
theorem sc_law_word : FnScope N_law_word ["e"] (defScope s_law_word) := ⟨rfl, rfl, rfl, by decide +kernel, rfl, by decide +kernel, by decide +kernel⟩
abbrev s_law_told : Stmt := top 17
abbrev N_law_told : List Str := ["which", "window", "a", "b", "e"]
theorem sc_law_told : FnScope N_law_told ["which", "window", "a", "b"] (defScope s_law_told) := ⟨rfl, rfl, rfl, by decide +kernel, rfl, by decide +kernel, by decide +kernel⟩
abbrev s_law_right : Stmt := top 18
abbrev N_law_right : List Str := ["window", "rows", "now", "wide", "numbers", "due", "time", "number"]
theorem sc_law_right : FnScope N_law_right ["window", "rows", "now", "wide"] (defScope s_law_right) := ⟨rfl, rfl, rfl, by decide +kernel, rfl, by decide +kernel, by decide +kernel⟩
abbrev s_law : Stmt := top 19
abbrev N_law : List Str := ["script", "draws", "turn", "wide", "window", "rows", "now", "kind", "step", "number", "value"]
theorem sc_law : FnScope N_law ["script"] (defScope s_law) := ⟨rfl, rfl, rfl, by decide +kernel, rfl, by decide +kernel, by decide +kernel⟩
structure Txt (K : PySem.W.Frag) (mg : Str → Option Value) (A : Ads) where
  is_number : FnAt K mg "is_number" s_is_number ["value", "least", "most"]
  Window__init_ : InAt K mg A.Window "Window" "Window.__init__" s_Window__init_ ["self", "wide"]
  Window_come : MeAt K A.Window "come" "Window.come" s_Window_come ["self", "time"]
  Window_put : MeAt K A.Window "put" "Window.put" s_Window_put ["self", "time", "number"]
  Window_check : MeAt K A.Window "check" "Window.check" s_Window_check ["self"]
  Window_greatest : MeAt K A.Window "greatest" "Window.greatest" s_Window_greatest ["self"]
  Window_least : MeAt K A.Window "least" "Window.least" s_Window_least ["self"]
  Window_total : MeAt K A.Window "total" "Window.total" s_Window_total ["self"]
  Window_many : MeAt K A.Window "many" "Window.many" s_Window_many ["self"]
  Window_steps : MeAt K A.Window "steps" "Window.steps" s_Window_steps ["self"]
  law_draws : FnAt K mg "_law_draws" s_law_draws ["script"]
  law_take : FnAt K mg "_law_take" s_law_take ["draws", "bound"]
  law_alike : FnAt K mg "_law_alike" s_law_alike ["found", "due"]
  law_word : FnAt K mg "_law_word" s_law_word ["e"]
  law_told : FnAt K mg "_law_told" s_law_told ["which", "window", "a", "b"]
  law_right : FnAt K mg "_law_right" s_law_right ["window", "rows", "now", "wide"]
  law : FnAt K mg "law" s_law ["script"]
  n_Window_wide : NoAttr K A.Window "wide"
  n_Window_now : NoAttr K A.Window "now"
  n_Window_rows : NoAttr K A.Window "rows"
  n_Window_tops : NoAttr K A.Window "tops"
  n_Window_lows : NoAttr K A.Window "lows"
  n_Window_sum : NoAttr K A.Window "sum"
  n_Window_work : NoAttr K A.Window "work"
  x_TraceError : GlAt K mg "TraceError" A.TraceError
  x_OutOfRange : ExAt K mg "OutOfRange" A.OutOfRange
  x_Malformed : GlAt K mg "Malformed" A.Malformed
  x_NotThere : ExAt K mg "NotThere" A.NotThere
  x_Refused : GlAt K mg "Refused" A.Refused
  x_TooMuch : GlAt K mg "TooMuch" A.TooMuch
  e_OutOfRange_TraceError : PySem.W.exmOne K (.ref A.OutOfRange) (.ref A.TraceError) = some true
  e_NotThere_TraceError : PySem.W.exmOne K (.ref A.NotThere) (.ref A.TraceError) = some true
  i_OutOfRange_OutOfRange : PySem.W.kitOne K (.ref A.OutOfRange) (.ref A.OutOfRange) = some true
  i_OutOfRange_Malformed : PySem.W.kitOne K (.ref A.OutOfRange) (.ref A.Malformed) = some false
  i_OutOfRange_NotThere : PySem.W.kitOne K (.ref A.OutOfRange) (.ref A.NotThere) = some false
  i_OutOfRange_Refused : PySem.W.kitOne K (.ref A.OutOfRange) (.ref A.Refused) = some false
  i_OutOfRange_TooMuch : PySem.W.kitOne K (.ref A.OutOfRange) (.ref A.TooMuch) = some false
  i_NotThere_OutOfRange : PySem.W.kitOne K (.ref A.NotThere) (.ref A.OutOfRange) = some false
  i_NotThere_Malformed : PySem.W.kitOne K (.ref A.NotThere) (.ref A.Malformed) = some false
  i_NotThere_NotThere : PySem.W.kitOne K (.ref A.NotThere) (.ref A.NotThere) = some true
  i_NotThere_Refused : PySem.W.kitOne K (.ref A.NotThere) (.ref A.Refused) = some false
  i_NotThere_TooMuch : PySem.W.kitOne K (.ref A.NotThere) (.ref A.TooMuch) = some false
  b_len : mg "len" = none
  b_abs : mg "abs" = none
  b_int : mg "int" = none
  b_list : mg "list" = none
  b_reversed : mg "reversed" = none
  b_isinstance : mg "isinstance" = none
  b_range : mg "range" = none
  b_max : mg "max" = none
  b_min : mg "min" = none
  b_sum : mg "sum" = none
  b_bool : mg "bool" = none
  b_str : mg "str" = none
  b_tuple : mg "tuple" = none
  c_MOST_TIME : CoAt K mg "MOST_TIME" (.int 1000000000)
section
variable {P : Program} {w : World} {K : PySem.W.Frag} {mg : Str → Option Value} {base : Heap} {A : Ads}
theorem ok_is_number (T : Txt K mg A)  
    (len : ∀ vs H Q E, sp_is_number vs H Q E → vs.length = 3) (rd : ∀ vs H Q E, sp_is_number vs H Q E → t_is_number K A E  { nx := fun _ H' => Q .non H', rt := Q } (L2.start N_is_number vs) H) :
    FnOk P w K mg base CX0 1 T.is_number.a T.is_number.fd ["value", "least", "most"] sp_is_number := by
  refine T.is_number.F.ok sc_is_number len (fun cdv AA outer s H vs Q E hr h => ⟨t_is_number K A E , ?_, rd vs H Q E h⟩)
  have hr : Room 0 _ := hr
  have hu := hr
  have nd := sc_is_number.nd
  exact (pss_one (ps_ret (d_and (pe_callB d_isi (by rfl) T.b_isinstance (by decide +kernel) (pa_cons (dv 0) (pa_cons (pe_bltn (by rfl) T.b_int boot_int rfl) pa_nil))) (d_and (d_not (pe_callB d_isi (by rfl) T.b_isinstance (by decide +kernel) (pa_cons (dv 0) (pa_cons (pe_bltn (by rfl) T.b_bool boot_bool rfl) pa_nil)))) (pe_one (d_chain d_le d_le (dv 1) (dv 0) (dv 2)))))))
theorem ok_Window__init_ (T : Txt K mg A)  (G_is_number : FnOk P w K mg base CX0 1 T.is_number.a T.is_number.fd ["value", "least", "most"] sp_is_number)
    (len : ∀ vs H Q E, (sp_Window__init_ A) vs H Q E → vs.length = 2) (rd : ∀ vs H Q E, (sp_Window__init_ A) vs H Q E → t_Window__init_ K A E  { nx := fun _ H' => Q .non H', rt := Q } (L2.start N_Window__init_ vs) H) :
    FnOk P w K mg base (L2N.CX P w) 2 T.Window__init_.a T.Window__init_.fd ["self", "wide"] (sp_Window__init_ A) := by
  refine okN T.Window__init_.F sc_Window__init_ len (fun cdv AA outer s H vs Q E hr h => ⟨t_Window__init_ K A E , ?_, rd vs H Q E h⟩)
  have hr : Room 1 _ := hr
  have hu := hr
  have nd := sc_Window__init_.nd
  exact (pss_cons (ps_if (pt_not (dt_tru (c_call G_is_number (hr.mono (by decide)) T.is_number.g T.is_number.F.kp T.is_number.b (fun _ => at0) (pa_cons (dv 1) (pa_cons pe_int (pa_cons (let ⟨_, hm, hr⟩ := T.c_MOST_TIME.ex; pe_glob (by rfl) hm hr) pa_nil))))))
  (pss_one (L2N.ps_raise rfl (tkN rfl rfl rfl rfl) (L2N.pmk_own PySem.F.excBase_ValueError T.x_OutOfRange.ex T.x_OutOfRange.g T.x_OutOfRange.k (raises_own T.x_OutOfRange.b T.x_OutOfRange.t) (by rfl))))
  pss_nil)
  (pss_cons (d_sfld T.Window__init_.cl T.n_Window_wide (dv 0) (dv 1))
  (pss_cons (d_sfld T.Window__init_.cl T.n_Window_now (dv 0) pe_int)
  (pss_cons (d_sfld T.Window__init_.cl T.n_Window_rows (dv 0) (pe_lst pa_nil))
  (pss_cons (d_sfld T.Window__init_.cl T.n_Window_tops (dv 0) (pe_lst pa_nil))
  (pss_cons (d_sfld T.Window__init_.cl T.n_Window_lows (dv 0) (pe_lst pa_nil))
  (pss_cons (d_sfld T.Window__init_.cl T.n_Window_sum (dv 0) pe_int)
  (pss_one (d_sfld T.Window__init_.cl T.n_Window_work (dv 0) pe_int)))))))))
theorem ok_Window_come (T : Txt K mg A)  
    (len : ∀ vs H Q E, (sp_Window_come A) vs H Q E → vs.length = 2) (rd : ∀ vs H Q E, (sp_Window_come A) vs H Q E → t_Window_come K A E  { nx := fun _ H' => Q .non H', rt := Q } (L2.start N_Window_come vs) H) :
    FnOk P w K mg base (L2N.CX P w) 1 T.Window_come.a T.Window_come.fd ["self", "time"] (sp_Window_come A) := by
  refine okN T.Window_come.F sc_Window_come len (fun cdv AA outer s H vs Q E hr h => ⟨t_Window_come K A E , ?_, rd vs H Q E h⟩)
  have hr : Room 0 _ := hr
  have hu := hr
  have nd := sc_Window_come.nd
  exact (pss_cons (ps_if (dt_cmp d_lt (dv 1) (d_fld T.Window__init_.cl T.n_Window_now (dv 0)) (nomark _))
  (pss_one (L2N.ps_raise rfl (tkN rfl rfl rfl rfl) (L2N.pmk_own PySem.F.excBase_ValueError T.x_OutOfRange.ex T.x_OutOfRange.g T.x_OutOfRange.k (raises_own T.x_OutOfRange.b T.x_OutOfRange.t) (by rfl))))
  pss_nil)
  (pss_cons (d_sfld T.Window__init_.cl T.n_Window_now (dv 0) (dv 1))
  (pss_cons (ps_while (L2.passes_of rfl) (PW.pt (pw_and (dt_cmp d_gt (pe_callB d_len (by rfl) T.b_len (by decide +kernel) (pa_cons (d_fld T.Window__init_.cl T.n_Window_rows (dv 0)) pa_nil)) pe_int (nomark _)) (pw_and1 (dt_cmp d_le (pe_ix d_ix (pe_ix d_ix (d_fld T.Window__init_.cl T.n_Window_rows (dv 0)) pe_int (fun _ _ => rfl)) pe_int (fun _ _ => rfl)) (pe_op d_sub (dv 1) (d_fld T.Window__init_.cl T.n_Window_wide (dv 0))) (nomark _)))))
  (pss_cons (d_saug iop_sub T.Window__init_.cl T.n_Window_sum (dv 0) (pe_ix d_ix (d_bm PySem.F.plainAttrs_list PySem.F.slot_list_pop PySem.F.type_list_pop m_popAt (d_fld T.Window__init_.cl T.n_Window_rows (dv 0)) (pa_cons pe_int pa_nil)) pe_int (fun _ _ => rfl)))
  (pss_one (d_saug iop_add T.Window__init_.cl T.n_Window_work (dv 0) pe_int))))
  (pss_one (d_forT (L2.passes_of rfl) rfl (pe_tup (pa_cons (d_fld T.Window__init_.cl T.n_Window_tops (dv 0)) (pa_cons (d_fld T.Window__init_.cl T.n_Window_lows (dv 0)) pa_nil))) (pg_name (i := 2) nd rfl (Or.inl rfl))
  (pss_one (ps_while (L2.passes_of rfl) (PW.pt (pw_and (dt_cmp d_gt (pe_callB d_len (by rfl) T.b_len (by decide +kernel) (pa_cons (dv 2) pa_nil)) pe_int (nomark _)) (pw_and1 (dt_cmp d_le (pe_ix d_ix (pe_ix d_ix (dv 2) pe_int (fun _ _ => rfl)) pe_int (fun _ _ => rfl)) (pe_op d_sub (dv 1) (d_fld T.Window__init_.cl T.n_Window_wide (dv 0))) (nomark _)))))
  (pss_cons (ps_expr (d_bm PySem.F.plainAttrs_list PySem.F.slot_list_pop PySem.F.type_list_pop m_popAt (dv 2) (pa_cons pe_int pa_nil)))
  (pss_one (d_saug iop_add T.Window__init_.cl T.n_Window_work (dv 0) pe_int))))))))))
theorem ok_Window_put (T : Txt K mg A)  (G_Window_come : FnOk P w K mg base (L2N.CX P w) 1 T.Window_come.a T.Window_come.fd ["self", "time"] (sp_Window_come A))
    (len : ∀ vs H Q E, (sp_Window_put A) vs H Q E → vs.length = 3) (rd : ∀ vs H Q E, (sp_Window_put A) vs H Q E → t_Window_put K A E  { nx := fun _ H' => Q .non H', rt := Q } (L2.start N_Window_put vs) H) :
    FnOk P w K mg base (L2N.CX P w) 2 T.Window_put.a T.Window_put.fd ["self", "time", "number"] (sp_Window_put A) := by
  refine okN T.Window_put.F sc_Window_put len (fun cdv AA outer s H vs Q E hr h => ⟨t_Window_put K A E , ?_, rd vs H Q E h⟩)
  have hr : Room 1 _ := hr
  have hu := hr
  have nd := sc_Window_put.nd
  exact (pss_cons (ps_expr (d_meth (dv 0) T.Window__init_.cl T.Window_come.m G_Window_come (hr.mono (by decide)) T.Window_come.b (fun σ => L2N.passAt (tkN rfl rfl rfl rfl) σ) (pa_cons (dv 1) pa_nil)))
  (pss_cons (ps_expr (d_bm PySem.F.plainAttrs_list PySem.F.slot_list_append PySem.F.type_list_append m_append (d_fld T.Window__init_.cl T.n_Window_rows (dv 0)) (pa_cons (pe_tup (pa_cons (dv 1) (pa_cons (dv 2) pa_nil))) pa_nil)))
  (pss_cons (d_saug iop_add T.Window__init_.cl T.n_Window_sum (dv 0) (dv 2))
  (pss_cons (ps_while (L2.passes_of rfl) (PW.pt (pw_and (dt_cmp d_gt (pe_callB d_len (by rfl) T.b_len (by decide +kernel) (pa_cons (d_fld T.Window__init_.cl T.n_Window_tops (dv 0)) pa_nil)) pe_int (nomark _)) (pw_and1 (dt_cmp d_le (pe_ix d_ix (pe_ix d_ix (d_fld T.Window__init_.cl T.n_Window_tops (dv 0)) (pe_un d_neg pe_int) (fun _ _ => rfl)) pe_int (fun _ _ => rfl)) (dv 2) (nomark _)))))
  (pss_cons (ps_expr (d_bm0 PySem.F.plainAttrs_list PySem.F.slot_list_pop PySem.F.type_list_pop m_pop (d_fld T.Window__init_.cl T.n_Window_tops (dv 0))))
  (pss_one (d_saug iop_add T.Window__init_.cl T.n_Window_work (dv 0) pe_int))))
  (pss_cons (ps_expr (d_bm PySem.F.plainAttrs_list PySem.F.slot_list_append PySem.F.type_list_append m_append (d_fld T.Window__init_.cl T.n_Window_tops (dv 0)) (pa_cons (pe_tup (pa_cons (dv 1) (pa_cons (dv 2) pa_nil))) pa_nil)))
  (pss_cons (ps_while (L2.passes_of rfl) (PW.pt (pw_and (dt_cmp d_gt (pe_callB d_len (by rfl) T.b_len (by decide +kernel) (pa_cons (d_fld T.Window__init_.cl T.n_Window_lows (dv 0)) pa_nil)) pe_int (nomark _)) (pw_and1 (dt_cmp d_ge (pe_ix d_ix (pe_ix d_ix (d_fld T.Window__init_.cl T.n_Window_lows (dv 0)) (pe_un d_neg pe_int) (fun _ _ => rfl)) pe_int (fun _ _ => rfl)) (dv 2) (nomark _)))))
  (pss_cons (ps_expr (d_bm0 PySem.F.plainAttrs_list PySem.F.slot_list_pop PySem.F.type_list_pop m_pop (d_fld T.Window__init_.cl T.n_Window_lows (dv 0))))
  (pss_one (d_saug iop_add T.Window__init_.cl T.n_Window_work (dv 0) pe_int))))
  (pss_one (ps_expr (d_bm PySem.F.plainAttrs_list PySem.F.slot_list_append PySem.F.type_list_append m_append (d_fld T.Window__init_.cl T.n_Window_lows (dv 0)) (pa_cons (pe_tup (pa_cons (dv 1) (pa_cons (dv 2) pa_nil))) pa_nil))))))))))
theorem ok_Window_check (T : Txt K mg A)  
    (len : ∀ vs H Q E, (sp_Window_check A) vs H Q E → vs.length = 1) (rd : ∀ vs H Q E, (sp_Window_check A) vs H Q E → t_Window_check K A E  { nx := fun _ H' => Q .non H', rt := Q } (L2.start N_Window_check vs) H) :
    FnOk P w K mg base (L2N.CX P w) 1 T.Window_check.a T.Window_check.fd ["self"] (sp_Window_check A) := by
  refine okN T.Window_check.F sc_Window_check len (fun cdv AA outer s H vs Q E hr h => ⟨t_Window_check K A E , ?_, rd vs H Q E h⟩)
  have hr : Room 0 _ := hr
  have hu := hr
  have nd := sc_Window_check.nd
  exact (pss_one (ps_if (dt_cmp d_eq (pe_callB d_len (by rfl) T.b_len (by decide +kernel) (pa_cons (d_fld T.Window__init_.cl T.n_Window_rows (dv 0)) pa_nil)) pe_int (nomark _))
  (pss_one (L2N.ps_raise rfl (tkN rfl rfl rfl rfl) (L2N.pmk_own PySem.F.excBase_ValueError T.x_NotThere.ex T.x_NotThere.g T.x_NotThere.k (raises_own T.x_NotThere.b T.x_NotThere.t) (by rfl))))
  pss_nil))
theorem ok_Window_greatest (T : Txt K mg A)  (G_Window_check : FnOk P w K mg base (L2N.CX P w) 1 T.Window_check.a T.Window_check.fd ["self"] (sp_Window_check A))
    (len : ∀ vs H Q E, (sp_Window_greatest A) vs H Q E → vs.length = 1) (rd : ∀ vs H Q E, (sp_Window_greatest A) vs H Q E → t_Window_greatest K A E  { nx := fun _ H' => Q .non H', rt := Q } (L2.start N_Window_greatest vs) H) :
    FnOk P w K mg base (L2N.CX P w) 2 T.Window_greatest.a T.Window_greatest.fd ["self"] (sp_Window_greatest A) := by
  refine okN T.Window_greatest.F sc_Window_greatest len (fun cdv AA outer s H vs Q E hr h => ⟨t_Window_greatest K A E , ?_, rd vs H Q E h⟩)
  have hr : Room 1 _ := hr
  have hu := hr
  have nd := sc_Window_greatest.nd
  exact (pss_cons (ps_expr (d_meth0 (dv 0) T.Window__init_.cl T.Window_check.m G_Window_check (hr.mono (by decide)) T.Window_check.b (fun σ => L2N.passAt (tkN rfl rfl rfl rfl) σ)))
  (pss_one (ps_ret (pe_ix d_ix (pe_ix d_ix (d_fld T.Window__init_.cl T.n_Window_tops (dv 0)) pe_int (fun _ _ => rfl)) pe_int (fun _ _ => rfl)))))
theorem ok_Window_least (T : Txt K mg A)  (G_Window_check : FnOk P w K mg base (L2N.CX P w) 1 T.Window_check.a T.Window_check.fd ["self"] (sp_Window_check A))
    (len : ∀ vs H Q E, (sp_Window_least A) vs H Q E → vs.length = 1) (rd : ∀ vs H Q E, (sp_Window_least A) vs H Q E → t_Window_least K A E  { nx := fun _ H' => Q .non H', rt := Q } (L2.start N_Window_least vs) H) :
    FnOk P w K mg base (L2N.CX P w) 2 T.Window_least.a T.Window_least.fd ["self"] (sp_Window_least A) := by
  refine okN T.Window_least.F sc_Window_least len (fun cdv AA outer s H vs Q E hr h => ⟨t_Window_least K A E , ?_, rd vs H Q E h⟩)
  have hr : Room 1 _ := hr
  have hu := hr
  have nd := sc_Window_least.nd
  exact (pss_cons (ps_expr (d_meth0 (dv 0) T.Window__init_.cl T.Window_check.m G_Window_check (hr.mono (by decide)) T.Window_check.b (fun σ => L2N.passAt (tkN rfl rfl rfl rfl) σ)))
  (pss_one (ps_ret (pe_ix d_ix (pe_ix d_ix (d_fld T.Window__init_.cl T.n_Window_lows (dv 0)) pe_int (fun _ _ => rfl)) pe_int (fun _ _ => rfl)))))
theorem ok_Window_total (T : Txt K mg A)  
    (len : ∀ vs H Q E, (sp_Window_total A) vs H Q E → vs.length = 1) (rd : ∀ vs H Q E, (sp_Window_total A) vs H Q E → t_Window_total K A E  { nx := fun _ H' => Q .non H', rt := Q } (L2.start N_Window_total vs) H) :
    FnOk P w K mg base CX0 1 T.Window_total.a T.Window_total.fd ["self"] (sp_Window_total A) := by
  refine T.Window_total.F.ok sc_Window_total len (fun cdv AA outer s H vs Q E hr h => ⟨t_Window_total K A E , ?_, rd vs H Q E h⟩)
  have hr : Room 0 _ := hr
  have hu := hr
  have nd := sc_Window_total.nd
  exact (pss_one (ps_ret (d_fld T.Window__init_.cl T.n_Window_sum (dv 0))))
theorem ok_Window_many (T : Txt K mg A)  
    (len : ∀ vs H Q E, (sp_Window_many A) vs H Q E → vs.length = 1) (rd : ∀ vs H Q E, (sp_Window_many A) vs H Q E → t_Window_many K A E  { nx := fun _ H' => Q .non H', rt := Q } (L2.start N_Window_many vs) H) :
    FnOk P w K mg base CX0 1 T.Window_many.a T.Window_many.fd ["self"] (sp_Window_many A) := by
  refine T.Window_many.F.ok sc_Window_many len (fun cdv AA outer s H vs Q E hr h => ⟨t_Window_many K A E , ?_, rd vs H Q E h⟩)
  have hr : Room 0 _ := hr
  have hu := hr
  have nd := sc_Window_many.nd
  exact (pss_one (ps_ret (pe_callB d_len (by rfl) T.b_len (by decide +kernel) (pa_cons (d_fld T.Window__init_.cl T.n_Window_rows (dv 0)) pa_nil))))
theorem ok_Window_steps (T : Txt K mg A)  
    (len : ∀ vs H Q E, (sp_Window_steps A) vs H Q E → vs.length = 1) (rd : ∀ vs H Q E, (sp_Window_steps A) vs H Q E → t_Window_steps K A E  { nx := fun _ H' => Q .non H', rt := Q } (L2.start N_Window_steps vs) H) :
    FnOk P w K mg base CX0 1 T.Window_steps.a T.Window_steps.fd ["self"] (sp_Window_steps A) := by
  refine T.Window_steps.F.ok sc_Window_steps len (fun cdv AA outer s H vs Q E hr h => ⟨t_Window_steps K A E , ?_, rd vs H Q E h⟩)
  have hr : Room 0 _ := hr
  have hu := hr
  have nd := sc_Window_steps.nd
  exact (pss_one (ps_ret (d_fld T.Window__init_.cl T.n_Window_work (dv 0))))
theorem ok_law_draws (T : Txt K mg A)  
    (len : ∀ vs H Q E, (sp_law_draws K) vs H Q E → vs.length = 1) (rd : ∀ vs H Q E, (sp_law_draws K) vs H Q E → t_law_draws K A E  { nx := fun _ H' => Q .non H', rt := Q } (L2.start N_law_draws vs) H) :
    FnOk P w K mg base CX0 1 T.law_draws.a T.law_draws.fd ["script"] (sp_law_draws K) := by
  refine T.law_draws.F.ok sc_law_draws len (fun cdv AA outer s H vs Q E hr h => ⟨t_law_draws K A E , ?_, rd vs H Q E h⟩)
  have hr : Room 0 _ := hr
  have hu := hr
  have nd := sc_law_draws.nd
  exact (pss_cons (ps_set (i := 1) nd rfl (Or.inl rfl) (pe_lst pa_nil))
  (pss_cons (d_forL PassesOwn.never rfl (dv 0) (pg_name (i := 2) nd rfl (Or.inl rfl))
  (pss_cons (ps_set (i := 3) nd rfl (Or.inl rfl) (pe_callB d_abs (by rfl) T.b_abs (by decide +kernel) (pa_cons (dv 2) pa_nil)))
  (pss_cons (ps_if (dt_cmp d_lt (dv 3) (pe_op d_pow pe_int pe_int) (nomark _))
  (pss_cons (ps_set (i := 4) nd rfl (Or.inl rfl) (pe_op d_mod (pe_callTy d_int (by rfl) T.b_int (by decide +kernel) (pa_cons (pe_op d_add (pe_op d_mul (dv 3) pe_int) pe_int) pa_nil)) pe_int))
  (pss_cons (ps_expr (d_bm PySem.F.plainAttrs_list PySem.F.slot_list_append PySem.F.type_list_append m_append (dv 1) (pa_cons (pe_op d_mod (pe_callTy d_int (by rfl) T.b_int (by decide +kernel) (pa_cons (pe_op d_add (pe_op d_mul (dv 4) pe_int) (dv 3)) pa_nil)) pe_int) pa_nil)))
  (pss_cons (ps_expr (d_bm PySem.F.plainAttrs_list PySem.F.slot_list_append PySem.F.type_list_append m_append (dv 1) (pa_cons (pe_op d_mod (pe_callTy d_int (by rfl) T.b_int (by decide +kernel) (pa_cons (pe_op d_add (dv 4) (pe_op d_div (dv 3) pe_int)) pa_nil)) pe_int) pa_nil)))
  (pss_one (ps_set (i := 3) nd rfl (Or.inl rfl) pe_int)))))
  pss_nil)
  (pss_one (d_forR1 PassesOwn.never rfl T.b_range (pa_cons pe_int pa_nil) (pg_name (i := 5) nd rfl (Or.inl rfl))
  (pss_one (ps_if (dt_cmp d_gt (dv 3) pe_int (nomark _))
  (pss_cons (ps_expr (d_bm PySem.F.plainAttrs_list PySem.F.slot_list_append PySem.F.type_list_append m_append (dv 1) (pa_cons (pe_op d_mod (pe_callTy d_int (by rfl) T.b_int (by decide +kernel) (pa_cons (dv 3) pa_nil)) pe_int) pa_nil)))
  (pss_one (ps_set (i := 3) nd rfl (Or.inl rfl) (pe_op d_div (dv 3) pe_int))))
  pss_nil)))))))
  (pss_cons (ps_set (i := 6) nd rfl (Or.inl rfl) pe_int)
  (pss_cons (ps_if (dt_cmp d_gt (pe_callB u_len (by rfl) T.b_len (by decide +kernel) (pa_cons (dv 0) pa_nil)) pe_int (nomark _))
  (pss_one (ps_set (i := 6) nd rfl (Or.inl rfl) (pe_op d_add pe_int (pe_callB d_abs (by rfl) T.b_abs (by decide +kernel) (pa_cons (pe_ix ix_seq (dv 0) pe_int (fun _ _ => rfl)) pa_nil)))))
  pss_nil)
  (pss_cons (d_forR1 PassesOwn.never rfl T.b_range (pa_cons pe_int pa_nil) (pg_name (i := 5) nd rfl (Or.inl rfl))
  (pss_cons (ps_set (i := 6) nd rfl (Or.inl rfl) (pe_op d_mod (pe_callTy d_int (by rfl) T.b_int (by decide +kernel) (pa_cons (pe_op d_add (pe_op d_mul (dv 6) pe_int) pe_int) pa_nil)) pe_int))
  (pss_one (ps_expr (d_bm PySem.F.plainAttrs_list PySem.F.slot_list_append PySem.F.type_list_append m_append (dv 1) (pa_cons (pe_op d_div (dv 6) pe_int) pa_nil))))))
  (pss_one (ps_ret (pe_listRev rfl T.b_list T.b_reversed (dv 1)))))))))
theorem ok_law_take (T : Txt K mg A)  
    (len : ∀ vs H Q E, sp_law_take vs H Q E → vs.length = 2) (rd : ∀ vs H Q E, sp_law_take vs H Q E → t_law_take K A E  { nx := fun _ H' => Q .non H', rt := Q } (L2.start N_law_take vs) H) :
    FnOk P w K mg base CX0 1 T.law_take.a T.law_take.fd ["draws", "bound"] sp_law_take := by
  refine T.law_take.F.ok sc_law_take len (fun cdv AA outer s H vs Q E hr h => ⟨t_law_take K A E , ?_, rd vs H Q E h⟩)
  have hr : Room 0 _ := hr
  have hu := hr
  have nd := sc_law_take.nd
  exact (pss_cons (ps_if (dt_cmp d_eq (pe_callB d_len (by rfl) T.b_len (by decide +kernel) (pa_cons (dv 0) pa_nil)) pe_int (nomark _))
  (pss_one (ps_ret pe_int))
  pss_nil)
  (pss_one (ps_ret (pe_op d_mod (pe_callTy d_int (by rfl) T.b_int (by decide +kernel) (pa_cons (d_bm0 PySem.F.plainAttrs_list PySem.F.slot_list_pop PySem.F.type_list_pop m_pop (dv 0)) pa_nil)) (dv 1)))))
theorem ok_law_alike (T : Txt K mg A) (sq ss : Sp) (n : Nat) (G_law_alike : FnOk P w K mg base CX0 (n + 1) T.law_alike.a T.law_alike.fd ["found", "due"] sq)
    (len : ∀ vs H Q E, ss vs H Q E → vs.length = 2) (rd : ∀ vs H Q E, ss vs H Q E → t_law_alike K A E sq { nx := fun _ H' => Q .non H', rt := Q } (L2.start N_law_alike vs) H) :
    FnOk P w K mg base CX0 (n + 2) T.law_alike.a T.law_alike.fd ["found", "due"] ss := by
  refine T.law_alike.F.ok sc_law_alike len (fun cdv AA outer s H vs Q E hr h => ⟨t_law_alike K A E sq, ?_, rd vs H Q E h⟩)
  have hr : Room (n + 1) _ := hr
  have hu := hr
  have nd := sc_law_alike.nd
  exact (pss_cons (ps_if (PW.pt (pw_or (dt_tru (pe_callB d_isi (by rfl) T.b_isinstance (by decide +kernel) (pa_cons (dv 1) (pa_cons (pe_bltn (by rfl) T.b_list boot_list rfl) pa_nil)))) (pw_or1 (dt_tru (pe_callB d_isi (by rfl) T.b_isinstance (by decide +kernel) (pa_cons (dv 1) (pa_cons (pe_bltn (by rfl) T.b_tuple boot_tuple rfl) pa_nil)))))))
  (pss_cons (ps_if (PW.pt (pw_or (dt_cmp d_ne (pe_callB d_isi (by rfl) T.b_isinstance (by decide +kernel) (pa_cons (dv 0) (pa_cons (pe_bltn (by rfl) T.b_list boot_list rfl) pa_nil))) (pe_callB d_isi (by rfl) T.b_isinstance (by decide +kernel) (pa_cons (dv 1) (pa_cons (pe_bltn (by rfl) T.b_list boot_list rfl) pa_nil))) (nomark _)) (pw_or1 (dt_cmp d_ne (pe_callB d_isi (by rfl) T.b_isinstance (by decide +kernel) (pa_cons (dv 0) (pa_cons (pe_bltn (by rfl) T.b_tuple boot_tuple rfl) pa_nil))) (pe_callB d_isi (by rfl) T.b_isinstance (by decide +kernel) (pa_cons (dv 1) (pa_cons (pe_bltn (by rfl) T.b_tuple boot_tuple rfl) pa_nil))) (nomark _)))))
  (pss_one (ps_ret pe_bl))
  pss_nil)
  (pss_one (ps_ret (d_and (pe_cmpR d_eq (pe_callB d_len (by rfl) T.b_len (by decide +kernel) (pa_cons (dv 0) pa_nil)) (pe_callB d_len (by rfl) T.b_len (by decide +kernel) (pa_cons (dv 1) pa_nil)) (nomark _)) (pe_one (pe_cmpR (d_eqD hu) (d_lcR1 (own := [("k", 2)]) rfl nd T.b_range (pa_cons (pe_callB d_len (by rfl) T.b_len (by decide +kernel) (pa_cons (dv 1) pa_nil)) pa_nil) (blkOk_by (N := N_law_alike) (sc := (defScope s_law_alike)) (by decide +kernel)) (fun _ _ _ _ _ => (pg_name (i := 2) nd rfl (Or.inl rfl))) (fun _ _ _ _ _ => pts_one (pt_not (dt_tru (c_call G_law_alike (hr.mono (by omega)) T.law_alike.g T.law_alike.F.kp T.law_alike.b (fun _ => at0) (pa_cons (pe_ix d_ix (dv 0) (dv 2) (fun _ _ => rfl)) (pa_cons (pe_ix d_ix (dv 1) (dv 2) (fun _ _ => rfl)) pa_nil)))))) (fun _ _ _ _ _ => (dv 2))) (pe_lst pa_nil) (nomark _)))))))
  pss_nil)
  (pss_cons (ps_if (dt_cmp d_is (dv 1) pe_non (nomark _))
  (pss_one (ps_ret (pe_cmpR d_is (dv 0) pe_non (nomark _))))
  pss_nil)
  (pss_cons (ps_if (PW.pt (pw_or (dt_tru (pe_callB d_isi (by rfl) T.b_isinstance (by decide +kernel) (pa_cons (dv 1) (pa_cons (pe_bltn (by rfl) T.b_bool boot_bool rfl) pa_nil)))) (pw_or1 (dt_tru (pe_callB d_isi (by rfl) T.b_isinstance (by decide +kernel) (pa_cons (dv 0) (pa_cons (pe_bltn (by rfl) T.b_bool boot_bool rfl) pa_nil)))))))
  (pss_one (ps_ret (d_and (pe_callB d_isi (by rfl) T.b_isinstance (by decide +kernel) (pa_cons (dv 0) (pa_cons (pe_bltn (by rfl) T.b_bool boot_bool rfl) pa_nil))) (d_and (pe_callB d_isi (by rfl) T.b_isinstance (by decide +kernel) (pa_cons (dv 1) (pa_cons (pe_bltn (by rfl) T.b_bool boot_bool rfl) pa_nil))) (pe_one (pe_cmpR d_eq (dv 0) (dv 1) (nomark _)))))))
  pss_nil)
  (pss_cons (ps_if (dt_tru (pe_callB d_isi (by rfl) T.b_isinstance (by decide +kernel) (pa_cons (dv 1) (pa_cons (pe_bltn (by rfl) T.b_int boot_int rfl) pa_nil))))
  (pss_one (ps_ret (d_and (pe_callB d_isi (by rfl) T.b_isinstance (by decide +kernel) (pa_cons (dv 0) (pa_cons (pe_bltn (by rfl) T.b_int boot_int rfl) pa_nil))) (pe_one (pe_cmpR d_eq (dv 0) (dv 1) (nomark _))))))
  pss_nil)
  (pss_one (ps_ret (d_and (pe_callB d_isi (by rfl) T.b_isinstance (by decide +kernel) (pa_cons (dv 0) (pa_cons (pe_bltn (by rfl) T.b_str boot_str rfl) pa_nil))) (pe_one (pe_cmpR d_eq (dv 0) (dv 1) (nomark _))))))))))
theorem ok_law_word (T : Txt K mg A) (len : ∀ a c d vs H Q E, (sp_law_word K A) a c d vs H Q E → vs.length = 1)
    (hD : ∀ a c d vs H Q E, (sp_law_word K A) a c d vs H Q E → ∃ D, c = .ref D ∧ d = none ∧ ExcC K D) (rd : ∀ ax D vs H Q E, (sp_law_word K A) ax (.ref D) none vs H Q E → t_law_word K A E ax D { nx := fun _ H' => Q .non H', rt := Q } (L2.start N_law_word vs) H) :
    FnE P w K mg base 1 T.law_word.a T.law_word.fd ["e"] (sp_law_word K A) := by
  refine fnE_of T.law_word.F sc_law_word len (fun cdv AA outer s H vs Q E p c dd hot1 hzp hr h => ?_)
  obtain ⟨D, rfl, rfl, hDx⟩ := hD _ _ _ _ _ _ _ h
  obtain ⟨ax, oe⟩ := p
  refine ⟨t_law_word K A E ax D, ?_, rd ax D vs H Q E h⟩
  have hfp : ∃ vs, oe.data = .fields vs := hot1.2.elim fun v h => ⟨v, h.1⟩
  have nd := sc_law_word.nd
  have hot : L2H.HotC (L2H.cxH CX0 P w K mg base N_law_word "_law_word" (defScope s_law_word) T.law_word.a cdv AA outer s H E (ax, oe)) := ⟨(ax, oe), hot1, List.mem_cons_self⟩
  exact (pss_cons (ps_set (i := 1) nd rfl (Or.inl rfl) (pe_lst (pa_cons (pe_callB (d_isP hDx List.mem_cons_self hzp hfp) (by rfl) T.b_isinstance (by decide +kernel) (pa_cons (dv 0) (pa_cons (pe_glob (by rfl) T.x_OutOfRange.g rfl) pa_nil))) (pa_cons (pe_callB (d_isP hDx List.mem_cons_self hzp hfp) (by rfl) T.b_isinstance (by decide +kernel) (pa_cons (dv 0) (pa_cons (pe_glob (by rfl) T.x_Malformed.g rfl) pa_nil))) (pa_cons (pe_callB (d_isP hDx List.mem_cons_self hzp hfp) (by rfl) T.b_isinstance (by decide +kernel) (pa_cons (dv 0) (pa_cons (pe_glob (by rfl) T.x_NotThere.g rfl) pa_nil))) (pa_cons (pe_callB (d_isP hDx List.mem_cons_self hzp hfp) (by rfl) T.b_isinstance (by decide +kernel) (pa_cons (dv 0) (pa_cons (pe_glob (by rfl) T.x_Refused.g rfl) pa_nil))) (pa_cons (pe_callB (d_isP hDx List.mem_cons_self hzp hfp) (by rfl) T.b_isinstance (by decide +kernel) (pa_cons (dv 0) (pa_cons (pe_glob (by rfl) T.x_TooMuch.g rfl) pa_nil))) pa_nil)))))))
  (pss_cons (ps_if (dt_cmp d_ne (pe_callB d_len (by rfl) T.b_len (by decide +kernel) (pa_cons (d_lcH (own := [("kind", 2)]) hot nd (dv 1) (blkOk_by (N := N_law_word) (sc := (defScope s_law_word)) (by decide +kernel)) (fun _ _ _ _ _ => (pg_name (i := 2) nd rfl (Or.inl rfl))) (fun _ _ _ _ _ => pts_one (dt_tru (dv 2))) (fun _ _ _ _ _ => (dv 2))) pa_nil)) pe_int (nomark _))
  (pss_one (ps_ret pe_str))
  pss_nil)
  (pss_one (ps_ret (pe_ix d_ix (pe_lst (pa_cons pe_str (pa_cons pe_str (pa_cons pe_str (pa_cons pe_str (pa_cons pe_str pa_nil)))))) (d_bm PySem.F.plainAttrs_list PySem.F.slot_list_index PySem.F.type_list_index mt_index (dv 1) (pa_cons pe_bl pa_nil)) (fun _ _ => rfl))))))
theorem ok_law_told (T : Txt K mg A)  (G_Window_put : FnOk P w K mg base (L2N.CX P w) 2 T.Window_put.a T.Window_put.fd ["self", "time", "number"] (sp_Window_put A)) (G_Window__init_ : FnOk P w K mg base (L2N.CX P w) 2 T.Window__init_.a T.Window__init_.fd ["self", "wide"] (sp_Window__init_ A)) (G_Window_come : FnOk P w K mg base (L2N.CX P w) 1 T.Window_come.a T.Window_come.fd ["self", "time"] (sp_Window_come A)) (G_Window_least : FnOk P w K mg base (L2N.CX P w) 2 T.Window_least.a T.Window_least.fd ["self"] (sp_Window_least A)) (G_Window_greatest : FnOk P w K mg base (L2N.CX P w) 2 T.Window_greatest.a T.Window_greatest.fd ["self"] (sp_Window_greatest A)) (G_law_word : FnE P w K mg base 1 T.law_word.a T.law_word.fd ["e"] (sp_law_word K A))
    (len : ∀ vs H Q E, (sp_law_told K A) vs H Q E → vs.length = 4) (rd : ∀ vs H Q E, (sp_law_told K A) vs H Q E → t_law_told K A E  { nx := fun _ H' => Q .non H', rt := Q } (L2.start N_law_told vs) H) :
    FnOk P w K mg base CX0 4 T.law_told.a T.law_told.fd ["which", "window", "a", "b"] (sp_law_told K A) := by
  refine T.law_told.F.ok sc_law_told len (fun cdv AA outer s H vs Q E hr h => ⟨t_law_told K A E , ?_, rd vs H Q E h⟩)
  have hr : Room 3 _ := hr
  have hu := hr
  have nd := sc_law_told.nd
  exact (pss_one (L2N.ps_try_as (i := 4) (tb := fun W => (tSeq (tIfS (dTest (tOp dEq (dVar 0) (tC (.int 0))))
  (tRet (dMethE A.Window "greatest" (sp_Window_greatest A) (WE W) (dVar 1) tNil))
  tNext)
  (tSeq (tIfS (dTest (tOp dEq (dVar 0) (tC (.int 1))))
  (tRet (dMethE A.Window "least" (sp_Window_least A) (WE W) (dVar 1) tNil))
  tNext)
  (tSeq (tIfS (dTest (tOp dEq (dVar 0) (tC (.int 2))))
  (tRet (dMethE A.Window "come" (sp_Window_come A) (WE W) (dVar 1) (tCons (dVar 2) tNil)))
  tNext)
  (tRet (tIf (dTest (tOp dEq (dVar 0) (tC (.int 3)))) (dMethE A.Window "put" (sp_Window_put A) (WE W) (dVar 1) (tCons (dVar 2) (tCons (dVar 3) tNil))) (tMakeE A.Window (sp_Window__init_ A) (WE W) (tCons (dVar 2) tNil)))))))) (ts := fun a cls d => (tRet (tCallE (sp_law_word K A) a cls d (tCons (dVar 4) tNil)))) (Wout := (fun _ _ _ _ => False)) rfl rfl nd rfl rfl ⟨rfl, by decide, Or.inl T.x_TraceError.g⟩ takesN0
  (fun W pn xe tk hpa => (pss_cons (ps_if (dt_cmp d_eq (dv 0) pe_int (nomark _))
  (pss_one (ps_ret (d_meth0 (dv 1) T.Window__init_.cl T.Window_greatest.m G_Window_greatest (hr.mono (by decide)) T.Window_greatest.b (fun σ => L2N.passAt tk σ))))
  pss_nil)
  (pss_cons (ps_if (dt_cmp d_eq (dv 0) pe_int (nomark _))
  (pss_one (ps_ret (d_meth0 (dv 1) T.Window__init_.cl T.Window_least.m G_Window_least (hr.mono (by decide)) T.Window_least.b (fun σ => L2N.passAt tk σ))))
  pss_nil)
  (pss_cons (ps_if (dt_cmp d_eq (dv 0) pe_int (nomark _))
  (pss_one (ps_ret (d_meth (dv 1) T.Window__init_.cl T.Window_come.m G_Window_come (hr.mono (by decide)) T.Window_come.b (fun σ => L2N.passAt tk σ) (pa_cons (dv 2) pa_nil))))
  pss_nil)
  (pss_one (ps_ret (pe_ifExp (dt_cmp d_eq (dv 0) pe_int (nomark _)) (d_meth (dv 1) T.Window__init_.cl T.Window_put.m G_Window_put (hr.mono (by decide)) T.Window_put.b (fun σ => L2N.passAt tk σ) (pa_cons (dv 2) (pa_cons (dv 3) pa_nil))) (c_make T.Window__init_.made G_Window__init_ (hr.mono (by decide)) T.Window__init_.g T.Window__init_.b (fun σ => L2N.passAt tk σ) (pa_cons (dv 2) pa_nil)))))))))
  (fun a oe cls d pn hz hf => (pss_one (ps_ret (c_callE G_law_word (L2H.RoomH.mono (k := 3) ⟨hr.dp, hr.un⟩ (by decide)) rfl List.mem_cons_self hz hf T.law_word.g T.law_word.F.kp T.law_word.b (pa_cons (dv 4) pa_nil)))))))
theorem ok_law_right (T : Txt K mg A)  (G_Window_many : FnOk P w K mg base CX0 1 T.Window_many.a T.Window_many.fd ["self"] (sp_Window_many A)) (G_Window_total : FnOk P w K mg base CX0 1 T.Window_total.a T.Window_total.fd ["self"] (sp_Window_total A)) (G_law_told : FnOk P w K mg base CX0 4 T.law_told.a T.law_told.fd ["which", "window", "a", "b"] (sp_law_told K A)) (G_law_alike : FnOk P w K mg base CX0 3 T.law_alike.a T.law_alike.fd ["found", "due"] (sp_law_alike K 1))
    (len : ∀ vs H Q E, (sp_law_right K A) vs H Q E → vs.length = 4) (rd : ∀ vs H Q E, (sp_law_right K A) vs H Q E → t_law_right K A E  { nx := fun _ H' => Q .non H', rt := Q } (L2.start N_law_right vs) H) :
    FnOk P w K mg base CX0 5 T.law_right.a T.law_right.fd ["window", "rows", "now", "wide"] (sp_law_right K A) := by
  refine T.law_right.F.ok sc_law_right len (fun cdv AA outer s H vs Q E hr h => ⟨t_law_right K A E , ?_, rd vs H Q E h⟩)
  have hr : Room 4 _ := hr
  have hu := hr
  have nd := sc_law_right.nd
  exact (pss_cons (d_setL (i := 4) (own := [("time", 6), ("number", 7)]) rfl nd rfl rfl (sw_true rfl rfl rfl (by decide +kernel)) (dv 1) (blkOk_by (N := N_law_right) (sc := (defScope s_law_right)) (by decide +kernel)) (fun _ _ _ _ _ => (dg_tup (by rfl) (dg_cons (pg_name (i := 6) nd rfl (Or.inl rfl)) (dg_cons (pg_name (i := 7) nd rfl (Or.inl rfl)) dg_nil)))) (fun _ _ _ _ _ => pts_one (dt_cmp d_gt (dv 6) (pe_op d_sub (dv 2) (dv 3)) (nomark _))) (fun _ _ _ _ _ => (dv 7)))
  (pss_cons (ps_set (i := 5) nd rfl (Or.inl rfl) (pe_ifExp (dt_cmp (d_neD hu) (dv 4) (pe_lst pa_nil) (nomark _)) (pe_lst (pa_cons (pe_callB (cr_max rfl) (by rfl) T.b_max (by decide +kernel) (pa_cons (dv 4) pa_nil)) (pa_cons (pe_callB (cr_min rfl) (by rfl) T.b_min (by decide +kernel) (pa_cons (dv 4) pa_nil)) pa_nil))) (pe_lst (pa_cons pe_str (pa_cons pe_str pa_nil)))))
  (pss_one (ps_ret (c_call G_law_alike (hr.mono (by decide)) T.law_alike.g T.law_alike.F.kp T.law_alike.b (fun _ => at0) (pa_cons (pe_lst (pa_cons (c_call G_law_told (hr.mono (by decide)) T.law_told.g T.law_told.F.kp T.law_told.b (fun _ => at0) (pa_cons pe_int (pa_cons (dv 0) (pa_cons pe_int (pa_cons pe_int pa_nil))))) (pa_cons (c_call G_law_told (hr.mono (by decide)) T.law_told.g T.law_told.F.kp T.law_told.b (fun _ => at0) (pa_cons pe_int (pa_cons (dv 0) (pa_cons pe_int (pa_cons pe_int pa_nil))))) (pa_cons (d_meth0 (dv 0) T.Window__init_.cl T.Window_total.m G_Window_total (hr.mono (by decide)) T.Window_total.b (fun _ => at0)) (pa_cons (d_meth0 (dv 0) T.Window__init_.cl T.Window_many.m G_Window_many (hr.mono (by decide)) T.Window_many.b (fun _ => at0)) pa_nil))))) (pa_cons (pe_op d_add (dv 5) (pe_lst (pa_cons (pe_callB (cr_sum rfl) (by rfl) T.b_sum (by decide +kernel) (pa_cons (dv 4) pa_nil)) (pa_cons (pe_callB d_len (by rfl) T.b_len (by decide +kernel) (pa_cons (dv 4) pa_nil)) pa_nil)))) pa_nil)))))))
theorem ok_law (T : Txt K mg A)  (G_law_told : FnOk P w K mg base CX0 4 T.law_told.a T.law_told.fd ["which", "window", "a", "b"] (sp_law_told K A)) (G_law_right : FnOk P w K mg base CX0 5 T.law_right.a T.law_right.fd ["window", "rows", "now", "wide"] (sp_law_right K A)) (G_Window_many : FnOk P w K mg base CX0 1 T.Window_many.a T.Window_many.fd ["self"] (sp_Window_many A)) (G_Window_come : FnOk P w K mg base (L2N.CX P w) 1 T.Window_come.a T.Window_come.fd ["self", "time"] (sp_Window_come A)) (G_law_take : FnOk P w K mg base CX0 1 T.law_take.a T.law_take.fd ["draws", "bound"] sp_law_take) (G_Window_steps : FnOk P w K mg base CX0 1 T.Window_steps.a T.Window_steps.fd ["self"] (sp_Window_steps A)) (G_Window__init_ : FnOk P w K mg base (L2N.CX P w) 2 T.Window__init_.a T.Window__init_.fd ["self", "wide"] (sp_Window__init_ A)) (G_law_draws : FnOk P w K mg base CX0 1 T.law_draws.a T.law_draws.fd ["script"] (sp_law_draws K))
    (len : ∀ vs H Q E, (sp_law K) vs H Q E → vs.length = 1) (rd : ∀ vs H Q E, (sp_law K) vs H Q E → t_law K A E  { nx := fun _ H' => Q .non H', rt := Q } (L2.start N_law vs) H) :
    FnOk P w K mg base CX0 6 T.law.a T.law.fd ["script"] (sp_law K) := by
  refine T.law.F.ok sc_law len (fun cdv AA outer s H vs Q E hr h => ⟨t_law K A E , ?_, rd vs H Q E h⟩)
  have hr : Room 5 _ := hr
  have hu := hr
  have nd := sc_law.nd
  exact (pss_cons (ps_set (i := 1) nd rfl (Or.inl rfl) (c_call G_law_draws (hr.mono (by decide)) T.law_draws.g T.law_draws.F.kp T.law_draws.b (fun _ => at0) (pa_cons (dv 0) pa_nil)))
  (pss_cons (d_forR1 PassesOwn.never rfl T.b_range (pa_cons pe_int pa_nil) (pg_name (i := 2) nd rfl (Or.inl rfl))
  (pss_cons (ps_set (i := 3) nd rfl (Or.inl rfl) (pe_ix d_ix (pe_lst (pa_cons pe_int (pa_cons pe_int (pa_cons pe_int (pa_cons pe_int (pa_cons pe_int pa_nil)))))) (c_call G_law_take (hr.mono (by decide)) T.law_take.g T.law_take.F.kp T.law_take.b (fun _ => at0) (pa_cons (dv 1) (pa_cons pe_int pa_nil))) (fun _ _ => rfl)))
  (pss_cons (d_par3 (i := 4) (j := 5) (l := 6) (by rfl) nd rfl rfl rfl (by decide) (by decide) (by decide) rfl rfl rfl (pa_cons (c_make T.Window__init_.made G_Window__init_ (hr.mono (by decide)) T.Window__init_.g T.Window__init_.b (fun _ => atN) (pa_cons (dv 3) pa_nil)) (pa_cons (pe_lst pa_nil) (pa_cons pe_int pa_nil))) (by rfl))
  (pss_cons (ps_set (i := 7) nd rfl (Or.inl rfl) (c_call G_law_take (hr.mono (by decide)) T.law_take.g T.law_take.F.kp T.law_take.b (fun _ => at0) (pa_cons (dv 1) (pa_cons pe_int pa_nil))))
  (pss_cons (ps_if (pt_not (dt_tru (c_call G_law_right (hr.mono (by decide)) T.law_right.g T.law_right.F.kp T.law_right.b (fun _ => at0) (pa_cons (dv 4) (pa_cons (dv 5) (pa_cons (dv 6) (pa_cons (dv 3) pa_nil)))))))
  (pss_one (ps_ret pe_bl))
  pss_nil)
  (pss_cons (d_forR1 PassesOwn.never rfl T.b_range (pa_cons (pe_op d_add pe_int (c_call G_law_take (hr.mono (by decide)) T.law_take.g T.law_take.F.kp T.law_take.b (fun _ => at0) (pa_cons (dv 1) (pa_cons pe_int pa_nil)))) pa_nil) (pg_name (i := 8) nd rfl (Or.inl rfl))
  (pss_cons (ps_set (i := 6) nd rfl (Or.inl rfl) (pe_op d_add (dv 6) (pe_ix d_ix (pe_lst (pa_cons pe_int (pa_cons pe_int (pa_cons pe_int (pa_cons (c_call G_law_take (hr.mono (by decide)) T.law_take.g T.law_take.F.kp T.law_take.b (fun _ => at0) (pa_cons (dv 1) (pa_cons pe_int pa_nil))) (pa_cons (c_call G_law_take (hr.mono (by decide)) T.law_take.g T.law_take.F.kp T.law_take.b (fun _ => at0) (pa_cons (dv 1) (pa_cons pe_int pa_nil))) pa_nil)))))) (c_call G_law_take (hr.mono (by decide)) T.law_take.g T.law_take.F.kp T.law_take.b (fun _ => at0) (pa_cons (dv 1) (pa_cons pe_int pa_nil))) (fun _ _ => rfl))))
  (pss_cons (ps_if (dt_cmp d_eq (c_call G_law_take (hr.mono (by decide)) T.law_take.g T.law_take.F.kp T.law_take.b (fun _ => at0) (pa_cons (dv 1) (pa_cons pe_int pa_nil))) pe_int (nomark _))
  (pss_one (ps_if (dt_cmp d_isnot (c_call G_law_told (hr.mono (by decide)) T.law_told.g T.law_told.F.kp T.law_told.b (fun _ => at0) (pa_cons pe_int (pa_cons (dv 4) (pa_cons (dv 6) (pa_cons pe_int pa_nil))))) pe_non (nomark _))
  (pss_one (ps_ret pe_bl))
  pss_nil))
  (pss_cons (ps_set (i := 9) nd rfl (Or.inl rfl) (pe_ix d_ix (pe_lst (pa_cons (c_call G_law_take (hr.mono (by decide)) T.law_take.g T.law_take.F.kp T.law_take.b (fun _ => at0) (pa_cons (dv 1) (pa_cons pe_int pa_nil))) (pa_cons (pe_op d_sub (c_call G_law_take (hr.mono (by decide)) T.law_take.g T.law_take.F.kp T.law_take.b (fun _ => at0) (pa_cons (dv 1) (pa_cons pe_int pa_nil))) pe_int) (pa_cons (dv 8) (pa_cons (pe_op d_sub pe_int (dv 8)) pa_nil))))) (dv 7) (fun _ _ => rfl)))
  (pss_cons (ps_expr (d_bm PySem.F.plainAttrs_list PySem.F.slot_list_append PySem.F.type_list_append m_append (dv 5) (pa_cons (pe_tup (pa_cons (dv 6) (pa_cons (dv 9) pa_nil))) pa_nil)))
  (pss_one (ps_if (dt_cmp d_isnot (c_call G_law_told (hr.mono (by decide)) T.law_told.g T.law_told.F.kp T.law_told.b (fun _ => at0) (pa_cons pe_int (pa_cons (dv 4) (pa_cons (dv 6) (pa_cons (dv 9) pa_nil))))) pe_non (nomark _))
  (pss_one (ps_ret pe_bl))
  pss_nil)))))
  (pss_cons (ps_if (PW.pt (pw_or (pt_not (dt_tru (c_call G_law_right (hr.mono (by decide)) T.law_right.g T.law_right.F.kp T.law_right.b (fun _ => at0) (pa_cons (dv 4) (pa_cons (dv 5) (pa_cons (dv 6) (pa_cons (dv 3) pa_nil))))))) (pw_or1 (dt_cmp d_gt (d_meth0 (dv 4) T.Window__init_.cl T.Window_steps.m G_Window_steps (hr.mono (by decide)) T.Window_steps.b (fun _ => at0)) (pe_op d_mul pe_int (pe_callB d_len (by rfl) T.b_len (by decide +kernel) (pa_cons (dv 5) pa_nil))) (nomark _)))))
  (pss_one (ps_ret pe_bl))
  pss_nil)
  (pss_one (ps_if (PW.pt (pw_and (dt_cmp d_gt (dv 6) pe_int (nomark _)) (pw_and1 (dt_cmp d_eq (c_call G_law_take (hr.mono (by decide)) T.law_take.g T.law_take.F.kp T.law_take.b (fun _ => at0) (pa_cons (dv 1) (pa_cons pe_int pa_nil))) pe_int (nomark _)))))
  (pss_one (ps_if (PW.pt (pw_or (dt_cmp (d_neD hu) (pe_lst (pa_cons (c_call G_law_told (hr.mono (by decide)) T.law_told.g T.law_told.F.kp T.law_told.b (fun _ => at0) (pa_cons pe_int (pa_cons (dv 4) (pa_cons (pe_op d_sub (dv 6) pe_int) (pa_cons pe_int pa_nil))))) (pa_cons (c_call G_law_told (hr.mono (by decide)) T.law_told.g T.law_told.F.kp T.law_told.b (fun _ => at0) (pa_cons pe_int (pa_cons (dv 4) (pa_cons (pe_op d_sub (dv 6) pe_int) (pa_cons pe_int pa_nil))))) pa_nil))) (pe_op d_mul (pe_lst (pa_cons pe_str pa_nil)) pe_int) (nomark _)) (pw_or1 (pt_not (dt_tru (c_call G_law_right (hr.mono (by decide)) T.law_right.g T.law_right.F.kp T.law_right.b (fun _ => at0) (pa_cons (dv 4) (pa_cons (dv 5) (pa_cons (dv 6) (pa_cons (dv 3) pa_nil))))))))))
  (pss_one (ps_ret pe_bl))
  pss_nil))
  pss_nil))))))
  (pss_cons (ps_expr (d_meth (dv 4) T.Window__init_.cl T.Window_come.m G_Window_come (hr.mono (by decide)) T.Window_come.b (fun _ => atN) (pa_cons (pe_op d_add (dv 6) (dv 3)) pa_nil)))
  (pss_one (ps_if (PW.pt (pw_or (pt_not (dt_tru (c_call G_law_right (hr.mono (by decide)) T.law_right.g T.law_right.F.kp T.law_right.b (fun _ => at0) (pa_cons (dv 4) (pa_cons (pe_lst pa_nil) (pa_cons (dv 6) (pa_cons (dv 3) pa_nil))))))) (pw_or1 (dt_cmp d_ne (d_meth0 (dv 4) T.Window__init_.cl T.Window_many.m G_Window_many (hr.mono (by decide)) T.Window_many.b (fun _ => at0)) pe_int (nomark _)))))
  (pss_one (ps_ret pe_bl))
  pss_nil)))))))))
  (pss_one (ps_ret (pe_cmpR (d_eqD hu) (d_lcL (own := [("value", 10)]) rfl nd (pe_lst (pa_cons pe_int (pa_cons (pe_un d_neg pe_int) (pa_cons pe_non (pa_cons pe_bl (pa_cons pe_str (pa_cons pe_int pa_nil))))))) (blkOk_by (N := N_law) (sc := (defScope s_law)) (by decide +kernel)) (fun _ _ _ _ _ => (pg_name (i := 10) nd rfl (Or.inl rfl))) (fun _ _ _ _ _ => pts_nil) (fun _ _ _ _ _ => (c_call G_law_told (hr.mono (by decide)) T.law_told.g T.law_told.F.kp T.law_told.b (fun _ => at0) (pa_cons pe_int (pa_cons pe_non (pa_cons (dv 10) (pa_cons pe_int pa_nil))))))) (pe_op d_mul (pe_lst (pa_cons pe_str pa_nil)) pe_int) (nomark _))))))
end
theorem wordOk_OutOfRange {K : PySem.W.Frag} {mg : Str → Option Value} {A : Ads} (T : Txt K mg A) : WordOk K A A.OutOfRange "range" :=
  ⟨T.x_OutOfRange.e, T.e_OutOfRange_TraceError, _, _, _, _, _, T.i_OutOfRange_OutOfRange, T.i_OutOfRange_Malformed, T.i_OutOfRange_NotThere, T.i_OutOfRange_Refused, T.i_OutOfRange_TooMuch, by decide +kernel⟩
theorem wordOk_NotThere {K : PySem.W.Frag} {mg : Str → Option Value} {A : Ads} (T : Txt K mg A) : WordOk K A A.NotThere "none" :=
  ⟨T.x_NotThere.e, T.e_NotThere_TraceError, _, _, _, _, _, T.i_NotThere_OutOfRange, T.i_NotThere_Malformed, T.i_NotThere_NotThere, T.i_NotThere_Refused, T.i_NotThere_TooMuch, by decide +kernel⟩
section
variable {P : Program} {w : World} {K : PySem.W.Frag} {mg : Str → Option Value} {A : Ads}
theorem ok_all (T : Txt K mg A) (base : Heap) : FnOk P w K mg base CX0 6 T.law.a T.law.fd ["script"] (sp_law K) := by
  have G_is_number := ok_is_number (P := P) (w := w) (base := base) T  (by intro vs H Q E h; first | (obtain ⟨_, rfl, _⟩ := h; rfl) | (obtain ⟨_, _, rfl, _⟩ := h; rfl) | (obtain ⟨_, _, _, rfl, _⟩ := h; rfl) | (obtain ⟨_, _, _, _, rfl, _⟩ := h; rfl) | (obtain ⟨_, _, _, _, _, rfl, _⟩ := h; rfl) | (obtain ⟨_, _, _, _, _, _, rfl, _⟩ := h; rfl) | (obtain ⟨_, _, _, _, _, _, _, rfl, _⟩ := h; rfl) | (obtain ⟨_, _, _, _, _, _, _, _, rfl, _⟩ := h; rfl) | (obtain ⟨_, _, _, _, _, _, _, _, _, rfl, _⟩ := h; rfl) | (obtain ⟨_, _, _, _, _, _, _, _, _, _, rfl, _⟩ := h; rfl) | (obtain ⟨_, _, _, _, _, _, _, _, _, _, _, rfl, _⟩ := h; rfl) | (obtain ⟨_, _, _, _, _, _, _, _, _, _, _, _, rfl, _⟩ := h; rfl) | (obtain ⟨_, _, _, _, _, _, _, _, _, _, _, _, _, rfl, _⟩ := h; rfl) | (obtain ⟨_, _, _, _, _, _, _, _, _, _, _, _, _, _, rfl, _⟩ := h; rfl) | (obtain ⟨_, _, _, _, _, _, _, _, _, _, _, _, _, _, _, rfl, _⟩ := h; rfl)) (fun vs H Q E h => r_is_number h)
  have G_Window__init_ := ok_Window__init_ (P := P) (w := w) (base := base) T G_is_number (by intro vs H Q E h; first | (obtain ⟨_, rfl, _⟩ := h; rfl) | (obtain ⟨_, _, rfl, _⟩ := h; rfl) | (obtain ⟨_, _, _, rfl, _⟩ := h; rfl) | (obtain ⟨_, _, _, _, rfl, _⟩ := h; rfl) | (obtain ⟨_, _, _, _, _, rfl, _⟩ := h; rfl) | (obtain ⟨_, _, _, _, _, _, rfl, _⟩ := h; rfl) | (obtain ⟨_, _, _, _, _, _, _, rfl, _⟩ := h; rfl) | (obtain ⟨_, _, _, _, _, _, _, _, rfl, _⟩ := h; rfl) | (obtain ⟨_, _, _, _, _, _, _, _, _, rfl, _⟩ := h; rfl) | (obtain ⟨_, _, _, _, _, _, _, _, _, _, rfl, _⟩ := h; rfl) | (obtain ⟨_, _, _, _, _, _, _, _, _, _, _, rfl, _⟩ := h; rfl) | (obtain ⟨_, _, _, _, _, _, _, _, _, _, _, _, rfl, _⟩ := h; rfl) | (obtain ⟨_, _, _, _, _, _, _, _, _, _, _, _, _, rfl, _⟩ := h; rfl) | (obtain ⟨_, _, _, _, _, _, _, _, _, _, _, _, _, _, rfl, _⟩ := h; rfl) | (obtain ⟨_, _, _, _, _, _, _, _, _, _, _, _, _, _, _, rfl, _⟩ := h; rfl)) (fun vs H Q E h => r_Window__init_ h)
  have G_Window_come := ok_Window_come (P := P) (w := w) (base := base) T  (by intro vs H Q E h; first | (obtain ⟨_, rfl, _⟩ := h; rfl) | (obtain ⟨_, _, rfl, _⟩ := h; rfl) | (obtain ⟨_, _, _, rfl, _⟩ := h; rfl) | (obtain ⟨_, _, _, _, rfl, _⟩ := h; rfl) | (obtain ⟨_, _, _, _, _, rfl, _⟩ := h; rfl) | (obtain ⟨_, _, _, _, _, _, rfl, _⟩ := h; rfl) | (obtain ⟨_, _, _, _, _, _, _, rfl, _⟩ := h; rfl) | (obtain ⟨_, _, _, _, _, _, _, _, rfl, _⟩ := h; rfl) | (obtain ⟨_, _, _, _, _, _, _, _, _, rfl, _⟩ := h; rfl) | (obtain ⟨_, _, _, _, _, _, _, _, _, _, rfl, _⟩ := h; rfl) | (obtain ⟨_, _, _, _, _, _, _, _, _, _, _, rfl, _⟩ := h; rfl) | (obtain ⟨_, _, _, _, _, _, _, _, _, _, _, _, rfl, _⟩ := h; rfl) | (obtain ⟨_, _, _, _, _, _, _, _, _, _, _, _, _, rfl, _⟩ := h; rfl) | (obtain ⟨_, _, _, _, _, _, _, _, _, _, _, _, _, _, rfl, _⟩ := h; rfl) | (obtain ⟨_, _, _, _, _, _, _, _, _, _, _, _, _, _, _, rfl, _⟩ := h; rfl)) (fun vs H Q E h => r_Window_come h)
  have G_Window_put := ok_Window_put (P := P) (w := w) (base := base) T G_Window_come (by intro vs H Q E h; first | (obtain ⟨_, rfl, _⟩ := h; rfl) | (obtain ⟨_, _, rfl, _⟩ := h; rfl) | (obtain ⟨_, _, _, rfl, _⟩ := h; rfl) | (obtain ⟨_, _, _, _, rfl, _⟩ := h; rfl) | (obtain ⟨_, _, _, _, _, rfl, _⟩ := h; rfl) | (obtain ⟨_, _, _, _, _, _, rfl, _⟩ := h; rfl) | (obtain ⟨_, _, _, _, _, _, _, rfl, _⟩ := h; rfl) | (obtain ⟨_, _, _, _, _, _, _, _, rfl, _⟩ := h; rfl) | (obtain ⟨_, _, _, _, _, _, _, _, _, rfl, _⟩ := h; rfl) | (obtain ⟨_, _, _, _, _, _, _, _, _, _, rfl, _⟩ := h; rfl) | (obtain ⟨_, _, _, _, _, _, _, _, _, _, _, rfl, _⟩ := h; rfl) | (obtain ⟨_, _, _, _, _, _, _, _, _, _, _, _, rfl, _⟩ := h; rfl) | (obtain ⟨_, _, _, _, _, _, _, _, _, _, _, _, _, rfl, _⟩ := h; rfl) | (obtain ⟨_, _, _, _, _, _, _, _, _, _, _, _, _, _, rfl, _⟩ := h; rfl) | (obtain ⟨_, _, _, _, _, _, _, _, _, _, _, _, _, _, _, rfl, _⟩ := h; rfl)) (fun vs H Q E h => r_Window_put h)
  have G_Window_check := ok_Window_check (P := P) (w := w) (base := base) T  (by intro vs H Q E h; first | (obtain ⟨_, rfl, _⟩ := h; rfl) | (obtain ⟨_, _, rfl, _⟩ := h; rfl) | (obtain ⟨_, _, _, rfl, _⟩ := h; rfl) | (obtain ⟨_, _, _, _, rfl, _⟩ := h; rfl) | (obtain ⟨_, _, _, _, _, rfl, _⟩ := h; rfl) | (obtain ⟨_, _, _, _, _, _, rfl, _⟩ := h; rfl) | (obtain ⟨_, _, _, _, _, _, _, rfl, _⟩ := h; rfl) | (obtain ⟨_, _, _, _, _, _, _, _, rfl, _⟩ := h; rfl) | (obtain ⟨_, _, _, _, _, _, _, _, _, rfl, _⟩ := h; rfl) | (obtain ⟨_, _, _, _, _, _, _, _, _, _, rfl, _⟩ := h; rfl) | (obtain ⟨_, _, _, _, _, _, _, _, _, _, _, rfl, _⟩ := h; rfl) | (obtain ⟨_, _, _, _, _, _, _, _, _, _, _, _, rfl, _⟩ := h; rfl) | (obtain ⟨_, _, _, _, _, _, _, _, _, _, _, _, _, rfl, _⟩ := h; rfl) | (obtain ⟨_, _, _, _, _, _, _, _, _, _, _, _, _, _, rfl, _⟩ := h; rfl) | (obtain ⟨_, _, _, _, _, _, _, _, _, _, _, _, _, _, _, rfl, _⟩ := h; rfl)) (fun vs H Q E h => r_Window_check h)
  have G_Window_greatest := ok_Window_greatest (P := P) (w := w) (base := base) T G_Window_check (by intro vs H Q E h; first | (obtain ⟨_, rfl, _⟩ := h; rfl) | (obtain ⟨_, _, rfl, _⟩ := h; rfl) | (obtain ⟨_, _, _, rfl, _⟩ := h; rfl) | (obtain ⟨_, _, _, _, rfl, _⟩ := h; rfl) | (obtain ⟨_, _, _, _, _, rfl, _⟩ := h; rfl) | (obtain ⟨_, _, _, _, _, _, rfl, _⟩ := h; rfl) | (obtain ⟨_, _, _, _, _, _, _, rfl, _⟩ := h; rfl) | (obtain ⟨_, _, _, _, _, _, _, _, rfl, _⟩ := h; rfl) | (obtain ⟨_, _, _, _, _, _, _, _, _, rfl, _⟩ := h; rfl) | (obtain ⟨_, _, _, _, _, _, _, _, _, _, rfl, _⟩ := h; rfl) | (obtain ⟨_, _, _, _, _, _, _, _, _, _, _, rfl, _⟩ := h; rfl) | (obtain ⟨_, _, _, _, _, _, _, _, _, _, _, _, rfl, _⟩ := h; rfl) | (obtain ⟨_, _, _, _, _, _, _, _, _, _, _, _, _, rfl, _⟩ := h; rfl) | (obtain ⟨_, _, _, _, _, _, _, _, _, _, _, _, _, _, rfl, _⟩ := h; rfl) | (obtain ⟨_, _, _, _, _, _, _, _, _, _, _, _, _, _, _, rfl, _⟩ := h; rfl)) (fun vs H Q E h => r_Window_greatest h)
  have G_Window_least := ok_Window_least (P := P) (w := w) (base := base) T G_Window_check (by intro vs H Q E h; first | (obtain ⟨_, rfl, _⟩ := h; rfl) | (obtain ⟨_, _, rfl, _⟩ := h; rfl) | (obtain ⟨_, _, _, rfl, _⟩ := h; rfl) | (obtain ⟨_, _, _, _, rfl, _⟩ := h; rfl) | (obtain ⟨_, _, _, _, _, rfl, _⟩ := h; rfl) | (obtain ⟨_, _, _, _, _, _, rfl, _⟩ := h; rfl) | (obtain ⟨_, _, _, _, _, _, _, rfl, _⟩ := h; rfl) | (obtain ⟨_, _, _, _, _, _, _, _, rfl, _⟩ := h; rfl) | (obtain ⟨_, _, _, _, _, _, _, _, _, rfl, _⟩ := h; rfl) | (obtain ⟨_, _, _, _, _, _, _, _, _, _, rfl, _⟩ := h; rfl) | (obtain ⟨_, _, _, _, _, _, _, _, _, _, _, rfl, _⟩ := h; rfl) | (obtain ⟨_, _, _, _, _, _, _, _, _, _, _, _, rfl, _⟩ := h; rfl) | (obtain ⟨_, _, _, _, _, _, _, _, _, _, _, _, _, rfl, _⟩ := h; rfl) | (obtain ⟨_, _, _, _, _, _, _, _, _, _, _, _, _, _, rfl, _⟩ := h; rfl) | (obtain ⟨_, _, _, _, _, _, _, _, _, _, _, _, _, _, _, rfl, _⟩ := h; rfl)) (fun vs H Q E h => r_Window_least h)
  have G_Window_total := ok_Window_total (P := P) (w := w) (base := base) T  (by intro vs H Q E h; first | (obtain ⟨_, rfl, _⟩ := h; rfl) | (obtain ⟨_, _, rfl, _⟩ := h; rfl) | (obtain ⟨_, _, _, rfl, _⟩ := h; rfl) | (obtain ⟨_, _, _, _, rfl, _⟩ := h; rfl) | (obtain ⟨_, _, _, _, _, rfl, _⟩ := h; rfl) | (obtain ⟨_, _, _, _, _, _, rfl, _⟩ := h; rfl) | (obtain ⟨_, _, _, _, _, _, _, rfl, _⟩ := h; rfl) | (obtain ⟨_, _, _, _, _, _, _, _, rfl, _⟩ := h; rfl) | (obtain ⟨_, _, _, _, _, _, _, _, _, rfl, _⟩ := h; rfl) | (obtain ⟨_, _, _, _, _, _, _, _, _, _, rfl, _⟩ := h; rfl) | (obtain ⟨_, _, _, _, _, _, _, _, _, _, _, rfl, _⟩ := h; rfl) | (obtain ⟨_, _, _, _, _, _, _, _, _, _, _, _, rfl, _⟩ := h; rfl) | (obtain ⟨_, _, _, _, _, _, _, _, _, _, _, _, _, rfl, _⟩ := h; rfl) | (obtain ⟨_, _, _, _, _, _, _, _, _, _, _, _, _, _, rfl, _⟩ := h; rfl) | (obtain ⟨_, _, _, _, _, _, _, _, _, _, _, _, _, _, _, rfl, _⟩ := h; rfl)) (fun vs H Q E h => r_Window_total h)
  have G_Window_many := ok_Window_many (P := P) (w := w) (base := base) T  (by intro vs H Q E h; first | (obtain ⟨_, rfl, _⟩ := h; rfl) | (obtain ⟨_, _, rfl, _⟩ := h; rfl) | (obtain ⟨_, _, _, rfl, _⟩ := h; rfl) | (obtain ⟨_, _, _, _, rfl, _⟩ := h; rfl) | (obtain ⟨_, _, _, _, _, rfl, _⟩ := h; rfl) | (obtain ⟨_, _, _, _, _, _, rfl, _⟩ := h; rfl) | (obtain ⟨_, _, _, _, _, _, _, rfl, _⟩ := h; rfl) | (obtain ⟨_, _, _, _, _, _, _, _, rfl, _⟩ := h; rfl) | (obtain ⟨_, _, _, _, _, _, _, _, _, rfl, _⟩ := h; rfl) | (obtain ⟨_, _, _, _, _, _, _, _, _, _, rfl, _⟩ := h; rfl) | (obtain ⟨_, _, _, _, _, _, _, _, _, _, _, rfl, _⟩ := h; rfl) | (obtain ⟨_, _, _, _, _, _, _, _, _, _, _, _, rfl, _⟩ := h; rfl) | (obtain ⟨_, _, _, _, _, _, _, _, _, _, _, _, _, rfl, _⟩ := h; rfl) | (obtain ⟨_, _, _, _, _, _, _, _, _, _, _, _, _, _, rfl, _⟩ := h; rfl) | (obtain ⟨_, _, _, _, _, _, _, _, _, _, _, _, _, _, _, rfl, _⟩ := h; rfl)) (fun vs H Q E h => r_Window_many h)
  have G_Window_steps := ok_Window_steps (P := P) (w := w) (base := base) T  (by intro vs H Q E h; first | (obtain ⟨_, rfl, _⟩ := h; rfl) | (obtain ⟨_, _, rfl, _⟩ := h; rfl) | (obtain ⟨_, _, _, rfl, _⟩ := h; rfl) | (obtain ⟨_, _, _, _, rfl, _⟩ := h; rfl) | (obtain ⟨_, _, _, _, _, rfl, _⟩ := h; rfl) | (obtain ⟨_, _, _, _, _, _, rfl, _⟩ := h; rfl) | (obtain ⟨_, _, _, _, _, _, _, rfl, _⟩ := h; rfl) | (obtain ⟨_, _, _, _, _, _, _, _, rfl, _⟩ := h; rfl) | (obtain ⟨_, _, _, _, _, _, _, _, _, rfl, _⟩ := h; rfl) | (obtain ⟨_, _, _, _, _, _, _, _, _, _, rfl, _⟩ := h; rfl) | (obtain ⟨_, _, _, _, _, _, _, _, _, _, _, rfl, _⟩ := h; rfl) | (obtain ⟨_, _, _, _, _, _, _, _, _, _, _, _, rfl, _⟩ := h; rfl) | (obtain ⟨_, _, _, _, _, _, _, _, _, _, _, _, _, rfl, _⟩ := h; rfl) | (obtain ⟨_, _, _, _, _, _, _, _, _, _, _, _, _, _, rfl, _⟩ := h; rfl) | (obtain ⟨_, _, _, _, _, _, _, _, _, _, _, _, _, _, _, rfl, _⟩ := h; rfl)) (fun vs H Q E h => r_Window_steps h)
  have G_law_draws := ok_law_draws (P := P) (w := w) (base := base) T  (by intro vs H Q E h; first | (obtain ⟨_, rfl, _⟩ := h; rfl) | (obtain ⟨_, _, rfl, _⟩ := h; rfl) | (obtain ⟨_, _, _, rfl, _⟩ := h; rfl) | (obtain ⟨_, _, _, _, rfl, _⟩ := h; rfl) | (obtain ⟨_, _, _, _, _, rfl, _⟩ := h; rfl) | (obtain ⟨_, _, _, _, _, _, rfl, _⟩ := h; rfl) | (obtain ⟨_, _, _, _, _, _, _, rfl, _⟩ := h; rfl) | (obtain ⟨_, _, _, _, _, _, _, _, rfl, _⟩ := h; rfl) | (obtain ⟨_, _, _, _, _, _, _, _, _, rfl, _⟩ := h; rfl) | (obtain ⟨_, _, _, _, _, _, _, _, _, _, rfl, _⟩ := h; rfl) | (obtain ⟨_, _, _, _, _, _, _, _, _, _, _, rfl, _⟩ := h; rfl) | (obtain ⟨_, _, _, _, _, _, _, _, _, _, _, _, rfl, _⟩ := h; rfl) | (obtain ⟨_, _, _, _, _, _, _, _, _, _, _, _, _, rfl, _⟩ := h; rfl) | (obtain ⟨_, _, _, _, _, _, _, _, _, _, _, _, _, _, rfl, _⟩ := h; rfl) | (obtain ⟨_, _, _, _, _, _, _, _, _, _, _, _, _, _, _, rfl, _⟩ := h; rfl)) (fun vs H Q E h => r_law_draws h)
  have G_law_take := ok_law_take (P := P) (w := w) (base := base) T  (by intro vs H Q E h; first | (obtain ⟨_, rfl, _⟩ := h; rfl) | (obtain ⟨_, _, rfl, _⟩ := h; rfl) | (obtain ⟨_, _, _, rfl, _⟩ := h; rfl) | (obtain ⟨_, _, _, _, rfl, _⟩ := h; rfl) | (obtain ⟨_, _, _, _, _, rfl, _⟩ := h; rfl) | (obtain ⟨_, _, _, _, _, _, rfl, _⟩ := h; rfl) | (obtain ⟨_, _, _, _, _, _, _, rfl, _⟩ := h; rfl) | (obtain ⟨_, _, _, _, _, _, _, _, rfl, _⟩ := h; rfl) | (obtain ⟨_, _, _, _, _, _, _, _, _, rfl, _⟩ := h; rfl) | (obtain ⟨_, _, _, _, _, _, _, _, _, _, rfl, _⟩ := h; rfl) | (obtain ⟨_, _, _, _, _, _, _, _, _, _, _, rfl, _⟩ := h; rfl) | (obtain ⟨_, _, _, _, _, _, _, _, _, _, _, _, rfl, _⟩ := h; rfl) | (obtain ⟨_, _, _, _, _, _, _, _, _, _, _, _, _, rfl, _⟩ := h; rfl) | (obtain ⟨_, _, _, _, _, _, _, _, _, _, _, _, _, _, rfl, _⟩ := h; rfl) | (obtain ⟨_, _, _, _, _, _, _, _, _, _, _, _, _, _, _, rfl, _⟩ := h; rfl)) (fun vs H Q E h => r_law_take h)
  have G0 : FnOk P w K mg base CX0 1 T.law_alike.a T.law_alike.fd ["found", "due"] (fun _ _ _ _ => False) := ⟨fun _ _ _ _ h => h.elim, fun _ _ _ _ _ _ _ _ _ _ _ _ _ h => h.elim⟩
  have G1 := ok_law_alike (P := P) (w := w) (base := base) T (fun _ _ _ _ => False) (sp_law_alike K 0) 0 G0 (by intro vs H Q E h; first | (obtain ⟨_, rfl, _⟩ := h; rfl) | (obtain ⟨_, _, rfl, _⟩ := h; rfl) | (obtain ⟨_, _, _, rfl, _⟩ := h; rfl) | (obtain ⟨_, _, _, _, rfl, _⟩ := h; rfl) | (obtain ⟨_, _, _, _, _, rfl, _⟩ := h; rfl) | (obtain ⟨_, _, _, _, _, _, rfl, _⟩ := h; rfl) | (obtain ⟨_, _, _, _, _, _, _, rfl, _⟩ := h; rfl) | (obtain ⟨_, _, _, _, _, _, _, _, rfl, _⟩ := h; rfl) | (obtain ⟨_, _, _, _, _, _, _, _, _, rfl, _⟩ := h; rfl) | (obtain ⟨_, _, _, _, _, _, _, _, _, _, rfl, _⟩ := h; rfl) | (obtain ⟨_, _, _, _, _, _, _, _, _, _, _, rfl, _⟩ := h; rfl) | (obtain ⟨_, _, _, _, _, _, _, _, _, _, _, _, rfl, _⟩ := h; rfl) | (obtain ⟨_, _, _, _, _, _, _, _, _, _, _, _, _, rfl, _⟩ := h; rfl) | (obtain ⟨_, _, _, _, _, _, _, _, _, _, _, _, _, _, rfl, _⟩ := h; rfl) | (obtain ⟨_, _, _, _, _, _, _, _, _, _, _, _, _, _, _, rfl, _⟩ := h; rfl)) (fun vs H Q E h => r_law_alike0 h)
  have G2 := ok_law_alike (P := P) (w := w) (base := base) T (sp_law_alike K 0) (sp_law_alike K 1) 1 G1 (by intro vs H Q E h; first | (obtain ⟨_, rfl, _⟩ := h; rfl) | (obtain ⟨_, _, rfl, _⟩ := h; rfl) | (obtain ⟨_, _, _, rfl, _⟩ := h; rfl) | (obtain ⟨_, _, _, _, rfl, _⟩ := h; rfl) | (obtain ⟨_, _, _, _, _, rfl, _⟩ := h; rfl) | (obtain ⟨_, _, _, _, _, _, rfl, _⟩ := h; rfl) | (obtain ⟨_, _, _, _, _, _, _, rfl, _⟩ := h; rfl) | (obtain ⟨_, _, _, _, _, _, _, _, rfl, _⟩ := h; rfl) | (obtain ⟨_, _, _, _, _, _, _, _, _, rfl, _⟩ := h; rfl) | (obtain ⟨_, _, _, _, _, _, _, _, _, _, rfl, _⟩ := h; rfl) | (obtain ⟨_, _, _, _, _, _, _, _, _, _, _, rfl, _⟩ := h; rfl) | (obtain ⟨_, _, _, _, _, _, _, _, _, _, _, _, rfl, _⟩ := h; rfl) | (obtain ⟨_, _, _, _, _, _, _, _, _, _, _, _, _, rfl, _⟩ := h; rfl) | (obtain ⟨_, _, _, _, _, _, _, _, _, _, _, _, _, _, rfl, _⟩ := h; rfl) | (obtain ⟨_, _, _, _, _, _, _, _, _, _, _, _, _, _, _, rfl, _⟩ := h; rfl)) (fun vs H Q E h => r_law_alike h)
  have G_law_alike := G2
  have G_law_word := ok_law_word (P := P) (w := w) (base := base) T (by intro a c d vs H Q E h; first | (obtain ⟨_, rfl, _⟩ := h; rfl) | (obtain ⟨_, _, rfl, _⟩ := h; rfl) | (obtain ⟨_, _, _, rfl, _⟩ := h; rfl) | (obtain ⟨_, _, _, _, rfl, _⟩ := h; rfl) | (obtain ⟨_, _, _, _, _, rfl, _⟩ := h; rfl) | (obtain ⟨_, _, _, _, _, _, rfl, _⟩ := h; rfl) | (obtain ⟨_, _, _, _, _, _, _, rfl, _⟩ := h; rfl) | (obtain ⟨_, _, _, _, _, _, _, _, rfl, _⟩ := h; rfl) | (obtain ⟨_, _, _, _, _, _, _, _, _, rfl, _⟩ := h; rfl) | (obtain ⟨_, _, _, _, _, _, _, _, _, _, rfl, _⟩ := h; rfl) | (obtain ⟨_, _, _, _, _, _, _, _, _, _, _, rfl, _⟩ := h; rfl) | (obtain ⟨_, _, _, _, _, _, _, _, _, _, _, _, rfl, _⟩ := h; rfl) | (obtain ⟨_, _, _, _, _, _, _, _, _, _, _, _, _, rfl, _⟩ := h; rfl) | (obtain ⟨_, _, _, _, _, _, _, _, _, _, _, _, _, _, rfl, _⟩ := h; rfl) | (obtain ⟨_, _, _, _, _, _, _, _, _, _, _, _, _, _, _, rfl, _⟩ := h; rfl)) (fun a c d vs H Q E h => let ⟨D, _, _, _, _, _, _, _, h1, h2, h3, _⟩ := h; ⟨D, h1, h2, h3⟩) (fun ax D vs H Q E h => r_law_word h)
  have G_law_told := ok_law_told (P := P) (w := w) (base := base) T G_Window_put G_Window__init_ G_Window_come G_Window_least G_Window_greatest G_law_word (by intro vs H Q E h; first | (obtain ⟨_, rfl, _⟩ := h; rfl) | (obtain ⟨_, _, rfl, _⟩ := h; rfl) | (obtain ⟨_, _, _, rfl, _⟩ := h; rfl) | (obtain ⟨_, _, _, _, rfl, _⟩ := h; rfl) | (obtain ⟨_, _, _, _, _, rfl, _⟩ := h; rfl) | (obtain ⟨_, _, _, _, _, _, rfl, _⟩ := h; rfl) | (obtain ⟨_, _, _, _, _, _, _, rfl, _⟩ := h; rfl) | (obtain ⟨_, _, _, _, _, _, _, _, rfl, _⟩ := h; rfl) | (obtain ⟨_, _, _, _, _, _, _, _, _, rfl, _⟩ := h; rfl) | (obtain ⟨_, _, _, _, _, _, _, _, _, _, rfl, _⟩ := h; rfl) | (obtain ⟨_, _, _, _, _, _, _, _, _, _, _, rfl, _⟩ := h; rfl) | (obtain ⟨_, _, _, _, _, _, _, _, _, _, _, _, rfl, _⟩ := h; rfl) | (obtain ⟨_, _, _, _, _, _, _, _, _, _, _, _, _, rfl, _⟩ := h; rfl) | (obtain ⟨_, _, _, _, _, _, _, _, _, _, _, _, _, _, rfl, _⟩ := h; rfl) | (obtain ⟨_, _, _, _, _, _, _, _, _, _, _, _, _, _, _, rfl, _⟩ := h; rfl)) (fun vs H Q E h => r_law_told (wordOk_OutOfRange T) (wordOk_NotThere T) h)
  have G_law_right := ok_law_right (P := P) (w := w) (base := base) T G_Window_many G_Window_total G_law_told G_law_alike (by intro vs H Q E h; first | (obtain ⟨_, rfl, _⟩ := h; rfl) | (obtain ⟨_, _, rfl, _⟩ := h; rfl) | (obtain ⟨_, _, _, rfl, _⟩ := h; rfl) | (obtain ⟨_, _, _, _, rfl, _⟩ := h; rfl) | (obtain ⟨_, _, _, _, _, rfl, _⟩ := h; rfl) | (obtain ⟨_, _, _, _, _, _, rfl, _⟩ := h; rfl) | (obtain ⟨_, _, _, _, _, _, _, rfl, _⟩ := h; rfl) | (obtain ⟨_, _, _, _, _, _, _, _, rfl, _⟩ := h; rfl) | (obtain ⟨_, _, _, _, _, _, _, _, _, rfl, _⟩ := h; rfl) | (obtain ⟨_, _, _, _, _, _, _, _, _, _, rfl, _⟩ := h; rfl) | (obtain ⟨_, _, _, _, _, _, _, _, _, _, _, rfl, _⟩ := h; rfl) | (obtain ⟨_, _, _, _, _, _, _, _, _, _, _, _, rfl, _⟩ := h; rfl) | (obtain ⟨_, _, _, _, _, _, _, _, _, _, _, _, _, rfl, _⟩ := h; rfl) | (obtain ⟨_, _, _, _, _, _, _, _, _, _, _, _, _, _, rfl, _⟩ := h; rfl) | (obtain ⟨_, _, _, _, _, _, _, _, _, _, _, _, _, _, _, rfl, _⟩ := h; rfl)) (fun vs H Q E h => r_law_right h)
  have G_law := ok_law (P := P) (w := w) (base := base) T G_law_told G_law_right G_Window_many G_Window_come G_law_take G_Window_steps G_Window__init_ G_law_draws (by intro vs H Q E h; first | (obtain ⟨_, rfl, _⟩ := h; rfl) | (obtain ⟨_, _, rfl, _⟩ := h; rfl) | (obtain ⟨_, _, _, rfl, _⟩ := h; rfl) | (obtain ⟨_, _, _, _, rfl, _⟩ := h; rfl) | (obtain ⟨_, _, _, _, _, rfl, _⟩ := h; rfl) | (obtain ⟨_, _, _, _, _, _, rfl, _⟩ := h; rfl) | (obtain ⟨_, _, _, _, _, _, _, rfl, _⟩ := h; rfl) | (obtain ⟨_, _, _, _, _, _, _, _, rfl, _⟩ := h; rfl) | (obtain ⟨_, _, _, _, _, _, _, _, _, rfl, _⟩ := h; rfl) | (obtain ⟨_, _, _, _, _, _, _, _, _, _, rfl, _⟩ := h; rfl) | (obtain ⟨_, _, _, _, _, _, _, _, _, _, _, rfl, _⟩ := h; rfl) | (obtain ⟨_, _, _, _, _, _, _, _, _, _, _, _, rfl, _⟩ := h; rfl) | (obtain ⟨_, _, _, _, _, _, _, _, _, _, _, _, _, rfl, _⟩ := h; rfl) | (obtain ⟨_, _, _, _, _, _, _, _, _, _, _, _, _, _, rfl, _⟩ := h; rfl) | (obtain ⟨_, _, _, _, _, _, _, _, _, _, _, _, _, _, _, rfl, _⟩ := h; rfl)) (fun vs H Q E h => r_law h)
  exact G_law
end
theorem all_mk {P : Program} {w : World} {K : PySem.W.Frag} {h : Heap} {mg : Str → Option Value} {fa : Addr} (X : K.In h) (G : h.Ns mainGlobals mg) (hfa : mg "law" = some (.ref fa))
    {C_Window C_TraceError C_OutOfRange C_Malformed C_NotThere C_Refused C_TooMuch f_is_number f_Window__init_ f_Window_come f_Window_put f_Window_check f_Window_greatest f_Window_least f_Window_total f_Window_many f_Window_steps f_law_draws f_law_take f_law_alike f_law_word f_law_told f_law_right f_law : Addr}
    {od_is_number an_is_number od_Window__init_ an_Window__init_ od_Window_come an_Window_come od_Window_put an_Window_put od_Window_check an_Window_check od_Window_greatest an_Window_greatest od_Window_least an_Window_least od_Window_total an_Window_total od_Window_many an_Window_many od_Window_steps an_Window_steps od_law_draws an_law_draws od_law_take an_law_take od_law_alike an_law_alike od_law_word an_law_word od_law_told an_law_told od_law_right an_law_right od_law an_law : Option Addr} {sl_is_number sl_Window__init_ sl_Window_come sl_Window_put sl_Window_check sl_Window_greatest sl_Window_least sl_Window_total sl_Window_many sl_Window_steps sl_law_draws sl_law_take sl_law_alike sl_law_word sl_law_told sl_law_right sl_law : Array (Option Value)} {oc_is_number kV_is_number dc_is_number pm_is_number cd_is_number ct_is_number oc_Window__init_ kV_Window__init_ dc_Window__init_ pm_Window__init_ cd_Window__init_ ct_Window__init_ oc_Window_come kV_Window_come dc_Window_come pm_Window_come cd_Window_come ct_Window_come oc_Window_put kV_Window_put dc_Window_put pm_Window_put cd_Window_put ct_Window_put oc_Window_check kV_Window_check dc_Window_check pm_Window_check cd_Window_check ct_Window_check oc_Window_greatest kV_Window_greatest dc_Window_greatest pm_Window_greatest cd_Window_greatest ct_Window_greatest oc_Window_least kV_Window_least dc_Window_least pm_Window_least cd_Window_least ct_Window_least oc_Window_total kV_Window_total dc_Window_total pm_Window_total cd_Window_total ct_Window_total oc_Window_many kV_Window_many dc_Window_many pm_Window_many cd_Window_many ct_Window_many oc_Window_steps kV_Window_steps dc_Window_steps pm_Window_steps cd_Window_steps ct_Window_steps oc_law_draws kV_law_draws dc_law_draws pm_law_draws cd_law_draws ct_law_draws oc_law_take kV_law_take dc_law_take pm_law_take cd_law_take ct_law_take oc_law_alike kV_law_alike dc_law_alike pm_law_alike cd_law_alike ct_law_alike oc_law_word kV_law_word dc_law_word pm_law_word cd_law_word ct_law_word oc_law_told kV_law_told dc_law_told pm_law_told cd_law_told ct_law_told oc_law_right kV_law_right dc_law_right pm_law_right cd_law_right ct_law_right oc_law kV_law dc_law pm_law cd_law ct_law : Value}
    {tk_MOST_TIME : Tok}
    (a_Window : PySem.W.nsIn K mainGlobals "Window" = some (some (.ref C_Window)))
    (a_TraceError : PySem.W.nsIn K mainGlobals "TraceError" = some (some (.ref C_TraceError)))
    (a_OutOfRange : PySem.W.nsIn K mainGlobals "OutOfRange" = some (some (.ref C_OutOfRange)))
    (a_Malformed : PySem.W.nsIn K mainGlobals "Malformed" = some (some (.ref C_Malformed)))
    (a_NotThere : PySem.W.nsIn K mainGlobals "NotThere" = some (some (.ref C_NotThere)))
    (a_Refused : PySem.W.nsIn K mainGlobals "Refused" = some (some (.ref C_Refused)))
    (a_TooMuch : PySem.W.nsIn K mainGlobals "TooMuch" = some (some (.ref C_TooMuch)))
    (a_is_number : PySem.W.nsIn K mainGlobals "is_number" = some (some (.ref f_is_number)))
    (l_is_number : K.lookup f_is_number = some ⟨oc_is_number, od_is_number, .func (PySem.W.fnOf "is_number" "is_number" (defArgs s_is_number) (defBody s_is_number) (defScope s_is_number) .none kV_is_number dc_is_number pm_is_number an_is_number cd_is_number ct_is_number), sl_is_number⟩)
    (c_is_number : PySem.W.codeIn K cd_is_number "is_number" = true)
    (k_is_number : PySem.W.keepIn K (.ref f_is_number) = true)
    (a_Window__init_ : PySem.W.findIn K (.ref C_Window) "__init__" = some (some (.ref f_Window__init_)))
    (i_Window__init_ : PySem.W.isFn K (.ref f_Window__init_) = true)
    (l_Window__init_ : K.lookup f_Window__init_ = some ⟨oc_Window__init_, od_Window__init_, .func (PySem.W.fnOf "__init__" "Window.__init__" (defArgs s_Window__init_) (defBody s_Window__init_) (defScope s_Window__init_) .none kV_Window__init_ dc_Window__init_ pm_Window__init_ an_Window__init_ cd_Window__init_ ct_Window__init_), sl_Window__init_⟩)
    (c_Window__init_ : PySem.W.codeIn K cd_Window__init_ "Window.__init__" = true)
    (k_Window__init_ : PySem.W.keepIn K (.ref f_Window__init_) = true)
    (a_Window_come : PySem.W.findIn K (.ref C_Window) "come" = some (some (.ref f_Window_come)))
    (i_Window_come : PySem.W.isFn K (.ref f_Window_come) = true)
    (l_Window_come : K.lookup f_Window_come = some ⟨oc_Window_come, od_Window_come, .func (PySem.W.fnOf "come" "Window.come" (defArgs s_Window_come) (defBody s_Window_come) (defScope s_Window_come) .none kV_Window_come dc_Window_come pm_Window_come an_Window_come cd_Window_come ct_Window_come), sl_Window_come⟩)
    (c_Window_come : PySem.W.codeIn K cd_Window_come "Window.come" = true)
    (k_Window_come : PySem.W.keepIn K (.ref f_Window_come) = true)
    (a_Window_put : PySem.W.findIn K (.ref C_Window) "put" = some (some (.ref f_Window_put)))
    (i_Window_put : PySem.W.isFn K (.ref f_Window_put) = true)
    (l_Window_put : K.lookup f_Window_put = some ⟨oc_Window_put, od_Window_put, .func (PySem.W.fnOf "put" "Window.put" (defArgs s_Window_put) (defBody s_Window_put) (defScope s_Window_put) .none kV_Window_put dc_Window_put pm_Window_put an_Window_put cd_Window_put ct_Window_put), sl_Window_put⟩)
    (c_Window_put : PySem.W.codeIn K cd_Window_put "Window.put" = true)
    (k_Window_put : PySem.W.keepIn K (.ref f_Window_put) = true)
    (a_Window_check : PySem.W.findIn K (.ref C_Window) "check" = some (some (.ref f_Window_check)))
    (i_Window_check : PySem.W.isFn K (.ref f_Window_check) = true)
    (l_Window_check : K.lookup f_Window_check = some ⟨oc_Window_check, od_Window_check, .func (PySem.W.fnOf "check" "Window.check" (defArgs s_Window_check) (defBody s_Window_check) (defScope s_Window_check) .none kV_Window_check dc_Window_check pm_Window_check an_Window_check cd_Window_check ct_Window_check), sl_Window_check⟩)
    (c_Window_check : PySem.W.codeIn K cd_Window_check "Window.check" = true)
    (k_Window_check : PySem.W.keepIn K (.ref f_Window_check) = true)
    (a_Window_greatest : PySem.W.findIn K (.ref C_Window) "greatest" = some (some (.ref f_Window_greatest)))
    (i_Window_greatest : PySem.W.isFn K (.ref f_Window_greatest) = true)
    (l_Window_greatest : K.lookup f_Window_greatest = some ⟨oc_Window_greatest, od_Window_greatest, .func (PySem.W.fnOf "greatest" "Window.greatest" (defArgs s_Window_greatest) (defBody s_Window_greatest) (defScope s_Window_greatest) .none kV_Window_greatest dc_Window_greatest pm_Window_greatest an_Window_greatest cd_Window_greatest ct_Window_greatest), sl_Window_greatest⟩)
    (c_Window_greatest : PySem.W.codeIn K cd_Window_greatest "Window.greatest" = true)
    (k_Window_greatest : PySem.W.keepIn K (.ref f_Window_greatest) = true)
    (a_Window_least : PySem.W.findIn K (.ref C_Window) "least" = some (some (.ref f_Window_least)))
    (i_Window_least : PySem.W.isFn K (.ref f_Window_least) = true)
    (l_Window_least : K.lookup f_Window_least = some ⟨oc_Window_least, od_Window_least, .func (PySem.W.fnOf "least" "Window.least" (defArgs s_Window_least) (defBody s_Window_least) (defScope s_Window_least) .none kV_Window_least dc_Window_least pm_Window_least an_Window_least cd_Window_least ct_Window_least), sl_Window_least⟩)
    (c_Window_least : PySem.W.codeIn K cd_Window_least "Window.least" = true)
    (k_Window_least : PySem.W.keepIn K (.ref f_Window_least) = true)
    (a_Window_total : PySem.W.findIn K (.ref C_Window) "total" = some (some (.ref f_Window_total)))
    (i_Window_total : PySem.W.isFn K (.ref f_Window_total) = true)
    (l_Window_total : K.lookup f_Window_total = some ⟨oc_Window_total, od_Window_total, .func (PySem.W.fnOf "total" "Window.total" (defArgs s_Window_total) (defBody s_Window_total) (defScope s_Window_total) .none kV_Window_total dc_Window_total pm_Window_total an_Window_total cd_Window_total ct_Window_total), sl_Window_total⟩)
    (c_Window_total : PySem.W.codeIn K cd_Window_total "Window.total" = true)
    (k_Window_total : PySem.W.keepIn K (.ref f_Window_total) = true)
    (a_Window_many : PySem.W.findIn K (.ref C_Window) "many" = some (some (.ref f_Window_many)))
    (i_Window_many : PySem.W.isFn K (.ref f_Window_many) = true)
    (l_Window_many : K.lookup f_Window_many = some ⟨oc_Window_many, od_Window_many, .func (PySem.W.fnOf "many" "Window.many" (defArgs s_Window_many) (defBody s_Window_many) (defScope s_Window_many) .none kV_Window_many dc_Window_many pm_Window_many an_Window_many cd_Window_many ct_Window_many), sl_Window_many⟩)
    (c_Window_many : PySem.W.codeIn K cd_Window_many "Window.many" = true)
    (k_Window_many : PySem.W.keepIn K (.ref f_Window_many) = true)
    (a_Window_steps : PySem.W.findIn K (.ref C_Window) "steps" = some (some (.ref f_Window_steps)))
    (i_Window_steps : PySem.W.isFn K (.ref f_Window_steps) = true)
    (l_Window_steps : K.lookup f_Window_steps = some ⟨oc_Window_steps, od_Window_steps, .func (PySem.W.fnOf "steps" "Window.steps" (defArgs s_Window_steps) (defBody s_Window_steps) (defScope s_Window_steps) .none kV_Window_steps dc_Window_steps pm_Window_steps an_Window_steps cd_Window_steps ct_Window_steps), sl_Window_steps⟩)
    (c_Window_steps : PySem.W.codeIn K cd_Window_steps "Window.steps" = true)
    (k_Window_steps : PySem.W.keepIn K (.ref f_Window_steps) = true)
    (a_law_draws : PySem.W.nsIn K mainGlobals "_law_draws" = some (some (.ref f_law_draws)))
    (l_law_draws : K.lookup f_law_draws = some ⟨oc_law_draws, od_law_draws, .func (PySem.W.fnOf "_law_draws" "_law_draws" (defArgs s_law_draws) (defBody s_law_draws) (defScope s_law_draws) .none kV_law_draws dc_law_draws pm_law_draws an_law_draws cd_law_draws ct_law_draws), sl_law_draws⟩)
    (c_law_draws : PySem.W.codeIn K cd_law_draws "_law_draws" = true)
    (k_law_draws : PySem.W.keepIn K (.ref f_law_draws) = true)
    (a_law_take : PySem.W.nsIn K mainGlobals "_law_take" = some (some (.ref f_law_take)))
    (l_law_take : K.lookup f_law_take = some ⟨oc_law_take, od_law_take, .func (PySem.W.fnOf "_law_take" "_law_take" (defArgs s_law_take) (defBody s_law_take) (defScope s_law_take) .none kV_law_take dc_law_take pm_law_take an_law_take cd_law_take ct_law_take), sl_law_take⟩)
    (c_law_take : PySem.W.codeIn K cd_law_take "_law_take" = true)
    (k_law_take : PySem.W.keepIn K (.ref f_law_take) = true)
    (a_law_alike : PySem.W.nsIn K mainGlobals "_law_alike" = some (some (.ref f_law_alike)))
    (l_law_alike : K.lookup f_law_alike = some ⟨oc_law_alike, od_law_alike, .func (PySem.W.fnOf "_law_alike" "_law_alike" (defArgs s_law_alike) (defBody s_law_alike) (defScope s_law_alike) .none kV_law_alike dc_law_alike pm_law_alike an_law_alike cd_law_alike ct_law_alike), sl_law_alike⟩)
    (c_law_alike : PySem.W.codeIn K cd_law_alike "_law_alike" = true)
    (k_law_alike : PySem.W.keepIn K (.ref f_law_alike) = true)
    (a_law_word : PySem.W.nsIn K mainGlobals "_law_word" = some (some (.ref f_law_word)))
    (l_law_word : K.lookup f_law_word = some ⟨oc_law_word, od_law_word, .func (PySem.W.fnOf "_law_word" "_law_word" (defArgs s_law_word) (defBody s_law_word) (defScope s_law_word) .none kV_law_word dc_law_word pm_law_word an_law_word cd_law_word ct_law_word), sl_law_word⟩)
    (c_law_word : PySem.W.codeIn K cd_law_word "_law_word" = true)
    (k_law_word : PySem.W.keepIn K (.ref f_law_word) = true)
    (a_law_told : PySem.W.nsIn K mainGlobals "_law_told" = some (some (.ref f_law_told)))
    (l_law_told : K.lookup f_law_told = some ⟨oc_law_told, od_law_told, .func (PySem.W.fnOf "_law_told" "_law_told" (defArgs s_law_told) (defBody s_law_told) (defScope s_law_told) .none kV_law_told dc_law_told pm_law_told an_law_told cd_law_told ct_law_told), sl_law_told⟩)
    (c_law_told : PySem.W.codeIn K cd_law_told "_law_told" = true)
    (k_law_told : PySem.W.keepIn K (.ref f_law_told) = true)
    (a_law_right : PySem.W.nsIn K mainGlobals "_law_right" = some (some (.ref f_law_right)))
    (l_law_right : K.lookup f_law_right = some ⟨oc_law_right, od_law_right, .func (PySem.W.fnOf "_law_right" "_law_right" (defArgs s_law_right) (defBody s_law_right) (defScope s_law_right) .none kV_law_right dc_law_right pm_law_right an_law_right cd_law_right ct_law_right), sl_law_right⟩)
    (c_law_right : PySem.W.codeIn K cd_law_right "_law_right" = true)
    (k_law_right : PySem.W.keepIn K (.ref f_law_right) = true)
    (a_law : PySem.W.nsIn K mainGlobals "law" = some (some (.ref f_law)))
    (l_law : K.lookup f_law = some ⟨oc_law, od_law, .func (PySem.W.fnOf "law" "law" (defArgs s_law) (defBody s_law) (defScope s_law) .none kV_law dc_law pm_law an_law cd_law ct_law), sl_law⟩)
    (c_law : PySem.W.codeIn K cd_law "law" = true)
    (k_law : PySem.W.keepIn K (.ref f_law) = true)
    (pg_Window : PySem.W.plainGet K C_Window Str.empty = true)
    (hd_Window : PySem.W.hasDictIn K C_Window = true)
    (po_Window : PySem.W.plainOver K C_Window = true)
    (sa_Window : PySem.W.findIn K (.ref C_Window) "__setattr__" = some (some (.builtin "object.__setattr__")))
    (mk_Window : PySem.W.makesIn K C_Window = true)
    (kc_Window : PySem.W.keepIn K (.ref C_Window) = true)
    (n_Window_wide : PySem.W.findIn K (.ref C_Window) "wide" = some none)
    (n_Window_now : PySem.W.findIn K (.ref C_Window) "now" = some none)
    (n_Window_rows : PySem.W.findIn K (.ref C_Window) "rows" = some none)
    (n_Window_tops : PySem.W.findIn K (.ref C_Window) "tops" = some none)
    (n_Window_lows : PySem.W.findIn K (.ref C_Window) "lows" = some none)
    (n_Window_sum : PySem.W.findIn K (.ref C_Window) "sum" = some none)
    (n_Window_work : PySem.W.findIn K (.ref C_Window) "work" = some none)
    (y_n : PySem.W.specialIn K (.builtin "object.__class__") "__get__" = some (some (.builtin "getset_descriptor.__get__")))
    (y_t : PySem.W.takesIn K (.builtin "object.__class__") = some true)
    (ex_OutOfRange : PySem.W.excIn K C_OutOfRange [.type "ValueError", .type "Exception", .type "BaseException", .type "object"] "ValueError.__new__" = true)
    (kx_OutOfRange : PySem.W.keepIn K (.ref C_OutOfRange) = true)
    (yg_OutOfRange : PySem.W.findIn K (.ref C_OutOfRange) "__getattribute__" = some (some (.builtin "BaseException.__getattribute__")))
    (yk_OutOfRange : PySem.W.findIn K (.ref C_OutOfRange) "__getattr__" = some none)
    (yd_OutOfRange : PySem.W.hasDictIn K C_OutOfRange = true)
    (ya_OutOfRange : PySem.W.findIn K (.ref C_OutOfRange) "__class__" = some (some (.builtin "object.__class__")))
    (ym_OutOfRange : PySem.W.mroIn K C_OutOfRange (.type "object") = some true)
    (ex_NotThere : PySem.W.excIn K C_NotThere [.type "ValueError", .type "Exception", .type "BaseException", .type "object"] "ValueError.__new__" = true)
    (kx_NotThere : PySem.W.keepIn K (.ref C_NotThere) = true)
    (yg_NotThere : PySem.W.findIn K (.ref C_NotThere) "__getattribute__" = some (some (.builtin "BaseException.__getattribute__")))
    (yk_NotThere : PySem.W.findIn K (.ref C_NotThere) "__getattr__" = some none)
    (yd_NotThere : PySem.W.hasDictIn K C_NotThere = true)
    (ya_NotThere : PySem.W.findIn K (.ref C_NotThere) "__class__" = some (some (.builtin "object.__class__")))
    (ym_NotThere : PySem.W.mroIn K C_NotThere (.type "object") = some true)
    (bx_Malformed : PySem.W.subIn K (.ref C_Malformed) (.type "BaseException") = some true)
    (tx_Malformed : PySem.W.typeIn K (.ref C_Malformed) = some (.type "type"))
    (ix_Malformed : PySem.W.isClsIn K C_Malformed = true)
    (bx_NotThere : PySem.W.subIn K (.ref C_NotThere) (.type "BaseException") = some true)
    (tx_NotThere : PySem.W.typeIn K (.ref C_NotThere) = some (.type "type"))
    (ix_NotThere : PySem.W.isClsIn K C_NotThere = true)
    (bx_OutOfRange : PySem.W.subIn K (.ref C_OutOfRange) (.type "BaseException") = some true)
    (tx_OutOfRange : PySem.W.typeIn K (.ref C_OutOfRange) = some (.type "type"))
    (ix_OutOfRange : PySem.W.isClsIn K C_OutOfRange = true)
    (bx_Refused : PySem.W.subIn K (.ref C_Refused) (.type "BaseException") = some true)
    (tx_Refused : PySem.W.typeIn K (.ref C_Refused) = some (.type "type"))
    (ix_Refused : PySem.W.isClsIn K C_Refused = true)
    (bx_TooMuch : PySem.W.subIn K (.ref C_TooMuch) (.type "BaseException") = some true)
    (tx_TooMuch : PySem.W.typeIn K (.ref C_TooMuch) = some (.type "type"))
    (ix_TooMuch : PySem.W.isClsIn K C_TooMuch = true)
    (bx_TraceError : PySem.W.subIn K (.ref C_TraceError) (.type "BaseException") = some true)
    (tx_TraceError : PySem.W.typeIn K (.ref C_TraceError) = some (.type "type"))
    (ix_TraceError : PySem.W.isClsIn K C_TraceError = true)
    (s_OutOfRange_TraceError : PySem.W.subIn K (.ref C_OutOfRange) (.ref C_TraceError) = some true)
    (s_NotThere_TraceError : PySem.W.subIn K (.ref C_NotThere) (.ref C_TraceError) = some true)
    (s_OutOfRange_Malformed : PySem.W.subIn K (.ref C_OutOfRange) (.ref C_Malformed) = some false)
    (s_OutOfRange_NotThere : PySem.W.subIn K (.ref C_OutOfRange) (.ref C_NotThere) = some false)
    (s_OutOfRange_Refused : PySem.W.subIn K (.ref C_OutOfRange) (.ref C_Refused) = some false)
    (s_OutOfRange_TooMuch : PySem.W.subIn K (.ref C_OutOfRange) (.ref C_TooMuch) = some false)
    (s_NotThere_OutOfRange : PySem.W.subIn K (.ref C_NotThere) (.ref C_OutOfRange) = some false)
    (s_NotThere_Malformed : PySem.W.subIn K (.ref C_NotThere) (.ref C_Malformed) = some false)
    (s_NotThere_Refused : PySem.W.subIn K (.ref C_NotThere) (.ref C_Refused) = some false)
    (s_NotThere_TooMuch : PySem.W.subIn K (.ref C_NotThere) (.ref C_TooMuch) = some false)
    (ne_OutOfRange_Malformed : C_OutOfRange ≠ C_Malformed)
    (ne_OutOfRange_NotThere : C_OutOfRange ≠ C_NotThere)
    (ne_OutOfRange_Refused : C_OutOfRange ≠ C_Refused)
    (ne_OutOfRange_TooMuch : C_OutOfRange ≠ C_TooMuch)
    (ne_NotThere_OutOfRange : C_NotThere ≠ C_OutOfRange)
    (ne_NotThere_Malformed : C_NotThere ≠ C_Malformed)
    (ne_NotThere_Refused : C_NotThere ≠ C_Refused)
    (ne_NotThere_TooMuch : C_NotThere ≠ C_TooMuch)
    (b_len : PySem.W.nsIn K mainGlobals "len" = some none)
    (b_abs : PySem.W.nsIn K mainGlobals "abs" = some none)
    (b_int : PySem.W.nsIn K mainGlobals "int" = some none)
    (b_list : PySem.W.nsIn K mainGlobals "list" = some none)
    (b_reversed : PySem.W.nsIn K mainGlobals "reversed" = some none)
    (b_isinstance : PySem.W.nsIn K mainGlobals "isinstance" = some none)
    (b_range : PySem.W.nsIn K mainGlobals "range" = some none)
    (b_max : PySem.W.nsIn K mainGlobals "max" = some none)
    (b_min : PySem.W.nsIn K mainGlobals "min" = some none)
    (b_sum : PySem.W.nsIn K mainGlobals "sum" = some none)
    (b_bool : PySem.W.nsIn K mainGlobals "bool" = some none)
    (b_str : PySem.W.nsIn K mainGlobals "str" = some none)
    (b_tuple : PySem.W.nsIn K mainGlobals "tuple" = some none)
    (v_MOST_TIME : PySem.W.nsIn K mainGlobals "MOST_TIME" = some (some (.int 1000000000 tk_MOST_TIME))) :
    ∃ fd : FuncData, (∀ (s : Shared) (v : Value), BindsTo s fd ⟨[v], []⟩ [("script", v)]) ∧ ∀ base : Heap, K.In base → base.Ns mainGlobals mg → FnOk P w K mg base CX0 6 fa fd ["script"] (sp_law K) := by
  have T : Txt K mg ⟨C_Window, C_TraceError, C_OutOfRange, C_Malformed, C_NotThere, C_Refused, C_TooMuch⟩ := {
    is_number := ⟨_, _, fun_mk (st := s_is_number) l_is_number c_is_number k_is_number, (Fun.binds (ps := ["value", "least", "most"]) (fun_mk (st := s_is_number) l_is_number c_is_number k_is_number) fun _ _ _ _ _ _ us hl => match us, hl with | [_, _, _], _ => rfl), PySem.W.mg_of X G a_is_number⟩,
    Window__init_ := ⟨_, _, fun_mk (st := s_Window__init_) l_Window__init_ c_Window__init_ k_Window__init_, (Fun.binds (ps := ["self", "wide"]) (fun_mk (st := s_Window__init_) l_Window__init_ c_Window__init_ k_Window__init_) fun _ _ _ _ _ _ us hl => match us, hl with | [_, _], _ => rfl), ⟨mk_Window, a_Window__init_, i_Window__init_, kc_Window⟩, ⟨pg_Window, hd_Window, po_Window, sa_Window⟩, PySem.W.mg_of X G a_Window⟩,
    Window_come := ⟨_, _, fun_mk (st := s_Window_come) l_Window_come c_Window_come k_Window_come, (Fun.binds (ps := ["self", "time"]) (fun_mk (st := s_Window_come) l_Window_come c_Window_come k_Window_come) fun _ _ _ _ _ _ us hl => match us, hl with | [_, _], _ => rfl), ⟨a_Window_come, i_Window_come, k_Window_come⟩⟩,
    Window_put := ⟨_, _, fun_mk (st := s_Window_put) l_Window_put c_Window_put k_Window_put, (Fun.binds (ps := ["self", "time", "number"]) (fun_mk (st := s_Window_put) l_Window_put c_Window_put k_Window_put) fun _ _ _ _ _ _ us hl => match us, hl with | [_, _, _], _ => rfl), ⟨a_Window_put, i_Window_put, k_Window_put⟩⟩,
    Window_check := ⟨_, _, fun_mk (st := s_Window_check) l_Window_check c_Window_check k_Window_check, (Fun.binds (ps := ["self"]) (fun_mk (st := s_Window_check) l_Window_check c_Window_check k_Window_check) fun _ _ _ _ _ _ us hl => match us, hl with | [_], _ => rfl), ⟨a_Window_check, i_Window_check, k_Window_check⟩⟩,
    Window_greatest := ⟨_, _, fun_mk (st := s_Window_greatest) l_Window_greatest c_Window_greatest k_Window_greatest, (Fun.binds (ps := ["self"]) (fun_mk (st := s_Window_greatest) l_Window_greatest c_Window_greatest k_Window_greatest) fun _ _ _ _ _ _ us hl => match us, hl with | [_], _ => rfl), ⟨a_Window_greatest, i_Window_greatest, k_Window_greatest⟩⟩,
    Window_least := ⟨_, _, fun_mk (st := s_Window_least) l_Window_least c_Window_least k_Window_least, (Fun.binds (ps := ["self"]) (fun_mk (st := s_Window_least) l_Window_least c_Window_least k_Window_least) fun _ _ _ _ _ _ us hl => match us, hl with | [_], _ => rfl), ⟨a_Window_least, i_Window_least, k_Window_least⟩⟩,
    Window_total := ⟨_, _, fun_mk (st := s_Window_total) l_Window_total c_Window_total k_Window_total, (Fun.binds (ps := ["self"]) (fun_mk (st := s_Window_total) l_Window_total c_Window_total k_Window_total) fun _ _ _ _ _ _ us hl => match us, hl with | [_], _ => rfl), ⟨a_Window_total, i_Window_total, k_Window_total⟩⟩,
    Window_many := ⟨_, _, fun_mk (st := s_Window_many) l_Window_many c_Window_many k_Window_many, (Fun.binds (ps := ["self"]) (fun_mk (st := s_Window_many) l_Window_many c_Window_many k_Window_many) fun _ _ _ _ _ _ us hl => match us, hl with | [_], _ => rfl), ⟨a_Window_many, i_Window_many, k_Window_many⟩⟩,
    Window_steps := ⟨_, _, fun_mk (st := s_Window_steps) l_Window_steps c_Window_steps k_Window_steps, (Fun.binds (ps := ["self"]) (fun_mk (st := s_Window_steps) l_Window_steps c_Window_steps k_Window_steps) fun _ _ _ _ _ _ us hl => match us, hl with | [_], _ => rfl), ⟨a_Window_steps, i_Window_steps, k_Window_steps⟩⟩,
    law_draws := ⟨_, _, fun_mk (st := s_law_draws) l_law_draws c_law_draws k_law_draws, (Fun.binds (ps := ["script"]) (fun_mk (st := s_law_draws) l_law_draws c_law_draws k_law_draws) fun _ _ _ _ _ _ us hl => match us, hl with | [_], _ => rfl), PySem.W.mg_of X G a_law_draws⟩,
    law_take := ⟨_, _, fun_mk (st := s_law_take) l_law_take c_law_take k_law_take, (Fun.binds (ps := ["draws", "bound"]) (fun_mk (st := s_law_take) l_law_take c_law_take k_law_take) fun _ _ _ _ _ _ us hl => match us, hl with | [_, _], _ => rfl), PySem.W.mg_of X G a_law_take⟩,
    law_alike := ⟨_, _, fun_mk (st := s_law_alike) l_law_alike c_law_alike k_law_alike, (Fun.binds (ps := ["found", "due"]) (fun_mk (st := s_law_alike) l_law_alike c_law_alike k_law_alike) fun _ _ _ _ _ _ us hl => match us, hl with | [_, _], _ => rfl), PySem.W.mg_of X G a_law_alike⟩,
    law_word := ⟨_, _, fun_mk (st := s_law_word) l_law_word c_law_word k_law_word, (Fun.binds (ps := ["e"]) (fun_mk (st := s_law_word) l_law_word c_law_word k_law_word) fun _ _ _ _ _ _ us hl => match us, hl with | [_], _ => rfl), PySem.W.mg_of X G a_law_word⟩,
    law_told := ⟨_, _, fun_mk (st := s_law_told) l_law_told c_law_told k_law_told, (Fun.binds (ps := ["which", "window", "a", "b"]) (fun_mk (st := s_law_told) l_law_told c_law_told k_law_told) fun _ _ _ _ _ _ us hl => match us, hl with | [_, _, _, _], _ => rfl), PySem.W.mg_of X G a_law_told⟩,
    law_right := ⟨_, _, fun_mk (st := s_law_right) l_law_right c_law_right k_law_right, (Fun.binds (ps := ["window", "rows", "now", "wide"]) (fun_mk (st := s_law_right) l_law_right c_law_right k_law_right) fun _ _ _ _ _ _ us hl => match us, hl with | [_, _, _, _], _ => rfl), PySem.W.mg_of X G a_law_right⟩,
    law := ⟨_, _, fun_mk (st := s_law) l_law c_law k_law, (Fun.binds (ps := ["script"]) (fun_mk (st := s_law) l_law c_law k_law) fun _ _ _ _ _ _ us hl => match us, hl with | [_], _ => rfl), PySem.W.mg_of X G a_law⟩,
    n_Window_wide := n_Window_wide,
    n_Window_now := n_Window_now,
    n_Window_rows := n_Window_rows,
    n_Window_tops := n_Window_tops,
    n_Window_lows := n_Window_lows,
    n_Window_sum := n_Window_sum,
    n_Window_work := n_Window_work,
    x_TraceError := ⟨PySem.W.mg_of X G a_TraceError⟩,
    x_OutOfRange := ⟨ex_OutOfRange, PySem.W.mg_of X G a_OutOfRange, kx_OutOfRange, bx_OutOfRange, tx_OutOfRange, ⟨yg_OutOfRange, yk_OutOfRange, bx_OutOfRange, yd_OutOfRange, ya_OutOfRange, y_n, y_t, ym_OutOfRange⟩⟩,
    x_Malformed := ⟨PySem.W.mg_of X G a_Malformed⟩,
    x_NotThere := ⟨ex_NotThere, PySem.W.mg_of X G a_NotThere, kx_NotThere, bx_NotThere, tx_NotThere, ⟨yg_NotThere, yk_NotThere, bx_NotThere, yd_NotThere, ya_NotThere, y_n, y_t, ym_NotThere⟩⟩,
    x_Refused := ⟨PySem.W.mg_of X G a_Refused⟩,
    x_TooMuch := ⟨PySem.W.mg_of X G a_TooMuch⟩,
    e_OutOfRange_TraceError := exm_of bx_TraceError ix_TraceError tx_TraceError s_OutOfRange_TraceError,
    e_NotThere_TraceError := exm_of bx_TraceError ix_TraceError tx_TraceError s_NotThere_TraceError,
    i_OutOfRange_OutOfRange := kit_self,
    i_OutOfRange_Malformed := kit_no ne_OutOfRange_Malformed ix_Malformed tx_Malformed s_OutOfRange_Malformed,
    i_OutOfRange_NotThere := kit_no ne_OutOfRange_NotThere ix_NotThere tx_NotThere s_OutOfRange_NotThere,
    i_OutOfRange_Refused := kit_no ne_OutOfRange_Refused ix_Refused tx_Refused s_OutOfRange_Refused,
    i_OutOfRange_TooMuch := kit_no ne_OutOfRange_TooMuch ix_TooMuch tx_TooMuch s_OutOfRange_TooMuch,
    i_NotThere_OutOfRange := kit_no ne_NotThere_OutOfRange ix_OutOfRange tx_OutOfRange s_NotThere_OutOfRange,
    i_NotThere_Malformed := kit_no ne_NotThere_Malformed ix_Malformed tx_Malformed s_NotThere_Malformed,
    i_NotThere_NotThere := kit_self,
    i_NotThere_Refused := kit_no ne_NotThere_Refused ix_Refused tx_Refused s_NotThere_Refused,
    i_NotThere_TooMuch := kit_no ne_NotThere_TooMuch ix_TooMuch tx_TooMuch s_NotThere_TooMuch,
    b_len := PySem.W.mg_none_of X G b_len,
    b_abs := PySem.W.mg_none_of X G b_abs,
    b_int := PySem.W.mg_none_of X G b_int,
    b_list := PySem.W.mg_none_of X G b_list,
    b_reversed := PySem.W.mg_none_of X G b_reversed,
    b_isinstance := PySem.W.mg_none_of X G b_isinstance,
    b_range := PySem.W.mg_none_of X G b_range,
    b_max := PySem.W.mg_none_of X G b_max,
    b_min := PySem.W.mg_none_of X G b_min,
    b_sum := PySem.W.mg_none_of X G b_sum,
    b_bool := PySem.W.mg_none_of X G b_bool,
    b_str := PySem.W.mg_none_of X G b_str,
    b_tuple := PySem.W.mg_none_of X G b_tuple,
    c_MOST_TIME := ⟨_, PySem.W.mg_of X G v_MOST_TIME, ⟨_, rfl⟩⟩ }
  have e := hfa.symm.trans T.law.g
  cases e
  obtain ⟨oc, od, kV, dc, pm, an, cd, ct, sl, e, _⟩ := T.law.F.ex
  exact ⟨T.law.fd, fun s v => by rw [e]; exact .of_eq rfl, fun base _ _ => ok_all T base⟩
end HL
open PySem PySem.W PyProof.Rows
set_option maxRecDepth 100000 in
set_option maxHeartbeats 0 in
theorem PySem.Challenge.cw_sametrace_k22_whole_windows_of_the_last_holds : PySem.Challenge.rw_sametrace_k22_whole_windows_of_the_last.Holds := by
  w_on; o_law; k_head; (case hw => w_witness2)
  k_fill
  refine L2.walk_of (l := PySem.Challenge.rw_sametrace_k22_whole_windows_of_the_last) (n := 63) (k := 6) (x := "script") (CX := fun _ => L2.CX0) (sp := fun w => HL.sp_law _) rfl (by decide) rfl ⟨rfl, by decide, by decide⟩ (fun w h Y => PySem.W.kIn_of Y) ?F (fun _ _ a ns hl _ hS => ⟨a, ns, rfl, hS, hl, fun _ => rfl⟩) (fun _ _ _ _ _ z => z)
  case F =>
    intro w mg fa h KX G hmg
    refine' HL.all_mk KX G hmg ?a_Window ?a_TraceError ?a_OutOfRange ?a_Malformed ?a_NotThere ?a_Refused ?a_TooMuch ?a_is_number ?l_is_number ?c_is_number ?k_is_number ?a_Window__init_ ?i_Window__init_ ?l_Window__init_ ?c_Window__init_ ?k_Window__init_ ?a_Window_come ?i_Window_come ?l_Window_come ?c_Window_come ?k_Window_come ?a_Window_put ?i_Window_put ?l_Window_put ?c_Window_put ?k_Window_put ?a_Window_check ?i_Window_check ?l_Window_check ?c_Window_check ?k_Window_check ?a_Window_greatest ?i_Window_greatest ?l_Window_greatest ?c_Window_greatest ?k_Window_greatest ?a_Window_least ?i_Window_least ?l_Window_least ?c_Window_least ?k_Window_least ?a_Window_total ?i_Window_total ?l_Window_total ?c_Window_total ?k_Window_total ?a_Window_many ?i_Window_many ?l_Window_many ?c_Window_many ?k_Window_many ?a_Window_steps ?i_Window_steps ?l_Window_steps ?c_Window_steps ?k_Window_steps ?a_law_draws ?l_law_draws ?c_law_draws ?k_law_draws ?a_law_take ?l_law_take ?c_law_take ?k_law_take ?a_law_alike ?l_law_alike ?c_law_alike ?k_law_alike ?a_law_word ?l_law_word ?c_law_word ?k_law_word ?a_law_told ?l_law_told ?c_law_told ?k_law_told ?a_law_right ?l_law_right ?c_law_right ?k_law_right ?a_law ?l_law ?c_law ?k_law ?pg_Window ?hd_Window ?po_Window ?sa_Window ?mk_Window ?kc_Window ?n_Window_wide ?n_Window_now ?n_Window_rows ?n_Window_tops ?n_Window_lows ?n_Window_sum ?n_Window_work ?y_n ?y_t ?ex_OutOfRange ?kx_OutOfRange ?yg_OutOfRange ?yk_OutOfRange ?yd_OutOfRange ?ya_OutOfRange ?ym_OutOfRange ?ex_NotThere ?kx_NotThere ?yg_NotThere ?yk_NotThere ?yd_NotThere ?ya_NotThere ?ym_NotThere ?bx_Malformed ?tx_Malformed ?ix_Malformed ?bx_NotThere ?tx_NotThere ?ix_NotThere ?bx_OutOfRange ?tx_OutOfRange ?ix_OutOfRange ?bx_Refused ?tx_Refused ?ix_Refused ?bx_TooMuch ?tx_TooMuch ?ix_TooMuch ?bx_TraceError ?tx_TraceError ?ix_TraceError ?s_OutOfRange_TraceError ?s_NotThere_TraceError ?s_OutOfRange_Malformed ?s_OutOfRange_NotThere ?s_OutOfRange_Refused ?s_OutOfRange_TooMuch ?s_NotThere_OutOfRange ?s_NotThere_Malformed ?s_NotThere_Refused ?s_NotThere_TooMuch ?ne_OutOfRange_Malformed ?ne_OutOfRange_NotThere ?ne_OutOfRange_Refused ?ne_OutOfRange_TooMuch ?ne_NotThere_OutOfRange ?ne_NotThere_Malformed ?ne_NotThere_Refused ?ne_NotThere_TooMuch ?b_len ?b_abs ?b_int ?b_list ?b_reversed ?b_isinstance ?b_range ?b_max ?b_min ?b_sum ?b_bool ?b_str ?b_tuple ?v_MOST_TIME
    (case a_Window => k_is); (case a_TraceError => k_is); (case a_OutOfRange => k_is); (case a_Malformed => k_is); (case a_NotThere => k_is); (case a_Refused => k_is)
    (case a_TooMuch => k_is); (case a_is_number => k_is); (case l_is_number => k_is); (case c_is_number => k_is); (case k_is_number => k_is); (case a_Window__init_ => k_is)
    (case i_Window__init_ => k_is); (case l_Window__init_ => k_is); (case c_Window__init_ => k_is); (case k_Window__init_ => k_is); (case a_Window_come => k_is); (case i_Window_come => k_is)
    (case l_Window_come => k_is); (case c_Window_come => k_is); (case k_Window_come => k_is); (case a_Window_put => k_is); (case i_Window_put => k_is); (case l_Window_put => k_is)
    (case c_Window_put => k_is); (case k_Window_put => k_is); (case a_Window_check => k_is); (case i_Window_check => k_is); (case l_Window_check => k_is); (case c_Window_check => k_is)
    (case k_Window_check => k_is); (case a_Window_greatest => k_is); (case i_Window_greatest => k_is); (case l_Window_greatest => k_is); (case c_Window_greatest => k_is); (case k_Window_greatest => k_is)
    (case a_Window_least => k_is); (case i_Window_least => k_is); (case l_Window_least => k_is); (case c_Window_least => k_is); (case k_Window_least => k_is); (case a_Window_total => k_is)
    (case i_Window_total => k_is); (case l_Window_total => k_is); (case c_Window_total => k_is); (case k_Window_total => k_is); (case a_Window_many => k_is); (case i_Window_many => k_is)
    (case l_Window_many => k_is); (case c_Window_many => k_is); (case k_Window_many => k_is); (case a_Window_steps => k_is); (case i_Window_steps => k_is); (case l_Window_steps => k_is)
    (case c_Window_steps => k_is); (case k_Window_steps => k_is); (case a_law_draws => k_is); (case l_law_draws => k_is); (case c_law_draws => k_is); (case k_law_draws => k_is)
    (case a_law_take => k_is); (case l_law_take => k_is); (case c_law_take => k_is); (case k_law_take => k_is); (case a_law_alike => k_is); (case l_law_alike => k_is)
    (case c_law_alike => k_is); (case k_law_alike => k_is); (case a_law_word => k_is); (case l_law_word => k_is); (case c_law_word => k_is); (case k_law_word => k_is)
    (case a_law_told => k_is); (case l_law_told => k_is); (case c_law_told => k_is); (case k_law_told => k_is); (case a_law_right => k_is); (case l_law_right => k_is)
    (case c_law_right => k_is); (case k_law_right => k_is); (case a_law => k_is); (case l_law => k_is); (case c_law => k_is); (case k_law => k_is)
    (case pg_Window => k_is); (case hd_Window => k_is); (case po_Window => k_is); (case sa_Window => k_is); (case mk_Window => k_is); (case kc_Window => k_is)
    (case n_Window_wide => k_is); (case n_Window_now => k_is); (case n_Window_rows => k_is); (case n_Window_tops => k_is); (case n_Window_lows => k_is); (case n_Window_sum => k_is)
    (case n_Window_work => k_is); (case y_n => k_is); (case y_t => k_is); (case ex_OutOfRange => k_exc); (case kx_OutOfRange => k_is); (case yg_OutOfRange => k_is)
    (case yk_OutOfRange => k_is); (case yd_OutOfRange => k_is); (case ya_OutOfRange => k_is); (case ym_OutOfRange => k_is); (case ex_NotThere => k_exc); (case kx_NotThere => k_is)
    (case yg_NotThere => k_is); (case yk_NotThere => k_is); (case yd_NotThere => k_is); (case ya_NotThere => k_is); (case ym_NotThere => k_is); (case bx_Malformed => k_is)
    (case tx_Malformed => k_is); (case ix_Malformed => k_is); (case bx_NotThere => k_is); (case tx_NotThere => k_is); (case ix_NotThere => k_is); (case bx_OutOfRange => k_is)
    (case tx_OutOfRange => k_is); (case ix_OutOfRange => k_is); (case bx_Refused => k_is); (case tx_Refused => k_is); (case ix_Refused => k_is); (case bx_TooMuch => k_is)
    (case tx_TooMuch => k_is); (case ix_TooMuch => k_is); (case bx_TraceError => k_is); (case tx_TraceError => k_is); (case ix_TraceError => k_is); (case s_OutOfRange_TraceError => k_is)
    (case s_NotThere_TraceError => k_is); (case s_OutOfRange_Malformed => k_is); (case s_OutOfRange_NotThere => k_is); (case s_OutOfRange_Refused => k_is); (case s_OutOfRange_TooMuch => k_is); (case s_NotThere_OutOfRange => k_is)
    (case s_NotThere_Malformed => k_is); (case s_NotThere_Refused => k_is); (case s_NotThere_TooMuch => k_is); (case ne_OutOfRange_Malformed => decide); (case ne_OutOfRange_NotThere => decide); (case ne_OutOfRange_Refused => decide)
    (case ne_OutOfRange_TooMuch => decide); (case ne_NotThere_OutOfRange => decide); (case ne_NotThere_Malformed => decide); (case ne_NotThere_Refused => decide); (case ne_NotThere_TooMuch => decide); (case b_len => k_is)
    (case b_abs => k_is); (case b_int => k_is); (case b_list => k_is); (case b_reversed => k_is); (case b_isinstance => k_is); (case b_range => k_is)
    (case b_max => k_is); (case b_min => k_is); (case b_sum => k_is); (case b_bool => k_is); (case b_str => k_is); (case b_tuple => k_is)
    (case v_MOST_TIME => k_is)
#print axioms PySem.Challenge.cw_sametrace_k22_whole_windows_of_the_last_holds
