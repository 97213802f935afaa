import PyProof.Rows.All
import Wide.All
import OpenK.AllK
import Wide.FinOn
import HandS.ForMost
import HandS.Exc
import HandS.ExcOwn
import HandS.ExcCtx
import HandS.ExcIs
import HandS.Rev
import HandS.TupAny
import HandS.Deep
import HandS.IsInst
import HandS.Style
import HandS.More
import HandS.HotCalls
import HandS.Flow
import HandS.Gcd
import HandS.SortInts
import HandS.Star
import HandS.TupMul
import KE.SortData
import KE.DataMinMax
import PySem.Challenge.RW_sametrace_k23_whole_what_figures_can_bec
set_option Elab.async false
set_option linter.all false
set_option maxRecDepth 100000
namespace HL
open PySem PySem.Spec PyProof.Rows L2 HotX
section
variable {prog : Program} {w : World} {A : Around} {E : Value → Shared → Prop} {s : Shared}
/-- the end of a list's iterator while an exception is handled -/
theorem list_ends_hot {it l x1 : Addr} {i : Nat} {items : Array Value} {Q : Option Value → Shared → Prop} (hot : HotAt A x1 s.heap)
    (hit : s.heap.IsListIter it l i) (hl : s.heap.IsList l items) (hx : items[i]? = none) (nx : x1 ≠ it)
    (hQ : ∀ h', (∀ b o, b ≠ it → s.heap.get? b = some o → h'.get? b = some o) → Q none { s with heap := h' }) : wpAny (model prog w) A (pyNext (.ref it)) Q E s := by
  obtain ⟨hh, o1, vs1, h1, d1, c1⟩ := hot
  obtain ⟨o, ho, hc, hd⟩ := id hit
  obtain ⟨ol, hol, _, nl, hdl⟩ := hl
  unfold pyNext
  refine wpAny_bind (wpAny_attempt (wpAny_callSpecial?_slot (name := Str.ofString "__next__") hit.typeIs slot_listiter_next
    (wpAny_call_entry slot_listiter_next hit.typeIs entry_listiter_next ?_ (args_listiter_next _))))
  show wpAny _ _ (field (.ref it) 0 >>= _) _ _ s
  refine wpAny_bind (wpAny_field ho hd (x := .ref l) rfl ?_)
  show wpAny _ _ (if (Value.ref l == Value.none) = true then _ else _) _ _ s
  rw [if_neg (show ¬ ((Value.ref l == Value.none) = true) from Bool.false_ne_true)]
  show wpAny _ _ (field (.ref it) 1 >>= _) _ _ s
  refine wpAny_bind (wpAny_field ho hd (x := .int i 0) rfl ?_)
  show wpAny _ _ (seqItems? (.ref l) >>= _) _ _ s
  refine wpAny_bind (wpAny_seqItems hol hdl ?_)
  simp only [Int.toNat_natCast, hx]
  refine wpAny_bind (wpAny_rule (wpAny_bind (wpAny_setField ho hd (by simp) ?_)))
  show wpAny _ _ (newExc (.type "StopIteration") [] >>= _) _ _ _
  refine wpAny_bind ?_
  simp only [newExc, newTuple]
  refine wpAny_bind (wpAny_newObj_type ?_ (by size_fits))
  refine wpAny_bind (m := firstArgMember _ _) (wpAny_of_eq (a := Value.none) (by first | rfl | (simp only [firstArgMember]; rfl)) ?_)
  refine wpAny_newObj_type ?_ (by size_fits)
  have up : ∀ {b o'}, b ≠ it → s.heap.get? b = some o' → (s.heap.update it (Obj.mapFields (·.setIfInBounds 0 .none))).get? b = some o' := fun {b o'} hb e => by
    rw [Heap.get?_update_other _ _ (Ne.symm hb)]; exact e
  refine raiseNew_hot ⟨hh, o1, vs1, Heap.get?_push_of_some _ (Heap.get?_push_of_some _ (up nx h1)), d1, c1⟩ (Nat.ne_of_lt (Heap.lt_size (Heap.get?_push_of_some _ (up nx h1)))) (Heap.get?_push_size _ rfl) rfl (by first | (simp; done) | (simp; omega)) ?_
  refine wpAny_bind (wpAny_isInstance (T := "StopIteration") (b := true) ⟨_, Heap.get?_update_self _ (Heap.get?_push_size _ rfl) rfl, rfl⟩ isSubtype_stop ?_)
  refine wpAny_pure (hQ _ fun b o' hb e => ?_)
  rw [Heap.get?_update_other _ _ (Nat.ne_of_gt (Heap.lt_size (Heap.get?_push_of_some _ (up hb e))))]
  exact Heap.get?_push_of_some _ (Heap.get?_push_of_some _ (up hb e))
end
section
variable {X : Cx}
/-- where an exception is handled: a comprehension over a list -/
theorem pe_lcH {l elt tg : Expr} {ifs : List Expr} {scope : Scope} {own : List (Str × Nat)} {pos : Pos} {tl : TE} {g : TG} {tt : TT} {te : TE} (hot : L2H.HotC X) (hN : X.N.Nodup) (hl : PE X l tl) (ok : BlkOk X.N X.env.scope scope own)
    (hg : ∀ (s : Shared) (H : Hp) (C : Addr) (cl : List (Str × Addr)) (fp : List Addr), PG (X.blk s H scope (compEnvC scope cl C X.env) fp) tg g)
    (ht : ∀ (s : Shared) (H : Hp) (C : Addr) (cl : List (Str × Addr)) (fp : List Addr), PTs (X.blk s H scope (compEnvC scope cl C X.env) fp) ifs tt)
    (he : ∀ (s : Shared) (H : Hp) (C : Addr) (cl : List (Str × Addr)) (fp : List Addr), PE (X.blk s H scope (compEnvC scope cl C X.env) fp) elt te)
    (hs : ∀ x, foldedSetIterable l X.env x = pure x := by intro _; rfl) :
    PE X (.ListComp elt [⟨tg, l, ifs, 0⟩] scope pos) (tLc (iList X.K tl) g tt te (own.map (·.2))) := by
  refine ⟨fun pins s σ H Q I h => ?_⟩
  rw [eval_ListComp]
  have hfree : ∀ y ∈ scope.names, y.2 = .free → ∃ c, X.env.cells.lookup y.1 = some c := fun y hy e => (ok.free y hy e).elim (fun k => I.ok.has _ (.inl k)) fun k => I.ok.has _ (.inr k)
  refine wpAny_comprehension_free (use := none) rfl hs (closure_ok hfree) ok.kind (fun y hy e => by rw [ok.uniq y hy, e])
    (thn (hl.run pins s σ H _ I h) fun xv s1 hx => ?_)
  obtain ⟨v, H2, I1, r1, a, ea, ⟨xs, hq⟩, q⟩ := hx
  subst ea
  cases r1
  obtain ⟨its, rv, p, hz⟩ := I1.list hq
  refine wpAny_pyIter_list p.isList ?_
  generalize hit : s1.heap.objs.size = it
  generalize hs2 : ({ s1 with heap := s1.heap.push { cls := .type "list_iterator", data := .fields #[.ref a, .int 0 0] } } : Shared) = s2
  have I2 : Inv X pins σ H2 s2 := by
    rw [← hs2]
    exact I1.kept (t' := s1.toks) fun b o e => Heap.get?_push_of_some _ e
  have st2 : s2.heap.IsListIter it a 0 := by
    rw [← hs2, ← hit]
    exact ⟨_, Heap.get?_push_size _ rfl, rfl, rfl⟩
  have f2 : FpOk X pins H2 it := I1.fpOk (Nat.le_of_eq hit) (I1.hok.fresh (Nat.le_of_eq hit))
  refine wpAny_newObj_type (newEnv_comp ?_) (by show 0 ≤ sizeLine; decide)
  generalize hD : s2.heap.objs.size = D
  have hDn : H2 D = none := I2.hok.fresh (Nat.le_of_eq hD)
  obtain ⟨W, ⟨m0, w0⟩, turn⟩ := q D hDn
  generalize hs3 : ({ s2 with heap := s2.heap.push { cls := .type "list", data := .seq ([] : List Value).toArray } } : Shared) = s3
  have I3 : Inv X pins σ (upd H2 D (.lst [])) s3 := by
    rw [← hs3]
    refine I2.laid (t' := s2.toks) (fun b o e => Heap.get?_push_of_some _ e) (Nat.le_of_eq hD) ⟨Nat.zero_le _, [], 0, .nil, ?_⟩
    rw [← hD]
    exact Heap.get?_push_size _ rfl
  have h3 : s3.heap = s2.heap.push { cls := .type "list", data := .seq ([] : List Value).toArray } := by rw [← hs3]
  have lt2 : it < s2.heap.objs.size := by
    obtain ⟨o, e, _⟩ := id st2
    exact Heap.lt_size e
  have nD : it ≠ D := by rw [← hD]; exact Nat.ne_of_lt lt2
  have f3 : ∀ b ∈ [it], FpOk X pins (upd H2 D (.lst [])) b ∧ b < s3.heap.objs.size := fun b hb => by
    have e : b = it := by simpa using hb
    subst e
    exact ⟨⟨by rw [upd_ne nD]; exact f2.1, f2.2⟩, by rw [h3, Heap.size_push]; exact Nat.lt_succ_of_lt lt2⟩
  have st3 : s3.heap.IsListIter it a 0 := by
    obtain ⟨o, e, c, d⟩ := id st2
    exact ⟨o, by rw [h3]; exact Heap.get?_push_of_some _ e, c, d⟩
  -- the handled exception stands, out of reach of the block
  obtain ⟨pe0, ⟨hh, v1, e1, c1⟩, hp0⟩ := hot
  obtain ⟨g0, n0, nl0, nf0, nc0⟩ := I3.pin pe0 (List.mem_append_left _ hp0)
  have ns0 : pe0.1 ∉ frs X.stack := fun z => (List.mem_cons.mp (I3.stkSub pe0.1 z)).elim nl0 nf0
  have ni0 : pe0.1 ≠ it := (f3 it (by simp)).1.2.2.2.2.2 pe0 (List.mem_append_left _ hp0)
  have I4 := block_start I3 ok hN f3
  have pg := hg s3 (upd H2 D (.lst [])) s3.heap.objs.size (cellsFrom (s3.heap.objs.size + 1) scope.names (cloFrom X.env.cells scope.names [])) [it]
  have pt := ht s3 (upd H2 D (.lst [])) s3.heap.objs.size (cellsFrom (s3.heap.objs.size + 1) scope.names (cloFrom X.env.cells scope.names [])) [it]
  have pe := he s3 (upd H2 D (.lst [])) s3.heap.objs.size (cellsFrom (s3.heap.objs.size + 1) scope.names (cloFrom X.env.cells scope.names [])) [it]
  show codeAny _ _ (.compStart (.ListComp elt [⟨tg, l, ifs, 0⟩] scope pos) 0 (.ref it) (.ref D) (compEnvC scope (cellsFrom (s3.heap.objs.size + 1) scope.names (cloFrom X.env.cells scope.names [])) s3.heap.objs.size X.env)) (compPost (model X.prog X.w) X.A X.xe none (EP X pins σ Q) (.ref D) s3.heap.objs.size) { s3 with heap := pushCells (s3.heap.push { cls := .type "dict", data := .dict #[] }) scope.names }
  generalize hce : compEnvC scope (cellsFrom (s3.heap.objs.size + 1) scope.names (cloFrom X.env.cells scope.names [])) s3.heap.objs.size X.env = ce at I4 pg pt pe ⊢
  have cL : ce.locals = s3.heap.objs.size := by subst hce; rfl
  have n3 : (upd H2 D (.lst [])) it = none := (f3 it (by simp)).1.1
  generalize hH3 : upd H2 D (.lst []) = H3 at I3 I4 pg pt pe w0 n3 f3 n0
  generalize hs4 : ({ s3 with heap := pushCells (s3.heap.push { cls := .type "dict", data := .dict #[] }) scope.names } : Shared) = s4 at I4 ⊢
  have st4 : s4.heap.IsListIter it a 0 := by
    obtain ⟨o, e, c, d⟩ := id st3
    exact ⟨o, by rw [← hs4]; exact pushCells_keeps _ _ _ _ (Heap.get?_push_of_some _ e), c, d⟩
  have stat : ∀ {σ' : L2.St} {H' : Hp} {s' : Shared}, Inv (X.blk s3 H3 scope ce [it]) [] σ' H' s' → H' it = none → FpOk (X.blk s3 H3 scope ce [it]) [] H' it := fun {_ H' s'} I' hn =>
    ⟨hn, (I'.ok.exf it (by simp)).1, I'.ok.exfs it (by simp), .inl (by simp), fun x c e => (I'.ok.exf it (by simp)).2 x c e, fun p hp => absurd (show p ∈ ([] : List (Addr × Obj)) ++ [] from hp) (by simp)⟩
  have loop : codeAny (model X.prog X.w) X.A (.compLoop (.ListComp elt [⟨tg, l, ifs, 0⟩] scope pos) 0 (.ref it) (.ref D) ce) (compPost (model X.prog X.w) X.A X.xe none (EP X pins σ Q) (.ref D) s3.heap.objs.size) s4 := by
    refine compLoop_any (fun n s' => ∃ i H', Inv (X.blk s3 H3 scope ce [it]) [] (wipe σ (own.map (·.2))) H' s' ∧ s'.heap.IsListIter it a i ∧ H' it = none ∧ W i n H') ?_ m0 ⟨0, H3, I4, st4, n3, w0⟩
    rintro n s5 ⟨i, H5, I5, st5, n5, w5⟩
    have F5 := stat I5 n5
    obtain ⟨q0, q1, q2, q3, q4, q5⟩ := id F5
    rcases turn i n H5 w5 with ⟨stop, qq⟩ | ⟨go, Nx, hNx, step⟩
    · obtain ⟨ys, hys, hle⟩ := stop
      obtain ⟨jts, rvj, pj, _⟩ := I5.list hys
      have hotAt : HotAt X.A pe0.1 s5.heap := ⟨hh, pe0.2, v1, I5.base.keep pe0.1 pe0.2 g0 n0 ns0 (by simpa using ni0), e1, c1⟩
      refine list_ends_hot hotAt st5 pj.isList (by have := rvj.length; simp; omega) ni0 fun h' keep => ?_
      have I6 : Inv (X.blk s3 H3 scope ce [it]) [] (wipe σ (own.map (·.2))) H5 { s5 with heap := h' } := I5.turned (t' := s5.toks) keep q0 q1 q3 q4 q5
      have I7 : Inv X pins σ H5 { s5 with heap := h' } := I3.call' (ch := [it]) I6.os I6.base I6.hok I6.bare fun b hb => ⟨(f3 b hb).1.2.2.2.1, (f3 b hb).1.2.1, (f3 b hb).1.2.2.2.2.1, (f3 b hb).1.2.2.2.2.2⟩
      have nC : H5 s3.heap.objs.size = none := by
        have z : H5 ce.locals = none := I6.free
        rwa [cL] at z
      obtain ⟨m, hn, _⟩ := I6.loc
      have hn : h'.Ns ce.locals m := hn
      rw [cL] at hn
      refine ⟨m, hn, fun h'' sb => ?_⟩
      obtain ⟨f0, f1, f2, f3, f4, f5⟩ := I3.fpOk (Nat.le_refl _) nC
      exact ⟨.ref D, H5, I7.turned (t' := s5.toks) (fun b o hb e => (sb.2 b hb).trans e) f0 f1 f3 f4 f5, rfl, qq⟩
    · obtain ⟨ys, x, hys, hx⟩ := go
      obtain ⟨jts, rvj, pj, _⟩ := I5.list hys
      obtain ⟨u, hu, ru⟩ := rvj.get hx
      refine wpAny_pyNext_list_item st5 pj.isList (x := u) (by simpa using hu) fun h' st' sb => ?_
      have I6 : Inv (X.blk s3 H3 scope ce [it]) [] (wipe σ (own.map (·.2))) H5 { s5 with heap := h' } := I5.turned (t' := s5.toks) (fun b o hb e => (sb.2 b hb).trans e) q0 q1 q3 q4 q5
      obtain ⟨oi, ei, ci, di⟩ := id st'
      refine go_of (s := { s5 with heap := h' }) ei ci di (by decide) ?_
      have I7 := I6.pinned (fp := [it]) (fun b hb => by have e : b = it := by simpa using hb
                                                        subst e; exact stat I6 n5) (fun b hb => by
        have e : b = it := by simpa using hb
        subst e
        exact ⟨oi, ei, fun v z => by rw [di] at z; cases z⟩)
      refine thnF (pg.run _ { s5 with heap := h' } _ H5 x u _ I7 ru (step x H5 ⟨rfl, fun zs hzs => by rw [I5.list_inj hzs hys]; exact hx⟩)) fun _ s8 ⟨σ8, H8, I8, hw8, q8⟩ => ?_
      refine thnF (pt.run _ s8 σ8 H8 _ I8 q8) fun b s9 ⟨H9, I9, q9⟩ => ?_
      have fin : ∀ {s' : Shared} {H' : Hp}, Inv (X.blk s3 H3 scope ce [it]) ([] ++ pinsAt [it] h') σ8 H' s' → Nx H' → ∃ m, m < n ∧ ∃ i H', Inv (X.blk s3 H3 scope ce [it]) [] (wipe σ (own.map (·.2))) H' s' ∧ s'.heap.IsListIter it a i ∧ H' it = none ∧ W i m H' := fun {s' H'} I' nx => by
        obtain ⟨m', hm, w'⟩ := hNx H' nx
        have z := I'.pin (it, oi) (List.mem_append_right _ (List.mem_append_right _ (mem_pinsAt (by simp) ei)))
        have hlen : (wipe σ (own.map (·.2))).length = σ8.length := by rw [← hw8, wipe_length]
        refine ⟨m', hm, i + 1, H', (I'.unpinned (pins := [])).weak hlen (fun j v e => ?_), ⟨oi, z.1, ci, di⟩, z.2.1, w'⟩
        rw [← hw8] at e
        exact (wipe_some e).1
      cases b with
      | false =>
        simp only [Bool.false_eq_true, if_false] at q9 ⊢
        exact fin I9 q9
      | true =>
        simp only [if_true] at q9 ⊢
        refine thnF (pe.run _ s9 σ8 H9 _ I9 q9) fun z s10 ⟨yv, H10, I10, r10, acc, hD10, hz10, nx⟩ => ?_
        exact app_ok (X := X.blk s3 H3 scope ce [it]) I10 hD10 hz10 r10 fun s11 I11 => fin I11 nx
  refine codeAny_compStart_list loop ?_
  exact (turn_list (P := X.prog) (w := X.w) (K := X.K) (tg := tg) a it).self X.A 0 _ _ _ st4 loop
end
/-! ### calls whose exceptions are wished for at the caller's slots; methods, makers -/
section
variable {X : Cx} {CX : CXT} {k : Nat} {f C : Addr} {fd : FuncData} {ps : List Str} {sp : Sp} {E : L2.St → XK} {x m : Str} {p pos apos : Pos} {e o : Expr} {es : List Expr} {ta : TE} {t : TA}
/-- what lets nothing out -/
theorem at0 {σ : L2.St} {E' : XK} : PassesAt CX0 X σ E' := fun _ _ _ _ _ _ h => h.elim
/-- no wish at all: the callee raises nothing there -/
theorem atN {σ : L2.St} : PassesAt (L2N.CX X.prog X.w) X σ (fun _ _ _ => False) := fun _ _ _ _ _ _ h => by
  obtain ⟨_, _, _, _, _, _, _, _, _, _, _, _, z⟩ := h
  exact z.elim
theorem runE {pins : List (Addr × Obj)} {σ : L2.St} {H : Hp} {s : Shared} {Q : VK} {us : List Value} {vs : List V} (F : FnOk X.prog X.w X.K X.mg X.base CX k f fd ps sp) (hr : Room k X.A) (hb : Binds X.K fd ps []) (hx : PassesAt CX X σ (E σ))
    (I : Inv X pins σ H s) (r : Vals vs us) (h : sp vs H Q (E σ)) : wpAny (model X.prog X.w) X.A (call (.ref f) us) (EP X pins σ Q) X.xe s := run_fnS F hr hb hx I r h
theorem c_call (F : FnOk X.prog X.w X.K X.mg X.base CX k f fd ps sp) (hr : Room k X.A) (hm : X.mg x = some (.ref f)) (hk : PySem.W.keepIn X.K (.ref f) = true) (hb : Binds X.K fd ps []) (hx : ∀ σ, PassesAt CX X σ (E σ))
    (ha : PA X (e :: es) t) (hg : Gl X x := by rfl) (hdb : (x == ("__debug__" : Str)) = false := by decide) (he : starEach (e :: es) X.env = (false, eval e X.env) :: starEach es X.env := by rfl) (hpl : (backTo pos (starEach es X.env)).any (·.1) = false := by rfl) :
    PE X (.Call (.Name x p) (e :: es) [] pos) (tCallS sp E t) := pe_callS F hr hg hm hk hb hx ha hdb he hpl
/-- o.m(..), of an instance -/
def tMethE (C : Addr) (m : Str) (sp : Sp) (E : L2.St → XK) (ta : TE) (t : TA) : TE := fun σ H Q => ta σ H fun x H1 => ∃ a dx fs, x = .ref a ∧ H1 a = some (.ins C dx fs) ∧ fs.lookup m = none ∧
  t σ H1 fun vs H2 => sp (x :: vs) H2 Q (E σ)
theorem c_meth {pl : Sem Bool} (he : PE X o ta) (c : Cls X.K C) (hm : Meth X.K C m f) (F : FnOk X.prog X.w X.K X.mg X.base CX k f fd ps sp) (hr : Room k X.A) (hb : Binds X.K fd ps []) (hx : ∀ σ, PassesAt CX X σ (E σ)) (ha : PA X (e :: es) t)
    (hst : starEach (e :: es) X.env = (false, eval e X.env) :: starEach es X.env := by rfl) (hpl : (backTo pos (starEach es X.env)).any (·.1) = false := by rfl)
    (ht : eval (.Call (.Attribute o m apos) (e :: es) [] pos) X.env = (do
      let ov ← eval o X.env
      standAt apos.atName
      let (f, first) ← holding [ov] (getMethod ov m pl)
      callWith pos f first (backTo pos (starEach (e :: es) X.env)) (backToKw pos (keywordEach [] X.env))) := by rfl) :
    PE X (.Call (.Attribute o m apos) (e :: es) [] pos) (tMethE C m sp E ta t) := by
  refine ⟨fun pins s σ H Q I h => PySem.W.methodCall_KW (pl := pl) (thn (he.run pins s σ H _ I h) fun u s1 hh => ?_) ht⟩
  obtain ⟨x, H1, I1, rx, a, dx, fs, ex, ea, l, q⟩ := hh
  subst ex
  obtain rfl : u = Value.ref a := rx
  refine getmeth_ok I1 ea c hm l (PySem.W.callWith_K (first := [.ref a]) (h₀ := X.base) I.ok.mod.kin hm.kp (thn (ha.run pos pins s1 σ H1 _ I1 q) fun us s2 hh => ?_) hst hpl)
  obtain ⟨vs, H2, I2, r, q2⟩ := hh
  exact ⟨I2.kIn, runE (us := .ref a :: us) (vs := .ref a :: vs) F hr hb (hx σ) I2 (.cons rfl r) q2⟩
theorem c_meth0 {pl : Sem Bool} (he : PE X o ta) (c : Cls X.K C) (hm : Meth X.K C m f) (F : FnOk X.prog X.w X.K X.mg X.base CX k f fd ps sp) (hr : Room k X.A) (hb : Binds X.K fd ps []) (hx : ∀ σ, PassesAt CX X σ (E σ))
    (ht : eval (.Call (.Attribute o m apos) [] [] pos) X.env = (do
      let ov ← eval o X.env
      standAt apos.atName
      let (f, first) ← holding [ov] (getMethod ov m pl)
      callWith pos f first (backTo pos (starEach [] X.env)) (backToKw pos (keywordEach [] X.env))) := by rfl) :
    PE X (.Call (.Attribute o m apos) [] [] pos) (tMethE C m sp E ta tNil) := by
  refine ⟨fun pins s σ H Q I h => PySem.W.methodCall_KW (pl := pl) (thn (he.run pins s σ H _ I h) fun u s1 hh => ?_) ht⟩
  obtain ⟨x, H1, I1, rx, a, dx, fs, ex, ea, l, q⟩ := hh
  subst ex
  obtain rfl : u = Value.ref a := rx
  exact getmeth_ok I1 ea c hm l (PySem.W.callWith_K0 (first := [.ref a]) I1.kIn hm.kp (runE (us := [.ref a]) (vs := [.ref a]) F hr hb (hx σ) I1 (.cons rfl .nil) q))
/-- C(..) -/
def tMakeE (C : Addr) (sp : Sp) (E : L2.St → XK) (t : TA) : TE := fun σ H Q => t σ H fun vs H1 => ∀ x dx, H1 x = none → H1 dx = none → dx ≠ x →
  sp (.ref x :: vs) (upd (upd H1 dx (.own x)) x (.ins C dx [])) (fun v H2 => v = .non ∧ Q (.ref x) H2) (E σ)
theorem run_makeE {pins : List (Addr × Obj)} {σ : L2.St} {H : Hp} {s : Shared} {Q : VK} {us : List Value} {vs : List V} (M : Mk X.K C f) (F : FnOk X.prog X.w X.K X.mg X.base CX k f fd ps sp) (hr : Room (k + 1) X.A) (hb : Binds X.K fd ps [])
    (hx : PassesAt CX X σ (E σ)) (I : Inv X pins σ H s) (r : Vals vs us)
    (h : ∀ x dx, H x = none → H dx = none → dx ≠ x → sp (.ref x :: vs) (upd (upd H dx (.own x)) x (.ins C dx [])) (fun v H2 => v = .non ∧ Q (.ref x) H2) (E σ)) :
    wpAny (model X.prog X.w) X.A (call (.ref C) us) (EP X pins σ Q) X.xe s := by
  have hq := h (s.heap.objs.size + 1) s.heap.objs.size (I.hok.fresh (Nat.le_succ _)) (I.hok.fresh (Nat.le_refl _)) (Nat.ne_of_lt (Nat.lt_succ_self _))
  have I2 := Inv.made (C := C) I
  have r2 : Vals (V.ref (s.heap.objs.size + 1) :: vs) (Value.ref (s.heap.objs.size + 1) :: us) := .cons rfl r
  have hl : (Value.ref (s.heap.objs.size + 1) :: us ++ []).length = ps.length := by
    rw [List.append_nil, ← r2.length, F.len _ _ _ _ hq]
  have hb2 := hb _ (Value.ref (s.heap.objs.size + 1) :: us) I2.kIn hl
  rw [List.append_nil] at hb2
  refine wpAny_call (make_map (f := f) I.kIn M.makes M.init (beq_iff_eq.mp M.fn) (codeAny_mono (F.run _ X.stack _ _ ⟨Value.ref (s.heap.objs.size + 1) :: us, []⟩ (Value.ref (s.heap.objs.size + 1) :: us) _ _ (E σ) (hr.make C us [])
    (I2.env0.make C us []) hb2 r2 hq) fun r s' hq' => ?_))
  match r, hq' with
  | .error e, hq' => exact hx pins _ _ e s' I2 hq'
  | .ok (.ret u), hq' =>
    obtain ⟨v, H', I3, rv, ev, q3⟩ := I2.after hq'
    subst ev
    exact ⟨rv, ⟨V.ref (s.heap.objs.size + 1), H', I3, rfl, q3⟩⟩
  | .ok .next, hq' => exact False.elim hq'
  | .ok .brk, hq' => exact False.elim hq'
  | .ok .cont, hq' => exact False.elim hq'
theorem c_make (M : Mk X.K C f) (F : FnOk X.prog X.w X.K X.mg X.base CX k f fd ps sp) (hr : Room (k + 1) X.A) (hm : X.mg x = some (.ref C)) (hb : Binds X.K fd ps []) (hx : ∀ σ, PassesAt CX X σ (E σ))
    (ha : PA X (e :: es) t) (hg : Gl X x := by rfl) (hdb : (x == ("__debug__" : Str)) = false := by decide) (he : starEach (e :: es) X.env = (false, eval e X.env) :: starEach es X.env := by rfl) (hpl : (backTo pos (starEach es X.env)).any (·.1) = false := by rfl) :
    PE X (.Call (.Name x p) (e :: es) [] pos) (tMakeE C sp E t) := by
  refine ⟨fun pins s σ H Q I h => wpAny_Call_Name_kw (ld_glob I hg hm ?_ hdb)⟩
  refine PySem.W.callWith_K (h₀ := X.base) I.ok.mod.kin M.kp (thn (ha.run pos pins s σ H _ I h) fun us s1 ⟨vs, H1, I1, r, q⟩ => ⟨I1.kIn, ?_⟩) he hpl
  exact run_makeE M F hr hb (hx σ) I1 r q
theorem c_make0 (M : Mk X.K C f) (F : FnOk X.prog X.w X.K X.mg X.base CX k f fd ps sp) (hr : Room (k + 1) X.A) (hm : X.mg x = some (.ref C)) (hb : Binds X.K fd ps []) (hx : ∀ σ, PassesAt CX X σ (E σ))
    (hg : Gl X x := by rfl) (hdb : (x == ("__debug__" : Str)) = false := by decide) : PE X (.Call (.Name x p) [] [] pos) (tMakeE C sp E tNil) := by
  refine ⟨fun pins s σ H Q I h => wpAny_Call_Name_kw (ld_glob I hg hm ?_ hdb)⟩
  exact PySem.W.callWith_K0 I.kIn M.kp (run_makeE (us := []) M F hr hb (hx σ) I .nil h)
end
/-- a def that may raise, raised where nothing is handled -/
theorem okN {P : Program} {w : World} {K : PySem.W.Frag} {mg : Str → Option Value} {base : Heap} {x qual : Str} {st : Stmt} {f : Addr} {fd : FuncData} {N ps : List Str} {k : Nat} {sp : Sp} (F : Fun K x qual st f fd) (S : FnScope N ps (defScope st)) (len : ∀ vs H Q E, sp vs H Q E → vs.length = ps.length)
    (hbody : ∀ (cdv : Value) (A : Around) (outer : List Env) (s : Shared) (H : Hp) (vs : List V) (Q : VK) (E : XK), Room k (A.deeper (envOfC qual (defScope st) s.heap.objs.size f cdv)) → sp vs H Q E →
      ∃ t, PSs (cxOf (L2N.CX P w) P w K mg base N qual (defScope st) f cdv A outer s H E) (defBody st) t ∧ t { nx := fun _ H' => Q .non H', rt := Q } (start N vs) H) : FnOk P w K mg base (L2N.CX P w) (k + 1) f fd ps sp := by
  obtain ⟨oc, od, kV, doc, pm, an, cdv, ct, osl, rfl, lk, hcd⟩ := F.ex
  exact fn_of lk hcd S len fun A outer s H vs Q E hr hsp => hbody cdv A outer s H vs Q E hr hsp
/-! ### a def called in an except suite with the exception that is handled -/
/-- what is told of the exception: where it stands, its class, its own dict -/
abbrev SpE := Addr → Value → Option Addr → Sp
structure FnE (P : Program) (w : World) (K : PySem.W.Frag) (mg : Str → Option Value) (base : Heap) (k : Nat) (f : Addr) (fd : FuncData) (ps : List Str) (sp : SpE) : Prop where
  len : ∀ a c d vs H Q E, sp a c d vs H Q E → vs.length = ps.length
  run : ∀ (A : Around) (outer : List Env) (s : Shared) (H : Hp) (args : Args) (us : List Value) (vs : List V) (Q : VK) (E : XK) (p : Addr × Obj) (c : Value) (d : Option Addr), L2H.RoomH k A → L2H.Hot1 A p → Zc c d p.2 → L2H.PinOk outer H s p → Env0 P w K mg base A outer s H → BindsTo s fd args (ps.zip us) → Vals vs us → sp p.1 c d vs H Q E →
    codeAny (model P w) A (.call (.ref f) args) (CR CX0 outer P w H s Q E) s
theorem fnE_of {P : Program} {w : World} {K : PySem.W.Frag} {mg : Str → Option Value} {base : Heap} {x qual : Str} {st : Stmt} {f : Addr} {fd : FuncData} {N ps : List Str} {k : Nat} {sp : SpE} (F : Fun K x qual st f fd) (S : FnScope N ps (defScope st))
    (len : ∀ a c d vs H Q E, sp a c d vs H Q E → vs.length = ps.length)
    (hbody : ∀ (cdv : Value) (A : Around) (outer : List Env) (s : Shared) (H : Hp) (vs : List V) (Q : VK) (E : XK) (p : Addr × Obj) (c : Value) (d : Option Addr), L2H.Hot1 (A.deeper (envOfC qual (defScope st) s.heap.objs.size f cdv)) p → Zc c d p.2 → L2H.RoomH k (A.deeper (envOfC qual (defScope st) s.heap.objs.size f cdv)) → sp p.1 c d vs H Q E →
      ∃ t, PSs (L2H.cxH CX0 P w K mg base N qual (defScope st) f cdv A outer s H E p) (defBody st) t ∧ t { nx := fun _ H' => Q .non H', rt := Q } (L2.start N vs) H) :
    FnE P w K mg base (k + 1) f fd ps sp := by
  obtain ⟨oc, od, kV, doc, pm, an, cdv, ct, osl, rfl, lk, hcd⟩ := F.ex
  refine ⟨len, fun A outer s H args us vs Q E p c d hr hot hz hpin e0 hb r hsp => ?_⟩
  have hl := len _ _ _ _ _ _ _ hsp
  have KX : K.In s.heap := e0.mod.kin.keeps fun b o e => (e0.bs b o e).1
  have lim : s.heap.NoLimit := e0.mod.nolimit.keeps fun b o e => (e0.bs b o e).1
  have hkind : ∀ y ∈ ps.zip us, (defScope st).names.lookup y.1 = some .local ∨ ((defScope st).names.lookup y.1 = some .cell ∧ ((cellsFrom (s.heap.objs.size + 1) (defScope st).names []).lookup y.1).isSome = true) := fun ⟨n, v⟩ hy =>
    (S.par n (List.of_mem_zip hy).1).elim .inl fun q => .inr ⟨q, PySem.W.cellsFrom_some _ _ _ (.inl q)⟩
  refine codeAny_call_function hr.depth (KX _ _ lk) rfl S.co S.gen rfl (PySem.W.codeRec_of KX hcd) (hb _ _ _ _ (wpAny_newFunctionEnv_cells S.kind hkind fun env he s1 x => ?_))
  subst he
  refine ⟨lim.keeps x.toInCall.keep, codeAny_func ?_⟩
  obtain ⟨t, ht, hq⟩ := hbody cdv A outer s H vs Q E p c d hot hz (hr.deeper _) hsp
  have I : Inv (L2H.cxH CX0 P w K mg base N qual (defScope st) f cdv A outer s H E p) [] (L2.start N vs) H s1 := L2H.inv_startH S hpin e0 hl r x
  refine wpAny_mono (ht.run [] s1 (L2.start N vs) H _ I hq) (fun fl s' hs => ?_) fun e s' hs => hs
  match fl, hs with
  | .ret u, ⟨v, σ', H', J, rv, q⟩ => exact ⟨v, H', J.os, J.bare, J.base, J.hok, rv, q⟩
  | .next, ⟨σ', H', J, q⟩ => exact ⟨V.non, H', J.os, J.bare, J.base, J.hok, rfl, q⟩
  | .brk, ⟨_, _, _, q⟩ => exact False.elim q
  | .cont, ⟨_, _, _, q⟩ => exact False.elim q
section
variable {X : Cx} {k : Nat} {f : Addr} {fd : FuncData} {ps : List Str} {sp : SpE} {x : Str} {q pos : Pos} {e : Expr} {es : List Expr} {t : TA}
def tCallE (sp : SpE) (a : Addr) (c : Value) (d : Option Addr) (t : TA) : TE := fun σ H Q => t σ H fun vs H1 => sp a c d vs H1 Q (fun _ _ _ => False)
theorem c_callE {a : Addr} {oe : Obj} {c : Value} {d : Option Addr} (F : FnE X.prog X.w X.K X.mg X.base k f fd ps sp) (hr : L2H.RoomH k X.A) (hh : X.A.handled = some (.ref a)) (hp : (a, oe) ∈ X.pn) (hz : L2N.Zn c d oe) (hf : ∃ vs, oe.data = .fields vs)
    (hm : X.mg x = some (.ref f)) (hk : PySem.W.keepIn X.K (.ref f) = true) (hb : Binds X.K fd ps [])
    (ha : PA X (e :: es) t) (hg : Gl X x := by rfl) (hdb : (x == ("__debug__" : Str)) = false := by decide) (he : starEach (e :: es) X.env = (false, eval e X.env) :: starEach es X.env := by rfl) (hpl : (backTo pos (starEach es X.env)).any (·.1) = false := by rfl) :
    PE X (.Call (.Name x q) (e :: es) [] pos) (tCallE sp a c d t) := by
  refine ⟨fun pins s σ H Q I h => wpAny_Call_Name_kw (ld_glob I hg hm ?_ hdb)⟩
  refine PySem.W.callWith_K (h₀ := X.base) I.ok.mod.kin hk (thn (ha.run pos pins s σ H _ I h) fun us s1 ⟨vs, H1, I1, r, q⟩ => ⟨I1.kIn, ?_⟩) he hpl
  obtain ⟨v1, hv1⟩ := hf
  have hot : L2H.Hot1 X.A (a, oe) := ⟨hh, v1, hv1, hz.2.2 v1 hv1⟩
  have hl : us.length = ps.length := by rw [← r.length]; exact F.len _ _ _ _ _ _ _ q
  have b := hb s1 us I1.kIn (by rw [List.append_nil]; exact hl)
  rw [List.append_nil] at b
  have P1 := I1.pin (a, oe) (List.mem_append_left _ hp)
  have hpin : L2H.PinOk X.stack H1 s1 (a, oe) := ⟨P1.1, P1.2.1, fun hm => (List.mem_cons.mp (I1.stkSub a hm)).elim P1.2.2.1 P1.2.2.2.1, P1.2.2.2.2⟩
  refine wpAny_call (codeAny_mono (F.run X.A X.stack s1 H1 ⟨us, []⟩ us vs Q (fun _ _ _ => False) (a, oe) c d hr hot hz.zc hpin I1.env0 b r q) fun r s' hq => ?_)
  match r, hq with
  | .error e, hq => exact False.elim hq
  | .ok (.ret u), hq => exact I1.after hq
  | .ok .next, hq => exact False.elim hq
  | .ok .brk, hq => exact False.elim hq
  | .ok .cont, hq => exact False.elim hq
/-- isinstance(e, c), e an exception that every state bears -/
theorem call_isP {a D : Addr} {oe : Obj} (C : ExcC X.K D) (hp : (a, oe) ∈ X.pn) (hz : Zc (.ref D) none oe) (hf : ∃ vs, oe.data = .fields vs) : CallR X (.builtin "isinstance") (rIsE X.K D a) := by
  intro pins s σ H xs us Q I r h
  obtain ⟨c, cv, b, rfl, hcv, e, q⟩ := h
  cases r with
  | cons rx rr =>
    cases rr with
    | cons rt rr =>
      cases rr
      cases rx
      have ec := hcv _ rt
      subst ec
      obtain ⟨hget, _⟩ := I.pin (a, oe) (List.mem_append.mpr (.inl hp))
      obtain ⟨vs, hv⟩ := hf
      have J : PySem.W.InstAt s.heap a oe D none := by
        obtain ⟨oc, od, oda, osl⟩ := oe
        obtain ⟨h1, h2⟩ := hz
        dsimp only at h1 h2 hv
        subst h1 h2 hv
        exact ⟨hget, rfl, rfl, trivial⟩
      exact PySem.W.kia_one (PySem.W.handS_kitx_exc C.hg C.hk C.hs C.hd C.ha C.hn C.ht C.hm) I.kIn J e (fun z => nomatch z) fun tk => ⟨.bl b, H, I.kept (t' := tk) fun _ _ z => z, rfl, q⟩
end
/-! ### list(reversed(xs)) -/
section
variable {prog : Program} {w : World} {A : Around} {E : Value → Shared → Prop} {s : Shared}
theorem call_list_rev {it l : Addr} {items : Array Value} {Q : Value → Shared → Prop} (hh : A.handled = none) (hit : s.heap.IsRevIter it l ((items.size : Int) - 1)) (hl : s.heap.IsList l items) (hne : l ≠ it) (hn : items.size ≤ sizeLine)
    (hQ : ∀ (h' : Heap) (tk : Nat) (acc : Array Value) (c : Nat), (∀ b o, b ≠ it → s.heap.get? b = some o → h'.get? b = some o) → h'.get? s.heap.objs.size = some { cls := .type "list", data := .seq acc c } →
      ItemsOf (fun i v => items[items.size - 1 - i]? = some v) acc items.size → Q (.ref s.heap.objs.size) { s with heap := h', toks := tk }) :
    wpAny (model prog w) A (call (.type "list") [.ref it]) Q E s := by
  refine callType_codes (Q₁ := fun obj s₁ => obj = .ref s.heap.objs.size ∧ s₁ = { s with heap := s.heap.push { cls := .type "list", data := .seq #[] } }) F.called_list (F.typeCall_list_1 _) F.entry_list_init
    (code_list_new _ ⟨rfl, rfl⟩) fun obj s₁ h₁ => ?_
  obtain ⟨rfl, rfl⟩ := h₁
  have hS : (s.heap.push { cls := .type "list", data := .seq #[] }).get? s.heap.objs.size = some { cls := .type "list", data := .seq #[] } := Heap.get?_push_size _ rfl
  refine ⟨⟨_, hS, rfl⟩, F.args_list_init_2 _ _, ?_⟩
  generalize hSe : s.heap.objs.size = S at hS ⊢
  obtain ⟨oi, hoi, _⟩ := id hit
  obtain ⟨ol, hol, _⟩ := id hl
  have hSi : S ≠ it := by rw [← hSe]; exact Nat.ne_of_gt (Heap.lt_size hoi)
  have hSl : S ≠ l := by rw [← hSe]; exact Nat.ne_of_gt (Heap.lt_size hol)
  have hSf : S ∉ [it, l] := by simp only [List.mem_cons, List.not_mem_nil, or_false, not_or]; exact ⟨hSi, hSl⟩
  show wpAny _ _ (do let old ← Builtin.List.listItems (.ref S); Builtin.List.listUpdate (.ref S) (fun _ => #[]); letGo old.toList.reverse; Builtin.List.listExtendWith (.ref S) (.ref it) .none) _ _ _
  refine wpAny_bind ?_
  unfold Builtin.List.listItems
  refine wpAny_bind (wpAny_seqItems hS rfl (wpAny_pure ?_))
  show wpAny _ _ (updateSeq S (fun _ => #[]) >>= fun _ => letGo (#[] : Array Value).toList.reverse >>= fun _ => Builtin.List.listExtendWith (.ref S) (.ref it) .none) _ _ _
  refine wpAny_bind (wpAny_updateSeq hS rfl ?_)
  have hS₂ := Heap.get?_update_self (Obj.mapSeq (fun _ => (#[] : Array Value))) hS rfl
  have oth : ∀ b o, b ≠ S → s.heap.get? b = some o → ((s.heap.push { cls := .type "list", data := .seq #[] }).update S (Obj.mapSeq (fun _ => (#[] : Array Value)))).get? b = some o :=
    fun b o hb e => (Heap.get?_update_other _ _ (Ne.symm hb)).trans (Heap.get?_push_of_some _ e)
  generalize hh2 : (s.heap.push { cls := .type "list", data := .seq #[] }).update S (Obj.mapSeq (fun _ => (#[] : Array Value))) = h2 at hS₂ oth ⊢
  refine wpAny_bind (wpAny_letGo ?_)
  have hit1 : h2.IsRevIter it l ((items.size : Int) - 1) := hit.at fun o e => oth it o (Ne.symm hSi) e
  have hl1 : h2.IsList l items := by
    obtain ⟨o, a, b, c, d⟩ := hl
    exact ⟨o, oth l o (Ne.symm hSl) a, b, c, d⟩
  have hT : ({ s with heap := h2 } : Shared).TypeIs (.ref it) "list_reverseiterator" := Heap.IsRevIter.typeIs (s := { s with heap := h2 }) hit1
  have h1 : Builtin.List.listSameRef (.ref S) (.ref it) = false := by simp [Builtin.List.listSameRef, hSi]
  have W := (Walks.listRev (prog := prog) (w := w) (A := A.in1.in1) hh it l hne items).toS
  unfold Builtin.List.listExtendWith
  refine wpAny_bind (wpAny_typeOf hT ?_)
  rw [if_neg (by rw [h1]; decide)]
  refine wpAny_bind (wpAny_pyIter_revIter (s := { s with heap := h2 }) hit1 ?_)
  refine wpAny_bind (wpAny_holding ?_)
  unfold Builtin.List.listLengthHint
  refine wpAny_bind (wpAny_specialOf hT RT.nolen_lri ?_)
  show wpAny _ _ (specialOf (Value.ref it) (Str.ofString "__length_hint__") >>= _) _ _ _
  refine wpAny_bind (wpAny_specialOf hT RT.hint_lri ?_)
  generalize hid : ("list_reverseiterator.__length_hint__" : String) = id0
  wp_delta
  rw [show splitId id0 = some ("list_reverseiterator", "__length_hint__") from by subst hid; decide +kernel]
  subst hid
  refine wpAny_bind (wpAny_isInstance (b := true) hT (by rw [isSubtype_type]; kernel_rfl) ?_)
  refine wpAny_pure ?_
  rw [if_neg (by decide)]
  have e0 : ((items.size : Nat) : Int) - 1 - ((0 : Nat) : Int) = (items.size : Int) - 1 := by omega
  refine wpAny_pure ⟨plainId_quiet F.plain_extend_loop _, codeAny_extend_loopS W hn _ hSf _ items.size 0 _ _ _ rfl (Nat.zero_le _) ⟨Nat.zero_le _, by rw [e0]; exact hit1, hl1⟩ hS₂ (ItemsOf.nil _) fun s' acc' c' hm hS' hacc => ?_⟩
  refine ⟨rfl, ?_⟩
  rw [Moved.eq_with hm]
  have goal := hQ s'.heap s'.toks acc' c' (fun b o hb e => hm.heap b o (fun hmem => ?_) (oth b o (by rw [← hSe]; exact Nat.ne_of_lt (Heap.lt_size e)) e)) (by rw [hSe]; exact hS') hacc
  · rw [hSe] at goal
    exact goal
  · rcases List.mem_cons.mp hmem with e' | hmem
    · exact absurd (Heap.lt_size e) (by rw [e', ← hSe]; exact Nat.lt_irrefl _)
    · exact hb (List.mem_singleton.mp hmem)
end
section
variable {X : Cx}
def tListRev (K : PySem.W.Frag) (te : TE) : TE := fun σ H Q => te σ H fun v H1 => ∃ (a : Addr) (xs : List V), v = .ref a ∧ SqL K H1 a xs ∧ ∀ q, H1 q = none → Q (.ref q) (upd H1 q (.lst xs.reverse))
theorem pe_listRev {e : Expr} {te : TE} {p p2 pos pos2 : Pos} (hc : X.calm = true) (hm : X.mg "list" = none) (hm2 : X.mg "reversed" = none) (he : PE X e te) (hg : Gl X "list" := by rfl) (hg2 : Gl X "reversed" := by rfl)
    (hs : starEach [e] X.env = (false, eval e X.env) :: starEach [] X.env := by rfl)
    (hs2 : starEach [.Call (.Name "reversed" p2) [e] [] pos2] X.env = (false, eval (.Call (.Name "reversed" p2) [e] [] pos2) X.env) :: starEach [] X.env := by rfl) :
    PE X (.Call (.Name "list" p) [.Call (.Name "reversed" p2) [e] [] pos2] [] pos) (tListRev X.K te) := by
  refine ⟨fun pins s σ H Q I h => ?_⟩
  refine Call_ (ld_blt I hg hm boot_list (PyProof.Rows.callWith_type1 (args_cons (Call_ (ld_blt I hg2 hm2 PyProof.Rows.boot_reversed (PyProof.Rows.callWith_type1 (args_cons (thn (he.run pins s σ H _ I h) fun u s1 hh => args_nil ?_) hs) hs rfl))) hs2) hs2 rfl))
  obtain ⟨v, H1, I1, r1, a, xs, ev, hq, q⟩ := hh
  subst ev
  obtain rfl : u = Value.ref a := r1
  obtain ⟨its, rv, p', hz⟩ := I1.list hq
  refine call_reversed_list p'.isList (args_nil ?_)
  have k0 : ∀ b o, s1.heap.get? b = some o → (s1.heap.push (revObj a ((its.toArray.size : Int) - 1))).get? b = some o := fun b o e => Heap.get?_push_of_some _ e
  have I2 : Inv X pins σ H1 { s1 with heap := s1.heap.push (revObj a ((its.toArray.size : Int) - 1)) } := I1.kept (t' := s1.toks) k0
  obtain ⟨f0, f1, f2, f3, f4, f5⟩ := I1.fpOk (H' := H1) (b := s1.heap.objs.size) (Nat.le_refl _) (I1.hok.fresh (Nat.le_refl _))
  have hl := p'.isList
  obtain ⟨ol, hol, _⟩ := id hl
  have hne : a ≠ s1.heap.objs.size := Nat.ne_of_lt (Heap.lt_size hol)
  have hn : its.toArray.size ≤ sizeLine := by rw [List.size_toArray, ← rv.length]; exact hz
  refine call_list_rev (s := { s1 with heap := s1.heap.push (revObj a ((its.toArray.size : Int) - 1)) }) (I1.ok.hd hc) ⟨_, Heap.get?_push_size _ rfl, rfl, rfl⟩ (hl.push _) hne hn fun h' tk acc c hk hS hi => ?_
  have hle : s1.heap.objs.size ≤ (s1.heap.push (revObj a ((its.toArray.size : Int) - 1))).objs.size := by rw [Heap.size_push]; exact Nat.le_succ _
  generalize hS1 : (s1.heap.push (revObj a ((its.toArray.size : Int) - 1))).objs.size = S at hS hle ⊢
  refine ⟨.ref S, upd H1 S (.lst xs.reverse), I1.laid (t' := tk) (h' := h') (fun b o e => hk b o (Nat.ne_of_lt (Heap.lt_size e)) (k0 b o e)) hle (show ObjOk X.prog X.w _ _ _ (.lst xs.reverse) from ⟨by rw [List.length_reverse]; exact hz, acc.toList, c, RT.vals_rev rv hi, ?_⟩), rfl, q _ (I1.hok.fresh hle)⟩
  rw [Array.toArray_toList]
  exact hS
end
/-! ### readings under names of their own -/
def rISub : R2 := rI0 fun i j => .int (i - j)
def rIMod : R2 := rI (fun _ j => 0 < j) fun i j => .int (i % j)
def rIDiv : R2 := rI CDiv fun i j => .int (i / j)
def rIPow : R2 := rI CPow fun i j => .int (i ^ j.toNat)
def rINeg : V → Hp → VK → Prop := rU fun i => .int (-i)
def rAbs : List V → Hp → VK → Prop := fun xs H Q => ∃ i, xs = [.int i] ∧ Q (.int (if i < 0 then -i else i)) H
def rMax2 : List V → Hp → VK → Prop := fun xs H Q => ∃ i j, xs = [.int i, .int j] ∧ Q (.int (if j > i then j else i)) H
def rMin2 : List V → Hp → VK → Prop := fun xs H Q => ∃ i j, xs = [.int i, .int j] ∧ Q (.int (if j < i then j else i)) H
def rInt : List V → Hp → VK → Prop := fun xs H Q => (∃ i, xs = [.int i] ∧ Q (.int i) H) ∨ ∃ k, xs = [.bl k] ∧ Q (.int (if k then 1 else 0)) H
def rTupleOf (K : PySem.W.Frag) : List V → Hp → VK → Prop := fun xs H Q => ∃ p ys, xs = [.ref p] ∧ ((SqL K H p ys ∧ ∀ l, H l = none → Q (.ref l) (upd H l (.tup ys))) ∨ (SqT K H p ys ∧ Q (.ref p) H))
def rListOf (K : PySem.W.Frag) : List V → Hp → VK → Prop := fun xs H Q => ∃ p ys, xs = [.ref p] ∧ (SqL K H p ys ∨ SqT K H p ys) ∧ ∀ l, H l = none → Q (.ref l) (upd H l (.lst ys))
def rInsert : V → List V → Hp → VK → Prop := fun x vs H Q => ∃ (l : Addr) (xs : List V) (i : Int) (y : V), x = .ref l ∧ vs = [.int i, y] ∧ H l = some (.lst xs) ∧ xs.length < sizeLine ∧ 0 ≤ i ∧ i < 2 ^ 63 ∧ Q .non (upd H l (.lst (xs.take i.toNat ++ [y] ++ xs.drop i.toNat)))
def uLen (K : PySem.W.Frag) : List V → Hp → VK → Prop := fun xs H Q => ∃ x n, xs = [x] ∧ LenV K x H n ∧ Q (.int n) H
def uAdd (K : PySem.W.Frag) : R2 := fun x y H Q => rI0 (fun i j => .int (i + j)) x y H Q ∨ (∃ i j, x = .str i ∧ y = .str j ∧ i.length + j.length ≤ sizeLine ∧ Q (.str (i ++ j)) H) ∨ rCat x y H Q ∨ rCatA K x y H Q
def uMul : R2 := fun x y H Q => rI CMul (fun i j => .int (i * j)) x y H Q ∨ rRep x y H Q
def uEq (K : PySem.W.Frag) : R2 := fun x y H Q => rEq x y H Q ∨ rEqD K x y H Q
def uNe (K : PySem.W.Frag) : R2 := fun x y H Q => rNe x y H Q ∨ rNeD K x y H Q
def uLt (_ : PySem.W.Frag) : R2 := rI0 fun i j => .bl (decide (i < j))
def uLe (_ : PySem.W.Frag) : R2 := rI0 fun i j => .bl (decide (i ≤ j))
def uGt (_ : PySem.W.Frag) : R2 := rI0 fun i j => .bl (decide (j < i))
def uGe (_ : PySem.W.Frag) : R2 := rI0 fun i j => .bl (decide (j ≤ i))
def uIs : R2 := fun x y H Q => y = .non ∧ Q (.bl (decide (x = .non))) H
def uIsNot : R2 := fun x y H Q => y = .non ∧ Q (.bl (!decide (x = .non))) H
def uIn (K : PySem.W.Frag) : R2 := fun x y H Q => rIn K false x y H Q ∨ rInD K x y H Q
def uNotIn (K : PySem.W.Frag) : R2 := fun x y H Q => rIn K true x y H Q ∨ rNotInD K x y H Q
def uSl (K : PySem.W.Frag) : V → Option Int → Option Int → Hp → VK → Prop := fun x lo hi H Q => rSlL K x lo hi H Q ∨ rSlA K x lo hi H Q
def tTru (K : PySem.W.Frag) (ta : TE) : TT := fun σ H Q => ta σ H fun x H' => ∃ k, TruV K x H' k ∧ Q k H'
def tRaiseN (W : WX) (C : Addr) : TS := fun _ σ H => W (.ref C) none σ H
def tTryAs (K : PySem.W.Frag) (c : Value) (i : Nat) (tb : WX → TS) (ts : Addr → Value → Option Addr → TS) (Wout : WX) : TS := fun D σ H => tb (wAs K c i ts Wout D) D σ H
section
variable {X : Cx}
theorem u_len : CallR X (.builtin "len") (uLen X.K) := call_len
theorem u_add : OpR X (binaryOp .Add) (uAdd X.K) := op_add.or (op_add_str.or (op_cat.or op_catA))
theorem u_mul : OpR X (binaryOp .Mult) uMul := op_mul.or op_rep
theorem u_eq {k : Nat} (hr : Room k X.A) : OpR X (compareOp .Eq) (uEq X.K) := op_eq.or (op_eqD hr.units)
theorem u_ne {k : Nat} (hr : Room k X.A) : OpR X (compareOp .NotEq) (uNe X.K) := op_ne.or (op_neD hr.units)
theorem u_lt : OpR X (compareOp .Lt) (uLt X.K) := op_lt
theorem u_le : OpR X (compareOp .LtE) (uLe X.K) := op_le
theorem u_gt : OpR X (compareOp .Gt) (uGt X.K) := op_gt
theorem u_ge : OpR X (compareOp .GtE) (uGe X.K) := op_ge
theorem u_is : OpR X (compareOp .Is) uIs := op_isN
theorem u_isnot : OpR X (compareOp .IsNot) uIsNot := op_notN
theorem room65 {k : Nat} {A : Around} (hr : Room k A) : A.units + 65 < cLine := by have := hr.un; omega
theorem u_in {k : Nat} (hr : Room k X.A) : OpR X (compareOp .In) (uIn X.K) := op_in_seq.or (op_inD (room65 hr))
theorem u_notin {k : Nat} (hr : Room k X.A) : OpR X (compareOp .NotIn) (uNotIn X.K) := op_notIn_seq.or (op_notInD (room65 hr))
theorem u_sl : SlR X (uSl X.K) := sl_list.or sl_tupA
theorem u_eqH {k : Nat} (hr : L2H.RoomH k X.A) : OpR X (compareOp .Eq) (uEq X.K) := op_eq.or (op_eqD (by have := hr.un; omega))
theorem pt_tru {a : Expr} {ta : TE} (ha : PE X a ta) (he : ∀ whole, isTrue a X.env whole = (do let v ← whole; standAt a.pos; holding [v] (truthy v)) := by intro _; rfl) : PT X a (tTru X.K ta) := pt_truth ha he
theorem takesN0 : L2N.Takes X (fun _ _ _ _ => False) := fun _ _ h => by
  obtain ⟨_, _, _, _, _, _, _, _, _, _, _, _, _, _, _, _, z⟩ := h
  exact z.elim
theorem tkN {E : XK} (hs : X.stack = X.env :: X.outer) (hf : X.env.frame = some X.env.locals) (hex : X.ex = []) {E₁ : Value → Shared → Prop}
    (hx : X.xe = fun e s' => wpAny (model X.prog X.w) X.A (leaving X.env e) (fun _ s'' => L2N.CX X.prog X.w X.outer X.H_0 X.s_0 E e s'') E₁ s') : L2N.Takes X (fun cls d _ H => E cls d H) := L2N.takes_of hs hf hex hx
end
/-! ### what the top has written, def by def -/
structure FnAt (K : PySem.W.Frag) (mg : Str → Option Value) (x : Str) (st : Stmt) (ps : List Str) where
  a : Addr
  fd : FuncData
  F : Fun K x x st a fd
  b : Binds K fd ps []
  g : mg x = some (.ref a)
structure MeAt (K : PySem.W.Frag) (C : Addr) (x qual : Str) (st : Stmt) (ps : List Str) where
  a : Addr
  fd : FuncData
  F : Fun K x qual st a fd
  b : Binds K fd ps []
  m : Meth K C x a
structure InAt (K : PySem.W.Frag) (mg : Str → Option Value) (C : Addr) (x qual : Str) (st : Stmt) (ps : List Str) where
  a : Addr
  fd : FuncData
  F : Fun K "__init__" qual st a fd
  b : Binds K fd ps []
  made : Mk K C a
  cl : Cls K C
  g : mg x = some (.ref C)
/-- an exception's class -/
structure ExAt (K : PySem.W.Frag) (mg : Str → Option Value) (x : Str) (C : Addr) : Prop where
  ex : PySem.W.excIn K C [.type "ValueError", .type "Exception", .type "BaseException", .type "object"] "ValueError.__new__" = true
  g : mg x = some (.ref C)
  k : PySem.W.keepIn K (.ref C) = true
  b : PySem.W.subIn K (.ref C) (.type "BaseException") = some true
  t : PySem.W.typeIn K (.ref C) = some (.type "type")
  e : ExcC K C
structure CoAt (K : PySem.W.Frag) (mg : Str → Option Value) (x : Str) (v : V) : Prop where
  ex : ∃ u, mg x = some u ∧ RelV v u
/-! ### readings that reckon: by cases of what stands, so that simp goes through them -/
section
variable {X : Cx}
theorem peI {e : Expr} {t u : TE} (h : PE X e t) (i : ∀ σ H Q, u σ H Q → t σ H Q) : PE X e u := ⟨fun pins s σ H Q I q => h.run pins s σ H Q I (i σ H Q q)⟩
theorem ptI {e : Expr} {t u : TT} (h : PT X e t) (i : ∀ σ H Q, u σ H Q → t σ H Q) : PT X e u := ⟨fun pins s σ H Q I q => h.run pins s σ H Q I (i σ H Q q)⟩
theorem psI {e : Stmt} {t u : TS} (h : PS X e t) (i : ∀ D σ H, u D σ H → t D σ H) : PS X e u := ⟨fun pins s σ H D I q => h.run pins s σ H D I (i D σ H q)⟩
theorem pgI {e : Expr} {t u : TG} (h : PG X e t) (i : ∀ v σ H Q, u v σ H Q → t v σ H Q) : PG X e u := ⟨fun pins s σ H v w Q I r q => h.run pins s σ H v w Q I r (i v σ H Q q)⟩
theorem pgsI {e : List Expr} {t u : TGs} (h : PGs X e t) (i : ∀ v σ H Q, u v σ H Q → t v σ H Q) : PGs X e u := ⟨fun pins s σ H v w Q I r q => h.run pins s σ H v w Q I r (i v σ H Q q)⟩
theorem opM {f : Value → Value → Sem Value} {r r' : R2} (h : OpR X f r) (i : ∀ x y H Q, r' x y H Q → r x y H Q) : OpR X f r' := fun pins s σ H x y v u Q I rx ry q => h pins s σ H x y v u Q I rx ry (i x y H Q q)
theorem ixM {r r' : R2} (h : IxR X r) (i : ∀ x y H Q, r' x y H Q → r x y H Q) : IxR X r' := fun va sl pins s σ H x y v u Q I rx ry q z => h va sl pins s σ H x y v u Q I rx ry (i x y H Q q) z
theorem unM {f : Value → Sem Value} {r r' : V → Hp → VK → Prop} (h : UnR X f r) (i : ∀ x H Q, r' x H Q → r x H Q) : UnR X f r' := fun pins s σ H x v Q I rx q => h pins s σ H x v Q I rx (i x H Q q)
theorem caM {f : Value} {r r' : List V → Hp → VK → Prop} (h : CallR X f r) (i : ∀ x H Q, r' x H Q → r x H Q) : CallR X f r' := fun pins s σ H xs us Q I rx q => h pins s σ H xs us Q I rx (i xs H Q q)
theorem mtM {id : String} {r r' : V → List V → Hp → VK → Prop} (h : MtR X id r) (i : ∀ x xs H Q, r' x xs H Q → r x xs H Q) : MtR X id r' := fun pins s σ H x xs v us Q I rx rxs q => h pins s σ H x xs v us Q I rx rxs (i x xs H Q q)
/-- what is wanted may be weakened -/
def mE (t : TE) : TE := fun σ H Q => ∃ P : VK, t σ H P ∧ ∀ v H', P v H' → Q v H'
def mT (t : TT) : TT := fun σ H Q => ∃ P : Bool → Hp → Prop, t σ H P ∧ ∀ v H', P v H' → Q v H'
def mA (t : TA) : TA := fun σ H Q => ∃ P : List V → Hp → Prop, t σ H P ∧ ∀ v H', P v H' → Q v H'
theorem peM {e : Expr} {t : TE} (h : PE X e t) : PE X e (mE t) := ⟨fun pins s σ H Q I q => by
  obtain ⟨P, q, i⟩ := q
  refine thn (h.run pins s σ H P I q) fun v s1 hh => ?_
  obtain ⟨x, H1, I1, r1, q1⟩ := hh
  exact ⟨x, H1, I1, r1, i _ _ q1⟩⟩
theorem ptM {e : Expr} {t : TT} (h : PT X e t) : PT X e (mT t) := ⟨fun pins s σ H Q I q => by
  obtain ⟨P, q, i⟩ := q
  refine thn (h.run pins s σ H P I q) fun v s1 hh => ?_
  obtain ⟨H1, I1, q1⟩ := hh
  exact ⟨H1, I1, i _ _ q1⟩⟩
theorem paM {e : List Expr} {t : TA} (h : PA X e t) : PA X e (mA t) := ⟨fun pos pins s σ H Q I q => by
  obtain ⟨P, q, i⟩ := q
  refine thn (h.run pos pins s σ H P I q) fun v s1 hh => ?_
  obtain ⟨x, H1, I1, r1, q1⟩ := hh
  exact ⟨x, H1, I1, r1, i _ _ q1⟩⟩
end
/-- a name's slot -/
def dVar (i : Nat) : TE := fun σ H Q => match σ[i]? with
  | some (some v) => Q v H
  | _ => False
/-- what stands as a list, as a tuple -/
def lstAt (o : Option HO) (k : List V → Prop) : Prop := match o with
  | some (.lst xs) => k xs
  | some (.frz _ (.lst xs)) => k xs
  | _ => False
def tupAt (o : Option HO) (k : List V → Prop) : Prop := match o with
  | some (.tup xs) => k xs
  | some (.frz _ (.tup xs)) => k xs
  | _ => False
def seqAt (o : Option HO) (k : List V → Prop) : Prop := match o with
  | some (.lst xs) => k xs
  | some (.tup xs) => k xs
  | some (.frz _ (.lst xs)) => k xs
  | some (.frz _ (.tup xs)) => k xs
  | _ => False
theorem lstAt_sq {K : PySem.W.Frag} {H : Hp} {a : Addr} {k : List V → Prop} (h : lstAt (H a) k) : ∃ xs, SqL K H a xs ∧ k xs := by
  unfold lstAt at h
  split at h
  · rename_i xs e
    exact ⟨xs, .inl (.inl e), h⟩
  · rename_i o xs e
    exact ⟨xs, .inl (.inr ⟨o, e⟩), h⟩
  · exact h.elim
theorem tupAt_sq {K : PySem.W.Frag} {H : Hp} {a : Addr} {k : List V → Prop} (h : tupAt (H a) k) : ∃ xs, SqT K H a xs ∧ k xs := by
  unfold tupAt at h
  split at h
  · rename_i xs e
    exact ⟨xs, .inl (.inl e), h⟩
  · rename_i o xs e
    exact ⟨xs, .inl (.inr ⟨o, e⟩), h⟩
  · exact h.elim
theorem seqAt_sq {K : PySem.W.Frag} {H : Hp} {a : Addr} {k : List V → Prop} (h : seqAt (H a) k) : ∃ xs, (SqL K H a xs ∨ SqT K H a xs) ∧ k xs := by
  unfold seqAt at h
  split at h
  · rename_i xs e
    exact ⟨xs, .inl (.inl (.inl e)), h⟩
  · rename_i xs e
    exact ⟨xs, .inr (.inl (.inl e)), h⟩
  · rename_i o xs e
    exact ⟨xs, .inl (.inl (.inr ⟨o, e⟩)), h⟩
  · rename_i o xs e
    exact ⟨xs, .inr (.inl (.inr ⟨o, e⟩)), h⟩
  · exact h.elim
def dAdd : R2 := fun x y H Q => match x, y with
  | .int i, .int j => Q (.int (i + j)) H
  | .str i, .str j => i.length + j.length ≤ sizeLine ∧ Q (.str (i ++ j)) H
  | .ref a, .ref b => match H a, H b with
    | some (.lst xs), some (.lst ys) => xs.length + ys.length ≤ sizeLine ∧ ∀ p, H p = none → Q (.ref p) (upd H p (.lst (xs ++ ys)))
    | _, _ => False
  | _, _ => False
def dI2 (f : Int → Int → V) : R2 := fun x y H Q => match x, y with
  | .int i, .int j => Q (f i j) H
  | _, _ => False
def dI2C (C : Int → Int → Prop) (f : Int → Int → V) : R2 := fun x y H Q => match x, y with
  | .int i, .int j => C i j ∧ Q (f i j) H
  | _, _ => False
def dSub : R2 := dI2 fun i j => .int (i - j)
def dMod : R2 := dI2C (fun _ j => 0 < j) fun i j => .int (i % j)
def dDiv : R2 := dI2C CDiv fun i j => .int (i / j)
def dPow : R2 := dI2C CPow fun i j => .int (i ^ j.toNat)
def dLt : R2 := dI2 fun i j => .bl (decide (i < j))
def dLe : R2 := dI2 fun i j => .bl (decide (i ≤ j))
def dGt : R2 := dI2 fun i j => .bl (decide (j < i))
def dGe : R2 := dI2 fun i j => .bl (decide (j ≤ i))
def dMul : R2 := fun x y H Q => match x, y with
  | .int i, .int j => CMul i j ∧ Q (.int (i * j)) H
  | .ref a, .int k => match H a with
    | some (.lst xs) => -(2 ^ 63) ≤ k ∧ k < 2 ^ 63 ∧ xs.length * k.toNat ≤ sizeLine ∧ ∀ p, H p = none → Q (.ref p) (upd H p (.lst (List.replicate k.toNat xs).flatten))
    | _ => False
  | _, _ => False
/-- scalars alone -/
def dEq : R2 := fun x y H Q => match x, y with
  | .int i, .int j => Q (.bl (decide (i = j))) H
  | .str i, .str j => Q (.bl (decide (i = j))) H
  | .bl i, .bl j => Q (.bl (decide (i = j))) H
  | .non, .non => Q (.bl true) H
  | _, _ => scal x y = true ∧ Q (.bl (decide (x = y))) H
def dNe : R2 := fun x y H Q => dEq x y H fun v H' => match v with
  | .bl b => Q (.bl (!b)) H'
  | _ => False
/-- data -/
def dEqD (K : PySem.W.Frag) : R2 := rEqD K
def dNeD (K : PySem.W.Frag) : R2 := rNeD K
def isNon : V → Bool
  | .non => true
  | _ => false
def dIs : R2 := fun x y H Q => match y with
  | .non => Q (.bl (isNon x)) H
  | _ => False
def dIsNot : R2 := fun x y H Q => match y with
  | .non => Q (.bl (!isNon x)) H
  | _ => False
def dNeg : V → Hp → VK → Prop := fun x H Q => match x with
  | .int i => Q (.int (-i)) H
  | _ => False
def dAbs : List V → Hp → VK → Prop := fun xs H Q => match xs with
  | [.int i] => Q (.int (if i < 0 then -i else i)) H
  | _ => False
def dMax2 : List V → Hp → VK → Prop := fun xs H Q => match xs with
  | [.int i, .int j] => Q (.int (if j > i then j else i)) H
  | _ => False
def dMin2 : List V → Hp → VK → Prop := fun xs H Q => match xs with
  | [.int i, .int j] => Q (.int (if j < i then j else i)) H
  | _ => False
def dInt : List V → Hp → VK → Prop := fun xs H Q => match xs with
  | [.int i] => Q (.int i) H
  | [.bl k] => Q (.int (if k then 1 else 0)) H
  | _ => False
def dLen : List V → Hp → VK → Prop := fun xs H Q => match xs with
  | [.ref p] => seqAt (H p) fun ys => Q (.int ys.length) H
  | [.str z] => z.length ≤ sizeLine ∧ Q (.int z.length) H
  | _ => False
/-- list(x) -/
def dListOf : List V → Hp → VK → Prop := fun xs H Q => match xs with
  | [.ref p] => seqAt (H p) fun ys => ∀ l, H l = none → Q (.ref l) (upd H l (.lst ys))
  | _ => False
def dTupleOf : List V → Hp → VK → Prop := fun xs H Q => match xs with
  | [.ref p] => match H p with
    | some (.lst ys) => ∀ l, H l = none → Q (.ref l) (upd H l (.tup ys))
    | some (.tup _) => Q (.ref p) H
    | _ => False
  | _ => False
/-- an item by its place -/
def atK (xs : List V) (i : Int) (k : V → Prop) : Prop := match atI xs i with
  | some v => k v
  | none => False
def dIx : R2 := fun x y H Q => match x, y with
  | .ref p, .int i => seqAt (H p) fun xs => atK xs i fun v => Q v H
  | _, _ => False
def dFld (C : Addr) (ta : TE) (f : Str) : TE := fun σ H Q => ta σ H fun x H1 => match x with
  | .ref a => match H1 a with
    | some (.ins C' _ fs) => C' = C ∧ match fs.lookup f with
      | some v => Q v H1
      | none => False
    | _ => False
  | _ => False
def dSFld (C : Addr) (ta tv : TE) (f : Str) : TS := fun D σ H => tv σ H fun y H1 => ta σ H1 fun x H2 => match x with
  | .ref a => match H2 a with
    | some (.ins C' dx fs) => C' = C ∧ fs.length < 1000 ∧ D.nx σ (upd H2 a (.ins C dx (putF f y fs)))
    | _ => False
  | _ => False
/-- o.f op= e, ints: op by g -/
def dSAug (C : Addr) (ta tv : TE) (g : Int → Int → Int) (f : Str) : TS := fun D σ H => ta σ H fun x H1 => match x with
  | .ref a => match H1 a with
    | some (.ins C' _ fs) => C' = C ∧ match fs.lookup f with
      | some (.int i) => tv σ H1 fun y H2 => match y with
        | .int j => match H2 a with
          | some (.ins C2 dx fs2) => C2 = C ∧ fs2.length < 1000 ∧ D.nx σ (upd H2 a (.ins C dx (putF f (.int (g i j)) fs2)))
          | _ => False
        | _ => False
      | _ => False
    | _ => False
  | _ => False
def dAug (i : Nat) (te : TE) (g : Int → Int → Int) : TS := fun D σ H => match σ[i]? with
  | some (some (.int x)) => te σ H fun y H1 => match y with
    | .int j => D.nx (σ.set i (some (.int (g x j)))) H1
    | _ => False
  | _ => False
def dTest (t : TE) : TT := fun σ H Q => t σ H fun x H' => match x with
  | .bl k => Q k H'
  | _ => False
/-- truth of what is a bool, an int, none, a list, a tuple -/
def dTru (ta : TE) : TT := fun σ H Q => ta σ H fun x H' => match x with
  | .bl k => Q k H'
  | .non => Q false H'
  | .int i => Q (i != 0) H'
  | .ref p => seqAt (H' p) fun xs => Q (!xs.isEmpty) H'
  | _ => False
def dAndV (ta tb : TE) : TE := fun σ H Q => ta σ H fun x H1 => match x with
  | .bl c => if c = true then tb σ H1 Q else Q (.bl false) H1
  | _ => False
def dOrV (ta tb : TE) : TE := fun σ H Q => ta σ H fun x H1 => match x with
  | .bl c => if c = true then Q (.bl true) H1 else tb σ H1 Q
  | _ => False
def dNotV (ta : TE) : TE := fun σ H Q => ta σ H fun x H1 => match x with
  | .bl c => Q (.bl (!c)) H1
  | _ => False
def dChain (r r' : R2) (ta tb tc : TE) : TE := fun σ H Q => ta σ H fun x H1 => tb σ H1 fun y H2 => r x y H2 fun z H3 => match z with
  | .bl k => if k = true then tc σ H3 fun w' H4 => r' y w' H4 Q else Q (.bl false) H3
  | _ => False
/-- methods of lists -/
def dAppend : V → List V → Hp → VK → Prop := fun x vs H Q => match x, vs with
  | .ref l, [y] => match H l with
    | some (.lst xs) => xs.length < sizeLine ∧ Q .non (upd H l (.lst (xs ++ [y])))
    | _ => False
  | _, _ => False
def dPop : V → List V → Hp → VK → Prop := fun x vs H Q => match x, vs with
  | .ref l, [] => match H l with
    | some (.lst xs) => match xs.getLast? with
      | some y => Q y (upd H l (.lst xs.dropLast))
      | none => False
    | _ => False
  | _, _ => False
/-- pop(i), 0 ≤ i -/
def dPopAt : V → List V → Hp → VK → Prop := fun x vs H Q => match x, vs with
  | .ref l, [.int i] => match H l with
    | some (.lst xs) => 0 ≤ i ∧ i < 2 ^ 63 ∧ match xs[i.toNat]? with
      | some y => Q y (upd H l (.lst (xs.eraseIdx i.toNat)))
      | none => False
    | _ => False
  | _, _ => False
def dInsert : V → List V → Hp → VK → Prop := fun x vs H Q => match x, vs with
  | .ref l, [.int i, y] => match H l with
    | some (.lst xs) => xs.length < sizeLine ∧ 0 ≤ i ∧ i < 2 ^ 63 ∧ Q .non (upd H l (.lst (xs.take i.toNat ++ [y] ++ xs.drop i.toNat)))
    | _ => False
  | _, _ => False
/-- a method of a list (a tracked one) -/
def dBM (r : V → List V → Hp → VK → Prop) (to : TE) (t : TA) : TE := fun σ H Q => to σ H fun x H1 => match x with
  | .ref l => match H1 l with
    | some (.lst _) => t σ H1 fun xs H2 => r x xs H2 Q
    | _ => False
  | _ => False
def dMethE (C : Addr) (m : Str) (sp : Sp) (E : L2.St → XK) (ta : TE) (t : TA) : TE := fun σ H Q => ta σ H fun x H1 => match x with
  | .ref a => match H1 a with
    | some (.ins C' _ fs) => C' = C ∧ fs.lookup m = none ∧ t σ H1 fun vs H2 => sp (x :: vs) H2 Q (E σ)
    | _ => False
  | _ => False
def dPar (i j : Nat) (ta : TA) : TS := fun D σ H => ta σ H fun vs H1 => match vs with
  | [v, w] => D.nx ((σ.set i (some v)).set j (some w)) H1
  | _ => False
def dPar3 (i j l : Nat) (ta : TA) : TS := fun D σ H => ta σ H fun vs H1 => match vs with
  | [u, v, w] => D.nx (((σ.set i (some u)).set j (some v)).set l (some w)) H1
  | _ => False
/-- targets -/
def dgTup (n : Nat) (t : TGs) : TG := fun v σ H Q => match v with
  | .ref a => tupAt (H a) fun xs => xs.length = n ∧ t xs σ H Q
  | _ => False
def dgCons (t : TG) (u : TGs) : TGs := fun vs σ H Q => match vs with
  | v :: r => t v σ H fun σ' H' => u r σ' H' Q
  | [] => False
def dgNil : TGs := fun vs σ H Q => match vs with
  | [] => Q σ H
  | _ => False
section
variable {X : Cx}
theorem dv (i : Nat) {x : Str} {pos : Pos} (hN : X.N[i]? = some x := by rfl) (hv : Vis X.env.scope x := by first | exact Or.inl rfl | exact Or.inr (Or.inl rfl) | exact Or.inr (Or.inr rfl)) (hd : (x == ("__debug__" : Str)) = false := by decide)
    (hcd : (x == ("__classdict__" : Str)) = false := by decide) : PE X (.Name x pos) (dVar i) := peI (pe_var hN hv hd hcd) fun σ H Q h => by
  unfold dVar at h
  split at h
  · rename_i v e
    exact ⟨v, e, h⟩
  · exact h.elim
theorem i2 {f : Int → Int → V} {op : Value → Value → Sem Value} (h : OpR X op (rI0 f)) : OpR X op (dI2 f) := opM h fun x y H Q q => by
  unfold dI2 at q
  split at q
  · exact ⟨_, _, rfl, rfl, q⟩
  · exact q.elim
theorem i2C {C : Int → Int → Prop} {f : Int → Int → V} {op : Value → Value → Sem Value} (h : OpR X op (rI C f)) : OpR X op (dI2C C f) := opM h fun x y H Q q => by
  unfold dI2C at q
  split at q
  · exact ⟨_, _, rfl, rfl, q.1, q.2⟩
  · exact q.elim
theorem d_sub : OpR X (binaryOp .Sub) dSub := i2 op_sub
theorem d_mod : OpR X (binaryOp .Mod) dMod := i2C op_mod
theorem d_div : OpR X (binaryOp .FloorDiv) dDiv := i2C op_fdiv
theorem d_pow : OpR X (binaryOp .Pow) dPow := i2C op_pow
theorem d_lt : OpR X (compareOp .Lt) dLt := i2 op_lt
theorem d_le : OpR X (compareOp .LtE) dLe := i2 op_le
theorem d_gt : OpR X (compareOp .Gt) dGt := i2 op_gt
theorem d_ge : OpR X (compareOp .GtE) dGe := i2 op_ge
theorem d_add : OpR X (binaryOp .Add) dAdd := opM (u_add (X := X)) fun x y H Q q => by
  unfold dAdd at q
  split at q
  · exact .inl ⟨_, _, rfl, rfl, q⟩
  · exact .inr (.inl ⟨_, _, rfl, rfl, q.1, q.2⟩)
  · split at q
    · rename_i h1 h2
      exact .inr (.inr (.inl ⟨_, _, _, _, rfl, rfl, h1, h2, q.1, q.2⟩))
    · exact q.elim
  · exact q.elim
theorem d_mul : OpR X (binaryOp .Mult) dMul := opM (u_mul (X := X)) fun x y H Q q => by
  unfold dMul at q
  split at q
  · exact .inl ⟨_, _, rfl, rfl, q.1, q.2⟩
  · split at q
    · rename_i h1
      exact .inr ⟨_, _, _, rfl, rfl, h1, q.1, q.2.1, q.2.2.1, q.2.2.2⟩
    · exact q.elim
  · exact q.elim
theorem dEq_r {x y : V} {H : Hp} {Q : VK} (q : dEq x y H Q) : rEq x y H Q := by
  unfold dEq at q
  split at q
  · refine ⟨rfl, ?_⟩
    rename_i i j
    have e : decide (V.int i = V.int j) = decide (i = j) := by simp
    rw [e]; exact q
  · refine ⟨rfl, ?_⟩
    rename_i i j
    have e : decide (V.str i = V.str j) = decide (i = j) := by simp
    rw [e]; exact q
  · refine ⟨rfl, ?_⟩
    rename_i i j
    have e : decide (V.bl i = V.bl j) = decide (i = j) := by simp
    rw [e]; exact q
  · exact ⟨rfl, q⟩
  · exact q
theorem d_eq : OpR X (compareOp .Eq) dEq := opM (op_eq (X := X)) fun x y H Q q => dEq_r q
theorem d_ne : OpR X (compareOp .NotEq) dNe := opM (op_ne (X := X)) fun x y H Q q => by
  obtain ⟨h1, h2⟩ := dEq_r (show dEq x y H _ from q)
  exact ⟨h1, h2⟩
theorem d_eqD {k : Nat} (hr : Room k X.A) : OpR X (compareOp .Eq) (dEqD X.K) := op_eqD hr.units
theorem d_neD {k : Nat} (hr : Room k X.A) : OpR X (compareOp .NotEq) (dNeD X.K) := op_neD hr.units
theorem d_is : OpR X (compareOp .Is) dIs := opM (op_isN (X := X)) fun x y H Q q => by
  unfold dIs at q
  split at q
  · refine ⟨rfl, ?_⟩
    have e : decide (x = V.non) = isNon x := by cases x <;> simp [isNon]
    rw [e]; exact q
  · exact q.elim
theorem d_isnot : OpR X (compareOp .IsNot) dIsNot := opM (op_notN (X := X)) fun x y H Q q => by
  unfold dIsNot at q
  split at q
  · refine ⟨rfl, ?_⟩
    have e : (!decide (x = V.non)) = !isNon x := by cases x <;> simp [isNon]
    rw [e]; exact q
  · exact q.elim
theorem d_neg : UnR X (unaryOp .USub) dNeg := unM (un_neg (X := X)) fun x H Q q => by
  unfold dNeg at q
  split at q
  · exact ⟨_, rfl, q⟩
  · exact q.elim
theorem d_abs : CallR X (.builtin "abs") dAbs := caM (call_abs (X := X)) fun xs H Q q => by
  unfold dAbs at q
  split at q
  · exact ⟨_, rfl, q⟩
  · exact q.elim
theorem d_max2 (hc : X.calm = true) : CallR X (.builtin "max") dMax2 := caM (call_max2 hc) fun xs H Q q => by
  unfold dMax2 at q
  split at q
  · exact ⟨_, _, rfl, q⟩
  · exact q.elim
theorem d_min2 (hc : X.calm = true) : CallR X (.builtin "min") dMin2 := caM (call_min2 hc) fun xs H Q q => by
  unfold dMin2 at q
  split at q
  · exact ⟨_, _, rfl, q⟩
  · exact q.elim
theorem d_int : CallR X (.type "int") dInt := caM (call_int1 (X := X)) fun xs H Q q => by
  unfold dInt at q
  split at q
  · exact .inl ⟨_, rfl, q⟩
  · exact .inr ⟨_, rfl, q⟩
  · exact q.elim
theorem d_len : CallR X (.builtin "len") dLen := caM (call_len (X := X)) fun xs H Q q => by
  unfold dLen at q
  split at q
  · obtain ⟨ys, h, k⟩ := seqAt_sq (K := X.K) q
    refine ⟨_, _, rfl, ?_, k⟩
    unfold LenV
    exact h.elim (fun h => .inl ⟨ys, h, rfl⟩) (fun h => .inr ⟨ys, h, rfl⟩)
  · exact ⟨_, _, rfl, ⟨q.1, rfl⟩, q.2⟩
  · exact q.elim
theorem d_listOf : CallR X (.type "list") dListOf := caM (call_list_of (X := X)) fun xs H Q q => by
  unfold dListOf at q
  split at q
  · obtain ⟨ys, h, k⟩ := seqAt_sq (K := X.K) q
    exact ⟨_, ys, rfl, h, k⟩
  · exact q.elim
theorem d_tupleOf : CallR X (.type "tuple") dTupleOf := caM (call_tuple_of (X := X)) fun xs H Q q => by
  unfold dTupleOf at q
  split at q
  · split at q
    · rename_i e
      exact ⟨_, _, rfl, .inl ⟨.inl (.inl e), q⟩⟩
    · rename_i e
      exact ⟨_, _, rfl, .inr ⟨.inl (.inl e), q⟩⟩
    · exact q.elim
  · exact q.elim
theorem d_ix : IxR X dIx := ixM (ix_seq (X := X)) fun x y H Q q => by
  unfold dIx at q
  split at q
  · obtain ⟨ys, h, k⟩ := seqAt_sq (K := X.K) q
    unfold atK at k
    split at k
    · rename_i e
      exact h.elim (fun h => .inl ⟨_, ys, _, _, rfl, rfl, h, e, k⟩) (fun h => .inr (.inl ⟨_, ys, _, _, rfl, rfl, h, e, k⟩))
    · exact k.elim
  · exact q.elim
variable {C : Addr} {e o a b c value : Expr} {es : List Expr} {ta tb tc tv te : TE} {t : TA} {f m : Str} {pos pos' tpos apos : Pos}
theorem d_fld (hc : Cls X.K C) (hn : NoAttr X.K C f) (he : PE X e ta) (hb : attributeBase e f X.env (eval e X.env) = eval e X.env := by rfl) : PE X (.Attribute e f pos) (dFld C ta f) :=
  peI (pe_fld (peM he) hb) fun σ H Q q1 => ⟨_, q1, fun v H' q2 => by
  split at q2
  · split at q2
    · rename_i h
      obtain ⟨e1, q2⟩ := q2
      subst e1
      split at q2
      · rename_i l
        exact ⟨_, _, _, _, _, rfl, h, hc, hn, l, q2⟩
      · exact q2.elim
    · exact q2.elim
  · exact q2.elim⟩
theorem d_sfld (hc : Cls X.K C) (hn : NoAttr X.K C f) (ha : PE X o ta) (hv : PE X value tv) (hs : swapsWith value (some (.Attribute o f pos')) pos.line X.env = pure false := by rfl) : PS X (.Assign [.Attribute o f pos'] value pos) (dSFld C ta tv f) :=
  psI (ps_fld (peM ha) (peM hv) hs) fun D σ H q1 => ⟨_, q1, fun y H1 q2 => ⟨_, q2, fun x H2 q3 => by
  split at q3
  · split at q3
    · rename_i h
      obtain ⟨e1, l, q3⟩ := q3
      subst e1
      exact ⟨_, _, _, _, rfl, h, hc, hn, l, q3⟩
    · exact q3.elim
  · exact q3.elim⟩⟩
theorem in_g {op : Operator} {g : Int → Int → Int} (h : OpR X (inplaceOp op) (rI0 fun i j => .int (g i j))) : InOp X op (fun x y H Q => ∃ i j, x = .int i ∧ y = .int j ∧ Q (.int (g i j)) H) := fun pins s σ H x y u v Q I rx ry q => h pins s σ H x y u v Q I rx ry q
theorem d_saug {op : Operator} {g : Int → Int → Int} (hop : OpR X (inplaceOp op) (rI0 fun i j => .int (g i j))) (hc : Cls X.K C) (hn : NoAttr X.K C f) (ha : PE X o ta) (hv : PE X value tv) : PS X (.AugAssign (.Attribute o f tpos) op value pos) (dSAug C ta tv g f) :=
  psI (ps_fldaug (peM ha) (peM hv) (in_g hop)) fun D σ H q1 => ⟨_, q1, fun x H1 q2 => by
  split at q2
  · split at q2
    · rename_i h
      obtain ⟨e1, q3⟩ := q2
      subst e1
      split at q3
      · rename_i l
        refine ⟨_, _, _, _, _, rfl, h, hc, hn, l, _, q3, fun y H2 q4 => ?_⟩
        split at q4
        · split at q4
          · rename_i h2
            obtain ⟨e2, l2, q5⟩ := q4
            subst e2
            exact ⟨_, _, rfl, rfl, _, _, h2, l2, q5⟩
          · exact q4.elim
        · exact q4.elim
      · exact q3.elim
    · exact q2.elim
  · exact q2.elim⟩
theorem ip_g {op : Operator} {g : Int → Int → Int} (h : OpR X (inplaceOp op) (rI0 fun i j => .int (g i j))) : PIp X op (ipI g) := fun pins s σ H x y v u Q I r1 r2 q => h pins s σ H x y v u Q I r1 r2 q
theorem d_aug {i : Nat} {x : Str} {op : Operator} {g : Int → Int → Int} {pos' : Pos} (hop : OpR X (inplaceOp op) (rI0 fun i j => .int (g i j))) (hN : X.N.Nodup) (hi : X.N[i]? = some x) (hx : Loc X.env.scope x) (he : PE X e te) (hf : X.fn x = true ∨ X.env.scope.names.lookup x = some .local := by first | exact .inl rfl | exact .inr rfl | assumption) :
    PS X (.AugAssign (.Name x pos') op e pos) (dAug i te g) := psI (ps_aug hN hi hx (peM he) (ip_g hop) hf) fun D σ H q1 => by
  unfold dAug at q1
  split at q1
  · rename_i x h
    refine ⟨_, h, _, q1, fun y H1 q2 => ?_⟩
    split at q2
    · exact ⟨_, _, rfl, rfl, q2⟩
    · exact q2.elim
  · exact q1.elim
theorem opMono {f : Value → Value → Sem Value} {r : R2} (ho : OpR X f r) : OpR X f (fun x y H Q => ∃ P : VK, r x y H P ∧ ∀ v H', P v H' → Q v H') := fun pins s σ H x y v u Q I rx ry q => by
  obtain ⟨P, q, i⟩ := q
  refine thn (ho pins s σ H x y v u P I rx ry q) fun w s1 hh => ?_
  obtain ⟨x1, H1, I1, r1, q1⟩ := hh
  exact ⟨x1, H1, I1, r1, i _ _ q1⟩
theorem dt_cmp {op : CmpOp} {r : R2} (ho : OpR X (compareOp op) r) (ha : PE X a ta) (hb : PE X b tb) (hm : behindInMarks op b = false) : PT X (.Compare a [op] [b] pos) (dTest (tOp r ta tb)) :=
  ptI (pt_cmpR (opMono ho) (peM ha) (peM hb) hm) fun σ H Q q1 => ⟨_, q1, fun x H1 q2 => ⟨_, q2, fun y H2 q3 => ⟨_, q3, fun v H' q4 => by
    split at q4
    · exact ⟨_, rfl, q4⟩
    · exact q4.elim⟩⟩⟩
theorem dt_tru (ha : PE X a ta) (he : ∀ whole, isTrue a X.env whole = (do let v ← whole; standAt a.pos; holding [v] (truthy v)) := by intro _; rfl) : PT X a (dTru ta) :=
  ptI (pt_truth (peM ha) he) fun σ H Q q1 => ⟨_, q1, fun v H' q2 => by
    split at q2
    · exact ⟨_, rfl, q2⟩
    · exact ⟨_, rfl, q2⟩
    · exact ⟨_, rfl, q2⟩
    · obtain ⟨xs, h, k⟩ := seqAt_sq (K := X.K) q2
      exact ⟨_, h.elim (fun h => .inl ⟨xs, h, rfl⟩) (fun h => .inr (.inl ⟨xs, h, rfl⟩)), k⟩
    · exact q2.elim⟩
theorem d_and {rest : List Expr} (ha : PE X a ta) (hb : PE X (.BoolOp .And (b :: rest) pos) tb) : PE X (.BoolOp .And (a :: b :: rest) pos) (dAndV ta tb) :=
  peI (pe_and (peM ha) hb) fun σ H Q q1 => ⟨_, q1, fun v H' q2 => by
    split at q2
    · exact ⟨_, rfl, q2⟩
    · exact q2.elim⟩
theorem d_or {rest : List Expr} (ha : PE X a ta) (hb : PE X (.BoolOp .Or (b :: rest) pos) tb) : PE X (.BoolOp .Or (a :: b :: rest) pos) (dOrV ta tb) :=
  peI (pe_or (peM ha) hb) fun σ H Q q1 => ⟨_, q1, fun v H' q2 => by
    split at q2
    · exact ⟨_, rfl, q2⟩
    · exact q2.elim⟩
theorem d_not (ha : PE X a ta) : PE X (.UnaryOp .Not a pos) (dNotV ta) :=
  peI (pe_not (peM ha)) fun σ H Q q1 => ⟨_, q1, fun v H' q2 => by
    split at q2
    · exact ⟨_, rfl, q2⟩
    · exact q2.elim⟩
theorem d_chain {op op' : CmpOp} {r r' : R2} (ho : OpR X (compareOp op) r) (ho' : OpR X (compareOp op') r') (ha : PE X a ta) (hb : PE X b tb) (hc : PE X c tc)
    (hm : lastMarks [op, op'] [b, c] = false := by with_unfolding_all rfl) : PE X (.Compare a [op, op'] [b, c] pos) (dChain r r' ta tb tc) :=
  peI (pe_chain (opMono ho) ho' (peM ha) (peM hb) hc hm) fun σ H Q q1 => ⟨_, q1, fun x H1 q2 => ⟨_, q2, fun y H2 q3 => ⟨_, q3, fun z H3 q4 => by
    split at q4
    · exact ⟨_, rfl, q4⟩
    · exact q4.elim⟩⟩⟩
theorem dt_chain {op op' : CmpOp} {r r' : R2} (ho : OpR X (compareOp op) r) (ho' : OpR X (compareOp op') r') (ha : PE X a ta) (hb : PE X b tb) (hc : PE X c tc)
    (hm : lastMarks [op, op'] [b, c] = false := by with_unfolding_all rfl) : PT X (.Compare a [op, op'] [b, c] pos) (dTest (dChain r r' ta tb tc)) :=
  ptI (pt_chain (opMono ho) (opMono ho') (peM ha) (peM hb) (peM hc) hm) fun σ H Q q1 => ⟨_, q1, fun x H1 q2 => ⟨_, q2, fun y H2 q3 => ⟨_, q3, fun z H3 q4 => by
    split at q4
    · rename_i k
      refine ⟨_, rfl, ?_⟩
      cases k with
      | true =>
        rw [if_pos rfl] at q4 ⊢
        refine ⟨_, q4, fun w H4 q5 => ⟨_, q5, fun v H5 q6 => ?_⟩⟩
        split at q6
        · exact ⟨_, rfl, q6⟩
        · exact q6.elim
      | false => exact ⟨_, rfl, q4⟩
    · exact q4.elim⟩⟩⟩
theorem m_append : MtR X "list.append" dAppend := mtM (mt_append (X := X)) fun x xs H Q q => by
  unfold dAppend at q
  split at q
  · split at q
    · rename_i h
      exact ⟨_, _, _, rfl, rfl, h, q.1, q.2⟩
    · exact q.elim
  · exact q.elim
theorem m_pop : MtR X "list.pop" dPop := mtM (mt_pop (X := X)) fun x xs H Q q => by
  unfold dPop at q
  split at q
  · split at q
    · rename_i h
      split at q
      · rename_i e
        exact ⟨_, _, _, rfl, rfl, h, by rw [← List.getLast?_eq_getElem?]; exact e, q⟩
      · exact q.elim
    · exact q.elim
  · exact q.elim
theorem m_popAt : MtR X "list.pop" dPopAt := mtM (mt_popAt (X := X)) fun x xs H Q q => by
  unfold dPopAt at q
  split at q
  · split at q
    · rename_i h
      obtain ⟨h0, h1, q⟩ := q
      split at q
      · rename_i i _ ys _ y e
        have hl := (List.getElem?_eq_some_iff.mp e).1
        exact ⟨_, _, _, i.toNat, _, rfl, rfl, h, by omega, h1, (ixN_seq (n := ys.length) (i := i) (j := i.toNat) (by unfold ixN; rw [if_pos h0, if_pos (by omega)])).1, e, q⟩
      · exact q.elim
    · exact q.elim
  · exact q.elim
theorem m_insert : MtR X "list.insert" dInsert := mtM (mt_insert (X := X)) fun x xs H Q q => by
  unfold dInsert at q
  split at q
  · split at q
    · rename_i h
      exact ⟨_, _, _, _, rfl, rfl, h, q⟩
    · exact q.elim
  · exact q.elim
theorem d_bm {name id : String} {r : V → List V → Hp → VK → Prop} {cpos : Pos} (pa : PlainAttrs "list") (slot : Slot "list" name id) (hty : typeOf (.builtin id) = pure (.type "method_descriptor")) (hm : MtR X id r) (ho : PE X o ta) (ha : PA X (e :: es) t)
    (hbase : attributeBase o name X.env (eval o X.env) = eval o X.env := by rfl)
    (hfew : ((backTo cpos (starEach (e :: es) X.env)).all (fun x => !x.1) && (backToKw cpos (keywordEach [] X.env)).all (fun x => x.1.isSome)
      && decide ((e :: es).length + ([] : List Keyword).length + (if ([] : List Keyword).isEmpty then 0 else 1) < 30)) = true := by rfl)
    (hline : (apos.endLine == cpos.line) = true := by rfl) (hs : starEach (e :: es) X.env = (false, eval e X.env) :: starEach es X.env := by rfl) (hplain : (backTo cpos (starEach es X.env)).any (·.1) = false := by rfl) : PE X (.Call (.Attribute o name apos) (e :: es) [] cpos) (dBM r ta t) :=
  peI (pe_bm pa slot hty hm (peM ho) ha hbase hfew hline hs hplain) fun σ H Q q1 => ⟨_, q1, fun v H' q2 => by
    split at q2
    · split at q2
      · rename_i h
        exact ⟨Or.inl ⟨rfl, _, SqL.of h⟩, q2⟩
      · exact q2.elim
    · exact q2.elim⟩
end
section
variable {X : Cx} {C : Addr} {e o a b c value : Expr} {es : List Expr} {ta tb tc tv te : TE} {t : TA} {f m : Str} {pos pos' tpos apos : Pos}
def dBM0 (r : V → List V → Hp → VK → Prop) (to : TE) : TE := fun σ H Q => to σ H fun x H1 => match x with
  | .ref l => match H1 l with
    | some (.lst _) => r x [] H1 Q
    | _ => False
  | _ => False
theorem d_bm0 {name id : String} {r : V → List V → Hp → VK → Prop} {cpos : Pos} (pa : PlainAttrs "list") (slot : Slot "list" name id) (hty : typeOf (.builtin id) = pure (.type "method_descriptor")) (hm : MtR X id r) (ho : PE X o ta)
    (hbase : attributeBase o name X.env (eval o X.env) = eval o X.env := by rfl) (hline : (apos.endLine == cpos.line) = true := by rfl) : PE X (.Call (.Attribute o name apos) [] [] cpos) (dBM0 r ta) :=
  peI (pe_bm0 pa slot hty hm (peM ho) hbase hline) fun σ H Q q1 => ⟨_, q1, fun v H' q2 => by
    split at q2
    · split at q2
      · rename_i h
        exact ⟨Or.inl ⟨rfl, _, SqL.of h⟩, q2⟩
      · exact q2.elim
    · exact q2.elim⟩
variable {CX : CXT} {k : Nat} {fa : Addr} {fd : FuncData} {ps : List Str} {sp : Sp} {E : L2.St → XK}
theorem d_meth {pl : Sem Bool} (he : PE X o ta) (c : Cls X.K C) (hm : Meth X.K C m fa) (F : FnOk X.prog X.w X.K X.mg X.base CX k fa fd ps sp) (hr : Room k X.A) (hb : Binds X.K fd ps []) (hx : ∀ σ, PassesAt CX X σ (E σ)) (ha : PA X (e :: es) t)
    (hst : starEach (e :: es) X.env = (false, eval e X.env) :: starEach es X.env := by rfl) (hpl : (backTo pos (starEach es X.env)).any (·.1) = false := by rfl)
    (ht : eval (.Call (.Attribute o m apos) (e :: es) [] pos) X.env = (do
      let ov ← eval o X.env
      standAt apos.atName
      let (f, first) ← holding [ov] (getMethod ov m pl)
      callWith pos f first (backTo pos (starEach (e :: es) X.env)) (backToKw pos (keywordEach [] X.env))) := by rfl) :
    PE X (.Call (.Attribute o m apos) (e :: es) [] pos) (dMethE C m sp E ta t) :=
  peI (c_meth (pl := pl) (peM he) c hm F hr hb hx ha hst hpl ht) fun σ H Q q1 => ⟨_, q1, fun v H' q2 => by
    split at q2
    · split at q2
      · rename_i h
        obtain ⟨e1, l, q3⟩ := q2
        subst e1
        exact ⟨_, _, _, rfl, h, l, q3⟩
      · exact q2.elim
    · exact q2.elim⟩
theorem d_meth0 {pl : Sem Bool} (he : PE X o ta) (c : Cls X.K C) (hm : Meth X.K C m fa) (F : FnOk X.prog X.w X.K X.mg X.base CX k fa fd ps sp) (hr : Room k X.A) (hb : Binds X.K fd ps []) (hx : ∀ σ, PassesAt CX X σ (E σ))
    (ht : eval (.Call (.Attribute o m apos) [] [] pos) X.env = (do
      let ov ← eval o X.env
      standAt apos.atName
      let (f, first) ← holding [ov] (getMethod ov m pl)
      callWith pos f first (backTo pos (starEach [] X.env)) (backToKw pos (keywordEach [] X.env))) := by rfl) :
    PE X (.Call (.Attribute o m apos) [] [] pos) (dMethE C m sp E ta tNil) :=
  peI (c_meth0 (pl := pl) (peM he) c hm F hr hb hx ht) fun σ H Q q1 => ⟨_, q1, fun v H' q2 => by
    split at q2
    · split at q2
      · rename_i h
        obtain ⟨e1, l, q3⟩ := q2
        subst e1
        exact ⟨_, _, _, rfl, h, l, q3⟩
      · exact q2.elim
    · exact q2.elim⟩
theorem d_par {i j : Nat} {x y : Str} {px py pt : Pos} {kt k2 pt2} (hc : X.calm = true) (hN : X.N.Nodup) (hi : X.N[i]? = some x) (hj : X.N[j]? = some y) (hij : i ≠ j)
    (hx : X.env.scope.names.lookup x = some .local) (hy : X.env.scope.names.lookup y = some .local) (ha : PA X [a, b] t)
    (hw : swappedStores [.Tuple [.Name x px, .Name y py] kt pt] (.Tuple [a, b] k2 pt2) X.env = pure (some [x, y]))
    (hs : swapsWithSole [.Tuple [.Name x px, .Name y py] kt pt] (.Tuple [a, b] k2 pt2) pos.line X.env = pure false := by rfl) :
    PS X (.Assign [.Tuple [.Name x px, .Name y py] kt pt] (.Tuple [a, b] k2 pt2) pos) (dPar i j t) :=
  psI (ps_par hc hN hi hj hij hx hy (paM ha) hw hs) fun D σ H q1 => ⟨_, q1, fun v H' q2 => by
    split at q2
    · exact ⟨_, _, rfl, q2⟩
    · exact q2.elim⟩
theorem d_par3 {i j l : Nat} {x y z : Str} {px py pz pt : Pos} {kt k2 pt2} (hc : X.calm = true) (hN : X.N.Nodup) (hi : X.N[i]? = some x) (hj : X.N[j]? = some y) (hl : X.N[l]? = some z) (hij : i ≠ j) (hil : i ≠ l) (hjl : j ≠ l)
    (hx : X.env.scope.names.lookup x = some .local) (hy : X.env.scope.names.lookup y = some .local) (hz : X.env.scope.names.lookup z = some .local) (ha : PA X [a, b, c] t)
    (hw : swappedStores [.Tuple [.Name x px, .Name y py, .Name z pz] kt pt] (.Tuple [a, b, c] k2 pt2) X.env = pure (some [x, y, z]))
    (hs : swapsWithSole [.Tuple [.Name x px, .Name y py, .Name z pz] kt pt] (.Tuple [a, b, c] k2 pt2) pos.line X.env = pure false := by rfl) :
    PS X (.Assign [.Tuple [.Name x px, .Name y py, .Name z pz] kt pt] (.Tuple [a, b, c] k2 pt2) pos) (dPar3 i j l t) :=
  psI (ps_par3 hc hN hi hj hl hij hil hjl hx hy hz (paM ha) hw hs) fun D σ H q1 => ⟨_, q1, fun v H' q2 => by
    split at q2
    · exact ⟨_, _, _, rfl, q2⟩
    · exact q2.elim⟩
theorem dg_nil : PGs X [] dgNil := pgsI pgs_nil fun vs σ H Q q1 => by
  unfold dgNil at q1
  split at q1
  · exact ⟨rfl, q1⟩
  · exact q1.elim
theorem dg_cons {ge : Expr} {ges : List Expr} {gt : TG} {gu : TGs} (h1 : PG X ge gt) (h2 : PGs X ges gu)
    (hs : (assignEach (ge :: ges) X.env).map (·.2) = assign ge X.env :: (assignEach ges X.env).map (·.2) := by rfl) : PGs X (ge :: ges) (dgCons gt gu) := pgsI (pgs_cons h1 h2 hs) fun vs σ H Q q1 => by
  unfold dgCons at q1
  split at q1
  · exact ⟨_, _, rfl, q1⟩
  · exact q1.elim
theorem dg_tup {ges : List Expr} {kk : Nat} {gt : TGs} {n : Nat} (hc : X.calm = true) (h : PGs X ges gt)
    (hn : (assignEach ges X.env).length = n := by rfl) (hst : (assignEach ges X.env).findIdx? (·.1) = none := by rfl) : PG X (.Tuple ges kk pos) (dgTup n gt) := pgI (pg_tup hc h hn hst) fun v σ H Q q1 => by
  unfold dgTup at q1
  split at q1
  · obtain ⟨xs, h1, h2, h3⟩ := tupAt_sq (K := X.K) q1
    exact ⟨_, xs, rfl, h1, h2, h3⟩
  · exact q1.elim
end
/-! ### loops -/
/-- what a for asks of what it walks -/
def ForJ (J : It) (g : TG) (tb : TS) : TS := fun D σ H => ∃ W : Nat → Nat → L2.St → Hp → Prop, (∃ m, W 0 m σ H) ∧ ∀ i m σ H, W i m σ H →
  (J.stop i H ∧ D.nx σ H) ∨ (J.go i H ∧ ∃ N : L2.St → Hp → Prop, (∀ σ' H', N σ' H' → ∃ m', m' < m ∧ W (i + 1) m' σ' H') ∧ ∀ x H', J.yld i H x H' → g x σ H' fun σ2 H2 => tb { D with nx := N, ct := N, bk := D.nx } σ2 H2)
def ForL (K : PySem.W.Frag) (a : Addr) (g : TG) (tb : TS) : TS := fun D σ H => (∃ xs, SqL K H a xs) ∧ ForJ (Itl K a) g tb D σ H
def ForT (K : PySem.W.Frag) (a : Addr) (g : TG) (tb : TS) : TS := fun D σ H => (∃ xs, SqT K H a xs) ∧ ForJ (Itt K a) g tb D σ H
def ForR (lo : Int) (n : Nat) (g : TG) (tb : TS) : TS := fun D σ H => ForJ (Itr lo n) g tb D σ H
def dForL (K : PySem.W.Frag) (tl : TE) (g : TG) (tb : TS) : TS := fun D σ H => tl σ H fun x H1 => match x with
  | .ref a => ForL K a g tb D σ H1
  | _ => False
def dForT (K : PySem.W.Frag) (tl : TE) (g : TG) (tb : TS) : TS := fun D σ H => tl σ H fun x H1 => match x with
  | .ref a => ForT K a g tb D σ H1
  | _ => False
def dForR1 (ta : TA) (g : TG) (tb : TS) : TS := fun D σ H => ta σ H fun vs H1 => match vs with
  | [.int j] => (-(2 ^ 62) ≤ j ∧ j < 2 ^ 62) ∧ ForR 0 j.toNat g tb D σ H1
  | _ => False
def dForR2 (ta : TA) (g : TG) (tb : TS) : TS := fun D σ H => ta σ H fun vs H1 => match vs with
  | [.int i, .int j] => (-(2 ^ 62) ≤ i ∧ i < 2 ^ 62 ∧ -(2 ^ 62) ≤ j ∧ j < 2 ^ 62) ∧ ForR i (j - i).toNat g tb D σ H1
  | _ => False
/-- what a comprehension asks -/
def LcJ (J : It) (g : TG) (tt : TT) (te : TE) (vs : List Nat) : L2.St → Hp → VK → Prop := fun σ H1 Q => ∀ D, H1 D = none → ∃ W : Nat → Nat → Hp → Prop, (∃ m, W 0 m (upd H1 D (.lst []))) ∧ ∀ i m H, W i m H →
  (J.stop i H ∧ Q (.ref D) H) ∨ (J.go i H ∧ ∃ Nx : Hp → Prop, (∀ H', Nx H' → ∃ m', m' < m ∧ W (i + 1) m' H') ∧ ∀ x H', J.yld i H x H' → g x (wipe σ vs) H' fun σ2 H2 => wipe σ2 vs = wipe σ vs ∧ tt σ2 H2 fun b H3 =>
    if b = true then te σ2 H3 fun y H4 => ∃ acc, H4 D = some (.lst acc) ∧ acc.length < sizeLine ∧ Nx (upd H4 D (.lst (acc ++ [y]))) else Nx H3)
def LcL (K : PySem.W.Frag) (a : Addr) (g : TG) (tt : TT) (te : TE) (vs : List Nat) : L2.St → Hp → VK → Prop := fun σ H Q => (∃ xs, SqL K H a xs) ∧ LcJ (Itl K a) g tt te vs σ H Q
def LcT (K : PySem.W.Frag) (a : Addr) (g : TG) (tt : TT) (te : TE) (vs : List Nat) : L2.St → Hp → VK → Prop := fun σ H Q => (∃ xs, SqT K H a xs) ∧ LcJ (Itt K a) g tt te vs σ H Q
def dLcL (K : PySem.W.Frag) (tl : TE) (g : TG) (tt : TT) (te : TE) (vs : List Nat) : TE := fun σ H Q => tl σ H fun x H1 => match x with
  | .ref a => LcL K a g tt te vs σ H1 Q
  | _ => False
def dLcT (K : PySem.W.Frag) (tl : TE) (g : TG) (tt : TT) (te : TE) (vs : List Nat) : TE := fun σ H Q => tl σ H fun x H1 => match x with
  | .ref a => LcT K a g tt te vs σ H1 Q
  | _ => False
def dLcR1 (ta : TA) (g : TG) (tt : TT) (te : TE) (vs : List Nat) : TE := fun σ H Q => ta σ H fun us H1 => match us with
  | [.int j] => (-(2 ^ 62) ≤ j ∧ j < 2 ^ 62) ∧ LcJ (Itr 0 j.toNat) g tt te vs σ H1 Q
  | _ => False
def dLcR2 (ta : TA) (g : TG) (tt : TT) (te : TE) (vs : List Nat) : TE := fun σ H Q => ta σ H fun us H1 => match us with
  | [.int i, .int j] => (-(2 ^ 62) ≤ i ∧ i < 2 ^ 62 ∧ -(2 ^ 62) ≤ j ∧ j < 2 ^ 62) ∧ LcJ (Itr i (j - i).toNat) g tt te vs σ H1 Q
  | _ => False
section
variable {X : Cx} {e a b target : Expr} {body : List Stmt} {tl : TE} {ta : TA} {g : TG} {tb : TS} {pos p p2 : Pos}
theorem d_forL (hp : PassesOwn (model X.prog X.w) X.A X.env X.xe) (hc : X.calm = true) (hl : PE X e tl) (hg : PG X target g) (hb : PSs X body tb)
    (hs : ∀ x, foldedSetIterable e X.env x = pure x := by intro _; rfl) : PS X (.For target e body [] pos) (dForL X.K tl g tb) :=
  psI (ps_for hp hc (pi_list (peM hl)) hg hb hs) fun D σ H q1 => ⟨_, q1, fun v H' q2 => by
    split at q2
    · exact ⟨_, rfl, q2.1, q2.2⟩
    · exact q2.elim⟩
theorem d_forT (hp : PassesOwn (model X.prog X.w) X.A X.env X.xe) (hc : X.calm = true) (hl : PE X e tl) (hg : PG X target g) (hb : PSs X body tb)
    (hs : ∀ x, foldedSetIterable e X.env x = pure x := by intro _; rfl) : PS X (.For target e body [] pos) (dForT X.K tl g tb) :=
  psI (ps_for hp hc (pi_tup (peM hl)) hg hb hs) fun D σ H q1 => ⟨_, q1, fun v H' q2 => by
    split at q2
    · exact ⟨_, rfl, q2.1, q2.2⟩
    · exact q2.elim⟩
theorem d_forR1 (hp : PassesOwn (model X.prog X.w) X.A X.env X.xe) (hc : X.calm = true) (hm : X.mg "range" = none) (ha : PA X [a] ta) (hg : PG X target g) (hb : PSs X body tb) (hgl : Gl X "range" := by rfl)
    (hs : ∀ x, foldedSetIterable (.Call (.Name "range" p) [a] [] p2) X.env x = pure x := by intro _; rfl) (hst : starEach [a] X.env = [(false, eval a X.env)] := by rfl) : PS X (.For target (.Call (.Name "range" p) [a] [] p2) body [] pos) (dForR1 ta g tb) :=
  psI (ps_for hp hc (pi_range1 hgl hm (paM ha) hst) hg hb hs) fun D σ H q1 => ⟨_, q1, fun vs H1 q2 => by
    split at q2
    · exact ⟨_, rfl, q2.1.1, q2.1.2, q2.2⟩
    · exact q2.elim⟩
theorem d_forR2 (hp : PassesOwn (model X.prog X.w) X.A X.env X.xe) (hc : X.calm = true) (hm : X.mg "range" = none) (ha : PA X [a, b] ta) (hg : PG X target g) (hb : PSs X body tb) (hgl : Gl X "range" := by rfl)
    (hs : ∀ x, foldedSetIterable (.Call (.Name "range" p) [a, b] [] p2) X.env x = pure x := by intro _; rfl) (hst : starEach [a, b] X.env = [(false, eval a X.env), (false, eval b X.env)] := by rfl) (hst2 : starEach [b] X.env = [(false, eval b X.env)] := by rfl) : PS X (.For target (.Call (.Name "range" p) [a, b] [] p2) body [] pos) (dForR2 ta g tb) :=
  psI (ps_for hp hc (pi_range2 hgl hm (paM ha) hst hst2) hg hb hs) fun D σ H q1 => ⟨_, q1, fun vs H1 q2 => by
    split at q2
    · exact ⟨_, _, rfl, q2.1, q2.2⟩
    · exact q2.elim⟩
end
section
variable {X : Cx} {e a b elt tg : Expr} {ifs : List Expr} {scope : Scope} {own : List (Str × Nat)} {tl te : TE} {ta : TA} {g : TG} {tt : TT} {pos p p2 : Pos}
abbrev BG (X : Cx) (scope : Scope) (tg : Expr) (g : TG) : Prop := ∀ (s : Shared) (H : Hp) (C : Addr) (cl : List (Str × Addr)) (fp : List Addr), PG (X.blk s H scope (compEnvC scope cl C X.env) fp) tg g
abbrev BT (X : Cx) (scope : Scope) (ifs : List Expr) (t : TT) : Prop := ∀ (s : Shared) (H : Hp) (C : Addr) (cl : List (Str × Addr)) (fp : List Addr), PTs (X.blk s H scope (compEnvC scope cl C X.env) fp) ifs t
abbrev BE (X : Cx) (scope : Scope) (e : Expr) (t : TE) : Prop := ∀ (s : Shared) (H : Hp) (C : Addr) (cl : List (Str × Addr)) (fp : List Addr), PE (X.blk s H scope (compEnvC scope cl C X.env) fp) e t
theorem lc_l {tl : TE} {σ : L2.St} {H : Hp} {Q : VK} {K : PySem.W.Frag} {vs : List Nat} (q1 : dLcL K tl g tt te vs σ H Q) : tLc (iList K (mE tl)) g tt te vs σ H Q := ⟨_, q1, fun v H' q2 => by
  split at q2
  · exact ⟨_, rfl, q2.1, q2.2⟩
  · exact q2.elim⟩
theorem lc_t {tl : TE} {σ : L2.St} {H : Hp} {Q : VK} {K : PySem.W.Frag} {vs : List Nat} (q1 : dLcT K tl g tt te vs σ H Q) : tLc (iTup K (mE tl)) g tt te vs σ H Q := ⟨_, q1, fun v H' q2 => by
  split at q2
  · exact ⟨_, rfl, q2.1, q2.2⟩
  · exact q2.elim⟩
theorem lc_r1 {σ : L2.St} {H : Hp} {Q : VK} {vs : List Nat} (q1 : dLcR1 ta g tt te vs σ H Q) : tLc (iRng1 (mA ta)) g tt te vs σ H Q := ⟨_, q1, fun v H' q2 => by
  split at q2
  · exact ⟨_, rfl, q2.1.1, q2.1.2, q2.2⟩
  · exact q2.elim⟩
theorem lc_r2 {σ : L2.St} {H : Hp} {Q : VK} {vs : List Nat} (q1 : dLcR2 ta g tt te vs σ H Q) : tLc (iRng2 (mA ta)) g tt te vs σ H Q := ⟨_, q1, fun v H' q2 => by
  split at q2
  · exact ⟨_, _, rfl, q2.1, q2.2⟩
  · exact q2.elim⟩
theorem d_lcL (hc : X.calm = true) (hN : X.N.Nodup) (hl : PE X e tl) (ok : BlkOk X.N X.env.scope scope own) (hg : BG X scope tg g) (ht : BT X scope ifs tt) (he : BE X scope elt te) (hs : ∀ x, foldedSetIterable e X.env x = pure x := by intro _; rfl) :
    PE X (.ListComp elt [⟨tg, e, ifs, 0⟩] scope pos) (dLcL X.K tl g tt te (own.map (·.2))) := peI (pe_lc hc hN (pi_list (peM hl)) ok hg ht he hs) fun _ _ _ q => lc_l q
theorem d_lcT (hc : X.calm = true) (hN : X.N.Nodup) (hl : PE X e tl) (ok : BlkOk X.N X.env.scope scope own) (hg : BG X scope tg g) (ht : BT X scope ifs tt) (he : BE X scope elt te) (hs : ∀ x, foldedSetIterable e X.env x = pure x := by intro _; rfl) :
    PE X (.ListComp elt [⟨tg, e, ifs, 0⟩] scope pos) (dLcT X.K tl g tt te (own.map (·.2))) := peI (pe_lc hc hN (pi_tup (peM hl)) ok hg ht he hs) fun _ _ _ q => lc_t q
theorem d_lcH (hot : L2H.HotC X) (hN : X.N.Nodup) (hl : PE X e tl) (ok : BlkOk X.N X.env.scope scope own) (hg : BG X scope tg g) (ht : BT X scope ifs tt) (he : BE X scope elt te) (hs : ∀ x, foldedSetIterable e X.env x = pure x := by intro _; rfl) :
    PE X (.ListComp elt [⟨tg, e, ifs, 0⟩] scope pos) (dLcL X.K tl g tt te (own.map (·.2))) := peI (pe_lcH hot hN (peM hl) ok hg ht he hs) fun _ _ _ q => lc_l q
theorem d_lcR1 (hc : X.calm = true) (hN : X.N.Nodup) (hm : X.mg "range" = none) (ha : PA X [a] ta) (ok : BlkOk X.N X.env.scope scope own) (hg : BG X scope tg g) (ht : BT X scope ifs tt) (he : BE X scope elt te) (hgl : Gl X "range" := by rfl)
    (hs : ∀ x, foldedSetIterable (.Call (.Name "range" p) [a] [] p2) X.env x = pure x := by intro _; rfl) (hst : starEach [a] X.env = [(false, eval a X.env)] := by rfl) :
    PE X (.ListComp elt [⟨tg, .Call (.Name "range" p) [a] [] p2, ifs, 0⟩] scope pos) (dLcR1 ta g tt te (own.map (·.2))) := peI (pe_lc hc hN (pi_range1 hgl hm (paM ha) hst) ok hg ht he hs) fun _ _ _ q => lc_r1 q
theorem d_lcR2 (hc : X.calm = true) (hN : X.N.Nodup) (hm : X.mg "range" = none) (ha : PA X [a, b] ta) (ok : BlkOk X.N X.env.scope scope own) (hg : BG X scope tg g) (ht : BT X scope ifs tt) (he : BE X scope elt te) (hgl : Gl X "range" := by rfl)
    (hs : ∀ x, foldedSetIterable (.Call (.Name "range" p) [a, b] [] p2) X.env x = pure x := by intro _; rfl) (hst : starEach [a, b] X.env = [(false, eval a X.env), (false, eval b X.env)] := by rfl) (hst2 : starEach [b] X.env = [(false, eval b X.env)] := by rfl) :
    PE X (.ListComp elt [⟨tg, .Call (.Name "range" p) [a, b] [] p2, ifs, 0⟩] scope pos) (dLcR2 ta g tt te (own.map (·.2))) := peI (pe_lc hc hN (pi_range2 hgl hm (paM ha) hst hst2) ok hg ht he hs) fun _ _ _ q => lc_r2 q
variable {i : Nat} {y : Str} {py spos : Pos}
theorem d_setL (hc : X.calm = true) (hN : X.N.Nodup) (hy : X.N[i]? = some y) (hyl : X.env.scope.names.lookup y = some .local) (hsw : swapsWith (.ListComp elt [⟨tg, e, ifs, 0⟩] scope pos) (some (.Name y py)) spos.line X.env = pure true)
    (hl : PE X e tl) (ok : BlkOk X.N X.env.scope scope own) (hg : BG X scope tg g) (ht : BT X scope ifs tt) (he : BE X scope elt te) (hs : ∀ x, foldedSetIterable e X.env x = pure x := by intro _; rfl) :
    PS X (.Assign [.Name y py] (.ListComp elt [⟨tg, e, ifs, 0⟩] scope pos) spos) (tAsg (dLcL X.K tl g tt te (own.map (·.2))) (gName i)) := psI (ps_setLc hc hN hy hyl hsw (pi_list (peM hl)) ok hg ht he hs) fun _ _ _ q => lc_l q
theorem d_setT (hc : X.calm = true) (hN : X.N.Nodup) (hy : X.N[i]? = some y) (hyl : X.env.scope.names.lookup y = some .local) (hsw : swapsWith (.ListComp elt [⟨tg, e, ifs, 0⟩] scope pos) (some (.Name y py)) spos.line X.env = pure true)
    (hl : PE X e tl) (ok : BlkOk X.N X.env.scope scope own) (hg : BG X scope tg g) (ht : BT X scope ifs tt) (he : BE X scope elt te) (hs : ∀ x, foldedSetIterable e X.env x = pure x := by intro _; rfl) :
    PS X (.Assign [.Name y py] (.ListComp elt [⟨tg, e, ifs, 0⟩] scope pos) spos) (tAsg (dLcT X.K tl g tt te (own.map (·.2))) (gName i)) := psI (ps_setLc hc hN hy hyl hsw (pi_tup (peM hl)) ok hg ht he hs) fun _ _ _ q => lc_t q
theorem d_setR1 (hc : X.calm = true) (hN : X.N.Nodup) (hy : X.N[i]? = some y) (hyl : X.env.scope.names.lookup y = some .local) (hsw : swapsWith (.ListComp elt [⟨tg, .Call (.Name "range" p) [a] [] p2, ifs, 0⟩] scope pos) (some (.Name y py)) spos.line X.env = pure true)
    (hm : X.mg "range" = none) (ha : PA X [a] ta) (ok : BlkOk X.N X.env.scope scope own) (hg : BG X scope tg g) (ht : BT X scope ifs tt) (he : BE X scope elt te) (hgl : Gl X "range" := by rfl)
    (hs : ∀ x, foldedSetIterable (.Call (.Name "range" p) [a] [] p2) X.env x = pure x := by intro _; rfl) (hst : starEach [a] X.env = [(false, eval a X.env)] := by rfl) :
    PS X (.Assign [.Name y py] (.ListComp elt [⟨tg, .Call (.Name "range" p) [a] [] p2, ifs, 0⟩] scope pos) spos) (tAsg (dLcR1 ta g tt te (own.map (·.2))) (gName i)) := psI (ps_setLc hc hN hy hyl hsw (pi_range1 hgl hm (paM ha) hst) ok hg ht he hs) fun _ _ _ q => lc_r1 q
end
/-! ### how loops and comprehensions are answered -/
/-- what stands as a tuple stays so -/
def KT (H H' : Hp) : Prop := ∀ a xs, H a = some (.tup xs) → H' a = some (.tup xs)
theorem KT.refl (H : Hp) : KT H H := fun _ _ h => h
theorem KT.trans {H H1 H2 : Hp} (a : KT H H1) (b : KT H1 H2) : KT H H2 := fun c o h => b c o (a c o h)
theorem KT.same {H H' : Hp} (s : Same H H') : KT H H' := fun a xs h => s a _ h
theorem KT.new {H : Hp} {p : Addr} {o : HO} (h : H p = none) : KT H (upd H p o) := fun a xs e => by rw [upd_ne (ne_of_none e h)]; exact e
theorem same_new {H : Hp} {p : Addr} {o : HO} (h : H p = none) : Same H (upd H p o) := fun a xs e => by rw [upd_ne (ne_of_none e h)]; exact e
theorem same_mut {H H' : Hp} {p : Addr} {o : HO} (s : Same H H') (h : H p = none) : Same H (upd H' p o) := fun a xs e => by rw [upd_ne (ne_of_none e h)]; exact s a _ e
def isTup : Option HO → Bool
  | some (.tup _) => true
  | _ => false
theorem KT.mut {H : Hp} {p : Addr} {o : HO} (h : isTup (H p) = false) : KT H (upd H p o) := fun a xs e => by
  rw [upd_ne (fun z => by rw [← z, e] at h; cases h)]
  exact e
theorem forL_go {K : PySem.W.Frag} {a : Addr} {xs : List V} {g : TG} {tb : TS} {D : Ends} {σ : L2.St} {H : Hp} (hq : SqL K H a xs) (Pv : Nat → L2.St → Hp → Prop) (h0 : Pv 0 σ H) (hl : ∀ i σ H, i ≤ xs.length → Pv i σ H → SqL K H a xs)
    (hs : ∀ i x σ H, xs[i]? = some x → Pv i σ H → g x σ H fun σ2 H2 => tb { D with nx := Pv (i + 1), ct := Pv (i + 1), bk := D.nx } σ2 H2) (hd : ∀ σ H, Pv xs.length σ H → D.nx σ H) : ForL K a g tb D σ H := ⟨⟨_, hq⟩, for_list Pv h0 hl hs hd⟩
theorem forT_go {K : PySem.W.Frag} {a : Addr} {xs : List V} {g : TG} {tb : TS} {D : Ends} {σ : L2.St} {H : Hp} (hq : SqT K H a xs) (Pv : Nat → L2.St → Hp → Prop) (h0 : Pv 0 σ H) (hl : ∀ i σ H, i ≤ xs.length → Pv i σ H → SqT K H a xs)
    (hs : ∀ i x σ H, xs[i]? = some x → Pv i σ H → g x σ H fun σ2 H2 => tb { D with nx := Pv (i + 1), ct := Pv (i + 1), bk := D.nx } σ2 H2) (hd : ∀ σ H, Pv xs.length σ H → D.nx σ H) : ForT K a g tb D σ H := ⟨⟨_, hq⟩, for_tup Pv h0 hl hs hd⟩
theorem forR_go {lo : Int} {n : Nat} {g : TG} {tb : TS} {D : Ends} {σ : L2.St} {H : Hp} (Pv : Nat → L2.St → Hp → Prop) (h0 : Pv 0 σ H)
    (hs : ∀ i σ H, i < n → Pv i σ H → g (.int (lo + i)) σ H fun σ2 H2 => tb { D with nx := Pv (i + 1), ct := Pv (i + 1), bk := D.nx } σ2 H2) (hd : ∀ σ H, Pv n σ H → D.nx σ H) : ForR lo n g tb D σ H := for_range Pv h0 hs hd
/-- one turn of a comprehension: kept with a value, or left out -/
abbrev LcTurn (g : TG) (tt : TT) (te : TE) (vs : List Nat) (σ : L2.St) (x : V) (H : Hp) (k1 : VK) (k0 : Hp → Prop) : Prop :=
  g x (wipe σ vs) H fun σ2 H2 => wipe σ2 vs = wipe σ vs ∧ tt σ2 H2 fun b H3 => if b = true then te σ2 H3 k1 else k0 H3
theorem paired_app {α β : Type} {F : α → β → Prop} : ∀ {l₁ : List α} {l₂ : List β} {m₁ : List α} {m₂ : List β}, Paired F l₁ l₂ → Paired F m₁ m₂ → Paired F (l₁ ++ m₁) (l₂ ++ m₂)
  | _, _, _, _, .nil, h => h
  | _, _, _, _, .cons r t, h => .cons r (paired_app t h)
theorem lcL_core {K : PySem.W.Frag} {a : Addr} {xs : List V} {g : TG} {tt : TT} {te : TE} {vs : List Nat} {σ : L2.St} {H1 : Hp} {Q : VK} (hq : SqL K H1 a xs) (hz : xs.length ≤ 1000000) (f : V → Bool) (R : V → V → Hp → Prop)
    (st : ∀ x y H H', KT H H' → R x y H → R x y H')
    (turn : ∀ x ∈ xs, ∀ H, Same H1 H → ∀ (k1 : VK) (k0 : Hp → Prop), (f x = true → ∀ y H', Same H H' → R x y H' → k1 y H') → (f x = false → ∀ H', Same H H' → k0 H') → LcTurn g tt te vs σ x H k1 k0)
    (hd : ∀ D H ys, H1 D = none → Same H1 H → H D = some (.lst ys) → Paired (fun x y => R x y H) (xs.filter f) ys → Q (.ref D) H) : LcL K a g tt te vs σ H1 Q := by
  refine ⟨⟨_, hq⟩, fun D hD => lc_list (K := K) (a := a) (xs := xs) (fun i H => Same H1 H ∧ ∃ ys, H D = some (.lst ys) ∧ ys.length ≤ i ∧ Paired (fun x y => R x y H) ((xs.take i).filter f) ys) ⟨same_new hD, [], upd_same, Nat.le_refl _, .nil⟩ (fun i H _ p => p.1.seq hq) ?_ ?_⟩
  · rintro i x H hx ⟨s, ys, hDs, hy, pr⟩
    have hlt := (List.getElem?_eq_some_iff.mp hx).1
    have e1 : xs.take (i + 1) = xs.take i ++ [x] := by rw [List.take_succ, hx]; rfl
    refine turn x (List.mem_of_getElem? hx) H s _ _ (fun hf y H' s' r => ⟨ys, s' D _ hDs, Nat.lt_of_le_of_lt hy (by rw [sizeLine_eq]; omega), same_mut (s.trans s') hD, ys ++ [y], upd_same, by rw [List.length_append]; exact Nat.succ_le_succ hy, ?_⟩) fun hf H' s' => ⟨s.trans s', ys, s' D _ hDs, Nat.le_succ_of_le hy, ?_⟩
    · have kt : KT H (upd H' D (.lst (ys ++ [y]))) := (KT.same s').trans (KT.mut (by rw [s' D _ hDs]; rfl))
      have kt2 : KT H' (upd H' D (.lst (ys ++ [y]))) := KT.mut (by rw [s' D _ hDs]; rfl)
      rw [e1, List.filter_append, List.filter_cons, if_pos hf]
      exact paired_app (Paired.mapP pr fun _ _ z => st _ _ _ _ kt z) (.cons (st _ _ _ _ kt2 r) .nil)
    · rw [e1, List.filter_append, List.filter_cons, if_neg (by rw [hf]; decide), List.filter_nil, List.append_nil]
      exact Paired.mapP pr fun _ _ z => st _ _ _ _ (KT.same s') z
  · rintro H ⟨s, ys, hDs, hy, pr⟩
    rw [List.take_length] at pr
    exact hd D H ys hD s hDs pr
/-! ### isinstance of built-in values -/
def tyName (x : V) (H : Hp) : Option String := match x with
  | .int _ => some "int"
  | .bl _ => some "bool"
  | .non => some "NoneType"
  | .str _ => some "str"
  | .ref p => match H p with
    | some (.lst _) => some "list"
    | some (.tup _) => some "tuple"
    | some (.dK _) => some "dict"
    | _ => none
  | _ => none
def isK (a b : String) : Bool := (kitB a b).getD false
def isKnown (a b : String) : Bool := (kitB a b).isSome
def dIsi : List V → Hp → VK → Prop := fun xs H Q => match xs with
  | [x, .ty n] => match tyName x H with
    | some a => isKnown a n = true ∧ Q (.bl (isK a n)) H
    | none => False
  | _ => False
theorem tyName_of {K : PySem.W.Frag} {x : V} {H : Hp} {a : String} (h : tyName x H = some a) : TyX K H x (.type a) := by
  unfold tyName at h
  split at h
  · cases h; exact .base (.int _)
  · cases h; exact .base (.bl _)
  · cases h; exact .base .non
  · cases h; exact .base (.str _)
  · split at h
    · rename_i e
      cases h
      exact .base (.lst e)
    · rename_i e
      cases h
      exact .base (.tup e)
    · rename_i e
      cases h
      exact .base (.dK e)
    · cases h
  · cases h
section
variable {X : Cx}
theorem d_isi : CallR X (.builtin "isinstance") dIsi := caM (call_isi (X := X)) fun xs H Q q => by
  unfold dIsi at q
  split at q
  · split at q
    · rename_i n _ a e
      obtain ⟨k, q⟩ := q
      refine ⟨_, _, _, _, isK a n, rfl, .ty n, tyName_of e, ?_, q⟩
      refine kit_ty ?_
      unfold isKnown at k
      unfold isK
      obtain ⟨b, hb⟩ := Option.isSome_iff_exists.mp k
      rw [hb] <;> rfl
    · exact q.elim
  · exact q.elim
end
theorem is_int_int : isK "int" "int" = true := by decide +kernel
theorem kn_int_int : isKnown "int" "int" = true := by decide +kernel
theorem is_int_bool : isK "int" "bool" = false := by decide +kernel
theorem kn_int_bool : isKnown "int" "bool" = true := by decide +kernel
theorem is_int_str : isK "int" "str" = false := by decide +kernel
theorem kn_int_str : isKnown "int" "str" = true := by decide +kernel
theorem is_int_list : isK "int" "list" = false := by decide +kernel
theorem kn_int_list : isKnown "int" "list" = true := by decide +kernel
theorem is_int_tuple : isK "int" "tuple" = false := by decide +kernel
theorem kn_int_tuple : isKnown "int" "tuple" = true := by decide +kernel
theorem is_int_dict : isK "int" "dict" = false := by decide +kernel
theorem kn_int_dict : isKnown "int" "dict" = true := by decide +kernel
theorem is_bool_int : isK "bool" "int" = true := by decide +kernel
theorem kn_bool_int : isKnown "bool" "int" = true := by decide +kernel
theorem is_bool_bool : isK "bool" "bool" = true := by decide +kernel
theorem kn_bool_bool : isKnown "bool" "bool" = true := by decide +kernel
theorem is_bool_str : isK "bool" "str" = false := by decide +kernel
theorem kn_bool_str : isKnown "bool" "str" = true := by decide +kernel
theorem is_bool_list : isK "bool" "list" = false := by decide +kernel
theorem kn_bool_list : isKnown "bool" "list" = true := by decide +kernel
theorem is_bool_tuple : isK "bool" "tuple" = false := by decide +kernel
theorem kn_bool_tuple : isKnown "bool" "tuple" = true := by decide +kernel
theorem is_bool_dict : isK "bool" "dict" = false := by decide +kernel
theorem kn_bool_dict : isKnown "bool" "dict" = true := by decide +kernel
theorem is_NoneType_int : isK "NoneType" "int" = false := by decide +kernel
theorem kn_NoneType_int : isKnown "NoneType" "int" = true := by decide +kernel
theorem is_NoneType_bool : isK "NoneType" "bool" = false := by decide +kernel
theorem kn_NoneType_bool : isKnown "NoneType" "bool" = true := by decide +kernel
theorem is_NoneType_str : isK "NoneType" "str" = false := by decide +kernel
theorem kn_NoneType_str : isKnown "NoneType" "str" = true := by decide +kernel
theorem is_NoneType_list : isK "NoneType" "list" = false := by decide +kernel
theorem kn_NoneType_list : isKnown "NoneType" "list" = true := by decide +kernel
theorem is_NoneType_tuple : isK "NoneType" "tuple" = false := by decide +kernel
theorem kn_NoneType_tuple : isKnown "NoneType" "tuple" = true := by decide +kernel
theorem is_NoneType_dict : isK "NoneType" "dict" = false := by decide +kernel
theorem kn_NoneType_dict : isKnown "NoneType" "dict" = true := by decide +kernel
theorem is_str_int : isK "str" "int" = false := by decide +kernel
theorem kn_str_int : isKnown "str" "int" = true := by decide +kernel
theorem is_str_bool : isK "str" "bool" = false := by decide +kernel
theorem kn_str_bool : isKnown "str" "bool" = true := by decide +kernel
theorem is_str_str : isK "str" "str" = true := by decide +kernel
theorem kn_str_str : isKnown "str" "str" = true := by decide +kernel
theorem is_str_list : isK "str" "list" = false := by decide +kernel
theorem kn_str_list : isKnown "str" "list" = true := by decide +kernel
theorem is_str_tuple : isK "str" "tuple" = false := by decide +kernel
theorem kn_str_tuple : isKnown "str" "tuple" = true := by decide +kernel
theorem is_str_dict : isK "str" "dict" = false := by decide +kernel
theorem kn_str_dict : isKnown "str" "dict" = true := by decide +kernel
theorem is_list_int : isK "list" "int" = false := by decide +kernel
theorem kn_list_int : isKnown "list" "int" = true := by decide +kernel
theorem is_list_bool : isK "list" "bool" = false := by decide +kernel
theorem kn_list_bool : isKnown "list" "bool" = true := by decide +kernel
theorem is_list_str : isK "list" "str" = false := by decide +kernel
theorem kn_list_str : isKnown "list" "str" = true := by decide +kernel
theorem is_list_list : isK "list" "list" = true := by decide +kernel
theorem kn_list_list : isKnown "list" "list" = true := by decide +kernel
theorem is_list_tuple : isK "list" "tuple" = false := by decide +kernel
theorem kn_list_tuple : isKnown "list" "tuple" = true := by decide +kernel
theorem is_list_dict : isK "list" "dict" = false := by decide +kernel
theorem kn_list_dict : isKnown "list" "dict" = true := by decide +kernel
theorem is_tuple_int : isK "tuple" "int" = false := by decide +kernel
theorem kn_tuple_int : isKnown "tuple" "int" = true := by decide +kernel
theorem is_tuple_bool : isK "tuple" "bool" = false := by decide +kernel
theorem kn_tuple_bool : isKnown "tuple" "bool" = true := by decide +kernel
theorem is_tuple_str : isK "tuple" "str" = false := by decide +kernel
theorem kn_tuple_str : isKnown "tuple" "str" = true := by decide +kernel
theorem is_tuple_list : isK "tuple" "list" = false := by decide +kernel
theorem kn_tuple_list : isKnown "tuple" "list" = true := by decide +kernel
theorem is_tuple_tuple : isK "tuple" "tuple" = true := by decide +kernel
theorem kn_tuple_tuple : isKnown "tuple" "tuple" = true := by decide +kernel
theorem is_tuple_dict : isK "tuple" "dict" = false := by decide +kernel
theorem kn_tuple_dict : isKnown "tuple" "dict" = true := by decide +kernel
theorem is_dict_int : isK "dict" "int" = false := by decide +kernel
theorem kn_dict_int : isKnown "dict" "int" = true := by decide +kernel
theorem is_dict_bool : isK "dict" "bool" = false := by decide +kernel
theorem kn_dict_bool : isKnown "dict" "bool" = true := by decide +kernel
theorem is_dict_str : isK "dict" "str" = false := by decide +kernel
theorem kn_dict_str : isKnown "dict" "str" = true := by decide +kernel
theorem is_dict_list : isK "dict" "list" = false := by decide +kernel
theorem kn_dict_list : isKnown "dict" "list" = true := by decide +kernel
theorem is_dict_tuple : isK "dict" "tuple" = false := by decide +kernel
theorem kn_dict_tuple : isKnown "dict" "tuple" = true := by decide +kernel
theorem is_dict_dict : isK "dict" "dict" = true := by decide +kernel
theorem kn_dict_dict : isKnown "dict" "dict" = true := by decide +kernel
theorem lcR_core {lo : Int} {n : Nat} {g : TG} {tt : TT} {te : TE} {vs : List Nat} {σ : L2.St} {H1 : Hp} {Q : VK} (hz : n ≤ 1000000) (f : Nat → Bool) (R : Nat → V → Hp → Prop)
    (st : ∀ x y H H', KT H H' → R x y H → R x y H')
    (turn : ∀ (i : Nat), i < n → ∀ H, Same H1 H → ∀ (k1 : VK) (k0 : Hp → Prop), (f i = true → ∀ y H', Same H H' → R i y H' → k1 y H') → (f i = false → ∀ H', Same H H' → k0 H') → LcTurn g tt te vs σ (.int (lo + (i : Nat))) H k1 k0)
    (hd : ∀ D H ys, H1 D = none → Same H1 H → H D = some (.lst ys) → Paired (fun x y => R x y H) ((List.range n).filter f) ys → Q (.ref D) H) : LcJ (Itr lo n) g tt te vs σ H1 Q := by
  refine fun D hD => lc_range (lo := lo) (n := n) (fun i H => Same H1 H ∧ ∃ ys, H D = some (.lst ys) ∧ ys.length ≤ i ∧ Paired (fun x y => R x y H) ((List.range i).filter f) ys) ⟨same_new hD, [], upd_same, Nat.le_refl _, .nil⟩ ?_ ?_
  · rintro i H hlt ⟨s, ys, hDs, hy, pr⟩
    refine turn i hlt H s _ _ (fun hf y H' s' r => ⟨ys, s' D _ hDs, Nat.lt_of_le_of_lt hy (by rw [sizeLine_eq]; omega), same_mut (s.trans s') hD, ys ++ [y], upd_same, by rw [List.length_append]; exact Nat.succ_le_succ hy, ?_⟩) fun hf H' s' => ⟨s.trans s', ys, s' D _ hDs, Nat.le_succ_of_le hy, ?_⟩
    · have kt : KT H (upd H' D (.lst (ys ++ [y]))) := (KT.same s').trans (KT.mut (by rw [s' D _ hDs]; rfl))
      have kt2 : KT H' (upd H' D (.lst (ys ++ [y]))) := KT.mut (by rw [s' D _ hDs]; rfl)
      rw [List.range_succ, List.filter_append, List.filter_cons, if_pos hf]
      exact paired_app (Paired.mapP pr fun _ _ z => st _ _ _ _ kt z) (.cons (st _ _ _ _ kt2 r) .nil)
    · rw [List.range_succ, List.filter_append, List.filter_cons, if_neg (by rw [hf]; decide), List.filter_nil, List.append_nil]
      exact Paired.mapP pr fun _ _ z => st _ _ _ _ (KT.same s') z
  · rintro H ⟨s, ys, hDs, hy, pr⟩
    exact hd D H ys hD s hDs pr
/-! ### nested data, as it is tracked: to a depth -/
def AtomD (v : V) (d : PyData) : Prop := (v = .non ∧ d = .none) ∨ (∃ b, v = .bl b ∧ d = .bool b) ∨ (∃ i, v = .int i ∧ d = .int i) ∨ ∃ x, v = .str x ∧ d = .str x ∧ PyData.strOk x = true
def Da (H : Hp) : Nat → V → PyData → Prop
  | 0, v, d => AtomD v d
  | n + 1, v, d => AtomD v d ∨ (∃ (a : Addr) (xs : List V) (ds : List PyData), v = .ref a ∧ d = .list ds ∧ H a = some (.lst xs) ∧ xs.length ≤ 100000 ∧ Paired (Da H n) xs ds) ∨
    ∃ (a : Addr) (xs : List V) (ds : List PyData), v = .ref a ∧ d = .tuple ds ∧ H a = some (.tup xs) ∧ xs.length ≤ 100000 ∧ Paired (Da H n) xs ds
theorem AtomD.da {v : V} {d : PyData} {H : Hp} (h : AtomD v d) : ∀ {n : Nat}, Da H n v d
  | 0 => h
  | _ + 1 => .inl h
theorem Da.int {H : Hp} {n : Nat} {i : Int} : Da H n (.int i) (.int i) := AtomD.da (.inr (.inr (.inl ⟨i, rfl, rfl⟩)))
theorem Da.bl {H : Hp} {n : Nat} {i : Bool} : Da H n (.bl i) (.bool i) := AtomD.da (.inr (.inl ⟨i, rfl, rfl⟩))
theorem Da.non {H : Hp} {n : Nat} : Da H n .non .none := AtomD.da (.inl ⟨rfl, rfl⟩)
theorem Da.str {H : Hp} {n : Nat} {x : Str} (h : PyData.strOk x = true) : Da H n (.str x) (.str x) := AtomD.da (.inr (.inr (.inr ⟨x, rfl, rfl, h⟩)))
theorem Da.lst {H : Hp} {n : Nat} {a : Addr} {xs : List V} {ds : List PyData} (h : H a = some (.lst xs)) (hl : xs.length ≤ 100000) (p : Paired (Da H n) xs ds) : Da H (n + 1) (.ref a) (.list ds) := .inr (.inl ⟨a, xs, ds, rfl, rfl, h, hl, p⟩)
theorem Da.tup {H : Hp} {n : Nat} {a : Addr} {xs : List V} {ds : List PyData} (h : H a = some (.tup xs)) (hl : xs.length ≤ 100000) (p : Paired (Da H n) xs ds) : Da H (n + 1) (.ref a) (.tuple ds) := .inr (.inr ⟨a, xs, ds, rfl, rfl, h, hl, p⟩)
theorem Da.same {H H' : Hp} (s : Same H H') : ∀ {n : Nat} {v : V} {d : PyData}, Da H n v d → Da H' n v d
  | 0, _, _, h => h
  | n + 1, v, d, h => by
    rcases h with h | ⟨a, xs, ds, e1, e2, h, hl, p⟩ | ⟨a, xs, ds, e1, e2, h, hl, p⟩
    · exact .inl h
    · exact .inr (.inl ⟨a, xs, ds, e1, e2, s a _ h, hl, Paired.mapP p fun _ _ q => Da.same s q⟩)
    · exact .inr (.inr ⟨a, xs, ds, e1, e2, s a _ h, hl, Paired.mapP p fun _ _ q => Da.same s q⟩)
theorem AtomD.dp {K : PySem.W.Frag} {H : Hp} {v : V} {d : PyData} (h : AtomD v d) : Dp K H v d := by
  rcases h with ⟨rfl, rfl⟩ | ⟨b, rfl, rfl⟩ | ⟨b, rfl, rfl⟩ | ⟨x, rfl, rfl, _⟩
  · exact .non
  · exact .bl _
  · exact .int _
  · exact .str _
theorem dpAll {K : PySem.W.Frag} {H : Hp} : ∀ {xs : List V} {ds : List PyData}, Paired (Dp K H) xs ds → DpAll K H xs ds
  | _, _, .nil => .nil
  | _, _, .cons h t => .cons h (dpAll t)
theorem Da.dp {K : PySem.W.Frag} {H : Hp} : ∀ {n : Nat} {v : V} {d : PyData}, Da H n v d → Dp K H v d
  | 0, _, _, h => AtomD.dp h
  | n + 1, v, d, h => by
    rcases h with h | ⟨a, xs, ds, rfl, rfl, h, hl, p⟩ | ⟨a, xs, ds, rfl, rfl, h, hl, p⟩
    · exact AtomD.dp h
    · exact .lst (SqL.of h) (dpAll (Paired.mapP p fun _ _ q => Da.dp q))
    · exact .tup (SqT.of h) (dpAll (Paired.mapP p fun _ _ q => Da.dp q))
theorem AtomD.lay {v : V} {d : PyData} (h : AtomD v d) : d.canLay0 = true ∧ d.depth = 0 := by
  rcases h with ⟨rfl, rfl⟩ | ⟨b, rfl, rfl⟩ | ⟨b, rfl, rfl⟩ | ⟨x, rfl, rfl, hx⟩
  · exact ⟨by simp [PyData.canLay0], by simp [PyData.depth]⟩
  · exact ⟨by simp [PyData.canLay0], by simp [PyData.depth]⟩
  · exact ⟨by simp [PyData.canLay0], by simp [PyData.depth]⟩
  · exact ⟨by simpa [PyData.canLay0] using hx, by simp [PyData.depth]⟩
theorem Da.lays {H : Hp} {n : Nat} (ih : ∀ {v : V} {d : PyData}, Da H n v d → d.canLay0 = true ∧ d.depth ≤ n) : ∀ {xs : List V} {ds : List PyData}, Paired (Da H n) xs ds → PyData.canLayAll0 ds = true ∧ PyData.depthAll ds ≤ n
  | _, _, .nil => ⟨by simp [PyData.canLayAll0], by simp [PyData.depthAll]⟩
  | _, _, .cons h t => by
    obtain ⟨a, b⟩ := ih h
    obtain ⟨c, d⟩ := Da.lays ih t
    exact ⟨by simp [PyData.canLayAll0, a, c], by simp only [PyData.depthAll]; omega⟩
theorem Da.lay {H : Hp} : ∀ {n : Nat} {v : V} {d : PyData}, Da H n v d → d.canLay0 = true ∧ d.depth ≤ n
  | 0, _, _, h => ⟨(AtomD.lay h).1, Nat.le_of_eq (AtomD.lay h).2⟩
  | n + 1, v, d, h => by
    rcases h with h | ⟨a, xs, ds, rfl, rfl, h, hl, p⟩ | ⟨a, xs, ds, rfl, rfl, h, hl, p⟩
    · exact ⟨(AtomD.lay h).1, by have := (AtomD.lay h).2; omega⟩
    · obtain ⟨a, b⟩ := Da.lays (fun q => Da.lay q) p
      exact ⟨by simpa [PyData.canLay0] using a, by simp only [PyData.depth]; omega⟩
    · obtain ⟨a, b⟩ := Da.lays (fun q => Da.lay q) p
      exact ⟨by simpa [PyData.canLay0] using a, by simp only [PyData.depth]; omega⟩
theorem Da.shaped {H : Hp} {n : Nat} {v : V} {d : PyData} (h : Da H n v d) (hn : n ≤ 64) : SeqAt.shaped d = true := by
  obtain ⟨a, b⟩ := Da.lay h
  show (d.canLay0 && decide (d.depth ≤ 64)) = true
  rw [a, decide_eq_true (by omega)]
  rfl
theorem pairedAt {α β : Type} {F : α → β → Prop} : ∀ {l₁ : List α} {l₂ : List β} {i : Nat} {y : β}, Paired F l₁ l₂ → l₂[i]? = some y → ∃ x, l₁[i]? = some x ∧ F x y
  | _, _, _, _, .nil, e => by simp at e
  | _, _, 0, _, .cons r _, e => by simp at e; subst e; exact ⟨_, rfl, r⟩
  | _, _, i + 1, _, .cons _ t, e => by
    obtain ⟨x, h1, h2⟩ := pairedAt (i := i) t (by simpa using e)
    exact ⟨x, by simpa using h1, h2⟩
theorem paired_len {α β : Type} {F : α → β → Prop} : ∀ {l₁ : List α} {l₂ : List β}, Paired F l₁ l₂ → l₁.length = l₂.length
  | _, _, .nil => rfl
  | _, _, .cons _ t => congrArg (· + 1) (paired_len t)
/-- == of data that is the same -/
theorem eqD_same {K : PySem.W.Frag} {H : Hp} {Q : VK} {n : Nat} {x y : V} {d : PyData} (h : Da H n x d) (h' : Da H n y d) (hn : n ≤ 64) (q : Q (.bl true) H) : dEqD K x y H Q :=
  ⟨d, d, h.dp, h'.dp, h.shaped hn, h'.shaped hn, by rw [SeqAt.eqv_refl d h.lay.1]; exact q⟩
theorem neD_same {K : PySem.W.Frag} {H : Hp} {Q : VK} {n : Nat} {x y : V} {d : PyData} (h : Da H n x d) (h' : Da H n y d) (hn : n ≤ 64) (q : Q (.bl false) H) : dNeD K x y H Q :=
  ⟨d, d, h.dp, h'.dp, h.shaped hn, h'.shaped hn, by rw [SeqAt.eqv_refl d h.lay.1]; exact q⟩
theorem seqAt_lst {xs : List V} {k : List V → Prop} : seqAt (some (.lst xs)) k = k xs := rfl
theorem seqAt_tup {xs : List V} {k : List V → Prop} : seqAt (some (.tup xs)) k = k xs := rfl
theorem seqAt_frz {o : Obj} {xs : List V} {k : List V → Prop} : seqAt (some (.frz o (.lst xs))) k = k xs := rfl
theorem lstAt_lst {xs : List V} {k : List V → Prop} : lstAt (some (.lst xs)) k = k xs := rfl
theorem tupAt_tup {xs : List V} {k : List V → Prop} : tupAt (some (.tup xs)) k = k xs := rfl
theorem atK_of {xs : List V} {i : Int} {v : V} {k : V → Prop} (h : atI xs i = some v) : atK xs i k = k v := by
  unfold atK
  rw [h]
theorem atI_zero {x : V} {xs : List V} : atI (x :: xs) 0 = some x := atI_nat (j := 0) rfl
theorem atK_zero {x : V} {xs : List V} {k : V → Prop} : atK (x :: xs) 0 k = k x := atK_of atI_zero
theorem atI_one {x y : V} {xs : List V} : atI (x :: y :: xs) 1 = some y := atI_nat (j := 1) rfl
theorem atK_one {x y : V} {xs : List V} {k : V → Prop} : atK (x :: y :: xs) 1 k = k y := atK_of atI_one
theorem atK_last {x : V} {xs : List V} {k : V → Prop} : atK (xs ++ [x]) (-1) k = k x := atK_of (atI_last xs x)
theorem atK_nat {xs : List V} {i : Nat} {v : V} {k : V → Prop} (h : xs[i]? = some v) (q : k v) : atK xs (i : Int) k := by rw [atK_of (atI_nat h)]; exact q
theorem seqE {o : Option HO} {zs : List V} {k : List V → Prop} (h : seqAt o (· = zs)) (hk : k zs) : seqAt o k := by
  unfold seqAt at h ⊢
  split at h <;> first | (subst h; exact hk) | exact h.elim
/-- isinstance(e, C), e the exception at ax, of the class D -/
def dIsE (K : PySem.W.Frag) (D ax : Addr) : List V → Hp → VK → Prop := fun xs H Q => match xs with
  | [.ref a, .ref C] => a = ax ∧ match PySem.W.kitOne K (.ref D) (.ref C) with
    | some b => Q (.bl b) H
    | none => False
  | _ => False
section
variable {X : Cx}
theorem d_isP {a D : Addr} {oe : Obj} (C : ExcC X.K D) (hp : (a, oe) ∈ X.pn) (hz : Zc (.ref D) none oe) (hf : ∃ vs, oe.data = .fields vs) : CallR X (.builtin "isinstance") (dIsE X.K D a) := caM (call_isP C hp hz hf) fun xs H Q q => by
  unfold dIsE at q
  split at q
  · obtain ⟨rfl, q⟩ := q
    split at q
    · rename_i e
      exact ⟨_, _, _, rfl, fun u r => r, e, q⟩
    · exact q.elim
  · exact q.elim
end
theorem seq1 {t u : TS} {D : Ends} {σ : L2.St} {H : Hp} (h : t { D with nx := u D } σ H) : tSeq t u D σ H := h
theorem upd_none {H : Hp} {x r : Addr} {o : HO} (h : upd H x o r = none) : x ≠ r ∧ H r = none := by
  unfold upd at h
  split at h
  · cases h
  · rename_i n
    exact ⟨fun e => n e.symm, h⟩
theorem while_go {c : TT} {tb : TS} {D : Ends} {σ : L2.St} {H : Hp} (W : Nat → L2.St → Hp → Prop) (m : Nat) (h0 : W m σ H)
    (hs : ∀ m σ H, W m σ H → c σ H fun b H1 => if b = true then ∃ N : L2.St → Hp → Prop, (∀ σ' H', N σ' H' → ∃ m', m' < m ∧ W m' σ' H') ∧ tb { D with nx := N, ct := N, bk := D.nx } σ H1 else D.nx σ H1) : tWhile c tb D σ H := ⟨W, ⟨m, h0⟩, hs⟩
theorem upd_fresh {H : Hp} {x r : Addr} {o : HO} : (upd H x o r = none) = (x ≠ r ∧ H r = none) := propext ⟨upd_none, fun ⟨n, h⟩ => by rw [upd_ne (fun e => n e.symm)]; exact h⟩
theorem n00 : ((0 : Nat) : Int) = 0 := rfl
theorem posS {n : Nat} : ((0 : Int) < ((n + 1 : Nat) : Int)) = True := eq_true (by omega)
theorem eqS0 {n : Nat} : (((n + 1 : Nat) : Int) = 0) = False := eq_false (by omega)
theorem lt00 : ((0 : Int) < 0) = False := eq_false (by decide)
theorem turnN {W : Nat → L2.St → Hp → Prop} {m : Nat} {t : (L2.St → Hp → Prop) → Prop} (h : ∀ N : L2.St → Hp → Prop, (∀ m' σ' H', m' < m → W m' σ' H' → N σ' H') → t N) : ∃ N : L2.St → Hp → Prop, (∀ σ' H', N σ' H' → ∃ m', m' < m ∧ W m' σ' H') ∧ t N :=
  ⟨fun σ' H' => ∃ m', m' < m ∧ W m' σ' H', fun _ _ h => h, h _ fun m' σ' H' a b => ⟨m', a, b⟩⟩
theorem while_to {c : TT} {tb : TS} {D : Ends} {σ : L2.St} {H : Hp} (W : Nat → L2.St → Hp → Prop) (X : L2.St → Hp → Prop) (m : Nat) (h0 : W m σ H) (hx : ∀ σ H, X σ H → D.nx σ H)
    (hs : ∀ nx : L2.St → Hp → Prop, (∀ σ H, X σ H → nx σ H) → ∀ m σ H, W m σ H → c σ H fun b H1 => if b = true then ∃ N : L2.St → Hp → Prop, (∀ σ' H', N σ' H' → ∃ m', m' < m ∧ W m' σ' H') ∧ tb { D with nx := N, ct := N, bk := nx } σ H1 else nx σ H1) : tWhile c tb D σ H := ⟨W, ⟨m, h0⟩, hs D.nx hx⟩
theorem forL_to {K : PySem.W.Frag} {a : Addr} {xs : List V} {g : TG} {tb : TS} {D : Ends} {σ : L2.St} {H : Hp} (hq : SqL K H a xs) (Pv : Nat → L2.St → Hp → Prop) (X : L2.St → Hp → Prop) (h0 : Pv 0 σ H) (hl : ∀ i σ H, i ≤ xs.length → Pv i σ H → SqL K H a xs)
    (hd : ∀ σ H, Pv xs.length σ H → X σ H) (hx : ∀ σ H, X σ H → D.nx σ H)
    (hs : ∀ (N nx : L2.St → Hp → Prop), (∀ σ H, X σ H → nx σ H) → ∀ i x σ H, xs[i]? = some x → (∀ σ H, Pv (i + 1) σ H → N σ H) → Pv i σ H → g x σ H fun σ2 H2 => tb { D with nx := N, ct := N, bk := nx } σ2 H2) : ForL K a g tb D σ H := ⟨⟨_, hq⟩, for_list Pv h0 hl (fun i x σ H e p => hs (Pv (i + 1)) D.nx hx i x σ H e (fun _ _ h => h) p) fun σ H p => hx σ H (hd σ H p)⟩
theorem forT_to {K : PySem.W.Frag} {a : Addr} {xs : List V} {g : TG} {tb : TS} {D : Ends} {σ : L2.St} {H : Hp} (hq : SqT K H a xs) (Pv : Nat → L2.St → Hp → Prop) (X : L2.St → Hp → Prop) (h0 : Pv 0 σ H) (hl : ∀ i σ H, i ≤ xs.length → Pv i σ H → SqT K H a xs)
    (hd : ∀ σ H, Pv xs.length σ H → X σ H) (hx : ∀ σ H, X σ H → D.nx σ H)
    (hs : ∀ (N nx : L2.St → Hp → Prop), (∀ σ H, X σ H → nx σ H) → ∀ i x σ H, xs[i]? = some x → (∀ σ H, Pv (i + 1) σ H → N σ H) → Pv i σ H → g x σ H fun σ2 H2 => tb { D with nx := N, ct := N, bk := nx } σ2 H2) : ForT K a g tb D σ H := ⟨⟨_, hq⟩, for_tup Pv h0 hl (fun i x σ H e p => hs (Pv (i + 1)) D.nx hx i x σ H e (fun _ _ h => h) p) fun σ H p => hx σ H (hd σ H p)⟩
theorem forR_to {lo : Int} {n : Nat} {g : TG} {tb : TS} {D : Ends} {σ : L2.St} {H : Hp} (Pv : Nat → L2.St → Hp → Prop) (X : L2.St → Hp → Prop) (h0 : Pv 0 σ H)
    (hd : ∀ σ H, Pv n σ H → X σ H) (hx : ∀ σ H, X σ H → D.nx σ H)
    (hs : ∀ (N nx : L2.St → Hp → Prop), (∀ σ H, X σ H → nx σ H) → ∀ i σ H, i < n → (∀ σ H, Pv (i + 1) σ H → N σ H) → Pv i σ H → g (.int (lo + i)) σ H fun σ2 H2 => tb { D with nx := N, ct := N, bk := nx } σ2 H2) : ForR lo n g tb D σ H := for_range Pv h0 (fun i σ H e p => hs (Pv (i + 1)) D.nx hx i σ H e (fun _ _ h => h) p) fun σ H p => hx σ H (hd σ H p)
theorem le00 : ((0 : Int) ≤ 0) = True := eq_true (by decide)
theorem p63 : ((0 : Int) < 2 ^ 63) = True := eq_true (by decide)
theorem tn0 : Int.toNat 0 = 0 := rfl
theorem erz {α : Type} {x : α} {xs : List α} : (x :: xs).eraseIdx 0 = xs := rfl
theorem last_snoc {α : Type} {x : α} {xs : List α} : (xs ++ [x]).getLast? = some x := by simp
theorem drop_snoc {α : Type} {x : α} {xs : List α} : (xs ++ [x]).dropLast = xs := by simp
theorem len_snoc {α : Type} {x : α} {xs : List α} : (xs ++ [x]).length = xs.length + 1 := by simp
theorem pairedGet {α β : Type} {F : α → β → Prop} : ∀ {l₁ : List α} {l₂ : List β} {i : Nat} {x : α}, Paired F l₁ l₂ → l₁[i]? = some x → ∃ y, l₂[i]? = some y ∧ F x y
  | _, _, _, _, .nil, e => by simp at e
  | _, _, 0, _, .cons r _, e => by simp at e; subst e; exact ⟨_, rfl, r⟩
  | _, _, i + 1, _, .cons _ t, e => by
    obtain ⟨x, h1, h2⟩ := pairedGet (i := i) t (by simpa using e)
    exact ⟨x, by simpa using h1, h2⟩
/-- a comprehension over a list, whose values stand for those of another list -/
theorem lcL_pair {β : Type} {K : PySem.W.Frag} {a : Addr} {xs : List V} {ps : List β} {F : V → β → Prop} {g : TG} {tt : TT} {te : TE} {vs : List Nat} {σ : L2.St} {H1 : Hp} {Q : VK} (hq : SqL K H1 a xs) (pr : Paired F xs ps) (hz : xs.length ≤ 1000000) (f : β → Bool) (R : β → V → Hp → Prop)
    (st : ∀ x y H H', KT H H' → R x y H → R x y H')
    (turn : ∀ (i : Nat) (x : V) (p : β), xs[i]? = some x → ps[i]? = some p → F x p → ∀ H, Same H1 H → ∀ (k1 : VK) (k0 : Hp → Prop), (f p = true → ∀ y H', Same H H' → R p y H' → k1 y H') → (f p = false → ∀ H', Same H H' → k0 H') → LcTurn g tt te vs σ x H k1 k0)
    (hd : ∀ D H ys, H1 D = none → Same H1 H → H D = some (.lst ys) → Paired (fun p y => R p y H) (ps.filter f) ys → Q (.ref D) H) : LcL K a g tt te vs σ H1 Q := by
  refine ⟨⟨_, hq⟩, fun D hD => lc_list (K := K) (a := a) (xs := xs) (fun i H => Same H1 H ∧ ∃ ys, H D = some (.lst ys) ∧ ys.length ≤ i ∧ Paired (fun p y => R p y H) ((ps.take i).filter f) ys) ⟨same_new hD, [], upd_same, Nat.le_refl _, .nil⟩ (fun i H _ p => p.1.seq hq) ?_ ?_⟩
  · rintro i x H hx ⟨s, ys, hDs, hy, pq⟩
    have hlt := (List.getElem?_eq_some_iff.mp hx).1
    obtain ⟨p, hp, hF⟩ := pairedGet pr hx
    have e1 : ps.take (i + 1) = ps.take i ++ [p] := by rw [List.take_succ, hp]; rfl
    refine turn i x p hx hp hF H s _ _ (fun hf y H' s' r => ⟨ys, s' D _ hDs, Nat.lt_of_le_of_lt hy (by rw [sizeLine_eq]; omega), same_mut (s.trans s') hD, ys ++ [y], upd_same, by rw [List.length_append]; exact Nat.succ_le_succ hy, ?_⟩) fun hf H' s' => ⟨s.trans s', ys, s' D _ hDs, Nat.le_succ_of_le hy, ?_⟩
    · have kt : KT H (upd H' D (.lst (ys ++ [y]))) := (KT.same s').trans (KT.mut (by rw [s' D _ hDs]; rfl))
      have kt2 : KT H' (upd H' D (.lst (ys ++ [y]))) := KT.mut (by rw [s' D _ hDs]; rfl)
      rw [e1, List.filter_append, List.filter_cons, if_pos hf]
      exact paired_app (Paired.mapP pq fun _ _ z => st _ _ _ _ kt z) (.cons (st _ _ _ _ kt2 r) .nil)
    · rw [e1, List.filter_append, List.filter_cons, if_neg (by rw [hf]; decide), List.filter_nil, List.append_nil]
      exact Paired.mapP pq fun _ _ z => st _ _ _ _ (KT.same s') z
  · rintro H ⟨s, ys, hDs, hy, pq⟩
    have hlen : ps.length = xs.length := (paired_len pr).symm
    rw [← hlen, List.take_length] at pq
    exact hd D H ys hD s hDs pq
theorem paired_map {α β : Type} {f : α → β} {xs : List α} {ys : List β} (h : Paired (fun x y => y = f x) xs ys) : ys = xs.map f := by
  induction h with
  | nil => rfl
  | cons e _ ih => rw [List.map_cons, ← e, ih]
theorem eqD_da {K : PySem.W.Frag} {H : Hp} {Q : VK} {n : Nat} {x y : V} {d e : PyData} (h : Da H n x d) (h' : Da H n y e) (hn : n ≤ 64) (q : Q (.bl (PyData.eqv d e)) H) : dEqD K x y H Q := ⟨d, e, h.dp, h'.dp, h.shaped hn, h'.shaped hn, q⟩
theorem neD_da {K : PySem.W.Frag} {H : Hp} {Q : VK} {n : Nat} {x y : V} {d e : PyData} (h : Da H n x d) (h' : Da H n y e) (hn : n ≤ 64) (q : Q (.bl (!PyData.eqv d e)) H) : dNeD K x y H Q := ⟨d, e, h.dp, h'.dp, h.shaped hn, h'.shaped hn, q⟩
theorem da_ints {H : Hp} {n : Nat} : ∀ {ns : List Int}, Paired (Da H n) (ns.map V.int) (ns.map PyData.int)
  | [] => .nil
  | _ :: _ => .cons Da.int da_ints
theorem da_lints {H : Hp} {n : Nat} {a : Addr} {ns : List Int} (h : H a = some (.lst (ns.map V.int))) (hl : ns.length ≤ 100000) : Da H (n + 1) (.ref a) (.list (ns.map PyData.int)) := Da.lst h (by rw [List.length_map]; exact hl) da_ints
theorem da_nil {H : Hp} {n : Nat} {a : Addr} (h : H a = some (.lst [])) : Da H (n + 1) (.ref a) (.list []) := Da.lst h (Nat.zero_le _) .nil
theorem eqv_cons_nil {x : PyData} {xs : List PyData} : PyData.eqv (.list (x :: xs)) (.list []) = false := by simp [PyData.eqv, PyData.eqvAll]
theorem eqv_nil_nil : PyData.eqv (.list []) (.list []) = true := by simp [PyData.eqv, PyData.eqvAll]
theorem same_upd {H H1 : Hp} {p : Addr} {o : HO} (s : Same H H1) (h : H1 p = none) : Same H (upd H1 p o) := s.trans (same_new h)
/-- a statement, and then what follows, by what stands between -/
theorem seq_to {t u : TS} {D : Ends} {σ : L2.St} {H : Hp} (X : L2.St → Hp → Prop) (h : ∀ nx : L2.St → Hp → Prop, (∀ σ H, X σ H → nx σ H) → t { D with nx := nx } σ H) (hu : ∀ σ H, X σ H → u D σ H) : tSeq t u D σ H := h (u D) hu
structure GlAt (K : PySem.W.Frag) (mg : Str → Option Value) (x : Str) (C : Addr) : Prop where
  g : mg x = some (.ref C)
theorem kitCls_of {K : PySem.W.Frag} {C : Addr} {t : Value} {b : Bool} (h2 : PySem.W.isClsIn K C = true) (h3 : PySem.W.typeIn K (.ref C) = some (.type "type")) (h4 : PySem.W.subIn K t (.ref C) = some b) : PySem.W.kitCls K t (.ref C) = some b := by
  have e2 : ((PySem.W.clsIn K C).isSome && PySem.W.typeIn K (.ref C) == some (.type "type")) = true := by
    have h2' : (PySem.W.clsIn K C).isSome = true := h2
    rw [h2', h3] <;> rfl
  show (if ((PySem.W.clsIn K C).isSome && PySem.W.typeIn K (.ref C) == some (.type "type")) = true then PySem.W.subIn K t (.ref C) else none) = some b
  rw [if_pos e2]
  exact h4
theorem exm_of {K : PySem.W.Frag} {C : Addr} {t : Value} {b : Bool} (h1 : PySem.W.subIn K (.ref C) (.type "BaseException") = some true) (h2 : PySem.W.isClsIn K C = true) (h3 : PySem.W.typeIn K (.ref C) = some (.type "type")) (h4 : PySem.W.subIn K t (.ref C) = some b) : PySem.W.exmOne K t (.ref C) = some b := by
  have e1 : (PySem.W.subIn K (.ref C) (.type "BaseException") == some true) = true := by rw [h1] <;> rfl
  unfold PySem.W.exmOne
  rw [if_pos e1]
  exact kitCls_of h2 h3 h4
theorem ref_beq {C D : Addr} (h : C ≠ D) : (Value.ref C == Value.ref D) = false := by
  rw [beq_eq_false_iff_ne]
  intro e
  cases e
  exact h rfl
theorem kit_self {K : PySem.W.Frag} {C : Addr} : PySem.W.kitOne K (.ref C) (.ref C) = some true := by
  unfold PySem.W.kitOne
  rw [if_pos (beq_self_eq_true _)]
theorem kit_yes {K : PySem.W.Frag} {C D : Addr} (h2 : PySem.W.isClsIn K C = true) (h3 : PySem.W.typeIn K (.ref C) = some (.type "type")) (h4 : PySem.W.subIn K (.ref D) (.ref C) = some true) : PySem.W.kitOne K (.ref D) (.ref C) = some true := by
  unfold PySem.W.kitOne
  split
  · rfl
  · exact kitCls_of h2 h3 h4
theorem kit_no {K : PySem.W.Frag} {C D : Addr} (n : D ≠ C) (h2 : PySem.W.isClsIn K C = true) (h3 : PySem.W.typeIn K (.ref C) = some (.type "type")) (h4 : PySem.W.subIn K (.ref D) (.ref C) = some false) : PySem.W.kitOne K (.ref D) (.ref C) = some false := by
  unfold PySem.W.kitOne
  rw [if_neg (by rw [ref_beq n]; decide)]
  exact kitCls_of h2 h3 h4
/-! ### more readings by cases: slices, in, count, items set, the other way round -/
def dPart (t : TE) : TO := fun σ H Q => t σ H fun x H1 => match x with
  | .int i => Q (some i) H1
  | _ => False
def wholeV (xs : List V) (lo hi : Option Int) : Prop := HT.sIx xs.length 0 lo = 0 ∧ HT.sIx xs.length xs.length hi = xs.length
def dSl : V → Option Int → Option Int → Hp → VK → Prop := fun x lo hi H Q => match x with
  | .ref a => match H a with
    | some (.lst xs) => ∀ p, H p = none → Q (.ref p) (upd H p (.lst (cutV xs lo hi)))
    | some (.tup xs) => (wholeV xs lo hi → Q (.ref a) H) ∧ (¬ wholeV xs lo hi → ∀ p, H p = none → Q (.ref p) (upd H p (.tup (cutV xs lo hi))))
    | _ => False
  | .str z => z.length ≤ sizeLine ∧ Q (.str (cutS z lo hi)) H
  | _ => False
def dRevL (te : TE) : TE := fun σ H Q => te σ H fun x H1 => match x with
  | .ref a => seqLst (H1 a) fun xs => ∀ p, H1 p = none → Q (.ref p) (upd H1 p (.lst xs.reverse))
  | _ => False
where seqLst (o : Option HO) (k : List V → Prop) : Prop := match o with
  | some (.lst xs) => k xs
  | _ => False
def cntV (x : V) (xs : List V) : Nat := xs.countP fun y => eqV y x
def dCnt : V → List V → Hp → VK → Prop := fun x xs H Q => match x, xs with
  | .ref a, [y] => lstAt (H a) fun ys => flatV y = true ∧ ys.all flatV = true ∧ Q (.int (cntV y ys : Nat)) H
  | _, _ => False
/-- one text in another -/
def inS (i j : Str) : Bool := !(Builtin.Str.occurrences j i 0 j.length 1).isEmpty
def dIn : R2 := fun x y H Q => match y with
  | .ref p => seqAt (H p) fun xs => flatV x = true ∧ xs.all flatV = true ∧ Q (.bl (inV x xs)) H
  | .str j => match x with
    | .str i => Q (.bl (inS i j)) H
    | _ => False
  | _ => False
def dNotIn : R2 := fun x y H Q => match y with
  | .ref p => seqAt (H p) fun xs => flatV x = true ∧ xs.all flatV = true ∧ Q (.bl (!inV x xs)) H
  | .str j => match x with
    | .str i => Q (.bl (!inS i j)) H
    | _ => False
  | _ => False
def dSetL : TSet := fun o i v H Q => match o, i with
  | .ref p, .int k => match H p with
    | some (.lst xs) => 0 ≤ k ∧ k < xs.length ∧ Q (upd H p (.lst (xs.set k.toNat v)))
    | _ => False
  | _, _ => False
section
variable {X : Cx}
theorem po_d {e : Expr} {t : TE} (he : PE X e t) : PO X (some e) (dPart t) := by
  have h := po_some (peM he)
  refine ⟨fun pins s σ H Q I q => h.run pins s σ H Q I ⟨_, q, fun v H' q2 => ?_⟩⟩
  split at q2
  · exact ⟨_, rfl, q2⟩
  · exact q2.elim
theorem slM {r r' : V → Option Int → Option Int → Hp → VK → Prop} (h : SlR X r) (i : ∀ x lo hi H Q, r' x lo hi H Q → r x lo hi H Q) : SlR X r' := fun pins s σ H x v vl vu lo hi sl Q I rx hs pl pu q => h pins s σ H x v vl vu lo hi sl Q I rx hs pl pu (i _ _ _ _ _ q)
theorem d_sl : SlR X dSl := slM (SlR.or (SlR.or sl_list sl_tupA) sl_str) fun x lo hi H Q q => by
  unfold dSl at q
  split at q
  · split at q
    · rename_i xs e
      exact .inl (.inl ⟨_, xs, rfl, .inl (.inl e), q⟩)
    · rename_i xs e
      exact .inl (.inr ⟨_, xs, rfl, .inl (.inl e), q.1, q.2⟩)
    · exact q.elim
  · exact .inr ⟨_, rfl, q.1, q.2⟩
  · exact q.elim
theorem d_revL {e : Expr} {te : TE} {k : Nat} {p1 p2 p3 pos : Pos} (he : PE X e te) : PE X (.Subscript e (.Slice none none (some (.UnaryOp .USub (.Constant (.int 1) k p1) p2)) p3) pos) (dRevL te) := peI (pe_revL (peM he)) fun σ H Q q => ⟨_, q, fun v H' q2 => by
  split at q2
  · unfold dRevL.seqLst at q2
    split at q2
    · rename_i xs e
      exact ⟨_, xs, rfl, .inl (.inl e), q2⟩
    · exact q2.elim
  · exact q2.elim⟩
theorem eqU_count {y : V} : ∀ {xs : List V} {us : List Value}, Vals xs us → xs.all flatV = true → us.countP (eqU y) = cntV y xs
  | _, _, .nil, _ => rfl
  | x :: xs, u :: us, .cons r t, f => by
    rw [List.all_cons, Bool.and_eq_true] at f
    unfold cntV
    rw [List.countP_cons, List.countP_cons, eqU_of r f.1, eqU_count t f.2]
    rfl
theorem m_count : MtR X "list.count" dCnt := by
  intro pins s σ H x xs v us Q I rx rxs q
  unfold dCnt at q
  split at q
  · rename_i a y
    obtain ⟨ys, hs, fy, fys, q⟩ := lstAt_sq (K := X.K) q
    cases rx
    cases rxs with
    | cons ry rt =>
      rename_i uy ut
      cases rt
      obtain ⟨its, rv, ⟨⟨cls, dd, data, sl⟩, n, ho, hc, hdn, hd⟩, hlen⟩ := I.list hs
      simp only at hc hd
      subst hc hd
      refine call_meets PySem.F.slot_list_count ⟨_, ho, rfl⟩ PySem.F.entry_list_count (PySem.F.args_list_count_2 _ _)
        (SeqAt.list_countAt a its.toArray n dd sl uy (eqU y)) ⟨ho, fun u' hu' => mem_eqAt ry fy rv fys u' (by simpa using hu'), ?_⟩
      have ec : its.toArray.toList.countP (eqU y) = cntV y ys := eqU_count rv fys
      refine ⟨.int (cntV y ys : Nat), H, I.tok _, ⟨s.toks, ?_⟩, q⟩
      show Value.int ((its.toArray.toList.countP (eqU y) : Nat) : Int) s.toks = Value.int ((cntV y ys : Nat) : Int) s.toks
      rw [ec]
  · exact q.elim
theorem d_in : OpR X (compareOp .In) dIn := opM (OpR.or op_in_seq op_in_str) fun x y H Q q => by
  unfold dIn at q
  split at q
  · obtain ⟨xs, hs, f, fs, q⟩ := seqAt_sq (K := X.K) q
    exact .inl ⟨_, xs, rfl, hs, f, fs, q⟩
  · split at q
    · exact .inr ⟨_, _, rfl, rfl, q⟩
    · exact q.elim
  · exact q.elim
theorem d_notin : OpR X (compareOp .NotIn) dNotIn := opM (OpR.or op_notIn_seq op_notIn_str) fun x y H Q q => by
  unfold dNotIn at q
  split at q
  · obtain ⟨xs, hs, f, fs, q⟩ := seqAt_sq (K := X.K) q
    exact .inl ⟨_, xs, rfl, hs, f, fs, q⟩
  · split at q
    · exact .inr ⟨_, _, rfl, rfl, q⟩
    · exact q.elim
  · exact q.elim
theorem setM {t t' : TSet} (h : PSet X t) (i : ∀ o k v H Q, t' o k v H Q → t o k v H Q) : PSet X t' := fun pins s σ H o k v ov iv u Q I ro ri rv q => h pins s σ H o k v ov iv u Q I ro ri rv (i _ _ _ _ _ q)
theorem s_setL : PSet X dSetL := setM set_list fun o i v H Q q => by
  unfold dSetL at q
  split at q
  · rename_i p k
    split at q
    · rename_i xs e
      obtain ⟨h0, h1, q⟩ := q
      refine ⟨p, xs, k, k.toNat, rfl, rfl, e, ?_, q⟩
      unfold ixN
      rw [if_pos h0, if_pos h1]
    · exact q.elim
  · exact q.elim
end
theorem cutV_to {xs : List V} {k : Nat} : cutV xs none (some (k : Int)) = xs.take k := by
  unfold cutV
  rw [HT.sIx_none, HT.sIx_nat, List.drop_zero, Nat.sub_zero]
  rcases Nat.le_total k xs.length with h | h
  · rw [Nat.min_eq_left h]
  · rw [Nat.min_eq_right h, List.take_of_length_le (Nat.le_refl _), List.take_of_length_le h]
theorem cutV_from {xs : List V} {k : Nat} : cutV xs (some (k : Int)) none = xs.drop k := by
  unfold cutV
  rw [HT.sIx_none, HT.sIx_nat]
  rcases Nat.le_total k xs.length with h | h
  · rw [Nat.min_eq_left h, List.take_of_length_le (by rw [List.length_drop]; omega)]
  · rw [Nat.min_eq_right h, List.drop_eq_nil_of_le h, List.drop_eq_nil_of_le (Nat.le_refl _)]
    simp
/-! ### what is kept: all but the addresses of S -/
def Keep (S : List Addr) (H H' : Hp) : Prop := ∀ b o, H b = some o → b ∉ S → H' b = some o
theorem Keep.refl {S : List Addr} {H : Hp} : Keep S H H := fun _ _ h _ => h
theorem Keep.trans {S : List Addr} {H H1 H2 : Hp} (a : Keep S H H1) (b : Keep S H1 H2) : Keep S H H2 := fun x o h n => b x o (a x o h n) n
theorem Keep.mono {S T : List Addr} {H H' : Hp} (k : Keep S H H') (h : ∀ x ∈ S, x ∈ T) : Keep T H H' := fun x o e n => k x o e fun m => n (h x m)
theorem Keep.same {S : List Addr} {H H' : Hp} (k : Same H H') : Keep S H H' := fun b o h _ => k b o h
theorem Keep.up {S : List Addr} {H H' : Hp} {a : Addr} {x : HO} (k : Keep S H H') (h : a ∈ S) : Keep S H (upd H' a x) := fun b o e n => by
  rw [upd_ne (fun z => n (by rw [z]; exact h))]
  exact k b o e n
theorem Keep.new {S : List Addr} {H H' : Hp} {a : Addr} {x : HO} (k : Keep S H H') (h : H' a = none) : Keep S H (upd H' a x) := fun b o e n => by
  have := k b o e n
  rw [upd_ne (ne_of_none this h)]
  exact this
theorem Keep.new0 {S : List Addr} {H H' : Hp} {a : Addr} {x : HO} (k : Keep S H H') (h : H a = none) : Keep S H (upd H' a x) := fun b o e n => by
  rw [upd_ne (ne_of_none e h)]
  exact k b o e n
theorem keep_up {S : List Addr} {H : Hp} {a : Addr} {x : HO} (h : a ∈ S) : Keep S H (upd H a x) := Keep.refl.up h
/-- data, none of it at the addresses of S -/
def Dz (S : List Addr) (H : Hp) : Nat → V → PyData → Prop
  | 0, v, d => AtomD v d
  | n + 1, v, d => AtomD v d ∨ (∃ (a : Addr) (xs : List V) (ds : List PyData), v = .ref a ∧ d = .list ds ∧ a ∉ S ∧ H a = some (.lst xs) ∧ xs.length ≤ 100000 ∧ Paired (Dz S H n) xs ds) ∨
    ∃ (a : Addr) (xs : List V) (ds : List PyData), v = .ref a ∧ d = .tuple ds ∧ a ∉ S ∧ H a = some (.tup xs) ∧ xs.length ≤ 100000 ∧ Paired (Dz S H n) xs ds
theorem AtomD.dz {S : List Addr} {v : V} {d : PyData} {H : Hp} (h : AtomD v d) : ∀ {n : Nat}, Dz S H n v d
  | 0 => h
  | _ + 1 => .inl h
theorem Dz.da {S : List Addr} {H : Hp} : ∀ {n : Nat} {v : V} {d : PyData}, Dz S H n v d → Da H n v d
  | 0, _, _, h => h
  | n + 1, v, d, h => by
    rcases h with h | ⟨a, xs, ds, e1, e2, _, h, hl, p⟩ | ⟨a, xs, ds, e1, e2, _, h, hl, p⟩
    · exact .inl h
    · exact .inr (.inl ⟨a, xs, ds, e1, e2, h, hl, Paired.mapP p fun _ _ q => Dz.da q⟩)
    · exact .inr (.inr ⟨a, xs, ds, e1, e2, h, hl, Paired.mapP p fun _ _ q => Dz.da q⟩)
theorem Dz.keep {S : List Addr} {H H' : Hp} (k : Keep S H H') : ∀ {n : Nat} {v : V} {d : PyData}, Dz S H n v d → Dz S H' n v d
  | 0, _, _, h => h
  | n + 1, v, d, h => by
    rcases h with h | ⟨a, xs, ds, e1, e2, n, h, hl, p⟩ | ⟨a, xs, ds, e1, e2, n, h, hl, p⟩
    · exact .inl h
    · exact .inr (.inl ⟨a, xs, ds, e1, e2, n, k a _ h n, hl, Paired.mapP p fun _ _ q => Dz.keep k q⟩)
    · exact .inr (.inr ⟨a, xs, ds, e1, e2, n, k a _ h n, hl, Paired.mapP p fun _ _ q => Dz.keep k q⟩)
/-- other addresses: those that are new were free -/
theorem Dz.grow {S T : List Addr} {H : Hp} (g : ∀ x ∈ T, x ∈ S ∨ H x = none) : ∀ {n : Nat} {v : V} {d : PyData}, Dz S H n v d → Dz T H n v d
  | 0, _, _, h => h
  | n + 1, v, d, h => by
    have out : ∀ {a : Addr} {o : HO}, a ∉ S → H a = some o → a ∉ T := fun n e m => (g _ m).elim n fun z => by rw [z] at e; cases e
    rcases h with h | ⟨a, xs, ds, e1, e2, n, h, hl, p⟩ | ⟨a, xs, ds, e1, e2, n, h, hl, p⟩
    · exact .inl h
    · exact .inr (.inl ⟨a, xs, ds, e1, e2, out n h, h, hl, Paired.mapP p fun _ _ q => Dz.grow g q⟩)
    · exact .inr (.inr ⟨a, xs, ds, e1, e2, out n h, h, hl, Paired.mapP p fun _ _ q => Dz.grow g q⟩)
theorem Dz.up {S : List Addr} {H : Hp} : ∀ {n : Nat} {v : V} {d : PyData}, Dz S H n v d → Dz S H (n + 1) v d
  | 0, _, _, h => .inl h
  | n + 1, v, d, h => by
    rcases h with h | ⟨a, xs, ds, e1, e2, n, h, hl, p⟩ | ⟨a, xs, ds, e1, e2, n, h, hl, p⟩
    · exact .inl h
    · exact .inr (.inl ⟨a, xs, ds, e1, e2, n, h, hl, Paired.mapP p fun _ _ q => Dz.up q⟩)
    · exact .inr (.inr ⟨a, xs, ds, e1, e2, n, h, hl, Paired.mapP p fun _ _ q => Dz.up q⟩)
/-- all of it is new -/
theorem Da.dz_of {S : List Addr} {H : Hp} {n : Nat} {v : V} {d : PyData} (h : Dz [] H n v d) (f : ∀ x ∈ S, H x = none) : Dz S H n v d := Dz.grow (fun x m => .inr (f x m)) h
theorem Dz.int {S : List Addr} {H : Hp} {n : Nat} {i : Int} : Dz S H n (.int i) (.int i) := AtomD.dz (.inr (.inr (.inl ⟨i, rfl, rfl⟩)))
theorem Dz.bl {S : List Addr} {H : Hp} {n : Nat} {i : Bool} : Dz S H n (.bl i) (.bool i) := AtomD.dz (.inr (.inl ⟨i, rfl, rfl⟩))
theorem Dz.non {S : List Addr} {H : Hp} {n : Nat} : Dz S H n .non .none := AtomD.dz (.inl ⟨rfl, rfl⟩)
theorem Dz.str {S : List Addr} {H : Hp} {n : Nat} {x : Str} (h : PyData.strOk x = true) : Dz S H n (.str x) (.str x) := AtomD.dz (.inr (.inr (.inr ⟨x, rfl, rfl, h⟩)))
theorem Dz.lst {S : List Addr} {H : Hp} {n : Nat} {a : Addr} {xs : List V} {ds : List PyData} (h : H a = some (.lst xs)) (ha : a ∉ S) (hl : xs.length ≤ 100000) (p : Paired (Dz S H n) xs ds) : Dz S H (n + 1) (.ref a) (.list ds) := .inr (.inl ⟨a, xs, ds, rfl, rfl, ha, h, hl, p⟩)
theorem Dz.tup {S : List Addr} {H : Hp} {n : Nat} {a : Addr} {xs : List V} {ds : List PyData} (h : H a = some (.tup xs)) (ha : a ∉ S) (hl : xs.length ≤ 100000) (p : Paired (Dz S H n) xs ds) : Dz S H (n + 1) (.ref a) (.tuple ds) := .inr (.inr ⟨a, xs, ds, rfl, rfl, ha, h, hl, p⟩)
theorem Dz.list_inv {S : List Addr} {H : Hp} {n : Nat} {v : V} {ds : List PyData} (h : Dz S H (n + 1) v (.list ds)) : ∃ a xs, v = .ref a ∧ a ∉ S ∧ H a = some (.lst xs) ∧ xs.length ≤ 100000 ∧ Paired (Dz S H n) xs ds := by
  rcases h with h | ⟨a, xs, ds', e1, e2, n, h, hl, p⟩ | ⟨a, xs, ds, e1, e2, n, h, hl, p⟩
  · rcases h with ⟨_, e⟩ | ⟨_, _, e⟩ | ⟨_, _, e⟩ | ⟨_, _, e, _⟩ <;> cases e
  · cases e2; exact ⟨a, xs, e1, n, h, hl, p⟩
  · cases e2
theorem Dz.tuple_inv {S : List Addr} {H : Hp} {n : Nat} {v : V} {ds : List PyData} (h : Dz S H (n + 1) v (.tuple ds)) : ∃ a xs, v = .ref a ∧ a ∉ S ∧ H a = some (.tup xs) ∧ xs.length ≤ 100000 ∧ Paired (Dz S H n) xs ds := by
  rcases h with h | ⟨a, xs, ds', e1, e2, n, h, hl, p⟩ | ⟨a, xs, ds', e1, e2, n, h, hl, p⟩
  · rcases h with ⟨_, e⟩ | ⟨_, _, e⟩ | ⟨_, _, e⟩ | ⟨_, _, e, _⟩ <;> cases e
  · cases e2
  · cases e2; exact ⟨a, xs, e1, n, h, hl, p⟩
theorem dz_strs {S : List Addr} {H : Hp} {n : Nat} : ∀ {ns : List Str}, (∀ x ∈ ns, PyData.strOk x = true) → Paired (Dz S H n) (ns.map V.str) (ns.map PyData.str)
  | [], _ => .nil
  | _ :: _, h => .cons (Dz.str (h _ List.mem_cons_self)) (dz_strs fun x m => h x (List.mem_cons_of_mem _ m))
theorem dz_strs_inv {S : List Addr} {H : Hp} {n : Nat} : ∀ {ns : List Str} {xs : List V}, Paired (Dz S H n) xs (ns.map PyData.str) → xs = ns.map V.str
  | [], _, h => by cases h; rfl
  | x :: ns, _, h => by
    cases h with
    | cons h t =>
      have e : ∀ {n : Nat} {v : V}, Dz S H n v (.str x) → v = .str x := by
        intro n v h
        have aux : ∀ {v : V}, AtomD v (.str x) → v = .str x := fun h => by rcases h with ⟨_, e⟩ | ⟨_, _, e⟩ | ⟨_, _, e⟩ | ⟨_, rfl, e, _⟩ <;> cases e; rfl
        cases n with
        | zero => exact aux h
        | succ n =>
          rcases h with h | ⟨_, _, _, _, e, _⟩ | ⟨_, _, _, _, e, _⟩
          · exact aux h
          · cases e
          · cases e
      rw [e h, dz_strs_inv t]
      rfl
theorem nodup_ix {α : Type} {l : List α} (nd : l.Nodup) {i j : Nat} {a : α} (h1 : l[i]? = some a) (h2 : l[j]? = some a) : i = j := by
  obtain ⟨l1, e1⟩ := List.getElem?_eq_some_iff.mp h1
  obtain ⟨l2, e2⟩ := List.getElem?_eq_some_iff.mp h2
  have p := List.pairwise_iff_getElem.mp nd
  rcases Nat.lt_trichotomy i j with h | h | h
  · exact absurd (e1.trans e2.symm) (p i j l1 l2 h)
  · exact h
  · exact absurd (e2.trans e1.symm) (p j i l2 l1 h)
theorem eqv_strs : ∀ {l m : List Str}, PyData.eqvAll (l.map PyData.str) (m.map PyData.str) = decide (l = m)
  | [], [] => by simp [PyData.eqvAll]
  | [], _ :: _ => by simp [PyData.eqvAll]
  | _ :: _, [] => by simp [PyData.eqvAll]
  | x :: l, y :: m => by
    rw [List.map_cons, List.map_cons, PyData.eqvAll, eqv_strs]
    have : PyData.eqv (.str x) (.str y) = decide (x = y) := by simp [PyData.eqv]; rfl
    rw [this]
    by_cases h1 : x = y <;> by_cases h2 : l = m <;> simp [h1, h2]
theorem da_strs {H : Hp} {n : Nat} {a : Addr} {l : List Str} (h : H a = some (.lst (l.map V.str))) (hl : l.length ≤ 100000) (ok : ∀ x ∈ l, PyData.strOk x = true) : Da H (n + 1) (.ref a) (.list (l.map PyData.str)) :=
  Da.lst h (by rw [List.length_map]; exact hl) (Paired.mapP (dz_strs (S := []) (H := H) ok) fun _ _ q => q.da)
theorem dat_strs {H : Hp} {n : Nat} {a : Addr} {l : List Str} (h : H a = some (.tup (l.map V.str))) (hl : l.length ≤ 100000) (ok : ∀ x ∈ l, PyData.strOk x = true) : Da H (n + 1) (.ref a) (.tuple (l.map PyData.str)) :=
  Da.tup h (by rw [List.length_map]; exact hl) (Paired.mapP (dz_strs (S := []) (H := H) ok) fun _ _ q => q.da)
theorem eqD_strs {K : PySem.W.Frag} {H : Hp} {Q : VK} {a b : Addr} {l m : List Str} (h1 : H a = some (.lst (l.map V.str))) (h2 : H b = some (.lst (m.map V.str))) (l1 : l.length ≤ 100000) (l2 : m.length ≤ 100000) (o1 : ∀ x ∈ l, PyData.strOk x = true) (o2 : ∀ x ∈ m, PyData.strOk x = true) (q : Q (.bl (decide (l = m))) H) : dEqD K (.ref a) (.ref b) H Q :=
  eqD_da (n := 1) (da_strs h1 l1 o1) (da_strs h2 l2 o2) (by decide) (by
    have : PyData.eqv (.list (l.map PyData.str)) (.list (m.map PyData.str)) = decide (l = m) := by rw [PyData.eqv, eqv_strs]
    rw [this]
    exact q)
theorem neD_strs {K : PySem.W.Frag} {H : Hp} {Q : VK} {a b : Addr} {l m : List Str} (h1 : H a = some (.lst (l.map V.str))) (h2 : H b = some (.lst (m.map V.str))) (l1 : l.length ≤ 100000) (l2 : m.length ≤ 100000) (o1 : ∀ x ∈ l, PyData.strOk x = true) (o2 : ∀ x ∈ m, PyData.strOk x = true) (q : Q (.bl (!decide (l = m))) H) : dNeD K (.ref a) (.ref b) H Q :=
  neD_da (n := 1) (da_strs h1 l1 o1) (da_strs h2 l2 o2) (by decide) (by
    have : PyData.eqv (.list (l.map PyData.str)) (.list (m.map PyData.str)) = decide (l = m) := by rw [PyData.eqv, eqv_strs]
    rw [this]
    exact q)
theorem flat_strs {l : List Str} : (l.map V.str).all flatV = true := by
  rw [List.all_eq_true]
  intro x hx
  obtain ⟨s, _, rfl⟩ := List.mem_map.mp hx
  rfl
theorem cnt_strs {x : Str} {l : List Str} : cntV (.str x) (l.map V.str) = l.count x := by
  unfold cntV
  rw [List.countP_map, List.count]
  rfl
theorem in_strs {x : Str} {l : List Str} : inV (.str x) (l.map V.str) = decide (x ∈ l) := by
  unfold inV
  rw [List.any_map]
  induction l with
  | nil => rfl
  | cons y l ih =>
    rw [List.any_cons, ih]
    have : ((fun y => eqV y (V.str x)) ∘ V.str) y = decide (y = x) := by show (y == x) = _; rfl
    rw [this]
    by_cases h : y = x
    · subst h; simp
    · have : ¬ x = y := fun e => h e.symm
      simp [h, this]
theorem slice_strs {l : List Str} {k : Nat} : (l.map V.str).take k = (l.take k).map V.str := by rw [List.map_take]
theorem paired_refs {β : Type} {F : Addr → β → Prop} {qs : List Addr} {R : List β} (h : Paired F qs R) : Paired (fun v r => ∃ q, v = V.ref q ∧ F q r) (qs.map V.ref) R := by
  induction h with
  | nil => exact .nil
  | cons h _ ih => exact .cons ⟨_, rfl, h⟩ ih
theorem paired_strs : ∀ {l : List Str}, Paired (fun v x => v = V.str x) (l.map V.str) l
  | [] => .nil
  | _ :: _ => .cons rfl paired_strs
theorem paired_mapv {β : Type} {f : β → V} : ∀ {l : List β}, Paired (fun v x => v = f x) (l.map f) l
  | [] => .nil
  | _ :: _ => .cons rfl paired_mapv
theorem paired_mem {α β : Type} {F G : α → β → Prop} : ∀ {l : List α} {m : List β}, Paired F l m → (∀ a b, a ∈ l → F a b → G a b) → Paired G l m
  | _, _, .nil, _ => .nil
  | _, _, .cons h t, hh => .cons (hh _ _ List.mem_cons_self h) (paired_mem t fun a b m f => hh a b (List.mem_cons_of_mem _ m) f)
theorem paired_get {α β : Type} {F : α → β → Prop} : ∀ {l : List α} {m : List β} {i : Nat} {a : α} {b : β}, Paired F l m → l[i]? = some a → m[i]? = some b → F a b
  | _, _, _, _, _, .nil, e, _ => by simp at e
  | _, _, 0, _, _, .cons h _, e1, e2 => by simp at e1 e2; subst e1 e2; exact h
  | _, _, i + 1, _, _, .cons _ t, e1, e2 => paired_get t (by simpa using e1) (by simpa using e2)
/-- comprehensions whose values are new objects -/
theorem lcR_new {lo : Int} {n : Nat} {g : TG} {tt : TT} {te : TE} {vs : List Nat} {σ : L2.St} {H1 : Hp} {Q : VK} (hz : n ≤ 1000000) (obj : Nat → HO)
    (turn : ∀ (i : Nat), i < n → ∀ H, Same H1 H → ∀ (k1 : VK) (k0 : Hp → Prop), (∀ q H', Same H H' → H q = none → H' q = some (obj i) → k1 (.ref q) H') → LcTurn g tt te vs σ (.int (lo + (i : Nat))) H k1 k0)
    (hd : ∀ D H qs, H1 D = none → Same H1 H → H D = some (.lst (qs.map V.ref)) → qs.Nodup → D ∉ qs → (∀ q ∈ qs, H1 q = none) → Paired (fun q i => H q = some (obj i)) qs (List.range n) → Q (.ref D) H) : LcJ (Itr lo n) g tt te vs σ H1 Q := by
  refine fun D hD => lc_range (lo := lo) (n := n) (fun i H => Same H1 H ∧ ∃ qs, H D = some (.lst (qs.map V.ref)) ∧ qs.length = i ∧ qs.Nodup ∧ D ∉ qs ∧ (∀ q ∈ qs, H1 q = none) ∧ Paired (fun q i => H q = some (obj i)) qs (List.range i))
    ⟨same_new hD, [], upd_same, rfl, List.nodup_nil, by simp, by simp, .nil⟩ ?_ ?_
  · rintro i H hlt ⟨s, qs, hDs, hy, nd, nD, hn, pr⟩
    refine turn i hlt H s _ _ fun q H' s' hq hq' => ⟨qs.map V.ref, s' D _ hDs, by rw [List.length_map, sizeLine_eq]; omega, same_mut (s.trans s') hD, qs ++ [q], by rw [upd_same, List.map_append]; rfl, by rw [List.length_append, hy]; rfl, ?_, ?_, ?_, ?_⟩
    · refine List.nodup_append.mpr ⟨nd, by simp, ?_⟩
      rintro a ha b hb rfl
      simp at hb
      subst hb
      obtain ⟨j, hj⟩ := List.getElem?_of_mem ha
      obtain ⟨x, _, hx⟩ := pairedGet pr hj
      rw [hq] at hx
      cases hx
    · intro m
      rcases List.mem_append.mp m with m | m
      · exact nD m
      · simp at m
        subst m
        rw [hq] at hDs
        cases hDs
    · intro x hx
      rcases List.mem_append.mp hx with hx | hx
      · exact hn x hx
      · simp at hx
        subst hx
        exact s.free hq
    · rw [List.range_succ]
      have ne : ∀ x ∈ qs, x ≠ D := fun x hx e => nD (by rw [← e]; exact hx)
      refine paired_app ?_ (.cons ?_ .nil)
      · refine paired_mem pr fun a b m f => ?_
        show upd H' D _ a = _
        rw [upd_ne (ne a m)]
        exact s' _ _ f
      · show upd H' D _ q = _
        rw [upd_ne (fun e => by rw [← e, hq] at hDs; cases hDs)]
        exact hq'
  · rintro H ⟨s, qs, hDs, hy, nd, nD, hn, pr⟩
    exact hd D H qs hD s hDs nd nD hn pr
theorem lcL_new {β : Type} {K : PySem.W.Frag} {a : Addr} {xs : List V} {ps : List β} {F : V → β → Prop} {g : TG} {tt : TT} {te : TE} {vs : List Nat} {σ : L2.St} {H1 : Hp} {Q : VK} (hq : SqL K H1 a xs) (pp : Paired F xs ps) (hz : xs.length ≤ 1000000) (obj : β → HO)
    (turn : ∀ (i : Nat) (x : V) (b : β), xs[i]? = some x → ps[i]? = some b → F x b → ∀ H, Same H1 H → ∀ (k1 : VK) (k0 : Hp → Prop), (∀ q H', Same H H' → H q = none → H' q = some (obj b) → k1 (.ref q) H') → LcTurn g tt te vs σ x H k1 k0)
    (hd : ∀ D H qs, H1 D = none → Same H1 H → H D = some (.lst (qs.map V.ref)) → qs.Nodup → D ∉ qs → (∀ q ∈ qs, H1 q = none) → Paired (fun q b => H q = some (obj b)) qs ps → Q (.ref D) H) : LcL K a g tt te vs σ H1 Q := by
  refine ⟨⟨_, hq⟩, fun D hD => lc_list (K := K) (a := a) (xs := xs) (fun i H => Same H1 H ∧ ∃ qs, H D = some (.lst (qs.map V.ref)) ∧ qs.length = i ∧ qs.Nodup ∧ D ∉ qs ∧ (∀ q ∈ qs, H1 q = none) ∧ Paired (fun q b => H q = some (obj b)) qs (ps.take i))
    ⟨same_new hD, [], upd_same, rfl, List.nodup_nil, by simp, by simp, .nil⟩ (fun i H _ p => p.1.seq hq) ?_ ?_⟩
  · rintro i x H hx ⟨s, qs, hDs, hy, nd, nD, hn, pr⟩
    have hlt := (List.getElem?_eq_some_iff.mp hx).1
    obtain ⟨b, hb, hF⟩ := pairedGet pp hx
    have e1 : ps.take (i + 1) = ps.take i ++ [b] := by rw [List.take_succ, hb]; rfl
    refine turn i x b hx hb hF H s _ _ fun q H' s' hq hq' => ⟨qs.map V.ref, s' D _ hDs, by rw [List.length_map, sizeLine_eq]; omega, same_mut (s.trans s') hD, qs ++ [q], by rw [upd_same, List.map_append]; rfl, by rw [List.length_append, hy]; rfl, ?_, ?_, ?_, ?_⟩
    · refine List.nodup_append.mpr ⟨nd, by simp, ?_⟩
      rintro a ha b hb rfl
      simp at hb
      subst hb
      obtain ⟨j, hj⟩ := List.getElem?_of_mem ha
      obtain ⟨x, _, hx⟩ := pairedGet pr hj
      rw [hq] at hx
      cases hx
    · intro m
      rcases List.mem_append.mp m with m | m
      · exact nD m
      · simp at m
        subst m
        rw [hq] at hDs
        cases hDs
    · intro x hx
      rcases List.mem_append.mp hx with hx | hx
      · exact hn x hx
      · simp at hx
        subst hx
        exact s.free hq
    · rw [e1]
      have ne : ∀ x ∈ qs, x ≠ D := fun x hx e => nD (by rw [← e]; exact hx)
      refine paired_app ?_ (.cons ?_ .nil)
      · refine paired_mem pr fun a b m f => ?_
        show upd H' D _ a = _
        rw [upd_ne (ne a m)]
        exact s' _ _ f
      · show upd H' D _ q = _
        rw [upd_ne (fun e => by rw [← e, hq] at hDs; cases hDs)]
        exact hq'
  · rintro H ⟨s, qs, hDs, hy, nd, nD, hn, pr⟩
    rw [paired_len pp, List.take_length] at pr
    exact hd D H qs hD s hDs nd nD hn pr
theorem getD_at {α : Type} {l : List α} {i : Nat} {x d : α} (h : l[i]? = some x) : l.getD i d = x := by rw [List.getD_eq_getElem?_getD, h]; rfl
theorem atK_all {xs : List V} {i : Int} {k : V → Prop} (h0 : 0 ≤ i) (h1 : i < xs.length) (hk : ∀ v ∈ xs, k v) : atK xs i k := by
  obtain ⟨j, rfl⟩ := Int.eq_ofNat_of_zero_le h0
  have hj : j < xs.length := by omega
  exact atK_nat (List.getElem?_eq_getElem hj) (hk _ (List.getElem_mem hj))
/-- data that is kept while the addresses change -/
theorem Dz.move {S T : List Addr} {H H' : Hp} (k : Keep S H H') (g : ∀ x ∈ T, x ∈ S ∨ H x = none) : ∀ {n : Nat} {v : V} {d : PyData}, Dz S H n v d → Dz T H' n v d
  | 0, _, _, h => h
  | n + 1, v, d, h => by
    have out : ∀ {a : Addr} {o : HO}, a ∉ S → H a = some o → a ∉ T := fun n e m => (g _ m).elim n fun z => by rw [z] at e; cases e
    rcases h with h | ⟨a, xs, ds, e1, e2, n, h, hl, p⟩ | ⟨a, xs, ds, e1, e2, n, h, hl, p⟩
    · exact .inl h
    · exact .inr (.inl ⟨a, xs, ds, e1, e2, out n h, k a _ h n, hl, Paired.mapP p fun _ _ q => Dz.move k g q⟩)
    · exact .inr (.inr ⟨a, xs, ds, e1, e2, out n h, k a _ h n, hl, Paired.mapP p fun _ _ q => Dz.move k g q⟩)
/-- the other way first -/
theorem ifS_els {c : TT} {t e : TS} {D : Ends} {σ : L2.St} {H : Hp} (he : e D σ H) (h : ∀ e' : TS, e' D σ H → tIfS c t e' D σ H) : tIfS c t e D σ H := h e he
theorem Dz.non_inv {S : List Addr} {H : Hp} {n : Nat} {v : V} (h : Dz S H n v .none) : v = .non := by
  have aux : AtomD v .none → v = .non := fun h => by rcases h with ⟨rfl, _⟩ | ⟨_, _, e⟩ | ⟨_, _, e⟩ | ⟨_, _, e, _⟩ <;> first | rfl | cases e
  cases n with
  | zero => exact aux h
  | succ n =>
    rcases h with h | ⟨_, _, _, _, e, _⟩ | ⟨_, _, _, _, e, _⟩
    · exact aux h
    · cases e
    · cases e
theorem Dz.str_inv {S : List Addr} {H : Hp} {n : Nat} {v : V} {x : Str} (h : Dz S H n v (.str x)) : v = .str x ∧ PyData.strOk x = true := by
  have aux : AtomD v (.str x) → v = .str x ∧ PyData.strOk x = true := fun h => by rcases h with ⟨_, e⟩ | ⟨_, _, e⟩ | ⟨_, _, e⟩ | ⟨_, rfl, e, h⟩ <;> cases e; exact ⟨rfl, h⟩
  cases n with
  | zero => exact aux h
  | succ n =>
    rcases h with h | ⟨_, _, _, _, e, _⟩ | ⟨_, _, _, _, e, _⟩
    · exact aux h
    · cases e
    · cases e
theorem Dz.int_inv {S : List Addr} {H : Hp} {n : Nat} {v : V} {x : Int} (h : Dz S H n v (.int x)) : v = .int x := by
  have aux : AtomD v (.int x) → v = .int x := fun h => by rcases h with ⟨_, e⟩ | ⟨_, _, e⟩ | ⟨_, rfl, e⟩ | ⟨_, _, e, h⟩ <;> cases e; rfl
  cases n with
  | zero => exact aux h
  | succ n =>
    rcases h with h | ⟨_, _, _, _, e, _⟩ | ⟨_, _, _, _, e, _⟩
    · exact aux h
    · cases e
    · cases e
theorem paired_mapR {α β γ : Type} {G : α → γ → Prop} {f : β → γ} : ∀ {l : List α} {m : List β}, Paired (fun a b => G a (f b)) l m → Paired G l (m.map f)
  | _, _, .nil => .nil
  | _, _, .cons h t => .cons h (paired_mapR t)
theorem paired_range {α β : Type} {G : α → β → Prop} {f : Nat → β} {rs : List α} {l : List β} (h : Paired (fun q i => G q (f i)) rs (List.range l.length)) (hf : ∀ i x, l[i]? = some x → f i = x) : Paired G rs l := by
  have e : l = (List.range l.length).map f := by
    apply List.ext_getElem?
    intro i
    rw [List.getElem?_map]
    cases e : l[i]? with
    | none =>
      have := List.getElem?_eq_none_iff.mp e
      rw [List.getElem?_eq_none_iff.mpr (by rw [List.length_range]; exact this)]
      rfl
    | some x =>
      have hl := (List.getElem?_eq_some_iff.mp e).1
      rw [List.getElem?_range hl]
      show some x = some (f i)
      rw [hf i x e]
  rw [e]
  exact paired_mapR h
theorem notInD_da {K : PySem.W.Frag} {H : Hp} {Q : VK} {n : Nat} {x y : V} {d : PyData} {ds : List PyData} (h : Da H n x d) (h' : Da H n y (.list ds)) (hn : n ≤ 64) (m : d ∈ ds) (q : Q (.bl false) H) : rNotInD K x y H Q := by
  refine ⟨d, ds, h.dp, h'.dp, h.shaped hn, h'.shaped hn, ?_⟩
  have : (ds.any fun z => PyData.eqv z d) = true := List.any_eq_true.mpr ⟨d, m, SeqAt.eqv_refl d h.lay.1⟩
  rw [this]
  exact q
/-! ### the order of data: <, sorted, min, max -/
section
variable {X : Cx}
def rLtD (K : PySem.W.Frag) : R2 := fun x y H Q => ∃ d e, Dp K H x d ∧ Dp K H y e ∧ PySem.W.alike d e = true ∧ d ≠ .none ∧ d.depth ≤ 64 ∧ Q (.bl (PySem.W.dataLt d e)) H
theorem op_ltD (hu : X.A.units + 64 < cLine) : OpR X (compareOp .Lt) (rLtD X.K) := by
  intro pins s σ H x y v u Q I rx ry h
  obtain ⟨d, e, hd, he, ha, hn, hdp, q⟩ := h
  obtain ⟨as, r1⟩ := Dp.reads I d x v hd rx
  obtain ⟨bs, r2⟩ := Dp.reads I e y u he ry
  exact PySem.W.lt_data r1 r2 ha hn (by have := Nat.min_le_left d.depth e.depth; omega) ⟨.bl _, H, I, rfl, q⟩
def rSortD (K : PySem.W.Frag) : List V → Hp → VK → Prop := fun vs H Q => ∃ (a : Addr) (bs : List (V × PyData)), vs = [.ref a] ∧ SqL K H a (bs.map (·.1)) ∧ (∀ b ∈ bs, Dp K H b.1 b.2) ∧ PySem.W.AllAlike (bs.map (·.2)) ∧ PySem.W.Sortable (bs.map (·.2)) ∧ (∀ b ∈ bs, b.2.depth ≤ 60) ∧ bs.length ≤ 1000000 ∧
  ∀ p, H p = none → Q (.ref p) (upd H p (.lst ((bs.mergeSort (PySem.W.dataLe false (·.2))).map (·.1))))
theorem each_vals : ∀ {bs : List (V × PyData)} {us : List Value}, Vals (bs.map (·.1)) us → PySem.W.EachIs (fun u (b : V × PyData) => RelV b.1 u) us bs
  | [], _, h => by cases h; exact .nil
  | _ :: _, _, h => by
    cases h with
    | cons h t => exact .cons h (each_vals t)
theorem vals_each {us : List Value} {bs : List (V × PyData)} (h : PySem.W.EachIs (fun u (b : V × PyData) => RelV b.1 u) us bs) : Vals (bs.map (·.1)) us := by
  induction h with
  | nil => exact .nil
  | cons h _ ih => exact .cons h ih
theorem cr_sortD (hu : X.A.units + 64 < cLine) : CallR X (.builtin "sorted") (rSortD X.K) := by
  intro pins s σ H vs us Q I r h
  obtain ⟨a, bs, rfl, hs, hd, hal, hk, hdp, hl, q⟩ := h
  obtain ⟨its, rv, hil, hz⟩ := I.list hs
  rw [Vals.ref1 r]
  have e := each_vals rv
  have hL : bs.length ≤ sizeLine := by rw [sizeLine_eq]; omega
  have er : PySem.W.EachIs (fun v (b : V × PyData) => ∃ as, Reads s.heap v b.2 as) its bs := by
    clear rv hil hs hal hk hdp hl q hL hz
    induction e with
    | nil => exact .nil
    | @cons u b us bs h t ih => exact .cons (Dp.reads I b.2 b.1 u (hd b List.mem_cons_self) h) (ih fun b m => hd b (List.mem_cons_of_mem _ m))
  refine PySem.W.sorted_data (enc := fun b : V × PyData => b.2) hil.isList e er hal hk hL (fun b m => by have := hdp b m; omega) fun out h1 h2 => ?_
  obtain ⟨ep, he'⟩ := PyProof.Rows.sortedAll_at s.heap its out.toArray
  have hv := vals_each h2
  refine ⟨.ref _, upd H (s.heap.objs.size + 1) (.lst ((bs.mergeSort (PySem.W.dataLe false (·.2))).map (·.1))), I.laid (t' := s.toks) (fun _ _ => PyProof.Rows.sortedAll_old) (Nat.le_succ _) ⟨?_, out, ep, hv, ?_⟩, rfl, q _ (I.hok.fresh (Nat.le_succ _))⟩
  · rw [List.length_map, List.length_mergeSort]; exact hL
  · exact he'
def rBestD (m : PyData → List PyData → PyData) (K : PySem.W.Frag) : List V → Hp → VK → Prop := fun vs H Q => ∃ (a : Addr) (xs : List V) (d : PyData) (ds : List PyData), vs = [.ref a] ∧ SqL K H a xs ∧ Paired (Dp K H) xs (d :: ds) ∧ PySem.W.AlikeAll (d :: ds) ∧ PyData.depthAll (d :: ds) ≤ 60 ∧
  ∀ (i : Nat) (y : V), xs[i]? = some y → (d :: ds)[i]? = some (m d ds) → Q y H
theorem reads_vals {s : Shared} {pins : List (Addr × Obj)} {σ : L2.St} {H : Hp} (I : Inv X pins σ H s) : ∀ {xs : List V} {ds : List PyData} {us : List Value}, Paired (Dp X.K H) xs ds → Vals xs us → ∃ as, ReadsAll s.heap us ds as
  | _, _, _, .nil, h => by cases h; exact ⟨_, .nil⟩
  | _, _, _, .cons h t, hv => by
    cases hv with
    | cons hu tv =>
      obtain ⟨as, r⟩ := Dp.reads I _ _ _ h hu
      obtain ⟨bs, rs⟩ := reads_vals I t tv
      exact ⟨_, .cons r rs⟩
theorem best_mem {f : PyData → PyData → Bool} : ∀ {ds : List PyData} {d : PyData}, ds.foldl (fun a y => if f a y then y else a) d ∈ d :: ds
  | [], _ => List.mem_cons_self
  | x :: ds, d => by
    rw [List.foldl_cons]
    have := best_mem (f := f) (ds := ds) (d := if f d x then x else d)
    rcases List.mem_cons.mp this with h | h
    · rw [h]
      split
      · exact List.mem_cons_of_mem _ List.mem_cons_self
      · exact List.mem_cons_self
    · exact List.mem_cons_of_mem _ (List.mem_cons_of_mem _ h)
theorem cr_minD (hc : X.calm = true) (hu : X.A.units + 65 < cLine) : CallR X (.builtin "min") (rBestD PySem.W.minD X.K) := by
  intro pins s σ H vs us Q I r h
  obtain ⟨a, xs, d, ds, rfl, hs, pd, hal, hdp, q⟩ := h
  obtain ⟨its, rv, hil, hz⟩ := I.list hs
  rw [Vals.ref1 r]
  obtain ⟨as, hr⟩ := reads_vals I pd rv
  refine PySem.W.min_list_data (I.ok.hd hc) hil.isList (by simpa using hr) hal (by omega) fun i v h' tk bs hv rb hk => ?_
  have hv' : its[i]? = some v := by simpa using hv
  obtain ⟨y, hy, ry⟩ : ∃ y, xs[i]? = some y ∧ RelV y v := by
    have hl := rv.length
    have hi : i < xs.length := by rw [hl]; exact (List.getElem?_eq_some_iff.mp hv').1
    obtain ⟨u, hu, ru⟩ := rv.get (List.getElem?_eq_getElem hi)
    rw [hv'] at hu
    cases hu
    exact ⟨_, List.getElem?_eq_getElem hi, ru⟩
  obtain ⟨e, he, dy⟩ := pairedGet pd hy
  obtain ⟨cs, rc⟩ := Dp.reads I e y v dy ry
  have : e = PySem.W.minD d ds := PySem.W.alike_unique _ _ _ _ _ (hal.1 _ (List.mem_of_getElem? he) _ (best_mem (f := fun a y => PySem.W.dataLt y a))) (PySem.W.reads_keeps hk rc) rb
  subst this
  exact ⟨y, H, I.kept hk, ry, q i y hy he⟩
theorem cr_maxD (hc : X.calm = true) (hu : X.A.units + 65 < cLine) : CallR X (.builtin "max") (rBestD PySem.W.maxD X.K) := by
  intro pins s σ H vs us Q I r h
  obtain ⟨a, xs, d, ds, rfl, hs, pd, hal, hdp, q⟩ := h
  obtain ⟨its, rv, hil, hz⟩ := I.list hs
  rw [Vals.ref1 r]
  obtain ⟨as, hr⟩ := reads_vals I pd rv
  refine PySem.W.max_list_data (I.ok.hd hc) hil.isList (by simpa using hr) hal (by omega) fun i v h' tk bs hv rb hk => ?_
  have hv' : its[i]? = some v := by simpa using hv
  obtain ⟨y, hy, ry⟩ : ∃ y, xs[i]? = some y ∧ RelV y v := by
    have hl := rv.length
    have hi : i < xs.length := by rw [hl]; exact (List.getElem?_eq_some_iff.mp hv').1
    obtain ⟨u, hu, ru⟩ := rv.get (List.getElem?_eq_getElem hi)
    rw [hv'] at hu
    cases hu
    exact ⟨_, List.getElem?_eq_getElem hi, ru⟩
  obtain ⟨e, he, dy⟩ := pairedGet pd hy
  obtain ⟨cs, rc⟩ := Dp.reads I e y v dy ry
  have : e = PySem.W.maxD d ds := PySem.W.alike_unique _ _ _ _ _ (hal.1 _ (List.mem_of_getElem? he) _ (best_mem (f := fun a y => PySem.W.dataLt a y))) (PySem.W.reads_keeps hk rc) rb
  subst this
  exact ⟨y, H, I.kept hk, ry, q i y hy he⟩
end
/-! ### more displays and sums -/
def dStar (te : TE) (t : TA) : TA := fun σ H Q => te σ H fun x H1 => match x with
  | .ref p => seqAt (H1 p) fun xs => t σ H1 fun ys H2 => Q (xs ++ ys) H2
  | _ => False
/-- + of ints, texts, lists, tuples -/
def dAdd2 : R2 := fun x y H Q => match x, y with
  | .int i, .int j => Q (.int (i + j)) H
  | .str i, .str j => i.length + j.length ≤ sizeLine ∧ Q (.str (i ++ j)) H
  | .ref a, .ref b => match H a, H b with
    | some (.lst xs), some (.lst ys) => xs.length + ys.length ≤ sizeLine ∧ ∀ p, H p = none → Q (.ref p) (upd H p (.lst (xs ++ ys)))
    | some (.tup xs), some (.tup ys) => xs.length + ys.length ≤ sizeLine ∧ (xs = [] → Q (.ref b) H) ∧ (xs ≠ [] → ys = [] → Q (.ref a) H) ∧ (xs ≠ [] → ys ≠ [] → ∀ p, H p = none → Q (.ref p) (upd H p (.tup (xs ++ ys))))
    | _, _ => False
  | _, _ => False
def dGcd : List V → Hp → VK → Prop := fun vs H Q => match vs with
  | [.int a, .int b] => Q (.int ((Nat.gcd a.natAbs b.natAbs : Nat) : Int)) H
  | _ => False
section
variable {X : Cx}
theorem d_star {e : Expr} {es : List Expr} {te : TE} {t : TA} {p : Pos} (he : PE X e te) (hr : PA X es t) (hs : starEach (.Starred e p :: es) X.env = (true, eval e X.env) :: starEach es X.env := by rfl) : PA X (.Starred e p :: es) (dStar te t) := by
  have h := StX.pa_star (peM he) hr hs
  refine ⟨fun pos pins s σ H Q I q => h.run pos pins s σ H Q I ⟨_, q, fun v H' q2 => ?_⟩⟩
  split at q2
  · obtain ⟨xs, hs, q3⟩ := seqAt_sq (K := X.K) q2
    exact ⟨_, xs, rfl, hs.symm, q3⟩
  · exact q2.elim
theorem d_add2 : OpR X (binaryOp .Add) dAdd2 := opM (u_add (X := X)) fun x y H Q q => by
  unfold dAdd2 at q
  split at q
  · exact .inl ⟨_, _, rfl, rfl, q⟩
  · exact .inr (.inl ⟨_, _, rfl, rfl, q.1, q.2⟩)
  · split at q
    · rename_i h1 h2
      exact .inr (.inr (.inl ⟨_, _, _, _, rfl, rfl, h1, h2, q.1, q.2⟩))
    · rename_i xs ys h1 h2
      exact .inr (.inr (.inr ⟨_, _, xs, ys, rfl, rfl, .inl (.inl h1), .inl (.inl h2), q.1, q.2.1, q.2.2.1, q.2.2.2⟩))
    · exact q.elim
  · exact q.elim
theorem d_gcd : CallR X (.builtin "math.gcd") dGcd := caM cr_gcd fun xs H Q q => by
  unfold dGcd at q
  split at q
  · exact ⟨_, _, rfl, q⟩
  · exact q.elim
end
/-! ### comprehensions with two fors -/
section
variable {K : PySem.W.Frag}
abbrev Lc2In (wi1 : TI) (g1 : TG) (tt1 : TT) (te : TE) (vs1 : List Nat) (D : Addr) (σ2 : L2.St) (H3 : Hp) (Nx : Hp → Prop) : Prop :=
  wi1 σ2 H3 fun J1 H4 => ∃ W1 : Nat → Nat → Hp → Prop, (∃ m, W1 0 m H4) ∧ ∀ j k H, W1 j k H →
    (J1.stop j H ∧ Nx H) ∨ (J1.go j H ∧ ∃ Nx1 : Hp → Prop, (∀ H', Nx1 H' → ∃ k', k' < k ∧ W1 (j + 1) k' H') ∧ ∀ x H', J1.yld j H x H' → g1 x (wipe σ2 vs1) H' fun σ3 H5 => wipe σ3 vs1 = wipe σ2 vs1 ∧ tt1 σ3 H5 fun b H6 =>
      if b = true then te σ3 H6 fun y H7 => ∃ acc, H7 D = some (.lst acc) ∧ acc.length < sizeLine ∧ Nx1 (upd H7 D (.lst (acc ++ [y]))) else Nx1 H6)
/-- the inner walk of a sequence -/
theorem lc2_in {J : It} {n : Nat} {g1 : TG} {tt1 : TT} {te : TE} {vs1 : List Nat} {D : Addr} {σ2 : L2.St} {H4 : Hp} {Nx : Hp → Prop} (it : Nat → V → Prop) (Pw : Nat → Hp → Prop) (h0 : Pw 0 H4)
    (hgo : ∀ j H, j < n → Pw j H → J.go j H) (hst : ∀ H, Pw n H → J.stop n H) (hy : ∀ j H x H', j < n → Pw j H → J.yld j H x H' → H' = H ∧ it j x)
    (hs : ∀ j x H, j < n → it j x → Pw j H → g1 x (wipe σ2 vs1) H fun σ3 H5 => wipe σ3 vs1 = wipe σ2 vs1 ∧ tt1 σ3 H5 fun b H6 => if b = true then te σ3 H6 fun y H7 => ∃ acc, H7 D = some (.lst acc) ∧ acc.length < sizeLine ∧ Pw (j + 1) (upd H7 D (.lst (acc ++ [y]))) else Pw (j + 1) H6) (hd : ∀ H, Pw n H → Nx H) :
    ∃ W1 : Nat → Nat → Hp → Prop, (∃ m, W1 0 m H4) ∧ ∀ j k H, W1 j k H →
      (J.stop j H ∧ Nx H) ∨ (J.go j H ∧ ∃ Nx1 : Hp → Prop, (∀ H', Nx1 H' → ∃ k', k' < k ∧ W1 (j + 1) k' H') ∧ ∀ x H', J.yld j H x H' → g1 x (wipe σ2 vs1) H' fun σ3 H5 => wipe σ3 vs1 = wipe σ2 vs1 ∧ tt1 σ3 H5 fun b H6 =>
        if b = true then te σ3 H6 fun y H7 => ∃ acc, H7 D = some (.lst acc) ∧ acc.length < sizeLine ∧ Nx1 (upd H7 D (.lst (acc ++ [y]))) else Nx1 H6) := by
  refine ⟨fun j k H => k = n - j ∧ j ≤ n ∧ Pw j H, ⟨n, by omega, Nat.zero_le _, h0⟩, ?_⟩
  rintro j k H ⟨rfl, hj, p⟩
  rcases Nat.lt_or_ge j n with h | h
  · refine .inr ⟨hgo j H h p, Pw (j + 1), fun H' q => ⟨n - (j + 1), by omega, rfl, h, q⟩, fun x H' y => ?_⟩
    obtain ⟨rfl, e⟩ := hy j H x H' h p y
    exact hs j x _ h e p
  · have : j = n := by omega
    subst this
    exact .inl ⟨hst H p, hd H p⟩
end
/-- a walk over what stands as a list or a tuple, old or new -/
structure SeqJ (K : PySem.W.Frag) (J : It) (H1 H H4 : Hp) (ys : List V) : Prop where
  ex : ∃ b, (H b = none ∨ H1 b ≠ none) ∧ ((J = Itl K b ∧ H4 b = some (.lst ys)) ∨ (J = Itt K b ∧ H4 b = some (.tup ys)))
section
variable {K : PySem.W.Frag}
/-- the outer walk -/
theorem lc2_out {J : It} {n : Nat} {g : TG} {tt : TT} {wi1 : TI} {g1 : TG} {tt1 : TT} {te : TE} {vs vs1 : List Nat} {σ : L2.St} {H1 : Hp} {D : Addr} {Qd : Hp → Prop} (it : Nat → V → Prop) (Pv : Nat → Hp → Prop) (h0 : Pv 0 (upd H1 D (.lst [])))
    (hgo : ∀ j H, j < n → Pv j H → J.go j H) (hst : ∀ H, Pv n H → J.stop n H) (hy : ∀ j H x H', j < n → Pv j H → J.yld j H x H' → H' = H ∧ it j x)
    (hs : ∀ j x H, j < n → it j x → Pv j H → g x (wipe σ vs) H fun σ2 H2 => wipe σ2 vs = wipe σ vs ∧ tt σ2 H2 fun b H3 => if b = true then Lc2In wi1 g1 tt1 te vs1 D σ2 H3 (Pv (j + 1)) else Pv (j + 1) H3) (hd : ∀ H, Pv n H → Qd H) :
    ∃ W : Nat → Nat → Hp → Prop, (∃ m, W 0 m (upd H1 D (.lst []))) ∧ ∀ i m H, W i m H →
      (J.stop i H ∧ Qd H) ∨ (J.go i H ∧ ∃ Nx : Hp → Prop, (∀ H', Nx H' → ∃ m', m' < m ∧ W (i + 1) m' H') ∧ ∀ x H', J.yld i H x H' → g x (wipe σ vs) H' fun σ2 H2 => wipe σ2 vs = wipe σ vs ∧ tt σ2 H2 fun b H3 =>
        if b = true then Lc2In wi1 g1 tt1 te vs1 D σ2 H3 Nx else Nx H3) := by
  refine ⟨fun j k H => k = n - j ∧ j ≤ n ∧ Pv j H, ⟨n, by omega, Nat.zero_le _, h0⟩, ?_⟩
  rintro j k H ⟨rfl, hj, p⟩
  rcases Nat.lt_or_ge j n with h | h
  · refine .inr ⟨hgo j H h p, Pv (j + 1), fun H' q => ⟨n - (j + 1), by omega, rfl, h, q⟩, fun x H' y => ?_⟩
    obtain ⟨rfl, e⟩ := hy j H x H' h p y
    exact hs j x _ h e p
  · have : j = n := by omega
    subst this
    exact .inl ⟨hst H p, hd H p⟩
/-- what is found by two fors -/
theorem lc2_pair {β γ : Type} {a : Addr} {xs : List V} {ps : List β} {F : V → β → Prop} {g : TG} {tt : TT} {wi1 : TI} {g1 : TG} {tt1 : TT} {te : TE} {vs vs1 : List Nat} {σ : L2.St} {H1 : Hp} {Q : VK} (hq : SqL K H1 a xs) (pp : Paired F xs ps) (B : Nat) (hz : xs.length * B ≤ 1000000) (qs : β → List γ) (hqs : ∀ p, (qs p).length ≤ B)
    (G : β → V → γ → Prop) (R : β → γ → V → Hp → Prop) (st : ∀ p q y H H', KT H H' → R p q y H → R p q y H') (s2 : V → L2.St)
    (outer : ∀ (i : Nat) (x : V) (p : β), xs[i]? = some x → ps[i]? = some p → F x p → ∀ H, Same H1 H → ∀ (C : L2.St → It → Hp → Prop) (k0 : Hp → Prop), (∀ J H4 ys, Same H H4 → SeqJ K J H1 H H4 ys → Paired (G p) ys (qs p) → C (s2 x) J H4) →
      g x (wipe σ vs) H fun σ2 H2 => wipe σ2 vs = wipe σ vs ∧ tt σ2 H2 fun b H3 => if b = true then wi1 σ2 H3 (C σ2) else k0 H3)
    (inner : ∀ (i : Nat) (x : V) (p : β) (y : V) (q : γ), xs[i]? = some x → ps[i]? = some p → F x p → q ∈ qs p → G p y q → ∀ H, Same H1 H → ∀ (k1 : VK) (k0 : Hp → Prop), (∀ v H', Same H H' → R p q v H' → k1 v H') → LcTurn g1 tt1 te vs1 (s2 x) y H k1 k0)
    (hd : ∀ D H ys, H1 D = none → Same H1 H → H D = some (.lst ys) → Paired (fun pq v => R pq.1 pq.2 v H) (ps.flatMap fun p => (qs p).map fun q => (p, q)) ys → Q (.ref D) H) :
    ∀ D, H1 D = none → ∃ W : Nat → Nat → Hp → Prop, (∃ m, W 0 m (upd H1 D (.lst []))) ∧ ∀ i m H, W i m H →
      ((Itl K a).stop i H ∧ Q (.ref D) H) ∨ ((Itl K a).go i H ∧ ∃ Nx : Hp → Prop, (∀ H', Nx H' → ∃ m', m' < m ∧ W (i + 1) m' H') ∧ ∀ x H', (Itl K a).yld i H x H' → g x (wipe σ vs) H' fun σ2 H2 => wipe σ2 vs = wipe σ vs ∧ tt σ2 H2 fun b H3 =>
        if b = true then Lc2In wi1 g1 tt1 te vs1 D σ2 H3 Nx else Nx H3) := by
  intro D hD
  refine lc2_out (n := xs.length) (fun j x => xs[j]? = some x) (fun i H => Same H1 H ∧ ∃ acc, H D = some (.lst acc) ∧ acc.length ≤ i * B ∧ Paired (fun pq v => R pq.1 pq.2 v H) ((ps.take i).flatMap fun p => (qs p).map fun q => (p, q)) acc)
    ⟨same_new hD, [], upd_same, Nat.zero_le _, .nil⟩ ?_ ?_ ?_ ?_ ?_
  · rintro j H hj ⟨s, _⟩
    exact ⟨xs, xs[j], s.seq hq, List.getElem?_eq_getElem hj⟩
  · rintro H ⟨s, _⟩
    exact ⟨xs, s.seq hq, Nat.le_refl _⟩
  · rintro j H x H' hj ⟨s, _⟩ ⟨e, h⟩
    exact ⟨e, h xs (s.seq hq)⟩
  · rintro i x H hi hx ⟨s, acc, hDs, hy, pr⟩
    obtain ⟨p, hp, hF⟩ := pairedGet pp hx
    have e1 : ps.take (i + 1) = ps.take i ++ [p] := by rw [List.take_succ, hp]; rfl
    refine outer i x p hx hp hF H s (fun σ2 J1 H4 => _) _ fun J H4 ys s4 sj pg => ?_
    obtain ⟨b, hb, hJ⟩ := sj.ex
    have nb : b ≠ D := by
      rcases hb with hb | hb
      · intro e; rw [e, hDs] at hb; cases hb
      · intro e; rw [e] at hb; exact hb hD
    have hlen := paired_len pg
    have hB := hqs p
    have him : i * B + B ≤ 1000000 := by
      have h1 : (i + 1) * B ≤ xs.length * B := Nat.mul_le_mul_right _ hi
      rw [Nat.succ_mul] at h1
      omega
    refine lc2_in (J := J) (n := ys.length) (fun j y => ys[j]? = some y) (fun j H => Same H1 H ∧ H b = H4 b ∧ ∃ acc, H D = some (.lst acc) ∧ acc.length ≤ i * B + j ∧ Paired (fun pq v => R pq.1 pq.2 v H) (((ps.take i).flatMap fun p => (qs p).map fun q => (p, q)) ++ ((qs p).take j).map fun q => (p, q)) acc) ?_ ?_ ?_ ?_ ?_ ?_
    · refine ⟨s.trans s4, rfl, acc, s4 _ _ hDs, hy, ?_⟩
      rw [List.take_zero, List.map_nil, List.append_nil]
      exact Paired.mapP pr fun _ _ z => st _ _ _ _ _ (KT.same s4) z
    · rintro j H hj ⟨_, eb, _⟩
      rcases hJ with ⟨rfl, h⟩ | ⟨rfl, h⟩
      · exact ⟨ys, ys[j], .inl (.inl (eb.trans h)), List.getElem?_eq_getElem hj⟩
      · exact ⟨ys, ys[j], .inl (.inl (eb.trans h)), List.getElem?_eq_getElem hj⟩
    · rintro H ⟨_, eb, _⟩
      rcases hJ with ⟨rfl, h⟩ | ⟨rfl, h⟩
      · exact ⟨ys, .inl (.inl (eb.trans h)), Nat.le_refl _⟩
      · exact ⟨ys, .inl (.inl (eb.trans h)), Nat.le_refl _⟩
    · rintro j H y H' hj ⟨_, eb, _⟩ hyl
      rcases hJ with ⟨rfl, h⟩ | ⟨rfl, h⟩
      · exact ⟨hyl.1, hyl.2 ys (.inl (.inl (eb.trans h)))⟩
      · exact ⟨hyl.1, hyl.2 ys (.inl (.inl (eb.trans h)))⟩
    · rintro j y H hj hyj ⟨sH, eb, acc2, hD2, hl2, pr2⟩
      obtain ⟨q, hqj, hG⟩ := pairedGet pg hyj
      have hbs : H b ≠ none := by
        rw [eb]
        rcases hJ with ⟨_, h⟩ | ⟨_, h⟩ <;> rw [h] <;> simp
      refine inner i x p y q hx hp hF (List.mem_of_getElem? hqj) hG H sH _ _ fun v H' s' r => ⟨acc2, s' D _ hD2, by rw [sizeLine_eq]; omega, same_mut (sH.trans s') hD, ?_, acc2 ++ [v], upd_same, by rw [List.length_append, List.length_singleton]; omega, ?_⟩
      · rw [upd_ne nb]
        cases e : H b with
        | none => exact absurd e hbs
        | some o => rw [s' b o e, ← eb, e]
      · have kt : KT H (upd H' D (.lst (acc2 ++ [v]))) := (KT.same s').trans (KT.mut (by rw [s' D _ hD2]; rfl))
        have kt2 : KT H' (upd H' D (.lst (acc2 ++ [v]))) := KT.mut (by rw [s' D _ hD2]; rfl)
        have e2 : (qs p).take (j + 1) = (qs p).take j ++ [q] := by rw [List.take_succ, hqj]; rfl
        rw [e2, List.map_append, ← List.append_assoc]
        exact paired_app (Paired.mapP pr2 fun _ _ z => st _ _ _ _ _ kt z) (.cons (st _ _ _ _ _ kt2 r) .nil)
    · rintro H ⟨sH, _, acc2, hD2, hl2, pr2⟩
      rw [hlen, List.take_length] at pr2
      refine ⟨sH, acc2, hD2, by rw [Nat.succ_mul]; omega, ?_⟩
      rw [e1, List.flatMap_append]
      simpa using pr2
  · rintro H ⟨s, acc, hDs, hy, pr⟩
    rw [paired_len pp, List.take_length] at pr
    exact hd D H acc hD s hDs pr
end
def dIL (K : PySem.W.Frag) (tl : TE) : TI := fun σ H R => tl σ H fun x H1 => match x with
  | .ref a => (∃ xs, SqL K H1 a xs) ∧ R (Itl K a) H1
  | _ => False
def dIT (K : PySem.W.Frag) (tl : TE) : TI := fun σ H R => tl σ H fun x H1 => match x with
  | .ref a => (∃ xs, SqT K H1 a xs) ∧ R (Itt K a) H1
  | _ => False
def Lc2J (J : It) (g : TG) (tt : TT) (wi1 : TI) (g1 : TG) (tt1 : TT) (te : TE) (vs vs1 : List Nat) : L2.St → Hp → VK → Prop := fun σ H1 Q =>
  ∀ D, H1 D = none → ∃ W : Nat → Nat → Hp → Prop, (∃ m, W 0 m (upd H1 D (.lst []))) ∧ ∀ i m H, W i m H →
      (J.stop i H ∧ Q (.ref D) H) ∨ (J.go i H ∧ ∃ Nx : Hp → Prop, (∀ H', Nx H' → ∃ m', m' < m ∧ W (i + 1) m' H') ∧ ∀ x H', J.yld i H x H' → g x (wipe σ vs) H' fun σ2 H2 => wipe σ2 vs = wipe σ vs ∧ tt σ2 H2 fun b H3 =>
        if b = true then Lc2In wi1 g1 tt1 te vs1 D σ2 H3 Nx else Nx H3)
def dLc2 (K : PySem.W.Frag) (tl : TE) (g : TG) (tt : TT) (wi1 : TI) (g1 : TG) (tt1 : TT) (te : TE) (vs vs1 : List Nat) : TE := fun σ H Q => tl σ H fun x H1 => match x with
  | .ref a => (∃ xs, SqL K H1 a xs) ∧ Lc2J (Itl K a) g tt wi1 g1 tt1 te vs vs1 σ H1 Q
  | _ => False
section
variable {X : Cx}
theorem pi_dL {tg e : Expr} {tl : TE} (h : PE X e tl) : PI X tg e (dIL X.K tl) := by
  have h := pi_list (tg := tg) (peM h)
  refine ⟨fun pins s σ H R I q => h.run pins s σ H R I ⟨_, q, fun v H' q2 => ?_⟩⟩
  split at q2
  · exact ⟨_, rfl, q2.1, q2.2⟩
  · exact q2.elim
theorem pi_dT {tg e : Expr} {tl : TE} (h : PE X e tl) : PI X tg e (dIT X.K tl) := by
  have h := pi_tup (tg := tg) (peM h)
  refine ⟨fun pins s σ H R I q => h.run pins s σ H R I ⟨_, q, fun v H' q2 => ?_⟩⟩
  split at q2
  · exact ⟨_, rfl, q2.1, q2.2⟩
  · exact q2.elim
theorem lc2_l {K : PySem.W.Frag} {tl : TE} {g g1 : TG} {tt tt1 : TT} {te : TE} {wi1 : TI} {vs vs1 : List Nat} {σ : L2.St} {H : Hp} {Q : VK} (q1 : dLc2 K tl g tt wi1 g1 tt1 te vs vs1 σ H Q) : tLc2 (iList K (mE tl)) g tt wi1 g1 tt1 te vs vs1 σ H Q := ⟨_, q1, fun v H' q2 => by
  split at q2
  · exact ⟨_, rfl, q2.1, q2.2⟩
  · exact q2.elim⟩
variable {elt tg iter tg1 iter1 : Expr} {ifs ifs1 : List Expr} {scope : Scope} {own : List (Str × Nat)} {vs1 : List Nat} {pos : Pos} {tl te : TE} {wi1 : TI} {g g1 : TG} {tt tt1 : TT}
theorem d_lc2 (hc : X.calm = true) (hN : X.N.Nodup) (hl : PE X iter tl) (ok : BlkOk X.N X.env.scope scope own) (hv : ∀ i ∈ vs1, i ∈ own.map (·.2)) (hg : BG X scope tg g) (ht : BT X scope ifs tt)
    (hi1 : ∀ (s : Shared) (H : Hp) (C : Addr) (cl : List (Str × Addr)) (fp : List Addr), PI (X.blk s H scope (compEnvC scope cl C X.env) fp) tg1 iter1 wi1) (hg1 : BG X scope tg1 g1) (ht1 : BT X scope ifs1 tt1) (he : BE X scope elt te)
    (hs : ∀ x, foldedSetIterable iter X.env x = pure x := by intro _; rfl) (hs1 : ∀ env x, foldedSetIterable iter1 env x = pure x := by intro _ _; rfl) :
    PE X (.ListComp elt [⟨tg, iter, ifs, 0⟩, ⟨tg1, iter1, ifs1, 0⟩] scope pos) (dLc2 X.K tl g tt wi1 g1 tt1 te (own.map (·.2)) vs1) := peI (pe_lc2 hc hN (pi_list (peM hl)) ok hv hg ht hi1 hg1 ht1 he hs hs1) fun _ _ _ q => lc2_l q
theorem d_set2 {i : Nat} {y : Str} {py spos : Pos} (hc : X.calm = true) (hN : X.N.Nodup) (hy : X.N[i]? = some y) (hyl : X.env.scope.names.lookup y = some .local) (hsw : swapsWith (.ListComp elt [⟨tg, iter, ifs, 0⟩, ⟨tg1, iter1, ifs1, 0⟩] scope pos) (some (.Name y py)) spos.line X.env = pure true)
    (hl : PE X iter tl) (ok : BlkOk X.N X.env.scope scope own) (hv : ∀ i ∈ vs1, i ∈ own.map (·.2)) (hg : BG X scope tg g) (ht : BT X scope ifs tt)
    (hi1 : ∀ (s : Shared) (H : Hp) (C : Addr) (cl : List (Str × Addr)) (fp : List Addr), PI (X.blk s H scope (compEnvC scope cl C X.env) fp) tg1 iter1 wi1) (hg1 : BG X scope tg1 g1) (ht1 : BT X scope ifs1 tt1) (he : BE X scope elt te)
    (hs : ∀ x, foldedSetIterable iter X.env x = pure x := by intro _; rfl) (hs1 : ∀ env x, foldedSetIterable iter1 env x = pure x := by intro _ _; rfl) :
    PS X (.Assign [.Name y py] (.ListComp elt [⟨tg, iter, ifs, 0⟩, ⟨tg1, iter1, ifs1, 0⟩] scope pos) spos) (tAsg (dLc2 X.K tl g tt wi1 g1 tt1 te (own.map (·.2)) vs1) (gName i)) := psI (ps_setLc2 hc hN hy hyl hsw (pi_list (peM hl)) ok hv hg ht hi1 hg1 ht1 he hs hs1) fun _ _ _ q => lc2_l q
end
section
variable {X : Cx} {a b elt tg : Expr} {ifs : List Expr} {scope : Scope} {own : List (Str × Nat)} {te : TE} {ta : TA} {g : TG} {tt : TT} {pos p p2 : Pos} {i : Nat} {y : Str} {py spos : Pos}
theorem d_setR2 (hc : X.calm = true) (hN : X.N.Nodup) (hy : X.N[i]? = some y) (hyl : X.env.scope.names.lookup y = some .local) (hsw : swapsWith (.ListComp elt [⟨tg, .Call (.Name "range" p) [a, b] [] p2, ifs, 0⟩] scope pos) (some (.Name y py)) spos.line X.env = pure true)
    (hm : X.mg "range" = none) (ha : PA X [a, b] ta) (ok : BlkOk X.N X.env.scope scope own) (hg : BG X scope tg g) (ht : BT X scope ifs tt) (he : BE X scope elt te) (hgl : Gl X "range" := by rfl)
    (hs : ∀ x, foldedSetIterable (.Call (.Name "range" p) [a, b] [] p2) X.env x = pure x := by intro _; rfl) (hst : starEach [a, b] X.env = [(false, eval a X.env), (false, eval b X.env)] := by rfl) (hst2 : starEach [b] X.env = [(false, eval b X.env)] := by rfl) :
    PS X (.Assign [.Name y py] (.ListComp elt [⟨tg, .Call (.Name "range" p) [a, b] [] p2, ifs, 0⟩] scope pos) spos) (tAsg (dLcR2 ta g tt te (own.map (·.2))) (gName i)) := psI (ps_setLc hc hN hy hyl hsw (pi_range2 hgl hm (paM ha) hst hst2) ok hg ht he hs) fun _ _ _ q => lc_r2 q
end
/-! ### comprehensions over tuples; a tuple times an int -/
theorem lcT_core {K : PySem.W.Frag} {a : Addr} {xs : List V} {g : TG} {tt : TT} {te : TE} {vs : List Nat} {σ : L2.St} {H1 : Hp} {Q : VK} (hq : H1 a = some (.tup xs)) (hz : xs.length ≤ 1000000) (f : V → Bool) (R : V → V → Hp → Prop)
    (st : ∀ x y H H', KT H H' → R x y H → R x y H')
    (turn : ∀ x ∈ xs, ∀ H, Same H1 H → ∀ (k1 : VK) (k0 : Hp → Prop), (f x = true → ∀ y H', Same H H' → R x y H' → k1 y H') → (f x = false → ∀ H', Same H H' → k0 H') → LcTurn g tt te vs σ x H k1 k0)
    (hd : ∀ D H ys, H1 D = none → Same H1 H → H D = some (.lst ys) → Paired (fun x y => R x y H) (xs.filter f) ys → Q (.ref D) H) : LcT K a g tt te vs σ H1 Q := by
  refine ⟨⟨_, .of hq⟩, fun D hD => lc_tup (K := K) (a := a) (xs := xs) (fun i H => Same H1 H ∧ ∃ ys, H D = some (.lst ys) ∧ ys.length ≤ i ∧ Paired (fun x y => R x y H) ((xs.take i).filter f) ys) ⟨same_new hD, [], upd_same, Nat.le_refl _, .nil⟩ (fun i H _ p => .of (p.1 _ _ hq)) ?_ ?_⟩
  · rintro i x H hx ⟨s, ys, hDs, hy, pr⟩
    have hlt := (List.getElem?_eq_some_iff.mp hx).1
    have e1 : xs.take (i + 1) = xs.take i ++ [x] := by rw [List.take_succ, hx]; rfl
    refine turn x (List.mem_of_getElem? hx) H s _ _ (fun hf y H' s' r => ⟨ys, s' D _ hDs, Nat.lt_of_le_of_lt hy (by rw [sizeLine_eq]; omega), same_mut (s.trans s') hD, ys ++ [y], upd_same, by rw [List.length_append]; exact Nat.succ_le_succ hy, ?_⟩) fun hf H' s' => ⟨s.trans s', ys, s' D _ hDs, Nat.le_succ_of_le hy, ?_⟩
    · have kt : KT H (upd H' D (.lst (ys ++ [y]))) := (KT.same s').trans (KT.mut (by rw [s' D _ hDs]; rfl))
      have kt2 : KT H' (upd H' D (.lst (ys ++ [y]))) := KT.mut (by rw [s' D _ hDs]; rfl)
      rw [e1, List.filter_append, List.filter_cons, if_pos hf]
      exact paired_app (Paired.mapP pr fun _ _ z => st _ _ _ _ kt z) (.cons (st _ _ _ _ kt2 r) .nil)
    · rw [e1, List.filter_append, List.filter_cons, if_neg (by rw [hf]; decide), List.filter_nil, List.append_nil]
      exact Paired.mapP pr fun _ _ z => st _ _ _ _ (KT.same s') z
  · rintro H ⟨s, ys, hDs, hy, pr⟩
    rw [List.take_length] at pr
    exact hd D H ys hD s hDs pr
theorem lc2_pairJ {K : PySem.W.Frag} {β γ : Type} {a : Addr} {xs : List V} {ps : List β} {F : V → β → Prop} {g : TG} {tt : TT} {wi1 : TI} {g1 : TG} {tt1 : TT} {te : TE} {vs vs1 : List Nat} {σ : L2.St} {H1 : Hp} {Q : VK} (hq : SqL K H1 a xs) (pp : Paired F xs ps) (B : Nat) (hz : xs.length * B ≤ 1000000) (qs : β → List γ) (hqs : ∀ p, (qs p).length ≤ B)
    (G : β → V → γ → Prop) (R : β → γ → V → Hp → Prop) (st : ∀ p q y H H', KT H H' → R p q y H → R p q y H') (s2 : V → L2.St)
    (outer : ∀ (i : Nat) (x : V) (p : β), xs[i]? = some x → ps[i]? = some p → F x p → ∀ H, Same H1 H → ∀ (C : L2.St → It → Hp → Prop) (k0 : Hp → Prop), (∀ J H4 ys, Same H H4 → SeqJ K J H1 H H4 ys → Paired (G p) ys (qs p) → C (s2 x) J H4) →
      g x (wipe σ vs) H fun σ2 H2 => wipe σ2 vs = wipe σ vs ∧ tt σ2 H2 fun b H3 => if b = true then wi1 σ2 H3 (C σ2) else k0 H3)
    (inner : ∀ (i : Nat) (x : V) (p : β) (y : V) (q : γ), xs[i]? = some x → ps[i]? = some p → F x p → q ∈ qs p → G p y q → ∀ H, Same H1 H → ∀ (k1 : VK) (k0 : Hp → Prop), (∀ v H', Same H H' → R p q v H' → k1 v H') → LcTurn g1 tt1 te vs1 (s2 x) y H k1 k0)
    (hd : ∀ D H ys, H1 D = none → Same H1 H → H D = some (.lst ys) → Paired (fun pq v => R pq.1 pq.2 v H) (ps.flatMap fun p => (qs p).map fun q => (p, q)) ys → Q (.ref D) H) :
    Lc2J (Itl K a) g tt wi1 g1 tt1 te vs vs1 σ H1 Q := fun D hD => lc2_pair hq pp B hz qs hqs G R st s2 outer inner hd D hD
def dMulT : R2 := fun x y H Q => match x, y with
  | .ref a, .int k => match H a with
    | some (.tup xs) => xs ≠ [] ∧ 2 ≤ k ∧ k ≤ 1000 ∧ xs.length ≤ 1000 ∧ ∀ p, H p = none → Q (.ref p) (upd H p (.tup (List.replicate k.toNat xs).flatten))
    | _ => False
  | _, _ => False
def dIsB : R2 := fun x y H Q => match x, y with
  | .bl a, .bl b => Q (.bl (decide (a = b))) H
  | _, _ => False
def dNotB : R2 := fun x y H Q => match x, y with
  | .bl a, .bl b => Q (.bl (!decide (a = b))) H
  | _, _ => False
section
variable {X : Cx}
theorem d_isB : OpR X (compareOp .Is) dIsB := opM (op_isBl (X := X)) fun x y H Q q => by
  unfold dIsB at q
  split at q
  · exact ⟨_, _, rfl, rfl, q⟩
  · exact q.elim
theorem d_notB : OpR X (compareOp .IsNot) dNotB := opM (op_notBl (X := X)) fun x y H Q q => by
  unfold dNotB at q
  split at q
  · exact ⟨_, _, rfl, rfl, q⟩
  · exact q.elim
theorem d_mulT : OpR X (binaryOp .Mult) dMulT := opM (op_repT (X := X)) fun x y H Q q => by
  unfold dMulT at q
  split at q
  · split at q
    · rename_i xs h
      exact ⟨_, _, xs, rfl, rfl, .of h, q.1, q.2.1, q.2.2.1, q.2.2.2.1, q.2.2.2.2⟩
    · exact q.elim
  · exact q.elim
end
/-! ### comprehensions that draw -/
def DrawsAt (H : Hp) (d : Addr) : Prop := ∃ ms : List Int, H d = some (.lst (ms.map V.int))
theorem DrawsAt.same {H H' : Hp} {d : Addr} (s : Same H H') (h : DrawsAt H d) : DrawsAt H' d := by obtain ⟨ms, hm⟩ := h; exact ⟨ms, s _ _ hm⟩
theorem DrawsAt.ne {H : Hp} {d x : Addr} (h : DrawsAt H d) (hx : H x = none) : d ≠ x := by obtain ⟨ms, hm⟩ := h; exact ne_of_none hm hx
theorem lcR_draw {lo : Int} {n : Nat} {g : TG} {tt : TT} {te : TE} {vs : List Nat} {σ : L2.St} {H1 : Hp} {Q : VK} {d : Addr} (hz : n ≤ 1000000) (h0 : DrawsAt H1 d) (R : Nat → V → Prop)
    (turn : ∀ (i : Nat), i < n → ∀ H, Keep [d] H1 H → DrawsAt H d → ∀ (k1 : VK) (k0 : Hp → Prop), (∀ y H', Keep [d] H H' → DrawsAt H' d → R i y → k1 y H') → LcTurn g tt te vs σ (.int (lo + (i : Nat))) H k1 k0)
    (hd : ∀ D H ys, H1 D = none → Keep [d] H1 H → DrawsAt H d → H D = some (.lst ys) → Paired R (List.range n) ys → Q (.ref D) H) : LcJ (Itr lo n) g tt te vs σ H1 Q := by
  intro D hD
  have nd : d ≠ D := h0.ne hD
  refine lc_range (lo := lo) (n := n) (fun i H => Keep [d] H1 H ∧ DrawsAt H d ∧ ∃ ys, H D = some (.lst ys) ∧ ys.length ≤ i ∧ Paired R (List.range i) ys) ⟨.same (same_new hD), h0.same (same_new hD), [], upd_same, Nat.le_refl _, .nil⟩ ?_ ?_
  · rintro i H hlt ⟨kp, dr, ys, hDs, hy, pr⟩
    refine turn i hlt H kp dr _ _ (fun y H' kp' dr' r => ?_)
    have hD' : H' D = some (.lst ys) := kp' D _ hDs (by simpa using fun e => nd e.symm)
    refine ⟨ys, hD', Nat.lt_of_le_of_lt hy (by rw [sizeLine_eq]; omega), ?_, ?_, ys ++ [y], upd_same, by rw [List.length_append]; exact Nat.succ_le_succ hy, ?_⟩
    · exact Keep.new0 (kp.trans kp') hD
    · obtain ⟨ms, hm⟩ := dr'
      exact ⟨ms, by rw [upd_ne nd]; exact hm⟩
    · rw [List.range_succ]
      exact paired_app pr (.cons r .nil)
  · rintro H ⟨kp, dr, ys, hDs, hy, pr⟩
    exact hd D H ys hD kp dr hDs pr
/-- where the classes stand -/
structure Ads where
  TraceError : Addr
  OutOfRange : Addr
  Malformed : Addr
  NotThere : Addr
  Refused : Addr
  TooMuch : Addr
set_option maxHeartbeats 8000000
local macro_rules
  | `(tactic| wp_walk using $ts,*) => `(tactic| simp only [tSeq, tAsg, gName, tRet, tRetN, tNext, tDrop, tIfS, tIf, tBreak, tCont, tOp, tUn, tC, tCons, tNil, tCB, tCallS, tMakeE, tLst, tTup, tAnd, tOr, tNot, tYes, tSl, tPart, tNoPart, tRaiseN, tTryAs,
  dVar, dAdd, dI2, dI2C, dSub, dMod, dDiv, dPow, dLt, dLe, dGt, dGe, dMul, dEq, dNe, dIs, dIsNot, isNon, dNeg, dAbs, dMax2, dMin2, dInt, dLen, dListOf, dTupleOf, dIx, dFld, dSFld, dSAug, dAug, dTest, dTru, dAndV, dOrV, dNotV, dChain, dAppend, dPop, dPopAt, dInsert, dBM, dBM0, dMethE, dPar, dPar3, dPart, dStar, dAdd2, dMulT, dIsB, dNotB, dGcd, dSl, dRevL, dRevL.seqLst, dCnt, dIn, dNotIn, dSetL, gSub, dgTup, dgCons, dgNil,
  dForL, dForT, dForR1, dForR2, dLc2, dIL, dIT, tAsg2, dLcL, dLcT, dLcR1, dLcR2, dIsi, dIsE, tyName, seqAt_lst, seqAt_tup, seqAt_frz, lstAt_lst, tupAt_tup, atK_zero, atK_one,
  L2.start, List.map_cons, List.map_nil, List.length_cons, List.length_nil, List.cons_append, List.nil_append, List.replicate, Nat.sub_self, Nat.reduceAdd, Nat.reduceSub, List.set_cons_zero, List.set_cons_succ, List.getElem?_cons_zero, List.getElem?_cons_succ, wipe,
  Int.reduceEq, Int.reduceLT, Int.reduceLE, last_snoc, drop_snoc, len_snoc, atK_last, le00, p63, tn0, erz, n00, posS, eqS0, lt00, cutV_to, cutV_from, upd_same, upd_upd, upd_ne, ne_eq, not_false_eq_true, decide_true, decide_false, if_true, if_false, Bool.false_eq_true, Bool.not_true, Bool.not_false, decide_eq_true_eq, Bool.not_eq_true', true_and, and_true, reduceCtorEq, is_int_int, is_int_bool, is_int_str, is_int_list, is_int_tuple, is_int_dict, is_bool_int, is_bool_bool, is_bool_str, is_bool_list, is_bool_tuple, is_bool_dict, is_NoneType_int, is_NoneType_bool, is_NoneType_str, is_NoneType_list, is_NoneType_tuple, is_NoneType_dict, is_str_int, is_str_bool, is_str_str, is_str_list, is_str_tuple, is_str_dict, is_list_int, is_list_bool, is_list_str, is_list_list, is_list_tuple, is_list_dict, is_tuple_int, is_tuple_bool, is_tuple_str, is_tuple_list, is_tuple_tuple, is_tuple_dict, is_dict_int, is_dict_bool, is_dict_str, is_dict_list, is_dict_tuple, is_dict_dict, kn_int_int, kn_int_bool, kn_int_str, kn_int_list, kn_int_tuple, kn_int_dict, kn_bool_int, kn_bool_bool, kn_bool_str, kn_bool_list, kn_bool_tuple, kn_bool_dict, kn_NoneType_int, kn_NoneType_bool, kn_NoneType_str, kn_NoneType_list, kn_NoneType_tuple, kn_NoneType_dict, kn_str_int, kn_str_bool, kn_str_str, kn_str_list, kn_str_tuple, kn_str_dict, kn_list_int, kn_list_bool, kn_list_str, kn_list_list, kn_list_tuple, kn_list_dict, kn_tuple_int, kn_tuple_bool, kn_tuple_str, kn_tuple_list, kn_tuple_tuple, kn_tuple_dict, kn_dict_int, kn_dict_bool, kn_dict_str, kn_dict_list, kn_dict_tuple, kn_dict_dict, ite_true, ite_false, $[$ts:term],*])
  | `(tactic| wide_line using [$ts,*]) => `(tactic| simp only [tAsg, gName, tRet, tRetN, tNext, tDrop, tIfS, tIf, tBreak, tCont, tOp, tUn, tC, tCons, tNil, tCB, tCallS, tMakeE, tLst, tTup, tAnd, tOr, tNot, tYes, tSl, tPart, tNoPart, tRaiseN, tTryAs,
  dVar, dAdd, dI2, dI2C, dSub, dMod, dDiv, dPow, dLt, dLe, dGt, dGe, dMul, dEq, dNe, dIs, dIsNot, isNon, dNeg, dAbs, dMax2, dMin2, dInt, dLen, dListOf, dTupleOf, dIx, dFld, dSFld, dSAug, dAug, dTest, dTru, dAndV, dOrV, dNotV, dChain, dAppend, dPop, dPopAt, dInsert, dBM, dBM0, dMethE, dPar, dPar3, dPart, dStar, dAdd2, dMulT, dIsB, dNotB, dGcd, dSl, dRevL, dRevL.seqLst, dCnt, dIn, dNotIn, dSetL, gSub, dgTup, dgCons, dgNil,
  dForL, dForT, dForR1, dForR2, dLc2, dIL, dIT, tAsg2, dLcL, dLcT, dLcR1, dLcR2, dIsi, dIsE, tyName, seqAt_lst, seqAt_tup, seqAt_frz, lstAt_lst, tupAt_tup, atK_zero, atK_one,
  L2.start, List.map_cons, List.map_nil, List.length_cons, List.length_nil, List.cons_append, List.nil_append, List.replicate, Nat.sub_self, Nat.reduceAdd, Nat.reduceSub, List.set_cons_zero, List.set_cons_succ, List.getElem?_cons_zero, List.getElem?_cons_succ, wipe,
  Int.reduceEq, Int.reduceLT, Int.reduceLE, last_snoc, drop_snoc, len_snoc, atK_last, le00, p63, tn0, erz, n00, posS, eqS0, lt00, cutV_to, cutV_from, upd_same, upd_upd, upd_ne, ne_eq, not_false_eq_true, decide_true, decide_false, if_true, if_false, Bool.false_eq_true, Bool.not_true, Bool.not_false, decide_eq_true_eq, Bool.not_eq_true', true_and, and_true, reduceCtorEq, is_int_int, is_int_bool, is_int_str, is_int_list, is_int_tuple, is_int_dict, is_bool_int, is_bool_bool, is_bool_str, is_bool_list, is_bool_tuple, is_bool_dict, is_NoneType_int, is_NoneType_bool, is_NoneType_str, is_NoneType_list, is_NoneType_tuple, is_NoneType_dict, is_str_int, is_str_bool, is_str_str, is_str_list, is_str_tuple, is_str_dict, is_list_int, is_list_bool, is_list_str, is_list_list, is_list_tuple, is_list_dict, is_tuple_int, is_tuple_bool, is_tuple_str, is_tuple_list, is_tuple_tuple, is_tuple_dict, is_dict_int, is_dict_bool, is_dict_str, is_dict_list, is_dict_tuple, is_dict_dict, kn_int_int, kn_int_bool, kn_int_str, kn_int_list, kn_int_tuple, kn_int_dict, kn_bool_int, kn_bool_bool, kn_bool_str, kn_bool_list, kn_bool_tuple, kn_bool_dict, kn_NoneType_int, kn_NoneType_bool, kn_NoneType_str, kn_NoneType_list, kn_NoneType_tuple, kn_NoneType_dict, kn_str_int, kn_str_bool, kn_str_str, kn_str_list, kn_str_tuple, kn_str_dict, kn_list_int, kn_list_bool, kn_list_str, kn_list_list, kn_list_tuple, kn_list_dict, kn_tuple_int, kn_tuple_bool, kn_tuple_str, kn_tuple_list, kn_tuple_tuple, kn_tuple_dict, kn_dict_int, kn_dict_bool, kn_dict_str, kn_dict_list, kn_dict_tuple, kn_dict_dict, ite_true, ite_false, $[$ts:term],*])
  | `(tactic| walk_at "ev") => `(tactic| wp_walk using upd_same)
/-! ### what every law of this kind begins with -/
theorem sz {n : Nat} (h : n ≤ 1000000) : n < sizeLine := by rw [sizeLine_eq]; omega
theorem map_snoc (ms : List Int) (z : Int) : ms.map V.int ++ [V.int z] = (ms ++ [z]).map V.int := by simp
def sp_law_take : Sp := fun vs H Q _ => ∃ (d : Addr) (ns : List Int) (b : Int), vs = [.ref d, .int b] ∧ H d = some (.lst (ns.map V.int)) ∧ 0 < b ∧ ∀ (r : Int) (ns' : List Int), 0 ≤ r → r < b → Q (.int r) (upd H d (.lst (ns'.map V.int)))
def sp_law_draws (K : PySem.W.Frag) : Sp := fun vs H Q _ => ∃ (a : Addr) (ns : List Int), vs = [.ref a] ∧ SqL K H a (ns.map V.int) ∧ ns.length ≤ 63 ∧
  ∀ (d : Addr) (H' : Hp) (ms : List Int), H d = none → Same H H' → H' d = some (.lst (ms.map V.int)) → Q (.ref d) H'
def sp_law_alike (K : PySem.W.Frag) (n : Nat) : Sp := fun vs H Q _ => ∃ (x y : V) (d : PyData), vs = [x, y] ∧ Da H n x d ∧ Da H n y d ∧ ∀ H', Same H H' → Q (.bl true) H'
def sp_law_word (K : PySem.W.Frag) (A : Ads) : SpE := fun a c d vs H Q _ => ∃ (D : Addr) (b1 b2 b3 b4 b5 : Bool) (w : Str), vs = [.ref a] ∧ c = .ref D ∧ d = none ∧ ExcC K D ∧
  PySem.W.kitOne K (.ref D) (.ref A.OutOfRange) = some b1 ∧ PySem.W.kitOne K (.ref D) (.ref A.Malformed) = some b2 ∧ PySem.W.kitOne K (.ref D) (.ref A.NotThere) = some b3 ∧ PySem.W.kitOne K (.ref D) (.ref A.Refused) = some b4 ∧ PySem.W.kitOne K (.ref D) (.ref A.TooMuch) = some b5 ∧
  (b1, b2, b3, b4, b5, w) ∈ ([(true, false, false, false, false, "range"), (false, true, false, false, false, "form"), (false, false, true, false, false, "none"), (false, false, false, true, false, "refused"), (false, false, false, false, true, "much")] : List (Bool × Bool × Bool × Bool × Bool × Str)) ∧
  ∀ H', Same H H' → Q (.str w) H'
/-- an exception's class, and the word for it -/
structure WordOk (K : PySem.W.Frag) (A : Ads) (D : Addr) (w : Str) : Prop where
  ex : ExcC K D
  te : PySem.W.exmOne K (.ref D) (.ref A.TraceError) = some true
  kit : ∃ b1 b2 b3 b4 b5, PySem.W.kitOne K (.ref D) (.ref A.OutOfRange) = some b1 ∧ PySem.W.kitOne K (.ref D) (.ref A.Malformed) = some b2 ∧ PySem.W.kitOne K (.ref D) (.ref A.NotThere) = some b3 ∧ PySem.W.kitOne K (.ref D) (.ref A.Refused) = some b4 ∧ PySem.W.kitOne K (.ref D) (.ref A.TooMuch) = some b5 ∧
    (b1, b2, b3, b4, b5, w) ∈ ([(true, false, false, false, false, "range"), (false, true, false, false, false, "form"), (false, false, true, false, false, "none"), (false, false, false, true, false, "refused"), (false, false, false, false, true, "much")] : List (Bool × Bool × Bool × Bool × Bool × Str))
theorem WordOk.sp {K : PySem.W.Frag} {A : Ads} {D a : Addr} {w : Str} {H : Hp} {Q : VK} {E : XK} (h : WordOk K A D w) (q : ∀ H', Same H H' → Q (.str w) H') : sp_law_word K A a (.ref D) none [.ref a] H Q E :=
  let ⟨b1, b2, b3, b4, b5, h1, h2, h3, h4, h5, m⟩ := h.kit
  ⟨D, b1, b2, b3, b4, b5, w, rfl, rfl, rfl, h.ex, h1, h2, h3, h4, h5, m, q⟩
/-- what is caught is told by its word -/
theorem WordOk.told {K : PySem.W.Frag} {A : Ads} {D : Addr} {w : Str} {i : Nat} {H : Hp} {σ : L2.St} {De : Ends} {Wout : WX} (h : WordOk K A D w) (hi : i < σ.length) (q : ∀ H', Same H H' → De.rt (.str w) H') :
    wAs K (.ref A.TraceError) i (fun a cls d => tRet (tCallE (sp_law_word K A) a cls d (tCons (dVar i) tNil))) Wout De (.ref D) none σ H := by
  refine ⟨true, h.te, fun _ a ha => ?_, fun e => (nomatch e)⟩
  have e : (σ.set i (some (V.ref a)))[i]? = some (some (V.ref a)) := by rw [List.getElem?_set_self hi]
  simp only [tRet, tCallE, tCons, dVar, tNil, e]
  exact h.sp q
/-! ### figures: plain -/
def Scal (v : V) : Prop := v = .non ∨ (∃ b, v = .bl b) ∨ (∃ i, v = .int i) ∨ ∃ x, v = .str x
def NumIn (v : V) (lo hi : Int) : Prop := ∃ i, v = .int i ∧ lo ≤ i ∧ i ≤ hi
/-- a pair of ints that stands -/
def PrI (H : Hp) (v : V) (p : Int × Int) : Prop := ∃ t, v = .ref t ∧ H t = some (.tup [.int p.1, .int p.2])
def low2 (p w : Int) : Int × Int := (p / (Nat.gcd p.natAbs w.natAbs : Nat), w / (Nat.gcd p.natAbs w.natAbs : Nat))
def newPair (H : Hp) (p : V × V) (Q : VK) : Prop := ∀ a, H a = none → Q (.ref a) (upd H a (.tup [p.1, p.2]))
def sp_is_number : Sp := fun vs H Q _ => ∃ (v : V) (lo hi : Int), vs = [v, .int lo, .int hi] ∧ (Scal v ∧ ∀ b, (b = true ↔ NumIn v lo hi) → Q (.bl b) H)
def sp_lowest : Sp := fun vs H Q _ => ∃ p w : Int, vs = [.int p, .int w] ∧ 0 < w ∧ w < 1000 ∧ newPair H (.int (low2 p w).1, .int (low2 p w).2) Q
def sp_made (A : Ads) : Sp := fun vs H Q _ => ∃ p w : Int, vs = [.int p, .int w] ∧ 0 < w ∧ w < 1000 ∧ newPair H (.int (low2 p w).1, .int (low2 p w).2) Q
def sp_less : Sp := fun vs H Q _ => ∃ (x y : V) (p q : Int × Int), vs = [x, y] ∧ PrI H x p ∧ PrI H y q ∧ CMul p.1 q.2 ∧ CMul q.1 p.2 ∧ Q (.bl (decide (p.1 * q.2 < q.1 * p.2))) H
def sp_rank_place : Sp := fun vs H Q _ => ∃ m p w : Int, vs = [.int m, .int p, .int w] ∧ 0 < w ∧ w < 100 ∧ 0 ≤ p ∧ p < 100 ∧ Q (.int ((m - 1) * p / w)) H
/-- fewest, most, low, high as they are asked -/
def MoreOk (f m l h : V) : Prop := ∃ fi mi li hi : Int, f = .int fi ∧ m = .int mi ∧ l = .int li ∧ h = .int hi ∧ 0 ≤ fi ∧ fi ≤ mi ∧ mi ≤ 400 ∧ -1000000000000 ≤ li ∧ li ≤ hi ∧ hi ≤ 1000000000000
def sp_check_more (A : Ads) : Sp := fun vs H Q E => ∃ f m l h : V, vs = [f, m, l, h] ∧ Scal f ∧ Scal m ∧ Scal l ∧ Scal h ∧ (¬ MoreOk f m l h → E (.ref A.OutOfRange) none H) ∧ (MoreOk f m l h → Q .non H)
/-- four ints that will do -/
structure More where
  f : Int
  m : Int
  l : Int
  h : Int
  f0 : 0 ≤ f
  fm : f ≤ m
  m4 : m ≤ 400
  l0 : -1000000000000 ≤ l
  lh : l ≤ h
  h0 : h ≤ 1000000000000
def imin (a b : Int) : Int := if b < a then b else a
def imax (a b : Int) : Int := if a < b then b else a
/-- what is asked is told off, or it will do -/
def AskMore (A : Ads) (f m l h : V) (H : Hp) (E : XK) (k : More → Prop) : Prop := Scal f ∧ Scal m ∧ Scal l ∧ Scal h ∧ (¬ MoreOk f m l h → E (.ref A.OutOfRange) none H) ∧ ∀ o : More, f = .int o.f → m = .int o.m → l = .int o.l → h = .int o.h → k o
def sp_range_of_total (A : Ads) : Sp := fun vs H Q E => ∃ (t : Int) (f m l h : V), vs = [.int t, f, m, l, h] ∧ AskMore A f m l h H E fun o => newPair H (.int (t + imin (o.f * o.l) (o.m * o.l)), .int (t + imax (o.f * o.h) (o.m * o.h))) Q
def sp_range_of_greatest (A : Ads) : Sp := fun vs H Q E => ∃ (g f m l h : V), vs = [g, f, m, l, h] ∧ (g = .non ∨ ∃ i, g = .int i) ∧ AskMore A f m l h H E fun o =>
  (g = .non → (o.m = 0 → E (.ref A.NotThere) none H) ∧ (o.m ≠ 0 → newPair H (.int o.l, .int o.h) Q)) ∧
  ∀ i, g = .int i → newPair H (.int (if 0 < o.f then imax i o.l else i), .int (if 0 < o.m then imax i o.h else i)) Q
def sp_range_of_area (A : Ads) : Sp := fun vs H Q E => ∃ (ar t u : Int) (l h : V), vs = [.int ar, .int t, .int u, l, h] ∧ Scal l ∧ Scal h ∧ (¬ MoreOk (.int 0) (.int 0) l h → E (.ref A.OutOfRange) none H) ∧
  ∀ li hi, l = .int li → h = .int hi → -1000000000000 ≤ li → li ≤ hi → hi ≤ 1000000000000 → (¬ (0 ≤ t ∧ t ≤ u) → E (.ref A.OutOfRange) none H) ∧ (0 ≤ t → t ≤ u → newPair H (.int (ar + (u - t) * li), .int (ar + (u - t) * hi)) Q)
/-- the k-th of what is sorted -/
def RankAt (ns : List Int) (p w : Int) (r : Int) : Prop := ∃ ms : List Int, ms.Perm ns ∧ ms.Pairwise (· ≤ ·) ∧ ms[(((ns.length : Int) - 1) * p / w).toNat]? = some r
def sp_rank_of_all (A : Ads) : Sp := fun vs H Q E => ∃ (a : Addr) (ns : List Int) (p w : Int), vs = [.ref a, .int p, .int w] ∧ H a = some (.lst (ns.map V.int)) ∧ 0 ≤ p ∧ p ≤ w ∧ 0 < w ∧ w < 100 ∧ ns.length ≤ 100000 ∧ (ns = [] → E (.ref A.NotThere) none H) ∧ (ns ≠ [] → ∀ r H', Same H H' → RankAt ns p w r → Q (.int r) H')
/-! ### what can become: plain -/
inductive Rs where
  | non
  | nums (a b : Int)
  | fras (a b : Int × Int)
  deriving DecidableEq
def pairD (p : Int × Int) : PyData := .tuple [.int p.1, .int p.2]
def Rs.data : Rs → PyData
  | .non => .str "none"
  | .nums a b => .tuple [.int a, .int b]
  | .fras a b => .tuple [pairD a, pairD b]
def Way (f m l h : Int) (xs : List Int) : Prop := f ≤ xs.length ∧ (xs.length : Int) ≤ m ∧ ∀ x ∈ xs, l ≤ x ∧ x ≤ h
/-- a row that can come -/
def Rows (ns : List Int) (f m l h : Int) (r : List Int) : Prop := ∃ xs, Way f m l h xs ∧ r = ns ++ xs
/-- the number at the part of the way -/
def RankC (ns : List Int) (p w r : Int) : Prop := r ∈ ns ∧ ((ns.countP (fun x => decide (x < r)) : Nat) : Int) ≤ ((ns.length : Int) - 1) * p / w ∧ ((ns.length : Int) - 1) * p / w < ((ns.countP (fun x => decide (x ≤ r)) : Nat) : Int)
def ValI (k p w : Int) (ns : List Int) (v : Int) : Prop :=
  (k = 0 ∧ v = ns.sum) ∨ (k = 1 ∧ v ∈ ns ∧ ∀ x ∈ ns, x ≤ v) ∨ (k = 3 ∧ RankC ns p w v)
def ExtI (V : List Int → Int → Prop) (R : List Int → Prop) (a b : Int) : Prop :=
  (∃ r, R r ∧ V r a) ∧ (∃ r, R r ∧ V r b) ∧ ∀ r v, R r → V r v → a ≤ v ∧ v ≤ b
/-- a row's mean, in lowest terms -/
def Frac (r : List Int) (q : Int × Int) : Prop := 0 < q.2 ∧ q.1 * (r.length : Int) = r.sum * q.2 ∧ Int.gcd q.1 q.2 = 1
def ExtF (R : List Int → Prop) (a b : Int × Int) : Prop :=
  (∃ r, R r ∧ r ≠ [] ∧ Frac r a) ∧ (∃ r, R r ∧ r ≠ [] ∧ Frac r b) ∧ ∀ r, R r → r ≠ [] → a.1 * (r.length : Int) ≤ r.sum * a.2 ∧ r.sum * b.2 ≤ b.1 * (r.length : Int)
def IsR (k p w : Int) (R : List Int → Prop) : Rs → Prop
  | .non => k ≠ 0 ∧ ∀ r, R r → r = []
  | .nums a b => (k = 0 ∨ k = 1 ∨ k = 3) ∧ ExtI (ValI k p w) R a b
  | .fras a b => k = 2 ∧ ExtF R a b ∧ a.2 < 1000 ∧ b.2 < 1000
/-! ### what the program's ranges are: plain -/
def j1 (n f : Int) : Int := if (if n = 0 then 1 else 0) > f then (if n = 0 then 1 else 0) else f
/-- the least and the greatest of the means at the ends -/
def MeanX (n s : Int) (o : More) (a b : Int × Int) : Prop :=
  ∃ qs : List (Int × Int), (∀ j x : Int, (j = j1 n o.f ∨ j = o.m) → (x = o.l ∨ x = o.h) → low2 (s + j * x) (n + j) ∈ qs) ∧
    (∀ q ∈ qs, ∃ j x : Int, (j = j1 n o.f ∨ j = o.m) ∧ (x = o.l ∨ x = o.h) ∧ q = low2 (s + j * x) (n + j)) ∧
    a ∈ qs ∧ b ∈ qs ∧ ∀ q ∈ qs, a.1 * q.2 ≤ q.1 * a.2 ∧ q.1 * b.2 ≤ b.1 * q.2
def RankX (ns : List Int) (p w : Int) (o : More) (lo hi : Int) : Prop :=
  (∃ j : Nat, o.f ≤ j ∧ j ≤ o.m ∧ RankC (ns ++ List.replicate j o.l) p w lo) ∧ (∀ j : Nat, o.f ≤ j → j ≤ o.m → 0 < ns.length + j → ∃ r, RankC (ns ++ List.replicate j o.l) p w r ∧ lo ≤ r) ∧
  (∃ j : Nat, o.f ≤ j ∧ j ≤ o.m ∧ RankC (ns ++ List.replicate j o.h) p w hi) ∧ (∀ j : Nat, o.f ≤ j → j ≤ o.m → 0 < ns.length + j → ∃ r, RankC (ns ++ List.replicate j o.h) p w r ∧ r ≤ hi)
def sp_ends_of : Sp := fun vs H Q _ => ∃ f m k : Int, vs = [.int f, .int m, .int k] ∧ f ≤ m ∧ k ≤ m ∧ ∀ q H', Same H H' → H' q = some (.lst [.int (if k > f then k else f), .int m]) → Q (.ref q) H'
def sp_range_of_mean (A : Ads) : Sp := fun vs H Q E => ∃ (n s : Int) (f m l h : V), vs = [.int n, .int s, f, m, l, h] ∧ 0 ≤ n ∧ n ≤ 100 ∧ AskMore A f m l h H E fun o =>
  (n + o.m = 0 → E (.ref A.NotThere) none H) ∧ (n + o.m ≠ 0 → ∀ a b q H', Same H H' → Da H' 2 (.ref q) (Rs.fras a b).data → MeanX n s o a b → Q (.ref q) H')
def sp_range_of_rank (A : Ads) : Sp := fun vs H Q E => ∃ (t : Addr) (ns : List Int) (p w : Int) (f m l h : V), vs = [.ref t, .int p, .int w, f, m, l, h] ∧ H t = some (.tup (ns.map V.int)) ∧ 0 ≤ p ∧ p ≤ w ∧ 0 < w ∧ w < 100 ∧ ns.length ≤ 100 ∧ AskMore A f m l h H E fun o =>
  ((ns.length : Int) + o.m = 0 → E (.ref A.NotThere) none H) ∧ ((ns.length : Int) + o.m ≠ 0 → ∀ lo hi q H', Same H H' → H' q = some (.tup [.int lo, .int hi]) → RankX ns p w o lo hi → Q (.ref q) H')
theorem low2_dvd {p w : Int} (hw : 0 < w) : ∃ g : Int, 0 < g ∧ p = g * (low2 p w).1 ∧ w = g * (low2 p w).2 ∧ g = (Nat.gcd p.natAbs w.natAbs : Nat) := by
  have hg : 0 < Nat.gcd p.natAbs w.natAbs := Nat.gcd_pos_of_pos_right _ (by omega)
  refine ⟨(Nat.gcd p.natAbs w.natAbs : Nat), by omega, ?_, ?_, rfl⟩
  · exact (Int.mul_ediv_cancel' (Int.ofNat_dvd_left.mpr (Nat.gcd_dvd_left _ _))).symm
  · exact (Int.mul_ediv_cancel' (Int.ofNat_dvd_left.mpr (Nat.gcd_dvd_right _ _))).symm
theorem pos_of_mul {g x : Int} (hg : 0 < g) (h : 0 < g * x) : 0 < x := by
  rcases Int.lt_or_le 0 x with h2 | h2
  · exact h2
  · have := Int.mul_le_mul_of_nonneg_left h2 (Int.le_of_lt hg)
    omega
theorem low2_pos {p w : Int} (hw : 0 < w) : 0 < (low2 p w).2 := by
  obtain ⟨g, hg, _, e, _⟩ := low2_dvd (p := p) hw
  exact pos_of_mul hg (by rw [← e]; exact hw)
theorem low2_le {p w : Int} (hw : 0 < w) : (low2 p w).2 ≤ w := by
  obtain ⟨g, hg, _, e, _⟩ := low2_dvd (p := p) hw
  have h1 := low2_pos (p := p) hw
  have := Int.mul_le_mul_of_nonneg_right (show 1 ≤ g by omega) (Int.le_of_lt h1)
  omega
theorem low2_cross {p w : Int} (hw : 0 < w) : (low2 p w).1 * w = p * (low2 p w).2 := by
  obtain ⟨g, hg, e1, e2, _⟩ := low2_dvd (p := p) hw
  generalize (low2 p w).1 = a at *
  generalize (low2 p w).2 = b at *
  rw [e1, e2]
  grind
theorem low2_gcd {p w : Int} (hw : 0 < w) : Int.gcd (low2 p w).1 (low2 p w).2 = 1 := by
  have hg : 0 < Int.gcd p w := Int.gcd_pos_of_ne_zero_right _ (by omega)
  exact Int.gcd_ediv_gcd_ediv_gcd hg
theorem low2_frac {r : List Int} (h : r ≠ []) : Frac r (low2 r.sum r.length) := by
  have hw : (0 : Int) < r.length := by have := List.length_pos_iff.mpr h; omega
  exact ⟨low2_pos hw, low2_cross hw, low2_gcd hw⟩
theorem dvd_of_cross {a b c d : Int} (h : Int.gcd a b = 1) (e : a * d = c * b) : b ∣ d := by
  have h1 : b ∣ a * d := ⟨c, by rw [e, Int.mul_comm]⟩
  have h2 := Int.natAbs_dvd_natAbs.mpr h1
  rw [Int.natAbs_mul] at h2
  refine Int.natAbs_dvd_natAbs.mp (Nat.Coprime.dvd_of_dvd_mul_left (m := a.natAbs) ?_ h2)
  show Nat.gcd b.natAbs a.natAbs = 1
  rw [Nat.gcd_comm]; exact h
theorem cross_eq {a b : Int × Int} (ha : 0 < a.2) (hb : 0 < b.2) (g1 : Int.gcd a.1 a.2 = 1) (g2 : Int.gcd b.1 b.2 = 1) (e : a.1 * b.2 = b.1 * a.2) : a = b := by
  have h1 : a.2 ∣ b.2 := dvd_of_cross g1 e
  have h2 : b.2 ∣ a.2 := dvd_of_cross g2 e.symm
  have h3 : a.2 = b.2 := Int.dvd_antisymm (by omega) (by omega) h1 h2
  have h4 : a.1 = b.1 := by
    rw [h3] at e
    exact Int.eq_of_mul_eq_mul_right (by omega) e
  exact Prod.ext h4 h3
/-- a lower one of two fractions with a row between -/
theorem cross_le {a b : Int × Int} {s n : Int} (hn : 0 < n) (ha : 0 < a.2) (hb : 0 < b.2) (h1 : a.1 * n ≤ s * a.2) (h2 : s * b.2 ≤ b.1 * n) : a.1 * b.2 ≤ b.1 * a.2 := by
  have e1 := Int.mul_le_mul_of_nonneg_right h1 (Int.le_of_lt hb)
  have e2 := Int.mul_le_mul_of_nonneg_right h2 (Int.le_of_lt ha)
  have : n * (a.1 * b.2) ≤ n * (b.1 * a.2) := by grind
  exact Int.le_of_mul_le_mul_left this hn
theorem extF_uniq {R : List Int → Prop} {a b c d : Int × Int} (h1 : ExtF R a b) (h2 : ExtF R c d) : a = c ∧ b = d := by
  obtain ⟨⟨r1, R1, n1, p1, f1, g1⟩, ⟨r2, R2, n2, p2, f2, g2⟩, hb⟩ := h1
  obtain ⟨⟨r3, R3, n3, p3, f3, g3⟩, ⟨r4, R4, n4, p4, f4, g4⟩, hd⟩ := h2
  have L : ∀ {r : List Int}, r ≠ [] → (0 : Int) < r.length := fun h => by have := List.length_pos_iff.mpr h; omega
  have k1 := cross_le (L n1) p3 p1 (hd r1 R1 n1).1 (Int.le_of_eq f1.symm)
  have k2 := cross_le (L n3) p1 p3 (hb r3 R3 n3).1 (Int.le_of_eq f3.symm)
  have k3 := cross_le (L n2) p2 p4 (Int.le_of_eq f2) (hd r2 R2 n2).2
  have k4 := cross_le (L n4) p4 p2 (Int.le_of_eq f4) (hb r4 R4 n4).2
  exact ⟨cross_eq p1 p3 g1 g3 (Int.le_antisymm k2 k1), cross_eq p2 p4 g2 g4 (Int.le_antisymm k3 k4)⟩
theorem countP_mono' {p q : Int → Bool} (h : ∀ x, p x = true → q x = true) (l : List Int) : l.countP p ≤ l.countP q := List.countP_mono_left fun x _ => h x
theorem rankC_uniq {ns : List Int} {p w a b : Int} (h1 : RankC ns p w a) (h2 : RankC ns p w b) : a = b := by
  obtain ⟨_, h3, h4⟩ := h1
  obtain ⟨_, h5, h6⟩ := h2
  rcases Int.lt_trichotomy a b with h | h | h
  · have := countP_mono' (p := fun x => decide (x ≤ a)) (q := fun x => decide (x < b)) (fun x hx => by simp at *; omega) ns
    omega
  · exact h
  · have := countP_mono' (p := fun x => decide (x ≤ b)) (q := fun x => decide (x < a)) (fun x hx => by simp at *; omega) ns
    omega
theorem valI_uniq {k p w : Int} {ns : List Int} {a b : Int} (h1 : ValI k p w ns a) (h2 : ValI k p w ns b) : a = b := by
  rcases h1 with ⟨e, rfl⟩ | ⟨e, m, h⟩ | ⟨e, h⟩ <;> rcases h2 with ⟨e', rfl⟩ | ⟨e', m', h'⟩ | ⟨e', h'⟩ <;> first | rfl | omega | skip
  · have := h _ m'; have := h' _ m; omega
  · exact rankC_uniq h h'
theorem extI_uniq {k p w : Int} {R : List Int → Prop} {a b c d : Int} (h1 : ExtI (ValI k p w) R a b) (h2 : ExtI (ValI k p w) R c d) : a = c ∧ b = d := by
  obtain ⟨⟨r1, R1, v1⟩, ⟨r2, R2, v2⟩, hb⟩ := h1
  obtain ⟨⟨r3, R3, v3⟩, ⟨r4, R4, v4⟩, hd⟩ := h2
  have := hb _ _ R3 v3
  have := hb _ _ R4 v4
  have := hd _ _ R1 v1
  have := hd _ _ R2 v2
  omega
theorem valI_ne {k p w : Int} {a : Int} (hk : k ≠ 0) : ¬ ValI k p w [] a := by
  rintro (⟨e, _⟩ | ⟨e, m, _⟩ | ⟨e, m, _⟩)
  · exact hk e
  · simp at m
  · simp at m
theorem isR_uniq {k p w : Int} {R : List Int → Prop} {x y : Rs} (h1 : IsR k p w R x) (h2 : IsR k p w R y) : x = y := by
  cases x with
  | non =>
    cases y with
    | non => rfl
    | nums a b => obtain ⟨_, ⟨r, h, v⟩, _⟩ := h2; rw [h1.2 r h] at v; exact (valI_ne h1.1 v).elim
    | fras a b => obtain ⟨_, ⟨⟨r, h, n, _⟩, _⟩, _⟩ := h2; exact (n (h1.2 r h)).elim
  | nums a b =>
    cases y with
    | non => obtain ⟨_, ⟨r, h, v⟩, _⟩ := h1; rw [h2.2 r h] at v; exact (valI_ne h2.1 v).elim
    | nums c d => obtain ⟨e1, e2⟩ := extI_uniq h1.2 h2.2; rw [e1, e2]
    | fras a b => exfalso; have := h1.1; have := h2.1; omega
  | fras a b =>
    cases y with
    | non => obtain ⟨_, ⟨⟨r, h, n, _⟩, _⟩, _⟩ := h1; exact (n (h2.2 r h)).elim
    | nums c d => exfalso; have := h1.1; have := h2.1; omega
    | fras c d => obtain ⟨e1, e2⟩ := extF_uniq h1.2.1 h2.2.1; rw [e1, e2]
theorem rankC_perm {ns ms : List Int} {p w r : Int} (pm : ns.Perm ms) (h : RankC ns p w r) : RankC ms p w r := by
  obtain ⟨h1, h2, h3⟩ := h
  refine ⟨pm.mem_iff.mp h1, ?_, ?_⟩
  · rw [← pm.length_eq, ← pm.countP_eq]; exact h2
  · rw [← pm.length_eq, ← pm.countP_eq]; exact h3
theorem sum_perm {ns ms : List Int} (pm : ns.Perm ms) : ns.sum = ms.sum := by
  induction pm with
  | nil => rfl
  | cons x _ ih => simp [ih]
  | swap x y l => simp; omega
  | trans _ _ h1 h2 => rw [h1, h2]
theorem valI_perm {k p w : Int} {ns ms : List Int} {a : Int} (pm : ns.Perm ms) (h : ValI k p w ns a) : ValI k p w ms a := by
  rcases h with ⟨e, rfl⟩ | ⟨e, m, h⟩ | ⟨e, h⟩
  · exact .inl ⟨e, sum_perm pm⟩
  · exact .inr (.inl ⟨e, pm.mem_iff.mp m, fun x hx => h x (pm.mem_iff.mpr hx)⟩)
  · exact .inr (.inr ⟨e, rankC_perm pm h⟩)
theorem frac_perm {ns ms : List Int} {q : Int × Int} (pm : ns.Perm ms) (h : Frac ns q) : Frac ms q := by
  obtain ⟨h1, h2, h3⟩ := h
  exact ⟨h1, by rw [← pm.length_eq, ← sum_perm pm]; exact h2, h3⟩
/-- alike but for the order of the rows' numbers -/
theorem isR_perm {k p w : Int} {R S : List Int → Prop} {x : Rs} (h1 : ∀ r, S r → R r) (h2 : ∀ r, R r → ∃ r', S r' ∧ r.Perm r') (h : IsR k p w R x) : IsR k p w S x := by
  cases x with
  | non => exact ⟨h.1, fun r hr => h.2 r (h1 r hr)⟩
  | nums a b =>
    obtain ⟨e, ⟨r1, R1, v1⟩, ⟨r2, R2, v2⟩, hb⟩ := h
    obtain ⟨s1, S1, p1⟩ := h2 r1 R1
    obtain ⟨s2, S2, p2⟩ := h2 r2 R2
    exact ⟨e, ⟨s1, S1, valI_perm p1 v1⟩, ⟨s2, S2, valI_perm p2 v2⟩, fun r v hr hv => hb r v (h1 r hr) hv⟩
  | fras a b =>
    obtain ⟨e, ⟨⟨r1, R1, n1, v1⟩, ⟨r2, R2, n2, v2⟩, hb⟩, hs⟩ := h
    obtain ⟨s1, S1, p1⟩ := h2 r1 R1
    obtain ⟨s2, S2, p2⟩ := h2 r2 R2
    exact ⟨e, ⟨⟨s1, S1, fun z => n1 (by rw [z] at p1; exact p1.eq_nil), frac_perm p1 v1⟩, ⟨s2, S2, fun z => n2 (by rw [z] at p2; exact p2.eq_nil), frac_perm p2 v2⟩, fun r hr => hb r (h1 r hr)⟩, hs⟩
/-- fewer rows, narrower ends -/
def Within (x y : Rs) : Prop := match x, y with
  | .nums a b, .nums c d => c ≤ a ∧ b ≤ d
  | .fras a b, .fras c d => c.1 * a.2 ≤ a.1 * c.2 ∧ b.1 * d.2 ≤ d.1 * b.2
  | _, _ => False
theorem isR_within {k p w : Int} {R S : List Int → Prop} {x y : Rs} (h1 : ∀ r, S r → R r) (hx : IsR k p w S x) (hy : IsR k p w R y) (n : ∃ r, S r ∧ r ≠ []) : Within x y := by
  obtain ⟨r0, hr0, hn0⟩ := n
  have L : ∀ {r : List Int}, r ≠ [] → (0 : Int) < r.length := fun h => by have := List.length_pos_iff.mpr h; omega
  cases x with
  | non => exact (hn0 (hx.2 r0 hr0)).elim
  | nums a b =>
    obtain ⟨e, ⟨r1, R1, v1⟩, ⟨r2, R2, v2⟩, hb⟩ := hx
    cases y with
    | non => exact (hn0 (hy.2 r0 (h1 _ hr0))).elim
    | nums c d => exact ⟨(hy.2.2.2 _ _ (h1 _ R1) v1).1, (hy.2.2.2 _ _ (h1 _ R2) v2).2⟩
    | fras c d => exfalso; have := hy.1; omega
  | fras a b =>
    obtain ⟨e, ⟨⟨r1, R1, n1, p1, f1, _⟩, ⟨r2, R2, n2, p2, f2, _⟩, hb⟩, _⟩ := hx
    cases y with
    | non => exact (hn0 (hy.2 r0 (h1 _ hr0))).elim
    | nums c d => exfalso; have := hy.1; omega
    | fras c d =>
      obtain ⟨_, ⟨⟨r3, R3, n3, p3, f3, _⟩, ⟨r4, R4, n4, p4, f4, _⟩, hd⟩, _⟩ := hy
      exact ⟨cross_le (L n1) p3 p1 (hd r1 (h1 _ R1) n1).1 (Int.le_of_eq f1.symm), cross_le (L n2) p2 p4 (Int.le_of_eq f2) (hd r2 (h1 _ R2) n2).2⟩
theorem rows_next {ns : List Int} {f m l h x : Int} {r : List Int} (hx : l ≤ x) (hx2 : x ≤ h) (hr : Rows (ns ++ [x]) (if (0 : Int) < f - 1 then f - 1 else 0) (m - 1) l h r) : Rows ns f m l h r := by
  obtain ⟨xs, ⟨h1, h2, h3⟩, rfl⟩ := hr
  refine ⟨x :: xs, ⟨?_, by simp; omega, ?_⟩, by simp⟩
  · simp
    split at h1 <;> omega
  · intro y hy
    rcases List.mem_cons.mp hy with rfl | hy
    · exact ⟨hx, hx2⟩
    · exact h3 y hy
theorem rows_ex {ns : List Int} {f m l h : Int} (f0 : 0 ≤ f) (fm : f ≤ m) (lh : l ≤ h) : ∃ r, Rows ns f m l h r := ⟨_, List.replicate f.toNat l, ⟨by simp; omega, by simp; omega, fun x hx => by rw [List.mem_replicate] at hx; omega⟩, rfl⟩
theorem way_sum {l h : Int} : ∀ {xs : List Int}, (∀ x ∈ xs, l ≤ x ∧ x ≤ h) → (xs.length : Int) * l ≤ xs.sum ∧ xs.sum ≤ (xs.length : Int) * h
  | [], _ => by simp
  | x :: xs, hx => by
    have ih := way_sum (xs := xs) fun y hy => hx y (List.mem_cons_of_mem _ hy)
    have h0 := hx x (List.mem_cons_self ..)
    simp only [List.length_cons, List.sum_cons]
    push_cast
    have e1 : ((xs.length : Int) + 1) * l = (xs.length : Int) * l + l := by grind
    have e2 : ((xs.length : Int) + 1) * h = (xs.length : Int) * h + h := by grind
    omega
theorem sum_rep {n : Nat} {x : Int} : (List.replicate n x).sum = (n : Int) * x := by
  induction n with
  | zero => simp
  | succ n ih => rw [List.replicate_succ, List.sum_cons, ih]; push_cast; grind
theorem way_rep {o : More} {n : Nat} {x : Int} (h1 : o.f ≤ n) (h2 : (n : Int) ≤ o.m) (h3 : o.l ≤ x) (h4 : x ≤ o.h) : Way o.f o.m o.l o.h (List.replicate n x) :=
  ⟨by simp; omega, by simp; omega, fun y hy => by rw [List.mem_replicate] at hy; omega⟩
/-- a product with what lies between lies between the products with the ends -/
theorem aff {f m j l : Int} (h1 : f ≤ j) (h2 : j ≤ m) : imin (f * l) (m * l) ≤ j * l ∧ j * l ≤ imax (f * l) (m * l) := by
  unfold imin imax
  rcases Int.le_total 0 l with h | h
  · have e1 := Int.mul_le_mul_of_nonneg_right h1 h
    have e2 := Int.mul_le_mul_of_nonneg_right h2 h
    constructor <;> split <;> omega
  · have e1 := Int.mul_le_mul_of_nonpos_right h1 h
    have e2 := Int.mul_le_mul_of_nonpos_right h2 h
    constructor <;> split <;> omega
theorem isR_total {p w : Int} {ns : List Int} (o : More) : IsR 0 p w (Rows ns o.f o.m o.l o.h) (.nums (ns.sum + imin (o.f * o.l) (o.m * o.l)) (ns.sum + imax (o.f * o.h) (o.m * o.h))) := by
  have f0 := o.f0; have fm := o.fm; have lh := o.lh
  obtain ⟨f, hf⟩ := Int.eq_ofNat_of_zero_le f0
  obtain ⟨m, hm⟩ := Int.eq_ofNat_of_zero_le (Int.le_trans f0 fm)
  refine ⟨.inl rfl, ?_, ?_, ?_⟩
  · unfold imin
    split
    · exact ⟨_, ⟨_, way_rep (n := m) (x := o.l) (by omega) (by omega) (by omega) (by omega), rfl⟩, .inl ⟨rfl, by rw [List.sum_append, sum_rep, ← hm]⟩⟩
    · exact ⟨_, ⟨_, way_rep (n := f) (x := o.l) (by omega) (by omega) (by omega) (by omega), rfl⟩, .inl ⟨rfl, by rw [List.sum_append, sum_rep, ← hf]⟩⟩
  · unfold imax
    split
    · exact ⟨_, ⟨_, way_rep (n := m) (x := o.h) (by omega) (by omega) (by omega) (by omega), rfl⟩, .inl ⟨rfl, by rw [List.sum_append, sum_rep, ← hm]⟩⟩
    · exact ⟨_, ⟨_, way_rep (n := f) (x := o.h) (by omega) (by omega) (by omega) (by omega), rfl⟩, .inl ⟨rfl, by rw [List.sum_append, sum_rep, ← hf]⟩⟩
  · rintro r v ⟨xs, ⟨h1, h2, h3⟩, rfl⟩ hv
    rcases hv with ⟨_, rfl⟩ | ⟨e, _⟩ | ⟨e, _⟩
    · have hs := way_sum h3
      have e1 := aff (l := o.l) h1 h2
      have e2 := aff (l := o.h) h1 h2
      rw [List.sum_append]
      omega
    · omega
    · omega
theorem isR_greatest0 {p w : Int} (o : More) (hm : o.m ≠ 0) : IsR 1 p w (Rows [] o.f o.m o.l o.h) (.nums o.l o.h) := by
  have f0 := o.f0; have fm := o.fm; have lh := o.lh
  obtain ⟨m, em⟩ := Int.eq_ofNat_of_zero_le (Int.le_trans f0 fm)
  have mr : ∀ x : Int, x ∈ List.replicate m x := fun x => List.mem_replicate.mpr ⟨by omega, rfl⟩
  refine ⟨.inr (.inl rfl), ⟨_, ⟨_, way_rep (n := m) (x := o.l) (by omega) (by omega) (by omega) (by omega), rfl⟩, .inr (.inl ⟨rfl, mr _, fun x hx => ?_⟩)⟩, ⟨_, ⟨_, way_rep (n := m) (x := o.h) (by omega) (by omega) (by omega) (by omega), rfl⟩, .inr (.inl ⟨rfl, mr _, fun x hx => ?_⟩)⟩, ?_⟩
  · have := List.mem_replicate.mp hx; omega
  · have := List.mem_replicate.mp hx; omega
  · rintro r v ⟨xs, ⟨h1, h2, h3⟩, rfl⟩ hv
    rcases hv with ⟨e, _⟩ | ⟨_, hv, _⟩ | ⟨e, _⟩
    · omega
    · exact h3 v hv
    · omega
theorem isR_greatest {p w g : Int} {ns : List Int} (o : More) (h0 : g ∈ ns) (h1 : ∀ x ∈ ns, x ≤ g) : IsR 1 p w (Rows ns o.f o.m o.l o.h) (.nums (if 0 < o.f then imax g o.l else g) (if 0 < o.m then imax g o.h else g)) := by
  have f0 := o.f0; have fm := o.fm; have lh := o.lh
  obtain ⟨f, hf⟩ := Int.eq_ofNat_of_zero_le f0
  obtain ⟨m, hm⟩ := Int.eq_ofNat_of_zero_le (Int.le_trans f0 fm)
  have at_ : ∀ (n : Nat) (x : Int), ValI 1 p w (ns ++ List.replicate n x) (if 0 < (n : Int) then imax g x else g) := by
    intro n x
    refine .inr (.inl ⟨rfl, ?_, ?_⟩)
    · split
      · unfold imax
        split
        · exact List.mem_append_right _ (List.mem_replicate.mpr ⟨by omega, rfl⟩)
        · exact List.mem_append_left _ h0
      · exact List.mem_append_left _ h0
    · intro y hy
      rcases List.mem_append.mp hy with hy | hy
      · have := h1 y hy
        unfold imax
        split <;> first | omega | (split <;> omega)
      · have := List.mem_replicate.mp hy
        rw [if_pos (by omega)]
        unfold imax
        split <;> omega
  refine ⟨.inr (.inl rfl), ⟨_, ⟨_, way_rep (n := f) (x := o.l) (by omega) (by omega) (by omega) (by omega), rfl⟩, ?_⟩, ⟨_, ⟨_, way_rep (n := m) (x := o.h) (by omega) (by omega) (by omega) (by omega), rfl⟩, ?_⟩, ?_⟩
  · rw [hf]; exact at_ f o.l
  · rw [hm]; exact at_ m o.h
  · rintro r v ⟨xs, ⟨h4, h5, h3⟩, rfl⟩ hv
    rcases hv with ⟨e, _⟩ | ⟨_, hv, hv2⟩ | ⟨e, _⟩
    · omega
    · have hg := hv2 g (List.mem_append_left _ h0)
      constructor
      · split
        · have hx : ∃ x, x ∈ xs := by
            cases xs with
            | nil => simp at h4; omega
            | cons x _ => exact ⟨x, List.mem_cons_self ..⟩
          obtain ⟨x, hx⟩ := hx
          have := hv2 x (List.mem_append_right _ hx)
          have := h3 x hx
          unfold imax
          split <;> omega
        · exact hg
      · rcases List.mem_append.mp hv with hv | hv
        · have := h1 v hv
          unfold imax
          split <;> first | omega | (split <;> omega)
        · have := h3 v hv
          have : 0 < xs.length := List.length_pos_of_mem hv
          rw [if_pos (by omega)]
          unfold imax
          split <;> omega
    · omega
theorem count_rep_le {l r : Int} {xs : List Int} (h : ∀ x ∈ xs, l ≤ x) : xs.countP (fun x => decide (x ≤ r)) ≤ (List.replicate xs.length l).countP (fun x => decide (x ≤ r)) := by
  by_cases e : l ≤ r
  · rw [List.countP_replicate, if_pos (by simpa using e)]
    exact List.countP_le_length
  · have : xs.countP (fun x => decide (x ≤ r)) = 0 := List.countP_eq_zero.mpr fun x hx => by have := h x hx; simp; omega
    omega
theorem count_rep_lt {l r : Int} {xs : List Int} (h : ∀ x ∈ xs, x ≤ l) : (List.replicate xs.length l).countP (fun x => decide (x < r)) ≤ xs.countP (fun x => decide (x < r)) := by
  by_cases e : l < r
  · have : xs.countP (fun x => decide (x < r)) = xs.length := List.countP_eq_length.mpr fun x hx => by have := h x hx; simp; omega
    rw [this]
    refine Nat.le_trans List.countP_le_length (by simp)
  · rw [List.countP_replicate, if_neg (by simpa using e)]
    exact Nat.zero_le _
theorem rank_low {ns xs : List Int} {p w l r r0 : Int} (h : ∀ x ∈ xs, l ≤ x) (h1 : RankC (ns ++ xs) p w r) (h0 : RankC (ns ++ List.replicate xs.length l) p w r0) : r0 ≤ r := by
  rcases Int.lt_or_le r r0 with hlt | hle
  · obtain ⟨_, a1, a2⟩ := h1
    obtain ⟨_, b1, b2⟩ := h0
    have el : ((ns ++ List.replicate xs.length l).length : Int) = ((ns ++ xs).length : Int) := by simp
    rw [el] at b1 b2
    have c1 : (ns ++ xs).countP (fun x => decide (x ≤ r)) ≤ (ns ++ List.replicate xs.length l).countP (fun x => decide (x ≤ r)) := by
      rw [List.countP_append, List.countP_append]
      have := count_rep_le (r := r) h
      omega
    have c2 := countP_mono' (p := fun x => decide (x ≤ r)) (q := fun x => decide (x < r0)) (fun x hx => by simp at *; omega) (ns ++ List.replicate xs.length l)
    omega
  · exact hle
theorem rank_high {ns xs : List Int} {p w l r r0 : Int} (h : ∀ x ∈ xs, x ≤ l) (h1 : RankC (ns ++ xs) p w r) (h0 : RankC (ns ++ List.replicate xs.length l) p w r0) : r ≤ r0 := by
  rcases Int.lt_or_le r0 r with hlt | hle
  · obtain ⟨_, a1, a2⟩ := h1
    obtain ⟨_, b1, b2⟩ := h0
    have el : ((ns ++ List.replicate xs.length l).length : Int) = ((ns ++ xs).length : Int) := by simp
    rw [el] at b1 b2
    have c1 : (ns ++ List.replicate xs.length l).countP (fun x => decide (x < r)) ≤ (ns ++ xs).countP (fun x => decide (x < r)) := by
      rw [List.countP_append, List.countP_append]
      have := count_rep_lt (r := r) h
      omega
    have c2 := countP_mono' (p := fun x => decide (x ≤ r0)) (q := fun x => decide (x < r)) (fun x hx => by simp at *; omega) (ns ++ List.replicate xs.length l)
    omega
  · exact hle
theorem isR_rank {p w lo hi : Int} {ns : List Int} (o : More) (h : RankX ns p w o lo hi) : IsR 3 p w (Rows ns o.f o.m o.l o.h) (.nums lo hi) := by
  obtain ⟨⟨i, i1, i2, i3⟩, hl, ⟨j, k1, k2, k3⟩, hh⟩ := h
  have lh := o.lh
  refine ⟨.inr (.inr rfl), ⟨_, ⟨_, way_rep i1 i2 (by omega) (by omega), rfl⟩, .inr (.inr ⟨rfl, i3⟩)⟩, ⟨_, ⟨_, way_rep k1 k2 (by omega) (by omega), rfl⟩, .inr (.inr ⟨rfl, k3⟩)⟩, ?_⟩
  rintro r v ⟨xs, ⟨h4, h5, h3⟩, rfl⟩ hv
  rcases hv with ⟨e, _⟩ | ⟨e, _⟩ | ⟨_, hv⟩
  · omega
  · omega
  · have hne : 0 < ns.length + xs.length := by have := List.length_pos_of_mem hv.1; simpa using this
    obtain ⟨r1, g1, g2⟩ := hl xs.length h4 h5 hne
    obtain ⟨r2, g3, g4⟩ := hh xs.length h4 h5 hne
    have := rank_low (fun x hx => (h3 x hx).1) hv g1
    have := rank_high (fun x hx => (h3 x hx).2) hv g3
    omega
theorem affine {c d f m j : Int} (h1 : f ≤ j) (h2 : j ≤ m) (e1 : 0 ≤ c + f * d) (e2 : 0 ≤ c + m * d) : 0 ≤ c + j * d := by
  have := aff (l := d) h1 h2
  unfold imin at this
  split at this <;> omega
theorem low2_lt {a : Int × Int} {s n : Int} (hn : 0 < n) : (a.1 * (low2 s n).2 ≤ (low2 s n).1 * a.2 → a.1 * n ≤ s * a.2) ∧ ((low2 s n).1 * a.2 ≤ a.1 * (low2 s n).2 → s * a.2 ≤ a.1 * n) := by
  obtain ⟨g, hg, e1, e2, _⟩ := low2_dvd (p := s) hn
  generalize (low2 s n).1 = x at *
  generalize (low2 s n).2 = y at *
  subst e1 e2
  constructor
  · intro h
    have := Int.mul_le_mul_of_nonneg_left h (Int.le_of_lt hg)
    grind
  · intro h
    have := Int.mul_le_mul_of_nonneg_left h (Int.le_of_lt hg)
    grind
theorem isR_mean {p w : Int} {a b : Int × Int} {ns : List Int} (o : More) (hnm : (ns.length : Int) + o.m ≠ 0) (hb : ns.length ≤ 100) (h : MeanX ns.length ns.sum o a b) : IsR 2 p w (Rows ns o.f o.m o.l o.h) (.fras a b) := by
  obtain ⟨qs, hi, ho, ha, hbq, hq⟩ := h
  have f0 := o.f0; have fm := o.fm; have lh := o.lh; have m4 := o.m4
  have jf : o.f ≤ j1 ns.length o.f ∧ j1 ns.length o.f ≤ o.m ∧ 0 < (ns.length : Int) + j1 ns.length o.f ∧ ∀ j, o.f ≤ j → 0 < (ns.length : Int) + j → j1 ns.length o.f ≤ j := by
    unfold j1
    refine ⟨?_, ?_, ?_, fun j g1 g2 => ?_⟩ <;> (split <;> split <;> omega)
  generalize j1 ns.length o.f = j0 at *
  obtain ⟨ja, jb, jc, jd⟩ := jf
  have Ex : ∀ q ∈ qs, (∃ r, Rows ns o.f o.m o.l o.h r ∧ r ≠ [] ∧ Frac r q) ∧ q.2 < 1000 := by
    intro q hq'
    obtain ⟨j, x, hj, hx, rfl⟩ := ho q hq'
    have hj0 : o.f ≤ j ∧ j ≤ o.m ∧ 0 < (ns.length : Int) + j := by rcases hj with rfl | rfl <;> omega
    obtain ⟨jn, rfl⟩ := Int.eq_ofNat_of_zero_le (show 0 ≤ j by omega)
    have el : ((ns ++ List.replicate jn x).length : Int) = (ns.length : Int) + (jn : Int) := by simp
    have ne : ns ++ List.replicate jn x ≠ [] := fun z => by rw [z] at el; simp at el; omega
    have fr := low2_frac ne
    rw [el, List.sum_append, sum_rep] at fr
    refine ⟨⟨_, ⟨_, way_rep (n := jn) (x := x) hj0.1 hj0.2.1 (by rcases hx with rfl | rfl <;> omega) (by rcases hx with rfl | rfl <;> omega), rfl⟩, ne, fr⟩, ?_⟩
    have := low2_le (p := ns.sum + (jn : Int) * x) hj0.2.2
    omega
  have Pa := (Ex a ha).1
  have Pb := (Ex b hbq).1
  refine ⟨rfl, ⟨Pa, Pb, ?_⟩, (Ex a ha).2, (Ex b hbq).2⟩
  have pa : 0 < a.2 := by obtain ⟨r, _, _, h, _⟩ := Pa; exact h
  have pb : 0 < b.2 := by obtain ⟨r, _, _, h, _⟩ := Pb; exact h
  rintro r ⟨xs, ⟨h4, h5, h3⟩, rfl⟩ hne
  have hpos : (0 : Int) < (ns.length : Int) + xs.length := by
    have := List.length_pos_iff.mpr hne
    simp at this
    omega
  have k0 := jd xs.length h4 hpos
  obtain ⟨s1, s2⟩ := way_sum h3
  rw [List.sum_append, List.length_append]
  push_cast
  have q1 := (low2_lt (a := a) (s := ns.sum + j0 * o.l) jc).1 (hq _ (hi j0 o.l (.inl rfl) (.inl rfl))).1
  have q2 := (low2_lt (a := a) (s := ns.sum + o.m * o.l) (by omega : 0 < (ns.length : Int) + o.m)).1 (hq _ (hi o.m o.l (.inr rfl) (.inl rfl))).1
  have q3 := (low2_lt (a := b) (s := ns.sum + j0 * o.h) jc).2 (hq _ (hi j0 o.h (.inl rfl) (.inr rfl))).2
  have q4 := (low2_lt (a := b) (s := ns.sum + o.m * o.h) (by omega : 0 < (ns.length : Int) + o.m)).2 (hq _ (hi o.m o.h (.inr rfl) (.inr rfl))).2
  generalize (xs.length : Int) = j at *
  generalize xs.sum = S at *
  generalize ns.sum = T at *
  generalize (ns.length : Int) = n at *
  constructor
  · have A := affine (c := T * a.2 - a.1 * n) (d := o.l * a.2 - a.1) k0 h5 (by grind) (by grind)
    have B := Int.mul_le_mul_of_nonneg_right s1 (Int.le_of_lt pa)
    grind
  · have A := affine (c := b.1 * n - T * b.2) (d := b.1 - o.h * b.2) k0 h5 (by grind) (by grind)
    have B := Int.mul_le_mul_of_nonneg_right s2 (Int.le_of_lt pb)
    grind
theorem isR_none {k p w : Int} (o : More) {ns : List Int} (hk : k ≠ 0) (h : (ns.length : Int) + o.m = 0) : IsR k p w (Rows ns o.f o.m o.l o.h) .non := by
  refine ⟨hk, ?_⟩
  rintro r ⟨xs, ⟨h4, h5, h3⟩, rfl⟩
  have f0 := o.f0; have fm := o.fm
  have h1 : ns.length = 0 := by omega
  have h2 : xs.length = 0 := by omega
  rw [List.length_eq_zero_iff.mp h1, List.length_eq_zero_iff.mp h2]
  rfl
theorem rankC_of {ns ms : List Int} {p w r : Int} (h0 : 0 ≤ ((ns.length : Int) - 1) * p / w) (h : ms.Perm ns) (hp : ms.Pairwise (· ≤ ·)) (e : ms[(((ns.length : Int) - 1) * p / w).toNat]? = some r) : RankC ns p w r := by
  refine rankC_perm h ?_
  have el : (ms.length : Int) = ns.length := by rw [h.length_eq]
  unfold RankC
  rw [el]
  obtain ⟨j, hj⟩ := Int.eq_ofNat_of_zero_le h0
  rw [hj] at e ⊢
  rw [Int.toNat_natCast] at e
  obtain ⟨hlt, he⟩ := List.getElem?_eq_some_iff.mp e
  refine ⟨List.mem_of_getElem? e, ?_, ?_⟩
  · have e1 : ms = ms.take j ++ ms.drop j := (List.take_append_drop j ms).symm
    have c : (ms.drop j).countP (fun x => decide (x < r)) = 0 := by
      refine List.countP_eq_zero.mpr fun x hx => ?_
      obtain ⟨i, hi, hx⟩ := List.getElem_of_mem hx
      rw [List.getElem_drop] at hx
      simp
      rcases Nat.eq_or_lt_of_le (Nat.zero_le i) with z | z
      · subst z
        rw [← hx, ← he]
        simp
      · have := List.pairwise_iff_getElem.mp hp j (j + i) hlt (by simp at hi; omega) (by omega)
        rw [he, hx] at this
        omega
    rw [e1, List.countP_append, c]
    have := List.countP_le_length (p := fun x => decide (x < r)) (l := ms.take j)
    simp at this
    simp
    omega
  · have e1 : ms = ms.take (j + 1) ++ ms.drop (j + 1) := (List.take_append_drop _ ms).symm
    have c : (ms.take (j + 1)).countP (fun x => decide (x ≤ r)) = (ms.take (j + 1)).length := by
      refine List.countP_eq_length.mpr fun x hx => ?_
      obtain ⟨i, hi, hx⟩ := List.getElem_of_mem hx
      rw [List.getElem_take] at hx
      simp at hi ⊢
      rcases Nat.eq_or_lt_of_le (show i ≤ j by omega) with z | z
      · subst z
        rw [← hx, he]
        exact Int.le_refl _
      · have := List.pairwise_iff_getElem.mp hp i j (by omega) hlt z
        rw [he, hx] at this
        omega
    have e2 : (ms.countP (fun x => decide (x ≤ r))) = (ms.take (j + 1)).length + (ms.drop (j + 1)).countP (fun x => decide (x ≤ r)) := by
      conv => lhs; rw [e1, List.countP_append, c]
    rw [e2, List.length_take]
    omega
theorem gcd_small {p w : Int} (h : 0 < w) (h2 : w < 1000) : CDiv p (Nat.gcd p.natAbs w.natAbs : Nat) ∧ CDiv w (Nat.gcd p.natAbs w.natAbs : Nat) := by
  have h1 : 0 < Nat.gcd p.natAbs w.natAbs := Nat.gcd_pos_of_pos_right _ (by omega)
  have h3 : Nat.gcd p.natAbs w.natAbs ≤ w.natAbs := Nat.gcd_le_right _ (by omega)
  unfold CDiv
  omega
theorem AskMore.sp {A : Ads} {f m l h : V} {H : Hp} {E : XK} {k : More → Prop} {Q : VK} (a : AskMore A f m l h H E k) (q : ∀ o : More, f = .int o.f → m = .int o.m → l = .int o.l → h = .int o.h → k o → Q .non H) : sp_check_more A [f, m, l, h] H Q E :=
  ⟨f, m, l, h, rfl, a.1, a.2.1, a.2.2.1, a.2.2.2.1, a.2.2.2.2.1, fun ⟨fi, mi, li, hi, e1, e2, e3, e4, h1, h2, h3, h4, h5, h6⟩ => q ⟨fi, mi, li, hi, h1, h2, h3, h4, h5, h6⟩ e1 e2 e3 e4 (a.2.2.2.2.2 ⟨fi, mi, li, hi, h1, h2, h3, h4, h5, h6⟩ e1 e2 e3 e4)⟩
theorem More.cm (o : More) (x : Int) : CMul o.f x ∧ CMul o.m x := by
  have := o.f0; have := o.fm; have := o.m4
  exact ⟨.inl ⟨by omega, by omega⟩, .inl ⟨by omega, by omega⟩⟩
theorem cle_trans {a b c : Int × Int} (hb : 0 < b.2) (ha : 0 < a.2) (hc : 0 < c.2) (h1 : a.1 * b.2 ≤ b.1 * a.2) (h2 : b.1 * c.2 ≤ c.1 * b.2) : a.1 * c.2 ≤ c.1 * a.2 := by
  have e1 := Int.mul_le_mul_of_nonneg_right h1 (Int.le_of_lt hc)
  have e2 := Int.mul_le_mul_of_nonneg_right h2 (Int.le_of_lt ha)
  have : b.2 * (a.1 * c.2) ≤ b.2 * (c.1 * a.2) := by grind
  exact Int.le_of_mul_le_mul_left this hb
def FrOk (q : Int × Int) : Prop := 0 < q.2 ∧ q.2 < 1000
theorem FrOk.cm {q : Int × Int} (h : FrOk q) (x : Int) : CMul x q.2 := .inr ⟨by have := h.1; omega, by have := h.2; omega⟩
theorem pairedL {α β : Type} {F : α → β → Prop} {l : List α} {m : List β} {i : Nat} {x : α} (p : Paired F l m) (h : l[i]? = some x) : ∃ y, m[i]? = some y ∧ F x y := pairedGet p h
theorem paired_ints {α : Type} {G : α → Int → Prop} : ∀ {js : List α} {ys : List V}, Paired (fun j v => ∃ r, v = V.int r ∧ G j r) js ys → ∃ rs : List Int, ys = rs.map V.int ∧ Paired G js rs
  | _, _, .nil => ⟨[], rfl, .nil⟩
  | _, _, .cons ⟨r, e, g⟩ t => let ⟨rs, e2, p⟩ := paired_ints t; ⟨r :: rs, by rw [e, e2]; rfl, .cons g p⟩
theorem paired_memL {α β : Type} {G : α → β → Prop} {js : List α} {rs : List β} (p : Paired G js rs) {j : α} (h : j ∈ js) : ∃ r ∈ rs, G j r := by
  obtain ⟨i, hi⟩ := List.mem_iff_getElem?.mp h
  obtain ⟨r, h1, h2⟩ := pairedGet p hi
  exact ⟨r, List.mem_of_getElem? h1, h2⟩
theorem paired_memR {α β : Type} {G : α → β → Prop} {js : List α} {rs : List β} (p : Paired G js rs) {r : β} (h : r ∈ rs) : ∃ j ∈ js, G j r := by
  obtain ⟨i, hi⟩ := List.mem_iff_getElem?.mp h
  obtain ⟨j, h1, h2⟩ := pairedAt p hi
  exact ⟨j, List.mem_of_getElem? h1, h2⟩
theorem Da.tuple_inv {H : Hp} {n : Nat} {v : V} {ds : List PyData} (h : Da H (n + 1) v (.tuple ds)) : ∃ a xs, v = .ref a ∧ H a = some (.tup xs) ∧ xs.length ≤ 100000 ∧ Paired (Da H n) xs ds := by
  rcases h with h | ⟨a, xs, ds', e1, e2, h, hl, p⟩ | ⟨a, xs, ds', e1, e2, h, hl, p⟩
  · rcases h with ⟨_, e⟩ | ⟨_, _, e⟩ | ⟨_, _, e⟩ | ⟨_, _, e, _⟩ <;> cases e
  · cases e2
  · cases e2; exact ⟨a, xs, e1, h, hl, p⟩
theorem Da.int_inv {H : Hp} {n : Nat} {v : V} {x : Int} (h : Da H n v (.int x)) : v = .int x := by
  have aux : AtomD v (.int x) → v = .int x := fun h => by rcases h with ⟨_, e⟩ | ⟨_, _, e⟩ | ⟨_, rfl, e⟩ | ⟨_, _, e, h⟩ <;> cases e; rfl
  cases n with
  | zero => exact aux h
  | succ n =>
    rcases h with h | ⟨_, _, _, _, e, _⟩ | ⟨_, _, _, _, e, _⟩
    · exact aux h
    · cases e
    · cases e
theorem Da.str_inv {H : Hp} {n : Nat} {v : V} {x : Str} (h : Da H n v (.str x)) : v = .str x := by
  have aux : AtomD v (.str x) → v = .str x := fun h => by rcases h with ⟨_, e⟩ | ⟨_, _, e⟩ | ⟨_, _, e⟩ | ⟨_, rfl, e, h⟩ <;> cases e; rfl
  cases n with
  | zero => exact aux h
  | succ n =>
    rcases h with h | ⟨_, _, _, _, e, _⟩ | ⟨_, _, _, _, e, _⟩
    · exact aux h
    · cases e
    · cases e
theorem Da.pair_inv {H : Hp} {n : Nat} {v : V} {d e : PyData} (h : Da H (n + 1) v (.tuple [d, e])) : ∃ t x y, v = .ref t ∧ H t = some (.tup [x, y]) ∧ Da H n x d ∧ Da H n y e := by
  obtain ⟨t, xs, e1, h1, _, p⟩ := h.tuple_inv
  cases p with | cons p1 p => cases p with | cons p2 p => cases p with | nil => exact ⟨t, _, _, e1, h1, p1, p2⟩
theorem Da.up {H : Hp} : ∀ {n : Nat} {v : V} {d : PyData}, Da H n v d → Da H (n + 1) v d
  | 0, _, _, h => .inl h
  | n + 1, _, _, h => by
    rcases h with h | ⟨a, xs, ds, e1, e2, h, hl, p⟩ | ⟨a, xs, ds, e1, e2, h, hl, p⟩
    · exact .inl h
    · exact .inr (.inl ⟨a, xs, ds, e1, e2, h, hl, Paired.mapP p fun _ _ z => Da.up z⟩)
    · exact .inr (.inr ⟨a, xs, ds, e1, e2, h, hl, Paired.mapP p fun _ _ z => Da.up z⟩)
theorem da_pri {H : Hp} {n : Nat} {v : V} {q : Int × Int} (h : Da H (n + 1) v (.tuple [.int q.1, .int q.2])) : PrI H v q := by
  obtain ⟨t, x, y, e, ht, hx, hy⟩ := h.pair_inv
  rw [hx.int_inv, hy.int_inv] at ht
  exact ⟨t, e, ht⟩
theorem pri_da {H : Hp} {n : Nat} {v : V} {q : Int × Int} (h : PrI H v q) : Da H (n + 1) v (.tuple [.int q.1, .int q.2]) := by
  obtain ⟨t, rfl, ht⟩ := h
  exact .tup ht (by simp) (.cons .int (.cons .int .nil))
theorem paired_flip {α β : Type} {G : α → β → Prop} : ∀ {l : List α} {m : List β}, Paired G l m → Paired (fun b a => G a b) m l
  | _, _, .nil => .nil
  | _, _, .cons h t => .cons h (paired_flip t)
/-! ### the law's own: specs -/
def Rs.same : Rs → Bool
  | .non => false
  | .nums a b => PyData.eqv (.int a) (.int b)
  | .fras a b => PyData.eqv (pairD a) (pairD b)
/-- == of a pair's two sides -/
def sp_is_settled : Sp := fun vs H Q _ => ∃ (v : V) (r : Rs), vs = [v] ∧ Da H 2 v r.data ∧ r ≠ .non ∧ Q (.bl r.same) H
def sp_law_says : Sp := fun vs H Q _ => ∃ b : Bool, vs = [.bl b, .bl b] ∧ Q (.bl true) H
def sp_law_rank : Sp := fun vs H Q _ => ∃ (a : Addr) (ns : List Int) (p w : Int), vs = [.ref a, .int p, .int w] ∧ H a = some (.lst (ns.map V.int)) ∧ ns ≠ [] ∧ 0 ≤ p ∧ p ≤ w ∧ 0 < w ∧ w < 100 ∧ ns.length ≤ 1000 ∧ ∀ r H', Same H H' → RankC ns p w r → Q (.int r) H'
def sp_law_lowest : Sp := fun vs H Q _ => ∃ p w : Int, vs = [.int p, .int w] ∧ 0 < w ∧ w < 1000 ∧ newPair H (.int (low2 p w).1, .int (low2 p w).2) Q
def sp_law_least : Sp := fun vs H Q _ => ∃ (a : Addr) (xs : List V) (qs : List (Int × Int)), vs = [.ref a] ∧ H a = some (.lst xs) ∧ Paired (fun v q => PrI H v q) xs qs ∧ qs ≠ [] ∧ (∀ q ∈ qs, FrOk q) ∧ ∀ v q, PrI H v q → q ∈ qs → (∀ r ∈ qs, q.1 * r.2 ≤ r.1 * q.2) → Q v H
def sp_law_within : Sp := fun vs H Q _ => ∃ (x y : V) (r s : Rs), vs = [x, y] ∧ Da H 2 x r.data ∧ Da H 2 y s.data ∧ Within r s ∧ (∀ a b, r = .fras a b → FrOk a ∧ FrOk b) ∧ (∀ a b, s = .fras a b → FrOk a ∧ FrOk b) ∧ Q (.bl true) H
/-- a list of tuples of ints -/
def TupsAt (H : Hp) (v : V) (W : List (List Int)) : Prop := ∃ a xs, v = .ref a ∧ H a = some (.lst xs) ∧ Paired (fun v r => ∃ t, v = V.ref t ∧ H t = some (.tup (r.map V.int))) xs W
def ListsAt (H : Hp) (v : V) (W : List (List Int)) : Prop := ∃ a xs, v = .ref a ∧ H a = some (.lst xs) ∧ Paired (fun v r => ∃ t, v = V.ref t ∧ H t = some (.lst (r.map V.int))) xs W
def sp_law_ways : Sp := fun vs H Q _ => ∃ f m l h : Int, vs = [.int f, .int m, .int l, .int h] ∧ 0 ≤ f ∧ f ≤ m ∧ m ≤ 3 ∧ -100 ≤ l ∧ l ≤ h ∧ h ≤ l + 3 ∧ l ≤ 100 ∧
  ∀ v H' W, Same H H' → TupsAt H' v W → W.length ≤ 1000 → (∀ r ∈ W, Way f m l h r) → (∀ xs, Way f m l h xs → ∃ r ∈ W, r.Perm xs) → Q v H'
def sp_law_told (K : PySem.W.Frag) (A : Ads) : Sp := fun vs H Q _ => ∃ (k : Int) (a t : Addr) (ns : List Int) (p w : Int) (f m l h : V), vs = [.int k, .ref a, .int p, .int w, .ref t] ∧ H a = some (.lst (ns.map V.int)) ∧ H t = some (.tup [f, m, l, h]) ∧
  (k = 0 ∨ k = 1 ∨ k = 2 ∨ k = 3) ∧ 0 ≤ p ∧ p ≤ w ∧ 0 < w ∧ w < 100 ∧ ns.length ≤ 100 ∧ Scal f ∧ Scal m ∧ Scal l ∧ Scal h ∧ (¬ MoreOk f m l h → ∀ H', Same H H' → Q (.str "range") H') ∧
  ∀ o : More, f = .int o.f → m = .int o.m → l = .int o.l → h = .int o.h → ∀ v H' r, Same H H' → Da H' 2 v r.data → IsR k p w (Rows ns o.f o.m o.l o.h) r → Q v H'
def sp_law_due : Sp := fun vs H Q _ => ∃ (k : Int) (v : V) (W : List (List Int)) (p w : Int), vs = [.int k, v, .int p, .int w] ∧ ListsAt H v W ∧ W ≠ [] ∧ W.length ≤ 1000 ∧ (∀ r ∈ W, r.length ≤ 100) ∧
  (k = 0 ∨ k = 1 ∨ k = 2 ∨ k = 3) ∧ 0 ≤ p ∧ p ≤ w ∧ 0 < w ∧ w < 100 ∧ ∀ v H' r, Same H H' → Da H' 2 v r.data → IsR k p w (· ∈ W) r → Q v H'
/-- all but the draws stand -/
def sp_law_narrower : Sp := fun vs H Q _ => ∃ (d a t : Addr) (ns : List Int) (p w : Int) (o : More), vs = [.ref d, .ref a, .int p, .int w, .ref t] ∧ DrawsAt H d ∧ H a = some (.lst (ns.map V.int)) ∧ a ≠ d ∧ H t = some (.tup [.int o.f, .int o.m, .int o.l, .int o.h]) ∧
  o.m ≤ 50 ∧ 0 ≤ p ∧ p ≤ w ∧ 0 < w ∧ w < 100 ∧ ns.length ≤ 40 ∧ ∀ H', Keep [d] H H' → DrawsAt H' d → Q (.bl true) H'
def sp_law_areas : Sp := fun vs H Q _ => ∃ d : Addr, vs = [.ref d] ∧ DrawsAt H d ∧ ∀ H', Keep [d] H H' → DrawsAt H' d → Q (.bl true) H'
def sp_law (K : PySem.W.Frag) : Sp := fun vs H Q _ => ∃ (a : Addr) (ns : List Int), vs = [.ref a] ∧ SqL K H a (ns.map V.int) ∧ ns.length ≤ 63 ∧ ∀ H', Q (.bl true) H'
/-! ### all rows: plain -/
def lastOr (l : Int) (r : List Int) : Int := r.getLast?.getD l
def nxt (l h : Int) (r : List Int) : List (List Int) := (List.range (h + 1 - lastOr l r).toNat).map fun (k : Nat) => r ++ [lastOr l r + (k : Int)]
def wrow (l h : Int) : Nat → List (List Int)
  | 0 => [[]]
  | i + 1 => (wrow l h i).flatMap (nxt l h)
def wfound (f l h : Int) : Nat → List (List Int)
  | 0 => []
  | i + 1 => if f ≤ (i : Int) then wfound f l h i ++ wrow l h i else wfound f l h i
theorem lastOr_snoc {l x : Int} {r : List Int} : lastOr l (r ++ [x]) = x := by simp [lastOr]
theorem lastOr_ge {l : Int} {r : List Int} (h : ∀ x ∈ r, l ≤ x) : l ≤ lastOr l r := by
  unfold lastOr
  rcases List.eq_nil_or_concat r with rfl | ⟨r', x, rfl⟩
  · simp
  · simpa using h x (by simp)
theorem wrow_ok {l h : Int} : ∀ {i : Nat} {r : List Int}, r ∈ wrow l h i → r.length = i ∧ ∀ x ∈ r, l ≤ x ∧ x ≤ h
  | 0, r, hr => by simp [wrow] at hr; subst hr; simp
  | i + 1, r, hr => by
    simp only [wrow, List.mem_flatMap] at hr
    obtain ⟨r', hr', hn⟩ := hr
    obtain ⟨h1, h2⟩ := wrow_ok hr'
    simp only [nxt, List.mem_map, List.mem_range] at hn
    obtain ⟨k, hk, rfl⟩ := hn
    have := lastOr_ge (l := l) (r := r') fun x hx => (h2 x hx).1
    refine ⟨by simp [h1], fun x hx => ?_⟩
    rcases List.mem_append.mp hx with hx | hx
    · exact h2 x hx
    · simp at hx; omega
theorem flatMap_len {α β : Type} {f : α → List β} {n : Nat} : ∀ {l : List α}, (∀ x ∈ l, (f x).length ≤ n) → (l.flatMap f).length ≤ l.length * n
  | [], _ => by simp
  | x :: l, h => by
    have := flatMap_len (l := l) fun y hy => h y (List.mem_cons_of_mem _ hy)
    have := h x (List.mem_cons_self ..)
    rw [List.flatMap_cons, List.length_append, List.length_cons, Nat.succ_mul]
    omega
theorem nxt_len {l h : Int} {r : List Int} (hh : h ≤ l + 3) (hr : ∀ x ∈ r, l ≤ x) : (nxt l h r).length ≤ 4 := by
  have := lastOr_ge hr
  simp only [nxt, List.length_map, List.length_range]
  omega
theorem wrow_len {l h : Int} (hh : h ≤ l + 3) : ∀ {i : Nat}, (wrow l h i).length ≤ 4 ^ i
  | 0 => by simp [wrow]
  | i + 1 => by
    have h1 := wrow_len hh (i := i)
    have h2 := flatMap_len (f := nxt l h) (n := 4) (l := wrow l h i) fun r hr => nxt_len hh fun x hx => ((wrow_ok hr).2 x hx).1
    rw [Nat.pow_succ]
    show ((wrow l h i).flatMap (nxt l h)).length ≤ _
    omega
theorem wfound_len {f l h : Int} (hh : h ≤ l + 3) : ∀ {i : Nat}, (wfound f l h i).length ≤ 4 ^ i
  | 0 => by simp [wfound]
  | i + 1 => by
    have h1 := wfound_len (f := f) hh (i := i)
    have h2 := wrow_len hh (i := i)
    have : 0 < 4 ^ i := Nat.pow_pos (by decide)
    rw [Nat.pow_succ]
    unfold wfound
    split
    · rw [List.length_append]; omega
    · omega
theorem wfound_ok {f l h : Int} : ∀ {i : Nat} {r : List Int}, r ∈ wfound f l h i → f ≤ r.length ∧ r.length < i ∧ ∀ x ∈ r, l ≤ x ∧ x ≤ h
  | 0, r, hr => by simp [wfound] at hr
  | i + 1, r, hr => by
    unfold wfound at hr
    split at hr
    · rcases List.mem_append.mp hr with hr | hr
      · obtain ⟨h1, h2, h3⟩ := wfound_ok hr
        exact ⟨h1, by omega, h3⟩
      · obtain ⟨h1, h2⟩ := wrow_ok hr
        exact ⟨by omega, by omega, h2⟩
    · obtain ⟨h1, h2, h3⟩ := wfound_ok hr
      exact ⟨h1, by omega, h3⟩
theorem wrow_mem {l h : Int} : ∀ {i : Nat} {r : List Int}, r.length = i → (∀ x ∈ r, l ≤ x ∧ x ≤ h) → r.Pairwise (· ≤ ·) → r ∈ wrow l h i
  | 0, r, h1, _, _ => by rw [List.length_eq_zero_iff.mp h1]; simp [wrow]
  | i + 1, r, h1, h2, h3 => by
    rcases List.eq_nil_or_concat r with rfl | ⟨r', x, rfl⟩
    · simp at h1
    · have hp := List.pairwise_append.mp (by simpa using h3)
      have hr' := wrow_mem (i := i) (r := r') (by simpa using h1) (fun y hy => h2 y (by simp [hy])) hp.1
      simp only [wrow, List.mem_flatMap]
      refine ⟨r', hr', ?_⟩
      simp only [nxt, List.mem_map, List.mem_range]
      have hx := h2 x (by simp)
      have hl : lastOr l r' ≤ x := by
        unfold lastOr
        rcases List.eq_nil_or_concat r' with rfl | ⟨r2, y, rfl⟩
        · simpa using hx.1
        · simpa using hp.2.2 y (by simp) x (by simp)
      exact ⟨(x - lastOr l r').toNat, by omega, by simp; omega⟩
theorem wfound_mem {f l h : Int} : ∀ {i : Nat} {r : List Int}, f ≤ r.length → r.length < i → r ∈ wrow l h r.length → r ∈ wfound f l h i
  | 0, r, _, h, _ => by omega
  | i + 1, r, h1, h2, h3 => by
    unfold wfound
    by_cases e : r.length = i
    · rw [if_pos (by omega)]
      exact List.mem_append_right _ (by rw [← e]; exact h3)
    · have := wfound_mem (i := i) h1 (by omega) h3
      split
      · exact List.mem_append_left _ this
      · exact this
theorem ways_all {f m l h : Int} {xs : List Int} (hw : Way f m l h xs) (hm : 0 ≤ m) : ∃ r ∈ wfound f l h (m + 1).toNat, r.Perm xs := by
  obtain ⟨h1, h2, h3⟩ := hw
  have pm := List.mergeSort_perm xs (fun a b => decide (a ≤ b))
  have ps := List.pairwise_mergeSort (le := fun a b : Int => decide (a ≤ b)) (by simp; omega) (by simp; omega) xs
  refine ⟨_, wfound_mem (by rw [pm.length_eq]; exact h1) (by rw [pm.length_eq]; omega) (wrow_mem rfl (fun x hx => h3 x (pm.mem_iff.mp hx)) ?_), pm⟩
  exact ps.imp (by simp)
theorem TupsAt.same {H H' : Hp} {v : V} {W : List (List Int)} (s : Same H H') (h : TupsAt H v W) : TupsAt H' v W := by
  obtain ⟨a, xs, rfl, ha, p⟩ := h
  exact ⟨a, xs, rfl, s _ _ ha, Paired.mapP p fun _ _ ⟨t, e, ht⟩ => ⟨t, e, s _ _ ht⟩⟩
theorem ListsAt.same {H H' : Hp} {v : V} {W : List (List Int)} (s : Same H H') (h : ListsAt H v W) : ListsAt H' v W := by
  obtain ⟨a, xs, rfl, ha, p⟩ := h
  exact ⟨a, xs, rfl, s _ _ ha, Paired.mapP p fun _ _ ⟨t, e, ht⟩ => ⟨t, e, s _ _ ht⟩⟩
theorem ext_of {k p w : Int} {W : List (List Int)} {rs : List Int} {lo hi : Int} (pr : Paired (fun r g => ValI k p w r g) W rs) (ml : lo ∈ rs) (hl : ∀ y ∈ rs, lo ≤ y) (mh : hi ∈ rs) (hh : ∀ y ∈ rs, y ≤ hi) : ExtI (ValI k p w) (· ∈ W) lo hi := by
  obtain ⟨r1, m1, v1⟩ := paired_memR pr ml
  obtain ⟨r2, m2, v2⟩ := paired_memR pr mh
  refine ⟨⟨r1, m1, v1⟩, ⟨r2, m2, v2⟩, fun r v hr hv => ?_⟩
  obtain ⟨v', mv, hv'⟩ := paired_memL pr hr
  rw [valI_uniq hv hv']
  exact ⟨hl _ mv, hh _ mv⟩
theorem ext_full {k p w : Int} {W : List (List Int)} {lo hi : Int} (hk : k ≠ 0) (h : ExtI (ValI k p w) (· ∈ W.filter (fun r => !decide (r = []))) lo hi) : ExtI (ValI k p w) (· ∈ W) lo hi := by
  obtain ⟨⟨r1, m1, v1⟩, ⟨r2, m2, v2⟩, hb⟩ := h
  refine ⟨⟨r1, (List.mem_filter.mp m1).1, v1⟩, ⟨r2, (List.mem_filter.mp m2).1, v2⟩, fun r v hr hv => hb r v (List.mem_filter.mpr ⟨hr, ?_⟩) hv⟩
  have : r ≠ [] := fun e => valI_ne hk (e ▸ hv)
  simpa using this
theorem extF_of {W : List (List Int)} {a b : Int × Int} (hw : ∀ r ∈ W, r ≠ []) (ha : ∃ r ∈ W, a = low2 r.sum r.length) (hb : ∃ r ∈ W, b = low2 r.sum r.length) (h : ∀ r ∈ W, a.1 * (low2 r.sum r.length).2 ≤ (low2 r.sum r.length).1 * a.2 ∧ (low2 r.sum r.length).1 * b.2 ≤ b.1 * (low2 r.sum r.length).2) : ExtF (· ∈ W) a b := by
  obtain ⟨r1, m1, rfl⟩ := ha
  obtain ⟨r2, m2, rfl⟩ := hb
  refine ⟨⟨r1, m1, hw _ m1, low2_frac (hw _ m1)⟩, ⟨r2, m2, hw _ m2, low2_frac (hw _ m2)⟩, fun r hr hne => ?_⟩
  have hp : (0 : Int) < r.length := by have := List.length_pos_iff.mpr hne; omega
  exact ⟨(low2_lt hp).1 (h r hr).1, (low2_lt hp).2 (h r hr).2⟩
theorem extF_full {W : List (List Int)} {a b : Int × Int} (h : ExtF (· ∈ W.filter (fun r => !decide (r = []))) a b) : ExtF (· ∈ W) a b := by
  obtain ⟨⟨r1, m1, v1⟩, ⟨r2, m2, v2⟩, hb⟩ := h
  exact ⟨⟨r1, (List.mem_filter.mp m1).1, v1⟩, ⟨r2, (List.mem_filter.mp m2).1, v2⟩, fun r hr hn => hb r (List.mem_filter.mpr ⟨hr, by simpa using hn⟩) hn⟩
theorem eqv_ints_nil {r : List Int} : PyData.eqv (.list (r.map PyData.int)) (.list []) = decide (r = []) := by
  cases r with
  | nil => simp [eqv_nil_nil]
  | cons x xs => simpa using eqv_cons_nil
theorem rs_kt {H H' : Hp} {n : Nat} {v : V} {r : Rs} (kt : KT H H') (h : Da H (n + 2) v r.data) : Da H' (n + 2) v r.data := by
  cases r with
  | non => rw [Da.str_inv h]; exact .str (by decide +kernel)
  | nums a b =>
    obtain ⟨t, rfl, ht⟩ := da_pri (q := (a, b)) h
    exact .tup (kt _ _ ht) (by simp) (.cons .int (.cons .int .nil))
  | fras a b =>
    obtain ⟨t, x, y, rfl, ht, hx, hy⟩ := Da.pair_inv h
    obtain ⟨t1, rfl, h1⟩ := da_pri hx
    obtain ⟨t2, rfl, h2⟩ := da_pri hy
    refine .tup (kt _ _ ht) (by simp) (.cons ?_ (.cons ?_ .nil))
    · exact .tup (kt _ _ h1) (by simp) (.cons .int (.cons .int .nil))
    · exact .tup (kt _ _ h2) (by simp) (.cons .int (.cons .int .nil))
/-- the four ends -/
def Ends4 (H : Hp) (e : Addr) (p w : Int) (R : List Int → Prop) : Prop := ∃ ys, H e = some (.lst ys) ∧ Paired (fun (i : Nat) y => ∃ r, Da H 2 y r.data ∧ IsR (0 + (i : Int)) p w R r) (List.range 4) ys
theorem Ends4.same {H H' : Hp} {e : Addr} {p w : Int} {R : List Int → Prop} (s : Same H H') (h : Ends4 H e p w R) : Ends4 H' e p w R := by
  obtain ⟨ys, h1, pr⟩ := h
  exact ⟨ys, s _ _ h1, Paired.mapP pr fun _ _ ⟨r, d, i⟩ => ⟨r, d.same s, i⟩⟩
theorem keep_kt {H H' : Hp} {d : Addr} (k : Keep [d] H H') (h : DrawsAt H d) : KT H H' := fun a xs e => by
  obtain ⟨ms, hm⟩ := h
  refine k a _ e ?_
  simp only [List.mem_singleton]
  rintro rfl
  rw [hm] at e
  cases e
theorem Ends4.keep {H H' : Hp} {e d : Addr} {p w : Int} {R : List Int → Prop} (k : Keep [d] H H') (hd : DrawsAt H d) (n : e ≠ d) (h : Ends4 H e p w R) : Ends4 H' e p w R := by
  obtain ⟨ys, h1, pr⟩ := h
  exact ⟨ys, k _ _ h1 (by simpa using n), Paired.mapP pr fun _ _ ⟨r, dd, i⟩ => ⟨r, rs_kt (n := 0) (keep_kt k hd) dd, i⟩⟩
theorem eqv_none {r : Rs} : PyData.eqv r.data (.str "none") = decide (r = .non) := by
  cases r <;> simp [Rs.data, PyData.eqv]
theorem rows_point {ns : List Int} {l h : Int} {r : List Int} : Rows ns 0 0 l h r ↔ r = ns := by
  constructor
  · rintro ⟨xs, ⟨_, h2, _⟩, rfl⟩
    have : xs = [] := List.length_eq_zero_iff.mp (by omega)
    rw [this, List.append_nil]
  · rintro rfl
    exact ⟨[], ⟨by simp, by simp, by simp⟩, by simp⟩
theorem eqv_refl_pair (q : Int × Int) : PyData.eqv (pairD q) (pairD q) = true := by simp [pairD, PyData.eqv, PyData.eqvAll]
/-- one row alone: both ends are its -/
theorem isR_point {k p w l h : Int} {ns : List Int} {r : Rs} (hn : ns ≠ []) (hr : IsR k p w (Rows ns 0 0 l h) r) : r ≠ .non ∧ r.same = true ∧ (k = 0 → r = .nums ns.sum ns.sum) ∧ ∀ g, k = 1 → g ∈ ns → (∀ x ∈ ns, x ≤ g) → r = .nums g g := by
  cases r with
  | non => exact (hn (hr.2 ns (rows_point.mpr rfl))).elim
  | nums a b =>
    obtain ⟨e, ⟨r1, R1, v1⟩, ⟨r2, R2, v2⟩, _⟩ := hr
    rw [rows_point] at R1 R2
    subst R1 R2
    have e2 := valI_uniq v1 v2
    subst e2
    refine ⟨by simp, by simp [Rs.same, PyData.eqv], fun k0 => ?_, fun g k1 mg hg => ?_⟩
    · have : a = r2.sum := valI_uniq v1 (.inl ⟨k0, rfl⟩)
      rw [this]
    · have : a = g := valI_uniq v1 (.inr (.inl ⟨k1, mg, hg⟩))
      rw [this]
  | fras a b =>
    obtain ⟨e, ⟨⟨r1, R1, n1, p1, f1, g1⟩, ⟨r2, R2, n2, p2, f2, g2⟩, _⟩, _⟩ := hr
    rw [rows_point] at R1 R2
    subst R1 R2
    have hp : (0 : Int) < r2.length := by have := List.length_pos_iff.mpr n1; omega
    have := cross_eq p1 p2 g1 g2 (Int.le_antisymm (cross_le hp p1 p2 (Int.le_of_eq f1) (Int.le_of_eq f2.symm)) (cross_le hp p2 p1 (Int.le_of_eq f2) (Int.le_of_eq f1.symm)))
    subst this
    exact ⟨by simp, eqv_refl_pair _, fun k0 => by omega, fun g k1 => by omega⟩
theorem isR_fr {k p w : Int} {R : List Int → Prop} {r : Rs} (h : IsR k p w R r) : ∀ a b, r = .fras a b → FrOk a ∧ FrOk b := by
  rintro a b rfl
  obtain ⟨_, ⟨⟨_, _, _, p1, _⟩, ⟨_, _, _, p2, _⟩, _⟩, b1, b2⟩ := h
  exact ⟨⟨p1, b1⟩, ⟨p2, b2⟩⟩
def More.next (o : More) (hm : 0 < o.m) : More := ⟨if 0 < o.f - 1 then o.f - 1 else 0, o.m - 1, o.l, o.h, by split <;> omega, by have := o.fm; split <;> omega, by have := o.m4; omega, o.l0, o.lh, o.h0⟩
def More.zero (o : More) : More := ⟨0, 0, o.l, o.h, by omega, by omega, by omega, o.l0, o.lh, o.h0⟩
theorem MoreOk.of (o : More) : MoreOk (.int o.f) (.int o.m) (.int o.l) (.int o.h) := ⟨_, _, _, _, rfl, rfl, rfl, rfl, o.f0, o.fm, o.m4, o.l0, o.lh, o.h0⟩
theorem More.eq {o o' : More} (e1 : V.int o.f = V.int o'.f) (e2 : V.int o.m = V.int o'.m) (e3 : V.int o.l = V.int o'.l) (e4 : V.int o.h = V.int o'.h) : o' = o := by
  cases o; cases o'; simp at e1 e2 e3 e4; subst e1 e2 e3 e4; rfl
/-- a good wish is told its ends -/
theorem told_good {K : PySem.W.Frag} {A : Ads} {H : Hp} {Q : VK} {E : XK} {k p w : Int} {a t : Addr} {ns : List Int} (o : More) (ha : H a = some (.lst (ns.map V.int))) (ht : H t = some (.tup [.int o.f, .int o.m, .int o.l, .int o.h])) (hk : k = 0 ∨ k = 1 ∨ k = 2 ∨ k = 3) (p0 : 0 ≤ p) (pw : p ≤ w) (w0 : 0 < w) (w1 : w < 100) (hl : ns.length ≤ 100)
    (q : ∀ v H' r, Same H H' → Da H' 2 v r.data → IsR k p w (Rows ns o.f o.m o.l o.h) r → Q v H') : sp_law_told K A [.int k, .ref a, .int p, .int w, .ref t] H Q E :=
  ⟨k, a, t, ns, p, w, _, _, _, _, rfl, ha, ht, hk, p0, pw, w0, w1, hl, .inr (.inr (.inl ⟨_, rfl⟩)), .inr (.inr (.inl ⟨_, rfl⟩)), .inr (.inr (.inl ⟨_, rfl⟩)), .inr (.inr (.inl ⟨_, rfl⟩)), fun hb => (hb (MoreOk.of o)).elim, fun o' e1 e2 e3 e4 => by
    have := More.eq e1 e2 e3 e4
    subst this
    exact q⟩
theorem r4 {i : Nat} (h : i < 4) : (0 + (i : Int) = 0 ∨ 0 + (i : Int) = 1 ∨ 0 + (i : Int) = 2 ∨ 0 + (i : Int) = 3) := by omega
theorem ends4_lc {g : TG} {te : TE} {vs : List Nat} {σ : L2.St} {H : Hp} {Q : VK} {p w : Int} {R : List Int → Prop}
    (turn : ∀ i : Nat, i < 4 → ∀ H1, Same H H1 → ∀ (k1 : VK) (k0 : Hp → Prop), (∀ y H', Same H1 H' → (∃ r, Da H' 2 y r.data ∧ IsR (0 + (i : Int)) p w R r) → k1 y H') → LcTurn g tYes te vs σ (.int (0 + (i : Nat))) H1 k1 k0)
    (hd : ∀ e H1, H e = none → Same H H1 → Ends4 H1 e p w R → Q (.ref e) H1) : (-2 ^ 62 ≤ (4 : Int) ∧ (4 : Int) < 2 ^ 62) ∧ LcJ (Itr 0 (Int.toNat 4)) g tYes te vs σ H Q := by
  refine ⟨⟨by omega, by omega⟩, lcR_core ?_ (fun _ => true) (fun i y H' => ∃ r, Da H' 2 y r.data ∧ IsR (0 + (i : Int)) p w R r) (fun _ _ _ _ kt ⟨r, dd, i⟩ => ⟨r, rs_kt (n := 0) kt dd, i⟩) (fun i hi H1 s1 k1 k0 h1 _ => ?_) fun e H1 ys hD s1 hDs pr => ?_⟩
  · decide
  · exact turn i hi H1 s1 k1 k0 fun y H' s' h => h1 rfl y H' s' h
  · rw [List.filter_eq_self.mpr (fun _ _ => rfl)] at pr
    exact hd e H1 hD s1 ⟨ys, hDs, pr⟩
def t_is_number (K : PySem.W.Frag) (A : Ads) (E : XK)  : TS :=
  (tRet (dAndV (tCB dIsi (tCons (dVar 0) (tCons (tC (.ty "int")) tNil))) (dAndV (dNotV (tCB dIsi (tCons (dVar 0) (tCons (tC (.ty "bool")) tNil)))) (dChain dLe dLe (dVar 1) (dVar 0) (dVar 2)))))
def t_lowest (K : PySem.W.Frag) (A : Ads) (E : XK)  : TS :=
  (tSeq (tAsg (tCB dGcd (tCons (dVar 0) (tCons (dVar 1) tNil))) (gName 2))
  (tSeq (tIfS (dTest (tOp dLt (dVar 1) (tC (.int 0))))
  (tAsg (tUn dNeg (dVar 2)) (gName 2))
  tNext)
  (tRet (tTup (tCons (tOp dDiv (dVar 0) (dVar 2)) (tCons (tOp dDiv (dVar 1) (dVar 2)) tNil))))))
def t_made (K : PySem.W.Frag) (A : Ads) (E : XK)  : TS :=
  (tSeq (tIfS (dTest (tOp dEq (dVar 1) (tC (.int 0))))
  (tRaiseN (fun cls d _ H => E cls d H) A.OutOfRange)
  tNext)
  (tRet (tCallS sp_lowest (fun _ => E0) (tCons (dVar 0) (tCons (dVar 1) tNil)))))
def t_less (K : PySem.W.Frag) (A : Ads) (E : XK)  : TS :=
  (tRet (tOp dLt (tOp dMul (tOp dIx (dVar 0) (tC (.int 0))) (tOp dIx (dVar 1) (tC (.int 1)))) (tOp dMul (tOp dIx (dVar 1) (tC (.int 0))) (tOp dIx (dVar 0) (tC (.int 1))))))
def t_rank_place (K : PySem.W.Frag) (A : Ads) (E : XK)  : TS :=
  (tRet (tOp dDiv (tOp dMul (tOp dSub (dVar 0) (tC (.int 1))) (dVar 1)) (dVar 2)))
def t_rank_of_all (K : PySem.W.Frag) (A : Ads) (E : XK)  : TS :=
  (tSeq (tIfS (dTest (tOp dEq (tCB dLen (tCons (dVar 0) tNil)) (tC (.int 0))))
  (tRaiseN (fun cls d _ H => E cls d H) A.NotThere)
  tNext)
  (tRet (tOp dIx (tCB (rSortedI K) (tCons (dVar 0) tNil)) (tCallS sp_rank_place (fun _ => E0) (tCons (tCB dLen (tCons (dVar 0) tNil)) (tCons (dVar 1) (tCons (dVar 2) tNil)))))))
def t_check_more (K : PySem.W.Frag) (A : Ads) (E : XK)  : TS :=
  (tSeq (tIfS (tOr (tNot (dTru (tCallS sp_is_number (fun _ => E0) (tCons (dVar 1) (tCons (tC (.int 0)) (tCons (tC (.int 400)) tNil)))))) (tNot (dTru (tCallS sp_is_number (fun _ => E0) (tCons (dVar 0) (tCons (tC (.int 0)) (tCons (dVar 1) tNil)))))))
  (tRaiseN (fun cls d _ H => E cls d H) A.OutOfRange)
  tNext)
  (tIfS (tOr (tNot (dTru (tCallS sp_is_number (fun _ => E0) (tCons (dVar 3) (tCons (tUn dNeg (tC (.int 1000000000000))) (tCons (tC (.int 1000000000000)) tNil)))))) (tNot (dTru (tCallS sp_is_number (fun _ => E0) (tCons (dVar 2) (tCons (tUn dNeg (tC (.int 1000000000000))) (tCons (dVar 3) tNil)))))))
  (tRaiseN (fun cls d _ H => E cls d H) A.OutOfRange)
  tNext))
def t_ends_of (K : PySem.W.Frag) (A : Ads) (E : XK)  : TS :=
  (tRet (dLcT K (tTup (tCons (tCB dMax2 (tCons (dVar 0) (tCons (dVar 2) tNil))) (tCons (dVar 1) tNil))) (gName 3) (dTest (dChain dLe dLe (dVar 2) (dVar 3) (dVar 1))) (dVar 3) [3]))
def t_range_of_total (K : PySem.W.Frag) (A : Ads) (E : XK)  : TS :=
  (tSeq (tDrop (tCallS (sp_check_more A) (WE fun cls d _ H => E cls d H) (tCons (dVar 1) (tCons (dVar 2) (tCons (dVar 3) (tCons (dVar 4) tNil))))))
  (tRet (tTup (tCons (tOp dAdd2 (dVar 0) (tCB dMin2 (tCons (tOp dMul (dVar 1) (dVar 3)) (tCons (tOp dMul (dVar 2) (dVar 3)) tNil)))) (tCons (tOp dAdd2 (dVar 0) (tCB dMax2 (tCons (tOp dMul (dVar 1) (dVar 4)) (tCons (tOp dMul (dVar 2) (dVar 4)) tNil)))) tNil)))))
def t_range_of_greatest (K : PySem.W.Frag) (A : Ads) (E : XK)  : TS :=
  (tSeq (tDrop (tCallS (sp_check_more A) (WE fun cls d _ H => E cls d H) (tCons (dVar 1) (tCons (dVar 2) (tCons (dVar 3) (tCons (dVar 4) tNil))))))
  (tSeq (tIfS (dTest (tOp dIs (dVar 0) (tC .non)))
  (tSeq (tIfS (dTest (tOp dEq (dVar 2) (tC (.int 0))))
  (tRaiseN (fun cls d _ H => E cls d H) A.NotThere)
  tNext)
  (tRet (tTup (tCons (dVar 3) (tCons (dVar 4) tNil)))))
  tNext)
  (tRet (tTup (tCons (tIf (dTest (tOp dGt (dVar 1) (tC (.int 0)))) (tCB dMax2 (tCons (dVar 0) (tCons (dVar 3) tNil))) (dVar 0)) (tCons (tIf (dTest (tOp dGt (dVar 2) (tC (.int 0)))) (tCB dMax2 (tCons (dVar 0) (tCons (dVar 4) tNil))) (dVar 0)) tNil))))))
def t_range_of_mean (K : PySem.W.Frag) (A : Ads) (E : XK)  : TS :=
  (tSeq (tDrop (tCallS (sp_check_more A) (WE fun cls d _ H => E cls d H) (tCons (dVar 2) (tCons (dVar 3) (tCons (dVar 4) (tCons (dVar 5) tNil))))))
  (tSeq (tIfS (dTest (tOp dEq (tOp dAdd2 (dVar 0) (dVar 3)) (tC (.int 0))))
  (tRaiseN (fun cls d _ H => E cls d H) A.NotThere)
  tNext)
  (tSeq (tAsg (tCallS sp_ends_of (fun _ => E0) (tCons (dVar 2) (tCons (dVar 3) (tCons (tIf (dTest (tOp dEq (dVar 0) (tC (.int 0)))) (tC (.int 1)) (tC (.int 0))) tNil)))) (gName 6))
  (tSeq (tAsg (dLc2 K (dVar 6) (gName 11) tYes (dIT K (tTup (tCons (dVar 4) (tCons (dVar 5) tNil)))) (gName 12) tYes (tCallS (sp_made A) (fun _ => E0) (tCons (tOp dAdd2 (dVar 1) (tOp dMul (dVar 11) (dVar 12))) (tCons (tOp dAdd2 (dVar 0) (dVar 11)) tNil))) [11, 12] [12]) (gName 7))
  (tSeq (tAsg2 (tOp dIx (dVar 7) (tC (.int 0))) (gName 8) (gName 9))
  (tSeq (dForL K (dVar 7) (gName 10)
  (tSeq (tAsg (tIf (dTru (tCallS sp_less (fun _ => E0) (tCons (dVar 10) (tCons (dVar 8) tNil)))) (dVar 10) (dVar 8)) (gName 8))
  (tAsg (tIf (dTru (tCallS sp_less (fun _ => E0) (tCons (dVar 9) (tCons (dVar 10) tNil)))) (dVar 10) (dVar 9)) (gName 9))))
  (tRet (tTup (tCons (dVar 8) (tCons (dVar 9) tNil))))))))))
def t_range_of_rank (K : PySem.W.Frag) (A : Ads) (E : XK)  : TS :=
  (tSeq (tDrop (tCallS (sp_check_more A) (WE fun cls d _ H => E cls d H) (tCons (dVar 3) (tCons (dVar 4) (tCons (dVar 5) (tCons (dVar 6) tNil))))))
  (tSeq (tIfS (dTest (tOp dEq (tOp dAdd2 (tCB dLen (tCons (dVar 0) tNil)) (dVar 4)) (tC (.int 0))))
  (tRaiseN (fun cls d _ H => E cls d H) A.NotThere)
  tNext)
  (tSeq (tAsg (dLcR2 (tCons (dVar 3) (tCons (tOp dAdd2 (dVar 4) (tC (.int 1))) tNil)) (gName 10) (dTest (tOp dGt (tOp dAdd2 (tCB dLen (tCons (dVar 0) tNil)) (dVar 10)) (tC (.int 0)))) (dVar 10) [10]) (gName 7))
  (tSeq (tAsg (dLcL K (dVar 7) (gName 10) tYes (tCallS (sp_rank_of_all A) (fun _ => E0) (tCons (tLst (dStar (dVar 0) (dStar (tOp dMul (tLst (tCons (dVar 5) tNil)) (dVar 10)) tNil))) (tCons (dVar 1) (tCons (dVar 2) tNil)))) [10]) (gName 8))
  (tSeq (tAsg (dLcL K (dVar 7) (gName 10) tYes (tCallS (sp_rank_of_all A) (fun _ => E0) (tCons (tLst (dStar (dVar 0) (dStar (tOp dMul (tLst (tCons (dVar 6) tNil)) (dVar 10)) tNil))) (tCons (dVar 1) (tCons (dVar 2) tNil)))) [10]) (gName 9))
  (tRet (tTup (tCons (tCB (rMin K) (tCons (dVar 8) tNil)) (tCons (tCB (rMax K) (tCons (dVar 9) tNil)) tNil)))))))))
def t_range_of_area (K : PySem.W.Frag) (A : Ads) (E : XK)  : TS :=
  (tSeq (tDrop (tCallS (sp_check_more A) (WE fun cls d _ H => E cls d H) (tCons (tC (.int 0)) (tCons (tC (.int 0)) (tCons (dVar 3) (tCons (dVar 4) tNil))))))
  (tSeq (tIfS (tNot (dTest (dChain dLe dLe (tC (.int 0)) (dVar 1) (dVar 2))))
  (tRaiseN (fun cls d _ H => E cls d H) A.OutOfRange)
  tNext)
  (tRet (tTup (tCons (tOp dAdd2 (dVar 0) (tOp dMul (tOp dSub (dVar 2) (dVar 1)) (dVar 3))) (tCons (tOp dAdd2 (dVar 0) (tOp dMul (tOp dSub (dVar 2) (dVar 1)) (dVar 4))) tNil))))))
def t_is_settled (K : PySem.W.Frag) (A : Ads) (E : XK)  : TS :=
  (tRet (tOp (dEqD K) (tOp dIx (dVar 0) (tC (.int 0))) (tOp dIx (dVar 0) (tC (.int 1)))))
def t_law_draws (K : PySem.W.Frag) (A : Ads) (E : XK)  : TS :=
  (tSeq (tAsg (tLst tNil) (gName 1))
  (tSeq (dForL K (dVar 0) (gName 2)
  (tSeq (tAsg (tCB dAbs (tCons (dVar 2) tNil)) (gName 3))
  (tSeq (tIfS (dTest (tOp dLt (dVar 3) (tOp dPow (tC (.int 10)) (tC (.int 18)))))
  (tSeq (tAsg (tOp dMod (tCB dInt (tCons (tOp dAdd2 (tOp dMul (dVar 3) (tC (.int 48271))) (tC (.int 11))) tNil)) (tC (.int 2147483647))) (gName 4))
  (tSeq (tDrop (dBM dAppend (dVar 1) (tCons (tOp dMod (tCB dInt (tCons (tOp dAdd2 (tOp dMul (dVar 4) (tC (.int 69621))) (dVar 3)) tNil)) (tC (.int 2147483629))) tNil)))
  (tSeq (tDrop (dBM dAppend (dVar 1) (tCons (tOp dMod (tCB dInt (tCons (tOp dAdd2 (dVar 4) (tOp dDiv (dVar 3) (tC (.int 7)))) tNil)) (tC (.int 1000003))) tNil)))
  (tAsg (tC (.int 0)) (gName 3)))))
  tNext)
  (dForR1 (tCons (tC (.int 60)) tNil) (gName 5)
  (tIfS (dTest (tOp dGt (dVar 3) (tC (.int 0))))
  (tSeq (tDrop (dBM dAppend (dVar 1) (tCons (tOp dMod (tCB dInt (tCons (dVar 3) tNil)) (tC (.int 997))) tNil)))
  (tAsg (tOp dDiv (dVar 3) (tC (.int 997))) (gName 3)))
  tNext)))))
  (tSeq (tAsg (tC (.int 1)) (gName 6))
  (tSeq (tIfS (dTest (tOp dGt (tCB (uLen K) (tCons (dVar 0) tNil)) (tC (.int 0))))
  (tAsg (tOp dAdd2 (tC (.int 1)) (tCB dAbs (tCons (tOp (rIx K) (dVar 0) (tC (.int 0))) tNil))) (gName 6))
  tNext)
  (tSeq (dForR1 (tCons (tC (.int 900)) tNil) (gName 5)
  (tSeq (tAsg (tOp dMod (tCB dInt (tCons (tOp dAdd2 (tOp dMul (dVar 6) (tC (.int 48271))) (tC (.int 69621))) tNil)) (tC (.int 2147483647))) (gName 6))
  (tDrop (dBM dAppend (dVar 1) (tCons (tOp dDiv (dVar 6) (tC (.int 5))) tNil)))))
  (tRet (tListRev K (dVar 1))))))))
def t_law_take (K : PySem.W.Frag) (A : Ads) (E : XK)  : TS :=
  (tSeq (tIfS (dTest (tOp dEq (tCB dLen (tCons (dVar 0) tNil)) (tC (.int 0))))
  (tRet (tC (.int 0)))
  tNext)
  (tRet (tOp dMod (tCB dInt (tCons (dBM0 dPop (dVar 0)) tNil)) (dVar 1))))
def t_law_alike (K : PySem.W.Frag) (A : Ads) (E : XK) (sq : Sp) : TS :=
  (tSeq (tIfS (tOr (dTru (tCB dIsi (tCons (dVar 1) (tCons (tC (.ty "list")) tNil)))) (dTru (tCB dIsi (tCons (dVar 1) (tCons (tC (.ty "tuple")) tNil)))))
  (tSeq (tIfS (tOr (dTest (tOp dNe (tCB dIsi (tCons (dVar 0) (tCons (tC (.ty "list")) tNil))) (tCB dIsi (tCons (dVar 1) (tCons (tC (.ty "list")) tNil))))) (dTest (tOp dNe (tCB dIsi (tCons (dVar 0) (tCons (tC (.ty "tuple")) tNil))) (tCB dIsi (tCons (dVar 1) (tCons (tC (.ty "tuple")) tNil))))))
  (tRet (tC (.bl false)))
  tNext)
  (tRet (dAndV (tOp dEq (tCB dLen (tCons (dVar 0) tNil)) (tCB dLen (tCons (dVar 1) tNil))) (tOp (dEqD K) (dLcR1 (tCons (tCB dLen (tCons (dVar 1) tNil)) tNil) (gName 2) (tNot (dTru (tCallS sq (fun _ => E0) (tCons (tOp dIx (dVar 0) (dVar 2)) (tCons (tOp dIx (dVar 1) (dVar 2)) tNil))))) (dVar 2) [2]) (tLst tNil)))))
  tNext)
  (tSeq (tIfS (dTest (tOp dIs (dVar 1) (tC .non)))
  (tRet (tOp dIs (dVar 0) (tC .non)))
  tNext)
  (tSeq (tIfS (tOr (dTru (tCB dIsi (tCons (dVar 1) (tCons (tC (.ty "bool")) tNil)))) (dTru (tCB dIsi (tCons (dVar 0) (tCons (tC (.ty "bool")) tNil)))))
  (tRet (dAndV (tCB dIsi (tCons (dVar 0) (tCons (tC (.ty "bool")) tNil))) (dAndV (tCB dIsi (tCons (dVar 1) (tCons (tC (.ty "bool")) tNil))) (tOp dEq (dVar 0) (dVar 1)))))
  tNext)
  (tSeq (tIfS (dTru (tCB dIsi (tCons (dVar 1) (tCons (tC (.ty "int")) tNil))))
  (tRet (dAndV (tCB dIsi (tCons (dVar 0) (tCons (tC (.ty "int")) tNil))) (tOp dEq (dVar 0) (dVar 1))))
  tNext)
  (tRet (dAndV (tCB dIsi (tCons (dVar 0) (tCons (tC (.ty "str")) tNil))) (tOp dEq (dVar 0) (dVar 1))))))))
def t_law_word (K : PySem.W.Frag) (A : Ads) (E : XK) (ax D : Addr) : TS :=
  (tSeq (tAsg (tLst (tCons (tCB (dIsE K D ax) (tCons (dVar 0) (tCons (tC (.ref A.OutOfRange)) tNil))) (tCons (tCB (dIsE K D ax) (tCons (dVar 0) (tCons (tC (.ref A.Malformed)) tNil))) (tCons (tCB (dIsE K D ax) (tCons (dVar 0) (tCons (tC (.ref A.NotThere)) tNil))) (tCons (tCB (dIsE K D ax) (tCons (dVar 0) (tCons (tC (.ref A.Refused)) tNil))) (tCons (tCB (dIsE K D ax) (tCons (dVar 0) (tCons (tC (.ref A.TooMuch)) tNil))) tNil)))))) (gName 1))
  (tSeq (tIfS (dTest (tOp dNe (tCB dLen (tCons (dLcL K (dVar 1) (gName 2) (dTru (dVar 2)) (dVar 2) [2]) tNil)) (tC (.int 1))))
  (tRet (tC (.str "many")))
  tNext)
  (tRet (tOp dIx (tLst (tCons (tC (.str "range")) (tCons (tC (.str "form")) (tCons (tC (.str "none")) (tCons (tC (.str "refused")) (tCons (tC (.str "much")) tNil)))))) (dBM (rIndex K) (dVar 1) (tCons (tC (.bl true)) tNil))))))
def t_law_says (K : PySem.W.Frag) (A : Ads) (E : XK)  : TS :=
  (tRet (dAndV (tCB dIsi (tCons (dVar 0) (tCons (tC (.ty "bool")) tNil))) (tOp dEq (dVar 0) (dVar 1))))
def t_law_rank (K : PySem.W.Frag) (A : Ads) (E : XK)  : TS :=
  (tRet (tOp dIx (tCB (rSortedI K) (tCons (dVar 0) tNil)) (tOp dDiv (tCB dInt (tCons (tOp dMul (tOp dSub (tCB dLen (tCons (dVar 0) tNil)) (tC (.int 1))) (dVar 1)) tNil)) (dVar 2))))
def t_law_ways (K : PySem.W.Frag) (A : Ads) (E : XK)  : TS :=
  (tSeq (dPar 4 5 (tCons (tLst tNil) (tCons (tLst (tCons (tTup tNil) tNil)) tNil)))
  (tSeq (dForR1 (tCons (tOp dAdd2 (dVar 1) (tC (.int 1))) tNil) (gName 6)
  (tSeq (tIfS (dTest (tOp dGe (dVar 6) (dVar 0)))
  (tAsg (tOp dAdd2 (dVar 4) (dVar 5)) (gName 4))
  tNext)
  (tSeq (tAsg (tLst tNil) (gName 7))
  (tSeq (dForL K (dVar 5) (gName 8)
  (tAsg (tOp dAdd2 (dVar 7) (dLcR2 (tCons (tIf (dTest (tOp (dNeD K) (dVar 8) (tTup tNil))) (tOp dIx (dVar 8) (tUn dNeg (tC (.int 1)))) (dVar 2)) (tCons (tOp dAdd2 (dVar 3) (tC (.int 1))) tNil)) (gName 9) tYes (tOp dAdd2 (dVar 8) (tTup (tCons (dVar 9) tNil))) [9])) (gName 7)))
  (tAsg (dVar 7) (gName 5))))))
  (tRet (dVar 4))))
def t_law_told (K : PySem.W.Frag) (A : Ads) (E : XK)  : TS :=
  (tSeq (tAsg (dVar 4) (dgTup 4 (dgCons (gName 5) (dgCons (gName 6) (dgCons (gName 7) (dgCons (gName 8) dgNil))))))
  (tTryAs K (.ref A.TraceError) 9 (fun W => (tSeq (tIfS (dTest (tOp dEq (dVar 0) (tC (.int 0))))
  (tRet (tCallS (sp_range_of_total A) (WE W) (tCons (tCB (rSum K) (tCons (dVar 1) tNil)) (tCons (dVar 5) (tCons (dVar 6) (tCons (dVar 7) (tCons (dVar 8) tNil)))))))
  tNext)
  (tSeq (tIfS (dTest (tOp dEq (dVar 0) (tC (.int 1))))
  (tRet (tCallS (sp_range_of_greatest A) (WE W) (tCons (tIf (dTest (tOp (dNeD K) (dVar 1) (tLst tNil))) (tCB (rMax K) (tCons (dVar 1) tNil)) (tC .non)) (tCons (dVar 5) (tCons (dVar 6) (tCons (dVar 7) (tCons (dVar 8) tNil)))))))
  tNext)
  (tSeq (tIfS (dTest (tOp dEq (dVar 0) (tC (.int 2))))
  (tRet (tCallS (sp_range_of_mean A) (WE W) (tCons (tCB dLen (tCons (dVar 1) tNil)) (tCons (tCB (rSum K) (tCons (dVar 1) tNil)) (tCons (dVar 5) (tCons (dVar 6) (tCons (dVar 7) (tCons (dVar 8) tNil))))))))
  tNext)
  (tRet (tCallS (sp_range_of_rank A) (WE W) (tCons (tCB dTupleOf (tCons (dVar 1) tNil)) (tCons (dVar 2) (tCons (dVar 3) (tCons (dVar 5) (tCons (dVar 6) (tCons (dVar 7) (tCons (dVar 8) tNil))))))))))))) (fun a cls d => (tRet (tCallE (sp_law_word K A) a cls d (tCons (dVar 9) tNil)))) (fun _ _ _ _ => False)))
def t_law_least (K : PySem.W.Frag) (A : Ads) (E : XK)  : TS :=
  (tSeq (tAsg (tOp dIx (dVar 0) (tC (.int 0))) (gName 1))
  (tSeq (dForL K (dVar 0) (gName 2)
  (tAsg (tIf (dTest (tOp dLt (tOp dMul (tOp dIx (dVar 2) (tC (.int 0))) (tOp dIx (dVar 1) (tC (.int 1)))) (tOp dMul (tOp dIx (dVar 1) (tC (.int 0))) (tOp dIx (dVar 2) (tC (.int 1)))))) (dVar 2) (dVar 1)) (gName 1)))
  (tRet (dVar 1))))
def t_law_lowest (K : PySem.W.Frag) (A : Ads) (E : XK)  : TS :=
  (tSeq (dPar 2 3 (tCons (tCB dAbs (tCons (dVar 0) tNil)) (tCons (dVar 1) tNil)))
  (tSeq (tWhile (dTest (tOp dGt (dVar 3) (tC (.int 0))))
  (dPar 2 3 (tCons (dVar 3) (tCons (tOp dMod (dVar 2) (dVar 3)) tNil))))
  (tRet (tTup (tCons (tOp dDiv (dVar 0) (dVar 2)) (tCons (tOp dDiv (dVar 1) (dVar 2)) tNil))))))
def t_law_due (K : PySem.W.Frag) (A : Ads) (E : XK)  : TS :=
  (tSeq (tAsg (dLcL K (dVar 1) (gName 10) (dTest (tOp (dNeD K) (dVar 10) (tLst tNil))) (dVar 10) [10]) (gName 4))
  (tSeq (tIfS (dTest (tOp dEq (dVar 0) (tC (.int 0))))
  (tSeq (tAsg (dLcL K (dVar 1) (gName 10) tYes (tCB (rSum K) (tCons (dVar 10) tNil)) [10]) (gName 5))
  (tRet (tTup (tCons (tCB (rMin K) (tCons (dVar 5) tNil)) (tCons (tCB (rMax K) (tCons (dVar 5) tNil)) tNil)))))
  tNext)
  (tSeq (tIfS (dTest (tOp (dEqD K) (dVar 4) (tLst tNil)))
  (tRet (tC (.str "none")))
  tNext)
  (tSeq (tIfS (dTest (tOp dEq (dVar 0) (tC (.int 1))))
  (tSeq (tAsg (dLcL K (dVar 4) (gName 10) tYes (tCB (rMax K) (tCons (dVar 10) tNil)) [10]) (gName 6))
  (tRet (tTup (tCons (tCB (rMin K) (tCons (dVar 6) tNil)) (tCons (tCB (rMax K) (tCons (dVar 6) tNil)) tNil)))))
  tNext)
  (tSeq (tIfS (dTest (tOp dEq (dVar 0) (tC (.int 2))))
  (tSeq (tAsg (dLcL K (dVar 4) (gName 10) tYes (tCallS sp_law_lowest (fun _ => E0) (tCons (tCB (rSum K) (tCons (dVar 10) tNil)) (tCons (tCB dLen (tCons (dVar 10) tNil)) tNil))) [10]) (gName 7))
  (tSeq (tAsg (tCallS sp_law_least (fun _ => E0) (tCons (dLcL K (dVar 7) (gName 11) tYes (tTup (tCons (tOp dSub (tC (.int 0)) (tOp dIx (dVar 11) (tC (.int 0)))) (tCons (tOp dIx (dVar 11) (tC (.int 1))) tNil))) [11]) tNil)) (gName 8))
  (tRet (tTup (tCons (tCallS sp_law_least (fun _ => E0) (tCons (dVar 7) tNil)) (tCons (tTup (tCons (tOp dSub (tC (.int 0)) (tOp dIx (dVar 8) (tC (.int 0)))) (tCons (tOp dIx (dVar 8) (tC (.int 1))) tNil))) tNil))))))
  tNext)
  (tSeq (tAsg (dLcL K (dVar 4) (gName 10) tYes (tCallS sp_law_rank (fun _ => E0) (tCons (dVar 10) (tCons (dVar 2) (tCons (dVar 3) tNil)))) [10]) (gName 9))
  (tRet (tTup (tCons (tCB (rMin K) (tCons (dVar 9) tNil)) (tCons (tCB (rMax K) (tCons (dVar 9) tNil)) tNil))))))))))
def t_law_within (K : PySem.W.Frag) (A : Ads) (E : XK)  : TS :=
  (tSeq (tIfS (dTru (tCB dIsi (tCons (tOp dIx (dVar 0) (tC (.int 0))) (tCons (tC (.ty "int")) tNil))))
  (tRet (dAndV (tOp dLe (tOp dIx (dVar 1) (tC (.int 0))) (tOp dIx (dVar 0) (tC (.int 0)))) (tOp dLe (tOp dIx (dVar 0) (tC (.int 1))) (tOp dIx (dVar 1) (tC (.int 1))))))
  tNext)
  (tRet (dAndV (tOp dGe (tOp dMul (tOp dIx (tOp dIx (dVar 0) (tC (.int 0))) (tC (.int 0))) (tOp dIx (tOp dIx (dVar 1) (tC (.int 0))) (tC (.int 1)))) (tOp dMul (tOp dIx (tOp dIx (dVar 1) (tC (.int 0))) (tC (.int 0))) (tOp dIx (tOp dIx (dVar 0) (tC (.int 0))) (tC (.int 1))))) (tOp dLe (tOp dMul (tOp dIx (tOp dIx (dVar 0) (tC (.int 1))) (tC (.int 0))) (tOp dIx (tOp dIx (dVar 1) (tC (.int 1))) (tC (.int 1)))) (tOp dMul (tOp dIx (tOp dIx (dVar 1) (tC (.int 1))) (tC (.int 0))) (tOp dIx (tOp dIx (dVar 0) (tC (.int 1))) (tC (.int 1))))))))
def t_law_narrower (K : PySem.W.Frag) (A : Ads) (E : XK)  : TS :=
  (tSeq (tAsg (dVar 4) (dgTup 4 (dgCons (gName 5) (dgCons (gName 6) (dgCons (gName 7) (dgCons (gName 8) dgNil))))))
  (tSeq (tAsg (dLcR1 (tCons (tC (.int 4)) tNil) (gName 13) tYes (tCallS (sp_law_told K A) (fun _ => E0) (tCons (dVar 13) (tCons (dVar 1) (tCons (dVar 2) (tCons (dVar 3) (tCons (dVar 4) tNil)))))) [13]) (gName 9))
  (tSeq (dForR1 (tCons (tOp dAdd2 (dVar 5) (tCallS sp_law_take (fun _ => E0) (tCons (dVar 0) (tCons (tOp dAdd2 (tOp dSub (dVar 6) (dVar 5)) (tC (.int 1))) tNil)))) tNil) (gName 10)
  (tSeq (tAsg (tOp dAdd2 (dVar 1) (tLst (tCons (tOp dAdd2 (dVar 7) (tCallS sp_law_take (fun _ => E0) (tCons (dVar 0) (tCons (tOp dAdd2 (tOp dSub (dVar 8) (dVar 7)) (tC (.int 1))) tNil)))) tNil))) (gName 1))
  (tSeq (tAsg (tTup (tCons (tCB dMax2 (tCons (tC (.int 0)) (tCons (tOp dSub (dVar 5) (tC (.int 1))) tNil))) (tCons (tOp dSub (dVar 6) (tC (.int 1))) tNil))) (dgTup 2 (dgCons (gName 5) (dgCons (gName 6) dgNil))))
  (tSeq (tAsg (dLcR1 (tCons (tC (.int 4)) tNil) (gName 13) tYes (tCallS (sp_law_told K A) (fun _ => E0) (tCons (dVar 13) (tCons (dVar 1) (tCons (dVar 2) (tCons (dVar 3) (tCons (tTup (tCons (dVar 5) (tCons (dVar 6) (tCons (dVar 7) (tCons (dVar 8) tNil))))) tNil)))))) [13]) (gName 11))
  (tSeq (tIfS (dTest (tOp (dNeD K) (dLcR1 (tCons (tC (.int 4)) tNil) (gName 14) (tAnd (dTest (tOp (dNeD K) (tOp dIx (dVar 9) (dVar 14)) (tC (.str "none")))) (tNot (dTru (tCallS sp_law_within (fun _ => E0) (tCons (tOp dIx (dVar 11) (dVar 14)) (tCons (tOp dIx (dVar 9) (dVar 14)) tNil)))))) (dVar 14) [14]) (tLst tNil)))
  (tRet (tC (.bl false)))
  tNext)
  (tAsg (dVar 11) (gName 9)))))))
  (tSeq (tAsg (dLcR1 (tCons (tC (.int 4)) tNil) (gName 13) tYes (tCallS (sp_law_told K A) (fun _ => E0) (tCons (dVar 13) (tCons (dVar 1) (tCons (dVar 2) (tCons (dVar 3) (tCons (tTup (tCons (tC (.int 0)) (tCons (tC (.int 0)) (tCons (dVar 7) (tCons (dVar 8) tNil))))) tNil)))))) [13]) (gName 12))
  (tSeq (tIfS (dTest (tOp (dEqD K) (dVar 1) (tLst tNil)))
  (tRet (tOp (dEqD K) (tSl dSl (dVar 12) (dPart (tC (.int 1))) tNoPart) (tOp dMul (tLst (tCons (tC (.str "none")) tNil)) (tC (.int 3)))))
  tNext)
  (tRet (dAndV (tOp (dEqD K) (dLcL K (dVar 12) (gName 15) (dTest (tOp dNotB (tCallS sp_is_settled (fun _ => E0) (tCons (dVar 15) tNil)) (tC (.bl true)))) (dVar 15) [15]) (tLst tNil)) (dAndV (tOp (dEqD K) (tOp dIx (dVar 12) (tC (.int 0))) (tOp dMulT (tTup (tCons (tCB (rSum K) (tCons (dVar 1) tNil)) tNil)) (tC (.int 2)))) (tOp (dEqD K) (tOp dIx (dVar 12) (tC (.int 1))) (tOp dMulT (tTup (tCons (tCB (rMax K) (tCons (dVar 1) tNil)) tNil)) (tC (.int 2))))))))))))
def t_law_areas (K : PySem.W.Frag) (A : Ads) (E : XK)  : TS :=
  (tSeq (tAsg (tTup (tCons (tOp dSub (tCallS sp_law_take (fun _ => E0) (tCons (dVar 0) (tCons (tC (.int 9)) tNil))) (tC (.int 4))) (tCons (tC (.int 0)) tNil))) (dgTup 2 (dgCons (gName 1) (dgCons (gName 2) dgNil))))
  (tSeq (tAsg (tOp dAdd2 (dVar 1) (tCallS sp_law_take (fun _ => E0) (tCons (dVar 0) (tCons (tC (.int 9)) tNil)))) (gName 2))
  (tSeq (tAsg (tCallS sp_law_take (fun _ => E0) (tCons (dVar 0) (tCons (tC (.int 9)) tNil))) (gName 3))
  (tSeq (dPar 4 5 (tCons (tOp dAdd2 (dVar 3) (tCallS sp_law_take (fun _ => E0) (tCons (dVar 0) (tCons (tC (.int 9)) tNil)))) (tCons (tCallS sp_law_take (fun _ => E0) (tCons (dVar 0) (tCons (tC (.int 99)) tNil))) tNil)))
  (tSeq (tAsg (tCallS (sp_range_of_area A) (fun _ => E0) (tCons (dVar 5) (tCons (dVar 3) (tCons (dVar 4) (tCons (dVar 1) (tCons (dVar 2) tNil)))))) (gName 6))
  (tSeq (tAsg (dLcR1 (tCons (tOp dSub (dVar 4) (dVar 3)) tNil) (gName 13) tYes (tOp dAdd2 (dVar 1) (tCallS sp_law_take (fun _ => E0) (tCons (dVar 0) (tCons (tOp dAdd2 (tOp dSub (dVar 2) (dVar 1)) (tC (.int 1))) tNil)))) [13]) (gName 7))
  (tSeq (tIfS (tOr (dTest (tOp (dNeD K) (dVar 6) (tTup (tCons (tOp dAdd2 (dVar 5) (tOp dMul (dVar 1) (tOp dSub (dVar 4) (dVar 3)))) (tCons (tOp dAdd2 (dVar 5) (tOp dMul (dVar 2) (tOp dSub (dVar 4) (dVar 3)))) tNil))))) (tNot (dTest (dChain dLe dLe (tOp dIx (dVar 6) (tC (.int 0))) (tOp dAdd2 (dVar 5) (tCB (rSum K) (tCons (dVar 7) tNil))) (tOp dIx (dVar 6) (tC (.int 1)))))))
  (tRet (tC (.bl false)))
  tNext)
  (tSeq (dForL K (tLst (tCons (tTup (tCons (tC (.int 5)) (tCons (tC (.int 4)) (tCons (tC (.int 0)) (tCons (tC (.int 1)) tNil))))) (tCons (tTup (tCons (tUn dNeg (tC (.int 1))) (tCons (tC (.int 4)) (tCons (tC (.int 0)) (tCons (tC (.int 1)) tNil))))) (tCons (tTup (tCons (tC (.int 1)) (tCons (tC (.int 4)) (tCons (tC (.int 2)) (tCons (tC (.int 1)) tNil))))) (tCons (tTup (tCons (tC (.int 1)) (tCons (tC (.int 4)) (tCons (tC .non) (tCons (tC (.int 1)) tNil))))) tNil))))) (dgTup 4 (dgCons (gName 8) (dgCons (gName 9) (dgCons (gName 10) (dgCons (gName 11) dgNil)))))
  (tTryAs K (.ref A.TraceError) 12 (fun W => (tSeq (tDrop (tCallS (sp_range_of_area A) (WE W) (tCons (tC (.int 7)) (tCons (dVar 8) (tCons (dVar 9) (tCons (dVar 10) (tCons (dVar 11) tNil)))))))
  (tRet (tC (.bl false))))) (fun a cls d => (tIfS (dTest (tOp dNe (tCallE (sp_law_word K A) a cls d (tCons (dVar 12) tNil)) (tC (.str "range"))))
  (tRet (tC (.bl false)))
  tNext)) (fun _ _ _ _ => False)))
  (tRet (tC (.bl true)))))))))))
def t_law (K : PySem.W.Frag) (A : Ads) (E : XK)  : TS :=
  (tSeq (tAsg (tCallS (sp_law_draws K) (fun _ => E0) (tCons (dVar 0) tNil)) (gName 1))
  (tSeq (tAsg (tOp dIx (tLst (tCons (tTup (tCons (tC (.int 1)) (tCons (tC (.int 2)) tNil))) (tCons (tTup (tCons (tC (.int 0)) (tCons (tC (.int 1)) tNil))) (tCons (tTup (tCons (tC (.int 1)) (tCons (tC (.int 1)) tNil))) (tCons (tTup (tCons (tC (.int 9)) (tCons (tC (.int 10)) tNil))) tNil))))) (tCallS sp_law_take (fun _ => E0) (tCons (dVar 1) (tCons (tC (.int 4)) tNil)))) (dgTup 2 (dgCons (gName 2) (dgCons (gName 3) dgNil))))
  (tSeq (tAsg (dLcR1 (tCons (tCallS sp_law_take (fun _ => E0) (tCons (dVar 1) (tCons (tC (.int 5)) tNil))) tNil) (gName 13) tYes (tOp dSub (tCallS sp_law_take (fun _ => E0) (tCons (dVar 1) (tCons (tC (.int 9)) tNil))) (tC (.int 3))) [13]) (gName 4))
  (tSeq (dPar 5 6 (tCons (tCallS sp_law_take (fun _ => E0) (tCons (dVar 1) (tCons (tC (.int 4)) tNil))) (tCons (tOp dSub (tCallS sp_law_take (fun _ => E0) (tCons (dVar 1) (tCons (tC (.int 9)) tNil))) (tC (.int 4))) tNil)))
  (tSeq (tAsg (tTup (tCons (tCallS sp_law_take (fun _ => E0) (tCons (dVar 1) (tCons (tOp dAdd2 (dVar 5) (tC (.int 1))) tNil))) (tCons (dVar 5) (tCons (dVar 6) (tCons (tOp dAdd2 (dVar 6) (tCallS sp_law_take (fun _ => E0) (tCons (dVar 1) (tCons (tC (.int 4)) tNil)))) tNil))))) (gName 7))
  (tSeq (tAsg (dLcL K (tCallS sp_law_ways (fun _ => E0) (tCons (tOp dIx (dVar 7) (tC (.int 0))) (tCons (tOp dIx (dVar 7) (tC (.int 1))) (tCons (tOp dIx (dVar 7) (tC (.int 2))) (tCons (tOp dIx (dVar 7) (tC (.int 3))) tNil))))) (gName 14) tYes (tOp dAdd2 (dVar 4) (tCB dListOf (tCons (dVar 14) tNil))) [14]) (gName 8))
  (tSeq (dForR1 (tCons (tC (.int 4)) tNil) (gName 9)
  (tSeq (tAsg (tCallS (sp_law_told K A) (fun _ => E0) (tCons (dVar 9) (tCons (dVar 4) (tCons (dVar 2) (tCons (dVar 3) (tCons (dVar 7) tNil)))))) (gName 10))
  (tIfS (tOr (tNot (dTru (tCallS (sp_law_alike K 3) (fun _ => E0) (tCons (dVar 10) (tCons (tCallS sp_law_due (fun _ => E0) (tCons (dVar 9) (tCons (dVar 8) (tCons (dVar 2) (tCons (dVar 3) tNil))))) tNil))))) (tAnd (dTest (tOp (dNeD K) (dVar 10) (tC (.str "none")))) (tNot (dTru (tCallS sp_law_says (fun _ => E0) (tCons (tCallS sp_is_settled (fun _ => E0) (tCons (dVar 10) tNil)) (tCons (tOp (dEqD K) (tOp dIx (dVar 10) (tC (.int 0))) (tOp dIx (dVar 10) (tC (.int 1)))) tNil)))))))
  (tRet (tC (.bl false)))
  tNext)))
  (tSeq (tAsg (tTup (tCons (tCallS sp_law_take (fun _ => E0) (tCons (dVar 1) (tCons (tC (.int 5)) tNil))) (tCons (tOp dAdd2 (tC (.int 5)) (tCallS sp_law_take (fun _ => E0) (tCons (dVar 1) (tCons (tC (.int 40)) tNil)))) (tCons (dVar 6) (tCons (tOp dAdd2 (dVar 6) (tCallS sp_law_take (fun _ => E0) (tCons (dVar 1) (tCons (tC (.int 1000)) tNil)))) tNil))))) (gName 11))
  (tSeq (tIfS (tOr (tNot (dTru (tCallS sp_law_narrower (fun _ => E0) (tCons (dVar 1) (tCons (dVar 4) (tCons (dVar 2) (tCons (dVar 3) (tCons (dVar 7) tNil)))))))) (tOr (tNot (dTru (tCallS sp_law_narrower (fun _ => E0) (tCons (dVar 1) (tCons (dVar 4) (tCons (dVar 2) (tCons (dVar 3) (tCons (dVar 11) tNil)))))))) (tNot (dTru (tCallS sp_law_areas (fun _ => E0) (tCons (dVar 1) tNil))))))
  (tRet (tC (.bl false)))
  tNext)
  (tSeq (tAsg (tLst (tCons (tTup (tCons (tUn dNeg (tC (.int 1))) (tCons (tC (.int 2)) (tCons (tC (.int 0)) (tCons (tC (.int 1)) tNil))))) (tCons (tTup (tCons (tC (.int 3)) (tCons (tC (.int 2)) (tCons (tC (.int 0)) (tCons (tC (.int 1)) tNil))))) (tCons (tTup (tCons (tC (.int 0)) (tCons (tC (.int 401)) (tCons (tC (.int 0)) (tCons (tC (.int 1)) tNil))))) (tCons (tTup (tCons (tC (.int 0)) (tCons (tC (.int 1)) (tCons (tC (.int 2)) (tCons (tC (.int 1)) tNil))))) (tCons (tTup (tCons (tC .non) (tCons (tC (.int 1)) (tCons (tC (.int 0)) (tCons (tC (.int 1)) tNil))))) (tCons (tTup (tCons (tC (.int 0)) (tCons (tC .non) (tCons (tC (.int 0)) (tCons (tC (.int 1)) tNil))))) (tCons (tTup (tCons (tC (.int 0)) (tCons (tC (.int 1)) (tCons (tC .non) (tCons (tC (.int 1)) tNil))))) (tCons (tTup (tCons (tC (.int 0)) (tCons (tC (.int 1)) (tCons (tC (.int 0)) (tCons (tC (.str "1")) tNil))))) (tCons (tTup (tCons (tC (.int 0)) (tCons (tC (.bl true)) (tCons (tC (.int 0)) (tCons (tC (.int 1)) tNil))))) tNil)))))))))) (gName 12))
  (tRet (tOp (dEqD K) (dLcL K (dVar 12) (gName 15) (dTest (tOp (dNeD K) (dLcR1 (tCons (tC (.int 4)) tNil) (gName 9) tYes (tCallS (sp_law_told K A) (fun _ => E0) (tCons (dVar 9) (tCons (dVar 4) (tCons (dVar 2) (tCons (dVar 3) (tCons (dVar 15) tNil)))))) [9]) (tOp dMul (tLst (tCons (tC (.str "range")) tNil)) (tC (.int 4))))) (dVar 15) [15]) (tLst tNil)))))))))))))
theorem upd_self {H : Hp} {a : Addr} {o : HO} (h : H a = some o) : upd H a o = H := by
  funext b
  unfold upd
  split
  · rename_i e; rw [e, h]
  · rfl
theorem r_law_take {K : PySem.W.Frag} {A : Ads} {E : XK} {vs : List V} {H : Hp} {Q : VK} (h : sp_law_take vs H Q E) : t_law_take K A E { nx := fun _ H' => Q .non H', rt := Q } (L2.start ["draws", "bound"] vs) H := by
  obtain ⟨d, ns, b, rfl, hd, hb, k⟩ := h
  unfold t_law_take
  wp_walk using hd, hb
  rcases List.eq_nil_or_concat ns with rfl | ⟨ms, z, rfl⟩
  · have q := k 0 [] (Int.le_refl _) hb
    rw [upd_self hd] at q
    simpa using q
  · have e : ((List.map V.int (ms.concat z)).length : Int) ≠ 0 := by simp; omega
    rw [if_neg e, List.concat_eq_append, ← map_snoc, List.getLast?_concat, List.dropLast_concat]
    exact k _ _ (Int.emod_nonneg _ (by omega)) (Int.emod_lt_of_pos _ hb)
/-- the draws so far -/
def Dr (H : Hp) (a p : Addr) (m : Nat) (σ : L2.St) (H1 : Hp) : Prop := ∃ v2 v3 v4 v5 v6 : Option V, σ = [some (.ref a), some (.ref p), v2, v3, v4, v5, v6] ∧ Same H H1 ∧ ∃ ms : List Int, H1 p = some (.lst (ms.map V.int)) ∧ ms.length ≤ m
theorem int_at {ns : List Int} {i : Nat} {x : V} (hx : (ns.map V.int)[i]? = some x) : ∃ z, ns[i]? = some z ∧ x = V.int z := by
  rw [List.getElem?_map] at hx
  cases e : ns[i]? with
  | none => rw [e] at hx; cases hx
  | some z => rw [e] at hx; exact ⟨z, rfl, (Option.some.inj hx).symm⟩
theorem r_draws_digits {H : Hp} {a p : Addr} {i : Nat} {D : Ends} (hp : H p = none) (hi : i < 63) (nx : ∀ σ H1, Dr H a p (62 * (i + 1)) σ H1 → D.nx σ H1) {n : Int} {v2 v4 v5 v6 : Option V} {H2 : Hp} {ms : List Int} (s : Same H H2) (h2 : H2 p = some (.lst (ms.map V.int))) (hl : ms.length ≤ 62 * i + 2) :
    ForR 0 (60 : Int).toNat (gName 5) (tIfS (dTest (tOp dGt (dVar 3) (tC (.int 0)))) (tSeq (tDrop (dBM dAppend (dVar 1) (tCons (tOp dMod (tCB dInt (tCons (dVar 3) tNil)) (tC (.int 997))) tNil))) (tAsg (tOp dDiv (dVar 3) (tC (.int 997))) (gName 3))) tNext)
      D [some (.ref a), some (.ref p), v2, some (.int n), v4, v5, v6] H2 := by
  refine forR_go (fun j σ H1 => ∃ (n : Int) (v2 v4 v5 v6 : Option V), σ = [some (.ref a), some (.ref p), v2, some (.int n), v4, v5, v6] ∧ Same H H1 ∧ ∃ ms : List Int, H1 p = some (.lst (ms.map V.int)) ∧ ms.length ≤ 62 * i + 2 + j)
    ⟨n, v2, v4, v5, v6, rfl, s, ms, h2, hl⟩ ?_ ?_
  · rintro j σ H1 hj ⟨n, v2, v4, v5, v6, rfl, s, ms, h2, hl⟩
    have hj' : j < 60 := hj
    wp_walk using h2
    refine ite2 (fun _ => ?_) fun _ => ⟨_, _, _, _, _, rfl, s, ms, rfl, by omega⟩
    exact ⟨by rw [List.length_map]; exact sz (by omega), by unfold CDiv; decide, _, _, _, _, _, rfl, same_mut s hp, ms ++ [n % 997], by simp, by simp; omega⟩
  · rintro σ H1 ⟨n, v2, v4, v5, v6, rfl, s, ms, h2, hl⟩
    have e : (60 : Int).toNat = 60 := rfl
    exact nx _ _ ⟨_, _, _, _, _, rfl, s, ms, h2, by rw [e] at hl; omega⟩
theorem r_draws_seeds {H : Hp} {a p : Addr} {D : Ends} (hp : H p = none) (nx : ∀ σ H1, Dr H a p 5000 σ H1 → D.nx σ H1) {n : Int} {v2 v3 v4 v5 : Option V} {H2 : Hp} {ms : List Int} (s : Same H H2) (h2 : H2 p = some (.lst (ms.map V.int))) (hl : ms.length ≤ 62 * 63) :
    ForR 0 (900 : Int).toNat (gName 5) (tSeq (tAsg (tOp dMod (tCB dInt (tCons (tOp dAdd (tOp dMul (dVar 6) (tC (.int 48271))) (tC (.int 69621))) tNil)) (tC (.int 2147483647))) (gName 6)) (tDrop (dBM dAppend (dVar 1) (tCons (tOp dDiv (dVar 6) (tC (.int 5))) tNil))))
      D [some (.ref a), some (.ref p), v2, v3, v4, v5, some (.int n)] H2 := by
  refine forR_go (fun j σ H1 => ∃ (n : Int) (v2 v3 v4 v5 : Option V), σ = [some (.ref a), some (.ref p), v2, v3, v4, v5, some (.int n)] ∧ Same H H1 ∧ ∃ ms : List Int, H1 p = some (.lst (ms.map V.int)) ∧ ms.length ≤ 62 * 63 + j)
    ⟨n, v2, v3, v4, v5, rfl, s, ms, h2, hl⟩ ?_ ?_
  · rintro j σ H1 hj ⟨n, v2, v3, v4, v5, rfl, s, ms, h2, hl⟩
    have hj' : j < 900 := hj
    wp_walk using h2
    exact ⟨.inr (by decide), by unfold CDiv; decide, by rw [List.length_map]; exact sz (by omega), _, _, _, _, _, rfl, same_mut s hp, ms ++ [(n * 48271 + 69621) % 2147483647 / 5], by simp, by simp; omega⟩
  · rintro σ H1 ⟨n, v2, v3, v4, v5, rfl, s, ms, h2, hl⟩
    have e : (900 : Int).toNat = 900 := rfl
    exact nx _ _ ⟨_, _, _, _, _, rfl, s, ms, h2, by rw [e] at hl; omega⟩
theorem r_law_draws {K : PySem.W.Frag} {A : Ads} {E : XK} {vs : List V} {H : Hp} {Q : VK} (h : sp_law_draws K vs H Q E) : t_law_draws K A E { nx := fun _ H' => Q .non H', rt := Q } (L2.start ["script", "draws", "cell", "number", "first", "k", "seed"] vs) H := by
  obtain ⟨a, ns, rfl, hS, hl, k⟩ := h
  unfold t_law_draws
  walk_at "ev"
  refine ⟨Nat.zero_le _, fun p hp => ?_⟩
  have s0 : Same H (upd H p (.lst [])) := same_new hp
  refine forL_go (xs := ns.map V.int) (s0.seq hS) (fun i σ H1 => Dr H a p (62 * i) σ H1)
    ⟨none, none, none, none, none, rfl, s0, [], upd_same, Nat.le_refl _⟩ (fun i σ H1 _ ⟨_, _, _, _, _, _, s, _⟩ => s.seq hS) ?_ ?_
  · rintro i x σ H1 hx ⟨v2, v3, v4, v5, v6, rfl, s, ms, hm, hml⟩
    have hi := (List.getElem?_eq_some_iff.mp hx).1
    rw [List.length_map] at hi
    obtain ⟨z, _, rfl⟩ := int_at hx
    have e0 : (-(2 ^ 62) ≤ (60 : Int) ∧ (60 : Int) < 2 ^ 62) := by decide
    wp_walk using hm, e0
    refine ⟨by unfold CPow; decide, ite2 (fun _ => ?_) fun _ => ?_⟩
    · refine ⟨.inr (by decide), .inr (by decide), by rw [List.length_map]; exact sz (by omega), by unfold CDiv; decide, ?_⟩
      refine ⟨by simp; exact sz (by omega), r_draws_digits (i := i) hp (by omega) (fun σ H1 h => h) (same_mut s hp) (ms := ms ++ [(((if z < 0 then -z else z) * 48271 + 11) % 2147483647 * 69621 + if z < 0 then -z else z) % 2147483629, (((if z < 0 then -z else z) * 48271 + 11) % 2147483647 + (if z < 0 then -z else z) / 7) % 1000003]) (by rw [upd_same]; simp) (by simp; omega)⟩
    · exact r_draws_digits (i := i) hp (by omega) (fun σ H1 h => h) s hm (by omega)
  · rintro σ H1 ⟨v2, v3, v4, v5, v6, rfl, s, ms, hm, hml⟩
    rw [List.length_map] at hml
    have hS1 : SqL K H1 a (ns.map V.int) := s.seq hS
    have e0 : (-(2 ^ 62) ≤ (900 : Int) ∧ (900 : Int) < 2 ^ 62) := by decide
    have last : ∀ σ H1, Dr H a p 5000 σ H1 → tRet (tListRev K (dVar 1)) { nx := fun _ H' => Q .non H', rt := Q } σ H1 := by
      rintro σ H1 ⟨v2, v3, v4, v5, v6, rfl, s, ms, hm, hml⟩
      unfold tListRev
      walk_at "ev"
      refine ⟨p, ms.map V.int, rfl, SqL.of hm, fun q hq => ?_⟩
      rw [← List.map_reverse]
      exact k q _ ms.reverse (s.free hq) (s.trans (same_new hq)) upd_same
    have go : ∀ (n : Int), ForR 0 (900 : Int).toNat (gName 5) (tSeq (tAsg (tOp dMod (tCB dInt (tCons (tOp dAdd (tOp dMul (dVar 6) (tC (.int 48271))) (tC (.int 69621))) tNil)) (tC (.int 2147483647))) (gName 6)) (tDrop (dBM dAppend (dVar 1) (tCons (tOp dDiv (dVar 6) (tC (.int 5))) tNil))))
      { nx := tRet (tListRev K (dVar 1)) { nx := fun _ H' => Q .non H', rt := Q }, rt := Q } [some (.ref a), some (.ref p), v2, v3, v4, v5, some (.int n)] H1 := fun n => r_draws_seeds hp last s hm (by omega)
    walk_at "ev"
    refine ⟨.ref a, (ns.map V.int).length, rfl, .inl ⟨_, hS1, rfl⟩, ?_⟩
    wp_walk using e0
    refine ite2 (fun hn => ?_) fun _ => go 1
    rw [List.length_map] at hn
    cases ns with
    | nil => simp at hn
    | cons z r =>
      refine .inl ⟨a, _, 0, V.int z, rfl, rfl, hS1, atI_nat (j := 0) rfl, ?_⟩
      wp_walk using e0
      exact go _
theorem paired2 {α β : Type} {F G : α → β → Prop} : ∀ {l m : List α} {ds : List β}, Paired F l ds → Paired G m ds → l.length = m.length := fun p q => (paired_len p).trans (paired_len q).symm
theorem seqI {xs : List V} {i : Nat} (h : i < xs.length) {k : V → Prop} (q : k (xs[i]'h)) : atK xs ((0 : Int) + (i : Nat)) k := by
  unfold atK
  have e : atI xs ((0 : Int) + (i : Nat)) = some (xs[i]'h) := by
    rw [Int.zero_add]
    exact atI_nat (List.getElem?_eq_getElem h)
  rw [e]
  exact q
/-- the items alike, one by one -/
theorem r_alike_items {K : PySem.W.Frag} {n : Nat} {H : Hp} {Q : VK} {p q : Addr} {xs ys : List V} {ds : List PyData} (hp : seqAt (H p) (· = xs)) (hq : seqAt (H q) (· = ys)) (hpk : ∀ H', Same H H' → seqAt (H' p) (· = xs)) (hqk : ∀ H', Same H H' → seqAt (H' q) (· = ys))
    (l1 : xs.length ≤ 100000) (px : Paired (Da H n) xs ds) (py : Paired (Da H n) ys ds) (k : ∀ H', Same H H' → Q (.bl true) H') :
    (-2 ^ 62 ≤ (xs.length : Int) ∧ (xs.length : Int) < 2 ^ 62) ∧ LcJ (Itr 0 (xs.length : Int).toNat) (gName 2) (tNot (dTru (tCallS (sp_law_alike K n) (fun _ => E0) (tCons (tOp dIx (dVar 0) (dVar 2)) (tCons (tOp dIx (dVar 1) (dVar 2)) tNil))))) (dVar 2) [2] [some (.ref p), some (.ref q), none] H
      (fun x H1 => 0 ≤ sizeLine ∧ ∀ (r : Addr), H1 r = none → dEqD K x (.ref r) (upd H1 r (.lst [])) Q) := by
  have el : ys.length = xs.length := paired2 py px
  refine ⟨⟨by omega, by omega⟩, lcR_core (n := (xs.length : Int).toNat) (by omega) (fun _ => false) (fun _ _ _ => True) (fun _ _ _ _ _ _ => trivial) ?_ ?_⟩
  · intro i hi H1 s k1 k0 _ h0
    have hi' : i < ys.length := by omega
    walk_at "ev"
    refine seqE (hpk H1 s) (seqI (by omega) ?_)
    refine seqE (hqk H1 s) (seqI hi' ?_)
    obtain ⟨d, hd⟩ : ∃ d, ds[i]? = some d := ⟨ds[i]'(by rw [← paired_len py]; exact hi'), List.getElem?_eq_getElem _⟩
    obtain ⟨x, hx, dx⟩ := pairedAt px hd
    obtain ⟨y, hy, dy⟩ := pairedAt py hd
    rw [List.getElem?_eq_getElem (show i < xs.length by omega)] at hx
    rw [List.getElem?_eq_getElem hi'] at hy
    cases hx
    cases hy
    refine ⟨_, _, d, rfl, dx.same s, dy.same s, fun H' s' => ?_⟩
    walk_at "ev"
    exact h0 rfl H' s'
  · intro D H1 zs hD s hz pr
    have e : zs = [] := by
      have := paired_len pr
      cases zs with
      | nil => rfl
      | cons z zs =>
        rw [List.filter_eq_nil_iff.mpr (fun _ _ => by simp)] at this
        cases this
    subst e
    refine ⟨by show 0 ≤ sizeLine; decide, fun r hr => ?_⟩
    have s2 := same_new (o := .lst []) hr
    exact eqD_same (n := 1) (Da.lst (s2 D _ hz) (Nat.zero_le _) .nil) (Da.lst upd_same (Nat.zero_le _) .nil) (by decide) (k _ (s.trans s2))
theorem r_alike_atom {K : PySem.W.Frag} {A : Ads} {E : XK} {sq : Sp} {x y : V} {d : PyData} {H : Hp} {Q : VK} (hx : AtomD x d) (hy : AtomD y d) (k : Q (.bl true) H) : t_law_alike K A E sq { nx := fun _ H' => Q .non H', rt := Q } (L2.start ["found", "due", "k"] [x, y]) H := by
  unfold t_law_alike
  rcases hy with ⟨rfl, rfl⟩ | ⟨b, rfl, rfl⟩ | ⟨b, rfl, rfl⟩ | ⟨z, rfl, rfl, hz⟩
  · obtain rfl : x = .non := by
      rcases hx with ⟨rfl, _⟩ | ⟨_, _, e⟩ | ⟨_, _, e⟩ | ⟨_, _, e, _⟩ <;> first | rfl | cases e
    wp_walk using is_NoneType_list, kn_NoneType_list, is_NoneType_tuple, kn_NoneType_tuple
    exact k
  · obtain rfl : x = .bl b := by
      rcases hx with ⟨_, e⟩ | ⟨_, rfl, e⟩ | ⟨_, _, e⟩ | ⟨_, _, e, _⟩ <;> first | (cases e; done) | (cases e; rfl)
    wp_walk using is_bool_list, kn_bool_list, is_bool_tuple, kn_bool_tuple, is_bool_bool, kn_bool_bool
    exact k
  · obtain rfl : x = .int b := by
      rcases hx with ⟨_, e⟩ | ⟨_, _, e⟩ | ⟨_, rfl, e⟩ | ⟨_, _, e, _⟩ <;> first | (cases e; done) | (cases e; rfl)
    wp_walk using is_int_list, kn_int_list, is_int_tuple, kn_int_tuple, is_int_bool, kn_int_bool, is_int_int, kn_int_int
    exact k
  · obtain rfl : x = .str z := by
      rcases hx with ⟨_, e⟩ | ⟨_, _, e⟩ | ⟨_, _, e⟩ | ⟨_, rfl, e, _⟩ <;> first | (cases e; done) | (cases e; rfl)
    wp_walk using is_str_list, kn_str_list, is_str_tuple, kn_str_tuple, is_str_bool, kn_str_bool, is_str_int, kn_str_int, is_str_str, kn_str_str
    exact k
theorem r_law_alike0 {K : PySem.W.Frag} {A : Ads} {E : XK} {sq : Sp} {vs : List V} {H : Hp} {Q : VK} (h : sp_law_alike K 0 vs H Q E) : t_law_alike K A E sq { nx := fun _ H' => Q .non H', rt := Q } (L2.start ["found", "due", "k"] vs) H := by
  obtain ⟨x, y, d, rfl, hx, hy, k⟩ := h
  exact r_alike_atom hx hy (k H (Same.refl H))
theorem r_law_alike {K : PySem.W.Frag} {A : Ads} {E : XK} {n : Nat} {vs : List V} {H : Hp} {Q : VK} (h : sp_law_alike K (n + 1) vs H Q E) : t_law_alike K A E (sp_law_alike K n) { nx := fun _ H' => Q .non H', rt := Q } (L2.start ["found", "due", "k"] vs) H := by
  obtain ⟨x, y, d, rfl, hx, hy, k⟩ := h
  unfold t_law_alike
  rcases hy with hy | ⟨b, ys, ds, rfl, rfl, hb, hlb, py⟩ | ⟨b, ys, ds, rfl, rfl, hb, hlb, py⟩
  · have hx : AtomD x d := by
      rcases hx with hx | ⟨_, _, _, _, e, _⟩ | ⟨_, _, _, _, e, _⟩
      · exact hx
      · subst e
        rcases hy with ⟨_, e⟩ | ⟨_, _, e⟩ | ⟨_, _, e⟩ | ⟨_, _, e, _⟩ <;> cases e
      · subst e
        rcases hy with ⟨_, e⟩ | ⟨_, _, e⟩ | ⟨_, _, e⟩ | ⟨_, _, e, _⟩ <;> cases e
    have := r_alike_atom (K := K) (A := A) (E := E) (sq := sp_law_alike K n) hx hy (k H (Same.refl H))
    unfold t_law_alike at this
    exact this
  · obtain ⟨a, xs, rfl, ha, hla, px⟩ : ∃ a xs, x = .ref a ∧ H a = some (.lst xs) ∧ xs.length ≤ 100000 ∧ Paired (Da H n) xs ds := by
      rcases hx with hx | ⟨a, xs, _, rfl, e, h1, h2, h3⟩ | ⟨_, _, _, _, e, _⟩
      · rcases hx with ⟨_, e⟩ | ⟨_, _, e⟩ | ⟨_, _, e⟩ | ⟨_, _, e, _⟩ <;> cases e
      · cases e; exact ⟨a, xs, rfl, h1, h2, h3⟩
      · cases e
    have el : (ys.length : Int) = (xs.length : Int) := by rw [paired2 px py]
    have it := r_alike_items (K := K) (Q := Q) (p := a) (q := b) (xs := xs) (ys := ys) (by rw [ha]; rfl) (by rw [hb]; rfl) (fun H' s => by rw [s a _ ha]; rfl) (fun H' s => by rw [s b _ hb]; rfl) hla px py k
    wp_walk using ha, hb, el, is_list_list, kn_list_list, is_list_tuple, kn_list_tuple
    exact it
  · obtain ⟨a, xs, rfl, ha, hla, px⟩ : ∃ a xs, x = .ref a ∧ H a = some (.tup xs) ∧ xs.length ≤ 100000 ∧ Paired (Da H n) xs ds := by
      rcases hx with hx | ⟨_, _, _, _, e, _⟩ | ⟨a, xs, _, rfl, e, h1, h2, h3⟩
      · rcases hx with ⟨_, e⟩ | ⟨_, _, e⟩ | ⟨_, _, e⟩ | ⟨_, _, e, _⟩ <;> cases e
      · cases e
      · cases e; exact ⟨a, xs, rfl, h1, h2, h3⟩
    have el : (ys.length : Int) = (xs.length : Int) := by rw [paired2 px py]
    have it := r_alike_items (K := K) (Q := Q) (p := a) (q := b) (xs := xs) (ys := ys) (by rw [ha]; rfl) (by rw [hb]; rfl) (fun H' s => by rw [s a _ ha]; rfl) (fun H' s => by rw [s b _ hb]; rfl) hla px py k
    wp_walk using ha, hb, el, is_tuple_list, kn_tuple_list, is_tuple_tuple, kn_tuple_tuple
    exact it
theorem r_law_word {K : PySem.W.Frag} {A : Ads} {E : XK} {ax D : Addr} {vs : List V} {H : Hp} {Q : VK} (h : sp_law_word K A ax (.ref D) none vs H Q E) : t_law_word K A E ax D { nx := fun _ H' => Q .non H', rt := Q } (L2.start ["e", "kinds", "kind"] vs) H := by
  obtain ⟨D', b1, b2, b3, b4, b5, w, rfl, eD, _, _, k1, k2, k3, k4, k5, hw, k⟩ := h
  cases eD
  unfold t_law_word
  have one : ∀ (bs : List Bool) (j : Nat), bs.length = 5 → bs[j]? = some true → (∀ m, m < j → bs[m]? = some false) → bs.filter id = [true] → ∀ (p : Addr) (H1 : Hp), Same H H1 → H1 p = some (.lst (bs.map V.bl)) →
      (∀ H', Same H H' → (["range", "form", "none", "refused", "much"] : List Str)[j]? = some w → Q (.str w) H') → (["range", "form", "none", "refused", "much"] : List Str)[j]? = some w →
      (tSeq (tIfS (dTest (tOp dNe (tCB dLen (tCons (dLcL K (dVar 1) (gName 2) (dTru (dVar 2)) (dVar 2) [2]) tNil)) (tC (.int 1)))) (tRet (tC (.str "many"))) tNext)
        (tRet (tOp dIx (tLst (tCons (tC (.str "range")) (tCons (tC (.str "form")) (tCons (tC (.str "none")) (tCons (tC (.str "refused")) (tCons (tC (.str "much")) tNil)))))) (dBM (rIndex K) (dVar 1) (tCons (tC (.bl true)) tNil)))))
        { nx := fun _ H' => Q .non H', rt := Q } [some (.ref ax), some (.ref p), none] H1 := by
    intro bs j hl hj hb hf p H1 s hp q1 q2
    wp_walk using hp
    refine lcL_core (xs := bs.map V.bl) (SqL.of hp) (by rw [List.length_map, hl]; decide) (fun x => decide (x = .bl true)) (fun x y _ => y = x) (fun _ _ _ _ _ h => h) ?_ ?_
    · intro x hx H2 s2 k1 k0 h1 h0
      obtain ⟨b, _, rfl⟩ := List.mem_map.mp hx
      walk_at "ev"
      cases b with
      | true =>
        walk_at "ev"
        exact h1 (by decide) _ H2 (Same.refl _) rfl
      | false =>
        walk_at "ev"
        exact h0 (by decide) H2 (Same.refl _)
    · intro D2 H2 ys hD s2 hys pr
      have e : (bs.map V.bl).filter (fun x => decide (x = .bl true)) = (bs.filter id).map V.bl := by
        rw [List.filter_map]
        congr 1
        apply List.filter_congr
        intro b _
        cases b <;> rfl
      rw [e, hf] at pr
      have ly : ys.length = 1 := (paired_len pr).symm
      wp_walk using hys, ly
      refine ⟨by show 5 ≤ sizeLine; decide, fun r hr => ?_⟩
      have s3 : Same H1 (upd H2 r (.lst [.str "range", .str "form", .str "none", .str "refused", .str "much"])) := s2.trans (same_new hr)
      have hp3 := s3 p _ hp
      wp_walk using hp3
      refine ⟨p, bs.map V.bl, .bl true, j, .bl true, rfl, rfl, SqL.of hp3, rfl, by simp [flatV], by rw [List.getElem?_map, hj]; rfl, rfl, fun m z' hm hz => ?_, ?_⟩
      · rw [List.getElem?_map, hb m hm] at hz
        cases hz
        rfl
      · have ee : ([V.str "range", .str "form", .str "none", .str "refused", .str "much"] : List V)[j]? = some (.str w) := by
          have := congrArg (Option.map V.str) q2
          rw [← List.getElem?_map] at this
          exact this
        walk_at "ev"
        exact atK_nat ee (q1 _ (s.trans s3) q2)
  refine seq1 ?_
  wide_line using [k1, k2, k3, k4, k5]
  simp only [List.mem_cons, Prod.mk.injEq, List.not_mem_nil, or_false] at hw
  refine ⟨by show 5 ≤ sizeLine; decide, fun p hp => ?_⟩
  have s := same_new (o := .lst [.bl b1, .bl b2, .bl b3, .bl b4, .bl b5]) hp
  have few : ∀ (bs : List Bool) (j : Nat), bs[j]? = some true → (∀ m, m < j → bs[m]? = some false) → True := fun _ _ _ _ => trivial
  rcases hw with ⟨rfl, rfl, rfl, rfl, rfl, rfl⟩ | ⟨rfl, rfl, rfl, rfl, rfl, rfl⟩ | ⟨rfl, rfl, rfl, rfl, rfl, rfl⟩ | ⟨rfl, rfl, rfl, rfl, rfl, rfl⟩ | ⟨rfl, rfl, rfl, rfl, rfl, rfl⟩
  · exact one [true, false, false, false, false] 0 rfl rfl (fun m hm => by omega) rfl p _ s upd_same (fun H' s' _ => k H' s') rfl
  · exact one [false, true, false, false, false] 1 rfl rfl (fun m hm => by match m, hm with | 0, _ => rfl) rfl p _ s upd_same (fun H' s' _ => k H' s') rfl
  · exact one [false, false, true, false, false] 2 rfl rfl (fun m hm => by match m, hm with | 0, _ => rfl | 1, _ => rfl) rfl p _ s upd_same (fun H' s' _ => k H' s') rfl
  · exact one [false, false, false, true, false] 3 rfl rfl (fun m hm => by match m, hm with | 0, _ => rfl | 1, _ => rfl | 2, _ => rfl) rfl p _ s upd_same (fun H' s' _ => k H' s') rfl
  · exact one [false, false, false, false, true] 4 rfl rfl (fun m hm => by match m, hm with | 0, _ => rfl | 1, _ => rfl | 2, _ => rfl | 3, _ => rfl) rfl p _ s upd_same (fun H' s' _ => k H' s') rfl
theorem r_lowest {K : PySem.W.Frag} {A : Ads} {E : XK} {vs : List V} {H : Hp} {Q : VK} (h : sp_lowest vs H Q E) : t_lowest K A E { nx := fun _ H' => Q .non H', rt := Q } (L2.start ["part", "whole", "common"] vs) H := by
  obtain ⟨p, w, rfl, hw, hw2, k⟩ := h
  unfold t_lowest
  have hn : ¬ w < 0 := by omega
  obtain ⟨c1, c2⟩ := gcd_small (p := p) hw hw2
  wp_walk using hn
  exact ⟨c1, c2, by decide, k⟩
theorem r_made {K : PySem.W.Frag} {A : Ads} {E : XK} {vs : List V} {H : Hp} {Q : VK} (h : sp_made A vs H Q E) : t_made K A E { nx := fun _ H' => Q .non H', rt := Q } (L2.start ["part", "whole"] vs) H := by
  obtain ⟨p, w, rfl, hw, hw2, k⟩ := h
  unfold t_made
  have hn : ¬ w = 0 := by omega
  wp_walk using hn
  exact ⟨p, w, rfl, hw, hw2, k⟩
theorem r_less {K : PySem.W.Frag} {A : Ads} {E : XK} {vs : List V} {H : Hp} {Q : VK} (h : sp_less vs H Q E) : t_less K A E { nx := fun _ H' => Q .non H', rt := Q } (L2.start ["one", "other"] vs) H := by
  obtain ⟨x, y, p, q, rfl, ⟨a, rfl, ha⟩, ⟨b, rfl, hb⟩, c1, c2, k⟩ := h
  unfold t_less
  wp_walk using ha, hb
  exact ⟨c1, c2, k⟩
theorem r_rank_place {K : PySem.W.Frag} {A : Ads} {E : XK} {vs : List V} {H : Hp} {Q : VK} (h : sp_rank_place vs H Q E) : t_rank_place K A E { nx := fun _ H' => Q .non H', rt := Q } (L2.start ["many", "part", "whole"] vs) H := by
  obtain ⟨m, p, w, rfl, h1, h2, h3, h4, k⟩ := h
  unfold t_rank_place
  walk_at "ev"
  exact ⟨.inr ⟨by omega, by omega⟩, ⟨by omega, by omega⟩, k⟩
theorem r_is_settled {K : PySem.W.Frag} {A : Ads} {E : XK} {vs : List V} {H : Hp} {Q : VK} (h : sp_is_settled vs H Q E) : t_is_settled K A E { nx := fun _ H' => Q .non H', rt := Q } (L2.start ["ends"] vs) H := by
  obtain ⟨v, r, rfl, hd, hr, k⟩ := h
  unfold t_is_settled
  cases r with
  | non => exact (hr rfl).elim
  | nums a b =>
    obtain ⟨t, x, y, rfl, ht, hx, hy⟩ := Da.pair_inv hd
    wp_walk using ht
    exact eqD_da hx hy (by decide) k
  | fras a b =>
    obtain ⟨t, x, y, rfl, ht, hx, hy⟩ := Da.pair_inv hd
    wp_walk using ht
    exact eqD_da hx hy (by decide) k
theorem r_law_says {K : PySem.W.Frag} {A : Ads} {E : XK} {vs : List V} {H : Hp} {Q : VK} (h : sp_law_says vs H Q E) : t_law_says K A E { nx := fun _ H' => Q .non H', rt := Q } (L2.start ["told", "due"] vs) H := by
  obtain ⟨b, rfl, k⟩ := h
  unfold t_law_says
  walk_at "ev"
  exact k
theorem r_law_rank {K : PySem.W.Frag} {A : Ads} {E : XK} {vs : List V} {H : Hp} {Q : VK} (h : sp_law_rank vs H Q E) : t_law_rank K A E { nx := fun _ H' => Q .non H', rt := Q } (L2.start ["numbers", "part", "whole_one"] vs) H := by
  obtain ⟨a, ns, p, w, rfl, ha, hn, p0, pw, w0, w1, hl, k⟩ := h
  unfold t_law_rank
  have hlen : 1 ≤ ns.length := List.length_pos_iff.mpr hn
  wp_walk using ha
  refine ⟨a, ns, rfl, .inl (.inl ha), fun ms q pm pw2 hq => ?_⟩
  have na : a ≠ q := ne_of_none ha hq
  have ml := pm.length_eq
  wp_walk using na, ha
  rw [List.length_map]
  have i0 : 0 ≤ ((ns.length : Int) - 1) * p / w := Int.ediv_nonneg (Int.mul_nonneg (by omega) p0) (by omega)
  have i1 : ((ns.length : Int) - 1) * p / w ≤ (ns.length : Int) - 1 := by
    have h1 : ((ns.length : Int) - 1) * p ≤ ((ns.length : Int) - 1) * w := Int.mul_le_mul_of_nonneg_left pw (by omega)
    have h2 := Int.ediv_le_ediv w0 h1
    rw [Int.mul_ediv_cancel _ (by omega)] at h2
    exact h2
  have rc := fun r => rankC_of (ns := ns) (ms := ms) (p := p) (w := w) (r := r) i0 pm pw2
  obtain ⟨j, hj⟩ := Int.eq_ofNat_of_zero_le i0
  rw [hj] at i1 rc ⊢
  have hjl : j < ms.length := by omega
  refine ⟨.inl ⟨by omega, by omega⟩, ⟨by omega, by omega⟩, atK_nat (v := .int ms[j]) (by rw [List.getElem?_map, List.getElem?_eq_getElem hjl]; rfl) ?_⟩
  exact k _ _ (same_new hq) (rc _ (by rw [Int.toNat_natCast]; exact List.getElem?_eq_getElem hjl))
theorem r_law_lowest {K : PySem.W.Frag} {A : Ads} {E : XK} {vs : List V} {H : Hp} {Q : VK} (h : sp_law_lowest vs H Q E) : t_law_lowest K A E { nx := fun _ H' => Q .non H', rt := Q } (L2.start ["part", "whole_one", "one", "other"] vs) H := by
  obtain ⟨p, w, rfl, hw, hw2, k⟩ := h
  unfold t_law_lowest
  refine seq1 ?_
  wide_line using [upd_same]
  refine seq1 ?_
  refine while_to (fun m σ H' => H' = H ∧ ∃ x y : Nat, y = m ∧ σ = [some (.int p), some (.int w), some (.int x), some (.int y)] ∧ Nat.gcd x y = Nat.gcd p.natAbs w.natAbs ∧ y < 1000) (fun σ H' => H' = H ∧ σ = [some (.int p), some (.int w), some (.int (Nat.gcd p.natAbs w.natAbs : Nat)), some (.int 0)]) w.natAbs ⟨rfl, p.natAbs, w.natAbs, rfl, ?_, rfl, by omega⟩ ?_ ?_
  · have e1 : (if p < 0 then -p else p) = (p.natAbs : Int) := by split <;> omega
    have e2 : w = (w.natAbs : Int) := by omega
    rw [e1, ← e2]
  · rintro σ H' ⟨rfl, rfl⟩
    obtain ⟨c1, c2⟩ := gcd_small (p := p) hw hw2
    wp_walk using upd_same
    exact ⟨c1, c2, by rw [sizeLine_eq]; decide, k⟩
  · rintro nx hnx m σ H' ⟨rfl, x, y, rfl, rfl, hg, hy⟩
    wp_walk using upd_same
    refine ite2 (fun h => turnN fun N hN => ?_) fun h => ?_
    · wp_walk using upd_same
      refine ⟨by omega, hN (x % y) _ _ (Nat.mod_lt _ (by omega)) ⟨rfl, y, x % y, rfl, ?_, ?_, ?_⟩⟩
      · simp
      · rw [← hg, Nat.gcd_comm x y, Nat.gcd_rec y x, Nat.gcd_comm]
      · have := Nat.mod_lt x (show 0 < y by omega)
        omega
    · have e : y = 0 := by omega
      subst e
      rw [Nat.gcd_zero_right] at hg
      exact hnx _ _ ⟨rfl, by rw [← hg]; rfl⟩
theorem r_law_least {K : PySem.W.Frag} {A : Ads} {E : XK} {vs : List V} {H : Hp} {Q : VK} (h : sp_law_least vs H Q E) : t_law_least K A E { nx := fun _ H' => Q .non H', rt := Q } (L2.start ["fractions", "found", "one"] vs) H := by
  obtain ⟨a, xs, qs, rfl, ha, pr, hne, hok, k⟩ := h
  unfold t_law_least
  obtain ⟨y0, yr, rfl⟩ : ∃ y0 yr, xs = y0 :: yr := by
    cases xs with
    | nil => cases pr; exact (hne rfl).elim
    | cons y0 yr => exact ⟨_, _, rfl⟩
  obtain ⟨q0, hq0, p0⟩ := pairedGet pr (i := 0) (x := y0) rfl
  refine seq1 ?_
  wide_line using [ha]
  refine seq1 ?_
  wide_line using [ha]
  refine forL_to (.of ha) (fun i σ H' => H' = H ∧ ∃ (v : V) (q : Int × Int) (z : Option V), σ = [some (.ref a), some v, z] ∧ PrI H v q ∧ q ∈ qs ∧ ∀ r ∈ qs.take i, q.1 * r.2 ≤ r.1 * q.2)
    (fun σ H' => H' = H ∧ ∃ (v : V) (q : Int × Int) (z : Option V), σ = [some (.ref a), some v, z] ∧ PrI H v q ∧ q ∈ qs ∧ ∀ r ∈ qs, q.1 * r.2 ≤ r.1 * q.2) ⟨rfl, y0, q0, none, rfl, p0, List.mem_of_getElem? hq0, by simp⟩ (fun i σ H' _ p => by rw [p.1]; exact .of ha) ?_ ?_ ?_
  · rintro σ H' ⟨rfl, v, q, z, rfl, pv, mq, hq⟩
    rw [paired_len pr, List.take_length] at hq
    exact ⟨rfl, v, q, z, rfl, pv, mq, hq⟩
  · rintro σ H' ⟨rfl, v, q, z, rfl, pv, mq, hq⟩
    wp_walk using upd_same
    exact k v q pv mq hq
  · rintro N nx hnx i x σ H' hx hN ⟨rfl, v, q, z, rfl, ⟨t, rfl, pv⟩, mq, hq⟩
    obtain ⟨r, hr, t2, rfl, px⟩ := pairedGet pr hx
    have mr := List.mem_of_getElem? hr
    have et : qs.take (i + 1) = qs.take i ++ [r] := by rw [List.take_succ, hr]; rfl
    wp_walk using pv, px
    refine ⟨(hok q mq).cm _, (hok r mr).cm _, ite2 (fun hlt => ?_) fun hlt => ?_⟩
    · refine hN _ _ ⟨rfl, _, r, _, rfl, ⟨t2, rfl, px⟩, mr, fun s hs => ?_⟩
      rw [et] at hs
      rcases List.mem_append.mp hs with hs | hs
      · exact cle_trans (hok q mq).1 (hok r mr).1 (hok s (List.mem_of_mem_take hs)).1 (Int.le_of_lt hlt) (hq s hs)
      · simp at hs; subst hs; exact Int.le_refl _
    · refine hN _ _ ⟨rfl, _, q, _, rfl, ⟨t, rfl, pv⟩, mq, fun s hs => ?_⟩
      rw [et] at hs
      rcases List.mem_append.mp hs with hs | hs
      · exact hq s hs
      · simp at hs; subst hs; omega
theorem r_law_within {K : PySem.W.Frag} {A : Ads} {E : XK} {vs : List V} {H : Hp} {Q : VK} (h : sp_law_within vs H Q E) : t_law_within K A E { nx := fun _ H' => Q .non H', rt := Q } (L2.start ["one", "other"] vs) H := by
  obtain ⟨x, y, r, s, rfl, hx, hy, hw, ok1, ok2, k⟩ := h
  unfold t_law_within
  cases r with
  | non => exact hw.elim
  | nums a b =>
    cases s with
    | non => exact hw.elim
    | fras c d => exact hw.elim
    | nums c d =>
      obtain ⟨t1, rfl, h1⟩ := da_pri (q := (a, b)) hx
      obtain ⟨t2, rfl, h2⟩ := da_pri (q := (c, d)) hy
      obtain ⟨w1, w2⟩ := hw
      wp_walk using h1, h2, w1, w2
      exact k
  | fras a b =>
    cases s with
    | non => exact hw.elim
    | nums c d => exact hw.elim
    | fras c d =>
      obtain ⟨t1, x1, x2, rfl, h1, g1, g2⟩ := Da.pair_inv hx
      obtain ⟨t2, x3, x4, rfl, h2, g3, g4⟩ := Da.pair_inv hy
      obtain ⟨s1, rfl, e1⟩ := da_pri g1
      obtain ⟨s2, rfl, e2⟩ := da_pri g2
      obtain ⟨s3, rfl, e3⟩ := da_pri g3
      obtain ⟨s4, rfl, e4⟩ := da_pri g4
      obtain ⟨w1, w2⟩ := hw
      obtain ⟨oa, ob⟩ := ok1 _ _ rfl
      obtain ⟨oc, od⟩ := ok2 _ _ rfl
      wp_walk using h1, h2, e1, e2, e3, e4, w1, w2
      exact ⟨oc.cm _, oa.cm _, od.cm _, ob.cm _, k⟩
theorem r_law_ways {K : PySem.W.Frag} {A : Ads} {E : XK} {vs : List V} {H : Hp} {Q : VK} (h : sp_law_ways vs H Q E) : t_law_ways K A E { nx := fun _ H' => Q .non H', rt := Q } (L2.start ["fewest", "most", "low", "high", "found", "rows", "many", "later", "row", "number"] vs) H := by
  obtain ⟨f, m, l, h, rfl, f0, fm, m3, l0, lh, h3, l1, k⟩ := h
  unfold t_law_ways
  refine seq1 ?_
  wide_line using [upd_same]
  refine ⟨by rw [sizeLine_eq]; decide, fun a0 ha0 => ⟨by rw [sizeLine_eq]; decide, fun a1 ha1 => ⟨by rw [sizeLine_eq]; decide, fun a2 ha2 => ?_⟩⟩⟩
  have s0 := ((same_new (o := .lst []) ha0).trans (same_new (o := .tup []) ha1)).trans (same_new (o := .lst [.ref a1]) ha2)
  have T0 : TupsAt (upd (upd (upd H a0 (.lst [])) a1 (.tup [])) a2 (.lst [.ref a1])) (.ref a0) [] := ⟨a0, [], rfl, same_new ha2 _ _ (same_new ha1 _ _ upd_same), .nil⟩
  have T1 : TupsAt (upd (upd (upd H a0 (.lst [])) a1 (.tup [])) a2 (.lst [.ref a1])) (.ref a2) [[]] := ⟨a2, _, rfl, upd_same, .cons ⟨a1, rfl, same_new ha2 _ _ upd_same⟩ .nil⟩
  generalize upd (upd (upd H a0 (.lst [])) a1 (.tup [])) a2 (.lst [.ref a1]) = H0 at *
  refine seq1 ?_
  wide_line using [upd_same]
  refine ⟨⟨by omega, by omega⟩, ?_⟩
  refine forR_to (fun i σ H' => Same H0 H' ∧ ∃ (fv rv : V) (z1 z2 z3 : Option V), σ = [some (.int f), some (.int m), some (.int l), some (.int h), some fv, some rv, z1, z2, z3, none] ∧ TupsAt H' fv (wfound f l h i) ∧ TupsAt H' rv (wrow l h i))
    (fun σ H' => Same H0 H' ∧ ∃ (fv rv : V) (z1 z2 z3 : Option V), σ = [some (.int f), some (.int m), some (.int l), some (.int h), some fv, some rv, z1, z2, z3, none] ∧ TupsAt H' fv (wfound f l h (m + 1).toNat)) ⟨Same.refl _, _, _, none, none, none, rfl, T0, T1⟩ ?_ ?_ ?_
  · rintro σ H' ⟨s, fv, rv, z1, z2, z3, rfl, t1, t2⟩
    exact ⟨s, fv, rv, z1, z2, z3, rfl, t1⟩
  · rintro σ H' ⟨s, fv, rv, z1, z2, z3, rfl, t1⟩
    wp_walk using upd_same
    refine k fv H' _ (s0.trans s) t1 ?_ ?_ ?_
    · refine Nat.le_trans (wfound_len h3) (Nat.le_trans (Nat.pow_le_pow_right (by decide) (show (m + 1).toNat ≤ 4 by omega)) (by decide))
    · intro r hr
      obtain ⟨g1, g2, g3⟩ := wfound_ok hr
      exact ⟨g1, by omega, g3⟩
    · exact fun xs hx => ways_all hx (by omega)
  · rintro N nx hnx i σ H' hi hN ⟨s, fv, rv, z1, z2, z3, rfl, ⟨fa, fs, rfl, hfa, pf⟩, ⟨ra, rs, rfl, hra, pr⟩⟩
    have i4 : i ≤ 3 := by omega
    have lw : (wrow l h i).length ≤ 64 := Nat.le_trans (wrow_len h3) (Nat.le_trans (Nat.pow_le_pow_right (by decide) i4) (by decide))
    have lf : (wfound f l h i).length ≤ 64 := Nat.le_trans (wfound_len h3) (Nat.le_trans (Nat.pow_le_pow_right (by decide) i4) (by decide))
    have el := paired_len pr
    have ef := paired_len pf
    refine seq_to (fun σ H2 => Same H' H2 ∧ ∃ fv : V, σ = [some (.int f), some (.int m), some (.int l), some (.int h), some fv, some (.ref ra), some (.int (0 + (i : Int))), z2, z3, none] ∧ TupsAt H2 fv (wfound f l h (i + 1))) (fun nx2 hnx2 => ?_) ?_
    · wp_walk using hfa, hra
      refine ite2 (fun hf => ⟨by rw [sizeLine_eq]; omega, fun p hp => hnx2 _ _ ⟨same_new hp, _, rfl, ?_⟩⟩) fun hf => hnx2 _ _ ⟨Same.refl _, _, rfl, ?_⟩
      · unfold wfound
        rw [if_pos (by omega)]
        exact ⟨p, _, rfl, upd_same, Paired.mapP (paired_app pf pr) fun _ _ ⟨t, e, ht⟩ => ⟨t, e, same_new hp _ _ ht⟩⟩
      · unfold wfound
        rw [if_neg (by omega)]
        exact ⟨fa, _, rfl, hfa, pf⟩
    · rintro σ H2 ⟨s2, fv, rfl, tf⟩
      refine seq1 ?_
      wide_line using [upd_same]
      refine ⟨by rw [sizeLine_eq]; decide, fun p0 hp0 => ?_⟩
      have sA := s2.trans (same_new (o := .lst []) hp0)
      have TA : TupsAt (upd H2 p0 (.lst [])) (.ref p0) [] := ⟨p0, [], rfl, upd_same, .nil⟩
      have tf2 := tf.same (same_new (o := .lst []) hp0)
      generalize upd H2 p0 (.lst []) = H3 at *
      have hra3 := sA _ _ hra
      refine seq1 ?_
      wide_line using [hra3]
      refine forL_to (.of hra3) (fun j σ H4 => Same H3 H4 ∧ ∃ (lv : V) (z3 : Option V), σ = [some (.int f), some (.int m), some (.int l), some (.int h), some fv, some (.ref ra), some (.int (0 + (i : Int))), some lv, z3, none] ∧ TupsAt H4 lv (((wrow l h i).take j).flatMap (nxt l h)))
        (fun σ H4 => Same H3 H4 ∧ ∃ (lv : V) (z3 : Option V), σ = [some (.int f), some (.int m), some (.int l), some (.int h), some fv, some (.ref ra), some (.int (0 + (i : Int))), some lv, z3, none] ∧ TupsAt H4 lv (wrow l h (i + 1))) ⟨Same.refl _, _, _, rfl, TA⟩ (fun j σ H4 _ p => .of (p.1 _ _ hra3)) ?_ ?_ ?_
      · rintro σ H4 ⟨s4, lv, z, rfl, t4⟩
        rw [el, List.take_length] at t4
        exact ⟨s4, lv, z, rfl, t4⟩
      · rintro σ H4 ⟨s4, lv, z, rfl, t4⟩
        wp_walk using upd_same
        exact hN _ _ ⟨s.trans (sA.trans s4), fv, lv, _, _, _, rfl, tf2.same s4, t4⟩
      · rintro N2 nx3 hnx3 j x σ H4 hx hN2 ⟨s4, lv, z, rfl, ⟨la, ls, rfl, hla, pl⟩⟩
        obtain ⟨r, hr, t, rfl, ht⟩ := pairedGet pr hx
        have ht4 := s4 _ _ (sA _ _ ht)
        have mr := List.mem_of_getElem? hr
        obtain ⟨rl, rb⟩ := wrow_ok mr
        have hll := lastOr_ge (l := l) fun x hx => (rb x hx).1
        have hlh : lastOr l r ≤ h := by
          unfold lastOr
          rcases List.eq_nil_or_concat r with rfl | ⟨r', y, rfl⟩
          · simpa using lh
          · simpa using (rb y (by simp)).2
        have et : (wrow l h i).take (j + 1) = (wrow l h i).take j ++ [r] := by rw [List.take_succ, hr]; rfl
        have lj : ((wrow l h i).take j).length ≤ 64 := by rw [List.length_take]; omega
        have ll : ls.length ≤ 256 := by
          rw [paired_len pl]
          have := flatMap_len (f := nxt l h) (n := 4) (l := (wrow l h i).take j) fun r hr => nxt_len h3 fun x hx => ((wrow_ok (List.mem_of_mem_take hr)).2 x hx).1
          omega
        wide_line using [ht4]
        refine ⟨by rw [sizeLine_eq]; decide, fun p1 hp1 => neD_da (n := 1) (.tup (same_new hp1 _ _ ht4) (by simp; omega) da_ints) (.tup upd_same (by simp) .nil) (by decide) ?_⟩
        have ht5 := same_new (o := .tup []) hp1 _ _ ht4
        have hla5 := same_new (o := .tup []) hp1 _ _ hla
        have pl5 : Paired (fun v r => ∃ t, v = V.ref t ∧ upd H4 p1 (.tup []) t = some (.tup (r.map V.int))) ls (((wrow l h i).take j).flatMap (nxt l h)) := Paired.mapP pl fun _ _ ⟨t, e, ht⟩ => ⟨t, e, same_new hp1 _ _ ht⟩
        have sB := s4.trans (same_new (o := .tup []) hp1)
        generalize upd H4 p1 (.tup []) = H5 at *
        have core : ∀ Q2 : VK, (∀ D H6 ys, Same H5 H6 → H6 D = some (.lst ys) → Paired (fun v r => ∃ t, v = V.ref t ∧ H6 t = some (.tup (r.map V.int))) ys (nxt l h r) → Q2 (.ref D) H6) →
            LcJ (Itr (lastOr l r) (h + 1 - lastOr l r).toNat) (gName 9) tYes (tOp dAdd2 (dVar 8) (tTup (tCons (dVar 9) tNil))) [9] [some (.int f), some (.int m), some (.int l), some (.int h), some fv, some (.ref ra), some (.int (0 + (i : Int))), some (.ref la), some (.ref t), none] H5 Q2 := by
          intro Q2 hq
          refine lcR_core ?_ (fun _ => true) (fun k y H' => ∃ t, y = V.ref t ∧ H' t = some (.tup ((r ++ [lastOr l r + (k : Int)]).map V.int))) (fun _ _ _ _ kt ⟨t, e, ht⟩ => ⟨t, e, kt _ _ ht⟩) (fun k hk H6 s6 k1 k0 h1 _ => ?_) fun D H6 ys hD s6 hDs pr6 => ?_
          · omega
          · have ht6 := s6 _ _ ht5
            unfold LcTurn
            wp_walk using ht6
            refine ⟨by rw [sizeLine_eq]; decide, fun q hq => ?_⟩
            have nq := ne_of_none ht6 hq
            wp_walk using nq, ht6
            refine ⟨by rw [sizeLine_eq, List.length_map]; omega, fun e => ?_, fun _ z => z.elim, fun e _ q2 hq2 => ?_⟩
            · have er : r = [] := by simpa using e
              refine h1 rfl _ _ (same_new hq) ⟨q, rfl, ?_⟩
              rw [upd_same, er]
              rfl
            · refine h1 rfl _ _ ((same_new hq).trans (same_new (by simpa using hq2))) ⟨q2, rfl, ?_⟩
              rw [upd_same, List.map_append]
              rfl
          · rw [List.filter_eq_self.mpr (fun _ _ => rfl)] at pr6
            refine hq D H6 ys s6 hDs ?_
            have := paired_flip pr6
            exact paired_mapR this
        have fin : ∀ D H6 ys, Same H5 H6 → H6 D = some (.lst ys) → Paired (fun v r => ∃ t, v = V.ref t ∧ H6 t = some (.tup (r.map V.int))) ys (nxt l h r) → ls.length + ys.length ≤ sizeLine ∧ ∀ p, H6 p = none → N2 [some (.int f), some (.int m), some (.int l), some (.int h), some fv, some (.ref ra), some (.int (0 + (i : Int))), some (.ref p), some (.ref t), none] (upd H6 p (.lst (ls ++ ys))) := by
          intro D H6 ys s6 hDs pr6
          refine ⟨?_, fun p hp => hN2 _ _ ⟨sB.trans (s6.trans (same_new hp)), _, _, rfl, ?_⟩⟩
          · have := paired_len pr6
            have := nxt_len (r := r) h3 fun x hx => (rb x hx).1
            rw [sizeLine_eq]
            omega
          · rw [et, List.flatMap_append, List.flatMap_cons, List.flatMap_nil, List.append_nil]
            exact ⟨p, _, rfl, upd_same, paired_app (Paired.mapP pl5 fun _ _ ⟨t, e, ht⟩ => ⟨t, e, same_new hp _ _ (s6 _ _ ht)⟩) (Paired.mapP pr6 fun _ _ ⟨t, e, ht⟩ => ⟨t, e, same_new hp _ _ ht⟩)⟩
        rcases List.eq_nil_or_concat r with rfl | ⟨r', y, rfl⟩
        · have e0 : PyData.eqv (.tuple []) (.tuple []) = true := by simp [PyData.eqv, PyData.eqvAll]
          simp only [List.map_nil, e0, Bool.not_true, Bool.false_eq_true, if_false]
          refine ⟨⟨by omega, by omega, by omega, by omega⟩, core _ fun D H6 ys s6 hDs pr6 => ?_⟩
          have hla6 := s6 _ _ hla5
          simp only [hla6, hDs]
          exact fin D H6 ys s6 hDs pr6
        · have e0 : PyData.eqv (.tuple (List.map PyData.int (r' ++ [y]))) (.tuple []) = false := by cases r' <;> simp [PyData.eqv, PyData.eqvAll]
          simp only [List.concat_eq_append] at *
          rw [lastOr_snoc] at core hll hlh
          simp only [e0, Bool.not_false, if_true]
          simp only [ht5, seqAt_tup, List.map_append, List.map_cons, List.map_nil, atK_last]
          refine ⟨⟨by omega, by omega, by omega, by omega⟩, core _ fun D H6 ys s6 hDs pr6 => ?_⟩
          have hla6 := s6 _ _ hla5
          simp only [hla6, hDs]
          exact fin D H6 ys s6 hDs pr6
theorem da_none {H : Hp} {n : Nat} : Da H n (.str "none") Rs.non.data := .str (by decide +kernel)
theorem r_law_told {K : PySem.W.Frag} {A : Ads} {E : XK} {vs : List V} {H : Hp} {Q : VK} (F1 : WordOk K A A.OutOfRange "range") (F2 : WordOk K A A.NotThere "none") (h : sp_law_told K A vs H Q E) : t_law_told K A E { nx := fun _ H' => Q .non H', rt := Q } (L2.start ["which", "numbers", "part", "whole_one", "more", "fewest", "most", "low", "high", "e"] vs) H := by
  obtain ⟨k, a, t, ns, p, w, f, m, l, h, rfl, ha, ht, hk, p0, pw, w0, w1, hl, sf, sm, sl, sh, kb, kg⟩ := h
  have bad : ∀ {σ : L2.St} {H' : Hp}, Same H H' → 9 < σ.length → ¬ MoreOk f m l h → wAs K (.ref A.TraceError) 9 (fun a cls d => tRet (tCallE (sp_law_word K A) a cls d (tCons (dVar 9) tNil))) (fun _ _ _ _ => False) { nx := fun _ H' => Q .non H', rt := Q } (.ref A.OutOfRange) none σ H' := fun s hs hb => F1.told hs fun H2 s2 => kb hb H2 (s.trans s2)
  have non : ∀ {σ : L2.St} {H' : Hp}, Same H H' → 9 < σ.length → (∃ o : More, f = .int o.f ∧ m = .int o.m ∧ l = .int o.l ∧ h = .int o.h ∧ IsR k p w (Rows ns o.f o.m o.l o.h) .non) → wAs K (.ref A.TraceError) 9 (fun a cls d => tRet (tCallE (sp_law_word K A) a cls d (tCons (dVar 9) tNil))) (fun _ _ _ _ => False) { nx := fun _ H' => Q .non H', rt := Q } (.ref A.NotThere) none σ H' := fun s hs ⟨o, e1, e2, e3, e4, r⟩ => F2.told hs fun H2 s2 => kg o e1 e2 e3 e4 _ _ _ (s.trans s2) da_none r
  unfold t_law_told
  refine seq1 ?_
  wide_line using [ht]
  rcases hk with rfl | rfl | rfl | rfl
  · wp_walk using ha
    refine ⟨a, ns, rfl, .inl (.inl ha), ns.sum, f, m, l, h, rfl, sf, sm, sl, sh, fun hb => bad (Same.refl _) (show 9 < 10 by decide) hb, fun o e1 e2 e3 e4 q hq => ?_⟩
    exact kg o e1 e2 e3 e4 _ _ (.nums _ _) (same_new hq) (.tup upd_same (by simp) (.cons .int (.cons .int .nil))) (isR_total o)
  · wp_walk using ha
    refine ⟨by rw [sizeLine_eq]; decide, fun q hq => neD_da (n := 1) (da_lints (same_new hq _ _ ha) (by omega)) (da_nil upd_same) (by decide) ?_⟩
    have ha2 := same_new (o := .lst []) hq _ _ ha
    have sq := same_new (o := .lst []) hq
    cases ns with
    | nil =>
      have e0 : PyData.eqv (.list (List.map PyData.int [])) (.list []) = true := eqv_nil_nil
      simp only [e0, Bool.not_true, Bool.false_eq_true, if_false]
      refine ⟨.non, f, m, l, h, rfl, .inl rfl, sf, sm, sl, sh, fun hb => bad sq (show 9 < 10 by decide) hb, fun o e1 e2 e3 e4 => ⟨fun _ => ⟨fun hm => ?_, fun hm q2 hq2 => ?_⟩, fun i e => (nomatch e)⟩⟩
      · exact non sq (show 9 < 10 by decide) ⟨o, e1, e2, e3, e4, isR_none o (by decide) (by simp; exact hm)⟩
      · exact kg o e1 e2 e3 e4 _ _ (.nums _ _) (sq.trans (same_new hq2)) (.tup upd_same (by simp) (.cons .int (.cons .int .nil))) (isR_greatest0 o hm)
    | cons n0 nr =>
      have e0 : PyData.eqv (.list (List.map PyData.int (n0 :: nr))) (.list []) = false := eqv_cons_nil
      simp only [e0, Bool.not_false, if_true]
      refine ⟨a, n0 :: nr, rfl, .inl (.inl ha2), by simp, fun g mg hg => ⟨.int g, f, m, l, h, rfl, .inr ⟨_, rfl⟩, sf, sm, sl, sh, fun hb => bad sq (show 9 < 10 by decide) hb, fun o e1 e2 e3 e4 => ⟨fun e => (nomatch e), fun i e q2 hq2 => ?_⟩⟩⟩
      cases e
      exact kg o e1 e2 e3 e4 _ _ (.nums _ _) (sq.trans (same_new hq2)) (.tup upd_same (by simp) (.cons .int (.cons .int .nil))) (isR_greatest o mg hg)
  · wp_walk using ha
    refine ⟨a, ns, rfl, .inl (.inl ha), ?_⟩
    rw [List.length_map]
    refine ⟨ns.length, ns.sum, f, m, l, h, rfl, by omega, by omega, sf, sm, sl, sh, fun hb => bad (Same.refl _) (show 9 < 10 by decide) hb, fun o e1 e2 e3 e4 => ⟨fun hm => ?_, fun hm x y q H' s' hd mx => ?_⟩⟩
    · exact non (Same.refl _) (show 9 < 10 by decide) ⟨o, e1, e2, e3, e4, isR_none o (by decide) hm⟩
    · exact kg o e1 e2 e3 e4 _ _ _ s' hd (isR_mean o hm hl mx)
  · wp_walk using ha
    refine fun q hq => ?_
    have sq := same_new (o := .tup (ns.map V.int)) hq
    refine ⟨q, ns, p, w, f, m, l, h, rfl, upd_same, p0, pw, w0, w1, hl, sf, sm, sl, sh, fun hb => bad sq (show 9 < 10 by decide) hb, fun o e1 e2 e3 e4 => ⟨fun hm => ?_, fun hm x y q2 H' s' hq2 mx => ?_⟩⟩
    · exact non sq (show 9 < 10 by decide) ⟨o, e1, e2, e3, e4, isR_none o (by decide) hm⟩
    · exact kg o e1 e2 e3 e4 _ _ (.nums _ _) (sq.trans s') (.tup hq2 (by simp) (.cons .int (.cons .int .nil))) (isR_rank o mx)
theorem r_law_due {K : PySem.W.Frag} {A : Ads} {E : XK} {vs : List V} {H : Hp} {Q : VK} (h : sp_law_due vs H Q E) : t_law_due K A E { nx := fun _ H' => Q .non H', rt := Q } (L2.start ["which", "rows", "part", "whole_one", "full", "totals", "tops", "means", "top", "ranks", "row", "one"] vs) H := by
  obtain ⟨k, v, W, p, w, rfl, ⟨a, xs, rfl, ha, pr⟩, hne, hl, hb, hk, p0, pw, w0, w1, kq⟩ := h
  unfold t_law_due
  have xl : xs.length ≤ 1000000 := by rw [paired_len pr]; omega
  refine seq1 ?_
  wide_line using [ha]
  refine lcL_pair (.of ha) pr xl (fun r => !decide (r = [])) (fun r y _ => ∃ t, y = V.ref t ∧ H t = some (.lst (r.map V.int))) (fun _ _ _ _ _ h => h) (fun i x r hi hr hF H1 s1 k1 k0 h1 h2 => ?_) fun D H1 fs hD s1 hDs pf => ?_
  · obtain ⟨t, rfl, ht⟩ := hF
    have ht1 := s1 _ _ ht
    unfold LcTurn
    wp_walk using ht1
    refine ⟨by rw [sizeLine_eq]; decide, fun q hq => neD_da (n := 1) (da_lints (same_new hq _ _ ht1) (by have := hb r (List.mem_of_getElem? hr); omega)) (da_nil upd_same) (by decide) ?_⟩
    rw [eqv_ints_nil]
    by_cases e : r = []
    · simp only [e, decide_true, Bool.not_true, Bool.false_eq_true, if_false]
      exact h2 (by simp [e]) _ (same_new hq)
    · simp only [e, decide_false, Bool.not_false, if_true]
      exact h1 (by simp [e]) _ _ (same_new hq) ⟨t, rfl, ht⟩
  have ha1 := s1 _ _ ha
  have wne : ∀ r ∈ W.filter (fun r => !decide (r = [])), r ≠ [] ∧ r ∈ W := fun r hr => by
    have := List.mem_filter.mp hr
    exact ⟨by simpa using this.2, this.1⟩
  have fl : fs.length ≤ 1000 := by rw [← paired_len pf]; exact Nat.le_trans (List.length_filter_le ..) hl
  have pf2 := paired_flip pf
  refine seq1 ?_
  wide_line using [ha1]
  refine ite2 (fun hk0 => ?_) fun hk0 => ?_
  · subst hk0
    refine seq1 ?_
    wide_line using [ha1]
    refine lcL_pair (.of ha1) pr xl (fun _ => true) (fun r y _ => ∃ g, y = V.int g ∧ ValI 0 p w r g) (fun _ _ _ _ _ h => h) (fun i x r hi hr hF H2 s2 k1 k0 h1 _ => ?_) fun D2 H2 ys hD2 s2 hDs2 py => ?_
    · obtain ⟨t, rfl, ht⟩ := hF
      have ht1 := s2 _ _ (s1 _ _ ht)
      unfold LcTurn
      wp_walk using ht1
      exact ⟨t, r, rfl, .of ht1, h1 rfl _ _ (Same.refl _) ⟨_, rfl, .inl ⟨rfl, rfl⟩⟩⟩
    rw [List.filter_eq_self.mpr (fun _ _ => rfl)] at py
    obtain ⟨rs, rfl, pg⟩ := paired_ints py
    have rl : 0 < rs.length := by rw [← paired_len pg]; exact List.length_pos_iff.mpr hne
    wp_walk using upd_same
    refine ⟨D2, rs, rfl, .of hDs2, rl, fun lo ml hlo => ⟨D2, rs, rfl, .of hDs2, rl, fun hi mh hhi => ⟨by rw [sizeLine_eq]; decide, fun q hq => ?_⟩⟩⟩
    exact kq _ _ (.nums lo hi) (s1.trans (s2.trans (same_new hq))) (.tup upd_same (by simp) (.cons .int (.cons .int .nil))) ⟨.inl rfl, ext_of pg ml hlo mh hhi⟩
  have hDn : ∀ H2, Same H1 H2 → H2 D = some (.lst fs) := fun H2 s => s _ _ hDs
  refine seq1 ?_
  wide_line using [upd_same]
  refine ⟨by rw [sizeLine_eq]; decide, fun q hq => ?_⟩
  have sq := same_new (o := .lst []) hq
  have lastk : ∀ (kk : Int), k = kk → kk ≠ 0 → (kk = 1 ∨ kk = 3) → W.filter (fun r => !decide (r = [])) ≠ [] → ∀ (H2 : Hp) (D2 : Addr) (ys : List V), Same H1 H2 → H2 D2 = some (.lst ys) → Paired (fun r y => ∃ g, y = V.int g ∧ ValI kk p w r g) (W.filter (fun r => !decide (r = []))) ys →
      ∃ rs : List Int, ys = rs.map V.int ∧ 0 < rs.length ∧ ∀ lo hi q, lo ∈ rs → (∀ y ∈ rs, lo ≤ y) → hi ∈ rs → (∀ y ∈ rs, y ≤ hi) → H2 q = none → Q (.ref q) (upd H2 q (.tup [.int lo, .int hi])) := by
    intro kk e hk0 hk1 hfne H2 D2 ys s2 hDs2 py
    subst e
    obtain ⟨rs, rfl, pg⟩ := paired_ints py
    refine ⟨rs, rfl, by rw [← paired_len pg]; exact List.length_pos_iff.mpr hfne, fun lo hi q ml hlo mh hhi hq => ?_⟩
    exact kq _ _ (.nums lo hi) (s1.trans (s2.trans (same_new hq))) (.tup upd_same (by simp) (.cons .int (.cons .int .nil))) ⟨by rcases hk1 with h | h <;> omega, ext_full hk0 (ext_of pg ml hlo mh hhi)⟩
  have daf : Da (upd H1 q (.lst [])) 2 (.ref D) (.list ((W.filter (fun r => !decide (r = []))).map fun r => PyData.list (r.map PyData.int))) := by
    refine .lst (sq _ _ hDs) (by omega) (paired_mapR (paired_flip (paired_mem pf fun r y hr ⟨t, e, ht⟩ => ?_)))
    rw [e]
    exact da_lints (sq _ _ (s1 _ _ ht)) (by have := hb r (wne r hr).2; omega)
  have tupF : ∀ (H2 : Hp), Same H1 H2 → ∀ r y, r ∈ W.filter (fun r => !decide (r = [])) → (∃ t, y = V.ref t ∧ H t = some (.lst (r.map V.int))) → ∃ t, y = V.ref t ∧ H2 t = some (.lst (r.map V.int)) := fun H2 s2 r y _ ⟨t, e, ht⟩ => ⟨t, e, s2 _ _ (s1 _ _ ht)⟩
  refine eqD_da daf (da_nil (n := 1) upd_same) (by decide) ?_
  have fle : fs.length ≤ 1000000 := by omega
  by_cases hfe : W.filter (fun r => !decide (r = [])) = []
  · rw [hfe]
    have e0 : PyData.eqv (.list (List.map (fun r : List Int => PyData.list (r.map PyData.int)) [])) (.list []) = true := eqv_nil_nil
    simp only [e0, if_true]
    refine kq _ _ .non (s1.trans sq) da_none ⟨hk0, fun r hr => ?_⟩
    by_cases e : r = []
    · exact e
    · have : r ∈ W.filter (fun r => !decide (r = [])) := List.mem_filter.mpr ⟨hr, by simp [e]⟩
      rw [hfe] at this
      simp at this
  · have e0 : PyData.eqv (.list ((W.filter (fun r => !decide (r = []))).map fun r => PyData.list (r.map PyData.int))) (.list []) = false := by
      cases hw : W.filter (fun r => !decide (r = [])) with
      | nil => exact (hfe hw).elim
      | cons r0 rr => exact eqv_cons_nil
    simp only [e0, Bool.false_eq_true, if_false]
    generalize upd H1 q (.lst []) = H2 at *
    have hD2 := sq _ _ hDs
    refine seq1 ?_
    wide_line using [upd_same]
    refine ite2 (fun hk1 => ?_) fun hk1 => ?_
    · refine seq1 ?_
      wide_line using [hD2]
      refine lcL_pair (.of hD2) pf2 fle (fun _ => true) (fun r y _ => ∃ g, y = V.int g ∧ ValI 1 p w r g) (fun _ _ _ _ _ h => h) (fun i x r hi hr hF H3 s3 k1 k0 h1 _ => ?_) fun D3 H3 ys hD3 s3 hDs3 py => ?_
      · obtain ⟨t, rfl, ht⟩ := hF
        have ht1 := s3 _ _ (sq _ _ (s1 _ _ ht))
        have hrn := (wne r (List.mem_of_getElem? hr)).1
        unfold LcTurn
        wp_walk using ht1
        exact ⟨t, r, rfl, .of ht1, List.length_pos_iff.mpr hrn, fun g mg hg => h1 rfl _ _ (Same.refl _) ⟨_, rfl, .inr (.inl ⟨rfl, mg, hg⟩)⟩⟩
      rw [List.filter_eq_self.mpr (fun _ _ => rfl)] at py
      obtain ⟨rs, rfl, rl, lk⟩ := lastk 1 hk1 (by decide) (.inl rfl) hfe H3 D3 ys (sq.trans s3) hDs3 py
      wp_walk using upd_same
      exact ⟨D3, rs, rfl, .of hDs3, rl, fun lo ml hlo => ⟨D3, rs, rfl, .of hDs3, rl, fun hi mh hhi => ⟨by rw [sizeLine_eq]; decide, fun q2 hq2 => lk lo hi q2 ml hlo mh hhi hq2⟩⟩⟩
    · refine seq1 ?_
      wide_line using [upd_same]
      refine ite2 (fun hk2 => ?_) fun hk2 => ?_
      · refine seq1 ?_
        wide_line using [hD2]
        refine lcL_pair (.of hD2) pf2 fle (fun _ => true) (fun r y H' => PrI H' y (low2 r.sum r.length)) (fun _ _ _ _ kt ⟨t, e, ht⟩ => ⟨t, e, kt _ _ ht⟩) (fun i x r hi hr hF H3 s3 k1 k0 h1 _ => ?_) fun D3 H3 ys hD3 s3 hDs3 py => ?_
        · obtain ⟨t, rfl, ht⟩ := hF
          have ht1 := s3 _ _ (sq _ _ (s1 _ _ ht))
          obtain ⟨hrn, hrw⟩ := wne r (List.mem_of_getElem? hr)
          have := hb r hrw
          have := List.length_pos_iff.mpr hrn
          unfold LcTurn
          wp_walk using ht1
          refine ⟨t, r, rfl, .of ht1, ?_⟩
          simp only [ht1, seqAt_lst, List.length_map]
          exact ⟨_, _, rfl, by omega, by omega, fun a ha => h1 rfl _ _ (same_new ha) ⟨a, rfl, upd_same⟩⟩
        rw [List.filter_eq_self.mpr (fun _ _ => rfl)] at py
        have lenB : ∀ r ∈ W.filter (fun r => !decide (r = [])), (0 : Int) < r.length ∧ (r.length : Int) < 1000 := fun r hr => by
          have := hb r (wne r hr).2
          have := List.length_pos_iff.mpr (wne r hr).1
          omega
        generalize hW' : W.filter (fun r => !decide (r = [])) = W' at *
        have pq : Paired (fun y q => PrI H3 y q) ys (W'.map fun r => low2 r.sum r.length) := paired_mapR (paired_flip py)
        have qok : ∀ q ∈ W'.map fun r => low2 r.sum r.length, FrOk q := by
          intro q hq
          obtain ⟨r, hr, rfl⟩ := List.mem_map.mp hq
          obtain ⟨b1, b2⟩ := lenB r hr
          have := low2_le (p := r.sum) b1
          exact ⟨low2_pos b1, by omega⟩
        have qmem : ∀ q ∈ W'.map fun r => low2 r.sum r.length, ∃ r ∈ W', q = low2 r.sum r.length := fun q hq => by
          obtain ⟨r, hr, rfl⟩ := List.mem_map.mp hq
          exact ⟨r, hr, rfl⟩
        have qall : ∀ r ∈ W', low2 r.sum r.length ∈ W'.map fun r => low2 r.sum r.length := fun r hr => List.mem_map.mpr ⟨r, hr, rfl⟩
        have qne : (W'.map fun r => low2 r.sum r.length) ≠ [] := by simpa using hfe
        have ql : (W'.map fun r => low2 r.sum r.length).length ≤ 1000 := by rw [List.length_map, paired_len pf]; omega
        generalize (W'.map fun r => low2 r.sum r.length) = qs at *
        have yl : ys.length ≤ 1000000 := by rw [paired_len pq]; omega
        refine seq1 ?_
        wide_line using [hDs3]
        refine lcL_pair (.of hDs3) pq yl (fun _ => true) (fun q y H' => PrI H' y (0 - q.1, q.2)) (fun _ _ _ _ kt ⟨t, e, ht⟩ => ⟨t, e, kt _ _ ht⟩) (fun i x q hi hq hF H4 s4 k1 k0 h1 _ => ?_) fun D4 H4 ys4 hD4 s4 hDs4 py4 => ?_
        · obtain ⟨t, rfl, ht⟩ := hF
          have ht1 := s4 _ _ ht
          unfold LcTurn
          wp_walk using ht1
          exact ⟨by rw [sizeLine_eq]; decide, fun q2 hq2 => h1 rfl _ _ (same_new hq2) ⟨q2, rfl, upd_same⟩⟩
        rw [List.filter_eq_self.mpr (fun _ _ => rfl)] at py4
        have pn : Paired (fun y q => PrI H4 y q) ys4 (qs.map fun q => (0 - q.1, q.2)) := paired_mapR (paired_flip py4)
        refine ⟨D4, ys4, _, rfl, hDs4, pn, by simpa using qne, fun q hq => ?_, fun tv tq ⟨tt, e, htt⟩ mt ht => ?_⟩
        · obtain ⟨q', hq', rfl⟩ := List.mem_map.mp hq
          exact qok q' hq'
        subst e
        obtain ⟨top, mtop, rfl⟩ := List.mem_map.mp mt
        have hD34 := s4 _ _ hDs3
        wp_walk using htt, hD34
        refine ⟨D3, ys, qs, rfl, hD34, Paired.mapP pq fun _ _ ⟨t, e, ht⟩ => ⟨t, e, s4 _ _ ht⟩, qne, qok, fun lv lq plv ml hlq => ?_⟩
        wp_walk using htt
        refine ⟨by rw [sizeLine_eq]; decide, fun p1 hp1 => ⟨by rw [sizeLine_eq]; decide, fun p2 hp2 => ?_⟩⟩
        have e5 : (0 : Int) - (0 - top.1) = top.1 := by omega
        obtain ⟨lt, rfl, hlt⟩ := plv
        refine kq _ _ (.fras lq top) (s1.trans (sq.trans (s3.trans (s4.trans ((same_new hp1).trans (same_new hp2)))))) (.tup upd_same (by simp) (.cons ?_ (.cons ?_ .nil))) ⟨hk2, ?_, (qok _ ml).2, (qok _ mtop).2⟩
        · exact .tup (same_new hp2 _ _ (same_new hp1 _ _ hlt)) (by simp) (.cons .int (.cons .int .nil))
        · refine .tup (same_new hp2 _ _ upd_same) (by simp) (.cons ?_ (.cons .int .nil))
          rw [e5]
          exact .int
        · subst hW'
          refine extF_full (extF_of (fun r hr => (wne r hr).1) (qmem _ ml) (qmem _ mtop) fun r hr => ⟨hlq _ (qall r hr), ?_⟩)
          have := ht (0 - (low2 r.sum r.length).1, (low2 r.sum r.length).2) (List.mem_map.mpr ⟨_, qall r hr, rfl⟩)
          simp only at this
          grind
      · refine seq1 ?_
        wide_line using [hD2]
        refine lcL_pair (.of hD2) pf2 fle (fun _ => true) (fun r y _ => ∃ g, y = V.int g ∧ ValI 3 p w r g) (fun _ _ _ _ _ h => h) (fun i x r hi hr hF H3 s3 k1 k0 h1 _ => ?_) fun D3 H3 ys hD3 s3 hDs3 py => ?_
        · obtain ⟨t, rfl, ht⟩ := hF
          have ht1 := s3 _ _ (sq _ _ (s1 _ _ ht))
          obtain ⟨hrn, hrw⟩ := wne r (List.mem_of_getElem? hr)
          have := hb r hrw
          unfold LcTurn
          wp_walk using ht1
          exact ⟨t, r, p, w, rfl, ht1, hrn, p0, pw, w0, w1, by omega, fun g H' s' hg => h1 rfl _ _ s' ⟨_, rfl, .inr (.inr ⟨rfl, hg⟩)⟩⟩
        rw [List.filter_eq_self.mpr (fun _ _ => rfl)] at py
        obtain ⟨rs, rfl, rl, lk⟩ := lastk 3 (by omega) (by decide) (.inr rfl) hfe H3 D3 ys (sq.trans s3) hDs3 py
        wp_walk using upd_same
        exact ⟨D3, rs, rfl, .of hDs3, rl, fun lo ml hlo => ⟨D3, rs, rfl, .of hDs3, rl, fun hi mh hhi => ⟨by rw [sizeLine_eq]; decide, fun q2 hq2 => lk lo hi q2 ml hlo mh hhi hq2⟩⟩⟩
theorem r_law_narrower {K : PySem.W.Frag} {A : Ads} {E : XK} {vs : List V} {H : Hp} {Q : VK} (h : sp_law_narrower vs H Q E) : t_law_narrower K A E { nx := fun _ H' => Q .non H', rt := Q } (L2.start ["draws", "numbers", "part", "whole_one", "more", "fewest", "most", "low", "high", "ends_one", "turn", "later", "last", "which", "k", "pair"] vs) H := by
  obtain ⟨d, a, t, ns, p, w, o, rfl, hd, ha, nad, ht, m5, p0, pw, w0, w1, hl, kq⟩ := h
  unfold t_law_narrower
  have f0 := o.f0; have fm := o.fm; have lh := o.lh
  refine seq1 ?_
  wide_line using [ht]
  refine seq1 ?_
  wide_line using [ht]
  refine ends4_lc (p := p) (w := w) (R := Rows ns o.f o.m o.l o.h) (fun i hi H1 s1 k1 k0 h1 => ?_) fun e H1 hD s1 E1 => ?_
  · have ha1 := s1 _ _ ha
    have ht1 := s1 _ _ ht
    unfold LcTurn
    wp_walk using ha1
    exact told_good o ha1 ht1 (r4 hi) p0 pw w0 w1 (by omega) fun v H' r s' dd ir => h1 _ _ s' ⟨r, dd, ir⟩
  have hd1 : DrawsAt H1 d := by obtain ⟨ms, hm⟩ := hd; exact ⟨ms, s1 _ _ hm⟩
  have ned : e ≠ d := by obtain ⟨ms, hm⟩ := hd; rintro rfl; rw [hm] at hD; cases hD
  have kp1 : Keep [d] H H1 := .same s1
  have ha1 := s1 _ _ ha
  have ht1 := s1 _ _ ht
  refine seq1 ?_
  wide_line using [upd_same]
  obtain ⟨ms, hm1⟩ := hd1
  refine ⟨d, ms, o.m - o.f + 1, rfl, hm1, by omega, fun r ms2 r0 r1 => ⟨⟨by omega, by omega⟩, ?_⟩⟩
  have kp2 : Keep [d] H1 (upd H1 d (.lst (ms2.map V.int))) := keep_up (by simp)
  have hd2 : DrawsAt (upd H1 d (.lst (ms2.map V.int))) d := ⟨ms2, upd_same⟩
  have E2 := E1.keep kp2 ⟨ms, hm1⟩ ned
  have ha2 := kp2 _ _ ha1 (by simpa using nad)
  have kpA := kp1.trans kp2
  generalize upd H1 d (.lst (ms2.map V.int)) = H2 at *
  clear E1 kp1 kp2 ha1 ht1
  refine forR_to (fun i σ H' => Keep [d] H H' ∧ DrawsAt H' d ∧ ∃ (a e : Addr) (ns' : List Int) (o' : More) (z1 z2 : Option V), σ = [some (.ref d), some (.ref a), some (.int p), some (.int w), some (.ref t), some (.int o'.f), some (.int o'.m), some (.int o.l), some (.int o.h), some (.ref e), z1, z2, none, none, none, none] ∧
      H' a = some (.lst (ns'.map V.int)) ∧ a ≠ d ∧ e ≠ d ∧ ns'.length = ns.length + i ∧ o'.m = o.m - i ∧ o'.l = o.l ∧ o'.h = o.h ∧ Ends4 H' e p w (Rows ns' o'.f o'.m o.l o.h))
    (fun σ H' => Keep [d] H H' ∧ DrawsAt H' d ∧ ∃ (a e : Addr) (ns' : List Int) (x y : V) (z1 z2 : Option V), σ = [some (.ref d), some (.ref a), some (.int p), some (.int w), some (.ref t), some x, some y, some (.int o.l), some (.int o.h), some (.ref e), z1, z2, none, none, none, none] ∧
      H' a = some (.lst (ns'.map V.int)) ∧ a ≠ d ∧ ns'.length ≤ 100) ⟨kpA, hd2, a, e, ns, o, none, none, rfl, ha2, nad, ned, by simp, by simp, rfl, rfl, E2⟩ ?_ ?_ ?_
  · rintro σ H' ⟨kp, hd, a, e, ns', o', z1, z2, rfl, ha, na, ne, hl', hm', _, _, _⟩
    exact ⟨kp, hd, a, e, ns', _, _, z1, z2, rfl, ha, na, by omega⟩
  · rintro σ H' ⟨kp, hd, a, e, ns', x, y, z1, z2, rfl, ha, na, hl'⟩
    refine seq1 ?_
    wide_line using [upd_same]
    refine ends4_lc (p := p) (w := w) (R := Rows ns' 0 0 o.l o.h) (fun i hi H6 s6 k1 k0 h1 => ?_) fun e2 H6 hD6 s6 E6 => ?_
    · have ha6 := s6 _ _ ha
      unfold LcTurn
      wp_walk using ha6
      refine ⟨by rw [sizeLine_eq]; decide, fun q hq => ?_⟩
      exact told_good (More.zero o) (same_new hq _ _ ha6) upd_same (r4 hi) p0 pw w0 w1 hl' fun v H7 r' s' dd ir => h1 _ _ ((same_new hq).trans s') ⟨r', dd, ir⟩
    have ha6 := s6 _ _ ha
    have kpE := kp.trans (.same s6)
    have hd6 : DrawsAt H6 d := by obtain ⟨ms, hm⟩ := hd; exact ⟨ms, s6 _ _ hm⟩
    have fin : ∀ H7, Same H6 H7 → Q (.bl true) H7 := fun H7 s7 => kq H7 (kpE.trans (.same s7)) (by obtain ⟨ms, hm⟩ := hd6; exact ⟨ms, s7 _ _ hm⟩)
    obtain ⟨ys, hy, pr⟩ := E6
    have yl := paired_len pr
    simp at yl
    obtain ⟨y0, y1, y2, y3, rfl⟩ : ∃ y0 y1 y2 y3, ys = [y0, y1, y2, y3] := by
      match ys, yl with
      | [y0, y1, y2, y3], _ => exact ⟨_, _, _, _, rfl⟩
    obtain ⟨q0, hq0, r0, d0, i0⟩ := pairedGet (paired_flip pr) (i := 0) (x := y0) rfl
    obtain ⟨q1, hq1, r1, d1, i1⟩ := pairedGet (paired_flip pr) (i := 1) (x := y1) rfl
    obtain ⟨q2, hq2, r2, d2, i2⟩ := pairedGet (paired_flip pr) (i := 2) (x := y2) rfl
    obtain ⟨q3, hq3, r3, d3, i3⟩ := pairedGet (paired_flip pr) (i := 3) (x := y3) rfl
    simp [List.range_succ] at hq0 hq1 hq2 hq3
    subst hq0 hq1 hq2 hq3
    refine seq1 ?_
    wide_line using [ha6]
    refine ⟨by rw [sizeLine_eq]; decide, fun q hq => ?_⟩
    have sq := same_new (o := .lst []) hq
    refine eqD_da (n := 1) (da_lints (sq _ _ ha6) (by omega)) (da_nil upd_same) (by decide) ?_
    rw [eqv_ints_nil]
    have hy2 := sq _ _ hy
    have ha7 := sq _ _ ha6
    generalize upd H6 q (.lst []) = H7 at *
    by_cases e0 : ns' = []
    · simp only [e0, decide_true, if_true]
      subst e0
      have z : ∀ (k : Int) (r : Rs), k ≠ 0 → IsR k p w (Rows [] 0 0 o.l o.h) r → r = .non := fun k r hk hr => isR_uniq hr (isR_none (More.zero o) hk rfl)
      have z1 := z _ _ (by decide) i1
      have z2 := z _ _ (by decide) i2
      have z3 := z _ _ (by decide) i3
      subst z1 z2 z3
      have v1 : y1 = .str "none" := Da.str_inv d1
      have v2 : y2 = .str "none" := Da.str_inv d2
      have v3 : y3 = .str "none" := Da.str_inv d3
      subst v1 v2 v3
      wp_walk using hy2
      have ec : cutV [y0, V.str "none", V.str "none", V.str "none"] (some 1) none = [V.str "none", V.str "none", V.str "none"] := cutV_from (k := 1)
      rw [ec]
      refine fun pa hpa => ⟨by rw [sizeLine_eq]; decide, fun pb hpb => ⟨by decide, by decide, by rw [sizeLine_eq]; decide, fun pc hpc => ?_⟩⟩
      have sC := ((same_new (o := .lst [V.str "none", V.str "none", V.str "none"]) hpa).trans (same_new (o := .lst [V.str "none"]) hpb)).trans (same_new (o := .lst (List.replicate (Int.toNat 3) [V.str "none"]).flatten) hpc)
      have dn : ∀ {H : Hp}, Da H 0 (.str "none") (.str "none") := .str (by decide +kernel)
      refine eqD_same (n := 1) (d := .list [.str "none", .str "none", .str "none"]) (.lst (same_new hpc _ _ (same_new hpb _ _ upd_same)) (by decide) (.cons dn (.cons dn (.cons dn .nil)))) (.lst upd_same (by decide) (.cons dn (.cons dn (.cons dn .nil)))) (by decide) ?_
      exact fin _ ((sq.trans sC))
    · simp only [e0, decide_false, Bool.false_eq_true, if_false]
      obtain ⟨n0, sm0, t0, _⟩ := isR_point e0 i0
      obtain ⟨n1, sm1, _, t1⟩ := isR_point e0 i1
      obtain ⟨n2, sm2, _, _⟩ := isR_point e0 i2
      obtain ⟨n3, sm3, _, _⟩ := isR_point e0 i3
      wide_line using [hy2]
      have se : ∀ (y : V) (r : Rs), (y, r) ∈ [(y0, r0), (y1, r1), (y2, r2), (y3, r3)] → Da H7 2 y r.data ∧ r ≠ .non ∧ r.same = true := by
        intro y r hm
        simp at hm
        rcases hm with ⟨rfl, rfl⟩ | ⟨rfl, rfl⟩ | ⟨rfl, rfl⟩ | ⟨rfl, rfl⟩
        · exact ⟨d0.same sq, n0, sm0⟩
        · exact ⟨d1.same sq, n1, sm1⟩
        · exact ⟨d2.same sq, n2, sm2⟩
        · exact ⟨d3.same sq, n3, sm3⟩
      have sm : ∀ y ∈ [y0, y1, y2, y3], ∃ r : Rs, Da H7 2 y r.data ∧ r ≠ .non ∧ r.same = true := by
        intro y hm
        simp at hm
        rcases hm with rfl | rfl | rfl | rfl
        · exact ⟨r0, se _ _ (by simp)⟩
        · exact ⟨r1, se _ _ (by simp)⟩
        · exact ⟨r2, se _ _ (by simp)⟩
        · exact ⟨r3, se _ _ (by simp)⟩
      refine lcL_core (.of hy2) (by simp) (fun _ => false) (fun _ _ _ => False) (fun _ _ _ _ _ h => h) (fun v hv H8 s8 k1 k0 _ h2 => ?_) fun D8 H8 ys8 hD8 s8 hDs8 pr8 => ?_
      · obtain ⟨r, dr, rn, rs⟩ := sm v hv
        unfold LcTurn
        wp_walk using upd_same
        refine ⟨v, r, rfl, dr.same s8, rn, ?_⟩
        rw [rs]
        exact h2 rfl _ (Same.refl _)
      have hn8 : ys8 = [] := by
        rw [List.filter_eq_nil_iff.mpr (by simp)] at pr8
        cases pr8
        rfl
      subst hn8
      refine ⟨by rw [sizeLine_eq]; decide, fun p1 hp1 => ?_⟩
      have s9 := s8.trans (same_new (o := .lst []) hp1)
      refine eqD_same (n := 1) (da_nil (same_new hp1 _ _ hDs8)) (da_nil upd_same) (by decide) ?_
      generalize upd H8 p1 (.lst []) = H9 at *
      have hy9 := s9 _ _ hy2
      have ha9 := s9 _ _ ha7
      wp_walk using hy9
      refine ⟨a, ns', rfl, .of ha9, by rw [sizeLine_eq]; decide, fun p2 hp2 => ⟨by decide, fun p3 hp3 => ?_⟩⟩
      have er0 := t0 rfl
      have sD := (same_new (o := .tup [V.int ns'.sum]) hp2).trans (same_new (o := .tup (List.replicate (Int.toNat 2) [V.int ns'.sum]).flatten) hp3)
      refine eqD_same (n := 2) (d := (Rs.nums ns'.sum ns'.sum).data) (by rw [← er0]; exact d0.same (sq.trans (s9.trans sD))) (.tup upd_same (by simp) (.cons .int (.cons .int .nil))) (by decide) ?_
      generalize upd (upd H9 p2 (.tup [V.int ns'.sum])) p3 (.tup (List.replicate (Int.toNat 2) [V.int ns'.sum]).flatten) = H10 at *
      have hy10 := sD _ _ hy9
      have ha10 := sD _ _ ha9
      wp_walk using hy10
      refine ⟨a, ns', rfl, .of ha10, List.length_pos_iff.mpr e0, fun g mg hg => ⟨by rw [sizeLine_eq]; decide, fun p4 hp4 => ⟨by decide, fun p5 hp5 => ?_⟩⟩⟩
      have er1 := t1 g rfl mg hg
      have sE := (same_new (o := .tup [V.int g]) hp4).trans (same_new (o := .tup (List.replicate (Int.toNat 2) [V.int g]).flatten) hp5)
      refine eqD_same (n := 2) (d := (Rs.nums g g).data) (by rw [← er1]; exact d1.same (sq.trans (s9.trans (sD.trans sE)))) (.tup upd_same (by simp) (.cons .int (.cons .int .nil))) (by decide) ?_
      exact fin _ (sq.trans (s9.trans (sD.trans sE)))
  · rintro N nx hnx i σ H' hi hN ⟨kp, ⟨ms, hm⟩, a, e, ns', ⟨f', m', l', h', g1, g2, g3, g4, g5, g6⟩, z1, z2, rfl, ha, na, ne, hl', hm', el, eh, E4⟩
    simp only at hm' el eh E4
    subst el eh
    have mpos : 0 < m' := by omega
    refine seq1 ?_
    wide_line using [upd_same]
    refine ⟨d, ms, o.h - o.l + 1, rfl, hm, by omega, fun r ms2 r0 r1 => ?_⟩
    have kp2 : Keep [d] H' (upd H' d (.lst (ms2.map V.int))) := keep_up (by simp)
    have hd3 : upd H' d (.lst (ms2.map V.int)) d = some (.lst (ms2.map V.int)) := upd_same
    have E43 := E4.keep kp2 ⟨ms, hm⟩ ne
    have ha3 := kp2 _ _ ha (by simpa using na)
    have kpB := kp.trans kp2
    generalize upd H' d (.lst (ms2.map V.int)) = H3 at *
    try (wide_line using [upd_same])
    refine ⟨by rw [sizeLine_eq]; decide, fun p1 hp1 => ?_⟩
    have np1 : a ≠ p1 := ne_of_none ha3 hp1
    wide_line using [np1, ha3]
    refine ⟨by rw [sizeLine_eq, List.length_map]; omega, fun p2 hp2 => ?_⟩
    have em : ns'.map V.int ++ [V.int (o.l + r)] = (ns' ++ [o.l + r]).map V.int := by simp
    rw [em]
    have sA := (same_new (o := .lst [V.int (o.l + r)]) hp1).trans (same_new (o := .lst ((ns' ++ [o.l + r]).map V.int)) hp2)
    have hp2n : p2 ≠ d := fun z => by rw [z, upd_fresh] at hp2; rw [hd3] at hp2; cases hp2.2
    have ha4 : upd (upd H3 p1 (.lst [V.int (o.l + r)])) p2 (.lst ((ns' ++ [o.l + r]).map V.int)) p2 = some (.lst ((ns' ++ [o.l + r]).map V.int)) := upd_same
    generalize upd (upd H3 p1 (.lst [V.int (o.l + r)])) p2 (.lst ((ns' ++ [o.l + r]).map V.int)) = H4 at *
    have E44 := E43.same sA
    have hd4 := sA _ _ hd3
    have kpC := kpB.trans (.same sA)
    refine seq1 ?_
    wide_line using [upd_same]
    refine ⟨by rw [sizeLine_eq]; decide, fun p3 hp3 => ?_⟩
    have sB := same_new (o := .tup [V.int (if f' - 1 > 0 then f' - 1 else 0), V.int (m' - 1)]) hp3
    try (wide_line using [upd_same])
    generalize upd H4 p3 (.tup [V.int (if f' - 1 > 0 then f' - 1 else 0), V.int (m' - 1)]) = H5 at *
    have E45 := E44.same sB
    have hd5 := sB _ _ hd4
    have ha5 := sB _ _ ha4
    have kpD := kpC.trans (.same sB)
    refine seq1 ?_
    wide_line using [upd_same]
    refine ends4_lc (p := p) (w := w) (R := Rows (ns' ++ [o.l + r]) (if 0 < f' - 1 then f' - 1 else 0) (m' - 1) o.l o.h) (fun i hi H6 s6 k1 k0 h1 => ?_) fun e2 H6 hD6 s6 E6 => ?_
    · have ha6 := s6 _ _ ha5
      unfold LcTurn
      wp_walk using ha6
      refine ⟨by rw [sizeLine_eq]; decide, fun q hq => ?_⟩
      exact told_good (More.next ⟨f', m', o.l, o.h, g1, g2, g3, g4, g5, g6⟩ mpos) (same_new hq _ _ ha6) upd_same (r4 hi) p0 pw w0 w1 (by simp; omega) fun v H7 r' s' dd ir => h1 _ _ ((same_new hq).trans s') ⟨r', dd, ir⟩
    have E46 := E45.same s6
    have hd6 := s6 _ _ hd5
    have ha6 := s6 _ _ ha5
    have ne2 : e2 ≠ d := by rintro rfl; rw [hd5] at hD6; cases hD6
    have kpE := kpD.trans (.same s6)
    have ex : ∃ r', Rows (ns' ++ [o.l + r]) (if 0 < f' - 1 then f' - 1 else 0) (m' - 1) o.l o.h r' ∧ r' ≠ [] := by
      obtain ⟨r', hr⟩ := rows_ex (ns := ns' ++ [o.l + r]) (More.next ⟨f', m', o.l, o.h, g1, g2, g3, g4, g5, g6⟩ mpos).f0 (More.next ⟨f', m', o.l, o.h, g1, g2, g3, g4, g5, g6⟩ mpos).fm lh
      refine ⟨r', hr, ?_⟩
      obtain ⟨xs, _, rfl⟩ := hr
      simp
    have sub : ∀ r', Rows (ns' ++ [o.l + r]) (if 0 < f' - 1 then f' - 1 else 0) (m' - 1) o.l o.h r' → Rows ns' f' m' o.l o.h r' := fun r' hr => rows_next (by omega) (by omega) hr
    obtain ⟨ys1, hy1, pr1⟩ := E46
    obtain ⟨ys2, hy2, pr2⟩ := E6
    have E6 : Ends4 H6 e2 p w (Rows (ns' ++ [o.l + r]) (if 0 < f' - 1 then f' - 1 else 0) (m' - 1) o.l o.h) := ⟨ys2, hy2, pr2⟩
    refine seq1 ?_
    wide_line using [upd_same]
    refine ⟨⟨by omega, by omega⟩, ?_⟩
    refine lcR_core ?_ (fun _ => false) (fun i y _ => False) (fun _ _ _ _ _ h => h) (fun i hi H7 s7 k1 k0 _ h2 => ?_) fun D7 H7 ys7 hD7 s7 hDs7 pr7 => ?_
    · decide
    · have hi4 : i < 4 := hi
      have hyA := s7 _ _ hy1
      have hyB := s7 _ _ hy2
      have l1 := paired_len pr1
      have l2 := paired_len pr2
      have ri : (List.range 4)[i]? = some i := by simp [hi4]
      obtain ⟨y1, hy1i, r1, d1, i1⟩ := pairedGet pr1 ri
      obtain ⟨y2, hy2i, r2, d2, i2⟩ := pairedGet pr2 ri
      unfold LcTurn
      wp_walk using hyA, hyB
      rw [Int.zero_add]
      refine atK_nat hy1i ?_
      refine neD_da (n := 2) (d1.same s7) (.str (by decide +kernel)) (by decide) ?_
      rw [eqv_none]
      by_cases e0 : r1 = .non
      · simp only [e0, decide_true, Bool.not_true, Bool.false_eq_true, if_false]
        exact h2 rfl _ (Same.refl _)
      · simp only [e0, decide_false, Bool.not_false, if_true]
        simp only [hyA, hyB, seqAt_lst]
        refine atK_nat hy2i ?_
        refine atK_nat hy1i ?_
        refine ⟨y2, y1, r2, r1, rfl, d2.same s7, d1.same s7, isR_within sub i2 i1 ex, isR_fr i2, isR_fr i1, ?_⟩
        exact h2 rfl _ (Same.refl _)
    · have hn : ys7 = [] := by
        rw [List.filter_eq_nil_iff.mpr (by simp)] at pr7
        cases pr7
        rfl
      subst hn
      refine ⟨by rw [sizeLine_eq]; decide, fun q hq => ?_⟩
      have s8 := s7.trans (same_new (o := .lst []) hq)
      refine neD_da (n := 1) (da_nil (same_new hq _ _ hDs7)) (da_nil upd_same) (by decide) ?_
      simp only [eqv_nil_nil, Bool.not_true, Bool.false_eq_true, if_false]
      have E8 := E6.same s8
      have kpF := kpE.trans (.same s8)
      have hd8 := s8 _ _ hd6
      have ha8 := s8 _ _ ha6
      try (wide_line using [upd_same])
      refine hN _ _ ⟨kpF, ⟨_, hd8⟩, p2, e2, ns' ++ [o.l + r], More.next ⟨f', m', o.l, o.h, g1, g2, g3, g4, g5, g6⟩ mpos, _, _, rfl, ha8, hp2n, ne2, by simp; omega, ?_, rfl, rfl, E8⟩
      show m' - 1 = o.m - ((i + 1 : Nat) : Int)
      omega
theorem take_on {H : Hp} {d : Addr} {b : Int} {Q : VK} {E : XK} (h : DrawsAt H d) (hb : 0 < b) (q : ∀ r H', 0 ≤ r → r < b → Keep [d] H H' → DrawsAt H' d → Q (.int r) H') : sp_law_take [.ref d, .int b] H Q E := by
  obtain ⟨ms, hm⟩ := h
  exact ⟨d, ms, b, rfl, hm, hb, fun r ms' r0 r1 => q r _ r0 r1 (keep_up (by simp)) ⟨ms', upd_same⟩⟩
theorem r_law_areas {K : PySem.W.Frag} {A : Ads} {E : XK} {vs : List V} {H : Hp} {Q : VK} (F1 : WordOk K A A.OutOfRange "range") (h : sp_law_areas vs H Q E) : t_law_areas K A E { nx := fun _ H' => Q .non H', rt := Q } (L2.start ["draws", "low", "high", "time", "until", "area_one", "ends_one", "values", "a", "b", "c", "d", "e", "step"] vs) H := by
  obtain ⟨d, rfl, hd, kq⟩ := h
  unfold t_law_areas
  refine seq1 ?_
  try (wide_line using [upd_same])
  refine take_on hd (by decide) fun r1 H1 a1 b1 k1 d1 => ⟨by rw [sizeLine_eq]; decide, fun p1 hp1 => ?_⟩
  have k1 := k1.trans (.same (same_new (o := .tup [V.int (r1 - 4), V.int 0]) hp1))
  have d1 := d1.same (same_new (o := .tup [V.int (r1 - 4), V.int 0]) hp1)
  try (wide_line using [upd_same])
  generalize upd H1 p1 (.tup [V.int (r1 - 4), V.int 0]) = H1' at *
  refine seq1 ?_
  try (wide_line using [upd_same])
  refine take_on d1 (by decide) fun r2 H2 a2 b2 k2 d2 => ?_
  have k2 := k1.trans k2
  refine seq1 ?_
  try (wide_line using [upd_same])
  refine take_on d2 (by decide) fun r3 H3 a3 b3 k3 d3 => ?_
  have k3 := k2.trans k3
  refine seq1 ?_
  try (wide_line using [upd_same])
  refine take_on d3 (by decide) fun r4 H4 a4 b4 k4 d4 => ?_
  have k4 := k3.trans k4
  refine take_on d4 (by decide) fun r5 H5 a5 b5 k5 d5 => ?_
  have k5 := k4.trans k5
  refine seq1 ?_
  try (wide_line using [upd_same])
  refine ⟨r5, r3, r3 + r4, _, _, rfl, .inr (.inr (.inl ⟨_, rfl⟩)), .inr (.inr (.inl ⟨_, rfl⟩)), fun hb => (hb ⟨0, 0, _, _, rfl, rfl, rfl, rfl, by omega, by omega, by omega, by omega, by omega, by omega⟩).elim, fun li hi e1 e2 _ _ _ => ⟨fun hn => (hn ⟨by omega, by omega⟩).elim, fun _ _ q hq => ?_⟩⟩
  cases e1; cases e2
  have hq1 : upd H5 q (.tup [V.int (r5 + (r3 + r4 - r3) * (r1 - 4)), V.int (r5 + (r3 + r4 - r3) * (r1 - 4 + r2))]) q = some (.tup [V.int (r5 + (r3 + r4 - r3) * (r1 - 4)), V.int (r5 + (r3 + r4 - r3) * (r1 - 4 + r2))]) := upd_same
  have k6 := k5.trans (.same (same_new (o := .tup [V.int (r5 + (r3 + r4 - r3) * (r1 - 4)), V.int (r5 + (r3 + r4 - r3) * (r1 - 4 + r2))]) hq))
  have d6 := d5.same (same_new (o := .tup [V.int (r5 + (r3 + r4 - r3) * (r1 - 4)), V.int (r5 + (r3 + r4 - r3) * (r1 - 4 + r2))]) hq)
  have nqd : q ≠ d := fun e => d5.ne hq e.symm
  generalize upd H5 q _ = H6 at *
  refine seq1 ?_
  try (wide_line using [upd_same])
  refine ⟨⟨by omega, by omega⟩, ?_⟩
  have e4 : r3 + r4 - r3 = r4 := by omega
  rw [e4] at hq1 ⊢
  refine lcR_draw ?_ d6 (fun _ y => ∃ v, y = .int v ∧ r1 - 4 ≤ v ∧ v ≤ r1 - 4 + r2) (fun i hi H7 k7 d7 kk1 kk0 h1 => ?_) fun D H7 ys hD k7 d7 hDs pr => ?_
  · omega
  · unfold LcTurn
    wp_walk using upd_same
    exact take_on d7 (by omega) fun r H8 a8 b8 k8 d8 => h1 _ _ k8 d8 ⟨_, rfl, by omega, by omega⟩
  obtain ⟨vs, rfl, pv⟩ := paired_ints pr
  have vb : ∀ v ∈ vs, r1 - 4 ≤ v ∧ v ≤ r1 - 4 + r2 := fun v hv => by
    obtain ⟨_, _, h⟩ := paired_memR pv hv
    exact h
  have vl : (vs.length : Int) = r4 := by rw [← paired_len pv, List.length_range]; omega
  have hq7 := k7 _ _ hq1 (by simpa using nqd)
  have k7 := k6.trans k7
  refine seq1 ?_
  try (wide_line using [upd_same])
  refine ⟨.inl ⟨by omega, by omega⟩, .inl ⟨by omega, by omega⟩, by rw [sizeLine_eq]; decide, fun p2 hp2 => ?_⟩
  have e5 : (r1 - 4) * (r3 + r4 - r3) = r4 * (r1 - 4) := by rw [e4]; exact Int.mul_comm _ _
  have e6 : (r1 - 4 + r2) * (r3 + r4 - r3) = r4 * (r1 - 4 + r2) := by rw [e4]; exact Int.mul_comm _ _
  have sP := same_new (o := .tup [V.int (r5 + (r1 - 4) * (r3 + r4 - r3)), V.int (r5 + (r1 - 4 + r2) * (r3 + r4 - r3))]) hp2
  rw [e5, e6] at sP ⊢
  refine neD_same (n := 1) (d := .tuple [.int (r5 + r4 * (r1 - 4)), .int (r5 + r4 * (r1 - 4 + r2))]) (.tup (sP _ _ hq7) (by simp) (.cons .int (.cons .int .nil))) (.tup upd_same (by simp) (.cons .int (.cons .int .nil))) (by decide) ?_
  have hq8 := sP _ _ hq7
  have hD8 := sP _ _ hDs
  have k8 := k7.trans (.same sP)
  have d8 := d7.same sP
  generalize upd H7 p2 _ = H8 at *
  obtain ⟨w1, w2⟩ := way_sum vb
  rw [vl] at w1 w2
  simp only [Bool.false_eq_true, if_false]
  simp only [hq8, seqAt_tup, atK_zero, atK_one]
  refine ⟨D, vs, rfl, .of hD8, ?_⟩
  have c1 : r5 + r4 * (r1 - 4) ≤ r5 + vs.sum := by omega
  have c2 : r5 + vs.sum ≤ r5 + r4 * (r1 - 4 + r2) := by omega
  simp only [hq8, seqAt_tup, atK_zero, atK_one, c1, c2, if_true, decide_true, Bool.true_eq_false, if_false]
  refine seq1 ?_
  try (wide_line using [upd_same])
  have one : (4 : Nat) ≤ sizeLine := by rw [sizeLine_eq]; decide
  refine ⟨one, fun t1 ht1 => ⟨one, fun t2 ht2 => ⟨one, fun t3 ht3 => ⟨one, fun t4 ht4 => ⟨one, fun tl htl => ?_⟩⟩⟩⟩⟩
  have g1 : upd (upd (upd (upd (upd H8 t1 (.tup [V.int 5, V.int 4, V.int 0, V.int 1])) t2 (.tup [V.int (-1), V.int 4, V.int 0, V.int 1])) t3 (.tup [V.int 1, V.int 4, V.int 2, V.int 1])) t4 (.tup [V.int 1, V.int 4, V.non, V.int 1])) tl (.lst [V.ref t1, V.ref t2, V.ref t3, V.ref t4]) tl = some (.lst [V.ref t1, V.ref t2, V.ref t3, V.ref t4]) := upd_same
  have sQ := ((((same_new (o := .tup [V.int 5, V.int 4, V.int 0, V.int 1]) ht1).trans (same_new (o := .tup [V.int (-1), V.int 4, V.int 0, V.int 1]) ht2)).trans (same_new (o := .tup [V.int 1, V.int 4, V.int 2, V.int 1]) ht3)).trans (same_new (o := .tup [V.int 1, V.int 4, V.non, V.int 1]) ht4)).trans (same_new (o := .lst [V.ref t1, V.ref t2, V.ref t3, V.ref t4]) htl)
  have q4 := same_new (o := .lst [V.ref t1, V.ref t2, V.ref t3, V.ref t4]) htl _ _ (upd_same (a := t4) (o := .tup [V.int 1, V.int 4, V.non, V.int 1]))
  have q3 := same_new (o := .lst [V.ref t1, V.ref t2, V.ref t3, V.ref t4]) htl _ _ (same_new (o := .tup [V.int 1, V.int 4, V.non, V.int 1]) ht4 _ _ (upd_same (a := t3) (o := .tup [V.int 1, V.int 4, V.int 2, V.int 1])))
  have q2 := same_new (o := .lst [V.ref t1, V.ref t2, V.ref t3, V.ref t4]) htl _ _ (same_new (o := .tup [V.int 1, V.int 4, V.non, V.int 1]) ht4 _ _ (same_new (o := .tup [V.int 1, V.int 4, V.int 2, V.int 1]) ht3 _ _ (upd_same (a := t2) (o := .tup [V.int (-1), V.int 4, V.int 0, V.int 1]))))
  have q1 := same_new (o := .lst [V.ref t1, V.ref t2, V.ref t3, V.ref t4]) htl _ _ (same_new (o := .tup [V.int 1, V.int 4, V.non, V.int 1]) ht4 _ _ (same_new (o := .tup [V.int 1, V.int 4, V.int 2, V.int 1]) ht3 _ _ (same_new (o := .tup [V.int (-1), V.int 4, V.int 0, V.int 1]) ht2 _ _ (upd_same (a := t1) (o := .tup [V.int 5, V.int 4, V.int 0, V.int 1])))))
  generalize upd (upd (upd (upd (upd H8 t1 _) t2 _) t3 _) t4 _) tl _ = H9 at *
  have k9 := k8.trans (.same sQ)
  have d9 := d8.same sQ
  have bad : ∀ x ∈ [V.ref t1, V.ref t2, V.ref t3, V.ref t4], ∃ (t : Addr) (a b : Int) (c e : V), x = .ref t ∧ H9 t = some (.tup [.int a, .int b, c, e]) ∧ Scal c ∧ Scal e ∧ (¬ (0 ≤ a ∧ a ≤ b) ∨ ¬ MoreOk (.int 0) (.int 0) c e) := by
    intro x hx
    simp at hx
    rcases hx with rfl | rfl | rfl | rfl
    · exact ⟨t1, _, _, _, _, rfl, q1, .inr (.inr (.inl ⟨_, rfl⟩)), .inr (.inr (.inl ⟨_, rfl⟩)), .inl (by omega)⟩
    · exact ⟨t2, _, _, _, _, rfl, q2, .inr (.inr (.inl ⟨_, rfl⟩)), .inr (.inr (.inl ⟨_, rfl⟩)), .inl (by omega)⟩
    · refine ⟨t3, _, _, _, _, rfl, q3, .inr (.inr (.inl ⟨_, rfl⟩)), .inr (.inr (.inl ⟨_, rfl⟩)), .inr ?_⟩
      rintro ⟨_, _, li, hi, _, _, e1, e2, _, _, _, _, h, _⟩
      cases e1; cases e2
      exact absurd h (by decide)
    · refine ⟨t4, _, _, _, _, rfl, q4, .inl rfl, .inr (.inr (.inl ⟨_, rfl⟩)), .inr ?_⟩
      rintro ⟨_, _, li, hi, _, _, e1, _⟩
      cases e1
  refine forL_to (.of g1) (fun i σ H' => Same H9 H' ∧ ∃ z1 z2 z3 z4 : Option V, σ = [some (.ref d), some (.int (r1 - 4)), some (.int (r1 - 4 + r2)), some (.int r3), some (.int (r3 + r4)), some (.int r5), some (.ref q), some (.ref D), z1, z2, z3, z4, none, none])
    (fun σ H' => Same H9 H' ∧ ∃ z1 z2 z3 z4 : Option V, σ = [some (.ref d), some (.int (r1 - 4)), some (.int (r1 - 4 + r2)), some (.int r3), some (.int (r3 + r4)), some (.int r5), some (.ref q), some (.ref D), z1, z2, z3, z4, none, none]) ⟨Same.refl _, none, none, none, none, rfl⟩ (fun i σ H' _ p => .of (p.1 _ _ g1)) ?_ ?_ ?_
  · exact fun σ H' h => h
  · rintro σ H' ⟨s, z1, z2, z3, z4, rfl⟩
    wp_walk using upd_same
    exact kq H' (k9.trans (.same s)) (d9.same s)
  · rintro N nx hnx i x σ H' hx hN ⟨s, z1, z2, z3, z4, rfl⟩
    obtain ⟨t, a, b, c, e, rfl, ht, sc, se, hb⟩ := bad x (List.mem_of_getElem? hx)
    have ht' := s _ _ ht
    have told : ∀ (De : Ends), De.nx = N → wAs K (.ref A.TraceError) 12 (fun a cls d => (tIfS (dTest (tOp dNe (tCallE (sp_law_word K A) a cls d (tCons (dVar 12) tNil)) (tC (.str "range")))) (tRet (tC (.bl false))) tNext)) (fun _ _ _ _ => False) De (.ref A.OutOfRange) none [some (.ref d), some (.int (r1 - 4)), some (.int (r1 - 4 + r2)), some (.int r3), some (.int (r3 + r4)), some (.int r5), some (.ref q), some (.ref D), some (.int a), some (.int b), some c, some e, none, none] H' := by
      rintro De rfl
      refine ⟨true, F1.te, fun _ ax hax => ?_, fun e => (nomatch e)⟩
      wp_walk using tCallE
      refine F1.sp fun H2 s2 => ?_
      simp only [decide_true, Bool.true_eq_false, if_false]
      exact hN _ _ ⟨s.trans s2, _, _, _, _, rfl⟩
    wp_walk using ht'
    refine ⟨7, a, b, c, e, rfl, sc, se, fun _ => told _ rfl, fun li hi e1 e2 h1 h2 h3 => ⟨fun _ => told _ rfl, fun h4 h5 => ?_⟩⟩
    exfalso
    rcases hb with hb | hb
    · exact hb ⟨h4, h5⟩
    · exact hb ⟨0, 0, li, hi, rfl, rfl, e1, e2, by omega, by omega, by omega, h1, h2, h3⟩
theorem r_law {K : PySem.W.Frag} {A : Ads} {E : XK} {vs : List V} {H : Hp} {Q : VK} (h : sp_law K vs H Q E) : t_law K A E { nx := fun _ H' => Q .non H', rt := Q } (L2.start ["script", "draws", "part", "whole_one", "numbers", "most", "low", "more", "rows", "which", "ends_one", "many", "odd", "k", "row", "value"] vs) H := by
  obtain ⟨a, ns0, rfl, hs, hl, kq⟩ := h
  unfold t_law
  refine seq1 ?_
  wide_line using [upd_same]
  refine ⟨a, ns0, rfl, hs, hl, fun d H1 ms hd S1 hd1 => ?_⟩
  have d1 : DrawsAt H1 d := ⟨ms, hd1⟩
  clear hs S1
  refine seq1 ?_
  wide_line using [upd_same]
  refine ⟨by rw [sizeLine_eq]; decide, fun p1 hp1 => ?_⟩
  have sp1 := same_new (o := .tup [(V.int 1), (V.int 2)]) hp1
  have qp1 : upd H1 p1 (.tup [(V.int 1), (V.int 2)]) p1 = _ := upd_same
  generalize upd H1 p1 _ = G0 at *
  refine ⟨by rw [sizeLine_eq]; decide, fun p2 hp2 => ?_⟩
  have sp2 := same_new (o := .tup [(V.int 0), (V.int 1)]) hp2
  have qp2 : upd G0 p2 (.tup [(V.int 0), (V.int 1)]) p2 = _ := upd_same
  have qp1 := sp2 _ _ qp1
  generalize upd G0 p2 _ = G1 at *
  refine ⟨by rw [sizeLine_eq]; decide, fun p3 hp3 => ?_⟩
  have sp3 := same_new (o := .tup [(V.int 1), (V.int 1)]) hp3
  have qp3 : upd G1 p3 (.tup [(V.int 1), (V.int 1)]) p3 = _ := upd_same
  have qp1 := sp3 _ _ qp1
  have qp2 := sp3 _ _ qp2
  generalize upd G1 p3 _ = G2 at *
  refine ⟨by rw [sizeLine_eq]; decide, fun p4 hp4 => ?_⟩
  have sp4 := same_new (o := .tup [(V.int 9), (V.int 10)]) hp4
  have qp4 : upd G2 p4 (.tup [(V.int 9), (V.int 10)]) p4 = _ := upd_same
  have qp1 := sp4 _ _ qp1
  have qp2 := sp4 _ _ qp2
  have qp3 := sp4 _ _ qp3
  generalize upd G2 p4 _ = G3 at *
  refine ⟨by rw [sizeLine_eq]; decide, fun pl hpl => ?_⟩
  have spl := same_new (o := .lst [V.ref p1, V.ref p2, V.ref p3, V.ref p4]) hpl
  have qpl : upd G3 pl (.lst [V.ref p1, V.ref p2, V.ref p3, V.ref p4]) pl = _ := upd_same
  have qp1 := spl _ _ qp1
  have qp2 := spl _ _ qp2
  have qp3 := spl _ _ qp3
  have qp4 := spl _ _ qp4
  have sAll := sp1.trans (sp2.trans (sp3.trans (sp4.trans spl)))
  have d2 := d1.same sAll
  generalize upd G3 pl _ = H2 at *
  have npl : pl ≠ d := fun e => by obtain ⟨m, hm⟩ := d2; rw [e, hm] at qpl; simp at qpl; cases m with | nil => simp at qpl | cons x xs => simp at qpl
  refine take_on d2 (by decide) fun r0 H3 a0 b0 k3 d3 => ?_
  have kt3 := keep_kt k3 d2
  have qpl3 := k3 _ _ qpl (by simpa using npl)
  have pw : ∃ (pt : Addr) (p w : Int), [V.ref p1, V.ref p2, V.ref p3, V.ref p4][r0.toNat]? = some (.ref pt) ∧ H3 pt = some (.tup [.int p, .int w]) ∧ 0 ≤ p ∧ p ≤ w ∧ 0 < w ∧ w < 100 := by
    have : r0 = 0 ∨ r0 = 1 ∨ r0 = 2 ∨ r0 = 3 := by omega
    rcases this with rfl | rfl | rfl | rfl
    · exact ⟨p1, 1, 2, rfl, kt3 _ _ qp1, by decide, by decide, by decide, by decide⟩
    · exact ⟨p2, 0, 1, rfl, kt3 _ _ qp2, by decide, by decide, by decide, by decide⟩
    · exact ⟨p3, 1, 1, rfl, kt3 _ _ qp3, by decide, by decide, by decide, by decide⟩
    · exact ⟨p4, 9, 10, rfl, kt3 _ _ qp4, by decide, by decide, by decide, by decide⟩
  obtain ⟨pt, p, w, hpt, hpw, p0, pw', w0, w1⟩ := pw
  obtain ⟨j0, rfl⟩ := Int.eq_ofNat_of_zero_le a0
  rw [Int.toNat_natCast] at hpt
  simp only [qpl3, seqAt_lst]
  refine atK_nat hpt ?_
  wide_line using [hpw]
  clear qp1 qp2 qp3 qp4 qpl qpl3 hpt hpw kt3 k3 d2 d1 sAll
  refine seq1 ?_
  wide_line using [upd_same]
  refine take_on d3 (by decide) fun r1 H4 a1 b1 k4 d4 => ⟨⟨by omega, by omega⟩, ?_⟩
  refine lcR_draw ?_ d4 (fun _ y => ∃ v : Int, y = .int v ∧ True) (fun i hi H5 k5 d5 kk1 kk0 h1 => ?_) fun na H5 ys hna k5 d5 hnas pr => ?_
  · omega
  · unfold LcTurn
    wp_walk using upd_same
    exact take_on d5 (by decide) fun r H6 a6 b6 k6 d6 => h1 _ _ k6 d6 ⟨_, rfl, trivial⟩
  obtain ⟨ns, rfl, pn⟩ := paired_ints pr
  have nl : ns.length ≤ 5 := by have := paired_len pn; rw [List.length_range] at this; omega
  have nad : na ≠ d := fun e => d4.ne hna e.symm
  clear pr pn hna k5 k4 d4 d3
  refine seq1 ?_
  wide_line using [upd_same]
  refine take_on d5 (by decide) fun m H6 m0 m1 k6 d6 => take_on d6 (by decide) fun l0 H7 l0' l1 k7 d7 => ?_
  have hn7 := k7 _ _ (k6 _ _ hnas (by simpa using nad)) (by simpa using nad)
  refine seq1 ?_
  try (wide_line using [upd_same])
  refine take_on d7 (by omega) fun f H8 f0 f1 k8 d8 => take_on d8 (by decide) fun hh H9 h0 h1 k9 d9 => ⟨by rw [sizeLine_eq]; decide, fun mt hmt => ?_⟩
  have hn9 := k9 _ _ (k8 _ _ hn7 (by simpa using nad)) (by simpa using nad)
  have smt := same_new (o := .tup [V.int f, V.int m, V.int (l0 - 4), V.int (l0 - 4 + hh)]) hmt
  have qmt : upd H9 mt (.tup [V.int f, V.int m, V.int (l0 - 4), V.int (l0 - 4 + hh)]) mt = _ := upd_same
  have hn := smt _ _ hn9
  have d10 := d9.same smt
  generalize upd H9 mt _ = H10 at *
  clear hn9 hn7 hnas k9 k8 k7 k6 d9 d8 d7 d6 d5 smt
  generalize hl0 : l0 - 4 = l at *
  obtain ⟨o, of, om, ol, oh⟩ : ∃ o : More, o.f = f ∧ o.m = m ∧ o.l = l ∧ o.h = l + hh := ⟨⟨f, m, l, l + hh, by omega, by omega, by omega, by omega, by omega, by omega⟩, rfl, rfl, rfl, rfl⟩
  refine seq1 ?_
  wide_line using [qmt]
  refine ⟨f, m, l, l + hh, rfl, f0, by omega, by omega, by omega, by omega, by omega, by omega, fun wv H11 W s11 ⟨wa, ws, e, hwa, pws⟩ wl wok wall => ?_⟩
  subst e
  have hn11 := s11 _ _ hn
  have qmt11 := s11 _ _ qmt
  have d11 := d10.same s11
  try (wide_line using [upd_same])
  refine lcL_new (.of hwa) pws (by rw [paired_len pws]; omega) (fun r => .lst ((ns ++ r).map V.int)) (fun i x r hi hr hF H12 s12 k1 k0 h1 => ?_) fun D H12 qs hD s12 hDs _ _ _ pq => ?_
  · obtain ⟨t, rfl, ht⟩ := hF
    have ht12 := s12 _ _ (ht)
    have hn12 := s12 _ _ hn11
    unfold LcTurn
    wp_walk using ht12
    intro q1 hq1
    have nq : na ≠ q1 := ne_of_none hn12 hq1
    wp_walk using nq, hn12
    have wr := wok r (List.mem_of_getElem? hr)
    have wr2 := wr.2.1
    refine ⟨by rw [sizeLine_eq, List.length_map, List.length_map]; omega, fun q2 hq2 => ?_⟩
    rw [upd_fresh] at hq2
    refine h1 q2 _ ((same_new hq1).trans (same_new (by rw [upd_fresh]; exact hq2))) hq2.2 ?_
    rw [upd_same, List.map_append]
  have hn12 := s12 _ _ hn11
  have qmt12 := s12 _ _ qmt11
  have d12 := d11.same s12
  have LA : ListsAt H12 (.ref D) (W.map (fun r => ns ++ r)) := ⟨D, _, rfl, hDs, paired_mapR (paired_refs (F := fun q b => H12 q = some (.lst ((ns ++ b).map V.int))) pq)⟩
  have wne : W.map (fun r => ns ++ r) ≠ [] := by
    obtain ⟨r, hr⟩ := rows_ex (ns := []) f0 (show f ≤ m by omega) (show l ≤ l + hh by omega)
    obtain ⟨xs, hx, _⟩ := hr
    obtain ⟨s, hs, _⟩ := wall xs hx
    intro e
    have : ns ++ s ∈ W.map (fun r => ns ++ r) := List.mem_map.mpr ⟨s, hs, rfl⟩
    rw [e] at this
    simp at this
  have wlen : ∀ r ∈ W.map (fun r => ns ++ r), r.length ≤ 100 := by
    intro r hr
    obtain ⟨s, hs, rfl⟩ := List.mem_map.mp hr
    have := (wok s hs).2.1
    rw [List.length_append]
    omega
  have wq : ∀ (k : Int) (r1 r2 : Rs), IsR k p w (Rows ns f m l (l + hh)) r1 → IsR k p w (· ∈ W.map (fun r => ns ++ r)) r2 → r1 = r2 := by
    intro k r1 r2 i1 i2
    refine isR_uniq (isR_perm (fun r hr => ?_) (fun r hr => ?_) i1) i2
    · obtain ⟨s, hs, rfl⟩ := List.mem_map.mp hr
      exact ⟨s, wok s hs, rfl⟩
    · obtain ⟨xs, hx, rfl⟩ := hr
      obtain ⟨s, hs, pm⟩ := wall xs hx
      exact ⟨ns ++ s, List.mem_map.mpr ⟨s, hs, rfl⟩, (pm.symm.append_left ns)⟩
  have wl2 : (W.map (fun r => ns ++ r)).length ≤ 1000 := by rw [List.length_map]; exact wl
  generalize W.map (fun r => ns ++ r) = W2 at *
  clear hD hDs pq pws hwa hn11 qmt11 d11 s11 s12 hn qmt
  refine seq1 ?_
  wide_line using [upd_same]
  refine ⟨⟨by omega, by omega⟩, ?_⟩
  refine forR_to (fun i σ H' => Same H12 H' ∧ ∃ z1 z2 : Option V, σ = [some (.ref a), some (.ref d), some (.int p), some (.int w), some (.ref na), some (.int m), some (.int l), some (.ref mt), some (.ref D), z1, z2, none, none, none, none, none])
    (fun σ H' => Same H12 H' ∧ ∃ z1 z2 : Option V, σ = [some (.ref a), some (.ref d), some (.int p), some (.int w), some (.ref na), some (.int m), some (.int l), some (.ref mt), some (.ref D), z1, z2, none, none, none, none, none]) ⟨Same.refl _, none, none, rfl⟩ ?_ ?_ ?_
  · exact fun σ H' h => h
  · rintro σ H13 ⟨s13, z1, z2, rfl⟩
    have hn13 := s13 _ _ hn12
    have qmt13 := s13 _ _ qmt12
    have d13 := d12.same s13
    clear hn12 qmt12 d12 wq LA wne wlen wall wok wl wl2
    wide_line using [upd_same]
    refine seq1 ?_
    wide_line using [upd_same]
    refine take_on d13 (by decide) fun f2 H14 f20 f21 k14 d14 => ?_
    refine take_on d14 (by decide) fun m2 H15 m20 m21 k15 d15 => ?_
    try (wide_line using [upd_same])
    refine take_on d15 (by decide) fun g2 H16 g20 g21 k16 d16 => ?_
    try (wide_line using [upd_same])
    refine ⟨by rw [sizeLine_eq]; decide, fun mn hmn => ?_⟩
    have kA := (k14.trans k15).trans k16
    have hn16 := kA _ _ hn13 (by simpa using nad)
    have nmt : mt ≠ d := fun e => by obtain ⟨m, hm⟩ := d13; rw [e, hm] at qmt13; cases qmt13
    have qmt16 := kA _ _ qmt13 (by simpa using nmt)
    have smn := same_new (o := .tup [V.int f2, V.int (5 + m2), V.int l, V.int (l + g2)]) hmn
    have qmn : upd H16 mn (.tup [V.int f2, V.int (5 + m2), V.int l, V.int (l + g2)]) mn = _ := upd_same
    have d17 := d16.same smn
    have nmn : mn ≠ d := fun e => d16.ne hmn e.symm
    have hn17 := smn _ _ hn16
    have qmt17 := smn _ _ qmt16
    generalize upd H16 mn _ = H17 at *
    clear hn16 qmt16 hn13 qmt13 d13 d14 d15 d16 kA k14 k15 k16 smn hmn s13
    refine seq1 ?_
    try (wide_line using [upd_same])
    refine ⟨d, na, mt, ns, p, w, o, rfl, d17, hn17, nad, by rw [of, om, ol, oh]; exact qmt17, by omega, p0, pw', w0, w1, by omega, fun H18 k18 d18 => ?_⟩
    have hn18 := k18 _ _ hn17 (by simpa using nad)
    have qmn18 := k18 _ _ qmn (by simpa using nmn)
    try (wide_line using [upd_same])
    refine ⟨d, na, mn, ns, p, w, ⟨f2, 5 + m2, l, l + g2, f20, by omega, by omega, by omega, by omega, by omega⟩, rfl, d18, hn18, nad, qmn18, by simp only; omega, p0, pw', w0, w1, by omega, fun H19 k19 d19 => ?_⟩
    have hn19 := k19 _ _ hn18 (by simpa using nad)
    try (wide_line using [upd_same])
    refine ⟨d, rfl, d19, fun H20 k20 d20 => ?_⟩
    have hn20 := k20 _ _ hn19 (by simpa using nad)
    try (wide_line using [upd_same])
    clear hn17 hn18 hn19 qmt17 qmn18 qmn d17 d18 d19 k18 k19 k20
    refine seq1 ?_
    try (wide_line using [upd_same])
    refine ⟨by rw [sizeLine_eq]; decide, fun o0 ho0 => ?_⟩
    have so0 := same_new (o := .tup [(V.int (-1)), (V.int 2), (V.int 0), (V.int 1)]) ho0
    have qo0 : upd H20 o0 (.tup [(V.int (-1)), (V.int 2), (V.int 0), (V.int 1)]) o0 = _ := upd_same
    generalize upd H20 o0 _ = J0 at *
    refine ⟨by rw [sizeLine_eq]; decide, fun o1 ho1 => ?_⟩
    have so1 := same_new (o := .tup [(V.int 3), (V.int 2), (V.int 0), (V.int 1)]) ho1
    have qo1 : upd J0 o1 (.tup [(V.int 3), (V.int 2), (V.int 0), (V.int 1)]) o1 = _ := upd_same
    have qo0 := so1 _ _ qo0
    generalize upd J0 o1 _ = J1 at *
    refine ⟨by rw [sizeLine_eq]; decide, fun o2 ho2 => ?_⟩
    have so2 := same_new (o := .tup [(V.int 0), (V.int 401), (V.int 0), (V.int 1)]) ho2
    have qo2 : upd J1 o2 (.tup [(V.int 0), (V.int 401), (V.int 0), (V.int 1)]) o2 = _ := upd_same
    have qo0 := so2 _ _ qo0
    have qo1 := so2 _ _ qo1
    generalize upd J1 o2 _ = J2 at *
    refine ⟨by rw [sizeLine_eq]; decide, fun o3 ho3 => ?_⟩
    have so3 := same_new (o := .tup [(V.int 0), (V.int 1), (V.int 2), (V.int 1)]) ho3
    have qo3 : upd J2 o3 (.tup [(V.int 0), (V.int 1), (V.int 2), (V.int 1)]) o3 = _ := upd_same
    have qo0 := so3 _ _ qo0
    have qo1 := so3 _ _ qo1
    have qo2 := so3 _ _ qo2
    generalize upd J2 o3 _ = J3 at *
    refine ⟨by rw [sizeLine_eq]; decide, fun o4 ho4 => ?_⟩
    have so4 := same_new (o := .tup [V.non, (V.int 1), (V.int 0), (V.int 1)]) ho4
    have qo4 : upd J3 o4 (.tup [V.non, (V.int 1), (V.int 0), (V.int 1)]) o4 = _ := upd_same
    have qo0 := so4 _ _ qo0
    have qo1 := so4 _ _ qo1
    have qo2 := so4 _ _ qo2
    have qo3 := so4 _ _ qo3
    generalize upd J3 o4 _ = J4 at *
    refine ⟨by rw [sizeLine_eq]; decide, fun o5 ho5 => ?_⟩
    have so5 := same_new (o := .tup [(V.int 0), V.non, (V.int 0), (V.int 1)]) ho5
    have qo5 : upd J4 o5 (.tup [(V.int 0), V.non, (V.int 0), (V.int 1)]) o5 = _ := upd_same
    have qo0 := so5 _ _ qo0
    have qo1 := so5 _ _ qo1
    have qo2 := so5 _ _ qo2
    have qo3 := so5 _ _ qo3
    have qo4 := so5 _ _ qo4
    generalize upd J4 o5 _ = J5 at *
    refine ⟨by rw [sizeLine_eq]; decide, fun o6 ho6 => ?_⟩
    have so6 := same_new (o := .tup [(V.int 0), (V.int 1), V.non, (V.int 1)]) ho6
    have qo6 : upd J5 o6 (.tup [(V.int 0), (V.int 1), V.non, (V.int 1)]) o6 = _ := upd_same
    have qo0 := so6 _ _ qo0
    have qo1 := so6 _ _ qo1
    have qo2 := so6 _ _ qo2
    have qo3 := so6 _ _ qo3
    have qo4 := so6 _ _ qo4
    have qo5 := so6 _ _ qo5
    generalize upd J5 o6 _ = J6 at *
    refine ⟨by rw [sizeLine_eq]; decide, fun o7 ho7 => ?_⟩
    have so7 := same_new (o := .tup [(V.int 0), (V.int 1), (V.int 0), (V.str "1")]) ho7
    have qo7 : upd J6 o7 (.tup [(V.int 0), (V.int 1), (V.int 0), (V.str "1")]) o7 = _ := upd_same
    have qo0 := so7 _ _ qo0
    have qo1 := so7 _ _ qo1
    have qo2 := so7 _ _ qo2
    have qo3 := so7 _ _ qo3
    have qo4 := so7 _ _ qo4
    have qo5 := so7 _ _ qo5
    have qo6 := so7 _ _ qo6
    generalize upd J6 o7 _ = J7 at *
    refine ⟨by rw [sizeLine_eq]; decide, fun o8 ho8 => ?_⟩
    have so8 := same_new (o := .tup [(V.int 0), (V.bl true), (V.int 0), (V.int 1)]) ho8
    have qo8 : upd J7 o8 (.tup [(V.int 0), (V.bl true), (V.int 0), (V.int 1)]) o8 = _ := upd_same
    have qo0 := so8 _ _ qo0
    have qo1 := so8 _ _ qo1
    have qo2 := so8 _ _ qo2
    have qo3 := so8 _ _ qo3
    have qo4 := so8 _ _ qo4
    have qo5 := so8 _ _ qo5
    have qo6 := so8 _ _ qo6
    have qo7 := so8 _ _ qo7
    generalize upd J7 o8 _ = J8 at *
    refine ⟨by rw [sizeLine_eq]; decide, fun ol hol => ?_⟩
    have sol := same_new (o := .lst [V.ref o0, V.ref o1, V.ref o2, V.ref o3, V.ref o4, V.ref o5, V.ref o6, V.ref o7, V.ref o8]) hol
    have qol : upd J8 ol (.lst [V.ref o0, V.ref o1, V.ref o2, V.ref o3, V.ref o4, V.ref o5, V.ref o6, V.ref o7, V.ref o8]) ol = _ := upd_same
    have qo0 := sol _ _ qo0
    have qo1 := sol _ _ qo1
    have qo2 := sol _ _ qo2
    have qo3 := sol _ _ qo3
    have qo4 := sol _ _ qo4
    have qo5 := sol _ _ qo5
    have qo6 := sol _ _ qo6
    have qo7 := sol _ _ qo7
    have qo8 := sol _ _ qo8
    have hnJ := sol _ _ (so8 _ _ (so7 _ _ (so6 _ _ (so5 _ _ (so4 _ _ (so3 _ _ (so2 _ _ (so1 _ _ (so0 _ _ hn20)))))))))
    generalize upd J8 ol _ = J9 at *
    have bad : ∀ x ∈ [V.ref o0, V.ref o1, V.ref o2, V.ref o3, V.ref o4, V.ref o5, V.ref o6, V.ref o7, V.ref o8], ∃ (t : Addr) (f m l h : V), x = .ref t ∧ J9 t = some (.tup [f, m, l, h]) ∧ Scal f ∧ Scal m ∧ Scal l ∧ Scal h ∧ ¬ MoreOk f m l h := by
      intro x hx
      simp only [List.mem_cons, List.not_mem_nil, or_false] at hx
      rcases hx with rfl | rfl | rfl | rfl | rfl | rfl | rfl | rfl | rfl
      · refine ⟨o0, _, _, _, _, rfl, qo0, .inr (.inr (.inl ⟨_, rfl⟩)), .inr (.inr (.inl ⟨_, rfl⟩)), .inr (.inr (.inl ⟨_, rfl⟩)), .inr (.inr (.inl ⟨_, rfl⟩)), ?_⟩
        rintro ⟨_, _, _, _, e1, e2, e3, e4, h1, h2, h3, h4, h5, h6⟩
        cases e1; cases e2; cases e3; cases e4
        omega
      · refine ⟨o1, _, _, _, _, rfl, qo1, .inr (.inr (.inl ⟨_, rfl⟩)), .inr (.inr (.inl ⟨_, rfl⟩)), .inr (.inr (.inl ⟨_, rfl⟩)), .inr (.inr (.inl ⟨_, rfl⟩)), ?_⟩
        rintro ⟨_, _, _, _, e1, e2, e3, e4, h1, h2, h3, h4, h5, h6⟩
        cases e1; cases e2; cases e3; cases e4
        omega
      · refine ⟨o2, _, _, _, _, rfl, qo2, .inr (.inr (.inl ⟨_, rfl⟩)), .inr (.inr (.inl ⟨_, rfl⟩)), .inr (.inr (.inl ⟨_, rfl⟩)), .inr (.inr (.inl ⟨_, rfl⟩)), ?_⟩
        rintro ⟨_, _, _, _, e1, e2, e3, e4, h1, h2, h3, h4, h5, h6⟩
        cases e1; cases e2; cases e3; cases e4
        omega
      · refine ⟨o3, _, _, _, _, rfl, qo3, .inr (.inr (.inl ⟨_, rfl⟩)), .inr (.inr (.inl ⟨_, rfl⟩)), .inr (.inr (.inl ⟨_, rfl⟩)), .inr (.inr (.inl ⟨_, rfl⟩)), ?_⟩
        rintro ⟨_, _, _, _, e1, e2, e3, e4, h1, h2, h3, h4, h5, h6⟩
        cases e1; cases e2; cases e3; cases e4
        omega
      · refine ⟨o4, _, _, _, _, rfl, qo4, .inl rfl, .inr (.inr (.inl ⟨_, rfl⟩)), .inr (.inr (.inl ⟨_, rfl⟩)), .inr (.inr (.inl ⟨_, rfl⟩)), ?_⟩
        rintro ⟨_, _, _, _, e1, e2, e3, e4, h1, h2, h3, h4, h5, h6⟩
        cases e1
      · refine ⟨o5, _, _, _, _, rfl, qo5, .inr (.inr (.inl ⟨_, rfl⟩)), .inl rfl, .inr (.inr (.inl ⟨_, rfl⟩)), .inr (.inr (.inl ⟨_, rfl⟩)), ?_⟩
        rintro ⟨_, _, _, _, e1, e2, e3, e4, h1, h2, h3, h4, h5, h6⟩
        cases e2
      · refine ⟨o6, _, _, _, _, rfl, qo6, .inr (.inr (.inl ⟨_, rfl⟩)), .inr (.inr (.inl ⟨_, rfl⟩)), .inl rfl, .inr (.inr (.inl ⟨_, rfl⟩)), ?_⟩
        rintro ⟨_, _, _, _, e1, e2, e3, e4, h1, h2, h3, h4, h5, h6⟩
        cases e3
      · refine ⟨o7, _, _, _, _, rfl, qo7, .inr (.inr (.inl ⟨_, rfl⟩)), .inr (.inr (.inl ⟨_, rfl⟩)), .inr (.inr (.inl ⟨_, rfl⟩)), .inr (.inr (.inr ⟨_, rfl⟩)), ?_⟩
        rintro ⟨_, _, _, _, e1, e2, e3, e4, h1, h2, h3, h4, h5, h6⟩
        cases e4
      · refine ⟨o8, _, _, _, _, rfl, qo8, .inr (.inr (.inl ⟨_, rfl⟩)), .inr (.inl ⟨_, rfl⟩), .inr (.inr (.inl ⟨_, rfl⟩)), .inr (.inr (.inl ⟨_, rfl⟩)), ?_⟩
        rintro ⟨_, _, _, _, e1, e2, e3, e4, h1, h2, h3, h4, h5, h6⟩
        cases e2
    refine lcL_core (.of qol) (by simp) (fun _ => false) (fun _ _ _ => False) (fun _ _ _ _ _ h => h) (fun v hv G7 g7 k1 k0 _ h2 => ?_) fun D8 G8 ys8 hD8 g8 hDs8 pr8 => ?_
    · obtain ⟨t, vf, vm, vl, vh, rfl, ht, s1, s2, s3, s4, hb⟩ := bad v hv
      have hnG := g7 _ _ hnJ
      have htG := g7 _ _ ht
      unfold LcTurn
      wp_walk using hnG
      refine ⟨⟨by omega, by omega⟩, lcR_core ?_ (fun _ => true) (fun _ y _ => y = V.str "range") (fun _ _ _ _ _ h => h) (fun i hi G9 g9 kk1 kk0 hh1 _ => ?_) fun D10 G10 ys10 hD10 g10 hDs10 pr10 => ?_⟩
      · decide
      · unfold LcTurn
        wp_walk using upd_same
        exact ⟨_, na, t, ns, p, w, vf, vm, vl, vh, rfl, g9 _ _ hnG, g9 _ _ htG, r4 hi, p0, pw', w0, w1, by omega, s1, s2, s3, s4, fun _ G11 g11 => hh1 rfl _ _ g11 rfl, fun o e1 e2 e3 e4 => (hb (by rw [e1, e2, e3, e4]; exact MoreOk.of o)).elim⟩
      · rw [List.filter_eq_self.mpr (fun _ _ => rfl)] at pr10
        have ey : ys10 = [V.str "range", V.str "range", V.str "range", V.str "range"] := paired_map (f := fun _ : Nat => V.str "range") pr10
        subst ey
        refine ⟨by rw [sizeLine_eq]; decide, fun q1 hq1 => ⟨by decide, by decide, by rw [sizeLine_eq]; decide, fun q2 hq2 => ?_⟩⟩
        have dn : ∀ {H : Hp}, Da H 0 (.str "range") (.str "range") := .str (by decide +kernel)
        refine neD_same (n := 1) (d := .list [.str "range", .str "range", .str "range", .str "range"]) (.lst (same_new hq2 _ _ (same_new hq1 _ _ hDs10)) (by simp) (.cons dn (.cons dn (.cons dn (.cons dn .nil))))) (.lst upd_same (by decide) (.cons dn (.cons dn (.cons dn (.cons dn .nil))))) (by decide) ?_
        simp only [Bool.false_eq_true, if_false]
        exact h2 rfl _ (g10.trans ((same_new hq1).trans (same_new hq2)))
    · have hn8 : ys8 = [] := by
        rw [List.filter_eq_nil_iff.mpr (by simp)] at pr8
        cases pr8
        rfl
      subst hn8
      refine ⟨by rw [sizeLine_eq]; decide, fun q1 hq1 => ?_⟩
      exact eqD_same (n := 1) (da_nil (same_new hq1 _ _ hDs8)) (da_nil upd_same) (by decide) (kq _)
  · rintro N nx hnx i σ H13 hi hN ⟨s13, z1, z2, rfl⟩
    have hn13 := s13 _ _ hn12
    have qmt13 := s13 _ _ qmt12
    have hi4 : i < 4 := hi
    refine seq1 ?_
    wide_line using [upd_same]
    rw [← of, ← om, ← ol] at qmt13
    rw [ol, ← oh] at qmt13
    rw [← ol] at qmt13
    refine told_good o hn13 qmt13 (r4 hi4) p0 pw' w0 w1 (by omega) fun ev H14 r s14 de ie => ?_
    rw [of, om, ol, oh] at ie
    try (wide_line using [upd_same])
    refine ⟨_, _, W2, p, w, rfl, LA.same (s13.trans s14), wne, wl2, wlen, r4 hi4, p0, pw', w0, w1, fun dv H15 r' s15 dd id => ?_⟩
    have er := wq _ _ _ ie id
    subst er
    refine ⟨ev, dv, r.data, rfl, (de.same s15).up, dd.up, fun H16 s16 => ?_⟩
    try (wide_line using [upd_same])
    have de16 := (de.same s15).same s16
    have nxt : ∀ H17, Same H16 H17 → N [some (.ref a), some (.ref d), some (.int p), some (.int w), some (.ref na), some (.int m), some (.int l), some (.ref mt), some (.ref D), some (.int (0 + (i : Int))), some ev, none, none, none, none, none] H17 := fun H17 s17 => hN _ _ ⟨s13.trans (s14.trans (s15.trans (s16.trans s17))), _, _, rfl⟩
    refine neD_da (n := 2) de16 (.str (by decide +kernel)) (by decide) ?_
    rw [eqv_none]
    cases r with
    | non =>
      simp only [decide_true, Bool.not_true, Bool.false_eq_true, if_false]
      exact nxt _ (Same.refl _)
    | nums x y =>
      obtain ⟨t, v1, v2, rfl, ht, h1, h2⟩ := Da.pair_inv de16
      simp only [reduceCtorEq, decide_false, Bool.not_false, if_true]
      refine ⟨_, _, rfl, de16, by simp, ?_⟩
      wp_walk using ht
      refine eqD_da h1 h2 (by decide) ⟨_, rfl, ?_⟩
      exact nxt _ (Same.refl _)
    | fras x y =>
      obtain ⟨t, v1, v2, rfl, ht, h1, h2⟩ := Da.pair_inv de16
      simp only [reduceCtorEq, decide_false, Bool.not_false, if_true]
      refine ⟨_, _, rfl, de16, by simp, ?_⟩
      wp_walk using ht
      refine eqD_da h1 h2 (by decide) ⟨_, rfl, ?_⟩
      exact nxt _ (Same.refl _)
theorem r_is_number {K : PySem.W.Frag} {A : Ads} {E : XK} {vs : List V} {H : Hp} {Q : VK} (h : sp_is_number vs H Q E) : t_is_number K A E { nx := fun _ H' => Q .non H', rt := Q } (L2.start ["value", "least", "most"] vs) H := by
  obtain ⟨v, lo, hi, rfl, hv, k⟩ := h
  unfold t_is_number
  rcases hv with rfl | ⟨b, rfl⟩ | ⟨i, rfl⟩ | ⟨x, rfl⟩
  · walk_at "ev"
    exact k false ⟨fun h => (nomatch h), fun ⟨_, e, _⟩ => (nomatch e)⟩
  · walk_at "ev"
    exact k false ⟨fun h => (nomatch h), fun ⟨_, e, _⟩ => (nomatch e)⟩
  · walk_at "ev"
    refine ite2 (fun h1 => k _ ?_) (fun h1 => k _ ?_)
    · rw [decide_eq_true_iff]
      exact ⟨fun h => ⟨i, rfl, h1, h⟩, fun ⟨j, e, _, h⟩ => by cases e; exact h⟩
    · exact ⟨fun h => (nomatch h), fun ⟨j, e, h, _⟩ => by cases e; exact absurd h h1⟩
  · walk_at "ev"
    exact k false ⟨fun h => (nomatch h), fun ⟨_, e, _⟩ => (nomatch e)⟩
theorem r_check_more {K : PySem.W.Frag} {A : Ads} {E : XK} {vs : List V} {H : Hp} {Q : VK} (h : sp_check_more A vs H Q E) : t_check_more K A E { nx := fun _ H' => Q .non H', rt := Q } (L2.start ["fewest", "most", "low", "high"] vs) H := by
  obtain ⟨f, m, l, h, rfl, sf, sm, sl, sh, ke, k⟩ := h
  unfold t_check_more
  refine seq1 ?_
  walk_at "ev"
  refine ⟨m, 0, 400, rfl, sm, fun b1 hb1 => ?_⟩
  cases b1 with
  | false =>
    walk_at "ev"
    refine ke fun ⟨_, mi, _, _, _, e, _, _, h1, h2, h3, _⟩ => Bool.noConfusion (hb1.mpr ⟨mi, e, by omega, h3⟩)
  | true =>
  obtain ⟨mi, rfl, m0, m1⟩ := hb1.mp rfl
  walk_at "ev"
  refine ⟨f, 0, mi, rfl, sf, fun b2 hb2 => ?_⟩
  cases b2 with
  | false =>
    walk_at "ev"
    refine ke fun ⟨fi, _, _, _, e, e2, _, _, h1, h2, _⟩ => Bool.noConfusion (hb2.mpr ⟨fi, e, h1, by cases e2; exact h2⟩)
  | true =>
  obtain ⟨fi, rfl, f0, f1⟩ := hb2.mp rfl
  walk_at "ev"
  refine ⟨h, -1000000000000, 1000000000000, rfl, sh, fun b3 hb3 => ?_⟩
  cases b3 with
  | false =>
    walk_at "ev"
    refine ke fun ⟨_, _, li, hi, _, _, _, e, _, _, _, h4, h5, h6⟩ => Bool.noConfusion (hb3.mpr ⟨hi, e, by omega, h6⟩)
  | true =>
  obtain ⟨hi, rfl, h0, h1⟩ := hb3.mp rfl
  walk_at "ev"
  refine ⟨l, -1000000000000, hi, rfl, sl, fun b4 hb4 => ?_⟩
  cases b4 with
  | false =>
    walk_at "ev"
    refine ke fun ⟨_, _, li, _, _, _, e, e2, _, _, _, h4, h5, h6⟩ => Bool.noConfusion (hb4.mpr ⟨li, e, h4, by cases e2; exact h5⟩)
  | true =>
  obtain ⟨li, rfl, l0, l1⟩ := hb4.mp rfl
  walk_at "ev"
  exact k ⟨fi, mi, li, hi, rfl, rfl, rfl, rfl, f0, f1, m1, l0, l1, h1⟩
theorem r_range_of_total {K : PySem.W.Frag} {A : Ads} {E : XK} {vs : List V} {H : Hp} {Q : VK} (h : sp_range_of_total A vs H Q E) : t_range_of_total K A E { nx := fun _ H' => Q .non H', rt := Q } (L2.start ["total", "fewest", "most", "low", "high"] vs) H := by
  obtain ⟨t, f, m, l, h, rfl, ask⟩ := h
  unfold t_range_of_total
  refine seq1 ?_
  walk_at "ev"
  refine ask.sp fun o e1 e2 e3 e4 k => ?_
  subst e1 e2 e3 e4
  walk_at "ev"
  exact ⟨(o.cm _).1, (o.cm _).2, (o.cm _).1, (o.cm _).2, by decide, k⟩
theorem r_range_of_area {K : PySem.W.Frag} {A : Ads} {E : XK} {vs : List V} {H : Hp} {Q : VK} (h : sp_range_of_area A vs H Q E) : t_range_of_area K A E { nx := fun _ H' => Q .non H', rt := Q } (L2.start ["area", "time", "until", "low", "high"] vs) H := by
  obtain ⟨ar, t, u, l, h, rfl, sl, sh, ke, k⟩ := h
  unfold t_range_of_area
  refine seq1 ?_
  walk_at "ev"
  refine ⟨.int 0, .int 0, l, h, rfl, .inr (.inr (.inl ⟨_, rfl⟩)), .inr (.inr (.inl ⟨_, rfl⟩)), sl, sh, ke, fun ⟨fi, mi, li, hi, e1, e2, e3, e4, h1, h2, h3, h4, h5, h6⟩ => ?_⟩
  obtain ⟨k1, k2⟩ := k li hi e3 e4 h4 h5 h6
  subst e3 e4
  walk_at "ev"
  have c : ∀ x : Int, CMul x li ∧ CMul x hi := fun x => ⟨.inr ⟨by omega, by omega⟩, .inr ⟨by omega, by omega⟩⟩
  refine ite2 (fun ht => ite2 (fun hu => k1 fun z => of_decide_eq_false hu z.2) fun hu => ?_) fun ht => k1 fun z => ht z.1
  have hu : t ≤ u := by
    cases e : decide (t ≤ u) with
    | false => exact absurd e hu
    | true => exact of_decide_eq_true e
  exact ⟨(c _).1, (c _).2, by decide, k2 ht hu⟩
theorem r_range_of_greatest {K : PySem.W.Frag} {A : Ads} {E : XK} {vs : List V} {H : Hp} {Q : VK} (h : sp_range_of_greatest A vs H Q E) : t_range_of_greatest K A E { nx := fun _ H' => Q .non H', rt := Q } (L2.start ["greatest", "fewest", "most", "low", "high"] vs) H := by
  obtain ⟨g, f, m, l, h, rfl, hg, ask⟩ := h
  unfold t_range_of_greatest
  refine seq1 ?_
  walk_at "ev"
  refine ask.sp fun o e1 e2 e3 e4 k => ?_
  subst e1 e2 e3 e4
  rcases hg with rfl | ⟨i, rfl⟩
  · walk_at "ev"
    refine ite2 (fun hm => (k.1 rfl).1 hm) fun hm => ⟨by decide, (k.1 rfl).2 hm⟩
  · walk_at "ev"
    have k := k.2 i rfl
    refine ite2 (fun h1 => ite2 (fun h2 => ?_) fun h2 => ?_) fun h1 => ite2 (fun h2 => ?_) fun h2 => ?_
    · rw [if_pos h1, if_pos h2] at k; exact ⟨by decide, k⟩
    · rw [if_pos h1, if_neg h2] at k; exact ⟨by decide, k⟩
    · rw [if_neg h1, if_pos h2] at k; exact ⟨by decide, k⟩
    · rw [if_neg h1, if_neg h2] at k; exact ⟨by decide, k⟩
theorem r_rank_of_all {K : PySem.W.Frag} {A : Ads} {E : XK} {vs : List V} {H : Hp} {Q : VK} (h : sp_rank_of_all A vs H Q E) : t_rank_of_all K A E { nx := fun _ H' => Q .non H', rt := Q } (L2.start ["numbers", "part", "whole"] vs) H := by
  obtain ⟨a, ns, p, w, rfl, ha, p0, pw, w0, w1, hl, ke, k⟩ := h
  unfold t_rank_of_all
  wp_walk using ha
  rw [List.length_map]
  refine ite2 (fun h => ke (List.length_eq_zero_iff.mp (by omega))) fun h => ?_
  have hn : ns ≠ [] := fun e => h (by rw [e]; rfl)
  have hlen : 1 ≤ ns.length := by omega
  refine ⟨a, ns, rfl, .inl (.inl ha), fun ms q pm pw2 hq => ?_⟩
  have na : a ≠ q := ne_of_none ha hq
  have ml := pm.length_eq
  wp_walk using na, ha
  rw [List.length_map]
  refine ⟨ns.length, p, w, rfl, w0, w1, p0, by omega, ?_⟩
  have i0 : 0 ≤ ((ns.length : Int) - 1) * p / w := Int.ediv_nonneg (Int.mul_nonneg (by omega) p0) (by omega)
  have i1 : ((ns.length : Int) - 1) * p / w ≤ (ns.length : Int) - 1 := by
    have h1 : ((ns.length : Int) - 1) * p ≤ ((ns.length : Int) - 1) * w := Int.mul_le_mul_of_nonneg_left pw (by omega)
    have h2 := Int.ediv_le_ediv w0 h1
    rw [Int.mul_ediv_cancel _ (by omega)] at h2
    exact h2
  obtain ⟨j, hj⟩ := Int.eq_ofNat_of_zero_le i0
  rw [hj] at i1
  have hjl : j < ms.length := by omega
  wp_walk using upd_same
  rw [hj]
  refine atK_nat (v := .int ms[j]) (by rw [List.getElem?_map, List.getElem?_eq_getElem hjl]; rfl) ?_
  exact k hn _ _ (same_new hq) ⟨ms, pm, pw2, by rw [hj, Int.toNat_natCast]; exact List.getElem?_eq_getElem hjl⟩
theorem r_ends_of {K : PySem.W.Frag} {A : Ads} {E : XK} {vs : List V} {H : Hp} {Q : VK} (h : sp_ends_of vs H Q E) : t_ends_of K A E { nx := fun _ H' => Q .non H', rt := Q } (L2.start ["fewest", "most", "needed", "many"] vs) H := by
  obtain ⟨f, m, k, rfl, h1, h2, kq⟩ := h
  unfold t_ends_of
  walk_at "ev"
  refine ⟨by decide, fun p hp => ?_⟩
  walk_at "ev"
  refine lcT_core upd_same (by simp) (fun _ => true) (fun x y _ => y = x) (fun _ _ _ _ _ h => h) (fun x hx H1 s1 k1 k0 hk _ => ?_) fun D H2 ys hD s2 hDs pr => ?_
  · have hx : ∃ i : Int, x = .int i ∧ k ≤ i ∧ i ≤ m := by
      simp at hx
      rcases hx with rfl | rfl
      · refine ⟨_, rfl, ?_⟩
        split <;> omega
      · exact ⟨_, rfl, h2, by omega⟩
    obtain ⟨i, rfl, h3, h4⟩ := hx
    unfold LcTurn
    wp_walk using h3, h4
    exact hk rfl _ _ (Same.refl _) rfl
  · have e : ys = [.int (if k > f then k else f), .int m] := by
      rw [List.filter_eq_self.mpr (fun _ _ => rfl)] at pr
      have := paired_map (f := id) (by simpa using pr)
      simpa using this
    refine kq _ _ ((same_new hp).trans s2) ?_
    rw [hDs, e]
theorem r_range_of_mean {K : PySem.W.Frag} {A : Ads} {E : XK} {vs : List V} {H : Hp} {Q : VK} (h : sp_range_of_mean A vs H Q E) : t_range_of_mean K A E { nx := fun _ H' => Q .non H', rt := Q } (L2.start ["many", "total", "fewest", "most", "low", "high", "ends", "found", "least", "greatest", "one", "more", "worth"] vs) H := by
  obtain ⟨n, s, f, m, l, h, rfl, n0, n1, ask⟩ := h
  unfold t_range_of_mean
  refine seq1 ?_
  wide_line using [upd_same]
  refine ask.sp fun o e1 e2 e3 e4 k => ?_
  subst e1 e2 e3 e4
  refine seq1 ?_
  wide_line using [upd_same]
  refine ite2 (fun hm => k.1 hm) fun hm => ?_
  have k := k.2 hm
  have f0 := o.f0; have fm := o.fm; have m4 := o.m4; have lh := o.lh; have l0 := o.l0; have h0 := o.h0
  have q0 : (if n = 0 then (1 : Int) else 0) ≤ o.m := by split <;> omega
  refine seq1 ?_
  have jf : o.f ≤ j1 n o.f ∧ j1 n o.f ≤ o.m ∧ 0 < n + j1 n o.f := by
    unfold j1
    refine ⟨?_, ?_, ?_⟩ <;> (split <;> split <;> omega)
  refine (show tAsg _ _ _ _ _ from ?_)
  have step : ∀ (Q' : VK), (∀ q H', Same H H' → H' q = some (.lst [.int (j1 n o.f), .int o.m]) → Q' (.ref q) H') → (if n = 0 then sp_ends_of [V.int o.f, V.int o.m, V.int 1] H Q' E0 else sp_ends_of [V.int o.f, V.int o.m, V.int 0] H Q' E0) := by
    intro Q' hq
    refine ite2 (fun e => ⟨_, _, _, rfl, fm, by omega, ?_⟩) fun e => ⟨_, _, _, rfl, fm, by omega, ?_⟩
    · intro q H' s1 h1; refine hq q H' s1 ?_; unfold j1; rw [if_pos e]; exact h1
    · intro q H' s1 h1; refine hq q H' s1 ?_; unfold j1; rw [if_neg e]; exact h1
  wide_line using [upd_same]
  refine step _ fun en H1 s1 hen => ?_
  generalize hj1 : j1 n o.f = j0 at jf hen
  obtain ⟨ja, jb, jc⟩ := jf
  have jd := hj1
  refine seq1 ?_
  wide_line using [upd_same]
  refine ⟨⟨_, .of hen⟩, ?_⟩

  refine lc2_pairJ (.of hen) (ps := [j0, o.m]) (F := fun v i => v = .int i) (.cons rfl (.cons rfl .nil)) 2 (by simp) (fun _ => [o.l, o.h]) (fun _ => Nat.le_refl _) (fun _ v i => v = .int i) (fun j x v H => PrI H v (low2 (s + j * x) (n + j)))
    (fun j x v H H' kt hp => ?_) (fun v => [some (V.int n), some (V.int s), some (V.int o.f), some (V.int o.m), some (V.int o.l), some (V.int o.h), some (.ref en), none, none, none, none, some v, none]) (fun i x j hi hj hF H2 s2 C k0 hC => ?_) (fun i x j y q hi hj hF hq hG H2 s2 k1 k0 hk => ?_) fun D H2 ys hD s2 hDs pr => ?_
  · obtain ⟨t, rfl, ht⟩ := hp
    exact ⟨t, rfl, kt _ _ ht⟩
  · subst hF
    wp_walk using upd_same
    refine ⟨by rw [sizeLine_eq]; decide, fun p hp => ⟨⟨_, .of upd_same⟩, hC _ _ [.int o.l, .int o.h] (same_new hp) ⟨p, .inl hp, .inr ⟨rfl, upd_same⟩⟩ (.cons rfl (.cons rfl .nil))⟩⟩
  · subst hF hG
    have hj' : j = j0 ∨ j = o.m := by
      have := List.mem_of_getElem? hj
      simpa using this
    have hx' : q = o.l ∨ q = o.h := by simpa using hq
    unfold LcTurn
    wp_walk using upd_same
    refine ⟨.inl ⟨by omega, by omega⟩, _, _, rfl, by omega, by omega, fun a ha => hk _ _ (same_new ha) ⟨a, rfl, upd_same⟩⟩
  · simp only [List.flatMap_cons, List.flatMap_nil, List.map_cons, List.map_nil, List.append_nil, List.cons_append, List.nil_append] at pr
    have fo : ∀ j x : Int, (j = j0 ∨ j = o.m) → FrOk (low2 (s + j * x) (n + j)) := fun j x hj => by
      have hp : 0 < n + j := by omega
      have := low2_le (p := s + j * x) hp
      exact ⟨low2_pos hp, by omega⟩
    have pr2 : Paired (fun v q => PrI H2 v q) ys [low2 (s + j0 * o.l) (n + j0), low2 (s + j0 * o.h) (n + j0), low2 (s + o.m * o.l) (n + o.m), low2 (s + o.m * o.h) (n + o.m)] := by
      cases pr with | cons p1 pr => cases pr with | cons p2 pr => cases pr with | cons p3 pr => cases pr with | cons p4 pr => cases pr with | nil =>
      exact .cons p1 (.cons p2 (.cons p3 (.cons p4 .nil)))
    have qok : ∀ q ∈ [low2 (s + j0 * o.l) (n + j0), low2 (s + j0 * o.h) (n + j0), low2 (s + o.m * o.l) (n + o.m), low2 (s + o.m * o.h) (n + o.m)], FrOk q := by
      intro q hq
      simp at hq
      rcases hq with rfl | rfl | rfl | rfl
      · exact fo _ _ (.inl rfl)
      · exact fo _ _ (.inl rfl)
      · exact fo _ _ (.inr rfl)
      · exact fo _ _ (.inr rfl)
    have qmx : ∀ a b : Int × Int, a ∈ [low2 (s + j0 * o.l) (n + j0), low2 (s + j0 * o.h) (n + j0), low2 (s + o.m * o.l) (n + o.m), low2 (s + o.m * o.h) (n + o.m)] → b ∈ [low2 (s + j0 * o.l) (n + j0), low2 (s + j0 * o.h) (n + j0), low2 (s + o.m * o.l) (n + o.m), low2 (s + o.m * o.h) (n + o.m)] →
        (∀ q ∈ [low2 (s + j0 * o.l) (n + j0), low2 (s + j0 * o.h) (n + j0), low2 (s + o.m * o.l) (n + o.m), low2 (s + o.m * o.h) (n + o.m)], a.1 * q.2 ≤ q.1 * a.2 ∧ q.1 * b.2 ≤ b.1 * q.2) → MeanX n s o a b := by
      intro a b ha hb hab
      refine ⟨_, ?_, ?_, ha, hb, hab⟩
      · rintro j x (hj | hj) (hx | hx) <;> (try rw [jd] at hj) <;> (subst hj hx; simp)
      · intro q hq
        simp at hq
        rcases hq with rfl | rfl | rfl | rfl
        · exact ⟨_, _, .inl jd.symm, .inl rfl, rfl⟩
        · exact ⟨_, _, .inl jd.symm, .inr rfl, rfl⟩
        · exact ⟨_, _, .inr rfl, .inl rfl, rfl⟩
        · exact ⟨_, _, .inr rfl, .inr rfl, rfl⟩
    generalize hqs : [low2 (s + j0 * o.l) (n + j0), low2 (s + j0 * o.h) (n + j0), low2 (s + o.m * o.l) (n + o.m), low2 (s + o.m * o.h) (n + o.m)] = qs at *
    obtain ⟨y0, yr, rfl⟩ : ∃ y0 yr, ys = y0 :: yr := by
      cases ys with
      | nil => subst hqs; cases pr2
      | cons y0 yr => exact ⟨_, _, rfl⟩
    obtain ⟨q0', hq0, p0⟩ := pairedGet pr2 (i := 0) (x := y0) rfl
    refine seq1 ?_
    wide_line using [hDs]
    refine seq1 ?_
    wide_line using [hDs]
    refine forL_to (.of hDs) (fun i σ H => H = H2 ∧ ∃ (lv gv : V) (a b : Int × Int) (z : Option V), σ = [some (V.int n), some (V.int s), some (V.int o.f), some (V.int o.m), some (V.int o.l), some (V.int o.h), some (.ref en), some (.ref D), some lv, some gv, z, none, none] ∧
        PrI H2 lv a ∧ PrI H2 gv b ∧ a ∈ qs ∧ b ∈ qs ∧ ∀ q ∈ qs.take i, a.1 * q.2 ≤ q.1 * a.2 ∧ q.1 * b.2 ≤ b.1 * q.2) (fun σ H => H = H2 ∧ ∃ (lv gv : V) (a b : Int × Int) (z : Option V), σ = [some (V.int n), some (V.int s), some (V.int o.f), some (V.int o.m), some (V.int o.l), some (V.int o.h), some (.ref en), some (.ref D), some lv, some gv, z, none, none] ∧
        PrI H2 lv a ∧ PrI H2 gv b ∧ MeanX n s o a b ∧ a ∈ qs ∧ b ∈ qs) ⟨rfl, y0, y0, q0', q0', none, rfl, p0, p0, List.mem_of_getElem? hq0, List.mem_of_getElem? hq0, by simp⟩ (fun i σ H _ p => by rw [p.1]; exact .of hDs) ?_ ?_ ?_
    · rintro σ H ⟨rfl, lv, gv, a, b, z, rfl, pa, pb, ma, mb, hab⟩
      refine ⟨rfl, lv, gv, a, b, z, rfl, pa, pb, qmx a b ma mb fun q hq => hab q ?_, ma, mb⟩
      rw [paired_len pr2, List.take_length]
      exact hq
    · rintro σ H ⟨rfl, lv, gv, a, b, z, rfl, ⟨ta, rfl, pa⟩, ⟨tb, rfl, pb⟩, mx, ma, mb⟩
      wp_walk using upd_same
      refine ⟨by rw [sizeLine_eq]; decide, fun p hp => ?_⟩
      refine k a b p _ (s1.trans (s2.trans (same_new hp))) (.tup upd_same (by simp) (.cons ?_ (.cons ?_ .nil))) mx
      · exact .tup (same_new hp _ _ pa) (by simp) (.cons .int (.cons .int .nil))
      · exact .tup (same_new hp _ _ pb) (by simp) (.cons .int (.cons .int .nil))
    · rintro N nx hnx i x σ H hx hN ⟨rfl, lv, gv, a, b, z, rfl, pa, pb, ma, mb, hab⟩
      obtain ⟨q, hq, px⟩ := pairedGet pr2 hx
      have mq := List.mem_of_getElem? hq
      have et : qs.take (i + 1) = qs.take i ++ [q] := by rw [List.take_succ, hq]; rfl
      have oa := qok a ma
      have ob := qok b mb
      have oq := qok q mq
      refine seq1 ?_
      wide_line using [upd_same]
      refine ⟨x, lv, q, a, rfl, px, pa, oa.cm _, oq.cm _, ?_⟩
      have tail : ∀ (lv' : V) (a' : Int × Int), PrI H lv' a' → a' ∈ qs → (∀ r ∈ qs.take (i + 1), a'.1 * r.2 ≤ r.1 * a'.2) → ∀ Q' : VK,
          (N [some (V.int n), some (V.int s), some (V.int o.f), some (V.int o.m), some (V.int o.l), some (V.int o.h), some (.ref en), some (.ref D), some lv', some x, some x, none, none] H → Q' (.bl true) H) →
          (N [some (V.int n), some (V.int s), some (V.int o.f), some (V.int o.m), some (V.int o.l), some (V.int o.h), some (.ref en), some (.ref D), some lv', some gv, some x, none, none] H → Q' (.bl false) H) → sp_less [gv, x] H Q' E0 := by
        intro lv' a' pa' ma' ha' Q' h1 h2
        refine ⟨gv, x, b, q, rfl, pb, px, oq.cm _, ob.cm _, ?_⟩
        by_cases hlt : b.1 * q.2 < q.1 * b.2
        · rw [decide_eq_true hlt]
          refine h1 (hN _ _ ⟨rfl, _, _, a', q, _, rfl, pa', px, ma', mq, fun r hr => ⟨ha' r hr, ?_⟩⟩)
          rw [et] at hr
          rcases List.mem_append.mp hr with hr | hr
          · exact cle_trans ob.1 (qok r (List.mem_of_mem_take hr)).1 oq.1 (hab r hr).2 (Int.le_of_lt hlt)
          · simp at hr; subst hr; exact Int.le_refl _
        · rw [decide_eq_false hlt]
          refine h2 (hN _ _ ⟨rfl, _, _, a', b, _, rfl, pa', pb, ma', mb, fun r hr => ⟨ha' r hr, ?_⟩⟩)
          rw [et] at hr
          rcases List.mem_append.mp hr with hr | hr
          · exact (hab r hr).2
          · simp at hr; subst hr; omega
      by_cases hlt : q.1 * a.2 < a.1 * q.2
      · simp only [hlt, decide_true, if_true]
        refine tail x q px mq (fun r hr => ?_) _ (fun h => by simpa using h) (fun h => by simpa using h)
        rw [et] at hr
        rcases List.mem_append.mp hr with hr | hr
        · exact cle_trans oa.1 oq.1 (qok r (List.mem_of_mem_take hr)).1 (Int.le_of_lt hlt) (hab r hr).1
        · simp at hr; subst hr; exact Int.le_refl _
      · simp only [hlt, decide_false, Bool.false_eq_true, if_false]
        refine tail lv a pa ma (fun r hr => ?_) _ (fun h => by simpa using h) (fun h => by simpa using h)
        rw [et] at hr
        rcases List.mem_append.mp hr with hr | hr
        · exact (hab r hr).1
        · simp at hr; subst hr; omega
theorem r_range_of_rank {K : PySem.W.Frag} {A : Ads} {E : XK} {vs : List V} {H : Hp} {Q : VK} (h : sp_range_of_rank A vs H Q E) : t_range_of_rank K A E { nx := fun _ H' => Q .non H', rt := Q } (L2.start ["numbers", "part", "whole", "fewest", "most", "low", "high", "counts", "lows", "highs", "more"] vs) H := by
  obtain ⟨t, ns, p, w, f, m, l, h, rfl, ht, p0, pw, w0, w1, hl, ask⟩ := h
  unfold t_range_of_rank
  refine seq1 ?_
  wide_line using [upd_same]
  refine ask.sp fun o e1 e2 e3 e4 k => ?_
  subst e1 e2 e3 e4
  refine seq1 ?_
  wide_line using [ht]
  rw [List.length_map]
  refine ite2 (fun hm => k.1 hm) fun hm => ?_
  have k := k.2 hm
  have f0 := o.f0; have fm := o.fm; have m4 := o.m4; have lh := o.lh; have l0 := o.l0; have h0 := o.h0
  refine seq1 ?_
  wide_line using [upd_same]
  refine ⟨⟨by omega, by omega, by omega, by omega⟩, ?_⟩
  refine lcR_core ?_ (fun i => decide (0 < (ns.length : Int) + (o.f + (i : Nat)))) (fun i y _ => y = .int (o.f + (i : Nat))) (fun _ _ _ _ _ h => h) (fun i hi H2 s2 k1 k0 h1 h2 => ?_) fun D H2 ys hD s2 hDs pr => ?_
  · omega
  · have ht2 := s2 _ _ ht
    unfold LcTurn
    wp_walk using ht2
    rw [List.length_map]
    refine ite2 (fun e => h1 (decide_eq_true e) _ _ (Same.refl _) rfl) fun e => h2 (decide_eq_false e) _ (Same.refl _)
  have ey : ys = (((List.range (o.m + 1 - o.f).toNat).filter (fun i => decide (0 < (ns.length : Int) + (o.f + (i : Nat))))).map (fun i => o.f + (i : Nat))).map V.int := by
    have := paired_map (f := fun i : Nat => V.int (o.f + (i : Int))) pr
    rw [this, List.map_map]; rfl
  have hcs : ∀ j : Int, j ∈ ((List.range (o.m + 1 - o.f).toNat).filter (fun i => decide (0 < (ns.length : Int) + (o.f + (i : Nat))))).map (fun i => o.f + (i : Nat)) ↔ (o.f ≤ j ∧ j ≤ o.m ∧ 0 < (ns.length : Int) + j) := by
    intro j
    simp only [List.mem_map, List.mem_filter, List.mem_range, decide_eq_true_eq]
    constructor
    · rintro ⟨i, ⟨h1, h2⟩, rfl⟩
      omega
    · rintro ⟨h1, h2, h3⟩
      exact ⟨(j - o.f).toNat, ⟨by omega, by omega⟩, by omega⟩
  have hcl : (((List.range (o.m + 1 - o.f).toNat).filter (fun i => decide (0 < (ns.length : Int) + (o.f + (i : Nat))))).map (fun i => o.f + (i : Nat))).length ≤ 1000 := by
    rw [List.length_map]
    refine Nat.le_trans (List.length_filter_le ..) ?_
    rw [List.length_range]
    omega
  generalize ((List.range (o.m + 1 - o.f).toNat).filter (fun i => decide (0 < (ns.length : Int) + (o.f + (i : Nat))))).map (fun i => o.f + (i : Nat)) = cs at *
  subst ey
  have turn : ∀ (v : Int) (H3 : Hp), H3 t = some (.tup (ns.map V.int)) → ∀ j ∈ cs, ∀ (Q' : VK), (∀ r H', Same H3 H' → RankC (ns ++ List.replicate j.toNat v) p w r → Q' (.int r) H') →
      ∀ q, H3 q = none → sp_rank_of_all A [.ref q, .int p, .int w] (upd H3 q (.lst (ns.map V.int ++ (List.replicate j.toNat [V.int v]).flatten))) Q' E0 := by
    intro v H3 ht3 j hj Q' hq q hqn
    obtain ⟨c1, c2, c3⟩ := (hcs j).mp hj
    have el : ns.map V.int ++ (List.replicate j.toNat [V.int v]).flatten = (ns ++ List.replicate j.toNat v).map V.int := by
      rw [List.map_append, List.map_replicate]
      congr 1
      induction j.toNat with
      | zero => rfl
      | succ n ih => rw [List.replicate_succ, List.flatten_cons, ih, List.replicate_succ]; rfl
    have nl : (ns ++ List.replicate j.toNat v).length = ns.length + j.toNat := by simp
    rw [el]
    refine ⟨q, _, p, w, rfl, upd_same, p0, pw, w0, w1, by rw [nl]; omega, fun e => ?_, fun hne r H' s' hr => ?_⟩
    · have := congrArg List.length e
      rw [nl, List.length_nil] at this
      exfalso
      omega
    · obtain ⟨ms, pm, pp, eq⟩ := hr
      refine hq r H' ((same_new hqn).trans s') (rankC_of ?_ pm pp eq)
      refine Int.ediv_nonneg (Int.mul_nonneg ?_ p0) (by omega)
      have e3 : ((ns ++ List.replicate j.toNat v).length : Int) = (ns.length : Int) + j := by rw [nl]; push_cast; omega
      omega
  have hcne : o.m ∈ cs := (hcs _).mpr ⟨fm, by omega, by omega⟩
  have hclV : (cs.map V.int).length ≤ 1000000 := by rw [List.length_map]; omega
  refine seq1 ?_
  wide_line using [hDs]
  refine lcL_pair (.of hDs) (paired_mapv (f := V.int)) hclV (fun _ => true) (fun j y _ => ∃ r, y = .int r ∧ RankC (ns ++ List.replicate j.toNat o.l) p w r) (fun _ _ _ _ _ h => h) (fun i x j hi hj hF H3 s3 k1 k0 h1 _ => ?_) fun D2 H3 ys2 hD2 s3 hDs2 pr2 => ?_
  · subst hF
    have ht2 := s3 _ _ (s2 _ _ ht)
    unfold LcTurn
    wp_walk using ht2
    have hj' := (hcs j).mp (List.mem_of_getElem? hj)
    have ln : (List.map V.int ns ++ (List.replicate j.toNat [V.int o.l]).flatten).length ≤ sizeLine := by
      rw [sizeLine_eq, List.length_append, List.length_map]
      simp
      omega
    refine ⟨by rw [sizeLine_eq]; decide, fun q1 h1q => ⟨by omega, by omega, by rw [sizeLine_eq]; omega, fun q2 h2q => ?_⟩⟩
    rw [List.append_nil]
    refine ⟨ln, fun q3 h3q => ?_⟩
    have sA := (same_new (o := .lst [V.int o.l]) h1q).trans (same_new (o := .lst (List.replicate j.toNat [V.int o.l]).flatten) h2q)
    exact turn o.l _ (sA _ _ ht2) j (List.mem_of_getElem? hj) _ (fun r H' s' hr => h1 rfl _ _ (sA.trans s') ⟨r, rfl, hr⟩) q3 h3q
  have ht3 := s3 _ _ (s2 _ _ ht)
  have hDs3 := s3 _ _ hDs
  rw [List.filter_eq_self.mpr (fun _ _ => rfl)] at pr2
  obtain ⟨rs, rfl, pl⟩ := paired_ints pr2
  refine seq1 ?_
  wide_line using [hDs3]
  refine lcL_pair (.of hDs3) (paired_mapv (f := V.int)) hclV (fun _ => true) (fun j y _ => ∃ r, y = .int r ∧ RankC (ns ++ List.replicate j.toNat o.h) p w r) (fun _ _ _ _ _ h => h) (fun i x j hi hj hF H4 s4 k1 k0 h1 _ => ?_) fun D3 H4 ys3 hD3 s4 hDs4 pr3 => ?_
  · subst hF
    have ht2 := s4 _ _ ht3
    unfold LcTurn
    wp_walk using ht2
    have hj' := (hcs j).mp (List.mem_of_getElem? hj)
    have ln : (List.map V.int ns ++ (List.replicate j.toNat [V.int o.h]).flatten).length ≤ sizeLine := by
      rw [sizeLine_eq, List.length_append, List.length_map]
      simp
      omega
    refine ⟨by rw [sizeLine_eq]; decide, fun q1 h1q => ⟨by omega, by omega, by rw [sizeLine_eq]; omega, fun q2 h2q => ?_⟩⟩
    rw [List.append_nil]
    refine ⟨ln, fun q3 h3q => ?_⟩
    have sA := (same_new (o := .lst [V.int o.h]) h1q).trans (same_new (o := .lst (List.replicate j.toNat [V.int o.h]).flatten) h2q)
    exact turn o.h _ (sA _ _ ht2) j (List.mem_of_getElem? hj) _ (fun r H' s' hr => h1 rfl _ _ (sA.trans s') ⟨r, rfl, hr⟩) q3 h3q
  rw [List.filter_eq_self.mpr (fun _ _ => rfl)] at pr3
  obtain ⟨rs3, rfl, ph⟩ := paired_ints pr3
  wp_walk using upd_same
  refine ⟨D2, rs, rfl, .of (s4 _ _ hDs2), ?_, fun lo ml hlo => ⟨D3, rs3, rfl, .of hDs4, ?_, fun hi mh hhi => ⟨by rw [sizeLine_eq]; decide, fun q hq => ?_⟩⟩⟩
  · rw [← paired_len pl]; exact List.length_pos_of_mem hcne
  · rw [← paired_len ph]; exact List.length_pos_of_mem hcne
  refine k lo hi q _ (s2.trans (s3.trans (s4.trans (same_new hq)))) upd_same ⟨?_, ?_, ?_, ?_⟩
  · obtain ⟨j, mj, hr⟩ := paired_memR pl ml
    have := (hcs j).mp mj
    exact ⟨j.toNat, by omega, by omega, hr⟩
  · intro j h1 h2 h3
    obtain ⟨r, mr, hr⟩ := paired_memL pl ((hcs (j : Int)).mpr ⟨h1, h2, by omega⟩)
    exact ⟨r, hr, hlo r mr⟩
  · obtain ⟨j, mj, hr⟩ := paired_memR ph mh
    have := (hcs j).mp mj
    exact ⟨j.toNat, by omega, by omega, hr⟩
  · intro j h1 h2 h3
    obtain ⟨r, mr, hr⟩ := paired_memL ph ((hcs (j : Int)).mpr ⟨h1, h2, by omega⟩)
    exact ⟨r, hr, hhi r mr⟩
def top (i : Nat) : Stmt := PySem.Challenge.pw_sametrace_k23_whole_what_figures_can_bec.main.body.getD i (.Pass ⟨0, 0, 0, 0⟩)
abbrev s_is_number : Stmt := top 9
abbrev N_is_number : List Str := ["value", "least", "most"]
theorem sc_is_number : FnScope N_is_number ["value", "least", "most"] (defScope s_is_number) := ⟨rfl, rfl, rfl, by decide +kernel, rfl, by decide +kernel, by decide +kernel⟩
abbrev s_lowest : Stmt := top 11
abbrev N_lowest : List Str := ["part", "whole", "common"]
theorem sc_lowest : FnScope N_lowest ["part", "whole"] (defScope s_lowest) := ⟨rfl, rfl, rfl, by decide +kernel, rfl, by decide +kernel, by decide +kernel⟩
abbrev s_made : Stmt := top 12
abbrev N_made : List Str := ["part", "whole"]
theorem sc_made : FnScope N_made ["part", "whole"] (defScope s_made) := ⟨rfl, rfl, rfl, by decide +kernel, rfl, by decide +kernel, by decide +kernel⟩
abbrev s_less : Stmt := top 13
abbrev N_less : List Str := ["one", "other"]
theorem sc_less : FnScope N_less ["one", "other"] (defScope s_less) := ⟨rfl, rfl, rfl, by decide +kernel, rfl, by decide +kernel, by decide +kernel⟩
abbrev s_rank_place : Stmt := top 15
abbrev N_rank_place : List Str := ["many", "part", "whole"]
theorem sc_rank_place : FnScope N_rank_place ["many", "part", "whole"] (defScope s_rank_place) := ⟨rfl, rfl, rfl, by decide +kernel, rfl, by decide +kernel, by decide +kernel⟩
abbrev s_rank_of_all : Stmt := top 16
abbrev N_rank_of_all : List Str := ["numbers", "part", "whole"]
theorem sc_rank_of_all : FnScope N_rank_of_all ["numbers", "part", "whole"] (defScope s_rank_of_all) := ⟨rfl, rfl, rfl, by decide +kernel, rfl, by decide +kernel, by decide +kernel⟩
abbrev s_check_more : Stmt := top 20
abbrev N_check_more : List Str := ["fewest", "most", "low", "high"]
theorem sc_check_more : FnScope N_check_more ["fewest", "most", "low", "high"] (defScope s_check_more) := ⟨rfl, rfl, rfl, by decide +kernel, rfl, by decide +kernel, by decide +kernel⟩
abbrev s_ends_of : Stmt := top 21
abbrev N_ends_of : List Str := ["fewest", "most", "needed", "many"]
theorem sc_ends_of : FnScope N_ends_of ["fewest", "most", "needed"] (defScope s_ends_of) := ⟨rfl, rfl, rfl, by decide +kernel, rfl, by decide +kernel, by decide +kernel⟩
abbrev s_range_of_total : Stmt := top 22
abbrev N_range_of_total : List Str := ["total", "fewest", "most", "low", "high"]
theorem sc_range_of_total : FnScope N_range_of_total ["total", "fewest", "most", "low", "high"] (defScope s_range_of_total) := ⟨rfl, rfl, rfl, by decide +kernel, rfl, by decide +kernel, by decide +kernel⟩
abbrev s_range_of_greatest : Stmt := top 23
abbrev N_range_of_greatest : List Str := ["greatest", "fewest", "most", "low", "high"]
theorem sc_range_of_greatest : FnScope N_range_of_greatest ["greatest", "fewest", "most", "low", "high"] (defScope s_range_of_greatest) := ⟨rfl, rfl, rfl, by decide +kernel, rfl, by decide +kernel, by decide +kernel⟩
abbrev s_range_of_mean : Stmt := top 24
abbrev N_range_of_mean : List Str := ["many", "total", "fewest", "most", "low", "high", "ends", "found", "least", "greatest", "one", "more", "worth"]
theorem sc_range_of_mean : FnScope N_range_of_mean ["many", "total", "fewest", "most", "low", "high"] (defScope s_range_of_mean) := ⟨rfl, rfl, rfl, by decide +kernel, rfl, by decide +kernel, by decide +kernel⟩
abbrev s_range_of_rank : Stmt := top 25
abbrev N_range_of_rank : List Str := ["numbers", "part", "whole", "fewest", "most", "low", "high", "counts", "lows", "highs", "more"]
theorem sc_range_of_rank : FnScope N_range_of_rank ["numbers", "part", "whole", "fewest", "most", "low", "high"] (defScope s_range_of_rank) := ⟨rfl, rfl, rfl, by decide +kernel, rfl, by decide +kernel, by decide +kernel⟩
abbrev s_range_of_area : Stmt := top 26
abbrev N_range_of_area : List Str := ["area", "time", "until", "low", "high"]
theorem sc_range_of_area : FnScope N_range_of_area ["area", "time", "until", "low", "high"] (defScope s_range_of_area) := ⟨rfl, rfl, rfl, by decide +kernel, rfl, by decide +kernel, by decide +kernel⟩
abbrev s_is_settled : Stmt := top 27
abbrev N_is_settled : List Str := ["ends"]
theorem sc_is_settled : FnScope N_is_settled ["ends"] (defScope s_is_settled) := ⟨rfl, rfl, rfl, by decide +kernel, rfl, by decide +kernel, by decide +kernel⟩
abbrev s_law_draws : Stmt := top 29
abbrev N_law_draws : List Str := ["script", "draws", "cell", "number", "first", "k", "seed"]
theorem sc_law_draws : FnScope N_law_draws ["script"] (defScope s_law_draws) := ⟨rfl, rfl, rfl, by decide +kernel, rfl, by decide +kernel, by decide +kernel⟩
abbrev s_law_take : Stmt := top 30
abbrev N_law_take : List Str := ["draws", "bound"]
theorem sc_law_take : FnScope N_law_take ["draws", "bound"] (defScope s_law_take) := ⟨rfl, rfl, rfl, by decide +kernel, rfl, by decide +kernel, by decide +kernel⟩
abbrev s_law_alike : Stmt := top 31
abbrev N_law_alike : List Str := ["found", "due", "k"]
theorem sc_law_alike : FnScope N_law_alike ["found", "due"] (defScope s_law_alike) := ⟨rfl, rfl, rfl, by decide +kernel, rfl, by decide +kernel, by decide +kernel⟩
abbrev s_law_word : Stmt := top 33
abbrev N_law_word : List Str := ["e", "kinds", "kind"]
theorem sc_law_word : FnScope N_law_word ["e"] (defScope s_law_word) := ⟨rfl, rfl, rfl, by decide +kernel, rfl, by decide +kernel, by decide +kernel⟩
abbrev s_law_says : Stmt := top 32
abbrev N_law_says : List Str := ["told", "due"]
theorem sc_law_says : FnScope N_law_says ["told", "due"] (defScope s_law_says) := ⟨rfl, rfl, rfl, by decide +kernel, rfl, by decide +kernel, by decide +kernel⟩
abbrev s_law_rank : Stmt := top 34
abbrev N_law_rank : List Str := ["numbers", "part", "whole_one"]
theorem sc_law_rank : FnScope N_law_rank ["numbers", "part", "whole_one"] (defScope s_law_rank) := ⟨rfl, rfl, rfl, by decide +kernel, rfl, by decide +kernel, by decide +kernel⟩
abbrev s_law_ways : Stmt := top 35
abbrev N_law_ways : List Str := ["fewest", "most", "low", "high", "found", "rows", "many", "later", "row", "number"]
theorem sc_law_ways : FnScope N_law_ways ["fewest", "most", "low", "high"] (defScope s_law_ways) := ⟨rfl, rfl, rfl, by decide +kernel, rfl, by decide +kernel, by decide +kernel⟩
abbrev s_law_told : Stmt := top 36
abbrev N_law_told : List Str := ["which", "numbers", "part", "whole_one", "more", "fewest", "most", "low", "high", "e"]
theorem sc_law_told : FnScope N_law_told ["which", "numbers", "part", "whole_one", "more"] (defScope s_law_told) := ⟨rfl, rfl, rfl, by decide +kernel, rfl, by decide +kernel, by decide +kernel⟩
abbrev s_law_least : Stmt := top 37
abbrev N_law_least : List Str := ["fractions", "found", "one"]
theorem sc_law_least : FnScope N_law_least ["fractions"] (defScope s_law_least) := ⟨rfl, rfl, rfl, by decide +kernel, rfl, by decide +kernel, by decide +kernel⟩
abbrev s_law_lowest : Stmt := top 38
abbrev N_law_lowest : List Str := ["part", "whole_one", "one", "other"]
theorem sc_law_lowest : FnScope N_law_lowest ["part", "whole_one"] (defScope s_law_lowest) := ⟨rfl, rfl, rfl, by decide +kernel, rfl, by decide +kernel, by decide +kernel⟩
abbrev s_law_due : Stmt := top 39
abbrev N_law_due : List Str := ["which", "rows", "part", "whole_one", "full", "totals", "tops", "means", "top", "ranks", "row", "one"]
theorem sc_law_due : FnScope N_law_due ["which", "rows", "part", "whole_one"] (defScope s_law_due) := ⟨rfl, rfl, rfl, by decide +kernel, rfl, by decide +kernel, by decide +kernel⟩
abbrev s_law_within : Stmt := top 40
abbrev N_law_within : List Str := ["one", "other"]
theorem sc_law_within : FnScope N_law_within ["one", "other"] (defScope s_law_within) := ⟨rfl, rfl, rfl, by decide +kernel, rfl, by decide +kernel, by decide +kernel⟩
abbrev s_law_narrower : Stmt := top 41
abbrev N_law_narrower : List Str := ["draws", "numbers", "part", "whole_one", "more", "fewest", "most", "low", "high", "ends_one", "turn", "later", "last", "which", "k", "pair"]
theorem sc_law_narrower : FnScope N_law_narrower ["draws", "numbers", "part", "whole_one", "more"] (defScope s_law_narrower) := ⟨rfl, rfl, rfl, by decide +kernel, rfl, by decide +kernel, by decide +kernel⟩
abbrev s_law_areas : Stmt := top 42
abbrev N_law_areas : List Str := ["draws", "low", "high", "time", "until", "area_one", "ends_one", "values", "a", "b", "c", "d", "e", "step"]
theorem sc_law_areas : FnScope N_law_areas ["draws"] (defScope s_law_areas) := ⟨rfl, rfl, rfl, by decide +kernel, rfl, by decide +kernel, by decide +kernel⟩
abbrev s_law : Stmt := top 43
abbrev N_law : List Str := ["script", "draws", "part", "whole_one", "numbers", "most", "low", "more", "rows", "which", "ends_one", "many", "odd", "k", "row", "value"]
theorem sc_law : FnScope N_law ["script"] (defScope s_law) := ⟨rfl, rfl, rfl, by decide +kernel, rfl, by decide +kernel, by decide +kernel⟩
structure Txt (K : PySem.W.Frag) (mg : Str → Option Value) (A : Ads) where
  is_number : FnAt K mg "is_number" s_is_number ["value", "least", "most"]
  lowest : FnAt K mg "lowest" s_lowest ["part", "whole"]
  made : FnAt K mg "made" s_made ["part", "whole"]
  less : FnAt K mg "less" s_less ["one", "other"]
  rank_place : FnAt K mg "rank_place" s_rank_place ["many", "part", "whole"]
  rank_of_all : FnAt K mg "rank_of_all" s_rank_of_all ["numbers", "part", "whole"]
  check_more : FnAt K mg "check_more" s_check_more ["fewest", "most", "low", "high"]
  ends_of : FnAt K mg "ends_of" s_ends_of ["fewest", "most", "needed"]
  range_of_total : FnAt K mg "range_of_total" s_range_of_total ["total", "fewest", "most", "low", "high"]
  range_of_greatest : FnAt K mg "range_of_greatest" s_range_of_greatest ["greatest", "fewest", "most", "low", "high"]
  range_of_mean : FnAt K mg "range_of_mean" s_range_of_mean ["many", "total", "fewest", "most", "low", "high"]
  range_of_rank : FnAt K mg "range_of_rank" s_range_of_rank ["numbers", "part", "whole", "fewest", "most", "low", "high"]
  range_of_area : FnAt K mg "range_of_area" s_range_of_area ["area", "time", "until", "low", "high"]
  is_settled : FnAt K mg "is_settled" s_is_settled ["ends"]
  law_draws : FnAt K mg "_law_draws" s_law_draws ["script"]
  law_take : FnAt K mg "_law_take" s_law_take ["draws", "bound"]
  law_alike : FnAt K mg "_law_alike" s_law_alike ["found", "due"]
  law_word : FnAt K mg "_law_word" s_law_word ["e"]
  law_says : FnAt K mg "_law_says" s_law_says ["told", "due"]
  law_rank : FnAt K mg "_law_rank" s_law_rank ["numbers", "part", "whole_one"]
  law_ways : FnAt K mg "_law_ways" s_law_ways ["fewest", "most", "low", "high"]
  law_told : FnAt K mg "_law_told" s_law_told ["which", "numbers", "part", "whole_one", "more"]
  law_least : FnAt K mg "_law_least" s_law_least ["fractions"]
  law_lowest : FnAt K mg "_law_lowest" s_law_lowest ["part", "whole_one"]
  law_due : FnAt K mg "_law_due" s_law_due ["which", "rows", "part", "whole_one"]
  law_within : FnAt K mg "_law_within" s_law_within ["one", "other"]
  law_narrower : FnAt K mg "_law_narrower" s_law_narrower ["draws", "numbers", "part", "whole_one", "more"]
  law_areas : FnAt K mg "_law_areas" s_law_areas ["draws"]
  law : FnAt K mg "law" s_law ["script"]
  x_TraceError : GlAt K mg "TraceError" A.TraceError
  x_OutOfRange : ExAt K mg "OutOfRange" A.OutOfRange
  x_Malformed : GlAt K mg "Malformed" A.Malformed
  x_NotThere : ExAt K mg "NotThere" A.NotThere
  x_Refused : GlAt K mg "Refused" A.Refused
  x_TooMuch : GlAt K mg "TooMuch" A.TooMuch
  e_OutOfRange_TraceError : PySem.W.exmOne K (.ref A.OutOfRange) (.ref A.TraceError) = some true
  e_NotThere_TraceError : PySem.W.exmOne K (.ref A.NotThere) (.ref A.TraceError) = some true
  i_OutOfRange_OutOfRange : PySem.W.kitOne K (.ref A.OutOfRange) (.ref A.OutOfRange) = some true
  i_OutOfRange_Malformed : PySem.W.kitOne K (.ref A.OutOfRange) (.ref A.Malformed) = some false
  i_OutOfRange_NotThere : PySem.W.kitOne K (.ref A.OutOfRange) (.ref A.NotThere) = some false
  i_OutOfRange_Refused : PySem.W.kitOne K (.ref A.OutOfRange) (.ref A.Refused) = some false
  i_OutOfRange_TooMuch : PySem.W.kitOne K (.ref A.OutOfRange) (.ref A.TooMuch) = some false
  i_NotThere_OutOfRange : PySem.W.kitOne K (.ref A.NotThere) (.ref A.OutOfRange) = some false
  i_NotThere_Malformed : PySem.W.kitOne K (.ref A.NotThere) (.ref A.Malformed) = some false
  i_NotThere_NotThere : PySem.W.kitOne K (.ref A.NotThere) (.ref A.NotThere) = some true
  i_NotThere_Refused : PySem.W.kitOne K (.ref A.NotThere) (.ref A.Refused) = some false
  i_NotThere_TooMuch : PySem.W.kitOne K (.ref A.NotThere) (.ref A.TooMuch) = some false
  b_len : mg "len" = none
  b_abs : mg "abs" = none
  b_int : mg "int" = none
  b_list : mg "list" = none
  b_reversed : mg "reversed" = none
  b_isinstance : mg "isinstance" = none
  b_range : mg "range" = none
  b_bool : mg "bool" = none
  b_str : mg "str" = none
  b_tuple : mg "tuple" = none
  b_min : mg "min" = none
  b_max : mg "max" = none
  b_sum : mg "sum" = none
  b_sorted : mg "sorted" = none
  g_gcd : mg "gcd" = some (.builtin "math.gcd")
  c_MOST_MORE : CoAt K mg "MOST_MORE" (.int 400)
  c_MOST_WORTH : CoAt K mg "MOST_WORTH" (.int 1000000000000)
section
variable {P : Program} {w : World} {K : PySem.W.Frag} {mg : Str → Option Value} {base : Heap} {A : Ads}
theorem ok_is_number (T : Txt K mg A)  
    (len : ∀ vs H Q E, sp_is_number vs H Q E → vs.length = 3) (rd : ∀ vs H Q E, sp_is_number vs H Q E → t_is_number K A E  { nx := fun _ H' => Q .non H', rt := Q } (L2.start N_is_number vs) H) :
    FnOk P w K mg base CX0 1 T.is_number.a T.is_number.fd ["value", "least", "most"] sp_is_number := by
  refine T.is_number.F.ok sc_is_number len (fun cdv AA outer s H vs Q E hr h => ⟨t_is_number K A E , ?_, rd vs H Q E h⟩)
  have hr : Room 0 _ := hr
  have hu := hr
  have nd := sc_is_number.nd
  exact (pss_one (ps_ret (d_and (pe_callB d_isi (by rfl) T.b_isinstance (by decide +kernel) (pa_cons (dv 0) (pa_cons (pe_bltn (by rfl) T.b_int boot_int rfl) pa_nil))) (d_and (d_not (pe_callB d_isi (by rfl) T.b_isinstance (by decide +kernel) (pa_cons (dv 0) (pa_cons (pe_bltn (by rfl) T.b_bool boot_bool rfl) pa_nil)))) (pe_one (d_chain d_le d_le (dv 1) (dv 0) (dv 2)))))))
theorem ok_lowest (T : Txt K mg A)  
    (len : ∀ vs H Q E, sp_lowest vs H Q E → vs.length = 2) (rd : ∀ vs H Q E, sp_lowest vs H Q E → t_lowest K A E  { nx := fun _ H' => Q .non H', rt := Q } (L2.start N_lowest vs) H) :
    FnOk P w K mg base CX0 1 T.lowest.a T.lowest.fd ["part", "whole"] sp_lowest := by
  refine T.lowest.F.ok sc_lowest len (fun cdv AA outer s H vs Q E hr h => ⟨t_lowest K A E , ?_, rd vs H Q E h⟩)
  have hr : Room 0 _ := hr
  have hu := hr
  have nd := sc_lowest.nd
  exact (pss_cons (ps_set (i := 2) nd rfl (Or.inl rfl) (pe_callBfun d_gcd (by rfl) T.g_gcd (pa_cons (dv 0) (pa_cons (dv 1) pa_nil))))
  (pss_cons (ps_if (dt_cmp d_lt (dv 1) pe_int (nomark _))
  (pss_one (ps_set (i := 2) nd rfl (Or.inl rfl) (pe_un d_neg (dv 2))))
  pss_nil)
  (pss_one (ps_ret (pe_tup (pa_cons (pe_op d_div (dv 0) (dv 2)) (pa_cons (pe_op d_div (dv 1) (dv 2)) pa_nil)))))))
theorem ok_made (T : Txt K mg A)  (G_lowest : FnOk P w K mg base CX0 1 T.lowest.a T.lowest.fd ["part", "whole"] sp_lowest)
    (len : ∀ vs H Q E, (sp_made A) vs H Q E → vs.length = 2) (rd : ∀ vs H Q E, (sp_made A) vs H Q E → t_made K A E  { nx := fun _ H' => Q .non H', rt := Q } (L2.start N_made vs) H) :
    FnOk P w K mg base (L2N.CX P w) 2 T.made.a T.made.fd ["part", "whole"] (sp_made A) := by
  refine okN T.made.F sc_made len (fun cdv AA outer s H vs Q E hr h => ⟨t_made K A E , ?_, rd vs H Q E h⟩)
  have hr : Room 1 _ := hr
  have hu := hr
  have nd := sc_made.nd
  exact (pss_cons (ps_if (dt_cmp d_eq (dv 1) pe_int (nomark _))
  (pss_one (L2N.ps_raise rfl (tkN rfl rfl rfl rfl) (L2N.pmk_own PySem.F.excBase_ValueError T.x_OutOfRange.ex T.x_OutOfRange.g T.x_OutOfRange.k (raises_own T.x_OutOfRange.b T.x_OutOfRange.t) (by rfl))))
  pss_nil)
  (pss_one (ps_ret (c_call G_lowest (hr.mono (by decide)) T.lowest.g T.lowest.F.kp T.lowest.b (fun _ => at0) (pa_cons (dv 0) (pa_cons (dv 1) pa_nil))))))
theorem ok_less (T : Txt K mg A)  
    (len : ∀ vs H Q E, sp_less vs H Q E → vs.length = 2) (rd : ∀ vs H Q E, sp_less vs H Q E → t_less K A E  { nx := fun _ H' => Q .non H', rt := Q } (L2.start N_less vs) H) :
    FnOk P w K mg base CX0 1 T.less.a T.less.fd ["one", "other"] sp_less := by
  refine T.less.F.ok sc_less len (fun cdv AA outer s H vs Q E hr h => ⟨t_less K A E , ?_, rd vs H Q E h⟩)
  have hr : Room 0 _ := hr
  have hu := hr
  have nd := sc_less.nd
  exact (pss_one (ps_ret (pe_cmpR d_lt (pe_op d_mul (pe_ix d_ix (dv 0) pe_int (fun _ _ => rfl)) (pe_ix d_ix (dv 1) pe_int (fun _ _ => rfl))) (pe_op d_mul (pe_ix d_ix (dv 1) pe_int (fun _ _ => rfl)) (pe_ix d_ix (dv 0) pe_int (fun _ _ => rfl))) (nomark _))))
theorem ok_rank_place (T : Txt K mg A)  
    (len : ∀ vs H Q E, sp_rank_place vs H Q E → vs.length = 3) (rd : ∀ vs H Q E, sp_rank_place vs H Q E → t_rank_place K A E  { nx := fun _ H' => Q .non H', rt := Q } (L2.start N_rank_place vs) H) :
    FnOk P w K mg base CX0 1 T.rank_place.a T.rank_place.fd ["many", "part", "whole"] sp_rank_place := by
  refine T.rank_place.F.ok sc_rank_place len (fun cdv AA outer s H vs Q E hr h => ⟨t_rank_place K A E , ?_, rd vs H Q E h⟩)
  have hr : Room 0 _ := hr
  have hu := hr
  have nd := sc_rank_place.nd
  exact (pss_one (ps_ret (pe_op d_div (pe_op d_mul (pe_op d_sub (dv 0) pe_int) (dv 1)) (dv 2))))
theorem ok_rank_of_all (T : Txt K mg A)  (G_rank_place : FnOk P w K mg base CX0 1 T.rank_place.a T.rank_place.fd ["many", "part", "whole"] sp_rank_place)
    (len : ∀ vs H Q E, (sp_rank_of_all A) vs H Q E → vs.length = 3) (rd : ∀ vs H Q E, (sp_rank_of_all A) vs H Q E → t_rank_of_all K A E  { nx := fun _ H' => Q .non H', rt := Q } (L2.start N_rank_of_all vs) H) :
    FnOk P w K mg base (L2N.CX P w) 2 T.rank_of_all.a T.rank_of_all.fd ["numbers", "part", "whole"] (sp_rank_of_all A) := by
  refine okN T.rank_of_all.F sc_rank_of_all len (fun cdv AA outer s H vs Q E hr h => ⟨t_rank_of_all K A E , ?_, rd vs H Q E h⟩)
  have hr : Room 1 _ := hr
  have hu := hr
  have nd := sc_rank_of_all.nd
  exact (pss_cons (ps_if (dt_cmp d_eq (pe_callB d_len (by rfl) T.b_len (by decide +kernel) (pa_cons (dv 0) pa_nil)) pe_int (nomark _))
  (pss_one (L2N.ps_raise rfl (tkN rfl rfl rfl rfl) (L2N.pmk_own PySem.F.excBase_ValueError T.x_NotThere.ex T.x_NotThere.g T.x_NotThere.k (raises_own T.x_NotThere.b T.x_NotThere.t) (by rfl))))
  pss_nil)
  (pss_one (ps_ret (pe_ix d_ix (pe_callB cr_sortedI (by rfl) T.b_sorted (by decide +kernel) (pa_cons (dv 0) pa_nil)) (c_call G_rank_place (hr.mono (by decide)) T.rank_place.g T.rank_place.F.kp T.rank_place.b (fun _ => at0) (pa_cons (pe_callB d_len (by rfl) T.b_len (by decide +kernel) (pa_cons (dv 0) pa_nil)) (pa_cons (dv 1) (pa_cons (dv 2) pa_nil)))) (fun _ _ => rfl)))))
theorem ok_check_more (T : Txt K mg A)  (G_is_number : FnOk P w K mg base CX0 1 T.is_number.a T.is_number.fd ["value", "least", "most"] sp_is_number)
    (len : ∀ vs H Q E, (sp_check_more A) vs H Q E → vs.length = 4) (rd : ∀ vs H Q E, (sp_check_more A) vs H Q E → t_check_more K A E  { nx := fun _ H' => Q .non H', rt := Q } (L2.start N_check_more vs) H) :
    FnOk P w K mg base (L2N.CX P w) 2 T.check_more.a T.check_more.fd ["fewest", "most", "low", "high"] (sp_check_more A) := by
  refine okN T.check_more.F sc_check_more len (fun cdv AA outer s H vs Q E hr h => ⟨t_check_more K A E , ?_, rd vs H Q E h⟩)
  have hr : Room 1 _ := hr
  have hu := hr
  have nd := sc_check_more.nd
  exact (pss_cons (ps_if (PW.pt (pw_or (pt_not (dt_tru (c_call G_is_number (hr.mono (by decide)) T.is_number.g T.is_number.F.kp T.is_number.b (fun _ => at0) (pa_cons (dv 1) (pa_cons pe_int (pa_cons (let ⟨_, hm, hr⟩ := T.c_MOST_MORE.ex; pe_glob (by rfl) hm hr) pa_nil)))))) (pw_or1 (pt_not (dt_tru (c_call G_is_number (hr.mono (by decide)) T.is_number.g T.is_number.F.kp T.is_number.b (fun _ => at0) (pa_cons (dv 0) (pa_cons pe_int (pa_cons (dv 1) pa_nil)))))))))
  (pss_one (L2N.ps_raise rfl (tkN rfl rfl rfl rfl) (L2N.pmk_own PySem.F.excBase_ValueError T.x_OutOfRange.ex T.x_OutOfRange.g T.x_OutOfRange.k (raises_own T.x_OutOfRange.b T.x_OutOfRange.t) (by rfl))))
  pss_nil)
  (pss_one (ps_if (PW.pt (pw_or (pt_not (dt_tru (c_call G_is_number (hr.mono (by decide)) T.is_number.g T.is_number.F.kp T.is_number.b (fun _ => at0) (pa_cons (dv 3) (pa_cons (pe_un d_neg (let ⟨_, hm, hr⟩ := T.c_MOST_WORTH.ex; pe_glob (by rfl) hm hr)) (pa_cons (let ⟨_, hm, hr⟩ := T.c_MOST_WORTH.ex; pe_glob (by rfl) hm hr) pa_nil)))))) (pw_or1 (pt_not (dt_tru (c_call G_is_number (hr.mono (by decide)) T.is_number.g T.is_number.F.kp T.is_number.b (fun _ => at0) (pa_cons (dv 2) (pa_cons (pe_un d_neg (let ⟨_, hm, hr⟩ := T.c_MOST_WORTH.ex; pe_glob (by rfl) hm hr)) (pa_cons (dv 3) pa_nil)))))))))
  (pss_one (L2N.ps_raise rfl (tkN rfl rfl rfl rfl) (L2N.pmk_own PySem.F.excBase_ValueError T.x_OutOfRange.ex T.x_OutOfRange.g T.x_OutOfRange.k (raises_own T.x_OutOfRange.b T.x_OutOfRange.t) (by rfl))))
  pss_nil)))
theorem ok_ends_of (T : Txt K mg A)  
    (len : ∀ vs H Q E, sp_ends_of vs H Q E → vs.length = 3) (rd : ∀ vs H Q E, sp_ends_of vs H Q E → t_ends_of K A E  { nx := fun _ H' => Q .non H', rt := Q } (L2.start N_ends_of vs) H) :
    FnOk P w K mg base CX0 1 T.ends_of.a T.ends_of.fd ["fewest", "most", "needed"] sp_ends_of := by
  refine T.ends_of.F.ok sc_ends_of len (fun cdv AA outer s H vs Q E hr h => ⟨t_ends_of K A E , ?_, rd vs H Q E h⟩)
  have hr : Room 0 _ := hr
  have hu := hr
  have nd := sc_ends_of.nd
  exact (pss_one (ps_ret (d_lcT (own := [("many", 3)]) rfl nd (pe_tup (pa_cons (pe_callB (d_max2 rfl) (by rfl) T.b_max (by decide +kernel) (pa_cons (dv 0) (pa_cons (dv 2) pa_nil))) (pa_cons (dv 1) pa_nil))) (blkOk_by (N := N_ends_of) (sc := (defScope s_ends_of)) (by decide +kernel)) (fun _ _ _ _ _ => (pg_name (i := 3) nd rfl (Or.inl rfl))) (fun _ _ _ _ _ => pts_one (dt_chain d_le d_le (dv 2) (dv 3) (dv 1))) (fun _ _ _ _ _ => (dv 3)))))
theorem ok_range_of_total (T : Txt K mg A)  (G_check_more : FnOk P w K mg base (L2N.CX P w) 2 T.check_more.a T.check_more.fd ["fewest", "most", "low", "high"] (sp_check_more A))
    (len : ∀ vs H Q E, (sp_range_of_total A) vs H Q E → vs.length = 5) (rd : ∀ vs H Q E, (sp_range_of_total A) vs H Q E → t_range_of_total K A E  { nx := fun _ H' => Q .non H', rt := Q } (L2.start N_range_of_total vs) H) :
    FnOk P w K mg base (L2N.CX P w) 3 T.range_of_total.a T.range_of_total.fd ["total", "fewest", "most", "low", "high"] (sp_range_of_total A) := by
  refine okN T.range_of_total.F sc_range_of_total len (fun cdv AA outer s H vs Q E hr h => ⟨t_range_of_total K A E , ?_, rd vs H Q E h⟩)
  have hr : Room 2 _ := hr
  have hu := hr
  have nd := sc_range_of_total.nd
  exact (pss_cons (ps_expr (c_call G_check_more (hr.mono (by decide)) T.check_more.g T.check_more.F.kp T.check_more.b (fun σ => L2N.passAt (tkN rfl rfl rfl rfl) σ) (pa_cons (dv 1) (pa_cons (dv 2) (pa_cons (dv 3) (pa_cons (dv 4) pa_nil))))))
  (pss_one (ps_ret (pe_tup (pa_cons (pe_op d_add2 (dv 0) (pe_callB (d_min2 rfl) (by rfl) T.b_min (by decide +kernel) (pa_cons (pe_op d_mul (dv 1) (dv 3)) (pa_cons (pe_op d_mul (dv 2) (dv 3)) pa_nil)))) (pa_cons (pe_op d_add2 (dv 0) (pe_callB (d_max2 rfl) (by rfl) T.b_max (by decide +kernel) (pa_cons (pe_op d_mul (dv 1) (dv 4)) (pa_cons (pe_op d_mul (dv 2) (dv 4)) pa_nil)))) pa_nil))))))
theorem ok_range_of_greatest (T : Txt K mg A)  (G_check_more : FnOk P w K mg base (L2N.CX P w) 2 T.check_more.a T.check_more.fd ["fewest", "most", "low", "high"] (sp_check_more A))
    (len : ∀ vs H Q E, (sp_range_of_greatest A) vs H Q E → vs.length = 5) (rd : ∀ vs H Q E, (sp_range_of_greatest A) vs H Q E → t_range_of_greatest K A E  { nx := fun _ H' => Q .non H', rt := Q } (L2.start N_range_of_greatest vs) H) :
    FnOk P w K mg base (L2N.CX P w) 3 T.range_of_greatest.a T.range_of_greatest.fd ["greatest", "fewest", "most", "low", "high"] (sp_range_of_greatest A) := by
  refine okN T.range_of_greatest.F sc_range_of_greatest len (fun cdv AA outer s H vs Q E hr h => ⟨t_range_of_greatest K A E , ?_, rd vs H Q E h⟩)
  have hr : Room 2 _ := hr
  have hu := hr
  have nd := sc_range_of_greatest.nd
  exact (pss_cons (ps_expr (c_call G_check_more (hr.mono (by decide)) T.check_more.g T.check_more.F.kp T.check_more.b (fun σ => L2N.passAt (tkN rfl rfl rfl rfl) σ) (pa_cons (dv 1) (pa_cons (dv 2) (pa_cons (dv 3) (pa_cons (dv 4) pa_nil))))))
  (pss_cons (ps_if (dt_cmp d_is (dv 0) pe_non (nomark _))
  (pss_cons (ps_if (dt_cmp d_eq (dv 2) pe_int (nomark _))
  (pss_one (L2N.ps_raise rfl (tkN rfl rfl rfl rfl) (L2N.pmk_own PySem.F.excBase_ValueError T.x_NotThere.ex T.x_NotThere.g T.x_NotThere.k (raises_own T.x_NotThere.b T.x_NotThere.t) (by rfl))))
  pss_nil)
  (pss_one (ps_ret (pe_tup (pa_cons (dv 3) (pa_cons (dv 4) pa_nil))))))
  pss_nil)
  (pss_one (ps_ret (pe_tup (pa_cons (pe_ifExp (dt_cmp d_gt (dv 1) pe_int (nomark _)) (pe_callB (d_max2 rfl) (by rfl) T.b_max (by decide +kernel) (pa_cons (dv 0) (pa_cons (dv 3) pa_nil))) (dv 0)) (pa_cons (pe_ifExp (dt_cmp d_gt (dv 2) pe_int (nomark _)) (pe_callB (d_max2 rfl) (by rfl) T.b_max (by decide +kernel) (pa_cons (dv 0) (pa_cons (dv 4) pa_nil))) (dv 0)) pa_nil)))))))
theorem ok_range_of_mean (T : Txt K mg A)  (G_less : FnOk P w K mg base CX0 1 T.less.a T.less.fd ["one", "other"] sp_less) (G_made : FnOk P w K mg base (L2N.CX P w) 2 T.made.a T.made.fd ["part", "whole"] (sp_made A)) (G_ends_of : FnOk P w K mg base CX0 1 T.ends_of.a T.ends_of.fd ["fewest", "most", "needed"] sp_ends_of) (G_check_more : FnOk P w K mg base (L2N.CX P w) 2 T.check_more.a T.check_more.fd ["fewest", "most", "low", "high"] (sp_check_more A))
    (len : ∀ vs H Q E, (sp_range_of_mean A) vs H Q E → vs.length = 6) (rd : ∀ vs H Q E, (sp_range_of_mean A) vs H Q E → t_range_of_mean K A E  { nx := fun _ H' => Q .non H', rt := Q } (L2.start N_range_of_mean vs) H) :
    FnOk P w K mg base (L2N.CX P w) 3 T.range_of_mean.a T.range_of_mean.fd ["many", "total", "fewest", "most", "low", "high"] (sp_range_of_mean A) := by
  refine okN T.range_of_mean.F sc_range_of_mean len (fun cdv AA outer s H vs Q E hr h => ⟨t_range_of_mean K A E , ?_, rd vs H Q E h⟩)
  have hr : Room 2 _ := hr
  have hu := hr
  have nd := sc_range_of_mean.nd
  exact (pss_cons (ps_expr (c_call G_check_more (hr.mono (by decide)) T.check_more.g T.check_more.F.kp T.check_more.b (fun σ => L2N.passAt (tkN rfl rfl rfl rfl) σ) (pa_cons (dv 2) (pa_cons (dv 3) (pa_cons (dv 4) (pa_cons (dv 5) pa_nil))))))
  (pss_cons (ps_if (dt_cmp d_eq (pe_op d_add2 (dv 0) (dv 3)) pe_int (nomark _))
  (pss_one (L2N.ps_raise rfl (tkN rfl rfl rfl rfl) (L2N.pmk_own PySem.F.excBase_ValueError T.x_NotThere.ex T.x_NotThere.g T.x_NotThere.k (raises_own T.x_NotThere.b T.x_NotThere.t) (by rfl))))
  pss_nil)
  (pss_cons (ps_set (i := 6) nd rfl (Or.inl rfl) (c_call G_ends_of (hr.mono (by decide)) T.ends_of.g T.ends_of.F.kp T.ends_of.b (fun _ => at0) (pa_cons (dv 2) (pa_cons (dv 3) (pa_cons (pe_ifExp (dt_cmp d_eq (dv 0) pe_int (nomark _)) pe_int pe_int) pa_nil)))))
  (pss_cons (d_set2 (i := 7) (own := [("more", 11), ("worth", 12)]) (vs1 := [12]) rfl nd rfl rfl (sw_true rfl rfl rfl (by decide +kernel)) (dv 6) (blkOk_by (N := N_range_of_mean) (sc := (defScope s_range_of_mean)) (by decide +kernel)) (by decide) (fun _ _ _ _ _ => (pg_name (i := 11) nd rfl (Or.inl rfl))) (fun _ _ _ _ _ => pts_nil) (fun _ _ _ _ _ => pi_dT (pe_tup (pa_cons (dv 4) (pa_cons (dv 5) pa_nil)))) (fun _ _ _ _ _ => (pg_name (i := 12) nd rfl (Or.inl rfl))) (fun _ _ _ _ _ => pts_nil) (fun _ _ _ _ _ => (c_call G_made (hr.mono (by decide)) T.made.g T.made.F.kp T.made.b (fun _ => atN) (pa_cons (pe_op d_add2 (dv 1) (pe_op d_mul (dv 11) (dv 12))) (pa_cons (pe_op d_add2 (dv 0) (dv 11)) pa_nil)))))
  (pss_cons (ps_asg2 (pe_ix d_ix (dv 7) pe_int (fun _ _ => rfl)) (pg_name (i := 8) nd rfl (Or.inl rfl)) (pg_name (i := 9) nd rfl (Or.inl rfl)))
  (pss_cons (d_forL (L2.passes_of rfl) rfl (dv 7) (pg_name (i := 10) nd rfl (Or.inl rfl))
  (pss_cons (ps_set (i := 8) nd rfl (Or.inl rfl) (pe_ifExp (dt_tru (c_call G_less (hr.mono (by decide)) T.less.g T.less.F.kp T.less.b (fun _ => at0) (pa_cons (dv 10) (pa_cons (dv 8) pa_nil)))) (dv 10) (dv 8)))
  (pss_one (ps_set (i := 9) nd rfl (Or.inl rfl) (pe_ifExp (dt_tru (c_call G_less (hr.mono (by decide)) T.less.g T.less.F.kp T.less.b (fun _ => at0) (pa_cons (dv 9) (pa_cons (dv 10) pa_nil)))) (dv 10) (dv 9))))))
  (pss_one (ps_ret (pe_tup (pa_cons (dv 8) (pa_cons (dv 9) pa_nil)))))))))))
theorem ok_range_of_rank (T : Txt K mg A)  (G_rank_of_all : FnOk P w K mg base (L2N.CX P w) 2 T.rank_of_all.a T.rank_of_all.fd ["numbers", "part", "whole"] (sp_rank_of_all A)) (G_check_more : FnOk P w K mg base (L2N.CX P w) 2 T.check_more.a T.check_more.fd ["fewest", "most", "low", "high"] (sp_check_more A))
    (len : ∀ vs H Q E, (sp_range_of_rank A) vs H Q E → vs.length = 7) (rd : ∀ vs H Q E, (sp_range_of_rank A) vs H Q E → t_range_of_rank K A E  { nx := fun _ H' => Q .non H', rt := Q } (L2.start N_range_of_rank vs) H) :
    FnOk P w K mg base (L2N.CX P w) 3 T.range_of_rank.a T.range_of_rank.fd ["numbers", "part", "whole", "fewest", "most", "low", "high"] (sp_range_of_rank A) := by
  refine okN T.range_of_rank.F sc_range_of_rank len (fun cdv AA outer s H vs Q E hr h => ⟨t_range_of_rank K A E , ?_, rd vs H Q E h⟩)
  have hr : Room 2 _ := hr
  have hu := hr
  have nd := sc_range_of_rank.nd
  exact (pss_cons (ps_expr (c_call G_check_more (hr.mono (by decide)) T.check_more.g T.check_more.F.kp T.check_more.b (fun σ => L2N.passAt (tkN rfl rfl rfl rfl) σ) (pa_cons (dv 3) (pa_cons (dv 4) (pa_cons (dv 5) (pa_cons (dv 6) pa_nil))))))
  (pss_cons (ps_if (dt_cmp d_eq (pe_op d_add2 (pe_callB d_len (by rfl) T.b_len (by decide +kernel) (pa_cons (dv 0) pa_nil)) (dv 4)) pe_int (nomark _))
  (pss_one (L2N.ps_raise rfl (tkN rfl rfl rfl rfl) (L2N.pmk_own PySem.F.excBase_ValueError T.x_NotThere.ex T.x_NotThere.g T.x_NotThere.k (raises_own T.x_NotThere.b T.x_NotThere.t) (by rfl))))
  pss_nil)
  (pss_cons (d_setR2 (i := 7) (own := [("more", 10)]) rfl nd rfl rfl (sw_true rfl rfl rfl (by decide +kernel)) T.b_range (pa_cons (dv 3) (pa_cons (pe_op d_add2 (dv 4) pe_int) pa_nil)) (blkOk_by (N := N_range_of_rank) (sc := (defScope s_range_of_rank)) (by decide +kernel)) (fun _ _ _ _ _ => (pg_name (i := 10) nd rfl (Or.inl rfl))) (fun _ _ _ _ _ => pts_one (dt_cmp d_gt (pe_op d_add2 (pe_callB d_len (by rfl) T.b_len (by decide +kernel) (pa_cons (dv 0) pa_nil)) (dv 10)) pe_int (nomark _))) (fun _ _ _ _ _ => (dv 10)))
  (pss_cons (d_setL (i := 8) (own := [("more", 10)]) rfl nd rfl rfl (sw_true rfl rfl rfl (by decide +kernel)) (dv 7) (blkOk_by (N := N_range_of_rank) (sc := (defScope s_range_of_rank)) (by decide +kernel)) (fun _ _ _ _ _ => (pg_name (i := 10) nd rfl (Or.inl rfl))) (fun _ _ _ _ _ => pts_nil) (fun _ _ _ _ _ => (c_call G_rank_of_all (hr.mono (by decide)) T.rank_of_all.g T.rank_of_all.F.kp T.rank_of_all.b (fun _ => atN) (pa_cons (pe_lst (d_star (dv 0) (d_star (pe_op d_mul (pe_lst (pa_cons (dv 5) pa_nil)) (dv 10)) pa_nil))) (pa_cons (dv 1) (pa_cons (dv 2) pa_nil))))))
  (pss_cons (d_setL (i := 9) (own := [("more", 10)]) rfl nd rfl rfl (sw_true rfl rfl rfl (by decide +kernel)) (dv 7) (blkOk_by (N := N_range_of_rank) (sc := (defScope s_range_of_rank)) (by decide +kernel)) (fun _ _ _ _ _ => (pg_name (i := 10) nd rfl (Or.inl rfl))) (fun _ _ _ _ _ => pts_nil) (fun _ _ _ _ _ => (c_call G_rank_of_all (hr.mono (by decide)) T.rank_of_all.g T.rank_of_all.F.kp T.rank_of_all.b (fun _ => atN) (pa_cons (pe_lst (d_star (dv 0) (d_star (pe_op d_mul (pe_lst (pa_cons (dv 6) pa_nil)) (dv 10)) pa_nil))) (pa_cons (dv 1) (pa_cons (dv 2) pa_nil))))))
  (pss_one (ps_ret (pe_tup (pa_cons (pe_callB (cr_min rfl) (by rfl) T.b_min (by decide +kernel) (pa_cons (dv 8) pa_nil)) (pa_cons (pe_callB (cr_max rfl) (by rfl) T.b_max (by decide +kernel) (pa_cons (dv 9) pa_nil)) pa_nil))))))))))
theorem ok_range_of_area (T : Txt K mg A)  (G_check_more : FnOk P w K mg base (L2N.CX P w) 2 T.check_more.a T.check_more.fd ["fewest", "most", "low", "high"] (sp_check_more A))
    (len : ∀ vs H Q E, (sp_range_of_area A) vs H Q E → vs.length = 5) (rd : ∀ vs H Q E, (sp_range_of_area A) vs H Q E → t_range_of_area K A E  { nx := fun _ H' => Q .non H', rt := Q } (L2.start N_range_of_area vs) H) :
    FnOk P w K mg base (L2N.CX P w) 3 T.range_of_area.a T.range_of_area.fd ["area", "time", "until", "low", "high"] (sp_range_of_area A) := by
  refine okN T.range_of_area.F sc_range_of_area len (fun cdv AA outer s H vs Q E hr h => ⟨t_range_of_area K A E , ?_, rd vs H Q E h⟩)
  have hr : Room 2 _ := hr
  have hu := hr
  have nd := sc_range_of_area.nd
  exact (pss_cons (ps_expr (c_call G_check_more (hr.mono (by decide)) T.check_more.g T.check_more.F.kp T.check_more.b (fun σ => L2N.passAt (tkN rfl rfl rfl rfl) σ) (pa_cons pe_int (pa_cons pe_int (pa_cons (dv 3) (pa_cons (dv 4) pa_nil))))))
  (pss_cons (ps_if (pt_not (dt_chain d_le d_le pe_int (dv 1) (dv 2)))
  (pss_one (L2N.ps_raise rfl (tkN rfl rfl rfl rfl) (L2N.pmk_own PySem.F.excBase_ValueError T.x_OutOfRange.ex T.x_OutOfRange.g T.x_OutOfRange.k (raises_own T.x_OutOfRange.b T.x_OutOfRange.t) (by rfl))))
  pss_nil)
  (pss_one (ps_ret (pe_tup (pa_cons (pe_op d_add2 (dv 0) (pe_op d_mul (pe_op d_sub (dv 2) (dv 1)) (dv 3))) (pa_cons (pe_op d_add2 (dv 0) (pe_op d_mul (pe_op d_sub (dv 2) (dv 1)) (dv 4))) pa_nil)))))))
theorem ok_is_settled (T : Txt K mg A)  
    (len : ∀ vs H Q E, sp_is_settled vs H Q E → vs.length = 1) (rd : ∀ vs H Q E, sp_is_settled vs H Q E → t_is_settled K A E  { nx := fun _ H' => Q .non H', rt := Q } (L2.start N_is_settled vs) H) :
    FnOk P w K mg base CX0 1 T.is_settled.a T.is_settled.fd ["ends"] sp_is_settled := by
  refine T.is_settled.F.ok sc_is_settled len (fun cdv AA outer s H vs Q E hr h => ⟨t_is_settled K A E , ?_, rd vs H Q E h⟩)
  have hr : Room 0 _ := hr
  have hu := hr
  have nd := sc_is_settled.nd
  exact (pss_one (ps_ret (pe_cmpR (d_eqD hu) (pe_ix d_ix (dv 0) pe_int (fun _ _ => rfl)) (pe_ix d_ix (dv 0) pe_int (fun _ _ => rfl)) (nomark _))))
theorem ok_law_draws (T : Txt K mg A)  
    (len : ∀ vs H Q E, (sp_law_draws K) vs H Q E → vs.length = 1) (rd : ∀ vs H Q E, (sp_law_draws K) vs H Q E → t_law_draws K A E  { nx := fun _ H' => Q .non H', rt := Q } (L2.start N_law_draws vs) H) :
    FnOk P w K mg base CX0 1 T.law_draws.a T.law_draws.fd ["script"] (sp_law_draws K) := by
  refine T.law_draws.F.ok sc_law_draws len (fun cdv AA outer s H vs Q E hr h => ⟨t_law_draws K A E , ?_, rd vs H Q E h⟩)
  have hr : Room 0 _ := hr
  have hu := hr
  have nd := sc_law_draws.nd
  exact (pss_cons (ps_set (i := 1) nd rfl (Or.inl rfl) (pe_lst pa_nil))
  (pss_cons (d_forL PassesOwn.never rfl (dv 0) (pg_name (i := 2) nd rfl (Or.inl rfl))
  (pss_cons (ps_set (i := 3) nd rfl (Or.inl rfl) (pe_callB d_abs (by rfl) T.b_abs (by decide +kernel) (pa_cons (dv 2) pa_nil)))
  (pss_cons (ps_if (dt_cmp d_lt (dv 3) (pe_op d_pow pe_int pe_int) (nomark _))
  (pss_cons (ps_set (i := 4) nd rfl (Or.inl rfl) (pe_op d_mod (pe_callTy d_int (by rfl) T.b_int (by decide +kernel) (pa_cons (pe_op d_add2 (pe_op d_mul (dv 3) pe_int) pe_int) pa_nil)) pe_int))
  (pss_cons (ps_expr (d_bm PySem.F.plainAttrs_list PySem.F.slot_list_append PySem.F.type_list_append m_append (dv 1) (pa_cons (pe_op d_mod (pe_callTy d_int (by rfl) T.b_int (by decide +kernel) (pa_cons (pe_op d_add2 (pe_op d_mul (dv 4) pe_int) (dv 3)) pa_nil)) pe_int) pa_nil)))
  (pss_cons (ps_expr (d_bm PySem.F.plainAttrs_list PySem.F.slot_list_append PySem.F.type_list_append m_append (dv 1) (pa_cons (pe_op d_mod (pe_callTy d_int (by rfl) T.b_int (by decide +kernel) (pa_cons (pe_op d_add2 (dv 4) (pe_op d_div (dv 3) pe_int)) pa_nil)) pe_int) pa_nil)))
  (pss_one (ps_set (i := 3) nd rfl (Or.inl rfl) pe_int)))))
  pss_nil)
  (pss_one (d_forR1 PassesOwn.never rfl T.b_range (pa_cons pe_int pa_nil) (pg_name (i := 5) nd rfl (Or.inl rfl))
  (pss_one (ps_if (dt_cmp d_gt (dv 3) pe_int (nomark _))
  (pss_cons (ps_expr (d_bm PySem.F.plainAttrs_list PySem.F.slot_list_append PySem.F.type_list_append m_append (dv 1) (pa_cons (pe_op d_mod (pe_callTy d_int (by rfl) T.b_int (by decide +kernel) (pa_cons (dv 3) pa_nil)) pe_int) pa_nil)))
  (pss_one (ps_set (i := 3) nd rfl (Or.inl rfl) (pe_op d_div (dv 3) pe_int))))
  pss_nil)))))))
  (pss_cons (ps_set (i := 6) nd rfl (Or.inl rfl) pe_int)
  (pss_cons (ps_if (dt_cmp d_gt (pe_callB u_len (by rfl) T.b_len (by decide +kernel) (pa_cons (dv 0) pa_nil)) pe_int (nomark _))
  (pss_one (ps_set (i := 6) nd rfl (Or.inl rfl) (pe_op d_add2 pe_int (pe_callB d_abs (by rfl) T.b_abs (by decide +kernel) (pa_cons (pe_ix ix_seq (dv 0) pe_int (fun _ _ => rfl)) pa_nil)))))
  pss_nil)
  (pss_cons (d_forR1 PassesOwn.never rfl T.b_range (pa_cons pe_int pa_nil) (pg_name (i := 5) nd rfl (Or.inl rfl))
  (pss_cons (ps_set (i := 6) nd rfl (Or.inl rfl) (pe_op d_mod (pe_callTy d_int (by rfl) T.b_int (by decide +kernel) (pa_cons (pe_op d_add2 (pe_op d_mul (dv 6) pe_int) pe_int) pa_nil)) pe_int))
  (pss_one (ps_expr (d_bm PySem.F.plainAttrs_list PySem.F.slot_list_append PySem.F.type_list_append m_append (dv 1) (pa_cons (pe_op d_div (dv 6) pe_int) pa_nil))))))
  (pss_one (ps_ret (pe_listRev rfl T.b_list T.b_reversed (dv 1)))))))))
theorem ok_law_take (T : Txt K mg A)  
    (len : ∀ vs H Q E, sp_law_take vs H Q E → vs.length = 2) (rd : ∀ vs H Q E, sp_law_take vs H Q E → t_law_take K A E  { nx := fun _ H' => Q .non H', rt := Q } (L2.start N_law_take vs) H) :
    FnOk P w K mg base CX0 1 T.law_take.a T.law_take.fd ["draws", "bound"] sp_law_take := by
  refine T.law_take.F.ok sc_law_take len (fun cdv AA outer s H vs Q E hr h => ⟨t_law_take K A E , ?_, rd vs H Q E h⟩)
  have hr : Room 0 _ := hr
  have hu := hr
  have nd := sc_law_take.nd
  exact (pss_cons (ps_if (dt_cmp d_eq (pe_callB d_len (by rfl) T.b_len (by decide +kernel) (pa_cons (dv 0) pa_nil)) pe_int (nomark _))
  (pss_one (ps_ret pe_int))
  pss_nil)
  (pss_one (ps_ret (pe_op d_mod (pe_callTy d_int (by rfl) T.b_int (by decide +kernel) (pa_cons (d_bm0 PySem.F.plainAttrs_list PySem.F.slot_list_pop PySem.F.type_list_pop m_pop (dv 0)) pa_nil)) (dv 1)))))
theorem ok_law_alike (T : Txt K mg A) (sq ss : Sp) (n : Nat) (G_law_alike : FnOk P w K mg base CX0 (n + 1) T.law_alike.a T.law_alike.fd ["found", "due"] sq)
    (len : ∀ vs H Q E, ss vs H Q E → vs.length = 2) (rd : ∀ vs H Q E, ss vs H Q E → t_law_alike K A E sq { nx := fun _ H' => Q .non H', rt := Q } (L2.start N_law_alike vs) H) :
    FnOk P w K mg base CX0 (n + 2) T.law_alike.a T.law_alike.fd ["found", "due"] ss := by
  refine T.law_alike.F.ok sc_law_alike len (fun cdv AA outer s H vs Q E hr h => ⟨t_law_alike K A E sq, ?_, rd vs H Q E h⟩)
  have hr : Room (n + 1) _ := hr
  have hu := hr
  have nd := sc_law_alike.nd
  exact (pss_cons (ps_if (PW.pt (pw_or (dt_tru (pe_callB d_isi (by rfl) T.b_isinstance (by decide +kernel) (pa_cons (dv 1) (pa_cons (pe_bltn (by rfl) T.b_list boot_list rfl) pa_nil)))) (pw_or1 (dt_tru (pe_callB d_isi (by rfl) T.b_isinstance (by decide +kernel) (pa_cons (dv 1) (pa_cons (pe_bltn (by rfl) T.b_tuple boot_tuple rfl) pa_nil)))))))
  (pss_cons (ps_if (PW.pt (pw_or (dt_cmp d_ne (pe_callB d_isi (by rfl) T.b_isinstance (by decide +kernel) (pa_cons (dv 0) (pa_cons (pe_bltn (by rfl) T.b_list boot_list rfl) pa_nil))) (pe_callB d_isi (by rfl) T.b_isinstance (by decide +kernel) (pa_cons (dv 1) (pa_cons (pe_bltn (by rfl) T.b_list boot_list rfl) pa_nil))) (nomark _)) (pw_or1 (dt_cmp d_ne (pe_callB d_isi (by rfl) T.b_isinstance (by decide +kernel) (pa_cons (dv 0) (pa_cons (pe_bltn (by rfl) T.b_tuple boot_tuple rfl) pa_nil))) (pe_callB d_isi (by rfl) T.b_isinstance (by decide +kernel) (pa_cons (dv 1) (pa_cons (pe_bltn (by rfl) T.b_tuple boot_tuple rfl) pa_nil))) (nomark _)))))
  (pss_one (ps_ret pe_bl))
  pss_nil)
  (pss_one (ps_ret (d_and (pe_cmpR d_eq (pe_callB d_len (by rfl) T.b_len (by decide +kernel) (pa_cons (dv 0) pa_nil)) (pe_callB d_len (by rfl) T.b_len (by decide +kernel) (pa_cons (dv 1) pa_nil)) (nomark _)) (pe_one (pe_cmpR (d_eqD hu) (d_lcR1 (own := [("k", 2)]) rfl nd T.b_range (pa_cons (pe_callB d_len (by rfl) T.b_len (by decide +kernel) (pa_cons (dv 1) pa_nil)) pa_nil) (blkOk_by (N := N_law_alike) (sc := (defScope s_law_alike)) (by decide +kernel)) (fun _ _ _ _ _ => (pg_name (i := 2) nd rfl (Or.inl rfl))) (fun _ _ _ _ _ => pts_one (pt_not (dt_tru (c_call G_law_alike (hr.mono (by omega)) T.law_alike.g T.law_alike.F.kp T.law_alike.b (fun _ => at0) (pa_cons (pe_ix d_ix (dv 0) (dv 2) (fun _ _ => rfl)) (pa_cons (pe_ix d_ix (dv 1) (dv 2) (fun _ _ => rfl)) pa_nil)))))) (fun _ _ _ _ _ => (dv 2))) (pe_lst pa_nil) (nomark _)))))))
  pss_nil)
  (pss_cons (ps_if (dt_cmp d_is (dv 1) pe_non (nomark _))
  (pss_one (ps_ret (pe_cmpR d_is (dv 0) pe_non (nomark _))))
  pss_nil)
  (pss_cons (ps_if (PW.pt (pw_or (dt_tru (pe_callB d_isi (by rfl) T.b_isinstance (by decide +kernel) (pa_cons (dv 1) (pa_cons (pe_bltn (by rfl) T.b_bool boot_bool rfl) pa_nil)))) (pw_or1 (dt_tru (pe_callB d_isi (by rfl) T.b_isinstance (by decide +kernel) (pa_cons (dv 0) (pa_cons (pe_bltn (by rfl) T.b_bool boot_bool rfl) pa_nil)))))))
  (pss_one (ps_ret (d_and (pe_callB d_isi (by rfl) T.b_isinstance (by decide +kernel) (pa_cons (dv 0) (pa_cons (pe_bltn (by rfl) T.b_bool boot_bool rfl) pa_nil))) (d_and (pe_callB d_isi (by rfl) T.b_isinstance (by decide +kernel) (pa_cons (dv 1) (pa_cons (pe_bltn (by rfl) T.b_bool boot_bool rfl) pa_nil))) (pe_one (pe_cmpR d_eq (dv 0) (dv 1) (nomark _)))))))
  pss_nil)
  (pss_cons (ps_if (dt_tru (pe_callB d_isi (by rfl) T.b_isinstance (by decide +kernel) (pa_cons (dv 1) (pa_cons (pe_bltn (by rfl) T.b_int boot_int rfl) pa_nil))))
  (pss_one (ps_ret (d_and (pe_callB d_isi (by rfl) T.b_isinstance (by decide +kernel) (pa_cons (dv 0) (pa_cons (pe_bltn (by rfl) T.b_int boot_int rfl) pa_nil))) (pe_one (pe_cmpR d_eq (dv 0) (dv 1) (nomark _))))))
  pss_nil)
  (pss_one (ps_ret (d_and (pe_callB d_isi (by rfl) T.b_isinstance (by decide +kernel) (pa_cons (dv 0) (pa_cons (pe_bltn (by rfl) T.b_str boot_str rfl) pa_nil))) (pe_one (pe_cmpR d_eq (dv 0) (dv 1) (nomark _))))))))))
theorem ok_law_word (T : Txt K mg A) (len : ∀ a c d vs H Q E, (sp_law_word K A) a c d vs H Q E → vs.length = 1)
    (hD : ∀ a c d vs H Q E, (sp_law_word K A) a c d vs H Q E → ∃ D, c = .ref D ∧ d = none ∧ ExcC K D) (rd : ∀ ax D vs H Q E, (sp_law_word K A) ax (.ref D) none vs H Q E → t_law_word K A E ax D { nx := fun _ H' => Q .non H', rt := Q } (L2.start N_law_word vs) H) :
    FnE P w K mg base 1 T.law_word.a T.law_word.fd ["e"] (sp_law_word K A) := by
  refine fnE_of T.law_word.F sc_law_word len (fun cdv AA outer s H vs Q E p c dd hot1 hzp hr h => ?_)
  obtain ⟨D, rfl, rfl, hDx⟩ := hD _ _ _ _ _ _ _ h
  obtain ⟨ax, oe⟩ := p
  refine ⟨t_law_word K A E ax D, ?_, rd ax D vs H Q E h⟩
  have hfp : ∃ vs, oe.data = .fields vs := hot1.2.elim fun v h => ⟨v, h.1⟩
  have nd := sc_law_word.nd
  have hot : L2H.HotC (L2H.cxH CX0 P w K mg base N_law_word "_law_word" (defScope s_law_word) T.law_word.a cdv AA outer s H E (ax, oe)) := ⟨(ax, oe), hot1, List.mem_cons_self⟩
  exact (pss_cons (ps_set (i := 1) nd rfl (Or.inl rfl) (pe_lst (pa_cons (pe_callB (d_isP hDx List.mem_cons_self hzp hfp) (by rfl) T.b_isinstance (by decide +kernel) (pa_cons (dv 0) (pa_cons (pe_glob (by rfl) T.x_OutOfRange.g rfl) pa_nil))) (pa_cons (pe_callB (d_isP hDx List.mem_cons_self hzp hfp) (by rfl) T.b_isinstance (by decide +kernel) (pa_cons (dv 0) (pa_cons (pe_glob (by rfl) T.x_Malformed.g rfl) pa_nil))) (pa_cons (pe_callB (d_isP hDx List.mem_cons_self hzp hfp) (by rfl) T.b_isinstance (by decide +kernel) (pa_cons (dv 0) (pa_cons (pe_glob (by rfl) T.x_NotThere.g rfl) pa_nil))) (pa_cons (pe_callB (d_isP hDx List.mem_cons_self hzp hfp) (by rfl) T.b_isinstance (by decide +kernel) (pa_cons (dv 0) (pa_cons (pe_glob (by rfl) T.x_Refused.g rfl) pa_nil))) (pa_cons (pe_callB (d_isP hDx List.mem_cons_self hzp hfp) (by rfl) T.b_isinstance (by decide +kernel) (pa_cons (dv 0) (pa_cons (pe_glob (by rfl) T.x_TooMuch.g rfl) pa_nil))) pa_nil)))))))
  (pss_cons (ps_if (dt_cmp d_ne (pe_callB d_len (by rfl) T.b_len (by decide +kernel) (pa_cons (d_lcH (own := [("kind", 2)]) hot nd (dv 1) (blkOk_by (N := N_law_word) (sc := (defScope s_law_word)) (by decide +kernel)) (fun _ _ _ _ _ => (pg_name (i := 2) nd rfl (Or.inl rfl))) (fun _ _ _ _ _ => pts_one (dt_tru (dv 2))) (fun _ _ _ _ _ => (dv 2))) pa_nil)) pe_int (nomark _))
  (pss_one (ps_ret pe_str))
  pss_nil)
  (pss_one (ps_ret (pe_ix d_ix (pe_lst (pa_cons pe_str (pa_cons pe_str (pa_cons pe_str (pa_cons pe_str (pa_cons pe_str pa_nil)))))) (d_bm PySem.F.plainAttrs_list PySem.F.slot_list_index PySem.F.type_list_index mt_index (dv 1) (pa_cons pe_bl pa_nil)) (fun _ _ => rfl))))))
theorem ok_law_says (T : Txt K mg A)  
    (len : ∀ vs H Q E, sp_law_says vs H Q E → vs.length = 2) (rd : ∀ vs H Q E, sp_law_says vs H Q E → t_law_says K A E  { nx := fun _ H' => Q .non H', rt := Q } (L2.start N_law_says vs) H) :
    FnOk P w K mg base CX0 1 T.law_says.a T.law_says.fd ["told", "due"] sp_law_says := by
  refine T.law_says.F.ok sc_law_says len (fun cdv AA outer s H vs Q E hr h => ⟨t_law_says K A E , ?_, rd vs H Q E h⟩)
  have hr : Room 0 _ := hr
  have hu := hr
  have nd := sc_law_says.nd
  exact (pss_one (ps_ret (d_and (pe_callB d_isi (by rfl) T.b_isinstance (by decide +kernel) (pa_cons (dv 0) (pa_cons (pe_bltn (by rfl) T.b_bool boot_bool rfl) pa_nil))) (pe_one (pe_cmpR d_eq (dv 0) (dv 1) (nomark _))))))
theorem ok_law_rank (T : Txt K mg A)  
    (len : ∀ vs H Q E, sp_law_rank vs H Q E → vs.length = 3) (rd : ∀ vs H Q E, sp_law_rank vs H Q E → t_law_rank K A E  { nx := fun _ H' => Q .non H', rt := Q } (L2.start N_law_rank vs) H) :
    FnOk P w K mg base CX0 1 T.law_rank.a T.law_rank.fd ["numbers", "part", "whole_one"] sp_law_rank := by
  refine T.law_rank.F.ok sc_law_rank len (fun cdv AA outer s H vs Q E hr h => ⟨t_law_rank K A E , ?_, rd vs H Q E h⟩)
  have hr : Room 0 _ := hr
  have hu := hr
  have nd := sc_law_rank.nd
  exact (pss_one (ps_ret (pe_ix d_ix (pe_callB cr_sortedI (by rfl) T.b_sorted (by decide +kernel) (pa_cons (dv 0) pa_nil)) (pe_op d_div (pe_callTy d_int (by rfl) T.b_int (by decide +kernel) (pa_cons (pe_op d_mul (pe_op d_sub (pe_callB d_len (by rfl) T.b_len (by decide +kernel) (pa_cons (dv 0) pa_nil)) pe_int) (dv 1)) pa_nil)) (dv 2)) (fun _ _ => rfl))))
theorem ok_law_ways (T : Txt K mg A)  
    (len : ∀ vs H Q E, sp_law_ways vs H Q E → vs.length = 4) (rd : ∀ vs H Q E, sp_law_ways vs H Q E → t_law_ways K A E  { nx := fun _ H' => Q .non H', rt := Q } (L2.start N_law_ways vs) H) :
    FnOk P w K mg base CX0 1 T.law_ways.a T.law_ways.fd ["fewest", "most", "low", "high"] sp_law_ways := by
  refine T.law_ways.F.ok sc_law_ways len (fun cdv AA outer s H vs Q E hr h => ⟨t_law_ways K A E , ?_, rd vs H Q E h⟩)
  have hr : Room 0 _ := hr
  have hu := hr
  have nd := sc_law_ways.nd
  exact (pss_cons (d_par (by rfl) nd rfl rfl (by decide) rfl rfl (pa_cons (pe_lst pa_nil) (pa_cons (pe_lst (pa_cons (pe_tup pa_nil) pa_nil)) pa_nil)) (by rfl))
  (pss_cons (d_forR1 PassesOwn.never rfl T.b_range (pa_cons (pe_op d_add2 (dv 1) pe_int) pa_nil) (pg_name (i := 6) nd rfl (Or.inl rfl))
  (pss_cons (ps_if (dt_cmp d_ge (dv 6) (dv 0) (nomark _))
  (pss_one (ps_set (i := 4) nd rfl (Or.inl rfl) (pe_op d_add2 (dv 4) (dv 5))))
  pss_nil)
  (pss_cons (ps_set (i := 7) nd rfl (Or.inl rfl) (pe_lst pa_nil))
  (pss_cons (d_forL PassesOwn.never rfl (dv 5) (pg_name (i := 8) nd rfl (Or.inr rfl))
  (pss_one (ps_set (i := 7) nd rfl (Or.inl rfl) (pe_op d_add2 (dv 7) (d_lcR2 (own := [("number", 9)]) rfl nd T.b_range (pa_cons (pe_ifExp (dt_cmp (d_neD hu) (dv 8) (pe_tup pa_nil) (nomark _)) (pe_ix d_ix (dv 8) (pe_un d_neg pe_int) (fun _ _ => rfl)) (dv 2)) (pa_cons (pe_op d_add2 (dv 3) pe_int) pa_nil)) (blkOk_by (N := N_law_ways) (sc := (defScope s_law_ways)) (by decide +kernel)) (fun _ _ _ _ _ => (pg_name (i := 9) nd rfl (Or.inl rfl))) (fun _ _ _ _ _ => pts_nil) (fun _ _ _ _ _ => (pe_op d_add2 (dv 8) (pe_tup (pa_cons (dv 9) pa_nil)))))))))
  (pss_one (ps_set (i := 5) nd rfl (Or.inl rfl) (dv 7)))))))
  (pss_one (ps_ret (dv 4)))))
theorem ok_law_told (T : Txt K mg A)  (G_range_of_rank : FnOk P w K mg base (L2N.CX P w) 3 T.range_of_rank.a T.range_of_rank.fd ["numbers", "part", "whole", "fewest", "most", "low", "high"] (sp_range_of_rank A)) (G_range_of_mean : FnOk P w K mg base (L2N.CX P w) 3 T.range_of_mean.a T.range_of_mean.fd ["many", "total", "fewest", "most", "low", "high"] (sp_range_of_mean A)) (G_range_of_greatest : FnOk P w K mg base (L2N.CX P w) 3 T.range_of_greatest.a T.range_of_greatest.fd ["greatest", "fewest", "most", "low", "high"] (sp_range_of_greatest A)) (G_range_of_total : FnOk P w K mg base (L2N.CX P w) 3 T.range_of_total.a T.range_of_total.fd ["total", "fewest", "most", "low", "high"] (sp_range_of_total A)) (G_law_word : FnE P w K mg base 1 T.law_word.a T.law_word.fd ["e"] (sp_law_word K A))
    (len : ∀ vs H Q E, (sp_law_told K A) vs H Q E → vs.length = 5) (rd : ∀ vs H Q E, (sp_law_told K A) vs H Q E → t_law_told K A E  { nx := fun _ H' => Q .non H', rt := Q } (L2.start N_law_told vs) H) :
    FnOk P w K mg base CX0 4 T.law_told.a T.law_told.fd ["which", "numbers", "part", "whole_one", "more"] (sp_law_told K A) := by
  refine T.law_told.F.ok sc_law_told len (fun cdv AA outer s H vs Q E hr h => ⟨t_law_told K A E , ?_, rd vs H Q E h⟩)
  have hr : Room 3 _ := hr
  have hu := hr
  have nd := sc_law_told.nd
  exact (pss_cons (ps_asg (dv 4) (dg_tup (by rfl) (dg_cons (pg_name (i := 5) nd rfl (Or.inl rfl)) (dg_cons (pg_name (i := 6) nd rfl (Or.inl rfl)) (dg_cons (pg_name (i := 7) nd rfl (Or.inl rfl)) (dg_cons (pg_name (i := 8) nd rfl (Or.inl rfl)) dg_nil))))))
  (pss_one (L2N.ps_try_as (i := 9) (tb := fun W => (tSeq (tIfS (dTest (tOp dEq (dVar 0) (tC (.int 0))))
  (tRet (tCallS (sp_range_of_total A) (WE W) (tCons (tCB (rSum K) (tCons (dVar 1) tNil)) (tCons (dVar 5) (tCons (dVar 6) (tCons (dVar 7) (tCons (dVar 8) tNil)))))))
  tNext)
  (tSeq (tIfS (dTest (tOp dEq (dVar 0) (tC (.int 1))))
  (tRet (tCallS (sp_range_of_greatest A) (WE W) (tCons (tIf (dTest (tOp (dNeD K) (dVar 1) (tLst tNil))) (tCB (rMax K) (tCons (dVar 1) tNil)) (tC .non)) (tCons (dVar 5) (tCons (dVar 6) (tCons (dVar 7) (tCons (dVar 8) tNil)))))))
  tNext)
  (tSeq (tIfS (dTest (tOp dEq (dVar 0) (tC (.int 2))))
  (tRet (tCallS (sp_range_of_mean A) (WE W) (tCons (tCB dLen (tCons (dVar 1) tNil)) (tCons (tCB (rSum K) (tCons (dVar 1) tNil)) (tCons (dVar 5) (tCons (dVar 6) (tCons (dVar 7) (tCons (dVar 8) tNil))))))))
  tNext)
  (tRet (tCallS (sp_range_of_rank A) (WE W) (tCons (tCB dTupleOf (tCons (dVar 1) tNil)) (tCons (dVar 2) (tCons (dVar 3) (tCons (dVar 5) (tCons (dVar 6) (tCons (dVar 7) (tCons (dVar 8) tNil))))))))))))) (ts := fun a cls d => (tRet (tCallE (sp_law_word K A) a cls d (tCons (dVar 9) tNil)))) (Wout := (fun _ _ _ _ => False)) rfl rfl nd rfl rfl ⟨rfl, by decide, Or.inl T.x_TraceError.g⟩ takesN0
  (fun W pn xe tk hpa => (pss_cons (ps_if (dt_cmp d_eq (dv 0) pe_int (nomark _))
  (pss_one (ps_ret (c_call G_range_of_total (hr.mono (by decide)) T.range_of_total.g T.range_of_total.F.kp T.range_of_total.b (fun σ => L2N.passAt tk σ) (pa_cons (pe_callB (cr_sum rfl) (by rfl) T.b_sum (by decide +kernel) (pa_cons (dv 1) pa_nil)) (pa_cons (dv 5) (pa_cons (dv 6) (pa_cons (dv 7) (pa_cons (dv 8) pa_nil))))))))
  pss_nil)
  (pss_cons (ps_if (dt_cmp d_eq (dv 0) pe_int (nomark _))
  (pss_one (ps_ret (c_call G_range_of_greatest (hr.mono (by decide)) T.range_of_greatest.g T.range_of_greatest.F.kp T.range_of_greatest.b (fun σ => L2N.passAt tk σ) (pa_cons (pe_ifExp (dt_cmp (d_neD hu) (dv 1) (pe_lst pa_nil) (nomark _)) (pe_callB (cr_max rfl) (by rfl) T.b_max (by decide +kernel) (pa_cons (dv 1) pa_nil)) pe_non) (pa_cons (dv 5) (pa_cons (dv 6) (pa_cons (dv 7) (pa_cons (dv 8) pa_nil))))))))
  pss_nil)
  (pss_cons (ps_if (dt_cmp d_eq (dv 0) pe_int (nomark _))
  (pss_one (ps_ret (c_call G_range_of_mean (hr.mono (by decide)) T.range_of_mean.g T.range_of_mean.F.kp T.range_of_mean.b (fun σ => L2N.passAt tk σ) (pa_cons (pe_callB d_len (by rfl) T.b_len (by decide +kernel) (pa_cons (dv 1) pa_nil)) (pa_cons (pe_callB (cr_sum rfl) (by rfl) T.b_sum (by decide +kernel) (pa_cons (dv 1) pa_nil)) (pa_cons (dv 5) (pa_cons (dv 6) (pa_cons (dv 7) (pa_cons (dv 8) pa_nil)))))))))
  pss_nil)
  (pss_one (ps_ret (c_call G_range_of_rank (hr.mono (by decide)) T.range_of_rank.g T.range_of_rank.F.kp T.range_of_rank.b (fun σ => L2N.passAt tk σ) (pa_cons (pe_callTy d_tupleOf (by rfl) T.b_tuple (by decide +kernel) (pa_cons (dv 1) pa_nil)) (pa_cons (dv 2) (pa_cons (dv 3) (pa_cons (dv 5) (pa_cons (dv 6) (pa_cons (dv 7) (pa_cons (dv 8) pa_nil))))))))))))))
  (fun a oe cls d pn hz hf => (pss_one (ps_ret (c_callE G_law_word (L2H.RoomH.mono (k := 3) ⟨hr.dp, hr.un⟩ (by decide)) rfl List.mem_cons_self hz hf T.law_word.g T.law_word.F.kp T.law_word.b (pa_cons (dv 9) pa_nil))))))))
theorem ok_law_least (T : Txt K mg A)  
    (len : ∀ vs H Q E, sp_law_least vs H Q E → vs.length = 1) (rd : ∀ vs H Q E, sp_law_least vs H Q E → t_law_least K A E  { nx := fun _ H' => Q .non H', rt := Q } (L2.start N_law_least vs) H) :
    FnOk P w K mg base CX0 1 T.law_least.a T.law_least.fd ["fractions"] sp_law_least := by
  refine T.law_least.F.ok sc_law_least len (fun cdv AA outer s H vs Q E hr h => ⟨t_law_least K A E , ?_, rd vs H Q E h⟩)
  have hr : Room 0 _ := hr
  have hu := hr
  have nd := sc_law_least.nd
  exact (pss_cons (ps_set (i := 1) nd rfl (Or.inl rfl) (pe_ix d_ix (dv 0) pe_int (fun _ _ => rfl)))
  (pss_cons (d_forL PassesOwn.never rfl (dv 0) (pg_name (i := 2) nd rfl (Or.inl rfl))
  (pss_one (ps_set (i := 1) nd rfl (Or.inl rfl) (pe_ifExp (dt_cmp d_lt (pe_op d_mul (pe_ix d_ix (dv 2) pe_int (fun _ _ => rfl)) (pe_ix d_ix (dv 1) pe_int (fun _ _ => rfl))) (pe_op d_mul (pe_ix d_ix (dv 1) pe_int (fun _ _ => rfl)) (pe_ix d_ix (dv 2) pe_int (fun _ _ => rfl))) (nomark _)) (dv 2) (dv 1)))))
  (pss_one (ps_ret (dv 1)))))
theorem ok_law_lowest (T : Txt K mg A)  
    (len : ∀ vs H Q E, sp_law_lowest vs H Q E → vs.length = 2) (rd : ∀ vs H Q E, sp_law_lowest vs H Q E → t_law_lowest K A E  { nx := fun _ H' => Q .non H', rt := Q } (L2.start N_law_lowest vs) H) :
    FnOk P w K mg base CX0 1 T.law_lowest.a T.law_lowest.fd ["part", "whole_one"] sp_law_lowest := by
  refine T.law_lowest.F.ok sc_law_lowest len (fun cdv AA outer s H vs Q E hr h => ⟨t_law_lowest K A E , ?_, rd vs H Q E h⟩)
  have hr : Room 0 _ := hr
  have hu := hr
  have nd := sc_law_lowest.nd
  exact (pss_cons (d_par (by rfl) nd rfl rfl (by decide) rfl rfl (pa_cons (pe_callB d_abs (by rfl) T.b_abs (by decide +kernel) (pa_cons (dv 0) pa_nil)) (pa_cons (dv 1) pa_nil)) (by rfl))
  (pss_cons (ps_while PassesOwn.never (dt_cmp d_gt (dv 3) pe_int (nomark _))
  (pss_one (d_par (by rfl) nd rfl rfl (by decide) rfl rfl (pa_cons (dv 3) (pa_cons (pe_op d_mod (dv 2) (dv 3)) pa_nil)) (by rfl))))
  (pss_one (ps_ret (pe_tup (pa_cons (pe_op d_div (dv 0) (dv 2)) (pa_cons (pe_op d_div (dv 1) (dv 2)) pa_nil)))))))
theorem ok_law_due (T : Txt K mg A)  (G_law_rank : FnOk P w K mg base CX0 1 T.law_rank.a T.law_rank.fd ["numbers", "part", "whole_one"] sp_law_rank) (G_law_least : FnOk P w K mg base CX0 1 T.law_least.a T.law_least.fd ["fractions"] sp_law_least) (G_law_lowest : FnOk P w K mg base CX0 1 T.law_lowest.a T.law_lowest.fd ["part", "whole_one"] sp_law_lowest)
    (len : ∀ vs H Q E, sp_law_due vs H Q E → vs.length = 4) (rd : ∀ vs H Q E, sp_law_due vs H Q E → t_law_due K A E  { nx := fun _ H' => Q .non H', rt := Q } (L2.start N_law_due vs) H) :
    FnOk P w K mg base CX0 2 T.law_due.a T.law_due.fd ["which", "rows", "part", "whole_one"] sp_law_due := by
  refine T.law_due.F.ok sc_law_due len (fun cdv AA outer s H vs Q E hr h => ⟨t_law_due K A E , ?_, rd vs H Q E h⟩)
  have hr : Room 1 _ := hr
  have hu := hr
  have nd := sc_law_due.nd
  exact (pss_cons (d_setL (i := 4) (own := [("row", 10)]) rfl nd rfl rfl (sw_true rfl rfl rfl (by decide +kernel)) (dv 1) (blkOk_by (N := N_law_due) (sc := (defScope s_law_due)) (by decide +kernel)) (fun _ _ _ _ _ => (pg_name (i := 10) nd rfl (Or.inl rfl))) (fun _ _ _ _ _ => pts_one (dt_cmp (d_neD hu) (dv 10) (pe_lst pa_nil) (nomark _))) (fun _ _ _ _ _ => (dv 10)))
  (pss_cons (ps_if (dt_cmp d_eq (dv 0) pe_int (nomark _))
  (pss_cons (d_setL (i := 5) (own := [("row", 10)]) rfl nd rfl rfl (sw_true rfl rfl rfl (by decide +kernel)) (dv 1) (blkOk_by (N := N_law_due) (sc := (defScope s_law_due)) (by decide +kernel)) (fun _ _ _ _ _ => (pg_name (i := 10) nd rfl (Or.inl rfl))) (fun _ _ _ _ _ => pts_nil) (fun _ _ _ _ _ => (pe_callB (cr_sum rfl) (by rfl) T.b_sum (by decide +kernel) (pa_cons (dv 10) pa_nil))))
  (pss_one (ps_ret (pe_tup (pa_cons (pe_callB (cr_min rfl) (by rfl) T.b_min (by decide +kernel) (pa_cons (dv 5) pa_nil)) (pa_cons (pe_callB (cr_max rfl) (by rfl) T.b_max (by decide +kernel) (pa_cons (dv 5) pa_nil)) pa_nil))))))
  pss_nil)
  (pss_cons (ps_if (dt_cmp (d_eqD hu) (dv 4) (pe_lst pa_nil) (nomark _))
  (pss_one (ps_ret pe_str))
  pss_nil)
  (pss_cons (ps_if (dt_cmp d_eq (dv 0) pe_int (nomark _))
  (pss_cons (d_setL (i := 6) (own := [("row", 10)]) rfl nd rfl rfl (sw_true rfl rfl rfl (by decide +kernel)) (dv 4) (blkOk_by (N := N_law_due) (sc := (defScope s_law_due)) (by decide +kernel)) (fun _ _ _ _ _ => (pg_name (i := 10) nd rfl (Or.inl rfl))) (fun _ _ _ _ _ => pts_nil) (fun _ _ _ _ _ => (pe_callB (cr_max rfl) (by rfl) T.b_max (by decide +kernel) (pa_cons (dv 10) pa_nil))))
  (pss_one (ps_ret (pe_tup (pa_cons (pe_callB (cr_min rfl) (by rfl) T.b_min (by decide +kernel) (pa_cons (dv 6) pa_nil)) (pa_cons (pe_callB (cr_max rfl) (by rfl) T.b_max (by decide +kernel) (pa_cons (dv 6) pa_nil)) pa_nil))))))
  pss_nil)
  (pss_cons (ps_if (dt_cmp d_eq (dv 0) pe_int (nomark _))
  (pss_cons (d_setL (i := 7) (own := [("row", 10)]) rfl nd rfl rfl (sw_true rfl rfl rfl (by decide +kernel)) (dv 4) (blkOk_by (N := N_law_due) (sc := (defScope s_law_due)) (by decide +kernel)) (fun _ _ _ _ _ => (pg_name (i := 10) nd rfl (Or.inl rfl))) (fun _ _ _ _ _ => pts_nil) (fun _ _ _ _ _ => (c_call G_law_lowest (hr.mono (by decide)) T.law_lowest.g T.law_lowest.F.kp T.law_lowest.b (fun _ => at0) (pa_cons (pe_callB (cr_sum rfl) (by rfl) T.b_sum (by decide +kernel) (pa_cons (dv 10) pa_nil)) (pa_cons (pe_callB d_len (by rfl) T.b_len (by decide +kernel) (pa_cons (dv 10) pa_nil)) pa_nil)))))
  (pss_cons (ps_set (i := 8) nd rfl (Or.inl rfl) (c_call G_law_least (hr.mono (by decide)) T.law_least.g T.law_least.F.kp T.law_least.b (fun _ => at0) (pa_cons (d_lcL (own := [("one", 11)]) rfl nd (dv 7) (blkOk_by (N := N_law_due) (sc := (defScope s_law_due)) (by decide +kernel)) (fun _ _ _ _ _ => (pg_name (i := 11) nd rfl (Or.inl rfl))) (fun _ _ _ _ _ => pts_nil) (fun _ _ _ _ _ => (pe_tup (pa_cons (pe_op d_sub pe_int (pe_ix d_ix (dv 11) pe_int (fun _ _ => rfl))) (pa_cons (pe_ix d_ix (dv 11) pe_int (fun _ _ => rfl)) pa_nil))))) pa_nil)))
  (pss_one (ps_ret (pe_tup (pa_cons (c_call G_law_least (hr.mono (by decide)) T.law_least.g T.law_least.F.kp T.law_least.b (fun _ => at0) (pa_cons (dv 7) pa_nil)) (pa_cons (pe_tup (pa_cons (pe_op d_sub pe_int (pe_ix d_ix (dv 8) pe_int (fun _ _ => rfl))) (pa_cons (pe_ix d_ix (dv 8) pe_int (fun _ _ => rfl)) pa_nil))) pa_nil)))))))
  pss_nil)
  (pss_cons (d_setL (i := 9) (own := [("row", 10)]) rfl nd rfl rfl (sw_true rfl rfl rfl (by decide +kernel)) (dv 4) (blkOk_by (N := N_law_due) (sc := (defScope s_law_due)) (by decide +kernel)) (fun _ _ _ _ _ => (pg_name (i := 10) nd rfl (Or.inl rfl))) (fun _ _ _ _ _ => pts_nil) (fun _ _ _ _ _ => (c_call G_law_rank (hr.mono (by decide)) T.law_rank.g T.law_rank.F.kp T.law_rank.b (fun _ => at0) (pa_cons (dv 10) (pa_cons (dv 2) (pa_cons (dv 3) pa_nil))))))
  (pss_one (ps_ret (pe_tup (pa_cons (pe_callB (cr_min rfl) (by rfl) T.b_min (by decide +kernel) (pa_cons (dv 9) pa_nil)) (pa_cons (pe_callB (cr_max rfl) (by rfl) T.b_max (by decide +kernel) (pa_cons (dv 9) pa_nil)) pa_nil)))))))))))
theorem ok_law_within (T : Txt K mg A)  
    (len : ∀ vs H Q E, sp_law_within vs H Q E → vs.length = 2) (rd : ∀ vs H Q E, sp_law_within vs H Q E → t_law_within K A E  { nx := fun _ H' => Q .non H', rt := Q } (L2.start N_law_within vs) H) :
    FnOk P w K mg base CX0 1 T.law_within.a T.law_within.fd ["one", "other"] sp_law_within := by
  refine T.law_within.F.ok sc_law_within len (fun cdv AA outer s H vs Q E hr h => ⟨t_law_within K A E , ?_, rd vs H Q E h⟩)
  have hr : Room 0 _ := hr
  have hu := hr
  have nd := sc_law_within.nd
  exact (pss_cons (ps_if (dt_tru (pe_callB d_isi (by rfl) T.b_isinstance (by decide +kernel) (pa_cons (pe_ix d_ix (dv 0) pe_int (fun _ _ => rfl)) (pa_cons (pe_bltn (by rfl) T.b_int boot_int rfl) pa_nil))))
  (pss_one (ps_ret (d_and (pe_cmpR d_le (pe_ix d_ix (dv 1) pe_int (fun _ _ => rfl)) (pe_ix d_ix (dv 0) pe_int (fun _ _ => rfl)) (nomark _)) (pe_one (pe_cmpR d_le (pe_ix d_ix (dv 0) pe_int (fun _ _ => rfl)) (pe_ix d_ix (dv 1) pe_int (fun _ _ => rfl)) (nomark _))))))
  pss_nil)
  (pss_one (ps_ret (d_and (pe_cmpR d_ge (pe_op d_mul (pe_ix d_ix (pe_ix d_ix (dv 0) pe_int (fun _ _ => rfl)) pe_int (fun _ _ => rfl)) (pe_ix d_ix (pe_ix d_ix (dv 1) pe_int (fun _ _ => rfl)) pe_int (fun _ _ => rfl))) (pe_op d_mul (pe_ix d_ix (pe_ix d_ix (dv 1) pe_int (fun _ _ => rfl)) pe_int (fun _ _ => rfl)) (pe_ix d_ix (pe_ix d_ix (dv 0) pe_int (fun _ _ => rfl)) pe_int (fun _ _ => rfl))) (nomark _)) (pe_one (pe_cmpR d_le (pe_op d_mul (pe_ix d_ix (pe_ix d_ix (dv 0) pe_int (fun _ _ => rfl)) pe_int (fun _ _ => rfl)) (pe_ix d_ix (pe_ix d_ix (dv 1) pe_int (fun _ _ => rfl)) pe_int (fun _ _ => rfl))) (pe_op d_mul (pe_ix d_ix (pe_ix d_ix (dv 1) pe_int (fun _ _ => rfl)) pe_int (fun _ _ => rfl)) (pe_ix d_ix (pe_ix d_ix (dv 0) pe_int (fun _ _ => rfl)) pe_int (fun _ _ => rfl))) (nomark _)))))))
theorem ok_law_narrower (T : Txt K mg A)  (G_is_settled : FnOk P w K mg base CX0 1 T.is_settled.a T.is_settled.fd ["ends"] sp_is_settled) (G_law_told : FnOk P w K mg base CX0 4 T.law_told.a T.law_told.fd ["which", "numbers", "part", "whole_one", "more"] (sp_law_told K A)) (G_law_take : FnOk P w K mg base CX0 1 T.law_take.a T.law_take.fd ["draws", "bound"] sp_law_take) (G_law_within : FnOk P w K mg base CX0 1 T.law_within.a T.law_within.fd ["one", "other"] sp_law_within)
    (len : ∀ vs H Q E, sp_law_narrower vs H Q E → vs.length = 5) (rd : ∀ vs H Q E, sp_law_narrower vs H Q E → t_law_narrower K A E  { nx := fun _ H' => Q .non H', rt := Q } (L2.start N_law_narrower vs) H) :
    FnOk P w K mg base CX0 5 T.law_narrower.a T.law_narrower.fd ["draws", "numbers", "part", "whole_one", "more"] sp_law_narrower := by
  refine T.law_narrower.F.ok sc_law_narrower len (fun cdv AA outer s H vs Q E hr h => ⟨t_law_narrower K A E , ?_, rd vs H Q E h⟩)
  have hr : Room 4 _ := hr
  have hu := hr
  have nd := sc_law_narrower.nd
  exact (pss_cons (ps_asg (dv 4) (dg_tup (by rfl) (dg_cons (pg_name (i := 5) nd rfl (Or.inr rfl)) (dg_cons (pg_name (i := 6) nd rfl (Or.inr rfl)) (dg_cons (pg_name (i := 7) nd rfl (Or.inr rfl)) (dg_cons (pg_name (i := 8) nd rfl (Or.inr rfl)) dg_nil))))))
  (pss_cons (ps_set (i := 9) nd rfl (Or.inr rfl) (d_lcR1 (own := [("which", 13)]) rfl nd T.b_range (pa_cons pe_int pa_nil) (blkOk_by (N := N_law_narrower) (sc := (defScope s_law_narrower)) (by decide +kernel)) (fun _ _ _ _ _ => (pg_name (i := 13) nd rfl (Or.inl rfl))) (fun _ _ _ _ _ => pts_nil) (fun _ _ _ _ _ => (c_call G_law_told (hr.mono (by decide)) T.law_told.g T.law_told.F.kp T.law_told.b (fun _ => at0) (pa_cons (dv 13) (pa_cons (dv 1) (pa_cons (dv 2) (pa_cons (dv 3) (pa_cons (dv 4) pa_nil)))))))))
  (pss_cons (d_forR1 PassesOwn.never rfl T.b_range (pa_cons (pe_op d_add2 (dv 5) (c_call G_law_take (hr.mono (by decide)) T.law_take.g T.law_take.F.kp T.law_take.b (fun _ => at0) (pa_cons (dv 0) (pa_cons (pe_op d_add2 (pe_op d_sub (dv 6) (dv 5)) pe_int) pa_nil)))) pa_nil) (pg_name (i := 10) nd rfl (Or.inl rfl))
  (pss_cons (ps_set (i := 1) nd rfl (Or.inr rfl) (pe_op d_add2 (dv 1) (pe_lst (pa_cons (pe_op d_add2 (dv 7) (c_call G_law_take (hr.mono (by decide)) T.law_take.g T.law_take.F.kp T.law_take.b (fun _ => at0) (pa_cons (dv 0) (pa_cons (pe_op d_add2 (pe_op d_sub (dv 8) (dv 7)) pe_int) pa_nil)))) pa_nil))))
  (pss_cons (ps_asg (pe_tup (pa_cons (pe_callB (d_max2 rfl) (by rfl) T.b_max (by decide +kernel) (pa_cons pe_int (pa_cons (pe_op d_sub (dv 5) pe_int) pa_nil))) (pa_cons (pe_op d_sub (dv 6) pe_int) pa_nil))) (dg_tup (by rfl) (dg_cons (pg_name (i := 5) nd rfl (Or.inr rfl)) (dg_cons (pg_name (i := 6) nd rfl (Or.inr rfl)) dg_nil))))
  (pss_cons (ps_set (i := 11) nd rfl (Or.inr rfl) (d_lcR1 (own := [("which", 13)]) rfl nd T.b_range (pa_cons pe_int pa_nil) (blkOk_by (N := N_law_narrower) (sc := (defScope s_law_narrower)) (by decide +kernel)) (fun _ _ _ _ _ => (pg_name (i := 13) nd rfl (Or.inl rfl))) (fun _ _ _ _ _ => pts_nil) (fun _ _ _ _ _ => (c_call G_law_told (hr.mono (by decide)) T.law_told.g T.law_told.F.kp T.law_told.b (fun _ => at0) (pa_cons (dv 13) (pa_cons (dv 1) (pa_cons (dv 2) (pa_cons (dv 3) (pa_cons (pe_tup (pa_cons (dv 5) (pa_cons (dv 6) (pa_cons (dv 7) (pa_cons (dv 8) pa_nil))))) pa_nil)))))))))
  (pss_cons (ps_if (dt_cmp (d_neD hu) (d_lcR1 (own := [("k", 14)]) rfl nd T.b_range (pa_cons pe_int pa_nil) (blkOk_by (N := N_law_narrower) (sc := (defScope s_law_narrower)) (by decide +kernel)) (fun _ _ _ _ _ => (pg_name (i := 14) nd rfl (Or.inl rfl))) (fun _ _ _ _ _ => pts_one (PW.pt (pw_and (dt_cmp (d_neD hu) (pe_ix d_ix (dv 9) (dv 14) (fun _ _ => rfl)) pe_str (nomark _)) (pw_and1 (pt_not (dt_tru (c_call G_law_within (hr.mono (by decide)) T.law_within.g T.law_within.F.kp T.law_within.b (fun _ => at0) (pa_cons (pe_ix d_ix (dv 11) (dv 14) (fun _ _ => rfl)) (pa_cons (pe_ix d_ix (dv 9) (dv 14) (fun _ _ => rfl)) pa_nil))))))))) (fun _ _ _ _ _ => (dv 14))) (pe_lst pa_nil) (nomark _))
  (pss_one (ps_ret pe_bl))
  pss_nil)
  (pss_one (ps_set (i := 9) nd rfl (Or.inr rfl) (dv 11))))))))
  (pss_cons (d_setR1 (i := 12) (own := [("which", 13)]) rfl nd rfl rfl (sw_true rfl rfl rfl (by decide +kernel)) T.b_range (pa_cons pe_int pa_nil) (blkOk_by (N := N_law_narrower) (sc := (defScope s_law_narrower)) (by decide +kernel)) (fun _ _ _ _ _ => (pg_name (i := 13) nd rfl (Or.inl rfl))) (fun _ _ _ _ _ => pts_nil) (fun _ _ _ _ _ => (c_call G_law_told (hr.mono (by decide)) T.law_told.g T.law_told.F.kp T.law_told.b (fun _ => at0) (pa_cons (dv 13) (pa_cons (dv 1) (pa_cons (dv 2) (pa_cons (dv 3) (pa_cons (pe_tup (pa_cons pe_int (pa_cons pe_int (pa_cons (dv 7) (pa_cons (dv 8) pa_nil))))) pa_nil))))))))
  (pss_cons (ps_if (dt_cmp (d_eqD hu) (dv 1) (pe_lst pa_nil) (nomark _))
  (pss_one (ps_ret (pe_cmpR (d_eqD hu) (pe_slice d_sl (dv 12) (po_d pe_int) po_none) (pe_op d_mul (pe_lst (pa_cons pe_str pa_nil)) pe_int) (nomark _))))
  pss_nil)
  (pss_one (ps_ret (d_and (pe_cmpR (d_eqD hu) (d_lcL (own := [("pair", 15)]) rfl nd (dv 12) (blkOk_by (N := N_law_narrower) (sc := (defScope s_law_narrower)) (by decide +kernel)) (fun _ _ _ _ _ => (pg_name (i := 15) nd rfl (Or.inl rfl))) (fun _ _ _ _ _ => pts_one (dt_cmp d_notB (c_call G_is_settled (hr.mono (by decide)) T.is_settled.g T.is_settled.F.kp T.is_settled.b (fun _ => at0) (pa_cons (dv 15) pa_nil)) pe_bl (nomark _))) (fun _ _ _ _ _ => (dv 15))) (pe_lst pa_nil) (nomark _)) (d_and (pe_cmpR (d_eqD hu) (pe_ix d_ix (dv 12) pe_int (fun _ _ => rfl)) (pe_op d_mulT (pe_tup (pa_cons (pe_callB (cr_sum rfl) (by rfl) T.b_sum (by decide +kernel) (pa_cons (dv 1) pa_nil)) pa_nil)) pe_int) (nomark _)) (pe_one (pe_cmpR (d_eqD hu) (pe_ix d_ix (dv 12) pe_int (fun _ _ => rfl)) (pe_op d_mulT (pe_tup (pa_cons (pe_callB (cr_max rfl) (by rfl) T.b_max (by decide +kernel) (pa_cons (dv 1) pa_nil)) pa_nil)) pe_int) (nomark _))))))))))))
theorem ok_law_areas (T : Txt K mg A)  (G_range_of_area : FnOk P w K mg base (L2N.CX P w) 3 T.range_of_area.a T.range_of_area.fd ["area", "time", "until", "low", "high"] (sp_range_of_area A)) (G_law_word : FnE P w K mg base 1 T.law_word.a T.law_word.fd ["e"] (sp_law_word K A)) (G_law_take : FnOk P w K mg base CX0 1 T.law_take.a T.law_take.fd ["draws", "bound"] sp_law_take)
    (len : ∀ vs H Q E, sp_law_areas vs H Q E → vs.length = 1) (rd : ∀ vs H Q E, sp_law_areas vs H Q E → t_law_areas K A E  { nx := fun _ H' => Q .non H', rt := Q } (L2.start N_law_areas vs) H) :
    FnOk P w K mg base CX0 4 T.law_areas.a T.law_areas.fd ["draws"] sp_law_areas := by
  refine T.law_areas.F.ok sc_law_areas len (fun cdv AA outer s H vs Q E hr h => ⟨t_law_areas K A E , ?_, rd vs H Q E h⟩)
  have hr : Room 3 _ := hr
  have hu := hr
  have nd := sc_law_areas.nd
  exact (pss_cons (ps_asg (pe_tup (pa_cons (pe_op d_sub (c_call G_law_take (hr.mono (by decide)) T.law_take.g T.law_take.F.kp T.law_take.b (fun _ => at0) (pa_cons (dv 0) (pa_cons pe_int pa_nil))) pe_int) (pa_cons pe_int pa_nil))) (dg_tup (by rfl) (dg_cons (pg_name (i := 1) nd rfl (Or.inr rfl)) (dg_cons (pg_name (i := 2) nd rfl (Or.inr rfl)) dg_nil))))
  (pss_cons (ps_set (i := 2) nd rfl (Or.inr rfl) (pe_op d_add2 (dv 1) (c_call G_law_take (hr.mono (by decide)) T.law_take.g T.law_take.F.kp T.law_take.b (fun _ => at0) (pa_cons (dv 0) (pa_cons pe_int pa_nil)))))
  (pss_cons (ps_set (i := 3) nd rfl (Or.inl rfl) (c_call G_law_take (hr.mono (by decide)) T.law_take.g T.law_take.F.kp T.law_take.b (fun _ => at0) (pa_cons (dv 0) (pa_cons pe_int pa_nil))))
  (pss_cons (d_par (by rfl) nd rfl rfl (by decide) rfl rfl (pa_cons (pe_op d_add2 (dv 3) (c_call G_law_take (hr.mono (by decide)) T.law_take.g T.law_take.F.kp T.law_take.b (fun _ => at0) (pa_cons (dv 0) (pa_cons pe_int pa_nil)))) (pa_cons (c_call G_law_take (hr.mono (by decide)) T.law_take.g T.law_take.F.kp T.law_take.b (fun _ => at0) (pa_cons (dv 0) (pa_cons pe_int pa_nil))) pa_nil)) (by rfl))
  (pss_cons (ps_set (i := 6) nd rfl (Or.inl rfl) (c_call G_range_of_area (hr.mono (by decide)) T.range_of_area.g T.range_of_area.F.kp T.range_of_area.b (fun _ => atN) (pa_cons (dv 5) (pa_cons (dv 3) (pa_cons (dv 4) (pa_cons (dv 1) (pa_cons (dv 2) pa_nil)))))))
  (pss_cons (d_setR1 (i := 7) (own := [("step", 13)]) rfl nd rfl rfl (sw_true rfl rfl rfl (by decide +kernel)) T.b_range (pa_cons (pe_op d_sub (dv 4) (dv 3)) pa_nil) (blkOk_by (N := N_law_areas) (sc := (defScope s_law_areas)) (by decide +kernel)) (fun _ _ _ _ _ => (pg_name (i := 13) nd rfl (Or.inl rfl))) (fun _ _ _ _ _ => pts_nil) (fun _ _ _ _ _ => (pe_op d_add2 (dv 1) (c_call G_law_take (hr.mono (by decide)) T.law_take.g T.law_take.F.kp T.law_take.b (fun _ => at0) (pa_cons (dv 0) (pa_cons (pe_op d_add2 (pe_op d_sub (dv 2) (dv 1)) pe_int) pa_nil))))))
  (pss_cons (ps_if (PW.pt (pw_or (dt_cmp (d_neD hu) (dv 6) (pe_tup (pa_cons (pe_op d_add2 (dv 5) (pe_op d_mul (dv 1) (pe_op d_sub (dv 4) (dv 3)))) (pa_cons (pe_op d_add2 (dv 5) (pe_op d_mul (dv 2) (pe_op d_sub (dv 4) (dv 3)))) pa_nil))) (nomark _)) (pw_or1 (pt_not (dt_chain d_le d_le (pe_ix d_ix (dv 6) pe_int (fun _ _ => rfl)) (pe_op d_add2 (dv 5) (pe_callB (cr_sum rfl) (by rfl) T.b_sum (by decide +kernel) (pa_cons (dv 7) pa_nil))) (pe_ix d_ix (dv 6) pe_int (fun _ _ => rfl)))))))
  (pss_one (ps_ret pe_bl))
  pss_nil)
  (pss_cons (d_forL PassesOwn.never rfl (pe_lst (pa_cons (pe_tup (pa_cons pe_int (pa_cons pe_int (pa_cons pe_int (pa_cons pe_int pa_nil))))) (pa_cons (pe_tup (pa_cons (pe_un d_neg pe_int) (pa_cons pe_int (pa_cons pe_int (pa_cons pe_int pa_nil))))) (pa_cons (pe_tup (pa_cons pe_int (pa_cons pe_int (pa_cons pe_int (pa_cons pe_int pa_nil))))) (pa_cons (pe_tup (pa_cons pe_int (pa_cons pe_int (pa_cons pe_non (pa_cons pe_int pa_nil))))) pa_nil))))) (dg_tup (by rfl) (dg_cons (pg_name (i := 8) nd rfl (Or.inl rfl)) (dg_cons (pg_name (i := 9) nd rfl (Or.inl rfl)) (dg_cons (pg_name (i := 10) nd rfl (Or.inl rfl)) (dg_cons (pg_name (i := 11) nd rfl (Or.inl rfl)) dg_nil)))))
  (pss_one (L2N.ps_try_as (i := 12) (tb := fun W => (tSeq (tDrop (tCallS (sp_range_of_area A) (WE W) (tCons (tC (.int 7)) (tCons (dVar 8) (tCons (dVar 9) (tCons (dVar 10) (tCons (dVar 11) tNil)))))))
  (tRet (tC (.bl false))))) (ts := fun a cls d => (tIfS (dTest (tOp dNe (tCallE (sp_law_word K A) a cls d (tCons (dVar 12) tNil)) (tC (.str "range"))))
  (tRet (tC (.bl false)))
  tNext)) (Wout := (fun _ _ _ _ => False)) rfl rfl nd rfl rfl ⟨rfl, by decide, Or.inl T.x_TraceError.g⟩ takesN0
  (fun W pn xe tk hpa => (pss_cons (ps_expr (c_call G_range_of_area (hr.mono (by decide)) T.range_of_area.g T.range_of_area.F.kp T.range_of_area.b (fun σ => L2N.passAt tk σ) (pa_cons pe_int (pa_cons (dv 8) (pa_cons (dv 9) (pa_cons (dv 10) (pa_cons (dv 11) pa_nil)))))))
  (pss_one (ps_ret pe_bl))))
  (fun a oe cls d pn hz hf => (pss_one (ps_if (dt_cmp d_ne (c_callE G_law_word (L2H.RoomH.mono (k := 3) ⟨hr.dp, hr.un⟩ (by decide)) rfl List.mem_cons_self hz hf T.law_word.g T.law_word.F.kp T.law_word.b (pa_cons (dv 12) pa_nil)) pe_str (nomark _))
  (pss_one (ps_ret pe_bl))
  pss_nil))))))
  (pss_one (ps_ret pe_bl))))))))))
theorem ok_law (T : Txt K mg A)  (G_law_told : FnOk P w K mg base CX0 4 T.law_told.a T.law_told.fd ["which", "numbers", "part", "whole_one", "more"] (sp_law_told K A)) (G_law_narrower : FnOk P w K mg base CX0 5 T.law_narrower.a T.law_narrower.fd ["draws", "numbers", "part", "whole_one", "more"] sp_law_narrower) (G_law_areas : FnOk P w K mg base CX0 4 T.law_areas.a T.law_areas.fd ["draws"] sp_law_areas) (G_law_take : FnOk P w K mg base CX0 1 T.law_take.a T.law_take.fd ["draws", "bound"] sp_law_take) (G_law_due : FnOk P w K mg base CX0 2 T.law_due.a T.law_due.fd ["which", "rows", "part", "whole_one"] sp_law_due) (G_law_alike : FnOk P w K mg base CX0 5 T.law_alike.a T.law_alike.fd ["found", "due"] (sp_law_alike K 3)) (G_is_settled : FnOk P w K mg base CX0 1 T.is_settled.a T.is_settled.fd ["ends"] sp_is_settled) (G_law_says : FnOk P w K mg base CX0 1 T.law_says.a T.law_says.fd ["told", "due"] sp_law_says) (G_law_ways : FnOk P w K mg base CX0 1 T.law_ways.a T.law_ways.fd ["fewest", "most", "low", "high"] sp_law_ways) (G_law_draws : FnOk P w K mg base CX0 1 T.law_draws.a T.law_draws.fd ["script"] (sp_law_draws K))
    (len : ∀ vs H Q E, (sp_law K) vs H Q E → vs.length = 1) (rd : ∀ vs H Q E, (sp_law K) vs H Q E → t_law K A E  { nx := fun _ H' => Q .non H', rt := Q } (L2.start N_law vs) H) :
    FnOk P w K mg base CX0 6 T.law.a T.law.fd ["script"] (sp_law K) := by
  refine T.law.F.ok sc_law len (fun cdv AA outer s H vs Q E hr h => ⟨t_law K A E , ?_, rd vs H Q E h⟩)
  have hr : Room 5 _ := hr
  have hu := hr
  have nd := sc_law.nd
  exact (pss_cons (ps_set (i := 1) nd rfl (Or.inr rfl) (c_call G_law_draws (hr.mono (by decide)) T.law_draws.g T.law_draws.F.kp T.law_draws.b (fun _ => at0) (pa_cons (dv 0) pa_nil)))
  (pss_cons (ps_asg (pe_ix d_ix (pe_lst (pa_cons (pe_tup (pa_cons pe_int (pa_cons pe_int pa_nil))) (pa_cons (pe_tup (pa_cons pe_int (pa_cons pe_int pa_nil))) (pa_cons (pe_tup (pa_cons pe_int (pa_cons pe_int pa_nil))) (pa_cons (pe_tup (pa_cons pe_int (pa_cons pe_int pa_nil))) pa_nil))))) (c_call G_law_take (hr.mono (by decide)) T.law_take.g T.law_take.F.kp T.law_take.b (fun _ => at0) (pa_cons (dv 1) (pa_cons pe_int pa_nil))) (fun _ _ => rfl)) (dg_tup (by rfl) (dg_cons (pg_name (i := 2) nd rfl (Or.inr rfl)) (dg_cons (pg_name (i := 3) nd rfl (Or.inr rfl)) dg_nil))))
  (pss_cons (ps_set (i := 4) nd rfl (Or.inr rfl) (d_lcR1 (own := [("k", 13)]) rfl nd T.b_range (pa_cons (c_call G_law_take (hr.mono (by decide)) T.law_take.g T.law_take.F.kp T.law_take.b (fun _ => at0) (pa_cons (dv 1) (pa_cons pe_int pa_nil))) pa_nil) (blkOk_by (N := N_law) (sc := (defScope s_law)) (by decide +kernel)) (fun _ _ _ _ _ => (pg_name (i := 13) nd rfl (Or.inl rfl))) (fun _ _ _ _ _ => pts_nil) (fun _ _ _ _ _ => (pe_op d_sub (c_call G_law_take (hr.mono (by decide)) T.law_take.g T.law_take.F.kp T.law_take.b (fun _ => at0) (pa_cons (dv 1) (pa_cons pe_int pa_nil))) pe_int))))
  (pss_cons (d_par (by rfl) nd rfl rfl (by decide) rfl rfl (pa_cons (c_call G_law_take (hr.mono (by decide)) T.law_take.g T.law_take.F.kp T.law_take.b (fun _ => at0) (pa_cons (dv 1) (pa_cons pe_int pa_nil))) (pa_cons (pe_op d_sub (c_call G_law_take (hr.mono (by decide)) T.law_take.g T.law_take.F.kp T.law_take.b (fun _ => at0) (pa_cons (dv 1) (pa_cons pe_int pa_nil))) pe_int) pa_nil)) (by rfl))
  (pss_cons (ps_set (i := 7) nd rfl (Or.inl rfl) (pe_tup (pa_cons (c_call G_law_take (hr.mono (by decide)) T.law_take.g T.law_take.F.kp T.law_take.b (fun _ => at0) (pa_cons (dv 1) (pa_cons (pe_op d_add2 (dv 5) pe_int) pa_nil))) (pa_cons (dv 5) (pa_cons (dv 6) (pa_cons (pe_op d_add2 (dv 6) (c_call G_law_take (hr.mono (by decide)) T.law_take.g T.law_take.F.kp T.law_take.b (fun _ => at0) (pa_cons (dv 1) (pa_cons pe_int pa_nil)))) pa_nil))))))
  (pss_cons (d_setL (i := 8) (own := [("row", 14)]) rfl nd rfl rfl (sw_true rfl rfl rfl (by decide +kernel)) (c_call G_law_ways (hr.mono (by decide)) T.law_ways.g T.law_ways.F.kp T.law_ways.b (fun _ => at0) (pa_cons (pe_ix d_ix (dv 7) pe_int (fun _ _ => rfl)) (pa_cons (pe_ix d_ix (dv 7) pe_int (fun _ _ => rfl)) (pa_cons (pe_ix d_ix (dv 7) pe_int (fun _ _ => rfl)) (pa_cons (pe_ix d_ix (dv 7) pe_int (fun _ _ => rfl)) pa_nil))))) (blkOk_by (N := N_law) (sc := (defScope s_law)) (by decide +kernel)) (fun _ _ _ _ _ => (pg_name (i := 14) nd rfl (Or.inl rfl))) (fun _ _ _ _ _ => pts_nil) (fun _ _ _ _ _ => (pe_op d_add2 (dv 4) (pe_callTy d_listOf (by rfl) T.b_list (by decide +kernel) (pa_cons (dv 14) pa_nil)))))
  (pss_cons (d_forR1 PassesOwn.never rfl T.b_range (pa_cons pe_int pa_nil) (pg_name (i := 9) nd rfl (Or.inl rfl))
  (pss_cons (ps_set (i := 10) nd rfl (Or.inl rfl) (c_call G_law_told (hr.mono (by decide)) T.law_told.g T.law_told.F.kp T.law_told.b (fun _ => at0) (pa_cons (dv 9) (pa_cons (dv 4) (pa_cons (dv 2) (pa_cons (dv 3) (pa_cons (dv 7) pa_nil)))))))
  (pss_one (ps_if (PW.pt (pw_or (pt_not (dt_tru (c_call G_law_alike (hr.mono (by decide)) T.law_alike.g T.law_alike.F.kp T.law_alike.b (fun _ => at0) (pa_cons (dv 10) (pa_cons (c_call G_law_due (hr.mono (by decide)) T.law_due.g T.law_due.F.kp T.law_due.b (fun _ => at0) (pa_cons (dv 9) (pa_cons (dv 8) (pa_cons (dv 2) (pa_cons (dv 3) pa_nil))))) pa_nil))))) (pw_or1 (PW.pt (pw_and (dt_cmp (d_neD hu) (dv 10) pe_str (nomark _)) (pw_and1 (pt_not (dt_tru (c_call G_law_says (hr.mono (by decide)) T.law_says.g T.law_says.F.kp T.law_says.b (fun _ => at0) (pa_cons (c_call G_is_settled (hr.mono (by decide)) T.is_settled.g T.is_settled.F.kp T.is_settled.b (fun _ => at0) (pa_cons (dv 10) pa_nil)) (pa_cons (pe_cmpR (d_eqD hu) (pe_ix d_ix (dv 10) pe_int (fun _ _ => rfl)) (pe_ix d_ix (dv 10) pe_int (fun _ _ => rfl)) (nomark _)) pa_nil)))))))))))
  (pss_one (ps_ret pe_bl))
  pss_nil))))
  (pss_cons (ps_set (i := 11) nd rfl (Or.inl rfl) (pe_tup (pa_cons (c_call G_law_take (hr.mono (by decide)) T.law_take.g T.law_take.F.kp T.law_take.b (fun _ => at0) (pa_cons (dv 1) (pa_cons pe_int pa_nil))) (pa_cons (pe_op d_add2 pe_int (c_call G_law_take (hr.mono (by decide)) T.law_take.g T.law_take.F.kp T.law_take.b (fun _ => at0) (pa_cons (dv 1) (pa_cons pe_int pa_nil)))) (pa_cons (dv 6) (pa_cons (pe_op d_add2 (dv 6) (c_call G_law_take (hr.mono (by decide)) T.law_take.g T.law_take.F.kp T.law_take.b (fun _ => at0) (pa_cons (dv 1) (pa_cons pe_int pa_nil)))) pa_nil))))))
  (pss_cons (ps_if (PW.pt (pw_or (pt_not (dt_tru (c_call G_law_narrower (hr.mono (by decide)) T.law_narrower.g T.law_narrower.F.kp T.law_narrower.b (fun _ => at0) (pa_cons (dv 1) (pa_cons (dv 4) (pa_cons (dv 2) (pa_cons (dv 3) (pa_cons (dv 7) pa_nil)))))))) (pw_or (pt_not (dt_tru (c_call G_law_narrower (hr.mono (by decide)) T.law_narrower.g T.law_narrower.F.kp T.law_narrower.b (fun _ => at0) (pa_cons (dv 1) (pa_cons (dv 4) (pa_cons (dv 2) (pa_cons (dv 3) (pa_cons (dv 11) pa_nil)))))))) (pw_or1 (pt_not (dt_tru (c_call G_law_areas (hr.mono (by decide)) T.law_areas.g T.law_areas.F.kp T.law_areas.b (fun _ => at0) (pa_cons (dv 1) pa_nil))))))))
  (pss_one (ps_ret pe_bl))
  pss_nil)
  (pss_cons (ps_set (i := 12) nd rfl (Or.inl rfl) (pe_lst (pa_cons (pe_tup (pa_cons (pe_un d_neg pe_int) (pa_cons pe_int (pa_cons pe_int (pa_cons pe_int pa_nil))))) (pa_cons (pe_tup (pa_cons pe_int (pa_cons pe_int (pa_cons pe_int (pa_cons pe_int pa_nil))))) (pa_cons (pe_tup (pa_cons pe_int (pa_cons pe_int (pa_cons pe_int (pa_cons pe_int pa_nil))))) (pa_cons (pe_tup (pa_cons pe_int (pa_cons pe_int (pa_cons pe_int (pa_cons pe_int pa_nil))))) (pa_cons (pe_tup (pa_cons pe_non (pa_cons pe_int (pa_cons pe_int (pa_cons pe_int pa_nil))))) (pa_cons (pe_tup (pa_cons pe_int (pa_cons pe_non (pa_cons pe_int (pa_cons pe_int pa_nil))))) (pa_cons (pe_tup (pa_cons pe_int (pa_cons pe_int (pa_cons pe_non (pa_cons pe_int pa_nil))))) (pa_cons (pe_tup (pa_cons pe_int (pa_cons pe_int (pa_cons pe_int (pa_cons pe_str pa_nil))))) (pa_cons (pe_tup (pa_cons pe_int (pa_cons pe_bl (pa_cons pe_int (pa_cons pe_int pa_nil))))) pa_nil)))))))))))
  (pss_one (ps_ret (pe_cmpR (d_eqD hu) (d_lcL (own := [("value", 15)]) rfl nd (dv 12) (blkOk_by (N := N_law) (sc := (defScope s_law)) (by decide +kernel)) (fun _ _ _ _ _ => (pg_name (i := 15) nd rfl (Or.inr rfl))) (fun _ _ _ _ _ => pts_one (dt_cmp (d_neD hu) (d_lcR1 (own := [("which", 9)]) rfl nd T.b_range (pa_cons pe_int pa_nil) (blkOk_by (N := N_law) (of_decide_eq_true (by kernel_rfl))) (fun _ _ _ _ _ => (pg_name (i := 9) nd rfl (Or.inl rfl))) (fun _ _ _ _ _ => pts_nil) (fun _ _ _ _ _ => (c_call G_law_told (hr.mono (by decide)) T.law_told.g T.law_told.F.kp T.law_told.b (fun _ => at0) (pa_cons (dv 9) (pa_cons (dv 4) (pa_cons (dv 2) (pa_cons (dv 3) (pa_cons (dv 15) pa_nil)))))))) (pe_op d_mul (pe_lst (pa_cons pe_str pa_nil)) pe_int) (nomark _))) (fun _ _ _ _ _ => (dv 15))) (pe_lst pa_nil) (nomark _))))))))))))))
end
theorem wordOk_OutOfRange {K : PySem.W.Frag} {mg : Str → Option Value} {A : Ads} (T : Txt K mg A) : WordOk K A A.OutOfRange "range" :=
  ⟨T.x_OutOfRange.e, T.e_OutOfRange_TraceError, _, _, _, _, _, T.i_OutOfRange_OutOfRange, T.i_OutOfRange_Malformed, T.i_OutOfRange_NotThere, T.i_OutOfRange_Refused, T.i_OutOfRange_TooMuch, by decide +kernel⟩
theorem wordOk_NotThere {K : PySem.W.Frag} {mg : Str → Option Value} {A : Ads} (T : Txt K mg A) : WordOk K A A.NotThere "none" :=
  ⟨T.x_NotThere.e, T.e_NotThere_TraceError, _, _, _, _, _, T.i_NotThere_OutOfRange, T.i_NotThere_Malformed, T.i_NotThere_NotThere, T.i_NotThere_Refused, T.i_NotThere_TooMuch, by decide +kernel⟩
section
variable {P : Program} {w : World} {K : PySem.W.Frag} {mg : Str → Option Value} {A : Ads}
theorem ok_all (T : Txt K mg A) (base : Heap) : FnOk P w K mg base CX0 6 T.law.a T.law.fd ["script"] (sp_law K) := by
  have G_is_number := ok_is_number (P := P) (w := w) (base := base) T  (by intro vs H Q E h; first | (obtain ⟨_, rfl, _⟩ := h; rfl) | (obtain ⟨_, _, rfl, _⟩ := h; rfl) | (obtain ⟨_, _, _, rfl, _⟩ := h; rfl) | (obtain ⟨_, _, _, _, rfl, _⟩ := h; rfl) | (obtain ⟨_, _, _, _, _, rfl, _⟩ := h; rfl) | (obtain ⟨_, _, _, _, _, _, rfl, _⟩ := h; rfl) | (obtain ⟨_, _, _, _, _, _, _, rfl, _⟩ := h; rfl) | (obtain ⟨_, _, _, _, _, _, _, _, rfl, _⟩ := h; rfl) | (obtain ⟨_, _, _, _, _, _, _, _, _, rfl, _⟩ := h; rfl) | (obtain ⟨_, _, _, _, _, _, _, _, _, _, rfl, _⟩ := h; rfl) | (obtain ⟨_, _, _, _, _, _, _, _, _, _, _, rfl, _⟩ := h; rfl) | (obtain ⟨_, _, _, _, _, _, _, _, _, _, _, _, rfl, _⟩ := h; rfl) | (obtain ⟨_, _, _, _, _, _, _, _, _, _, _, _, _, rfl, _⟩ := h; rfl) | (obtain ⟨_, _, _, _, _, _, _, _, _, _, _, _, _, _, rfl, _⟩ := h; rfl) | (obtain ⟨_, _, _, _, _, _, _, _, _, _, _, _, _, _, _, rfl, _⟩ := h; rfl)) (fun vs H Q E h => r_is_number h)
  have G_lowest := ok_lowest (P := P) (w := w) (base := base) T  (by intro vs H Q E h; first | (obtain ⟨_, rfl, _⟩ := h; rfl) | (obtain ⟨_, _, rfl, _⟩ := h; rfl) | (obtain ⟨_, _, _, rfl, _⟩ := h; rfl) | (obtain ⟨_, _, _, _, rfl, _⟩ := h; rfl) | (obtain ⟨_, _, _, _, _, rfl, _⟩ := h; rfl) | (obtain ⟨_, _, _, _, _, _, rfl, _⟩ := h; rfl) | (obtain ⟨_, _, _, _, _, _, _, rfl, _⟩ := h; rfl) | (obtain ⟨_, _, _, _, _, _, _, _, rfl, _⟩ := h; rfl) | (obtain ⟨_, _, _, _, _, _, _, _, _, rfl, _⟩ := h; rfl) | (obtain ⟨_, _, _, _, _, _, _, _, _, _, rfl, _⟩ := h; rfl) | (obtain ⟨_, _, _, _, _, _, _, _, _, _, _, rfl, _⟩ := h; rfl) | (obtain ⟨_, _, _, _, _, _, _, _, _, _, _, _, rfl, _⟩ := h; rfl) | (obtain ⟨_, _, _, _, _, _, _, _, _, _, _, _, _, rfl, _⟩ := h; rfl) | (obtain ⟨_, _, _, _, _, _, _, _, _, _, _, _, _, _, rfl, _⟩ := h; rfl) | (obtain ⟨_, _, _, _, _, _, _, _, _, _, _, _, _, _, _, rfl, _⟩ := h; rfl)) (fun vs H Q E h => r_lowest h)
  have G_made := ok_made (P := P) (w := w) (base := base) T G_lowest (by intro vs H Q E h; first | (obtain ⟨_, rfl, _⟩ := h; rfl) | (obtain ⟨_, _, rfl, _⟩ := h; rfl) | (obtain ⟨_, _, _, rfl, _⟩ := h; rfl) | (obtain ⟨_, _, _, _, rfl, _⟩ := h; rfl) | (obtain ⟨_, _, _, _, _, rfl, _⟩ := h; rfl) | (obtain ⟨_, _, _, _, _, _, rfl, _⟩ := h; rfl) | (obtain ⟨_, _, _, _, _, _, _, rfl, _⟩ := h; rfl) | (obtain ⟨_, _, _, _, _, _, _, _, rfl, _⟩ := h; rfl) | (obtain ⟨_, _, _, _, _, _, _, _, _, rfl, _⟩ := h; rfl) | (obtain ⟨_, _, _, _, _, _, _, _, _, _, rfl, _⟩ := h; rfl) | (obtain ⟨_, _, _, _, _, _, _, _, _, _, _, rfl, _⟩ := h; rfl) | (obtain ⟨_, _, _, _, _, _, _, _, _, _, _, _, rfl, _⟩ := h; rfl) | (obtain ⟨_, _, _, _, _, _, _, _, _, _, _, _, _, rfl, _⟩ := h; rfl) | (obtain ⟨_, _, _, _, _, _, _, _, _, _, _, _, _, _, rfl, _⟩ := h; rfl) | (obtain ⟨_, _, _, _, _, _, _, _, _, _, _, _, _, _, _, rfl, _⟩ := h; rfl)) (fun vs H Q E h => r_made h)
  have G_less := ok_less (P := P) (w := w) (base := base) T  (by intro vs H Q E h; first | (obtain ⟨_, rfl, _⟩ := h; rfl) | (obtain ⟨_, _, rfl, _⟩ := h; rfl) | (obtain ⟨_, _, _, rfl, _⟩ := h; rfl) | (obtain ⟨_, _, _, _, rfl, _⟩ := h; rfl) | (obtain ⟨_, _, _, _, _, rfl, _⟩ := h; rfl) | (obtain ⟨_, _, _, _, _, _, rfl, _⟩ := h; rfl) | (obtain ⟨_, _, _, _, _, _, _, rfl, _⟩ := h; rfl) | (obtain ⟨_, _, _, _, _, _, _, _, rfl, _⟩ := h; rfl) | (obtain ⟨_, _, _, _, _, _, _, _, _, rfl, _⟩ := h; rfl) | (obtain ⟨_, _, _, _, _, _, _, _, _, _, rfl, _⟩ := h; rfl) | (obtain ⟨_, _, _, _, _, _, _, _, _, _, _, rfl, _⟩ := h; rfl) | (obtain ⟨_, _, _, _, _, _, _, _, _, _, _, _, rfl, _⟩ := h; rfl) | (obtain ⟨_, _, _, _, _, _, _, _, _, _, _, _, _, rfl, _⟩ := h; rfl) | (obtain ⟨_, _, _, _, _, _, _, _, _, _, _, _, _, _, rfl, _⟩ := h; rfl) | (obtain ⟨_, _, _, _, _, _, _, _, _, _, _, _, _, _, _, rfl, _⟩ := h; rfl)) (fun vs H Q E h => r_less h)
  have G_rank_place := ok_rank_place (P := P) (w := w) (base := base) T  (by intro vs H Q E h; first | (obtain ⟨_, rfl, _⟩ := h; rfl) | (obtain ⟨_, _, rfl, _⟩ := h; rfl) | (obtain ⟨_, _, _, rfl, _⟩ := h; rfl) | (obtain ⟨_, _, _, _, rfl, _⟩ := h; rfl) | (obtain ⟨_, _, _, _, _, rfl, _⟩ := h; rfl) | (obtain ⟨_, _, _, _, _, _, rfl, _⟩ := h; rfl) | (obtain ⟨_, _, _, _, _, _, _, rfl, _⟩ := h; rfl) | (obtain ⟨_, _, _, _, _, _, _, _, rfl, _⟩ := h; rfl) | (obtain ⟨_, _, _, _, _, _, _, _, _, rfl, _⟩ := h; rfl) | (obtain ⟨_, _, _, _, _, _, _, _, _, _, rfl, _⟩ := h; rfl) | (obtain ⟨_, _, _, _, _, _, _, _, _, _, _, rfl, _⟩ := h; rfl) | (obtain ⟨_, _, _, _, _, _, _, _, _, _, _, _, rfl, _⟩ := h; rfl) | (obtain ⟨_, _, _, _, _, _, _, _, _, _, _, _, _, rfl, _⟩ := h; rfl) | (obtain ⟨_, _, _, _, _, _, _, _, _, _, _, _, _, _, rfl, _⟩ := h; rfl) | (obtain ⟨_, _, _, _, _, _, _, _, _, _, _, _, _, _, _, rfl, _⟩ := h; rfl)) (fun vs H Q E h => r_rank_place h)
  have G_rank_of_all := ok_rank_of_all (P := P) (w := w) (base := base) T G_rank_place (by intro vs H Q E h; first | (obtain ⟨_, rfl, _⟩ := h; rfl) | (obtain ⟨_, _, rfl, _⟩ := h; rfl) | (obtain ⟨_, _, _, rfl, _⟩ := h; rfl) | (obtain ⟨_, _, _, _, rfl, _⟩ := h; rfl) | (obtain ⟨_, _, _, _, _, rfl, _⟩ := h; rfl) | (obtain ⟨_, _, _, _, _, _, rfl, _⟩ := h; rfl) | (obtain ⟨_, _, _, _, _, _, _, rfl, _⟩ := h; rfl) | (obtain ⟨_, _, _, _, _, _, _, _, rfl, _⟩ := h; rfl) | (obtain ⟨_, _, _, _, _, _, _, _, _, rfl, _⟩ := h; rfl) | (obtain ⟨_, _, _, _, _, _, _, _, _, _, rfl, _⟩ := h; rfl) | (obtain ⟨_, _, _, _, _, _, _, _, _, _, _, rfl, _⟩ := h; rfl) | (obtain ⟨_, _, _, _, _, _, _, _, _, _, _, _, rfl, _⟩ := h; rfl) | (obtain ⟨_, _, _, _, _, _, _, _, _, _, _, _, _, rfl, _⟩ := h; rfl) | (obtain ⟨_, _, _, _, _, _, _, _, _, _, _, _, _, _, rfl, _⟩ := h; rfl) | (obtain ⟨_, _, _, _, _, _, _, _, _, _, _, _, _, _, _, rfl, _⟩ := h; rfl)) (fun vs H Q E h => r_rank_of_all h)
  have G_check_more := ok_check_more (P := P) (w := w) (base := base) T G_is_number (by intro vs H Q E h; first | (obtain ⟨_, rfl, _⟩ := h; rfl) | (obtain ⟨_, _, rfl, _⟩ := h; rfl) | (obtain ⟨_, _, _, rfl, _⟩ := h; rfl) | (obtain ⟨_, _, _, _, rfl, _⟩ := h; rfl) | (obtain ⟨_, _, _, _, _, rfl, _⟩ := h; rfl) | (obtain ⟨_, _, _, _, _, _, rfl, _⟩ := h; rfl) | (obtain ⟨_, _, _, _, _, _, _, rfl, _⟩ := h; rfl) | (obtain ⟨_, _, _, _, _, _, _, _, rfl, _⟩ := h; rfl) | (obtain ⟨_, _, _, _, _, _, _, _, _, rfl, _⟩ := h; rfl) | (obtain ⟨_, _, _, _, _, _, _, _, _, _, rfl, _⟩ := h; rfl) | (obtain ⟨_, _, _, _, _, _, _, _, _, _, _, rfl, _⟩ := h; rfl) | (obtain ⟨_, _, _, _, _, _, _, _, _, _, _, _, rfl, _⟩ := h; rfl) | (obtain ⟨_, _, _, _, _, _, _, _, _, _, _, _, _, rfl, _⟩ := h; rfl) | (obtain ⟨_, _, _, _, _, _, _, _, _, _, _, _, _, _, rfl, _⟩ := h; rfl) | (obtain ⟨_, _, _, _, _, _, _, _, _, _, _, _, _, _, _, rfl, _⟩ := h; rfl)) (fun vs H Q E h => r_check_more h)
  have G_ends_of := ok_ends_of (P := P) (w := w) (base := base) T  (by intro vs H Q E h; first | (obtain ⟨_, rfl, _⟩ := h; rfl) | (obtain ⟨_, _, rfl, _⟩ := h; rfl) | (obtain ⟨_, _, _, rfl, _⟩ := h; rfl) | (obtain ⟨_, _, _, _, rfl, _⟩ := h; rfl) | (obtain ⟨_, _, _, _, _, rfl, _⟩ := h; rfl) | (obtain ⟨_, _, _, _, _, _, rfl, _⟩ := h; rfl) | (obtain ⟨_, _, _, _, _, _, _, rfl, _⟩ := h; rfl) | (obtain ⟨_, _, _, _, _, _, _, _, rfl, _⟩ := h; rfl) | (obtain ⟨_, _, _, _, _, _, _, _, _, rfl, _⟩ := h; rfl) | (obtain ⟨_, _, _, _, _, _, _, _, _, _, rfl, _⟩ := h; rfl) | (obtain ⟨_, _, _, _, _, _, _, _, _, _, _, rfl, _⟩ := h; rfl) | (obtain ⟨_, _, _, _, _, _, _, _, _, _, _, _, rfl, _⟩ := h; rfl) | (obtain ⟨_, _, _, _, _, _, _, _, _, _, _, _, _, rfl, _⟩ := h; rfl) | (obtain ⟨_, _, _, _, _, _, _, _, _, _, _, _, _, _, rfl, _⟩ := h; rfl) | (obtain ⟨_, _, _, _, _, _, _, _, _, _, _, _, _, _, _, rfl, _⟩ := h; rfl)) (fun vs H Q E h => r_ends_of h)
  have G_range_of_total := ok_range_of_total (P := P) (w := w) (base := base) T G_check_more (by intro vs H Q E h; first | (obtain ⟨_, rfl, _⟩ := h; rfl) | (obtain ⟨_, _, rfl, _⟩ := h; rfl) | (obtain ⟨_, _, _, rfl, _⟩ := h; rfl) | (obtain ⟨_, _, _, _, rfl, _⟩ := h; rfl) | (obtain ⟨_, _, _, _, _, rfl, _⟩ := h; rfl) | (obtain ⟨_, _, _, _, _, _, rfl, _⟩ := h; rfl) | (obtain ⟨_, _, _, _, _, _, _, rfl, _⟩ := h; rfl) | (obtain ⟨_, _, _, _, _, _, _, _, rfl, _⟩ := h; rfl) | (obtain ⟨_, _, _, _, _, _, _, _, _, rfl, _⟩ := h; rfl) | (obtain ⟨_, _, _, _, _, _, _, _, _, _, rfl, _⟩ := h; rfl) | (obtain ⟨_, _, _, _, _, _, _, _, _, _, _, rfl, _⟩ := h; rfl) | (obtain ⟨_, _, _, _, _, _, _, _, _, _, _, _, rfl, _⟩ := h; rfl) | (obtain ⟨_, _, _, _, _, _, _, _, _, _, _, _, _, rfl, _⟩ := h; rfl) | (obtain ⟨_, _, _, _, _, _, _, _, _, _, _, _, _, _, rfl, _⟩ := h; rfl) | (obtain ⟨_, _, _, _, _, _, _, _, _, _, _, _, _, _, _, rfl, _⟩ := h; rfl)) (fun vs H Q E h => r_range_of_total h)
  have G_range_of_greatest := ok_range_of_greatest (P := P) (w := w) (base := base) T G_check_more (by intro vs H Q E h; first | (obtain ⟨_, rfl, _⟩ := h; rfl) | (obtain ⟨_, _, rfl, _⟩ := h; rfl) | (obtain ⟨_, _, _, rfl, _⟩ := h; rfl) | (obtain ⟨_, _, _, _, rfl, _⟩ := h; rfl) | (obtain ⟨_, _, _, _, _, rfl, _⟩ := h; rfl) | (obtain ⟨_, _, _, _, _, _, rfl, _⟩ := h; rfl) | (obtain ⟨_, _, _, _, _, _, _, rfl, _⟩ := h; rfl) | (obtain ⟨_, _, _, _, _, _, _, _, rfl, _⟩ := h; rfl) | (obtain ⟨_, _, _, _, _, _, _, _, _, rfl, _⟩ := h; rfl) | (obtain ⟨_, _, _, _, _, _, _, _, _, _, rfl, _⟩ := h; rfl) | (obtain ⟨_, _, _, _, _, _, _, _, _, _, _, rfl, _⟩ := h; rfl) | (obtain ⟨_, _, _, _, _, _, _, _, _, _, _, _, rfl, _⟩ := h; rfl) | (obtain ⟨_, _, _, _, _, _, _, _, _, _, _, _, _, rfl, _⟩ := h; rfl) | (obtain ⟨_, _, _, _, _, _, _, _, _, _, _, _, _, _, rfl, _⟩ := h; rfl) | (obtain ⟨_, _, _, _, _, _, _, _, _, _, _, _, _, _, _, rfl, _⟩ := h; rfl)) (fun vs H Q E h => r_range_of_greatest h)
  have G_range_of_mean := ok_range_of_mean (P := P) (w := w) (base := base) T G_less G_made G_ends_of G_check_more (by intro vs H Q E h; first | (obtain ⟨_, rfl, _⟩ := h; rfl) | (obtain ⟨_, _, rfl, _⟩ := h; rfl) | (obtain ⟨_, _, _, rfl, _⟩ := h; rfl) | (obtain ⟨_, _, _, _, rfl, _⟩ := h; rfl) | (obtain ⟨_, _, _, _, _, rfl, _⟩ := h; rfl) | (obtain ⟨_, _, _, _, _, _, rfl, _⟩ := h; rfl) | (obtain ⟨_, _, _, _, _, _, _, rfl, _⟩ := h; rfl) | (obtain ⟨_, _, _, _, _, _, _, _, rfl, _⟩ := h; rfl) | (obtain ⟨_, _, _, _, _, _, _, _, _, rfl, _⟩ := h; rfl) | (obtain ⟨_, _, _, _, _, _, _, _, _, _, rfl, _⟩ := h; rfl) | (obtain ⟨_, _, _, _, _, _, _, _, _, _, _, rfl, _⟩ := h; rfl) | (obtain ⟨_, _, _, _, _, _, _, _, _, _, _, _, rfl, _⟩ := h; rfl) | (obtain ⟨_, _, _, _, _, _, _, _, _, _, _, _, _, rfl, _⟩ := h; rfl) | (obtain ⟨_, _, _, _, _, _, _, _, _, _, _, _, _, _, rfl, _⟩ := h; rfl) | (obtain ⟨_, _, _, _, _, _, _, _, _, _, _, _, _, _, _, rfl, _⟩ := h; rfl)) (fun vs H Q E h => r_range_of_mean h)
  have G_range_of_rank := ok_range_of_rank (P := P) (w := w) (base := base) T G_rank_of_all G_check_more (by intro vs H Q E h; first | (obtain ⟨_, rfl, _⟩ := h; rfl) | (obtain ⟨_, _, rfl, _⟩ := h; rfl) | (obtain ⟨_, _, _, rfl, _⟩ := h; rfl) | (obtain ⟨_, _, _, _, rfl, _⟩ := h; rfl) | (obtain ⟨_, _, _, _, _, rfl, _⟩ := h; rfl) | (obtain ⟨_, _, _, _, _, _, rfl, _⟩ := h; rfl) | (obtain ⟨_, _, _, _, _, _, _, rfl, _⟩ := h; rfl) | (obtain ⟨_, _, _, _, _, _, _, _, rfl, _⟩ := h; rfl) | (obtain ⟨_, _, _, _, _, _, _, _, _, rfl, _⟩ := h; rfl) | (obtain ⟨_, _, _, _, _, _, _, _, _, _, rfl, _⟩ := h; rfl) | (obtain ⟨_, _, _, _, _, _, _, _, _, _, _, rfl, _⟩ := h; rfl) | (obtain ⟨_, _, _, _, _, _, _, _, _, _, _, _, rfl, _⟩ := h; rfl) | (obtain ⟨_, _, _, _, _, _, _, _, _, _, _, _, _, rfl, _⟩ := h; rfl) | (obtain ⟨_, _, _, _, _, _, _, _, _, _, _, _, _, _, rfl, _⟩ := h; rfl) | (obtain ⟨_, _, _, _, _, _, _, _, _, _, _, _, _, _, _, rfl, _⟩ := h; rfl)) (fun vs H Q E h => r_range_of_rank h)
  have G_range_of_area := ok_range_of_area (P := P) (w := w) (base := base) T G_check_more (by intro vs H Q E h; first | (obtain ⟨_, rfl, _⟩ := h; rfl) | (obtain ⟨_, _, rfl, _⟩ := h; rfl) | (obtain ⟨_, _, _, rfl, _⟩ := h; rfl) | (obtain ⟨_, _, _, _, rfl, _⟩ := h; rfl) | (obtain ⟨_, _, _, _, _, rfl, _⟩ := h; rfl) | (obtain ⟨_, _, _, _, _, _, rfl, _⟩ := h; rfl) | (obtain ⟨_, _, _, _, _, _, _, rfl, _⟩ := h; rfl) | (obtain ⟨_, _, _, _, _, _, _, _, rfl, _⟩ := h; rfl) | (obtain ⟨_, _, _, _, _, _, _, _, _, rfl, _⟩ := h; rfl) | (obtain ⟨_, _, _, _, _, _, _, _, _, _, rfl, _⟩ := h; rfl) | (obtain ⟨_, _, _, _, _, _, _, _, _, _, _, rfl, _⟩ := h; rfl) | (obtain ⟨_, _, _, _, _, _, _, _, _, _, _, _, rfl, _⟩ := h; rfl) | (obtain ⟨_, _, _, _, _, _, _, _, _, _, _, _, _, rfl, _⟩ := h; rfl) | (obtain ⟨_, _, _, _, _, _, _, _, _, _, _, _, _, _, rfl, _⟩ := h; rfl) | (obtain ⟨_, _, _, _, _, _, _, _, _, _, _, _, _, _, _, rfl, _⟩ := h; rfl)) (fun vs H Q E h => r_range_of_area h)
  have G_is_settled := ok_is_settled (P := P) (w := w) (base := base) T  (by intro vs H Q E h; first | (obtain ⟨_, rfl, _⟩ := h; rfl) | (obtain ⟨_, _, rfl, _⟩ := h; rfl) | (obtain ⟨_, _, _, rfl, _⟩ := h; rfl) | (obtain ⟨_, _, _, _, rfl, _⟩ := h; rfl) | (obtain ⟨_, _, _, _, _, rfl, _⟩ := h; rfl) | (obtain ⟨_, _, _, _, _, _, rfl, _⟩ := h; rfl) | (obtain ⟨_, _, _, _, _, _, _, rfl, _⟩ := h; rfl) | (obtain ⟨_, _, _, _, _, _, _, _, rfl, _⟩ := h; rfl) | (obtain ⟨_, _, _, _, _, _, _, _, _, rfl, _⟩ := h; rfl) | (obtain ⟨_, _, _, _, _, _, _, _, _, _, rfl, _⟩ := h; rfl) | (obtain ⟨_, _, _, _, _, _, _, _, _, _, _, rfl, _⟩ := h; rfl) | (obtain ⟨_, _, _, _, _, _, _, _, _, _, _, _, rfl, _⟩ := h; rfl) | (obtain ⟨_, _, _, _, _, _, _, _, _, _, _, _, _, rfl, _⟩ := h; rfl) | (obtain ⟨_, _, _, _, _, _, _, _, _, _, _, _, _, _, rfl, _⟩ := h; rfl) | (obtain ⟨_, _, _, _, _, _, _, _, _, _, _, _, _, _, _, rfl, _⟩ := h; rfl)) (fun vs H Q E h => r_is_settled h)
  have G_law_draws := ok_law_draws (P := P) (w := w) (base := base) T  (by intro vs H Q E h; first | (obtain ⟨_, rfl, _⟩ := h; rfl) | (obtain ⟨_, _, rfl, _⟩ := h; rfl) | (obtain ⟨_, _, _, rfl, _⟩ := h; rfl) | (obtain ⟨_, _, _, _, rfl, _⟩ := h; rfl) | (obtain ⟨_, _, _, _, _, rfl, _⟩ := h; rfl) | (obtain ⟨_, _, _, _, _, _, rfl, _⟩ := h; rfl) | (obtain ⟨_, _, _, _, _, _, _, rfl, _⟩ := h; rfl) | (obtain ⟨_, _, _, _, _, _, _, _, rfl, _⟩ := h; rfl) | (obtain ⟨_, _, _, _, _, _, _, _, _, rfl, _⟩ := h; rfl) | (obtain ⟨_, _, _, _, _, _, _, _, _, _, rfl, _⟩ := h; rfl) | (obtain ⟨_, _, _, _, _, _, _, _, _, _, _, rfl, _⟩ := h; rfl) | (obtain ⟨_, _, _, _, _, _, _, _, _, _, _, _, rfl, _⟩ := h; rfl) | (obtain ⟨_, _, _, _, _, _, _, _, _, _, _, _, _, rfl, _⟩ := h; rfl) | (obtain ⟨_, _, _, _, _, _, _, _, _, _, _, _, _, _, rfl, _⟩ := h; rfl) | (obtain ⟨_, _, _, _, _, _, _, _, _, _, _, _, _, _, _, rfl, _⟩ := h; rfl)) (fun vs H Q E h => r_law_draws h)
  have G_law_take := ok_law_take (P := P) (w := w) (base := base) T  (by intro vs H Q E h; first | (obtain ⟨_, rfl, _⟩ := h; rfl) | (obtain ⟨_, _, rfl, _⟩ := h; rfl) | (obtain ⟨_, _, _, rfl, _⟩ := h; rfl) | (obtain ⟨_, _, _, _, rfl, _⟩ := h; rfl) | (obtain ⟨_, _, _, _, _, rfl, _⟩ := h; rfl) | (obtain ⟨_, _, _, _, _, _, rfl, _⟩ := h; rfl) | (obtain ⟨_, _, _, _, _, _, _, rfl, _⟩ := h; rfl) | (obtain ⟨_, _, _, _, _, _, _, _, rfl, _⟩ := h; rfl) | (obtain ⟨_, _, _, _, _, _, _, _, _, rfl, _⟩ := h; rfl) | (obtain ⟨_, _, _, _, _, _, _, _, _, _, rfl, _⟩ := h; rfl) | (obtain ⟨_, _, _, _, _, _, _, _, _, _, _, rfl, _⟩ := h; rfl) | (obtain ⟨_, _, _, _, _, _, _, _, _, _, _, _, rfl, _⟩ := h; rfl) | (obtain ⟨_, _, _, _, _, _, _, _, _, _, _, _, _, rfl, _⟩ := h; rfl) | (obtain ⟨_, _, _, _, _, _, _, _, _, _, _, _, _, _, rfl, _⟩ := h; rfl) | (obtain ⟨_, _, _, _, _, _, _, _, _, _, _, _, _, _, _, rfl, _⟩ := h; rfl)) (fun vs H Q E h => r_law_take h)
  have G0 : FnOk P w K mg base CX0 1 T.law_alike.a T.law_alike.fd ["found", "due"] (fun _ _ _ _ => False) := ⟨fun _ _ _ _ h => h.elim, fun _ _ _ _ _ _ _ _ _ _ _ _ _ h => h.elim⟩
  have G1 := ok_law_alike (P := P) (w := w) (base := base) T (fun _ _ _ _ => False) (sp_law_alike K 0) 0 G0 (by intro vs H Q E h; first | (obtain ⟨_, rfl, _⟩ := h; rfl) | (obtain ⟨_, _, rfl, _⟩ := h; rfl) | (obtain ⟨_, _, _, rfl, _⟩ := h; rfl) | (obtain ⟨_, _, _, _, rfl, _⟩ := h; rfl) | (obtain ⟨_, _, _, _, _, rfl, _⟩ := h; rfl) | (obtain ⟨_, _, _, _, _, _, rfl, _⟩ := h; rfl) | (obtain ⟨_, _, _, _, _, _, _, rfl, _⟩ := h; rfl) | (obtain ⟨_, _, _, _, _, _, _, _, rfl, _⟩ := h; rfl) | (obtain ⟨_, _, _, _, _, _, _, _, _, rfl, _⟩ := h; rfl) | (obtain ⟨_, _, _, _, _, _, _, _, _, _, rfl, _⟩ := h; rfl) | (obtain ⟨_, _, _, _, _, _, _, _, _, _, _, rfl, _⟩ := h; rfl) | (obtain ⟨_, _, _, _, _, _, _, _, _, _, _, _, rfl, _⟩ := h; rfl) | (obtain ⟨_, _, _, _, _, _, _, _, _, _, _, _, _, rfl, _⟩ := h; rfl) | (obtain ⟨_, _, _, _, _, _, _, _, _, _, _, _, _, _, rfl, _⟩ := h; rfl) | (obtain ⟨_, _, _, _, _, _, _, _, _, _, _, _, _, _, _, rfl, _⟩ := h; rfl)) (fun vs H Q E h => r_law_alike0 h)
  have G2 := ok_law_alike (P := P) (w := w) (base := base) T (sp_law_alike K 0) (sp_law_alike K 1) 1 G1 (by intro vs H Q E h; first | (obtain ⟨_, rfl, _⟩ := h; rfl) | (obtain ⟨_, _, rfl, _⟩ := h; rfl) | (obtain ⟨_, _, _, rfl, _⟩ := h; rfl) | (obtain ⟨_, _, _, _, rfl, _⟩ := h; rfl) | (obtain ⟨_, _, _, _, _, rfl, _⟩ := h; rfl) | (obtain ⟨_, _, _, _, _, _, rfl, _⟩ := h; rfl) | (obtain ⟨_, _, _, _, _, _, _, rfl, _⟩ := h; rfl) | (obtain ⟨_, _, _, _, _, _, _, _, rfl, _⟩ := h; rfl) | (obtain ⟨_, _, _, _, _, _, _, _, _, rfl, _⟩ := h; rfl) | (obtain ⟨_, _, _, _, _, _, _, _, _, _, rfl, _⟩ := h; rfl) | (obtain ⟨_, _, _, _, _, _, _, _, _, _, _, rfl, _⟩ := h; rfl) | (obtain ⟨_, _, _, _, _, _, _, _, _, _, _, _, rfl, _⟩ := h; rfl) | (obtain ⟨_, _, _, _, _, _, _, _, _, _, _, _, _, rfl, _⟩ := h; rfl) | (obtain ⟨_, _, _, _, _, _, _, _, _, _, _, _, _, _, rfl, _⟩ := h; rfl) | (obtain ⟨_, _, _, _, _, _, _, _, _, _, _, _, _, _, _, rfl, _⟩ := h; rfl)) (fun vs H Q E h => r_law_alike h)
  have G3 := ok_law_alike (P := P) (w := w) (base := base) T (sp_law_alike K 1) (sp_law_alike K 2) 2 G2 (by intro vs H Q E h; first | (obtain ⟨_, rfl, _⟩ := h; rfl) | (obtain ⟨_, _, rfl, _⟩ := h; rfl) | (obtain ⟨_, _, _, rfl, _⟩ := h; rfl) | (obtain ⟨_, _, _, _, rfl, _⟩ := h; rfl) | (obtain ⟨_, _, _, _, _, rfl, _⟩ := h; rfl) | (obtain ⟨_, _, _, _, _, _, rfl, _⟩ := h; rfl) | (obtain ⟨_, _, _, _, _, _, _, rfl, _⟩ := h; rfl) | (obtain ⟨_, _, _, _, _, _, _, _, rfl, _⟩ := h; rfl) | (obtain ⟨_, _, _, _, _, _, _, _, _, rfl, _⟩ := h; rfl) | (obtain ⟨_, _, _, _, _, _, _, _, _, _, rfl, _⟩ := h; rfl) | (obtain ⟨_, _, _, _, _, _, _, _, _, _, _, rfl, _⟩ := h; rfl) | (obtain ⟨_, _, _, _, _, _, _, _, _, _, _, _, rfl, _⟩ := h; rfl) | (obtain ⟨_, _, _, _, _, _, _, _, _, _, _, _, _, rfl, _⟩ := h; rfl) | (obtain ⟨_, _, _, _, _, _, _, _, _, _, _, _, _, _, rfl, _⟩ := h; rfl) | (obtain ⟨_, _, _, _, _, _, _, _, _, _, _, _, _, _, _, rfl, _⟩ := h; rfl)) (fun vs H Q E h => r_law_alike h)
  have G4 := ok_law_alike (P := P) (w := w) (base := base) T (sp_law_alike K 2) (sp_law_alike K 3) 3 G3 (by intro vs H Q E h; first | (obtain ⟨_, rfl, _⟩ := h; rfl) | (obtain ⟨_, _, rfl, _⟩ := h; rfl) | (obtain ⟨_, _, _, rfl, _⟩ := h; rfl) | (obtain ⟨_, _, _, _, rfl, _⟩ := h; rfl) | (obtain ⟨_, _, _, _, _, rfl, _⟩ := h; rfl) | (obtain ⟨_, _, _, _, _, _, rfl, _⟩ := h; rfl) | (obtain ⟨_, _, _, _, _, _, _, rfl, _⟩ := h; rfl) | (obtain ⟨_, _, _, _, _, _, _, _, rfl, _⟩ := h; rfl) | (obtain ⟨_, _, _, _, _, _, _, _, _, rfl, _⟩ := h; rfl) | (obtain ⟨_, _, _, _, _, _, _, _, _, _, rfl, _⟩ := h; rfl) | (obtain ⟨_, _, _, _, _, _, _, _, _, _, _, rfl, _⟩ := h; rfl) | (obtain ⟨_, _, _, _, _, _, _, _, _, _, _, _, rfl, _⟩ := h; rfl) | (obtain ⟨_, _, _, _, _, _, _, _, _, _, _, _, _, rfl, _⟩ := h; rfl) | (obtain ⟨_, _, _, _, _, _, _, _, _, _, _, _, _, _, rfl, _⟩ := h; rfl) | (obtain ⟨_, _, _, _, _, _, _, _, _, _, _, _, _, _, _, rfl, _⟩ := h; rfl)) (fun vs H Q E h => r_law_alike h)
  have G_law_alike := G4
  have G_law_word := ok_law_word (P := P) (w := w) (base := base) T (by intro a c d vs H Q E h; first | (obtain ⟨_, rfl, _⟩ := h; rfl) | (obtain ⟨_, _, rfl, _⟩ := h; rfl) | (obtain ⟨_, _, _, rfl, _⟩ := h; rfl) | (obtain ⟨_, _, _, _, rfl, _⟩ := h; rfl) | (obtain ⟨_, _, _, _, _, rfl, _⟩ := h; rfl) | (obtain ⟨_, _, _, _, _, _, rfl, _⟩ := h; rfl) | (obtain ⟨_, _, _, _, _, _, _, rfl, _⟩ := h; rfl) | (obtain ⟨_, _, _, _, _, _, _, _, rfl, _⟩ := h; rfl) | (obtain ⟨_, _, _, _, _, _, _, _, _, rfl, _⟩ := h; rfl) | (obtain ⟨_, _, _, _, _, _, _, _, _, _, rfl, _⟩ := h; rfl) | (obtain ⟨_, _, _, _, _, _, _, _, _, _, _, rfl, _⟩ := h; rfl) | (obtain ⟨_, _, _, _, _, _, _, _, _, _, _, _, rfl, _⟩ := h; rfl) | (obtain ⟨_, _, _, _, _, _, _, _, _, _, _, _, _, rfl, _⟩ := h; rfl) | (obtain ⟨_, _, _, _, _, _, _, _, _, _, _, _, _, _, rfl, _⟩ := h; rfl) | (obtain ⟨_, _, _, _, _, _, _, _, _, _, _, _, _, _, _, rfl, _⟩ := h; rfl)) (fun a c d vs H Q E h => let ⟨D, _, _, _, _, _, _, _, h1, h2, h3, _⟩ := h; ⟨D, h1, h2, h3⟩) (fun ax D vs H Q E h => r_law_word h)
  have G_law_says := ok_law_says (P := P) (w := w) (base := base) T  (by intro vs H Q E h; first | (obtain ⟨_, rfl, _⟩ := h; rfl) | (obtain ⟨_, _, rfl, _⟩ := h; rfl) | (obtain ⟨_, _, _, rfl, _⟩ := h; rfl) | (obtain ⟨_, _, _, _, rfl, _⟩ := h; rfl) | (obtain ⟨_, _, _, _, _, rfl, _⟩ := h; rfl) | (obtain ⟨_, _, _, _, _, _, rfl, _⟩ := h; rfl) | (obtain ⟨_, _, _, _, _, _, _, rfl, _⟩ := h; rfl) | (obtain ⟨_, _, _, _, _, _, _, _, rfl, _⟩ := h; rfl) | (obtain ⟨_, _, _, _, _, _, _, _, _, rfl, _⟩ := h; rfl) | (obtain ⟨_, _, _, _, _, _, _, _, _, _, rfl, _⟩ := h; rfl) | (obtain ⟨_, _, _, _, _, _, _, _, _, _, _, rfl, _⟩ := h; rfl) | (obtain ⟨_, _, _, _, _, _, _, _, _, _, _, _, rfl, _⟩ := h; rfl) | (obtain ⟨_, _, _, _, _, _, _, _, _, _, _, _, _, rfl, _⟩ := h; rfl) | (obtain ⟨_, _, _, _, _, _, _, _, _, _, _, _, _, _, rfl, _⟩ := h; rfl) | (obtain ⟨_, _, _, _, _, _, _, _, _, _, _, _, _, _, _, rfl, _⟩ := h; rfl)) (fun vs H Q E h => r_law_says h)
  have G_law_rank := ok_law_rank (P := P) (w := w) (base := base) T  (by intro vs H Q E h; first | (obtain ⟨_, rfl, _⟩ := h; rfl) | (obtain ⟨_, _, rfl, _⟩ := h; rfl) | (obtain ⟨_, _, _, rfl, _⟩ := h; rfl) | (obtain ⟨_, _, _, _, rfl, _⟩ := h; rfl) | (obtain ⟨_, _, _, _, _, rfl, _⟩ := h; rfl) | (obtain ⟨_, _, _, _, _, _, rfl, _⟩ := h; rfl) | (obtain ⟨_, _, _, _, _, _, _, rfl, _⟩ := h; rfl) | (obtain ⟨_, _, _, _, _, _, _, _, rfl, _⟩ := h; rfl) | (obtain ⟨_, _, _, _, _, _, _, _, _, rfl, _⟩ := h; rfl) | (obtain ⟨_, _, _, _, _, _, _, _, _, _, rfl, _⟩ := h; rfl) | (obtain ⟨_, _, _, _, _, _, _, _, _, _, _, rfl, _⟩ := h; rfl) | (obtain ⟨_, _, _, _, _, _, _, _, _, _, _, _, rfl, _⟩ := h; rfl) | (obtain ⟨_, _, _, _, _, _, _, _, _, _, _, _, _, rfl, _⟩ := h; rfl) | (obtain ⟨_, _, _, _, _, _, _, _, _, _, _, _, _, _, rfl, _⟩ := h; rfl) | (obtain ⟨_, _, _, _, _, _, _, _, _, _, _, _, _, _, _, rfl, _⟩ := h; rfl)) (fun vs H Q E h => r_law_rank h)
  have G_law_ways := ok_law_ways (P := P) (w := w) (base := base) T  (by intro vs H Q E h; first | (obtain ⟨_, rfl, _⟩ := h; rfl) | (obtain ⟨_, _, rfl, _⟩ := h; rfl) | (obtain ⟨_, _, _, rfl, _⟩ := h; rfl) | (obtain ⟨_, _, _, _, rfl, _⟩ := h; rfl) | (obtain ⟨_, _, _, _, _, rfl, _⟩ := h; rfl) | (obtain ⟨_, _, _, _, _, _, rfl, _⟩ := h; rfl) | (obtain ⟨_, _, _, _, _, _, _, rfl, _⟩ := h; rfl) | (obtain ⟨_, _, _, _, _, _, _, _, rfl, _⟩ := h; rfl) | (obtain ⟨_, _, _, _, _, _, _, _, _, rfl, _⟩ := h; rfl) | (obtain ⟨_, _, _, _, _, _, _, _, _, _, rfl, _⟩ := h; rfl) | (obtain ⟨_, _, _, _, _, _, _, _, _, _, _, rfl, _⟩ := h; rfl) | (obtain ⟨_, _, _, _, _, _, _, _, _, _, _, _, rfl, _⟩ := h; rfl) | (obtain ⟨_, _, _, _, _, _, _, _, _, _, _, _, _, rfl, _⟩ := h; rfl) | (obtain ⟨_, _, _, _, _, _, _, _, _, _, _, _, _, _, rfl, _⟩ := h; rfl) | (obtain ⟨_, _, _, _, _, _, _, _, _, _, _, _, _, _, _, rfl, _⟩ := h; rfl)) (fun vs H Q E h => r_law_ways h)
  have G_law_told := ok_law_told (P := P) (w := w) (base := base) T G_range_of_rank G_range_of_mean G_range_of_greatest G_range_of_total G_law_word (by intro vs H Q E h; first | (obtain ⟨_, rfl, _⟩ := h; rfl) | (obtain ⟨_, _, rfl, _⟩ := h; rfl) | (obtain ⟨_, _, _, rfl, _⟩ := h; rfl) | (obtain ⟨_, _, _, _, rfl, _⟩ := h; rfl) | (obtain ⟨_, _, _, _, _, rfl, _⟩ := h; rfl) | (obtain ⟨_, _, _, _, _, _, rfl, _⟩ := h; rfl) | (obtain ⟨_, _, _, _, _, _, _, rfl, _⟩ := h; rfl) | (obtain ⟨_, _, _, _, _, _, _, _, rfl, _⟩ := h; rfl) | (obtain ⟨_, _, _, _, _, _, _, _, _, rfl, _⟩ := h; rfl) | (obtain ⟨_, _, _, _, _, _, _, _, _, _, rfl, _⟩ := h; rfl) | (obtain ⟨_, _, _, _, _, _, _, _, _, _, _, rfl, _⟩ := h; rfl) | (obtain ⟨_, _, _, _, _, _, _, _, _, _, _, _, rfl, _⟩ := h; rfl) | (obtain ⟨_, _, _, _, _, _, _, _, _, _, _, _, _, rfl, _⟩ := h; rfl) | (obtain ⟨_, _, _, _, _, _, _, _, _, _, _, _, _, _, rfl, _⟩ := h; rfl) | (obtain ⟨_, _, _, _, _, _, _, _, _, _, _, _, _, _, _, rfl, _⟩ := h; rfl)) (fun vs H Q E h => r_law_told (wordOk_OutOfRange T) (wordOk_NotThere T) h)
  have G_law_least := ok_law_least (P := P) (w := w) (base := base) T  (by intro vs H Q E h; first | (obtain ⟨_, rfl, _⟩ := h; rfl) | (obtain ⟨_, _, rfl, _⟩ := h; rfl) | (obtain ⟨_, _, _, rfl, _⟩ := h; rfl) | (obtain ⟨_, _, _, _, rfl, _⟩ := h; rfl) | (obtain ⟨_, _, _, _, _, rfl, _⟩ := h; rfl) | (obtain ⟨_, _, _, _, _, _, rfl, _⟩ := h; rfl) | (obtain ⟨_, _, _, _, _, _, _, rfl, _⟩ := h; rfl) | (obtain ⟨_, _, _, _, _, _, _, _, rfl, _⟩ := h; rfl) | (obtain ⟨_, _, _, _, _, _, _, _, _, rfl, _⟩ := h; rfl) | (obtain ⟨_, _, _, _, _, _, _, _, _, _, rfl, _⟩ := h; rfl) | (obtain ⟨_, _, _, _, _, _, _, _, _, _, _, rfl, _⟩ := h; rfl) | (obtain ⟨_, _, _, _, _, _, _, _, _, _, _, _, rfl, _⟩ := h; rfl) | (obtain ⟨_, _, _, _, _, _, _, _, _, _, _, _, _, rfl, _⟩ := h; rfl) | (obtain ⟨_, _, _, _, _, _, _, _, _, _, _, _, _, _, rfl, _⟩ := h; rfl) | (obtain ⟨_, _, _, _, _, _, _, _, _, _, _, _, _, _, _, rfl, _⟩ := h; rfl)) (fun vs H Q E h => r_law_least h)
  have G_law_lowest := ok_law_lowest (P := P) (w := w) (base := base) T  (by intro vs H Q E h; first | (obtain ⟨_, rfl, _⟩ := h; rfl) | (obtain ⟨_, _, rfl, _⟩ := h; rfl) | (obtain ⟨_, _, _, rfl, _⟩ := h; rfl) | (obtain ⟨_, _, _, _, rfl, _⟩ := h; rfl) | (obtain ⟨_, _, _, _, _, rfl, _⟩ := h; rfl) | (obtain ⟨_, _, _, _, _, _, rfl, _⟩ := h; rfl) | (obtain ⟨_, _, _, _, _, _, _, rfl, _⟩ := h; rfl) | (obtain ⟨_, _, _, _, _, _, _, _, rfl, _⟩ := h; rfl) | (obtain ⟨_, _, _, _, _, _, _, _, _, rfl, _⟩ := h; rfl) | (obtain ⟨_, _, _, _, _, _, _, _, _, _, rfl, _⟩ := h; rfl) | (obtain ⟨_, _, _, _, _, _, _, _, _, _, _, rfl, _⟩ := h; rfl) | (obtain ⟨_, _, _, _, _, _, _, _, _, _, _, _, rfl, _⟩ := h; rfl) | (obtain ⟨_, _, _, _, _, _, _, _, _, _, _, _, _, rfl, _⟩ := h; rfl) | (obtain ⟨_, _, _, _, _, _, _, _, _, _, _, _, _, _, rfl, _⟩ := h; rfl) | (obtain ⟨_, _, _, _, _, _, _, _, _, _, _, _, _, _, _, rfl, _⟩ := h; rfl)) (fun vs H Q E h => r_law_lowest h)
  have G_law_due := ok_law_due (P := P) (w := w) (base := base) T G_law_rank G_law_least G_law_lowest (by intro vs H Q E h; first | (obtain ⟨_, rfl, _⟩ := h; rfl) | (obtain ⟨_, _, rfl, _⟩ := h; rfl) | (obtain ⟨_, _, _, rfl, _⟩ := h; rfl) | (obtain ⟨_, _, _, _, rfl, _⟩ := h; rfl) | (obtain ⟨_, _, _, _, _, rfl, _⟩ := h; rfl) | (obtain ⟨_, _, _, _, _, _, rfl, _⟩ := h; rfl) | (obtain ⟨_, _, _, _, _, _, _, rfl, _⟩ := h; rfl) | (obtain ⟨_, _, _, _, _, _, _, _, rfl, _⟩ := h; rfl) | (obtain ⟨_, _, _, _, _, _, _, _, _, rfl, _⟩ := h; rfl) | (obtain ⟨_, _, _, _, _, _, _, _, _, _, rfl, _⟩ := h; rfl) | (obtain ⟨_, _, _, _, _, _, _, _, _, _, _, rfl, _⟩ := h; rfl) | (obtain ⟨_, _, _, _, _, _, _, _, _, _, _, _, rfl, _⟩ := h; rfl) | (obtain ⟨_, _, _, _, _, _, _, _, _, _, _, _, _, rfl, _⟩ := h; rfl) | (obtain ⟨_, _, _, _, _, _, _, _, _, _, _, _, _, _, rfl, _⟩ := h; rfl) | (obtain ⟨_, _, _, _, _, _, _, _, _, _, _, _, _, _, _, rfl, _⟩ := h; rfl)) (fun vs H Q E h => r_law_due h)
  have G_law_within := ok_law_within (P := P) (w := w) (base := base) T  (by intro vs H Q E h; first | (obtain ⟨_, rfl, _⟩ := h; rfl) | (obtain ⟨_, _, rfl, _⟩ := h; rfl) | (obtain ⟨_, _, _, rfl, _⟩ := h; rfl) | (obtain ⟨_, _, _, _, rfl, _⟩ := h; rfl) | (obtain ⟨_, _, _, _, _, rfl, _⟩ := h; rfl) | (obtain ⟨_, _, _, _, _, _, rfl, _⟩ := h; rfl) | (obtain ⟨_, _, _, _, _, _, _, rfl, _⟩ := h; rfl) | (obtain ⟨_, _, _, _, _, _, _, _, rfl, _⟩ := h; rfl) | (obtain ⟨_, _, _, _, _, _, _, _, _, rfl, _⟩ := h; rfl) | (obtain ⟨_, _, _, _, _, _, _, _, _, _, rfl, _⟩ := h; rfl) | (obtain ⟨_, _, _, _, _, _, _, _, _, _, _, rfl, _⟩ := h; rfl) | (obtain ⟨_, _, _, _, _, _, _, _, _, _, _, _, rfl, _⟩ := h; rfl) | (obtain ⟨_, _, _, _, _, _, _, _, _, _, _, _, _, rfl, _⟩ := h; rfl) | (obtain ⟨_, _, _, _, _, _, _, _, _, _, _, _, _, _, rfl, _⟩ := h; rfl) | (obtain ⟨_, _, _, _, _, _, _, _, _, _, _, _, _, _, _, rfl, _⟩ := h; rfl)) (fun vs H Q E h => r_law_within h)
  have G_law_narrower := ok_law_narrower (P := P) (w := w) (base := base) T G_is_settled G_law_told G_law_take G_law_within (by intro vs H Q E h; first | (obtain ⟨_, rfl, _⟩ := h; rfl) | (obtain ⟨_, _, rfl, _⟩ := h; rfl) | (obtain ⟨_, _, _, rfl, _⟩ := h; rfl) | (obtain ⟨_, _, _, _, rfl, _⟩ := h; rfl) | (obtain ⟨_, _, _, _, _, rfl, _⟩ := h; rfl) | (obtain ⟨_, _, _, _, _, _, rfl, _⟩ := h; rfl) | (obtain ⟨_, _, _, _, _, _, _, rfl, _⟩ := h; rfl) | (obtain ⟨_, _, _, _, _, _, _, _, rfl, _⟩ := h; rfl) | (obtain ⟨_, _, _, _, _, _, _, _, _, rfl, _⟩ := h; rfl) | (obtain ⟨_, _, _, _, _, _, _, _, _, _, rfl, _⟩ := h; rfl) | (obtain ⟨_, _, _, _, _, _, _, _, _, _, _, rfl, _⟩ := h; rfl) | (obtain ⟨_, _, _, _, _, _, _, _, _, _, _, _, rfl, _⟩ := h; rfl) | (obtain ⟨_, _, _, _, _, _, _, _, _, _, _, _, _, rfl, _⟩ := h; rfl) | (obtain ⟨_, _, _, _, _, _, _, _, _, _, _, _, _, _, rfl, _⟩ := h; rfl) | (obtain ⟨_, _, _, _, _, _, _, _, _, _, _, _, _, _, _, rfl, _⟩ := h; rfl)) (fun vs H Q E h => r_law_narrower h)
  have G_law_areas := ok_law_areas (P := P) (w := w) (base := base) T G_range_of_area G_law_word G_law_take (by intro vs H Q E h; first | (obtain ⟨_, rfl, _⟩ := h; rfl) | (obtain ⟨_, _, rfl, _⟩ := h; rfl) | (obtain ⟨_, _, _, rfl, _⟩ := h; rfl) | (obtain ⟨_, _, _, _, rfl, _⟩ := h; rfl) | (obtain ⟨_, _, _, _, _, rfl, _⟩ := h; rfl) | (obtain ⟨_, _, _, _, _, _, rfl, _⟩ := h; rfl) | (obtain ⟨_, _, _, _, _, _, _, rfl, _⟩ := h; rfl) | (obtain ⟨_, _, _, _, _, _, _, _, rfl, _⟩ := h; rfl) | (obtain ⟨_, _, _, _, _, _, _, _, _, rfl, _⟩ := h; rfl) | (obtain ⟨_, _, _, _, _, _, _, _, _, _, rfl, _⟩ := h; rfl) | (obtain ⟨_, _, _, _, _, _, _, _, _, _, _, rfl, _⟩ := h; rfl) | (obtain ⟨_, _, _, _, _, _, _, _, _, _, _, _, rfl, _⟩ := h; rfl) | (obtain ⟨_, _, _, _, _, _, _, _, _, _, _, _, _, rfl, _⟩ := h; rfl) | (obtain ⟨_, _, _, _, _, _, _, _, _, _, _, _, _, _, rfl, _⟩ := h; rfl) | (obtain ⟨_, _, _, _, _, _, _, _, _, _, _, _, _, _, _, rfl, _⟩ := h; rfl)) (fun vs H Q E h => r_law_areas (wordOk_OutOfRange T) h)
  have G_law := ok_law (P := P) (w := w) (base := base) T G_law_told G_law_narrower G_law_areas G_law_take G_law_due G_law_alike G_is_settled G_law_says G_law_ways G_law_draws (by intro vs H Q E h; first | (obtain ⟨_, rfl, _⟩ := h; rfl) | (obtain ⟨_, _, rfl, _⟩ := h; rfl) | (obtain ⟨_, _, _, rfl, _⟩ := h; rfl) | (obtain ⟨_, _, _, _, rfl, _⟩ := h; rfl) | (obtain ⟨_, _, _, _, _, rfl, _⟩ := h; rfl) | (obtain ⟨_, _, _, _, _, _, rfl, _⟩ := h; rfl) | (obtain ⟨_, _, _, _, _, _, _, rfl, _⟩ := h; rfl) | (obtain ⟨_, _, _, _, _, _, _, _, rfl, _⟩ := h; rfl) | (obtain ⟨_, _, _, _, _, _, _, _, _, rfl, _⟩ := h; rfl) | (obtain ⟨_, _, _, _, _, _, _, _, _, _, rfl, _⟩ := h; rfl) | (obtain ⟨_, _, _, _, _, _, _, _, _, _, _, rfl, _⟩ := h; rfl) | (obtain ⟨_, _, _, _, _, _, _, _, _, _, _, _, rfl, _⟩ := h; rfl) | (obtain ⟨_, _, _, _, _, _, _, _, _, _, _, _, _, rfl, _⟩ := h; rfl) | (obtain ⟨_, _, _, _, _, _, _, _, _, _, _, _, _, _, rfl, _⟩ := h; rfl) | (obtain ⟨_, _, _, _, _, _, _, _, _, _, _, _, _, _, _, rfl, _⟩ := h; rfl)) (fun vs H Q E h => r_law h)
  exact G_law
end
theorem all_mk {P : Program} {w : World} {K : PySem.W.Frag} {h : Heap} {mg : Str → Option Value} {fa : Addr} (X : K.In h) (G : h.Ns mainGlobals mg) (hfa : mg "law" = some (.ref fa))
    {C_TraceError C_OutOfRange C_Malformed C_NotThere C_Refused C_TooMuch f_is_number f_lowest f_made f_less f_rank_place f_rank_of_all f_check_more f_ends_of f_range_of_total f_range_of_greatest f_range_of_mean f_range_of_rank f_range_of_area f_is_settled f_law_draws f_law_take f_law_alike f_law_word f_law_says f_law_rank f_law_ways f_law_told f_law_least f_law_lowest f_law_due f_law_within f_law_narrower f_law_areas f_law : Addr}
    {od_is_number an_is_number od_lowest an_lowest od_made an_made od_less an_less od_rank_place an_rank_place od_rank_of_all an_rank_of_all od_check_more an_check_more od_ends_of an_ends_of od_range_of_total an_range_of_total od_range_of_greatest an_range_of_greatest od_range_of_mean an_range_of_mean od_range_of_rank an_range_of_rank od_range_of_area an_range_of_area od_is_settled an_is_settled od_law_draws an_law_draws od_law_take an_law_take od_law_alike an_law_alike od_law_word an_law_word od_law_says an_law_says od_law_rank an_law_rank od_law_ways an_law_ways od_law_told an_law_told od_law_least an_law_least od_law_lowest an_law_lowest od_law_due an_law_due od_law_within an_law_within od_law_narrower an_law_narrower od_law_areas an_law_areas od_law an_law : Option Addr} {sl_is_number sl_lowest sl_made sl_less sl_rank_place sl_rank_of_all sl_check_more sl_ends_of sl_range_of_total sl_range_of_greatest sl_range_of_mean sl_range_of_rank sl_range_of_area sl_is_settled sl_law_draws sl_law_take sl_law_alike sl_law_word sl_law_says sl_law_rank sl_law_ways sl_law_told sl_law_least sl_law_lowest sl_law_due sl_law_within sl_law_narrower sl_law_areas sl_law : Array (Option Value)} {oc_is_number kV_is_number dc_is_number pm_is_number cd_is_number ct_is_number oc_lowest kV_lowest dc_lowest pm_lowest cd_lowest ct_lowest oc_made kV_made dc_made pm_made cd_made ct_made oc_less kV_less dc_less pm_less cd_less ct_less oc_rank_place kV_rank_place dc_rank_place pm_rank_place cd_rank_place ct_rank_place oc_rank_of_all kV_rank_of_all dc_rank_of_all pm_rank_of_all cd_rank_of_all ct_rank_of_all oc_check_more kV_check_more dc_check_more pm_check_more cd_check_more ct_check_more oc_ends_of kV_ends_of dc_ends_of pm_ends_of cd_ends_of ct_ends_of oc_range_of_total kV_range_of_total dc_range_of_total pm_range_of_total cd_range_of_total ct_range_of_total oc_range_of_greatest kV_range_of_greatest dc_range_of_greatest pm_range_of_greatest cd_range_of_greatest ct_range_of_greatest oc_range_of_mean kV_range_of_mean dc_range_of_mean pm_range_of_mean cd_range_of_mean ct_range_of_mean oc_range_of_rank kV_range_of_rank dc_range_of_rank pm_range_of_rank cd_range_of_rank ct_range_of_rank oc_range_of_area kV_range_of_area dc_range_of_area pm_range_of_area cd_range_of_area ct_range_of_area oc_is_settled kV_is_settled dc_is_settled pm_is_settled cd_is_settled ct_is_settled oc_law_draws kV_law_draws dc_law_draws pm_law_draws cd_law_draws ct_law_draws oc_law_take kV_law_take dc_law_take pm_law_take cd_law_take ct_law_take oc_law_alike kV_law_alike dc_law_alike pm_law_alike cd_law_alike ct_law_alike oc_law_word kV_law_word dc_law_word pm_law_word cd_law_word ct_law_word oc_law_says kV_law_says dc_law_says pm_law_says cd_law_says ct_law_says oc_law_rank kV_law_rank dc_law_rank pm_law_rank cd_law_rank ct_law_rank oc_law_ways kV_law_ways dc_law_ways pm_law_ways cd_law_ways ct_law_ways oc_law_told kV_law_told dc_law_told pm_law_told cd_law_told ct_law_told oc_law_least kV_law_least dc_law_least pm_law_least cd_law_least ct_law_least oc_law_lowest kV_law_lowest dc_law_lowest pm_law_lowest cd_law_lowest ct_law_lowest oc_law_due kV_law_due dc_law_due pm_law_due cd_law_due ct_law_due oc_law_within kV_law_within dc_law_within pm_law_within cd_law_within ct_law_within oc_law_narrower kV_law_narrower dc_law_narrower pm_law_narrower cd_law_narrower ct_law_narrower oc_law_areas kV_law_areas dc_law_areas pm_law_areas cd_law_areas ct_law_areas oc_law kV_law dc_law pm_law cd_law ct_law : Value}
    {tk_MOST_MORE : Tok}
    {tk_MOST_WORTH : Tok}
    (a_TraceError : PySem.W.nsIn K mainGlobals "TraceError" = some (some (.ref C_TraceError)))
    (a_OutOfRange : PySem.W.nsIn K mainGlobals "OutOfRange" = some (some (.ref C_OutOfRange)))
    (a_Malformed : PySem.W.nsIn K mainGlobals "Malformed" = some (some (.ref C_Malformed)))
    (a_NotThere : PySem.W.nsIn K mainGlobals "NotThere" = some (some (.ref C_NotThere)))
    (a_Refused : PySem.W.nsIn K mainGlobals "Refused" = some (some (.ref C_Refused)))
    (a_TooMuch : PySem.W.nsIn K mainGlobals "TooMuch" = some (some (.ref C_TooMuch)))
    (a_is_number : PySem.W.nsIn K mainGlobals "is_number" = some (some (.ref f_is_number)))
    (l_is_number : K.lookup f_is_number = some ⟨oc_is_number, od_is_number, .func (PySem.W.fnOf "is_number" "is_number" (defArgs s_is_number) (defBody s_is_number) (defScope s_is_number) .none kV_is_number dc_is_number pm_is_number an_is_number cd_is_number ct_is_number), sl_is_number⟩)
    (c_is_number : PySem.W.codeIn K cd_is_number "is_number" = true)
    (k_is_number : PySem.W.keepIn K (.ref f_is_number) = true)
    (a_lowest : PySem.W.nsIn K mainGlobals "lowest" = some (some (.ref f_lowest)))
    (l_lowest : K.lookup f_lowest = some ⟨oc_lowest, od_lowest, .func (PySem.W.fnOf "lowest" "lowest" (defArgs s_lowest) (defBody s_lowest) (defScope s_lowest) .none kV_lowest dc_lowest pm_lowest an_lowest cd_lowest ct_lowest), sl_lowest⟩)
    (c_lowest : PySem.W.codeIn K cd_lowest "lowest" = true)
    (k_lowest : PySem.W.keepIn K (.ref f_lowest) = true)
    (a_made : PySem.W.nsIn K mainGlobals "made" = some (some (.ref f_made)))
    (l_made : K.lookup f_made = some ⟨oc_made, od_made, .func (PySem.W.fnOf "made" "made" (defArgs s_made) (defBody s_made) (defScope s_made) .none kV_made dc_made pm_made an_made cd_made ct_made), sl_made⟩)
    (c_made : PySem.W.codeIn K cd_made "made" = true)
    (k_made : PySem.W.keepIn K (.ref f_made) = true)
    (a_less : PySem.W.nsIn K mainGlobals "less" = some (some (.ref f_less)))
    (l_less : K.lookup f_less = some ⟨oc_less, od_less, .func (PySem.W.fnOf "less" "less" (defArgs s_less) (defBody s_less) (defScope s_less) .none kV_less dc_less pm_less an_less cd_less ct_less), sl_less⟩)
    (c_less : PySem.W.codeIn K cd_less "less" = true)
    (k_less : PySem.W.keepIn K (.ref f_less) = true)
    (a_rank_place : PySem.W.nsIn K mainGlobals "rank_place" = some (some (.ref f_rank_place)))
    (l_rank_place : K.lookup f_rank_place = some ⟨oc_rank_place, od_rank_place, .func (PySem.W.fnOf "rank_place" "rank_place" (defArgs s_rank_place) (defBody s_rank_place) (defScope s_rank_place) .none kV_rank_place dc_rank_place pm_rank_place an_rank_place cd_rank_place ct_rank_place), sl_rank_place⟩)
    (c_rank_place : PySem.W.codeIn K cd_rank_place "rank_place" = true)
    (k_rank_place : PySem.W.keepIn K (.ref f_rank_place) = true)
    (a_rank_of_all : PySem.W.nsIn K mainGlobals "rank_of_all" = some (some (.ref f_rank_of_all)))
    (l_rank_of_all : K.lookup f_rank_of_all = some ⟨oc_rank_of_all, od_rank_of_all, .func (PySem.W.fnOf "rank_of_all" "rank_of_all" (defArgs s_rank_of_all) (defBody s_rank_of_all) (defScope s_rank_of_all) .none kV_rank_of_all dc_rank_of_all pm_rank_of_all an_rank_of_all cd_rank_of_all ct_rank_of_all), sl_rank_of_all⟩)
    (c_rank_of_all : PySem.W.codeIn K cd_rank_of_all "rank_of_all" = true)
    (k_rank_of_all : PySem.W.keepIn K (.ref f_rank_of_all) = true)
    (a_check_more : PySem.W.nsIn K mainGlobals "check_more" = some (some (.ref f_check_more)))
    (l_check_more : K.lookup f_check_more = some ⟨oc_check_more, od_check_more, .func (PySem.W.fnOf "check_more" "check_more" (defArgs s_check_more) (defBody s_check_more) (defScope s_check_more) .none kV_check_more dc_check_more pm_check_more an_check_more cd_check_more ct_check_more), sl_check_more⟩)
    (c_check_more : PySem.W.codeIn K cd_check_more "check_more" = true)
    (k_check_more : PySem.W.keepIn K (.ref f_check_more) = true)
    (a_ends_of : PySem.W.nsIn K mainGlobals "ends_of" = some (some (.ref f_ends_of)))
    (l_ends_of : K.lookup f_ends_of = some ⟨oc_ends_of, od_ends_of, .func (PySem.W.fnOf "ends_of" "ends_of" (defArgs s_ends_of) (defBody s_ends_of) (defScope s_ends_of) .none kV_ends_of dc_ends_of pm_ends_of an_ends_of cd_ends_of ct_ends_of), sl_ends_of⟩)
    (c_ends_of : PySem.W.codeIn K cd_ends_of "ends_of" = true)
    (k_ends_of : PySem.W.keepIn K (.ref f_ends_of) = true)
    (a_range_of_total : PySem.W.nsIn K mainGlobals "range_of_total" = some (some (.ref f_range_of_total)))
    (l_range_of_total : K.lookup f_range_of_total = some ⟨oc_range_of_total, od_range_of_total, .func (PySem.W.fnOf "range_of_total" "range_of_total" (defArgs s_range_of_total) (defBody s_range_of_total) (defScope s_range_of_total) .none kV_range_of_total dc_range_of_total pm_range_of_total an_range_of_total cd_range_of_total ct_range_of_total), sl_range_of_total⟩)
    (c_range_of_total : PySem.W.codeIn K cd_range_of_total "range_of_total" = true)
    (k_range_of_total : PySem.W.keepIn K (.ref f_range_of_total) = true)
    (a_range_of_greatest : PySem.W.nsIn K mainGlobals "range_of_greatest" = some (some (.ref f_range_of_greatest)))
    (l_range_of_greatest : K.lookup f_range_of_greatest = some ⟨oc_range_of_greatest, od_range_of_greatest, .func (PySem.W.fnOf "range_of_greatest" "range_of_greatest" (defArgs s_range_of_greatest) (defBody s_range_of_greatest) (defScope s_range_of_greatest) .none kV_range_of_greatest dc_range_of_greatest pm_range_of_greatest an_range_of_greatest cd_range_of_greatest ct_range_of_greatest), sl_range_of_greatest⟩)
    (c_range_of_greatest : PySem.W.codeIn K cd_range_of_greatest "range_of_greatest" = true)
    (k_range_of_greatest : PySem.W.keepIn K (.ref f_range_of_greatest) = true)
    (a_range_of_mean : PySem.W.nsIn K mainGlobals "range_of_mean" = some (some (.ref f_range_of_mean)))
    (l_range_of_mean : K.lookup f_range_of_mean = some ⟨oc_range_of_mean, od_range_of_mean, .func (PySem.W.fnOf "range_of_mean" "range_of_mean" (defArgs s_range_of_mean) (defBody s_range_of_mean) (defScope s_range_of_mean) .none kV_range_of_mean dc_range_of_mean pm_range_of_mean an_range_of_mean cd_range_of_mean ct_range_of_mean), sl_range_of_mean⟩)
    (c_range_of_mean : PySem.W.codeIn K cd_range_of_mean "range_of_mean" = true)
    (k_range_of_mean : PySem.W.keepIn K (.ref f_range_of_mean) = true)
    (a_range_of_rank : PySem.W.nsIn K mainGlobals "range_of_rank" = some (some (.ref f_range_of_rank)))
    (l_range_of_rank : K.lookup f_range_of_rank = some ⟨oc_range_of_rank, od_range_of_rank, .func (PySem.W.fnOf "range_of_rank" "range_of_rank" (defArgs s_range_of_rank) (defBody s_range_of_rank) (defScope s_range_of_rank) .none kV_range_of_rank dc_range_of_rank pm_range_of_rank an_range_of_rank cd_range_of_rank ct_range_of_rank), sl_range_of_rank⟩)
    (c_range_of_rank : PySem.W.codeIn K cd_range_of_rank "range_of_rank" = true)
    (k_range_of_rank : PySem.W.keepIn K (.ref f_range_of_rank) = true)
    (a_range_of_area : PySem.W.nsIn K mainGlobals "range_of_area" = some (some (.ref f_range_of_area)))
    (l_range_of_area : K.lookup f_range_of_area = some ⟨oc_range_of_area, od_range_of_area, .func (PySem.W.fnOf "range_of_area" "range_of_area" (defArgs s_range_of_area) (defBody s_range_of_area) (defScope s_range_of_area) .none kV_range_of_area dc_range_of_area pm_range_of_area an_range_of_area cd_range_of_area ct_range_of_area), sl_range_of_area⟩)
    (c_range_of_area : PySem.W.codeIn K cd_range_of_area "range_of_area" = true)
    (k_range_of_area : PySem.W.keepIn K (.ref f_range_of_area) = true)
    (a_is_settled : PySem.W.nsIn K mainGlobals "is_settled" = some (some (.ref f_is_settled)))
    (l_is_settled : K.lookup f_is_settled = some ⟨oc_is_settled, od_is_settled, .func (PySem.W.fnOf "is_settled" "is_settled" (defArgs s_is_settled) (defBody s_is_settled) (defScope s_is_settled) .none kV_is_settled dc_is_settled pm_is_settled an_is_settled cd_is_settled ct_is_settled), sl_is_settled⟩)
    (c_is_settled : PySem.W.codeIn K cd_is_settled "is_settled" = true)
    (k_is_settled : PySem.W.keepIn K (.ref f_is_settled) = true)
    (a_law_draws : PySem.W.nsIn K mainGlobals "_law_draws" = some (some (.ref f_law_draws)))
    (l_law_draws : K.lookup f_law_draws = some ⟨oc_law_draws, od_law_draws, .func (PySem.W.fnOf "_law_draws" "_law_draws" (defArgs s_law_draws) (defBody s_law_draws) (defScope s_law_draws) .none kV_law_draws dc_law_draws pm_law_draws an_law_draws cd_law_draws ct_law_draws), sl_law_draws⟩)
    (c_law_draws : PySem.W.codeIn K cd_law_draws "_law_draws" = true)
    (k_law_draws : PySem.W.keepIn K (.ref f_law_draws) = true)
    (a_law_take : PySem.W.nsIn K mainGlobals "_law_take" = some (some (.ref f_law_take)))
    (l_law_take : K.lookup f_law_take = some ⟨oc_law_take, od_law_take, .func (PySem.W.fnOf "_law_take" "_law_take" (defArgs s_law_take) (defBody s_law_take) (defScope s_law_take) .none kV_law_take dc_law_take pm_law_take an_law_take cd_law_take ct_law_take), sl_law_take⟩)
    (c_law_take : PySem.W.codeIn K cd_law_take "_law_take" = true)
    (k_law_take : PySem.W.keepIn K (.ref f_law_take) = true)
    (a_law_alike : PySem.W.nsIn K mainGlobals "_law_alike" = some (some (.ref f_law_alike)))
    (l_law_alike : K.lookup f_law_alike = some ⟨oc_law_alike, od_law_alike, .func (PySem.W.fnOf "_law_alike" "_law_alike" (defArgs s_law_alike) (defBody s_law_alike) (defScope s_law_alike) .none kV_law_alike dc_law_alike pm_law_alike an_law_alike cd_law_alike ct_law_alike), sl_law_alike⟩)
    (c_law_alike : PySem.W.codeIn K cd_law_alike "_law_alike" = true)
    (k_law_alike : PySem.W.keepIn K (.ref f_law_alike) = true)
    (a_law_word : PySem.W.nsIn K mainGlobals "_law_word" = some (some (.ref f_law_word)))
    (l_law_word : K.lookup f_law_word = some ⟨oc_law_word, od_law_word, .func (PySem.W.fnOf "_law_word" "_law_word" (defArgs s_law_word) (defBody s_law_word) (defScope s_law_word) .none kV_law_word dc_law_word pm_law_word an_law_word cd_law_word ct_law_word), sl_law_word⟩)
    (c_law_word : PySem.W.codeIn K cd_law_word "_law_word" = true)
    (k_law_word : PySem.W.keepIn K (.ref f_law_word) = true)
    (a_law_says : PySem.W.nsIn K mainGlobals "_law_says" = some (some (.ref f_law_says)))
    (l_law_says : K.lookup f_law_says = some ⟨oc_law_says, od_law_says, .func (PySem.W.fnOf "_law_says" "_law_says" (defArgs s_law_says) (defBody s_law_says) (defScope s_law_says) .none kV_law_says dc_law_says pm_law_says an_law_says cd_law_says ct_law_says), sl_law_says⟩)
    (c_law_says : PySem.W.codeIn K cd_law_says "_law_says" = true)
    (k_law_says : PySem.W.keepIn K (.ref f_law_says) = true)
    (a_law_rank : PySem.W.nsIn K mainGlobals "_law_rank" = some (some (.ref f_law_rank)))
    (l_law_rank : K.lookup f_law_rank = some ⟨oc_law_rank, od_law_rank, .func (PySem.W.fnOf "_law_rank" "_law_rank" (defArgs s_law_rank) (defBody s_law_rank) (defScope s_law_rank) .none kV_law_rank dc_law_rank pm_law_rank an_law_rank cd_law_rank ct_law_rank), sl_law_rank⟩)
    (c_law_rank : PySem.W.codeIn K cd_law_rank "_law_rank" = true)
    (k_law_rank : PySem.W.keepIn K (.ref f_law_rank) = true)
    (a_law_ways : PySem.W.nsIn K mainGlobals "_law_ways" = some (some (.ref f_law_ways)))
    (l_law_ways : K.lookup f_law_ways = some ⟨oc_law_ways, od_law_ways, .func (PySem.W.fnOf "_law_ways" "_law_ways" (defArgs s_law_ways) (defBody s_law_ways) (defScope s_law_ways) .none kV_law_ways dc_law_ways pm_law_ways an_law_ways cd_law_ways ct_law_ways), sl_law_ways⟩)
    (c_law_ways : PySem.W.codeIn K cd_law_ways "_law_ways" = true)
    (k_law_ways : PySem.W.keepIn K (.ref f_law_ways) = true)
    (a_law_told : PySem.W.nsIn K mainGlobals "_law_told" = some (some (.ref f_law_told)))
    (l_law_told : K.lookup f_law_told = some ⟨oc_law_told, od_law_told, .func (PySem.W.fnOf "_law_told" "_law_told" (defArgs s_law_told) (defBody s_law_told) (defScope s_law_told) .none kV_law_told dc_law_told pm_law_told an_law_told cd_law_told ct_law_told), sl_law_told⟩)
    (c_law_told : PySem.W.codeIn K cd_law_told "_law_told" = true)
    (k_law_told : PySem.W.keepIn K (.ref f_law_told) = true)
    (a_law_least : PySem.W.nsIn K mainGlobals "_law_least" = some (some (.ref f_law_least)))
    (l_law_least : K.lookup f_law_least = some ⟨oc_law_least, od_law_least, .func (PySem.W.fnOf "_law_least" "_law_least" (defArgs s_law_least) (defBody s_law_least) (defScope s_law_least) .none kV_law_least dc_law_least pm_law_least an_law_least cd_law_least ct_law_least), sl_law_least⟩)
    (c_law_least : PySem.W.codeIn K cd_law_least "_law_least" = true)
    (k_law_least : PySem.W.keepIn K (.ref f_law_least) = true)
    (a_law_lowest : PySem.W.nsIn K mainGlobals "_law_lowest" = some (some (.ref f_law_lowest)))
    (l_law_lowest : K.lookup f_law_lowest = some ⟨oc_law_lowest, od_law_lowest, .func (PySem.W.fnOf "_law_lowest" "_law_lowest" (defArgs s_law_lowest) (defBody s_law_lowest) (defScope s_law_lowest) .none kV_law_lowest dc_law_lowest pm_law_lowest an_law_lowest cd_law_lowest ct_law_lowest), sl_law_lowest⟩)
    (c_law_lowest : PySem.W.codeIn K cd_law_lowest "_law_lowest" = true)
    (k_law_lowest : PySem.W.keepIn K (.ref f_law_lowest) = true)
    (a_law_due : PySem.W.nsIn K mainGlobals "_law_due" = some (some (.ref f_law_due)))
    (l_law_due : K.lookup f_law_due = some ⟨oc_law_due, od_law_due, .func (PySem.W.fnOf "_law_due" "_law_due" (defArgs s_law_due) (defBody s_law_due) (defScope s_law_due) .none kV_law_due dc_law_due pm_law_due an_law_due cd_law_due ct_law_due), sl_law_due⟩)
    (c_law_due : PySem.W.codeIn K cd_law_due "_law_due" = true)
    (k_law_due : PySem.W.keepIn K (.ref f_law_due) = true)
    (a_law_within : PySem.W.nsIn K mainGlobals "_law_within" = some (some (.ref f_law_within)))
    (l_law_within : K.lookup f_law_within = some ⟨oc_law_within, od_law_within, .func (PySem.W.fnOf "_law_within" "_law_within" (defArgs s_law_within) (defBody s_law_within) (defScope s_law_within) .none kV_law_within dc_law_within pm_law_within an_law_within cd_law_within ct_law_within), sl_law_within⟩)
    (c_law_within : PySem.W.codeIn K cd_law_within "_law_within" = true)
    (k_law_within : PySem.W.keepIn K (.ref f_law_within) = true)
    (a_law_narrower : PySem.W.nsIn K mainGlobals "_law_narrower" = some (some (.ref f_law_narrower)))
    (l_law_narrower : K.lookup f_law_narrower = some ⟨oc_law_narrower, od_law_narrower, .func (PySem.W.fnOf "_law_narrower" "_law_narrower" (defArgs s_law_narrower) (defBody s_law_narrower) (defScope s_law_narrower) .none kV_law_narrower dc_law_narrower pm_law_narrower an_law_narrower cd_law_narrower ct_law_narrower), sl_law_narrower⟩)
    (c_law_narrower : PySem.W.codeIn K cd_law_narrower "_law_narrower" = true)
    (k_law_narrower : PySem.W.keepIn K (.ref f_law_narrower) = true)
    (a_law_areas : PySem.W.nsIn K mainGlobals "_law_areas" = some (some (.ref f_law_areas)))
    (l_law_areas : K.lookup f_law_areas = some ⟨oc_law_areas, od_law_areas, .func (PySem.W.fnOf "_law_areas" "_law_areas" (defArgs s_law_areas) (defBody s_law_areas) (defScope s_law_areas) .none kV_law_areas dc_law_areas pm_law_areas an_law_areas cd_law_areas ct_law_areas), sl_law_areas⟩)
    (c_law_areas : PySem.W.codeIn K cd_law_areas "_law_areas" = true)
    (k_law_areas : PySem.W.keepIn K (.ref f_law_areas) = true)
    (a_law : PySem.W.nsIn K mainGlobals "law" = some (some (.ref f_law)))
    (l_law : K.lookup f_law = some ⟨oc_law, od_law, .func (PySem.W.fnOf "law" "law" (defArgs s_law) (defBody s_law) (defScope s_law) .none kV_law dc_law pm_law an_law cd_law ct_law), sl_law⟩)
    (c_law : PySem.W.codeIn K cd_law "law" = true)
    (k_law : PySem.W.keepIn K (.ref f_law) = true)
    (y_n : PySem.W.specialIn K (.builtin "object.__class__") "__get__" = some (some (.builtin "getset_descriptor.__get__")))
    (y_t : PySem.W.takesIn K (.builtin "object.__class__") = some true)
    (ex_OutOfRange : PySem.W.excIn K C_OutOfRange [.type "ValueError", .type "Exception", .type "BaseException", .type "object"] "ValueError.__new__" = true)
    (kx_OutOfRange : PySem.W.keepIn K (.ref C_OutOfRange) = true)
    (yg_OutOfRange : PySem.W.findIn K (.ref C_OutOfRange) "__getattribute__" = some (some (.builtin "BaseException.__getattribute__")))
    (yk_OutOfRange : PySem.W.findIn K (.ref C_OutOfRange) "__getattr__" = some none)
    (yd_OutOfRange : PySem.W.hasDictIn K C_OutOfRange = true)
    (ya_OutOfRange : PySem.W.findIn K (.ref C_OutOfRange) "__class__" = some (some (.builtin "object.__class__")))
    (ym_OutOfRange : PySem.W.mroIn K C_OutOfRange (.type "object") = some true)
    (ex_NotThere : PySem.W.excIn K C_NotThere [.type "ValueError", .type "Exception", .type "BaseException", .type "object"] "ValueError.__new__" = true)
    (kx_NotThere : PySem.W.keepIn K (.ref C_NotThere) = true)
    (yg_NotThere : PySem.W.findIn K (.ref C_NotThere) "__getattribute__" = some (some (.builtin "BaseException.__getattribute__")))
    (yk_NotThere : PySem.W.findIn K (.ref C_NotThere) "__getattr__" = some none)
    (yd_NotThere : PySem.W.hasDictIn K C_NotThere = true)
    (ya_NotThere : PySem.W.findIn K (.ref C_NotThere) "__class__" = some (some (.builtin "object.__class__")))
    (ym_NotThere : PySem.W.mroIn K C_NotThere (.type "object") = some true)
    (bx_Malformed : PySem.W.subIn K (.ref C_Malformed) (.type "BaseException") = some true)
    (tx_Malformed : PySem.W.typeIn K (.ref C_Malformed) = some (.type "type"))
    (ix_Malformed : PySem.W.isClsIn K C_Malformed = true)
    (bx_NotThere : PySem.W.subIn K (.ref C_NotThere) (.type "BaseException") = some true)
    (tx_NotThere : PySem.W.typeIn K (.ref C_NotThere) = some (.type "type"))
    (ix_NotThere : PySem.W.isClsIn K C_NotThere = true)
    (bx_OutOfRange : PySem.W.subIn K (.ref C_OutOfRange) (.type "BaseException") = some true)
    (tx_OutOfRange : PySem.W.typeIn K (.ref C_OutOfRange) = some (.type "type"))
    (ix_OutOfRange : PySem.W.isClsIn K C_OutOfRange = true)
    (bx_Refused : PySem.W.subIn K (.ref C_Refused) (.type "BaseException") = some true)
    (tx_Refused : PySem.W.typeIn K (.ref C_Refused) = some (.type "type"))
    (ix_Refused : PySem.W.isClsIn K C_Refused = true)
    (bx_TooMuch : PySem.W.subIn K (.ref C_TooMuch) (.type "BaseException") = some true)
    (tx_TooMuch : PySem.W.typeIn K (.ref C_TooMuch) = some (.type "type"))
    (ix_TooMuch : PySem.W.isClsIn K C_TooMuch = true)
    (bx_TraceError : PySem.W.subIn K (.ref C_TraceError) (.type "BaseException") = some true)
    (tx_TraceError : PySem.W.typeIn K (.ref C_TraceError) = some (.type "type"))
    (ix_TraceError : PySem.W.isClsIn K C_TraceError = true)
    (s_OutOfRange_TraceError : PySem.W.subIn K (.ref C_OutOfRange) (.ref C_TraceError) = some true)
    (s_NotThere_TraceError : PySem.W.subIn K (.ref C_NotThere) (.ref C_TraceError) = some true)
    (s_OutOfRange_Malformed : PySem.W.subIn K (.ref C_OutOfRange) (.ref C_Malformed) = some false)
    (s_OutOfRange_NotThere : PySem.W.subIn K (.ref C_OutOfRange) (.ref C_NotThere) = some false)
    (s_OutOfRange_Refused : PySem.W.subIn K (.ref C_OutOfRange) (.ref C_Refused) = some false)
    (s_OutOfRange_TooMuch : PySem.W.subIn K (.ref C_OutOfRange) (.ref C_TooMuch) = some false)
    (s_NotThere_OutOfRange : PySem.W.subIn K (.ref C_NotThere) (.ref C_OutOfRange) = some false)
    (s_NotThere_Malformed : PySem.W.subIn K (.ref C_NotThere) (.ref C_Malformed) = some false)
    (s_NotThere_Refused : PySem.W.subIn K (.ref C_NotThere) (.ref C_Refused) = some false)
    (s_NotThere_TooMuch : PySem.W.subIn K (.ref C_NotThere) (.ref C_TooMuch) = some false)
    (ne_OutOfRange_Malformed : C_OutOfRange ≠ C_Malformed)
    (ne_OutOfRange_NotThere : C_OutOfRange ≠ C_NotThere)
    (ne_OutOfRange_Refused : C_OutOfRange ≠ C_Refused)
    (ne_OutOfRange_TooMuch : C_OutOfRange ≠ C_TooMuch)
    (ne_NotThere_OutOfRange : C_NotThere ≠ C_OutOfRange)
    (ne_NotThere_Malformed : C_NotThere ≠ C_Malformed)
    (ne_NotThere_Refused : C_NotThere ≠ C_Refused)
    (ne_NotThere_TooMuch : C_NotThere ≠ C_TooMuch)
    (b_len : PySem.W.nsIn K mainGlobals "len" = some none)
    (b_abs : PySem.W.nsIn K mainGlobals "abs" = some none)
    (b_int : PySem.W.nsIn K mainGlobals "int" = some none)
    (b_list : PySem.W.nsIn K mainGlobals "list" = some none)
    (b_reversed : PySem.W.nsIn K mainGlobals "reversed" = some none)
    (b_isinstance : PySem.W.nsIn K mainGlobals "isinstance" = some none)
    (b_range : PySem.W.nsIn K mainGlobals "range" = some none)
    (b_bool : PySem.W.nsIn K mainGlobals "bool" = some none)
    (b_str : PySem.W.nsIn K mainGlobals "str" = some none)
    (b_tuple : PySem.W.nsIn K mainGlobals "tuple" = some none)
    (b_min : PySem.W.nsIn K mainGlobals "min" = some none)
    (b_max : PySem.W.nsIn K mainGlobals "max" = some none)
    (b_sum : PySem.W.nsIn K mainGlobals "sum" = some none)
    (b_sorted : PySem.W.nsIn K mainGlobals "sorted" = some none)
    (g_gcd : PySem.W.nsIn K mainGlobals "gcd" = some (some (.builtin "math.gcd")))
    (v_MOST_MORE : PySem.W.nsIn K mainGlobals "MOST_MORE" = some (some (.int 400 tk_MOST_MORE)))
    (v_MOST_WORTH : PySem.W.nsIn K mainGlobals "MOST_WORTH" = some (some (.int 1000000000000 tk_MOST_WORTH))) :
    ∃ fd : FuncData, (∀ (s : Shared) (v : Value), BindsTo s fd ⟨[v], []⟩ [("script", v)]) ∧ ∀ base : Heap, K.In base → base.Ns mainGlobals mg → FnOk P w K mg base CX0 6 fa fd ["script"] (sp_law K) := by
  have T : Txt K mg ⟨C_TraceError, C_OutOfRange, C_Malformed, C_NotThere, C_Refused, C_TooMuch⟩ := {
    is_number := ⟨_, _, fun_mk (st := s_is_number) l_is_number c_is_number k_is_number, (Fun.binds (ps := ["value", "least", "most"]) (fun_mk (st := s_is_number) l_is_number c_is_number k_is_number) fun _ _ _ _ _ _ us hl => match us, hl with | [_, _, _], _ => rfl), PySem.W.mg_of X G a_is_number⟩,
    lowest := ⟨_, _, fun_mk (st := s_lowest) l_lowest c_lowest k_lowest, (Fun.binds (ps := ["part", "whole"]) (fun_mk (st := s_lowest) l_lowest c_lowest k_lowest) fun _ _ _ _ _ _ us hl => match us, hl with | [_, _], _ => rfl), PySem.W.mg_of X G a_lowest⟩,
    made := ⟨_, _, fun_mk (st := s_made) l_made c_made k_made, (Fun.binds (ps := ["part", "whole"]) (fun_mk (st := s_made) l_made c_made k_made) fun _ _ _ _ _ _ us hl => match us, hl with | [_, _], _ => rfl), PySem.W.mg_of X G a_made⟩,
    less := ⟨_, _, fun_mk (st := s_less) l_less c_less k_less, (Fun.binds (ps := ["one", "other"]) (fun_mk (st := s_less) l_less c_less k_less) fun _ _ _ _ _ _ us hl => match us, hl with | [_, _], _ => rfl), PySem.W.mg_of X G a_less⟩,
    rank_place := ⟨_, _, fun_mk (st := s_rank_place) l_rank_place c_rank_place k_rank_place, (Fun.binds (ps := ["many", "part", "whole"]) (fun_mk (st := s_rank_place) l_rank_place c_rank_place k_rank_place) fun _ _ _ _ _ _ us hl => match us, hl with | [_, _, _], _ => rfl), PySem.W.mg_of X G a_rank_place⟩,
    rank_of_all := ⟨_, _, fun_mk (st := s_rank_of_all) l_rank_of_all c_rank_of_all k_rank_of_all, (Fun.binds (ps := ["numbers", "part", "whole"]) (fun_mk (st := s_rank_of_all) l_rank_of_all c_rank_of_all k_rank_of_all) fun _ _ _ _ _ _ us hl => match us, hl with | [_, _, _], _ => rfl), PySem.W.mg_of X G a_rank_of_all⟩,
    check_more := ⟨_, _, fun_mk (st := s_check_more) l_check_more c_check_more k_check_more, (Fun.binds (ps := ["fewest", "most", "low", "high"]) (fun_mk (st := s_check_more) l_check_more c_check_more k_check_more) fun _ _ _ _ _ _ us hl => match us, hl with | [_, _, _, _], _ => rfl), PySem.W.mg_of X G a_check_more⟩,
    ends_of := ⟨_, _, fun_mk (st := s_ends_of) l_ends_of c_ends_of k_ends_of, (Fun.binds (ps := ["fewest", "most", "needed"]) (fun_mk (st := s_ends_of) l_ends_of c_ends_of k_ends_of) fun _ _ _ _ _ _ us hl => match us, hl with | [_, _, _], _ => rfl), PySem.W.mg_of X G a_ends_of⟩,
    range_of_total := ⟨_, _, fun_mk (st := s_range_of_total) l_range_of_total c_range_of_total k_range_of_total, (Fun.binds (ps := ["total", "fewest", "most", "low", "high"]) (fun_mk (st := s_range_of_total) l_range_of_total c_range_of_total k_range_of_total) fun _ _ _ _ _ _ us hl => match us, hl with | [_, _, _, _, _], _ => rfl), PySem.W.mg_of X G a_range_of_total⟩,
    range_of_greatest := ⟨_, _, fun_mk (st := s_range_of_greatest) l_range_of_greatest c_range_of_greatest k_range_of_greatest, (Fun.binds (ps := ["greatest", "fewest", "most", "low", "high"]) (fun_mk (st := s_range_of_greatest) l_range_of_greatest c_range_of_greatest k_range_of_greatest) fun _ _ _ _ _ _ us hl => match us, hl with | [_, _, _, _, _], _ => rfl), PySem.W.mg_of X G a_range_of_greatest⟩,
    range_of_mean := ⟨_, _, fun_mk (st := s_range_of_mean) l_range_of_mean c_range_of_mean k_range_of_mean, (Fun.binds (ps := ["many", "total", "fewest", "most", "low", "high"]) (fun_mk (st := s_range_of_mean) l_range_of_mean c_range_of_mean k_range_of_mean) fun _ _ _ _ _ _ us hl => match us, hl with | [_, _, _, _, _, _], _ => rfl), PySem.W.mg_of X G a_range_of_mean⟩,
    range_of_rank := ⟨_, _, fun_mk (st := s_range_of_rank) l_range_of_rank c_range_of_rank k_range_of_rank, (Fun.binds (ps := ["numbers", "part", "whole", "fewest", "most", "low", "high"]) (fun_mk (st := s_range_of_rank) l_range_of_rank c_range_of_rank k_range_of_rank) fun _ _ _ _ _ _ us hl => match us, hl with | [_, _, _, _, _, _, _], _ => rfl), PySem.W.mg_of X G a_range_of_rank⟩,
    range_of_area := ⟨_, _, fun_mk (st := s_range_of_area) l_range_of_area c_range_of_area k_range_of_area, (Fun.binds (ps := ["area", "time", "until", "low", "high"]) (fun_mk (st := s_range_of_area) l_range_of_area c_range_of_area k_range_of_area) fun _ _ _ _ _ _ us hl => match us, hl with | [_, _, _, _, _], _ => rfl), PySem.W.mg_of X G a_range_of_area⟩,
    is_settled := ⟨_, _, fun_mk (st := s_is_settled) l_is_settled c_is_settled k_is_settled, (Fun.binds (ps := ["ends"]) (fun_mk (st := s_is_settled) l_is_settled c_is_settled k_is_settled) fun _ _ _ _ _ _ us hl => match us, hl with | [_], _ => rfl), PySem.W.mg_of X G a_is_settled⟩,
    law_draws := ⟨_, _, fun_mk (st := s_law_draws) l_law_draws c_law_draws k_law_draws, (Fun.binds (ps := ["script"]) (fun_mk (st := s_law_draws) l_law_draws c_law_draws k_law_draws) fun _ _ _ _ _ _ us hl => match us, hl with | [_], _ => rfl), PySem.W.mg_of X G a_law_draws⟩,
    law_take := ⟨_, _, fun_mk (st := s_law_take) l_law_take c_law_take k_law_take, (Fun.binds (ps := ["draws", "bound"]) (fun_mk (st := s_law_take) l_law_take c_law_take k_law_take) fun _ _ _ _ _ _ us hl => match us, hl with | [_, _], _ => rfl), PySem.W.mg_of X G a_law_take⟩,
    law_alike := ⟨_, _, fun_mk (st := s_law_alike) l_law_alike c_law_alike k_law_alike, (Fun.binds (ps := ["found", "due"]) (fun_mk (st := s_law_alike) l_law_alike c_law_alike k_law_alike) fun _ _ _ _ _ _ us hl => match us, hl with | [_, _], _ => rfl), PySem.W.mg_of X G a_law_alike⟩,
    law_word := ⟨_, _, fun_mk (st := s_law_word) l_law_word c_law_word k_law_word, (Fun.binds (ps := ["e"]) (fun_mk (st := s_law_word) l_law_word c_law_word k_law_word) fun _ _ _ _ _ _ us hl => match us, hl with | [_], _ => rfl), PySem.W.mg_of X G a_law_word⟩,
    law_says := ⟨_, _, fun_mk (st := s_law_says) l_law_says c_law_says k_law_says, (Fun.binds (ps := ["told", "due"]) (fun_mk (st := s_law_says) l_law_says c_law_says k_law_says) fun _ _ _ _ _ _ us hl => match us, hl with | [_, _], _ => rfl), PySem.W.mg_of X G a_law_says⟩,
    law_rank := ⟨_, _, fun_mk (st := s_law_rank) l_law_rank c_law_rank k_law_rank, (Fun.binds (ps := ["numbers", "part", "whole_one"]) (fun_mk (st := s_law_rank) l_law_rank c_law_rank k_law_rank) fun _ _ _ _ _ _ us hl => match us, hl with | [_, _, _], _ => rfl), PySem.W.mg_of X G a_law_rank⟩,
    law_ways := ⟨_, _, fun_mk (st := s_law_ways) l_law_ways c_law_ways k_law_ways, (Fun.binds (ps := ["fewest", "most", "low", "high"]) (fun_mk (st := s_law_ways) l_law_ways c_law_ways k_law_ways) fun _ _ _ _ _ _ us hl => match us, hl with | [_, _, _, _], _ => rfl), PySem.W.mg_of X G a_law_ways⟩,
    law_told := ⟨_, _, fun_mk (st := s_law_told) l_law_told c_law_told k_law_told, (Fun.binds (ps := ["which", "numbers", "part", "whole_one", "more"]) (fun_mk (st := s_law_told) l_law_told c_law_told k_law_told) fun _ _ _ _ _ _ us hl => match us, hl with | [_, _, _, _, _], _ => rfl), PySem.W.mg_of X G a_law_told⟩,
    law_least := ⟨_, _, fun_mk (st := s_law_least) l_law_least c_law_least k_law_least, (Fun.binds (ps := ["fractions"]) (fun_mk (st := s_law_least) l_law_least c_law_least k_law_least) fun _ _ _ _ _ _ us hl => match us, hl with | [_], _ => rfl), PySem.W.mg_of X G a_law_least⟩,
    law_lowest := ⟨_, _, fun_mk (st := s_law_lowest) l_law_lowest c_law_lowest k_law_lowest, (Fun.binds (ps := ["part", "whole_one"]) (fun_mk (st := s_law_lowest) l_law_lowest c_law_lowest k_law_lowest) fun _ _ _ _ _ _ us hl => match us, hl with | [_, _], _ => rfl), PySem.W.mg_of X G a_law_lowest⟩,
    law_due := ⟨_, _, fun_mk (st := s_law_due) l_law_due c_law_due k_law_due, (Fun.binds (ps := ["which", "rows", "part", "whole_one"]) (fun_mk (st := s_law_due) l_law_due c_law_due k_law_due) fun _ _ _ _ _ _ us hl => match us, hl with | [_, _, _, _], _ => rfl), PySem.W.mg_of X G a_law_due⟩,
    law_within := ⟨_, _, fun_mk (st := s_law_within) l_law_within c_law_within k_law_within, (Fun.binds (ps := ["one", "other"]) (fun_mk (st := s_law_within) l_law_within c_law_within k_law_within) fun _ _ _ _ _ _ us hl => match us, hl with | [_, _], _ => rfl), PySem.W.mg_of X G a_law_within⟩,
    law_narrower := ⟨_, _, fun_mk (st := s_law_narrower) l_law_narrower c_law_narrower k_law_narrower, (Fun.binds (ps := ["draws", "numbers", "part", "whole_one", "more"]) (fun_mk (st := s_law_narrower) l_law_narrower c_law_narrower k_law_narrower) fun _ _ _ _ _ _ us hl => match us, hl with | [_, _, _, _, _], _ => rfl), PySem.W.mg_of X G a_law_narrower⟩,
    law_areas := ⟨_, _, fun_mk (st := s_law_areas) l_law_areas c_law_areas k_law_areas, (Fun.binds (ps := ["draws"]) (fun_mk (st := s_law_areas) l_law_areas c_law_areas k_law_areas) fun _ _ _ _ _ _ us hl => match us, hl with | [_], _ => rfl), PySem.W.mg_of X G a_law_areas⟩,
    law := ⟨_, _, fun_mk (st := s_law) l_law c_law k_law, (Fun.binds (ps := ["script"]) (fun_mk (st := s_law) l_law c_law k_law) fun _ _ _ _ _ _ us hl => match us, hl with | [_], _ => rfl), PySem.W.mg_of X G a_law⟩,
    x_TraceError := ⟨PySem.W.mg_of X G a_TraceError⟩,
    x_OutOfRange := ⟨ex_OutOfRange, PySem.W.mg_of X G a_OutOfRange, kx_OutOfRange, bx_OutOfRange, tx_OutOfRange, ⟨yg_OutOfRange, yk_OutOfRange, bx_OutOfRange, yd_OutOfRange, ya_OutOfRange, y_n, y_t, ym_OutOfRange⟩⟩,
    x_Malformed := ⟨PySem.W.mg_of X G a_Malformed⟩,
    x_NotThere := ⟨ex_NotThere, PySem.W.mg_of X G a_NotThere, kx_NotThere, bx_NotThere, tx_NotThere, ⟨yg_NotThere, yk_NotThere, bx_NotThere, yd_NotThere, ya_NotThere, y_n, y_t, ym_NotThere⟩⟩,
    x_Refused := ⟨PySem.W.mg_of X G a_Refused⟩,
    x_TooMuch := ⟨PySem.W.mg_of X G a_TooMuch⟩,
    e_OutOfRange_TraceError := exm_of bx_TraceError ix_TraceError tx_TraceError s_OutOfRange_TraceError,
    e_NotThere_TraceError := exm_of bx_TraceError ix_TraceError tx_TraceError s_NotThere_TraceError,
    i_OutOfRange_OutOfRange := kit_self,
    i_OutOfRange_Malformed := kit_no ne_OutOfRange_Malformed ix_Malformed tx_Malformed s_OutOfRange_Malformed,
    i_OutOfRange_NotThere := kit_no ne_OutOfRange_NotThere ix_NotThere tx_NotThere s_OutOfRange_NotThere,
    i_OutOfRange_Refused := kit_no ne_OutOfRange_Refused ix_Refused tx_Refused s_OutOfRange_Refused,
    i_OutOfRange_TooMuch := kit_no ne_OutOfRange_TooMuch ix_TooMuch tx_TooMuch s_OutOfRange_TooMuch,
    i_NotThere_OutOfRange := kit_no ne_NotThere_OutOfRange ix_OutOfRange tx_OutOfRange s_NotThere_OutOfRange,
    i_NotThere_Malformed := kit_no ne_NotThere_Malformed ix_Malformed tx_Malformed s_NotThere_Malformed,
    i_NotThere_NotThere := kit_self,
    i_NotThere_Refused := kit_no ne_NotThere_Refused ix_Refused tx_Refused s_NotThere_Refused,
    i_NotThere_TooMuch := kit_no ne_NotThere_TooMuch ix_TooMuch tx_TooMuch s_NotThere_TooMuch,
    b_len := PySem.W.mg_none_of X G b_len,
    b_abs := PySem.W.mg_none_of X G b_abs,
    b_int := PySem.W.mg_none_of X G b_int,
    b_list := PySem.W.mg_none_of X G b_list,
    b_reversed := PySem.W.mg_none_of X G b_reversed,
    b_isinstance := PySem.W.mg_none_of X G b_isinstance,
    b_range := PySem.W.mg_none_of X G b_range,
    b_bool := PySem.W.mg_none_of X G b_bool,
    b_str := PySem.W.mg_none_of X G b_str,
    b_tuple := PySem.W.mg_none_of X G b_tuple,
    b_min := PySem.W.mg_none_of X G b_min,
    b_max := PySem.W.mg_none_of X G b_max,
    b_sum := PySem.W.mg_none_of X G b_sum,
    b_sorted := PySem.W.mg_none_of X G b_sorted,
    g_gcd := PySem.W.mg_of X G g_gcd,
    c_MOST_MORE := ⟨_, PySem.W.mg_of X G v_MOST_MORE, ⟨_, rfl⟩⟩,
    c_MOST_WORTH := ⟨_, PySem.W.mg_of X G v_MOST_WORTH, ⟨_, rfl⟩⟩ }
  have e := hfa.symm.trans T.law.g
  cases e
  obtain ⟨oc, od, kV, dc, pm, an, cd, ct, sl, e, _⟩ := T.law.F.ex
  exact ⟨T.law.fd, fun s v => by rw [e]; exact .of_eq rfl, fun base _ _ => ok_all T base⟩
end HL
open PySem PySem.W PyProof.Rows
set_option maxRecDepth 100000 in
set_option maxHeartbeats 0 in
theorem PySem.Challenge.cw_sametrace_k23_whole_what_figures_can_bec_holds : PySem.Challenge.rw_sametrace_k23_whole_what_figures_can_bec.Holds := by
  w_on; o_law; k_head; (case hw => w_witness2)
  k_fill
  refine L2.walk_of (l := PySem.Challenge.rw_sametrace_k23_whole_what_figures_can_bec) (n := 63) (k := 6) (x := "script") (CX := fun _ => L2.CX0) (sp := fun w => HL.sp_law _) rfl (by decide) rfl ⟨rfl, by decide, by decide⟩ (fun w h Y => PySem.W.kIn_of Y) ?F (fun _ _ a ns hl _ hS => ⟨a, ns, rfl, hS, hl, fun _ => rfl⟩) (fun _ _ _ _ _ z => z)
  case F =>
    intro w mg fa h KX G hmg
    refine' HL.all_mk KX G hmg ?a_TraceError ?a_OutOfRange ?a_Malformed ?a_NotThere ?a_Refused ?a_TooMuch ?a_is_number ?l_is_number ?c_is_number ?k_is_number ?a_lowest ?l_lowest ?c_lowest ?k_lowest ?a_made ?l_made ?c_made ?k_made ?a_less ?l_less ?c_less ?k_less ?a_rank_place ?l_rank_place ?c_rank_place ?k_rank_place ?a_rank_of_all ?l_rank_of_all ?c_rank_of_all ?k_rank_of_all ?a_check_more ?l_check_more ?c_check_more ?k_check_more ?a_ends_of ?l_ends_of ?c_ends_of ?k_ends_of ?a_range_of_total ?l_range_of_total ?c_range_of_total ?k_range_of_total ?a_range_of_greatest ?l_range_of_greatest ?c_range_of_greatest ?k_range_of_greatest ?a_range_of_mean ?l_range_of_mean ?c_range_of_mean ?k_range_of_mean ?a_range_of_rank ?l_range_of_rank ?c_range_of_rank ?k_range_of_rank ?a_range_of_area ?l_range_of_area ?c_range_of_area ?k_range_of_area ?a_is_settled ?l_is_settled ?c_is_settled ?k_is_settled ?a_law_draws ?l_law_draws ?c_law_draws ?k_law_draws ?a_law_take ?l_law_take ?c_law_take ?k_law_take ?a_law_alike ?l_law_alike ?c_law_alike ?k_law_alike ?a_law_word ?l_law_word ?c_law_word ?k_law_word ?a_law_says ?l_law_says ?c_law_says ?k_law_says ?a_law_rank ?l_law_rank ?c_law_rank ?k_law_rank ?a_law_ways ?l_law_ways ?c_law_ways ?k_law_ways ?a_law_told ?l_law_told ?c_law_told ?k_law_told ?a_law_least ?l_law_least ?c_law_least ?k_law_least ?a_law_lowest ?l_law_lowest ?c_law_lowest ?k_law_lowest ?a_law_due ?l_law_due ?c_law_due ?k_law_due ?a_law_within ?l_law_within ?c_law_within ?k_law_within ?a_law_narrower ?l_law_narrower ?c_law_narrower ?k_law_narrower ?a_law_areas ?l_law_areas ?c_law_areas ?k_law_areas ?a_law ?l_law ?c_law ?k_law ?y_n ?y_t ?ex_OutOfRange ?kx_OutOfRange ?yg_OutOfRange ?yk_OutOfRange ?yd_OutOfRange ?ya_OutOfRange ?ym_OutOfRange ?ex_NotThere ?kx_NotThere ?yg_NotThere ?yk_NotThere ?yd_NotThere ?ya_NotThere ?ym_NotThere ?bx_Malformed ?tx_Malformed ?ix_Malformed ?bx_NotThere ?tx_NotThere ?ix_NotThere ?bx_OutOfRange ?tx_OutOfRange ?ix_OutOfRange ?bx_Refused ?tx_Refused ?ix_Refused ?bx_TooMuch ?tx_TooMuch ?ix_TooMuch ?bx_TraceError ?tx_TraceError ?ix_TraceError ?s_OutOfRange_TraceError ?s_NotThere_TraceError ?s_OutOfRange_Malformed ?s_OutOfRange_NotThere ?s_OutOfRange_Refused ?s_OutOfRange_TooMuch ?s_NotThere_OutOfRange ?s_NotThere_Malformed ?s_NotThere_Refused ?s_NotThere_TooMuch ?ne_OutOfRange_Malformed ?ne_OutOfRange_NotThere ?ne_OutOfRange_Refused ?ne_OutOfRange_TooMuch ?ne_NotThere_OutOfRange ?ne_NotThere_Malformed ?ne_NotThere_Refused ?ne_NotThere_TooMuch ?b_len ?b_abs ?b_int ?b_list ?b_reversed ?b_isinstance ?b_range ?b_bool ?b_str ?b_tuple ?b_min ?b_max ?b_sum ?b_sorted ?g_gcd ?v_MOST_MORE ?v_MOST_WORTH
    (case a_TraceError => k_is); (case a_OutOfRange => k_is); (case a_Malformed => k_is); (case a_NotThere => k_is); (case a_Refused => k_is); (case a_TooMuch => k_is)
    (case a_is_number => k_is); (case l_is_number => k_is); (case c_is_number => k_is); (case k_is_number => k_is); (case a_lowest => k_is); (case l_lowest => k_is)
    (case c_lowest => k_is); (case k_lowest => k_is); (case a_made => k_is); (case l_made => k_is); (case c_made => k_is); (case k_made => k_is)
    (case a_less => k_is); (case l_less => k_is); (case c_less => k_is); (case k_less => k_is); (case a_rank_place => k_is); (case l_rank_place => k_is)
    (case c_rank_place => k_is); (case k_rank_place => k_is); (case a_rank_of_all => k_is); (case l_rank_of_all => k_is); (case c_rank_of_all => k_is); (case k_rank_of_all => k_is)
    (case a_check_more => k_is); (case l_check_more => k_is); (case c_check_more => k_is); (case k_check_more => k_is); (case a_ends_of => k_is); (case l_ends_of => k_is)
    (case c_ends_of => k_is); (case k_ends_of => k_is); (case a_range_of_total => k_is); (case l_range_of_total => k_is); (case c_range_of_total => k_is); (case k_range_of_total => k_is)
    (case a_range_of_greatest => k_is); (case l_range_of_greatest => k_is); (case c_range_of_greatest => k_is); (case k_range_of_greatest => k_is); (case a_range_of_mean => k_is); (case l_range_of_mean => k_is)
    (case c_range_of_mean => k_is); (case k_range_of_mean => k_is); (case a_range_of_rank => k_is); (case l_range_of_rank => k_is); (case c_range_of_rank => k_is); (case k_range_of_rank => k_is)
    (case a_range_of_area => k_is); (case l_range_of_area => k_is); (case c_range_of_area => k_is); (case k_range_of_area => k_is); (case a_is_settled => k_is); (case l_is_settled => k_is)
    (case c_is_settled => k_is); (case k_is_settled => k_is); (case a_law_draws => k_is); (case l_law_draws => k_is); (case c_law_draws => k_is); (case k_law_draws => k_is)
    (case a_law_take => k_is); (case l_law_take => k_is); (case c_law_take => k_is); (case k_law_take => k_is); (case a_law_alike => k_is); (case l_law_alike => k_is)
    (case c_law_alike => k_is); (case k_law_alike => k_is); (case a_law_word => k_is); (case l_law_word => k_is); (case c_law_word => k_is); (case k_law_word => k_is)
    (case a_law_says => k_is); (case l_law_says => k_is); (case c_law_says => k_is); (case k_law_says => k_is); (case a_law_rank => k_is); (case l_law_rank => k_is)
    (case c_law_rank => k_is); (case k_law_rank => k_is); (case a_law_ways => k_is); (case l_law_ways => k_is); (case c_law_ways => k_is); (case k_law_ways => k_is)
    (case a_law_told => k_is); (case l_law_told => k_is); (case c_law_told => k_is); (case k_law_told => k_is); (case a_law_least => k_is); (case l_law_least => k_is)
    (case c_law_least => k_is); (case k_law_least => k_is); (case a_law_lowest => k_is); (case l_law_lowest => k_is); (case c_law_lowest => k_is); (case k_law_lowest => k_is)
    (case a_law_due => k_is); (case l_law_due => k_is); (case c_law_due => k_is); (case k_law_due => k_is); (case a_law_within => k_is); (case l_law_within => k_is)
    (case c_law_within => k_is); (case k_law_within => k_is); (case a_law_narrower => k_is); (case l_law_narrower => k_is); (case c_law_narrower => k_is); (case k_law_narrower => k_is)
    (case a_law_areas => k_is); (case l_law_areas => k_is); (case c_law_areas => k_is); (case k_law_areas => k_is); (case a_law => k_is); (case l_law => k_is)
    (case c_law => k_is); (case k_law => k_is); (case y_n => k_is); (case y_t => k_is); (case ex_OutOfRange => k_exc); (case kx_OutOfRange => k_is)
    (case yg_OutOfRange => k_is); (case yk_OutOfRange => k_is); (case yd_OutOfRange => k_is); (case ya_OutOfRange => k_is); (case ym_OutOfRange => k_is); (case ex_NotThere => k_exc)
    (case kx_NotThere => k_is); (case yg_NotThere => k_is); (case yk_NotThere => k_is); (case yd_NotThere => k_is); (case ya_NotThere => k_is); (case ym_NotThere => k_is)
    (case bx_Malformed => k_is); (case tx_Malformed => k_is); (case ix_Malformed => k_is); (case bx_NotThere => k_is); (case tx_NotThere => k_is); (case ix_NotThere => k_is)
    (case bx_OutOfRange => k_is); (case tx_OutOfRange => k_is); (case ix_OutOfRange => k_is); (case bx_Refused => k_is); (case tx_Refused => k_is); (case ix_Refused => k_is)
    (case bx_TooMuch => k_is); (case tx_TooMuch => k_is); (case ix_TooMuch => k_is); (case bx_TraceError => k_is); (case tx_TraceError => k_is); (case ix_TraceError => k_is)
    (case s_OutOfRange_TraceError => k_is); (case s_NotThere_TraceError => k_is); (case s_OutOfRange_Malformed => k_is); (case s_OutOfRange_NotThere => k_is); (case s_OutOfRange_Refused => k_is); (case s_OutOfRange_TooMuch => k_is)
    (case s_NotThere_OutOfRange => k_is); (case s_NotThere_Malformed => k_is); (case s_NotThere_Refused => k_is); (case s_NotThere_TooMuch => k_is); (case ne_OutOfRange_Malformed => decide); (case ne_OutOfRange_NotThere => decide)
    (case ne_OutOfRange_Refused => decide); (case ne_OutOfRange_TooMuch => decide); (case ne_NotThere_OutOfRange => decide); (case ne_NotThere_Malformed => decide); (case ne_NotThere_Refused => decide); (case ne_NotThere_TooMuch => decide)
    (case b_len => k_is); (case b_abs => k_is); (case b_int => k_is); (case b_list => k_is); (case b_reversed => k_is); (case b_isinstance => k_is)
    (case b_range => k_is); (case b_bool => k_is); (case b_str => k_is); (case b_tuple => k_is); (case b_min => k_is); (case b_max => k_is)
    (case b_sum => k_is); (case b_sorted => k_is); (case g_gcd => k_is); (case v_MOST_MORE => k_is); (case v_MOST_WORTH => k_is)
