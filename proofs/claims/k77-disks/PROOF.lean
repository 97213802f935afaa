import PyProof.Rows.All
import Wide.All
import OpenK.AllK
import Wide.FinOn
import HandS.ForMost
import HandS.Exc
import HandS.ExcOwn
import HandS.ExcCtx
import HandS.ExcIs
import HandS.Rev
import HandS.TupAny
import HandS.Deep
import HandS.IsInst
import HandS.Style
import HandS.More
import HandS.HotCalls
import PySem.Challenge.RW_sametrace_k77_whole_three_disks
set_option Elab.async false
set_option linter.all false
set_option maxRecDepth 100000
namespace HL
open PySem PySem.Spec PyProof.Rows L2 HotX
section
variable {prog : Program} {w : World} {A : Around} {E : Value → Shared → Prop} {s : Shared}
/-- the end of a list's iterator while an exception is handled -/
theorem list_ends_hot {it l x1 : Addr} {i : Nat} {items : Array Value} {Q : Option Value → Shared → Prop} (hot : HotAt A x1 s.heap)
    (hit : s.heap.IsListIter it l i) (hl : s.heap.IsList l items) (hx : items[i]? = none) (nx : x1 ≠ it)
    (hQ : ∀ h', (∀ b o, b ≠ it → s.heap.get? b = some o → h'.get? b = some o) → Q none { s with heap := h' }) : wpAny (model prog w) A (pyNext (.ref it)) Q E s := by
  obtain ⟨hh, o1, vs1, h1, d1, c1⟩ := hot
  obtain ⟨o, ho, hc, hd⟩ := id hit
  obtain ⟨ol, hol, _, nl, hdl⟩ := hl
  unfold pyNext
  refine wpAny_bind (wpAny_attempt (wpAny_callSpecial?_slot (name := Str.ofString "__next__") hit.typeIs slot_listiter_next
    (wpAny_call_entry slot_listiter_next hit.typeIs entry_listiter_next ?_ (args_listiter_next _))))
  show wpAny _ _ (field (.ref it) 0 >>= _) _ _ s
  refine wpAny_bind (wpAny_field ho hd (x := .ref l) rfl ?_)
  show wpAny _ _ (if (Value.ref l == Value.none) = true then _ else _) _ _ s
  rw [if_neg (show ¬ ((Value.ref l == Value.none) = true) from Bool.false_ne_true)]
  show wpAny _ _ (field (.ref it) 1 >>= _) _ _ s
  refine wpAny_bind (wpAny_field ho hd (x := .int i 0) rfl ?_)
  show wpAny _ _ (seqItems? (.ref l) >>= _) _ _ s
  refine wpAny_bind (wpAny_seqItems hol hdl ?_)
  simp only [Int.toNat_natCast, hx]
  refine wpAny_bind (wpAny_rule (wpAny_bind (wpAny_setField ho hd (by simp) ?_)))
  show wpAny _ _ (newExc (.type "StopIteration") [] >>= _) _ _ _
  refine wpAny_bind ?_
  simp only [newExc, newTuple]
  refine wpAny_bind (wpAny_newObj_type ?_ (by size_fits))
  refine wpAny_bind (m := firstArgMember _ _) (wpAny_of_eq (a := Value.none) (by first | rfl | (simp only [firstArgMember]; rfl)) ?_)
  refine wpAny_newObj_type ?_ (by size_fits)
  have up : ∀ {b o'}, b ≠ it → s.heap.get? b = some o' → (s.heap.update it (Obj.mapFields (·.setIfInBounds 0 .none))).get? b = some o' := fun {b o'} hb e => by
    rw [Heap.get?_update_other _ _ (Ne.symm hb)]; exact e
  refine raiseNew_hot ⟨hh, o1, vs1, Heap.get?_push_of_some _ (Heap.get?_push_of_some _ (up nx h1)), d1, c1⟩ (Nat.ne_of_lt (Heap.lt_size (Heap.get?_push_of_some _ (up nx h1)))) (Heap.get?_push_size _ rfl) rfl (by first | (simp; done) | (simp; omega)) ?_
  refine wpAny_bind (wpAny_isInstance (T := "StopIteration") (b := true) ⟨_, Heap.get?_update_self _ (Heap.get?_push_size _ rfl) rfl, rfl⟩ isSubtype_stop ?_)
  refine wpAny_pure (hQ _ fun b o' hb e => ?_)
  rw [Heap.get?_update_other _ _ (Nat.ne_of_gt (Heap.lt_size (Heap.get?_push_of_some _ (up hb e))))]
  exact Heap.get?_push_of_some _ (Heap.get?_push_of_some _ (up hb e))
end
section
variable {X : Cx}
/-- where an exception is handled: a comprehension over a list -/
theorem pe_lcH {l elt tg : Expr} {ifs : List Expr} {scope : Scope} {own : List (Str × Nat)} {pos : Pos} {tl : TE} {g : TG} {tt : TT} {te : TE} (hot : L2H.HotC X) (hN : X.N.Nodup) (hl : PE X l tl) (ok : BlkOk X.N X.env.scope scope own)
    (hg : ∀ (s : Shared) (H : Hp) (C : Addr) (cl : List (Str × Addr)) (fp : List Addr), PG (X.blk s H scope (compEnvC scope cl C X.env) fp) tg g)
    (ht : ∀ (s : Shared) (H : Hp) (C : Addr) (cl : List (Str × Addr)) (fp : List Addr), PTs (X.blk s H scope (compEnvC scope cl C X.env) fp) ifs tt)
    (he : ∀ (s : Shared) (H : Hp) (C : Addr) (cl : List (Str × Addr)) (fp : List Addr), PE (X.blk s H scope (compEnvC scope cl C X.env) fp) elt te)
    (hs : ∀ x, foldedSetIterable l X.env x = pure x := by intro _; rfl) :
    PE X (.ListComp elt [⟨tg, l, ifs, 0⟩] scope pos) (tLc (iList X.K tl) g tt te (own.map (·.2))) := by
  refine ⟨fun pins s σ H Q I h => ?_⟩
  rw [eval_ListComp]
  have hfree : ∀ y ∈ scope.names, y.2 = .free → ∃ c, X.env.cells.lookup y.1 = some c := fun y hy e => (ok.free y hy e).elim (fun k => I.ok.has _ (.inl k)) fun k => I.ok.has _ (.inr k)
  refine wpAny_comprehension_free (use := none) rfl hs (closure_ok hfree) ok.kind (fun y hy e => by rw [ok.uniq y hy, e])
    (thn (hl.run pins s σ H _ I h) fun xv s1 hx => ?_)
  obtain ⟨v, H2, I1, r1, a, ea, ⟨xs, hq⟩, q⟩ := hx
  subst ea
  cases r1
  obtain ⟨its, rv, p, hz⟩ := I1.list hq
  refine wpAny_pyIter_list p.isList ?_
  generalize hit : s1.heap.objs.size = it
  generalize hs2 : ({ s1 with heap := s1.heap.push { cls := .type "list_iterator", data := .fields #[.ref a, .int 0 0] } } : Shared) = s2
  have I2 : Inv X pins σ H2 s2 := by
    rw [← hs2]
    exact I1.kept (t' := s1.toks) fun b o e => Heap.get?_push_of_some _ e
  have st2 : s2.heap.IsListIter it a 0 := by
    rw [← hs2, ← hit]
    exact ⟨_, Heap.get?_push_size _ rfl, rfl, rfl⟩
  have f2 : FpOk X pins H2 it := I1.fpOk (Nat.le_of_eq hit) (I1.hok.fresh (Nat.le_of_eq hit))
  refine wpAny_newObj_type (newEnv_comp ?_) (by show 0 ≤ sizeLine; decide)
  generalize hD : s2.heap.objs.size = D
  have hDn : H2 D = none := I2.hok.fresh (Nat.le_of_eq hD)
  obtain ⟨W, ⟨m0, w0⟩, turn⟩ := q D hDn
  generalize hs3 : ({ s2 with heap := s2.heap.push { cls := .type "list", data := .seq ([] : List Value).toArray } } : Shared) = s3
  have I3 : Inv X pins σ (upd H2 D (.lst [])) s3 := by
    rw [← hs3]
    refine I2.laid (t' := s2.toks) (fun b o e => Heap.get?_push_of_some _ e) (Nat.le_of_eq hD) ⟨Nat.zero_le _, [], 0, .nil, ?_⟩
    rw [← hD]
    exact Heap.get?_push_size _ rfl
  have h3 : s3.heap = s2.heap.push { cls := .type "list", data := .seq ([] : List Value).toArray } := by rw [← hs3]
  have lt2 : it < s2.heap.objs.size := by
    obtain ⟨o, e, _⟩ := id st2
    exact Heap.lt_size e
  have nD : it ≠ D := by rw [← hD]; exact Nat.ne_of_lt lt2
  have f3 : ∀ b ∈ [it], FpOk X pins (upd H2 D (.lst [])) b ∧ b < s3.heap.objs.size := fun b hb => by
    have e : b = it := by simpa using hb
    subst e
    exact ⟨⟨by rw [upd_ne nD]; exact f2.1, f2.2⟩, by rw [h3, Heap.size_push]; exact Nat.lt_succ_of_lt lt2⟩
  have st3 : s3.heap.IsListIter it a 0 := by
    obtain ⟨o, e, c, d⟩ := id st2
    exact ⟨o, by rw [h3]; exact Heap.get?_push_of_some _ e, c, d⟩
  -- the handled exception stands, out of reach of the block
  obtain ⟨pe0, ⟨hh, v1, e1, c1⟩, hp0⟩ := hot
  obtain ⟨g0, n0, nl0, nf0, nc0⟩ := I3.pin pe0 (List.mem_append_left _ hp0)
  have ns0 : pe0.1 ∉ frs X.stack := fun z => (List.mem_cons.mp (I3.stkSub pe0.1 z)).elim nl0 nf0
  have ni0 : pe0.1 ≠ it := (f3 it (by simp)).1.2.2.2.2.2 pe0 (List.mem_append_left _ hp0)
  have I4 := block_start I3 ok hN f3
  have pg := hg s3 (upd H2 D (.lst [])) s3.heap.objs.size (cellsFrom (s3.heap.objs.size + 1) scope.names (cloFrom X.env.cells scope.names [])) [it]
  have pt := ht s3 (upd H2 D (.lst [])) s3.heap.objs.size (cellsFrom (s3.heap.objs.size + 1) scope.names (cloFrom X.env.cells scope.names [])) [it]
  have pe := he s3 (upd H2 D (.lst [])) s3.heap.objs.size (cellsFrom (s3.heap.objs.size + 1) scope.names (cloFrom X.env.cells scope.names [])) [it]
  show codeAny _ _ (.compStart (.ListComp elt [⟨tg, l, ifs, 0⟩] scope pos) 0 (.ref it) (.ref D) (compEnvC scope (cellsFrom (s3.heap.objs.size + 1) scope.names (cloFrom X.env.cells scope.names [])) s3.heap.objs.size X.env)) (compPost (model X.prog X.w) X.A X.xe none (EP X pins σ Q) (.ref D) s3.heap.objs.size) { s3 with heap := pushCells (s3.heap.push { cls := .type "dict", data := .dict #[] }) scope.names }
  generalize hce : compEnvC scope (cellsFrom (s3.heap.objs.size + 1) scope.names (cloFrom X.env.cells scope.names [])) s3.heap.objs.size X.env = ce at I4 pg pt pe ⊢
  have cL : ce.locals = s3.heap.objs.size := by subst hce; rfl
  have n3 : (upd H2 D (.lst [])) it = none := (f3 it (by simp)).1.1
  generalize hH3 : upd H2 D (.lst []) = H3 at I3 I4 pg pt pe w0 n3 f3 n0
  generalize hs4 : ({ s3 with heap := pushCells (s3.heap.push { cls := .type "dict", data := .dict #[] }) scope.names } : Shared) = s4 at I4 ⊢
  have st4 : s4.heap.IsListIter it a 0 := by
    obtain ⟨o, e, c, d⟩ := id st3
    exact ⟨o, by rw [← hs4]; exact pushCells_keeps _ _ _ _ (Heap.get?_push_of_some _ e), c, d⟩
  have stat : ∀ {σ' : L2.St} {H' : Hp} {s' : Shared}, Inv (X.blk s3 H3 scope ce [it]) [] σ' H' s' → H' it = none → FpOk (X.blk s3 H3 scope ce [it]) [] H' it := fun {_ H' s'} I' hn =>
    ⟨hn, (I'.ok.exf it (by simp)).1, I'.ok.exfs it (by simp), .inl (by simp), fun x c e => (I'.ok.exf it (by simp)).2 x c e, fun p hp => absurd (show p ∈ ([] : List (Addr × Obj)) ++ [] from hp) (by simp)⟩
  have loop : codeAny (model X.prog X.w) X.A (.compLoop (.ListComp elt [⟨tg, l, ifs, 0⟩] scope pos) 0 (.ref it) (.ref D) ce) (compPost (model X.prog X.w) X.A X.xe none (EP X pins σ Q) (.ref D) s3.heap.objs.size) s4 := by
    refine compLoop_any (fun n s' => ∃ i H', Inv (X.blk s3 H3 scope ce [it]) [] (wipe σ (own.map (·.2))) H' s' ∧ s'.heap.IsListIter it a i ∧ H' it = none ∧ W i n H') ?_ m0 ⟨0, H3, I4, st4, n3, w0⟩
    rintro n s5 ⟨i, H5, I5, st5, n5, w5⟩
    have F5 := stat I5 n5
    obtain ⟨q0, q1, q2, q3, q4, q5⟩ := id F5
    rcases turn i n H5 w5 with ⟨stop, qq⟩ | ⟨go, Nx, hNx, step⟩
    · obtain ⟨ys, hys, hle⟩ := stop
      obtain ⟨jts, rvj, pj, _⟩ := I5.list hys
      have hotAt : HotAt X.A pe0.1 s5.heap := ⟨hh, pe0.2, v1, I5.base.keep pe0.1 pe0.2 g0 n0 ns0 (by simpa using ni0), e1, c1⟩
      refine list_ends_hot hotAt st5 pj.isList (by have := rvj.length; simp; omega) ni0 fun h' keep => ?_
      have I6 : Inv (X.blk s3 H3 scope ce [it]) [] (wipe σ (own.map (·.2))) H5 { s5 with heap := h' } := I5.turned (t' := s5.toks) keep q0 q1 q3 q4 q5
      have I7 : Inv X pins σ H5 { s5 with heap := h' } := I3.call' (ch := [it]) I6.os I6.base I6.hok I6.bare fun b hb => ⟨(f3 b hb).1.2.2.2.1, (f3 b hb).1.2.1, (f3 b hb).1.2.2.2.2.1, (f3 b hb).1.2.2.2.2.2⟩
      have nC : H5 s3.heap.objs.size = none := by
        have z : H5 ce.locals = none := I6.free
        rwa [cL] at z
      obtain ⟨m, hn, _⟩ := I6.loc
      have hn : h'.Ns ce.locals m := hn
      rw [cL] at hn
      refine ⟨m, hn, fun h'' sb => ?_⟩
      obtain ⟨f0, f1, f2, f3, f4, f5⟩ := I3.fpOk (Nat.le_refl _) nC
      exact ⟨.ref D, H5, I7.turned (t' := s5.toks) (fun b o hb e => (sb.2 b hb).trans e) f0 f1 f3 f4 f5, rfl, qq⟩
    · obtain ⟨ys, x, hys, hx⟩ := go
      obtain ⟨jts, rvj, pj, _⟩ := I5.list hys
      obtain ⟨u, hu, ru⟩ := rvj.get hx
      refine wpAny_pyNext_list_item st5 pj.isList (x := u) (by simpa using hu) fun h' st' sb => ?_
      have I6 : Inv (X.blk s3 H3 scope ce [it]) [] (wipe σ (own.map (·.2))) H5 { s5 with heap := h' } := I5.turned (t' := s5.toks) (fun b o hb e => (sb.2 b hb).trans e) q0 q1 q3 q4 q5
      obtain ⟨oi, ei, ci, di⟩ := id st'
      refine go_of (s := { s5 with heap := h' }) ei ci di (by decide) ?_
      have I7 := I6.pinned (fp := [it]) (fun b hb => by have e : b = it := by simpa using hb
                                                        subst e; exact stat I6 n5) (fun b hb => by
        have e : b = it := by simpa using hb
        subst e
        exact ⟨oi, ei, fun v z => by rw [di] at z; cases z⟩)
      refine thnF (pg.run _ { s5 with heap := h' } _ H5 x u _ I7 ru (step x H5 ⟨rfl, fun zs hzs => by rw [I5.list_inj hzs hys]; exact hx⟩)) fun _ s8 ⟨σ8, H8, I8, hw8, q8⟩ => ?_
      refine thnF (pt.run _ s8 σ8 H8 _ I8 q8) fun b s9 ⟨H9, I9, q9⟩ => ?_
      have fin : ∀ {s' : Shared} {H' : Hp}, Inv (X.blk s3 H3 scope ce [it]) ([] ++ pinsAt [it] h') σ8 H' s' → Nx H' → ∃ m, m < n ∧ ∃ i H', Inv (X.blk s3 H3 scope ce [it]) [] (wipe σ (own.map (·.2))) H' s' ∧ s'.heap.IsListIter it a i ∧ H' it = none ∧ W i m H' := fun {s' H'} I' nx => by
        obtain ⟨m', hm, w'⟩ := hNx H' nx
        have z := I'.pin (it, oi) (List.mem_append_right _ (List.mem_append_right _ (mem_pinsAt (by simp) ei)))
        have hlen : (wipe σ (own.map (·.2))).length = σ8.length := by rw [← hw8, wipe_length]
        refine ⟨m', hm, i + 1, H', (I'.unpinned (pins := [])).weak hlen (fun j v e => ?_), ⟨oi, z.1, ci, di⟩, z.2.1, w'⟩
        rw [← hw8] at e
        exact (wipe_some e).1
      cases b with
      | false =>
        simp only [Bool.false_eq_true, if_false] at q9 ⊢
        exact fin I9 q9
      | true =>
        simp only [if_true] at q9 ⊢
        refine thnF (pe.run _ s9 σ8 H9 _ I9 q9) fun z s10 ⟨yv, H10, I10, r10, acc, hD10, hz10, nx⟩ => ?_
        exact app_ok (X := X.blk s3 H3 scope ce [it]) I10 hD10 hz10 r10 fun s11 I11 => fin I11 nx
  refine codeAny_compStart_list loop ?_
  exact (turn_list (P := X.prog) (w := X.w) (K := X.K) (tg := tg) a it).self X.A 0 _ _ _ st4 loop
end
/-! ### calls whose exceptions are wished for at the caller's slots; methods, makers -/
section
variable {X : Cx} {CX : CXT} {k : Nat} {f C : Addr} {fd : FuncData} {ps : List Str} {sp : Sp} {E : L2.St → XK} {x m : Str} {p pos apos : Pos} {e o : Expr} {es : List Expr} {ta : TE} {t : TA}
/-- what lets nothing out -/
theorem at0 {σ : L2.St} {E' : XK} : PassesAt CX0 X σ E' := fun _ _ _ _ _ _ h => h.elim
/-- no wish at all: the callee raises nothing there -/
theorem atN {σ : L2.St} : PassesAt (L2N.CX X.prog X.w) X σ (fun _ _ _ => False) := fun _ _ _ _ _ _ h => by
  obtain ⟨_, _, _, _, _, _, _, _, _, _, _, _, z⟩ := h
  exact z.elim
theorem runE {pins : List (Addr × Obj)} {σ : L2.St} {H : Hp} {s : Shared} {Q : VK} {us : List Value} {vs : List V} (F : FnOk X.prog X.w X.K X.mg X.base CX k f fd ps sp) (hr : Room k X.A) (hb : Binds X.K fd ps []) (hx : PassesAt CX X σ (E σ))
    (I : Inv X pins σ H s) (r : Vals vs us) (h : sp vs H Q (E σ)) : wpAny (model X.prog X.w) X.A (call (.ref f) us) (EP X pins σ Q) X.xe s := run_fnS F hr hb hx I r h
theorem c_call (F : FnOk X.prog X.w X.K X.mg X.base CX k f fd ps sp) (hr : Room k X.A) (hm : X.mg x = some (.ref f)) (hk : PySem.W.keepIn X.K (.ref f) = true) (hb : Binds X.K fd ps []) (hx : ∀ σ, PassesAt CX X σ (E σ))
    (ha : PA X (e :: es) t) (hg : Gl X x := by rfl) (hdb : (x == ("__debug__" : Str)) = false := by decide) (he : starEach (e :: es) X.env = (false, eval e X.env) :: starEach es X.env := by rfl) (hpl : (backTo pos (starEach es X.env)).any (·.1) = false := by rfl) :
    PE X (.Call (.Name x p) (e :: es) [] pos) (tCallS sp E t) := pe_callS F hr hg hm hk hb hx ha hdb he hpl
/-- o.m(..), of an instance -/
def tMethE (C : Addr) (m : Str) (sp : Sp) (E : L2.St → XK) (ta : TE) (t : TA) : TE := fun σ H Q => ta σ H fun x H1 => ∃ a dx fs, x = .ref a ∧ H1 a = some (.ins C dx fs) ∧ fs.lookup m = none ∧
  t σ H1 fun vs H2 => sp (x :: vs) H2 Q (E σ)
theorem c_meth {pl : Sem Bool} (he : PE X o ta) (c : Cls X.K C) (hm : Meth X.K C m f) (F : FnOk X.prog X.w X.K X.mg X.base CX k f fd ps sp) (hr : Room k X.A) (hb : Binds X.K fd ps []) (hx : ∀ σ, PassesAt CX X σ (E σ)) (ha : PA X (e :: es) t)
    (hst : starEach (e :: es) X.env = (false, eval e X.env) :: starEach es X.env := by rfl) (hpl : (backTo pos (starEach es X.env)).any (·.1) = false := by rfl)
    (ht : eval (.Call (.Attribute o m apos) (e :: es) [] pos) X.env = (do
      let ov ← eval o X.env
      standAt apos.atName
      let (f, first) ← holding [ov] (getMethod ov m pl)
      callWith pos f first (backTo pos (starEach (e :: es) X.env)) (backToKw pos (keywordEach [] X.env))) := by rfl) :
    PE X (.Call (.Attribute o m apos) (e :: es) [] pos) (tMethE C m sp E ta t) := by
  refine ⟨fun pins s σ H Q I h => PySem.W.methodCall_KW (pl := pl) (thn (he.run pins s σ H _ I h) fun u s1 hh => ?_) ht⟩
  obtain ⟨x, H1, I1, rx, a, dx, fs, ex, ea, l, q⟩ := hh
  subst ex
  obtain rfl : u = Value.ref a := rx
  refine getmeth_ok I1 ea c hm l (PySem.W.callWith_K (first := [.ref a]) (h₀ := X.base) I.ok.mod.kin hm.kp (thn (ha.run pos pins s1 σ H1 _ I1 q) fun us s2 hh => ?_) hst hpl)
  obtain ⟨vs, H2, I2, r, q2⟩ := hh
  exact ⟨I2.kIn, runE (us := .ref a :: us) (vs := .ref a :: vs) F hr hb (hx σ) I2 (.cons rfl r) q2⟩
theorem c_meth0 {pl : Sem Bool} (he : PE X o ta) (c : Cls X.K C) (hm : Meth X.K C m f) (F : FnOk X.prog X.w X.K X.mg X.base CX k f fd ps sp) (hr : Room k X.A) (hb : Binds X.K fd ps []) (hx : ∀ σ, PassesAt CX X σ (E σ))
    (ht : eval (.Call (.Attribute o m apos) [] [] pos) X.env = (do
      let ov ← eval o X.env
      standAt apos.atName
      let (f, first) ← holding [ov] (getMethod ov m pl)
      callWith pos f first (backTo pos (starEach [] X.env)) (backToKw pos (keywordEach [] X.env))) := by rfl) :
    PE X (.Call (.Attribute o m apos) [] [] pos) (tMethE C m sp E ta tNil) := by
  refine ⟨fun pins s σ H Q I h => PySem.W.methodCall_KW (pl := pl) (thn (he.run pins s σ H _ I h) fun u s1 hh => ?_) ht⟩
  obtain ⟨x, H1, I1, rx, a, dx, fs, ex, ea, l, q⟩ := hh
  subst ex
  obtain rfl : u = Value.ref a := rx
  exact getmeth_ok I1 ea c hm l (PySem.W.callWith_K0 (first := [.ref a]) I1.kIn hm.kp (runE (us := [.ref a]) (vs := [.ref a]) F hr hb (hx σ) I1 (.cons rfl .nil) q))
/-- C(..) -/
def tMakeE (C : Addr) (sp : Sp) (E : L2.St → XK) (t : TA) : TE := fun σ H Q => t σ H fun vs H1 => ∀ x dx, H1 x = none → H1 dx = none → dx ≠ x →
  sp (.ref x :: vs) (upd (upd H1 dx (.own x)) x (.ins C dx [])) (fun v H2 => v = .non ∧ Q (.ref x) H2) (E σ)
theorem run_makeE {pins : List (Addr × Obj)} {σ : L2.St} {H : Hp} {s : Shared} {Q : VK} {us : List Value} {vs : List V} (M : Mk X.K C f) (F : FnOk X.prog X.w X.K X.mg X.base CX k f fd ps sp) (hr : Room (k + 1) X.A) (hb : Binds X.K fd ps [])
    (hx : PassesAt CX X σ (E σ)) (I : Inv X pins σ H s) (r : Vals vs us)
    (h : ∀ x dx, H x = none → H dx = none → dx ≠ x → sp (.ref x :: vs) (upd (upd H dx (.own x)) x (.ins C dx [])) (fun v H2 => v = .non ∧ Q (.ref x) H2) (E σ)) :
    wpAny (model X.prog X.w) X.A (call (.ref C) us) (EP X pins σ Q) X.xe s := by
  have hq := h (s.heap.objs.size + 1) s.heap.objs.size (I.hok.fresh (Nat.le_succ _)) (I.hok.fresh (Nat.le_refl _)) (Nat.ne_of_lt (Nat.lt_succ_self _))
  have I2 := Inv.made (C := C) I
  have r2 : Vals (V.ref (s.heap.objs.size + 1) :: vs) (Value.ref (s.heap.objs.size + 1) :: us) := .cons rfl r
  have hl : (Value.ref (s.heap.objs.size + 1) :: us ++ []).length = ps.length := by
    rw [List.append_nil, ← r2.length, F.len _ _ _ _ hq]
  have hb2 := hb _ (Value.ref (s.heap.objs.size + 1) :: us) I2.kIn hl
  rw [List.append_nil] at hb2
  refine wpAny_call (make_map (f := f) I.kIn M.makes M.init (beq_iff_eq.mp M.fn) (codeAny_mono (F.run _ X.stack _ _ ⟨Value.ref (s.heap.objs.size + 1) :: us, []⟩ (Value.ref (s.heap.objs.size + 1) :: us) _ _ (E σ) (hr.make C us [])
    (I2.env0.make C us []) hb2 r2 hq) fun r s' hq' => ?_))
  match r, hq' with
  | .error e, hq' => exact hx pins _ _ e s' I2 hq'
  | .ok (.ret u), hq' =>
    obtain ⟨v, H', I3, rv, ev, q3⟩ := I2.after hq'
    subst ev
    exact ⟨rv, ⟨V.ref (s.heap.objs.size + 1), H', I3, rfl, q3⟩⟩
  | .ok .next, hq' => exact False.elim hq'
  | .ok .brk, hq' => exact False.elim hq'
  | .ok .cont, hq' => exact False.elim hq'
theorem c_make (M : Mk X.K C f) (F : FnOk X.prog X.w X.K X.mg X.base CX k f fd ps sp) (hr : Room (k + 1) X.A) (hm : X.mg x = some (.ref C)) (hb : Binds X.K fd ps []) (hx : ∀ σ, PassesAt CX X σ (E σ))
    (ha : PA X (e :: es) t) (hg : Gl X x := by rfl) (hdb : (x == ("__debug__" : Str)) = false := by decide) (he : starEach (e :: es) X.env = (false, eval e X.env) :: starEach es X.env := by rfl) (hpl : (backTo pos (starEach es X.env)).any (·.1) = false := by rfl) :
    PE X (.Call (.Name x p) (e :: es) [] pos) (tMakeE C sp E t) := by
  refine ⟨fun pins s σ H Q I h => wpAny_Call_Name_kw (ld_glob I hg hm ?_ hdb)⟩
  refine PySem.W.callWith_K (h₀ := X.base) I.ok.mod.kin M.kp (thn (ha.run pos pins s σ H _ I h) fun us s1 ⟨vs, H1, I1, r, q⟩ => ⟨I1.kIn, ?_⟩) he hpl
  exact run_makeE M F hr hb (hx σ) I1 r q
theorem c_make0 (M : Mk X.K C f) (F : FnOk X.prog X.w X.K X.mg X.base CX k f fd ps sp) (hr : Room (k + 1) X.A) (hm : X.mg x = some (.ref C)) (hb : Binds X.K fd ps []) (hx : ∀ σ, PassesAt CX X σ (E σ))
    (hg : Gl X x := by rfl) (hdb : (x == ("__debug__" : Str)) = false := by decide) : PE X (.Call (.Name x p) [] [] pos) (tMakeE C sp E tNil) := by
  refine ⟨fun pins s σ H Q I h => wpAny_Call_Name_kw (ld_glob I hg hm ?_ hdb)⟩
  exact PySem.W.callWith_K0 I.kIn M.kp (run_makeE (us := []) M F hr hb (hx σ) I .nil h)
end
/-- a def that may raise, raised where nothing is handled -/
theorem okN {P : Program} {w : World} {K : PySem.W.Frag} {mg : Str → Option Value} {base : Heap} {x qual : Str} {st : Stmt} {f : Addr} {fd : FuncData} {N ps : List Str} {k : Nat} {sp : Sp} (F : Fun K x qual st f fd) (S : FnScope N ps (defScope st)) (len : ∀ vs H Q E, sp vs H Q E → vs.length = ps.length)
    (hbody : ∀ (cdv : Value) (A : Around) (outer : List Env) (s : Shared) (H : Hp) (vs : List V) (Q : VK) (E : XK), Room k (A.deeper (envOfC qual (defScope st) s.heap.objs.size f cdv)) → sp vs H Q E →
      ∃ t, PSs (cxOf (L2N.CX P w) P w K mg base N qual (defScope st) f cdv A outer s H E) (defBody st) t ∧ t { nx := fun _ H' => Q .non H', rt := Q } (start N vs) H) : FnOk P w K mg base (L2N.CX P w) (k + 1) f fd ps sp := by
  obtain ⟨oc, od, kV, doc, pm, an, cdv, ct, osl, rfl, lk, hcd⟩ := F.ex
  exact fn_of lk hcd S len fun A outer s H vs Q E hr hsp => hbody cdv A outer s H vs Q E hr hsp
/-! ### a def called in an except suite with the exception that is handled -/
/-- what is told of the exception: where it stands, its class, its own dict -/
abbrev SpE := Addr → Value → Option Addr → Sp
structure FnE (P : Program) (w : World) (K : PySem.W.Frag) (mg : Str → Option Value) (base : Heap) (k : Nat) (f : Addr) (fd : FuncData) (ps : List Str) (sp : SpE) : Prop where
  len : ∀ a c d vs H Q E, sp a c d vs H Q E → vs.length = ps.length
  run : ∀ (A : Around) (outer : List Env) (s : Shared) (H : Hp) (args : Args) (us : List Value) (vs : List V) (Q : VK) (E : XK) (p : Addr × Obj) (c : Value) (d : Option Addr), L2H.RoomH k A → L2H.Hot1 A p → Zc c d p.2 → L2H.PinOk outer H s p → Env0 P w K mg base A outer s H → BindsTo s fd args (ps.zip us) → Vals vs us → sp p.1 c d vs H Q E →
    codeAny (model P w) A (.call (.ref f) args) (CR CX0 outer P w H s Q E) s
theorem fnE_of {P : Program} {w : World} {K : PySem.W.Frag} {mg : Str → Option Value} {base : Heap} {x qual : Str} {st : Stmt} {f : Addr} {fd : FuncData} {N ps : List Str} {k : Nat} {sp : SpE} (F : Fun K x qual st f fd) (S : FnScope N ps (defScope st))
    (len : ∀ a c d vs H Q E, sp a c d vs H Q E → vs.length = ps.length)
    (hbody : ∀ (cdv : Value) (A : Around) (outer : List Env) (s : Shared) (H : Hp) (vs : List V) (Q : VK) (E : XK) (p : Addr × Obj) (c : Value) (d : Option Addr), L2H.Hot1 (A.deeper (envOfC qual (defScope st) s.heap.objs.size f cdv)) p → Zc c d p.2 → L2H.RoomH k (A.deeper (envOfC qual (defScope st) s.heap.objs.size f cdv)) → sp p.1 c d vs H Q E →
      ∃ t, PSs (L2H.cxH CX0 P w K mg base N qual (defScope st) f cdv A outer s H E p) (defBody st) t ∧ t { nx := fun _ H' => Q .non H', rt := Q } (L2.start N vs) H) :
    FnE P w K mg base (k + 1) f fd ps sp := by
  obtain ⟨oc, od, kV, doc, pm, an, cdv, ct, osl, rfl, lk, hcd⟩ := F.ex
  refine ⟨len, fun A outer s H args us vs Q E p c d hr hot hz hpin e0 hb r hsp => ?_⟩
  have hl := len _ _ _ _ _ _ _ hsp
  have KX : K.In s.heap := e0.mod.kin.keeps fun b o e => (e0.bs b o e).1
  have lim : s.heap.NoLimit := e0.mod.nolimit.keeps fun b o e => (e0.bs b o e).1
  have hkind : ∀ y ∈ ps.zip us, (defScope st).names.lookup y.1 = some .local ∨ ((defScope st).names.lookup y.1 = some .cell ∧ ((cellsFrom (s.heap.objs.size + 1) (defScope st).names []).lookup y.1).isSome = true) := fun ⟨n, v⟩ hy =>
    (S.par n (List.of_mem_zip hy).1).elim .inl fun q => .inr ⟨q, PySem.W.cellsFrom_some _ _ _ (.inl q)⟩
  refine codeAny_call_function hr.depth (KX _ _ lk) rfl S.co S.gen rfl (PySem.W.codeRec_of KX hcd) (hb _ _ _ _ (wpAny_newFunctionEnv_cells S.kind hkind fun env he s1 x => ?_))
  subst he
  refine ⟨lim.keeps x.toInCall.keep, codeAny_func ?_⟩
  obtain ⟨t, ht, hq⟩ := hbody cdv A outer s H vs Q E p c d hot hz (hr.deeper _) hsp
  have I : Inv (L2H.cxH CX0 P w K mg base N qual (defScope st) f cdv A outer s H E p) [] (L2.start N vs) H s1 := L2H.inv_startH S hpin e0 hl r x
  refine wpAny_mono (ht.run [] s1 (L2.start N vs) H _ I hq) (fun fl s' hs => ?_) fun e s' hs => hs
  match fl, hs with
  | .ret u, ⟨v, σ', H', J, rv, q⟩ => exact ⟨v, H', J.os, J.bare, J.base, J.hok, rv, q⟩
  | .next, ⟨σ', H', J, q⟩ => exact ⟨V.non, H', J.os, J.bare, J.base, J.hok, rfl, q⟩
  | .brk, ⟨_, _, _, q⟩ => exact False.elim q
  | .cont, ⟨_, _, _, q⟩ => exact False.elim q
section
variable {X : Cx} {k : Nat} {f : Addr} {fd : FuncData} {ps : List Str} {sp : SpE} {x : Str} {q pos : Pos} {e : Expr} {es : List Expr} {t : TA}
def tCallE (sp : SpE) (a : Addr) (c : Value) (d : Option Addr) (t : TA) : TE := fun σ H Q => t σ H fun vs H1 => sp a c d vs H1 Q (fun _ _ _ => False)
theorem c_callE {a : Addr} {oe : Obj} {c : Value} {d : Option Addr} (F : FnE X.prog X.w X.K X.mg X.base k f fd ps sp) (hr : L2H.RoomH k X.A) (hh : X.A.handled = some (.ref a)) (hp : (a, oe) ∈ X.pn) (hz : L2N.Zn c d oe) (hf : ∃ vs, oe.data = .fields vs)
    (hm : X.mg x = some (.ref f)) (hk : PySem.W.keepIn X.K (.ref f) = true) (hb : Binds X.K fd ps [])
    (ha : PA X (e :: es) t) (hg : Gl X x := by rfl) (hdb : (x == ("__debug__" : Str)) = false := by decide) (he : starEach (e :: es) X.env = (false, eval e X.env) :: starEach es X.env := by rfl) (hpl : (backTo pos (starEach es X.env)).any (·.1) = false := by rfl) :
    PE X (.Call (.Name x q) (e :: es) [] pos) (tCallE sp a c d t) := by
  refine ⟨fun pins s σ H Q I h => wpAny_Call_Name_kw (ld_glob I hg hm ?_ hdb)⟩
  refine PySem.W.callWith_K (h₀ := X.base) I.ok.mod.kin hk (thn (ha.run pos pins s σ H _ I h) fun us s1 ⟨vs, H1, I1, r, q⟩ => ⟨I1.kIn, ?_⟩) he hpl
  obtain ⟨v1, hv1⟩ := hf
  have hot : L2H.Hot1 X.A (a, oe) := ⟨hh, v1, hv1, hz.2.2 v1 hv1⟩
  have hl : us.length = ps.length := by rw [← r.length]; exact F.len _ _ _ _ _ _ _ q
  have b := hb s1 us I1.kIn (by rw [List.append_nil]; exact hl)
  rw [List.append_nil] at b
  have P1 := I1.pin (a, oe) (List.mem_append_left _ hp)
  have hpin : L2H.PinOk X.stack H1 s1 (a, oe) := ⟨P1.1, P1.2.1, fun hm => (List.mem_cons.mp (I1.stkSub a hm)).elim P1.2.2.1 P1.2.2.2.1, P1.2.2.2.2⟩
  refine wpAny_call (codeAny_mono (F.run X.A X.stack s1 H1 ⟨us, []⟩ us vs Q (fun _ _ _ => False) (a, oe) c d hr hot hz.zc hpin I1.env0 b r q) fun r s' hq => ?_)
  match r, hq with
  | .error e, hq => exact False.elim hq
  | .ok (.ret u), hq => exact I1.after hq
  | .ok .next, hq => exact False.elim hq
  | .ok .brk, hq => exact False.elim hq
  | .ok .cont, hq => exact False.elim hq
/-- isinstance(e, c), e an exception that every state bears -/
theorem call_isP {a D : Addr} {oe : Obj} (C : ExcC X.K D) (hp : (a, oe) ∈ X.pn) (hz : Zc (.ref D) none oe) (hf : ∃ vs, oe.data = .fields vs) : CallR X (.builtin "isinstance") (rIsE X.K D a) := by
  intro pins s σ H xs us Q I r h
  obtain ⟨c, cv, b, rfl, hcv, e, q⟩ := h
  cases r with
  | cons rx rr =>
    cases rr with
    | cons rt rr =>
      cases rr
      cases rx
      have ec := hcv _ rt
      subst ec
      obtain ⟨hget, _⟩ := I.pin (a, oe) (List.mem_append.mpr (.inl hp))
      obtain ⟨vs, hv⟩ := hf
      have J : PySem.W.InstAt s.heap a oe D none := by
        obtain ⟨oc, od, oda, osl⟩ := oe
        obtain ⟨h1, h2⟩ := hz
        dsimp only at h1 h2 hv
        subst h1 h2 hv
        exact ⟨hget, rfl, rfl, trivial⟩
      exact PySem.W.kia_one (PySem.W.handS_kitx_exc C.hg C.hk C.hs C.hd C.ha C.hn C.ht C.hm) I.kIn J e (fun z => nomatch z) fun tk => ⟨.bl b, H, I.kept (t' := tk) fun _ _ z => z, rfl, q⟩
end
/-! ### list(reversed(xs)) -/
section
variable {prog : Program} {w : World} {A : Around} {E : Value → Shared → Prop} {s : Shared}
theorem call_list_rev {it l : Addr} {items : Array Value} {Q : Value → Shared → Prop} (hh : A.handled = none) (hit : s.heap.IsRevIter it l ((items.size : Int) - 1)) (hl : s.heap.IsList l items) (hne : l ≠ it) (hn : items.size ≤ sizeLine)
    (hQ : ∀ (h' : Heap) (tk : Nat) (acc : Array Value) (c : Nat), (∀ b o, b ≠ it → s.heap.get? b = some o → h'.get? b = some o) → h'.get? s.heap.objs.size = some { cls := .type "list", data := .seq acc c } →
      ItemsOf (fun i v => items[items.size - 1 - i]? = some v) acc items.size → Q (.ref s.heap.objs.size) { s with heap := h', toks := tk }) :
    wpAny (model prog w) A (call (.type "list") [.ref it]) Q E s := by
  refine callType_codes (Q₁ := fun obj s₁ => obj = .ref s.heap.objs.size ∧ s₁ = { s with heap := s.heap.push { cls := .type "list", data := .seq #[] } }) F.called_list (F.typeCall_list_1 _) F.entry_list_init
    (code_list_new _ ⟨rfl, rfl⟩) fun obj s₁ h₁ => ?_
  obtain ⟨rfl, rfl⟩ := h₁
  have hS : (s.heap.push { cls := .type "list", data := .seq #[] }).get? s.heap.objs.size = some { cls := .type "list", data := .seq #[] } := Heap.get?_push_size _ rfl
  refine ⟨⟨_, hS, rfl⟩, F.args_list_init_2 _ _, ?_⟩
  generalize hSe : s.heap.objs.size = S at hS ⊢
  obtain ⟨oi, hoi, _⟩ := id hit
  obtain ⟨ol, hol, _⟩ := id hl
  have hSi : S ≠ it := by rw [← hSe]; exact Nat.ne_of_gt (Heap.lt_size hoi)
  have hSl : S ≠ l := by rw [← hSe]; exact Nat.ne_of_gt (Heap.lt_size hol)
  have hSf : S ∉ [it, l] := by simp only [List.mem_cons, List.not_mem_nil, or_false, not_or]; exact ⟨hSi, hSl⟩
  show wpAny _ _ (do let old ← Builtin.List.listItems (.ref S); Builtin.List.listUpdate (.ref S) (fun _ => #[]); letGo old.toList.reverse; Builtin.List.listExtendWith (.ref S) (.ref it) .none) _ _ _
  refine wpAny_bind ?_
  unfold Builtin.List.listItems
  refine wpAny_bind (wpAny_seqItems hS rfl (wpAny_pure ?_))
  show wpAny _ _ (updateSeq S (fun _ => #[]) >>= fun _ => letGo (#[] : Array Value).toList.reverse >>= fun _ => Builtin.List.listExtendWith (.ref S) (.ref it) .none) _ _ _
  refine wpAny_bind (wpAny_updateSeq hS rfl ?_)
  have hS₂ := Heap.get?_update_self (Obj.mapSeq (fun _ => (#[] : Array Value))) hS rfl
  have oth : ∀ b o, b ≠ S → s.heap.get? b = some o → ((s.heap.push { cls := .type "list", data := .seq #[] }).update S (Obj.mapSeq (fun _ => (#[] : Array Value)))).get? b = some o :=
    fun b o hb e => (Heap.get?_update_other _ _ (Ne.symm hb)).trans (Heap.get?_push_of_some _ e)
  generalize hh2 : (s.heap.push { cls := .type "list", data := .seq #[] }).update S (Obj.mapSeq (fun _ => (#[] : Array Value))) = h2 at hS₂ oth ⊢
  refine wpAny_bind (wpAny_letGo ?_)
  have hit1 : h2.IsRevIter it l ((items.size : Int) - 1) := hit.at fun o e => oth it o (Ne.symm hSi) e
  have hl1 : h2.IsList l items := by
    obtain ⟨o, a, b, c, d⟩ := hl
    exact ⟨o, oth l o (Ne.symm hSl) a, b, c, d⟩
  have hT : ({ s with heap := h2 } : Shared).TypeIs (.ref it) "list_reverseiterator" := Heap.IsRevIter.typeIs (s := { s with heap := h2 }) hit1
  have h1 : Builtin.List.listSameRef (.ref S) (.ref it) = false := by simp [Builtin.List.listSameRef, hSi]
  have W := (Walks.listRev (prog := prog) (w := w) (A := A.in1.in1) hh it l hne items).toS
  unfold Builtin.List.listExtendWith
  refine wpAny_bind (wpAny_typeOf hT ?_)
  rw [if_neg (by rw [h1]; decide)]
  refine wpAny_bind (wpAny_pyIter_revIter (s := { s with heap := h2 }) hit1 ?_)
  refine wpAny_bind (wpAny_holding ?_)
  unfold Builtin.List.listLengthHint
  refine wpAny_bind (wpAny_specialOf hT RT.nolen_lri ?_)
  show wpAny _ _ (specialOf (Value.ref it) (Str.ofString "__length_hint__") >>= _) _ _ _
  refine wpAny_bind (wpAny_specialOf hT RT.hint_lri ?_)
  generalize hid : ("list_reverseiterator.__length_hint__" : String) = id0
  wp_delta
  rw [show splitId id0 = some ("list_reverseiterator", "__length_hint__") from by subst hid; decide +kernel]
  subst hid
  refine wpAny_bind (wpAny_isInstance (b := true) hT (by rw [isSubtype_type]; kernel_rfl) ?_)
  refine wpAny_pure ?_
  rw [if_neg (by decide)]
  have e0 : ((items.size : Nat) : Int) - 1 - ((0 : Nat) : Int) = (items.size : Int) - 1 := by omega
  refine wpAny_pure ⟨plainId_quiet F.plain_extend_loop _, codeAny_extend_loopS W hn _ hSf _ items.size 0 _ _ _ rfl (Nat.zero_le _) ⟨Nat.zero_le _, by rw [e0]; exact hit1, hl1⟩ hS₂ (ItemsOf.nil _) fun s' acc' c' hm hS' hacc => ?_⟩
  refine ⟨rfl, ?_⟩
  rw [Moved.eq_with hm]
  have goal := hQ s'.heap s'.toks acc' c' (fun b o hb e => hm.heap b o (fun hmem => ?_) (oth b o (by rw [← hSe]; exact Nat.ne_of_lt (Heap.lt_size e)) e)) (by rw [hSe]; exact hS') hacc
  · rw [hSe] at goal
    exact goal
  · rcases List.mem_cons.mp hmem with e' | hmem
    · exact absurd (Heap.lt_size e) (by rw [e', ← hSe]; exact Nat.lt_irrefl _)
    · exact hb (List.mem_singleton.mp hmem)
end
section
variable {X : Cx}
def tListRev (K : PySem.W.Frag) (te : TE) : TE := fun σ H Q => te σ H fun v H1 => ∃ (a : Addr) (xs : List V), v = .ref a ∧ SqL K H1 a xs ∧ ∀ q, H1 q = none → Q (.ref q) (upd H1 q (.lst xs.reverse))
theorem pe_listRev {e : Expr} {te : TE} {p p2 pos pos2 : Pos} (hc : X.calm = true) (hm : X.mg "list" = none) (hm2 : X.mg "reversed" = none) (he : PE X e te) (hg : Gl X "list" := by rfl) (hg2 : Gl X "reversed" := by rfl)
    (hs : starEach [e] X.env = (false, eval e X.env) :: starEach [] X.env := by rfl)
    (hs2 : starEach [.Call (.Name "reversed" p2) [e] [] pos2] X.env = (false, eval (.Call (.Name "reversed" p2) [e] [] pos2) X.env) :: starEach [] X.env := by rfl) :
    PE X (.Call (.Name "list" p) [.Call (.Name "reversed" p2) [e] [] pos2] [] pos) (tListRev X.K te) := by
  refine ⟨fun pins s σ H Q I h => ?_⟩
  refine Call_ (ld_blt I hg hm boot_list (PyProof.Rows.callWith_type1 (args_cons (Call_ (ld_blt I hg2 hm2 PyProof.Rows.boot_reversed (PyProof.Rows.callWith_type1 (args_cons (thn (he.run pins s σ H _ I h) fun u s1 hh => args_nil ?_) hs) hs rfl))) hs2) hs2 rfl))
  obtain ⟨v, H1, I1, r1, a, xs, ev, hq, q⟩ := hh
  subst ev
  obtain rfl : u = Value.ref a := r1
  obtain ⟨its, rv, p', hz⟩ := I1.list hq
  refine call_reversed_list p'.isList (args_nil ?_)
  have k0 : ∀ b o, s1.heap.get? b = some o → (s1.heap.push (revObj a ((its.toArray.size : Int) - 1))).get? b = some o := fun b o e => Heap.get?_push_of_some _ e
  have I2 : Inv X pins σ H1 { s1 with heap := s1.heap.push (revObj a ((its.toArray.size : Int) - 1)) } := I1.kept (t' := s1.toks) k0
  obtain ⟨f0, f1, f2, f3, f4, f5⟩ := I1.fpOk (H' := H1) (b := s1.heap.objs.size) (Nat.le_refl _) (I1.hok.fresh (Nat.le_refl _))
  have hl := p'.isList
  obtain ⟨ol, hol, _⟩ := id hl
  have hne : a ≠ s1.heap.objs.size := Nat.ne_of_lt (Heap.lt_size hol)
  have hn : its.toArray.size ≤ sizeLine := by rw [List.size_toArray, ← rv.length]; exact hz
  refine call_list_rev (s := { s1 with heap := s1.heap.push (revObj a ((its.toArray.size : Int) - 1)) }) (I1.ok.hd hc) ⟨_, Heap.get?_push_size _ rfl, rfl, rfl⟩ (hl.push _) hne hn fun h' tk acc c hk hS hi => ?_
  have hle : s1.heap.objs.size ≤ (s1.heap.push (revObj a ((its.toArray.size : Int) - 1))).objs.size := by rw [Heap.size_push]; exact Nat.le_succ _
  generalize hS1 : (s1.heap.push (revObj a ((its.toArray.size : Int) - 1))).objs.size = S at hS hle ⊢
  refine ⟨.ref S, upd H1 S (.lst xs.reverse), I1.laid (t' := tk) (h' := h') (fun b o e => hk b o (Nat.ne_of_lt (Heap.lt_size e)) (k0 b o e)) hle (show ObjOk X.prog X.w _ _ _ (.lst xs.reverse) from ⟨by rw [List.length_reverse]; exact hz, acc.toList, c, RT.vals_rev rv hi, ?_⟩), rfl, q _ (I1.hok.fresh hle)⟩
  rw [Array.toArray_toList]
  exact hS
end
/-! ### readings under names of their own -/
def rISub : R2 := rI0 fun i j => .int (i - j)
def rIMod : R2 := rI (fun _ j => 0 < j) fun i j => .int (i % j)
def rIDiv : R2 := rI CDiv fun i j => .int (i / j)
def rIPow : R2 := rI CPow fun i j => .int (i ^ j.toNat)
def rINeg : V → Hp → VK → Prop := rU fun i => .int (-i)
def rAbs : List V → Hp → VK → Prop := fun xs H Q => ∃ i, xs = [.int i] ∧ Q (.int (if i < 0 then -i else i)) H
def rMax2 : List V → Hp → VK → Prop := fun xs H Q => ∃ i j, xs = [.int i, .int j] ∧ Q (.int (if j > i then j else i)) H
def rMin2 : List V → Hp → VK → Prop := fun xs H Q => ∃ i j, xs = [.int i, .int j] ∧ Q (.int (if j < i then j else i)) H
def rInt : List V → Hp → VK → Prop := fun xs H Q => (∃ i, xs = [.int i] ∧ Q (.int i) H) ∨ ∃ k, xs = [.bl k] ∧ Q (.int (if k then 1 else 0)) H
def rTupleOf (K : PySem.W.Frag) : List V → Hp → VK → Prop := fun xs H Q => ∃ p ys, xs = [.ref p] ∧ ((SqL K H p ys ∧ ∀ l, H l = none → Q (.ref l) (upd H l (.tup ys))) ∨ (SqT K H p ys ∧ Q (.ref p) H))
def rListOf (K : PySem.W.Frag) : List V → Hp → VK → Prop := fun xs H Q => ∃ p ys, xs = [.ref p] ∧ (SqL K H p ys ∨ SqT K H p ys) ∧ ∀ l, H l = none → Q (.ref l) (upd H l (.lst ys))
def rInsert : V → List V → Hp → VK → Prop := fun x vs H Q => ∃ (l : Addr) (xs : List V) (i : Int) (y : V), x = .ref l ∧ vs = [.int i, y] ∧ H l = some (.lst xs) ∧ xs.length < sizeLine ∧ 0 ≤ i ∧ i < 2 ^ 63 ∧ Q .non (upd H l (.lst (xs.take i.toNat ++ [y] ++ xs.drop i.toNat)))
def uLen (K : PySem.W.Frag) : List V → Hp → VK → Prop := fun xs H Q => ∃ x n, xs = [x] ∧ LenV K x H n ∧ Q (.int n) H
def uAdd (K : PySem.W.Frag) : R2 := fun x y H Q => rI0 (fun i j => .int (i + j)) x y H Q ∨ (∃ i j, x = .str i ∧ y = .str j ∧ i.length + j.length ≤ sizeLine ∧ Q (.str (i ++ j)) H) ∨ rCat x y H Q ∨ rCatA K x y H Q
def uMul : R2 := fun x y H Q => rI CMul (fun i j => .int (i * j)) x y H Q ∨ rRep x y H Q
def uEq (K : PySem.W.Frag) : R2 := fun x y H Q => rEq x y H Q ∨ rEqD K x y H Q
def uNe (K : PySem.W.Frag) : R2 := fun x y H Q => rNe x y H Q ∨ rNeD K x y H Q
def uLt (_ : PySem.W.Frag) : R2 := rI0 fun i j => .bl (decide (i < j))
def uLe (_ : PySem.W.Frag) : R2 := rI0 fun i j => .bl (decide (i ≤ j))
def uGt (_ : PySem.W.Frag) : R2 := rI0 fun i j => .bl (decide (j < i))
def uGe (_ : PySem.W.Frag) : R2 := rI0 fun i j => .bl (decide (j ≤ i))
def uIs : R2 := fun x y H Q => y = .non ∧ Q (.bl (decide (x = .non))) H
def uIsNot : R2 := fun x y H Q => y = .non ∧ Q (.bl (!decide (x = .non))) H
def uIn (K : PySem.W.Frag) : R2 := fun x y H Q => rIn K false x y H Q ∨ rInD K x y H Q
def uNotIn (K : PySem.W.Frag) : R2 := fun x y H Q => rIn K true x y H Q ∨ rNotInD K x y H Q
def uSl (K : PySem.W.Frag) : V → Option Int → Option Int → Hp → VK → Prop := fun x lo hi H Q => rSlL K x lo hi H Q ∨ rSlA K x lo hi H Q
def tTru (K : PySem.W.Frag) (ta : TE) : TT := fun σ H Q => ta σ H fun x H' => ∃ k, TruV K x H' k ∧ Q k H'
def tRaiseN (W : WX) (C : Addr) : TS := fun _ σ H => W (.ref C) none σ H
def tTryAs (K : PySem.W.Frag) (c : Value) (i : Nat) (tb : WX → TS) (ts : Addr → Value → Option Addr → TS) (Wout : WX) : TS := fun D σ H => tb (wAs K c i ts Wout D) D σ H
section
variable {X : Cx}
theorem u_len : CallR X (.builtin "len") (uLen X.K) := call_len
theorem u_add : OpR X (binaryOp .Add) (uAdd X.K) := op_add.or (op_add_str.or (op_cat.or op_catA))
theorem u_mul : OpR X (binaryOp .Mult) uMul := op_mul.or op_rep
theorem u_eq {k : Nat} (hr : Room k X.A) : OpR X (compareOp .Eq) (uEq X.K) := op_eq.or (op_eqD hr.units)
theorem u_ne {k : Nat} (hr : Room k X.A) : OpR X (compareOp .NotEq) (uNe X.K) := op_ne.or (op_neD hr.units)
theorem u_lt : OpR X (compareOp .Lt) (uLt X.K) := op_lt
theorem u_le : OpR X (compareOp .LtE) (uLe X.K) := op_le
theorem u_gt : OpR X (compareOp .Gt) (uGt X.K) := op_gt
theorem u_ge : OpR X (compareOp .GtE) (uGe X.K) := op_ge
theorem u_is : OpR X (compareOp .Is) uIs := op_isN
theorem u_isnot : OpR X (compareOp .IsNot) uIsNot := op_notN
theorem room65 {k : Nat} {A : Around} (hr : Room k A) : A.units + 65 < cLine := by have := hr.un; omega
theorem u_in {k : Nat} (hr : Room k X.A) : OpR X (compareOp .In) (uIn X.K) := op_in_seq.or (op_inD (room65 hr))
theorem u_notin {k : Nat} (hr : Room k X.A) : OpR X (compareOp .NotIn) (uNotIn X.K) := op_notIn_seq.or (op_notInD (room65 hr))
theorem u_sl : SlR X (uSl X.K) := sl_list.or sl_tupA
theorem u_eqH {k : Nat} (hr : L2H.RoomH k X.A) : OpR X (compareOp .Eq) (uEq X.K) := op_eq.or (op_eqD (by have := hr.un; omega))
theorem pt_tru {a : Expr} {ta : TE} (ha : PE X a ta) (he : ∀ whole, isTrue a X.env whole = (do let v ← whole; standAt a.pos; holding [v] (truthy v)) := by intro _; rfl) : PT X a (tTru X.K ta) := pt_truth ha he
theorem takesN0 : L2N.Takes X (fun _ _ _ _ => False) := fun _ _ h => by
  obtain ⟨_, _, _, _, _, _, _, _, _, _, _, _, _, _, _, _, z⟩ := h
  exact z.elim
theorem tkN {E : XK} (hs : X.stack = X.env :: X.outer) (hf : X.env.frame = some X.env.locals) (hex : X.ex = []) {E₁ : Value → Shared → Prop}
    (hx : X.xe = fun e s' => wpAny (model X.prog X.w) X.A (leaving X.env e) (fun _ s'' => L2N.CX X.prog X.w X.outer X.H_0 X.s_0 E e s'') E₁ s') : L2N.Takes X (fun cls d _ H => E cls d H) := L2N.takes_of hs hf hex hx
end
/-! ### what the top has written, def by def -/
structure FnAt (K : PySem.W.Frag) (mg : Str → Option Value) (x : Str) (st : Stmt) (ps : List Str) where
  a : Addr
  fd : FuncData
  F : Fun K x x st a fd
  b : Binds K fd ps []
  g : mg x = some (.ref a)
structure MeAt (K : PySem.W.Frag) (C : Addr) (x qual : Str) (st : Stmt) (ps : List Str) where
  a : Addr
  fd : FuncData
  F : Fun K x qual st a fd
  b : Binds K fd ps []
  m : Meth K C x a
structure InAt (K : PySem.W.Frag) (mg : Str → Option Value) (C : Addr) (x qual : Str) (st : Stmt) (ps : List Str) where
  a : Addr
  fd : FuncData
  F : Fun K "__init__" qual st a fd
  b : Binds K fd ps []
  made : Mk K C a
  cl : Cls K C
  g : mg x = some (.ref C)
/-- an exception's class -/
structure ExAt (K : PySem.W.Frag) (mg : Str → Option Value) (x : Str) (C : Addr) : Prop where
  ex : PySem.W.excIn K C [.type "ValueError", .type "Exception", .type "BaseException", .type "object"] "ValueError.__new__" = true
  g : mg x = some (.ref C)
  k : PySem.W.keepIn K (.ref C) = true
  b : PySem.W.subIn K (.ref C) (.type "BaseException") = some true
  t : PySem.W.typeIn K (.ref C) = some (.type "type")
  e : ExcC K C
structure CoAt (K : PySem.W.Frag) (mg : Str → Option Value) (x : Str) (v : V) : Prop where
  ex : ∃ u, mg x = some u ∧ RelV v u
/-! ### readings that reckon: by cases of what stands, so that simp goes through them -/
section
variable {X : Cx}
theorem peI {e : Expr} {t u : TE} (h : PE X e t) (i : ∀ σ H Q, u σ H Q → t σ H Q) : PE X e u := ⟨fun pins s σ H Q I q => h.run pins s σ H Q I (i σ H Q q)⟩
theorem ptI {e : Expr} {t u : TT} (h : PT X e t) (i : ∀ σ H Q, u σ H Q → t σ H Q) : PT X e u := ⟨fun pins s σ H Q I q => h.run pins s σ H Q I (i σ H Q q)⟩
theorem psI {e : Stmt} {t u : TS} (h : PS X e t) (i : ∀ D σ H, u D σ H → t D σ H) : PS X e u := ⟨fun pins s σ H D I q => h.run pins s σ H D I (i D σ H q)⟩
theorem pgI {e : Expr} {t u : TG} (h : PG X e t) (i : ∀ v σ H Q, u v σ H Q → t v σ H Q) : PG X e u := ⟨fun pins s σ H v w Q I r q => h.run pins s σ H v w Q I r (i v σ H Q q)⟩
theorem pgsI {e : List Expr} {t u : TGs} (h : PGs X e t) (i : ∀ v σ H Q, u v σ H Q → t v σ H Q) : PGs X e u := ⟨fun pins s σ H v w Q I r q => h.run pins s σ H v w Q I r (i v σ H Q q)⟩
theorem opM {f : Value → Value → Sem Value} {r r' : R2} (h : OpR X f r) (i : ∀ x y H Q, r' x y H Q → r x y H Q) : OpR X f r' := fun pins s σ H x y v u Q I rx ry q => h pins s σ H x y v u Q I rx ry (i x y H Q q)
theorem ixM {r r' : R2} (h : IxR X r) (i : ∀ x y H Q, r' x y H Q → r x y H Q) : IxR X r' := fun va sl pins s σ H x y v u Q I rx ry q z => h va sl pins s σ H x y v u Q I rx ry (i x y H Q q) z
theorem unM {f : Value → Sem Value} {r r' : V → Hp → VK → Prop} (h : UnR X f r) (i : ∀ x H Q, r' x H Q → r x H Q) : UnR X f r' := fun pins s σ H x v Q I rx q => h pins s σ H x v Q I rx (i x H Q q)
theorem caM {f : Value} {r r' : List V → Hp → VK → Prop} (h : CallR X f r) (i : ∀ x H Q, r' x H Q → r x H Q) : CallR X f r' := fun pins s σ H xs us Q I rx q => h pins s σ H xs us Q I rx (i xs H Q q)
theorem mtM {id : String} {r r' : V → List V → Hp → VK → Prop} (h : MtR X id r) (i : ∀ x xs H Q, r' x xs H Q → r x xs H Q) : MtR X id r' := fun pins s σ H x xs v us Q I rx rxs q => h pins s σ H x xs v us Q I rx rxs (i x xs H Q q)
/-- what is wanted may be weakened -/
def mE (t : TE) : TE := fun σ H Q => ∃ P : VK, t σ H P ∧ ∀ v H', P v H' → Q v H'
def mT (t : TT) : TT := fun σ H Q => ∃ P : Bool → Hp → Prop, t σ H P ∧ ∀ v H', P v H' → Q v H'
def mA (t : TA) : TA := fun σ H Q => ∃ P : List V → Hp → Prop, t σ H P ∧ ∀ v H', P v H' → Q v H'
theorem peM {e : Expr} {t : TE} (h : PE X e t) : PE X e (mE t) := ⟨fun pins s σ H Q I q => by
  obtain ⟨P, q, i⟩ := q
  refine thn (h.run pins s σ H P I q) fun v s1 hh => ?_
  obtain ⟨x, H1, I1, r1, q1⟩ := hh
  exact ⟨x, H1, I1, r1, i _ _ q1⟩⟩
theorem ptM {e : Expr} {t : TT} (h : PT X e t) : PT X e (mT t) := ⟨fun pins s σ H Q I q => by
  obtain ⟨P, q, i⟩ := q
  refine thn (h.run pins s σ H P I q) fun v s1 hh => ?_
  obtain ⟨H1, I1, q1⟩ := hh
  exact ⟨H1, I1, i _ _ q1⟩⟩
theorem paM {e : List Expr} {t : TA} (h : PA X e t) : PA X e (mA t) := ⟨fun pos pins s σ H Q I q => by
  obtain ⟨P, q, i⟩ := q
  refine thn (h.run pos pins s σ H P I q) fun v s1 hh => ?_
  obtain ⟨x, H1, I1, r1, q1⟩ := hh
  exact ⟨x, H1, I1, r1, i _ _ q1⟩⟩
end
/-- a name's slot -/
def dVar (i : Nat) : TE := fun σ H Q => match σ[i]? with
  | some (some v) => Q v H
  | _ => False
/-- what stands as a list, as a tuple -/
def lstAt (o : Option HO) (k : List V → Prop) : Prop := match o with
  | some (.lst xs) => k xs
  | some (.frz _ (.lst xs)) => k xs
  | _ => False
def tupAt (o : Option HO) (k : List V → Prop) : Prop := match o with
  | some (.tup xs) => k xs
  | some (.frz _ (.tup xs)) => k xs
  | _ => False
def seqAt (o : Option HO) (k : List V → Prop) : Prop := match o with
  | some (.lst xs) => k xs
  | some (.tup xs) => k xs
  | some (.frz _ (.lst xs)) => k xs
  | some (.frz _ (.tup xs)) => k xs
  | _ => False
theorem lstAt_sq {K : PySem.W.Frag} {H : Hp} {a : Addr} {k : List V → Prop} (h : lstAt (H a) k) : ∃ xs, SqL K H a xs ∧ k xs := by
  unfold lstAt at h
  split at h
  · rename_i xs e
    exact ⟨xs, .inl (.inl e), h⟩
  · rename_i o xs e
    exact ⟨xs, .inl (.inr ⟨o, e⟩), h⟩
  · exact h.elim
theorem tupAt_sq {K : PySem.W.Frag} {H : Hp} {a : Addr} {k : List V → Prop} (h : tupAt (H a) k) : ∃ xs, SqT K H a xs ∧ k xs := by
  unfold tupAt at h
  split at h
  · rename_i xs e
    exact ⟨xs, .inl (.inl e), h⟩
  · rename_i o xs e
    exact ⟨xs, .inl (.inr ⟨o, e⟩), h⟩
  · exact h.elim
theorem seqAt_sq {K : PySem.W.Frag} {H : Hp} {a : Addr} {k : List V → Prop} (h : seqAt (H a) k) : ∃ xs, (SqL K H a xs ∨ SqT K H a xs) ∧ k xs := by
  unfold seqAt at h
  split at h
  · rename_i xs e
    exact ⟨xs, .inl (.inl (.inl e)), h⟩
  · rename_i xs e
    exact ⟨xs, .inr (.inl (.inl e)), h⟩
  · rename_i o xs e
    exact ⟨xs, .inl (.inl (.inr ⟨o, e⟩)), h⟩
  · rename_i o xs e
    exact ⟨xs, .inr (.inl (.inr ⟨o, e⟩)), h⟩
  · exact h.elim
def dAdd : R2 := fun x y H Q => match x, y with
  | .int i, .int j => Q (.int (i + j)) H
  | .str i, .str j => i.length + j.length ≤ sizeLine ∧ Q (.str (i ++ j)) H
  | .ref a, .ref b => match H a, H b with
    | some (.lst xs), some (.lst ys) => xs.length + ys.length ≤ sizeLine ∧ ∀ p, H p = none → Q (.ref p) (upd H p (.lst (xs ++ ys)))
    | _, _ => False
  | _, _ => False
def dI2 (f : Int → Int → V) : R2 := fun x y H Q => match x, y with
  | .int i, .int j => Q (f i j) H
  | _, _ => False
def dI2C (C : Int → Int → Prop) (f : Int → Int → V) : R2 := fun x y H Q => match x, y with
  | .int i, .int j => C i j ∧ Q (f i j) H
  | _, _ => False
def dSub : R2 := dI2 fun i j => .int (i - j)
def dMod : R2 := dI2C (fun _ j => 0 < j) fun i j => .int (i % j)
def dDiv : R2 := dI2C CDiv fun i j => .int (i / j)
def dPow : R2 := dI2C CPow fun i j => .int (i ^ j.toNat)
def dLt : R2 := dI2 fun i j => .bl (decide (i < j))
def dLe : R2 := dI2 fun i j => .bl (decide (i ≤ j))
def dGt : R2 := dI2 fun i j => .bl (decide (j < i))
def dGe : R2 := dI2 fun i j => .bl (decide (j ≤ i))
def dMul : R2 := fun x y H Q => match x, y with
  | .int i, .int j => CMul i j ∧ Q (.int (i * j)) H
  | .ref a, .int k => match H a with
    | some (.lst xs) => -(2 ^ 63) ≤ k ∧ k < 2 ^ 63 ∧ xs.length * k.toNat ≤ sizeLine ∧ ∀ p, H p = none → Q (.ref p) (upd H p (.lst (List.replicate k.toNat xs).flatten))
    | _ => False
  | _, _ => False
/-- scalars alone -/
def dEq : R2 := fun x y H Q => match x, y with
  | .int i, .int j => Q (.bl (decide (i = j))) H
  | .str i, .str j => Q (.bl (decide (i = j))) H
  | .bl i, .bl j => Q (.bl (decide (i = j))) H
  | .non, .non => Q (.bl true) H
  | _, _ => scal x y = true ∧ Q (.bl (decide (x = y))) H
def dNe : R2 := fun x y H Q => dEq x y H fun v H' => match v with
  | .bl b => Q (.bl (!b)) H'
  | _ => False
/-- data -/
def dEqD (K : PySem.W.Frag) : R2 := rEqD K
def dNeD (K : PySem.W.Frag) : R2 := rNeD K
def isNon : V → Bool
  | .non => true
  | _ => false
def dIs : R2 := fun x y H Q => match y with
  | .non => Q (.bl (isNon x)) H
  | _ => False
def dIsNot : R2 := fun x y H Q => match y with
  | .non => Q (.bl (!isNon x)) H
  | _ => False
def dNeg : V → Hp → VK → Prop := fun x H Q => match x with
  | .int i => Q (.int (-i)) H
  | _ => False
def dAbs : List V → Hp → VK → Prop := fun xs H Q => match xs with
  | [.int i] => Q (.int (if i < 0 then -i else i)) H
  | _ => False
def dMax2 : List V → Hp → VK → Prop := fun xs H Q => match xs with
  | [.int i, .int j] => Q (.int (if j > i then j else i)) H
  | _ => False
def dMin2 : List V → Hp → VK → Prop := fun xs H Q => match xs with
  | [.int i, .int j] => Q (.int (if j < i then j else i)) H
  | _ => False
def dInt : List V → Hp → VK → Prop := fun xs H Q => match xs with
  | [.int i] => Q (.int i) H
  | [.bl k] => Q (.int (if k then 1 else 0)) H
  | _ => False
def dLen : List V → Hp → VK → Prop := fun xs H Q => match xs with
  | [.ref p] => seqAt (H p) fun ys => Q (.int ys.length) H
  | [.str z] => z.length ≤ sizeLine ∧ Q (.int z.length) H
  | _ => False
/-- list(x) -/
def dListOf : List V → Hp → VK → Prop := fun xs H Q => match xs with
  | [.ref p] => seqAt (H p) fun ys => ∀ l, H l = none → Q (.ref l) (upd H l (.lst ys))
  | _ => False
def dTupleOf : List V → Hp → VK → Prop := fun xs H Q => match xs with
  | [.ref p] => match H p with
    | some (.lst ys) => ∀ l, H l = none → Q (.ref l) (upd H l (.tup ys))
    | some (.tup _) => Q (.ref p) H
    | _ => False
  | _ => False
/-- an item by its place -/
def atK (xs : List V) (i : Int) (k : V → Prop) : Prop := match atI xs i with
  | some v => k v
  | none => False
def dIx : R2 := fun x y H Q => match x, y with
  | .ref p, .int i => seqAt (H p) fun xs => atK xs i fun v => Q v H
  | _, _ => False
def dFld (C : Addr) (ta : TE) (f : Str) : TE := fun σ H Q => ta σ H fun x H1 => match x with
  | .ref a => match H1 a with
    | some (.ins C' _ fs) => C' = C ∧ match fs.lookup f with
      | some v => Q v H1
      | none => False
    | _ => False
  | _ => False
def dSFld (C : Addr) (ta tv : TE) (f : Str) : TS := fun D σ H => tv σ H fun y H1 => ta σ H1 fun x H2 => match x with
  | .ref a => match H2 a with
    | some (.ins C' dx fs) => C' = C ∧ fs.length < 1000 ∧ D.nx σ (upd H2 a (.ins C dx (putF f y fs)))
    | _ => False
  | _ => False
/-- o.f op= e, ints: op by g -/
def dSAug (C : Addr) (ta tv : TE) (g : Int → Int → Int) (f : Str) : TS := fun D σ H => ta σ H fun x H1 => match x with
  | .ref a => match H1 a with
    | some (.ins C' _ fs) => C' = C ∧ match fs.lookup f with
      | some (.int i) => tv σ H1 fun y H2 => match y with
        | .int j => match H2 a with
          | some (.ins C2 dx fs2) => C2 = C ∧ fs2.length < 1000 ∧ D.nx σ (upd H2 a (.ins C dx (putF f (.int (g i j)) fs2)))
          | _ => False
        | _ => False
      | _ => False
    | _ => False
  | _ => False
def dAug (i : Nat) (te : TE) (g : Int → Int → Int) : TS := fun D σ H => match σ[i]? with
  | some (some (.int x)) => te σ H fun y H1 => match y with
    | .int j => D.nx (σ.set i (some (.int (g x j)))) H1
    | _ => False
  | _ => False
def dTest (t : TE) : TT := fun σ H Q => t σ H fun x H' => match x with
  | .bl k => Q k H'
  | _ => False
/-- truth of what is a bool, an int, none, a list, a tuple -/
def dTru (ta : TE) : TT := fun σ H Q => ta σ H fun x H' => match x with
  | .bl k => Q k H'
  | .non => Q false H'
  | .int i => Q (i != 0) H'
  | .ref p => seqAt (H' p) fun xs => Q (!xs.isEmpty) H'
  | _ => False
def dAndV (ta tb : TE) : TE := fun σ H Q => ta σ H fun x H1 => match x with
  | .bl c => if c = true then tb σ H1 Q else Q (.bl false) H1
  | _ => False
def dOrV (ta tb : TE) : TE := fun σ H Q => ta σ H fun x H1 => match x with
  | .bl c => if c = true then Q (.bl true) H1 else tb σ H1 Q
  | _ => False
def dNotV (ta : TE) : TE := fun σ H Q => ta σ H fun x H1 => match x with
  | .bl c => Q (.bl (!c)) H1
  | _ => False
def dChain (r r' : R2) (ta tb tc : TE) : TE := fun σ H Q => ta σ H fun x H1 => tb σ H1 fun y H2 => r x y H2 fun z H3 => match z with
  | .bl k => if k = true then tc σ H3 fun w' H4 => r' y w' H4 Q else Q (.bl false) H3
  | _ => False
/-- methods of lists -/
def dAppend : V → List V → Hp → VK → Prop := fun x vs H Q => match x, vs with
  | .ref l, [y] => match H l with
    | some (.lst xs) => xs.length < sizeLine ∧ Q .non (upd H l (.lst (xs ++ [y])))
    | _ => False
  | _, _ => False
def dPop : V → List V → Hp → VK → Prop := fun x vs H Q => match x, vs with
  | .ref l, [] => match H l with
    | some (.lst xs) => match xs.getLast? with
      | some y => Q y (upd H l (.lst xs.dropLast))
      | none => False
    | _ => False
  | _, _ => False
/-- pop(i), 0 ≤ i -/
def dPopAt : V → List V → Hp → VK → Prop := fun x vs H Q => match x, vs with
  | .ref l, [.int i] => match H l with
    | some (.lst xs) => 0 ≤ i ∧ i < 2 ^ 63 ∧ match xs[i.toNat]? with
      | some y => Q y (upd H l (.lst (xs.eraseIdx i.toNat)))
      | none => False
    | _ => False
  | _, _ => False
def dInsert : V → List V → Hp → VK → Prop := fun x vs H Q => match x, vs with
  | .ref l, [.int i, y] => match H l with
    | some (.lst xs) => xs.length < sizeLine ∧ 0 ≤ i ∧ i < 2 ^ 63 ∧ Q .non (upd H l (.lst (xs.take i.toNat ++ [y] ++ xs.drop i.toNat)))
    | _ => False
  | _, _ => False
/-- a method of a list (a tracked one) -/
def dBM (r : V → List V → Hp → VK → Prop) (to : TE) (t : TA) : TE := fun σ H Q => to σ H fun x H1 => match x with
  | .ref l => match H1 l with
    | some (.lst _) => t σ H1 fun xs H2 => r x xs H2 Q
    | _ => False
  | _ => False
def dMethE (C : Addr) (m : Str) (sp : Sp) (E : L2.St → XK) (ta : TE) (t : TA) : TE := fun σ H Q => ta σ H fun x H1 => match x with
  | .ref a => match H1 a with
    | some (.ins C' _ fs) => C' = C ∧ fs.lookup m = none ∧ t σ H1 fun vs H2 => sp (x :: vs) H2 Q (E σ)
    | _ => False
  | _ => False
def dPar (i j : Nat) (ta : TA) : TS := fun D σ H => ta σ H fun vs H1 => match vs with
  | [v, w] => D.nx ((σ.set i (some v)).set j (some w)) H1
  | _ => False
def dPar3 (i j l : Nat) (ta : TA) : TS := fun D σ H => ta σ H fun vs H1 => match vs with
  | [u, v, w] => D.nx (((σ.set i (some u)).set j (some v)).set l (some w)) H1
  | _ => False
/-- targets -/
def dgTup (n : Nat) (t : TGs) : TG := fun v σ H Q => match v with
  | .ref a => tupAt (H a) fun xs => xs.length = n ∧ t xs σ H Q
  | _ => False
def dgCons (t : TG) (u : TGs) : TGs := fun vs σ H Q => match vs with
  | v :: r => t v σ H fun σ' H' => u r σ' H' Q
  | [] => False
def dgNil : TGs := fun vs σ H Q => match vs with
  | [] => Q σ H
  | _ => False
section
variable {X : Cx}
theorem dv (i : Nat) {x : Str} {pos : Pos} (hN : X.N[i]? = some x := by rfl) (hv : Vis X.env.scope x := by first | exact Or.inl rfl | exact Or.inr (Or.inl rfl) | exact Or.inr (Or.inr rfl)) (hd : (x == ("__debug__" : Str)) = false := by decide)
    (hcd : (x == ("__classdict__" : Str)) = false := by decide) : PE X (.Name x pos) (dVar i) := peI (pe_var hN hv hd hcd) fun σ H Q h => by
  unfold dVar at h
  split at h
  · rename_i v e
    exact ⟨v, e, h⟩
  · exact h.elim
theorem i2 {f : Int → Int → V} {op : Value → Value → Sem Value} (h : OpR X op (rI0 f)) : OpR X op (dI2 f) := opM h fun x y H Q q => by
  unfold dI2 at q
  split at q
  · exact ⟨_, _, rfl, rfl, q⟩
  · exact q.elim
theorem i2C {C : Int → Int → Prop} {f : Int → Int → V} {op : Value → Value → Sem Value} (h : OpR X op (rI C f)) : OpR X op (dI2C C f) := opM h fun x y H Q q => by
  unfold dI2C at q
  split at q
  · exact ⟨_, _, rfl, rfl, q.1, q.2⟩
  · exact q.elim
theorem d_sub : OpR X (binaryOp .Sub) dSub := i2 op_sub
theorem d_mod : OpR X (binaryOp .Mod) dMod := i2C op_mod
theorem d_div : OpR X (binaryOp .FloorDiv) dDiv := i2C op_fdiv
theorem d_pow : OpR X (binaryOp .Pow) dPow := i2C op_pow
theorem d_lt : OpR X (compareOp .Lt) dLt := i2 op_lt
theorem d_le : OpR X (compareOp .LtE) dLe := i2 op_le
theorem d_gt : OpR X (compareOp .Gt) dGt := i2 op_gt
theorem d_ge : OpR X (compareOp .GtE) dGe := i2 op_ge
theorem d_add : OpR X (binaryOp .Add) dAdd := opM (u_add (X := X)) fun x y H Q q => by
  unfold dAdd at q
  split at q
  · exact .inl ⟨_, _, rfl, rfl, q⟩
  · exact .inr (.inl ⟨_, _, rfl, rfl, q.1, q.2⟩)
  · split at q
    · rename_i h1 h2
      exact .inr (.inr (.inl ⟨_, _, _, _, rfl, rfl, h1, h2, q.1, q.2⟩))
    · exact q.elim
  · exact q.elim
theorem d_mul : OpR X (binaryOp .Mult) dMul := opM (u_mul (X := X)) fun x y H Q q => by
  unfold dMul at q
  split at q
  · exact .inl ⟨_, _, rfl, rfl, q.1, q.2⟩
  · split at q
    · rename_i h1
      exact .inr ⟨_, _, _, rfl, rfl, h1, q.1, q.2.1, q.2.2.1, q.2.2.2⟩
    · exact q.elim
  · exact q.elim
theorem dEq_r {x y : V} {H : Hp} {Q : VK} (q : dEq x y H Q) : rEq x y H Q := by
  unfold dEq at q
  split at q
  · refine ⟨rfl, ?_⟩
    rename_i i j
    have e : decide (V.int i = V.int j) = decide (i = j) := by simp
    rw [e]; exact q
  · refine ⟨rfl, ?_⟩
    rename_i i j
    have e : decide (V.str i = V.str j) = decide (i = j) := by simp
    rw [e]; exact q
  · refine ⟨rfl, ?_⟩
    rename_i i j
    have e : decide (V.bl i = V.bl j) = decide (i = j) := by simp
    rw [e]; exact q
  · exact ⟨rfl, q⟩
  · exact q
theorem d_eq : OpR X (compareOp .Eq) dEq := opM (op_eq (X := X)) fun x y H Q q => dEq_r q
theorem d_ne : OpR X (compareOp .NotEq) dNe := opM (op_ne (X := X)) fun x y H Q q => by
  obtain ⟨h1, h2⟩ := dEq_r (show dEq x y H _ from q)
  exact ⟨h1, h2⟩
theorem d_eqD {k : Nat} (hr : Room k X.A) : OpR X (compareOp .Eq) (dEqD X.K) := op_eqD hr.units
theorem d_neD {k : Nat} (hr : Room k X.A) : OpR X (compareOp .NotEq) (dNeD X.K) := op_neD hr.units
theorem d_is : OpR X (compareOp .Is) dIs := opM (op_isN (X := X)) fun x y H Q q => by
  unfold dIs at q
  split at q
  · refine ⟨rfl, ?_⟩
    have e : decide (x = V.non) = isNon x := by cases x <;> simp [isNon]
    rw [e]; exact q
  · exact q.elim
theorem d_isnot : OpR X (compareOp .IsNot) dIsNot := opM (op_notN (X := X)) fun x y H Q q => by
  unfold dIsNot at q
  split at q
  · refine ⟨rfl, ?_⟩
    have e : (!decide (x = V.non)) = !isNon x := by cases x <;> simp [isNon]
    rw [e]; exact q
  · exact q.elim
theorem d_neg : UnR X (unaryOp .USub) dNeg := unM (un_neg (X := X)) fun x H Q q => by
  unfold dNeg at q
  split at q
  · exact ⟨_, rfl, q⟩
  · exact q.elim
theorem d_abs : CallR X (.builtin "abs") dAbs := caM (call_abs (X := X)) fun xs H Q q => by
  unfold dAbs at q
  split at q
  · exact ⟨_, rfl, q⟩
  · exact q.elim
theorem d_max2 (hc : X.calm = true) : CallR X (.builtin "max") dMax2 := caM (call_max2 hc) fun xs H Q q => by
  unfold dMax2 at q
  split at q
  · exact ⟨_, _, rfl, q⟩
  · exact q.elim
theorem d_min2 (hc : X.calm = true) : CallR X (.builtin "min") dMin2 := caM (call_min2 hc) fun xs H Q q => by
  unfold dMin2 at q
  split at q
  · exact ⟨_, _, rfl, q⟩
  · exact q.elim
theorem d_int : CallR X (.type "int") dInt := caM (call_int1 (X := X)) fun xs H Q q => by
  unfold dInt at q
  split at q
  · exact .inl ⟨_, rfl, q⟩
  · exact .inr ⟨_, rfl, q⟩
  · exact q.elim
theorem d_len : CallR X (.builtin "len") dLen := caM (call_len (X := X)) fun xs H Q q => by
  unfold dLen at q
  split at q
  · obtain ⟨ys, h, k⟩ := seqAt_sq (K := X.K) q
    refine ⟨_, _, rfl, ?_, k⟩
    unfold LenV
    exact h.elim (fun h => .inl ⟨ys, h, rfl⟩) (fun h => .inr ⟨ys, h, rfl⟩)
  · exact ⟨_, _, rfl, ⟨q.1, rfl⟩, q.2⟩
  · exact q.elim
theorem d_listOf : CallR X (.type "list") dListOf := caM (call_list_of (X := X)) fun xs H Q q => by
  unfold dListOf at q
  split at q
  · obtain ⟨ys, h, k⟩ := seqAt_sq (K := X.K) q
    exact ⟨_, ys, rfl, h, k⟩
  · exact q.elim
theorem d_tupleOf : CallR X (.type "tuple") dTupleOf := caM (call_tuple_of (X := X)) fun xs H Q q => by
  unfold dTupleOf at q
  split at q
  · split at q
    · rename_i e
      exact ⟨_, _, rfl, .inl ⟨.inl (.inl e), q⟩⟩
    · rename_i e
      exact ⟨_, _, rfl, .inr ⟨.inl (.inl e), q⟩⟩
    · exact q.elim
  · exact q.elim
theorem d_ix : IxR X dIx := ixM (ix_seq (X := X)) fun x y H Q q => by
  unfold dIx at q
  split at q
  · obtain ⟨ys, h, k⟩ := seqAt_sq (K := X.K) q
    unfold atK at k
    split at k
    · rename_i e
      exact h.elim (fun h => .inl ⟨_, ys, _, _, rfl, rfl, h, e, k⟩) (fun h => .inr (.inl ⟨_, ys, _, _, rfl, rfl, h, e, k⟩))
    · exact k.elim
  · exact q.elim
variable {C : Addr} {e o a b c value : Expr} {es : List Expr} {ta tb tc tv te : TE} {t : TA} {f m : Str} {pos pos' tpos apos : Pos}
theorem d_fld (hc : Cls X.K C) (hn : NoAttr X.K C f) (he : PE X e ta) (hb : attributeBase e f X.env (eval e X.env) = eval e X.env := by rfl) : PE X (.Attribute e f pos) (dFld C ta f) :=
  peI (pe_fld (peM he) hb) fun σ H Q q1 => ⟨_, q1, fun v H' q2 => by
  split at q2
  · split at q2
    · rename_i h
      obtain ⟨e1, q2⟩ := q2
      subst e1
      split at q2
      · rename_i l
        exact ⟨_, _, _, _, _, rfl, h, hc, hn, l, q2⟩
      · exact q2.elim
    · exact q2.elim
  · exact q2.elim⟩
theorem d_sfld (hc : Cls X.K C) (hn : NoAttr X.K C f) (ha : PE X o ta) (hv : PE X value tv) (hs : swapsWith value (some (.Attribute o f pos')) pos.line X.env = pure false := by rfl) : PS X (.Assign [.Attribute o f pos'] value pos) (dSFld C ta tv f) :=
  psI (ps_fld (peM ha) (peM hv) hs) fun D σ H q1 => ⟨_, q1, fun y H1 q2 => ⟨_, q2, fun x H2 q3 => by
  split at q3
  · split at q3
    · rename_i h
      obtain ⟨e1, l, q3⟩ := q3
      subst e1
      exact ⟨_, _, _, _, rfl, h, hc, hn, l, q3⟩
    · exact q3.elim
  · exact q3.elim⟩⟩
theorem in_g {op : Operator} {g : Int → Int → Int} (h : OpR X (inplaceOp op) (rI0 fun i j => .int (g i j))) : InOp X op (fun x y H Q => ∃ i j, x = .int i ∧ y = .int j ∧ Q (.int (g i j)) H) := fun pins s σ H x y u v Q I rx ry q => h pins s σ H x y u v Q I rx ry q
theorem d_saug {op : Operator} {g : Int → Int → Int} (hop : OpR X (inplaceOp op) (rI0 fun i j => .int (g i j))) (hc : Cls X.K C) (hn : NoAttr X.K C f) (ha : PE X o ta) (hv : PE X value tv) : PS X (.AugAssign (.Attribute o f tpos) op value pos) (dSAug C ta tv g f) :=
  psI (ps_fldaug (peM ha) (peM hv) (in_g hop)) fun D σ H q1 => ⟨_, q1, fun x H1 q2 => by
  split at q2
  · split at q2
    · rename_i h
      obtain ⟨e1, q3⟩ := q2
      subst e1
      split at q3
      · rename_i l
        refine ⟨_, _, _, _, _, rfl, h, hc, hn, l, _, q3, fun y H2 q4 => ?_⟩
        split at q4
        · split at q4
          · rename_i h2
            obtain ⟨e2, l2, q5⟩ := q4
            subst e2
            exact ⟨_, _, rfl, rfl, _, _, h2, l2, q5⟩
          · exact q4.elim
        · exact q4.elim
      · exact q3.elim
    · exact q2.elim
  · exact q2.elim⟩
theorem ip_g {op : Operator} {g : Int → Int → Int} (h : OpR X (inplaceOp op) (rI0 fun i j => .int (g i j))) : PIp X op (ipI g) := fun pins s σ H x y v u Q I r1 r2 q => h pins s σ H x y v u Q I r1 r2 q
theorem d_aug {i : Nat} {x : Str} {op : Operator} {g : Int → Int → Int} {pos' : Pos} (hop : OpR X (inplaceOp op) (rI0 fun i j => .int (g i j))) (hN : X.N.Nodup) (hi : X.N[i]? = some x) (hx : Loc X.env.scope x) (he : PE X e te) (hf : X.fn x = true ∨ X.env.scope.names.lookup x = some .local := by first | exact .inl rfl | exact .inr rfl | assumption) :
    PS X (.AugAssign (.Name x pos') op e pos) (dAug i te g) := psI (ps_aug hN hi hx (peM he) (ip_g hop) hf) fun D σ H q1 => by
  unfold dAug at q1
  split at q1
  · rename_i x h
    refine ⟨_, h, _, q1, fun y H1 q2 => ?_⟩
    split at q2
    · exact ⟨_, _, rfl, rfl, q2⟩
    · exact q2.elim
  · exact q1.elim
theorem opMono {f : Value → Value → Sem Value} {r : R2} (ho : OpR X f r) : OpR X f (fun x y H Q => ∃ P : VK, r x y H P ∧ ∀ v H', P v H' → Q v H') := fun pins s σ H x y v u Q I rx ry q => by
  obtain ⟨P, q, i⟩ := q
  refine thn (ho pins s σ H x y v u P I rx ry q) fun w s1 hh => ?_
  obtain ⟨x1, H1, I1, r1, q1⟩ := hh
  exact ⟨x1, H1, I1, r1, i _ _ q1⟩
theorem dt_cmp {op : CmpOp} {r : R2} (ho : OpR X (compareOp op) r) (ha : PE X a ta) (hb : PE X b tb) (hm : behindInMarks op b = false) : PT X (.Compare a [op] [b] pos) (dTest (tOp r ta tb)) :=
  ptI (pt_cmpR (opMono ho) (peM ha) (peM hb) hm) fun σ H Q q1 => ⟨_, q1, fun x H1 q2 => ⟨_, q2, fun y H2 q3 => ⟨_, q3, fun v H' q4 => by
    split at q4
    · exact ⟨_, rfl, q4⟩
    · exact q4.elim⟩⟩⟩
theorem dt_tru (ha : PE X a ta) (he : ∀ whole, isTrue a X.env whole = (do let v ← whole; standAt a.pos; holding [v] (truthy v)) := by intro _; rfl) : PT X a (dTru ta) :=
  ptI (pt_truth (peM ha) he) fun σ H Q q1 => ⟨_, q1, fun v H' q2 => by
    split at q2
    · exact ⟨_, rfl, q2⟩
    · exact ⟨_, rfl, q2⟩
    · exact ⟨_, rfl, q2⟩
    · obtain ⟨xs, h, k⟩ := seqAt_sq (K := X.K) q2
      exact ⟨_, h.elim (fun h => .inl ⟨xs, h, rfl⟩) (fun h => .inr (.inl ⟨xs, h, rfl⟩)), k⟩
    · exact q2.elim⟩
theorem d_and {rest : List Expr} (ha : PE X a ta) (hb : PE X (.BoolOp .And (b :: rest) pos) tb) : PE X (.BoolOp .And (a :: b :: rest) pos) (dAndV ta tb) :=
  peI (pe_and (peM ha) hb) fun σ H Q q1 => ⟨_, q1, fun v H' q2 => by
    split at q2
    · exact ⟨_, rfl, q2⟩
    · exact q2.elim⟩
theorem d_or {rest : List Expr} (ha : PE X a ta) (hb : PE X (.BoolOp .Or (b :: rest) pos) tb) : PE X (.BoolOp .Or (a :: b :: rest) pos) (dOrV ta tb) :=
  peI (pe_or (peM ha) hb) fun σ H Q q1 => ⟨_, q1, fun v H' q2 => by
    split at q2
    · exact ⟨_, rfl, q2⟩
    · exact q2.elim⟩
theorem d_not (ha : PE X a ta) : PE X (.UnaryOp .Not a pos) (dNotV ta) :=
  peI (pe_not (peM ha)) fun σ H Q q1 => ⟨_, q1, fun v H' q2 => by
    split at q2
    · exact ⟨_, rfl, q2⟩
    · exact q2.elim⟩
theorem d_chain {op op' : CmpOp} {r r' : R2} (ho : OpR X (compareOp op) r) (ho' : OpR X (compareOp op') r') (ha : PE X a ta) (hb : PE X b tb) (hc : PE X c tc)
    (hm : lastMarks [op, op'] [b, c] = false := by with_unfolding_all rfl) : PE X (.Compare a [op, op'] [b, c] pos) (dChain r r' ta tb tc) :=
  peI (pe_chain (opMono ho) ho' (peM ha) (peM hb) hc hm) fun σ H Q q1 => ⟨_, q1, fun x H1 q2 => ⟨_, q2, fun y H2 q3 => ⟨_, q3, fun z H3 q4 => by
    split at q4
    · exact ⟨_, rfl, q4⟩
    · exact q4.elim⟩⟩⟩
theorem dt_chain {op op' : CmpOp} {r r' : R2} (ho : OpR X (compareOp op) r) (ho' : OpR X (compareOp op') r') (ha : PE X a ta) (hb : PE X b tb) (hc : PE X c tc)
    (hm : lastMarks [op, op'] [b, c] = false := by with_unfolding_all rfl) : PT X (.Compare a [op, op'] [b, c] pos) (dTest (dChain r r' ta tb tc)) :=
  ptI (pt_chain (opMono ho) (opMono ho') (peM ha) (peM hb) (peM hc) hm) fun σ H Q q1 => ⟨_, q1, fun x H1 q2 => ⟨_, q2, fun y H2 q3 => ⟨_, q3, fun z H3 q4 => by
    split at q4
    · rename_i k
      refine ⟨_, rfl, ?_⟩
      cases k with
      | true =>
        rw [if_pos rfl] at q4 ⊢
        refine ⟨_, q4, fun w H4 q5 => ⟨_, q5, fun v H5 q6 => ?_⟩⟩
        split at q6
        · exact ⟨_, rfl, q6⟩
        · exact q6.elim
      | false => exact ⟨_, rfl, q4⟩
    · exact q4.elim⟩⟩⟩
theorem m_append : MtR X "list.append" dAppend := mtM (mt_append (X := X)) fun x xs H Q q => by
  unfold dAppend at q
  split at q
  · split at q
    · rename_i h
      exact ⟨_, _, _, rfl, rfl, h, q.1, q.2⟩
    · exact q.elim
  · exact q.elim
theorem m_pop : MtR X "list.pop" dPop := mtM (mt_pop (X := X)) fun x xs H Q q => by
  unfold dPop at q
  split at q
  · split at q
    · rename_i h
      split at q
      · rename_i e
        exact ⟨_, _, _, rfl, rfl, h, by rw [← List.getLast?_eq_getElem?]; exact e, q⟩
      · exact q.elim
    · exact q.elim
  · exact q.elim
theorem m_popAt : MtR X "list.pop" dPopAt := mtM (mt_popAt (X := X)) fun x xs H Q q => by
  unfold dPopAt at q
  split at q
  · split at q
    · rename_i h
      obtain ⟨h0, h1, q⟩ := q
      split at q
      · rename_i i _ ys _ y e
        have hl := (List.getElem?_eq_some_iff.mp e).1
        exact ⟨_, _, _, i.toNat, _, rfl, rfl, h, by omega, h1, (ixN_seq (n := ys.length) (i := i) (j := i.toNat) (by unfold ixN; rw [if_pos h0, if_pos (by omega)])).1, e, q⟩
      · exact q.elim
    · exact q.elim
  · exact q.elim
theorem m_insert : MtR X "list.insert" dInsert := mtM (mt_insert (X := X)) fun x xs H Q q => by
  unfold dInsert at q
  split at q
  · split at q
    · rename_i h
      exact ⟨_, _, _, _, rfl, rfl, h, q⟩
    · exact q.elim
  · exact q.elim
theorem d_bm {name id : String} {r : V → List V → Hp → VK → Prop} {cpos : Pos} (pa : PlainAttrs "list") (slot : Slot "list" name id) (hty : typeOf (.builtin id) = pure (.type "method_descriptor")) (hm : MtR X id r) (ho : PE X o ta) (ha : PA X (e :: es) t)
    (hbase : attributeBase o name X.env (eval o X.env) = eval o X.env := by rfl)
    (hfew : ((backTo cpos (starEach (e :: es) X.env)).all (fun x => !x.1) && (backToKw cpos (keywordEach [] X.env)).all (fun x => x.1.isSome)
      && decide ((e :: es).length + ([] : List Keyword).length + (if ([] : List Keyword).isEmpty then 0 else 1) < 30)) = true := by rfl)
    (hline : (apos.endLine == cpos.line) = true := by rfl) (hs : starEach (e :: es) X.env = (false, eval e X.env) :: starEach es X.env := by rfl) (hplain : (backTo cpos (starEach es X.env)).any (·.1) = false := by rfl) : PE X (.Call (.Attribute o name apos) (e :: es) [] cpos) (dBM r ta t) :=
  peI (pe_bm pa slot hty hm (peM ho) ha hbase hfew hline hs hplain) fun σ H Q q1 => ⟨_, q1, fun v H' q2 => by
    split at q2
    · split at q2
      · rename_i h
        exact ⟨Or.inl ⟨rfl, _, SqL.of h⟩, q2⟩
      · exact q2.elim
    · exact q2.elim⟩
end
section
variable {X : Cx} {C : Addr} {e o a b c value : Expr} {es : List Expr} {ta tb tc tv te : TE} {t : TA} {f m : Str} {pos pos' tpos apos : Pos}
def dBM0 (r : V → List V → Hp → VK → Prop) (to : TE) : TE := fun σ H Q => to σ H fun x H1 => match x with
  | .ref l => match H1 l with
    | some (.lst _) => r x [] H1 Q
    | _ => False
  | _ => False
theorem d_bm0 {name id : String} {r : V → List V → Hp → VK → Prop} {cpos : Pos} (pa : PlainAttrs "list") (slot : Slot "list" name id) (hty : typeOf (.builtin id) = pure (.type "method_descriptor")) (hm : MtR X id r) (ho : PE X o ta)
    (hbase : attributeBase o name X.env (eval o X.env) = eval o X.env := by rfl) (hline : (apos.endLine == cpos.line) = true := by rfl) : PE X (.Call (.Attribute o name apos) [] [] cpos) (dBM0 r ta) :=
  peI (pe_bm0 pa slot hty hm (peM ho) hbase hline) fun σ H Q q1 => ⟨_, q1, fun v H' q2 => by
    split at q2
    · split at q2
      · rename_i h
        exact ⟨Or.inl ⟨rfl, _, SqL.of h⟩, q2⟩
      · exact q2.elim
    · exact q2.elim⟩
variable {CX : CXT} {k : Nat} {fa : Addr} {fd : FuncData} {ps : List Str} {sp : Sp} {E : L2.St → XK}
theorem d_meth {pl : Sem Bool} (he : PE X o ta) (c : Cls X.K C) (hm : Meth X.K C m fa) (F : FnOk X.prog X.w X.K X.mg X.base CX k fa fd ps sp) (hr : Room k X.A) (hb : Binds X.K fd ps []) (hx : ∀ σ, PassesAt CX X σ (E σ)) (ha : PA X (e :: es) t)
    (hst : starEach (e :: es) X.env = (false, eval e X.env) :: starEach es X.env := by rfl) (hpl : (backTo pos (starEach es X.env)).any (·.1) = false := by rfl)
    (ht : eval (.Call (.Attribute o m apos) (e :: es) [] pos) X.env = (do
      let ov ← eval o X.env
      standAt apos.atName
      let (f, first) ← holding [ov] (getMethod ov m pl)
      callWith pos f first (backTo pos (starEach (e :: es) X.env)) (backToKw pos (keywordEach [] X.env))) := by rfl) :
    PE X (.Call (.Attribute o m apos) (e :: es) [] pos) (dMethE C m sp E ta t) :=
  peI (c_meth (pl := pl) (peM he) c hm F hr hb hx ha hst hpl ht) fun σ H Q q1 => ⟨_, q1, fun v H' q2 => by
    split at q2
    · split at q2
      · rename_i h
        obtain ⟨e1, l, q3⟩ := q2
        subst e1
        exact ⟨_, _, _, rfl, h, l, q3⟩
      · exact q2.elim
    · exact q2.elim⟩
theorem d_meth0 {pl : Sem Bool} (he : PE X o ta) (c : Cls X.K C) (hm : Meth X.K C m fa) (F : FnOk X.prog X.w X.K X.mg X.base CX k fa fd ps sp) (hr : Room k X.A) (hb : Binds X.K fd ps []) (hx : ∀ σ, PassesAt CX X σ (E σ))
    (ht : eval (.Call (.Attribute o m apos) [] [] pos) X.env = (do
      let ov ← eval o X.env
      standAt apos.atName
      let (f, first) ← holding [ov] (getMethod ov m pl)
      callWith pos f first (backTo pos (starEach [] X.env)) (backToKw pos (keywordEach [] X.env))) := by rfl) :
    PE X (.Call (.Attribute o m apos) [] [] pos) (dMethE C m sp E ta tNil) :=
  peI (c_meth0 (pl := pl) (peM he) c hm F hr hb hx ht) fun σ H Q q1 => ⟨_, q1, fun v H' q2 => by
    split at q2
    · split at q2
      · rename_i h
        obtain ⟨e1, l, q3⟩ := q2
        subst e1
        exact ⟨_, _, _, rfl, h, l, q3⟩
      · exact q2.elim
    · exact q2.elim⟩
theorem d_par {i j : Nat} {x y : Str} {px py pt : Pos} {kt k2 pt2} (hc : X.calm = true) (hN : X.N.Nodup) (hi : X.N[i]? = some x) (hj : X.N[j]? = some y) (hij : i ≠ j)
    (hx : X.env.scope.names.lookup x = some .local) (hy : X.env.scope.names.lookup y = some .local) (ha : PA X [a, b] t)
    (hw : swappedStores [.Tuple [.Name x px, .Name y py] kt pt] (.Tuple [a, b] k2 pt2) X.env = pure (some [x, y]))
    (hs : swapsWithSole [.Tuple [.Name x px, .Name y py] kt pt] (.Tuple [a, b] k2 pt2) pos.line X.env = pure false := by rfl) :
    PS X (.Assign [.Tuple [.Name x px, .Name y py] kt pt] (.Tuple [a, b] k2 pt2) pos) (dPar i j t) :=
  psI (ps_par hc hN hi hj hij hx hy (paM ha) hw hs) fun D σ H q1 => ⟨_, q1, fun v H' q2 => by
    split at q2
    · exact ⟨_, _, rfl, q2⟩
    · exact q2.elim⟩
theorem d_par3 {i j l : Nat} {x y z : Str} {px py pz pt : Pos} {kt k2 pt2} (hc : X.calm = true) (hN : X.N.Nodup) (hi : X.N[i]? = some x) (hj : X.N[j]? = some y) (hl : X.N[l]? = some z) (hij : i ≠ j) (hil : i ≠ l) (hjl : j ≠ l)
    (hx : X.env.scope.names.lookup x = some .local) (hy : X.env.scope.names.lookup y = some .local) (hz : X.env.scope.names.lookup z = some .local) (ha : PA X [a, b, c] t)
    (hw : swappedStores [.Tuple [.Name x px, .Name y py, .Name z pz] kt pt] (.Tuple [a, b, c] k2 pt2) X.env = pure (some [x, y, z]))
    (hs : swapsWithSole [.Tuple [.Name x px, .Name y py, .Name z pz] kt pt] (.Tuple [a, b, c] k2 pt2) pos.line X.env = pure false := by rfl) :
    PS X (.Assign [.Tuple [.Name x px, .Name y py, .Name z pz] kt pt] (.Tuple [a, b, c] k2 pt2) pos) (dPar3 i j l t) :=
  psI (ps_par3 hc hN hi hj hl hij hil hjl hx hy hz (paM ha) hw hs) fun D σ H q1 => ⟨_, q1, fun v H' q2 => by
    split at q2
    · exact ⟨_, _, _, rfl, q2⟩
    · exact q2.elim⟩
theorem dg_nil : PGs X [] dgNil := pgsI pgs_nil fun vs σ H Q q1 => by
  unfold dgNil at q1
  split at q1
  · exact ⟨rfl, q1⟩
  · exact q1.elim
theorem dg_cons {ge : Expr} {ges : List Expr} {gt : TG} {gu : TGs} (h1 : PG X ge gt) (h2 : PGs X ges gu)
    (hs : (assignEach (ge :: ges) X.env).map (·.2) = assign ge X.env :: (assignEach ges X.env).map (·.2) := by rfl) : PGs X (ge :: ges) (dgCons gt gu) := pgsI (pgs_cons h1 h2 hs) fun vs σ H Q q1 => by
  unfold dgCons at q1
  split at q1
  · exact ⟨_, _, rfl, q1⟩
  · exact q1.elim
theorem dg_tup {ges : List Expr} {kk : Nat} {gt : TGs} {n : Nat} (hc : X.calm = true) (h : PGs X ges gt)
    (hn : (assignEach ges X.env).length = n := by rfl) (hst : (assignEach ges X.env).findIdx? (·.1) = none := by rfl) : PG X (.Tuple ges kk pos) (dgTup n gt) := pgI (pg_tup hc h hn hst) fun v σ H Q q1 => by
  unfold dgTup at q1
  split at q1
  · obtain ⟨xs, h1, h2, h3⟩ := tupAt_sq (K := X.K) q1
    exact ⟨_, xs, rfl, h1, h2, h3⟩
  · exact q1.elim
end
/-! ### loops -/
/-- what a for asks of what it walks -/
def ForJ (J : It) (g : TG) (tb : TS) : TS := fun D σ H => ∃ W : Nat → Nat → L2.St → Hp → Prop, (∃ m, W 0 m σ H) ∧ ∀ i m σ H, W i m σ H →
  (J.stop i H ∧ D.nx σ H) ∨ (J.go i H ∧ ∃ N : L2.St → Hp → Prop, (∀ σ' H', N σ' H' → ∃ m', m' < m ∧ W (i + 1) m' σ' H') ∧ ∀ x H', J.yld i H x H' → g x σ H' fun σ2 H2 => tb { D with nx := N, ct := N, bk := D.nx } σ2 H2)
def ForL (K : PySem.W.Frag) (a : Addr) (g : TG) (tb : TS) : TS := fun D σ H => (∃ xs, SqL K H a xs) ∧ ForJ (Itl K a) g tb D σ H
def ForT (K : PySem.W.Frag) (a : Addr) (g : TG) (tb : TS) : TS := fun D σ H => (∃ xs, SqT K H a xs) ∧ ForJ (Itt K a) g tb D σ H
def ForR (lo : Int) (n : Nat) (g : TG) (tb : TS) : TS := fun D σ H => ForJ (Itr lo n) g tb D σ H
def dForL (K : PySem.W.Frag) (tl : TE) (g : TG) (tb : TS) : TS := fun D σ H => tl σ H fun x H1 => match x with
  | .ref a => ForL K a g tb D σ H1
  | _ => False
def dForT (K : PySem.W.Frag) (tl : TE) (g : TG) (tb : TS) : TS := fun D σ H => tl σ H fun x H1 => match x with
  | .ref a => ForT K a g tb D σ H1
  | _ => False
def dForR1 (ta : TA) (g : TG) (tb : TS) : TS := fun D σ H => ta σ H fun vs H1 => match vs with
  | [.int j] => (-(2 ^ 62) ≤ j ∧ j < 2 ^ 62) ∧ ForR 0 j.toNat g tb D σ H1
  | _ => False
def dForR2 (ta : TA) (g : TG) (tb : TS) : TS := fun D σ H => ta σ H fun vs H1 => match vs with
  | [.int i, .int j] => (-(2 ^ 62) ≤ i ∧ i < 2 ^ 62 ∧ -(2 ^ 62) ≤ j ∧ j < 2 ^ 62) ∧ ForR i (j - i).toNat g tb D σ H1
  | _ => False
/-- what a comprehension asks -/
def LcJ (J : It) (g : TG) (tt : TT) (te : TE) (vs : List Nat) : L2.St → Hp → VK → Prop := fun σ H1 Q => ∀ D, H1 D = none → ∃ W : Nat → Nat → Hp → Prop, (∃ m, W 0 m (upd H1 D (.lst []))) ∧ ∀ i m H, W i m H →
  (J.stop i H ∧ Q (.ref D) H) ∨ (J.go i H ∧ ∃ Nx : Hp → Prop, (∀ H', Nx H' → ∃ m', m' < m ∧ W (i + 1) m' H') ∧ ∀ x H', J.yld i H x H' → g x (wipe σ vs) H' fun σ2 H2 => wipe σ2 vs = wipe σ vs ∧ tt σ2 H2 fun b H3 =>
    if b = true then te σ2 H3 fun y H4 => ∃ acc, H4 D = some (.lst acc) ∧ acc.length < sizeLine ∧ Nx (upd H4 D (.lst (acc ++ [y]))) else Nx H3)
def LcL (K : PySem.W.Frag) (a : Addr) (g : TG) (tt : TT) (te : TE) (vs : List Nat) : L2.St → Hp → VK → Prop := fun σ H Q => (∃ xs, SqL K H a xs) ∧ LcJ (Itl K a) g tt te vs σ H Q
def LcT (K : PySem.W.Frag) (a : Addr) (g : TG) (tt : TT) (te : TE) (vs : List Nat) : L2.St → Hp → VK → Prop := fun σ H Q => (∃ xs, SqT K H a xs) ∧ LcJ (Itt K a) g tt te vs σ H Q
def dLcL (K : PySem.W.Frag) (tl : TE) (g : TG) (tt : TT) (te : TE) (vs : List Nat) : TE := fun σ H Q => tl σ H fun x H1 => match x with
  | .ref a => LcL K a g tt te vs σ H1 Q
  | _ => False
def dLcT (K : PySem.W.Frag) (tl : TE) (g : TG) (tt : TT) (te : TE) (vs : List Nat) : TE := fun σ H Q => tl σ H fun x H1 => match x with
  | .ref a => LcT K a g tt te vs σ H1 Q
  | _ => False
def dLcR1 (ta : TA) (g : TG) (tt : TT) (te : TE) (vs : List Nat) : TE := fun σ H Q => ta σ H fun us H1 => match us with
  | [.int j] => (-(2 ^ 62) ≤ j ∧ j < 2 ^ 62) ∧ LcJ (Itr 0 j.toNat) g tt te vs σ H1 Q
  | _ => False
def dLcR2 (ta : TA) (g : TG) (tt : TT) (te : TE) (vs : List Nat) : TE := fun σ H Q => ta σ H fun us H1 => match us with
  | [.int i, .int j] => (-(2 ^ 62) ≤ i ∧ i < 2 ^ 62 ∧ -(2 ^ 62) ≤ j ∧ j < 2 ^ 62) ∧ LcJ (Itr i (j - i).toNat) g tt te vs σ H1 Q
  | _ => False
section
variable {X : Cx} {e a b target : Expr} {body : List Stmt} {tl : TE} {ta : TA} {g : TG} {tb : TS} {pos p p2 : Pos}
theorem d_forL (hp : PassesOwn (model X.prog X.w) X.A X.env X.xe) (hc : X.calm = true) (hl : PE X e tl) (hg : PG X target g) (hb : PSs X body tb)
    (hs : ∀ x, foldedSetIterable e X.env x = pure x := by intro _; rfl) : PS X (.For target e body [] pos) (dForL X.K tl g tb) :=
  psI (ps_for hp hc (pi_list (peM hl)) hg hb hs) fun D σ H q1 => ⟨_, q1, fun v H' q2 => by
    split at q2
    · exact ⟨_, rfl, q2.1, q2.2⟩
    · exact q2.elim⟩
theorem d_forT (hp : PassesOwn (model X.prog X.w) X.A X.env X.xe) (hc : X.calm = true) (hl : PE X e tl) (hg : PG X target g) (hb : PSs X body tb)
    (hs : ∀ x, foldedSetIterable e X.env x = pure x := by intro _; rfl) : PS X (.For target e body [] pos) (dForT X.K tl g tb) :=
  psI (ps_for hp hc (pi_tup (peM hl)) hg hb hs) fun D σ H q1 => ⟨_, q1, fun v H' q2 => by
    split at q2
    · exact ⟨_, rfl, q2.1, q2.2⟩
    · exact q2.elim⟩
theorem d_forR1 (hp : PassesOwn (model X.prog X.w) X.A X.env X.xe) (hc : X.calm = true) (hm : X.mg "range" = none) (ha : PA X [a] ta) (hg : PG X target g) (hb : PSs X body tb) (hgl : Gl X "range" := by rfl)
    (hs : ∀ x, foldedSetIterable (.Call (.Name "range" p) [a] [] p2) X.env x = pure x := by intro _; rfl) (hst : starEach [a] X.env = [(false, eval a X.env)] := by rfl) : PS X (.For target (.Call (.Name "range" p) [a] [] p2) body [] pos) (dForR1 ta g tb) :=
  psI (ps_for hp hc (pi_range1 hgl hm (paM ha) hst) hg hb hs) fun D σ H q1 => ⟨_, q1, fun vs H1 q2 => by
    split at q2
    · exact ⟨_, rfl, q2.1.1, q2.1.2, q2.2⟩
    · exact q2.elim⟩
theorem d_forR2 (hp : PassesOwn (model X.prog X.w) X.A X.env X.xe) (hc : X.calm = true) (hm : X.mg "range" = none) (ha : PA X [a, b] ta) (hg : PG X target g) (hb : PSs X body tb) (hgl : Gl X "range" := by rfl)
    (hs : ∀ x, foldedSetIterable (.Call (.Name "range" p) [a, b] [] p2) X.env x = pure x := by intro _; rfl) (hst : starEach [a, b] X.env = [(false, eval a X.env), (false, eval b X.env)] := by rfl) (hst2 : starEach [b] X.env = [(false, eval b X.env)] := by rfl) : PS X (.For target (.Call (.Name "range" p) [a, b] [] p2) body [] pos) (dForR2 ta g tb) :=
  psI (ps_for hp hc (pi_range2 hgl hm (paM ha) hst hst2) hg hb hs) fun D σ H q1 => ⟨_, q1, fun vs H1 q2 => by
    split at q2
    · exact ⟨_, _, rfl, q2.1, q2.2⟩
    · exact q2.elim⟩
end
section
variable {X : Cx} {e a b elt tg : Expr} {ifs : List Expr} {scope : Scope} {own : List (Str × Nat)} {tl te : TE} {ta : TA} {g : TG} {tt : TT} {pos p p2 : Pos}
abbrev BG (X : Cx) (scope : Scope) (tg : Expr) (g : TG) : Prop := ∀ (s : Shared) (H : Hp) (C : Addr) (cl : List (Str × Addr)) (fp : List Addr), PG (X.blk s H scope (compEnvC scope cl C X.env) fp) tg g
abbrev BT (X : Cx) (scope : Scope) (ifs : List Expr) (t : TT) : Prop := ∀ (s : Shared) (H : Hp) (C : Addr) (cl : List (Str × Addr)) (fp : List Addr), PTs (X.blk s H scope (compEnvC scope cl C X.env) fp) ifs t
abbrev BE (X : Cx) (scope : Scope) (e : Expr) (t : TE) : Prop := ∀ (s : Shared) (H : Hp) (C : Addr) (cl : List (Str × Addr)) (fp : List Addr), PE (X.blk s H scope (compEnvC scope cl C X.env) fp) e t
theorem lc_l {tl : TE} {σ : L2.St} {H : Hp} {Q : VK} {K : PySem.W.Frag} {vs : List Nat} (q1 : dLcL K tl g tt te vs σ H Q) : tLc (iList K (mE tl)) g tt te vs σ H Q := ⟨_, q1, fun v H' q2 => by
  split at q2
  · exact ⟨_, rfl, q2.1, q2.2⟩
  · exact q2.elim⟩
theorem lc_t {tl : TE} {σ : L2.St} {H : Hp} {Q : VK} {K : PySem.W.Frag} {vs : List Nat} (q1 : dLcT K tl g tt te vs σ H Q) : tLc (iTup K (mE tl)) g tt te vs σ H Q := ⟨_, q1, fun v H' q2 => by
  split at q2
  · exact ⟨_, rfl, q2.1, q2.2⟩
  · exact q2.elim⟩
theorem lc_r1 {σ : L2.St} {H : Hp} {Q : VK} {vs : List Nat} (q1 : dLcR1 ta g tt te vs σ H Q) : tLc (iRng1 (mA ta)) g tt te vs σ H Q := ⟨_, q1, fun v H' q2 => by
  split at q2
  · exact ⟨_, rfl, q2.1.1, q2.1.2, q2.2⟩
  · exact q2.elim⟩
theorem lc_r2 {σ : L2.St} {H : Hp} {Q : VK} {vs : List Nat} (q1 : dLcR2 ta g tt te vs σ H Q) : tLc (iRng2 (mA ta)) g tt te vs σ H Q := ⟨_, q1, fun v H' q2 => by
  split at q2
  · exact ⟨_, _, rfl, q2.1, q2.2⟩
  · exact q2.elim⟩
theorem d_lcL (hc : X.calm = true) (hN : X.N.Nodup) (hl : PE X e tl) (ok : BlkOk X.N X.env.scope scope own) (hg : BG X scope tg g) (ht : BT X scope ifs tt) (he : BE X scope elt te) (hs : ∀ x, foldedSetIterable e X.env x = pure x := by intro _; rfl) :
    PE X (.ListComp elt [⟨tg, e, ifs, 0⟩] scope pos) (dLcL X.K tl g tt te (own.map (·.2))) := peI (pe_lc hc hN (pi_list (peM hl)) ok hg ht he hs) fun _ _ _ q => lc_l q
theorem d_lcT (hc : X.calm = true) (hN : X.N.Nodup) (hl : PE X e tl) (ok : BlkOk X.N X.env.scope scope own) (hg : BG X scope tg g) (ht : BT X scope ifs tt) (he : BE X scope elt te) (hs : ∀ x, foldedSetIterable e X.env x = pure x := by intro _; rfl) :
    PE X (.ListComp elt [⟨tg, e, ifs, 0⟩] scope pos) (dLcT X.K tl g tt te (own.map (·.2))) := peI (pe_lc hc hN (pi_tup (peM hl)) ok hg ht he hs) fun _ _ _ q => lc_t q
theorem d_lcH (hot : L2H.HotC X) (hN : X.N.Nodup) (hl : PE X e tl) (ok : BlkOk X.N X.env.scope scope own) (hg : BG X scope tg g) (ht : BT X scope ifs tt) (he : BE X scope elt te) (hs : ∀ x, foldedSetIterable e X.env x = pure x := by intro _; rfl) :
    PE X (.ListComp elt [⟨tg, e, ifs, 0⟩] scope pos) (dLcL X.K tl g tt te (own.map (·.2))) := peI (pe_lcH hot hN (peM hl) ok hg ht he hs) fun _ _ _ q => lc_l q
theorem d_lcR1 (hc : X.calm = true) (hN : X.N.Nodup) (hm : X.mg "range" = none) (ha : PA X [a] ta) (ok : BlkOk X.N X.env.scope scope own) (hg : BG X scope tg g) (ht : BT X scope ifs tt) (he : BE X scope elt te) (hgl : Gl X "range" := by rfl)
    (hs : ∀ x, foldedSetIterable (.Call (.Name "range" p) [a] [] p2) X.env x = pure x := by intro _; rfl) (hst : starEach [a] X.env = [(false, eval a X.env)] := by rfl) :
    PE X (.ListComp elt [⟨tg, .Call (.Name "range" p) [a] [] p2, ifs, 0⟩] scope pos) (dLcR1 ta g tt te (own.map (·.2))) := peI (pe_lc hc hN (pi_range1 hgl hm (paM ha) hst) ok hg ht he hs) fun _ _ _ q => lc_r1 q
theorem d_lcR2 (hc : X.calm = true) (hN : X.N.Nodup) (hm : X.mg "range" = none) (ha : PA X [a, b] ta) (ok : BlkOk X.N X.env.scope scope own) (hg : BG X scope tg g) (ht : BT X scope ifs tt) (he : BE X scope elt te) (hgl : Gl X "range" := by rfl)
    (hs : ∀ x, foldedSetIterable (.Call (.Name "range" p) [a, b] [] p2) X.env x = pure x := by intro _; rfl) (hst : starEach [a, b] X.env = [(false, eval a X.env), (false, eval b X.env)] := by rfl) (hst2 : starEach [b] X.env = [(false, eval b X.env)] := by rfl) :
    PE X (.ListComp elt [⟨tg, .Call (.Name "range" p) [a, b] [] p2, ifs, 0⟩] scope pos) (dLcR2 ta g tt te (own.map (·.2))) := peI (pe_lc hc hN (pi_range2 hgl hm (paM ha) hst hst2) ok hg ht he hs) fun _ _ _ q => lc_r2 q
variable {i : Nat} {y : Str} {py spos : Pos}
theorem d_setL (hc : X.calm = true) (hN : X.N.Nodup) (hy : X.N[i]? = some y) (hyl : X.env.scope.names.lookup y = some .local) (hsw : swapsWith (.ListComp elt [⟨tg, e, ifs, 0⟩] scope pos) (some (.Name y py)) spos.line X.env = pure true)
    (hl : PE X e tl) (ok : BlkOk X.N X.env.scope scope own) (hg : BG X scope tg g) (ht : BT X scope ifs tt) (he : BE X scope elt te) (hs : ∀ x, foldedSetIterable e X.env x = pure x := by intro _; rfl) :
    PS X (.Assign [.Name y py] (.ListComp elt [⟨tg, e, ifs, 0⟩] scope pos) spos) (tAsg (dLcL X.K tl g tt te (own.map (·.2))) (gName i)) := psI (ps_setLc hc hN hy hyl hsw (pi_list (peM hl)) ok hg ht he hs) fun _ _ _ q => lc_l q
theorem d_setT (hc : X.calm = true) (hN : X.N.Nodup) (hy : X.N[i]? = some y) (hyl : X.env.scope.names.lookup y = some .local) (hsw : swapsWith (.ListComp elt [⟨tg, e, ifs, 0⟩] scope pos) (some (.Name y py)) spos.line X.env = pure true)
    (hl : PE X e tl) (ok : BlkOk X.N X.env.scope scope own) (hg : BG X scope tg g) (ht : BT X scope ifs tt) (he : BE X scope elt te) (hs : ∀ x, foldedSetIterable e X.env x = pure x := by intro _; rfl) :
    PS X (.Assign [.Name y py] (.ListComp elt [⟨tg, e, ifs, 0⟩] scope pos) spos) (tAsg (dLcT X.K tl g tt te (own.map (·.2))) (gName i)) := psI (ps_setLc hc hN hy hyl hsw (pi_tup (peM hl)) ok hg ht he hs) fun _ _ _ q => lc_t q
theorem d_setR1 (hc : X.calm = true) (hN : X.N.Nodup) (hy : X.N[i]? = some y) (hyl : X.env.scope.names.lookup y = some .local) (hsw : swapsWith (.ListComp elt [⟨tg, .Call (.Name "range" p) [a] [] p2, ifs, 0⟩] scope pos) (some (.Name y py)) spos.line X.env = pure true)
    (hm : X.mg "range" = none) (ha : PA X [a] ta) (ok : BlkOk X.N X.env.scope scope own) (hg : BG X scope tg g) (ht : BT X scope ifs tt) (he : BE X scope elt te) (hgl : Gl X "range" := by rfl)
    (hs : ∀ x, foldedSetIterable (.Call (.Name "range" p) [a] [] p2) X.env x = pure x := by intro _; rfl) (hst : starEach [a] X.env = [(false, eval a X.env)] := by rfl) :
    PS X (.Assign [.Name y py] (.ListComp elt [⟨tg, .Call (.Name "range" p) [a] [] p2, ifs, 0⟩] scope pos) spos) (tAsg (dLcR1 ta g tt te (own.map (·.2))) (gName i)) := psI (ps_setLc hc hN hy hyl hsw (pi_range1 hgl hm (paM ha) hst) ok hg ht he hs) fun _ _ _ q => lc_r1 q
end
/-! ### how loops and comprehensions are answered -/
/-- what stands as a tuple stays so -/
def KT (H H' : Hp) : Prop := ∀ a xs, H a = some (.tup xs) → H' a = some (.tup xs)
theorem KT.refl (H : Hp) : KT H H := fun _ _ h => h
theorem KT.trans {H H1 H2 : Hp} (a : KT H H1) (b : KT H1 H2) : KT H H2 := fun c o h => b c o (a c o h)
theorem KT.same {H H' : Hp} (s : Same H H') : KT H H' := fun a xs h => s a _ h
theorem KT.new {H : Hp} {p : Addr} {o : HO} (h : H p = none) : KT H (upd H p o) := fun a xs e => by rw [upd_ne (ne_of_none e h)]; exact e
theorem same_new {H : Hp} {p : Addr} {o : HO} (h : H p = none) : Same H (upd H p o) := fun a xs e => by rw [upd_ne (ne_of_none e h)]; exact e
theorem same_mut {H H' : Hp} {p : Addr} {o : HO} (s : Same H H') (h : H p = none) : Same H (upd H' p o) := fun a xs e => by rw [upd_ne (ne_of_none e h)]; exact s a _ e
def isTup : Option HO → Bool
  | some (.tup _) => true
  | _ => false
theorem KT.mut {H : Hp} {p : Addr} {o : HO} (h : isTup (H p) = false) : KT H (upd H p o) := fun a xs e => by
  rw [upd_ne (fun z => by rw [← z, e] at h; cases h)]
  exact e
theorem forL_go {K : PySem.W.Frag} {a : Addr} {xs : List V} {g : TG} {tb : TS} {D : Ends} {σ : L2.St} {H : Hp} (hq : SqL K H a xs) (Pv : Nat → L2.St → Hp → Prop) (h0 : Pv 0 σ H) (hl : ∀ i σ H, i ≤ xs.length → Pv i σ H → SqL K H a xs)
    (hs : ∀ i x σ H, xs[i]? = some x → Pv i σ H → g x σ H fun σ2 H2 => tb { D with nx := Pv (i + 1), ct := Pv (i + 1), bk := D.nx } σ2 H2) (hd : ∀ σ H, Pv xs.length σ H → D.nx σ H) : ForL K a g tb D σ H := ⟨⟨_, hq⟩, for_list Pv h0 hl hs hd⟩
theorem forT_go {K : PySem.W.Frag} {a : Addr} {xs : List V} {g : TG} {tb : TS} {D : Ends} {σ : L2.St} {H : Hp} (hq : SqT K H a xs) (Pv : Nat → L2.St → Hp → Prop) (h0 : Pv 0 σ H) (hl : ∀ i σ H, i ≤ xs.length → Pv i σ H → SqT K H a xs)
    (hs : ∀ i x σ H, xs[i]? = some x → Pv i σ H → g x σ H fun σ2 H2 => tb { D with nx := Pv (i + 1), ct := Pv (i + 1), bk := D.nx } σ2 H2) (hd : ∀ σ H, Pv xs.length σ H → D.nx σ H) : ForT K a g tb D σ H := ⟨⟨_, hq⟩, for_tup Pv h0 hl hs hd⟩
theorem forR_go {lo : Int} {n : Nat} {g : TG} {tb : TS} {D : Ends} {σ : L2.St} {H : Hp} (Pv : Nat → L2.St → Hp → Prop) (h0 : Pv 0 σ H)
    (hs : ∀ i σ H, i < n → Pv i σ H → g (.int (lo + i)) σ H fun σ2 H2 => tb { D with nx := Pv (i + 1), ct := Pv (i + 1), bk := D.nx } σ2 H2) (hd : ∀ σ H, Pv n σ H → D.nx σ H) : ForR lo n g tb D σ H := for_range Pv h0 hs hd
/-- one turn of a comprehension: kept with a value, or left out -/
abbrev LcTurn (g : TG) (tt : TT) (te : TE) (vs : List Nat) (σ : L2.St) (x : V) (H : Hp) (k1 : VK) (k0 : Hp → Prop) : Prop :=
  g x (wipe σ vs) H fun σ2 H2 => wipe σ2 vs = wipe σ vs ∧ tt σ2 H2 fun b H3 => if b = true then te σ2 H3 k1 else k0 H3
theorem paired_app {α β : Type} {F : α → β → Prop} : ∀ {l₁ : List α} {l₂ : List β} {m₁ : List α} {m₂ : List β}, Paired F l₁ l₂ → Paired F m₁ m₂ → Paired F (l₁ ++ m₁) (l₂ ++ m₂)
  | _, _, _, _, .nil, h => h
  | _, _, _, _, .cons r t, h => .cons r (paired_app t h)
theorem lcL_core {K : PySem.W.Frag} {a : Addr} {xs : List V} {g : TG} {tt : TT} {te : TE} {vs : List Nat} {σ : L2.St} {H1 : Hp} {Q : VK} (hq : SqL K H1 a xs) (hz : xs.length ≤ 1000000) (f : V → Bool) (R : V → V → Hp → Prop)
    (st : ∀ x y H H', KT H H' → R x y H → R x y H')
    (turn : ∀ x ∈ xs, ∀ H, Same H1 H → ∀ (k1 : VK) (k0 : Hp → Prop), (f x = true → ∀ y H', Same H H' → R x y H' → k1 y H') → (f x = false → ∀ H', Same H H' → k0 H') → LcTurn g tt te vs σ x H k1 k0)
    (hd : ∀ D H ys, H1 D = none → Same H1 H → H D = some (.lst ys) → Paired (fun x y => R x y H) (xs.filter f) ys → Q (.ref D) H) : LcL K a g tt te vs σ H1 Q := by
  refine ⟨⟨_, hq⟩, fun D hD => lc_list (K := K) (a := a) (xs := xs) (fun i H => Same H1 H ∧ ∃ ys, H D = some (.lst ys) ∧ ys.length ≤ i ∧ Paired (fun x y => R x y H) ((xs.take i).filter f) ys) ⟨same_new hD, [], upd_same, Nat.le_refl _, .nil⟩ (fun i H _ p => p.1.seq hq) ?_ ?_⟩
  · rintro i x H hx ⟨s, ys, hDs, hy, pr⟩
    have hlt := (List.getElem?_eq_some_iff.mp hx).1
    have e1 : xs.take (i + 1) = xs.take i ++ [x] := by rw [List.take_succ, hx]; rfl
    refine turn x (List.mem_of_getElem? hx) H s _ _ (fun hf y H' s' r => ⟨ys, s' D _ hDs, Nat.lt_of_le_of_lt hy (by rw [sizeLine_eq]; omega), same_mut (s.trans s') hD, ys ++ [y], upd_same, by rw [List.length_append]; exact Nat.succ_le_succ hy, ?_⟩) fun hf H' s' => ⟨s.trans s', ys, s' D _ hDs, Nat.le_succ_of_le hy, ?_⟩
    · have kt : KT H (upd H' D (.lst (ys ++ [y]))) := (KT.same s').trans (KT.mut (by rw [s' D _ hDs]; rfl))
      have kt2 : KT H' (upd H' D (.lst (ys ++ [y]))) := KT.mut (by rw [s' D _ hDs]; rfl)
      rw [e1, List.filter_append, List.filter_cons, if_pos hf]
      exact paired_app (Paired.mapP pr fun _ _ z => st _ _ _ _ kt z) (.cons (st _ _ _ _ kt2 r) .nil)
    · rw [e1, List.filter_append, List.filter_cons, if_neg (by rw [hf]; decide), List.filter_nil, List.append_nil]
      exact Paired.mapP pr fun _ _ z => st _ _ _ _ (KT.same s') z
  · rintro H ⟨s, ys, hDs, hy, pr⟩
    rw [List.take_length] at pr
    exact hd D H ys hD s hDs pr
/-! ### isinstance of built-in values -/
def tyName (x : V) (H : Hp) : Option String := match x with
  | .int _ => some "int"
  | .bl _ => some "bool"
  | .non => some "NoneType"
  | .str _ => some "str"
  | .ref p => match H p with
    | some (.lst _) => some "list"
    | some (.tup _) => some "tuple"
    | some (.dK _) => some "dict"
    | _ => none
  | _ => none
def isK (a b : String) : Bool := (kitB a b).getD false
def isKnown (a b : String) : Bool := (kitB a b).isSome
def dIsi : List V → Hp → VK → Prop := fun xs H Q => match xs with
  | [x, .ty n] => match tyName x H with
    | some a => isKnown a n = true ∧ Q (.bl (isK a n)) H
    | none => False
  | _ => False
theorem tyName_of {K : PySem.W.Frag} {x : V} {H : Hp} {a : String} (h : tyName x H = some a) : TyX K H x (.type a) := by
  unfold tyName at h
  split at h
  · cases h; exact .base (.int _)
  · cases h; exact .base (.bl _)
  · cases h; exact .base .non
  · cases h; exact .base (.str _)
  · split at h
    · rename_i e
      cases h
      exact .base (.lst e)
    · rename_i e
      cases h
      exact .base (.tup e)
    · rename_i e
      cases h
      exact .base (.dK e)
    · cases h
  · cases h
section
variable {X : Cx}
theorem d_isi : CallR X (.builtin "isinstance") dIsi := caM (call_isi (X := X)) fun xs H Q q => by
  unfold dIsi at q
  split at q
  · split at q
    · rename_i n _ a e
      obtain ⟨k, q⟩ := q
      refine ⟨_, _, _, _, isK a n, rfl, .ty n, tyName_of e, ?_, q⟩
      refine kit_ty ?_
      unfold isKnown at k
      unfold isK
      obtain ⟨b, hb⟩ := Option.isSome_iff_exists.mp k
      rw [hb] <;> rfl
    · exact q.elim
  · exact q.elim
end
theorem is_int_int : isK "int" "int" = true := by decide +kernel
theorem kn_int_int : isKnown "int" "int" = true := by decide +kernel
theorem is_int_bool : isK "int" "bool" = false := by decide +kernel
theorem kn_int_bool : isKnown "int" "bool" = true := by decide +kernel
theorem is_int_str : isK "int" "str" = false := by decide +kernel
theorem kn_int_str : isKnown "int" "str" = true := by decide +kernel
theorem is_int_list : isK "int" "list" = false := by decide +kernel
theorem kn_int_list : isKnown "int" "list" = true := by decide +kernel
theorem is_int_tuple : isK "int" "tuple" = false := by decide +kernel
theorem kn_int_tuple : isKnown "int" "tuple" = true := by decide +kernel
theorem is_int_dict : isK "int" "dict" = false := by decide +kernel
theorem kn_int_dict : isKnown "int" "dict" = true := by decide +kernel
theorem is_bool_int : isK "bool" "int" = true := by decide +kernel
theorem kn_bool_int : isKnown "bool" "int" = true := by decide +kernel
theorem is_bool_bool : isK "bool" "bool" = true := by decide +kernel
theorem kn_bool_bool : isKnown "bool" "bool" = true := by decide +kernel
theorem is_bool_str : isK "bool" "str" = false := by decide +kernel
theorem kn_bool_str : isKnown "bool" "str" = true := by decide +kernel
theorem is_bool_list : isK "bool" "list" = false := by decide +kernel
theorem kn_bool_list : isKnown "bool" "list" = true := by decide +kernel
theorem is_bool_tuple : isK "bool" "tuple" = false := by decide +kernel
theorem kn_bool_tuple : isKnown "bool" "tuple" = true := by decide +kernel
theorem is_bool_dict : isK "bool" "dict" = false := by decide +kernel
theorem kn_bool_dict : isKnown "bool" "dict" = true := by decide +kernel
theorem is_NoneType_int : isK "NoneType" "int" = false := by decide +kernel
theorem kn_NoneType_int : isKnown "NoneType" "int" = true := by decide +kernel
theorem is_NoneType_bool : isK "NoneType" "bool" = false := by decide +kernel
theorem kn_NoneType_bool : isKnown "NoneType" "bool" = true := by decide +kernel
theorem is_NoneType_str : isK "NoneType" "str" = false := by decide +kernel
theorem kn_NoneType_str : isKnown "NoneType" "str" = true := by decide +kernel
theorem is_NoneType_list : isK "NoneType" "list" = false := by decide +kernel
theorem kn_NoneType_list : isKnown "NoneType" "list" = true := by decide +kernel
theorem is_NoneType_tuple : isK "NoneType" "tuple" = false := by decide +kernel
theorem kn_NoneType_tuple : isKnown "NoneType" "tuple" = true := by decide +kernel
theorem is_NoneType_dict : isK "NoneType" "dict" = false := by decide +kernel
theorem kn_NoneType_dict : isKnown "NoneType" "dict" = true := by decide +kernel
theorem is_str_int : isK "str" "int" = false := by decide +kernel
theorem kn_str_int : isKnown "str" "int" = true := by decide +kernel
theorem is_str_bool : isK "str" "bool" = false := by decide +kernel
theorem kn_str_bool : isKnown "str" "bool" = true := by decide +kernel
theorem is_str_str : isK "str" "str" = true := by decide +kernel
theorem kn_str_str : isKnown "str" "str" = true := by decide +kernel
theorem is_str_list : isK "str" "list" = false := by decide +kernel
theorem kn_str_list : isKnown "str" "list" = true := by decide +kernel
theorem is_str_tuple : isK "str" "tuple" = false := by decide +kernel
theorem kn_str_tuple : isKnown "str" "tuple" = true := by decide +kernel
theorem is_str_dict : isK "str" "dict" = false := by decide +kernel
theorem kn_str_dict : isKnown "str" "dict" = true := by decide +kernel
theorem is_list_int : isK "list" "int" = false := by decide +kernel
theorem kn_list_int : isKnown "list" "int" = true := by decide +kernel
theorem is_list_bool : isK "list" "bool" = false := by decide +kernel
theorem kn_list_bool : isKnown "list" "bool" = true := by decide +kernel
theorem is_list_str : isK "list" "str" = false := by decide +kernel
theorem kn_list_str : isKnown "list" "str" = true := by decide +kernel
theorem is_list_list : isK "list" "list" = true := by decide +kernel
theorem kn_list_list : isKnown "list" "list" = true := by decide +kernel
theorem is_list_tuple : isK "list" "tuple" = false := by decide +kernel
theorem kn_list_tuple : isKnown "list" "tuple" = true := by decide +kernel
theorem is_list_dict : isK "list" "dict" = false := by decide +kernel
theorem kn_list_dict : isKnown "list" "dict" = true := by decide +kernel
theorem is_tuple_int : isK "tuple" "int" = false := by decide +kernel
theorem kn_tuple_int : isKnown "tuple" "int" = true := by decide +kernel
theorem is_tuple_bool : isK "tuple" "bool" = false := by decide +kernel
theorem kn_tuple_bool : isKnown "tuple" "bool" = true := by decide +kernel
theorem is_tuple_str : isK "tuple" "str" = false := by decide +kernel
theorem kn_tuple_str : isKnown "tuple" "str" = true := by decide +kernel
theorem is_tuple_list : isK "tuple" "list" = false := by decide +kernel
theorem kn_tuple_list : isKnown "tuple" "list" = true := by decide +kernel
theorem is_tuple_tuple : isK "tuple" "tuple" = true := by decide +kernel
theorem kn_tuple_tuple : isKnown "tuple" "tuple" = true := by decide +kernel
theorem is_tuple_dict : isK "tuple" "dict" = false := by decide +kernel
theorem kn_tuple_dict : isKnown "tuple" "dict" = true := by decide +kernel
theorem is_dict_int : isK "dict" "int" = false := by decide +kernel
theorem kn_dict_int : isKnown "dict" "int" = true := by decide +kernel
theorem is_dict_bool : isK "dict" "bool" = false := by decide +kernel
theorem kn_dict_bool : isKnown "dict" "bool" = true := by decide +kernel
theorem is_dict_str : isK "dict" "str" = false := by decide +kernel
theorem kn_dict_str : isKnown "dict" "str" = true := by decide +kernel
theorem is_dict_list : isK "dict" "list" = false := by decide +kernel
theorem kn_dict_list : isKnown "dict" "list" = true := by decide +kernel
theorem is_dict_tuple : isK "dict" "tuple" = false := by decide +kernel
theorem kn_dict_tuple : isKnown "dict" "tuple" = true := by decide +kernel
theorem is_dict_dict : isK "dict" "dict" = true := by decide +kernel
theorem kn_dict_dict : isKnown "dict" "dict" = true := by decide +kernel
theorem lcR_core {lo : Int} {n : Nat} {g : TG} {tt : TT} {te : TE} {vs : List Nat} {σ : L2.St} {H1 : Hp} {Q : VK} (hz : n ≤ 1000000) (f : Nat → Bool) (R : Nat → V → Hp → Prop)
    (st : ∀ x y H H', KT H H' → R x y H → R x y H')
    (turn : ∀ (i : Nat), i < n → ∀ H, Same H1 H → ∀ (k1 : VK) (k0 : Hp → Prop), (f i = true → ∀ y H', Same H H' → R i y H' → k1 y H') → (f i = false → ∀ H', Same H H' → k0 H') → LcTurn g tt te vs σ (.int (lo + (i : Nat))) H k1 k0)
    (hd : ∀ D H ys, H1 D = none → Same H1 H → H D = some (.lst ys) → Paired (fun x y => R x y H) ((List.range n).filter f) ys → Q (.ref D) H) : LcJ (Itr lo n) g tt te vs σ H1 Q := by
  refine fun D hD => lc_range (lo := lo) (n := n) (fun i H => Same H1 H ∧ ∃ ys, H D = some (.lst ys) ∧ ys.length ≤ i ∧ Paired (fun x y => R x y H) ((List.range i).filter f) ys) ⟨same_new hD, [], upd_same, Nat.le_refl _, .nil⟩ ?_ ?_
  · rintro i H hlt ⟨s, ys, hDs, hy, pr⟩
    refine turn i hlt H s _ _ (fun hf y H' s' r => ⟨ys, s' D _ hDs, Nat.lt_of_le_of_lt hy (by rw [sizeLine_eq]; omega), same_mut (s.trans s') hD, ys ++ [y], upd_same, by rw [List.length_append]; exact Nat.succ_le_succ hy, ?_⟩) fun hf H' s' => ⟨s.trans s', ys, s' D _ hDs, Nat.le_succ_of_le hy, ?_⟩
    · have kt : KT H (upd H' D (.lst (ys ++ [y]))) := (KT.same s').trans (KT.mut (by rw [s' D _ hDs]; rfl))
      have kt2 : KT H' (upd H' D (.lst (ys ++ [y]))) := KT.mut (by rw [s' D _ hDs]; rfl)
      rw [List.range_succ, List.filter_append, List.filter_cons, if_pos hf]
      exact paired_app (Paired.mapP pr fun _ _ z => st _ _ _ _ kt z) (.cons (st _ _ _ _ kt2 r) .nil)
    · rw [List.range_succ, List.filter_append, List.filter_cons, if_neg (by rw [hf]; decide), List.filter_nil, List.append_nil]
      exact Paired.mapP pr fun _ _ z => st _ _ _ _ (KT.same s') z
  · rintro H ⟨s, ys, hDs, hy, pr⟩
    exact hd D H ys hD s hDs pr
/-! ### nested data, as it is tracked: to a depth -/
def AtomD (v : V) (d : PyData) : Prop := (v = .non ∧ d = .none) ∨ (∃ b, v = .bl b ∧ d = .bool b) ∨ (∃ i, v = .int i ∧ d = .int i) ∨ ∃ x, v = .str x ∧ d = .str x ∧ PyData.strOk x = true
def Da (H : Hp) : Nat → V → PyData → Prop
  | 0, v, d => AtomD v d
  | n + 1, v, d => AtomD v d ∨ (∃ (a : Addr) (xs : List V) (ds : List PyData), v = .ref a ∧ d = .list ds ∧ H a = some (.lst xs) ∧ xs.length ≤ 100000 ∧ Paired (Da H n) xs ds) ∨
    ∃ (a : Addr) (xs : List V) (ds : List PyData), v = .ref a ∧ d = .tuple ds ∧ H a = some (.tup xs) ∧ xs.length ≤ 100000 ∧ Paired (Da H n) xs ds
theorem AtomD.da {v : V} {d : PyData} {H : Hp} (h : AtomD v d) : ∀ {n : Nat}, Da H n v d
  | 0 => h
  | _ + 1 => .inl h
theorem Da.int {H : Hp} {n : Nat} {i : Int} : Da H n (.int i) (.int i) := AtomD.da (.inr (.inr (.inl ⟨i, rfl, rfl⟩)))
theorem Da.bl {H : Hp} {n : Nat} {i : Bool} : Da H n (.bl i) (.bool i) := AtomD.da (.inr (.inl ⟨i, rfl, rfl⟩))
theorem Da.non {H : Hp} {n : Nat} : Da H n .non .none := AtomD.da (.inl ⟨rfl, rfl⟩)
theorem Da.str {H : Hp} {n : Nat} {x : Str} (h : PyData.strOk x = true) : Da H n (.str x) (.str x) := AtomD.da (.inr (.inr (.inr ⟨x, rfl, rfl, h⟩)))
theorem Da.lst {H : Hp} {n : Nat} {a : Addr} {xs : List V} {ds : List PyData} (h : H a = some (.lst xs)) (hl : xs.length ≤ 100000) (p : Paired (Da H n) xs ds) : Da H (n + 1) (.ref a) (.list ds) := .inr (.inl ⟨a, xs, ds, rfl, rfl, h, hl, p⟩)
theorem Da.tup {H : Hp} {n : Nat} {a : Addr} {xs : List V} {ds : List PyData} (h : H a = some (.tup xs)) (hl : xs.length ≤ 100000) (p : Paired (Da H n) xs ds) : Da H (n + 1) (.ref a) (.tuple ds) := .inr (.inr ⟨a, xs, ds, rfl, rfl, h, hl, p⟩)
theorem Da.same {H H' : Hp} (s : Same H H') : ∀ {n : Nat} {v : V} {d : PyData}, Da H n v d → Da H' n v d
  | 0, _, _, h => h
  | n + 1, v, d, h => by
    rcases h with h | ⟨a, xs, ds, e1, e2, h, hl, p⟩ | ⟨a, xs, ds, e1, e2, h, hl, p⟩
    · exact .inl h
    · exact .inr (.inl ⟨a, xs, ds, e1, e2, s a _ h, hl, Paired.mapP p fun _ _ q => Da.same s q⟩)
    · exact .inr (.inr ⟨a, xs, ds, e1, e2, s a _ h, hl, Paired.mapP p fun _ _ q => Da.same s q⟩)
theorem AtomD.dp {K : PySem.W.Frag} {H : Hp} {v : V} {d : PyData} (h : AtomD v d) : Dp K H v d := by
  rcases h with ⟨rfl, rfl⟩ | ⟨b, rfl, rfl⟩ | ⟨b, rfl, rfl⟩ | ⟨x, rfl, rfl, _⟩
  · exact .non
  · exact .bl _
  · exact .int _
  · exact .str _
theorem dpAll {K : PySem.W.Frag} {H : Hp} : ∀ {xs : List V} {ds : List PyData}, Paired (Dp K H) xs ds → DpAll K H xs ds
  | _, _, .nil => .nil
  | _, _, .cons h t => .cons h (dpAll t)
theorem Da.dp {K : PySem.W.Frag} {H : Hp} : ∀ {n : Nat} {v : V} {d : PyData}, Da H n v d → Dp K H v d
  | 0, _, _, h => AtomD.dp h
  | n + 1, v, d, h => by
    rcases h with h | ⟨a, xs, ds, rfl, rfl, h, hl, p⟩ | ⟨a, xs, ds, rfl, rfl, h, hl, p⟩
    · exact AtomD.dp h
    · exact .lst (SqL.of h) (dpAll (Paired.mapP p fun _ _ q => Da.dp q))
    · exact .tup (SqT.of h) (dpAll (Paired.mapP p fun _ _ q => Da.dp q))
theorem AtomD.lay {v : V} {d : PyData} (h : AtomD v d) : d.canLay0 = true ∧ d.depth = 0 := by
  rcases h with ⟨rfl, rfl⟩ | ⟨b, rfl, rfl⟩ | ⟨b, rfl, rfl⟩ | ⟨x, rfl, rfl, hx⟩
  · exact ⟨by simp [PyData.canLay0], by simp [PyData.depth]⟩
  · exact ⟨by simp [PyData.canLay0], by simp [PyData.depth]⟩
  · exact ⟨by simp [PyData.canLay0], by simp [PyData.depth]⟩
  · exact ⟨by simpa [PyData.canLay0] using hx, by simp [PyData.depth]⟩
theorem Da.lays {H : Hp} {n : Nat} (ih : ∀ {v : V} {d : PyData}, Da H n v d → d.canLay0 = true ∧ d.depth ≤ n) : ∀ {xs : List V} {ds : List PyData}, Paired (Da H n) xs ds → PyData.canLayAll0 ds = true ∧ PyData.depthAll ds ≤ n
  | _, _, .nil => ⟨by simp [PyData.canLayAll0], by simp [PyData.depthAll]⟩
  | _, _, .cons h t => by
    obtain ⟨a, b⟩ := ih h
    obtain ⟨c, d⟩ := Da.lays ih t
    exact ⟨by simp [PyData.canLayAll0, a, c], by simp only [PyData.depthAll]; omega⟩
theorem Da.lay {H : Hp} : ∀ {n : Nat} {v : V} {d : PyData}, Da H n v d → d.canLay0 = true ∧ d.depth ≤ n
  | 0, _, _, h => ⟨(AtomD.lay h).1, Nat.le_of_eq (AtomD.lay h).2⟩
  | n + 1, v, d, h => by
    rcases h with h | ⟨a, xs, ds, rfl, rfl, h, hl, p⟩ | ⟨a, xs, ds, rfl, rfl, h, hl, p⟩
    · exact ⟨(AtomD.lay h).1, by have := (AtomD.lay h).2; omega⟩
    · obtain ⟨a, b⟩ := Da.lays (fun q => Da.lay q) p
      exact ⟨by simpa [PyData.canLay0] using a, by simp only [PyData.depth]; omega⟩
    · obtain ⟨a, b⟩ := Da.lays (fun q => Da.lay q) p
      exact ⟨by simpa [PyData.canLay0] using a, by simp only [PyData.depth]; omega⟩
theorem Da.shaped {H : Hp} {n : Nat} {v : V} {d : PyData} (h : Da H n v d) (hn : n ≤ 64) : SeqAt.shaped d = true := by
  obtain ⟨a, b⟩ := Da.lay h
  show (d.canLay0 && decide (d.depth ≤ 64)) = true
  rw [a, decide_eq_true (by omega)]
  rfl
theorem pairedAt {α β : Type} {F : α → β → Prop} : ∀ {l₁ : List α} {l₂ : List β} {i : Nat} {y : β}, Paired F l₁ l₂ → l₂[i]? = some y → ∃ x, l₁[i]? = some x ∧ F x y
  | _, _, _, _, .nil, e => by simp at e
  | _, _, 0, _, .cons r _, e => by simp at e; subst e; exact ⟨_, rfl, r⟩
  | _, _, i + 1, _, .cons _ t, e => by
    obtain ⟨x, h1, h2⟩ := pairedAt (i := i) t (by simpa using e)
    exact ⟨x, by simpa using h1, h2⟩
theorem paired_len {α β : Type} {F : α → β → Prop} : ∀ {l₁ : List α} {l₂ : List β}, Paired F l₁ l₂ → l₁.length = l₂.length
  | _, _, .nil => rfl
  | _, _, .cons _ t => congrArg (· + 1) (paired_len t)
/-- == of data that is the same -/
theorem eqD_same {K : PySem.W.Frag} {H : Hp} {Q : VK} {n : Nat} {x y : V} {d : PyData} (h : Da H n x d) (h' : Da H n y d) (hn : n ≤ 64) (q : Q (.bl true) H) : dEqD K x y H Q :=
  ⟨d, d, h.dp, h'.dp, h.shaped hn, h'.shaped hn, by rw [SeqAt.eqv_refl d h.lay.1]; exact q⟩
theorem neD_same {K : PySem.W.Frag} {H : Hp} {Q : VK} {n : Nat} {x y : V} {d : PyData} (h : Da H n x d) (h' : Da H n y d) (hn : n ≤ 64) (q : Q (.bl false) H) : dNeD K x y H Q :=
  ⟨d, d, h.dp, h'.dp, h.shaped hn, h'.shaped hn, by rw [SeqAt.eqv_refl d h.lay.1]; exact q⟩
theorem seqAt_lst {xs : List V} {k : List V → Prop} : seqAt (some (.lst xs)) k = k xs := rfl
theorem seqAt_tup {xs : List V} {k : List V → Prop} : seqAt (some (.tup xs)) k = k xs := rfl
theorem seqAt_frz {o : Obj} {xs : List V} {k : List V → Prop} : seqAt (some (.frz o (.lst xs))) k = k xs := rfl
theorem lstAt_lst {xs : List V} {k : List V → Prop} : lstAt (some (.lst xs)) k = k xs := rfl
theorem tupAt_tup {xs : List V} {k : List V → Prop} : tupAt (some (.tup xs)) k = k xs := rfl
theorem atK_of {xs : List V} {i : Int} {v : V} {k : V → Prop} (h : atI xs i = some v) : atK xs i k = k v := by
  unfold atK
  rw [h]
theorem atI_zero {x : V} {xs : List V} : atI (x :: xs) 0 = some x := atI_nat (j := 0) rfl
theorem atK_zero {x : V} {xs : List V} {k : V → Prop} : atK (x :: xs) 0 k = k x := atK_of atI_zero
theorem atI_one {x y : V} {xs : List V} : atI (x :: y :: xs) 1 = some y := atI_nat (j := 1) rfl
theorem atK_one {x y : V} {xs : List V} {k : V → Prop} : atK (x :: y :: xs) 1 k = k y := atK_of atI_one
theorem atK_last {x : V} {xs : List V} {k : V → Prop} : atK (xs ++ [x]) (-1) k = k x := atK_of (atI_last xs x)
theorem atK_nat {xs : List V} {i : Nat} {v : V} {k : V → Prop} (h : xs[i]? = some v) (q : k v) : atK xs (i : Int) k := by rw [atK_of (atI_nat h)]; exact q
theorem seqE {o : Option HO} {zs : List V} {k : List V → Prop} (h : seqAt o (· = zs)) (hk : k zs) : seqAt o k := by
  unfold seqAt at h ⊢
  split at h <;> first | (subst h; exact hk) | exact h.elim
/-- isinstance(e, C), e the exception at ax, of the class D -/
def dIsE (K : PySem.W.Frag) (D ax : Addr) : List V → Hp → VK → Prop := fun xs H Q => match xs with
  | [.ref a, .ref C] => a = ax ∧ match PySem.W.kitOne K (.ref D) (.ref C) with
    | some b => Q (.bl b) H
    | none => False
  | _ => False
section
variable {X : Cx}
theorem d_isP {a D : Addr} {oe : Obj} (C : ExcC X.K D) (hp : (a, oe) ∈ X.pn) (hz : Zc (.ref D) none oe) (hf : ∃ vs, oe.data = .fields vs) : CallR X (.builtin "isinstance") (dIsE X.K D a) := caM (call_isP C hp hz hf) fun xs H Q q => by
  unfold dIsE at q
  split at q
  · obtain ⟨rfl, q⟩ := q
    split at q
    · rename_i e
      exact ⟨_, _, _, rfl, fun u r => r, e, q⟩
    · exact q.elim
  · exact q.elim
end
theorem seq1 {t u : TS} {D : Ends} {σ : L2.St} {H : Hp} (h : t { D with nx := u D } σ H) : tSeq t u D σ H := h
theorem upd_none {H : Hp} {x r : Addr} {o : HO} (h : upd H x o r = none) : x ≠ r ∧ H r = none := by
  unfold upd at h
  split at h
  · cases h
  · rename_i n
    exact ⟨fun e => n e.symm, h⟩
theorem while_go {c : TT} {tb : TS} {D : Ends} {σ : L2.St} {H : Hp} (W : Nat → L2.St → Hp → Prop) (m : Nat) (h0 : W m σ H)
    (hs : ∀ m σ H, W m σ H → c σ H fun b H1 => if b = true then ∃ N : L2.St → Hp → Prop, (∀ σ' H', N σ' H' → ∃ m', m' < m ∧ W m' σ' H') ∧ tb { D with nx := N, ct := N, bk := D.nx } σ H1 else D.nx σ H1) : tWhile c tb D σ H := ⟨W, ⟨m, h0⟩, hs⟩
theorem upd_fresh {H : Hp} {x r : Addr} {o : HO} : (upd H x o r = none) = (x ≠ r ∧ H r = none) := propext ⟨upd_none, fun ⟨n, h⟩ => by rw [upd_ne (fun e => n e.symm)]; exact h⟩
theorem n00 : ((0 : Nat) : Int) = 0 := rfl
theorem posS {n : Nat} : ((0 : Int) < ((n + 1 : Nat) : Int)) = True := eq_true (by omega)
theorem eqS0 {n : Nat} : (((n + 1 : Nat) : Int) = 0) = False := eq_false (by omega)
theorem lt00 : ((0 : Int) < 0) = False := eq_false (by decide)
theorem turnN {W : Nat → L2.St → Hp → Prop} {m : Nat} {t : (L2.St → Hp → Prop) → Prop} (h : ∀ N : L2.St → Hp → Prop, (∀ m' σ' H', m' < m → W m' σ' H' → N σ' H') → t N) : ∃ N : L2.St → Hp → Prop, (∀ σ' H', N σ' H' → ∃ m', m' < m ∧ W m' σ' H') ∧ t N :=
  ⟨fun σ' H' => ∃ m', m' < m ∧ W m' σ' H', fun _ _ h => h, h _ fun m' σ' H' a b => ⟨m', a, b⟩⟩
theorem while_to {c : TT} {tb : TS} {D : Ends} {σ : L2.St} {H : Hp} (W : Nat → L2.St → Hp → Prop) (X : L2.St → Hp → Prop) (m : Nat) (h0 : W m σ H) (hx : ∀ σ H, X σ H → D.nx σ H)
    (hs : ∀ nx : L2.St → Hp → Prop, (∀ σ H, X σ H → nx σ H) → ∀ m σ H, W m σ H → c σ H fun b H1 => if b = true then ∃ N : L2.St → Hp → Prop, (∀ σ' H', N σ' H' → ∃ m', m' < m ∧ W m' σ' H') ∧ tb { D with nx := N, ct := N, bk := nx } σ H1 else nx σ H1) : tWhile c tb D σ H := ⟨W, ⟨m, h0⟩, hs D.nx hx⟩
theorem forL_to {K : PySem.W.Frag} {a : Addr} {xs : List V} {g : TG} {tb : TS} {D : Ends} {σ : L2.St} {H : Hp} (hq : SqL K H a xs) (Pv : Nat → L2.St → Hp → Prop) (X : L2.St → Hp → Prop) (h0 : Pv 0 σ H) (hl : ∀ i σ H, i ≤ xs.length → Pv i σ H → SqL K H a xs)
    (hd : ∀ σ H, Pv xs.length σ H → X σ H) (hx : ∀ σ H, X σ H → D.nx σ H)
    (hs : ∀ (N nx : L2.St → Hp → Prop), (∀ σ H, X σ H → nx σ H) → ∀ i x σ H, xs[i]? = some x → (∀ σ H, Pv (i + 1) σ H → N σ H) → Pv i σ H → g x σ H fun σ2 H2 => tb { D with nx := N, ct := N, bk := nx } σ2 H2) : ForL K a g tb D σ H := ⟨⟨_, hq⟩, for_list Pv h0 hl (fun i x σ H e p => hs (Pv (i + 1)) D.nx hx i x σ H e (fun _ _ h => h) p) fun σ H p => hx σ H (hd σ H p)⟩
theorem forT_to {K : PySem.W.Frag} {a : Addr} {xs : List V} {g : TG} {tb : TS} {D : Ends} {σ : L2.St} {H : Hp} (hq : SqT K H a xs) (Pv : Nat → L2.St → Hp → Prop) (X : L2.St → Hp → Prop) (h0 : Pv 0 σ H) (hl : ∀ i σ H, i ≤ xs.length → Pv i σ H → SqT K H a xs)
    (hd : ∀ σ H, Pv xs.length σ H → X σ H) (hx : ∀ σ H, X σ H → D.nx σ H)
    (hs : ∀ (N nx : L2.St → Hp → Prop), (∀ σ H, X σ H → nx σ H) → ∀ i x σ H, xs[i]? = some x → (∀ σ H, Pv (i + 1) σ H → N σ H) → Pv i σ H → g x σ H fun σ2 H2 => tb { D with nx := N, ct := N, bk := nx } σ2 H2) : ForT K a g tb D σ H := ⟨⟨_, hq⟩, for_tup Pv h0 hl (fun i x σ H e p => hs (Pv (i + 1)) D.nx hx i x σ H e (fun _ _ h => h) p) fun σ H p => hx σ H (hd σ H p)⟩
theorem forR_to {lo : Int} {n : Nat} {g : TG} {tb : TS} {D : Ends} {σ : L2.St} {H : Hp} (Pv : Nat → L2.St → Hp → Prop) (X : L2.St → Hp → Prop) (h0 : Pv 0 σ H)
    (hd : ∀ σ H, Pv n σ H → X σ H) (hx : ∀ σ H, X σ H → D.nx σ H)
    (hs : ∀ (N nx : L2.St → Hp → Prop), (∀ σ H, X σ H → nx σ H) → ∀ i σ H, i < n → (∀ σ H, Pv (i + 1) σ H → N σ H) → Pv i σ H → g (.int (lo + i)) σ H fun σ2 H2 => tb { D with nx := N, ct := N, bk := nx } σ2 H2) : ForR lo n g tb D σ H := for_range Pv h0 (fun i σ H e p => hs (Pv (i + 1)) D.nx hx i σ H e (fun _ _ h => h) p) fun σ H p => hx σ H (hd σ H p)
theorem le00 : ((0 : Int) ≤ 0) = True := eq_true (by decide)
theorem p63 : ((0 : Int) < 2 ^ 63) = True := eq_true (by decide)
theorem tn0 : Int.toNat 0 = 0 := rfl
theorem erz {α : Type} {x : α} {xs : List α} : (x :: xs).eraseIdx 0 = xs := rfl
theorem last_snoc {α : Type} {x : α} {xs : List α} : (xs ++ [x]).getLast? = some x := by simp
theorem drop_snoc {α : Type} {x : α} {xs : List α} : (xs ++ [x]).dropLast = xs := by simp
theorem len_snoc {α : Type} {x : α} {xs : List α} : (xs ++ [x]).length = xs.length + 1 := by simp
theorem pairedGet {α β : Type} {F : α → β → Prop} : ∀ {l₁ : List α} {l₂ : List β} {i : Nat} {x : α}, Paired F l₁ l₂ → l₁[i]? = some x → ∃ y, l₂[i]? = some y ∧ F x y
  | _, _, _, _, .nil, e => by simp at e
  | _, _, 0, _, .cons r _, e => by simp at e; subst e; exact ⟨_, rfl, r⟩
  | _, _, i + 1, _, .cons _ t, e => by
    obtain ⟨x, h1, h2⟩ := pairedGet (i := i) t (by simpa using e)
    exact ⟨x, by simpa using h1, h2⟩
/-- a comprehension over a list, whose values stand for those of another list -/
theorem lcL_pair {β : Type} {K : PySem.W.Frag} {a : Addr} {xs : List V} {ps : List β} {F : V → β → Prop} {g : TG} {tt : TT} {te : TE} {vs : List Nat} {σ : L2.St} {H1 : Hp} {Q : VK} (hq : SqL K H1 a xs) (pr : Paired F xs ps) (hz : xs.length ≤ 1000000) (f : β → Bool) (R : β → V → Hp → Prop)
    (st : ∀ x y H H', KT H H' → R x y H → R x y H')
    (turn : ∀ (i : Nat) (x : V) (p : β), xs[i]? = some x → ps[i]? = some p → F x p → ∀ H, Same H1 H → ∀ (k1 : VK) (k0 : Hp → Prop), (f p = true → ∀ y H', Same H H' → R p y H' → k1 y H') → (f p = false → ∀ H', Same H H' → k0 H') → LcTurn g tt te vs σ x H k1 k0)
    (hd : ∀ D H ys, H1 D = none → Same H1 H → H D = some (.lst ys) → Paired (fun p y => R p y H) (ps.filter f) ys → Q (.ref D) H) : LcL K a g tt te vs σ H1 Q := by
  refine ⟨⟨_, hq⟩, fun D hD => lc_list (K := K) (a := a) (xs := xs) (fun i H => Same H1 H ∧ ∃ ys, H D = some (.lst ys) ∧ ys.length ≤ i ∧ Paired (fun p y => R p y H) ((ps.take i).filter f) ys) ⟨same_new hD, [], upd_same, Nat.le_refl _, .nil⟩ (fun i H _ p => p.1.seq hq) ?_ ?_⟩
  · rintro i x H hx ⟨s, ys, hDs, hy, pq⟩
    have hlt := (List.getElem?_eq_some_iff.mp hx).1
    obtain ⟨p, hp, hF⟩ := pairedGet pr hx
    have e1 : ps.take (i + 1) = ps.take i ++ [p] := by rw [List.take_succ, hp]; rfl
    refine turn i x p hx hp hF H s _ _ (fun hf y H' s' r => ⟨ys, s' D _ hDs, Nat.lt_of_le_of_lt hy (by rw [sizeLine_eq]; omega), same_mut (s.trans s') hD, ys ++ [y], upd_same, by rw [List.length_append]; exact Nat.succ_le_succ hy, ?_⟩) fun hf H' s' => ⟨s.trans s', ys, s' D _ hDs, Nat.le_succ_of_le hy, ?_⟩
    · have kt : KT H (upd H' D (.lst (ys ++ [y]))) := (KT.same s').trans (KT.mut (by rw [s' D _ hDs]; rfl))
      have kt2 : KT H' (upd H' D (.lst (ys ++ [y]))) := KT.mut (by rw [s' D _ hDs]; rfl)
      rw [e1, List.filter_append, List.filter_cons, if_pos hf]
      exact paired_app (Paired.mapP pq fun _ _ z => st _ _ _ _ kt z) (.cons (st _ _ _ _ kt2 r) .nil)
    · rw [e1, List.filter_append, List.filter_cons, if_neg (by rw [hf]; decide), List.filter_nil, List.append_nil]
      exact Paired.mapP pq fun _ _ z => st _ _ _ _ (KT.same s') z
  · rintro H ⟨s, ys, hDs, hy, pq⟩
    have hlen : ps.length = xs.length := (paired_len pr).symm
    rw [← hlen, List.take_length] at pq
    exact hd D H ys hD s hDs pq
theorem paired_map {α β : Type} {f : α → β} {xs : List α} {ys : List β} (h : Paired (fun x y => y = f x) xs ys) : ys = xs.map f := by
  induction h with
  | nil => rfl
  | cons e _ ih => rw [List.map_cons, ← e, ih]
theorem eqD_da {K : PySem.W.Frag} {H : Hp} {Q : VK} {n : Nat} {x y : V} {d e : PyData} (h : Da H n x d) (h' : Da H n y e) (hn : n ≤ 64) (q : Q (.bl (PyData.eqv d e)) H) : dEqD K x y H Q := ⟨d, e, h.dp, h'.dp, h.shaped hn, h'.shaped hn, q⟩
theorem neD_da {K : PySem.W.Frag} {H : Hp} {Q : VK} {n : Nat} {x y : V} {d e : PyData} (h : Da H n x d) (h' : Da H n y e) (hn : n ≤ 64) (q : Q (.bl (!PyData.eqv d e)) H) : dNeD K x y H Q := ⟨d, e, h.dp, h'.dp, h.shaped hn, h'.shaped hn, q⟩
theorem da_ints {H : Hp} {n : Nat} : ∀ {ns : List Int}, Paired (Da H n) (ns.map V.int) (ns.map PyData.int)
  | [] => .nil
  | _ :: _ => .cons Da.int da_ints
theorem da_lints {H : Hp} {n : Nat} {a : Addr} {ns : List Int} (h : H a = some (.lst (ns.map V.int))) (hl : ns.length ≤ 100000) : Da H (n + 1) (.ref a) (.list (ns.map PyData.int)) := Da.lst h (by rw [List.length_map]; exact hl) da_ints
theorem da_nil {H : Hp} {n : Nat} {a : Addr} (h : H a = some (.lst [])) : Da H (n + 1) (.ref a) (.list []) := Da.lst h (Nat.zero_le _) .nil
theorem eqv_cons_nil {x : PyData} {xs : List PyData} : PyData.eqv (.list (x :: xs)) (.list []) = false := by simp [PyData.eqv, PyData.eqvAll]
theorem eqv_nil_nil : PyData.eqv (.list []) (.list []) = true := by simp [PyData.eqv, PyData.eqvAll]
theorem same_upd {H H1 : Hp} {p : Addr} {o : HO} (s : Same H H1) (h : H1 p = none) : Same H (upd H1 p o) := s.trans (same_new h)
/-- a statement, and then what follows, by what stands between -/
theorem seq_to {t u : TS} {D : Ends} {σ : L2.St} {H : Hp} (X : L2.St → Hp → Prop) (h : ∀ nx : L2.St → Hp → Prop, (∀ σ H, X σ H → nx σ H) → t { D with nx := nx } σ H) (hu : ∀ σ H, X σ H → u D σ H) : tSeq t u D σ H := h (u D) hu
structure GlAt (K : PySem.W.Frag) (mg : Str → Option Value) (x : Str) (C : Addr) : Prop where
  g : mg x = some (.ref C)
theorem kitCls_of {K : PySem.W.Frag} {C : Addr} {t : Value} {b : Bool} (h2 : PySem.W.isClsIn K C = true) (h3 : PySem.W.typeIn K (.ref C) = some (.type "type")) (h4 : PySem.W.subIn K t (.ref C) = some b) : PySem.W.kitCls K t (.ref C) = some b := by
  have e2 : ((PySem.W.clsIn K C).isSome && PySem.W.typeIn K (.ref C) == some (.type "type")) = true := by
    have h2' : (PySem.W.clsIn K C).isSome = true := h2
    rw [h2', h3] <;> rfl
  show (if ((PySem.W.clsIn K C).isSome && PySem.W.typeIn K (.ref C) == some (.type "type")) = true then PySem.W.subIn K t (.ref C) else none) = some b
  rw [if_pos e2]
  exact h4
theorem exm_of {K : PySem.W.Frag} {C : Addr} {t : Value} {b : Bool} (h1 : PySem.W.subIn K (.ref C) (.type "BaseException") = some true) (h2 : PySem.W.isClsIn K C = true) (h3 : PySem.W.typeIn K (.ref C) = some (.type "type")) (h4 : PySem.W.subIn K t (.ref C) = some b) : PySem.W.exmOne K t (.ref C) = some b := by
  have e1 : (PySem.W.subIn K (.ref C) (.type "BaseException") == some true) = true := by rw [h1] <;> rfl
  unfold PySem.W.exmOne
  rw [if_pos e1]
  exact kitCls_of h2 h3 h4
theorem ref_beq {C D : Addr} (h : C ≠ D) : (Value.ref C == Value.ref D) = false := by
  rw [beq_eq_false_iff_ne]
  intro e
  cases e
  exact h rfl
theorem kit_self {K : PySem.W.Frag} {C : Addr} : PySem.W.kitOne K (.ref C) (.ref C) = some true := by
  unfold PySem.W.kitOne
  rw [if_pos (beq_self_eq_true _)]
theorem kit_yes {K : PySem.W.Frag} {C D : Addr} (h2 : PySem.W.isClsIn K C = true) (h3 : PySem.W.typeIn K (.ref C) = some (.type "type")) (h4 : PySem.W.subIn K (.ref D) (.ref C) = some true) : PySem.W.kitOne K (.ref D) (.ref C) = some true := by
  unfold PySem.W.kitOne
  split
  · rfl
  · exact kitCls_of h2 h3 h4
theorem kit_no {K : PySem.W.Frag} {C D : Addr} (n : D ≠ C) (h2 : PySem.W.isClsIn K C = true) (h3 : PySem.W.typeIn K (.ref C) = some (.type "type")) (h4 : PySem.W.subIn K (.ref D) (.ref C) = some false) : PySem.W.kitOne K (.ref D) (.ref C) = some false := by
  unfold PySem.W.kitOne
  rw [if_neg (by rw [ref_beq n]; decide)]
  exact kitCls_of h2 h3 h4
/-! ### more readings by cases: slices, in, count, items set, the other way round -/
def dPart (t : TE) : TO := fun σ H Q => t σ H fun x H1 => match x with
  | .int i => Q (some i) H1
  | _ => False
def wholeV (xs : List V) (lo hi : Option Int) : Prop := HT.sIx xs.length 0 lo = 0 ∧ HT.sIx xs.length xs.length hi = xs.length
def dSl : V → Option Int → Option Int → Hp → VK → Prop := fun x lo hi H Q => match x with
  | .ref a => match H a with
    | some (.lst xs) => ∀ p, H p = none → Q (.ref p) (upd H p (.lst (cutV xs lo hi)))
    | some (.tup xs) => (wholeV xs lo hi → Q (.ref a) H) ∧ (¬ wholeV xs lo hi → ∀ p, H p = none → Q (.ref p) (upd H p (.tup (cutV xs lo hi))))
    | _ => False
  | .str z => z.length ≤ sizeLine ∧ Q (.str (cutS z lo hi)) H
  | _ => False
def dRevL (te : TE) : TE := fun σ H Q => te σ H fun x H1 => match x with
  | .ref a => seqLst (H1 a) fun xs => ∀ p, H1 p = none → Q (.ref p) (upd H1 p (.lst xs.reverse))
  | _ => False
where seqLst (o : Option HO) (k : List V → Prop) : Prop := match o with
  | some (.lst xs) => k xs
  | _ => False
def cntV (x : V) (xs : List V) : Nat := xs.countP fun y => eqV y x
def dCnt : V → List V → Hp → VK → Prop := fun x xs H Q => match x, xs with
  | .ref a, [y] => lstAt (H a) fun ys => flatV y = true ∧ ys.all flatV = true ∧ Q (.int (cntV y ys : Nat)) H
  | _, _ => False
/-- one text in another -/
def inS (i j : Str) : Bool := !(Builtin.Str.occurrences j i 0 j.length 1).isEmpty
def dIn : R2 := fun x y H Q => match y with
  | .ref p => seqAt (H p) fun xs => flatV x = true ∧ xs.all flatV = true ∧ Q (.bl (inV x xs)) H
  | .str j => match x with
    | .str i => Q (.bl (inS i j)) H
    | _ => False
  | _ => False
def dNotIn : R2 := fun x y H Q => match y with
  | .ref p => seqAt (H p) fun xs => flatV x = true ∧ xs.all flatV = true ∧ Q (.bl (!inV x xs)) H
  | .str j => match x with
    | .str i => Q (.bl (!inS i j)) H
    | _ => False
  | _ => False
def dSetL : TSet := fun o i v H Q => match o, i with
  | .ref p, .int k => match H p with
    | some (.lst xs) => 0 ≤ k ∧ k < xs.length ∧ Q (upd H p (.lst (xs.set k.toNat v)))
    | _ => False
  | _, _ => False
section
variable {X : Cx}
theorem po_d {e : Expr} {t : TE} (he : PE X e t) : PO X (some e) (dPart t) := by
  have h := po_some (peM he)
  refine ⟨fun pins s σ H Q I q => h.run pins s σ H Q I ⟨_, q, fun v H' q2 => ?_⟩⟩
  split at q2
  · exact ⟨_, rfl, q2⟩
  · exact q2.elim
theorem slM {r r' : V → Option Int → Option Int → Hp → VK → Prop} (h : SlR X r) (i : ∀ x lo hi H Q, r' x lo hi H Q → r x lo hi H Q) : SlR X r' := fun pins s σ H x v vl vu lo hi sl Q I rx hs pl pu q => h pins s σ H x v vl vu lo hi sl Q I rx hs pl pu (i _ _ _ _ _ q)
theorem d_sl : SlR X dSl := slM (SlR.or (SlR.or sl_list sl_tupA) sl_str) fun x lo hi H Q q => by
  unfold dSl at q
  split at q
  · split at q
    · rename_i xs e
      exact .inl (.inl ⟨_, xs, rfl, .inl (.inl e), q⟩)
    · rename_i xs e
      exact .inl (.inr ⟨_, xs, rfl, .inl (.inl e), q.1, q.2⟩)
    · exact q.elim
  · exact .inr ⟨_, rfl, q.1, q.2⟩
  · exact q.elim
theorem d_revL {e : Expr} {te : TE} {k : Nat} {p1 p2 p3 pos : Pos} (he : PE X e te) : PE X (.Subscript e (.Slice none none (some (.UnaryOp .USub (.Constant (.int 1) k p1) p2)) p3) pos) (dRevL te) := peI (pe_revL (peM he)) fun σ H Q q => ⟨_, q, fun v H' q2 => by
  split at q2
  · unfold dRevL.seqLst at q2
    split at q2
    · rename_i xs e
      exact ⟨_, xs, rfl, .inl (.inl e), q2⟩
    · exact q2.elim
  · exact q2.elim⟩
theorem eqU_count {y : V} : ∀ {xs : List V} {us : List Value}, Vals xs us → xs.all flatV = true → us.countP (eqU y) = cntV y xs
  | _, _, .nil, _ => rfl
  | x :: xs, u :: us, .cons r t, f => by
    rw [List.all_cons, Bool.and_eq_true] at f
    unfold cntV
    rw [List.countP_cons, List.countP_cons, eqU_of r f.1, eqU_count t f.2]
    rfl
theorem m_count : MtR X "list.count" dCnt := by
  intro pins s σ H x xs v us Q I rx rxs q
  unfold dCnt at q
  split at q
  · rename_i a y
    obtain ⟨ys, hs, fy, fys, q⟩ := lstAt_sq (K := X.K) q
    cases rx
    cases rxs with
    | cons ry rt =>
      rename_i uy ut
      cases rt
      obtain ⟨its, rv, ⟨⟨cls, dd, data, sl⟩, n, ho, hc, hdn, hd⟩, hlen⟩ := I.list hs
      simp only at hc hd
      subst hc hd
      refine call_meets PySem.F.slot_list_count ⟨_, ho, rfl⟩ PySem.F.entry_list_count (PySem.F.args_list_count_2 _ _)
        (SeqAt.list_countAt a its.toArray n dd sl uy (eqU y)) ⟨ho, fun u' hu' => mem_eqAt ry fy rv fys u' (by simpa using hu'), ?_⟩
      have ec : its.toArray.toList.countP (eqU y) = cntV y ys := eqU_count rv fys
      refine ⟨.int (cntV y ys : Nat), H, I.tok _, ⟨s.toks, ?_⟩, q⟩
      show Value.int ((its.toArray.toList.countP (eqU y) : Nat) : Int) s.toks = Value.int ((cntV y ys : Nat) : Int) s.toks
      rw [ec]
  · exact q.elim
theorem d_in : OpR X (compareOp .In) dIn := opM (OpR.or op_in_seq op_in_str) fun x y H Q q => by
  unfold dIn at q
  split at q
  · obtain ⟨xs, hs, f, fs, q⟩ := seqAt_sq (K := X.K) q
    exact .inl ⟨_, xs, rfl, hs, f, fs, q⟩
  · split at q
    · exact .inr ⟨_, _, rfl, rfl, q⟩
    · exact q.elim
  · exact q.elim
theorem d_notin : OpR X (compareOp .NotIn) dNotIn := opM (OpR.or op_notIn_seq op_notIn_str) fun x y H Q q => by
  unfold dNotIn at q
  split at q
  · obtain ⟨xs, hs, f, fs, q⟩ := seqAt_sq (K := X.K) q
    exact .inl ⟨_, xs, rfl, hs, f, fs, q⟩
  · split at q
    · exact .inr ⟨_, _, rfl, rfl, q⟩
    · exact q.elim
  · exact q.elim
theorem setM {t t' : TSet} (h : PSet X t) (i : ∀ o k v H Q, t' o k v H Q → t o k v H Q) : PSet X t' := fun pins s σ H o k v ov iv u Q I ro ri rv q => h pins s σ H o k v ov iv u Q I ro ri rv (i _ _ _ _ _ q)
theorem s_setL : PSet X dSetL := setM set_list fun o i v H Q q => by
  unfold dSetL at q
  split at q
  · rename_i p k
    split at q
    · rename_i xs e
      obtain ⟨h0, h1, q⟩ := q
      refine ⟨p, xs, k, k.toNat, rfl, rfl, e, ?_, q⟩
      unfold ixN
      rw [if_pos h0, if_pos h1]
    · exact q.elim
  · exact q.elim
end
theorem cutV_to {xs : List V} {k : Nat} : cutV xs none (some (k : Int)) = xs.take k := by
  unfold cutV
  rw [HT.sIx_none, HT.sIx_nat, List.drop_zero, Nat.sub_zero]
  rcases Nat.le_total k xs.length with h | h
  · rw [Nat.min_eq_left h]
  · rw [Nat.min_eq_right h, List.take_of_length_le (Nat.le_refl _), List.take_of_length_le h]
theorem cutV_from {xs : List V} {k : Nat} : cutV xs (some (k : Int)) none = xs.drop k := by
  unfold cutV
  rw [HT.sIx_none, HT.sIx_nat]
  rcases Nat.le_total k xs.length with h | h
  · rw [Nat.min_eq_left h, List.take_of_length_le (by rw [List.length_drop]; omega)]
  · rw [Nat.min_eq_right h, List.drop_eq_nil_of_le h, List.drop_eq_nil_of_le (Nat.le_refl _)]
    simp
/-! ### what is kept: all but the addresses of S -/
def Keep (S : List Addr) (H H' : Hp) : Prop := ∀ b o, H b = some o → b ∉ S → H' b = some o
theorem Keep.refl {S : List Addr} {H : Hp} : Keep S H H := fun _ _ h _ => h
theorem Keep.trans {S : List Addr} {H H1 H2 : Hp} (a : Keep S H H1) (b : Keep S H1 H2) : Keep S H H2 := fun x o h n => b x o (a x o h n) n
theorem Keep.mono {S T : List Addr} {H H' : Hp} (k : Keep S H H') (h : ∀ x ∈ S, x ∈ T) : Keep T H H' := fun x o e n => k x o e fun m => n (h x m)
theorem Keep.same {S : List Addr} {H H' : Hp} (k : Same H H') : Keep S H H' := fun b o h _ => k b o h
theorem Keep.up {S : List Addr} {H H' : Hp} {a : Addr} {x : HO} (k : Keep S H H') (h : a ∈ S) : Keep S H (upd H' a x) := fun b o e n => by
  rw [upd_ne (fun z => n (by rw [z]; exact h))]
  exact k b o e n
theorem Keep.new {S : List Addr} {H H' : Hp} {a : Addr} {x : HO} (k : Keep S H H') (h : H' a = none) : Keep S H (upd H' a x) := fun b o e n => by
  have := k b o e n
  rw [upd_ne (ne_of_none this h)]
  exact this
theorem Keep.new0 {S : List Addr} {H H' : Hp} {a : Addr} {x : HO} (k : Keep S H H') (h : H a = none) : Keep S H (upd H' a x) := fun b o e n => by
  rw [upd_ne (ne_of_none e h)]
  exact k b o e n
theorem keep_up {S : List Addr} {H : Hp} {a : Addr} {x : HO} (h : a ∈ S) : Keep S H (upd H a x) := Keep.refl.up h
/-- data, none of it at the addresses of S -/
def Dz (S : List Addr) (H : Hp) : Nat → V → PyData → Prop
  | 0, v, d => AtomD v d
  | n + 1, v, d => AtomD v d ∨ (∃ (a : Addr) (xs : List V) (ds : List PyData), v = .ref a ∧ d = .list ds ∧ a ∉ S ∧ H a = some (.lst xs) ∧ xs.length ≤ 100000 ∧ Paired (Dz S H n) xs ds) ∨
    ∃ (a : Addr) (xs : List V) (ds : List PyData), v = .ref a ∧ d = .tuple ds ∧ a ∉ S ∧ H a = some (.tup xs) ∧ xs.length ≤ 100000 ∧ Paired (Dz S H n) xs ds
theorem AtomD.dz {S : List Addr} {v : V} {d : PyData} {H : Hp} (h : AtomD v d) : ∀ {n : Nat}, Dz S H n v d
  | 0 => h
  | _ + 1 => .inl h
theorem Dz.da {S : List Addr} {H : Hp} : ∀ {n : Nat} {v : V} {d : PyData}, Dz S H n v d → Da H n v d
  | 0, _, _, h => h
  | n + 1, v, d, h => by
    rcases h with h | ⟨a, xs, ds, e1, e2, _, h, hl, p⟩ | ⟨a, xs, ds, e1, e2, _, h, hl, p⟩
    · exact .inl h
    · exact .inr (.inl ⟨a, xs, ds, e1, e2, h, hl, Paired.mapP p fun _ _ q => Dz.da q⟩)
    · exact .inr (.inr ⟨a, xs, ds, e1, e2, h, hl, Paired.mapP p fun _ _ q => Dz.da q⟩)
theorem Dz.keep {S : List Addr} {H H' : Hp} (k : Keep S H H') : ∀ {n : Nat} {v : V} {d : PyData}, Dz S H n v d → Dz S H' n v d
  | 0, _, _, h => h
  | n + 1, v, d, h => by
    rcases h with h | ⟨a, xs, ds, e1, e2, n, h, hl, p⟩ | ⟨a, xs, ds, e1, e2, n, h, hl, p⟩
    · exact .inl h
    · exact .inr (.inl ⟨a, xs, ds, e1, e2, n, k a _ h n, hl, Paired.mapP p fun _ _ q => Dz.keep k q⟩)
    · exact .inr (.inr ⟨a, xs, ds, e1, e2, n, k a _ h n, hl, Paired.mapP p fun _ _ q => Dz.keep k q⟩)
/-- other addresses: those that are new were free -/
theorem Dz.grow {S T : List Addr} {H : Hp} (g : ∀ x ∈ T, x ∈ S ∨ H x = none) : ∀ {n : Nat} {v : V} {d : PyData}, Dz S H n v d → Dz T H n v d
  | 0, _, _, h => h
  | n + 1, v, d, h => by
    have out : ∀ {a : Addr} {o : HO}, a ∉ S → H a = some o → a ∉ T := fun n e m => (g _ m).elim n fun z => by rw [z] at e; cases e
    rcases h with h | ⟨a, xs, ds, e1, e2, n, h, hl, p⟩ | ⟨a, xs, ds, e1, e2, n, h, hl, p⟩
    · exact .inl h
    · exact .inr (.inl ⟨a, xs, ds, e1, e2, out n h, h, hl, Paired.mapP p fun _ _ q => Dz.grow g q⟩)
    · exact .inr (.inr ⟨a, xs, ds, e1, e2, out n h, h, hl, Paired.mapP p fun _ _ q => Dz.grow g q⟩)
theorem Dz.up {S : List Addr} {H : Hp} : ∀ {n : Nat} {v : V} {d : PyData}, Dz S H n v d → Dz S H (n + 1) v d
  | 0, _, _, h => .inl h
  | n + 1, v, d, h => by
    rcases h with h | ⟨a, xs, ds, e1, e2, n, h, hl, p⟩ | ⟨a, xs, ds, e1, e2, n, h, hl, p⟩
    · exact .inl h
    · exact .inr (.inl ⟨a, xs, ds, e1, e2, n, h, hl, Paired.mapP p fun _ _ q => Dz.up q⟩)
    · exact .inr (.inr ⟨a, xs, ds, e1, e2, n, h, hl, Paired.mapP p fun _ _ q => Dz.up q⟩)
/-- all of it is new -/
theorem Da.dz_of {S : List Addr} {H : Hp} {n : Nat} {v : V} {d : PyData} (h : Dz [] H n v d) (f : ∀ x ∈ S, H x = none) : Dz S H n v d := Dz.grow (fun x m => .inr (f x m)) h
theorem Dz.int {S : List Addr} {H : Hp} {n : Nat} {i : Int} : Dz S H n (.int i) (.int i) := AtomD.dz (.inr (.inr (.inl ⟨i, rfl, rfl⟩)))
theorem Dz.bl {S : List Addr} {H : Hp} {n : Nat} {i : Bool} : Dz S H n (.bl i) (.bool i) := AtomD.dz (.inr (.inl ⟨i, rfl, rfl⟩))
theorem Dz.non {S : List Addr} {H : Hp} {n : Nat} : Dz S H n .non .none := AtomD.dz (.inl ⟨rfl, rfl⟩)
theorem Dz.str {S : List Addr} {H : Hp} {n : Nat} {x : Str} (h : PyData.strOk x = true) : Dz S H n (.str x) (.str x) := AtomD.dz (.inr (.inr (.inr ⟨x, rfl, rfl, h⟩)))
theorem Dz.lst {S : List Addr} {H : Hp} {n : Nat} {a : Addr} {xs : List V} {ds : List PyData} (h : H a = some (.lst xs)) (ha : a ∉ S) (hl : xs.length ≤ 100000) (p : Paired (Dz S H n) xs ds) : Dz S H (n + 1) (.ref a) (.list ds) := .inr (.inl ⟨a, xs, ds, rfl, rfl, ha, h, hl, p⟩)
theorem Dz.tup {S : List Addr} {H : Hp} {n : Nat} {a : Addr} {xs : List V} {ds : List PyData} (h : H a = some (.tup xs)) (ha : a ∉ S) (hl : xs.length ≤ 100000) (p : Paired (Dz S H n) xs ds) : Dz S H (n + 1) (.ref a) (.tuple ds) := .inr (.inr ⟨a, xs, ds, rfl, rfl, ha, h, hl, p⟩)
theorem Dz.list_inv {S : List Addr} {H : Hp} {n : Nat} {v : V} {ds : List PyData} (h : Dz S H (n + 1) v (.list ds)) : ∃ a xs, v = .ref a ∧ a ∉ S ∧ H a = some (.lst xs) ∧ xs.length ≤ 100000 ∧ Paired (Dz S H n) xs ds := by
  rcases h with h | ⟨a, xs, ds', e1, e2, n, h, hl, p⟩ | ⟨a, xs, ds, e1, e2, n, h, hl, p⟩
  · rcases h with ⟨_, e⟩ | ⟨_, _, e⟩ | ⟨_, _, e⟩ | ⟨_, _, e, _⟩ <;> cases e
  · cases e2; exact ⟨a, xs, e1, n, h, hl, p⟩
  · cases e2
theorem Dz.tuple_inv {S : List Addr} {H : Hp} {n : Nat} {v : V} {ds : List PyData} (h : Dz S H (n + 1) v (.tuple ds)) : ∃ a xs, v = .ref a ∧ a ∉ S ∧ H a = some (.tup xs) ∧ xs.length ≤ 100000 ∧ Paired (Dz S H n) xs ds := by
  rcases h with h | ⟨a, xs, ds', e1, e2, n, h, hl, p⟩ | ⟨a, xs, ds', e1, e2, n, h, hl, p⟩
  · rcases h with ⟨_, e⟩ | ⟨_, _, e⟩ | ⟨_, _, e⟩ | ⟨_, _, e, _⟩ <;> cases e
  · cases e2
  · cases e2; exact ⟨a, xs, e1, n, h, hl, p⟩
theorem dz_strs {S : List Addr} {H : Hp} {n : Nat} : ∀ {ns : List Str}, (∀ x ∈ ns, PyData.strOk x = true) → Paired (Dz S H n) (ns.map V.str) (ns.map PyData.str)
  | [], _ => .nil
  | _ :: _, h => .cons (Dz.str (h _ List.mem_cons_self)) (dz_strs fun x m => h x (List.mem_cons_of_mem _ m))
theorem dz_strs_inv {S : List Addr} {H : Hp} {n : Nat} : ∀ {ns : List Str} {xs : List V}, Paired (Dz S H n) xs (ns.map PyData.str) → xs = ns.map V.str
  | [], _, h => by cases h; rfl
  | x :: ns, _, h => by
    cases h with
    | cons h t =>
      have e : ∀ {n : Nat} {v : V}, Dz S H n v (.str x) → v = .str x := by
        intro n v h
        have aux : ∀ {v : V}, AtomD v (.str x) → v = .str x := fun h => by rcases h with ⟨_, e⟩ | ⟨_, _, e⟩ | ⟨_, _, e⟩ | ⟨_, rfl, e, _⟩ <;> cases e; rfl
        cases n with
        | zero => exact aux h
        | succ n =>
          rcases h with h | ⟨_, _, _, _, e, _⟩ | ⟨_, _, _, _, e, _⟩
          · exact aux h
          · cases e
          · cases e
      rw [e h, dz_strs_inv t]
      rfl
theorem nodup_ix {α : Type} {l : List α} (nd : l.Nodup) {i j : Nat} {a : α} (h1 : l[i]? = some a) (h2 : l[j]? = some a) : i = j := by
  obtain ⟨l1, e1⟩ := List.getElem?_eq_some_iff.mp h1
  obtain ⟨l2, e2⟩ := List.getElem?_eq_some_iff.mp h2
  have p := List.pairwise_iff_getElem.mp nd
  rcases Nat.lt_trichotomy i j with h | h | h
  · exact absurd (e1.trans e2.symm) (p i j l1 l2 h)
  · exact h
  · exact absurd (e2.trans e1.symm) (p j i l2 l1 h)
theorem eqv_strs : ∀ {l m : List Str}, PyData.eqvAll (l.map PyData.str) (m.map PyData.str) = decide (l = m)
  | [], [] => by simp [PyData.eqvAll]
  | [], _ :: _ => by simp [PyData.eqvAll]
  | _ :: _, [] => by simp [PyData.eqvAll]
  | x :: l, y :: m => by
    rw [List.map_cons, List.map_cons, PyData.eqvAll, eqv_strs]
    have : PyData.eqv (.str x) (.str y) = decide (x = y) := by simp [PyData.eqv]; rfl
    rw [this]
    by_cases h1 : x = y <;> by_cases h2 : l = m <;> simp [h1, h2]
theorem da_strs {H : Hp} {n : Nat} {a : Addr} {l : List Str} (h : H a = some (.lst (l.map V.str))) (hl : l.length ≤ 100000) (ok : ∀ x ∈ l, PyData.strOk x = true) : Da H (n + 1) (.ref a) (.list (l.map PyData.str)) :=
  Da.lst h (by rw [List.length_map]; exact hl) (Paired.mapP (dz_strs (S := []) (H := H) ok) fun _ _ q => q.da)
theorem dat_strs {H : Hp} {n : Nat} {a : Addr} {l : List Str} (h : H a = some (.tup (l.map V.str))) (hl : l.length ≤ 100000) (ok : ∀ x ∈ l, PyData.strOk x = true) : Da H (n + 1) (.ref a) (.tuple (l.map PyData.str)) :=
  Da.tup h (by rw [List.length_map]; exact hl) (Paired.mapP (dz_strs (S := []) (H := H) ok) fun _ _ q => q.da)
theorem eqD_strs {K : PySem.W.Frag} {H : Hp} {Q : VK} {a b : Addr} {l m : List Str} (h1 : H a = some (.lst (l.map V.str))) (h2 : H b = some (.lst (m.map V.str))) (l1 : l.length ≤ 100000) (l2 : m.length ≤ 100000) (o1 : ∀ x ∈ l, PyData.strOk x = true) (o2 : ∀ x ∈ m, PyData.strOk x = true) (q : Q (.bl (decide (l = m))) H) : dEqD K (.ref a) (.ref b) H Q :=
  eqD_da (n := 1) (da_strs h1 l1 o1) (da_strs h2 l2 o2) (by decide) (by
    have : PyData.eqv (.list (l.map PyData.str)) (.list (m.map PyData.str)) = decide (l = m) := by rw [PyData.eqv, eqv_strs]
    rw [this]
    exact q)
theorem neD_strs {K : PySem.W.Frag} {H : Hp} {Q : VK} {a b : Addr} {l m : List Str} (h1 : H a = some (.lst (l.map V.str))) (h2 : H b = some (.lst (m.map V.str))) (l1 : l.length ≤ 100000) (l2 : m.length ≤ 100000) (o1 : ∀ x ∈ l, PyData.strOk x = true) (o2 : ∀ x ∈ m, PyData.strOk x = true) (q : Q (.bl (!decide (l = m))) H) : dNeD K (.ref a) (.ref b) H Q :=
  neD_da (n := 1) (da_strs h1 l1 o1) (da_strs h2 l2 o2) (by decide) (by
    have : PyData.eqv (.list (l.map PyData.str)) (.list (m.map PyData.str)) = decide (l = m) := by rw [PyData.eqv, eqv_strs]
    rw [this]
    exact q)
theorem flat_strs {l : List Str} : (l.map V.str).all flatV = true := by
  rw [List.all_eq_true]
  intro x hx
  obtain ⟨s, _, rfl⟩ := List.mem_map.mp hx
  rfl
theorem cnt_strs {x : Str} {l : List Str} : cntV (.str x) (l.map V.str) = l.count x := by
  unfold cntV
  rw [List.countP_map, List.count]
  rfl
theorem in_strs {x : Str} {l : List Str} : inV (.str x) (l.map V.str) = decide (x ∈ l) := by
  unfold inV
  rw [List.any_map]
  induction l with
  | nil => rfl
  | cons y l ih =>
    rw [List.any_cons, ih]
    have : ((fun y => eqV y (V.str x)) ∘ V.str) y = decide (y = x) := by show (y == x) = _; rfl
    rw [this]
    by_cases h : y = x
    · subst h; simp
    · have : ¬ x = y := fun e => h e.symm
      simp [h, this]
theorem slice_strs {l : List Str} {k : Nat} : (l.map V.str).take k = (l.take k).map V.str := by rw [List.map_take]
theorem paired_refs {β : Type} {F : Addr → β → Prop} {qs : List Addr} {R : List β} (h : Paired F qs R) : Paired (fun v r => ∃ q, v = V.ref q ∧ F q r) (qs.map V.ref) R := by
  induction h with
  | nil => exact .nil
  | cons h _ ih => exact .cons ⟨_, rfl, h⟩ ih
theorem paired_strs : ∀ {l : List Str}, Paired (fun v x => v = V.str x) (l.map V.str) l
  | [] => .nil
  | _ :: _ => .cons rfl paired_strs
theorem paired_mapv {β : Type} {f : β → V} : ∀ {l : List β}, Paired (fun v x => v = f x) (l.map f) l
  | [] => .nil
  | _ :: _ => .cons rfl paired_mapv
theorem paired_mem {α β : Type} {F G : α → β → Prop} : ∀ {l : List α} {m : List β}, Paired F l m → (∀ a b, a ∈ l → F a b → G a b) → Paired G l m
  | _, _, .nil, _ => .nil
  | _, _, .cons h t, hh => .cons (hh _ _ List.mem_cons_self h) (paired_mem t fun a b m f => hh a b (List.mem_cons_of_mem _ m) f)
theorem paired_get {α β : Type} {F : α → β → Prop} : ∀ {l : List α} {m : List β} {i : Nat} {a : α} {b : β}, Paired F l m → l[i]? = some a → m[i]? = some b → F a b
  | _, _, _, _, _, .nil, e, _ => by simp at e
  | _, _, 0, _, _, .cons h _, e1, e2 => by simp at e1 e2; subst e1 e2; exact h
  | _, _, i + 1, _, _, .cons _ t, e1, e2 => paired_get t (by simpa using e1) (by simpa using e2)
/-- comprehensions whose values are new objects -/
theorem lcR_new {lo : Int} {n : Nat} {g : TG} {tt : TT} {te : TE} {vs : List Nat} {σ : L2.St} {H1 : Hp} {Q : VK} (hz : n ≤ 1000000) (obj : Nat → HO)
    (turn : ∀ (i : Nat), i < n → ∀ H, Same H1 H → ∀ (k1 : VK) (k0 : Hp → Prop), (∀ q H', Same H H' → H q = none → H' q = some (obj i) → k1 (.ref q) H') → LcTurn g tt te vs σ (.int (lo + (i : Nat))) H k1 k0)
    (hd : ∀ D H qs, H1 D = none → Same H1 H → H D = some (.lst (qs.map V.ref)) → qs.Nodup → D ∉ qs → (∀ q ∈ qs, H1 q = none) → Paired (fun q i => H q = some (obj i)) qs (List.range n) → Q (.ref D) H) : LcJ (Itr lo n) g tt te vs σ H1 Q := by
  refine fun D hD => lc_range (lo := lo) (n := n) (fun i H => Same H1 H ∧ ∃ qs, H D = some (.lst (qs.map V.ref)) ∧ qs.length = i ∧ qs.Nodup ∧ D ∉ qs ∧ (∀ q ∈ qs, H1 q = none) ∧ Paired (fun q i => H q = some (obj i)) qs (List.range i))
    ⟨same_new hD, [], upd_same, rfl, List.nodup_nil, by simp, by simp, .nil⟩ ?_ ?_
  · rintro i H hlt ⟨s, qs, hDs, hy, nd, nD, hn, pr⟩
    refine turn i hlt H s _ _ fun q H' s' hq hq' => ⟨qs.map V.ref, s' D _ hDs, by rw [List.length_map, sizeLine_eq]; omega, same_mut (s.trans s') hD, qs ++ [q], by rw [upd_same, List.map_append]; rfl, by rw [List.length_append, hy]; rfl, ?_, ?_, ?_, ?_⟩
    · refine List.nodup_append.mpr ⟨nd, by simp, ?_⟩
      rintro a ha b hb rfl
      simp at hb
      subst hb
      obtain ⟨j, hj⟩ := List.getElem?_of_mem ha
      obtain ⟨x, _, hx⟩ := pairedGet pr hj
      rw [hq] at hx
      cases hx
    · intro m
      rcases List.mem_append.mp m with m | m
      · exact nD m
      · simp at m
        subst m
        rw [hq] at hDs
        cases hDs
    · intro x hx
      rcases List.mem_append.mp hx with hx | hx
      · exact hn x hx
      · simp at hx
        subst hx
        exact s.free hq
    · rw [List.range_succ]
      have ne : ∀ x ∈ qs, x ≠ D := fun x hx e => nD (by rw [← e]; exact hx)
      refine paired_app ?_ (.cons ?_ .nil)
      · refine paired_mem pr fun a b m f => ?_
        show upd H' D _ a = _
        rw [upd_ne (ne a m)]
        exact s' _ _ f
      · show upd H' D _ q = _
        rw [upd_ne (fun e => by rw [← e, hq] at hDs; cases hDs)]
        exact hq'
  · rintro H ⟨s, qs, hDs, hy, nd, nD, hn, pr⟩
    exact hd D H qs hD s hDs nd nD hn pr
theorem lcL_new {β : Type} {K : PySem.W.Frag} {a : Addr} {xs : List V} {ps : List β} {F : V → β → Prop} {g : TG} {tt : TT} {te : TE} {vs : List Nat} {σ : L2.St} {H1 : Hp} {Q : VK} (hq : SqL K H1 a xs) (pp : Paired F xs ps) (hz : xs.length ≤ 1000000) (obj : β → HO)
    (turn : ∀ (i : Nat) (x : V) (b : β), xs[i]? = some x → ps[i]? = some b → F x b → ∀ H, Same H1 H → ∀ (k1 : VK) (k0 : Hp → Prop), (∀ q H', Same H H' → H q = none → H' q = some (obj b) → k1 (.ref q) H') → LcTurn g tt te vs σ x H k1 k0)
    (hd : ∀ D H qs, H1 D = none → Same H1 H → H D = some (.lst (qs.map V.ref)) → qs.Nodup → D ∉ qs → (∀ q ∈ qs, H1 q = none) → Paired (fun q b => H q = some (obj b)) qs ps → Q (.ref D) H) : LcL K a g tt te vs σ H1 Q := by
  refine ⟨⟨_, hq⟩, fun D hD => lc_list (K := K) (a := a) (xs := xs) (fun i H => Same H1 H ∧ ∃ qs, H D = some (.lst (qs.map V.ref)) ∧ qs.length = i ∧ qs.Nodup ∧ D ∉ qs ∧ (∀ q ∈ qs, H1 q = none) ∧ Paired (fun q b => H q = some (obj b)) qs (ps.take i))
    ⟨same_new hD, [], upd_same, rfl, List.nodup_nil, by simp, by simp, .nil⟩ (fun i H _ p => p.1.seq hq) ?_ ?_⟩
  · rintro i x H hx ⟨s, qs, hDs, hy, nd, nD, hn, pr⟩
    have hlt := (List.getElem?_eq_some_iff.mp hx).1
    obtain ⟨b, hb, hF⟩ := pairedGet pp hx
    have e1 : ps.take (i + 1) = ps.take i ++ [b] := by rw [List.take_succ, hb]; rfl
    refine turn i x b hx hb hF H s _ _ fun q H' s' hq hq' => ⟨qs.map V.ref, s' D _ hDs, by rw [List.length_map, sizeLine_eq]; omega, same_mut (s.trans s') hD, qs ++ [q], by rw [upd_same, List.map_append]; rfl, by rw [List.length_append, hy]; rfl, ?_, ?_, ?_, ?_⟩
    · refine List.nodup_append.mpr ⟨nd, by simp, ?_⟩
      rintro a ha b hb rfl
      simp at hb
      subst hb
      obtain ⟨j, hj⟩ := List.getElem?_of_mem ha
      obtain ⟨x, _, hx⟩ := pairedGet pr hj
      rw [hq] at hx
      cases hx
    · intro m
      rcases List.mem_append.mp m with m | m
      · exact nD m
      · simp at m
        subst m
        rw [hq] at hDs
        cases hDs
    · intro x hx
      rcases List.mem_append.mp hx with hx | hx
      · exact hn x hx
      · simp at hx
        subst hx
        exact s.free hq
    · rw [e1]
      have ne : ∀ x ∈ qs, x ≠ D := fun x hx e => nD (by rw [← e]; exact hx)
      refine paired_app ?_ (.cons ?_ .nil)
      · refine paired_mem pr fun a b m f => ?_
        show upd H' D _ a = _
        rw [upd_ne (ne a m)]
        exact s' _ _ f
      · show upd H' D _ q = _
        rw [upd_ne (fun e => by rw [← e, hq] at hDs; cases hDs)]
        exact hq'
  · rintro H ⟨s, qs, hDs, hy, nd, nD, hn, pr⟩
    rw [paired_len pp, List.take_length] at pr
    exact hd D H qs hD s hDs nd nD hn pr
theorem getD_at {α : Type} {l : List α} {i : Nat} {x d : α} (h : l[i]? = some x) : l.getD i d = x := by rw [List.getD_eq_getElem?_getD, h]; rfl
theorem atK_all {xs : List V} {i : Int} {k : V → Prop} (h0 : 0 ≤ i) (h1 : i < xs.length) (hk : ∀ v ∈ xs, k v) : atK xs i k := by
  obtain ⟨j, rfl⟩ := Int.eq_ofNat_of_zero_le h0
  have hj : j < xs.length := by omega
  exact atK_nat (List.getElem?_eq_getElem hj) (hk _ (List.getElem_mem hj))
/-- data that is kept while the addresses change -/
theorem Dz.move {S T : List Addr} {H H' : Hp} (k : Keep S H H') (g : ∀ x ∈ T, x ∈ S ∨ H x = none) : ∀ {n : Nat} {v : V} {d : PyData}, Dz S H n v d → Dz T H' n v d
  | 0, _, _, h => h
  | n + 1, v, d, h => by
    have out : ∀ {a : Addr} {o : HO}, a ∉ S → H a = some o → a ∉ T := fun n e m => (g _ m).elim n fun z => by rw [z] at e; cases e
    rcases h with h | ⟨a, xs, ds, e1, e2, n, h, hl, p⟩ | ⟨a, xs, ds, e1, e2, n, h, hl, p⟩
    · exact .inl h
    · exact .inr (.inl ⟨a, xs, ds, e1, e2, out n h, k a _ h n, hl, Paired.mapP p fun _ _ q => Dz.move k g q⟩)
    · exact .inr (.inr ⟨a, xs, ds, e1, e2, out n h, k a _ h n, hl, Paired.mapP p fun _ _ q => Dz.move k g q⟩)
/-- the other way first -/
theorem ifS_els {c : TT} {t e : TS} {D : Ends} {σ : L2.St} {H : Hp} (he : e D σ H) (h : ∀ e' : TS, e' D σ H → tIfS c t e' D σ H) : tIfS c t e D σ H := h e he
theorem Dz.non_inv {S : List Addr} {H : Hp} {n : Nat} {v : V} (h : Dz S H n v .none) : v = .non := by
  have aux : AtomD v .none → v = .non := fun h => by rcases h with ⟨rfl, _⟩ | ⟨_, _, e⟩ | ⟨_, _, e⟩ | ⟨_, _, e, _⟩ <;> first | rfl | cases e
  cases n with
  | zero => exact aux h
  | succ n =>
    rcases h with h | ⟨_, _, _, _, e, _⟩ | ⟨_, _, _, _, e, _⟩
    · exact aux h
    · cases e
    · cases e
theorem Dz.str_inv {S : List Addr} {H : Hp} {n : Nat} {v : V} {x : Str} (h : Dz S H n v (.str x)) : v = .str x ∧ PyData.strOk x = true := by
  have aux : AtomD v (.str x) → v = .str x ∧ PyData.strOk x = true := fun h => by rcases h with ⟨_, e⟩ | ⟨_, _, e⟩ | ⟨_, _, e⟩ | ⟨_, rfl, e, h⟩ <;> cases e; exact ⟨rfl, h⟩
  cases n with
  | zero => exact aux h
  | succ n =>
    rcases h with h | ⟨_, _, _, _, e, _⟩ | ⟨_, _, _, _, e, _⟩
    · exact aux h
    · cases e
    · cases e
theorem Dz.int_inv {S : List Addr} {H : Hp} {n : Nat} {v : V} {x : Int} (h : Dz S H n v (.int x)) : v = .int x := by
  have aux : AtomD v (.int x) → v = .int x := fun h => by rcases h with ⟨_, e⟩ | ⟨_, _, e⟩ | ⟨_, rfl, e⟩ | ⟨_, _, e, h⟩ <;> cases e; rfl
  cases n with
  | zero => exact aux h
  | succ n =>
    rcases h with h | ⟨_, _, _, _, e, _⟩ | ⟨_, _, _, _, e, _⟩
    · exact aux h
    · cases e
    · cases e
theorem paired_mapR {α β γ : Type} {G : α → γ → Prop} {f : β → γ} : ∀ {l : List α} {m : List β}, Paired (fun a b => G a (f b)) l m → Paired G l (m.map f)
  | _, _, .nil => .nil
  | _, _, .cons h t => .cons h (paired_mapR t)
theorem paired_range {α β : Type} {G : α → β → Prop} {f : Nat → β} {rs : List α} {l : List β} (h : Paired (fun q i => G q (f i)) rs (List.range l.length)) (hf : ∀ i x, l[i]? = some x → f i = x) : Paired G rs l := by
  have e : l = (List.range l.length).map f := by
    apply List.ext_getElem?
    intro i
    rw [List.getElem?_map]
    cases e : l[i]? with
    | none =>
      have := List.getElem?_eq_none_iff.mp e
      rw [List.getElem?_eq_none_iff.mpr (by rw [List.length_range]; exact this)]
      rfl
    | some x =>
      have hl := (List.getElem?_eq_some_iff.mp e).1
      rw [List.getElem?_range hl]
      show some x = some (f i)
      rw [hf i x e]
  rw [e]
  exact paired_mapR h
theorem notInD_da {K : PySem.W.Frag} {H : Hp} {Q : VK} {n : Nat} {x y : V} {d : PyData} {ds : List PyData} (h : Da H n x d) (h' : Da H n y (.list ds)) (hn : n ≤ 64) (m : d ∈ ds) (q : Q (.bl false) H) : rNotInD K x y H Q := by
  refine ⟨d, ds, h.dp, h'.dp, h.shaped hn, h'.shaped hn, ?_⟩
  have : (ds.any fun z => PyData.eqv z d) = true := List.any_eq_true.mpr ⟨d, m, SeqAt.eqv_refl d h.lay.1⟩
  rw [this]
  exact q
/-- where the classes stand -/
structure Ads where
  Disks : Addr
  TraceError : Addr
  OutOfRange : Addr
  Malformed : Addr
  NotThere : Addr
  Refused : Addr
  TooMuch : Addr
def fl_Disks (v0 : V) : List (Str × V) := [("rows", v0)]
theorem fp_Disks_rows {v0 x : V} : putF "rows" x (fl_Disks v0) = fl_Disks x := by simp [fl_Disks, putF, ]
theorem fg_Disks_rows {v0 : V} : (fl_Disks v0).lookup ("rows" : Str) = some v0 := by rfl
theorem fn_Disks {v0 : V} : (fl_Disks v0).length = 1 := rfl
theorem fi_Disks_rows {x : V} : putF "rows" x [] = fl_Disks  x := by simp [fl_Disks, putF]
theorem fm_Disks_lines {v0 : V} : (fl_Disks v0).lookup ("lines" : Str) = none := by rfl
theorem fm_Disks_write {v0 : V} : (fl_Disks v0).lookup ("write" : Str) = none := by rfl
theorem fm_Disks_spoil {v0 : V} : (fl_Disks v0).lookup ("spoil" : Str) = none := by rfl
theorem fm_Disks_agreed {v0 : V} : (fl_Disks v0).lookup ("agreed" : Str) = none := by rfl
theorem fm_Disks_mend {v0 : V} : (fl_Disks v0).lookup ("mend" : Str) = none := by rfl
set_option maxHeartbeats 8000000
local macro_rules
  | `(tactic| wp_walk using $ts,*) => `(tactic| simp only [tSeq, tAsg, gName, tRet, tRetN, tNext, tDrop, tIfS, tIf, tBreak, tCont, tOp, tUn, tC, tCons, tNil, tCB, tCallS, tMakeE, tLst, tTup, tAnd, tOr, tNot, tYes, tSl, tPart, tNoPart, tRaiseN, tTryAs,
  dVar, dAdd, dI2, dI2C, dSub, dMod, dDiv, dPow, dLt, dLe, dGt, dGe, dMul, dEq, dNe, dIs, dIsNot, isNon, dNeg, dAbs, dMax2, dMin2, dInt, dLen, dListOf, dTupleOf, dIx, dFld, dSFld, dSAug, dAug, dTest, dTru, dAndV, dOrV, dNotV, dChain, dAppend, dPop, dPopAt, dInsert, dBM, dBM0, dMethE, dPar, dPar3, dPart, dSl, dRevL, dRevL.seqLst, dCnt, dIn, dNotIn, dSetL, gSub, dgTup, dgCons, dgNil,
  dForL, dForT, dForR1, dForR2, dLcL, dLcT, dLcR1, dLcR2, dIsi, dIsE, tyName, seqAt_lst, seqAt_tup, seqAt_frz, lstAt_lst, tupAt_tup, atK_zero, atK_one,
  L2.start, List.map_cons, List.map_nil, List.length_cons, List.length_nil, List.cons_append, List.nil_append, List.replicate, Nat.sub_self, Nat.reduceAdd, Nat.reduceSub, List.set_cons_zero, List.set_cons_succ, List.getElem?_cons_zero, List.getElem?_cons_succ, wipe,
  Int.reduceEq, Int.reduceLT, Int.reduceLE, last_snoc, drop_snoc, len_snoc, atK_last, le00, p63, tn0, erz, n00, posS, eqS0, lt00, cutV_to, cutV_from, upd_same, upd_upd, upd_ne, ne_eq, not_false_eq_true, decide_true, decide_false, if_true, if_false, Bool.false_eq_true, Bool.not_true, Bool.not_false, decide_eq_true_eq, Bool.not_eq_true', true_and, and_true, reduceCtorEq, fn_Disks, fp_Disks_rows, fg_Disks_rows, fi_Disks_rows, fm_Disks_lines, fm_Disks_write, fm_Disks_spoil, fm_Disks_agreed, fm_Disks_mend, is_int_int, is_int_bool, is_int_str, is_int_list, is_int_tuple, is_int_dict, is_bool_int, is_bool_bool, is_bool_str, is_bool_list, is_bool_tuple, is_bool_dict, is_NoneType_int, is_NoneType_bool, is_NoneType_str, is_NoneType_list, is_NoneType_tuple, is_NoneType_dict, is_str_int, is_str_bool, is_str_str, is_str_list, is_str_tuple, is_str_dict, is_list_int, is_list_bool, is_list_str, is_list_list, is_list_tuple, is_list_dict, is_tuple_int, is_tuple_bool, is_tuple_str, is_tuple_list, is_tuple_tuple, is_tuple_dict, is_dict_int, is_dict_bool, is_dict_str, is_dict_list, is_dict_tuple, is_dict_dict, kn_int_int, kn_int_bool, kn_int_str, kn_int_list, kn_int_tuple, kn_int_dict, kn_bool_int, kn_bool_bool, kn_bool_str, kn_bool_list, kn_bool_tuple, kn_bool_dict, kn_NoneType_int, kn_NoneType_bool, kn_NoneType_str, kn_NoneType_list, kn_NoneType_tuple, kn_NoneType_dict, kn_str_int, kn_str_bool, kn_str_str, kn_str_list, kn_str_tuple, kn_str_dict, kn_list_int, kn_list_bool, kn_list_str, kn_list_list, kn_list_tuple, kn_list_dict, kn_tuple_int, kn_tuple_bool, kn_tuple_str, kn_tuple_list, kn_tuple_tuple, kn_tuple_dict, kn_dict_int, kn_dict_bool, kn_dict_str, kn_dict_list, kn_dict_tuple, kn_dict_dict, ite_true, ite_false, $[$ts:term],*])
  | `(tactic| wide_line using [$ts,*]) => `(tactic| simp only [tAsg, gName, tRet, tRetN, tNext, tDrop, tIfS, tIf, tBreak, tCont, tOp, tUn, tC, tCons, tNil, tCB, tCallS, tMakeE, tLst, tTup, tAnd, tOr, tNot, tYes, tSl, tPart, tNoPart, tRaiseN, tTryAs,
  dVar, dAdd, dI2, dI2C, dSub, dMod, dDiv, dPow, dLt, dLe, dGt, dGe, dMul, dEq, dNe, dIs, dIsNot, isNon, dNeg, dAbs, dMax2, dMin2, dInt, dLen, dListOf, dTupleOf, dIx, dFld, dSFld, dSAug, dAug, dTest, dTru, dAndV, dOrV, dNotV, dChain, dAppend, dPop, dPopAt, dInsert, dBM, dBM0, dMethE, dPar, dPar3, dPart, dSl, dRevL, dRevL.seqLst, dCnt, dIn, dNotIn, dSetL, gSub, dgTup, dgCons, dgNil,
  dForL, dForT, dForR1, dForR2, dLcL, dLcT, dLcR1, dLcR2, dIsi, dIsE, tyName, seqAt_lst, seqAt_tup, seqAt_frz, lstAt_lst, tupAt_tup, atK_zero, atK_one,
  L2.start, List.map_cons, List.map_nil, List.length_cons, List.length_nil, List.cons_append, List.nil_append, List.replicate, Nat.sub_self, Nat.reduceAdd, Nat.reduceSub, List.set_cons_zero, List.set_cons_succ, List.getElem?_cons_zero, List.getElem?_cons_succ, wipe,
  Int.reduceEq, Int.reduceLT, Int.reduceLE, last_snoc, drop_snoc, len_snoc, atK_last, le00, p63, tn0, erz, n00, posS, eqS0, lt00, cutV_to, cutV_from, upd_same, upd_upd, upd_ne, ne_eq, not_false_eq_true, decide_true, decide_false, if_true, if_false, Bool.false_eq_true, Bool.not_true, Bool.not_false, decide_eq_true_eq, Bool.not_eq_true', true_and, and_true, reduceCtorEq, fn_Disks, fp_Disks_rows, fg_Disks_rows, fi_Disks_rows, fm_Disks_lines, fm_Disks_write, fm_Disks_spoil, fm_Disks_agreed, fm_Disks_mend, is_int_int, is_int_bool, is_int_str, is_int_list, is_int_tuple, is_int_dict, is_bool_int, is_bool_bool, is_bool_str, is_bool_list, is_bool_tuple, is_bool_dict, is_NoneType_int, is_NoneType_bool, is_NoneType_str, is_NoneType_list, is_NoneType_tuple, is_NoneType_dict, is_str_int, is_str_bool, is_str_str, is_str_list, is_str_tuple, is_str_dict, is_list_int, is_list_bool, is_list_str, is_list_list, is_list_tuple, is_list_dict, is_tuple_int, is_tuple_bool, is_tuple_str, is_tuple_list, is_tuple_tuple, is_tuple_dict, is_dict_int, is_dict_bool, is_dict_str, is_dict_list, is_dict_tuple, is_dict_dict, kn_int_int, kn_int_bool, kn_int_str, kn_int_list, kn_int_tuple, kn_int_dict, kn_bool_int, kn_bool_bool, kn_bool_str, kn_bool_list, kn_bool_tuple, kn_bool_dict, kn_NoneType_int, kn_NoneType_bool, kn_NoneType_str, kn_NoneType_list, kn_NoneType_tuple, kn_NoneType_dict, kn_str_int, kn_str_bool, kn_str_str, kn_str_list, kn_str_tuple, kn_str_dict, kn_list_int, kn_list_bool, kn_list_str, kn_list_list, kn_list_tuple, kn_list_dict, kn_tuple_int, kn_tuple_bool, kn_tuple_str, kn_tuple_list, kn_tuple_tuple, kn_tuple_dict, kn_dict_int, kn_dict_bool, kn_dict_str, kn_dict_list, kn_dict_tuple, kn_dict_dict, ite_true, ite_false, $[$ts:term],*])
  | `(tactic| walk_at "ev") => `(tactic| wp_walk using upd_same)
/-! ### what every law of this kind begins with -/
theorem sz {n : Nat} (h : n ≤ 1000000) : n < sizeLine := by rw [sizeLine_eq]; omega
theorem map_snoc (ms : List Int) (z : Int) : ms.map V.int ++ [V.int z] = (ms ++ [z]).map V.int := by simp
def sp_law_take : Sp := fun vs H Q _ => ∃ (d : Addr) (ns : List Int) (b : Int), vs = [.ref d, .int b] ∧ H d = some (.lst (ns.map V.int)) ∧ 0 < b ∧ ∀ (r : Int) (ns' : List Int), 0 ≤ r → r < b → Q (.int r) (upd H d (.lst (ns'.map V.int)))
def sp_law_draws (K : PySem.W.Frag) : Sp := fun vs H Q _ => ∃ (a : Addr) (ns : List Int), vs = [.ref a] ∧ SqL K H a (ns.map V.int) ∧ ns.length ≤ 63 ∧
  ∀ (d : Addr) (H' : Hp) (ms : List Int), H d = none → Same H H' → H' d = some (.lst (ms.map V.int)) → Q (.ref d) H'
def sp_law_alike (K : PySem.W.Frag) (n : Nat) : Sp := fun vs H Q _ => ∃ (x y : V) (d : PyData), vs = [x, y] ∧ Da H n x d ∧ Da H n y d ∧ ∀ H', Same H H' → Q (.bl true) H'
def sp_law_word (K : PySem.W.Frag) (A : Ads) : SpE := fun a c d vs H Q _ => ∃ (D : Addr) (b1 b2 b3 b4 b5 : Bool) (w : Str), vs = [.ref a] ∧ c = .ref D ∧ d = none ∧ ExcC K D ∧
  PySem.W.kitOne K (.ref D) (.ref A.OutOfRange) = some b1 ∧ PySem.W.kitOne K (.ref D) (.ref A.Malformed) = some b2 ∧ PySem.W.kitOne K (.ref D) (.ref A.NotThere) = some b3 ∧ PySem.W.kitOne K (.ref D) (.ref A.Refused) = some b4 ∧ PySem.W.kitOne K (.ref D) (.ref A.TooMuch) = some b5 ∧
  (b1, b2, b3, b4, b5, w) ∈ ([(true, false, false, false, false, "range"), (false, true, false, false, false, "form"), (false, false, true, false, false, "none"), (false, false, false, true, false, "refused"), (false, false, false, false, true, "much")] : List (Bool × Bool × Bool × Bool × Bool × Str)) ∧
  ∀ H', Same H H' → Q (.str w) H'
/-- an exception's class, and the word for it -/
structure WordOk (K : PySem.W.Frag) (A : Ads) (D : Addr) (w : Str) : Prop where
  ex : ExcC K D
  te : PySem.W.exmOne K (.ref D) (.ref A.TraceError) = some true
  kit : ∃ b1 b2 b3 b4 b5, PySem.W.kitOne K (.ref D) (.ref A.OutOfRange) = some b1 ∧ PySem.W.kitOne K (.ref D) (.ref A.Malformed) = some b2 ∧ PySem.W.kitOne K (.ref D) (.ref A.NotThere) = some b3 ∧ PySem.W.kitOne K (.ref D) (.ref A.Refused) = some b4 ∧ PySem.W.kitOne K (.ref D) (.ref A.TooMuch) = some b5 ∧
    (b1, b2, b3, b4, b5, w) ∈ ([(true, false, false, false, false, "range"), (false, true, false, false, false, "form"), (false, false, true, false, false, "none"), (false, false, false, true, false, "refused"), (false, false, false, false, true, "much")] : List (Bool × Bool × Bool × Bool × Bool × Str))
theorem WordOk.sp {K : PySem.W.Frag} {A : Ads} {D a : Addr} {w : Str} {H : Hp} {Q : VK} {E : XK} (h : WordOk K A D w) (q : ∀ H', Same H H' → Q (.str w) H') : sp_law_word K A a (.ref D) none [.ref a] H Q E :=
  let ⟨b1, b2, b3, b4, b5, h1, h2, h3, h4, h5, m⟩ := h.kit
  ⟨D, b1, b2, b3, b4, b5, w, rfl, rfl, rfl, h.ex, h1, h2, h3, h4, h5, m, q⟩
/-- what is caught is told by its word -/
theorem WordOk.told {K : PySem.W.Frag} {A : Ads} {D : Addr} {w : Str} {i : Nat} {H : Hp} {σ : L2.St} {De : Ends} {Wout : WX} (h : WordOk K A D w) (hi : i < σ.length) (q : ∀ H', Same H H' → De.rt (.str w) H') :
    wAs K (.ref A.TraceError) i (fun a cls d => tRet (tCallE (sp_law_word K A) a cls d (tCons (dVar i) tNil))) Wout De (.ref D) none σ H := by
  refine ⟨true, h.te, fun _ a ha => ?_, fun e => (nomatch e)⟩
  have e : (σ.set i (some (V.ref a)))[i]? = some (some (V.ref a)) := by rw [List.getElem?_set_self hi]
  simp only [tRet, tCallE, tCons, dVar, tNil, e]
  exact h.sp q
/-! ### three disks: plain -/
def nxt (f r : List Str) : Option Str := if f.length < r.length ∧ r.take f.length = f then r[f.length]? else none
def told (R : List (List Str)) (f : List Str) : List Str := R.filterMap (nxt f)
/-- the first that is there more than once -/
def twice (l : List Str) : List Str := l.filter fun x => decide (1 < l.count x)
def maxLen (R : List (List Str)) : Nat := (R.map List.length).foldr max 0
def agrF : Nat → List (List Str) → List Str → List Str
  | 0, _, f => f
  | n + 1, R, f => match twice (told R f) with
    | [] => f
    | x :: _ => agrF n R (f ++ [x])
def agr (R : List (List Str)) : List Str := agrF (maxLen R) R []
def OkS (l : List Str) : Prop := ∀ x ∈ l, PyData.strOk x = true
structure DkAt (A : Ads) (H : Hp) (o p : Addr) (qs : List Addr) (R : List (List Str)) : Prop where
  ob : ∃ dx, H o = some (.ins A.Disks dx (fl_Disks (.ref p)))
  ro : H p = some (.lst (qs.map V.ref))
  rows : Paired (fun q r => H q = some (.lst (r.map V.str))) qs R
  nd : qs.Nodup
  np : p ∉ qs
  n3 : R.length = 3
  ok : ∀ r ∈ R, OkS r ∧ r.length ≤ 1000
def putR (R : List (List Str)) (x : Str) (k : Nat) : List (List Str) := R.mapIdx fun i l => if i < k then l ++ [x] else l
def Scal (v : V) : Prop := v = .non ∨ (∃ b, v = .bl b) ∨ (∃ i, v = .int i) ∨ ∃ x, v = .str x
def NoStr (H : Hp) (v : V) : Prop := v = .non ∨ (∃ b, v = .bl b) ∨ (∃ i, v = .int i) ∨ ∃ a xs, v = .ref a ∧ H a = some (.lst xs)
def nl : Str := "\n"
def sp_is_number : Sp := fun vs H Q _ => ∃ (v : V) (lo hi : Int), vs = [v, .int lo, .int hi] ∧ (Scal v ∧ ∀ b, (b = true ↔ ∃ i, v = .int i ∧ lo ≤ i ∧ i ≤ hi) → Q (.bl b) H)
def sp_is_line : Sp := fun vs H Q _ => ∃ v, vs = [v] ∧ ((∃ x, v = .str x ∧ Q (.bl (!inS nl x)) H) ∨ (NoStr H v ∧ Q (.bl false) H))
def sp_Disks__init_ (A : Ads) : Sp := fun vs H Q _ => ∃ (x dx : Addr), vs = [.ref x] ∧ H x = some (.ins A.Disks dx []) ∧ ∀ p qs H', DkAt A H' x p qs [[], [], []] → Keep [x] H H' → (∀ y ∈ p :: qs, H y = none) → Q .non H'
def sp_Disks_lines (A : Ads) : Sp := fun vs H Q E => ∃ (o p : Addr) (qs : List Addr) (R : List (List Str)) (v : V), vs = [.ref o, v] ∧ DkAt A H o p qs R ∧ Scal v ∧
  (¬ (∃ i, v = .int i ∧ 0 ≤ i ∧ i ≤ 2) → E (.ref A.OutOfRange) none H) ∧ (∀ i : Nat, v = .int i → i < 3 → ∀ a r, R[i]? = some r → H a = none → Q (.ref a) (upd H a (.tup (r.map V.str))))
def sp_Disks_write (A : Ads) : Sp := fun vs H Q E => ∃ (o p : Addr) (qs : List Addr) (R : List (List Str)) (line reach : V), vs = [.ref o, line, reach] ∧ DkAt A H o p qs R ∧ Scal reach ∧ (∀ r ∈ R, r.length < 1000) ∧ ((∃ x, line = .str x ∧ PyData.strOk x = true) ∨ NoStr H line) ∧
  (¬ (∃ i, reach = .int i ∧ 0 ≤ i ∧ i ≤ 3) → E (.ref A.OutOfRange) none H) ∧ ((∃ i, reach = .int i ∧ 0 ≤ i ∧ i ≤ 3) → ¬ (∃ x, line = .str x ∧ inS nl x = false) → E (.ref A.Malformed) none H) ∧
  (∀ (i : Nat) x, reach = .int i → i ≤ 3 → line = .str x → inS nl x = false → ∀ H', DkAt A H' o p qs (putR R x i) → Keep qs H H' → Q .non H')
def sp_Disks_spoil (A : Ads) : Sp := fun vs H Q E => ∃ (o p : Addr) (qs : List Addr) (R : List (List Str)) (disk : V) (a : Addr) (l : List Str), vs = [.ref o, disk, .ref a] ∧ DkAt A H o p qs R ∧ Scal disk ∧ H a = some (.lst (l.map V.str)) ∧ OkS l ∧ l.length ≤ 1000 ∧
  (¬ (∃ i, disk = .int i ∧ 0 ≤ i ∧ i ≤ 2) → E (.ref A.OutOfRange) none H) ∧ (∀ i : Nat, disk = .int i → i < 3 → ∀ q H', H q = none → DkAt A H' o p (qs.set i q) (R.set i l) → Keep [p] H H' → Q .non H')
def sp_Disks_agreed (A : Ads) : Sp := fun vs H Q _ => ∃ (o p : Addr) (qs : List Addr) (R : List (List Str)), vs = [.ref o] ∧ DkAt A H o p qs R ∧ ∀ a H', Same H H' → H a = none → H' a = some (.tup ((agr R).map V.str)) → Q (.ref a) H'
def sp_Disks_mend (A : Ads) : Sp := fun vs H Q _ => ∃ (o p : Addr) (qs : List Addr) (R : List (List Str)), vs = [.ref o] ∧ DkAt A H o p qs R ∧
  ∀ (a p' : Addr) (qs' : List Addr) (H' : Hp), Keep [o] H H' → (∀ y ∈ a :: p' :: qs', H y = none) → H' a = some (.tup ((agr R).map V.str)) → DkAt A H' o p' qs' [agr R, agr R, agr R] → Q (.ref a) H'
def sp_law_tried (K : PySem.W.Frag) (A : Ads) : Sp := fun vs H Q _ => ∃ (o p : Addr) (qs : List Addr) (R : List (List Str)) (which : Int) (one other : V), vs = [.ref o, .int which, one, other] ∧ DkAt A H o p qs R ∧
  ((which = 0 ∧ Scal other ∧ (∀ r ∈ R, r.length < 1000) ∧ ((∃ x, one = .str x ∧ PyData.strOk x = true) ∨ NoStr H one) ∧ (¬ (∃ i, other = .int i ∧ 0 ≤ i ∧ i ≤ 3) → ∀ H', Same H H' → Q (.str "range") H') ∧
    ((∃ i, other = .int i ∧ 0 ≤ i ∧ i ≤ 3) → ¬ (∃ x, one = .str x ∧ inS nl x = false) → ∀ H', Same H H' → Q (.str "form") H') ∧
    (∀ (i : Nat) x, other = .int i → i ≤ 3 → one = .str x → inS nl x = false → ∀ H', DkAt A H' o p qs (putR R x i) → Keep qs H H' → Q .non H')) ∨
   (which = 1 ∧ Scal one ∧ (∃ (a : Addr) (l : List Str), other = .ref a ∧ H a = some (.lst (l.map V.str)) ∧ OkS l ∧ l.length ≤ 1000 ∧ (¬ (∃ i, one = .int i ∧ 0 ≤ i ∧ i ≤ 2) → ∀ H', Same H H' → Q (.str "range") H') ∧
    (∀ i : Nat, one = .int i → i < 3 → ∀ q H', H q = none → DkAt A H' o p (qs.set i q) (R.set i l) → Keep [p] H H' → Q .non H'))) ∨
   (which = 2 ∧ Scal one ∧ ¬ (∃ i, one = .int i ∧ 0 ≤ i ∧ i ≤ 2) ∧ ∀ H', Same H H' → Q (.str "range") H'))
def StrsAt (H : Hp) (v : V) (r : List Str) : Prop := ∃ a, v = .ref a ∧ H a = some (.lst (r.map V.str))
def sp_law_agreed (K : PySem.W.Frag) : Sp := fun vs H Q _ => ∃ (q : Addr) (xs : List V) (R : List (List Str)), vs = [.ref q] ∧ H q = some (.lst xs) ∧ Paired (StrsAt H) xs R ∧ R.length ≤ 3 ∧ (∀ r ∈ R, OkS r ∧ r.length ≤ 1000) ∧
  ∀ a H', Same H H' → H a = none → H' a = some (.lst ((agr R).map V.str)) → Q (.ref a) H'
def sp_law_spoilt (K : PySem.W.Frag) : Sp := fun vs H Q _ => ∃ (d a : Addr) (ns : List Int) (l : List Str), vs = [.ref d, .ref a] ∧ H d = some (.lst (ns.map V.int)) ∧ H a = some (.lst (l.map V.str)) ∧ OkS l ∧ l.length ≤ 900 ∧ a ≠ d ∧
  ∀ (a' : Addr) (ls : List Str) (ns' : List Int) (H' : Hp), OkS ls → ls.length ≤ l.length + 2 → Keep [d] H H' → H a' = none → H' d = some (.lst (ns'.map V.int)) → H' a' = some (.lst (ls.map V.str)) → Q (.ref a') H'
def sp_law (K : PySem.W.Frag) : Sp := fun vs H Q _ => ∃ (a : Addr) (ns : List Int), vs = [.ref a] ∧ SqL K H a (ns.map V.int) ∧ ns.length ≤ 63 ∧ ∀ H', Q (.bl true) H'
def t_is_number (K : PySem.W.Frag) (A : Ads) (E : XK)  : TS :=
  (tRet (dAndV (tCB dIsi (tCons (dVar 0) (tCons (tC (.ty "int")) tNil))) (dAndV (dNotV (tCB dIsi (tCons (dVar 0) (tCons (tC (.ty "bool")) tNil)))) (dChain dLe dLe (dVar 1) (dVar 0) (dVar 2)))))
def t_is_line (K : PySem.W.Frag) (A : Ads) (E : XK)  : TS :=
  (tRet (dAndV (tCB dIsi (tCons (dVar 0) (tCons (tC (.ty "str")) tNil))) (tOp dNotIn (tC (.str "\n")) (dVar 0))))
def t_Disks__init_ (K : PySem.W.Frag) (A : Ads) (E : XK)  : TS :=
  (dSFld A.Disks (dVar 0) (tLst (tCons (tLst tNil) (tCons (tLst tNil) (tCons (tLst tNil) tNil)))) "rows")
def t_Disks_lines (K : PySem.W.Frag) (A : Ads) (E : XK)  : TS :=
  (tSeq (tIfS (tNot (dTru (tCallS sp_is_number (fun _ => E0) (tCons (dVar 1) (tCons (tC (.int 0)) (tCons (tOp dSub (tC (.int 3)) (tC (.int 1))) tNil))))))
  (tRaiseN (fun cls d _ H => E cls d H) A.OutOfRange)
  tNext)
  (tRet (tCB dTupleOf (tCons (tOp dIx (dFld A.Disks (dVar 0) "rows") (dVar 1)) tNil))))
def t_Disks_write (K : PySem.W.Frag) (A : Ads) (E : XK)  : TS :=
  (tSeq (tIfS (tNot (dTru (tCallS sp_is_number (fun _ => E0) (tCons (dVar 2) (tCons (tC (.int 0)) (tCons (tC (.int 3)) tNil))))))
  (tRaiseN (fun cls d _ H => E cls d H) A.OutOfRange)
  tNext)
  (tSeq (tIfS (tNot (dTru (tCallS sp_is_line (fun _ => E0) (tCons (dVar 1) tNil))))
  (tRaiseN (fun cls d _ H => E cls d H) A.Malformed)
  tNext)
  (dForR1 (tCons (dVar 2) tNil) (gName 3)
  (tDrop (dBM dAppend (tOp dIx (dFld A.Disks (dVar 0) "rows") (dVar 3)) (tCons (dVar 1) tNil))))))
def t_Disks_spoil (K : PySem.W.Frag) (A : Ads) (E : XK)  : TS :=
  (tSeq (tIfS (tNot (dTru (tCallS sp_is_number (fun _ => E0) (tCons (dVar 1) (tCons (tC (.int 0)) (tCons (tOp dSub (tC (.int 3)) (tC (.int 1))) tNil))))))
  (tRaiseN (fun cls d _ H => E cls d H) A.OutOfRange)
  tNext)
  (tAsg (tCB dListOf (tCons (dVar 2) tNil)) (gSub (dFld A.Disks (dVar 0) "rows") (dVar 1) dSetL)))
def t_Disks_agreed (K : PySem.W.Frag) (A : Ads) (E : XK)  : TS :=
  (tSeq (tAsg (tLst tNil) (gName 1))
  (tWhile (dTru (tC (.bl true)))
  (tSeq (tAsg (dLcL K (dFld A.Disks (dVar 0) "rows") (gName 4) (tAnd (dTest (tOp dGt (tCB dLen (tCons (dVar 4) tNil)) (tCB dLen (tCons (dVar 1) tNil)))) (dTest (tOp (dEqD K) (tSl dSl (dVar 4) tNoPart (dPart (tCB dLen (tCons (dVar 1) tNil)))) (dVar 1)))) (tOp dIx (dVar 4) (tCB dLen (tCons (dVar 1) tNil))) [4]) (gName 2))
  (tSeq (tAsg (dLcL K (dVar 2) (gName 5) (dTest (tOp dGt (dBM dCnt (dVar 2) (tCons (dVar 5) tNil)) (tC (.int 1)))) (dVar 5) [5]) (gName 3))
  (tSeq (tIfS (dTest (tOp dEq (tCB dLen (tCons (dVar 3) tNil)) (tC (.int 0))))
  (tRet (tCB dTupleOf (tCons (dVar 1) tNil)))
  tNext)
  (tDrop (dBM dAppend (dVar 1) (tCons (tOp dIx (dVar 3) (tC (.int 0))) tNil))))))))
def t_Disks_mend (K : PySem.W.Frag) (A : Ads) (E : XK)  : TS :=
  (tSeq (tAsg (dMethE A.Disks "agreed" (sp_Disks_agreed A) (fun _ => E0) (dVar 0) tNil) (gName 1))
  (tSeq (dSFld A.Disks (dVar 0) (dLcR1 (tCons (tC (.int 3)) tNil) (gName 2) tYes (tCB dListOf (tCons (dVar 1) tNil)) [2]) "rows")
  (tRet (dVar 1))))
def t_law_draws (K : PySem.W.Frag) (A : Ads) (E : XK)  : TS :=
  (tSeq (tAsg (tLst tNil) (gName 1))
  (tSeq (dForL K (dVar 0) (gName 2)
  (tSeq (tAsg (tCB dAbs (tCons (dVar 2) tNil)) (gName 3))
  (tSeq (tIfS (dTest (tOp dLt (dVar 3) (tOp dPow (tC (.int 10)) (tC (.int 18)))))
  (tSeq (tAsg (tOp dMod (tCB dInt (tCons (tOp dAdd (tOp dMul (dVar 3) (tC (.int 48271))) (tC (.int 11))) tNil)) (tC (.int 2147483647))) (gName 4))
  (tSeq (tDrop (dBM dAppend (dVar 1) (tCons (tOp dMod (tCB dInt (tCons (tOp dAdd (tOp dMul (dVar 4) (tC (.int 69621))) (dVar 3)) tNil)) (tC (.int 2147483629))) tNil)))
  (tSeq (tDrop (dBM dAppend (dVar 1) (tCons (tOp dMod (tCB dInt (tCons (tOp dAdd (dVar 4) (tOp dDiv (dVar 3) (tC (.int 7)))) tNil)) (tC (.int 1000003))) tNil)))
  (tAsg (tC (.int 0)) (gName 3)))))
  tNext)
  (dForR1 (tCons (tC (.int 60)) tNil) (gName 5)
  (tIfS (dTest (tOp dGt (dVar 3) (tC (.int 0))))
  (tSeq (tDrop (dBM dAppend (dVar 1) (tCons (tOp dMod (tCB dInt (tCons (dVar 3) tNil)) (tC (.int 997))) tNil)))
  (tAsg (tOp dDiv (dVar 3) (tC (.int 997))) (gName 3)))
  tNext)))))
  (tSeq (tAsg (tC (.int 1)) (gName 6))
  (tSeq (tIfS (dTest (tOp dGt (tCB (uLen K) (tCons (dVar 0) tNil)) (tC (.int 0))))
  (tAsg (tOp dAdd (tC (.int 1)) (tCB dAbs (tCons (tOp (rIx K) (dVar 0) (tC (.int 0))) tNil))) (gName 6))
  tNext)
  (tSeq (dForR1 (tCons (tC (.int 900)) tNil) (gName 5)
  (tSeq (tAsg (tOp dMod (tCB dInt (tCons (tOp dAdd (tOp dMul (dVar 6) (tC (.int 48271))) (tC (.int 69621))) tNil)) (tC (.int 2147483647))) (gName 6))
  (tDrop (dBM dAppend (dVar 1) (tCons (tOp dDiv (dVar 6) (tC (.int 5))) tNil)))))
  (tRet (tListRev K (dVar 1))))))))
def t_law_take (K : PySem.W.Frag) (A : Ads) (E : XK)  : TS :=
  (tSeq (tIfS (dTest (tOp dEq (tCB dLen (tCons (dVar 0) tNil)) (tC (.int 0))))
  (tRet (tC (.int 0)))
  tNext)
  (tRet (tOp dMod (tCB dInt (tCons (dBM0 dPop (dVar 0)) tNil)) (dVar 1))))
def t_law_alike (K : PySem.W.Frag) (A : Ads) (E : XK) (sq : Sp) : TS :=
  (tSeq (tIfS (tOr (dTru (tCB dIsi (tCons (dVar 1) (tCons (tC (.ty "list")) tNil)))) (dTru (tCB dIsi (tCons (dVar 1) (tCons (tC (.ty "tuple")) tNil)))))
  (tSeq (tIfS (tOr (dTest (tOp dNe (tCB dIsi (tCons (dVar 0) (tCons (tC (.ty "list")) tNil))) (tCB dIsi (tCons (dVar 1) (tCons (tC (.ty "list")) tNil))))) (dTest (tOp dNe (tCB dIsi (tCons (dVar 0) (tCons (tC (.ty "tuple")) tNil))) (tCB dIsi (tCons (dVar 1) (tCons (tC (.ty "tuple")) tNil))))))
  (tRet (tC (.bl false)))
  tNext)
  (tRet (dAndV (tOp dEq (tCB dLen (tCons (dVar 0) tNil)) (tCB dLen (tCons (dVar 1) tNil))) (tOp (dEqD K) (dLcR1 (tCons (tCB dLen (tCons (dVar 1) tNil)) tNil) (gName 2) (tNot (dTru (tCallS sq (fun _ => E0) (tCons (tOp dIx (dVar 0) (dVar 2)) (tCons (tOp dIx (dVar 1) (dVar 2)) tNil))))) (dVar 2) [2]) (tLst tNil)))))
  tNext)
  (tSeq (tIfS (dTest (tOp dIs (dVar 1) (tC .non)))
  (tRet (tOp dIs (dVar 0) (tC .non)))
  tNext)
  (tSeq (tIfS (tOr (dTru (tCB dIsi (tCons (dVar 1) (tCons (tC (.ty "bool")) tNil)))) (dTru (tCB dIsi (tCons (dVar 0) (tCons (tC (.ty "bool")) tNil)))))
  (tRet (dAndV (tCB dIsi (tCons (dVar 0) (tCons (tC (.ty "bool")) tNil))) (dAndV (tCB dIsi (tCons (dVar 1) (tCons (tC (.ty "bool")) tNil))) (tOp dEq (dVar 0) (dVar 1)))))
  tNext)
  (tSeq (tIfS (dTru (tCB dIsi (tCons (dVar 1) (tCons (tC (.ty "int")) tNil))))
  (tRet (dAndV (tCB dIsi (tCons (dVar 0) (tCons (tC (.ty "int")) tNil))) (tOp dEq (dVar 0) (dVar 1))))
  tNext)
  (tRet (dAndV (tCB dIsi (tCons (dVar 0) (tCons (tC (.ty "str")) tNil))) (tOp dEq (dVar 0) (dVar 1))))))))
def t_law_word (K : PySem.W.Frag) (A : Ads) (E : XK) (ax D : Addr) : TS :=
  (tSeq (tAsg (tLst (tCons (tCB (dIsE K D ax) (tCons (dVar 0) (tCons (tC (.ref A.OutOfRange)) tNil))) (tCons (tCB (dIsE K D ax) (tCons (dVar 0) (tCons (tC (.ref A.Malformed)) tNil))) (tCons (tCB (dIsE K D ax) (tCons (dVar 0) (tCons (tC (.ref A.NotThere)) tNil))) (tCons (tCB (dIsE K D ax) (tCons (dVar 0) (tCons (tC (.ref A.Refused)) tNil))) (tCons (tCB (dIsE K D ax) (tCons (dVar 0) (tCons (tC (.ref A.TooMuch)) tNil))) tNil)))))) (gName 1))
  (tSeq (tIfS (dTest (tOp dNe (tCB dLen (tCons (dLcL K (dVar 1) (gName 2) (dTru (dVar 2)) (dVar 2) [2]) tNil)) (tC (.int 1))))
  (tRet (tC (.str "many")))
  tNext)
  (tRet (tOp dIx (tLst (tCons (tC (.str "range")) (tCons (tC (.str "form")) (tCons (tC (.str "none")) (tCons (tC (.str "refused")) (tCons (tC (.str "much")) tNil)))))) (dBM (rIndex K) (dVar 1) (tCons (tC (.bl true)) tNil))))))
def t_law_tried (K : PySem.W.Frag) (A : Ads) (E : XK)  : TS :=
  (tTryAs K (.ref A.TraceError) 4 (fun W => (tSeq (tIfS (dTest (tOp dEq (dVar 1) (tC (.int 0))))
  (tRet (dMethE A.Disks "write" (sp_Disks_write A) (WE W) (dVar 0) (tCons (dVar 2) (tCons (dVar 3) tNil))))
  tNext)
  (tRet (tIf (dTest (tOp dEq (dVar 1) (tC (.int 1)))) (dMethE A.Disks "spoil" (sp_Disks_spoil A) (WE W) (dVar 0) (tCons (dVar 2) (tCons (dVar 3) tNil))) (dMethE A.Disks "lines" (sp_Disks_lines A) (WE W) (dVar 0) (tCons (dVar 2) tNil)))))) (fun a cls d => (tRet (tCallE (sp_law_word K A) a cls d (tCons (dVar 4) tNil)))) (fun _ _ _ _ => False))
def t_law_agreed (K : PySem.W.Frag) (A : Ads) (E : XK)  : TS :=
  (tSeq (tAsg (tTup (tCons (tLst tNil) (tCons (tC (.bl true)) tNil))) (dgTup 2 (dgCons (gName 1) (dgCons (gName 2) dgNil))))
  (tSeq (tWhile (dTru (dVar 2))
  (tSeq (tAsg (dLcL K (dVar 0) (gName 5) (tAnd (dTest (tOp dGt (tCB dLen (tCons (dVar 5) tNil)) (tCB dLen (tCons (dVar 1) tNil)))) (dTest (tOp (dEqD K) (tSl dSl (dVar 5) tNoPart (dPart (tCB dLen (tCons (dVar 1) tNil)))) (dVar 1)))) (tOp dIx (dVar 5) (tCB dLen (tCons (dVar 1) tNil))) [5]) (gName 3))
  (tSeq (tAsg (dLcR1 (tCons (tCB dLen (tCons (dVar 3) tNil)) tNil) (gName 6) (dTest (tOp dIn (tOp dIx (dVar 3) (dVar 6)) (tSl dSl (dVar 3) tNoPart (dPart (dVar 6))))) (tOp dIx (dVar 3) (dVar 6)) [6]) (gName 4))
  (tSeq (tAsg (tOp (dNeD K) (dVar 4) (tLst tNil)) (gName 2))
  (tAsg (tOp dAdd (dVar 1) (tSl dSl (dVar 4) tNoPart (dPart (tC (.int 1))))) (gName 1))))))
  (tRet (dVar 1))))
def t_law_spoilt (K : PySem.W.Frag) (A : Ads) (E : XK)  : TS :=
  (tSeq (dPar 2 3 (tCons (tCallS sp_law_take (fun _ => E0) (tCons (dVar 0) (tCons (tOp dAdd (tCB dLen (tCons (dVar 1) tNil)) (tC (.int 1))) tNil))) (tCons (tCallS sp_law_take (fun _ => E0) (tCons (dVar 0) (tCons (tC (.int 6)) tNil))) tNil)))
  (tSeq (tIfS (dTest (tOp dEq (dVar 3) (tC (.int 0))))
  (tRet (tLst tNil))
  tNext)
  (tSeq (tIfS (dTest (tOp dEq (dVar 3) (tC (.int 1))))
  (tRet (tSl dSl (dVar 1) tNoPart (dPart (dVar 2))))
  tNext)
  (tSeq (tIfS (dTest (tOp dEq (dVar 3) (tC (.int 2))))
  (tRet (tOp dAdd (tOp dAdd (tSl dSl (dVar 1) tNoPart (dPart (dVar 2))) (tLst (tCons (tC (.str "x")) tNil))) (tSl dSl (dVar 1) (dPart (dVar 2)) tNoPart)))
  tNext)
  (tSeq (tIfS (dTest (tOp dEq (dVar 3) (tC (.int 3))))
  (tRet (tOp dAdd (tOp dAdd (tSl dSl (dVar 1) tNoPart (dPart (dVar 2))) (tLst (tCons (tC (.str "y")) tNil))) (tSl dSl (dVar 1) (dPart (tOp dAdd (dVar 2) (tC (.int 1)))) tNoPart)))
  tNext)
  (tRet (tIf (dTest (tOp dEq (dVar 3) (tC (.int 4)))) (tOp dAdd (dVar 1) (tOp dMul (tLst (tCons (tOp dIx (tLst (tCons (tC (.str "z")) (tCons (tC (.str "a")) (tCons (tC (.str "b")) tNil)))) (tCallS sp_law_take (fun _ => E0) (tCons (dVar 0) (tCons (tC (.int 3)) tNil)))) tNil)) (tC (.int 2)))) (dRevL (dVar 1)))))))))
def t_law (K : PySem.W.Frag) (A : Ads) (E : XK)  : TS :=
  (tSeq (tAsg (tCallS (sp_law_draws K) (fun _ => E0) (tCons (dVar 0) tNil)) (gName 1))
  (tSeq (tAsg (tTup (tCons (tMakeE A.Disks (sp_Disks__init_ A) (fun _ => E0) tNil) (tCons (tLst (tCons (tLst tNil) (tCons (tLst tNil) (tCons (tLst tNil) tNil)))) tNil))) (dgTup 2 (dgCons (gName 2) (dgCons (gName 3) dgNil))))
  (tSeq (dPar3 4 5 6 (tCons (tLst tNil) (tCons (tC .non) (tCons (tC (.bl false)) tNil))))
  (tSeq (dForR1 (tCons (tOp dAdd (tC (.int 4)) (tCallS sp_law_take (fun _ => E0) (tCons (dVar 1) (tCons (tC (.int 20)) tNil)))) tNil) (gName 7)
  (tSeq (tAsg (tCallS sp_law_take (fun _ => E0) (tCons (dVar 1) (tCons (tC (.int 10)) tNil))) (gName 8))
  (tSeq (tIfS (tAnd (dTest (tOp dLt (dVar 8) (tC (.int 5)))) (dTest (tOp dIs (dVar 5) (tC .non))))
  (tSeq (tAsg (tOp dIx (tLst (tCons (tC (.str "a")) (tCons (tC (.str "b")) (tCons (tC (.str "")) (tCons (tC (.str "c d")) tNil))))) (tCallS sp_law_take (fun _ => E0) (tCons (dVar 1) (tCons (tC (.int 4)) tNil)))) (gName 9))
  (tSeq (tIfS (dTest (tOp dIsNot (tCallS (sp_law_tried K A) (fun _ => E0) (tCons (dVar 2) (tCons (tC (.int 0)) (tCons (dVar 9) (tCons (tC (.int 3)) tNil))))) (tC .non)))
  (tRet (tC (.bl false)))
  tNext)
  (tSeq (tAsg (dLcL K (dVar 3) (gName 17) tYes (tOp dAdd (dVar 17) (tLst (tCons (dVar 9) tNil))) [17]) (gName 3))
  (tSeq (tAsg (tIf (tNot (dTru (dVar 6))) (tOp dAdd (dVar 4) (tLst (tCons (dVar 9) tNil))) (dVar 4)) (gName 4))
  (tIfS (dTru (dVar 6))
  (tAsg (tC .non) (gName 4))
  tNext)))))
  (tIfS (tAnd (dTest (tOp dEq (dVar 8) (tC (.int 5)))) (tAnd (dTest (tOp dIs (dVar 5) (tC .non))) (tNot (dTru (dVar 6)))))
  (tSeq (tAsg (tTup (tCons (tCallS sp_law_take (fun _ => E0) (tCons (dVar 1) (tCons (tC (.int 3)) tNil))) (tCons (tOp dIx (tLst (tCons (tC (.str "a")) (tCons (tC (.str "b")) (tCons (tC (.str "e")) tNil)))) (tCallS sp_law_take (fun _ => E0) (tCons (dVar 1) (tCons (tC (.int 3)) tNil)))) tNil))) (dgTup 2 (dgCons (gName 10) (dgCons (gName 9) dgNil))))
  (tSeq (tIfS (dTest (tOp dIsNot (tCallS (sp_law_tried K A) (fun _ => E0) (tCons (dVar 2) (tCons (tC (.int 0)) (tCons (dVar 9) (tCons (dVar 10) tNil))))) (tC .non)))
  (tRet (tC (.bl false)))
  tNext)
  (tSeq (tAsg (dLcR1 (tCons (tC (.int 3)) tNil) (gName 15) tYes (tOp dAdd (tOp dIx (dVar 3) (dVar 15)) (tOp dMul (tLst (tCons (dVar 9) tNil)) (tCB dInt (tCons (tOp dLt (dVar 15) (dVar 10)) tNil)))) [15]) (gName 3))
  (tAsg (tTup (tCons (dVar 9) (tCons (dVar 10) tNil))) (gName 5)))))
  (tIfS (tAnd (dTest (tOp dLt (dVar 8) (tC (.int 8)))) (tNot (dTru (dVar 6))))
  (tSeq (tAsg (tCallS sp_law_take (fun _ => E0) (tCons (dVar 1) (tCons (tC (.int 3)) tNil))) (gName 11))
  (tSeq (tAsg (tCallS (sp_law_spoilt K) (fun _ => E0) (tCons (dVar 1) (tCons (tOp dIx (dVar 3) (dVar 11)) tNil))) (gName 12))
  (tSeq (tIfS (dTest (tOp dIsNot (tCallS (sp_law_tried K A) (fun _ => E0) (tCons (dVar 2) (tCons (tC (.int 1)) (tCons (dVar 11) (tCons (dVar 12) tNil))))) (tC .non)))
  (tRet (tC (.bl false)))
  tNext)
  (tAsg (tTup (tCons (tCB dListOf (tCons (dVar 12) tNil)) (tCons (tC (.bl true)) tNil))) (dgTup 2 (dgCons (gSub (dVar 3) (dVar 11) dSetL) (dgCons (gName 6) dgNil)))))))
  tNext)))
  (tSeq (tAsg (tCallS (sp_law_agreed K) (fun _ => E0) (tCons (dVar 3) tNil)) (gName 13))
  (tSeq (tIfS (tOr (tNot (dTru (tCallS (sp_law_alike K 2) (fun _ => E0) (tCons (dMethE A.Disks "agreed" (sp_Disks_agreed A) (fun _ => E0) (dVar 2) tNil) (tCons (tCB dTupleOf (tCons (dVar 13) tNil)) tNil))))) (tNot (dTru (tCallS (sp_law_alike K 2) (fun _ => E0) (tCons (dLcR1 (tCons (tC (.int 3)) tNil) (gName 15) tYes (dMethE A.Disks "lines" (sp_Disks_lines A) (fun _ => E0) (dVar 2) (tCons (dVar 15) tNil)) [15]) (tCons (dLcL K (dVar 3) (gName 17) tYes (tCB dTupleOf (tCons (dVar 17) tNil)) [17]) tNil))))))
  (tRet (tC (.bl false)))
  tNext)
  (tSeq (tIfS (tAnd (dTest (tOp dIsNot (dVar 4) (tC .non))) (dTest (tOp (rNotInD K) (dVar 13) (tOp dAdd (tLst (tCons (dVar 4) tNil)) (tIf (tAnd (dTest (tOp dIsNot (dVar 5) (tC .non))) (dTest (tOp dGt (tOp dIx (dVar 5) (tC (.int 1))) (tC (.int 0))))) (tLst (tCons (tOp dAdd (dVar 4) (tLst (tCons (tOp dIx (dVar 5) (tC (.int 0))) tNil))) tNil)) (tLst tNil))))))
  (tRet (tC (.bl false)))
  tNext)
  (tIfS (dTest (tOp dGt (dVar 8) (tC (.int 7))))
  (tSeq (tIfS (tNot (dTru (tCallS (sp_law_alike K 2) (fun _ => E0) (tCons (dMethE A.Disks "mend" (sp_Disks_mend A) (fun _ => E0) (dVar 2) tNil) (tCons (tCB dTupleOf (tCons (dVar 13) tNil)) tNil)))))
  (tRet (tC (.bl false)))
  tNext)
  (tAsg (tTup (tCons (dLcR1 (tCons (tC (.int 3)) tNil) (gName 15) tYes (tCB dListOf (tCons (dVar 13) tNil)) [15]) (tCons (tCB dListOf (tCons (dVar 13) tNil)) (tCons (tC .non) (tCons (tC (.bl false)) tNil))))) (dgTup 4 (dgCons (gName 3) (dgCons (gName 4) (dgCons (gName 5) (dgCons (gName 6) dgNil)))))))
  tNext)))))))
  (tSeq (tAsg (dLcR1 (tCons (tC (.int 3)) tNil) (gName 15) tYes (dMethE A.Disks "lines" (sp_Disks_lines A) (fun _ => E0) (dVar 2) (tCons (dVar 15) tNil)) [15]) (gName 12))
  (tSeq (tAsg (tOp dAdd (tOp dAdd (dLcL K (tLst (tCons (tUn dNeg (tC (.int 1))) (tCons (tC (.int 4)) (tCons (tC .non) tNil)))) (gName 16) tYes (tCallS (sp_law_tried K A) (fun _ => E0) (tCons (dVar 2) (tCons (tC (.int 0)) (tCons (tC (.str "a")) (tCons (dVar 16) tNil))))) [16]) (dLcL K (tLst (tCons (tUn dNeg (tC (.int 1))) (tCons (tC (.int 3)) tNil))) (gName 16) tYes (tCallS (sp_law_tried K A) (fun _ => E0) (tCons (dVar 2) (tCons (tC (.int 1)) (tCons (dVar 16) (tCons (tLst (tCons (tC (.str "a")) tNil)) tNil))))) [16])) (dLcL K (tLst (tCons (tC (.int 3)) (tCons (tC .non) tNil))) (gName 16) tYes (tCallS (sp_law_tried K A) (fun _ => E0) (tCons (dVar 2) (tCons (tC (.int 2)) (tCons (dVar 16) (tCons (tC .non) tNil))))) [16])) (gName 14))
  (tSeq (tAsg (tOp dAdd (dVar 14) (dLcL K (tLst (tCons (tC .non) (tCons (tC (.int 5)) (tCons (tC (.str "a\n")) (tCons (tLst (tCons (tC (.str "a")) tNil)) tNil))))) (gName 16) tYes (tCallS (sp_law_tried K A) (fun _ => E0) (tCons (dVar 2) (tCons (tC (.int 0)) (tCons (dVar 16) (tCons (tC (.int 2)) tNil))))) [16])) (gName 14))
  (tRet (dAndV (tOp (dEqD K) (dVar 14) (tOp dAdd (tOp dMul (tLst (tCons (tC (.str "range")) tNil)) (tC (.int 7))) (tOp dMul (tLst (tCons (tC (.str "form")) tNil)) (tC (.int 4))))) (tCallS (sp_law_alike K 2) (fun _ => E0) (tCons (dLcR1 (tCons (tC (.int 3)) tNil) (gName 15) tYes (dMethE A.Disks "lines" (sp_Disks_lines A) (fun _ => E0) (dVar 2) (tCons (dVar 15) tNil)) [15]) (tCons (dVar 12) tNil))))))))))))
theorem upd_self {H : Hp} {a : Addr} {o : HO} (h : H a = some o) : upd H a o = H := by
  funext b
  unfold upd
  split
  · rename_i e; rw [e, h]
  · rfl
theorem r_law_take {K : PySem.W.Frag} {A : Ads} {E : XK} {vs : List V} {H : Hp} {Q : VK} (h : sp_law_take vs H Q E) : t_law_take K A E { nx := fun _ H' => Q .non H', rt := Q } (L2.start ["draws", "bound"] vs) H := by
  obtain ⟨d, ns, b, rfl, hd, hb, k⟩ := h
  unfold t_law_take
  wp_walk using hd, hb
  rcases List.eq_nil_or_concat ns with rfl | ⟨ms, z, rfl⟩
  · have q := k 0 [] (Int.le_refl _) hb
    rw [upd_self hd] at q
    simpa using q
  · have e : ((List.map V.int (ms.concat z)).length : Int) ≠ 0 := by simp; omega
    rw [if_neg e, List.concat_eq_append, ← map_snoc, List.getLast?_concat, List.dropLast_concat]
    exact k _ _ (Int.emod_nonneg _ (by omega)) (Int.emod_lt_of_pos _ hb)
/-- the draws so far -/
def Dr (H : Hp) (a p : Addr) (m : Nat) (σ : L2.St) (H1 : Hp) : Prop := ∃ v2 v3 v4 v5 v6 : Option V, σ = [some (.ref a), some (.ref p), v2, v3, v4, v5, v6] ∧ Same H H1 ∧ ∃ ms : List Int, H1 p = some (.lst (ms.map V.int)) ∧ ms.length ≤ m
theorem int_at {ns : List Int} {i : Nat} {x : V} (hx : (ns.map V.int)[i]? = some x) : ∃ z, ns[i]? = some z ∧ x = V.int z := by
  rw [List.getElem?_map] at hx
  cases e : ns[i]? with
  | none => rw [e] at hx; cases hx
  | some z => rw [e] at hx; exact ⟨z, rfl, (Option.some.inj hx).symm⟩
theorem r_draws_digits {H : Hp} {a p : Addr} {i : Nat} {D : Ends} (hp : H p = none) (hi : i < 63) (nx : ∀ σ H1, Dr H a p (62 * (i + 1)) σ H1 → D.nx σ H1) {n : Int} {v2 v4 v5 v6 : Option V} {H2 : Hp} {ms : List Int} (s : Same H H2) (h2 : H2 p = some (.lst (ms.map V.int))) (hl : ms.length ≤ 62 * i + 2) :
    ForR 0 (60 : Int).toNat (gName 5) (tIfS (dTest (tOp dGt (dVar 3) (tC (.int 0)))) (tSeq (tDrop (dBM dAppend (dVar 1) (tCons (tOp dMod (tCB dInt (tCons (dVar 3) tNil)) (tC (.int 997))) tNil))) (tAsg (tOp dDiv (dVar 3) (tC (.int 997))) (gName 3))) tNext)
      D [some (.ref a), some (.ref p), v2, some (.int n), v4, v5, v6] H2 := by
  refine forR_go (fun j σ H1 => ∃ (n : Int) (v2 v4 v5 v6 : Option V), σ = [some (.ref a), some (.ref p), v2, some (.int n), v4, v5, v6] ∧ Same H H1 ∧ ∃ ms : List Int, H1 p = some (.lst (ms.map V.int)) ∧ ms.length ≤ 62 * i + 2 + j)
    ⟨n, v2, v4, v5, v6, rfl, s, ms, h2, hl⟩ ?_ ?_
  · rintro j σ H1 hj ⟨n, v2, v4, v5, v6, rfl, s, ms, h2, hl⟩
    have hj' : j < 60 := hj
    wp_walk using h2
    refine ite2 (fun _ => ?_) fun _ => ⟨_, _, _, _, _, rfl, s, ms, rfl, by omega⟩
    exact ⟨by rw [List.length_map]; exact sz (by omega), by unfold CDiv; decide, _, _, _, _, _, rfl, same_mut s hp, ms ++ [n % 997], by simp, by simp; omega⟩
  · rintro σ H1 ⟨n, v2, v4, v5, v6, rfl, s, ms, h2, hl⟩
    have e : (60 : Int).toNat = 60 := rfl
    exact nx _ _ ⟨_, _, _, _, _, rfl, s, ms, h2, by rw [e] at hl; omega⟩
theorem r_draws_seeds {H : Hp} {a p : Addr} {D : Ends} (hp : H p = none) (nx : ∀ σ H1, Dr H a p 5000 σ H1 → D.nx σ H1) {n : Int} {v2 v3 v4 v5 : Option V} {H2 : Hp} {ms : List Int} (s : Same H H2) (h2 : H2 p = some (.lst (ms.map V.int))) (hl : ms.length ≤ 62 * 63) :
    ForR 0 (900 : Int).toNat (gName 5) (tSeq (tAsg (tOp dMod (tCB dInt (tCons (tOp dAdd (tOp dMul (dVar 6) (tC (.int 48271))) (tC (.int 69621))) tNil)) (tC (.int 2147483647))) (gName 6)) (tDrop (dBM dAppend (dVar 1) (tCons (tOp dDiv (dVar 6) (tC (.int 5))) tNil))))
      D [some (.ref a), some (.ref p), v2, v3, v4, v5, some (.int n)] H2 := by
  refine forR_go (fun j σ H1 => ∃ (n : Int) (v2 v3 v4 v5 : Option V), σ = [some (.ref a), some (.ref p), v2, v3, v4, v5, some (.int n)] ∧ Same H H1 ∧ ∃ ms : List Int, H1 p = some (.lst (ms.map V.int)) ∧ ms.length ≤ 62 * 63 + j)
    ⟨n, v2, v3, v4, v5, rfl, s, ms, h2, hl⟩ ?_ ?_
  · rintro j σ H1 hj ⟨n, v2, v3, v4, v5, rfl, s, ms, h2, hl⟩
    have hj' : j < 900 := hj
    wp_walk using h2
    exact ⟨.inr (by decide), by unfold CDiv; decide, by rw [List.length_map]; exact sz (by omega), _, _, _, _, _, rfl, same_mut s hp, ms ++ [(n * 48271 + 69621) % 2147483647 / 5], by simp, by simp; omega⟩
  · rintro σ H1 ⟨n, v2, v3, v4, v5, rfl, s, ms, h2, hl⟩
    have e : (900 : Int).toNat = 900 := rfl
    exact nx _ _ ⟨_, _, _, _, _, rfl, s, ms, h2, by rw [e] at hl; omega⟩
theorem r_law_draws {K : PySem.W.Frag} {A : Ads} {E : XK} {vs : List V} {H : Hp} {Q : VK} (h : sp_law_draws K vs H Q E) : t_law_draws K A E { nx := fun _ H' => Q .non H', rt := Q } (L2.start ["script", "draws", "cell", "number", "first", "k", "seed"] vs) H := by
  obtain ⟨a, ns, rfl, hS, hl, k⟩ := h
  unfold t_law_draws
  walk_at "ev"
  refine ⟨Nat.zero_le _, fun p hp => ?_⟩
  have s0 : Same H (upd H p (.lst [])) := same_new hp
  refine forL_go (xs := ns.map V.int) (s0.seq hS) (fun i σ H1 => Dr H a p (62 * i) σ H1)
    ⟨none, none, none, none, none, rfl, s0, [], upd_same, Nat.le_refl _⟩ (fun i σ H1 _ ⟨_, _, _, _, _, _, s, _⟩ => s.seq hS) ?_ ?_
  · rintro i x σ H1 hx ⟨v2, v3, v4, v5, v6, rfl, s, ms, hm, hml⟩
    have hi := (List.getElem?_eq_some_iff.mp hx).1
    rw [List.length_map] at hi
    obtain ⟨z, _, rfl⟩ := int_at hx
    have e0 : (-(2 ^ 62) ≤ (60 : Int) ∧ (60 : Int) < 2 ^ 62) := by decide
    wp_walk using hm, e0
    refine ⟨by unfold CPow; decide, ite2 (fun _ => ?_) fun _ => ?_⟩
    · refine ⟨.inr (by decide), .inr (by decide), by rw [List.length_map]; exact sz (by omega), by unfold CDiv; decide, ?_⟩
      refine ⟨by simp; exact sz (by omega), r_draws_digits (i := i) hp (by omega) (fun σ H1 h => h) (same_mut s hp) (ms := ms ++ [(((if z < 0 then -z else z) * 48271 + 11) % 2147483647 * 69621 + if z < 0 then -z else z) % 2147483629, (((if z < 0 then -z else z) * 48271 + 11) % 2147483647 + (if z < 0 then -z else z) / 7) % 1000003]) (by rw [upd_same]; simp) (by simp; omega)⟩
    · exact r_draws_digits (i := i) hp (by omega) (fun σ H1 h => h) s hm (by omega)
  · rintro σ H1 ⟨v2, v3, v4, v5, v6, rfl, s, ms, hm, hml⟩
    rw [List.length_map] at hml
    have hS1 : SqL K H1 a (ns.map V.int) := s.seq hS
    have e0 : (-(2 ^ 62) ≤ (900 : Int) ∧ (900 : Int) < 2 ^ 62) := by decide
    have last : ∀ σ H1, Dr H a p 5000 σ H1 → tRet (tListRev K (dVar 1)) { nx := fun _ H' => Q .non H', rt := Q } σ H1 := by
      rintro σ H1 ⟨v2, v3, v4, v5, v6, rfl, s, ms, hm, hml⟩
      unfold tListRev
      walk_at "ev"
      refine ⟨p, ms.map V.int, rfl, SqL.of hm, fun q hq => ?_⟩
      rw [← List.map_reverse]
      exact k q _ ms.reverse (s.free hq) (s.trans (same_new hq)) upd_same
    have go : ∀ (n : Int), ForR 0 (900 : Int).toNat (gName 5) (tSeq (tAsg (tOp dMod (tCB dInt (tCons (tOp dAdd (tOp dMul (dVar 6) (tC (.int 48271))) (tC (.int 69621))) tNil)) (tC (.int 2147483647))) (gName 6)) (tDrop (dBM dAppend (dVar 1) (tCons (tOp dDiv (dVar 6) (tC (.int 5))) tNil))))
      { nx := tRet (tListRev K (dVar 1)) { nx := fun _ H' => Q .non H', rt := Q }, rt := Q } [some (.ref a), some (.ref p), v2, v3, v4, v5, some (.int n)] H1 := fun n => r_draws_seeds hp last s hm (by omega)
    walk_at "ev"
    refine ⟨.ref a, (ns.map V.int).length, rfl, .inl ⟨_, hS1, rfl⟩, ?_⟩
    wp_walk using e0
    refine ite2 (fun hn => ?_) fun _ => go 1
    rw [List.length_map] at hn
    cases ns with
    | nil => simp at hn
    | cons z r =>
      refine .inl ⟨a, _, 0, V.int z, rfl, rfl, hS1, atI_nat (j := 0) rfl, ?_⟩
      wp_walk using e0
      exact go _
theorem paired2 {α β : Type} {F G : α → β → Prop} : ∀ {l m : List α} {ds : List β}, Paired F l ds → Paired G m ds → l.length = m.length := fun p q => (paired_len p).trans (paired_len q).symm
theorem seqI {xs : List V} {i : Nat} (h : i < xs.length) {k : V → Prop} (q : k (xs[i]'h)) : atK xs ((0 : Int) + (i : Nat)) k := by
  unfold atK
  have e : atI xs ((0 : Int) + (i : Nat)) = some (xs[i]'h) := by
    rw [Int.zero_add]
    exact atI_nat (List.getElem?_eq_getElem h)
  rw [e]
  exact q
/-- the items alike, one by one -/
theorem r_alike_items {K : PySem.W.Frag} {n : Nat} {H : Hp} {Q : VK} {p q : Addr} {xs ys : List V} {ds : List PyData} (hp : seqAt (H p) (· = xs)) (hq : seqAt (H q) (· = ys)) (hpk : ∀ H', Same H H' → seqAt (H' p) (· = xs)) (hqk : ∀ H', Same H H' → seqAt (H' q) (· = ys))
    (l1 : xs.length ≤ 100000) (px : Paired (Da H n) xs ds) (py : Paired (Da H n) ys ds) (k : ∀ H', Same H H' → Q (.bl true) H') :
    (-2 ^ 62 ≤ (xs.length : Int) ∧ (xs.length : Int) < 2 ^ 62) ∧ LcJ (Itr 0 (xs.length : Int).toNat) (gName 2) (tNot (dTru (tCallS (sp_law_alike K n) (fun _ => E0) (tCons (tOp dIx (dVar 0) (dVar 2)) (tCons (tOp dIx (dVar 1) (dVar 2)) tNil))))) (dVar 2) [2] [some (.ref p), some (.ref q), none] H
      (fun x H1 => 0 ≤ sizeLine ∧ ∀ (r : Addr), H1 r = none → dEqD K x (.ref r) (upd H1 r (.lst [])) Q) := by
  have el : ys.length = xs.length := paired2 py px
  refine ⟨⟨by omega, by omega⟩, lcR_core (n := (xs.length : Int).toNat) (by omega) (fun _ => false) (fun _ _ _ => True) (fun _ _ _ _ _ _ => trivial) ?_ ?_⟩
  · intro i hi H1 s k1 k0 _ h0
    have hi' : i < ys.length := by omega
    walk_at "ev"
    refine seqE (hpk H1 s) (seqI (by omega) ?_)
    refine seqE (hqk H1 s) (seqI hi' ?_)
    obtain ⟨d, hd⟩ : ∃ d, ds[i]? = some d := ⟨ds[i]'(by rw [← paired_len py]; exact hi'), List.getElem?_eq_getElem _⟩
    obtain ⟨x, hx, dx⟩ := pairedAt px hd
    obtain ⟨y, hy, dy⟩ := pairedAt py hd
    rw [List.getElem?_eq_getElem (show i < xs.length by omega)] at hx
    rw [List.getElem?_eq_getElem hi'] at hy
    cases hx
    cases hy
    refine ⟨_, _, d, rfl, dx.same s, dy.same s, fun H' s' => ?_⟩
    walk_at "ev"
    exact h0 rfl H' s'
  · intro D H1 zs hD s hz pr
    have e : zs = [] := by
      have := paired_len pr
      cases zs with
      | nil => rfl
      | cons z zs =>
        rw [List.filter_eq_nil_iff.mpr (fun _ _ => by simp)] at this
        cases this
    subst e
    refine ⟨by show 0 ≤ sizeLine; decide, fun r hr => ?_⟩
    have s2 := same_new (o := .lst []) hr
    exact eqD_same (n := 1) (Da.lst (s2 D _ hz) (Nat.zero_le _) .nil) (Da.lst upd_same (Nat.zero_le _) .nil) (by decide) (k _ (s.trans s2))
theorem r_alike_atom {K : PySem.W.Frag} {A : Ads} {E : XK} {sq : Sp} {x y : V} {d : PyData} {H : Hp} {Q : VK} (hx : AtomD x d) (hy : AtomD y d) (k : Q (.bl true) H) : t_law_alike K A E sq { nx := fun _ H' => Q .non H', rt := Q } (L2.start ["found", "due", "k"] [x, y]) H := by
  unfold t_law_alike
  rcases hy with ⟨rfl, rfl⟩ | ⟨b, rfl, rfl⟩ | ⟨b, rfl, rfl⟩ | ⟨z, rfl, rfl, hz⟩
  · obtain rfl : x = .non := by
      rcases hx with ⟨rfl, _⟩ | ⟨_, _, e⟩ | ⟨_, _, e⟩ | ⟨_, _, e, _⟩ <;> first | rfl | cases e
    wp_walk using is_NoneType_list, kn_NoneType_list, is_NoneType_tuple, kn_NoneType_tuple
    exact k
  · obtain rfl : x = .bl b := by
      rcases hx with ⟨_, e⟩ | ⟨_, rfl, e⟩ | ⟨_, _, e⟩ | ⟨_, _, e, _⟩ <;> first | (cases e; done) | (cases e; rfl)
    wp_walk using is_bool_list, kn_bool_list, is_bool_tuple, kn_bool_tuple, is_bool_bool, kn_bool_bool
    exact k
  · obtain rfl : x = .int b := by
      rcases hx with ⟨_, e⟩ | ⟨_, _, e⟩ | ⟨_, rfl, e⟩ | ⟨_, _, e, _⟩ <;> first | (cases e; done) | (cases e; rfl)
    wp_walk using is_int_list, kn_int_list, is_int_tuple, kn_int_tuple, is_int_bool, kn_int_bool, is_int_int, kn_int_int
    exact k
  · obtain rfl : x = .str z := by
      rcases hx with ⟨_, e⟩ | ⟨_, _, e⟩ | ⟨_, _, e⟩ | ⟨_, rfl, e, _⟩ <;> first | (cases e; done) | (cases e; rfl)
    wp_walk using is_str_list, kn_str_list, is_str_tuple, kn_str_tuple, is_str_bool, kn_str_bool, is_str_int, kn_str_int, is_str_str, kn_str_str
    exact k
theorem r_law_alike0 {K : PySem.W.Frag} {A : Ads} {E : XK} {sq : Sp} {vs : List V} {H : Hp} {Q : VK} (h : sp_law_alike K 0 vs H Q E) : t_law_alike K A E sq { nx := fun _ H' => Q .non H', rt := Q } (L2.start ["found", "due", "k"] vs) H := by
  obtain ⟨x, y, d, rfl, hx, hy, k⟩ := h
  exact r_alike_atom hx hy (k H (Same.refl H))
theorem r_law_alike {K : PySem.W.Frag} {A : Ads} {E : XK} {n : Nat} {vs : List V} {H : Hp} {Q : VK} (h : sp_law_alike K (n + 1) vs H Q E) : t_law_alike K A E (sp_law_alike K n) { nx := fun _ H' => Q .non H', rt := Q } (L2.start ["found", "due", "k"] vs) H := by
  obtain ⟨x, y, d, rfl, hx, hy, k⟩ := h
  unfold t_law_alike
  rcases hy with hy | ⟨b, ys, ds, rfl, rfl, hb, hlb, py⟩ | ⟨b, ys, ds, rfl, rfl, hb, hlb, py⟩
  · have hx : AtomD x d := by
      rcases hx with hx | ⟨_, _, _, _, e, _⟩ | ⟨_, _, _, _, e, _⟩
      · exact hx
      · subst e
        rcases hy with ⟨_, e⟩ | ⟨_, _, e⟩ | ⟨_, _, e⟩ | ⟨_, _, e, _⟩ <;> cases e
      · subst e
        rcases hy with ⟨_, e⟩ | ⟨_, _, e⟩ | ⟨_, _, e⟩ | ⟨_, _, e, _⟩ <;> cases e
    have := r_alike_atom (K := K) (A := A) (E := E) (sq := sp_law_alike K n) hx hy (k H (Same.refl H))
    unfold t_law_alike at this
    exact this
  · obtain ⟨a, xs, rfl, ha, hla, px⟩ : ∃ a xs, x = .ref a ∧ H a = some (.lst xs) ∧ xs.length ≤ 100000 ∧ Paired (Da H n) xs ds := by
      rcases hx with hx | ⟨a, xs, _, rfl, e, h1, h2, h3⟩ | ⟨_, _, _, _, e, _⟩
      · rcases hx with ⟨_, e⟩ | ⟨_, _, e⟩ | ⟨_, _, e⟩ | ⟨_, _, e, _⟩ <;> cases e
      · cases e; exact ⟨a, xs, rfl, h1, h2, h3⟩
      · cases e
    have el : (ys.length : Int) = (xs.length : Int) := by rw [paired2 px py]
    have it := r_alike_items (K := K) (Q := Q) (p := a) (q := b) (xs := xs) (ys := ys) (by rw [ha]; rfl) (by rw [hb]; rfl) (fun H' s => by rw [s a _ ha]; rfl) (fun H' s => by rw [s b _ hb]; rfl) hla px py k
    wp_walk using ha, hb, el, is_list_list, kn_list_list, is_list_tuple, kn_list_tuple
    exact it
  · obtain ⟨a, xs, rfl, ha, hla, px⟩ : ∃ a xs, x = .ref a ∧ H a = some (.tup xs) ∧ xs.length ≤ 100000 ∧ Paired (Da H n) xs ds := by
      rcases hx with hx | ⟨_, _, _, _, e, _⟩ | ⟨a, xs, _, rfl, e, h1, h2, h3⟩
      · rcases hx with ⟨_, e⟩ | ⟨_, _, e⟩ | ⟨_, _, e⟩ | ⟨_, _, e, _⟩ <;> cases e
      · cases e
      · cases e; exact ⟨a, xs, rfl, h1, h2, h3⟩
    have el : (ys.length : Int) = (xs.length : Int) := by rw [paired2 px py]
    have it := r_alike_items (K := K) (Q := Q) (p := a) (q := b) (xs := xs) (ys := ys) (by rw [ha]; rfl) (by rw [hb]; rfl) (fun H' s => by rw [s a _ ha]; rfl) (fun H' s => by rw [s b _ hb]; rfl) hla px py k
    wp_walk using ha, hb, el, is_tuple_list, kn_tuple_list, is_tuple_tuple, kn_tuple_tuple
    exact it
theorem r_law_word {K : PySem.W.Frag} {A : Ads} {E : XK} {ax D : Addr} {vs : List V} {H : Hp} {Q : VK} (h : sp_law_word K A ax (.ref D) none vs H Q E) : t_law_word K A E ax D { nx := fun _ H' => Q .non H', rt := Q } (L2.start ["e", "kinds", "kind"] vs) H := by
  obtain ⟨D', b1, b2, b3, b4, b5, w, rfl, eD, _, _, k1, k2, k3, k4, k5, hw, k⟩ := h
  cases eD
  unfold t_law_word
  have one : ∀ (bs : List Bool) (j : Nat), bs.length = 5 → bs[j]? = some true → (∀ m, m < j → bs[m]? = some false) → bs.filter id = [true] → ∀ (p : Addr) (H1 : Hp), Same H H1 → H1 p = some (.lst (bs.map V.bl)) →
      (∀ H', Same H H' → (["range", "form", "none", "refused", "much"] : List Str)[j]? = some w → Q (.str w) H') → (["range", "form", "none", "refused", "much"] : List Str)[j]? = some w →
      (tSeq (tIfS (dTest (tOp dNe (tCB dLen (tCons (dLcL K (dVar 1) (gName 2) (dTru (dVar 2)) (dVar 2) [2]) tNil)) (tC (.int 1)))) (tRet (tC (.str "many"))) tNext)
        (tRet (tOp dIx (tLst (tCons (tC (.str "range")) (tCons (tC (.str "form")) (tCons (tC (.str "none")) (tCons (tC (.str "refused")) (tCons (tC (.str "much")) tNil)))))) (dBM (rIndex K) (dVar 1) (tCons (tC (.bl true)) tNil)))))
        { nx := fun _ H' => Q .non H', rt := Q } [some (.ref ax), some (.ref p), none] H1 := by
    intro bs j hl hj hb hf p H1 s hp q1 q2
    wp_walk using hp
    refine lcL_core (xs := bs.map V.bl) (SqL.of hp) (by rw [List.length_map, hl]; decide) (fun x => decide (x = .bl true)) (fun x y _ => y = x) (fun _ _ _ _ _ h => h) ?_ ?_
    · intro x hx H2 s2 k1 k0 h1 h0
      obtain ⟨b, _, rfl⟩ := List.mem_map.mp hx
      walk_at "ev"
      cases b with
      | true =>
        walk_at "ev"
        exact h1 (by decide) _ H2 (Same.refl _) rfl
      | false =>
        walk_at "ev"
        exact h0 (by decide) H2 (Same.refl _)
    · intro D2 H2 ys hD s2 hys pr
      have e : (bs.map V.bl).filter (fun x => decide (x = .bl true)) = (bs.filter id).map V.bl := by
        rw [List.filter_map]
        congr 1
        apply List.filter_congr
        intro b _
        cases b <;> rfl
      rw [e, hf] at pr
      have ly : ys.length = 1 := (paired_len pr).symm
      wp_walk using hys, ly
      refine ⟨by show 5 ≤ sizeLine; decide, fun r hr => ?_⟩
      have s3 : Same H1 (upd H2 r (.lst [.str "range", .str "form", .str "none", .str "refused", .str "much"])) := s2.trans (same_new hr)
      have hp3 := s3 p _ hp
      wp_walk using hp3
      refine ⟨p, bs.map V.bl, .bl true, j, .bl true, rfl, rfl, SqL.of hp3, rfl, by simp [flatV], by rw [List.getElem?_map, hj]; rfl, rfl, fun m z' hm hz => ?_, ?_⟩
      · rw [List.getElem?_map, hb m hm] at hz
        cases hz
        rfl
      · have ee : ([V.str "range", .str "form", .str "none", .str "refused", .str "much"] : List V)[j]? = some (.str w) := by
          have := congrArg (Option.map V.str) q2
          rw [← List.getElem?_map] at this
          exact this
        walk_at "ev"
        exact atK_nat ee (q1 _ (s.trans s3) q2)
  refine seq1 ?_
  wide_line using [k1, k2, k3, k4, k5]
  simp only [List.mem_cons, Prod.mk.injEq, List.not_mem_nil, or_false] at hw
  refine ⟨by show 5 ≤ sizeLine; decide, fun p hp => ?_⟩
  have s := same_new (o := .lst [.bl b1, .bl b2, .bl b3, .bl b4, .bl b5]) hp
  have few : ∀ (bs : List Bool) (j : Nat), bs[j]? = some true → (∀ m, m < j → bs[m]? = some false) → True := fun _ _ _ _ => trivial
  rcases hw with ⟨rfl, rfl, rfl, rfl, rfl, rfl⟩ | ⟨rfl, rfl, rfl, rfl, rfl, rfl⟩ | ⟨rfl, rfl, rfl, rfl, rfl, rfl⟩ | ⟨rfl, rfl, rfl, rfl, rfl, rfl⟩ | ⟨rfl, rfl, rfl, rfl, rfl, rfl⟩
  · exact one [true, false, false, false, false] 0 rfl rfl (fun m hm => by omega) rfl p _ s upd_same (fun H' s' _ => k H' s') rfl
  · exact one [false, true, false, false, false] 1 rfl rfl (fun m hm => by match m, hm with | 0, _ => rfl) rfl p _ s upd_same (fun H' s' _ => k H' s') rfl
  · exact one [false, false, true, false, false] 2 rfl rfl (fun m hm => by match m, hm with | 0, _ => rfl | 1, _ => rfl) rfl p _ s upd_same (fun H' s' _ => k H' s') rfl
  · exact one [false, false, false, true, false] 3 rfl rfl (fun m hm => by match m, hm with | 0, _ => rfl | 1, _ => rfl | 2, _ => rfl) rfl p _ s upd_same (fun H' s' _ => k H' s') rfl
  · exact one [false, false, false, false, true] 4 rfl rfl (fun m hm => by match m, hm with | 0, _ => rfl | 1, _ => rfl | 2, _ => rfl | 3, _ => rfl) rfl p _ s upd_same (fun H' s' _ => k H' s') rfl
theorem r_is_number {K : PySem.W.Frag} {A : Ads} {E : XK} {vs : List V} {H : Hp} {Q : VK} (h : sp_is_number vs H Q E) : t_is_number K A E { nx := fun _ H' => Q .non H', rt := Q } (L2.start ["value", "least", "most"] vs) H := by
  obtain ⟨v, lo, hi, rfl, hv, k⟩ := h
  unfold t_is_number
  rcases hv with rfl | ⟨b, rfl⟩ | ⟨i, rfl⟩ | ⟨x, rfl⟩
  · walk_at "ev"
    exact k false ⟨fun h => (nomatch h), fun ⟨_, e, _⟩ => (nomatch e)⟩
  · walk_at "ev"
    exact k false ⟨fun h => (nomatch h), fun ⟨_, e, _⟩ => (nomatch e)⟩
  · walk_at "ev"
    refine ite2 (fun h1 => k _ ?_) (fun h1 => k _ ?_)
    · rw [decide_eq_true_iff]
      exact ⟨fun h => ⟨i, rfl, h1, h⟩, fun ⟨j, e, _, h⟩ => by cases e; exact h⟩
    · exact ⟨fun h => (nomatch h), fun ⟨j, e, h, _⟩ => by cases e; exact absurd h h1⟩
  · walk_at "ev"
    exact k false ⟨fun h => (nomatch h), fun ⟨_, e, _⟩ => (nomatch e)⟩
theorem r_is_line {K : PySem.W.Frag} {A : Ads} {E : XK} {vs : List V} {H : Hp} {Q : VK} (h : sp_is_line vs H Q E) : t_is_line K A E { nx := fun _ H' => Q .non H', rt := Q } (L2.start ["value"] vs) H := by
  obtain ⟨v, rfl, ⟨x, rfl, k⟩ | ⟨hv, k⟩⟩ := h
  · unfold t_is_line
    walk_at "ev"
    exact k
  · unfold t_is_line
    rcases hv with rfl | ⟨b, rfl⟩ | ⟨i, rfl⟩ | ⟨a, xs, rfl, ha⟩
    · walk_at "ev"
      exact k
    · walk_at "ev"
      exact k
    · walk_at "ev"
      exact k
    · wp_walk using ha
      exact k
theorem r_Disks__init_ {K : PySem.W.Frag} {A : Ads} {E : XK} {vs : List V} {H : Hp} {Q : VK} (h : sp_Disks__init_ A vs H Q E) : t_Disks__init_ K A E { nx := fun _ H' => Q .non H', rt := Q } (L2.start ["self"] vs) H := by
  obtain ⟨x, dx, rfl, hx, k⟩ := h
  unfold t_Disks__init_
  wp_walk using hx
  refine ⟨by decide, fun q0 h0 => ⟨by decide, fun q1 h1 => ⟨by decide, fun q2 h2 => ⟨by decide, fun p hp => ?_⟩⟩⟩⟩
  simp only [upd_fresh] at h1 h2 hp
  obtain ⟨m1, h1⟩ := h1
  obtain ⟨m2, m3, h2⟩ := h2
  obtain ⟨m4, m5, m6, hp⟩ := hp
  have x0 := ne_of_none hx h0
  have x1 := ne_of_none hx h1
  have x2 := ne_of_none hx h2
  have xp := ne_of_none hx hp
  wp_walk using x0, x1, x2, xp, hx
  refine ⟨by decide, k p [q0, q1, q2] _ ⟨⟨dx, upd_same⟩, ?_, .cons ?_ (.cons ?_ (.cons ?_ .nil)), ?_, ?_, rfl, ?_⟩ ?_ ?_⟩
  · rw [upd_ne xp.symm, upd_same]; rfl
  · rw [upd_ne x0.symm, upd_ne m6, upd_ne m3, upd_ne m1, upd_same]; rfl
  · rw [upd_ne x1.symm, upd_ne m5, upd_ne m2, upd_same]; rfl
  · rw [upd_ne x2.symm, upd_ne m4, upd_same]; rfl
  · simp [m1, m2, m3]
  · simp [Ne.symm m4, Ne.symm m5, Ne.symm m6]
  · intro r hr
    simp at hr
    subst hr
    exact ⟨fun x hx => by simp at hx, Nat.zero_le _⟩
  · exact ((((Keep.refl.new0 h0).new0 h1).new0 h2).new0 hp).up (by simp)
  · intro y hy
    simp at hy
    rcases hy with rfl | rfl | rfl | rfl <;> assumption
theorem DkAt.get {A : Ads} {H : Hp} {o p : Addr} {qs : List Addr} {R : List (List Str)} (D : DkAt A H o p qs R) {i : Nat} {r : List Str} (h : R[i]? = some r) : ∃ q, qs[i]? = some q ∧ (qs.map V.ref)[i]? = some (.ref q) ∧ H q = some (.lst (r.map V.str)) := by
  obtain ⟨q, h1, h2⟩ := pairedAt D.rows h
  exact ⟨q, h1, by rw [List.getElem?_map, h1]; rfl, h2⟩
theorem r_Disks_lines {K : PySem.W.Frag} {A : Ads} {E : XK} {vs : List V} {H : Hp} {Q : VK} (h : sp_Disks_lines A vs H Q E) : t_Disks_lines K A E { nx := fun _ H' => Q .non H', rt := Q } (L2.start ["self", "disk"] vs) H := by
  obtain ⟨o, p, qs, R, v, rfl, D, hv, ke, k⟩ := h
  unfold t_Disks_lines
  refine seq1 ?_
  walk_at "ev"
  refine ⟨v, 0, 2, rfl, hv, fun b hb => ?_⟩
  cases b with
  | false =>
    walk_at "ev"
    exact ke (fun h => Bool.noConfusion (hb.mpr h))
  | true =>
    obtain ⟨i, rfl, h0, h2⟩ := hb.mp rfl
    obtain ⟨j, rfl⟩ := Int.eq_ofNat_of_zero_le h0
    obtain ⟨dx, ho⟩ := D.ob
    have hj : j < R.length := by rw [D.n3]; omega
    obtain ⟨q, _, hq, hr⟩ := D.get (List.getElem?_eq_getElem hj)
    have hp := D.ro
    wp_walk using ho, hp
    refine atK_nat hq ?_
    wp_walk using hr
    exact fun a ha => k j rfl (by omega) a _ (List.getElem?_eq_getElem hj) ha
theorem mapIdx_step {R : List (List Str)} {x : Str} {k : Nat} {r : List Str} (h : R[k]? = some r) : putR R x (k + 1) = (putR R x k).set k (r ++ [x]) := by
  unfold putR
  apply List.ext_getElem?
  intro i
  rw [List.getElem?_set, List.getElem?_mapIdx, List.getElem?_mapIdx]
  by_cases e : k = i
  · subst e
    rw [h]
    have hk : k < R.length := (List.getElem?_eq_some_iff.mp h).1
    simp [hk]
  · rw [if_neg e]
    congr 1
    funext l
    by_cases h1 : i < k
    · rw [if_pos h1, if_pos (by omega)]
    · rw [if_neg h1, if_neg (by omega)]
theorem putR_zero {R : List (List Str)} {x : Str} : putR R x 0 = R := by
  unfold putR
  apply List.ext_getElem?
  intro i
  rw [List.getElem?_mapIdx]
  cases R[i]? <;> simp
theorem putR_at {R : List (List Str)} {x : Str} {k : Nat} : (putR R x k)[k]? = R[k]? := by
  unfold putR
  rw [List.getElem?_mapIdx]
  cases R[k]? <;> simp
theorem paired_set {α β : Type} {F G : α → β → Prop} : ∀ {l : List α} {m : List β} {i : Nat} {b : β} {a : α}, Paired F l m → l[i]? = some a → (∀ (j : Nat) (a' : α) (b' : β), j ≠ i → l[j]? = some a' → m[j]? = some b' → F a' b' → G a' b') → G a b → Paired G l (m.set i b)
  | _, _, _, _, _, .nil, e, _, _ => by simp at e
  | _, _, 0, _, _, .cons h t, e, hs, hb => by
    simp at e
    subst e
    refine .cons hb ?_
    have : ∀ {l : List _} {m : List _}, Paired F l m → (∀ (j : Nat) a' b', l[j]? = some a' → m[j]? = some b' → F a' b' → G a' b') → Paired G l m := by
      intro l m p
      induction p with
      | nil => intro _; exact .nil
      | cons f t ih => intro hh; exact .cons (hh 0 _ _ rfl rfl f) (ih fun j a' b' e1 e2 => hh (j + 1) a' b' (by simpa using e1) (by simpa using e2))
    exact this t fun j a' b' e1 e2 => hs (j + 1) a' b' (by omega) (by simpa using e1) (by simpa using e2)
  | _, _, i + 1, _, _, .cons h t, e, hs, hb => by
    rw [List.set_cons_succ]
    exact .cons (hs 0 _ _ (by omega) rfl rfl h) (paired_set t (by simpa using e) (fun j a' b' n e1 e2 => hs (j + 1) a' b' (by omega) (by simpa using e1) (by simpa using e2)) hb)
/-- one row changed in place -/
theorem DkAt.mut {A : Ads} {H : Hp} {o p : Addr} {qs : List Addr} {R : List (List Str)} (D : DkAt A H o p qs R) {i : Nat} {q : Addr} (h : qs[i]? = some q) {r : List Str} (ok : OkS r ∧ r.length ≤ 1000) : DkAt A (upd H q (.lst (r.map V.str))) o p qs (R.set i r) := by
  have mq : q ∈ qs := List.mem_of_getElem? h
  obtain ⟨dx, ho⟩ := D.ob
  have hqr : ∃ r : List Str, H q = some (.lst (r.map V.str)) := by
    obtain ⟨r, h1, h2⟩ := pairedGet D.rows h
    exact ⟨r, h2⟩
  obtain ⟨r0, hq⟩ := hqr
  refine ⟨⟨dx, ?_⟩, ?_, ?_, D.nd, D.np, by rw [List.length_set]; exact D.n3, ?_⟩
  · rw [upd_ne (ne_of ho hq (by intro z; cases z))]; exact ho
  · rw [upd_ne (fun e => D.np (by rw [e]; exact mq))]; exact D.ro
  · refine paired_set D.rows h (fun j a' b' n e1 e2 f => ?_) upd_same
    have : a' ≠ q := by
      rintro rfl
      exact n (nodup_ix D.nd e1 h)
    show upd H q _ a' = _
    rw [upd_ne this]
    exact f
  · intro x hx
    rcases List.mem_or_eq_of_mem_set hx with hx | rfl
    · exact D.ok x hx
    · exact ok
theorem r_Disks_write {K : PySem.W.Frag} {A : Ads} {E : XK} {vs : List V} {H : Hp} {Q : VK} (h : sp_Disks_write A vs H Q E) : t_Disks_write K A E { nx := fun _ H' => Q .non H', rt := Q } (L2.start ["self", "line", "reach", "disk"] vs) H := by
  obtain ⟨o, p, qs, R, line, reach, rfl, D, hv, hR, hl, ke, kf, k⟩ := h
  unfold t_Disks_write
  refine seq1 ?_
  walk_at "ev"
  refine ⟨reach, 0, 3, rfl, hv, fun b hb => ?_⟩
  cases b with
  | false =>
    walk_at "ev"
    exact ke (fun h => Bool.noConfusion (hb.mpr h))
  | true =>
    obtain ⟨i, rfl, h0, h2⟩ := hb.mp rfl
    obtain ⟨j, rfl⟩ := Int.eq_ofNat_of_zero_le h0
    wide_line using [upd_same]
    have bad : (¬ ∃ x, line = .str x ∧ inS nl x = false) → E (.ref A.Malformed) none H := fun h => kf ⟨_, rfl, h0, h2⟩ h
    refine ⟨line, rfl, ?_⟩
    rcases hl with ⟨x, rfl, hok⟩ | hl
    · refine .inl ⟨x, rfl, ?_⟩
      cases hx : inS nl x with
      | true =>
        walk_at "ev"
        exact bad fun ⟨y, e, h⟩ => by cases e; rw [hx] at h; cases h
      | false =>
        wide_line using [upd_same]
        refine ⟨⟨by omega, by omega⟩, ?_⟩
        have e3 : ((j : Nat) : Int).toNat = j := Int.toNat_natCast j
        rw [e3]
        refine forR_to (fun m σ H' => ∃ o3, σ = [some (.ref o), some (.str x), some (.int (j : Nat)), o3] ∧ DkAt A H' o p qs (putR R x m) ∧ Keep qs H H') (fun σ H' => DkAt A H' o p qs (putR R x j) ∧ Keep qs H H') ⟨none, rfl, by rw [putR_zero]; exact D, Keep.refl⟩ (fun σ H ⟨_, _, h1, h2⟩ => ⟨h1, h2⟩) ?_ ?_
        · rintro σ H1 ⟨h1, h2⟩
          exact k j x rfl (by omega) rfl hx H1 h1 h2
        · rintro N nx _ m σ H1 hm hN ⟨o3, rfl, D1, K1⟩
          have hm3 : m < R.length := by rw [D.n3]; omega
          have hrm : (putR R x m)[m]? = some (R[m]) := by rw [putR_at]; exact List.getElem?_eq_getElem hm3
          obtain ⟨q, hq1, hq, hr⟩ := D1.get hrm
          obtain ⟨dx, ho⟩ := D1.ob
          have hp := D1.ro
          have em : (0 : Int) + (m : Nat) = ((m : Nat) : Int) := by omega
          wide_line using [ho, hp, em]
          refine atK_nat hq ?_
          wide_line using [hr]
          have hrl : R[m].length < 1000 := hR _ (List.getElem_mem hm3)
          refine ⟨by rw [List.length_map, sizeLine_eq]; omega, hN _ _ ⟨_, rfl, ?_, K1.up (List.mem_of_getElem? hq1)⟩⟩
          have em2 : R[m].map V.str ++ [V.str x] = (R[m] ++ [x]).map V.str := by simp
          rw [em2, mapIdx_step (List.getElem?_eq_getElem hm3)]
          refine D1.mut hq1 ⟨?_, by rw [List.length_append]; simp; omega⟩
          intro y hy
          rcases List.mem_append.mp hy with hy | hy
          · exact (D.ok _ (List.getElem_mem hm3)).1 y hy
          · simp at hy; subst hy; exact hok
    · refine .inr ⟨hl, ?_⟩
      walk_at "ev"
      refine bad fun ⟨y, e, h⟩ => ?_
      subst e
      rcases hl with h | ⟨_, h⟩ | ⟨_, h⟩ | ⟨_, _, h, _⟩ <;> cases h
theorem nodup_set {α : Type} {l : List α} (nd : l.Nodup) {i : Nat} {a : α} (h : a ∉ l) : (l.set i a).Nodup := by
  refine List.pairwise_iff_getElem.mpr fun j k hj hk hjk => ?_
  have p := List.pairwise_iff_getElem.mp nd
  rw [List.length_set] at hj hk
  rw [List.getElem_set, List.getElem_set]
  split <;> split
  · omega
  · exact fun e => h (by rw [e]; exact List.getElem_mem hk)
  · exact fun e => h (by rw [← e]; exact List.getElem_mem hj)
  · exact p j k hj hk hjk
theorem paired_setB {α β : Type} {F G : α → β → Prop} : ∀ {l : List α} {m : List β} {i : Nat} {b : β} {a : α}, Paired F l m → (∀ (j : Nat) (a' : α) (b' : β), l[j]? = some a' → m[j]? = some b' → F a' b' → G a' b') → G a b → Paired G (l.set i a) (m.set i b)
  | _, _, _, _, _, .nil, _, _ => .nil
  | _, _, 0, _, _, .cons h t, hs, hb => by
    refine .cons hb ?_
    have : ∀ {l : List _} {m : List _}, Paired F l m → (∀ (j : Nat) a' b', l[j]? = some a' → m[j]? = some b' → F a' b' → G a' b') → Paired G l m := by
      intro l m p
      induction p with
      | nil => intro _; exact .nil
      | cons f t ih => intro hh; exact .cons (hh 0 _ _ rfl rfl f) (ih fun j a' b' e1 e2 => hh (j + 1) a' b' (by simpa using e1) (by simpa using e2))
    exact this t fun j a' b' e1 e2 => hs (j + 1) a' b' (by simpa using e1) (by simpa using e2)
  | _, _, i + 1, _, _, .cons h t, hs, hb => by
    rw [List.set_cons_succ, List.set_cons_succ]
    exact .cons (hs 0 _ _ rfl rfl h) (paired_setB t (fun j a' b' e1 e2 => hs (j + 1) a' b' (by simpa using e1) (by simpa using e2)) hb)
theorem r_Disks_spoil {K : PySem.W.Frag} {A : Ads} {E : XK} {vs : List V} {H : Hp} {Q : VK} (h : sp_Disks_spoil A vs H Q E) : t_Disks_spoil K A E { nx := fun _ H' => Q .non H', rt := Q } (L2.start ["self", "disk", "lines"] vs) H := by
  obtain ⟨o, p, qs, R, v, a, l, rfl, D, hv, ha, okl, hll, ke, k⟩ := h
  unfold t_Disks_spoil
  refine seq1 ?_
  walk_at "ev"
  refine ⟨v, 0, 2, rfl, hv, fun b hb => ?_⟩
  cases b with
  | false =>
    walk_at "ev"
    exact ke (fun h => Bool.noConfusion (hb.mpr h))
  | true =>
    obtain ⟨i, rfl, h0, h2⟩ := hb.mp rfl
    obtain ⟨j, rfl⟩ := Int.eq_ofNat_of_zero_le h0
    obtain ⟨dx, ho⟩ := D.ob
    have hj : j < R.length := by rw [D.n3]; omega
    have hp := D.ro
    have ql : qs.length = 3 := by rw [paired_len D.rows, D.n3]
    wide_line using [ha]
    intro q hq
    have n1 : o ≠ q := ne_of_none ho hq
    have n2 : p ≠ q := ne_of_none hp hq
    have nq : q ∉ qs := fun m => by
      obtain ⟨j2, hj2⟩ := List.getElem?_of_mem m
      obtain ⟨r, _, h2⟩ := pairedGet D.rows hj2
      rw [hq] at h2
      cases h2
    wide_line using [ho, hp, n1, n2]
    refine ⟨by omega, by rw [List.length_map, ql]; omega, ?_⟩
    rw [Int.toNat_natCast]
    have e1 : (qs.map V.ref).set j (.ref q) = (qs.set j q).map V.ref := by rw [List.map_set]
    rw [e1]
    refine k j rfl (by omega) q _ hq ⟨⟨dx, ?_⟩, upd_same, ?_, nodup_set D.nd nq, ?_, by rw [List.length_set]; exact D.n3, ?_⟩ ((Keep.refl.new hq).up (by simp))
    · rw [upd_ne (ne_of ho hp (by intro z; cases z)), upd_ne n1]; exact ho
    · refine paired_setB D.rows (fun j2 a' b' e1 e2 f => ?_) ?_
      · show upd (upd H q _) p _ a' = _
        rw [upd_ne (fun e => D.np (by rw [← e]; exact List.mem_of_getElem? e1)), upd_ne (fun e => nq (by rw [← e]; exact List.mem_of_getElem? e1))]
        exact f
      · show upd (upd H q _) p _ q = _
        rw [upd_ne (Ne.symm n2), upd_same]
    · intro m
      rcases List.mem_or_eq_of_mem_set m with m | m
      · exact D.np m
      · exact n2 m
    · intro r hr
      rcases List.mem_or_eq_of_mem_set hr with hr | rfl
      · exact D.ok r hr
      · exact ⟨okl, hll⟩
theorem nxt_spec {f r : List Str} : nxt f r = if f.length < r.length ∧ r.take f.length = f then r[f.length]? else none := rfl
theorem told_ok {R : List (List Str)} {f : List Str} (ok : ∀ r ∈ R, OkS r ∧ r.length ≤ 1000) : OkS (told R f) := by
  intro x hx
  obtain ⟨r, hr, h⟩ := List.mem_filterMap.mp hx
  unfold nxt at h
  split at h
  · exact (ok r hr).1 x (List.mem_of_getElem? h)
  · cases h
theorem told_len {R : List (List Str)} {f : List Str} : (told R f).length ≤ R.length := List.length_filterMap_le _ _
theorem len_max {R : List (List Str)} {r : List Str} (h : r ∈ R) : r.length ≤ maxLen R := by
  unfold maxLen
  induction R with
  | nil => cases h
  | cons a R ih =>
    rw [List.map_cons, List.foldr_cons]
    rcases List.mem_cons.mp h with rfl | h
    · exact Nat.le_max_left _ _
    · exact Nat.le_trans (ih h) (Nat.le_max_right _ _)
theorem told_ne {R : List (List Str)} {f : List Str} {x : Str} (h : x ∈ told R f) : ∃ r ∈ R, f.length < r.length := by
  obtain ⟨r, hr, h⟩ := List.mem_filterMap.mp h
  unfold nxt at h
  split at h
  · rename_i c
    exact ⟨r, hr, c.1⟩
  · cases h
theorem maxLen_le {R : List (List Str)} (ok : ∀ r ∈ R, OkS r ∧ r.length ≤ 1000) : maxLen R ≤ 1000 := by
  unfold maxLen
  induction R with
  | nil => exact Nat.zero_le _
  | cons a R ih =>
    rw [List.map_cons, List.foldr_cons]
    exact Nat.max_le.mpr ⟨(ok a List.mem_cons_self).2, ih fun r hr => ok r (List.mem_cons_of_mem _ hr)⟩
/-- what is told, as a comprehension finds it -/
theorem told_pair {R : List (List Str)} {f : List Str} {ys : List V} (h : Paired (fun r y => ∃ s, nxt f r = some s ∧ y = V.str s) (R.filter fun r => (nxt f r).isSome) ys) : ys = (told R f).map V.str := by
  unfold told
  induction R generalizing ys with
  | nil => cases h; rfl
  | cons r R ih =>
    rw [List.filter_cons] at h
    rw [List.filterMap_cons]
    cases e : nxt f r with
    | none =>
      rw [if_neg (by rw [e]; simp)] at h
      exact ih h
    | some s =>
      rw [if_pos (by rw [e]; rfl)] at h
      cases h with
      | cons h t =>
        obtain ⟨s', e', rfl⟩ := h
        rw [e] at e'
        cases e'
        rw [ih t]
        rfl
/-- the turn of the comprehension that tells -/
theorem told_turn {K : PySem.W.Frag} {H1 : Hp} {q fa : Addr} {r f : List Str} {k1 : VK} {k0 : Hp → Prop} (hq : H1 q = some (.lst (r.map V.str))) (hf : H1 fa = some (.lst (f.map V.str))) (okr : OkS r ∧ r.length ≤ 1000) (okf : OkS f ∧ f.length ≤ 1000)
    (h1 : (nxt f r).isSome = true → ∀ y H', Same H1 H' → (∃ s, nxt f r = some s ∧ y = V.str s) → k1 y H') (h0 : (nxt f r).isSome = false → ∀ H', Same H1 H' → k0 H') :
    if (f.length : Int) < r.length then ∀ p, H1 p = none → dEqD K (.ref p) (.ref fa) (upd H1 p (.lst ((r.take f.length).map V.str))) fun x H' => match x with
      | .bl b => if b = true then seqAt (H' fa) fun ys => seqAt (H' q) fun xs => atK xs (ys.length : Nat) fun v => k1 v H' else k0 H'
      | _ => False
    else k0 H1 := by
  refine ite2 (fun hlt => ?_) fun hlt => ?_
  · intro p hp
    have hfa : fa ≠ p := ne_of_none hf hp
    have hqa : q ≠ p := ne_of_none hq hp
    have S := same_new (o := .lst ((r.take f.length).map V.str)) hp
    refine eqD_strs upd_same (by rw [upd_ne hfa]; exact hf) (by rw [List.length_take]; omega) (by omega) (fun x hx => okr.1 x (List.mem_of_mem_take hx)) okf.1 ?_
    have hl : f.length < r.length := by omega
    cases e : decide (r.take f.length = f) with
    | false =>
      have e := of_decide_eq_false e
      exact h0 (by rw [nxt_spec, if_neg (fun h => e h.2)]; rfl) _ S
    | true =>
      have e := of_decide_eq_true e
      have en : nxt f r = some (r[f.length]) := by rw [nxt_spec, if_pos ⟨hl, e⟩]; exact List.getElem?_eq_getElem hl
      show seqAt (upd H1 p _ fa) _
      rw [upd_ne hfa, hf]
      show seqAt (upd H1 p _ q) _
      rw [upd_ne hqa, hq]
      show atK (r.map V.str) ((f.map V.str).length : Nat) _
      rw [List.length_map]
      exact atK_nat (by rw [List.getElem?_map, List.getElem?_eq_getElem hl]; rfl) (h1 (by rw [en]; rfl) _ _ S ⟨_, en, rfl⟩)
  · exact h0 (by rw [nxt_spec, if_neg (fun h => hlt (by omega))]; rfl) _ (Same.refl _)
theorem r_Disks_agreed {K : PySem.W.Frag} {A : Ads} {E : XK} {vs : List V} {H : Hp} {Q : VK} (h : sp_Disks_agreed A vs H Q E) : t_Disks_agreed K A E { nx := fun _ H' => Q .non H', rt := Q } (L2.start ["self", "found", "told", "twice", "rows", "line"] vs) H := by
  obtain ⟨o, p, qs, R, rfl, D, k⟩ := h
  unfold t_Disks_agreed
  refine seq1 ?_
  wide_line using [upd_same]
  refine ⟨by decide, fun fa hfa => ?_⟩
  refine while_to (fun m σ H1 => ∃ o2 o3 f, σ = [some (.ref o), some (.ref fa), o2, o3, none, none] ∧ Same H H1 ∧ H1 fa = some (.lst (f.map V.str)) ∧ agrF m R f = agr R ∧ maxLen R ≤ m + f.length ∧ OkS f ∧ f.length ≤ maxLen R) (fun _ _ => False) (maxLen R) ⟨none, none, [], rfl, same_new hfa, upd_same, rfl, Nat.le_refl _, fun x hx => by simp at hx, Nat.zero_le _⟩ (fun _ _ h => h.elim) ?_
  rintro nx _ m σ H1 ⟨o2, o3, f, rfl, S1, hf1, ha, hm, okf, hfl⟩
  have mx := maxLen_le D.ok
  obtain ⟨dx, ho⟩ := D.ob
  have ho1 := S1 _ _ ho
  have hp1 := S1 _ _ D.ro
  wide_line using [upd_same]
  refine turnN fun N hN => ?_
  refine seq1 ?_
  wide_line using [ho1]
  refine lcL_pair (.inl (.inl hp1)) (F := fun v r => ∃ q, v = V.ref q ∧ H q = some (.lst (r.map V.str))) (ps := R) ?_ ?_ (fun r => (nxt f r).isSome) (fun r y _ => ∃ s, nxt f r = some s ∧ y = V.str s) (fun _ _ _ _ _ h => h) ?_ ?_
  · exact paired_refs D.rows
  · rw [List.length_map, paired_len D.rows, D.n3]; decide
  · rintro i x r hx hr ⟨q, rfl, hq⟩ H2 S2 k1 k0 h1 h0
    have hq2 := S2 _ _ (S1 _ _ hq)
    have hf2 := S2 _ _ hf1
    wp_walk using hq2, hf2
    rw [List.length_map, List.length_map, slice_strs]
    exact told_turn hq2 hf2 (D.ok r (List.mem_of_getElem? hr)) ⟨okf, by omega⟩ h1 h0
  rintro T H2 ys hT S2 hT2 pq
  have e := told_pair pq
  subst e
  clear pq
  have okt := told_ok (f := f) D.ok
  have tl := told_len (R := R) (f := f)
  rw [D.n3] at tl
  refine seq1 ?_
  wide_line using [hT2]
  refine lcL_pair (.inl (.inl hT2)) paired_strs (by rw [List.length_map]; omega) (fun x => decide (1 < (told R f).count x)) (fun x y _ => y = V.str x) (fun _ _ _ _ _ h => h) ?_ ?_
  · rintro i x s hx hs rfl H3 S3 k1 k0 h1 h0
    have hT3 := S3 _ _ hT2
    wp_walk using hT3
    refine ⟨rfl, flat_strs, ?_⟩
    rw [cnt_strs]
    refine ite2 (fun h => h1 (decide_eq_true (by omega)) _ _ (Same.refl _) rfl) fun h => h0 (decide_eq_false (by omega)) _ (Same.refl _)
  rintro U H3 ys hU S3 hU3 pq
  have e : ys = (twice (told R f)).map V.str := paired_map pq
  subst e
  have S13 := S2.trans S3
  have hf3 := S13 _ _ hf1
  refine seq1 ?_
  wide_line using [hU3]
  cases et : twice (told R f) with
  | nil =>
    rw [et] at hU3
    wide_line using [hf3]
    intro a ha'
    refine k a _ ((S1.trans S13).trans (same_new ha')) ((S1.trans S13).free ha') ?_
    rw [upd_same, ← ha]
    cases m with
    | zero => rfl
    | succ m => simp only [agrF, et]
  | cons x l =>
    rw [et, List.map_cons] at hU3
    rw [List.map_cons, List.length_cons]
    wide_line using [hU3, hf3]
    have hx : x ∈ told R f := (List.mem_filter.mp (show x ∈ twice (told R f) by rw [et]; exact List.mem_cons_self)).1
    obtain ⟨r, hr, hlt⟩ := told_ne hx
    have hrm := len_max hr
    refine ⟨by rw [List.length_map, sizeLine_eq]; omega, ?_⟩
    have e2 : f.map V.str ++ [V.str x] = (f ++ [x]).map V.str := by simp
    rw [e2]
    obtain ⟨m, rfl⟩ : ∃ m', m = m' + 1 := ⟨m - 1, by omega⟩
    refine hN m _ _ (Nat.lt_succ_self _) ⟨_, _, f ++ [x], rfl, same_mut (S1.trans S13) hfa, upd_same, ?_, ?_, ?_, ?_⟩
    · rw [← ha]
      simp only [agrF, et]
    · rw [List.length_append, List.length_singleton]; omega
    · intro y hy
      rcases List.mem_append.mp hy with hy | hy
      · exact okf y hy
      · simp at hy; subst hy; exact okt _ hx
    · rw [List.length_append, List.length_singleton]; omega
theorem agrF_ok {R : List (List Str)} (ok : ∀ r ∈ R, OkS r ∧ r.length ≤ 1000) : ∀ {n : Nat} {f : List Str}, OkS f → f.length ≤ maxLen R → OkS (agrF n R f) ∧ (agrF n R f).length ≤ maxLen R
  | 0, f, h, hl => ⟨h, hl⟩
  | n + 1, f, h, hl => by
    unfold agrF
    split
    · exact ⟨h, hl⟩
    · rename_i x l et
      have hx : x ∈ told R f := (List.mem_filter.mp (show x ∈ twice (told R f) by rw [et]; exact List.mem_cons_self)).1
      obtain ⟨r, hr, hlt⟩ := told_ne hx
      have hrm := len_max hr
      refine agrF_ok ok (fun y hy => ?_) (by rw [List.length_append, List.length_singleton]; omega)
      rcases List.mem_append.mp hy with hy | hy
      · exact h y hy
      · simp at hy; subst hy; exact told_ok ok _ hx
theorem agr_ok {R : List (List Str)} (ok : ∀ r ∈ R, OkS r ∧ r.length ≤ 1000) : OkS (agr R) ∧ (agr R).length ≤ 1000 := by
  have := agrF_ok (n := maxLen R) (f := []) ok (fun x hx => by simp at hx) (Nat.zero_le _)
  exact ⟨this.1, Nat.le_trans this.2 (maxLen_le ok)⟩
theorem r_Disks_mend {K : PySem.W.Frag} {A : Ads} {E : XK} {vs : List V} {H : Hp} {Q : VK} (h : sp_Disks_mend A vs H Q E) : t_Disks_mend K A E { nx := fun _ H' => Q .non H', rt := Q } (L2.start ["self", "found", "_"] vs) H := by
  obtain ⟨o, p, qs, R, rfl, D, k⟩ := h
  unfold t_Disks_mend
  obtain ⟨dx, ho⟩ := D.ob
  refine seq1 ?_
  wide_line using [ho]
  refine ⟨o, p, qs, R, rfl, D, fun a H1 S1 ha ha1 => ?_⟩
  have ho1 := S1 _ _ ho
  obtain ⟨oka, la⟩ := agr_ok D.ok
  refine seq1 ?_
  wide_line using [ho1]
  refine ⟨⟨by decide, by decide⟩, lcR_new (n := (3 : Int).toNat) (by decide) (fun _ => .lst ((agr R).map V.str)) ?_ ?_⟩
  · intro i hi H2 S2 k1 k0 h1
    have ha2 := S2 _ _ ha1
    wp_walk using ha2
    exact fun q hq => h1 q _ (same_new hq) hq upd_same
  intro P H2 qs' hP S2 hP2 nd nP hn pr
  have ho2 := S2 _ _ ho1
  wp_walk using ho2
  refine ⟨by decide, ?_⟩
  have S12 := S1.trans S2
  have hPo : P ≠ o := fun e => by rw [e, ho1] at hP; cases hP
  have nqo : ∀ q ∈ qs', q ≠ o := fun q hq e => by have := hn q hq; rw [e, ho1] at this; cases this
  have ha2 := S2 _ _ ha1
  refine k a P qs' _ ((Keep.same S12).up (by simp)) ?_ ?_ ⟨⟨dx, upd_same⟩, ?_, ?_, nd, nP, rfl, ?_⟩
  · intro y hy
    rcases List.mem_cons.mp hy with rfl | hy
    · exact ha
    · rcases List.mem_cons.mp hy with rfl | hy
      · exact S1.free hP
      · exact S1.free (hn y hy)
  · rw [upd_ne (fun e => by rw [e, ho2] at ha2; cases ha2)]; exact ha2
  · rw [upd_ne hPo]; exact hP2
  · have := paired_mem (G := fun q (_ : Nat) => upd H2 o (.ins A.Disks dx (fl_Disks (.ref P))) q = some (.lst ((agr R).map V.str))) pr fun q b m f => by
      show upd H2 o _ q = _
      rw [upd_ne (nqo q m)]
      exact f
    have e : List.range (3 : Int).toNat = [0, 1, 2] := rfl
    rw [e] at this
    cases this with
    | cons h0 t => cases t with
      | cons h1 t => cases t with
        | cons h2 t => cases t; exact .cons h0 (.cons h1 (.cons h2 .nil))
  · intro r hr
    simp at hr
    subst hr
    exact ⟨oka, la⟩
theorem r_law_tried {K : PySem.W.Frag} {A : Ads} {E : XK} {vs : List V} {H : Hp} {Q : VK} (F1 : WordOk K A A.OutOfRange "range") (F2 : WordOk K A A.Malformed "form") (h : sp_law_tried K A vs H Q E) : t_law_tried K A E { nx := fun _ H' => Q .non H', rt := Q } (L2.start ["disks", "which", "one", "other", "e"] vs) H := by
  obtain ⟨o, p, qs, R, which, one, other, rfl, D, hc⟩ := h
  obtain ⟨dx, ho⟩ := D.ob
  rcases hc with ⟨rfl, hv, hR, hl, ke, kf, k⟩ | ⟨rfl, hv, a, l, rfl, ha, okl, hll, ke, k⟩ | ⟨rfl, hv, hb, k⟩
  · unfold t_law_tried
    wp_walk using ho
    exact ⟨o, p, qs, R, one, other, rfl, D, hv, hR, hl, fun h => F1.told (show 4 < 5 by decide) (ke h), fun h1 h2 => F2.told (show 4 < 5 by decide) (kf h1 h2), k⟩
  · unfold t_law_tried
    wp_walk using ho
    exact ⟨o, p, qs, R, one, a, l, rfl, D, hv, ha, okl, hll, fun h => F1.told (show 4 < 5 by decide) (ke h), k⟩
  · unfold t_law_tried
    wp_walk using ho
    exact ⟨o, p, qs, R, one, rfl, D, hv, fun _ => F1.told (show 4 < 5 by decide) k, fun i e hi => absurd ⟨_, e, by omega, by omega⟩ hb⟩
def reps (l : List Str) : List Str := ((List.range l.length).filter fun k => decide (l.getD k "" ∈ l.take k)).map fun k => l.getD k ""
theorem reps_twice {l : List Str} (h : l.length ≤ 3) : (reps l).take 1 = (twice l).take 1 := by
  match l, h with
  | [], _ => rfl
  | [a], _ => simp [reps, twice, List.range_succ]
  | [a, b], _ =>
    by_cases e : a = b
    · subst e; simp [reps, twice, List.range_succ]
    · have e' : ¬ b = a := fun h => e h.symm
      simp [reps, twice, List.range_succ, List.count_cons, e, e']
  | [a, b, c], _ =>
    by_cases e : a = b
    · subst e; simp [reps, twice, List.range_succ, List.count_cons]
    · have e' : ¬ b = a := fun h => e h.symm
      by_cases e2 : a = c
      · subst e2; simp [reps, twice, List.range_succ, List.count_cons, e, e']
      · have e2' : ¬ c = a := fun h => e2 h.symm
        by_cases e3 : b = c
        · subst e3; simp [reps, twice, List.range_succ, List.count_cons, e, e']
        · have e3' : ¬ c = b := fun h => e3 h.symm
          simp [reps, twice, List.range_succ, List.count_cons, e, e', e2, e2', e3, e3']
theorem reps_nil {l : List Str} (h : l.length ≤ 3) : reps l = [] ↔ twice l = [] := by
  have := reps_twice h
  constructor
  · intro e
    rw [e] at this
    cases et : twice l with
    | nil => rfl
    | cons x r => rw [et] at this; simp at this
  · intro e
    rw [e] at this
    cases et : reps l with
    | nil => rfl
    | cons x r => rw [et] at this; simp at this
theorem reps_ok {l : List Str} (h : OkS l) : OkS (reps l) ∧ (reps l).length ≤ l.length := by
  refine ⟨fun x hx => ?_, ?_⟩
  · obtain ⟨k, hk, rfl⟩ := List.mem_map.mp hx
    have hk := List.mem_range.mp (List.mem_filter.mp hk).1
    rw [getD_at (List.getElem?_eq_getElem hk)]
    exact h _ (List.getElem_mem hk)
  · unfold reps
    rw [List.length_map]
    exact Nat.le_trans (List.length_filter_le _ _) (by rw [List.length_range]; exact Nat.le_refl _)
theorem r_law_agreed {K : PySem.W.Frag} {A : Ads} {E : XK} {vs : List V} {H : Hp} {Q : VK} (h : sp_law_agreed K vs H Q E) : t_law_agreed K A E { nx := fun _ H' => Q .non H', rt := Q } (L2.start ["rows", "found", "going", "told", "twice", "row", "k"] vs) H := by
  obtain ⟨q, xs, R, rfl, hq, pr, h3, ok, k⟩ := h
  have mx := maxLen_le ok
  unfold t_law_agreed
  refine seq1 ?_
  wide_line using [upd_same]
  refine ⟨by decide, fun fa hfa => ⟨by decide, fun tp htp => ?_⟩⟩
  obtain ⟨m1, htp'⟩ := upd_none htp
  refine seq1 ?_
  refine while_to (fun m σ H1 => ∃ g o3 o4 f fa, σ = [some (.ref q), some (.ref fa), some (.bl g), o3, o4, none, none] ∧ Same H H1 ∧ H fa = none ∧ H1 fa = some (.lst (f.map V.str)) ∧ OkS f ∧ f.length ≤ maxLen R ∧ (g = false → f = agr R) ∧ (g = true → ∃ m', m = m' + 1 ∧ agrF m' R f = agr R ∧ maxLen R ≤ m' + f.length))
    (fun σ H1 => ∃ o2 o3 o4 fa, σ = [some (.ref q), some (.ref fa), o2, o3, o4, none, none] ∧ Same H H1 ∧ H fa = none ∧ H1 fa = some (.lst ((agr R).map V.str))) (maxLen R + 1) ⟨true, none, none, [], fa, rfl, same_mut (same_new hfa) htp', hfa, ?_, fun x hx => by simp at hx, Nat.zero_le _, fun h => (nomatch h), fun _ => ⟨_, rfl, rfl, Nat.le_refl _⟩⟩ ?_ ?_
  · rw [upd_ne m1, upd_same]; rfl
  · rintro σ H1 ⟨o2, o3, o4, fa, rfl, S1, hf, hf1⟩
    wide_line using [upd_same]
    exact k fa H1 S1 hf hf1
  rintro nx hx m σ H1 ⟨g, o3, o4, f, fa, rfl, S1, hf, hf1, okf, hfl, hg0, hg1⟩
  wide_line using [upd_same]
  cases g with
  | false =>
    have := hg0 rfl
    subst this
    exact hx _ _ ⟨_, _, _, fa, rfl, S1, hf, hf1⟩
  | true =>
  obtain ⟨m, rfl, ha, hm⟩ := hg1 rfl
  wide_line using [upd_same]
  refine turnN fun N hN => ?_
  have hq1 := S1 _ _ hq
  refine seq1 ?_
  wide_line using [upd_same]
  refine lcL_pair (.inl (.inl hq1)) pr (by rw [paired_len pr]; omega) (fun r => (nxt f r).isSome) (fun r y _ => ∃ s, nxt f r = some s ∧ y = V.str s) (fun _ _ _ _ _ h => h) ?_ ?_
  · rintro i x r hx hr ⟨a, rfl, hq⟩ H2 S2 k1 k0 h1 h0
    have hq2 := S2 _ _ (S1 _ _ hq)
    have hf2 := S2 _ _ hf1
    wp_walk using hq2, hf2
    rw [List.length_map, List.length_map, slice_strs]
    exact told_turn hq2 hf2 (ok r (List.mem_of_getElem? hr)) ⟨okf, by omega⟩ h1 h0
  rintro T H2 ys hT S2 hT2 pq
  have e := told_pair pq
  subst e
  clear pq
  have okt := told_ok (f := f) ok
  have tl := told_len (R := R) (f := f)
  have hT0 : H T = none := S1.free hT
  generalize ht : told R f = tl0 at hT2 okt tl
  refine seq1 ?_
  wide_line using [hT2]
  rw [List.length_map]
  refine ⟨⟨by omega, by omega⟩, lcR_core (n := ((tl0.length : Nat) : Int).toNat) (by omega) (fun k => decide (tl0.getD k "" ∈ tl0.take k)) (fun k y _ => y = V.str (tl0.getD k "")) (fun _ _ _ _ _ h => h) ?_ ?_⟩
  · intro i hi H3 S3 k1 k0 h1 h0
    have hi' : i < tl0.length := by omega
    have hT3 := S3 _ _ hT2
    have ei : (0 : Int) + (i : Nat) = ((i : Nat) : Int) := by omega
    have eg : (tl0.map V.str)[i]? = some (.str (tl0.getD i "")) := by rw [List.getElem?_map, List.getElem?_eq_getElem hi', getD_at (List.getElem?_eq_getElem hi')]; rfl
    wp_walk using hT3, ei
    refine atK_nat eg ?_
    intro p hp
    have np : T ≠ p := ne_of_none hT3 hp
    refine ⟨rfl, ?_, ?_⟩
    · rw [slice_strs]; exact flat_strs
    · rw [slice_strs, in_strs]
      refine ite2 (fun h => ?_) fun h => h0 (by simpa using h) _ (same_new hp)
      rw [upd_ne np, hT3]
      exact atK_nat eg (h1 h _ _ (same_new hp) rfl)
  rintro U H3 zs hU S3 hU3 pz
  have ez : zs = (reps tl0).map V.str := by
    have := paired_map pz
    rw [this]
    unfold reps
    rw [List.map_map, Int.toNat_natCast]
    rfl
  subst ez
  obtain ⟨okr, rl⟩ := reps_ok okt
  refine seq1 ?_
  wide_line using [hU3]
  refine ⟨by decide, fun p hp => ?_⟩
  have nU : U ≠ p := ne_of_none hU3 hp
  have S13 := S2.trans S3
  have hf3 := S13 _ _ hf1
  have nf : fa ≠ p := ne_of_none hf3 hp
  refine neD_strs (l := reps tl0) (m := []) (by rw [upd_ne nU]; exact hU3) (by rw [upd_same]; rfl) (by omega) (Nat.zero_le _) okr (fun x hx => by simp at hx) ?_
  wide_line using [hU3, hf3, nU, nf]
  intro p2 hp2
  obtain ⟨n1, hp2'⟩ := upd_none hp2
  have nf2 : fa ≠ p2 := ne_of_none hf3 hp2'
  wide_line using [hf3, nf, nf2]
  have e1 : cutV ((reps tl0).map V.str) none (some 1) = ((reps tl0).take 1).map V.str := by rw [show (1 : Int) = ((1 : Nat) : Int) from rfl, cutV_to, slice_strs]
  rw [e1]
  have lt1 : ((reps tl0).take 1).length ≤ 1 := by rw [List.length_take]; omega
  refine ⟨by rw [List.length_map, List.length_map, sizeLine_eq]; omega, fun p3 hp3 => ?_⟩
  obtain ⟨n2, hp3'⟩ := upd_none hp3
  obtain ⟨n3, hp3''⟩ := upd_none hp3'
  rw [← List.map_append, reps_twice (by omega)]
  have er := reps_nil (l := tl0) (by omega)
  have S14 := S1.trans S13
  have hp3H : H p3 = none := S14.free hp3''
  have Sx : ∀ o1 o2 o3, Same H (upd (upd (upd H3 p o1) p2 o2) p3 o3) := fun o1 o2 o3 => same_mut (same_mut (same_mut S14 (S14.free hp)) (S14.free hp2')) hp3H
  cases et : twice tl0 with
  | nil =>
    have e0 := er.mpr et
    rw [e0]
    refine hN 0 _ _ (by omega) ⟨false, some (.ref T), some (.ref U), f, p3, by simp, Sx _ _ _, hp3H, by rw [upd_same]; simp, okf, hfl, fun _ => ?_, fun h => (nomatch h)⟩
    rw [← ha]
    cases m with
    | zero => rfl
    | succ m => simp only [agrF, ht, et]
  | cons x l =>
    have e0 : reps tl0 ≠ [] := fun h => by have := er.mp h; rw [et] at this; cases this
    have hx : x ∈ tl0 := (List.mem_filter.mp (show x ∈ twice tl0 by rw [et]; exact List.mem_cons_self)).1
    obtain ⟨r, hr, hlt⟩ := told_ne (by rw [ht]; exact hx)
    have hrm := len_max hr
    obtain ⟨m, rfl⟩ : ∃ m', m = m' + 1 := ⟨m - 1, by omega⟩
    refine hN (m + 1) _ _ (by omega) ⟨true, some (.ref T), some (.ref U), f ++ [x], p3, by simp [e0], Sx _ _ _, hp3H, by rw [upd_same]; simp, ?_, by rw [List.length_append, List.length_singleton]; omega, fun h => (nomatch h), fun _ => ⟨m, rfl, ?_, by rw [List.length_append, List.length_singleton]; omega⟩⟩
    · intro y hy
      rcases List.mem_append.mp hy with hy | hy
      · exact okf y hy
      · simp at hy; subst hy; exact okt _ hx
    · rw [← ha]
      simp only [agrF, ht, et]
theorem r_law_spoilt {K : PySem.W.Frag} {A : Ads} {E : XK} {vs : List V} {H : Hp} {Q : VK} (h : sp_law_spoilt K vs H Q E) : t_law_spoilt K A E { nx := fun _ H' => Q .non H', rt := Q } (L2.start ["draws", "lines", "k", "kind"] vs) H := by
  obtain ⟨d, a, ns, l, rfl, hd, ha, okl, hll, nad, k⟩ := h
  unfold t_law_spoilt
  refine seq1 ?_
  wide_line using [ha]
  refine ⟨d, ns, _, rfl, hd, by omega, fun k1 ns1 h1 h2 => ⟨d, ns1, 6, rfl, upd_same, by decide, fun k2 ns2 h3 h4 => ?_⟩⟩
  rw [upd_upd]
  have ha1 : upd H d (.lst (ns2.map V.int)) a = some (.lst (l.map V.str)) := by rw [upd_ne nad]; exact ha
  have hd1 : upd H d (.lst (ns2.map V.int)) d = some (.lst (ns2.map V.int)) := upd_same
  have K1 : Keep [d] H (upd H d (.lst (ns2.map V.int))) := keep_up (by simp)
  have free : ∀ x, upd H d (.lst (ns2.map V.int)) x = none → H x = none := fun x hx => (upd_none hx).2
  generalize upd H d (.lst (ns2.map V.int)) = H1 at ha1 hd1 K1 free ⊢
  rw [List.length_map] at h2
  obtain ⟨j, rfl⟩ := Int.eq_ofNat_of_zero_le h1
  have okx : ∀ x ∈ [("x" : Str), "y", "z", "a", "b"], PyData.strOk x = true := by decide +kernel
  -- a new list that stands
  have fin : ∀ (H2 : Hp) (a' : Addr) (ls : List Str), OkS ls → ls.length ≤ l.length + 2 → Keep [d] H H2 → H2 d = some (.lst (ns2.map V.int)) → H2 a' = none → H a' = none → Q (.ref a') (upd H2 a' (.lst (ls.map V.str))) := fun H2 a' ls o1 o2 o3 o4 o5 o6 =>
    k a' ls ns2 _ o1 o2 (o3.new0 o6) o6 (by rw [upd_ne (ne_of_none o4 o5)]; exact o4) upd_same
  refine seq1 ?_
  wide_line using [ha1]
  refine ite2 (fun _ => ⟨by decide, fun p hp => fin H1 p [] (fun x hx => by simp at hx) (by simp) K1 hd1 hp (free _ hp)⟩) fun _ => ?_
  refine seq1 ?_
  wide_line using [ha1]
  rw [slice_strs]
  refine ite2 (fun _ p hp => fin H1 p _ (fun x hx => okl x (List.mem_of_mem_take hx)) (by rw [List.length_take]; omega) K1 hd1 hp (free _ hp)) fun _ => ?_
  refine seq1 ?_
  wide_line using [ha1]
  rw [slice_strs]
  refine ite2 (fun _ p hp => ?_) fun _ => ?_
  · have np : a ≠ p := ne_of_none ha1 hp
    refine ⟨by decide, fun p1 hp1 => ?_⟩
    obtain ⟨m1, hp1'⟩ := upd_none hp1
    have np1 : a ≠ p1 := ne_of_none ha1 hp1'
    wide_line using [m1]
    refine ⟨by rw [List.length_map, List.length_take, sizeLine_eq]; omega, fun p2 hp2 => ?_⟩
    simp only [upd_fresh] at hp2
    obtain ⟨m2, m3, hp2'⟩ := hp2
    have np2 : a ≠ p2 := ne_of_none ha1 hp2'
    wide_line using [np, np1, np2, ha1]
    intro p3 hp3
    simp only [upd_fresh] at hp3
    obtain ⟨m4, m5, m6, hp3'⟩ := hp3
    wide_line using [m4]
    rw [← List.map_drop]
    refine ⟨by rw [List.length_map, List.length_map, List.length_take, List.length_drop, sizeLine_eq]; omega, fun p4 hp4 => ?_⟩
    simp only [upd_fresh] at hp4
    obtain ⟨m7, m8, m9, m10, hp4'⟩ := hp4
    have e2 : List.map V.str (List.take j l) ++ [V.str "x"] ++ List.map V.str (List.drop (j) l) = (l.take j ++ [("x" : Str)] ++ l.drop (j)).map V.str := by simp
    rw [e2]
    refine fin _ p4 _ ?_ ?_ ((((K1.new hp).new hp1).new (by simp only [upd_fresh]; exact ⟨m2, m3, hp2'⟩)).new (by simp only [upd_fresh]; exact ⟨m4, m5, m6, hp3'⟩)) ?_ (by simp only [upd_fresh]; exact ⟨m7, m8, m9, m10, hp4'⟩) (free _ hp4')
    · intro x hx
      simp only [List.mem_append, List.mem_singleton] at hx
      rcases hx with (hx | rfl) | hx
      · exact okl x (List.mem_of_mem_take hx)
      · decide +kernel
      · exact okl x (List.mem_of_mem_drop hx)
    · simp only [List.length_append, List.length_take, List.length_drop, List.length_singleton]; omega
    · rw [upd_ne (ne_of_none hd1 hp3'), upd_ne (ne_of_none hd1 hp2'), upd_ne (ne_of_none hd1 hp1'), upd_ne (ne_of_none hd1 hp)]; exact hd1
  have ej : ((j : Nat) : Int) + 1 = ((j + 1 : Nat) : Int) := by omega
  refine seq1 ?_
  wide_line using [ha1]
  rw [slice_strs]
  refine ite2 (fun _ p hp => ?_) fun _ => ?_
  · have np : a ≠ p := ne_of_none ha1 hp
    refine ⟨by decide, fun p1 hp1 => ?_⟩
    obtain ⟨m1, hp1'⟩ := upd_none hp1
    have np1 : a ≠ p1 := ne_of_none ha1 hp1'
    wide_line using [m1]
    refine ⟨by rw [List.length_map, List.length_take, sizeLine_eq]; omega, fun p2 hp2 => ?_⟩
    simp only [upd_fresh] at hp2
    obtain ⟨m2, m3, hp2'⟩ := hp2
    have np2 : a ≠ p2 := ne_of_none ha1 hp2'
    wide_line using [np, np1, np2, ha1, ej]
    intro p3 hp3
    simp only [upd_fresh] at hp3
    obtain ⟨m4, m5, m6, hp3'⟩ := hp3
    wide_line using [m4]
    rw [← List.map_drop]
    refine ⟨by rw [List.length_map, List.length_map, List.length_take, List.length_drop, sizeLine_eq]; omega, fun p4 hp4 => ?_⟩
    simp only [upd_fresh] at hp4
    obtain ⟨m7, m8, m9, m10, hp4'⟩ := hp4
    have e2 : List.map V.str (List.take j l) ++ [V.str "y"] ++ List.map V.str (List.drop (j + 1) l) = (l.take j ++ [("y" : Str)] ++ l.drop (j + 1)).map V.str := by simp
    rw [e2]
    refine fin _ p4 _ ?_ ?_ ((((K1.new hp).new hp1).new (by simp only [upd_fresh]; exact ⟨m2, m3, hp2'⟩)).new (by simp only [upd_fresh]; exact ⟨m4, m5, m6, hp3'⟩)) ?_ (by simp only [upd_fresh]; exact ⟨m7, m8, m9, m10, hp4'⟩) (free _ hp4')
    · intro x hx
      simp only [List.mem_append, List.mem_singleton] at hx
      rcases hx with (hx | rfl) | hx
      · exact okl x (List.mem_of_mem_take hx)
      · decide +kernel
      · exact okl x (List.mem_of_mem_drop hx)
    · simp only [List.length_append, List.length_take, List.length_drop, List.length_singleton]; omega
    · rw [upd_ne (ne_of_none hd1 hp3'), upd_ne (ne_of_none hd1 hp2'), upd_ne (ne_of_none hd1 hp1'), upd_ne (ne_of_none hd1 hp)]; exact hd1
  refine ite2 (fun _ => ⟨by decide, fun p hp => ?_⟩) fun _ p hp => ?_
  · have np : p ≠ d := (ne_of_none hd1 hp).symm
    have npa : a ≠ p := ne_of_none ha1 hp
    refine ⟨d, ns2, 3, rfl, by rw [upd_ne (Ne.symm np)]; exact hd1, by decide, fun i ns3 i1 i2 => ?_⟩
    wide_line using [np]
    refine atK_all i1 i2 fun v hv => ?_
    obtain ⟨z, rfl, okz⟩ : ∃ z, v = .str z ∧ PyData.strOk z = true := by
      simp only [List.mem_cons, List.not_mem_nil, or_false] at hv
      rcases hv with rfl | rfl | rfl <;> exact ⟨_, rfl, by decide +kernel⟩
    refine ⟨by decide, fun p1 hp1 => ?_⟩
    simp only [upd_fresh] at hp1
    obtain ⟨m1, m2, hp1'⟩ := hp1
    refine ⟨by decide, by decide, by decide, fun p2 hp2 => ?_⟩
    simp only [upd_fresh] at hp2
    obtain ⟨m3, m4, m5, hp2'⟩ := hp2
    have na1 : a ≠ p1 := ne_of_none ha1 hp1'
    have na2 : a ≠ p2 := ne_of_none ha1 hp2'
    wide_line using [nad, npa, na1, na2, ha1]
    have e2 : (List.replicate (Int.toNat 2) [V.str z]).flatten = [V.str z, V.str z] := rfl
    rw [e2]
    refine ⟨by rw [List.length_map, sizeLine_eq]; simp; omega, fun p3 hp3 => ?_⟩
    simp only [upd_fresh] at hp3
    obtain ⟨m6, m7, m8, m9, hp3'⟩ := hp3
    have e3 : l.map V.str ++ [V.str z, V.str z] = (l ++ [z, z]).map V.str := by simp
    rw [e3]
    refine k p3 _ ns3 _ ?_ ?_ (((((K1.new hp).up (by simp)).new (by simp only [upd_fresh]; exact ⟨m1, m2, hp1'⟩)).new (by simp only [upd_fresh]; exact ⟨m3, m4, m5, hp2'⟩)).new (by simp only [upd_fresh]; exact ⟨m6, m7, m8, m9, hp3'⟩)) (free _ hp3') ?_ upd_same
    · intro x hx
      simp only [List.mem_append, List.mem_cons, List.not_mem_nil, or_false] at hx
      rcases hx with hx | rfl | rfl
      · exact okl x hx
      · exact okz
      · exact okz
    · simp
    · rw [upd_ne (ne_of_none hd1 hp3'), upd_ne (ne_of_none hd1 hp2'), upd_ne (ne_of_none hd1 hp1'), upd_same]
  · rw [← List.map_reverse]
    exact fin H1 p _ (fun x hx => okl x (List.mem_reverse.mp hx)) (by rw [List.length_reverse]; omega) K1 hd1 hp (free _ hp)
/-! ### plain: two good rows of three -/
def isGood (D : List Str) (last : Option (Str × Nat)) (x : List Str) : Bool := decide (x = D) || (match last with
  | some (l, r) => decide (0 < r) && decide (x = D ++ [l])
  | none => false)
theorem good_of {D : List Str} {last : Option (Str × Nat)} {x : List Str} (h : isGood D last x = true) : x = D ∨ ∃ l r, last = some (l, r) ∧ 0 < r ∧ x = D ++ [l] := by
  unfold isGood at h
  rw [Bool.or_eq_true] at h
  rcases h with h | h
  · exact .inl (of_decide_eq_true h)
  · split at h
    · rename_i l r
      rw [Bool.and_eq_true] at h
      exact .inr ⟨l, r, rfl, of_decide_eq_true h.1, of_decide_eq_true h.2⟩
    · cases h
theorem told_count {R : List (List Str)} {f : List Str} {v : Str} : (told R f).count v = R.countP fun r => nxt f r == some v := by
  unfold told
  induction R with
  | nil => rfl
  | cons r R ih =>
    rw [List.filterMap_cons, List.countP_cons]
    cases e : nxt f r with
    | none => simp [ih]
    | some s =>
      simp only [List.count_cons, ih]
      by_cases h : s = v
      · subst h; simp
      · have : ¬ (some s = some v) := fun e => h (Option.some.inj e)
        simp [h]
theorem countP_or {α : Type} (p g : α → Bool) : ∀ l : List α, l.countP p + l.countP g ≤ l.countP (fun x => p x && g x) + l.length
  | [] => Nat.le_refl _
  | a :: l => by
    have := countP_or p g l
    rw [List.countP_cons, List.countP_cons, List.countP_cons, List.length_cons]
    cases p a <;> cases g a <;> simp <;> omega
/-- what is there twice is what some good row tells -/
theorem rep_good {R : List (List Str)} {f : List Str} {v : Str} {g : List Str → Bool} (h3 : R.length = 3) (hg : 2 ≤ R.countP g) (h : 2 ≤ (told R f).count v) : ∃ x, g x = true ∧ nxt f x = some v := by
  rw [told_count] at h
  have := countP_or (fun r => nxt f r == some v) g R
  have h1 : 0 < R.countP (fun x => (nxt f x == some v) && g x) := by omega
  obtain ⟨x, _, hx⟩ := List.countP_pos_iff.mp h1
  rw [Bool.and_eq_true] at hx
  exact ⟨x, hx.2, by simpa using hx.1⟩
theorem twice_head {l : List Str} {x : Str} {r : List Str} (h : twice l = x :: r) : 2 ≤ l.count x := by
  have : x ∈ twice l := by rw [h]; exact List.mem_cons_self
  have := (List.mem_filter.mp this).2
  have := of_decide_eq_true this
  omega
theorem twice_none {l : List Str} (h : twice l = []) (x : Str) : l.count x < 2 := by
  rcases Nat.lt_or_ge (l.count x) 2 with h1 | h1
  · exact h1
  · have hm : x ∈ l := List.count_pos_iff.mp (by omega)
    have := List.filter_eq_nil_iff.mp h x hm
    simp at this
    omega
theorem nxt_take {D x : List Str} {k : Nat} (hk : k < D.length) (hx : x = D ∨ ∃ l, x = D ++ [l]) : nxt (D.take k) x = some (D[k]) := by
  have hl : (D.take k).length = k := by rw [List.length_take]; omega
  rw [nxt_spec, hl]
  rcases hx with rfl | ⟨l, rfl⟩
  · rw [if_pos ⟨hk, rfl⟩]
    exact List.getElem?_eq_getElem hk
  · rw [if_pos ⟨by rw [List.length_append]; omega, by rw [List.take_append_of_le_length (by omega)]⟩, List.getElem?_append_left hk]
    exact List.getElem?_eq_getElem hk
theorem agr_good {R : List (List Str)} {D : List Str} {last : Option (Str × Nat)} (h3 : R.length = 3) (hg : 2 ≤ R.countP (isGood D last)) : agr R = D ∨ ∃ l r, last = some (l, r) ∧ 0 < r ∧ agr R = D ++ [l] := by
  have stop : ∀ n f, (∀ x, isGood D last x = true → nxt f x = none) → agrF n R f = f := by
    intro n f hn
    cases n with
    | zero => rfl
    | succ n =>
      unfold agrF
      split
      · rfl
      · rename_i x r et
        obtain ⟨y, hy, hy2⟩ := rep_good h3 hg (twice_head et)
        rw [hn y hy] at hy2
        cases hy2
  have done : ∀ n, agrF n R D = D ∨ ∃ l r, last = some (l, r) ∧ 0 < r ∧ agrF n R D = D ++ [l] := by
    intro n
    cases n with
    | zero => exact .inl rfl
    | succ n =>
      unfold agrF
      split
      · exact .inl rfl
      · rename_i x r et
        obtain ⟨y, hy, hy2⟩ := rep_good h3 hg (twice_head et)
        rcases good_of hy with rfl | ⟨l, k, e, hk, rfl⟩
        · rw [nxt_spec, if_neg (fun h => by have := h.1; omega)] at hy2
          cases hy2
        · have : nxt D (D ++ [l]) = some l := by
            rw [nxt_spec, if_pos ⟨by rw [List.length_append]; simp, by simp⟩]
            simp
          rw [this] at hy2
          cases hy2
          refine .inr ⟨_, k, e, hk, stop n _ fun z hz => ?_⟩
          rw [nxt_spec, if_neg]
          intro h
          have h1 := h.1
          rw [List.length_append, List.length_singleton] at h1
          rcases good_of hz with rfl | ⟨l', _, _, _, rfl⟩
          · omega
          · rw [List.length_append, List.length_singleton] at h1; omega
  have go : ∀ n k, k ≤ D.length → maxLen R ≤ n + k → (agrF n R (D.take k) = D ∨ ∃ l r, last = some (l, r) ∧ 0 < r ∧ agrF n R (D.take k) = D ++ [l]) := by
    intro n
    induction n with
    | zero =>
      intro k hk hm
      rcases Nat.lt_or_ge k D.length with h | h
      · obtain ⟨x, hx, hx2⟩ := List.countP_pos_iff.mp (show 0 < R.countP (isGood D last) by omega)
        have := len_max hx
        rcases good_of hx2 with rfl | ⟨l, _, _, _, rfl⟩
        · omega
        · rw [List.length_append, List.length_singleton] at this; omega
      · have : k = D.length := by omega
        subst this
        rw [List.take_length]
        exact done 0
    | succ n ih =>
      intro k hk hm
      rcases Nat.lt_or_ge k D.length with h | h
      · have hn : ∀ x, isGood D last x = true → nxt (D.take k) x = some D[k] := fun x hx => nxt_take h (by
          rcases good_of hx with rfl | ⟨l, _, _, _, rfl⟩
          · exact .inl rfl
          · exact .inr ⟨l, rfl⟩)
        have hc : 2 ≤ (told R (D.take k)).count D[k] := by
          rw [told_count]
          refine Nat.le_trans hg (List.countP_mono_left fun x _ hx => ?_)
          rw [hn x hx]
          exact beq_self_eq_true _
        unfold agrF
        split
        · rename_i et
          have := twice_none et D[k]
          omega
        · rename_i x r et
          obtain ⟨y, hy, hy2⟩ := rep_good h3 hg (twice_head et)
          rw [hn y hy] at hy2
          cases hy2
          have e : D.take k ++ [D[k]] = D.take (k + 1) := by rw [List.take_succ, List.getElem?_eq_getElem h]; rfl
          rw [e]
          exact ih (k + 1) h (by omega)
      · have : k = D.length := by omega
        subst this
        rw [List.take_length]
        exact done (n + 1)
  exact go (maxLen R) 0 (Nat.zero_le _) (Nat.le_refl _)
def ext (last : Option (Str × Nat)) (i : Nat) : List Str := match last with
  | some (l, r) => if i < r then [l] else []
  | none => []
structure Pl (R : List (List Str)) (done : Option (List Str)) (last : Option (Str × Nat)) (sp : Bool) : Prop where
  n3 : R.length = 3
  fresh : sp = false → ∃ D, done = some D ∧ R = [D ++ ext last 0, D ++ ext last 1, D ++ ext last 2]
  good : ∀ D, done = some D → 2 ≤ R.countP (isGood D last)
theorem good_ext {D : List Str} {last : Option (Str × Nat)} {i : Nat} : isGood D last (D ++ ext last i) = true := by
  unfold isGood ext
  cases last with
  | none => simp
  | some p =>
    obtain ⟨l, r⟩ := p
    by_cases h : i < r
    · have : 0 < r := by omega
      simp [h, this]
    · simp [h]
theorem Pl.of_fresh {D : List Str} {last : Option (Str × Nat)} {sp : Bool} : Pl [D ++ ext last 0, D ++ ext last 1, D ++ ext last 2] (some D) last sp :=
  ⟨rfl, fun _ => ⟨D, rfl, rfl⟩, fun D' e => by cases e; simp [List.countP_cons, good_ext]⟩
theorem pl0 : Pl [[], [], []] (some []) none false := Pl.of_fresh (D := []) (last := none)
theorem Pl.mend {F : List Str} : Pl [F, F, F] (some F) none false := by
  have := Pl.of_fresh (D := F) (last := none) (sp := false)
  simpa [ext] using this
theorem Pl.write {R : List (List Str)} {done : Option (List Str)} {sp : Bool} (h : Pl R done none sp) (x : Str) : Pl (R.map (· ++ [x])) (if sp = true then none else done.map (· ++ [x])) none sp := by
  cases sp with
  | true => exact ⟨by rw [List.length_map]; exact h.n3, fun e => (nomatch e), fun D e => by simp at e⟩
  | false =>
    obtain ⟨D, rfl, rfl⟩ := h.fresh rfl
    have := Pl.of_fresh (D := D ++ [x]) (last := none) (sp := false)
    simpa [ext] using this
theorem Pl.extra {R : List (List Str)} {done : Option (List Str)} (h : Pl R done none false) (x : Str) (r : Nat) : Pl (putR R x r) done (some (x, r)) false := by
  obtain ⟨D, rfl, rfl⟩ := h.fresh rfl
  have := Pl.of_fresh (D := D) (last := some (x, r)) (sp := false)
  have e : putR [D ++ ext none 0, D ++ ext none 1, D ++ ext none 2] x r = [D ++ ext (some (x, r)) 0, D ++ ext (some (x, r)) 1, D ++ ext (some (x, r)) 2] := by
    unfold putR ext
    simp only [List.append_nil, List.mapIdx_cons, List.mapIdx_nil]
    by_cases h0 : 0 < r <;> by_cases h1 : 1 < r <;> by_cases h2 : 2 < r <;> simp [h0, h1, h2]
  rw [e]
  exact this
theorem Pl.spoil {R : List (List Str)} {done : Option (List Str)} {last : Option (Str × Nat)} (h : Pl R done last false) (i : Nat) (ls : List Str) (hi : i < 3) : Pl (R.set i ls) done last true := by
  obtain ⟨D, rfl, rfl⟩ := h.fresh rfl
  refine ⟨by rw [List.length_set]; rfl, fun e => (nomatch e), fun D' e => ?_⟩
  cases e
  match i, hi with
  | 0, _ => simp [List.countP_cons, good_ext]
  | 1, _ => simp [List.countP_cons, good_ext]
  | 2, _ => simp [List.countP_cons, good_ext]
def doneD : Option (List Str) → PyData
  | none => .none
  | some D => .list (D.map .str)
def lastD : Option (Str × Nat) → PyData
  | none => .none
  | some (l, r) => .tuple [.str l, .int r]
def rowD (r : List Str) : PyData := .list (r.map .str)
abbrev AdS (d q o p : Addr) (qs : List Addr) : List Addr := d :: q :: o :: p :: qs
/-- what stands while the law runs -/
structure LW (A : Ads) (H : Hp) (d q o p : Addr) (qs : List Addr) (ms : List Int) (xs : List V) (R : List (List Str)) (dv lv : V) (done : Option (List Str)) (last : Option (Str × Nat)) : Prop where
  dr : H d = some (.lst (ms.map V.int))
  D : DkAt A H o p qs R
  hq : H q = some (.lst xs)
  rows : Paired (Dz (AdS d q o p qs) H 1) xs (R.map rowD)
  dn : Dz (AdS d q o p qs) H 1 dv (doneD done)
  la : Dz (AdS d q o p qs) H 1 lv (lastD last)
  nd : (AdS d q o p qs).Nodup
section
variable {A : Ads} {H : Hp} {d q o p : Addr} {qs : List Addr} {ms : List Int} {xs : List V} {R : List (List Str)} {dv lv : V} {done : Option (List Str)} {last : Option (Str × Nat)}
theorem DkAt.frame {H' : Hp} (D : DkAt A H o p qs R) (ho : H' o = H o) (hp : H' p = H p) (hq : ∀ x ∈ qs, H' x = H x) : DkAt A H' o p qs R :=
  ⟨let ⟨dx, h⟩ := D.ob; ⟨dx, ho.trans h⟩, hp.trans D.ro, paired_mem D.rows fun a b m f => (hq a m).trans f, D.nd, D.np, D.n3, D.ok⟩
theorem DkAt.same {H' : Hp} (D : DkAt A H o p qs R) (s : Same H H') : DkAt A H' o p qs R :=
  ⟨let ⟨dx, h⟩ := D.ob; ⟨dx, s _ _ h⟩, s _ _ D.ro, paired_mem D.rows fun a b m f => s _ _ f, D.nd, D.np, D.n3, D.ok⟩
theorem LW.same {H' : Hp} (L : LW A H d q o p qs ms xs R dv lv done last) (s : Same H H') : LW A H' d q o p qs ms xs R dv lv done last :=
  ⟨s _ _ L.dr, L.D.same s, s _ _ L.hq, Paired.mapP L.rows fun _ _ z => z.keep (Keep.same s), L.dn.keep (Keep.same s), L.la.keep (Keep.same s), L.nd⟩
theorem LW.ne (L : LW A H d q o p qs ms xs R dv lv done last) : d ≠ q ∧ d ≠ o ∧ d ≠ p ∧ d ∉ qs ∧ q ≠ o ∧ q ≠ p ∧ q ∉ qs ∧ o ≠ p ∧ o ∉ qs ∧ p ∉ qs := by
  have := L.nd
  simp only [AdS, List.nodup_cons, List.mem_cons, not_or] at this
  obtain ⟨⟨h1, h2, h3, h4⟩, ⟨h5, h6, h7⟩, ⟨h8, h9⟩, h10, _⟩ := this
  exact ⟨h1, h2, h3, h4, h5, h6, h7, h8, h9, h10⟩
theorem LW.take (L : LW A H d q o p qs ms xs R dv lv done last) (ms' : List Int) : LW A (upd H d (.lst (ms'.map V.int))) d q o p qs ms' xs R dv lv done last := by
  obtain ⟨n1, n2, n3, n4, _⟩ := L.ne
  have k : Keep (AdS d q o p qs) H (upd H d (.lst (ms'.map V.int))) := keep_up (by simp)
  exact ⟨upd_same, L.D.frame (upd_ne n2.symm) (upd_ne n3.symm) (fun x m => upd_ne fun e => n4 (by rw [← e]; exact m)), by rw [upd_ne n1.symm]; exact L.hq, Paired.mapP L.rows fun _ _ z => z.keep k, L.dn.keep k, L.la.keep k, L.nd⟩
/-- a deed on the disks in place -/
theorem LW.deed {H' : Hp} {R' : List (List Str)} (L : LW A H d q o p qs ms xs R dv lv done last) (D : DkAt A H' o p qs R') (k : Keep (o :: p :: qs) H H') : H' d = some (.lst (ms.map V.int)) ∧ H' q = some (.lst xs) ∧ Keep (AdS d q o p qs) H H' := by
  obtain ⟨n1, n2, n3, n4, n5, n6, n7, _⟩ := L.ne
  exact ⟨k _ _ L.dr (by simp [n2, n3, n4]), k _ _ L.hq (by simp [n5, n6, n7]), k.mono fun x hx => .tail _ (.tail _ hx)⟩
end
theorem Dz.row_inv {S : List Addr} {H : Hp} {v : V} {r : List Str} (h : Dz S H 1 v (rowD r)) : ∃ a, v = .ref a ∧ a ∉ S ∧ H a = some (.lst (r.map V.str)) := by
  obtain ⟨a, xs, rfl, n, ha, _, p⟩ := Dz.list_inv h
  rw [dz_strs_inv p] at ha
  exact ⟨a, rfl, n, ha⟩
theorem Dz.row_of {S : List Addr} {H : Hp} {a : Addr} {r : List Str} (h : H a = some (.lst (r.map V.str))) (n : a ∉ S) (ok : OkS r) (hl : r.length ≤ 100000) : Dz S H 1 (.ref a) (rowD r) := Dz.lst h n (by rw [List.length_map]; exact hl) (dz_strs ok)
theorem rows_strs {S : List Addr} {H : Hp} {xs : List V} : ∀ {R : List (List Str)}, Paired (Dz S H 1) xs (R.map rowD) → Paired (StrsAt H) xs R := by
  induction xs with
  | nil => intro R h; cases R with
    | nil => exact .nil
    | cons _ _ => cases h
  | cons x xs ih => intro R h; cases R with
    | nil => cases h
    | cons r R => cases h with
      | cons h t => obtain ⟨a, e, _, ha⟩ := Dz.row_inv h; exact .cons ⟨a, e, ha⟩ (ih t)
/-- the law's rows, made anew -/
theorem rows_new {T : List Addr} {H' : Hp} {qs : List Addr} {R : List (List Str)} (h : Paired (fun q r => H' q = some (.lst (r.map V.str))) qs R) (f : ∀ x ∈ qs, x ∉ T) (ok : ∀ r ∈ R, OkS r ∧ r.length ≤ 1000) : Paired (Dz T H' 1) (qs.map V.ref) (R.map rowD) := by
  induction h with
  | nil => exact .nil
  | cons h t ih => exact .cons (Dz.row_of h (f _ List.mem_cons_self) (ok _ List.mem_cons_self).1 (Nat.le_trans (ok _ List.mem_cons_self).2 (by decide))) (ih (fun x m => f x (List.mem_cons_of_mem _ m)) fun r m => ok r (List.mem_cons_of_mem _ m))
theorem maxLen_to {R : List (List Str)} {n : Nat} (h : ∀ r ∈ R, r.length ≤ n) : maxLen R ≤ n := by
  unfold maxLen
  induction R with
  | nil => exact Nat.zero_le _
  | cons a R ih =>
    rw [List.map_cons, List.foldr_cons]
    exact Nat.max_le.mpr ⟨h a List.mem_cons_self, ih fun r hr => h r (List.mem_cons_of_mem _ hr)⟩
theorem da_tuples {H : Hp} {qs : List Addr} : ∀ {R : List (List Str)}, Paired (fun q r => H q = some (.tup (r.map V.str))) qs R → (∀ r ∈ R, OkS r ∧ r.length ≤ 1000) → Paired (Da H 1) (qs.map V.ref) (R.map fun r => PyData.tuple (r.map .str)) := by
  induction qs with
  | nil => intro R h _; cases h; exact .nil
  | cons q qs ih => intro R h ok; cases h with
    | cons h t => exact .cons (dat_strs h (Nat.le_trans (ok _ List.mem_cons_self).2 (by decide)) (ok _ List.mem_cons_self).1) (ih t fun r m => ok r (List.mem_cons_of_mem _ m))
section
variable {A : Ads} {H : Hp} {d q o p : Addr} {qs : List Addr} {ms : List Int} {xs : List V} {R : List (List Str)} {dv lv : V} {done : Option (List Str)} {last : Option (Str × Nat)}
theorem LW.ex (L : LW A H d q o p qs ms xs R dv lv done last) : ∀ x ∈ AdS d q o p qs, H x ≠ none := by
  intro x hx
  rcases List.mem_cons.mp hx with rfl | hx
  · rw [L.dr]; simp
  rcases List.mem_cons.mp hx with rfl | hx
  · rw [L.hq]; simp
  rcases List.mem_cons.mp hx with rfl | hx
  · obtain ⟨_, h⟩ := L.D.ob; rw [h]; simp
  rcases List.mem_cons.mp hx with rfl | hx
  · rw [L.D.ro]; simp
  · obtain ⟨i, hi⟩ := List.getElem?_of_mem hx
    obtain ⟨_, _, h⟩ := pairedGet L.D.rows hi
    rw [h]; simp
theorem LW.keepd {H' : Hp} (L : LW A H d q o p qs ms xs R dv lv done last) (k : Keep [d] H H') {ms' : List Int} (h : H' d = some (.lst (ms'.map V.int))) : LW A H' d q o p qs ms' xs R dv lv done last := by
  obtain ⟨n1, n2, n3, n4, n5, n6, n7, n8, n9, n10⟩ := L.ne
  have kk : Keep (AdS d q o p qs) H H' := k.mono fun x hx => by simp at hx; subst hx; simp
  refine ⟨h, ?_, k _ _ L.hq (by simp [n1.symm]), Paired.mapP L.rows fun _ _ z => z.keep kk, L.dn.keep kk, L.la.keep kk, L.nd⟩
  refine ⟨let ⟨dx, h⟩ := L.D.ob; ⟨dx, k _ _ h (by simp [n2.symm])⟩, k _ _ L.D.ro (by simp [n3.symm]), paired_mem L.D.rows fun a b m f => k _ _ f (by simp; rintro rfl; exact n4 m), L.D.nd, L.D.np, L.D.n3, L.D.ok⟩
theorem LW.spoil (L : LW A H d q o p qs ms xs R dv lv done last) {H' Hf : Hp} {x y : Addr} {i : Nat} {ls : List Str} (D' : DkAt A H' o p (qs.set i x) (R.set i ls)) (k : Keep [p] H H') (hx : H x = none) (hy : H' y = none)
    (hyf : Hf y = some (.lst (ls.map V.str))) (hqf : Hf q = some (.lst (xs.set i (.ref y)))) (kf : Keep [q] H' Hf) (okl : OkS ls) (hll : ls.length ≤ 1000) : LW A Hf d q o p (qs.set i x) ms (xs.set i (.ref y)) (R.set i ls) dv lv done last := by
  obtain ⟨n1, n2, n3, n4, n5, n6, n7, n8, n9, n10⟩ := L.ne
  have xS : x ∉ AdS d q o p qs := fun m => L.ex x m hx
  have nd' : (AdS d q o p (qs.set i x)).Nodup := by
    have h := xS
    simp only [AdS, List.mem_cons, not_or] at h
    have mem : ∀ z, z ∈ qs.set i x → z ∈ qs ∨ z = x := fun z hz => List.mem_or_eq_of_mem_set hz
    simp only [AdS, List.nodup_cons, List.mem_cons, not_or]
    exact ⟨⟨n1, n2, n3, fun m => (mem _ m).elim n4 fun e => h.1 e.symm⟩, ⟨n5, n6, fun m => (mem _ m).elim n7 fun e => h.2.1 e.symm⟩, ⟨n8, fun m => (mem _ m).elim n9 fun e => h.2.2.1 e.symm⟩, D'.np, D'.nd⟩
  have kk : Keep (AdS d q o p qs) H Hf := (k.mono fun x hx => by simp at hx; subst hx; simp).trans (kf.mono fun x hx => by simp at hx; subst hx; simp)
  have g : ∀ z ∈ AdS d q o p (qs.set i x), z ∈ AdS d q o p qs ∨ H z = none := fun z hz => by
    simp only [AdS, List.mem_cons] at hz ⊢
    rcases hz with h | h | h | h | h
    · exact .inl (.inl h)
    · exact .inl (.inr (.inl h))
    · exact .inl (.inr (.inr (.inl h)))
    · exact .inl (.inr (.inr (.inr (.inl h))))
    · rcases List.mem_or_eq_of_mem_set h with h | rfl
      · exact .inl (.inr (.inr (.inr (.inr h))))
      · exact .inr hx
  have hd' : H' d = some (.lst (ms.map V.int)) := k _ _ L.dr (by simp [n3])
  have hq' : H' q = some (.lst xs) := k _ _ L.hq (by simp [n6])
  have fr : ∀ z, z ≠ q → z ∈ AdS d q o p (qs.set i x) → Hf z = H' z := fun z hn hz => by
    have hs : H' z ≠ none := by
      simp only [AdS, List.mem_cons] at hz
      rcases hz with rfl | rfl | rfl | rfl | h
      · rw [hd']; simp
      · exact absurd rfl hn
      · obtain ⟨_, h⟩ := D'.ob; rw [h]; simp
      · rw [D'.ro]; simp
      · obtain ⟨j, hj⟩ := List.getElem?_of_mem h
        obtain ⟨_, _, h⟩ := pairedGet D'.rows hj
        rw [h]; simp
    cases e : H' z with
    | none => exact absurd e hs
    | some v => exact kf _ _ e (by simp [hn])
  have ndq := nd'
  simp only [AdS, List.nodup_cons, List.mem_cons, not_or] at ndq
  obtain ⟨⟨_, _, _, _⟩, ⟨q5, q6, q7⟩, ⟨_, _⟩, _, _⟩ := ndq
  have yS : y ∉ AdS d q o p (qs.set i x) := fun m => by
    by_cases e : y = q
    · subst e; rw [hq'] at hy; cases hy
    · have := fr y e m
      rw [hy, hyf] at this
      cases this
  refine ⟨(fr d n1 (by simp)).trans hd', D'.frame (fr o (Ne.symm q5) (by simp)) (fr p (Ne.symm q6) (by simp)) (fun z m => fr z (fun e => q7 (by rw [← e]; exact m)) (by simp [m])), hqf, ?_, L.dn.move kk g, L.la.move kk g, nd'⟩
  rw [List.map_set]
  exact paired_setB L.rows (fun _ _ _ _ _ z => z.move kk g) (Dz.row_of hyf yS okl (Nat.le_trans hll (by decide)))
end
theorem LW.remake {A : Ads} {H : Hp} {d q o p : Addr} {qs : List Addr} {ms : List Int} {xs : List V} {R : List (List Str)} {dv lv : V} {done : Option (List Str)} {last : Option (Str × Nat)} (L : LW A H d q o p qs ms xs R dv lv done last)
    {H' Hf : Hp} {R' : List (List Str)} {q' : Addr} {rs : List Addr} (D' : DkAt A H' o p qs R') (k : Keep (o :: p :: qs) H H') (s : Same H' Hf) (hq : H' q' = none) (hf : Hf q' = some (.lst (rs.map V.ref))) (fr : ∀ z ∈ rs, H' z = none) (nq : q' ∉ rs)
    (pr : Paired (fun z r => Hf z = some (.lst (r.map V.str))) rs R') : LW A Hf d q' o p qs ms (rs.map V.ref) R' dv lv done last := by
  obtain ⟨n1, n2, n3, n4, n5, n6, n7, n8, n9, n10⟩ := L.ne
  obtain ⟨hd', hq'', kS⟩ := L.deed D' k
  have exS : ∀ z ∈ AdS d q o p qs, H' z ≠ none := by
    intro z hz
    simp only [AdS, List.mem_cons] at hz
    rcases hz with rfl | rfl | rfl | rfl | h
    · rw [hd']; simp
    · rw [hq'']; simp
    · obtain ⟨_, h⟩ := D'.ob; rw [h]; simp
    · rw [D'.ro]; simp
    · obtain ⟨j, hj⟩ := List.getElem?_of_mem h
      obtain ⟨_, _, h⟩ := pairedGet D'.rows hj
      rw [h]; simp
  have nS : ∀ z, H' z = none → z ∉ AdS d q o p qs := fun z hz m => exS z m hz
  have hqH : H q' = none := by
    cases e : H q' with
    | none => rfl
    | some v => have := kS _ _ e (nS _ hq); rw [hq] at this; cases this
  have h := nS _ hq
  simp only [AdS, List.mem_cons, not_or] at h
  have nd' : (AdS d q' o p qs).Nodup := by
    simp only [AdS, List.nodup_cons, List.mem_cons, not_or]
    exact ⟨⟨fun e => h.1 e.symm, n2, n3, n4⟩, ⟨h.2.2.1, h.2.2.2.1, h.2.2.2.2⟩, ⟨n8, n9⟩, D'.np, D'.nd⟩
  have g : ∀ z ∈ AdS d q' o p qs, z ∈ AdS d q o p qs ∨ H z = none := fun z hz => by
    simp only [AdS, List.mem_cons] at hz ⊢
    rcases hz with h | rfl | h | h | h
    · exact .inl (.inl h)
    · exact .inr hqH
    · exact .inl (.inr (.inr (.inl h)))
    · exact .inl (.inr (.inr (.inr (.inl h))))
    · exact .inl (.inr (.inr (.inr (.inr h))))
  have kk := kS.trans (Keep.same s)
  refine ⟨s _ _ hd', D'.same s, hf, rows_new pr (fun z hz m => ?_) D'.ok, L.dn.move kk g, L.la.move kk g, nd'⟩
  have hz' := nS z (fr z hz)
  simp only [AdS, List.mem_cons, not_or] at hz' m
  rcases m with h | rfl | h | h | h
  · exact hz'.1 h
  · exact nq hz
  · exact hz'.2.2.1 h
  · exact hz'.2.2.2.1 h
  · exact hz'.2.2.2.2 h
theorem putR_get {R : List (List Str)} {x : Str} {r i : Nat} (h : i < R.length) : (putR R x r)[i]? = some (R[i] ++ if i < r then [x] else []) := by
  unfold putR
  rw [List.getElem?_mapIdx, List.getElem?_eq_getElem h]
  by_cases e : i < r <;> simp [e]
theorem putR_len {R : List (List Str)} {x : Str} {r : Nat} : (putR R x r).length = R.length := by unfold putR; rw [List.length_mapIdx]
theorem putR_mem {R : List (List Str)} {x : Str} {r : Nat} {y : List Str} (h : y ∈ putR R x r) : ∃ z ∈ R, y = z ∨ y = z ++ [x] := by
  obtain ⟨i, hi⟩ := List.getElem?_of_mem h
  have hl := (List.getElem?_eq_some_iff.mp hi).1
  rw [putR_len] at hl
  rw [putR_get hl] at hi
  cases hi
  refine ⟨_, List.getElem_mem hl, ?_⟩
  by_cases e : i < r
  · exact .inr (by rw [if_pos e])
  · exact .inl (by rw [if_neg e, List.append_nil])
theorem LW.mend {A : Ads} {H : Hp} {d q o p : Addr} {qs : List Addr} {ms : List Int} {xs : List V} {R : List (List Str)} {dv lv : V} {done : Option (List Str)} {last : Option (Str × Nat)} (L : LW A H d q o p qs ms xs R dv lv done last)
    {H' Hf : Hp} {R' : List (List Str)} {q' p' dn : Addr} {qs' rs : List Addr} {F : List Str} (k : Keep [o] H H') (fr : ∀ y ∈ p' :: qs', H y = none) (D' : DkAt A H' o p' qs' R') (s : Same H' Hf) (hq : H' q' = none) (hf : Hf q' = some (.lst (rs.map V.ref))) (fr2 : ∀ z ∈ rs, H' z = none) (nq : q' ∉ rs)
    (pr : Paired (fun z r => Hf z = some (.lst (r.map V.str))) rs R') (hdn : H' dn = none) (hdf : Hf dn = some (.lst (F.map V.str))) (ndn : dn ≠ q') (okF : OkS F) (lF : F.length ≤ 1000) : LW A Hf d q' o p' qs' ms (rs.map V.ref) R' (.ref dn) .non (some F) none := by
  obtain ⟨n1, n2, n3, n4, n5, n6, n7, n8, n9, n10⟩ := L.ne
  have hd' : H' d = some (.lst (ms.map V.int)) := k _ _ L.dr (by simp [n2])
  have exS : ∀ z ∈ d :: o :: p' :: qs', H' z ≠ none := by
    intro z hz
    simp only [List.mem_cons] at hz
    rcases hz with rfl | rfl | rfl | h
    · rw [hd']; simp
    · obtain ⟨_, h⟩ := D'.ob; rw [h]; simp
    · rw [D'.ro]; simp
    · obtain ⟨j, hj⟩ := List.getElem?_of_mem h
      obtain ⟨_, _, h⟩ := pairedGet D'.rows hj
      rw [h]; simp
  have nS : ∀ z, H' z = none → z ∉ d :: o :: p' :: qs' := fun z hz m => exS z m hz
  have dS : d ∉ p' :: qs' := fun m => by have := fr d m; rw [L.dr] at this; cases this
  have oS : o ∉ p' :: qs' := fun m => by
    have := fr o m
    obtain ⟨_, h⟩ := L.D.ob
    rw [h] at this; cases this
  have h := nS _ hq
  simp only [List.mem_cons, not_or] at h dS oS
  have nd' : (AdS d q' o p' qs').Nodup := by
    simp only [AdS, List.nodup_cons, List.mem_cons, not_or]
    exact ⟨⟨fun e => h.1 e.symm, n2, dS⟩, ⟨h.2.1, h.2.2⟩, oS, D'.np, D'.nd⟩
  have out : ∀ z, H' z = none → z ≠ q' → z ∉ AdS d q' o p' qs' := fun z hz n m => by
    have hz' := nS z hz
    simp only [AdS, List.mem_cons, not_or] at hz' m
    rcases m with h | h | h | h | h
    · exact hz'.1 h
    · exact n h
    · exact hz'.2.1 h
    · exact hz'.2.2.1 h
    · exact hz'.2.2.2 h
  exact ⟨s _ _ hd', D'.same s, hf, rows_new pr (fun z hz => out z (fr2 z hz) fun e => nq (by rw [← e]; exact hz)) D'.ok, Dz.row_of hdf (out dn hdn ndn) okF (by omega), Dz.non, nd'⟩
theorem r_law {K : PySem.W.Frag} {A : Ads} {E : XK} {vs : List V} {H : Hp} {Q : VK} (h : sp_law K vs H Q E) : t_law K A E { nx := fun _ H' => Q .non H', rt := Q } (L2.start ["script", "draws", "disks", "rows", "done_all", "last", "spoilt", "turn", "kind", "line", "reach", "disk", "lines", "due", "words", "k", "one", "row"] vs) H := by
  obtain ⟨a, ns, rfl, hs, hl, k⟩ := h
  unfold t_law
  refine seq1 ?_
  wide_line using [upd_same]
  refine ⟨a, ns, rfl, hs, hl, fun d H1 ms hd S1 hd1 => ?_⟩
  refine seq1 ?_
  wide_line using [upd_same]
  intro o dx ho hdx nox
  refine ⟨o, dx, rfl, upd_same, fun p qs H2 D K2 fr => ⟨rfl, ?_⟩⟩
  refine ⟨by decide, fun q0 h0 => ⟨by decide, fun q1 h1 => ⟨by decide, fun q2 h2 => ⟨by decide, fun q h3 => ⟨by decide, fun tp h4 => ?_⟩⟩⟩⟩⟩
  simp only [upd_fresh] at h1 h2 h3 h4
  obtain ⟨m1, h1⟩ := h1
  obtain ⟨m2, m3, h2⟩ := h2
  obtain ⟨m4, m5, m6, h3⟩ := h3
  obtain ⟨m7, m8, m9, m10, h4⟩ := h4
  have no : o ≠ d := (ne_of_none hd1 ho).symm
  have hd2 : H2 d = some (.lst (ms.map V.int)) := K2 d _ (by rw [upd_ne (ne_of_none hd1 ho), upd_ne (ne_of_none hd1 hdx)]; exact hd1) (by simp [no.symm])
  have dS : ∀ y ∈ p :: qs, y ≠ d := fun y hy e => by
    have := fr y hy
    rw [upd_fresh, upd_fresh] at this
    rw [e] at this
    rw [hd1] at this
    exact (nomatch this.2.2)
  have oS : ∀ y ∈ p :: qs, y ≠ o := fun y hy e => by
    have := fr y hy
    rw [e, upd_same] at this
    cases this
  have some2 : ∀ y ∈ d :: o :: p :: qs, ∃ x, H2 y = some x := by
    intro y hy
    rcases List.mem_cons.mp hy with rfl | hy
    · exact ⟨_, hd2⟩
    rcases List.mem_cons.mp hy with rfl | hy
    · obtain ⟨_, h⟩ := D.ob; exact ⟨_, h⟩
    rcases List.mem_cons.mp hy with rfl | hy
    · exact ⟨_, D.ro⟩
    · obtain ⟨i, hi⟩ := List.getElem?_of_mem hy
      obtain ⟨_, _, h⟩ := pairedGet D.rows hi
      exact ⟨_, h⟩
  have out : ∀ x, H2 x = none → x ∉ d :: o :: p :: qs := fun x hx m => by
    obtain ⟨_, h⟩ := some2 x m
    rw [hx] at h
    cases h
  have q_out := out q h3
  have nd0 : (AdS d q o p qs).Nodup := by
    simp only [AdS, List.nodup_cons, List.mem_cons, not_or]
    have hq := q_out
    simp only [List.mem_cons, not_or] at hq
    exact ⟨⟨fun e => hq.1 e.symm, no.symm, fun e => dS p List.mem_cons_self e.symm, fun m => dS d (List.mem_cons_of_mem _ m) rfl⟩, ⟨hq.2.1, hq.2.2.1, hq.2.2.2⟩, ⟨fun e => oS p List.mem_cons_self e.symm, fun m => oS o (List.mem_cons_of_mem _ m) rfl⟩, D.np, D.nd⟩
  have Sx : Same H2 (upd (upd (upd (upd (upd H2 q0 (.lst [])) q1 (.lst [])) q2 (.lst [])) q (.lst [.ref q0, .ref q1, .ref q2])) tp (.tup [.ref o, .ref q])) := same_mut (same_mut (same_mut (same_mut (same_new h0) h1) h2) h3) h4
  have nin : ∀ x, H2 x = none → x ≠ q → x ∉ AdS d q o p qs := fun x hx n m => by
    rcases List.mem_cons.mp m with rfl | m
    · exact out _ hx List.mem_cons_self
    rcases List.mem_cons.mp m with rfl | m
    · exact n rfl
    · exact out _ hx (List.mem_cons_of_mem _ m)
  have row : ∀ x, H2 x = none → x ≠ q → ∀ H', H' x = some (.lst []) → Dz (AdS d q o p qs) H' 1 (.ref x) (rowD []) := fun x hx n H' h => Dz.lst h (nin x hx n) (Nat.zero_le _) .nil
  have eq0 : upd (upd (upd (upd (upd H2 q0 (.lst [])) q1 (.lst [])) q2 (.lst [])) q (.lst [.ref q0, .ref q1, .ref q2])) tp (.tup [.ref o, .ref q]) q0 = some (.lst []) := by rw [upd_ne m10, upd_ne m6, upd_ne m3, upd_ne m1, upd_same]
  have eq1 : upd (upd (upd (upd (upd H2 q0 (.lst [])) q1 (.lst [])) q2 (.lst [])) q (.lst [.ref q0, .ref q1, .ref q2])) tp (.tup [.ref o, .ref q]) q1 = some (.lst []) := by rw [upd_ne m9, upd_ne m5, upd_ne m2, upd_same]
  have eq2 : upd (upd (upd (upd (upd H2 q0 (.lst [])) q1 (.lst [])) q2 (.lst [])) q (.lst [.ref q0, .ref q1, .ref q2])) tp (.tup [.ref o, .ref q]) q2 = some (.lst []) := by rw [upd_ne m8, upd_ne m4, upd_same]
  have eq3 : upd (upd (upd (upd (upd H2 q0 (.lst [])) q1 (.lst [])) q2 (.lst [])) q (.lst [.ref q0, .ref q1, .ref q2])) tp (.tup [.ref o, .ref q]) q = some (.lst [.ref q0, .ref q1, .ref q2]) := by rw [upd_ne m7, upd_same]
  generalize upd (upd (upd (upd (upd H2 q0 (.lst [])) q1 (.lst [])) q2 (.lst [])) q (.lst [.ref q0, .ref q1, .ref q2])) tp (.tup [.ref o, .ref q]) = H3 at Sx eq0 eq1 eq2 eq3 ⊢
  refine seq1 ?_
  wide_line using [upd_same]
  refine ⟨by decide, fun dn hdn => ?_⟩
  have S4 := Sx.trans (same_new (o := .lst []) hdn)
  have ndn : q ≠ dn := ne_of_none eq3 hdn
  have eqn : ∀ x o, H3 x = some o → upd H3 dn (.lst []) x = some o := fun x o h => by rw [upd_ne (ne_of_none h hdn)]; exact h
  have L : LW A (upd H3 dn (.lst [])) d q o p qs ms [.ref q0, .ref q1, .ref q2] [[], [], []] (.ref dn) .non (some []) none :=
    ⟨S4 _ _ hd2, D.same S4, eqn _ _ eq3, .cons (row q0 h0 (fun e => m6 (by rw [e])) _ (eqn _ _ eq0)) (.cons (row q1 h1 (fun e => m5 (by rw [e])) _ (eqn _ _ eq1)) (.cons (row q2 h2 (fun e => m4 (by rw [e])) _ (eqn _ _ eq2)) .nil)), row dn (Sx.free hdn) ndn.symm _ upd_same, Dz.non, nd0⟩
  generalize upd H3 dn (.lst []) = H4 at L ⊢
  refine seq1 ?_
  wide_line using [upd_same]
  refine ⟨d, ms, 20, rfl, L.dr, by decide, fun many ms2 my1 my2 => ⟨⟨by omega, by omega⟩, ?_⟩⟩
  have L := L.take ms2
  generalize upd H4 d (.lst (ms2.map V.int)) = H5 at L ⊢
  let Inv : Nat → L2.St → Hp → Prop := fun i σ H' => ∃ q p qs ms xs R dv lv done last sp o7 o8 o9 o10 o11 o12 o13, σ = [some (.ref a), some (.ref d), some (.ref o), some (.ref q), some dv, some lv, some (.bl sp), o7, o8, o9, o10, o11, o12, o13, none, none, none, none] ∧
    LW A H' d q o p qs ms xs R dv lv done last ∧ Pl R done last sp ∧ (∀ r ∈ R, r.length ≤ 3 * i) ∧ ∀ D, done = some D → OkS D ∧ D.length ≤ 3 * i
  refine forR_to Inv (Inv (4 + many).toNat) ⟨q, p, qs, _, _, _, _, _, _, _, false, none, none, none, none, none, none, none, rfl, L, pl0, by simp, fun D e => by cases e; exact ⟨fun x hx => by simp at hx, Nat.zero_le _⟩⟩ (fun _ _ h => h) ?_ ?_
  · rintro σ H6 ⟨q, p, qs, ms, xs, R, dv, lv, done, last, sp, o7, o8, o9, o10, o11, o12, o13, rfl, L, P, hR, hDn⟩
    dsimp only
    have ql : R.length = 3 := P.n3
    have hR' : ∀ r ∈ R, r.length < 1000 := fun r hr => Nat.lt_of_le_of_lt (hR r hr) (by omega)
    have D := L.D
    obtain ⟨dx6, ho6⟩ := id L.D.ob
    refine seq1 ?_
    wide_line using [upd_same]
    refine ⟨⟨by decide, by decide⟩, lcR_new (n := (3 : Int).toNat) (by decide) (fun i => .tup ((R.getD i []).map V.str)) ?_ ?_⟩
    · intro m hm H13 S13 k1 k0 hk1
      have ho13 := S13 _ _ ho6
      have em : (0 : Int) + (m : Nat) = ((m : Nat) : Int) := by omega
      wp_walk using ho13, em
      have hm2 : m < 3 := hm
      refine ⟨o, p, qs, R, _, rfl, D.same S13, .inr (.inr (.inl ⟨_, rfl⟩)), fun h => absurd ⟨_, rfl, by omega, by omega⟩ h, fun jj ej hjj a r hr ha => ?_⟩
      cases ej
      exact hk1 a _ (same_new ha) ha (by rw [upd_same, getD_at hr])
    intro t1 H7 q1 ht1 S7 ht7 _ _ _ pr1
    have D := D.same S7
    have ho7 := S7 _ _ ho6
    have pr1' : Paired (fun z r => H7 z = some (.tup (r.map V.str))) q1 R := paired_range (f := fun i => R.getD i []) (by rw [ql]; exact pr1) fun m y hy => getD_at hy
    refine seq1 ?_
    wide_line using [upd_same]
    refine ⟨by decide, fun c1 hc1 => ?_⟩
    refine lcL_core (xs := [.int (-1), .int 4, .non]) (.inl (.inl upd_same)) (show 3 ≤ 1000000 by decide) (fun _ => true) (fun _ y _ => y = .str "range") (fun _ _ _ _ _ h => h) ?_ ?_
    · rintro x hx H3 S3 k1 k0 h1 _
      have S3' := (same_new (o := .lst [.int (-1), .int 4, .non]) hc1).trans S3
      have ho3 := S3' _ _ ho7
      have hx : Scal x ∧ ¬ ∃ i, x = .int i ∧ 0 ≤ i ∧ i ≤ 3 := by
        simp only [List.mem_cons, List.not_mem_nil, or_false] at hx
        rcases hx with rfl | rfl | rfl
        · exact ⟨.inr (.inr (.inl ⟨_, rfl⟩)), by rintro ⟨i, e, h⟩; cases e; omega⟩
        · exact ⟨.inr (.inr (.inl ⟨_, rfl⟩)), by rintro ⟨i, e, h⟩; cases e; omega⟩
        · exact ⟨.inl rfl, by rintro ⟨i, e, h⟩; cases e⟩
      wp_walk using ho3
      exact ⟨o, p, qs, R, 0, _, _, rfl, D.same S3', .inl ⟨rfl, hx.1, hR', .inl ⟨"a", rfl, by decide +kernel⟩, fun _ H4 S4 => h1 rfl _ _ S4 rfl, fun h => absurd h hx.2, fun i _ e hi => absurd ⟨_, e, by omega, by omega⟩ hx.2⟩⟩
    intro w1 H8 ys hw1 S8 hw8 pq
    have S78 := (same_new (o := .lst [.int (-1), .int 4, .non]) hc1).trans S8
    have e : ys = [.str "range", .str "range", .str "range"] := paired_map (f := fun _ => V.str "range") pq
    subst e
    have D := D.same S78
    have ho8 := S78 _ _ ho7
    refine ⟨by decide, fun c2 hc2 => ?_⟩
    refine lcL_core (xs := [.int (-1), .int 3]) (.inl (.inl upd_same)) (show 2 ≤ 1000000 by decide) (fun _ => true) (fun _ y _ => y = .str "range") (fun _ _ _ _ _ h => h) ?_ ?_
    · rintro x hx H3 S3 k1 k0 h1 _
      have S3' := (same_new (o := .lst [.int (-1), .int 3]) hc2).trans S3
      have ho3 := S3' _ _ ho8
      have hx : Scal x ∧ ¬ ∃ i, x = .int i ∧ 0 ≤ i ∧ i ≤ 2 := by
        simp only [List.mem_cons, List.not_mem_nil, or_false] at hx
        rcases hx with rfl | rfl
        · exact ⟨.inr (.inr (.inl ⟨_, rfl⟩)), by rintro ⟨i, e, h⟩; cases e; omega⟩
        · exact ⟨.inr (.inr (.inl ⟨_, rfl⟩)), by rintro ⟨i, e, h⟩; cases e; omega⟩
      wp_walk using ho3
      refine ⟨by decide, fun l hl => ?_⟩
      have S4 := same_new (o := .lst [.str "a"]) hl
      exact ⟨o, p, qs, R, 1, _, _, rfl, (D.same S3').same S4, .inr (.inl ⟨rfl, hx.1, l, ["a"], rfl, upd_same, by intro y hy; simp at hy; subst hy; decide +kernel, by decide, fun _ H4 S5 => h1 rfl _ _ (S4.trans S5) rfl, fun i e hi => absurd ⟨_, e, by omega, by omega⟩ hx.2⟩)⟩
    intro w2 H9 ys hw2 S9 hw9 pq
    have S89 := (same_new (o := .lst [.int (-1), .int 3]) hc2).trans S9
    have e : ys = [.str "range", .str "range"] := paired_map (f := fun _ => V.str "range") pq
    subst e
    have D := D.same S89
    have ho9 := S89 _ _ ho8
    have hw89 := S89 _ _ hw8
    wide_line using [hw89, hw9]
    refine ⟨by decide, fun w3 hw3 => ⟨by decide, fun c3 hc3 => ?_⟩⟩
    obtain ⟨m1, hc3'⟩ := upd_none hc3
    have S9a := same_new (o := .lst [.str "range", .str "range", .str "range", .str "range", .str "range"]) hw3
    have ho9a := S9a _ _ ho9
    have hw3a : upd H9 w3 (.lst [.str "range", .str "range", .str "range", .str "range", .str "range"]) w3 = some (.lst [.str "range", .str "range", .str "range", .str "range", .str "range"]) := upd_same
    generalize upd H9 w3 (.lst [.str "range", .str "range", .str "range", .str "range", .str "range"]) = H10 at S9a ho9a hw3a hc3 ⊢
    have D := D.same S9a
    refine lcL_core (xs := [.int 3, .non]) (.inl (.inl upd_same)) (show 2 ≤ 1000000 by decide) (fun _ => true) (fun _ y _ => y = .str "range") (fun _ _ _ _ _ h => h) ?_ ?_
    · rintro x hx H3 S3 k1 k0 h1 _
      have S3' := (same_new (o := .lst [.int 3, .non]) hc3).trans S3
      have ho3 := S3' _ _ ho9a
      have hx : Scal x ∧ ¬ ∃ i, x = .int i ∧ 0 ≤ i ∧ i ≤ 2 := by
        simp only [List.mem_cons, List.not_mem_nil, or_false] at hx
        rcases hx with rfl | rfl
        · exact ⟨.inr (.inr (.inl ⟨_, rfl⟩)), by rintro ⟨i, e, h⟩; cases e; omega⟩
        · exact ⟨.inl rfl, by rintro ⟨i, e, h⟩; cases e⟩
      wp_walk using ho3
      exact ⟨o, p, qs, R, 2, _, _, rfl, D.same S3', .inr (.inr ⟨rfl, hx.1, hx.2, fun H4 S4 => h1 rfl _ _ S4 rfl⟩)⟩
    intro w4 H11 ys hw4 S11 hw11 pq
    have S911 := (same_new (o := .lst [.int 3, .non]) hc3).trans S11
    have e : ys = [.str "range", .str "range"] := paired_map (f := fun _ => V.str "range") pq
    subst e
    have D := D.same S911
    have ho11 := S911 _ _ ho9a
    have hw311 := S911 _ _ hw3a
    wide_line using [hw311, hw11]
    refine ⟨by decide, fun w5 hw5 => ?_⟩
    have S12 := same_new (o := .lst [.str "range", .str "range", .str "range", .str "range", .str "range", .str "range", .str "range"]) hw5
    have hw12 : upd H11 w5 (.lst [.str "range", .str "range", .str "range", .str "range", .str "range", .str "range", .str "range"]) w5 = some (.lst [.str "range", .str "range", .str "range", .str "range", .str "range", .str "range", .str "range"]) := upd_same
    generalize upd H11 w5 (.lst [.str "range", .str "range", .str "range", .str "range", .str "range", .str "range", .str "range"]) = H12 at S12 hw12 ⊢
    have D := D.same S12
    have ho12 := S12 _ _ ho11
    refine seq1 ?_
    wide_line using [upd_same]
    refine ⟨by decide, fun al hal => ⟨by decide, fun c5 hc5 => ?_⟩⟩
    obtain ⟨m5, hc5'⟩ := upd_none hc5
    have S13a := same_mut (same_new (o := .lst [.str "a"]) hal) (o := .lst [.non, .int 5, .str "a\n", .ref al]) hc5'
    have hal1 : upd (upd H12 al (.lst [.str "a"])) c5 (.lst [.non, .int 5, .str "a\n", .ref al]) al = some (.lst [.str "a"]) := by rw [upd_ne m5, upd_same]
    refine lcL_core (xs := [.non, .int 5, .str "a\n", .ref al]) (.inl (.inl upd_same)) (show 4 ≤ 1000000 by decide) (fun _ => true) (fun _ y _ => y = .str "form") (fun _ _ _ _ _ h => h) ?_ ?_
    · rintro x hx H3 S3 k1 k0 h1 _
      have S3' := S13a.trans S3
      have ho3 := S3' _ _ ho12
      have hx : (((∃ y, x = .str y ∧ PyData.strOk y = true) ∨ NoStr H3 x) ∧ ¬ ∃ y, x = .str y ∧ inS nl y = false) := by
        simp only [List.mem_cons, List.not_mem_nil, or_false] at hx
        rcases hx with rfl | rfl | rfl | rfl
        · exact ⟨.inr (.inl rfl), by rintro ⟨i, e, h⟩; cases e⟩
        · exact ⟨.inr (.inr (.inr (.inl ⟨_, rfl⟩))), by rintro ⟨i, e, h⟩; cases e⟩
        · exact ⟨.inl ⟨_, rfl, by decide +kernel⟩, by rintro ⟨i, e, h⟩; cases e; exact absurd h (by decide +kernel)⟩
        · exact ⟨.inr (.inr (.inr (.inr ⟨_, _, rfl, S3 _ _ hal1⟩))), by rintro ⟨i, e, h⟩; cases e⟩
      wp_walk using ho3
      exact ⟨o, p, qs, R, 0, _, _, rfl, D.same S3', .inl ⟨rfl, .inr (.inr (.inl ⟨_, rfl⟩)), hR', hx.1, fun h => absurd ⟨_, rfl, by decide, by decide⟩ h, fun _ _ H4 S4 => h1 rfl _ _ S4 rfl, fun i y _ _ e1 e2 => absurd ⟨y, e1, e2⟩ hx.2⟩⟩
    intro w6 H13 ys hw6 S13 hw13 pq
    have S1213 := S13a.trans S13
    have e : ys = [.str "form", .str "form", .str "form", .str "form"] := paired_map (f := fun _ => V.str "form") pq
    subst e
    have D := D.same S1213
    have ho13 := S1213 _ _ ho12
    have hw513 := S1213 _ _ hw12
    wide_line using [hw513, hw13]
    refine ⟨by decide, fun w7 hw7 => ?_⟩
    have S14 := same_new (o := .lst [.str "range", .str "range", .str "range", .str "range", .str "range", .str "range", .str "range", .str "form", .str "form", .str "form", .str "form"]) hw7
    have hw14 : upd H13 w7 (.lst [.str "range", .str "range", .str "range", .str "range", .str "range", .str "range", .str "range", .str "form", .str "form", .str "form", .str "form"]) w7 = some (.lst [.str "range", .str "range", .str "range", .str "range", .str "range", .str "range", .str "range", .str "form", .str "form", .str "form", .str "form"]) := upd_same
    generalize upd H13 w7 (.lst [.str "range", .str "range", .str "range", .str "range", .str "range", .str "range", .str "range", .str "form", .str "form", .str "form", .str "form"]) = H14 at S14 hw14 ⊢
    have D := D.same S14
    have ho14 := S14 _ _ ho13
    have S7e := (((((S78.trans S89).trans S9a).trans S911).trans S12).trans S1213).trans S14
    try (wide_line using [upd_same])
    refine ⟨by decide, fun a5 ha5 => ⟨by decide, by decide, by decide, fun a6 ha6 => ⟨by decide, fun a7 ha7 => ⟨by decide, by decide, by decide, fun a8 ha8 => ?_⟩⟩⟩⟩
    simp only [upd_fresh] at ha6 ha7 ha8
    obtain ⟨e1, ha6⟩ := ha6
    obtain ⟨e2, e3, ha7⟩ := ha7
    obtain ⟨e4, e5, e6, ha8⟩ := ha8
    wide_line using [e2, e5]
    refine ⟨by decide, fun a9 ha9 => ?_⟩
    simp only [upd_fresh] at ha9
    obtain ⟨e7, e8, e9, e10, ha9⟩ := ha9
    have er : (List.replicate (Int.toNat 7) [V.str "range"]).flatten ++ (List.replicate (Int.toNat 4) [V.str "form"]).flatten = [.str "range", .str "range", .str "range", .str "range", .str "range", .str "range", .str "range", .str "form", .str "form", .str "form", .str "form"] := rfl
    have S15 := same_mut (same_mut (same_mut (same_mut (same_new (o := .lst [.str "range"]) ha5) (o := .lst (List.replicate (Int.toNat 7) [V.str "range"]).flatten) ha6) (o := .lst [.str "form"]) ha7) (o := .lst (List.replicate (Int.toNat 4) [V.str "form"]).flatten) ha8) (o := .lst ((List.replicate (Int.toNat 7) [V.str "range"]).flatten ++ (List.replicate (Int.toNat 4) [V.str "form"]).flatten)) ha9
    have ew : ([.str "range", .str "range", .str "range", .str "range", .str "range", .str "range", .str "range", .str "form", .str "form", .str "form", .str "form"] : List V) = (["range", "range", "range", "range", "range", "range", "range", "form", "form", "form", "form"] : List Str).map V.str := rfl
    have okw : ∀ y ∈ (["range", "range", "range", "range", "range", "range", "range", "form", "form", "form", "form"] : List Str), PyData.strOk y = true := by
      intro y hy
      simp only [List.mem_cons, List.not_mem_nil, or_false] at hy
      rcases hy with rfl | rfl | rfl | rfl | rfl | rfl | rfl | rfl | rfl | rfl | rfl <;> decide +kernel
    refine eqD_same (n := 1) (da_strs (l := ["range", "range", "range", "range", "range", "range", "range", "form", "form", "form", "form"]) (n := 0) (S15 _ _ hw14) (by decide) okw) (da_strs (l := ["range", "range", "range", "range", "range", "range", "range", "form", "form", "form", "form"]) (n := 0) upd_same (by decide) okw) (by decide) ?_
    have D := D.same S15
    have ho15 := S15 _ _ ho14
    have S7f := S7e.trans S15
    try (wide_line using [upd_same])
    refine ⟨⟨by decide, by decide⟩, lcR_new (n := (3 : Int).toNat) (by decide) (fun i => .tup ((R.getD i []).map V.str)) ?_ ?_⟩
    · intro m hm H16 S16 k1 k0 hk1
      have ho16 := S16 _ _ ho15
      have em : (0 : Int) + (m : Nat) = ((m : Nat) : Int) := by omega
      wp_walk using ho16, em
      have hm2 : m < 3 := hm
      refine ⟨o, p, qs, R, _, rfl, D.same S16, .inr (.inr (.inl ⟨_, rfl⟩)), fun h => absurd ⟨_, rfl, by omega, by omega⟩ h, fun jj ej hjj a r hr ha => ?_⟩
      cases ej
      exact hk1 a _ (same_new ha) ha (by rw [upd_same, getD_at hr])
    intro t2 H16 q2 ht2 S16 ht16 _ _ _ pr2
    have pr2' : Paired (fun z r => H16 z = some (.tup (r.map V.str))) q2 R := paired_range (f := fun i => R.getD i []) (by rw [ql]; exact pr2) fun m y hy => getD_at hy
    have S7g := S7f.trans S16
    have pr1'' := paired_mem (G := fun z (r : List Str) => H16 z = some (.tup (r.map V.str))) pr1' fun _ _ _ f => S7g _ _ f
    exact ⟨_, _, .list (R.map fun r => PyData.tuple (r.map .str)), rfl, Da.lst ht16 (by rw [List.length_map, paired_len pr2', ql]; decide) (da_tuples pr2' D.ok), Da.lst (S7g _ _ ht7) (by rw [List.length_map, paired_len pr1', ql]; decide) (da_tuples pr1'' D.ok), fun H17 _ => k H17⟩
  rintro nx bx _ i σ H6 hi hN ⟨q, p, qs, ms, xs, R, dv, lv, done, last, sp, o7, o8, o9, o10, o11, o12, o13, rfl, L, P, hR, hDn⟩
  wide_line using [upd_same]
  refine seq1 ?_
  wide_line using [upd_same]
  refine ⟨d, ms, 10, rfl, L.dr, by decide, fun kind ms2 _ _ => ?_⟩
  have L := L.take ms2
  generalize upd H6 d (.lst (ms2.map V.int)) = H7 at L ⊢
  have hi : i < 24 := by omega
  refine seq_to (fun σ H' => ∃ q p qs ms xs R dv lv done last sp o9 o10 o11 o12, σ = [some (.ref a), some (.ref d), some (.ref o), some (.ref q), some dv, some lv, some (.bl sp), some (.int (0 + (i : Int))), some (.int kind), o9, o10, o11, o12, o13, none, none, none, none] ∧
    LW A H' d q o p qs ms xs R dv lv done last ∧ Pl R done last sp ∧ (∀ r ∈ R, r.length ≤ 3 * (i + 1)) ∧ ∀ D, done = some D → OkS D ∧ D.length ≤ 3 * (i + 1)) ?_ ?_
  · intro nx4 hx4
    have keepR : ∀ r ∈ R, r.length ≤ 3 * (i + 1) := fun r hr => Nat.le_trans (hR r hr) (by omega)
    have keepD : ∀ D, done = some D → OkS D ∧ D.length ≤ 3 * (i + 1) := fun D e => ⟨(hDn D e).1, Nat.le_trans (hDn D e).2 (by omega)⟩
    have ql : R.length = 3 := P.n3
    have asis : nx4 [some (V.ref a), some (.ref d), some (.ref o), some (.ref q), some dv, some lv, some (.bl sp), some (.int (0 + (i : Int))), some (.int kind), o9, o10, o11, o12, o13, none, none, none, none] H7 := hx4 _ _ ⟨q, p, qs, ms2, xs, R, dv, lv, done, last, sp, o9, o10, o11, o12, rfl, L, P, keepR, keepD⟩
    obtain ⟨dx7, ho7⟩ := id L.D.ob
    have lv0 : last = none → lv = .non := fun e => by subst e; exact Dz.non_inv L.la
    have lv1 : last ≠ none → ∃ b, lv = .ref b := fun e => by
      cases last with
      | none => exact absurd rfl e
      | some p => obtain ⟨l, r⟩ := p; obtain ⟨b, _, h, _⟩ := Dz.tuple_inv L.la; exact ⟨b, h⟩
    refine ifS_els (ifS_els ?_ ?_) ?_
    · -- spoilt
      wide_line using [upd_same]
      refine ite2 (fun _ => ?_) fun _ => asis
      cases sp with
      | true => 
        wide_line using [upd_same]
        exact asis
      | false =>
        wide_line using [upd_same]
        refine seq1 ?_
        wide_line using [upd_same]
        refine ⟨d, ms2, 3, rfl, L.dr, by decide, fun i3 ms3 j1 j2 => ?_⟩
        have L := L.take ms3
        generalize upd H7 d (.lst (ms3.map V.int)) = H8 at L ⊢
        obtain ⟨j, rfl⟩ := Int.eq_ofNat_of_zero_le j1
        have hjR : j < R.length := by omega
        obtain ⟨v, hv, dv1⟩ := pairedAt L.rows (show (R.map rowD)[j]? = some (rowD R[j]) by rw [List.getElem?_map, List.getElem?_eq_getElem hjR]; rfl)
        obtain ⟨b, rfl, nb, hb⟩ := Dz.row_inv dv1
        have okr := L.D.ok _ (List.getElem_mem hjR)
        have hq8 := L.hq
        refine seq1 ?_
        wide_line using [hq8]
        refine atK_nat hv ?_
        have lr := hR _ (List.getElem_mem hjR)
        refine ⟨d, b, ms3, R[j], rfl, L.dr, hb, okr.1, by omega, fun e => nb (by rw [e]; simp), fun a' ls ms4 H9 okl hll k9 fa hd9 ha9 => ?_⟩
        have L9 := L.keepd k9 hd9
        refine seq1 ?_
        wide_line using [upd_same]
        refine ⟨o, p, qs, R, 1, _, _, rfl, L9.D, .inr (.inl ⟨rfl, .inr (.inr (.inl ⟨_, rfl⟩)), a', ls, rfl, ha9, okl, by omega, fun h => absurd ⟨_, rfl, j1, by omega⟩ h, fun jj ej hjj x H10 hx D10 k10 => ?_⟩)⟩
        cases ej
        have hq10 : H10 q = some (.lst xs) := k10 _ _ L9.hq (by simp; exact L.ne.2.2.2.2.2.1)
        have ha10 : H10 a' = some (.lst (ls.map V.str)) := k10 _ _ ha9 (by
          simp
          intro e
          rw [e] at fa
          exact L.ex p (by simp) fa)
        wide_line using [ha10]
        intro y hy
        have ny : q ≠ y := ne_of_none hq10 hy
        refine ⟨by decide, fun tp htp => ?_⟩
        obtain ⟨m1, htp'⟩ := upd_none htp
        have ntp : q ≠ tp := ne_of_none hq10 htp'
        wide_line using [hq10, ny, ntp]
        have xl : xs.length = 3 := by rw [paired_len L9.rows, List.length_map, ql]
        refine ⟨by omega, by omega, hx4 _ _ ⟨q, p, qs.set j x, ms4, xs.set j (.ref y), R.set j ls, dv, lv, done, last, true, o9, o10, _, _, rfl, L9.spoil D10 k10 hx hy ?_ ?_ ?_ okl (by omega), P.spoil j ls (by omega), ?_, keepD⟩⟩
        · rw [upd_ne (Ne.symm ny), upd_ne m1, upd_same]
        · rw [upd_same, Int.toNat_natCast]
        · exact ((Keep.refl.new hy).new htp).up (by simp)
        · intro r hr
          rcases List.mem_or_eq_of_mem_set hr with hr | rfl
          · exact keepR r hr
          · omega
    · intro e' he'
      cases last with
      | some pl =>
        obtain ⟨b, rfl⟩ := lv1 (by simp)
        wide_line using [upd_same]
        exact ite2 (fun _ => he') fun _ => he'
      | none =>
      have := lv0 rfl
      subst this
      cases sp with
      | true =>
        wide_line using [upd_same]
        exact ite2 (fun _ => he') fun _ => he'
      | false =>
      wide_line using [upd_same]
      refine ite2 (fun _ => ?_) fun _ => he'
      refine seq1 ?_
      wide_line using [upd_same]
      refine ⟨d, ms2, 3, rfl, L.dr, by decide, fun r3 ms3 j1 j2 => ?_⟩
      have L := L.take ms3
      generalize upd H7 d (.lst (ms3.map V.int)) = H8 at L ⊢
      refine ⟨by decide, fun p8 hp8 => ?_⟩
      have L := L.same (same_new (o := .lst [.str "a", .str "b", .str "e"]) hp8)
      have hp9 : upd H8 p8 (.lst [.str "a", .str "b", .str "e"]) p8 = some (.lst [.str "a", .str "b", .str "e"]) := upd_same
      generalize upd H8 p8 (.lst [.str "a", .str "b", .str "e"]) = H9 at L hp9 ⊢
      have np : p8 ≠ d := fun e => by rw [e, L.dr] at hp9; cases ms3 <;> simp at hp9
      refine ⟨d, ms3, 3, rfl, L.dr, by decide, fun t3 ms4 t1 t2 => ?_⟩
      have L := L.take ms4
      wide_line using [np, hp9]
      refine atK_all t1 t2 fun v hv => ?_
      obtain ⟨x, rfl, okx, nlx⟩ : ∃ x, v = .str x ∧ PyData.strOk x = true ∧ inS nl x = false := by
        simp only [List.mem_cons, List.not_mem_nil, or_false] at hv
        rcases hv with rfl | rfl | rfl <;> exact ⟨_, rfl, by decide +kernel, by decide +kernel⟩
      generalize upd H9 d (.lst (ms4.map V.int)) = H10 at L ⊢
      refine ⟨by decide, fun tp htp => ?_⟩
      have L := L.same (same_new (o := .tup [.int r3, .str x]) htp)
      have htp1 : upd H10 tp (.tup [.int r3, .str x]) tp = some (.tup [.int r3, .str x]) := upd_same
      generalize upd H10 tp (.tup [.int r3, .str x]) = H11 at L htp1 ⊢
      refine seq1 ?_
      wide_line using [upd_same]
      obtain ⟨r, rfl⟩ := Int.eq_ofNat_of_zero_le j1
      refine ⟨o, p, qs, R, 0, _, _, rfl, L.D, .inl ⟨rfl, .inr (.inr (.inl ⟨_, rfl⟩)), fun y hy => Nat.lt_of_le_of_lt (hR y hy) (by omega), .inl ⟨x, rfl, okx⟩, fun h => absurd ⟨_, rfl, j1, by omega⟩ h, fun _ h => absurd ⟨x, rfl, nlx⟩ h, fun ii x' ei hii ex _ H12 D12 k12 => ?_⟩⟩
      cases ei
      cases ex
      have k12' : Keep (o :: p :: qs) H11 H12 := k12.mono fun z hz => .tail _ (.tail _ hz)
      obtain ⟨hd12, hq12, kS⟩ := L.deed D12 k12'
      have rows12 := Paired.mapP L.rows fun _ _ z => Dz.keep kS z
      wide_line using [upd_same]
      refine seq1 ?_
      wide_line using [upd_same]
      refine ⟨⟨by decide, by decide⟩, lcR_new (n := (3 : Int).toNat) (by decide) (fun i => .lst ((R.getD i [] ++ if i < r then [x] else []).map V.str)) ?_ ?_⟩
      · intro m hm H13 S13 k1 k0 hk1
        have hm3 : m < R.length := by rw [ql]; exact hm
        obtain ⟨v, hv, dv1⟩ := pairedAt rows12 (show (R.map rowD)[m]? = some (rowD R[m]) by rw [List.getElem?_map, List.getElem?_eq_getElem hm3]; rfl)
        obtain ⟨b, rfl, nb, hb⟩ := Dz.row_inv dv1
        have hq13 := S13 _ _ hq12
        have hb13 := S13 _ _ hb
        have em : (0 : Int) + (m : Nat) = ((m : Nat) : Int) := by omega
        wp_walk using hq13, em
        refine atK_nat hv ?_
        refine ⟨by decide, fun p1 hp1 => ?_⟩
        refine ⟨by split <;> decide, by split <;> decide, by split <;> decide, fun p2 hp2 => ?_⟩
        obtain ⟨m1, hp2'⟩ := upd_none hp2
        have nb1 : b ≠ p1 := ne_of_none hb13 hp1
        have nb2 : b ≠ p2 := ne_of_none hb13 hp2'
        wp_walk using nb1, nb2, hb13
        have ez : (List.replicate (Int.toNat (if (m : Int) < (r : Nat) then 1 else 0)) [V.str x]).flatten = (if m < r then [x] else []).map V.str := by
          by_cases h : m < r
          · rw [if_pos h, if_pos (by omega)]; rfl
          · rw [if_neg h, if_neg (by omega)]; rfl
        rw [ez]
        have l1 : R[m].length ≤ 1000 := (L.D.ok _ (List.getElem_mem hm3)).2
        refine ⟨by rw [List.length_map, List.length_map, sizeLine_eq]; split <;> simp <;> omega, fun p3 hp3 => ?_⟩
        obtain ⟨m2, hp3'⟩ := upd_none hp3
        obtain ⟨m3, hp3''⟩ := upd_none hp3'
        refine hk1 p3 _ (same_mut (same_mut (same_new hp1) hp2') hp3'') hp3'' ?_
        rw [upd_same, ← List.map_append, getD_at (List.getElem?_eq_getElem hm3)]
      intro q' H13 rs hq' S13 hq13 nd13 nq13 fr13 pr13
      refine ⟨by decide, fun lp hlp => ?_⟩
      have S14 := S13.trans (same_new (o := .tup [.str x, .int ((r : Nat) : Int)]) hlp)
      have pr' : Paired (fun z r => H13 z = some (.lst (r.map V.str))) rs (putR R x r) := by
        refine paired_range (f := fun i => R.getD i [] ++ if i < r then [x] else []) ?_ fun m y hy => ?_
        · rw [putR_len, ql]; exact pr13
        · have hl := (List.getElem?_eq_some_iff.mp hy).1
          rw [putR_len] at hl
          rw [putR_get hl] at hy
          cases hy
          show R.getD m [] ++ _ = _
          rw [getD_at (List.getElem?_eq_getElem hl)]
      have L2 := L.remake D12 k12' S13 hq' hq13 fr13 nq13 pr'
      have L3 := L2.same (same_new (o := .tup [.str x, .int ((r : Nat) : Int)]) hlp)
      have lpn : lp ∉ AdS d q' o p qs := fun m => L2.ex lp m hlp
      refine hx4 _ _ ⟨q', p, qs, ms4, rs.map V.ref, putR R x r, dv, .ref lp, done, some (x, r), false, _, _, o11, o12, rfl, { L3 with la := Dz.tup upd_same lpn (show 2 ≤ 100000 by decide) (.cons (Dz.str okx) (.cons Dz.int .nil)) }, P.extra x r, ?_, keepD⟩
      intro y hy
      obtain ⟨z, hz, h⟩ := putR_mem hy
      have := hR z hz
      rcases h with rfl | rfl
      · omega
      · rw [List.length_append, List.length_singleton]; omega
    · intro e' he'
      cases last with
      | some pl =>
        obtain ⟨b, rfl⟩ := lv1 (by simp)
        wide_line using [upd_same]
        exact ite2 (fun _ => he') fun _ => he'
      | none =>
      have := lv0 rfl
      subst this
      wide_line using [upd_same]
      refine ite2 (fun _ => ?_) fun _ => he'
      refine seq1 ?_
      wide_line using [upd_same]
      refine ⟨by decide, fun p8 hp8 => ?_⟩
      have L := L.same (same_new (o := .lst [.str "a", .str "b", .str "", .str "c d"]) hp8)
      have hp9 : upd H7 p8 (.lst [.str "a", .str "b", .str "", .str "c d"]) p8 = some (.lst [.str "a", .str "b", .str "", .str "c d"]) := upd_same
      generalize upd H7 p8 (.lst [.str "a", .str "b", .str "", .str "c d"]) = H9 at L hp9 ⊢
      have np : p8 ≠ d := fun e => by rw [e, L.dr] at hp9; cases ms2 <;> simp at hp9
      refine ⟨d, ms2, 4, rfl, L.dr, by decide, fun t3 ms4 t1 t2 => ?_⟩
      have L := L.take ms4
      wide_line using [np, hp9]
      refine atK_all t1 t2 fun v hv => ?_
      obtain ⟨x, rfl, okx, nlx⟩ : ∃ x, v = .str x ∧ PyData.strOk x = true ∧ inS nl x = false := by
        simp only [List.mem_cons, List.not_mem_nil, or_false] at hv
        rcases hv with rfl | rfl | rfl | rfl <;> exact ⟨_, rfl, by decide +kernel, by decide +kernel⟩
      generalize upd H9 d (.lst (ms4.map V.int)) = H10 at L ⊢
      refine seq1 ?_
      wide_line using [upd_same]
      refine ⟨o, p, qs, R, 0, _, _, rfl, L.D, .inl ⟨rfl, .inr (.inr (.inl ⟨_, rfl⟩)), fun y hy => Nat.lt_of_le_of_lt (hR y hy) (by omega), .inl ⟨x, rfl, okx⟩, fun h => absurd ⟨_, rfl, by decide, by decide⟩ h, fun _ h => absurd ⟨x, rfl, nlx⟩ h, fun ii x' ei hii ex _ H12 D12 k12 => ?_⟩⟩
      have e3 : ii = 3 := by cases ei; rfl
      subst e3
      cases ex
      have k12' : Keep (o :: p :: qs) H10 H12 := k12.mono fun z hz => .tail _ (.tail _ hz)
      obtain ⟨hd12, hq12, kS⟩ := L.deed D12 k12'
      have rows12 := rows_strs (Paired.mapP L.rows fun _ _ z => Dz.keep kS z)
      wide_line using [upd_same]
      refine seq1 ?_
      wide_line using [upd_same]
      refine lcL_new (.inl (.inl hq12)) rows12 (by rw [paired_len rows12, ql]; decide) (fun r => .lst ((r ++ [x]).map V.str)) ?_ ?_
      · rintro m v r hv hr ⟨b, rfl, hb⟩ H13 S13 k1 k0 hk1
        have hb13 := S13 _ _ hb
        wp_walk using hb13
        refine ⟨by decide, fun p1 hp1 => ?_⟩
        have nb1 : b ≠ p1 := ne_of_none hb13 hp1
        wp_walk using nb1, hb13
        have l1 : r.length ≤ 1000 := (L.D.ok _ (List.mem_of_getElem? hr)).2
        refine ⟨by rw [List.length_map, sizeLine_eq]; omega, fun p3 hp3 => ?_⟩
        obtain ⟨m2, hp3'⟩ := upd_none hp3
        refine hk1 p3 _ (same_mut (same_new hp1) hp3') hp3' ?_
        rw [upd_same]
        simp
      intro q' H13 rs hq' S13 hq13 nd13 nq13 fr13 pr13
      have e3 : putR R x 3 = R.map (· ++ [x]) := by
        apply List.ext_getElem?
        intro m
        rcases Nat.lt_or_ge m R.length with h | h
        · rw [putR_get h, if_pos (by omega), List.getElem?_map, List.getElem?_eq_getElem h]; rfl
        · rw [List.getElem?_eq_none_iff.mpr (by rw [putR_len]; exact h), List.getElem?_eq_none_iff.mpr (by rw [List.length_map]; exact h)]
      have pr' : Paired (fun z r => H13 z = some (.lst (r.map V.str))) rs (putR R x 3) := by
        rw [e3]
        exact paired_mapR pr13
      have L2 := L.remake D12 k12' S13 hq' hq13 fr13 nq13 pr'
      have P2 := P.write x
      rw [← e3] at P2
      have bound : ∀ y ∈ putR R x 3, y.length ≤ 3 * (i + 1) := by
        intro y hy
        obtain ⟨z, hz, h⟩ := putR_mem hy
        have := hR z hz
        rcases h with rfl | rfl
        · omega
        · rw [List.length_append, List.length_singleton]; omega
      cases sp with
      | true =>
        wp_walk using upd_same
        exact hx4 _ _ ⟨q', p, qs, ms4, rs.map V.ref, putR R x 3, .non, .non, none, none, true, _, _, _, _, rfl, { L2 with dn := Dz.non }, P2, bound, fun D e => by cases e⟩
      | false =>
        obtain ⟨D0, rfl, _⟩ := P.fresh rfl
        obtain ⟨b, rfl, nb, hb⟩ := Dz.row_inv (r := D0) L2.dn
        obtain ⟨okD, lD⟩ := hDn D0 rfl
        wp_walk using hb
        refine ⟨by decide, fun p1 hp1 => ?_⟩
        have nb1 : b ≠ p1 := ne_of_none hb hp1
        wp_walk using nb1, hb
        refine ⟨by rw [List.length_map, sizeLine_eq]; omega, fun p3 hp3 => ?_⟩
        obtain ⟨m2, hp3'⟩ := upd_none hp3
        have L3 := L2.same (same_mut (same_new (o := .lst [.str x]) hp1) (o := .lst (D0.map V.str ++ [V.str x])) hp3')
        have e4 : D0.map V.str ++ [V.str x] = (D0 ++ [x]).map V.str := by simp
        have np3 : p3 ∉ AdS d q' o p qs := fun m => L2.ex p3 m hp3'
        have okD' : OkS (D0 ++ [x]) := fun y hy => by
          rcases List.mem_append.mp hy with hy | hy
          · exact okD y hy
          · simp at hy; subst hy; exact okx
        exact hx4 _ _ ⟨q', p, qs, ms4, rs.map V.ref, putR R x 3, .ref p3, .non, some (D0 ++ [x]), none, false, _, _, _, _, rfl, { L3 with dn := Dz.row_of (by rw [upd_same, e4]) np3 okD' (by rw [List.length_append, List.length_singleton]; omega) }, P2, bound, fun D e => by cases e; exact ⟨okD', by rw [List.length_append, List.length_singleton]; omega⟩⟩
  rintro σ H8 ⟨q, p, qs, ms, xs, R, dv, lv, done, last, sp, o9, o10, o11, o12, rfl, L, P, hR, hDn⟩
  have ql : R.length = 3 := P.n3
  have hi' : i < 24 := by omega
  have small : ∀ r ∈ R, r.length ≤ 100 := fun r hr => Nat.le_trans (hR r hr) (by omega)
  obtain ⟨dx8, ho8⟩ := id L.D.ob
  refine seq1 ?_
  wide_line using [upd_same]
  refine ⟨q, xs, R, rfl, L.hq, rows_strs L.rows, by omega, L.D.ok, fun du H9 S9 hdu hdu9 => ?_⟩
  obtain ⟨okF, lF⟩ := agr_ok L.D.ok
  have mF : (agr R).length ≤ 3 * (i + 1) := by
    have := (agrF_ok (n := maxLen R) (f := []) L.D.ok (fun x hx => by simp at hx) (Nat.zero_le _)).2
    exact Nat.le_trans this (maxLen_to hR)
  generalize hF : agr R = F at hdu9 okF lF mF
  have L := L.same S9
  have ho9 := S9 _ _ ho8
  refine seq1 ?_
  wide_line using [ho9]
  refine ⟨o, p, qs, R, rfl, L.D, fun a1 H10 S10 ha1 ha10 => ?_⟩
  rw [hF] at ha10
  have hdu10 := S10 _ _ hdu9
  wide_line using [hdu10]
  intro b1 hb1
  have S11 := same_new (o := .tup (F.map V.str)) hb1
  have hb11 : upd H10 b1 (.tup (F.map V.str)) b1 = some (.tup (F.map V.str)) := upd_same
  have ha11 := S11 _ _ ha10
  have S9x := S10.trans S11
  generalize upd H10 b1 (.tup (F.map V.str)) = H11 at hb11 ha11 S9x ⊢
  clear S11
  refine ⟨_, _, .tuple (F.map .str), rfl, dat_strs ha11 (by omega) okF, dat_strs hb11 (by omega) okF, fun H12 S12 => ?_⟩
  have S912 := S9x.trans S12
  have L := L.same S912
  have hdu12 := S912 _ _ hdu9
  have ho12 := S912 _ _ ho9
  try (wide_line using [upd_same])
  refine ⟨⟨by decide, by decide⟩, lcR_new (n := (3 : Int).toNat) (by decide) (fun i => .tup ((R.getD i []).map V.str)) ?_ ?_⟩
  · intro m hm H13 S13 k1 k0 hk1
    have L13 := L.same S13
    have ho13 := S13 _ _ ho12
    have em : (0 : Int) + (m : Nat) = ((m : Nat) : Int) := by omega
    wp_walk using ho13, em
    have hm2 : m < 3 := hm
    refine ⟨o, p, qs, R, _, rfl, L13.D, .inr (.inr (.inl ⟨_, rfl⟩)), fun h => absurd ⟨_, rfl, by omega, by omega⟩ h, fun jj ej hjj a r hr ha => ?_⟩
    cases ej
    exact hk1 a _ (same_new ha) ha (by rw [upd_same, getD_at hr])
  intro t1 H13 q1 ht1 S13 ht13 _ _ _ pr1
  have pr1' : Paired (fun z r => H13 z = some (.tup (r.map V.str))) q1 R := paired_range (f := fun i => R.getD i []) (by rw [ql]; exact pr1) fun m y hy => getD_at hy
  have L := L.same S13
  have hdu13 := S13 _ _ hdu12
  have ho13 := S13 _ _ ho12
  have rows13 := rows_strs L.rows
  try (wide_line using [upd_same])
  refine lcL_new (.inl (.inl L.hq)) rows13 (by rw [paired_len rows13, ql]; decide) (fun r => .tup (r.map V.str)) ?_ ?_
  · rintro m v r hv hr ⟨b, rfl, hb⟩ H14 S14 k1 k0 hk1
    have hb14 := S14 _ _ hb
    wp_walk using hb14
    exact fun l hl => hk1 l _ (same_new hl) hl upd_same
  intro t2 H14 q2 ht2 S14 ht14 _ _ _ pr2
  have L := L.same S14
  have pr1'' := paired_mem (G := fun z (r : List Str) => H14 z = some (.tup (r.map V.str))) pr1' fun _ _ _ f => S14 _ _ f
  have ht13' := S14 _ _ ht13
  refine ⟨_, _, .list (R.map fun r => PyData.tuple (r.map .str)), rfl, Da.lst ht13' (by rw [List.length_map, paired_len pr1', ql]; decide) (da_tuples pr1'' L.D.ok), Da.lst ht14 (by rw [List.length_map, paired_len pr2, ql]; decide) (da_tuples pr2 L.D.ok), fun H15 S15 => ?_⟩
  have L := L.same S15
  have hdu15 := S15 _ _ (S14 _ _ hdu13)
  have ho15 := S15 _ _ (S14 _ _ ho13)
  clear pr1 pr2 pr1' pr1'' ht13 ht14 ht13' rows13 S13 S14 S15 S912 S9x S12 S10 S9 ht1 ht2 ho13 ho12 ho9 ho8 hdu13 hdu12 hdu10 hdu9 hdu
  generalize hD : H15 = H16 at L hdu15 ho15
  clear hD
  try (wide_line using [upd_same])
  refine seq_to (fun σ H' => ∃ ms, σ = [some (V.ref a), some (.ref d), some (.ref o), some (.ref q), some dv, some lv, some (.bl sp), some (.int (0 + (i : Int))), some (.int kind), o9, o10, o11, o12, some (.ref du), none, none, none, none] ∧ LW A H' d q o p qs ms xs R dv lv done last ∧ H' du = some (.lst (F.map V.str)) ∧ ∃ dx, H' o = some (.ins A.Disks dx (fl_Disks (.ref p)))) ?_ ?_
  · intro nx5 hx5
    have go : ∀ H', Same H16 H' → nx5 [some (V.ref a), some (.ref d), some (.ref o), some (.ref q), some dv, some lv, some (.bl sp), some (.int (0 + (i : Int))), some (.int kind), o9, o10, o11, o12, some (.ref du), none, none, none, none] H' := fun H' s => hx5 _ _ ⟨ms, rfl, L.same s, s _ _ hdu15, _, s _ _ ho15⟩
    have go0 := go H16 (Same.refl _)
    cases done with
    | none =>
      have := Dz.non_inv L.dn
      subst this
      wp_walk using upd_same
      exact go0
    | some D0 =>
      obtain ⟨b, rfl, nb, hb⟩ := Dz.row_inv (r := D0) L.dn
      obtain ⟨okD, lD⟩ := hDn D0 rfl
      have hg := agr_good P.n3 (P.good D0 rfl)
      rw [hF] at hg
      have duF : ∀ H', Same H16 H' → Da H' 2 (.ref du) (.list (F.map .str)) := fun H' s => da_strs (s _ _ hdu15) (by omega) okF
      cases last with
      | none =>
        have := Dz.non_inv L.la
        subst this
        have eF : F = D0 := hg.elim id fun ⟨_, _, h, _⟩ => by cases h
        wp_walk using upd_same
        refine ⟨by decide, fun p1 hp1 => ⟨by decide, fun p2 hp2 => ?_⟩⟩
        obtain ⟨m1, hp2'⟩ := upd_none hp2
        wp_walk using m1
        refine ⟨by decide, fun p3 hp3 => ?_⟩
        obtain ⟨m2, hp3'⟩ := upd_none hp3
        obtain ⟨m3, hp3''⟩ := upd_none hp3'
        have Sf := same_mut (same_mut (same_new (o := .lst [.ref b]) hp1) (o := .lst []) hp2') (o := .lst [.ref b]) hp3''
        refine notInD_da (n := 2) (duF _ Sf) (Da.lst upd_same (show 1 ≤ 100000 by decide) (.cons (da_strs (n := 0) (Sf _ _ hb) (by omega) okD) .nil)) (by decide) (by rw [eF]; simp) (go _ Sf)
      | some pl =>
        obtain ⟨l, r⟩ := pl
        obtain ⟨c, cs, rfl, nc, hc, _, pc⟩ := Dz.tuple_inv (ds := [.str l, .int r]) L.la
        cases pc with
        | cons h1 t => cases t with
          | cons h2 t =>
            cases t
            obtain ⟨rfl, okl⟩ := Dz.str_inv h1
            have := Dz.int_inv h2
            subst this
            wp_walk using hc
            refine ⟨by decide, fun p1 hp1 => ?_⟩
            have nc1 : c ≠ p1 := ne_of_none hc hp1
            have nb1 : b ≠ p1 := ne_of_none hb hp1
            wp_walk using hc, nc1
            refine ite2 (fun hr0 => ⟨by decide, fun p2 hp2 => ?_⟩) fun hr0 => ⟨by decide, fun p2 hp2 => ?_⟩
            · obtain ⟨m1, hp2'⟩ := upd_none hp2
              have nb2 : b ≠ p2 := ne_of_none hb hp2'
              wp_walk using nb1, nb2, hb
              refine ⟨by rw [List.length_map, sizeLine_eq]; omega, fun p3 hp3 => ⟨by decide, fun p4 hp4 => ?_⟩⟩
              simp only [upd_fresh] at hp3 hp4
              obtain ⟨m2, m3, hp3'⟩ := hp3
              obtain ⟨m4, m5, m6, hp4'⟩ := hp4
              wp_walk using m6, m3, m1
              refine ⟨by decide, fun p5 hp5 => ?_⟩
              simp only [upd_fresh] at hp5
              obtain ⟨m7, m8, m9, m10, hp5'⟩ := hp5
              have Sf := same_mut (same_mut (same_mut (same_mut (same_new (o := .lst [.ref b]) hp1) (o := .lst [.str l]) hp2') (o := .lst (D0.map V.str ++ [.str l])) hp3') (o := .lst [.ref p3]) hp4') (o := .lst [.ref b, .ref p3]) hp5'
              have e3 : upd (upd (upd (upd (upd H16 p1 (.lst [.ref b])) p2 (.lst [.str l])) p3 (.lst (D0.map V.str ++ [.str l]))) p4 (.lst [.ref p3])) p5 (.lst [.ref b, .ref p3]) p3 = some (.lst ((D0 ++ [l]).map V.str)) := by
                rw [upd_ne m8, upd_ne m4, upd_same]; simp
              have okl2 : OkS (D0 ++ [l]) := fun y hy => by
                rcases List.mem_append.mp hy with hy | hy
                · exact okD y hy
                · simp at hy; subst hy; exact okl
              refine notInD_da (n := 2) (duF _ Sf) (Da.lst upd_same (show 2 ≤ 100000 by decide) (.cons (da_strs (n := 0) (Sf _ _ hb) (by omega) okD) (.cons (da_strs (n := 0) e3 (by rw [List.length_append, List.length_singleton]; omega) okl2) .nil))) (by decide) ?_ (go _ Sf)
              rcases hg with h | ⟨l', r', e, hr', h⟩
              · rw [h]; simp
              · cases e
                rw [h]; simp
            · have eF : F = D0 := hg.elim id fun ⟨l', r', e, hr', _⟩ => by cases e; omega
              obtain ⟨m1, hp2'⟩ := upd_none hp2
              wp_walk using m1
              refine ⟨by decide, fun p3 hp3 => ?_⟩
              obtain ⟨m2, hp3'⟩ := upd_none hp3
              obtain ⟨m3, hp3''⟩ := upd_none hp3'
              have Sf := same_mut (same_mut (same_new (o := .lst [.ref b]) hp1) (o := .lst []) hp2') (o := .lst [.ref b]) hp3''
              refine notInD_da (n := 2) (duF _ Sf) (Da.lst upd_same (show 1 ≤ 100000 by decide) (.cons (da_strs (n := 0) (Sf _ _ hb) (by omega) okD) .nil)) (by decide) (by rw [eF]; simp) (go _ Sf)
  rintro σ H17 ⟨ms, rfl, L, hdu17, dx17, ho17⟩
  wide_line using [upd_same]
  refine ite2 (fun _ => ?_) fun _ => hN _ _ ⟨q, p, qs, ms, xs, R, dv, lv, done, last, sp, _, _, _, _, _, _, _, rfl, L, P, hR, hDn⟩
  refine seq1 ?_
  wide_line using [ho17]
  refine ⟨o, p, qs, R, rfl, L.D, fun a2 p' qs' H18 k18 fr18 ha18 D18 => ?_⟩
  rw [hF] at ha18 D18
  have ndu : du ≠ o := fun e => by rw [e, ho17] at hdu17; cases hdu17
  have hdu18 := k18 _ _ hdu17 (by simp [ndu])
  wide_line using [hdu18]
  intro t3 ht3
  have S19 := same_new (o := .tup (F.map V.str)) ht3
  refine ⟨_, _, .tuple (F.map .str), rfl, dat_strs (S19 _ _ ha18) (by omega) okF, dat_strs upd_same (by omega) okF, fun H20 S20 => ?_⟩
  have S1820 := S19.trans S20
  have hdu20 := S1820 _ _ hdu18
  clear S19 S20
  try (wide_line using [upd_same])
  refine ⟨⟨by decide, by decide⟩, lcR_new (n := (3 : Int).toNat) (by decide) (fun _ => .lst (F.map V.str)) ?_ ?_⟩
  · intro m hm H21 S21 k1 k0 hk1
    have hdu21 := S21 _ _ hdu20
    wp_walk using hdu21
    exact fun l hl => hk1 l _ (same_new hl) hl upd_same
  intro q' H21 rs hq' S21 hq21 nd21 nq21 fr21 pr21
  have hdu21 := S21 _ _ hdu20
  wide_line using [hdu21]
  intro dn hdn
  refine ⟨by decide, fun tp htp => ?_⟩
  obtain ⟨m1, htp'⟩ := upd_none htp
  have S2f : Same H21 (upd (upd H21 dn (.lst (F.map V.str))) tp (.tup [.ref q', .ref dn, .non, .bl false])) := same_mut (same_new hdn) htp'
  have S18f := (S1820.trans S21).trans S2f
  have e3 : Paired (fun z (r : List Str) => H21 z = some (.lst (r.map V.str))) rs [F, F, F] := paired_range (f := fun _ => F) pr21 fun j y hy => by
    match j, hy with
    | 0, hy => simpa using hy
    | 1, hy => simpa using hy
    | 2, hy => simpa using hy
    | j + 3, hy => simp at hy
  have e4 := paired_mem (G := fun z (r : List Str) => upd (upd H21 dn (.lst (F.map V.str))) tp (.tup [.ref q', .ref dn, .non, .bl false]) z = some (.lst (r.map V.str))) e3 fun _ _ _ f => S2f _ _ f
  have L' := L.mend (F := F) (dn := dn) k18 (fun y hy => fr18 y (List.mem_cons_of_mem _ hy)) D18 S18f (S1820.free hq') (S2f _ _ hq21) (fun z hz => S1820.free (fr21 z hz)) nq21 e4 (S1820.free (S21.free hdn)) (by rw [upd_ne m1, upd_same]) (fun e => by rw [e, hq21] at hdn; cases hdn) okF lF
  exact hN _ _ ⟨q', p', qs', ms, rs.map V.ref, [F, F, F], .ref dn, .non, some F, none, false, _, _, _, _, _, _, _, rfl, L', Pl.mend, by simp; exact mF, fun D e => by cases e; exact ⟨okF, mF⟩⟩
def top (i : Nat) : Stmt := PySem.Challenge.pw_sametrace_k77_whole_three_disks.main.body.getD i (.Pass ⟨0, 0, 0, 0⟩)
abbrev s_is_number : Stmt := top 8
abbrev N_is_number : List Str := ["value", "least", "most"]
theorem sc_is_number : FnScope N_is_number ["value", "least", "most"] (defScope s_is_number) := ⟨rfl, rfl, rfl, by decide +kernel, rfl, by decide +kernel, by decide +kernel⟩
abbrev s_is_line : Stmt := top 11
abbrev N_is_line : List Str := ["value"]
theorem sc_is_line : FnScope N_is_line ["value"] (defScope s_is_line) := ⟨rfl, rfl, rfl, by decide +kernel, rfl, by decide +kernel, by decide +kernel⟩
abbrev s_Disks__init_ : Stmt := inClass (top 12) 0
abbrev N_Disks__init_ : List Str := ["self"]
theorem sc_Disks__init_ : FnScope N_Disks__init_ ["self"] (defScope s_Disks__init_) := ⟨rfl, rfl, rfl, by decide +kernel, rfl, by decide +kernel, by decide +kernel⟩
abbrev s_Disks_lines : Stmt := inClass (top 12) 1
abbrev N_Disks_lines : List Str := ["self", "disk"]
theorem sc_Disks_lines : FnScope N_Disks_lines ["self", "disk"] (defScope s_Disks_lines) := ⟨rfl, rfl, rfl, by decide +kernel, rfl, by decide +kernel, by decide +kernel⟩
abbrev s_Disks_write : Stmt := inClass (top 12) 2
abbrev N_Disks_write : List Str := ["self", "line", "reach", "disk"]
theorem sc_Disks_write : FnScope N_Disks_write ["self", "line", "reach"] (defScope s_Disks_write) := ⟨rfl, rfl, rfl, by decide +kernel, rfl, by decide +kernel, by decide +kernel⟩
abbrev s_Disks_spoil : Stmt := inClass (top 12) 3
abbrev N_Disks_spoil : List Str := ["self", "disk", "lines"]
theorem sc_Disks_spoil : FnScope N_Disks_spoil ["self", "disk", "lines"] (defScope s_Disks_spoil) := ⟨rfl, rfl, rfl, by decide +kernel, rfl, by decide +kernel, by decide +kernel⟩
abbrev s_Disks_agreed : Stmt := inClass (top 12) 4
abbrev N_Disks_agreed : List Str := ["self", "found", "told", "twice", "rows", "line"]
theorem sc_Disks_agreed : FnScope N_Disks_agreed ["self"] (defScope s_Disks_agreed) := ⟨rfl, rfl, rfl, by decide +kernel, rfl, by decide +kernel, by decide +kernel⟩
abbrev s_Disks_mend : Stmt := inClass (top 12) 5
abbrev N_Disks_mend : List Str := ["self", "found", "_"]
theorem sc_Disks_mend : FnScope N_Disks_mend ["self"] (defScope s_Disks_mend) := ⟨rfl, rfl, rfl, by decide +kernel, rfl, by decide +kernel, by decide +kernel⟩
abbrev s_law_draws : Stmt := top 14
abbrev N_law_draws : List Str := ["script", "draws", "cell", "number", "first", "k", "seed"]
theorem sc_law_draws : FnScope N_law_draws ["script"] (defScope s_law_draws) := ⟨rfl, rfl, rfl, by decide +kernel, rfl, by decide +kernel, by decide +kernel⟩
abbrev s_law_take : Stmt := top 15
abbrev N_law_take : List Str := ["draws", "limit"]
theorem sc_law_take : FnScope N_law_take ["draws", "limit"] (defScope s_law_take) := ⟨rfl, rfl, rfl, by decide +kernel, rfl, by decide +kernel, by decide +kernel⟩
abbrev s_law_alike : Stmt := top 16
abbrev N_law_alike : List Str := ["found", "due", "k"]
theorem sc_law_alike : FnScope N_law_alike ["found", "due"] (defScope s_law_alike) := ⟨rfl, rfl, rfl, by decide +kernel, rfl, by decide +kernel, by decide +kernel⟩
abbrev s_law_word : Stmt := top 17
abbrev N_law_word : List Str := ["e", "kinds", "kind"]
theorem sc_law_word : FnScope N_law_word ["e"] (defScope s_law_word) := ⟨rfl, rfl, rfl, by decide +kernel, rfl, by decide +kernel, by decide +kernel⟩
abbrev s_law_tried : Stmt := top 18
abbrev N_law_tried : List Str := ["disks", "which", "one", "other", "e"]
theorem sc_law_tried : FnScope N_law_tried ["disks", "which", "one", "other"] (defScope s_law_tried) := ⟨rfl, rfl, rfl, by decide +kernel, rfl, by decide +kernel, by decide +kernel⟩
abbrev s_law_agreed : Stmt := top 19
abbrev N_law_agreed : List Str := ["rows", "found", "going", "told", "twice", "row", "k"]
theorem sc_law_agreed : FnScope N_law_agreed ["rows"] (defScope s_law_agreed) := ⟨rfl, rfl, rfl, by decide +kernel, rfl, by decide +kernel, by decide +kernel⟩
abbrev s_law_spoilt : Stmt := top 20
abbrev N_law_spoilt : List Str := ["draws", "lines", "k", "kind"]
theorem sc_law_spoilt : FnScope N_law_spoilt ["draws", "lines"] (defScope s_law_spoilt) := ⟨rfl, rfl, rfl, by decide +kernel, rfl, by decide +kernel, by decide +kernel⟩
abbrev s_law : Stmt := top 21
abbrev N_law : List Str := ["script", "draws", "disks", "rows", "done_all", "last", "spoilt", "turn", "kind", "line", "reach", "disk", "lines", "due", "words", "k", "one", "row"]
theorem sc_law : FnScope N_law ["script"] (defScope s_law) := ⟨rfl, rfl, rfl, by decide +kernel, rfl, by decide +kernel, by decide +kernel⟩
structure Txt (K : PySem.W.Frag) (mg : Str → Option Value) (A : Ads) where
  is_number : FnAt K mg "is_number" s_is_number ["value", "least", "most"]
  is_line : FnAt K mg "is_line" s_is_line ["value"]
  Disks__init_ : InAt K mg A.Disks "Disks" "Disks.__init__" s_Disks__init_ ["self"]
  Disks_lines : MeAt K A.Disks "lines" "Disks.lines" s_Disks_lines ["self", "disk"]
  Disks_write : MeAt K A.Disks "write" "Disks.write" s_Disks_write ["self", "line", "reach"]
  Disks_spoil : MeAt K A.Disks "spoil" "Disks.spoil" s_Disks_spoil ["self", "disk", "lines"]
  Disks_agreed : MeAt K A.Disks "agreed" "Disks.agreed" s_Disks_agreed ["self"]
  Disks_mend : MeAt K A.Disks "mend" "Disks.mend" s_Disks_mend ["self"]
  law_draws : FnAt K mg "_law_draws" s_law_draws ["script"]
  law_take : FnAt K mg "_law_take" s_law_take ["draws", "limit"]
  law_alike : FnAt K mg "_law_alike" s_law_alike ["found", "due"]
  law_word : FnAt K mg "_law_word" s_law_word ["e"]
  law_tried : FnAt K mg "_law_tried" s_law_tried ["disks", "which", "one", "other"]
  law_agreed : FnAt K mg "_law_agreed" s_law_agreed ["rows"]
  law_spoilt : FnAt K mg "_law_spoilt" s_law_spoilt ["draws", "lines"]
  law : FnAt K mg "law" s_law ["script"]
  n_Disks_rows : NoAttr K A.Disks "rows"
  x_TraceError : GlAt K mg "TraceError" A.TraceError
  x_OutOfRange : ExAt K mg "OutOfRange" A.OutOfRange
  x_Malformed : ExAt K mg "Malformed" A.Malformed
  x_NotThere : GlAt K mg "NotThere" A.NotThere
  x_Refused : GlAt K mg "Refused" A.Refused
  x_TooMuch : GlAt K mg "TooMuch" A.TooMuch
  e_OutOfRange_TraceError : PySem.W.exmOne K (.ref A.OutOfRange) (.ref A.TraceError) = some true
  e_Malformed_TraceError : PySem.W.exmOne K (.ref A.Malformed) (.ref A.TraceError) = some true
  i_OutOfRange_OutOfRange : PySem.W.kitOne K (.ref A.OutOfRange) (.ref A.OutOfRange) = some true
  i_OutOfRange_Malformed : PySem.W.kitOne K (.ref A.OutOfRange) (.ref A.Malformed) = some false
  i_OutOfRange_NotThere : PySem.W.kitOne K (.ref A.OutOfRange) (.ref A.NotThere) = some false
  i_OutOfRange_Refused : PySem.W.kitOne K (.ref A.OutOfRange) (.ref A.Refused) = some false
  i_OutOfRange_TooMuch : PySem.W.kitOne K (.ref A.OutOfRange) (.ref A.TooMuch) = some false
  i_Malformed_OutOfRange : PySem.W.kitOne K (.ref A.Malformed) (.ref A.OutOfRange) = some false
  i_Malformed_Malformed : PySem.W.kitOne K (.ref A.Malformed) (.ref A.Malformed) = some true
  i_Malformed_NotThere : PySem.W.kitOne K (.ref A.Malformed) (.ref A.NotThere) = some false
  i_Malformed_Refused : PySem.W.kitOne K (.ref A.Malformed) (.ref A.Refused) = some false
  i_Malformed_TooMuch : PySem.W.kitOne K (.ref A.Malformed) (.ref A.TooMuch) = some false
  b_len : mg "len" = none
  b_abs : mg "abs" = none
  b_int : mg "int" = none
  b_list : mg "list" = none
  b_reversed : mg "reversed" = none
  b_isinstance : mg "isinstance" = none
  b_range : mg "range" = none
  b_bool : mg "bool" = none
  b_str : mg "str" = none
  b_tuple : mg "tuple" = none
  c_DISKS : CoAt K mg "DISKS" (.int 3)
section
variable {P : Program} {w : World} {K : PySem.W.Frag} {mg : Str → Option Value} {base : Heap} {A : Ads}
theorem ok_is_number (T : Txt K mg A)  
    (len : ∀ vs H Q E, sp_is_number vs H Q E → vs.length = 3) (rd : ∀ vs H Q E, sp_is_number vs H Q E → t_is_number K A E  { nx := fun _ H' => Q .non H', rt := Q } (L2.start N_is_number vs) H) :
    FnOk P w K mg base CX0 1 T.is_number.a T.is_number.fd ["value", "least", "most"] sp_is_number := by
  refine T.is_number.F.ok sc_is_number len (fun cdv AA outer s H vs Q E hr h => ⟨t_is_number K A E , ?_, rd vs H Q E h⟩)
  have hr : Room 0 _ := hr
  have hu := hr
  have nd := sc_is_number.nd
  exact (pss_one (ps_ret (d_and (pe_callB d_isi (by rfl) T.b_isinstance (by decide +kernel) (pa_cons (dv 0) (pa_cons (pe_bltn (by rfl) T.b_int boot_int rfl) pa_nil))) (d_and (d_not (pe_callB d_isi (by rfl) T.b_isinstance (by decide +kernel) (pa_cons (dv 0) (pa_cons (pe_bltn (by rfl) T.b_bool boot_bool rfl) pa_nil)))) (pe_one (d_chain d_le d_le (dv 1) (dv 0) (dv 2)))))))
theorem ok_is_line (T : Txt K mg A)  
    (len : ∀ vs H Q E, sp_is_line vs H Q E → vs.length = 1) (rd : ∀ vs H Q E, sp_is_line vs H Q E → t_is_line K A E  { nx := fun _ H' => Q .non H', rt := Q } (L2.start N_is_line vs) H) :
    FnOk P w K mg base CX0 1 T.is_line.a T.is_line.fd ["value"] sp_is_line := by
  refine T.is_line.F.ok sc_is_line len (fun cdv AA outer s H vs Q E hr h => ⟨t_is_line K A E , ?_, rd vs H Q E h⟩)
  have hr : Room 0 _ := hr
  have hu := hr
  have nd := sc_is_line.nd
  exact (pss_one (ps_ret (d_and (pe_callB d_isi (by rfl) T.b_isinstance (by decide +kernel) (pa_cons (dv 0) (pa_cons (pe_bltn (by rfl) T.b_str boot_str rfl) pa_nil))) (pe_one (pe_cmpR d_notin pe_str (dv 0) (by rfl))))))
theorem ok_Disks__init_ (T : Txt K mg A)  
    (len : ∀ vs H Q E, (sp_Disks__init_ A) vs H Q E → vs.length = 1) (rd : ∀ vs H Q E, (sp_Disks__init_ A) vs H Q E → t_Disks__init_ K A E  { nx := fun _ H' => Q .non H', rt := Q } (L2.start N_Disks__init_ vs) H) :
    FnOk P w K mg base CX0 1 T.Disks__init_.a T.Disks__init_.fd ["self"] (sp_Disks__init_ A) := by
  refine T.Disks__init_.F.ok sc_Disks__init_ len (fun cdv AA outer s H vs Q E hr h => ⟨t_Disks__init_ K A E , ?_, rd vs H Q E h⟩)
  have hr : Room 0 _ := hr
  have hu := hr
  have nd := sc_Disks__init_.nd
  exact (pss_one (d_sfld T.Disks__init_.cl T.n_Disks_rows (dv 0) (pe_lst (pa_cons (pe_lst pa_nil) (pa_cons (pe_lst pa_nil) (pa_cons (pe_lst pa_nil) pa_nil))))))
theorem ok_Disks_lines (T : Txt K mg A)  (G_is_number : FnOk P w K mg base CX0 1 T.is_number.a T.is_number.fd ["value", "least", "most"] sp_is_number)
    (len : ∀ vs H Q E, (sp_Disks_lines A) vs H Q E → vs.length = 2) (rd : ∀ vs H Q E, (sp_Disks_lines A) vs H Q E → t_Disks_lines K A E  { nx := fun _ H' => Q .non H', rt := Q } (L2.start N_Disks_lines vs) H) :
    FnOk P w K mg base (L2N.CX P w) 2 T.Disks_lines.a T.Disks_lines.fd ["self", "disk"] (sp_Disks_lines A) := by
  refine okN T.Disks_lines.F sc_Disks_lines len (fun cdv AA outer s H vs Q E hr h => ⟨t_Disks_lines K A E , ?_, rd vs H Q E h⟩)
  have hr : Room 1 _ := hr
  have hu := hr
  have nd := sc_Disks_lines.nd
  exact (pss_cons (ps_if (pt_not (dt_tru (c_call G_is_number (hr.mono (by decide)) T.is_number.g T.is_number.F.kp T.is_number.b (fun _ => at0) (pa_cons (dv 1) (pa_cons pe_int (pa_cons (pe_op d_sub (let ⟨_, hm, hr⟩ := T.c_DISKS.ex; pe_glob (by rfl) hm hr) pe_int) pa_nil))))))
  (pss_one (L2N.ps_raise rfl (tkN rfl rfl rfl rfl) (L2N.pmk_own PySem.F.excBase_ValueError T.x_OutOfRange.ex T.x_OutOfRange.g T.x_OutOfRange.k (raises_own T.x_OutOfRange.b T.x_OutOfRange.t) (by rfl))))
  pss_nil)
  (pss_one (ps_ret (pe_callTy d_tupleOf (by rfl) T.b_tuple (by decide +kernel) (pa_cons (pe_ix d_ix (d_fld T.Disks__init_.cl T.n_Disks_rows (dv 0)) (dv 1) (fun _ _ => rfl)) pa_nil)))))
theorem ok_Disks_write (T : Txt K mg A)  (G_is_line : FnOk P w K mg base CX0 1 T.is_line.a T.is_line.fd ["value"] sp_is_line) (G_is_number : FnOk P w K mg base CX0 1 T.is_number.a T.is_number.fd ["value", "least", "most"] sp_is_number)
    (len : ∀ vs H Q E, (sp_Disks_write A) vs H Q E → vs.length = 3) (rd : ∀ vs H Q E, (sp_Disks_write A) vs H Q E → t_Disks_write K A E  { nx := fun _ H' => Q .non H', rt := Q } (L2.start N_Disks_write vs) H) :
    FnOk P w K mg base (L2N.CX P w) 2 T.Disks_write.a T.Disks_write.fd ["self", "line", "reach"] (sp_Disks_write A) := by
  refine okN T.Disks_write.F sc_Disks_write len (fun cdv AA outer s H vs Q E hr h => ⟨t_Disks_write K A E , ?_, rd vs H Q E h⟩)
  have hr : Room 1 _ := hr
  have hu := hr
  have nd := sc_Disks_write.nd
  exact (pss_cons (ps_if (pt_not (dt_tru (c_call G_is_number (hr.mono (by decide)) T.is_number.g T.is_number.F.kp T.is_number.b (fun _ => at0) (pa_cons (dv 2) (pa_cons pe_int (pa_cons (let ⟨_, hm, hr⟩ := T.c_DISKS.ex; pe_glob (by rfl) hm hr) pa_nil))))))
  (pss_one (L2N.ps_raise rfl (tkN rfl rfl rfl rfl) (L2N.pmk_own PySem.F.excBase_ValueError T.x_OutOfRange.ex T.x_OutOfRange.g T.x_OutOfRange.k (raises_own T.x_OutOfRange.b T.x_OutOfRange.t) (by rfl))))
  pss_nil)
  (pss_cons (ps_if (pt_not (dt_tru (c_call G_is_line (hr.mono (by decide)) T.is_line.g T.is_line.F.kp T.is_line.b (fun _ => at0) (pa_cons (dv 1) pa_nil))))
  (pss_one (L2N.ps_raise rfl (tkN rfl rfl rfl rfl) (L2N.pmk_own PySem.F.excBase_ValueError T.x_Malformed.ex T.x_Malformed.g T.x_Malformed.k (raises_own T.x_Malformed.b T.x_Malformed.t) (by rfl))))
  pss_nil)
  (pss_one (d_forR1 (L2.passes_of rfl) rfl T.b_range (pa_cons (dv 2) pa_nil) (pg_name (i := 3) nd rfl (Or.inl rfl))
  (pss_one (ps_expr (d_bm PySem.F.plainAttrs_list PySem.F.slot_list_append PySem.F.type_list_append m_append (pe_ix d_ix (d_fld T.Disks__init_.cl T.n_Disks_rows (dv 0)) (dv 3) (fun _ _ => rfl)) (pa_cons (dv 1) pa_nil))))))))
theorem ok_Disks_spoil (T : Txt K mg A)  (G_is_number : FnOk P w K mg base CX0 1 T.is_number.a T.is_number.fd ["value", "least", "most"] sp_is_number)
    (len : ∀ vs H Q E, (sp_Disks_spoil A) vs H Q E → vs.length = 3) (rd : ∀ vs H Q E, (sp_Disks_spoil A) vs H Q E → t_Disks_spoil K A E  { nx := fun _ H' => Q .non H', rt := Q } (L2.start N_Disks_spoil vs) H) :
    FnOk P w K mg base (L2N.CX P w) 2 T.Disks_spoil.a T.Disks_spoil.fd ["self", "disk", "lines"] (sp_Disks_spoil A) := by
  refine okN T.Disks_spoil.F sc_Disks_spoil len (fun cdv AA outer s H vs Q E hr h => ⟨t_Disks_spoil K A E , ?_, rd vs H Q E h⟩)
  have hr : Room 1 _ := hr
  have hu := hr
  have nd := sc_Disks_spoil.nd
  exact (pss_cons (ps_if (pt_not (dt_tru (c_call G_is_number (hr.mono (by decide)) T.is_number.g T.is_number.F.kp T.is_number.b (fun _ => at0) (pa_cons (dv 1) (pa_cons pe_int (pa_cons (pe_op d_sub (let ⟨_, hm, hr⟩ := T.c_DISKS.ex; pe_glob (by rfl) hm hr) pe_int) pa_nil))))))
  (pss_one (L2N.ps_raise rfl (tkN rfl rfl rfl rfl) (L2N.pmk_own PySem.F.excBase_ValueError T.x_OutOfRange.ex T.x_OutOfRange.g T.x_OutOfRange.k (raises_own T.x_OutOfRange.b T.x_OutOfRange.t) (by rfl))))
  pss_nil)
  (pss_one (ps_asg (pe_callTy d_listOf (by rfl) T.b_list (by decide +kernel) (pa_cons (dv 2) pa_nil)) (pg_sub (d_fld T.Disks__init_.cl T.n_Disks_rows (dv 0)) (dv 1) s_setL))))
theorem ok_Disks_agreed (T : Txt K mg A)  
    (len : ∀ vs H Q E, (sp_Disks_agreed A) vs H Q E → vs.length = 1) (rd : ∀ vs H Q E, (sp_Disks_agreed A) vs H Q E → t_Disks_agreed K A E  { nx := fun _ H' => Q .non H', rt := Q } (L2.start N_Disks_agreed vs) H) :
    FnOk P w K mg base CX0 1 T.Disks_agreed.a T.Disks_agreed.fd ["self"] (sp_Disks_agreed A) := by
  refine T.Disks_agreed.F.ok sc_Disks_agreed len (fun cdv AA outer s H vs Q E hr h => ⟨t_Disks_agreed K A E , ?_, rd vs H Q E h⟩)
  have hr : Room 0 _ := hr
  have hu := hr
  have nd := sc_Disks_agreed.nd
  exact (pss_cons (ps_set (i := 1) nd rfl (Or.inr rfl) (pe_lst pa_nil))
  (pss_one (ps_while PassesOwn.never (dt_tru pe_bl)
  (pss_cons (ps_set (i := 2) nd rfl (Or.inr rfl) (d_lcL (own := [("rows", 4)]) rfl nd (d_fld T.Disks__init_.cl T.n_Disks_rows (dv 0)) (blkOk_by (N := N_Disks_agreed) (sc := (defScope s_Disks_agreed)) (by decide +kernel)) (fun _ _ _ _ _ => (pg_name (i := 4) nd rfl (Or.inl rfl))) (fun _ _ _ _ _ => pts_one (PW.pt (pw_and (dt_cmp d_gt (pe_callB d_len (by rfl) T.b_len (by decide +kernel) (pa_cons (dv 4) pa_nil)) (pe_callB d_len (by rfl) T.b_len (by decide +kernel) (pa_cons (dv 1) pa_nil)) (nomark _)) (pw_and1 (dt_cmp (d_eqD hu) (pe_slice d_sl (dv 4) po_none (po_d (pe_callB d_len (by rfl) T.b_len (by decide +kernel) (pa_cons (dv 1) pa_nil)))) (dv 1) (nomark _)))))) (fun _ _ _ _ _ => (pe_ix d_ix (dv 4) (pe_callB d_len (by rfl) T.b_len (by decide +kernel) (pa_cons (dv 1) pa_nil)) (fun _ _ => rfl)))))
  (pss_cons (d_setL (i := 3) (own := [("line", 5)]) rfl nd rfl rfl (sw_true rfl rfl rfl (by decide +kernel)) (dv 2) (blkOk_by (N := N_Disks_agreed) (sc := (defScope s_Disks_agreed)) (by decide +kernel)) (fun _ _ _ _ _ => (pg_name (i := 5) nd rfl (Or.inl rfl))) (fun _ _ _ _ _ => pts_one (dt_cmp d_gt (d_bm PySem.F.plainAttrs_list PySem.F.slot_list_count PySem.F.type_list_count m_count (dv 2) (pa_cons (dv 5) pa_nil)) pe_int (nomark _))) (fun _ _ _ _ _ => (dv 5)))
  (pss_cons (ps_if (dt_cmp d_eq (pe_callB d_len (by rfl) T.b_len (by decide +kernel) (pa_cons (dv 3) pa_nil)) pe_int (nomark _))
  (pss_one (ps_ret (pe_callTy d_tupleOf (by rfl) T.b_tuple (by decide +kernel) (pa_cons (dv 1) pa_nil))))
  pss_nil)
  (pss_one (ps_expr (d_bm PySem.F.plainAttrs_list PySem.F.slot_list_append PySem.F.type_list_append m_append (dv 1) (pa_cons (pe_ix d_ix (dv 3) pe_int (fun _ _ => rfl)) pa_nil))))))))))
theorem ok_Disks_mend (T : Txt K mg A)  (G_Disks_agreed : FnOk P w K mg base CX0 1 T.Disks_agreed.a T.Disks_agreed.fd ["self"] (sp_Disks_agreed A))
    (len : ∀ vs H Q E, (sp_Disks_mend A) vs H Q E → vs.length = 1) (rd : ∀ vs H Q E, (sp_Disks_mend A) vs H Q E → t_Disks_mend K A E  { nx := fun _ H' => Q .non H', rt := Q } (L2.start N_Disks_mend vs) H) :
    FnOk P w K mg base CX0 2 T.Disks_mend.a T.Disks_mend.fd ["self"] (sp_Disks_mend A) := by
  refine T.Disks_mend.F.ok sc_Disks_mend len (fun cdv AA outer s H vs Q E hr h => ⟨t_Disks_mend K A E , ?_, rd vs H Q E h⟩)
  have hr : Room 1 _ := hr
  have hu := hr
  have nd := sc_Disks_mend.nd
  exact (pss_cons (ps_set (i := 1) nd rfl (Or.inr rfl) (d_meth0 (dv 0) T.Disks__init_.cl T.Disks_agreed.m G_Disks_agreed (hr.mono (by decide)) T.Disks_agreed.b (fun _ => at0)))
  (pss_cons (d_sfld T.Disks__init_.cl T.n_Disks_rows (dv 0) (d_lcR1 (own := [("_", 2)]) rfl nd T.b_range (pa_cons (let ⟨_, hm, hr⟩ := T.c_DISKS.ex; pe_glob (by rfl) hm hr) pa_nil) (blkOk_by (N := N_Disks_mend) (sc := (defScope s_Disks_mend)) (by decide +kernel)) (fun _ _ _ _ _ => (pg_name (i := 2) nd rfl (Or.inl rfl))) (fun _ _ _ _ _ => pts_nil) (fun _ _ _ _ _ => (pe_callTy d_listOf (by rfl) T.b_list (by decide +kernel) (pa_cons (dv 1) pa_nil)))))
  (pss_one (ps_ret (dv 1)))))
theorem ok_law_draws (T : Txt K mg A)  
    (len : ∀ vs H Q E, (sp_law_draws K) vs H Q E → vs.length = 1) (rd : ∀ vs H Q E, (sp_law_draws K) vs H Q E → t_law_draws K A E  { nx := fun _ H' => Q .non H', rt := Q } (L2.start N_law_draws vs) H) :
    FnOk P w K mg base CX0 1 T.law_draws.a T.law_draws.fd ["script"] (sp_law_draws K) := by
  refine T.law_draws.F.ok sc_law_draws len (fun cdv AA outer s H vs Q E hr h => ⟨t_law_draws K A E , ?_, rd vs H Q E h⟩)
  have hr : Room 0 _ := hr
  have hu := hr
  have nd := sc_law_draws.nd
  exact (pss_cons (ps_set (i := 1) nd rfl (Or.inl rfl) (pe_lst pa_nil))
  (pss_cons (d_forL PassesOwn.never rfl (dv 0) (pg_name (i := 2) nd rfl (Or.inl rfl))
  (pss_cons (ps_set (i := 3) nd rfl (Or.inl rfl) (pe_callB d_abs (by rfl) T.b_abs (by decide +kernel) (pa_cons (dv 2) pa_nil)))
  (pss_cons (ps_if (dt_cmp d_lt (dv 3) (pe_op d_pow pe_int pe_int) (nomark _))
  (pss_cons (ps_set (i := 4) nd rfl (Or.inl rfl) (pe_op d_mod (pe_callTy d_int (by rfl) T.b_int (by decide +kernel) (pa_cons (pe_op d_add (pe_op d_mul (dv 3) pe_int) pe_int) pa_nil)) pe_int))
  (pss_cons (ps_expr (d_bm PySem.F.plainAttrs_list PySem.F.slot_list_append PySem.F.type_list_append m_append (dv 1) (pa_cons (pe_op d_mod (pe_callTy d_int (by rfl) T.b_int (by decide +kernel) (pa_cons (pe_op d_add (pe_op d_mul (dv 4) pe_int) (dv 3)) pa_nil)) pe_int) pa_nil)))
  (pss_cons (ps_expr (d_bm PySem.F.plainAttrs_list PySem.F.slot_list_append PySem.F.type_list_append m_append (dv 1) (pa_cons (pe_op d_mod (pe_callTy d_int (by rfl) T.b_int (by decide +kernel) (pa_cons (pe_op d_add (dv 4) (pe_op d_div (dv 3) pe_int)) pa_nil)) pe_int) pa_nil)))
  (pss_one (ps_set (i := 3) nd rfl (Or.inl rfl) pe_int)))))
  pss_nil)
  (pss_one (d_forR1 PassesOwn.never rfl T.b_range (pa_cons pe_int pa_nil) (pg_name (i := 5) nd rfl (Or.inl rfl))
  (pss_one (ps_if (dt_cmp d_gt (dv 3) pe_int (nomark _))
  (pss_cons (ps_expr (d_bm PySem.F.plainAttrs_list PySem.F.slot_list_append PySem.F.type_list_append m_append (dv 1) (pa_cons (pe_op d_mod (pe_callTy d_int (by rfl) T.b_int (by decide +kernel) (pa_cons (dv 3) pa_nil)) pe_int) pa_nil)))
  (pss_one (ps_set (i := 3) nd rfl (Or.inl rfl) (pe_op d_div (dv 3) pe_int))))
  pss_nil)))))))
  (pss_cons (ps_set (i := 6) nd rfl (Or.inl rfl) pe_int)
  (pss_cons (ps_if (dt_cmp d_gt (pe_callB u_len (by rfl) T.b_len (by decide +kernel) (pa_cons (dv 0) pa_nil)) pe_int (nomark _))
  (pss_one (ps_set (i := 6) nd rfl (Or.inl rfl) (pe_op d_add pe_int (pe_callB d_abs (by rfl) T.b_abs (by decide +kernel) (pa_cons (pe_ix ix_seq (dv 0) pe_int (fun _ _ => rfl)) pa_nil)))))
  pss_nil)
  (pss_cons (d_forR1 PassesOwn.never rfl T.b_range (pa_cons pe_int pa_nil) (pg_name (i := 5) nd rfl (Or.inl rfl))
  (pss_cons (ps_set (i := 6) nd rfl (Or.inl rfl) (pe_op d_mod (pe_callTy d_int (by rfl) T.b_int (by decide +kernel) (pa_cons (pe_op d_add (pe_op d_mul (dv 6) pe_int) pe_int) pa_nil)) pe_int))
  (pss_one (ps_expr (d_bm PySem.F.plainAttrs_list PySem.F.slot_list_append PySem.F.type_list_append m_append (dv 1) (pa_cons (pe_op d_div (dv 6) pe_int) pa_nil))))))
  (pss_one (ps_ret (pe_listRev rfl T.b_list T.b_reversed (dv 1)))))))))
theorem ok_law_take (T : Txt K mg A)  
    (len : ∀ vs H Q E, sp_law_take vs H Q E → vs.length = 2) (rd : ∀ vs H Q E, sp_law_take vs H Q E → t_law_take K A E  { nx := fun _ H' => Q .non H', rt := Q } (L2.start N_law_take vs) H) :
    FnOk P w K mg base CX0 1 T.law_take.a T.law_take.fd ["draws", "limit"] sp_law_take := by
  refine T.law_take.F.ok sc_law_take len (fun cdv AA outer s H vs Q E hr h => ⟨t_law_take K A E , ?_, rd vs H Q E h⟩)
  have hr : Room 0 _ := hr
  have hu := hr
  have nd := sc_law_take.nd
  exact (pss_cons (ps_if (dt_cmp d_eq (pe_callB d_len (by rfl) T.b_len (by decide +kernel) (pa_cons (dv 0) pa_nil)) pe_int (nomark _))
  (pss_one (ps_ret pe_int))
  pss_nil)
  (pss_one (ps_ret (pe_op d_mod (pe_callTy d_int (by rfl) T.b_int (by decide +kernel) (pa_cons (d_bm0 PySem.F.plainAttrs_list PySem.F.slot_list_pop PySem.F.type_list_pop m_pop (dv 0)) pa_nil)) (dv 1)))))
theorem ok_law_alike (T : Txt K mg A) (sq ss : Sp) (n : Nat) (G_law_alike : FnOk P w K mg base CX0 (n + 1) T.law_alike.a T.law_alike.fd ["found", "due"] sq)
    (len : ∀ vs H Q E, ss vs H Q E → vs.length = 2) (rd : ∀ vs H Q E, ss vs H Q E → t_law_alike K A E sq { nx := fun _ H' => Q .non H', rt := Q } (L2.start N_law_alike vs) H) :
    FnOk P w K mg base CX0 (n + 2) T.law_alike.a T.law_alike.fd ["found", "due"] ss := by
  refine T.law_alike.F.ok sc_law_alike len (fun cdv AA outer s H vs Q E hr h => ⟨t_law_alike K A E sq, ?_, rd vs H Q E h⟩)
  have hr : Room (n + 1) _ := hr
  have hu := hr
  have nd := sc_law_alike.nd
  exact (pss_cons (ps_if (PW.pt (pw_or (dt_tru (pe_callB d_isi (by rfl) T.b_isinstance (by decide +kernel) (pa_cons (dv 1) (pa_cons (pe_bltn (by rfl) T.b_list boot_list rfl) pa_nil)))) (pw_or1 (dt_tru (pe_callB d_isi (by rfl) T.b_isinstance (by decide +kernel) (pa_cons (dv 1) (pa_cons (pe_bltn (by rfl) T.b_tuple boot_tuple rfl) pa_nil)))))))
  (pss_cons (ps_if (PW.pt (pw_or (dt_cmp d_ne (pe_callB d_isi (by rfl) T.b_isinstance (by decide +kernel) (pa_cons (dv 0) (pa_cons (pe_bltn (by rfl) T.b_list boot_list rfl) pa_nil))) (pe_callB d_isi (by rfl) T.b_isinstance (by decide +kernel) (pa_cons (dv 1) (pa_cons (pe_bltn (by rfl) T.b_list boot_list rfl) pa_nil))) (nomark _)) (pw_or1 (dt_cmp d_ne (pe_callB d_isi (by rfl) T.b_isinstance (by decide +kernel) (pa_cons (dv 0) (pa_cons (pe_bltn (by rfl) T.b_tuple boot_tuple rfl) pa_nil))) (pe_callB d_isi (by rfl) T.b_isinstance (by decide +kernel) (pa_cons (dv 1) (pa_cons (pe_bltn (by rfl) T.b_tuple boot_tuple rfl) pa_nil))) (nomark _)))))
  (pss_one (ps_ret pe_bl))
  pss_nil)
  (pss_one (ps_ret (d_and (pe_cmpR d_eq (pe_callB d_len (by rfl) T.b_len (by decide +kernel) (pa_cons (dv 0) pa_nil)) (pe_callB d_len (by rfl) T.b_len (by decide +kernel) (pa_cons (dv 1) pa_nil)) (nomark _)) (pe_one (pe_cmpR (d_eqD hu) (d_lcR1 (own := [("k", 2)]) rfl nd T.b_range (pa_cons (pe_callB d_len (by rfl) T.b_len (by decide +kernel) (pa_cons (dv 1) pa_nil)) pa_nil) (blkOk_by (N := N_law_alike) (sc := (defScope s_law_alike)) (by decide +kernel)) (fun _ _ _ _ _ => (pg_name (i := 2) nd rfl (Or.inl rfl))) (fun _ _ _ _ _ => pts_one (pt_not (dt_tru (c_call G_law_alike (hr.mono (by omega)) T.law_alike.g T.law_alike.F.kp T.law_alike.b (fun _ => at0) (pa_cons (pe_ix d_ix (dv 0) (dv 2) (fun _ _ => rfl)) (pa_cons (pe_ix d_ix (dv 1) (dv 2) (fun _ _ => rfl)) pa_nil)))))) (fun _ _ _ _ _ => (dv 2))) (pe_lst pa_nil) (nomark _)))))))
  pss_nil)
  (pss_cons (ps_if (dt_cmp d_is (dv 1) pe_non (nomark _))
  (pss_one (ps_ret (pe_cmpR d_is (dv 0) pe_non (nomark _))))
  pss_nil)
  (pss_cons (ps_if (PW.pt (pw_or (dt_tru (pe_callB d_isi (by rfl) T.b_isinstance (by decide +kernel) (pa_cons (dv 1) (pa_cons (pe_bltn (by rfl) T.b_bool boot_bool rfl) pa_nil)))) (pw_or1 (dt_tru (pe_callB d_isi (by rfl) T.b_isinstance (by decide +kernel) (pa_cons (dv 0) (pa_cons (pe_bltn (by rfl) T.b_bool boot_bool rfl) pa_nil)))))))
  (pss_one (ps_ret (d_and (pe_callB d_isi (by rfl) T.b_isinstance (by decide +kernel) (pa_cons (dv 0) (pa_cons (pe_bltn (by rfl) T.b_bool boot_bool rfl) pa_nil))) (d_and (pe_callB d_isi (by rfl) T.b_isinstance (by decide +kernel) (pa_cons (dv 1) (pa_cons (pe_bltn (by rfl) T.b_bool boot_bool rfl) pa_nil))) (pe_one (pe_cmpR d_eq (dv 0) (dv 1) (nomark _)))))))
  pss_nil)
  (pss_cons (ps_if (dt_tru (pe_callB d_isi (by rfl) T.b_isinstance (by decide +kernel) (pa_cons (dv 1) (pa_cons (pe_bltn (by rfl) T.b_int boot_int rfl) pa_nil))))
  (pss_one (ps_ret (d_and (pe_callB d_isi (by rfl) T.b_isinstance (by decide +kernel) (pa_cons (dv 0) (pa_cons (pe_bltn (by rfl) T.b_int boot_int rfl) pa_nil))) (pe_one (pe_cmpR d_eq (dv 0) (dv 1) (nomark _))))))
  pss_nil)
  (pss_one (ps_ret (d_and (pe_callB d_isi (by rfl) T.b_isinstance (by decide +kernel) (pa_cons (dv 0) (pa_cons (pe_bltn (by rfl) T.b_str boot_str rfl) pa_nil))) (pe_one (pe_cmpR d_eq (dv 0) (dv 1) (nomark _))))))))))
theorem ok_law_word (T : Txt K mg A) (len : ∀ a c d vs H Q E, (sp_law_word K A) a c d vs H Q E → vs.length = 1)
    (hD : ∀ a c d vs H Q E, (sp_law_word K A) a c d vs H Q E → ∃ D, c = .ref D ∧ d = none ∧ ExcC K D) (rd : ∀ ax D vs H Q E, (sp_law_word K A) ax (.ref D) none vs H Q E → t_law_word K A E ax D { nx := fun _ H' => Q .non H', rt := Q } (L2.start N_law_word vs) H) :
    FnE P w K mg base 1 T.law_word.a T.law_word.fd ["e"] (sp_law_word K A) := by
  refine fnE_of T.law_word.F sc_law_word len (fun cdv AA outer s H vs Q E p c dd hot1 hzp hr h => ?_)
  obtain ⟨D, rfl, rfl, hDx⟩ := hD _ _ _ _ _ _ _ h
  obtain ⟨ax, oe⟩ := p
  refine ⟨t_law_word K A E ax D, ?_, rd ax D vs H Q E h⟩
  have hfp : ∃ vs, oe.data = .fields vs := hot1.2.elim fun v h => ⟨v, h.1⟩
  have nd := sc_law_word.nd
  have hot : L2H.HotC (L2H.cxH CX0 P w K mg base N_law_word "_law_word" (defScope s_law_word) T.law_word.a cdv AA outer s H E (ax, oe)) := ⟨(ax, oe), hot1, List.mem_cons_self⟩
  exact (pss_cons (ps_set (i := 1) nd rfl (Or.inl rfl) (pe_lst (pa_cons (pe_callB (d_isP hDx List.mem_cons_self hzp hfp) (by rfl) T.b_isinstance (by decide +kernel) (pa_cons (dv 0) (pa_cons (pe_glob (by rfl) T.x_OutOfRange.g rfl) pa_nil))) (pa_cons (pe_callB (d_isP hDx List.mem_cons_self hzp hfp) (by rfl) T.b_isinstance (by decide +kernel) (pa_cons (dv 0) (pa_cons (pe_glob (by rfl) T.x_Malformed.g rfl) pa_nil))) (pa_cons (pe_callB (d_isP hDx List.mem_cons_self hzp hfp) (by rfl) T.b_isinstance (by decide +kernel) (pa_cons (dv 0) (pa_cons (pe_glob (by rfl) T.x_NotThere.g rfl) pa_nil))) (pa_cons (pe_callB (d_isP hDx List.mem_cons_self hzp hfp) (by rfl) T.b_isinstance (by decide +kernel) (pa_cons (dv 0) (pa_cons (pe_glob (by rfl) T.x_Refused.g rfl) pa_nil))) (pa_cons (pe_callB (d_isP hDx List.mem_cons_self hzp hfp) (by rfl) T.b_isinstance (by decide +kernel) (pa_cons (dv 0) (pa_cons (pe_glob (by rfl) T.x_TooMuch.g rfl) pa_nil))) pa_nil)))))))
  (pss_cons (ps_if (dt_cmp d_ne (pe_callB d_len (by rfl) T.b_len (by decide +kernel) (pa_cons (d_lcH (own := [("kind", 2)]) hot nd (dv 1) (blkOk_by (N := N_law_word) (sc := (defScope s_law_word)) (by decide +kernel)) (fun _ _ _ _ _ => (pg_name (i := 2) nd rfl (Or.inl rfl))) (fun _ _ _ _ _ => pts_one (dt_tru (dv 2))) (fun _ _ _ _ _ => (dv 2))) pa_nil)) pe_int (nomark _))
  (pss_one (ps_ret pe_str))
  pss_nil)
  (pss_one (ps_ret (pe_ix d_ix (pe_lst (pa_cons pe_str (pa_cons pe_str (pa_cons pe_str (pa_cons pe_str (pa_cons pe_str pa_nil)))))) (d_bm PySem.F.plainAttrs_list PySem.F.slot_list_index PySem.F.type_list_index mt_index (dv 1) (pa_cons pe_bl pa_nil)) (fun _ _ => rfl))))))
theorem ok_law_tried (T : Txt K mg A)  (G_Disks_spoil : FnOk P w K mg base (L2N.CX P w) 2 T.Disks_spoil.a T.Disks_spoil.fd ["self", "disk", "lines"] (sp_Disks_spoil A)) (G_Disks_lines : FnOk P w K mg base (L2N.CX P w) 2 T.Disks_lines.a T.Disks_lines.fd ["self", "disk"] (sp_Disks_lines A)) (G_Disks_write : FnOk P w K mg base (L2N.CX P w) 2 T.Disks_write.a T.Disks_write.fd ["self", "line", "reach"] (sp_Disks_write A)) (G_law_word : FnE P w K mg base 1 T.law_word.a T.law_word.fd ["e"] (sp_law_word K A))
    (len : ∀ vs H Q E, (sp_law_tried K A) vs H Q E → vs.length = 4) (rd : ∀ vs H Q E, (sp_law_tried K A) vs H Q E → t_law_tried K A E  { nx := fun _ H' => Q .non H', rt := Q } (L2.start N_law_tried vs) H) :
    FnOk P w K mg base CX0 3 T.law_tried.a T.law_tried.fd ["disks", "which", "one", "other"] (sp_law_tried K A) := by
  refine T.law_tried.F.ok sc_law_tried len (fun cdv AA outer s H vs Q E hr h => ⟨t_law_tried K A E , ?_, rd vs H Q E h⟩)
  have hr : Room 2 _ := hr
  have hu := hr
  have nd := sc_law_tried.nd
  exact (pss_one (L2N.ps_try_as (i := 4) (tb := fun W => (tSeq (tIfS (dTest (tOp dEq (dVar 1) (tC (.int 0))))
  (tRet (dMethE A.Disks "write" (sp_Disks_write A) (WE W) (dVar 0) (tCons (dVar 2) (tCons (dVar 3) tNil))))
  tNext)
  (tRet (tIf (dTest (tOp dEq (dVar 1) (tC (.int 1)))) (dMethE A.Disks "spoil" (sp_Disks_spoil A) (WE W) (dVar 0) (tCons (dVar 2) (tCons (dVar 3) tNil))) (dMethE A.Disks "lines" (sp_Disks_lines A) (WE W) (dVar 0) (tCons (dVar 2) tNil)))))) (ts := fun a cls d => (tRet (tCallE (sp_law_word K A) a cls d (tCons (dVar 4) tNil)))) (Wout := (fun _ _ _ _ => False)) rfl rfl nd rfl rfl ⟨rfl, by decide, Or.inl T.x_TraceError.g⟩ takesN0
  (fun W pn xe tk hpa => (pss_cons (ps_if (dt_cmp d_eq (dv 1) pe_int (nomark _))
  (pss_one (ps_ret (d_meth (dv 0) T.Disks__init_.cl T.Disks_write.m G_Disks_write (hr.mono (by decide)) T.Disks_write.b (fun σ => L2N.passAt tk σ) (pa_cons (dv 2) (pa_cons (dv 3) pa_nil)))))
  pss_nil)
  (pss_one (ps_ret (pe_ifExp (dt_cmp d_eq (dv 1) pe_int (nomark _)) (d_meth (dv 0) T.Disks__init_.cl T.Disks_spoil.m G_Disks_spoil (hr.mono (by decide)) T.Disks_spoil.b (fun σ => L2N.passAt tk σ) (pa_cons (dv 2) (pa_cons (dv 3) pa_nil))) (d_meth (dv 0) T.Disks__init_.cl T.Disks_lines.m G_Disks_lines (hr.mono (by decide)) T.Disks_lines.b (fun σ => L2N.passAt tk σ) (pa_cons (dv 2) pa_nil)))))))
  (fun a oe cls d pn hz hf => (pss_one (ps_ret (c_callE G_law_word (L2H.RoomH.mono (k := 2) ⟨hr.dp, hr.un⟩ (by decide)) rfl List.mem_cons_self hz hf T.law_word.g T.law_word.F.kp T.law_word.b (pa_cons (dv 4) pa_nil)))))))
theorem ok_law_agreed (T : Txt K mg A)  
    (len : ∀ vs H Q E, (sp_law_agreed K) vs H Q E → vs.length = 1) (rd : ∀ vs H Q E, (sp_law_agreed K) vs H Q E → t_law_agreed K A E  { nx := fun _ H' => Q .non H', rt := Q } (L2.start N_law_agreed vs) H) :
    FnOk P w K mg base CX0 1 T.law_agreed.a T.law_agreed.fd ["rows"] (sp_law_agreed K) := by
  refine T.law_agreed.F.ok sc_law_agreed len (fun cdv AA outer s H vs Q E hr h => ⟨t_law_agreed K A E , ?_, rd vs H Q E h⟩)
  have hr : Room 0 _ := hr
  have hu := hr
  have nd := sc_law_agreed.nd
  exact (pss_cons (ps_asg (pe_tup (pa_cons (pe_lst pa_nil) (pa_cons pe_bl pa_nil))) (dg_tup (by rfl) (dg_cons (pg_name (i := 1) nd rfl (Or.inr rfl)) (dg_cons (pg_name (i := 2) nd rfl (Or.inl rfl)) dg_nil))))
  (pss_cons (ps_while PassesOwn.never (dt_tru (dv 2))
  (pss_cons (ps_set (i := 3) nd rfl (Or.inr rfl) (d_lcL (own := [("row", 5)]) rfl nd (dv 0) (blkOk_by (N := N_law_agreed) (sc := (defScope s_law_agreed)) (by decide +kernel)) (fun _ _ _ _ _ => (pg_name (i := 5) nd rfl (Or.inl rfl))) (fun _ _ _ _ _ => pts_one (PW.pt (pw_and (dt_cmp d_gt (pe_callB d_len (by rfl) T.b_len (by decide +kernel) (pa_cons (dv 5) pa_nil)) (pe_callB d_len (by rfl) T.b_len (by decide +kernel) (pa_cons (dv 1) pa_nil)) (nomark _)) (pw_and1 (dt_cmp (d_eqD hu) (pe_slice d_sl (dv 5) po_none (po_d (pe_callB d_len (by rfl) T.b_len (by decide +kernel) (pa_cons (dv 1) pa_nil)))) (dv 1) (nomark _)))))) (fun _ _ _ _ _ => (pe_ix d_ix (dv 5) (pe_callB d_len (by rfl) T.b_len (by decide +kernel) (pa_cons (dv 1) pa_nil)) (fun _ _ => rfl)))))
  (pss_cons (d_setR1 (i := 4) (own := [("k", 6)]) rfl nd rfl rfl (sw_true rfl rfl rfl (by decide +kernel)) T.b_range (pa_cons (pe_callB d_len (by rfl) T.b_len (by decide +kernel) (pa_cons (dv 3) pa_nil)) pa_nil) (blkOk_by (N := N_law_agreed) (sc := (defScope s_law_agreed)) (by decide +kernel)) (fun _ _ _ _ _ => (pg_name (i := 6) nd rfl (Or.inl rfl))) (fun _ _ _ _ _ => pts_one (dt_cmp d_in (pe_ix d_ix (dv 3) (dv 6) (fun _ _ => rfl)) (pe_slice d_sl (dv 3) po_none (po_d (dv 6))) (by rfl))) (fun _ _ _ _ _ => (pe_ix d_ix (dv 3) (dv 6) (fun _ _ => rfl))))
  (pss_cons (ps_set (i := 2) nd rfl (Or.inl rfl) (pe_cmpR (d_neD hu) (dv 4) (pe_lst pa_nil) (nomark _)))
  (pss_one (ps_set (i := 1) nd rfl (Or.inr rfl) (pe_op d_add (dv 1) (pe_slice d_sl (dv 4) po_none (po_d pe_int)))))))))
  (pss_one (ps_ret (dv 1)))))
theorem ok_law_spoilt (T : Txt K mg A)  (G_law_take : FnOk P w K mg base CX0 1 T.law_take.a T.law_take.fd ["draws", "limit"] sp_law_take)
    (len : ∀ vs H Q E, (sp_law_spoilt K) vs H Q E → vs.length = 2) (rd : ∀ vs H Q E, (sp_law_spoilt K) vs H Q E → t_law_spoilt K A E  { nx := fun _ H' => Q .non H', rt := Q } (L2.start N_law_spoilt vs) H) :
    FnOk P w K mg base CX0 2 T.law_spoilt.a T.law_spoilt.fd ["draws", "lines"] (sp_law_spoilt K) := by
  refine T.law_spoilt.F.ok sc_law_spoilt len (fun cdv AA outer s H vs Q E hr h => ⟨t_law_spoilt K A E , ?_, rd vs H Q E h⟩)
  have hr : Room 1 _ := hr
  have hu := hr
  have nd := sc_law_spoilt.nd
  exact (pss_cons (d_par (by rfl) nd rfl rfl (by decide) rfl rfl (pa_cons (c_call G_law_take (hr.mono (by decide)) T.law_take.g T.law_take.F.kp T.law_take.b (fun _ => at0) (pa_cons (dv 0) (pa_cons (pe_op d_add (pe_callB d_len (by rfl) T.b_len (by decide +kernel) (pa_cons (dv 1) pa_nil)) pe_int) pa_nil))) (pa_cons (c_call G_law_take (hr.mono (by decide)) T.law_take.g T.law_take.F.kp T.law_take.b (fun _ => at0) (pa_cons (dv 0) (pa_cons pe_int pa_nil))) pa_nil)) (by rfl))
  (pss_cons (ps_if (dt_cmp d_eq (dv 3) pe_int (nomark _))
  (pss_one (ps_ret (pe_lst pa_nil)))
  pss_nil)
  (pss_cons (ps_if (dt_cmp d_eq (dv 3) pe_int (nomark _))
  (pss_one (ps_ret (pe_slice d_sl (dv 1) po_none (po_d (dv 2)))))
  pss_nil)
  (pss_cons (ps_if (dt_cmp d_eq (dv 3) pe_int (nomark _))
  (pss_one (ps_ret (pe_op d_add (pe_op d_add (pe_slice d_sl (dv 1) po_none (po_d (dv 2))) (pe_lst (pa_cons pe_str pa_nil))) (pe_slice d_sl (dv 1) (po_d (dv 2)) po_none))))
  pss_nil)
  (pss_cons (ps_if (dt_cmp d_eq (dv 3) pe_int (nomark _))
  (pss_one (ps_ret (pe_op d_add (pe_op d_add (pe_slice d_sl (dv 1) po_none (po_d (dv 2))) (pe_lst (pa_cons pe_str pa_nil))) (pe_slice d_sl (dv 1) (po_d (pe_op d_add (dv 2) pe_int)) po_none))))
  pss_nil)
  (pss_one (ps_ret (pe_ifExp (dt_cmp d_eq (dv 3) pe_int (nomark _)) (pe_op d_add (dv 1) (pe_op d_mul (pe_lst (pa_cons (pe_ix d_ix (pe_lst (pa_cons pe_str (pa_cons pe_str (pa_cons pe_str pa_nil)))) (c_call G_law_take (hr.mono (by decide)) T.law_take.g T.law_take.F.kp T.law_take.b (fun _ => at0) (pa_cons (dv 0) (pa_cons pe_int pa_nil))) (fun _ _ => rfl)) pa_nil)) pe_int)) (d_revL (dv 1))))))))))
theorem ok_law (T : Txt K mg A)  (G_Disks_lines : FnOk P w K mg base (L2N.CX P w) 2 T.Disks_lines.a T.Disks_lines.fd ["self", "disk"] (sp_Disks_lines A)) (G_law_alike : FnOk P w K mg base CX0 4 T.law_alike.a T.law_alike.fd ["found", "due"] (sp_law_alike K 2)) (G_law_tried : FnOk P w K mg base CX0 3 T.law_tried.a T.law_tried.fd ["disks", "which", "one", "other"] (sp_law_tried K A)) (G_law_take : FnOk P w K mg base CX0 1 T.law_take.a T.law_take.fd ["draws", "limit"] sp_law_take) (G_Disks_mend : FnOk P w K mg base CX0 2 T.Disks_mend.a T.Disks_mend.fd ["self"] (sp_Disks_mend A)) (G_Disks_agreed : FnOk P w K mg base CX0 1 T.Disks_agreed.a T.Disks_agreed.fd ["self"] (sp_Disks_agreed A)) (G_law_agreed : FnOk P w K mg base CX0 1 T.law_agreed.a T.law_agreed.fd ["rows"] (sp_law_agreed K)) (G_law_spoilt : FnOk P w K mg base CX0 2 T.law_spoilt.a T.law_spoilt.fd ["draws", "lines"] (sp_law_spoilt K)) (G_Disks__init_ : FnOk P w K mg base CX0 1 T.Disks__init_.a T.Disks__init_.fd ["self"] (sp_Disks__init_ A)) (G_law_draws : FnOk P w K mg base CX0 1 T.law_draws.a T.law_draws.fd ["script"] (sp_law_draws K))
    (len : ∀ vs H Q E, (sp_law K) vs H Q E → vs.length = 1) (rd : ∀ vs H Q E, (sp_law K) vs H Q E → t_law K A E  { nx := fun _ H' => Q .non H', rt := Q } (L2.start N_law vs) H) :
    FnOk P w K mg base CX0 5 T.law.a T.law.fd ["script"] (sp_law K) := by
  refine T.law.F.ok sc_law len (fun cdv AA outer s H vs Q E hr h => ⟨t_law K A E , ?_, rd vs H Q E h⟩)
  have hr : Room 4 _ := hr
  have hu := hr
  have nd := sc_law.nd
  exact (pss_cons (ps_set (i := 1) nd rfl (Or.inl rfl) (c_call G_law_draws (hr.mono (by decide)) T.law_draws.g T.law_draws.F.kp T.law_draws.b (fun _ => at0) (pa_cons (dv 0) pa_nil)))
  (pss_cons (ps_asg (pe_tup (pa_cons (c_make0 T.Disks__init_.made G_Disks__init_ (hr.mono (by decide)) T.Disks__init_.g T.Disks__init_.b (fun _ => at0)) (pa_cons (pe_lst (pa_cons (pe_lst pa_nil) (pa_cons (pe_lst pa_nil) (pa_cons (pe_lst pa_nil) pa_nil)))) pa_nil))) (dg_tup (by rfl) (dg_cons (pg_name (i := 2) nd rfl (Or.inr rfl)) (dg_cons (pg_name (i := 3) nd rfl (Or.inr rfl)) dg_nil))))
  (pss_cons (d_par3 (i := 4) (j := 5) (l := 6) (by rfl) nd rfl rfl rfl (by decide) (by decide) (by decide) rfl rfl rfl (pa_cons (pe_lst pa_nil) (pa_cons pe_non (pa_cons pe_bl pa_nil))) (by rfl))
  (pss_cons (d_forR1 PassesOwn.never rfl T.b_range (pa_cons (pe_op d_add pe_int (c_call G_law_take (hr.mono (by decide)) T.law_take.g T.law_take.F.kp T.law_take.b (fun _ => at0) (pa_cons (dv 1) (pa_cons pe_int pa_nil)))) pa_nil) (pg_name (i := 7) nd rfl (Or.inl rfl))
  (pss_cons (ps_set (i := 8) nd rfl (Or.inl rfl) (c_call G_law_take (hr.mono (by decide)) T.law_take.g T.law_take.F.kp T.law_take.b (fun _ => at0) (pa_cons (dv 1) (pa_cons pe_int pa_nil))))
  (pss_cons (ps_if (PW.pt (pw_and (dt_cmp d_lt (dv 8) pe_int (nomark _)) (pw_and1 (dt_cmp d_is (dv 5) pe_non (nomark _)))))
  (pss_cons (ps_set (i := 9) nd rfl (Or.inr rfl) (pe_ix d_ix (pe_lst (pa_cons pe_str (pa_cons pe_str (pa_cons pe_str (pa_cons pe_str pa_nil))))) (c_call G_law_take (hr.mono (by decide)) T.law_take.g T.law_take.F.kp T.law_take.b (fun _ => at0) (pa_cons (dv 1) (pa_cons pe_int pa_nil))) (fun _ _ => rfl)))
  (pss_cons (ps_if (dt_cmp d_isnot (c_call G_law_tried (hr.mono (by decide)) T.law_tried.g T.law_tried.F.kp T.law_tried.b (fun _ => at0) (pa_cons (dv 2) (pa_cons pe_int (pa_cons (dv 9) (pa_cons pe_int pa_nil))))) pe_non (nomark _))
  (pss_one (ps_ret pe_bl))
  pss_nil)
  (pss_cons (ps_set (i := 3) nd rfl (Or.inr rfl) (d_lcL (own := [("row", 17)]) rfl nd (dv 3) (blkOk_by (N := N_law) (sc := (defScope s_law)) (by decide +kernel)) (fun _ _ _ _ _ => (pg_name (i := 17) nd rfl (Or.inl rfl))) (fun _ _ _ _ _ => pts_nil) (fun _ _ _ _ _ => (pe_op d_add (dv 17) (pe_lst (pa_cons (dv 9) pa_nil))))))
  (pss_cons (ps_set (i := 4) nd rfl (Or.inl rfl) (pe_ifExp (pt_not (dt_tru (dv 6))) (pe_op d_add (dv 4) (pe_lst (pa_cons (dv 9) pa_nil))) (dv 4)))
  (pss_one (ps_if (dt_tru (dv 6))
  (pss_one (ps_set (i := 4) nd rfl (Or.inl rfl) pe_non))
  pss_nil))))))
  (pss_one (ps_if (PW.pt (pw_and (dt_cmp d_eq (dv 8) pe_int (nomark _)) (pw_and (dt_cmp d_is (dv 5) pe_non (nomark _)) (pw_and1 (pt_not (dt_tru (dv 6)))))))
  (pss_cons (ps_asg (pe_tup (pa_cons (c_call G_law_take (hr.mono (by decide)) T.law_take.g T.law_take.F.kp T.law_take.b (fun _ => at0) (pa_cons (dv 1) (pa_cons pe_int pa_nil))) (pa_cons (pe_ix d_ix (pe_lst (pa_cons pe_str (pa_cons pe_str (pa_cons pe_str pa_nil)))) (c_call G_law_take (hr.mono (by decide)) T.law_take.g T.law_take.F.kp T.law_take.b (fun _ => at0) (pa_cons (dv 1) (pa_cons pe_int pa_nil))) (fun _ _ => rfl)) pa_nil))) (dg_tup (by rfl) (dg_cons (pg_name (i := 10) nd rfl (Or.inr rfl)) (dg_cons (pg_name (i := 9) nd rfl (Or.inr rfl)) dg_nil))))
  (pss_cons (ps_if (dt_cmp d_isnot (c_call G_law_tried (hr.mono (by decide)) T.law_tried.g T.law_tried.F.kp T.law_tried.b (fun _ => at0) (pa_cons (dv 2) (pa_cons pe_int (pa_cons (dv 9) (pa_cons (dv 10) pa_nil))))) pe_non (nomark _))
  (pss_one (ps_ret pe_bl))
  pss_nil)
  (pss_cons (ps_set (i := 3) nd rfl (Or.inr rfl) (d_lcR1 (own := [("k", 15)]) rfl nd T.b_range (pa_cons pe_int pa_nil) (blkOk_by (N := N_law) (sc := (defScope s_law)) (by decide +kernel)) (fun _ _ _ _ _ => (pg_name (i := 15) nd rfl (Or.inl rfl))) (fun _ _ _ _ _ => pts_nil) (fun _ _ _ _ _ => (pe_op d_add (pe_ix d_ix (dv 3) (dv 15) (fun _ _ => rfl)) (pe_op d_mul (pe_lst (pa_cons (dv 9) pa_nil)) (pe_callTy d_int (by rfl) T.b_int (by decide +kernel) (pa_cons (pe_cmpR d_lt (dv 15) (dv 10) (nomark _)) pa_nil)))))))
  (pss_one (ps_set (i := 5) nd rfl (Or.inl rfl) (pe_tup (pa_cons (dv 9) (pa_cons (dv 10) pa_nil))))))))
  (pss_one (ps_if (PW.pt (pw_and (dt_cmp d_lt (dv 8) pe_int (nomark _)) (pw_and1 (pt_not (dt_tru (dv 6))))))
  (pss_cons (ps_set (i := 11) nd rfl (Or.inl rfl) (c_call G_law_take (hr.mono (by decide)) T.law_take.g T.law_take.F.kp T.law_take.b (fun _ => at0) (pa_cons (dv 1) (pa_cons pe_int pa_nil))))
  (pss_cons (ps_set (i := 12) nd rfl (Or.inl rfl) (c_call G_law_spoilt (hr.mono (by decide)) T.law_spoilt.g T.law_spoilt.F.kp T.law_spoilt.b (fun _ => at0) (pa_cons (dv 1) (pa_cons (pe_ix d_ix (dv 3) (dv 11) (fun _ _ => rfl)) pa_nil))))
  (pss_cons (ps_if (dt_cmp d_isnot (c_call G_law_tried (hr.mono (by decide)) T.law_tried.g T.law_tried.F.kp T.law_tried.b (fun _ => at0) (pa_cons (dv 2) (pa_cons pe_int (pa_cons (dv 11) (pa_cons (dv 12) pa_nil))))) pe_non (nomark _))
  (pss_one (ps_ret pe_bl))
  pss_nil)
  (pss_one (ps_asg (pe_tup (pa_cons (pe_callTy d_listOf (by rfl) T.b_list (by decide +kernel) (pa_cons (dv 12) pa_nil)) (pa_cons pe_bl pa_nil))) (dg_tup (by rfl) (dg_cons (pg_sub (dv 3) (dv 11) s_setL) (dg_cons (pg_name (i := 6) nd rfl (Or.inl rfl)) dg_nil))))))))
  pss_nil)))))
  (pss_cons (ps_set (i := 13) nd rfl (Or.inr rfl) (c_call G_law_agreed (hr.mono (by decide)) T.law_agreed.g T.law_agreed.F.kp T.law_agreed.b (fun _ => at0) (pa_cons (dv 3) pa_nil)))
  (pss_cons (ps_if (PW.pt (pw_or (pt_not (dt_tru (c_call G_law_alike (hr.mono (by decide)) T.law_alike.g T.law_alike.F.kp T.law_alike.b (fun _ => at0) (pa_cons (d_meth0 (dv 2) T.Disks__init_.cl T.Disks_agreed.m G_Disks_agreed (hr.mono (by decide)) T.Disks_agreed.b (fun _ => at0)) (pa_cons (pe_callTy d_tupleOf (by rfl) T.b_tuple (by decide +kernel) (pa_cons (dv 13) pa_nil)) pa_nil))))) (pw_or1 (pt_not (dt_tru (c_call G_law_alike (hr.mono (by decide)) T.law_alike.g T.law_alike.F.kp T.law_alike.b (fun _ => at0) (pa_cons (d_lcR1 (own := [("k", 15)]) rfl nd T.b_range (pa_cons pe_int pa_nil) (blkOk_by (N := N_law) (sc := (defScope s_law)) (by decide +kernel)) (fun _ _ _ _ _ => (pg_name (i := 15) nd rfl (Or.inl rfl))) (fun _ _ _ _ _ => pts_nil) (fun _ _ _ _ _ => (d_meth (dv 2) T.Disks__init_.cl T.Disks_lines.m G_Disks_lines (hr.mono (by decide)) T.Disks_lines.b (fun _ => atN) (pa_cons (dv 15) pa_nil)))) (pa_cons (d_lcL (own := [("row", 17)]) rfl nd (dv 3) (blkOk_by (N := N_law) (sc := (defScope s_law)) (by decide +kernel)) (fun _ _ _ _ _ => (pg_name (i := 17) nd rfl (Or.inl rfl))) (fun _ _ _ _ _ => pts_nil) (fun _ _ _ _ _ => (pe_callTy d_tupleOf (by rfl) T.b_tuple (by decide +kernel) (pa_cons (dv 17) pa_nil)))) pa_nil))))))))
  (pss_one (ps_ret pe_bl))
  pss_nil)
  (pss_cons (ps_if (PW.pt (pw_and (dt_cmp d_isnot (dv 4) pe_non (nomark _)) (pw_and1 (dt_cmp (op_notInD (room65 hu)) (dv 13) (pe_op d_add (pe_lst (pa_cons (dv 4) pa_nil)) (pe_ifExp (PW.pt (pw_and (dt_cmp d_isnot (dv 5) pe_non (nomark _)) (pw_and1 (dt_cmp d_gt (pe_ix d_ix (dv 5) pe_int (fun _ _ => rfl)) pe_int (nomark _))))) (pe_lst (pa_cons (pe_op d_add (dv 4) (pe_lst (pa_cons (pe_ix d_ix (dv 5) pe_int (fun _ _ => rfl)) pa_nil))) pa_nil)) (pe_lst pa_nil))) (by rfl)))))
  (pss_one (ps_ret pe_bl))
  pss_nil)
  (pss_one (ps_if (dt_cmp d_gt (dv 8) pe_int (nomark _))
  (pss_cons (ps_if (pt_not (dt_tru (c_call G_law_alike (hr.mono (by decide)) T.law_alike.g T.law_alike.F.kp T.law_alike.b (fun _ => at0) (pa_cons (d_meth0 (dv 2) T.Disks__init_.cl T.Disks_mend.m G_Disks_mend (hr.mono (by decide)) T.Disks_mend.b (fun _ => at0)) (pa_cons (pe_callTy d_tupleOf (by rfl) T.b_tuple (by decide +kernel) (pa_cons (dv 13) pa_nil)) pa_nil)))))
  (pss_one (ps_ret pe_bl))
  pss_nil)
  (pss_one (ps_asg (pe_tup (pa_cons (d_lcR1 (own := [("k", 15)]) rfl nd T.b_range (pa_cons pe_int pa_nil) (blkOk_by (N := N_law) (sc := (defScope s_law)) (by decide +kernel)) (fun _ _ _ _ _ => (pg_name (i := 15) nd rfl (Or.inl rfl))) (fun _ _ _ _ _ => pts_nil) (fun _ _ _ _ _ => (pe_callTy d_listOf (by rfl) T.b_list (by decide +kernel) (pa_cons (dv 13) pa_nil)))) (pa_cons (pe_callTy d_listOf (by rfl) T.b_list (by decide +kernel) (pa_cons (dv 13) pa_nil)) (pa_cons pe_non (pa_cons pe_bl pa_nil))))) (dg_tup (by rfl) (dg_cons (pg_name (i := 3) nd rfl (Or.inr rfl)) (dg_cons (pg_name (i := 4) nd rfl (Or.inl rfl)) (dg_cons (pg_name (i := 5) nd rfl (Or.inl rfl)) (dg_cons (pg_name (i := 6) nd rfl (Or.inl rfl)) dg_nil))))))))
  pss_nil))))))))
  (pss_cons (d_setR1 (i := 12) (own := [("k", 15)]) rfl nd rfl rfl (sw_true rfl rfl rfl (by decide +kernel)) T.b_range (pa_cons pe_int pa_nil) (blkOk_by (N := N_law) (sc := (defScope s_law)) (by decide +kernel)) (fun _ _ _ _ _ => (pg_name (i := 15) nd rfl (Or.inl rfl))) (fun _ _ _ _ _ => pts_nil) (fun _ _ _ _ _ => (d_meth (dv 2) T.Disks__init_.cl T.Disks_lines.m G_Disks_lines (hr.mono (by decide)) T.Disks_lines.b (fun _ => atN) (pa_cons (dv 15) pa_nil))))
  (pss_cons (ps_set (i := 14) nd rfl (Or.inl rfl) (pe_op d_add (pe_op d_add (d_lcL (own := [("one", 16)]) rfl nd (pe_lst (pa_cons (pe_un d_neg pe_int) (pa_cons pe_int (pa_cons pe_non pa_nil)))) (blkOk_by (N := N_law) (sc := (defScope s_law)) (by decide +kernel)) (fun _ _ _ _ _ => (pg_name (i := 16) nd rfl (Or.inl rfl))) (fun _ _ _ _ _ => pts_nil) (fun _ _ _ _ _ => (c_call G_law_tried (hr.mono (by decide)) T.law_tried.g T.law_tried.F.kp T.law_tried.b (fun _ => at0) (pa_cons (dv 2) (pa_cons pe_int (pa_cons pe_str (pa_cons (dv 16) pa_nil))))))) (d_lcL (own := [("one", 16)]) rfl nd (pe_lst (pa_cons (pe_un d_neg pe_int) (pa_cons pe_int pa_nil))) (blkOk_by (N := N_law) (sc := (defScope s_law)) (by decide +kernel)) (fun _ _ _ _ _ => (pg_name (i := 16) nd rfl (Or.inl rfl))) (fun _ _ _ _ _ => pts_nil) (fun _ _ _ _ _ => (c_call G_law_tried (hr.mono (by decide)) T.law_tried.g T.law_tried.F.kp T.law_tried.b (fun _ => at0) (pa_cons (dv 2) (pa_cons pe_int (pa_cons (dv 16) (pa_cons (pe_lst (pa_cons pe_str pa_nil)) pa_nil)))))))) (d_lcL (own := [("one", 16)]) rfl nd (pe_lst (pa_cons pe_int (pa_cons pe_non pa_nil))) (blkOk_by (N := N_law) (sc := (defScope s_law)) (by decide +kernel)) (fun _ _ _ _ _ => (pg_name (i := 16) nd rfl (Or.inl rfl))) (fun _ _ _ _ _ => pts_nil) (fun _ _ _ _ _ => (c_call G_law_tried (hr.mono (by decide)) T.law_tried.g T.law_tried.F.kp T.law_tried.b (fun _ => at0) (pa_cons (dv 2) (pa_cons pe_int (pa_cons (dv 16) (pa_cons pe_non pa_nil)))))))))
  (pss_cons (ps_set (i := 14) nd rfl (Or.inl rfl) (pe_op d_add (dv 14) (d_lcL (own := [("one", 16)]) rfl nd (pe_lst (pa_cons pe_non (pa_cons pe_int (pa_cons pe_str (pa_cons (pe_lst (pa_cons pe_str pa_nil)) pa_nil))))) (blkOk_by (N := N_law) (sc := (defScope s_law)) (by decide +kernel)) (fun _ _ _ _ _ => (pg_name (i := 16) nd rfl (Or.inl rfl))) (fun _ _ _ _ _ => pts_nil) (fun _ _ _ _ _ => (c_call G_law_tried (hr.mono (by decide)) T.law_tried.g T.law_tried.F.kp T.law_tried.b (fun _ => at0) (pa_cons (dv 2) (pa_cons pe_int (pa_cons (dv 16) (pa_cons pe_int pa_nil)))))))))
  (pss_one (ps_ret (d_and (pe_cmpR (d_eqD hu) (dv 14) (pe_op d_add (pe_op d_mul (pe_lst (pa_cons pe_str pa_nil)) pe_int) (pe_op d_mul (pe_lst (pa_cons pe_str pa_nil)) pe_int)) (nomark _)) (pe_one (c_call G_law_alike (hr.mono (by decide)) T.law_alike.g T.law_alike.F.kp T.law_alike.b (fun _ => at0) (pa_cons (d_lcR1 (own := [("k", 15)]) rfl nd T.b_range (pa_cons pe_int pa_nil) (blkOk_by (N := N_law) (sc := (defScope s_law)) (by decide +kernel)) (fun _ _ _ _ _ => (pg_name (i := 15) nd rfl (Or.inl rfl))) (fun _ _ _ _ _ => pts_nil) (fun _ _ _ _ _ => (d_meth (dv 2) T.Disks__init_.cl T.Disks_lines.m G_Disks_lines (hr.mono (by decide)) T.Disks_lines.b (fun _ => atN) (pa_cons (dv 15) pa_nil)))) (pa_cons (dv 12) pa_nil))))))))))))))
end
theorem wordOk_OutOfRange {K : PySem.W.Frag} {mg : Str → Option Value} {A : Ads} (T : Txt K mg A) : WordOk K A A.OutOfRange "range" :=
  ⟨T.x_OutOfRange.e, T.e_OutOfRange_TraceError, _, _, _, _, _, T.i_OutOfRange_OutOfRange, T.i_OutOfRange_Malformed, T.i_OutOfRange_NotThere, T.i_OutOfRange_Refused, T.i_OutOfRange_TooMuch, by decide +kernel⟩
theorem wordOk_Malformed {K : PySem.W.Frag} {mg : Str → Option Value} {A : Ads} (T : Txt K mg A) : WordOk K A A.Malformed "form" :=
  ⟨T.x_Malformed.e, T.e_Malformed_TraceError, _, _, _, _, _, T.i_Malformed_OutOfRange, T.i_Malformed_Malformed, T.i_Malformed_NotThere, T.i_Malformed_Refused, T.i_Malformed_TooMuch, by decide +kernel⟩
section
variable {P : Program} {w : World} {K : PySem.W.Frag} {mg : Str → Option Value} {A : Ads}
theorem ok_all (T : Txt K mg A) (base : Heap) : FnOk P w K mg base CX0 5 T.law.a T.law.fd ["script"] (sp_law K) := by
  have G_is_number := ok_is_number (P := P) (w := w) (base := base) T  (by intro vs H Q E h; first | (obtain ⟨_, rfl, _⟩ := h; rfl) | (obtain ⟨_, _, rfl, _⟩ := h; rfl) | (obtain ⟨_, _, _, rfl, _⟩ := h; rfl) | (obtain ⟨_, _, _, _, rfl, _⟩ := h; rfl) | (obtain ⟨_, _, _, _, _, rfl, _⟩ := h; rfl) | (obtain ⟨_, _, _, _, _, _, rfl, _⟩ := h; rfl) | (obtain ⟨_, _, _, _, _, _, _, rfl, _⟩ := h; rfl) | (obtain ⟨_, _, _, _, _, _, _, _, rfl, _⟩ := h; rfl) | (obtain ⟨_, _, _, _, _, _, _, _, _, rfl, _⟩ := h; rfl) | (obtain ⟨_, _, _, _, _, _, _, _, _, _, rfl, _⟩ := h; rfl) | (obtain ⟨_, _, _, _, _, _, _, _, _, _, _, rfl, _⟩ := h; rfl) | (obtain ⟨_, _, _, _, _, _, _, _, _, _, _, _, rfl, _⟩ := h; rfl) | (obtain ⟨_, _, _, _, _, _, _, _, _, _, _, _, _, rfl, _⟩ := h; rfl) | (obtain ⟨_, _, _, _, _, _, _, _, _, _, _, _, _, _, rfl, _⟩ := h; rfl) | (obtain ⟨_, _, _, _, _, _, _, _, _, _, _, _, _, _, _, rfl, _⟩ := h; rfl)) (fun vs H Q E h => r_is_number h)
  have G_is_line := ok_is_line (P := P) (w := w) (base := base) T  (by intro vs H Q E h; first | (obtain ⟨_, rfl, _⟩ := h; rfl) | (obtain ⟨_, _, rfl, _⟩ := h; rfl) | (obtain ⟨_, _, _, rfl, _⟩ := h; rfl) | (obtain ⟨_, _, _, _, rfl, _⟩ := h; rfl) | (obtain ⟨_, _, _, _, _, rfl, _⟩ := h; rfl) | (obtain ⟨_, _, _, _, _, _, rfl, _⟩ := h; rfl) | (obtain ⟨_, _, _, _, _, _, _, rfl, _⟩ := h; rfl) | (obtain ⟨_, _, _, _, _, _, _, _, rfl, _⟩ := h; rfl) | (obtain ⟨_, _, _, _, _, _, _, _, _, rfl, _⟩ := h; rfl) | (obtain ⟨_, _, _, _, _, _, _, _, _, _, rfl, _⟩ := h; rfl) | (obtain ⟨_, _, _, _, _, _, _, _, _, _, _, rfl, _⟩ := h; rfl) | (obtain ⟨_, _, _, _, _, _, _, _, _, _, _, _, rfl, _⟩ := h; rfl) | (obtain ⟨_, _, _, _, _, _, _, _, _, _, _, _, _, rfl, _⟩ := h; rfl) | (obtain ⟨_, _, _, _, _, _, _, _, _, _, _, _, _, _, rfl, _⟩ := h; rfl) | (obtain ⟨_, _, _, _, _, _, _, _, _, _, _, _, _, _, _, rfl, _⟩ := h; rfl)) (fun vs H Q E h => r_is_line h)
  have G_Disks__init_ := ok_Disks__init_ (P := P) (w := w) (base := base) T  (by intro vs H Q E h; first | (obtain ⟨_, rfl, _⟩ := h; rfl) | (obtain ⟨_, _, rfl, _⟩ := h; rfl) | (obtain ⟨_, _, _, rfl, _⟩ := h; rfl) | (obtain ⟨_, _, _, _, rfl, _⟩ := h; rfl) | (obtain ⟨_, _, _, _, _, rfl, _⟩ := h; rfl) | (obtain ⟨_, _, _, _, _, _, rfl, _⟩ := h; rfl) | (obtain ⟨_, _, _, _, _, _, _, rfl, _⟩ := h; rfl) | (obtain ⟨_, _, _, _, _, _, _, _, rfl, _⟩ := h; rfl) | (obtain ⟨_, _, _, _, _, _, _, _, _, rfl, _⟩ := h; rfl) | (obtain ⟨_, _, _, _, _, _, _, _, _, _, rfl, _⟩ := h; rfl) | (obtain ⟨_, _, _, _, _, _, _, _, _, _, _, rfl, _⟩ := h; rfl) | (obtain ⟨_, _, _, _, _, _, _, _, _, _, _, _, rfl, _⟩ := h; rfl) | (obtain ⟨_, _, _, _, _, _, _, _, _, _, _, _, _, rfl, _⟩ := h; rfl) | (obtain ⟨_, _, _, _, _, _, _, _, _, _, _, _, _, _, rfl, _⟩ := h; rfl) | (obtain ⟨_, _, _, _, _, _, _, _, _, _, _, _, _, _, _, rfl, _⟩ := h; rfl)) (fun vs H Q E h => r_Disks__init_ h)
  have G_Disks_lines := ok_Disks_lines (P := P) (w := w) (base := base) T G_is_number (by intro vs H Q E h; first | (obtain ⟨_, rfl, _⟩ := h; rfl) | (obtain ⟨_, _, rfl, _⟩ := h; rfl) | (obtain ⟨_, _, _, rfl, _⟩ := h; rfl) | (obtain ⟨_, _, _, _, rfl, _⟩ := h; rfl) | (obtain ⟨_, _, _, _, _, rfl, _⟩ := h; rfl) | (obtain ⟨_, _, _, _, _, _, rfl, _⟩ := h; rfl) | (obtain ⟨_, _, _, _, _, _, _, rfl, _⟩ := h; rfl) | (obtain ⟨_, _, _, _, _, _, _, _, rfl, _⟩ := h; rfl) | (obtain ⟨_, _, _, _, _, _, _, _, _, rfl, _⟩ := h; rfl) | (obtain ⟨_, _, _, _, _, _, _, _, _, _, rfl, _⟩ := h; rfl) | (obtain ⟨_, _, _, _, _, _, _, _, _, _, _, rfl, _⟩ := h; rfl) | (obtain ⟨_, _, _, _, _, _, _, _, _, _, _, _, rfl, _⟩ := h; rfl) | (obtain ⟨_, _, _, _, _, _, _, _, _, _, _, _, _, rfl, _⟩ := h; rfl) | (obtain ⟨_, _, _, _, _, _, _, _, _, _, _, _, _, _, rfl, _⟩ := h; rfl) | (obtain ⟨_, _, _, _, _, _, _, _, _, _, _, _, _, _, _, rfl, _⟩ := h; rfl)) (fun vs H Q E h => r_Disks_lines h)
  have G_Disks_write := ok_Disks_write (P := P) (w := w) (base := base) T G_is_line G_is_number (by intro vs H Q E h; first | (obtain ⟨_, rfl, _⟩ := h; rfl) | (obtain ⟨_, _, rfl, _⟩ := h; rfl) | (obtain ⟨_, _, _, rfl, _⟩ := h; rfl) | (obtain ⟨_, _, _, _, rfl, _⟩ := h; rfl) | (obtain ⟨_, _, _, _, _, rfl, _⟩ := h; rfl) | (obtain ⟨_, _, _, _, _, _, rfl, _⟩ := h; rfl) | (obtain ⟨_, _, _, _, _, _, _, rfl, _⟩ := h; rfl) | (obtain ⟨_, _, _, _, _, _, _, _, rfl, _⟩ := h; rfl) | (obtain ⟨_, _, _, _, _, _, _, _, _, rfl, _⟩ := h; rfl) | (obtain ⟨_, _, _, _, _, _, _, _, _, _, rfl, _⟩ := h; rfl) | (obtain ⟨_, _, _, _, _, _, _, _, _, _, _, rfl, _⟩ := h; rfl) | (obtain ⟨_, _, _, _, _, _, _, _, _, _, _, _, rfl, _⟩ := h; rfl) | (obtain ⟨_, _, _, _, _, _, _, _, _, _, _, _, _, rfl, _⟩ := h; rfl) | (obtain ⟨_, _, _, _, _, _, _, _, _, _, _, _, _, _, rfl, _⟩ := h; rfl) | (obtain ⟨_, _, _, _, _, _, _, _, _, _, _, _, _, _, _, rfl, _⟩ := h; rfl)) (fun vs H Q E h => r_Disks_write h)
  have G_Disks_spoil := ok_Disks_spoil (P := P) (w := w) (base := base) T G_is_number (by intro vs H Q E h; first | (obtain ⟨_, rfl, _⟩ := h; rfl) | (obtain ⟨_, _, rfl, _⟩ := h; rfl) | (obtain ⟨_, _, _, rfl, _⟩ := h; rfl) | (obtain ⟨_, _, _, _, rfl, _⟩ := h; rfl) | (obtain ⟨_, _, _, _, _, rfl, _⟩ := h; rfl) | (obtain ⟨_, _, _, _, _, _, rfl, _⟩ := h; rfl) | (obtain ⟨_, _, _, _, _, _, _, rfl, _⟩ := h; rfl) | (obtain ⟨_, _, _, _, _, _, _, _, rfl, _⟩ := h; rfl) | (obtain ⟨_, _, _, _, _, _, _, _, _, rfl, _⟩ := h; rfl) | (obtain ⟨_, _, _, _, _, _, _, _, _, _, rfl, _⟩ := h; rfl) | (obtain ⟨_, _, _, _, _, _, _, _, _, _, _, rfl, _⟩ := h; rfl) | (obtain ⟨_, _, _, _, _, _, _, _, _, _, _, _, rfl, _⟩ := h; rfl) | (obtain ⟨_, _, _, _, _, _, _, _, _, _, _, _, _, rfl, _⟩ := h; rfl) | (obtain ⟨_, _, _, _, _, _, _, _, _, _, _, _, _, _, rfl, _⟩ := h; rfl) | (obtain ⟨_, _, _, _, _, _, _, _, _, _, _, _, _, _, _, rfl, _⟩ := h; rfl)) (fun vs H Q E h => r_Disks_spoil h)
  have G_Disks_agreed := ok_Disks_agreed (P := P) (w := w) (base := base) T  (by intro vs H Q E h; first | (obtain ⟨_, rfl, _⟩ := h; rfl) | (obtain ⟨_, _, rfl, _⟩ := h; rfl) | (obtain ⟨_, _, _, rfl, _⟩ := h; rfl) | (obtain ⟨_, _, _, _, rfl, _⟩ := h; rfl) | (obtain ⟨_, _, _, _, _, rfl, _⟩ := h; rfl) | (obtain ⟨_, _, _, _, _, _, rfl, _⟩ := h; rfl) | (obtain ⟨_, _, _, _, _, _, _, rfl, _⟩ := h; rfl) | (obtain ⟨_, _, _, _, _, _, _, _, rfl, _⟩ := h; rfl) | (obtain ⟨_, _, _, _, _, _, _, _, _, rfl, _⟩ := h; rfl) | (obtain ⟨_, _, _, _, _, _, _, _, _, _, rfl, _⟩ := h; rfl) | (obtain ⟨_, _, _, _, _, _, _, _, _, _, _, rfl, _⟩ := h; rfl) | (obtain ⟨_, _, _, _, _, _, _, _, _, _, _, _, rfl, _⟩ := h; rfl) | (obtain ⟨_, _, _, _, _, _, _, _, _, _, _, _, _, rfl, _⟩ := h; rfl) | (obtain ⟨_, _, _, _, _, _, _, _, _, _, _, _, _, _, rfl, _⟩ := h; rfl) | (obtain ⟨_, _, _, _, _, _, _, _, _, _, _, _, _, _, _, rfl, _⟩ := h; rfl)) (fun vs H Q E h => r_Disks_agreed h)
  have G_Disks_mend := ok_Disks_mend (P := P) (w := w) (base := base) T G_Disks_agreed (by intro vs H Q E h; first | (obtain ⟨_, rfl, _⟩ := h; rfl) | (obtain ⟨_, _, rfl, _⟩ := h; rfl) | (obtain ⟨_, _, _, rfl, _⟩ := h; rfl) | (obtain ⟨_, _, _, _, rfl, _⟩ := h; rfl) | (obtain ⟨_, _, _, _, _, rfl, _⟩ := h; rfl) | (obtain ⟨_, _, _, _, _, _, rfl, _⟩ := h; rfl) | (obtain ⟨_, _, _, _, _, _, _, rfl, _⟩ := h; rfl) | (obtain ⟨_, _, _, _, _, _, _, _, rfl, _⟩ := h; rfl) | (obtain ⟨_, _, _, _, _, _, _, _, _, rfl, _⟩ := h; rfl) | (obtain ⟨_, _, _, _, _, _, _, _, _, _, rfl, _⟩ := h; rfl) | (obtain ⟨_, _, _, _, _, _, _, _, _, _, _, rfl, _⟩ := h; rfl) | (obtain ⟨_, _, _, _, _, _, _, _, _, _, _, _, rfl, _⟩ := h; rfl) | (obtain ⟨_, _, _, _, _, _, _, _, _, _, _, _, _, rfl, _⟩ := h; rfl) | (obtain ⟨_, _, _, _, _, _, _, _, _, _, _, _, _, _, rfl, _⟩ := h; rfl) | (obtain ⟨_, _, _, _, _, _, _, _, _, _, _, _, _, _, _, rfl, _⟩ := h; rfl)) (fun vs H Q E h => r_Disks_mend h)
  have G_law_draws := ok_law_draws (P := P) (w := w) (base := base) T  (by intro vs H Q E h; first | (obtain ⟨_, rfl, _⟩ := h; rfl) | (obtain ⟨_, _, rfl, _⟩ := h; rfl) | (obtain ⟨_, _, _, rfl, _⟩ := h; rfl) | (obtain ⟨_, _, _, _, rfl, _⟩ := h; rfl) | (obtain ⟨_, _, _, _, _, rfl, _⟩ := h; rfl) | (obtain ⟨_, _, _, _, _, _, rfl, _⟩ := h; rfl) | (obtain ⟨_, _, _, _, _, _, _, rfl, _⟩ := h; rfl) | (obtain ⟨_, _, _, _, _, _, _, _, rfl, _⟩ := h; rfl) | (obtain ⟨_, _, _, _, _, _, _, _, _, rfl, _⟩ := h; rfl) | (obtain ⟨_, _, _, _, _, _, _, _, _, _, rfl, _⟩ := h; rfl) | (obtain ⟨_, _, _, _, _, _, _, _, _, _, _, rfl, _⟩ := h; rfl) | (obtain ⟨_, _, _, _, _, _, _, _, _, _, _, _, rfl, _⟩ := h; rfl) | (obtain ⟨_, _, _, _, _, _, _, _, _, _, _, _, _, rfl, _⟩ := h; rfl) | (obtain ⟨_, _, _, _, _, _, _, _, _, _, _, _, _, _, rfl, _⟩ := h; rfl) | (obtain ⟨_, _, _, _, _, _, _, _, _, _, _, _, _, _, _, rfl, _⟩ := h; rfl)) (fun vs H Q E h => r_law_draws h)
  have G_law_take := ok_law_take (P := P) (w := w) (base := base) T  (by intro vs H Q E h; first | (obtain ⟨_, rfl, _⟩ := h; rfl) | (obtain ⟨_, _, rfl, _⟩ := h; rfl) | (obtain ⟨_, _, _, rfl, _⟩ := h; rfl) | (obtain ⟨_, _, _, _, rfl, _⟩ := h; rfl) | (obtain ⟨_, _, _, _, _, rfl, _⟩ := h; rfl) | (obtain ⟨_, _, _, _, _, _, rfl, _⟩ := h; rfl) | (obtain ⟨_, _, _, _, _, _, _, rfl, _⟩ := h; rfl) | (obtain ⟨_, _, _, _, _, _, _, _, rfl, _⟩ := h; rfl) | (obtain ⟨_, _, _, _, _, _, _, _, _, rfl, _⟩ := h; rfl) | (obtain ⟨_, _, _, _, _, _, _, _, _, _, rfl, _⟩ := h; rfl) | (obtain ⟨_, _, _, _, _, _, _, _, _, _, _, rfl, _⟩ := h; rfl) | (obtain ⟨_, _, _, _, _, _, _, _, _, _, _, _, rfl, _⟩ := h; rfl) | (obtain ⟨_, _, _, _, _, _, _, _, _, _, _, _, _, rfl, _⟩ := h; rfl) | (obtain ⟨_, _, _, _, _, _, _, _, _, _, _, _, _, _, rfl, _⟩ := h; rfl) | (obtain ⟨_, _, _, _, _, _, _, _, _, _, _, _, _, _, _, rfl, _⟩ := h; rfl)) (fun vs H Q E h => r_law_take h)
  have G0 : FnOk P w K mg base CX0 1 T.law_alike.a T.law_alike.fd ["found", "due"] (fun _ _ _ _ => False) := ⟨fun _ _ _ _ h => h.elim, fun _ _ _ _ _ _ _ _ _ _ _ _ _ h => h.elim⟩
  have G1 := ok_law_alike (P := P) (w := w) (base := base) T (fun _ _ _ _ => False) (sp_law_alike K 0) 0 G0 (by intro vs H Q E h; first | (obtain ⟨_, rfl, _⟩ := h; rfl) | (obtain ⟨_, _, rfl, _⟩ := h; rfl) | (obtain ⟨_, _, _, rfl, _⟩ := h; rfl) | (obtain ⟨_, _, _, _, rfl, _⟩ := h; rfl) | (obtain ⟨_, _, _, _, _, rfl, _⟩ := h; rfl) | (obtain ⟨_, _, _, _, _, _, rfl, _⟩ := h; rfl) | (obtain ⟨_, _, _, _, _, _, _, rfl, _⟩ := h; rfl) | (obtain ⟨_, _, _, _, _, _, _, _, rfl, _⟩ := h; rfl) | (obtain ⟨_, _, _, _, _, _, _, _, _, rfl, _⟩ := h; rfl) | (obtain ⟨_, _, _, _, _, _, _, _, _, _, rfl, _⟩ := h; rfl) | (obtain ⟨_, _, _, _, _, _, _, _, _, _, _, rfl, _⟩ := h; rfl) | (obtain ⟨_, _, _, _, _, _, _, _, _, _, _, _, rfl, _⟩ := h; rfl) | (obtain ⟨_, _, _, _, _, _, _, _, _, _, _, _, _, rfl, _⟩ := h; rfl) | (obtain ⟨_, _, _, _, _, _, _, _, _, _, _, _, _, _, rfl, _⟩ := h; rfl) | (obtain ⟨_, _, _, _, _, _, _, _, _, _, _, _, _, _, _, rfl, _⟩ := h; rfl)) (fun vs H Q E h => r_law_alike0 h)
  have G2 := ok_law_alike (P := P) (w := w) (base := base) T (sp_law_alike K 0) (sp_law_alike K 1) 1 G1 (by intro vs H Q E h; first | (obtain ⟨_, rfl, _⟩ := h; rfl) | (obtain ⟨_, _, rfl, _⟩ := h; rfl) | (obtain ⟨_, _, _, rfl, _⟩ := h; rfl) | (obtain ⟨_, _, _, _, rfl, _⟩ := h; rfl) | (obtain ⟨_, _, _, _, _, rfl, _⟩ := h; rfl) | (obtain ⟨_, _, _, _, _, _, rfl, _⟩ := h; rfl) | (obtain ⟨_, _, _, _, _, _, _, rfl, _⟩ := h; rfl) | (obtain ⟨_, _, _, _, _, _, _, _, rfl, _⟩ := h; rfl) | (obtain ⟨_, _, _, _, _, _, _, _, _, rfl, _⟩ := h; rfl) | (obtain ⟨_, _, _, _, _, _, _, _, _, _, rfl, _⟩ := h; rfl) | (obtain ⟨_, _, _, _, _, _, _, _, _, _, _, rfl, _⟩ := h; rfl) | (obtain ⟨_, _, _, _, _, _, _, _, _, _, _, _, rfl, _⟩ := h; rfl) | (obtain ⟨_, _, _, _, _, _, _, _, _, _, _, _, _, rfl, _⟩ := h; rfl) | (obtain ⟨_, _, _, _, _, _, _, _, _, _, _, _, _, _, rfl, _⟩ := h; rfl) | (obtain ⟨_, _, _, _, _, _, _, _, _, _, _, _, _, _, _, rfl, _⟩ := h; rfl)) (fun vs H Q E h => r_law_alike h)
  have G3 := ok_law_alike (P := P) (w := w) (base := base) T (sp_law_alike K 1) (sp_law_alike K 2) 2 G2 (by intro vs H Q E h; first | (obtain ⟨_, rfl, _⟩ := h; rfl) | (obtain ⟨_, _, rfl, _⟩ := h; rfl) | (obtain ⟨_, _, _, rfl, _⟩ := h; rfl) | (obtain ⟨_, _, _, _, rfl, _⟩ := h; rfl) | (obtain ⟨_, _, _, _, _, rfl, _⟩ := h; rfl) | (obtain ⟨_, _, _, _, _, _, rfl, _⟩ := h; rfl) | (obtain ⟨_, _, _, _, _, _, _, rfl, _⟩ := h; rfl) | (obtain ⟨_, _, _, _, _, _, _, _, rfl, _⟩ := h; rfl) | (obtain ⟨_, _, _, _, _, _, _, _, _, rfl, _⟩ := h; rfl) | (obtain ⟨_, _, _, _, _, _, _, _, _, _, rfl, _⟩ := h; rfl) | (obtain ⟨_, _, _, _, _, _, _, _, _, _, _, rfl, _⟩ := h; rfl) | (obtain ⟨_, _, _, _, _, _, _, _, _, _, _, _, rfl, _⟩ := h; rfl) | (obtain ⟨_, _, _, _, _, _, _, _, _, _, _, _, _, rfl, _⟩ := h; rfl) | (obtain ⟨_, _, _, _, _, _, _, _, _, _, _, _, _, _, rfl, _⟩ := h; rfl) | (obtain ⟨_, _, _, _, _, _, _, _, _, _, _, _, _, _, _, rfl, _⟩ := h; rfl)) (fun vs H Q E h => r_law_alike h)
  have G_law_alike := G3
  have G_law_word := ok_law_word (P := P) (w := w) (base := base) T (by intro a c d vs H Q E h; first | (obtain ⟨_, rfl, _⟩ := h; rfl) | (obtain ⟨_, _, rfl, _⟩ := h; rfl) | (obtain ⟨_, _, _, rfl, _⟩ := h; rfl) | (obtain ⟨_, _, _, _, rfl, _⟩ := h; rfl) | (obtain ⟨_, _, _, _, _, rfl, _⟩ := h; rfl) | (obtain ⟨_, _, _, _, _, _, rfl, _⟩ := h; rfl) | (obtain ⟨_, _, _, _, _, _, _, rfl, _⟩ := h; rfl) | (obtain ⟨_, _, _, _, _, _, _, _, rfl, _⟩ := h; rfl) | (obtain ⟨_, _, _, _, _, _, _, _, _, rfl, _⟩ := h; rfl) | (obtain ⟨_, _, _, _, _, _, _, _, _, _, rfl, _⟩ := h; rfl) | (obtain ⟨_, _, _, _, _, _, _, _, _, _, _, rfl, _⟩ := h; rfl) | (obtain ⟨_, _, _, _, _, _, _, _, _, _, _, _, rfl, _⟩ := h; rfl) | (obtain ⟨_, _, _, _, _, _, _, _, _, _, _, _, _, rfl, _⟩ := h; rfl) | (obtain ⟨_, _, _, _, _, _, _, _, _, _, _, _, _, _, rfl, _⟩ := h; rfl) | (obtain ⟨_, _, _, _, _, _, _, _, _, _, _, _, _, _, _, rfl, _⟩ := h; rfl)) (fun a c d vs H Q E h => let ⟨D, _, _, _, _, _, _, _, h1, h2, h3, _⟩ := h; ⟨D, h1, h2, h3⟩) (fun ax D vs H Q E h => r_law_word h)
  have G_law_tried := ok_law_tried (P := P) (w := w) (base := base) T G_Disks_spoil G_Disks_lines G_Disks_write G_law_word (by intro vs H Q E h; first | (obtain ⟨_, rfl, _⟩ := h; rfl) | (obtain ⟨_, _, rfl, _⟩ := h; rfl) | (obtain ⟨_, _, _, rfl, _⟩ := h; rfl) | (obtain ⟨_, _, _, _, rfl, _⟩ := h; rfl) | (obtain ⟨_, _, _, _, _, rfl, _⟩ := h; rfl) | (obtain ⟨_, _, _, _, _, _, rfl, _⟩ := h; rfl) | (obtain ⟨_, _, _, _, _, _, _, rfl, _⟩ := h; rfl) | (obtain ⟨_, _, _, _, _, _, _, _, rfl, _⟩ := h; rfl) | (obtain ⟨_, _, _, _, _, _, _, _, _, rfl, _⟩ := h; rfl) | (obtain ⟨_, _, _, _, _, _, _, _, _, _, rfl, _⟩ := h; rfl) | (obtain ⟨_, _, _, _, _, _, _, _, _, _, _, rfl, _⟩ := h; rfl) | (obtain ⟨_, _, _, _, _, _, _, _, _, _, _, _, rfl, _⟩ := h; rfl) | (obtain ⟨_, _, _, _, _, _, _, _, _, _, _, _, _, rfl, _⟩ := h; rfl) | (obtain ⟨_, _, _, _, _, _, _, _, _, _, _, _, _, _, rfl, _⟩ := h; rfl) | (obtain ⟨_, _, _, _, _, _, _, _, _, _, _, _, _, _, _, rfl, _⟩ := h; rfl)) (fun vs H Q E h => r_law_tried (wordOk_OutOfRange T) (wordOk_Malformed T) h)
  have G_law_agreed := ok_law_agreed (P := P) (w := w) (base := base) T  (by intro vs H Q E h; first | (obtain ⟨_, rfl, _⟩ := h; rfl) | (obtain ⟨_, _, rfl, _⟩ := h; rfl) | (obtain ⟨_, _, _, rfl, _⟩ := h; rfl) | (obtain ⟨_, _, _, _, rfl, _⟩ := h; rfl) | (obtain ⟨_, _, _, _, _, rfl, _⟩ := h; rfl) | (obtain ⟨_, _, _, _, _, _, rfl, _⟩ := h; rfl) | (obtain ⟨_, _, _, _, _, _, _, rfl, _⟩ := h; rfl) | (obtain ⟨_, _, _, _, _, _, _, _, rfl, _⟩ := h; rfl) | (obtain ⟨_, _, _, _, _, _, _, _, _, rfl, _⟩ := h; rfl) | (obtain ⟨_, _, _, _, _, _, _, _, _, _, rfl, _⟩ := h; rfl) | (obtain ⟨_, _, _, _, _, _, _, _, _, _, _, rfl, _⟩ := h; rfl) | (obtain ⟨_, _, _, _, _, _, _, _, _, _, _, _, rfl, _⟩ := h; rfl) | (obtain ⟨_, _, _, _, _, _, _, _, _, _, _, _, _, rfl, _⟩ := h; rfl) | (obtain ⟨_, _, _, _, _, _, _, _, _, _, _, _, _, _, rfl, _⟩ := h; rfl) | (obtain ⟨_, _, _, _, _, _, _, _, _, _, _, _, _, _, _, rfl, _⟩ := h; rfl)) (fun vs H Q E h => r_law_agreed h)
  have G_law_spoilt := ok_law_spoilt (P := P) (w := w) (base := base) T G_law_take (by intro vs H Q E h; first | (obtain ⟨_, rfl, _⟩ := h; rfl) | (obtain ⟨_, _, rfl, _⟩ := h; rfl) | (obtain ⟨_, _, _, rfl, _⟩ := h; rfl) | (obtain ⟨_, _, _, _, rfl, _⟩ := h; rfl) | (obtain ⟨_, _, _, _, _, rfl, _⟩ := h; rfl) | (obtain ⟨_, _, _, _, _, _, rfl, _⟩ := h; rfl) | (obtain ⟨_, _, _, _, _, _, _, rfl, _⟩ := h; rfl) | (obtain ⟨_, _, _, _, _, _, _, _, rfl, _⟩ := h; rfl) | (obtain ⟨_, _, _, _, _, _, _, _, _, rfl, _⟩ := h; rfl) | (obtain ⟨_, _, _, _, _, _, _, _, _, _, rfl, _⟩ := h; rfl) | (obtain ⟨_, _, _, _, _, _, _, _, _, _, _, rfl, _⟩ := h; rfl) | (obtain ⟨_, _, _, _, _, _, _, _, _, _, _, _, rfl, _⟩ := h; rfl) | (obtain ⟨_, _, _, _, _, _, _, _, _, _, _, _, _, rfl, _⟩ := h; rfl) | (obtain ⟨_, _, _, _, _, _, _, _, _, _, _, _, _, _, rfl, _⟩ := h; rfl) | (obtain ⟨_, _, _, _, _, _, _, _, _, _, _, _, _, _, _, rfl, _⟩ := h; rfl)) (fun vs H Q E h => r_law_spoilt h)
  have G_law := ok_law (P := P) (w := w) (base := base) T G_Disks_lines G_law_alike G_law_tried G_law_take G_Disks_mend G_Disks_agreed G_law_agreed G_law_spoilt G_Disks__init_ G_law_draws (by intro vs H Q E h; first | (obtain ⟨_, rfl, _⟩ := h; rfl) | (obtain ⟨_, _, rfl, _⟩ := h; rfl) | (obtain ⟨_, _, _, rfl, _⟩ := h; rfl) | (obtain ⟨_, _, _, _, rfl, _⟩ := h; rfl) | (obtain ⟨_, _, _, _, _, rfl, _⟩ := h; rfl) | (obtain ⟨_, _, _, _, _, _, rfl, _⟩ := h; rfl) | (obtain ⟨_, _, _, _, _, _, _, rfl, _⟩ := h; rfl) | (obtain ⟨_, _, _, _, _, _, _, _, rfl, _⟩ := h; rfl) | (obtain ⟨_, _, _, _, _, _, _, _, _, rfl, _⟩ := h; rfl) | (obtain ⟨_, _, _, _, _, _, _, _, _, _, rfl, _⟩ := h; rfl) | (obtain ⟨_, _, _, _, _, _, _, _, _, _, _, rfl, _⟩ := h; rfl) | (obtain ⟨_, _, _, _, _, _, _, _, _, _, _, _, rfl, _⟩ := h; rfl) | (obtain ⟨_, _, _, _, _, _, _, _, _, _, _, _, _, rfl, _⟩ := h; rfl) | (obtain ⟨_, _, _, _, _, _, _, _, _, _, _, _, _, _, rfl, _⟩ := h; rfl) | (obtain ⟨_, _, _, _, _, _, _, _, _, _, _, _, _, _, _, rfl, _⟩ := h; rfl)) (fun vs H Q E h => r_law h)
  exact G_law
end
theorem all_mk {P : Program} {w : World} {K : PySem.W.Frag} {h : Heap} {mg : Str → Option Value} {fa : Addr} (X : K.In h) (G : h.Ns mainGlobals mg) (hfa : mg "law" = some (.ref fa))
    {C_Disks C_TraceError C_OutOfRange C_Malformed C_NotThere C_Refused C_TooMuch f_is_number f_is_line f_Disks__init_ f_Disks_lines f_Disks_write f_Disks_spoil f_Disks_agreed f_Disks_mend f_law_draws f_law_take f_law_alike f_law_word f_law_tried f_law_agreed f_law_spoilt f_law : Addr}
    {od_is_number an_is_number od_is_line an_is_line od_Disks__init_ an_Disks__init_ od_Disks_lines an_Disks_lines od_Disks_write an_Disks_write od_Disks_spoil an_Disks_spoil od_Disks_agreed an_Disks_agreed od_Disks_mend an_Disks_mend od_law_draws an_law_draws od_law_take an_law_take od_law_alike an_law_alike od_law_word an_law_word od_law_tried an_law_tried od_law_agreed an_law_agreed od_law_spoilt an_law_spoilt od_law an_law : Option Addr} {sl_is_number sl_is_line sl_Disks__init_ sl_Disks_lines sl_Disks_write sl_Disks_spoil sl_Disks_agreed sl_Disks_mend sl_law_draws sl_law_take sl_law_alike sl_law_word sl_law_tried sl_law_agreed sl_law_spoilt sl_law : Array (Option Value)} {oc_is_number kV_is_number dc_is_number pm_is_number cd_is_number ct_is_number oc_is_line kV_is_line dc_is_line pm_is_line cd_is_line ct_is_line oc_Disks__init_ kV_Disks__init_ dc_Disks__init_ pm_Disks__init_ cd_Disks__init_ ct_Disks__init_ oc_Disks_lines kV_Disks_lines dc_Disks_lines pm_Disks_lines cd_Disks_lines ct_Disks_lines oc_Disks_write kV_Disks_write dc_Disks_write pm_Disks_write cd_Disks_write ct_Disks_write oc_Disks_spoil kV_Disks_spoil dc_Disks_spoil pm_Disks_spoil cd_Disks_spoil ct_Disks_spoil oc_Disks_agreed kV_Disks_agreed dc_Disks_agreed pm_Disks_agreed cd_Disks_agreed ct_Disks_agreed oc_Disks_mend kV_Disks_mend dc_Disks_mend pm_Disks_mend cd_Disks_mend ct_Disks_mend oc_law_draws kV_law_draws dc_law_draws pm_law_draws cd_law_draws ct_law_draws oc_law_take kV_law_take dc_law_take pm_law_take cd_law_take ct_law_take oc_law_alike kV_law_alike dc_law_alike pm_law_alike cd_law_alike ct_law_alike oc_law_word kV_law_word dc_law_word pm_law_word cd_law_word ct_law_word oc_law_tried kV_law_tried dc_law_tried pm_law_tried cd_law_tried ct_law_tried oc_law_agreed kV_law_agreed dc_law_agreed pm_law_agreed cd_law_agreed ct_law_agreed oc_law_spoilt kV_law_spoilt dc_law_spoilt pm_law_spoilt cd_law_spoilt ct_law_spoilt oc_law kV_law dc_law pm_law cd_law ct_law : Value}
    {tk_DISKS : Tok}
    (a_Disks : PySem.W.nsIn K mainGlobals "Disks" = some (some (.ref C_Disks)))
    (a_TraceError : PySem.W.nsIn K mainGlobals "TraceError" = some (some (.ref C_TraceError)))
    (a_OutOfRange : PySem.W.nsIn K mainGlobals "OutOfRange" = some (some (.ref C_OutOfRange)))
    (a_Malformed : PySem.W.nsIn K mainGlobals "Malformed" = some (some (.ref C_Malformed)))
    (a_NotThere : PySem.W.nsIn K mainGlobals "NotThere" = some (some (.ref C_NotThere)))
    (a_Refused : PySem.W.nsIn K mainGlobals "Refused" = some (some (.ref C_Refused)))
    (a_TooMuch : PySem.W.nsIn K mainGlobals "TooMuch" = some (some (.ref C_TooMuch)))
    (a_is_number : PySem.W.nsIn K mainGlobals "is_number" = some (some (.ref f_is_number)))
    (l_is_number : K.lookup f_is_number = some ⟨oc_is_number, od_is_number, .func (PySem.W.fnOf "is_number" "is_number" (defArgs s_is_number) (defBody s_is_number) (defScope s_is_number) .none kV_is_number dc_is_number pm_is_number an_is_number cd_is_number ct_is_number), sl_is_number⟩)
    (c_is_number : PySem.W.codeIn K cd_is_number "is_number" = true)
    (k_is_number : PySem.W.keepIn K (.ref f_is_number) = true)
    (a_is_line : PySem.W.nsIn K mainGlobals "is_line" = some (some (.ref f_is_line)))
    (l_is_line : K.lookup f_is_line = some ⟨oc_is_line, od_is_line, .func (PySem.W.fnOf "is_line" "is_line" (defArgs s_is_line) (defBody s_is_line) (defScope s_is_line) .none kV_is_line dc_is_line pm_is_line an_is_line cd_is_line ct_is_line), sl_is_line⟩)
    (c_is_line : PySem.W.codeIn K cd_is_line "is_line" = true)
    (k_is_line : PySem.W.keepIn K (.ref f_is_line) = true)
    (a_Disks__init_ : PySem.W.findIn K (.ref C_Disks) "__init__" = some (some (.ref f_Disks__init_)))
    (i_Disks__init_ : PySem.W.isFn K (.ref f_Disks__init_) = true)
    (l_Disks__init_ : K.lookup f_Disks__init_ = some ⟨oc_Disks__init_, od_Disks__init_, .func (PySem.W.fnOf "__init__" "Disks.__init__" (defArgs s_Disks__init_) (defBody s_Disks__init_) (defScope s_Disks__init_) .none kV_Disks__init_ dc_Disks__init_ pm_Disks__init_ an_Disks__init_ cd_Disks__init_ ct_Disks__init_), sl_Disks__init_⟩)
    (c_Disks__init_ : PySem.W.codeIn K cd_Disks__init_ "Disks.__init__" = true)
    (k_Disks__init_ : PySem.W.keepIn K (.ref f_Disks__init_) = true)
    (a_Disks_lines : PySem.W.findIn K (.ref C_Disks) "lines" = some (some (.ref f_Disks_lines)))
    (i_Disks_lines : PySem.W.isFn K (.ref f_Disks_lines) = true)
    (l_Disks_lines : K.lookup f_Disks_lines = some ⟨oc_Disks_lines, od_Disks_lines, .func (PySem.W.fnOf "lines" "Disks.lines" (defArgs s_Disks_lines) (defBody s_Disks_lines) (defScope s_Disks_lines) .none kV_Disks_lines dc_Disks_lines pm_Disks_lines an_Disks_lines cd_Disks_lines ct_Disks_lines), sl_Disks_lines⟩)
    (c_Disks_lines : PySem.W.codeIn K cd_Disks_lines "Disks.lines" = true)
    (k_Disks_lines : PySem.W.keepIn K (.ref f_Disks_lines) = true)
    (a_Disks_write : PySem.W.findIn K (.ref C_Disks) "write" = some (some (.ref f_Disks_write)))
    (i_Disks_write : PySem.W.isFn K (.ref f_Disks_write) = true)
    (l_Disks_write : K.lookup f_Disks_write = some ⟨oc_Disks_write, od_Disks_write, .func (PySem.W.fnOf "write" "Disks.write" (defArgs s_Disks_write) (defBody s_Disks_write) (defScope s_Disks_write) .none kV_Disks_write dc_Disks_write pm_Disks_write an_Disks_write cd_Disks_write ct_Disks_write), sl_Disks_write⟩)
    (c_Disks_write : PySem.W.codeIn K cd_Disks_write "Disks.write" = true)
    (k_Disks_write : PySem.W.keepIn K (.ref f_Disks_write) = true)
    (a_Disks_spoil : PySem.W.findIn K (.ref C_Disks) "spoil" = some (some (.ref f_Disks_spoil)))
    (i_Disks_spoil : PySem.W.isFn K (.ref f_Disks_spoil) = true)
    (l_Disks_spoil : K.lookup f_Disks_spoil = some ⟨oc_Disks_spoil, od_Disks_spoil, .func (PySem.W.fnOf "spoil" "Disks.spoil" (defArgs s_Disks_spoil) (defBody s_Disks_spoil) (defScope s_Disks_spoil) .none kV_Disks_spoil dc_Disks_spoil pm_Disks_spoil an_Disks_spoil cd_Disks_spoil ct_Disks_spoil), sl_Disks_spoil⟩)
    (c_Disks_spoil : PySem.W.codeIn K cd_Disks_spoil "Disks.spoil" = true)
    (k_Disks_spoil : PySem.W.keepIn K (.ref f_Disks_spoil) = true)
    (a_Disks_agreed : PySem.W.findIn K (.ref C_Disks) "agreed" = some (some (.ref f_Disks_agreed)))
    (i_Disks_agreed : PySem.W.isFn K (.ref f_Disks_agreed) = true)
    (l_Disks_agreed : K.lookup f_Disks_agreed = some ⟨oc_Disks_agreed, od_Disks_agreed, .func (PySem.W.fnOf "agreed" "Disks.agreed" (defArgs s_Disks_agreed) (defBody s_Disks_agreed) (defScope s_Disks_agreed) .none kV_Disks_agreed dc_Disks_agreed pm_Disks_agreed an_Disks_agreed cd_Disks_agreed ct_Disks_agreed), sl_Disks_agreed⟩)
    (c_Disks_agreed : PySem.W.codeIn K cd_Disks_agreed "Disks.agreed" = true)
    (k_Disks_agreed : PySem.W.keepIn K (.ref f_Disks_agreed) = true)
    (a_Disks_mend : PySem.W.findIn K (.ref C_Disks) "mend" = some (some (.ref f_Disks_mend)))
    (i_Disks_mend : PySem.W.isFn K (.ref f_Disks_mend) = true)
    (l_Disks_mend : K.lookup f_Disks_mend = some ⟨oc_Disks_mend, od_Disks_mend, .func (PySem.W.fnOf "mend" "Disks.mend" (defArgs s_Disks_mend) (defBody s_Disks_mend) (defScope s_Disks_mend) .none kV_Disks_mend dc_Disks_mend pm_Disks_mend an_Disks_mend cd_Disks_mend ct_Disks_mend), sl_Disks_mend⟩)
    (c_Disks_mend : PySem.W.codeIn K cd_Disks_mend "Disks.mend" = true)
    (k_Disks_mend : PySem.W.keepIn K (.ref f_Disks_mend) = true)
    (a_law_draws : PySem.W.nsIn K mainGlobals "_law_draws" = some (some (.ref f_law_draws)))
    (l_law_draws : K.lookup f_law_draws = some ⟨oc_law_draws, od_law_draws, .func (PySem.W.fnOf "_law_draws" "_law_draws" (defArgs s_law_draws) (defBody s_law_draws) (defScope s_law_draws) .none kV_law_draws dc_law_draws pm_law_draws an_law_draws cd_law_draws ct_law_draws), sl_law_draws⟩)
    (c_law_draws : PySem.W.codeIn K cd_law_draws "_law_draws" = true)
    (k_law_draws : PySem.W.keepIn K (.ref f_law_draws) = true)
    (a_law_take : PySem.W.nsIn K mainGlobals "_law_take" = some (some (.ref f_law_take)))
    (l_law_take : K.lookup f_law_take = some ⟨oc_law_take, od_law_take, .func (PySem.W.fnOf "_law_take" "_law_take" (defArgs s_law_take) (defBody s_law_take) (defScope s_law_take) .none kV_law_take dc_law_take pm_law_take an_law_take cd_law_take ct_law_take), sl_law_take⟩)
    (c_law_take : PySem.W.codeIn K cd_law_take "_law_take" = true)
    (k_law_take : PySem.W.keepIn K (.ref f_law_take) = true)
    (a_law_alike : PySem.W.nsIn K mainGlobals "_law_alike" = some (some (.ref f_law_alike)))
    (l_law_alike : K.lookup f_law_alike = some ⟨oc_law_alike, od_law_alike, .func (PySem.W.fnOf "_law_alike" "_law_alike" (defArgs s_law_alike) (defBody s_law_alike) (defScope s_law_alike) .none kV_law_alike dc_law_alike pm_law_alike an_law_alike cd_law_alike ct_law_alike), sl_law_alike⟩)
    (c_law_alike : PySem.W.codeIn K cd_law_alike "_law_alike" = true)
    (k_law_alike : PySem.W.keepIn K (.ref f_law_alike) = true)
    (a_law_word : PySem.W.nsIn K mainGlobals "_law_word" = some (some (.ref f_law_word)))
    (l_law_word : K.lookup f_law_word = some ⟨oc_law_word, od_law_word, .func (PySem.W.fnOf "_law_word" "_law_word" (defArgs s_law_word) (defBody s_law_word) (defScope s_law_word) .none kV_law_word dc_law_word pm_law_word an_law_word cd_law_word ct_law_word), sl_law_word⟩)
    (c_law_word : PySem.W.codeIn K cd_law_word "_law_word" = true)
    (k_law_word : PySem.W.keepIn K (.ref f_law_word) = true)
    (a_law_tried : PySem.W.nsIn K mainGlobals "_law_tried" = some (some (.ref f_law_tried)))
    (l_law_tried : K.lookup f_law_tried = some ⟨oc_law_tried, od_law_tried, .func (PySem.W.fnOf "_law_tried" "_law_tried" (defArgs s_law_tried) (defBody s_law_tried) (defScope s_law_tried) .none kV_law_tried dc_law_tried pm_law_tried an_law_tried cd_law_tried ct_law_tried), sl_law_tried⟩)
    (c_law_tried : PySem.W.codeIn K cd_law_tried "_law_tried" = true)
    (k_law_tried : PySem.W.keepIn K (.ref f_law_tried) = true)
    (a_law_agreed : PySem.W.nsIn K mainGlobals "_law_agreed" = some (some (.ref f_law_agreed)))
    (l_law_agreed : K.lookup f_law_agreed = some ⟨oc_law_agreed, od_law_agreed, .func (PySem.W.fnOf "_law_agreed" "_law_agreed" (defArgs s_law_agreed) (defBody s_law_agreed) (defScope s_law_agreed) .none kV_law_agreed dc_law_agreed pm_law_agreed an_law_agreed cd_law_agreed ct_law_agreed), sl_law_agreed⟩)
    (c_law_agreed : PySem.W.codeIn K cd_law_agreed "_law_agreed" = true)
    (k_law_agreed : PySem.W.keepIn K (.ref f_law_agreed) = true)
    (a_law_spoilt : PySem.W.nsIn K mainGlobals "_law_spoilt" = some (some (.ref f_law_spoilt)))
    (l_law_spoilt : K.lookup f_law_spoilt = some ⟨oc_law_spoilt, od_law_spoilt, .func (PySem.W.fnOf "_law_spoilt" "_law_spoilt" (defArgs s_law_spoilt) (defBody s_law_spoilt) (defScope s_law_spoilt) .none kV_law_spoilt dc_law_spoilt pm_law_spoilt an_law_spoilt cd_law_spoilt ct_law_spoilt), sl_law_spoilt⟩)
    (c_law_spoilt : PySem.W.codeIn K cd_law_spoilt "_law_spoilt" = true)
    (k_law_spoilt : PySem.W.keepIn K (.ref f_law_spoilt) = true)
    (a_law : PySem.W.nsIn K mainGlobals "law" = some (some (.ref f_law)))
    (l_law : K.lookup f_law = some ⟨oc_law, od_law, .func (PySem.W.fnOf "law" "law" (defArgs s_law) (defBody s_law) (defScope s_law) .none kV_law dc_law pm_law an_law cd_law ct_law), sl_law⟩)
    (c_law : PySem.W.codeIn K cd_law "law" = true)
    (k_law : PySem.W.keepIn K (.ref f_law) = true)
    (pg_Disks : PySem.W.plainGet K C_Disks Str.empty = true)
    (hd_Disks : PySem.W.hasDictIn K C_Disks = true)
    (po_Disks : PySem.W.plainOver K C_Disks = true)
    (sa_Disks : PySem.W.findIn K (.ref C_Disks) "__setattr__" = some (some (.builtin "object.__setattr__")))
    (mk_Disks : PySem.W.makesIn K C_Disks = true)
    (kc_Disks : PySem.W.keepIn K (.ref C_Disks) = true)
    (n_Disks_rows : PySem.W.findIn K (.ref C_Disks) "rows" = some none)
    (y_n : PySem.W.specialIn K (.builtin "object.__class__") "__get__" = some (some (.builtin "getset_descriptor.__get__")))
    (y_t : PySem.W.takesIn K (.builtin "object.__class__") = some true)
    (ex_OutOfRange : PySem.W.excIn K C_OutOfRange [.type "ValueError", .type "Exception", .type "BaseException", .type "object"] "ValueError.__new__" = true)
    (kx_OutOfRange : PySem.W.keepIn K (.ref C_OutOfRange) = true)
    (yg_OutOfRange : PySem.W.findIn K (.ref C_OutOfRange) "__getattribute__" = some (some (.builtin "BaseException.__getattribute__")))
    (yk_OutOfRange : PySem.W.findIn K (.ref C_OutOfRange) "__getattr__" = some none)
    (yd_OutOfRange : PySem.W.hasDictIn K C_OutOfRange = true)
    (ya_OutOfRange : PySem.W.findIn K (.ref C_OutOfRange) "__class__" = some (some (.builtin "object.__class__")))
    (ym_OutOfRange : PySem.W.mroIn K C_OutOfRange (.type "object") = some true)
    (ex_Malformed : PySem.W.excIn K C_Malformed [.type "ValueError", .type "Exception", .type "BaseException", .type "object"] "ValueError.__new__" = true)
    (kx_Malformed : PySem.W.keepIn K (.ref C_Malformed) = true)
    (yg_Malformed : PySem.W.findIn K (.ref C_Malformed) "__getattribute__" = some (some (.builtin "BaseException.__getattribute__")))
    (yk_Malformed : PySem.W.findIn K (.ref C_Malformed) "__getattr__" = some none)
    (yd_Malformed : PySem.W.hasDictIn K C_Malformed = true)
    (ya_Malformed : PySem.W.findIn K (.ref C_Malformed) "__class__" = some (some (.builtin "object.__class__")))
    (ym_Malformed : PySem.W.mroIn K C_Malformed (.type "object") = some true)
    (bx_Malformed : PySem.W.subIn K (.ref C_Malformed) (.type "BaseException") = some true)
    (tx_Malformed : PySem.W.typeIn K (.ref C_Malformed) = some (.type "type"))
    (ix_Malformed : PySem.W.isClsIn K C_Malformed = true)
    (bx_NotThere : PySem.W.subIn K (.ref C_NotThere) (.type "BaseException") = some true)
    (tx_NotThere : PySem.W.typeIn K (.ref C_NotThere) = some (.type "type"))
    (ix_NotThere : PySem.W.isClsIn K C_NotThere = true)
    (bx_OutOfRange : PySem.W.subIn K (.ref C_OutOfRange) (.type "BaseException") = some true)
    (tx_OutOfRange : PySem.W.typeIn K (.ref C_OutOfRange) = some (.type "type"))
    (ix_OutOfRange : PySem.W.isClsIn K C_OutOfRange = true)
    (bx_Refused : PySem.W.subIn K (.ref C_Refused) (.type "BaseException") = some true)
    (tx_Refused : PySem.W.typeIn K (.ref C_Refused) = some (.type "type"))
    (ix_Refused : PySem.W.isClsIn K C_Refused = true)
    (bx_TooMuch : PySem.W.subIn K (.ref C_TooMuch) (.type "BaseException") = some true)
    (tx_TooMuch : PySem.W.typeIn K (.ref C_TooMuch) = some (.type "type"))
    (ix_TooMuch : PySem.W.isClsIn K C_TooMuch = true)
    (bx_TraceError : PySem.W.subIn K (.ref C_TraceError) (.type "BaseException") = some true)
    (tx_TraceError : PySem.W.typeIn K (.ref C_TraceError) = some (.type "type"))
    (ix_TraceError : PySem.W.isClsIn K C_TraceError = true)
    (s_OutOfRange_TraceError : PySem.W.subIn K (.ref C_OutOfRange) (.ref C_TraceError) = some true)
    (s_Malformed_TraceError : PySem.W.subIn K (.ref C_Malformed) (.ref C_TraceError) = some true)
    (s_OutOfRange_Malformed : PySem.W.subIn K (.ref C_OutOfRange) (.ref C_Malformed) = some false)
    (s_OutOfRange_NotThere : PySem.W.subIn K (.ref C_OutOfRange) (.ref C_NotThere) = some false)
    (s_OutOfRange_Refused : PySem.W.subIn K (.ref C_OutOfRange) (.ref C_Refused) = some false)
    (s_OutOfRange_TooMuch : PySem.W.subIn K (.ref C_OutOfRange) (.ref C_TooMuch) = some false)
    (s_Malformed_OutOfRange : PySem.W.subIn K (.ref C_Malformed) (.ref C_OutOfRange) = some false)
    (s_Malformed_NotThere : PySem.W.subIn K (.ref C_Malformed) (.ref C_NotThere) = some false)
    (s_Malformed_Refused : PySem.W.subIn K (.ref C_Malformed) (.ref C_Refused) = some false)
    (s_Malformed_TooMuch : PySem.W.subIn K (.ref C_Malformed) (.ref C_TooMuch) = some false)
    (ne_OutOfRange_Malformed : C_OutOfRange ≠ C_Malformed)
    (ne_OutOfRange_NotThere : C_OutOfRange ≠ C_NotThere)
    (ne_OutOfRange_Refused : C_OutOfRange ≠ C_Refused)
    (ne_OutOfRange_TooMuch : C_OutOfRange ≠ C_TooMuch)
    (ne_Malformed_OutOfRange : C_Malformed ≠ C_OutOfRange)
    (ne_Malformed_NotThere : C_Malformed ≠ C_NotThere)
    (ne_Malformed_Refused : C_Malformed ≠ C_Refused)
    (ne_Malformed_TooMuch : C_Malformed ≠ C_TooMuch)
    (b_len : PySem.W.nsIn K mainGlobals "len" = some none)
    (b_abs : PySem.W.nsIn K mainGlobals "abs" = some none)
    (b_int : PySem.W.nsIn K mainGlobals "int" = some none)
    (b_list : PySem.W.nsIn K mainGlobals "list" = some none)
    (b_reversed : PySem.W.nsIn K mainGlobals "reversed" = some none)
    (b_isinstance : PySem.W.nsIn K mainGlobals "isinstance" = some none)
    (b_range : PySem.W.nsIn K mainGlobals "range" = some none)
    (b_bool : PySem.W.nsIn K mainGlobals "bool" = some none)
    (b_str : PySem.W.nsIn K mainGlobals "str" = some none)
    (b_tuple : PySem.W.nsIn K mainGlobals "tuple" = some none)
    (v_DISKS : PySem.W.nsIn K mainGlobals "DISKS" = some (some (.int 3 tk_DISKS))) :
    ∃ fd : FuncData, (∀ (s : Shared) (v : Value), BindsTo s fd ⟨[v], []⟩ [("script", v)]) ∧ ∀ base : Heap, K.In base → base.Ns mainGlobals mg → FnOk P w K mg base CX0 5 fa fd ["script"] (sp_law K) := by
  have T : Txt K mg ⟨C_Disks, C_TraceError, C_OutOfRange, C_Malformed, C_NotThere, C_Refused, C_TooMuch⟩ := {
    is_number := ⟨_, _, fun_mk (st := s_is_number) l_is_number c_is_number k_is_number, (Fun.binds (ps := ["value", "least", "most"]) (fun_mk (st := s_is_number) l_is_number c_is_number k_is_number) fun _ _ _ _ _ _ us hl => match us, hl with | [_, _, _], _ => rfl), PySem.W.mg_of X G a_is_number⟩,
    is_line := ⟨_, _, fun_mk (st := s_is_line) l_is_line c_is_line k_is_line, (Fun.binds (ps := ["value"]) (fun_mk (st := s_is_line) l_is_line c_is_line k_is_line) fun _ _ _ _ _ _ us hl => match us, hl with | [_], _ => rfl), PySem.W.mg_of X G a_is_line⟩,
    Disks__init_ := ⟨_, _, fun_mk (st := s_Disks__init_) l_Disks__init_ c_Disks__init_ k_Disks__init_, (Fun.binds (ps := ["self"]) (fun_mk (st := s_Disks__init_) l_Disks__init_ c_Disks__init_ k_Disks__init_) fun _ _ _ _ _ _ us hl => match us, hl with | [_], _ => rfl), ⟨mk_Disks, a_Disks__init_, i_Disks__init_, kc_Disks⟩, ⟨pg_Disks, hd_Disks, po_Disks, sa_Disks⟩, PySem.W.mg_of X G a_Disks⟩,
    Disks_lines := ⟨_, _, fun_mk (st := s_Disks_lines) l_Disks_lines c_Disks_lines k_Disks_lines, (Fun.binds (ps := ["self", "disk"]) (fun_mk (st := s_Disks_lines) l_Disks_lines c_Disks_lines k_Disks_lines) fun _ _ _ _ _ _ us hl => match us, hl with | [_, _], _ => rfl), ⟨a_Disks_lines, i_Disks_lines, k_Disks_lines⟩⟩,
    Disks_write := ⟨_, _, fun_mk (st := s_Disks_write) l_Disks_write c_Disks_write k_Disks_write, (Fun.binds (ps := ["self", "line", "reach"]) (fun_mk (st := s_Disks_write) l_Disks_write c_Disks_write k_Disks_write) fun _ _ _ _ _ _ us hl => match us, hl with | [_, _, _], _ => rfl), ⟨a_Disks_write, i_Disks_write, k_Disks_write⟩⟩,
    Disks_spoil := ⟨_, _, fun_mk (st := s_Disks_spoil) l_Disks_spoil c_Disks_spoil k_Disks_spoil, (Fun.binds (ps := ["self", "disk", "lines"]) (fun_mk (st := s_Disks_spoil) l_Disks_spoil c_Disks_spoil k_Disks_spoil) fun _ _ _ _ _ _ us hl => match us, hl with | [_, _, _], _ => rfl), ⟨a_Disks_spoil, i_Disks_spoil, k_Disks_spoil⟩⟩,
    Disks_agreed := ⟨_, _, fun_mk (st := s_Disks_agreed) l_Disks_agreed c_Disks_agreed k_Disks_agreed, (Fun.binds (ps := ["self"]) (fun_mk (st := s_Disks_agreed) l_Disks_agreed c_Disks_agreed k_Disks_agreed) fun _ _ _ _ _ _ us hl => match us, hl with | [_], _ => rfl), ⟨a_Disks_agreed, i_Disks_agreed, k_Disks_agreed⟩⟩,
    Disks_mend := ⟨_, _, fun_mk (st := s_Disks_mend) l_Disks_mend c_Disks_mend k_Disks_mend, (Fun.binds (ps := ["self"]) (fun_mk (st := s_Disks_mend) l_Disks_mend c_Disks_mend k_Disks_mend) fun _ _ _ _ _ _ us hl => match us, hl with | [_], _ => rfl), ⟨a_Disks_mend, i_Disks_mend, k_Disks_mend⟩⟩,
    law_draws := ⟨_, _, fun_mk (st := s_law_draws) l_law_draws c_law_draws k_law_draws, (Fun.binds (ps := ["script"]) (fun_mk (st := s_law_draws) l_law_draws c_law_draws k_law_draws) fun _ _ _ _ _ _ us hl => match us, hl with | [_], _ => rfl), PySem.W.mg_of X G a_law_draws⟩,
    law_take := ⟨_, _, fun_mk (st := s_law_take) l_law_take c_law_take k_law_take, (Fun.binds (ps := ["draws", "limit"]) (fun_mk (st := s_law_take) l_law_take c_law_take k_law_take) fun _ _ _ _ _ _ us hl => match us, hl with | [_, _], _ => rfl), PySem.W.mg_of X G a_law_take⟩,
    law_alike := ⟨_, _, fun_mk (st := s_law_alike) l_law_alike c_law_alike k_law_alike, (Fun.binds (ps := ["found", "due"]) (fun_mk (st := s_law_alike) l_law_alike c_law_alike k_law_alike) fun _ _ _ _ _ _ us hl => match us, hl with | [_, _], _ => rfl), PySem.W.mg_of X G a_law_alike⟩,
    law_word := ⟨_, _, fun_mk (st := s_law_word) l_law_word c_law_word k_law_word, (Fun.binds (ps := ["e"]) (fun_mk (st := s_law_word) l_law_word c_law_word k_law_word) fun _ _ _ _ _ _ us hl => match us, hl with | [_], _ => rfl), PySem.W.mg_of X G a_law_word⟩,
    law_tried := ⟨_, _, fun_mk (st := s_law_tried) l_law_tried c_law_tried k_law_tried, (Fun.binds (ps := ["disks", "which", "one", "other"]) (fun_mk (st := s_law_tried) l_law_tried c_law_tried k_law_tried) fun _ _ _ _ _ _ us hl => match us, hl with | [_, _, _, _], _ => rfl), PySem.W.mg_of X G a_law_tried⟩,
    law_agreed := ⟨_, _, fun_mk (st := s_law_agreed) l_law_agreed c_law_agreed k_law_agreed, (Fun.binds (ps := ["rows"]) (fun_mk (st := s_law_agreed) l_law_agreed c_law_agreed k_law_agreed) fun _ _ _ _ _ _ us hl => match us, hl with | [_], _ => rfl), PySem.W.mg_of X G a_law_agreed⟩,
    law_spoilt := ⟨_, _, fun_mk (st := s_law_spoilt) l_law_spoilt c_law_spoilt k_law_spoilt, (Fun.binds (ps := ["draws", "lines"]) (fun_mk (st := s_law_spoilt) l_law_spoilt c_law_spoilt k_law_spoilt) fun _ _ _ _ _ _ us hl => match us, hl with | [_, _], _ => rfl), PySem.W.mg_of X G a_law_spoilt⟩,
    law := ⟨_, _, fun_mk (st := s_law) l_law c_law k_law, (Fun.binds (ps := ["script"]) (fun_mk (st := s_law) l_law c_law k_law) fun _ _ _ _ _ _ us hl => match us, hl with | [_], _ => rfl), PySem.W.mg_of X G a_law⟩,
    n_Disks_rows := n_Disks_rows,
    x_TraceError := ⟨PySem.W.mg_of X G a_TraceError⟩,
    x_OutOfRange := ⟨ex_OutOfRange, PySem.W.mg_of X G a_OutOfRange, kx_OutOfRange, bx_OutOfRange, tx_OutOfRange, ⟨yg_OutOfRange, yk_OutOfRange, bx_OutOfRange, yd_OutOfRange, ya_OutOfRange, y_n, y_t, ym_OutOfRange⟩⟩,
    x_Malformed := ⟨ex_Malformed, PySem.W.mg_of X G a_Malformed, kx_Malformed, bx_Malformed, tx_Malformed, ⟨yg_Malformed, yk_Malformed, bx_Malformed, yd_Malformed, ya_Malformed, y_n, y_t, ym_Malformed⟩⟩,
    x_NotThere := ⟨PySem.W.mg_of X G a_NotThere⟩,
    x_Refused := ⟨PySem.W.mg_of X G a_Refused⟩,
    x_TooMuch := ⟨PySem.W.mg_of X G a_TooMuch⟩,
    e_OutOfRange_TraceError := exm_of bx_TraceError ix_TraceError tx_TraceError s_OutOfRange_TraceError,
    e_Malformed_TraceError := exm_of bx_TraceError ix_TraceError tx_TraceError s_Malformed_TraceError,
    i_OutOfRange_OutOfRange := kit_self,
    i_OutOfRange_Malformed := kit_no ne_OutOfRange_Malformed ix_Malformed tx_Malformed s_OutOfRange_Malformed,
    i_OutOfRange_NotThere := kit_no ne_OutOfRange_NotThere ix_NotThere tx_NotThere s_OutOfRange_NotThere,
    i_OutOfRange_Refused := kit_no ne_OutOfRange_Refused ix_Refused tx_Refused s_OutOfRange_Refused,
    i_OutOfRange_TooMuch := kit_no ne_OutOfRange_TooMuch ix_TooMuch tx_TooMuch s_OutOfRange_TooMuch,
    i_Malformed_OutOfRange := kit_no ne_Malformed_OutOfRange ix_OutOfRange tx_OutOfRange s_Malformed_OutOfRange,
    i_Malformed_Malformed := kit_self,
    i_Malformed_NotThere := kit_no ne_Malformed_NotThere ix_NotThere tx_NotThere s_Malformed_NotThere,
    i_Malformed_Refused := kit_no ne_Malformed_Refused ix_Refused tx_Refused s_Malformed_Refused,
    i_Malformed_TooMuch := kit_no ne_Malformed_TooMuch ix_TooMuch tx_TooMuch s_Malformed_TooMuch,
    b_len := PySem.W.mg_none_of X G b_len,
    b_abs := PySem.W.mg_none_of X G b_abs,
    b_int := PySem.W.mg_none_of X G b_int,
    b_list := PySem.W.mg_none_of X G b_list,
    b_reversed := PySem.W.mg_none_of X G b_reversed,
    b_isinstance := PySem.W.mg_none_of X G b_isinstance,
    b_range := PySem.W.mg_none_of X G b_range,
    b_bool := PySem.W.mg_none_of X G b_bool,
    b_str := PySem.W.mg_none_of X G b_str,
    b_tuple := PySem.W.mg_none_of X G b_tuple,
    c_DISKS := ⟨_, PySem.W.mg_of X G v_DISKS, ⟨_, rfl⟩⟩ }
  have e := hfa.symm.trans T.law.g
  cases e
  obtain ⟨oc, od, kV, dc, pm, an, cd, ct, sl, e, _⟩ := T.law.F.ex
  exact ⟨T.law.fd, fun s v => by rw [e]; exact .of_eq rfl, fun base _ _ => ok_all T base⟩
end HL
open PySem PySem.W PyProof.Rows
set_option maxRecDepth 100000 in
set_option maxHeartbeats 0 in
theorem PySem.Challenge.cw_sametrace_k77_whole_three_disks_holds : PySem.Challenge.rw_sametrace_k77_whole_three_disks.Holds := by
  w_on; o_law; k_head; (case hw => w_witness2)
  k_fill
  refine L2.walk_of (l := PySem.Challenge.rw_sametrace_k77_whole_three_disks) (n := 63) (k := 5) (x := "script") (CX := fun _ => L2.CX0) (sp := fun w => HL.sp_law _) rfl (by decide) rfl ⟨rfl, by decide, by decide⟩ (fun w h Y => PySem.W.kIn_of Y) ?F (fun _ _ a ns hl _ hS => ⟨a, ns, rfl, hS, hl, fun _ => rfl⟩) (fun _ _ _ _ _ z => z)
  case F =>
    intro w mg fa h KX G hmg
    refine' HL.all_mk KX G hmg ?a_Disks ?a_TraceError ?a_OutOfRange ?a_Malformed ?a_NotThere ?a_Refused ?a_TooMuch ?a_is_number ?l_is_number ?c_is_number ?k_is_number ?a_is_line ?l_is_line ?c_is_line ?k_is_line ?a_Disks__init_ ?i_Disks__init_ ?l_Disks__init_ ?c_Disks__init_ ?k_Disks__init_ ?a_Disks_lines ?i_Disks_lines ?l_Disks_lines ?c_Disks_lines ?k_Disks_lines ?a_Disks_write ?i_Disks_write ?l_Disks_write ?c_Disks_write ?k_Disks_write ?a_Disks_spoil ?i_Disks_spoil ?l_Disks_spoil ?c_Disks_spoil ?k_Disks_spoil ?a_Disks_agreed ?i_Disks_agreed ?l_Disks_agreed ?c_Disks_agreed ?k_Disks_agreed ?a_Disks_mend ?i_Disks_mend ?l_Disks_mend ?c_Disks_mend ?k_Disks_mend ?a_law_draws ?l_law_draws ?c_law_draws ?k_law_draws ?a_law_take ?l_law_take ?c_law_take ?k_law_take ?a_law_alike ?l_law_alike ?c_law_alike ?k_law_alike ?a_law_word ?l_law_word ?c_law_word ?k_law_word ?a_law_tried ?l_law_tried ?c_law_tried ?k_law_tried ?a_law_agreed ?l_law_agreed ?c_law_agreed ?k_law_agreed ?a_law_spoilt ?l_law_spoilt ?c_law_spoilt ?k_law_spoilt ?a_law ?l_law ?c_law ?k_law ?pg_Disks ?hd_Disks ?po_Disks ?sa_Disks ?mk_Disks ?kc_Disks ?n_Disks_rows ?y_n ?y_t ?ex_OutOfRange ?kx_OutOfRange ?yg_OutOfRange ?yk_OutOfRange ?yd_OutOfRange ?ya_OutOfRange ?ym_OutOfRange ?ex_Malformed ?kx_Malformed ?yg_Malformed ?yk_Malformed ?yd_Malformed ?ya_Malformed ?ym_Malformed ?bx_Malformed ?tx_Malformed ?ix_Malformed ?bx_NotThere ?tx_NotThere ?ix_NotThere ?bx_OutOfRange ?tx_OutOfRange ?ix_OutOfRange ?bx_Refused ?tx_Refused ?ix_Refused ?bx_TooMuch ?tx_TooMuch ?ix_TooMuch ?bx_TraceError ?tx_TraceError ?ix_TraceError ?s_OutOfRange_TraceError ?s_Malformed_TraceError ?s_OutOfRange_Malformed ?s_OutOfRange_NotThere ?s_OutOfRange_Refused ?s_OutOfRange_TooMuch ?s_Malformed_OutOfRange ?s_Malformed_NotThere ?s_Malformed_Refused ?s_Malformed_TooMuch ?ne_OutOfRange_Malformed ?ne_OutOfRange_NotThere ?ne_OutOfRange_Refused ?ne_OutOfRange_TooMuch ?ne_Malformed_OutOfRange ?ne_Malformed_NotThere ?ne_Malformed_Refused ?ne_Malformed_TooMuch ?b_len ?b_abs ?b_int ?b_list ?b_reversed ?b_isinstance ?b_range ?b_bool ?b_str ?b_tuple ?v_DISKS
    (case a_Disks => k_is); (case a_TraceError => k_is); (case a_OutOfRange => k_is); (case a_Malformed => k_is); (case a_NotThere => k_is); (case a_Refused => k_is)
    (case a_TooMuch => k_is); (case a_is_number => k_is); (case l_is_number => k_is); (case c_is_number => k_is); (case k_is_number => k_is); (case a_is_line => k_is)
    (case l_is_line => k_is); (case c_is_line => k_is); (case k_is_line => k_is); (case a_Disks__init_ => k_is); (case i_Disks__init_ => k_is); (case l_Disks__init_ => k_is)
    (case c_Disks__init_ => k_is); (case k_Disks__init_ => k_is); (case a_Disks_lines => k_is); (case i_Disks_lines => k_is); (case l_Disks_lines => k_is); (case c_Disks_lines => k_is)
    (case k_Disks_lines => k_is); (case a_Disks_write => k_is); (case i_Disks_write => k_is); (case l_Disks_write => k_is); (case c_Disks_write => k_is); (case k_Disks_write => k_is)
    (case a_Disks_spoil => k_is); (case i_Disks_spoil => k_is); (case l_Disks_spoil => k_is); (case c_Disks_spoil => k_is); (case k_Disks_spoil => k_is); (case a_Disks_agreed => k_is)
    (case i_Disks_agreed => k_is); (case l_Disks_agreed => k_is); (case c_Disks_agreed => k_is); (case k_Disks_agreed => k_is); (case a_Disks_mend => k_is); (case i_Disks_mend => k_is)
    (case l_Disks_mend => k_is); (case c_Disks_mend => k_is); (case k_Disks_mend => k_is); (case a_law_draws => k_is); (case l_law_draws => k_is); (case c_law_draws => k_is)
    (case k_law_draws => k_is); (case a_law_take => k_is); (case l_law_take => k_is); (case c_law_take => k_is); (case k_law_take => k_is); (case a_law_alike => k_is)
    (case l_law_alike => k_is); (case c_law_alike => k_is); (case k_law_alike => k_is); (case a_law_word => k_is); (case l_law_word => k_is); (case c_law_word => k_is)
    (case k_law_word => k_is); (case a_law_tried => k_is); (case l_law_tried => k_is); (case c_law_tried => k_is); (case k_law_tried => k_is); (case a_law_agreed => k_is)
    (case l_law_agreed => k_is); (case c_law_agreed => k_is); (case k_law_agreed => k_is); (case a_law_spoilt => k_is); (case l_law_spoilt => k_is); (case c_law_spoilt => k_is)
    (case k_law_spoilt => k_is); (case a_law => k_is); (case l_law => k_is); (case c_law => k_is); (case k_law => k_is); (case pg_Disks => k_is)
    (case hd_Disks => k_is); (case po_Disks => k_is); (case sa_Disks => k_is); (case mk_Disks => k_is); (case kc_Disks => k_is); (case n_Disks_rows => k_is)
    (case y_n => k_is); (case y_t => k_is); (case ex_OutOfRange => k_exc); (case kx_OutOfRange => k_is); (case yg_OutOfRange => k_is); (case yk_OutOfRange => k_is)
    (case yd_OutOfRange => k_is); (case ya_OutOfRange => k_is); (case ym_OutOfRange => k_is); (case ex_Malformed => k_exc); (case kx_Malformed => k_is); (case yg_Malformed => k_is)
    (case yk_Malformed => k_is); (case yd_Malformed => k_is); (case ya_Malformed => k_is); (case ym_Malformed => k_is); (case bx_Malformed => k_is); (case tx_Malformed => k_is)
    (case ix_Malformed => k_is); (case bx_NotThere => k_is); (case tx_NotThere => k_is); (case ix_NotThere => k_is); (case bx_OutOfRange => k_is); (case tx_OutOfRange => k_is)
    (case ix_OutOfRange => k_is); (case bx_Refused => k_is); (case tx_Refused => k_is); (case ix_Refused => k_is); (case bx_TooMuch => k_is); (case tx_TooMuch => k_is)
    (case ix_TooMuch => k_is); (case bx_TraceError => k_is); (case tx_TraceError => k_is); (case ix_TraceError => k_is); (case s_OutOfRange_TraceError => k_is); (case s_Malformed_TraceError => k_is)
    (case s_OutOfRange_Malformed => k_is); (case s_OutOfRange_NotThere => k_is); (case s_OutOfRange_Refused => k_is); (case s_OutOfRange_TooMuch => k_is); (case s_Malformed_OutOfRange => k_is); (case s_Malformed_NotThere => k_is)
    (case s_Malformed_Refused => k_is); (case s_Malformed_TooMuch => k_is); (case ne_OutOfRange_Malformed => decide); (case ne_OutOfRange_NotThere => decide); (case ne_OutOfRange_Refused => decide); (case ne_OutOfRange_TooMuch => decide)
    (case ne_Malformed_OutOfRange => decide); (case ne_Malformed_NotThere => decide); (case ne_Malformed_Refused => decide); (case ne_Malformed_TooMuch => decide); (case b_len => k_is); (case b_abs => k_is)
    (case b_int => k_is); (case b_list => k_is); (case b_reversed => k_is); (case b_isinstance => k_is); (case b_range => k_is); (case b_bool => k_is)
    (case b_str => k_is); (case b_tuple => k_is); (case v_DISKS => k_is)
#print axioms PySem.Challenge.cw_sametrace_k77_whole_three_disks_holds
