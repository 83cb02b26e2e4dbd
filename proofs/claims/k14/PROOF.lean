import PyProof.Rows.All
import Wide.All
import OpenK.AllK
import Wide.FinOn
import HandS.ForMost
import HandS.Exc
import HandS.ExcOwn
import HandS.TryOnly
import HandS.WordsExc
import HandS.ExcIs
import HandS.Codes
import HandS.Flow
import HandS.Walk
import HandS.DictComp
import HandS.SetKeys
import HandS.OwnEq
import HandS.Defaults
import HandS.Conv
import HandS.ListEq
import HandS.Style
import HandS.Small
import HandS.IsInst
import KE.KDictPairs
import KE.KEqDict
import HandS.Strs
import PyProof.NeKinds
import HandS.Head0
import HandS.Head1
import HandS.Head2
import HandS.HeadEnd
import HandS.HeadHook1
import HandS.HeadHook2
import PySem.Challenge.RW_soundtrips_k14_facts_and_what_cannot_be
import HandS.Text
import HandS.Zip
import Lean
import KE.KStateDown
set_option Elab.async false
set_option linter.all false
set_option maxRecDepth 100000
set_option maxHeartbeats 4000000
/-! Own rules over the hand layer, for laws over the given program. -/
namespace Sx
open PySem PySem.Spec L2

/-! ### an own exception, made of nothing -/
theorem mkExc0 {X : Cx} {C : Addr} {bmB : List Value} {B newId initId : String} {x : Str} {p pos : Pos} (F : ExcBaseFacts B newId initId bmB) (ex : PySem.W.excIn X.K C bmB newId = true)
    (gl : X.mg x = some (.ref C)) (kp : PySem.W.keepIn X.K (.ref C) = true) (rs : Raises X (.ref C)) (hg : Gl X x) (hdb : (x == ("__debug__" : Str)) = false := by decide) :
    PMk X (.Call (.Name x p) [] [] pos) (fun _ H Q => Q (.ref C) none H) := by
  intro pins s σ H Q I hq
  refine wpAny_Call_Name_kw (ld_glob I hg gl ?_ hdb)
  refine PySem.W.callWith_K0 I.kIn kp ?_
  show wpAny _ _ (call (.ref C) []) _ _ _
  obtain ⟨bm, N, nm, qn, bs, hdct, sn, sub, ab, col, dd, k0, k1, k2, k3, k5, mN, hC, hN, hni, T⟩ := exc_obj I.kIn ex
  exact wpAny_call_exc_subT F T hC hN hni (fun h' e hm => mk_of I hm rs hq (I.hok.gone hm.new)) (Nat.zero_le _)

/-! ### a method that may raise, wished for at the caller's slots -/
def tMethE (m : Str) (sp : Sp) (E : St → XK) (to : TE) (t : TA) : TE := fun σ H Q => to σ H fun x H1 => ∃ a C dx fs, x = .ref a ∧ H1 a = some (.ins C dx fs) ∧ fs.lookup m = none ∧ t σ H1 fun vs H2 => sp (x :: vs) H2 Q (E σ)
section
variable {X : Cx} {CX : CXT} {k : Nat} {f C : Addr} {fd : FuncData} {ps : List Str} {sp : Sp} {m : Str} {p pos apos : Pos} {e o : Expr} {es : List Expr} {to : TE} {t : TA}
def tMethS (C : Addr) (m : Str) (sp : Sp) (E : St → XK) (to : TE) (t : TA) : TE := fun σ H Q => to σ H fun x H1 => ∃ a dx fs, x = .ref a ∧ H1 a = some (.ins C dx fs) ∧ fs.lookup m = none ∧ t σ H1 fun vs H2 => sp (x :: vs) H2 Q (E σ)
theorem methS {pl : Sem Bool} {E : St → XK} (ho : PE X o to) (c : Cls X.K C) (hm : Meth X.K C m f) (F : FnOk X.prog X.w X.K X.mg X.base CX k f fd ps sp) (hr : Room k X.A) (hb : Binds X.K fd ps []) (hx : ∀ σ, PassesAt CX X σ (E σ)) (ha : PA X (e :: es) t)
    (h1 : starEach (e :: es) X.env = (false, eval e X.env) :: starEach es X.env := by rfl) (h2 : (backTo pos (starEach es X.env)).any (·.1) = false := by rfl)
    (h3 : eval (.Call (.Attribute o m apos) (e :: es) [] pos) X.env = (do
      let z ← eval o X.env
      standAt apos.atName
      let (g, own) ← holding [z] (getMethod z m pl)
      callWith pos g own (backTo pos (starEach (e :: es) X.env)) (backToKw pos (keywordEach [] X.env))) := by rfl) :
    PE X (.Call (.Attribute o m apos) (e :: es) [] pos) (tMethS C m sp E to t) := by
  constructor
  intro pins s σ H Q I hq
  refine PySem.W.methodCall_KW (pl := pl) (thn (ho.run pins s σ H _ I hq) ?_) h3
  rintro u s1 ⟨x, H1, I1, rx, a, dx, fs, ex, ea, l, q⟩
  subst ex
  obtain rfl : u = Value.ref a := rx
  refine getmeth_ok I1 ea c hm l (PySem.W.callWith_K (first := [.ref a]) (h₀ := X.base) I.ok.mod.kin hm.kp (thn (ha.run pos pins s1 σ H1 _ I1 q) ?_) h1 h2)
  rintro us s2 ⟨vs, H2, I2, r, q2⟩
  exact ⟨I2.kIn, run_fnS (us := .ref a :: us) (vs := .ref a :: vs) F hr hb (hx σ) I2 (.cons rfl r) q2⟩
/-- o.m(k = v, ..): keywords alone -/
def tMethK (C : Addr) (m : Str) (n : Nat) (sp : Sp) (gV : List V → List V → List V) (E : XK) (to : TE) (tk : TA) : TE := fun σ H Q => to σ H fun x H1 => ∃ a dx fs, x = .ref a ∧ H1 a = some (.ins C dx fs) ∧ fs.lookup m = none ∧
  tk σ H1 fun zs H2 => zs.length = n ∧ sp (gV [x] zs) H2 Q E
theorem methK {pl : Sem Bool} {E : XK} {kws : List Keyword} {ks : List Str} {g : List Value → List Value → List Value} {gV : List V → List V → List V} {tk : TA} (ho : PE X o to) (c : Cls X.K C) (hm : Meth X.K C m f) (F : FnOk X.prog X.w X.K X.mg X.base CX k f fd ps sp) (hr : Room k X.A)
    (hb : KBn X.K fd ps 1 ks g gV) (hx : Passes CX X E) (hk : PK X kws tk) (h1 : (backToKw pos (keywordEach kws X.env)).all (·.1.isSome) = true := by rfl) (h2 : (backToKw pos (keywordEach kws X.env)).filterMap (·.1) = ks := by rfl)
    (h4 : ((backTo pos (starEach [] X.env)).any (·.1) || (backToKw pos (keywordEach kws X.env)).any (·.1.isNone)) = false := by rfl)
    (h3 : eval (.Call (.Attribute o m apos) [] kws pos) X.env = (do
      let z ← eval o X.env
      standAt apos.atName
      let (g, own) ← holding [z] (getMethod z m pl)
      callWith pos g own (backTo pos (starEach [] X.env)) (backToKw pos (keywordEach kws X.env))) := by rfl) :
    PE X (.Call (.Attribute o m apos) [] kws pos) (tMethK C m ks.length sp gV E to tk) := by
  constructor
  intro pins s σ H Q I hq
  refine PySem.W.methodCall_KW (pl := pl) (thn (ho.run pins s σ H _ I hq) ?_) h3
  rintro u s1 ⟨x, H1, I1, rx, a, dx, fs, ex, ea, l, q⟩
  subst ex
  obtain rfl : u = Value.ref a := rx
  refine getmeth_ok I1 ea c hm l (PySem.W.callWith_KW0 (first := [.ref a]) (h₀ := X.base) I.ok.mod.kin hm.kp h1 (thn (hk.run pos pins s1 σ H1 _ I1 q) ?_) h4)
  rintro ws s2 ⟨zs, H2, I2, rz, ln, q2⟩
  refine ⟨I2.kIn, ?_⟩
  rw [h2]
  exact run_fnN (us := [.ref a]) (vs := [.ref a]) F hr hb hx I2 (.cons rfl .nil) rz rfl ln q2
end

/-! ### {k: v for target in iter if ..}, keys ints, texts or tuples of them -/
section
variable {X : Cx}
/-- a dict is stored to by a comprehension -/
theorem dictSet_any {pins : List (Addr × Obj)} {σ : St} {H H' : Hp} {s : Shared} {E : Value → Shared → Prop} {D : Addr} {y v : V} {u r : Value} {Q : Unit → Shared → Prop} (hu : X.A.units + 1 < cLine) (I : Inv X pins σ H s) (g : DPut H D y v H')
    (ry : RelV y u) (rv : RelV v r) (h : ∀ s', Inv X pins σ H' s' → Q () s') : wpAny (model X.prog X.w) X.A (dictSet D u r) Q E s := by
  rcases g with ⟨kvs, k, e, ey, l, eH⟩ | ⟨kvs, k, b, e, ey, eb, l, eH⟩
  · subst ey eH
    exact d_dictSet I e l ry rv h
  · subst ey eH
    cases (show u = Value.ref b from ry)
    obtain ⟨z, hd, xs, rel, dd⟩ := dt_of I.hok e
    have hz : xs.length ≤ sizeLine := (Paired.length rel) ▸ z
    have hl : (putK kvs k v).length ≤ sizeLine := Nat.le_trans (length_putK kvs k v) l
    refine wpAny_dictSet_heap (hsz := hz) (knd := tupleKind (mixKind X.prog X.w)) (Nat.lt_of_succ_lt hu) (key_of I.hok eb) dd fun h' dd' hs => h _ ?_
    obtain ⟨q, es, ep, hq, h2, h3, h4, _, h5⟩ := dd'
    refine d_write I (by rw [e]; exact True.intro) hs ⟨q, hq⟩ ⟨hl, hd, _, (rel.put k eb rv).keeps (fun c ys ec => (upd_ne (ne_of ec e (fun z => nomatch z))).trans ec), q, es, ep, hq, h2, h3, h4, h5⟩
/-- {k: v for target in iter if ..}: the new dict stands at D; it is of ints and texts or of tuples, as one says -/
def tDcA (wi : TI) (g : TG) (tt : TT) (tk tv : TE) (vs : List Nat) : TE := fun σ H Q => wi σ H fun J H1 => ∀ D, H1 D = none → ∃ (o0 : HO) (W : Nat → Nat → Hp → Prop), (o0 = .dK [] ∨ o0 = .dT []) ∧ (∃ m, W 0 m (upd H1 D o0)) ∧ ∀ i m H, W i m H →
  (J.stop i H ∧ Q (.ref D) H) ∨ (J.go i H ∧ ∃ Nx : Hp → Prop, (∀ H', Nx H' → ∃ m', m' < m ∧ W (i + 1) m' H') ∧ ∀ x H', J.yld i H x H' → g x (wipe σ vs) H' fun σ2 H2 => wipe σ2 vs = wipe σ vs ∧ tt σ2 H2 fun b H3 =>
    if b = true then tk σ2 H3 fun y H4 => tv σ2 H4 fun z H5 => ∃ H6, DPut H5 D y z H6 ∧ Nx H6 else Nx H3)
section
variable {kx vx tg iter : Expr} {ifs : List Expr} {scope : Scope} {own : List (Str × Nat)} {pos : Pos} {wi : TI} {g : TG} {tt : TT} {tk tv : TE}
theorem dcomp (hu : X.A.units + 1 < cLine) (hc : X.calm = true) (hN : X.N.Nodup) (hi : PI X tg iter wi) (ok : BlkOk X.N X.env.scope scope own)
    (pgs : ∀ (s : Shared) (H : Hp) (C : Addr) (cl : List (Str × Addr)) (fp : List Addr), PG (X.blk s H scope (compEnvC scope cl C X.env) fp) tg g)
    (pts : ∀ (s : Shared) (H : Hp) (C : Addr) (cl : List (Str × Addr)) (fp : List Addr), PTs (X.blk s H scope (compEnvC scope cl C X.env) fp) ifs tt)
    (pks : ∀ (s : Shared) (H : Hp) (C : Addr) (cl : List (Str × Addr)) (fp : List Addr), PE (X.blk s H scope (compEnvC scope cl C X.env) fp) kx tk)
    (pvs : ∀ (s : Shared) (H : Hp) (C : Addr) (cl : List (Str × Addr)) (fp : List Addr), PE (X.blk s H scope (compEnvC scope cl C X.env) fp) vx tv) (hs : ∀ x, foldedSetIterable iter X.env x = pure x := by intro _; rfl) :
    PE X (.DictComp kx vx [⟨tg, iter, ifs, 0⟩] scope pos) (tDcA wi g tt tk tv (own.map (·.2))) := by
  constructor
  intro pins s σ H Q I hq
  rw [arm_eval_DictComp]
  have frees : ∀ y ∈ scope.names, y.2 = .free → ∃ c, X.env.cells.lookup y.1 = some c := fun y hy e => (ok.free y hy e).elim (fun k => I.ok.has _ (.inl k)) fun k => I.ok.has _ (.inr k)
  refine wpAny_comprehension_free (use := none) rfl hs (closure_ok frees) ok.kind (fun y hy e => (ok.uniq y hy).trans (congrArg some e)) ?_
  refine thn (hi.run pins s σ H _ I hq) fun xv s1 hx => thn hx ?_
  rintro itv s2 ⟨it, fp, tn, J, H2, rfl, I2, T, st2, f2, q⟩
  refine wpAny_newObj_type (newEnv_comp ?_)
  have hDn : H2 s2.heap.objs.size = none := I2.hok.fresh (Nat.le_refl _)
  obtain ⟨o0, W, ho0, ⟨m0, w0⟩, turn⟩ := q s2.heap.objs.size hDn
  generalize hD : s2.heap.objs.size = D at hDn w0 turn ⊢
  generalize hs3 : ({ s2 with heap := s2.heap.push { cls := .type "dict", data := .dict #[] } } : Shared) = s3
  have h3 : s3.heap = s2.heap.push { cls := .type "dict", data := .dict #[] } := by rw [← hs3]
  have old3 : ∀ b o, s2.heap.get? b = some o → s3.heap.get? b = some o := fun b o e => by rw [h3]; exact Heap.get?_push_of_some _ e
  have I3 : Inv X pins σ (upd H2 D o0) s3 := by
    rw [← hs3, ← hD]
    refine I2.laid (t' := s2.toks) (fun b o e => Heap.get?_push_of_some _ e) (Nat.le_refl _) ?_
    rcases ho0 with z | z
    · rw [z]; exact dk_empty s2.heap I2.big
    · rw [z]; exact dt_empty s2.heap I2.big
  have small : ∀ b ∈ fp, b < s2.heap.objs.size := fun b hb => let ⟨o, e, _⟩ := T.obj _ _ st2 b hb; Heap.lt_size e
  have f3 : ∀ b ∈ fp, FpOk X pins (upd H2 D o0) b ∧ b < s3.heap.objs.size := fun b hb => by
    have lt := small b hb
    refine ⟨⟨(upd_ne (by rw [← hD]; exact Nat.ne_of_lt lt)).trans (f2 b hb).1, (f2 b hb).2⟩, ?_⟩
    rw [h3, Heap.size_push]
    exact Nat.lt_succ_of_lt lt
  have st3 : tn 0 s3.heap := T.keep _ _ _ st2 fun b _ o e => old3 b o e
  have I4 := block_start I3 ok hN f3
  generalize hH3 : upd H2 D o0 = H3 at I3 I4 w0 f3
  generalize hcl : cellsFrom (s3.heap.objs.size + 1) scope.names (cloFrom X.env.cells scope.names []) = cl at I4
  have pg := pgs s3 H3 s3.heap.objs.size cl fp
  have pt := pts s3 H3 s3.heap.objs.size cl fp
  have pk := pks s3 H3 s3.heap.objs.size cl fp
  have pv := pvs s3 H3 s3.heap.objs.size cl fp
  suffices goal : ∀ Rr : Result → Shared → Prop, (∀ s' m H', Inv X pins σ H' s' → Q (.ref D) H' → s'.heap.Ns s3.heap.objs.size m → FpOk X pins H' s3.heap.objs.size → Rr (.ok .next) s') →
      codeAny (model X.prog X.w) X.A (.compStart (.DictComp kx vx [⟨tg, iter, ifs, 0⟩] scope pos) 0 (.ref it) (.ref D) (compEnvC scope cl s3.heap.objs.size X.env)) Rr { s3 with heap := pushCells (s3.heap.push { cls := .type "dict", data := .dict #[] }) scope.names } by
    have z := goal (compPost (model X.prog X.w) X.A X.xe none (EP X pins σ Q) (.ref D) s3.heap.objs.size) fun s' m H' I' qq hn f => ⟨m, hn, fun h'' sb => by
      obtain ⟨f0, f1, f2, f3, f4, f5⟩ := f
      exact ⟨.ref D, H', I'.turned (t' := s'.toks) (fun b o hb e => (sb.2 b hb).trans e) f0 f1 f3 f4 f5, rfl, qq⟩⟩
    exact z
  intro Rr hR
  generalize hce : compEnvC scope cl s3.heap.objs.size X.env = ce at I4 pg pt pk pv ⊢
  have cL : ce.locals = s3.heap.objs.size := by rw [← hce]; rfl
  generalize hs4 : ({ s3 with heap := pushCells (s3.heap.push { cls := .type "dict", data := .dict #[] }) scope.names } : Shared) = s4 at I4 ⊢
  have st4 : tn 0 s4.heap := T.keep _ _ _ st3 fun b _ o e => by rw [← hs4]; exact pushCells_keeps _ _ _ _ (Heap.get?_push_of_some _ e)
  have stat : ∀ {σ' : St} {H' : Hp} {s' : Shared}, Inv (X.blk s3 H3 scope ce fp) [] σ' H' s' → (∀ b ∈ fp, H' b = none) → ∀ b ∈ fp, FpOk (X.blk s3 H3 scope ce fp) [] H' b := fun {σ' H' s'} J' hn b hb =>
    ⟨hn b hb, (J'.ok.exf b hb).1, J'.ok.exfs b hb, .inl hb, fun x c e => (J'.ok.exf b hb).2 x c e, fun p hp => nomatch (show p ∈ ([] : List (Addr × Obj)) from hp)⟩
  suffices loop : codeAny (model X.prog X.w) X.A (.compLoop (.DictComp kx vx [⟨tg, iter, ifs, 0⟩] scope pos) 0 (.ref it) (.ref D) ce) Rr s4 from codeAny_compStart_dict loop (T.self X.A 0 _ _ _ st4 loop)
  refine compLoop_anyD (fun n s' => ∃ i H', Inv (X.blk s3 H3 scope ce fp) [] (wipe σ (own.map (·.2))) H' s' ∧ tn i s'.heap ∧ (∀ b ∈ fp, H' b = none) ∧ W i n H') ?_ m0 ⟨0, H3, I4, st4, fun b hb => (f3 b hb).1.1, w0⟩
  rintro n s5 ⟨i, H5, I5, st5, n5, w5⟩
  rcases turn i n H5 w5 with ⟨stop, qq⟩ | ⟨go, Nx, hNx, step⟩
  · refine thnF (T.done (X.blk s3 H3 scope ce fp) rfl rfl rfl hc i [] s5 _ H5 (fun _ _ => False) I5 (stat I5 n5) st5 stop) ?_
    rintro r s6 ⟨rfl, I6⟩
    have nC : H5 s3.heap.objs.size = none := by
      have z : H5 ce.locals = none := I6.free
      rw [cL] at z
      exact z
    obtain ⟨m, hn, _⟩ := I6.loc
    have hn' : s6.heap.Ns ce.locals m := hn
    rw [cL] at hn'
    exact hR s6 m H5 (I3.call' (ch := fp) I6.os I6.base I6.hok I6.bare fun b hb => ⟨(f3 b hb).1.2.2.2.1, (f3 b hb).1.2.1, (f3 b hb).1.2.2.2.2.1, (f3 b hb).1.2.2.2.2.2⟩) qq hn' (I3.fpOk (Nat.le_refl _) nC)
  · refine thnF (T.item (X.blk s3 H3 scope ce fp) rfl rfl rfl hc i [] s5 _ H5 (fun _ _ => False) I5 (stat I5 n5) st5 go) ?_
    rintro r s6 ⟨u, rfl, h6⟩
    refine thnF h6 ?_
    rintro _ s7 ⟨x, H7, I7, r7, y7, st7, n7⟩
    refine thnF (pg.run _ s7 _ H7 x u _ (I7.pinned (stat I7 n7) (T.obj _ _ st7)) r7 (step x H7 y7)) ?_
    rintro _ s8 ⟨σ8, H8, I8, hw8, q8⟩
    refine thnF (pt.run _ s8 σ8 H8 _ I8 q8) ?_
    rintro b s9 ⟨H9, I9, q9⟩
    have fin : ∀ {s' : Shared} {H' : Hp}, Inv (X.blk s3 H3 scope ce fp) ([] ++ pinsAt fp s7.heap) σ8 H' s' → Nx H' → ∃ m, m < n ∧ ∃ i H', Inv (X.blk s3 H3 scope ce fp) [] (wipe σ (own.map (·.2))) H' s' ∧ tn i s'.heap ∧ (∀ b ∈ fp, H' b = none) ∧ W i m H' := by
      intro s' H' J' nx
      obtain ⟨m', hm, w'⟩ := hNx H' nx
      have pins' : ∀ b ∈ fp, ∀ o, s7.heap.get? b = some o → s'.heap.get? b = some o ∧ H' b = none := fun b hb o e =>
        let z := J'.pin (b, o) (List.mem_append_right _ (List.mem_append_right _ (mem_pinsAt hb e)))
        ⟨z.1, z.2.1⟩
      refine ⟨m', hm, i + 1, H', (J'.unpinned (pins := [])).weak (by rw [← hw8, wipe_length]) (fun j v e => (wipe_some (hw8 ▸ e)).1), T.keep _ _ _ st7 fun b hb o e => (pins' b hb o e).1, fun b hb => ?_, w'⟩
      obtain ⟨o, e, _⟩ := T.obj _ _ st7 b hb
      exact (pins' b hb o e).2
    cases b with
    | false =>
      rw [if_neg Bool.false_ne_true] at q9 ⊢
      exact fin I9 q9
    | true =>
      rw [if_pos rfl] at q9 ⊢
      refine thnF (pk.run _ s9 σ8 H9 _ I9 q9) ?_
      rintro z s10 ⟨yk, H10, I10, r10, q10⟩
      refine thnF (pv.run _ s10 σ8 H10 _ I10 q10) ?_
      rintro z2 s11 ⟨yv, H11, I11, r11, H12, put, nx⟩
      exact dictSet_any (X := X.blk s3 H3 scope ce fp) hu I11 put r10 r11 fun s12 I12 => fin I12 nx
/-- over anything that walks: Pv by the turn and the heap (the new dict at D within) -/
theorem dc_it {J : It} {n : Nat} {G : Hp → Prop} {Y : Nat → Hp → V → Hp → Prop} (w : Walk J n G Y) {vs : List Nat} {σ : St} {H1 : Hp} {D : Addr} {Qd : Hp → Prop} (o0 : HO) (Pv : Nat → Hp → Prop) (ho : o0 = .dK [] ∨ o0 = .dT []) (h0 : Pv 0 (upd H1 D o0)) (hG : ∀ i H, i ≤ n → Pv i H → G H)
    (hs : ∀ i x H H', i < n → Pv i H → Y i H x H' → g x (wipe σ vs) H' fun σ2 H2 => wipe σ2 vs = wipe σ vs ∧ tt σ2 H2 fun b H3 =>
      if b = true then tk σ2 H3 fun y H4 => tv σ2 H4 fun z H5 => ∃ H6, DPut H5 D y z H6 ∧ Pv (i + 1) H6 else Pv (i + 1) H3) (hd : ∀ H, Pv n H → Qd H) :
    ∃ (o0 : HO) (W : Nat → Nat → Hp → Prop), (o0 = .dK [] ∨ o0 = .dT []) ∧ (∃ m, W 0 m (upd H1 D o0)) ∧ ∀ i m H, W i m H →
      (J.stop i H ∧ Qd H) ∨ (J.go i H ∧ ∃ Nx : Hp → Prop, (∀ H', Nx H' → ∃ m', m' < m ∧ W (i + 1) m' H') ∧ ∀ x H', J.yld i H x H' → g x (wipe σ vs) H' fun σ2 H2 => wipe σ2 vs = wipe σ vs ∧ tt σ2 H2 fun b H3 =>
        if b = true then tk σ2 H3 fun y H4 => tv σ2 H4 fun z H5 => ∃ H6, DPut H5 D y z H6 ∧ Nx H6 else Nx H3) := by
  refine ⟨o0, fun i m H => m = n - i ∧ i ≤ n ∧ Pv i H, ho, ⟨n, by simp, Nat.zero_le _, h0⟩, ?_⟩
  rintro i m H ⟨rfl, hi, p⟩
  have q := hG i H hi p
  by_cases lt : i < n
  · exact .inr ⟨w.goes i H lt q, Pv (i + 1), fun H' p' => ⟨n - (i + 1), by omega, rfl, lt, p'⟩, fun x H' y => hs i x H H' lt p (w.yields i H x H' lt q y)⟩
  · obtain rfl : i = n := by omega
    exact .inl ⟨w.stops H q, hd H p⟩
end
end

/-! ### == of two dicts with tuple keys that say the same -/
section
variable {prog : Program} {w : World} {κ : Type} [DecidableEq κ] {knd : HeapKind prog w κ} {A : Around} {E : Value → Shared → Prop} {s : Shared}
theorem samePairsH {nm : String} {a b : Addr} {xs ys : List (κ × Addr × Value)} {Q : Bool → Shared → Prop} (hu : knd.room A) (ha : (a == sysModules) = false) (hb : (b == sysModules) = false) (da : s.heap.DictOfH knd a xs) (db : s.heap.DictOfH knd b ys)
    (len : xs.length = ys.length) (hits : ∀ (i : Nat) (k : κ) (p : Addr × Value), xs[i]? = some (k, p) → ∃ (j : Nat) (q : Addr × Value), ys[j]? = some (k, q) ∧ SeqAt.EqAt A s p.2 q.2 true) (h : Q true s) :
    wpAny (model prog w) A (Builtin.Dict.samePairs nm a b) Q E s := by
  obtain ⟨oa, es, ep, ea, _, hda, he, his, hn⟩ := da
  obtain ⟨ob, fs, fp, eb, _, hdb, hf, hjs, hm⟩ := db
  have l1 : es.size = xs.length := size_of_entries he
  have l2 : fs.size = ys.length := size_of_entries hf
  unfold Builtin.Dict.samePairs Builtin.Dict.showsAll
  rw [ha, hb, if_neg Bool.false_ne_true]
  refine wpAny_bind (wpAny_pure (wpAny_bind (wpAny_pure (wpAny_bind (wpAny_dictEntries ea hda ?_)))))
  dsimp only
  refine wpAny_bind (wpAny_dictEntries eb hdb ?_)
  rw [if_neg (show ¬ (es.size != fs.size) = true by rw [l1, l2, len]; simp)]
  refine wpAny_bind (wpAny_dictEpoch ea hda (wpAny_bind ?_))
  rw [Std.Legacy.Range.forIn_eq_forIn_range']
  simp only [Std.Legacy.Range.size, Nat.sub_zero, Nat.add_sub_cancel, Nat.div_one]
  refine wpAny_forIn_list _ (fun rest q z => z = s ∧ q = (none, ()) ∧ ∃ i, rest = List.range' i (es.size - i) ∧ i ≤ es.size) _ ?_ ?_ _ _ ⟨rfl, rfl, 0, by simp, Nat.zero_le _⟩
  · rintro x rest q z ⟨rfl, rfl, i, hr, hi⟩
    have lt : i < es.size := by
      rcases Nat.lt_or_ge i es.size with h | h
      · exact h
      · rw [Nat.sub_eq_zero_of_le h] at hr
        simp at hr
    have e1 : es.size - i = (es.size - (i + 1)) + 1 := by omega
    rw [e1, List.range'_succ] at hr
    obtain ⟨rfl, hr2⟩ := List.cons.inj hr
    have ltx : x < xs.length := l1 ▸ lt
    obtain ⟨k, p, hk⟩ : ∃ k p, xs[x]? = some (k, p) := ⟨_, _, List.getElem?_eq_getElem ltx⟩
    have hent : es[x]? = some (entryOfKey knd (k, p)) := by rw [entry_at he x, hk] <;> rfl
    obtain ⟨j, q, hj, eqv⟩ := hits x k p hk
    have hent2 : fs[j]? = some (entryOfKey knd (k, q)) := by rw [entry_at hf j, hj] <;> rfl
    have hkey : knd.is z.heap k p.1 := his (k, p) (List.mem_of_getElem? hk)
    refine wpAny_bind (wpAny_dictEntries ea hda ?_)
    rw [hent]
    refine wpAny_bind (wpAny_holding (wpAny_bind (wpAny_dictFind_heap hu hkey eb hdb hf hjs hm (fun no => absurd hj (no j q)) fun j' q' hj' => ?_)))
    have hq : q' = q := by
      have a1 := atKey_of_get hm hj'
      rw [atKey_of_get hm hj] at a1
      exact (Option.some.inj a1).symm
    have hent3 : fs[j']? = some (entryOfKey knd (k, q')) := by rw [entry_at hf j', hj'] <;> rfl
    refine wpAny_bind (wpAny_dictEntries eb hdb ?_)
    rw [hent3]
    refine wpAny_holding ((hq ▸ eqv) prog w _ _ ?_)
    show wpAny _ _ (if (!true) = true then _ else _) _ _ _
    rw [if_neg (by decide)]
    refine wpAny_bind (wpAny_dictEpoch ea hda ?_)
    rw [if_neg (by simp)]
    exact wpAny_pure ⟨rfl, rfl, x + 1, hr2, lt⟩
  · rintro q z ⟨rfl, rfl, _⟩
    exact wpAny_pure h
theorem eqDictH {a b : Addr} {xs ys : List (κ × Addr × Value)} {Q : Value → Shared → Prop} (hu : knd.room A.in1) (ha : (a == sysModules) = false) (hb : (b == sysModules) = false) (da : s.heap.DictOfH knd a xs) (db : s.heap.DictOfH knd b ys) (hv : A.units < cLine)
    (len : xs.length = ys.length) (hits : ∀ (i : Nat) (k : κ) (p : Addr × Value), xs[i]? = some (k, p) → ∃ (j : Nat) (q : Addr × Value), ys[j]? = some (k, q) ∧ SeqAt.EqAt A.in1 s p.2 q.2 true) (h : Q (.bool true) s) :
    wpAny (model prog w) A (compareOp .Eq (.ref a) (.ref b)) Q E s := by
  refine wpAny_richCompare_same_room (op := .Eq) da.typeIs db.typeIs PySem.F.slot_dict_eq (wpAny_call_entry PySem.F.slot_dict_eq da.typeIs PySem.F.entry_dict_eq ?_ (PySem.F.args_dict_eq_2 _ _)) hv
  show wpAny _ _ (Builtin.Dict.dictSlotArgs "__eq__" ⟨[.ref a, .ref b], []⟩ >>= _) _ _ s
  refine wpAny_bind ?_
  unfold Builtin.Dict.dictSlotArgs
  refine wpAny_bind (wpAny_notOrdered_dict da.typeIs (wpAny_pure (wpAny_bind (wpAny_isInstance (T := "dict") db.typeIs PySem.F.sub_dict_dict ?_))))
  simp only [Bool.not_true, Bool.false_eq_true, if_false]
  refine wpAny_bind (wpAny_pure (wpAny_bind (wpAny_pure (wpAny_bind (samePairsH hu ha hb da db len hits (wpAny_pure ⟨_, rfl, ?_, ?_⟩))))))
  · exact fun x => nomatch x
  · exact h
end
section
variable {X : Cx}
theorem KT.hit {H : Hp} {kvs : List (List Key × V)} {xs : List (List Key × Addr × Value)} (r : KT H kvs xs) : ∀ {i : Nat} {k : List Key} {p : Addr × Value}, xs[i]? = some (k, p) → ∃ v, kvs[i]? = some (k, v) ∧ RelV v p.2 := by
  induction r with
  | nil => intro i k p h; simp at h
  | @cons a b as bs h t ih =>
    intro i k p hi
    cases i with
    | zero =>
      obtain rfl : b = (k, p) := by simpa using hi
      obtain ⟨h1, _, h3⟩ := h
      exact ⟨a.2, congrArg some (Prod.ext h1 rfl), h3⟩
    | succ i => exact ih (i := i) (by simpa using hi)
theorem KT.hit' {H : Hp} {kvs : List (List Key × V)} {xs : List (List Key × Addr × Value)} (r : KT H kvs xs) : ∀ {i : Nat} {k : List Key} {v : V}, kvs[i]? = some (k, v) → ∃ p, xs[i]? = some (k, p) ∧ RelV v p.2 := by
  induction r with
  | nil => intro i k p h; simp at h
  | @cons a b as bs h t ih =>
    intro i k v hi
    cases i with
    | zero =>
      obtain rfl : a = (k, v) := by simpa using hi
      obtain ⟨h1, _, h3⟩ := h
      exact ⟨b.2, congrArg some (Prod.ext h1.symm rfl), h3⟩
    | succ i => exact ih (i := i) (by simpa using hi)
/-- d == e, dicts with tuple keys whose values are all True: alike -/
def rEqT : R2 := fun x y H Q => ∃ a b ks ls, x = .ref a ∧ y = .ref b ∧ H a = some (.dT ks) ∧ H b = some (.dT ls) ∧ ks.length = ls.length ∧ (∀ p ∈ ks, p.2 = .bl true ∧ p ∈ ls) ∧ Q (.bl true) H
theorem op_eqT (hu : X.A.units + 1 < cLine) : OpR X (compareOp .Eq) rEqT := by
  intro pins s σ H x y v u Q I rx ry h
  obtain ⟨a, b, ks, ls, rfl, rfl, ea, eb, len, hp, q⟩ := h
  obtain rfl : v = Value.ref a := rx
  obtain rfl : u = Value.ref b := ry
  obtain ⟨_, ya, xa, ra, da⟩ := dt_of I.hok ea
  obtain ⟨_, yb, xb, rb, db⟩ := dt_of I.hok eb
  refine eqDictH (knd := tupleKind (mixKind X.prog X.w)) (tupleKind_room_in1 hu) ya yb da db (Nat.lt_of_succ_lt hu) (by rw [← Paired.length ra, ← Paired.length rb]; exact len) (fun i k p hi => ?_) (fin_bl I q rfl)
  obtain ⟨v, hv, rv⟩ := KT.hit ra hi
  obtain ⟨e1, hmem⟩ := hp _ (List.mem_of_getElem? hv)
  obtain ⟨j, hj⟩ := List.getElem?_of_mem hmem
  obtain ⟨q2, hq2, rq⟩ := KT.hit' rb hj
  obtain rfl : v = V.bl true := e1
  have e3 : p.2 = Value.bool true := rv
  have e4 : q2.2 = Value.bool true := rq
  exact ⟨j, q2, hq2, by rw [e3, e4]; exact SeqAt.EqAt.same _⟩

/-! ### == of lists one of which is empty -/
def rEqNil (K : PySem.W.Frag) : R2 := fun x y H Q => ∃ a b xs, x = .ref a ∧ y = .ref b ∧ SqL K H a xs ∧ SqL K H b [] ∧ Q (.bl (decide (xs = []))) H
theorem op_eqNil (hu : X.A.units < cLine) : OpR X (compareOp .Eq) (rEqNil X.K) := by
  intro pins s σ H x y v u Q I rx ry h
  obtain ⟨a, b, xs, rfl, rfl, ea, eb, q⟩ := h
  obtain rfl : v = Value.ref a := rx
  obtain rfl : u = Value.ref b := ry
  obtain ⟨ia, ra, pa, _⟩ := I.list ea
  obtain ⟨ib, rb, pb, _⟩ := I.list eb
  cases rb
  cases xs with
  | nil =>
    cases ra
    exact SeqAt.eq_listAt (e := fun _ => true) pa.isList pb.isList rfl hu (fun j h1 _ => absurd h1 (Nat.not_lt_zero _)) (fin_bl I q rfl)
  | cons z zs =>
    refine SeqAt.eq_list_lengthsAt pa.isList pb.isList ?_ hu (fin_bl I q rfl)
    rw [List.size_toArray, ← ra.length]
    rfl
def rNeNil (K : PySem.W.Frag) : R2 := fun x y H Q => ∃ a b xs, x = .ref a ∧ y = .ref b ∧ SqL K H a xs ∧ SqL K H b [] ∧ Q (.bl (!decide (xs = []))) H

/-! ### dict(()) -/
/-- the empty tuple that stands in the written part -/
def KNil (K : PySem.W.Frag) (a : Addr) : Prop := ∃ (o : Obj) (n : Nat), K.lookup a = some o ∧ o.cls = .type "tuple" ∧ o.dict = none ∧ o.data = .seq #[] n
theorem KNil.sq {K : PySem.W.Frag} {a : Addr} (k : KNil K a) (H : Hp) : SqT K H a [] := by
  obtain ⟨o, n, h1, h2, _, h3⟩ := k
  exact .inr ⟨o, #[], n, h1, h2, h3, Nat.zero_le _, .nil⟩
theorem call_dict0 (hc : X.calm = true) : CallR X (.type "dict") (fun xs H Q => ∃ a, xs = [.ref a] ∧ KNil X.K a ∧ ∀ p, H p = none → Q (.ref p) (upd H p (.dK []))) := by
  intro pins s σ H xs us Q I r h
  obtain ⟨a, rfl, ⟨o, n, h1, h2, h3, h4⟩, q⟩ := h
  obtain ⟨u, rfl, ru⟩ := vals1 r
  obtain rfl : u = Value.ref a := ru
  refine PySem.call_dict_pairs (knd := mixKind X.prog X.w) (kvs := []) (PySem.PairArg.tuple a #[] (fun _ => a) []) (I.ok.hd hc) ⟨⟨o, n, I.kIn _ _ h1, h2, h3, h4⟩, rfl, fun j k v hj => by simp at hj⟩ ⟨rfl, fun i k v hr => ?_⟩ (Nat.zero_le _) fun h' tk hd hk => ?_
  · simp [PySem.PairRel] at hr
  · have hm : (s.heap.objs.size == sysModules) = false := beq_eq_false_iff_ne.mpr (Nat.ne_of_gt I.big)
    exact ⟨.ref s.heap.objs.size, upd H s.heap.objs.size (.dK []), I.laid (t' := tk) (fun b o e => hk b o (by simp) e) (Nat.le_refl _) (show ObjOk X.prog X.w _ _ _ (.dK []) from ⟨Nat.zero_le _, hm, [], .nil, hd⟩), rfl, q _ (I.hok.fresh (Nat.le_refl _))⟩
/-! ### isinstance(e, (C1, C2, ..)) of a caught exception -/
def rIsET (K : PySem.W.Frag) (D a : Addr) : List V → Hp → VK → Prop := fun xs H Q => ∃ (tp : Addr) (cs : List V) (us : List Value) (b : Bool), xs = [.ref a, .ref tp] ∧ H tp = some (.tup cs) ∧ Paired ClsV cs us ∧ PySem.W.kitAny K (.ref D) us = some b ∧ Q (.bl b) H
theorem call_isET {a D : Addr} {oe : Obj} {pn : List (Addr × Obj)} (C : ExcC X.K D) (hz : Zc (.ref D) none oe) (hf : ∃ vs, oe.data = .fields vs) : CallR (X.suite a ((a, oe) :: pn)) (.builtin "isinstance") (rIsET X.K D a) := by
  intro pins s σ H xs us Q I r h
  obtain ⟨tp, cs, ws, b, rfl, hT, k, e, q⟩ := h
  obtain ⟨u1, u2, rfl, r1, r2⟩ := vals2 r
  obtain rfl : u1 = Value.ref a := r1
  obtain rfl : u2 = Value.ref tp := r2
  obtain ⟨hget, _⟩ := I.pin (a, oe) (List.mem_append.mpr (.inl List.mem_cons_self))
  obtain ⟨vs, hv⟩ := hf
  have J : PySem.W.InstAt s.heap a oe D none := by
    obtain ⟨oc, od, oda, osl⟩ := oe
    obtain ⟨h1, h2⟩ := hz
    dsimp only at h1 h2 hv
    subst h1 h2 hv
    exact ⟨hget, rfl, rfl, trivial⟩
  obtain ⟨_, its, rv, o, h1, h2, n, h3⟩ := (show ObjOk X.prog X.w H s.heap tp (.tup cs) from I.hok tp _ hT)
  obtain rfl := ClsV.all k rv
  obtain ⟨oc, od, dt, sl⟩ := o
  simp only at h2 h3
  subst h2 h3
  exact PySem.W.kia_tup (PySem.W.handS_kitx_exc C.hg C.hk C.hs C.hd C.ha C.hn C.ht C.hm) I.kIn J h1 e (fun z => nomatch z) fun tk => ⟨.bl b, H, I.kept (t' := tk) fun _ _ z => z, rfl, q⟩
end

/-! ### callees by name: a def, a method, a class -/
structure Cal (P : Program) (w : World) (K : PySem.W.Frag) (mg : Str → Option Value) (base : Heap) (CX : CXT) (k : Nat) (x : Str) (sp : Sp) (dvs : List V) : Prop where
  ex : ∃ (f : Addr) (fd : FuncData) (ps : List Str) (ds : List Value), FnOk P w K mg base CX k f fd ps sp ∧ mg x = some (.ref f) ∧ PySem.W.keepIn K (.ref f) = true ∧ Binds K fd ps ds ∧ Vals dvs ds
structure Met (P : Program) (w : World) (K : PySem.W.Frag) (mg : Str → Option Value) (base : Heap) (CX : CXT) (k : Nat) (C : Addr) (m : Str) (sp : Sp) (dvs : List V) : Prop where
  ex : ∃ (f : Addr) (fd : FuncData) (ps : List Str) (ds : List Value), Cls K C ∧ Meth K C m f ∧ FnOk P w K mg base CX k f fd ps sp ∧ Binds K fd ps ds ∧ Vals dvs ds
structure Mak (P : Program) (w : World) (K : PySem.W.Frag) (mg : Str → Option Value) (base : Heap) (CX : CXT) (k : Nat) (x : Str) (C : Addr) (sp : Sp) (dvs : List V) : Prop where
  ex : ∃ (f : Addr) (fd : FuncData) (ps : List Str) (ds : List Value), Mk K C f ∧ FnOk P w K mg base CX k f fd ps sp ∧ mg x = some (.ref C) ∧ Binds K fd ps ds ∧ Vals dvs ds
section
variable {P : Program} {w : World} {K : PySem.W.Frag} {mg : Str → Option Value} {base : Heap} {CX : CXT} {x m qual : Str} {st : Stmt} {f C : Addr} {fd : FuncData} {N ps : List Str} {k : Nat} {sp : Sp} {dvs : List V}
theorem okD (F : FunD K x qual (defArgs st) (defBody st) (defScope st) dvs [] f fd) (S : FnScope N ps (defScope st)) (len : ∀ vs H Q E, sp vs H Q E → vs.length = ps.length)
    (hb : ∀ (cdv : Value) (A : Around) (outer : List Env) (s : Shared) (H : Hp) (vs : List V) (Q : VK) (E : XK), Room k (A.deeper (PyProof.Rows.envOfC qual (defScope st) s.heap.objs.size f cdv)) → sp vs H Q E →
      ∃ t, PSs (cxOf CX0 P w K mg base N qual (defScope st) f cdv A outer s H E).nox (defBody st) t ∧ t { nx := fun _ H' => Q .non H', rt := Q } (start N vs) H) : FnOk P w K mg base CX0 (k + 1) f fd ps sp :=
  F.ok S len fun cdv A outer s H vs Q E hr h => let ⟨t, a, b⟩ := hb cdv A outer s H vs Q E hr h; ⟨t, a.nox, b⟩
theorem calD (F : FunD K x qual (defArgs st) (defBody st) (defScope st) [] [] f fd) (g : mg x = some (.ref f)) (S : FnScope N ps (defScope st))
    (hb : ∀ (kV doc pm : Value) (an : Option Addr) (cdv ct : Value) (us : List Value), us.length = ps.length → bindArgs (PySem.W.fnOf x qual (defArgs st) (defBody st) (defScope st) .none kV doc pm an cdv ct) ⟨us, []⟩ = pure (ps.zip us))
    (o : FnOk P w K mg base CX k f fd ps sp) : Cal P w K mg base CX k x sp [] := ⟨f, fd, ps, [], o, g, F.kp, F.bindsN hb, .nil⟩
theorem metD (F : FunD K m qual (defArgs st) (defBody st) (defScope st) [] [] f fd) (c : Cls K C) (me : Meth K C m f) (S : FnScope N ps (defScope st))
    (hb : ∀ (kV doc pm : Value) (an : Option Addr) (cdv ct : Value) (us : List Value), us.length = ps.length → bindArgs (PySem.W.fnOf m qual (defArgs st) (defBody st) (defScope st) .none kV doc pm an cdv ct) ⟨us, []⟩ = pure (ps.zip us))
    (o : FnOk P w K mg base CX k f fd ps sp) : Met P w K mg base CX k C m sp [] := ⟨f, fd, ps, [], c, me, o, F.bindsN hb, .nil⟩
end
section
variable {X : Cx} {CX : CXT} {k j : Nat} {C : Addr} {x m : Str} {sp : Sp} {dvs : List V} {E : XK} {p pos apos : Pos} {e o : Expr} {es : List Expr} {ta : TE} {t : TA}
theorem pe_f (c : Cal X.prog X.w X.K X.mg X.base CX k x sp dvs) (hr : Room j X.A) (hk : k ≤ j) (hx : Passes CX X E) (hg : Gl X x) (ha : PA X (e :: es) t)
    (hdb : (x == ("__debug__" : Str)) = false := by decide) (he : starEach (e :: es) X.env = (false, eval e X.env) :: starEach es X.env := by rfl) (hpl : (backTo pos (starEach es X.env)).any (·.1) = false := by rfl) :
    PE X (.Call (.Name x p) (e :: es) [] pos) (tCall sp dvs E t) := by
  obtain ⟨f, fd, ps, ds, F, hm, kp, b, d⟩ := c.ex
  exact pe_call F (hr.mono hk) hg hm kp b d hx ha hdb he hpl
theorem pe_f0 (c : Cal X.prog X.w X.K X.mg X.base CX k x sp dvs) (hr : Room j X.A) (hk : k ≤ j) (hx : Passes CX X E) (hg : Gl X x) (hdb : (x == ("__debug__" : Str)) = false := by decide) :
    PE X (.Call (.Name x p) [] [] pos) (tCall sp dvs E tNil) := by
  obtain ⟨f, fd, ps, ds, F, hm, kp, b, d⟩ := c.ex
  exact pe_call0 F (hr.mono hk) hg hm kp b d hx hdb
theorem pe_k (c : Mak X.prog X.w X.K X.mg X.base CX k x C sp dvs) (hr : Room j X.A) (hk : k + 1 ≤ j) (hx : Passes CX X E) (hg : Gl X x) (ha : PA X (e :: es) t)
    (hdb : (x == ("__debug__" : Str)) = false := by decide) (he : starEach (e :: es) X.env = (false, eval e X.env) :: starEach es X.env := by rfl) (hpl : (backTo pos (starEach es X.env)).any (·.1) = false := by rfl) :
    PE X (.Call (.Name x p) (e :: es) [] pos) (tMake C sp dvs E t) := by
  obtain ⟨f, fd, ps, ds, M, F, hm, b, d⟩ := c.ex
  exact pe_make M F (hr.mono hk) hg hm b d hx ha hdb he hpl
theorem pe_k0 (c : Mak X.prog X.w X.K X.mg X.base CX k x C sp dvs) (hr : Room j X.A) (hk : k + 1 ≤ j) (hx : Passes CX X E) (hg : Gl X x) (hdb : (x == ("__debug__" : Str)) = false := by decide) :
    PE X (.Call (.Name x p) [] [] pos) (tMake C sp dvs E tNil) := by
  obtain ⟨f, fd, ps, ds, M, F, hm, b, d⟩ := c.ex
  exact pe_make0 M F (hr.mono hk) hg hm b d hx hdb
theorem pe_m {pl : Sem Bool} (c : Met X.prog X.w X.K X.mg X.base CX k C m sp dvs) (hr : Room j X.A) (hk : k ≤ j) (hx : Passes CX X E) (he : PE X o ta) (ha : PA X (e :: es) t)
    (h1 : starEach (e :: es) X.env = (false, eval e X.env) :: starEach es X.env := by rfl) (h2 : (backTo pos (starEach es X.env)).any (·.1) = false := by rfl)
    (h3 : eval (.Call (.Attribute o m apos) (e :: es) [] pos) X.env = (do
      let z ← eval o X.env
      standAt apos.atName
      let (g, own) ← holding [z] (getMethod z m pl)
      callWith pos g own (backTo pos (starEach (e :: es) X.env)) (backToKw pos (keywordEach [] X.env))) := by rfl) :
    PE X (.Call (.Attribute o m apos) (e :: es) [] pos) (tMeth C m sp dvs E ta t) := by
  obtain ⟨f, fd, ps, ds, hc, hm, F, b, d⟩ := c.ex
  exact pe_meth (pl := pl) he hc hm F (hr.mono hk) b d hx ha h1 h2 h3
theorem pe_mS {pl : Sem Bool} {E : St → XK} (c : Met X.prog X.w X.K X.mg X.base CX k C m sp []) (hr : Room j X.A) (hk : k ≤ j) (hx : ∀ σ, PassesAt CX X σ (E σ)) (he : PE X o ta) (ha : PA X (e :: es) t)
    (h1 : starEach (e :: es) X.env = (false, eval e X.env) :: starEach es X.env := by rfl) (h2 : (backTo pos (starEach es X.env)).any (·.1) = false := by rfl)
    (h3 : eval (.Call (.Attribute o m apos) (e :: es) [] pos) X.env = (do
      let z ← eval o X.env
      standAt apos.atName
      let (g, own) ← holding [z] (getMethod z m pl)
      callWith pos g own (backTo pos (starEach (e :: es) X.env)) (backToKw pos (keywordEach [] X.env))) := by rfl) :
    PE X (.Call (.Attribute o m apos) (e :: es) [] pos) (tMethS C m sp E ta t) := by
  obtain ⟨f, fd, ps, ds, hc, hm, F, b, d⟩ := c.ex
  cases d
  exact methS (pl := pl) he hc hm F (hr.mono hk) b hx ha h1 h2 h3
end

/-! ### the heap: what stands, what is kept but for one address -/
/-- all but what stands at a is kept -/
def Kept (a : Addr) (H H' : Hp) : Prop := ∀ b o, b ≠ a → H b = some o → H' b = some o
section
variable {a b p : Addr} {H H1 H2 : Hp} {o u : HO}
theorem Kept.rfl {H : Hp} : Kept a H H := fun _ _ _ h => h
theorem Kept.trans (x : Kept a H H1) (y : Kept a H1 H2) : Kept a H H2 := fun c o n h => y c o n (x c o n h)
theorem Kept.of (x : Same H H1) : Kept a H H1 := fun c o _ h => x c o h
theorem Same.new (hp : H p = none) : Same H (upd H p u) := fun c o h => (upd_ne (ne_of_none h hp)).trans h
theorem Same.new' (x : Same H H1) (hp : H1 p = none) : Same H (upd H1 p u) := x.trans (Same.new hp)
theorem Kept.new (hp : H p = none) : Kept a H (upd H p u) := .of (Same.new hp)
theorem Kept.new' (x : Kept a H H1) (hp : H1 p = none) : Kept a H (upd H1 p u) := x.trans (Kept.new hp)
theorem Kept.set : Kept a H (upd H a u) := fun _ _ n h => (upd_ne n).trans h
theorem Kept.set' (x : Kept a H H1) : Kept a H (upd H1 a u) := x.trans Kept.set
theorem upd_old (hp : H p = none) (hb : H b = some o) : upd H p u b = some o := (upd_ne (ne_of_none hb hp)).trans hb
theorem Same.none (x : Same H H1) (h : H1 p = none) : H p = none := x.free h
/-- what is new is none of what stood -/
theorem new_ne (hb : H b = some o) (hp : H p = none) : p ≠ b := fun e => by rw [e, hb] at hp; cases hp
end

/-! ### two roads for one construct -/
theorem PI.or {X : Cx} {tg e : Expr} {t u : TI} (h : PI X tg e t) (g : PI X tg e u) : PI X tg e (fun σ H R => t σ H R ∨ u σ H R) :=
  ⟨fun pins s σ H R I q => q.elim (h.run pins s σ H R I) (g.run pins s σ H R I)⟩

/-! ### within a comprehension: the written part named -/
section
variable {X : Cx} {K : PySem.W.Frag} {pos : Pos}
theorem pg_tupK (K : PySem.W.Frag) (n : Nat) {es : List Expr} {k : Nat} {t : TGs} (hK : X.K = K) (hc : X.calm = true) (h : PGs X es t) (hn : (assignEach es X.env).length = n := by rfl) (hst : (assignEach es X.env).findIdx? (·.1) = none := by rfl) :
    PG X (.Tuple es k pos) (gTup K n t) := hK ▸ pg_tup hc h hn hst
theorem ix_listK (K : PySem.W.Frag) (hK : X.K = K) : IxR X (rIxL K) := hK ▸ ix_list
theorem ix_tupK (K : PySem.W.Frag) (hK : X.K = K) : IxR X (rIxT K) := hK ▸ ix_tup
end

/-! ### a list of tuples -/
def Rows {α : Type} (g : α → List V) (H : Hp) (D : Addr) (rows : List α) : Prop := ∃ ts : List Addr, H D = some (.lst (ts.map V.ref)) ∧ Paired (fun t r => H t = some (.tup (g r))) ts rows
section
variable {α : Type} {g : α → List V} {H H' : Hp} {D E t : Addr} {rows : List α} {r : α}
theorem Rows.nil (h : H D = some (.lst [])) : Rows g H D [] := ⟨[], h, .nil⟩
theorem Rows.same (x : Same H H') (h : Rows g H D rows) : Rows g H' D rows := by
  obtain ⟨ts, a, b⟩ := h
  exact ⟨ts, x _ _ a, Paired.mapP b fun _ _ z => x _ _ z⟩
theorem Rows.kept (x : Kept E H H') (n : D ≠ E) (ne : ∀ xs, H E ≠ some (.tup xs)) (h : Rows g H D rows) : Rows g H' D rows := by
  obtain ⟨ts, a, b⟩ := h
  exact ⟨ts, x _ _ n a, Paired.mapP b fun c _ z => x _ _ (fun q => ne _ (q ▸ z)) z⟩
theorem Rows.lst (h : Rows g H D rows) : ∃ acc, H D = some (.lst acc) ∧ acc.length = rows.length := by
  obtain ⟨ts, a, b⟩ := h
  exact ⟨_, a, by rw [List.length_map]; exact Paired.length b⟩
theorem Rows.push {acc : List V} (h : Rows g H D rows) (ha : H D = some (.lst acc)) (ht : H t = some (.tup (g r))) : Rows g (upd H D (.lst (acc ++ [.ref t]))) D (rows ++ [r]) := by
  obtain ⟨ts, a, b⟩ := h
  rw [a] at ha
  cases ha
  refine ⟨ts ++ [t], by rw [upd_same, List.map_append]; rfl, Paired.snoc (Paired.mapP b fun c _ z => ?_) ?_⟩
  · rw [upd_ne (ne_of z a (fun q => nomatch q))]
    exact z
  · rw [upd_ne (ne_of ht a (fun q => nomatch q))]
    exact ht
theorem Rows.get (h : Rows g H D rows) : ∃ ts : List Addr, H D = some (.lst (ts.map V.ref)) ∧ ts.length = rows.length ∧ ∀ (i : Nat) (r : α), rows[i]? = some r → ∃ t, ts[i]? = some t ∧ H t = some (.tup (g r)) := by
  obtain ⟨ts, a, b⟩ := h
  refine ⟨ts, a, Paired.length b, ?_⟩
  clear a
  induction b with
  | nil => intro i r e; simp at e
  | @cons x y xs ys q _ ih =>
    intro i r e
    cases i with
    | zero =>
      obtain rfl : y = r := by simpa using e
      exact ⟨x, rfl, q⟩
    | succ i => exact ih i r (by simpa using e)
/-- an old thing stands behind what is new -/
theorem old {b : Addr} {o u : HO} (h : H b = some o) (n : H t = none) : upd H t u b = some o := upd_old n h
/-- a locked dict set free: all is as it was -/
theorem Same.unlock {H0 H1 : Hp} {d : Addr} {od : Obj} {u : HO} (h0 : H0 d = some u) (x : Same (upd H0 d (.frz od u)) H1) : Same H0 (upd H1 d u) := fun b o hb => by
  by_cases k : b = d
  · rw [k] at hb ⊢
    rw [h0] at hb
    rw [upd_same]
    exact hb
  · rw [upd_ne k]
    exact x _ _ ((upd_ne k).trans hb)
theorem Kept.unlock {a : Addr} {H0 H1 : Hp} {d : Addr} {od : Obj} {u : HO} (h0 : H0 d = some u) (x : Kept a (upd H0 d (.frz od u)) H1) : Kept a H0 (upd H1 d u) := fun b o n hb => by
  by_cases k : b = d
  · rw [k] at hb ⊢
    rw [h0] at hb
    rw [upd_same]
    exact hb
  · rw [upd_ne k]
    exact x _ _ n ((upd_ne k).trans hb)
/-- what was built at a new address D while all else stood -/
theorem Kept.fresh {H0 H1 : Hp} (n : H0 D = none) (x : Kept D H0 H1) : Same H0 H1 := fun b o hb => x b o (ne_of_none hb n) hb
end
end Sx
set_option Elab.async false
set_option linter.all false
set_option maxRecDepth 100000
/-! len(set(xs)), xs a list of ints and texts. -/
namespace Sx
open PySem PySem.Spec PyProof.Rows L2
/-- the keys of a row, each once, as first met -/
def ddStep (acc : List Key) (k : Key) : List Key := if acc.any (fun x => decide (x = k)) then acc else acc ++ [k]
def dd (ks : List Key) : List Key := ks.foldl ddStep []
theorem dd_take {ks : List Key} {i : Nat} {k : Key} (h : ks[i]? = some k) : dd (ks.take (i + 1)) = ddStep (dd (ks.take i)) k := by
  have e : ks.take (i + 1) = ks.take i ++ [k] := by rw [List.take_add_one, h]; rfl
  unfold dd
  rw [e, List.foldl_append]
  rfl
theorem ddStep_any (σ : List Key) (v k : Key) : (ddStep σ v).any (fun x => decide (x = k)) = (σ.any (fun x => decide (x = k)) || decide (k = v)) := by
  unfold ddStep
  by_cases h : σ.any (fun x => decide (x = v)) = true
  · rw [if_pos h]
    by_cases e : k = v
    · subst e; rw [h, decide_eq_true rfl]; rfl
    · rw [decide_eq_false e, Bool.or_false]
  · rw [if_neg h, List.any_append]
    show (_ || (decide (v = k) || false)) = _
    rw [Bool.or_false]
    by_cases e : k = v
    · subst e; rfl
    · rw [decide_eq_false e, decide_eq_false (fun h' => e h'.symm)]
theorem setOf_eq {P : Program} {w : World} {h : Heap} {a : Addr} {S S' : Key → Bool} {n n' : Nat} (hS : h.SetOf (mixKind P w) a S n) (e : ∀ k, S k = S' k) (en : n = n') : h.SetOf (mixKind P w) a S' n' := by
  have : S = S' := funext e
  subst this; subst en; exact hS
theorem ddStep_len (σ : List Key) (v : Key) : (ddStep σ v).length = if σ.any (fun x => decide (x = v)) then σ.length else σ.length + 1 := by
  unfold ddStep; split <;> simp
theorem dd_len_le (ks : List Key) : (dd ks).length ≤ ks.length := by
  have aux : ∀ (ks acc : List Key), (ks.foldl ddStep acc).length ≤ acc.length + ks.length := by
    intro ks
    induction ks with
    | nil => intro acc; simp
    | cons k r ih =>
      intro acc
      rw [List.foldl_cons, List.length_cons]
      have h1 := ih (ddStep acc k)
      have h2 := ddStep_len acc k
      split at h2 <;> omega
  have := aux ks []
  simpa [dd] using this
theorem paired_at : ∀ {ks : List Key} {us : List Value}, Paired (fun k u => RelV (kV k) u) ks us → ∀ (i : Nat) (v : Value), us[i]? = some v → ∃ k, ks[i]? = some k ∧ RelV (kV k) v
  | _, _, .nil, i, v, h => by simp at h
  | _, _, .cons (a := k) r t, 0, v, h => ⟨k, rfl, by simp at h; subst h; exact r⟩
  | _, _, .cons r t, i + 1, v, h => by
    obtain ⟨k, e, q⟩ := paired_at t i v (by simpa using h)
    exact ⟨k, by simpa using e, q⟩
section
variable {prog : Program} {w : World} {A : Around} {R : Result → Shared → Prop} {I : Addr} {fp wr : List Addr} {G : Array GenState → Array GenState → Prop} {n : Nat} {P : Nat → Value → Prop} {St : Nat → Shared → Prop}
theorem loopKey (W : WalksS prog w A.in1 I fp wr G n P St) (S : Addr) (hSf : S ∉ fp) (ks : List Key) (hsz : ks.length = n) (hb : n + 1 < scanBound)
    (hval : ∀ i v, P i v → ∃ k, ks[i]? = some k ∧ RelV (kV k) v) :
    ∀ (m i : Nat) (s : Shared), n - i = m → i ≤ n → St i s →
      s.heap.SetOf (mixKind prog w) S (fun k' => (dd (ks.take i)).any (fun x => decide (x = k'))) (dd (ks.take i)).length →
      (∀ s', Moved (S :: wr) G s s' → s'.heap.SetOf (mixKind prog w) S (fun k' => (dd (ks.take n)).any (fun x => decide (x = k'))) (dd (ks.take n)).length → R (.ok (.ret .none)) s') →
      codeAny (model prog w) A (.builtin "set.update.loop" ⟨[.ref S, .ref I], []⟩) R s := by
  have hSw : S ∉ wr := fun h => hSf (W.sub _ h)
  have hsub : ∀ b ∈ wr, b ∈ S :: wr := fun b hb => List.mem_cons_of_mem _ hb
  intro m
  induction m with
  | zero =>
    intro i s hk hi hst hS hR
    have hin : i = n := by omega
    subst hin
    refine codeAny_builtin PyProof.Rows.F.entry_set_update_loop ?_
    rw [Around.under_plainId PyProof.Rows.F.plain_set_update_loop _]
    show wpAny _ A.in1 (pyNext (.ref I) >>= _) _ _ s
    refine wpAny_bind (W.done s _ _ hst fun s' hm => ?_)
    show wpAny _ A.in1 (ret Value.none) _ _ s'
    exact wpAny_pure (hR s' (hm.mono hsub) (by
      obtain ⟨o, es, ep, t, ho, rest⟩ := hS
      exact ⟨o, es, ep, t, hm.heap S _ hSw ho, rest⟩))
  | succ m ih =>
    intro i s hk hi hst hS hR
    have hlt : i < n := by omega
    refine codeAny_builtin PyProof.Rows.F.entry_set_update_loop ?_
    rw [Around.under_plainId PyProof.Rows.F.plain_set_update_loop _]
    show wpAny _ A.in1 (pyNext (.ref I) >>= _) _ _ s
    refine wpAny_bind (W.item i s _ _ hlt hst fun v s' hP hst' hm => ?_)
    obtain ⟨k, ek, rk⟩ := hval i v hP
    have hS' : s'.heap.SetOf (mixKind prog w) S (fun k' => (dd (ks.take i)).any (fun x => decide (x = k'))) (dd (ks.take i)).length := by
      obtain ⟨o, es, ep, tb, ho, rest⟩ := hS
      exact ⟨o, es, ep, tb, hm.heap S _ hSw ho, rest⟩
    show wpAny _ A.in1 (holding [v] (setAdd S v) >>= _) _ _ s'
    refine wpAny_bind (wpAny_holding ?_)
    unfold setAdd
    refine wpAny_holding ?_
    refine wpAny_bind ((mixKind prog w).pyHash (k := k) (kV_is rk) ?_)
    have hroom : (dd (ks.take i)).length + 1 < scanBound := by
      have h1 := dd_len_le (ks.take i)
      have h2 : (ks.take i).length ≤ i := by rw [List.length_take]; omega
      omega
    refine wpAny_setAddHashed_of (knd := mixKind prog w) (s := { s' with toks := s'.toks + 1 }) (kV_is rk) (key_scan rk) hS' hroom fun h' hsb hS2 => ?_
    have hSi : h'.SetOf (mixKind prog w) S (fun k' => (dd (ks.take (i + 1))).any (fun x => decide (x = k'))) (dd (ks.take (i + 1))).length :=
      setOf_eq hS2 (fun k' => by rw [dd_take ek, ddStep_any]) (by rw [dd_take ek, ddStep_len])
    refine wpAny_pure ⟨plainId_quiet PyProof.Rows.F.plain_set_update_loop _, ih (i + 1) _ (by omega) hlt (W.frame _ s' _ _ hst' (Nat.le_succ _) fun b hb o e => ?_) hSi fun s'' hm'' hS'' => ?_⟩
    · rw [hsb.2 b (fun h : b = S => hSf (by rw [← h]; exact hb))]; exact e
    · refine hR s'' (Moved.trans W.gtrans ((hm.mono hsub).then_heap (Nat.le_succ _) fun b o hb e => ?_) hm'') hS''
      rw [hsb.2 b (fun h : b = S => hb (by rw [h]; exact List.mem_cons_self))]; exact e
end
section
variable {prog : Program} {w : World} {A : Around} {E : Value → Shared → Prop} {s : Shared}
set_option maxHeartbeats 3200000 in
theorem call_setN {l : Addr} {items : Array Value} {ks : List Key} {Q : Value → Shared → Prop}
    (hh : A.handled = none) (hl : s.heap.IsList l items) (hi : Paired (fun k u => RelV (kV k) u) ks items.toList) (hb : items.size + 1 < scanBound)
    (h : ∀ (h' : Heap) (tk : Nat), h'.SetOf (mixKind prog w) s.heap.objs.size (fun k' => (dd (ks.take items.size)).any (fun x => decide (x = k'))) (dd (ks.take items.size)).length →
      (∀ b o, b < s.heap.objs.size → s.heap.get? b = some o → h'.get? b = some o) → Q (.ref s.heap.objs.size) { s with heap := h', toks := tk }) :
    wpAny (model prog w) A (call (.type "set") [.ref l]) Q E s := by
  obtain ⟨c, tl, hmro⟩ := PySem.F.called_set.mro
  have hmade := PySem.F.called_set.made
  have hsub := PySem.F.called_set.sub
  refine wpAny_call (codeAny_of_tree ?_)
  show wpAny _ _ (callAny (.type "set") _) _ _ _
  refine wpAny_pure ⟨Code.quiet_builtin _ (by decide +kernel), codeAny_builtin PySem.F.entry_type_call ?_⟩
  rw [Around.under_plain (weight_type_call_type "set" [.ref l] []) rfl]
  have h1 := PySem.F.called_set.notType
  have h2 := PySem.F.called_set.canCreate
  have hct := PySem.F.typeCall_set_1 (.ref l)
  repeat (any_goals (first | assumption | wp_step))

  refine codeAny_mono (code_set_new_1 (.ref l) (E := E) (Q₁ := fun obj s₁ => ∃ led : Bool, obj = .ref s.heap.objs.size ∧ s₁ = { s with heap := s.heap.push { cls := .type "set", dict := none, data := .set #[] 0 (.fresh 0 0 led) } }) fun led => ⟨led, rfl, rfl⟩) fun r s₁ hr => ?_
  cases r with
  | error e => exact hr
  | ok fl =>
    cases fl with
    | ret obj =>
      obtain ⟨led, rfl, rfl⟩ := hr
      have hS : (s.heap.push { cls := .type "set", dict := none, data := .set #[] 0 (.fresh 0 0 led) }).get? s.heap.objs.size = some { cls := .type "set", dict := none, data := .set #[] 0 (.fresh 0 0 led) } := Heap.get?_push_size _ rfl
      have hT : Shared.TypeIs { s with heap := s.heap.push { cls := .type "set", dict := none, data := .set #[] 0 (.fresh 0 0 led) } } (.ref s.heap.objs.size) "set" := ⟨_, hS, rfl⟩
      have hli := PySem.F.called_set.init.lookup
      have hbi := PySem.F.called_set.init.bind (.ref s.heap.objs.size)
      repeat (any_goals (first | assumption | wp_step))

      refine codeAny_mono (codeAny_call_builtin (R := wants (fun r s₂ => r = .none ∧ ∃ h' tk, s₂ = { s with heap := h', toks := tk } ∧
          h'.SetOf (mixKind prog w) s.heap.objs.size (fun k' => (dd (ks.take items.size)).any (fun x => decide (x = k'))) (dd (ks.take items.size)).length ∧
          (∀ b o, b < s.heap.objs.size → s.heap.get? b = some o → h'.get? b = some o)) E) PySem.F.called_set.init.plain PySem.F.entry_set_init (check_set_init_1 hT ?_)) fun r₂ s₂ hr₂ => ?_
      · obtain ⟨ol, hol, hcl, nl, hdl⟩ := hl
        obtain ⟨ocls, odict, odata, oslots⟩ := ol
        simp only at hcl hdl
        subst hcl; subst hdl
        have hol' : (s.heap.push { cls := .type "set", dict := none, data := .set #[] 0 (.fresh 0 0 led) }).get? l = some { cls := .type "list", dict := odict, data := .seq items nl, slots := oslots } := Heap.get?_push_of_some _ hol
        have hsls := PySem.F.sub_list_set
        have hslf := PySem.F.sub_list_frozenset
        have hne : (Value.type "list" == Value.type "dict") = false := by decide
        have hl1 : (s.heap.push { cls := .type "set", dict := none, data := .set #[] 0 (.fresh 0 0 led) }).IsList l items := ⟨_, hol', rfl, nl, rfl⟩
        unfold Builtin.«set.__init__» noKeywords Builtin.Frozenset.updateFrom
        generalize hPI : pyIter = PI
        wp_walk
        subst hPI

        refine wpAny_pyIter_list hl1 ?_
        refine wpAny_bind (wpAny_runValue ?_)
        have hlS : l < s.heap.objs.size := Heap.lt_size hol
        have hh3 : A.in1.in1.in1.handled = none := by simp [hh]
        have hneI : l ≠ (s.heap.push { cls := .type "set", dict := none, data := .set #[] 0 (.fresh 0 0 led) }).objs.size := by
          rw [Heap.size_push]; exact Nat.ne_of_lt (Nat.lt_succ_of_lt hlS)
        have hSf : s.heap.objs.size ∉ [(s.heap.push { cls := .type "set", dict := none, data := .set #[] 0 (.fresh 0 0 led) }).objs.size, l] := by
          rw [Heap.size_push]; simp only [List.mem_cons, List.mem_singleton, List.not_mem_nil, or_false, not_or]
          exact ⟨Nat.ne_of_lt (Nat.lt_succ_self _), Nat.ne_of_gt hlS⟩
        have hsz : ks.length = items.size := by rw [Paired.length hi, Array.length_toList]
        have hval : ∀ (i : Nat) (v : Value), items[i]? = some v → ∃ k, ks[i]? = some k ∧ RelV (kV k) v := fun i v hv => paired_at hi i v (by rw [Array.getElem?_toList]; exact hv)
        refine loopKey ((Walks.list hh3 _ l hneI items).toS) s.heap.objs.size
          hSf ks hsz hb hval (items.size - 0) 0 _ (by omega) (Nat.zero_le _)
          ⟨⟨_, Heap.get?_push_size _ rfl, rfl, rfl⟩, (hl1.push _)⟩ ?hS0 ?hR
        case hS0 =>
          have hget : ((s.heap.push { cls := .type "set", dict := none, data := .set #[] 0 (.fresh 0 0 led) }).push { cls := .type "list_iterator", data := .fields #[.ref l, .int 0 0] }).get? s.heap.objs.size
              = some { cls := .type "set", dict := none, data := .set #[] 0 (.fresh 0 0 led) } := Heap.get?_push_of_some _ hS
          exact ⟨_, #[], 0, _, hget, ⟨rfl, rfl, rfl⟩, rfl, (fun e he => by simp at he), (fun k => by simp [dd]), (by decide), (by cases led <;> rfl), rfl⟩
        case hR =>
          intro s' hm hS'
          obtain ⟨h', g', d', tk', os'⟩ := s'
          have eg : g' = s.gens := hm.gens
          have ed : d' = s.drawn := hm.drawn
          have eo : os' = s.os := hm.os
          subst eg; subst ed; subst eo
          show wpAny _ _ _ _ _ _
          refine wpAny_pure ?_
          show wpAny _ _ (ret Value.none) _ _ _
          refine wpAny_pure ⟨rfl, h', tk', rfl, hS', fun b o hb e => ?_⟩
          have hb1 : b ≠ s.heap.objs.size := Nat.ne_of_lt hb
          have hb2 : b ≠ (s.heap.push { cls := .type "set", dict := none, data := .set #[] 0 (.fresh 0 0 led) }).objs.size := by
            rw [Heap.size_push]; exact Nat.ne_of_lt (Nat.lt_succ_of_lt hb)
          exact hm.heap b o (by simp only [List.mem_cons, List.mem_singleton, List.not_mem_nil, or_false, not_or]; exact ⟨hb1, hb2⟩) (Heap.get?_push_of_some _ (Heap.get?_push_of_some _ e))

      · cases r₂ with
        | error e => exact hr₂
        | ok fl₂ =>
          cases fl₂ with
          | ret r =>
            obtain ⟨rfl, h', tk, rfl, hS', hk'⟩ := hr₂
            repeat (any_goals (first | assumption | wp_step))
            exact h _ _ hS' hk'
          | _ => exact hr₂.elim
    | _ => exact hr.elim

end
/-- len(set(xs)), xs a list of keys -/
def tLenSetN (K : PySem.W.Frag) (ta : TE) : TE := fun σ H Q => ta σ H fun x H1 => ∃ (l : Addr) (ks : List Key), x = .ref l ∧ SqL K H1 l (ks.map kV) ∧ ks.length ≤ 2000 ∧ Q (.int ((dd ks).length : Nat)) H1
theorem vals_keys : ∀ {ks : List Key} {us : List Value}, Vals (ks.map kV) us → Paired (fun k u => RelV (kV k) u) ks us
  | [], _, .nil => .nil
  | _ :: _, _, .cons r t => .cons r (vals_keys t)
theorem pe_lenSetN {X : Cx} {a : Expr} {ta : TE} {p p2 q pos : Pos} (hc : X.calm = true) (hg : Gl X "len") (hm : X.mg "len" = none) (hg2 : Gl X "set") (hm2 : X.mg "set" = none) (ha : PE X a ta)
    (na : starEach [a] X.env = (false, eval a X.env) :: starEach [] X.env := by rfl) : PE X (.Call (.Name "len" p) [.Call (.Name "set" p2) [a] [] q] [] pos) (tLenSetN X.K ta) := by
  refine ⟨fun pins s σ H Q I h => ?_⟩
  refine Call_ (ld_blt I hg hm boot_len ?_)
  refine PyProof.Rows.callWith_builtin1 (PyProof.Rows.args_cons ?_ rfl) rfl rfl
  refine Call_ (ld_blt I hg2 hm2 boot_set ?_)
  refine PyProof.Rows.callWith_type1 (PyProof.Rows.args_cons (thn (ha.run pins s σ H _ I h) fun v s1 ⟨x, H1, I1, r1, q1⟩ => PyProof.Rows.args_nil ?_) na) na rfl
  obtain ⟨l, ks, rfl, hq, h1, q1⟩ := q1
  cases r1
  obtain ⟨its, r, pl, hz⟩ := I1.list hq
  have hl : its.toArray.size = ks.length := by rw [List.size_toArray, ← r.length, List.length_map]
  refine call_setN (ks := ks) (I1.ok.hd hc) pl.isList (by simpa using vals_keys r) (by rw [hl]; unfold scanBound; omega) fun h' tk hS hk => ?_
  refine PyProof.Rows.args_nil ?_
  rw [hl, List.take_length] at hS
  obtain ⟨o, es, ep, t, ho, hex, hd, _, _, _, hf, hn⟩ := hS
  have I2 : Inv X pins σ H1 { s1 with heap := h', toks := tk } := I1.kept fun b o e => hk b o (Heap.lt_size e) e
  have := dd_len_le ks
  refine call_len_set ho hex hd hf (by rw [hn] <;> omega) ⟨.int ((dd ks).length : Nat), H1, I2.tok _, ⟨_, by rw [hn]⟩, q1⟩
end Sx
set_option Elab.async false
set_option linter.all false
set_option maxRecDepth 100000
/-! More rules: the written part named, within a comprehension; heaps. -/
namespace Sx
open PySem PySem.Spec L2
section
variable {X : Cx} {K : PySem.W.Frag}
theorem pe_bmK (K : PySem.W.Frag) {o e : Expr} {es : List Expr} {to : TE} {t : TA} {name : Str} {apos cpos : Pos} {T id : String} {r : V → List V → Hp → VK → Prop} (hK : X.K = K) (pa : PlainAttrs T) (slot : PySem.Slot T name id) (hty : typeOf (.builtin id) = pure (.type "method_descriptor")) (hm : MtR X id r) (ho : PE X o to) (ha : PA X (e :: es) t)
    (hbase : attributeBase o name X.env (eval o X.env) = eval o X.env := by rfl)
    (hfew : ((backTo cpos (starEach (e :: es) X.env)).all (fun x => !x.1) && (backToKw cpos (keywordEach [] X.env)).all (fun x => x.1.isSome)
      && decide ((e :: es).length + ([] : List Keyword).length + (if ([] : List Keyword).isEmpty then 0 else 1) < 30)) = true := by rfl)
    (hline : (apos.endLine == cpos.line) = true := by rfl) (hs : starEach (e :: es) X.env = (false, eval e X.env) :: starEach es X.env := by rfl) (hplain : (backTo cpos (starEach es X.env)).any (·.1) = false := by rfl) :
    PE X (.Call (.Attribute o name apos) (e :: es) [] cpos) (tBM K T r to t) := hK ▸ pe_bm pa slot hty hm ho ha hbase hfew hline hs hplain
theorem op_notIn_seqK (K : PySem.W.Frag) (hK : X.K = K) : OpR X (compareOp .NotIn) (rIn K true) := hK ▸ op_notIn_seq
theorem op_in_seqK (K : PySem.W.Frag) (hK : X.K = K) : OpR X (compareOp .In) (rIn K false) := hK ▸ op_in_seq
theorem call_len_seqK (K : PySem.W.Frag) (hK : X.K = K) : CallR X (.builtin "len") (fun xs H Q => ∃ p ys, xs = [.ref p] ∧ (SqL K H p ys ∨ SqT K H p ys) ∧ Q (.int ys.length) H) := hK ▸ call_len_seq
end
section
variable {a b p D : Addr} {H H1 H2 : Hp} {o u : HO}
theorem Kept.at_new (n : H D = none) (x : Kept a H H1) : Kept a H (upd H1 D u) := fun c v h hc => (upd_ne (ne_of_none hc n)).trans (x c v h hc)
theorem Same.at_new (n : H D = Option.none) (x : Same H H1) : Same H (upd H1 D u) := fun c v hc => (upd_ne (ne_of_none hc n)).trans (x c v hc)
theorem Kept.free (x : Kept a H H1) (h : H1 a = some o) (n : H1 D = Option.none) : H D = Option.none := by
  cases e : H D with
  | none => rfl
  | some v =>
    by_cases q : D = a
    · rw [q, h] at n; cases n
    · rw [x _ _ q e] at n; cases n
theorem ne_new (h : H b = some o) (n : H p = none) : b ≠ p := ne_of_none h n
end
/-! ### != of lists one of which is empty -/
theorem op_neNil {X : Cx} (hu : X.A.units < cLine) : OpR X (compareOp .NotEq) (rNeNil X.K) := by
  intro pins s σ H x y v u Q I rx ry h
  obtain ⟨a, b, xs, rfl, rfl, ea, eb, q⟩ := h
  obtain rfl : v = Value.ref a := rx
  obtain rfl : u = Value.ref b := ry
  obtain ⟨ia, ra, pa, _⟩ := I.list ea
  obtain ⟨ib, rb, pb, _⟩ := I.list eb
  cases rb
  cases xs with
  | nil =>
    cases ra
    exact SeqAt.RcNeAt.lists (e := fun _ => true) pa.isList pb.isList rfl hu (fun j h1 _ => absurd h1 (Nat.not_lt_zero _)) _ _ _ _ (fin_bl I q rfl)
  | cons z zs =>
    refine SeqAt.RcNeAt.lists_lengths pa.isList pb.isList ?_ hu _ _ _ _ (fin_bl I q rfl)
    rw [List.size_toArray, ← ra.length]
    rfl
/-! ### isinstance of a caught exception whose class the reading says -/
theorem call_isE2 {X : Cx} (K : PySem.W.Frag) {a D : Addr} {oe : Obj} {cls : Value} {d : Option Addr} {pn : List (Addr × Obj)} (hK : X.K = K) (C : ExcC K D) (hz : Zc cls d oe) (hf : ∃ vs, oe.data = .fields vs) :
    CallR (X.suite a ((a, oe) :: pn)) (.builtin "isinstance") (fun xs H Q => cls = .ref D ∧ d = none ∧ (rIsE K D a xs H Q ∨ rIsET K D a xs H Q)) := by
  subst hK
  intro pins s σ H xs us Q I r h
  obtain ⟨rfl, rfl, h⟩ := h
  rcases h with h | h
  · exact call_isE C hz hf pins s σ H xs us Q I r h
  · exact call_isET C hz hf pins s σ H xs us Q I r h
/-! ### a method with keywords alone, the def without defaults -/
structure MetK (P : Program) (w : World) (K : PySem.W.Frag) (mg : Str → Option Value) (base : Heap) (CX : CXT) (k : Nat) (C : Addr) (m : Str) (sp : Sp) (ks : List Str) (gV : List V → List V → List V) : Prop where
  ex : ∃ (f : Addr) (fd : FuncData) (ps : List Str) (g : List Value → List Value → List Value), Cls K C ∧ Meth K C m f ∧ FnOk P w K mg base CX k f fd ps sp ∧ KBn K fd ps 1 ks g gV
theorem kbindsP {K : PySem.W.Frag} {x qual : Str} {params : Arguments} {body : List Stmt} {scope : Scope} {f : Addr} {fd : FuncData} {ps : List Str} (F : FunD K x qual params body scope [] [] f fd) (n : Nat) (ks : List Str) (g : {α : Type} → List α → List α → List α)
    (hrel : ∀ {vs zs : List V} {us ws : List Value}, Vals vs us → Vals zs ws → Vals (g vs zs) (g us ws))
    (h : ∀ (kV doc pm : Value) (an : Option Addr) (cdv ct : Value) (us ws : List Value), us.length = n → ws.length = ks.length → bindArgs (PySem.W.fnOf x qual params body scope .none kV doc pm an cdv ct) ⟨us, ks.zip ws⟩ = pure (ps.zip (g us ws))) :
    KBn K fd ps n ks (fun us ws => g us ws) (fun vs zs => g vs zs) := by
  obtain ⟨oc, od, dV, kV, doc, pm, an, cdv, ct, osl, rfl, lk, hcd, hD, hK⟩ := F.ex
  rcases hD with ⟨_, rfl⟩ | ⟨e, _⟩
  · exact ⟨fun s us ws X l1 l2 => .of_eq (h kV doc pm an cdv ct us ws l1 l2), fun r1 r2 => hrel r1 r2⟩
  · exact absurd rfl e
theorem pe_mK {X : Cx} {CX : CXT} {k j : Nat} {C : Addr} {m : Str} {sp : Sp} {ks : List Str} {gV : List V → List V → List V} {E : XK} {pos apos : Pos} {o : Expr} {kws : List Keyword} {to : TE} {tk : TA} {pl : Sem Bool} (c : MetK X.prog X.w X.K X.mg X.base CX k C m sp ks gV) (hr : Room j X.A) (hk : k ≤ j) (hx : Passes CX X E) (ho : PE X o to) (hkw : PK X kws tk)
    (h1 : (backToKw pos (keywordEach kws X.env)).all (·.1.isSome) = true := by rfl) (h2 : (backToKw pos (keywordEach kws X.env)).filterMap (·.1) = ks := by rfl)
    (h4 : ((backTo pos (starEach [] X.env)).any (·.1) || (backToKw pos (keywordEach kws X.env)).any (·.1.isNone)) = false := by rfl)
    (h3 : eval (.Call (.Attribute o m apos) [] kws pos) X.env = (do
      let z ← eval o X.env
      standAt apos.atName
      let (g, own) ← holding [z] (getMethod z m pl)
      callWith pos g own (backTo pos (starEach [] X.env)) (backToKw pos (keywordEach kws X.env))) := by rfl) :
    PE X (.Call (.Attribute o m apos) [] kws pos) (tMethK C m ks.length sp gV E to tk) := by
  obtain ⟨f, fd, ps, g, hc, hm, F, hb⟩ := c.ex
  exact methK (pl := pl) ho hc hm F (hr.mono hk) hb hx hkw h1 h2 h4 h3
/-! ### a list of things, each at its own place -/
def Objs {α : Type} (h : α → HO) (H : Hp) (D : Addr) (rows : List α) : Prop := ∃ ts : List Addr, H D = some (.lst (ts.map V.ref)) ∧ Paired (fun t r => H t = some (h r)) ts rows
section
variable {α : Type} {h : α → HO} {H H' : Hp} {D E t : Addr} {rows : List α} {r : α}
theorem Objs.nil (e : H D = some (.lst [])) : Objs h H D [] := ⟨[], e, .nil⟩
theorem Objs.same (x : Same H H') (o : Objs h H D rows) : Objs h H' D rows := by
  obtain ⟨ts, a, b⟩ := o
  exact ⟨ts, x _ _ a, Paired.mapP b fun _ _ z => x _ _ z⟩
theorem Objs.kept (x : Kept E H H') (n : D ≠ E) (ne : ∀ r, H E ≠ some (h r)) (o : Objs h H D rows) : Objs h H' D rows := by
  obtain ⟨ts, a, b⟩ := o
  exact ⟨ts, x _ _ n a, Paired.mapP b fun c r z => x _ _ (fun q => ne r (q ▸ z)) z⟩
theorem Objs.lst (o : Objs h H D rows) : ∃ acc, H D = some (.lst acc) ∧ acc.length = rows.length := by
  obtain ⟨ts, a, b⟩ := o
  exact ⟨_, a, by rw [List.length_map]; exact Paired.length b⟩
theorem Objs.push {acc : List V} (nl : ∀ r xs, h r ≠ .lst xs) (o : Objs h H D rows) (ha : H D = some (.lst acc)) (ht : H t = some (h r)) : Objs h (upd H D (.lst (acc ++ [.ref t]))) D (rows ++ [r]) := by
  obtain ⟨ts, a, b⟩ := o
  rw [a] at ha
  cases ha
  refine ⟨ts ++ [t], by rw [upd_same, List.map_append]; rfl, Paired.snoc (Paired.mapP b fun c r z => ?_) ?_⟩
  · rw [upd_ne (ne_of z a (nl _ _))]
    exact z
  · rw [upd_ne (ne_of ht a (nl _ _))]
    exact ht
theorem paired_app {α β : Type} {R : α → β → Prop} : ∀ {xs ys : List α} {as bs : List β}, Paired R xs as → Paired R ys bs → Paired R (xs ++ ys) (as ++ bs)
  | _, _, _, _, .nil, q => q
  | _, _, _, _, .cons r p, q => .cons r (paired_app p q)
theorem Objs.cat {E : Addr} {rows2 : List α} (o : Objs h H D rows) (o2 : Objs h H E rows2) : ∃ acc acc2 : List V, H D = some (.lst acc) ∧ H E = some (.lst acc2) ∧ acc.length = rows.length ∧ acc2.length = rows2.length ∧
    ∀ p, H p = none → Objs h (upd H p (.lst (acc ++ acc2))) p (rows ++ rows2) := by
  obtain ⟨ts, a, b⟩ := o
  obtain ⟨us, c, d⟩ := o2
  refine ⟨_, _, a, c, by rw [List.length_map]; exact Paired.length b, by rw [List.length_map]; exact Paired.length d, fun p n => ⟨ts ++ us, by rw [upd_same, List.map_append], ?_⟩⟩
  exact Paired.mapP (paired_app b d) fun _ _ z => (upd_ne (ne_of_none z n)).trans z
end
end Sx
set_option Elab.async false
set_option linter.all false
set_option maxRecDepth 100000
set_option maxHeartbeats 4000000
/-! The text of law k14 by places, its facts. -/
namespace K14
open PySem PySem.Spec L2 Sx
def top (i : Nat) : Stmt := PySem.Challenge.pw_soundtrips_k14_facts_and_what_cannot_be.main.body.getD i (.Pass ⟨0, 0, 0, 0⟩)
abbrev s_first_of : Stmt := top 10
abbrev s_pair_of : Stmt := top 11
abbrev s_are_names : Stmt := top 12
abbrev s_Likeness___init__ : Stmt := inClass (top 13) 0
abbrev s_Likeness___eq__ : Stmt := inClass (top 13) 1
abbrev s_Likeness_term : Stmt := inClass (top 13) 4
abbrev s_Likeness_are_parted : Stmt := inClass (top 13) 5
abbrev s_Likeness_says : Stmt := inClass (top 13) 6
abbrev s_Likeness_like : Stmt := inClass (top 13) 7
abbrev s_Likeness_unlike : Stmt := inClass (top 13) 8
abbrev s__law_same : Stmt := top 15
abbrev s__law_is_whole : Stmt := top 16
abbrev s__law_cell_at : Stmt := top 17
abbrev s__law_deck : Stmt := top 18
abbrev s__law_draw : Stmt := top 19
abbrev s__law_pick : Stmt := top 20
abbrev s__law_opens : Stmt := top 21
abbrev s__law_names : Stmt := top 22
abbrev s__law_worlds : Stmt := top 23
abbrev s__law_holds : Stmt := top 24
abbrev s__law_fact : Stmt := top 25
abbrev s__law_due : Stmt := top 26
abbrev s__law_right : Stmt := top 27
abbrev s__law_heard : Stmt := top 28
abbrev s__law_are_facts_right : Stmt := top 29
abbrev s__law_shuffled : Stmt := top 30
abbrev s__law_tied : Stmt := top 31
abbrev s__law_parted : Stmt := top 32
abbrev s__law_due_of_group : Stmt := top 33
abbrev s__law_so : Stmt := top 34
abbrev s__law_groups_right : Stmt := top 35
abbrev s__law_are_groups_apart : Stmt := top 36
abbrev s__law_is_named_alike : Stmt := top 37
abbrev s_law : Stmt := top 38
theorem sc_first_of : FnScope ["one", "other"] ["one", "other"] (defScope s_first_of) := ⟨rfl, rfl, rfl, by decide +kernel, rfl, by decide +kernel, by decide +kernel⟩
theorem sc_pair_of : FnScope ["one", "other"] ["one", "other"] (defScope s_pair_of) := ⟨rfl, rfl, rfl, by decide +kernel, rfl, by decide +kernel, by decide +kernel⟩
theorem sc_are_names : FnScope ["one", "other"] ["one", "other"] (defScope s_are_names) := ⟨rfl, rfl, rfl, by decide +kernel, rfl, by decide +kernel, by decide +kernel⟩
theorem sc_Likeness___init__ : FnScope ["self", "heads", "pairs", "pair"] ["self", "heads", "pairs"] (defScope s_Likeness___init__) := ⟨rfl, rfl, rfl, by decide +kernel, rfl, by decide +kernel, by decide +kernel⟩
theorem sc_Likeness___eq__ : FnScope ["self", "other"] ["self", "other"] (defScope s_Likeness___eq__) := ⟨rfl, rfl, rfl, by decide +kernel, rfl, by decide +kernel, by decide +kernel⟩
theorem sc_Likeness_term : FnScope ["self", "one"] ["self", "one"] (defScope s_Likeness_term) := ⟨rfl, rfl, rfl, by decide +kernel, rfl, by decide +kernel, by decide +kernel⟩
theorem sc_Likeness_are_parted : FnScope ["self", "here", "there"] ["self", "here", "there"] (defScope s_Likeness_are_parted) := ⟨rfl, rfl, rfl, by decide +kernel, rfl, by decide +kernel, by decide +kernel⟩
theorem sc_Likeness_says : FnScope ["self", "one", "other", "here", "there"] ["self", "one", "other"] (defScope s_Likeness_says) := ⟨rfl, rfl, rfl, by decide +kernel, rfl, by decide +kernel, by decide +kernel⟩
theorem sc_Likeness_like : FnScope ["self", "one", "other", "here", "there", "stays", "goes", "heads", "pairs", "pair", "left", "right", "term", "head"] ["self", "one", "other"] (defScope s_Likeness_like) := ⟨rfl, rfl, rfl, by decide +kernel, rfl, by decide +kernel, by decide +kernel⟩
theorem sc_Likeness_unlike : FnScope ["self", "one", "other", "here", "there"] ["self", "one", "other"] (defScope s_Likeness_unlike) := ⟨rfl, rfl, rfl, by decide +kernel, rfl, by decide +kernel, by decide +kernel⟩
theorem sc__law_same : FnScope ["told", "due", "one", "other"] ["told", "due"] (defScope s__law_same) := ⟨rfl, rfl, rfl, by decide +kernel, rfl, by decide +kernel, by decide +kernel⟩
theorem sc__law_is_whole : FnScope ["thing"] ["thing"] (defScope s__law_is_whole) := ⟨rfl, rfl, rfl, by decide +kernel, rfl, by decide +kernel, by decide +kernel⟩
theorem sc__law_cell_at : FnScope ["script", "k"] ["script", "k"] (defScope s__law_cell_at) := ⟨rfl, rfl, rfl, by decide +kernel, rfl, by decide +kernel, by decide +kernel⟩
theorem sc__law_deck : FnScope ["cell"] ["cell"] (defScope s__law_deck) := ⟨rfl, rfl, rfl, by decide +kernel, rfl, by decide +kernel, by decide +kernel⟩
theorem sc__law_draw : FnScope ["deck", "most", "found", "mixed"] ["deck", "most"] (defScope s__law_draw) := ⟨rfl, rfl, rfl, by decide +kernel, rfl, by decide +kernel, by decide +kernel⟩
theorem sc__law_pick : FnScope ["deck", "some"] ["deck", "some"] (defScope s__law_pick) := ⟨rfl, rfl, rfl, by decide +kernel, rfl, by decide +kernel, by decide +kernel⟩
theorem sc__law_opens : FnScope ["deck", "many", "first", "step", "k"] ["deck", "many"] (defScope s__law_opens) := ⟨rfl, rfl, rfl, by decide +kernel, rfl, by decide +kernel, by decide +kernel⟩
theorem sc__law_names : FnScope ["deck", "many", "letters", "first", "rest", "some", "k", "one"] ["deck", "many"] (defScope s__law_names) := ⟨rfl, rfl, rfl, by decide +kernel, rfl, by decide +kernel, by decide +kernel⟩
theorem sc__law_worlds : FnScope ["opens", "names", "worlds", "one", "longer", "world", "fresh", "name", "more", "k"] ["opens", "names"] (defScope s__law_worlds) := ⟨rfl, rfl, rfl, by decide +kernel, rfl, by decide +kernel, by decide +kernel⟩
theorem sc__law_holds : FnScope ["world", "fact", "alike", "one", "other"] ["world", "fact"] (defScope s__law_holds) := ⟨rfl, rfl, rfl, by decide +kernel, rfl, by decide +kernel, by decide +kernel⟩
theorem sc__law_fact : FnScope ["deck", "terms"] ["deck", "terms"] (defScope s__law_fact) := ⟨rfl, rfl, rfl, by decide +kernel, rfl, by decide +kernel, by decide +kernel⟩
theorem sc__law_due : FnScope ["worlds", "one", "other", "same", "world"] ["worlds", "one", "other"] (defScope s__law_due) := ⟨rfl, rfl, rfl, by decide +kernel, rfl, by decide +kernel, by decide +kernel⟩
theorem sc__law_right : FnScope ["known", "worlds", "terms", "k", "other", "due", "told"] ["known", "worlds", "terms"] (defScope s__law_right) := ⟨rfl, rfl, rfl, by decide +kernel, rfl, by decide +kernel, by decide +kernel⟩
theorem sc__law_heard : FnScope ["known", "fact", "heard", "e", "odd"] ["known", "fact"] (defScope s__law_heard) := ⟨rfl, rfl, rfl, by decide +kernel, rfl, by decide +kernel, by decide +kernel⟩
theorem sc__law_are_facts_right : FnScope ["script", "k", "deck", "opens", "names", "known", "worlds", "first", "turn", "fact", "left", "heard", "world"] ["script"] (defScope s__law_are_facts_right) := ⟨rfl, rfl, rfl, by decide +kernel, rfl, by decide +kernel, by decide +kernel⟩
theorem sc__law_shuffled : FnScope ["deck", "some", "left", "k"] ["deck", "some"] (defScope s__law_shuffled) := ⟨rfl, rfl, rfl, by decide +kernel, rfl, by decide +kernel, by decide +kernel⟩
theorem sc__law_tied : FnScope ["deck", "group", "facts", "k", "pair"] ["deck", "group"] (defScope s__law_tied) := ⟨rfl, rfl, rfl, by decide +kernel, rfl, by decide +kernel, by decide +kernel⟩
theorem sc__law_parted : FnScope ["deck", "groups", "names", "way", "one", "other", "facts"] ["deck", "groups", "names", "way"] (defScope s__law_parted) := ⟨rfl, rfl, rfl, by decide +kernel, rfl, by decide +kernel, by decide +kernel⟩
theorem sc__law_due_of_group : FnScope ["way", "group"] ["way", "group"] (defScope s__law_due_of_group) := ⟨rfl, rfl, rfl, by decide +kernel, rfl, by decide +kernel, by decide +kernel⟩
theorem sc__law_so : FnScope ["known", "one", "other", "due", "alike", "heard"] ["known", "one", "other", "due"] (defScope s__law_so) := ⟨rfl, rfl, rfl, by decide +kernel, rfl, by decide +kernel, by decide +kernel⟩
theorem sc__law_groups_right : FnScope ["deck", "known", "groups", "names", "way", "one", "other", "turn", "k", "group", "j", "due"] ["deck", "known", "groups", "names", "way"] (defScope s__law_groups_right) := ⟨rfl, rfl, rfl, by decide +kernel, rfl, by decide +kernel, by decide +kernel⟩
theorem sc__law_are_groups_apart : FnScope ["script", "deck", "most", "sizes", "opens", "groups", "names", "way", "facts", "group", "known", "fact", "more", "turn", "third", "k", "j"] ["script"] (defScope s__law_are_groups_apart) := ⟨rfl, rfl, rfl, by decide +kernel, rfl, by decide +kernel, by decide +kernel⟩
theorem sc__law_is_named_alike : FnScope ["script", "deck", "opens", "names", "known", "near", "far", "told"] ["script"] (defScope s__law_is_named_alike) := ⟨rfl, rfl, rfl, by decide +kernel, rfl, by decide +kernel, by decide +kernel⟩
theorem sc_law : FnScope ["script"] ["script"] (defScope s_law) := ⟨rfl, rfl, rfl, by decide +kernel, rfl, by decide +kernel, by decide +kernel⟩
def d_first_of : He.DefD := ⟨("first_of", none), "first_of", "first_of", defArgs s_first_of, defBody s_first_of, defScope s_first_of, [], []⟩
def d_pair_of : He.DefD := ⟨("pair_of", none), "pair_of", "pair_of", defArgs s_pair_of, defBody s_pair_of, defScope s_pair_of, [], []⟩
def d_are_names : He.DefD := ⟨("are_names", none), "are_names", "are_names", defArgs s_are_names, defBody s_are_names, defScope s_are_names, [], []⟩
def d_Likeness___init__ : He.DefD := ⟨("Likeness", some "__init__"), "__init__", "Likeness.__init__", defArgs s_Likeness___init__, defBody s_Likeness___init__, defScope s_Likeness___init__, [.adr (He.dflAt ("Likeness", some "__init__") 0), .adr (He.dflAt ("Likeness", some "__init__") 1)], []⟩
def d_Likeness___eq__ : He.DefD := ⟨("Likeness", some "__eq__"), "__eq__", "Likeness.__eq__", defArgs s_Likeness___eq__, defBody s_Likeness___eq__, defScope s_Likeness___eq__, [], []⟩
def d_Likeness_term : He.DefD := ⟨("Likeness", some "term"), "term", "Likeness.term", defArgs s_Likeness_term, defBody s_Likeness_term, defScope s_Likeness_term, [], []⟩
def d_Likeness_are_parted : He.DefD := ⟨("Likeness", some "are_parted"), "are_parted", "Likeness.are_parted", defArgs s_Likeness_are_parted, defBody s_Likeness_are_parted, defScope s_Likeness_are_parted, [], []⟩
def d_Likeness_says : He.DefD := ⟨("Likeness", some "says"), "says", "Likeness.says", defArgs s_Likeness_says, defBody s_Likeness_says, defScope s_Likeness_says, [], []⟩
def d_Likeness_like : He.DefD := ⟨("Likeness", some "like"), "like", "Likeness.like", defArgs s_Likeness_like, defBody s_Likeness_like, defScope s_Likeness_like, [], []⟩
def d_Likeness_unlike : He.DefD := ⟨("Likeness", some "unlike"), "unlike", "Likeness.unlike", defArgs s_Likeness_unlike, defBody s_Likeness_unlike, defScope s_Likeness_unlike, [], []⟩
def d__law_same : He.DefD := ⟨("_law_same", none), "_law_same", "_law_same", defArgs s__law_same, defBody s__law_same, defScope s__law_same, [], []⟩
def d__law_is_whole : He.DefD := ⟨("_law_is_whole", none), "_law_is_whole", "_law_is_whole", defArgs s__law_is_whole, defBody s__law_is_whole, defScope s__law_is_whole, [], []⟩
def d__law_cell_at : He.DefD := ⟨("_law_cell_at", none), "_law_cell_at", "_law_cell_at", defArgs s__law_cell_at, defBody s__law_cell_at, defScope s__law_cell_at, [], []⟩
def d__law_deck : He.DefD := ⟨("_law_deck", none), "_law_deck", "_law_deck", defArgs s__law_deck, defBody s__law_deck, defScope s__law_deck, [], []⟩
def d__law_draw : He.DefD := ⟨("_law_draw", none), "_law_draw", "_law_draw", defArgs s__law_draw, defBody s__law_draw, defScope s__law_draw, [], []⟩
def d__law_pick : He.DefD := ⟨("_law_pick", none), "_law_pick", "_law_pick", defArgs s__law_pick, defBody s__law_pick, defScope s__law_pick, [], []⟩
def d__law_opens : He.DefD := ⟨("_law_opens", none), "_law_opens", "_law_opens", defArgs s__law_opens, defBody s__law_opens, defScope s__law_opens, [], []⟩
def d__law_names : He.DefD := ⟨("_law_names", none), "_law_names", "_law_names", defArgs s__law_names, defBody s__law_names, defScope s__law_names, [], []⟩
def d__law_worlds : He.DefD := ⟨("_law_worlds", none), "_law_worlds", "_law_worlds", defArgs s__law_worlds, defBody s__law_worlds, defScope s__law_worlds, [], []⟩
def d__law_holds : He.DefD := ⟨("_law_holds", none), "_law_holds", "_law_holds", defArgs s__law_holds, defBody s__law_holds, defScope s__law_holds, [], []⟩
def d__law_fact : He.DefD := ⟨("_law_fact", none), "_law_fact", "_law_fact", defArgs s__law_fact, defBody s__law_fact, defScope s__law_fact, [], []⟩
def d__law_due : He.DefD := ⟨("_law_due", none), "_law_due", "_law_due", defArgs s__law_due, defBody s__law_due, defScope s__law_due, [], []⟩
def d__law_right : He.DefD := ⟨("_law_right", none), "_law_right", "_law_right", defArgs s__law_right, defBody s__law_right, defScope s__law_right, [], []⟩
def d__law_heard : He.DefD := ⟨("_law_heard", none), "_law_heard", "_law_heard", defArgs s__law_heard, defBody s__law_heard, defScope s__law_heard, [], []⟩
def d__law_are_facts_right : He.DefD := ⟨("_law_are_facts_right", none), "_law_are_facts_right", "_law_are_facts_right", defArgs s__law_are_facts_right, defBody s__law_are_facts_right, defScope s__law_are_facts_right, [], []⟩
def d__law_shuffled : He.DefD := ⟨("_law_shuffled", none), "_law_shuffled", "_law_shuffled", defArgs s__law_shuffled, defBody s__law_shuffled, defScope s__law_shuffled, [], []⟩
def d__law_tied : He.DefD := ⟨("_law_tied", none), "_law_tied", "_law_tied", defArgs s__law_tied, defBody s__law_tied, defScope s__law_tied, [], []⟩
def d__law_parted : He.DefD := ⟨("_law_parted", none), "_law_parted", "_law_parted", defArgs s__law_parted, defBody s__law_parted, defScope s__law_parted, [], []⟩
def d__law_due_of_group : He.DefD := ⟨("_law_due_of_group", none), "_law_due_of_group", "_law_due_of_group", defArgs s__law_due_of_group, defBody s__law_due_of_group, defScope s__law_due_of_group, [], []⟩
def d__law_so : He.DefD := ⟨("_law_so", none), "_law_so", "_law_so", defArgs s__law_so, defBody s__law_so, defScope s__law_so, [], []⟩
def d__law_groups_right : He.DefD := ⟨("_law_groups_right", none), "_law_groups_right", "_law_groups_right", defArgs s__law_groups_right, defBody s__law_groups_right, defScope s__law_groups_right, [], []⟩
def d__law_are_groups_apart : He.DefD := ⟨("_law_are_groups_apart", none), "_law_are_groups_apart", "_law_are_groups_apart", defArgs s__law_are_groups_apart, defBody s__law_are_groups_apart, defScope s__law_are_groups_apart, [], []⟩
def d__law_is_named_alike : He.DefD := ⟨("_law_is_named_alike", none), "_law_is_named_alike", "_law_is_named_alike", defArgs s__law_is_named_alike, defBody s__law_is_named_alike, defScope s__law_is_named_alike, [], []⟩
def d_law : He.DefD := ⟨("law", none), "law", "law", defArgs s_law, defBody s_law, defScope s_law, [], []⟩
def fn : List He.DefD := [d_first_of, d_pair_of, d_are_names, d_Likeness___init__, d_Likeness___eq__, d_Likeness_term, d_Likeness_are_parted, d_Likeness_says, d_Likeness_like, d_Likeness_unlike, d__law_same, d__law_is_whole, d__law_cell_at, d__law_deck, d__law_draw, d__law_pick, d__law_opens, d__law_names, d__law_worlds, d__law_holds, d__law_fact, d__law_due, d__law_right, d__law_heard, d__law_are_facts_right, d__law_shuffled, d__law_tied, d__law_parted, d__law_due_of_group, d__law_so, d__law_groups_right, d__law_are_groups_apart, d__law_is_named_alike, d_law]
def fa : List He.Fa := [.glo "first_of", .glo "pair_of", .glo "are_names", .glo "_law_same", .glo "_law_is_whole", .glo "_law_cell_at", .glo "_law_deck", .glo "_law_draw", .glo "_law_pick", .glo "_law_opens", .glo "_law_names", .glo "_law_worlds", .glo "_law_holds", .glo "_law_fact", .glo "_law_due", .glo "_law_right", .glo "_law_heard", .glo "_law_are_facts_right", .glo "_law_shuffled", .glo "_law_tied", .glo "_law_parted", .glo "_law_due_of_group", .glo "_law_so", .glo "_law_groups_right", .glo "_law_are_groups_apart", .glo "_law_is_named_alike", .glo "law", .glo "Likeness", .cls "Likeness", .mkr "Likeness", .noat "Likeness" "heads_known", .noat "Likeness" "unlike_pairs", .meth "Likeness" "__eq__", .meth "Likeness" "term", .meth "Likeness" "are_parted", .meth "Likeness" "says", .meth "Likeness" "like", .meth "Likeness" "unlike", .glo "TripError", .glo "Apart", .glo "Idle", .glo "NoMatch", .glo "Odd", .glo "TooMany", .glo "Unsound", .free "isinstance", .free "str", .free "min", .free "dict", .free "list", .free "len", .free "range", .free "set", .free "sum", .free "int", .free "zip", .free "bool", .free "tuple", .free "max"]
def eO {α : Type} [DecidableEq α] (a b : α) : Bool := decide (a = b)
def nilB (K : PySem.W.Frag) (a : Addr) : Bool := match K.lookup a with
  | some ⟨.type c, none, .seq its _, _⟩ => decide (c = "tuple") && decide (its.size = 0)
  | _ => false
def insB (K : PySem.W.Frag) (C : Addr) : Bool :=
  eO (PySem.W.findIn K (.ref C) "__class__") (some (some (.builtin "object.__class__"))) && eO (PySem.W.specialIn K (.builtin "object.__class__") "__get__") (some (some (.builtin "getset_descriptor.__get__"))) &&
  eO (PySem.W.takesIn K (.builtin "object.__class__")) (some true) && eO (PySem.W.mroIn K C (.type "object")) (some true)
def excB (K : PySem.W.Frag) (D : Addr) : Bool :=
  eO (PySem.W.findIn K (.ref D) "__getattribute__") (some (some (.builtin "BaseException.__getattribute__"))) && eO (PySem.W.findIn K (.ref D) "__getattr__") (some none) && eO (PySem.W.subIn K (.ref D) (.type "BaseException")) (some true) &&
  PySem.W.hasDictIn K D && eO (PySem.W.typeIn K (.ref D)) (some (.type "type")) && PySem.W.keepIn K (.ref D) && insB K D && PySem.W.excIn K D [.type "Exception", .type "BaseException", .type "object"] "Exception.__new__"
def a0 (K : PySem.W.Frag) : Addr := He.dflAt ("Likeness", some "__init__") 0 K
def a1 (K : PySem.W.Frag) : Addr := He.dflAt ("Likeness", some "__init__") 1 K
def exB (K : PySem.W.Frag) : Bool :=
  nilB K (a0 K) && nilB K (a1 K) && insB K (He.ga K "Likeness") && excB K (He.ga K "Apart") && eO (PySem.W.kitOne K (.ref (He.ga K "Likeness")) (.type "str")) (some false) && eO (PySem.W.kitOne K (.ref (He.ga K "Likeness")) (.ref (He.ga K "Likeness"))) (some true) &&
  eO (PySem.W.exmOne K (.ref (He.ga K "Apart")) (.ref (He.ga K "TripError"))) (some true) && eO (PySem.W.kitOne K (.ref (He.ga K "Apart")) (.ref (He.ga K "Apart"))) (some true) &&
  eO (PySem.W.kitAny K (.ref (He.ga K "Apart")) [.ref (He.ga K "Idle"), .ref (He.ga K "NoMatch"), .ref (He.ga K "Odd"), .ref (He.ga K "TooMany"), .ref (He.ga K "Unsound")]) (some false)
structure Wd (K : PySem.W.Frag) (mg : Str → Option Value) : Prop where
  at_ : ∃ h : Heap, K.In h ∧ h.Ns mainGlobals mg
  c : He.SaysD fa fn K
  ex : exB K = true
section
variable {K : PySem.W.Frag} {mg : Str → Option Value}
theorem Wd.g_first_of (W : Wd K mg) : mg "first_of" = some (.ref (He.ga K "first_of")) := let ⟨_, X, G⟩ := W.at_; He.glo_ok X G (W.c.fact 0 (f := .glo "first_of") rfl)
theorem Wd.g_pair_of (W : Wd K mg) : mg "pair_of" = some (.ref (He.ga K "pair_of")) := let ⟨_, X, G⟩ := W.at_; He.glo_ok X G (W.c.fact 1 (f := .glo "pair_of") rfl)
theorem Wd.g_are_names (W : Wd K mg) : mg "are_names" = some (.ref (He.ga K "are_names")) := let ⟨_, X, G⟩ := W.at_; He.glo_ok X G (W.c.fact 2 (f := .glo "are_names") rfl)
theorem Wd.g__law_same (W : Wd K mg) : mg "_law_same" = some (.ref (He.ga K "_law_same")) := let ⟨_, X, G⟩ := W.at_; He.glo_ok X G (W.c.fact 3 (f := .glo "_law_same") rfl)
theorem Wd.g__law_is_whole (W : Wd K mg) : mg "_law_is_whole" = some (.ref (He.ga K "_law_is_whole")) := let ⟨_, X, G⟩ := W.at_; He.glo_ok X G (W.c.fact 4 (f := .glo "_law_is_whole") rfl)
theorem Wd.g__law_cell_at (W : Wd K mg) : mg "_law_cell_at" = some (.ref (He.ga K "_law_cell_at")) := let ⟨_, X, G⟩ := W.at_; He.glo_ok X G (W.c.fact 5 (f := .glo "_law_cell_at") rfl)
theorem Wd.g__law_deck (W : Wd K mg) : mg "_law_deck" = some (.ref (He.ga K "_law_deck")) := let ⟨_, X, G⟩ := W.at_; He.glo_ok X G (W.c.fact 6 (f := .glo "_law_deck") rfl)
theorem Wd.g__law_draw (W : Wd K mg) : mg "_law_draw" = some (.ref (He.ga K "_law_draw")) := let ⟨_, X, G⟩ := W.at_; He.glo_ok X G (W.c.fact 7 (f := .glo "_law_draw") rfl)
theorem Wd.g__law_pick (W : Wd K mg) : mg "_law_pick" = some (.ref (He.ga K "_law_pick")) := let ⟨_, X, G⟩ := W.at_; He.glo_ok X G (W.c.fact 8 (f := .glo "_law_pick") rfl)
theorem Wd.g__law_opens (W : Wd K mg) : mg "_law_opens" = some (.ref (He.ga K "_law_opens")) := let ⟨_, X, G⟩ := W.at_; He.glo_ok X G (W.c.fact 9 (f := .glo "_law_opens") rfl)
theorem Wd.g__law_names (W : Wd K mg) : mg "_law_names" = some (.ref (He.ga K "_law_names")) := let ⟨_, X, G⟩ := W.at_; He.glo_ok X G (W.c.fact 10 (f := .glo "_law_names") rfl)
theorem Wd.g__law_worlds (W : Wd K mg) : mg "_law_worlds" = some (.ref (He.ga K "_law_worlds")) := let ⟨_, X, G⟩ := W.at_; He.glo_ok X G (W.c.fact 11 (f := .glo "_law_worlds") rfl)
theorem Wd.g__law_holds (W : Wd K mg) : mg "_law_holds" = some (.ref (He.ga K "_law_holds")) := let ⟨_, X, G⟩ := W.at_; He.glo_ok X G (W.c.fact 12 (f := .glo "_law_holds") rfl)
theorem Wd.g__law_fact (W : Wd K mg) : mg "_law_fact" = some (.ref (He.ga K "_law_fact")) := let ⟨_, X, G⟩ := W.at_; He.glo_ok X G (W.c.fact 13 (f := .glo "_law_fact") rfl)
theorem Wd.g__law_due (W : Wd K mg) : mg "_law_due" = some (.ref (He.ga K "_law_due")) := let ⟨_, X, G⟩ := W.at_; He.glo_ok X G (W.c.fact 14 (f := .glo "_law_due") rfl)
theorem Wd.g__law_right (W : Wd K mg) : mg "_law_right" = some (.ref (He.ga K "_law_right")) := let ⟨_, X, G⟩ := W.at_; He.glo_ok X G (W.c.fact 15 (f := .glo "_law_right") rfl)
theorem Wd.g__law_heard (W : Wd K mg) : mg "_law_heard" = some (.ref (He.ga K "_law_heard")) := let ⟨_, X, G⟩ := W.at_; He.glo_ok X G (W.c.fact 16 (f := .glo "_law_heard") rfl)
theorem Wd.g__law_are_facts_right (W : Wd K mg) : mg "_law_are_facts_right" = some (.ref (He.ga K "_law_are_facts_right")) := let ⟨_, X, G⟩ := W.at_; He.glo_ok X G (W.c.fact 17 (f := .glo "_law_are_facts_right") rfl)
theorem Wd.g__law_shuffled (W : Wd K mg) : mg "_law_shuffled" = some (.ref (He.ga K "_law_shuffled")) := let ⟨_, X, G⟩ := W.at_; He.glo_ok X G (W.c.fact 18 (f := .glo "_law_shuffled") rfl)
theorem Wd.g__law_tied (W : Wd K mg) : mg "_law_tied" = some (.ref (He.ga K "_law_tied")) := let ⟨_, X, G⟩ := W.at_; He.glo_ok X G (W.c.fact 19 (f := .glo "_law_tied") rfl)
theorem Wd.g__law_parted (W : Wd K mg) : mg "_law_parted" = some (.ref (He.ga K "_law_parted")) := let ⟨_, X, G⟩ := W.at_; He.glo_ok X G (W.c.fact 20 (f := .glo "_law_parted") rfl)
theorem Wd.g__law_due_of_group (W : Wd K mg) : mg "_law_due_of_group" = some (.ref (He.ga K "_law_due_of_group")) := let ⟨_, X, G⟩ := W.at_; He.glo_ok X G (W.c.fact 21 (f := .glo "_law_due_of_group") rfl)
theorem Wd.g__law_so (W : Wd K mg) : mg "_law_so" = some (.ref (He.ga K "_law_so")) := let ⟨_, X, G⟩ := W.at_; He.glo_ok X G (W.c.fact 22 (f := .glo "_law_so") rfl)
theorem Wd.g__law_groups_right (W : Wd K mg) : mg "_law_groups_right" = some (.ref (He.ga K "_law_groups_right")) := let ⟨_, X, G⟩ := W.at_; He.glo_ok X G (W.c.fact 23 (f := .glo "_law_groups_right") rfl)
theorem Wd.g__law_are_groups_apart (W : Wd K mg) : mg "_law_are_groups_apart" = some (.ref (He.ga K "_law_are_groups_apart")) := let ⟨_, X, G⟩ := W.at_; He.glo_ok X G (W.c.fact 24 (f := .glo "_law_are_groups_apart") rfl)
theorem Wd.g__law_is_named_alike (W : Wd K mg) : mg "_law_is_named_alike" = some (.ref (He.ga K "_law_is_named_alike")) := let ⟨_, X, G⟩ := W.at_; He.glo_ok X G (W.c.fact 25 (f := .glo "_law_is_named_alike") rfl)
theorem Wd.g_law (W : Wd K mg) : mg "law" = some (.ref (He.ga K "law")) := let ⟨_, X, G⟩ := W.at_; He.glo_ok X G (W.c.fact 26 (f := .glo "law") rfl)
theorem Wd.g_Likeness (W : Wd K mg) : mg "Likeness" = some (.ref (He.ga K "Likeness")) := let ⟨_, X, G⟩ := W.at_; He.glo_ok X G (W.c.fact 27 (f := .glo "Likeness") rfl)
theorem Wd.cl_Likeness (W : Wd K mg) : Cls K (He.ga K "Likeness") := He.cls_ok (W.c.fact 28 (f := .cls "Likeness") rfl)
theorem Wd.mk_Likeness (W : Wd K mg) : Mk K (He.ga K "Likeness") (He.ma K (He.ga K "Likeness") "__init__") := He.mkr_ok (W.c.fact 29 (f := .mkr "Likeness") rfl)
theorem Wd.no_Likeness_heads_known (W : Wd K mg) : NoAttr K (He.ga K "Likeness") "heads_known" := He.noat_ok (W.c.fact 30 (f := .noat "Likeness" "heads_known") rfl)
theorem Wd.no_Likeness_unlike_pairs (W : Wd K mg) : NoAttr K (He.ga K "Likeness") "unlike_pairs" := He.noat_ok (W.c.fact 31 (f := .noat "Likeness" "unlike_pairs") rfl)
theorem Wd.m_Likeness___eq__ (W : Wd K mg) : Meth K (He.ga K "Likeness") "__eq__" (He.ma K (He.ga K "Likeness") "__eq__") := He.meth_ok (W.c.fact 32 (f := .meth "Likeness" "__eq__") rfl)
theorem Wd.m_Likeness_term (W : Wd K mg) : Meth K (He.ga K "Likeness") "term" (He.ma K (He.ga K "Likeness") "term") := He.meth_ok (W.c.fact 33 (f := .meth "Likeness" "term") rfl)
theorem Wd.m_Likeness_are_parted (W : Wd K mg) : Meth K (He.ga K "Likeness") "are_parted" (He.ma K (He.ga K "Likeness") "are_parted") := He.meth_ok (W.c.fact 34 (f := .meth "Likeness" "are_parted") rfl)
theorem Wd.m_Likeness_says (W : Wd K mg) : Meth K (He.ga K "Likeness") "says" (He.ma K (He.ga K "Likeness") "says") := He.meth_ok (W.c.fact 35 (f := .meth "Likeness" "says") rfl)
theorem Wd.m_Likeness_like (W : Wd K mg) : Meth K (He.ga K "Likeness") "like" (He.ma K (He.ga K "Likeness") "like") := He.meth_ok (W.c.fact 36 (f := .meth "Likeness" "like") rfl)
theorem Wd.m_Likeness_unlike (W : Wd K mg) : Meth K (He.ga K "Likeness") "unlike" (He.ma K (He.ga K "Likeness") "unlike") := He.meth_ok (W.c.fact 37 (f := .meth "Likeness" "unlike") rfl)
theorem Wd.g_TripError (W : Wd K mg) : mg "TripError" = some (.ref (He.ga K "TripError")) := let ⟨_, X, G⟩ := W.at_; He.glo_ok X G (W.c.fact 38 (f := .glo "TripError") rfl)
theorem Wd.g_Apart (W : Wd K mg) : mg "Apart" = some (.ref (He.ga K "Apart")) := let ⟨_, X, G⟩ := W.at_; He.glo_ok X G (W.c.fact 39 (f := .glo "Apart") rfl)
theorem Wd.g_Idle (W : Wd K mg) : mg "Idle" = some (.ref (He.ga K "Idle")) := let ⟨_, X, G⟩ := W.at_; He.glo_ok X G (W.c.fact 40 (f := .glo "Idle") rfl)
theorem Wd.g_NoMatch (W : Wd K mg) : mg "NoMatch" = some (.ref (He.ga K "NoMatch")) := let ⟨_, X, G⟩ := W.at_; He.glo_ok X G (W.c.fact 41 (f := .glo "NoMatch") rfl)
theorem Wd.g_Odd (W : Wd K mg) : mg "Odd" = some (.ref (He.ga K "Odd")) := let ⟨_, X, G⟩ := W.at_; He.glo_ok X G (W.c.fact 42 (f := .glo "Odd") rfl)
theorem Wd.g_TooMany (W : Wd K mg) : mg "TooMany" = some (.ref (He.ga K "TooMany")) := let ⟨_, X, G⟩ := W.at_; He.glo_ok X G (W.c.fact 43 (f := .glo "TooMany") rfl)
theorem Wd.g_Unsound (W : Wd K mg) : mg "Unsound" = some (.ref (He.ga K "Unsound")) := let ⟨_, X, G⟩ := W.at_; He.glo_ok X G (W.c.fact 44 (f := .glo "Unsound") rfl)
theorem Wd.isinstance (W : Wd K mg) : mg "isinstance" = none := let ⟨_, X, G⟩ := W.at_; He.free_ok X G (W.c.fact 45 (f := .free "isinstance") rfl)
theorem Wd.str (W : Wd K mg) : mg "str" = none := let ⟨_, X, G⟩ := W.at_; He.free_ok X G (W.c.fact 46 (f := .free "str") rfl)
theorem Wd.min_ (W : Wd K mg) : mg "min" = none := let ⟨_, X, G⟩ := W.at_; He.free_ok X G (W.c.fact 47 (f := .free "min") rfl)
theorem Wd.dict_ (W : Wd K mg) : mg "dict" = none := let ⟨_, X, G⟩ := W.at_; He.free_ok X G (W.c.fact 48 (f := .free "dict") rfl)
theorem Wd.list_ (W : Wd K mg) : mg "list" = none := let ⟨_, X, G⟩ := W.at_; He.free_ok X G (W.c.fact 49 (f := .free "list") rfl)
theorem Wd.len (W : Wd K mg) : mg "len" = none := let ⟨_, X, G⟩ := W.at_; He.free_ok X G (W.c.fact 50 (f := .free "len") rfl)
theorem Wd.range (W : Wd K mg) : mg "range" = none := let ⟨_, X, G⟩ := W.at_; He.free_ok X G (W.c.fact 51 (f := .free "range") rfl)
theorem Wd.set_ (W : Wd K mg) : mg "set" = none := let ⟨_, X, G⟩ := W.at_; He.free_ok X G (W.c.fact 52 (f := .free "set") rfl)
theorem Wd.sum_ (W : Wd K mg) : mg "sum" = none := let ⟨_, X, G⟩ := W.at_; He.free_ok X G (W.c.fact 53 (f := .free "sum") rfl)
theorem Wd.int_ (W : Wd K mg) : mg "int" = none := let ⟨_, X, G⟩ := W.at_; He.free_ok X G (W.c.fact 54 (f := .free "int") rfl)
theorem Wd.zip (W : Wd K mg) : mg "zip" = none := let ⟨_, X, G⟩ := W.at_; He.free_ok X G (W.c.fact 55 (f := .free "zip") rfl)
theorem Wd.bool (W : Wd K mg) : mg "bool" = none := let ⟨_, X, G⟩ := W.at_; He.free_ok X G (W.c.fact 56 (f := .free "bool") rfl)
theorem Wd.tuple (W : Wd K mg) : mg "tuple" = none := let ⟨_, X, G⟩ := W.at_; He.free_ok X G (W.c.fact 57 (f := .free "tuple") rfl)
theorem Wd.max_ (W : Wd K mg) : mg "max" = none := let ⟨_, X, G⟩ := W.at_; He.free_ok X G (W.c.fact 58 (f := .free "max") rfl)
theorem Wd.f_first_of (W : Wd K mg) : ∃ fd, FunD K "first_of" "first_of" (defArgs s_first_of) (defBody s_first_of) (defScope s_first_of) (d_first_of.dvs K) [] (He.ga K "first_of") fd := W.c.def_ 0 (d := d_first_of) rfl
theorem Wd.f_pair_of (W : Wd K mg) : ∃ fd, FunD K "pair_of" "pair_of" (defArgs s_pair_of) (defBody s_pair_of) (defScope s_pair_of) (d_pair_of.dvs K) [] (He.ga K "pair_of") fd := W.c.def_ 1 (d := d_pair_of) rfl
theorem Wd.f_are_names (W : Wd K mg) : ∃ fd, FunD K "are_names" "are_names" (defArgs s_are_names) (defBody s_are_names) (defScope s_are_names) (d_are_names.dvs K) [] (He.ga K "are_names") fd := W.c.def_ 2 (d := d_are_names) rfl
theorem Wd.f_Likeness___init__ (W : Wd K mg) : ∃ fd, FunD K "__init__" "Likeness.__init__" (defArgs s_Likeness___init__) (defBody s_Likeness___init__) (defScope s_Likeness___init__) (d_Likeness___init__.dvs K) [] (He.ma K (He.ga K "Likeness") "__init__") fd := W.c.def_ 3 (d := d_Likeness___init__) rfl
theorem Wd.f_Likeness___eq__ (W : Wd K mg) : ∃ fd, FunD K "__eq__" "Likeness.__eq__" (defArgs s_Likeness___eq__) (defBody s_Likeness___eq__) (defScope s_Likeness___eq__) (d_Likeness___eq__.dvs K) [] (He.ma K (He.ga K "Likeness") "__eq__") fd := W.c.def_ 4 (d := d_Likeness___eq__) rfl
theorem Wd.f_Likeness_term (W : Wd K mg) : ∃ fd, FunD K "term" "Likeness.term" (defArgs s_Likeness_term) (defBody s_Likeness_term) (defScope s_Likeness_term) (d_Likeness_term.dvs K) [] (He.ma K (He.ga K "Likeness") "term") fd := W.c.def_ 5 (d := d_Likeness_term) rfl
theorem Wd.f_Likeness_are_parted (W : Wd K mg) : ∃ fd, FunD K "are_parted" "Likeness.are_parted" (defArgs s_Likeness_are_parted) (defBody s_Likeness_are_parted) (defScope s_Likeness_are_parted) (d_Likeness_are_parted.dvs K) [] (He.ma K (He.ga K "Likeness") "are_parted") fd := W.c.def_ 6 (d := d_Likeness_are_parted) rfl
theorem Wd.f_Likeness_says (W : Wd K mg) : ∃ fd, FunD K "says" "Likeness.says" (defArgs s_Likeness_says) (defBody s_Likeness_says) (defScope s_Likeness_says) (d_Likeness_says.dvs K) [] (He.ma K (He.ga K "Likeness") "says") fd := W.c.def_ 7 (d := d_Likeness_says) rfl
theorem Wd.f_Likeness_like (W : Wd K mg) : ∃ fd, FunD K "like" "Likeness.like" (defArgs s_Likeness_like) (defBody s_Likeness_like) (defScope s_Likeness_like) (d_Likeness_like.dvs K) [] (He.ma K (He.ga K "Likeness") "like") fd := W.c.def_ 8 (d := d_Likeness_like) rfl
theorem Wd.f_Likeness_unlike (W : Wd K mg) : ∃ fd, FunD K "unlike" "Likeness.unlike" (defArgs s_Likeness_unlike) (defBody s_Likeness_unlike) (defScope s_Likeness_unlike) (d_Likeness_unlike.dvs K) [] (He.ma K (He.ga K "Likeness") "unlike") fd := W.c.def_ 9 (d := d_Likeness_unlike) rfl
theorem Wd.f__law_same (W : Wd K mg) : ∃ fd, FunD K "_law_same" "_law_same" (defArgs s__law_same) (defBody s__law_same) (defScope s__law_same) (d__law_same.dvs K) [] (He.ga K "_law_same") fd := W.c.def_ 10 (d := d__law_same) rfl
theorem Wd.f__law_is_whole (W : Wd K mg) : ∃ fd, FunD K "_law_is_whole" "_law_is_whole" (defArgs s__law_is_whole) (defBody s__law_is_whole) (defScope s__law_is_whole) (d__law_is_whole.dvs K) [] (He.ga K "_law_is_whole") fd := W.c.def_ 11 (d := d__law_is_whole) rfl
theorem Wd.f__law_cell_at (W : Wd K mg) : ∃ fd, FunD K "_law_cell_at" "_law_cell_at" (defArgs s__law_cell_at) (defBody s__law_cell_at) (defScope s__law_cell_at) (d__law_cell_at.dvs K) [] (He.ga K "_law_cell_at") fd := W.c.def_ 12 (d := d__law_cell_at) rfl
theorem Wd.f__law_deck (W : Wd K mg) : ∃ fd, FunD K "_law_deck" "_law_deck" (defArgs s__law_deck) (defBody s__law_deck) (defScope s__law_deck) (d__law_deck.dvs K) [] (He.ga K "_law_deck") fd := W.c.def_ 13 (d := d__law_deck) rfl
theorem Wd.f__law_draw (W : Wd K mg) : ∃ fd, FunD K "_law_draw" "_law_draw" (defArgs s__law_draw) (defBody s__law_draw) (defScope s__law_draw) (d__law_draw.dvs K) [] (He.ga K "_law_draw") fd := W.c.def_ 14 (d := d__law_draw) rfl
theorem Wd.f__law_pick (W : Wd K mg) : ∃ fd, FunD K "_law_pick" "_law_pick" (defArgs s__law_pick) (defBody s__law_pick) (defScope s__law_pick) (d__law_pick.dvs K) [] (He.ga K "_law_pick") fd := W.c.def_ 15 (d := d__law_pick) rfl
theorem Wd.f__law_opens (W : Wd K mg) : ∃ fd, FunD K "_law_opens" "_law_opens" (defArgs s__law_opens) (defBody s__law_opens) (defScope s__law_opens) (d__law_opens.dvs K) [] (He.ga K "_law_opens") fd := W.c.def_ 16 (d := d__law_opens) rfl
theorem Wd.f__law_names (W : Wd K mg) : ∃ fd, FunD K "_law_names" "_law_names" (defArgs s__law_names) (defBody s__law_names) (defScope s__law_names) (d__law_names.dvs K) [] (He.ga K "_law_names") fd := W.c.def_ 17 (d := d__law_names) rfl
theorem Wd.f__law_worlds (W : Wd K mg) : ∃ fd, FunD K "_law_worlds" "_law_worlds" (defArgs s__law_worlds) (defBody s__law_worlds) (defScope s__law_worlds) (d__law_worlds.dvs K) [] (He.ga K "_law_worlds") fd := W.c.def_ 18 (d := d__law_worlds) rfl
theorem Wd.f__law_holds (W : Wd K mg) : ∃ fd, FunD K "_law_holds" "_law_holds" (defArgs s__law_holds) (defBody s__law_holds) (defScope s__law_holds) (d__law_holds.dvs K) [] (He.ga K "_law_holds") fd := W.c.def_ 19 (d := d__law_holds) rfl
theorem Wd.f__law_fact (W : Wd K mg) : ∃ fd, FunD K "_law_fact" "_law_fact" (defArgs s__law_fact) (defBody s__law_fact) (defScope s__law_fact) (d__law_fact.dvs K) [] (He.ga K "_law_fact") fd := W.c.def_ 20 (d := d__law_fact) rfl
theorem Wd.f__law_due (W : Wd K mg) : ∃ fd, FunD K "_law_due" "_law_due" (defArgs s__law_due) (defBody s__law_due) (defScope s__law_due) (d__law_due.dvs K) [] (He.ga K "_law_due") fd := W.c.def_ 21 (d := d__law_due) rfl
theorem Wd.f__law_right (W : Wd K mg) : ∃ fd, FunD K "_law_right" "_law_right" (defArgs s__law_right) (defBody s__law_right) (defScope s__law_right) (d__law_right.dvs K) [] (He.ga K "_law_right") fd := W.c.def_ 22 (d := d__law_right) rfl
theorem Wd.f__law_heard (W : Wd K mg) : ∃ fd, FunD K "_law_heard" "_law_heard" (defArgs s__law_heard) (defBody s__law_heard) (defScope s__law_heard) (d__law_heard.dvs K) [] (He.ga K "_law_heard") fd := W.c.def_ 23 (d := d__law_heard) rfl
theorem Wd.f__law_are_facts_right (W : Wd K mg) : ∃ fd, FunD K "_law_are_facts_right" "_law_are_facts_right" (defArgs s__law_are_facts_right) (defBody s__law_are_facts_right) (defScope s__law_are_facts_right) (d__law_are_facts_right.dvs K) [] (He.ga K "_law_are_facts_right") fd := W.c.def_ 24 (d := d__law_are_facts_right) rfl
theorem Wd.f__law_shuffled (W : Wd K mg) : ∃ fd, FunD K "_law_shuffled" "_law_shuffled" (defArgs s__law_shuffled) (defBody s__law_shuffled) (defScope s__law_shuffled) (d__law_shuffled.dvs K) [] (He.ga K "_law_shuffled") fd := W.c.def_ 25 (d := d__law_shuffled) rfl
theorem Wd.f__law_tied (W : Wd K mg) : ∃ fd, FunD K "_law_tied" "_law_tied" (defArgs s__law_tied) (defBody s__law_tied) (defScope s__law_tied) (d__law_tied.dvs K) [] (He.ga K "_law_tied") fd := W.c.def_ 26 (d := d__law_tied) rfl
theorem Wd.f__law_parted (W : Wd K mg) : ∃ fd, FunD K "_law_parted" "_law_parted" (defArgs s__law_parted) (defBody s__law_parted) (defScope s__law_parted) (d__law_parted.dvs K) [] (He.ga K "_law_parted") fd := W.c.def_ 27 (d := d__law_parted) rfl
theorem Wd.f__law_due_of_group (W : Wd K mg) : ∃ fd, FunD K "_law_due_of_group" "_law_due_of_group" (defArgs s__law_due_of_group) (defBody s__law_due_of_group) (defScope s__law_due_of_group) (d__law_due_of_group.dvs K) [] (He.ga K "_law_due_of_group") fd := W.c.def_ 28 (d := d__law_due_of_group) rfl
theorem Wd.f__law_so (W : Wd K mg) : ∃ fd, FunD K "_law_so" "_law_so" (defArgs s__law_so) (defBody s__law_so) (defScope s__law_so) (d__law_so.dvs K) [] (He.ga K "_law_so") fd := W.c.def_ 29 (d := d__law_so) rfl
theorem Wd.f__law_groups_right (W : Wd K mg) : ∃ fd, FunD K "_law_groups_right" "_law_groups_right" (defArgs s__law_groups_right) (defBody s__law_groups_right) (defScope s__law_groups_right) (d__law_groups_right.dvs K) [] (He.ga K "_law_groups_right") fd := W.c.def_ 30 (d := d__law_groups_right) rfl
theorem Wd.f__law_are_groups_apart (W : Wd K mg) : ∃ fd, FunD K "_law_are_groups_apart" "_law_are_groups_apart" (defArgs s__law_are_groups_apart) (defBody s__law_are_groups_apart) (defScope s__law_are_groups_apart) (d__law_are_groups_apart.dvs K) [] (He.ga K "_law_are_groups_apart") fd := W.c.def_ 31 (d := d__law_are_groups_apart) rfl
theorem Wd.f__law_is_named_alike (W : Wd K mg) : ∃ fd, FunD K "_law_is_named_alike" "_law_is_named_alike" (defArgs s__law_is_named_alike) (defBody s__law_is_named_alike) (defScope s__law_is_named_alike) (d__law_is_named_alike.dvs K) [] (He.ga K "_law_is_named_alike") fd := W.c.def_ 32 (d := d__law_is_named_alike) rfl
theorem Wd.f_law (W : Wd K mg) : ∃ fd, FunD K "law" "law" (defArgs s_law) (defBody s_law) (defScope s_law) (d_law.dvs K) [] (He.ga K "law") fd := W.c.def_ 33 (d := d_law) rfl
end
end K14
set_option linter.all false
set_option maxHeartbeats 1000000
/-! Likenesses as plain data. -/
namespace Lk
open PySem L2
instance decMem (a : Key × Key) (l : List (Key × Key)) : Decidable (a ∈ l) := decidable_of_iff (l.any (fun q => decide (q = a)) = true) (by simp [List.any_eq_true])
def isN : Key → Bool
  | .inl _ => false
  | .inr _ => true
def firstOf : Key → Key → Key
  | .inr s, _ => .inr s
  | .inl _, .inr s => .inr s
  | .inl i, .inl j => .inl (if j < i then j else i)
def pairOf : Key → Key → Key × Key
  | .inr s, b => (b, .inr s)
  | .inl i, .inr s => (.inl i, .inr s)
  | .inl i, .inl j => if j < i then (.inl j, .inl i) else (.inl i, .inl j)
def areN (a b : Key) : Bool := isN a && isN b
structure L where
  heads : List (Key × Key)
  pairs : List (Key × Key)
def term (l : L) (k : Key) : Key := ((l.heads.find? fun p => decide (p.1 = k)).map (·.2)).getD k
def parted (l : L) (h t : Key) : Bool := areN h t || decide (pairOf h t ∈ l.pairs)
def says (l : L) (x y : Key) : Option Bool := if term l x = term l y then some true else if parted l (term l x) (term l y) = true then some false else none
def addP (acc : List (Key × Key)) (p : Key × Key) : List (Key × Key) := if p ∈ acc then acc else acc ++ [p]
def dedup (ps : List (Key × Key)) : List (Key × Key) := ps.foldl addP []
def sub (g s k : Key) : Key := if k = g then s else k
def merge (l : L) (s g : Key) : L :=
  ⟨l.heads.map (fun p => (p.1, sub g s p.2)) ++ [(g, s)], dedup ((l.pairs.filter fun p => !areN (sub g s p.1) (sub g s p.2)).map fun p => pairOf (sub g s p.1) (sub g s p.2))⟩
def stays (h t : Key) : Key := firstOf h t
def goes (h t : Key) : Key := if firstOf h t = h then t else h
def like (l : L) (x y : Key) : Option L :=
  if term l x = term l y then some l else if parted l (term l x) (term l y) = true then none else some (merge l (stays (term l x) (term l y)) (goes (term l x) (term l y)))
def unlike (l : L) (x y : Key) : Option L :=
  if term l x = term l y then none else if parted l (term l x) (term l y) = true then some l else some ⟨l.heads, dedup (l.pairs ++ [pairOf (term l x) (term l y)])⟩

/-! ### what is so of it -/
theorem firstOf_cases (h t : Key) : firstOf h t = h ∨ firstOf h t = t := by
  cases h with
  | inr s => exact .inl rfl
  | inl i =>
    cases t with
    | inr s => exact .inr rfl
    | inl j =>
      show Sum.inl (if j < i then j else i) = _ ∨ Sum.inl (if j < i then j else i) = _
      split
      · exact .inr rfl
      · exact .inl rfl
theorem two (h t : Key) : (stays h t = h ∧ goes h t = t) ∨ (stays h t = t ∧ goes h t = h) := by
  unfold stays goes
  by_cases e : firstOf h t = h
  · exact .inl ⟨e, if_pos e⟩
  · exact .inr ⟨(firstOf_cases h t).resolve_left e, if_neg e⟩
theorem goes_int {h t : Key} (hn : areN h t = false) (ne : h ≠ t) : ∃ i, goes h t = .inl i := by
  unfold goes
  cases h with
  | inr s =>
    cases t with
    | inr z => cases hn
    | inl j => exact ⟨j, if_pos rfl⟩
  | inl i =>
    cases t with
    | inr z => exact ⟨i, if_neg (fun q => nomatch q)⟩
    | inl j =>
      by_cases q : firstOf (.inl i) (.inl j) = .inl i
      · exact ⟨j, if_pos q⟩
      · exact ⟨i, if_neg q⟩
theorem areN_comm (a b : Key) : areN a b = areN b a := Bool.and_comm _ _
theorem pairOf_comm {a b : Key} (h : areN a b = false) : pairOf a b = pairOf b a := by
  cases a with
  | inr s =>
    cases b with
    | inr z => cases h
    | inl j => rfl
  | inl i =>
    cases b with
    | inr z => rfl
    | inl j =>
      show (if j < i then _ else _) = (if i < j then _ else _)
      by_cases c : j < i
      · rw [if_pos c, if_neg (by omega)]
      · by_cases d : i < j
        · rw [if_neg c, if_pos d]
        · have e : i = j := by omega
          subst e
          rw [if_neg c]
theorem pairOf_two (a b : Key) : pairOf a b = (a, b) ∨ pairOf a b = (b, a) := by
  cases a with
  | inr s => exact .inr rfl
  | inl i =>
    cases b with
    | inr z => exact .inl rfl
    | inl j =>
      show (if j < i then _ else _) = _ ∨ (if j < i then _ else _) = _
      split
      · exact .inr rfl
      · exact .inl rfl
theorem pairOf_idem {a b : Key} (h : areN a b = false) : pairOf (pairOf a b).1 (pairOf a b).2 = pairOf a b := by
  rcases pairOf_two a b with e | e
  · rw [e]; exact e
  · rw [e]
    show pairOf b a = (b, a)
    rw [← e]
    exact (pairOf_comm h).symm
theorem parted_comm (l : L) (h t : Key) : parted l h t = parted l t h := by
  unfold parted
  rw [areN_comm h t]
  cases e : areN t h with
  | true => rfl
  | false => rw [pairOf_comm (by rw [areN_comm]; exact e)]
theorem says_comm (l : L) (x y : Key) : says l x y = says l y x := by
  unfold says
  by_cases e : term l x = term l y
  · rw [if_pos e, if_pos e.symm]
  · rw [if_neg e, if_neg (Ne.symm e), parted_comm]

structure WF (l : L) : Prop where
  nd : (l.heads.map (·.1)).Nodup
  isI : ∀ p ∈ l.heads, ∃ i, p.1 = Sum.inl i
  roots : ∀ p ∈ l.heads, ∀ q ∈ l.heads, p.2 ≠ q.1
  pnd : l.pairs.Nodup
  pok : ∀ p ∈ l.pairs, p.1 ≠ p.2 ∧ pairOf p.1 p.2 = p ∧ areN p.1 p.2 = false
  prt : ∀ p ∈ l.pairs, ∀ q ∈ l.heads, q.1 ≠ p.1 ∧ q.1 ≠ p.2
theorem wf_nil : WF ⟨[], []⟩ := ⟨List.nodup_nil, (fun _ h => nomatch h), (fun _ h => nomatch h), List.nodup_nil, (fun _ h => nomatch h), (fun _ h => nomatch h)⟩

theorem term_cases (l : L) (k : Key) : (term l k = k ∧ ∀ p ∈ l.heads, p.1 ≠ k) ∨ ((k, term l k) ∈ l.heads) := by
  unfold term
  cases e : l.heads.find? fun p => decide (p.1 = k) with
  | none =>
    refine .inl ⟨rfl, fun p hp q => ?_⟩
    have := List.find?_eq_none.mp e p hp
    simp [q] at this
  | some p =>
    have h1 := List.mem_of_find?_eq_some e
    have h2 := List.find?_some e
    have h3 : p.1 = k := by simpa using h2
    refine .inr ?_
    show (k, p.2) ∈ l.heads
    rw [← h3]
    exact h1
theorem term_of_mem {l : L} (w : WF l) {k v : Key} (h : (k, v) ∈ l.heads) : term l k = v := by
  rcases term_cases l k with ⟨_, n⟩ | h2
  · exact absurd rfl (n _ h)
  · have nd := w.nd
    have aux : ∀ {xs : List (Key × Key)}, (xs.map (·.1)).Nodup → ∀ {a b c : Key}, (a, b) ∈ xs → (a, c) ∈ xs → b = c := by
      intro xs
      induction xs with
      | nil => intro _ a b c h; exact nomatch h
      | cons p r ih =>
        intro nd a b c h1 h2
        rw [List.map_cons, List.nodup_cons] at nd
        rcases List.mem_cons.mp h1 with e1 | h1
        · rcases List.mem_cons.mp h2 with e2 | h2
          · rw [← e1] at e2; exact (congrArg Prod.snd e2).symm
          · exact absurd (List.mem_map.mpr ⟨_, h2, by rw [← e1]⟩) nd.1
        · rcases List.mem_cons.mp h2 with e2 | h2
          · exact absurd (List.mem_map.mpr ⟨_, h1, by rw [← e2]⟩) nd.1
          · exact ih nd.2 h1 h2
    exact aux nd h2 h
theorem term_root {l : L} (w : WF l) (k : Key) : ∀ q ∈ l.heads, q.1 ≠ term l k := fun q hq e => by
  rcases term_cases l k with ⟨e1, n⟩ | h2
  · exact n q hq (e.trans e1)
  · exact w.roots _ h2 q hq e.symm
theorem term_id {l : L} {k : Key} (h : ∀ q ∈ l.heads, q.1 ≠ k) : term l k = k := by
  rcases term_cases l k with ⟨e1, _⟩ | h2
  · exact e1
  · exact absurd rfl (h _ h2)
theorem term_term {l : L} (w : WF l) (k : Key) : term l (term l k) = term l k := term_id (term_root w k)
theorem term_name {l : L} (w : WF l) (s : Str) : term l (.inr s) = .inr s := term_id fun q hq e => by
  obtain ⟨i, hi⟩ := w.isI q hq
  rw [hi] at e
  cases e

def Sat {α : Type} (f : Key → α) (l : L) : Prop := (∀ p ∈ l.heads, f p.1 = f p.2) ∧ ∀ p ∈ l.pairs, f p.1 ≠ f p.2
def NInj {α : Type} (f : Key → α) : Prop := ∀ s t : Str, f (.inr s) = f (.inr t) → s = t
section
variable {α : Type} {f : Key → α} {l : L}
theorem sat_term (h : Sat f l) (k : Key) : f (term l k) = f k := by
  rcases term_cases l k with ⟨e1, _⟩ | h2
  · rw [e1]
  · exact (h.1 _ h2).symm
theorem sat_parted (n : NInj f) (h : Sat f l) {a b : Key} (ne : a ≠ b) (p : parted l a b = true) : f a ≠ f b := by
  unfold parted at p
  rw [Bool.or_eq_true] at p
  rcases p with p | p
  · cases a with
    | inl i => cases p
    | inr s =>
      cases b with
      | inl i => cases p
      | inr t => exact fun e => ne (congrArg Sum.inr (n s t e))
  · have q := h.2 _ (of_decide_eq_true p)
    rcases pairOf_two a b with e | e
    · rw [e] at q; exact q
    · rw [e] at q; exact fun z => q z.symm
theorem says_true (h : Sat f l) {x y : Key} (s : says l x y = some true) : f x = f y := by
  unfold says at s
  by_cases e : term l x = term l y
  · rw [← sat_term h x, ← sat_term h y, e]
  · rw [if_neg e] at s
    split at s <;> cases s
theorem says_false (n : NInj f) (h : Sat f l) {x y : Key} (s : says l x y = some false) : f x ≠ f y := by
  unfold says at s
  by_cases e : term l x = term l y
  · rw [if_pos e] at s; cases s
  · rw [if_neg e] at s
    by_cases p : parted l (term l x) (term l y) = true
    · rw [← sat_term h x, ← sat_term h y]
      exact sat_parted n h e p
    · rw [if_neg p] at s; cases s
end
/-- the valuation by heads -/
theorem gen_inj {l : L} (w : WF l) : NInj (term l) := fun s t e => by
  rw [term_name w, term_name w] at e
  exact Sum.inr.inj e
theorem gen_sat {l : L} (w : WF l) : Sat (term l) l := by
  refine ⟨fun p hp => ?_, fun p hp e => ?_⟩
  · rw [term_of_mem w (k := p.1) (v := p.2) hp]
    exact (term_id fun q hq => Ne.symm (w.roots p hp q hq)).symm
  · have h := w.prt p hp
    rw [term_id fun q hq => (h q hq).1, term_id fun q hq => (h q hq).2] at e
    exact (w.pok p hp).1 e
/-- two heads made one -/
theorem sub_sat {l : L} (w : WF l) {s g : Key} (hp : pairOf s g ∉ l.pairs) : Sat (fun k => sub g s (term l k)) l := by
  have base := gen_sat w
  refine ⟨fun p hp => ?_, fun p hm e => ?_⟩
  · exact congrArg (sub g s) (base.1 p hp)
  · obtain ⟨ne, nrm, nn⟩ := w.pok p hm
    have h := w.prt p hm
    have e' : sub g s p.1 = sub g s p.2 := by
      have e2 : sub g s (term l p.1) = sub g s (term l p.2) := e
      rw [term_id fun q hq => (h q hq).1, term_id fun q hq => (h q hq).2] at e2
      exact e2
    unfold sub at e'
    by_cases a : p.1 = g
    · rw [if_pos a] at e'
      by_cases b : p.2 = g
      · exact ne (a.trans b.symm)
      · rw [if_neg b] at e'
        apply hp
        rw [e', ← a, pairOf_comm (by rw [areN_comm]; exact nn), nrm]
        exact hm
    · rw [if_neg a] at e'
      by_cases b : p.2 = g
      · rw [if_pos b] at e'
        apply hp
        rw [← e', ← b, nrm]
        exact hm
      · rw [if_neg b] at e'
        exact ne e'
theorem says_none {l : L} (w : WF l) {x y : Key} (s : says l x y = none) : (∃ f : Key → Key, NInj f ∧ Sat f l ∧ f x = f y) ∧ ∃ f : Key → Key, NInj f ∧ Sat f l ∧ f x ≠ f y := by
  unfold says at s
  by_cases e : term l x = term l y
  · rw [if_pos e] at s; cases s
  · rw [if_neg e] at s
    by_cases p : parted l (term l x) (term l y) = true
    · rw [if_pos p] at s; cases s
    · refine ⟨?_, term l, gen_inj w, gen_sat w, e⟩
      have p' : parted l (term l x) (term l y) = false := by simpa using p
      unfold parted at p'
      rw [Bool.or_eq_false_iff] at p'
      obtain ⟨p1, p2⟩ := p'
      have p2 := of_decide_eq_false p2
      obtain ⟨i, hi⟩ := goes_int p1 e
      have hp : pairOf (stays (term l x) (term l y)) (goes (term l x) (term l y)) ∉ l.pairs := by
        rcases two (term l x) (term l y) with ⟨a, b⟩ | ⟨a, b⟩
        · rw [a, b]; exact p2
        · rw [a, b, ← pairOf_comm p1]; exact p2
      refine ⟨fun k => sub (goes (term l x) (term l y)) (stays (term l x) (term l y)) (term l k), fun s t h => ?_, sub_sat w hp, ?_⟩
      · have h' : sub (goes (term l x) (term l y)) (stays (term l x) (term l y)) (term l (.inr s)) = sub (goes (term l x) (term l y)) (stays (term l x) (term l y)) (term l (.inr t)) := h
        unfold sub at h'
        rw [term_name w, term_name w, hi, if_neg (fun q => nomatch q), if_neg (fun q => nomatch q)] at h'
        exact Sum.inr.inj h'
      · show sub _ _ (term l x) = sub _ _ (term l y)
        unfold sub
        rcases two (term l x) (term l y) with ⟨a, b⟩ | ⟨a, b⟩
        · rw [a, b, if_neg e, if_pos rfl]
        · rw [a, b, if_pos rfl, if_neg (Ne.symm e)]
/-! what is said, by all valuations -/
theorem says_some_true {l : L} (w : WF l) {x y : Key} (h : ∀ f : Key → Key, NInj f → Sat f l → f x = f y) : says l x y = some true := by
  unfold says
  rw [if_pos (h _ (gen_inj w) (gen_sat w))]
theorem says_some_false {l : L} (w : WF l) {x y : Key} (h : ∀ f : Key → Key, NInj f → Sat f l → f x ≠ f y) : says l x y = some false := by
  cases s : says l x y with
  | none =>
    obtain ⟨⟨f, n, q, e⟩, _⟩ := says_none w s
    exact absurd e (h f n q)
  | some b =>
    cases b with
    | false => rfl
    | true => exact absurd (says_true (gen_sat w) s) (h _ (gen_inj w) (gen_sat w))
theorem says_is_none {l : L} (w : WF l) {x y : Key} {α β : Type} (h : ∃ f : Key → α, NInj f ∧ Sat f l ∧ f x = f y) (h' : ∃ f : Key → β, NInj f ∧ Sat f l ∧ f x ≠ f y) : says l x y = none := by
  obtain ⟨f, n, q, e⟩ := h
  obtain ⟨g, m, r, d⟩ := h'
  cases s : says l x y with
  | none => rfl
  | some b =>
    cases b with
    | false => exact absurd e (says_false n q s)
    | true => exact absurd (says_true r s) d
end Lk
set_option linter.all false
set_option maxHeartbeats 1000000
namespace Lk
open PySem L2
/-! ### rows without duplicates -/
theorem mem_addP {acc : List (Key × Key)} {p q : Key × Key} : q ∈ addP acc p ↔ q ∈ acc ∨ q = p := by
  unfold addP
  split
  · rename_i h
    exact ⟨.inl, fun z => z.elim id fun e => e ▸ h⟩
  · rw [List.mem_append, List.mem_singleton]
theorem nodup_addP {acc : List (Key × Key)} {p : Key × Key} (h : acc.Nodup) : (addP acc p).Nodup := by
  unfold addP
  split
  · exact h
  · rename_i n
    rw [List.nodup_append]
    exact ⟨h, by simp, fun a ha b hb e => by rw [List.mem_singleton] at hb; exact n (hb ▸ e ▸ ha)⟩
theorem fold_mem {q : Key × Key} : ∀ (ps acc : List (Key × Key)), q ∈ ps.foldl addP acc ↔ q ∈ acc ∨ q ∈ ps
  | [], acc => by simp
  | p :: ps, acc => by
    rw [List.foldl_cons, fold_mem ps, mem_addP, List.mem_cons]
    constructor
    · rintro ((h | h) | h)
      · exact .inl h
      · exact .inr (.inl h)
      · exact .inr (.inr h)
    · rintro (h | h | h)
      · exact .inl (.inl h)
      · exact .inl (.inr h)
      · exact .inr h
theorem fold_nodup : ∀ (ps acc : List (Key × Key)), acc.Nodup → (ps.foldl addP acc).Nodup
  | [], _, h => h
  | _ :: ps, _, h => fold_nodup ps _ (nodup_addP h)
theorem mem_dedup {q : Key × Key} {ps : List (Key × Key)} : q ∈ dedup ps ↔ q ∈ ps := by
  unfold dedup
  rw [fold_mem]
  simp
theorem nodup_dedup (ps : List (Key × Key)) : (dedup ps).Nodup := fold_nodup ps [] List.nodup_nil

/-! ### two heads made one -/
section
variable {l : L} {s g : Key}
structure Ok2 (l : L) (s g : Key) : Prop where
  w : WF l
  ne : s ≠ g
  gi : ∃ i, g = Sum.inl i
  rs : ∀ q ∈ l.heads, q.1 ≠ s
  rg : ∀ q ∈ l.heads, q.1 ≠ g
  np : pairOf s g ∉ l.pairs
theorem sub_ne (h : Ok2 l s g) {p : Key × Key} (hm : p ∈ l.pairs) : sub g s p.1 ≠ sub g s p.2 := by
  intro e'
  obtain ⟨ne, nrm, nn⟩ := h.w.pok p hm
  unfold sub at e'
  by_cases a : p.1 = g
  · rw [if_pos a] at e'
    by_cases b : p.2 = g
    · exact ne (a.trans b.symm)
    · rw [if_neg b] at e'
      refine h.np ?_
      rw [e', ← a, pairOf_comm (by rw [areN_comm]; exact nn), nrm]
      exact hm
  · rw [if_neg a] at e'
    by_cases b : p.2 = g
    · rw [if_pos b] at e'
      refine h.np ?_
      rw [← e', ← b, nrm]
      exact hm
    · rw [if_neg b] at e'
      exact ne e'
theorem sub_g (h : Ok2 l s g) (k : Key) : sub g s k ≠ g := by
  unfold sub
  split
  · exact h.ne
  · assumption
theorem sub_root (h : Ok2 l s g) {k : Key} (hk : ∀ q ∈ l.heads, q.1 ≠ k) : ∀ q ∈ l.heads, q.1 ≠ sub g s k := by
  unfold sub
  split
  · exact h.rs
  · exact hk
theorem merge_wf (h : Ok2 l s g) : WF (merge l s g) := by
  have hk : ∀ q ∈ (merge l s g).heads, (∃ p ∈ l.heads, q.1 = p.1 ∧ q.2 = sub g s p.2) ∨ q = (g, s) := fun q hq => by
    rcases List.mem_append.mp hq with z | z
    · obtain ⟨p, hp, e⟩ := List.mem_map.mp z
      exact .inl ⟨p, hp, by rw [← e], by rw [← e]⟩
    · exact .inr (List.mem_singleton.mp z)
  have hp : ∀ q ∈ (merge l s g).pairs, ∃ p ∈ l.pairs, areN (sub g s p.1) (sub g s p.2) = false ∧ q = pairOf (sub g s p.1) (sub g s p.2) := fun q hq => by
    obtain ⟨p, hp, e⟩ := List.mem_map.mp (mem_dedup.mp hq)
    obtain ⟨h1, h2⟩ := List.mem_filter.mp hp
    exact ⟨p, h1, by simpa using h2, e.symm⟩
  refine ⟨?_, fun q hq => ?_, fun p hpp q hq => ?_, nodup_dedup _, fun q hq => ?_, fun q hq z hz => ?_⟩
  · show ((l.heads.map (fun p => (p.1, sub g s p.2)) ++ [(g, s)]).map (·.1)).Nodup
    rw [List.map_append, List.map_map, List.nodup_append]
    refine ⟨h.w.nd, by simp, fun a ha b hb e => ?_⟩
    obtain ⟨p, hp, rfl⟩ := List.mem_map.mp ha
    rw [List.map_singleton, List.mem_singleton] at hb
    exact h.rg p hp (e.trans hb)
  · rcases hk q hq with ⟨p, hp, e1, _⟩ | e
    · rw [e1]; exact h.w.isI p hp
    · rw [e]; exact h.gi
  · have hq1 : (∃ z ∈ l.heads, q.1 = z.1) ∨ q.1 = g := by
      rcases hk q hq with ⟨z, hz, e1, _⟩ | e
      · exact .inl ⟨z, hz, e1⟩
      · rw [e]; exact .inr rfl
    rcases hk p hpp with ⟨r, hr, _, e2⟩ | e
    · rw [e2]
      rcases hq1 with ⟨z, hz, e3⟩ | e3
      · rw [e3]
        exact Ne.symm (sub_root h (fun q hq => Ne.symm (h.w.roots r hr q hq)) z hz)
      · rw [e3]
        exact sub_g h _
    · rw [e]
      rcases hq1 with ⟨z, hz, e3⟩ | e3
      · rw [e3]; exact Ne.symm (h.rs z hz)
      · rw [e3]; exact h.ne
  · obtain ⟨p, hp, nn, rfl⟩ := hp q hq
    have d := sub_ne h hp
    have i := pairOf_idem nn
    rcases pairOf_two (sub g s p.1) (sub g s p.2) with e | e
    · refine ⟨by rw [e]; exact d, i, by rw [e]; exact nn⟩
    · refine ⟨by rw [e]; exact d.symm, i, by rw [e]; rw [areN_comm]; exact nn⟩
  · obtain ⟨p, hpm, nn, rfl⟩ := hp q hq
    have r := h.w.prt p hpm
    have r1 := sub_root h fun q hq => (r q hq).1
    have r2 := sub_root h fun q hq => (r q hq).2
    have both : z.1 ≠ sub g s p.1 ∧ z.1 ≠ sub g s p.2 := by
      rcases hk z hz with ⟨y, hy, e1, _⟩ | e
      · rw [e1]; exact ⟨r1 y hy, r2 y hy⟩
      · rw [e]; exact ⟨(sub_g h _).symm, (sub_g h _).symm⟩
    rcases pairOf_two (sub g s p.1) (sub g s p.2) with e | e
    · rw [e]; exact both
    · rw [e]; exact both.symm
theorem merge_sat {α : Type} {f : Key → α} (h : Ok2 l s g) (n : NInj f) : Sat f (merge l s g) ↔ Sat f l ∧ f s = f g := by
  have fs : f s = f g → ∀ k, f (sub g s k) = f k := fun e k => by
    unfold sub
    split
    · rename_i q; rw [q]; exact e
    · rfl
  constructor
  · rintro ⟨a, b⟩
    have e : f s = f g := (a (g, s) (List.mem_append_right _ List.mem_cons_self)).symm
    refine ⟨⟨fun p hp => ?_, fun p hp => ?_⟩, e⟩
    · have z := a (p.1, sub g s p.2) (List.mem_append_left _ (List.mem_map.mpr ⟨p, hp, rfl⟩))
      exact z.trans (fs e _)
    · rw [← fs e p.1, ← fs e p.2]
      have d := sub_ne h hp
      cases q : areN (sub g s p.1) (sub g s p.2) with
      | true =>
        generalize sub g s p.1 = u at q d ⊢
        generalize sub g s p.2 = v at q d ⊢
        cases u with
        | inl i => cases q
        | inr x =>
          cases v with
          | inl i => cases q
          | inr y => exact fun z => d (congrArg Sum.inr (n x y z))
      | false =>
        have z := b (pairOf (sub g s p.1) (sub g s p.2)) (mem_dedup.mpr (List.mem_map.mpr ⟨p, List.mem_filter.mpr ⟨hp, by rw [q] <;> rfl⟩, rfl⟩))
        rcases pairOf_two (sub g s p.1) (sub g s p.2) with e | e
        · rw [e] at z; exact z
        · rw [e] at z; exact z.symm
  · rintro ⟨⟨a, b⟩, e⟩
    refine ⟨fun q hq => ?_, fun q hq => ?_⟩
    · rcases List.mem_append.mp hq with z | z
      · obtain ⟨p, hp, rfl⟩ := List.mem_map.mp z
        exact (a p hp).trans (fs e _).symm
      · rw [List.mem_singleton.mp z]
        exact e.symm
    · obtain ⟨p, hp, rfl⟩ := List.mem_map.mp (mem_dedup.mp hq)
      have z := b p (List.mem_filter.mp hp).1
      rw [← fs e p.1, ← fs e p.2] at z
      rcases pairOf_two (sub g s p.1) (sub g s p.2) with e | e
      · rw [e]; exact z
      · rw [e]; exact z.symm
end
theorem ok2 {l : L} (w : WF l) {x y : Key} (e : term l x ≠ term l y) (p : parted l (term l x) (term l y) = false) : Ok2 l (stays (term l x) (term l y)) (goes (term l x) (term l y)) := by
  unfold parted at p
  rw [Bool.or_eq_false_iff] at p
  obtain ⟨p1, p2⟩ := p
  have p2 := of_decide_eq_false p2
  have gi := goes_int p1 e
  rcases two (term l x) (term l y) with ⟨a, b⟩ | ⟨a, b⟩
  · rw [b] at gi
    rw [a, b]
    exact ⟨w, e, gi, term_root w x, term_root w y, p2⟩
  · rw [b] at gi
    rw [a, b]
    exact ⟨w, Ne.symm e, gi, term_root w y, term_root w x, by rw [← pairOf_comm p1]; exact p2⟩
/-! ### a fact more -/
def hear (l : L) (alike : Bool) (x y : Key) : Option L := if alike = true then like l x y else unlike l x y
theorem hear_none {l : L} {b : Bool} {x y : Key} : hear l b x y = none ↔ says l x y = some (!b) := by
  unfold hear like unlike says
  cases b with
  | true =>
    rw [if_pos rfl]
    by_cases e : term l x = term l y
    · rw [if_pos e, if_pos e]; simp
    · rw [if_neg e, if_neg e]
      by_cases p : parted l (term l x) (term l y) = true
      · rw [if_pos p, if_pos p]; simp
      · rw [if_neg p, if_neg p]; simp
  | false =>
    rw [if_neg Bool.false_ne_true]
    by_cases e : term l x = term l y
    · rw [if_pos e, if_pos e]; simp
    · rw [if_neg e, if_neg e]
      by_cases p : parted l (term l x) (term l y) = true
      · rw [if_pos p, if_pos p]; simp
      · rw [if_neg p, if_neg p]; simp
theorem hear_known {l : L} {b : Bool} {x y : Key} (h : says l x y = some b) : hear l b x y = some l := by
  unfold says at h
  unfold hear like unlike
  cases b with
  | true =>
    rw [if_pos rfl]
    by_cases e : term l x = term l y
    · rw [if_pos e]
    · rw [if_neg e] at h
      split at h <;> cases h
  | false =>
    rw [if_neg Bool.false_ne_true]
    by_cases e : term l x = term l y
    · rw [if_pos e] at h; cases h
    · rw [if_neg e] at h
      by_cases p : parted l (term l x) (term l y) = true
      · rw [if_neg e, if_pos p]
      · rw [if_neg p] at h; cases h
theorem pair_new_wf {l : L} (w : WF l) {x y : Key} (e : term l x ≠ term l y) (p : parted l (term l x) (term l y) = false) : WF ⟨l.heads, dedup (l.pairs ++ [pairOf (term l x) (term l y)])⟩ := by
  unfold parted at p
  rw [Bool.or_eq_false_iff] at p
  refine ⟨w.nd, w.isI, w.roots, nodup_dedup _, fun q hq => ?_, fun q hq z hz => ?_⟩
  · rcases List.mem_append.mp (mem_dedup.mp hq) with h | h
    · exact w.pok q h
    · rw [List.mem_singleton.mp h]
      have i := pairOf_idem p.1
      rcases pairOf_two (term l x) (term l y) with k | k
      · exact ⟨by rw [k]; exact e, i, by rw [k]; exact p.1⟩
      · exact ⟨by rw [k]; exact e.symm, i, by rw [k, areN_comm]; exact p.1⟩
  · rcases List.mem_append.mp (mem_dedup.mp hq) with h | h
    · exact w.prt q h z hz
    · rw [List.mem_singleton.mp h]
      have r1 := term_root w x z hz
      have r2 := term_root w y z hz
      rcases pairOf_two (term l x) (term l y) with k | k
      · rw [k]; exact ⟨r1, r2⟩
      · rw [k]; exact ⟨r2, r1⟩
theorem hear_wf {l l' : L} (w : WF l) {b : Bool} {x y : Key} (h : hear l b x y = some l') : WF l' := by
  unfold hear like unlike at h
  by_cases e : term l x = term l y
  · rw [if_pos e, if_pos e] at h
    cases b with
    | true =>
      rw [if_pos rfl] at h
      cases h; exact w
    | false => cases h
  · rw [if_neg e, if_neg e] at h
    cases p : parted l (term l x) (term l y) with
    | true =>
      rw [p, if_pos rfl, if_pos rfl] at h
      cases b with
      | true => cases h
      | false =>
        rw [if_neg Bool.false_ne_true] at h
        cases h; exact w
    | false =>
      rw [p, if_neg Bool.false_ne_true, if_neg Bool.false_ne_true] at h
      cases b with
      | true =>
        rw [if_pos rfl] at h
        cases h
        exact merge_wf (ok2 w e p)
      | false =>
        rw [if_neg Bool.false_ne_true] at h
        cases h
        exact pair_new_wf w e p
theorem hear_sat {α : Type} {f : Key → α} {l l' : L} (w : WF l) (n : NInj f) {b : Bool} {x y : Key} (h : hear l b x y = some l') : Sat f l' ↔ Sat f l ∧ (f x = f y ↔ b = true) := by
  unfold hear like unlike at h
  by_cases e : term l x = term l y
  · rw [if_pos e, if_pos e] at h
    cases b with
    | true =>
      rw [if_pos rfl] at h
      cases h
      refine ⟨fun s => ⟨s, fun _ => rfl, fun _ => ?_⟩, fun s => s.1⟩
      rw [← sat_term s x, ← sat_term s y, e]
    | false => cases h
  · rw [if_neg e, if_neg e] at h
    cases p : parted l (term l x) (term l y) with
    | true =>
      rw [p, if_pos rfl, if_pos rfl] at h
      cases b with
      | true => cases h
      | false =>
        rw [if_neg Bool.false_ne_true] at h
        cases h
        refine ⟨fun s => ⟨s, fun z => ?_, fun z => nomatch z⟩, fun s => s.1⟩
        rw [← sat_term s x, ← sat_term s y] at z
        exact absurd z (sat_parted n s e p)
    | false =>
      rw [p, if_neg Bool.false_ne_true, if_neg Bool.false_ne_true] at h
      cases b with
      | true =>
        rw [if_pos rfl] at h
        cases h
        rw [merge_sat (ok2 w e p) n]
        refine ⟨fun s => ⟨s.1, fun _ => rfl, fun _ => ?_⟩, fun s => ⟨s.1, ?_⟩⟩
        · have z := s.2
          rw [← sat_term s.1 x, ← sat_term s.1 y]
          rcases two (term l x) (term l y) with ⟨a, b⟩ | ⟨a, b⟩
          · rw [a, b] at z; exact z
          · rw [a, b] at z; exact z.symm
        · have z := s.2.2 rfl
          rw [← sat_term s.1 x, ← sat_term s.1 y] at z
          rcases two (term l x) (term l y) with ⟨a, b⟩ | ⟨a, b⟩
          · rw [a, b]; exact z
          · rw [a, b]; exact z.symm
      | false =>
        rw [if_neg Bool.false_ne_true] at h
        cases h
        constructor
        · rintro ⟨a, b⟩
          have s : Sat f l := ⟨a, fun q hq => b q (mem_dedup.mpr (List.mem_append_left _ hq))⟩
          refine ⟨s, fun z => ?_, fun z => nomatch z⟩
          have d := b _ (mem_dedup.mpr (List.mem_append_right _ (List.mem_singleton.mpr rfl)))
          rw [← sat_term s x, ← sat_term s y] at z
          rcases pairOf_two (term l x) (term l y) with k | k
          · rw [k] at d; exact absurd z d
          · rw [k] at d; exact absurd z.symm d
        · rintro ⟨s, d⟩
          have d' : f (term l x) ≠ f (term l y) := by
            rw [sat_term s, sat_term s]
            exact fun z => nomatch d.1 z
          refine ⟨s.1, fun q hq => ?_⟩
          rcases List.mem_append.mp (mem_dedup.mp hq) with h | h
          · exact s.2 q h
          · rw [List.mem_singleton.mp h]
            rcases pairOf_two (term l x) (term l y) with k | k
            · rw [k]; exact d'
            · rw [k]; exact d'.symm
end Lk
set_option linter.all false
set_option maxHeartbeats 1000000
/-! Worlds: who is whose like, in every way there is. -/
namespace Lk
open PySem L2 Sx
abbrev Wd1 := List (Key × Key)
def wt (w : Wd1) : Key → Key := term ⟨w, []⟩
def num (k : Nat) : Str := Str.ofString (toString (k : Int))
def isName (names : List Str) (v : Key) : Bool := names.any fun s => decide (v = Sum.inr s)
def nons (names : List Str) (w : Wd1) : List Key := (w.map (·.2)).filter fun v => !isName names v
def fresh (names : List Str) (w : Wd1) : Nat := (dd (nons names w)).length
def cands (names : List Str) (w : Wd1) : List Key := (names ++ (List.range (fresh names w + 1)).map num).map Sum.inr
def grow (names : List Str) (ws : List Wd1) (o : Int) : List Wd1 := ws.flatMap fun w => (cands names w).map fun v => w ++ [(Sum.inl o, v)]
def worldsOf (names : List Str) (os : List Int) : List Wd1 := os.foldl (grow names) [[]]
def hasL (s : Str) : Prop := ∃ c ∈ s.cps.toList, 97 ≤ c ∧ c ≤ 122
/-! ### numerals -/
theorem num_inj {i j : Nat} (h : num i = num j) : i = j := by
  have a := congrArg (fun x : Str => x.cps.toList) h
  exact TL.numL_inj ((TL.tl_num i).symm.trans (a.trans (TL.tl_num j)))
theorem num_not {k : Nat} {s : Str} (h : hasL s) : s ≠ num k := by
  rintro rfl
  obtain ⟨c, hc, h0, h1⟩ := h
  rw [show (num k).cps.toList = TL.numL k from TL.tl_num k] at hc
  exact TL.numL_free (.inr (by omega)) hc
theorem isName_iff {names : List Str} {v : Key} : isName names v = true ↔ ∃ s ∈ names, v = Sum.inr s := by
  unfold isName
  rw [List.any_eq_true]
  exact ⟨fun ⟨s, h, e⟩ => ⟨s, h, of_decide_eq_true e⟩, fun ⟨s, h, e⟩ => ⟨s, h, decide_eq_true e⟩⟩
/-! ### each once -/
theorem dd_mem {ks : List Key} {k : Key} : k ∈ dd ks ↔ k ∈ ks := by
  have aux : ∀ (ks acc : List Key), k ∈ ks.foldl ddStep acc ↔ k ∈ acc ∨ k ∈ ks := by
    intro ks
    induction ks with
    | nil => intro acc; simp
    | cons a r ih =>
      intro acc
      rw [List.foldl_cons, ih, List.mem_cons]
      have e : k ∈ ddStep acc a ↔ k ∈ acc ∨ k = a := by
        have z := ddStep_any acc a k
        have m : ∀ l : List Key, (l.any (fun x => decide (x = k)) = true ↔ k ∈ l) := fun l => by
          rw [List.any_eq_true]
          exact ⟨fun ⟨x, hx, e⟩ => of_decide_eq_true e ▸ hx, fun h => ⟨k, h, decide_eq_true rfl⟩⟩
        rw [← m, ← m, z, Bool.or_eq_true, decide_eq_true_iff]
      rw [e, or_assoc]
  have := aux ks []
  simpa [dd] using this
theorem dd_nodup (ks : List Key) : (dd ks).Nodup := by
  have aux : ∀ (ks acc : List Key), acc.Nodup → (ks.foldl ddStep acc).Nodup := by
    intro ks
    induction ks with
    | nil => intro acc h; exact h
    | cons a r ih =>
      intro acc h
      rw [List.foldl_cons]
      refine ih _ ?_
      unfold ddStep
      split
      · exact h
      · rename_i n
        rw [List.nodup_append]
        refine ⟨h, by simp, fun x hx y hy e => n ?_⟩
        rw [List.mem_singleton] at hy
        rw [List.any_eq_true]
        exact ⟨x, hx, decide_eq_true (e.trans hy)⟩
  exact aux ks [] List.nodup_nil
theorem dd_count {ks : List Key} {r : Nat} (h : ∀ v, v ∈ ks ↔ ∃ j, j < r ∧ v = Sum.inr (num j)) : (dd ks).length = r := by
  have n2 : ((List.range r).map fun j => (Sum.inr (num j) : Key)).Nodup := by
    rw [List.nodup_iff_pairwise_ne, List.pairwise_map]
    exact List.Pairwise.imp (fun ne e => ne (num_inj (Sum.inr.inj e))) List.nodup_range
  have p := (List.perm_ext_iff_of_nodup (dd_nodup ks) n2).mpr fun v => by
    rw [dd_mem, h, List.mem_map]
    exact ⟨fun ⟨j, hj, e⟩ => ⟨j, List.mem_range.mpr hj, e.symm⟩, fun ⟨j, hj, e⟩ => ⟨j, List.mem_range.mp hj, e.symm⟩⟩
  rw [p.length_eq, List.length_map, List.length_range]
/-! ### a world over marks -/
structure WOk (names : List Str) (os : List Int) (w : Wd1) : Prop where
  keys : w.map (·.1) = os.map Sum.inl
  vals : ∀ v, v ∈ nons names w ↔ ∃ j, j < fresh names w ∧ v = Sum.inr (num j)
theorem wok_nil (names : List Str) : WOk names [] [] := ⟨rfl, fun v => ⟨(fun h => nomatch h), fun ⟨j, h, _⟩ => absurd h (Nat.not_lt_zero _)⟩⟩
theorem nons_app (names : List Str) (w : Wd1) (k v : Key) : nons names (w ++ [(k, v)]) = nons names w ++ if isName names v = true then [] else [v] := by
  unfold nons
  rw [List.map_append, List.filter_append]
  cases h : isName names v <;> simp [h]
theorem wok_step {names : List Str} (hn : ∀ s ∈ names, hasL s) {os : List Int} {w : Wd1} (h : WOk names os w) {o : Int} {v : Key} (hv : v ∈ cands names w) : WOk names (os ++ [o]) (w ++ [(Sum.inl o, v)]) := by
  refine ⟨by rw [List.map_append, List.map_append, h.keys]; rfl, ?_⟩
  have nn : ∀ j, isName names (Sum.inr (num j)) = false := fun j => by
    cases e : isName names (Sum.inr (num j)) with
    | false => rfl
    | true =>
      obtain ⟨s, hs, e⟩ := isName_iff.mp e
      exact absurd (Sum.inr.inj e).symm (num_not (hn s hs))
  obtain ⟨s, hs, rfl⟩ := List.mem_map.mp hv
  rcases List.mem_append.mp hs with h1 | h1
  · have e : isName names (Sum.inr s) = true := isName_iff.mpr ⟨s, h1, rfl⟩
    have en : nons names (w ++ [(Sum.inl o, Sum.inr s)]) = nons names w := by rw [nons_app, if_pos e, List.append_nil]
    have ef : fresh names (w ++ [(Sum.inl o, Sum.inr s)]) = fresh names w := by unfold fresh; rw [en]
    rw [en, ef]
    exact h.vals
  · obtain ⟨j, hj, rfl⟩ := List.mem_map.mp h1
    have hj := List.mem_range.mp hj
    have en : nons names (w ++ [(Sum.inl o, Sum.inr (num j))]) = nons names w ++ [Sum.inr (num j)] := by rw [nons_app, nn]; rfl
    have all : ∀ v, v ∈ nons names w ++ [Sum.inr (num j)] ↔ ∃ i, i < (if j = fresh names w then fresh names w + 1 else fresh names w) ∧ v = Sum.inr (num i) := by
      intro v
      rw [List.mem_append, h.vals, List.mem_singleton]
      by_cases e : j = fresh names w
      · rw [if_pos e]
        constructor
        · rintro (⟨i, hi, rfl⟩ | rfl)
          · exact ⟨i, by omega, rfl⟩
          · exact ⟨j, by omega, rfl⟩
        · rintro ⟨i, hi, rfl⟩
          by_cases q : i = j
          · exact .inr (by rw [q])
          · exact .inl ⟨i, by omega, rfl⟩
      · rw [if_neg e]
        constructor
        · rintro (⟨i, hi, rfl⟩ | rfl)
          · exact ⟨i, hi, rfl⟩
          · exact ⟨j, by omega, rfl⟩
        · rintro ⟨i, hi, rfl⟩
          exact .inl ⟨i, hi, rfl⟩
    have c := dd_count all
    have ef : fresh names (w ++ [(Sum.inl o, Sum.inr (num j))]) = (if j = fresh names w then fresh names w + 1 else fresh names w) := by
      unfold fresh at c ⊢
      rw [en]
      exact c
    rw [en, ef]
    exact all
theorem worlds_snoc (names : List Str) (os : List Int) (o : Int) : worldsOf names (os ++ [o]) = grow names (worldsOf names os) o := by
  unfold worldsOf
  rw [List.foldl_append]
  rfl
theorem mem_grow {names : List Str} {ws : List Wd1} {o : Int} {w : Wd1} : w ∈ grow names ws o ↔ ∃ u ∈ ws, ∃ v ∈ cands names u, w = u ++ [(Sum.inl o, v)] := by
  unfold grow
  rw [List.mem_flatMap]
  constructor
  · rintro ⟨u, hu, h⟩
    obtain ⟨v, hv, e⟩ := List.mem_map.mp h
    exact ⟨u, hu, v, hv, e.symm⟩
  · rintro ⟨u, hu, v, hv, e⟩
    exact ⟨u, hu, List.mem_map.mpr ⟨v, hv, e.symm⟩⟩
theorem snocInd {α : Type} {P : List α → Prop} (h0 : P []) (h1 : ∀ xs x, P xs → P (xs ++ [x])) : ∀ xs, P xs := by
  intro xs
  rw [← List.reverse_reverse xs]
  induction xs.reverse with
  | nil => exact h0
  | cons a r ih =>
    rw [List.reverse_cons]
    exact h1 _ _ ih
theorem worlds_ok {names : List Str} (hn : ∀ s ∈ names, hasL s) (os : List Int) : ∀ w ∈ worldsOf names os, WOk names os w := by
  induction os using snocInd with
  | h0 =>
    intro w hw
    have : w ∈ [[]] := hw
    rw [List.mem_singleton.mp this]
    exact wok_nil names
  | h1 os o ih =>
    intro w hw
    rw [worlds_snoc] at hw
    obtain ⟨u, hu, v, hv, rfl⟩ := mem_grow.mp hw
    exact wok_step hn (ih u hu) hv
theorem wt_name {names : List Str} {os : List Int} {w : Wd1} (h : WOk names os w) (s : Str) : wt w (Sum.inr s) = Sum.inr s := by
  refine term_id fun q hq e => ?_
  have : q.1 ∈ w.map (·.1) := List.mem_map.mpr ⟨q, hq, rfl⟩
  rw [h.keys, e] at this
  obtain ⟨i, _, z⟩ := List.mem_map.mp this
  cases z
theorem wt_ninj {names : List Str} {os : List Int} {w : Wd1} (h : WOk names os w) : NInj (wt w) := fun s t e => by
  rw [wt_name h, wt_name h] at e
  exact Sum.inr.inj e
theorem wt_app_ne {w : Wd1} {k v x : Key} (h : x ≠ k) : wt (w ++ [(k, v)]) x = wt w x := by
  unfold wt term
  show ((List.find? _ (w ++ [(k, v)])).map _).getD x = _
  rw [List.find?_append]
  cases e : w.find? (fun p => decide (p.1 = x)) with
  | some p => rfl
  | none =>
    rw [List.find?_cons, show decide (((k, v) : Key × Key).1 = x) = false from decide_eq_false (Ne.symm h)]
    rfl
theorem wt_app_new {w : Wd1} {k v : Key} (h : k ∉ w.map (·.1)) : wt (w ++ [(k, v)]) k = v := by
  unfold wt term
  show ((List.find? _ (w ++ [(k, v)])).map _).getD k = _
  rw [List.find?_append]
  have e : w.find? (fun p => decide (p.1 = k)) = none := List.find?_eq_none.mpr fun p hp => by
    intro z
    exact h (List.mem_map.mpr ⟨p, hp, of_decide_eq_true z⟩)
  rw [e, List.find?_cons, show decide (((k, v) : Key × Key).1 = k) = true from decide_eq_true rfl]
  rfl
theorem wt_mem {w : Wd1} {k : Key} (h : k ∈ w.map (·.1)) : wt w k ∈ w.map (·.2) := by
  rcases term_cases ⟨w, []⟩ k with ⟨_, n⟩ | m
  · obtain ⟨p, hp, e⟩ := List.mem_map.mp h
    exact absurd e (n p hp)
  · exact List.mem_map.mpr ⟨_, m, rfl⟩
def terms (os : List Int) (names : List Str) : List Key := os.map Sum.inl ++ names.map Sum.inr
theorem worlds_all {names : List Str} (hn : ∀ s ∈ names, hasL s) {α : Type} (f : Key → α) (fi : NInj f) (os : List Int) : os.Nodup →
    ∃ w ∈ worldsOf names os, ∀ x ∈ terms os names, ∀ y ∈ terms os names, (wt w x = wt w y ↔ f x = f y) := by
  induction os using snocInd with
  | h0 =>
    intro _
    refine ⟨[], List.mem_singleton.mpr rfl, fun x hx y hy => ?_⟩
    obtain ⟨s, _, rfl⟩ := List.mem_map.mp (show x ∈ names.map Sum.inr from hx)
    obtain ⟨t, _, rfl⟩ := List.mem_map.mp (show y ∈ names.map Sum.inr from hy)
    show Sum.inr s = Sum.inr t ↔ _
    exact ⟨fun e => by rw [e], fun e => by rw [fi _ _ e]⟩
  | h1 os o ih =>
    intro nd
    rw [List.nodup_append] at nd
    obtain ⟨nd1, _, nd2⟩ := nd
    obtain ⟨w, hw, same⟩ := ih nd1
    have ok := worlds_ok hn os w hw
    have no : (Sum.inl o : Key) ∉ w.map (·.1) := by
      rw [ok.keys]
      intro h
      obtain ⟨i, hi, e⟩ := List.mem_map.mp h
      exact nd2 i hi o (List.mem_singleton.mpr rfl) (Sum.inl.inj e)
    have nT : ∀ x ∈ terms os names, x ≠ Sum.inl o := by
      intro x hx e
      rcases List.mem_append.mp hx with h | h
      · obtain ⟨i, hi, rfl⟩ := List.mem_map.mp h
        exact nd2 i hi o (List.mem_singleton.mpr rfl) (Sum.inl.inj e)
      · obtain ⟨s, _, rfl⟩ := List.mem_map.mp h
        cases e
    have split : ∀ x ∈ terms (os ++ [o]) names, x ∈ terms os names ∨ x = Sum.inl o := by
      intro x hx
      rcases List.mem_append.mp hx with h | h
      · rw [List.map_append] at h
        rcases List.mem_append.mp h with h | h
        · exact .inl (List.mem_append_left _ h)
        · exact .inr (List.mem_singleton.mp h)
      · exact .inl (List.mem_append_right _ h)
    -- the value
    obtain ⟨v, hv, hvs⟩ : ∃ v ∈ cands names w, ∀ y ∈ terms os names, (v = wt w y ↔ f (Sum.inl o) = f y) := by
      by_cases ex : ∃ x ∈ terms os names, f x = f (Sum.inl o)
      · obtain ⟨x, hx, e⟩ := ex
        refine ⟨wt w x, ?_, fun y hy => by rw [same x hx y hy, e]⟩
        rcases List.mem_append.mp hx with h | h
        · have hk : x ∈ w.map (·.1) := by rw [ok.keys]; exact h
          have hm := wt_mem hk
          by_cases q : isName names (wt w x) = true
          · obtain ⟨s, hs, e⟩ := isName_iff.mp q
            rw [e]
            exact List.mem_map.mpr ⟨s, List.mem_append_left _ hs, rfl⟩
          · have hnn : wt w x ∈ nons names w := List.mem_filter.mpr ⟨hm, by simp [q]⟩
            obtain ⟨j, hj, e⟩ := (ok.vals _).mp hnn
            rw [e]
            exact List.mem_map.mpr ⟨num j, List.mem_append_right _ (List.mem_map.mpr ⟨j, List.mem_range.mpr (by omega), rfl⟩), rfl⟩
        · obtain ⟨s, hs, rfl⟩ := List.mem_map.mp h
          rw [wt_name ok]
          exact List.mem_map.mpr ⟨s, List.mem_append_left _ hs, rfl⟩
      · refine ⟨Sum.inr (num (fresh names w)), List.mem_map.mpr ⟨_, List.mem_append_right _ (List.mem_map.mpr ⟨fresh names w, List.mem_range.mpr (by omega), rfl⟩), rfl⟩, fun y hy => ?_⟩
        constructor
        · intro e
          exfalso
          rcases List.mem_append.mp hy with h | h
          · have hk : y ∈ w.map (·.1) := by rw [ok.keys]; exact h
            have hm := wt_mem hk
            rw [← e] at hm
            have hnn : (Sum.inr (num (fresh names w)) : Key) ∈ nons names w := List.mem_filter.mpr ⟨hm, by
              cases q : isName names (Sum.inr (num (fresh names w))) with
              | false => rfl
              | true =>
                obtain ⟨s, hs, e⟩ := isName_iff.mp q
                exact absurd (Sum.inr.inj e).symm (num_not (hn s hs))⟩
            obtain ⟨j, hj, e⟩ := (ok.vals _).mp hnn
            have := num_inj (Sum.inr.inj e)
            omega
          · obtain ⟨s, hs, rfl⟩ := List.mem_map.mp h
            rw [wt_name ok] at e
            exact num_not (hn s hs) (Sum.inr.inj e).symm
        · intro e
          exact absurd ⟨y, hy, e.symm⟩ ex
    refine ⟨w ++ [(Sum.inl o, v)], ?_, fun x hx y hy => ?_⟩
    · rw [worlds_snoc]
      exact mem_grow.mpr ⟨w, hw, v, hv, rfl⟩
    · have hnew : wt (w ++ [(Sum.inl o, v)]) (Sum.inl o) = v := wt_app_new no
      rcases split x hx with h1 | rfl
      · rw [wt_app_ne (nT x h1)]
        rcases split y hy with h2 | rfl
        · rw [wt_app_ne (nT y h2)]
          exact same x h1 y h2
        · rw [hnew, eq_comm, hvs x h1, eq_comm]
      · rw [hnew]
        rcases split y hy with h2 | rfl
        · rw [wt_app_ne (nT y h2)]
          exact hvs y h2
        · rw [hnew]
          exact ⟨fun _ => rfl, fun _ => rfl⟩
/-! ### what the worlds say -/
structure Fit (T : List Key) (l : L) (ws : List Wd1) : Prop where
  wf : WF l
  snd : ∀ w ∈ ws, NInj (wt w) ∧ Sat (wt w) l
  cmp : ∀ f : Key → Key, NInj f → Sat f l → ∃ w ∈ ws, ∀ x ∈ T, ∀ y ∈ T, (wt w x = wt w y ↔ f x = f y)
theorem fit_start {names : List Str} (hn : ∀ s ∈ names, hasL s) {os : List Int} (nd : os.Nodup) : Fit (terms os names) ⟨[], []⟩ (worldsOf names os) :=
  ⟨wf_nil, fun w hw => ⟨wt_ninj (worlds_ok hn os w hw), (fun _ h => nomatch h), (fun _ h => nomatch h)⟩, fun f fi _ => worlds_all hn f fi os nd⟩
def holds (b : Bool) (x y : Key) (w : Wd1) : Bool := decide (decide (wt w x = wt w y) = b)
theorem holds_iff {b : Bool} {x y : Key} {w : Wd1} : holds b x y w = true ↔ (wt w x = wt w y ↔ b = true) := by
  unfold holds
  by_cases e : wt w x = wt w y
  · rw [decide_eq_true e]
    cases b <;> simp [e]
  · rw [decide_eq_false e]
    cases b <;> simp [e]
theorem fit_more {T : List Key} {l l' : L} {ws : List Wd1} (h : Fit T l ws) {b : Bool} {x y : Key} (hx : x ∈ T) (hy : y ∈ T) (e : hear l b x y = some l') : Fit T l' (ws.filter (holds b x y)) := by
  refine ⟨hear_wf h.wf e, fun w hw => ?_, fun f fi sf => ?_⟩
  · obtain ⟨h1, h2⟩ := List.mem_filter.mp hw
    obtain ⟨n, s⟩ := h.snd w h1
    exact ⟨n, (hear_sat h.wf n e).mpr ⟨s, holds_iff.mp h2⟩⟩
  · obtain ⟨s, g⟩ := (hear_sat h.wf fi e).mp sf
    obtain ⟨w, hw, same⟩ := h.cmp f fi s
    exact ⟨w, List.mem_filter.mpr ⟨hw, holds_iff.mpr ((same x hx y hy).trans g)⟩, same⟩
theorem fit_ne {T : List Key} {l : L} {ws : List Wd1} (h : Fit T l ws) : ws ≠ [] := by
  rintro rfl
  obtain ⟨w, hw, _⟩ := h.cmp (term l) (gen_inj h.wf) (gen_sat h.wf)
  cases hw
theorem fit_none {T : List Key} {l : L} {ws : List Wd1} (h : Fit T l ws) {b : Bool} {x y : Key} (e : hear l b x y = none) : ws.filter (holds b x y) = [] := by
  rw [List.filter_eq_nil_iff]
  intro w hw hh
  obtain ⟨n, s⟩ := h.snd w hw
  have g := holds_iff.mp hh
  have z := hear_none.mp e
  cases b with
  | true => exact says_false n s z (g.mpr rfl)
  | false => exact nomatch g.mp (says_true s z)
def dueOf (ws : List Wd1) (x y : Key) : Option Bool :=
  let same := (ws.filter fun w => decide (wt w x = wt w y)).length
  if same = ws.length then some true else if same > 0 then none else some false
theorem due_says {T : List Key} {l : L} {ws : List Wd1} (h : Fit T l ws) {x y : Key} (hx : x ∈ T) (hy : y ∈ T) : dueOf ws x y = says l x y := by
  have lt : ∀ w ∈ ws, wt w x ≠ wt w y → (ws.filter fun w => decide (wt w x = wt w y)).length ≠ ws.length := by
    intro w hw ne e
    have := List.length_filter_eq_length_iff.mp e w hw
    exact ne (of_decide_eq_true this)
  have pos : ∀ w ∈ ws, wt w x = wt w y → (ws.filter fun w => decide (wt w x = wt w y)).length > 0 := by
    intro w hw e
    exact List.length_pos_of_mem (List.mem_filter.mpr ⟨hw, decide_eq_true e⟩)
  unfold dueOf
  cases s : says l x y with
  | some b =>
    cases b with
    | true =>
      exact if_pos (List.length_filter_eq_length_iff.mpr fun w hw => decide_eq_true (says_true (h.snd w hw).2 s))
    | false =>
      have z : (ws.filter fun w => decide (wt w x = wt w y)) = [] := by
        rw [List.filter_eq_nil_iff]
        intro w hw e
        exact says_false (h.snd w hw).1 (h.snd w hw).2 s (of_decide_eq_true e)
      have : ws.length ≠ 0 := fun e => fit_ne h (List.length_eq_zero_iff.mp e)
      rw [z]
      show (if ([] : List Wd1).length = ws.length then _ else _) = _
      rw [if_neg (by simpa using fun e => this e.symm), if_neg (by simp)]
  | none =>
    obtain ⟨⟨f, fi, fs, fe⟩, ⟨g, gi, gs, ge⟩⟩ := says_none h.wf s
    obtain ⟨w1, hw1, s1⟩ := h.cmp f fi fs
    obtain ⟨w2, hw2, s2⟩ := h.cmp g gi gs
    have p := pos w1 hw1 ((s1 x hx y hy).mpr fe)
    have q := lt w2 hw2 fun e => ge ((s2 x hx y hy).mp e)
    show (if _ then _ else _) = _
    rw [if_neg q, if_pos p]
/-! ### how many -/
theorem fresh_le {names : List Str} {os : List Int} {w : Wd1} (h : WOk names os w) : fresh names w ≤ os.length := by
  have h1 := dd_len_le (nons names w)
  have h2 : (nons names w).length ≤ (w.map (·.2)).length := List.length_filter_le _ _
  have h3 := congrArg List.length h.keys
  rw [List.length_map] at h2 h3
  rw [List.length_map] at h3
  unfold fresh
  omega
theorem cands_len (names : List Str) (w : Wd1) : (cands names w).length = names.length + (fresh names w + 1) := by
  unfold cands
  rw [List.length_map, List.length_append, List.length_map, List.length_range]
theorem grow_len {names : List Str} {m : Nat} {o : Int} : ∀ {ws : List Wd1}, (∀ w ∈ ws, (cands names w).length ≤ m) → (grow names ws o).length ≤ ws.length * m
  | [], _ => Nat.zero_le _
  | w :: r, h => by
    have h1 := h w List.mem_cons_self
    have h2 := grow_len (o := o) fun u hu => h u (List.mem_cons_of_mem _ hu)
    show (((cands names w).map _) ++ grow names r o).length ≤ _
    rw [List.length_append, List.length_map, List.length_cons, Nat.add_mul]
    omega
theorem worlds_len {names : List Str} (hn : ∀ s ∈ names, hasL s) (h3 : names.length ≤ 3) (os : List Int) : os.length ≤ 4 → (worldsOf names os).length ≤ 7 ^ os.length := by
  induction os using snocInd with
  | h0 => intro _; exact Nat.le_refl _
  | h1 os o ih =>
    intro hl
    rw [List.length_append, List.length_singleton] at hl ⊢
    rw [worlds_snoc, Nat.pow_succ]
    refine Nat.le_trans (grow_len fun w hw => ?_) (Nat.mul_le_mul_right 7 (ih (by omega)))
    rw [cands_len]
    have := fresh_le (worlds_ok hn os w hw)
    omega
theorem grow_take {names : List Str} {ws : List Wd1} {o : Int} {j : Nat} {w : Wd1} (h : ws[j]? = some w) : grow names (ws.take (j + 1)) o = grow names (ws.take j) o ++ (cands names w).map fun v => w ++ [(Sum.inl o, v)] := by
  rw [List.take_add_one, h]
  unfold grow
  rw [List.flatMap_append]
  simp
theorem nons_take {names : List Str} {w : Wd1} {j : Nat} {p : Key × Key} (h : w[j]? = some p) : nons names (w.take (j + 1)) = nons names (w.take j) ++ if isName names p.2 = true then [] else [p.2] := by
  rw [List.take_add_one, h]
  exact nons_app names _ p.1 p.2
end Lk
set_option linter.all false
set_option maxHeartbeats 1000000
/-! Facts given by name. -/
namespace Lk
open PySem L2 Sx
/-- the marks of S called t, all else itself -/
def vl (S : List Int) (t : Str) : Key → Key
  | .inl i => if i ∈ S then .inr t else .inl i
  | .inr s => .inr s
theorem vl_inj (S : List Int) (t : Str) : NInj (vl S t) := fun _ _ e => Sum.inr.inj e
theorem vl_in {S : List Int} {t : Str} {i : Int} (h : i ∈ S) : vl S t (.inl i) = .inr t := if_pos h
theorem vl_out {S : List Int} {t : Str} {i : Int} (h : i ∉ S) : vl S t (.inl i) = .inl i := if_neg h
theorem sat_nil {α : Type} (f : Key → α) : Sat f ⟨[], []⟩ := ⟨(fun _ h => nomatch h), (fun _ h => nomatch h)⟩
/-- what is heard where nothing was said -/
theorem hear_new {l : L} {b : Bool} {x y : Key} (h : says l x y = none) : ∃ l', hear l b x y = some l' := by
  cases e : hear l b x y with
  | some l' => exact ⟨l', rfl⟩
  | none =>
    have := hear_none.mp e
    rw [h] at this
    cases this
theorem named {o0 o1 o2 : Int} {n : Str} (h01 : o0 ≠ o1) (h02 : o0 ≠ o2) (h12 : o1 ≠ o2) : ∃ l1 l2 l3, hear ⟨[], []⟩ true (.inl o0) (.inr n) = some l1 ∧ hear l1 false (.inl o1) (.inr n) = some l2 ∧ hear l1 true (.inl o0) (.inl o2) = some l3 ∧
    says l2 (.inl o0) (.inl o1) = some false ∧ says l3 (.inl o2) (.inr n) = some true ∧ says l1 (.inl o1) (.inl o2) = none ∧ WF l1 ∧ WF l2 ∧ WF l3 := by
  have i0 : o0 ∈ [o0] := List.mem_cons_self
  have m1 : o1 ∉ [o0] := by simp [Ne.symm h01]
  have m2 : o2 ∉ [o0] := by simp [Ne.symm h02]
  obtain ⟨l1, e1⟩ : ∃ l1, hear ⟨[], []⟩ true (.inl o0) (.inr n) = some l1 := hear_new (says_is_none wf_nil ⟨vl [o0] n, vl_inj _ _, sat_nil _, vl_in i0⟩ ⟨vl [] n, vl_inj _ _, sat_nil _, fun e => by
    rw [vl_out (by simp)] at e; cases e⟩)
  have w1 := hear_wf wf_nil e1
  have s1 : ∀ f : Key → Key, NInj f → (Sat f l1 ↔ f (.inl o0) = f (.inr n)) := fun f fi => by
    rw [hear_sat wf_nil fi e1]
    exact ⟨fun h => h.2.mpr rfl, fun h => ⟨sat_nil f, fun _ => rfl, fun _ => h⟩⟩
  have sv : ∀ S, o0 ∈ S → Sat (vl S n) l1 := fun S h => (s1 _ (vl_inj _ _)).mpr (vl_in h)
  obtain ⟨l2, e2⟩ : ∃ l2, hear l1 false (.inl o1) (.inr n) = some l2 := hear_new (says_is_none w1 ⟨vl [o0, o1] n, vl_inj _ _, sv _ (by simp), vl_in (by simp)⟩ ⟨vl [o0] n, vl_inj _ _, sv _ i0, fun e => by
    rw [vl_out m1] at e; cases e⟩)
  obtain ⟨l3, e3⟩ : ∃ l3, hear l1 true (.inl o0) (.inl o2) = some l3 := hear_new (says_is_none w1 ⟨vl [o0, o2] n, vl_inj _ _, sv _ (by simp), by rw [vl_in (by simp), vl_in (by simp)]⟩ ⟨vl [o0] n, vl_inj _ _, sv _ i0, fun e => by
    rw [vl_in i0, vl_out m2] at e; cases e⟩)
  refine ⟨l1, l2, l3, e1, e2, e3, ?_, ?_, ?_, w1, hear_wf w1 e2, hear_wf w1 e3⟩
  · refine says_some_false (hear_wf w1 e2) fun f fi s e => ?_
    obtain ⟨a, b⟩ := (hear_sat w1 fi e2).mp s
    have := (s1 f fi).mp a
    exact nomatch b.mp (e.symm.trans this)
  · refine says_some_true (hear_wf w1 e3) fun f fi s => ?_
    obtain ⟨a, b⟩ := (hear_sat w1 fi e3).mp s
    exact (b.mpr rfl).symm.trans ((s1 f fi).mp a)
  · refine says_is_none w1 ⟨vl [o0, o1, o2] n, vl_inj _ _, sv _ (by simp), by rw [vl_in (by simp), vl_in (by simp)]⟩ ⟨vl [o0] n, vl_inj _ _, sv _ i0, fun e => ?_⟩
    rw [vl_out m1, vl_out m2] at e
    exact h12 (Sum.inl.inj e)
end Lk
set_option linter.all false
set_option maxHeartbeats 1000000
/-! Groups tied and parted. -/
namespace Lk
open PySem L2 Sx
abbrev Fact := Bool × Key × Key
def HoldsF (f : Key → Key) (T : List Fact) : Prop := ∀ p ∈ T, (f p.2.1 = f p.2.2 ↔ p.1 = true)
def Cst (f : Key → Key) (xs : List Int) : Prop := ∀ x ∈ xs, ∀ y ∈ xs, f (.inl x) = f (.inl y)
theorem holdsF_app {f : Key → Key} {T U : List Fact} : HoldsF f (T ++ U) ↔ HoldsF f T ∧ HoldsF f U :=
  ⟨fun h => ⟨fun p hp => h p (List.mem_append_left _ hp), fun p hp => h p (List.mem_append_right _ hp)⟩, fun h p hp => (List.mem_append.mp hp).elim (h.1 p) (h.2 p)⟩
theorem holdsF_one {f : Key → Key} {p : Fact} : HoldsF f [p] ↔ (f p.2.1 = f p.2.2 ↔ p.1 = true) :=
  ⟨fun h => h p List.mem_cons_self, fun h q hq => by rw [List.mem_singleton.mp hq]; exact h⟩
theorem holdsF_nil {f : Key → Key} : HoldsF f [] := fun _ h => nomatch h
theorem holdsF_perm {f : Key → Key} {T U : List Fact} (h : T.Perm U) : HoldsF f T ↔ HoldsF f U := ⟨fun x p hp => x p (h.mem_iff.mpr hp), fun x p hp => x p (h.mem_iff.mp hp)⟩
theorem tied_step {T : List Fact} {xs : List Int} {m : Nat} {u v : Int} {f : Key → Key} (h : HoldsF f T ↔ Cst f (xs.take m)) (hu : xs[m]? = some u) (hv : v ∈ xs.take m) {p : Fact} (hp : p = (true, .inl u, .inl v) ∨ p = (true, .inl v, .inl u)) :
    HoldsF f (T ++ [p]) ↔ Cst f (xs.take (m + 1)) := by
  have one : HoldsF f [p] ↔ f (.inl u) = f (.inl v) := by
    rw [holdsF_one]
    rcases hp with rfl | rfl
    · exact ⟨fun z => z.mpr rfl, fun z => ⟨fun _ => rfl, fun _ => z⟩⟩
    · exact ⟨fun z => (z.mpr rfl).symm, fun z => ⟨fun _ => rfl, fun _ => z.symm⟩⟩
  have e : xs.take (m + 1) = xs.take m ++ [u] := by rw [List.take_add_one, hu]; rfl
  rw [holdsF_app, h, one, e]
  constructor
  · rintro ⟨c, d⟩ x hx y hy
    have to : ∀ z ∈ xs.take m ++ [u], f (.inl z) = f (.inl v) := fun z hz => by
      rcases List.mem_append.mp hz with a | a
      · exact c z a v hv
      · rw [List.mem_singleton.mp a]; exact d
    rw [to x hx, to y hy]
  · intro c
    exact ⟨fun x hx y hy => c x (List.mem_append_left _ hx) y (List.mem_append_left _ hy), c u (List.mem_append_right _ List.mem_cons_self) v (List.mem_append_left _ hv)⟩
/-- what the parting facts ask -/
structure Part (way : Nat) (A B : List Int) (n0 n1 : Str) (f : Key → Key) : Prop where
  ne : ∀ x ∈ A, ∀ y ∈ B, f (.inl x) ≠ f (.inl y)
  a : way ≠ 2 → ∀ x ∈ A, f (.inl x) = f (.inr n0)
  b : way = 1 → ∀ y ∈ B, f (.inl y) = f (.inr n1)
/-- the parting facts of a way -/
def partF (way : Nat) (x y z : Int) (n0 n1 : Str) : List Fact :=
  (if way = 0 then [(false, .inl x, .inl y)] else if way = 1 then [(true, .inr n1, .inl y)] else if way = 2 then [(false, .inl x, .inl y)] else [(false, .inr n0, .inl y)]) ++ if way = 2 then [] else [(true, .inl z, .inr n0)]
theorem part_holds {way : Nat} {A B : List Int} {n0 n1 : Str} {f : Key → Key} {x y z : Int} (fi : NInj f) (hn : n0 ≠ n1) (cA : Cst f A) (cB : Cst f B) (hx : x ∈ A) (hy : y ∈ B) (hz : z ∈ A) :
    HoldsF f (partF way x y z n0 n1) ↔ Part way A B n0 n1 f := by
  have nn : f (.inr n0) ≠ f (.inr n1) := fun e => hn (fi _ _ e)
  have neAB : f (.inl x) ≠ f (.inl y) ↔ ∀ u ∈ A, ∀ v ∈ B, f (.inl u) ≠ f (.inl v) :=
    ⟨fun h u hu v hv e => h ((cA x hx u hu).trans (e.trans (cB v hv y hy))), fun h => h x hx y hy⟩
  have eA : f (.inl z) = f (.inr n0) ↔ ∀ u ∈ A, f (.inl u) = f (.inr n0) := ⟨fun h u hu => (cA u hu z hz).trans h, fun h => h z hz⟩
  have eB : f (.inl y) = f (.inr n1) ↔ ∀ v ∈ B, f (.inl v) = f (.inr n1) := ⟨fun h v hv => (cB v hv y hy).trans h, fun h => h y hy⟩
  have ff : ∀ p : Key × Key, (f p.1 = f p.2 ↔ (false : Bool) = true) ↔ f p.1 ≠ f p.2 := fun p => ⟨(fun h e => nomatch h.mp e), fun h => ⟨(fun e => absurd e h), (fun e => nomatch e)⟩⟩
  have tt : ∀ p : Key × Key, (f p.1 = f p.2 ↔ (true : Bool) = true) ↔ f p.1 = f p.2 := fun p => ⟨fun h => h.mpr rfl, fun h => ⟨fun _ => rfl, fun _ => h⟩⟩
  unfold partF
  by_cases w0 : way = 0
  · subst w0
    rw [if_pos rfl, if_neg (by decide), holdsF_app, holdsF_one, holdsF_one]
    refine Iff.trans (and_congr (ff (_, _)) (tt (_, _))) ⟨fun h => ⟨neAB.mp h.1, (fun _ => eA.mp h.2), (fun e => nomatch e)⟩, fun h => ⟨neAB.mpr h.ne, eA.mpr (h.a (by decide))⟩⟩
  · by_cases w1 : way = 1
    · subst w1
      rw [if_neg (by decide), if_pos rfl, if_neg (by decide), holdsF_app, holdsF_one, holdsF_one]
      refine Iff.trans (and_congr (tt (_, _)) (tt (_, _))) ⟨fun h => ?_, fun h => ⟨(eB.mpr (h.b rfl)).symm, eA.mpr (h.a (by decide))⟩⟩
      have h1 : f (.inl y) = f (.inr n1) := h.1.symm
      have h2 : f (.inl z) = f (.inr n0) := h.2
      exact ⟨neAB.mp fun e => nn (((eA.mp h2) x hx).symm.trans (e.trans h1)), fun _ => eA.mp h2, fun _ => eB.mp h1⟩
    · by_cases w2 : way = 2
      · subst w2
        rw [if_neg (by decide), if_neg (by decide), if_pos rfl, if_pos rfl, List.append_nil, holdsF_one]
        exact Iff.trans (ff (_, _)) ⟨fun h => ⟨neAB.mp h, (fun e => absurd rfl e), (fun e => nomatch e)⟩, fun h => neAB.mpr h.ne⟩
      · rw [if_neg w0, if_neg w1, if_neg w2, if_neg w2, holdsF_app, holdsF_one, holdsF_one]
        refine Iff.trans (and_congr (ff (_, _)) (tt (_, _))) ⟨fun h => ?_, fun h => ⟨fun e => ?_, eA.mpr (h.a w2)⟩⟩
        · have h1 : f (.inr n0) ≠ f (.inl y) := h.1
          have h2 : f (.inl z) = f (.inr n0) := h.2
          exact ⟨neAB.mp fun e => h1 (((eA.mp h2) x hx).symm.trans e), fun _ => eA.mp h2, fun e => absurd e w1⟩
        · exact h.ne x hx y hy ((h.a w2 x hx).trans e)
/-- all that is said of three groups -/
structure Good (way : Nat) (A B C : List Int) (n0 n1 : Str) (f : Key → Key) : Prop where
  a : Cst f A
  b : Cst f B
  c : Cst f C
  p : Part way A B n0 n1 f
/-- the valuation: the three groups' values -/
def fv (A B C : List Int) (a b c : Key) : Key → Key
  | .inl i => if i ∈ A then a else if i ∈ B then b else if i ∈ C then c else .inl i
  | .inr s => .inr s
structure Three (A B C : List Int) : Prop where
  ab : ∀ x ∈ A, x ∉ B
  ac : ∀ x ∈ A, x ∉ C
  bc : ∀ x ∈ B, x ∉ C
section
variable {A B C : List Int} {a b c : Key} {x : Int}
theorem fv_inj (A B C : List Int) (a b c : Key) : NInj (fv A B C a b c) := fun _ _ e => Sum.inr.inj e
theorem fv_a (h : x ∈ A) : fv A B C a b c (.inl x) = a := if_pos h
theorem fv_b (t : Three A B C) (h : x ∈ B) : fv A B C a b c (.inl x) = b := by
  show (if x ∈ A then _ else if x ∈ B then _ else _) = _
  rw [if_neg fun q => t.ab x q h, if_pos h]
theorem fv_c (t : Three A B C) (h : x ∈ C) : fv A B C a b c (.inl x) = c := by
  show (if x ∈ A then _ else if x ∈ B then _ else if x ∈ C then _ else _) = _
  rw [if_neg fun q => t.ac x q h, if_neg fun q => t.bc x q h, if_pos h]
theorem fv_good {way : Nat} {n0 n1 : Str} (t : Three A B C) (ab : a ≠ b) (ha : way ≠ 2 → a = .inr n0) (hb : way = 1 → b = .inr n1) : Good way A B C n0 n1 (fv A B C a b c) :=
  ⟨fun x hx y hy => by rw [fv_a hx, fv_a hy], fun x hx y hy => by rw [fv_b t hx, fv_b t hy], fun x hx y hy => by rw [fv_c t hx, fv_c t hy],
    fun x hx y hy e => by rw [fv_a hx, fv_b t hy] at e; exact ab e, fun w x hx => by rw [fv_a hx]; exact ha w, fun w y hy => by rw [fv_b t hy]; exact hb w⟩
end
/-- a likeness that says no more and no less than the groups -/
structure Fits (way : Nat) (A B C : List Int) (n0 n1 : Str) (l : L) : Prop where
  wf : WF l
  iff : ∀ f : Key → Key, NInj f → (Sat f l ↔ Good way A B C n0 n1 f)
end Lk
set_option linter.all false
set_option maxHeartbeats 1000000
/-! What a likeness of three groups says. -/
namespace Lk
open PySem L2 Sx
def dueA (way : Nat) (n0 : Str) (s : Str) : Option Bool := if way = 2 then none else some (decide (s = n0))
def dueB (way : Nat) (n0 n1 : Str) (s : Str) : Option Bool := if way = 2 then none else if s = n0 then some false else if way = 1 then some (decide (s = n1)) else none
section
variable {way : Nat} {A B C : List Int} {n0 n1 : Str} {l : L} {a0 b0 c0 : Int}
/-- the values of the first two groups -/
def aV (way : Nat) (a0 : Int) (n0 : Str) : Key := if way = 2 then .inl a0 else .inr n0
def bV (way : Nat) (b0 : Int) (n1 : Str) : Key := if way = 1 then .inr n1 else .inl b0
structure Has (A B C : List Int) (n0 n1 : Str) (a0 b0 c0 : Int) : Prop where
  t : Three A B C
  a : a0 ∈ A
  b : b0 ∈ B
  c : c0 ∈ C
  n : n0 ≠ n1
theorem ab_ne (h : Has A B C n0 n1 a0 b0 c0) : aV way a0 n0 ≠ bV way b0 n1 := by
  unfold aV bV
  by_cases w2 : way = 2
  · rw [if_pos w2, if_neg (by omega)]
    exact fun e => h.t.ab _ h.a (Sum.inl.inj e ▸ h.b)
  · rw [if_neg w2]
    split
    · exact fun e => h.n (Sum.inr.inj e)
    · exact fun e => nomatch e
theorem base_good (h : Has A B C n0 n1 a0 b0 c0) (c : Key) : Good way A B C n0 n1 (fv A B C (aV way a0 n0) (bV way b0 n1) c) :=
  fv_good h.t (ab_ne h) (fun w => if_neg w) fun w => if_pos w
theorem aV_c (h : Has A B C n0 n1 a0 b0 c0) : Sum.inl c0 ≠ aV way a0 n0 := by
  unfold aV
  split
  · exact fun e => h.t.ac _ h.a (Sum.inl.inj e ▸ h.c)
  · exact fun e => nomatch e
theorem bV_c (h : Has A B C n0 n1 a0 b0 c0) : Sum.inl c0 ≠ bV way b0 n1 := by
  unfold bV
  split
  · exact fun e => nomatch e
  · exact fun e => h.t.bc _ h.b (Sum.inl.inj e ▸ h.c)
theorem says_ab (F : Fits way A B C n0 n1 l) {x y : Int} (hx : x ∈ A) (hy : y ∈ B) : says l (.inl x) (.inl y) = some false :=
  says_some_false F.wf fun f fi s => ((F.iff f fi).mp s).p.ne x hx y hy
theorem says_aa (F : Fits way A B C n0 n1 l) {x y : Int} (hx : x ∈ A) (hy : y ∈ A) : says l (.inl x) (.inl y) = some true :=
  says_some_true F.wf fun f fi s => ((F.iff f fi).mp s).a x hx y hy
theorem says_bb (F : Fits way A B C n0 n1 l) {x y : Int} (hx : x ∈ B) (hy : y ∈ B) : says l (.inl x) (.inl y) = some true :=
  says_some_true F.wf fun f fi s => ((F.iff f fi).mp s).b x hx y hy
theorem says_cc (F : Fits way A B C n0 n1 l) {x y : Int} (hx : x ∈ C) (hy : y ∈ C) : says l (.inl x) (.inl y) = some true :=
  says_some_true F.wf fun f fi s => ((F.iff f fi).mp s).c x hx y hy
theorem says_an (F : Fits way A B C n0 n1 l) (h : Has A B C n0 n1 a0 b0 c0) {x : Int} (hx : x ∈ A) (s : Str) : says l (.inl x) (.inr s) = dueA way n0 s := by
  unfold dueA
  by_cases w2 : way = 2
  · rw [if_pos w2]
    refine says_is_none F.wf ⟨fv A B C (.inr s) (.inl b0) (.inl c0), fv_inj _ _ _ _ _ _, (F.iff _ (fv_inj _ _ _ _ _ _)).mpr (fv_good h.t (fun e => nomatch e) (fun w => absurd w2 w) fun w => by omega), fv_a hx⟩
      ⟨fv A B C (.inl a0) (.inl b0) (.inl c0), fv_inj _ _ _ _ _ _, (F.iff _ (fv_inj _ _ _ _ _ _)).mpr (fv_good h.t (fun e => h.t.ab _ h.a (Sum.inl.inj e ▸ h.b)) (fun w => absurd w2 w) fun w => by omega), fun e => by rw [fv_a hx] at e; cases e⟩
  · rw [if_neg w2]
    by_cases e : s = n0
    · rw [decide_eq_true e, e]
      exact says_some_true F.wf fun f fi q => ((F.iff f fi).mp q).p.a w2 x hx
    · rw [decide_eq_false e]
      exact says_some_false F.wf fun f fi q z => e (fi _ _ ((((F.iff f fi).mp q).p.a w2 x hx).symm.trans z)).symm
theorem says_bn (F : Fits way A B C n0 n1 l) (h : Has A B C n0 n1 a0 b0 c0) {y : Int} (hy : y ∈ B) (s : Str) : says l (.inl y) (.inr s) = dueB way n0 n1 s := by
  unfold dueB
  by_cases w2 : way = 2
  · rw [if_pos w2]
    refine says_is_none F.wf ⟨fv A B C (.inl a0) (.inr s) (.inl c0), fv_inj _ _ _ _ _ _, (F.iff _ (fv_inj _ _ _ _ _ _)).mpr (fv_good h.t (fun e => nomatch e) (fun w => absurd w2 w) fun w => by omega), fv_b h.t hy⟩
      ⟨fv A B C (.inl a0) (.inl b0) (.inl c0), fv_inj _ _ _ _ _ _, (F.iff _ (fv_inj _ _ _ _ _ _)).mpr (fv_good h.t (fun e => h.t.ab _ h.a (Sum.inl.inj e ▸ h.b)) (fun w => absurd w2 w) fun w => by omega), fun e => by rw [fv_b h.t hy] at e; cases e⟩
  · rw [if_neg w2]
    by_cases e0 : s = n0
    · rw [if_pos e0, e0]
      exact says_some_false F.wf fun f fi q z => ((F.iff f fi).mp q).p.ne a0 h.a y hy ((((F.iff f fi).mp q).p.a w2 a0 h.a).trans z.symm)
    · rw [if_neg e0]
      by_cases w1 : way = 1
      · rw [if_pos w1]
        by_cases e : s = n1
        · rw [decide_eq_true e, e]
          exact says_some_true F.wf fun f fi q => ((F.iff f fi).mp q).p.b w1 y hy
        · rw [decide_eq_false e]
          exact says_some_false F.wf fun f fi q z => e (fi _ _ ((((F.iff f fi).mp q).p.b w1 y hy).symm.trans z)).symm
      · rw [if_neg w1]
        refine says_is_none F.wf ⟨fv A B C (.inr n0) (.inr s) (.inl c0), fv_inj _ _ _ _ _ _, (F.iff _ (fv_inj _ _ _ _ _ _)).mpr (fv_good h.t (fun e => e0 (Sum.inr.inj e).symm) (fun _ => rfl) fun w => absurd w w1), fv_b h.t hy⟩
          ⟨fv A B C (.inr n0) (.inl b0) (.inl c0), fv_inj _ _ _ _ _ _, (F.iff _ (fv_inj _ _ _ _ _ _)).mpr (fv_good h.t (fun e => nomatch e) (fun _ => rfl) fun w => absurd w w1), fun e => by rw [fv_b h.t hy] at e; cases e⟩
theorem says_cn (F : Fits way A B C n0 n1 l) (h : Has A B C n0 n1 a0 b0 c0) {z : Int} (hz : z ∈ C) (s : Str) : says l (.inl z) (.inr s) = none :=
  says_is_none F.wf ⟨_, fv_inj _ _ _ _ _ _, (F.iff _ (fv_inj _ _ _ _ _ _)).mpr (base_good h (.inr s)), fv_c h.t hz⟩ ⟨_, fv_inj _ _ _ _ _ _, (F.iff _ (fv_inj _ _ _ _ _ _)).mpr (base_good h (.inl c0)), fun e => by rw [fv_c h.t hz] at e; cases e⟩
theorem says_ca (F : Fits way A B C n0 n1 l) (h : Has A B C n0 n1 a0 b0 c0) {z x : Int} (hz : z ∈ C) (hx : x ∈ A) : says l (.inl z) (.inl x) = none :=
  says_is_none F.wf ⟨_, fv_inj _ _ _ _ _ _, (F.iff _ (fv_inj _ _ _ _ _ _)).mpr (base_good h (aV way a0 n0)), by rw [fv_c h.t hz, fv_a hx]⟩ ⟨_, fv_inj _ _ _ _ _ _, (F.iff _ (fv_inj _ _ _ _ _ _)).mpr (base_good h (.inl c0)), fun e => by rw [fv_c h.t hz, fv_a hx] at e; exact aV_c h e⟩
theorem says_cb (F : Fits way A B C n0 n1 l) (h : Has A B C n0 n1 a0 b0 c0) {z y : Int} (hz : z ∈ C) (hy : y ∈ B) : says l (.inl z) (.inl y) = none :=
  says_is_none F.wf ⟨_, fv_inj _ _ _ _ _ _, (F.iff _ (fv_inj _ _ _ _ _ _)).mpr (base_good h (bV way b0 n1)), by rw [fv_c h.t hz, fv_b h.t hy]⟩ ⟨_, fv_inj _ _ _ _ _ _, (F.iff _ (fv_inj _ _ _ _ _ _)).mpr (base_good h (.inl c0)), fun e => by rw [fv_c h.t hz, fv_b h.t hy] at e; exact bV_c h e⟩
/-- the third group made the first's like -/
structure More (way : Nat) (A B C : List Int) (n0 n1 : Str) (l : L) : Prop where
  wf : WF l
  iff : ∀ f : Key → Key, NInj f → (Sat f l ↔ Good way A B C n0 n1 f ∧ ∀ z ∈ C, ∀ x ∈ A, f (.inl z) = f (.inl x))
theorem more_of (F : Fits way A B C n0 n1 l) {z x : Int} (hz : z ∈ C) (hx : x ∈ A) {l' : L} (e : hear l true (.inl z) (.inl x) = some l') : More way A B C n0 n1 l' := by
  refine ⟨hear_wf F.wf e, fun f fi => ?_⟩
  rw [hear_sat F.wf fi e, F.iff f fi]
  exact ⟨fun h => ⟨h.1, fun u hu v hv => (h.1.c u hu z hz).trans ((h.2.mpr rfl).trans (h.1.a x hx v hv))⟩, fun h => ⟨h.1, fun _ => rfl, fun _ => h.2 z hz x hx⟩⟩
theorem more_ca (M : More way A B C n0 n1 l) {z x : Int} (hz : z ∈ C) (hx : x ∈ A) : says l (.inl z) (.inl x) = some true :=
  says_some_true M.wf fun f fi s => ((M.iff f fi).mp s).2 z hz x hx
theorem more_bc (M : More way A B C n0 n1 l) (h : Has A B C n0 n1 a0 b0 c0) {z y : Int} (hy : y ∈ B) (hz : z ∈ C) : says l (.inl y) (.inl z) = some false :=
  says_some_false M.wf fun f fi s e => ((M.iff f fi).mp s).1.p.ne a0 h.a y hy ((((M.iff f fi).mp s).2 z hz a0 h.a).symm.trans e.symm)
theorem more_cn (M : More way A B C n0 n1 l) (h : Has A B C n0 n1 a0 b0 c0) {z : Int} (hz : z ∈ C) (s : Str) : says l (.inl z) (.inr s) = dueA way n0 s := by
  have ca : ∀ a b : Key, ∀ u ∈ C, ∀ v ∈ A, fv A B C a b a (.inl u) = fv A B C a b a (.inl v) := fun a b u hu v hv => by rw [fv_c h.t hu, fv_a hv]
  unfold dueA
  by_cases w2 : way = 2
  · rw [if_pos w2]
    refine says_is_none M.wf ⟨fv A B C (.inr s) (.inl b0) (.inr s), fv_inj _ _ _ _ _ _, (M.iff _ (fv_inj _ _ _ _ _ _)).mpr ⟨fv_good h.t (fun e => nomatch e) (fun w => absurd w2 w) fun w => by omega, ca _ _⟩, fv_c h.t hz⟩
      ⟨fv A B C (.inl a0) (.inl b0) (.inl a0), fv_inj _ _ _ _ _ _, (M.iff _ (fv_inj _ _ _ _ _ _)).mpr ⟨fv_good h.t (fun e => h.t.ab _ h.a (Sum.inl.inj e ▸ h.b)) (fun w => absurd w2 w) fun w => by omega, ca _ _⟩, fun e => by rw [fv_c h.t hz] at e; cases e⟩
  · rw [if_neg w2]
    by_cases e : s = n0
    · rw [decide_eq_true e, e]
      exact says_some_true M.wf fun f fi q => (((M.iff f fi).mp q).2 z hz a0 h.a).trans (((M.iff f fi).mp q).1.p.a w2 a0 h.a)
    · rw [decide_eq_false e]
      exact says_some_false M.wf fun f fi q y => e (fi _ _ (((((M.iff f fi).mp q).2 z hz a0 h.a).trans (((M.iff f fi).mp q).1.p.a w2 a0 h.a)).symm.trans y)).symm
/-! ### facts heard one by one -/
/-- what has been heard, T, and no more -/
structure Heard (T : List Fact) (l : L) : Prop where
  wf : WF l
  iff : ∀ f : Key → Key, NInj f → (Sat f l ↔ HoldsF f T)

end
end Lk
set_option linter.all false
set_option maxHeartbeats 1000000
/-! Rows permuted with what they hold. -/
namespace Lk
open PySem L2 Sx
theorem paired_perm {α β : Type} {R : α → β → Prop} {us ts : List α} (h : us.Perm ts) : ∀ {T : List β}, Paired R ts T → ∃ U, Paired R us U ∧ U.Perm T := by
  induction h with
  | nil => exact fun p => ⟨_, p, .refl _⟩
  | cons x _ ih =>
    intro T p
    cases p with
    | cons r q =>
      obtain ⟨U, pu, pm⟩ := ih q
      exact ⟨_, .cons r pu, pm.cons _⟩
  | swap x y l =>
    intro T p
    cases p with
    | cons r q =>
      cases q with
      | cons r2 q2 => exact ⟨_, .cons r2 (.cons r q2), .swap _ _ _⟩
  | trans _ _ ih1 ih2 =>
    intro T p
    obtain ⟨U, pu, pm⟩ := ih2 p
    obtain ⟨V, pv, pm2⟩ := ih1 pu
    exact ⟨V, pv, pm2.trans pm⟩
theorem paired_map {α β : Type} (f : β → α) : ∀ xs : List β, Paired (fun v i => v = f i) (xs.map f) xs
  | [] => .nil
  | _ :: xs => .cons rfl (paired_map f xs)
theorem map_of {α β : Type} {f : β → α} : ∀ {vs : List α} {xs : List β}, Paired (fun v i => v = f i) vs xs → vs = xs.map f
  | _, _, .nil => rfl
  | _, _, .cons r p => by rw [r, map_of p]; rfl
theorem perm_map {α β : Type} {f : β → α} {ys : List α} {xs : List β} (h : ys.Perm (xs.map f)) : ∃ js : List β, js.Perm xs ∧ ys = js.map f := by
  obtain ⟨js, p, pm⟩ := paired_perm h (paired_map f xs)
  exact ⟨js, pm, map_of p⟩
/-! ### three parts of a row -/
theorem three_of {xs : List Int} (nd : xs.Nodup) (a b : Nat) : Three (xs.take a) ((xs.drop a).take b) (xs.drop (a + b)) := by
  have e : xs = xs.take a ++ ((xs.drop a).take b ++ xs.drop (a + b)) := by
    rw [← List.drop_drop, List.take_append_drop, List.take_append_drop]
  rw [e] at nd
  rw [List.nodup_append] at nd
  obtain ⟨_, n2, d1⟩ := nd
  rw [List.nodup_append] at n2
  obtain ⟨_, _, d2⟩ := n2
  exact ⟨fun x hx hy => d1 x hx x (List.mem_append_left _ hy) rfl, fun x hx hy => d1 x hx x (List.mem_append_right _ hy) rfl, fun x hx hy => d2 x hx x hy rfl⟩
theorem cut_to {α : Type} (f : α → V) (xs : List α) {a : Nat} (h : a ≤ xs.length) : cutV (xs.map f) none (some (a : Int)) = (xs.take a).map f := by
  unfold cutV
  rw [HT.sIx_none, HT.sIx_nat, List.length_map, List.drop_zero, Nat.sub_zero, Nat.min_eq_left h, List.map_take]
theorem cut_mid {α : Type} (f : α → V) (xs : List α) {a b : Nat} (h : a + b ≤ xs.length) : cutV (xs.map f) (some (a : Int)) (some ((a + b : Nat) : Int)) = ((xs.drop a).take b).map f := by
  unfold cutV
  rw [HT.sIx_nat, HT.sIx_nat, List.length_map, Nat.min_eq_left (show a ≤ xs.length by omega), Nat.min_eq_left h, List.map_take, List.map_drop, show a + b - a = b by omega]
theorem cut_from {α : Type} (f : α → V) (xs : List α) {a : Nat} (h : a ≤ xs.length) : cutV (xs.map f) (some (a : Int)) none = (xs.drop a).map f := by
  unfold cutV
  rw [HT.sIx_nat, HT.sIx_none, List.length_map, Nat.min_eq_left h, List.map_drop]
  exact List.take_of_length_le (by rw [List.length_drop, List.length_map]; exact Nat.le_refl _)
/-! ### facts heard, one by one -/
structure Heard2 (T : List Fact) (l : L) : Prop where
  wf : WF l
  iff : ∀ f : Key → Key, NInj f → (Sat f l ↔ HoldsF f T)
theorem heard_nil : Heard2 [] ⟨[], []⟩ := ⟨wf_nil, fun f _ => ⟨fun _ => holdsF_nil, fun _ => sat_nil f⟩⟩
theorem heard_step {T : List Fact} {l : L} (h : Heard2 T l) {p : Fact} (ex : ∃ f : Key → Key, NInj f ∧ HoldsF f (T ++ [p])) : ∃ l', hear l p.1 p.2.1 p.2.2 = some l' ∧ Heard2 (T ++ [p]) l' := by
  obtain ⟨f, fi, hf⟩ := ex
  obtain ⟨h1, h2⟩ := holdsF_app.mp hf
  have h2 := holdsF_one.mp h2
  cases e : hear l p.1 p.2.1 p.2.2 with
  | none =>
    exfalso
    have z := hear_none.mp e
    have s := (h.iff f fi).mpr h1
    cases b : p.1 with
    | true =>
      rw [b] at z h2
      exact says_false fi s z (h2.mpr rfl)
    | false =>
      rw [b] at z h2
      exact nomatch h2.mp (says_true s z)
  | some l' =>
    refine ⟨l', rfl, hear_wf h.wf e, fun g gi => ?_⟩
    rw [hear_sat h.wf gi e, h.iff g gi, holdsF_app, holdsF_one]
end Lk
set_option Elab.async false
set_option linter.all false
set_option maxRecDepth 100000
set_option maxHeartbeats 4000000
namespace K14
open PySem PySem.Spec L2 Sx Lk
/-! ### what the facts say -/
section
variable {K : PySem.W.Frag} {mg : Str → Option Value}
theorem eO_ok {α : Type} [DecidableEq α] {a b : α} (h : eO a b = true) : a = b := of_decide_eq_true h
theorem nilB_ok {a : Addr} (h : nilB K a = true) : KNil K a := by
  unfold nilB at h
  cases q : K.lookup a with
  | none => rw [q] at h; cases h
  | some o =>
    obtain ⟨oc, od, dt, sl⟩ := o
    rw [q] at h
    cases oc with
    | type c =>
      cases od with
      | none =>
        cases dt with
        | seq its n =>
          obtain ⟨h1, h2⟩ := He.ba (show (decide (c = "tuple") && decide (its.size = 0)) = true from h)
          have e1 := of_decide_eq_true h1
          have e2 := Array.eq_empty_of_size_eq_zero (of_decide_eq_true h2)
          subst e1 e2
          exact ⟨_, n, q, rfl, rfl, rfl⟩
        | _ => cases h
      | some d => cases dt <;> cases h
    | _ => cases od <;> cases dt <;> cases h
abbrev CL (K : PySem.W.Frag) : Addr := He.ga K "Likeness"
abbrev CApart (K : PySem.W.Frag) : Addr := He.ga K "Apart"
structure InsOk (K : PySem.W.Frag) (C : Addr) : Prop where
  ha : PySem.W.findIn K (.ref C) "__class__" = some (some (.builtin "object.__class__"))
  hn : PySem.W.specialIn K (.builtin "object.__class__") "__get__" = some (some (.builtin "getset_descriptor.__get__"))
  ht : PySem.W.takesIn K (.builtin "object.__class__") = some true
  hm : PySem.W.mroIn K C (.type "object") = some true
theorem insB_ok {C : Addr} (h : insB K C = true) : InsOk K C := by
  unfold insB at h
  obtain ⟨h, h4⟩ := He.ba h
  obtain ⟨h, h3⟩ := He.ba h
  obtain ⟨h1, h2⟩ := He.ba h
  exact ⟨eO_ok h1, eO_ok h2, eO_ok h3, eO_ok h4⟩
structure All (K : PySem.W.Frag) : Prop where
  n0 : KNil K (a0 K)
  n1 : KNil K (a1 K)
  ins : InsOk K (CL K)
  hg : PySem.W.findIn K (.ref (CApart K)) "__getattribute__" = some (some (.builtin "BaseException.__getattribute__"))
  hk : PySem.W.findIn K (.ref (CApart K)) "__getattr__" = some none
  hs : PySem.W.subIn K (.ref (CApart K)) (.type "BaseException") = some true
  hd : PySem.W.hasDictIn K (CApart K) = true
  ty : PySem.W.typeIn K (.ref (CApart K)) = some (.type "type")
  kp : PySem.W.keepIn K (.ref (CApart K)) = true
  iA : InsOk K (CApart K)
  xA : PySem.W.excIn K (CApart K) [.type "Exception", .type "BaseException", .type "object"] "Exception.__new__" = true
  kS : PySem.W.kitOne K (.ref (CL K)) (.type "str") = some false
  kL : PySem.W.kitOne K (.ref (CL K)) (.ref (CL K)) = some true
  xm : PySem.W.exmOne K (.ref (CApart K)) (.ref (He.ga K "TripError")) = some true
  kA : PySem.W.kitOne K (.ref (CApart K)) (.ref (CApart K)) = some true
  kO : PySem.W.kitAny K (.ref (CApart K)) [.ref (He.ga K "Idle"), .ref (He.ga K "NoMatch"), .ref (He.ga K "Odd"), .ref (He.ga K "TooMany"), .ref (He.ga K "Unsound")] = some false
theorem Wd.all (W : Wd K mg) : All K := by
  have h := W.ex
  unfold exB at h
  obtain ⟨h, kO⟩ := He.ba h
  obtain ⟨h, kA⟩ := He.ba h
  obtain ⟨h, xm⟩ := He.ba h
  obtain ⟨h, kL⟩ := He.ba h
  obtain ⟨h, kS⟩ := He.ba h
  obtain ⟨h, ex⟩ := He.ba h
  obtain ⟨h, ins⟩ := He.ba h
  obtain ⟨n0, n1⟩ := He.ba h
  unfold excB at ex
  obtain ⟨ex, xA⟩ := He.ba ex
  obtain ⟨ex, iA⟩ := He.ba ex
  obtain ⟨ex, kp⟩ := He.ba ex
  obtain ⟨ex, ty⟩ := He.ba ex
  obtain ⟨ex, hd⟩ := He.ba ex
  obtain ⟨ex, hs⟩ := He.ba ex
  obtain ⟨hg, hk⟩ := He.ba ex
  exact ⟨nilB_ok n0, nilB_ok n1, insB_ok ins, eO_ok hg, eO_ok hk, eO_ok hs, hd, eO_ok ty, kp, insB_ok iA, xA, eO_ok kS, eO_ok kL, eO_ok xm, eO_ok kA, eO_ok kO⟩
theorem Wd.xApart (W : Wd K mg) : PySem.W.excIn K (CApart K) [.type "Exception", .type "BaseException", .type "object"] "Exception.__new__" = true := W.all.xA
theorem Wd.kApart (W : Wd K mg) : PySem.W.keepIn K (.ref (CApart K)) = true := W.all.kp
theorem Wd.rApart (W : Wd K mg) {X : Cx} (e : X.K = K := by rfl) : Raises X (.ref (CApart K)) := by
  subst e
  exact raises_own W.all.hs W.all.ty
end
/-! ### answers -/
theorem sl {n : Nat} (h : n.ble 1000 = true) : n ≤ sizeLine := Nat.le_trans (Nat.le_of_ble_eq_true h) (by decide)
def tK : Key → Value
  | .inl _ => .type "int"
  | .inr _ => .type "str"
theorem tyK {K : PySem.W.Frag} {H : Hp} (k : Key) : TyX K H (kV k) (tK k) := by
  cases k with
  | inl i => exact .base (.int i)
  | inr x => exact .base (.str x)
theorem kitK {K : PySem.W.Frag} (k : Key) : PySem.W.kitOne K (tK k) (.type "str") = some (isN k) := by
  cases k with
  | inl i => exact kit_ty (a := "int") (b := "str") (r := false) (by decide +kernel)
  | inr x => exact kit_ty (a := "str") (b := "str") (r := true) (by decide +kernel)
theorem scal_key (a b : Key) : scal (kV a) (kV b) = true := by cases a <;> cases b <;> rfl
theorem kV_inj {a b : Key} (h : kV a = kV b) : a = b := by
  cases a <;> cases b <;> simp_all [kV]
theorem dec_key (a b : Key) : decide (kV a = kV b) = decide (a = b) := by
  by_cases e : a = b
  · subst e; simp
  · rw [decide_eq_false e, decide_eq_false fun h => e (kV_inj h)]
/-! ### the package's small defs -/
def sp_first_of : Sp := fun vs H Q _ => ∃ a b : Key, vs = [kV a, kV b] ∧ Q (kV (firstOf a b)) H
def sp_pair_of : Sp := fun vs H Q _ => ∃ a b : Key, vs = [kV a, kV b] ∧ ∀ p, H p = none → Q (.ref p) (upd H p (.tup [kV (pairOf a b).1, kV (pairOf a b).2]))
def sp_are_names : Sp := fun vs H Q _ => ∃ a b : Key, vs = [kV a, kV b] ∧ Q (.bl (areN a b)) H
section
variable {P : Program} {w : World} {K : PySem.W.Frag} {mg : Str → Option Value} {base : Heap}
theorem c_first_of (W : Wd K mg) : Cal P w K mg base CX0 1 "first_of" sp_first_of [] := by
  obtain ⟨fd, F⟩ := W.f_first_of
  refine calD F W.g_first_of sc_first_of (fun _ _ _ _ _ _ us hl => match us, hl with | [_, _], _ => rfl) (okD F sc_first_of ?_ fun cdv A outer s H vs Q E hr h => ?_)
  · rintro _ _ _ _ ⟨a, b, rfl, _⟩; rfl
  obtain ⟨a, b, rfl, q⟩ := h
  have nd := sc_first_of.nd
  refine ⟨_, (pss_cons (ps_if (pt_val (pe_callB call_isi rfl W.isinstance (by decide +kernel) (pa_cons (pv 0) (pa_cons (pe_bltn (v := .ty "str") rfl W.str (by decide +kernel) rfl) pa_nil)))) (pss_one (ps_ret (pv 0))) pss_nil) (pss_cons (ps_if (pt_val (pe_callB call_isi rfl W.isinstance (by decide +kernel) (pa_cons (pv 1) (pa_cons (pe_bltn (v := .ty "str") rfl W.str (by decide +kernel) rfl) pa_nil)))) (pss_one (ps_ret (pv 1))) pss_nil) (pss_one (ps_ret (pe_callB (call_min2 rfl) rfl W.min_ (by decide +kernel) (pa_cons (pv 0) (pa_cons (pv 1) pa_nil))))))), ?_⟩
  refine ⟨_, rfl, _, _, _, _, _, rfl, .ty _, tyK a, kitK a, _, rfl, ?_⟩
  cases a with
  | inr x => exact iteT ⟨_, rfl, q⟩
  | inl i =>
    refine iteF ⟨_, rfl, _, _, _, _, _, rfl, .ty _, tyK b, kitK b, _, rfl, ?_⟩
    cases b with
    | inr x => exact iteT ⟨_, rfl, q⟩
    | inl j => exact iteF ⟨_, rfl, _, rfl, _, _, rfl, q⟩
theorem c_pair_of (W : Wd K mg) : Cal P w K mg base CX0 1 "pair_of" sp_pair_of [] := by
  obtain ⟨fd, F⟩ := W.f_pair_of
  refine calD F W.g_pair_of sc_pair_of (fun _ _ _ _ _ _ us hl => match us, hl with | [_, _], _ => rfl) (okD F sc_pair_of ?_ fun cdv A outer s H vs Q E hr h => ?_)
  · rintro _ _ _ _ ⟨a, b, rfl, _⟩; rfl
  obtain ⟨a, b, rfl, q⟩ := h
  have nd := sc_pair_of.nd
  refine ⟨_, (pss_cons (ps_if (PW.pt (pw_or (pt_val (pe_callB call_isi rfl W.isinstance (by decide +kernel) (pa_cons (pv 0) (pa_cons (pe_bltn (v := .ty "str") rfl W.str (by decide +kernel) rfl) pa_nil)))) (pw_or1 (PW.pt (pw_and (pt_not (pt_val (pe_callB call_isi rfl W.isinstance (by decide +kernel) (pa_cons (pv 1) (pa_cons (pe_bltn (v := .ty "str") rfl W.str (by decide +kernel) rfl) pa_nil))))) (pw_and1 (pt_cmpR op_lt (pv 1) (pv 0) (nomark _)))))))) (pss_one (ps_ret (pe_tup (pa_cons (pv 1) (pa_cons (pv 0) pa_nil))))) pss_nil) (pss_one (ps_ret (pe_tup (pa_cons (pv 0) (pa_cons (pv 1) pa_nil)))))), ?_⟩
  refine ⟨_, rfl, _, _, _, _, _, rfl, .ty _, tyK a, kitK a, _, rfl, ?_⟩
  cases a with
  | inr x => exact iteT (iteT ⟨_, rfl, _, rfl, sl rfl, q⟩)
  | inl i =>
    refine iteF ⟨_, rfl, _, _, _, _, _, rfl, .ty _, tyK b, kitK b, _, rfl, ?_⟩
    cases b with
    | inr x => exact iteF (iteF ⟨_, rfl, _, rfl, sl rfl, q⟩)
    | inl j =>
      refine iteT ⟨_, rfl, _, rfl, _, _, rfl, rfl, _, rfl, ?_⟩
      have e : pairOf (.inl i) (.inl j) = if j < i then (.inl j, .inl i) else (.inl i, .inl j) := rfl
      by_cases c : j < i
      · rw [e, if_pos c] at q
        rw [decide_eq_true c]
        exact iteT ⟨_, rfl, _, rfl, sl rfl, q⟩
      · rw [e, if_neg c] at q
        rw [decide_eq_false c]
        exact iteF ⟨_, rfl, _, rfl, sl rfl, q⟩
theorem c_are_names (W : Wd K mg) : Cal P w K mg base CX0 1 "are_names" sp_are_names [] := by
  obtain ⟨fd, F⟩ := W.f_are_names
  refine calD F W.g_are_names sc_are_names (fun _ _ _ _ _ _ us hl => match us, hl with | [_, _], _ => rfl) (okD F sc_are_names ?_ fun cdv A outer s H vs Q E hr h => ?_)
  · rintro _ _ _ _ ⟨a, b, rfl, _⟩; rfl
  obtain ⟨a, b, rfl, q⟩ := h
  have nd := sc_are_names.nd
  refine ⟨_, (pss_one (ps_ret (pe_and (pe_callB call_isi rfl W.isinstance (by decide +kernel) (pa_cons (pv 0) (pa_cons (pe_bltn (v := .ty "str") rfl W.str (by decide +kernel) rfl) pa_nil))) (pe_one (pe_callB call_isi rfl W.isinstance (by decide +kernel) (pa_cons (pv 1) (pa_cons (pe_bltn (v := .ty "str") rfl W.str (by decide +kernel) rfl) pa_nil))))))), ?_⟩
  refine ⟨_, rfl, _, _, _, _, _, rfl, .ty _, tyK a, kitK a, _, rfl, ?_⟩
  cases a with
  | inl i => exact iteF q
  | inr x => exact iteT ⟨_, rfl, _, _, _, _, _, rfl, .ty _, tyK b, kitK b, q⟩
end
end K14
set_option Elab.async false
set_option linter.all false
set_option maxRecDepth 100000
set_option maxHeartbeats 4000000
namespace K14
open PySem PySem.Spec L2 Sx Lk
/-! ### a likeness in the heap -/
def vH (hs : List (Key × Key)) : List (Key × V) := hs.map fun p => (p.1, kV p.2)
def vP (ps : List (Key × Key)) : List (List Key × V) := ps.map fun p => ([p.1, p.2], .bl true)
def flds (d1 d2 : Addr) : List (Str × V) := [("heads_known", .ref d1), ("unlike_pairs", .ref d2)]
def LikeAt (C : Addr) (H : Hp) (p : Addr) (l : L) : Prop := ∃ dx d1 d2, H p = some (.ins C dx (flds d1 d2)) ∧ H d1 = some (.dK (vH l.heads)) ∧ H d2 = some (.dT (vP l.pairs))
def sz (l : L) : Nat := l.heads.length + l.pairs.length
theorem LikeAt.same {C : Addr} {H H' : Hp} {p : Addr} {l : L} (h : LikeAt C H p l) (x : Same H H') : LikeAt C H' p l := by
  obtain ⟨dx, d1, d2, a, b, c⟩ := h
  exact ⟨dx, d1, d2, x _ _ a, x _ _ b, x _ _ c⟩
theorem valV_map {hs : List (Key × Key)} (k : Key) : valV (vH hs) k = ((hs.find? fun p => decide (p.1 = k)).map (·.2)).map kV := by
  induction hs with
  | nil => rfl
  | cons p r ih =>
    show (List.find? _ ((p.1, kV p.2) :: vH r)).map _ = _
    rw [List.find?_cons, List.find?_cons]
    by_cases e : p.1 = k
    · rw [show decide (((p.1, kV p.2) : Key × V).1 = k) = true from decide_eq_true e]
      rfl
    · rw [show decide (((p.1, kV p.2) : Key × V).1 = k) = false from decide_eq_false e]
      exact ih
theorem term_val (l : L) (k : Key) : (valV (vH l.heads) k).getD (kV k) = kV (term l k) := by
  rw [valV_map]
  unfold term
  cases (l.heads.find? fun p => decide (p.1 = k)).map (·.2) <;> rfl
theorem pair_ne {a b : Key × Key} : [a.1, a.2] = [b.1, b.2] ↔ a = b := by
  constructor
  · intro h
    simp only [List.cons.injEq, and_true] at h
    exact Prod.ext h.1 h.2
  · rintro rfl; rfl
theorem valV_pairs {ps : List (Key × Key)} (q : Key × Key) : (valV (vP ps) [q.1, q.2]).isSome = decide (q ∈ ps) := by
  induction ps with
  | nil => rfl
  | cons p r ih =>
    show ((List.find? _ (([p.1, p.2], V.bl true) :: vP r)).map _).isSome = _
    rw [List.find?_cons]
    by_cases e : p = q
    · rw [show decide ((([p.1, p.2], V.bl true) : List Key × V).1 = [q.1, q.2]) = true from decide_eq_true (pair_ne.mpr e)]
      rw [decide_eq_true (by rw [e]; exact List.mem_cons_self)]
      rfl
    · rw [show decide ((([p.1, p.2], V.bl true) : List Key × V).1 = [q.1, q.2]) = false from decide_eq_false fun h => e (pair_ne.mp h)]
      refine Eq.trans ih ?_
      by_cases m : q ∈ r
      · rw [decide_eq_true m, decide_eq_true (List.mem_cons_of_mem _ m)]
      · rw [decide_eq_false m, decide_eq_false fun h => (List.mem_cons.mp h).elim (fun z => e z.symm) m]
theorem fl1 (d1 d2 : Addr) : (flds d1 d2).lookup ("heads_known" : Str) = some (.ref d1) := by
  unfold flds
  rw [List.lookup_cons, show (("heads_known" : Str) == ("heads_known" : Str)) = true by decide +kernel]
theorem fl2 (d1 d2 : Addr) : (flds d1 d2).lookup ("unlike_pairs" : Str) = some (.ref d2) := by
  unfold flds
  rw [List.lookup_cons, show (("unlike_pairs" : Str) == ("heads_known" : Str)) = false by decide +kernel, List.lookup_cons, show (("unlike_pairs" : Str) == ("unlike_pairs" : Str)) = true by decide +kernel]
theorem fl0 (d1 d2 : Addr) {m : Str} (h1 : (m == ("heads_known" : Str)) = false) (h2 : (m == ("unlike_pairs" : Str)) = false) : (flds d1 d2).lookup m = none := by
  unfold flds
  rw [List.lookup_cons, h1, List.lookup_cons, h2]
  rfl
def sayV : Option Bool → V
  | some b => .bl b
  | none => .non
/-! ### term, are_parted, says -/
def sp_term (K : PySem.W.Frag) : Sp := fun vs H Q _ => ∃ (p : Addr) (k : Key) (l : L), vs = [.ref p, kV k] ∧ LikeAt (CL K) H p l ∧ Q (kV (term l k)) H
def sp_parted (K : PySem.W.Frag) : Sp := fun vs H Q _ => ∃ (p : Addr) (a b : Key) (l : L), vs = [.ref p, kV a, kV b] ∧ LikeAt (CL K) H p l ∧ ∀ H', Same H H' → Q (.bl (parted l a b)) H'
def sp_says (K : PySem.W.Frag) : Sp := fun vs H Q _ => ∃ (p : Addr) (a b : Key) (l : L), vs = [.ref p, kV a, kV b] ∧ LikeAt (CL K) H p l ∧ ∀ H', Same H H' → Q (sayV (says l a b)) H'
section
variable {P : Program} {w : World} {K : PySem.W.Frag} {mg : Str → Option Value} {base : Heap}
theorem m_Likeness_term (W : Wd K mg) : Met P w K mg base CX0 1 (CL K) "term" (sp_term K) [] := by
  obtain ⟨fd, F⟩ := W.f_Likeness_term
  refine metD F W.cl_Likeness W.m_Likeness_term sc_Likeness_term (fun _ _ _ _ _ _ us hl => match us, hl with | [_, _], _ => rfl) (okD F sc_Likeness_term ?_ fun cdv A outer s H vs Q E hr h => ?_)
  · rintro _ _ _ _ ⟨p, k, l, rfl, _⟩; rfl
  obtain ⟨p, k, l, rfl, ⟨dx, d1, d2, hp, h1, h2⟩, q⟩ := h
  have hu := hu_of hr
  have nd := sc_Likeness_term.nd
  refine ⟨_, (pss_one (ps_ret (pe_dget2 hu (pe_fld (pv 0) rfl) (pv 1) (pv 1) ⟨rfl, rfl, rfl, rfl⟩))), ?_⟩
  refine ⟨_, rfl, p, CL K, dx, _, _, rfl, hp, W.cl_Likeness, W.no_Likeness_heads_known, fl1 d1 d2, d1, rfl, .inl ⟨_, .of h1⟩, _, rfl, _, rfl, _, DGet.k h1, ?_⟩
  rw [term_val]
  exact q
theorem m_Likeness_are_parted (W : Wd K mg) : Met P w K mg base CX0 2 (CL K) "are_parted" (sp_parted K) [] := by
  obtain ⟨fd, F⟩ := W.f_Likeness_are_parted
  refine metD F W.cl_Likeness W.m_Likeness_are_parted sc_Likeness_are_parted (fun _ _ _ _ _ _ us hl => match us, hl with | [_, _, _], _ => rfl) (okD F sc_Likeness_are_parted ?_ fun cdv A outer s H vs Q E hr h => ?_)
  · rintro _ _ _ _ ⟨p, a, b, l, rfl, _⟩; rfl
  obtain ⟨p, a, b, l, rfl, ⟨dx, d1, d2, hp, h1, h2⟩, q⟩ := h
  have hu := hu_of hr
  have nd := sc_Likeness_are_parted.nd
  refine ⟨_, (pss_one (ps_ret (pe_or (pe_f (c_are_names W) hr (by decide) pass0 rfl (pa_cons (pv 1) (pa_cons (pv 2) pa_nil))) (pe_one (pe_cmp (pc_din hu (pe_f (c_pair_of W) hr (by decide) pass0 rfl (pa_cons (pv 1) (pa_cons (pv 2) pa_nil))) (pe_fld (pv 0) rfl)) rfl))))), ?_⟩
  refine ⟨_, rfl, _, rfl, a, b, rfl, _, rfl, ?_⟩
  unfold parted at q
  cases e : areN a b with
  | true =>
    rw [e] at q
    exact iteT (q H (Same.refl H))
  | false =>
    rw [e] at q
    refine iteF ⟨_, rfl, _, rfl, a, b, rfl, fun t ht => ?_⟩
    refine ⟨_, rfl, p, CL K, dx, _, _, rfl, upd_old ht hp, W.cl_Likeness, W.no_Likeness_unlike_pairs, fl2 d1 d2, d2, _, rfl, DGet.t (upd_old ht h2) (k := [(pairOf a b).1, (pairOf a b).2]) upd_same, ?_⟩
    rw [valV_pairs]
    exact q _ (Same.new ht)
theorem o_Likeness_says (W : Wd K mg) {f : Addr} {fd : FuncData} (F : FunD K "says" "Likeness.says" (defArgs s_Likeness_says) (defBody s_Likeness_says) (defScope s_Likeness_says) [] [] f fd) : FnOk P w K mg base CX0 3 f fd ["self", "one", "other"] (sp_says K) := by
  refine okD F sc_Likeness_says ?_ fun cdv A outer s H vs Q E hr h => ?_
  · rintro _ _ _ _ ⟨p, a, b, l, rfl, _⟩; rfl
  obtain ⟨p, a, b, l, rfl, hl, q⟩ := h
  obtain ⟨dx, d1, d2, hp, h1, h2⟩ := id hl
  have nd := sc_Likeness_says.nd
  refine ⟨_, (pss_cons (ps_set (i := 3) nd rfl (Or.inl rfl) (pe_m (m_Likeness_term W) hr (by decide) pass0 (pv 0) (pa_cons (pv 1) pa_nil))) (pss_cons (ps_set (i := 4) nd rfl (Or.inl rfl) (pe_m (m_Likeness_term W) hr (by decide) pass0 (pv 0) (pa_cons (pv 2) pa_nil))) (pss_cons (ps_if (pt_cmpR op_eq (pv 3) (pv 4) (nomark _)) (pss_one (ps_ret pe_bl)) pss_nil) (pss_cons (ps_if (pt_val (pe_m (m_Likeness_are_parted W) hr (by decide) pass0 (pv 0) (pa_cons (pv 3) (pa_cons (pv 4) pa_nil)))) (pss_one (ps_ret pe_bl)) pss_nil) (pss_one (ps_ret pe_non)))))), ?_⟩
  have n1 := fl0 d1 d2 (m := "term") (by decide +kernel) (by decide +kernel)
  have n2 := fl0 d1 d2 (m := "are_parted") (by decide +kernel) (by decide +kernel)
  refine ⟨_, rfl, p, dx, _, rfl, hp, n1, _, rfl, p, a, l, rfl, hl, ?_⟩
  refine ⟨_, rfl, p, dx, _, rfl, hp, n1, _, rfl, p, b, l, rfl, hl, ?_⟩
  refine ⟨_, rfl, _, rfl, scal_key _ _, _, rfl, ?_⟩
  unfold says at q
  rw [dec_key]
  by_cases e : term l a = term l b
  · rw [decide_eq_true e]
    rw [if_pos e] at q
    exact iteT (q H (Same.refl H))
  · rw [decide_eq_false e]
    rw [if_neg e] at q
    refine iteF ⟨_, rfl, p, dx, _, rfl, hp, n2, _, rfl, _, rfl, p, _, _, l, rfl, hl, fun H1 s1 => ?_⟩
    refine ⟨_, rfl, ?_⟩
    cases c : parted l (term l a) (term l b) with
    | true =>
      rw [c] at q
      exact iteT (q H1 s1)
    | false =>
      rw [c] at q
      exact iteF (q H1 s1)
theorem m_Likeness_says (W : Wd K mg) : Met P w K mg base CX0 3 (CL K) "says" (sp_says K) [] := by
  obtain ⟨fd, F⟩ := W.f_Likeness_says
  exact metD F W.cl_Likeness W.m_Likeness_says sc_Likeness_says (fun _ _ _ _ _ _ us hl => match us, hl with | [_, _, _], _ => rfl) (o_Likeness_says W F)
end
end K14
set_option Elab.async false
set_option linter.all false
set_option maxRecDepth 100000
set_option maxHeartbeats 4000000
namespace K14
open PySem PySem.Spec L2 Sx Lk
theorem take_one {α : Type} {l : List α} {i : Nat} {x : α} (h : l[i]? = some x) : l.take (i + 1) = l.take i ++ [x] := by
  rw [List.take_add_one, h]
  rfl
theorem flds_eq (d1 d2 : Addr) : putF "unlike_pairs" (.ref d2) (putF "heads_known" (.ref d1) []) = flds d1 d2 := by
  have n : ¬ (("heads_known" : Str) = ("unlike_pairs" : Str)) := by decide +kernel
  show (if ("heads_known" : Str) = "unlike_pairs" then _ else (("heads_known" : Str), V.ref d1) :: putF "unlike_pairs" (V.ref d2) []) = _
  rw [if_neg n]
  rfl
theorem put_pair (acc : List (Key × Key)) (p : Key × Key) : putK (vP acc) [p.1, p.2] (.bl true) = vP (addP acc p) := by
  have anyE : ((vP acc).any fun kv => decide (kv.1 = [p.1, p.2])) = decide (p ∈ acc) := by
    induction acc with
    | nil => rfl
    | cons a r ih =>
      show (decide (([a.1, a.2] : List Key) = [p.1, p.2]) || (vP r).any _) = _
      rw [ih]
      by_cases e : a = p
      · rw [decide_eq_true (pair_ne.mpr e), Bool.true_or, decide_eq_true (show p ∈ a :: r by rw [e]; exact List.mem_cons_self)]
      · rw [decide_eq_false fun h => e (pair_ne.mp h), Bool.false_or]
        by_cases m : p ∈ r
        · rw [decide_eq_true m, decide_eq_true (List.mem_cons_of_mem _ m)]
        · rw [decide_eq_false m, decide_eq_false fun h => (List.mem_cons.mp h).elim (fun z => e z.symm) m]
  unfold putK addP
  rw [anyE]
  by_cases m : p ∈ acc
  · rw [decide_eq_true m, if_pos rfl, if_pos m]
    refine (List.map_congr_left fun kv hkv => ?_).trans (List.map_id _)
    obtain ⟨q, _, rfl⟩ := List.mem_map.mp hkv
    show (if _ then _ else _) = _
    split <;> rfl
  · rw [decide_eq_false m, if_neg Bool.false_ne_true, if_neg m]
    unfold vP
    rw [List.map_append]
    rfl
theorem dedup_take {ps : List (Key × Key)} {i : Nat} {p : Key × Key} (h : ps[i]? = some p) : dedup (ps.take (i + 1)) = addP (dedup (ps.take i)) p := by
  rw [take_one h]
  unfold dedup
  rw [List.foldl_append]
  rfl
theorem len_addP (acc : List (Key × Key)) (p : Key × Key) : (addP acc p).length ≤ acc.length + 1 := by
  unfold addP
  split
  · omega
  · rw [List.length_append]; simp
theorem len_dedup (ps : List (Key × Key)) : (dedup ps).length ≤ ps.length := by
  have aux : ∀ (ps acc : List (Key × Key)), (ps.foldl addP acc).length ≤ acc.length + ps.length := by
    intro ps
    induction ps with
    | nil => intro acc; simp
    | cons p r ih =>
      intro acc
      rw [List.foldl_cons, List.length_cons]
      have := ih (addP acc p)
      have := len_addP acc p
      omega
  have := aux ps []
  simpa [dedup] using this
theorem paired_get {α β : Type} {R : α → β → Prop} : ∀ {xs : List α} {ys : List β} {i : Nat} {x : α}, Paired R xs ys → xs[i]? = some x → ∃ y, ys[i]? = some y ∧ R x y
  | _, _, _, _, .nil, e => by simp at e
  | _, _, 0, _, .cons r _, e => ⟨_, rfl, by simp at e; subst e; exact r⟩
  | _, _, i + 1, x, .cons _ t, e => paired_get (i := i) t (by simpa using e)
theorem mergeK_nodup {hs : List (Key × V)} (h : (hs.map (·.1)).Nodup) : mergeK [] hs = hs := by
  have aux : ∀ (r acc : List (Key × V)), ((acc ++ r).map (·.1)).Nodup → mergeK acc r = acc ++ r := by
    intro r
    induction r with
    | nil => intro acc _; simp [mergeK]
    | cons p r ih =>
      intro acc nd
      show mergeK (putK acc p.1 p.2) r = _
      have e : putK acc p.1 p.2 = acc ++ [p] := by
        unfold putK
        rw [if_neg]
        intro z
        obtain ⟨q, hq, e⟩ := List.any_eq_true.mp z
        rw [List.map_append, List.nodup_append] at nd
        exact nd.2.2 q.1 (List.mem_map.mpr ⟨q, hq, rfl⟩) p.1 (by simp) (of_decide_eq_true e)
      rw [e, ih]
      · simp
      · simpa using nd
  simpa using aux hs [] (by simpa using h)
theorem ne_both {H : Hp} {a b : Addr} {o u : HO} (h1 : H a = some o) (h2 : H b = some u) (h : o ≠ u) : a ≠ b := ne_of h1 h2 h

/-! ### __init__ -/
def HeadsArg (K : PySem.W.Frag) (H : Hp) (v : V) (hs : List (Key × Key)) : Prop :=
  (∃ t, v = .ref t ∧ KNil K t ∧ hs = []) ∨ (∃ a ts, v = .ref a ∧ H a = some (.lst (ts.map V.ref)) ∧ Paired (fun t (p : Key × Key) => H t = some (.tup [kV p.1, kV p.2])) ts hs ∧ (hs.map (·.1)).Nodup) ∨ ∃ d, v = .ref d ∧ H d = some (.dK (vH hs))
def PairsArg (K : PySem.W.Frag) (H : Hp) (v : V) (ps : List (Key × Key)) : Prop :=
  (∃ t, v = .ref t ∧ KNil K t ∧ ps = []) ∨ ∃ a ts, v = .ref a ∧ H a = some (.lst (ts.map V.ref)) ∧ Paired (fun t (p : Key × Key) => H t = some (.tup [kV p.1, kV p.2])) ts ps ∧ ps.length < 1000000
def sp_init (K : PySem.W.Frag) : Sp := fun vs H Q _ => ∃ (x dx : Addr) (va vb : V) (hs ps : List (Key × Key)), vs = [.ref x, va, vb] ∧ H x = some (.ins (CL K) dx []) ∧ HeadsArg K H va hs ∧ PairsArg K H vb ps ∧
  ∀ H', Kept x H H' → LikeAt (CL K) H' x ⟨hs, dedup ps⟩ → Q .non H'
section
variable {P : Program} {w : World} {K : PySem.W.Frag} {mg : Str → Option Value} {base : Heap}
theorem o_init (W : Wd K mg) {f : Addr} {fd : FuncData} {dvs : List V} (F : FunD K "__init__" "Likeness.__init__" (defArgs s_Likeness___init__) (defBody s_Likeness___init__) (defScope s_Likeness___init__) dvs [] f fd) :
    FnOk P w K mg base CX0 1 f fd ["self", "heads", "pairs"] (sp_init K) := by
  refine okD F sc_Likeness___init__ ?_ fun cdv A outer s H vs Q E hr h => ?_
  · rintro _ _ _ _ ⟨x, dx, va, vb, hs, ps, rfl, _⟩; rfl
  obtain ⟨x, dx, va, vb, hs, ps, rfl, hx, hh, hp, q⟩ := h
  have hu := hu_of hr
  have nd := sc_Likeness___init__.nd
  refine ⟨_, (C8.pss_cut (ps_fld (pv 0) (pe_callTy (CallR.or (call_dict0 rfl) (CallR.or (call_dictP rfl) call_dictD)) rfl W.dict_ (by decide +kernel) (pa_cons (pv 1) pa_nil)) rfl) (pss_one (ps_fld (pv 0) (dcomp (own := [("pair", 3)]) hu rfl nd (PI.or (pi_tup (pv 2)) (pi_list (pv 2))) (blkOk_by (N := ["self", "heads", "pairs", "pair"]) (sc := defScope s_Likeness___init__) (by decide +kernel)) (fun _ _ _ _ _ => (pg_name (i := 3) nd rfl (Or.inl rfl))) (fun _ _ _ _ _ => pts_nil) (fun _ _ _ _ _ => (pv 3)) (fun _ _ _ _ _ => pe_bl)) rfl))), ?_⟩
  have same0 : ∀ d1 (h : H d1 = none), d1 ≠ x := fun d1 h e => by rw [e, hx] at h; cases h
  refine ⟨fun σ' H' => ∃ d1, H d1 = none ∧ σ' = [some (.ref x), some va, some vb, none] ∧ H' = upd (upd H d1 (.dK (vH hs))) x (.ins (CL K) dx (putF "heads_known" (.ref d1) [])), ?_, ?_⟩
  · have fin : ∀ d1, H d1 = none → ∃ d, H d = none ∧ start ["self", "heads", "pairs", "pair"] [.ref x, va, vb] = [some (.ref x), some va, some vb, none] ∧ upd (upd H d1 (.dK (vH hs))) x (.ins (CL K) dx (putF "heads_known" (.ref d1) [])) = upd (upd H d (.dK (vH hs))) x (.ins (CL K) dx (putF "heads_known" (.ref d) [])) := fun d1 n => ⟨d1, n, rfl, rfl⟩
    refine ⟨_, rfl, ?_⟩
    rcases hh with ⟨t, rfl, kn, rfl⟩ | ⟨a, ts, rfl, ha, hts, nd1⟩ | ⟨d, rfl, hd⟩
    · exact .inl ⟨t, rfl, kn, fun d1 n1 => ⟨_, rfl, x, CL K, dx, _, rfl, upd_old n1 hx, W.cl_Likeness, W.no_Likeness_heads_known, by decide, fin d1 n1⟩⟩
    · refine .inr (.inl ⟨a, ts, vH hs, rfl, .of ha, ?_, fun d1 n1 => ⟨_, rfl, x, CL K, dx, _, rfl, upd_old n1 hx, W.cl_Likeness, W.no_Likeness_heads_known, by decide, ?_⟩⟩)
      · clear fin q nd1 ha
        induction hts with
        | nil => exact .nil
        | cons r t ih => exact .cons (.of r) ih
      · rw [mergeK_nodup (by unfold vH; rw [List.map_map]; exact nd1)]
        exact fin d1 n1
    · exact .inr (.inr ⟨d, _, rfl, .of hd, fun d1 n1 => ⟨_, rfl, x, CL K, dx, _, rfl, upd_old n1 hx, W.cl_Likeness, W.no_Likeness_heads_known, by decide, fin d1 n1⟩⟩)
  · rintro σ' H' ⟨d1, n1, rfl, rfl⟩
    have hx1 : upd (upd H d1 (.dK (vH hs))) x (.ins (CL K) dx (putF "heads_known" (.ref d1) [])) x = some (.ins (CL K) dx (putF "heads_known" (.ref d1) [])) := upd_same
    have hd1 : upd (upd H d1 (.dK (vH hs))) x (.ins (CL K) dx (putF "heads_known" (.ref d1) [])) d1 = some (.dK (vH hs)) := by rw [upd_ne (same0 d1 n1), upd_same]
    have e1 : Kept x H (upd (upd H d1 (.dK (vH hs))) x (.ins (CL K) dx (putF "heads_known" (.ref d1) []))) := (Kept.new n1).set'
    generalize upd (upd H d1 (.dK (vH hs))) x (.ins (CL K) dx (putF "heads_known" (.ref d1) [])) = H1 at hx1 hd1 e1 ⊢
    -- the rows of pairs
    have fin : ∀ (D : Addr) (H2 : Hp), H1 D = none → Kept D H1 H2 → H2 D = some (.dT (vP (dedup ps))) → Q .non (upd H2 x (.ins (CL K) dx (putF "unlike_pairs" (.ref D) (putF "heads_known" (.ref d1) [])))) := by
      intro D H2 n2 e2 h2
      have nD1 : d1 ≠ D := ne_of_none hd1 n2
      have nDx : x ≠ D := ne_of_none hx1 n2
      refine q _ (fun b o nb hb => ?_) ⟨dx, d1, D, by rw [flds_eq, upd_same], ?_, by rw [upd_ne (Ne.symm nDx), h2]⟩
      · have hb1 := e1 b o nb hb
        rw [upd_ne nb]
        exact e2 b o (ne_of_none hb1 n2) hb1
      · rw [upd_ne (same0 d1 n1)]
        exact e2 _ _ nD1 hd1
    have lay : ∀ (D : Addr) (H2 : Hp), H1 D = none → Kept D H1 H2 → H2 x = some (.ins (CL K) dx (putF "heads_known" (.ref d1) [])) := fun D H2 n2 e2 => e2 _ _ (ne_of_none hx1 n2) hx1
    rcases hp with ⟨t, rfl, kn, rfl⟩ | ⟨a, ts, rfl, ha, hts, hl⟩
    · refine .inl ⟨_, rfl, t, rfl, ⟨[], kn.sq _⟩, fun D hD => dc_it (walk_tup (xs := [])) (.dT []) (fun i H' => Kept D H1 H' ∧ H' D = some (.dT [])) (.inr rfl) ⟨Kept.new hD, upd_same⟩ (fun i H' _ _ => kn.sq _) (fun i y H' H'' hi => absurd hi (Nat.not_lt_zero _)) ?_⟩
      rintro H2 ⟨e2, h2⟩
      exact ⟨_, rfl, x, CL K, dx, _, rfl, lay D H2 hD e2, W.cl_Likeness, W.no_Likeness_unlike_pairs, (by show 1 < 1000; decide), fin D H2 hD e2 h2⟩
    · have ax : a ≠ x := ne_of ha hx (fun z => nomatch z)
      have ha1 := e1 _ _ ax ha
      refine .inr ⟨_, rfl, a, rfl, ⟨_, .of ha1⟩, fun D hD => dc_it (walk_list (xs := ts.map V.ref)) (.dT []) (fun i H' => Kept D H1 H' ∧ H' D = some (.dT (vP (dedup (ps.take i))))) (.inr rfl) ⟨Kept.new hD, upd_same⟩ (fun i H' _ p => .of (p.1 _ _ (ne_of_none ha1 hD) ha1)) ?_ ?_⟩
      · rintro i y H' H'' hi ⟨e2, h2⟩ ⟨rfl, hy⟩
        rw [List.getElem?_map] at hy
        obtain ⟨t, ht, rfl⟩ := Option.map_eq_some_iff.mp hy
        obtain ⟨p, hpi, hpt⟩ := paired_get hts ht
        have tx : t ≠ x := ne_of hpt hx (fun z => nomatch z)
        have ht1 := e1 _ _ tx hpt
        have tD : t ≠ D := ne_of_none ht1 hD
        refine ⟨rfl, _, rfl, _, DPut.t h2 (k := [p.1, p.2]) (e2 _ _ tD ht1) ?_, ?_⟩
        · have := len_dedup (ps.take i)
          have h3 : (ps.take i).length ≤ ps.length := by rw [List.length_take]; omega
          have h4 : (vP (dedup (ps.take i))).length = (dedup (ps.take i)).length := by unfold vP; rw [List.length_map]
          have : (1000000 : Nat) < sizeLine := by decide
          omega
        · rw [put_pair, ← dedup_take hpi]
          exact ⟨e2.set', upd_same⟩
      · rintro H2 ⟨e2, h2⟩
        have lens : (ts.map V.ref).length = ps.length := by rw [List.length_map]; exact Paired.length hts
        rw [lens, List.take_length] at h2
        exact ⟨_, rfl, x, CL K, dx, _, rfl, lay D H2 hD e2, W.cl_Likeness, W.no_Likeness_unlike_pairs, (by show 1 < 1000; decide), fin D H2 hD e2 h2⟩
end
end K14
set_option Elab.async false
set_option linter.all false
set_option maxRecDepth 100000
set_option maxHeartbeats 4000000
namespace K14
open PySem PySem.Spec L2 Sx Lk
def sp_hear (K : PySem.W.Frag) (b : Bool) : Sp := fun vs H Q E => ∃ (p : Addr) (x y : Key) (l : L), vs = [.ref p, kV x, kV y] ∧ LikeAt (CL K) H p l ∧ WF l ∧ sz l < 100000 ∧
  (∀ l', hear l b x y = some l' → ∀ p' H', Same H H' → LikeAt (CL K) H' p' l' → Q (.ref p') H') ∧ (hear l b x y = none → ∀ H', Same H H' → E (.ref (CApart K)) none H')
section
variable {P : Program} {w : World} {K : PySem.W.Frag} {mg : Str → Option Value} {base : Heap}
theorem k0_Likeness (W : Wd K mg) : Mak P w K mg base CX0 1 "Likeness" (CL K) (sp_init K) [.ref (a0 K), .ref (a1 K)] := by
  obtain ⟨fd, F⟩ := W.f_Likeness___init__
  obtain ⟨ds, hv, hb⟩ := F.binds1 (ps := ["self", "heads", "pairs"]) 1 0 (List.cons_ne_nil _ _) rfl fun T kV doc pm an cdv ct us its h1 h2 => match us, its, h1, h2 with
    | [u], [i, j], _, _ => ⟨_, rfl, rfl⟩
  exact ⟨_, fd, _, ds, W.mk_Likeness, o_init W F, W.g_Likeness, hb, hv⟩
theorem k2_Likeness (W : Wd K mg) : Mak P w K mg base CX0 1 "Likeness" (CL K) (sp_init K) [] := by
  obtain ⟨fd, F⟩ := W.f_Likeness___init__
  obtain ⟨ds, hv, hb⟩ := F.binds1 (ps := ["self", "heads", "pairs"]) 3 2 (List.cons_ne_nil _ _) rfl fun T kV doc pm an cdv ct us its h1 h2 => match us, its, h1, h2 with
    | [u, v, z], [i, j], _, _ => ⟨_, rfl, rfl⟩
  exact ⟨_, fd, _, ds, W.mk_Likeness, o_init W F, W.g_Likeness, hb, hv⟩
/-! ### like -/
def g2 (p : Key × Key) : List V := [kV p.1, kV p.2]
def prs (g s : Key) (ps : List (Key × Key)) : List (Key × Key) := (ps.filter fun p => !areN (sub g s p.1) (sub g s p.2)).map fun p => pairOf (sub g s p.1) (sub g s p.2)
theorem same_frz {H : Hp} {d : Addr} {od : Obj} {u : HO} {b : Addr} {o : HO} (h : H b = some o) (n : b ≠ d) : upd H d (.frz od u) b = some o := (upd_ne n).trans h
theorem o_Likeness_like (W : Wd K mg) {f : Addr} {fd : FuncData} (F : FunD K "like" "Likeness.like" (defArgs s_Likeness_like) (defBody s_Likeness_like) (defScope s_Likeness_like) [] [] f fd) : FnOk P w K mg base (L2.CX P w) 3 f fd ["self", "one", "other"] (sp_hear K true) := by
  refine F.ok sc_Likeness_like ?_ fun cdv A outer s H vs Q E hr h => ?_
  · rintro _ _ _ _ ⟨p, x, y, l, rfl, _⟩; rfl
  obtain ⟨p, x, y, l, rfl, hl, wf, hz, q, qn⟩ := h
  obtain ⟨dx, d1, d2, hp, h1, h2⟩ := id hl
  have hu := hu_of hr
  have nd := sc_Likeness_like.nd
  refine ⟨_, (pss_cons (ps_set (i := 3) nd rfl (Or.inl rfl) (pe_m (m_Likeness_term W) hr (by decide) pass0 (pv 0) (pa_cons (pv 1) pa_nil))) (pss_cons (ps_set (i := 4) nd rfl (Or.inl rfl) (pe_m (m_Likeness_term W) hr (by decide) pass0 (pv 0) (pa_cons (pv 2) pa_nil))) (pss_cons (ps_if (pt_cmpR op_eq (pv 3) (pv 4) (nomark _)) (pss_one (ps_ret (pv 0))) pss_nil) (pss_cons (ps_if (pt_val (pe_m (m_Likeness_are_parted W) hr (by decide) pass0 (pv 0) (pa_cons (pv 3) (pa_cons (pv 4) pa_nil)))) (pss_one (ps_raise rfl (takes_of rfl rfl rfl rfl) (mkExc0 PySem.F.excBase_Exception W.xApart W.g_Apart W.kApart W.rApart rfl))) pss_nil) (pss_cons (ps_set (i := 5) nd rfl (Or.inr rfl) (pe_f (c_first_of W) hr (by decide) pass0 rfl (pa_cons (pv 3) (pa_cons (pv 4) pa_nil)))) (C8.pss_cut (ps_set (i := 6) nd rfl (Or.inr rfl) (pe_ifExp (pt_cmpR op_eq (pv 5) (pv 3) (nomark _)) (pv 4) (pv 3))) (C8.pss_cut (ps_lock (ps_setLc (i := 7) (own := [("term", 12), ("head", 13)]) rfl nd rfl rfl (sw_true rfl rfl rfl (by decide +kernel)) (pi_items (pe_fld (pv 0) rfl)) (blkOk_by (own := [("term", 12), ("head", 13)]) (N := ["self", "one", "other", "here", "there", "stays", "goes", "heads", "pairs", "pair", "left", "right", "term", "head"]) (sc := defScope s_Likeness_like) (by decide +kernel)) (fun _ _ _ _ _ => (pg_tupK K 2 rfl rfl (pgs_cons (pg_name (i := 12) nd rfl (Or.inl rfl)) (pgs_cons (pg_name (i := 13) nd rfl (Or.inl rfl)) pgs_nil)))) (fun _ _ _ _ _ => pts_nil) (fun _ _ _ _ _ => (pe_tup (pa_cons (pv 12) (pa_cons (pe_ifExp (pt_cmpR op_eq (pv 13) (pv 6) (nomark _)) (pv 5) (pv 13)) pa_nil)))))) (pss_cons (ps_set (i := 8) nd rfl (Or.inl rfl) (pe_lst pa_nil)) (C8.pss_cut (ps_lock (ps_for (passes_of (by exact rfl)) rfl (pi_keys (pe_fld (pv 0) rfl)) (pg_name (i := 9) nd rfl (Or.inl rfl)) (pss_cons (ps_asg (pe_lc (own := [("term", 12)]) rfl nd (pi_tup (pv 9)) (blkOk_by (own := [("term", 12)]) (N := ["self", "one", "other", "here", "there", "stays", "goes", "heads", "pairs", "pair", "left", "right", "term", "head"]) (sc := defScope s_Likeness_like) (by decide +kernel)) (fun _ _ _ _ _ => (pg_name (i := 12) nd rfl (Or.inl rfl))) (fun _ _ _ _ _ => pts_nil) (fun _ _ _ _ _ => (pe_ifExp (pt_cmpR op_eq (pv 12) (pv 6) (nomark _)) (pv 5) (pv 12)))) (pg_lst rfl (pgs_cons (pg_name (i := 10) nd rfl (Or.inl rfl)) (pgs_cons (pg_name (i := 11) nd rfl (Or.inl rfl)) pgs_nil)))) (pss_one (ps_if (pt_not (pt_val (pe_f (c_are_names W) hr (by decide) pass0 rfl (pa_cons (pv 10) (pa_cons (pv 11) pa_nil))))) (pss_one (ps_expr (pe_bm PySem.F.plainAttrs_list PySem.F.slot_list_append PySem.F.type_list_append mt_append (pv 8) (pa_cons (pe_f (c_pair_of W) hr (by decide) pass0 rfl (pa_cons (pv 10) (pa_cons (pv 11) pa_nil))) pa_nil)))) pss_nil))))) (pss_one (ps_ret (pe_k (k2_Likeness W) hr (by decide) pass0 rfl (pa_cons (pe_op op_cat (pv 7) (pe_lst (pa_cons (pe_tup (pa_cons (pv 6) (pa_cons (pv 5) pa_nil))) pa_nil))) (pa_cons (pv 8) pa_nil)))))))))))))), ?_⟩
  have n1 := fl0 d1 d2 (m := "term") (by decide +kernel) (by decide +kernel)
  have n2 := fl0 d1 d2 (m := "are_parted") (by decide +kernel) (by decide +kernel)
  refine ⟨_, rfl, p, dx, _, rfl, hp, n1, _, rfl, p, x, l, rfl, hl, ?_⟩
  refine ⟨_, rfl, p, dx, _, rfl, hp, n1, _, rfl, p, y, l, rfl, hl, ?_⟩
  refine ⟨_, rfl, _, rfl, scal_key _ _, _, rfl, ?_⟩
  rw [dec_key]
  unfold hear like at q qn
  rw [if_pos rfl] at qn
  by_cases e : term l x = term l y
  · rw [decide_eq_true e]
    refine iteT ⟨_, rfl, ?_⟩
    refine q l ?_ p H (Same.refl H) hl
    rw [if_pos rfl, if_pos e]
  rw [decide_eq_false e]
  rw [if_neg e] at qn
  refine iteF ⟨_, rfl, p, dx, _, rfl, hp, n2, _, rfl, _, rfl, p, _, _, l, rfl, hl, fun H1 s1 => ⟨_, rfl, ?_⟩⟩
  cases c : parted l (term l x) (term l y) with
  | true =>
    rw [c, if_pos rfl] at qn
    exact iteT (qn rfl H1 s1)
  | false =>
  refine iteF ?_
  have q' := q (merge l (stays (term l x) (term l y)) (goes (term l x) (term l y))) (by rw [if_pos rfl, if_neg e, c]; rfl)
  clear q qn
  have hp := s1 _ _ hp
  have h1 := s1 _ _ h1
  have h2 := s1 _ _ h2
  refine ⟨_, rfl, _, rfl, _, _, rfl, ?_⟩
  obtain ⟨S, hS⟩ : ∃ S, S = stays (term l x) (term l y) := ⟨_, rfl⟩
  obtain ⟨G, hG⟩ : ∃ G, G = goes (term l x) (term l y) := ⟨_, rfl⟩
  have o2 : Ok2 l S G := by rw [hS, hG]; exact ok2 wf e c
  rw [← hS, ← hG] at q'
  refine ⟨fun σ' H' => σ' = [some (.ref p), some (kV x), some (kV y), some (kV (term l x)), some (kV (term l y)), some (kV S), some (kV G), none, none, none, none, none, none, none] ∧ H' = H1, ?_, ?_⟩
  · refine ⟨_, rfl, _, rfl, scal_key _ _, _, rfl, ?_⟩
    rw [dec_key, hS, hG]
    unfold stays goes
    by_cases k : firstOf (term l x) (term l y) = term l x
    · rw [decide_eq_true k, if_pos k]
      exact iteT ⟨_, rfl, rfl, rfl⟩
    · rw [decide_eq_false k, if_neg k]
      exact iteF ⟨_, rfl, rfl, rfl⟩
  rintro _ H1' ⟨rfl, hH⟩
  rw [hH]
  clear hH H1'
  have szl : l.heads.length < 100000 ∧ l.pairs.length < 100000 := by unfold sz at hz; omega
  refine ⟨fun σ' H2 => ∃ LH ts, σ' = [some (.ref p), some (kV x), some (kV y), some (kV (term l x)), some (kV (term l y)), some (kV S), some (kV G), some (.ref LH), none, none, none, none, none, none] ∧ Same H1 H2 ∧ H2 LH = some (.lst (ts.map V.ref)) ∧
    Paired (fun t (p : Key × Key) => H2 t = some (.tup [kV p.1, kV p.2])) ts (l.heads.map fun p => (p.1, sub G S p.2)), ?_, ?_⟩
  · have ndp : d1 ≠ p := ne_of h1 hp (fun z => nomatch z)
    refine ⟨d1, _, h1, trivial, fun od => ⟨_, rfl, p, CL K, dx, _, _, rfl, same_frz hp (Ne.symm ndp), W.cl_Likeness, W.no_Likeness_heads_known, fl1 d1 d2, d1, od, _, rfl, upd_same, fun LH nLH => ?_⟩⟩
    refine lc_it walk_items (fun i H' => Kept LH (upd H1 d1 (.frz od (.dK (vH l.heads)))) H' ∧ ∃ ts : List Addr, H' LH = some (.lst (ts.map V.ref)) ∧ Paired (fun t (p : Key × Key) => H' t = some (.tup [kV p.1, kV p.2])) ts ((l.heads.map fun p => (p.1, sub G S p.2)).take i))
      ⟨Kept.new nLH, [], upd_same, .nil⟩ (fun i H' _ z => z.1 _ _ (ne_of_none upd_same nLH) upd_same) ?_ ?_
    · rintro i y' H' H'' hi ⟨e2, ts, hL, hT⟩ ⟨T, kx, vx, rfl, nT, rfl, hk, hv⟩
      obtain ⟨r, hr1⟩ : ∃ r, l.heads[i]? = some r := ⟨_, List.getElem?_eq_getElem (by unfold vH at hi; rw [List.length_map] at hi; exact hi)⟩
      have er : (vH l.heads)[i]? = some (r.1, kV r.2) := by unfold vH; rw [List.getElem?_map, hr1]; rfl
      simp only [er, Option.map_some] at hk hv
      obtain rfl := Option.some.inj hk
      obtain rfl := Option.some.inj hv
      refine ⟨T, _, rfl, .of upd_same, rfl, _, _, rfl, _, _, rfl, rfl, rfl, ?_⟩
      have len1 : ts.length = i := by
        rw [Paired.length hT, List.length_take, List.length_map]
        have := (List.getElem?_eq_some_iff.mp hr1).1
        omega
      have fin : ∀ (t : Addr) (H3 : Hp), H' t = none → H3 = upd (upd H' T (.tup [kV r.1, kV r.2])) t (.tup [kV r.1, kV (sub G S r.2)]) → t ≠ T →
          H3 LH = some (.lst (ts.map V.ref)) ∧ (ts.map V.ref).length < sizeLine ∧ Kept LH (upd H1 d1 (.frz od (.dK (vH l.heads)))) (upd H3 LH (.lst (ts.map V.ref ++ [.ref t]))) ∧ ∃ ts' : List Addr, upd H3 LH (.lst (ts.map V.ref ++ [.ref t])) LH = some (.lst (ts'.map V.ref)) ∧ Paired (fun t' (p : Key × Key) => upd H3 LH (.lst (ts.map V.ref ++ [.ref t])) t' = some (.tup [kV p.1, kV p.2])) ts' ((l.heads.map fun p => (p.1, sub G S p.2)).take (i + 1)) := by
        rintro t H3 nt rfl ntT
        have ntL : LH ≠ t := ne_of_none hL nt
        have nTL : LH ≠ T := ne_of_none hL nT
        refine ⟨by rw [upd_ne ntL, upd_ne nTL]; exact hL, ?_, ?_, ts ++ [t], by rw [upd_same, List.map_append]; rfl, ?_⟩
        · rw [List.length_map, len1]
          exact Nat.lt_of_lt_of_le (Nat.lt_of_lt_of_le (List.getElem?_eq_some_iff.mp hr1).1 (Nat.le_of_lt szl.1)) (by decide)
        · intro b o nb hb
          have hb' := e2 b o nb hb
          rw [upd_ne nb, upd_ne (ne_of_none hb' nt), upd_ne (ne_of_none hb' nT)]
          exact hb'
        · rw [take_one (x := (r.1, sub G S r.2)) (by rw [List.getElem?_map, hr1]; rfl)]
          refine Paired.snoc (Paired.mapP hT fun a b hab => ?_) ?_
          · rw [upd_ne (ne_of hab hL (fun z => nomatch z)), upd_ne (ne_of_none hab nt), upd_ne (ne_of_none hab nT)]
            exact hab
          · rw [upd_ne (Ne.symm ntL), upd_same]
      have tail : ∀ b, b = kV (sub G S r.2) → [kV r.1, b].length ≤ sizeLine ∧ ∀ t, upd H' T (.tup [kV r.1, kV r.2]) t = none → ∃ acc, upd (upd H' T (.tup [kV r.1, kV r.2])) t (.tup [kV r.1, b]) LH = some (.lst acc) ∧ acc.length < sizeLine ∧
          (Kept LH (upd H1 d1 (.frz od (.dK (vH l.heads)))) (upd (upd (upd H' T (.tup [kV r.1, kV r.2])) t (.tup [kV r.1, b])) LH (.lst (acc ++ [.ref t]))) ∧ ∃ ts' : List Addr, upd (upd (upd H' T (.tup [kV r.1, kV r.2])) t (.tup [kV r.1, b])) LH (.lst (acc ++ [.ref t])) LH = some (.lst (ts'.map V.ref)) ∧
            Paired (fun t' (p : Key × Key) => upd (upd (upd H' T (.tup [kV r.1, kV r.2])) t (.tup [kV r.1, b])) LH (.lst (acc ++ [.ref t])) t' = some (.tup [kV p.1, kV p.2])) ts' ((l.heads.map fun p => (p.1, sub G S p.2)).take (i + 1))) := by
        rintro _ rfl
        refine ⟨sl rfl, fun t nt => ?_⟩
        have ntT : t ≠ T := fun q => by rw [q, upd_same] at nt; cases nt
        have nt' : H' t = none := by rw [upd_ne ntT] at nt; exact nt
        obtain ⟨z1, z2, z3, z4⟩ := fin t _ nt' rfl ntT
        exact ⟨_, z1, z2, z3, z4⟩
      refine ⟨_, rfl, _, rfl, _, rfl, scal_key _ _, _, rfl, ?_⟩
      rw [dec_key]
      by_cases k : r.2 = G
      · rw [decide_eq_true k]
        exact iteT ⟨_, rfl, tail _ (by unfold sub; rw [if_pos k])⟩
      · rw [decide_eq_false k]
        exact iteF ⟨_, rfl, tail _ (by unfold sub; rw [if_neg k])⟩
    · rintro H' ⟨e2, ts, hL, hT⟩
      have hd : H' d1 = some (.frz od (.dK (vH l.heads))) := e2 _ _ (ne_of_none upd_same nLH) upd_same
      have nLd : LH ≠ d1 := ne_of hL hd (fun z => nomatch z)
      refine ⟨hd, LH, ts, rfl, fun b o hb => ?_, by rw [upd_ne nLd]; exact hL, ?_⟩
      · by_cases k : b = d1
        · rw [k] at hb ⊢
          rw [h1] at hb
          rw [upd_same]
          exact hb
        · rw [upd_ne k]
          have hb' := same_frz (od := od) (u := .dK (vH l.heads)) hb k
          exact e2 _ _ (ne_of_none hb' nLH) hb'
      · rw [List.take_of_length_le (by unfold vH; rw [List.length_map, List.length_map]; exact Nat.le_refl _)] at hT
        exact Paired.mapP hT fun a b hab => by rw [upd_ne (ne_of hab hd (fun z => nomatch z))]; exact hab
  rintro _ H2 ⟨LH, ths, rfl, s2, hLH, hTH⟩
  have hp := s2 _ _ hp
  have h1 := s2 _ _ h1
  have h2 := s2 _ _ h2
  have hR : Rows g2 H2 LH (l.heads.map fun p => (p.1, sub G S p.2)) := ⟨ths, hLH, hTH⟩
  refine ⟨sl rfl, fun LP nLP => ?_⟩
  have hp3 := old (u := .lst []) hp nLP
  have h23 := old (u := .lst []) h2 nLP
  have hR3 := hR.same (Same.new (u := .lst []) nLP)
  have hLP3 : upd H2 LP (.lst []) LP = some (.lst []) := upd_same
  have s3 : Same H2 (upd H2 LP (.lst [])) := Same.new nLP
  have nHP : LH ≠ LP := ne_of_none hLH nLP
  generalize upd H2 LP (.lst []) = H3 at hp3 h23 hR3 hLP3 s3 ⊢
  refine ⟨fun σ' H4 => ∃ v9 v10 v11, σ' = [some (.ref p), some (kV x), some (kV y), some (kV (term l x)), some (kV (term l y)), some (kV S), some (kV G), some (.ref LH), some (.ref LP), v9, v10, v11, none, none] ∧ Kept LP H3 H4 ∧ Rows g2 H4 LP (prs G S l.pairs), ?_, ?_⟩
  · have nd2p : d2 ≠ p := ne_of h23 hp3 (fun z => nomatch z)
    have nd2L : LP ≠ d2 := ne_of hLP3 h23 (fun z => nomatch z)
    refine ⟨d2, _, h23, trivial, fun od => ⟨_, rfl, p, CL K, dx, _, _, rfl, same_frz hp3 (Ne.symm nd2p), W.cl_Likeness, W.no_Likeness_unlike_pairs, fl2 d1 d2, d2, od, rfl, .inr ⟨_, upd_same, ?_⟩⟩⟩
    refine for_it walk_keysT (fun i σ' H' => ∃ v9 v10 v11, σ' = [some (.ref p), some (kV x), some (kV y), some (kV (term l x)), some (kV (term l y)), some (kV S), some (kV G), some (.ref LH), some (.ref LP), v9, v10, v11, none, none] ∧ Kept LP (upd H3 d2 (.frz od (.dT (vP l.pairs)))) H' ∧ Rows g2 H' LP (prs G S (l.pairs.take i)))
      ⟨none, none, none, rfl, Kept.rfl, .nil (same_frz hLP3 nd2L)⟩ (fun i σ' H' _ z => let ⟨_, _, _, _, k, _⟩ := z; k _ _ (Ne.symm nd2L) upd_same) ?_ ?_
    · rintro i y' _ H' H'' hi ⟨v9, v10, v11, rfl, k4, r4⟩ ⟨rfl, ks, v, qa, hk, rfl, hq⟩
      obtain ⟨r, hr1⟩ : ∃ r, l.pairs[i]? = some r := ⟨_, List.getElem?_eq_getElem (by unfold vP at hi; rw [List.length_map] at hi; exact hi)⟩
      have er : (vP l.pairs)[i]? = some ([r.1, r.2], .bl true) := by unfold vP; rw [List.getElem?_map, hr1]; rfl
      rw [er] at hk
      obtain ⟨rfl, rfl⟩ : ([r.1, r.2] : List Key) = ks ∧ V.bl true = v := by
        have := Option.some.inj hk
        exact ⟨congrArg Prod.fst this, congrArg Prod.snd this⟩
      refine ⟨_, rfl, qa, rfl, ⟨_, .of hq⟩, fun D nD => ?_⟩
      obtain ⟨acc, hacc, hlen⟩ := r4.lst
      refine lc_it (walk_tup (xs := [kV r.1, kV r.2])) (fun j H5 => Kept D H'' H5 ∧ H5 D = some (.lst (([r.1, r.2].take j).map fun k => kV (sub G S k)))) ⟨Kept.new nD, upd_same⟩ (fun j H5 _ z => .of (z.1 _ _ (ne_of_none hq nD) hq)) ?_ ?_
      · rintro j z H5 H6 hj ⟨k5, hD⟩ ⟨rfl, hz⟩
        obtain ⟨kk, hkk, rfl⟩ : ∃ kk, [r.1, r.2][j]? = some kk ∧ z = kV kk := by
          match j, hj with
          | 0, _ => exact ⟨r.1, rfl, (Option.some.inj hz).symm⟩
          | 1, _ => exact ⟨r.2, rfl, (Option.some.inj hz).symm⟩
        have tail : ∀ b, b = kV (sub G S kk) → ∃ acc, H6 D = some (.lst acc) ∧ acc.length < sizeLine ∧ (Kept D H'' (upd H6 D (.lst (acc ++ [b]))) ∧ upd H6 D (.lst (acc ++ [b])) D = some (.lst (([r.1, r.2].take (j + 1)).map fun k => kV (sub G S k)))) := by
          rintro _ rfl
          refine ⟨_, hD, ?_, k5.set', ?_⟩
          · rw [List.length_map, List.length_take]
            exact Nat.lt_of_le_of_lt (Nat.min_le_right _ _) (show 2 < sizeLine by decide)
          · rw [upd_same, take_one hkk, List.map_append]
            rfl
        refine ⟨rfl, _, rfl, _, rfl, scal_key _ _, _, rfl, ?_⟩
        rw [dec_key]
        by_cases k : kk = G
        · rw [decide_eq_true k]
          exact iteT ⟨_, rfl, tail _ (by unfold sub; rw [if_pos k])⟩
        · rw [decide_eq_false k]
          exact iteF ⟨_, rfl, tail _ (by unfold sub; rw [if_neg k])⟩
      · rintro H5 ⟨k5, hD⟩
        have s5 : Same H'' H5 := k5.fresh nD
        refine ⟨D, [kV (sub G S r.1), kV (sub G S r.2)], rfl, .of hD, rfl, _, _, rfl, _, _, rfl, rfl, _, rfl, _, rfl, _, _, rfl, _, rfl, ?_⟩
        have kk5 : Kept LP (upd H3 d2 (.frz od (.dT (vP l.pairs)))) H5 := k4.trans (.of s5)
        have ptake : ∀ b, areN (sub G S r.1) (sub G S r.2) = b → prs G S (l.pairs.take (i + 1)) = prs G S (l.pairs.take i) ++ (if b = true then [] else [pairOf (sub G S r.1) (sub G S r.2)]) := by
          rintro _ rfl
          rw [take_one hr1]
          unfold prs
          rw [List.filter_append, List.map_append]
          cases hh : areN (sub G S r.1) (sub G S r.2) with
          | true => simp [hh]
          | false => simp [hh]
        cases ha : areN (sub G S r.1) (sub G S r.2) with
        | true =>
          refine iteF ⟨_, _, _, rfl, kk5, ?_⟩
          rw [ptake true ha, if_pos rfl, List.append_nil]
          exact r4.same s5
        | false =>
          refine iteT ⟨_, rfl, .inl ⟨rfl, _, .of (s5 _ _ hacc)⟩, _, rfl, _, rfl, _, _, rfl, fun t nt => ⟨LP, acc, _, rfl, rfl, old (s5 _ _ hacc) nt, ?_, ?_⟩⟩
          · rw [hlen]
            have h9 : (prs G S (l.pairs.take i)).length ≤ l.pairs.length := by
              unfold prs
              rw [List.length_map]
              refine Nat.le_trans (List.length_filter_le _ _) ?_
              rw [List.length_take]; omega
            exact Nat.lt_of_le_of_lt h9 (Nat.lt_of_lt_of_le szl.2 (by decide))
          · refine ⟨_, _, _, rfl, (kk5.new' nt).set', ?_⟩
            rw [ptake false ha, if_neg Bool.false_ne_true]
            exact ((r4.same s5).same (Same.new nt)).push (old (s5 _ _ hacc) nt) upd_same
    · rintro _ H' ⟨v9, v10, v11, rfl, k4, r4⟩
      have hd : H' d2 = some (.frz od (.dT (vP l.pairs))) := k4 _ _ (Ne.symm nd2L) upd_same
      have lv : (vP l.pairs).length = l.pairs.length := by unfold vP; rw [List.length_map]
      rw [lv, List.take_length] at r4
      refine ⟨hd, v9, v10, v11, rfl, k4.unlock h23, ?_⟩
      obtain ⟨ts, a, b⟩ := r4
      exact ⟨ts, by rw [upd_ne nd2L]; exact a, Paired.mapP b fun c _ z => by rw [upd_ne (ne_of z hd (fun q => nomatch q))]; exact z⟩
  rintro _ H4 ⟨v9, v10, v11, rfl, k4, r4⟩
  have hR4 := hR3.kept k4 nHP (fun xs z => by rw [hLP3] at z; cases z)
  have s24 : Same H2 H4 := fun b o hb => k4 b o (ne_of_none hb nLP) (s3 _ _ hb)
  have s4 : Same H H4 := s1.trans (s2.trans s24)
  obtain ⟨ts, ha, hb⟩ := hR4
  refine ⟨_, rfl, _, rfl, _, rfl, sl rfl, fun t nt => ⟨sl rfl, fun l1 nl1 => ⟨LH, l1, _, _, rfl, rfl, old (old ha nt) nl1, upd_same, ?_, fun l2 nl2 => ⟨_, rfl, fun z dz nz ndz nez => ?_⟩⟩⟩⟩
  · rw [List.length_map, Paired.length hb, List.length_map]
    exact Nat.le_trans (Nat.add_le_add_right (Nat.le_of_lt szl.1) _) (show 100000 + 1 ≤ sizeLine by decide)
  have s7 : Same H4 (upd (upd (upd (upd (upd H4 t (.tup [kV G, kV S])) l1 (.lst [.ref t])) l2 (.lst (ts.map V.ref ++ [.ref t]))) dz (.own z)) z (.ins (CL K) dz [])) :=
    Same.new' (Same.new' (Same.new' (Same.new' (Same.new nt) nl1) nl2) ndz) (by rw [upd_ne (Ne.symm nez)]; exact nz)
  have hl2 : (upd (upd (upd (upd (upd H4 t (.tup [kV G, kV S])) l1 (.lst [.ref t])) l2 (.lst (ts.map V.ref ++ [.ref t]))) dz (.own z)) z (.ins (CL K) dz [])) l2 = some (.lst ((ts ++ [t]).map V.ref)) := by
    rw [upd_ne (fun q => by rw [← q, upd_same] at nz; cases nz), upd_ne (fun q => by rw [← q, upd_same] at ndz; cases ndz), upd_same, List.map_append]
    rfl
  have ht : (upd (upd (upd (upd (upd H4 t (.tup [kV G, kV S])) l1 (.lst [.ref t])) l2 (.lst (ts.map V.ref ++ [.ref t]))) dz (.own z)) z (.ins (CL K) dz [])) t = some (.tup [kV G, kV S]) := by
    refine old (old (old (old upd_same nl1) nl2) ndz) ?_
    rw [upd_ne (Ne.symm nez)]
    exact nz
  obtain ⟨tp, hp1, hp2⟩ := r4.same s7
  refine ⟨z, dz, _, _, l.heads.map (fun p => (p.1, sub G S p.2)) ++ [(G, S)], prs G S l.pairs, rfl, upd_same, .inr (.inl ⟨l2, _, rfl, hl2, Paired.snoc (Paired.mapP hb fun _ _ q => s7 _ _ q) ht, ?_⟩), .inr ⟨LP, tp, rfl, hp1, hp2, ?_⟩, fun H' k' la => ⟨rfl, q' z H' (fun b o hb => ?_) la⟩⟩
  · have := (merge_wf o2).nd
    exact this
  · unfold prs
    rw [List.length_map]
    exact Nat.lt_of_le_of_lt (List.length_filter_le _ _) (Nat.lt_of_lt_of_le szl.2 (by decide))
  · have h4 := s4 _ _ hb
    refine k' b o ?_ (s7 _ _ h4)
    have nz4 : H4 z = none := by
      exact Same.free (Same.new' (Same.new' (Same.new nt) nl1) nl2) nz
    exact ne_of_none h4 nz4
theorem m_Likeness_like (W : Wd K mg) : Met P w K mg base (L2.CX P w) 3 (CL K) "like" (sp_hear K true) [] := by
  obtain ⟨fd, F⟩ := W.f_Likeness_like
  exact metD F W.cl_Likeness W.m_Likeness_like sc_Likeness_like (fun _ _ _ _ _ _ us hl => match us, hl with | [_, _, _], _ => rfl) (o_Likeness_like W F)
end
end K14
set_option Elab.async false
set_option linter.all false
set_option maxRecDepth 100000
set_option maxHeartbeats 4000000
namespace K14
open PySem PySem.Spec L2 Sx Lk
def RLike (C : Addr) (a b : Addr) (H : Hp) : Prop := ∃ l, WF l ∧ LikeAt C H a l ∧ LikeAt C H b l
theorem isKeys_vP {H : Hp} : ∀ {ps : List (Key × Key)} {bs : List Addr}, IsKeys H (vP ps) bs → Paired (fun t (p : Key × Key) => H t = some (.tup (g2 p))) bs ps
  | [], _, .nil => .nil
  | p :: ps, _, .cons h t => .cons h (isKeys_vP (ps := ps) t)
section
variable {P : Program} {w : World} {K : PySem.W.Frag} {mg : Str → Option Value} {base : Heap}
theorem o_Likeness_unlike (W : Wd K mg) {f : Addr} {fd : FuncData} (F : FunD K "unlike" "Likeness.unlike" (defArgs s_Likeness_unlike) (defBody s_Likeness_unlike) (defScope s_Likeness_unlike) [] [] f fd) : FnOk P w K mg base (L2.CX P w) 3 f fd ["self", "one", "other"] (sp_hear K false) := by
  refine F.ok sc_Likeness_unlike ?_ fun cdv A outer s H vs Q E hr h => ?_
  · rintro _ _ _ _ ⟨p, x, y, l, rfl, _⟩; rfl
  obtain ⟨p, x, y, l, rfl, hl, wf, hz, q, qn⟩ := h
  obtain ⟨dx, d1, d2, hp, h1, h2⟩ := id hl
  have hu := hu_of hr
  have nd := sc_Likeness_unlike.nd
  refine ⟨_, (pss_cons (ps_set (i := 3) nd rfl (Or.inl rfl) (pe_m (m_Likeness_term W) hr (by decide) pass0 (pv 0) (pa_cons (pv 1) pa_nil))) (pss_cons (ps_set (i := 4) nd rfl (Or.inl rfl) (pe_m (m_Likeness_term W) hr (by decide) pass0 (pv 0) (pa_cons (pv 2) pa_nil))) (pss_cons (ps_if (pt_cmpR op_eq (pv 3) (pv 4) (nomark _)) (pss_one (ps_raise rfl (takes_of rfl rfl rfl rfl) (mkExc0 PySem.F.excBase_Exception W.xApart W.g_Apart W.kApart W.rApart rfl))) pss_nil) (pss_cons (ps_if (pt_val (pe_m (m_Likeness_are_parted W) hr (by decide) pass0 (pv 0) (pa_cons (pv 3) (pa_cons (pv 4) pa_nil)))) (pss_one (ps_ret (pv 0))) pss_nil) (pss_one (ps_ret (pe_k (k2_Likeness W) hr (by decide) pass0 rfl (pa_cons (pe_fld (pv 0) rfl) (pa_cons (pe_op op_cat (pe_callTy (call_list_dT rfl) rfl W.list_ (by decide +kernel) (pa_cons (pe_fld (pv 0) rfl) pa_nil)) (pe_lst (pa_cons (pe_f (c_pair_of W) hr (by decide) pass0 rfl (pa_cons (pv 3) (pa_cons (pv 4) pa_nil))) pa_nil))) pa_nil))))))))), ?_⟩
  have n1 := fl0 d1 d2 (m := "term") (by decide +kernel) (by decide +kernel)
  have n2 := fl0 d1 d2 (m := "are_parted") (by decide +kernel) (by decide +kernel)
  refine ⟨_, rfl, p, dx, _, rfl, hp, n1, _, rfl, p, x, l, rfl, hl, ?_⟩
  refine ⟨_, rfl, p, dx, _, rfl, hp, n1, _, rfl, p, y, l, rfl, hl, ?_⟩
  refine ⟨_, rfl, _, rfl, scal_key _ _, _, rfl, ?_⟩
  rw [dec_key]
  unfold hear unlike at q qn
  rw [if_neg Bool.false_ne_true] at qn
  by_cases e : term l x = term l y
  · rw [decide_eq_true e]
    rw [if_pos e] at qn
    exact iteT (qn rfl H (Same.refl H))
  rw [decide_eq_false e]
  rw [if_neg e] at qn
  refine iteF ⟨_, rfl, p, dx, _, rfl, hp, n2, _, rfl, _, rfl, p, _, _, l, rfl, hl, fun H1 s1 => ⟨_, rfl, ?_⟩⟩
  have hl1 := hl.same s1
  have hp := s1 _ _ hp
  have h1 := s1 _ _ h1
  have h2 := s1 _ _ h2
  cases c : parted l (term l x) (term l y) with
  | true =>
    refine iteT ⟨_, rfl, q l ?_ p H1 s1 hl1⟩
    rw [if_neg Bool.false_ne_true, if_neg e, c, if_pos rfl]
  | false =>
  refine iteF ?_
  have q' := q ⟨l.heads, dedup (l.pairs ++ [pairOf (term l x) (term l y)])⟩ (by rw [if_neg Bool.false_ne_true, if_neg e, c]; rfl)
  clear q qn
  have szl : l.heads.length < 100000 ∧ l.pairs.length < 100000 := by unfold sz at hz; omega
  refine ⟨_, rfl, p, CL K, dx, _, _, rfl, hp, W.cl_Likeness, W.no_Likeness_heads_known, fl1 d1 d2, ?_⟩
  refine ⟨_, rfl, p, CL K, dx, _, _, rfl, hp, W.cl_Likeness, W.no_Likeness_unlike_pairs, fl2 d1 d2, d2, _, rfl, .of h2, fun l1 bs nl1 hk => ?_⟩
  have hbs := isKeys_vP hk
  refine ⟨_, rfl, _, rfl, _, _, rfl, fun t nt => ⟨sl rfl, fun l2 nl2 => ⟨l1, l2, _, _, rfl, rfl, old (old upd_same nt) nl2, upd_same, ?_, fun l3 nl3 => fun z dz nz ndz nez => ?_⟩⟩⟩
  · rw [List.length_map, Paired.length hbs]
    exact Nat.le_trans (Nat.add_le_add_right (Nat.le_of_lt szl.2) _) (show 100000 + 1 ≤ sizeLine by decide)
  generalize hpo : pairOf (term l x) (term l y) = po at nt nl2 nl3 ndz nz q' ⊢
  have a1 : Same H1 (upd H1 l1 (.lst (bs.map V.ref))) := Same.new nl1
  have a2 : Same H1 (upd (upd H1 l1 (.lst (bs.map V.ref))) t (.tup [kV po.1, kV po.2])) := Same.new' a1 nt
  have a3 := Same.new' (u := .lst [.ref t]) a2 nl2
  have a4 := Same.new' (u := .lst (bs.map V.ref ++ [.ref t])) a3 nl3
  have nz4 := Same.free a4 nz
  have nz' : upd (upd (upd (upd (upd H1 l1 (.lst (bs.map V.ref))) t (.tup [kV po.1, kV po.2])) l2 (.lst [.ref t])) l3 (.lst (bs.map V.ref ++ [.ref t]))) dz (.own z) z = none := by rw [upd_ne (Ne.symm nez)]; exact nz
  have a6 := Same.new' (u := .ins (CL K) dz []) (Same.new' (u := .own z) a4 ndz) nz'
  have ht := old (u := .ins (CL K) dz []) (old (u := .own z) (old (u := .lst (bs.map V.ref ++ [.ref t])) (old (u := .lst [.ref t]) (upd_same (H := upd H1 l1 (.lst (bs.map V.ref))) (a := t) (o := .tup [kV po.1, kV po.2])) nl2) nl3) ndz) nz'
  have hl3 := old (u := .ins (CL K) dz []) (old (u := .own z) (upd_same (H := upd (upd (upd H1 l1 (.lst (bs.map V.ref))) t (.tup [kV po.1, kV po.2])) l2 (.lst [.ref t])) (a := l3) (o := .lst (bs.map V.ref ++ [.ref t]))) ndz) nz'
  refine ⟨z, dz, _, _, l.heads, l.pairs ++ [po], rfl, upd_same, .inr (.inr ⟨d1, rfl, a6 _ _ h1⟩), .inr ⟨l3, bs ++ [t], rfl, ?_, Paired.snoc (Paired.mapP hbs fun _ _ q => a6 _ _ q) ht, ?_⟩, fun H' k' la => ⟨rfl, q' z H' (fun b o hb => ?_) la⟩⟩
  · rw [List.map_append]
    exact hl3
  · rw [List.length_append]
    exact Nat.lt_of_lt_of_le (Nat.add_lt_add_right szl.2 _) (show 100000 + 1 ≤ 1000000 by decide)
  · exact k' b o (ne_of_none (s1 _ _ hb) nz4) (a6 _ _ (s1 _ _ hb))
theorem m_Likeness_unlike (W : Wd K mg) : Met P w K mg base (L2.CX P w) 3 (CL K) "unlike" (sp_hear K false) [] := by
  obtain ⟨fd, F⟩ := W.f_Likeness_unlike
  exact metD F W.cl_Likeness W.m_Likeness_unlike sc_Likeness_unlike (fun _ _ _ _ _ _ us hl => match us, hl with | [_, _, _], _ => rfl) (o_Likeness_unlike W F)
theorem o_eq (W : Wd K mg) {f : Addr} {fd : FuncData} {dvs : List V} (F : FunD K "__eq__" "Likeness.__eq__" (defArgs s_Likeness___eq__) (defBody s_Likeness___eq__) (defScope s_Likeness___eq__) dvs [] f fd) :
    FnOk P w K mg base CX0 1 f fd ["self", "other"] (spEq (RLike (CL K))) := by
  refine okD F sc_Likeness___eq__ ?_ fun cdv A outer s H vs Q E hr h => ?_
  · rintro _ _ _ _ ⟨a, b, rfl, _⟩; rfl
  obtain ⟨a, b, rfl, ⟨l, wf, ⟨ax, a1, a2, ha, ha1, ha2⟩, ⟨bx, b1, b2, hb, hb1, hb2⟩⟩, q⟩ := h
  have hu := hu_of hr
  have I := W.all.ins
  have nd := sc_Likeness___eq__.nd
  refine ⟨_, (pss_cons (ps_if (pt_not (pt_val (pe_callB call_isi rfl W.isinstance (by decide +kernel) (pa_cons (pv 1) (pa_cons (pe_glob (v := .ref (CL K)) rfl W.g_Likeness rfl) pa_nil))))) (pss_one (ps_ret pe_bl)) pss_nil) (pss_one (ps_ret (pe_and (pe_cmpR (op_eq_dictA (Nat.lt_of_succ_lt hu)) (pe_fld (pv 0) rfl) (pe_fld (pv 1) rfl) (nomark _)) (pe_one (pe_cmpR (op_eqT hu) (pe_fld (pv 0) rfl) (pe_fld (pv 1) rfl) (nomark _))))))), ?_⟩
  refine ⟨_, rfl, _, _, _, _, _, rfl, .own _, .base (.ins hb W.cl_Likeness I.ha I.hn I.ht I.hm), W.all.kL, _, rfl, iteF ?_⟩
  refine ⟨_, rfl, a, CL K, ax, _, _, rfl, ha, W.cl_Likeness, W.no_Likeness_heads_known, fl1 a1 a2, ?_⟩
  refine ⟨_, rfl, b, CL K, bx, _, _, rfl, hb, W.cl_Likeness, W.no_Likeness_heads_known, fl1 b1 b2, a1, b1, _, _, rfl, rfl, ha1, hb1, rfl, ?_, _, rfl, iteT ?_⟩
  · intro p hp
    obtain ⟨r, hr, rfl⟩ := List.mem_map.mp hp
    refine ⟨?_, ?_⟩
    · rw [valV_map]
      have t := term_of_mem wf (k := r.1) (v := r.2) hr
      unfold term at t
      cases e : (l.heads.find? fun p => decide (p.1 = r.1)).map (·.2) with
      | none =>
        rw [Option.map_eq_none_iff, List.find?_eq_none] at e
        have := e r hr
        simp at this
      | some z =>
        rw [e] at t
        have t' : z = r.2 := t
        rw [t']
        rfl
    · show flatB (kV r.2) = true
      cases r.2 <;> rfl
  · refine ⟨_, rfl, a, CL K, ax, _, _, rfl, ha, W.cl_Likeness, W.no_Likeness_unlike_pairs, fl2 a1 a2, ?_⟩
    refine ⟨_, rfl, b, CL K, bx, _, _, rfl, hb, W.cl_Likeness, W.no_Likeness_unlike_pairs, fl2 b1 b2, a2, b2, _, _, rfl, rfl, ha2, hb2, rfl, ?_, q H Ext.rfl'⟩
    intro p hp
    obtain ⟨r, hr, rfl⟩ := List.mem_map.mp hp
    exact ⟨rfl, hp⟩
end
end K14
set_option Elab.async false
set_option linter.all false
set_option maxRecDepth 100000
set_option maxHeartbeats 4000000
namespace K14
open PySem PySem.Spec L2 Sx Lk
/-- an expression that is never reached -/
theorem pe_never {X : Cx} {e : Expr} : PE X e (fun _ _ _ => False) := ⟨fun _ _ _ _ _ _ h => h.elim⟩
/-! ### _law_same of None, True, False -/
def small : V → Bool
  | .non => true
  | .bl _ => true
  | _ => false
def tS : V → Value
  | .non => .type "NoneType"
  | _ => .type "bool"
theorem tyS {K : PySem.W.Frag} {H : Hp} {x : V} (h : small x = true) : TyX K H x (tS x) := by
  cases x with
  | non => exact .base .non
  | bl b => exact .base (.bl b)
  | _ => cases h
theorem kS {K : PySem.W.Frag} {x : V} (h : small x = true) {t : String} {b : Bool} (h1 : x = .non → kitB "NoneType" t = some b) (h2 : (∃ c, x = .bl c) → kitB "bool" t = some b) : PySem.W.kitOne K (tS x) (.type t) = some b := by
  cases x with
  | non => exact kit_ty (h1 rfl)
  | bl c => exact kit_ty (h2 ⟨c, rfl⟩)
  | _ => cases h
def sp_same0 : Sp := fun vs H Q _ => ∃ x y : V, vs = [x, y] ∧ small x = true ∧ small y = true ∧ Q (.bl (decide (x = y))) H
section
variable {P : Program} {w : World} {K : PySem.W.Frag} {mg : Str → Option Value} {base : Heap}
theorem c_same0 (W : Wd K mg) : Cal P w K mg base CX0 1 "_law_same" sp_same0 [] := by
  obtain ⟨fd, F⟩ := W.f__law_same
  refine calD F W.g__law_same sc__law_same (fun _ _ _ _ _ _ us hl => match us, hl with | [_, _], _ => rfl) (okD F sc__law_same ?_ fun cdv A outer s H vs Q E hr h => ?_)
  · rintro _ _ _ _ ⟨a, b, rfl, _⟩; rfl
  obtain ⟨x, y, rfl, hx, hy, q⟩ := h
  have n {z : V} (hz : small z = true) {t : String} (h1 : kitB "NoneType" t = some false) (h2 : kitB "bool" t = some false) : PySem.W.kitOne K (tS z) (.type t) = some false := kS hz (fun _ => h1) fun _ => h2
  have nd := sc__law_same.nd
  refine ⟨_, (pss_cons (ps_if (PW.pt (pw_or (pt_val (pe_callB call_isi rfl W.isinstance (by decide +kernel) (pa_cons (pv 1) (pa_cons (pe_bltn (v := .ty "tuple") rfl W.tuple (by decide +kernel) rfl) pa_nil)))) (pw_or1 (pt_val (pe_callB call_isi rfl W.isinstance (by decide +kernel) (pa_cons (pv 1) (pa_cons (pe_bltn (v := .ty "list") rfl W.list_ (by decide +kernel) rfl) pa_nil))))))) pss_never pss_nil) (pss_cons (ps_if (PW.pt (pw_or (pt_val (pe_callB call_isi rfl W.isinstance (by decide +kernel) (pa_cons (pv 1) (pa_cons (pe_bltn (v := .ty "bool") rfl W.bool (by decide +kernel) rfl) pa_nil)))) (pw_or1 (pt_val (pe_callB call_isi rfl W.isinstance (by decide +kernel) (pa_cons (pv 0) (pa_cons (pe_bltn (v := .ty "bool") rfl W.bool (by decide +kernel) rfl) pa_nil))))))) (pss_one (ps_ret (pe_and (pe_callB call_isi rfl W.isinstance (by decide +kernel) (pa_cons (pv 1) (pa_cons (pe_bltn (v := .ty "bool") rfl W.bool (by decide +kernel) rfl) pa_nil))) (pe_and (pe_callB call_isi rfl W.isinstance (by decide +kernel) (pa_cons (pv 0) (pa_cons (pe_bltn (v := .ty "bool") rfl W.bool (by decide +kernel) rfl) pa_nil))) (pe_one (pe_cmpR op_eq (pv 0) (pv 1) (nomark _))))))) pss_nil) (pss_cons (ps_if (pt_val (pe_callB call_isi rfl W.isinstance (by decide +kernel) (pa_cons (pv 1) (pa_cons (pe_bltn (v := .ty "str") rfl W.str (by decide +kernel) rfl) pa_nil)))) pss_never pss_nil) (pss_cons (ps_if (PW.pt (pw_or (pt_cmp (pc_isN (pv 1))) (pw_or1 (pt_val (pe_callB call_isi rfl W.isinstance (by decide +kernel) (pa_cons (pv 1) (pa_cons (pe_bltn (v := .ty "dict") rfl W.dict_ (by decide +kernel) rfl) pa_nil))))))) (pss_one (ps_ret (pe_ifExp (pt_cmp (pc_isN (pv 1))) (pe_cmp (pc_isN (pv 0)) rfl) pe_never))) pss_nil) (pss_one ps_never))))), ?_⟩
  refine ⟨_, rfl, _, _, _, _, _, rfl, .ty _, tyS hy, n hy (by decide +kernel) (by decide +kernel), _, rfl, iteF ?_⟩
  refine ⟨_, rfl, _, _, _, _, _, rfl, .ty _, tyS hy, n hy (by decide +kernel) (by decide +kernel), _, rfl, iteF ?_⟩
  cases y with
  | bl b =>
    refine ⟨_, rfl, _, _, _, _, _, rfl, .ty _, tyS hy, kit_ty (a := "bool") (b := "bool") (r := true) (by decide +kernel), _, rfl, iteT (iteT ?_)⟩
    refine ⟨_, rfl, _, _, _, _, _, rfl, .ty _, tyS hy, kit_ty (a := "bool") (b := "bool") (r := true) (by decide +kernel), _, rfl, iteT ?_⟩
    cases x with
    | bl c =>
      refine ⟨_, rfl, _, _, _, _, _, rfl, .ty _, tyS hx, kit_ty (a := "bool") (b := "bool") (r := true) (by decide +kernel), _, rfl, iteT ?_⟩
      exact ⟨_, rfl, _, rfl, rfl, q⟩
    | non =>
      exact ⟨_, rfl, _, _, _, _, _, rfl, .ty _, tyS hx, kit_ty (a := "NoneType") (b := "bool") (r := false) (by decide +kernel), _, rfl, iteF q⟩
    | _ => cases hx
  | non =>
    refine ⟨_, rfl, _, _, _, _, _, rfl, .ty _, tyS hy, kit_ty (a := "NoneType") (b := "bool") (r := false) (by decide +kernel), _, rfl, iteF ?_⟩
    cases x with
    | bl c =>
      refine ⟨_, rfl, _, _, _, _, _, rfl, .ty _, tyS hx, kit_ty (a := "bool") (b := "bool") (r := true) (by decide +kernel), _, rfl, iteT ?_⟩
      exact ⟨_, rfl, _, _, _, _, _, rfl, .ty _, tyS hy, kit_ty (a := "NoneType") (b := "bool") (r := false) (by decide +kernel), _, rfl, iteF q⟩
    | non =>
      refine ⟨_, rfl, _, _, _, _, _, rfl, .ty _, tyS hx, kit_ty (a := "NoneType") (b := "bool") (r := false) (by decide +kernel), _, rfl, iteF ?_⟩
      refine ⟨_, rfl, _, _, _, _, _, rfl, .ty _, tyS hy, kit_ty (a := "NoneType") (b := "str") (r := false) (by decide +kernel), _, rfl, iteF ?_⟩
      exact ⟨_, rfl, _, rfl, iteT (iteT ⟨_, rfl, _, rfl, iteT ⟨_, rfl, q⟩⟩)⟩
    | _ => cases hx
  | _ => cases hy
end
end K14
set_option Elab.async false
set_option linter.all false
set_option maxRecDepth 100000
set_option maxHeartbeats 4000000
namespace K14
open PySem PySem.Spec L2 Sx Lk
/-! ### draws -/
def Deck (H : Hp) (a : Addr) (n : Nat) : Prop := ∃ c m k : Int, H a = some (.lst [.int c, .int m, .int k]) ∧ 0 ≤ k ∧ k ≤ n
theorem Deck.mono {H : Hp} {a : Addr} {n m : Nat} (h : Deck H a n) (l : n ≤ m) : Deck H a m := by
  obtain ⟨c, q, k, e, h1, h2⟩ := h
  exact ⟨c, q, k, e, h1, by omega⟩
theorem Deck.keep {H H' : Hp} {a : Addr} {n : Nat} (h : Deck H a n) (s : Same H H') : Deck H' a n := by
  obtain ⟨c, q, k, e, h1, h2⟩ := h
  exact ⟨c, q, k, s _ _ e, h1, h2⟩
theorem Deck.kept {H H' : Hp} {a b : Addr} {n : Nat} (h : Deck H a n) (s : Kept b H H') (ne : a ≠ b) : Deck H' a n := by
  obtain ⟨c, q, k, e, h1, h2⟩ := h
  exact ⟨c, q, k, s _ _ ne e, h1, h2⟩
def sp_cell (K : PySem.W.Frag) : Sp := fun vs H Q _ => ∃ (a : Addr) (ns : List Int) (k : Int), vs = [.ref a, .int k] ∧ SqL K H a (ns.map V.int) ∧ 0 ≤ k ∧ k ≤ 1000 ∧ ∀ z, Q (.int z) H
def sp_deck : Sp := fun vs H Q _ => ∃ c : Int, vs = [.int c] ∧ ∀ p H', H p = none → Same H H' → Deck H' p 0 → Q (.ref p) H'
def sp_draw : Sp := fun vs H Q _ => ∃ (a : Addr) (n : Nat) (m : Int), vs = [.ref a, .int m] ∧ Deck H a n ∧ n < 1000000 ∧ 0 < m ∧ m < 1000000 ∧ ∀ (r : Int) H', 0 ≤ r → r < m → Kept a H H' → Deck H' a (n + 1) → Q (.int r) H'
def sp_pick (K : PySem.W.Frag) : Sp := fun vs H Q _ => ∃ (a b : Addr) (n : Nat) (xs : List V), vs = [.ref a, .ref b] ∧ Deck H a n ∧ n < 1000000 ∧ a ≠ b ∧ SqL K H b xs ∧ xs ≠ [] ∧ xs.length < 100000 ∧
  ∀ x H', x ∈ xs → Kept a H H' → Deck H' a (n + 1) → Q x H'
theorem sqL_kept {K : PySem.W.Frag} {H H' : Hp} {a b : Addr} {xs : List V} (h : SqL K H b xs) (s : Kept a H H') (ne : b ≠ a) : SqL K H' b xs := by
  rcases h with (h | ⟨o, h⟩) | h
  · exact .inl (.inl (s _ _ ne h))
  · exact .inl (.inr ⟨o, s _ _ ne h⟩)
  · exact .inr h
theorem atI_int {α : Type} {xs : List α} {j : Int} {v : α} (h0 : 0 ≤ j) (h : xs[j.toNat]? = some v) : atI xs j = some v := by
  have e := atI_nat h
  rw [Int.toNat_of_nonneg h0] at e
  exact e
section
variable {P : Program} {w : World} {K : PySem.W.Frag} {mg : Str → Option Value} {base : Heap}
theorem c__law_cell_at (W : Wd K mg) : Cal P w K mg base CX0 1 "_law_cell_at" (sp_cell K) [] := by
  obtain ⟨fd, F⟩ := W.f__law_cell_at
  refine calD F W.g__law_cell_at sc__law_cell_at (fun _ _ _ _ _ _ us hl => match us, hl with | [_, _], _ => rfl) (okD F sc__law_cell_at ?_ fun cdv A outer s H vs Q E hr h => ?_)
  · rintro _ _ _ _ ⟨a, ns, k, rfl, _⟩; rfl
  obtain ⟨a, ns, k, rfl, hS, h0, h1, q⟩ := h
  have nd := sc__law_cell_at.nd
  refine ⟨_, (pss_cons (ps_if (pt_cmpR op_lt (pv 1) (pe_callB call_len_seq rfl W.len PySem.boot_len (pa_cons (pv 0) pa_nil)) (nomark _)) (pss_one (ps_ret (pe_ix ix_list (pv 0) (pv 1) (fun _ _ => rfl)))) pss_nil) (pss_one (ps_ret (pe_op op_add pe_int (pv 1))))), ?_⟩
  refine ⟨_, rfl, _, rfl, a, _, rfl, .inl hS, _, _, rfl, rfl, _, rfl, ?_⟩
  refine ite2 (fun c => ?_) fun c => ⟨_, rfl, _, _, rfl, rfl, q _⟩
  have c := of_decide_eq_true c
  rw [List.length_map] at c
  have lt : k.toNat < ns.length := by omega
  have e : atI (ns.map V.int) k = some (.int (ns[k.toNat])) := by
    refine atI_int h0 ?_
    rw [List.getElem?_map, List.getElem?_eq_getElem lt]
    rfl
  exact ⟨_, rfl, _, rfl, a, _, k, _, rfl, rfl, hS, e, q _⟩
theorem c__law_deck (W : Wd K mg) : Cal P w K mg base CX0 1 "_law_deck" sp_deck [] := by
  obtain ⟨fd, F⟩ := W.f__law_deck
  refine calD F W.g__law_deck sc__law_deck (fun _ _ _ _ _ _ us hl => match us, hl with | [_], _ => rfl) (okD F sc__law_deck ?_ fun cdv A outer s H vs Q E hr h => ?_)
  · rintro _ _ _ _ ⟨a, rfl, _⟩; rfl
  obtain ⟨c, rfl, q⟩ := h
  have nd := sc__law_deck.nd
  refine ⟨_, (pss_one (ps_ret (pe_lst (pa_cons (pe_ifExp (pt_cmpR op_ge (pv 0) (pe_op op_pow pe_int pe_int) (nomark _)) (pv 0) pe_int) (pa_cons (pe_op op_mod (pv 0) pe_int) (pa_cons pe_int pa_nil)))))), ?_⟩
  have fin : ∀ x : Int, ∀ p, H p = none → Q (.ref p) (upd H p (.lst [.int x, .int (c % 2147483629), .int 0])) := fun x p hp => q p _ hp (Same.new hp) ⟨_, _, _, upd_same, by decide, by decide⟩
  refine ⟨_, rfl, _, _, rfl, rfl, ⟨by decide, by decide, by decide⟩, _, _, rfl, rfl, _, rfl, ?_⟩
  refine ite2 (fun _ => ?_) fun _ => ?_
  · exact ⟨_, rfl, _, rfl, _, _, rfl, rfl, (show (0 : Int) < 2147483629 by decide), sl rfl, fin _⟩
  · exact ⟨_, rfl, _, _, rfl, rfl, (show (0 : Int) < 2147483629 by decide), sl rfl, fin _⟩
theorem c__law_draw (W : Wd K mg) : Cal P w K mg base CX0 1 "_law_draw" sp_draw [] := by
  obtain ⟨fd, F⟩ := W.f__law_draw
  refine calD F W.g__law_draw sc__law_draw (fun _ _ _ _ _ _ us hl => match us, hl with | [_, _], _ => rfl) (okD F sc__law_draw ?_ fun cdv A outer s H vs Q E hr h => ?_)
  · rintro _ _ _ _ ⟨a, n, m, rfl, _⟩; rfl
  obtain ⟨a, n, m, rfl, ⟨c, z, k, ha, k0, kn⟩, hn, m0, m1, q⟩ := h
  have nd := sc__law_draw.nd
  refine ⟨_, (pss_cons (ps_if (pt_cmpR op_gt (pe_ix ix_list (pv 0) pe_int (fun _ _ => rfl)) pe_int (nomark _)) (pss_cons (ps_set (i := 2) nd rfl (Or.inl rfl) (pe_op op_mod (pe_ix ix_list (pv 0) pe_int (fun _ _ => rfl)) (pv 1))) (pss_cons (ps_asg (pe_op op_fdiv (pe_ix ix_list (pv 0) pe_int (fun _ _ => rfl)) (pv 1)) (pg_sub (pv 0) pe_int set_list)) (pss_one (ps_ret (pv 2))))) pss_nil) (pss_cons (ps_asg (pe_op op_add (pe_ix ix_list (pv 0) pe_int (fun _ _ => rfl)) pe_int) (pg_sub (pv 0) pe_int set_list)) (pss_cons (ps_set (i := 3) nd rfl (Or.inl rfl) (pe_op op_mod (pe_op op_mul (pe_op op_add (pe_op op_add (pe_ix ix_list (pv 0) pe_int (fun _ _ => rfl)) (pe_op op_mul (pe_op op_mul pe_int (pe_ix ix_list (pv 0) pe_int (fun _ _ => rfl))) (pe_ix ix_list (pv 0) pe_int (fun _ _ => rfl)))) pe_int) pe_int) pe_int)) (pss_one (ps_ret (pe_op op_mod (pe_op op_fdiv (pe_op op_mod (pe_op op_mul (pv 3) (pe_op op_add (pv 3) pe_int)) pe_int) pe_int) (pv 1))))))), ?_⟩
  have at0 : ∀ x y z : V, atI [x, y, z] 0 = some x := fun _ _ _ => rfl
  have at1 : ∀ x y z : V, atI [x, y, z] 1 = some y := fun _ _ _ => rfl
  have at2 : ∀ x y z : V, atI [x, y, z] 2 = some z := fun _ _ _ => rfl
  refine ⟨_, rfl, a, _, 0, _, rfl, rfl, .of ha, at0 _ _ _, _, _, rfl, rfl, _, rfl, ?_⟩
  refine ite2 (fun _ => ?_) fun _ => ?_
  · refine ⟨_, rfl, a, _, 0, _, rfl, rfl, .of ha, at0 _ _ _, _, rfl, _, _, rfl, rfl, m0, ?_⟩
    refine ⟨_, rfl, a, _, 0, _, rfl, rfl, .of ha, at0 _ _ _, _, rfl, _, _, rfl, rfl, ⟨m0, by omega⟩, ?_⟩
    refine ⟨_, rfl, a, _, 0, 0, rfl, rfl, ha, rfl, _, rfl, ?_⟩
    exact q _ _ (Int.emod_nonneg _ (by omega)) (Int.emod_lt_of_pos _ m0) Kept.set ⟨_, _, _, upd_same, k0, by omega⟩
  · refine ⟨_, rfl, a, _, 2, _, rfl, rfl, .of ha, at2 _ _ _, _, _, rfl, rfl, ?_⟩
    refine ⟨_, rfl, a, _, 2, 2, rfl, rfl, ha, rfl, ?_⟩
    have h2 : upd H a (.lst ([V.int c, .int z, .int k].set 2 (.int (k + 1)))) a = some (.lst [.int c, .int z, .int (k + 1)]) := upd_same
    refine ⟨_, rfl, a, _, 1, _, rfl, rfl, .of h2, at1 _ _ _, ?_⟩
    refine ⟨_, rfl, a, _, 2, _, rfl, rfl, .of h2, at2 _ _ _, _, _, rfl, rfl, .inl ⟨by decide, by decide⟩, ?_⟩
    refine ⟨_, rfl, a, _, 2, _, rfl, rfl, .of h2, at2 _ _ _, _, _, rfl, rfl, .inr ⟨by omega, by omega⟩, ?_⟩
    refine ⟨_, _, rfl, rfl, _, _, rfl, rfl, _, _, rfl, rfl, .inr ⟨by decide, by decide⟩, _, _, rfl, rfl, (show (0 : Int) < 2147483647 by decide), ?_⟩
    generalize hx : (z + 7907 * (k + 1) * (k + 1) + 19) * 48271 % 2147483647 = x
    have x0 : 0 ≤ x := by rw [← hx]; exact Int.emod_nonneg _ (by decide)
    have x1 : x < 2147483647 := by rw [← hx]; exact Int.emod_lt_of_pos _ (by decide)
    refine ⟨_, rfl, _, rfl, _, _, rfl, rfl, _, _, rfl, rfl, .inl ⟨by omega, by omega⟩, _, _, rfl, rfl, (show (0 : Int) < 2147483629 by decide), _, _, rfl, rfl, ⟨by decide, by decide⟩, _, rfl, _, _, rfl, rfl, m0, ?_⟩
    exact q _ _ (Int.emod_nonneg _ (by omega)) (Int.emod_lt_of_pos _ m0) Kept.set ⟨_, _, _, h2, by omega, by omega⟩
theorem c__law_pick (W : Wd K mg) : Cal P w K mg base CX0 2 "_law_pick" (sp_pick K) [] := by
  obtain ⟨fd, F⟩ := W.f__law_pick
  refine calD F W.g__law_pick sc__law_pick (fun _ _ _ _ _ _ us hl => match us, hl with | [_, _], _ => rfl) (okD F sc__law_pick ?_ fun cdv A outer s H vs Q E hr h => ?_)
  · rintro _ _ _ _ ⟨a, b, n, xs, rfl, _⟩; rfl
  obtain ⟨a, b, n, xs, rfl, hD, hn, nab, hS, hne, hl, q⟩ := h
  have nd := sc__law_pick.nd
  refine ⟨_, (pss_one (ps_ret (pe_ix ix_list (pv 1) (pe_f (c__law_draw W) hr (by decide) pass0 rfl (pa_cons (pv 0) (pa_cons (pe_callB call_len_seq rfl W.len PySem.boot_len (pa_cons (pv 1) pa_nil)) pa_nil))) (fun _ _ => rfl)))), ?_⟩
  have pos : 0 < xs.length := List.length_pos_iff.mpr hne
  refine ⟨_, rfl, _, rfl, _, rfl, b, _, rfl, .inl hS, a, n, _, rfl, hD, hn, by omega, by omega, fun r H' r0 r1 k d => ?_⟩
  have lt : r.toNat < xs.length := by omega
  exact ⟨b, _, r, _, rfl, rfl, sqL_kept hS k (Ne.symm nab), atI_int r0 (List.getElem?_eq_getElem lt), q _ _ (List.getElem_mem lt) k d⟩
end
end K14
set_option Elab.async false
set_option linter.all false
set_option maxRecDepth 100000
set_option maxHeartbeats 4000000
namespace K14
open PySem PySem.Spec L2 Sx Lk
/-! ### open marks and names -/
theorem Deck.ne {H : Hp} {a D : Addr} {n : Nat} (d : Deck H a n) (h : H D = none) : a ≠ D := by
  obtain ⟨_, _, _, e, _⟩ := d
  exact ne_new e h
theorem Deck.free {H H' : Hp} {a D : Addr} {n : Nat} (d : Deck H' a n) (x : Kept a H H') (h : H' D = none) : H D = none := by
  obtain ⟨_, _, _, e, _⟩ := d
  exact x.free e h
def sp_names : Sp := fun vs H Q _ => ∃ (a : Addr) (n m : Nat), vs = [.ref a, .int m] ∧ Deck H a n ∧ n < 900000 ∧ m ≤ 3 ∧
  ∀ (ns : List Str) (p : Addr) (H' : Hp), ns.length = m → ns.Nodup → (∀ s ∈ ns, hasL s) → H p = none → Kept a H H' → Deck H' a (n + 14) → H' p = some (.lst (ns.map V.str)) → Q (.ref p) H'
theorem abc (i : Nat) (h : i < 26) : (Str.ofString "abcdefghijklmnopqrstuvwxyz").cps.toList[i]? = some (97 + i) := by
  have e : (Str.ofString "abcdefghijklmnopqrstuvwxyz").cps.toList = (List.range 26).map (97 + ·) := by decide +kernel
  rw [e, List.getElem?_map, List.getElem?_range h]
  rfl
theorem abcI {i : Int} (h0 : 0 ≤ i) (h : i < 26) : atI (Str.ofString "abcdefghijklmnopqrstuvwxyz").cps.toList i = some (97 + i.toNat) := atI_int h0 (abc _ (by omega))
theorem abcZ : (Str.ofString "abcdefghijklmnopqrstuvwxyz").length ≤ sizeLine := by
  have e : (Str.ofString "abcdefghijklmnopqrstuvwxyz").length = 26 := by decide +kernel
  rw [e]; decide
theorem joinL0 : ∀ ys : List (List Nat), (TL.joinL [] ys).length = (ys.map (·.length)).sum
  | [] => rfl
  | [p] => by simp [TL.joinL]
  | p :: q :: r => by
    show (p ++ ([] ++ TL.joinL [] (q :: r))).length = _
    rw [List.nil_append, List.length_append, joinL0 (q :: r)]
    rfl
def sp_opens : Sp := fun vs H Q _ => ∃ (a : Addr) (n m : Nat), vs = [.ref a, .int m] ∧ Deck H a n ∧ n < 900000 ∧ m ≤ 1000 ∧
  ∀ (is : List Int) (p : Addr) (H' : Hp), is.length = m → is.Nodup → H p = none → Kept a H H' → Deck H' a (n + 2) → H' p = some (.lst (is.map V.int)) → Q (.ref p) H'
section
variable {P : Program} {w : World} {K : PySem.W.Frag} {mg : Str → Option Value} {base : Heap}
theorem c__law_opens (W : Wd K mg) : Cal P w K mg base CX0 2 "_law_opens" sp_opens [] := by
  obtain ⟨fd, F⟩ := W.f__law_opens
  refine calD F W.g__law_opens sc__law_opens (fun _ _ _ _ _ _ us hl => match us, hl with | [_, _], _ => rfl) (okD F sc__law_opens ?_ fun cdv A outer s H vs Q E hr h => ?_)
  · rintro _ _ _ _ ⟨a, n, m, rfl, _⟩; rfl
  obtain ⟨a, n, m, rfl, hD, hn, hm, q⟩ := h
  have nd := sc__law_opens.nd
  refine ⟨_, (pss_cons (ps_asg (pe_tup (pa_cons (pe_f (c__law_draw W) hr (by decide) pass0 rfl (pa_cons (pv 0) (pa_cons pe_int pa_nil))) (pa_cons (pe_ix ix_list (pe_lst (pa_cons pe_int (pa_cons pe_int (pa_cons pe_int (pa_cons pe_int (pa_cons (pe_op op_pow pe_int pe_int) pa_nil)))))) (pe_f (c__law_draw W) hr (by decide) pass0 rfl (pa_cons (pv 0) (pa_cons pe_int pa_nil))) (fun _ _ => rfl)) pa_nil))) (pg_tup rfl (pgs_cons (pg_name (i := 2) nd rfl (Or.inr rfl)) (pgs_cons (pg_name (i := 3) nd rfl (Or.inr rfl)) pgs_nil)))) (pss_one (ps_ret (pe_lc (own := [("k", 4)]) rfl nd (pi_range1 rfl W.range (pa_cons (pv 1) pa_nil)) (blkOk_by (own := [("k", 4)]) (N := ["deck", "many", "first", "step", "k"]) (sc := defScope s__law_opens) (by decide +kernel)) (fun _ _ _ _ _ => (pg_name (i := 4) nd rfl (Or.inl rfl))) (fun _ _ _ _ _ => pts_nil) (fun _ _ _ _ _ => (pe_op op_add (pv 2) (pe_op op_mul (pv 3) (pv 4)))))))), ?_⟩
  refine ⟨_, rfl, a, n, 4, rfl, hD, by omega, by decide, by decide, fun f H1 f0 f1 k1 d1 => ?_⟩
  refine ⟨_, _, rfl, rfl, ⟨by decide, by decide, by decide⟩, sl rfl, fun l nl => ?_⟩
  have nla : a ≠ l := by obtain ⟨_, _, _, e, _⟩ := d1; exact ne_new e nl
  refine ⟨_, rfl, a, n + 1, 5, rfl, d1.keep (Same.new nl), by omega, by decide, by decide, fun j H2 j0 j1 k2 d2 => ?_⟩
  have hl : H2 l = some (.lst [.int 1, .int 1, .int 2, .int 9, .int (10 ^ 9)]) := k2 _ _ (Ne.symm nla) upd_same
  obtain ⟨st, hst, st0, st1⟩ : ∃ st : Int, atI [V.int 1, .int 1, .int 2, .int 9, .int (10 ^ 9)] j = some (.int st) ∧ 0 < st ∧ st < 2 ^ 64 := by
    have h : j = 0 ∨ j = 1 ∨ j = 2 ∨ j = 3 ∨ j = 4 := by omega
    rcases h with rfl | rfl | rfl | rfl | rfl
    · exact ⟨1, rfl, by decide, by decide⟩
    · exact ⟨1, rfl, by decide, by decide⟩
    · exact ⟨2, rfl, by decide, by decide⟩
    · exact ⟨9, rfl, by decide, by decide⟩
    · exact ⟨10 ^ 9, rfl, by decide, by decide⟩
  refine ⟨l, _, j, _, rfl, rfl, .of hl, hst, sl rfl, fun t nt => ?_⟩
  refine ⟨t, _, rfl, .of upd_same, rfl, _, _, rfl, _, _, rfl, rfl, ?_⟩
  have k3 : Kept a H (upd H2 t (.tup [.int f, .int st])) := (k1.trans ((Kept.new nl).trans k2)).new' nt
  have d3 := d2.keep (Same.new (u := .tup [.int f, .int st]) nt)
  generalize upd H2 t (.tup [.int f, .int st]) = H3 at k3 d3 ⊢
  refine ⟨_, rfl, _, rfl, by omega, by omega, fun D nD => ?_⟩
  have nD' : H D = none := by obtain ⟨_, _, _, e, _⟩ := d3; exact k3.free e nD
  have nDa : a ≠ D := by obtain ⟨_, _, _, e, _⟩ := d3; exact ne_new e nD
  refine lc_it walk_range (fun i H' => H' D = some (.lst (((List.range i).map fun (k : Nat) => f + st * (k : Int)).map V.int)) ∧ Kept a H H' ∧ Deck H' a (n + 2)) ⟨upd_same, k3.new' nD, d3.keep (Same.new nD)⟩ (fun _ _ _ _ => trivial) ?_ ?_
  · rintro i y H4 H5 hi ⟨hD4, k4, d4⟩ ⟨rfl, rfl⟩
    refine ⟨rfl, _, rfl, _, rfl, _, rfl, _, _, rfl, rfl, .inl ⟨by omega, by omega⟩, _, _, rfl, rfl, _, hD4, ?_, ?_, ?_, ?_⟩
    · rw [List.length_map, List.length_map, List.length_range]
      have : (1000 : Nat) < sizeLine := by decide
      have : i < m := by simpa using hi
      omega
    · rw [upd_same, List.range_succ, List.map_append, List.map_append]
      simp
    · exact Kept.at_new nD' k4
    · exact d4.kept Kept.set nDa
  · rintro H4 ⟨hD4, k4, d4⟩
    refine q _ D H4 ?_ ?_ nD' k4 d4 hD4
    · rw [List.length_map, List.length_range]; simp
    · rw [List.nodup_iff_pairwise_ne, List.pairwise_map]
      refine List.Pairwise.imp ?_ List.nodup_range
      intro x y ne e
      have : st * ((x : Int) - y) = 0 := by rw [Int.mul_sub]; omega
      rcases Int.mul_eq_zero.mp this with h | h
      · omega
      · exact ne (by omega)
theorem c__law_names (W : Wd K mg) : Cal P w K mg base CX0 2 "_law_names" sp_names [] := by
  obtain ⟨fd, F⟩ := W.f__law_names
  refine calD F W.g__law_names sc__law_names (fun _ _ _ _ _ _ us hl => match us, hl with | [_, _], _ => rfl) (okD F sc__law_names ?_ fun cdv A outer s H vs Q E hr h => ?_)
  · rintro _ _ _ _ ⟨a, n, m, rfl, _⟩; rfl
  obtain ⟨a, n, m, rfl, hD, hn, hm, q⟩ := h
  have nd := sc__law_names.nd
  refine ⟨_, (pss_cons (ps_set (i := 2) nd rfl (Or.inr rfl) pe_str) (pss_cons (ps_set (i := 3) nd rfl (Or.inr rfl) (pe_f (c__law_draw W) hr (by decide) pass0 rfl (pa_cons (pv 0) (pa_cons pe_int pa_nil)))) (pss_cons (ps_set (i := 4) nd rfl (Or.inr rfl) (pe_join pe_str (pe_lc (own := [("k", 6)]) rfl nd (pi_range1 rfl W.range (pa_cons (pe_ix ix_list (pe_lst (pa_cons pe_int (pa_cons pe_int (pa_cons pe_int (pa_cons pe_int pa_nil))))) (pe_f (c__law_draw W) hr (by decide) pass0 rfl (pa_cons (pv 0) (pa_cons pe_int pa_nil))) (fun _ _ => rfl)) pa_nil)) (blkOk_by (own := [("k", 6)]) (N := ["deck", "many", "letters", "first", "rest", "some", "k", "one"]) (sc := defScope s__law_names) (by decide +kernel)) (fun _ _ _ _ _ => (pg_name (i := 6) nd rfl (Or.inl rfl))) (fun _ _ _ _ _ => pts_nil) (fun _ _ _ _ _ => (pe_ix ix_str (pv 2) (pe_f (c__law_draw W) hr (by decide) pass0 rfl (pa_cons (pv 0) (pa_cons pe_int pa_nil))) (fun _ _ => rfl)))))) (pss_cons (ps_setLc (i := 5) (own := [("k", 6)]) rfl nd rfl rfl (sw_true rfl rfl rfl (by decide +kernel)) (pi_range1 rfl W.range (pa_cons (pv 1) pa_nil)) (blkOk_by (own := [("k", 6)]) (N := ["deck", "many", "letters", "first", "rest", "some", "k", "one"]) (sc := defScope s__law_names) (by decide +kernel)) (fun _ _ _ _ _ => (pg_name (i := 6) nd rfl (Or.inl rfl))) (fun _ _ _ _ _ => pts_nil) (fun _ _ _ _ _ => (pe_ix ix_str (pv 2) (pe_op op_mod (pe_op op_add (pv 3) (pe_op op_mul pe_int (pv 6))) pe_int) (fun _ _ => rfl)))) (pss_cons (ps_if (pt_cmpR op_eq (pe_f (c__law_draw W) hr (by decide) pass0 rfl (pa_cons (pv 0) (pa_cons pe_int pa_nil))) pe_int (nomark _)) (pss_one (ps_ret (pe_lc (own := [("one", 7)]) rfl nd (pi_list (pv 5)) (blkOk_by (own := [("one", 7)]) (N := ["deck", "many", "letters", "first", "rest", "some", "k", "one"]) (sc := defScope s__law_names) (by decide +kernel)) (fun _ _ _ _ _ => (pg_name (i := 7) nd rfl (Or.inl rfl))) (fun _ _ _ _ _ => pts_nil) (fun _ _ _ _ _ => (pe_op op_add_str (pv 4) (pv 7)))))) pss_nil) (pss_one (ps_ret (pe_lc (own := [("one", 7)]) rfl nd (pi_list (pv 5)) (blkOk_by (own := [("one", 7)]) (N := ["deck", "many", "letters", "first", "rest", "some", "k", "one"]) (sc := defScope s__law_names) (by decide +kernel)) (fun _ _ _ _ _ => (pg_name (i := 7) nd rfl (Or.inl rfl))) (fun _ _ _ _ _ => pts_nil) (fun _ _ _ _ _ => (pe_op op_add_str (pv 7) (pv 4))))))))))), ?_⟩
  refine ⟨_, rfl, a, n, 26, rfl, hD, by omega, by decide, by decide, fun f H1 f0 f1 k1 d1 => ?_⟩
  refine ⟨⟨_, rfl⟩, sl rfl, fun l nl => ?_⟩
  refine ⟨_, rfl, a, n + 1, 4, rfl, d1.keep (Same.new nl), by omega, by decide, by decide, fun j H2 j0 j1 k2 d2 => ?_⟩
  have hl : H2 l = some (.lst [.int 0, .int 0, .int 1, .int 11]) := k2 _ _ (Ne.symm (d1.ne nl)) upd_same
  obtain ⟨c, hc, c1⟩ : ∃ c : Nat, atI [V.int 0, .int 0, .int 1, .int 11] j = some (.int c) ∧ c ≤ 11 := by
    have h : j = 0 ∨ j = 1 ∨ j = 2 ∨ j = 3 := by omega
    rcases h with rfl | rfl | rfl | rfl
    · exact ⟨0, rfl, by decide⟩
    · exact ⟨0, rfl, by decide⟩
    · exact ⟨1, rfl, by decide⟩
    · exact ⟨11, rfl, by decide⟩
  have k2' : Kept a H H2 := k1.trans ((Kept.new nl).trans k2)
  refine ⟨l, _, j, _, rfl, rfl, .of hl, hc, _, rfl, by omega, by omega, fun D nD => ?_⟩
  have nD' : H D = none := d2.free k2' nD
  refine lc_it walk_range (fun i H' => ∃ ys : List (List Nat), ys.length = i ∧ (∀ y ∈ ys, y.length = 1) ∧ H' D = some (.lst ((ys.map SX.S).map V.str)) ∧ Kept a H H' ∧ Deck H' a (n + 2 + i)) ⟨[], rfl, (fun _ h => nomatch h), upd_same, k2'.at_new nD', d2.keep (Same.new nD)⟩ (fun _ _ _ _ => trivial) ?_ ?_
  · rintro i y H4 H5 hi ⟨ys, ly, l1, hD4, k4, d4⟩ ⟨rfl, rfl⟩
    have hi' : i < c := by simpa using hi
    refine ⟨rfl, _, rfl, _, rfl, a, n + 2 + i, 26, rfl, d4, by omega, by decide, by decide, fun r H6 r0 r1 k6 d6 => ?_⟩
    refine ⟨_, r, _, rfl, rfl, abcZ, abcI r0 r1, _, k6 _ _ (Ne.symm (d2.ne nD)) hD4, ?_, ys ++ [[97 + r.toNat]], by simp [ly], ?_, ?_, ?_, ?_⟩
    · rw [List.length_map, List.length_map, ly]
      have : (11 : Nat) < sizeLine := by decide
      omega
    · intro y hy
      rcases List.mem_append.mp hy with h | h
      · exact l1 y h
      · rw [List.mem_singleton.mp h]; rfl
    · rw [upd_same, List.map_append, List.map_append]; rfl
    · exact (k4.trans k6).at_new nD'
    · exact d6.kept Kept.set (d2.ne nD)
  rintro H3 ⟨ys, ly, l1, hD3, k3, d3⟩
  have lr : (TL.joinL [] ys).length ≤ 11 := by
    rw [joinL0]
    have aux : ∀ zs : List (List Nat), (∀ y ∈ zs, y.length = 1) → (zs.map (·.length)).sum = zs.length := by
      intro zs
      induction zs with
      | nil => intro _; rfl
      | cons z r ih =>
        intro h
        rw [List.map_cons, List.sum_cons, ih (fun y hy => h y (List.mem_cons_of_mem _ hy)), h z List.mem_cons_self, List.length_cons]
        omega
    rw [aux ys l1, ly]
    exact Nat.le_trans (by simp) c1
  refine ⟨_, D, ys.map SX.S, rfl, rfl, .inl (.of hD3), ?_, ?_⟩
  · rw [SX.lens, ← joinL0]
    show (TL.joinL [] ys).length + _ * 0 ≤ 16777216
    omega
  have e0 : Txt.join (Str.ofString "") (ys.map SX.S) = SX.S (TL.joinL [] ys) := SX.join_S [] ys
  rw [e0]
  generalize TL.joinL [] ys = R at lr
  have d3' : Deck H3 a (n + 13) := d3.mono (by have : ((c : Int)).toNat = c := rfl; simp; omega)
  clear hD3 d3 e0
  refine ⟨_, rfl, _, rfl, by omega, by omega, fun M nM => ?_⟩
  have nM' : H M = none := d3'.free k3 nM
  let cf : Nat → Nat := fun k => 97 + ((f + 5 * (k : Int)) % 26).toNat
  have cfE : ∀ k, cf k = 97 + ((f + 5 * (k : Int)) % 26).toNat := fun _ => rfl
  have cfR : ∀ k, 97 ≤ cf k ∧ cf k ≤ 122 := fun k => by
    rw [cfE]
    have h1 := Int.emod_lt_of_pos (f + 5 * (k : Int)) (show (0 : Int) < 26 by decide)
    omega
  have cfI : ∀ i j, i < 3 → j < 3 → cf i = cf j → i = j := fun i j hi hj e => by
    rw [cfE, cfE] at e
    omega
  refine lc_it walk_range (fun i H' => H' M = some (.lst ((List.range i).map fun (k : Nat) => V.str (SX.S [cf k]))) ∧ Kept a H H' ∧ Deck H' a (n + 13)) ⟨upd_same, k3.at_new nM', d3'.keep (Same.new nM)⟩ (fun _ _ _ _ => trivial) ?_ ?_
  · rintro i y H4 H5 hi ⟨hM4, k4, d4⟩ ⟨rfl, rfl⟩
    have hi' : i < m := by simpa using hi
    have h0 := Int.emod_nonneg (f + 5 * (0 + (i : Int))) (show (26 : Int) ≠ 0 by decide)
    have h1 := Int.emod_lt_of_pos (f + 5 * (0 + (i : Int))) (show (0 : Int) < 26 by decide)
    refine ⟨rfl, _, rfl, _, rfl, _, rfl, _, _, rfl, rfl, .inl ⟨by omega, by omega⟩, _, _, rfl, rfl, _, _, rfl, rfl, (show (0 : Int) < 26 by decide), _, _, _, rfl, rfl, abcZ, abcI h0 h1, _, hM4, ?_, ?_, ?_, ?_⟩
    · rw [List.length_map, List.length_range]
      have : (1000 : Nat) < sizeLine := by decide
      omega
    · rw [upd_same, List.range_succ, List.map_append, Int.zero_add]; rfl
    · exact k4.at_new nM'
    · exact d4.kept Kept.set (d3'.ne nM)
  rintro H4 ⟨hM, k4, d4⟩
  have em : ((m : Int)).toNat = m := rfl
  rw [em] at hM
  -- the end of both ways
  have fin : ∀ (g : Nat → Str) (p : Addr) (H' : Hp), (∀ x y, g x = g y → x = y) → (∀ c, 97 ≤ c → c ≤ 122 → hasL (g c)) → H p = none → Kept a H H' → Deck H' a (n + 14) → H' p = some (.lst ((List.range m).map fun (k : Nat) => V.str (g (cf k)))) → Q (.ref p) H' := by
    intro g p H' gi gl np k d e
    refine q ((List.range m).map fun k => g (cf k)) p H' ?_ ?_ ?_ np k d ?_
    · rw [List.length_map, List.length_range]
    · rw [List.nodup_iff_pairwise_ne, List.pairwise_map]
      refine (List.pairwise_iff_getElem).mpr fun i j hi hj lt e => ?_
      rw [List.length_range] at hi hj
      rw [List.getElem_range, List.getElem_range] at e
      have := cfI i j (by omega) (by omega) (gi _ _ e)
      omega
    · intro s hs
      obtain ⟨k, _, rfl⟩ := List.mem_map.mp hs
      exact gl _ (cfR k).1 (cfR k).2
    · rw [e, List.map_map]; rfl
  have hR : (SX.S R).length = R.length := SX.S_len R
  have two : ∀ c : Nat, (SX.S R).length + (⟨#[c]⟩ : Str).length ≤ sizeLine ∧ (⟨#[c]⟩ : Str).length + (SX.S R).length ≤ sizeLine := fun c => by
    have e1 : (⟨#[c]⟩ : Str).length = 1 := rfl
    rw [hR, e1]
    have : (1000 : Nat) < sizeLine := by decide
    omega
  refine ⟨_, rfl, a, n + 13, 2, rfl, d4, by omega, by decide, by decide, fun r H5 r0 r1 k5 d5 => ?_⟩
  have hM5 : H5 M = some (.lst ((List.range m).map fun (k : Nat) => V.str (SX.S [cf k]))) := k5 _ _ (Ne.symm (d3'.ne nM)) hM
  have k5' : Kept a H H5 := k4.trans k5
  refine ⟨rfl, _, rfl, ite2 (fun _ => ?_) fun _ => ?_⟩
  · refine ⟨_, rfl, M, rfl, ⟨_, .of hM5⟩, fun D nD => ?_⟩
    have nD' := d5.free k5' nD
    have nMD : M ≠ D := ne_new hM5 nD
    refine lc_it (walk_list (xs := (List.range m).map fun (k : Nat) => V.str (SX.S [cf k]))) (fun i H' => H' D = some (.lst ((List.range i).map fun (k : Nat) => V.str (SX.S (R ++ [cf k])))) ∧ Kept a H H' ∧ Deck H' a (n + 14) ∧ H' M = H5 M) ⟨upd_same, k5'.at_new nD', d5.keep (Same.new nD), upd_ne nMD⟩ (fun i H' _ p => .of (p.2.2.2.trans hM5)) ?_ ?_
    · rintro i y H6 H7 hi ⟨hD6, k6, d6, m6⟩ ⟨rfl, hy⟩
      have hi' : i < m := by rw [List.length_map, List.length_range] at hi; exact hi
      rw [List.getElem?_map, List.getElem?_range hi'] at hy
      obtain rfl := Option.some.inj hy
      refine ⟨rfl, _, rfl, _, rfl, _, _, rfl, rfl, (two _).1, _, hD6, ?_, ?_, ?_, ?_, ?_⟩
      · rw [List.length_map, List.length_range]
        have : (1000 : Nat) < sizeLine := by decide
        omega
      · rw [upd_same, SX.S_cat, List.range_succ, List.map_append]; rfl
      · exact k6.at_new nD'
      · exact d6.kept Kept.set (d5.ne nD)
      · rw [upd_ne nMD]; exact m6
    · rintro H6 ⟨hD6, k6, d6, m6⟩
      rw [List.length_map, List.length_range] at hD6
      refine fin (fun c => SX.S (R ++ [c])) D H6 ?_ ?_ nD' k6 d6 hD6
      · intro x y e
        have := SX.S_inj e
        simpa using this
      · intro c h0 h1
        exact ⟨c, by show c ∈ R ++ [c]; simp, h0, h1⟩
  · refine ⟨_, rfl, M, rfl, ⟨_, .of hM5⟩, fun D nD => ?_⟩
    have nD' := d5.free k5' nD
    have nMD : M ≠ D := ne_new hM5 nD
    refine lc_it (walk_list (xs := (List.range m).map fun (k : Nat) => V.str (SX.S [cf k]))) (fun i H' => H' D = some (.lst ((List.range i).map fun (k : Nat) => V.str (SX.S (cf k :: R)))) ∧ Kept a H H' ∧ Deck H' a (n + 14) ∧ H' M = H5 M) ⟨upd_same, k5'.at_new nD', d5.keep (Same.new nD), upd_ne nMD⟩ (fun i H' _ p => .of (p.2.2.2.trans hM5)) ?_ ?_
    · rintro i y H6 H7 hi ⟨hD6, k6, d6, m6⟩ ⟨rfl, hy⟩
      have hi' : i < m := by rw [List.length_map, List.length_range] at hi; exact hi
      rw [List.getElem?_map, List.getElem?_range hi'] at hy
      obtain rfl := Option.some.inj hy
      refine ⟨rfl, _, rfl, _, rfl, _, _, rfl, rfl, (two _).2, _, hD6, ?_, ?_, ?_, ?_, ?_⟩
      · rw [List.length_map, List.length_range]
        have : (1000 : Nat) < sizeLine := by decide
        omega
      · rw [upd_same, SX.S_cat, List.range_succ, List.map_append]; rfl
      · exact k6.at_new nD'
      · exact d6.kept Kept.set (d5.ne nD)
      · rw [upd_ne nMD]; exact m6
    · rintro H6 ⟨hD6, k6, d6, m6⟩
      rw [List.length_map, List.length_range] at hD6
      refine fin (fun c => SX.S (c :: R)) D H6 ?_ ?_ nD' k6 d6 hD6
      · intro x y e
        have := SX.S_inj e
        simpa using this
      · intro c h0 h1
        exact ⟨c, by show c ∈ c :: R; simp, h0, h1⟩
end
end K14
set_option Elab.async false
set_option linter.all false
set_option maxRecDepth 100000
set_option maxHeartbeats 4000000
namespace K14
open PySem PySem.Spec L2 Sx Lk
/-! ### worlds -/
def dW (w : Wd1) : HO := .dK (vH w)
abbrev Ws (H : Hp) (D : Addr) (ws : List Wd1) : Prop := Objs dW H D ws
theorem dW_nl (w : Wd1) (xs : List V) : dW w ≠ .lst xs := fun q => nomatch q
theorem inV_names {ns : List Str} (v : Key) : inV (kV v) (ns.map V.str) = isName ns v := by
  unfold inV isName
  rw [List.any_map]
  refine congrArg (fun f => ns.any f) (funext fun s => ?_)
  cases v with
  | inl i => exact (decide_eq_false fun q => nomatch q).symm
  | inr x =>
    show (s == x) = decide ((Sum.inr x : Key) = Sum.inr s)
    by_cases e : s = x
    · subst e; rw [decide_eq_true rfl]; exact beq_self_eq_true s
    · rw [decide_eq_false fun q => e (Sum.inr.inj q).symm]
      exact beq_eq_false_iff_ne.mpr e
theorem flat_names (ns : List Str) : (ns.map V.str).all flatV = true := by
  rw [List.all_map, List.all_eq_true]
  intro s _
  rfl
theorem flat_key (v : Key) : flatV (kV v) = true := by cases v <;> rfl
theorem put_new {w : Wd1} {k v : Key} (h : k ∉ w.map (·.1)) : putK (vH w) k (kV v) = vH (w ++ [(k, v)]) := by
  have e : ((vH w).any fun kv => decide (kv.1 = k)) = false := by
    rw [List.any_eq_false]
    intro p hp e
    obtain ⟨r, hr, rfl⟩ := List.mem_map.mp hp
    exact h (List.mem_map.mpr ⟨r, hr, of_decide_eq_true e⟩)
  unfold putK
  rw [e, if_neg Bool.false_ne_true]
  unfold vH
  rw [List.map_append]
  rfl
theorem paired_get2 {α β : Type} {R : α → β → Prop} : ∀ {xs : List α} {ys : List β} {i : Nat} {y : β}, Paired R xs ys → ys[i]? = some y → ∃ x, xs[i]? = some x ∧ R x y
  | _, _, _, _, .nil, e => by simp at e
  | _, _, 0, _, .cons r _, e => ⟨_, rfl, by simp at e; subst e; exact r⟩
  | _, _, i + 1, y, .cons _ t, e => paired_get2 (i := i) t (by simpa using e)
def sp_worlds : Sp := fun vs H Q _ => ∃ (a b : Addr) (os : List Int) (ns : List Str), vs = [.ref a, .ref b] ∧ H a = some (.lst (os.map V.int)) ∧ H b = some (.lst (ns.map V.str)) ∧ os.length ≤ 4 ∧ ns.length ≤ 3 ∧ os.Nodup ∧ (∀ s ∈ ns, hasL s) ∧
  ∀ (p : Addr) (H' : Hp), H p = none → Same H H' → Ws H' p (worldsOf ns os) → Q (.ref p) H'
section
variable {P : Program} {w : World} {K : PySem.W.Frag} {mg : Str → Option Value} {base : Heap}
theorem c__law_worlds (W : Wd K mg) : Cal P w K mg base CX0 1 "_law_worlds" sp_worlds [] := by
  obtain ⟨fd, F⟩ := W.f__law_worlds
  refine calD F W.g__law_worlds sc__law_worlds (fun _ _ _ _ _ _ us hl => match us, hl with | [_, _], _ => rfl) (okD F sc__law_worlds ?_ fun cdv A outer s H vs Q E hr h => ?_)
  · rintro _ _ _ _ ⟨a, b, os, ns, rfl, _⟩; rfl
  obtain ⟨a, b, os, ns, rfl, hA, hB, hos, hns, nd0, hn, q⟩ := h
  have hu := hu_of hr
  have nd := sc__law_worlds.nd
  refine ⟨_, (pss_cons (ps_set (i := 2) nd rfl (Or.inl rfl) (pe_lst (pa_cons pe_dnewK pa_nil))) (pss_cons (ps_for PassesOwn.never rfl (pi_list (pv 0)) (pg_name (i := 3) nd rfl (Or.inl rfl)) (pss_cons (ps_set (i := 4) nd rfl (Or.inl rfl) (pe_lst pa_nil)) (pss_cons (ps_for PassesOwn.never rfl (pi_list (pe_callTy (call_list_of) rfl W.list_ (by decide +kernel) (pa_cons (pv 2) pa_nil))) (pg_name (i := 5) nd rfl (Or.inl rfl)) (pss_cons (ps_set (i := 6) nd rfl (Or.inl rfl) (pe_lenSetN rfl rfl W.len rfl W.set_ (pe_lock (pe_lc (own := [("name", 7)]) rfl nd (pi_values (pv 5)) (blkOk_by (own := [("name", 7)]) (N := ["opens", "names", "worlds", "one", "longer", "world", "fresh", "name", "more", "k"]) (sc := defScope s__law_worlds) (by decide +kernel)) (fun _ _ _ _ _ => (pg_name (i := 7) nd rfl (Or.inl rfl))) (fun _ _ _ _ _ => (pts_one (pt_cmpR (op_notIn_seqK K rfl) (pv 7) (pv 1) (by with_unfolding_all rfl)))) (fun _ _ _ _ _ => (pv 7)))))) (pss_one (ps_for PassesOwn.never rfl (pi_list (pe_op op_cat (pv 1) (pe_lc (own := [("k", 9)]) rfl nd (pi_range1 rfl W.range (pa_cons (pe_op op_add (pv 6) pe_int) pa_nil)) (blkOk_by (own := [("k", 9)]) (N := ["opens", "names", "worlds", "one", "longer", "world", "fresh", "name", "more", "k"]) (sc := defScope s__law_worlds) (by decide +kernel)) (fun _ _ _ _ _ => (pg_name (i := 9) nd rfl (Or.inl rfl))) (fun _ _ _ _ _ => pts_nil) (fun _ _ _ _ _ => (pe_callTy call_str_int rfl W.str (by decide +kernel) (pa_cons (pv 9) pa_nil)))))) (pg_name (i := 7) nd rfl (Or.inl rfl)) (pss_cons (ps_set (i := 8) nd rfl (Or.inl rfl) (pe_callTy (CallR.or (call_dict0 rfl) (CallR.or (call_dictP rfl) call_dictD)) rfl W.dict_ (by decide +kernel) (pa_cons (pv 5) pa_nil))) (pss_cons (ps_dput hu (pv 8) (pv 3) (pv 7) rfl) (pss_one (ps_expr (pe_bm PySem.F.plainAttrs_list PySem.F.slot_list_append PySem.F.type_list_append mt_append (pv 4) (pa_cons (pv 8) pa_nil)))))))))) (pss_one (ps_set (i := 2) nd rfl (Or.inl rfl) (pv 4)))))) (pss_one (ps_ret (pv 2))))), ?_⟩
  refine fun e0 ne0 => ⟨sl rfl, fun D0 nD0 => ?_⟩
  have n0 : H D0 = none := (Same.new ne0).free nD0
  have s0 : Same H (upd (upd H e0 (.dK [])) D0 (.lst [.ref e0])) := Same.new' (Same.new ne0) nD0
  have w0 : Ws (upd (upd H e0 (.dK [])) D0 (.lst [.ref e0])) D0 [[]] := ⟨[e0], upd_same, .cons (old upd_same nD0) .nil⟩
  generalize upd (upd H e0 (.dK [])) D0 (.lst [.ref e0]) = H0 at s0 w0 ⊢
  have bigS : (100000 : Nat) < sizeLine := by decide
  refine ⟨_, rfl, a, rfl, ⟨_, .of (s0 _ _ hA)⟩, for_it (walk_list (xs := os.map V.int)) (fun i σ' H' => ∃ D v3 v4 v5 v6 v7 v8 v9, σ' = [some (.ref a), some (.ref b), some (.ref D), v3, v4, v5, v6, v7, v8, v9] ∧ H D = none ∧ Same H H' ∧ Ws H' D (worldsOf ns (os.take i)))
    ⟨D0, none, none, none, none, none, none, none, rfl, n0, s0, w0⟩ (fun i σ' H' _ z => let ⟨_, _, _, _, _, _, _, _, _, _, k, _⟩ := z; .of (k _ _ hA)) ?_ ?_⟩
  · rintro i x _ _ H1 hi ⟨D, v3, v4, v5, v6, v7, v8, v9, rfl, nD, s1, w1⟩ ⟨rfl, hx⟩
    have hi' : i < os.length := by rw [List.length_map] at hi; exact hi
    obtain ⟨o, ho⟩ : ∃ o, os[i]? = some o := ⟨_, List.getElem?_eq_getElem hi'⟩
    rw [List.getElem?_map, ho] at hx
    obtain rfl := Option.some.inj hx
    have otake : os.take (i + 1) = os.take i ++ [o] := take_one ho
    have ltk : (os.take i).length ≤ 3 := by rw [List.length_take]; omega
    have oks := worlds_ok hn (os.take i)
    have wl := worlds_len hn hns (os.take i) (by omega)
    have wl' : (worldsOf ns (os.take i)).length ≤ 343 := Nat.le_trans wl (Nat.le_trans (Nat.pow_le_pow_right (by decide) ltk) (by decide))
    have ono : ∀ u ∈ worldsOf ns (os.take i), (Sum.inl o : Key) ∉ u.map (·.1) := fun u hu h => by
      rw [(oks u hu).keys] at h
      obtain ⟨j, hj, e⟩ := List.mem_map.mp h
      have nd1 : (os.take i ++ [o]).Nodup := by rw [← otake]; exact nd0.sublist (List.take_sublist _ _)
      rw [List.nodup_append] at nd1
      exact nd1.2.2 j hj o (List.mem_singleton.mpr rfl) (Sum.inl.inj e)
    rw [otake, worlds_snoc]
    generalize worldsOf ns (os.take i) = ws at w1 oks wl' ono ⊢
    refine ⟨sl rfl, fun L nL => ?_⟩
    obtain ⟨ts, hD, hts⟩ := w1
    refine ⟨_, rfl, D, _, rfl, .inl (.of (old hD nL)), fun C nC => ⟨C, rfl, ⟨_, .of upd_same⟩, ?_⟩⟩
    have nL0 : H L = none := s1.free nL
    have s2 : Same H1 (upd (upd H1 L (.lst [])) C (.lst (ts.map V.ref))) := Same.new' (Same.new nL) nC
    have hC : upd (upd H1 L (.lst [])) C (.lst (ts.map V.ref)) C = some (.lst (ts.map V.ref)) := upd_same
    have hL : upd (upd H1 L (.lst [])) C (.lst (ts.map V.ref)) L = some (.lst []) := old upd_same nC
    have nLC : C ≠ L := fun e => by rw [e, upd_same] at nC; cases nC
    generalize upd (upd H1 L (.lst [])) C (.lst (ts.map V.ref)) = HB at s2 hC hL ⊢
    have hBB : HB b = some (.lst (ns.map V.str)) := s2 _ _ (s1 _ _ hB)
    have nbL : b ≠ L := ne_new (s1 _ _ hB) nL
    have htB : Paired (fun t u => HB t = some (dW u)) ts ws := Paired.mapP hts fun _ _ z => s2 _ _ z
    have tL : ∀ t u, HB t = some (dW u) → t ≠ L := fun t u h => ne_of h hL (dW_nl u _)
    refine for_it (walk_list (xs := ts.map V.ref)) (fun j σ' H' => ∃ v5 v6 v7 v8, σ' = [some (.ref a), some (.ref b), some (.ref D), some (.int o), some (.ref L), v5, v6, v7, v8, v9] ∧ Kept L HB H' ∧ Ws H' L (grow ns (ws.take j) o))
      ⟨v5, v6, v7, v8, rfl, Kept.rfl, .nil hL⟩ (fun j σ' H' _ z => let ⟨_, _, _, _, _, k, _⟩ := z; .of (k _ _ nLC hC)) ?_ ?_
    · rintro j x _ _ H2 hj ⟨v5, v6, v7, v8, rfl, k2, w2⟩ ⟨rfl, hx⟩
      rw [List.getElem?_map] at hx
      obtain ⟨t, ht, rfl⟩ := Option.map_eq_some_iff.mp hx
      obtain ⟨u, hu1, htu⟩ := paired_get htB ht
      have um : u ∈ ws := List.mem_of_getElem? hu1
      have ok := oks u um
      have ht2 := k2 _ _ (tL _ _ htu) htu
      have hb2 := k2 _ _ nbL hBB
      have ulen : u.length ≤ 3 := by
        have := congrArg List.length ok.keys
        rw [List.length_map, List.length_map] at this
        omega
      refine ⟨t, _, ht2, trivial, fun od => ⟨_, rfl, t, od, _, rfl, upd_same, fun F nF => ?_⟩⟩
      have ntF : t ≠ F := fun e => by rw [← e, upd_same] at nF; cases nF
      have nF2 : H2 F = none := by rw [upd_ne (Ne.symm ntF)] at nF; exact nF
      refine lc_it (walk_values (kvs := vH u)) (fun k H3 => Kept F (upd H2 t (.frz od (dW u))) H3 ∧ H3 F = some (.lst ((nons ns (u.take k)).map kV))) ⟨Kept.new nF, upd_same⟩ (fun k H3 _ z => z.1 _ _ ntF upd_same) ?_ ?_
      · rintro k x _ H3 hk ⟨k3, hF⟩ ⟨rfl, kk, hx⟩
        obtain ⟨r, hr1⟩ : ∃ r, u[k]? = some r := ⟨_, List.getElem?_eq_getElem (by unfold vH at hk; rw [List.length_map] at hk; exact hk)⟩
        unfold vH at hx
        rw [List.getElem?_map, hr1] at hx
        obtain rfl : kV r.2 = x := congrArg Prod.snd (Option.some.inj hx)
        have hb3 : H3 b = some (.lst (ns.map V.str)) := k3 _ _ (ne_new (upd_ne (ne_of hb2 ht2 (fun z => nomatch z)) |>.trans hb2) nF) ((upd_ne (ne_of hb2 ht2 (fun z => nomatch z))).trans hb2)
        refine ⟨rfl, _, rfl, _, rfl, b, _, rfl, .inl (.of hb3), flat_key _, flat_names ns, _, rfl, ?_⟩
        rw [inV_names, nons_take hr1]
        cases e : isName ns r.2 with
        | true => exact iteF ⟨k3, by rw [if_pos rfl, List.append_nil]; exact hF⟩
        | false =>
          refine iteT ⟨_, rfl, _, hF, ?_, k3.set', ?_⟩
          · rw [List.length_map]
            have h1 : (nons ns (u.take k)).length ≤ ((u.take k).map (·.2)).length := List.length_filter_le _ _
            rw [List.length_map, List.length_take] at h1
            omega
          · rw [upd_same, if_neg Bool.false_ne_true, List.map_append]; rfl
      rintro H3 ⟨k3, hF⟩
      have hlen : (vH u).length = u.length := by unfold vH; rw [List.length_map]
      rw [hlen, List.take_length] at hF
      have nlen : (nons ns u).length ≤ 3 := by
        have h1 : (nons ns u).length ≤ (u.map (·.2)).length := List.length_filter_le _ _
        rw [List.length_map] at h1
        omega
      have ht3 : H3 t = some (.frz od (dW u)) := k3 _ _ ntF upd_same
      refine ⟨ht3, F, nons ns u, rfl, .of ((upd_ne (Ne.symm ntF)).trans hF), by omega, ?_⟩
      have s3 : Same H2 (upd H3 t (dW u)) := (Kept.unlock ht2 k3).fresh nF2
      generalize upd H3 t (dW u) = H4 at s3 ⊢
      have k4 : Kept L HB H4 := k2.trans (.of s3)
      have w4 := w2.same s3
      have fle : fresh ns u ≤ 3 := Nat.le_trans (dd_len_le _) nlen
      have ef : fresh ns u = (dd (nons ns u)).length := rfl
      rw [← ef]
      refine ⟨_, rfl, _, rfl, _, _, rfl, rfl, _, rfl, by omega, by omega, fun S nS => ?_⟩
      have etn : (((fresh ns u : Nat) : Int) + 1).toNat = fresh ns u + 1 := by omega
      rw [etn]
      refine lc_it walk_range (fun k H5 => Same H4 H5 ∧ H5 S = some (.lst ((List.range k).map fun (n : Nat) => V.str (num n)))) ⟨Same.new nS, upd_same⟩ (fun _ _ _ _ => trivial) ?_ ?_
      · rintro k x _ H5 hk ⟨s5, hS⟩ ⟨rfl, rfl⟩
        refine ⟨rfl, _, rfl, _, rfl, Nat.lt_of_le_of_lt (Nat.log2_le_self _) (by omega), _, hS, ?_, Same.at_new nS s5, ?_⟩
        · rw [List.length_map, List.length_range]; omega
        · rw [upd_same, List.range_succ, List.map_append, Int.zero_add]; rfl
      rintro H5 ⟨s5, hS⟩
      refine ⟨b, S, _, _, rfl, rfl, s5 _ _ (s3 _ _ hb2), hS, ?_, fun N nN => ⟨N, rfl, ⟨_, .of upd_same⟩, ?_⟩⟩
      · rw [List.length_map, List.length_map, List.length_range]; omega
      have ec : ns.map V.str ++ (List.range (fresh ns u + 1)).map (fun (n : Nat) => V.str (num n)) = (cands ns u).map kV := by
        unfold cands
        rw [List.map_map, List.map_append, List.map_map]
        rfl
      rw [ec]
      have s6 : Same H4 (upd H5 N (.lst ((cands ns u).map kV))) := Same.new' s5 nN
      have hN : upd H5 N (.lst ((cands ns u).map kV)) N = some (.lst ((cands ns u).map kV)) := upd_same
      have nN4 : H4 N = none := s5.free nN
      generalize upd H5 N (.lst ((cands ns u).map kV)) = HC at s6 hN ⊢
      have kC : Kept L HB HC := k4.trans (.of s6)
      have wC := w4.same s6
      have nNL : N ≠ L := fun e => by
        obtain ⟨acc, h, _⟩ := w4.lst
        rw [e, h] at nN4; cases nN4
      refine for_it (walk_list (xs := (cands ns u).map kV)) (fun k σ' H' => ∃ v7 v8, σ' = [some (.ref a), some (.ref b), some (.ref D), some (.int o), some (.ref L), some (.ref t), some (.int ((fresh ns u : Nat) : Int)), v7, v8, v9] ∧ Kept L HC H' ∧ Ws H' L (grow ns (ws.take j) o ++ ((cands ns u).take k).map fun v => u ++ [(Sum.inl o, v)]))
        ⟨v7, v8, rfl, Kept.rfl, by rw [List.take_zero, List.map_nil, List.append_nil]; exact wC⟩ (fun k σ' H' _ z => let ⟨_, _, _, k, _⟩ := z; .of (k _ _ nNL hN)) ?_ ?_
      · rintro k x _ _ H6 hk ⟨v7, v8, rfl, k6, w6⟩ ⟨rfl, hx⟩
        rw [List.getElem?_map] at hx
        obtain ⟨v, hv, rfl⟩ := Option.map_eq_some_iff.mp hx
        have ht6 : H6 t = some (dW u) := k6 _ _ (tL _ _ htu) (kC _ _ (tL _ _ htu) htu)
        refine ⟨_, rfl, .inr (.inr ⟨t, _, rfl, .of ht6, fun M nM => ?_⟩)⟩
        obtain ⟨acc, hacc, hal⟩ := w6.lst
        have nML : L ≠ M := ne_new hacc nM
        refine ⟨_, rfl, _, rfl, _, rfl, M, _, rfl, DPut.k (k := Sum.inl o) upd_same (by unfold vH; rw [List.length_map]; omega), ?_⟩
        have ndp := put_new (v := v) (ono u um)
        rw [ndp]
        have hM : upd (upd H6 M (.dK (vH u))) M (.dK (vH (u ++ [(Sum.inl o, v)]))) M = some (dW (u ++ [(Sum.inl o, v)])) := upd_same
        have s7 : Same H6 (upd (upd H6 M (.dK (vH u))) M (.dK (vH (u ++ [(Sum.inl o, v)])))) := Same.at_new nM (Same.new nM)
        generalize upd (upd H6 M (.dK (vH u))) M (.dK (vH (u ++ [(Sum.inl o, v)]))) = H7 at hM s7 ⊢
        have gl : (grow ns (ws.take j) o).length ≤ 343 * 7 := by
          refine Nat.le_trans (grow_len (m := 7) fun z hz => ?_) (Nat.mul_le_mul_right 7 ?_)
          · rw [cands_len]
            have := fresh_le (oks z (List.mem_of_mem_take hz))
            omega
          · rw [List.length_take]; omega
        have cl := cands_len ns u
        refine ⟨_, rfl, .inl ⟨rfl, _, .of (s7 _ _ hacc)⟩, _, rfl, L, acc, _, rfl, rfl, s7 _ _ hacc, ?_, ?_⟩
        · rw [hal, List.length_append, List.length_map, List.length_take]; omega
        · refine ⟨_, _, rfl, (k6.trans (.of s7)).set', ?_⟩
          rw [take_one hv, List.map_append, ← List.append_assoc]
          exact (w6.same s7).push dW_nl (s7 _ _ hacc) hM
      · rintro _ H6 ⟨v7, v8, rfl, k6, w6⟩
        rw [List.length_map, List.take_length] at w6
        exact ⟨_, _, _, _, rfl, kC.trans k6, by rw [grow_take hu1]; exact w6⟩
    · rintro _ H2 ⟨v5, v6, v7, v8, rfl, k2, w2⟩
      have lt : (ts.map V.ref).length = ws.length := by rw [List.length_map]; exact Paired.length hts
      rw [lt, List.take_length] at w2
      exact ⟨_, rfl, L, _, _, _, _, _, _, _, rfl, nL0, fun c v hc => k2 _ _ (ne_of_none hc nL0) (s2 _ _ (s1 _ _ hc)), w2⟩
  · rintro _ H1 ⟨D, v3, v4, v5, v6, v7, v8, v9, rfl, nD, s1, w1⟩
    rw [List.length_map, List.take_length] at w1
    exact ⟨_, rfl, q D H1 nD s1 w1⟩
end
end K14
set_option Elab.async false
set_option linter.all false
set_option maxRecDepth 100000
set_option maxHeartbeats 4000000
namespace K14
open PySem PySem.Spec L2 Sx Lk
/-! ### facts, what is due -/
def tF (b : Bool) (x y : Key) : HO := .tup [.bl b, kV x, kV y]
def sp_holds : Sp := fun vs H Q _ => ∃ (d t : Addr) (w : Wd1) (b : Bool) (x y : Key), vs = [.ref d, .ref t] ∧ H d = some (dW w) ∧ H t = some (tF b x y) ∧ Q (.bl (holds b x y w)) H
def sp_fact : Sp := fun vs H Q _ => ∃ (a p : Addr) (n : Nat) (ts : List Key), vs = [.ref a, .ref p] ∧ Deck H a n ∧ n < 900000 ∧ a ≠ p ∧ H p = some (.lst (ts.map kV)) ∧ ts ≠ [] ∧ ts.length < 100000 ∧
  ∀ (b : Bool) (x y : Key) (t : Addr) (H' : Hp), x ∈ ts → y ∈ ts → H t = none → Kept a H H' → Deck H' a (n + 3) → H' t = some (tF b x y) → Q (.ref t) H'
def sp_due : Sp := fun vs H Q _ => ∃ (p : Addr) (x y : Key) (ws : List Wd1), vs = [.ref p, kV x, kV y] ∧ Ws H p ws ∧ ws.length ≤ 100000 ∧ ∀ H', Same H H' → Q (sayV (dueOf ws x y)) H'
section
variable {P : Program} {w : World} {K : PySem.W.Frag} {mg : Str → Option Value} {base : Heap}
theorem wt_val (w : Wd1) (k : Key) : (valV (vH w) k).getD (kV k) = kV (wt w k) := term_val ⟨w, []⟩ k
theorem c__law_holds (W : Wd K mg) : Cal P w K mg base CX0 1 "_law_holds" sp_holds [] := by
  obtain ⟨fd, F⟩ := W.f__law_holds
  refine calD F W.g__law_holds sc__law_holds (fun _ _ _ _ _ _ us hl => match us, hl with | [_, _], _ => rfl) (okD F sc__law_holds ?_ fun cdv A outer s H vs Q E hr h => ?_)
  · rintro _ _ _ _ ⟨d, t, w, b, x, y, rfl, _⟩; rfl
  obtain ⟨d, t, w, b, x, y, rfl, hd, ht, q⟩ := h
  have hu := hu_of hr
  have nd := sc__law_holds.nd
  refine ⟨_, (pss_cons (ps_asg (pv 1) (pg_tup rfl (pgs_cons (pg_name (i := 2) nd rfl (Or.inl rfl)) (pgs_cons (pg_name (i := 3) nd rfl (Or.inl rfl)) (pgs_cons (pg_name (i := 4) nd rfl (Or.inl rfl)) pgs_nil))))) (pss_one (ps_ret (pe_cmpR op_eq (pe_cmpR op_eq (pe_dget2 hu (pv 0) (pv 3) (pv 3) ⟨rfl, rfl, rfl, rfl⟩) (pe_dget2 hu (pv 0) (pv 4) (pv 4) ⟨rfl, rfl, rfl, rfl⟩) (nomark _)) (pv 2) (nomark _))))), ?_⟩
  refine ⟨_, rfl, t, _, rfl, .of ht, rfl, _, _, rfl, _, _, rfl, _, _, rfl, rfl, ?_⟩
  refine ⟨_, rfl, d, rfl, .inl ⟨_, .of hd⟩, _, rfl, _, rfl, _, DGet.k hd, ?_⟩
  refine ⟨_, rfl, d, rfl, .inl ⟨_, .of hd⟩, _, rfl, _, rfl, _, DGet.k hd, ?_⟩
  rw [wt_val, wt_val]
  refine ⟨scal_key _ _, _, rfl, rfl, ?_⟩
  rw [dec_key]
  have e : decide (V.bl (decide (wt w x = wt w y)) = V.bl b) = holds b x y w := by
    unfold holds
    by_cases k : decide (wt w x = wt w y) = b
    · rw [decide_eq_true k, decide_eq_true (congrArg V.bl k)]
    · rw [decide_eq_false k, decide_eq_false fun z => k (V.bl.inj z)]
  rw [e]
  exact q
theorem c__law_fact (W : Wd K mg) : Cal P w K mg base CX0 3 "_law_fact" sp_fact [] := by
  obtain ⟨fd, F⟩ := W.f__law_fact
  refine calD F W.g__law_fact sc__law_fact (fun _ _ _ _ _ _ us hl => match us, hl with | [_, _], _ => rfl) (okD F sc__law_fact ?_ fun cdv A outer s H vs Q E hr h => ?_)
  · rintro _ _ _ _ ⟨a, p, n, ts, rfl, _⟩; rfl
  obtain ⟨a, p, n, ts, rfl, hD, hn, nap, hp, hne, hl, q⟩ := h
  have nd := sc__law_fact.nd
  refine ⟨_, (pss_one (ps_ret (pe_tup (pa_cons (pe_cmpR op_lt (pe_f (c__law_draw W) hr (by decide) pass0 rfl (pa_cons (pv 0) (pa_cons pe_int pa_nil))) pe_int (nomark _)) (pa_cons (pe_f (c__law_pick W) hr (by decide) pass0 rfl (pa_cons (pv 0) (pa_cons (pv 1) pa_nil))) (pa_cons (pe_f (c__law_pick W) hr (by decide) pass0 rfl (pa_cons (pv 0) (pa_cons (pv 1) pa_nil))) pa_nil)))))), ?_⟩
  have mne : ts.map kV ≠ [] := fun e => hne (List.map_eq_nil_iff.mp e)
  have ml : (ts.map kV).length < 100000 := by rw [List.length_map]; exact hl
  refine ⟨_, rfl, a, n, 5, rfl, hD, by omega, by decide, by decide, fun r H1 r0 r1 k1 d1 => ⟨_, _, rfl, rfl, ?_⟩⟩
  refine ⟨_, rfl, _, rfl, a, p, n + 1, _, rfl, d1, by omega, nap, .of (k1 _ _ (Ne.symm nap) hp), mne, ml, fun x H2 hx k2 d2 => ?_⟩
  refine ⟨_, rfl, _, rfl, a, p, n + 2, _, rfl, d2, by omega, nap, .of (k2 _ _ (Ne.symm nap) (k1 _ _ (Ne.symm nap) hp)), mne, ml, fun y H3 hy k3 d3 => ⟨sl rfl, fun t nt => ?_⟩⟩
  obtain ⟨x, hx', rfl⟩ := List.mem_map.mp hx
  obtain ⟨y, hy', rfl⟩ := List.mem_map.mp hy
  have k : Kept a H H3 := (k1.trans k2).trans k3
  exact q _ x y t _ hx' hy' (d3.free k nt) (k.new' nt) (d3.keep (Same.new nt)) upd_same
theorem c__law_due (W : Wd K mg) : Cal P w K mg base CX0 1 "_law_due" sp_due [] := by
  obtain ⟨fd, F⟩ := W.f__law_due
  refine calD F W.g__law_due sc__law_due (fun _ _ _ _ _ _ us hl => match us, hl with | [_, _, _], _ => rfl) (okD F sc__law_due ?_ fun cdv A outer s H vs Q E hr h => ?_)
  · rintro _ _ _ _ ⟨p, x, y, ws, rfl, _⟩; rfl
  obtain ⟨p, x, y, ws, rfl, hp, hl, q⟩ := h
  have hu := hu_of hr
  obtain ⟨ts, hts, hpt⟩ := hp
  have nd := sc__law_due.nd
  refine ⟨_, (pss_cons (ps_set (i := 3) nd rfl (Or.inl rfl) (pe_callB call_len_seq rfl W.len PySem.boot_len (pa_cons (pe_lc (own := [("world", 4)]) rfl nd (pi_list (pv 0)) (blkOk_by (own := [("world", 4)]) (N := ["worlds", "one", "other", "same", "world"]) (sc := defScope s__law_due) (by decide +kernel)) (fun _ _ _ _ _ => (pg_name (i := 4) nd rfl (Or.inl rfl))) (fun _ _ _ _ _ => (pts_one (pt_cmpR op_eq (pe_dget2 hu (pv 4) (pv 1) (pv 1) ⟨rfl, rfl, rfl, rfl⟩) (pe_dget2 hu (pv 4) (pv 2) (pv 2) ⟨rfl, rfl, rfl, rfl⟩) (nomark _)))) (fun _ _ _ _ _ => pe_int)) pa_nil))) (pss_cons (ps_if (pt_cmpR op_eq (pv 3) (pe_callB call_len_seq rfl W.len PySem.boot_len (pa_cons (pv 0) pa_nil)) (nomark _)) (pss_one (ps_ret pe_bl)) pss_nil) (pss_one (ps_ret (pe_ifExp (pt_cmpR op_gt (pv 3) pe_int (nomark _)) pe_non pe_bl))))), ?_⟩
  have plen := Paired.length hpt
  have bigS : (100000 : Nat) < sizeLine := by decide
  refine ⟨_, rfl, p, rfl, ⟨_, .of hts⟩, fun D nD => ?_⟩
  have npD : p ≠ D := ne_new hts nD
  refine lc_it (walk_list (xs := ts.map V.ref)) (fun i H' => Same H H' ∧ H' D = some (.lst (((ws.take i).filter fun w => decide (wt w x = wt w y)).map fun _ => V.int 1))) ⟨Same.new nD, upd_same⟩ (fun i H' _ z => .of (z.1 _ _ hts)) ?_ ?_
  · rintro i z _ H1 hi ⟨s1, hD⟩ ⟨rfl, hz⟩
    rw [List.getElem?_map] at hz
    obtain ⟨t, ht, rfl⟩ := Option.map_eq_some_iff.mp hz
    obtain ⟨u, hu1, htu⟩ := paired_get hpt ht
    have ht1 := s1 _ _ htu
    refine ⟨rfl, _, rfl, t, rfl, .inl ⟨_, .of ht1⟩, _, rfl, _, rfl, _, DGet.k ht1, ?_⟩
    refine ⟨_, rfl, t, rfl, .inl ⟨_, .of ht1⟩, _, rfl, _, rfl, _, DGet.k ht1, ?_⟩
    rw [wt_val, wt_val]
    refine ⟨scal_key _ _, _, rfl, ?_⟩
    rw [dec_key]
    cases e : decide (wt u x = wt u y) with
    | true =>
      refine iteT ⟨_, hD, ?_, Same.at_new nD s1, ?_⟩
      · rw [List.length_map]
        have h1 := List.length_filter_le (fun w => decide (wt w x = wt w y)) (ws.take i)
        rw [List.length_take] at h1
        omega
      · rw [upd_same, take_one hu1, List.filter_append, List.map_append, List.filter_cons_of_pos (by simpa using e)]; rfl
    | false =>
      refine iteF ⟨s1, ?_⟩
      rw [take_one hu1, List.filter_append, List.filter_cons_of_neg (by simp [e]), List.filter_nil, List.append_nil]
      exact hD
  rintro H1 ⟨s1, hD⟩
  rw [List.length_map, plen, List.take_length] at hD
  refine ⟨D, _, rfl, .inl (.of hD), ?_⟩
  rw [List.length_map]
  refine ⟨_, rfl, _, rfl, p, _, rfl, .inl (.of (s1 _ _ hts)), rfl, _, rfl, ?_⟩
  rw [List.length_map, plen]
  have q' := q H1 s1
  unfold dueOf at q'
  generalize (ws.filter fun w => decide (wt w x = wt w y)).length = m at q' ⊢
  dsimp only at q'
  by_cases e1 : m = ws.length
  · rw [if_pos e1] at q'
    rw [decide_eq_true (show V.int (m : Nat) = V.int (ws.length : Nat) by rw [e1])]
    exact iteT q'
  · rw [if_neg e1] at q'
    rw [decide_eq_false fun z => e1 (by have := V.int.inj z; omega)]
    refine iteF ⟨_, rfl, _, _, rfl, rfl, _, rfl, ?_⟩
    by_cases e2 : m > 0
    · rw [if_pos e2] at q'
      rw [decide_eq_true (by omega)]
      exact iteT q'
    · rw [if_neg e2] at q'
      rw [decide_eq_false (by omega)]
      exact iteF q'
end
end K14
set_option Elab.async false
set_option linter.all false
set_option maxRecDepth 100000
set_option maxHeartbeats 4000000
namespace K14
open PySem PySem.Spec L2 Sx Lk
/-! ### all that is said, right -/
def sp_right (K : PySem.W.Frag) : Sp := fun vs H Q _ => ∃ (p d t : Addr) (l : L) (ws : List Wd1) (ts : List Key), vs = [.ref p, .ref d, .ref t] ∧ LikeAt (CL K) H p l ∧ Ws H d ws ∧ H t = some (.lst (ts.map kV)) ∧ ts.length ≤ 1000 ∧ ws.length ≤ 100000 ∧
  (∀ x ∈ ts, ∀ y ∈ ts, dueOf ws x y = says l x y) ∧ ∀ H', Same H H' → Q (.bl true) H'
theorem cut_mem {xs : List V} {lo hi : Option Int} {x : V} (h : x ∈ cutV xs lo hi) : x ∈ xs := List.mem_of_mem_drop (List.mem_of_mem_take h)
theorem small_say (o : Option Bool) : small (sayV o) = true := by cases o <;> rfl
theorem decT (x : V) : decide (x = x) = true := decide_eq_true rfl
section
variable {P : Program} {w : World} {K : PySem.W.Frag} {mg : Str → Option Value} {base : Heap}
theorem c__law_right (W : Wd K mg) : Cal P w K mg base CX0 4 "_law_right" (sp_right K) [] := by
  obtain ⟨fd, F⟩ := W.f__law_right
  refine calD F W.g__law_right sc__law_right (fun _ _ _ _ _ _ us hl => match us, hl with | [_, _, _], _ => rfl) (okD F sc__law_right ?_ fun cdv A outer s H vs Q E hr h => ?_)
  · rintro _ _ _ _ ⟨p, d, t, l, ws, ts, rfl, _⟩; rfl
  obtain ⟨p, d, t, l, ws, ts, rfl, hp, hd, ht, ht1, hw1, hdue, q⟩ := h
  have nd := sc__law_right.nd
  refine ⟨_, (pss_cons (ps_for PassesOwn.never rfl (pi_range1 rfl W.range (pa_cons (pe_callB call_len_seq rfl W.len PySem.boot_len (pa_cons (pv 2) pa_nil)) pa_nil)) (pg_name (i := 3) nd rfl (Or.inl rfl)) (pss_one (ps_for PassesOwn.never rfl (pi_list (pe_slice sl_list (pv 2) (po_some (pv 3)) po_none)) (pg_name (i := 4) nd rfl (Or.inl rfl)) (pss_cons (ps_set (i := 5) nd rfl (Or.inl rfl) (pe_f (c__law_due W) hr (by decide) pass0 rfl (pa_cons (pv 1) (pa_cons (pe_ix ix_list (pv 2) (pv 3) (fun _ _ => rfl)) (pa_cons (pv 4) pa_nil))))) (pss_one (ps_for PassesOwn.never rfl (pi_tup (pe_tup (pa_cons (pe_m (m_Likeness_says W) hr (by decide) pass0 (pv 0) (pa_cons (pe_ix ix_list (pv 2) (pv 3) (fun _ _ => rfl)) (pa_cons (pv 4) pa_nil))) (pa_cons (pe_m (m_Likeness_says W) hr (by decide) pass0 (pv 0) (pa_cons (pv 4) (pa_cons (pe_ix ix_list (pv 2) (pv 3) (fun _ _ => rfl)) pa_nil))) pa_nil)))) (pg_name (i := 6) nd rfl (Or.inl rfl)) (pss_one (ps_if (pt_not (pt_val (pe_f (c_same0 W) hr (by decide) pass0 rfl (pa_cons (pv 6) (pa_cons (pv 5) pa_nil))))) (pss_one (ps_ret pe_bl)) pss_nil)))))))) (pss_one (ps_ret pe_bl))), ?_⟩
  refine ⟨_, rfl, t, _, rfl, .inl (.of ht), _, rfl, by omega, by rw [List.length_map]; omega, ?_⟩
  refine for_it walk_range (fun i σ' H' => ∃ v3 v4 v5 v6, σ' = [some (.ref p), some (.ref d), some (.ref t), v3, v4, v5, v6] ∧ Same H H') ⟨none, none, none, none, rfl, Same.refl H⟩ (fun _ _ _ _ _ => trivial) ?_ ?_
  · rintro i x _ _ H1 hi ⟨v3, v4, v5, v6, rfl, s1⟩ ⟨rfl, rfl⟩
    have hi' : i < ts.length := by
      have : (((ts.map kV).length : Nat) : Int).toNat = ts.length := by rw [List.length_map]; rfl
      omega
    obtain ⟨k, hk⟩ : ∃ k, ts[i]? = some k := ⟨_, List.getElem?_eq_getElem hi'⟩
    have km : k ∈ ts := List.mem_of_getElem? hk
    have hat : atI (ts.map kV) (0 + (i : Int)) = some (kV k) := by
      rw [Int.zero_add]
      exact atI_nat (by rw [List.getElem?_map, hk]; rfl)
    refine ⟨_, rfl, _, rfl, _, rfl, t, _, rfl, .of (s1 _ _ ht), fun S nS => ⟨S, rfl, ⟨_, .of upd_same⟩, ?_⟩⟩
    refine for_it (walk_list (xs := cutV (ts.map kV) (some (0 + (i : Int))) none)) (fun j σ' H' => ∃ v4 v5 v6, σ' = [some (.ref p), some (.ref d), some (.ref t), some (.int (0 + (i : Int))), v4, v5, v6] ∧ Same H H' ∧ H' S = some (.lst (cutV (ts.map kV) (some (0 + (i : Int))) none)))
      ⟨v4, v5, v6, rfl, Same.new' s1 nS, upd_same⟩ (fun j σ' H' _ z => let ⟨_, _, _, _, _, h⟩ := z; .of h) ?_ ?_
    · rintro j x _ _ H2 hj ⟨v4, v5, v6, rfl, s2, hS⟩ ⟨rfl, hx⟩
      obtain ⟨y, hy, rfl⟩ := List.mem_map.mp (cut_mem (List.mem_of_getElem? hx))
      refine ⟨_, rfl, _, rfl, _, rfl, t, _, _, _, rfl, rfl, .of (s2 _ _ ht), hat, _, rfl, d, k, y, ws, rfl, hd.same s2, hw1, fun H3 s3 => ?_⟩
      rw [hdue k km y hy]
      have s3 := s2.trans s3
      have e3 := s3
      have hS3 : H3 S = some (.lst (cutV (ts.map kV) (some (0 + (i : Int))) none)) := ‹Same H2 H3› _ _ hS
      obtain ⟨dx, d1, d2, a1, a2, a3⟩ := id (hp.same s3)
      have n2 := fl0 d1 d2 (m := "says") (by decide +kernel) (by decide +kernel)
      refine ⟨_, rfl, p, dx, _, rfl, a1, n2, _, rfl, _, rfl, t, _, _, _, rfl, rfl, .of (s3 _ _ ht), hat, _, rfl, p, k, y, l, rfl, hp.same s3, fun H4 s4 => ?_⟩
      have s4' := s3.trans s4
      refine ⟨_, rfl, p, dx, _, rfl, s4 _ _ a1, n2, _, rfl, _, rfl, _, rfl, t, _, _, _, rfl, rfl, .of (s4' _ _ ht), hat, p, y, k, l, rfl, hp.same s4', fun H5 s5 => ⟨sl rfl, fun T nT => ⟨T, rfl, ⟨_, .of upd_same⟩, ?_⟩⟩⟩
      rw [says_comm l y k]
      have s5' := s4'.trans s5
      have hS5 := old (u := .tup [sayV (says l k y), sayV (says l k y)]) (s5 _ _ (s4 _ _ hS3)) nT
      refine for_it (walk_tup (xs := [sayV (says l k y), sayV (says l k y)])) (fun m σ' H' => ∃ v6, σ' = [some (.ref p), some (.ref d), some (.ref t), some (.int (0 + (i : Int))), some (kV y), some (sayV (says l k y)), v6] ∧ Same H H' ∧ H' S = some (.lst (cutV (ts.map kV) (some (0 + (i : Int))) none)) ∧ H' T = some (.tup [sayV (says l k y), sayV (says l k y)]))
        ⟨v6, rfl, Same.new' s5' nT, hS5, upd_same⟩ (fun m σ' H' _ z => let ⟨_, _, _, _, h⟩ := z; .of h) ?_ ?_
      · rintro m z _ _ H6 hm ⟨v6, rfl, s6, hS6, hT6⟩ ⟨rfl, hz⟩
        obtain rfl : sayV (says l k y) = z := by
          match m, hm with
          | 0, _ => exact Option.some.inj hz
          | 1, _ => exact Option.some.inj hz
        refine ⟨_, rfl, _, rfl, _, _, rfl, small_say _, small_say _, _, rfl, ?_⟩
        rw [decT]
        exact ⟨_, rfl, s6, hS6, hT6⟩
      · rintro _ H6 ⟨v6, rfl, s6, hS6, _⟩
        exact ⟨_, _, _, rfl, s6, hS6⟩
    · rintro _ H2 ⟨v4, v5, v6, rfl, s2, _⟩
      exact ⟨_, _, _, _, rfl, s2⟩
  · rintro _ H1 ⟨v3, v4, v5, v6, rfl, s1⟩
    exact q H1 s1
end
end K14
set_option Elab.async false
set_option linter.all false
set_option maxRecDepth 100000
set_option maxHeartbeats 4000000
namespace K14
open PySem PySem.Spec L2 Sx Lk
/-! ### a fact heard -/
theorem excA {K : PySem.W.Frag} {mg : Str → Option Value} (W : Wd K mg) : ExcC K (CApart K) :=
  let A := W.all
  ⟨A.hg, A.hk, A.hs, A.hd, A.iA.ha, A.iA.hn, A.iA.ht, A.iA.hm⟩
def sp_heard (K : PySem.W.Frag) : Sp := fun vs H Q _ => ∃ (p t : Addr) (l : L) (b : Bool) (x y : Key), vs = [.ref p, .ref t] ∧ LikeAt (CL K) H p l ∧ WF l ∧ sz l < 100000 ∧ H t = some (tF b x y) ∧
  (∀ l', hear l b x y = some l' → ∀ p' H', Same H H' → LikeAt (CL K) H' p' l' → Q (.ref p') H') ∧ (hear l b x y = none → ∀ H', Same H H' → Q (.str "apart") H')
section
variable {P : Program} {w : World} {K : PySem.W.Frag} {mg : Str → Option Value} {base : Heap}
theorem c__law_heard (W : Wd K mg) : Cal P w K mg base CX0 4 "_law_heard" (sp_heard K) [] := by
  obtain ⟨fd, F⟩ := W.f__law_heard
  refine calD F W.g__law_heard sc__law_heard (fun _ _ _ _ _ _ us hl => match us, hl with | [_, _], _ => rfl) (okD F sc__law_heard ?_ fun cdv A outer s H vs Q E hr h => ?_)
  · rintro _ _ _ _ ⟨p, t, l, b, x, y, rfl, _⟩; rfl
  obtain ⟨p, t, l, b, x, y, rfl, hl, wf, hz, ht, q, qn⟩ := h
  have nd := sc__law_heard.nd
  refine ⟨_, (pss_cons (ps_set (i := 2) nd rfl (Or.inl rfl) pe_str) (pss_cons (ps_try_as (i := 3) (Wout := fun _ _ _ _ => False) rfl rfl nd rfl rfl ⟨rfl, by decide, .inl W.g_TripError⟩ takes0 (fun Wx pn xe tk _ => (pss_one (ps_set (i := 2) nd rfl (Or.inl rfl) (pe_ifExp (pt_val (pe_ix (ix_tupK K rfl) (pv 1) pe_int (fun _ _ => rfl))) (pe_mS (m_Likeness_like W) hr (by decide) (fun σ => passAt tk σ) (pv 0) (pa_cons (pe_ix (ix_tupK K rfl) (pv 1) pe_int (fun _ _ => rfl)) (pa_cons (pe_ix (ix_tupK K rfl) (pv 1) pe_int (fun _ _ => rfl)) pa_nil))) (pe_mS (m_Likeness_unlike W) hr (by decide) (fun σ => passAt tk σ) (pv 0) (pa_cons (pe_ix (ix_tupK K rfl) (pv 1) pe_int (fun _ _ => rfl)) (pa_cons (pe_ix (ix_tupK K rfl) (pv 1) pe_int (fun _ _ => rfl)) pa_nil))))))) (fun ea oe ecls ed pn hz hf => (pss_cons (ps_set (i := 4) nd rfl (Or.inl rfl) (pe_callB (call_isE2 K rfl (excA W) hz hf) rfl W.isinstance (by decide +kernel) (pa_cons (pv 3) (pa_cons (pe_tup (pa_cons (pe_glob (v := .ref (He.ga K "Idle")) rfl W.g_Idle rfl) (pa_cons (pe_glob (v := .ref (He.ga K "NoMatch")) rfl W.g_NoMatch rfl) (pa_cons (pe_glob (v := .ref (He.ga K "Odd")) rfl W.g_Odd rfl) (pa_cons (pe_glob (v := .ref (He.ga K "TooMany")) rfl W.g_TooMany rfl) (pa_cons (pe_glob (v := .ref (He.ga K "Unsound")) rfl W.g_Unsound rfl) pa_nil)))))) pa_nil)))) (pss_one (ps_set (i := 2) nd rfl (Or.inl rfl) (pe_ifExp (PW.pt (pw_and (pt_val (pe_callB (call_isE2 K rfl (excA W) hz hf) rfl W.isinstance (by decide +kernel) (pa_cons (pv 3) (pa_cons (pe_glob (v := .ref (He.ga K "Apart")) rfl W.g_Apart rfl) pa_nil)))) (pw_and1 (pt_not (pt_val (pv 4)))))) pe_str pe_str)))))) (pss_one (ps_ret (pv 2))))), ?_⟩
  obtain ⟨dx, d1, d2, hp, _, _⟩ := id hl
  have n1 := fl0 d1 d2 (m := "like") (by decide +kernel) (by decide +kernel)
  have n2 := fl0 d1 d2 (m := "unlike") (by decide +kernel) (by decide +kernel)
  refine ⟨_, rfl, t, _, 0, _, rfl, rfl, .of ht, rfl, _, rfl, ?_⟩
  cases b with
  | true =>
    refine iteT ?_
    refine ⟨_, rfl, p, dx, _, rfl, hp, n1, _, rfl, t, _, 1, _, rfl, rfl, .of ht, rfl, _, rfl, t, _, 2, _, rfl, rfl, .of ht, rfl, p, x, y, l, rfl, hl, wf, hz, fun l' e p' H' s la => ⟨_, rfl, q l' e p' H' s la⟩, fun e H' s => ⟨true, W.all.xm, fun _ a na => ?_, fun z => nomatch z⟩⟩
    refine ⟨_, rfl, sl rfl, fun T nT => ⟨rfl, rfl, .inr ⟨T, _, _, false, rfl, upd_same, .cons (.own _) (.cons (.own _) (.cons (.own _) (.cons (.own _) (.cons (.own _) .nil)))), W.all.kO, ?_⟩⟩⟩
    refine ⟨_, rfl, rfl, rfl, .inl ⟨_, _, true, rfl, (fun u r => r), W.all.kA, _, rfl, iteT ⟨_, rfl, _, rfl, iteT ⟨_, rfl, ?_⟩⟩⟩⟩
    exact qn e _ (Same.new' s nT)
  | false =>
    refine iteF ?_
    refine ⟨_, rfl, p, dx, _, rfl, hp, n2, _, rfl, t, _, 1, _, rfl, rfl, .of ht, rfl, _, rfl, t, _, 2, _, rfl, rfl, .of ht, rfl, p, x, y, l, rfl, hl, wf, hz, fun l' e p' H' s la => ⟨_, rfl, q l' e p' H' s la⟩, fun e H' s => ⟨true, W.all.xm, fun _ a na => ?_, fun z => nomatch z⟩⟩
    refine ⟨_, rfl, sl rfl, fun T nT => ⟨rfl, rfl, .inr ⟨T, _, _, false, rfl, upd_same, .cons (.own _) (.cons (.own _) (.cons (.own _) (.cons (.own _) (.cons (.own _) .nil)))), W.all.kO, ?_⟩⟩⟩
    refine ⟨_, rfl, rfl, rfl, .inl ⟨_, _, true, rfl, (fun u r => r), W.all.kA, _, rfl, iteT ⟨_, rfl, _, rfl, iteT ⟨_, rfl, ?_⟩⟩⟩⟩
    exact qn e _ (Same.new' s nT)
end
end K14
set_option Elab.async false
set_option linter.all false
set_option maxRecDepth 100000
set_option maxHeartbeats 4000000
namespace K14
open PySem PySem.Spec L2 Sx Lk
/-! ### facts, one by one -/
def sp_law (K : PySem.W.Frag) : Sp := fun vs H Q _ => ∃ (a : Addr) (ns : List Int), vs = [.ref a] ∧ SqL K H a (ns.map V.int) ∧ ns.length ≤ 1000000 ∧ ∀ H', Same H H' → Q (.bl true) H'
theorem terms_kV (os : List Int) (ns : List Str) : os.map V.int ++ ns.map V.str = (terms os ns).map kV := by
  unfold terms
  rw [List.map_append, List.map_map, List.map_map]
  rfl
theorem cut_last {α : Type} (f : α → V) (xs : List α) : cutV (xs.map f) none (some (-1)) = (xs.take (xs.length - 1)).map f := by
  have e1 : HT.sIx (xs.map f).length 0 none = 0 := HT.sIx_none _ _
  have e2 : HT.sIx (xs.map f).length (xs.map f).length (some (-1)) = xs.length - 1 := by
    show (if (-1 : Int) < 0 then ((-1 : Int) + ((xs.map f).length : Int)).toNat else min (-1 : Int).toNat (xs.map f).length) = _
    rw [if_pos (by decide), List.length_map]
    omega
  unfold cutV
  rw [e1, e2, List.drop_zero, Nat.sub_zero, List.map_take]
theorem rep2 (l : List V) : (List.replicate (2 : Int).toNat l).flatten = l ++ l := by
  show (List.replicate 2 l).flatten = _
  simp [List.replicate]
theorem terms_sub {os os' : List Int} {ns ns' : List Str} (h1 : ∀ o ∈ os', o ∈ os) (h2 : ∀ s ∈ ns', s ∈ ns) {x : Key} (h : x ∈ terms os' ns') : x ∈ terms os ns := by
  rcases List.mem_append.mp h with h | h
  · obtain ⟨o, ho, rfl⟩ := List.mem_map.mp h
    exact List.mem_append_left _ (List.mem_map.mpr ⟨o, h1 o ho, rfl⟩)
  · obtain ⟨o, ho, rfl⟩ := List.mem_map.mp h
    exact List.mem_append_right _ (List.mem_map.mpr ⟨o, h2 o ho, rfl⟩)
theorem keptNew {H H1 H2 : Hp} {a : Addr} (s : Same H H1) (n : H a = none) (k : Kept a H1 H2) : Same H H2 := fun b o hb => k _ _ (ne_of_none hb n) (s _ _ hb)
theorem LikeAt.kept {C : Addr} {H H' : Hp} {p a : Addr} {l : L} {n : Nat} (h : LikeAt C H p l) (d : Deck H a n) (k : Kept a H H') : LikeAt C H' p l := by
  obtain ⟨dx, d1, d2, h1, h2, h3⟩ := h
  obtain ⟨_, _, _, e, _⟩ := d
  exact ⟨dx, d1, d2, k _ _ (ne_of h1 e (fun z => nomatch z)) h1, k _ _ (ne_of h2 e (fun z => nomatch z)) h2, k _ _ (ne_of h3 e (fun z => nomatch z)) h3⟩
theorem Ws.kept {H H' : Hp} {p a : Addr} {ws : List Wd1} {n : Nat} (h : Ws H p ws) (d : Deck H a n) (ne : p ≠ a) (k : Kept a H H') : Ws H' p ws := by
  obtain ⟨_, _, _, e, _⟩ := d
  exact Objs.kept k ne (fun r q => by rw [e] at q; exact dW_nl r _ (Option.some.inj q).symm) h
theorem hear_sz {l l' : L} {b : Bool} {x y : Key} (h : hear l b x y = some l') : sz l' ≤ sz l + 1 := by
  unfold hear like unlike at h
  unfold sz
  by_cases e : term l x = term l y
  · rw [if_pos e, if_pos e] at h
    cases b with
    | true => rw [if_pos rfl] at h; cases h; omega
    | false => cases h
  · rw [if_neg e, if_neg e] at h
    cases p : parted l (term l x) (term l y) with
    | true =>
      rw [p, if_pos rfl, if_pos rfl] at h
      cases b with
      | true => cases h
      | false => rw [if_neg Bool.false_ne_true] at h; cases h; omega
    | false =>
      rw [p, if_neg Bool.false_ne_true, if_neg Bool.false_ne_true] at h
      cases b with
      | true =>
        rw [if_pos rfl] at h
        cases h
        unfold merge
        have h1 := len_dedup ((l.pairs.filter fun p => !areN (sub (goes (term l x) (term l y)) (stays (term l x) (term l y)) p.1) (sub (goes (term l x) (term l y)) (stays (term l x) (term l y)) p.2)).map fun p => pairOf (sub (goes (term l x) (term l y)) (stays (term l x) (term l y)) p.1) (sub (goes (term l x) (term l y)) (stays (term l x) (term l y)) p.2))
        rw [List.length_map] at h1
        have h2 := List.length_filter_le (fun p => !areN (sub (goes (term l x) (term l y)) (stays (term l x) (term l y)) p.1) (sub (goes (term l x) (term l y)) (stays (term l x) (term l y)) p.2)) l.pairs
        dsimp only
        rw [List.length_append, List.length_map, List.length_singleton]
        omega
      | false =>
        rw [if_neg Bool.false_ne_true] at h
        cases h
        have h1 := len_dedup (l.pairs ++ [pairOf (term l x) (term l y)])
        rw [List.length_append, List.length_singleton] at h1
        dsimp only
        omega
/-- what stands of one deck's part: the marks, the names, the first likeness -/
structure St1 (C : Addr) (H H' : Hp) (dk po pn pf : Addr) (os : List Int) (ns : List Str) : Prop where
  s : Same H H'
  nd : H dk = none
  o : H' po = some (.lst (os.map V.int))
  no : po ≠ dk
  n : H' pn = some (.lst (ns.map V.str))
  nn : pn ≠ dk
  f : LikeAt C H' pf ⟨[], []⟩
  lo : 2 ≤ os.length ∧ os.length ≤ 4
  ln : 2 ≤ ns.length ∧ ns.length ≤ 3
  od : os.Nodup
  nl : ∀ s ∈ ns, hasL s
theorem St1.same {C : Addr} {H H' H2 : Hp} {dk po pn pf : Addr} {os : List Int} {ns : List Str} (h : St1 C H H' dk po pn pf os ns) (x : Same H' H2) : St1 C H H2 dk po pn pf os ns :=
  ⟨h.s.trans x, h.nd, x _ _ h.o, h.no, x _ _ h.n, h.nn, h.f.same x, h.lo, h.ln, h.od, h.nl⟩
theorem St1.kept {C : Addr} {H H' H2 : Hp} {dk po pn pf : Addr} {os : List Int} {ns : List Str} {m : Nat} (h : St1 C H H' dk po pn pf os ns) (d : Deck H' dk m) (x : Kept dk H' H2) : St1 C H H2 dk po pn pf os ns :=
  ⟨keptNew h.s h.nd x, h.nd, x _ _ h.no h.o, h.no, x _ _ h.nn h.n, h.nn, h.f.kept d x, h.lo, h.ln, h.od, h.nl⟩
structure St2 (C : Addr) (H' : Hp) (dk pk pw : Addr) (T : List Key) (l : L) (ws : List Wd1) : Prop where
  k : LikeAt C H' pk l
  w : Ws H' pw ws
  nw : pw ≠ dk
  fit : Fit T l ws
  len : ws.length ≤ 100000
theorem St2.same {C : Addr} {H' H2 : Hp} {dk pk pw : Addr} {T : List Key} {l : L} {ws : List Wd1} (h : St2 C H' dk pk pw T l ws) (x : Same H' H2) : St2 C H2 dk pk pw T l ws :=
  ⟨h.k.same x, h.w.same x, h.nw, h.fit, h.len⟩
theorem St2.kept {C : Addr} {H' H2 : Hp} {dk pk pw : Addr} {T : List Key} {l : L} {ws : List Wd1} {m : Nat} (h : St2 C H' dk pk pw T l ws) (d : Deck H' dk m) (x : Kept dk H' H2) : St2 C H2 dk pk pw T l ws :=
  ⟨h.k.kept d x, Ws.kept h.w d h.nw x, h.nw, h.fit, h.len⟩
section
variable {P : Program} {w : World} {K : PySem.W.Frag} {mg : Str → Option Value} {base : Heap}
theorem c__law_are_facts_right (W : Wd K mg) : Cal P w K mg base CX0 5 "_law_are_facts_right" (sp_law K) [] := by
  obtain ⟨fd, F⟩ := W.f__law_are_facts_right
  refine calD F W.g__law_are_facts_right sc__law_are_facts_right (fun _ _ _ _ _ _ us hl => match us, hl with | [_], _ => rfl) (okD F sc__law_are_facts_right ?_ fun cdv A outer s H vs Q E hr h => ?_)
  · rintro _ _ _ _ ⟨a, ns, rfl, _⟩; rfl
  obtain ⟨a, ns, rfl, ha, hal, q⟩ := h
  have hu := hu_of hr
  have nd := sc__law_are_facts_right.nd
  refine ⟨_, (pss_cons (ps_for PassesOwn.never rfl (pi_range1 rfl W.range (pa_cons (pe_callB (call_max2 rfl) rfl W.max_ (by decide +kernel) (pa_cons pe_int (pa_cons (pe_callB (call_min2 rfl) rfl W.min_ (by decide +kernel) (pa_cons (pe_callB call_len_seq rfl W.len PySem.boot_len (pa_cons (pv 0) pa_nil)) (pa_cons pe_int pa_nil))) pa_nil))) pa_nil)) (pg_name (i := 1) nd rfl (Or.inl rfl)) (pss_cons (ps_set (i := 2) nd rfl (Or.inl rfl) (pe_f (c__law_deck W) hr (by decide) pass0 rfl (pa_cons (pe_f (c__law_cell_at W) hr (by decide) pass0 rfl (pa_cons (pv 0) (pa_cons (pv 1) pa_nil))) pa_nil))) (pss_cons (ps_par (i := 3) (j := 4) rfl nd rfl rfl (by decide) rfl rfl (pa_cons (pe_f (c__law_opens W) hr (by decide) pass0 rfl (pa_cons (pv 2) (pa_cons (pe_op op_add pe_int (pe_f (c__law_draw W) hr (by decide) pass0 rfl (pa_cons (pv 2) (pa_cons pe_int pa_nil)))) pa_nil))) (pa_cons (pe_f (c__law_names W) hr (by decide) pass0 rfl (pa_cons (pv 2) (pa_cons (pe_op op_add pe_int (pe_f (c__law_draw W) hr (by decide) pass0 rfl (pa_cons (pv 2) (pa_cons pe_int pa_nil)))) pa_nil))) pa_nil)) rfl) (pss_cons (ps_par (i := 5) (j := 6) rfl nd rfl rfl (by decide) rfl rfl (pa_cons (pe_k0 (k0_Likeness W) hr (by decide) pass0 rfl) (pa_cons (pe_f (c__law_worlds W) hr (by decide) pass0 rfl (pa_cons (pv 3) (pa_cons (pv 4) pa_nil))) pa_nil)) rfl) (pss_cons (ps_set (i := 7) nd rfl (Or.inl rfl) (pv 5)) (pss_cons (ps_if (pt_not (pt_val (pe_f (c__law_right W) hr (by decide) pass0 rfl (pa_cons (pv 5) (pa_cons (pv 6) (pa_cons (pe_op op_cat (pv 3) (pv 4)) pa_nil)))))) (pss_one (ps_ret pe_bl)) pss_nil) (pss_cons (ps_for PassesOwn.never rfl (pi_range1 rfl W.range (pa_cons (pe_op op_add pe_int (pe_f (c__law_draw W) hr (by decide) pass0 rfl (pa_cons (pv 2) (pa_cons pe_int pa_nil)))) pa_nil)) (pg_name (i := 8) nd rfl (Or.inl rfl)) (pss_cons (ps_set (i := 9) nd rfl (Or.inr rfl) (pe_f (c__law_fact W) hr (by decide) pass0 rfl (pa_cons (pv 2) (pa_cons (pe_op op_cat (pe_op op_rep (pe_slice sl_list (pv 3) po_none (po_some (pe_un un_neg pe_int))) pe_int) (pe_slice sl_list (pv 4) po_none (po_some (pe_un un_neg pe_int)))) pa_nil)))) (pss_cons (ps_setLc (i := 10) (own := [("world", 12)]) rfl nd rfl rfl (sw_true rfl rfl rfl (by decide +kernel)) (pi_list (pv 6)) (blkOk_by (own := [("world", 12)]) (N := ["script", "k", "deck", "opens", "names", "known", "worlds", "first", "turn", "fact", "left", "heard", "world"]) (sc := defScope s__law_are_facts_right) (by decide +kernel)) (fun _ _ _ _ _ => (pg_name (i := 12) nd rfl (Or.inl rfl))) (fun _ _ _ _ _ => (pts_one (pt_val (pe_f (c__law_holds W) hr (by decide) pass0 rfl (pa_cons (pv 12) (pa_cons (pv 9) pa_nil)))))) (fun _ _ _ _ _ => (pv 12))) (pss_cons (ps_set (i := 11) nd rfl (Or.inl rfl) (pe_f (c__law_heard W) hr (by decide) pass0 rfl (pa_cons (pv 5) (pa_cons (pv 9) pa_nil)))) (pss_cons (ps_if (PW.pt (pw_or (pt_cmpR op_ne (pe_callB call_isi rfl W.isinstance (by decide +kernel) (pa_cons (pv 11) (pa_cons (pe_bltn (v := .ty "str") rfl W.str (by decide +kernel) rfl) pa_nil))) (pe_cmpR (op_eqNil (Nat.lt_of_succ_lt hu)) (pv 10) (pe_lst pa_nil) (nomark _)) (nomark _)) (pw_or1 (PW.pt (pw_and (pt_cmpR (op_eqNil (Nat.lt_of_succ_lt hu)) (pv 10) (pe_lst pa_nil) (nomark _)) (pw_and1 (pt_cmpR op_ne (pv 11) pe_str (nomark _)))))))) (pss_one (ps_ret pe_bl)) pss_nil) (pss_cons (ps_if (PW.pt (pw_and (pt_cmpR (op_neNil (Nat.lt_of_succ_lt hu)) (pv 10) (pe_lst pa_nil) (nomark _)) (pw_and1 (pt_not (pt_val (pe_f (c__law_right W) hr (by decide) pass0 rfl (pa_cons (pv 11) (pa_cons (pv 10) (pa_cons (pe_op op_cat (pv 3) (pv 4)) pa_nil))))))))) (pss_one (ps_ret pe_bl)) pss_nil) (pss_cons (ps_if (pt_not (pt_val (pe_f (c__law_right W) hr (by decide) pass0 rfl (pa_cons (pv 5) (pa_cons (pv 6) (pa_cons (pe_op op_cat (pv 3) (pv 4)) pa_nil)))))) (pss_one (ps_ret pe_bl)) pss_nil) (pss_one (ps_if (pt_cmpR (op_neNil (Nat.lt_of_succ_lt hu)) (pv 10) (pe_lst pa_nil) (nomark _)) (pss_one (ps_par (i := 5) (j := 6) rfl nd rfl rfl (by decide) rfl rfl (pa_cons (pv 11) (pa_cons (pv 10) pa_nil)) rfl)) pss_nil))))))))) (pss_one (ps_if (pt_not (pt_val (pe_f (c__law_right W) hr (by decide) pass0 rfl (pa_cons (pv 7) (pa_cons (pe_f (c__law_worlds W) hr (by decide) pass0 rfl (pa_cons (pv 3) (pa_cons (pv 4) pa_nil))) (pa_cons (pe_op op_cat (pv 3) (pv 4)) pa_nil)))))) (pss_one (ps_ret pe_bl)) pss_nil))))))))) (pss_one (ps_ret pe_bl))), ?_⟩
  refine ⟨_, rfl, a, _, rfl, .inl ha, _, _, rfl, _, _, rfl, _, rfl, ?_⟩
  obtain ⟨N, eN, n1, n2⟩ : ∃ N : Int, (if (if (2 : Int) < ((ns.map V.int).length : Nat) then 2 else (((ns.map V.int).length : Nat) : Int)) > 1 then (if (2 : Int) < ((ns.map V.int).length : Nat) then 2 else (((ns.map V.int).length : Nat) : Int)) else 1) = N ∧ 1 ≤ N ∧ N ≤ 2 := by
    generalize (ns.map V.int).length = m
    refine ⟨_, rfl, ?_, ?_⟩
    · split <;> omega
    · split
      · split <;> omega
      · omega
  rw [eN]
  refine ⟨by omega, by omega, for_it walk_range (fun i σ' H' => ∃ v1 v2 v3 v4 v5 v6 v7 v8 v9 v10 v11, σ' = [some (.ref a), v1, v2, v3, v4, v5, v6, v7, v8, v9, v10, v11, none] ∧ Same H H') ⟨none, none, none, none, none, none, none, none, none, none, none, rfl, Same.refl H⟩ (fun _ _ _ _ _ => trivial) ?step ?done⟩
  case done =>
    rintro _ H1 ⟨v1, v2, v3, v4, v5, v6, v7, v8, v9, v10, v11, rfl, s1⟩
    exact q H1 s1
  rintro i x _ _ H1 hi ⟨v1, v2, v3, v4, v5, v6, v7, v8, v9, v10, v11, rfl, s1⟩ ⟨rfl, rfl⟩
  have aS : ∀ H', Same H H' → SqL K H' a (ns.map V.int) := fun H' s => by
    rcases ha with (h | ⟨o, h⟩) | h
    · exact .inl (.inl (s _ _ h))
    · exact .inl (.inr ⟨o, s _ _ h⟩)
    · exact .inr h
  refine ⟨_, rfl, _, rfl, a, ns, _, rfl, aS _ s1, by omega, by omega, fun z => ⟨z, rfl, fun dk H2 ndk s2 d2 => ?_⟩⟩
  have ndk0 : H dk = none := s1.free ndk
  have S2 : Same H H2 := s1.trans s2
  -- marks and names
  refine ⟨_, rfl, _, rfl, dk, 0, 3, rfl, d2, by omega, by decide, by decide, fun r H3 r0 r1 k3 d3 => ⟨_, _, rfl, rfl, ?_⟩⟩
  obtain ⟨r, rfl⟩ := Int.eq_ofNat_of_zero_le r0
  refine ⟨dk, 1, 2 + r, rfl, d3, by omega, by omega, fun os po H4 ol od npo k4 d4 ho => ?_⟩
  have S4 : Same H H4 := keptNew S2 ndk0 (k3.trans k4)
  refine ⟨_, rfl, _, rfl, dk, 3, 2, rfl, d4, by omega, by decide, by decide, fun r2 H5 r20 r21 k5 d5 => ⟨_, _, rfl, rfl, ?_⟩⟩
  obtain ⟨r2, rfl⟩ := Int.eq_ofNat_of_zero_le r20
  refine ⟨dk, 4, 2 + r2, rfl, d5, by omega, by omega, fun nms pn H6 nl nnd nh npn k6 d6 hn => ⟨_, _, rfl, ?_⟩⟩
  have S6 : Same H H6 := keptNew S4 ndk0 (k5.trans k6)
  have npo' : po ≠ dk := Ne.symm (d3.ne npo)
  have npn' : pn ≠ dk := Ne.symm (d5.ne npn)
  have ho6 := k6 _ _ npo' (k5 _ _ npo' ho)
  -- the first likeness, the worlds
  refine fun pk dz npk6 ndz nez => ⟨pk, dz, _, _, [], [], rfl, upd_same, .inl ⟨_, rfl, W.all.n0, rfl⟩, .inl ⟨_, rfl, W.all.n1, rfl⟩, fun H7 k7 l7 => ⟨rfl, ?_⟩⟩
  have npk : upd H6 dz (.own pk) pk = none := by rw [upd_ne (Ne.symm nez)]; exact npk6
  have s67 : Same H6 H7 := fun b o hb => k7 _ _ (ne_of_none hb npk6) (Same.new' (Same.new ndz) npk _ _ hb)
  have l7 : LikeAt (CL K) H7 pk ⟨[], []⟩ := l7
  refine ⟨_, rfl, _, rfl, po, pn, os, nms, rfl, s67 _ _ ho6, s67 _ _ hn, by omega, by omega, od, nh, fun pw H8 npw s8 w8 => ⟨_, _, rfl, _, rfl, ?_⟩⟩
  have T1 : St1 (CL K) H H8 dk po pn pk os nms := ⟨(S6.trans s67).trans s8, ndk0, s8 _ _ (s67 _ _ ho6), npo', s8 _ _ (s67 _ _ hn), npn', LikeAt.same l7 s8, by omega, by omega, od, nh⟩
  have wl : (worldsOf nms os).length ≤ 100000 := by
    have h1 := worlds_len nh (by omega) os (by omega)
    have h2 : 7 ^ os.length ≤ 7 ^ 4 := Nat.pow_le_pow_right (by decide) (by omega)
    have h3 : (7 : Nat) ^ 4 ≤ 100000 := by decide
    omega
  have d8 := (d6.keep s67).keep s8
  have T2 : St2 (CL K) H8 dk pk pw (terms os nms) ⟨[], []⟩ (worldsOf nms os) := ⟨LikeAt.same l7 s8, w8, Ne.symm ((d6.keep s67).ne npw), fit_start nh od, wl⟩
  have Tl : (terms os nms).length ≤ 1000 := by unfold terms; rw [List.length_append, List.length_map, List.length_map]; omega
  have sz1 : (os.map V.int).length + (nms.map V.str).length ≤ sizeLine := by
    rw [List.length_map, List.length_map]
    have : (1000 : Nat) < sizeLine := by decide
    omega
  have d8 : Deck H8 dk 18 := d8
  clear l7 w8 d6 d5 d4 d3 d2 k7 s67 hn ho6 ho S6 S4 S2 s8 k3 k4 k5 k6 npk ndz npk6 s2
  refine ⟨_, rfl, _, rfl, _, rfl, _, rfl, po, pn, _, _, rfl, rfl, T1.o, T1.n, sz1, fun t nt => ⟨pk, pw, t, _, _, terms os nms, rfl, T2.k.same (Same.new nt), T2.w.same (Same.new nt), by rw [upd_same, terms_kV], Tl, T2.len, (fun x hx y hy => due_says T2.fit hx hy), fun H9 s9 => ⟨true, rfl, iteF ?_⟩⟩⟩
  have T1 := (T1.same (Same.new nt)).same s9
  have T2 := (T2.same (Same.new nt)).same s9
  have d9 := (d8.keep (Same.new nt)).keep s9
  clear d8
  refine ⟨_, rfl, dk, 18, 6, rfl, d9, by omega, by decide, by decide, fun m HA m0 m1 kA dA => ⟨_, _, rfl, rfl, _, rfl, by omega, by omega, ?_⟩⟩
  refine for_it walk_range (fun j σ' H' => ∃ v8 v9 v10 v11 pk' pw' l ws, σ' = [some (.ref a), some (.int (0 + (i : Int))), some (.ref dk), some (.ref po), some (.ref pn), some (.ref pk'), some (.ref pw'), some (.ref pk), v8, v9, v10, v11, none] ∧
    St1 (CL K) H H' dk po pn pk os nms ∧ St2 (CL K) H' dk pk' pw' (terms os nms) l ws ∧ sz l ≤ j ∧ Deck H' dk (19 + 3 * j))
    ⟨v8, v9, v10, v11, pk, pw, _, _, rfl, T1.kept d9 kA, T2.kept d9 kA, Nat.le_refl _, dA⟩ (fun _ _ _ _ _ => trivial) ?stepB ?doneB
  case doneB =>
    rintro _ HB ⟨v8, v9, v10, v11, pk', pw', l, ws, rfl, T1, _, _, dB⟩
    refine ⟨_, rfl, _, rfl, _, rfl, po, pn, os, nms, rfl, T1.o, T1.n, by omega, by omega, od, nh, fun pv HC npv sC wC => ?_⟩
    have T1 := T1.same sC
    refine ⟨_, rfl, _, rfl, po, pn, _, _, rfl, rfl, T1.o, T1.n, sz1, fun t nt => ⟨pk, pv, t, ⟨[], []⟩, worldsOf nms os, terms os nms, rfl, T1.f.same (Same.new nt), Objs.same (Same.new nt) wC, by rw [upd_same, terms_kV], Tl, wl, (fun x hx y hy => due_says (fit_start nh od) hx hy), fun HD sD => ⟨true, rfl, iteF ?_⟩⟩⟩
    exact ⟨_, _, _, _, _, _, _, _, _, _, _, rfl, ((T1.same (Same.new nt)).same sD).s⟩
  clear d9 T1 T2 dA kA s9 nt
  rintro j x _ _ HB hj ⟨v8, v9, v10, v11, pk', pw', l, ws, rfl, T1, T2, hsz, dB⟩ ⟨rfl, rfl⟩
  have hj6 : j < 7 := by omega
  have bigS : (100000 : Nat) < sizeLine := by decide
  -- the fact
  refine ⟨_, rfl, _, rfl, 1, rfl, _, rfl, po, _, rfl, .of T1.o, fun c1 n1 => ?_⟩
  rw [cut_last]
  have e1 : Same HB (upd HB c1 (.lst ((os.take (os.length - 1)).map V.int))) := Same.new n1
  have h1 : upd HB c1 (.lst ((os.take (os.length - 1)).map V.int)) c1 = some (.lst ((os.take (os.length - 1)).map V.int)) := upd_same
  generalize upd HB c1 (.lst ((os.take (os.length - 1)).map V.int)) = HC at e1 h1 ⊢
  refine ⟨c1, 2, _, rfl, rfl, h1, by decide, by decide, ?_, fun c2 n2 => ?_⟩
  · rw [List.length_map, List.length_take]
    show _ * 2 ≤ _
    omega
  rw [rep2]
  have e2 := Same.new' (u := .lst ((os.take (os.length - 1)).map V.int ++ (os.take (os.length - 1)).map V.int)) e1 n2
  have h2 : upd HC c2 (.lst ((os.take (os.length - 1)).map V.int ++ (os.take (os.length - 1)).map V.int)) c2 = some (.lst ((os.take (os.length - 1)).map V.int ++ (os.take (os.length - 1)).map V.int)) := upd_same
  generalize upd HC c2 (.lst ((os.take (os.length - 1)).map V.int ++ (os.take (os.length - 1)).map V.int)) = HD at e2 h2 ⊢
  refine ⟨_, rfl, 1, rfl, _, rfl, pn, _, rfl, .of (e2 _ _ T1.n), fun c3 n3 => ?_⟩
  rw [cut_last]
  refine ⟨c2, c3, _, _, rfl, rfl, old h2 n3, upd_same, ?_, fun c4 n4 => ?_⟩
  · rw [List.length_append, List.length_map, List.length_map, List.length_take, List.length_take]; omega
  have n4B : HB c4 = none := (Same.new' (u := .lst ((nms.take (nms.length - 1)).map V.str)) e2 n3).free n4
  have e4 := Same.new' (u := .lst ((os.take (os.length - 1)).map V.int ++ (os.take (os.length - 1)).map V.int ++ (nms.take (nms.length - 1)).map V.str)) (Same.new' (u := .lst ((nms.take (nms.length - 1)).map V.str)) e2 n3) n4
  have h4 : upd (upd HD c3 (.lst ((nms.take (nms.length - 1)).map V.str))) c4 (.lst ((os.take (os.length - 1)).map V.int ++ (os.take (os.length - 1)).map V.int ++ (nms.take (nms.length - 1)).map V.str)) c4 = some (.lst ((terms (os.take (os.length - 1) ++ os.take (os.length - 1)) (nms.take (nms.length - 1))).map kV)) := by
    rw [upd_same, ← terms_kV, List.map_append]
  generalize upd (upd HD c3 (.lst ((nms.take (nms.length - 1)).map V.str))) c4 (.lst ((os.take (os.length - 1)).map V.int ++ (os.take (os.length - 1)).map V.int ++ (nms.take (nms.length - 1)).map V.str)) = HE at e4 h4 ⊢
  have tsub : ∀ x ∈ terms (os.take (os.length - 1) ++ os.take (os.length - 1)) (nms.take (nms.length - 1)), x ∈ terms os nms := fun x hx =>
    terms_sub (fun o ho => (List.mem_append.mp ho).elim List.mem_of_mem_take List.mem_of_mem_take) (fun s hs => List.mem_of_mem_take hs) hx
  have tlen : (terms (os.take (os.length - 1) ++ os.take (os.length - 1)) (nms.take (nms.length - 1))).length < 100000 := by
    unfold terms
    rw [List.length_append, List.length_map, List.length_map, List.length_append, List.length_take, List.length_take]; omega
  have tne : terms (os.take (os.length - 1) ++ os.take (os.length - 1)) (nms.take (nms.length - 1)) ≠ [] := fun e => by
    have := congrArg List.length e
    unfold terms at this
    rw [List.length_append, List.length_map, List.length_map, List.length_append, List.length_take, List.length_take, List.length_nil] at this
    omega
  have T1 := T1.same e4
  have T2 := T2.same e4
  have d4 := dB.keep e4
  refine ⟨dk, c4, _, _, rfl, d4, by omega, dB.ne n4B, h4, tne, tlen, fun b x y tf HF hx hy ntf kF dF htf => ?_⟩
  have hx := tsub x hx
  have hy := tsub y hy
  have T1 := T1.kept d4 kF
  have T2 := T2.kept d4 kF
  clear tlen tne tsub h4 e4 h2 e2 h1 e1 n1 n2 n3 n4 n4B dB d4 kF ntf
  -- the worlds left
  obtain ⟨ts, hpw, hts⟩ := id T2.w
  refine ⟨_, rfl, pw', rfl, ⟨_, .of hpw⟩, fun D nD => ?_⟩
  refine lc_it (walk_list (xs := ts.map V.ref)) (fun k H' => Same HF H' ∧ ∃ us : List Addr, H' D = some (.lst (us.map V.ref)) ∧ Paired (fun t w => HF t = some (dW w)) us ((ws.take k).filter (holds b x y))) ⟨Same.new nD, [], upd_same, .nil⟩ (fun k H' _ z => .of (z.1 _ _ hpw)) ?stepC ?doneC
  case stepC =>
    rintro k z _ HG hk ⟨sG, us, hD, hus⟩ ⟨rfl, hz⟩
    rw [List.getElem?_map] at hz
    obtain ⟨t, ht, rfl⟩ := Option.map_eq_some_iff.mp hz
    obtain ⟨u, hu1, htu⟩ := paired_get hts ht
    refine ⟨rfl, _, rfl, _, rfl, t, tf, u, b, x, y, rfl, sG _ _ htu, sG _ _ htf, _, rfl, ?_⟩
    rw [take_one hu1, List.filter_append]
    cases e : holds b x y u with
    | true =>
      rw [List.filter_cons_of_pos e]
      refine iteT ⟨_, rfl, _, hD, ?_, Same.at_new nD sG, us ++ [t], by rw [upd_same, List.map_append]; rfl, Paired.snoc hus htu⟩
      rw [List.length_map, Paired.length hus]
      have h1 := List.length_filter_le (holds b x y) (ws.take k)
      have h2 := T2.len
      rw [List.length_take] at h1
      omega
    | false =>
      rw [List.filter_cons_of_neg (by rw [e]; exact Bool.false_ne_true), List.filter_nil, List.append_nil]
      exact iteF ⟨sG, us, hD, hus⟩
  rintro HG ⟨sG, us, hD, hus⟩
  rw [List.length_map, Paired.length hts, List.take_length] at hus
  have hD' := hD
  have wL : Ws HG D (ws.filter (holds b x y)) := ⟨us, hD, Paired.mapP hus fun _ _ z => sG _ _ z⟩
  have nDk : D ≠ dk := Ne.symm (dF.ne nD)
  have T1 := T1.same sG
  have T2 := T2.same sG
  have dG := dF.keep sG
  have htf := sG _ _ htf
  clear hts hpw hD sG nD dF
  have ulen := Paired.length hus
  have hD := hD'
  refine ⟨_, rfl, _, rfl, pk', tf, l, b, x, y, rfl, T2.k, T2.fit.wf, by omega, htf, fun l' e p' HH sH lH => ?_, fun e HH sH => ?_⟩
  · have F' := fit_more T2.fit hx hy e
    have une : us.map V.ref ≠ [] := fun q => by
      rw [List.map_eq_nil_iff] at q
      rw [q] at ulen
      exact fit_ne F' (List.length_eq_zero_iff.mp ulen.symm)
    have d0 : decide (us.map V.ref = []) = false := decide_eq_false une
    have T1 := T1.same sH
    have T2 := T2.same sH
    have wL : Ws _ D (ws.filter (holds b x y)) := Objs.same sH wL
    have dG := dG.keep sH
    have hD := sH _ _ hD
    obtain ⟨dx, d1, d2, hp', _, _⟩ := id lH
    refine ⟨_, rfl, _, _, _, _, _, rfl, .ty _, .base (.ins hp' W.cl_Likeness W.all.ins.ha W.all.ins.hn W.all.ins.ht W.all.ins.hm), W.all.kS, _, rfl, sl rfl, fun q1 nq1 => ⟨D, q1, _, rfl, rfl, .of (old hD nq1), .of upd_same, ?_⟩⟩
    rw [d0]
    refine ⟨rfl, _, rfl, iteF ?_⟩
    have T1 := T1.same (Same.new (u := .lst []) nq1)
    have T2 := T2.same (Same.new (u := .lst []) nq1)
    have wL : Ws _ D (ws.filter (holds b x y)) := Objs.same (Same.new (u := .lst []) nq1) wL
    have dG := dG.keep (Same.new (u := .lst []) nq1)
    have hD := (Same.new (u := .lst []) nq1) _ _ hD
    have lH := LikeAt.same lH (Same.new (u := .lst []) nq1)
    refine ⟨_, rfl, sl rfl, fun q2 nq2 => ⟨D, q2, _, rfl, rfl, .of (old hD nq2), .of upd_same, _, rfl, ?_⟩⟩
    rw [d0]
    refine iteF (iteF ?_)
    have T1 := T1.same (Same.new (u := .lst []) nq2)
    have T2 := T2.same (Same.new (u := .lst []) nq2)
    have wL : Ws _ D (ws.filter (holds b x y)) := Objs.same (Same.new (u := .lst []) nq2) wL
    have dG := dG.keep (Same.new (u := .lst []) nq2)
    have hD := (Same.new (u := .lst []) nq2) _ _ hD
    have lH := LikeAt.same lH (Same.new (u := .lst []) nq2)
    refine ⟨_, rfl, sl rfl, fun q3 nq3 => ⟨D, q3, _, rfl, rfl, .of (old hD nq3), .of upd_same, _, rfl, ?_⟩⟩
    rw [d0]
    refine iteT ?_
    have T1 := T1.same (Same.new (u := .lst []) nq3)
    have T2 := T2.same (Same.new (u := .lst []) nq3)
    have wL : Ws _ D (ws.filter (holds b x y)) := Objs.same (Same.new (u := .lst []) nq3) wL
    have dG := dG.keep (Same.new (u := .lst []) nq3)
    have hD := (Same.new (u := .lst []) nq3) _ _ hD
    have lH := LikeAt.same lH (Same.new (u := .lst []) nq3)
    have fl : (ws.filter (holds b x y)).length ≤ 100000 := Nat.le_trans (List.length_filter_le _ _) T2.len
    refine ⟨_, rfl, _, rfl, _, rfl, _, rfl, po, pn, _, _, rfl, rfl, T1.o, T1.n, sz1, fun t nt => ⟨p', D, t, l', _, terms os nms, rfl, LikeAt.same lH (Same.new nt), Objs.same (Same.new nt) wL, by rw [upd_same, terms_kV], Tl, fl, (fun x hx y hy => due_says F' hx hy), fun HI sI => ⟨true, rfl, iteF ?_⟩⟩⟩
    have T1 := T1.same (Same.new (u := .lst (os.map V.int ++ nms.map V.str)) nt)
    have T2 := T2.same (Same.new (u := .lst (os.map V.int ++ nms.map V.str)) nt)
    have wL : Ws _ D (ws.filter (holds b x y)) := Objs.same (Same.new (u := .lst (os.map V.int ++ nms.map V.str)) nt) wL
    have dG := dG.keep (Same.new (u := .lst (os.map V.int ++ nms.map V.str)) nt)
    have hD := (Same.new (u := .lst (os.map V.int ++ nms.map V.str)) nt) _ _ hD
    have lH := LikeAt.same lH (Same.new (u := .lst (os.map V.int ++ nms.map V.str)) nt)
    have T1 := T1.same sI
    have T2 := T2.same sI
    have wL : Ws _ D (ws.filter (holds b x y)) := Objs.same sI wL
    have dG := dG.keep sI
    have hD := sI _ _ hD
    have lH := LikeAt.same lH sI
    refine ⟨_, rfl, _, rfl, _, rfl, _, rfl, po, pn, _, _, rfl, rfl, T1.o, T1.n, sz1, fun t nt => ⟨pk', pw', t, l, ws, terms os nms, rfl, T2.k.same (Same.new nt), T2.w.same (Same.new nt), by rw [upd_same, terms_kV], Tl, T2.len, (fun x hx y hy => due_says T2.fit hx hy), fun HJ sJ => ⟨true, rfl, iteF ?_⟩⟩⟩
    have T1 := T1.same (Same.new (u := .lst (os.map V.int ++ nms.map V.str)) nt)
    have T2 := T2.same (Same.new (u := .lst (os.map V.int ++ nms.map V.str)) nt)
    have wL : Ws _ D (ws.filter (holds b x y)) := Objs.same (Same.new (u := .lst (os.map V.int ++ nms.map V.str)) nt) wL
    have dG := dG.keep (Same.new (u := .lst (os.map V.int ++ nms.map V.str)) nt)
    have hD := (Same.new (u := .lst (os.map V.int ++ nms.map V.str)) nt) _ _ hD
    have lH := LikeAt.same lH (Same.new (u := .lst (os.map V.int ++ nms.map V.str)) nt)
    have T1 := T1.same sJ
    have T2 := T2.same sJ
    have wL : Ws _ D (ws.filter (holds b x y)) := Objs.same sJ wL
    have dG := dG.keep sJ
    have hD := sJ _ _ hD
    have lH := LikeAt.same lH sJ
    refine ⟨_, rfl, sl rfl, fun q4 nq4 => ⟨D, q4, _, rfl, rfl, .of (old hD nq4), .of upd_same, _, rfl, ?_⟩⟩
    rw [d0]
    have T1 := T1.same (Same.new (u := .lst []) nq4)
    have T2 := T2.same (Same.new (u := .lst []) nq4)
    have wL : Ws _ D (ws.filter (holds b x y)) := Objs.same (Same.new (u := .lst []) nq4) wL
    have dG := dG.keep (Same.new (u := .lst []) nq4)
    have hD := (Same.new (u := .lst []) nq4) _ _ hD
    have lH := LikeAt.same lH (Same.new (u := .lst []) nq4)
    refine iteT ⟨_, rfl, _, rfl, _, _, rfl, _, _, _, _, _, _, _, _, rfl, T1, ⟨lH, wL, nDk, F', fl⟩, ?_, dG.mono (by omega)⟩
    have := hear_sz e
    omega
  · have z0 : ws.filter (holds b x y) = [] := fit_none T2.fit e
    have une : us.map V.ref = [] := by
      rw [z0] at ulen
      rw [List.length_eq_zero_iff.mp ulen]
      rfl
    have d0 : decide (us.map V.ref = []) = true := decide_eq_true une
    have T1 := T1.same sH
    have T2 := T2.same sH
    have wL : Ws _ D (ws.filter (holds b x y)) := Objs.same sH wL
    have dG := dG.keep sH
    have hD := sH _ _ hD
    refine ⟨_, rfl, _, _, _, _, _, rfl, .ty _, .base (.str _), kit_ty (a := "str") (b := "str") (r := true) (by decide +kernel), _, rfl, sl rfl, fun q1 nq1 => ⟨D, q1, _, rfl, rfl, .of (old hD nq1), .of upd_same, ?_⟩⟩
    rw [d0]
    refine ⟨rfl, _, rfl, iteF ?_⟩
    have T1 := T1.same (Same.new (u := .lst []) nq1)
    have T2 := T2.same (Same.new (u := .lst []) nq1)
    have wL : Ws _ D (ws.filter (holds b x y)) := Objs.same (Same.new (u := .lst []) nq1) wL
    have dG := dG.keep (Same.new (u := .lst []) nq1)
    have hD := (Same.new (u := .lst []) nq1) _ _ hD
    refine ⟨_, rfl, sl rfl, fun q2 nq2 => ⟨D, q2, _, rfl, rfl, .of (old hD nq2), .of upd_same, _, rfl, ?_⟩⟩
    rw [d0]
    refine iteT ⟨_, rfl, rfl, _, rfl, iteF ?_⟩
    have T1 := T1.same (Same.new (u := .lst []) nq2)
    have T2 := T2.same (Same.new (u := .lst []) nq2)
    have wL : Ws _ D (ws.filter (holds b x y)) := Objs.same (Same.new (u := .lst []) nq2) wL
    have dG := dG.keep (Same.new (u := .lst []) nq2)
    have hD := (Same.new (u := .lst []) nq2) _ _ hD
    refine ⟨_, rfl, sl rfl, fun q3 nq3 => ⟨D, q3, _, rfl, rfl, .of (old hD nq3), .of upd_same, _, rfl, ?_⟩⟩
    rw [d0]
    refine iteF (iteF ?_)
    have T1 := T1.same (Same.new (u := .lst []) nq3)
    have T2 := T2.same (Same.new (u := .lst []) nq3)
    have wL : Ws _ D (ws.filter (holds b x y)) := Objs.same (Same.new (u := .lst []) nq3) wL
    have dG := dG.keep (Same.new (u := .lst []) nq3)
    have hD := (Same.new (u := .lst []) nq3) _ _ hD
    refine ⟨_, rfl, _, rfl, _, rfl, _, rfl, po, pn, _, _, rfl, rfl, T1.o, T1.n, sz1, fun t nt => ⟨pk', pw', t, l, ws, terms os nms, rfl, T2.k.same (Same.new nt), T2.w.same (Same.new nt), by rw [upd_same, terms_kV], Tl, T2.len, (fun x hx y hy => due_says T2.fit hx hy), fun HJ sJ => ⟨true, rfl, iteF ?_⟩⟩⟩
    have T1 := T1.same (Same.new (u := .lst (os.map V.int ++ nms.map V.str)) nt)
    have T2 := T2.same (Same.new (u := .lst (os.map V.int ++ nms.map V.str)) nt)
    have wL : Ws _ D (ws.filter (holds b x y)) := Objs.same (Same.new (u := .lst (os.map V.int ++ nms.map V.str)) nt) wL
    have dG := dG.keep (Same.new (u := .lst (os.map V.int ++ nms.map V.str)) nt)
    have hD := (Same.new (u := .lst (os.map V.int ++ nms.map V.str)) nt) _ _ hD
    have T1 := T1.same sJ
    have T2 := T2.same sJ
    have wL : Ws _ D (ws.filter (holds b x y)) := Objs.same sJ wL
    have dG := dG.keep sJ
    have hD := sJ _ _ hD
    refine ⟨_, rfl, sl rfl, fun q4 nq4 => ⟨D, q4, _, rfl, rfl, .of (old hD nq4), .of upd_same, _, rfl, ?_⟩⟩
    rw [d0]
    have T1 := T1.same (Same.new (u := .lst []) nq4)
    have T2 := T2.same (Same.new (u := .lst []) nq4)
    have wL : Ws _ D (ws.filter (holds b x y)) := Objs.same (Same.new (u := .lst []) nq4) wL
    have dG := dG.keep (Same.new (u := .lst []) nq4)
    have hD := (Same.new (u := .lst []) nq4) _ _ hD
    exact iteF ⟨_, _, _, _, _, _, _, _, rfl, T1, T2, by omega, dG.mono (by omega)⟩
end
end K14
set_option Elab.async false
set_option linter.all false
set_option maxRecDepth 100000
set_option maxHeartbeats 4000000
namespace K14
open PySem PySem.Spec L2 Sx Lk
/-! ### two lists of None, True, False -/
def sp_sameL : Sp := fun vs H Q _ => ∃ (a b : Addr) (xs : List V), vs = [.ref a, .ref b] ∧ H a = some (.lst xs) ∧ H b = some (.lst xs) ∧ xs.all small = true ∧ ∀ H', Same H H' → Q (.bl true) H'
section
variable {P : Program} {w : World} {K : PySem.W.Frag} {mg : Str → Option Value} {base : Heap}
theorem c_sameL (W : Wd K mg) : Cal P w K mg base CX0 2 "_law_same" sp_sameL [] := by
  obtain ⟨fd, F⟩ := W.f__law_same
  refine calD F W.g__law_same sc__law_same (fun _ _ _ _ _ _ us hl => match us, hl with | [_, _], _ => rfl) (okD F sc__law_same ?_ fun cdv A outer s H vs Q E hr h => ?_)
  · rintro _ _ _ _ ⟨a, b, xs, rfl, _⟩; rfl
  obtain ⟨a, b, xs, rfl, ha, hb, hs, q⟩ := h
  have hu := hu_of hr
  have nd := sc__law_same.nd
  refine ⟨_, (pss_cons (ps_if (PW.pt (pw_or (pt_val (pe_callB call_isi rfl W.isinstance (by decide +kernel) (pa_cons (pv 1) (pa_cons (pe_bltn (v := .ty "tuple") rfl W.tuple (by decide +kernel) rfl) pa_nil)))) (pw_or1 (pt_val (pe_callB call_isi rfl W.isinstance (by decide +kernel) (pa_cons (pv 1) (pa_cons (pe_bltn (v := .ty "list") rfl W.list_ (by decide +kernel) rfl) pa_nil))))))) (pss_cons (ps_if (PW.pt (pw_or (pt_cmpR op_ne (pe_callB call_isi rfl W.isinstance (by decide +kernel) (pa_cons (pv 0) (pa_cons (pe_bltn (v := .ty "tuple") rfl W.tuple (by decide +kernel) rfl) pa_nil))) (pe_callB call_isi rfl W.isinstance (by decide +kernel) (pa_cons (pv 1) (pa_cons (pe_bltn (v := .ty "tuple") rfl W.tuple (by decide +kernel) rfl) pa_nil))) (nomark _)) (pw_or (pt_cmpR op_ne (pe_callB call_isi rfl W.isinstance (by decide +kernel) (pa_cons (pv 0) (pa_cons (pe_bltn (v := .ty "list") rfl W.list_ (by decide +kernel) rfl) pa_nil))) (pe_callB call_isi rfl W.isinstance (by decide +kernel) (pa_cons (pv 1) (pa_cons (pe_bltn (v := .ty "list") rfl W.list_ (by decide +kernel) rfl) pa_nil))) (nomark _)) (pw_or1 (pt_cmpR op_ne (pe_callB call_len_seq rfl W.len PySem.boot_len (pa_cons (pv 0) pa_nil)) (pe_callB call_len_seq rfl W.len PySem.boot_len (pa_cons (pv 1) pa_nil)) (nomark _)))))) (pss_one (ps_ret pe_bl)) pss_nil) (pss_one (ps_ret (pe_cmpR (op_eqNil (Nat.lt_of_succ_lt hu)) (pe_lc (own := [("one", 2), ("other", 3)]) rfl nd (RZ.pi_zipA rfl W.zip (pa_cons (pv 0) (pa_cons (pv 1) pa_nil))) (blkOk_by (own := [("one", 2), ("other", 3)]) (N := ["told", "due", "one", "other"]) (sc := defScope s__law_same) (by decide +kernel)) (fun _ _ _ _ _ => (pg_tupK K 2 rfl rfl (pgs_cons (pg_name (i := 2) nd rfl (Or.inl rfl)) (pgs_cons (pg_name (i := 3) nd rfl (Or.inl rfl)) pgs_nil)))) (fun _ _ _ _ _ => (pts_one (pt_not (pt_val (pe_f (c_same0 W) hr (by decide) pass0 rfl (pa_cons (pv 2) (pa_cons (pv 3) pa_nil))))))) (fun _ _ _ _ _ => pe_int)) (pe_lst pa_nil) (nomark _))))) pss_nil) (pss_cons ps_never (pss_cons ps_never (pss_cons ps_never (pss_one ps_never))))), ?_⟩
  have kt : PySem.W.kitOne K (.type "list") (.type "tuple") = some false := kit_ty (a := "list") (b := "tuple") (r := false) (by decide +kernel)
  have kl : PySem.W.kitOne K (.type "list") (.type "list") = some true := kit_ty (a := "list") (b := "list") (r := true) (by decide +kernel)
  refine ⟨_, rfl, _, _, _, _, _, rfl, .ty _, .base (.lst hb), kt, _, rfl, iteF ⟨_, rfl, _, _, _, _, _, rfl, .ty _, .base (.lst hb), kl, _, rfl, iteT ?_⟩⟩
  refine ⟨_, rfl, _, _, _, _, _, rfl, .ty _, .base (.lst ha), kt, _, rfl, _, _, _, _, _, rfl, .ty _, .base (.lst hb), kt, rfl, _, rfl, iteF ?_⟩
  refine ⟨_, rfl, _, _, _, _, _, rfl, .ty _, .base (.lst ha), kl, _, rfl, _, _, _, _, _, rfl, .ty _, .base (.lst hb), kl, rfl, _, rfl, iteF ?_⟩
  refine ⟨_, rfl, a, _, rfl, .inl (.of ha), _, rfl, b, _, rfl, .inl (.of hb), rfl, _, rfl, ?_⟩
  rw [decT]
  refine iteF ⟨_, rfl, _, rfl, a, b, xs, xs, rfl, .inl ⟨.of ha, .of hb, fun D nD => ?_⟩⟩
  refine lc_it (walk_zip (xs := xs) (ys := xs) (n := xs.length) (by omega)) (fun i H' => Kept D H H' ∧ H' D = some (.lst [])) ⟨Kept.new nD, upd_same⟩ (fun i H' _ z => ⟨.of (z.1 _ _ (ne_new ha nD) ha), .of (z.1 _ _ (ne_new hb nD) hb)⟩) ?_ ?_
  · rintro i z H1 _ hi ⟨k1, hD⟩ ⟨T, x, y, rfl, nT, rfl, hx, hy⟩
    obtain rfl : x = y := Option.some.inj (hx.symm.trans hy)
    have sm : small x = true := List.all_eq_true.mp hs x (List.mem_of_getElem? hx)
    refine ⟨T, _, rfl, .of upd_same, rfl, _, _, rfl, _, _, rfl, rfl, rfl, _, rfl, _, rfl, _, _, rfl, sm, sm, _, rfl, ?_⟩
    rw [decT]
    exact iteF ⟨k1.new' nT, old hD nT⟩
  · rintro H1 ⟨k1, hD⟩
    exact ⟨sl rfl, fun e ne => ⟨D, e, _, rfl, rfl, .of (old hD ne), .of upd_same, q _ (Same.new' (k1.fresh nD) ne)⟩⟩
end
end K14
set_option Elab.async false
set_option linter.all false
set_option maxRecDepth 100000
set_option maxHeartbeats 4000000
namespace K14
open PySem PySem.Spec L2 Sx Lk
/-! ### by name -/
def swap3 {α : Type} (us ws : List α) : List α := match us, ws with
  | [u], [v, w] => [u, w, v]
  | _, _ => []
theorem swap3_rel {vs zs : List V} {us ws : List Value} (h1 : Vals vs us) (h2 : Vals zs ws) : Vals (swap3 vs zs) (swap3 us ws) := by
  cases h1 with
  | nil => exact .nil
  | cons a r =>
    cases r with
    | cons _ _ => exact .nil
    | nil =>
      cases h2 with
      | nil => exact .nil
      | cons b r2 =>
        cases r2 with
        | nil => exact .nil
        | cons c r3 =>
          cases r3 with
          | cons _ _ => exact .nil
          | nil => exact .cons a (.cons c (.cons b .nil))
theorem app_rel {vs zs : List V} {us ws : List Value} (h1 : Vals vs us) (h2 : Vals zs ws) : Vals (vs ++ zs) (us ++ ws) := h1.append h2
section
variable {P : Program} {w : World} {K : PySem.W.Frag} {mg : Str → Option Value} {base : Heap}
theorem mk_Likeness_unlike_one_other (W : Wd K mg) : MetK P w K mg base (L2.CX P w) 3 (CL K) "unlike" (sp_hear K false) ["one", "other"] (fun vs zs => vs ++ zs) := by
  obtain ⟨fd, F⟩ := W.f_Likeness_unlike
  exact ⟨_, fd, _, _, W.cl_Likeness, W.m_Likeness_unlike, o_Likeness_unlike W F, kbindsP F 1 ["one", "other"] (fun us ws => us ++ ws) app_rel fun _ _ _ _ _ _ us ws h1 h2 => match us, ws, h1, h2 with | [_], [_, _], _, _ => rfl⟩
theorem mk_Likeness_like_other_one (W : Wd K mg) : MetK P w K mg base (L2.CX P w) 3 (CL K) "like" (sp_hear K true) ["other", "one"] swap3 := by
  obtain ⟨fd, F⟩ := W.f_Likeness_like
  exact ⟨_, fd, _, _, W.cl_Likeness, W.m_Likeness_like, o_Likeness_like W F, kbindsP F 1 ["other", "one"] swap3 swap3_rel fun _ _ _ _ _ _ us ws h1 h2 => match us, ws, h1, h2 with | [_], [_, _], _, _ => rfl⟩
theorem mk_Likeness_says_one_other (W : Wd K mg) : MetK P w K mg base CX0 3 (CL K) "says" (sp_says K) ["one", "other"] (fun vs zs => vs ++ zs) := by
  obtain ⟨fd, F⟩ := W.f_Likeness_says
  exact ⟨_, fd, _, _, W.cl_Likeness, W.m_Likeness_says, o_Likeness_says W F, kbindsP F 1 ["one", "other"] (fun us ws => us ++ ws) app_rel fun _ _ _ _ _ _ us ws h1 h2 => match us, ws, h1, h2 with | [_], [_, _], _, _ => rfl⟩
theorem mk_Likeness_says_other_one (W : Wd K mg) : MetK P w K mg base CX0 3 (CL K) "says" (sp_says K) ["other", "one"] swap3 := by
  obtain ⟨fd, F⟩ := W.f_Likeness_says
  exact ⟨_, fd, _, _, W.cl_Likeness, W.m_Likeness_says, o_Likeness_says W F, kbindsP F 1 ["other", "one"] swap3 swap3_rel fun _ _ _ _ _ _ us ws h1 h2 => match us, ws, h1, h2 with | [_], [_, _], _, _ => rfl⟩
/-! ### likenesses compared -/
theorem rc_Like {X : Cx} (W : Wd X.K X.mg) : RcG X 1 (DIns (CL X.K) (RLike (CL X.K))) := by
  obtain ⟨fd, F⟩ := W.f_Likeness___eq__
  refine rcG_ins (E := E0) (o_eq W F) W.m_Likeness___eq__.at_ W.m_Likeness___eq__.fn (F.bindsN fun _ _ _ _ _ _ us hl => ?_) pass0
  match us, hl with | [_, _], _ => rfl
theorem c__law_is_named_alike (W : Wd K mg) : Cal P w K mg base CX0 4 "_law_is_named_alike" (sp_law K) [] := by
  obtain ⟨fd, F⟩ := W.f__law_is_named_alike
  refine calD F W.g__law_is_named_alike sc__law_is_named_alike (fun _ _ _ _ _ _ us hl => match us, hl with | [_], _ => rfl) (okD F sc__law_is_named_alike ?_ fun cdv A outer s H vs Q E hr h => ?_)
  · rintro _ _ _ _ ⟨a, ns, rfl, _⟩; rfl
  obtain ⟨a, ns, rfl, ha, hal, q⟩ := h
  have hu := hu_of hr
  have nd := sc__law_is_named_alike.nd
  refine ⟨_, (pss_cons (ps_set (i := 1) nd rfl (Or.inl rfl) (pe_f (c__law_deck W) hr (by decide) pass0 rfl (pa_cons (pe_op op_add (pe_f (c__law_cell_at W) hr (by decide) pass0 rfl (pa_cons (pv 0) (pa_cons pe_int pa_nil))) pe_int) pa_nil))) (pss_cons (ps_par (i := 2) (j := 3) rfl nd rfl rfl (by decide) rfl rfl (pa_cons (pe_f (c__law_opens W) hr (by decide) pass0 rfl (pa_cons (pv 1) (pa_cons pe_int pa_nil))) (pa_cons (pe_f (c__law_names W) hr (by decide) pass0 rfl (pa_cons (pv 1) (pa_cons pe_int pa_nil))) pa_nil)) rfl) (pss_cons (ps_set (i := 4) nd rfl (Or.inl rfl) (pe_m (m_Likeness_like W) hr (by decide) passL (pe_k0 (k0_Likeness W) hr (by decide) pass0 rfl) (pa_cons (pe_ix ix_list (pv 2) pe_int (fun _ _ => rfl)) (pa_cons (pe_ix ix_list (pv 3) pe_int (fun _ _ => rfl)) pa_nil)))) (pss_cons (ps_par (i := 5) (j := 6) rfl nd rfl rfl (by decide) rfl rfl (pa_cons (pe_mK (mk_Likeness_unlike_one_other W) hr (by decide) passL (pv 4) (pk_cons (pe_ix ix_list (pv 2) pe_int (fun _ _ => rfl)) (pk_cons (pe_ix ix_list (pv 3) pe_int (fun _ _ => rfl)) pk_nil))) (pa_cons (pe_mK (mk_Likeness_like_other_one W) hr (by decide) passL (pv 4) (pk_cons (pe_ix ix_list (pv 2) pe_int (fun _ _ => rfl)) (pk_cons (pe_ix ix_list (pv 2) pe_int (fun _ _ => rfl)) pk_nil))) pa_nil)) rfl) (pss_cons (ps_if (PW.pt (pw_or (pt_not (pt_cmpR (op_eqG (rc_Like W) (hr.mono (by decide))) (pv 5) (pe_m (m_Likeness_unlike W) hr (by decide) passL (pv 4) (pa_cons (pe_ix ix_list (pv 2) pe_int (fun _ _ => rfl)) (pa_cons (pe_ix ix_list (pv 3) pe_int (fun _ _ => rfl)) pa_nil))) (nomark _))) (pw_or1 (pt_not (pt_cmpR (op_eqG (rc_Like W) (hr.mono (by decide))) (pv 6) (pe_m (m_Likeness_like W) hr (by decide) passL (pv 4) (pa_cons (pe_ix ix_list (pv 2) pe_int (fun _ _ => rfl)) (pa_cons (pe_ix ix_list (pv 2) pe_int (fun _ _ => rfl)) pa_nil))) (nomark _)))))) (pss_one (ps_ret pe_bl)) pss_nil) (pss_cons (ps_set (i := 7) nd rfl (Or.inl rfl) (pe_lst (pa_cons (pe_mK (mk_Likeness_says_one_other W) hr (by decide) pass0 (pv 5) (pk_cons (pe_ix ix_list (pv 2) pe_int (fun _ _ => rfl)) (pk_cons (pe_ix ix_list (pv 2) pe_int (fun _ _ => rfl)) pk_nil))) (pa_cons (pe_mK (mk_Likeness_says_other_one W) hr (by decide) pass0 (pv 6) (pk_cons (pe_ix ix_list (pv 3) pe_int (fun _ _ => rfl)) (pk_cons (pe_ix ix_list (pv 2) pe_int (fun _ _ => rfl)) pk_nil))) (pa_cons (pe_m (m_Likeness_says W) hr (by decide) pass0 (pv 4) (pa_cons (pe_ix ix_list (pv 2) pe_int (fun _ _ => rfl)) (pa_cons (pe_ix ix_list (pv 2) pe_int (fun _ _ => rfl)) pa_nil))) (pa_cons (pe_m (m_Likeness_says W) hr (by decide) pass0 (pv 4) (pa_cons (pe_ix ix_list (pv 2) pe_int (fun _ _ => rfl)) (pa_cons (pe_ix ix_list (pv 2) pe_int (fun _ _ => rfl)) pa_nil))) pa_nil)))))) (pss_one (ps_ret (pe_f (c_sameL W) hr (by decide) pass0 rfl (pa_cons (pv 7) (pa_cons (pe_lst (pa_cons pe_bl (pa_cons pe_bl (pa_cons pe_non (pa_cons pe_non pa_nil))))) pa_nil))))))))))), ?_⟩
  refine ⟨_, rfl, a, ns, 0, rfl, ha, by decide, by decide, fun z => ⟨_, _, rfl, rfl, _, rfl, fun dk H1 ndk s1 d1 => ?_⟩⟩
  refine ⟨_, rfl, dk, 0, 3, rfl, d1, by omega, by omega, fun os po H2 ol od npo k2 d2 ho => ⟨_, rfl, dk, 2, 2, rfl, d2, by omega, by omega, fun nms pn H3 nl nnd nh npn k3 d3 hn => ⟨_, _, rfl, ?_⟩⟩⟩
  obtain ⟨o0, o1, o2, rfl⟩ : ∃ o0 o1 o2, os = [o0, o1, o2] := match os, ol with | [x, y, z], _ => ⟨x, y, z, rfl⟩
  obtain ⟨n0, n1, rfl⟩ : ∃ n0 n1, nms = [n0, n1] := match nms, nl with | [x, y], _ => ⟨x, y, rfl⟩
  have S : Same H H3 := keptNew s1 ndk (k2.trans k3)
  have ho := k3 _ _ (Ne.symm (d1.ne npo)) ho
  have h01 : o0 ≠ o1 := fun e => by simp [e] at od
  have h02 : o0 ≠ o2 := fun e => by simp [e] at od
  have h12 : o1 ≠ o2 := fun e => by simp [e] at od
  obtain ⟨l1, l2, l3, e1, e2, e3, y2, y3, y1, w1, w2, w3⟩ := named (n := n0) h01 h02 h12
  have z1 := hear_sz e1
  have z2 := hear_sz e2
  have z3 := hear_sz e3
  have z0 : sz ⟨[], []⟩ = 0 := rfl
  have fln : ∀ d1 d2, (flds d1 d2).lookup ("like" : Str) = none := fun d1 d2 => fl0 d1 d2 (by decide +kernel) (by decide +kernel)
  have flu : ∀ d1 d2, (flds d1 d2).lookup ("unlike" : Str) = none := fun d1 d2 => fl0 d1 d2 (by decide +kernel) (by decide +kernel)
  have fls : ∀ d1 d2, (flds d1 d2).lookup ("says" : Str) = none := fun d1 d2 => fl0 d1 d2 (by decide +kernel) (by decide +kernel)
  clear s1 d1 d2 d3 k2 k3 npo npn ndk
  refine fun pk dz npk ndz nez => ⟨pk, dz, _, _, [], [], rfl, upd_same, .inl ⟨_, rfl, W.all.n0, rfl⟩, .inl ⟨_, rfl, W.all.n1, rfl⟩, fun H4 k4 l4 => ⟨rfl, ?_⟩⟩
  have npk' : upd H3 dz (.own pk) pk = none := by rw [upd_ne (Ne.symm nez)]; exact npk
  have s4 : Same H3 H4 := fun b o hb => k4 _ _ (ne_of_none hb npk) (Same.new' (Same.new ndz) npk' _ _ hb)
  have LK : LikeAt (CL K) H4 pk ⟨[], []⟩ := l4
  have ho := s4 _ _ ho
  have hn := s4 _ _ hn
  have S := S.trans s4
  clear s4 k4 l4 npk npk' ndz
  obtain ⟨dx, f1, f2, hp, _, _⟩ := id LK
  refine ⟨pk, dx, _, rfl, hp, fln _ _, _, rfl, po, _, 0, _, rfl, rfl, .of ho, rfl, _, rfl, pn, _, 0, _, rfl, rfl, .of hn, rfl, pk, .inl o0, .inr n0, ⟨[], []⟩, rfl, LK, wf_nil, by omega, fun l' e' p1 H5 s5 L1 => ?_, fun e' => by rw [e1] at e'; cases e'⟩
  obtain rfl : l1 = l' := by rw [e1] at e'; exact Option.some.inj e'
  have ho := s5 _ _ ho
  have hn := s5 _ _ hn
  have S := S.trans s5
  clear hp LK s5
  -- near
  obtain ⟨dx, f1, f2, hp, _, _⟩ := id L1
  refine ⟨_, rfl, p1, dx, _, rfl, hp, flu _ _, _, rfl, po, _, 1, _, rfl, rfl, .of ho, rfl, _, rfl, pn, _, 0, _, rfl, rfl, .of hn, rfl, rfl, p1, .inl o1, .inr n0, l1, rfl, L1, w1, by omega, fun l' e' p2 H6 s6 L2 => ?_, fun e' => by rw [e2] at e'; cases e'⟩
  obtain rfl : l2 = l' := by rw [e2] at e'; exact Option.some.inj e'
  have ho := s6 _ _ ho
  have hn := s6 _ _ hn
  have L1 := LikeAt.same L1 s6
  have S := S.trans s6
  clear hp s6
  -- far
  obtain ⟨dx, f1, f2, hp, _, _⟩ := id L1
  refine ⟨_, rfl, p1, dx, _, rfl, hp, fln _ _, _, rfl, po, _, 2, _, rfl, rfl, .of ho, rfl, _, rfl, po, _, 0, _, rfl, rfl, .of ho, rfl, rfl, p1, .inl o0, .inl o2, l1, rfl, L1, w1, by omega, fun l' e' p3 H7 s7 L3 => ?_, fun e' => by rw [e3] at e'; cases e'⟩
  obtain rfl : l3 = l' := by rw [e3] at e'; exact Option.some.inj e'
  have ho := s7 _ _ ho
  have hn := s7 _ _ hn
  have L1 := LikeAt.same L1 s7
  have L2 := LikeAt.same L2 s7
  have S := S.trans s7
  clear hp s7
  refine ⟨_, _, rfl, ?_⟩
  -- the same, by place
  obtain ⟨dx, f1, f2, hp, _, _⟩ := id L1
  refine ⟨_, rfl, _, rfl, p1, dx, _, rfl, hp, flu _ _, _, rfl, po, _, 1, _, rfl, rfl, .of ho, rfl, _, rfl, pn, _, 0, _, rfl, rfl, .of hn, rfl, p1, .inl o1, .inr n0, l1, rfl, L1, w1, by omega, fun l' e' p4 H8 s8 L4 => ?_, fun e' => by rw [e2] at e'; cases e'⟩
  obtain rfl : l2 = l' := by rw [e2] at e'; exact Option.some.inj e'
  have ho := s8 _ _ ho
  have hn := s8 _ _ hn
  have L1 := LikeAt.same L1 s8
  have L2 := LikeAt.same L2 s8
  have L3 := LikeAt.same L3 s8
  have S := S.trans s8
  clear hp s8
  obtain ⟨ax, a1, a2, hpa, _, _⟩ := id L2
  obtain ⟨bx, b1, b2, hpb, _, _⟩ := id L4
  refine ⟨⟨p2, p4, ax, bx, _, _, rfl, rfl, hpa, hpb, l2, w2, L2, L4⟩, fun H9 x9 => ⟨_, rfl, iteF ?_⟩⟩
  have s9 : Same H8 H9 := x9
  have ho := s9 _ _ ho
  have hn := s9 _ _ hn
  have L1 := LikeAt.same L1 s9
  have L2 := LikeAt.same L2 s9
  have L3 := LikeAt.same L3 s9
  have S := S.trans s9
  clear s9 x9 hpa hpb L4
  obtain ⟨dx, f1, f2, hp, _, _⟩ := id L1
  refine ⟨_, rfl, _, rfl, p1, dx, _, rfl, hp, fln _ _, _, rfl, po, _, 0, _, rfl, rfl, .of ho, rfl, _, rfl, po, _, 2, _, rfl, rfl, .of ho, rfl, p1, .inl o0, .inl o2, l1, rfl, L1, w1, by omega, fun l' e' p5 HA sA L5 => ?_, fun e' => by rw [e3] at e'; cases e'⟩
  obtain rfl : l3 = l' := by rw [e3] at e'; exact Option.some.inj e'
  have ho := sA _ _ ho
  have hn := sA _ _ hn
  have L1 := LikeAt.same L1 sA
  have L2 := LikeAt.same L2 sA
  have L3 := LikeAt.same L3 sA
  have S := S.trans sA
  clear hp sA
  obtain ⟨ax, a1, a2, hpa, _, _⟩ := id L3
  obtain ⟨bx, b1, b2, hpb, _, _⟩ := id L5
  refine ⟨⟨p3, p5, ax, bx, _, _, rfl, rfl, hpa, hpb, l3, w3, L3, L5⟩, fun HB xB => ⟨_, rfl, iteF ?_⟩⟩
  have sB : Same HA HB := xB
  have ho := sB _ _ ho
  have hn := sB _ _ hn
  have L1 := LikeAt.same L1 sB
  have L2 := LikeAt.same L2 sB
  have L3 := LikeAt.same L3 sB
  have S := S.trans sB
  clear sB xB hpa hpb L5
  -- what is told
  obtain ⟨dx, f1, f2, hp, _, _⟩ := id L2
  refine ⟨_, rfl, p2, dx, _, rfl, hp, fls _ _, _, rfl, po, _, 0, _, rfl, rfl, .of ho, rfl, _, rfl, po, _, 1, _, rfl, rfl, .of ho, rfl, rfl, p2, .inl o0, .inl o1, l2, rfl, L2, fun HC sC => ?_⟩
  have ho := sC _ _ ho
  have hn := sC _ _ hn
  have L1 := LikeAt.same L1 sC
  have L3 := LikeAt.same L3 sC
  have S := S.trans sC
  obtain ⟨dx, f1, f2, hp, _, _⟩ := id L3
  refine ⟨_, rfl, p3, dx, _, rfl, hp, fls _ _, _, rfl, pn, _, 0, _, rfl, rfl, .of hn, rfl, _, rfl, po, _, 2, _, rfl, rfl, .of ho, rfl, rfl, p3, .inl o2, .inr n0, l3, rfl, L3, fun HD sD => ?_⟩
  have ho := sD _ _ ho
  have hn := sD _ _ hn
  have L1 := LikeAt.same L1 sD
  have S := S.trans sD
  obtain ⟨dx, f1, f2, hp, _, _⟩ := id L1
  refine ⟨_, rfl, p1, dx, _, rfl, hp, fls _ _, _, rfl, po, _, 1, _, rfl, rfl, .of ho, rfl, _, rfl, po, _, 2, _, rfl, rfl, .of ho, rfl, p1, .inl o1, .inl o2, l1, rfl, L1, fun HE sE => ?_⟩
  have ho := sE _ _ ho
  have hn := sE _ _ hn
  have L1 := LikeAt.same L1 sE
  have S := S.trans sE
  obtain ⟨dx, f1, f2, hp, _, _⟩ := id L1
  refine ⟨_, rfl, p1, dx, _, rfl, hp, fls _ _, _, rfl, po, _, 1, _, rfl, rfl, .of ho, rfl, _, rfl, po, _, 2, _, rfl, rfl, .of ho, rfl, p1, .inl o1, .inl o2, l1, rfl, L1, fun HF sF => ?_⟩
  have S := S.trans sF
  rw [y1, y2, y3]
  refine ⟨sl rfl, fun t nt => ⟨_, rfl, sl rfl, fun u nu => ⟨t, u, _, rfl, old upd_same nu, upd_same, rfl, fun HG sG => ?_⟩⟩⟩
  exact q HG ((Same.new' (Same.new' S nt) nu).trans sG)
end
end K14
set_option Elab.async false
set_option linter.all false
set_option maxRecDepth 100000
set_option maxHeartbeats 4000000
namespace K14
open PySem PySem.Spec L2 Sx Lk
/-! ### shuffled, tied -/
def sp_shuffled : Sp := fun vs H Q _ => ∃ (a b : Addr) (n : Nat) (xs : List V), vs = [.ref a, .ref b] ∧ Deck H a n ∧ n + xs.length < 900000 ∧ H b = some (.lst xs) ∧ xs.length ≤ 1000 ∧
  ∀ (ys : List V) (p : Addr) (H' : Hp), ys.Perm xs → H p = none → Kept a H H' → Deck H' a (n + xs.length) → H' p = some (.lst ys) → Q (.ref p) H'
def hF (p : Fact) : HO := tF p.1 p.2.1 p.2.2
abbrev Fs (H : Hp) (D : Addr) (T : List Fact) : Prop := Objs hF H D T
theorem hF_nl (p : Fact) (xs : List V) : hF p ≠ .lst xs := fun q => nomatch q
theorem Fs.kept {H H' : Hp} {p a : Addr} {T : List Fact} {n : Nat} (h : Fs H p T) (d : Deck H a n) (ne : p ≠ a) (k : Kept a H H') : Fs H' p T := by
  obtain ⟨_, _, _, e, _⟩ := d
  exact Objs.kept k ne (fun r q => by rw [e] at q; exact hF_nl r _ (Option.some.inj q).symm) h
def sp_tied : Sp := fun vs H Q _ => ∃ (a g : Addr) (n : Nat) (xs : List Int), vs = [.ref a, .ref g] ∧ Deck H a n ∧ n + 2 * xs.length < 900000 ∧ H g = some (.lst (xs.map V.int)) ∧ g ≠ a ∧ xs ≠ [] ∧ xs.length ≤ 1000 ∧
  ∀ (T : List Fact) (p : Addr) (H' : Hp), (∀ f : Key → Key, HoldsF f T ↔ Cst f xs) → T.length ≤ xs.length → H p = none → Kept a H H' → Deck H' a (n + 2 * xs.length) → Fs H' p T → Q (.ref p) H'
theorem perm_erase {α : Type} : ∀ {xs : List α} {k : Nat} {x : α}, xs[k]? = some x → (x :: xs.eraseIdx k).Perm xs
  | _ :: _, 0, _, e => by simp at e; subst e; exact .refl _
  | y :: xs, k + 1, x, e => (List.Perm.swap y x _).trans ((perm_erase (xs := xs) (k := k) (by simpa using e)).cons y)
section
variable {P : Program} {w : World} {K : PySem.W.Frag} {mg : Str → Option Value} {base : Heap}
theorem c__law_shuffled (W : Wd K mg) : Cal P w K mg base CX0 2 "_law_shuffled" sp_shuffled [] := by
  obtain ⟨fd, F⟩ := W.f__law_shuffled
  refine calD F W.g__law_shuffled sc__law_shuffled (fun _ _ _ _ _ _ us hl => match us, hl with | [_, _], _ => rfl) (okD F sc__law_shuffled ?_ fun cdv A outer s H vs Q E hr h => ?_)
  · rintro _ _ _ _ ⟨a, b, n, xs, rfl, _⟩; rfl
  obtain ⟨a, b, n, xs, rfl, hD, hn, hb, hl, q⟩ := h
  have nd := sc__law_shuffled.nd
  refine ⟨_, (pss_cons (ps_set (i := 2) nd rfl (Or.inr rfl) (pe_callTy (call_list_of) rfl W.list_ (by decide +kernel) (pa_cons (pv 1) pa_nil))) (pss_one (ps_ret (pe_lc (own := [("k", 3)]) rfl nd (pi_range1 rfl W.range (pa_cons (pe_callB call_len_seq rfl W.len PySem.boot_len (pa_cons (pv 1) pa_nil)) pa_nil)) (blkOk_by (own := [("k", 3)]) (N := ["deck", "some", "left", "k"]) (sc := defScope s__law_shuffled) (by decide +kernel)) (fun _ _ _ _ _ => (pg_name (i := 3) nd rfl (Or.inl rfl))) (fun _ _ _ _ _ => pts_nil) (fun _ _ _ _ _ => (pe_bmK K rfl PySem.F.plainAttrs_list PySem.F.slot_list_pop PySem.F.type_list_pop mt_popAt (pv 2) (pa_cons (pe_f (c__law_draw W) hr (by decide) pass0 rfl (pa_cons (pv 0) (pa_cons (pe_callB (call_len_seqK K rfl) rfl W.len PySem.boot_len (pa_cons (pv 2) pa_nil)) pa_nil))) pa_nil))))))), ?_⟩
  refine ⟨_, rfl, b, _, rfl, .inl (.of hb), fun L nL => ?_⟩
  have hbL := old (u := .lst xs) hb nL
  refine ⟨_, rfl, b, _, rfl, .inl (.of hbL), _, rfl, by omega, by omega, fun D nD => ?_⟩
  have nD' : H D = none := (Same.new nL).free nD
  have nLD : L ≠ D := fun e => by rw [← e, upd_same] at nD; cases nD
  refine lc_it walk_range (fun i H' => ∃ rest got : List V, H' L = some (.lst rest) ∧ H' D = some (.lst got) ∧ (got ++ rest).Perm xs ∧ got.length = i ∧ Kept a H H' ∧ Deck H' a (n + i))
    ⟨xs, [], old upd_same nD, upd_same, .refl _, rfl, (Kept.new nL).new' nD, (hD.keep (Same.new nL)).keep (Same.new nD)⟩ (fun _ _ _ _ => trivial) ?_ ?_
  · rintro i x _ H1 hi ⟨rest, got, hL, hD1, pm, gl, k1, d1⟩ ⟨rfl, rfl⟩
    have hi' : i < xs.length := by simpa using hi
    have pl := pm.length_eq
    rw [List.length_append] at pl
    refine ⟨rfl, _, rfl, .inl ⟨rfl, _, .of hL⟩, _, rfl, _, rfl, L, _, rfl, .inl (.of hL), a, n + i, _, rfl, d1, by omega, by omega, by omega, fun r H2 r0 r1 k2 d2 => ?_⟩
    have hL2 := k2 _ _ (Ne.symm (hD.ne nL)) hL
    have hD2 := k2 _ _ (Ne.symm (hD.ne nD')) hD1
    obtain ⟨z, hz⟩ : ∃ z, rest[r.toNat]? = some z := ⟨_, List.getElem?_eq_getElem (by omega)⟩
    refine ⟨L, rest, r, r.toNat, z, rfl, rfl, hL2, by omega, by omega, ?_, hz, ?_⟩
    · exact seqIndex_of r0 r1
    · refine ⟨got, (upd_ne (Ne.symm nLD)).trans hD2, ?_, rest.eraseIdx r.toNat, got ++ [z], ?_, upd_same, ?_, by rw [List.length_append, gl]; rfl, ?_, ?_⟩
      · have : (1000 : Nat) < sizeLine := by decide
        omega
      · rw [upd_ne nLD, upd_same]
      · rw [List.append_assoc]
        exact ((perm_erase hz).append_left got).trans pm
      · exact ((k1.trans k2).at_new nL).at_new nD'
      · exact (d2.kept Kept.set (hD.ne nL)).kept Kept.set (hD.ne nD')
  · rintro H1 ⟨rest, got, hL, hD1, pm, gl, k1, d1⟩
    have e : (((xs.length : Nat) : Int)).toNat = xs.length := rfl
    rw [e] at gl d1
    have pl := pm.length_eq
    rw [List.length_append] at pl
    have r0 : rest = [] := List.length_eq_zero_iff.mp (by omega)
    rw [r0, List.append_nil] at pm
    exact q got D H1 pm nD' k1 d1 hD1
theorem c__law_tied (W : Wd K mg) : Cal P w K mg base CX0 2 "_law_tied" sp_tied [] := by
  obtain ⟨fd, F⟩ := W.f__law_tied
  refine calD F W.g__law_tied sc__law_tied (fun _ _ _ _ _ _ us hl => match us, hl with | [_, _], _ => rfl) (okD F sc__law_tied ?_ fun cdv A outer s H vs Q E hr h => ?_)
  · rintro _ _ _ _ ⟨a, g, n, xs, rfl, _⟩; rfl
  obtain ⟨a, g, n, xs, rfl, hD, hn, hg, nga, hne, hl, q⟩ := h
  have xpos : 0 < xs.length := List.length_pos_iff.mpr hne
  have nd := sc__law_tied.nd
  refine ⟨_, (pss_cons (ps_set (i := 2) nd rfl (Or.inl rfl) (pe_lst pa_nil)) (pss_cons (ps_for PassesOwn.never rfl (pi_range2 rfl W.range (pa_cons pe_int (pa_cons (pe_callB call_len_seq rfl W.len PySem.boot_len (pa_cons (pv 1) pa_nil)) pa_nil))) (pg_name (i := 3) nd rfl (Or.inl rfl)) (pss_cons (ps_set (i := 4) nd rfl (Or.inl rfl) (pe_lst (pa_cons (pe_ix ix_list (pv 1) (pv 3) (fun _ _ => rfl)) (pa_cons (pe_ix ix_list (pv 1) (pe_f (c__law_draw W) hr (by decide) pass0 rfl (pa_cons (pv 0) (pa_cons (pv 3) pa_nil))) (fun _ _ => rfl)) pa_nil)))) (C8.pss_cut (ps_if (pt_cmpR op_eq (pe_f (c__law_draw W) hr (by decide) pass0 rfl (pa_cons (pv 0) (pa_cons pe_int pa_nil))) pe_int (nomark _)) (pss_one (ps_set (i := 4) nd rfl (Or.inl rfl) (L2.pe_revL (pv 4)))) pss_nil) (pss_one (ps_expr (pe_bm PySem.F.plainAttrs_list PySem.F.slot_list_append PySem.F.type_list_append mt_append (pv 2) (pa_cons (pe_tup (pa_cons pe_bl (pa_cons (pe_ix ix_list (pv 4) pe_int (fun _ _ => rfl)) (pa_cons (pe_ix ix_list (pv 4) pe_int (fun _ _ => rfl)) pa_nil)))) pa_nil))))))) (pss_one (ps_ret (pv 2))))), ?_⟩
  refine ⟨sl rfl, fun L nL => ?_⟩
  have nLa := hD.ne nL
  have ngL : g ≠ L := ne_new hg nL
  refine ⟨_, rfl, g, _, rfl, .inl (.of (old hg nL)), _, _, rfl, ⟨by omega, by omega, by omega, by rw [List.length_map]; omega⟩, ?_⟩
  refine for_it walk_range (fun i σ' H' => ∃ v2 v3 T, σ' = [some (.ref a), some (.ref g), some (.ref L), v2, v3] ∧ (∀ f : Key → Key, HoldsF f T ↔ Cst f (xs.take (i + 1))) ∧ T.length = i ∧ Kept a H H' ∧ Deck H' a (n + 2 * i) ∧ Fs H' L T)
    ⟨none, none, [], rfl, fun f => ⟨fun _ => ?_, fun _ => holdsF_nil⟩, rfl, Kept.new nL, hD.keep (Same.new nL), .nil upd_same⟩ (fun _ _ _ _ _ => trivial) ?_ ?_
  · intro x hx y hy
    have one : ∀ z ∈ xs.take (0 + 1), z = xs[0] := fun z hz => by
      rw [List.take_add_one, List.getElem?_eq_getElem xpos] at hz
      simpa using hz
    rw [one x hx, one y hy]
  · rintro i x _ _ H1 hi ⟨v2, v3, T, rfl, hT, lT, k1, d1, f1⟩ ⟨rfl, rfl⟩
    have hi' : i + 1 < xs.length := by rw [List.length_map] at hi; omega
    have hg1 := k1 _ _ nga hg
    obtain ⟨u, hu⟩ : ∃ u, xs[i + 1]? = some u := ⟨_, List.getElem?_eq_getElem hi'⟩
    have atU : atI (xs.map V.int) (1 + (i : Int)) = some (.int u) := by
      rw [show (1 + (i : Int)) = ((i + 1 : Nat) : Int) by omega]
      exact atI_nat (by rw [List.getElem?_map, hu]; rfl)
    refine ⟨_, rfl, _, rfl, g, _, _, _, rfl, rfl, .of hg1, atU, _, rfl, _, rfl, _, rfl, a, n + 2 * i, _, rfl, d1, by omega, by omega, by omega, fun r H2 r0 r1 k2 d2 => ?_⟩
    have hg2 := k2 _ _ nga hg1
    have rlt : r.toNat < xs.length := by omega
    obtain ⟨v, hv⟩ : ∃ v, xs[r.toNat]? = some v := ⟨_, List.getElem?_eq_getElem rlt⟩
    have atV : atI (xs.map V.int) r = some (.int v) := atI_int r0 (by rw [List.getElem?_map, hv]; rfl)
    have vm : v ∈ xs.take (i + 1) := List.mem_of_getElem? (i := r.toNat) (by rw [List.getElem?_take, if_pos (by omega)]; exact hv)
    have f2 := Fs.kept f1 d1 (Ne.symm nLa) k2
    refine ⟨g, _, _, _, rfl, rfl, .of hg2, atV, sl rfl, fun p np => ?_⟩
    have npa : a ≠ p := d2.ne np
    refine ⟨fun σ' H' => ∃ (p' : Addr) (u' v' : Int), σ' = [some (.ref a), some (.ref g), some (.ref L), some (.int (1 + (i : Int))), some (.ref p')] ∧ H' p' = some (.lst [.int u', .int v']) ∧ ((u' = u ∧ v' = v) ∨ (u' = v ∧ v' = u)) ∧ Kept a H H' ∧ Deck H' a (n + 2 * i + 2) ∧ Fs H' L T, ?_, ?_⟩
    · have d2' := d2.keep (Same.new (u := .lst [.int u, .int v]) np)
      have f2' := f2.same (Same.new (u := .lst [.int u, .int v]) np)
      refine ⟨_, rfl, a, n + 2 * i + 1, 2, rfl, d2', by omega, by decide, by decide, fun r3 H3 r30 r31 k3 d3 => ?_⟩
      have hp3 := k3 _ _ (Ne.symm npa) upd_same
      have kk : Kept a H H3 := (k1.trans (k2.new' np)).trans k3
      have f3 := Fs.kept f2' d2' (Ne.symm nLa) k3
      refine ⟨rfl, _, rfl, ite2 (fun _ => ?_) fun _ => ?_⟩
      · exact ⟨_, rfl, p, _, rfl, .of hp3, fun p2 np2 => ⟨p2, v, u, rfl, upd_same, .inr ⟨rfl, rfl⟩, kk.new' np2, d3.keep (Same.new np2), f3.same (Same.new np2)⟩⟩
      · exact ⟨p, u, v, rfl, hp3, .inl ⟨rfl, rfl⟩, kk, d3, f3⟩
    · rintro _ H3 ⟨p', u', v', rfl, hp', uv, kk, d3, f3⟩
      obtain ⟨acc, hacc, hal⟩ := f3.lst
      refine ⟨_, rfl, .inl ⟨rfl, _, .of hacc⟩, _, rfl, p', _, 0, _, rfl, rfl, .of hp', rfl, _, rfl, p', _, 1, _, rfl, rfl, .of hp', rfl, sl rfl, fun t nt => ?_⟩
      have hacc' := old (u := .tup [.bl true, .int u', .int v']) hacc nt
      refine ⟨L, acc, _, rfl, rfl, hacc', ?_, _, _, T ++ [(true, .inl u', .inl v')], rfl, fun f => tied_step (hT f) hu vm ?_, by rw [List.length_append, lT]; rfl, ?_, ?_, ?_⟩
      · have : (1000 : Nat) < sizeLine := by decide
        omega
      · rcases uv with ⟨rfl, rfl⟩ | ⟨rfl, rfl⟩
        · exact .inl rfl
        · exact .inr rfl
      · exact (kk.new' nt).at_new nL
      · exact (d3.keep (Same.new nt)).kept Kept.set nLa
      · exact (f3.same (Same.new nt)).push hF_nl hacc' upd_same
  · rintro _ H1 ⟨v2, v3, T, rfl, hT, lT, k1, d1, f1⟩
    have e : ((((xs.map V.int).length : Nat) : Int) - 1).toNat + 1 = xs.length := by rw [List.length_map]; omega
    refine ⟨_, rfl, q T L H1 (fun f => ?_) (by omega) nL k1 (d1.mono (by omega)) f1⟩
    rw [hT f, e, List.take_length]
end
end K14
set_option Elab.async false
set_option linter.all false
set_option maxRecDepth 100000
set_option maxHeartbeats 4000000
namespace K14
open PySem PySem.Spec L2 Sx Lk
/-! ### what is due of a group -/
def dueL (way g : Nat) : List (Option Bool) := if way = 2 then [none, none, none] else if g = 0 then [some true, some false, some false] else [some false, if way = 1 then some true else none, if way = 1 then some false else none]
def sp_dueG : Sp := fun vs H Q _ => ∃ way g : Nat, vs = [.int way, .int g] ∧ way < 4 ∧ g < 2 ∧ ∀ (p : Addr) (H' : Hp), H p = none → Same H H' → H' p = some (.lst ((dueL way g).map sayV)) → Q (.ref p) H'
def sp_so (K : PySem.W.Frag) : Sp := fun vs H Q _ => ∃ (p : Addr) (x y : Key) (l : L), vs = [.ref p, kV x, kV y, sayV (says l x y)] ∧ LikeAt (CL K) H p l ∧ WF l ∧ sz l < 100000 ∧ ∀ H', Same H H' → Q (.bl true) H'
section
variable {P : Program} {w : World} {K : PySem.W.Frag} {mg : Str → Option Value} {base : Heap}
theorem c__law_due_of_group (W : Wd K mg) : Cal P w K mg base CX0 1 "_law_due_of_group" sp_dueG [] := by
  obtain ⟨fd, F⟩ := W.f__law_due_of_group
  refine calD F W.g__law_due_of_group sc__law_due_of_group (fun _ _ _ _ _ _ us hl => match us, hl with | [_, _], _ => rfl) (okD F sc__law_due_of_group ?_ fun cdv A outer s H vs Q E hr h => ?_)
  · rintro _ _ _ _ ⟨way, g, rfl, _⟩; rfl
  obtain ⟨way, g, rfl, hw, hg, q⟩ := h
  have nd := sc__law_due_of_group.nd
  refine ⟨_, (pss_cons (ps_if (pt_cmpR op_eq (pv 0) pe_int (nomark _)) (pss_one (ps_ret (pe_lst (pa_cons pe_non (pa_cons pe_non (pa_cons pe_non pa_nil)))))) pss_nil) (pss_cons (ps_if (pt_cmpR op_eq (pv 1) pe_int (nomark _)) (pss_one (ps_ret (pe_lst (pa_cons pe_bl (pa_cons pe_bl (pa_cons pe_bl pa_nil)))))) pss_nil) (pss_one (ps_ret (pe_lst (pa_cons pe_bl (pa_cons (pe_ix ix_list (pe_lst (pa_cons pe_non (pa_cons pe_bl (pa_cons pe_non (pa_cons pe_non pa_nil))))) (pv 0) (fun _ _ => rfl)) (pa_cons (pe_ix ix_list (pe_lst (pa_cons pe_non (pa_cons pe_bl (pa_cons pe_non (pa_cons pe_non pa_nil))))) (pv 0) (fun _ _ => rfl)) pa_nil)))))))), ?_⟩
  have last : ∀ (i : Nat) (x y : Option Bool), way = i → i ≠ 2 → g = 1 → (if i = 1 then some true else none) = x → (if i = 1 then some false else none) = y →
      ∀ (p : Addr) (H' : Hp), H p = none → Same H H' → H' p = some (.lst [.bl false, sayV x, sayV y]) → Q (.ref p) H' := by
    rintro i x y rfl n2 rfl rfl rfl p H' hp s e
    refine q p H' hp s ?_
    unfold dueL
    rw [if_neg n2, if_neg (by decide)]
    exact e
  refine ⟨_, rfl, rfl, _, rfl, ite2 (fun c => ?_) fun c => ?_⟩
  · have c := of_decide_eq_true c
    have w2 : way = 2 := by have := V.int.inj c; omega
    refine ⟨sl rfl, fun p hp => q p _ hp (Same.new hp) ?_⟩
    unfold dueL
    rw [if_pos w2, upd_same]
    rfl
  · have w2 : way ≠ 2 := fun e => c (decide_eq_true (by rw [e]; rfl))
    refine ⟨_, rfl, rfl, _, rfl, ite2 (fun c => ?_) fun c => ?_⟩
    · have c := of_decide_eq_true c
      have g0 : g = 0 := by have := V.int.inj c; omega
      refine ⟨sl rfl, fun p hp => q p _ hp (Same.new hp) ?_⟩
      unfold dueL
      rw [if_neg w2, if_pos g0, upd_same]
      rfl
    · have g1 : g = 1 := by
        have : g ≠ 0 := fun e => c (decide_eq_true (by rw [e]; rfl))
        omega
      obtain ⟨v1, e1, h1⟩ : ∃ v1, atI [V.non, .bl true, .non, .non] (way : Int) = some (sayV v1) ∧ (if way = 1 then some true else none) = v1 := by
        have h : way = 0 ∨ way = 1 ∨ way = 3 := by omega
        rcases h with rfl | rfl | rfl
        · exact ⟨none, rfl, rfl⟩
        · exact ⟨some true, rfl, rfl⟩
        · exact ⟨none, rfl, rfl⟩
      obtain ⟨v2, e2, h2⟩ : ∃ v2, atI [V.non, .bl false, .non, .non] (way : Int) = some (sayV v2) ∧ (if way = 1 then some false else none) = v2 := by
        have h : way = 0 ∨ way = 1 ∨ way = 3 := by omega
        rcases h with rfl | rfl | rfl
        · exact ⟨none, rfl, rfl⟩
        · exact ⟨some false, rfl, rfl⟩
        · exact ⟨none, rfl, rfl⟩
      refine ⟨sl rfl, fun m nm => ⟨_, rfl, m, _, _, _, rfl, rfl, .of upd_same, e1, sl rfl, fun m2 nm2 => ⟨_, rfl, m2, _, _, _, rfl, rfl, .of upd_same, e2, sl rfl, fun p hp => ?_⟩⟩⟩
      have s2 := Same.new' (u := .lst [V.non, .bl false, .non, .non]) (Same.new (u := .lst [V.non, .bl true, .non, .non]) nm) nm2
      exact last way v1 v2 rfl w2 g1 h1 h2 p _ (s2.free hp) (Same.new' s2 hp) upd_same
theorem c__law_so (W : Wd K mg) : Cal P w K mg base CX0 5 "_law_so" (sp_so K) [] := by
  obtain ⟨fd, F⟩ := W.f__law_so
  refine calD F W.g__law_so sc__law_so (fun _ _ _ _ _ _ us hl => match us, hl with | [_, _, _, _], _ => rfl) (okD F sc__law_so ?_ fun cdv A outer s H vs Q E hr h => ?_)
  · rintro _ _ _ _ ⟨p, x, y, l, rfl, _⟩; rfl
  obtain ⟨p, x, y, l, rfl, hl, wf, hz', q⟩ := h
  have hu := hu_of hr
  have nd := sc__law_so.nd
  refine ⟨_, (pss_cons (ps_if (PW.pt (pw_or (pt_not (pt_val (pe_f (c_same0 W) hr (by decide) pass0 rfl (pa_cons (pe_m (m_Likeness_says W) hr (by decide) pass0 (pv 0) (pa_cons (pv 1) (pa_cons (pv 2) pa_nil))) (pa_cons (pv 3) pa_nil))))) (pw_or1 (pt_not (pt_val (pe_f (c_same0 W) hr (by decide) pass0 rfl (pa_cons (pe_m (m_Likeness_says W) hr (by decide) pass0 (pv 0) (pa_cons (pv 2) (pa_cons (pv 1) pa_nil))) (pa_cons (pv 3) pa_nil)))))))) (pss_one (ps_ret pe_bl)) pss_nil) (pss_cons (ps_for PassesOwn.never rfl (pi_tup (pe_tup (pa_cons pe_bl (pa_cons pe_bl pa_nil)))) (pg_name (i := 4) nd rfl (Or.inl rfl)) (pss_cons (ps_set (i := 5) nd rfl (Or.inl rfl) (pe_f (c__law_heard W) hr (by decide) pass0 rfl (pa_cons (pv 0) (pa_cons (pe_tup (pa_cons (pv 4) (pa_cons (pv 1) (pa_cons (pv 2) pa_nil)))) pa_nil)))) (pss_cons (ps_if (pt_cmpR op_ne (pe_callB call_isi rfl W.isinstance (by decide +kernel) (pa_cons (pv 5) (pa_cons (pe_bltn (v := .ty "str") rfl W.str (by decide +kernel) rfl) pa_nil))) (pe_and (pe_cmp (pc_notN (pv 3)) rfl) (pe_one (pe_cmpR op_ne (pv 3) (pv 4) (nomark _)))) (nomark _)) (pss_one (ps_ret pe_bl)) pss_nil) (pss_one (ps_if (PW.pt (pw_or (PW.pt (pw_and (pt_val (pe_callB call_isi rfl W.isinstance (by decide +kernel) (pa_cons (pv 5) (pa_cons (pe_bltn (v := .ty "str") rfl W.str (by decide +kernel) rfl) pa_nil)))) (pw_and1 (pt_cmpR op_ne (pv 5) pe_str (nomark _))))) (pw_or1 (PW.pt (pw_and (pt_cmp (pc_notN (pv 3))) (pw_and (pt_cmpR op_eq (pv 3) (pv 4) (nomark _)) (pw_and1 (pt_not (pt_cmpR (op_eqG (rc_Like W) (hr.mono (by decide))) (pv 5) (pv 0) (nomark _)))))))))) (pss_one (ps_ret pe_bl)) pss_nil))))) (pss_one (ps_ret pe_bl)))), ?_⟩
  have fls : ∀ d1 d2, (flds d1 d2).lookup ("says" : Str) = none := fun d1 d2 => fl0 d1 d2 (by decide +kernel) (by decide +kernel)
  obtain ⟨dx, f1, f2, hp, _, _⟩ := id hl
  have sm := small_say (says l x y)
  refine ⟨_, rfl, p, dx, _, rfl, hp, fls _ _, _, rfl, _, rfl, p, x, y, l, rfl, hl, fun H1 s1 => ⟨_, rfl, _, _, rfl, sm, sm, _, rfl, ?_⟩⟩
  rw [decT]
  have hl := LikeAt.same hl s1
  refine iteF ⟨_, rfl, p, dx, _, rfl, s1 _ _ hp, fls _ _, _, rfl, _, rfl, p, y, x, l, rfl, hl, fun H2 s2 => ?_⟩
  rw [says_comm l y x]
  refine ⟨_, rfl, _, _, rfl, sm, sm, _, rfl, ?_⟩
  rw [decT]
  have hl := LikeAt.same hl s2
  have S2 := s1.trans s2
  refine iteF ⟨sl rfl, fun T nT => ⟨T, rfl, ⟨_, .of upd_same⟩, ?_⟩⟩
  refine for_it (walk_tup (xs := [.bl true, .bl false])) (fun i σ' H' => ∃ v4 v5, σ' = [some (.ref p), some (kV x), some (kV y), some (sayV (says l x y)), v4, v5] ∧ Same H H' ∧ LikeAt (CL K) H' p l ∧ H' T = some (.tup [.bl true, .bl false]))
    ⟨none, none, rfl, Same.new' S2 nT, LikeAt.same hl (Same.new nT), upd_same⟩ (fun i σ' H' _ z => let ⟨_, _, _, _, _, h⟩ := z; .of h) ?_ ?_
  · rintro i z _ _ H3 hi ⟨v4, v5, rfl, S3, L3, hT⟩ ⟨rfl, hz⟩
    obtain ⟨b, rfl⟩ : ∃ b : Bool, z = .bl b := by
      match i, hi with
      | 0, _ => exact ⟨true, (Option.some.inj hz).symm⟩
      | 1, _ => exact ⟨false, (Option.some.inj hz).symm⟩
    refine ⟨_, rfl, _, rfl, _, rfl, _, rfl, sl rfl, fun t nt => ⟨p, t, l, b, x, y, rfl, LikeAt.same L3 (Same.new nt), wf, hz', upd_same, fun l' e p' H4 s4 L4 => ?_, fun e H4 s4 => ?_⟩⟩
    · have L3 := LikeAt.same (LikeAt.same L3 (Same.new nt)) s4
      have S4 : Same H H4 := (Same.new' S3 nt).trans s4
      have hT4 := s4 _ _ (old hT nt)
      obtain ⟨dx', g1, g2, hp', _, _⟩ := id L4
      have nk : says l x y ≠ some (!b) := fun z => by
        rw [hear_none.mpr z] at e
        cases e
      refine ⟨_, rfl, _, _, _, _, _, rfl, .ty _, .base (.ins hp' W.cl_Likeness W.all.ins.ha W.all.ins.hn W.all.ins.ht W.all.ins.hm), W.all.kS, ?_⟩
      cases c : says l x y with
      | none =>
        rw [c] at nk
        refine ⟨_, rfl, _, rfl, iteF ⟨rfl, _, rfl, iteF ?_⟩⟩
        refine ⟨_, rfl, _, _, _, _, _, rfl, .ty _, .base (.ins hp' W.cl_Likeness W.all.ins.ha W.all.ins.hn W.all.ins.ht W.all.ins.hm), W.all.kS, _, rfl, iteF (iteF ⟨_, rfl, _, rfl, iteF (iteF ?_)⟩)⟩
        exact ⟨_, _, rfl, S4, L3, hT4⟩
      | some k =>
        have kb : k = b := by
          rw [c] at nk
          cases k <;> cases b <;> simp_all
        subst kb
        have el : l = l' := by
          rw [hear_known c] at e
          exact Option.some.inj e
        subst el
        refine ⟨_, rfl, _, rfl, iteT ⟨_, rfl, _, rfl, rfl, rfl, _, rfl, ?_⟩⟩
        have dt : decide (sayV (some k) = V.bl k) = true := decide_eq_true rfl
        rw [dt]
        refine iteF ?_
        refine ⟨_, rfl, _, _, _, _, _, rfl, .ty _, .base (.ins hp' W.cl_Likeness W.all.ins.ha W.all.ins.hn W.all.ins.ht W.all.ins.hm), W.all.kS, _, rfl, iteF (iteF ⟨_, rfl, _, rfl, iteT ⟨_, rfl, _, rfl, rfl, _, rfl, ?_⟩⟩)⟩
        rw [dt]
        obtain ⟨dy, g3, g4, hp3, _, _⟩ := id L3
        refine iteT ⟨_, rfl, _, rfl, ⟨p', p, dx', dy, _, _, rfl, rfl, hp', hp3, l, wf, L4, L3⟩, fun H5 x5 => ⟨_, rfl, iteF ?_⟩⟩
        have x5 : Same H4 H5 := x5
        exact ⟨_, _, rfl, S4.trans x5, LikeAt.same L3 x5, x5 _ _ hT4⟩
    · have L3 := LikeAt.same (LikeAt.same L3 (Same.new nt)) s4
      have S4 : Same H H4 := (Same.new' S3 nt).trans s4
      have hT4 := s4 _ _ (old hT nt)
      have c := hear_none.mp e
      rw [c]
      have dn : decide (sayV (some (!b)) = V.bl b) = false := decide_eq_false fun z => by
        have := V.bl.inj z
        cases b <;> cases this
      refine ⟨_, rfl, _, _, _, _, _, rfl, .ty _, .base (.str _), kit_ty (a := "str") (b := "str") (r := true) (by decide +kernel), ?_⟩
      refine ⟨_, rfl, _, rfl, iteT ⟨_, rfl, _, rfl, rfl, rfl, _, rfl, ?_⟩⟩
      rw [dn]
      refine iteF ?_
      refine ⟨_, rfl, _, _, _, _, _, rfl, .ty _, .base (.str _), kit_ty (a := "str") (b := "str") (r := true) (by decide +kernel), _, rfl, iteT ⟨_, rfl, rfl, _, rfl, iteF ⟨_, rfl, _, rfl, iteT ⟨_, rfl, _, rfl, rfl, _, rfl, ?_⟩⟩⟩⟩
      rw [dn]
      refine iteF (iteF ?_)
      exact ⟨_, _, rfl, S4, L3, hT4⟩
  · rintro _ H3 ⟨v4, v5, rfl, S3, L3, hT⟩
    exact q H3 S3
end
end K14
set_option Elab.async false
set_option linter.all false
set_option maxRecDepth 100000
set_option maxHeartbeats 4000000
namespace K14
open PySem PySem.Spec L2 Sx Lk
/-! ### parted -/
structure Grp (H : Hp) (dk G gA gB gC : Addr) (A B C : List Int) : Prop where
  g : H G = some (.lst [.ref gA, .ref gB, .ref gC])
  ng : G ≠ dk
  a : H gA = some (.lst (A.map V.int))
  na : gA ≠ dk
  b : H gB = some (.lst (B.map V.int))
  nb : gB ≠ dk
  c : H gC = some (.lst (C.map V.int))
  nc : gC ≠ dk
  la : A ≠ [] ∧ A.length ≤ 1000
  lb : B ≠ [] ∧ B.length ≤ 1000
  lc : C ≠ [] ∧ C.length ≤ 1000
section
variable {H H' : Hp} {dk G gA gB gC : Addr} {A B C : List Int}
theorem Grp.same (h : Grp H dk G gA gB gC A B C) (s : Same H H') : Grp H' dk G gA gB gC A B C :=
  ⟨s _ _ h.g, h.ng, s _ _ h.a, h.na, s _ _ h.b, h.nb, s _ _ h.c, h.nc, h.la, h.lb, h.lc⟩
theorem Grp.kept (h : Grp H dk G gA gB gC A B C) (s : Kept dk H H') : Grp H' dk G gA gB gC A B C :=
  ⟨s _ _ h.ng h.g, h.ng, s _ _ h.na h.a, h.na, s _ _ h.nb h.b, h.nb, s _ _ h.nc h.c, h.nc, h.la, h.lb, h.lc⟩
theorem ne_map {xs : List Int} (h : xs ≠ []) : xs.map V.int ≠ [] := fun e => h (List.map_eq_nil_iff.mp e)
theorem len_map {xs : List Int} (h : xs.length ≤ 1000) : (xs.map V.int).length < 100000 := by rw [List.length_map]; omega
end
def sp_parted_ : Sp := fun vs H Q _ => ∃ (dk G pn : Addr) (n way : Nat) (gA gB gC : Addr) (A B C : List Int) (n0 n1 n2 : Str), vs = [.ref dk, .ref G, .ref pn, .int way] ∧ Deck H dk n ∧ n < 900000 ∧ Grp H dk G gA gB gC A B C ∧ H pn = some (.lst [.str n0, .str n1, .str n2]) ∧ pn ≠ dk ∧ way < 4 ∧
  ∀ (x y z : Int) (p : Addr) (H' : Hp), x ∈ A → y ∈ B → z ∈ A → H p = none → Kept dk H H' → Deck H' dk (n + 3) → Fs H' p (partF way x y z n0 n1) → Q (.ref p) H'
section
variable {P : Program} {w : World} {K : PySem.W.Frag} {mg : Str → Option Value} {base : Heap}
theorem c__law_parted (W : Wd K mg) : Cal P w K mg base CX0 3 "_law_parted" sp_parted_ [] := by
  obtain ⟨fd, F⟩ := W.f__law_parted
  refine calD F W.g__law_parted sc__law_parted (fun _ _ _ _ _ _ us hl => match us, hl with | [_, _, _, _], _ => rfl) (okD F sc__law_parted ?_ fun cdv Ar outer s H vs Q E hr h => ?_)
  · rintro _ _ _ _ ⟨dk, G, pn, n, way, gA, gB, gC, A, B, C, n0, n1, n2, rfl, _⟩; rfl
  obtain ⟨dk, G, pn, n, way, gA, gB, gC, A, B, C, n0, n1, n2, rfl, hD, hn, g, hpn, npn, hw, q⟩ := h
  have nd := sc__law_parted.nd
  refine ⟨_, (pss_cons (ps_par (i := 4) (j := 5) rfl nd rfl rfl (by decide) rfl rfl (pa_cons (pe_f (c__law_pick W) hr (by decide) pass0 rfl (pa_cons (pv 0) (pa_cons (pe_ix ix_list (pv 1) pe_int (fun _ _ => rfl)) pa_nil))) (pa_cons (pe_f (c__law_pick W) hr (by decide) pass0 rfl (pa_cons (pv 0) (pa_cons (pe_ix ix_list (pv 1) pe_int (fun _ _ => rfl)) pa_nil))) pa_nil)) rfl) (pss_cons (ps_set (i := 6) nd rfl (Or.inl rfl) (pe_ix ix_list (pe_lst (pa_cons (pe_lst (pa_cons (pe_tup (pa_cons pe_bl (pa_cons (pv 4) (pa_cons (pv 5) pa_nil)))) pa_nil)) (pa_cons (pe_lst (pa_cons (pe_tup (pa_cons pe_bl (pa_cons (pe_ix ix_list (pv 2) pe_int (fun _ _ => rfl)) (pa_cons (pv 5) pa_nil)))) pa_nil)) (pa_cons (pe_lst (pa_cons (pe_tup (pa_cons pe_bl (pa_cons (pv 4) (pa_cons (pv 5) pa_nil)))) pa_nil)) (pa_cons (pe_lst (pa_cons (pe_tup (pa_cons pe_bl (pa_cons (pe_ix ix_list (pv 2) pe_int (fun _ _ => rfl)) (pa_cons (pv 5) pa_nil)))) pa_nil)) pa_nil))))) (pv 3) (fun _ _ => rfl))) (pss_cons (ps_if (pt_cmpR op_ne (pv 3) pe_int (nomark _)) (pss_one (ps_set (i := 6) nd rfl (Or.inl rfl) (pe_op op_cat (pv 6) (pe_lst (pa_cons (pe_tup (pa_cons pe_bl (pa_cons (pe_f (c__law_pick W) hr (by decide) pass0 rfl (pa_cons (pv 0) (pa_cons (pe_ix ix_list (pv 1) pe_int (fun _ _ => rfl)) pa_nil))) (pa_cons (pe_ix ix_list (pv 2) pe_int (fun _ _ => rfl)) pa_nil)))) pa_nil))))) pss_nil) (pss_one (ps_ret (pv 6)))))), ?_⟩
  refine ⟨_, rfl, _, rfl, G, _, 0, _, rfl, rfl, .of g.g, rfl, dk, gA, n, _, rfl, hD, by omega, Ne.symm g.na, .of g.a, ne_map g.la.1, len_map g.la.2, fun x H1 hx k1 d1 => ?_⟩
  have g1 := g.kept k1
  refine ⟨_, rfl, _, rfl, G, _, 1, _, rfl, rfl, .of g1.g, rfl, dk, gB, n + 1, _, rfl, d1, by omega, Ne.symm g.nb, .of g1.b, ne_map g.lb.1, len_map g.lb.2, fun y H2 hy k2 d2 => ⟨_, _, rfl, ?_⟩⟩
  obtain ⟨x, hx', rfl⟩ := List.mem_map.mp hx
  obtain ⟨y, hy', rfl⟩ := List.mem_map.mp hy
  have hx := hx'
  have hy := hy'
  have g2 := g1.kept k2
  have hpn2 := k2 _ _ npn (k1 _ _ npn hpn)
  have k2' := k1.trans k2
  -- the four lists
  refine ⟨_, rfl, _, rfl, sl rfl, fun t0 nt0 => ⟨sl rfl, fun m0 nm0 => ?_⟩⟩
  have S1 : Same H2 (upd (upd H2 t0 (.tup [.bl false, .int x, .int y])) m0 (.lst [.ref t0])) := Same.new' (Same.new nt0) nm0
  have ht0 : upd (upd H2 t0 (.tup [.bl false, .int x, .int y])) m0 (.lst [.ref t0]) t0 = some (hF (false, .inl x, .inl y)) := old upd_same nm0
  have hm0 : upd (upd H2 t0 (.tup [.bl false, .int x, .int y])) m0 (.lst [.ref t0]) m0 = some (.lst [.ref t0]) := upd_same
  generalize upd (upd H2 t0 (.tup [.bl false, .int x, .int y])) m0 (.lst [.ref t0]) = H3 at S1 ht0 hm0 ⊢
  refine ⟨_, rfl, pn, _, 1, _, rfl, rfl, .of (S1 _ _ hpn2), rfl, _, rfl, sl rfl, fun t1 nt1 => ⟨sl rfl, fun m1 nm1 => ?_⟩⟩
  have S2 : Same H3 (upd (upd H3 t1 (.tup [.bl true, .str n1, .int y])) m1 (.lst [.ref t1])) := Same.new' (Same.new nt1) nm1
  have ht1 : upd (upd H3 t1 (.tup [.bl true, .str n1, .int y])) m1 (.lst [.ref t1]) t1 = some (hF (true, .inr n1, .inl y)) := old upd_same nm1
  have hm1 : upd (upd H3 t1 (.tup [.bl true, .str n1, .int y])) m1 (.lst [.ref t1]) m1 = some (.lst [.ref t1]) := upd_same
  generalize upd (upd H3 t1 (.tup [.bl true, .str n1, .int y])) m1 (.lst [.ref t1]) = H4 at S2 ht1 hm1 ⊢
  refine ⟨_, rfl, _, rfl, sl rfl, fun t2 nt2 => ⟨sl rfl, fun m2 nm2 => ?_⟩⟩
  have S3 : Same H4 (upd (upd H4 t2 (.tup [.bl false, .int x, .int y])) m2 (.lst [.ref t2])) := Same.new' (Same.new nt2) nm2
  have ht2 : upd (upd H4 t2 (.tup [.bl false, .int x, .int y])) m2 (.lst [.ref t2]) t2 = some (hF (false, .inl x, .inl y)) := old upd_same nm2
  have hm2 : upd (upd H4 t2 (.tup [.bl false, .int x, .int y])) m2 (.lst [.ref t2]) m2 = some (.lst [.ref t2]) := upd_same
  generalize upd (upd H4 t2 (.tup [.bl false, .int x, .int y])) m2 (.lst [.ref t2]) = H5 at S3 ht2 hm2 ⊢
  refine ⟨_, rfl, pn, _, 0, _, rfl, rfl, .of (S3 _ _ (S2 _ _ (S1 _ _ hpn2))), rfl, _, rfl, sl rfl, fun t3 nt3 => ⟨sl rfl, fun m3 nm3 => ?_⟩⟩
  have S4 : Same H5 (upd (upd H5 t3 (.tup [.bl false, .str n0, .int y])) m3 (.lst [.ref t3])) := Same.new' (Same.new nt3) nm3
  have ht3 : upd (upd H5 t3 (.tup [.bl false, .str n0, .int y])) m3 (.lst [.ref t3]) t3 = some (hF (false, .inr n0, .inl y)) := old upd_same nm3
  have hm3 : upd (upd H5 t3 (.tup [.bl false, .str n0, .int y])) m3 (.lst [.ref t3]) m3 = some (.lst [.ref t3]) := upd_same
  generalize upd (upd H5 t3 (.tup [.bl false, .str n0, .int y])) m3 (.lst [.ref t3]) = H6 at S4 ht3 hm3 ⊢
  refine ⟨sl rfl, fun M nM => ?_⟩
  have S5 : Same H6 (upd H6 M (.lst [.ref m0, .ref m1, .ref m2, .ref m3])) := Same.new nM
  have hM : upd H6 M (.lst [.ref m0, .ref m1, .ref m2, .ref m3]) M = some (.lst [.ref m0, .ref m1, .ref m2, .ref m3]) := upd_same
  generalize upd H6 M (.lst [.ref m0, .ref m1, .ref m2, .ref m3]) = H7 at S5 hM ⊢
  have s37 : Same H3 H7 := ((S2.trans S3).trans S4).trans S5
  have s47 : Same H4 H7 := (S3.trans S4).trans S5
  have s57 : Same H5 H7 := S4.trans S5
  have s27 : Same H2 H7 := S1.trans s37
  obtain ⟨m, t, f, hat, hm, ht, nm, hf⟩ : ∃ (m t : Addr) (f : Fact), atI [V.ref m0, .ref m1, .ref m2, .ref m3] (way : Int) = some (.ref m) ∧ H7 m = some (.lst [.ref t]) ∧ H7 t = some (hF f) ∧ H2 m = none ∧
      (if way = 0 then [(false, Sum.inl x, Sum.inl y)] else if way = 1 then [(true, Sum.inr n1, Sum.inl y)] else if way = 2 then [(false, Sum.inl x, Sum.inl y)] else [(false, Sum.inr n0, Sum.inl y)] : List Fact) = [f] := by
    have h : way = 0 ∨ way = 1 ∨ way = 2 ∨ way = 3 := by omega
    rcases h with rfl | rfl | rfl | rfl
    · exact ⟨m0, t0, _, rfl, s37 _ _ hm0, s37 _ _ ht0, (Same.new nt0).free nm0, rfl⟩
    · exact ⟨m1, t1, _, rfl, s47 _ _ hm1, s47 _ _ ht1, S1.free ((Same.new nt1).free nm1), rfl⟩
    · exact ⟨m2, t2, _, rfl, s57 _ _ hm2, s57 _ _ ht2, S1.free (S2.free ((Same.new nt2).free nm2)), rfl⟩
    · exact ⟨m3, t3, _, rfl, S5 _ _ hm3, S5 _ _ ht3, S1.free (S2.free (S3.free ((Same.new nt3).free nm3))), rfl⟩
  have g7 := g2.same s27
  have d7 := d2.keep s27
  have k7 : Kept dk H H7 := k2'.trans (.of s27)
  have hpn7 := s27 _ _ hpn2
  refine ⟨_, rfl, M, _, _, _, rfl, rfl, .of hM, hat, ?_⟩
  refine ⟨_, rfl, rfl, _, rfl, ite2 (fun c => ?_) fun c => ?_⟩
  · have w2 : way ≠ 2 := fun e => by rw [e] at c; exact absurd c (by decide)
    refine ⟨_, rfl, _, rfl, _, rfl, G, _, 0, _, rfl, rfl, .of g7.g, rfl, dk, gA, n + 2, _, rfl, d7, by omega, Ne.symm g.na, .of g7.a, ne_map g.la.1, len_map g.la.2, fun z H8 hz k8 d8 => ?_⟩
    obtain ⟨z, hz', rfl⟩ := List.mem_map.mp hz
    have hz := hz'
    have nmk : m ≠ dk := Ne.symm (d2.ne nm)
    refine ⟨_, rfl, pn, _, 0, _, rfl, rfl, .of (k8 _ _ npn hpn7), rfl, sl rfl, fun t5 nt5 => ⟨sl rfl, fun m5 nm5 => ⟨m, m5, _, _, rfl, rfl, old (old (k8 _ _ nmk hm) nt5) nm5, upd_same, (by show 2 ≤ sizeLine; decide), fun p np => ⟨_, rfl, ?_⟩⟩⟩⟩
    have S8 : Same H8 (upd (upd H8 t5 (.tup [.bl true, .int z, .str n0])) m5 (.lst [.ref t5])) := Same.new' (Same.new nt5) nm5
    refine q x y z p _ hx hy hz ((d8.keep S8).free (k7.trans (k8.trans (.of S8))) np) ((k7.trans (k8.trans (.of S8))).new' np) ((d8.keep S8).keep (Same.new np)) ?_
    unfold partF
    rw [hf, if_neg w2]
    have ht7 : t ≠ dk := fun e => by
      obtain ⟨_, _, _, e2, _⟩ := d7
      rw [e, e2] at ht
      exact hF_nl f _ (Option.some.inj ht).symm
    exact ⟨[t, t5], upd_same, .cons (old (S8 _ _ (k8 _ _ ht7 ht)) np) (.cons (old (old upd_same nm5) np) .nil)⟩
  · have w2 : way = 2 := by
      by_cases e : way = 2
      · exact e
      · refine absurd ?_ c
        have : ¬ (V.int (way : Nat) = V.int 2) := fun z => e (by have := V.int.inj z; omega)
        rw [decide_eq_false this]; rfl
    obtain ⟨z, hz⟩ := List.exists_mem_of_ne_nil A g.la.1
    refine ⟨_, rfl, q x y z m H7 hx hy hz (d2.free k2' nm) k7 (d7.mono (by omega)) ?_⟩
    unfold partF
    rw [hf, if_pos w2]
    exact ⟨[t], hm, .cons ht .nil⟩
end
end K14
set_option Elab.async false
set_option linter.all false
set_option maxRecDepth 100000
set_option maxHeartbeats 4000000
namespace K14
open PySem PySem.Spec L2 Sx Lk
/-! ### what is said of the groups -/
structure GSt (K : PySem.W.Frag) (H H' : Hp) (dk p G pn gA gB gC : Addr) (l : L) (A B C : List Int) (n0 n1 n2 : Str) (m : Nat) : Prop where
  k : Kept dk H H'
  d : Deck H' dk m
  l : LikeAt (CL K) H' p l
  g : Grp H' dk G gA gB gC A B C
  n : H' pn = some (.lst [.str n0, .str n1, .str n2])
  nn : pn ≠ dk
section
variable {K : PySem.W.Frag} {H H1 H2 : Hp} {dk p G pn gA gB gC : Addr} {l : L} {A B C : List Int} {n0 n1 n2 : Str} {m m' : Nat}
theorem GSt.same (h : GSt K H H1 dk p G pn gA gB gC l A B C n0 n1 n2 m) (s : Same H1 H2) : GSt K H H2 dk p G pn gA gB gC l A B C n0 n1 n2 m :=
  ⟨h.k.trans (.of s), h.d.keep s, LikeAt.same h.l s, h.g.same s, s _ _ h.n, h.nn⟩
theorem GSt.draw (h : GSt K H H1 dk p G pn gA gB gC l A B C n0 n1 n2 m) (k : Kept dk H1 H2) (d : Deck H2 dk m') : GSt K H H2 dk p G pn gA gB gC l A B C n0 n1 n2 m' :=
  ⟨h.k.trans k, d, LikeAt.kept h.l h.d k, h.g.kept k, k _ _ h.nn h.n, h.nn⟩
theorem GSt.mono (h : GSt K H H1 dk p G pn gA gB gC l A B C n0 n1 n2 m) (le : m ≤ m') : GSt K H H1 dk p G pn gA gB gC l A B C n0 n1 n2 m' := ⟨h.k, h.d.mono le, h.l, h.g, h.n, h.nn⟩
end
def nm (n0 n1 n2 : Str) (j : Nat) : Str := if j = 0 then n0 else if j = 1 then n1 else n2
theorem due_a {way : Nat} {n0 n1 n2 : Str} (h1 : n0 ≠ n1) (h2 : n2 ≠ n0) {j : Nat} (hj : j < 3) : ((dueL way 0).map sayV)[j]? = some (sayV (dueA way n0 (nm n0 n1 n2 j))) := by
  unfold dueL dueA
  by_cases w2 : way = 2
  · rw [if_pos w2, if_pos w2]
    match j, hj with
    | 0, _ => rfl
    | 1, _ => rfl
    | 2, _ => rfl
  · rw [if_neg w2, if_neg w2, if_pos rfl]
    match j, hj with
    | 0, _ => rw [decide_eq_true (show nm n0 n1 n2 0 = n0 from rfl)]; rfl
    | 1, _ => rw [decide_eq_false (show ¬ nm n0 n1 n2 1 = n0 from Ne.symm h1)]; rfl
    | 2, _ => rw [decide_eq_false (show ¬ nm n0 n1 n2 2 = n0 from h2)]; rfl
theorem due_b {way : Nat} {n0 n1 n2 : Str} (h1 : n0 ≠ n1) (h2 : n2 ≠ n0) (h3 : n2 ≠ n1) {j : Nat} (hj : j < 3) : ((dueL way 1).map sayV)[j]? = some (sayV (dueB way n0 n1 (nm n0 n1 n2 j))) := by
  unfold dueL dueB
  by_cases w2 : way = 2
  · rw [if_pos w2, if_pos w2]
    match j, hj with
    | 0, _ => rfl
    | 1, _ => rfl
    | 2, _ => rfl
  · rw [if_neg w2, if_neg w2, if_neg (by decide)]
    match j, hj with
    | 0, _ => rw [if_pos (show nm n0 n1 n2 0 = n0 from rfl)]; rfl
    | 1, _ =>
      rw [if_neg (show ¬ nm n0 n1 n2 1 = n0 from Ne.symm h1)]
      by_cases w1 : way = 1
      · rw [if_pos w1, if_pos w1, if_pos w1, decide_eq_true (show nm n0 n1 n2 1 = n1 from rfl)]; rfl
      · rw [if_neg w1, if_neg w1, if_neg w1]; rfl
    | 2, _ =>
      rw [if_neg (show ¬ nm n0 n1 n2 2 = n0 from h2)]
      by_cases w1 : way = 1
      · rw [if_pos w1, if_pos w1, if_pos w1, decide_eq_false (show ¬ nm n0 n1 n2 2 = n1 from h3)]; rfl
      · rw [if_neg w1, if_neg w1, if_neg w1]; rfl
theorem nm_at (n0 n1 n2 : Str) {j : Nat} (hj : j < 3) : atI [V.str n0, .str n1, .str n2] (0 + (j : Int)) = some (.str (nm n0 n1 n2 j)) := by
  match j, hj with
  | 0, _ => rfl
  | 1, _ => rfl
  | 2, _ => rfl
def sp_gr (K : PySem.W.Frag) : Sp := fun vs H Q _ => ∃ (dk p G pn : Addr) (n way : Nat) (gA gB gC : Addr) (l : L) (A B C : List Int) (n0 n1 n2 : Str) (a0 b0 c0 : Int), vs = [.ref dk, .ref p, .ref G, .ref pn, .int way] ∧ n < 800000 ∧ GSt K H H dk p G pn gA gB gC l A B C n0 n1 n2 n ∧
  Fits way A B C n0 n1 l ∧ sz l < 100000 ∧ Has A B C n0 n1 a0 b0 c0 ∧ n2 ≠ n0 ∧ n2 ≠ n1 ∧ way < 4 ∧ ∀ H', Kept dk H H' → Deck H' dk (n + 76) → Q (.bl true) H'
section
variable {P : Program} {w : World} {K : PySem.W.Frag} {mg : Str → Option Value} {base : Heap}
theorem c__law_groups_right (W : Wd K mg) : Cal P w K mg base CX0 6 "_law_groups_right" (sp_gr K) [] := by
  obtain ⟨fd, F⟩ := W.f__law_groups_right
  refine calD F W.g__law_groups_right sc__law_groups_right (fun _ _ _ _ _ _ us hl => match us, hl with | [_, _, _, _, _], _ => rfl) (okD F sc__law_groups_right ?_ fun cdv Ar outer s H vs Q E hr h => ?_)
  · rintro _ _ _ _ ⟨dk, p, G, pn, n, way, gA, gB, gC, l, A, B, C, n0, n1, n2, a0, b0, c0, rfl, _⟩; rfl
  obtain ⟨dk, p, G, pn, n, way, gA, gB, gC, l, A, B, C, n0, n1, n2, a0, b0, c0, rfl, hn, St, F', hz, hh, n20, n21, hw, q⟩ := h
  have nd := sc__law_groups_right.nd
  refine ⟨_, (pss_cons (ps_par (i := 5) (j := 6) rfl nd rfl rfl (by decide) rfl rfl (pa_cons (pe_ix ix_list (pv 2) pe_int (fun _ _ => rfl)) (pa_cons (pe_ix ix_list (pv 2) pe_int (fun _ _ => rfl)) pa_nil)) rfl) (pss_cons (ps_for PassesOwn.never rfl (pi_range1 rfl W.range (pa_cons pe_int pa_nil)) (pg_name (i := 7) nd rfl (Or.inl rfl)) (pss_cons (ps_if (pt_not (pt_val (pe_f (c__law_so W) hr (by decide) pass0 rfl (pa_cons (pv 1) (pa_cons (pe_f (c__law_pick W) hr (by decide) pass0 rfl (pa_cons (pv 0) (pa_cons (pv 5) pa_nil))) (pa_cons (pe_f (c__law_pick W) hr (by decide) pass0 rfl (pa_cons (pv 0) (pa_cons (pv 6) pa_nil))) (pa_cons pe_bl pa_nil))))))) (pss_one (ps_ret pe_bl)) pss_nil) (pss_cons (ps_for PassesOwn.never rfl (pi_range1 rfl W.range (pa_cons pe_int pa_nil)) (pg_name (i := 8) nd rfl (Or.inl rfl)) (pss_cons (ps_set (i := 9) nd rfl (Or.inl rfl) (pe_ix ix_list (pv 2) (pv 8) (fun _ _ => rfl))) (pss_cons (ps_if (pt_not (pt_val (pe_f (c__law_so W) hr (by decide) pass0 rfl (pa_cons (pv 1) (pa_cons (pe_f (c__law_pick W) hr (by decide) pass0 rfl (pa_cons (pv 0) (pa_cons (pv 9) pa_nil))) (pa_cons (pe_f (c__law_pick W) hr (by decide) pass0 rfl (pa_cons (pv 0) (pa_cons (pv 9) pa_nil))) (pa_cons pe_bl pa_nil))))))) (pss_one (ps_ret pe_bl)) pss_nil) (pss_one (ps_for PassesOwn.never rfl (pi_range1 rfl W.range (pa_cons pe_int pa_nil)) (pg_name (i := 10) nd rfl (Or.inl rfl)) (C8.pss_cut (ps_set (i := 11) nd rfl (Or.inl rfl) (pe_ifExp (pt_cmpR op_eq (pv 8) pe_int (nomark _)) pe_non (pe_ix ix_list (pe_f (c__law_due_of_group W) hr (by decide) pass0 rfl (pa_cons (pv 4) (pa_cons (pv 8) pa_nil))) (pv 10) (fun _ _ => rfl)))) (pss_one (ps_if (pt_not (pt_val (pe_f (c__law_so W) hr (by decide) pass0 rfl (pa_cons (pv 1) (pa_cons (pe_f (c__law_pick W) hr (by decide) pass0 rfl (pa_cons (pv 0) (pa_cons (pv 9) pa_nil))) (pa_cons (pe_ix ix_list (pv 3) (pv 10) (fun _ _ => rfl)) (pa_cons (pv 11) pa_nil))))))) (pss_one (ps_ret pe_bl)) pss_nil)))))))) (pss_one (ps_if (pt_not (pt_val (pe_f (c__law_so W) hr (by decide) pass0 rfl (pa_cons (pv 1) (pa_cons (pe_f (c__law_pick W) hr (by decide) pass0 rfl (pa_cons (pv 0) (pa_cons (pe_ix ix_list (pv 2) pe_int (fun _ _ => rfl)) pa_nil))) (pa_cons (pe_f (c__law_pick W) hr (by decide) pass0 rfl (pa_cons (pv 0) (pa_cons (pe_op op_cat (pv 5) (pv 6)) pa_nil))) (pa_cons pe_non pa_nil))))))) (pss_one (ps_ret pe_bl)) pss_nil))))) (pss_one (ps_ret pe_bl)))), ?_⟩
  have g0 := St.g
  refine ⟨_, rfl, G, _, 0, _, rfl, rfl, .of g0.g, rfl, _, rfl, G, _, 1, _, rfl, rfl, .of g0.g, rfl, _, _, rfl, _, rfl, by decide, by decide, ?_⟩
  refine for_it walk_range (fun i σ' H' => ∃ v7 v8 v9 v10 v11, σ' = [some (.ref dk), some (.ref p), some (.ref G), some (.ref pn), some (.int way), some (.ref gA), some (.ref gB), v7, v8, v9, v10, v11] ∧ GSt K H H' dk p G pn gA gB gC l A B C n0 n1 n2 (n + 19 * i))
    ⟨none, none, none, none, none, rfl, St⟩ (fun _ _ _ _ _ => trivial) ?stepA ?doneA
  case doneA =>
    rintro _ H1 ⟨v7, v8, v9, v10, v11, rfl, St⟩
    exact q H1 St.k St.d
  rintro i _ _ _ H1 hi ⟨v7, v8, v9, v10, v11, rfl, St⟩ ⟨rfl, rfl⟩
  have hi4 : i < 4 := hi
  -- one of the first, one of the second
  refine ⟨_, rfl, _, rfl, _, rfl, dk, gA, _, _, rfl, St.d, by omega, Ne.symm St.g.na, .of St.g.a, ne_map St.g.la.1, len_map St.g.la.2, fun x H2 hx k2 d2 => ?_⟩
  have St := St.draw k2 d2
  refine ⟨_, rfl, _, rfl, dk, gB, _, _, rfl, St.d, by omega, Ne.symm St.g.nb, .of St.g.b, ne_map St.g.lb.1, len_map St.g.lb.2, fun y H3 hy k3 d3 => ?_⟩
  have St := St.draw k3 d3
  obtain ⟨x, hx', rfl⟩ := List.mem_map.mp hx
  obtain ⟨y, hy', rfl⟩ := List.mem_map.mp hy
  refine ⟨p, .inl x, .inl y, l, by rw [says_ab F' hx' hy']; rfl, St.l, F'.wf, hz, fun H4 s4 => ⟨_, rfl, iteF ?_⟩⟩
  have St := St.same s4
  clear k2 d2 k3 d3 hx hy
  -- each group
  refine ⟨_, rfl, by decide, by decide, for_it walk_range (fun k σ' H' => ∃ v8 v9 v10 v11, σ' = [some (.ref dk), some (.ref p), some (.ref G), some (.ref pn), some (.int way), some (.ref gA), some (.ref gB), some (.int (0 + (i : Int))), v8, v9, v10, v11] ∧ GSt K H H' dk p G pn gA gB gC l A B C n0 n1 n2 (n + 19 * i + 2 + 5 * k))
    ⟨v8, v9, v10, v11, rfl, St⟩ (fun _ _ _ _ _ => trivial) ?stepB ?doneB⟩
  case doneB =>
    rintro _ H5 ⟨v8, v9, v10, v11, rfl, St⟩
    have St : GSt K H H5 dk p G pn gA gB gC l A B C n0 n1 n2 (n + 19 * i + 17) := St
    refine ⟨_, rfl, _, rfl, _, rfl, G, _, 2, _, rfl, rfl, .of St.g.g, rfl, dk, gC, _, _, rfl, St.d, by omega, Ne.symm St.g.nc, .of St.g.c, ne_map St.g.lc.1, len_map St.g.lc.2, fun z H6 hz1 k6 d6 => ?_⟩
    have St := St.draw k6 d6
    obtain ⟨z, hz', rfl⟩ := List.mem_map.mp hz1
    refine ⟨_, rfl, _, rfl, _, rfl, gA, gB, _, _, rfl, rfl, St.g.a, St.g.b, ?_, fun m nm => ?_⟩
    · rw [List.length_map, List.length_map]
      have h1 := St.g.la.2
      have h2 := St.g.lb.2
      have : (10000 : Nat) < sizeLine := by decide
      omega
    have nma := St.d.ne nm
    have St := St.same (Same.new (u := .lst (A.map V.int ++ B.map V.int)) nm)
    have eAB : A.map V.int ++ B.map V.int = (A ++ B).map V.int := List.map_append.symm
    refine ⟨dk, m, _, _, rfl, St.d, by omega, nma, .of upd_same, ?_, ?_, fun u H7 hu7 k7 d7 => ?_⟩
    · rw [eAB]
      refine ne_map fun e => St.g.la.1 ?_
      exact (List.append_eq_nil_iff.mp e).1
    · rw [List.length_append, List.length_map, List.length_map]
      have h1 := St.g.la.2
      have h2 := St.g.lb.2
      omega
    have St := St.draw k7 d7
    rw [eAB] at hu7
    obtain ⟨u, hu', rfl⟩ := List.mem_map.mp hu7
    have sn : says l (.inl z) (.inl u) = none := (List.mem_append.mp hu').elim (fun h => says_ca F' hh hz' h) fun h => says_cb F' hh hz' h
    refine ⟨p, .inl z, .inl u, l, by rw [sn]; rfl, St.l, F'.wf, hz, fun H8 s8 => ⟨_, rfl, iteF ?_⟩⟩
    exact ⟨_, _, _, _, _, rfl, (St.same s8).mono (by omega)⟩
  rintro k _ _ _ H5 hk ⟨v8, v9, v10, v11, rfl, St⟩ ⟨rfl, rfl⟩
  have hk3 : k < 3 := hk
  -- the group at k
  obtain ⟨gX, X, hat, hgX, ngX, X0, X1, hXX, hXn⟩ : ∃ (gX : Addr) (X : List Int), atI [V.ref gA, .ref gB, .ref gC] (0 + (k : Int)) = some (.ref gX) ∧ (∀ H', Grp H' dk G gA gB gC A B C → H' gX = some (.lst (X.map V.int))) ∧ gX ≠ dk ∧ X ≠ [] ∧ X.length ≤ 1000 ∧
      (∀ x ∈ X, ∀ y ∈ X, says l (.inl x) (.inl y) = some true) ∧ (∀ x ∈ X, ∀ j, j < 3 → if k = 2 then says l (.inl x) (.inr (nm n0 n1 n2 j)) = none else ((dueL way k).map sayV)[j]? = some (sayV (says l (.inl x) (.inr (nm n0 n1 n2 j))))) := by
    match k, hk3 with
    | 0, _ => exact ⟨gA, A, rfl, fun _ g => g.a, St.g.na, St.g.la.1, St.g.la.2, fun x hx y hy => says_aa F' hx hy, fun x hx j hj => by rw [if_neg (by decide), says_an F' hh hx]; exact due_a hh.n n20 hj⟩
    | 1, _ => exact ⟨gB, B, rfl, fun _ g => g.b, St.g.nb, St.g.lb.1, St.g.lb.2, fun x hx y hy => says_bb F' hx hy, fun x hx j hj => by rw [if_neg (by decide), says_bn F' hh hx]; exact due_b hh.n n20 n21 hj⟩
    | 2, _ => exact ⟨gC, C, rfl, fun _ g => g.c, St.g.nc, St.g.lc.1, St.g.lc.2, fun x hx y hy => says_cc F' hx hy, fun x hx j hj => by rw [if_pos rfl]; exact says_cn F' hh hx _⟩
  refine ⟨_, rfl, _, rfl, G, _, _, _, rfl, rfl, .of St.g.g, hat, ?_⟩
  refine ⟨_, rfl, _, rfl, _, rfl, dk, gX, _, _, rfl, St.d, by omega, Ne.symm ngX, .of (hgX _ St.g), ne_map X0, len_map X1, fun x H6 hx k6 d6 => ?_⟩
  have St := St.draw k6 d6
  refine ⟨_, rfl, _, rfl, dk, gX, _, _, rfl, St.d, by omega, Ne.symm ngX, .of (hgX _ St.g), ne_map X0, len_map X1, fun y H7 hy k7 d7 => ?_⟩
  have St := St.draw k7 d7
  obtain ⟨x, hx', rfl⟩ := List.mem_map.mp hx
  obtain ⟨y, hy', rfl⟩ := List.mem_map.mp hy
  refine ⟨p, .inl x, .inl y, l, by rw [hXX x hx' y hy']; rfl, St.l, F'.wf, hz, fun H8 s8 => ⟨_, rfl, iteF ?_⟩⟩
  have St := St.same s8
  clear k6 d6 k7 d7 hx hy hx' hy'
  refine ⟨_, rfl, by decide, by decide, for_it walk_range (fun j σ' H' => ∃ v10 v11, σ' = [some (.ref dk), some (.ref p), some (.ref G), some (.ref pn), some (.int way), some (.ref gA), some (.ref gB), some (.int (0 + (i : Int))), some (.int (0 + (k : Int))), some (.ref gX), v10, v11] ∧ GSt K H H' dk p G pn gA gB gC l A B C n0 n1 n2 (n + 19 * i + 2 + 5 * k + 2 + j))
    ⟨v10, v11, rfl, St⟩ (fun _ _ _ _ _ => trivial) ?stepC ?doneC⟩
  case doneC =>
    rintro _ H9 ⟨v10, v11, rfl, St⟩
    exact ⟨_, _, _, _, rfl, St.mono (by show n + 19 * i + 2 + 5 * k + 2 + 3 ≤ _; omega)⟩
  rintro j _ _ _ H9 hj ⟨v10, v11, rfl, St⟩ ⟨rfl, rfl⟩
  have hj3 : j < 3 := hj
  -- what is due
  refine ⟨fun σ' H' => ∃ v, σ' = [some (.ref dk), some (.ref p), some (.ref G), some (.ref pn), some (.int way), some (.ref gA), some (.ref gB), some (.int (0 + (i : Int))), some (.int (0 + (k : Int))), some (.ref gX), some (.int (0 + (j : Int))), some v] ∧ GSt K H H' dk p G pn gA gB gC l A B C n0 n1 n2 (n + 19 * i + 2 + 5 * k + 2 + j) ∧
    ∀ x ∈ X, v = sayV (says l (.inl x) (.inr (nm n0 n1 n2 j))), ?_, ?_⟩
  · refine ⟨_, rfl, rfl, _, rfl, ?_⟩
    by_cases k2 : k = 2
    · rw [decide_eq_true (show V.int (0 + (k : Int)) = V.int 2 by rw [k2]; rfl)]
      refine iteT ⟨_, rfl, St, fun x hx => ?_⟩
      have := hXn x hx j hj3
      rw [if_pos k2] at this
      rw [this]; rfl
    · rw [decide_eq_false (show ¬ V.int (0 + (k : Int)) = V.int 2 from fun e => k2 (by have := V.int.inj e; omega))]
      refine iteF ⟨_, rfl, _, rfl, way, k, by rw [Int.zero_add]; rfl, hw, by omega, fun u HA nu sA hu => ?_⟩
      obtain ⟨x0, hx0⟩ := List.exists_mem_of_ne_nil X X0
      have e0 := hXn x0 hx0 j hj3
      rw [if_neg k2] at e0
      refine ⟨_, rfl, u, _, _, _, rfl, rfl, .of hu, by rw [Int.zero_add]; exact atI_nat e0, _, rfl, St.same sA, fun x hx => ?_⟩
      have e1 := hXn x hx j hj3
      rw [if_neg k2] at e1
      exact Option.some.inj (e0.symm.trans e1)
  · rintro _ HA ⟨v, rfl, St, hv⟩
    refine ⟨_, rfl, _, rfl, _, rfl, dk, gX, _, _, rfl, St.d, by omega, Ne.symm ngX, .of (hgX _ St.g), ne_map X0, len_map X1, fun x HB hx kB dB => ?_⟩
    have St := St.draw kB dB
    obtain ⟨x, hx', rfl⟩ := List.mem_map.mp hx
    refine ⟨_, rfl, _, rfl, pn, _, _, _, rfl, rfl, .of St.n, nm_at _ _ _ hj3, _, rfl, p, .inl x, .inr (nm n0 n1 n2 j), l, by rw [hv x hx']; rfl, St.l, F'.wf, hz, fun HC sC => ⟨_, rfl, iteF ?_⟩⟩
    exact ⟨_, _, rfl, (St.same sC).mono (by omega)⟩
end
end K14
set_option Elab.async false
set_option linter.all false
set_option maxRecDepth 100000
set_option maxHeartbeats 8000000
namespace K14
open PySem PySem.Spec L2 Sx Lk
/-! ### groups apart -/
section
variable {P : Program} {w : World} {K : PySem.W.Frag} {mg : Str → Option Value} {base : Heap}
theorem c__law_are_groups_apart (W : Wd K mg) : Cal P w K mg base CX0 7 "_law_are_groups_apart" (sp_law K) [] := by
  obtain ⟨fd, F⟩ := W.f__law_are_groups_apart
  refine calD F W.g__law_are_groups_apart sc__law_are_groups_apart (fun _ _ _ _ _ _ us hl => match us, hl with | [_], _ => rfl) (okD F sc__law_are_groups_apart ?_ fun cdv Ar outer s H vs Q E hr h => ?_)
  · rintro _ _ _ _ ⟨a, ns, rfl, _⟩; rfl
  obtain ⟨a, ns, rfl, ha, hal, q⟩ := h
  have hu := hu_of hr
  have nd := sc__law_are_groups_apart.nd
  refine ⟨_, (pss_cons (ps_set (i := 1) nd rfl (Or.inr rfl) (pe_f (c__law_deck W) hr (by decide) pass0 rfl (pa_cons (pe_f (c__law_cell_at W) hr (by decide) pass0 rfl (pa_cons (pv 0) (pa_cons pe_int pa_nil))) pa_nil))) (pss_cons (ps_set (i := 2) nd rfl (Or.inr rfl) (pe_ix ix_list (pe_lst (pa_cons pe_int (pa_cons pe_int pa_nil))) (pe_callTy call_int1 rfl W.int_ (by decide +kernel) (pa_cons (pe_cmpR op_eq (pe_f (c__law_draw W) hr (by decide) pass0 rfl (pa_cons (pv 1) (pa_cons pe_int pa_nil))) pe_int (nomark _)) pa_nil)) (fun _ _ => rfl))) (pss_cons (ps_setLc (i := 3) (own := [("k", 15)]) rfl nd rfl rfl (sw_true rfl rfl rfl (by decide +kernel)) (pi_range1 rfl W.range (pa_cons pe_int pa_nil)) (blkOk_by (own := [("k", 15)]) (N := ["script", "deck", "most", "sizes", "opens", "groups", "names", "way", "facts", "group", "known", "fact", "more", "turn", "third", "k", "j"]) (sc := defScope s__law_are_groups_apart) (by decide +kernel)) (fun _ _ _ _ _ => (pg_name (i := 15) nd rfl (Or.inl rfl))) (fun _ _ _ _ _ => pts_nil) (fun _ _ _ _ _ => (pe_op op_add pe_int (pe_f (c__law_draw W) hr (by decide) pass0 rfl (pa_cons (pv 1) (pa_cons (pv 2) pa_nil)))))) (pss_cons (ps_set (i := 4) nd rfl (Or.inl rfl) (pe_f (c__law_shuffled W) hr (by decide) pass0 rfl (pa_cons (pv 1) (pa_cons (pe_f (c__law_opens W) hr (by decide) pass0 rfl (pa_cons (pv 1) (pa_cons (pe_callB (cr_sum rfl) rfl W.sum_ (by decide +kernel) (pa_cons (pv 3) pa_nil)) pa_nil))) pa_nil)))) (pss_cons (ps_set (i := 5) nd rfl (Or.inl rfl) (pe_lst (pa_cons (pe_slice sl_list (pv 4) po_none (po_some (pe_ix ix_list (pv 3) pe_int (fun _ _ => rfl)))) (pa_cons (pe_slice sl_list (pv 4) (po_some (pe_ix ix_list (pv 3) pe_int (fun _ _ => rfl))) (po_some (pe_op op_add (pe_ix ix_list (pv 3) pe_int (fun _ _ => rfl)) (pe_ix ix_list (pv 3) pe_int (fun _ _ => rfl))))) (pa_cons (pe_slice sl_list (pv 4) (po_some (pe_op op_add (pe_ix ix_list (pv 3) pe_int (fun _ _ => rfl)) (pe_ix ix_list (pv 3) pe_int (fun _ _ => rfl)))) po_none) pa_nil))))) (pss_cons (ps_asg (pe_tup (pa_cons (pe_f (c__law_names W) hr (by decide) pass0 rfl (pa_cons (pv 1) (pa_cons pe_int pa_nil))) (pa_cons (pe_f (c__law_draw W) hr (by decide) pass0 rfl (pa_cons (pv 1) (pa_cons pe_int pa_nil))) pa_nil))) (pg_tup rfl (pgs_cons (pg_name (i := 6) nd rfl (Or.inr rfl)) (pgs_cons (pg_name (i := 7) nd rfl (Or.inr rfl)) pgs_nil)))) (pss_cons (ps_set (i := 8) nd rfl (Or.inl rfl) (pe_f (c__law_parted W) hr (by decide) pass0 rfl (pa_cons (pv 1) (pa_cons (pv 5) (pa_cons (pv 6) (pa_cons (pv 7) pa_nil)))))) (pss_cons (ps_for PassesOwn.never rfl (pi_list (pv 5)) (pg_name (i := 9) nd rfl (Or.inl rfl)) (pss_one (ps_set (i := 8) nd rfl (Or.inl rfl) (pe_op op_cat (pv 8) (pe_f (c__law_tied W) hr (by decide) pass0 rfl (pa_cons (pv 1) (pa_cons (pv 9) pa_nil))))))) (pss_cons (ps_set (i := 10) nd rfl (Or.inl rfl) (pe_k0 (k0_Likeness W) hr (by decide) pass0 rfl)) (pss_cons (ps_for PassesOwn.never rfl (pi_list (pe_f (c__law_shuffled W) hr (by decide) pass0 rfl (pa_cons (pv 1) (pa_cons (pv 8) pa_nil)))) (pg_name (i := 11) nd rfl (Or.inl rfl)) (pss_cons (ps_set (i := 10) nd rfl (Or.inl rfl) (pe_f (c__law_heard W) hr (by decide) pass0 rfl (pa_cons (pv 10) (pa_cons (pv 11) pa_nil)))) (pss_one (ps_if (pt_val (pe_callB call_isi rfl W.isinstance (by decide +kernel) (pa_cons (pv 10) (pa_cons (pe_bltn (v := .ty "str") rfl W.str (by decide +kernel) rfl) pa_nil)))) (pss_one (ps_ret pe_bl)) pss_nil)))) (pss_cons (ps_if (pt_not (pt_val (pe_f (c__law_groups_right W) hr (by decide) pass0 rfl (pa_cons (pv 1) (pa_cons (pv 10) (pa_cons (pv 5) (pa_cons (pv 6) (pa_cons (pv 7) pa_nil)))))))) (pss_one (ps_ret pe_bl)) pss_nil) (pss_cons (ps_set (i := 12) nd rfl (Or.inr rfl) (pe_f (c__law_heard W) hr (by decide) pass0 rfl (pa_cons (pv 10) (pa_cons (pe_tup (pa_cons pe_bl (pa_cons (pe_f (c__law_pick W) hr (by decide) pass0 rfl (pa_cons (pv 1) (pa_cons (pe_ix ix_list (pv 5) pe_int (fun _ _ => rfl)) pa_nil))) (pa_cons (pe_f (c__law_pick W) hr (by decide) pass0 rfl (pa_cons (pv 1) (pa_cons (pe_ix ix_list (pv 5) pe_int (fun _ _ => rfl)) pa_nil))) pa_nil)))) pa_nil)))) (pss_cons (ps_if (PW.pt (pw_or (pt_val (pe_callB call_isi rfl W.isinstance (by decide +kernel) (pa_cons (pv 12) (pa_cons (pe_bltn (v := .ty "str") rfl W.str (by decide +kernel) rfl) pa_nil)))) (pw_or1 (pt_not (pt_val (pe_f (c__law_groups_right W) hr (by decide) pass0 rfl (pa_cons (pv 1) (pa_cons (pv 10) (pa_cons (pv 5) (pa_cons (pv 6) (pa_cons (pv 7) pa_nil))))))))))) (pss_one (ps_ret pe_bl)) pss_nil) (pss_cons (ps_for PassesOwn.never rfl (pi_range1 rfl W.range (pa_cons pe_int pa_nil)) (pg_name (i := 13) nd rfl (Or.inl rfl)) (pss_cons (ps_set (i := 14) nd rfl (Or.inr rfl) (pe_f (c__law_pick W) hr (by decide) pass0 rfl (pa_cons (pv 1) (pa_cons (pe_ix ix_list (pv 5) pe_int (fun _ _ => rfl)) pa_nil)))) (pss_cons (ps_if (pt_not (pt_val (pe_f (c__law_so W) hr (by decide) pass0 rfl (pa_cons (pv 12) (pa_cons (pv 14) (pa_cons (pe_f (c__law_pick W) hr (by decide) pass0 rfl (pa_cons (pv 1) (pa_cons (pe_ix ix_list (pv 5) pe_int (fun _ _ => rfl)) pa_nil))) (pa_cons pe_bl pa_nil))))))) (pss_one (ps_ret pe_bl)) pss_nil) (pss_cons (ps_if (pt_not (pt_val (pe_f (c__law_so W) hr (by decide) pass0 rfl (pa_cons (pv 12) (pa_cons (pe_f (c__law_pick W) hr (by decide) pass0 rfl (pa_cons (pv 1) (pa_cons (pe_ix ix_list (pv 5) pe_int (fun _ _ => rfl)) pa_nil))) (pa_cons (pv 14) (pa_cons pe_bl pa_nil))))))) (pss_one (ps_ret pe_bl)) pss_nil) (pss_one (ps_if (pt_cmpR (op_neNil (Nat.lt_of_succ_lt hu)) (pe_lc (own := [("j", 16)]) rfl nd (pi_range1 rfl W.range (pa_cons pe_int pa_nil)) (blkOk_by (own := [("j", 16)]) (N := ["script", "deck", "most", "sizes", "opens", "groups", "names", "way", "facts", "group", "known", "fact", "more", "turn", "third", "k", "j"]) (sc := defScope s__law_are_groups_apart) (by decide +kernel)) (fun _ _ _ _ _ => (pg_name (i := 16) nd rfl (Or.inl rfl))) (fun _ _ _ _ _ => (pts_one (pt_not (pt_val (pe_f (c__law_so W) hr (by decide) pass0 rfl (pa_cons (pv 12) (pa_cons (pv 14) (pa_cons (pe_ix (ix_listK K rfl) (pv 6) (pv 16) (fun _ _ => rfl)) (pa_cons (pe_ix (ix_listK K rfl) (pe_f (c__law_due_of_group W) hr (by decide) pass0 rfl (pa_cons (pv 7) (pa_cons pe_int pa_nil))) (pv 16) (fun _ _ => rfl)) pa_nil))))))))) (fun _ _ _ _ _ => pe_int)) (pe_lst pa_nil) (nomark _)) (pss_one (ps_ret pe_bl)) pss_nil)))))) (pss_one (ps_ret pe_bl)))))))))))))))), ?_⟩
  have bigS : (100000 : Nat) < sizeLine := by decide
  refine ⟨_, rfl, a, ns, 0, rfl, ha, by decide, by decide, fun z => ⟨z, rfl, fun dk H1 ndk s1 d1 => ?_⟩⟩
  -- how many at most
  refine ⟨sl rfl, fun lm nlm => ⟨_, rfl, dk, 0, 8, rfl, d1.keep (Same.new nlm), by omega, by decide, by decide, fun r H2 r0 r1 k2 d2 => ⟨rfl, .inr ⟨_, rfl, ?_⟩⟩⟩⟩
  obtain ⟨mo, hmo, mo1, mo2⟩ : ∃ mo : Nat, atI [V.int 6, .int 20] (if decide (V.int r = V.int 5) = true then 1 else 0) = some (.int mo) ∧ 1 ≤ mo ∧ mo ≤ 20 := by
    by_cases c : decide (V.int r = V.int 5) = true
    · rw [if_pos c]; exact ⟨20, rfl, by decide, by decide⟩
    · rw [if_neg c]; exact ⟨6, rfl, by decide, by decide⟩
  have hlm := k2 _ _ (Ne.symm (d1.ne nlm)) upd_same
  have k2 : Kept dk H1 H2 := (Kept.new nlm).trans k2
  refine ⟨lm, _, _, _, rfl, rfl, .of hlm, hmo, ?_⟩
  clear hlm hmo nlm r0 r1
  -- the sizes
  refine ⟨_, rfl, by decide, by decide, fun D nD => ?_⟩
  have nD1 : H1 D = none := d2.free k2 nD
  refine lc_it walk_range (fun i H' => ∃ ss : List Nat, ss.length = i ∧ (∀ s ∈ ss, 1 ≤ s ∧ s ≤ 20) ∧ H' D = some (.lst ((ss.map fun (s : Nat) => (s : Int)).map V.int)) ∧ Kept dk H1 H' ∧ Deck H' dk (1 + i)) ⟨[], rfl, (fun _ h => nomatch h), upd_same, k2.at_new nD1, d2.keep (Same.new nD)⟩ (fun _ _ _ _ => trivial) ?stepA ?doneA
  case stepA =>
    rintro i _ _ H3 hi ⟨ss, ls, hs, hD, k3, d3⟩ ⟨rfl, rfl⟩
    have hi3 : i < 3 := hi
    refine ⟨rfl, _, rfl, _, rfl, dk, 1 + i, mo, rfl, d3, by omega, by omega, by omega, fun r H4 r0 r1 k4 d4 => ⟨_, _, rfl, rfl, ?_⟩⟩
    obtain ⟨r, rfl⟩ := Int.eq_ofNat_of_zero_le r0
    refine ⟨_, k4 _ _ (Ne.symm (d2.ne nD)) hD, ?_, ss ++ [1 + r], by rw [List.length_append, ls]; rfl, fun s hs' => ?_, ?_, (k3.trans k4).at_new nD1, d4.kept Kept.set (d2.ne nD)⟩
    · rw [List.length_map, List.length_map, ls]; omega
    · rcases List.mem_append.mp hs' with h | h
      · exact hs s h
      · rw [List.mem_singleton.mp h]; omega
    · rw [upd_same, List.map_append, List.map_append]; rfl
  rintro H3 ⟨ss, ls, hs, hD, k3, d3⟩
  obtain ⟨s0, s1', s2, rfl⟩ : ∃ s0 s1 s2, ss = [s0, s1, s2] := match ss, ls with | [x, y, z], _ => ⟨x, y, z, rfl⟩
  have b0 := hs s0 (by simp)
  have b1 := hs s1' (by simp)
  have b2 := hs s2 (by simp)
  have nDk : D ≠ dk := Ne.symm (d2.ne nD)
  have d3 : Deck H3 dk 4 := d3
  clear k2 d2 nD ls hs d1
  -- the marks
  refine ⟨_, rfl, _, rfl, _, rfl, D, _, rfl, .of hD, dk, 4, s0 + s1' + s2, ?_, d3, by omega, by omega, fun is po H4 il ind npo k4 d4 ho => ?_⟩
  · have e : (([s0, s1', s2].map fun (s : Nat) => (s : Int))).sum = ((s0 + s1' + s2 : Nat) : Int) := by
      show (s0 : Int) + ((s1' : Int) + ((s2 : Int) + 0)) = _
      omega
    rw [e]; rfl
  have k14 : Kept dk H1 H4 := k3.trans k4
  have hD := k4 _ _ nDk hD
  refine ⟨dk, po, 6, _, rfl, d4, by rw [List.length_map]; omega, ho, by rw [List.length_map]; omega, fun ys pj H5 pm npj k5 d5 hj => ?_⟩
  obtain ⟨js, jp, rfl⟩ := perm_map pm
  have jl : js.length = s0 + s1' + s2 := by rw [jp.length_eq, il]
  have jn : js.Nodup := jp.nodup_iff.mpr ind
  have k15 : Kept dk H1 H5 := k14.trans k5
  have hD := k5 _ _ nDk hD
  have npk : pj ≠ dk := Ne.symm (d4.ne npj)
  have d5 : Deck H5 dk 70 := d5.mono (by rw [List.length_map]; omega)
  clear k3 d3 k4 d4 pm ho npo jp il ind k14 npj
  -- the groups
  refine ⟨_, rfl, _, rfl, D, _, 0, _, rfl, rfl, .of hD, rfl, _, rfl, pj, _, rfl, .of hj, fun gA nA => ?_⟩
  rw [cut_to V.int js (show s0 ≤ js.length by omega)]
  have S6 : Same H5 (upd H5 gA (.lst ((js.take s0).map V.int))) := Same.new nA
  have hA : upd H5 gA (.lst ((js.take s0).map V.int)) gA = some (.lst ((js.take s0).map V.int)) := upd_same
  have nAk := d5.ne nA
  generalize upd H5 gA (.lst ((js.take s0).map V.int)) = H6 at S6 hA ⊢
  have hD := S6 _ _ hD
  have hj := S6 _ _ hj
  have d6 := d5.keep S6
  refine ⟨_, rfl, _, rfl, D, _, 0, _, rfl, rfl, .of hD, rfl, _, rfl, _, rfl, D, _, 0, _, rfl, rfl, .of hD, rfl, _, rfl, D, _, 1, _, rfl, rfl, .of hD, rfl, _, _, rfl, rfl, _, rfl, pj, _, rfl, .of hj, fun gB nB => ?_⟩
  have eB : cutV (js.map V.int) (some (s0 : Int)) (some ((s0 : Int) + (s1' : Int))) = ((js.drop s0).take s1').map V.int := cut_mid V.int js (show s0 + s1' ≤ js.length by omega)
  rw [eB]
  have S7 : Same H6 (upd H6 gB (.lst (((js.drop s0).take s1').map V.int))) := Same.new nB
  have hB : upd H6 gB (.lst (((js.drop s0).take s1').map V.int)) gB = some (.lst (((js.drop s0).take s1').map V.int)) := upd_same
  have nBk := d6.ne nB
  generalize upd H6 gB (.lst (((js.drop s0).take s1').map V.int)) = H7 at S7 hB ⊢
  have hD := S7 _ _ hD
  have hj := S7 _ _ hj
  have d7 := d6.keep S7
  refine ⟨_, rfl, _, rfl, D, _, 0, _, rfl, rfl, .of hD, rfl, _, rfl, D, _, 1, _, rfl, rfl, .of hD, rfl, _, _, rfl, rfl, _, rfl, pj, _, rfl, .of hj, fun gC nC => ?_⟩
  have eC : cutV (js.map V.int) (some ((s0 : Int) + (s1' : Int))) none = (js.drop (s0 + s1')).map V.int := cut_from V.int js (a := s0 + s1') (by omega)
  rw [eC]
  have nCk := d7.ne nC
  have S8 : Same H7 (upd H7 gC (.lst ((js.drop (s0 + s1')).map V.int))) := Same.new nC
  refine ⟨sl rfl, fun G nG => ?_⟩
  have nGk := (d7.keep S8).ne nG
  have g : Grp (upd (upd H7 gC (.lst ((js.drop (s0 + s1')).map V.int))) G (.lst [.ref gA, .ref gB, .ref gC])) dk G gA gB gC (js.take s0) ((js.drop s0).take s1') (js.drop (s0 + s1')) := by
    refine ⟨upd_same, Ne.symm nGk, old (S8 _ _ (S7 _ _ hA)) nG, Ne.symm nAk, old (S8 _ _ hB) nG, Ne.symm nBk, old upd_same nG, Ne.symm nCk, ⟨fun e => ?_, ?_⟩, ⟨fun e => ?_, ?_⟩, ⟨fun e => ?_, ?_⟩⟩
    · have := congrArg List.length e
      rw [List.length_take, List.length_nil] at this; omega
    · rw [List.length_take]; omega
    · have := congrArg List.length e
      rw [List.length_take, List.length_drop, List.length_nil] at this; omega
    · rw [List.length_take, List.length_drop]; omega
    · have := congrArg List.length e
      rw [List.length_drop, List.length_nil] at this; omega
    · rw [List.length_drop]; omega
  have k18 : Kept dk H1 (upd (upd H7 gC (.lst ((js.drop (s0 + s1')).map V.int))) G (.lst [.ref gA, .ref gB, .ref gC])) := k15.trans (.of (Same.new' ((S6.trans S7).trans S8) nG))
  have d8 : Deck (upd (upd H7 gC (.lst ((js.drop (s0 + s1')).map V.int))) G (.lst [.ref gA, .ref gB, .ref gC])) dk 70 := (d7.keep S8).keep (Same.new nG)
  have three := three_of jn s0 s1'
  have szs : (js.take s0).length + ((js.drop s0).take s1').length + (js.drop (s0 + s1')).length ≤ 60 := by rw [List.length_take, List.length_take, List.length_drop, List.length_drop]; omega
  generalize upd (upd H7 gC (.lst ((js.drop (s0 + s1')).map V.int))) G (.lst [.ref gA, .ref gB, .ref gC]) = H8 at g k18 d8 ⊢
  clear S6 S7 S8 hA hB hD hj nA nB nC nG d7 d6 d5 nGk nAk nBk nCk eB eC k15
  generalize js.take s0 = A at g three szs ⊢
  generalize (js.drop s0).take s1' = B at g three szs ⊢
  generalize js.drop (s0 + s1') = C at g three szs ⊢
  -- names, way
  refine ⟨_, rfl, dk, 70, 3, rfl, d8, by omega, by omega, fun nms pn H9 nl nnd nh npn k9 d9 hn => ⟨_, rfl, dk, 84, 4, rfl, d9, by omega, by decide, by decide, fun r HA r0 r1 kA dA => ⟨sl rfl, fun t nt => ⟨t, _, rfl, .of upd_same, rfl, _, _, rfl, _, _, rfl, rfl, ?_⟩⟩⟩⟩
  obtain ⟨way, rfl⟩ := Int.eq_ofNat_of_zero_le r0
  have hw : way < 4 := by omega
  obtain ⟨n0, n1, n2, rfl⟩ : ∃ n0 n1 n2, nms = [n0, n1, n2] := match nms, nl with | [x, y, z], _ => ⟨x, y, z, rfl⟩
  have n01 : n0 ≠ n1 := fun e => by simp [e] at nnd
  have n20 : n2 ≠ n0 := fun e => by simp [e] at nnd
  have n21 : n2 ≠ n1 := fun e => by simp [e] at nnd
  have npnk : pn ≠ dk := Ne.symm (d8.ne npn)
  have SB : Same HA (upd HA t (.tup [.ref pn, .int (way : Nat)])) := Same.new nt
  have g := ((g.kept k9).kept kA).same SB
  have hn : upd HA t (.tup [.ref pn, .int (way : Nat)]) pn = some (.lst [.str n0, .str n1, .str n2]) := SB _ _ (kA _ _ npnk hn)
  have kB : Kept dk H1 (upd HA t (.tup [.ref pn, .int (way : Nat)])) := (k18.trans (k9.trans kA)).trans (.of SB)
  have dB : Deck (upd HA t (.tup [.ref pn, .int (way : Nat)])) dk 85 := dA.keep SB
  show tSeq _ _ _ (List.set _ 7 (some (V.int (way : Nat)))) (upd HA t (.tup [.ref pn, .int (way : Nat)]))
  generalize upd HA t (.tup [.ref pn, .int (way : Nat)]) = HB at g hn kB dB ⊢
  clear SB k18 k9 kA d9 dA npn nt nh nnd nl d8 r0 r1
  obtain ⟨a0, ha0⟩ := List.exists_mem_of_ne_nil A g.la.1
  obtain ⟨b0', hb0⟩ := List.exists_mem_of_ne_nil B g.lb.1
  obtain ⟨c0, hc0⟩ := List.exists_mem_of_ne_nil C g.lc.1
  have hh : Has A B C n0 n1 a0 b0' c0 := ⟨three, ha0, hb0, hc0, n01⟩
  -- the facts
  refine ⟨_, rfl, _, rfl, _, rfl, _, rfl, dk, G, pn, 85, way, gA, gB, gC, A, B, C, n0, n1, n2, rfl, dB, by omega, g, hn, npnk, hw, fun x y z pf HC hx hy hz npf kC dC fC => ?_⟩
  have npfk : pf ≠ dk := Ne.symm (dB.ne npf)
  have g := g.kept kC
  have hn := kC _ _ npnk hn
  have kC := kB.trans kC
  have T0l : (partF way x y z n0 n1).length ≤ 2 := by
    unfold partF
    rw [List.length_append]
    have h1 : ∀ c : Fact, ([c] : List Fact).length = 1 := fun _ => rfl
    split <;> (try split) <;> (try split) <;> (try split) <;> (try split) <;> simp
  generalize hT0 : partF way x y z n0 n1 = T0 at fC T0l
  clear kB dB npf
  refine ⟨_, rfl, G, rfl, ⟨_, .of g.g⟩, for_it (walk_list (xs := [.ref gA, .ref gB, .ref gC])) (fun i σ' H' => ∃ pf v9 T, σ' = [some (.ref a), some (.ref dk), some (.int mo), some (.ref D), some (.ref pj), some (.ref G), some (.ref pn), some (.int way), some (.ref pf), v9, none, none, none, none, none, none, none] ∧
    Kept dk H1 H' ∧ Deck H' dk (90 + 120 * i) ∧ Grp H' dk G gA gB gC A B C ∧ H' pn = some (.lst [.str n0, .str n1, .str n2]) ∧ pf ≠ dk ∧ Fs H' pf T ∧ T.length ≤ 2 + 60 * i ∧
    ∀ f : Key → Key, HoldsF f T ↔ HoldsF f T0 ∧ (0 < i → Cst f A) ∧ (1 < i → Cst f B) ∧ (2 < i → Cst f C))
    ⟨pf, none, T0, rfl, kC, dC.mono (by omega), g, hn, npfk, fC, T0l, fun f => ⟨fun h => ⟨h, (fun e => absurd e (by omega)), (fun e => absurd e (by omega)), (fun e => absurd e (by omega))⟩, fun h => h.1⟩⟩ (fun i σ' H' _ z => let ⟨_, _, _, _, _, _, g, _⟩ := z; .of g.g) ?stepB ?doneB⟩
  case stepB =>
    rintro i v _ _ HD hi ⟨pf, v9, T, rfl, kD, dD, g, hn, npfk, fD, Tl, hT⟩ ⟨rfl, hv⟩
    have hi3 : i < 3 := hi
    obtain ⟨gX, X, rfl, hgX, ngX, X0, X1, hX⟩ : ∃ (gX : Addr) (X : List Int), v = .ref gX ∧ HD gX = some (.lst (X.map V.int)) ∧ gX ≠ dk ∧ X ≠ [] ∧ X.length ≤ 60 ∧
        ∀ f : Key → Key, (((0 < i → Cst f A) ∧ (1 < i → Cst f B) ∧ (2 < i → Cst f C)) ∧ Cst f X ↔ (0 < i + 1 → Cst f A) ∧ (1 < i + 1 → Cst f B) ∧ (2 < i + 1 → Cst f C)) := by
      match i, hi3 with
      | 0, _ => exact ⟨gA, A, (Option.some.inj hv).symm, g.a, g.na, g.la.1, by omega, fun f => ⟨fun h => ⟨fun _ => h.2, (fun e => absurd e (by omega)), (fun e => absurd e (by omega))⟩, fun h => ⟨⟨(fun e => absurd e (by omega)), (fun e => absurd e (by omega)), (fun e => absurd e (by omega))⟩, h.1 (by omega)⟩⟩⟩
      | 1, _ => exact ⟨gB, B, (Option.some.inj hv).symm, g.b, g.nb, g.lb.1, by omega, fun f => ⟨fun h => ⟨fun _ => h.1.1 (by omega), fun _ => h.2, (fun e => absurd e (by omega))⟩, fun h => ⟨⟨fun _ => h.1 (by omega), (fun e => absurd e (by omega)), (fun e => absurd e (by omega))⟩, h.2.1 (by omega)⟩⟩⟩
      | 2, _ => exact ⟨gC, C, (Option.some.inj hv).symm, g.c, g.nc, g.lc.1, by omega, fun f => ⟨fun h => ⟨fun _ => h.1.1 (by omega), fun _ => h.1.2.1 (by omega), fun _ => h.2⟩, fun h => ⟨⟨fun _ => h.1 (by omega), fun _ => h.2.1 (by omega), (fun e => absurd e (by omega))⟩, h.2.2 (by omega)⟩⟩⟩
    refine ⟨_, rfl, _, rfl, _, rfl, dk, gX, 90 + 120 * i, X, rfl, dD, by omega, hgX, ngX, X0, by omega, fun T' p' HE hT' lT' np' kE dE fE => ?_⟩
    have fD := Fs.kept fD dD npfk kE
    obtain ⟨acc, acc2, ha1, ha2, l1, l2, cat⟩ := Objs.cat fD fE
    refine ⟨pf, p', _, _, rfl, rfl, ha1, ha2, by omega, fun m nm => ?_⟩
    refine ⟨m, _, T ++ T', rfl, (kD.trans kE).new' nm, (dE.keep (Same.new nm)).mono (by omega), (g.kept kE).same (Same.new nm), old (kE _ _ npnk hn) nm, Ne.symm (dE.ne nm), cat m nm, by rw [List.length_append]; omega, fun f => ?_⟩
    rw [holdsF_app, hT f, hT' f, ← hX f, and_assoc]
  rintro _ HD ⟨pf', v9, T, rfl, kD, dD, g, hn, npfk', fD, Tl, hT⟩
  have dD : Deck HD dk 450 := dD
  have Tl : T.length ≤ 200 := by have : T.length ≤ 2 + 60 * 3 := Tl; omega
  have hG : ∀ f : Key → Key, NInj f → (HoldsF f T ↔ Good way A B C n0 n1 f) := fun f fi => by
    rw [hT f, ← hT0]
    constructor
    · rintro ⟨h0, hA, hB, hC⟩
      have cA := hA (by show 0 < 3; decide)
      have cB := hB (by show 1 < 3; decide)
      exact ⟨cA, cB, hC (by show 2 < 3; decide), (part_holds fi n01 cA cB hx hy hz).mp h0⟩
    · intro h
      exact ⟨(part_holds fi n01 h.a h.b hx hy hz).mpr h.p, fun _ => h.a, fun _ => h.b, fun _ => h.c⟩
  clear hT hT0 T0l fC kC dC
  -- the likeness
  refine fun pk dz npk ndz nez => ⟨pk, dz, _, _, [], [], rfl, upd_same, .inl ⟨_, rfl, W.all.n0, rfl⟩, .inl ⟨_, rfl, W.all.n1, rfl⟩, fun HE kE lE => ⟨rfl, ?_⟩⟩
  have npk' : upd HD dz (.own pk) pk = none := by rw [upd_ne (Ne.symm nez)]; exact npk
  have SE : Same HD HE := fun b o hb => kE _ _ (ne_of_none hb npk) (Same.new' (Same.new ndz) npk' _ _ hb)
  have LK : LikeAt (CL K) HE pk ⟨[], []⟩ := lE
  have g := g.same SE
  have hn := SE _ _ hn
  have fD := fD.same SE
  have dE := dD.keep SE
  have kE := kD.trans (.of SE)
  clear lE npk npk' ndz SE dD kD
  obtain ⟨ts, hpf, hts⟩ := id fD
  have tl := Paired.length hts
  -- all facts, shuffled
  refine ⟨_, rfl, _, rfl, dk, pf', 450, _, rfl, dE, by rw [List.length_map]; omega, hpf, by rw [List.length_map]; omega, fun ys pu HF pm npu kF dF hu' => ⟨pu, rfl, ⟨_, .of hu'⟩, ?_⟩⟩
  obtain ⟨us, up, rfl⟩ := perm_map pm
  obtain ⟨U, hUS, Up⟩ := paired_perm up hts
  have LK := LikeAt.kept LK dE kF
  have hU : Paired (fun t r => HF t = some (hF r)) us U := Paired.mapP hUS fun t r z => kF _ _ (fun e => by
    obtain ⟨_, _, _, e2, _⟩ := dE
    rw [e, e2] at z
    exact hF_nl r _ (Option.some.inj z).symm) z
  have g := g.kept kF
  have hn := kF _ _ npnk hn
  have kF := kE.trans kF
  have dF : Deck HF dk 650 := dF.mono (by rw [List.length_map]; omega)
  have ul := Paired.length hU
  have Ul : U.length ≤ 200 := by rw [Up.length_eq]; exact Tl
  have hGU : ∀ f : Key → Key, NInj f → (HoldsF f U ↔ Good way A B C n0 n1 f) := fun f fi => (holdsF_perm Up).trans (hG f fi)
  have exF : ∃ f : Key → Key, NInj f ∧ HoldsF f U := ⟨_, fv_inj _ _ _ _ _ _, (hGU _ (fv_inj _ _ _ _ _ _)).mpr (base_good hh (.inl c0))⟩
  clear hUS Up up hG hts tl hpf fD pm npu kE dE
  refine for_it (walk_list (xs := us.map V.ref)) (fun i σ' H' => ∃ pk v11 l, σ' = [some (.ref a), some (.ref dk), some (.int mo), some (.ref D), some (.ref pj), some (.ref G), some (.ref pn), some (.int way), some (.ref pf'), v9, some (.ref pk), v11, none, none, none, none, none] ∧ Same HF H' ∧ LikeAt (CL K) H' pk l ∧ Heard2 (U.take i) l ∧ sz l ≤ i)
    ⟨pk, none, ⟨[], []⟩, rfl, Same.refl HF, LK, heard_nil, Nat.le_refl _⟩ (fun i σ' H' _ z => let ⟨_, _, _, _, s, _⟩ := z; .of (s _ _ hu')) ?stepC ?doneC
  case stepC =>
    rintro i v _ _ HG hi ⟨pk, v11, l, rfl, SG, LG, hl, zl⟩ ⟨rfl, hv⟩
    rw [List.getElem?_map] at hv
    obtain ⟨t, ht, rfl⟩ := Option.map_eq_some_iff.mp hv
    obtain ⟨p, hp, htp⟩ := paired_get hU ht
    have tk : U.take (i + 1) = U.take i ++ [p] := take_one hp
    obtain ⟨f, fi, hf⟩ := exF
    obtain ⟨l', e', hl'⟩ := heard_step hl (p := p) ⟨f, fi, by rw [← tk]; exact fun q hq => hf q (List.mem_of_mem_take hq)⟩
    have ilt : i < 200 := by have := (List.getElem?_eq_some_iff.mp hp).1; omega
    have zl' := hear_sz e'
    refine ⟨_, rfl, _, rfl, pk, t, l, p.1, p.2.1, p.2.2, rfl, LG, hl.wf, by omega, SG _ _ htp, fun l2 e2 p2 HH sH L2' => ?_, fun e2 => by rw [e'] at e2; cases e2⟩
    obtain rfl : l' = l2 := by rw [e'] at e2; exact Option.some.inj e2
    obtain ⟨dx, d1', d2', hpp, _, _⟩ := id L2'
    refine ⟨_, rfl, _, _, _, _, _, rfl, .ty _, .base (.ins hpp W.cl_Likeness W.all.ins.ha W.all.ins.hn W.all.ins.ht W.all.ins.hm), W.all.kS, _, rfl, iteF ?_⟩
    exact ⟨p2, _, l', rfl, SG.trans sH, L2', by rw [tk]; exact hl', by omega⟩
  rintro _ HG ⟨pk, v11, l, rfl, SG, LG, hl, zl⟩
  rw [List.length_map, ul, List.take_length] at hl
  rw [List.length_map, ul] at zl
  have F' : Fits way A B C n0 n1 l := ⟨hl.wf, fun f fi => (hl.iff f fi).trans (hGU f fi)⟩
  have g := g.same SG
  have hn := SG _ _ hn
  have kG := kF.trans (.of SG)
  have dG := dF.keep SG
  have zl2 : sz l < 1000 := by omega
  clear kF dF SG hl zl hGU exF hU LK hu' ul Ul
  -- what is said
  refine ⟨_, rfl, _, rfl, _, rfl, _, rfl, _, rfl, dk, pk, G, pn, 650, way, gA, gB, gC, l, A, B, C, n0, n1, n2, a0, b0', c0, rfl, by omega, ⟨Kept.rfl, dG, LG, g, hn, npnk⟩, F', by omega, hh, n20, n21, hw, fun HH kH dH => ⟨_, rfl, iteF ?_⟩⟩
  have g := g.kept kH
  have hn := kH _ _ npnk hn
  have LH := LikeAt.kept LG dG kH
  have kH := kG.trans kH
  clear LG dG kG
  -- the third group made the first's like
  refine ⟨_, rfl, _, rfl, _, rfl, G, _, 2, _, rfl, rfl, .of g.g, rfl, dk, gC, 726, _, rfl, dH, by omega, Ne.symm g.nc, .of g.c, ne_map g.lc.1, len_map g.lc.2, fun z1 HI hz1 kI dI => ?_⟩
  have g := g.kept kI
  have hn := kI _ _ npnk hn
  have LI := LikeAt.kept LH dH kI
  refine ⟨_, rfl, _, rfl, G, _, 0, _, rfl, rfl, .of g.g, rfl, dk, gA, 727, _, rfl, dI, by omega, Ne.symm g.na, .of g.a, ne_map g.la.1, len_map g.la.2, fun x1 HJ hx1 kJ dJ => ?_⟩
  have g := g.kept kJ
  have hn := kJ _ _ npnk hn
  have LJ := LikeAt.kept LI dI kJ
  obtain ⟨z1, hz1', rfl⟩ := List.mem_map.mp hz1
  obtain ⟨x1, hx1', rfl⟩ := List.mem_map.mp hx1
  have kJ := (kH.trans kI).trans kJ
  refine ⟨sl rfl, fun t nt => ⟨pk, t, l, true, .inl z1, .inl x1, rfl, LikeAt.same LJ (Same.new nt), F'.wf, by omega, upd_same, fun l2 e2 pm HK sK L2' => ?_, fun e2 => ?_⟩⟩
  · have M := more_of F' hz1' hx1' e2
    have z2 := hear_sz e2
    have SK : Same HJ HK := fun b o hb => sK _ _ (old hb nt)
    have g := g.same SK
    have hn := SK _ _ hn
    have LK := LikeAt.same LJ SK
    have dK := dJ.keep SK
    have kK := kJ.trans (.of SK)
    clear LH LI LJ dH dI dJ kH kI kJ sK nt SK hz1 hx1
    obtain ⟨dx, d1', d2', hpp, _, _⟩ := id L2'
    refine ⟨_, rfl, _, _, _, _, _, rfl, .ty _, .base (.ins hpp W.cl_Likeness W.all.ins.ha W.all.ins.hn W.all.ins.ht W.all.ins.hm), W.all.kS, _, rfl, iteF ?_⟩
    refine ⟨_, rfl, _, rfl, _, rfl, _, rfl, _, rfl, dk, pk, G, pn, 728, way, gA, gB, gC, l, A, B, C, n0, n1, n2, a0, b0', c0, rfl, by omega, ⟨Kept.rfl, dK, LK, g, hn, npnk⟩, F', by omega, hh, n20, n21, hw, fun HL kL dL => ⟨_, rfl, iteF ?_⟩⟩
    have g := g.kept kL
    have hn := kL _ _ npnk hn
    have L2L := LikeAt.kept L2' dK kL
    have kL := kK.trans kL
    clear LK dK kK hpp L2'
    refine ⟨_, rfl, by decide, by decide, for_it walk_range (fun i σ' H' => ∃ v13 v14, σ' = [some (.ref a), some (.ref dk), some (.int mo), some (.ref D), some (.ref pj), some (.ref G), some (.ref pn), some (.int way), some (.ref pf'), v9, some (.ref pk), v11, some (.ref pm), v13, v14, none, none] ∧
      Kept dk H1 H' ∧ Deck H' dk (804 + 3 * i) ∧ Grp H' dk G gA gB gC A B C ∧ H' pn = some (.lst [.str n0, .str n1, .str n2]) ∧ LikeAt (CL K) H' pm l2)
      ⟨none, none, rfl, kL, dL, g, hn, L2L⟩ (fun _ _ _ _ _ => trivial) ?stepD ?doneD⟩
    case doneD =>
      rintro _ HM ⟨v13, v14, rfl, kM, dM, _⟩
      exact q HM (keptNew s1 ndk kM)
    rintro i _ _ _ HM hi ⟨v13, v14, rfl, kM, dM, g, hn, L3⟩ ⟨rfl, rfl⟩
    have hi4 : i < 4 := hi
    refine ⟨_, rfl, _, rfl, G, _, 2, _, rfl, rfl, .of g.g, rfl, dk, gC, 804 + 3 * i, _, rfl, dM, by omega, Ne.symm g.nc, .of g.c, ne_map g.lc.1, len_map g.lc.2, fun z3 HN hz3 kN dN => ?_⟩
    have g := g.kept kN
    have hn := kN _ _ npnk hn
    have L4 := LikeAt.kept L3 dM kN
    have kN := kM.trans kN
    obtain ⟨z3, hz3', rfl⟩ := List.mem_map.mp hz3
    refine ⟨_, rfl, _, rfl, _, rfl, _, rfl, G, _, 0, _, rfl, rfl, .of g.g, rfl, dk, gA, _, _, rfl, dN, by omega, Ne.symm g.na, .of g.a, ne_map g.la.1, len_map g.la.2, fun x3 HO hx3 kO dO => ?_⟩
    have g := g.kept kO
    have hn := kO _ _ npnk hn
    have L5 := LikeAt.kept L4 dN kO
    have kO := kN.trans kO
    obtain ⟨x3, hx3', rfl⟩ := List.mem_map.mp hx3
    refine ⟨pm, .inl z3, .inl x3, l2, by rw [more_ca M hz3' hx3']; rfl, L5, M.wf, by omega, fun HP sP => ⟨_, rfl, iteF ?_⟩⟩
    have g := g.same sP
    have hn := sP _ _ hn
    have L6 := LikeAt.same L5 sP
    have dP := dO.keep sP
    have kP := kO.trans (.of sP)
    refine ⟨_, rfl, _, rfl, _, rfl, G, _, 1, _, rfl, rfl, .of g.g, rfl, dk, gB, _, _, rfl, dP, by omega, Ne.symm g.nb, .of g.b, ne_map g.lb.1, len_map g.lb.2, fun y3 HQ hy3 kQ dQ => ?_⟩
    have g := g.kept kQ
    have hn := kQ _ _ npnk hn
    have L7 := LikeAt.kept L6 dP kQ
    have kQ := kP.trans kQ
    obtain ⟨y3, hy3', rfl⟩ := List.mem_map.mp hy3
    refine ⟨_, rfl, pm, .inl y3, .inl z3, l2, by rw [more_bc M hh hy3' hz3']; rfl, L7, M.wf, by omega, fun HR sR => ⟨_, rfl, iteF ?_⟩⟩
    have g := g.same sR
    have hn := sR _ _ hn
    have L8 := LikeAt.same L7 sR
    have dR := dQ.keep sR
    have kR := kQ.trans (.of sR)
    clear L3 L4 L5 L6 L7 dM dN dO dP dQ kM kN kO kP kQ sP sR hz3 hx3 hy3
    refine ⟨_, rfl, by decide, by decide, fun E1 nE => ?_⟩
    refine lc_it walk_range (fun j H' => Same HR H' ∧ H' E1 = some (.lst [])) ⟨Same.new nE, upd_same⟩ (fun _ _ _ _ => trivial) ?stepE ?doneE
    case stepE =>
      rintro j _ _ HS hj ⟨sS, hE1⟩ ⟨rfl, rfl⟩
      have hj3 : j < 3 := hj
      have da := due_a (way := way) n01 n20 hj3
      refine ⟨rfl, _, rfl, _, rfl, _, rfl, _, rfl, pn, _, _, _, rfl, rfl, .of (sS _ _ hn), nm_at _ _ _ hj3, _, rfl, way, 0, rfl, hw, by decide, fun u HT nu sT hu2 => ?_⟩
      refine ⟨_, rfl, u, _, _, _, rfl, rfl, .of hu2, by rw [Int.zero_add]; exact atI_nat da, pm, .inl z3, .inr (nm n0 n1 n2 j), l2, by rw [more_cn M hh hz3']; rfl, LikeAt.same (LikeAt.same L8 sS) sT, M.wf, by omega, fun HU sU => ⟨_, rfl, iteF ?_⟩⟩
      exact ⟨(sS.trans sT).trans sU, sU _ _ (sT _ _ hE1)⟩
    rintro HS ⟨sS, hE1⟩
    refine ⟨sl rfl, fun e ne => ⟨E1, e, _, rfl, rfl, .of (old hE1 ne), .of upd_same, _, rfl, iteF ?_⟩⟩
    have sE := Same.new' (u := .lst []) sS ne
    exact ⟨_, _, rfl, kR.trans (.of sE), dR.keep sE, g.same sE, sE _ _ hn, LikeAt.same L8 sE⟩
  · exfalso
    have h1 := hear_none.mp e2
    rw [says_ca F' hh hz1' hx1'] at h1
    cases h1
end
end K14
set_option Elab.async false
set_option linter.all false
set_option maxRecDepth 100000
set_option maxHeartbeats 4000000
namespace K14
open PySem PySem.Spec L2 Sx Lk
/-! ### the law -/
section
variable {P : Program} {w : World} {K : PySem.W.Frag} {mg : Str → Option Value} {base : Heap}
theorem o_law (W : Wd K mg) {f : Addr} {fd : FuncData} (F : FunD K "law" "law" (defArgs s_law) (defBody s_law) (defScope s_law) [] [] f fd) : FnOk P w K mg base CX0 8 f fd ["script"] (sp_law K) := by
  refine okD F sc_law ?_ fun cdv A outer s H vs Q E hr h => ?_
  · rintro _ _ _ _ ⟨a, ns, rfl, _⟩; rfl
  obtain ⟨a, ns, rfl, ha, hal, q⟩ := h
  have aS : ∀ H', Same H H' → SqL K H' a (ns.map V.int) := fun H' s => by
    rcases ha with (h | ⟨o, h⟩) | h
    · exact .inl (.inl (s _ _ h))
    · exact .inl (.inr ⟨o, s _ _ h⟩)
    · exact .inr h
  have nd := sc_law.nd
  refine ⟨_, (pss_cons (ps_if (PW.pt (pw_or (pt_not (pt_val (pe_f (c__law_are_facts_right W) hr (by decide) pass0 rfl (pa_cons (pv 0) pa_nil)))) (pw_or1 (pt_not (pt_val (pe_f (c__law_is_named_alike W) hr (by decide) pass0 rfl (pa_cons (pv 0) pa_nil))))))) (pss_one (ps_ret pe_bl)) pss_nil) (pss_one (ps_ret (pe_f (c__law_are_groups_apart W) hr (by decide) pass0 rfl (pa_cons (pv 0) pa_nil))))), ?_⟩
  refine ⟨_, rfl, a, ns, rfl, ha, hal, fun H1 s1 => ⟨_, rfl, iteF ⟨_, rfl, a, ns, rfl, aS _ s1, hal, fun H2 s2 => ⟨_, rfl, iteF ?_⟩⟩⟩⟩
  exact ⟨_, rfl, a, ns, rfl, aS _ (s1.trans s2), hal, fun H3 s3 => q H3 ((s1.trans s2).trans s3)⟩
end
end K14
set_option Elab.async false
set_option linter.all false
set_option maxRecDepth 100000
set_option maxHeartbeats 0
namespace K14
open PySem PySem.Spec L2 Sx
def obsX (K : PySem.W.Frag) : He.AlD × Bool := (He.obsD fa fn K, exB K)
def valX : He.AlD × Bool := (He.valD fn, true)
def obsXG (n : Nat) (g : Addr → Option Obj) : He.AlD × Bool := obsX (He.frG g (He.asD g n))
def hookX (n : Nat) : PySem.W.Hook where
  α := He.AlD × Bool
  obs := fun s => obsXG n s.heap.get?
  val := fun _ => valX
  says := fun _ h => ∃ K : PySem.W.Frag, K.In h ∧ He.SaysD fa fn K ∧ exB K = true
  of := fun _ _ e => ⟨_, He.frG_in, congrArg Prod.fst e, congrArg Prod.snd e⟩
  keeps := fun _ _ _ ⟨K, hK, c⟩ k => ⟨K, PySem.W.Frag.In.keeps hK k, c⟩
theorem obsXG_eq {n : Nat} {g : Addr → Option Obj} {s : Shared} (h : ∀ a, g a = s.heap.get? a) : obsXG n g = (hookX n).obs s := by
  have e : g = s.heap.get? := funext h
  rw [e] <;> rfl
abbrev R : PySem.W.OpenRow := PySem.W.OpenLaw.row PySem.Challenge.rw_soundtrips_k14_facts_and_what_cannot_be
abbrev hk : PySem.W.Hook := hookX 6
def ob (s : PySem.W.SharedT) : He.AlD × Bool := obsXG 6 (HandSHeadRun.getT s)
theorem ob_eq (s : PySem.W.SharedT) : ob s = hk.obs s.abs := obsXG_eq (HandSHeadRun.getT_eq s)
def loose : List Str := (["_wall", "TripError", "Unsound", "Apart", "Odd", "Idle", "NoMatch", "TooMany", "first_of", "pair_of", "are_names", "Likeness"] : List Str) ++ (["_law_same", "_law_is_whole", "_law_cell_at", "_law_deck", "_law_draw", "_law_pick", "_law_opens", "_law_names", "_law_worlds", "_law_holds", "_law_fact", "_law_due"] : List Str) ++ (["_law_right", "_law_heard", "_law_are_facts_right", "_law_shuffled", "_law_tied", "_law_parted", "_law_due_of_group", "_law_so", "_law_groups_right", "_law_are_groups_apart", "_law_is_named_alike"] : List Str)
theorem run (w : World) : HandSHeadRun.RunEq R (PySem.W.view R.prog [38]) hk ob 4000 loose w := by
  intro os
  kernel_rfl
end K14
set_option Elab.async false
set_option linter.all false
set_option maxRecDepth 100000
set_option maxHeartbeats 0
namespace K14
open PySem PySem.Spec L2 Sx
theorem facts {P : Program} {w : World} {K : PySem.W.Frag} {h : Heap} {mg : Str → Option Value} {f : Addr} (X : K.In h) (G : h.Ns mainGlobals mg) (hfa : mg ("law" : Str) = some (.ref f)) (c : He.SaysD fa fn K) (ex : exB K = true) :
    ∃ fd : FuncData, (∀ (s : Shared) (v : Value), BindsTo s fd ⟨[v], []⟩ [("script", v)]) ∧ ∀ base : Heap, K.In base → base.Ns mainGlobals mg → FnOk P w K mg base CX0 8 f fd ["script"] (sp_law K) := by
  have W : Wd K mg := ⟨⟨h, X, G⟩, c, ex⟩
  obtain ⟨fd, F⟩ := W.f_law
  have e := hfa.symm.trans W.g_law
  cases e
  have b := FunD.bindsA (ps := ["script"]) F fun _ _ _ _ _ _ us hl => match us, hl with | [_], _ => rfl
  exact ⟨fd, fun s v => b s [v] rfl, fun base _ _ => o_law W F⟩
end K14
open PySem PySem.W PySem.Calls PyProof.Rows
theorem PySem.Challenge.cw_soundtrips_k14_facts_and_what_cannot_be_holds : PySem.Challenge.rw_soundtrips_k14_facts_and_what_cannot_be.Holds := by
  w_on; o_law
  refine HandSHeadRun.head_any (r := OpenLaw.row PySem.Challenge.rw_soundtrips_k14_facts_and_what_cannot_be) (q := view (OpenLaw.row PySem.Challenge.rw_soundtrips_k14_facts_and_what_cannot_be).prog [38]) (H := K14.hk) (ob := K14.ob) (M := 4000) (loose := K14.loose) (d := HandSHeadRun.topDef (OpenLaw.row PySem.Challenge.rw_soundtrips_k14_facts_and_what_cannot_be).prog 38) (kwd := []) K14.ob_eq
    (by kernel_rfl) (fun s => by kernel_rfl) K14.run (by kernel_rfl) (by kernel_rfl) (by kernel_rfl) (by rfl) (by first | assumption | decide +kernel) (by decide +kernel) ⟨rfl, rfl, rfl, rfl, rfl, by decide +kernel⟩ ?hw ?hc
  case hw => w_witness2
  case hc =>
    refine L2.walk_ofE (l := PySem.Challenge.rw_soundtrips_k14_facts_and_what_cannot_be) (n := 63) (k := 8) (x := "script") (CX := L2.CX0) rfl (by decide) (by kernel_rfl) ⟨rfl, by decide, by decide⟩ ?F (fun _ _ _ _ z => z)
    intro w mg fa h Y G hmg0
    obtain ⟨K, KX, c, ex⟩ := Y
    have hmg : mg ("law" : PySem.Str) = some (.ref fa) := by
      have e : (HandSHeadRun.topDef (OpenLaw.row PySem.Challenge.rw_soundtrips_k14_facts_and_what_cannot_be).prog 38).name = ("law" : PySem.Str) := by kernel_rfl
      rw [← e]
      exact hmg0
    obtain ⟨fd, hb, hF⟩ := K14.facts (P := (PySem.Challenge.rw_soundtrips_k14_facts_and_what_cannot_be).prog) (w := w) KX G hmg c ex
    exact ⟨K, fd, K14.sp_law K, KX, hb, fun H a ns hl _ hS => ⟨a, ns, rfl, hS, Nat.le_trans hl (by decide), fun _ _ => rfl⟩, hF⟩
