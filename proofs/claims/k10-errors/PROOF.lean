import PyProof.Rows.All
import Wide.All
import OpenK.AllK
import Wide.FinOn
import HandS.ForMost
import HandS.Flow
import HandS.Evl
import HandS.ForExc
import HandS.ExcInit
import HandS.ExcCtx
import HandS.HotCalls
import HandS.ExcInitHot
import HandS.DeepEq
import HandS.IsInst
import HandS.ExcIs
import HandS.ExcField
import KE.KExcIs
import HandS.Wide
import PySem.Challenge.RW_endchecks_k10_errors
set_option Elab.async false
set_option linter.all false
set_option maxRecDepth 100000
set_option maxHeartbeats 4000000
namespace EX
open PySem PySem.Spec PyProof.Rows L2
abbrev σT := L2.St
section
variable {X : Cx} {x : Str} {e : Expr} {es : List Expr} {ta : TA} {p pos : Pos} {C fI : Addr}
/-- C(e, ..), C with an own __init__ that is walked; the made one has no context -/
theorem pmkN_oex {CX : CXT} {k : Nat} {fd : FuncData} {ps : List Str} {sp : Sp} (T : OexC X.K C) (iC : PySem.W.findIn X.K (.ref C) "__init__" = some (some (.ref fI)))
    (tI : PySem.W.typeIn X.K (.ref fI) = some (.type "function")) (F1 : FnOk X.prog X.w X.K X.mg X.base CX k fI fd ps sp) (hr : Room (k + 1) X.A)
    (hb : Binds X.K fd ps []) (hx : Passes CX X (fun _ _ _ => False)) (hg : Gl X x) (hm : X.mg x = some (.ref C)) (ha : PA X (e :: es) ta)
    (hdb : (x == ("__debug__" : Str)) = false := by decide) (he : starEach (e :: es) X.env = (false, eval e X.env) :: starEach es X.env := by rfl)
    (hpl : (backTo pos (starEach es X.env)).any (·.1) = false := by rfl) : L2N.PMk X (.Call (.Name x p) (e :: es) [] pos) (tMkO C sp [] ta) := by
  intro pins s σ H Q I h
  obtain ⟨nm, q, N, bs, bm, sn, sub, ab, col, dd, k0, k1, k2, k3, k5, hC, hbm⟩ := T.cls
  refine wpAny_Call_Name_kw (ld_glob I hg hm ?_ hdb)
  refine PySem.W.callWith_K (h₀ := X.base) I.ok.mod.kin T.kC (thn (ha.run pos pins s σ H _ I h) fun us s1 ⟨vs, H1, I1, r1, hz, q1⟩ => ⟨I1.kIn, ?_⟩) he hpl
  show wpAny _ _ (call (.ref C) us) _ _ _
  obtain ⟨hp, g, dr, tk, os⟩ := s1
  generalize hxa : hp.objs.size + 1 = xa
  have szx : hp.objs.size ≤ xa := by omega
  have fr : H1 xa = none := I1.hok.fresh szx
  have hq := q1 xa fr
  rw [List.append_nil] at hq
  generalize hh2 : (hp.push (PySem.W.kdv_tup us)).push (PySem.HandSPX.excO C hp.objs.size) = hp2
  have kk : ∀ b o, hp.get? b = some o → hp2.get? b = some o := fun b o z => by
    rw [← hh2]
    exact Heap.get?_push_of_some _ (Heap.get?_push_of_some _ z)
  have hget : hp2.get? xa = some (PySem.HandSPX.excO C hp.objs.size) := by
    rw [← hh2, ← hxa]
    heap_get
  have I2 : Inv X pins σ (upd H1 xa (exo xa C none)) ⟨hp2, g, dr, tk, os⟩ := I1.laid (t' := tk) kk szx (exo_ok hget)
  have r2 : Vals (V.ref xa :: vs) (Value.ref xa :: us) := .cons rfl r1
  have hl : (Value.ref xa :: us ++ []).length = ps.length := by
    rw [List.append_nil, ← r2.length]
    exact F1.len _ _ _ _ hq
  have hus : us.length ≤ sizeLine := by
    have := r1.length
    rw [sizeLine_eq]
    omega
  have b2 := hb ⟨hp2, g, dr, tk, os⟩ (Value.ref xa :: us) I2.kIn hl
  rw [List.append_nil] at b2
  refine wpAny_call (PySem.HandSPX.call_own F.excBase_ValueError (fun Y => PySem.HandSPX.refsVE_contains Y bm hbm) (I1.kIn _ _ hC) (PySem.W.looks_findIn I1.kIn iC)
    (fun self => PySem.W.bind_fn I1.kIn self tI) hus ?_)
  rw [hxa, hh2]
  refine codeAny_mono (F1.run _ X.stack ⟨hp2, g, dr, tk, os⟩ _ ⟨Value.ref xa :: us, []⟩ (Value.ref xa :: us) _ _ (fun _ _ _ => False) (hr.make C us []) (I2.env0.make C us []) b2 r2 hq) fun r s' hq' => ?_
  cases r with
  | error er => exact hx pins σ _ _ er s' I2 hq'
  | ok fl =>
    cases fl with
    | ret u =>
      obtain ⟨v, H2, os2, bare2, un2, hok2, rv, ev, d, fs, ea, ed, hd1, q2⟩ := hq'
      subst ev
      obtain ⟨h2, g2, d2, t2, os'⟩ := s'
      obtain ⟨t0, G, J, kG, ge, hoe, na⟩ := mk_end0 (d2 := d2) (t2 := t2) I1 szx kk un2 hok2 os2 bare2 ea ed hd1
      refine ⟨rv, xa, _, _, ⟨G, g2, d2, t2, os'⟩, _, .ref C, some d, rfl, J, kG, ge, hoe, ⟨rfl, rfl, fun fv hv => ?_⟩, rfl, rfl, na, rfl, bare2, raises_own T.exC T.tyC, q2⟩
      cases hv
      rfl
    | next => exact hq'.elim
    | brk => exact hq'.elim
    | cont => exact hq'.elim
/-- C(e, ..) of an own class without __init__ -/
theorem pmkN_any {bmB : List Value} {B nI iI : String} (F : ExcBaseFacts B nI iI bmB) (q : PySem.W.excIn X.K C bmB nI = true) (gC : X.mg x = some (.ref C))
    (kC : PySem.W.keepIn X.K (.ref C) = true) (r : Raises X (.ref C)) (hg : Gl X x) (ha : PA X (e :: es) ta) (hdb : (x == ("__debug__" : Str)) = false := by decide)
    (he : starEach (e :: es) X.env = (false, eval e X.env) :: starEach es X.env := by rfl) (hpl : (backTo pos (starEach es X.env)).any (·.1) = false := by rfl) :
    L2N.PMk X (.Call (.Name x p) (e :: es) [] pos) (fun σ H Q => ta σ H fun vs H1 => vs.length ≤ sizeLine ∧ Q (.ref C) none H1) := by
  intro pins s σ H Q I h
  refine wpAny_Call_Name_kw (ld_glob I hg gC (PySem.W.callWith_K (h₀ := X.base) I.ok.mod.kin kC (thn (ha.run pos pins s σ H _ I h) fun us s1 hh => ?_) he hpl) hdb)
  obtain ⟨vs, H1, I1, r1, hz, q1⟩ := hh
  obtain ⟨bm, N, nm, qn, bs, hdct, sn, sub, ab, col, dd, k0, k1, k2, k3, k5, mN, hC, hN, hni, T⟩ := exc_obj I1.kIn q
  refine ⟨I1.kIn, wpAny_call_exc_subT F T hC hN hni (fun h' a hmd => L2N.mk_of I1 hmd r q1 (I1.hok.gone hmd.new)) ?_⟩
  show us.length ≤ sizeLine
  have := r1.length
  omega
theorem pmkN_zero {bmB : List Value} {B nI iI : String} (F : ExcBaseFacts B nI iI bmB) (q : PySem.W.excIn X.K C bmB nI = true) (gC : X.mg x = some (.ref C))
    (kC : PySem.W.keepIn X.K (.ref C) = true) (r : Raises X (.ref C)) (hg : Gl X x) (hdb : (x == ("__debug__" : Str)) = false := by decide) :
    L2N.PMk X (.Call (.Name x p) [] [] pos) (fun _ H Q => Q (.ref C) none H) := by
  intro pins s σ H Q I h
  refine wpAny_Call_Name_kw (ld_glob I hg gC (PySem.W.callWith_K0 I.kIn kC ?_) hdb)
  obtain ⟨bm, N, nm, qn, bs, hdct, sn, sub, ab, col, dd, k0, k1, k2, k3, k5, mN, hC, hN, hni, T⟩ := exc_obj I.kIn q
  exact wpAny_call_exc_subT F T hC hN hni (fun h' a hmd => L2N.mk_of I hmd r h (I.hok.gone hmd.new)) (Nat.zero_le _)
end
section
variable {P : Program} {w : World} {K : PySem.W.Frag} {mg : Str → Option Value} {base : Heap}
/-- a def that may raise, where nothing is handled -/
theorem okXN {x qn : Str} {st : Stmt} {f : Addr} {fd : FuncData} {N ps : List Str} {k : Nat} {sp : Sp} (F : Fun K x qn st f fd) (S : FnScope N ps (defScope st)) (len : ∀ vs H Q E, sp vs H Q E → vs.length = ps.length)
    (hb : ∀ (cdv : Value) (A : Around) (out : List Env) (s : Shared) (H : Hp) (vs : List V) (Q : VK) (E : XK), Room k (A.deeper (envOfC qn (defScope st) s.heap.objs.size f cdv)) → sp vs H Q E →
      ∃ t, PSs (cxOf (L2N.CX P w) P w K mg base N qn (defScope st) f cdv A out s H E) (defBody st) t ∧ t { nx := fun _ H' => Q .non H', rt := Q } (start N vs) H) :
    FnOk P w K mg base (L2N.CX P w) (k + 1) f fd ps sp := by
  obtain ⟨oc, od, kV, doc, pm, an, cdv, ct, osl, rfl, lk, hc⟩ := F.ex
  exact fn_of lk hc S len fun A out s H vs Q E hr h => hb cdv A out s H vs Q E hr h
end

/-! ### a def called within a suite, one of whose arguments may be the exception at hand -/
abbrev SpE := Addr → Value → Option Addr → Sp
structure FnE (P : Program) (w : World) (K : PySem.W.Frag) (mg : Str → Option Value) (base : Heap) (CX : CXT) (k : Nat) (f : Addr) (fd : FuncData) (ps : List Str) (sp : SpE) : Prop where
  len : ∀ a c d vs H Q E, sp a c d vs H Q E → vs.length = ps.length
  run : ∀ (A : Around) (out : List Env) (s : Shared) (H : Hp) (ar : Args) (us : List Value) (vs : List V) (Q : VK) (E : XK) (p : Addr × Obj) (c : Value) (d : Option Addr),
    L2H.RoomH k A → L2H.PinOk out H s p → L2N.Zn c d p.2 → (∃ fv, p.2.data = .fields fv) → Env0 P w K mg base A out s H → BindsTo s fd ar (ps.zip us) → Vals vs us →
    sp p.1 c d vs H Q E → codeAny (model P w) A (.call (.ref f) ar) (CR CX out P w H s Q E) s
theorem fn_ofE {CX : CXT} {P : Program} {w : World} {K : PySem.W.Frag} {mg : Str → Option Value} {base : Heap} {k : Nat} {x qn : Str} {st : Stmt} {f : Addr} {fd : FuncData} {N ps : List Str} {sp : SpE}
    (F : Fun K x qn st f fd) (S : FnScope N ps (defScope st)) (len : ∀ a c d vs H Q E, sp a c d vs H Q E → vs.length = ps.length)
    (hb : ∀ (cdv : Value) (A : Around) (out : List Env) (s : Shared) (H : Hp) (vs : List V) (Q : VK) (E : XK) (p : Addr × Obj) (c : Value) (d : Option Addr), L2N.Zn c d p.2 → (∃ fv, p.2.data = .fields fv) →
      L2H.RoomH k (A.deeper (envOfC qn (defScope st) s.heap.objs.size f cdv)) → sp p.1 c d vs H Q E →
      ∃ t, PSs (L2H.cxH CX P w K mg base N qn (defScope st) f cdv A out s H E p) (defBody st) t ∧ t { nx := fun _ H' => Q .non H', rt := Q } (start N vs) H) :
    FnE P w K mg base CX (k + 1) f fd ps sp := by
  obtain ⟨oc, od, kV, doc, pm, an, cdv, ct, osl, rfl, lk, hcd⟩ := F.ex
  refine ⟨len, fun A out s H ar us vs Q E p c d hr hpin hz hfv e0 bnd rv hsp => ?_⟩
  have ln := len _ _ _ _ _ _ _ hsp
  have kx : K.In s.heap := e0.mod.kin.keeps fun b o z => (e0.bs b o z).1
  have nl : s.heap.NoLimit := e0.mod.nolimit.keeps fun b o z => (e0.bs b o z).1
  have kd : ∀ y ∈ ps.zip us, (defScope st).names.lookup y.1 = some .local ∨
      ((defScope st).names.lookup y.1 = some .cell ∧ ((cellsFrom (s.heap.objs.size + 1) (defScope st).names []).lookup y.1).isSome = true) := by
    rintro ⟨n, v⟩ hy
    cases S.par n (List.of_mem_zip hy).1 with
    | inl q => exact Or.inl q
    | inr q => exact Or.inr ⟨q, PySem.W.cellsFrom_some _ _ _ (Or.inl q)⟩
  refine codeAny_call_function hr.depth (kx _ _ lk) rfl S.co S.gen rfl (PySem.W.codeRec_of kx hcd) (bnd _ _ _ _ ?_)
  refine wpAny_newFunctionEnv_cells S.kind kd fun env he s1 z => ?_
  subst he
  refine ⟨nl.keeps z.toInCall.keep, codeAny_func ?_⟩
  obtain ⟨t, ht, tq⟩ := hb cdv A out s H vs Q E p c d hz hfv (hr.deeper _) hsp
  have I : Inv (L2H.cxH CX P w K mg base N qn (defScope st) f cdv A out s H E p) [] (start N vs) H s1 := L2H.inv_startH S hpin e0 ln rv z
  refine wpAny_mono (ht.run [] s1 (start N vs) H _ I tq) (fun fl s' y => ?_) fun _ _ y => y
  cases fl with
  | ret u =>
    obtain ⟨v, σ', H', J, r, q⟩ := y
    exact (⟨v, H', J.os, J.bare, J.base, J.hok, r, q⟩ : CE out P w H s Q u s')
  | next =>
    obtain ⟨σ', H', J, q⟩ := y
    exact (⟨V.non, H', J.os, J.bare, J.base, J.hok, rfl, q⟩ : CE out P w H s Q Value.none s')
  | brk =>
    obtain ⟨_, _, _, q⟩ := y
    exact q.elim
  | cont =>
    obtain ⟨_, _, _, q⟩ := y
    exact q.elim
section
variable {X : Cx} {CX : CXT} {k : Nat} {f : Addr} {fd : FuncData} {ps : List Str} {sp : SpE} {E : XK} {x : Str} {p pos : Pos} {e : Expr} {es : List Expr} {t : TA} {pe : Addr × Obj} {c : Value} {d : Option Addr}
theorem pe_callE (F : FnE X.prog X.w X.K X.mg X.base CX k f fd ps sp) (hpe : pe ∈ X.pn) (hz : L2N.Zn c d pe.2) (hfv : ∃ fv, pe.2.data = .fields fv) (hr : L2H.RoomH k X.A) (hg : Gl X x) (hm : X.mg x = some (.ref f))
    (hk : PySem.W.keepIn X.K (.ref f) = true) (hb : Binds X.K fd ps []) (hx : Passes CX X E) (ha : PA X (e :: es) t)
    (hdb : (x == ("__debug__" : Str)) = false := by decide) (he : starEach (e :: es) X.env = (false, eval e X.env) :: starEach es X.env := by rfl)
    (hpl : (backTo pos (starEach es X.env)).any (·.1) = false := by rfl) : PE X (.Call (.Name x p) (e :: es) [] pos) (tCall (sp pe.1 c d) [] E t) := by
  refine ⟨fun pins s σ H Q I h => wpAny_Call_Name_kw (ld_glob I hg hm (PySem.W.callWith_K (h₀ := X.base) I.ok.mod.kin hk
    (thn (ha.run pos pins s σ H _ I h) fun us s1 ⟨vs, H1, I1, r, q⟩ => ⟨I1.kIn, ?_⟩) he hpl) hdb)⟩
  have q0 : sp pe.1 c d (vs ++ []) H1 Q E := q
  rw [List.append_nil] at q0
  have ln : us.length = ps.length := r.length.symm.trans (F.len _ _ _ _ _ _ _ q0)
  have bd := hb s1 us I1.kIn (by rw [List.append_nil]; exact ln)
  rw [List.append_nil] at bd
  have P1 := I1.pin pe (List.mem_append_left _ hpe)
  have hpin : L2H.PinOk X.stack H1 s1 pe := ⟨P1.1, P1.2.1, fun hm => (List.mem_cons.mp (I1.stkSub pe.1 hm)).elim P1.2.2.1 P1.2.2.2.1, P1.2.2.2.2⟩
  refine wpAny_call (codeAny_mono (F.run X.A X.stack s1 H1 ⟨us, []⟩ us vs Q E pe c d hr hpin hz hfv I1.env0 bd r q0) fun z s' hq => ?_)
  cases z with
  | error er => exact hx pins σ H1 s1 er s' I1 hq
  | ok fl =>
    cases fl with
    | ret u => exact I1.after hq
    | next => exact hq.elim
    | brk => exact hq.elim
    | cont => exact hq.elim
end
/-! ### isinstance(e, c), e.f of a pinned exception -/
section
variable {X : Cx} {D : Addr} {pe : Addr × Obj} {d : Option Addr}
def rIsP (K : PySem.W.Frag) (cls : Value) (d : Option Addr) (a : Addr) : List V → Hp → VK → Prop := fun xs H Q => ∃ (D : Addr) (c : V) (cv : Value) (b : Bool), cls = .ref D ∧ ExcC K D ∧ xs = [.ref a, c] ∧
  (∀ u, RelV c u → u = cv) ∧ PySem.W.kitOne K (.ref D) cv = some b ∧ (∀ dd, d = some dd → ∃ fs, H dd = some (.xd fs)) ∧ Q (.bl b) H
/-- the pinned exception as the library sees it -/
theorem pinned_inst {pins : List (Addr × Obj)} {σ : σT} {H : Hp} {s : Shared} (hpe : pe ∈ X.pn) (hz : L2N.Zn (.ref D) d pe.2) (hf : ∃ fv, pe.2.data = .fields fv) (I : Inv X pins σ H s)
    (hd : ∀ dd, d = some dd → ∃ fs, H dd = some (.xd fs)) : ∃ od, PySem.W.InstAt s.heap pe.1 pe.2 D od ∧ (d = none → od = none) := by
  have P1 := I.pin pe (List.mem_append_left _ hpe)
  obtain ⟨fv, hv⟩ := hf
  obtain ⟨z1, z2, _⟩ := hz
  have nc : PySem.W.notCls pe.2 = true := by
    unfold PySem.W.notCls
    rw [hv] <;> rfl
  cases d with
  | none => exact ⟨none, ⟨P1.1, z1, nc, by rw [z2]; trivial⟩, fun _ => rfl⟩
  | some dd =>
    obtain ⟨fs, hx⟩ := hd dd rfl
    obtain ⟨mA, ⟨o, es, ep, ho, _⟩, _⟩ := (show ObjOk X.prog X.w H s.heap dd (.xd fs) from I.hok dd _ hx)
    exact ⟨some o, ⟨P1.1, z1, nc, by rw [z2]; exact ho⟩, fun z => by cases z⟩
theorem call_isP {c : Value} (hpe : pe ∈ X.pn) (hz : L2N.Zn c d pe.2) (hf : ∃ fv, pe.2.data = .fields fv) : CallR X (.builtin "isinstance") (rIsP X.K c d pe.1) := by
  intro pins s σ H xs us Q I r h
  obtain ⟨D, v, cv, b, rfl, C, rfl, hcv, hk, hd, q⟩ := h
  obtain ⟨od, J, _⟩ := pinned_inst hpe hz hf I hd
  cases r with
  | cons r1 r2 =>
    cases r2 with
    | cons r3 r4 =>
      cases r4
      cases r1
      have ec := hcv _ r3
      subst ec
      have hcl : (PySem.W.clsIn X.K D).isSome = true := by
        obtain ⟨cd, z, _⟩ := PySem.W.any_some C.hd
        rw [z]
        rfl
      exact PySem.W.kia_one (PySem.W.kitx_exc hcl C.hg C.hk C.hs C.ha C.hn C.ht C.hm) I.kIn J hk (fun z => nomatch z) fun tk => ⟨.bl b, H, I.kept (t' := tk) fun _ _ z => z, rfl, q⟩
/-- e.f -/
def tXfP (K : PySem.W.Frag) (a : Addr) (cls : Value) (d : Option Addr) (f : Str) (te : TE) : TE := fun σ H Q => te σ H fun x H1 => x = .ref a ∧ ∃ (C dd : Addr) (fs : List (Str × V)) (v : V), cls = .ref C ∧ XfC K C ∧
  PySem.W.findIn K (.ref C) f = some none ∧ d = some dd ∧ H1 dd = some (.xd fs) ∧ fs.lookup f = some v ∧ Q v H1
theorem pe_xfP {c : Value} {e : Expr} {te : TE} {pos : Pos} {n : Str} (hpe : pe ∈ X.pn) (hz : L2N.Zn c d pe.2) (hf : ∃ fv, pe.2.data = .fields fv) (he : PE X e te)
    (hb : attributeBase e n X.env (eval e X.env) = eval e X.env := by rfl) : PE X (.Attribute e n pos) (tXfP X.K pe.1 c d n te) := by
  refine ⟨fun pins s σ H Q I h => attr_of hb (thn (he.run pins s σ H _ I h) fun u s1 hh => ?_)⟩
  obtain ⟨x, H1, I1, rx, rfl, C, dd, fs, v, rfl, T, hno, rfl, ea, l, q⟩ := hh
  obtain rfl : u = Value.ref pe.1 := rx
  have P1 := I1.pin pe (List.mem_append_left _ hpe)
  obtain ⟨fv, hv⟩ := hf
  obtain ⟨z1, z2, _⟩ := hz
  obtain ⟨mA, hns, hr⟩ := (show ObjOk X.prog X.w H1 s1.heap dd (.xd fs) from I1.hok dd _ ea)
  obtain ⟨od, ho, hl⟩ := lookIn_ns hns
  obtain ⟨u, hu, ru⟩ := RelO.some_of (v := v) (o := mA n) (by rw [← l]; exact hr n)
  have nc : PySem.W.notCls pe.2 = true := by
    unfold PySem.W.notCls
    rw [hv] <;> rfl
  have J : PySem.W.InstAt s1.heap pe.1 pe.2 C (some od) := ⟨P1.1, z1, nc, by rw [z2]; exact ho⟩
  exact HandSPX.exc_get I1.kIn J T.ga T.gg T.exC (PySem.W.findObj_own T.hdC hno rfl (by rw [hl, hu])) (handed_of ru) ⟨v, H1, I1.tok _, ru, q⟩
end
end EX

set_option Elab.async false
set_option linter.all false
set_option maxRecDepth 100000
set_option maxHeartbeats 4000000
namespace EX
open PySem PySem.Spec PyProof.Rows L2
section
variable {X : Cx} {pins : List (Addr × Obj)} {σ : σT} {H : Hp} {s : Shared}
theorem ok_pn {pn : List (Addr × Obj)} (ok : X.Ok) : Cx.Ok { X with pn := pn } :=
  ⟨ok.mod, ok.kind, ok.glob, ok.blt, ok.above, ok.inj, ok.has, ok.cab, ok.hd, ok.frames, ok.stk, ok.exf, ok.bs, ok.bsz, ok.noex, ok.exfs, ok.funs, ok.frf⟩
theorem inv_pn {pn : List (Addr × Obj)} (I : Inv X pins σ H s) (h : ∀ p ∈ pn, s.heap.get? p.1 = some p.2 ∧ H p.1 = none ∧ p.1 ≠ X.env.locals ∧ p.1 ∉ X.fs ∧ ∀ v, p.2.data ≠ .cell v) : Inv { X with pn := pn } pins σ H s :=
  ⟨ok_pn I.ok, I.os, I.bare, I.base, I.loc, I.cell, I.free, I.freeC, fun p hp => (List.mem_append.mp hp).elim (h p) fun z => I.pin p (List.mem_append_right _ z), I.hok, I.len⟩
end
section
variable {X : Cx}
/-- [e for t in range(..)] within a suite -/
theorem pe_lcH {elt tg iter : Expr} {ifs : List Expr} {scope : Scope} {own : List (Str × Nat)} {pos : Pos} {wi : TI} {g : TG} {tt : TT} {te : TE} (hot : L2H.HotC X) (hN : X.N.Nodup) (hi : L2H.PIH X tg iter wi) (ok : BlkOk X.N X.env.scope scope own)
    (hg : ∀ (s : Shared) (H : Hp) (C : Addr) (cl : List (Str × Addr)) (fp : List Addr), PG (X.blk s H scope (compEnvC scope cl C X.env) fp) tg g)
    (ht : ∀ (s : Shared) (H : Hp) (C : Addr) (cl : List (Str × Addr)) (fp : List Addr), PTs (X.blk s H scope (compEnvC scope cl C X.env) fp) ifs tt)
    (he : ∀ (s : Shared) (H : Hp) (C : Addr) (cl : List (Str × Addr)) (fp : List Addr), PE (X.blk s H scope (compEnvC scope cl C X.env) fp) elt te)
    (hs : ∀ x, foldedSetIterable iter X.env x = pure x := by intro _; rfl) : PE X (.ListComp elt [⟨tg, iter, ifs, 0⟩] scope pos) (tLc wi g tt te (own.map (·.2))) := by
  refine ⟨fun pins s σ H Q I h => ?_⟩
  obtain ⟨qe, hq1, hqm⟩ := hot
  rw [eval_ListComp]
  have fr : ∀ y ∈ scope.names, y.2 = .free → ∃ c, X.env.cells.lookup y.1 = some c := fun y hy z => (ok.free y hy z).elim (fun k => I.ok.has _ (Or.inl k)) fun k => I.ok.has _ (Or.inr k)
  refine wpAny_comprehension_free (use := none) rfl hs (closure_ok fr) ok.kind (fun y hy z => by rw [ok.uniq y hy, z]) (thn (hi.run pins s σ H _ I h) fun xv s1 hx => thn hx fun itv s2 h2 => ?_)
  obtain ⟨it, fp, tn, J, H2, rfl, I2, T, st2, f2, q⟩ := h2
  refine wpAny_newObj_type (newEnv_comp ?_) (by show 0 ≤ sizeLine; decide)
  generalize hD : s2.heap.objs.size = D
  have nD : H2 D = none := I2.hok.fresh (Nat.le_of_eq hD)
  obtain ⟨W, ⟨m0, w0⟩, turn⟩ := q D nD
  generalize e3 : ({ s2 with heap := s2.heap.push { cls := .type "list", data := .seq ([] : List Value).toArray } } : Shared) = s3
  have p3 : s3.heap = s2.heap.push { cls := .type "list", data := .seq ([] : List Value).toArray } := by rw [← e3]
  have keep3 : ∀ b o, s2.heap.get? b = some o → s3.heap.get? b = some o := fun b o z => by
    rw [p3]
    exact Heap.get?_push_of_some _ z
  generalize eH : upd H2 D (.lst []) = H3 at w0
  have I3 : Inv X pins σ H3 s3 := by
    rw [← eH, ← e3]
    refine I2.laid (t' := s2.toks) (fun b o z => Heap.get?_push_of_some _ z) (Nat.le_of_eq hD) ⟨Nat.zero_le _, [], 0, .nil, ?_⟩
    rw [← hD]
    exact Heap.get?_push_size _ rfl
  have f3 : ∀ b ∈ fp, FpOk X pins H3 b ∧ b < s3.heap.objs.size := fun b hb => by
    obtain ⟨o, z, _⟩ := T.obj _ _ st2 b hb
    have lt := Heap.lt_size z
    refine ⟨⟨?_, (f2 b hb).2⟩, ?_⟩
    · rw [← eH, upd_ne (by rw [← hD]; exact Nat.ne_of_lt lt)]
      exact (f2 b hb).1
    · rw [p3, Heap.size_push]
      exact Nat.lt_succ_of_lt lt
  have st3 : tn 0 s3.heap := T.keep _ _ _ st2 fun b _ o z => keep3 b o z
  have I4 := block_start I3 ok hN f3
  generalize ec : cellsFrom (s3.heap.objs.size + 1) scope.names (cloFrom X.env.cells scope.names []) = cl at I4 ⊢
  have pg := hg s3 H3 s3.heap.objs.size cl fp
  have pt := ht s3 H3 s3.heap.objs.size cl fp
  have pe := he s3 H3 s3.heap.objs.size cl fp
  show codeAny _ _ (.compStart (.ListComp elt [⟨tg, iter, ifs, 0⟩] scope pos) 0 (.ref it) (.ref D) (compEnvC scope cl s3.heap.objs.size X.env)) _ { s3 with heap := pushCells (s3.heap.push { cls := .type "dict", data := .dict #[] }) scope.names }
  generalize ecE : compEnvC scope cl s3.heap.objs.size X.env = cE at I4 pg pt pe ⊢
  have lE : cE.locals = s3.heap.objs.size := by
    subst ecE
    rfl
  generalize e4 : ({ s3 with heap := pushCells (s3.heap.push { cls := .type "dict", data := .dict #[] }) scope.names } : Shared) = s4 at I4 ⊢
  have st4 : tn 0 s4.heap := T.keep _ _ _ st3 fun b _ o z => by
    rw [← e4]
    exact pushCells_keeps _ _ _ _ (Heap.get?_push_of_some _ z)
  have q3 := I3.pin qe (List.mem_append_left _ hqm)
  have nfp : qe.1 ∉ fp := fun z => (f3 _ z).1.2.2.2.2.2 qe (List.mem_append_left _ hqm) rfl
  have nst : qe.1 ∉ frs X.stack := fun z => (List.mem_cons.mp (I3.stkSub qe.1 z)).elim q3.2.2.1 q3.2.2.2.1
  generalize eB : X.blk s3 H3 scope cE fp = B at I4 pg pt pe
  have hotB : L2H.HotC { B with pn := [qe] } := by
    subst eB
    exact ⟨qe, hq1, List.mem_singleton.mpr rfl⟩
  have toB : ∀ {ρ : σT} {G : Hp} {z : Shared}, Inv B [] ρ G z → Inv { B with pn := [qe] } [] ρ G z := by
    intro ρ G z Iz
    subst eB
    refine inv_pn Iz fun p hp => ?_
    rw [List.mem_singleton.mp hp]
    exact ⟨Iz.base.keep _ _ q3.1 q3.2.1 nst nfp, Iz.base.free _ _ q3.1 q3.2.1 nfp, fun y => Nat.ne_of_lt (Heap.lt_size q3.1) (y.trans lE), nst, q3.2.2.2.2⟩
  have ofB : ∀ {ρ : σT} {G : Hp} {z : Shared}, Inv { B with pn := [qe] } [] ρ G z → Inv B [] ρ G z := by
    intro ρ G z Iz
    subst eB
    exact inv_pn (pn := []) Iz fun p hp => absurd hp List.not_mem_nil
  have fpB : ∀ {ρ : σT} {G : Hp} {z : Shared}, Inv B [] ρ G z → (∀ b ∈ fp, G b = none) → ∀ b ∈ fp, FpOk B [] G b ∧ FpOk { B with pn := [qe] } [] G b := by
    intro ρ G z Iz hn b hb
    subst eB
    have y := Iz.ok.exf b hb
    refine ⟨⟨hn b hb, y.1, Iz.ok.exfs b hb, Or.inl hb, fun u c v => y.2 u c v, fun p hp => ?_⟩, ⟨hn b hb, y.1, Iz.ok.exfs b hb, Or.inl hb, fun u c v => y.2 u c v, fun p hp => ?_⟩⟩
    · exact absurd (show p ∈ ([] : List (Addr × Obj)) from hp) List.not_mem_nil
    · rw [List.mem_singleton.mp (show p ∈ [qe] from hp)]
      rintro rfl
      exact nfp hb
  have cB : B.prog = X.prog ∧ B.w = X.w ∧ B.K = X.K ∧ B.A = X.A ∧ B.env = cE := by
    subst eB
    exact ⟨rfl, rfl, rfl, rfl, rfl⟩
  have loop : codeAny (model X.prog X.w) X.A (.compLoop (.ListComp elt [⟨tg, iter, ifs, 0⟩] scope pos) 0 (.ref it) (.ref D) cE) (compPost (model X.prog X.w) X.A X.xe none (EP X pins σ Q) (.ref D) s3.heap.objs.size) s4 := by
    refine compLoop_any (fun n z => ∃ i G, Inv B [] (wipe σ (own.map (·.2))) G z ∧ tn i z.heap ∧ (∀ b ∈ fp, G b = none) ∧ W i n G) ?_ m0 ⟨0, H3, I4, st4, fun b hb => (f3 b hb).1.1, w0⟩
    rintro n s5 ⟨i, H5, I5, st5, n5, w5⟩
    subst eB
    rcases turn i n H5 w5 with ⟨stop, qq⟩ | ⟨go, Nx, hNx, step⟩
    · refine thnF (T.done { X.blk s3 H3 scope cE fp with pn := [qe] } rfl rfl rfl hotB i [] s5 _ H5 (fun _ _ => False) (toB I5) (fun b hb => (fpB I5 n5 b hb).2) st5 stop) fun r s6 hh => ?_
      obtain ⟨rfl, I6'⟩ := hh
      have I6 := ofB I6'
      have I7 : Inv X pins σ H5 s6 := I3.call' (ch := fp) I6.os I6.base I6.hok I6.bare fun b hb =>
        let y := (f3 b hb).1
        ⟨y.2.2.2.1, y.2.1, y.2.2.2.2.1, y.2.2.2.2.2⟩
      have nC : H5 s3.heap.objs.size = none := lE ▸ (show H5 cE.locals = none from I6.free)
      obtain ⟨m, hn, _⟩ := I6.loc
      have hn' : s6.heap.Ns s3.heap.objs.size m := lE ▸ (show s6.heap.Ns cE.locals m from hn)
      obtain ⟨g0, g1, g2, g3, g4, g5⟩ := I3.fpOk (H' := H5) (Nat.le_refl _) nC
      exact ⟨m, hn', fun h'' sb => ⟨.ref D, H5, I7.turned (t' := s6.toks) (fun b o hb z => (sb.2 b hb).trans z) g0 g1 g3 g4 g5, rfl, qq⟩⟩
    · refine thnF (T.item { X.blk s3 H3 scope cE fp with pn := [qe] } rfl rfl rfl hotB i [] s5 _ H5 (fun _ _ => False) (toB I5) (fun b hb => (fpB I5 n5 b hb).2) st5 go) fun r s6 hh => ?_
      obtain ⟨u, rfl, h6⟩ := hh
      refine thnF h6 fun _ s7 hh => ?_
      obtain ⟨y, H7, I7', r7, y7, st7, n7⟩ := hh
      have I7 := ofB I7'
      have I8 := I7.pinned (fun b hb => (fpB I7 n7 b hb).1) (T.obj _ _ st7)
      refine thnF (pg.run _ s7 _ H7 y u _ I8 r7 (step y H7 y7)) fun _ s8 hh => ?_
      obtain ⟨ρ, H8, I9, hw, q8⟩ := hh
      refine thnF (pt.run _ s8 ρ H8 _ I9 q8) fun b s9 hh => ?_
      obtain ⟨H9, I10, q9⟩ := hh
      have fin : ∀ {z : Shared} {G : Hp}, Inv (X.blk s3 H3 scope cE fp) ([] ++ pinsAt fp s7.heap) ρ G z → Nx G →
          ∃ m, m < n ∧ ∃ i G, Inv (X.blk s3 H3 scope cE fp) [] (wipe σ (own.map (·.2))) G z ∧ tn i z.heap ∧ (∀ b ∈ fp, G b = none) ∧ W i m G := by
        intro z G Iz nx
        obtain ⟨m', hm, w'⟩ := hNx G nx
        have pinz : ∀ b ∈ fp, ∀ o, s7.heap.get? b = some o → z.heap.get? b = some o ∧ G b = none := fun b hb o e =>
          let v := Iz.pin (b, o) (List.mem_append_right _ (List.mem_append_right _ (mem_pinsAt hb e)))
          ⟨v.1, v.2.1⟩
        refine ⟨m', hm, i + 1, G, (Iz.unpinned (pins := [])).weak (by rw [← hw, wipe_length]) (fun j v e => ?_), T.keep _ _ _ st7 fun b hb o e => (pinz b hb o e).1, fun b hb => ?_, w'⟩
        · rw [← hw] at e
          exact (wipe_some e).1
        · obtain ⟨o, e, _⟩ := T.obj _ _ st7 b hb
          exact (pinz b hb o e).2
      cases b with
      | false =>
        simp only [Bool.false_eq_true, if_false] at q9 ⊢
        exact fin I10 q9
      | true =>
        simp only [if_true] at q9 ⊢
        refine thnF (pe.run _ s9 ρ H9 _ I10 q9) fun z s10 hh => ?_
        obtain ⟨yv, H10, I11, r10, acc, hD10, hz10, nx⟩ := hh
        exact app_ok (X := X.blk s3 H3 scope cE fp) I11 hD10 hz10 r10 fun s11 I12 => fin I12 nx
  exact codeAny_compStart_list loop (T.self X.A 0 _ _ _ st4 loop)
end
end EX

set_option Elab.async false
set_option linter.all false
set_option maxRecDepth 100000
set_option maxHeartbeats 4000000
namespace E
open PySem L2
def top (i : Nat) : Stmt := PySem.Challenge.pw_endchecks_k10_errors.main.body.getD i (.Pass ⟨0, 0, 0, 0⟩)
abbrev sBag : Stmt := top 21
abbrev sTake : Stmt := top 22

/-! ### reading a list's item for xs[i] op= e -/
section
variable {X : Cx}
def rGetL (K : PySem.W.Frag) : V → V → Hp → VK → Prop := fun x y H Q => ∃ p xs i v, x = .ref p ∧ y = .int i ∧ SqL K H p xs ∧ 0 ≤ i ∧ i < 2 ^ 62 ∧ xs[i.toNat]? = some v ∧ Q v H
theorem get_list : PGet X (rGetL X.K) := by
  intro pins s σ H x y ov iv Q I rx ry h
  obtain ⟨p, xs, i, z, rfl, rfl, hq, h0, h1, he, q⟩ := h
  cases rx
  obtain ⟨t, rfl⟩ := ry
  obtain ⟨its, r, pl, hz⟩ := I.list hq
  obtain ⟨w, ew, rw'⟩ := r.get he
  exact wpAny_getItem_list pl.isList h0 (by omega) (by simpa using ew) ⟨z, H, I, rw', q⟩
end

theorem q31 : (0 : Int) < 2147483647 := by decide
theorem q9 : (0 : Int) < 1000000007 := by decide
theorem q8 : (0 : Int) < 998244353 := by decide
/-! ### the bag -/
structure Bag (H : Hp) (b : Addr) : Prop where
  at_ : ∃ (x y k : Int) (l : Addr) (ns : List Int), H b = some (.lst [.int x, .int y, .int k, .ref l]) ∧ H l = some (.lst (ns.map V.int)) ∧ b ≠ l ∧ 0 ≤ x ∧ 0 ≤ y ∧ 0 ≤ k ∧ ns.length ≤ 63 ∧ ∀ n ∈ ns, 0 ≤ n
/-- all but b stands -/
def But (b : Addr) (H H' : Hp) : Prop := ∀ a o, a ≠ b → H a = some o → H' a = some o
theorem But.rfl {b : Addr} {H : Hp} : But b H H := fun _ _ _ e => e
theorem But.trans {b : Addr} {H1 H2 H3 : Hp} (h : But b H1 H2) (k : But b H2 H3) : But b H1 H3 := fun a o n e => k a o n (h a o n e)
theorem But.same {b : Addr} {H1 H2 : Hp} (h : Same H1 H2) : But b H1 H2 := fun a o _ e => h a o e

def spBag (K : PySem.W.Frag) : Sp := fun vs H Q _ => ∃ (a : Addr) (ns : List Int), vs = [.ref a] ∧ SqL K H a (ns.map V.int) ∧ ns.length ≤ 63 ∧
  ∀ H' b, Same H H' → H b = none → Bag H' b → Q (.ref b) H'
def spTake : Sp := fun vs H Q _ => ∃ (b : Addr) (m : Int), vs = [.ref b, .int m] ∧ 0 < m ∧ m < 1073741824 ∧ Bag H b ∧
  ∀ (r : Int) H', 0 ≤ r → r < m → But b H H' → Bag H' b → Q (.int r) H'

section
variable {P : Program} {w : World} {K : PySem.W.Frag} {mg : Str → Option Value} {base : Heap}
theorem scBag : FnScope ["_law_script", "_law_cell"] ["_law_script"] (defScope sBag) := ⟨rfl, rfl, rfl, by decide +kernel, rfl, by decide +kernel, by decide +kernel⟩
theorem ok_bag {f : Addr} {fd : FuncData} (F : Fun K "_law_bag" "_law_bag" sBag f fd) (nabs : mg "abs" = none) : FnOk P w K mg base CX0 1 f fd ["_law_script"] (spBag K) := by
  refine F.ok scBag (fun vs H Q E h => ?_) (fun cdv A outer s H vs Q E hr h => ?_)
  · obtain ⟨a, ns, rfl, _⟩ := h
    rfl
  · obtain ⟨a, ns, rfl, hS, hlen, k⟩ := h
    refine ⟨_, pss_one (ps_ret (pe_lst (pa_cons pe_int (pa_cons pe_int (pa_cons pe_int (pa_cons
      (pe_lc (own := [("_law_cell", 1)]) (g := gName 1) (tt := tYes) rfl scBag.nd (pi_list (pe_slice sl_list (pv 0) po_none (po_some pe_int)))
        (blkOk_by (N := ["_law_script", "_law_cell"]) (sc := defScope sBag) (by decide +kernel))
        (fun _ _ _ _ _ => pg_name (i := 1) scBag.nd rfl (Or.inl rfl)) (fun _ _ _ _ _ => pts_nil)
        (fun _ _ _ _ _ => pe_callB call_abs (by rfl) nabs (by decide +kernel) (pa_cons (pv 1) pa_nil))) pa_nil)))))), ?_⟩
    refine ⟨_, rfl, 63, rfl, a, _, rfl, hS, fun p hp => ?_⟩
    have s1 : Same H (upd H p (.lst (cutV (ns.map V.int) none (some 63)))) := fun b o e => by
      rw [upd_ne (ne_of_none e hp)]
      exact e
    obtain ⟨ms, hms, hml⟩ : ∃ ms : List Int, cutV (ns.map V.int) none (some 63) = ms.map V.int ∧ ms.length ≤ 63 := by
      refine ⟨((ns.drop (HT.sIx (ns.map V.int).length 0 none)).take (HT.sIx (ns.map V.int).length (ns.map V.int).length (some 63) - HT.sIx (ns.map V.int).length 0 none)), ?_, ?_⟩
      · unfold cutV
        rw [List.map_take, List.map_drop]
      · rw [List.length_take, List.length_drop]
        omega
    rw [hms] at s1 ⊢
    refine ⟨p, rfl, ⟨_, SqL.of upd_same⟩, fun D hD => lc_list (xs := ms.map V.int) (fun i H' => H D = none ∧ H p = none ∧ D ≠ p ∧ Same H H' ∧ H' p = some (.lst (ms.map V.int)) ∧ ∃ ks : List Int, H' D = some (.lst (ks.map V.int)) ∧ ks.length = i ∧ ∀ n ∈ ks, 0 ≤ n) ?_ ?_ ?_ ?_⟩
    · have nDp : D ≠ p := fun e => by
        rw [e, upd_same] at hD
        cases hD
      have hD0 : H D = none := by
        rw [upd_ne nDp] at hD
        exact hD
      refine ⟨hD0, hp, nDp, fun b o e => ?_, ?_, [], upd_same, rfl, fun n z => absurd z List.not_mem_nil⟩
      · rw [upd_ne (ne_of_none e hD0)]
        exact s1 _ _ e
      · rw [upd_ne nDp.symm, upd_same]
    · rintro i H' _ ⟨_, _, _, _, h5, _⟩
      exact SqL.of h5
    · rintro i x H' hx ⟨h1, h2, h3, h4, h5, ks, h6, h7, h8⟩
      obtain ⟨n, rfl⟩ : ∃ n, x = V.int n := by
        rw [List.getElem?_map] at hx
        cases e : ms[i]? with
        | none => rw [e] at hx; cases hx
        | some n => rw [e] at hx; exact ⟨n, (Option.some.inj hx).symm⟩
      refine ⟨rfl, ⟨_, rfl, n, rfl, ks.map V.int, h6, ?_, h1, h2, h3, fun b o e => ?_, ?_, ks ++ [if n < 0 then -n else n], ?_, ?_, ?_⟩⟩
      · have hi : i < ms.length := by
          have := (List.getElem?_eq_some_iff.mp hx).1
          rw [List.length_map] at this
          exact this
        rw [List.length_map, h7, sizeLine_eq]
        omega
      · rw [upd_ne (ne_of_none e h1)]
        exact h4 _ _ e
      · rw [upd_ne h3.symm]
        exact h5
      · rw [upd_same, List.map_append]
        rfl
      · rw [List.length_append, h7]
        rfl
      · intro z hz
        rcases List.mem_append.mp hz with hz | hz
        · exact h8 z hz
        · rw [List.mem_singleton.mp hz]
          split <;> omega
    · rintro H' ⟨h1, h2, h3, h4, h5, ks, h6, h7, h8⟩
      refine ⟨by show 4 ≤ sizeLine; decide, fun b hb => k _ b (fun c o e => ?_) (h4.free hb) ⟨⟨0, 1234567891, 0, D, ks, upd_same, ?_, ?_, ?_⟩⟩⟩
      · rw [upd_ne (ne_of_none (h4 _ _ e) hb)]
        exact h4 _ _ e
      · rw [upd_ne (ne_of_none h6 hb)]
        exact h6
      · exact (ne_of_none h6 hb).symm
      · refine ⟨by decide, by decide, by decide, ?_, h8⟩
        rw [h7, List.length_map]
        exact hml
theorem scTake : FnScope ["_law_bag_here", "_law_many", "_law_cell", "_law_mixed", "_law_drawn", "_law_early", "_law_second"] ["_law_bag_here", "_law_many"] (defScope sTake) := ⟨rfl, rfl, rfl, by decide +kernel, rfl, by decide +kernel, by decide +kernel⟩
theorem ok_take {f : Addr} {fd : FuncData} (F : Fun K "_law_take" "_law_take" sTake f fd) (nint : mg "int" = none) : FnOk P w K mg base CX0 1 f fd ["_law_bag_here", "_law_many"] spTake := by
  refine F.ok scTake (fun vs H Q E h => ?_) (fun cdv A outer s H vs Q E hr h => ?_)
  · obtain ⟨b, m, rfl, _⟩ := h
    rfl
  · obtain ⟨b, m, rfl, hm0, hm1, hB, k⟩ := h
    refine ⟨_, Evl.pss_cut (ps_if (pt_cmpR op_eq (pe_ix ix_list (pv 0) pe_int (fun _ _ => rfl)) pe_int (nomark _))
        (pss_cons (ps_set (i := 2) scTake.nd rfl (Or.inl rfl) (pe_ix ix_list (pe_op op_cat (pe_slice sl_list (pe_ix ix_list (pv 0) pe_int (fun _ _ => rfl)) (po_some (pe_ix ix_list (pv 0) pe_int (fun _ _ => rfl))) po_none) (pe_lst (pa_cons pe_int pa_nil))) pe_int (fun _ _ => rfl)))
        (pss_cons (ps_augS (pv 0) pe_int get_list pe_int ip_add set_list)
        (pss_cons (ps_asg (pe_op op_mul (pv 2) (pe_callTy call_int1 (by rfl) nint (by decide +kernel) (pa_cons (pe_cmpR op_ge (pv 2) (pe_op op_pow pe_int pe_int) (nomark _)) pa_nil))) (pg_sub (pv 0) pe_int set_list))
        (pss_cons (ps_set (i := 3) scTake.nd rfl (Or.inl rfl) (pe_op op_add (pe_op op_add (pe_op op_mul (pe_ix ix_list (pv 0) pe_int (fun _ _ => rfl)) pe_int) (pe_op op_mod (pe_callTy call_int1 (by rfl) nint (by decide +kernel) (pa_cons (pv 2) pa_nil)) pe_int)) (pe_op op_mul pe_int (pe_ix ix_list (pv 0) pe_int (fun _ _ => rfl)))))
        (pss_one (ps_asg (pe_op op_mod (pe_callTy call_int1 (by rfl) nint (by decide +kernel) (pa_cons (pv 3) pa_nil)) pe_int) (pg_sub (pv 0) pe_int set_list)))))))
        pss_nil)
      (pss_cons (ps_if (pt_cmpR op_gt (pe_ix ix_list (pv 0) pe_int (fun _ _ => rfl)) pe_int (nomark _))
        (pss_cons (ps_asg (pe_tup (pa_cons (pe_op op_mod (pe_callTy call_int1 (by rfl) nint (by decide +kernel) (pa_cons (pe_ix ix_list (pv 0) pe_int (fun _ _ => rfl)) pa_nil)) (pv 1)) (pa_cons (pe_op op_fdiv (pe_callTy call_int1 (by rfl) nint (by decide +kernel) (pa_cons (pe_ix ix_list (pv 0) pe_int (fun _ _ => rfl)) pa_nil)) (pv 1)) pa_nil)))
            (pg_tup (by rfl) (pgs_cons (pg_name (i := 4) scTake.nd rfl (Or.inl rfl)) (pgs_cons (pg_sub (pv 0) pe_int set_list) pgs_nil))))
        (pss_one (ps_ret (pv 4)))) pss_nil)
      (pss_cons (ps_set (i := 5) scTake.nd rfl (Or.inl rfl) (pe_op op_mod (pe_callTy call_int1 (by rfl) nint (by decide +kernel) (pa_cons (pe_op op_mul (pe_op op_add (pe_ix ix_list (pv 0) pe_int (fun _ _ => rfl)) pe_int) pe_int) pa_nil)) pe_int))
      (pss_cons (ps_set (i := 6) scTake.nd rfl (Or.inl rfl) (pe_op op_mod (pe_callTy call_int1 (by rfl) nint (by decide +kernel) (pa_cons (pe_op op_mul (pe_op op_mod (pe_callTy call_int1 (by rfl) nint (by decide +kernel) (pa_cons (pe_op op_mul (pv 5) (pv 5)) pa_nil)) pe_int) pe_int) pa_nil)) pe_int))
      (pss_one (ps_ret (pe_op op_mod (pe_callTy call_int1 (by rfl) nint (by decide +kernel) (pa_cons (pe_op op_fdiv (pv 6) pe_int) pa_nil)) (pv 1))))))), ?_⟩
    obtain ⟨x, y, c, l, ns, hb, hl, nbl, x0, y0, c0, h63, hns⟩ := hB.at_
    -- what follows the first if
    refine ⟨fun σ' H1 => ∃ (x1 y1 c1 : Int) (v2 v3 : Option V), σ' = [some (.ref b), some (.int m), v2, v3, none, none, none] ∧ H1 b = some (.lst [.int x1, .int y1, .int c1, .ref l]) ∧
      H1 l = some (.lst (ns.map V.int)) ∧ But b H H1 ∧ 0 ≤ x1 ∧ 0 ≤ y1 ∧ 0 ≤ c1, ?_, ?_⟩
    · refine ⟨_, rfl, b, _, 0, _, rfl, rfl, SqL.of hb, rfl, rfl, _, rfl, ?_⟩
      refine ite2 (fun _ => ?_) (fun _ => ⟨x, y, c, none, none, rfl, hb, hl, But.rfl, x0, y0, c0⟩)
      -- _law_cell = (bag[3][bag[2]:] + [0])[0]
      refine ⟨_, rfl, b, _, 3, _, rfl, rfl, SqL.of hb, rfl, _, rfl, b, _, 2, _, rfl, rfl, SqL.of hb, rfl, _, rfl, l, _, rfl, SqL.of hl, fun p hp => ?_⟩
      obtain ⟨ms, hms, hm63, hmn⟩ : ∃ ms : List Int, cutV (ns.map V.int) (some c) none = ms.map V.int ∧ ms.length ≤ 63 ∧ ∀ n ∈ ms, 0 ≤ n := by
        refine ⟨(ns.drop (HT.sIx (ns.map V.int).length 0 (some c))).take (HT.sIx (ns.map V.int).length (ns.map V.int).length none - HT.sIx (ns.map V.int).length 0 (some c)), ?_, ?_, ?_⟩
        · unfold cutV
          rw [List.map_take, List.map_drop]
        · rw [List.length_take, List.length_drop]
          omega
        · intro n hn
          exact hns n (List.mem_of_mem_drop (List.mem_of_mem_take hn))
      rw [hms]
      refine ⟨by show 1 ≤ sizeLine; decide, fun p2 hp2 => ?_⟩
      have n1 : p2 ≠ p := fun e => by
        rw [e, upd_same] at hp2
        cases hp2
      have hp20 : H p2 = none := by
        rw [upd_ne n1] at hp2
        exact hp2
      have nbp : b ≠ p := ne_of_none hb hp
      have nbp2 : b ≠ p2 := ne_of_none hb hp20
      have nlp : l ≠ p := ne_of_none hl hp
      have nlp2 : l ≠ p2 := ne_of_none hl hp20
      have u1 : upd (upd H p (.lst (ms.map V.int))) p2 (.lst [.int 0]) p = some (.lst (ms.map V.int)) := by rw [upd_ne n1.symm, upd_same]
      refine ⟨p, p2, _, _, rfl, rfl, u1, upd_same, ?_, fun p3 hp3 => ?_⟩
      · rw [List.length_map, sizeLine_eq]
        show ms.length + 1 ≤ _
        omega
      have n3 : p3 ≠ p := fun e => by rw [e, u1] at hp3; cases hp3
      have n4 : p3 ≠ p2 := fun e => by rw [e, upd_same] at hp3; cases hp3
      have hp30 : H p3 = none := by
        rw [upd_ne n4, upd_ne n3] at hp3
        exact hp3
      have nbp3 : b ≠ p3 := ne_of_none hb hp30
      have nlp3 : l ≠ p3 := ne_of_none hl hp30
      obtain ⟨z, rest, hz, z0⟩ : ∃ (z : Int) (rest : List V), ms.map V.int ++ [V.int 0] = V.int z :: rest ∧ 0 ≤ z := by
        cases ms with
        | nil => exact ⟨0, [], rfl, by decide⟩
        | cons q qs => exact ⟨q, qs.map V.int ++ [.int 0], rfl, hmn q List.mem_cons_self⟩
      rw [hz]
      refine ⟨p3, _, 0, _, rfl, rfl, SqL.of upd_same, atI_nat (j := 0) rfl, ?_⟩
      -- the heap from here on
      generalize hH4 : upd (upd (upd H p (.lst (ms.map V.int))) p2 (.lst [.int 0])) p3 (.lst (V.int z :: rest)) = H4
      have b4 : H4 b = some (.lst [.int x, .int y, .int c, .ref l]) := by
        rw [← hH4, upd_ne nbp3, upd_ne nbp2, upd_ne nbp]
        exact hb
      have l4 : H4 l = some (.lst (ns.map V.int)) := by
        rw [← hH4, upd_ne nlp3, upd_ne nlp2, upd_ne nlp]
        exact hl
      have s4 : But b H H4 := fun a o na e => by
        rw [← hH4, upd_ne (ne_of_none e hp30), upd_ne (ne_of_none e hp20), upd_ne (ne_of_none e hp)]
        exact e
      -- bag[2] += 1
      refine ⟨_, rfl, b, _, 2, _, rfl, rfl, SqL.of b4, by decide, by decide, rfl, c, 1, rfl, rfl, b, _, 2, 2, rfl, rfl, b4, rfl, ?_⟩
      -- bag[0] = cell * int(cell >= 10 ** 18)
      refine ⟨_, rfl, _, rfl, 10, 18, rfl, rfl, ⟨by decide, by decide, by decide⟩, z, _, rfl, rfl, Or.inr ⟨_, rfl, z, _, rfl, rfl, Or.inr ⟨?_, ?_⟩, _, rfl, b, _, 0, 0, rfl, rfl, upd_same, rfl, ?_⟩⟩
      · split <;> decide
      · split <;> decide
      have x10 : 0 ≤ z * (if decide ((10 : Int) ^ (18 : Int).toNat ≤ z) = true then 1 else 0) := by
        split
        · rw [Int.mul_one]
          exact z0
        · rw [Int.mul_zero]
          exact Int.le_refl 0
      rw [upd_upd]
      -- mixed = bag[1] * 48271 + int(cell) % 2147483647 + 7919 * bag[2]
      refine ⟨_, rfl, b, _, 1, _, rfl, rfl, SqL.of upd_same, rfl, y, 48271, rfl, rfl, Or.inr ⟨by decide, by decide⟩, _, rfl, Or.inl ⟨z, rfl, z, 2147483647, rfl, rfl, q31, _, _, rfl, rfl, _, rfl, b, _, 2, _, rfl, rfl, SqL.of upd_same, rfl, 7919, _, rfl, rfl, Or.inl ⟨by decide, by decide⟩, _, _, rfl, rfl, ?_⟩⟩
      -- bag[1] = int(mixed) % 2147483647
      refine ⟨_, rfl, Or.inl ⟨_, rfl, _, 2147483647, rfl, rfl, q31, _, rfl, b, _, 1, 1, rfl, rfl, upd_same, rfl, ?_⟩⟩
      rw [upd_upd]
      refine ⟨z * (if decide ((10 : Int) ^ (18 : Int).toNat ≤ z) = true then 1 else 0), (y * 48271 + z % 2147483647 + 7919 * (c + 1)) % 2147483647, c + 1, _, _, rfl, upd_same, ?_, fun a o na e => ?_, x10, Int.emod_nonneg _ (by decide), by omega⟩
      · rw [upd_ne nbl.symm]
        exact l4
      · rw [upd_ne na]
        exact s4 a o na e
    · rintro σ' H1 ⟨x1, y1, c1, v2, v3, rfl, hb1, hl1, hs1, x10, y10, c10⟩
      refine ⟨_, rfl, b, _, 0, _, rfl, rfl, SqL.of hb1, rfl, x1, 0, rfl, rfl, _, rfl, ?_⟩
      refine ite2 (fun _ => ?_) (fun _ => ?_)
      · -- drawn, bag[0] = int(bag[0]) % many, int(bag[0]) // many
        refine ⟨_, rfl, b, _, 0, _, rfl, rfl, SqL.of hb1, rfl, Or.inl ⟨x1, rfl, _, rfl, x1, m, rfl, rfl, hm0, _, rfl, b, _, 0, _, rfl, rfl, SqL.of hb1, rfl, Or.inl ⟨x1, rfl, _, rfl, x1, m, rfl, rfl, ⟨hm0, hm1⟩, ?_⟩⟩⟩
        refine ⟨by show 2 ≤ sizeLine; decide, fun t ht => ?_⟩
        have nbt : b ≠ t := ne_of_none hb1 ht
        refine ⟨t, _, rfl, SqT.of upd_same, rfl, _, _, rfl, _, _, rfl, _, rfl, b, _, 0, 0, rfl, rfl, by rw [upd_ne nbt]; exact hb1, rfl, rfl, _, rfl, ?_⟩
        refine k _ _ (Int.emod_nonneg _ (by omega)) (Int.emod_lt_of_pos _ hm0) (fun a o na e => ?_) ⟨⟨_, y1, c1, l, ns, upd_same, ?_, nbl, ?_, y10, c10, h63, hns⟩⟩
        · have e1 := hs1 a o na e
          rw [upd_ne na, upd_ne (ne_of_none e1 ht)]
          exact e1
        · rw [upd_ne nbl.symm, upd_ne (ne_of_none hl1 ht)]
          exact hl1
        · exact Int.ediv_nonneg x10 (by omega)
      · -- early, second
        refine ⟨_, rfl, b, _, 1, _, rfl, rfl, SqL.of hb1, rfl, y1, 1, rfl, rfl, _, 39373, rfl, rfl, Or.inr ⟨by decide, by decide⟩, Or.inl ⟨_, rfl, _, 1000000007, rfl, rfl, q9, ?_⟩⟩
        have e0 : 0 ≤ (y1 + 1) * 39373 % 1000000007 := Int.emod_nonneg _ (by decide)
        have e1 : (y1 + 1) * 39373 % 1000000007 < 1000000007 := Int.emod_lt_of_pos _ (by decide)
        refine ⟨_, rfl, _, rfl, _, _, rfl, rfl, Or.inl ⟨by omega, by omega⟩, Or.inl ⟨_, rfl, _, 998244353, rfl, rfl, q8, _, 30011, rfl, rfl, Or.inr ⟨by decide, by decide⟩, Or.inl ⟨_, rfl, _, 998244353, rfl, rfl, q8, ?_⟩⟩⟩
        refine ⟨_, rfl, _, 7, rfl, rfl, ⟨by decide, by decide⟩, Or.inl ⟨_, rfl, _, rfl, _, m, rfl, rfl, hm0, ?_⟩⟩
        exact k _ _ (Int.emod_nonneg _ (by omega)) (Int.emod_lt_of_pos _ hm0) hs1 ⟨⟨x1, y1, c1, l, ns, hb1, hl1, nbl, x10, y10, c10, h63, hns⟩⟩
end
end E

set_option Elab.async false
set_option linter.all false
set_option maxRecDepth 100000
set_option maxHeartbeats 4000000
namespace E
open PySem L2
abbrev sOdd : Stmt := top 23
/-- a value of the kinds that are drawn -/
def okV : V → Bool
  | .non => true
  | .bl _ => true
  | .int _ => true
  | .str _ => true
  | .ref _ => true
  | _ => false
theorem same_new {H H1 : Hp} {p : Addr} {o : HO} (s : Same H H1) (hp : H1 p = none) : Same H (upd H1 p o) := fun b u e => by
  have e1 := s b u e
  rw [upd_ne (ne_of_none e1 hp)]
  exact e1
theorem same_upd {H H1 : Hp} {p : Addr} {o : HO} (s : Same H H1) (hp : H p = none) : Same H (upd H1 p o) := fun b u e => by
  rw [upd_ne (ne_of_none e hp)]
  exact s b u e
theorem Bag.same {H H1 : Hp} {b : Addr} (B : Bag H b) (s : Same H H1) : Bag H1 b := by
  obtain ⟨x, y, k, l, ns, h1, h2, h3⟩ := B.at_
  exact ⟨⟨x, y, k, l, ns, s _ _ h1, s _ _ h2, h3⟩⟩
theorem Bag.ne {H : Hp} {b p : Addr} (B : Bag H b) (hp : H p = none) : p ≠ b := by
  obtain ⟨x, y, k, l, ns, h1, h2, h3⟩ := B.at_
  exact (ne_of_none h1 hp).symm
def spOdd : Sp := fun vs H Q _ => ∃ (b : Addr), vs = [.ref b] ∧ Bag H b ∧ ∀ (v : V) H', okV v = true → But b H H' → Bag H' b → Q v H'
section
variable {P : Program} {w : World} {K : PySem.W.Frag} {mg : Str → Option Value} {base : Heap}
theorem scOdd : FnScope ["_law_bag_here", "_law_deep", "_law_k", "_law_some"] ["_law_bag_here"] (defScope sOdd) := ⟨rfl, rfl, rfl, by decide +kernel, rfl, by decide +kernel, by decide +kernel⟩
theorem ok_odd {f fT : Addr} {fd fdT : FuncData} (F : Fun K "_law_odd" "_law_odd" sOdd f fd) (GT : FnOk P w K mg base CX0 1 fT fdT ["_law_bag_here", "_law_many"] spTake) (bT : Binds K fdT ["_law_bag_here", "_law_many"] [])
    (mT : mg "_law_take" = some (.ref fT)) (kT : PySem.W.keepIn K (.ref fT) = true) (nrange : mg "range" = none) : FnOk P w K mg base CX0 2 f fd ["_law_bag_here"] spOdd := by
  refine F.ok scOdd (fun vs H Q E h => ?_) (fun cdv A outer s H vs Q E hr h => ?_)
  · obtain ⟨b, rfl, _⟩ := h
    rfl
  · obtain ⟨b, rfl, hB, k⟩ := h
    refine ⟨_, pss_cons (ps_set (i := 1) scOdd.nd rfl (Or.inl rfl) (pe_lst pa_nil))
      (pss_cons (ps_for PassesOwn.never rfl (pi_range1 rfl nrange (pa_cons pe_int pa_nil)) (pg_name (i := 2) scOdd.nd rfl (Or.inl rfl))
        (pss_one (ps_set (i := 1) scOdd.nd rfl (Or.inl rfl) (pe_lst (pa_cons (pv 1) pa_nil)))))
      (pss_cons (ps_set (i := 3) scOdd.nd rfl (Or.inl rfl) (pe_lst (pa_cons pe_non (pa_cons pe_bl (pa_cons pe_bl (pa_cons pe_int (pa_cons pe_int (pa_cons (pe_un un_neg pe_int) (pa_cons (pe_op op_pow pe_int pe_int)
        (pa_cons pe_str (pa_cons pe_str (pa_cons pe_str (pa_cons pe_str (pa_cons pe_str (pa_cons (pe_tup pa_nil) (pa_cons (pe_lst pa_nil) (pa_cons pe_dnewK (pa_cons (pe_lst (pa_cons pe_int pa_nil)) (pa_cons (pe_tup (pa_cons pe_str pa_nil)) pa_nil)))))))))))))))))))
      (pss_one (ps_ret (pe_ix ix_list (pe_op op_cat (pv 3) (pe_lst (pa_cons (pv 1) (pa_cons (pe_disp (pps_cons pe_int pe_non pps_nil) (by rfl) (by rfl) (fun z => by cases z) (by decide)) (pa_cons (pe_tup (pa_cons pe_str pa_nil)) (pa_cons (pe_tup (pa_cons pe_str (pa_cons pe_str pa_nil)))
        (pa_cons (pe_lst (pa_cons (pe_tup (pa_cons pe_str (pa_cons (pe_tup (pa_cons pe_str pa_nil)) pa_nil))) pa_nil)) pa_nil))))))) (pe_call GT (hr.mono (by decide)) rfl mT kT bT .nil pass0 (pa_cons (pv 0) (pa_cons pe_int pa_nil))) (fun _ _ => rfl)))))), ?_⟩
    refine ⟨Nat.zero_le _, fun p0 hp0 => ?_⟩
    have s0 := same_new (o := .lst []) (Same.refl H) hp0
    refine ⟨5, rfl, by decide, by decide, for_range (lo := 0) (n := 5) (fun i σ' H' => ∃ (d : Addr) (v : Option V), σ' = [some (.ref b), some (.ref d), v, none] ∧ Same H H') ⟨p0, none, rfl, s0⟩ ?_ ?_⟩
    · rintro i σ' H' hi ⟨d, v, rfl, s1⟩
      exact ⟨_, rfl, by show 1 ≤ sizeLine; decide, fun p hp => ⟨p, _, rfl, same_new s1 hp⟩⟩
    rintro σ' H1 ⟨d, v, rfl, s1⟩
    refine ⟨1, rfl, 10, 39, rfl, rfl, ⟨by decide, by decide, by decide⟩, Nat.zero_le _, fun p1 h1 => ?_⟩
    generalize ep1 : upd _ p1 _ = Ha
    have sa : Same H Ha := by rw [← ep1]; exact same_new s1 h1
    refine ⟨Nat.zero_le _, fun p2 h2 => ?_⟩
    generalize ep2 : upd _ p2 _ = Hb
    have sb : Same H Hb := by rw [← ep2]; exact same_new sa h2
    intro p3 h3
    generalize ep3 : upd _ p3 _ = Hc
    have sc : Same H Hc := by rw [← ep3]; exact same_new sb h3
    refine ⟨by show 1 ≤ sizeLine; decide, fun p4 h4 => ?_⟩
    generalize ep4 : upd _ p4 _ = Hd
    have sd : Same H Hd := by rw [← ep4]; exact same_new sc h4
    refine ⟨by show 1 ≤ sizeLine; decide, fun p5 h5 => ?_⟩
    generalize ep5 : upd _ p5 _ = He
    have se : Same H He := by rw [← ep5]; exact same_new sd h5
    refine ⟨by show 17 ≤ sizeLine; decide, fun p6 h6 => ?_⟩
    generalize ep6 : upd _ p6 _ = Hf
    have sf : Same H Hf := by rw [← ep6]; exact same_new se h6
    have gf : Hf p6 = some _ := (congrFun ep6 p6).symm.trans upd_same
    refine ⟨_, rfl, _, rfl, ?_⟩
    intro p7 h7
    refine ⟨upd_same, [(Sum.inl 0, .non)], rfl, by decide, ?_⟩
    rw [upd_upd]
    generalize ep7 : upd _ p7 _ = Hg
    have sg : Same Hf Hg := by rw [← ep7]; exact same_new (Same.refl _) h7
    refine ⟨by show 1 ≤ sizeLine; decide, fun p8 h8 => ?_⟩
    generalize ep8 : upd _ p8 _ = Hh
    have sh : Same Hf Hh := by rw [← ep8]; exact same_new sg h8
    refine ⟨by show 2 ≤ sizeLine; decide, fun p9 h9 => ?_⟩
    generalize ep9 : upd _ p9 _ = Hi
    have si : Same Hf Hi := by rw [← ep9]; exact same_new sh h9
    refine ⟨by show 1 ≤ sizeLine; decide, fun p10 h10 => ?_⟩
    generalize ep10 : upd _ p10 _ = Hj
    have sj : Same Hf Hj := by rw [← ep10]; exact same_new si h10
    refine ⟨by show 2 ≤ sizeLine; decide, fun p11 h11 => ?_⟩
    generalize ep11 : upd _ p11 _ = Hk
    have sk : Same Hf Hk := by rw [← ep11]; exact same_new sj h11
    refine ⟨by show 1 ≤ sizeLine; decide, fun p12 h12 => ?_⟩
    generalize ep12 : upd _ p12 _ = Hl
    have sl : Same Hf Hl := by rw [← ep12]; exact same_new sk h12
    refine ⟨by show 5 ≤ sizeLine; decide, fun p13 h13 => ?_⟩
    generalize ep13 : upd _ p13 _ = Hm
    have sm : Same Hf Hm := by rw [← ep13]; exact same_new sl h13
    have gm : Hm p13 = some _ := (congrFun ep13 p13).symm.trans upd_same
    refine ⟨p6, p13, _, _, rfl, rfl, sm _ _ gf, gm, by show 17 + 5 ≤ sizeLine; decide, fun p14 h14 => ?_⟩
    generalize ep14 : upd _ p14 _ = Hn
    have sn : Same Hf Hn := by rw [← ep14]; exact same_new sm h14
    obtain ⟨xs, gn, lx, ax⟩ : ∃ xs : List V, Hn p14 = some (.lst xs) ∧ xs.length = 22 ∧ xs.all okV = true := ⟨_, (congrFun ep14 p14).symm.trans upd_same, rfl, rfl⟩
    have bn : Bag Hn b := hB.same (sf.trans sn)
    refine ⟨_, rfl, b, 22, rfl, by decide, by decide, bn, fun r H' r0 r1 hb' hB' => ?_⟩
    have ne : p14 ≠ b := by
      rintro rfl
      exact hB.ne (sf.free (sm.free h14)) rfl
    have g' := hb' p14 _ ne gn
    obtain ⟨j, rfl⟩ := Int.eq_ofNat_of_zero_le r0
    have hj : j < xs.length := by omega
    refine ⟨p14, _, (j : Int), _, rfl, rfl, SqL.of g', atI_nat (List.getElem?_eq_getElem hj), ?_⟩
    refine k _ H' ?_ (fun a o na e => hb' a o na ((sf.trans sn) a o e)) hB'
    exact List.all_eq_true.mp ax _ (List.getElem_mem hj)
end
end E

set_option Elab.async false
set_option linter.all false
set_option maxRecDepth 100000
set_option maxHeartbeats 4000000
namespace E
open PySem L2 EX
abbrev sFlags : Stmt := top 26
def nmC : List Str := ["Wrong", "TooMany", "Full", "BadRule", "BadRow", "NoRow", "Taken", "BadStatement", "Twice", "Unput", "Unfit", "NoPlace", "Broken", "Illegal", "NoDeed", "Nothing", "NoText", "NoCommand"]
/-- what is known of the exception's dict -/
def DictOk (H : Hp) (d : Option Addr) : Prop := ∀ dd, d = some dd → ∃ fs, H dd = some (.xd fs)
theorem DictOk.same {H H' : Hp} {d : Option Addr} (h : DictOk H d) (s : Same H H') : DictOk H' d := fun dd e => by
  obtain ⟨fs, z⟩ := h dd e
  exact ⟨fs, s _ _ z⟩
def spFlags (K : PySem.W.Frag) (C : Nat → Addr) : SpE := fun a c d vs H Q _ => ∃ (D : Addr) (f : Nat → Bool), c = .ref D ∧ ExcC K D ∧ vs = [.ref a] ∧ DictOk H d ∧ (∀ j, j < 18 → PySem.W.kitOne K (.ref D) (.ref (C j)) = some (f j)) ∧
  ∀ H' p, Same H H' → H p = none → H' p = some (.lst ((List.range 18).map fun j => .bl (f j))) → Q (.ref p) H'
section
variable {P : Program} {w : World} {K : PySem.W.Frag} {mg : Str → Option Value} {base : Heap}
theorem scFlags : FnScope ["_law_e", "_law_found"] ["_law_e"] (defScope sFlags) := ⟨rfl, rfl, rfl, by decide +kernel, rfl, by decide +kernel, by decide +kernel⟩
theorem ok_flags {f : Addr} {fd : FuncData} {C : Nat → Addr} (F : Fun K "_law_flags" "_law_flags" sFlags f fd) (nis : mg "isinstance" = none) (hC : ∀ j (h : j < 18), mg (nmC[j]'h) = some (.ref (C j))) :
    FnE P w K mg base CX0 1 f fd ["_law_e"] (spFlags K C) := by
  refine fn_ofE F scFlags (fun a c d vs H Q E h => ?_) (fun cdv A out s H vs Q E p c d hz hf hr h => ?_)
  · obtain ⟨D, f, _, _, rfl, _⟩ := h
    rfl
  · obtain ⟨D, f, rfl, hE, rfl, hd, hk, k⟩ := h
    refine ⟨_, pss_cons (ps_set (i := 1) scFlags.nd rfl (Or.inl rfl) (pe_lst (pa_cons (pe_callB (call_isP (pe := p) (d := d) (c := .ref D) (List.mem_singleton.mpr rfl) hz hf) (by rfl) nis (by decide +kernel) (pa_cons (pv 0) (pa_cons (pe_glob (v := V.ref (C 0)) rfl (hC 0 (by decide)) rfl) pa_nil))) (pa_cons (pe_callB (call_isP (pe := p) (d := d) (c := .ref D) (List.mem_singleton.mpr rfl) hz hf) (by rfl) nis (by decide +kernel) (pa_cons (pv 0) (pa_cons (pe_glob (v := V.ref (C 1)) rfl (hC 1 (by decide)) rfl) pa_nil))) (pa_cons (pe_callB (call_isP (pe := p) (d := d) (c := .ref D) (List.mem_singleton.mpr rfl) hz hf) (by rfl) nis (by decide +kernel) (pa_cons (pv 0) (pa_cons (pe_glob (v := V.ref (C 2)) rfl (hC 2 (by decide)) rfl) pa_nil))) (pa_cons (pe_callB (call_isP (pe := p) (d := d) (c := .ref D) (List.mem_singleton.mpr rfl) hz hf) (by rfl) nis (by decide +kernel) (pa_cons (pv 0) (pa_cons (pe_glob (v := V.ref (C 3)) rfl (hC 3 (by decide)) rfl) pa_nil))) pa_nil))))))
      (pss_cons (ps_expr (pe_bm PySem.F.plainAttrs_list PySem.F.slot_list_extend PySem.F.type_list_extend mt_extend (pv 1) (pa_cons (pe_lst (pa_cons (pe_callB (call_isP (pe := p) (d := d) (c := .ref D) (List.mem_singleton.mpr rfl) hz hf) (by rfl) nis (by decide +kernel) (pa_cons (pv 0) (pa_cons (pe_glob (v := V.ref (C 4)) rfl (hC 4 (by decide)) rfl) pa_nil))) (pa_cons (pe_callB (call_isP (pe := p) (d := d) (c := .ref D) (List.mem_singleton.mpr rfl) hz hf) (by rfl) nis (by decide +kernel) (pa_cons (pv 0) (pa_cons (pe_glob (v := V.ref (C 5)) rfl (hC 5 (by decide)) rfl) pa_nil))) (pa_cons (pe_callB (call_isP (pe := p) (d := d) (c := .ref D) (List.mem_singleton.mpr rfl) hz hf) (by rfl) nis (by decide +kernel) (pa_cons (pv 0) (pa_cons (pe_glob (v := V.ref (C 6)) rfl (hC 6 (by decide)) rfl) pa_nil))) (pa_cons (pe_callB (call_isP (pe := p) (d := d) (c := .ref D) (List.mem_singleton.mpr rfl) hz hf) (by rfl) nis (by decide +kernel) (pa_cons (pv 0) (pa_cons (pe_glob (v := V.ref (C 7)) rfl (hC 7 (by decide)) rfl) pa_nil))) pa_nil))))) pa_nil))) (pss_cons (ps_expr (pe_bm PySem.F.plainAttrs_list PySem.F.slot_list_extend PySem.F.type_list_extend mt_extend (pv 1) (pa_cons (pe_lst (pa_cons (pe_callB (call_isP (pe := p) (d := d) (c := .ref D) (List.mem_singleton.mpr rfl) hz hf) (by rfl) nis (by decide +kernel) (pa_cons (pv 0) (pa_cons (pe_glob (v := V.ref (C 8)) rfl (hC 8 (by decide)) rfl) pa_nil))) (pa_cons (pe_callB (call_isP (pe := p) (d := d) (c := .ref D) (List.mem_singleton.mpr rfl) hz hf) (by rfl) nis (by decide +kernel) (pa_cons (pv 0) (pa_cons (pe_glob (v := V.ref (C 9)) rfl (hC 9 (by decide)) rfl) pa_nil))) (pa_cons (pe_callB (call_isP (pe := p) (d := d) (c := .ref D) (List.mem_singleton.mpr rfl) hz hf) (by rfl) nis (by decide +kernel) (pa_cons (pv 0) (pa_cons (pe_glob (v := V.ref (C 10)) rfl (hC 10 (by decide)) rfl) pa_nil))) (pa_cons (pe_callB (call_isP (pe := p) (d := d) (c := .ref D) (List.mem_singleton.mpr rfl) hz hf) (by rfl) nis (by decide +kernel) (pa_cons (pv 0) (pa_cons (pe_glob (v := V.ref (C 11)) rfl (hC 11 (by decide)) rfl) pa_nil))) pa_nil))))) pa_nil))) (pss_cons (ps_expr (pe_bm PySem.F.plainAttrs_list PySem.F.slot_list_extend PySem.F.type_list_extend mt_extend (pv 1) (pa_cons (pe_lst (pa_cons (pe_callB (call_isP (pe := p) (d := d) (c := .ref D) (List.mem_singleton.mpr rfl) hz hf) (by rfl) nis (by decide +kernel) (pa_cons (pv 0) (pa_cons (pe_glob (v := V.ref (C 12)) rfl (hC 12 (by decide)) rfl) pa_nil))) (pa_cons (pe_callB (call_isP (pe := p) (d := d) (c := .ref D) (List.mem_singleton.mpr rfl) hz hf) (by rfl) nis (by decide +kernel) (pa_cons (pv 0) (pa_cons (pe_glob (v := V.ref (C 13)) rfl (hC 13 (by decide)) rfl) pa_nil))) (pa_cons (pe_callB (call_isP (pe := p) (d := d) (c := .ref D) (List.mem_singleton.mpr rfl) hz hf) (by rfl) nis (by decide +kernel) (pa_cons (pv 0) (pa_cons (pe_glob (v := V.ref (C 14)) rfl (hC 14 (by decide)) rfl) pa_nil))) (pa_cons (pe_callB (call_isP (pe := p) (d := d) (c := .ref D) (List.mem_singleton.mpr rfl) hz hf) (by rfl) nis (by decide +kernel) (pa_cons (pv 0) (pa_cons (pe_glob (v := V.ref (C 15)) rfl (hC 15 (by decide)) rfl) pa_nil))) pa_nil))))) pa_nil)))
      (pss_one (ps_ret (pe_op op_cat (pv 1) (pe_lst (pa_cons (pe_callB (call_isP (pe := p) (d := d) (c := .ref D) (List.mem_singleton.mpr rfl) hz hf) (by rfl) nis (by decide +kernel) (pa_cons (pv 0) (pa_cons (pe_glob (v := V.ref (C 16)) rfl (hC 16 (by decide)) rfl) pa_nil))) (pa_cons (pe_callB (call_isP (pe := p) (d := d) (c := .ref D) (List.mem_singleton.mpr rfl) hz hf) (by rfl) nis (by decide +kernel) (pa_cons (pv 0) (pa_cons (pe_glob (v := V.ref (C 17)) rfl (hC 17 (by decide)) rfl) pa_nil))) pa_nil))))))))), ?_⟩
    refine ⟨_, rfl, D, V.ref (C 0), Value.ref (C 0), f 0, rfl, hE, rfl, fun _ r => r, hk 0 (by decide), hd, _, rfl, D, V.ref (C 1), Value.ref (C 1), f 1, rfl, hE, rfl, fun _ r => r, hk 1 (by decide), hd, _, rfl, D, V.ref (C 2), Value.ref (C 2), f 2, rfl, hE, rfl, fun _ r => r, hk 2 (by decide), hd, _, rfl, D, V.ref (C 3), Value.ref (C 3), f 3, rfl, hE, rfl, fun _ r => r, hk 3 (by decide), hd, by show 4 ≤ sizeLine; decide, fun l hl => ?_⟩
    generalize e1 : upd _ l _ = H1
    have s1 : Same H H1 := by rw [← e1]; exact same_new (Same.refl _) hl
    have g1 : H1 l = some (.lst [.bl (f 0), .bl (f 1), .bl (f 2), .bl (f 3)]) := by rw [← e1]; exact upd_same
    have d1 := hd.same s1
    refine ⟨_, rfl, Or.inl ⟨rfl, _, SqL.of g1⟩, _, rfl, D, V.ref (C 4), Value.ref (C 4), f 4, rfl, hE, rfl, fun _ r => r, hk 4 (by decide), d1, _, rfl, D, V.ref (C 5), Value.ref (C 5), f 5, rfl, hE, rfl, fun _ r => r, hk 5 (by decide), d1, _, rfl, D, V.ref (C 6), Value.ref (C 6), f 6, rfl, hE, rfl, fun _ r => r, hk 6 (by decide), d1, _, rfl, D, V.ref (C 7), Value.ref (C 7), f 7, rfl, hE, rfl, fun _ r => r, hk 7 (by decide), d1, by show 4 ≤ sizeLine; decide, fun l2 hl2 => ?_⟩
    generalize e2 : upd _ l2 _ = H2
    have s2 : Same H1 H2 := by rw [← e2]; exact same_new (Same.refl _) hl2
    have g2 : H2 l2 = some (.lst [.bl (f 4), .bl (f 5), .bl (f 6), .bl (f 7)]) := by rw [← e2]; exact upd_same
    refine ⟨l, l2, _, _, rfl, rfl, s2 _ _ g1, g2, by show 4 + 4 ≤ sizeLine; decide, ?_⟩
    generalize e3 : upd _ l _ = H3
    have s3 : Same H H3 := by rw [← e3]; exact same_upd (s1.trans s2) hl
    have g3 : H3 l = some (.lst [.bl (f 0), .bl (f 1), .bl (f 2), .bl (f 3), .bl (f 4), .bl (f 5), .bl (f 6), .bl (f 7)]) := by rw [← e3]; exact upd_same
    have d3 := hd.same s3
    refine ⟨_, rfl, Or.inl ⟨rfl, _, SqL.of g3⟩, _, rfl, D, V.ref (C 8), Value.ref (C 8), f 8, rfl, hE, rfl, fun _ r => r, hk 8 (by decide), d3, _, rfl, D, V.ref (C 9), Value.ref (C 9), f 9, rfl, hE, rfl, fun _ r => r, hk 9 (by decide), d3, _, rfl, D, V.ref (C 10), Value.ref (C 10), f 10, rfl, hE, rfl, fun _ r => r, hk 10 (by decide), d3, _, rfl, D, V.ref (C 11), Value.ref (C 11), f 11, rfl, hE, rfl, fun _ r => r, hk 11 (by decide), d3, by show 4 ≤ sizeLine; decide, fun l4 hl4 => ?_⟩
    generalize e4 : upd _ l4 _ = H4
    have s4 : Same H3 H4 := by rw [← e4]; exact same_new (Same.refl _) hl4
    have g4 : H4 l4 = some (.lst [.bl (f 8), .bl (f 9), .bl (f 10), .bl (f 11)]) := by rw [← e4]; exact upd_same
    refine ⟨l, l4, _, _, rfl, rfl, s4 _ _ g3, g4, by show 8 + 4 ≤ sizeLine; decide, ?_⟩
    generalize e5 : upd _ l _ = H5
    have s5 : Same H H5 := by rw [← e5]; exact same_upd (s3.trans s4) hl
    have g5 : H5 l = some (.lst [.bl (f 0), .bl (f 1), .bl (f 2), .bl (f 3), .bl (f 4), .bl (f 5), .bl (f 6), .bl (f 7), .bl (f 8), .bl (f 9), .bl (f 10), .bl (f 11)]) := by rw [← e5]; exact upd_same
    have d5 := hd.same s5
    refine ⟨_, rfl, Or.inl ⟨rfl, _, SqL.of g5⟩, _, rfl, D, V.ref (C 12), Value.ref (C 12), f 12, rfl, hE, rfl, fun _ r => r, hk 12 (by decide), d5, _, rfl, D, V.ref (C 13), Value.ref (C 13), f 13, rfl, hE, rfl, fun _ r => r, hk 13 (by decide), d5, _, rfl, D, V.ref (C 14), Value.ref (C 14), f 14, rfl, hE, rfl, fun _ r => r, hk 14 (by decide), d5, _, rfl, D, V.ref (C 15), Value.ref (C 15), f 15, rfl, hE, rfl, fun _ r => r, hk 15 (by decide), d5, by show 4 ≤ sizeLine; decide, fun l6 hl6 => ?_⟩
    generalize e6 : upd _ l6 _ = H6
    have s6 : Same H5 H6 := by rw [← e6]; exact same_new (Same.refl _) hl6
    have g6 : H6 l6 = some (.lst [.bl (f 12), .bl (f 13), .bl (f 14), .bl (f 15)]) := by rw [← e6]; exact upd_same
    refine ⟨l, l6, _, _, rfl, rfl, s6 _ _ g5, g6, by show 12 + 4 ≤ sizeLine; decide, ?_⟩
    generalize e7 : upd _ l _ = H7
    have s7 : Same H H7 := by rw [← e7]; exact same_upd (s5.trans s6) hl
    have g7 : H7 l = some (.lst [.bl (f 0), .bl (f 1), .bl (f 2), .bl (f 3), .bl (f 4), .bl (f 5), .bl (f 6), .bl (f 7), .bl (f 8), .bl (f 9), .bl (f 10), .bl (f 11), .bl (f 12), .bl (f 13), .bl (f 14), .bl (f 15)]) := by rw [← e7]; exact upd_same
    have d7 := hd.same s7
    refine ⟨_, rfl, _, rfl, D, V.ref (C 16), Value.ref (C 16), f 16, rfl, hE, rfl, fun _ r => r, hk 16 (by decide), d7, _, rfl, D, V.ref (C 17), Value.ref (C 17), f 17, rfl, hE, rfl, fun _ r => r, hk 17 (by decide), d7, by show 2 ≤ sizeLine; decide, fun l8 hl8 => ?_⟩
    generalize e8 : upd _ l8 _ = H8
    have s8 : Same H7 H8 := by rw [← e8]; exact same_new (Same.refl _) hl8
    have g8 : H8 l8 = some (.lst [.bl (f 16), .bl (f 17)]) := by rw [← e8]; exact upd_same
    refine ⟨l, l8, _, _, rfl, rfl, s8 _ _ g7, g8, by show 16 + 2 ≤ sizeLine; decide, fun l9 hl9 => ?_⟩
    exact k _ l9 (same_new (s7.trans s8) hl9) ((s7.trans s8).free hl9) upd_same
end
end E

set_option Elab.async false
set_option linter.all false
set_option maxRecDepth 100000
set_option maxHeartbeats 4000000
namespace E
open PySem L2 EX
abbrev sField : Stmt := top 27
def fldN : Nat → Str
  | 0 => "place"
  | 1 => "limit"
  | 2 => "limit"
  | 3 => "at"
  | 4 => "ident"
  | 5 => "ident"
  | 6 => "ident"
  | 7 => "address"
  | 8 => "handle"
  | 9 => "handle"
  | 11 => "address"
  | 12 => "rule"
  | 13 => "rule"
  | _ => ""
def hasF (i : Nat) : Bool := [0, 1, 2, 3, 4, 5, 6, 7, 8, 9, 11, 12, 13].contains i
theorem hasF_cases {i : Nat} (h : hasF i = true) : i = 0 ∨ i = 1 ∨ i = 2 ∨ i = 3 ∨ i = 4 ∨ i = 5 ∨ i = 6 ∨ i = 7 ∨ i = 8 ∨ i = 9 ∨ i = 11 ∨ i = 12 ∨ i = 13 := by
  unfold hasF at h
  simpa using h
def spField (K : PySem.W.Frag) : SpE := fun a c d vs H Q _ => ∃ (i : Nat) (D dd : Addr) (v : V), hasF i = true ∧ c = .ref D ∧ XfC K D ∧ PySem.W.findIn K (.ref D) (fldN i) = some none ∧ d = some dd ∧ H dd = some (.xd [(fldN i, v)]) ∧
  vs = [.int (i : Int), .ref a] ∧ ∀ H', Same H H' → Q v H'
theorem ifT {c : Bool} {A B : Prop} (h : c = true) (k : A) : if c = true then A else B := by
  rw [if_pos h]
  exact k
theorem ifF {c : Bool} {A B : Prop} (h : c = false) (k : B) : if c = true then A else B := by
  rw [h]
  exact iteF k
theorem look1 (f : Str) (v : V) : List.lookup f [(f, v)] = some v := by simp [List.lookup]
section
variable {P : Program} {w : World} {K : PySem.W.Frag} {mg : Str → Option Value} {base : Heap}
theorem scField : FnScope ["_law_kind", "_law_e"] ["_law_kind", "_law_e"] (defScope sField) := ⟨rfl, rfl, rfl, by decide +kernel, rfl, by decide +kernel, by decide +kernel⟩
theorem ok_field {f : Addr} {fd : FuncData} (F : Fun K "_law_field" "_law_field" sField f fd) : FnE P w K mg base CX0 1 f fd ["_law_kind", "_law_e"] (spField K) := by
  refine fn_ofE F scField (fun a c d vs H Q E h => ?_) (fun cdv A out s H vs Q E p c d hz hf hr h => ?_)
  · obtain ⟨i, D, dd, v, _, _, _, _, _, _, rfl, _⟩ := h
    rfl
  · obtain ⟨i, D, dd, v, hi, rfl, hx, hno, rfl, hdd, rfl, k⟩ := h
    refine ⟨_, (pss_cons (ps_if (pt_cmpR op_eq (pv 0) pe_int (nomark _)) (pss_one (ps_ret (pe_xfP (pe := p) (d := some dd) (c := .ref D) (List.mem_singleton.mpr rfl) hz hf (pv 1)))) pss_nil) (pss_cons (ps_if (pt_cmpR op_in_seq (pv 0) (pe_tup (pa_cons pe_int (pa_cons pe_int pa_nil))) (by rfl)) (pss_one (ps_ret (pe_xfP (pe := p) (d := some dd) (c := .ref D) (List.mem_singleton.mpr rfl) hz hf (pv 1)))) pss_nil) (pss_cons (ps_if (pt_cmpR op_eq (pv 0) pe_int (nomark _)) (pss_one (ps_ret (pe_xfP (pe := p) (d := some dd) (c := .ref D) (List.mem_singleton.mpr rfl) hz hf (pv 1)))) pss_nil) (pss_cons (ps_if (pt_cmpR op_in_seq (pv 0) (pe_tup (pa_cons pe_int (pa_cons pe_int (pa_cons pe_int pa_nil)))) (by rfl)) (pss_one (ps_ret (pe_xfP (pe := p) (d := some dd) (c := .ref D) (List.mem_singleton.mpr rfl) hz hf (pv 1)))) pss_nil) (pss_cons (ps_if (pt_cmpR op_in_seq (pv 0) (pe_tup (pa_cons pe_int (pa_cons pe_int pa_nil))) (by rfl)) (pss_one (ps_ret (pe_xfP (pe := p) (d := some dd) (c := .ref D) (List.mem_singleton.mpr rfl) hz hf (pv 1)))) pss_nil) (pss_cons (ps_if (pt_cmpR op_in_seq (pv 0) (pe_tup (pa_cons pe_int (pa_cons pe_int pa_nil))) (by rfl)) (pss_one (ps_ret (pe_xfP (pe := p) (d := some dd) (c := .ref D) (List.mem_singleton.mpr rfl) hz hf (pv 1)))) pss_nil) (pss_one (ps_ret (pe_ifExp (pt_cmpR op_in_seq (pv 0) (pe_tup (pa_cons pe_int (pa_cons pe_int pa_nil))) (by rfl)) (pe_xfP (pe := p) (d := some dd) (c := .ref D) (List.mem_singleton.mpr rfl) hz hf (pv 1)) (pe_lst pa_nil)))))))))), ?_⟩
    rcases hasF_cases hi with rfl | rfl | rfl | rfl | rfl | rfl | rfl | rfl | rfl | rfl | rfl | rfl | rfl
    · refine ⟨_, rfl, rfl, _, rfl, ?_⟩
      refine ifT (by first | rfl | decide) ?_
      exact ⟨_, rfl, rfl, D, dd, _, v, rfl, hx, hno, rfl, (Same.refl H) _ _ hdd, look1 _ _, k _ (Same.refl H)⟩
    · refine ⟨_, rfl, rfl, _, rfl, ?_⟩
      refine ifF (by first | rfl | decide) ?_
      refine ⟨_, rfl, by show 2 ≤ sizeLine; decide, fun p1 h1 => ⟨p1, _, rfl, Or.inr (SqT.of upd_same), rfl, rfl, _, rfl, ?_⟩⟩
      generalize e1 : upd _ p1 _ = H1
      have s1 : Same H H1 := by rw [← e1]; exact same_new (Same.refl H) h1
      refine ifT (by first | rfl | decide) ?_
      exact ⟨_, rfl, rfl, D, dd, _, v, rfl, hx, hno, rfl, s1 _ _ hdd, look1 _ _, k _ s1⟩
    · refine ⟨_, rfl, rfl, _, rfl, ?_⟩
      refine ifF (by first | rfl | decide) ?_
      refine ⟨_, rfl, by show 2 ≤ sizeLine; decide, fun p1 h1 => ⟨p1, _, rfl, Or.inr (SqT.of upd_same), rfl, rfl, _, rfl, ?_⟩⟩
      generalize e1 : upd _ p1 _ = H1
      have s1 : Same H H1 := by rw [← e1]; exact same_new (Same.refl H) h1
      refine ifT (by first | rfl | decide) ?_
      exact ⟨_, rfl, rfl, D, dd, _, v, rfl, hx, hno, rfl, s1 _ _ hdd, look1 _ _, k _ s1⟩
    · refine ⟨_, rfl, rfl, _, rfl, ?_⟩
      refine ifF (by first | rfl | decide) ?_
      refine ⟨_, rfl, by show 2 ≤ sizeLine; decide, fun p1 h1 => ⟨p1, _, rfl, Or.inr (SqT.of upd_same), rfl, rfl, _, rfl, ?_⟩⟩
      generalize e1 : upd _ p1 _ = H1
      have s1 : Same H H1 := by rw [← e1]; exact same_new (Same.refl H) h1
      refine ifF (by first | rfl | decide) ?_
      refine ⟨_, rfl, rfl, _, rfl, ?_⟩
      refine ifT (by first | rfl | decide) ?_
      exact ⟨_, rfl, rfl, D, dd, _, v, rfl, hx, hno, rfl, s1 _ _ hdd, look1 _ _, k _ s1⟩
    · refine ⟨_, rfl, rfl, _, rfl, ?_⟩
      refine ifF (by first | rfl | decide) ?_
      refine ⟨_, rfl, by show 2 ≤ sizeLine; decide, fun p1 h1 => ⟨p1, _, rfl, Or.inr (SqT.of upd_same), rfl, rfl, _, rfl, ?_⟩⟩
      generalize e1 : upd _ p1 _ = H1
      have s1 : Same H H1 := by rw [← e1]; exact same_new (Same.refl H) h1
      refine ifF (by first | rfl | decide) ?_
      refine ⟨_, rfl, rfl, _, rfl, ?_⟩
      refine ifF (by first | rfl | decide) ?_
      refine ⟨_, rfl, by show 3 ≤ sizeLine; decide, fun p2 h2 => ⟨p2, _, rfl, Or.inr (SqT.of upd_same), rfl, rfl, _, rfl, ?_⟩⟩
      generalize e2 : upd _ p2 _ = H2
      have s2 : Same H H2 := by rw [← e2]; exact same_new s1 h2
      refine ifT (by first | rfl | decide) ?_
      exact ⟨_, rfl, rfl, D, dd, _, v, rfl, hx, hno, rfl, s2 _ _ hdd, look1 _ _, k _ s2⟩
    · refine ⟨_, rfl, rfl, _, rfl, ?_⟩
      refine ifF (by first | rfl | decide) ?_
      refine ⟨_, rfl, by show 2 ≤ sizeLine; decide, fun p1 h1 => ⟨p1, _, rfl, Or.inr (SqT.of upd_same), rfl, rfl, _, rfl, ?_⟩⟩
      generalize e1 : upd _ p1 _ = H1
      have s1 : Same H H1 := by rw [← e1]; exact same_new (Same.refl H) h1
      refine ifF (by first | rfl | decide) ?_
      refine ⟨_, rfl, rfl, _, rfl, ?_⟩
      refine ifF (by first | rfl | decide) ?_
      refine ⟨_, rfl, by show 3 ≤ sizeLine; decide, fun p2 h2 => ⟨p2, _, rfl, Or.inr (SqT.of upd_same), rfl, rfl, _, rfl, ?_⟩⟩
      generalize e2 : upd _ p2 _ = H2
      have s2 : Same H H2 := by rw [← e2]; exact same_new s1 h2
      refine ifT (by first | rfl | decide) ?_
      exact ⟨_, rfl, rfl, D, dd, _, v, rfl, hx, hno, rfl, s2 _ _ hdd, look1 _ _, k _ s2⟩
    · refine ⟨_, rfl, rfl, _, rfl, ?_⟩
      refine ifF (by first | rfl | decide) ?_
      refine ⟨_, rfl, by show 2 ≤ sizeLine; decide, fun p1 h1 => ⟨p1, _, rfl, Or.inr (SqT.of upd_same), rfl, rfl, _, rfl, ?_⟩⟩
      generalize e1 : upd _ p1 _ = H1
      have s1 : Same H H1 := by rw [← e1]; exact same_new (Same.refl H) h1
      refine ifF (by first | rfl | decide) ?_
      refine ⟨_, rfl, rfl, _, rfl, ?_⟩
      refine ifF (by first | rfl | decide) ?_
      refine ⟨_, rfl, by show 3 ≤ sizeLine; decide, fun p2 h2 => ⟨p2, _, rfl, Or.inr (SqT.of upd_same), rfl, rfl, _, rfl, ?_⟩⟩
      generalize e2 : upd _ p2 _ = H2
      have s2 : Same H H2 := by rw [← e2]; exact same_new s1 h2
      refine ifT (by first | rfl | decide) ?_
      exact ⟨_, rfl, rfl, D, dd, _, v, rfl, hx, hno, rfl, s2 _ _ hdd, look1 _ _, k _ s2⟩
    · refine ⟨_, rfl, rfl, _, rfl, ?_⟩
      refine ifF (by first | rfl | decide) ?_
      refine ⟨_, rfl, by show 2 ≤ sizeLine; decide, fun p1 h1 => ⟨p1, _, rfl, Or.inr (SqT.of upd_same), rfl, rfl, _, rfl, ?_⟩⟩
      generalize e1 : upd _ p1 _ = H1
      have s1 : Same H H1 := by rw [← e1]; exact same_new (Same.refl H) h1
      refine ifF (by first | rfl | decide) ?_
      refine ⟨_, rfl, rfl, _, rfl, ?_⟩
      refine ifF (by first | rfl | decide) ?_
      refine ⟨_, rfl, by show 3 ≤ sizeLine; decide, fun p2 h2 => ⟨p2, _, rfl, Or.inr (SqT.of upd_same), rfl, rfl, _, rfl, ?_⟩⟩
      generalize e2 : upd _ p2 _ = H2
      have s2 : Same H H2 := by rw [← e2]; exact same_new s1 h2
      refine ifF (by first | rfl | decide) ?_
      refine ⟨_, rfl, by show 2 ≤ sizeLine; decide, fun p3 h3 => ⟨p3, _, rfl, Or.inr (SqT.of upd_same), rfl, rfl, _, rfl, ?_⟩⟩
      generalize e3 : upd _ p3 _ = H3
      have s3 : Same H H3 := by rw [← e3]; exact same_new s2 h3
      refine ifT (by first | rfl | decide) ?_
      exact ⟨_, rfl, rfl, D, dd, _, v, rfl, hx, hno, rfl, s3 _ _ hdd, look1 _ _, k _ s3⟩
    · refine ⟨_, rfl, rfl, _, rfl, ?_⟩
      refine ifF (by first | rfl | decide) ?_
      refine ⟨_, rfl, by show 2 ≤ sizeLine; decide, fun p1 h1 => ⟨p1, _, rfl, Or.inr (SqT.of upd_same), rfl, rfl, _, rfl, ?_⟩⟩
      generalize e1 : upd _ p1 _ = H1
      have s1 : Same H H1 := by rw [← e1]; exact same_new (Same.refl H) h1
      refine ifF (by first | rfl | decide) ?_
      refine ⟨_, rfl, rfl, _, rfl, ?_⟩
      refine ifF (by first | rfl | decide) ?_
      refine ⟨_, rfl, by show 3 ≤ sizeLine; decide, fun p2 h2 => ⟨p2, _, rfl, Or.inr (SqT.of upd_same), rfl, rfl, _, rfl, ?_⟩⟩
      generalize e2 : upd _ p2 _ = H2
      have s2 : Same H H2 := by rw [← e2]; exact same_new s1 h2
      refine ifF (by first | rfl | decide) ?_
      refine ⟨_, rfl, by show 2 ≤ sizeLine; decide, fun p3 h3 => ⟨p3, _, rfl, Or.inr (SqT.of upd_same), rfl, rfl, _, rfl, ?_⟩⟩
      generalize e3 : upd _ p3 _ = H3
      have s3 : Same H H3 := by rw [← e3]; exact same_new s2 h3
      refine ifF (by first | rfl | decide) ?_
      refine ⟨_, rfl, by show 2 ≤ sizeLine; decide, fun p4 h4 => ⟨p4, _, rfl, Or.inr (SqT.of upd_same), rfl, rfl, _, rfl, ?_⟩⟩
      generalize e4 : upd _ p4 _ = H4
      have s4 : Same H H4 := by rw [← e4]; exact same_new s3 h4
      refine ifT (by first | rfl | decide) ?_
      exact ⟨_, rfl, rfl, D, dd, _, v, rfl, hx, hno, rfl, s4 _ _ hdd, look1 _ _, k _ s4⟩
    · refine ⟨_, rfl, rfl, _, rfl, ?_⟩
      refine ifF (by first | rfl | decide) ?_
      refine ⟨_, rfl, by show 2 ≤ sizeLine; decide, fun p1 h1 => ⟨p1, _, rfl, Or.inr (SqT.of upd_same), rfl, rfl, _, rfl, ?_⟩⟩
      generalize e1 : upd _ p1 _ = H1
      have s1 : Same H H1 := by rw [← e1]; exact same_new (Same.refl H) h1
      refine ifF (by first | rfl | decide) ?_
      refine ⟨_, rfl, rfl, _, rfl, ?_⟩
      refine ifF (by first | rfl | decide) ?_
      refine ⟨_, rfl, by show 3 ≤ sizeLine; decide, fun p2 h2 => ⟨p2, _, rfl, Or.inr (SqT.of upd_same), rfl, rfl, _, rfl, ?_⟩⟩
      generalize e2 : upd _ p2 _ = H2
      have s2 : Same H H2 := by rw [← e2]; exact same_new s1 h2
      refine ifF (by first | rfl | decide) ?_
      refine ⟨_, rfl, by show 2 ≤ sizeLine; decide, fun p3 h3 => ⟨p3, _, rfl, Or.inr (SqT.of upd_same), rfl, rfl, _, rfl, ?_⟩⟩
      generalize e3 : upd _ p3 _ = H3
      have s3 : Same H H3 := by rw [← e3]; exact same_new s2 h3
      refine ifF (by first | rfl | decide) ?_
      refine ⟨_, rfl, by show 2 ≤ sizeLine; decide, fun p4 h4 => ⟨p4, _, rfl, Or.inr (SqT.of upd_same), rfl, rfl, _, rfl, ?_⟩⟩
      generalize e4 : upd _ p4 _ = H4
      have s4 : Same H H4 := by rw [← e4]; exact same_new s3 h4
      refine ifT (by first | rfl | decide) ?_
      exact ⟨_, rfl, rfl, D, dd, _, v, rfl, hx, hno, rfl, s4 _ _ hdd, look1 _ _, k _ s4⟩
    · refine ⟨_, rfl, rfl, _, rfl, ?_⟩
      refine ifF (by first | rfl | decide) ?_
      refine ⟨_, rfl, by show 2 ≤ sizeLine; decide, fun p1 h1 => ⟨p1, _, rfl, Or.inr (SqT.of upd_same), rfl, rfl, _, rfl, ?_⟩⟩
      generalize e1 : upd _ p1 _ = H1
      have s1 : Same H H1 := by rw [← e1]; exact same_new (Same.refl H) h1
      refine ifF (by first | rfl | decide) ?_
      refine ⟨_, rfl, rfl, _, rfl, ?_⟩
      refine ifF (by first | rfl | decide) ?_
      refine ⟨_, rfl, by show 3 ≤ sizeLine; decide, fun p2 h2 => ⟨p2, _, rfl, Or.inr (SqT.of upd_same), rfl, rfl, _, rfl, ?_⟩⟩
      generalize e2 : upd _ p2 _ = H2
      have s2 : Same H H2 := by rw [← e2]; exact same_new s1 h2
      refine ifF (by first | rfl | decide) ?_
      refine ⟨_, rfl, by show 2 ≤ sizeLine; decide, fun p3 h3 => ⟨p3, _, rfl, Or.inr (SqT.of upd_same), rfl, rfl, _, rfl, ?_⟩⟩
      generalize e3 : upd _ p3 _ = H3
      have s3 : Same H H3 := by rw [← e3]; exact same_new s2 h3
      refine ifT (by first | rfl | decide) ?_
      exact ⟨_, rfl, rfl, D, dd, _, v, rfl, hx, hno, rfl, s3 _ _ hdd, look1 _ _, k _ s3⟩
    · refine ⟨_, rfl, rfl, _, rfl, ?_⟩
      refine ifF (by first | rfl | decide) ?_
      refine ⟨_, rfl, by show 2 ≤ sizeLine; decide, fun p1 h1 => ⟨p1, _, rfl, Or.inr (SqT.of upd_same), rfl, rfl, _, rfl, ?_⟩⟩
      generalize e1 : upd _ p1 _ = H1
      have s1 : Same H H1 := by rw [← e1]; exact same_new (Same.refl H) h1
      refine ifF (by first | rfl | decide) ?_
      refine ⟨_, rfl, rfl, _, rfl, ?_⟩
      refine ifF (by first | rfl | decide) ?_
      refine ⟨_, rfl, by show 3 ≤ sizeLine; decide, fun p2 h2 => ⟨p2, _, rfl, Or.inr (SqT.of upd_same), rfl, rfl, _, rfl, ?_⟩⟩
      generalize e2 : upd _ p2 _ = H2
      have s2 : Same H H2 := by rw [← e2]; exact same_new s1 h2
      refine ifF (by first | rfl | decide) ?_
      refine ⟨_, rfl, by show 2 ≤ sizeLine; decide, fun p3 h3 => ⟨p3, _, rfl, Or.inr (SqT.of upd_same), rfl, rfl, _, rfl, ?_⟩⟩
      generalize e3 : upd _ p3 _ = H3
      have s3 : Same H H3 := by rw [← e3]; exact same_new s2 h3
      refine ifF (by first | rfl | decide) ?_
      refine ⟨_, rfl, by show 2 ≤ sizeLine; decide, fun p4 h4 => ⟨p4, _, rfl, Or.inr (SqT.of upd_same), rfl, rfl, _, rfl, ?_⟩⟩
      generalize e4 : upd _ p4 _ = H4
      have s4 : Same H H4 := by rw [← e4]; exact same_new s3 h4
      refine ifF (by first | rfl | decide) ?_
      refine ⟨_, rfl, by show 2 ≤ sizeLine; decide, fun p5 h5 => ⟨p5, _, rfl, Or.inr (SqT.of upd_same), rfl, rfl, _, rfl, ?_⟩⟩
      generalize e5 : upd _ p5 _ = H5
      have s5 : Same H H5 := by rw [← e5]; exact same_new s4 h5
      refine ifT (by first | rfl | decide) ?_
      exact ⟨_, rfl, rfl, D, dd, _, v, rfl, hx, hno, rfl, s5 _ _ hdd, look1 _ _, k _ s5⟩
    · refine ⟨_, rfl, rfl, _, rfl, ?_⟩
      refine ifF (by first | rfl | decide) ?_
      refine ⟨_, rfl, by show 2 ≤ sizeLine; decide, fun p1 h1 => ⟨p1, _, rfl, Or.inr (SqT.of upd_same), rfl, rfl, _, rfl, ?_⟩⟩
      generalize e1 : upd _ p1 _ = H1
      have s1 : Same H H1 := by rw [← e1]; exact same_new (Same.refl H) h1
      refine ifF (by first | rfl | decide) ?_
      refine ⟨_, rfl, rfl, _, rfl, ?_⟩
      refine ifF (by first | rfl | decide) ?_
      refine ⟨_, rfl, by show 3 ≤ sizeLine; decide, fun p2 h2 => ⟨p2, _, rfl, Or.inr (SqT.of upd_same), rfl, rfl, _, rfl, ?_⟩⟩
      generalize e2 : upd _ p2 _ = H2
      have s2 : Same H H2 := by rw [← e2]; exact same_new s1 h2
      refine ifF (by first | rfl | decide) ?_
      refine ⟨_, rfl, by show 2 ≤ sizeLine; decide, fun p3 h3 => ⟨p3, _, rfl, Or.inr (SqT.of upd_same), rfl, rfl, _, rfl, ?_⟩⟩
      generalize e3 : upd _ p3 _ = H3
      have s3 : Same H H3 := by rw [← e3]; exact same_new s2 h3
      refine ifF (by first | rfl | decide) ?_
      refine ⟨_, rfl, by show 2 ≤ sizeLine; decide, fun p4 h4 => ⟨p4, _, rfl, Or.inr (SqT.of upd_same), rfl, rfl, _, rfl, ?_⟩⟩
      generalize e4 : upd _ p4 _ = H4
      have s4 : Same H H4 := by rw [← e4]; exact same_new s3 h4
      refine ifF (by first | rfl | decide) ?_
      refine ⟨_, rfl, by show 2 ≤ sizeLine; decide, fun p5 h5 => ⟨p5, _, rfl, Or.inr (SqT.of upd_same), rfl, rfl, _, rfl, ?_⟩⟩
      generalize e5 : upd _ p5 _ = H5
      have s5 : Same H H5 := by rw [← e5]; exact same_new s4 h5
      refine ifT (by first | rfl | decide) ?_
      exact ⟨_, rfl, rfl, D, dd, _, v, rfl, hx, hno, rfl, s5 _ _ hdd, look1 _ _, k _ s5⟩
end
end E

set_option Elab.async false
set_option linter.all false
set_option maxRecDepth 100000
set_option maxHeartbeats 4000000
namespace E
open PySem L2 EX
def spIni (C : Addr) (f : Str) : Sp := fun vs H Q _ => ∃ (a : Addr) (v : V), vs = [.ref a, v] ∧ H a = some (exo a C none) ∧
  ∀ dx, H dx = none → dx ≠ a → Q .non (upd (upd H dx (exd dx [(f, v)])) a (exo a C (some dx)))
theorem mk_heap {H : Hp} {a dx : Addr} {o1 o2 o3 o4 : HO} (ha : H a = none) (ne : dx ≠ a) : upd (del (upd (upd (upd H a o1) dx o2) a o3) a) dx o4 = upd H dx o4 := by
  funext b
  by_cases h : b = dx
  · rw [h, upd_same, upd_same]
  · rw [upd_ne h, upd_ne h]
    by_cases g : b = a
    · rw [g, del_same, ha]
    · rw [del_ne g, upd_ne g, upd_ne h, upd_ne g]
/-- what is known of a class with a field -/
structure FC (P : Program) (w : World) (K : PySem.W.Frag) (mg : Str → Option Value) (base : Heap) (nm : Str) (C : Addr) (f : Str) : Prop where
  ox : OexC K C
  g : mg nm = some (.ref C)
  fn : ∃ (fI : Addr) (fd : FuncData), PySem.W.findIn K (.ref C) "__init__" = some (some (.ref fI)) ∧ PySem.W.typeIn K (.ref fI) = some (.type "function") ∧ FnOk P w K mg base CX0 1 fI fd ["self", f] (spIni C f) ∧ Binds K fd ["self", f] []
/-- of one without -/
structure NC (K : PySem.W.Frag) (mg : Str → Option Value) (nm : Str) (C : Addr) : Prop where
  g : mg nm = some (.ref C)
  kp : PySem.W.keepIn K (.ref C) = true
  sub : PySem.W.subIn K (.ref C) (.type "BaseException") = some true
  ty : PySem.W.typeIn K (.ref C) = some (.type "type")
  ex : PySem.W.excIn K C PySem.HandSPX.veTail "ValueError.__new__" = true
section
variable {P : Program} {w : World} {K : PySem.W.Frag} {mg : Str → Option Value} {base : Heap}
abbrev sI0 : Stmt := inClass (top 2) 0
theorem scI0 : FnScope ["self", "place"] ["self", "place"] (defScope sI0) := ⟨rfl, rfl, rfl, by decide +kernel, rfl, by decide +kernel, by decide +kernel⟩
theorem ok_ini0 {fI C : Addr} {fd : FuncData} (F : Fun K "__init__" "Wrong.__init__" sI0 fI fd) (T : OexC K C) (hno : PySem.W.findIn K (.ref C) "place" = some none) : FnOk P w K mg base CX0 1 fI fd ["self", "place"] (spIni C "place") := by
  refine F.ok scI0 (fun vs H Q E h => ?_) (fun cdv A out s H vs Q E hr h => ?_)
  · obtain ⟨a, v, rfl, _⟩ := h
    rfl
  · obtain ⟨a, v, rfl, ha, k⟩ := h
    refine ⟨_, pss_one (ps_ost (pv 0) (pv 1)), ?_⟩
    exact ⟨_, rfl, _, rfl, a, C, rfl, T, hno, Or.inl ⟨ha, fun dx h1 h2 => k dx h1 h2⟩⟩
abbrev sI1 : Stmt := inClass (top 3) 0
theorem scI1 : FnScope ["self", "limit"] ["self", "limit"] (defScope sI1) := ⟨rfl, rfl, rfl, by decide +kernel, rfl, by decide +kernel, by decide +kernel⟩
theorem ok_ini1 {fI C : Addr} {fd : FuncData} (F : Fun K "__init__" "TooMany.__init__" sI1 fI fd) (T : OexC K C) (hno : PySem.W.findIn K (.ref C) "limit" = some none) : FnOk P w K mg base CX0 1 fI fd ["self", "limit"] (spIni C "limit") := by
  refine F.ok scI1 (fun vs H Q E h => ?_) (fun cdv A out s H vs Q E hr h => ?_)
  · obtain ⟨a, v, rfl, _⟩ := h
    rfl
  · obtain ⟨a, v, rfl, ha, k⟩ := h
    refine ⟨_, pss_one (ps_ost (pv 0) (pv 1)), ?_⟩
    exact ⟨_, rfl, _, rfl, a, C, rfl, T, hno, Or.inl ⟨ha, fun dx h1 h2 => k dx h1 h2⟩⟩
abbrev sI2 : Stmt := inClass (top 4) 0
theorem scI2 : FnScope ["self", "limit"] ["self", "limit"] (defScope sI2) := ⟨rfl, rfl, rfl, by decide +kernel, rfl, by decide +kernel, by decide +kernel⟩
theorem ok_ini2 {fI C : Addr} {fd : FuncData} (F : Fun K "__init__" "Full.__init__" sI2 fI fd) (T : OexC K C) (hno : PySem.W.findIn K (.ref C) "limit" = some none) : FnOk P w K mg base CX0 1 fI fd ["self", "limit"] (spIni C "limit") := by
  refine F.ok scI2 (fun vs H Q E h => ?_) (fun cdv A out s H vs Q E hr h => ?_)
  · obtain ⟨a, v, rfl, _⟩ := h
    rfl
  · obtain ⟨a, v, rfl, ha, k⟩ := h
    refine ⟨_, pss_one (ps_ost (pv 0) (pv 1)), ?_⟩
    exact ⟨_, rfl, _, rfl, a, C, rfl, T, hno, Or.inl ⟨ha, fun dx h1 h2 => k dx h1 h2⟩⟩
abbrev sI3 : Stmt := inClass (top 5) 0
theorem scI3 : FnScope ["self", "at"] ["self", "at"] (defScope sI3) := ⟨rfl, rfl, rfl, by decide +kernel, rfl, by decide +kernel, by decide +kernel⟩
theorem ok_ini3 {fI C : Addr} {fd : FuncData} (F : Fun K "__init__" "BadRule.__init__" sI3 fI fd) (T : OexC K C) (hno : PySem.W.findIn K (.ref C) "at" = some none) : FnOk P w K mg base CX0 1 fI fd ["self", "at"] (spIni C "at") := by
  refine F.ok scI3 (fun vs H Q E h => ?_) (fun cdv A out s H vs Q E hr h => ?_)
  · obtain ⟨a, v, rfl, _⟩ := h
    rfl
  · obtain ⟨a, v, rfl, ha, k⟩ := h
    refine ⟨_, pss_one (ps_ost (pv 0) (pv 1)), ?_⟩
    exact ⟨_, rfl, _, rfl, a, C, rfl, T, hno, Or.inl ⟨ha, fun dx h1 h2 => k dx h1 h2⟩⟩
abbrev sI4 : Stmt := inClass (top 6) 0
theorem scI4 : FnScope ["self", "ident"] ["self", "ident"] (defScope sI4) := ⟨rfl, rfl, rfl, by decide +kernel, rfl, by decide +kernel, by decide +kernel⟩
theorem ok_ini4 {fI C : Addr} {fd : FuncData} (F : Fun K "__init__" "BadRow.__init__" sI4 fI fd) (T : OexC K C) (hno : PySem.W.findIn K (.ref C) "ident" = some none) : FnOk P w K mg base CX0 1 fI fd ["self", "ident"] (spIni C "ident") := by
  refine F.ok scI4 (fun vs H Q E h => ?_) (fun cdv A out s H vs Q E hr h => ?_)
  · obtain ⟨a, v, rfl, _⟩ := h
    rfl
  · obtain ⟨a, v, rfl, ha, k⟩ := h
    refine ⟨_, pss_one (ps_ost (pv 0) (pv 1)), ?_⟩
    exact ⟨_, rfl, _, rfl, a, C, rfl, T, hno, Or.inl ⟨ha, fun dx h1 h2 => k dx h1 h2⟩⟩
abbrev sI5 : Stmt := inClass (top 7) 0
theorem scI5 : FnScope ["self", "ident"] ["self", "ident"] (defScope sI5) := ⟨rfl, rfl, rfl, by decide +kernel, rfl, by decide +kernel, by decide +kernel⟩
theorem ok_ini5 {fI C : Addr} {fd : FuncData} (F : Fun K "__init__" "NoRow.__init__" sI5 fI fd) (T : OexC K C) (hno : PySem.W.findIn K (.ref C) "ident" = some none) : FnOk P w K mg base CX0 1 fI fd ["self", "ident"] (spIni C "ident") := by
  refine F.ok scI5 (fun vs H Q E h => ?_) (fun cdv A out s H vs Q E hr h => ?_)
  · obtain ⟨a, v, rfl, _⟩ := h
    rfl
  · obtain ⟨a, v, rfl, ha, k⟩ := h
    refine ⟨_, pss_one (ps_ost (pv 0) (pv 1)), ?_⟩
    exact ⟨_, rfl, _, rfl, a, C, rfl, T, hno, Or.inl ⟨ha, fun dx h1 h2 => k dx h1 h2⟩⟩
abbrev sI6 : Stmt := inClass (top 8) 0
theorem scI6 : FnScope ["self", "ident"] ["self", "ident"] (defScope sI6) := ⟨rfl, rfl, rfl, by decide +kernel, rfl, by decide +kernel, by decide +kernel⟩
theorem ok_ini6 {fI C : Addr} {fd : FuncData} (F : Fun K "__init__" "Taken.__init__" sI6 fI fd) (T : OexC K C) (hno : PySem.W.findIn K (.ref C) "ident" = some none) : FnOk P w K mg base CX0 1 fI fd ["self", "ident"] (spIni C "ident") := by
  refine F.ok scI6 (fun vs H Q E h => ?_) (fun cdv A out s H vs Q E hr h => ?_)
  · obtain ⟨a, v, rfl, _⟩ := h
    rfl
  · obtain ⟨a, v, rfl, ha, k⟩ := h
    refine ⟨_, pss_one (ps_ost (pv 0) (pv 1)), ?_⟩
    exact ⟨_, rfl, _, rfl, a, C, rfl, T, hno, Or.inl ⟨ha, fun dx h1 h2 => k dx h1 h2⟩⟩
abbrev sI7 : Stmt := inClass (top 9) 0
theorem scI7 : FnScope ["self", "address"] ["self", "address"] (defScope sI7) := ⟨rfl, rfl, rfl, by decide +kernel, rfl, by decide +kernel, by decide +kernel⟩
theorem ok_ini7 {fI C : Addr} {fd : FuncData} (F : Fun K "__init__" "BadStatement.__init__" sI7 fI fd) (T : OexC K C) (hno : PySem.W.findIn K (.ref C) "address" = some none) : FnOk P w K mg base CX0 1 fI fd ["self", "address"] (spIni C "address") := by
  refine F.ok scI7 (fun vs H Q E h => ?_) (fun cdv A out s H vs Q E hr h => ?_)
  · obtain ⟨a, v, rfl, _⟩ := h
    rfl
  · obtain ⟨a, v, rfl, ha, k⟩ := h
    refine ⟨_, pss_one (ps_ost (pv 0) (pv 1)), ?_⟩
    exact ⟨_, rfl, _, rfl, a, C, rfl, T, hno, Or.inl ⟨ha, fun dx h1 h2 => k dx h1 h2⟩⟩
abbrev sI8 : Stmt := inClass (top 10) 0
theorem scI8 : FnScope ["self", "handle"] ["self", "handle"] (defScope sI8) := ⟨rfl, rfl, rfl, by decide +kernel, rfl, by decide +kernel, by decide +kernel⟩
theorem ok_ini8 {fI C : Addr} {fd : FuncData} (F : Fun K "__init__" "Twice.__init__" sI8 fI fd) (T : OexC K C) (hno : PySem.W.findIn K (.ref C) "handle" = some none) : FnOk P w K mg base CX0 1 fI fd ["self", "handle"] (spIni C "handle") := by
  refine F.ok scI8 (fun vs H Q E h => ?_) (fun cdv A out s H vs Q E hr h => ?_)
  · obtain ⟨a, v, rfl, _⟩ := h
    rfl
  · obtain ⟨a, v, rfl, ha, k⟩ := h
    refine ⟨_, pss_one (ps_ost (pv 0) (pv 1)), ?_⟩
    exact ⟨_, rfl, _, rfl, a, C, rfl, T, hno, Or.inl ⟨ha, fun dx h1 h2 => k dx h1 h2⟩⟩
abbrev sI9 : Stmt := inClass (top 11) 0
theorem scI9 : FnScope ["self", "handle"] ["self", "handle"] (defScope sI9) := ⟨rfl, rfl, rfl, by decide +kernel, rfl, by decide +kernel, by decide +kernel⟩
theorem ok_ini9 {fI C : Addr} {fd : FuncData} (F : Fun K "__init__" "Unput.__init__" sI9 fI fd) (T : OexC K C) (hno : PySem.W.findIn K (.ref C) "handle" = some none) : FnOk P w K mg base CX0 1 fI fd ["self", "handle"] (spIni C "handle") := by
  refine F.ok scI9 (fun vs H Q E h => ?_) (fun cdv A out s H vs Q E hr h => ?_)
  · obtain ⟨a, v, rfl, _⟩ := h
    rfl
  · obtain ⟨a, v, rfl, ha, k⟩ := h
    refine ⟨_, pss_one (ps_ost (pv 0) (pv 1)), ?_⟩
    exact ⟨_, rfl, _, rfl, a, C, rfl, T, hno, Or.inl ⟨ha, fun dx h1 h2 => k dx h1 h2⟩⟩
abbrev sI11 : Stmt := inClass (top 13) 0
theorem scI11 : FnScope ["self", "address"] ["self", "address"] (defScope sI11) := ⟨rfl, rfl, rfl, by decide +kernel, rfl, by decide +kernel, by decide +kernel⟩
theorem ok_ini11 {fI C : Addr} {fd : FuncData} (F : Fun K "__init__" "NoPlace.__init__" sI11 fI fd) (T : OexC K C) (hno : PySem.W.findIn K (.ref C) "address" = some none) : FnOk P w K mg base CX0 1 fI fd ["self", "address"] (spIni C "address") := by
  refine F.ok scI11 (fun vs H Q E h => ?_) (fun cdv A out s H vs Q E hr h => ?_)
  · obtain ⟨a, v, rfl, _⟩ := h
    rfl
  · obtain ⟨a, v, rfl, ha, k⟩ := h
    refine ⟨_, pss_one (ps_ost (pv 0) (pv 1)), ?_⟩
    exact ⟨_, rfl, _, rfl, a, C, rfl, T, hno, Or.inl ⟨ha, fun dx h1 h2 => k dx h1 h2⟩⟩
abbrev sI12 : Stmt := inClass (top 14) 0
theorem scI12 : FnScope ["self", "rule"] ["self", "rule"] (defScope sI12) := ⟨rfl, rfl, rfl, by decide +kernel, rfl, by decide +kernel, by decide +kernel⟩
theorem ok_ini12 {fI C : Addr} {fd : FuncData} (F : Fun K "__init__" "Broken.__init__" sI12 fI fd) (T : OexC K C) (hno : PySem.W.findIn K (.ref C) "rule" = some none) : FnOk P w K mg base CX0 1 fI fd ["self", "rule"] (spIni C "rule") := by
  refine F.ok scI12 (fun vs H Q E h => ?_) (fun cdv A out s H vs Q E hr h => ?_)
  · obtain ⟨a, v, rfl, _⟩ := h
    rfl
  · obtain ⟨a, v, rfl, ha, k⟩ := h
    refine ⟨_, pss_one (ps_ost (pv 0) (pv 1)), ?_⟩
    exact ⟨_, rfl, _, rfl, a, C, rfl, T, hno, Or.inl ⟨ha, fun dx h1 h2 => k dx h1 h2⟩⟩
abbrev sI13 : Stmt := inClass (top 15) 0
theorem scI13 : FnScope ["self", "rule"] ["self", "rule"] (defScope sI13) := ⟨rfl, rfl, rfl, by decide +kernel, rfl, by decide +kernel, by decide +kernel⟩
theorem ok_ini13 {fI C : Addr} {fd : FuncData} (F : Fun K "__init__" "Illegal.__init__" sI13 fI fd) (T : OexC K C) (hno : PySem.W.findIn K (.ref C) "rule" = some none) : FnOk P w K mg base CX0 1 fI fd ["self", "rule"] (spIni C "rule") := by
  refine F.ok scI13 (fun vs H Q E h => ?_) (fun cdv A out s H vs Q E hr h => ?_)
  · obtain ⟨a, v, rfl, _⟩ := h
    rfl
  · obtain ⟨a, v, rfl, ha, k⟩ := h
    refine ⟨_, pss_one (ps_ost (pv 0) (pv 1)), ?_⟩
    exact ⟨_, rfl, _, rfl, a, C, rfl, T, hno, Or.inl ⟨ha, fun dx h1 h2 => k dx h1 h2⟩⟩
abbrev sRaised : Stmt := top 24
abbrev sRaisedToo : Stmt := top 25
def spRaised (C : Nat → Addr) : Sp := fun vs H _ E => ∃ (i : Nat) (v : V), i < 9 ∧ vs = [.int (i : Int), v] ∧ ∀ d, H d = none → E (.ref (C i)) (some d) (upd H d (.xd [(fldN i, v)]))
def spRaisedToo (C : Nat → Addr) : Sp := fun vs H _ E => ∃ (i : Nat) (v : V), 9 ≤ i ∧ i < 18 ∧ vs = [.int (i : Int), v] ∧ (hasF i = true → ∀ d, H d = none → E (.ref (C i)) (some d) (upd H d (.xd [(fldN i, v)]))) ∧ (hasF i = false → E (.ref (C i)) none H)
theorem scRaised : FnScope ["_law_kind", "_law_thing"] ["_law_kind", "_law_thing"] (defScope sRaised) := ⟨rfl, rfl, rfl, by decide +kernel, rfl, by decide +kernel, by decide +kernel⟩
theorem scRaisedToo : FnScope ["_law_kind", "_law_thing"] ["_law_kind", "_law_thing"] (defScope sRaisedToo) := ⟨rfl, rfl, rfl, by decide +kernel, rfl, by decide +kernel, by decide +kernel⟩
/-- the end of a raise: the made exception's heap -/
theorem raise_end {C : Addr} {f : Str} {v : V} {H : Hp} {E : XK} (h : ∀ d, H d = none → E (.ref C) (some d) (upd H d (.xd [(f, v)]))) :
    [v].length ≤ 1000 ∧ ∀ a, H a = none → spIni C f (.ref a :: ([v] ++ [])) (upd H a (exo a C none))
      (fun v' H2 => v' = .non ∧ ∃ (d : Addr) (fs : List (Str × V)), H2 a = some (exo a C (some d)) ∧ H2 d = some (exd d fs) ∧ H d = none ∧ E (.ref C) (some d) (upd (del H2 a) d (.xd fs))) (fun _ _ _ => False) := by
  refine ⟨by show 1 ≤ 1000; decide, fun a ha => ⟨a, v, rfl, upd_same, fun dx hd ne => ⟨rfl, dx, [(f, v)], upd_same, ?_, ?_, ?_⟩⟩⟩
  · rw [upd_ne ne, upd_same]
  · rw [upd_ne ne] at hd
    exact hd
  · rw [mk_heap ha ne]
    rw [upd_ne ne] at hd
    exact h dx hd
theorem ok_raised {f : Addr} {fd : FuncData} {C : Nat → Addr} (F : Fun K "_law_raised" "_law_raised" sRaised f fd) (hF : ∀ i, (h : i < 18) → hasF i = true → FC P w K mg base (nmC[i]'h) (C i) (fldN i)) : FnOk P w K mg base (L2N.CX P w) 3 f fd ["_law_kind", "_law_thing"] (spRaised C) := by
  refine okXN F scRaised (fun vs H Q E h => ?_) (fun cdv A out s H vs Q E hr h => ?_)
  · obtain ⟨i, v, _, rfl, _⟩ := h
    rfl
  · obtain ⟨i, v, hi, rfl, k⟩ := h
    obtain ⟨fI0, fd0, i0, t0, F0, b0⟩ := (hF 0 (by decide) rfl).fn
    obtain ⟨fI1, fd1, i1, t1, F1, b1⟩ := (hF 1 (by decide) rfl).fn
    obtain ⟨fI2, fd2, i2, t2, F2, b2⟩ := (hF 2 (by decide) rfl).fn
    obtain ⟨fI3, fd3, i3, t3, F3, b3⟩ := (hF 3 (by decide) rfl).fn
    obtain ⟨fI4, fd4, i4, t4, F4, b4⟩ := (hF 4 (by decide) rfl).fn
    obtain ⟨fI5, fd5, i5, t5, F5, b5⟩ := (hF 5 (by decide) rfl).fn
    obtain ⟨fI6, fd6, i6, t6, F6, b6⟩ := (hF 6 (by decide) rfl).fn
    obtain ⟨fI7, fd7, i7, t7, F7, b7⟩ := (hF 7 (by decide) rfl).fn
    obtain ⟨fI8, fd8, i8, t8, F8, b8⟩ := (hF 8 (by decide) rfl).fn
    refine ⟨_, (pss_cons (ps_if (pt_cmpR op_eq (pv 0) pe_int (nomark _)) (pss_one (L2N.ps_raise rfl (L2N.takes_of rfl rfl rfl rfl) (pmkN_oex (hF 0 (by decide) rfl).ox i0 t0 F0 hr b0 pass0 rfl (hF 0 (by decide) rfl).g (pa_cons (pv 1) pa_nil)))) pss_nil) (pss_cons (ps_if (pt_cmpR op_eq (pv 0) pe_int (nomark _)) (pss_one (L2N.ps_raise rfl (L2N.takes_of rfl rfl rfl rfl) (pmkN_oex (hF 1 (by decide) rfl).ox i1 t1 F1 hr b1 pass0 rfl (hF 1 (by decide) rfl).g (pa_cons (pv 1) pa_nil)))) pss_nil) (pss_cons (ps_if (pt_cmpR op_eq (pv 0) pe_int (nomark _)) (pss_one (L2N.ps_raise rfl (L2N.takes_of rfl rfl rfl rfl) (pmkN_oex (hF 2 (by decide) rfl).ox i2 t2 F2 hr b2 pass0 rfl (hF 2 (by decide) rfl).g (pa_cons (pv 1) pa_nil)))) pss_nil) (pss_cons (ps_if (pt_cmpR op_eq (pv 0) pe_int (nomark _)) (pss_one (L2N.ps_raise rfl (L2N.takes_of rfl rfl rfl rfl) (pmkN_oex (hF 3 (by decide) rfl).ox i3 t3 F3 hr b3 pass0 rfl (hF 3 (by decide) rfl).g (pa_cons (pv 1) pa_nil)))) pss_nil) (pss_cons (ps_if (pt_cmpR op_eq (pv 0) pe_int (nomark _)) (pss_one (L2N.ps_raise rfl (L2N.takes_of rfl rfl rfl rfl) (pmkN_oex (hF 4 (by decide) rfl).ox i4 t4 F4 hr b4 pass0 rfl (hF 4 (by decide) rfl).g (pa_cons (pv 1) pa_nil)))) pss_nil) (pss_cons (ps_if (pt_cmpR op_eq (pv 0) pe_int (nomark _)) (pss_one (L2N.ps_raise rfl (L2N.takes_of rfl rfl rfl rfl) (pmkN_oex (hF 5 (by decide) rfl).ox i5 t5 F5 hr b5 pass0 rfl (hF 5 (by decide) rfl).g (pa_cons (pv 1) pa_nil)))) pss_nil) (pss_cons (ps_if (pt_cmpR op_eq (pv 0) pe_int (nomark _)) (pss_one (L2N.ps_raise rfl (L2N.takes_of rfl rfl rfl rfl) (pmkN_oex (hF 6 (by decide) rfl).ox i6 t6 F6 hr b6 pass0 rfl (hF 6 (by decide) rfl).g (pa_cons (pv 1) pa_nil)))) pss_nil) (pss_cons (ps_if (pt_cmpR op_eq (pv 0) pe_int (nomark _)) (pss_one (L2N.ps_raise rfl (L2N.takes_of rfl rfl rfl rfl) (pmkN_oex (hF 7 (by decide) rfl).ox i7 t7 F7 hr b7 pass0 rfl (hF 7 (by decide) rfl).g (pa_cons (pv 1) pa_nil)))) pss_nil) (pss_one (L2N.ps_raise rfl (L2N.takes_of rfl rfl rfl rfl) (pmkN_oex (hF 8 (by decide) rfl).ox i8 t8 F8 hr b8 pass0 rfl (hF 8 (by decide) rfl).g (pa_cons (pv 1) pa_nil)))))))))))), ?_⟩
    have cs : i = 0 ∨ i = 1 ∨ i = 2 ∨ i = 3 ∨ i = 4 ∨ i = 5 ∨ i = 6 ∨ i = 7 ∨ i = 8 := by omega
    rcases cs with rfl | rfl | rfl | rfl | rfl | rfl | rfl | rfl | rfl
    · refine ⟨_, rfl, rfl, _, rfl, ?_⟩
      refine ifT rfl ?_
      exact ⟨_, rfl, raise_end k⟩
    · refine ⟨_, rfl, rfl, _, rfl, ?_⟩
      refine ifF rfl ?_
      refine ⟨_, rfl, rfl, _, rfl, ?_⟩
      refine ifT rfl ?_
      exact ⟨_, rfl, raise_end k⟩
    · refine ⟨_, rfl, rfl, _, rfl, ?_⟩
      refine ifF rfl ?_
      refine ⟨_, rfl, rfl, _, rfl, ?_⟩
      refine ifF rfl ?_
      refine ⟨_, rfl, rfl, _, rfl, ?_⟩
      refine ifT rfl ?_
      exact ⟨_, rfl, raise_end k⟩
    · refine ⟨_, rfl, rfl, _, rfl, ?_⟩
      refine ifF rfl ?_
      refine ⟨_, rfl, rfl, _, rfl, ?_⟩
      refine ifF rfl ?_
      refine ⟨_, rfl, rfl, _, rfl, ?_⟩
      refine ifF rfl ?_
      refine ⟨_, rfl, rfl, _, rfl, ?_⟩
      refine ifT rfl ?_
      exact ⟨_, rfl, raise_end k⟩
    · refine ⟨_, rfl, rfl, _, rfl, ?_⟩
      refine ifF rfl ?_
      refine ⟨_, rfl, rfl, _, rfl, ?_⟩
      refine ifF rfl ?_
      refine ⟨_, rfl, rfl, _, rfl, ?_⟩
      refine ifF rfl ?_
      refine ⟨_, rfl, rfl, _, rfl, ?_⟩
      refine ifF rfl ?_
      refine ⟨_, rfl, rfl, _, rfl, ?_⟩
      refine ifT rfl ?_
      exact ⟨_, rfl, raise_end k⟩
    · refine ⟨_, rfl, rfl, _, rfl, ?_⟩
      refine ifF rfl ?_
      refine ⟨_, rfl, rfl, _, rfl, ?_⟩
      refine ifF rfl ?_
      refine ⟨_, rfl, rfl, _, rfl, ?_⟩
      refine ifF rfl ?_
      refine ⟨_, rfl, rfl, _, rfl, ?_⟩
      refine ifF rfl ?_
      refine ⟨_, rfl, rfl, _, rfl, ?_⟩
      refine ifF rfl ?_
      refine ⟨_, rfl, rfl, _, rfl, ?_⟩
      refine ifT rfl ?_
      exact ⟨_, rfl, raise_end k⟩
    · refine ⟨_, rfl, rfl, _, rfl, ?_⟩
      refine ifF rfl ?_
      refine ⟨_, rfl, rfl, _, rfl, ?_⟩
      refine ifF rfl ?_
      refine ⟨_, rfl, rfl, _, rfl, ?_⟩
      refine ifF rfl ?_
      refine ⟨_, rfl, rfl, _, rfl, ?_⟩
      refine ifF rfl ?_
      refine ⟨_, rfl, rfl, _, rfl, ?_⟩
      refine ifF rfl ?_
      refine ⟨_, rfl, rfl, _, rfl, ?_⟩
      refine ifF rfl ?_
      refine ⟨_, rfl, rfl, _, rfl, ?_⟩
      refine ifT rfl ?_
      exact ⟨_, rfl, raise_end k⟩
    · refine ⟨_, rfl, rfl, _, rfl, ?_⟩
      refine ifF rfl ?_
      refine ⟨_, rfl, rfl, _, rfl, ?_⟩
      refine ifF rfl ?_
      refine ⟨_, rfl, rfl, _, rfl, ?_⟩
      refine ifF rfl ?_
      refine ⟨_, rfl, rfl, _, rfl, ?_⟩
      refine ifF rfl ?_
      refine ⟨_, rfl, rfl, _, rfl, ?_⟩
      refine ifF rfl ?_
      refine ⟨_, rfl, rfl, _, rfl, ?_⟩
      refine ifF rfl ?_
      refine ⟨_, rfl, rfl, _, rfl, ?_⟩
      refine ifF rfl ?_
      refine ⟨_, rfl, rfl, _, rfl, ?_⟩
      refine ifT rfl ?_
      exact ⟨_, rfl, raise_end k⟩
    · refine ⟨_, rfl, rfl, _, rfl, ?_⟩
      refine ifF rfl ?_
      refine ⟨_, rfl, rfl, _, rfl, ?_⟩
      refine ifF rfl ?_
      refine ⟨_, rfl, rfl, _, rfl, ?_⟩
      refine ifF rfl ?_
      refine ⟨_, rfl, rfl, _, rfl, ?_⟩
      refine ifF rfl ?_
      refine ⟨_, rfl, rfl, _, rfl, ?_⟩
      refine ifF rfl ?_
      refine ⟨_, rfl, rfl, _, rfl, ?_⟩
      refine ifF rfl ?_
      refine ⟨_, rfl, rfl, _, rfl, ?_⟩
      refine ifF rfl ?_
      refine ⟨_, rfl, rfl, _, rfl, ?_⟩
      refine ifF rfl ?_
      exact ⟨_, rfl, raise_end k⟩
theorem ok_raised_too {f : Addr} {fd : FuncData} {C : Nat → Addr} (F : Fun K "_law_raised_too" "_law_raised_too" sRaisedToo f fd) (hF : ∀ i, (h : i < 18) → hasF i = true → FC P w K mg base (nmC[i]'h) (C i) (fldN i))
    (hN : ∀ i, (h : i < 18) → hasF i = false → NC K mg (nmC[i]'h) (C i)) : FnOk P w K mg base (L2N.CX P w) 3 f fd ["_law_kind", "_law_thing"] (spRaisedToo C) := by
  refine okXN F scRaisedToo (fun vs H Q E h => ?_) (fun cdv A out s H vs Q E hr h => ?_)
  · obtain ⟨i, v, _, _, rfl, _⟩ := h
    rfl
  · obtain ⟨i, v, hi, hi2, rfl, k, k0⟩ := h
    obtain ⟨fI9, fd9, i9, t9, F9, b9⟩ := (hF 9 (by decide) rfl).fn
    have N10 := hN 10 (by decide) rfl
    obtain ⟨fI11, fd11, i11, t11, F11, b11⟩ := (hF 11 (by decide) rfl).fn
    obtain ⟨fI12, fd12, i12, t12, F12, b12⟩ := (hF 12 (by decide) rfl).fn
    obtain ⟨fI13, fd13, i13, t13, F13, b13⟩ := (hF 13 (by decide) rfl).fn
    have N14 := hN 14 (by decide) rfl
    have N15 := hN 15 (by decide) rfl
    have N16 := hN 16 (by decide) rfl
    have N17 := hN 17 (by decide) rfl
    refine ⟨_, (pss_cons (ps_if (pt_cmpR op_eq (pv 0) pe_int (nomark _)) (pss_one (L2N.ps_raise rfl (L2N.takes_of rfl rfl rfl rfl) (pmkN_oex (hF 9 (by decide) rfl).ox i9 t9 F9 hr b9 pass0 rfl (hF 9 (by decide) rfl).g (pa_cons (pv 1) pa_nil)))) pss_nil) (pss_cons (ps_if (pt_cmpR op_eq (pv 0) pe_int (nomark _)) (pss_one (L2N.ps_raise rfl (L2N.takes_of rfl rfl rfl rfl) (pmkN_zero PySem.F.excBase_ValueError N10.ex N10.g N10.kp (raises_own N10.sub N10.ty) rfl))) pss_nil) (pss_cons (ps_if (pt_cmpR op_eq (pv 0) pe_int (nomark _)) (pss_one (L2N.ps_raise rfl (L2N.takes_of rfl rfl rfl rfl) (pmkN_oex (hF 11 (by decide) rfl).ox i11 t11 F11 hr b11 pass0 rfl (hF 11 (by decide) rfl).g (pa_cons (pv 1) pa_nil)))) pss_nil) (pss_cons (ps_if (pt_cmpR op_eq (pv 0) pe_int (nomark _)) (pss_one (L2N.ps_raise rfl (L2N.takes_of rfl rfl rfl rfl) (pmkN_oex (hF 12 (by decide) rfl).ox i12 t12 F12 hr b12 pass0 rfl (hF 12 (by decide) rfl).g (pa_cons (pv 1) pa_nil)))) pss_nil) (pss_cons (ps_if (pt_cmpR op_eq (pv 0) pe_int (nomark _)) (pss_one (L2N.ps_raise rfl (L2N.takes_of rfl rfl rfl rfl) (pmkN_oex (hF 13 (by decide) rfl).ox i13 t13 F13 hr b13 pass0 rfl (hF 13 (by decide) rfl).g (pa_cons (pv 1) pa_nil)))) pss_nil) (pss_cons (ps_if (pt_cmpR op_eq (pv 0) pe_int (nomark _)) (pss_one (L2N.ps_raise rfl (L2N.takes_of rfl rfl rfl rfl) (pmkN_zero PySem.F.excBase_ValueError N14.ex N14.g N14.kp (raises_own N14.sub N14.ty) rfl))) pss_nil) (pss_cons (ps_if (pt_cmpR op_eq (pv 0) pe_int (nomark _)) (pss_one (L2N.ps_raise rfl (L2N.takes_of rfl rfl rfl rfl) (pmkN_zero PySem.F.excBase_ValueError N15.ex N15.g N15.kp (raises_own N15.sub N15.ty) rfl))) pss_nil) (pss_cons (ps_if (pt_cmpR op_eq (pv 0) pe_int (nomark _)) (pss_one (L2N.ps_raise rfl (L2N.takes_of rfl rfl rfl rfl) (pmkN_zero PySem.F.excBase_ValueError N16.ex N16.g N16.kp (raises_own N16.sub N16.ty) rfl))) pss_nil) (pss_one (L2N.ps_raise rfl (L2N.takes_of rfl rfl rfl rfl) (pmkN_zero PySem.F.excBase_ValueError N17.ex N17.g N17.kp (raises_own N17.sub N17.ty) rfl))))))))))), ?_⟩
    have cs : i = 9 ∨ i = 10 ∨ i = 11 ∨ i = 12 ∨ i = 13 ∨ i = 14 ∨ i = 15 ∨ i = 16 ∨ i = 17 := by omega
    rcases cs with rfl | rfl | rfl | rfl | rfl | rfl | rfl | rfl | rfl
    · refine ⟨_, rfl, rfl, _, rfl, ?_⟩
      refine ifT rfl ?_
      exact ⟨_, rfl, raise_end (k rfl)⟩
    · refine ⟨_, rfl, rfl, _, rfl, ?_⟩
      refine ifF rfl ?_
      refine ⟨_, rfl, rfl, _, rfl, ?_⟩
      refine ifT rfl ?_
      exact k0 rfl
    · refine ⟨_, rfl, rfl, _, rfl, ?_⟩
      refine ifF rfl ?_
      refine ⟨_, rfl, rfl, _, rfl, ?_⟩
      refine ifF rfl ?_
      refine ⟨_, rfl, rfl, _, rfl, ?_⟩
      refine ifT rfl ?_
      exact ⟨_, rfl, raise_end (k rfl)⟩
    · refine ⟨_, rfl, rfl, _, rfl, ?_⟩
      refine ifF rfl ?_
      refine ⟨_, rfl, rfl, _, rfl, ?_⟩
      refine ifF rfl ?_
      refine ⟨_, rfl, rfl, _, rfl, ?_⟩
      refine ifF rfl ?_
      refine ⟨_, rfl, rfl, _, rfl, ?_⟩
      refine ifT rfl ?_
      exact ⟨_, rfl, raise_end (k rfl)⟩
    · refine ⟨_, rfl, rfl, _, rfl, ?_⟩
      refine ifF rfl ?_
      refine ⟨_, rfl, rfl, _, rfl, ?_⟩
      refine ifF rfl ?_
      refine ⟨_, rfl, rfl, _, rfl, ?_⟩
      refine ifF rfl ?_
      refine ⟨_, rfl, rfl, _, rfl, ?_⟩
      refine ifF rfl ?_
      refine ⟨_, rfl, rfl, _, rfl, ?_⟩
      refine ifT rfl ?_
      exact ⟨_, rfl, raise_end (k rfl)⟩
    · refine ⟨_, rfl, rfl, _, rfl, ?_⟩
      refine ifF rfl ?_
      refine ⟨_, rfl, rfl, _, rfl, ?_⟩
      refine ifF rfl ?_
      refine ⟨_, rfl, rfl, _, rfl, ?_⟩
      refine ifF rfl ?_
      refine ⟨_, rfl, rfl, _, rfl, ?_⟩
      refine ifF rfl ?_
      refine ⟨_, rfl, rfl, _, rfl, ?_⟩
      refine ifF rfl ?_
      refine ⟨_, rfl, rfl, _, rfl, ?_⟩
      refine ifT rfl ?_
      exact k0 rfl
    · refine ⟨_, rfl, rfl, _, rfl, ?_⟩
      refine ifF rfl ?_
      refine ⟨_, rfl, rfl, _, rfl, ?_⟩
      refine ifF rfl ?_
      refine ⟨_, rfl, rfl, _, rfl, ?_⟩
      refine ifF rfl ?_
      refine ⟨_, rfl, rfl, _, rfl, ?_⟩
      refine ifF rfl ?_
      refine ⟨_, rfl, rfl, _, rfl, ?_⟩
      refine ifF rfl ?_
      refine ⟨_, rfl, rfl, _, rfl, ?_⟩
      refine ifF rfl ?_
      refine ⟨_, rfl, rfl, _, rfl, ?_⟩
      refine ifT rfl ?_
      exact k0 rfl
    · refine ⟨_, rfl, rfl, _, rfl, ?_⟩
      refine ifF rfl ?_
      refine ⟨_, rfl, rfl, _, rfl, ?_⟩
      refine ifF rfl ?_
      refine ⟨_, rfl, rfl, _, rfl, ?_⟩
      refine ifF rfl ?_
      refine ⟨_, rfl, rfl, _, rfl, ?_⟩
      refine ifF rfl ?_
      refine ⟨_, rfl, rfl, _, rfl, ?_⟩
      refine ifF rfl ?_
      refine ⟨_, rfl, rfl, _, rfl, ?_⟩
      refine ifF rfl ?_
      refine ⟨_, rfl, rfl, _, rfl, ?_⟩
      refine ifF rfl ?_
      refine ⟨_, rfl, rfl, _, rfl, ?_⟩
      refine ifT rfl ?_
      exact k0 rfl
    · refine ⟨_, rfl, rfl, _, rfl, ?_⟩
      refine ifF rfl ?_
      refine ⟨_, rfl, rfl, _, rfl, ?_⟩
      refine ifF rfl ?_
      refine ⟨_, rfl, rfl, _, rfl, ?_⟩
      refine ifF rfl ?_
      refine ⟨_, rfl, rfl, _, rfl, ?_⟩
      refine ifF rfl ?_
      refine ⟨_, rfl, rfl, _, rfl, ?_⟩
      refine ifF rfl ?_
      refine ⟨_, rfl, rfl, _, rfl, ?_⟩
      refine ifF rfl ?_
      refine ⟨_, rfl, rfl, _, rfl, ?_⟩
      refine ifF rfl ?_
      refine ⟨_, rfl, rfl, _, rfl, ?_⟩
      refine ifF rfl ?_
      exact k0 rfl
end
end E

set_option Elab.async false
set_option linter.all false
set_option maxRecDepth 100000
set_option maxHeartbeats 4000000
namespace E
open PySem L2 EX
abbrev sRight : Stmt := top 28
theorem takesN0 {X : Cx} : L2N.Takes X (fun _ _ _ _ => False) := fun _ _ x => by
  obtain ⟨_, _, _, _, _, _, _, _, _, _, _, _, _, _, _, _, z⟩ := x
  exact z.elim
theorem hot_suite {X : Cx} {a : Addr} {oe : Obj} {cls : Value} {d : Option Addr} {pn : List (Addr × Obj)} (hz : L2N.Zn cls d oe) (hf : ∃ fv, oe.data = .fields fv) : L2H.HotC (X.suite a ((a, oe) :: pn)) := by
  obtain ⟨fv, hv⟩ := hf
  exact ⟨(a, oe), ⟨rfl, fv, hv, hz.2.2 fv hv⟩, List.mem_cons_self⟩
/-- of all classes: what isinstance says, and that an except clause of the base takes them -/
structure AllC (K : PySem.W.Frag) (C : Nat → Addr) (CE : Addr) : Prop where
  ec : ∀ i, i < 18 → ExcC K (C i)
  kit : ∀ i j, i < 18 → j < 18 → PySem.W.kitOne K (.ref (C i)) (.ref (C j)) = some (decide (j = i))
  ve : ∀ i, i < 18 → PySem.W.kitOne K (.ref (C i)) (.type "ValueError") = some true
  exm : ∀ i, i < 18 → PySem.W.exmOne K (.ref (C i)) (.ref CE) = some true
  xf : ∀ i, i < 18 → hasF i = true → XfC K (C i)
  no : ∀ i, i < 18 → hasF i = true → PySem.W.findIn K (.ref (C i)) (fldN i) = some none
def spRight : Sp := fun vs H Q _ => ∃ (i : Nat) (v : V), i < 18 ∧ vs = [.int (i : Int), v] ∧ okV v = true ∧ ∀ H', Same H H' → Q (.bl true) H'
def tbR (C : Nat → Addr) (W : WX) : TS := tSeq (tIfS (tTest (tOp (rI0 fun i j => V.bl (decide (i < j))) (tVar 0) (tC (.int 9)))) (tDrop (tCallS (spRaised C) (WE W) (tCons (tVar 0) (tCons (tVar 2) tNil)))) tNext)
  (tDrop (tCallS (spRaisedToo C) (WE W) (tCons (tVar 0) (tCons (tVar 2) tNil))))
def tsR (K : PySem.W.Frag) (C : Nat → Addr) (a : Addr) (cls : Value) (d : Option Addr) : TS := tSeq (tAsg (tCall (spFlags K C a cls d) [] E0 (tCons (tVar 3) tNil)) (gName 4))
  (tSeq (tIfS (tOr (tTest (tOp (rNeD K) (tVar 4) (tLc (iRng1 (tCons (tC (.int 18)) tNil)) (gName 5) tYes (tOp rEq (tVar 5) (tVar 0)) [5]))) (tNot (tB (tCB (rIsP K cls d a) (tCons (tVar 3) (tCons (tC (.ty "ValueError")) tNil))))))
    (tRet (tC (.bl false))) tNext)
  (tSeq (tDrop (tBM K "list" rAppend (tVar 2) (tCons (tVar 0) tNil)))
  (tRet (tOrV (tOp (rIn K false) (tVar 0) (tTup (tCons (tC (.int 10)) (tCons (tC (.int 14)) (tCons (tC (.int 15)) (tCons (tC (.int 16)) (tCons (tC (.int 17)) tNil)))))))
    (tOp (rEqV K) (tCall (spField K a cls d) [] E0 (tCons (tVar 0) (tCons (tVar 3) tNil))) (tLst (tCons (tVar 1) (tCons (tVar 0) tNil))))))))
theorem bools_dp {K : PySem.W.Frag} {H : Hp} : ∀ (bs : List Bool), DpAll K H (bs.map V.bl) (bs.map PyData.bool)
  | [] => .nil
  | b :: bs => .cons (.bl b) (bools_dp bs)
theorem okV_eq {K : PySem.W.Frag} {H : Hp} {v : V} (h : okV v = true) : EqV K H 1 v v := by
  cases v with
  | non => exact Or.inl ⟨rfl, rfl⟩
  | bl b => exact Or.inl ⟨rfl, rfl⟩
  | int i => exact Or.inl ⟨rfl, rfl⟩
  | str x => exact Or.inl ⟨rfl, rfl⟩
  | ref a => exact Or.inr (Or.inl ⟨a, rfl, rfl⟩)
  | byt b => cases h
  | flt b => cases h
  | ty n => cases h
theorem int_dec (k i : Nat) : decide (V.int (0 + (k : Int)) = V.int (i : Int)) = decide (k = i) := by
  rw [Int.zero_add]
  by_cases h : k = i
  · rw [h]
    simp
  · rw [decide_eq_false h]
    refine decide_eq_false fun e => h ?_
    injection e with e
    omega
theorem not_has {i : Nat} (hi : i < 18) (h : hasF i = false) : inV (.int (i : Int)) [.int 10, .int 14, .int 15, .int 16, .int 17] = true := by
  have cs : i = 10 ∨ i = 14 ∨ i = 15 ∨ i = 16 ∨ i = 17 := by
    unfold hasF at h
    simp at h
    omega
  rcases cs with rfl | rfl | rfl | rfl | rfl <;> rfl
theorem has_not {i : Nat} (h : hasF i = true) : inV (.int (i : Int)) [.int 10, .int 14, .int 15, .int 16, .int 17] = false := by
  rcases hasF_cases h with rfl | rfl | rfl | rfl | rfl | rfl | rfl | rfl | rfl | rfl | rfl | rfl | rfl <;> rfl
theorem read_suite {K : PySem.W.Frag} {C : Nat → Addr} {CE a l : Addr} {d : Option Addr} {H0 H : Hp} {Q : VK} {v : V} {i : Nat} {D : Ends} (A : AllC K C CE) (hi : i < 18) (hv : okV v = true) (hl0 : H0 l = none) (s0 : Same H0 H) (hl : H l = some (.lst [v]))
    (hd : DictOk H d) (hF : hasF i = true → ∃ dd, d = some dd ∧ H dd = some (.xd [(fldN i, .ref l)])) (hD : D.rt = Q) (k : ∀ H', Same H0 H' → Q (.bl true) H') :
    tsR K C a (.ref (C i)) d D [some (.int (i : Int)), some v, some (.ref l), some (.ref a), none, none] H := by
  refine ⟨_, rfl, C i, fun j => decide (j = i), rfl, A.ec i hi, rfl, hd, fun j hj => A.kit i j hi hj, fun H1 p s1 hp g1 => ?_⟩
  refine ⟨_, rfl, 18, rfl, by decide, by decide, fun D' hD' => lc_range (lo := 0) (n := 18) (fun n H' => Same H1 H' ∧ H1 D' = none ∧ H' D' = some (.lst ((List.range n).map fun j => .bl (decide (j = i))))) ?_ ?_ ?_⟩
  · exact ⟨same_new (Same.refl _) hD', hD', upd_same⟩
  · rintro n H' hn ⟨t1, t2, t3⟩
    refine ⟨rfl, _, rfl, _, rfl, rfl, _, t3, ?_, same_upd t1 t2, t2, ?_⟩
    · rw [List.length_map, List.length_range, sizeLine_eq]
      omega
    · rw [upd_same, List.range_succ, List.map_append, int_dec]
      rfl
  · rintro H2 ⟨t1, t2, t3⟩
    have e1 : ((List.range 18).map fun j => V.bl (decide (j = i))) = ((List.range 18).map fun j => decide (j = i)).map V.bl := by rw [List.map_map]; rfl
    rw [e1] at g1 t3
    refine ⟨_, _, .lst (SqL.of (t1 _ _ g1)) (bools_dp _), .lst (SqL.of t3) (bools_dp _), rfl, rfl, _, rfl, ?_⟩
    refine ifF ?_ ?_
    · rw [SeqAt.eqv_refl _ (by rfl)]
      rfl
    have s2 : Same H H2 := s1.trans t1
    refine ⟨_, rfl, C i, .ty "ValueError", .type "ValueError", true, rfl, A.ec i hi, rfl, fun _ r => r, A.ve i hi, hd.same s2, true, rfl, ?_⟩
    refine ifF rfl ?_
    -- held.append(kind)
    have l2 := s2 _ _ hl
    refine ⟨_, rfl, Or.inl ⟨rfl, _, SqL.of l2⟩, _, rfl, l, _, _, rfl, rfl, l2, by show 1 < sizeLine; decide, ?_⟩
    generalize e3 : upd _ l _ = H3
    have s3 : Same H0 H3 := by rw [← e3]; exact same_upd (s0.trans s2) hl0
    have l3 : H3 l = some (.lst [v, .int (i : Int)]) := by rw [← e3]; exact upd_same
    -- return ..
    refine ⟨_, rfl, by show 5 ≤ sizeLine; decide, fun q hq => ⟨q, _, rfl, Or.inr (SqT.of upd_same), rfl, rfl, _, rfl, ?_⟩⟩
    generalize e4 : upd _ q _ = H4
    have s4 : Same H3 H4 := by rw [← e4]; exact same_new (Same.refl _) hq
    cases hb : hasF i with
    | false =>
      refine ifT (not_has hi hb) ?_
      rw [hD]
      exact k _ (s3.trans s4)
    | true =>
      refine ifF (has_not hb) ?_
      obtain ⟨dd, rfl, hdd⟩ := hF hb
      have ndl : dd ≠ l := ne_of hdd hl (fun z => by cases z)
      have d3 : H3 dd = some (.xd [(fldN i, .ref l)]) := by
        rw [← e3, upd_ne ndl]
        exact s2 _ _ hdd
      refine ⟨_, rfl, _, rfl, i, C i, dd, .ref l, hb, rfl, A.xf i hi hb, A.no i hi hb, rfl, s4 _ _ d3, rfl, fun H5 s5 => ?_⟩
      refine ⟨_, rfl, _, rfl, by show 2 ≤ sizeLine; decide, fun r hr => ?_⟩
      generalize e6 : upd _ r _ = H6
      have s6 : Same H5 H6 := by rw [← e6]; exact same_new (Same.refl _) hr
      have r6 : H6 r = some (.lst [v, .int (i : Int)]) := by rw [← e6]; exact upd_same
      refine ⟨1, by decide, Or.inl ⟨l, r, _, _, rfl, rfl, SqL.of (s6 _ _ (s5 _ _ (s4 _ _ l3))), SqL.of r6, .cons (okV_eq hv) (.cons (Or.inl ⟨rfl, rfl⟩) .nil)⟩, ?_⟩
      rw [hD]
      exact k _ (s3.trans (s4.trans (s5.trans s6)))
section
variable {P : Program} {w : World} {K : PySem.W.Frag} {mg : Str → Option Value} {base : Heap}
theorem scRight : FnScope ["_law_kind", "_law_thing", "_law_held", "_law_e", "_law_flags_here", "_law_at"] ["_law_kind", "_law_thing"] (defScope sRight) := ⟨rfl, rfl, rfl, by decide +kernel, rfl, by decide +kernel, by decide +kernel⟩
theorem ok_right {f fR fT fL fF CE : Addr} {fd fdR fdT fdL fdF : FuncData} {C : Nat → Addr} (F : Fun K "_law_right" "_law_right" sRight f fd) (A : AllC K C CE) (gCE : mg "CheckError" = some (.ref CE))
    (nis : mg "isinstance" = none) (nra : mg "range" = none) (nve : mg "ValueError" = none)
    (GR : FnOk P w K mg base (L2N.CX P w) 3 fR fdR ["_law_kind", "_law_thing"] (spRaised C)) (bR : Binds K fdR ["_law_kind", "_law_thing"] []) (mR : mg "_law_raised" = some (.ref fR)) (kR : PySem.W.keepIn K (.ref fR) = true)
    (GT : FnOk P w K mg base (L2N.CX P w) 3 fT fdT ["_law_kind", "_law_thing"] (spRaisedToo C)) (bT : Binds K fdT ["_law_kind", "_law_thing"] []) (mT : mg "_law_raised_too" = some (.ref fT)) (kT : PySem.W.keepIn K (.ref fT) = true)
    (GL : FnE P w K mg base CX0 1 fL fdL ["_law_e"] (spFlags K C)) (bL : Binds K fdL ["_law_e"] []) (mL : mg "_law_flags" = some (.ref fL)) (kL : PySem.W.keepIn K (.ref fL) = true)
    (GF : FnE P w K mg base CX0 1 fF fdF ["_law_kind", "_law_e"] (spField K)) (bF : Binds K fdF ["_law_kind", "_law_e"] []) (mF : mg "_law_field" = some (.ref fF)) (kF : PySem.W.keepIn K (.ref fF) = true) :
    FnOk P w K mg base CX0 4 f fd ["_law_kind", "_law_thing"] spRight := by
  refine F.ok scRight (fun vs H Q E h => ?_) (fun cdv A0 out s H vs Q E hr h => ?_)
  · obtain ⟨i, v, _, rfl, _⟩ := h
    rfl
  · obtain ⟨i, v, hi, rfl, hv, k⟩ := h
    have hr1 : Room 1 _ := hr.mono (by decide)
    refine ⟨_, pss_cons (ps_set (i := 2) scRight.nd rfl (Or.inl rfl) (pe_lst (pa_cons (pv 1) pa_nil)))
      (pss_cons (L2N.ps_try_as (i := 3) (tb := tbR C) (ts := tsR K C) (Wout := fun _ _ _ _ => False) rfl rfl scRight.nd rfl rfl ⟨rfl, by decide, Or.inl gCE⟩ takesN0
        (fun W pn xe tk _ => pss_cons (ps_if (pt_cmpR op_lt (pv 0) pe_int (nomark _)) (pss_one (ps_expr (pe_callS GR hr rfl mR kR bR (fun σ => L2N.passAt tk σ) (by exact (pa_cons (pv 0) (pa_cons (pv 2) pa_nil)))))) pss_nil)
          (pss_one (ps_expr (pe_callS GT hr rfl mT kT bT (fun σ => L2N.passAt tk σ) (by exact (pa_cons (pv 0) (pa_cons (pv 2) pa_nil)))))))
        (fun a oe cls d pn hz hf => ?suite))
      (pss_one (ps_ret pe_bl))), ?read⟩
    case suite =>
      refine pss_cons (ps_set (i := 4) scRight.nd rfl (Or.inl rfl) (pe_callE (pe := (a, oe)) GL List.mem_cons_self hz hf (L2H.roomH_mark hr1 _) rfl mL kL bL pass0 (pa_cons (pv 3) pa_nil))) ?_
      refine pss_cons (ps_if (PW.pt (pw_or (pt_cmpR (op_neD hr.units) (pv 4)
          (pe_lcH (own := [("_law_at", 5)]) (g := gName 5) (tt := tYes) (hot_suite hz hf) scRight.nd (L2H.pi_range1H rfl nra (pa_cons pe_int pa_nil))
            (blkOk_by (N := ["_law_kind", "_law_thing", "_law_held", "_law_e", "_law_flags_here", "_law_at"]) (sc := defScope sRight) (by decide +kernel))
            (fun _ _ _ _ _ => pg_name (i := 5) scRight.nd rfl (Or.inl rfl)) (fun _ _ _ _ _ => pts_nil) (fun _ _ _ _ _ => pe_cmpR op_eq (pv 5) (pv 0) (nomark _))) (nomark _))
          (pw_or1 (pt_not (pt_val (pe_callB (call_isP (pe := (a, oe)) List.mem_cons_self hz hf) (by rfl) nis (by decide +kernel) (pa_cons (pv 3) (pa_cons (pe_bltn (v := V.ty "ValueError") (u := Value.type "ValueError") rfl nve (by decide +kernel) rfl) pa_nil))))))))
        (pss_one (ps_ret pe_bl)) pss_nil) ?_
      refine pss_cons (ps_expr (pe_bm PySem.F.plainAttrs_list PySem.F.slot_list_append PySem.F.type_list_append mt_append (pv 2) (pa_cons (pv 0) pa_nil))) ?_
      exact pss_one (ps_ret (pe_or (pe_cmpR op_in_seq (pv 0) (pe_tup (pa_cons pe_int (pa_cons pe_int (pa_cons pe_int (pa_cons pe_int (pa_cons pe_int pa_nil)))))) (by rfl))
        (pe_one (pe_cmpR (op_eqV hr.units) (pe_callE (pe := (a, oe)) GF List.mem_cons_self hz hf (L2H.roomH_mark hr1 _) rfl mF kF bF pass0 (pa_cons (pv 0) (pa_cons (pv 3) pa_nil))) (pe_lst (pa_cons (pv 1) (pa_cons (pv 0) pa_nil))) (nomark _)))))
    case read =>
      refine ⟨_, rfl, by show 1 ≤ sizeLine; decide, fun l hl => ?_⟩
      generalize e1 : upd _ l _ = H1
      have s1 : Same H H1 := by rw [← e1]; exact same_new (Same.refl _) hl
      have l1 : H1 l = some (.lst [v]) := by rw [← e1]; exact upd_same
      -- what the clause wants
      have fld : hasF i = true → ∀ d, H1 d = none → wAs K (.ref CE) 3 (tsR K C) (fun _ _ _ _ => False) { nx := tRet (tC (.bl false)) { nx := fun _ H' => Q .non H', rt := Q }, rt := Q } (.ref (C i)) (some d)
          [some (.int (i : Int)), some v, some (.ref l), none, none, none] (upd H1 d (.xd [(fldN i, .ref l)])) := by
        intro hb d hd
        have ndl : l ≠ d := ne_of_none l1 hd
        refine ⟨true, A.exm i hi, fun _ a ha => ?_, fun z => by cases z⟩
        refine read_suite A hi hv hl (same_new s1 hd) ?_ (fun dd e => ?_) (fun _ => ⟨d, rfl, upd_same⟩) rfl k
        · rw [upd_ne ndl]
          exact l1
        · cases e
          exact ⟨_, upd_same⟩
      have non : hasF i = false → wAs K (.ref CE) 3 (tsR K C) (fun _ _ _ _ => False) { nx := tRet (tC (.bl false)) { nx := fun _ H' => Q .non H', rt := Q }, rt := Q } (.ref (C i)) none
          [some (.int (i : Int)), some v, some (.ref l), none, none, none] H1 := by
        intro hb
        refine ⟨true, A.exm i hi, fun _ a ha => ?_, fun z => by cases z⟩
        refine read_suite A hi hv hl s1 l1 (fun dd e => ?_) (fun z => ?_) rfl k
        · cases e
        · rw [hb] at z
          cases z
      refine ⟨_, rfl, _, _, rfl, rfl, _, rfl, ?_⟩
      refine ite2 (fun c => ?_) (fun c => ?_)
      · have hi9 : i < 9 := by
          have := of_decide_eq_true c
          omega
        have hb : hasF i = true := by
          have cs : i = 0 ∨ i = 1 ∨ i = 2 ∨ i = 3 ∨ i = 4 ∨ i = 5 ∨ i = 6 ∨ i = 7 ∨ i = 8 := by omega
          rcases cs with rfl | rfl | rfl | rfl | rfl | rfl | rfl | rfl | rfl <;> rfl
        exact ⟨_, rfl, _, rfl, i, .ref l, hi9, rfl, fun d hd => fld hb d hd⟩
      · have hi9 : 9 ≤ i := by
          have : ¬ ((i : Int) < 9) := fun z => c (decide_eq_true z)
          omega
        exact ⟨_, rfl, _, rfl, i, .ref l, hi9, hi, rfl, fun hb d hd => fld hb d hd, fun hb => non hb⟩
end
end E

set_option Elab.async false
set_option linter.all false
set_option maxRecDepth 100000
set_option maxHeartbeats 4000000
namespace E
open PySem L2 EX
section
variable {X : Cx}
/-- xs == [], whatever xs holds -/
def rEqNil (K : PySem.W.Frag) : R2 := fun x y H Q => ∃ a b xs, x = .ref a ∧ y = .ref b ∧ SqL K H a xs ∧ SqL K H b [] ∧ Q (.bl xs.isEmpty) H
theorem op_eqNil (hu : X.A.units < cLine) : OpR X (compareOp .Eq) (rEqNil X.K) := by
  intro pins s σ H x y v u Q I rx ry h
  obtain ⟨a, b, xs, rfl, rfl, ha, hb, q⟩ := h
  cases rx
  cases ry
  obtain ⟨us, r1, p1, _⟩ := I.list ha
  obtain ⟨ws, r2, p2, _⟩ := I.list hb
  cases r2
  cases xs with
  | nil =>
    cases r1
    exact SeqAt.rcP_lists (e := fun _ => true) p1.isList p2.isList rfl hu (fun j h1 _ => absurd h1 (Nat.not_lt_zero j)) _ _ ⟨.bl true, H, I, rfl, q⟩
  | cons z zs =>
    cases r1 with
    | cons rz rs =>
      exact SeqAt.RcAt.lists_lengths p1.isList p2.isList (by simp) hu X.prog X.w _ _ ⟨.bl false, H, I, rfl, q⟩
end

theorem dict_none {H : Hp} : DictOk H none := fun dd e => by cases e
abbrev sBase : Stmt := top 29
abbrev sLaw : Stmt := top 30
/-- what is known of the base class -/
structure BaseC (K : PySem.W.Frag) (C : Nat → Addr) (CE : Addr) : Prop where
  ec : ExcC K CE
  kit : ∀ j, j < 18 → PySem.W.kitOne K (.ref CE) (.ref (C j)) = some false
  ve : PySem.W.kitOne K (.ref CE) (.type "ValueError") = some true
  exm : PySem.W.exmOne K (.ref CE) (.ref CE) = some true
def spBase : Sp := fun vs H Q _ => ∃ (l : Addr) (xs : List V), vs = [.ref l] ∧ H l = some (.lst xs) ∧ xs.length ≤ 2 ∧ ∀ H', Same H H' → Q (.bl true) H'
def tbB (K : PySem.W.Frag) (CE : Addr) (W : WX) : TS :=
  tSeq (tIfS (tTest (tOp (rEqNil K) (tVar 0) (tLst tNil))) (fun _ σ H => W (.ref CE) none σ H) tNext)
  (tSeq (tIfS (tTest (tOp rEq (tCB (fun xs H Q => ∃ p ys, xs = [V.ref p] ∧ (SqL K H p ys ∨ SqT K H p ys) ∧ Q (V.int ys.length) H) (tCons (tVar 0) tNil)) (tC (.int 1))))
    (fun _ σ H => tCons (tOp (rIxL K) (tVar 0) (tC (.int 0))) tNil σ H fun vs H1 => vs.length ≤ sizeLine ∧ W (.ref CE) none σ H1) tNext)
  (fun _ σ H => tCons (tOp (rIxL K) (tVar 0) (tC (.int 0))) (tCons (tOp (rIxL K) (tVar 0) (tC (.int 1))) (tCons (tVar 0) tNil)) σ H fun vs H1 => vs.length ≤ sizeLine ∧ W (.ref CE) none σ H1))
def tsB (K : PySem.W.Frag) (C : Nat → Addr) (a : Addr) (cls : Value) (d : Option Addr) : TS :=
  tRet (tAndV (tOp (rIn K true) (tC (.bl true)) (tCall (spFlags K C a cls d) [] E0 (tCons (tVar 1) tNil))) (tCB (rIsP K cls d a) (tCons (tVar 1) (tCons (tC (.ty "ValueError")) tNil))))
section
variable {P : Program} {w : World} {K : PySem.W.Frag} {mg : Str → Option Value} {base : Heap}
theorem scBase : FnScope ["_law_things", "_law_e"] ["_law_things"] (defScope sBase) := ⟨rfl, rfl, rfl, by decide +kernel, rfl, by decide +kernel, by decide +kernel⟩
theorem ok_base {f fL CE : Addr} {fd fdL : FuncData} {C : Nat → Addr} (F : Fun K "_law_base_right" "_law_base_right" sBase f fd) (B : BaseC K C CE) (N : NC K mg "CheckError" CE)
    (nis : mg "isinstance" = none) (nlen : mg "len" = none) (nve : mg "ValueError" = none)
    (GL : FnE P w K mg base CX0 1 fL fdL ["_law_e"] (spFlags K C)) (bL : Binds K fdL ["_law_e"] []) (mL : mg "_law_flags" = some (.ref fL)) (kL : PySem.W.keepIn K (.ref fL) = true) :
    FnOk P w K mg base CX0 3 f fd ["_law_things"] spBase := by
  refine F.ok scBase (fun vs H Q E h => ?_) (fun cdv A0 out s H vs Q E hr h => ?_)
  · obtain ⟨l, xs, rfl, _⟩ := h
    rfl
  · obtain ⟨l, xs, rfl, hl, h2, k⟩ := h
    have hr1 : Room 1 _ := hr.mono (by decide)
    refine ⟨_, pss_one (L2N.ps_try_as (i := 1) (tb := tbB K CE) (ts := tsB K C) (Wout := fun _ _ _ _ => False) rfl rfl scBase.nd rfl rfl ⟨rfl, by decide, Or.inl N.g⟩ takesN0
        (fun W pn xe tk _ => pss_cons (ps_if (pt_cmpR (op_eqNil hr.units0) (pv 0) (pe_lst pa_nil) (nomark _)) (pss_one (L2N.ps_raise rfl tk (pmkN_zero PySem.F.excBase_ValueError N.ex N.g N.kp (raises_own N.sub N.ty) rfl))) pss_nil)
          (pss_cons (ps_if (pt_cmpR op_eq (pe_callB call_len_seq (by rfl) nlen PySem.boot_len (pa_cons (pv 0) pa_nil)) pe_int (nomark _))
            (pss_one (L2N.ps_raise rfl tk (pmkN_any PySem.F.excBase_ValueError N.ex N.g N.kp (raises_own N.sub N.ty) rfl (by exact (pa_cons (pe_ix ix_list (pv 0) pe_int (fun _ _ => rfl)) pa_nil))))) pss_nil)
          (pss_one (L2N.ps_raise rfl tk (pmkN_any PySem.F.excBase_ValueError N.ex N.g N.kp (raises_own N.sub N.ty) rfl (by exact (pa_cons (pe_ix ix_list (pv 0) pe_int (fun _ _ => rfl)) (pa_cons (pe_ix ix_list (pv 0) pe_int (fun _ _ => rfl)) (pa_cons (pv 0) pa_nil)))))))))
        (fun a oe cls d pn hz hf => pss_one (ps_ret (pe_and (pe_cmpR op_notIn_seq pe_bl (pe_callE (pe := (a, oe)) GL List.mem_cons_self hz hf (L2H.roomH_mark hr1 _) rfl mL kL bL pass0 (pa_cons (pv 1) pa_nil)) (by rfl))
          (pe_one (pe_callB (call_isP (pe := (a, oe)) List.mem_cons_self hz hf) (by rfl) nis (by decide +kernel) (pa_cons (pv 1) (pa_cons (pe_bltn (v := V.ty "ValueError") (u := Value.type "ValueError") rfl nve (by decide +kernel) rfl) pa_nil)))))))), ?_⟩
    have cl : ∀ H1, Same H H1 → wAs K (.ref CE) 1 (tsB K C) (fun _ _ _ _ => False) { nx := fun _ H' => Q .non H', rt := Q } (.ref CE) none [some (.ref l), none] H1 := by
      intro H1 s1
      refine ⟨true, B.exm, fun _ a ha => ?_, fun z => by cases z⟩
      refine ⟨_, rfl, CE, fun _ => false, rfl, B.ec, rfl, dict_none, B.kit, fun H2 p s2 hp g2 => ?_⟩
      refine ⟨p, _, rfl, Or.inl (SqL.of g2), rfl, rfl, _, rfl, ?_⟩
      refine ifT rfl ?_
      exact ⟨_, rfl, CE, .ty "ValueError", .type "ValueError", true, rfl, B.ec, rfl, fun _ r => r, B.ve, dict_none, k _ (s1.trans s2)⟩
    refine ⟨_, rfl, Nat.zero_le _, fun p hp => ?_⟩
    generalize e1 : upd _ p _ = H1
    have s1 : Same H H1 := by rw [← e1]; exact same_new (Same.refl _) hp
    have p1 : H1 p = some (.lst []) := by rw [← e1]; exact upd_same
    refine ⟨l, p, xs, rfl, rfl, SqL.of (s1 _ _ hl), SqL.of p1, _, rfl, ?_⟩
    match xs, h2, hl with
    | [], _, _ => exact ifT rfl (cl _ s1)
    | [x], _, hl =>
      refine ifF rfl ?_
      refine ⟨_, rfl, l, _, rfl, Or.inl (SqL.of (s1 _ _ hl)), rfl, _, rfl, ?_⟩
      refine ifT rfl ?_
      exact ⟨_, rfl, l, _, 0, _, rfl, rfl, SqL.of (s1 _ _ hl), rfl, by show 1 ≤ sizeLine; decide, cl _ s1⟩
    | [x, y], _, hl =>
      refine ifF rfl ?_
      refine ⟨_, rfl, l, _, rfl, Or.inl (SqL.of (s1 _ _ hl)), rfl, _, rfl, ?_⟩
      refine ifF rfl ?_
      exact ⟨_, rfl, l, _, 0, _, rfl, rfl, SqL.of (s1 _ _ hl), rfl, _, rfl, l, _, 1, _, rfl, rfl, SqL.of (s1 _ _ hl), rfl, _, rfl, by show 3 ≤ sizeLine; decide, cl _ s1⟩
    | _ :: _ :: _ :: _, h, _ => exact absurd h (by simp)

/-! ### the law -/
def spLaw (K : PySem.W.Frag) : Sp := fun vs H Q _ => ∃ (a : Addr) (ns : List Int), vs = [.ref a] ∧ SqL K H a (ns.map V.int) ∧ ns.length ≤ 63 ∧ ∀ H', Q (.bl true) H'
theorem scLaw : FnScope ["_law_script", "_law_bag_here", "_law_large", "_law_turn", "_law_kind", "_law_things"] ["_law_script"] (defScope sLaw) := ⟨rfl, rfl, rfl, by decide +kernel, rfl, by decide +kernel, by decide +kernel⟩
theorem ok_law {f fG fO fR fB : Addr} {fd fdG fdO fdR fdB : FuncData} (F : Fun K "law" "law" sLaw f fd) (nra : mg "range" = none)
    (GG : FnOk P w K mg base CX0 1 fG fdG ["_law_script"] (spBag K)) (bG : Binds K fdG ["_law_script"] []) (mG : mg "_law_bag" = some (.ref fG)) (kG : PySem.W.keepIn K (.ref fG) = true)
    (GO : FnOk P w K mg base CX0 2 fO fdO ["_law_bag_here"] spOdd) (bO : Binds K fdO ["_law_bag_here"] []) (mO : mg "_law_odd" = some (.ref fO)) (kO : PySem.W.keepIn K (.ref fO) = true)
    (GR : FnOk P w K mg base CX0 4 fR fdR ["_law_kind", "_law_thing"] spRight) (bR : Binds K fdR ["_law_kind", "_law_thing"] []) (mR : mg "_law_right" = some (.ref fR)) (kR : PySem.W.keepIn K (.ref fR) = true)
    (GB : FnOk P w K mg base CX0 3 fB fdB ["_law_things"] spBase) (bB : Binds K fdB ["_law_things"] []) (mB : mg "_law_base_right" = some (.ref fB)) (kB : PySem.W.keepIn K (.ref fB) = true) :
    FnOk P w K mg base CX0 5 f fd ["_law_script"] (spLaw K) := by
  refine F.ok scLaw (fun vs H Q E h => ?_) (fun cdv A0 out s H vs Q E hr h => ?_)
  · obtain ⟨a, ns, rfl, _⟩ := h
    rfl
  · obtain ⟨a, ns, rfl, hS, hlen, k⟩ := h
    refine ⟨_, (pss_cons (ps_set (i := 1) scLaw.nd rfl (Or.inl rfl) (pe_call GG (hr.mono (by decide)) rfl mG kG bG .nil pass0 (pa_cons (pv 0) pa_nil)))
      (pss_cons (ps_set (i := 2) scLaw.nd rfl (Or.inl rfl) pe_int)
      (pss_cons (ps_for PassesOwn.never rfl (pi_range1 rfl nra (pa_cons pe_int pa_nil)) (pg_name (i := 3) scLaw.nd rfl (Or.inl rfl))
        (pss_one (ps_set (i := 2) scLaw.nd rfl (Or.inl rfl) (pe_op op_mulW (pv 2) (pv 2)))))
      (pss_cons (ps_for PassesOwn.never rfl (pi_range1 rfl nra (pa_cons pe_int pa_nil)) (pg_name (i := 4) scLaw.nd rfl (Or.inl rfl))
        (pss_one (ps_if (PW.pt (pw_or (pt_not (pt_val (pe_call GR hr rfl mR kR bR .nil pass0 (pa_cons (pv 4) (pa_cons (pe_call GO (hr.mono (by decide)) rfl mO kO bO .nil pass0 (pa_cons (pv 1) pa_nil)) pa_nil))))) (pw_or1 (pt_not (pt_val (pe_call GR hr rfl mR kR bR .nil pass0 (pa_cons (pv 4) (pa_cons (pe_lst (pa_cons (pv 2) (pa_cons pe_str pa_nil))) pa_nil)))))))) (pss_one (ps_ret pe_bl)) pss_nil)))
      (pss_cons (ps_set (i := 5) scLaw.nd rfl (Or.inl rfl) (pe_lst (pa_cons (pe_call GO (hr.mono (by decide)) rfl mO kO bO .nil pass0 (pa_cons (pv 1) pa_nil)) (pa_cons (pe_call GO (hr.mono (by decide)) rfl mO kO bO .nil pass0 (pa_cons (pv 1) pa_nil)) pa_nil))))
      (pss_one (ps_ret (pe_and (pe_call GB (hr.mono (by decide)) rfl mB kB bB .nil pass0 (pa_cons (pv 5) pa_nil)) (pe_and (pe_call GB (hr.mono (by decide)) rfl mB kB bB .nil pass0 (pa_cons (pe_slice sl_list (pv 5) po_none (po_some pe_int)) pa_nil)) (pe_one (pe_call GB (hr.mono (by decide)) rfl mB kB bB .nil pass0 (pa_cons (pe_lst pa_nil) pa_nil)))))))))))), ?_⟩
    refine ⟨_, rfl, a, ns, rfl, hS, hlen, fun H1 b s1 hb hB => ?_⟩
    refine ⟨7, rfl, by decide, by decide, for_range (lo := 0) (n := 7) (fun i σ' H' => ∃ (n : Int) (v : Option V), σ' = [some (.ref a), some (.ref b), some (.int n), v, none, none] ∧ n.natAbs < 2 ^ (3 * 2 ^ i) ∧ Bag H' b) ⟨7, none, rfl, by decide, hB⟩ ?_ ?_⟩
    · rintro i σ' H' hi ⟨n, v, rfl, hn, hB'⟩
      refine ⟨_, rfl, _, rfl, n, n, rfl, rfl, ?_, ⟨n * n, _, rfl, ?_, hB'⟩⟩
      · have h1 : 2 ^ i ≤ 2 ^ 6 := Nat.pow_le_pow_right (by decide) (by omega)
        have h2 : 0 < 2 ^ i := Nat.pow_pos (by decide)
        have h3 : 2 ^ 6 = 64 := by decide
        exact wide_mul hn hn (by omega) (by omega) (by omega)
      · rw [Int.natAbs_mul]
        have e : 2 ^ (3 * 2 ^ (i + 1)) = 2 ^ (3 * 2 ^ i) * 2 ^ (3 * 2 ^ i) := by
          rw [← Nat.pow_add]
          congr 1
          rw [Nat.pow_succ]
          omega
        rw [e]
        exact Nat.mul_lt_mul'' hn hn
    rintro σ' H2 ⟨n, v, rfl, hn, hB2⟩
    refine ⟨18, rfl, by decide, by decide, for_range (lo := 0) (n := 18) (fun i σ' H' => ∃ (v w : Option V), σ' = [some (.ref a), some (.ref b), some (.int n), v, w, none] ∧ Bag H' b) ⟨v, none, rfl, hB2⟩ ?_ ?_⟩
    · rintro i σ' H' hi ⟨v, w, rfl, hB'⟩
      have ei : (0 : Int) + (i : Int) = (i : Int) := Int.zero_add _
      refine ⟨_, rfl, _, rfl, b, rfl, hB', fun z H3 hz hb3 hB3 => ?_⟩
      refine ⟨i, z, hi, by rw [ei]; rfl, hz, fun H4 s4 => ⟨true, rfl, ?_⟩⟩
      refine ifF rfl ?_
      refine ⟨_, rfl, _, rfl, by show 2 ≤ sizeLine; decide, fun p hp => ?_⟩
      refine ⟨i, .ref p, hi, by rw [ei]; rfl, rfl, fun H5 s5 => ⟨true, rfl, ?_⟩⟩
      refine ifF rfl ?_
      exact ⟨v, _, rfl, hB3.same (s4.trans (same_new (Same.refl _) hp |>.trans s5))⟩
    rintro σ' H3 ⟨v, w, rfl, hB3⟩
    refine ⟨_, rfl, b, rfl, hB3, fun z1 H4 hz1 hb4 hB4 => ⟨_, rfl, b, rfl, hB4, fun z2 H5 hz2 hb5 hB5 => ⟨by show 2 ≤ sizeLine; decide, fun p hp => ?_⟩⟩⟩
    generalize e6 : upd _ p _ = H6
    have p6 : H6 p = some (.lst [z1, z2]) := by rw [← e6]; exact upd_same
    refine ⟨_, rfl, p, _, rfl, p6, by show 2 ≤ 2; decide, fun H7 s7 => ⟨true, rfl, ?_⟩⟩
    refine ifT rfl ?_
    refine ⟨_, rfl, 1, rfl, p, _, rfl, SqL.of (s7 _ _ p6), fun q hq => ?_⟩
    refine ⟨q, _, rfl, upd_same, ?_, fun H8 s8 => ⟨true, rfl, ?_⟩⟩
    · show (1 : Nat) ≤ 2
      decide
    refine ifT rfl ?_
    refine ⟨Nat.zero_le _, fun r hr => ⟨r, [], rfl, upd_same, Nat.zero_le _, fun H9 _ => k H9⟩⟩
end
end E

set_option Elab.async false
set_option linter.all false
set_option maxRecDepth 100000
set_option maxHeartbeats 4000000
namespace E
open PySem L2 EX
/-- what the written part says of an exception class at D, the base's at CE -/
def exB (K : PySem.W.Frag) (CE D : Addr) : Bool :=
  decide (PySem.W.findIn K (.ref D) "__getattribute__" = some (some (.builtin "BaseException.__getattribute__"))) && (decide (PySem.W.findIn K (.ref D) "__getattr__" = some none) &&
  (decide (PySem.W.subIn K (.ref D) (.type "BaseException") = some true) && (PySem.W.hasDictIn K D && (decide (PySem.W.findIn K (.ref D) "__class__" = some (some (.builtin "object.__class__"))) &&
  (decide (PySem.W.specialIn K (.builtin "object.__class__") "__get__" = some (some (.builtin "getset_descriptor.__get__"))) && (decide (PySem.W.takesIn K (.builtin "object.__class__") = some true) &&
  (decide (PySem.W.mroIn K D (.type "object") = some true) && (decide (PySem.W.findIn K (.ref D) "__setattr__" = some (some (.builtin "object.__setattr__"))) && (decide (PySem.W.typeIn K (.ref D) = some (.type "type")) &&
  (PySem.W.keepIn K (.ref D) && (decide (PySem.W.kitOne K (.ref D) (.type "ValueError") = some true) && decide (PySem.W.exmOne K (.ref D) (.ref CE) = some true))))))))))))
structure ExAll (K : PySem.W.Frag) (CE D : Addr) : Prop where
  ec : ExcC K D
  sa : PySem.W.findIn K (.ref D) "__setattr__" = some (some (.builtin "object.__setattr__"))
  ty : PySem.W.typeIn K (.ref D) = some (.type "type")
  kp : PySem.W.keepIn K (.ref D) = true
  ve : PySem.W.kitOne K (.ref D) (.type "ValueError") = some true
  exm : PySem.W.exmOne K (.ref D) (.ref CE) = some true
theorem exB_ok {K : PySem.W.Frag} {CE D : Addr} (h : exB K CE D = true) : ExAll K CE D := by
  unfold exB at h
  simp only [Bool.and_eq_true, decide_eq_true_eq] at h
  obtain ⟨h1, h2, h3, h4, h5, h6, h7, h8, h9, h10, h11, h12, h13⟩ := h
  exact ⟨⟨h1, h2, h3, h4, h5, h6, h7, h8⟩, h9, h10, h11, h12, h13⟩
def kitB (K : PySem.W.Frag) (D : Addr) (i : Nat) (cs : List Addr) : Bool := (List.range 18).all fun j => decide (PySem.W.kitOne K (.ref D) (.ref (cs.getD j 0)) = some (decide (j = i)))
theorem kitB_ok {K : PySem.W.Frag} {D : Addr} {i : Nat} {cs : List Addr} (h : kitB K D i cs = true) : ∀ j, j < 18 → PySem.W.kitOne K (.ref D) (.ref (cs.getD j 0)) = some (decide (j = i)) := fun j hj =>
  of_decide_eq_true (List.all_eq_true.mp h j (List.mem_range.mpr hj))
theorem all_mk {P : Program} {w : World} {K : PySem.W.Frag} {h : Heap} {mg : Str → Option Value} {fa ce c0 c1 c2 c3 c4 c5 c6 c7 c8 c9 c10 c11 c12 c13 c14 c15 c16 c17 : Addr} (X : K.In h) (G : h.Ns mainGlobals mg) (hfa : mg "law" = some (.ref fa))
    {f0 : Addr} {od0 an0 : Option Addr} {sl0 : Array (Option Value)} {oc0 kV0 dc0 pm0 cd0 ct0 : Value}
    {f1 : Addr} {od1 an1 : Option Addr} {sl1 : Array (Option Value)} {oc1 kV1 dc1 pm1 cd1 ct1 : Value}
    {f2 : Addr} {od2 an2 : Option Addr} {sl2 : Array (Option Value)} {oc2 kV2 dc2 pm2 cd2 ct2 : Value}
    {f3 : Addr} {od3 an3 : Option Addr} {sl3 : Array (Option Value)} {oc3 kV3 dc3 pm3 cd3 ct3 : Value}
    {f4 : Addr} {od4 an4 : Option Addr} {sl4 : Array (Option Value)} {oc4 kV4 dc4 pm4 cd4 ct4 : Value}
    {f5 : Addr} {od5 an5 : Option Addr} {sl5 : Array (Option Value)} {oc5 kV5 dc5 pm5 cd5 ct5 : Value}
    {f6 : Addr} {od6 an6 : Option Addr} {sl6 : Array (Option Value)} {oc6 kV6 dc6 pm6 cd6 ct6 : Value}
    {f7 : Addr} {od7 an7 : Option Addr} {sl7 : Array (Option Value)} {oc7 kV7 dc7 pm7 cd7 ct7 : Value}
    {f8 : Addr} {od8 an8 : Option Addr} {sl8 : Array (Option Value)} {oc8 kV8 dc8 pm8 cd8 ct8 : Value}
    {f9 : Addr} {od9 an9 : Option Addr} {sl9 : Array (Option Value)} {oc9 kV9 dc9 pm9 cd9 ct9 : Value}
    {g0 : Addr} {od'0 an'0 : Option Addr} {sl'0 : Array (Option Value)} {oc'0 kV'0 dc'0 pm'0 cd'0 ct'0 : Value} {nm0 q0 : Str} {N0 : Addr} {bs0 bm0 : List Value} {sn0 : List Str} {sub0 : List Value} {ab0 : Bool} {col0 : Option Bool} {dd0 : Option Addr} {m00 m10 m20 m30 m50 : Option Value}
    {g1 : Addr} {od'1 an'1 : Option Addr} {sl'1 : Array (Option Value)} {oc'1 kV'1 dc'1 pm'1 cd'1 ct'1 : Value} {nm1 q1 : Str} {N1 : Addr} {bs1 bm1 : List Value} {sn1 : List Str} {sub1 : List Value} {ab1 : Bool} {col1 : Option Bool} {dd1 : Option Addr} {m01 m11 m21 m31 m51 : Option Value}
    {g2 : Addr} {od'2 an'2 : Option Addr} {sl'2 : Array (Option Value)} {oc'2 kV'2 dc'2 pm'2 cd'2 ct'2 : Value} {nm2 q2 : Str} {N2 : Addr} {bs2 bm2 : List Value} {sn2 : List Str} {sub2 : List Value} {ab2 : Bool} {col2 : Option Bool} {dd2 : Option Addr} {m02 m12 m22 m32 m52 : Option Value}
    {g3 : Addr} {od'3 an'3 : Option Addr} {sl'3 : Array (Option Value)} {oc'3 kV'3 dc'3 pm'3 cd'3 ct'3 : Value} {nm3 q3 : Str} {N3 : Addr} {bs3 bm3 : List Value} {sn3 : List Str} {sub3 : List Value} {ab3 : Bool} {col3 : Option Bool} {dd3 : Option Addr} {m03 m13 m23 m33 m53 : Option Value}
    {g4 : Addr} {od'4 an'4 : Option Addr} {sl'4 : Array (Option Value)} {oc'4 kV'4 dc'4 pm'4 cd'4 ct'4 : Value} {nm4 q4 : Str} {N4 : Addr} {bs4 bm4 : List Value} {sn4 : List Str} {sub4 : List Value} {ab4 : Bool} {col4 : Option Bool} {dd4 : Option Addr} {m04 m14 m24 m34 m54 : Option Value}
    {g5 : Addr} {od'5 an'5 : Option Addr} {sl'5 : Array (Option Value)} {oc'5 kV'5 dc'5 pm'5 cd'5 ct'5 : Value} {nm5 q5 : Str} {N5 : Addr} {bs5 bm5 : List Value} {sn5 : List Str} {sub5 : List Value} {ab5 : Bool} {col5 : Option Bool} {dd5 : Option Addr} {m05 m15 m25 m35 m55 : Option Value}
    {g6 : Addr} {od'6 an'6 : Option Addr} {sl'6 : Array (Option Value)} {oc'6 kV'6 dc'6 pm'6 cd'6 ct'6 : Value} {nm6 q6 : Str} {N6 : Addr} {bs6 bm6 : List Value} {sn6 : List Str} {sub6 : List Value} {ab6 : Bool} {col6 : Option Bool} {dd6 : Option Addr} {m06 m16 m26 m36 m56 : Option Value}
    {g7 : Addr} {od'7 an'7 : Option Addr} {sl'7 : Array (Option Value)} {oc'7 kV'7 dc'7 pm'7 cd'7 ct'7 : Value} {nm7 q7 : Str} {N7 : Addr} {bs7 bm7 : List Value} {sn7 : List Str} {sub7 : List Value} {ab7 : Bool} {col7 : Option Bool} {dd7 : Option Addr} {m07 m17 m27 m37 m57 : Option Value}
    {g8 : Addr} {od'8 an'8 : Option Addr} {sl'8 : Array (Option Value)} {oc'8 kV'8 dc'8 pm'8 cd'8 ct'8 : Value} {nm8 q8 : Str} {N8 : Addr} {bs8 bm8 : List Value} {sn8 : List Str} {sub8 : List Value} {ab8 : Bool} {col8 : Option Bool} {dd8 : Option Addr} {m08 m18 m28 m38 m58 : Option Value}
    {g9 : Addr} {od'9 an'9 : Option Addr} {sl'9 : Array (Option Value)} {oc'9 kV'9 dc'9 pm'9 cd'9 ct'9 : Value} {nm9 q9 : Str} {N9 : Addr} {bs9 bm9 : List Value} {sn9 : List Str} {sub9 : List Value} {ab9 : Bool} {col9 : Option Bool} {dd9 : Option Addr} {m09 m19 m29 m39 m59 : Option Value}
    {g11 : Addr} {od'11 an'11 : Option Addr} {sl'11 : Array (Option Value)} {oc'11 kV'11 dc'11 pm'11 cd'11 ct'11 : Value} {nm11 q11 : Str} {N11 : Addr} {bs11 bm11 : List Value} {sn11 : List Str} {sub11 : List Value} {ab11 : Bool} {col11 : Option Bool} {dd11 : Option Addr} {m011 m111 m211 m311 m511 : Option Value}
    {g12 : Addr} {od'12 an'12 : Option Addr} {sl'12 : Array (Option Value)} {oc'12 kV'12 dc'12 pm'12 cd'12 ct'12 : Value} {nm12 q12 : Str} {N12 : Addr} {bs12 bm12 : List Value} {sn12 : List Str} {sub12 : List Value} {ab12 : Bool} {col12 : Option Bool} {dd12 : Option Addr} {m012 m112 m212 m312 m512 : Option Value}
    {g13 : Addr} {od'13 an'13 : Option Addr} {sl'13 : Array (Option Value)} {oc'13 kV'13 dc'13 pm'13 cd'13 ct'13 : Value} {nm13 q13 : Str} {N13 : Addr} {bs13 bm13 : List Value} {sn13 : List Str} {sub13 : List Value} {ab13 : Bool} {col13 : Option Bool} {dd13 : Option Addr} {m013 m113 m213 m313 m513 : Option Value}
    (aE : PySem.W.nsIn K mainGlobals "CheckError" = some (some (.ref ce)))
    (a0 : PySem.W.nsIn K mainGlobals "Wrong" = some (some (.ref c0)))
    (a1 : PySem.W.nsIn K mainGlobals "TooMany" = some (some (.ref c1)))
    (a2 : PySem.W.nsIn K mainGlobals "Full" = some (some (.ref c2)))
    (a3 : PySem.W.nsIn K mainGlobals "BadRule" = some (some (.ref c3)))
    (a4 : PySem.W.nsIn K mainGlobals "BadRow" = some (some (.ref c4)))
    (a5 : PySem.W.nsIn K mainGlobals "NoRow" = some (some (.ref c5)))
    (a6 : PySem.W.nsIn K mainGlobals "Taken" = some (some (.ref c6)))
    (a7 : PySem.W.nsIn K mainGlobals "BadStatement" = some (some (.ref c7)))
    (a8 : PySem.W.nsIn K mainGlobals "Twice" = some (some (.ref c8)))
    (a9 : PySem.W.nsIn K mainGlobals "Unput" = some (some (.ref c9)))
    (a10 : PySem.W.nsIn K mainGlobals "Unfit" = some (some (.ref c10)))
    (a11 : PySem.W.nsIn K mainGlobals "NoPlace" = some (some (.ref c11)))
    (a12 : PySem.W.nsIn K mainGlobals "Broken" = some (some (.ref c12)))
    (a13 : PySem.W.nsIn K mainGlobals "Illegal" = some (some (.ref c13)))
    (a14 : PySem.W.nsIn K mainGlobals "NoDeed" = some (some (.ref c14)))
    (a15 : PySem.W.nsIn K mainGlobals "Nothing" = some (some (.ref c15)))
    (a16 : PySem.W.nsIn K mainGlobals "NoText" = some (some (.ref c16)))
    (a17 : PySem.W.nsIn K mainGlobals "NoCommand" = some (some (.ref c17)))
    (n0 : PySem.W.nsIn K mainGlobals "_law_bag" = some (some (.ref f0)))
    (l0 : K.lookup f0 = some ⟨oc0, od0, .func (PySem.W.fnOf "_law_bag" "_law_bag" (defArgs sBag) (defBody sBag) (defScope sBag) .none kV0 dc0 pm0 an0 cd0 ct0), sl0⟩)
    (d0 : PySem.W.codeIn K cd0 "_law_bag" = true)
    (k0 : PySem.W.keepIn K (.ref f0) = true)
    (n1 : PySem.W.nsIn K mainGlobals "_law_take" = some (some (.ref f1)))
    (l1 : K.lookup f1 = some ⟨oc1, od1, .func (PySem.W.fnOf "_law_take" "_law_take" (defArgs sTake) (defBody sTake) (defScope sTake) .none kV1 dc1 pm1 an1 cd1 ct1), sl1⟩)
    (d1 : PySem.W.codeIn K cd1 "_law_take" = true)
    (k1 : PySem.W.keepIn K (.ref f1) = true)
    (n2 : PySem.W.nsIn K mainGlobals "_law_odd" = some (some (.ref f2)))
    (l2 : K.lookup f2 = some ⟨oc2, od2, .func (PySem.W.fnOf "_law_odd" "_law_odd" (defArgs sOdd) (defBody sOdd) (defScope sOdd) .none kV2 dc2 pm2 an2 cd2 ct2), sl2⟩)
    (d2 : PySem.W.codeIn K cd2 "_law_odd" = true)
    (k2 : PySem.W.keepIn K (.ref f2) = true)
    (n3 : PySem.W.nsIn K mainGlobals "_law_raised" = some (some (.ref f3)))
    (l3 : K.lookup f3 = some ⟨oc3, od3, .func (PySem.W.fnOf "_law_raised" "_law_raised" (defArgs sRaised) (defBody sRaised) (defScope sRaised) .none kV3 dc3 pm3 an3 cd3 ct3), sl3⟩)
    (d3 : PySem.W.codeIn K cd3 "_law_raised" = true)
    (k3 : PySem.W.keepIn K (.ref f3) = true)
    (n4 : PySem.W.nsIn K mainGlobals "_law_raised_too" = some (some (.ref f4)))
    (l4 : K.lookup f4 = some ⟨oc4, od4, .func (PySem.W.fnOf "_law_raised_too" "_law_raised_too" (defArgs sRaisedToo) (defBody sRaisedToo) (defScope sRaisedToo) .none kV4 dc4 pm4 an4 cd4 ct4), sl4⟩)
    (d4 : PySem.W.codeIn K cd4 "_law_raised_too" = true)
    (k4 : PySem.W.keepIn K (.ref f4) = true)
    (n5 : PySem.W.nsIn K mainGlobals "_law_flags" = some (some (.ref f5)))
    (l5 : K.lookup f5 = some ⟨oc5, od5, .func (PySem.W.fnOf "_law_flags" "_law_flags" (defArgs sFlags) (defBody sFlags) (defScope sFlags) .none kV5 dc5 pm5 an5 cd5 ct5), sl5⟩)
    (d5 : PySem.W.codeIn K cd5 "_law_flags" = true)
    (k5 : PySem.W.keepIn K (.ref f5) = true)
    (n6 : PySem.W.nsIn K mainGlobals "_law_field" = some (some (.ref f6)))
    (l6 : K.lookup f6 = some ⟨oc6, od6, .func (PySem.W.fnOf "_law_field" "_law_field" (defArgs sField) (defBody sField) (defScope sField) .none kV6 dc6 pm6 an6 cd6 ct6), sl6⟩)
    (d6 : PySem.W.codeIn K cd6 "_law_field" = true)
    (k6 : PySem.W.keepIn K (.ref f6) = true)
    (n7 : PySem.W.nsIn K mainGlobals "_law_right" = some (some (.ref f7)))
    (l7 : K.lookup f7 = some ⟨oc7, od7, .func (PySem.W.fnOf "_law_right" "_law_right" (defArgs sRight) (defBody sRight) (defScope sRight) .none kV7 dc7 pm7 an7 cd7 ct7), sl7⟩)
    (d7 : PySem.W.codeIn K cd7 "_law_right" = true)
    (k7 : PySem.W.keepIn K (.ref f7) = true)
    (n8 : PySem.W.nsIn K mainGlobals "_law_base_right" = some (some (.ref f8)))
    (l8 : K.lookup f8 = some ⟨oc8, od8, .func (PySem.W.fnOf "_law_base_right" "_law_base_right" (defArgs sBase) (defBody sBase) (defScope sBase) .none kV8 dc8 pm8 an8 cd8 ct8), sl8⟩)
    (d8 : PySem.W.codeIn K cd8 "_law_base_right" = true)
    (k8 : PySem.W.keepIn K (.ref f8) = true)
    (n9 : PySem.W.nsIn K mainGlobals "law" = some (some (.ref f9)))
    (l9 : K.lookup f9 = some ⟨oc9, od9, .func (PySem.W.fnOf "law" "law" (defArgs sLaw) (defBody sLaw) (defScope sLaw) .none kV9 dc9 pm9 an9 cd9 ct9), sl9⟩)
    (d9 : PySem.W.codeIn K cd9 "law" = true)
    (k9 : PySem.W.keepIn K (.ref f9) = true)
    (xL0 : K.lookup c0 = some (excClassObj nm0 q0 c0 N0 bs0 bm0 true sn0 sub0 ab0 col0 dd0 m00 m10 m20 m30 m50 "ValueError.__new__"))
    (i0 : PySem.W.findIn K (.ref c0) "__init__" = some (some (.ref g0)))
    (l'0 : K.lookup g0 = some ⟨oc'0, od'0, .func (PySem.W.fnOf "__init__" "Wrong.__init__" (defArgs sI0) (defBody sI0) (defScope sI0) .none kV'0 dc'0 pm'0 an'0 cd'0 ct'0), sl'0⟩)
    (d'0 : PySem.W.codeIn K cd'0 "Wrong.__init__" = true)
    (k'0 : PySem.W.keepIn K (.ref g0) = true)
    (t'0 : PySem.W.typeIn K (.ref g0) = some (.type "function"))
    (no0 : PySem.W.findIn K (.ref c0) "place" = some none)
    (rv0 : PySem.HandSPX.refsVE bm0 = true)
    (xL1 : K.lookup c1 = some (excClassObj nm1 q1 c1 N1 bs1 bm1 true sn1 sub1 ab1 col1 dd1 m01 m11 m21 m31 m51 "ValueError.__new__"))
    (i1 : PySem.W.findIn K (.ref c1) "__init__" = some (some (.ref g1)))
    (l'1 : K.lookup g1 = some ⟨oc'1, od'1, .func (PySem.W.fnOf "__init__" "TooMany.__init__" (defArgs sI1) (defBody sI1) (defScope sI1) .none kV'1 dc'1 pm'1 an'1 cd'1 ct'1), sl'1⟩)
    (d'1 : PySem.W.codeIn K cd'1 "TooMany.__init__" = true)
    (k'1 : PySem.W.keepIn K (.ref g1) = true)
    (t'1 : PySem.W.typeIn K (.ref g1) = some (.type "function"))
    (no1 : PySem.W.findIn K (.ref c1) "limit" = some none)
    (rv1 : PySem.HandSPX.refsVE bm1 = true)
    (xL2 : K.lookup c2 = some (excClassObj nm2 q2 c2 N2 bs2 bm2 true sn2 sub2 ab2 col2 dd2 m02 m12 m22 m32 m52 "ValueError.__new__"))
    (i2 : PySem.W.findIn K (.ref c2) "__init__" = some (some (.ref g2)))
    (l'2 : K.lookup g2 = some ⟨oc'2, od'2, .func (PySem.W.fnOf "__init__" "Full.__init__" (defArgs sI2) (defBody sI2) (defScope sI2) .none kV'2 dc'2 pm'2 an'2 cd'2 ct'2), sl'2⟩)
    (d'2 : PySem.W.codeIn K cd'2 "Full.__init__" = true)
    (k'2 : PySem.W.keepIn K (.ref g2) = true)
    (t'2 : PySem.W.typeIn K (.ref g2) = some (.type "function"))
    (no2 : PySem.W.findIn K (.ref c2) "limit" = some none)
    (rv2 : PySem.HandSPX.refsVE bm2 = true)
    (xL3 : K.lookup c3 = some (excClassObj nm3 q3 c3 N3 bs3 bm3 true sn3 sub3 ab3 col3 dd3 m03 m13 m23 m33 m53 "ValueError.__new__"))
    (i3 : PySem.W.findIn K (.ref c3) "__init__" = some (some (.ref g3)))
    (l'3 : K.lookup g3 = some ⟨oc'3, od'3, .func (PySem.W.fnOf "__init__" "BadRule.__init__" (defArgs sI3) (defBody sI3) (defScope sI3) .none kV'3 dc'3 pm'3 an'3 cd'3 ct'3), sl'3⟩)
    (d'3 : PySem.W.codeIn K cd'3 "BadRule.__init__" = true)
    (k'3 : PySem.W.keepIn K (.ref g3) = true)
    (t'3 : PySem.W.typeIn K (.ref g3) = some (.type "function"))
    (no3 : PySem.W.findIn K (.ref c3) "at" = some none)
    (rv3 : PySem.HandSPX.refsVE bm3 = true)
    (xL4 : K.lookup c4 = some (excClassObj nm4 q4 c4 N4 bs4 bm4 true sn4 sub4 ab4 col4 dd4 m04 m14 m24 m34 m54 "ValueError.__new__"))
    (i4 : PySem.W.findIn K (.ref c4) "__init__" = some (some (.ref g4)))
    (l'4 : K.lookup g4 = some ⟨oc'4, od'4, .func (PySem.W.fnOf "__init__" "BadRow.__init__" (defArgs sI4) (defBody sI4) (defScope sI4) .none kV'4 dc'4 pm'4 an'4 cd'4 ct'4), sl'4⟩)
    (d'4 : PySem.W.codeIn K cd'4 "BadRow.__init__" = true)
    (k'4 : PySem.W.keepIn K (.ref g4) = true)
    (t'4 : PySem.W.typeIn K (.ref g4) = some (.type "function"))
    (no4 : PySem.W.findIn K (.ref c4) "ident" = some none)
    (rv4 : PySem.HandSPX.refsVE bm4 = true)
    (xL5 : K.lookup c5 = some (excClassObj nm5 q5 c5 N5 bs5 bm5 true sn5 sub5 ab5 col5 dd5 m05 m15 m25 m35 m55 "ValueError.__new__"))
    (i5 : PySem.W.findIn K (.ref c5) "__init__" = some (some (.ref g5)))
    (l'5 : K.lookup g5 = some ⟨oc'5, od'5, .func (PySem.W.fnOf "__init__" "NoRow.__init__" (defArgs sI5) (defBody sI5) (defScope sI5) .none kV'5 dc'5 pm'5 an'5 cd'5 ct'5), sl'5⟩)
    (d'5 : PySem.W.codeIn K cd'5 "NoRow.__init__" = true)
    (k'5 : PySem.W.keepIn K (.ref g5) = true)
    (t'5 : PySem.W.typeIn K (.ref g5) = some (.type "function"))
    (no5 : PySem.W.findIn K (.ref c5) "ident" = some none)
    (rv5 : PySem.HandSPX.refsVE bm5 = true)
    (xL6 : K.lookup c6 = some (excClassObj nm6 q6 c6 N6 bs6 bm6 true sn6 sub6 ab6 col6 dd6 m06 m16 m26 m36 m56 "ValueError.__new__"))
    (i6 : PySem.W.findIn K (.ref c6) "__init__" = some (some (.ref g6)))
    (l'6 : K.lookup g6 = some ⟨oc'6, od'6, .func (PySem.W.fnOf "__init__" "Taken.__init__" (defArgs sI6) (defBody sI6) (defScope sI6) .none kV'6 dc'6 pm'6 an'6 cd'6 ct'6), sl'6⟩)
    (d'6 : PySem.W.codeIn K cd'6 "Taken.__init__" = true)
    (k'6 : PySem.W.keepIn K (.ref g6) = true)
    (t'6 : PySem.W.typeIn K (.ref g6) = some (.type "function"))
    (no6 : PySem.W.findIn K (.ref c6) "ident" = some none)
    (rv6 : PySem.HandSPX.refsVE bm6 = true)
    (xL7 : K.lookup c7 = some (excClassObj nm7 q7 c7 N7 bs7 bm7 true sn7 sub7 ab7 col7 dd7 m07 m17 m27 m37 m57 "ValueError.__new__"))
    (i7 : PySem.W.findIn K (.ref c7) "__init__" = some (some (.ref g7)))
    (l'7 : K.lookup g7 = some ⟨oc'7, od'7, .func (PySem.W.fnOf "__init__" "BadStatement.__init__" (defArgs sI7) (defBody sI7) (defScope sI7) .none kV'7 dc'7 pm'7 an'7 cd'7 ct'7), sl'7⟩)
    (d'7 : PySem.W.codeIn K cd'7 "BadStatement.__init__" = true)
    (k'7 : PySem.W.keepIn K (.ref g7) = true)
    (t'7 : PySem.W.typeIn K (.ref g7) = some (.type "function"))
    (no7 : PySem.W.findIn K (.ref c7) "address" = some none)
    (rv7 : PySem.HandSPX.refsVE bm7 = true)
    (xL8 : K.lookup c8 = some (excClassObj nm8 q8 c8 N8 bs8 bm8 true sn8 sub8 ab8 col8 dd8 m08 m18 m28 m38 m58 "ValueError.__new__"))
    (i8 : PySem.W.findIn K (.ref c8) "__init__" = some (some (.ref g8)))
    (l'8 : K.lookup g8 = some ⟨oc'8, od'8, .func (PySem.W.fnOf "__init__" "Twice.__init__" (defArgs sI8) (defBody sI8) (defScope sI8) .none kV'8 dc'8 pm'8 an'8 cd'8 ct'8), sl'8⟩)
    (d'8 : PySem.W.codeIn K cd'8 "Twice.__init__" = true)
    (k'8 : PySem.W.keepIn K (.ref g8) = true)
    (t'8 : PySem.W.typeIn K (.ref g8) = some (.type "function"))
    (no8 : PySem.W.findIn K (.ref c8) "handle" = some none)
    (rv8 : PySem.HandSPX.refsVE bm8 = true)
    (xL9 : K.lookup c9 = some (excClassObj nm9 q9 c9 N9 bs9 bm9 true sn9 sub9 ab9 col9 dd9 m09 m19 m29 m39 m59 "ValueError.__new__"))
    (i9 : PySem.W.findIn K (.ref c9) "__init__" = some (some (.ref g9)))
    (l'9 : K.lookup g9 = some ⟨oc'9, od'9, .func (PySem.W.fnOf "__init__" "Unput.__init__" (defArgs sI9) (defBody sI9) (defScope sI9) .none kV'9 dc'9 pm'9 an'9 cd'9 ct'9), sl'9⟩)
    (d'9 : PySem.W.codeIn K cd'9 "Unput.__init__" = true)
    (k'9 : PySem.W.keepIn K (.ref g9) = true)
    (t'9 : PySem.W.typeIn K (.ref g9) = some (.type "function"))
    (no9 : PySem.W.findIn K (.ref c9) "handle" = some none)
    (rv9 : PySem.HandSPX.refsVE bm9 = true)
    (xL11 : K.lookup c11 = some (excClassObj nm11 q11 c11 N11 bs11 bm11 true sn11 sub11 ab11 col11 dd11 m011 m111 m211 m311 m511 "ValueError.__new__"))
    (i11 : PySem.W.findIn K (.ref c11) "__init__" = some (some (.ref g11)))
    (l'11 : K.lookup g11 = some ⟨oc'11, od'11, .func (PySem.W.fnOf "__init__" "NoPlace.__init__" (defArgs sI11) (defBody sI11) (defScope sI11) .none kV'11 dc'11 pm'11 an'11 cd'11 ct'11), sl'11⟩)
    (d'11 : PySem.W.codeIn K cd'11 "NoPlace.__init__" = true)
    (k'11 : PySem.W.keepIn K (.ref g11) = true)
    (t'11 : PySem.W.typeIn K (.ref g11) = some (.type "function"))
    (no11 : PySem.W.findIn K (.ref c11) "address" = some none)
    (rv11 : PySem.HandSPX.refsVE bm11 = true)
    (xL12 : K.lookup c12 = some (excClassObj nm12 q12 c12 N12 bs12 bm12 true sn12 sub12 ab12 col12 dd12 m012 m112 m212 m312 m512 "ValueError.__new__"))
    (i12 : PySem.W.findIn K (.ref c12) "__init__" = some (some (.ref g12)))
    (l'12 : K.lookup g12 = some ⟨oc'12, od'12, .func (PySem.W.fnOf "__init__" "Broken.__init__" (defArgs sI12) (defBody sI12) (defScope sI12) .none kV'12 dc'12 pm'12 an'12 cd'12 ct'12), sl'12⟩)
    (d'12 : PySem.W.codeIn K cd'12 "Broken.__init__" = true)
    (k'12 : PySem.W.keepIn K (.ref g12) = true)
    (t'12 : PySem.W.typeIn K (.ref g12) = some (.type "function"))
    (no12 : PySem.W.findIn K (.ref c12) "rule" = some none)
    (rv12 : PySem.HandSPX.refsVE bm12 = true)
    (xL13 : K.lookup c13 = some (excClassObj nm13 q13 c13 N13 bs13 bm13 true sn13 sub13 ab13 col13 dd13 m013 m113 m213 m313 m513 "ValueError.__new__"))
    (i13 : PySem.W.findIn K (.ref c13) "__init__" = some (some (.ref g13)))
    (l'13 : K.lookup g13 = some ⟨oc'13, od'13, .func (PySem.W.fnOf "__init__" "Illegal.__init__" (defArgs sI13) (defBody sI13) (defScope sI13) .none kV'13 dc'13 pm'13 an'13 cd'13 ct'13), sl'13⟩)
    (d'13 : PySem.W.codeIn K cd'13 "Illegal.__init__" = true)
    (k'13 : PySem.W.keepIn K (.ref g13) = true)
    (t'13 : PySem.W.typeIn K (.ref g13) = some (.type "function"))
    (no13 : PySem.W.findIn K (.ref c13) "rule" = some none)
    (rv13 : PySem.HandSPX.refsVE bm13 = true)
    (xi10 : PySem.W.excIn K c10 PySem.HandSPX.veTail "ValueError.__new__" = true)
    (xi14 : PySem.W.excIn K c14 PySem.HandSPX.veTail "ValueError.__new__" = true)
    (xi15 : PySem.W.excIn K c15 PySem.HandSPX.veTail "ValueError.__new__" = true)
    (xi16 : PySem.W.excIn K c16 PySem.HandSPX.veTail "ValueError.__new__" = true)
    (xi17 : PySem.W.excIn K c17 PySem.HandSPX.veTail "ValueError.__new__" = true)
    (xiE : PySem.W.excIn K ce PySem.HandSPX.veTail "ValueError.__new__" = true)
    (zabs : PySem.W.nsIn K mainGlobals "abs" = some none)
    (zint : PySem.W.nsIn K mainGlobals "int" = some none)
    (zrange : PySem.W.nsIn K mainGlobals "range" = some none)
    (zisinstance : PySem.W.nsIn K mainGlobals "isinstance" = some none)
    (zValueError : PySem.W.nsIn K mainGlobals "ValueError" = some none)
    (zlen : PySem.W.nsIn K mainGlobals "len" = some none)
    (x0 : exB K ce c0 = true)
    (x1 : exB K ce c1 = true)
    (x2 : exB K ce c2 = true)
    (x3 : exB K ce c3 = true)
    (x4 : exB K ce c4 = true)
    (x5 : exB K ce c5 = true)
    (x6 : exB K ce c6 = true)
    (x7 : exB K ce c7 = true)
    (x8 : exB K ce c8 = true)
    (x9 : exB K ce c9 = true)
    (x10 : exB K ce c10 = true)
    (x11 : exB K ce c11 = true)
    (x12 : exB K ce c12 = true)
    (x13 : exB K ce c13 = true)
    (x14 : exB K ce c14 = true)
    (x15 : exB K ce c15 = true)
    (x16 : exB K ce c16 = true)
    (x17 : exB K ce c17 = true)
    (xE : exB K ce ce = true)
    (kt0 : kitB K c0 0 [c0, c1, c2, c3, c4, c5, c6, c7, c8, c9, c10, c11, c12, c13, c14, c15, c16, c17] = true)
    (kt1 : kitB K c1 1 [c0, c1, c2, c3, c4, c5, c6, c7, c8, c9, c10, c11, c12, c13, c14, c15, c16, c17] = true)
    (kt2 : kitB K c2 2 [c0, c1, c2, c3, c4, c5, c6, c7, c8, c9, c10, c11, c12, c13, c14, c15, c16, c17] = true)
    (kt3 : kitB K c3 3 [c0, c1, c2, c3, c4, c5, c6, c7, c8, c9, c10, c11, c12, c13, c14, c15, c16, c17] = true)
    (kt4 : kitB K c4 4 [c0, c1, c2, c3, c4, c5, c6, c7, c8, c9, c10, c11, c12, c13, c14, c15, c16, c17] = true)
    (kt5 : kitB K c5 5 [c0, c1, c2, c3, c4, c5, c6, c7, c8, c9, c10, c11, c12, c13, c14, c15, c16, c17] = true)
    (kt6 : kitB K c6 6 [c0, c1, c2, c3, c4, c5, c6, c7, c8, c9, c10, c11, c12, c13, c14, c15, c16, c17] = true)
    (kt7 : kitB K c7 7 [c0, c1, c2, c3, c4, c5, c6, c7, c8, c9, c10, c11, c12, c13, c14, c15, c16, c17] = true)
    (kt8 : kitB K c8 8 [c0, c1, c2, c3, c4, c5, c6, c7, c8, c9, c10, c11, c12, c13, c14, c15, c16, c17] = true)
    (kt9 : kitB K c9 9 [c0, c1, c2, c3, c4, c5, c6, c7, c8, c9, c10, c11, c12, c13, c14, c15, c16, c17] = true)
    (kt10 : kitB K c10 10 [c0, c1, c2, c3, c4, c5, c6, c7, c8, c9, c10, c11, c12, c13, c14, c15, c16, c17] = true)
    (kt11 : kitB K c11 11 [c0, c1, c2, c3, c4, c5, c6, c7, c8, c9, c10, c11, c12, c13, c14, c15, c16, c17] = true)
    (kt12 : kitB K c12 12 [c0, c1, c2, c3, c4, c5, c6, c7, c8, c9, c10, c11, c12, c13, c14, c15, c16, c17] = true)
    (kt13 : kitB K c13 13 [c0, c1, c2, c3, c4, c5, c6, c7, c8, c9, c10, c11, c12, c13, c14, c15, c16, c17] = true)
    (kt14 : kitB K c14 14 [c0, c1, c2, c3, c4, c5, c6, c7, c8, c9, c10, c11, c12, c13, c14, c15, c16, c17] = true)
    (kt15 : kitB K c15 15 [c0, c1, c2, c3, c4, c5, c6, c7, c8, c9, c10, c11, c12, c13, c14, c15, c16, c17] = true)
    (kt16 : kitB K c16 16 [c0, c1, c2, c3, c4, c5, c6, c7, c8, c9, c10, c11, c12, c13, c14, c15, c16, c17] = true)
    (kt17 : kitB K c17 17 [c0, c1, c2, c3, c4, c5, c6, c7, c8, c9, c10, c11, c12, c13, c14, c15, c16, c17] = true)
    (ktE : kitB K ce 18 [c0, c1, c2, c3, c4, c5, c6, c7, c8, c9, c10, c11, c12, c13, c14, c15, c16, c17] = true) :
    ∃ fd : FuncData, (∀ (s : Shared) (v : Value), BindsTo s fd ⟨[v], []⟩ [("_law_script", v)]) ∧ ∀ base : Heap, K.In base → base.Ns mainGlobals mg → FnOk P w K mg base CX0 5 fa fd ["_law_script"] (spLaw K) := by
  have e := hfa.symm.trans (PySem.W.mg_of X G n9)
  cases e
  let C : Nat → Addr := fun i => [c0, c1, c2, c3, c4, c5, c6, c7, c8, c9, c10, c11, c12, c13, c14, c15, c16, c17].getD i 0
  have ex : ∀ i, i < 18 → ExAll K ce (C i) := fun i hi => match i, hi with
    | 0, _ => exB_ok x0
    | 1, _ => exB_ok x1
    | 2, _ => exB_ok x2
    | 3, _ => exB_ok x3
    | 4, _ => exB_ok x4
    | 5, _ => exB_ok x5
    | 6, _ => exB_ok x6
    | 7, _ => exB_ok x7
    | 8, _ => exB_ok x8
    | 9, _ => exB_ok x9
    | 10, _ => exB_ok x10
    | 11, _ => exB_ok x11
    | 12, _ => exB_ok x12
    | 13, _ => exB_ok x13
    | 14, _ => exB_ok x14
    | 15, _ => exB_ok x15
    | 16, _ => exB_ok x16
    | 17, _ => exB_ok x17
    | n + 18, h => absurd h (by omega)
  have kt : ∀ i j, i < 18 → j < 18 → PySem.W.kitOne K (.ref (C i)) (.ref (C j)) = some (decide (j = i)) := fun i j hi hj => match i, hi with
    | 0, _ => kitB_ok kt0 j hj
    | 1, _ => kitB_ok kt1 j hj
    | 2, _ => kitB_ok kt2 j hj
    | 3, _ => kitB_ok kt3 j hj
    | 4, _ => kitB_ok kt4 j hj
    | 5, _ => kitB_ok kt5 j hj
    | 6, _ => kitB_ok kt6 j hj
    | 7, _ => kitB_ok kt7 j hj
    | 8, _ => kitB_ok kt8 j hj
    | 9, _ => kitB_ok kt9 j hj
    | 10, _ => kitB_ok kt10 j hj
    | 11, _ => kitB_ok kt11 j hj
    | 12, _ => kitB_ok kt12 j hj
    | 13, _ => kitB_ok kt13 j hj
    | 14, _ => kitB_ok kt14 j hj
    | 15, _ => kitB_ok kt15 j hj
    | 16, _ => kitB_ok kt16 j hj
    | 17, _ => kitB_ok kt17 j hj
    | n + 18, h => absurd h (by omega)
  have hC : ∀ j (h : j < 18), mg (nmC[j]'h) = some (.ref (C j)) := fun j hj => match j, hj with
    | 0, _ => PySem.W.mg_of X G a0
    | 1, _ => PySem.W.mg_of X G a1
    | 2, _ => PySem.W.mg_of X G a2
    | 3, _ => PySem.W.mg_of X G a3
    | 4, _ => PySem.W.mg_of X G a4
    | 5, _ => PySem.W.mg_of X G a5
    | 6, _ => PySem.W.mg_of X G a6
    | 7, _ => PySem.W.mg_of X G a7
    | 8, _ => PySem.W.mg_of X G a8
    | 9, _ => PySem.W.mg_of X G a9
    | 10, _ => PySem.W.mg_of X G a10
    | 11, _ => PySem.W.mg_of X G a11
    | 12, _ => PySem.W.mg_of X G a12
    | 13, _ => PySem.W.mg_of X G a13
    | 14, _ => PySem.W.mg_of X G a14
    | 15, _ => PySem.W.mg_of X G a15
    | 16, _ => PySem.W.mg_of X G a16
    | 17, _ => PySem.W.mg_of X G a17
    | n + 18, h => absurd h (by omega)
  have no : ∀ i, i < 18 → hasF i = true → PySem.W.findIn K (.ref (C i)) (fldN i) = some none := fun i hi hb => match i, hi, hb with
    | 0, _, _ => no0
    | 1, _, _ => no1
    | 2, _, _ => no2
    | 3, _, _ => no3
    | 4, _, _ => no4
    | 5, _, _ => no5
    | 6, _, _ => no6
    | 7, _, _ => no7
    | 8, _, _ => no8
    | 9, _, _ => no9
    | 11, _, _ => no11
    | 12, _, _ => no12
    | 13, _, _ => no13
    | 10, _, h => absurd h (by decide)
    | 14, _, h => absurd h (by decide)
    | 15, _, h => absurd h (by decide)
    | 16, _, h => absurd h (by decide)
    | 17, _, h => absurd h (by decide)
    | n + 18, h, _ => absurd h (by omega)
  have A : AllC K C ce := ⟨fun i hi => (ex i hi).ec, kt, fun i hi => (ex i hi).ve, fun i hi => (ex i hi).exm, fun i hi _ => ⟨(ex i hi).ec.hg, (ex i hi).ec.hk, (ex i hi).ec.hs, (ex i hi).ec.hd⟩, no⟩
  have eE := exB_ok xE
  have B : BaseC K C ce := ⟨eE.ec, fun j hj => (kitB_ok ktE j hj).trans (by rw [decide_eq_false (by omega)]), eE.ve, eE.exm⟩
  have F0 := fun_mk (st := sBag) l0 d0 k0
  have b0 := F0.binds (ps := ["_law_script"]) fun _ _ _ _ _ _ us hl => match us, hl with | [_], _ => rfl
  have F1 := fun_mk (st := sTake) l1 d1 k1
  have b1 := F1.binds (ps := ["_law_bag_here", "_law_many"]) fun _ _ _ _ _ _ us hl => match us, hl with | [_, _], _ => rfl
  have F2 := fun_mk (st := sOdd) l2 d2 k2
  have b2 := F2.binds (ps := ["_law_bag_here"]) fun _ _ _ _ _ _ us hl => match us, hl with | [_], _ => rfl
  have F3 := fun_mk (st := sRaised) l3 d3 k3
  have b3 := F3.binds (ps := ["_law_kind", "_law_thing"]) fun _ _ _ _ _ _ us hl => match us, hl with | [_, _], _ => rfl
  have F4 := fun_mk (st := sRaisedToo) l4 d4 k4
  have b4 := F4.binds (ps := ["_law_kind", "_law_thing"]) fun _ _ _ _ _ _ us hl => match us, hl with | [_, _], _ => rfl
  have F5 := fun_mk (st := sFlags) l5 d5 k5
  have b5 := F5.binds (ps := ["_law_e"]) fun _ _ _ _ _ _ us hl => match us, hl with | [_], _ => rfl
  have F6 := fun_mk (st := sField) l6 d6 k6
  have b6 := F6.binds (ps := ["_law_kind", "_law_e"]) fun _ _ _ _ _ _ us hl => match us, hl with | [_, _], _ => rfl
  have F7 := fun_mk (st := sRight) l7 d7 k7
  have b7 := F7.binds (ps := ["_law_kind", "_law_thing"]) fun _ _ _ _ _ _ us hl => match us, hl with | [_, _], _ => rfl
  have F8 := fun_mk (st := sBase) l8 d8 k8
  have b8 := F8.binds (ps := ["_law_things"]) fun _ _ _ _ _ _ us hl => match us, hl with | [_], _ => rfl
  have F9 := fun_mk (st := sLaw) l9 d9 k9
  have b9 := F9.binds (ps := ["_law_script"]) fun _ _ _ _ _ _ us hl => match us, hl with | [_], _ => rfl
  have F'0 := fun_mk (st := sI0) l'0 d'0 k'0
  have b'0 := F'0.binds (ps := ["self", "place"]) fun _ _ _ _ _ _ us hl => match us, hl with | [_, _], _ => rfl
  have O0 : OexC K c0 := ⟨⟨nm0, q0, N0, bs0, bm0, sn0, sub0, ab0, col0, dd0, m00, m10, m20, m30, m50, xL0, rv0⟩, (ex 0 (by decide)).sa, (ex 0 (by decide)).ec.hs, (ex 0 (by decide)).ty, (ex 0 (by decide)).kp⟩
  have F'1 := fun_mk (st := sI1) l'1 d'1 k'1
  have b'1 := F'1.binds (ps := ["self", "limit"]) fun _ _ _ _ _ _ us hl => match us, hl with | [_, _], _ => rfl
  have O1 : OexC K c1 := ⟨⟨nm1, q1, N1, bs1, bm1, sn1, sub1, ab1, col1, dd1, m01, m11, m21, m31, m51, xL1, rv1⟩, (ex 1 (by decide)).sa, (ex 1 (by decide)).ec.hs, (ex 1 (by decide)).ty, (ex 1 (by decide)).kp⟩
  have F'2 := fun_mk (st := sI2) l'2 d'2 k'2
  have b'2 := F'2.binds (ps := ["self", "limit"]) fun _ _ _ _ _ _ us hl => match us, hl with | [_, _], _ => rfl
  have O2 : OexC K c2 := ⟨⟨nm2, q2, N2, bs2, bm2, sn2, sub2, ab2, col2, dd2, m02, m12, m22, m32, m52, xL2, rv2⟩, (ex 2 (by decide)).sa, (ex 2 (by decide)).ec.hs, (ex 2 (by decide)).ty, (ex 2 (by decide)).kp⟩
  have F'3 := fun_mk (st := sI3) l'3 d'3 k'3
  have b'3 := F'3.binds (ps := ["self", "at"]) fun _ _ _ _ _ _ us hl => match us, hl with | [_, _], _ => rfl
  have O3 : OexC K c3 := ⟨⟨nm3, q3, N3, bs3, bm3, sn3, sub3, ab3, col3, dd3, m03, m13, m23, m33, m53, xL3, rv3⟩, (ex 3 (by decide)).sa, (ex 3 (by decide)).ec.hs, (ex 3 (by decide)).ty, (ex 3 (by decide)).kp⟩
  have F'4 := fun_mk (st := sI4) l'4 d'4 k'4
  have b'4 := F'4.binds (ps := ["self", "ident"]) fun _ _ _ _ _ _ us hl => match us, hl with | [_, _], _ => rfl
  have O4 : OexC K c4 := ⟨⟨nm4, q4, N4, bs4, bm4, sn4, sub4, ab4, col4, dd4, m04, m14, m24, m34, m54, xL4, rv4⟩, (ex 4 (by decide)).sa, (ex 4 (by decide)).ec.hs, (ex 4 (by decide)).ty, (ex 4 (by decide)).kp⟩
  have F'5 := fun_mk (st := sI5) l'5 d'5 k'5
  have b'5 := F'5.binds (ps := ["self", "ident"]) fun _ _ _ _ _ _ us hl => match us, hl with | [_, _], _ => rfl
  have O5 : OexC K c5 := ⟨⟨nm5, q5, N5, bs5, bm5, sn5, sub5, ab5, col5, dd5, m05, m15, m25, m35, m55, xL5, rv5⟩, (ex 5 (by decide)).sa, (ex 5 (by decide)).ec.hs, (ex 5 (by decide)).ty, (ex 5 (by decide)).kp⟩
  have F'6 := fun_mk (st := sI6) l'6 d'6 k'6
  have b'6 := F'6.binds (ps := ["self", "ident"]) fun _ _ _ _ _ _ us hl => match us, hl with | [_, _], _ => rfl
  have O6 : OexC K c6 := ⟨⟨nm6, q6, N6, bs6, bm6, sn6, sub6, ab6, col6, dd6, m06, m16, m26, m36, m56, xL6, rv6⟩, (ex 6 (by decide)).sa, (ex 6 (by decide)).ec.hs, (ex 6 (by decide)).ty, (ex 6 (by decide)).kp⟩
  have F'7 := fun_mk (st := sI7) l'7 d'7 k'7
  have b'7 := F'7.binds (ps := ["self", "address"]) fun _ _ _ _ _ _ us hl => match us, hl with | [_, _], _ => rfl
  have O7 : OexC K c7 := ⟨⟨nm7, q7, N7, bs7, bm7, sn7, sub7, ab7, col7, dd7, m07, m17, m27, m37, m57, xL7, rv7⟩, (ex 7 (by decide)).sa, (ex 7 (by decide)).ec.hs, (ex 7 (by decide)).ty, (ex 7 (by decide)).kp⟩
  have F'8 := fun_mk (st := sI8) l'8 d'8 k'8
  have b'8 := F'8.binds (ps := ["self", "handle"]) fun _ _ _ _ _ _ us hl => match us, hl with | [_, _], _ => rfl
  have O8 : OexC K c8 := ⟨⟨nm8, q8, N8, bs8, bm8, sn8, sub8, ab8, col8, dd8, m08, m18, m28, m38, m58, xL8, rv8⟩, (ex 8 (by decide)).sa, (ex 8 (by decide)).ec.hs, (ex 8 (by decide)).ty, (ex 8 (by decide)).kp⟩
  have F'9 := fun_mk (st := sI9) l'9 d'9 k'9
  have b'9 := F'9.binds (ps := ["self", "handle"]) fun _ _ _ _ _ _ us hl => match us, hl with | [_, _], _ => rfl
  have O9 : OexC K c9 := ⟨⟨nm9, q9, N9, bs9, bm9, sn9, sub9, ab9, col9, dd9, m09, m19, m29, m39, m59, xL9, rv9⟩, (ex 9 (by decide)).sa, (ex 9 (by decide)).ec.hs, (ex 9 (by decide)).ty, (ex 9 (by decide)).kp⟩
  have F'11 := fun_mk (st := sI11) l'11 d'11 k'11
  have b'11 := F'11.binds (ps := ["self", "address"]) fun _ _ _ _ _ _ us hl => match us, hl with | [_, _], _ => rfl
  have O11 : OexC K c11 := ⟨⟨nm11, q11, N11, bs11, bm11, sn11, sub11, ab11, col11, dd11, m011, m111, m211, m311, m511, xL11, rv11⟩, (ex 11 (by decide)).sa, (ex 11 (by decide)).ec.hs, (ex 11 (by decide)).ty, (ex 11 (by decide)).kp⟩
  have F'12 := fun_mk (st := sI12) l'12 d'12 k'12
  have b'12 := F'12.binds (ps := ["self", "rule"]) fun _ _ _ _ _ _ us hl => match us, hl with | [_, _], _ => rfl
  have O12 : OexC K c12 := ⟨⟨nm12, q12, N12, bs12, bm12, sn12, sub12, ab12, col12, dd12, m012, m112, m212, m312, m512, xL12, rv12⟩, (ex 12 (by decide)).sa, (ex 12 (by decide)).ec.hs, (ex 12 (by decide)).ty, (ex 12 (by decide)).kp⟩
  have F'13 := fun_mk (st := sI13) l'13 d'13 k'13
  have b'13 := F'13.binds (ps := ["self", "rule"]) fun _ _ _ _ _ _ us hl => match us, hl with | [_, _], _ => rfl
  have O13 : OexC K c13 := ⟨⟨nm13, q13, N13, bs13, bm13, sn13, sub13, ab13, col13, dd13, m013, m113, m213, m313, m513, xL13, rv13⟩, (ex 13 (by decide)).sa, (ex 13 (by decide)).ec.hs, (ex 13 (by decide)).ty, (ex 13 (by decide)).kp⟩
  have m0 : mg "_law_bag" = some (.ref f0) := PySem.W.mg_of X G n0
  have m1 : mg "_law_take" = some (.ref f1) := PySem.W.mg_of X G n1
  have m2 : mg "_law_odd" = some (.ref f2) := PySem.W.mg_of X G n2
  have m3 : mg "_law_raised" = some (.ref f3) := PySem.W.mg_of X G n3
  have m4 : mg "_law_raised_too" = some (.ref f4) := PySem.W.mg_of X G n4
  have m5 : mg "_law_flags" = some (.ref f5) := PySem.W.mg_of X G n5
  have m6 : mg "_law_field" = some (.ref f6) := PySem.W.mg_of X G n6
  have m7 : mg "_law_right" = some (.ref f7) := PySem.W.mg_of X G n7
  have m8 : mg "_law_base_right" = some (.ref f8) := PySem.W.mg_of X G n8
  have hN : ∀ i, (h : i < 18) → hasF i = false → NC K mg (nmC[i]'h) (C i) := fun i hi hb => match i, hi, hb with
    | 10, _, _ => ⟨PySem.W.mg_of X G a10, (ex 10 (by decide)).kp, (ex 10 (by decide)).ec.hs, (ex 10 (by decide)).ty, xi10⟩
    | 14, _, _ => ⟨PySem.W.mg_of X G a14, (ex 14 (by decide)).kp, (ex 14 (by decide)).ec.hs, (ex 14 (by decide)).ty, xi14⟩
    | 15, _, _ => ⟨PySem.W.mg_of X G a15, (ex 15 (by decide)).kp, (ex 15 (by decide)).ec.hs, (ex 15 (by decide)).ty, xi15⟩
    | 16, _, _ => ⟨PySem.W.mg_of X G a16, (ex 16 (by decide)).kp, (ex 16 (by decide)).ec.hs, (ex 16 (by decide)).ty, xi16⟩
    | 17, _, _ => ⟨PySem.W.mg_of X G a17, (ex 17 (by decide)).kp, (ex 17 (by decide)).ec.hs, (ex 17 (by decide)).ty, xi17⟩
    | 0, _, h => absurd h (by decide)
    | 1, _, h => absurd h (by decide)
    | 2, _, h => absurd h (by decide)
    | 3, _, h => absurd h (by decide)
    | 4, _, h => absurd h (by decide)
    | 5, _, h => absurd h (by decide)
    | 6, _, h => absurd h (by decide)
    | 7, _, h => absurd h (by decide)
    | 8, _, h => absurd h (by decide)
    | 9, _, h => absurd h (by decide)
    | 11, _, h => absurd h (by decide)
    | 12, _, h => absurd h (by decide)
    | 13, _, h => absurd h (by decide)
    | n + 18, h, _ => absurd h (by omega)
  have NE : NC K mg "CheckError" ce := ⟨PySem.W.mg_of X G aE, eE.kp, eE.ec.hs, eE.ty, xiE⟩
  have yabs : mg "abs" = none := PySem.W.mg_none_of X G zabs
  have yint : mg "int" = none := PySem.W.mg_none_of X G zint
  have yrange : mg "range" = none := PySem.W.mg_none_of X G zrange
  have yisinstance : mg "isinstance" = none := PySem.W.mg_none_of X G zisinstance
  have yValueError : mg "ValueError" = none := PySem.W.mg_none_of X G zValueError
  have ylen : mg "len" = none := PySem.W.mg_none_of X G zlen
  refine ⟨PySem.W.fnOf "law" "law" (defArgs sLaw) (defBody sLaw) (defScope sLaw) .none kV9 dc9 pm9 an9 cd9 ct9, fun s v => .of_eq rfl, fun base _ _ => ?_⟩
  have hF : ∀ i, (h : i < 18) → hasF i = true → FC P w K mg base (nmC[i]'h) (C i) (fldN i) := fun i hi hb => match i, hi, hb with
    | 0, _, _ => ⟨O0, PySem.W.mg_of X G a0, g0, _, i0, t'0, ok_ini0 F'0 O0 no0, b'0⟩
    | 1, _, _ => ⟨O1, PySem.W.mg_of X G a1, g1, _, i1, t'1, ok_ini1 F'1 O1 no1, b'1⟩
    | 2, _, _ => ⟨O2, PySem.W.mg_of X G a2, g2, _, i2, t'2, ok_ini2 F'2 O2 no2, b'2⟩
    | 3, _, _ => ⟨O3, PySem.W.mg_of X G a3, g3, _, i3, t'3, ok_ini3 F'3 O3 no3, b'3⟩
    | 4, _, _ => ⟨O4, PySem.W.mg_of X G a4, g4, _, i4, t'4, ok_ini4 F'4 O4 no4, b'4⟩
    | 5, _, _ => ⟨O5, PySem.W.mg_of X G a5, g5, _, i5, t'5, ok_ini5 F'5 O5 no5, b'5⟩
    | 6, _, _ => ⟨O6, PySem.W.mg_of X G a6, g6, _, i6, t'6, ok_ini6 F'6 O6 no6, b'6⟩
    | 7, _, _ => ⟨O7, PySem.W.mg_of X G a7, g7, _, i7, t'7, ok_ini7 F'7 O7 no7, b'7⟩
    | 8, _, _ => ⟨O8, PySem.W.mg_of X G a8, g8, _, i8, t'8, ok_ini8 F'8 O8 no8, b'8⟩
    | 9, _, _ => ⟨O9, PySem.W.mg_of X G a9, g9, _, i9, t'9, ok_ini9 F'9 O9 no9, b'9⟩
    | 11, _, _ => ⟨O11, PySem.W.mg_of X G a11, g11, _, i11, t'11, ok_ini11 F'11 O11 no11, b'11⟩
    | 12, _, _ => ⟨O12, PySem.W.mg_of X G a12, g12, _, i12, t'12, ok_ini12 F'12 O12 no12, b'12⟩
    | 13, _, _ => ⟨O13, PySem.W.mg_of X G a13, g13, _, i13, t'13, ok_ini13 F'13 O13 no13, b'13⟩
    | 10, _, h => absurd h (by decide)
    | 14, _, h => absurd h (by decide)
    | 15, _, h => absurd h (by decide)
    | 16, _, h => absurd h (by decide)
    | 17, _, h => absurd h (by decide)
    | n + 18, h, _ => absurd h (by omega)
  have GL : FnE P w K mg base CX0 1 f5 _ ["_law_e"] (spFlags K C) := ok_flags F5 yisinstance hC
  have GF : FnE P w K mg base CX0 1 f6 _ ["_law_kind", "_law_e"] (spField K) := ok_field F6
  have GR : FnOk P w K mg base (L2N.CX P w) 3 f3 _ ["_law_kind", "_law_thing"] (spRaised C) := ok_raised F3 hF
  have GT : FnOk P w K mg base (L2N.CX P w) 3 f4 _ ["_law_kind", "_law_thing"] (spRaisedToo C) := ok_raised_too F4 hF hN
  have Gr : FnOk P w K mg base CX0 4 f7 _ ["_law_kind", "_law_thing"] spRight := ok_right F7 A NE.g yisinstance yrange yValueError GR b3 m3 k3 GT b4 m4 k4 GL b5 m5 k5 GF b6 m6 k6
  have Gb : FnOk P w K mg base CX0 3 f8 _ ["_law_things"] spBase := ok_base F8 B NE yisinstance ylen yValueError GL b5 m5 k5
  have Gt : FnOk P w K mg base CX0 1 f1 _ ["_law_bag_here", "_law_many"] spTake := ok_take F1 yint
  have Go : FnOk P w K mg base CX0 2 f2 _ ["_law_bag_here"] spOdd := ok_odd F2 Gt b1 m1 k1 yrange
  have Gg : FnOk P w K mg base CX0 1 f0 _ ["_law_script"] (spBag K) := ok_bag F0 yabs
  exact ok_law F9 yrange Gg b0 m0 k0 Go b2 m2 k2 Gr b7 m7 k7 Gb b8 m8 k8
theorem walk {l : PySem.W.OpenLaw} {q : Program} {loose : List Str} {XP : (Str → Option Value) → Heap → Prop} {YP : World → Heap → Prop} {d : DefRec} {K : Params → PySem.W.Frag} (hn : l.most = some 63) (hdf : d.params.defaults = [])
    (hY : ∀ (w : World) (h : Heap), YP w h → (K w.params).In h)
    (F : ∀ (w : World) (mg : Str → Option Value) (fa : Addr) (h : Heap), (K w.params).In h → h.Ns mainGlobals mg → mg d.name = some (.ref fa) →
      ∃ fd : FuncData, (∀ (s : Shared) (u : Value), BindsTo s fd ⟨[u], []⟩ [("_law_script", u)]) ∧ ∀ base : Heap, (K w.params).In base → base.Ns mainGlobals mg → FnOk l.prog w (K w.params) mg base CX0 5 fa fd ["_law_script"] (spLaw (K w.params))) :
    PySem.W.WalkO q loose XP YP l.row.toRowW d [] (fun f vs => PySem.call f vs) :=
  L2.walk_of (n := 63) (k := 5) (x := "_law_script") (CX := fun _ => CX0) (sp := fun w => spLaw (K w.params)) hn (by decide) hdf ⟨rfl, by decide, by decide⟩ hY F (fun _ _ a ns hl _ hS => ⟨a, ns, rfl, hS, hl, fun _ => rfl⟩) fun _ _ _ _ _ z => z
end E

set_option Elab.async false
set_option linter.all false
set_option maxRecDepth 100000
open PySem PySem.W PyProof.Rows in
set_option maxRecDepth 100000 in
set_option maxHeartbeats 0 in
theorem PySem.Challenge.cw_endchecks_k10_errors_holds : PySem.Challenge.rw_endchecks_k10_errors.Holds := by
  w_on; o_law; k_head; (case hw => w_witness2)
  k_fill
  refine E.walk (l := PySem.Challenge.rw_endchecks_k10_errors) rfl rfl (fun w h Y => PySem.W.kIn_of Y) ?F
  case F =>
    intro w mg fa h KX G hmg
    refine' E.all_mk KX G hmg ?aE ?a0 ?a1 ?a2 ?a3 ?a4 ?a5 ?a6 ?a7 ?a8 ?a9 ?a10 ?a11 ?a12 ?a13 ?a14 ?a15 ?a16 ?a17 ?n0 ?l0 ?d0 ?k0 ?n1 ?l1 ?d1 ?k1 ?n2 ?l2 ?d2 ?k2 ?n3 ?l3 ?d3 ?k3 ?n4 ?l4 ?d4 ?k4 ?n5 ?l5 ?d5 ?k5 ?n6 ?l6 ?d6 ?k6 ?n7 ?l7 ?d7 ?k7 ?n8 ?l8 ?d8 ?k8 ?n9 ?l9 ?d9 ?k9 ?xL0 ?i0 ?l'0 ?d'0 ?k'0 ?t'0 ?no0 ?rv0 ?xL1 ?i1 ?l'1 ?d'1 ?k'1 ?t'1 ?no1 ?rv1 ?xL2 ?i2 ?l'2 ?d'2 ?k'2 ?t'2 ?no2 ?rv2 ?xL3 ?i3 ?l'3 ?d'3 ?k'3 ?t'3 ?no3 ?rv3 ?xL4 ?i4 ?l'4 ?d'4 ?k'4 ?t'4 ?no4 ?rv4 ?xL5 ?i5 ?l'5 ?d'5 ?k'5 ?t'5 ?no5 ?rv5 ?xL6 ?i6 ?l'6 ?d'6 ?k'6 ?t'6 ?no6 ?rv6 ?xL7 ?i7 ?l'7 ?d'7 ?k'7 ?t'7 ?no7 ?rv7 ?xL8 ?i8 ?l'8 ?d'8 ?k'8 ?t'8 ?no8 ?rv8 ?xL9 ?i9 ?l'9 ?d'9 ?k'9 ?t'9 ?no9 ?rv9 ?xL11 ?i11 ?l'11 ?d'11 ?k'11 ?t'11 ?no11 ?rv11 ?xL12 ?i12 ?l'12 ?d'12 ?k'12 ?t'12 ?no12 ?rv12 ?xL13 ?i13 ?l'13 ?d'13 ?k'13 ?t'13 ?no13 ?rv13 ?xi10 ?xi14 ?xi15 ?xi16 ?xi17 ?xiE ?zabs ?zint ?zrange ?zisinstance ?zValueError ?zlen ?x0 ?x1 ?x2 ?x3 ?x4 ?x5 ?x6 ?x7 ?x8 ?x9 ?x10 ?x11 ?x12 ?x13 ?x14 ?x15 ?x16 ?x17 ?xE ?kt0 ?kt1 ?kt2 ?kt3 ?kt4 ?kt5 ?kt6 ?kt7 ?kt8 ?kt9 ?kt10 ?kt11 ?kt12 ?kt13 ?kt14 ?kt15 ?kt16 ?kt17 ?ktE
    (case aE => k_is)
    (case a0 => k_is)
    (case a1 => k_is)
    (case a2 => k_is)
    (case a3 => k_is)
    (case a4 => k_is)
    (case a5 => k_is)
    (case a6 => k_is)
    (case a7 => k_is)
    (case a8 => k_is)
    (case a9 => k_is)
    (case a10 => k_is)
    (case a11 => k_is)
    (case a12 => k_is)
    (case a13 => k_is)
    (case a14 => k_is)
    (case a15 => k_is)
    (case a16 => k_is)
    (case a17 => k_is)
    (case n0 => k_is)
    (case l0 => k_is)
    (case d0 => k_is)
    (case k0 => k_is)
    (case n1 => k_is)
    (case l1 => k_is)
    (case d1 => k_is)
    (case k1 => k_is)
    (case n2 => k_is)
    (case l2 => k_is)
    (case d2 => k_is)
    (case k2 => k_is)
    (case n3 => k_is)
    (case l3 => k_is)
    (case d3 => k_is)
    (case k3 => k_is)
    (case n4 => k_is)
    (case l4 => k_is)
    (case d4 => k_is)
    (case k4 => k_is)
    (case n5 => k_is)
    (case l5 => k_is)
    (case d5 => k_is)
    (case k5 => k_is)
    (case n6 => k_is)
    (case l6 => k_is)
    (case d6 => k_is)
    (case k6 => k_is)
    (case n7 => k_is)
    (case l7 => k_is)
    (case d7 => k_is)
    (case k7 => k_is)
    (case n8 => k_is)
    (case l8 => k_is)
    (case d8 => k_is)
    (case k8 => k_is)
    (case n9 => k_is)
    (case l9 => k_is)
    (case d9 => k_is)
    (case k9 => k_is)
    (case xL0 => k_is)
    (case i0 => k_is)
    (case l'0 => k_is)
    (case d'0 => k_is)
    (case k'0 => k_is)
    (case t'0 => k_is)
    (case no0 => k_is)
    (case rv0 => kernel_rfl)
    (case xL1 => k_is)
    (case i1 => k_is)
    (case l'1 => k_is)
    (case d'1 => k_is)
    (case k'1 => k_is)
    (case t'1 => k_is)
    (case no1 => k_is)
    (case rv1 => kernel_rfl)
    (case xL2 => k_is)
    (case i2 => k_is)
    (case l'2 => k_is)
    (case d'2 => k_is)
    (case k'2 => k_is)
    (case t'2 => k_is)
    (case no2 => k_is)
    (case rv2 => kernel_rfl)
    (case xL3 => k_is)
    (case i3 => k_is)
    (case l'3 => k_is)
    (case d'3 => k_is)
    (case k'3 => k_is)
    (case t'3 => k_is)
    (case no3 => k_is)
    (case rv3 => kernel_rfl)
    (case xL4 => k_is)
    (case i4 => k_is)
    (case l'4 => k_is)
    (case d'4 => k_is)
    (case k'4 => k_is)
    (case t'4 => k_is)
    (case no4 => k_is)
    (case rv4 => kernel_rfl)
    (case xL5 => k_is)
    (case i5 => k_is)
    (case l'5 => k_is)
    (case d'5 => k_is)
    (case k'5 => k_is)
    (case t'5 => k_is)
    (case no5 => k_is)
    (case rv5 => kernel_rfl)
    (case xL6 => k_is)
    (case i6 => k_is)
    (case l'6 => k_is)
    (case d'6 => k_is)
    (case k'6 => k_is)
    (case t'6 => k_is)
    (case no6 => k_is)
    (case rv6 => kernel_rfl)
    (case xL7 => k_is)
    (case i7 => k_is)
    (case l'7 => k_is)
    (case d'7 => k_is)
    (case k'7 => k_is)
    (case t'7 => k_is)
    (case no7 => k_is)
    (case rv7 => kernel_rfl)
    (case xL8 => k_is)
    (case i8 => k_is)
    (case l'8 => k_is)
    (case d'8 => k_is)
    (case k'8 => k_is)
    (case t'8 => k_is)
    (case no8 => k_is)
    (case rv8 => kernel_rfl)
    (case xL9 => k_is)
    (case i9 => k_is)
    (case l'9 => k_is)
    (case d'9 => k_is)
    (case k'9 => k_is)
    (case t'9 => k_is)
    (case no9 => k_is)
    (case rv9 => kernel_rfl)
    (case xL11 => k_is)
    (case i11 => k_is)
    (case l'11 => k_is)
    (case d'11 => k_is)
    (case k'11 => k_is)
    (case t'11 => k_is)
    (case no11 => k_is)
    (case rv11 => kernel_rfl)
    (case xL12 => k_is)
    (case i12 => k_is)
    (case l'12 => k_is)
    (case d'12 => k_is)
    (case k'12 => k_is)
    (case t'12 => k_is)
    (case no12 => k_is)
    (case rv12 => kernel_rfl)
    (case xL13 => k_is)
    (case i13 => k_is)
    (case l'13 => k_is)
    (case d'13 => k_is)
    (case k'13 => k_is)
    (case t'13 => k_is)
    (case no13 => k_is)
    (case rv13 => kernel_rfl)
    (case xi10 => kernel_rfl)
    (case xi14 => kernel_rfl)
    (case xi15 => kernel_rfl)
    (case xi16 => kernel_rfl)
    (case xi17 => kernel_rfl)
    (case xiE => kernel_rfl)
    (case zabs => k_is)
    (case zint => k_is)
    (case zrange => k_is)
    (case zisinstance => k_is)
    (case zValueError => k_is)
    (case zlen => k_is)
    (case x0 => kernel_rfl)
    (case x1 => kernel_rfl)
    (case x2 => kernel_rfl)
    (case x3 => kernel_rfl)
    (case x4 => kernel_rfl)
    (case x5 => kernel_rfl)
    (case x6 => kernel_rfl)
    (case x7 => kernel_rfl)
    (case x8 => kernel_rfl)
    (case x9 => kernel_rfl)
    (case x10 => kernel_rfl)
    (case x11 => kernel_rfl)
    (case x12 => kernel_rfl)
    (case x13 => kernel_rfl)
    (case x14 => kernel_rfl)
    (case x15 => kernel_rfl)
    (case x16 => kernel_rfl)
    (case x17 => kernel_rfl)
    (case xE => kernel_rfl)
    (case kt0 => kernel_rfl)
    (case kt1 => kernel_rfl)
    (case kt2 => kernel_rfl)
    (case kt3 => kernel_rfl)
    (case kt4 => kernel_rfl)
    (case kt5 => kernel_rfl)
    (case kt6 => kernel_rfl)
    (case kt7 => kernel_rfl)
    (case kt8 => kernel_rfl)
    (case kt9 => kernel_rfl)
    (case kt10 => kernel_rfl)
    (case kt11 => kernel_rfl)
    (case kt12 => kernel_rfl)
    (case kt13 => kernel_rfl)
    (case kt14 => kernel_rfl)
    (case kt15 => kernel_rfl)
    (case kt16 => kernel_rfl)
    (case kt17 => kernel_rfl)
    (case ktE => kernel_rfl)
#print axioms PySem.Challenge.cw_endchecks_k10_errors_holds

