import PyProof.Rows.All
import Wide.All
import OpenK.AllK
import Wide.FinOn
import HandS.ForMost
import HandS.Flow
import HandS.Exc
import PyProof.ReprRoads
import HandS.Set
import HandS.SetBool
import HandS.SetFor
import HandS.Strs
import PyProof.Rows.SortShellAny
import PyProof.Rows.StrMeet
import HandS.Evl
import HandS.Walk
import HandS.StrMore
import HandS.DictComp
import HandS.ListEq
import HandS.Style
import HandS.TupLe
import PyProof.ReprBulk
import PySem.Challenge.RW_endchecks_k13_tests_met
set_option Elab.async false
set_option linter.all false
set_option maxRecDepth 100000
set_option maxHeartbeats 4000000
namespace EG
open PySem PySem.Spec PyProof.Rows L2
/-- a def's promise where no repr is under way -/
structure FnG (P : Program) (w : World) (K : PySem.W.Frag) (mg : Str → Option Value) (base : Heap)
    (CX : CXT) (k : Nat) (f : Addr) (fd : FuncData) (ps : List Str) (sp : Sp) : Prop where
  len : ∀ vs H Q E, sp vs H Q E → vs.length = ps.length
  run : ∀ (A : Around) (out : List Env) (s : Shared) (H : Hp) (ar : Args) (us : List Value) (vs : List V) (Q : VK) (E : XK),
    A.guards = some [] → Room k A → Env0 P w K mg base A out s H → BindsTo s fd ar (ps.zip us) → Vals vs us →
    sp vs H Q E → codeAny (model P w) A (.call (.ref f) ar) (CR CX out P w H s Q E) s
section
variable {CX : CXT} {P : Program} {w : World} {K : PySem.W.Frag} {mg : Str → Option Value} {base : Heap} {k : Nat} {f : Addr}
theorem FnG.mono {j : Nat} {fd : FuncData} {ps : List Str} {sp : Sp} (F : FnG P w K mg base CX j f fd ps sp) (h : j ≤ k) :
    FnG P w K mg base CX k f fd ps sp :=
  ⟨F.len, fun A o s H ar us vs Q E g r => F.run A o s H ar us vs Q E g (r.mono h)⟩
theorem FnG.of {fd : FuncData} {ps : List Str} {sp : Sp} (F : FnOk P w K mg base CX k f fd ps sp) :
    FnG P w K mg base CX k f fd ps sp :=
  ⟨F.len, fun A o s H ar us vs Q E _ r => F.run A o s H ar us vs Q E r⟩
theorem gd_deeper {A : Around} {env : Env} (g : A.guards = some []) : (A.deeper env).guards = some [] := g
theorem fn_ofG {nm qn : Str} {prm : Arguments} {bd : List Stmt} {sc : Scope} {dV kV doc pm cdv ct oc : Value} {an od : Option Addr}
    {osl : Array (Option Value)} {N ps : List Str} {sp : Sp}
    (lk : K.lookup f = some ⟨oc, od, .func (PySem.W.fnOf nm qn prm bd sc dV kV doc pm an cdv ct), osl⟩)
    (hcd : PySem.W.codeIn K cdv qn = true) (S : FnScope N ps sc) (len : ∀ vs H Q E, sp vs H Q E → vs.length = ps.length)
    (hb : ∀ (A : Around) (out : List Env) (s : Shared) (H : Hp) (vs : List V) (Q : VK) (E : XK), A.guards = some [] →
      Room k (A.deeper (envOfC qn sc s.heap.objs.size f cdv)) → sp vs H Q E →
      ∃ t, PSs (cxOf CX P w K mg base N qn sc f cdv A out s H E) bd t ∧ t { nx := fun _ H' => Q .non H', rt := Q } (start N vs) H) :
    FnG P w K mg base CX (k + 1) f (PySem.W.fnOf nm qn prm bd sc dV kV doc pm an cdv ct) ps sp := by
  refine ⟨len, fun A out s H ar us vs Q E hg hr e0 bnd rv hsp => ?_⟩
  -- the promise of this one A: by fn_of over a promise that knows A is not wanted; the run is laid out anew
  have ln := len _ _ _ _ hsp
  have kx : K.In s.heap := e0.mod.kin.keeps fun b o z => (e0.bs b o z).1
  have nl : s.heap.NoLimit := e0.mod.nolimit.keeps fun b o z => (e0.bs b o z).1
  have kd : ∀ y ∈ ps.zip us, sc.names.lookup y.1 = some .local ∨
      (sc.names.lookup y.1 = some .cell ∧ ((cellsFrom (s.heap.objs.size + 1) sc.names []).lookup y.1).isSome = true) := by
    rintro ⟨n, v⟩ hy
    cases S.par n (List.of_mem_zip hy).1 with
    | inl q => exact Or.inl q
    | inr q => exact Or.inr ⟨q, PySem.W.cellsFrom_some _ _ _ (Or.inl q)⟩
  refine codeAny_call_function hr.depth (kx _ _ lk) rfl S.co S.gen rfl (PySem.W.codeRec_of kx hcd) (bnd _ _ _ _ ?_)
  refine wpAny_newFunctionEnv_cells S.kind kd fun env he s1 x => ?_
  subst he
  refine ⟨nl.keeps x.toInCall.keep, codeAny_func ?_⟩
  obtain ⟨t, ht, tq⟩ := hb A out s H vs Q E hg (hr.deeper _) hsp
  have I : Inv (cxOf CX P w K mg base N qn sc f cdv A out s H E) [] (start N vs) H s1 := inv_start S hr.hd e0 ln rv x
  refine wpAny_mono (ht.run [] s1 (start N vs) H _ I tq) (fun fl s' z => ?_) fun _ _ z => z
  cases fl with
  | ret u =>
    obtain ⟨v, σ', H', J, r, q⟩ := z
    exact (⟨v, H', J.os, J.bare, J.base, J.hok, r, q⟩ : CE out P w H s Q u s')
  | next =>
    obtain ⟨σ', H', J, q⟩ := z
    exact (⟨V.non, H', J.os, J.bare, J.base, J.hok, rfl, q⟩ : CE out P w H s Q Value.none s')
  | brk =>
    obtain ⟨_, _, _, q⟩ := z
    exact q.elim
  | cont =>
    obtain ⟨_, _, _, q⟩ := z
    exact q.elim
theorem okG {x qn : Str} {st : Stmt} {fd : FuncData} {N ps : List Str} {sp : Sp} (F : Fun K x qn st f fd) (S : FnScope N ps (defScope st))
    (len : ∀ vs H Q E, sp vs H Q E → vs.length = ps.length)
    (hb : ∀ (cdv : Value) (A : Around) (out : List Env) (s : Shared) (H : Hp) (vs : List V) (Q : VK) (E : XK), A.guards = some [] →
      Room k (A.deeper (envOfC qn (defScope st) s.heap.objs.size f cdv)) → sp vs H Q E →
      ∃ t, PSs (cxOf CX0 P w K mg base N qn (defScope st) f cdv A out s H E).nox (defBody st) t ∧
        t { nx := fun _ H' => Q .non H', rt := Q } (start N vs) H) : FnG P w K mg base CX0 (k + 1) f fd ps sp := by
  obtain ⟨oc, od, kV, doc, pm, an, cdv, ct, osl, rfl, lk, hc⟩ := F.ex
  refine fn_ofG lk hc S len fun A out s H vs Q E hg hr h => ?_
  obtain ⟨t, h1, h2⟩ := hb cdv A out s H vs Q E hg hr h
  exact ⟨t, h1.nox, h2⟩
end
section
variable {X : Cx} {CX : CXT} {k : Nat} {f : Addr} {fd : FuncData} {ps : List Str} {sp : Sp} {E : XK} {x : Str} {p pos : Pos} {e : Expr} {es : List Expr} {t : TA} {ds : List Value} {dvs : List V}
theorem run_fnG {pins : List (Addr × Obj)} {σ : L2.St} {H : Hp} {s : Shared} {Q : VK} {us : List Value} {vs : List V} (F : FnG X.prog X.w X.K X.mg X.base CX k f fd ps sp)
    (gd : X.A.guards = some []) (hr : Room k X.A) (hb : Binds X.K fd ps ds) (hd : Vals dvs ds) (hx : Passes CX X E)
    (I : Inv X pins σ H s) (r : Vals vs us) (h : sp (vs ++ dvs) H Q E) : wpAny (model X.prog X.w) X.A (call (.ref f) us) (EP X pins σ Q) X.xe s := by
  have rr : Vals (vs ++ dvs) (us ++ ds) := r.append hd
  have ln : (us ++ ds).length = ps.length := rr.length.symm.trans (F.len _ _ _ _ h)
  refine wpAny_call (codeAny_mono (F.run X.A X.stack s H ⟨us, []⟩ _ _ Q E gd hr I.env0 (hb s us I.kIn ln) rr h) fun z s' hq => ?_)
  cases z with
  | error er => exact hx pins σ H s er s' I hq
  | ok fl =>
    cases fl with
    | ret u => exact I.after hq
    | next => exact hq.elim
    | brk => exact hq.elim
    | cont => exact hq.elim
theorem pe_callG (F : FnG X.prog X.w X.K X.mg X.base CX k f fd ps sp) (gd : X.A.guards = some []) (hr : Room k X.A) (hg : Gl X x) (hm : X.mg x = some (.ref f))
    (hk : PySem.W.keepIn X.K (.ref f) = true) (hb : Binds X.K fd ps ds) (hd : Vals dvs ds) (hx : Passes CX X E) (ha : PA X (e :: es) t)
    (hdb : (x == ("__debug__" : Str)) = false := by decide) (he : starEach (e :: es) X.env = (false, eval e X.env) :: starEach es X.env := by rfl)
    (hpl : (backTo pos (starEach es X.env)).any (·.1) = false := by rfl) : PE X (.Call (.Name x p) (e :: es) [] pos) (tCall sp dvs E t) :=
  ⟨fun pins s σ H Q I h => wpAny_Call_Name_kw (ld_glob I hg hm (PySem.W.callWith_K (h₀ := X.base) I.ok.mod.kin hk
    (thn (ha.run pos pins s σ H _ I h) fun us s1 ⟨vs, H1, I1, r, q⟩ => ⟨I1.kIn, run_fnG F gd hr hb hd hx I1 r q⟩) he hpl) hdb)⟩
end
/-! ### the end: the law's def called at the claim's caller -/
theorem law_callG {P : Program} {w : World} {K : PySem.W.Frag} {mg mb : Str → Option Value} {CX : CXT} {k : Nat} {fa a : Addr} {fd : FuncData} {x : Str} {sp : Sp}
    {s1 : Shared} {vs : List Value} {ns : List Int} (KX : K.In s1.heap) (hns : s1.heap.Ns mainGlobals mg) (hb : s1.heap.Ns builtinsNs mb)
    (hbb : ∀ y : Str, y ≠ "__name__" → mb y = bootBuiltins y) (hlim : s1.heap.NoLimit) (hg : s1.gens = #[])
    (ha : s1.heap.get? a = some { cls := .type "list", data := .seq vs.toArray }) (hi : IntsAre vs ns) (hl : ns.length ≤ sizeLine) (hr : Room k callerA)
    (F : ∀ base : Heap, K.In base → base.Ns mainGlobals mg → FnG P w K mg base CX k fa fd [x] sp)
    (hbd : ∀ (s : Shared) (u : Value), BindsTo s fd ⟨[u], []⟩ [(x, u)])
    (hsp : ∀ H : Hp, Only H → SqL K H a (ns.map V.int) → sp [.ref a] H (fun v _ => v = .bl true) fun _ _ _ => False)
    (hCX : ∀ H e s', CX [] H s1 (fun _ _ _ => False) e s' → False) :
    codeAny (model P w) callerA (.call (.ref fa) ⟨[.ref a], []⟩)
      (fun r s' => r = .ok (.ret (.bool true)) ∧ OldK s1.heap s'.heap ∧ s'.os = s1.os ∧ AllBare s'.gens) s1 := by
  have rv := vals_ints hi
  have lv := hi.length
  have main : ∀ H : Hp, Only H → SqL K H a (ns.map V.int) → HOk P w H s1.heap → (∀ b, H b ≠ none → b = a) → (H a ≠ none → K.lookup a = none) →
      codeAny (model P w) callerA (.call (.ref fa) ⟨[.ref a], []⟩)
        (fun r s' => r = .ok (.ret (.bool true)) ∧ OldK s1.heap s'.heap ∧ s'.os = s1.os ∧ AllBare s'.gens) s1 := by
    intro H only sq hok onlyA freeK
    have isA : ∀ {b : Addr} {u : HO}, H b = some u → b = a := fun {b u} q => onlyA b (by rw [q]; exact Option.some_ne_none u)
    have hid : ∀ {b : Addr} {o : Obj}, s1.heap.get? b = some o → H b = none → (hidT s1.heap H).get? b = some o := fun z n => hidT_get z n
    have nod : ∀ {b : Addr} {o : Obj} {es : Array DictEntry} {ep : Nat}, s1.heap.get? b = some o → o.data = .dict es ep → H b = none := by
      intro b o es ep z d
      cases q : H b with
      | none => rfl
      | some u =>
        have eb := isA q
        subst eb
        rw [ha] at z
        cases z
        exact Data.noConfusion (show Data.seq vs.toArray _ = Data.dict es ep from d)
    have ns' : ∀ {b : Addr} {m : Str → Option Value}, s1.heap.Ns b m → (hidT s1.heap H).Ns b m := by
      rintro b m ⟨o, es, ep, z, d, r⟩
      exact ⟨o, es, ep, hid z (nod z d), d, r⟩
    have kb : K.In (hidT s1.heap H) := by
      intro b o z
      refine hid (KX b o z) ?_
      cases q : H b with
      | none => rfl
      | some u =>
        have eb := isA q
        subst eb
        rw [freeK (by rw [q]; exact Option.some_ne_none u)] at z
        cases z
    obtain ⟨mc, c1, c2⟩ := hlim
    have md : Mod K mg (hidT s1.heap H) := ⟨kb, ns' hns, ⟨mb, ns' hb, hbb⟩, ⟨mc, ns' c1, c2⟩⟩
    have e0 : Env0 P w K mg (hidT s1.heap H) callerA [] s1 H :=
      ⟨rfl, md, fun b o z => of_hidT z, Nat.le_of_eq (hidT_size _ _), trivial, fun b z => absurd (show b ∈ ([] : List Addr) from z) List.not_mem_nil, hok, .of_eq hg⟩
    refine codeAny_mono ((F _ kb (ns' hns)).run callerA [] s1 H ⟨[.ref a], []⟩ [.ref a] [.ref a] _ _ rfl hr e0 (hbd s1 (.ref a)) (.cons rfl .nil) (hsp H only sq)) fun r s' h => ?_
    cases r with
    | error e => exact (hCX H e s' h).elim
    | ok fl =>
      cases fl with
      | next => exact h.elim
      | brk => exact h.elim
      | cont => exact h.elim
      | ret u =>
        obtain ⟨v, H', eos, bare, un, hok', r', qv⟩ := h
        have qv' : v = .bl true := qv
        subst qv'
        obtain rfl : u = Value.bool true := r'
        refine ⟨rfl, OldK.of_keep fun b o z => ?_, eos, bare⟩
        cases q : H b with
        | none => exact un.keep b o z q (fun y => absurd (show b ∈ ([] : List Addr) from y) List.not_mem_nil) List.not_mem_nil
        | some u =>
          rcases only b with y | ⟨ob, xs, y⟩
          · rw [q] at y
            cases y
          · have y1 := (hok b _ y).1
            have y2 := (hok' b _ (un.frzs b ob _ y)).1
            rw [z] at y1
            cases y1
            exact y2
  cases hk : K.lookup a with
  | some o =>
    have z := KX a o hk
    rw [ha] at z
    cases z
    refine main (fun _ => none) (fun _ => Or.inl rfl) (Or.inr ⟨_, vs.toArray, _, hk, rfl, rfl, rfl, ?_, by simpa using rv⟩) ?_ (fun b y => absurd rfl y) fun y => absurd rfl y
    · rw [List.size_toArray, lv]
      exact hl
    · intro b u y
      have y' : (none : Option HO) = some u := y
      cases y'
  | none =>
    refine main (fun b => if b = a then some (.frz { cls := .type "list", data := .seq vs.toArray } (.lst (ns.map V.int))) else none) ?_
      (Or.inl (Or.inr ⟨{ cls := .type "list", data := .seq vs.toArray }, if_pos rfl⟩)) ?_ ?_ fun _ => hk
    · intro b
      by_cases c : b = a
      · exact Or.inr ⟨_, _, if_pos c⟩
      · exact Or.inl (if_neg c)
    · intro b u y
      by_cases c : b = a
      · have y' := (if_pos c).symm.trans y
        cases y'
        subst c
        exact ⟨ha, by rw [List.length_map]; exact hl, vs, _, rv, ha⟩
      · have y' := (if_neg c).symm.trans y
        cases y'
    · intro b y
      by_cases c : b = a
      · exact c
      · exact absurd (if_neg c) y
theorem walk_ofG {l : PySem.W.OpenLaw} {n k : Nat} {q : Program} {loose : List Str} {XP : (Str → Option Value) → Heap → Prop} {YP : World → Heap → Prop} {d : DefRec}
    {K : Params → PySem.W.Frag} {CX : World → CXT} {sp : World → Sp} {x : Str} (hn : l.most = some n) (hn2 : n ≤ sizeLine) (hdf : d.params.defaults = []) (hr : Room k callerA)
    (hY : ∀ (w : World) (h : Heap), YP w h → (K w.params).In h)
    (F : ∀ (w : World) (mg : Str → Option Value) (fa : Addr) (h : Heap), (K w.params).In h → h.Ns mainGlobals mg → mg d.name = some (.ref fa) →
      ∃ fd : FuncData, (∀ (s : Shared) (u : Value), BindsTo s fd ⟨[u], []⟩ [(x, u)]) ∧
        ∀ base : Heap, (K w.params).In base → base.Ns mainGlobals mg → FnG l.prog w (K w.params) mg base (CX w) k fa fd [x] (sp w))
    (hsp : ∀ (w : World) (H : Hp) (a : Addr) (ns : List Int), ns.length ≤ n → Only H → SqL (K w.params) H a (ns.map V.int) →
      sp w [.ref a] H (fun v _ => v = .bl true) fun _ _ _ => False)
    (hCX : ∀ (w : World) (H : Hp) (s : Shared) (e : Value) (s' : Shared), CX w [] H s (fun _ _ _ => False) e s' → False) :
    PySem.W.WalkO q loose XP YP l.row.toRowW d [] (fun f vs => PySem.call f vs) := by
  refine Att.attach_call hn hdf fun w s0 s1 mg mb fa o pm cd doc a vs ns G Y ho hd hcd hmg hobj hints hlen hg => ?_
  have KX := hY w _ Y
  obtain ⟨fd, bd, hF⟩ := F w mg fa _ KX G.T.g hmg
  exact law_callG KX G.T.g G.T.b G.T.builtins G.T.nolimit hg hobj hints (Nat.le_trans hlen hn2) hr hF bd (fun H hO hS => hsp w H a ns hlen hO hS) fun H e s' => hCX w H s1 e s'
end EG

set_option Elab.async false
set_option linter.all false
set_option maxRecDepth 100000
set_option maxHeartbeats 4000000
namespace EG
open PySem PySem.Spec PyProof.Rows L2
/-! ### data in the heap: none, truths, ints, texts, lists, tuples, dicts by ints and texts -/
def keyD : Key → PyData
  | .inl i => .int i
  | .inr x => .str x
mutual
inductive Dt (K : PySem.W.Frag) (H : Hp) : V → PyData → Prop
  | non : Dt K H .non .none
  | bl (b : Bool) : Dt K H (.bl b) (.bool b)
  | int (i : Int) : Dt K H (.int i) (.int i)
  | str (x : Str) : Dt K H (.str x) (.str x)
  | lst {a : Addr} {xs : List V} {ds : List PyData} : SqL K H a xs → DtAll K H xs ds → Dt K H (.ref a) (.list ds)
  | tup {a : Addr} {xs : List V} {ds : List PyData} : SqT K H a xs → DtAll K H xs ds → Dt K H (.ref a) (.tuple ds)
  | dct {a : Addr} {kvs : List (Key × V)} {es : List (PyData × PyData)} : Rd H a (.dK kvs) → kvs.map (fun p => keyD p.1) = es.map (·.1) →
      DtAll K H (kvs.map (·.2)) (es.map (·.2)) → Dt K H (.ref a) (.dict es)
inductive DtAll (K : PySem.W.Frag) (H : Hp) : List V → List PyData → Prop
  | nil : DtAll K H [] []
  | cons {v : V} {vs : List V} {d : PyData} {ds : List PyData} : Dt K H v d → DtAll K H vs ds → DtAll K H (v :: vs) (d :: ds)
end
theorem sq_t {K : PySem.W.Frag} {H H' : Hp} {a : Addr} {xs : List V} (e : Same H H') (h : SqT K H a xs) : SqT K H' a xs := by
  rcases h with (h | ⟨o, h⟩) | h
  · exact Or.inl (Or.inl (e _ _ h))
  · exact Or.inl (Or.inr ⟨o, e _ _ h⟩)
  · exact Or.inr h
theorem rd_mono {H H' : Hp} {a : Addr} {u : HO} (e : Same H H') (h : Rd H a u) : Rd H' a u := by
  rcases h with h | ⟨o, h⟩
  · exact Or.inl (e _ _ h)
  · exact Or.inr ⟨o, e _ _ h⟩
mutual
theorem Dt.mono {K : PySem.W.Frag} {H H' : Hp} (e : Same H H') : ∀ {v : V} {d : PyData}, Dt K H v d → Dt K H' v d
  | _, _, .non => .non
  | _, _, .bl b => .bl b
  | _, _, .int i => .int i
  | _, _, .str x => .str x
  | _, _, .lst h1 h2 => .lst (e.seq h1) (DtAll.mono e h2)
  | _, _, .tup h1 h2 => .tup (sq_t e h1) (DtAll.mono e h2)
  | _, _, .dct h1 h2 h3 => .dct (rd_mono e h1) h2 (DtAll.mono e h3)
theorem DtAll.mono {K : PySem.W.Frag} {H H' : Hp} (e : Same H H') : ∀ {vs : List V} {ds : List PyData}, DtAll K H vs ds → DtAll K H' vs ds
  | _, _, .nil => .nil
  | _, _, .cons h1 h2 => .cons (Dt.mono e h1) (DtAll.mono e h2)
end
theorem DtAll.len {K : PySem.W.Frag} {H : Hp} : ∀ {vs : List V} {ds : List PyData}, DtAll K H vs ds → vs.length = ds.length
  | _, _, .nil => rfl
  | _, _, .cons _ h2 => congrArg (· + 1) (DtAll.len h2)
theorem DtAll.at {K : PySem.W.Frag} {H : Hp} : ∀ {vs : List V} {ds : List PyData} {i : Nat} {v : V}, DtAll K H vs ds → vs[i]? = some v → ∃ d, ds[i]? = some d ∧ Dt K H v d
  | _, _, _, _, .nil, h => by simp at h
  | _, _, 0, _, .cons h1 _, h => by
    simp at h
    subst h
    exact ⟨_, rfl, h1⟩
  | _, _, i + 1, v, .cons _ h2, h => by
    obtain ⟨d, e1, e2⟩ := DtAll.at (i := i) (v := v) h2 (by simpa using h)
    exact ⟨d, by simpa using e1, e2⟩
theorem DtAll.at' {K : PySem.W.Frag} {H : Hp} : ∀ {vs : List V} {ds : List PyData} {i : Nat} {d : PyData}, DtAll K H vs ds → ds[i]? = some d → ∃ v, vs[i]? = some v ∧ Dt K H v d
  | _, _, _, _, .nil, h => by simp at h
  | _, _, 0, _, .cons h1 _, h => by
    simp at h
    subst h
    exact ⟨_, rfl, h1⟩
  | _, _, i + 1, d, .cons _ h2, h => by
    obtain ⟨v, e1, e2⟩ := DtAll.at' (i := i) (d := d) h2 (by simpa using h)
    exact ⟨v, by simpa using e1, e2⟩
theorem DtAll.append {K : PySem.W.Frag} {H : Hp} : ∀ {vs ws : List V} {ds es : List PyData}, DtAll K H vs ds → DtAll K H ws es → DtAll K H (vs ++ ws) (ds ++ es)
  | _, _, _, _, .nil, h => h
  | _, _, _, _, .cons h1 h2, h => .cons h1 (DtAll.append h2 h)
theorem DtAll.strs {K : PySem.W.Frag} {H : Hp} : ∀ (xs : List Str), DtAll K H (xs.map V.str) (xs.map PyData.str)
  | [] => .nil
  | x :: xs => .cons (.str x) (DtAll.strs xs)
theorem DtAll.ofStrs {K : PySem.W.Frag} {H : Hp} : ∀ {xs : List Str} {vs : List V}, DtAll K H vs (xs.map PyData.str) → vs = xs.map V.str
  | [], _, h => by
    cases h
    rfl
  | x :: xs, _, h => by
    cases h with
    | cons h1 h2 =>
      cases h1
      rw [DtAll.ofStrs h2]
      rfl

section
variable {X : Cx} {pins : List (Addr × Obj)} {σ : L2.St} {H : Hp} {s : Shared}
/-- the entries of a tracked dict, key by key -/
theorem ents {kvs : List (Key × V)} {vs : List (Key × Value)} (r : KV kvs vs) : ∀ {es : List DictEntry}, Pairs (mixKind X.prog X.w) es vs →
    Vals (kvs.map (·.2)) (es.map (·.val)) ∧ ∃ as, ReadsAll s.heap (es.map (·.key)) (kvs.map fun p => keyD p.1) as ∧ as = [] := by
  unfold KV at r
  induction r with
  | nil =>
    intro es h
    cases h
    exact ⟨.nil, [], .nil, rfl⟩
  | @cons p q ps qs h t ih =>
    intro es hp
    cases hp with
    | @cons e _ es' _ hk hv hr =>
      obtain ⟨i1, as, i2, i3⟩ := ih hr
      obtain ⟨e1, e2⟩ := h
      refine ⟨.cons (by show RelV p.2 e.val; rw [hv]; exact e2) i1, ?_⟩
      subst i3
      have hk' : keyIs p.1 e.key = true := by rw [e1]; exact hk
      rcases keyIs_shape hk' with ⟨i, tk, a1, a2⟩ | ⟨x, tk, a1, a2⟩
      · refine ⟨[], ?_, rfl⟩
        show ReadsAll s.heap (e.key :: _) (keyD p.1 :: _) ([] ++ [])
        rw [a1, a2]
        exact .cons (.int i tk) i2
      · refine ⟨[], ?_, rfl⟩
        show ReadsAll s.heap (e.key :: _) (keyD p.1 :: _) ([] ++ [])
        rw [a1, a2]
        exact .cons (.str x tk) i2
theorem keys_nodict (kvs : List (Key × V)) : PyData.hasDictAll (kvs.map fun p => keyD p.1) = false := by
  induction kvs with
  | nil => rfl
  | cons p ps ih =>
    obtain ⟨k, v⟩ := p
    show (PyData.hasDict (keyD k) || PyData.hasDictAll (ps.map fun p => keyD p.1)) = false
    rw [ih]
    cases k <;> rfl
theorem sz_vals : ∀ es : List (PyData × PyData), sizeOf (es.map (·.2)) ≤ sizeOf es
  | [] => Nat.le_refl _
  | (k, v) :: r => by
    have := sz_vals r
    simp only [List.map_cons, List.cons.sizeOf_spec, Prod.mk.sizeOf_spec]
    omega
mutual
theorem Dt.shows (I : Inv X pins σ H s) : ∀ (d : PyData) (v : V) (u : Value), Dt X.K H v d → RelV v u → d.showable = true → d.shown.length ≤ sizeLine →
    ∃ as bs, Reads s.heap u d as ∧ ReadAtMost s.heap d.depth bs ∧ ReprK X.prog X.w bs s.heap d.depth u d.shown
  | .none, _, _, h, r, _, _ => by
    cases h
    cases r
    exact ⟨_, [], .none, (fun _ z => nomatch z), by simp only [PyData.shown]; exact .of_is ReprIs.none _ _ _⟩
  | .bool b, _, _, h, r, _, _ => by
    cases h
    cases r
    exact ⟨_, [], .bool b, (fun _ z => nomatch z), by simp only [PyData.shown]; exact .of_is (ReprIs.bool b) _ _ _⟩
  | .int i, _, _, h, r, hs, _ => by
    cases h
    obtain ⟨t, rfl⟩ := r
    exact ⟨_, [], .int i t, (fun _ z => nomatch z), by simp only [PyData.shown]; exact .of_is (ReprIs.int t (by simpa [PyData.showable] using hs)) _ _ _⟩
  | .str x, _, _, h, r, _, hz => by
    cases h
    obtain ⟨t, rfl⟩ := r
    exact ⟨_, [], .str x t, (fun _ z => nomatch z), by simp only [PyData.shown]; exact .of_is (ReprIs.str x t (by simpa only [PyData.shown] using hz)) _ _ _⟩
  | .list ds, _, _, h, r, hs, hz => by
    cases h with
    | @lst a _ _ hq ha =>
      cases r
      obtain ⟨its, rv, ⟨o, n, ho, hc, _, hd⟩, _⟩ := I.list hq
      have hz' : (listText (PyData.shownAll ds)).length ≤ sizeLine := by simpa only [PyData.shown] using hz
      obtain ⟨as, bs, rs, hb, hk⟩ := Dt.showsAll I ds _ its ha rv (by simpa [PyData.showable] using hs) (fun t ht => Nat.le_trans (listText_mem_le ht) hz')
      have rr : Reads s.heap (.ref a) (.list ds) (a :: as) := .list ho hc hd (by simpa using rs)
      have na : a ∉ bs := not_mem_of_deeper rr (by simp only [PyData.depth]; omega) hb
      refine ⟨_, a :: bs, rr, ReadAtMost.cons rr (by simp only [PyData.depth]; omega) hb, ?_⟩
      simp only [PyData.depth, PyData.shown]
      cases its with
      | nil =>
        cases rs
        simp only [PyData.shownAll, listText_nil]
        exact ReprK.listEmpty ho hc hd
      | cons y l => exact ReprK.list ho hc hd na (by simpa using hk.length_eq) (fun i z e => hk.item i z (by simpa using e))
  | .tuple ds, _, _, h, r, hs, hz => by
    cases h with
    | @tup a _ _ hq ha =>
      cases r
      obtain ⟨its, rv, ⟨o, ho, hc, n, hd⟩, _⟩ := I.tuple hq
      have hz' : (tupleText (PyData.shownAll ds)).length ≤ sizeLine := by simpa only [PyData.shown] using hz
      obtain ⟨as, bs, rs, hb, hk⟩ := Dt.showsAll I ds _ its ha rv (by simpa [PyData.showable] using hs) (fun t ht => Nat.le_trans (tupleText_mem_le ht) hz')
      have rr : Reads s.heap (.ref a) (.tuple ds) as := .tuple ho hc hd (by simpa using rs)
      have na : a ∉ bs := not_mem_of_deeper rr (by simp only [PyData.depth]; omega) hb
      refine ⟨_, a :: bs, rr, ReadAtMost.cons rr (by simp only [PyData.depth]; omega) hb, ?_⟩
      simp only [PyData.depth, PyData.shown]
      exact ReprK.tuple ho hc hd na (by simpa using hk)
  | .dict es, _, _, h, r, hs, hz => by
    cases h with
    | @dct a kvs _ hq hke ha =>
      cases r
      obtain ⟨_, hsys, vs, kv, o, en, ep, ho, hx, hd, _, hp, _⟩ := hq.ok I.hok
      have hz' : (dictText (PyData.shownKv es)).length ≤ sizeLine := by simpa only [PyData.shown] using hz
      obtain ⟨s1, s2⟩ := PyData.showableKv_split es (by simpa [PyData.showable] using hs)
      obtain ⟨rv, as1, r1, e1⟩ := ents (s := s) kv hp
      rw [hke] at r1
      obtain ⟨b1, hb1, k1⟩ := ReprAllK.of_readsAll (prog := X.prog) (w := X.w) r1 s1 (fun z => by rw [← hke, keys_nodict] at z; cases z)
        (fun t ht => let ⟨p, hp, hl⟩ := PyData.shownKv_key_le es t ht; Nat.le_trans hl (Nat.le_trans (dictText_mem_le hp) hz'))
      obtain ⟨as2, b2, r2, hb2, k2⟩ := Dt.showsAll I (es.map (·.2)) _ _ ha rv s2
        (fun t ht => let ⟨p, hp, hl⟩ := PyData.shownKv_val_le es t ht; Nat.le_trans hl (Nat.le_trans (dictText_mem_le hp) hz'))
      have rr : Reads s.heap (.ref a) (.dict es) (a :: as1 ++ as2) := .dict ho hx.1 hd r1 r2
      have hb : ReadAtMost s.heap (PyData.depthKv es) (b1 ++ b2) := (hb1.mono (PyData.depthAll_keys_le es)).append (hb2.mono (PyData.depthAll_vals_le es))
      have na : a ∉ b1 ++ b2 := not_mem_of_deeper rr (by simp only [PyData.depth]; omega) hb
      refine ⟨_, a :: (b1 ++ b2), rr, ReadAtMost.cons rr (by simp only [PyData.depth]; omega) hb, ?_⟩
      simp only [PyData.depth, PyData.shown, PyData.shownKv_eq]
      exact ReprK.dict ho hx.1 hd hsys na (ReprEntriesK.of_two en.toList _ _
        (k1.more_le (fun b z => List.mem_append_left _ z) (PyData.depthAll_keys_le es)) (k2.more_le (fun b z => List.mem_append_right _ z) (PyData.depthAll_vals_le es)))
  termination_by d => sizeOf d
  decreasing_by
    all_goals first
      | decreasing_tactic
      | (have := sz_vals es; simp only [PyData.dict.sizeOf_spec]; omega)
theorem Dt.showsAll (I : Inv X pins σ H s) : ∀ (ds : List PyData) (vs : List V) (us : List Value), DtAll X.K H vs ds → Vals vs us → PyData.showableAll ds = true → (∀ t ∈ PyData.shownAll ds, t.length ≤ sizeLine) →
    ∃ as bs, ReadsAll s.heap us ds as ∧ ReadAtMost s.heap (PyData.depthAll ds) bs ∧ ReprAllK X.prog X.w bs s.heap (PyData.depthAll ds) us (PyData.shownAll ds)
  | [], _, _, h, r, _, _ => by
    cases h
    cases r
    exact ⟨_, [], .nil, (fun _ z => nomatch z), by simp only [PyData.shownAll]; exact .nil⟩
  | d :: ds, _, _, h, r, hs, hz => by
    cases h with
    | cons h1 h2 =>
      cases r with
      | cons r1 r2 =>
        have hs' : d.showable = true ∧ PyData.showableAll ds = true := by simpa [PyData.showableAll] using hs
        obtain ⟨a1, b1, q1, hb1, k1⟩ := Dt.shows I d _ _ h1 r1 hs'.1 (hz _ (by simp only [PyData.shownAll]; exact List.mem_cons_self ..))
        obtain ⟨a2, b2, q2, hb2, k2⟩ := Dt.showsAll I ds _ _ h2 r2 hs'.2 (fun t ht => hz t (by simp only [PyData.shownAll]; exact List.mem_cons_of_mem _ ht))
        refine ⟨_, b1 ++ b2, .cons q1 q2, ?_, ?_⟩
        · simp only [PyData.depthAll]
          exact (hb1.mono (Nat.le_max_left _ _)).append (hb2.mono (Nat.le_max_right _ _))
        · simp only [PyData.depthAll, PyData.shownAll]
          exact .cons ((k1.more fun b z => List.mem_append_left _ z).level_le (Nat.le_max_left _ _)) (k2.more_le (fun b z => List.mem_append_right _ z) (Nat.le_max_right _ _))
  termination_by ds => sizeOf ds
  decreasing_by all_goals decreasing_tactic
end

/-- repr(x), x data: its text -/
def rRepr (K : PySem.W.Frag) : List V → Hp → VK → Prop := fun xs H Q => ∃ x d, xs = [x] ∧ Dt K H x d ∧ d.showable = true ∧ d.depth ≤ 60 ∧ d.shown.length ≤ sizeLine ∧ (∃ a, x = .ref a) ∧ Q (.str d.shown) H
theorem call_reprD (gd : X.A.guards = some []) (hu : X.A.units + 64 < cLine) : CallR X (.builtin "repr") (rRepr X.K) := by
  intro pins s σ H xs us Q I r h
  obtain ⟨x, d, rfl, hd, sh, dp, sz, ⟨a, rfl⟩, q⟩ := h
  obtain ⟨u, rfl, ru⟩ : ∃ u, us = [u] ∧ RelV (.ref a) u := by
    cases r with
    | cons r1 r2 =>
      cases r2
      exact ⟨_, rfl, r1⟩
  cases ru
  have fin : ∀ h' t tk, (∀ b o, s.heap.get? b = some o → h'.get? b = some o) → EP X pins σ Q (.str d.shown t) { s with heap := h', toks := tk } :=
    fun h' t tk k => ⟨.str d.shown, H, I.kept (t' := tk) k, ⟨t, rfl⟩, q⟩
  cases hd with
  | @lst _ _ ds hq ha =>
    obtain ⟨its, rv, ⟨o, n, ho, hc, _, he⟩, _⟩ := I.list hq
    have hz' : (listText (PyData.shownAll ds)).length ≤ sizeLine := by simpa only [PyData.shown] using sz
    obtain ⟨as, bs, rs, hb, hk⟩ := Dt.showsAll I ds _ its ha rv (by simpa [PyData.showable] using sh) (fun t ht => Nat.le_trans (listText_mem_le ht) hz')
    have rr : Reads s.heap (.ref a) (.list ds) (a :: as) := .list ho hc he (by simpa using rs)
    have na : a ∉ bs := not_mem_of_deeper rr (by simp only [PyData.depth]; omega) hb
    have e1 : PyData.depthAll ds + 1 ≤ 60 := by simpa only [PyData.depth] using dp
    refine call_repr_slot (by omega) ⟨o, ho, hc⟩ F.slot_list_repr.toG ?_
    simp only [PyData.shown] at fin
    cases its with
    | nil =>
      cases rs
      simp only [PyData.shownAll, listText_nil] at fin
      exact call_list_repr_empty ⟨o, ho, hc⟩ ho he ⟨_, _, rfl, fin s.heap _ _ fun _ _ z => z⟩
    | cons y l =>
      exact call_list_reprK ho hc he na (by simpa using hk.length_eq) (fun i z e => hk.item i z (by simpa using e)) gd (fun b _ => Clear.nil b)
        (by show X.A.units + 1 + (PyData.depthAll ds + 1) < cLine; omega) (fun _ _ z => z) (fun h' t tk k => ⟨_, _, rfl, fin h' t tk k⟩) hz'
  | @tup _ _ ds hq ha =>
    obtain ⟨its, rv, ⟨o, ho, hc, n, he⟩, _⟩ := I.tuple hq
    have hz' : (tupleText (PyData.shownAll ds)).length ≤ sizeLine := by simpa only [PyData.shown] using sz
    obtain ⟨as, bs, rs, hb, hk⟩ := Dt.showsAll I ds _ its ha rv (by simpa [PyData.showable] using sh) (fun t ht => Nat.le_trans (tupleText_mem_le ht) hz')
    have rr : Reads s.heap (.ref a) (.tuple ds) as := .tuple ho hc he (by simpa using rs)
    have na : a ∉ bs := not_mem_of_deeper rr (by simp only [PyData.depth]; omega) hb
    have e1 : PyData.depthAll ds + 1 ≤ 60 := by simpa only [PyData.depth] using dp
    refine call_repr_slot (by omega) ⟨o, ho, hc⟩ F.slot_tuple_repr ?_
    simp only [PyData.shown] at fin
    exact call_tuple_reprK ho hc he na (by simpa using hk) gd (fun b _ => Clear.nil b)
      (by show X.A.units + 1 + (PyData.depthAll ds + 1) < cLine; omega) (fun _ _ z => z) (fun h' t tk k => ⟨_, _, rfl, fin h' t tk k⟩) hz'
  | @dct _ kvs es hq hke ha =>
    obtain ⟨_, hsys, vs, kv, o, en, ep, ho, hx, he, _, hp, _⟩ := hq.ok I.hok
    have hz' : (dictText (PyData.shownKv es)).length ≤ sizeLine := by simpa only [PyData.shown] using sz
    obtain ⟨s1, s2⟩ := PyData.showableKv_split es (by simpa [PyData.showable] using sh)
    obtain ⟨rv, as1, r1, e1⟩ := ents (s := s) kv hp
    rw [hke] at r1
    obtain ⟨b1, hb1, k1⟩ := ReprAllK.of_readsAll (prog := X.prog) (w := X.w) r1 s1 (fun z => by rw [← hke, keys_nodict] at z; cases z)
      (fun t ht => let ⟨p, hp, hl⟩ := PyData.shownKv_key_le es t ht; Nat.le_trans hl (Nat.le_trans (dictText_mem_le hp) hz'))
    obtain ⟨as2, b2, r2, hb2, k2⟩ := Dt.showsAll I (es.map (·.2)) _ _ ha rv s2
      (fun t ht => let ⟨p, hp, hl⟩ := PyData.shownKv_val_le es t ht; Nat.le_trans hl (Nat.le_trans (dictText_mem_le hp) hz'))
    have rr : Reads s.heap (.ref a) (.dict es) (a :: as1 ++ as2) := .dict ho hx.1 he r1 r2
    have hb : ReadAtMost s.heap (PyData.depthKv es) (b1 ++ b2) := (hb1.mono (PyData.depthAll_keys_le es)).append (hb2.mono (PyData.depthAll_vals_le es))
    have na : a ∉ b1 ++ b2 := not_mem_of_deeper rr (by simp only [PyData.depth]; omega) hb
    have e1 : PyData.depthKv es + 1 ≤ 60 := by simpa only [PyData.depth] using dp
    refine call_repr_slot (by omega) ⟨o, ho, hx.1⟩ F.slot_dict_repr ?_
    simp only [PyData.shown, PyData.shownKv_eq] at fin
    exact call_dict_reprK ho hx.1 he hsys na (ReprEntriesK.of_two en.toList _ _
      (k1.more_le (fun b z => List.mem_append_left _ z) (PyData.depthAll_keys_le es)) (k2.more_le (fun b z => List.mem_append_right _ z) (PyData.depthAll_vals_le es))) gd (fun b _ => Clear.nil b)
      (by show X.A.units + 1 + (PyData.depthKv es + 1) < cLine; omega) (fun _ _ z => z) (fun h' t tk k => ⟨_, _, rfl, fin h' t tk k⟩) (by rw [← PyData.shownKv_eq]; exact hz')
end
end EG

set_option Elab.async false
set_option linter.all false
set_option maxRecDepth 100000
set_option maxHeartbeats 4000000
namespace ES
open PySem PySem.Spec PyProof.Rows L2
/-! ### sets of texts that can be walked -/
def keyT (p : Int × Value) : Str := match p.2 with
  | .str x _ => x
  | _ => Str.empty
def GoodT (w : World) (p : Int × Value) : Prop := ∃ x t, p.2 = Value.str x t ∧ p.1 = hashStr w x
/-- the set of texts at a: S tells its members, n their number -/
def SetT (w : World) (h : Heap) (a : Addr) (S : Str → Bool) (n : Nat) : Prop := ∃ ob es ep tb, h.get? a = some ob ∧ ob.ExactSet ∧ ob.data = .set es ep tb ∧ (∀ p ∈ es.toList, GoodT w p) ∧
  (es.toList.map keyT).Nodup ∧ (∀ x, S x = true ↔ x ∈ es.toList.map keyT) ∧ es.size < scanBound ∧ tb.fits es.size = true ∧ es.size = n ∧ Ris tb.place.toList ∧ (w.params.followText "set-order" = true ∨ tb.led = true)
section
variable {P : Program} {w : World} {h h' : Heap} {a : Addr} {S : Str → Bool} {n : Nat}
theorem SetT.at (R : SetT w h a S n) (k : ∀ o, h.get? a = some o → h'.get? a = some o) : SetT w h' a S n := by
  obtain ⟨ob, es, ep, tb, ho, r⟩ := R
  exact ⟨ob, es, ep, tb, k ob ho, r⟩
theorem goodT_is {p : Int × Value} (g : GoodT w p) (x : Str) : (PySem.strKind P w).is x p.2 = true ↔ keyT p = x := by
  obtain ⟨y, t, e1, _⟩ := g
  unfold keyT
  rw [e1]
  exact ⟨fun z => by
    obtain ⟨u, e⟩ := Value.isStrOf_shape (x := x) (v := .str y t) z
    injection e, fun z => by
    have z' : y = x := z
    rw [z']
    exact strKind_is P w x t⟩
theorem goodT_mem {l : List (Int × Value)} (g : ∀ p ∈ l, GoodT w p) (x : Str) : x ∈ l.map keyT ↔ ∃ p ∈ l, (PySem.strKind P w).is x p.2 = true := by
  rw [List.mem_map]
  exact ⟨fun ⟨p, hp, q⟩ => ⟨p, hp, (goodT_is (g p hp) x).2 q⟩, fun ⟨p, hp, q⟩ => ⟨p, hp, (goodT_is (g p hp) x).1 q⟩⟩
theorem goodT_elems {l : List (Int × Value)} (g : ∀ p ∈ l, GoodT w p) : ElemsOf (PySem.strKind P w) l := fun p hp => by
  obtain ⟨x, t, h1, h2⟩ := g p hp
  exact ⟨⟨x, by rw [h1]; exact strKind_is P w x t, h2⟩, by rw [h1] <;> rfl⟩
theorem SetT.setOf (R : SetT w h a S n) : h.SetOf (PySem.strKind P w) a S n := by
  obtain ⟨ob, es, ep, tb, ho, hx, hd, g, nd, hm, hb, hf, hn, _⟩ := R
  exact ⟨ob, es, ep, tb, ho, hx, hd, goodT_elems g, fun x => (hm x).trans (goodT_mem g x), hb, hf, hn⟩
end
section
variable {P : Program} {w : World} {A : Around} {E : Value → Shared → Prop} {s : Shared} {a : Addr} {S : Str → Bool} {n : Nat}
theorem addT_tail {gv : Bool → Sem Unit} (hg : ∀ (b : Bool) (z : Shared) (Q' : Unit → Shared → Prop), Q' () z → wpAny (model P w) A (gv b) Q' E z) {ob : Obj} {es : Array (Int × Value)} {ep : Nat} {tb : SetTable}
    (ho : s.heap.get? a = some ob) (hex : ob.ExactSet) (hd : ob.data = .set es ep tb) {fs : Array (Int × Value)} {tc : SetTable} {S' : Str → Bool} (g1 : ∀ p ∈ fs.toList, GoodT w p) (nd : (fs.toList.map keyT).Nodup)
    (hm : ∀ x, S' x = true ↔ x ∈ fs.toList.map keyT) (hb : fs.size < scanBound) (hf : tc.fits fs.size = true) (hr : Ris tc.place.toList) (hl : w.params.followText "set-order" = true ∨ tc.led = true) {dm : Bool} {R : Option Bool → Shared → Prop}
    (hR : ∀ h', Heap.SameBut a s.heap h' → SetT w h' a S' fs.size → R (some true) { s with heap := h' }) :
    wpAny (model P w) A (do
      storeSet a fs tc
      if (!dm && tc.tooFull) = true then do
          gv (relayAll tc fs (SetTable.grown fs.size)).2.2
          storeSet a (relayAll tc fs (SetTable.grown fs.size)).1 (relayAll tc fs (SetTable.grown fs.size)).2.1
          pure (some true)
        else pure (some true)) R E s := by
  refine wpAny_bind (wpAny_storeSet_of ho hd ?_ (fits_of_scanBound hb))
  have o1 := store_at (es' := fs) (t' := tc) ho hd
  have b1 := Heap.SameBut.update s.heap a (Obj.putSet fs tc)
  split
  · have q1 := relayAll_perm tc fs (SetTable.grown fs.size)
    have q2 := relayAll_fits tc fs (SetTable.grown fs.size)
    have q3 := relayAll_ris tc fs (SetTable.grown fs.size)
    have q4 := relayAll_led tc fs (SetTable.grown fs.size)
    generalize relayAll tc fs (SetTable.grown fs.size) = Y at q1 q2 q3 q4 ⊢
    obtain ⟨gs, td, gave⟩ := Y
    dsimp only at q1 q2 q3 q4 ⊢
    have zz : gs.size = fs.size := by
      have := q1.length_eq
      simpa using this
    have b2 : gs.size < scanBound := by omega
    refine wpAny_bind (hg _ _ _ (wpAny_bind (wpAny_storeSet_of o1 rfl ?_ (fits_of_scanBound b2))))
    have o2 := store_at (es' := gs) (t' := td) o1 rfl
    refine wpAny_pure (hR _ (b1.trans (Heap.SameBut.update _ a _)) ⟨_, gs, _, td, o2, hex, rfl, fun p hp => g1 p (q1.mem_iff.mp hp), (q1.map keyT).nodup_iff.mpr nd, fun x => ?_, b2, q2, zz, q3, hl.imp id fun z => q4.trans z⟩)
    exact (hm x).trans (q1.map keyT).mem_iff.symm
  · exact wpAny_pure (hR _ b1 ⟨_, fs, _, tc, o1, hex, rfl, g1, nd, hm, hb, hf, rfl, hr, hl⟩)
theorem addT_hashed {x : Str} {t : Tok} {Q : Bool → Shared → Prop} (R : SetT w s.heap a S n) (room : n + 1 < scanBound)
    (hQ : ∀ h', Heap.SameBut a s.heap h' → SetT w h' a (fun y => S y || decide (y = x)) (if S x = true then n else n + 1) → Q (!S x) { s with heap := h' }) :
    wpAny (model P w) A (setAddHashed a (.str x t) ((PySem.strKind P w).hash x)) Q E s := by
  obtain ⟨ob, es, ep, tb, ho, hex, hd, g, nd, hm, hb, hf, hn, hr, hl⟩ := R
  have sc : (Value.str x t).scannable = true := rfl
  have el : ElemsOf (PySem.strKind P w) es.toList := goodT_elems g
  unfold setAddHashed setAddHashedIn
  refine wpAny_holding (wpAny_bind (wpAny_setState_of ho hd hf ?_))
  dsimp only
  rw [byScan_of sc hb el]
  simp only [↓reduceIte]
  unfold setAddByScan
  refine wpAny_bind (wpAny_bind (wpAny_rule (wpAny_bind (wpAny_setScan_of (strKind_is P w x t) ho hd hf el ?_))))
  cases hfi : List.findIdx? (fun p => (PySem.strKind P w).is x p.2) es.toList with
  | some j =>
    dsimp only
    obtain ⟨hj, pj, _⟩ := List.findIdx?_eq_some_iff_getElem.mp hfi
    have hS : S x = true := (hm x).2 ((goodT_mem (P := P) g x).2 ⟨es.toList[j], List.getElem_mem hj, pj⟩)
    have q := hQ s.heap (Heap.SameBut.refl a s.heap) ⟨ob, es, ep, tb, ho, hex, hd, g, nd, fun y => ?_, hb, hf, by rw [if_pos hS]; exact hn, hr, hl⟩
    · rw [hS] at q
      exact wpAny_pure (wpAny_pure q)
    · rw [Bool.or_eq_true, decide_eq_true_eq, ← hm y]
      exact ⟨fun z => z.elim id fun e => by rw [e]; exact hS, Or.inl⟩
  | none =>
    dsimp only
    have nx : x ∉ es.toList.map keyT := fun z => by
      obtain ⟨p, hp, q⟩ := (goodT_mem (P := P) g x).1 z
      have c := List.findIdx?_eq_none_iff.mp hfi p hp
      rw [q] at c
      cases c
    have hS : S x = false := Bool.eq_false_iff.mpr fun q => nx ((hm x).1 q)
    have q1 := layNew_perm tb es ((PySem.strKind P w).hash x) (.str x t)
    have q2 := layNew_fits tb es ((PySem.strKind P w).hash x) (.str x t)
    have q3 := layNew_ris tb es ((PySem.strKind P w).hash x) (.str x t) hr
    have q4 := layNew_led tb es ((PySem.strKind P w).hash x) (.str x t)
    generalize layNew tb es ((PySem.strKind P w).hash x) (.str x t) = Y at q1 q2 q3 q4 ⊢
    obtain ⟨fs, tc, dm, gave⟩ := Y
    dsimp only at q1 q2 q3 q4 ⊢
    rw [Array.toList_push] at q1
    have pc : fs.toList.Perm (((PySem.strKind P w).hash x, Value.str x t) :: es.toList) := q1.trans (List.perm_append_singleton _ _)
    have pk : (fs.toList.map keyT).Perm (x :: es.toList.map keyT) := pc.map keyT
    have g1 : ∀ p ∈ fs.toList, GoodT w p := fun p hp => by
      rcases List.mem_cons.mp (pc.mem_iff.mp hp) with z | z
      · rw [z]
        exact ⟨x, t, rfl, rfl⟩
      · exact g p z
    have m1 : ∀ y, (S y || decide (y = x)) = true ↔ y ∈ fs.toList.map keyT := fun y => by
      rw [Bool.or_eq_true, decide_eq_true_eq, hm y, pk.mem_iff, List.mem_cons]
      exact Or.comm
    have zz : fs.size = n + 1 := by
      have := pc.length_eq
      simp only [Array.length_toList, List.length_cons] at this
      omega
    have hb1 : fs.size < scanBound := by omega
    have ld : w.params.followText "set-order" = true ∨ tc.led = true := hl.imp id fun z => q4.trans z
    have fin : ∀ h', Heap.SameBut a s.heap h' → SetT w h' a (fun y => S y || decide (y = x)) fs.size → Q true { s with heap := h' } := fun h' sb r => by
      have q := hQ h' sb
      rw [hS] at q
      rw [zz] at r
      exact q r
    have gw : ∀ (b : Bool) (z : Shared) (Q' : Unit → Shared → Prop), Q' () z → wpAny (model P w) A (match b with | true => rule "set.scan.the-table-gave-way" | false => pure ()) Q' E z := fun b z Q' q => by
      cases b <;> first | exact wpAny_pure q | exact wpAny_rule q
    refine wpAny_bind (gw _ _ _ ?_)
    split
    · refine wpAny_bind ?_
      rw [hashByValue_scannable 8 sc]
      refine wpAny_pure ?_
      refine addT_tail gw ho hex hd g1 (pk.nodup_iff.mpr (List.nodup_cons.mpr ⟨nx, nd⟩)) m1 hb1 ?_ ?_ ?_ ?_
      · first | (split <;> first | exact q2 | exact SetTable.fits_plain_off q2) | exact q2
      · first | (split <;> exact q3) | exact q3
      · first | (split <;> exact ld) | exact ld
      · intro h' sb r
        dsimp only
        exact wpAny_pure (fin h' sb r)
    · refine wpAny_bind (wpAny_pure ?_)
      simp only [↓reduceIte]
      refine addT_tail gw ho hex hd g1 (pk.nodup_iff.mpr (List.nodup_cons.mpr ⟨nx, nd⟩)) m1 hb1 q2 q3 ld ?_
      intro h' sb r
      dsimp only
      exact wpAny_pure (fin h' sb r)
end
end ES

set_option Elab.async false
set_option linter.all false
set_option maxRecDepth 100000
set_option maxHeartbeats 4000000
namespace ES
open PySem PySem.Spec PyProof.Rows L2
/-- a new set -/
abbrev setNew (w : World) : Obj := { cls := .type "set", dict := none, data := .set #[] 0 (.fresh 0 0 (!w.params.followText "set-order")) }
theorem setT_new {w : World} {h : Heap} {a : Addr} (ho : h.get? a = some (setNew w)) : SetT w h a (fun _ => false) 0 := by
  refine ⟨_, #[], 0, _, ho, ⟨rfl, rfl, rfl⟩, rfl, fun p hp => by simp at hp, by simp, fun x => by simp, by decide, by rfl, rfl, List.Pairwise.nil, ?_⟩
  show _ ∨ (!w.params.followText "set-order") = true
  cases w.params.followText "set-order" with
  | true => exact Or.inl rfl
  | false => exact Or.inr rfl
theorem SetT.congr {w : World} {h : Heap} {a : Addr} {S S' : Str → Bool} {n : Nat} (R : SetT w h a S n) (e : ∀ x, S' x = S x) : SetT w h a S' n := by
  rw [show S' = S from funext e]
  exact R
/-- the members so far: how many different ones -/
def cnt : List Str → Nat
  | [] => 0
  | x :: xs => cnt xs + (if xs.contains x then 0 else 1)
section
variable {P : Program} {w : World} {A : Around} {E : Value → Shared → Prop} {s : Shared}
/-- s.add(x) -/
theorem addT {a : Addr} {S : Str → Bool} {n : Nat} {x : Str} {t : Tok} {Q : Value → Shared → Prop} (R : SetT w s.heap a S n) (room : n + 1 < scanBound)
    (hQ : ∀ h', Heap.SameBut a s.heap h' → SetT w h' a (fun y => S y || decide (y = x)) (if S x = true then n else n + 1) → Q .none { s with heap := h', toks := s.toks + 1 }) :
    wpAny (model P w) A (call (.builtin "set.add") [.ref a, .str x t]) Q E s := by
  have so : s.heap.SetOf (PySem.strKind P w) a S n := R.setOf
  refine wpAny_call_entry F.slot_set_add so.typeIs F.entry_set_add ?_ (F.args_set_add_2 _ _)
  unfold Builtin.«set.add» Builtin.Frozenset.oneOther
  simp only [List.isEmpty_nil, bind_assoc]
  unfold Builtin.Frozenset.addrOf setAdd
  refine wpAny_bind (wpAny_pure ?_)
  try dsimp only
  refine wpAny_bind (wpAny_pure ?_)
  try dsimp only
  refine wpAny_bind (wpAny_holding (wpAny_bind ((PySem.strKind P w).pyHash (strKind_is P w x t) ?_)))
  refine addT_hashed (s := { s with toks := s.toks + 1 }) R room fun h' sb r => ?_
  show wpAny _ _ (ret Value.none) _ _ _
  exact wpAny_pure ⟨_, rfl, hQ h' sb r⟩
theorem updT {I : Addr} {fp wr : List Addr} {G : Array GenState → Array GenState → Prop} {n : Nat} {Pv : Nat → Value → Prop} {St : Nat → Shared → Prop} {R : Result → Shared → Prop}
    (W : WalksS P w A.in1 I fp wr G n Pv St) (D : Addr) (nD : D ∉ fp) (xs : List Str) (hn : n = xs.length) (hb : xs.length + 1 < scanBound) (hval : ∀ i v, Pv i v → ∃ x t, xs[i]? = some x ∧ v = .str x t) :
    ∀ (k i : Nat) (s : Shared), n - i = k → i ≤ n → St i s → (∃ c, c ≤ i ∧ SetT w s.heap D (fun y => decide (y ∈ xs.take i)) c) →
      (∀ z c, Moved (D :: wr) G s z → c ≤ n → SetT w z.heap D (fun y => decide (y ∈ xs)) c → R (.ok (.ret .none)) z) →
      codeAny (model P w) A (.builtin "set.update.loop" ⟨[.ref D, .ref I], []⟩) R s := by
  have nw : D ∉ wr := fun z => nD (W.sub _ z)
  have up : ∀ b ∈ wr, b ∈ D :: wr := fun b z => List.mem_cons_of_mem _ z
  intro k
  induction k with
  | zero =>
    rintro i s hk hi st ⟨c, hc, hS⟩ hR
    have ei : i = n := by omega
    subst ei
    refine codeAny_builtin F.entry_set_update_loop ?_
    rw [Around.under_plainId F.plain_set_update_loop _]
    refine wpAny_bind (W.done s _ _ st fun z hm => ?_)
    rw [List.take_of_length_le (by omega)] at hS
    exact wpAny_pure (hR z c (hm.mono up) hc (hS.at fun o e => hm.heap D o nw e))
  | succ k ih =>
    rintro i s hk hi st ⟨c, hc, hS⟩ hR
    have lt : i < n := by omega
    refine codeAny_builtin F.entry_set_update_loop ?_
    rw [Around.under_plainId F.plain_set_update_loop _]
    refine wpAny_bind (W.item i s _ _ lt st fun v z hP st' hm => ?_)
    obtain ⟨x, t, hx, rfl⟩ := hval i v hP
    have hS1 : SetT w z.heap D (fun y => decide (y ∈ xs.take i)) c := hS.at fun o e => hm.heap D o nw e
    show wpAny _ A.in1 (holding [Value.str x t] (setAdd D (.str x t)) >>= _) _ _ z
    refine wpAny_bind (wpAny_holding ?_)
    unfold setAdd
    refine wpAny_holding (wpAny_bind ((PySem.strKind P w).pyHash (k := x) (strKind_is _ _ _ _) ?_))
    refine addT_hashed (s := { z with toks := z.toks + 1 }) hS1 (by omega) fun h' sb hS2 => ?_
    have hS3 : SetT w h' D (fun y => decide (y ∈ xs.take (i + 1))) (if decide (x ∈ xs.take i) = true then c else c + 1) := hS2.congr fun y => by
      rw [List.take_add_one, hx]
      simp [List.mem_append]
    have hc3 : (if decide (x ∈ xs.take i) = true then c else c + 1) ≤ i + 1 := by split <;> omega
    refine wpAny_pure ⟨plainId_quiet F.plain_set_update_loop _, ih (i + 1) _ (by omega) lt (W.frame _ z _ _ st' (Nat.le_succ _) fun b hb o e => ?_) ⟨_, hc3, hS3⟩ fun y c2 hm2 hc2 hS4 => ?_⟩
    · rw [sb.2 b (by rintro rfl; exact nD hb)]
      exact e
    · refine hR y c2 (Moved.trans W.gtrans ((hm.mono up).then_heap (Nat.le_succ _) fun b o hb e => ?_) hm2) hc2 hS4
      rw [sb.2 b (by rintro rfl; exact hb List.mem_cons_self)]
      exact e
theorem call_setT {l : Addr} {items : Array Value} (xs : List Str) {Q : Value → Shared → Prop} (hh : A.handled = none) (hl : s.heap.IsList l items) (hit : StrsAre items.toList xs) (hb : xs.length + 1 < scanBound)
    (h : ∀ (h' : Heap) (tk c : Nat), SetT w h' s.heap.objs.size (fun y => decide (y ∈ xs)) c → c ≤ xs.length → (∀ b o, s.heap.get? b = some o → h'.get? b = some o) → Q (.ref s.heap.objs.size) { s with heap := h', toks := tk }) :
    wpAny (model P w) A (call (.type "set") [.ref l]) Q E s := by
  have zz : items.size = xs.length := by
    have q := StrsAre.len_eq hit
    rw [Array.length_toList] at q
    exact q
  obtain ⟨c, tl, hmro⟩ := F.called_set.mro
  have hmade := F.called_set.made
  have hsub := F.called_set.sub
  refine wpAny_call (codeAny_of_tree ?_)
  show wpAny _ _ (callAny (.type "set") _) _ _ _
  refine wpAny_pure ⟨Code.quiet_builtin _ (by decide +kernel), codeAny_builtin F.entry_type_call ?_⟩
  rw [Around.under_plain (weight_type_call_type "set" [.ref l] []) rfl]
  have h1 := F.called_set.notType
  have h2 := F.called_set.canCreate
  have hct := F.typeCall_set_1 (.ref l)
  repeat (any_goals (first | assumption | wp_step))
  refine codeAny_mono (code_set_led1 (.ref l) (E := E) (Q₁ := fun obj z => obj = .ref s.heap.objs.size ∧ z = { s with heap := s.heap.push (setNew w) }) ⟨rfl, rfl⟩) fun r z hr => ?_
  cases r with
  | error e => exact hr
  | ok fl =>
    cases fl with
    | ret obj =>
      obtain ⟨rfl, rfl⟩ := hr
      have hS : (s.heap.push (setNew w)).get? s.heap.objs.size = some (setNew w) := Heap.get?_push_size _ rfl
      have hT : Shared.TypeIs { s with heap := s.heap.push (setNew w) } (.ref s.heap.objs.size) "set" := ⟨_, hS, rfl⟩
      have hli := F.called_set.init.lookup
      have hbi := F.called_set.init.bind (.ref s.heap.objs.size)
      repeat (any_goals (first | assumption | wp_step))
      refine codeAny_mono (codeAny_call_builtin (R := wants (fun r z => r = .none ∧ ∃ h' tk c, z = { s with heap := h', toks := tk } ∧ SetT w h' s.heap.objs.size (fun y => decide (y ∈ xs)) c ∧ c ≤ xs.length ∧
          (∀ b o, s.heap.get? b = some o → h'.get? b = some o)) E) F.called_set.init.plain F.entry_set_init (check_set_init_1 hT ?_)) fun r2 z2 hr2 => ?_
      · obtain ⟨⟨oc, od, odt, osl⟩, hol, hcl, nl, hdl⟩ := hl
        simp only at hcl hdl
        subst hcl hdl
        have hol' : (s.heap.push (setNew w)).get? l = some { cls := .type "list", dict := od, data := .seq items nl, slots := osl } := Heap.get?_push_of_some _ hol
        have hsls := F.sub_list_set
        have hslf := F.sub_list_frozenset
        have hne : (Value.type "list" == Value.type "dict") = false := by decide
        have hl1 : (s.heap.push (setNew w)).IsList l items := ⟨_, hol', rfl, nl, rfl⟩
        unfold Builtin.«set.__init__» noKeywords Builtin.Frozenset.updateFrom
        generalize hPI : pyIter = PI
        wp_walk
        subst hPI
        refine wpAny_pyIter_list hl1 (wpAny_bind (wpAny_runValue ?_))
        have lS : l < s.heap.objs.size := Heap.lt_size hol
        have hh3 : A.in1.in1.in1.handled = none := by simp [hh]
        have nI : l ≠ (s.heap.push (setNew w)).objs.size := by
          rw [Heap.size_push]
          exact Nat.ne_of_lt (Nat.lt_succ_of_lt lS)
        have nf : s.heap.objs.size ∉ [(s.heap.push (setNew w)).objs.size, l] := by
          rw [Heap.size_push]
          simp only [List.mem_cons, List.not_mem_nil, or_false, not_or]
          exact ⟨Nat.ne_of_lt (Nat.lt_succ_self _), Nat.ne_of_gt lS⟩
        have hval : ∀ (i : Nat) (v : Value), items[i]? = some v → ∃ x t, xs[i]? = some x ∧ v = .str x t := fun i v hv => by
          have hi : i < xs.length := by rw [← zz]; exact (Array.getElem?_eq_some_iff.mp hv).1
          obtain ⟨t, e⟩ := SS.strs_at hit i v (by rw [Array.getElem?_toList]; exact hv)
          refine ⟨xs[i], t, List.getElem?_eq_getElem hi, ?_⟩
          rw [e, List.getD_eq_getElem?_getD, List.getElem?_eq_getElem hi] <;> rfl
        refine updT ((Walks.list hh3 _ l nI items).toS) s.heap.objs.size nf xs zz hb hval (items.size - 0) 0 _ (by omega) (Nat.zero_le _) ⟨⟨_, Heap.get?_push_size _ rfl, rfl, rfl⟩, (hl1.push _)⟩ ?hS0 ?hR
        case hS0 =>
          refine ⟨0, Nat.le_refl 0, (setT_new (Heap.get?_push_of_some _ hS)).congr fun y => ?_⟩
          simp
        case hR =>
          rintro ⟨h', g2, d', tk', os'⟩ c' hm hc' hS'
          have eg : g2 = s.gens := hm.gens
          have ed : d' = s.drawn := hm.drawn
          have eo : os' = s.os := hm.os
          subst eg ed eo
          refine wpAny_pure ?_
          show wpAny _ _ (ret Value.none) _ _ _
          rw [zz] at hc'
          refine wpAny_pure ⟨rfl, h', tk', c', rfl, hS', hc', fun b o e => ?_⟩
          have b0 : b < s.heap.objs.size := Heap.lt_size e
          refine hm.heap b o ?_ (Heap.get?_push_of_some _ (Heap.get?_push_of_some _ e))
          rw [Heap.size_push]
          simp only [List.mem_cons, List.not_mem_nil, or_false, not_or]
          exact ⟨Nat.ne_of_lt b0, Nat.ne_of_lt (Nat.lt_succ_of_lt b0)⟩
      · cases r2 with
        | error e => exact hr2
        | ok fl2 =>
          cases fl2 with
          | ret r =>
            obtain ⟨rfl, h', tk, c', rfl, q1, q2, q3⟩ := hr2
            repeat (any_goals (first | assumption | wp_step))
            exact h _ _ _ q1 q2 q3
          | _ => exact hr2.elim
    | _ => exact hr.elim
end
end ES

set_option Elab.async false
set_option linter.all false
set_option maxRecDepth 100000
set_option maxHeartbeats 4000000
namespace ES
open PySem PySem.Spec PyProof.Rows L2
theorem strs_of : ∀ (l : List (Int × Value)) (w : World), (∀ p ∈ l, GoodT w p) → StrsAre (l.map (·.2)) (l.map keyT)
  | [], _, _ => .nil
  | p :: l, w, h => by
    obtain ⟨x, t, e1, _⟩ := h p List.mem_cons_self
    have r := strs_of l w fun q hq => h q (List.mem_cons_of_mem _ hq)
    obtain ⟨hsh, v⟩ := p
    dsimp only at e1
    subst e1
    exact .cons x t r
theorem strsAre_perm : ∀ {us vs : List Value}, us.Perm vs → ∀ {xs : List Str}, StrsAre vs xs → ∃ ys, StrsAre us ys ∧ ys.Perm xs := by
  intro us vs h
  induction h with
  | nil =>
    intro xs h
    cases h
    exact ⟨[], .nil, .nil⟩
  | cons x _ ih =>
    intro xs h
    cases h with
    | cons y t h =>
      obtain ⟨ys, h1, h2⟩ := ih h
      exact ⟨y :: ys, .cons y t h1, h2.cons y⟩
  | swap x y l =>
    intro xs h
    cases h with
    | cons a t h =>
      cases h with
      | cons b u h => exact ⟨b :: a :: _, .cons b u (.cons a t h), .swap ..⟩
  | trans _ _ ih1 ih2 =>
    intro xs h
    obtain ⟨ys, h1, h2⟩ := ih2 h
    obtain ⟨zs, h3, h4⟩ := ih1 h1
    exact ⟨zs, h3, h4.trans h2⟩
section
variable {P : Program} {w : World} {A : Around} {E : Value → Shared → Prop} {s : Shared} {a : Addr} {S : Str → Bool} {n : Nat}
theorem sorted_setT {Q : Value → Shared → Prop} (R : SetT w s.heap a S n) (hh : A.handled = none)
    (hQ : ∀ z p (out : Array Value) (c : Nat) (xs : List Str), (∀ b o, s.heap.get? b = some o → z.heap.get? b = some o) → z.gens = s.gens → z.os = s.os → s.heap.objs.size ≤ p →
      z.heap.get? p = some (seqObj "list" out c) → StrsAre out.toList xs → sortedS xs = true → xs.Nodup → (∀ x, x ∈ xs ↔ S x = true) → xs.length = n → Q (.ref p) z) :
    wpAny (model P w) A (call (.builtin "sorted") [.ref a]) Q E s := by
  obtain ⟨ob, es, ep, tb, ho, hex, hd, g, nd, hm, hb, hf, hn, hr, hl⟩ := R
  refine Calls.call_function_entry kind_sorted plain_sorted entry_sorted (args_sorted1 _) ?_
  unfold Builtin.«sorted»
  refine wpAny_bind (m := checkCount "sorted" 1 1 _) (wpAny_pure ?_)
  refine wpAny_bind (collect_set (A := A.in1) hh ⟨ob, ho, hex.1, hd⟩ hf hb hr hl fun s1 vs k1 hz g1 o1 pm => ?_)
  obtain ⟨ys, hy1, hy2⟩ := strsAre_perm pm (strs_of es.toList w g)
  have vl : vs.length = n := by
    have := pm.length_eq
    simp only [List.length_map, Array.length_toList] at this
    omega
  have nb : n ≤ sizeLine := by
    have := fits_of_scanBound hb
    omega
  refine wpAny_bind (wpAny_newList ?_ (by omega))
  have oL : (s1.heap.push (seqObj "list" vs.toArray 0)).get? s1.heap.objs.size = some (seqObj "list" vs.toArray 0) := Heap.get?_push_size _ rfl
  refine wpAny_bind (wpAny_holding (wpAny_call_entry slot_list_sort ⟨_, oL, rfl⟩ entry_list_sort (list_sort_treeKAny strKind_oneLt oL hy1.keysOf (fun v1 v2 rest e => keyKind_strs (by rw [← e]; exact hy1)) (by omega) fun st' hp hs => ⟨_, rfl, ?_⟩) (args_list_sort _)))
  obtain ⟨zs, q1, q2, q3⟩ := sorted_out_str hy1 hp hs
  obtain ⟨c, hc⟩ := sortedHeap_at (vs := vs) (out := (arrOf st').map (·.2)) oL
  have pz : zs.Perm (es.toList.map keyT) := q2.trans hy2
  refine wpAny_pure ⟨_, rfl, hQ _ s1.heap.objs.size _ c zs (fun b u e => ?_) g1 o1 hz hc q1 q3 (pz.nodup_iff.mpr nd) (fun x => by rw [pz.mem_iff, ← hm x]) ?_⟩
  · have q := k1 b u e
    have lt := Heap.lt_size q
    show (sortedHeap (s1.heap.push (seqObj "list" vs.toArray 0)) s1.heap.objs.size vs _).get? b = some u
    rw [sortedHeap_old (Nat.ne_of_lt lt) (by rw [size_push']; exact Nat.lt_succ_of_lt lt)]
    exact Heap.get?_push_of_some _ q
  · have := pz.length_eq
    simp only [List.length_map, Array.length_toList] at this
    omega
end
/-! ### over the layer -/
/-- the set of texts at a -/
def SetTO (w : World) (a : Addr) (S : Str → Bool) (n : Nat) : HO := .ext fun h => SetT w h a S n
theorem setTO_new {w : World} {P : Program} {H : Hp} {h : Heap} {a : Addr} {S : Str → Bool} {n : Nat} (R : SetT w h a S n) : ObjOk P w H h a (SetTO w a S n) := by
  have ⟨o, _, _, _, ho, _⟩ := R
  exact ⟨R, ⟨o, ho⟩, fun h1 h2 p k => SetT.at p k⟩
section
variable {X : Cx}
theorem setTO_get {pins : List (Addr × Obj)} {σ : L2.St} {H : Hp} {s : Shared} {a : Addr} {S : Str → Bool} {n : Nat} (I : Inv X pins σ H s) (ha : H a = some (SetTO X.w a S n)) : SetT X.w s.heap a S n := (I.hok a _ ha).1
/-- set(xs), xs a list of texts -/
def rSetOf (K : PySem.W.Frag) (w : World) : List V → Hp → VK → Prop := fun vs H Q => ∃ (a : Addr) (xs : List Str), vs = [.ref a] ∧ SqL K H a (xs.map V.str) ∧ xs.length ≤ 60 ∧
  ∀ p c, H p = none → c ≤ xs.length → Q (.ref p) (upd H p (SetTO w p (fun y => decide (y ∈ xs)) c))
theorem cr_setOf (hc : X.calm = true) : CallR X (.type "set") (rSetOf X.K X.w) := by
  intro pins s σ H vs us Q I r h
  obtain ⟨a, xs, rfl, hs, h60, q⟩ := h
  obtain ⟨its, rv, hl, _⟩ := I.list hs
  rw [Vals.ref1 r]
  refine call_setT xs (I.ok.hd hc) hl.isList (by simpa using rv.strs) (by unfold scanBound; omega) fun h' tk c R hc' k => ?_
  have hn : H s.heap.objs.size = none := I.hok.fresh (Nat.le_refl _)
  exact ⟨.ref _, _, I.laid (t' := tk) k (Nat.le_refl _) (setTO_new R), rfl, q _ c hn hc'⟩
/-- sorted(s) -/
def rSortSetT (w : World) : List V → Hp → VK → Prop := fun vs H Q => ∃ (a : Addr) (S : Str → Bool) (n : Nat), vs = [V.ref a] ∧ H a = some (SetTO w a S n) ∧
  ∀ (xs : List Str) (p : Addr), sortedS xs = true → xs.Nodup → (∀ x, x ∈ xs ↔ S x = true) → H p = none → Q (.ref p) (upd H p (.lst (xs.map V.str)))
theorem cr_sortSetT (hc : X.calm = true) : CallR X (.builtin "sorted") (rSortSetT X.w) := by
  intro pins s σ H vs us Q I r h
  obtain ⟨a, S, n, rfl, ha, q⟩ := h
  have R := setTO_get I ha
  rw [Vals.ref1 r]
  refine sorted_setT R (I.ok.hd hc) fun z p out c xs k g o hp hg hi hs hd hm hl => ?_
  have hlen : (xs.map V.str).length ≤ sizeLine := by
    obtain ⟨_, es, _, _, _, _, _, _, _, _, hb, _, hn, _⟩ := R
    have := fits_of_scanBound hb
    rw [List.length_map]
    omega
  have hn : H p = none := I.hok.fresh hp
  have J : Inv X pins σ (upd H p (.lst (xs.map V.str))) { s with heap := z.heap, gens := z.gens, drawn := z.drawn, toks := z.toks } :=
    I.call (ch := []) (Un.laid k hp hn) (I.hok.laid k hp ⟨hlen, out.toList, c, vals_of_strs hi, hg⟩) (by rw [g]; exact I.bare) (fun _ y => nomatch y)
  have e : z = { s with heap := z.heap, gens := z.gens, drawn := z.drawn, toks := z.toks } := by
    cases z
    cases s
    cases o
    rfl
  rw [e]
  exact ⟨.ref p, _, J, rfl, q xs p hs hd hm hn⟩
end
end ES

set_option Elab.async false
set_option linter.all false
set_option maxRecDepth 100000
set_option maxHeartbeats 4000000
namespace ES
open PySem PySem.Spec PyProof.Rows L2
section
variable {X : Cx}
theorem addTO {pins : List (Addr × Obj)} {σ : L2.St} {H : Hp} {s : Shared} {E : Value → Shared → Prop} {D : Addr} {S : Str → Bool} {n : Nat} {x : Str} {t : Tok} {Q : Value → Shared → Prop} (I : Inv X pins σ H s)
    (hD : H D = some (SetTO X.w D S n)) (room : n + 1 < scanBound) (q : ∀ z, Inv X pins σ (upd H D (SetTO X.w D (fun y => S y || decide (y = x)) (if S x = true then n else n + 1))) z → Q .none z) :
    wpAny (model X.prog X.w) X.A (call (.builtin "set.add") [.ref D, .str x t]) Q E s := by
  refine addT (setTO_get I hD) room fun h' sb r => ?_
  have he : ∃ u, h'.get? D = some u := by
    have ⟨o, _, _, _, ho, _⟩ := r
    exact ⟨o, ho⟩
  exact q _ (I.write (e := D) (t' := s.toks + 1) (by rw [hD]; trivial) (Or.inl rfl) (fun b u hb hu => (sb.2 b hb).trans hu) he (setTO_new r))
/-- {e for t in it if ..}, e a text -/
def tScT (w : World) (wi : TI) (g : TG) (tt : TT) (te : TE) (vs : List Nat) : TE := fun σ H Q => wi σ H fun J H1 => ∀ D, H1 D = none → ∃ W : Nat → Nat → Hp → Prop, (∃ m, W 0 m (upd H1 D (SetTO w D (fun _ => false) 0))) ∧ ∀ i m H, W i m H →
  (J.stop i H ∧ Q (.ref D) H) ∨ (J.go i H ∧ ∃ Nx : Hp → Prop, (∀ H', Nx H' → ∃ m', m' < m ∧ W (i + 1) m' H') ∧ ∀ x H', J.yld i H x H' → g x (wipe σ vs) H' fun σ2 H2 => wipe σ2 vs = wipe σ vs ∧ tt σ2 H2 fun b H3 =>
    if b = true then te σ2 H3 fun y H4 => ∃ (c : Str) (S : Str → Bool) (n : Nat), y = .str c ∧ H4 D = some (SetTO w D S n) ∧ n + 1 < scanBound ∧ Nx (upd H4 D (SetTO w D (fun j => S j || decide (j = c)) (if S c = true then n else n + 1))) else Nx H3)
theorem pe_scT {elt tg iter : Expr} {ifs : List Expr} {scope : Scope} {own : List (Str × Nat)} {pos : Pos} {wi : TI} {g : TG} {tt : TT} {te : TE} (hc : X.calm = true) (hN : X.N.Nodup) (hi : PI X tg iter wi) (ok : BlkOk X.N X.env.scope scope own)
    (hg : ∀ (s : Shared) (H : Hp) (C : Addr) (cl : List (Str × Addr)) (fp : List Addr), PG (X.blk s H scope (compEnvC scope cl C X.env) fp) tg g)
    (ht : ∀ (s : Shared) (H : Hp) (C : Addr) (cl : List (Str × Addr)) (fp : List Addr), PTs (X.blk s H scope (compEnvC scope cl C X.env) fp) ifs tt)
    (he : ∀ (s : Shared) (H : Hp) (C : Addr) (cl : List (Str × Addr)) (fp : List Addr), PE (X.blk s H scope (compEnvC scope cl C X.env) fp) elt te)
    (hs : ∀ x, foldedSetIterable iter X.env x = pure x := by intro _; rfl) : PE X (.SetComp elt [⟨tg, iter, ifs, 0⟩] scope pos) (tScT X.w wi g tt te (own.map (·.2))) := by
  refine ⟨fun pins s σ H Q I h => ?_⟩
  rw [PpSet.eval_SetComp]
  have fr : ∀ y ∈ scope.names, y.2 = .free → ∃ c, X.env.cells.lookup y.1 = some c := fun y hy z => (ok.free y hy z).elim (fun k => I.ok.has _ (Or.inl k)) fun k => I.ok.has _ (Or.inr k)
  refine wpAny_comprehension_free (use := none) rfl hs (closure_ok fr) ok.kind (fun y hy z => by rw [ok.uniq y hy, z]) (thn (hi.run pins s σ H _ I h) fun xv s1 hx => thn hx fun itv s2 h2 => ?_)
  obtain ⟨it, fp, tn, J, H2, rfl, I2, T, st2, f2, q⟩ := h2
  refine PpSet.newSet_ok (newEnv_comp ?_)
  generalize hD : s2.heap.objs.size = D
  have nD : H2 D = none := I2.hok.fresh (Nat.le_of_eq hD)
  obtain ⟨W, ⟨m0, w0⟩, turn⟩ := q D nD
  generalize e3 : ({ s2 with heap := s2.heap.push (setNew X.w) } : Shared) = s3
  have p3 : s3.heap = s2.heap.push (setNew X.w) := by rw [← e3]
  generalize eH : upd H2 D (SetTO X.w D (fun _ => false) 0) = H3 at w0
  have I3 : Inv X pins σ H3 s3 := by
    rw [← eH, ← e3]
    refine I2.laid (t' := s2.toks) (fun b o z => Heap.get?_push_of_some _ z) (Nat.le_of_eq hD) (setTO_new (setT_new ?_))
    rw [← hD]
    exact Heap.get?_push_size _ rfl
  have f3 : ∀ b ∈ fp, FpOk X pins H3 b ∧ b < s3.heap.objs.size := fun b hb => by
    obtain ⟨o, z, _⟩ := T.obj _ _ st2 b hb
    have lt := Heap.lt_size z
    refine ⟨⟨?_, (f2 b hb).2⟩, ?_⟩
    · rw [← eH, upd_ne (by rw [← hD]; exact Nat.ne_of_lt lt)]
      exact (f2 b hb).1
    · rw [p3, Heap.size_push]
      exact Nat.lt_succ_of_lt lt
  have st3 : tn 0 s3.heap := T.keep _ _ _ st2 fun b _ o z => by
    rw [p3]
    exact Heap.get?_push_of_some _ z
  have I4 := block_start I3 ok hN f3
  generalize ec : cellsFrom (s3.heap.objs.size + 1) scope.names (cloFrom X.env.cells scope.names []) = cl at I4 ⊢
  have pg := hg s3 H3 s3.heap.objs.size cl fp
  have pt := ht s3 H3 s3.heap.objs.size cl fp
  have pe := he s3 H3 s3.heap.objs.size cl fp
  show codeAny _ _ (.compStart (.SetComp elt [⟨tg, iter, ifs, 0⟩] scope pos) 0 (.ref it) (.ref D) (compEnvC scope cl s3.heap.objs.size X.env)) _ { s3 with heap := pushCells (s3.heap.push { cls := .type "dict", data := .dict #[] }) scope.names }
  generalize ecE : compEnvC scope cl s3.heap.objs.size X.env = cE at I4 pg pt pe ⊢
  have lE : cE.locals = s3.heap.objs.size := by
    subst ecE
    rfl
  generalize e4 : ({ s3 with heap := pushCells (s3.heap.push { cls := .type "dict", data := .dict #[] }) scope.names } : Shared) = s4 at I4 ⊢
  have st4 : tn 0 s4.heap := T.keep _ _ _ st3 fun b _ o z => by
    rw [← e4]
    exact pushCells_keeps _ _ _ _ (Heap.get?_push_of_some _ z)
  have fpB : ∀ {ρ : L2.St} {G : Hp} {z : Shared}, Inv (X.blk s3 H3 scope cE fp) [] ρ G z → (∀ b ∈ fp, G b = none) → ∀ b ∈ fp, FpOk (X.blk s3 H3 scope cE fp) [] G b := by
    intro ρ G z Iz hn b hb
    have y := Iz.ok.exf b hb
    exact ⟨hn b hb, y.1, Iz.ok.exfs b hb, Or.inl hb, fun u c v => y.2 u c v, fun p hp => absurd (show p ∈ ([] : List (Addr × Obj)) from hp) List.not_mem_nil⟩
  have loop : codeAny (model X.prog X.w) X.A (.compLoop (.SetComp elt [⟨tg, iter, ifs, 0⟩] scope pos) 0 (.ref it) (.ref D) cE) (compPost (model X.prog X.w) X.A X.xe none (EP X pins σ Q) (.ref D) s3.heap.objs.size) s4 := by
    refine PpSet.compLoopS_any (fun n z => ∃ i G, Inv (X.blk s3 H3 scope cE fp) [] (wipe σ (own.map (·.2))) G z ∧ tn i z.heap ∧ (∀ b ∈ fp, G b = none) ∧ W i n G) ?_ m0 ⟨0, H3, I4, st4, fun b hb => (f3 b hb).1.1, w0⟩
    rintro n s5 ⟨i, H5, I5, st5, n5, w5⟩
    rcases turn i n H5 w5 with ⟨stop, qq⟩ | ⟨go, Nx, hNx, step⟩
    · refine thnF (T.done (X.blk s3 H3 scope cE fp) rfl rfl rfl hc i [] s5 _ H5 (fun _ _ => False) I5 (fpB I5 n5) st5 stop) fun r s6 hh => ?_
      obtain ⟨rfl, I6⟩ := hh
      have I7 : Inv X pins σ H5 s6 := I3.call' (ch := fp) I6.os I6.base I6.hok I6.bare fun b hb =>
        let y := (f3 b hb).1
        ⟨y.2.2.2.1, y.2.1, y.2.2.2.2.1, y.2.2.2.2.2⟩
      have nC : H5 s3.heap.objs.size = none := lE ▸ (show H5 cE.locals = none from I6.free)
      obtain ⟨m, hn, _⟩ := I6.loc
      have hn' : s6.heap.Ns s3.heap.objs.size m := lE ▸ (show s6.heap.Ns cE.locals m from hn)
      obtain ⟨g0, g1, g2, g3, g4, g5⟩ := I3.fpOk (H' := H5) (Nat.le_refl _) nC
      exact ⟨m, hn', fun h'' sb => ⟨.ref D, H5, I7.turned (t' := s6.toks) (fun b o hb z => (sb.2 b hb).trans z) g0 g1 g3 g4 g5, rfl, qq⟩⟩
    · refine thnF (T.item (X.blk s3 H3 scope cE fp) rfl rfl rfl hc i [] s5 _ H5 (fun _ _ => False) I5 (fpB I5 n5) st5 go) fun r s6 hh => ?_
      obtain ⟨u, rfl, h6⟩ := hh
      refine thnF h6 fun _ s7 hh => ?_
      obtain ⟨y, H7, I7, r7, y7, st7, n7⟩ := hh
      have I8 := I7.pinned (fpB I7 n7) (T.obj _ _ st7)
      refine thnF (pg.run _ s7 _ H7 y u _ I8 r7 (step y H7 y7)) fun _ s8 hh => ?_
      obtain ⟨ρ, H8, I9, hw, q8⟩ := hh
      refine thnF (pt.run _ s8 ρ H8 _ I9 q8) fun b s9 hh => ?_
      obtain ⟨H9, I10, q9⟩ := hh
      have fin : ∀ {z : Shared} {G : Hp}, Inv (X.blk s3 H3 scope cE fp) ([] ++ pinsAt fp s7.heap) ρ G z → Nx G →
          ∃ m, m < n ∧ ∃ i G, Inv (X.blk s3 H3 scope cE fp) [] (wipe σ (own.map (·.2))) G z ∧ tn i z.heap ∧ (∀ b ∈ fp, G b = none) ∧ W i m G := by
        intro z G Iz nx
        obtain ⟨m', hm, w'⟩ := hNx G nx
        have pinz : ∀ b ∈ fp, ∀ o, s7.heap.get? b = some o → z.heap.get? b = some o ∧ G b = none := fun b hb o e =>
          let v := Iz.pin (b, o) (List.mem_append_right _ (List.mem_append_right _ (mem_pinsAt hb e)))
          ⟨v.1, v.2.1⟩
        refine ⟨m', hm, i + 1, G, (Iz.unpinned (pins := [])).weak (by rw [← hw, wipe_length]) (fun j v e => ?_), T.keep _ _ _ st7 fun b hb o e => (pinz b hb o e).1, fun b hb => ?_, w'⟩
        · rw [← hw] at e
          exact (wipe_some e).1
        · obtain ⟨o, e, _⟩ := T.obj _ _ st7 b hb
          exact (pinz b hb o e).2
      cases b with
      | false =>
        simp only [Bool.false_eq_true, if_false] at q9 ⊢
        exact fin I10 q9
      | true =>
        simp only [if_true] at q9 ⊢
        refine thnF (pe.run _ s9 ρ H9 _ I10 q9) fun z s10 hh => ?_
        obtain ⟨yv, H10, I11, r10, c, S0, n0, ey, hD10, hz10, nx⟩ := hh
        subst ey
        obtain ⟨tk, rfl⟩ := (show ∃ t, z = Value.str c t from r10)
        exact addTO (X := X.blk s3 H3 scope cE fp) I11 hD10 hz10 fun s11 I12 => fin I12 nx
  exact PpSet.codeAny_compStart_set loop (T.self X.A 0 _ _ _ st4 loop)
end
/-- over a list that the block leaves as it is -/
theorem scT_list {w : World} {K : PySem.W.Frag} {a : Addr} {xs : List V} {g : TG} {tt : TT} {te : TE} {vs : List Nat} {σ : L2.St} {H1 : Hp} {D : Addr} {Qd : Hp → Prop} (Pv : Nat → Hp → Prop) (h0 : Pv 0 (upd H1 D (SetTO w D (fun _ => false) 0)))
    (hl : ∀ i H, i ≤ xs.length → Pv i H → SqL K H a xs)
    (hs : ∀ i x H, xs[i]? = some x → Pv i H → g x (wipe σ vs) H fun σ2 H2 => wipe σ2 vs = wipe σ vs ∧ tt σ2 H2 fun b H3 =>
      if b = true then te σ2 H3 fun y H4 => ∃ (c : Str) (S : Str → Bool) (n : Nat), y = .str c ∧ H4 D = some (SetTO w D S n) ∧ n + 1 < scanBound ∧ Pv (i + 1) (upd H4 D (SetTO w D (fun j => S j || decide (j = c)) (if S c = true then n else n + 1))) else Pv (i + 1) H3)
    (hd : ∀ H, Pv xs.length H → Qd H) :
    ∃ W : Nat → Nat → Hp → Prop, (∃ m, W 0 m (upd H1 D (SetTO w D (fun _ => false) 0))) ∧ ∀ i m H, W i m H →
      ((Itl K a).stop i H ∧ Qd H) ∨ ((Itl K a).go i H ∧ ∃ Nx : Hp → Prop, (∀ H', Nx H' → ∃ m', m' < m ∧ W (i + 1) m' H') ∧ ∀ x H', (Itl K a).yld i H x H' → g x (wipe σ vs) H' fun σ2 H2 => wipe σ2 vs = wipe σ vs ∧ tt σ2 H2 fun b H3 =>
        if b = true then te σ2 H3 fun y H4 => ∃ (c : Str) (S : Str → Bool) (n : Nat), y = .str c ∧ H4 D = some (SetTO w D S n) ∧ n + 1 < scanBound ∧ Nx (upd H4 D (SetTO w D (fun j => S j || decide (j = c)) (if S c = true then n else n + 1))) else Nx H3) := by
  refine ⟨fun i m H => m = xs.length - i ∧ i ≤ xs.length ∧ Pv i H, ⟨xs.length, rfl, Nat.zero_le _, h0⟩, ?_⟩
  rintro i m H ⟨rfl, hi, p⟩
  have q := hl i H hi p
  by_cases lt : i < xs.length
  · refine Or.inr ⟨⟨xs, xs[i], q, by simp [lt]⟩, Pv (i + 1), fun H' p' => ⟨xs.length - (i + 1), by omega, rfl, lt, p'⟩, fun x H' y => ?_⟩
    obtain ⟨rfl, y⟩ := y
    exact hs i x _ (y xs q) p
  · have e : i = xs.length := by omega
    subst e
    exact Or.inl ⟨⟨xs, q, Nat.le_refl _⟩, hd H p⟩
end ES

set_option Elab.async false
set_option linter.all false
namespace ES
open PySem PySem.Spec PyProof.Rows L2
theorem rising_pw : ∀ (l : List Str) (p : Str), risingS p l = true → (p :: l).Pairwise (fun a b => a.cps.toList ≤ b.cps.toList)
  | [], p, _ => List.pairwise_singleton _ _
  | x :: r, p, h => by
    have h' : (!ltCps x.cps.toList p.cps.toList && risingS x r) = true := h
    rw [Bool.and_eq_true, ltCps_eq] at h'
    obtain ⟨h1, h2⟩ := h'
    have h3 : p.cps.toList ≤ x.cps.toList := by
      have : ¬ x.cps.toList < p.cps.toList := by simpa using h1
      exact List.not_lt.mp this
    have ih := rising_pw r x h2
    refine List.pairwise_cons.mpr ⟨fun y hy => ?_, ih⟩
    rcases List.mem_cons.mp hy with hy | hy
    · rw [hy]
      exact h3
    · exact List.le_trans h3 ((List.pairwise_cons.mp ih).1 y hy)
theorem str_ext {a b : Str} (h : a.cps.toList = b.cps.toList) : a = b := by
  cases a
  cases b
  congr 1
  exact Array.toList_inj.mp h
theorem sorted_lt {l : List Str} (h : sortedS l = true) (nd : l.Nodup) : l.Pairwise (fun a b => a.cps.toList < b.cps.toList) := by
  have p : l.Pairwise (fun a b => a.cps.toList ≤ b.cps.toList) := by
    cases l with
    | nil => exact .nil
    | cons x r => exact rising_pw r x h
  refine (List.pairwise_and_iff.mpr ⟨p, nd⟩).imp fun {a b} ⟨h1, h2⟩ => ?_
  refine Classical.byContradiction fun z => h2 (str_ext ?_)
  exact List.le_antisymm h1 (List.not_lt.mp z)
theorem lt_uniq : ∀ {xs ys : List Str}, xs.Pairwise (fun a b => a.cps.toList < b.cps.toList) → ys.Pairwise (fun a b => a.cps.toList < b.cps.toList) → (∀ x, x ∈ xs ↔ x ∈ ys) → xs = ys
  | [], [], _, _, _ => rfl
  | [], y :: ys, _, _, h => absurd ((h y).mpr List.mem_cons_self) List.not_mem_nil
  | x :: xs, [], _, _, h => absurd ((h x).mp List.mem_cons_self) List.not_mem_nil
  | x :: xs, y :: ys, hx, hy, h => by
    obtain ⟨x1, x2⟩ := List.pairwise_cons.mp hx
    obtain ⟨y1, y2⟩ := List.pairwise_cons.mp hy
    have e : x = y := by
      rcases List.mem_cons.mp ((h x).mp List.mem_cons_self) with e | e
      · exact e
      · rcases List.mem_cons.mp ((h y).mpr List.mem_cons_self) with e' | e'
        · exact e'.symm
        · exact absurd (List.lt_trans (x1 y e') (y1 x e)) (List.lt_irrefl _)
    subst e
    rw [lt_uniq x2 y2 fun z => ?_]
    constructor
    · intro hz
      rcases List.mem_cons.mp ((h z).mp (List.mem_cons_of_mem _ hz)) with e | e
      · rw [e] at hz
        exact absurd (x1 x hz) (List.lt_irrefl _)
      · exact e
    · intro hz
      rcases List.mem_cons.mp ((h z).mpr (List.mem_cons_of_mem _ hz)) with e | e
      · rw [e] at hz
        exact absurd (y1 x hz) (List.lt_irrefl _)
      · exact e
theorem sorted_uniq {xs ys : List Str} (h1 : sortedS xs = true) (h2 : sortedS ys = true) (n1 : xs.Nodup) (n2 : ys.Nodup) (h : ∀ x, x ∈ xs ↔ x ∈ ys) : xs = ys :=
  lt_uniq (sorted_lt h1 n1) (sorted_lt h2 n2) h
end ES

set_option Elab.async false
set_option linter.all false
set_option maxRecDepth 100000
set_option maxHeartbeats 4000000
namespace E
open PySem L2
def top (i : Nat) : Stmt := PySem.Challenge.pw_endchecks_k13_tests_met.main.body.getD i (.Pass ⟨0, 0, 0, 0⟩)
abbrev sBag : Stmt := top 6
abbrev sTake : Stmt := top 7

/-! ### reading a list's item for xs[i] op= e -/
section
variable {X : Cx}
def rGetL (K : PySem.W.Frag) : V → V → Hp → VK → Prop := fun x y H Q => ∃ p xs i v, x = .ref p ∧ y = .int i ∧ SqL K H p xs ∧ 0 ≤ i ∧ i < 2 ^ 62 ∧ xs[i.toNat]? = some v ∧ Q v H
theorem get_list : PGet X (rGetL X.K) := by
  intro pins s σ H x y ov iv Q I rx ry h
  obtain ⟨p, xs, i, z, rfl, rfl, hq, h0, h1, he, q⟩ := h
  cases rx
  obtain ⟨t, rfl⟩ := ry
  obtain ⟨its, r, pl, hz⟩ := I.list hq
  obtain ⟨w, ew, rw'⟩ := r.get he
  exact wpAny_getItem_list pl.isList h0 (by omega) (by simpa using ew) ⟨z, H, I, rw', q⟩
end

theorem q31 : (0 : Int) < 2147483647 := by decide
theorem q9 : (0 : Int) < 1000000007 := by decide
theorem q8 : (0 : Int) < 998244353 := by decide
/-! ### the bag -/
structure Bag (H : Hp) (b l : Addr) : Prop where
  at_ : ∃ (x y k : Int) (ns : List Int), H b = some (.lst [.int x, .int y, .int k, .ref l]) ∧ H l = some (.lst (ns.map V.int)) ∧ b ≠ l ∧ 0 ≤ x ∧ 0 ≤ y ∧ 0 ≤ k ∧ ns.length ≤ 63 ∧ ∀ n ∈ ns, 0 ≤ n
/-- all but b stands -/
def But (b : Addr) (H H' : Hp) : Prop := ∀ a o, a ≠ b → H a = some o → H' a = some o
theorem But.rfl {b : Addr} {H : Hp} : But b H H := fun _ _ _ e => e
theorem But.trans {b : Addr} {H1 H2 H3 : Hp} (h : But b H1 H2) (k : But b H2 H3) : But b H1 H3 := fun a o n e => k a o n (h a o n e)
theorem But.same {b : Addr} {H1 H2 : Hp} (h : Same H1 H2) : But b H1 H2 := fun a o _ e => h a o e

def spBag (K : PySem.W.Frag) : Sp := fun vs H Q _ => ∃ (a : Addr) (ns : List Int), vs = [.ref a] ∧ SqL K H a (ns.map V.int) ∧ ns.length ≤ 63 ∧
  ∀ H' b l, Same H H' → H b = none → H l = none → Bag H' b l → Q (.ref b) H'
def spTake : Sp := fun vs H Q _ => ∃ (b l : Addr) (m : Int), vs = [.ref b, .int m] ∧ 0 < m ∧ m < 1073741824 ∧ Bag H b l ∧
  ∀ (r : Int) H', 0 ≤ r → r < m → But b H H' → Bag H' b l → Q (.int r) H'

section
variable {P : Program} {w : World} {K : PySem.W.Frag} {mg : Str → Option Value} {base : Heap}
theorem scBag : FnScope ["_law_script", "_law_cell"] ["_law_script"] (defScope sBag) := ⟨rfl, rfl, rfl, by decide +kernel, rfl, by decide +kernel, by decide +kernel⟩
theorem ok_bag {f : Addr} {fd : FuncData} (F : Fun K "_law_bag" "_law_bag" sBag f fd) (nabs : mg "abs" = none) : FnOk P w K mg base CX0 1 f fd ["_law_script"] (spBag K) := by
  refine F.ok scBag (fun vs H Q E h => ?_) (fun cdv A outer s H vs Q E hr h => ?_)
  · obtain ⟨a, ns, rfl, _⟩ := h
    rfl
  · obtain ⟨a, ns, rfl, hS, hlen, k⟩ := h
    refine ⟨_, pss_one (ps_ret (pe_lst (pa_cons pe_int (pa_cons pe_int (pa_cons pe_int (pa_cons
      (pe_lc (own := [("_law_cell", 1)]) (g := gName 1) (tt := tYes) rfl scBag.nd (pi_list (pe_slice sl_list (pv 0) po_none (po_some pe_int)))
        (blkOk_by (N := ["_law_script", "_law_cell"]) (sc := defScope sBag) (by decide +kernel))
        (fun _ _ _ _ _ => pg_name (i := 1) scBag.nd rfl (Or.inl rfl)) (fun _ _ _ _ _ => pts_nil)
        (fun _ _ _ _ _ => pe_callB call_abs (by rfl) nabs (by decide +kernel) (pa_cons (pv 1) pa_nil))) pa_nil)))))), ?_⟩
    refine ⟨_, rfl, 63, rfl, a, _, rfl, hS, fun p hp => ?_⟩
    have s1 : Same H (upd H p (.lst (cutV (ns.map V.int) none (some 63)))) := fun b o e => by
      rw [upd_ne (ne_of_none e hp)]
      exact e
    obtain ⟨ms, hms, hml⟩ : ∃ ms : List Int, cutV (ns.map V.int) none (some 63) = ms.map V.int ∧ ms.length ≤ 63 := by
      refine ⟨((ns.drop (HT.sIx (ns.map V.int).length 0 none)).take (HT.sIx (ns.map V.int).length (ns.map V.int).length (some 63) - HT.sIx (ns.map V.int).length 0 none)), ?_, ?_⟩
      · unfold cutV
        rw [List.map_take, List.map_drop]
      · rw [List.length_take, List.length_drop]
        omega
    rw [hms] at s1 ⊢
    refine ⟨p, rfl, ⟨_, SqL.of upd_same⟩, fun D hD => lc_list (xs := ms.map V.int) (fun i H' => H D = none ∧ H p = none ∧ D ≠ p ∧ Same H H' ∧ H' p = some (.lst (ms.map V.int)) ∧ ∃ ks : List Int, H' D = some (.lst (ks.map V.int)) ∧ ks.length = i ∧ ∀ n ∈ ks, 0 ≤ n) ?_ ?_ ?_ ?_⟩
    · have nDp : D ≠ p := fun e => by
        rw [e, upd_same] at hD
        cases hD
      have hD0 : H D = none := by
        rw [upd_ne nDp] at hD
        exact hD
      refine ⟨hD0, hp, nDp, fun b o e => ?_, ?_, [], upd_same, rfl, fun n z => absurd z List.not_mem_nil⟩
      · rw [upd_ne (ne_of_none e hD0)]
        exact s1 _ _ e
      · rw [upd_ne nDp.symm, upd_same]
    · rintro i H' _ ⟨_, _, _, _, h5, _⟩
      exact SqL.of h5
    · rintro i x H' hx ⟨h1, h2, h3, h4, h5, ks, h6, h7, h8⟩
      obtain ⟨n, rfl⟩ : ∃ n, x = V.int n := by
        rw [List.getElem?_map] at hx
        cases e : ms[i]? with
        | none => rw [e] at hx; cases hx
        | some n => rw [e] at hx; exact ⟨n, (Option.some.inj hx).symm⟩
      refine ⟨rfl, ⟨_, rfl, n, rfl, ks.map V.int, h6, ?_, h1, h2, h3, fun b o e => ?_, ?_, ks ++ [if n < 0 then -n else n], ?_, ?_, ?_⟩⟩
      · have hi : i < ms.length := by
          have := (List.getElem?_eq_some_iff.mp hx).1
          rw [List.length_map] at this
          exact this
        rw [List.length_map, h7, sizeLine_eq]
        omega
      · rw [upd_ne (ne_of_none e h1)]
        exact h4 _ _ e
      · rw [upd_ne h3.symm]
        exact h5
      · rw [upd_same, List.map_append]
        rfl
      · rw [List.length_append, h7]
        rfl
      · intro z hz
        rcases List.mem_append.mp hz with hz | hz
        · exact h8 z hz
        · rw [List.mem_singleton.mp hz]
          split <;> omega
    · rintro H' ⟨h1, h2, h3, h4, h5, ks, h6, h7, h8⟩
      refine ⟨by show 4 ≤ sizeLine; decide, fun b hb => k _ b D (fun c o e => ?_) (h4.free hb) h1 ⟨⟨0, 1234567891, 0, ks, upd_same, ?_, ?_, ?_⟩⟩⟩
      · rw [upd_ne (ne_of_none (h4 _ _ e) hb)]
        exact h4 _ _ e
      · rw [upd_ne (ne_of_none h6 hb)]
        exact h6
      · exact (ne_of_none h6 hb).symm
      · refine ⟨by decide, by decide, by decide, ?_, h8⟩
        rw [h7, List.length_map]
        exact hml
theorem scTake : FnScope ["_law_bag_here", "_law_many", "_law_cell", "_law_mixed", "_law_drawn", "_law_early", "_law_second"] ["_law_bag_here", "_law_many"] (defScope sTake) := ⟨rfl, rfl, rfl, by decide +kernel, rfl, by decide +kernel, by decide +kernel⟩
theorem ok_take {f : Addr} {fd : FuncData} (F : Fun K "_law_take" "_law_take" sTake f fd) (nint : mg "int" = none) : FnOk P w K mg base CX0 1 f fd ["_law_bag_here", "_law_many"] spTake := by
  refine F.ok scTake (fun vs H Q E h => ?_) (fun cdv A outer s H vs Q E hr h => ?_)
  · obtain ⟨b, l, m, rfl, _⟩ := h
    rfl
  · obtain ⟨b, l, m, rfl, hm0, hm1, hB, k⟩ := h
    refine ⟨_, Evl.pss_cut (ps_if (pt_cmpR op_eq (pe_ix ix_list (pv 0) pe_int (fun _ _ => rfl)) pe_int (nomark _))
        (pss_cons (ps_set (i := 2) scTake.nd rfl (Or.inl rfl) (pe_ix ix_list (pe_op op_cat (pe_slice sl_list (pe_ix ix_list (pv 0) pe_int (fun _ _ => rfl)) (po_some (pe_ix ix_list (pv 0) pe_int (fun _ _ => rfl))) po_none) (pe_lst (pa_cons pe_int pa_nil))) pe_int (fun _ _ => rfl)))
        (pss_cons (ps_augS (pv 0) pe_int get_list pe_int ip_add set_list)
        (pss_cons (ps_asg (pe_op op_mul (pv 2) (pe_callTy call_int1 (by rfl) nint (by decide +kernel) (pa_cons (pe_cmpR op_ge (pv 2) (pe_op op_pow pe_int pe_int) (nomark _)) pa_nil))) (pg_sub (pv 0) pe_int set_list))
        (pss_cons (ps_set (i := 3) scTake.nd rfl (Or.inl rfl) (pe_op op_add (pe_op op_add (pe_op op_mul (pe_ix ix_list (pv 0) pe_int (fun _ _ => rfl)) pe_int) (pe_op op_mod (pe_callTy call_int1 (by rfl) nint (by decide +kernel) (pa_cons (pv 2) pa_nil)) pe_int)) (pe_op op_mul pe_int (pe_ix ix_list (pv 0) pe_int (fun _ _ => rfl)))))
        (pss_one (ps_asg (pe_op op_mod (pe_callTy call_int1 (by rfl) nint (by decide +kernel) (pa_cons (pv 3) pa_nil)) pe_int) (pg_sub (pv 0) pe_int set_list)))))))
        pss_nil)
      (pss_cons (ps_if (pt_cmpR op_gt (pe_ix ix_list (pv 0) pe_int (fun _ _ => rfl)) pe_int (nomark _))
        (pss_cons (ps_asg (pe_tup (pa_cons (pe_op op_mod (pe_callTy call_int1 (by rfl) nint (by decide +kernel) (pa_cons (pe_ix ix_list (pv 0) pe_int (fun _ _ => rfl)) pa_nil)) (pv 1)) (pa_cons (pe_op op_fdiv (pe_callTy call_int1 (by rfl) nint (by decide +kernel) (pa_cons (pe_ix ix_list (pv 0) pe_int (fun _ _ => rfl)) pa_nil)) (pv 1)) pa_nil)))
            (pg_tup (by rfl) (pgs_cons (pg_name (i := 4) scTake.nd rfl (Or.inl rfl)) (pgs_cons (pg_sub (pv 0) pe_int set_list) pgs_nil))))
        (pss_one (ps_ret (pv 4)))) pss_nil)
      (pss_cons (ps_set (i := 5) scTake.nd rfl (Or.inl rfl) (pe_op op_mod (pe_callTy call_int1 (by rfl) nint (by decide +kernel) (pa_cons (pe_op op_mul (pe_op op_add (pe_ix ix_list (pv 0) pe_int (fun _ _ => rfl)) pe_int) pe_int) pa_nil)) pe_int))
      (pss_cons (ps_set (i := 6) scTake.nd rfl (Or.inl rfl) (pe_op op_mod (pe_callTy call_int1 (by rfl) nint (by decide +kernel) (pa_cons (pe_op op_mul (pe_op op_mod (pe_callTy call_int1 (by rfl) nint (by decide +kernel) (pa_cons (pe_op op_mul (pv 5) (pv 5)) pa_nil)) pe_int) pe_int) pa_nil)) pe_int))
      (pss_one (ps_ret (pe_op op_mod (pe_callTy call_int1 (by rfl) nint (by decide +kernel) (pa_cons (pe_op op_fdiv (pv 6) pe_int) pa_nil)) (pv 1))))))), ?_⟩
    obtain ⟨x, y, c, ns, hb, hl, nbl, x0, y0, c0, h63, hns⟩ := hB.at_
    -- what follows the first if
    refine ⟨fun σ' H1 => ∃ (x1 y1 c1 : Int) (v2 v3 : Option V), σ' = [some (.ref b), some (.int m), v2, v3, none, none, none] ∧ H1 b = some (.lst [.int x1, .int y1, .int c1, .ref l]) ∧
      H1 l = some (.lst (ns.map V.int)) ∧ But b H H1 ∧ 0 ≤ x1 ∧ 0 ≤ y1 ∧ 0 ≤ c1, ?_, ?_⟩
    · refine ⟨_, rfl, b, _, 0, _, rfl, rfl, SqL.of hb, rfl, rfl, _, rfl, ?_⟩
      refine ite2 (fun _ => ?_) (fun _ => ⟨x, y, c, none, none, rfl, hb, hl, But.rfl, x0, y0, c0⟩)
      -- _law_cell = (bag[3][bag[2]:] + [0])[0]
      refine ⟨_, rfl, b, _, 3, _, rfl, rfl, SqL.of hb, rfl, _, rfl, b, _, 2, _, rfl, rfl, SqL.of hb, rfl, _, rfl, l, _, rfl, SqL.of hl, fun p hp => ?_⟩
      obtain ⟨ms, hms, hm63, hmn⟩ : ∃ ms : List Int, cutV (ns.map V.int) (some c) none = ms.map V.int ∧ ms.length ≤ 63 ∧ ∀ n ∈ ms, 0 ≤ n := by
        refine ⟨(ns.drop (HT.sIx (ns.map V.int).length 0 (some c))).take (HT.sIx (ns.map V.int).length (ns.map V.int).length none - HT.sIx (ns.map V.int).length 0 (some c)), ?_, ?_, ?_⟩
        · unfold cutV
          rw [List.map_take, List.map_drop]
        · rw [List.length_take, List.length_drop]
          omega
        · intro n hn
          exact hns n (List.mem_of_mem_drop (List.mem_of_mem_take hn))
      rw [hms]
      refine ⟨by show 1 ≤ sizeLine; decide, fun p2 hp2 => ?_⟩
      have n1 : p2 ≠ p := fun e => by
        rw [e, upd_same] at hp2
        cases hp2
      have hp20 : H p2 = none := by
        rw [upd_ne n1] at hp2
        exact hp2
      have nbp : b ≠ p := ne_of_none hb hp
      have nbp2 : b ≠ p2 := ne_of_none hb hp20
      have nlp : l ≠ p := ne_of_none hl hp
      have nlp2 : l ≠ p2 := ne_of_none hl hp20
      have u1 : upd (upd H p (.lst (ms.map V.int))) p2 (.lst [.int 0]) p = some (.lst (ms.map V.int)) := by rw [upd_ne n1.symm, upd_same]
      refine ⟨p, p2, _, _, rfl, rfl, u1, upd_same, ?_, fun p3 hp3 => ?_⟩
      · rw [List.length_map, sizeLine_eq]
        show ms.length + 1 ≤ _
        omega
      have n3 : p3 ≠ p := fun e => by rw [e, u1] at hp3; cases hp3
      have n4 : p3 ≠ p2 := fun e => by rw [e, upd_same] at hp3; cases hp3
      have hp30 : H p3 = none := by
        rw [upd_ne n4, upd_ne n3] at hp3
        exact hp3
      have nbp3 : b ≠ p3 := ne_of_none hb hp30
      have nlp3 : l ≠ p3 := ne_of_none hl hp30
      obtain ⟨z, rest, hz, z0⟩ : ∃ (z : Int) (rest : List V), ms.map V.int ++ [V.int 0] = V.int z :: rest ∧ 0 ≤ z := by
        cases ms with
        | nil => exact ⟨0, [], rfl, by decide⟩
        | cons q qs => exact ⟨q, qs.map V.int ++ [.int 0], rfl, hmn q List.mem_cons_self⟩
      rw [hz]
      refine ⟨p3, _, 0, _, rfl, rfl, SqL.of upd_same, atI_nat (j := 0) rfl, ?_⟩
      -- the heap from here on
      generalize hH4 : upd (upd (upd H p (.lst (ms.map V.int))) p2 (.lst [.int 0])) p3 (.lst (V.int z :: rest)) = H4
      have b4 : H4 b = some (.lst [.int x, .int y, .int c, .ref l]) := by
        rw [← hH4, upd_ne nbp3, upd_ne nbp2, upd_ne nbp]
        exact hb
      have l4 : H4 l = some (.lst (ns.map V.int)) := by
        rw [← hH4, upd_ne nlp3, upd_ne nlp2, upd_ne nlp]
        exact hl
      have s4 : But b H H4 := fun a o na e => by
        rw [← hH4, upd_ne (ne_of_none e hp30), upd_ne (ne_of_none e hp20), upd_ne (ne_of_none e hp)]
        exact e
      -- bag[2] += 1
      refine ⟨_, rfl, b, _, 2, _, rfl, rfl, SqL.of b4, by decide, by decide, rfl, c, 1, rfl, rfl, b, _, 2, 2, rfl, rfl, b4, rfl, ?_⟩
      -- bag[0] = cell * int(cell >= 10 ** 18)
      refine ⟨_, rfl, _, rfl, 10, 18, rfl, rfl, ⟨by decide, by decide, by decide⟩, z, _, rfl, rfl, Or.inr ⟨_, rfl, z, _, rfl, rfl, Or.inr ⟨?_, ?_⟩, _, rfl, b, _, 0, 0, rfl, rfl, upd_same, rfl, ?_⟩⟩
      · split <;> decide
      · split <;> decide
      have x10 : 0 ≤ z * (if decide ((10 : Int) ^ (18 : Int).toNat ≤ z) = true then 1 else 0) := by
        split
        · rw [Int.mul_one]
          exact z0
        · rw [Int.mul_zero]
          exact Int.le_refl 0
      rw [upd_upd]
      -- mixed = bag[1] * 48271 + int(cell) % 2147483647 + 7919 * bag[2]
      refine ⟨_, rfl, b, _, 1, _, rfl, rfl, SqL.of upd_same, rfl, y, 48271, rfl, rfl, Or.inr ⟨by decide, by decide⟩, _, rfl, Or.inl ⟨z, rfl, z, 2147483647, rfl, rfl, q31, _, _, rfl, rfl, _, rfl, b, _, 2, _, rfl, rfl, SqL.of upd_same, rfl, 7919, _, rfl, rfl, Or.inl ⟨by decide, by decide⟩, _, _, rfl, rfl, ?_⟩⟩
      -- bag[1] = int(mixed) % 2147483647
      refine ⟨_, rfl, Or.inl ⟨_, rfl, _, 2147483647, rfl, rfl, q31, _, rfl, b, _, 1, 1, rfl, rfl, upd_same, rfl, ?_⟩⟩
      rw [upd_upd]
      refine ⟨z * (if decide ((10 : Int) ^ (18 : Int).toNat ≤ z) = true then 1 else 0), (y * 48271 + z % 2147483647 + 7919 * (c + 1)) % 2147483647, c + 1, _, _, rfl, upd_same, ?_, fun a o na e => ?_, x10, Int.emod_nonneg _ (by decide), by omega⟩
      · rw [upd_ne nbl.symm]
        exact l4
      · rw [upd_ne na]
        exact s4 a o na e
    · rintro σ' H1 ⟨x1, y1, c1, v2, v3, rfl, hb1, hl1, hs1, x10, y10, c10⟩
      refine ⟨_, rfl, b, _, 0, _, rfl, rfl, SqL.of hb1, rfl, x1, 0, rfl, rfl, _, rfl, ?_⟩
      refine ite2 (fun _ => ?_) (fun _ => ?_)
      · -- drawn, bag[0] = int(bag[0]) % many, int(bag[0]) // many
        refine ⟨_, rfl, b, _, 0, _, rfl, rfl, SqL.of hb1, rfl, Or.inl ⟨x1, rfl, _, rfl, x1, m, rfl, rfl, hm0, _, rfl, b, _, 0, _, rfl, rfl, SqL.of hb1, rfl, Or.inl ⟨x1, rfl, _, rfl, x1, m, rfl, rfl, ⟨hm0, hm1⟩, ?_⟩⟩⟩
        refine ⟨by show 2 ≤ sizeLine; decide, fun t ht => ?_⟩
        have nbt : b ≠ t := ne_of_none hb1 ht
        refine ⟨t, _, rfl, SqT.of upd_same, rfl, _, _, rfl, _, _, rfl, _, rfl, b, _, 0, 0, rfl, rfl, by rw [upd_ne nbt]; exact hb1, rfl, rfl, _, rfl, ?_⟩
        refine k _ _ (Int.emod_nonneg _ (by omega)) (Int.emod_lt_of_pos _ hm0) (fun a o na e => ?_) ⟨⟨_, y1, c1, ns, upd_same, ?_, nbl, ?_, y10, c10, h63, hns⟩⟩
        · have e1 := hs1 a o na e
          rw [upd_ne na, upd_ne (ne_of_none e1 ht)]
          exact e1
        · rw [upd_ne nbl.symm, upd_ne (ne_of_none hl1 ht)]
          exact hl1
        · exact Int.ediv_nonneg x10 (by omega)
      · -- early, second
        refine ⟨_, rfl, b, _, 1, _, rfl, rfl, SqL.of hb1, rfl, y1, 1, rfl, rfl, _, 39373, rfl, rfl, Or.inr ⟨by decide, by decide⟩, Or.inl ⟨_, rfl, _, 1000000007, rfl, rfl, q9, ?_⟩⟩
        have e0 : 0 ≤ (y1 + 1) * 39373 % 1000000007 := Int.emod_nonneg _ (by decide)
        have e1 : (y1 + 1) * 39373 % 1000000007 < 1000000007 := Int.emod_lt_of_pos _ (by decide)
        refine ⟨_, rfl, _, rfl, _, _, rfl, rfl, Or.inl ⟨by omega, by omega⟩, Or.inl ⟨_, rfl, _, 998244353, rfl, rfl, q8, _, 30011, rfl, rfl, Or.inr ⟨by decide, by decide⟩, Or.inl ⟨_, rfl, _, 998244353, rfl, rfl, q8, ?_⟩⟩⟩
        refine ⟨_, rfl, _, 7, rfl, rfl, ⟨by decide, by decide⟩, Or.inl ⟨_, rfl, _, rfl, _, m, rfl, rfl, hm0, ?_⟩⟩
        exact k _ _ (Int.emod_nonneg _ (by omega)) (Int.emod_lt_of_pos _ hm0) hs1 ⟨⟨x1, y1, c1, ns, hb1, hl1, nbl, x10, y10, c10, h63, hns⟩⟩
end

theorem same_new {H H1 : Hp} {p : Addr} {o : HO} (s : Same H H1) (hp : H1 p = none) : Same H (upd H1 p o) := fun b u e => by
  have e1 := s b u e
  rw [upd_ne (ne_of_none e1 hp)]
  exact e1
theorem same_upd {H H1 : Hp} {p : Addr} {o : HO} (s : Same H H1) (hp : H p = none) : Same H (upd H1 p o) := fun b u e => by
  rw [upd_ne (ne_of_none e hp)]
  exact s b u e
theorem ifT {c : Bool} {A B : Prop} (h : c = true) (k : A) : if c = true then A else B := by
  rw [if_pos h]
  exact k
theorem ifF {c : Bool} {A B : Prop} (h : c = false) (k : B) : if c = true then A else B := by
  rw [h]
  exact iteF k
theorem Bag.same {H H1 : Hp} {b l : Addr} (B : Bag H b l) (s : Same H H1) : Bag H1 b l := by
  obtain ⟨x, y, k, ns, h1, h2, h3⟩ := B.at_
  exact ⟨⟨x, y, k, ns, s _ _ h1, s _ _ h2, h3⟩⟩
theorem Bag.ne {H : Hp} {b l p : Addr} (B : Bag H b l) (hp : H p = none) : p ≠ b := by
  obtain ⟨x, y, k, ns, h1, h2, h3⟩ := B.at_
  exact (ne_of_none h1 hp).symm
/-! ### the world: G is what stays as it is, b the bag, l its list -/
structure Wd (b l : Addr) (G H : Hp) : Prop where
  s : Same G H
  nb : G b = none
  lg : ∃ o, G l = some o
  bag : Bag H b l
/-- from one moment to a later one -/
structure Stp (b l : Addr) (G H G' H' : Hp) : Prop where
  g : Same G G'
  w : Wd b l G' H'
  but : But b H H'
  new : ∀ a, G a = none → H a ≠ none → G' a = none
section
variable {b l m p : Addr} {G H G1 H1 G2 H2 : Hp} {o : HO}
theorem Wd.refl (w : Wd b l G H) : Stp b l G H G H := ⟨Same.refl _, w, But.rfl, fun _ h _ => h⟩
theorem Wd.b_some (w : Wd b l G H) : H b ≠ none := by
  obtain ⟨x, y, k, ns, h1, _⟩ := w.bag.at_
  rw [h1]
  exact Option.some_ne_none _
theorem Stp.trans (a : Stp b l G H G1 H1) (c : Stp b l G1 H1 G2 H2) (w : Wd b l G H) : Stp b l G H G2 H2 := by
  refine ⟨a.g.trans c.g, c.w, a.but.trans c.but, fun x h1 h2 => c.new x (a.new x h1 h2) ?_⟩
  by_cases e : x = b
  · rw [e]
    exact a.w.b_some
  · cases q : H x with
    | none => exact absurd q h2
    | some u =>
      rw [a.but x u e q]
      exact Option.some_ne_none _
/-- take alone -/
theorem Wd.take (w : Wd b l G H) (h : But b H H1) (B : Bag H1 b l) : Stp b l G H G H1 :=
  ⟨Same.refl _, ⟨fun a u e => h a u (fun z => by rw [z, w.nb] at e; cases e) (w.s a u e), w.nb, w.lg, B⟩, h, fun _ z _ => z⟩
/-- a new object that stays as it is -/
theorem Wd.ice (w : Wd b l G H) (hp : H p = none) : Stp b l G H (upd G p o) (upd H p o) := by
  have np : p ≠ b := w.bag.ne hp
  have gp : G p = none := w.s.free hp
  refine ⟨same_new (Same.refl _) gp, ⟨fun a u e => ?_, ?_, ?_, w.bag.same (same_new (Same.refl _) hp)⟩, fun a u _ e => same_new (Same.refl _) hp a u e, fun a h1 h2 => ?_⟩
  · by_cases z : a = p
    · rw [z, upd_same] at e ⊢
      exact e
    · rw [upd_ne z] at e ⊢
      exact w.s a u e
  · rw [upd_ne np.symm]
    exact w.nb
  · obtain ⟨u, z⟩ := w.lg
    exact ⟨u, same_new (Same.refl _) gp _ _ z⟩
  · have z : a ≠ p := fun z => h2 (by rw [z]; exact hp)
    rw [upd_ne z]
    exact h1
/-- a new object that may change -/
theorem Wd.wet (w : Wd b l G H) (hp : H p = none) : Stp b l G H G (upd H p o) :=
  ⟨Same.refl _, ⟨same_new w.s hp, w.nb, w.lg, w.bag.same (same_new (Same.refl _) hp)⟩, fun a u _ e => same_new (Same.refl _) hp a u e, fun _ z _ => z⟩
/-- a change of what may change -/
theorem Wd.put (w : Wd b l G H) (hm : G m = none) (nm : m ≠ b) : Wd b l G (upd H m o) := by
  refine ⟨same_upd w.s hm, w.nb, w.lg, ?_⟩
  obtain ⟨x, y, k, ns, h1, h2, h3⟩ := w.bag.at_
  have nl : l ≠ m := by
    obtain ⟨u, z⟩ := w.lg
    exact ne_of_none z hm
  exact ⟨⟨x, y, k, ns, by rw [upd_ne nm.symm]; exact h1, by rw [upd_ne nl]; exact h2, h3⟩⟩
/-- what may change changes no more -/
theorem Wd.freeze (w : Wd b l G H) (hm : H m = some o) (nm : m ≠ b) (gm : G m = none) : Wd b l (upd G m o) H := by
  refine ⟨fun a u e => ?_, ?_, ?_, w.bag⟩
  · by_cases z : a = m
    · rw [z, upd_same] at e
      rw [z, hm]
      exact e
    · rw [upd_ne z] at e
      exact w.s a u e
  · rw [upd_ne nm.symm]
    exact w.nb
  · obtain ⟨u, z⟩ := w.lg
    exact ⟨u, same_new (Same.refl _) gm _ _ z⟩
end
end E

set_option Elab.async false
set_option linter.all false
set_option maxRecDepth 100000
set_option maxHeartbeats 4000000
namespace E
open PySem L2 TL
section
variable {b l m p q : Addr} {G0 H0 G H G1 H1 : Hp} {o o' : HO}
theorem Stp.take (t : Stp b l G0 H0 G H) (w0 : Wd b l G0 H0) (h : But b H H1) (B : Bag H1 b l) : Stp b l G0 H0 G H1 := t.trans (t.w.take h B) w0
theorem Stp.wet (t : Stp b l G0 H0 G H) (w0 : Wd b l G0 H0) (hp : H p = none) : Stp b l G0 H0 G (upd H p o) := t.trans (t.w.wet hp) w0
theorem Stp.ice (t : Stp b l G0 H0 G H) (w0 : Wd b l G0 H0) (hp : H p = none) : Stp b l G0 H0 (upd G p o) (upd H p o) := t.trans (t.w.ice hp) w0
/-- an object of this def's own: it may change -/
structure Loc (b : Addr) (H0 G H : Hp) (p : Addr) (o : HO) : Prop where
  h0 : H0 p = none
  g : G p = none
  nb : p ≠ b
  at_ : H p = some o
theorem Loc.some (L : Loc b H0 G H p o) : H p ≠ none := by
  rw [L.at_]
  exact Option.some_ne_none _
theorem Loc.step (L : Loc b H0 G H p o) (t : Stp b l G H G1 H1) : Loc b H0 G1 H1 p o := ⟨L.h0, t.new p L.g L.some, L.nb, t.but p o L.nb L.at_⟩
theorem Stp.free (t : Stp b l G0 H0 G H) (hp : H p = none) : H0 p = none := by
  cases e : H0 p with
  | none => rfl
  | some u =>
    have nb : p ≠ b := t.w.bag.ne hp
    rw [t.but p u nb e] at hp
    cases hp
theorem Loc.new (t : Stp b l G0 H0 G H) (hp : H p = none) : Loc b H0 G (upd H p o) p o := ⟨t.free hp, t.w.s.free hp, t.w.bag.ne hp, upd_same⟩
theorem Loc.put (L : Loc b H0 G H p o) : Loc b H0 G (upd H p o') p o' := ⟨L.h0, L.g, L.nb, upd_same⟩
theorem Loc.off (L : Loc b H0 G H p o) (n : p ≠ q) : Loc b H0 G (upd H q o') p o := ⟨L.h0, L.g, L.nb, by rw [upd_ne n]; exact L.at_⟩
theorem Loc.ne (L : Loc b H0 G H p o) (hq : H q = none) : p ≠ q := ne_of_none L.at_ hq
theorem Stp.put (t : Stp b l G0 H0 G H) (L : Loc b H0 G H m o) : Stp b l G0 H0 G (upd H m o') :=
  ⟨t.g, t.w.put L.g L.nb, fun a u n e => by
    rw [upd_ne (ne_of_none e L.h0)]
    exact t.but a u n e, t.new⟩
theorem Stp.frz (t : Stp b l G0 H0 G H) (L : Loc b H0 G H m o) : Stp b l G0 H0 (upd G m o) H :=
  ⟨same_new t.g L.g, t.w.freeze L.at_ L.nb L.g, t.but, fun a h1 h2 => by
    have z : a ≠ m := fun z => h2 (by rw [z]; exact L.h0)
    rw [upd_ne z]
    exact t.new a h1 h2⟩
theorem Stp.gat (t : Stp b l G0 H0 G H) (h : G p = some o) : H p = some o := t.w.s _ _ h
end
/-! ### texts -/
/-- a short plain text -/
def Sm (x : Str) : Prop := x.length ≤ 8 ∧ ∀ c ∈ x.cps.toList, c < 128
instance (x : Str) : Decidable (Sm x) := inferInstanceAs (Decidable (_ ∧ _))
abbrev lets : Str := "abcdefghijklmnopqrstuvwxyz"
abbrev wordsT : Str := "own not none some late now each done mark link tag row new self gone other"
def sgn (c : Nat) : Str := ⟨#[c]⟩
theorem lets_len : lets.length = 26 := by decide +kernel
theorem lets_ix : ∀ r : Int, 0 ≤ r → r < 26 → ∃ c ∈ lets.cps.toList, atI lets.cps.toList r = some c := by
  intro r h0 h1
  have hs : r.toNat < lets.cps.toList.length := by
    have : lets.cps.toList.length = 26 := by decide +kernel
    omega
  obtain ⟨k, rfl⟩ : ∃ k : Nat, r = (k : Int) := ⟨r.toNat, by omega⟩
  have hs' : k < lets.cps.toList.length := by omega
  exact ⟨lets.cps.toList[k], List.getElem_mem hs', atI_nat (by simp [List.getElem?_eq_getElem hs'])⟩
theorem lets_index : ∀ c ∈ lets.cps.toList, ∃ k, Txt.index0 lets (sgn c) = some k ∧ k < 26 := by
  have h : ∀ c ∈ lets.cps.toList, (match Txt.index0 lets (sgn c) with | some k => decide (k < 26) | none => false) = true := by decide +kernel
  intro c hc
  have q := h c hc
  cases e : Txt.index0 lets (sgn c) with
  | none =>
    rw [e] at q
    cases q
  | some k =>
    rw [e] at q
    exact ⟨k, rfl, of_decide_eq_true q⟩
def turned (k : Nat) : Str := cutS lets (some (k : Int)) none ++ cutS lets none (some (k : Int))
theorem turned_ok : ∀ k, k < 26 → (turned k).cps.toList.Nodup ∧ (turned k).cps.toList.length = 26 := by decide +kernel
theorem turned_sm : ∀ k, k < 26 → ∀ c ∈ (turned k).cps.toList, c < 128 := by decide +kernel
theorem lets_sm : ∀ c ∈ lets.cps.toList, c < 128 := by decide +kernel
def wordsL : List Str := Txt.split wordsT " "
theorem words_ok : wordsL.length ≤ 16 ∧ ∀ x ∈ wordsL, Sm x := by decide +kernel
theorem cutV_map {α : Type} (f : α → V) (xs : List α) (lo hi : Option Int) : cutV (xs.map f) lo hi = ((xs.drop (HT.sIx xs.length 0 lo)).take (HT.sIx xs.length xs.length hi - HT.sIx xs.length 0 lo)).map f := by
  unfold cutV
  rw [List.map_take, List.map_drop, List.length_map]
theorem joinL_len : ∀ ps : List (List Nat), (joinL [] ps).length = (ps.map List.length).sum
  | [] => rfl
  | [p] => by simp [joinL]
  | p :: q :: r => by
    show (p ++ ([] ++ joinL [] (q :: r))).length = _
    rw [List.nil_append, List.length_append, joinL_len (q :: r)]
    rfl
theorem tl_len (x : Str) : (tl x).length = x.length := by
  show x.cps.toList.length = x.cps.size
  exact Array.length_toList
theorem join_len (ys : List Str) : (Txt.join "" ys).length = (ys.map Str.length).sum := by
  rw [join_eq, ← tl_len, tl_join]
  show (joinL [] _).length = _
  rw [joinL_len, List.map_map]
  first | rfl | (congr 1; exact List.map_congr_left fun x _ => tl_len x)
theorem joinL_mem : ∀ {ps : List (List Nat)} {c : Nat}, c ∈ joinL [] ps → ∃ p ∈ ps, c ∈ p
  | [], c, h => absurd h List.not_mem_nil
  | [p], c, h => ⟨p, List.mem_cons_self, h⟩
  | p :: q :: r, c, h => by
    have h' : c ∈ p ++ ([] ++ joinL [] (q :: r)) := h
    rw [List.nil_append] at h'
    rcases List.mem_append.mp h' with h' | h'
    · exact ⟨p, List.mem_cons_self, h'⟩
    · obtain ⟨p', hp, hc⟩ := joinL_mem h'
      exact ⟨p', List.mem_cons_of_mem _ hp, hc⟩
theorem join_mem {ys : List Str} {c : Nat} (h : c ∈ (Txt.join "" ys).cps.toList) : ∃ y ∈ ys, c ∈ y.cps.toList := by
  have h' : c ∈ tl (Txt.join "" ys) := h
  rw [join_eq, tl_join] at h'
  obtain ⟨p, hp, hc⟩ := joinL_mem (show c ∈ joinL [] _ from h')
  obtain ⟨y, hy, rfl⟩ := List.mem_map.mp hp
  exact ⟨y, hy, hc⟩
theorem nodup_le {α : Type} [DecidableEq α] : ∀ {xs ys : List α}, xs.Nodup → (∀ x ∈ xs, x ∈ ys) → xs.length ≤ ys.length
  | [], _, _, _ => Nat.zero_le _
  | x :: xs, ys, nd, h => by
    obtain ⟨n1, n2⟩ := List.nodup_cons.mp nd
    have m := h x List.mem_cons_self
    have q := nodup_le (ys := ys.erase x) n2 fun y hy => (List.mem_erase_of_ne (fun e => n1 (by rw [← e]; exact hy))).mpr (h y (List.mem_cons_of_mem _ hy))
    have e := List.length_erase_of_mem m
    have z : 0 < ys.length := List.length_pos_of_mem m
    rw [List.length_cons]
    omega
theorem inV_strs (x : Str) (xs : List Str) : inV (.str x) (xs.map V.str) = decide (x ∈ xs) := by
  unfold inV
  induction xs with
  | nil => rfl
  | cons y ys ih =>
    rw [List.map_cons, List.any_cons, ih]
    show ((y == x) || _) = _
    by_cases e : y = x
    · subst e
      simp
    · have e' : x ≠ y := fun z => e z.symm
      simp [e, e']
theorem flat_strs (xs : List Str) : (xs.map V.str).all flatV = true := by
  rw [List.all_map]
  exact List.all_eq_true.mpr fun _ _ => rfl
theorem sgn_app_inj {c d : Nat} {r : Str} (h : sgn c ++ r = sgn d ++ r) : c = d := by
  have e : tl (sgn c ++ r) = tl (sgn d ++ r) := by rw [h]
  rw [tl_append, tl_append] at e
  have e2 := List.append_cancel_right e
  have e3 : [c] = [d] := e2
  injection e3
theorem fresh_one {zs : List Nat} {r : Str} {fs : List Str} (nd : zs.Nodup) (h : fs.length < zs.length) : ∃ c ∈ zs, (sgn c ++ r) ∉ fs := by
  refine Classical.byContradiction fun z => ?_
  have all : ∀ x ∈ zs.map (fun c => sgn c ++ r), x ∈ fs := by
    intro x hx
    obtain ⟨c, hc, rfl⟩ := List.mem_map.mp hx
    refine Classical.byContradiction fun y => z ⟨c, hc, y⟩
  have nd2 : (zs.map (fun c => sgn c ++ r)).Nodup := by
    refine List.pairwise_map.mpr (nd.imp fun hab e => hab (sgn_app_inj e))
  have q := nodup_le nd2 all
  rw [List.length_map] at q
  omega
theorem take_succ_filter {α : Type} {xs : List α} {i : Nat} {x : α} (f : α → Bool) (h : xs[i]? = some x) : (xs.take (i + 1)).filter f = (xs.take i).filter f ++ (if f x then [x] else []) := by
  rw [List.take_add_one, h, List.filter_append]
  congr 1
  cases e : f x <;> simp [e]
end E

set_option Elab.async false
set_option linter.all false
set_option maxRecDepth 100000
set_option maxHeartbeats 4000000
namespace E
open PySem L2 TL
abbrev sNames : Stmt := top 9
def spNames : Sp := fun vs H Q _ => ∃ (b l : Addr) (m : Int) (G : Hp), vs = [.ref b, .int m] ∧ 0 ≤ m ∧ m ≤ 8 ∧ Wd b l G H ∧
  ∀ (p : Addr) (xs : List Str) G' H', Stp b l G H G' H' → G' p = some (.lst (xs.map V.str)) → (xs.length : Int) = m → xs.Nodup → (∀ x ∈ xs, Sm x) → Q (.ref p) H'
abbrev nNames : List Str := ["_law_bag_here", "_law_many", "_law_letters", "_law_found", "_law_words", "_law_k", "_law_signs", "_law_at", "_law_rest", "_law_some", "_law_turn", "_law_one"]
theorem takesF {X : Cx} : Takes X (fun _ _ _ _ => False) := fun _ _ ⟨_, _, _, _, _, _, _, _, _, _, _, _, _, _, _, _, w⟩ => w.elim
section
variable {P : Program} {w : World} {K : PySem.W.Frag} {mg : Str → Option Value} {base : Heap}
theorem scNames : FnScope nNames ["_law_bag_here", "_law_many"] (defScope sNames) := ⟨rfl, rfl, rfl, by decide +kernel, rfl, by decide +kernel, by decide +kernel⟩
/-- what a def knows of take -/
structure TakeF (P : Program) (w : World) (K : PySem.W.Frag) (mg : Str → Option Value) (base : Heap) (f : Addr) (fd : FuncData) : Prop where
  G : FnOk P w K mg base CX0 1 f fd ["_law_bag_here", "_law_many"] spTake
  b : Binds K fd ["_law_bag_here", "_law_many"] []
  m : mg "_law_take" = some (.ref f)
  k : PySem.W.keepIn K (.ref f) = true
theorem ok_names {f fT : Addr} {fd fdT : FuncData} (F : Fun K "_law_names" "_law_names" sNames f fd) (T : TakeF P w K mg base fT fdT) (nint : mg "int" = none) (nra : mg "range" = none) :
    FnOk P w K mg base CX0 2 f fd ["_law_bag_here", "_law_many"] spNames := by
  refine F.ok scNames (fun vs H Q E h => ?_) (fun cdv A0 out s H vs Q E hr h => ?_)
  · obtain ⟨b, l, m, G, rfl, _⟩ := h
    rfl
  · obtain ⟨b, l, m, G, rfl, hm0, hm1, w0, k⟩ := h
    refine ⟨_, pss_cons (ps_asg (pe_tup (pa_cons pe_str (pa_cons (pe_lst pa_nil) pa_nil))) (pg_tup (by rfl) (pgs_cons (pg_name (i := 2) scNames.nd rfl (Or.inr rfl)) (pgs_cons (pg_name (i := 3) scNames.nd rfl (Or.inr rfl)) pgs_nil))))
      (pss_cons (ps_set (i := 4) scNames.nd rfl (Or.inl rfl) (pe_split pe_str pe_str))
      (pss_cons (ps_for PassesOwn.never rfl (pi_range1 rfl nra (pa_cons (pv 1) pa_nil)) (pg_name (i := 5) scNames.nd rfl (Or.inl rfl))
        (pss_cons (ps_setLc (i := 6) (own := [("_law_turn", 10)]) (g := gName 10) (tt := tYes) rfl scNames.nd rfl rfl (sw_true rfl rfl rfl (by decide +kernel))
            (pi_range1 rfl nra (pa_cons (pe_ix ix_list (pe_lst (pa_cons pe_int (pa_cons pe_int (pa_cons pe_int (pa_cons pe_int pa_nil))))) (pe_call T.G hr rfl T.m T.k T.b .nil pass0 (pa_cons (pv 0) (pa_cons pe_int pa_nil))) (fun _ _ => rfl)) pa_nil))
            (blkOk_by (N := nNames) (sc := defScope sNames) (by decide +kernel))
            (fun _ _ _ _ _ => pg_name (i := 10) scNames.nd rfl (Or.inl rfl)) (fun _ _ _ _ _ => pts_nil)
            (fun _ _ _ _ _ => pe_ix ix_str (pv 2) (pe_call T.G hr rfl T.m T.k T.b .nil pass0 (pa_cons (pv 0) (pa_cons pe_int pa_nil))) (fun _ _ => rfl)))
        (pss_cons (ps_asg (pe_tup (pa_cons (pe_bmS PySem.F.plainAttrs_str PySem.F.slot_str_index PySem.F.type_str_index (mt_indexX rfl takesF) (pv 2) (pa_cons (pe_ix ix_list (pv 6) pe_int (fun _ _ => rfl)) pa_nil))
              (pa_cons (pe_join pe_str (pe_slice sl_list (pv 6) (po_some pe_int) po_none)) pa_nil)))
            (pg_tup (by rfl) (pgs_cons (pg_name (i := 7) scNames.nd rfl (Or.inl rfl)) (pgs_cons (pg_name (i := 8) scNames.nd rfl (Or.inr rfl)) pgs_nil))))
        (pss_cons (ps_set (i := 9) scNames.nd rfl (Or.inl rfl) (pe_op op_cat
            (pe_op op_rep (pe_slice sl_list (pv 4) (po_some (pv 7)) po_none) (pe_callTy call_int1 (by rfl) nint (by decide +kernel) (pa_cons (pe_cmpR op_eq (pe_call T.G hr rfl T.m T.k T.b .nil pass0 (pa_cons (pv 0) (pa_cons pe_int pa_nil))) pe_int (nomark _)) pa_nil)))
            (pe_lc (own := [("_law_one", 11)]) (g := gName 11) (tt := tYes) rfl scNames.nd (pi_str (pe_op op_add_str (pe_slice sl_str (pv 2) (po_some (pv 7)) po_none) (pe_slice sl_str (pv 2) po_none (po_some (pv 7)))))
              (blkOk_by (N := nNames) (sc := defScope sNames) (by decide +kernel))
              (fun _ _ _ _ _ => pg_name (i := 11) scNames.nd rfl (Or.inl rfl)) (fun _ _ _ _ _ => pts_nil)
              (fun _ _ _ _ _ => pe_op op_add_str (pv 11) (pv 8)))))
        (pss_one (ps_expr (pe_bm PySem.F.plainAttrs_list PySem.F.slot_list_append PySem.F.type_list_append mt_append (pv 3) (pa_cons (pe_ix ix_list
            (pe_lc (own := [("_law_one", 11)]) (g := gName 11) (tt := tTest (tOp (rIn K true) (tVar 11) (tVar 3))) rfl scNames.nd (pi_list (pv 9))
              (blkOk_by (N := nNames) (sc := defScope sNames) (by decide +kernel))
              (fun _ _ _ _ _ => pg_name (i := 11) scNames.nd rfl (Or.inl rfl)) (fun _ _ _ _ _ => pts_one (pt_cmpR op_notIn_seq (pv 11) (pv 3) (by rfl)))
              (fun _ _ _ _ _ => pv 11)) pe_int (fun _ _ => rfl)) pa_nil))))))))
      (pss_one (ps_ret (pv 3))))), ?_⟩
    refine ⟨Nat.zero_le _, fun p hp => ⟨by show 2 ≤ sizeLine; decide, fun t ht => ?_⟩⟩
    have t0 := w0.refl
    have t1 := t0.wet (o := .lst []) w0 hp
    have L1 : Loc b H G (upd H p (.lst [])) p (.lst []) := Loc.new t0 hp
    refine ⟨t, _, rfl, SqT.of upd_same, rfl, _, _, rfl, _, _, rfl, rfl, ?_⟩
    have t2 := t1.wet (o := .tup [.str lets, .ref p]) w0 ht
    have L2 := L1.step (t1.w.wet (o := .tup [.str lets, .ref p]) ht)
    refine ⟨⟨_, rfl⟩, _, _, rfl, rfl, by decide +kernel, by decide +kernel, fun q hq => ?_⟩
    have t3 := t2.ice (o := .lst (wordsL.map V.str)) w0 hq
    have L3 := L2.step (t2.w.ice (o := .lst (wordsL.map V.str)) hq)
    refine ⟨_, rfl, m, rfl, by omega, by omega, for_range (lo := 0) (n := m.toNat) (fun i σ' H' => ∃ (v5 v6 v7 v8 v9 : Option V) (xs : List Str) (G' : Hp), σ' = [some (.ref b), some (.int m), some (.str lets), some (.ref p), some (.ref q), v5, v6, v7, v8, v9, none, none] ∧
      Stp b l G H G' H' ∧ Loc b H G' H' p (.lst (xs.map V.str)) ∧ G' q = some (.lst (wordsL.map V.str)) ∧ xs.length = i ∧ xs.Nodup ∧ ∀ x ∈ xs, Sm x)
      ⟨none, none, none, none, none, [], _, rfl, t3, L3, upd_same, rfl, List.nodup_nil, fun x hx => absurd hx List.not_mem_nil⟩ ?_ ?_⟩
    · rintro i σ' H1 hi ⟨v5, v6, v7, v8, v9, xs, G1, rfl, t4, L4, g4, xl, xnd, x8⟩
      refine ⟨by show 4 ≤ sizeLine; decide, fun a ha => ?_⟩
      have t5 := t4.wet (o := .lst [.int 1, .int 2, .int 8, .int 4]) w0 ha
      have L5 := L4.step (t4.w.wet (o := .lst [.int 1, .int 2, .int 8, .int 4]) ha)
      have A5 : Loc b H G1 _ a _ := Loc.new (o := .lst [.int 1, .int 2, .int 8, .int 4]) t4 ha
      refine ⟨_, rfl, b, l, 4, rfl, by decide, by decide, t5.w.bag, fun r H2 r0 r1 but2 B2 => ?_⟩
      have t6 := t5.take w0 but2 B2
      have L6 := L5.step (t5.w.take but2 B2)
      have A6 := A5.step (t5.w.take but2 B2)
      obtain ⟨n, hn, hat⟩ : ∃ n : Int, (n = 1 ∨ n = 2 ∨ n = 8 ∨ n = 4) ∧ atI [V.int 1, V.int 2, V.int 8, V.int 4] r = some (.int n) := by
        obtain rfl | rfl | rfl | rfl : r = 0 ∨ r = 1 ∨ r = 2 ∨ r = 3 := by omega
        · exact ⟨1, Or.inl rfl, rfl⟩
        · exact ⟨2, Or.inr (Or.inl rfl), rfl⟩
        · exact ⟨8, Or.inr (Or.inr (Or.inl rfl)), rfl⟩
        · exact ⟨4, Or.inr (Or.inr (Or.inr rfl)), rfl⟩
      refine ⟨a, _, r, _, rfl, rfl, SqL.of A6.at_, hat, n, rfl, by omega, by omega, fun D hD => lc_range (lo := 0) (n := n.toNat) (fun j H' => ∃ cs : List Nat, Stp b l G H G1 H' ∧ Loc b H G1 H' p (.lst (xs.map V.str)) ∧
        Loc b H G1 H' D (.lst ((cs.map sgn).map V.str)) ∧ D ≠ p ∧ cs.length = j ∧ ∀ c ∈ cs, c ∈ lets.cps.toList) ?_ ?_ ?_⟩
      · exact ⟨[], t6.wet w0 hD, L6.step (t6.w.wet hD), Loc.new t6 hD, (L6.ne hD).symm, rfl, fun c hc => absurd hc List.not_mem_nil⟩
      · rintro j H3 hj ⟨cs, t7, L7, D7, nDp, cl, ca⟩
        refine ⟨rfl, _, rfl, _, rfl, b, l, 26, rfl, by decide, by decide, t7.w.bag, fun r H4 r0 r1 but4 B4 => ?_⟩
        have t8 := t7.take w0 but4 B4
        have L8 := L7.step (t7.w.take but4 B4)
        have D8 := D7.step (t7.w.take but4 B4)
        obtain ⟨c, hc, hcat⟩ := lets_ix r r0 r1
        refine ⟨lets, r, c, rfl, rfl, by decide +kernel, hcat, _, D8.at_, ?_, cs ++ [c], ?_, L8.off nDp.symm, ?_, nDp, ?_, ?_⟩
        · rw [List.length_map, List.length_map, cl, sizeLine_eq]
          omega
        · exact t8.put D8
        · rw [List.map_append, List.map_append]
          exact D8.put
        · rw [List.length_append, cl]
          rfl
        · intro z hz
          rcases List.mem_append.mp hz with hz | hz
          · exact ca z hz
          · rw [List.mem_singleton.mp hz]
            exact hc
      rintro H3 ⟨cs, t7, L7, D7, nDp, cl, ca⟩
      -- at, rest
      obtain ⟨c0, cs', rfl⟩ : ∃ c0 cs', cs = c0 :: cs' := by
        cases cs with
        | nil =>
          exfalso
          have : n.toNat = 0 := cl.symm
          omega
        | cons c r => exact ⟨c, r, rfl⟩
      obtain ⟨at', hix, hat26⟩ := lets_index c0 (ca c0 List.mem_cons_self)
      refine ⟨_, rfl, rfl, _, rfl, D, _, 0, _, rfl, rfl, SqL.of D7.at_, atI_nat (j := 0) rfl, lets, sgn c0, rfl, rfl, fun k' hk => ?_, fun e => by rw [hix] at e; cases e⟩
      obtain rfl : at' = k' := by
        rw [hix] at hk
        exact Option.some.inj hk
      refine ⟨⟨_, rfl⟩, _, rfl, 1, rfl, D, _, rfl, SqL.of D7.at_, fun e he => ?_⟩
      rw [cutV_map]
      obtain ⟨ys, hys, hy7⟩ : ∃ ys : List Str, ys = ((((c0 :: cs').map sgn).drop (HT.sIx ((c0 :: cs').map sgn).length 0 (some 1))).take (HT.sIx ((c0 :: cs').map sgn).length ((c0 :: cs').map sgn).length none - HT.sIx ((c0 :: cs').map sgn).length 0 (some 1))) ∧ (ys.map Str.length).sum ≤ 7 := by
        refine ⟨_, rfl, ?_⟩
        have e1 : HT.sIx ((c0 :: cs').map sgn).length 0 (some 1) = 1 := by
          rw [show (1 : Int) = ((1 : Nat) : Int) from rfl, HT.sIx_nat, List.length_map, List.length_cons]
          omega
        rw [e1]
        have e2 : ∀ zs : List Str, (∀ z ∈ zs, z.length = 1) → (zs.map Str.length).sum = zs.length := by
          intro zs hz
          induction zs with
          | nil => rfl
          | cons z zs ih =>
            rw [List.map_cons, List.sum_cons, hz z List.mem_cons_self, ih fun y hy => hz y (List.mem_cons_of_mem _ hy), List.length_cons]
            omega
        rw [e2]
        · rw [List.length_take, List.length_drop, List.length_map, cl]
          omega
        · intro z hz
          obtain ⟨c, _, rfl⟩ := List.mem_map.mp (List.mem_of_mem_drop (List.mem_of_mem_take hz))
          rfl
      rw [← hys]
      have t8 := t7.wet (o := .lst (ys.map V.str)) w0 he
      have L8 := L7.step (t7.w.wet (o := .lst (ys.map V.str)) he)
      refine ⟨_, e, ys, rfl, rfl, Or.inl (SqL.of upd_same), ?_, by show 2 ≤ sizeLine; decide, fun u hu => ?_⟩
      · show (ys.map Str.length).sum + ys.length * 0 ≤ _
        omega
      have rlen : (Txt.join "" ys).length ≤ 7 := by
        rw [join_len]
        exact hy7
      have rsm : ∀ c ∈ (Txt.join "" ys).cps.toList, c < 128 := by
        intro c hc
        obtain ⟨y, hy, hcy⟩ := join_mem hc
        rw [hys] at hy
        obtain ⟨c', hc', rfl⟩ := List.mem_map.mp (List.mem_of_mem_drop (List.mem_of_mem_take hy))
        rw [List.mem_singleton.mp (show c ∈ [c'] from hcy)]
        exact lets_sm c' (ca c' hc')
      generalize hrest : Txt.join (Str.ofString "") ys = rest at rlen rsm ⊢
      have t9 := t8.wet (o := .tup [.int at', .str rest]) w0 hu
      have L9 := L8.step (t8.w.wet (o := .tup [.int at', .str rest]) hu)
      refine ⟨u, _, rfl, SqT.of upd_same, rfl, _, _, rfl, _, _, rfl, rfl, ?_⟩
      -- some
      refine ⟨_, rfl, _, rfl, at', rfl, q, _, rfl, SqL.of (t9.gat g4), fun s1 hs1 => ?_⟩
      rw [cutV_map]
      generalize hws : List.take _ (List.drop _ wordsL) = ws0
      have ws16 : ws0.length ≤ 16 := by
        have := words_ok.1
        rw [← hws, List.length_take, List.length_drop]
        omega
      have ws8 : ∀ x ∈ ws0, Sm x := fun x hx => by
        rw [← hws] at hx
        exact words_ok.2 x (List.mem_of_mem_drop (List.mem_of_mem_take hx))
      have t10 := t9.wet (o := .lst (ws0.map V.str)) w0 hs1
      have L10 := L9.step (t9.w.wet (o := .lst (ws0.map V.str)) hs1)
      have S10 : Loc b H G1 _ s1 _ := Loc.new (o := .lst (ws0.map V.str)) t9 hs1
      refine ⟨_, rfl, b, l, 8, rfl, by decide, by decide, t10.w.bag, fun r H4 r0 r1 but4 B4 => ?_⟩
      have t11 := t10.take w0 but4 B4
      have L11 := L10.step (t10.w.take but4 B4)
      have S11 := S10.step (t10.w.take but4 B4)
      refine ⟨rfl, Or.inr ⟨_, rfl, s1, _, _, rfl, rfl, S11.at_, ?_, ?_, ?_, fun s2 hs2 => ?_⟩⟩
      · split <;> decide
      · split <;> decide
      · rw [List.length_map, sizeLine_eq]
        split
        · show ws0.length * 1 ≤ _
          omega
        · show ws0.length * 0 ≤ _
          omega
      obtain ⟨ws, e2, wl, wa⟩ : ∃ ws : List Str, (List.replicate (if decide (V.int r = V.int 0) = true then (1 : Int) else 0).toNat (ws0.map V.str)).flatten = ws.map V.str ∧ ws.length ≤ 16 ∧ ∀ x ∈ ws, Sm x := by
        split
        · refine ⟨ws0, ?_, ws16, ws8⟩
          show (List.replicate 1 (ws0.map V.str)).flatten = _
          simp
        · exact ⟨[], rfl, Nat.zero_le _, fun x hx => absurd hx List.not_mem_nil⟩
      rw [e2] at ⊢
      have t12 := t11.wet (o := .lst (ws.map V.str)) w0 hs2
      have L12 := L11.step (t11.w.wet (o := .lst (ws.map V.str)) hs2)
      have S12 : Loc b H G1 _ s2 _ := Loc.new (o := .lst (ws.map V.str)) t11 hs2
      refine ⟨_, rfl, _, rfl, at', rfl, lets, rfl, by decide +kernel, _, rfl, _, rfl, at', rfl, lets, rfl, by decide +kernel, _, _, rfl, rfl, ?_, turned at', rfl, fun D2 hD2 => lc_it walk_str (fun j H' => Stp b l G H G1 H' ∧ Loc b H G1 H' p (.lst (xs.map V.str)) ∧
        Loc b H G1 H' s2 (.lst (ws.map V.str)) ∧ Loc b H G1 H' D2 (.lst ((((turned at').cps.toList.take j).map (fun c => sgn c ++ rest)).map V.str)) ∧ D2 ≠ p ∧ D2 ≠ s2) ?_ (fun _ _ _ _ => trivial) ?_ ?_⟩
      · have h1 := cutS_length lets (some (at' : Int)) none
        have h2 := cutS_length lets none (some (at' : Int))
        have h3 := lets_len
        rw [sizeLine_eq]
        omega
      · exact ⟨t12.wet w0 hD2, L12.step (t12.w.wet hD2), S12.step (t12.w.wet hD2), Loc.new t12 hD2, (L12.ne hD2).symm, (S12.ne hD2).symm⟩
      · rintro j x H5 _ hj ⟨t13, L13, S13, D13, n1, n2⟩ ⟨rfl, c, hc, rfl⟩
        have hc' : (turned at').cps.toList[j]? = some c := by simpa using hc
        refine ⟨rfl, _, rfl, _, rfl, _, _, rfl, rfl, ?_, _, D13.at_, ?_, t13.put D13, L13.off n1.symm, S13.off n2.symm, ?_, n1, n2⟩
        · show 1 + rest.length ≤ _
          rw [sizeLine_eq]
          omega
        · have := (turned_ok at' hat26).2
          rw [List.length_map, List.length_map, List.length_take, sizeLine_eq]
          omega
        · rw [List.take_add_one, hc', List.map_append, List.map_append]
          exact D13.put
      rintro H5 ⟨t13, L13, S13, D13, n1, n2⟩
      rw [List.take_of_length_le (by rw [Array.length_toList]; exact Nat.le_refl _)] at D13
      refine ⟨s2, D2, _, _, rfl, rfl, S13.at_, D13.at_, ?_, fun s3 hs3 => ?_⟩
      · have := (turned_ok at' hat26).2
        rw [List.length_map, List.length_map, List.length_map, sizeLine_eq]
        omega
      rw [← List.map_append]
      generalize hss : ws ++ (turned at').cps.toList.map (fun c => sgn c ++ rest) = ss
      have ssl : ss.length ≤ 42 := by
        have := (turned_ok at' hat26).2
        rw [← hss, List.length_append, List.length_map]
        omega
      have ss8 : ∀ x ∈ ss, Sm x := by
        intro x hx
        rw [← hss] at hx
        rcases List.mem_append.mp hx with hx | hx
        · exact wa x hx
        · obtain ⟨c, hcm, rfl⟩ := List.mem_map.mp hx
          have e : (sgn c ++ rest).length = 1 + rest.length := by
            rw [← tl_len, tl_append, List.length_append, tl_len, tl_len]
            rfl
          refine ⟨by omega, fun c' hc' => ?_⟩
          have h' : c' ∈ tl (sgn c ++ rest) := hc'
          rw [tl_append] at h'
          rcases List.mem_append.mp h' with h' | h'
          · rw [List.mem_singleton.mp (show c' ∈ [c] from h')]
            exact turned_sm at' hat26 c hcm
          · exact rsm c' h'
      have ssf : ∃ x ∈ ss, x ∉ xs := by
        obtain ⟨nd, nl⟩ := turned_ok at' hat26
        obtain ⟨c, hc, hn⟩ := fresh_one (r := rest) (fs := xs) nd (by omega)
        exact ⟨_, by rw [← hss]; exact List.mem_append_right _ (List.mem_map.mpr ⟨c, hc, rfl⟩), hn⟩
      have t14 := t13.wet (o := .lst (ss.map V.str)) w0 hs3
      have L14 := L13.step (t13.w.wet (o := .lst (ss.map V.str)) hs3)
      have S14 : Loc b H G1 _ s3 _ := Loc.new (o := .lst (ss.map V.str)) t13 hs3
      refine ⟨_, rfl, Or.inl ⟨rfl, _, SqL.of L14.at_⟩, _, rfl, s3, rfl, ⟨_, SqL.of S14.at_⟩, fun D3 hD3 => lc_list (xs := ss.map V.str) (fun j H' => Stp b l G H G1 H' ∧ Loc b H G1 H' p (.lst (xs.map V.str)) ∧
        Loc b H G1 H' s3 (.lst (ss.map V.str)) ∧ Loc b H G1 H' D3 (.lst (((ss.take j).filter (fun x => !decide (x ∈ xs))).map V.str)) ∧ D3 ≠ p ∧ D3 ≠ s3) ?_ ?_ ?_ ?_⟩
      · exact ⟨t14.wet w0 hD3, L14.step (t14.w.wet hD3), S14.step (t14.w.wet hD3), Loc.new t14 hD3, (L14.ne hD3).symm, (S14.ne hD3).symm⟩
      · rintro j H6 _ ⟨_, _, S15, _⟩
        exact SqL.of S15.at_
      · rintro j x H6 hx ⟨t15, L15, S15, D15, n1, n2⟩
        obtain ⟨y, hy, rfl⟩ : ∃ y, ss[j]? = some y ∧ x = V.str y := by
          rw [List.getElem?_map] at hx
          cases e : ss[j]? with
          | none => rw [e] at hx; cases hx
          | some n => rw [e] at hx; exact ⟨n, rfl, (Option.some.inj hx).symm⟩
        refine ⟨rfl, _, rfl, _, rfl, p, _, rfl, Or.inl (SqL.of L15.at_), rfl, flat_strs xs, _, rfl, ?_⟩
        show if (!inV (.str y) (xs.map V.str)) = true then _ else _
        rw [inV_strs]
        cases e : (!decide (y ∈ xs)) with
        | true =>
          refine ifT rfl ⟨_, rfl, _, D15.at_, ?_, t15.put D15, L15.off n1.symm, S15.off n2.symm, ?_, n1, n2⟩
          · have := List.length_filter_le (fun x => !decide (x ∈ xs)) (ss.take j)
            rw [List.length_take] at this
            rw [List.length_map, sizeLine_eq]
            omega
          · rw [take_succ_filter _ hy, if_pos e, List.map_append]
            exact D15.put
        | false =>
          refine ifF rfl ⟨t15, L15, S15, ?_, n1, n2⟩
          rw [take_succ_filter _ hy, e]
          simpa using D15
      · rintro H6 ⟨t15, L15, S15, D15, n1, n2⟩
        rw [List.length_map, List.take_of_length_le (Nat.le_refl _)] at D15
        obtain ⟨y, ys', hy⟩ : ∃ y ys', ss.filter (fun x => !decide (x ∈ xs)) = y :: ys' := by
          cases e : ss.filter (fun x => !decide (x ∈ xs)) with
          | nil =>
            obtain ⟨x, h1, h2⟩ := ssf
            have : x ∈ ss.filter (fun x => !decide (x ∈ xs)) := List.mem_filter.mpr ⟨h1, by simpa using h2⟩
            rw [e] at this
            exact absurd this List.not_mem_nil
          | cons y ys => exact ⟨y, ys, rfl⟩
        have ym : y ∈ ss ∧ y ∉ xs := by
          have : y ∈ ss.filter (fun x => !decide (x ∈ xs)) := by rw [hy]; exact List.mem_cons_self
          obtain ⟨h1, h2⟩ := List.mem_filter.mp this
          exact ⟨h1, by simpa using h2⟩
        rw [hy] at D15
        refine ⟨D3, _, 0, _, rfl, rfl, SqL.of D15.at_, atI_nat (j := 0) rfl, p, _, _, rfl, rfl, L15.at_, ?_, ?_⟩
        · rw [List.length_map, sizeLine_eq]
          omega
        refine ⟨_, _, _, _, _, xs ++ [y], G1, rfl, t15.put L15, ?_, g4, ?_, ?_, ?_⟩
        · rw [List.map_append]
          exact L15.put
        · rw [List.length_append, xl]
          rfl
        · refine List.nodup_append.mpr ⟨xnd, List.nodup_cons.mpr ⟨List.not_mem_nil, List.nodup_nil⟩, ?_⟩
          intro z hz z' hz' e
          rw [List.mem_singleton.mp hz'] at e
          exact ym.2 (by rw [← e]; exact hz)
        · intro z hz
          rcases List.mem_append.mp hz with hz | hz
          · exact x8 z hz
          · rw [List.mem_singleton.mp hz]
            exact ss8 y ym.1
    · rintro σ' H1 ⟨v5, v6, v7, v8, v9, xs, G1, rfl, t4, L4, g4, xl, xnd, x8⟩
      exact ⟨_, rfl, k p xs _ _ (t4.frz L4) upd_same (by omega) xnd x8⟩
end
end E

set_option Elab.async false
set_option linter.all false
set_option maxRecDepth 100000
set_option maxHeartbeats 4000000
namespace E
open PySem L2 TL
section
variable {X : Cx}
/-- a test's end in one word -/
def tCutT (t : TT) : TT := fun σ H k => ∃ Mid : Bool → Hp → Prop, t σ H Mid ∧ ∀ c H', Mid c H' → k c H'
theorem pt_cut {e : Expr} {t : TT} (h : PT X e t) : PT X e (tCutT t) := by
  refine ⟨fun pins s σ H Q I hh => ?_⟩
  obtain ⟨Mid, h1, h2⟩ := hh
  exact thn (h.run pins s σ H Mid I h1) fun b s' ⟨H', I', q⟩ => ⟨H', I', h2 b H' q⟩
/-- a value's end in one word -/
def tCutE (t : TE) : TE := fun σ H k => ∃ Mid : V → Hp → Prop, t σ H Mid ∧ ∀ c H', Mid c H' → k c H'
theorem pe_cut {e : Expr} {t : TE} (h : PE X e t) : PE X e (tCutE t) := by
  refine ⟨fun pins s σ H Q I hh => ?_⟩
  obtain ⟨Mid, h1, h2⟩ := hh
  exact thn (h.run pins s σ H Mid I h1) fun b s' ⟨v, H', I', r, q⟩ => ⟨v, H', I', r, h2 v H' q⟩
/-- d != {} -/
def rNeE : R2 := fun x y H Q => ∃ a b ks, x = .ref a ∧ y = .ref b ∧ H a = some (.dK ks) ∧ H b = some (.dK []) ∧ Q (.bl (!ks.isEmpty)) H
theorem op_neE (hu : X.A.units < cLine) : OpR X (compareOp .NotEq) rNeE := by
  intro pins s σ H x y v u Q I rx ry h
  obtain ⟨a, b, ks, rfl, rfl, ea, eb, q⟩ := h
  obtain rfl : v = Value.ref a := rx
  obtain rfl : u = Value.ref b := ry
  obtain ⟨_, ya, va, ra, da⟩ := (show ObjOk X.prog X.w H s.heap a (.dK ks) from I.hok a _ ea)
  obtain ⟨_, yb, vb, rb, db⟩ := (show ObjOk X.prog X.w H s.heap b (.dK []) from I.hok b _ eb)
  have hb0 : vb.length = 0 := by rw [← rb.length]; rfl
  have ha0 : va.length = ks.length := by rw [← ra.length]
  cases ks with
  | nil => exact PySem.W.keq_ne (knd := mixKind X.prog X.w) (r := true) ya yb da db hu (fun _ => hits_all rb ra (fun p hp => absurd hp List.not_mem_nil)) (fin_bl I q (by simp [ha0, hb0]))
  | cons k ks =>
    rw [List.length_cons] at ha0
    refine PySem.W.keq_ne (knd := mixKind X.prog X.w) (r := false) ya yb da db hu (fun hl => ?_) (fin_bl I q (by simp [ha0, hb0]))
    exfalso
    first | omega | (simp [ha0, hb0] at hl)
end
/-! ### fields -/
inductive Fd
  | mark (ws : List Str)
  | link (t : Str)
  | tag
def Fd.ok : Fd → Prop
  | .mark ws => ws ≠ [] ∧ ws.length ≤ 3 ∧ ∀ x ∈ ws, Sm x
  | _ => True
def FdAt (G : Hp) (v : V) : Fd → Prop
  | .mark ws => ∃ t q, v = .ref t ∧ G t = some (.tup [.str "mark", .ref q]) ∧ G q = some (.lst (ws.map V.str))
  | .link u => ∃ t, v = .ref t ∧ G t = some (.tup [.str "link", .str u])
  | .tag => ∃ t, v = .ref t ∧ G t = some (.tup [.str "tag"])
theorem FdAt.mono {G G' : Hp} {v : V} {f : Fd} (s : Same G G') (h : FdAt G v f) : FdAt G' v f := by
  cases f with
  | mark ws =>
    obtain ⟨t, q, e, h1, h2⟩ := h
    exact ⟨t, q, e, s _ _ h1, s _ _ h2⟩
  | link u =>
    obtain ⟨t, e, h1⟩ := h
    exact ⟨t, e, s _ _ h1⟩
  | tag =>
    obtain ⟨t, e, h1⟩ := h
    exact ⟨t, e, s _ _ h1⟩
def FEnt (G : Hp) (kv : Key × V) : Prop := ∃ (x : Str) (f : Fd), kv.1 = .inr x ∧ Sm x ∧ FdAt G kv.2 f ∧ f.ok
def FAll (G : Hp) (kvs : List (Key × V)) : Prop := ∀ kv ∈ kvs, FEnt G kv
theorem FAll.mono {G G' : Hp} {kvs : List (Key × V)} (s : Same G G') (h : FAll G kvs) : FAll G' kvs := fun kv hk => by
  obtain ⟨x, f, h1, h2, h3, h4⟩ := h kv hk
  exact ⟨x, f, h1, h2, h3.mono s, h4⟩
theorem putK_len {κ : Type} [DecidableEq κ] (kvs : List (κ × V)) (k : κ) (v : V) : (putK kvs k v).length ≤ kvs.length + 1 := by
  unfold putK
  split
  · rw [List.length_map]
    omega
  · rw [List.length_append]
    exact Nat.le_refl _
theorem putK_mem {κ : Type} [DecidableEq κ] {kvs : List (κ × V)} {k : κ} {v : V} {p : κ × V} (h : p ∈ putK kvs k v) : p ∈ kvs ∨ p = (k, v) := by
  unfold putK at h
  split at h
  · obtain ⟨q, hq, e⟩ := List.mem_map.mp h
    by_cases c : q.1 = k
    · rw [if_pos c] at e
      exact Or.inr (by rw [← e, c])
    · rw [if_neg c] at e
      exact Or.inl (by rw [← e]; exact hq)
  · rcases List.mem_append.mp h with h | h
    · exact Or.inl h
    · exact Or.inr (List.mem_singleton.mp h)
theorem FAll.put {G : Hp} {kvs : List (Key × V)} {x : Str} {v : V} {f : Fd} (h : FAll G kvs) (hx : Sm x) (hf : FdAt G v f) (ok : f.ok) : FAll G (putK kvs (.inr x) v) := fun p hp => by
  rcases putK_mem hp with hp | hp
  · exact h p hp
  · rw [hp]
    exact ⟨x, f, rfl, hx, hf, ok⟩
theorem valV_mem {κ : Type} [DecidableEq κ] {kvs : List (κ × V)} {k : κ} {v : V} (h : valV kvs k = some v) : (k, v) ∈ kvs := by
  induction kvs with
  | nil => cases h
  | cons p r ih =>
    by_cases c : p.1 = k
    · rw [valV_pos c] at h
      rw [← c, ← Option.some.inj h]
      exact List.mem_cons_self
    · rw [valV_neg c] at h
      exact List.mem_cons_of_mem _ (ih h)
theorem valV_has {κ : Type} [DecidableEq κ] {kvs : List (κ × V)} {k : κ} (h : k ∈ kvs.map (·.1)) : ∃ v, valV kvs k = some v := by
  induction kvs with
  | nil => exact absurd h List.not_mem_nil
  | cons p r ih =>
    by_cases c : p.1 = k
    · exact ⟨p.2, valV_pos c⟩
    · rw [valV_neg c]
      rcases List.mem_cons.mp h with h | h
      · exact absurd h.symm c
      · exact ih h
/-- the keys as texts -/
theorem FAll.keys {G : Hp} : ∀ {kvs : List (Key × V)}, FAll G kvs → ∃ ks : List Str, kvs.map (·.1) = ks.map Sum.inr ∧ ∀ x ∈ ks, Sm x
  | [], _ => ⟨[], rfl, fun x hx => absurd hx List.not_mem_nil⟩
  | kv :: r, h => by
    obtain ⟨x, f, h1, h2, _⟩ := h kv List.mem_cons_self
    obtain ⟨ks, e, a⟩ := FAll.keys fun p hp => h p (List.mem_cons_of_mem _ hp)
    refine ⟨x :: ks, ?_, fun y hy => ?_⟩
    · rw [List.map_cons, List.map_cons, h1, e]
    · rcases List.mem_cons.mp hy with hy | hy
      · rw [hy]
        exact h2
      · exact a y hy
abbrev sFields : Stmt := top 10
def spFields : Sp := fun vs H Q _ => ∃ (b l tb : Addr) (rare : Int) (ts : List Str) (G : Hp), vs = [.ref b, .ref tb, .int rare] ∧ 0 < rare ∧ rare < 1073741824 ∧ G tb = some (.lst (ts.map V.str)) ∧ ts ≠ [] ∧ ts.length ≤ 60 ∧ Wd b l G H ∧
  ∀ (d : Addr) (kvs : List (Key × V)) G' H', Stp b l G H G' H' → G' d = some (.dK kvs) → FAll G' kvs → kvs.length ≤ 6 → Q (.ref d) H'
abbrev nFields : List Str := ["_law_bag_here", "_law_tables", "_law_rare", "_law_labels", "_law_found", "_law_k", "_law_sort"]
section
variable {P : Program} {w : World} {K : PySem.W.Frag} {mg : Str → Option Value} {base : Heap}
theorem scFields : FnScope nFields ["_law_bag_here", "_law_tables", "_law_rare"] (defScope sFields) := ⟨rfl, rfl, rfl, by decide +kernel, rfl, by decide +kernel, by decide +kernel⟩
structure NamesF (P : Program) (w : World) (K : PySem.W.Frag) (mg : Str → Option Value) (base : Heap) (f : Addr) (fd : FuncData) : Prop where
  G : FnOk P w K mg base CX0 2 f fd ["_law_bag_here", "_law_many"] spNames
  b : Binds K fd ["_law_bag_here", "_law_many"] []
  m : mg "_law_names" = some (.ref f)
  k : PySem.W.keepIn K (.ref f) = true
theorem ok_fields {f fT fN : Addr} {fd fdT fdN : FuncData} (F : Fun K "_law_fields" "_law_fields" sFields f fd) (T : TakeF P w K mg base fT fdT) (N : NamesF P w K mg base fN fdN) (nlen : mg "len" = none) (nra : mg "range" = none) :
    FnOk P w K mg base CX0 3 f fd ["_law_bag_here", "_law_tables", "_law_rare"] spFields := by
  refine F.ok scFields (fun vs H Q E h => ?_) (fun cdv A0 out s H vs Q E hr h => ?_)
  · obtain ⟨b, l, tb, rare, ts, G, rfl, _⟩ := h
    rfl
  · obtain ⟨b, l, tb, rare, ts, G, rfl, hr0, hr1, gts, tne, tl60, w0, k⟩ := h
    have hr1' : Room 1 _ := hr.mono (by decide)
    refine ⟨_, pss_cons (ps_par (i := 3) (j := 4) (by rfl) scFields.nd rfl rfl (by decide) rfl rfl (pa_cons (pe_call N.G hr rfl N.m N.k N.b .nil pass0 (pa_cons (pv 0) (pa_cons pe_int pa_nil))) (pa_cons pe_dnewK pa_nil)) (by rfl))
      (pss_cons (ps_for PassesOwn.never rfl (pi_range1 rfl nra (pa_cons pe_int pa_nil)) (pg_name (i := 5) scFields.nd rfl (Or.inl rfl))
        (pss_one (ps_if (pt_cut (PW.pt (pw_or (PW.pt (pw_and (pt_cmpR op_lt (pv 5) pe_int (nomark _)) (pw_and1 (pt_cmpR op_gt (pe_call T.G hr1' rfl T.m T.k T.b .nil pass0 (pa_cons (pv 0) (pa_cons pe_int pa_nil))) pe_int (nomark _)))))
            (pw_or1 (PW.pt (pw_and (pt_cmpR op_gt (pv 5) pe_int (nomark _)) (pw_and1 (pt_cmpR op_eq (pe_call T.G hr1' rfl T.m T.k T.b .nil pass0 (pa_cons (pv 0) (pa_cons (pv 2) pa_nil))) pe_int (nomark _)))))))))
          (pss_cons (ps_set (i := 6) scFields.nd rfl (Or.inl rfl) (pe_ix ix_list (pe_lst (pa_cons pe_str (pa_cons pe_str (pa_cons pe_str pa_nil)))) (pe_op op_mod (pv 5) pe_int) (fun _ _ => rfl)))
          (pss_one (ps_if (pt_cmpR op_eq (pv 6) pe_str (nomark _))
            (pss_one (ps_dput (hu_of hr) (pv 4) (pe_ix ix_list (pv 3) (pv 5) (fun _ _ => rfl)) (pe_tup (pa_cons pe_str (pa_cons (pe_call N.G hr rfl N.m N.k N.b .nil pass0 (pa_cons (pv 0) (pa_cons (pe_op op_add pe_int (pe_call T.G hr1' rfl T.m T.k T.b .nil pass0 (pa_cons (pv 0) (pa_cons pe_int pa_nil)))) pa_nil))) pa_nil))) rfl))
            (pss_one (ps_if (pt_cmpR op_eq (pv 6) pe_str (nomark _))
              (pss_one (ps_dput (hu_of hr) (pv 4) (pe_ix ix_list (pv 3) (pv 5) (fun _ _ => rfl)) (pe_tup (pa_cons pe_str (pa_cons (pe_ix ix_list (pv 1) (pe_call T.G hr1' rfl T.m T.k T.b .nil pass0 (pa_cons (pv 0) (pa_cons (pe_callB call_len_seq (by rfl) nlen PySem.boot_len (pa_cons (pv 1) pa_nil)) pa_nil))) (fun _ _ => rfl)) pa_nil))) rfl))
              (pss_one (ps_dput (hu_of hr) (pv 4) (pe_ix ix_list (pv 3) (pv 5) (fun _ _ => rfl)) (pe_tup (pa_cons pe_str pa_nil)) rfl)))))))
          pss_nil)))
      (pss_one (ps_ret (pv 4)))), ?_⟩
    refine ⟨_, rfl, b, l, 6, G, rfl, by decide, by decide, w0, fun p xs G1 H1 t1 g1 xl xnd x8 => fun d hd => ?_⟩
    have t2 := t1.wet (o := .dK []) w0 hd
    have L2 : Loc b H G1 _ d _ := Loc.new (o := .dK []) t1 hd
    refine ⟨_, _, rfl, 6, rfl, by decide, by decide, for_range (lo := 0) (n := 6) (fun i σ' H' => ∃ (v5 v6 : Option V) (kvs : List (Key × V)) (G' : Hp), σ' = [some (.ref b), some (.ref tb), some (.int rare), some (.ref p), some (.ref d), v5, v6] ∧
      Stp b l G H G' H' ∧ Loc b H G' H' d (.dK kvs) ∧ FAll G' kvs ∧ kvs.length ≤ i ∧ Same G1 G') ⟨none, none, [], G1, rfl, t2, L2, fun p hp => absurd hp List.not_mem_nil, Nat.le_refl _, Same.refl _⟩ ?_ ?_⟩
    · rintro i σ' H2 hi ⟨v5, v6, kvs, G2, rfl, t3, L3, fa, kl, sg⟩
      refine ⟨fun _ H' => Stp b l G H G2 H' ∧ Loc b H G2 H' d (.dK kvs), ?_, ?_⟩
      · have B : ∀ H3, Stp b l G H G2 H3 → Loc b H G2 H3 d (.dK kvs) → ∀ (m r : Int) H4, But b H3 H4 → Bag H4 b l → Stp b l G H G2 H4 ∧ Loc b H G2 H4 d (.dK kvs) :=
          fun H3 t L m r H4 bu ba => ⟨t.take w0 bu ba, L.step (t.w.take bu ba)⟩
        refine ⟨_, rfl, _, _, rfl, rfl, _, rfl, ?_⟩
        refine ite2 (fun _ => ?_) (fun _ => ?_)
        · refine ⟨_, rfl, b, l, 4, rfl, by decide, by decide, t3.w.bag, fun r H3 r0 r1 but3 B3 => ⟨_, _, rfl, rfl, _, rfl, ?_⟩⟩
          obtain ⟨t4, L4⟩ := B _ t3 L3 4 r H3 but3 B3
          refine ite2 (fun _ => ⟨t4, L4⟩) (fun _ => ?_)
          refine ⟨_, rfl, _, _, rfl, rfl, _, rfl, ?_⟩
          refine ite2 (fun _ => ?_) (fun _ => ⟨t4, L4⟩)
          refine ⟨_, rfl, _, rfl, b, l, rare, rfl, hr0, hr1, t4.w.bag, fun r H4 r0 r1 but4 B4 => ⟨rfl, _, rfl, B _ t4 L4 rare r H4 but4 B4⟩⟩
        · refine ⟨_, rfl, _, _, rfl, rfl, _, rfl, ?_⟩
          refine ite2 (fun _ => ?_) (fun _ => ⟨t3, L3⟩)
          refine ⟨_, rfl, _, rfl, b, l, rare, rfl, hr0, hr1, t3.w.bag, fun r H4 r0 r1 but4 B4 => ⟨rfl, _, rfl, B _ t3 L3 rare r H4 but4 B4⟩⟩
      · rintro c H3 ⟨t4, L4⟩
        cases c with
        | false => exact ifF rfl ⟨_, v6, kvs, G2, rfl, t4, L4, fa, by omega, sg⟩
        | true =>
          refine ifT rfl ?_
          refine ⟨by show 3 ≤ sizeLine; decide, fun a ha => ?_⟩
          have t5 := t4.wet (o := .lst [.str "mark", .str "link", .str "tag"]) w0 ha
          have L5 := L4.step (t4.w.wet (o := .lst [.str "mark", .str "link", .str "tag"]) ha)
          obtain ⟨z, hz, hat⟩ : ∃ z : Str, (z = "mark" ∨ z = "link" ∨ z = "tag") ∧ atI [V.str "mark", V.str "link", V.str "tag"] (((0 : Int) + (i : Int)) % 3) = some (.str z) := by
            have h3 : ((0 : Int) + (i : Int)) % 3 = 0 ∨ ((0 : Int) + (i : Int)) % 3 = 1 ∨ ((0 : Int) + (i : Int)) % 3 = 2 := by omega
            rcases h3 with e | e | e <;> rw [e]
            · exact ⟨_, Or.inl rfl, rfl⟩
            · exact ⟨_, Or.inr (Or.inl rfl), rfl⟩
            · exact ⟨_, Or.inr (Or.inr rfl), rfl⟩
          obtain ⟨x, hx⟩ : ∃ x, xs[i]? = some x := ⟨xs[i]'(by omega), List.getElem?_eq_getElem _⟩
          have hxl : Sm x := x8 x (List.mem_of_getElem? hx)
          have hxat : atI (xs.map V.str) ((0 : Int) + (i : Int)) = some (.str x) := by
            rw [Int.zero_add]
            exact atI_nat (by rw [List.getElem?_map, hx]; rfl)
          have klt : kvs.length < sizeLine := by
            rw [sizeLine_eq]
            omega
          refine ⟨_, rfl, _, 3, rfl, rfl, (by show (0 : Int) < 3; decide), a, _, _, _, rfl, rfl, SqL.of upd_same, hat, _, rfl, rfl, _, rfl, ?_⟩
          rcases hz with rfl | rfl | rfl
          · refine ifT rfl ?_
            refine ⟨_, rfl, _, rfl, b, l, 3, rfl, by decide, by decide, t5.w.bag, fun r H4 r0 r1 but4 B4 => ?_⟩
            have t6 := t5.take w0 but4 B4
            have L6 := L5.step (t5.w.take but4 B4)
            refine ⟨_, _, rfl, rfl, b, l, 1 + r, G2, rfl, by omega, by omega, t6.w, fun q ws G3 H5 t7 g7 wl wnd w8 => ⟨by show 2 ≤ sizeLine; decide, fun t ht => ?_⟩⟩
            have t8 := t6.trans t7 w0
            have L8 := L6.step t7
            have t9 := t8.ice (o := .tup [.str "mark", .ref q]) w0 ht
            have i9 := t8.w.ice (o := .tup [.str "mark", .ref q]) ht
            have L9 := L8.step i9
            have s9 : Same G2 (upd G3 t (.tup [.str "mark", .ref q])) := t7.g.trans i9.g
            refine ⟨_, rfl, _, rfl, _, rfl, p, _, _, _, rfl, rfl, SqL.of (t9.gat (s9 _ _ (sg _ _ g1))), hxat, d, _, rfl, DPut.k (k := Sum.inr x) L9.at_ klt, ?_⟩
            refine ⟨_, _, _, _, rfl, t9.put L9, L9.put, (fa.mono s9).put hxl (f := .mark ws) ⟨t, q, rfl, upd_same, i9.g _ _ g7⟩ ⟨?_, ?_, w8⟩, ?_, sg.trans s9⟩
            · intro e
              rw [e] at wl
              have : (0 : Int) = 1 + r := wl
              omega
            · omega
            · have := putK_len kvs (.inr x) (V.ref t)
              omega
          · refine ifF rfl ?_
            refine ⟨_, rfl, rfl, _, rfl, ifT rfl ?_⟩
            have tlen : 0 < ts.length := List.length_pos_iff.mpr tne
            refine ⟨_, rfl, _, rfl, _, rfl, tb, _, rfl, Or.inl (SqL.of (t5.gat (t5.g _ _ gts))), b, l, _, rfl, ?_, ?_, t5.w.bag, fun r H4 r0 r1 but4 B4 => ?_⟩
            · rw [List.length_map]
              omega
            · rw [List.length_map]
              omega
            rw [List.length_map] at r1
            have t6 := t5.take w0 but4 B4
            have L6 := L5.step (t5.w.take but4 B4)
            obtain ⟨u, hu⟩ : ∃ u, ts[r.toNat]? = some u := ⟨ts[r.toNat]'(by omega), List.getElem?_eq_getElem _⟩
            have huat : atI (ts.map V.str) r = some (.str u) := by
              have e : r = ((r.toNat : Nat) : Int) := by omega
              rw [e]
              exact atI_nat (by rw [List.getElem?_map, hu]; rfl)
            refine ⟨tb, _, _, _, rfl, rfl, SqL.of (t6.gat (t6.g _ _ gts)), huat, by show 2 ≤ sizeLine; decide, fun t ht => ?_⟩
            have t9 := t6.ice (o := .tup [.str "link", .str u]) w0 ht
            have i9 := t6.w.ice (o := .tup [.str "link", .str u]) ht
            have L9 := L6.step i9
            refine ⟨_, rfl, _, rfl, _, rfl, p, _, _, _, rfl, rfl, SqL.of (t9.gat (i9.g _ _ (sg _ _ g1))), hxat, d, _, rfl, DPut.k (k := Sum.inr x) L9.at_ klt, ?_⟩
            refine ⟨_, _, _, _, rfl, t9.put L9, L9.put, (fa.mono i9.g).put hxl (f := .link u) ⟨t, rfl, upd_same⟩ trivial, ?_, sg.trans i9.g⟩
            have := putK_len kvs (.inr x) (V.ref t)
            omega
          · refine ifF rfl ?_
            refine ⟨_, rfl, rfl, _, rfl, ifF rfl ?_⟩
            refine ⟨by show 1 ≤ sizeLine; decide, fun t ht => ?_⟩
            have t9 := t5.ice (o := .tup [.str "tag"]) w0 ht
            have i9 := t5.w.ice (o := .tup [.str "tag"]) ht
            have L9 := L5.step i9
            refine ⟨_, rfl, _, rfl, _, rfl, p, _, _, _, rfl, rfl, SqL.of (t9.gat (i9.g _ _ (sg _ _ g1))), hxat, d, _, rfl, DPut.k (k := Sum.inr x) L9.at_ klt, ?_⟩
            refine ⟨_, _, _, _, rfl, t9.put L9, L9.put, (fa.mono i9.g).put hxl (f := .tag) ⟨t, rfl, upd_same⟩ trivial, ?_, sg.trans i9.g⟩
            have := putK_len kvs (.inr x) (V.ref t)
            omega
    · rintro σ' H2 ⟨v5, v6, kvs, G2, rfl, t3, L3, fa, kl, sg⟩
      exact ⟨_, rfl, k d kvs _ _ (t3.frz L3) upd_same (fa.mono (same_new (Same.refl _) L3.g)) kl⟩
end
end E

set_option Elab.async false
set_option linter.all false
set_option maxRecDepth 100000
set_option maxHeartbeats 4000000
namespace E
open PySem L2 TL EG
/-! ### tests -/
inductive Tst
  | is_ (x : Str) (ws : List Str)
  | non (x : Str)
  | nt (t : Tst)
def Tst.D : Tst → PyData
  | .is_ x ws => .tuple [.str "is", .str x, .list (ws.map PyData.str)]
  | .non x => .tuple [.str "none", .str x]
  | .nt t => .tuple [.str "not", t.D]
def Tst.nm : Tst → Str
  | .is_ x _ => x
  | .non x => x
  | .nt t => t.nm
def Tst.dep : Tst → Nat
  | .is_ _ _ => 0
  | .non _ => 0
  | .nt t => t.dep + 1
def TOk (ks : List Str) : Tst → Prop
  | .is_ x ws => x ∈ ks ∧ Sm x ∧ ws.length ≤ 6 ∧ ∀ y ∈ ws, Sm y
  | .non x => x ∈ ks ∧ Sm x
  | .nt t => TOk ks t
/-- a test in the heap -/
def TAt (G : Hp) (v : V) : Tst → Prop
  | .is_ x ws => ∃ a q, v = .ref a ∧ G a = some (.tup [.str "is", .str x, .ref q]) ∧ G q = some (.lst (ws.map V.str))
  | .non x => ∃ a, v = .ref a ∧ G a = some (.tup [.str "none", .str x])
  | .nt t => ∃ a u, v = .ref a ∧ G a = some (.tup [.str "not", u]) ∧ TAt G u t
theorem TAt.mono {G G' : Hp} (s : Same G G') : ∀ {t : Tst} {v : V}, TAt G v t → TAt G' v t
  | .is_ x ws, _, ⟨a, q, e, h1, h2⟩ => ⟨a, q, e, s _ _ h1, s _ _ h2⟩
  | .non x, _, ⟨a, e, h⟩ => ⟨a, e, s _ _ h⟩
  | .nt t, _, ⟨a, u, e, h1, h2⟩ => ⟨a, u, e, s _ _ h1, TAt.mono s h2⟩
theorem TAt.dt {K : PySem.W.Frag} {G : Hp} : ∀ {t : Tst} {v : V}, TAt G v t → Dt K G v t.D
  | .is_ x ws, _, ⟨a, q, e, h1, h2⟩ => by
    rw [e]
    exact .tup (SqT.of h1) (.cons (.str _) (.cons (.str _) (.cons (.lst (SqL.of h2) (DtAll.strs ws)) .nil)))
  | .non x, _, ⟨a, e, h⟩ => by
    rw [e]
    exact .tup (SqT.of h) (.cons (.str _) (.cons (.str _) .nil))
  | .nt t, _, ⟨a, u, e, h1, h2⟩ => by
    rw [e]
    exact .tup (SqT.of h1) (.cons (.str _) (.cons h2.dt .nil))
def TsAt (G : Hp) : List V → List Tst → Prop
  | [], [] => True
  | u :: us, t :: ts => TAt G u t ∧ TsAt G us ts
  | _, _ => False
theorem TsAt.mono {G G' : Hp} (s : Same G G') : ∀ {us : List V} {ts : List Tst}, TsAt G us ts → TsAt G' us ts
  | [], [], _ => trivial
  | _ :: _, _ :: _, ⟨h1, h2⟩ => ⟨h1.mono s, TsAt.mono s h2⟩
  | [], _ :: _, h => h.elim
  | _ :: _, [], h => h.elim
theorem TsAt.snoc {G : Hp} {v : V} {t : Tst} (h : TAt G v t) : ∀ {us : List V} {ts : List Tst}, TsAt G us ts → TsAt G (us ++ [v]) (ts ++ [t])
  | [], [], _ => ⟨h, trivial⟩
  | _ :: _, _ :: _, ⟨h1, h2⟩ => ⟨h1, TsAt.snoc h h2⟩
  | [], _ :: _, z => z.elim
  | _ :: _, [], z => z.elim
theorem TsAt.dt {K : PySem.W.Frag} {G : Hp} : ∀ {us : List V} {ts : List Tst}, TsAt G us ts → DtAll K G us (ts.map Tst.D)
  | [], [], _ => .nil
  | _ :: _, _ :: _, ⟨h1, h2⟩ => .cons h1.dt (TsAt.dt h2)
  | [], _ :: _, z => z.elim
  | _ :: _, [], z => z.elim
theorem TsAt.len {G : Hp} : ∀ {us : List V} {ts : List Tst}, TsAt G us ts → us.length = ts.length
  | [], [], _ => rfl
  | _ :: _, _ :: _, ⟨h1, h2⟩ => congrArg (· + 1) (TsAt.len h2)
  | [], _ :: _, z => z.elim
  | _ :: _, [], z => z.elim
theorem TsAt.set {G : Hp} {v : V} {t : Tst} (h : TAt G v t) : ∀ {us : List V} {ts : List Tst} (i : Nat), TsAt G us ts → TsAt G (us.set i v) (ts.set i t)
  | [], [], _, _ => trivial
  | _ :: _, _ :: _, 0, ⟨_, h2⟩ => ⟨h, h2⟩
  | _ :: _, _ :: _, i + 1, ⟨h1, h2⟩ => ⟨h1, TsAt.set h i h2⟩
  | [], _ :: _, _, z => z.elim
  | _ :: _, [], _, z => z.elim
theorem TsAt.at {G : Hp} : ∀ {us : List V} {ts : List Tst} {i : Nat} {t : Tst}, TsAt G us ts → ts[i]? = some t → ∃ u, us[i]? = some u ∧ TAt G u t
  | [], [], i, t, _, e => by simp at e
  | u :: _, _ :: _, 0, t, ⟨h, h2⟩, e => by
    simp at e
    subst e
    exact ⟨u, rfl, h⟩
  | _ :: us, _ :: ts, i + 1, t, ⟨h1, h2⟩, e => TsAt.at (us := us) (ts := ts) (i := i) h2 (by simpa using e)
  | [], _ :: _, _, _, z, _ => z.elim
  | _ :: _, [], _, _, z, _ => z.elim
abbrev sTests : Stmt := top 11
abbrev nTests : List Str := ["_law_bag_here", "_law_fields_here", "_law_top", "_law_found", "_law_k", "_law_name", "_law_test", "_law_words", "_law_some", "_law_turn", "_law_word"]
def spTests (K : PySem.W.Frag) : Sp := fun vs H Q _ => ∃ (b l d : Addr) (tp : Int) (kvs : List (Key × V)) (ks : List Str) (G : Hp), vs = [.ref b, .ref d, .int tp] ∧ 0 ≤ tp ∧ tp ≤ 60 ∧ G d = some (.dK kvs) ∧ FAll G kvs ∧ kvs.length ≤ 6 ∧ kvs.map (·.1) = ks.map Sum.inr ∧ Wd b l G H ∧
  ∀ (p : Addr) (us : List V) (ts : List Tst) G' H', Stp b l G H G' H' → Loc b H G' H' p (.lst us) → TsAt G' us ts → (∀ t ∈ ts, TOk ks t ∧ t.dep ≤ 2) → (ts.length : Int) ≤ tp → Q (.ref p) H'
section
variable {P : Program} {w : World} {K : PySem.W.Frag} {mg : Str → Option Value} {base : Heap}
theorem scTests : FnScope nTests ["_law_bag_here", "_law_fields_here", "_law_top"] (defScope sTests) := ⟨rfl, rfl, rfl, by decide +kernel, rfl, by decide +kernel, by decide +kernel⟩
theorem ok_tests {f fT : Addr} {fd fdT : FuncData} (F : Fun K "_law_tests" "_law_tests" sTests f fd) (T : TakeF P w K mg base fT fdT) (nlen : mg "len" = none) (nra : mg "range" = none) (nint : mg "int" = none) (nso : mg "sorted" = none) :
    FnOk P w K mg base CX0 2 f fd ["_law_bag_here", "_law_fields_here", "_law_top"] (spTests K) := by
  refine F.ok scTests (fun vs H Q E h => ?_) (fun cdv A0 out s H vs Q E hr h => ?_)
  · obtain ⟨b, l, d, tp, kvs, ks, G, rfl, _⟩ := h
    rfl
  · obtain ⟨b, l, d, tp, kvs, ks, G, rfl, tp0, tp1, gd, fa, k6, hks, w0, k⟩ := h
    refine ⟨_, pss_cons (ps_set (i := 3) scTests.nd rfl (Or.inl rfl) (pe_lst pa_nil))
      (pss_cons (ps_for PassesOwn.never rfl (pi_range1 rfl nra (pa_cons (pe_op op_mul (pe_call T.G hr rfl T.m T.k T.b .nil pass0 (pa_cons (pv 0) (pa_cons (pe_op op_add (pv 2) pe_int) pa_nil))) (pe_callTy call_int1 (by rfl) nint (by decide +kernel) (pa_cons (pe_cmpR (op_neE hr.units0) (pv 1) pe_dnewK (nomark _)) pa_nil))) pa_nil)) (pg_name (i := 4) scTests.nd rfl (Or.inl rfl))
        (pss_cons (ps_set (i := 5) scTests.nd rfl (Or.inl rfl) (pe_ix ix_list (pe_callB (call_sortedD rfl) (by rfl) nso (by decide +kernel) (pa_cons (pv 1) pa_nil)) (pe_call T.G hr rfl T.m T.k T.b .nil pass0 (pa_cons (pv 0) (pa_cons (pe_callB call_lenD (by rfl) nlen PySem.boot_len (pa_cons (pv 1) pa_nil)) pa_nil))) (fun _ _ => rfl)))
        (pss_cons (ps_set (i := 6) scTests.nd rfl (Or.inl rfl) (pe_tup (pa_cons pe_str (pa_cons (pv 5) pa_nil))))
        (Evl.pss_cut (ps_if (pt_cmpR op_eq (pe_ix ix_tup (pe_dget (hu_of hr) (pv 1) (pv 5) (fun _ _ => rfl)) pe_int (fun _ _ => rfl)) pe_str (nomark _))
          (pss_cons (ps_set (i := 7) scTests.nd rfl (Or.inl rfl) (pe_ix ix_tup (pe_dget (hu_of hr) (pv 1) (pv 5) (fun _ _ => rfl)) pe_int (fun _ _ => rfl)))
          (pss_cons (ps_setLc (i := 8) (own := [("_law_word", 10)]) (g := gName 10) (tt := tTest (tOp rEq (tCall spTake [] E0 (tCons (tVar 0) (tCons (tC (.int 2)) tNil))) (tC (.int 0)))) rfl scTests.nd rfl rfl (sw_true rfl rfl rfl (by decide +kernel))
            (pi_list (pv 7)) (blkOk_by (N := nTests) (sc := defScope sTests) (by decide +kernel))
            (fun _ _ _ _ _ => pg_name (i := 10) scTests.nd rfl (Or.inl rfl)) (fun _ _ _ _ _ => pts_one (pt_cmpR op_eq (pe_call T.G hr rfl T.m T.k T.b .nil pass0 (pa_cons (pv 0) (pa_cons pe_int pa_nil))) pe_int (nomark _)))
            (fun _ _ _ _ _ => pv 10))
          (pss_one (ps_set (i := 6) scTests.nd rfl (Or.inl rfl) (pe_tup (pa_cons pe_str (pa_cons (pv 5) (pa_cons (pe_cut (pe_orT (pv 8) (pe_one (pe_slice sl_list (pv 7) po_none (po_some pe_int))))) pa_nil))))))))
          pss_nil)
        (pss_cons (ps_for PassesOwn.never rfl (pi_range1 rfl nra (pa_cons (pe_ix ix_list (pe_lst (pa_cons pe_int (pa_cons pe_int (pa_cons pe_int (pa_cons pe_int pa_nil))))) (pe_call T.G hr rfl T.m T.k T.b .nil pass0 (pa_cons (pv 0) (pa_cons pe_int pa_nil))) (fun _ _ => rfl)) pa_nil)) (pg_name (i := 9) scTests.nd rfl (Or.inl rfl))
          (pss_one (ps_set (i := 6) scTests.nd rfl (Or.inl rfl) (pe_tup (pa_cons pe_str (pa_cons (pv 6) pa_nil))))))
        (pss_one (ps_expr (pe_bm PySem.F.plainAttrs_list PySem.F.slot_list_append PySem.F.type_list_append mt_append (pv 3) (pa_cons (pv 6) pa_nil)))))))))
      (pss_one (ps_ret (pv 3)))), ?_⟩
    refine ⟨Nat.zero_le _, fun p hp => ?_⟩
    have t0 := w0.refl
    have t1 := t0.wet (o := .lst []) w0 hp
    have L1 : Loc b H G _ p _ := Loc.new (o := .lst []) t0 hp
    refine ⟨_, rfl, _, rfl, _, _, rfl, rfl, b, l, tp + 1, rfl, by omega, by omega, t1.w.bag, fun r H2 r0 r1 but2 B2 => ?_⟩
    have t2 := t1.take w0 but2 B2
    have L2 := L1.step (t1.w.take but2 B2)
    refine ⟨_, rfl, fun e he => ?_⟩
    have t3 := t2.wet (o := .dK []) w0 he
    have L3 := L2.step (t2.w.wet (o := .dK []) he)
    refine ⟨d, e, kvs, rfl, rfl, t3.gat (t3.g _ _ gd), upd_same, Or.inr ⟨_, rfl, r, _, rfl, rfl, Or.inl ⟨by omega, by omega⟩, _, rfl, ?_, ?_, for_range (lo := 0) (n := _) (fun i σ' H' => ∃ (v4 v5 v6 v7 v8 v9 : Option V) (us : List V) (ts : List Tst) (G' : Hp), σ' = [some (.ref b), some (.ref d), some (.int tp), some (.ref p), v4, v5, v6, v7, v8, v9, none] ∧
      Stp b l G H G' H' ∧ Loc b H G' H' p (.lst us) ∧ TsAt G' us ts ∧ (∀ t ∈ ts, TOk ks t ∧ t.dep ≤ 2) ∧ ts.length = i) ⟨none, none, none, none, none, none, [], [], G, rfl, t3, L3, trivial, fun t ht => absurd ht List.not_mem_nil, rfl⟩ ?_ ?_⟩⟩
    · split <;> omega
    · split <;> omega
    · rintro i σ' H3 hi ⟨v4, v5, v6, v7, v8, v9, us, ts, G1, rfl, t4, L4, da, ta, tl'⟩
      have kne : kvs ≠ [] := by
        rintro rfl
        have : (r * (if (!([] : List (Key × V)).isEmpty) = true then 1 else 0)).toNat = 0 := by
          show (r * 0).toNat = 0
          rw [Int.mul_zero]
          rfl
        rw [this] at hi
        omega
      have tsl : (ts.length : Int) < r := by
        have e : (if (!kvs.isEmpty) = true then (1 : Int) else 0) = 1 := by
          cases kvs with
          | nil => exact absurd rfl kne
          | cons _ _ => rfl
        rw [e, Int.mul_one] at hi
        omega
      have kl : ks.length = kvs.length := by
        have := congrArg List.length hks
        rw [List.length_map, List.length_map] at this
        exact this.symm
      have kpos : 0 < kvs.length := List.length_pos_iff.mpr kne
      -- name
      refine ⟨_, rfl, d, kvs, ks, rfl, Rd.of (t4.gat (t4.g _ _ gd)), hks, by omega, fun ys q perm _ hq => ?_⟩
      have t5 := t4.wet (o := .lst (ys.map V.str)) w0 hq
      have L5 := L4.step (t4.w.wet (o := .lst (ys.map V.str)) hq)
      have Q5 : Loc b H G1 _ q _ := Loc.new (o := .lst (ys.map V.str)) t4 hq
      refine ⟨_, rfl, _, rfl, d, kvs, rfl, t5.gat (t5.g _ _ gd), b, l, _, rfl, by omega, by omega, t5.w.bag, fun r' H4 r0' r1' but4 B4 => ?_⟩
      have t6 := t5.take w0 but4 B4
      have L6 := L5.step (t5.w.take but4 B4)
      have Q6 := Q5.step (t5.w.take but4 B4)
      obtain ⟨x, hx⟩ : ∃ x, ys[r'.toNat]? = some x := ⟨ys[r'.toNat]'(by rw [perm.length_eq, kl]; omega), List.getElem?_eq_getElem _⟩
      have hxat : atI (ys.map V.str) r' = some (.str x) := by
        have e : r' = ((r'.toNat : Nat) : Int) := by omega
        rw [e]
        exact atI_nat (by rw [List.getElem?_map, hx]; rfl)
      have xks : x ∈ ks := perm.mem_iff.mp (List.mem_of_getElem? hx)
      obtain ⟨fv, hfv⟩ : ∃ v, valV kvs (.inr x) = some v := valV_has (by rw [hks]; exact List.mem_map.mpr ⟨x, xks, rfl⟩)
      obtain ⟨x', fd', e1, x8, hfd, fok⟩ := fa _ (valV_mem hfv)
      obtain rfl : x = x' := by
        injection e1
      refine ⟨q, _, _, _, rfl, rfl, SqL.of Q6.at_, hxat, ?_⟩
      refine ⟨_, rfl, by show 2 ≤ sizeLine; decide, fun a ha => ?_⟩
      have t7 := t6.ice (o := .tup [.str "none", .str x]) w0 ha
      have i7 := t6.w.ice (o := .tup [.str "none", .str x]) ha
      have L7 := L6.step i7
      have D7 : TAt (upd G1 a (.tup [.str "none", .str x])) (.ref a) (Tst.non x) := ⟨a, rfl, upd_same⟩
      refine ⟨fun σ' H' => ∃ (v6 : V) (v7 v8 : Option V) (t : Tst) (G' : Hp), σ' = [some (.ref b), some (.ref d), some (.int tp), some (.ref p), some (.int (0 + (i : Int))), some (.str x), some v6, v7, v8, v9, none] ∧
        Stp b l G H G' H' ∧ Loc b H G' H' p (.lst us) ∧ Same G1 G' ∧ TAt G' v6 t ∧ TOk ks t ∧ t.dep = 0, ?_, ?_⟩
      · have none_ : ∃ (v6 : V) (v7' v8' : Option V) (t : Tst) (G' : Hp), [some (V.ref b), some (.ref d), some (.int tp), some (.ref p), some (.int (0 + (i : Int))), some (.str x), some (.ref a), v7, v8, v9, none] = [some (V.ref b), some (.ref d), some (.int tp), some (.ref p), some (.int (0 + (i : Int))), some (.str x), some v6, v7', v8', v9, none] ∧
          Stp b l G H G' (upd H4 a (.tup [.str "none", .str x])) ∧ Loc b H G' (upd H4 a (.tup [.str "none", .str x])) p (.lst us) ∧ Same G1 G' ∧ TAt G' v6 t ∧ TOk ks t ∧ t.dep = 0 :=
          ⟨_, _, _, .non x, _, rfl, t7, L7, i7.g, D7, ⟨xks, x8⟩, rfl⟩
        have gk : upd H4 a (.tup [.str "none", .str x]) d = some (.dK kvs) := t7.gat (t7.g _ _ gd)
        have dg : DGet (upd H4 a (.tup [.str "none", .str x])) d (.str x) (some fv) := by
          rw [← hfv]
          exact DGet.k (k := Sum.inr x) gk
        refine ⟨_, rfl, _, rfl, d, fv, rfl, dg, ?_⟩
        cases fd' with
        | tag =>
          obtain ⟨t, rfl, g1⟩ := hfd
          exact ⟨t, _, 0, _, rfl, rfl, SqT.of (t7.gat (t7.g _ _ g1)), atI_nat (j := 0) rfl, rfl, _, rfl, ifF rfl none_⟩
        | link u =>
          obtain ⟨t, rfl, g1⟩ := hfd
          exact ⟨t, _, 0, _, rfl, rfl, SqT.of (t7.gat (t7.g _ _ g1)), atI_nat (j := 0) rfl, rfl, _, rfl, ifF rfl none_⟩
        | mark ws =>
          obtain ⟨t, qw, rfl, g1, g2⟩ := hfd
          obtain ⟨wne, w3, w8⟩ := fok
          refine ⟨t, _, 0, _, rfl, rfl, SqT.of (t7.gat (t7.g _ _ g1)), atI_nat (j := 0) rfl, rfl, _, rfl, ifT rfl ?_⟩
          refine ⟨_, rfl, _, rfl, d, _, rfl, dg, t, _, 1, _, rfl, rfl, SqT.of (t7.gat (t7.g _ _ g1)), atI_nat (j := 1) rfl, ?_⟩
          refine ⟨_, rfl, qw, rfl, ⟨_, SqL.of (t7.gat (t7.g _ _ g2))⟩, fun D hD => lc_list (xs := ws.map V.str) (fun j H' => ∃ zs : List Str, Stp b l G H (upd G1 a (.tup [.str "none", .str x])) H' ∧ Loc b H (upd G1 a (.tup [.str "none", .str x])) H' p (.lst us) ∧
            Loc b H (upd G1 a (.tup [.str "none", .str x])) H' D (.lst (zs.map V.str)) ∧ D ≠ p ∧ zs.length ≤ j ∧ ∀ z ∈ zs, Sm z) ?_ ?_ ?_ ?_⟩
          · exact ⟨[], t7.wet w0 hD, L7.step (t7.w.wet hD), Loc.new t7 hD, (L7.ne hD).symm, Nat.le_refl _, fun z hz => absurd hz List.not_mem_nil⟩
          · rintro j H5 _ ⟨zs, t8, _⟩
            exact SqL.of (t8.gat (t8.g _ _ g2))
          · rintro j y H5 hy ⟨zs, t8, L8, D8, nDp, zl, z8⟩
            obtain ⟨wd, hwd, rfl⟩ : ∃ wd, ws[j]? = some wd ∧ y = V.str wd := by
              rw [List.getElem?_map] at hy
              cases e : ws[j]? with
              | none => rw [e] at hy; cases hy
              | some n => rw [e] at hy; exact ⟨n, rfl, (Option.some.inj hy).symm⟩
            have jw : j < ws.length := (List.getElem?_eq_some_iff.mp hwd).1
            refine ⟨rfl, _, rfl, b, l, 2, rfl, by decide, by decide, t8.w.bag, fun r2 H6 _ _ but6 B6 => ⟨rfl, _, rfl, ?_⟩⟩
            have t9 := t8.take w0 but6 B6
            have L9 := L8.step (t8.w.take but6 B6)
            have D9 := D8.step (t8.w.take but6 B6)
            refine ite2 (fun _ => ?_) (fun _ => ⟨zs, t9, L9, D9, nDp, by omega, z8⟩)
            refine ⟨_, rfl, _, D9.at_, ?_, zs ++ [wd], t9.put D9, L9.off nDp.symm, ?_, nDp, ?_, ?_⟩
            · rw [List.length_map, sizeLine_eq]
              omega
            · rw [List.map_append]
              exact D9.put
            · rw [List.length_append]
              show zs.length + 1 ≤ _
              omega
            · intro z hz
              rcases List.mem_append.mp hz with hz | hz
              · exact z8 z hz
              · rw [List.mem_singleton.mp hz]
                exact w8 wd (List.mem_of_getElem? hwd)
          · rintro H5 ⟨zs, t8, L8, D8, nDp, zl, z8⟩
            rw [List.length_map] at zl
            refine ⟨_, rfl, fun v H' => ∃ (qs : Addr) (zs : List Str) (G' : Hp), v = .ref qs ∧ Stp b l G H G' H' ∧ Loc b H G' H' p (.lst us) ∧ Same G1 G' ∧ G' qs = some (.lst (zs.map V.str)) ∧ zs.length ≤ 6 ∧ ∀ z ∈ zs, Sm z, ?_, ?_⟩
            · refine ⟨_, rfl, _, Or.inl ⟨_, SqL.of D8.at_, rfl⟩, ?_⟩
              refine ite2 (fun _ => ?_) (fun _ => ?_)
              · refine ⟨D, zs, _, rfl, t8.frz D8, ⟨L8.h0, ?_, L8.nb, L8.at_⟩, i7.g.trans (same_new (Same.refl _) D8.g), upd_same, by omega, z8⟩
                rw [upd_ne nDp.symm]
                exact L8.g
              · refine ⟨_, rfl, 1, rfl, qw, _, rfl, SqL.of (t8.gat (t8.g _ _ g2)), fun e he => ?_⟩
                rw [cutV_map]
                refine ⟨e, _, _, rfl, t8.ice w0 he, L8.step (t8.w.ice he), i7.g.trans (t8.w.ice he).g, upd_same, ?_, fun z hz => w8 z (List.mem_of_mem_drop (List.mem_of_mem_take hz))⟩
                rw [List.length_take, List.length_drop]
                omega
            · rintro v H6 ⟨qs, zs, G2, rfl, t9, L9, s9, g9, zl, z8⟩
              refine ⟨by show 3 ≤ sizeLine; decide, fun e he => ?_⟩
              have i10 := t9.w.ice (o := .tup [.str "is", .str x, .ref qs]) he
              refine ⟨_, _, _, .is_ x zs, _, rfl, t9.ice w0 he, L9.step i10, s9.trans i10.g, ?_, ⟨xks, x8, zl, z8⟩, rfl⟩
              exact ⟨e, qs, rfl, upd_same, i10.g _ _ g9⟩
      · rintro σ' H5 ⟨v6', v7', v8', tst, G2, rfl, t8, L8, s8, D8, tok, td⟩
        refine ⟨by show 4 ≤ sizeLine; decide, fun e he => ?_⟩
        have t9 := t8.wet (o := .lst [.int 0, .int 0, .int 1, .int 2]) w0 he
        have L9 := L8.step (t8.w.wet (o := .lst [.int 0, .int 0, .int 1, .int 2]) he)
        have E9 : Loc b H G2 _ e _ := Loc.new (o := .lst [.int 0, .int 0, .int 1, .int 2]) t8 he
        refine ⟨_, rfl, b, l, 4, rfl, by decide, by decide, t9.w.bag, fun r2 H6 r20 r21 but6 B6 => ?_⟩
        have t10 := t9.take w0 but6 B6
        have L10 := L9.step (t9.w.take but6 B6)
        have E10 := E9.step (t9.w.take but6 B6)
        obtain ⟨n, hn, hat⟩ : ∃ n : Int, (n = 0 ∨ n = 1 ∨ n = 2) ∧ atI [V.int 0, V.int 0, V.int 1, V.int 2] r2 = some (.int n) := by
          obtain rfl | rfl | rfl | rfl : r2 = 0 ∨ r2 = 1 ∨ r2 = 2 ∨ r2 = 3 := by omega
          · exact ⟨0, Or.inl rfl, rfl⟩
          · exact ⟨0, Or.inl rfl, rfl⟩
          · exact ⟨1, Or.inr (Or.inl rfl), rfl⟩
          · exact ⟨2, Or.inr (Or.inr rfl), rfl⟩
        refine ⟨e, _, _, _, rfl, rfl, SqL.of E10.at_, hat, n, rfl, by omega, by omega, for_range (lo := 0) (n := n.toNat) (fun j σ' H' => ∃ (v6 : V) (v9 : Option V) (t : Tst) (G' : Hp), σ' = [some (.ref b), some (.ref d), some (.int tp), some (.ref p), some (.int (0 + (i : Int))), some (.str x), some v6, v7', v8', v9, none] ∧
          Stp b l G H G' H' ∧ Loc b H G' H' p (.lst us) ∧ Same G1 G' ∧ TAt G' v6 t ∧ TOk ks t ∧ t.dep = j) ⟨_, _, tst, G2, rfl, t10, L10, s8, D8, tok, td⟩ ?_ ?_⟩
        · rintro j σ' H7 hj ⟨v6'', v9'', t, G3, rfl, t11, L11, s11, D11, tk, tdp⟩
          refine ⟨_, rfl, by show 2 ≤ sizeLine; decide, fun a2 ha2 => ?_⟩
          have i12 := t11.w.ice (o := .tup [.str "not", v6'']) ha2
          exact ⟨_, _, .nt t, _, rfl, t11.ice w0 ha2, L11.step i12, s11.trans i12.g, ⟨a2, _, rfl, upd_same, D11.mono i12.g⟩, tk, by show t.dep + 1 = _; omega⟩
        · rintro σ' H7 ⟨v6'', v9'', t, G3, rfl, t11, L11, s11, D11, tk, tdp⟩
          refine ⟨_, rfl, Or.inl ⟨rfl, _, SqL.of L11.at_⟩, _, rfl, p, _, _, rfl, rfl, L11.at_, ?_, ?_⟩
          · rw [da.len, sizeLine_eq]
            omega
          refine ⟨_, _, _, _, _, _, us ++ [v6''], ts ++ [t], G3, rfl, t11.put L11, L11.put, ?_, ?_, ?_⟩
          · exact (da.mono s11).snoc D11
          · intro z hz
            rcases List.mem_append.mp hz with hz | hz
            · exact ta z hz
            · rw [List.mem_singleton.mp hz]
              exact ⟨tk, by omega⟩
          · rw [List.length_append, tl']
            rfl
    · rintro σ' H3 ⟨v4, v5, v6, v7, v8, v9, us, ts, G1, rfl, t4, L4, da, ta, tl'⟩
      refine ⟨_, rfl, k p us ts G1 _ t4 L4 da ta ?_⟩
      rw [tl']
      split <;> omega
end
end E

set_option Elab.async false
set_option linter.all false
set_option maxRecDepth 100000
set_option maxHeartbeats 4000000
namespace E
open PySem PyProof.Rows L2 TL EG ES
/-- what a test says of a row -/
def ev (kvs : List (Key × V)) : Tst → Bool
  | .is_ x ws => inV ((valV kvs (.inr x)).getD .non) (ws.map V.str)
  | .non x => decide ((valV kvs (.inr x)).getD .non = .non)
  | .nt t => !ev kvs t
/-- the row has the field, and something flat in it -/
def Has (kvs : List (Key × V)) (x : Str) : Prop := ∃ u, valV kvs (.inr x) = some u ∧ flatV u = true
theorem dt_is {K : PySem.W.Frag} {H : Hp} {v : V} {x : Str} {ws : List Str} (h : Dt K H v (Tst.is_ x ws).D) : ∃ a q, v = .ref a ∧ SqT K H a [.str "is", .str x, .ref q] ∧ SqL K H q (ws.map V.str) := by
  cases h with
  | tup sq al =>
    cases al with
    | cons h1 r1 =>
      cases h1
      cases r1 with
      | cons h2 r2 =>
        cases h2
        cases r2 with
        | cons h3 r3 =>
          cases r3
          cases h3 with
          | lst q1 q2 =>
            rw [DtAll.ofStrs q2] at q1
            exact ⟨_, _, rfl, sq, q1⟩
theorem dt_non {K : PySem.W.Frag} {H : Hp} {v : V} {x : Str} (h : Dt K H v (Tst.non x).D) : ∃ a, v = .ref a ∧ SqT K H a [.str "none", .str x] := by
  cases h with
  | tup sq al =>
    cases al with
    | cons h1 r1 =>
      cases h1
      cases r1 with
      | cons h2 r2 =>
        cases h2
        cases r2
        exact ⟨_, rfl, sq⟩
theorem dt_nt {K : PySem.W.Frag} {H : Hp} {v : V} {t : Tst} (h : Dt K H v (Tst.nt t).D) : ∃ a u, v = .ref a ∧ SqT K H a [.str "not", u] ∧ Dt K H u t.D := by
  cases h with
  | tup sq al =>
    cases al with
    | cons h1 r1 =>
      cases h1
      cases r1 with
      | cons h2 r2 =>
        cases r2
        exact ⟨_, _, rfl, sq, h2⟩
theorem pe_never {X : Cx} {e : Expr} : PE X e (fun _ _ _ => False) := ⟨fun _ _ _ _ _ _ h => h.elim⟩
theorem dget_rd {H : Hp} {a : Addr} {kvs : List (Key × V)} {x : Str} {u : V} (h : Rd H a (.dK kvs)) (e : valV kvs (.inr x) = some u) : DGet H a (.str x) (some u) := Or.inl ⟨kvs, .inr x, h, rfl, e.symm⟩
def spPasses (K : PySem.W.Frag) (n : Nat) : Sp := fun vs H Q _ => ∃ (a : Addr) (v : V) (kvs : List (Key × V)) (t : Tst), vs = [.ref a, v] ∧ Rd H a (.dK kvs) ∧ Dt K H v t.D ∧ t.dep ≤ n ∧ Has kvs t.nm ∧ Q (.bl (ev kvs t)) H
def spNamed (K : PySem.W.Frag) (n : Nat) : Sp := fun vs H Q _ => ∃ (v : V) (t : Tst), vs = [v] ∧ Dt K H v t.D ∧ t.dep ≤ n ∧ Q (.str t.nm) H
def spMeets (K : PySem.W.Frag) (n : Nat) : Sp := fun vs H Q _ => ∃ (a p : Addr) (kvs : List (Key × V)) (us : List V) (ts : List Tst), vs = [.ref a, .ref p] ∧ Rd H a (.dK kvs) ∧ SqL K H p us ∧ DtAll K H us (ts.map Tst.D) ∧ (∀ t ∈ ts, t.dep ≤ n ∧ Has kvs t.nm) ∧ ts.length ≤ 60 ∧
  ∀ H', Same H H' → Q (.bl (ts.all (ev kvs))) H'
def spFieldsIn (K : PySem.W.Frag) (n : Nat) : Sp := fun vs H Q _ => ∃ (p : Addr) (us : List V) (ts : List Tst), vs = [.ref p] ∧ SqL K H p us ∧ DtAll K H us (ts.map Tst.D) ∧ (∀ t ∈ ts, t.dep ≤ n) ∧ ts.length ≤ 60 ∧
  ∀ H' q (ns : List Str), Same H H' → H q = none → H' q = some (.lst (ns.map V.str)) → sortedS ns = true → ns.Nodup → (∀ x, x ∈ ns ↔ x ∈ ts.map Tst.nm) → Q (.ref q) H'
/-- the j-th test of a list of them -/
theorem tst_at {K : PySem.W.Frag} {H : Hp} {us : List V} {ts : List Tst} {j : Nat} {v : V} (h : DtAll K H us (ts.map Tst.D)) (e : us[j]? = some v) : ∃ t, ts[j]? = some t ∧ Dt K H v t.D := by
  obtain ⟨d, h1, h2⟩ := h.at e
  rw [List.getElem?_map] at h1
  cases q : ts[j]? with
  | none => rw [q] at h1; cases h1
  | some t =>
    rw [q] at h1
    cases h1
    exact ⟨t, rfl, h2⟩
section
variable {P : Program} {w : World} {K : PySem.W.Frag} {mg : Str → Option Value} {base : Heap}
abbrev sPasses : Stmt := top 1
theorem scsPasses : FnScope ["row", "test"] ["row", "test"] (defScope sPasses) := ⟨rfl, rfl, rfl, by decide +kernel, rfl, by decide +kernel, by decide +kernel⟩
theorem ok_sPasses {f : Addr} {fd : FuncData} (F : Fun K "passes" "passes" sPasses f fd) (b : Binds K fd ["row", "test"] []) (m : mg "passes" = some (.ref f)) (kp : PySem.W.keepIn K (.ref f) = true) :
    ∀ n : Nat, FnOk P w K mg base CX0 (n + 1) f fd ["row", "test"] (spPasses K n) := by
  intro n
  induction n with
  | zero =>
    refine F.ok scsPasses (fun vs H Q E h => ?_) (fun cdv A0 out s H vs Q E hr h => ?_)
    · obtain ⟨a, v, kvs, t, rfl, _⟩ := h
      rfl
    · obtain ⟨a, v, kvs, t, rfl, ha, hd, hdep, ⟨u, hu, fu⟩, q⟩ := h
      refine ⟨_, pss_cons (ps_if (pt_cmpR op_eq (pe_ix ix_tup (pv 1) pe_int (fun _ _ => rfl)) pe_str (nomark _)) (pss_one (ps_ret (pe_cmpR op_in_seq (pe_dget (hu_of hr) (pv 0) (pe_ix ix_tup (pv 1) pe_int (fun _ _ => rfl)) (fun _ _ => rfl)) (pe_ix ix_tup (pv 1) pe_int (fun _ _ => rfl)) (by rfl)))) pss_nil)
        (pss_cons (ps_if (pt_cmpR op_eq (pe_ix ix_tup (pv 1) pe_int (fun _ _ => rfl)) pe_str (nomark _)) (pss_one (ps_ret (pe_cmpR op_isN (pe_dget (hu_of hr) (pv 0) (pe_ix ix_tup (pv 1) pe_int (fun _ _ => rfl)) (fun _ _ => rfl)) pe_non (nomark _)))) pss_nil)
        (pss_one (ps_ret (pe_never)))), ?_⟩
      cases t with
      | is_ x ws =>
        obtain ⟨c, qq, rfl, s1, s2⟩ := dt_is hd
        have e : ev kvs (.is_ x ws) = inV u (ws.map V.str) := by
          show inV ((valV kvs (.inr x)).getD .non) _ = _
          rw [show valV kvs (.inr x) = some u from hu]
          rfl
        rw [e] at q
        refine ⟨_, rfl, c, _, 0, _, rfl, rfl, s1, atI_nat (j := 0) rfl, rfl, _, rfl, ifT rfl ?_⟩
        exact ⟨_, rfl, _, rfl, c, _, 1, _, rfl, rfl, s1, atI_nat (j := 1) rfl, a, u, rfl, dget_rd ha hu, _, rfl, c, _, 2, _, rfl, rfl, s1, atI_nat (j := 2) rfl, qq, _, rfl, Or.inl s2, fu, flat_strs ws, q⟩
      | non x =>
        obtain ⟨c, rfl, s1⟩ := dt_non hd
        have e : ev kvs (.non x) = decide (u = .non) := by
          show decide ((valV kvs (.inr x)).getD .non = .non) = _
          rw [show valV kvs (.inr x) = some u from hu]
          rfl
        rw [e] at q
        refine ⟨_, rfl, c, _, 0, _, rfl, rfl, s1, atI_nat (j := 0) rfl, rfl, _, rfl, ifF rfl ?_⟩
        refine ⟨_, rfl, c, _, 0, _, rfl, rfl, s1, atI_nat (j := 0) rfl, rfl, _, rfl, ifT rfl ?_⟩
        exact ⟨_, rfl, _, rfl, c, _, 1, _, rfl, rfl, s1, atI_nat (j := 1) rfl, a, u, rfl, dget_rd ha hu, rfl, q⟩
      | nt t => exact absurd hdep (by show ¬ t.dep + 1 ≤ 0; omega)
  | succ n ih =>
    refine F.ok scsPasses (fun vs H Q E h => ?_) (fun cdv A0 out s H vs Q E hr h => ?_)
    · obtain ⟨a, v, kvs, t, rfl, _⟩ := h
      rfl
    · obtain ⟨a, v, kvs, t, rfl, ha, hd, hdep, ⟨u, hu, fu⟩, q⟩ := h
      refine ⟨_, pss_cons (ps_if (pt_cmpR op_eq (pe_ix ix_tup (pv 1) pe_int (fun _ _ => rfl)) pe_str (nomark _)) (pss_one (ps_ret (pe_cmpR op_in_seq (pe_dget (hu_of hr) (pv 0) (pe_ix ix_tup (pv 1) pe_int (fun _ _ => rfl)) (fun _ _ => rfl)) (pe_ix ix_tup (pv 1) pe_int (fun _ _ => rfl)) (by rfl)))) pss_nil)
        (pss_cons (ps_if (pt_cmpR op_eq (pe_ix ix_tup (pv 1) pe_int (fun _ _ => rfl)) pe_str (nomark _)) (pss_one (ps_ret (pe_cmpR op_isN (pe_dget (hu_of hr) (pv 0) (pe_ix ix_tup (pv 1) pe_int (fun _ _ => rfl)) (fun _ _ => rfl)) pe_non (nomark _)))) pss_nil)
        (pss_one (ps_ret (pe_not (pe_call ih hr rfl m kp b .nil pass0 (pa_cons (pv 0) (pa_cons (pe_ix ix_tup (pv 1) pe_int (fun _ _ => rfl)) pa_nil))))))), ?_⟩
      cases t with
      | is_ x ws =>
        obtain ⟨c, qq, rfl, s1, s2⟩ := dt_is hd
        have e : ev kvs (.is_ x ws) = inV u (ws.map V.str) := by
          show inV ((valV kvs (.inr x)).getD .non) _ = _
          rw [show valV kvs (.inr x) = some u from hu]
          rfl
        rw [e] at q
        refine ⟨_, rfl, c, _, 0, _, rfl, rfl, s1, atI_nat (j := 0) rfl, rfl, _, rfl, ifT rfl ?_⟩
        exact ⟨_, rfl, _, rfl, c, _, 1, _, rfl, rfl, s1, atI_nat (j := 1) rfl, a, u, rfl, dget_rd ha hu, _, rfl, c, _, 2, _, rfl, rfl, s1, atI_nat (j := 2) rfl, qq, _, rfl, Or.inl s2, fu, flat_strs ws, q⟩
      | non x =>
        obtain ⟨c, rfl, s1⟩ := dt_non hd
        have e : ev kvs (.non x) = decide (u = .non) := by
          show decide ((valV kvs (.inr x)).getD .non = .non) = _
          rw [show valV kvs (.inr x) = some u from hu]
          rfl
        rw [e] at q
        refine ⟨_, rfl, c, _, 0, _, rfl, rfl, s1, atI_nat (j := 0) rfl, rfl, _, rfl, ifF rfl ?_⟩
        refine ⟨_, rfl, c, _, 0, _, rfl, rfl, s1, atI_nat (j := 0) rfl, rfl, _, rfl, ifT rfl ?_⟩
        exact ⟨_, rfl, _, rfl, c, _, 1, _, rfl, rfl, s1, atI_nat (j := 1) rfl, a, u, rfl, dget_rd ha hu, rfl, q⟩
      | nt t =>
        obtain ⟨c, z, rfl, s1, d1⟩ := dt_nt hd
        refine ⟨_, rfl, c, _, 0, _, rfl, rfl, s1, atI_nat (j := 0) rfl, rfl, _, rfl, ifF rfl ?_⟩
        refine ⟨_, rfl, c, _, 0, _, rfl, rfl, s1, atI_nat (j := 0) rfl, rfl, _, rfl, ifF rfl ?_⟩
        exact ⟨_, rfl, _, rfl, c, _, 1, _, rfl, rfl, s1, atI_nat (j := 1) rfl, a, z, kvs, t, rfl, ha, d1, by have : t.dep + 1 ≤ n + 1 := hdep; omega, ⟨u, hu, fu⟩, _, rfl, q⟩
abbrev sLawPasses : Stmt := top 12
theorem scsLawPasses : FnScope ["_law_row", "_law_test"] ["_law_row", "_law_test"] (defScope sLawPasses) := ⟨rfl, rfl, rfl, by decide +kernel, rfl, by decide +kernel, by decide +kernel⟩
theorem ok_sLawPasses {f : Addr} {fd : FuncData} (F : Fun K "_law_passes" "_law_passes" sLawPasses f fd) (b : Binds K fd ["_law_row", "_law_test"] []) (m : mg "_law_passes" = some (.ref f)) (kp : PySem.W.keepIn K (.ref f) = true) :
    ∀ n : Nat, FnOk P w K mg base CX0 (n + 1) f fd ["_law_row", "_law_test"] (spPasses K n) := by
  intro n
  induction n with
  | zero =>
    refine F.ok scsLawPasses (fun vs H Q E h => ?_) (fun cdv A0 out s H vs Q E hr h => ?_)
    · obtain ⟨a, v, kvs, t, rfl, _⟩ := h
      rfl
    · obtain ⟨a, v, kvs, t, rfl, ha, hd, hdep, ⟨u, hu, fu⟩, q⟩ := h
      refine ⟨_, pss_cons (ps_if (pt_cmpR op_eq (pe_ix ix_tup (pv 1) pe_int (fun _ _ => rfl)) pe_str (nomark _)) (pss_one (ps_ret (pe_cmpR op_in_seq (pe_dget (hu_of hr) (pv 0) (pe_ix ix_tup (pv 1) pe_int (fun _ _ => rfl)) (fun _ _ => rfl)) (pe_ix ix_tup (pv 1) pe_int (fun _ _ => rfl)) (by rfl)))) pss_nil)
        (pss_cons (ps_if (pt_cmpR op_eq (pe_ix ix_tup (pv 1) pe_int (fun _ _ => rfl)) pe_str (nomark _)) (pss_one (ps_ret (pe_cmpR op_isN (pe_dget (hu_of hr) (pv 0) (pe_ix ix_tup (pv 1) pe_int (fun _ _ => rfl)) (fun _ _ => rfl)) pe_non (nomark _)))) pss_nil)
        (pss_one (ps_ret (pe_never)))), ?_⟩
      cases t with
      | is_ x ws =>
        obtain ⟨c, qq, rfl, s1, s2⟩ := dt_is hd
        have e : ev kvs (.is_ x ws) = inV u (ws.map V.str) := by
          show inV ((valV kvs (.inr x)).getD .non) _ = _
          rw [show valV kvs (.inr x) = some u from hu]
          rfl
        rw [e] at q
        refine ⟨_, rfl, c, _, 0, _, rfl, rfl, s1, atI_nat (j := 0) rfl, rfl, _, rfl, ifT rfl ?_⟩
        exact ⟨_, rfl, _, rfl, c, _, 1, _, rfl, rfl, s1, atI_nat (j := 1) rfl, a, u, rfl, dget_rd ha hu, _, rfl, c, _, 2, _, rfl, rfl, s1, atI_nat (j := 2) rfl, qq, _, rfl, Or.inl s2, fu, flat_strs ws, q⟩
      | non x =>
        obtain ⟨c, rfl, s1⟩ := dt_non hd
        have e : ev kvs (.non x) = decide (u = .non) := by
          show decide ((valV kvs (.inr x)).getD .non = .non) = _
          rw [show valV kvs (.inr x) = some u from hu]
          rfl
        rw [e] at q
        refine ⟨_, rfl, c, _, 0, _, rfl, rfl, s1, atI_nat (j := 0) rfl, rfl, _, rfl, ifF rfl ?_⟩
        refine ⟨_, rfl, c, _, 0, _, rfl, rfl, s1, atI_nat (j := 0) rfl, rfl, _, rfl, ifT rfl ?_⟩
        exact ⟨_, rfl, _, rfl, c, _, 1, _, rfl, rfl, s1, atI_nat (j := 1) rfl, a, u, rfl, dget_rd ha hu, rfl, q⟩
      | nt t => exact absurd hdep (by show ¬ t.dep + 1 ≤ 0; omega)
  | succ n ih =>
    refine F.ok scsLawPasses (fun vs H Q E h => ?_) (fun cdv A0 out s H vs Q E hr h => ?_)
    · obtain ⟨a, v, kvs, t, rfl, _⟩ := h
      rfl
    · obtain ⟨a, v, kvs, t, rfl, ha, hd, hdep, ⟨u, hu, fu⟩, q⟩ := h
      refine ⟨_, pss_cons (ps_if (pt_cmpR op_eq (pe_ix ix_tup (pv 1) pe_int (fun _ _ => rfl)) pe_str (nomark _)) (pss_one (ps_ret (pe_cmpR op_in_seq (pe_dget (hu_of hr) (pv 0) (pe_ix ix_tup (pv 1) pe_int (fun _ _ => rfl)) (fun _ _ => rfl)) (pe_ix ix_tup (pv 1) pe_int (fun _ _ => rfl)) (by rfl)))) pss_nil)
        (pss_cons (ps_if (pt_cmpR op_eq (pe_ix ix_tup (pv 1) pe_int (fun _ _ => rfl)) pe_str (nomark _)) (pss_one (ps_ret (pe_cmpR op_isN (pe_dget (hu_of hr) (pv 0) (pe_ix ix_tup (pv 1) pe_int (fun _ _ => rfl)) (fun _ _ => rfl)) pe_non (nomark _)))) pss_nil)
        (pss_one (ps_ret (pe_not (pe_call ih hr rfl m kp b .nil pass0 (pa_cons (pv 0) (pa_cons (pe_ix ix_tup (pv 1) pe_int (fun _ _ => rfl)) pa_nil))))))), ?_⟩
      cases t with
      | is_ x ws =>
        obtain ⟨c, qq, rfl, s1, s2⟩ := dt_is hd
        have e : ev kvs (.is_ x ws) = inV u (ws.map V.str) := by
          show inV ((valV kvs (.inr x)).getD .non) _ = _
          rw [show valV kvs (.inr x) = some u from hu]
          rfl
        rw [e] at q
        refine ⟨_, rfl, c, _, 0, _, rfl, rfl, s1, atI_nat (j := 0) rfl, rfl, _, rfl, ifT rfl ?_⟩
        exact ⟨_, rfl, _, rfl, c, _, 1, _, rfl, rfl, s1, atI_nat (j := 1) rfl, a, u, rfl, dget_rd ha hu, _, rfl, c, _, 2, _, rfl, rfl, s1, atI_nat (j := 2) rfl, qq, _, rfl, Or.inl s2, fu, flat_strs ws, q⟩
      | non x =>
        obtain ⟨c, rfl, s1⟩ := dt_non hd
        have e : ev kvs (.non x) = decide (u = .non) := by
          show decide ((valV kvs (.inr x)).getD .non = .non) = _
          rw [show valV kvs (.inr x) = some u from hu]
          rfl
        rw [e] at q
        refine ⟨_, rfl, c, _, 0, _, rfl, rfl, s1, atI_nat (j := 0) rfl, rfl, _, rfl, ifF rfl ?_⟩
        refine ⟨_, rfl, c, _, 0, _, rfl, rfl, s1, atI_nat (j := 0) rfl, rfl, _, rfl, ifT rfl ?_⟩
        exact ⟨_, rfl, _, rfl, c, _, 1, _, rfl, rfl, s1, atI_nat (j := 1) rfl, a, u, rfl, dget_rd ha hu, rfl, q⟩
      | nt t =>
        obtain ⟨c, z, rfl, s1, d1⟩ := dt_nt hd
        refine ⟨_, rfl, c, _, 0, _, rfl, rfl, s1, atI_nat (j := 0) rfl, rfl, _, rfl, ifF rfl ?_⟩
        refine ⟨_, rfl, c, _, 0, _, rfl, rfl, s1, atI_nat (j := 0) rfl, rfl, _, rfl, ifF rfl ?_⟩
        exact ⟨_, rfl, _, rfl, c, _, 1, _, rfl, rfl, s1, atI_nat (j := 1) rfl, a, z, kvs, t, rfl, ha, d1, by have : t.dep + 1 ≤ n + 1 := hdep; omega, ⟨u, hu, fu⟩, _, rfl, q⟩
abbrev sFieldIn : Stmt := top 3
theorem scsFieldIn : FnScope ["test"] ["test"] (defScope sFieldIn) := ⟨rfl, rfl, rfl, by decide +kernel, rfl, by decide +kernel, by decide +kernel⟩
theorem ok_sFieldIn {f : Addr} {fd : FuncData} (F : Fun K "field_in" "field_in" sFieldIn f fd) (b : Binds K fd ["test"] []) (m : mg "field_in" = some (.ref f)) (kp : PySem.W.keepIn K (.ref f) = true) :
    ∀ n : Nat, FnOk P w K mg base CX0 (n + 1) f fd ["test"] (spNamed K n) := by
  intro n
  have two : ∀ {H : Hp} {v : V} {t : Tst}, (∀ t', t ≠ .nt t') → Dt K H v t.D → ∃ c xs y, v = .ref c ∧ SqT K H c (.str y :: .str t.nm :: xs) ∧ (decide (V.str y = V.str "not")) = false := by
    intro H v t nn hd
    cases t with
    | is_ x ws =>
      obtain ⟨c, qq, rfl, s1, s2⟩ := dt_is hd
      exact ⟨c, _, _, rfl, s1, by decide +kernel⟩
    | non x =>
      obtain ⟨c, rfl, s1⟩ := dt_non hd
      exact ⟨c, _, _, rfl, s1, by decide +kernel⟩
    | nt t => exact absurd rfl (nn t)
  induction n with
  | zero =>
    refine F.ok scsFieldIn (fun vs H Q E h => ?_) (fun cdv A0 out s H vs Q E hr h => ?_)
    · obtain ⟨v, t, rfl, _⟩ := h
      rfl
    · obtain ⟨v, t, rfl, hd, hdep, q⟩ := h
      refine ⟨_, pss_one (ps_ret (pe_ifExp (pt_cmpR op_eq (pe_ix ix_tup (pv 0) pe_int (fun _ _ => rfl)) pe_str (nomark _)) pe_never (pe_ix ix_tup (pv 0) pe_int (fun _ _ => rfl)))), ?_⟩
      obtain ⟨c, xs, y, rfl, s1, hy⟩ := two (fun t' e => by rw [e] at hdep; exact absurd hdep (by show ¬ t'.dep + 1 ≤ 0; omega)) hd
      exact ⟨_, rfl, c, _, 0, _, rfl, rfl, s1, atI_nat (j := 0) rfl, rfl, _, rfl, ifF hy ⟨_, rfl, c, _, 1, _, rfl, rfl, s1, atI_nat (j := 1) rfl, q⟩⟩
  | succ n ih =>
    refine F.ok scsFieldIn (fun vs H Q E h => ?_) (fun cdv A0 out s H vs Q E hr h => ?_)
    · obtain ⟨v, t, rfl, _⟩ := h
      rfl
    · obtain ⟨v, t, rfl, hd, hdep, q⟩ := h
      refine ⟨_, pss_one (ps_ret (pe_ifExp (pt_cmpR op_eq (pe_ix ix_tup (pv 0) pe_int (fun _ _ => rfl)) pe_str (nomark _)) (pe_call ih hr rfl m kp b .nil pass0 (pa_cons (pe_ix ix_tup (pv 0) pe_int (fun _ _ => rfl)) pa_nil)) (pe_ix ix_tup (pv 0) pe_int (fun _ _ => rfl)))), ?_⟩
      by_cases nn : ∃ t', t = .nt t'
      · obtain ⟨t', rfl⟩ := nn
        obtain ⟨c, z, rfl, s1, d1⟩ := dt_nt hd
        exact ⟨_, rfl, c, _, 0, _, rfl, rfl, s1, atI_nat (j := 0) rfl, rfl, _, rfl, ifT rfl ⟨_, rfl, c, _, 1, _, rfl, rfl, s1, atI_nat (j := 1) rfl, z, t', rfl, d1, by have : t'.dep + 1 ≤ n + 1 := hdep; omega, q⟩⟩
      · obtain ⟨c, xs, y, rfl, s1, hy⟩ := two (fun t' e => nn ⟨t', e⟩) hd
        exact ⟨_, rfl, c, _, 0, _, rfl, rfl, s1, atI_nat (j := 0) rfl, rfl, _, rfl, ifF hy ⟨_, rfl, c, _, 1, _, rfl, rfl, s1, atI_nat (j := 1) rfl, q⟩⟩
abbrev sNamed : Stmt := top 15
theorem scsNamed : FnScope ["_law_test"] ["_law_test"] (defScope sNamed) := ⟨rfl, rfl, rfl, by decide +kernel, rfl, by decide +kernel, by decide +kernel⟩
theorem ok_sNamed {f : Addr} {fd : FuncData} (F : Fun K "_law_named" "_law_named" sNamed f fd) (b : Binds K fd ["_law_test"] []) (m : mg "_law_named" = some (.ref f)) (kp : PySem.W.keepIn K (.ref f) = true) :
    ∀ n : Nat, FnOk P w K mg base CX0 (n + 1) f fd ["_law_test"] (spNamed K n) := by
  intro n
  have two : ∀ {H : Hp} {v : V} {t : Tst}, (∀ t', t ≠ .nt t') → Dt K H v t.D → ∃ c xs y, v = .ref c ∧ SqT K H c (.str y :: .str t.nm :: xs) ∧ (decide (V.str y = V.str "not")) = false := by
    intro H v t nn hd
    cases t with
    | is_ x ws =>
      obtain ⟨c, qq, rfl, s1, s2⟩ := dt_is hd
      exact ⟨c, _, _, rfl, s1, by decide +kernel⟩
    | non x =>
      obtain ⟨c, rfl, s1⟩ := dt_non hd
      exact ⟨c, _, _, rfl, s1, by decide +kernel⟩
    | nt t => exact absurd rfl (nn t)
  induction n with
  | zero =>
    refine F.ok scsNamed (fun vs H Q E h => ?_) (fun cdv A0 out s H vs Q E hr h => ?_)
    · obtain ⟨v, t, rfl, _⟩ := h
      rfl
    · obtain ⟨v, t, rfl, hd, hdep, q⟩ := h
      refine ⟨_, pss_one (ps_ret (pe_ifExp (pt_cmpR op_eq (pe_ix ix_tup (pv 0) pe_int (fun _ _ => rfl)) pe_str (nomark _)) pe_never (pe_ix ix_tup (pv 0) pe_int (fun _ _ => rfl)))), ?_⟩
      obtain ⟨c, xs, y, rfl, s1, hy⟩ := two (fun t' e => by rw [e] at hdep; exact absurd hdep (by show ¬ t'.dep + 1 ≤ 0; omega)) hd
      exact ⟨_, rfl, c, _, 0, _, rfl, rfl, s1, atI_nat (j := 0) rfl, rfl, _, rfl, ifF hy ⟨_, rfl, c, _, 1, _, rfl, rfl, s1, atI_nat (j := 1) rfl, q⟩⟩
  | succ n ih =>
    refine F.ok scsNamed (fun vs H Q E h => ?_) (fun cdv A0 out s H vs Q E hr h => ?_)
    · obtain ⟨v, t, rfl, _⟩ := h
      rfl
    · obtain ⟨v, t, rfl, hd, hdep, q⟩ := h
      refine ⟨_, pss_one (ps_ret (pe_ifExp (pt_cmpR op_eq (pe_ix ix_tup (pv 0) pe_int (fun _ _ => rfl)) pe_str (nomark _)) (pe_call ih hr rfl m kp b .nil pass0 (pa_cons (pe_ix ix_tup (pv 0) pe_int (fun _ _ => rfl)) pa_nil)) (pe_ix ix_tup (pv 0) pe_int (fun _ _ => rfl)))), ?_⟩
      by_cases nn : ∃ t', t = .nt t'
      · obtain ⟨t', rfl⟩ := nn
        obtain ⟨c, z, rfl, s1, d1⟩ := dt_nt hd
        exact ⟨_, rfl, c, _, 0, _, rfl, rfl, s1, atI_nat (j := 0) rfl, rfl, _, rfl, ifT rfl ⟨_, rfl, c, _, 1, _, rfl, rfl, s1, atI_nat (j := 1) rfl, z, t', rfl, d1, by have : t'.dep + 1 ≤ n + 1 := hdep; omega, q⟩⟩
      · obtain ⟨c, xs, y, rfl, s1, hy⟩ := two (fun t' e => nn ⟨t', e⟩) hd
        exact ⟨_, rfl, c, _, 0, _, rfl, rfl, s1, atI_nat (j := 0) rfl, rfl, _, rfl, ifF hy ⟨_, rfl, c, _, 1, _, rfl, rfl, s1, atI_nat (j := 1) rfl, q⟩⟩
end
end E

set_option Elab.async false
set_option linter.all false
set_option maxRecDepth 100000
set_option maxHeartbeats 4000000
namespace E
open PySem PyProof.Rows L2 TL EG ES
section
variable {X : Cx}
/-- xs == [], whatever xs holds -/
def rEqNil (K : PySem.W.Frag) : R2 := fun x y H Q => ∃ a b xs, x = .ref a ∧ y = .ref b ∧ SqL K H a xs ∧ SqL K H b [] ∧ Q (.bl xs.isEmpty) H
theorem op_eqNil (hu : X.A.units < cLine) : OpR X (compareOp .Eq) (rEqNil X.K) := by
  intro pins s σ H x y v u Q I rx ry h
  obtain ⟨a, b, xs, rfl, rfl, ha, hb, q⟩ := h
  cases rx
  cases ry
  obtain ⟨us, r1, p1, _⟩ := I.list ha
  obtain ⟨ws, r2, p2, _⟩ := I.list hb
  cases r2
  cases xs with
  | nil =>
    cases r1
    exact SeqAt.rcP_lists (e := fun _ => true) p1.isList p2.isList rfl hu (fun j h1 _ => absurd h1 (Nat.not_lt_zero j)) _ _ ⟨.bl true, H, I, rfl, q⟩
  | cons z zs =>
    cases r1 with
    | cons rz rs =>
      exact SeqAt.RcAt.lists_lengths p1.isList p2.isList (by simp) hu X.prog X.w _ _ ⟨.bl false, H, I, rfl, q⟩
end
section
variable {P : Program} {w : World} {K : PySem.W.Frag} {mg : Str → Option Value} {base : Heap}
abbrev sMeets : Stmt := top 2
abbrev sLawMeets : Stmt := top 13
abbrev sFieldsIn : Stmt := top 4
theorem scMeets : FnScope ["row", "tests", "test"] ["row", "tests"] (defScope sMeets) := ⟨rfl, rfl, rfl, by decide +kernel, rfl, by decide +kernel, by decide +kernel⟩
theorem ok_meets {n : Nat} {f fP : Addr} {fd fdP : FuncData} (F : Fun K "meets" "meets" sMeets f fd) (GP : FnOk P w K mg base CX0 (n + 1) fP fdP ["row", "test"] (spPasses K n)) (bP : Binds K fdP ["row", "test"] [])
    (mP : mg "passes" = some (.ref fP)) (kP : PySem.W.keepIn K (.ref fP) = true) (nall : mg "all" = none) :
    FnOk P w K mg base CX0 (n + 2) f fd ["row", "tests"] (spMeets K n) := by
  refine F.ok scMeets (fun vs H Q E h => ?_) (fun cdv A0 out s H vs Q E hr h => ?_)
  · obtain ⟨a, p, kvs, us, ts, rfl, _⟩ := h
    rfl
  · obtain ⟨a, p, kvs, us, ts, rfl, ha, hp, da, dh, t60, k⟩ := h
    refine ⟨_, pss_one (ps_ret (pe_callB (cr_all rfl) (by rfl) nall (by decide +kernel) (pa_cons (pe_lc (own := [("test", 2)]) (g := gName 2) (tt := tYes) rfl scMeets.nd (pi_list (pv 1))
      (blkOk_by (N := ["row", "tests", "test"]) (sc := defScope sMeets) (by decide +kernel))
      (fun _ _ _ _ _ => pg_name (i := 2) scMeets.nd rfl (Or.inl rfl)) (fun _ _ _ _ _ => pts_nil)
      (fun _ _ _ _ _ => pe_call GP hr rfl mP kP bP .nil pass0 (pa_cons (pv 0) (pa_cons (pv 2) pa_nil)))) pa_nil))), ?_⟩
    have ul : us.length = ts.length := by rw [da.len, List.length_map]
    refine ⟨_, rfl, p, rfl, ⟨_, hp⟩, fun D hD => lc_list (xs := us) (fun j H' => Same H H' ∧ H' D = some (.lst (((ts.take j).map (ev kvs)).map V.bl))) ?_ ?_ ?_ ?_⟩
    · exact ⟨same_new (Same.refl _) hD, upd_same⟩
    · rintro j H1 _ ⟨s1, _⟩
      exact s1.seq hp
    · rintro j x H1 hx ⟨s1, d1⟩
      obtain ⟨t, ht, dt⟩ := tst_at da hx
      obtain ⟨h1, h2⟩ := dh t (List.mem_of_getElem? ht)
      refine ⟨rfl, _, rfl, _, rfl, a, x, kvs, t, rfl, rd_mono s1 ha, dt.mono s1, h1, h2, _, d1, ?_, same_upd s1 hD, ?_⟩
      · rw [List.length_map, List.length_map, List.length_take, sizeLine_eq]
        omega
      · rw [upd_same, List.take_add_one, ht, List.map_append, List.map_append]
        rfl
    · rintro H1 ⟨s1, d1⟩
      rw [ul, List.take_of_length_le (Nat.le_refl _)] at d1
      refine ⟨D, _, rfl, SqL.of d1, ?_⟩
      rw [List.all_map]
      exact k H1 s1
theorem scLawMeets : FnScope ["_law_row", "_law_tests_here", "_law_test"] ["_law_row", "_law_tests_here"] (defScope sLawMeets) := ⟨rfl, rfl, rfl, by decide +kernel, rfl, by decide +kernel, by decide +kernel⟩
theorem ok_lawMeets {n : Nat} {f fP : Addr} {fd fdP : FuncData} (F : Fun K "_law_meets" "_law_meets" sLawMeets f fd) (GP : FnOk P w K mg base CX0 (n + 1) fP fdP ["_law_row", "_law_test"] (spPasses K n)) (bP : Binds K fdP ["_law_row", "_law_test"] [])
    (mP : mg "_law_passes" = some (.ref fP)) (kP : PySem.W.keepIn K (.ref fP) = true) :
    FnOk P w K mg base CX0 (n + 2) f fd ["_law_row", "_law_tests_here"] (spMeets K n) := by
  refine F.ok scLawMeets (fun vs H Q E h => ?_) (fun cdv A0 out s H vs Q E hr h => ?_)
  · obtain ⟨a, p, kvs, us, ts, rfl, _⟩ := h
    rfl
  · obtain ⟨a, p, kvs, us, ts, rfl, ha, hp, da, dh, t60, k⟩ := h
    refine ⟨_, pss_one (ps_ret (pe_cmpR (op_eqNil hr.units0) (pe_lc (own := [("_law_test", 2)]) (g := gName 2) (tt := tNot (tB (tCall (spPasses K n) [] E0 (tCons (tVar 0) (tCons (tVar 2) tNil))))) rfl scLawMeets.nd (pi_list (pv 1))
      (blkOk_by (N := ["_law_row", "_law_tests_here", "_law_test"]) (sc := defScope sLawMeets) (by decide +kernel))
      (fun _ _ _ _ _ => pg_name (i := 2) scLawMeets.nd rfl (Or.inl rfl)) (fun _ _ _ _ _ => pts_one (pt_not (pt_val (pe_call GP hr rfl mP kP bP .nil pass0 (pa_cons (pv 0) (pa_cons (pv 2) pa_nil))))))
      (fun _ _ _ _ _ => pv 2)) (pe_lst pa_nil) (nomark _))), ?_⟩
    have ul : us.length = ts.length := by rw [da.len, List.length_map]
    refine ⟨_, rfl, p, rfl, ⟨_, hp⟩, fun D hD => lc_list (xs := us) (fun j H' => Same H H' ∧ ∃ acc : List V, H' D = some (.lst acc) ∧ acc.length ≤ j ∧ acc.isEmpty = (ts.take j).all (ev kvs)) ?_ ?_ ?_ ?_⟩
    · exact ⟨same_new (Same.refl _) hD, [], upd_same, Nat.le_refl _, rfl⟩
    · rintro j H1 _ ⟨s1, _⟩
      exact s1.seq hp
    · rintro j x H1 hx ⟨s1, acc, d1, al, ae⟩
      obtain ⟨t, ht, dt⟩ := tst_at da hx
      obtain ⟨h1, h2⟩ := dh t (List.mem_of_getElem? ht)
      have jl : j < us.length := (List.getElem?_eq_some_iff.mp hx).1
      refine ⟨rfl, _, rfl, _, rfl, a, x, kvs, t, rfl, rd_mono s1 ha, dt.mono s1, h1, h2, _, rfl, ?_⟩
      have e : (ts.take (j + 1)).all (ev kvs) = ((ts.take j).all (ev kvs) && ev kvs t) := by
        rw [List.take_add_one, ht, List.all_append]
        simp
      cases c : ev kvs t with
      | true =>
        refine ifF rfl ⟨s1, acc, d1, by omega, ?_⟩
        rw [e, c, ae, Bool.and_true]
      | false =>
        refine ifT rfl ⟨_, rfl, acc, d1, ?_, same_upd s1 hD, acc ++ [x], upd_same, ?_, ?_⟩
        · rw [sizeLine_eq]
          omega
        · rw [List.length_append]
          show acc.length + 1 ≤ _
          omega
        · rw [e, c, Bool.and_false]
          simp
    · rintro H1 ⟨s1, acc, d1, al, ae⟩
      rw [ul, List.take_of_length_le (Nat.le_refl _)] at ae
      refine ⟨Nat.zero_le _, fun q hq => ?_⟩
      refine ⟨D, q, acc, rfl, rfl, SqL.of ?_, SqL.of upd_same, ?_⟩
      · rw [upd_ne (ne_of_none d1 hq)]
        exact d1
      · rw [ae]
        exact k _ (same_new s1 hq)
theorem scFieldsIn : FnScope ["tests", "test"] ["tests"] (defScope sFieldsIn) := ⟨rfl, rfl, rfl, by decide +kernel, rfl, by decide +kernel, by decide +kernel⟩
theorem ok_fieldsIn {n : Nat} {f fP : Addr} {fd fdP : FuncData} (F : Fun K "fields_in" "fields_in" sFieldsIn f fd) (GP : FnOk P w K mg base CX0 (n + 1) fP fdP ["test"] (spNamed K n)) (bP : Binds K fdP ["test"] [])
    (mP : mg "field_in" = some (.ref fP)) (kP : PySem.W.keepIn K (.ref fP) = true) (nso : mg "sorted" = none) :
    FnOk P w K mg base CX0 (n + 2) f fd ["tests"] (spFieldsIn K n) := by
  refine F.ok scFieldsIn (fun vs H Q E h => ?_) (fun cdv A0 out s H vs Q E hr h => ?_)
  · obtain ⟨p, us, ts, rfl, _⟩ := h
    rfl
  · obtain ⟨p, us, ts, rfl, hp, da, dh, t60, k⟩ := h
    refine ⟨_, pss_one (ps_ret (pe_callB (cr_sortSetT rfl) (by rfl) nso (by decide +kernel) (pa_cons (pe_scT (own := [("test", 1)]) (g := gName 1) (tt := tYes) rfl scFieldsIn.nd (pi_list (pv 0))
      (blkOk_by (N := ["tests", "test"]) (sc := defScope sFieldsIn) (by decide +kernel))
      (fun _ _ _ _ _ => pg_name (i := 1) scFieldsIn.nd rfl (Or.inl rfl)) (fun _ _ _ _ _ => pts_nil)
      (fun _ _ _ _ _ => pe_call GP hr rfl mP kP bP .nil pass0 (pa_cons (pv 1) pa_nil))) pa_nil))), ?_⟩
    have ul : us.length = ts.length := by rw [da.len, List.length_map]
    refine ⟨_, rfl, p, rfl, ⟨_, hp⟩, fun D hD => scT_list (xs := us) (fun j H' => Same H H' ∧ ∃ (S : Str → Bool) (c : Nat), H' D = some (SetTO w D S c) ∧ c ≤ j ∧ ∀ x, S x = true ↔ x ∈ (ts.take j).map Tst.nm) ?_ ?_ ?_ ?_⟩
    · exact ⟨same_new (Same.refl _) hD, _, 0, upd_same, Nat.le_refl _, fun x => by simp⟩
    · rintro j H1 _ ⟨s1, _⟩
      exact s1.seq hp
    · rintro j x H1 hx ⟨s1, S, c, d1, cl, hS⟩
      obtain ⟨t, ht, dt⟩ := tst_at da hx
      have h1 := dh t (List.mem_of_getElem? ht)
      have jl : j < us.length := (List.getElem?_eq_some_iff.mp hx).1
      refine ⟨rfl, _, rfl, x, t, rfl, dt.mono s1, h1, t.nm, S, c, rfl, d1, ?_, same_upd s1 hD, _, _, upd_same, ?_, ?_⟩
      · unfold scanBound
        omega
      · split <;> omega
      · intro y
        rw [Bool.or_eq_true, hS y, decide_eq_true_eq, List.take_add_one, ht, List.map_append, List.mem_append]
        simp
    · rintro H1 ⟨s1, S, c, d1, cl, hS⟩
      rw [ul, List.take_of_length_le (Nat.le_refl _)] at hS
      refine ⟨D, S, c, rfl, d1, fun xs q hs nd hm hq => ?_⟩
      exact k _ q xs (same_new s1 hq) (s1.free hq) upd_same hs nd fun x => (hm x).trans (hS x)
end
end E

set_option Elab.async false
set_option linter.all false
set_option maxRecDepth 100000
set_option maxHeartbeats 4000000
namespace E
open PySem PyProof.Rows L2 TL EG ES
/-! ### rows -/
def TAll (G : Hp) (tkvs : List (Key × V)) : Prop := ∀ p ∈ tkvs, ∃ (x : Str) (d : Addr) (kvs : List (Key × V)), p.1 = .inr x ∧ p.2 = .ref d ∧ G d = some (.dK kvs) ∧ FAll G kvs ∧ kvs.length ≤ 6 ∧ Sm x
theorem TAll.keys {G : Hp} : ∀ {kvs : List (Key × V)}, TAll G kvs → ∃ ks : List Str, kvs.map (·.1) = ks.map Sum.inr ∧ ∀ x ∈ ks, Sm x
  | [], _ => ⟨[], rfl, fun x hx => absurd hx List.not_mem_nil⟩
  | kv :: r, h => by
    obtain ⟨x, d, kvs, h1, _, _, _, _, h2⟩ := h kv List.mem_cons_self
    obtain ⟨ks, e, a⟩ := TAll.keys fun p hp => h p (List.mem_cons_of_mem _ hp)
    refine ⟨x :: ks, ?_, fun y hy => ?_⟩
    · rw [List.map_cons, List.map_cons, h1, e]
    · rcases List.mem_cons.mp hy with hy | hy
      · rw [hy]
        exact h2
      · exact a y hy
def ValOk (v : V) : Prop := v = .non ∨ ∃ y : Str, v = .str y ∧ Sm y
structure RowPart (row : List (Key × V)) (xs : List Str) (n : Nat) : Prop where
  all : ∀ p ∈ row, ∃ x : Str, p.1 = .inr x ∧ Sm x ∧ ValOk p.2
  has : ∀ x ∈ xs, ∃ v, valV row (.inr x) = some v
  len : row.length ≤ n
def RowOk (kvs row : List (Key × V)) : Prop := ∃ ks : List Str, kvs.map (·.1) = ks.map Sum.inr ∧ RowPart row ks 6
theorem RowPart.put {row : List (Key × V)} {xs : List Str} {n : Nat} {x : Str} {v : V} (h : RowPart row xs n) (hx : Sm x) (hv : ValOk v) : RowPart (putK row (.inr x) v) (xs ++ [x]) (n + 1) := by
  refine ⟨fun p hp => ?_, fun y hy => ?_, ?_⟩
  · rcases putK_mem hp with hp | hp
    · exact h.all p hp
    · rw [hp]
      exact ⟨x, rfl, hx, hv⟩
  · rw [valV_put]
    by_cases e : (Sum.inr y : Key) = .inr x
    · exact ⟨v, by rw [if_pos e]⟩
    · rw [if_neg e]
      rcases List.mem_append.mp hy with hy | hy
      · exact h.has y hy
      · exact absurd (by rw [List.mem_singleton.mp hy]) e
  · have h1 := putK_len row (.inr x) v
    have h2 := h.len
    omega
def RAll (G : Hp) (tkvs rkvs : List (Key × V)) : Prop := ∀ p ∈ rkvs, ∃ (x tn : Str) (t a d : Addr) (kvs row : List (Key × V)), p.1 = .inr x ∧ p.2 = .ref t ∧ G t = some (.tup [.str tn, .ref a]) ∧ valV tkvs (.inr tn) = some (.ref d) ∧ G d = some (.dK kvs) ∧ G a = some (.dK row) ∧ RowOk kvs row
abbrev sRows : Stmt := top 14
abbrev nRows : List Str := ["_law_bag_here", "_law_tables", "_law_top", "_law_strangers", "_law_ids", "_law_names_here", "_law_homes", "_law_far", "_law_ident", "_law_found", "_law_table", "_law_row", "_law_field", "_law_sort", "_law_some", "_law_one"]
def spRows : Sp := fun vs H Q _ => ∃ (b l td : Addr) (tp st : Int) (tkvs : List (Key × V)) (G : Hp), vs = [.ref b, .ref td, .int tp, .int st] ∧ 0 ≤ tp ∧ 0 ≤ st ∧ tp + st ≤ 8 ∧ G td = some (.dK tkvs) ∧ TAll G tkvs ∧ tkvs ≠ [] ∧ tkvs.length ≤ 60 ∧ Wd b l G H ∧
  ∀ (fd : Addr) (rkvs : List (Key × V)) G' H', Stp b l G H G' H' → Loc b H G' H' fd (.dK rkvs) → RAll G' tkvs rkvs → rkvs.length ≤ 8 → (rkvs.map (·.1)).Nodup → Q (.ref fd) H'
structure Ent where
  x : Str
  p : Addr
  t : Addr
  tn : Str
  a : Addr
def Ent.kv (e : Ent) : Key × V := (.inr e.x, .ref e.t)
theorem merge_id : ∀ (more kvs : List (Key × V)), ((kvs ++ more).map (·.1)).Nodup → mergeK kvs more = kvs ++ more
  | [], kvs, _ => (List.append_nil kvs).symm
  | p :: more, kvs, nd => by
    show mergeK (putK kvs p.1 p.2) more = _
    have h : valV kvs p.1 = none := by
      cases e : valV kvs p.1 with
      | none => rfl
      | some v =>
        exfalso
        have m := valV_mem e
        rw [List.map_append, List.map_cons] at nd
        exact (List.nodup_append.mp nd).2.2 p.1 (List.mem_map.mpr ⟨_, m, rfl⟩) p.1 List.mem_cons_self rfl
    rw [putK_new p.2 h, merge_id more _ (by rw [List.append_assoc]; exact nd), List.append_assoc]
    rfl
theorem Loc.frzOther {b p m : Addr} {H0 G H : Hp} {o o' : HO} (L : Loc b H0 G H p o) (n : p ≠ m) : Loc b H0 (upd G m o') H p o := ⟨L.h0, by rw [upd_ne n]; exact L.g, L.nb, L.at_⟩
theorem atI_ok {xs : List V} {r : Int} (h : ∀ x ∈ xs, ValOk x) (h0 : 0 ≤ r) (h1 : r < (xs.length : Int)) : ∃ v, atI xs r = some v ∧ ValOk v := by
  obtain ⟨n, rfl⟩ : ∃ n : Nat, r = (n : Int) := ⟨r.toNat, by omega⟩
  have hn : n < xs.length := by omega
  exact ⟨xs[n], atI_nat (List.getElem?_eq_getElem hn), h _ (List.getElem_mem hn)⟩
theorem atI_str {xs : List Str} {r : Int} (h0 : 0 ≤ r) (h1 : r < (xs.length : Int)) : ∃ v, atI (xs.map V.str) r = some (.str v) ∧ v ∈ xs := by
  obtain ⟨n, rfl⟩ : ∃ n : Nat, r = (n : Int) := ⟨r.toNat, by omega⟩
  have hn : n < xs.length := by omega
  exact ⟨xs[n], atI_nat (by rw [List.getElem?_map, List.getElem?_eq_getElem hn]; rfl), List.getElem_mem hn⟩
theorem getStr {xs : List Str} {j : Nat} {x : V} (hx : (xs.map V.str)[j]? = some x) : ∃ y, xs[j]? = some y ∧ x = V.str y := by
  rw [List.getElem?_map] at hx
  cases e : xs[j]? with
  | none => rw [e] at hx; cases hx
  | some n => rw [e] at hx; exact ⟨n, rfl, (Option.some.inj hx).symm⟩
theorem nodup_at {α : Type} {xs : List α} (nd : xs.Nodup) {i j : Nat} {a c : α} (lt : i < j) (h1 : xs[i]? = some a) (h2 : xs[j]? = some c) : c ≠ a := by
  obtain ⟨i1, e1⟩ := List.getElem?_eq_some_iff.mp h1
  obtain ⟨j1, e2⟩ := List.getElem?_eq_some_iff.mp h2
  intro z
  exact (List.pairwise_iff_getElem.mp nd) i j i1 j1 lt (by rw [e1, e2, z])
theorem valOk_strs {xs : List Str} (h : ∀ x ∈ xs, Sm x) : ∀ v ∈ xs.map V.str, ValOk v := fun v hv => by
  obtain ⟨x, hx, rfl⟩ := List.mem_map.mp hv
  exact Or.inr ⟨x, rfl, h x hx⟩
theorem ent_pairs {K : PySem.W.Frag} {H : Hp} : ∀ (es : List Ent), (∀ e ∈ es, H e.p = some (.tup [.str e.x, .ref e.t])) → Paired (fun p (kv : Key × V) => SqT K H p [kV kv.1, kv.2]) (es.map Ent.p) (es.map Ent.kv)
  | [], _ => .nil
  | e :: es, h => .cons (SqT.of (h e List.mem_cons_self)) (ent_pairs es fun e' he => h e' (List.mem_cons_of_mem _ he))
theorem getEnt {es : List Ent} {i : Nat} {k : Key} {v : V} (h : (es.map Ent.kv)[i]? = some (k, v)) : ∃ e, es[i]? = some e ∧ k = .inr e.x ∧ v = .ref e.t := by
  rw [List.getElem?_map] at h
  cases q : es[i]? with
  | none => rw [q] at h; cases h
  | some e =>
    rw [q] at h
    cases h
    exact ⟨e, rfl, rfl, rfl⟩
section
variable {P : Program} {w : World} {K : PySem.W.Frag} {mg : Str → Option Value} {base : Heap}
theorem scRows : FnScope nRows ["_law_bag_here", "_law_tables", "_law_top", "_law_strangers"] (defScope sRows) := ⟨rfl, rfl, rfl, by decide +kernel, rfl, by decide +kernel, by decide +kernel⟩
theorem ok_rows {f fT fN : Addr} {fd fdT fdN : FuncData} (F : Fun K "_law_rows" "_law_rows" sRows f fd) (T : TakeF P w K mg base fT fdT) (N : NamesF P w K mg base fN fdN) (nlen : mg "len" = none) (nso : mg "sorted" = none) (ndi : mg "dict" = none) (nli : mg "list" = none) :
    FnOk P w K mg base CX0 3 f fd ["_law_bag_here", "_law_tables", "_law_top", "_law_strangers"] spRows := by
  refine F.ok scRows (fun vs H Q E h => ?_) (fun cdv A0 out s H vs Q E hr h => ?_)
  · obtain ⟨b, l, td, tp, st, tkvs, G, rfl, _⟩ := h
    rfl
  · obtain ⟨b, l, td, tp, st, tkvs, G, rfl, tp0, st0, ts8, gtd, ta, tne, t60, w0, k⟩ := h
    have hr1 : Room 1 _ := hr.mono (by decide)
    refine ⟨_, pss_cons (ps_set (i := 4) scRows.nd rfl (Or.inl rfl) (pe_call N.G hr rfl N.m N.k N.b .nil pass0 (pa_cons (pv 0) (pa_cons (pe_op op_add (pe_call T.G hr1 rfl T.m T.k T.b .nil pass0 (pa_cons (pv 0) (pa_cons (pe_op op_add (pv 2) pe_int) pa_nil))) (pv 3)) pa_nil))))
      (pss_cons (ps_asg (pe_tup (pa_cons (pe_op op_cat (pe_call N.G hr rfl N.m N.k N.b .nil pass0 (pa_cons (pv 0) (pa_cons pe_int pa_nil))) (pe_lst (pa_cons pe_str pa_nil))) (pa_cons (pe_callB (call_sortedD rfl) (by rfl) nso (by decide +kernel) (pa_cons (pv 1) pa_nil)) pa_nil)))
        (pg_tup (by rfl) (pgs_cons (pg_name (i := 5) scRows.nd rfl (Or.inl rfl)) (pgs_cons (pg_name (i := 6) scRows.nd rfl (Or.inr rfl)) pgs_nil))))
      (pss_cons (ps_set (i := 7) scRows.nd rfl (Or.inr rfl) (pe_slice sl_list (pv 4) (po_some (pe_op op_sub (pe_callB call_len_seq (by rfl) nlen PySem.boot_len (pa_cons (pv 4) pa_nil)) (pv 3))) po_none))
      (pss_cons (ps_set (i := 9) scRows.nd rfl (Or.inr rfl) (pe_callTy (call_dictP rfl) (by rfl) ndi (by decide +kernel) (pa_cons
        (pe_lc (own := [("_law_ident", 8)]) (g := gName 8) (tt := tTest (tOp (rIn K true) (tVar 8) (tVar 7))) (te := tTup (tCons (tVar 8) (tCons (tTup (tCons (tOp (rIxL K) (tVar 6) (tCall spTake [] E0 (tCons (tVar 0) (tCons (tCB (Evl.rLenS K) (tCons (tVar 6) tNil)) tNil)))) (tCons tDNewK tNil))) tNil))) rfl scRows.nd (pi_list (pv 4))
          (blkOk_by (N := nRows) (sc := defScope sRows) (by decide +kernel))
          (fun _ _ _ _ _ => pg_name (i := 8) scRows.nd rfl (Or.inl rfl)) (fun _ _ _ _ _ => pts_one (pt_cmpR op_notIn_seq (pv 8) (pv 7) (by rfl)))
          (fun _ _ _ _ _ => pe_tup (pa_cons (pv 8) (pa_cons (pe_tup (pa_cons (pe_ix ix_list (pv 6) (pe_call T.G hr1 rfl T.m T.k T.b .nil pass0 (pa_cons (pv 0) (pa_cons (pe_callB call_len_seq (by rfl) nlen PySem.boot_len (pa_cons (pv 6) pa_nil)) pa_nil))) (fun _ _ => rfl)) (pa_cons pe_dnewK pa_nil))) pa_nil)))) pa_nil)))
      (pss_cons (ps_lock (ps_for PassesOwn.never rfl (pi_keys (pv 9)) (pg_name (i := 8) scRows.nd rfl (Or.inl rfl))
        (pss_cons (ps_asg (pe_dget (hu_of hr) (pv 9) (pv 8) (fun _ _ => rfl)) (pg_tup (by rfl) (pgs_cons (pg_name (i := 10) scRows.nd rfl (Or.inl rfl)) (pgs_cons (pg_name (i := 11) scRows.nd rfl (Or.inl rfl)) pgs_nil))))
        (pss_one (ps_for PassesOwn.never rfl (pi_list (pe_callB (call_sortedD rfl) (by rfl) nso (by decide +kernel) (pa_cons (pe_dget (hu_of hr) (pv 1) (pv 10) (fun _ _ => rfl)) pa_nil))) (pg_name (i := 12) scRows.nd rfl (Or.inl rfl))
          (pss_cons (ps_set (i := 13) scRows.nd rfl (Or.inr rfl) (pe_dget (hu_of hr) (pe_dget (hu_of hr) (pv 1) (pv 10) (fun _ _ => rfl)) (pv 12) (fun _ _ => rfl)))
          (pss_one (ps_if (pt_cmpR op_eq (pe_ix ix_tup (pv 13) pe_int (fun _ _ => rfl)) pe_str (nomark _))
            (pss_one (ps_dput (hu_of hr) (pv 11) (pv 12) (pe_ix ix_list (pe_ix ix_tup (pv 13) pe_int (fun _ _ => rfl)) (pe_call T.G hr1 rfl T.m T.k T.b .nil pass0 (pa_cons (pv 0) (pa_cons (pe_callB call_len_seq (by rfl) nlen PySem.boot_len (pa_cons (pe_ix ix_tup (pv 13) pe_int (fun _ _ => rfl)) pa_nil)) pa_nil))) (fun _ _ => rfl)) rfl))
            (pss_one (ps_if (pt_cmpR op_eq (pe_ix ix_tup (pv 13) pe_int (fun _ _ => rfl)) pe_str (nomark _))
              (pss_one (ps_dput (hu_of hr) (pv 11) (pv 12) (pe_ix ix_list (pe_op op_cat (pe_lst (pa_cons pe_non pa_nil)) (pv 5)) (pe_call T.G hr1 rfl T.m T.k T.b .nil pass0 (pa_cons (pv 0) (pa_cons pe_int pa_nil))) (fun _ _ => rfl)) rfl))
              (pss_cons (ps_set (i := 14) scRows.nd rfl (Or.inl rfl) (pe_op op_cat (pe_op op_cat (pe_op op_cat (pe_lst (pa_cons pe_non pa_nil))
                  (pe_lc (own := [("_law_one", 15)]) (g := gName 15) (tt := tTest (tOp rEq (tOp (rIxT K) (tDGet (tVar 9) (tVar 15)) (tC (.int 0))) (tOp (rIxT K) (tVar 13) (tC (.int 1))))) rfl scRows.nd (pi_keys (pv 9))
                    (blkOk_by (N := nRows) (sc := defScope sRows) (by decide +kernel))
                    (fun _ _ _ _ _ => pg_name (i := 15) scRows.nd rfl (Or.inl rfl)) (fun _ _ _ _ _ => pts_one (pt_cmpR op_eq (pe_ix ix_tup (pe_dget (hu_of hr) (pv 9) (pv 15) (fun _ _ => rfl)) pe_int (fun _ _ => rfl)) (pe_ix ix_tup (pv 13) pe_int (fun _ _ => rfl)) (nomark _)))
                    (fun _ _ _ _ _ => pv 15)))
                  (pv 7)) (pe_slice sl_list (pe_callTy (call_listD rfl) (by rfl) nli (by decide +kernel) (pa_cons (pv 9) pa_nil)) po_none (po_some pe_int))))
              (pss_one (ps_dput (hu_of hr) (pv 11) (pv 12) (pe_ix ix_list (pv 14) (pe_call T.G hr1 rfl T.m T.k T.b .nil pass0 (pa_cons (pv 0) (pa_cons (pe_callB call_len_seq (by rfl) nlen PySem.boot_len (pa_cons (pv 14) pa_nil)) pa_nil))) (fun _ _ => rfl)) rfl)))))))))))))
      (pss_one (ps_ret (pv 9))))))), ?_⟩
    -- ids
    have t0 := w0.refl
    refine ⟨_, rfl, _, rfl, _, rfl, _, _, rfl, rfl, b, l, tp + 1, rfl, by omega, by omega, t0.w.bag, fun r H1 r0 r1 but1 B1 => ?_⟩
    have t1 := t0.take w0 but1 B1
    refine ⟨_, rfl, _, _, rfl, rfl, b, l, r + st, G, rfl, by omega, by omega, t1.w, fun pi ids G1 H2 tn1 g1 il ind i8 => ?_⟩
    have t2 := t1.trans tn1 w0
    -- names_here, homes
    refine ⟨_, rfl, b, l, 2, G1, rfl, by decide, by decide, t2.w, fun pn ns G2 H3 tn2 g2 nl nnd n8 => ?_⟩
    have t3 := t2.trans tn2 w0
    refine ⟨by show 1 ≤ sizeLine; decide, fun pb hpb => ?_⟩
    have t4 := t3.wet (o := .lst [.str "ab"]) w0 hpb
    refine ⟨pn, pb, _, _, rfl, rfl, t4.gat g2, upd_same, ?_, fun pc hpc => ?_⟩
    · rw [List.length_map, sizeLine_eq]
      show ns.length + 1 ≤ _
      omega
    rw [show ns.map V.str ++ [V.str "ab"] = (ns ++ [("ab" : Str)]).map V.str from by rw [List.map_append]; rfl]
    have nh8 : ∀ x ∈ ns ++ [("ab" : Str)], Sm x := by
      intro x hx
      rcases List.mem_append.mp hx with hx | hx
      · exact n8 x hx
      · rw [List.mem_singleton.mp hx]
        decide +kernel
    have nhl : (ns ++ [("ab" : Str)]).length = 3 := by
      rw [List.length_append]
      show ns.length + 1 = 3
      omega
    generalize ns ++ [("ab" : Str)] = nh at nh8 nhl ⊢
    have t5 := t4.ice (o := .lst (nh.map V.str)) w0 hpc
    have s5 := (t4.w.ice (o := .lst (nh.map V.str)) hpc).g
    obtain ⟨ths, hths, th8⟩ := ta.keys
    have thl : ths.length = tkvs.length := by
      have := congrArg List.length hths
      rw [List.length_map, List.length_map] at this
      exact this.symm
    refine ⟨_, rfl, td, tkvs, ths, rfl, Rd.of (t5.gat (t5.g _ _ gtd)), hths, by omega, fun hs ph hperm _ hph => ?_⟩
    have t6 := t5.ice (o := .lst (hs.map V.str)) w0 hph
    have s6 := (t5.w.ice (o := .lst (hs.map V.str)) hph).g
    refine ⟨by show 2 ≤ sizeLine; decide, fun pt hpt => ?_⟩
    have t7 := t6.wet (o := .tup [.ref pc, .ref ph]) w0 hpt
    refine ⟨pt, _, rfl, SqT.of upd_same, rfl, _, _, rfl, _, _, rfl, rfl, ?_⟩
    generalize hG4 : upd (upd G2 pc (.lst (nh.map V.str))) ph (.lst (hs.map V.str)) = G4 at t6 s6 t7
    have gnh : G4 pc = some (.lst (nh.map V.str)) := s6 _ _ upd_same
    have ghs : G4 ph = some (.lst (hs.map V.str)) := by
      rw [← hG4]
      exact upd_same
    have gids : G4 pi = some (.lst (ids.map V.str)) := s6 _ _ (s5 _ _ (tn2.g _ _ g1))
    -- far
    refine ⟨_, rfl, _, rfl, pi, _, rfl, Or.inl (SqL.of (t7.gat gids)), _, rfl, _, _, rfl, rfl, _, rfl, pi, _, rfl, SqL.of (t7.gat gids), fun pf hpf => ?_⟩
    rw [cutV_map]
    generalize hfs : List.take _ (List.drop _ ids) = fs
    have fsl : fs.length ≤ 8 := by
      rw [← hfs, List.length_take, List.length_drop]
      omega
    have fs8 : ∀ x ∈ fs, Sm x := fun x hx => by
      rw [← hfs] at hx
      exact i8 x (List.mem_of_mem_drop (List.mem_of_mem_take hx))
    have t8 := t7.ice (o := .lst (fs.map V.str)) w0 hpf
    have s8 := (t7.w.ice (o := .lst (fs.map V.str)) hpf).g
    generalize hG5 : upd G4 pf (.lst (fs.map V.str)) = G5 at t8 s8
    have gfs : G5 pf = some (.lst (fs.map V.str)) := by
      rw [← hG5]
      exact upd_same
    -- found
    refine ⟨_, rfl, pi, rfl, ⟨_, SqL.of (t8.gat (s8 _ _ gids))⟩, fun D hD => lc_list (xs := ids.map V.str) (fun j H' => ∃ (es : List Ent) (G' : Hp), Stp b l G H G' H' ∧ Same G5 G' ∧ Loc b H G' H' D (.lst ((es.map Ent.p).map V.ref)) ∧
      (∀ e ∈ es, G' e.p = some (.tup [.str e.x, .ref e.t]) ∧ G' e.t = some (.tup [.str e.tn, .ref e.a]) ∧ e.tn ∈ ths ∧ Loc b H G' H' e.a (.dK []) ∧ e.a ≠ D) ∧ (es.map Ent.a).Nodup ∧ es.map Ent.x = (ids.take j).filter (fun x => !decide (x ∈ fs))) ?_ ?_ ?_ ?_⟩
    · exact ⟨[], G5, t8.wet w0 hD, Same.refl _, Loc.new t8 hD, fun e he => absurd he List.not_mem_nil, List.nodup_nil, rfl⟩
    · rintro j H4 _ ⟨es, G', t9, sg, _⟩
      exact SqL.of (t9.gat (sg _ _ (s8 _ _ gids)))
    · rintro j x H4 hx ⟨es, G', t9, sg, D9, ea, end_, ex⟩
      obtain ⟨y, hy, rfl⟩ := getStr hx
      refine ⟨rfl, _, rfl, _, rfl, pf, _, rfl, Or.inl (SqL.of (t9.gat (sg _ _ gfs))), rfl, flat_strs fs, _, rfl, ?_⟩
      show if (!inV (.str y) (fs.map V.str)) = true then _ else _
      rw [inV_strs]
      cases hc : (!decide (y ∈ fs)) with
      | false =>
        refine ifF rfl ⟨es, G', t9, sg, D9, ea, end_, ?_⟩
        rw [take_succ_filter _ hy, hc, ex]
        simp
      | true =>
        refine ifT rfl ?_
        have hsl : hs.length = tkvs.length := by rw [hperm.length_eq, thl]
        have tpos : 0 < tkvs.length := List.length_pos_iff.mpr tne
        refine ⟨_, rfl, _, rfl, _, rfl, _, rfl, ph, _, rfl, Or.inl (SqL.of (t9.gat (sg _ _ (s8 _ _ ghs)))), b, l, _, rfl, by rw [List.length_map]; omega, by rw [List.length_map]; omega, t9.w.bag, fun r3 H5 r30 r31 but5 B5 => ?_⟩
        rw [List.length_map] at r31
        have i1 := t9.w.take but5 B5
        obtain ⟨hn, hnat, hnm⟩ := atI_str (xs := hs) r30 r31
        refine ⟨ph, _, _, _, rfl, rfl, SqL.of (i1.gat (sg _ _ (s8 _ _ ghs))), hnat, fun a ha => ⟨by show 2 ≤ sizeLine; decide, fun t ht => ⟨by show 2 ≤ sizeLine; decide, fun p hp => ?_⟩⟩⟩
        have i2 := i1.wet (o := .dK []) t9.w ha
        have A2 : Loc b H4 G' _ a _ := Loc.new (o := .dK []) i1 ha
        have i3 := i2.ice (o := .tup [.str hn, .ref a]) t9.w ht
        have j3 := i2.w.ice (o := .tup [.str hn, .ref a]) ht
        have i4 := i3.ice (o := .tup [.str y, .ref t]) t9.w hp
        have j4 := i3.w.ice (o := .tup [.str y, .ref t]) hp
        have A4 := (A2.step j3).step j4
        have D4 := D9.step i4
        have naD : a ≠ D := ((D9.step i1).ne ha).symm
        refine ⟨_, D4.at_, ?_, es ++ [⟨y, p, t, hn, a⟩], _, (t9.trans i4 w0).put D4, sg.trans i4.g, ?_, ?_, ?_, ?_⟩
        · have h1 : (es.map Ent.x).length ≤ j := by
            have h2 := List.length_filter_le (fun x => !decide (x ∈ fs)) (ids.take j)
            rw [List.length_take] at h2
            rw [ex]
            omega
          have jl : j < ids.length := (List.getElem?_eq_some_iff.mp hy).1
          rw [List.length_map] at h1
          rw [List.length_map, List.length_map, sizeLine_eq]
          omega
        · rw [List.map_append, List.map_append]
          exact D4.put
        · intro e he
          rcases List.mem_append.mp he with he | he
          · obtain ⟨h1, h2, h3, h4, h5⟩ := ea e he
            exact ⟨i4.g _ _ h1, i4.g _ _ h2, h3, (h4.step i4).off h5, h5⟩
          · obtain rfl := List.mem_singleton.mp he
            refine ⟨upd_same, j4.g _ _ upd_same, hperm.mem_iff.mp hnm, ?_, naD⟩
            have L : Loc b H _ _ a (.dK []) := ⟨t9.free (i1.free ha), A4.g, A4.nb, A4.at_⟩
            exact L.off naD
        · rw [List.map_append]
          refine List.nodup_append.mpr ⟨end_, List.nodup_cons.mpr ⟨List.not_mem_nil, List.nodup_nil⟩, ?_⟩
          intro z hz z' hz' e
          obtain ⟨e', he', rfl⟩ := List.mem_map.mp hz
          have : e'.a ≠ a := ((ea e' he').2.2.2.1.step i1).ne ha
          rw [List.mem_singleton.mp hz'] at e
          exact this e
        · rw [take_succ_filter _ hy, hc, List.map_append, ex]
          rfl
    rintro H4 ⟨es, G6, t9, sg, D9, ea, end_, ex⟩
    rw [List.length_map, List.take_of_length_le (Nat.le_refl _)] at ex
    have exnd : (es.map Ent.x).Nodup := by
      rw [ex]
      exact ind.sublist List.filter_sublist
    have knd : ((es.map Ent.kv).map (·.1)).Nodup := by
      rw [List.map_map, show ((fun x : Key × V => x.1) ∘ Ent.kv) = (fun e => (Sum.inr e : Key)) ∘ Ent.x from rfl, ← List.map_map]
      exact List.pairwise_map.mpr (exnd.imp fun h e => h (by injection e))
    have esl : es.length ≤ 8 := by
      have h1 : (es.map Ent.x).length ≤ ids.length := by
        rw [ex]
        exact List.length_filter_le _ _
      rw [List.length_map] at h1
      omega
    refine ⟨D, es.map Ent.p, es.map Ent.kv, rfl, SqL.of D9.at_, ent_pairs es (fun e he => t9.gat (ea e he).1), fun fdA hfd => ?_⟩
    rw [merge_id (es.map Ent.kv) [] knd, List.nil_append]
    refine ⟨fdA, .dK (es.map Ent.kv), upd_same, trivial, fun od => ?_⟩
    have t10 := (t9.wet (o := .dK (es.map Ent.kv)) w0 hfd).put (o' := .frz od (.dK (es.map Ent.kv))) (Loc.new t9 hfd)
    have L10 : Loc b H G6 _ fdA _ := (Loc.new (o := .dK (es.map Ent.kv)) t9 hfd).put (o' := .frz od (.dK (es.map Ent.kv)))
    have ea6 : ∀ e ∈ es, Loc b H G6 (upd (upd H4 fdA (.dK (es.map Ent.kv))) fdA (.frz od (.dK (es.map Ent.kv)))) e.a (.dK []) := fun e he =>
      ((ea e he).2.2.2.1.off ((ea e he).2.2.2.1.ne hfd)).off ((ea e he).2.2.2.1.ne hfd)
    refine ⟨_, rfl, fdA, od, rfl, Or.inl ⟨es.map Ent.kv, upd_same, for_it walk_keys (fun i σ' H' => ∃ (v8 v10 v11 v12 v13 v14 : Option V) (G' : Hp), σ' = [some (.ref b), some (.ref td), some (.int tp), some (.int st), some (.ref pi), some (.ref pc), some (.ref ph), some (.ref pf), v8, some (.ref fdA), v10, v11, v12, v13, v14, none] ∧
      Stp b l G H G' H' ∧ Same G6 G' ∧ Loc b H G' H' fdA (.frz od (.dK (es.map Ent.kv))) ∧
      (∀ j e, es[j]? = some e → (j < i → ∃ (d : Addr) (kvs row : List (Key × V)), valV tkvs (.inr e.tn) = some (.ref d) ∧ G' d = some (.dK kvs) ∧ G' e.a = some (.dK row) ∧ RowOk kvs row) ∧ (i ≤ j → Loc b H G' H' e.a (.dK [])))) ?_ ?_ ?_ ?_⟩⟩
    · exact ⟨none, none, none, none, none, none, G6, rfl, t10, Same.refl _, L10, fun j e he => ⟨fun z => absurd z (Nat.not_lt_zero j), fun _ => ea6 e (List.mem_of_getElem? he)⟩⟩
    · rintro i σ' H5 _ ⟨v8, v10, v11, v12, v13, v14, G', rfl, _, _, L, _⟩
      exact L.at_
    · rintro i x σ' H5 _ hi ⟨v8, v10, v11, v12, v13, v14, G7, rfl, t11, s11, L11, all11⟩ ⟨rfl, kk, vv, hk, rfl⟩
      obtain ⟨e, he, rfl, rfl⟩ := getEnt hk
      have em := List.mem_of_getElem? he
      obtain ⟨ge1, ge2, gth, _, _⟩ := ea e em
      have hval : ∀ e' ∈ es, valV (es.map Ent.kv) (.inr e'.x) = some (.ref e'.t) := fun e' h' => val_nodup knd (e'.kv) (List.mem_map.mpr ⟨e', h', rfl⟩)
      obtain ⟨dv, hdv⟩ : ∃ v, valV tkvs (.inr e.tn) = some v := valV_has (by rw [hths]; exact List.mem_map.mpr ⟨_, gth, rfl⟩)
      obtain ⟨x', dF, kvs, e1, e2, gdF, fall, k6, _⟩ := ta _ (valV_mem hdv)
      have e2' : dv = .ref dF := e2
      subst e2'
      refine ⟨_, rfl, _, rfl, fdA, _, rfl, Or.inl ⟨_, .inr e.x, Or.inr ⟨od, L11.at_⟩, rfl, (hval e em).symm⟩, e.t, _, rfl, SqT.of (t11.gat (s11 _ _ ge2)), rfl, _, _, rfl, _, _, rfl, rfl, ?_⟩
      have dgT : ∀ {G' H'}, Stp b l G H G' H' → DGet H' td (.str e.tn) (some (.ref dF)) := fun t => by
        rw [← hdv]
        exact DGet.k (k := Sum.inr e.tn) (t.gat (t.g _ _ gtd))
      obtain ⟨ks, hks, ks8⟩ := fall.keys
      have ksl : ks.length = kvs.length := by
        have := congrArg List.length hks
        rw [List.length_map, List.length_map] at this
        exact this.symm
      refine ⟨_, rfl, _, rfl, td, _, rfl, dgT t11, dF, kvs, ks, rfl, Rd.of (t11.gat (t11.g _ _ gdF)), hks, by omega, fun ys q perm _ hq => ⟨q, rfl, ⟨_, SqL.of upd_same⟩, ?_⟩⟩
      have i12 := t11.w.wet (o := .lst (ys.map V.str)) hq
      have t12 := t11.trans i12 w0
      have Q12 : Loc b H G7 _ q _ := Loc.new (o := .lst (ys.map V.str)) t11 hq
      have A12 := ((all11 i e he).2 (Nat.le_refl _)).step i12
      have yl : ys.length = kvs.length := by rw [perm.length_eq, ksl]
      refine for_list (xs := ys.map V.str) (fun j σ' H' => ∃ (v12 v13 v14 : Option V), σ' = [some (.ref b), some (.ref td), some (.int tp), some (.int st), some (.ref pi), some (.ref pc), some (.ref ph), some (.ref pf), some (.str e.x), some (.ref fdA), some (.str e.tn), some (.ref e.a), v12, v13, v14, none] ∧
        ∃ (row : List (Key × V)) (G' : Hp), Stp b l G H G' H' ∧ Same G7 G' ∧ Loc b H G' H' fdA (.frz od (.dK (es.map Ent.kv))) ∧ Loc b H G' H' e.a (.dK row) ∧ Loc b H G' H' q (.lst (ys.map V.str)) ∧ RowPart row (ys.take j) j ∧
        (∀ j' e', es[j']? = some e' → i < j' → Loc b H G' H' e'.a (.dK []))) ?_ ?_ ?_ ?_
      · exact ⟨v12, v13, v14, rfl, [], G7, t12, Same.refl _, L11.step i12, A12, Q12, ⟨fun p hp => absurd hp List.not_mem_nil, fun x hx => absurd hx List.not_mem_nil, Nat.le_refl _⟩, fun j' e' h' lt => ((all11 j' e' h').2 (by omega)).step i12⟩
      · rintro j σ' H6 _ ⟨_, _, _, rfl, _, _, _, _, _, _, Q, _⟩
        exact SqL.of Q.at_
      · rintro j x2 σ' H6 hx2 ⟨w12, w13, w14, rfl, row, G8, t13, s13, L13, A13, Q13, rp, oth⟩
        obtain ⟨y, hy, rfl⟩ := getStr hx2
        have yks : y ∈ ks := perm.mem_iff.mp (List.mem_of_getElem? hy)
        have y8 : Sm y := ks8 y yks
        obtain ⟨fv, hfv⟩ : ∃ v, valV kvs (.inr y) = some v := valV_has (by rw [hks]; exact List.mem_map.mpr ⟨_, yks, rfl⟩)
        obtain ⟨y', fd', ey, _, hfd', fok⟩ := fall _ (valV_mem hfv)
        have jl : j < ys.length := (List.getElem?_eq_some_iff.mp hy).1
        have nAf : e.a ≠ fdA := ne_of A13.at_ L13.at_ (by intro z; cases z)
        have nAq : e.a ≠ q := ne_of A13.at_ Q13.at_ (by intro z; cases z)
        have fin : ∀ (v : V) (G9 H9 : Hp), Stp b l G8 H6 G9 H9 → ValOk v → ∃ (row : List (Key × V)) (G' : Hp), Stp b l G H G' (upd H9 e.a (.dK (putK row (.inr y) v))) ∧ row.length < sizeLine ∧ H9 e.a = some (.dK row) ∧
            ∃ (row' : List (Key × V)) (G' : Hp), Stp b l G H G' (upd H9 e.a (.dK (putK row (.inr y) v))) ∧ Same G7 G' ∧ Loc b H G' (upd H9 e.a (.dK (putK row (.inr y) v))) fdA (.frz od (.dK (es.map Ent.kv))) ∧ Loc b H G' (upd H9 e.a (.dK (putK row (.inr y) v))) e.a (.dK row') ∧ Loc b H G' (upd H9 e.a (.dK (putK row (.inr y) v))) q (.lst (ys.map V.str)) ∧ RowPart row' (ys.take (j + 1)) (j + 1) ∧
            (∀ j' e', es[j']? = some e' → i < j' → Loc b H G' (upd H9 e.a (.dK (putK row (.inr y) v))) e'.a (.dK [])) := by
          intro v G9 H9 S ok
          have A := A13.step S
          refine ⟨row, G9, (t13.trans S w0).put A, ?_, A.at_, _, G9, (t13.trans S w0).put A, s13.trans S.g, (L13.step S).off nAf.symm, A.put, (Q13.step S).off nAq.symm, ?_, fun j' e' h' lt => ((oth j' e' h' lt).step S).off ?_⟩
          · have := rp.len
            rw [sizeLine_eq]
            omega
          · rw [List.take_add_one, hy]
            exact rp.put y8 ok
          · intro z
            have h1 : (es.map Ent.a)[j']? = some e'.a := by rw [List.getElem?_map, h']; rfl
            have h2 : (es.map Ent.a)[i]? = some e.a := by rw [List.getElem?_map, he]; rfl
            exact nodup_at end_ lt h2 h1 z
        refine ⟨_, rfl, _, rfl, td, _, rfl, dgT t13, _, rfl, dF, fv, rfl, ?_, ?_⟩
        · rw [← hfv]
          exact DGet.k (k := Sum.inr y) (t13.gat (t13.g _ _ gdF))
        cases fd' with
        | mark ws =>
          obtain ⟨t, qw, rfl, f1, f2⟩ := hfd'
          obtain ⟨wne, w3, w8⟩ := fok
          have wpos : 0 < ws.length := List.length_pos_iff.mpr wne
          have F1 : SqT K H6 t _ := SqT.of (t13.gat (t13.g _ _ f1))
          refine ⟨_, rfl, t, _, 0, _, rfl, rfl, F1, atI_nat (j := 0) rfl, rfl, _, rfl, ifT rfl ?_⟩
          refine ⟨_, rfl, t, _, 1, _, rfl, rfl, F1, atI_nat (j := 1) rfl, _, rfl, _, rfl, t, _, 1, _, rfl, rfl, F1, atI_nat (j := 1) rfl, qw, _, rfl, Or.inl (SqL.of (t13.gat (t13.g _ _ f2))), b, l, _, rfl, by rw [List.length_map]; omega, by rw [List.length_map]; omega, t13.w.bag, fun r4 H7 r40 r41 but7 B7 => ?_⟩
          rw [List.length_map] at r41
          have S := t13.w.take but7 B7
          obtain ⟨wd, wdat, wdm⟩ := atI_str (xs := ws) r40 r41
          obtain ⟨row', _, _, rl, ra, R⟩ := fin (.str wd) _ _ S (Or.inr ⟨wd, rfl, w8 wd wdm⟩)
          exact ⟨qw, _, _, _, rfl, rfl, SqL.of (S.gat (t13.g _ _ f2)), wdat, _, rfl, _, rfl, e.a, _, rfl, DPut.k (k := Sum.inr y) ra rl, _, _, _, rfl, R⟩
        | tag =>
          obtain ⟨t, rfl, f1⟩ := hfd'
          have F1 : SqT K H6 t _ := SqT.of (t13.gat (t13.g _ _ f1))
          refine ⟨_, rfl, t, _, 0, _, rfl, rfl, F1, atI_nat (j := 0) rfl, rfl, _, rfl, ifF rfl ?_⟩
          refine ⟨_, rfl, t, _, 0, _, rfl, rfl, F1, atI_nat (j := 0) rfl, rfl, _, rfl, ifT rfl ?_⟩
          refine ⟨by show 1 ≤ sizeLine; decide, fun u hu => ?_⟩
          have i1 := t13.w.wet (o := .lst [.non]) hu
          have gnh13 : G8 pc = some (.lst (nh.map V.str)) := s13 _ _ (s11 _ _ (sg _ _ (s8 _ _ gnh)))
          refine ⟨_, rfl, u, pc, _, _, rfl, rfl, upd_same, i1.gat gnh13, ?_, fun u2 hu2 => ?_⟩
          · rw [List.length_map, sizeLine_eq]
            show 1 + nh.length ≤ _
            omega
          have i2 := i1.wet (o := .lst ([V.non] ++ nh.map V.str)) t13.w hu2
          have U2 : Loc b H6 G8 _ u2 _ := Loc.new (o := .lst ([V.non] ++ nh.map V.str)) i1 hu2
          refine ⟨_, rfl, b, l, 4, rfl, by decide, by decide, i2.w.bag, fun r4 H7 r40 r41 but7 B7 => ?_⟩
          have S := i2.take t13.w but7 B7
          have U3 := U2.step (i2.w.take but7 B7)
          obtain ⟨v, vat, vok⟩ := atI_ok (xs := [V.non] ++ nh.map V.str) (r := r4) (fun x hx => by
            rcases List.mem_append.mp hx with hx | hx
            · exact Or.inl (List.mem_singleton.mp hx)
            · exact valOk_strs nh8 x hx) r40 (by rw [List.length_append, List.length_map, nhl]; exact r41)
          obtain ⟨row', _, _, rl, ra, R⟩ := fin v _ _ S vok
          exact ⟨u2, _, _, _, rfl, rfl, SqL.of U3.at_, vat, _, rfl, _, rfl, e.a, _, rfl, DPut.k (k := Sum.inr y) ra rl, _, _, _, rfl, R⟩
        | link lt =>
          obtain ⟨t, rfl, f1⟩ := hfd'
          have F1 : SqT K H6 t _ := SqT.of (t13.gat (t13.g _ _ f1))
          refine ⟨_, rfl, t, _, 0, _, rfl, rfl, F1, atI_nat (j := 0) rfl, rfl, _, rfl, ifF rfl ?_⟩
          refine ⟨_, rfl, t, _, 0, _, rfl, rfl, F1, atI_nat (j := 0) rfl, rfl, _, rfl, ifF rfl ?_⟩
          refine ⟨by show 1 ≤ sizeLine; decide, fun u1 hu1 => ?_⟩
          have i1 := t13.w.wet (o := .lst [.non]) hu1
          have U1 : Loc b H6 G8 _ u1 _ := Loc.new (o := .lst [.non]) t13.w.refl hu1
          have F2 := L13.step i1
          refine ⟨_, rfl, fdA, od, rfl, Or.inl ⟨es.map Ent.kv, F2.at_, fun D2 hD2 => lc_it walk_keys (fun m H' => ∃ zs : List Str, Stp b l G8 H6 G8 H' ∧ Loc b H G8 H' fdA (.frz od (.dK (es.map Ent.kv))) ∧ Loc b H6 G8 H' u1 (.lst [.non]) ∧ Loc b H6 G8 H' D2 (.lst (zs.map V.str)) ∧ D2 ≠ fdA ∧ D2 ≠ u1 ∧ zs.length ≤ m ∧ ∀ z ∈ zs, Sm z) ?_ ?_ ?_ ?_⟩⟩
          · exact ⟨[], i1.wet t13.w hD2, F2.step (i1.w.wet hD2), U1.step (i1.w.wet hD2), Loc.new i1 hD2, (F2.ne hD2).symm, (U1.ne hD2).symm, Nat.le_refl _, fun z hz => absurd hz List.not_mem_nil⟩
          · rintro m H7 _ ⟨zs, _, L, _⟩
            exact L.at_
          · rintro m x3 H7 _ hm ⟨zs, i3, F3, U3, D3, n1, n2, zl, z8⟩ ⟨rfl, kk, vv, hk3, rfl⟩
            obtain ⟨e3, he3, rfl, rfl⟩ := getEnt hk3
            have em3 := List.mem_of_getElem? he3
            obtain ⟨_, g32, _⟩ := ea e3 em3
            have x38 : Sm (e3.x) := by
              have : e3.x ∈ es.map Ent.x := List.mem_map.mpr ⟨e3, em3, rfl⟩
              rw [ex] at this
              exact i8 _ (List.mem_filter.mp this).1
            rw [List.length_map] at hm
            refine ⟨rfl, _, rfl, _, rfl, fdA, _, rfl, Or.inl ⟨_, .inr e3.x, Or.inr ⟨od, F3.at_⟩, rfl, (hval e3 em3).symm⟩, e3.t, _, 0, _, rfl, rfl, SqT.of (i3.gat (s13 _ _ (s11 _ _ g32))), atI_nat (j := 0) rfl, _, rfl, t, _, 1, _, rfl, rfl, SqT.of (i3.gat (t13.g _ _ f1)), atI_nat (j := 1) rfl, rfl, _, rfl, ?_⟩
            refine ite2 (fun _ => ?_) (fun _ => ⟨zs, i3, F3, U3, D3, n1, n2, by omega, z8⟩)
            refine ⟨_, rfl, _, D3.at_, ?_, zs ++ [e3.x], i3.put D3, F3.off n1.symm, U3.off n2.symm, ?_, n1, n2, ?_, ?_⟩
            · rw [List.length_map, sizeLine_eq]
              omega
            · rw [List.map_append]
              exact D3.put
            · rw [List.length_append]
              show zs.length + 1 ≤ _
              omega
            · intro z hz
              rcases List.mem_append.mp hz with hz | hz
              · exact z8 z hz
              · rw [List.mem_singleton.mp hz]
                exact x38
          rintro H7 ⟨zs, i3, F3, U3, D3, n1, n2, zl, z8⟩
          rw [List.length_map] at zl
          refine ⟨u1, D2, _, _, rfl, rfl, U3.at_, D3.at_, ?_, fun u3 hu3 => ?_⟩
          · rw [List.length_map, sizeLine_eq]
            show 1 + zs.length ≤ _
            omega
          have i4 := i3.wet (o := .lst ([V.non] ++ zs.map V.str)) t13.w hu3
          have gfs13 : G8 pf = some (.lst (fs.map V.str)) := s13 _ _ (s11 _ _ (sg _ _ gfs))
          refine ⟨_, rfl, u3, pf, _, _, rfl, rfl, upd_same, i4.gat gfs13, ?_, fun u4 hu4 => ?_⟩
          · rw [List.length_append, List.length_map, List.length_map, sizeLine_eq]
            show 1 + zs.length + fs.length ≤ _
            omega
          have i5 := i4.wet (o := .lst ([V.non] ++ zs.map V.str ++ fs.map V.str)) t13.w hu4
          have U5 : Loc b H6 G8 _ u4 _ := Loc.new (o := .lst ([V.non] ++ zs.map V.str ++ fs.map V.str)) i4 hu4
          have F5 := (F3.step (i3.w.wet (o := .lst ([V.non] ++ zs.map V.str)) hu3)).step (i4.w.wet (o := .lst ([V.non] ++ zs.map V.str ++ fs.map V.str)) hu4)
          refine ⟨_, rfl, fdA, es.map Ent.kv, rfl, Or.inr ⟨od, F5.at_⟩, fun u5 hu5 => ?_⟩
          have i6 := i5.wet (o := .lst ((es.map Ent.kv).map fun kv => kV kv.1)) t13.w hu5
          have U6 := U5.step (i5.w.wet (o := .lst ((es.map Ent.kv).map fun kv => kV kv.1)) hu5)
          refine ⟨2, rfl, u5, _, rfl, SqL.of upd_same, fun u6 hu6 => ?_⟩
          have ekv : ((es.map Ent.kv).map fun kv => kV kv.1) = (es.map Ent.x).map V.str := by
            rw [List.map_map, List.map_map]
            rfl
          rw [ekv] at i6 U6 hu6 ⊢
          rw [cutV_map] at ⊢
          generalize hls : List.take _ (List.drop _ (es.map Ent.x)) = ls
          have lsl : ls.length ≤ 8 := by
            rw [← hls, List.length_take, List.length_drop, List.length_map]
            omega
          have ls8 : ∀ x ∈ ls, Sm x := fun x hx => by
            rw [← hls] at hx
            have h1 := List.mem_of_mem_drop (List.mem_of_mem_take hx)
            rw [ex] at h1
            exact i8 x (List.mem_filter.mp h1).1
          have i7 := i6.wet (o := .lst (ls.map V.str)) t13.w hu6
          have U7 := U6.step (i6.w.wet (o := .lst (ls.map V.str)) hu6)
          have len7 : ([V.non] ++ zs.map V.str ++ fs.map V.str).length = 1 + zs.length + fs.length := by
            rw [List.length_append, List.length_append, List.length_map, List.length_map]
            rfl
          refine ⟨u4, u6, _, _, rfl, rfl, U7.at_, upd_same, ?_, fun u7 hu7 => ?_⟩
          · rw [len7, List.length_map, sizeLine_eq]
            omega
          have i8' := i7.wet (o := .lst ([V.non] ++ zs.map V.str ++ fs.map V.str ++ ls.map V.str)) t13.w hu7
          have U8 : Loc b H6 G8 _ u7 _ := Loc.new (o := .lst ([V.non] ++ zs.map V.str ++ fs.map V.str ++ ls.map V.str)) i7 hu7
          have len8 : ([V.non] ++ zs.map V.str ++ fs.map V.str ++ ls.map V.str).length = 1 + zs.length + fs.length + ls.length := by
            rw [List.length_append, len7, List.length_map]
          have all8 : ∀ x ∈ [V.non] ++ zs.map V.str ++ fs.map V.str ++ ls.map V.str, ValOk x := fun x hx => by
            rcases List.mem_append.mp hx with hx | hx
            · rcases List.mem_append.mp hx with hx | hx
              · rcases List.mem_append.mp hx with hx | hx
                · exact Or.inl (List.mem_singleton.mp hx)
                · exact valOk_strs z8 x hx
              · exact valOk_strs fs8 x hx
            · exact valOk_strs ls8 x hx
          generalize [V.non] ++ zs.map V.str ++ fs.map V.str ++ ls.map V.str = big at i8' U8 len8 all8 ⊢
          refine ⟨_, rfl, _, rfl, _, rfl, u7, big, rfl, Or.inl (SqL.of upd_same), b, l, _, rfl, by omega, by omega, i8'.w.bag, fun r4 H8 r40 r41 but8 B8 => ?_⟩
          have S := i8'.take t13.w but8 B8
          have U9 := U8.step (i8'.w.take but8 B8)
          obtain ⟨v, vat, vok⟩ := atI_ok all8 r40 r41
          obtain ⟨row', _, _, rl, ra, R⟩ := fin v _ _ S vok
          exact ⟨u7, _, _, _, rfl, rfl, SqL.of U9.at_, vat, _, rfl, _, rfl, e.a, _, rfl, DPut.k (k := Sum.inr y) ra rl, _, _, _, rfl, R⟩
      · rintro σ' H6 ⟨w12, w13, w14, rfl, row, G8, t13, s13, L13, A13, Q13, rp, oth⟩
        have nAf : e.a ≠ fdA := ne_of A13.at_ L13.at_ (by intro z; cases z)
        have sF : Same G8 (upd G8 e.a (.dK row)) := same_new (Same.refl _) A13.g
        have dist : ∀ j' e', es[j']? = some e' → i < j' → e'.a ≠ e.a := by
          intro j' e' h' lt z
          have h1 : (es.map Ent.a)[j']? = some e'.a := by rw [List.getElem?_map, h']; rfl
          have h2 : (es.map Ent.a)[i]? = some e.a := by rw [List.getElem?_map, he]; rfl
          exact nodup_at end_ lt h2 h1 z
        refine ⟨_, _, _, _, _, _, _, rfl, t13.frz A13, (s11.trans s13).trans sF, L13.frzOther nAf.symm, fun j' e' h' => ⟨fun lt => ?_, fun le => ?_⟩⟩
        · by_cases c : j' < i
          · obtain ⟨d', kvs', row', h1, h2, h3, h4⟩ := (all11 j' e' h').1 c
            exact ⟨d', kvs', row', h1, sF _ _ (s13 _ _ h2), sF _ _ (s13 _ _ h3), h4⟩
          · obtain rfl : j' = i := by omega
            obtain rfl : e' = e := by
              rw [he] at h'
              exact (Option.some.inj h').symm
            refine ⟨dF, kvs, row, hdv, sF _ _ (t13.g _ _ gdF), upd_same, ks, hks, ⟨rp.all, fun x hx => ?_, ?_⟩⟩
            · refine rp.has x ?_
              rw [List.length_map, List.take_of_length_le (Nat.le_refl _)]
              exact perm.mem_iff.mpr hx
            · have := rp.len
              rw [List.length_map] at this
              omega
        · exact (oth j' e' h' (by omega)).frzOther (dist j' e' h' (by omega))
    · rintro σ' H5 ⟨v8, v10, v11, v12, v13, v14, G7, rfl, t11, s11, L11, all11⟩
      refine ⟨L11.at_, _, rfl, k fdA (es.map Ent.kv) G7 _ (t11.put L11) L11.put (fun p hp => ?_) (by rw [List.length_map]; exact esl) knd⟩
      obtain ⟨e, he, rfl⟩ := List.mem_map.mp hp
      obtain ⟨j, hj, he'⟩ := List.mem_iff_getElem.mp he
      have hj' : es[j]? = some e := by rw [List.getElem?_eq_getElem hj, he']
      obtain ⟨d', kvs', row', h1, h2, h3, h4⟩ := (all11 j e hj').1 (by rw [List.length_map]; exact hj)
      exact ⟨e.x, e.tn, e.t, e.a, d', kvs', row', rfl, rfl, s11 _ _ (ea e he).2.1, h1, h2, h3, h4⟩
end
end E

set_option Elab.async false
set_option linter.all false
set_option maxRecDepth 100000
set_option maxHeartbeats 4000000
namespace E
open PySem PyProof.Rows L2 TL EG ES
/-! ### sizes of data -/
structure Gd (d : PyData) (k n : Nat) : Prop where
  sh : d.showable = true
  ls : d.leavesShort 8 = true
  dp : d.depth ≤ k
  bk : d.bulk ≤ n
structure GdAll (ds : List PyData) (k n : Nat) : Prop where
  sh : PyData.showableAll ds = true
  ls : PyData.leavesShortAll 8 ds = true
  dp : PyData.depthAll ds ≤ k
  bk : PyData.bulkAll ds ≤ n
theorem Gd.fits {d : PyData} {k n : Nat} (g : Gd d k n) (h : n ≤ 2 ^ 20) : d.shown.length ≤ sizeLine := PyData.shown_fits_bulk (B := 8) (by decide) (by decide) g.ls (Nat.le_trans g.bk h)
theorem GdAll.nil {k : Nat} : GdAll [] k 0 := ⟨rfl, rfl, Nat.zero_le _, Nat.le_refl _⟩
theorem GdAll.cons {d : PyData} {ds : List PyData} {k n m : Nat} (g : Gd d k n) (h : GdAll ds k m) : GdAll (d :: ds) k (n + 1 + m) := by
  refine ⟨?_, ?_, ?_, ?_⟩
  · simp only [PyData.showableAll, g.sh, h.sh, Bool.and_self]
  · simp only [PyData.leavesShortAll, g.ls, h.ls, Bool.and_self]
  · simp only [PyData.depthAll]
    exact Nat.max_le.mpr ⟨g.dp, h.dp⟩
  · simp only [PyData.bulkAll]
    have := g.bk
    have := h.bk
    omega
theorem Gd.list {ds : List PyData} {k n : Nat} (g : GdAll ds k n) : Gd (.list ds) (k + 1) n := by
  refine ⟨by simp only [PyData.showable]; exact g.sh, by simp only [PyData.leavesShort]; exact g.ls, ?_, by simp only [PyData.bulk]; exact g.bk⟩
  have := g.dp
  simp only [PyData.depth]
  omega
theorem Gd.tuple {ds : List PyData} {k n : Nat} (g : GdAll ds k n) : Gd (.tuple ds) (k + 1) n := by
  refine ⟨by simp only [PyData.showable]; exact g.sh, by simp only [PyData.leavesShort]; exact g.ls, ?_, by simp only [PyData.bulk]; exact g.bk⟩
  have := g.dp
  simp only [PyData.depth]
  omega
theorem Gd.mono {d : PyData} {k n k' n' : Nat} (g : Gd d k n) (h1 : k ≤ k') (h2 : n ≤ n') : Gd d k' n' := ⟨g.sh, g.ls, Nat.le_trans g.dp h1, Nat.le_trans g.bk h2⟩
theorem Gd.str {x : Str} (h : Sm x) (k : Nat) : Gd (.str x) k 8 := by
  refine ⟨rfl, ?_, Nat.zero_le _, h.1⟩
  simp only [PyData.leavesShort, List.all_eq_true, decide_eq_true_eq]
  intro c hc
  exact Nat.lt_trans (h.2 c hc) (by decide)
theorem Gd.bool (b : Bool) (k : Nat) : Gd (.bool b) k 0 := ⟨rfl, rfl, Nat.zero_le _, Nat.le_refl _⟩
theorem Gd.none (k : Nat) : Gd .none k 0 := ⟨rfl, rfl, Nat.zero_le _, Nat.le_refl _⟩
theorem GdAll.of {k n : Nat} : ∀ {ds : List PyData}, (∀ d ∈ ds, Gd d k n) → GdAll ds k (ds.length * (n + 1))
  | [], _ => by
    rw [List.length_nil, Nat.zero_mul]
    exact .nil
  | d :: ds, h => by
    have g := GdAll.cons (h d List.mem_cons_self) (GdAll.of (ds := ds) fun d' hd => h d' (List.mem_cons_of_mem _ hd))
    rw [List.length_cons, Nat.succ_mul, Nat.add_comm]
    exact g
theorem GdAll.strs {ws : List Str} (h : ∀ x ∈ ws, Sm x) (k : Nat) : GdAll (ws.map PyData.str) k (ws.length * 9) := by
  have g := GdAll.of (k := k) (n := 8) (ds := ws.map PyData.str) fun d hd => by
    obtain ⟨x, hx, rfl⟩ := List.mem_map.mp hd
    exact Gd.str (h x hx) k
  rw [List.length_map] at g
  exact g
/-- a test of up to twelve words -/
def TOk' (ks : List Str) : Tst → Prop
  | .is_ x ws => x ∈ ks ∧ Sm x ∧ ws.length ≤ 12 ∧ ∀ y ∈ ws, Sm y
  | .non x => x ∈ ks ∧ Sm x
  | .nt t => TOk' ks t
theorem TOk.more {ks : List Str} : ∀ {t : Tst}, TOk ks t → TOk' ks t
  | .is_ x ws, ⟨h1, h2, h3, h4⟩ => ⟨h1, h2, by omega, h4⟩
  | .non x, h => h
  | .nt t, h => TOk.more (t := t) h
theorem TOk'.nm {ks : List Str} : ∀ {t : Tst}, TOk' ks t → t.nm ∈ ks ∧ Sm t.nm
  | .is_ x ws, ⟨h1, h2, h3, h4⟩ => ⟨h1, h2⟩
  | .non x, h => h
  | .nt t, h => TOk'.nm (t := t) h
theorem Tst.gd {ks : List Str} : ∀ {t : Tst}, TOk' ks t → Gd t.D (t.dep + 2) (130 + 20 * t.dep)
  | .is_ x ws, ⟨_, h2, h3, h4⟩ => by
    have g := GdAll.cons (Gd.str (x := "is") (by decide +kernel) 1) (GdAll.cons (Gd.str h2 1) (GdAll.cons (Gd.list (GdAll.strs h4 0)) GdAll.nil))
    exact (Gd.tuple g).mono (by show 1 + 1 ≤ 0 + 2; omega) (by show 8 + 1 + (8 + 1 + (ws.length * 9 + 1 + 0)) ≤ _; omega)
  | .non x, h => by
    have g := GdAll.cons (Gd.str (x := "none") (by decide +kernel) 1) (GdAll.cons (Gd.str h.2 1) GdAll.nil)
    exact (Gd.tuple g).mono (by show 1 + 1 ≤ 0 + 2; omega) (by show 8 + 1 + (8 + 1 + 0) ≤ _; omega)
  | .nt t, h => by
    have g := GdAll.cons (Gd.str (x := "not") (by decide +kernel) (t.dep + 2)) (GdAll.cons (Tst.gd (t := t) h) GdAll.nil)
    exact (Gd.tuple g).mono (by show t.dep + 2 + 1 ≤ t.dep + 1 + 2; omega) (by show 8 + 1 + (130 + 20 * t.dep + 1 + 0) ≤ 130 + 20 * (t.dep + 1); omega)
def valD : V → PyData
  | .str y => .str y
  | _ => .none
def rowD (row : List (Key × V)) : PyData := .dict (row.map fun p => (keyD p.1, valD p.2))
theorem row_vals {K : PySem.W.Frag} {H : Hp} : ∀ {row : List (Key × V)}, (∀ p ∈ row, ValOk p.2) → DtAll K H (row.map (·.2)) ((row.map fun p => (keyD p.1, valD p.2)).map (·.2))
  | [], _ => .nil
  | p :: r, h => by
    refine .cons ?_ (row_vals fun q hq => h q (List.mem_cons_of_mem _ hq))
    rcases h p List.mem_cons_self with e | ⟨y, e, _⟩
    · show Dt K H p.2 (valD p.2)
      rw [e]
      exact .non
    · show Dt K H p.2 (valD p.2)
      rw [e]
      exact .str y
theorem row_dt {K : PySem.W.Frag} {H : Hp} {a : Addr} {row : List (Key × V)} (h : Rd H a (.dK row)) (hv : ∀ p ∈ row, ValOk p.2) : Dt K H (.ref a) (rowD row) :=
  .dct h (by rw [List.map_map]; rfl) (row_vals hv)
theorem row_kv : ∀ {row : List (Key × V)}, (∀ p ∈ row, ∃ x : Str, p.1 = .inr x ∧ Sm x ∧ ValOk p.2) →
    PyData.showableKv (row.map fun p => (keyD p.1, valD p.2)) = true ∧ PyData.leavesShortKv 8 (row.map fun p => (keyD p.1, valD p.2)) = true ∧ PyData.depthKv (row.map fun p => (keyD p.1, valD p.2)) ≤ 0 ∧ PyData.bulkKv (row.map fun p => (keyD p.1, valD p.2)) ≤ row.length * 18
  | [], _ => ⟨rfl, rfl, Nat.le_refl _, Nat.zero_le _⟩
  | p :: r, h => by
    obtain ⟨x, e, sx, vo⟩ := h p List.mem_cons_self
    obtain ⟨h1, h2, h3, h4⟩ := row_kv fun q hq => h q (List.mem_cons_of_mem _ hq)
    have gk : Gd (keyD p.1) 0 8 := by
      rw [e]
      exact Gd.str sx 0
    have gv : Gd (valD p.2) 0 8 := by
      rcases vo with e | ⟨y, e, sy⟩
      · rw [e]
        exact (Gd.none 0).mono (Nat.le_refl _) (by decide)
      · rw [e]
        exact Gd.str sy 0
    refine ⟨?_, ?_, ?_, ?_⟩
    · simp only [List.map_cons, PyData.showableKv, gk.sh, gv.sh, h1, Bool.and_self]
    · simp only [List.map_cons, PyData.leavesShortKv, gk.ls, gv.ls, h2, Bool.and_self]
    · simp only [List.map_cons, PyData.depthKv]
      exact Nat.max_le.mpr ⟨Nat.max_le.mpr ⟨gk.dp, gv.dp⟩, h3⟩
    · simp only [List.map_cons, PyData.bulkKv, List.length_cons]
      have := gk.bk
      have := gv.bk
      omega
theorem row_gd {row : List (Key × V)} (h : ∀ p ∈ row, ∃ x : Str, p.1 = .inr x ∧ Sm x ∧ ValOk p.2) (hl : row.length ≤ 6) : Gd (rowD row) 1 108 := by
  obtain ⟨h1, h2, h3, h4⟩ := row_kv h
  refine ⟨by unfold rowD; simp only [PyData.showable]; exact h1, by unfold rowD; simp only [PyData.leavesShort]; exact h2, ?_, ?_⟩
  · unfold rowD
    simp only [PyData.depth]
    omega
  · unfold rowD
    simp only [PyData.bulk]
    omega
theorem dp_strs {K : PySem.W.Frag} {H : Hp} : ∀ (xs : List Str), DpAll K H (xs.map V.str) (xs.map PyData.str)
  | [] => .nil
  | x :: xs => .cons (.str x) (dp_strs xs)
theorem lay_strs : ∀ {xs : List Str}, (∀ x ∈ xs, Sm x) → PyData.canLayAll0 (xs.map PyData.str) = true
  | [], _ => rfl
  | x :: xs, h => by
    have h1 : PyData.strOk x = true := by
      unfold PyData.strOk
      rw [Array.all_eq_true']
      intro c hc
      have := (h x List.mem_cons_self).2 c (Array.mem_toList_iff.mpr hc)
      exact decide_eq_true (by omega)
    simp only [List.map_cons, PyData.canLayAll0, PyData.canLay0, h1, lay_strs fun y hy => h y (List.mem_cons_of_mem _ hy), Bool.and_self]
theorem depth_strs : ∀ (xs : List Str), PyData.depthAll (xs.map PyData.str) = 0
  | [] => rfl
  | x :: xs => by simp only [List.map_cons, PyData.depthAll, PyData.depth, depth_strs xs, Nat.max_self]
/-- what both sides tell -/
def toldD (m : Bool) (ns : List Str) : PyData := .list [.bool m, .list (ns.map PyData.str)]
theorem told_shaped {m : Bool} {ns : List Str} (h : ∀ x ∈ ns, Sm x) : SeqAt.shaped (toldD m ns) = true := by
  unfold SeqAt.shaped toldD
  rw [Bool.and_eq_true]
  refine ⟨?_, ?_⟩
  · simp only [PyData.canLay0, PyData.canLayAll0, lay_strs h, Bool.and_self]
  · refine decide_eq_true ?_
    simp only [PyData.depth, PyData.depthAll, depth_strs]
    decide
theorem told_gd {m : Bool} {ns : List Str} (h : ∀ x ∈ ns, Sm x) : Gd (toldD m ns) 2 (ns.length * 9 + 2) := by
  have g := GdAll.cons (Gd.bool m 1) (GdAll.cons (Gd.list (GdAll.strs h 0)) GdAll.nil)
  exact (Gd.list g).mono (by decide) (by omega)
abbrev sAlike : Stmt := top 8
def spAlike (K : PySem.W.Frag) : Sp := fun vs H Q _ => ∃ (p q a c : Addr) (m : Bool) (ns : List Str), vs = [.ref p, .ref q] ∧ SqL K H p [.bl m, .ref a] ∧ SqL K H a (ns.map V.str) ∧ SqL K H q [.bl m, .ref c] ∧ SqL K H c (ns.map V.str) ∧ ns.length ≤ 60 ∧ (∀ x ∈ ns, Sm x) ∧ Q (.bl true) H
section
variable {P : Program} {w : World} {K : PySem.W.Frag} {mg : Str → Option Value} {base : Heap}
theorem scAlike : FnScope ["_law_found", "_law_due"] ["_law_found", "_law_due"] (defScope sAlike) := ⟨rfl, rfl, rfl, by decide +kernel, rfl, by decide +kernel, by decide +kernel⟩
theorem ok_alike {f : Addr} {fd : FuncData} (F : Fun K "_law_alike" "_law_alike" sAlike f fd) (nre : mg "repr" = none) :
    FnG P w K mg base CX0 1 f fd ["_law_found", "_law_due"] (spAlike K) := by
  refine okG F scAlike (fun vs H Q E h => ?_) (fun cdv A0 out s H vs Q E hg hr h => ?_)
  · obtain ⟨p, q, a, c, m, ns, rfl, _⟩ := h
    rfl
  · obtain ⟨p, q, a, c, m, ns, rfl, hp, ha, hq, hc, l60, hs, k⟩ := h
    refine ⟨_, pss_one (ps_ret (pe_and (pe_cmpR (op_eqD hr.units) (pv 0) (pv 1) (nomark _)) (pe_one (pe_cmpR op_eq (pe_callB (call_reprD hg hr.units) (by rfl) nre (by decide +kernel) (pa_cons (pv 0) pa_nil)) (pe_callB (call_reprD hg hr.units) (by rfl) nre (by decide +kernel) (pa_cons (pv 1) pa_nil)) (nomark _))))), ?_⟩
    have g := told_gd (m := m) hs
    have fit : (toldD m ns).shown.length ≤ sizeLine := g.fits (by omega)
    refine ⟨_, rfl, _, rfl, toldD m ns, toldD m ns, .lst hp (.cons (.bl m) (.cons (.lst ha (dp_strs ns)) .nil)), .lst hq (.cons (.bl m) (.cons (.lst hc (dp_strs ns)) .nil)), told_shaped hs, told_shaped hs, _, rfl, ?_⟩
    rw [SeqAt.eqv_refl _ (SeqAt.canLay_of_shaped (told_shaped hs))]
    refine ifT rfl ?_
    refine ⟨_, rfl, _, toldD m ns, rfl, .lst hp (.cons (.bl m) (.cons (.lst ha (DtAll.strs ns)) .nil)), g.sh, Nat.le_trans g.dp (by decide), fit, ⟨p, rfl⟩, _, rfl, _, toldD m ns, rfl, .lst hq (.cons (.bl m) (.cons (.lst hc (DtAll.strs ns)) .nil)), g.sh, Nat.le_trans g.dp (by decide), fit, ⟨q, rfl⟩, rfl, ?_⟩
    rw [decide_eq_true rfl]
    exact k
end
end E

set_option Elab.async false
set_option linter.all false
set_option maxRecDepth 100000
set_option maxHeartbeats 4000000
namespace E
open PySem PyProof.Rows L2 TL EG ES
theorem Wd.same {b l : Addr} {G H H1 : Hp} (w : Wd b l G H) (s : Same H H1) : Stp b l G H G H1 := ⟨Same.refl _, ⟨w.s.trans s, w.nb, w.lg, w.bag.same s⟩, fun a u _ e => s a u e, fun _ z _ => z⟩
theorem Loc.got {b l p : Addr} {G0 H0 G H H1 : Hp} {o : HO} (t : Stp b l G0 H0 G H) (hp : H p = none) (h : H1 p = Option.some o) : Loc b H0 G H1 p o := ⟨t.free hp, t.w.s.free hp, t.w.bag.ne hp, h⟩
theorem inr_inj : ∀ {xs ys : List Str}, xs.map (Sum.inr : Str → Key) = ys.map Sum.inr → xs = ys
  | [], [], _ => rfl
  | [], _ :: _, h => by cases h
  | _ :: _, [], h => by cases h
  | x :: xs, y :: ys, h => by
    rw [List.map_cons, List.map_cons] at h
    injection h with h1 h2
    injection h1 with h3
    rw [h3, inr_inj h2]
theorem eqv_nil (ds : List PyData) : PyData.eqv (.list ds) (.list []) = ds.isEmpty := by cases ds <;> simp [PyData.eqv, PyData.eqvAll]
theorem tat_dp {K : PySem.W.Frag} {G : Hp} : ∀ {t : Tst} {v : V}, TAt G v t → Dp K G v t.D
  | .is_ x ws, _, ⟨a, q, e, h1, h2⟩ => by
    rw [e]
    exact .tup (SqT.of h1) (.cons (.str _) (.cons (.str _) (.cons (.lst (SqL.of h2) (dp_strs ws)) .nil)))
  | .non x, _, ⟨a, e, h⟩ => by
    rw [e]
    exact .tup (SqT.of h) (.cons (.str _) (.cons (.str _) .nil))
  | .nt t, _, ⟨a, u, e, h1, h2⟩ => by
    rw [e]
    exact .tup (SqT.of h1) (.cons (.str _) (.cons (tat_dp h2) .nil))
theorem tsat_dp {K : PySem.W.Frag} {G : Hp} : ∀ {us : List V} {ts : List Tst}, TsAt G us ts → DpAll K G us (ts.map Tst.D)
  | [], [], _ => .nil
  | _ :: _, _ :: _, ⟨h1, h2⟩ => .cons (tat_dp h1) (tsat_dp h2)
  | [], _ :: _, z => z.elim
  | _ :: _, [], z => z.elim
theorem sm_ok {x : Str} (h : Sm x) : PyData.strOk x = true := by
  unfold PyData.strOk
  rw [Array.all_eq_true']
  intro c hc
  have := h.2 c (Array.mem_toList_iff.mpr hc)
  exact decide_eq_true (by omega)
theorem Tst.lay {ks : List Str} : ∀ {t : Tst}, TOk' ks t → t.D.canLay0 = true
  | .is_ x ws, ⟨_, h2, _, h4⟩ => by
    simp only [Tst.D, PyData.canLay0, PyData.canLayAll0, sm_ok h2, lay_strs h4, Bool.and_true]
    decide +kernel
  | .non x, h => by
    simp only [Tst.D, PyData.canLay0, PyData.canLayAll0, sm_ok h.2, Bool.and_true]
    decide +kernel
  | .nt t, h => by
    simp only [Tst.D, PyData.canLay0, PyData.canLayAll0, Tst.lay (t := t) h, Bool.and_true]
    decide +kernel
theorem tsts_lay {ks : List Str} : ∀ {ts : List Tst}, (∀ t ∈ ts, TOk' ks t) → PyData.canLayAll0 (ts.map Tst.D) = true
  | [], _ => rfl
  | t :: ts, h => by
    simp only [List.map_cons, PyData.canLayAll0, Tst.lay (h t List.mem_cons_self), tsts_lay fun t' ht => h t' (List.mem_cons_of_mem _ ht), Bool.and_self]
theorem tsts_gd {ks : List Str} {ts : List Tst} {n : Nat} (h : ∀ t ∈ ts, TOk' ks t ∧ t.dep ≤ n) : Gd (.list (ts.map Tst.D)) (n + 3) (ts.length * (131 + 20 * n)) := by
  have g := GdAll.of (k := n + 2) (n := 130 + 20 * n) (ds := ts.map Tst.D) fun d hd => by
    obtain ⟨t, ht, rfl⟩ := List.mem_map.mp hd
    obtain ⟨h1, h2⟩ := h t ht
    exact (Tst.gd h1).mono (by omega) (by omega)
  rw [List.length_map] at g
  exact (Gd.list g).mono (Nat.le_refl _) (Nat.le_of_eq (by rw [show 130 + 20 * n + 1 = 131 + 20 * n from by omega]))
theorem tsts_shaped {ks : List Str} {ts : List Tst} {n : Nat} (h : ∀ t ∈ ts, TOk' ks t ∧ t.dep ≤ n) (hn : n ≤ 10) : SeqAt.shaped (.list (ts.map Tst.D)) = true := by
  unfold SeqAt.shaped
  rw [Bool.and_eq_true]
  refine ⟨?_, decide_eq_true ?_⟩
  · simp only [PyData.canLay0]
    exact tsts_lay fun t ht => (h t ht).1
  · have := (tsts_gd h).dp
    omega
/-- the row and the tests, shown -/
def seenD (row : List (Key × V)) (ts : List Tst) : PyData := .list [rowD row, .list (ts.map Tst.D)]
theorem seen_gd {ks : List Str} {row : List (Key × V)} {ts : List Tst} (h : ∀ t ∈ ts, TOk' ks t ∧ t.dep ≤ 4) (hl : ts.length ≤ 3) (hr : ∀ p ∈ row, ∃ x : Str, p.1 = .inr x ∧ Sm x ∧ ValOk p.2) (h6 : row.length ≤ 6) : Gd (seenD row ts) 8 1000 := by
  have g := GdAll.cons ((row_gd hr h6).mono (k' := 7) (n' := 108) (by omega) (by omega)) (GdAll.cons ((tsts_gd h).mono (k' := 7) (n' := 633) (by omega) (by omega)) GdAll.nil)
  exact (Gd.list g).mono (by omega) (by omega)
abbrev sLaw : Stmt := top 16
abbrev nLaw : List Str := ["_law_script", "_law_bag_here", "_law_turn", "_law_tables", "_law_fields_here", "_law_rows_here", "_law_ident", "_law_row", "_law_k", "_law_tests_here", "_law_turned", "_law_shown", "_law_due", "_law_again", "_law_told", "_law_test"]
def spLaw (K : PySem.W.Frag) : Sp := fun vs H Q _ => ∃ (a : Addr) (ns : List Int), vs = [.ref a] ∧ SqL K H a (ns.map V.int) ∧ ns.length ≤ 63 ∧ ∀ H', Q (.bl true) H'
structure FF (P : Program) (w : World) (K : PySem.W.Frag) (mg : Str → Option Value) (base : Heap) (k : Nat) (nm : Str) (ps : List Str) (sp : Sp) (f : Addr) (fd : FuncData) : Prop where
  G : FnOk P w K mg base CX0 k f fd ps sp
  b : Binds K fd ps []
  m : mg nm = some (.ref f)
  k : PySem.W.keepIn K (.ref f) = true
structure FA (P : Program) (w : World) (K : PySem.W.Frag) (mg : Str → Option Value) (base : Heap) (f : Addr) (fd : FuncData) : Prop where
  G : FnG P w K mg base CX0 1 f fd ["_law_found", "_law_due"] (spAlike K)
  b : Binds K fd ["_law_found", "_law_due"] []
  m : mg "_law_alike" = some (.ref f)
  k : PySem.W.keepIn K (.ref f) = true
section
variable {P : Program} {w : World} {K : PySem.W.Frag} {mg : Str → Option Value} {base : Heap}
theorem scLaw : FnScope nLaw ["_law_script"] (defScope sLaw) := ⟨rfl, rfl, rfl, by decide +kernel, rfl, by decide +kernel, by decide +kernel⟩
theorem ok_law {f fB fT fN fF fR fS fM fL fI fD fA : Addr} {fd dB dT dN dF dR dS dM dL dI dD dA : FuncData} (F : Fun K "law" "law" sLaw f fd)
    (BA : FF P w K mg base 1 "_law_bag" ["_law_script"] (spBag K) fB dB) (T : TakeF P w K mg base fT dT) (N : NamesF P w K mg base fN dN)
    (FI : FF P w K mg base 3 "_law_fields" ["_law_bag_here", "_law_tables", "_law_rare"] spFields fF dF)
    (RO : FF P w K mg base 3 "_law_rows" ["_law_bag_here", "_law_tables", "_law_top", "_law_strangers"] spRows fR dR)
    (TE : FF P w K mg base 2 "_law_tests" ["_law_bag_here", "_law_fields_here", "_law_top"] (spTests K) fS dS)
    (ME : FF P w K mg base 6 "meets" ["row", "tests"] (spMeets K 4) fM dM)
    (LM : FF P w K mg base 6 "_law_meets" ["_law_row", "_law_tests_here"] (spMeets K 4) fL dL)
    (FN : FF P w K mg base 6 "fields_in" ["tests"] (spFieldsIn K 4) fI dI)
    (NA : FF P w K mg base 5 "_law_named" ["_law_test"] (spNamed K 4) fD dD)
    (AL : FA P w K mg base fA dA)
    (nra : mg "range" = none) (nint : mg "int" = none) (nre : mg "repr" = none) (nso : mg "sorted" = none) (nse : mg "set" = none) :
    FnG P w K mg base CX0 7 f fd ["_law_script"] (spLaw K) := by
  refine okG F scLaw (fun vs H Q E h => ?_) (fun cdv A0 out s H vs Q E hg hr h => ?_)
  · obtain ⟨a, ns, rfl, _⟩ := h
    rfl
  · obtain ⟨a0, ns0, rfl, hS0, hlen0, k⟩ := h
    refine ⟨_, pss_cons (ps_set (i := 1) scLaw.nd rfl (Or.inl rfl) (pe_call BA.G (hr.mono (by decide)) rfl BA.m BA.k BA.b .nil pass0 (pa_cons (pv 0) pa_nil)))
      (pss_cons (ps_for PassesOwn.never rfl (pi_range1 rfl nra (pa_cons pe_int pa_nil)) (pg_name (i := 2) scLaw.nd rfl (Or.inl rfl))
        (pss_cons (ps_set (i := 3) scLaw.nd rfl (Or.inl rfl) (pe_call N.G (hr.mono (by decide)) rfl N.m N.k N.b .nil pass0 (pa_cons (pv 1) (pa_cons pe_int pa_nil))))
        (pss_cons (ps_set (i := 4) scLaw.nd rfl (Or.inl rfl) (pe_call FI.G (hr.mono (by decide)) rfl FI.m FI.k FI.b .nil pass0 (pa_cons (pv 1) (pa_cons (pv 3) (pa_cons pe_int pa_nil)))))
        (pss_cons (ps_set (i := 5) scLaw.nd rfl (Or.inl rfl) (pe_call RO.G (hr.mono (by decide)) rfl RO.m RO.k RO.b .nil pass0 (pa_cons (pv 1) (pa_cons (pe_disp (pps_cons (pe_ix ix_list (pv 3) pe_int (fun _ _ => rfl)) (pv 4) pps_nil) (by rfl) (by rfl) (fun z => by cases z) (by decide)) (pa_cons pe_int (pa_cons pe_int pa_nil))))))
        (pss_cons (ps_lock (ps_for PassesOwn.never rfl (pi_keys (pv 5)) (pg_name (i := 6) scLaw.nd rfl (Or.inl rfl))
          (pss_cons (ps_set (i := 7) scLaw.nd rfl (Or.inl rfl) (pe_ix ix_tup (pe_dget (hu_of hr) (pv 5) (pv 6) (fun _ _ => rfl)) pe_int (fun _ _ => rfl)))
          (pss_one (ps_for PassesOwn.never rfl (pi_range1 rfl nra (pa_cons pe_int pa_nil)) (pg_name (i := 8) scLaw.nd rfl (Or.inl rfl))
            (pss_cons (ps_set (i := 9) scLaw.nd rfl (Or.inl rfl) (pe_call TE.G (hr.mono (by decide)) rfl TE.m TE.k TE.b .nil pass0 (pa_cons (pv 1) (pa_cons (pv 4) (pa_cons pe_int pa_nil)))))
            (Evl.pss_cut (ps_if (PW.pt (pw_and (pt_cmpR (op_neD hr.units) (pv 9) (pe_lst pa_nil) (nomark _)) (pw_and1 (pt_cmpR op_eq (pe_ix ix_tup (pe_ix ix_list (pv 9) pe_int (fun _ _ => rfl)) pe_int (fun _ _ => rfl)) pe_str (nomark _)))))
              (pss_one (ps_asg (pe_op op_catT (pe_slice sl_tup (pe_ix ix_list (pv 9) pe_int (fun _ _ => rfl)) po_none (po_some pe_int)) (pe_tup (pa_cons (pe_revL (pe_op op_rep (pe_ix ix_tup (pe_ix ix_list (pv 9) pe_int (fun _ _ => rfl)) pe_int (fun _ _ => rfl)) pe_int)) pa_nil))) (pg_sub (pv 9) pe_int set_list)))
              pss_nil)
            (Evl.pss_cut (ps_for PassesOwn.never rfl (pi_range1 rfl nra (pa_cons (pe_op op_mul (pe_call T.G (hr.mono (by decide)) rfl T.m T.k T.b .nil pass0 (pa_cons (pv 1) (pa_cons pe_int pa_nil))) (pe_callTy call_int1 (by rfl) nint (by decide +kernel) (pa_cons (pe_cmpR (op_neD hr.units) (pv 9) (pe_lst pa_nil) (nomark _)) pa_nil))) pa_nil)) (pg_name (i := 10) scLaw.nd rfl (Or.inl rfl))
              (pss_one (ps_asg (pe_tup (pa_cons pe_str (pa_cons (pe_ix ix_list (pv 9) (pe_un un_neg pe_int) (fun _ _ => rfl)) pa_nil))) (pg_sub (pv 9) (pe_un un_neg pe_int) set_list))))
            (pss_cons (ps_set (i := 11) scLaw.nd rfl (Or.inl rfl) (pe_callB (call_reprD hg hr.units) (by rfl) nre (by decide +kernel) (pa_cons (pe_lst (pa_cons (pv 7) (pa_cons (pv 9) pa_nil))) pa_nil)))
            (pss_cons (ps_set (i := 12) scLaw.nd rfl (Or.inl rfl) (pe_lst (pa_cons (pe_call LM.G hr rfl LM.m LM.k LM.b .nil pass0 (pa_cons (pv 7) (pa_cons (pv 9) pa_nil))) (pa_cons (pe_callB (cr_sortSetT rfl) (by rfl) nso (by decide +kernel) (pa_cons (pe_callTy (cr_setOf rfl) (by rfl) nse (by decide +kernel) (pa_cons
                (pe_lc (own := [("_law_test", 15)]) (g := gName 15) (tt := tYes) rfl scLaw.nd (pi_list (pv 9)) (blkOk_by (N := nLaw) (sc := defScope sLaw) (by decide +kernel))
                  (fun _ _ _ _ _ => pg_name (i := 15) scLaw.nd rfl (Or.inl rfl)) (fun _ _ _ _ _ => pts_nil)
                  (fun _ _ _ _ _ => pe_call NA.G (hr.mono (by decide)) rfl NA.m NA.k NA.b .nil pass0 (pa_cons (pv 15) pa_nil))) pa_nil)) pa_nil)) pa_nil))))
            (pss_one (ps_for PassesOwn.never rfl (pi_range1 rfl nra (pa_cons pe_int pa_nil)) (pg_name (i := 13) scLaw.nd rfl (Or.inl rfl))
              (pss_cons (ps_set (i := 14) scLaw.nd rfl (Or.inl rfl) (pe_lst (pa_cons (pe_call ME.G hr rfl ME.m ME.k ME.b .nil pass0 (pa_cons (pv 7) (pa_cons (pv 9) pa_nil))) (pa_cons (pe_call FN.G hr rfl FN.m FN.k FN.b .nil pass0 (pa_cons (pv 9) pa_nil)) pa_nil))))
              (pss_cons (ps_if (PW.pt (pw_or (pt_not (pt_val (pe_callG AL.G hg (hr.mono (by decide)) rfl AL.m AL.k AL.b .nil pass0 (pa_cons (pv 14) (pa_cons (pv 12) pa_nil))))) (pw_or1 (pt_cmpR op_ne (pe_callB (call_reprD hg hr.units) (by rfl) nre (by decide +kernel) (pa_cons (pe_lst (pa_cons (pv 7) (pa_cons (pv 9) pa_nil))) pa_nil)) (pv 11) (nomark _))))) (pss_one (ps_ret pe_bl)) pss_nil)
              (pss_one (ps_expr (pe_bm PySem.F.plainAttrs_list PySem.F.slot_list_append PySem.F.type_list_append mt_append (pe_ix ix_list (pv 14) pe_int (fun _ _ => rfl)) (pa_cons pe_non pa_nil))))))))))))))))))
        (pss_one (ps_if (PW.pt (pw_or (pt_cmpR op_isnot_bl (pe_call ME.G hr rfl ME.m ME.k ME.b .nil pass0 (pa_cons pe_dnewK (pa_cons (pe_lst pa_nil) pa_nil))) pe_bl (nomark _)) (pw_or1 (pt_cmpR (op_neD hr.units) (pe_call FN.G hr rfl FN.m FN.k FN.b .nil pass0 (pa_cons (pe_lst pa_nil) pa_nil)) (pe_lst pa_nil) (nomark _))))) (pss_one (ps_ret pe_bl)) pss_nil)))))))
      (pss_one (ps_ret pe_bl))), ?_⟩
    refine ⟨_, rfl, a0, ns0, rfl, hS0, hlen0, fun H1 b l s1 hb hl hB => ?_⟩
    obtain ⟨w0⟩ : Nonempty (PLift (Wd b l (fun a => if a = b then none else H1 a) H1)) := by
      refine ⟨⟨⟨fun a o e => ?_, if_pos rfl, ?_, hB⟩⟩⟩
      · by_cases c : a = b
        · have e' := (if_pos c).symm.trans e
          cases e'
        · exact (if_neg c).symm.trans e
      · obtain ⟨x, y, c, ns, h1, h2, h3, _⟩ := hB.at_
        exact ⟨_, (if_neg (Ne.symm h3)).trans h2⟩
    replace w0 := w0.down
    generalize (fun a => if a = b then none else H1 a) = G0 at w0
    refine ⟨6, rfl, by decide, by decide, for_range (lo := 0) (n := 6) (fun i σ' H' => ∃ (v2 v3 v4 v5 v6 v7 v8 v9 v10 v11 v12 v13 v14 : Option V) (G' : Hp), σ' = [some (.ref a0), some (.ref b), v2, v3, v4, v5, v6, v7, v8, v9, v10, v11, v12, v13, v14, none] ∧ Stp b l G0 H1 G' H')
      ⟨none, none, none, none, none, none, none, none, none, none, none, none, none, G0, rfl, w0.refl⟩ ?_ ?_⟩
    · rintro i σ' H2 hi ⟨v2, v3, v4, v5, v6, v7, v8, v9, v10, v11, v12, v13, v14, G1, rfl, t1⟩
      refine ⟨_, rfl, b, l, 1, G1, rfl, by decide, by decide, t1.w, fun pt xs G2 H3 tn g2 xl xnd xsm => ?_⟩
      have t2 := t1.trans tn w0
      obtain ⟨x, rfl⟩ : ∃ x, xs = [x] := by
        cases xs with
        | nil => exact absurd xl (by decide)
        | cons x r =>
          cases r with
          | nil => exact ⟨x, rfl⟩
          | cons y r' =>
            exfalso
            rw [List.length_cons, List.length_cons] at xl
            omega
      refine ⟨_, rfl, _, rfl, b, l, pt, 2, [x], G2, rfl, by decide, by decide, g2, (by intro z; cases z), (by show 1 ≤ 60; decide), t2.w, fun d kvs G3 H4 tf g3 fa k6 => ?_⟩
      have t3 := t2.trans tf w0
      refine ⟨_, rfl, fun td htd => ⟨_, rfl, pt, _, 0, _, rfl, rfl, SqL.of ((t3.wet (o := .dK []) w0 htd).gat (tf.g _ _ g2)), atI_nat (j := 0) rfl, _, rfl, upd_same, [(.inr x, .ref d)], rfl, (by show 1 ≤ 15; decide), ?_⟩⟩
      have L3 : Loc b H1 G3 _ td _ := Loc.new (o := .dK []) t3 htd
      have t4a := (t3.wet (o := .dK []) w0 htd).put (o' := .dK [(.inr x, .ref d)]) L3
      have L4 := L3.put (o' := .dK [(.inr x, .ref d)])
      have t4 := t4a.frz L4
      have s4 : Same G3 (upd G3 td (.dK [(.inr x, .ref d)])) := same_new (Same.refl _) L4.g
      refine ⟨b, l, td, 3, 1, [(.inr x, .ref d)], _, rfl, by decide, by decide, by decide, upd_same, ?_, (by intro z; cases z), by show 1 ≤ 60; decide, t4.w, fun fdA rkvs G5 H5 tr Lr ra rl rnd => ?_⟩
      · intro p hp
        rw [List.mem_singleton.mp hp]
        exact ⟨x, d, kvs, rfl, rfl, s4 _ _ g3, fa.mono s4, k6, xsm x List.mem_cons_self⟩
      have t5 := t4.trans tr w0
      have L5 : Loc b H1 G5 H5 fdA (.dK rkvs) := ⟨t4.free Lr.h0, Lr.g, Lr.nb, Lr.at_⟩
      have gd5 : G5 d = some (.dK kvs) := tr.g _ _ (s4 _ _ g3)
      have fa5 : FAll G5 kvs := fa.mono (s4.trans tr.g)
      obtain ⟨ks, hks, ks8⟩ := fa5.keys
      refine ⟨fdA, .dK rkvs, L5.at_, trivial, fun od => ?_⟩
      have t6 := t5.put (o' := .frz od (.dK rkvs)) L5
      have L6 := L5.put (o' := .frz od (.dK rkvs))
      refine ⟨_, rfl, fdA, od, rfl, Or.inl ⟨rkvs, upd_same, for_it walk_keys (fun _ σ' H' => ∃ (v6 v7 v8 v9 v10 v11 v12 v13 v14 : Option V) (G' : Hp), σ' = [some (.ref a0), some (.ref b), some (.int (0 + (i : Int))), some (.ref pt), some (.ref d), some (.ref fdA), v6, v7, v8, v9, v10, v11, v12, v13, v14, none] ∧
        Stp b l G0 H1 G' H' ∧ Same G5 G' ∧ Loc b H1 G' H' fdA (.frz od (.dK rkvs))) ?_ ?_ ?_ ?_⟩⟩
      · exact ⟨_, _, _, _, _, _, _, _, _, G5, rfl, t6, Same.refl _, L6⟩
      · rintro j σ' H6 _ ⟨_, _, _, _, _, _, _, _, _, G', rfl, _, _, L⟩
        exact L.at_
      · rintro j y σ' H6 _ hj ⟨u6, u7, u8, u9, u10, u11, u12, u13, u14, G6, rfl, t7, s7, L7⟩ ⟨rfl, kk, vv, hk, rfl⟩
        have km := List.mem_of_getElem? hk
        obtain ⟨x', tn', t, a, d', kvs', row, e1, e2, gt, hval, gd', ga, ks', hks', rp⟩ := ra _ km
        have e1' : kk = .inr x' := e1
        have e2' : vv = .ref t := e2
        subst e1' e2'
        obtain rfl : d = d' := by
          have h1 := valV_mem hval
          have h2 := List.mem_singleton.mp h1
          injection h2 with h3 h4
          injection h4 with h5
          exact h5.symm
        obtain rfl : kvs = kvs' := by
          rw [gd5] at gd'
          injection gd' with z
          injection z
        obtain rfl : ks = ks' := by
          rw [hks] at hks'
          exact inr_inj hks'
        refine ⟨_, rfl, _, rfl, fdA, _, rfl, Or.inl ⟨rkvs, .inr x', Or.inr ⟨od, L7.at_⟩, rfl, (val_nodup rnd _ km).symm⟩, t, _, 1, _, rfl, rfl, SqT.of (t7.gat (s7 _ _ gt)), atI_nat (j := 1) rfl, ?_⟩
        refine ⟨4, rfl, by decide, by decide, for_range (lo := 0) (n := 4) (fun _ σ' H' => ∃ (v8 v9 v10 v11 v12 v13 v14 : Option V) (G' : Hp), σ' = [some (.ref a0), some (.ref b), some (.int (0 + (i : Int))), some (.ref pt), some (.ref d), some (.ref fdA), some (.str x'), some (.ref a), v8, v9, v10, v11, v12, v13, v14, none] ∧
          Stp b l G0 H1 G' H' ∧ Same G5 G' ∧ Loc b H1 G' H' fdA (.frz od (.dK rkvs))) ⟨_, _, _, _, _, _, _, G6, rfl, t7, s7, L7⟩ ?_ ?_⟩
        · rintro m σ' H7 hm ⟨w8, w9, w10, w11, w12, w13, w14, G7, rfl, t8, s8, L8⟩
          refine ⟨_, rfl, _, rfl, b, l, d, 3, kvs, ks, G7, rfl, by decide, by decide, s8 _ _ gd5, fa5.mono s8, k6, hks, t8.w, fun p us0 ts0 G8 H8 tt Lp da0 tok0 tl0 => ?_⟩
          have t9 := t8.trans tt w0
          have P9 : Loc b H1 G8 H8 p (.lst us0) := ⟨t8.free Lp.h0, Lp.g, Lp.nb, Lp.at_⟩
          have L9 := L8.step tt
          have s9 : Same G5 G8 := s8.trans tt.g
          have tok0' : ∀ t ∈ ts0, TOk' ks t ∧ t.dep ≤ 2 := fun t ht => ⟨(tok0 t ht).1.more, (tok0 t ht).2⟩
          refine ⟨fun σ' H' => ∃ (us : List V) (ts : List Tst) (G' : Hp), σ' = [some (.ref a0), some (.ref b), some (.int (0 + (i : Int))), some (.ref pt), some (.ref d), some (.ref fdA), some (.str x'), some (.ref a), some (.int (0 + (m : Int))), some (.ref p), w10, w11, w12, w13, w14, none] ∧
            Stp b l G0 H1 G' H' ∧ Same G5 G' ∧ Loc b H1 G' H' fdA (.frz od (.dK rkvs)) ∧ Loc b H1 G' H' p (.lst us) ∧ TsAt G' us ts ∧ (∀ t ∈ ts, TOk' ks t ∧ t.dep ≤ 2) ∧ ts.length ≤ 3, ?_, ?_⟩
          · refine ⟨_, rfl, Nat.zero_le _, fun e he => ?_⟩
            have ie := t9.w.wet (o := .lst []) he
            have t10 := t9.trans ie w0
            have P10 := P9.step ie
            have L10 := L9.step ie
            refine ⟨.list (ts0.map Tst.D), .list [], .lst (SqL.of P10.at_) (tsat_dp (da0.mono t10.w.s)), .lst (SqL.of upd_same) .nil, tsts_shaped tok0' (by decide), by decide, _, rfl, ?_⟩
            rw [eqv_nil]
            have stay : ∃ (us : List V) (ts : List Tst) (G' : Hp), [some (V.ref a0), some (.ref b), some (.int (0 + (i : Int))), some (.ref pt), some (.ref d), some (.ref fdA), some (.str x'), some (.ref a), some (.int (0 + (m : Int))), some (.ref p), w10, w11, w12, w13, w14, none] = [some (V.ref a0), some (.ref b), some (.int (0 + (i : Int))), some (.ref pt), some (.ref d), some (.ref fdA), some (.str x'), some (.ref a), some (.int (0 + (m : Int))), some (.ref p), w10, w11, w12, w13, w14, none] ∧
                Stp b l G0 H1 G' (upd H8 e (.lst [])) ∧ Same G5 G' ∧ Loc b H1 G' (upd H8 e (.lst [])) fdA (.frz od (.dK rkvs)) ∧ Loc b H1 G' (upd H8 e (.lst [])) p (.lst us) ∧ TsAt G' us ts ∧ (∀ t ∈ ts, TOk' ks t ∧ t.dep ≤ 2) ∧ ts.length ≤ 3 :=
              ⟨us0, ts0, G8, rfl, t10, s9, L10, P10, da0, tok0', by omega⟩
            match us0, ts0, da0, tok0', P10, P9, stay with
            | [], [], _, _, _, _, stay => exact ifF rfl stay
            | u :: us1, tst :: ts1, ⟨dat, das⟩, tok0', P10, P9, stay =>
              refine ifT rfl ?_
              have U0 : ∀ {H' : Hp}, Loc b H1 G8 H' p (.lst (u :: us1)) → SqL K H' p (u :: us1) := fun L => SqL.of L.at_
              cases tst with
              | non z =>
                obtain ⟨c, rfl, h1⟩ := dat
                exact ⟨_, rfl, p, _, 0, _, rfl, rfl, U0 P10, atI_nat (j := 0) rfl, c, _, 0, _, rfl, rfl, SqT.of (t10.gat h1), atI_nat (j := 0) rfl, rfl, _, rfl, ifF rfl stay⟩
              | nt z =>
                obtain ⟨c, u', rfl, h1, h2⟩ := dat
                exact ⟨_, rfl, p, _, 0, _, rfl, rfl, U0 P10, atI_nat (j := 0) rfl, c, _, 0, _, rfl, rfl, SqT.of (t10.gat h1), atI_nat (j := 0) rfl, rfl, _, rfl, ifF rfl stay⟩
              | is_ z ws =>
                obtain ⟨c, q, rfl, h1, h2⟩ := dat
                refine ⟨_, rfl, p, _, 0, _, rfl, rfl, U0 P10, atI_nat (j := 0) rfl, c, _, 0, _, rfl, rfl, SqT.of (t10.gat h1), atI_nat (j := 0) rfl, rfl, _, rfl, ifT rfl ?_⟩
                refine ⟨_, rfl, p, _, 0, _, rfl, rfl, U0 P10, atI_nat (j := 0) rfl, 2, rfl, c, _, rfl, SqT.of (t10.gat h1), (by show ¬ ((0 : Nat) = 0 ∧ (2 : Nat) = 3); decide), fun c1 hc1 => ?_⟩
                have j1 := t10.w.wet (o := .tup (cutV [.str "is", .str z, .ref q] none (some 2))) hc1
                have C1 : Loc b H1 G8 _ c1 _ := Loc.new (o := .tup (cutV [.str "is", .str z, .ref q] none (some 2))) t10 hc1
                obtain ⟨zk, zs, wl, wsm⟩ := (tok0 (.is_ z ws) List.mem_cons_self).1
                refine ⟨_, rfl, p, _, 0, _, rfl, rfl, U0 (P10.step j1), atI_nat (j := 0) rfl, c, _, 2, _, rfl, rfl, SqT.of (j1.gat h1), atI_nat (j := 2) rfl, q, 2, _, rfl, rfl, j1.gat h2, by decide, by decide, ?_, fun q1 hq1 => ?_⟩
                · rw [List.length_map, sizeLine_eq]
                  show ws.length * 2 ≤ _
                  omega
                have j2 := j1.wet (o := .lst (List.replicate (2 : Int).toNat (ws.map V.str)).flatten) t10.w hq1
                refine ⟨q1, _, rfl, SqL.of upd_same, fun q2 hq2 => ?_⟩
                have erev : (List.replicate (2 : Int).toNat (ws.map V.str)).flatten.reverse = ((ws ++ ws).reverse).map V.str := by
                  show ([ws.map V.str, ws.map V.str].flatten).reverse = _
                  simp
                rw [erev]
                have j3 := j2.ice (o := .lst (((ws ++ ws).reverse).map V.str)) t10.w hq2
                refine ⟨by show 1 ≤ sizeLine; decide, fun c2 hc2 => ?_⟩
                have j4 := j3.wet (o := .tup [.ref q2]) t10.w hc2
                have C4 := ((C1.step (j1.w.wet (o := .lst (List.replicate (2 : Int).toNat (ws.map V.str)).flatten) hq1)).step (j2.w.ice (o := .lst (((ws ++ ws).reverse).map V.str)) hq2)).step (j3.w.wet (o := .tup [.ref q2]) hc2)
                refine ⟨c1, c2, _, _, rfl, rfl, SqT.of C4.at_, SqT.of upd_same, (by intro z; cases z), by show 2 + 1 ≤ sizeLine; decide, (fun z => by cases z), fun _ c3 hc3 => ?_⟩
                have j5 := j4.ice (o := .tup [.str "is", .str z, .ref q2]) t10.w hc3
                have P11 := P10.step j5
                refine ⟨_, rfl, p, _, 0, 0, rfl, rfl, P11.at_, (by show ixN (us1.length + 1) ((0 : Nat) : Int) = some 0; exact Evl.ixN_nat (Nat.succ_pos _)), ?_⟩
                have t11 := t10.trans j5 w0
                refine ⟨.ref c3 :: us1, .is_ z ((ws ++ ws).reverse) :: ts1, _, rfl, t11.put P11, s9.trans j5.g, (L10.step j5).off ?_, P11.put, ⟨?_, das.mono j5.g⟩, ?_, ?_⟩
                · exact ne_of (L10.step j5).at_ P11.at_ (by intro z; cases z)
                · refine ⟨c3, q2, rfl, upd_same, ?_⟩
                  rw [upd_ne]
                  · exact upd_same
                  · exact ne_of_none (j4.gat upd_same) hc3
                · intro t' ht'
                  rcases List.mem_cons.mp ht' with e | e
                  · rw [e]
                    refine ⟨⟨zk, zs, ?_, fun y hy => ?_⟩, Nat.zero_le _⟩
                    · rw [List.length_reverse, List.length_append]
                      omega
                    · rcases List.mem_append.mp (List.mem_reverse.mp hy) with h | h
                      · exact wsm y h
                      · exact wsm y h
                  · exact tok0' t' (List.mem_cons_of_mem _ e)
                · have : (ts1.length : Int) + 1 ≤ 3 := by
                    have := tl0
                    rw [List.length_cons] at this
                    omega
                  show ts1.length + 1 ≤ 3
                  omega
          rintro σ' H9 ⟨us1, ts1, G9, rfl, t10, s10, L10, P10, da1, tok1, tl1⟩
          refine ⟨fun σ' H' => ∃ (v10 : Option V) (us : List V) (ts : List Tst) (G' : Hp), σ' = [some (.ref a0), some (.ref b), some (.int (0 + (i : Int))), some (.ref pt), some (.ref d), some (.ref fdA), some (.str x'), some (.ref a), some (.int (0 + (m : Int))), some (.ref p), v10, w11, w12, w13, w14, none] ∧
            Stp b l G0 H1 G' H' ∧ Same G5 G' ∧ Loc b H1 G' H' fdA (.frz od (.dK rkvs)) ∧ Loc b H1 G' H' p (.lst us) ∧ TsAt G' us ts ∧ (∀ t ∈ ts, TOk' ks t ∧ t.dep ≤ 4) ∧ ts.length ≤ 3, ?_, ?_⟩
          · refine ⟨_, rfl, b, l, 3, rfl, by decide, by decide, t10.w.bag, fun r H10 r0 r1 but10 B10 => ?_⟩
            have i11 := t10.w.take but10 B10
            have t11 := t10.trans i11 w0
            refine ⟨_, rfl, Nat.zero_le _, fun e he => ?_⟩
            have ie := t11.w.wet (o := .lst []) he
            have t12 := t11.trans ie w0
            have P12 := (P10.step i11).step ie
            have L12 := (L10.step i11).step ie
            refine ⟨.list (ts1.map Tst.D), .list [], .lst (SqL.of P12.at_) (tsat_dp (da1.mono t12.w.s)), .lst (SqL.of upd_same) .nil, tsts_shaped tok1 (by decide), by decide, Or.inr ⟨_, rfl, r, _, rfl, rfl, Or.inl ⟨by omega, by omega⟩, _, rfl, ?_, ?_, for_range (lo := 0) (n := _) (fun j σ' H' => ∃ (v10 : Option V) (us : List V) (ts : List Tst) (G' : Hp), σ' = [some (.ref a0), some (.ref b), some (.int (0 + (i : Int))), some (.ref pt), some (.ref d), some (.ref fdA), some (.str x'), some (.ref a), some (.int (0 + (m : Int))), some (.ref p), v10, w11, w12, w13, w14, none] ∧
              Stp b l G0 H1 G' H' ∧ Same G5 G' ∧ Loc b H1 G' H' fdA (.frz od (.dK rkvs)) ∧ Loc b H1 G' H' p (.lst us) ∧ TsAt G' us ts ∧ (∀ t ∈ ts, TOk' ks t ∧ t.dep ≤ 2 + j) ∧ ts.length = ts1.length) ⟨w10, us1, ts1, G9, rfl, t12, s10, L12, P12, da1, fun t ht => ⟨(tok1 t ht).1, by have := (tok1 t ht).2; omega⟩, rfl⟩ ?_ ?_⟩⟩
            · split <;> omega
            · split <;> omega
            · rintro j σ' H11 hj ⟨v10, us, ts, G10, rfl, t13, s13, L13, P13, da, tok, tsl⟩
              rw [eqv_nil] at hj
              have tne : ts1 ≠ [] := by
                rintro rfl
                have : (r * (if (!(([] : List Tst).map Tst.D).isEmpty) = true then 1 else 0)).toNat = 0 := by
                  show (r * 0).toNat = 0
                  rw [Int.mul_zero]
                  rfl
                rw [this] at hj
                omega
              have tpos : 0 < ts1.length := List.length_pos_iff.mpr tne
              obtain ⟨tlast, hlast⟩ : ∃ t, ts[ts1.length - 1]? = some t := ⟨ts[ts1.length - 1]'(by omega), List.getElem?_eq_getElem _⟩
              obtain ⟨ul, hul, dul⟩ := da.at hlast
              have usl : us.length = ts1.length := by rw [da.len, tsl]
              have hix : ixN us.length (-1) = some (ts1.length - 1) := by
                unfold ixN
                rw [if_neg (by decide), if_pos (by omega), usl]
                congr 1
                omega
              have hat : atI us (-1) = some ul := by
                unfold atI
                rw [hix]
                exact hul
              refine ⟨_, rfl, 1, rfl, p, _, _, _, rfl, rfl, SqL.of P13.at_, hat, by show 2 ≤ sizeLine; decide, fun c hc => ?_⟩
              have i14 := t13.w.ice (o := .tup [.str "not", ul]) hc
              have t14 := t13.trans i14 w0
              have P14 := P13.step i14
              refine ⟨_, rfl, 1, rfl, p, _, _, _, rfl, rfl, P14.at_, hix, ?_⟩
              refine ⟨_, us.set (ts1.length - 1) (.ref c), ts.set (ts1.length - 1) (.nt tlast), _, rfl, t14.put P14, s13.trans i14.g, (L13.step i14).off ?_, P14.put, TsAt.set (t := .nt tlast) (v := .ref c) ⟨c, ul, rfl, upd_same, dul.mono i14.g⟩ _ (da.mono i14.g), ?_, by rw [List.length_set]; exact tsl⟩
              · exact ne_of (L13.step i14).at_ P14.at_ (by intro z; cases z)
              · intro t' ht'
                rcases List.mem_or_eq_of_mem_set ht' with e | e
                · obtain ⟨h1, h2⟩ := tok t' e
                  exact ⟨h1, by omega⟩
                · obtain ⟨h1, h2⟩ := tok tlast (List.mem_of_getElem? hlast)
                  rw [e]
                  exact ⟨h1, by show tlast.dep + 1 ≤ _; omega⟩
            · rintro σ' H11 ⟨v10, us, ts, G10, rfl, t13, s13, L13, P13, da, tok, tsl⟩
              refine ⟨v10, us, ts, G10, rfl, t13, s13, L13, P13, da, fun t ht => ?_, by omega⟩
              obtain ⟨h1, h2⟩ := tok t ht
              refine ⟨h1, ?_⟩
              rw [eqv_nil] at h2
              have : (r * (if (!(ts1.map Tst.D).isEmpty) = true then 1 else 0)).toNat ≤ 2 := by split <;> omega
              omega
          rintro σ' H10 ⟨v10', us, ts, G10, rfl, t11, s11, L11, P11, da, tok, tsl⟩
          have usl : us.length = ts.length := da.len
          -- shown
          have rall := rp.all
          have rlen := rp.len
          have gsee := seen_gd tok tsl rall rlen
          have see : ∀ {H' : Hp} {q : Addr}, Stp b l G0 H1 G10 H' → Loc b H1 G10 H' p (.lst us) → H' q = some (.lst [.ref a, .ref p]) → Dt K H' (.ref q) (seenD row ts) := fun {H' q} tq Pq hq =>
            .lst (SqL.of hq) (.cons (row_dt (Rd.of (tq.gat (s11 _ _ ga))) fun p' hp' => let ⟨_, _, _, z⟩ := rall p' hp'; z) (.cons (.lst (SqL.of Pq.at_) (da.mono tq.w.s).dt) .nil))
          refine ⟨_, rfl, _, rfl, by show 2 ≤ sizeLine; decide, fun q1 hq1 => ?_⟩
          have i12 := t11.w.wet (o := .lst [.ref a, .ref p]) hq1
          have t12 := t11.trans i12 w0
          have P12 := P11.step i12
          refine ⟨_, seenD row ts, rfl, see t12 P12 upd_same, gsee.sh, Nat.le_trans gsee.dp (by decide), gsee.fits (by decide), ⟨q1, rfl⟩, ?_⟩
          -- due
          have hasr : ∀ t ∈ ts, t.dep ≤ 4 ∧ Has row t.nm := fun t ht => by
            obtain ⟨h1, h2⟩ := tok t ht
            refine ⟨h2, ?_⟩
            obtain ⟨v, hv⟩ := rp.has t.nm h1.nm.1
            obtain ⟨_, _, _, vo⟩ := rall _ (valV_mem hv)
            refine ⟨v, hv, ?_⟩
            rcases vo with e | ⟨y, e, _⟩
            · rw [show v = .non from e]
              rfl
            · rw [show v = .str y from e]
              rfl
          refine ⟨_, rfl, _, rfl, a, p, row, us, ts, rfl, Rd.of (t12.gat (s11 _ _ ga)), SqL.of P12.at_, (da.mono t12.w.s).dt, hasr, by omega, fun H11 sm => ?_⟩
          have i13 := t12.w.same sm
          have t13 := t12.trans i13 w0
          have P13 := P12.step i13
          refine ⟨_, rfl, p, rfl, ⟨_, SqL.of P13.at_⟩, fun D hD => lc_list (xs := us) (fun j H' => Same H11 H' ∧ H' D = some (.lst (((ts.take j).map Tst.nm).map V.str))) ?_ ?_ ?_ ?_⟩
          · exact ⟨same_new (Same.refl _) hD, upd_same⟩
          · rintro j H12 _ ⟨sj, _⟩
            exact sj.seq (SqL.of P13.at_)
          · rintro j y H12 hy ⟨sj, dj⟩
            obtain ⟨tj, htj, dtj⟩ := tst_at (K := K) (da.mono t13.w.s).dt hy
            refine ⟨rfl, _, rfl, y, tj, rfl, dtj.mono sj, (hasr tj (List.mem_of_getElem? htj)).1, _, dj, ?_, same_upd sj hD, ?_⟩
            · rw [List.length_map, List.length_map, List.length_take, sizeLine_eq]
              omega
            · rw [upd_same, List.take_add_one, htj, List.map_append, List.map_append]
              rfl
          rintro H12 ⟨sj, dj⟩
          rw [usl, List.take_of_length_le (Nat.le_refl _)] at dj
          refine ⟨D, ts.map Tst.nm, rfl, SqL.of dj, by rw [List.length_map]; omega, fun ps cc hps _ => ?_⟩
          refine ⟨ps, _, cc, rfl, upd_same, fun nsr pc srt nnd nmem hpc => ?_⟩
          have sA : Same H12 (upd H12 ps (SetTO w ps (fun y => decide (y ∈ ts.map Tst.nm)) cc)) := same_new (Same.refl _) hps
          have sB : Same H11 (upd (upd H12 ps (SetTO w ps (fun y => decide (y ∈ ts.map Tst.nm)) cc)) pc (.lst (nsr.map V.str))) := (sj.trans sA).trans (same_new (Same.refl _) hpc)
          have i14 := t13.w.same sB
          have t14 := t13.trans i14 w0
          have C14 : Loc b H1 G10 (upd (upd H12 ps (SetTO w ps (fun y => decide (y ∈ ts.map Tst.nm)) cc)) pc (.lst (nsr.map V.str))) pc (.lst (nsr.map V.str)) := Loc.got t13 ((sj.trans sA).free hpc) upd_same
          refine ⟨by show 2 ≤ sizeLine; decide, fun q2 hq2 => ?_⟩
          have i15 := t14.w.wet (o := .lst [.bl (ts.all (ev row)), .ref pc]) hq2
          have t15 := t14.trans i15 w0
          have C15 := C14.step i15
          have Q15 : Loc b H1 G10 _ q2 _ := Loc.new (o := .lst [.bl (ts.all (ev row)), .ref pc]) t14 hq2
          have P15 := (P13.step i14).step i15
          have L15 := (((L11.step i12).step i13).step i14).step i15
          have nsm : ∀ y ∈ nsr, Sm y := fun y hy => by
            have h1 : y ∈ ts.map Tst.nm := of_decide_eq_true ((nmem y).mp hy)
            obtain ⟨t', ht', rfl⟩ := List.mem_map.mp h1
            exact (tok t' ht').1.nm.2
          have nsl : nsr.length ≤ 60 := by
            have := nodup_le (ys := ts.map Tst.nm) nnd fun y hy => of_decide_eq_true ((nmem y).mp hy)
            rw [List.length_map] at this
            omega
          refine ⟨2, rfl, by decide, by decide, for_range (lo := 0) (n := 2) (fun _ σ' H' => ∃ (v13 v14 : Option V), σ' = [some (.ref a0), some (.ref b), some (.int (0 + (i : Int))), some (.ref pt), some (.ref d), some (.ref fdA), some (.str x'), some (.ref a), some (.int (0 + (m : Int))), some (.ref p), v10', some (.str (seenD row ts).shown), some (.ref q2), v13, v14, none] ∧
            Stp b l G0 H1 G10 H' ∧ Loc b H1 G10 H' fdA (.frz od (.dK rkvs)) ∧ Loc b H1 G10 H' p (.lst us) ∧ Loc b H1 G10 H' q2 (.lst [.bl (ts.all (ev row)), .ref pc]) ∧ Loc b H1 G10 H' pc (.lst (nsr.map V.str))) ⟨_, _, rfl, t15, L15, P15, Q15, C15⟩ ?_ ?_⟩
          · rintro j σ' H13 hj ⟨v13, v14, rfl, t16, L16, P16, Q16, C16⟩
            refine ⟨_, rfl, _, rfl, a, p, row, us, ts, rfl, Rd.of (t16.gat (s11 _ _ ga)), SqL.of P16.at_, (da.mono t16.w.s).dt, hasr, by omega, fun H14 sm2 => ?_⟩
            have i17 := t16.w.same sm2
            have t17 := t16.trans i17 w0
            have P17 := P16.step i17
            refine ⟨_, rfl, p, us, ts, rfl, SqL.of P17.at_, (da.mono t17.w.s).dt, fun t ht => (hasr t ht).1, by omega, fun H15 qf ns2 sf hqf at2 srt2 nd2 mem2 => ?_⟩
            obtain rfl : ns2 = nsr := sorted_uniq srt2 srt nd2 nnd fun y => (mem2 y).trans (by rw [nmem y, decide_eq_true_eq])
            have i18 := t17.w.same sf
            have t18 := t17.trans i18 w0
            have F18 : Loc b H1 G10 H15 qf (.lst (ns2.map V.str)) := Loc.got t17 hqf at2
            refine ⟨by show 2 ≤ sizeLine; decide, fun q3 hq3 => ?_⟩
            have i19 := t18.w.wet (o := .lst [.bl (ts.all (ev row)), .ref qf]) hq3
            have t19 := t18.trans i19 w0
            have F19 := F18.step i19
            have Q19 := ((Q16.step i17).step i18).step i19
            have C19 := ((C16.step i17).step i18).step i19
            have P19 := (P17.step i18).step i19
            have L19 := ((L16.step i17).step i18).step i19
            have T19 : Loc b H1 G10 _ q3 _ := Loc.new (o := .lst [.bl (ts.all (ev row)), .ref qf]) t18 hq3
            refine ⟨_, rfl, _, rfl, q3, q2, qf, pc, _, ns2, rfl, SqL.of T19.at_, SqL.of F19.at_, SqL.of Q19.at_, SqL.of C19.at_, nsl, nsm, true, rfl, ifF rfl ?_⟩
            refine ⟨_, rfl, _, rfl, by show 2 ≤ sizeLine; decide, fun q4 hq4 => ?_⟩
            have i20 := t19.w.wet (o := .lst [.ref a, .ref p]) hq4
            have t20 := t19.trans i20 w0
            have P20 := P19.step i20
            have F20 := F19.step i20
            have T20 := T19.step i20
            refine ⟨_, seenD row ts, rfl, see t20 P20 upd_same, gsee.sh, Nat.le_trans gsee.dp (by decide), gsee.fits (by decide), ⟨q4, rfl⟩, _, rfl, rfl, _, rfl, ?_⟩
            refine ifF (by simp) ?_
            refine ⟨_, rfl, q3, _, 1, _, rfl, rfl, SqL.of T20.at_, atI_nat (j := 1) rfl, Or.inl ⟨rfl, _, SqL.of F20.at_⟩, qf, _, _, rfl, rfl, F20.at_, ?_, ?_⟩
            · rw [List.length_map, sizeLine_eq]
              omega
            have L20 := L19.step i20
            have Q20 := Q19.step i20
            have C20 := C19.step i20
            have nq : ∀ {z : Addr} {o : HO}, Loc b H1 G10 H14 z o → z ≠ qf := fun L => L.ne hqf
            exact ⟨_, _, rfl, t20.put F20, L20.off (nq (L16.step i17)), P20.off (nq P17), Q20.off (nq (Q16.step i17)), C20.off (nq (C16.step i17))⟩
          · rintro σ' H13 ⟨v13, v14, rfl, t16, L16, _⟩
            exact ⟨_, _, _, _, _, _, _, G10, rfl, t16, s11, L16⟩
        · rintro σ' H7 ⟨w8, w9, w10, w11, w12, w13, w14, G7, rfl, t8, s8, L8⟩
          exact ⟨_, _, _, _, _, _, _, _, _, G7, rfl, t8, s8, L8⟩
      · rintro σ' H6 ⟨u6, u7, u8, u9, u10, u11, u12, u13, u14, G6, rfl, t7, s7, L7⟩
        refine ⟨L7.at_, fun e1 he1 => ⟨Nat.zero_le _, fun e2 he2 => ?_⟩⟩
        have t8 := t7.put (o' := .dK rkvs) L7
        have t9 := t8.wet (o := .dK []) w0 he1
        have t10 := t9.wet (o := .lst []) w0 he2
        refine ⟨e1, e2, [], [], [], rfl, Rd.of ?_, SqL.of upd_same, .nil, fun t ht => absurd ht List.not_mem_nil, Nat.zero_le _, fun H7 sm => ?_⟩
        · rw [upd_ne (ne_of_none upd_same he2)]
          exact upd_same
        have t11 := t10.trans (t10.w.same sm) w0
        refine ⟨true, true, rfl, rfl, _, rfl, ifF rfl ?_⟩
        refine ⟨Nat.zero_le _, fun e3 he3 => ?_⟩
        have t12 := t11.wet (o := .lst []) w0 he3
        refine ⟨e3, [], [], rfl, SqL.of upd_same, .nil, fun t ht => absurd ht List.not_mem_nil, Nat.zero_le _, fun H8 qf ns2 sf hqf at2 _ _ mem2 => ?_⟩
        obtain rfl : ns2 = [] := by
          cases ns2 with
          | nil => rfl
          | cons y r => exact absurd ((mem2 y).mp List.mem_cons_self) List.not_mem_nil
        have t13 := t12.trans (t12.w.same sf) w0
        refine ⟨Nat.zero_le _, fun e4 he4 => ?_⟩
        have t14 := t13.wet (o := .lst []) w0 he4
        refine ⟨.list [], .list [], .lst (SqL.of ?_) .nil, .lst (SqL.of upd_same) .nil, by decide, by decide, _, rfl, ifF rfl ?_⟩
        · rw [upd_ne (ne_of_none at2 he4)]
          exact at2
        exact ⟨_, _, _, _, _, _, _, _, _, _, _, _, _, _, rfl, t14⟩
    · rintro σ' H2 ⟨v2, v3, v4, v5, v6, v7, v8, v9, v10, v11, v12, v13, v14, G1, rfl, t1⟩
      exact k _
end
end E

set_option Elab.async false
set_option linter.all false
set_option maxRecDepth 100000
set_option maxHeartbeats 4000000
namespace E
open PySem L2 EG
theorem all_mk {P : Program} {w : World} {K : PySem.W.Frag} {h : Heap} {mg : Str → Option Value} {fa : Addr} (X : K.In h) (G : h.Ns mainGlobals mg) (hfa : mg "law" = some (.ref fa))
    {f0 : Addr} {od0 an0 : Option Addr} {sl0 : Array (Option Value)} {oc0 kV0 dc0 pm0 cd0 ct0 : Value}
    {f1 : Addr} {od1 an1 : Option Addr} {sl1 : Array (Option Value)} {oc1 kV1 dc1 pm1 cd1 ct1 : Value}
    {f2 : Addr} {od2 an2 : Option Addr} {sl2 : Array (Option Value)} {oc2 kV2 dc2 pm2 cd2 ct2 : Value}
    {f3 : Addr} {od3 an3 : Option Addr} {sl3 : Array (Option Value)} {oc3 kV3 dc3 pm3 cd3 ct3 : Value}
    {f4 : Addr} {od4 an4 : Option Addr} {sl4 : Array (Option Value)} {oc4 kV4 dc4 pm4 cd4 ct4 : Value}
    {f5 : Addr} {od5 an5 : Option Addr} {sl5 : Array (Option Value)} {oc5 kV5 dc5 pm5 cd5 ct5 : Value}
    {f6 : Addr} {od6 an6 : Option Addr} {sl6 : Array (Option Value)} {oc6 kV6 dc6 pm6 cd6 ct6 : Value}
    {f7 : Addr} {od7 an7 : Option Addr} {sl7 : Array (Option Value)} {oc7 kV7 dc7 pm7 cd7 ct7 : Value}
    {f8 : Addr} {od8 an8 : Option Addr} {sl8 : Array (Option Value)} {oc8 kV8 dc8 pm8 cd8 ct8 : Value}
    {f9 : Addr} {od9 an9 : Option Addr} {sl9 : Array (Option Value)} {oc9 kV9 dc9 pm9 cd9 ct9 : Value}
    {f10 : Addr} {od10 an10 : Option Addr} {sl10 : Array (Option Value)} {oc10 kV10 dc10 pm10 cd10 ct10 : Value}
    {f11 : Addr} {od11 an11 : Option Addr} {sl11 : Array (Option Value)} {oc11 kV11 dc11 pm11 cd11 ct11 : Value}
    {f12 : Addr} {od12 an12 : Option Addr} {sl12 : Array (Option Value)} {oc12 kV12 dc12 pm12 cd12 ct12 : Value}
    {f13 : Addr} {od13 an13 : Option Addr} {sl13 : Array (Option Value)} {oc13 kV13 dc13 pm13 cd13 ct13 : Value}
    {f14 : Addr} {od14 an14 : Option Addr} {sl14 : Array (Option Value)} {oc14 kV14 dc14 pm14 cd14 ct14 : Value}
    (n0 : PySem.W.nsIn K mainGlobals "passes" = some (some (.ref f0)))
    (l0 : K.lookup f0 = some ⟨oc0, od0, .func (PySem.W.fnOf "passes" "passes" (defArgs sPasses) (defBody sPasses) (defScope sPasses) .none kV0 dc0 pm0 an0 cd0 ct0), sl0⟩)
    (d0 : PySem.W.codeIn K cd0 "passes" = true)
    (k0 : PySem.W.keepIn K (.ref f0) = true)
    (n1 : PySem.W.nsIn K mainGlobals "meets" = some (some (.ref f1)))
    (l1 : K.lookup f1 = some ⟨oc1, od1, .func (PySem.W.fnOf "meets" "meets" (defArgs sMeets) (defBody sMeets) (defScope sMeets) .none kV1 dc1 pm1 an1 cd1 ct1), sl1⟩)
    (d1 : PySem.W.codeIn K cd1 "meets" = true)
    (k1 : PySem.W.keepIn K (.ref f1) = true)
    (n2 : PySem.W.nsIn K mainGlobals "field_in" = some (some (.ref f2)))
    (l2 : K.lookup f2 = some ⟨oc2, od2, .func (PySem.W.fnOf "field_in" "field_in" (defArgs sFieldIn) (defBody sFieldIn) (defScope sFieldIn) .none kV2 dc2 pm2 an2 cd2 ct2), sl2⟩)
    (d2 : PySem.W.codeIn K cd2 "field_in" = true)
    (k2 : PySem.W.keepIn K (.ref f2) = true)
    (n3 : PySem.W.nsIn K mainGlobals "fields_in" = some (some (.ref f3)))
    (l3 : K.lookup f3 = some ⟨oc3, od3, .func (PySem.W.fnOf "fields_in" "fields_in" (defArgs sFieldsIn) (defBody sFieldsIn) (defScope sFieldsIn) .none kV3 dc3 pm3 an3 cd3 ct3), sl3⟩)
    (d3 : PySem.W.codeIn K cd3 "fields_in" = true)
    (k3 : PySem.W.keepIn K (.ref f3) = true)
    (n4 : PySem.W.nsIn K mainGlobals "_law_bag" = some (some (.ref f4)))
    (l4 : K.lookup f4 = some ⟨oc4, od4, .func (PySem.W.fnOf "_law_bag" "_law_bag" (defArgs sBag) (defBody sBag) (defScope sBag) .none kV4 dc4 pm4 an4 cd4 ct4), sl4⟩)
    (d4 : PySem.W.codeIn K cd4 "_law_bag" = true)
    (k4 : PySem.W.keepIn K (.ref f4) = true)
    (n5 : PySem.W.nsIn K mainGlobals "_law_take" = some (some (.ref f5)))
    (l5 : K.lookup f5 = some ⟨oc5, od5, .func (PySem.W.fnOf "_law_take" "_law_take" (defArgs sTake) (defBody sTake) (defScope sTake) .none kV5 dc5 pm5 an5 cd5 ct5), sl5⟩)
    (d5 : PySem.W.codeIn K cd5 "_law_take" = true)
    (k5 : PySem.W.keepIn K (.ref f5) = true)
    (n6 : PySem.W.nsIn K mainGlobals "_law_alike" = some (some (.ref f6)))
    (l6 : K.lookup f6 = some ⟨oc6, od6, .func (PySem.W.fnOf "_law_alike" "_law_alike" (defArgs sAlike) (defBody sAlike) (defScope sAlike) .none kV6 dc6 pm6 an6 cd6 ct6), sl6⟩)
    (d6 : PySem.W.codeIn K cd6 "_law_alike" = true)
    (k6 : PySem.W.keepIn K (.ref f6) = true)
    (n7 : PySem.W.nsIn K mainGlobals "_law_names" = some (some (.ref f7)))
    (l7 : K.lookup f7 = some ⟨oc7, od7, .func (PySem.W.fnOf "_law_names" "_law_names" (defArgs sNames) (defBody sNames) (defScope sNames) .none kV7 dc7 pm7 an7 cd7 ct7), sl7⟩)
    (d7 : PySem.W.codeIn K cd7 "_law_names" = true)
    (k7 : PySem.W.keepIn K (.ref f7) = true)
    (n8 : PySem.W.nsIn K mainGlobals "_law_fields" = some (some (.ref f8)))
    (l8 : K.lookup f8 = some ⟨oc8, od8, .func (PySem.W.fnOf "_law_fields" "_law_fields" (defArgs sFields) (defBody sFields) (defScope sFields) .none kV8 dc8 pm8 an8 cd8 ct8), sl8⟩)
    (d8 : PySem.W.codeIn K cd8 "_law_fields" = true)
    (k8 : PySem.W.keepIn K (.ref f8) = true)
    (n9 : PySem.W.nsIn K mainGlobals "_law_tests" = some (some (.ref f9)))
    (l9 : K.lookup f9 = some ⟨oc9, od9, .func (PySem.W.fnOf "_law_tests" "_law_tests" (defArgs sTests) (defBody sTests) (defScope sTests) .none kV9 dc9 pm9 an9 cd9 ct9), sl9⟩)
    (d9 : PySem.W.codeIn K cd9 "_law_tests" = true)
    (k9 : PySem.W.keepIn K (.ref f9) = true)
    (n10 : PySem.W.nsIn K mainGlobals "_law_passes" = some (some (.ref f10)))
    (l10 : K.lookup f10 = some ⟨oc10, od10, .func (PySem.W.fnOf "_law_passes" "_law_passes" (defArgs sLawPasses) (defBody sLawPasses) (defScope sLawPasses) .none kV10 dc10 pm10 an10 cd10 ct10), sl10⟩)
    (d10 : PySem.W.codeIn K cd10 "_law_passes" = true)
    (k10 : PySem.W.keepIn K (.ref f10) = true)
    (n11 : PySem.W.nsIn K mainGlobals "_law_meets" = some (some (.ref f11)))
    (l11 : K.lookup f11 = some ⟨oc11, od11, .func (PySem.W.fnOf "_law_meets" "_law_meets" (defArgs sLawMeets) (defBody sLawMeets) (defScope sLawMeets) .none kV11 dc11 pm11 an11 cd11 ct11), sl11⟩)
    (d11 : PySem.W.codeIn K cd11 "_law_meets" = true)
    (k11 : PySem.W.keepIn K (.ref f11) = true)
    (n12 : PySem.W.nsIn K mainGlobals "_law_rows" = some (some (.ref f12)))
    (l12 : K.lookup f12 = some ⟨oc12, od12, .func (PySem.W.fnOf "_law_rows" "_law_rows" (defArgs sRows) (defBody sRows) (defScope sRows) .none kV12 dc12 pm12 an12 cd12 ct12), sl12⟩)
    (d12 : PySem.W.codeIn K cd12 "_law_rows" = true)
    (k12 : PySem.W.keepIn K (.ref f12) = true)
    (n13 : PySem.W.nsIn K mainGlobals "_law_named" = some (some (.ref f13)))
    (l13 : K.lookup f13 = some ⟨oc13, od13, .func (PySem.W.fnOf "_law_named" "_law_named" (defArgs sNamed) (defBody sNamed) (defScope sNamed) .none kV13 dc13 pm13 an13 cd13 ct13), sl13⟩)
    (d13 : PySem.W.codeIn K cd13 "_law_named" = true)
    (k13 : PySem.W.keepIn K (.ref f13) = true)
    (n14 : PySem.W.nsIn K mainGlobals "law" = some (some (.ref f14)))
    (l14 : K.lookup f14 = some ⟨oc14, od14, .func (PySem.W.fnOf "law" "law" (defArgs sLaw) (defBody sLaw) (defScope sLaw) .none kV14 dc14 pm14 an14 cd14 ct14), sl14⟩)
    (d14 : PySem.W.codeIn K cd14 "law" = true)
    (k14 : PySem.W.keepIn K (.ref f14) = true)
    (zabs : PySem.W.nsIn K mainGlobals "abs" = some none)
    (zint : PySem.W.nsIn K mainGlobals "int" = some none)
    (zrange : PySem.W.nsIn K mainGlobals "range" = some none)
    (zlen : PySem.W.nsIn K mainGlobals "len" = some none)
    (zsorted : PySem.W.nsIn K mainGlobals "sorted" = some none)
    (zall : PySem.W.nsIn K mainGlobals "all" = some none)
    (zrepr : PySem.W.nsIn K mainGlobals "repr" = some none)
    (zdict : PySem.W.nsIn K mainGlobals "dict" = some none)
    (zlist : PySem.W.nsIn K mainGlobals "list" = some none)
    (zset : PySem.W.nsIn K mainGlobals "set" = some none) :
    ∃ fd : FuncData, (∀ (s : Shared) (v : Value), BindsTo s fd ⟨[v], []⟩ [("_law_script", v)]) ∧ ∀ base : Heap, K.In base → base.Ns mainGlobals mg → FnG P w K mg base CX0 7 fa fd ["_law_script"] (spLaw K) := by
  have e := hfa.symm.trans (PySem.W.mg_of X G n14)
  cases e
  have F0 := fun_mk (st := sPasses) l0 d0 k0
  have b0 := F0.binds (ps := ["row", "test"]) fun _ _ _ _ _ _ us hl => match us, hl with | [_, _], _ => rfl
  have F1 := fun_mk (st := sMeets) l1 d1 k1
  have b1 := F1.binds (ps := ["row", "tests"]) fun _ _ _ _ _ _ us hl => match us, hl with | [_, _], _ => rfl
  have F2 := fun_mk (st := sFieldIn) l2 d2 k2
  have b2 := F2.binds (ps := ["test"]) fun _ _ _ _ _ _ us hl => match us, hl with | [_], _ => rfl
  have F3 := fun_mk (st := sFieldsIn) l3 d3 k3
  have b3 := F3.binds (ps := ["tests"]) fun _ _ _ _ _ _ us hl => match us, hl with | [_], _ => rfl
  have F4 := fun_mk (st := sBag) l4 d4 k4
  have b4 := F4.binds (ps := ["_law_script"]) fun _ _ _ _ _ _ us hl => match us, hl with | [_], _ => rfl
  have F5 := fun_mk (st := sTake) l5 d5 k5
  have b5 := F5.binds (ps := ["_law_bag_here", "_law_many"]) fun _ _ _ _ _ _ us hl => match us, hl with | [_, _], _ => rfl
  have F6 := fun_mk (st := sAlike) l6 d6 k6
  have b6 := F6.binds (ps := ["_law_found", "_law_due"]) fun _ _ _ _ _ _ us hl => match us, hl with | [_, _], _ => rfl
  have F7 := fun_mk (st := sNames) l7 d7 k7
  have b7 := F7.binds (ps := ["_law_bag_here", "_law_many"]) fun _ _ _ _ _ _ us hl => match us, hl with | [_, _], _ => rfl
  have F8 := fun_mk (st := sFields) l8 d8 k8
  have b8 := F8.binds (ps := ["_law_bag_here", "_law_tables", "_law_rare"]) fun _ _ _ _ _ _ us hl => match us, hl with | [_, _, _], _ => rfl
  have F9 := fun_mk (st := sTests) l9 d9 k9
  have b9 := F9.binds (ps := ["_law_bag_here", "_law_fields_here", "_law_top"]) fun _ _ _ _ _ _ us hl => match us, hl with | [_, _, _], _ => rfl
  have F10 := fun_mk (st := sLawPasses) l10 d10 k10
  have b10 := F10.binds (ps := ["_law_row", "_law_test"]) fun _ _ _ _ _ _ us hl => match us, hl with | [_, _], _ => rfl
  have F11 := fun_mk (st := sLawMeets) l11 d11 k11
  have b11 := F11.binds (ps := ["_law_row", "_law_tests_here"]) fun _ _ _ _ _ _ us hl => match us, hl with | [_, _], _ => rfl
  have F12 := fun_mk (st := sRows) l12 d12 k12
  have b12 := F12.binds (ps := ["_law_bag_here", "_law_tables", "_law_top", "_law_strangers"]) fun _ _ _ _ _ _ us hl => match us, hl with | [_, _, _, _], _ => rfl
  have F13 := fun_mk (st := sNamed) l13 d13 k13
  have b13 := F13.binds (ps := ["_law_test"]) fun _ _ _ _ _ _ us hl => match us, hl with | [_], _ => rfl
  have F14 := fun_mk (st := sLaw) l14 d14 k14
  have b14 := F14.binds (ps := ["_law_script"]) fun _ _ _ _ _ _ us hl => match us, hl with | [_], _ => rfl
  have m0 : mg "passes" = some (.ref f0) := PySem.W.mg_of X G n0
  have m1 : mg "meets" = some (.ref f1) := PySem.W.mg_of X G n1
  have m2 : mg "field_in" = some (.ref f2) := PySem.W.mg_of X G n2
  have m3 : mg "fields_in" = some (.ref f3) := PySem.W.mg_of X G n3
  have m4 : mg "_law_bag" = some (.ref f4) := PySem.W.mg_of X G n4
  have m5 : mg "_law_take" = some (.ref f5) := PySem.W.mg_of X G n5
  have m6 : mg "_law_alike" = some (.ref f6) := PySem.W.mg_of X G n6
  have m7 : mg "_law_names" = some (.ref f7) := PySem.W.mg_of X G n7
  have m8 : mg "_law_fields" = some (.ref f8) := PySem.W.mg_of X G n8
  have m9 : mg "_law_tests" = some (.ref f9) := PySem.W.mg_of X G n9
  have m10 : mg "_law_passes" = some (.ref f10) := PySem.W.mg_of X G n10
  have m11 : mg "_law_meets" = some (.ref f11) := PySem.W.mg_of X G n11
  have m12 : mg "_law_rows" = some (.ref f12) := PySem.W.mg_of X G n12
  have m13 : mg "_law_named" = some (.ref f13) := PySem.W.mg_of X G n13
  have yabs : mg "abs" = none := PySem.W.mg_none_of X G zabs
  have yint : mg "int" = none := PySem.W.mg_none_of X G zint
  have yrange : mg "range" = none := PySem.W.mg_none_of X G zrange
  have ylen : mg "len" = none := PySem.W.mg_none_of X G zlen
  have ysorted : mg "sorted" = none := PySem.W.mg_none_of X G zsorted
  have yall : mg "all" = none := PySem.W.mg_none_of X G zall
  have yrepr : mg "repr" = none := PySem.W.mg_none_of X G zrepr
  have ydict : mg "dict" = none := PySem.W.mg_none_of X G zdict
  have ylist : mg "list" = none := PySem.W.mg_none_of X G zlist
  have yset : mg "set" = none := PySem.W.mg_none_of X G zset
  refine ⟨PySem.W.fnOf "law" "law" (defArgs sLaw) (defBody sLaw) (defScope sLaw) .none kV14 dc14 pm14 an14 cd14 ct14, fun s v => .of_eq rfl, fun base _ _ => ?_⟩
  have T : TakeF P w K mg base f5 _ := ⟨ok_take F5 yint, b5, m5, k5⟩
  have N : NamesF P w K mg base f7 _ := ⟨ok_names F7 T yint yrange, b7, m7, k7⟩
  exact ok_law F14 ⟨ok_bag F4 yabs, b4, m4, k4⟩ T N ⟨ok_fields F8 T N ylen yrange, b8, m8, k8⟩ ⟨ok_rows F12 T N ylen ysorted ydict ylist, b12, m12, k12⟩ ⟨ok_tests F9 T ylen yrange yint ysorted, b9, m9, k9⟩
    ⟨ok_meets F1 (ok_sPasses F0 b0 m0 k0 4) b0 m0 k0 yall, b1, m1, k1⟩ ⟨ok_lawMeets F11 (ok_sLawPasses F10 b10 m10 k10 4) b10 m10 k10, b11, m11, k11⟩ ⟨ok_fieldsIn F3 (ok_sFieldIn F2 b2 m2 k2 4) b2 m2 k2 ysorted, b3, m3, k3⟩
    ⟨ok_sNamed F13 b13 m13 k13 4, b13, m13, k13⟩ ⟨ok_alike F6 yrepr, b6, m6, k6⟩ yrange yint yrepr ysorted yset
theorem walk {l : PySem.W.OpenLaw} {q : Program} {loose : List Str} {XP : (Str → Option Value) → Heap → Prop} {YP : World → Heap → Prop} {d : DefRec} {K : Params → PySem.W.Frag} (hn : l.most = some 63) (hdf : d.params.defaults = [])
    (hY : ∀ (w : World) (h : Heap), YP w h → (K w.params).In h)
    (F : ∀ (w : World) (mg : Str → Option Value) (fa : Addr) (h : Heap), (K w.params).In h → h.Ns mainGlobals mg → mg d.name = some (.ref fa) →
      ∃ fd : FuncData, (∀ (s : Shared) (u : Value), BindsTo s fd ⟨[u], []⟩ [("_law_script", u)]) ∧ ∀ base : Heap, (K w.params).In base → base.Ns mainGlobals mg → FnG l.prog w (K w.params) mg base CX0 7 fa fd ["_law_script"] (spLaw (K w.params))) :
    PySem.W.WalkO q loose XP YP l.row.toRowW d [] (fun f vs => PySem.call f vs) :=
  walk_ofG (n := 63) (k := 7) (x := "_law_script") (CX := fun _ => CX0) (sp := fun w => spLaw (K w.params)) hn (by decide) hdf ⟨rfl, by decide, by decide⟩ hY F (fun _ _ a ns hl _ hS => ⟨a, ns, rfl, hS, hl, fun _ => rfl⟩) fun _ _ _ _ _ z => z
end E

set_option Elab.async false
set_option linter.all false
set_option maxRecDepth 100000
open PySem PySem.W PyProof.Rows in
set_option maxRecDepth 100000 in
set_option maxHeartbeats 0 in
theorem PySem.Challenge.cw_endchecks_k13_tests_met_holds : PySem.Challenge.rw_endchecks_k13_tests_met.Holds := by
  w_on; o_law; k_head; (case hw => w_witness2)
  k_fill
  refine E.walk (l := PySem.Challenge.rw_endchecks_k13_tests_met) rfl rfl (fun w h Y => PySem.W.kIn_of Y) ?F
  case F =>
    intro w mg fa h KX G hmg
    refine' E.all_mk KX G hmg ?n0 ?l0 ?d0 ?k0 ?n1 ?l1 ?d1 ?k1 ?n2 ?l2 ?d2 ?k2 ?n3 ?l3 ?d3 ?k3 ?n4 ?l4 ?d4 ?k4 ?n5 ?l5 ?d5 ?k5 ?n6 ?l6 ?d6 ?k6 ?n7 ?l7 ?d7 ?k7 ?n8 ?l8 ?d8 ?k8 ?n9 ?l9 ?d9 ?k9 ?n10 ?l10 ?d10 ?k10 ?n11 ?l11 ?d11 ?k11 ?n12 ?l12 ?d12 ?k12 ?n13 ?l13 ?d13 ?k13 ?n14 ?l14 ?d14 ?k14 ?zabs ?zint ?zrange ?zlen ?zsorted ?zall ?zrepr ?zdict ?zlist ?zset
    (case n0 => k_is)
    (case l0 => k_is)
    (case d0 => k_is)
    (case k0 => k_is)
    (case n1 => k_is)
    (case l1 => k_is)
    (case d1 => k_is)
    (case k1 => k_is)
    (case n2 => k_is)
    (case l2 => k_is)
    (case d2 => k_is)
    (case k2 => k_is)
    (case n3 => k_is)
    (case l3 => k_is)
    (case d3 => k_is)
    (case k3 => k_is)
    (case n4 => k_is)
    (case l4 => k_is)
    (case d4 => k_is)
    (case k4 => k_is)
    (case n5 => k_is)
    (case l5 => k_is)
    (case d5 => k_is)
    (case k5 => k_is)
    (case n6 => k_is)
    (case l6 => k_is)
    (case d6 => k_is)
    (case k6 => k_is)
    (case n7 => k_is)
    (case l7 => k_is)
    (case d7 => k_is)
    (case k7 => k_is)
    (case n8 => k_is)
    (case l8 => k_is)
    (case d8 => k_is)
    (case k8 => k_is)
    (case n9 => k_is)
    (case l9 => k_is)
    (case d9 => k_is)
    (case k9 => k_is)
    (case n10 => k_is)
    (case l10 => k_is)
    (case d10 => k_is)
    (case k10 => k_is)
    (case n11 => k_is)
    (case l11 => k_is)
    (case d11 => k_is)
    (case k11 => k_is)
    (case n12 => k_is)
    (case l12 => k_is)
    (case d12 => k_is)
    (case k12 => k_is)
    (case n13 => k_is)
    (case l13 => k_is)
    (case d13 => k_is)
    (case k13 => k_is)
    (case n14 => k_is)
    (case l14 => k_is)
    (case d14 => k_is)
    (case k14 => k_is)
    (case zabs => k_is)
    (case zint => k_is)
    (case zrange => k_is)
    (case zlen => k_is)
    (case zsorted => k_is)
    (case zall => k_is)
    (case zrepr => k_is)
    (case zdict => k_is)
    (case zlist => k_is)
    (case zset => k_is)
#print axioms PySem.Challenge.cw_endchecks_k13_tests_met_holds

