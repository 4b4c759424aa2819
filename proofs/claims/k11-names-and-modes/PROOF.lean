import PyProof.Rows.All
import Wide.All
import OpenK.AllK
import Wide.FinOn
import HandS.ForMost
import HandS.Flow
import HandS.Exc
import PyProof.ReprRoads
import HandS.Deep
import HandS.WordsDict
import PyProof.EqKinds
import PyProof.TupleKey
import PyProof.FactsAll.NoneType
import PyProof.FactsAll.bool
import KE.KDictCopyH
import KE.KDictOf
import HandS.TupLen
import HandS.Conv
import HandS.Walk
import HandS.IsInst
import HandS.Evl
import HandS.StrMore
import HandS.More
import PyProof.Rows.StrMeet
import HandS.ExcCtx
import HandS.Set
import HandS.SetBool
import HandS.SetFor
import HandS.Strs
import PyProof.Rows.SortShellAny
import HandS.DictComp
import HandS.ForExc
import HandS.ExcInit
import HandS.HotCalls
import HandS.ExcInitHot
import HandS.DeepEq
import HandS.ExcIs
import HandS.ExcField
import KE.KExcIs
import HandS.New0
import KE.SortData
import HandS.Style
import HandS.Defaults
import KE.GoesMore
import HandS.RaiseMore
import KE.GoesZip
import KE.GoesEnum
import HandS.Comp
import PyProof.SeqIndex
import PyProof.StrOps2
import PySem.Challenge.RW_endchecks_k11_names_and_modes
set_option Elab.async false
set_option linter.all false
set_option maxRecDepth 100000
set_option maxHeartbeats 4000000
namespace EG
open PySem PySem.Spec PyProof.Rows L2
/-- a def's promise where no repr is under way -/
structure FnG (P : Program) (w : World) (K : PySem.W.Frag) (mg : Str → Option Value) (base : Heap)
    (CX : CXT) (k : Nat) (f : Addr) (fd : FuncData) (ps : List Str) (sp : Sp) : Prop where
  len : ∀ vs H Q E, sp vs H Q E → vs.length = ps.length
  run : ∀ (A : Around) (out : List Env) (s : Shared) (H : Hp) (ar : Args) (us : List Value) (vs : List V) (Q : VK) (E : XK),
    A.guards = some [] → Room k A → Env0 P w K mg base A out s H → BindsTo s fd ar (ps.zip us) → Vals vs us →
    sp vs H Q E → codeAny (model P w) A (.call (.ref f) ar) (CR CX out P w H s Q E) s
section
variable {CX : CXT} {P : Program} {w : World} {K : PySem.W.Frag} {mg : Str → Option Value} {base : Heap} {k : Nat} {f : Addr}
theorem FnG.mono {j : Nat} {fd : FuncData} {ps : List Str} {sp : Sp} (F : FnG P w K mg base CX j f fd ps sp) (h : j ≤ k) :
    FnG P w K mg base CX k f fd ps sp :=
  ⟨F.len, fun A o s H ar us vs Q E g r => F.run A o s H ar us vs Q E g (r.mono h)⟩
theorem FnG.of {fd : FuncData} {ps : List Str} {sp : Sp} (F : FnOk P w K mg base CX k f fd ps sp) :
    FnG P w K mg base CX k f fd ps sp :=
  ⟨F.len, fun A o s H ar us vs Q E _ r => F.run A o s H ar us vs Q E r⟩
theorem fn_ofG {nm qn : Str} {prm : Arguments} {bd : List Stmt} {sc : Scope} {dV kV doc pm cdv ct oc : Value} {an od : Option Addr}
    {osl : Array (Option Value)} {N ps : List Str} {sp : Sp}
    (lk : K.lookup f = some ⟨oc, od, .func (PySem.W.fnOf nm qn prm bd sc dV kV doc pm an cdv ct), osl⟩)
    (hcd : PySem.W.codeIn K cdv qn = true) (S : FnScope N ps sc) (len : ∀ vs H Q E, sp vs H Q E → vs.length = ps.length)
    (hb : ∀ (A : Around) (out : List Env) (s : Shared) (H : Hp) (vs : List V) (Q : VK) (E : XK), A.guards = some [] →
      Room k (A.deeper (envOfC qn sc s.heap.objs.size f cdv)) → sp vs H Q E →
      ∃ t, PSs (cxOf CX P w K mg base N qn sc f cdv A out s H E) bd t ∧ t { nx := fun _ H' => Q .non H', rt := Q } (start N vs) H) :
    FnG P w K mg base CX (k + 1) f (PySem.W.fnOf nm qn prm bd sc dV kV doc pm an cdv ct) ps sp := by
  refine ⟨len, fun A out s H ar us vs Q E hg hr e0 bnd rv hsp => ?_⟩
  -- the promise of this one A: by fn_of over a promise that knows A is not wanted; the run is laid out anew
  have ln := len _ _ _ _ hsp
  have kx : K.In s.heap := e0.mod.kin.keeps fun b o z => (e0.bs b o z).1
  have nl : s.heap.NoLimit := e0.mod.nolimit.keeps fun b o z => (e0.bs b o z).1
  have kd : ∀ y ∈ ps.zip us, sc.names.lookup y.1 = some .local ∨
      (sc.names.lookup y.1 = some .cell ∧ ((cellsFrom (s.heap.objs.size + 1) sc.names []).lookup y.1).isSome = true) := by
    rintro ⟨n, v⟩ hy
    cases S.par n (List.of_mem_zip hy).1 with
    | inl q => exact Or.inl q
    | inr q => exact Or.inr ⟨q, PySem.W.cellsFrom_some _ _ _ (Or.inl q)⟩
  refine codeAny_call_function hr.depth (kx _ _ lk) rfl S.co S.gen rfl (PySem.W.codeRec_of kx hcd) (bnd _ _ _ _ ?_)
  refine wpAny_newFunctionEnv_cells S.kind kd fun env he s1 x => ?_
  subst he
  refine ⟨nl.keeps x.toInCall.keep, codeAny_func ?_⟩
  obtain ⟨t, ht, tq⟩ := hb A out s H vs Q E hg (hr.deeper _) hsp
  have I : Inv (cxOf CX P w K mg base N qn sc f cdv A out s H E) [] (start N vs) H s1 := inv_start S hr.hd e0 ln rv x
  refine wpAny_mono (ht.run [] s1 (start N vs) H _ I tq) (fun fl s' z => ?_) fun _ _ z => z
  cases fl with
  | ret u =>
    obtain ⟨v, σ', H', J, r, q⟩ := z
    exact (⟨v, H', J.os, J.bare, J.base, J.hok, r, q⟩ : CE out P w H s Q u s')
  | next =>
    obtain ⟨σ', H', J, q⟩ := z
    exact (⟨V.non, H', J.os, J.bare, J.base, J.hok, rfl, q⟩ : CE out P w H s Q Value.none s')
  | brk =>
    obtain ⟨_, _, _, q⟩ := z
    exact q.elim
  | cont =>
    obtain ⟨_, _, _, q⟩ := z
    exact q.elim
theorem okG {x qn : Str} {st : Stmt} {fd : FuncData} {N ps : List Str} {sp : Sp} (F : Fun K x qn st f fd) (S : FnScope N ps (defScope st))
    (len : ∀ vs H Q E, sp vs H Q E → vs.length = ps.length)
    (hb : ∀ (cdv : Value) (A : Around) (out : List Env) (s : Shared) (H : Hp) (vs : List V) (Q : VK) (E : XK), A.guards = some [] →
      Room k (A.deeper (envOfC qn (defScope st) s.heap.objs.size f cdv)) → sp vs H Q E →
      ∃ t, PSs (cxOf CX0 P w K mg base N qn (defScope st) f cdv A out s H E).nox (defBody st) t ∧
        t { nx := fun _ H' => Q .non H', rt := Q } (start N vs) H) : FnG P w K mg base CX0 (k + 1) f fd ps sp := by
  obtain ⟨oc, od, kV, doc, pm, an, cdv, ct, osl, rfl, lk, hc⟩ := F.ex
  refine fn_ofG lk hc S len fun A out s H vs Q E hg hr h => ?_
  obtain ⟨t, h1, h2⟩ := hb cdv A out s H vs Q E hg hr h
  exact ⟨t, h1.nox, h2⟩
end
section
variable {X : Cx} {CX : CXT} {k : Nat} {f : Addr} {fd : FuncData} {ps : List Str} {sp : Sp} {E : XK} {x : Str} {p pos : Pos} {e : Expr} {es : List Expr} {t : TA} {ds : List Value} {dvs : List V}
theorem run_fnG {pins : List (Addr × Obj)} {σ : L2.St} {H : Hp} {s : Shared} {Q : VK} {us : List Value} {vs : List V} (F : FnG X.prog X.w X.K X.mg X.base CX k f fd ps sp)
    (gd : X.A.guards = some []) (hr : Room k X.A) (hb : Binds X.K fd ps ds) (hd : Vals dvs ds) (hx : Passes CX X E)
    (I : Inv X pins σ H s) (r : Vals vs us) (h : sp (vs ++ dvs) H Q E) : wpAny (model X.prog X.w) X.A (call (.ref f) us) (EP X pins σ Q) X.xe s := by
  have rr : Vals (vs ++ dvs) (us ++ ds) := r.append hd
  have ln : (us ++ ds).length = ps.length := rr.length.symm.trans (F.len _ _ _ _ h)
  refine wpAny_call (codeAny_mono (F.run X.A X.stack s H ⟨us, []⟩ _ _ Q E gd hr I.env0 (hb s us I.kIn ln) rr h) fun z s' hq => ?_)
  cases z with
  | error er => exact hx pins σ H s er s' I hq
  | ok fl =>
    cases fl with
    | ret u => exact I.after hq
    | next => exact hq.elim
    | brk => exact hq.elim
    | cont => exact hq.elim
theorem pe_callG (F : FnG X.prog X.w X.K X.mg X.base CX k f fd ps sp) (gd : X.A.guards = some []) (hr : Room k X.A) (hg : Gl X x) (hm : X.mg x = some (.ref f))
    (hk : PySem.W.keepIn X.K (.ref f) = true) (hb : Binds X.K fd ps ds) (hd : Vals dvs ds) (hx : Passes CX X E) (ha : PA X (e :: es) t)
    (hdb : (x == ("__debug__" : Str)) = false := by decide) (he : starEach (e :: es) X.env = (false, eval e X.env) :: starEach es X.env := by rfl)
    (hpl : (backTo pos (starEach es X.env)).any (·.1) = false := by rfl) : PE X (.Call (.Name x p) (e :: es) [] pos) (tCall sp dvs E t) :=
  ⟨fun pins s σ H Q I h => wpAny_Call_Name_kw (ld_glob I hg hm (PySem.W.callWith_K (h₀ := X.base) I.ok.mod.kin hk
    (thn (ha.run pos pins s σ H _ I h) fun us s1 ⟨vs, H1, I1, r, q⟩ => ⟨I1.kIn, run_fnG F gd hr hb hd hx I1 r q⟩) he hpl) hdb)⟩
end
theorem law_callG {P : Program} {w : World} {K : PySem.W.Frag} {mg mb : Str → Option Value} {CX : CXT} {k : Nat} {fa a : Addr} {fd : FuncData} {x : Str} {sp : Sp}
    {s1 : Shared} {vs : List Value} {ns : List Int} (KX : K.In s1.heap) (hns : s1.heap.Ns mainGlobals mg) (hb : s1.heap.Ns builtinsNs mb)
    (hbb : ∀ y : Str, y ≠ "__name__" → mb y = bootBuiltins y) (hlim : s1.heap.NoLimit) (hg : s1.gens = #[])
    (ha : s1.heap.get? a = some { cls := .type "list", data := .seq vs.toArray }) (hi : IntsAre vs ns) (hl : ns.length ≤ sizeLine) (hr : Room k callerA)
    (F : ∀ base : Heap, K.In base → base.Ns mainGlobals mg → FnG P w K mg base CX k fa fd [x] sp)
    (hbd : ∀ (s : Shared) (u : Value), BindsTo s fd ⟨[u], []⟩ [(x, u)])
    (hsp : ∀ H : Hp, Only H → SqL K H a (ns.map V.int) → sp [.ref a] H (fun v _ => v = .bl true) fun _ _ _ => False)
    (hCX : ∀ H e s', CX [] H s1 (fun _ _ _ => False) e s' → False) :
    codeAny (model P w) callerA (.call (.ref fa) ⟨[.ref a], []⟩)
      (fun r s' => r = .ok (.ret (.bool true)) ∧ OldK s1.heap s'.heap ∧ s'.os = s1.os ∧ AllBare s'.gens) s1 := by
  have rv := vals_ints hi
  have lv := hi.length
  have main : ∀ H : Hp, Only H → SqL K H a (ns.map V.int) → HOk P w H s1.heap → (∀ b, H b ≠ none → b = a) → (H a ≠ none → K.lookup a = none) →
      codeAny (model P w) callerA (.call (.ref fa) ⟨[.ref a], []⟩)
        (fun r s' => r = .ok (.ret (.bool true)) ∧ OldK s1.heap s'.heap ∧ s'.os = s1.os ∧ AllBare s'.gens) s1 := by
    intro H only sq hok onlyA freeK
    have isA : ∀ {b : Addr} {u : HO}, H b = some u → b = a := fun {b u} q => onlyA b (by rw [q]; exact Option.some_ne_none u)
    have hid : ∀ {b : Addr} {o : Obj}, s1.heap.get? b = some o → H b = none → (hidT s1.heap H).get? b = some o := fun z n => hidT_get z n
    have nod : ∀ {b : Addr} {o : Obj} {es : Array DictEntry} {ep : Nat}, s1.heap.get? b = some o → o.data = .dict es ep → H b = none := by
      intro b o es ep z d
      cases q : H b with
      | none => rfl
      | some u =>
        have eb := isA q
        subst eb
        rw [ha] at z
        cases z
        exact Data.noConfusion (show Data.seq vs.toArray _ = Data.dict es ep from d)
    have ns' : ∀ {b : Addr} {m : Str → Option Value}, s1.heap.Ns b m → (hidT s1.heap H).Ns b m := by
      rintro b m ⟨o, es, ep, z, d, r⟩
      exact ⟨o, es, ep, hid z (nod z d), d, r⟩
    have kb : K.In (hidT s1.heap H) := by
      intro b o z
      refine hid (KX b o z) ?_
      cases q : H b with
      | none => rfl
      | some u =>
        have eb := isA q
        subst eb
        rw [freeK (by rw [q]; exact Option.some_ne_none u)] at z
        cases z
    obtain ⟨mc, c1, c2⟩ := hlim
    have md : Mod K mg (hidT s1.heap H) := ⟨kb, ns' hns, ⟨mb, ns' hb, hbb⟩, ⟨mc, ns' c1, c2⟩⟩
    have e0 : Env0 P w K mg (hidT s1.heap H) callerA [] s1 H :=
      ⟨rfl, md, fun b o z => of_hidT z, Nat.le_of_eq (hidT_size _ _), trivial, fun b z => absurd (show b ∈ ([] : List Addr) from z) List.not_mem_nil, hok, .of_eq hg⟩
    refine codeAny_mono ((F _ kb (ns' hns)).run callerA [] s1 H ⟨[.ref a], []⟩ [.ref a] [.ref a] _ _ rfl hr e0 (hbd s1 (.ref a)) (.cons rfl .nil) (hsp H only sq)) fun r s' h => ?_
    cases r with
    | error e => exact (hCX H e s' h).elim
    | ok fl =>
      cases fl with
      | next => exact h.elim
      | brk => exact h.elim
      | cont => exact h.elim
      | ret u =>
        obtain ⟨v, H', eos, bare, un, hok', r', qv⟩ := h
        have qv' : v = .bl true := qv
        subst qv'
        obtain rfl : u = Value.bool true := r'
        refine ⟨rfl, OldK.of_keep fun b o z => ?_, eos, bare⟩
        cases q : H b with
        | none => exact un.keep b o z q (fun y => absurd (show b ∈ ([] : List Addr) from y) List.not_mem_nil) List.not_mem_nil
        | some u =>
          rcases only b with y | ⟨ob, xs, y⟩
          · rw [q] at y
            cases y
          · have y1 := (hok b _ y).1
            have y2 := (hok' b _ (un.frzs b ob _ y)).1
            rw [z] at y1
            cases y1
            exact y2
  cases hk : K.lookup a with
  | some o =>
    have z := KX a o hk
    rw [ha] at z
    cases z
    refine main (fun _ => none) (fun _ => Or.inl rfl) (Or.inr ⟨_, vs.toArray, _, hk, rfl, rfl, rfl, ?_, by simpa using rv⟩) ?_ (fun b y => absurd rfl y) fun y => absurd rfl y
    · rw [List.size_toArray, lv]
      exact hl
    · intro b u y
      have y' : (none : Option HO) = some u := y
      cases y'
  | none =>
    refine main (fun b => if b = a then some (.frz { cls := .type "list", data := .seq vs.toArray } (.lst (ns.map V.int))) else none) ?_
      (Or.inl (Or.inr ⟨{ cls := .type "list", data := .seq vs.toArray }, if_pos rfl⟩)) ?_ ?_ fun _ => hk
    · intro b
      by_cases c : b = a
      · exact Or.inr ⟨_, _, if_pos c⟩
      · exact Or.inl (if_neg c)
    · intro b u y
      by_cases c : b = a
      · have y' := (if_pos c).symm.trans y
        cases y'
        subst c
        exact ⟨ha, by rw [List.length_map]; exact hl, vs, _, rv, ha⟩
      · have y' := (if_neg c).symm.trans y
        cases y'
    · intro b y
      by_cases c : b = a
      · exact c
      · exact absurd (if_neg c) y
theorem walk_ofG {l : PySem.W.OpenLaw} {n k : Nat} {q : Program} {loose : List Str} {XP : (Str → Option Value) → Heap → Prop} {YP : World → Heap → Prop} {d : DefRec}
    {K : Params → PySem.W.Frag} {CX : World → CXT} {sp : World → Sp} {x : Str} (hn : l.most = some n) (hn2 : n ≤ sizeLine) (hdf : d.params.defaults = []) (hr : Room k callerA)
    (hY : ∀ (w : World) (h : Heap), YP w h → (K w.params).In h)
    (F : ∀ (w : World) (mg : Str → Option Value) (fa : Addr) (h : Heap), (K w.params).In h → h.Ns mainGlobals mg → mg d.name = some (.ref fa) →
      ∃ fd : FuncData, (∀ (s : Shared) (u : Value), BindsTo s fd ⟨[u], []⟩ [(x, u)]) ∧
        ∀ base : Heap, (K w.params).In base → base.Ns mainGlobals mg → FnG l.prog w (K w.params) mg base (CX w) k fa fd [x] (sp w))
    (hsp : ∀ (w : World) (H : Hp) (a : Addr) (ns : List Int), ns.length ≤ n → Only H → SqL (K w.params) H a (ns.map V.int) →
      sp w [.ref a] H (fun v _ => v = .bl true) fun _ _ _ => False)
    (hCX : ∀ (w : World) (H : Hp) (s : Shared) (e : Value) (s' : Shared), CX w [] H s (fun _ _ _ => False) e s' → False) :
    PySem.W.WalkO q loose XP YP l.row.toRowW d [] (fun f vs => PySem.call f vs) := by
  refine Att.attach_call hn hdf fun w s0 s1 mg mb fa o pm cd doc a vs ns G Y ho hd hcd hmg hobj hints hlen hg => ?_
  have KX := hY w _ Y
  obtain ⟨fd, bd, hF⟩ := F w mg fa _ KX G.T.g hmg
  exact law_callG KX G.T.g G.T.b G.T.builtins G.T.nolimit hg hobj hints (Nat.le_trans hlen hn2) hr hF bd (fun H hO hS => hsp w H a ns hlen hO hS) fun H e s' => hCX w H s1 e s'
end EG
set_option Elab.async false
set_option linter.all false
set_option pp.maxSteps 400
set_option maxRecDepth 100000
set_option maxHeartbeats 4000000
namespace EM
open PySem PySem.Spec PyProof.Rows L2 SeqAt
inductive MK where | int (i : Int) | str (x : Str) | non | uni
deriving DecidableEq
def isM (h : Heap) : MK → Value → Prop
  | .int i, v => (∃ t, v = .int i t) ∨ ∃ b : Bool, v = .bool b ∧ i = if b then 1 else 0
  | .str x, v => ∃ t, v = .str x t
  | .non, v => v = .none
  | .uni, v => ∃ a, v = .ref a ∧ IsTup h a #[]
section
variable {P : Program} {w : World} {A : Around} {E : Value → Shared → Prop} {s : Shared}
abbrev unitH : Int := reduceHash (Builtin.Tuple.tupleHashOf [])
def noneH : Int := 4238894112
def hashM (w : World) : MK → Int
  | .int i => hashInt i
  | .str x => hashStr w x
  | .non => noneH
  | .uni => unitH
theorem tup_key {h : Heap} {a : Addr} (x : IsTup h a #[]) : IsTupleKey (mixKind P w) h [] a := by
  obtain ⟨o, h1, h2, n, h3⟩ := x
  exact ⟨o, #[], n, h1, h2, h3, .nil⟩
theorem hash_none {Q : Int → Shared → Prop} (h : ∀ t, Q noneH { s with toks := t }) : wpAny (model P w) A (pyHash .none) Q E s := by
  unfold pyHash pyHashByItsType
  have hv : [Value.none].any Value.onHeap = false := rfl
  refine wpAny_bind (wpAny_cRoomFor_byValue hv ?_)
  have hT : s.TypeIs .none "NoneType" := rfl
  refine wpAny_bind (wpAny_specialOf hT F.slot_NoneType_hash.lookup ?_)
  show wpAny _ _ (if (some (Value.builtin "NoneType.__hash__") == some Value.none) = true then _ else _) Q E s
  rw [if_neg (by rw [beq_builtin_none]; exact Bool.false_ne_true)]
  refine wpAny_bind (wpAny_specialOf hT F.slot_NoneType_hash.lookup ?_)
  show wpAny _ _ (callSpecialIfBoundUnlessNone? .none "__hash__" _ >>= _) Q E s
  refine wpAny_bind (wpAny_callSpecialIfBoundUnlessNone?_slot hT F.slot_NoneType_hash
    (wpAny_call_entry F.slot_NoneType_hash hT F.entry_NoneType_hash
      (show wpAny _ _ (do ret (← mkInt 0xFCA86420)) _ _ s from wpAny_ret_mkInt ?_) (F.args_NoneType_hash_1 _)))
  exact wpAny_pure (h _)
theorem hash_bool {b : Bool} {Q : Int → Shared → Prop} (h : ∀ t, Q (hashInt (if b then 1 else 0)) { s with toks := t }) : wpAny (model P w) A (pyHash (.bool b)) Q E s := by
  unfold pyHash pyHashByItsType
  have hv : [Value.bool b].any Value.onHeap = false := rfl
  refine wpAny_bind (wpAny_cRoomFor_byValue hv ?_)
  have hT : s.TypeIs (.bool b) "bool" := rfl
  refine wpAny_bind (wpAny_specialOf hT F.slot_bool_hash.lookup ?_)
  show wpAny _ _ (if (some (Value.builtin "int.__hash__") == some Value.none) = true then _ else _) Q E s
  rw [if_neg (by rw [beq_builtin_none]; exact Bool.false_ne_true)]
  refine wpAny_bind (wpAny_specialOf hT F.slot_bool_hash.lookup ?_)
  show wpAny _ _ (callSpecialIfBoundUnlessNone? (.bool b) "__hash__" _ >>= _) Q E s
  refine wpAny_bind (wpAny_callSpecialIfBoundUnlessNone?_slot hT F.slot_bool_hash
    (wpAny_call_entry F.slot_bool_hash hT F.entry_int_hash
      (show wpAny _ _ (do ret (← mkInt (rawHash (if b then 1 else 0)))) _ _ s from wpAny_ret_mkInt ?_) (F.args_int_hash_1 _)))
  cases b <;> exact wpAny_pure (h _)
theorem hash_M {k : MK} {v : Value} {Q : Int → Shared → Prop} (hu : A.units < cLine) (hk : isM s.heap k v) (h : ∀ t, Q (hashM w k) { s with toks := t }) : wpAny (model P w) A (pyHash v) Q E s := by
  cases k with
  | int i =>
    rcases hk with ⟨t, rfl⟩ | ⟨b, rfl, rfl⟩
    · exact wpAny_pyHash_int (h _)
    · exact hash_bool h
  | str x =>
    obtain ⟨t, rfl⟩ := hk
    exact wpAny_pyHash_str (h _)
  | non =>
    cases hk
    exact hash_none h
  | uni =>
    obtain ⟨a, rfl, ht⟩ := hk
    exact wpAny_pyHash_tuple hu (tup_key (P := P) (w := w) ht) (h _)
theorem quiet_M {k : MK} {v : Value} {Q : Bool → Shared → Prop} (hk : isM s.heap k v) (h : Q true s) : wpAny (model P w) A (eqIsQuiet 8 v) Q E s := by
  cases k with
  | int i =>
    rcases hk with ⟨t, rfl⟩ | ⟨b, rfl, rfl⟩ <;> (rw [eqIsQuiet_byValue _ rfl]; exact wpAny_pure h)
  | str x =>
    obtain ⟨t, rfl⟩ := hk
    rw [eqIsQuiet_byValue _ rfl]; exact wpAny_pure h
  | non =>
    cases hk
    rw [eqIsQuiet_byValue _ rfl]; exact wpAny_pure h
  | uni =>
    obtain ⟨a, rfl, ht⟩ := hk
    exact wpAny_eqIsQuiet_tuple (tup_key (P := P) (w := w) ht) h
theorem eq_M {a b : MK} {u v : Value} {Q : Bool → Shared → Prop} (hu : A.units < cLine) (ha : isM s.heap a u) (hb : isM s.heap b v) (h : Q (decide (a = b)) s) : wpAny (model P w) A (eqBool u v) Q E s := by
  have ne : ∀ {q : Bool}, a ≠ b → q = false → EqAt A s u v q → wpAny (model P w) A (eqBool u v) Q E s := fun n e z => z P w E Q (by rw [e, ← decide_eq_false n]; exact h)
  cases a with
  | int i =>
    cases b with
    | int j =>
      have e : ∀ q : Bool, q = decide (i = j) → EqAt A s u v q → wpAny (model P w) A (eqBool u v) Q E s := fun q e z => z P w E Q (by rw [e]; simpa using h)
      rcases ha with ⟨t, rfl⟩ | ⟨b, rfl, rfl⟩ <;> rcases hb with ⟨t', rfl⟩ | ⟨b', rfl, rfl⟩
      · exact e _ rfl (EqAt.int_int _ _ _ _)
      · exact e _ rfl (EqAt.int_bool _ _ _)
      · exact e _ rfl (EqAt.bool_int _ _ _)
      · refine e _ ?_ (EqAt.bool_bool _ _)
        cases b <;> cases b' <;> rfl
    | str y =>
      obtain ⟨t', rfl⟩ := hb
      rcases ha with ⟨t, rfl⟩ | ⟨b, rfl, rfl⟩
      · exact ne (by simp) rfl (EqAt.int_str _ _ _ _)
      · exact ne (by simp) rfl (EqAt.bool_str _ _ _)
    | non =>
      cases hb
      rcases ha with ⟨t, rfl⟩ | ⟨b, rfl, rfl⟩
      · exact ne (by simp) rfl (EqAt.int_none _ _)
      · exact ne (by simp) rfl (EqAt.bool_none _)
    | uni =>
      obtain ⟨x, rfl, hx⟩ := hb
      rcases ha with ⟨t, rfl⟩ | ⟨b, rfl, rfl⟩
      · exact ne (by simp) rfl (EqAt.int_tuple _ _ hx hu)
      · exact ne (by simp) rfl (EqAt.bool_tuple _ hx hu)
  | str y =>
    obtain ⟨t', rfl⟩ := ha
    cases b with
    | int j =>
      rcases hb with ⟨t, rfl⟩ | ⟨b, rfl, rfl⟩
      · exact ne (by simp) rfl (EqAt.str_int _ _ _ _)
      · exact ne (by simp) rfl (EqAt.str_bool _ _ _)
    | str z =>
      obtain ⟨t, rfl⟩ := hb
      exact wpAny_eqBool_str (by simpa using h)
    | non =>
      cases hb
      exact ne (by simp) rfl (EqAt.str_none _ _)
    | uni =>
      obtain ⟨x, rfl, hx⟩ := hb
      exact ne (by simp) rfl (EqAt.str_tuple _ _ hx hu)
  | non =>
    cases ha
    cases b with
    | int j =>
      rcases hb with ⟨t, rfl⟩ | ⟨b, rfl, rfl⟩
      · exact ne (by simp) rfl (EqAt.none_int _ _)
      · exact ne (by simp) rfl (EqAt.none_bool _)
    | str z =>
      obtain ⟨t, rfl⟩ := hb
      exact ne (by simp) rfl (EqAt.none_str _ _)
    | non =>
      cases hb
      exact EqAt.same .none P w E Q (by simpa using h)
    | uni =>
      obtain ⟨x, rfl, hx⟩ := hb
      exact ne (by simp) rfl (EqAt.none_tuple hx hu)
  | uni =>
    obtain ⟨x, rfl, hx⟩ := ha
    cases b with
    | int j =>
      rcases hb with ⟨t, rfl⟩ | ⟨b, rfl, rfl⟩
      · exact ne (by simp) rfl (EqAt.tuple_int _ _ hx hu)
      · exact ne (by simp) rfl (EqAt.tuple_bool _ hx hu)
    | str z =>
      obtain ⟨t, rfl⟩ := hb
      exact ne (by simp) rfl (EqAt.tuple_str _ _ hx hu)
    | non =>
      cases hb
      exact ne (by simp) rfl (EqAt.tuple_none hx hu)
    | uni =>
      obtain ⟨y, rfl, hy⟩ := hb
      exact wpAny_eqBool_tuple hu (tup_key (P := P) (w := w) hx) (tup_key (P := P) (w := w) hy) (by simpa using h)
def mOf : Value → Option MK
  | .int i _ => some (.int i)
  | .bool b => some (.int (if b then 1 else 0))
  | .str x _ => some (.str x)
  | .none => some .non
  | .ref _ => some .uni
  | _ => none
theorem isM_of {h : Heap} {v : Value} {a : MK} (ha : isM h a v) : mOf v = some a := by
  cases a with
  | int i => rcases ha with ⟨t, rfl⟩ | ⟨b, rfl, rfl⟩ <;> rfl
  | str x => obtain ⟨t, rfl⟩ := ha; rfl
  | non => cases ha; rfl
  | uni => obtain ⟨t, rfl, _⟩ := ha; rfl
theorem isM_inj {h h' : Heap} {v : Value} {a b : MK} (ha : isM h a v) (hb : isM h' b v) : a = b := Option.some.inj ((isM_of ha).symm.trans (isM_of hb))
def entM (w : World) (x : MK × Value × Value) : DictEntry := ⟨hashM w x.1, x.2.1, x.2.2⟩
theorem ent_get {es : Array DictEntry} {xs : List (MK × Value × Value)} (he : es.toList = xs.map (entM w)) (j : Nat) : es[j]? = (xs[j]?).map (entM w) := by
  rw [← List.getElem?_map, ← he, Array.getElem?_toList]
theorem mayTell_M {k : MK} {v : Value} {st : List Value} {Q : Bool → Shared → Prop} (hk : isM s.heap k v) (hst : ∀ u ∈ st, ∃ k', isM s.heap k' u) (h : Q false s) : wpAny (model P w) A (tableMayTell v st) Q E s := by
  unfold tableMayTell
  split
  · exact wpAny_pure h
  · refine wpAny_bind (quiet_M hk ?_)
    simp only [Bool.not_true, Bool.false_eq_true, if_false]
    refine wpAny_bind ?_
    refine wpAny_forIn_list _ (fun rest r s' => s' = s ∧ r = (none, ()) ∧ ∀ v ∈ rest, ∃ k', isM s.heap k' v) _ ?_ ?_ _ _ ⟨rfl, rfl, hst⟩
    · rintro x rest r s' ⟨rfl, rfl, hr⟩
      obtain ⟨k', hb⟩ := hr x List.mem_cons_self
      refine wpAny_bind (quiet_M hb ?_)
      simp only [Bool.not_true, Bool.false_eq_true, if_false]
      exact wpAny_pure ⟨rfl, rfl, fun v hv => hr v (List.mem_cons_of_mem _ hv)⟩
    · rintro r s' ⟨rfl, rfl, _⟩
      exact wpAny_pure h
theorem uniqM {xs : List (MK × Value × Value)} (hn : (xs.map (·.1)).Nodup) {i j : Nat} {k : MK} {p q : Value × Value} (hi : xs[i]? = some (k, p)) (hj : xs[j]? = some (k, q)) : i = j := by
  have hi' : (xs.map (·.1))[i]? = some k := by rw [List.getElem?_map, hi]; rfl
  have hj' : (xs.map (·.1))[j]? = some k := by rw [List.getElem?_map, hj]; rfl
  exact (List.getElem?_inj (List.getElem?_eq_some_iff.mp hi').1 hn).mp (hi'.trans hj'.symm)
theorem isStr_M {h : Heap} {k' : MK} {u : Value} (hk : isM h k' u) (x : Str) : u.isStr x = decide (k' = .str x) := by
  cases k' with
  | int i => rcases hk with ⟨t, rfl⟩ | ⟨b, rfl, rfl⟩ <;> rfl
  | str y =>
    obtain ⟨t, rfl⟩ := hk
    show (y == x) = _
    by_cases e : y = x
    · subst e; simp
    · simp [e]
  | non => cases hk; rfl
  | uni => obtain ⟨t, rfl, _⟩ := hk; rfl
theorem find_M {d : Addr} {o : Obj} {es ep} {xs : List (MK × Value × Value)} {k : MK} {v : Value} {Q : Option Nat → Shared → Prop} (hu : A.units < cLine) (hkey : isM s.heap k v)
    (ho : s.heap.get? d = some o) (hd : o.data = .dict es ep) (he : es.toList = xs.map (entM w)) (his : ∀ x ∈ xs, isM s.heap x.1 x.2.1) (hn : (xs.map (·.1)).Nodup)
    (hnone : (∀ (j : Nat) (p : Value × Value), xs[j]? ≠ some (k, p)) → Q none s) (hsome : ∀ (j : Nat) (p : Value × Value), xs[j]? = some (k, p) → Q (some j) s) :
    wpAny (model P w) A (dictFind d v (hashM w k)) Q E s := by
  have hsz : es.size = xs.length := by rw [← Array.length_toList, he, List.length_map]
  have haskey : ∀ (j : Nat) (p : Value × Value), xs[j]? = some (k, p) → ((es[j]?.map (·.hash)) == some (hashM w k)) = true := by
    intro j p hj
    rw [ent_get he j, hj]
    simp [entM]
  have hmem : ∀ e ∈ es, ∃ x ∈ xs, e = entM w x := by
    intro e hin
    have : e ∈ xs.map (entM w) := he ▸ Array.mem_toList_iff.mpr hin
    obtain ⟨x, hx, rfl⟩ := List.mem_map.mp this
    exact ⟨x, hx, rfl⟩
  have hany : ¬ (es.any fun e => e.key == v && e.hash != hashM w k) = true := by
    rw [← Array.any_toList, List.any_eq_true]
    rintro ⟨e, hin, hc⟩
    obtain ⟨x, hx, rfl⟩ := hmem e (Array.mem_toList_iff.mp hin)
    simp only [entM, Bool.and_eq_true, beq_iff_eq, bne_iff_ne, ne_eq] at hc
    obtain ⟨hxa, hne⟩ := hc
    have := his x hx
    rw [hxa] at this
    exact hne (by rw [isM_inj this hkey])
  have hst : ∀ v ∈ (placesWithHash es.size (fun i => es[i]?.map (·.hash)) (hashM w k)).filterMap (fun i => es[i]?.map (·.key)), ∃ k', isM s.heap k' v := by
    intro v hv
    obtain ⟨i, _, hi⟩ := List.mem_filterMap.mp hv
    cases hei : es[i]? with
    | none => rw [hei] at hi; cases hi
    | some e =>
      rw [hei] at hi
      obtain rfl : e.key = v := by simpa using hi
      obtain ⟨x, hx, rfl⟩ := hmem e (Array.mem_of_getElem? hei)
      exact ⟨x.1, his x hx⟩
  have xof : ∀ x, x < es.size → ∃ k' b v', xs[x]? = some (k', b, v') ∧ isM s.heap k' b ∧ es[x]? = some ⟨hashM w k', b, v'⟩ := fun x hlt => by
    obtain ⟨⟨k', b, v'⟩, hkv⟩ : ∃ y, xs[x]? = some y := ⟨xs[x]'(by rw [← hsz]; exact hlt), List.getElem?_eq_getElem _⟩
    exact ⟨k', b, v', hkv, his _ (List.mem_of_getElem? hkv), by rw [ent_get he x, hkv]; rfl⟩
  have nokey : ∀ (j : Nat) (p : Value × Value), ((es[j]?.map (·.hash)) == some (hashM w k)) = false → xs[j]? ≠ some (k, p) := fun j p h e => by
    rw [haskey j p e] at h
    cases h
  have lt_of : ∀ {j : Nat} {p : Value × Value}, xs[j]? = some (k, p) → j < es.size := fun {j p} e => by
    rw [hsz]
    exact (List.getElem?_eq_some_iff.mp e).1
  -- all keys by value
  have plain : wpAny (model P w) A (dictWalkPlain d v (hashM w k) es (placesWithHash es.size (fun i => es[i]?.map (·.hash)) (hashM w k))) Q E s := by
    refine wpAny_bind ?_
    refine wpAny_forIn_list _
      (fun rest b s' => s' = s ∧ b = (none, ()) ∧ ∃ i, rest = (List.range' i (es.size - i)).filter (fun i => (es[i]?.map (·.hash)) == some (hashM w k)) ∧ i ≤ es.size ∧
        ∀ j p, j < i → xs[j]? ≠ some (k, p)) _ ?_ ?_ _ _
      ⟨rfl, rfl, 0, by rw [placesWithHash, List.range_eq_range', Nat.sub_zero], Nat.zero_le _, fun _ _ h => absurd h (Nat.not_lt_zero _)⟩
    · rintro x rest b s' ⟨rfl, rfl, i, hr, hi, hno⟩
      obtain ⟨hix, hxn, hpx, hskip, hrest⟩ := filter_range'_cons _ _ _ _ _ hr.symm
      have hlt : x < es.size := by omega
      obtain ⟨k', b, v', hkv, hib, hex⟩ := xof x hlt
      have hnext : ¬ k' = k → ∃ i, rest = (List.range' i (es.size - i)).filter (fun i => (es[i]?.map (·.hash)) == some (hashM w k)) ∧ i ≤ es.size ∧
          ∀ j p, j < i → xs[j]? ≠ some (k, p) := fun hne =>
        ⟨x + 1, by rw [hrest]; congr 2; omega, hlt, fun j p hji => by
          rcases Nat.lt_or_ge j i with h | h
          · exact hno j p h
          · rcases Nat.lt_or_ge j x with h' | h'
            · exact nokey j p (hskip j h h')
            · have : j = x := by omega
              subst this
              rw [hkv]
              intro e
              cases e
              exact hne rfl⟩
      rw [hex]
      dsimp only
      by_cases hh : (hashM w k' == hashM w k) = true
      · rw [if_pos hh]
        refine wpAny_bind (wpAny_dictEpoch ho hd (wpAny_bind (eq_M (a := k') (b := k) hu hib hkey (wpAny_bind (wpAny_dictEpoch ho hd ?_)))))
        show wpAny _ _ (if (ep != ep) = true then _ else _) _ E _
        rw [if_neg (by simp)]
        by_cases hkk : k' = k
        · rw [decide_eq_true hkk]
          subst hkk
          exact wpAny_bind (wpAny_rule (wpAny_pure (wpAny_pure (hsome x _ hkv))))
        · rw [decide_eq_false hkk]
          exact wpAny_bind (wpAny_rule (wpAny_pure ⟨rfl, rfl, hnext hkk⟩))
      · rw [if_neg hh]
        refine wpAny_pure ⟨rfl, rfl, hnext ?_⟩
        intro hkk
        rw [hkk] at hh; simp at hh
    · rintro b s' ⟨rfl, rfl, i, hr, hi, hno⟩
      refine wpAny_pure (hnone fun j p hj => ?_)
      rcases Nat.lt_or_ge j i with h | h
      · exact hno j p h hj
      · have hjl : j < es.size := lt_of hj
        have := List.filter_eq_nil_iff.mp hr.symm j (List.mem_range'_1.mpr ⟨h, by omega⟩)
        rw [haskey j p hj] at this
        exact this rfl
  unfold dictFind
  try with_reducible refine wpAny_holding ?_
  refine wpAny_bind (wpAny_dictEntries ho hd ?_)
  dsimp only
  have isst : ∀ (x : Str) (t : Tok), v = .str x t → (∀ (j : Nat) (e : DictEntry), es[j]? = some e → e.key.isStr x = decide ((xs[j]?.map (fun y => y.1)) = some k)) := fun x t ev j e hj => by
    subst ev
    have ek : k = .str x := Option.some.inj ((isM_of hkey).symm)
    obtain ⟨k', b, v', hkv, hib, hex⟩ := xof j (by exact (Array.getElem?_eq_some_iff.mp hj).1)
    rw [hex] at hj
    cases hj
    rw [isStr_M hib, hkv, ek]
    simp
  by_cases hall : ((v :: (placesWithHash es.size (fun i => es[i]?.map (·.hash)) (hashM w k)).filterMap fun i => es[i]?.map (·.key)).all carriedByValue) = true
  · rw [if_pos hall]
    split
    next x t =>
      split
      next hstrs =>
        unfold foundByValue
        cases hf : es.findIdx? (fun e => e.key.isStr x) with
        | none =>
          refine wpAny_pure (hnone fun j p hj => ?_)
          have hl := lt_of hj
          have := Array.findIdx?_eq_none_iff.mp hf es[j] (Array.getElem_mem hl)
          rw [isst x t rfl j es[j] (Array.getElem?_eq_getElem hl), hj] at this
          simp at this
        | some i =>
          obtain ⟨hlt, hi, _⟩ := Array.findIdx?_eq_some_iff_getElem.mp hf
          rw [isst x t rfl i es[i] (Array.getElem?_eq_getElem hlt)] at hi
          obtain ⟨k', b, v', hkv, hib, hex⟩ := xof i hlt
          rw [hkv] at hi
          have hkk : k' = k := by simpa using hi
          subst hkk
          simp only [hex]
          refine wpAny_bind (wpAny_dictEpoch ho hd (wpAny_bind (eq_M (a := k') (b := k') hu hib hkey (wpAny_bind (wpAny_dictEpoch ho hd ?_)))))
          show wpAny _ _ (if (ep != ep) = true then _ else _) _ E _
          rw [if_neg (by simp), decide_eq_true rfl]
          exact wpAny_bind (wpAny_rule (wpAny_pure (hsome i _ hkv)))
      next => exact plain
    next => exact plain
  · rw [if_neg hall]
    have hna : ∀ x t, v = .str x t → ¬ (es.all fun e => isExactStrKey e.key) = true := by
      intro x t ev hstrs
      subst ev
      refine absurd ?_ hall
      rw [List.all_cons, List.all_eq_true.mpr, Bool.and_true]
      · rfl
      · intro u hu
        obtain ⟨i, _, hi⟩ := List.mem_filterMap.mp hu
        cases hei : es[i]? with
        | none => rw [hei] at hi; cases hi
        | some e =>
          rw [hei] at hi
          obtain rfl : e.key = u := by simpa using hi
          have := Array.all_eq_true_iff_forall_mem.mp hstrs e (Array.mem_of_getElem? hei)
          cases hk' : e.key <;> rw [hk'] at this <;> first | rfl | cases this
    obtain ⟨hone, e1⟩ : ∃ b : Bool, (((placesWithHash es.size (fun i => es[i]?.map (·.hash)) (hashM w k)).filterMap (fun i => es[i]?.map (·.key))) == [v]) = b := ⟨_, rfl⟩
    rw [e1]
    split
    case' h_1 x t => rw [if_neg (hna x t rfl)]
    case' h_2 => try split
    all_goals
      try rw [if_neg hany]
      cases hone
    all_goals
      first | rw [if_pos rfl] | rw [if_neg Bool.false_ne_true]
      first
        | refine wpAny_bind (wpAny_pure ?_)
        | refine wpAny_bind (mayTell_M hkey hst ?_)
      rw [if_neg (by simp)]
      refine wpAny_bind ?_
      refine wpAny_forIn_list _
        (fun rest b s' => s' = s ∧ ∃ i hit, b = (none, hit) ∧ rest = (List.range' i (es.size - i)).filter (fun i => (es[i]?.map (·.hash)) == some (hashM w k)) ∧ i ≤ es.size ∧
          ((hit = none ∧ ∀ j p, j < i → xs[j]? ≠ some (k, p)) ∨ ∃ j p, hit = some j ∧ j < i ∧ xs[j]? = some (k, p))) _ ?_ ?_ _ _
        ⟨rfl, 0, none, rfl, by rw [placesWithHash, List.range_eq_range', Nat.sub_zero], Nat.zero_le _, .inl ⟨rfl, fun _ _ h => absurd h (Nat.not_lt_zero _)⟩⟩
      · rintro x rest b s' ⟨rfl, i, hit, rfl, hr, hi, hH⟩
        obtain ⟨hix, hxn, hpx, hskip, hrest⟩ := filter_range'_cons _ _ _ _ _ hr.symm
        have hlt : x < es.size := by omega
        have hrest' : rest = (List.range' (x + 1) (es.size - (x + 1))).filter (fun i => (es[i]?.map (·.hash)) == some (hashM w k)) := by rw [hrest]; congr 2; omega
        obtain ⟨k', b, v', hkv, hib, hex⟩ := xof x hlt
        have hHx : (hit = none ∧ ∀ j p, j < x → xs[j]? ≠ some (k, p)) ∨ ∃ j p, hit = some j ∧ j < x ∧ xs[j]? = some (k, p) := by
          rcases hH with ⟨h0, hno⟩ | ⟨j, p, h1, hji, hj⟩
          · refine .inl ⟨h0, fun j p hjx hj => ?_⟩
            rcases Nat.lt_or_ge j i with h | h
            · exact hno j p h hj
            · exact nokey j p (hskip j h hjx) hj
          · exact .inr ⟨j, p, h1, by omega, hj⟩
        have hstay : ¬ k' = k → ((hit = none ∧ ∀ j p, j < x + 1 → xs[j]? ≠ some (k, p)) ∨ ∃ j p, hit = some j ∧ j < x + 1 ∧ xs[j]? = some (k, p)) := by
          intro hne
          rcases hHx with ⟨h0, hno⟩ | ⟨j, p, h1, hjx, hj⟩
          · refine .inl ⟨h0, fun j p hjx hj => ?_⟩
            rcases Nat.lt_or_ge j x with h | h
            · exact hno j p h hj
            · have hjx' : j = x := by omega
              subst hjx'
              rw [hkv] at hj
              injection hj with hj
              injection hj with hj
              exact hne hj
          · exact .inr ⟨j, p, h1, by omega, hj⟩
        rw [hex]
        dsimp only
        by_cases hh : (hashM w k' == hashM w k) = true
        · rw [if_pos hh]
          refine wpAny_bind (wpAny_dictEpoch ho hd (wpAny_bind (eq_M (a := k') (b := k) hu hib hkey (wpAny_bind (wpAny_dictEpoch ho hd ?_)))))
          show wpAny _ _ (if (ep != ep) = true then _ else _) _ E _
          rw [if_neg (by simp)]
          by_cases hkk : k' = k
          · rw [decide_eq_true hkk]
            subst hkk
            rcases hHx with ⟨rfl, _⟩ | ⟨j, p, _, hjx, hj⟩
            · first | rw [if_pos rfl] | skip
              simp only [Option.isSome_none, Bool.false_eq_true, if_false]
              first | refine wpAny_bind (wpAny_pure ?_) | skip
              refine wpAny_bind (wpAny_rule ?_)
              split
              · exact wpAny_pure (wpAny_pure (hsome x _ hkv))
              · exact wpAny_pure ⟨rfl, x + 1, some x, rfl, hrest', hlt, .inr ⟨x, _, rfl, Nat.lt_succ_self x, hkv⟩⟩
            · exact absurd (uniqM hn hj hkv) (by omega)
          · rw [decide_eq_false hkk]
            simp only [Bool.false_eq_true, if_false]
            refine wpAny_bind (wpAny_rule ?_)
            first | rw [if_neg (by simp)] | skip
            first
              | exact wpAny_pure ⟨rfl, x + 1, hit, rfl, hrest', hlt, hstay hkk⟩
              | exact wpAny_bind (wpAny_pure (wpAny_pure ⟨rfl, x + 1, hit, rfl, hrest', hlt, hstay hkk⟩))
        · rw [if_neg hh]
          refine wpAny_pure ⟨rfl, x + 1, hit, rfl, hrest', hlt, hstay ?_⟩
          intro hkk
          rw [hkk] at hh; simp at hh
      · rintro b s' ⟨rfl, i, hit, rfl, hr, hi, hH⟩
        rcases hH with ⟨rfl, hno⟩ | ⟨j, p, rfl, _, hj⟩
        · refine wpAny_pure (hnone fun j p hj => ?_)
          rcases Nat.lt_or_ge j i with h | h
          · exact hno j p h hj
          · have hjl : j < es.size := lt_of hj
            have := List.filter_eq_nil_iff.mp hr.symm j (List.mem_range'_1.mpr ⟨h, by omega⟩)
            rw [haskey j p hj] at this
            exact this rfl
        · exact wpAny_pure (hsome j p hj)
end
end EM
set_option Elab.async false
set_option linter.all false
set_option maxRecDepth 100000
set_option maxHeartbeats 4000000
namespace EM
open PySem PySem.Spec PyProof.Rows L2 SeqAt
section
variable {α β : Type}
def atK (f : α → MK) (xs : List α) (k : MK) : Option Nat := xs.findIdx? fun x => decide (f x = k)
def putM (f : α → MK) (xs : List α) (k : MK) (new : α) (g : α → α) : List α := match atK f xs k with
  | some j => xs.modify j g
  | none => xs ++ [new]
def outM (f : α → MK) (xs : List α) (k : MK) : List α := match atK f xs k with
  | some j => xs.eraseIdx j
  | none => xs
theorem atK_none {f : α → MK} {xs : List α} {k : MK} (h : ∀ (j : Nat) (x : α), xs[j]? = some x → f x ≠ k) : atK f xs k = none :=
  List.findIdx?_eq_none_iff.mpr fun x hx => by
    obtain ⟨j, hj⟩ := List.mem_iff_getElem?.mp hx
    exact decide_eq_false (h j x hj)
theorem atK_some {f : α → MK} {xs : List α} {k : MK} (hn : (xs.map f).Nodup) {j : Nat} {x : α} (h : xs[j]? = some x) (e : f x = k) : atK f xs k = some j := by
  obtain ⟨hl, hx⟩ := List.getElem?_eq_some_iff.mp h
  refine List.findIdx?_eq_some_iff_getElem.mpr ⟨hl, by rw [hx]; exact decide_eq_true e, fun i hi => ?_⟩
  have : f xs[i] ≠ k := fun z => by
    have h1 : (xs.map f)[i]? = some k := by rw [List.getElem?_map, List.getElem?_eq_getElem (by omega), Option.map_some, z]
    have h2 : (xs.map f)[j]? = some k := by rw [List.getElem?_map, h, Option.map_some, e]
    have := (List.getElem?_inj (by rw [List.length_map]; omega) hn).mp (h1.trans h2.symm)
    omega
  simpa using this
theorem atK_of {f : α → MK} {xs : List α} {k : MK} {j : Nat} (h : atK f xs k = some j) : ∃ x, xs[j]? = some x ∧ f x = k := by
  obtain ⟨hl, e, _⟩ := List.findIdx?_eq_some_iff_getElem.mp h
  exact ⟨xs[j], List.getElem?_eq_getElem hl, of_decide_eq_true e⟩
theorem modify_map {f : α → MK} {g : α → α} (hg : ∀ x, f (g x) = f x) : ∀ (xs : List α) (j : Nat), (xs.modify j g).map f = xs.map f
  | [], j => by cases j <;> rfl
  | x :: xs, 0 => by simp [hg]
  | x :: xs, j + 1 => by simp [modify_map hg xs j]
theorem modify_mapE {f : α → β} {g : β → β} {g' : α → α} (h : ∀ x, g (f x) = f (g' x)) : ∀ (xs : List α) (j : Nat), (xs.map f).modify j g = (xs.modify j g').map f
  | [], j => by cases j <;> rfl
  | x :: xs, 0 => by simp [h]
  | x :: xs, j + 1 => by simp [modify_mapE h xs j]
theorem putM_nodup {f : α → MK} {xs : List α} {k : MK} {new : α} {g : α → α} (hn : (xs.map f).Nodup) (hg : ∀ x, f (g x) = f x) (hw : f new = k) : ((putM f xs k new g).map f).Nodup := by
  unfold putM
  cases h : atK f xs k with
  | some j =>
    show ((xs.modify j g).map f).Nodup
    rw [modify_map hg]
    exact hn
  | none =>
    show ((xs ++ [new]).map f).Nodup
    rw [List.map_append, List.nodup_append]
    refine ⟨hn, by simp, fun x hx y hy e => ?_⟩
    obtain ⟨z, hz, rfl⟩ := List.mem_map.mp hx
    have : y = f new := by simpa using hy
    have := List.findIdx?_eq_none_iff.mp h z hz
    simp only [decide_eq_false_iff_not] at this
    exact this (by rw [e, ‹y = f new›, hw])
theorem outM_nodup {f : α → MK} {xs : List α} {k : MK} (hn : (xs.map f).Nodup) : ((outM f xs k).map f).Nodup := by
  unfold outM
  cases h : atK f xs k with
  | some j =>
    show ((xs.eraseIdx j).map f).Nodup
    exact hn.sublist ((List.eraseIdx_sublist xs j).map f)
  | none => exact hn
/-- two lists that are alike, with the same keys -/
theorem atK_par {R : α → β → Prop} {f : α → MK} {g : β → MK} (hR : ∀ a b, R a b → f a = g b) {k : MK} : ∀ {xs : List α} {ys : List β}, Paired R xs ys → atK f xs k = atK g ys k
  | _, _, .nil => rfl
  | _, _, .cons h t => by
    unfold atK
    rw [List.findIdx?_cons, List.findIdx?_cons, hR _ _ h]
    have := atK_par hR (k := k) t
    unfold atK at this
    rw [this]
theorem Par.modify {R : α → β → Prop} {f : α → α} {g : β → β} (h : ∀ a b, R a b → R (f a) (g b)) : ∀ {xs : List α} {ys : List β} (j : Nat), Paired R xs ys → Paired R (xs.modify j f) (ys.modify j g)
  | _, _, j, .nil => by cases j <;> exact .nil
  | _, _, 0, .cons a t => by
    simp only [List.modify_zero_cons]
    exact .cons (h _ _ a) t
  | _, _, j + 1, .cons a t => by
    simp only [List.modify_succ_cons]
    exact .cons a (Par.modify h j t)
theorem Par.erase {R : α → β → Prop} : ∀ {xs : List α} {ys : List β} (j : Nat), Paired R xs ys → Paired R (xs.eraseIdx j) (ys.eraseIdx j)
  | _, _, _, .nil => .nil
  | _, _, 0, .cons a t => t
  | _, _, j + 1, .cons a t => .cons a (Par.erase j t)
theorem Par.snoc {R : α → β → Prop} {a : α} {b : β} (h : R a b) : ∀ {xs : List α} {ys : List β}, Paired R xs ys → Paired R (xs ++ [a]) (ys ++ [b])
  | _, _, .nil => .cons h .nil
  | _, _, .cons c t => .cons c (Par.snoc h t)
theorem Par.put {R : α → β → Prop} {f : α → MK} {g : β → MK} (hR : ∀ a b, R a b → f a = g b) {k : MK} {xs : List α} {ys : List β} (p : Paired R xs ys) {a : α} {b : β} (hn : R a b) {u : α → α} {v : β → β} (huv : ∀ a b, R a b → R (u a) (v b)) : Paired R (putM f xs k a u) (putM g ys k b v) := by
  unfold putM
  rw [atK_par hR p]
  cases atK g ys k with
  | some j => exact Par.modify huv j p
  | none => exact Par.snoc hn p
theorem Par.out {R : α → β → Prop} {f : α → MK} {g : β → MK} (hR : ∀ a b, R a b → f a = g b) {k : MK} {xs : List α} {ys : List β} (p : Paired R xs ys) : Paired R (outM f xs k) (outM g ys k) := by
  unfold outM
  rw [atK_par hR p]
  cases atK g ys k with
  | some j => exact Par.erase j p
  | none => exact p
theorem Par.get {R : α → β → Prop} : ∀ {xs : List α} {ys : List β} {j : Nat} {y : β}, Paired R xs ys → ys[j]? = some y → ∃ x, xs[j]? = some x ∧ R x y
  | _, _, _, _, .nil, h => by simp at h
  | _, _, 0, _, .cons a t, h => by simp at h; subst h; exact ⟨_, rfl, a⟩
  | _, _, j + 1, _, .cons a t, h => by
    obtain ⟨x, h1, h2⟩ := Par.get (j := j) t (by simpa using h)
    exact ⟨x, by simpa using h1, h2⟩
end
abbrev MX := MK × Value × Value
/-- the dict at d has these entries -/
def DM (w : World) (h : Heap) (d : Addr) (xs : List MX) : Prop := ∃ o es ep, h.get? d = some o ∧ o.ExactDict ∧ o.data = .dict es ep ∧ es.toList = xs.map (entM w) ∧ (xs.map (·.1)).Nodup
def IsMs (h : Heap) (xs : List MX) : Prop := ∀ x ∈ xs, isM h x.1 x.2.1
abbrev putX (xs : List MX) (k : MK) (key val : Value) : List MX := putM (·.1) xs k (k, key, val) fun y => (y.1, y.2.1, val)
abbrev outX (xs : List MX) (k : MK) : List MX := outM (·.1) xs k
section
variable {P : Program} {w : World} {A : Around} {E : Value → Shared → Prop} {s : Shared} {d : Addr} {xs : List MX} {k : MK} {key val : Value}
theorem size_M {es : Array DictEntry} {xs : List MX} (he : es.toList = xs.map (entM w)) : es.size = xs.length := by rw [← Array.length_toList, he, List.length_map]
theorem DM.typeIs (h : DM w s.heap d xs) : s.TypeIs (.ref d) "dict" := let ⟨o, _, _, ho, hc, _⟩ := h; ⟨o, ho, hc.1⟩
theorem DM.raw {h : Heap} (x : DM w h d xs) : ∃ es ep, h.DictRaw d es ep ∧ es.toList = xs.map (entM w) := let ⟨o, es, ep, h1, h2, h3, h4, _⟩ := x; ⟨es, ep, ⟨o, h1, h2, h3⟩, h4⟩
theorem IsMs.tok (h : IsMs s.heap xs) : IsMs s.heap xs := h
theorem findX {o : Obj} {es ep} {Q : Option Nat → Shared → Prop} (hu : A.units < cLine) (hkey : isM s.heap k key) (ho : s.heap.get? d = some o) (hd : o.data = .dict es ep) (he : es.toList = xs.map (entM w)) (his : IsMs s.heap xs) (hn : (xs.map (·.1)).Nodup)
    (h : Q (atK (·.1) xs k) s) : wpAny (model P w) A (dictFind d key (hashM w k)) Q E s :=
  find_M hu hkey ho hd he his hn (fun hno => by rw [atK_none (fun j x hj e => hno j x.2 (by rw [hj, ← e]))] at h; exact h) fun j p hj => by rw [atK_some hn hj rfl] at h; exact h
theorem getX {Q : Option Value → Shared → Prop} (hu : A.units < cLine) (hkey : isM s.heap k key) (hm : DM w s.heap d xs) (his : IsMs s.heap xs)
    (h : ∀ t, Q ((atK (·.1) xs k).bind fun j => (xs[j]?).map (·.2.2)) { s with toks := t }) : wpAny (model P w) A (dictGet d key) Q E s := by
  obtain ⟨o, es, ep, ho, _, hd, he, hn⟩ := hm
  unfold dictGet
  try with_reducible refine wpAny_holding ?_
  refine wpAny_bind (hash_M hu hkey fun t => wpAny_bind (findX (s := { s with toks := t }) hu hkey ho hd he his hn ?_))
  have h := h t
  cases e : atK (·.1) xs k with
  | none => rw [e] at h; exact wpAny_pure h
  | some j =>
    rw [e] at h
    refine wpAny_bind (wpAny_dictEntries (s := { s with toks := t }) ho hd (wpAny_pure ?_))
    rw [ent_get he j, Option.map_map]
    exact h
theorem setHX {Q : Unit → Shared → Prop} (hu : A.units < cLine) (hkey : isM s.heap k key) (hm : DM w s.heap d xs) (his : IsMs s.heap xs) (hsz : xs.length ≤ sizeLine)
    (hQ : ∀ h', DM w h' d (putX xs k key val) → Heap.SameBut d s.heap h' → Q () { s with heap := h' }) :
    wpAny (model P w) A (dictSetHashed d key (hashM w k) val) Q E s := by
  obtain ⟨o, es, ep, ho, hc, hd, he, hn⟩ := hm
  have nd := putM_nodup (k := k) (new := (k, key, val)) (g := fun y : MX => (y.1, y.2.1, val)) hn (fun _ => rfl) rfl
  unfold dictSetHashed
  try with_reducible refine wpAny_holding ?_
  refine wpAny_bind (findX hu hkey ho hd he his hn ?_)
  cases e : atK (·.1) xs k with
  | none =>
    refine wpAny_bind (wpAny_rule (wpAny_updateDictKeys (hz := by have e := size_M he; omega) ho hd (hQ _ ⟨_, _, ep + 1, Heap.get?_update_self _ ho (Obj.isFreed_of_dict (Obj.data_mapDictKeys hd _)),
      hc.mapDictKeys _, Obj.data_mapDictKeys hd _, ?_, nd⟩ (Heap.SameBut.update ..))))
    show _ = (putM (·.1) xs k _ _).map _
    unfold putM
    rw [e]
    simp [he, entM]
  | some j =>
    refine wpAny_bind (wpAny_rule (wpAny_bind (wpAny_updateDict ho hd (wpAny_point (hQ _ ⟨_, _, ep, Heap.get?_update_self _ ho (Obj.isFreed_of_dict (Obj.data_mapDict hd _)),
      hc.mapDict _, Obj.data_mapDict hd _, ?_, nd⟩ (Heap.SameBut.update ..))))))
    show _ = (putM (·.1) xs k _ _).map _
    unfold putM
    rw [e]
    rw [Array.toList_modify, he]
    exact modify_mapE (f := entM w) (g := fun e : DictEntry => { hash := e.hash, key := e.key, val := val }) (g' := fun y : MX => (y.1, y.2.1, val)) (fun _ => rfl) xs j
theorem setX {Q : Unit → Shared → Prop} (hu : A.units < cLine) (hkey : isM s.heap k key) (hm : DM w s.heap d xs) (his : IsMs s.heap xs) (hsz : xs.length ≤ sizeLine)
    (hQ : ∀ h' t, DM w h' d (putX xs k key val) → Heap.SameBut d s.heap h' → Q () { s with heap := h', toks := t }) :
    wpAny (model P w) A (dictSet d key val) Q E s := by
  unfold dictSet
  try with_reducible refine wpAny_holding ?_
  exact wpAny_bind (hash_M hu hkey fun t => setHX (s := { s with toks := t }) hu hkey hm his hsz fun h' hm' hs => hQ h' t hm' hs)
/-- d[k] -/
theorem getItemX {v : Value} {Q : Value → Shared → Prop} (hu : A.in1.units < cLine) (hkey : isM s.heap k key) (hm : DM w s.heap d xs) (his : IsMs s.heap xs) {j : Nat} {x : MX} (hj : atK (·.1) xs k = some j) (hx : xs[j]? = some x)
    (h : ∀ t, Q x.2.2 { s with toks := t }) : wpAny (model P w) A (getItem (.ref d) key) Q E s := by
  unfold getItem
  try with_reducible refine wpAny_holding ?_
  refine wpAny_bind (wpAny_sequenceKey hm.typeIs (by decide) ?_)
  refine wpAny_bind (wpAny_callSpecial?_slot (name := Str.ofString "__getitem__") hm.typeIs slot_dict_getitem
    (wpAny_call_entry slot_dict_getitem hm.typeIs entry_dict_getitem ?_ (args_dict_getitem _ _)))
  show wpAny _ _ (dictGet d key >>= _) _ _ s
  refine wpAny_bind (getX hu hkey hm his fun t => ?_)
  have e1 : ((atK (·.1) xs k).bind fun j => (xs[j]?).map (·.2.2)) = some x.2.2 := by rw [hj, Option.bind_some, hx]; rfl
  rw [e1]
  exact wpAny_pure ⟨_, rfl, wpAny_pure (h t)⟩
/-- d[k] = v -/
theorem setItemX {Q : Unit → Shared → Prop} (hu : A.in1.units < cLine) (hkey : isM s.heap k key) (hm : DM w s.heap d xs) (his : IsMs s.heap xs) (hsz : xs.length ≤ sizeLine)
    (hQ : ∀ h' t, DM w h' d (putX xs k key val) → Heap.SameBut d s.heap h' → Q () { s with heap := h', toks := t }) :
    wpAny (model P w) A (setItem (.ref d) key val) Q E s := by
  unfold setItem
  try with_reducible refine wpAny_holding ?_
  refine wpAny_bind (wpAny_sequenceKey hm.typeIs (by decide) ?_)
  refine wpAny_bind (wpAny_callSpecial?_slot (name := Str.ofString "__setitem__") hm.typeIs slot_dict_setitem
    (wpAny_call_entry slot_dict_setitem hm.typeIs entry_dict_setitem ?_ (args_dict_setitem _ _ _)))
  show wpAny _ _ (Builtin.Dict.notOrdered "__setitem__" ⟨[.ref d, key, val], []⟩ >>= _) _ _ s
  refine wpAny_bind (wpAny_notOrdered_dict hm.typeIs ?_)
  show wpAny _ _ (dictSet d key val >>= _) _ _ s
  exact wpAny_bind (setX hu hkey hm his hsz fun h' t hm' hs' => wpAny_pure ⟨.none, rfl, wpAny_pure (hQ h' t hm' hs')⟩)
theorem takeX {Q : Option DictEntry → Shared → Prop} (hu : A.units < cLine) (hkey : isM s.heap k key) (hm : DM w s.heap d xs) (his : IsMs s.heap xs) (hsz : xs.length ≤ sizeLine) {j : Nat} {x : MX} (hj : atK (·.1) xs k = some j) (hx : xs[j]? = some x)
    (hQ : ∀ h' t, DM w h' d (outX xs k) → Heap.SameBut d s.heap h' → Q (some (entM w x)) { s with heap := h', toks := t }) :
    wpAny (model P w) A (Builtin.Dict.takeOut d key) Q E s := by
  obtain ⟨o, es, ep, ho, hc, hd, he, hn⟩ := hm
  have nd := outM_nodup (k := k) hn
  unfold Builtin.Dict.takeOut
  try with_reducible refine wpAny_holding ?_
  refine wpAny_bind (hash_M hu hkey fun t => wpAny_bind (findX (s := { s with toks := t }) hu hkey ho hd he his hn ?_))
  rw [hj]
  refine wpAny_bind (wpAny_dictEntries (s := { s with toks := t }) ho hd ?_)
  rw [ent_get he j, hx]
  refine wpAny_bind (wpAny_updateDictKeys (hz := by have e := size_M he; omega) (s := { s with toks := t }) ho hd (wpAny_pure (hQ _ t ⟨_, _, ep + 1, Heap.get?_update_self _ ho (Obj.isFreed_of_dict (Obj.data_mapDictKeys hd _)),
      hc.mapDictKeys _, Obj.data_mapDictKeys hd _, ?_, nd⟩ (Heap.SameBut.update ..))))
  show _ = (outM (·.1) xs k).map _
  unfold outM
  rw [hj]
  show _ = (xs.eraseIdx j).map _
  rw [map_eraseIdx, ← he]
  obtain ⟨l⟩ := es
  simp
end
end EM
set_option Elab.async false
set_option linter.all false
set_option maxRecDepth 100000
set_option maxHeartbeats 4000000
namespace EM
open PySem PySem.Spec PyProof.Rows L2 SeqAt
section
variable {P : Program} {w : World} {A : Around} {E : Value → Shared → Prop} {s : Shared} {d o : Addr} {xs : List MX}
theorem isM.keep {h h' : Heap} {k : MK} {v : Value} (x : isM h k v) (kp : ∀ b u, IsTup h b #[] → h.get? b = some u → h'.get? b = some u) : isM h' k v := by
  cases k with
  | uni =>
    obtain ⟨a, e, u, h1, h2⟩ := x
    exact ⟨a, e, u, kp a u ⟨u, h1, h2⟩ h1, h2⟩
  | _ => exact x
theorem DM.notTup {h : Heap} (x : DM w h d xs) {b : Addr} (t : IsTup h b #[]) : b ≠ d := by
  rintro rfl
  obtain ⟨u, _, _, h1, hc, _⟩ := x
  obtain ⟨u', h2, hc', _⟩ := t
  rw [h1] at h2
  cases h2
  have := hc.1
  rw [hc'] at this
  injection this with e
  exact absurd e (by decide)
theorem IsMs.keep {h h' : Heap} (x : IsMs h xs) {ys : List MX} (hd : DM w h d ys) (sb : Heap.SameBut d h h') : IsMs h' xs := fun y hy => (x y hy).keep fun b u t e => (sb.2 b (hd.notTup t)).trans e
theorem take_put {xs : List MX} (hn : (xs.map (·.1)).Nodup) {i : Nat} {x : MX} (hx : xs[i]? = some x) : putX (xs.take i) x.1 x.2.1 x.2.2 = xs.take (i + 1) := by
  have e : atK (·.1) (xs.take i) x.1 = none := atK_none fun j y hj e => by
    have hlt : j < i := by
      have := (List.getElem?_eq_some_iff.mp hj).1
      rw [List.length_take] at this
      omega
    rw [List.getElem?_take_of_lt hlt] at hj
    have h1 : (xs.map (·.1))[j]? = some x.1 := by rw [List.getElem?_map, hj, Option.map_some, e]
    have h2 : (xs.map (·.1))[i]? = some x.1 := by rw [List.getElem?_map, hx]; rfl
    have := (List.getElem?_inj (List.getElem?_eq_some_iff.mp h1).1 hn).mp (h1.trans h2.symm)
    omega
  unfold putX putM
  rw [e, List.take_add_one, hx]
  rfl
theorem mergeX {nm : String} {Q : Unit → Shared → Prop} (hu : A.units < cLine) (hdo : d ≠ o) (hoS : (o == sysModules) = false)
    (hd : DM w s.heap d []) (ho : DM w s.heap o xs) (his : IsMs s.heap xs) (hsz : xs.length ≤ sizeLine) (hap : ∀ es : Array DictEntry, es.toList = xs.map (entM w) → ∀ e ∈ es.toList, KeyApart s es e)
    (hQ : ∀ h', DM w h' d xs → Heap.SameBut d s.heap h' → Q () { s with heap := h' }) :
    wpAny (model P w) A (Builtin.Dict.mergeDict nm d o) Q E s := by
  obtain ⟨od, esd, epd, hod, hcd, hdd, hed, hnd⟩ := id hd
  obtain ⟨oo, eso, epo, hoo, hco, hdo', heo, hno⟩ := id ho
  unfold Builtin.Dict.mergeDict
  rw [if_neg (by simpa using hdo)]
  unfold Builtin.Dict.showsAll
  rw [if_neg (by rw [hoS]; exact Bool.false_ne_true)]
  refine wpAny_bind (wpAny_pure ?_)
  refine wpAny_bind (wpAny_dictEntries hoo hdo' ?_)
  have hlen : eso.size = xs.length := size_M heo
  have loop : wpAny (model P w) A (do
      let epoch ← dictEpoch o
      let l ← dictEntries o
      forIn [:l.size] PUnit.unit fun i (_ : PUnit) => (do
          let l' ← dictEntries o
          match l'[i]? with
            | some e => do
              holding [e.key, e.val] (dictSetHashed d e.key e.hash e.val)
              let ep' ← dictEpoch o
              if (ep' != epoch) = true then do
                  (unsupported (toString nm ++ toString ":source-changed-during-callback") : Sem PUnit)
                  pure (ForInStep.yield PUnit.unit)
                else pure (ForInStep.yield PUnit.unit)
            | _ => do
              (unsupported "internal:dict-merge" : Sem PUnit)
              pure (ForInStep.yield PUnit.unit) : Sem (ForInStep PUnit))
      pure ()) Q E s := by
    refine wpAny_bind (wpAny_dictEpoch hoo hdo' ?_)
    refine wpAny_bind (wpAny_dictEntries hoo hdo' ?_)
    refine wpAny_bind ?_
    rw [Std.Legacy.Range.forIn_eq_forIn_range']
    simp only [Std.Legacy.Range.size, Nat.sub_zero, Nat.add_sub_cancel, Nat.div_one]
    refine wpAny_forIn_list _
      (fun rest _ s' => ∃ h' i, s' = { s with heap := h' } ∧ rest = List.range' i (eso.size - i) ∧ i ≤ eso.size ∧ DM w h' d (xs.take i) ∧ IsMs h' xs ∧ h'.get? o = some oo ∧ Heap.SameBut d s.heap h')
      _ ?_ ?_ _ _ ⟨s.heap, 0, rfl, by simp, Nat.zero_le _, by simpa using hd, his, hoo, Heap.SameBut.refl _ _⟩
    · rintro x rest b s' ⟨h', i, rfl, hr, hi, hd', ho', hoo', hs'⟩
      have hlt : i < eso.size := by
        rcases Nat.lt_or_ge i eso.size with h | h
        · exact h
        · rw [Nat.sub_eq_zero_of_le h] at hr; simp at hr
      obtain ⟨rfl, hrest⟩ : x = i ∧ rest = List.range' (i + 1) (eso.size - (i + 1)) := by
        have e : eso.size - i = (eso.size - (i + 1)) + 1 := by omega
        rw [e, List.range'_succ] at hr
        injection hr with h1 h2
        exact ⟨h1, h2⟩
      refine wpAny_bind (wpAny_dictEntries hoo' hdo' ?_)
      obtain ⟨⟨k, a, v⟩, hkv⟩ : ∃ kv, xs[x]? = some kv := ⟨xs[x]'(by rw [← hlen]; exact hlt), List.getElem?_eq_getElem _⟩
      rw [ent_get heo x, hkv]
      show wpAny _ _ (holding [a, v] (dictSetHashed d a (hashM w k) v) >>= _) _ _ _
      have hmx : (xs.take x).length ≤ sizeLine := by
        rw [List.length_take]
        omega
      have hkey : isM h' k a := ho' (k, a, v) (List.mem_of_getElem? hkv)
      refine wpAny_bind (wpAny_holding (setHX (s := { s with heap := h' }) hu hkey hd' (fun y hy => ho' y (List.mem_of_mem_take hy)) hmx fun h'' hd'' hs'' => ?_))
      have hoo'' : h''.get? o = some oo := (hs''.2 o (Ne.symm hdo)).trans hoo'
      refine wpAny_bind (wpAny_dictEpoch hoo'' hdo' ?_)
      rw [if_neg (by simp)]
      refine wpAny_pure ⟨h'', x + 1, rfl, hrest, hlt, ?_, ho'.keep hd' hs'', hoo'', hs'.trans hs''⟩
      rw [← take_put hno hkv]
      exact hd''
    · rintro b s' ⟨h', i, rfl, hr, hi, hd', ho', hoo', hs'⟩
      have hin : i = eso.size := by
        rcases Nat.lt_or_ge i eso.size with h | h
        · have e : eso.size - i = (eso.size - (i + 1)) + 1 := by omega
          rw [e, List.range'_succ] at hr; exact nomatch hr
        · exact Nat.le_antisymm hi h
      refine wpAny_pure (hQ h' ?_ hs')
      rw [hin, hlen, List.take_length] at hd'; exact hd'
  dsimp only
  split
  · refine wpAny_bind (wpAny_dictEntries hod hdd ?_)
    split
    · rename_i hemp
      refine wpAny_bind (wpAny_entriesForEmpty_raw hoo hdo' (hap eso heo) ?_)
      split
      · have hto : eso.size ≤ sizeLine + 1 := by omega
        exact wpAny_bind (wpAny_updateDictKeysTo hod hdd (wpAny_pure (hQ _ ⟨_, _, epd + 1, Heap.get?_update_self _ hod (Obj.isFreed_of_dict (Obj.data_mapDictKeys hdd _)), hcd.mapDictKeys _,
          Obj.data_mapDictKeys hdd _, heo, hno⟩ (Heap.SameBut.update ..))) hto)
      · rename_i hne
        have h0 : eso = #[] := Array.isEmpty_iff.mp (by simpa using hne)
        have hm0 : xs = [] := List.length_eq_zero_iff.mp (by rw [← hlen, h0]; rfl)
        subst hm0
        exact wpAny_pure (hQ _ hd (Heap.SameBut.refl _ _))
    · exact loop
  · exact loop
theorem DM.push {h : Heap} (x : DM w h d xs) (u : Obj) : DM w (h.push u) d xs := let ⟨o, es, ep, ho, r⟩ := x; ⟨o, es, ep, Heap.get?_push_of_some _ ho, r⟩
theorem copyX {Q : Value → Shared → Prop} (hu : A.in1.in1.units < cLine) (hoS : (o == sysModules) = false) (ho : DM w s.heap o xs) (his : IsMs s.heap xs) (hsz : xs.length ≤ sizeLine)
    (hap : ∀ (s' : Shared) (es : Array DictEntry), IsMs s'.heap xs → es.toList = xs.map (entM w) → ∀ e ∈ es.toList, KeyApart s' es e)
    (h : ∀ h', DM w h' s.heap.objs.size xs → Heap.SameBut s.heap.objs.size (s.heap.push { cls := .type "dict", data := .dict #[] }) h' → Q (.ref s.heap.objs.size) { s with heap := h' }) :
    wpAny (model P w) A (call (.type "dict") [.ref o]) Q E s := by
  refine callType_codes (Q₁ := fun obj s₁ => obj = .ref s.heap.objs.size ∧ s₁ = { s with heap := s.heap.push { cls := .type "dict", data := .dict #[] } }) F.kt_called_dict (F.kt_typeCall_dict_1 _) F.entry_dict_init (kt_code_dict_new _ ⟨rfl, rfl⟩) ?_
  rintro obj s₁ ⟨rfl, rfl⟩
  have hnew : DM w (s.heap.push { cls := .type "dict", data := .dict #[] }) s.heap.objs.size [] := ⟨_, #[], 0, Heap.get?_push_size _ rfl, ⟨rfl, rfl, rfl⟩, rfl, rfl, .nil⟩
  have ho' : DM w (s.heap.push { cls := .type "dict", data := .dict #[] }) o xs := ho.push _
  have his' : IsMs (s.heap.push { cls := .type "dict", data := .dict #[] }) xs := fun y hy => (his y hy).keep fun b u _ e => Heap.get?_push_of_some _ e
  have hdo : s.heap.objs.size ≠ o := by
    obtain ⟨_, _, _, hg, _⟩ := ho
    exact fun e => absurd (Heap.lt_size hg) (by rw [e]; exact Nat.lt_irrefl _)
  refine ⟨hnew.typeIs, F.args_dict_init_2 _ _, ?_⟩
  unfold Builtin.«dict.__init__»
  refine wpAny_bind ?_
  unfold Builtin.Dict.selfAndRest
  refine wpAny_bind (wpAny_notOrdered_dict hnew.typeIs ?_)
  show wpAny _ _ (pure (s.heap.objs.size, [Value.ref o])) _ _ _
  refine wpAny_pure ?_
  show wpAny _ _ (Builtin.Dict.updateFrom "dict.__init__" s.heap.objs.size (.ref o) [] .none) _ _ _
  unfold Builtin.Dict.updateFrom
  refine wpAny_bind (wpAny_typeOf ho'.typeIs ?_)
  rw [if_neg (by decide)]
  refine wpAny_bind ?_
  unfold Builtin.Dict.merge
  refine wpAny_bind ?_
  unfold Builtin.Dict.readDirectly
  refine wpAny_bind (wpAny_isInstance ho'.typeIs isSubtype_dict_dict ?_)
  simp only [Bool.not_true, Bool.false_eq_true, if_false]
  refine wpAny_bind (wpAny_specialOf ho'.typeIs F.slot_dict_iter.lookup (wpAny_pure ?_))
  simp only [beq_self_eq_true, if_true]
  refine wpAny_bind (wpAny_pure ?_)
  refine mergeX hu hdo hoS hnew ho' his' hsz (fun es he => hap _ es his' he) fun h' hd' hs' => ?_
  show wpAny _ _ (Builtin.Dict.addKeywords s.heap.objs.size [] >>= _) _ _ _
  exact wpAny_bind (wpAny_pure (wpAny_pure ⟨rfl, h h' hd' hs'⟩))
/-- d.pop(k) -/
theorem popX {k : MK} {key : Value} {Q : Value → Shared → Prop} (hu : A.in1.units < cLine) (hkey : isM s.heap k key) (hm : DM w s.heap d xs) (his : IsMs s.heap xs) (hsz : xs.length ≤ sizeLine) {j : Nat} {x : MX} (hj : atK (·.1) xs k = some j) (hx : xs[j]? = some x)
    (hQ : ∀ h' t, DM w h' d (outX xs k) → Heap.SameBut d s.heap h' → Q x.2.2 { s with heap := h', toks := t }) :
    wpAny (model P w) A (call (.builtin "dict.pop") [.ref d, key]) Q E s := by
  have M : MeetsIn P w (Builtin.«dict.pop» ⟨[.ref d, key], []⟩) (fun A' R s' => A'.in1.units < cLine ∧ s' = s ∧ ∀ h' t, DM w h' d (outX xs k) → Heap.SameBut d s.heap h' → R (.ok (.ret x.2.2)) { s with heap := h', toks := t }) :=
    .of_wp fun A R s' ⟨hu, es, h⟩ => by
      subst es
      unfold Builtin.«dict.pop»
      refine wpAny_bind ?_
      unfold Builtin.Dict.keyAndDefault
      refine wpAny_bind (wpAny_notOrdered_dict hm.typeIs ?_)
      show wpAny _ _ (pure (d, key, none)) _ _ s'
      refine wpAny_pure ?_
      have nz : ∀ es : Array DictEntry, es.toList = xs.map (entM w) → es.isEmpty = false := fun es he => by
        cases q : es.isEmpty with
        | false => rfl
        | true =>
          have h0 := Array.isEmpty_iff.mp q
          subst h0
          have e0 : xs = [] := List.map_eq_nil_iff.mp (by rw [← he])
          subst e0
          simp at hx
      have fin : ∀ Q', (∀ h' t, DM w h' d (outX xs k) → Heap.SameBut d s'.heap h' → Q' (some (entM w x)) { s' with heap := h', toks := t }) → wpAny (model P w) A.in1 (Builtin.Dict.takeOut d key) Q' (fun e s'' => R (.error e) s'') s' := fun Q' hq => takeX hu hkey hm his hsz hj hx hq
      by_cases hp : (keyPart key).isSome = true
      · simp only [hp, if_true]
        refine wpAny_bind (wpAny_pure ?_)
        simp only [Bool.false_eq_true, if_false]
        refine wpAny_bind (fin _ fun h' t hm' hs' => ?_)
        simp only [Option.isNone_some, Bool.false_eq_true, if_false]
        exact wpAny_bind (wpAny_letGo (wpAny_pure ⟨_, rfl, h h' t hm' hs'⟩))
      · obtain ⟨o', es', ep', ho', hc', hd', he', hn'⟩ := id hm
        have hp' : (keyPart key).isSome = false := by simpa using hp
        simp only [hp', Bool.false_eq_true, if_false]
        refine wpAny_bind (wpAny_dictEntries ho' hd' ?_)
        refine wpAny_bind (wpAny_pure ?_)
        rw [nz es' he']
        simp only [Bool.false_eq_true, if_false]
        refine wpAny_bind (fin _ fun h' t hm' hs' => ?_)
        simp only [Option.isNone_some, Bool.false_eq_true, if_false]
        exact wpAny_bind (wpAny_letGo (wpAny_pure ⟨_, rfl, h h' t hm' hs'⟩))
  exact call_meetsIn F.slot_dict_pop hm.typeIs F.entry_dict_pop (F.args_dict_pop_2 _ _) M ⟨hu, rfl, hQ⟩
end
end EM
set_option Elab.async false
set_option linter.all false
set_option maxRecDepth 100000
set_option maxHeartbeats 4000000
namespace EM
open PySem PySem.Spec PyProof.Rows L2
inductive Kd where | int (i : Int) | bl (b : Bool) | str (x : Str) | non | uni
deriving DecidableEq
def Kd.m : Kd → MK
  | .int i => .int i
  | .bl b => .int (if b then 1 else 0)
  | .str x => .str x
  | .non => .non
  | .uni => .uni
def Kd.py : Kd → PyData
  | .int i => .int i
  | .bl b => .bool b
  | .str x => .str x
  | .non => .none
  | .uni => .tuple []
def KdV (K : PySem.W.Frag) (G : Hp) : V → Kd → Prop
  | v, .int i => v = .int i
  | v, .bl b => v = .bl b
  | v, .str x => v = .str x
  | v, .non => v = .non
  | v, .uni => ∃ a, v = .ref a ∧ SqT K G a []
def oddO (w : World) (a : Addr) (xs : List MX) : HO := .ext fun h => DM w h a xs ∧ (a == sysModules) = false ∧ xs.length ≤ sizeLine
theorem DM.at {w : World} {h h' : Heap} {d : Addr} {xs : List MX} (x : DM w h d xs) (k : ∀ o, h.get? d = some o → h'.get? d = some o) : DM w h' d xs := let ⟨o, es, ep, ho, r⟩ := x; ⟨o, es, ep, k _ ho, r⟩
theorem odd_ok {P : Program} {w w' : World} {H : Hp} {h : Heap} {a : Addr} {xs : List MX} (x : DM w h a xs) (y : (a == sysModules) = false) (z : xs.length ≤ sizeLine) : ObjOk P w' H h a (oddO w a xs) :=
  ⟨⟨x, y, z⟩, let ⟨o, _, _, ho, _⟩ := x; ⟨o, ho⟩, fun _ _ q k => ⟨q.1.at k, q.2⟩⟩
theorem odd_rd {P : Program} {w w' : World} {H : Hp} {h : Heap} {a : Addr} {xs : List MX} (ok : HOk P w' H h) (e : Rd H a (oddO w a xs)) : DM w h a xs ∧ (a == sysModules) = false ∧ xs.length ≤ sizeLine := (e.ok ok).1
theorem KdV.mono {K : PySem.W.Frag} {G G' : Hp} (s : ∀ a xs, SqT K G a xs → SqT K G' a xs) : ∀ {v : V} {k : Kd}, KdV K G v k → KdV K G' v k
  | _, .int _, h => h
  | _, .bl _, h => h
  | _, .str _, h => h
  | _, .non, h => h
  | _, .uni, ⟨a, e, h⟩ => ⟨a, e, s _ _ h⟩
abbrev KdAll (K : PySem.W.Frag) (G : Hp) : List V → List Kd → Prop := Paired (KdV K G)
section
variable {X : Cx} {pins : List (Addr × Obj)} {σ : L2.St} {H : Hp} {s : Shared}
theorem isM_kd (I : Inv X pins σ H s) : ∀ {v : V} {k : Kd} {u : Value}, KdV X.K H v k → RelV v u → isM s.heap k.m u
  | _, .int i, u, h, r => by cases h; exact .inl r
  | _, .bl b, u, h, r => by cases h; cases r; exact .inr ⟨b, rfl, rfl⟩
  | _, .str x, u, h, r => by cases h; exact r
  | _, .non, u, h, r => by cases h; cases r; rfl
  | _, .uni, u, ⟨a, e, h⟩, r => by
    subst e
    cases r
    obtain ⟨its, rv, t, _⟩ := I.tuple h
    cases rv
    exact ⟨a, rfl, t⟩
theorem isMs_kd (I : Inv X pins σ H s) : ∀ {kvs : List V} {ks : List Kd} {xs : List MX}, KdAll X.K H kvs ks → Vals kvs (xs.map (·.2.1)) → xs.map (·.1) = ks.map Kd.m → IsMs s.heap xs
  | _, _, [], _, _, _ => fun _ h => nomatch h
  | _, _, x :: xs, .nil, hv, hk => by cases hk
  | _, _, x :: xs, .cons a t, .cons b r, hk => by
    rw [List.map_cons, List.map_cons] at hk
    injection hk with h1 h2
    intro y hy
    rcases List.mem_cons.mp hy with rfl | hy
    · rw [h1]
      exact isM_kd I a b
    · exact isMs_kd I t r h2 y hy
theorem reads_kd (I : Inv X pins σ H s) : ∀ {v : V} {k : Kd} {u : Value}, KdV X.K H v k → RelV v u → ∃ as, Reads s.heap u k.py as
  | _, .int i, u, h, r => by cases h; obtain ⟨t, rfl⟩ := r; exact ⟨_, .int i t⟩
  | _, .bl b, u, h, r => by cases h; cases r; exact ⟨_, .bool b⟩
  | _, .str x, u, h, r => by cases h; obtain ⟨t, rfl⟩ := r; exact ⟨_, .str x t⟩
  | _, .non, u, h, r => by cases h; cases r; exact ⟨_, .none⟩
  | _, .uni, u, ⟨a, e, h⟩, r => by
    subst e
    cases r
    obtain ⟨its, rv, ⟨o, ho, hc, n, hd⟩, _⟩ := I.tuple h
    cases rv
    exact ⟨_, .tuple ho hc hd .nil⟩
theorem readsAll_kd (I : Inv X pins σ H s) : ∀ {kvs : List V} {ks : List Kd} {us : List Value}, KdAll X.K H kvs ks → Vals kvs us → ∃ as, ReadsAll s.heap us (ks.map Kd.py) as
  | _, _, _, .nil, .nil => ⟨_, .nil⟩
  | _, _, _, .cons a t, .cons b r => by
    obtain ⟨as, h1⟩ := reads_kd I a b
    obtain ⟨bs, h2⟩ := readsAll_kd I t r
    exact ⟨_, .cons h1 h2⟩
theorem kd_nodict : ∀ ks : List Kd, PyData.hasDictAll (ks.map Kd.py) = false
  | [] => rfl
  | k :: ks => by
    show (PyData.hasDict k.py || PyData.hasDictAll (ks.map Kd.py)) = false
    rw [kd_nodict ks]
    cases k <;> rfl
end
end EM
set_option Elab.async false
set_option linter.all false
set_option maxRecDepth 100000
set_option maxHeartbeats 4000000
namespace EM
open PySem PySem.Spec PyProof.Rows L2
section
variable {P : Program} {w : World} {A : Around} {E : Value → Shared → Prop} {s : Shared} {d : Addr} {es : Array DictEntry} {ep : Nat}
theorem len_raw {Q : Value → Shared → Prop} (hd : (d == sysModules) = false) (hm : s.heap.DictRaw d es ep) (hfit : (es.size : Int) < 2 ^ 63)
    (h : Q (.int es.size (s.toks + 1)) { s with toks := s.toks + 1 + 1 }) : wpAny (model P w) A (call (.builtin "len") [.ref d]) Q E s := by
  refine Calls.call_function_entry kind_len plain_len entry_len (args_len1 _) ?_
  unfold Builtin.«len»
  refine wpAny_bind (m := oneArg "len" _) (wpAny_pure ?_)
  refine wpAny_bind (m := callSpecial? (.ref d) (Str.ofString "__len__")) (wpAny_callSpecial?_slot (name := Str.ofString "__len__") hm.typeIs F.slot_dict_len
    (call_meetsIn F.slot_dict_len hm.typeIs F.entry_dict_len (F.args_dict_len_1 _) (meets_dict_len_raw d hd) ⟨es, ep, hm, ?_⟩))
  show wpAny _ _ _ _ _ { s with toks := s.toks + 1 }
  refine wpAny_bind (wpAny_holding (wpAny_pure ?_))
  refine wpAny_bind (wpAny_letGo ?_)
  show wpAny _ _ (if ((es.size : Nat) : Int) < 0 then _ else _) _ _ _
  rw [if_neg (by omega)]
  show wpAny _ _ (if ((es.size : Nat) : Int) ≥ 2 ^ 63 then _ else _) _ _ _
  rw [if_neg (by omega)]
  exact wpAny_bind (wpAny_mkInt (wpAny_pure ⟨_, rfl, h⟩))
end
section
variable {X : Cx} {pins : List (Addr × Obj)} {σ : L2.St} {H : Hp} {s : Shared} {a : Addr} {xs : List MX} {w' : World} {A : Around} {E : Value → Shared → Prop}
theorem len_odd {Q : Value → Shared → Prop} (I : Inv X pins σ H s) (e : Rd H a (oddO w' a xs)) (h : ∀ t s', Inv X pins σ H s' → Q (.int xs.length t) s') : wpAny (model X.prog X.w) A (call (.builtin "len") [.ref a]) Q E s := by
  obtain ⟨dm, hd, z⟩ := odd_rd I.hok e
  obtain ⟨es, ep, hr, he⟩ := dm.raw
  have hs := size_M he
  refine len_raw hd hr (by rw [hs]; rw [sizeLine_eq] at z; omega) ?_
  rw [hs]
  exact h _ _ (I.tok _)
/-- list(d) -/
theorem list_odd (hc : X.calm = true) {kvs : List V} {Q : VK} (I : Inv X pins σ H s) (e : Rd H a (oddO w' a xs)) (hk : Vals kvs (xs.map (·.2.1))) (q : ∀ p, H p = none → Q (.ref p) (upd H p (.lst kvs))) :
    wpAny (model X.prog X.w) X.A (call (.type "list") [.ref a]) (EP X pins σ Q) X.xe s := by
  obtain ⟨dm, hd, z⟩ := odd_rd I.hok e
  obtain ⟨es, ep, hr, he⟩ := dm.raw
  have hs := size_M he
  refine PySem.W.kdl_call (KdlSrc.rawDict (es := es) (ep := ep) hd) (I.ok.hd hc) hr (by rw [hs]; exact z) fun h' tk acc' c' hkeep hS hacc => ?_
  have hl : kvs.length = xs.length := by rw [hk.length, List.length_map]
  refine ⟨.ref s.heap.objs.size, upd H s.heap.objs.size (.lst kvs), I.laid hkeep (Nat.le_refl _) (show ObjOk X.prog X.w _ _ _ (.lst kvs) from ⟨?_, acc'.toList, c', ?_, ?_⟩), rfl, q _ (I.hok.fresh (Nat.le_refl _))⟩
  · rw [hl]; exact z
  · have e1 : acc'.toList = xs.map (·.2.1) := by
      refine List.ext_getElem? fun j => ?_
      rw [Array.getElem?_toList]
      by_cases hj : j < acc'.size
      · obtain ⟨hi, hv⟩ := hacc.2 j _ (Array.getElem?_eq_getElem hj)
        rw [Array.getElem?_eq_getElem hj, hv, List.getElem?_map]
        have := ent_get he j
        rw [Array.getElem?_eq_getElem hi] at this
        obtain ⟨x, hx, ex⟩ := Option.map_eq_some_iff.mp this.symm
        rw [hx, ← ex]
        rfl
      · rw [Array.getElem?_eq_none (by omega), List.getElem?_eq_none]
        rw [List.length_map, ← hs, ← hacc.1]
        omega
    rw [e1]
    exact hk
  · rw [Array.toArray_toList]; exact hS
/-- d[k] -/
theorem get_odd {Q : Value → Shared → Prop} {k : MK} {u : Value} {j : Nat} {x : MX} (hu : A.units + 1 < cLine) (I : Inv X pins σ H s) (e : Rd H a (oddO X.w a xs)) (his : IsMs s.heap xs) (hk : isM s.heap k u) (hj : atK (·.1) xs k = some j) (hx : xs[j]? = some x)
    (h : ∀ s', Inv X pins σ H s' → Q x.2.2 s') : wpAny (model X.prog X.w) A (getItem (.ref a) u) Q E s := by
  obtain ⟨dm, hd, z⟩ := odd_rd I.hok e
  exact getItemX (v := x.2.2) hu hk dm his hj hx fun t => h _ (I.tok t)
/-- d[k] = v -/
theorem set_odd {Q : Unit → Shared → Prop} {k : MK} {u r : Value} (hu : A.units + 1 < cLine) (I : Inv X pins σ H s) (e : H a = some (oddO X.w a xs)) (his : IsMs s.heap xs) (hk : isM s.heap k u) (hz : xs.length < sizeLine)
    (h : ∀ s', Inv X pins σ (upd H a (oddO X.w a (putX xs k u r))) s' → Q () s') : wpAny (model X.prog X.w) A (setItem (.ref a) u r) Q E s := by
  obtain ⟨dm, hd, z⟩ := odd_rd I.hok (.inl e)
  refine setItemX hu hk dm his (Nat.le_of_lt hz) fun h' t dm' hs => h _ ?_
  have he : ∃ q, h'.get? a = some q := let ⟨q, _, _, hq, _⟩ := dm'; ⟨q, hq⟩
  refine d_write I (by rw [e]; exact True.intro) hs he (odd_ok dm' hd ?_)
  show (putM _ _ _ _ _).length ≤ _
  unfold putM
  split
  · rw [List.length_modify]; omega
  · rw [List.length_append]
    exact hz
/-- d.pop(k) -/
theorem pop_odd {Q : Value → Shared → Prop} {k : MK} {u : Value} {j : Nat} {x : MX} (hu : A.units + 1 < cLine) (I : Inv X pins σ H s) (e : H a = some (oddO X.w a xs)) (his : IsMs s.heap xs) (hk : isM s.heap k u) (hj : atK (·.1) xs k = some j) (hx : xs[j]? = some x)
    (h : ∀ s', Inv X pins σ (upd H a (oddO X.w a (outX xs k))) s' → Q x.2.2 s') : wpAny (model X.prog X.w) A (call (.builtin "dict.pop") [.ref a, u]) Q E s := by
  obtain ⟨dm, hd, z⟩ := odd_rd I.hok (.inl e)
  refine popX hu hk dm his z hj hx fun h' t dm' hs => h _ ?_
  have he : ∃ q, h'.get? a = some q := let ⟨q, _, _, hq, _⟩ := dm'; ⟨q, hq⟩
  refine d_write I (by rw [e]; exact True.intro) hs he (odd_ok dm' hd ?_)
  show (outM _ _ _).length ≤ _
  unfold outM
  split
  · have := List.length_eraseIdx_le xs ‹_›
    omega
  · exact z
theorem nodup_on {α β : Type} {f : α → β} : ∀ {l : List α}, l.Nodup → (∀ a ∈ l, ∀ b ∈ l, f a = f b → a = b) → (l.map f).Nodup
  | [], _, _ => List.nodup_nil
  | a :: l, h, g => by
    rw [List.nodup_cons] at h
    rw [List.map_cons, List.nodup_cons]
    refine ⟨fun z => ?_, nodup_on h.2 fun x hx y hy => g x (List.mem_cons_of_mem _ hx) y (List.mem_cons_of_mem _ hy)⟩
    obtain ⟨b, hb, e⟩ := List.mem_map.mp z
    have := g b (List.mem_cons_of_mem _ hb) a List.mem_cons_self e
    exact h.1 (this ▸ hb)
/-- what may be copied -/
def okC (ks : List MK) : Bool := ks.all (fun k => decide (k ≠ .uni)) || ks.all fun k => match k with | .str _ => false | .int i => decide (i = 0) || decide (i = 1) | _ => true
theorem apart_of {s : Shared} {es : Array DictEntry} (his : IsMs s.heap xs) (hn : (xs.map (·.1)).Nodup) (he : es.toList = xs.map (entM w')) (hc : okC (xs.map (·.1)) = true) : ∀ e ∈ es.toList, KeyApart s es e := by
  intro e hm
  rw [he] at hm
  obtain ⟨x, hx, rfl⟩ := List.mem_map.mp hm
  have hi := his x hx
  cases hk : x.1 with
  | int i => rw [hk] at hi; rcases hi with ⟨t, h⟩ | ⟨b, h, _⟩ <;> exact .inl (by show carriedByValue x.2.1 = true; rw [h]; rfl)
  | str y => rw [hk] at hi; obtain ⟨t, h⟩ := hi; exact .inl (by show carriedByValue x.2.1 = true; rw [h]; rfl)
  | non => rw [hk] at hi; exact .inl (by show carriedByValue x.2.1 = true; rw [show x.2.1 = .none from hi]; rfl)
  | uni =>
    rw [hk] at hi
    obtain ⟨b, h, ht⟩ := hi
    refine .inr ⟨b, h, ht.typeIs, ?_⟩
    unfold okC at hc
    rw [Bool.or_eq_true] at hc
    rcases hc with hc | hc
    · have := List.all_eq_true.mp hc x.1 (List.mem_map_of_mem hx)
      rw [hk] at this
      simp at this
    · rw [← Array.length_toList, Array.toList_filter, he]
      have nd : ((xs.map (entM w')).map (·.hash)).Nodup := by
        rw [List.map_map]
        have e1 : xs.map ((fun e : DictEntry => e.hash) ∘ entM w') = (xs.map (·.1)).map (hashM w') := by rw [List.map_map]; rfl
        rw [e1]
        refine nodup_on hn ?_
        intro k1 h1 k2 h2 eh
        have a1 := List.all_eq_true.mp hc k1 h1
        have a2 := List.all_eq_true.mp hc k2 h2
        have hnone : noneH = 4238894112 := rfl
        have hunit : unitH = 5740354900026072187 := by decide +kernel
        have h0 : hashInt 0 = 0 := by decide +kernel
        have h1' : hashInt 1 = 1 := by decide +kernel
        cases k1 with
        | str _ => cases a1
        | int i =>
          cases k2 with
          | str _ => cases a2
          | int j =>
            simp only [Bool.or_eq_true, decide_eq_true_eq] at a1 a2
            rcases a1 with rfl | rfl <;> rcases a2 with rfl | rfl <;> simp only [hashM, h0, h1'] at eh <;> first | rfl | cases eh
          | non =>
            simp only [Bool.or_eq_true, decide_eq_true_eq] at a1
            rcases a1 with rfl | rfl <;> simp only [hashM, h0, h1', hnone] at eh <;> cases eh
          | uni =>
            simp only [Bool.or_eq_true, decide_eq_true_eq] at a1
            rcases a1 with rfl | rfl <;> simp only [hashM, h0, h1', hunit] at eh <;> cases eh
        | non =>
          cases k2 with
          | str _ => cases a2
          | int j =>
            simp only [Bool.or_eq_true, decide_eq_true_eq] at a2
            rcases a2 with rfl | rfl <;> simp only [hashM, h0, h1', hnone] at eh <;> cases eh
          | non => rfl
          | uni => simp only [hashM, hnone, hunit] at eh; cases eh
        | uni =>
          cases k2 with
          | str _ => cases a2
          | int j =>
            simp only [Bool.or_eq_true, decide_eq_true_eq] at a2
            rcases a2 with rfl | rfl <;> simp only [hashM, h0, h1', hunit] at eh <;> cases eh
          | non => simp only [hashM, hnone, hunit] at eh; cases eh
          | uni => rfl
      exact filter_le_one (fun e : DictEntry => e.hash) _ _ nd
/-- dict(d) -/
theorem copy_odd {Q : Value → Shared → Prop} (hu : A.units + 2 < cLine) (I : Inv X pins σ H s) (e : Rd H a (oddO X.w a xs)) (his : IsMs s.heap xs) (hc : okC (xs.map (·.1)) = true)
    (h : ∀ p s', H p = none → Inv X pins σ (upd H p (oddO X.w p xs)) s' → Q (.ref p) s') : wpAny (model X.prog X.w) A (call (.type "dict") [.ref a]) Q E s := by
  obtain ⟨dm, hd, z⟩ := odd_rd I.hok e
  have hn : (xs.map (·.1)).Nodup := let ⟨_, _, _, _, _, _, _, hn⟩ := dm; hn
  refine copyX hu hd dm his z (fun s' es h1 h2 => apart_of h1 hn h2 hc) fun h' dm' hs => ?_
  refine h _ _ (I.hok.fresh (Nat.le_refl _)) (I.laid (a := s.heap.objs.size) (o := oddO X.w s.heap.objs.size xs) (t' := s.toks) (fun b q hq => ?_) (Nat.le_refl _) (odd_ok dm' (beq_eq_false_iff_ne.mpr (Ne.symm (Nat.ne_of_lt I.big))) z))
  exact (hs.2 b (Nat.ne_of_lt (Heap.lt_size hq))).trans (Heap.get?_push_of_some _ hq)
end
end EM
set_option Elab.async false
set_option linter.all false
set_option maxRecDepth 100000
set_option maxHeartbeats 4000000
namespace EG
open PySem PySem.Spec PyProof.Rows L2 EM
def keyD : Key → PyData
  | .inl i => .int i
  | .inr x => .str x
mutual
inductive Dt (K : PySem.W.Frag) (H : Hp) : V → PyData → Prop
  | non : Dt K H .non .none
  | bl (b : Bool) : Dt K H (.bl b) (.bool b)
  | int (i : Int) : Dt K H (.int i) (.int i)
  | str (x : Str) : Dt K H (.str x) (.str x)
  | lst {a : Addr} {xs : List V} {ds : List PyData} : SqL K H a xs → DtAll K H xs ds → Dt K H (.ref a) (.list ds)
  | tup {a : Addr} {xs : List V} {ds : List PyData} : SqT K H a xs → DtAll K H xs ds → Dt K H (.ref a) (.tuple ds)
  | dct {a : Addr} {kvs : List (Key × V)} {es : List (PyData × PyData)} : Rd H a (.dK kvs) → kvs.map (fun p => keyD p.1) = es.map (·.1) →
      DtAll K H (kvs.map (·.2)) (es.map (·.2)) → Dt K H (.ref a) (.dict es)
  | odd {a : Addr} {w : World} {xs : List MX} {ks : List Kd} {kvs vvs : List V} {es : List (PyData × PyData)} : Rd H a (oddO w a xs) → KdAll K H kvs ks → Vals kvs (xs.map (·.2.1)) → Vals vvs (xs.map (·.2.2)) → ks.map Kd.py = es.map (·.1) →
      DtAll K H vvs (es.map (·.2)) → Dt K H (.ref a) (.dict es)
inductive DtAll (K : PySem.W.Frag) (H : Hp) : List V → List PyData → Prop
  | nil : DtAll K H [] []
  | cons {v : V} {vs : List V} {d : PyData} {ds : List PyData} : Dt K H v d → DtAll K H vs ds → DtAll K H (v :: vs) (d :: ds)
end
theorem sq_t {K : PySem.W.Frag} {H H' : Hp} {a : Addr} {xs : List V} (e : Same H H') (h : SqT K H a xs) : SqT K H' a xs := by
  rcases h with (h | ⟨o, h⟩) | h
  · exact Or.inl (Or.inl (e _ _ h))
  · exact Or.inl (Or.inr ⟨o, e _ _ h⟩)
  · exact Or.inr h
theorem rd_mono {H H' : Hp} {a : Addr} {u : HO} (e : Same H H') (h : Rd H a u) : Rd H' a u := by
  rcases h with h | ⟨o, h⟩
  · exact Or.inl (e _ _ h)
  · exact Or.inr ⟨o, e _ _ h⟩
mutual
theorem Dt.mono {K : PySem.W.Frag} {H H' : Hp} (e : Same H H') : ∀ {v : V} {d : PyData}, Dt K H v d → Dt K H' v d
  | _, _, .non => .non
  | _, _, .bl b => .bl b
  | _, _, .int i => .int i
  | _, _, .str x => .str x
  | _, _, .lst h1 h2 => .lst (e.seq h1) (DtAll.mono e h2)
  | _, _, .tup h1 h2 => .tup (sq_t e h1) (DtAll.mono e h2)
  | _, _, .dct h1 h2 h3 => .dct (rd_mono e h1) h2 (DtAll.mono e h3)
  | _, _, .odd h1 h2 h3 h4 h5 h6 => .odd (rd_mono e h1) (Paired.mapP h2 fun _ _ z => z.mono fun _ _ q => sq_t e q) h3 h4 h5 (DtAll.mono e h6)
theorem DtAll.mono {K : PySem.W.Frag} {H H' : Hp} (e : Same H H') : ∀ {vs : List V} {ds : List PyData}, DtAll K H vs ds → DtAll K H' vs ds
  | _, _, .nil => .nil
  | _, _, .cons h1 h2 => .cons (Dt.mono e h1) (DtAll.mono e h2)
end
theorem DtAll.len {K : PySem.W.Frag} {H : Hp} : ∀ {vs : List V} {ds : List PyData}, DtAll K H vs ds → vs.length = ds.length
  | _, _, .nil => rfl
  | _, _, .cons _ h2 => congrArg (· + 1) (DtAll.len h2)
theorem DtAll.at {K : PySem.W.Frag} {H : Hp} : ∀ {vs : List V} {ds : List PyData} {i : Nat} {v : V}, DtAll K H vs ds → vs[i]? = some v → ∃ d, ds[i]? = some d ∧ Dt K H v d
  | _, _, _, _, .nil, h => by simp at h
  | _, _, 0, _, .cons h1 _, h => by
    simp at h
    subst h
    exact ⟨_, rfl, h1⟩
  | _, _, i + 1, v, .cons _ h2, h => by
    obtain ⟨d, e1, e2⟩ := DtAll.at (i := i) (v := v) h2 (by simpa using h)
    exact ⟨d, by simpa using e1, e2⟩
theorem DtAll.at' {K : PySem.W.Frag} {H : Hp} : ∀ {vs : List V} {ds : List PyData} {i : Nat} {d : PyData}, DtAll K H vs ds → ds[i]? = some d → ∃ v, vs[i]? = some v ∧ Dt K H v d
  | _, _, _, _, .nil, h => by simp at h
  | _, _, 0, _, .cons h1 _, h => by
    simp at h
    subst h
    exact ⟨_, rfl, h1⟩
  | _, _, i + 1, d, .cons _ h2, h => by
    obtain ⟨v, e1, e2⟩ := DtAll.at' (i := i) (d := d) h2 (by simpa using h)
    exact ⟨v, by simpa using e1, e2⟩
theorem DtAll.append {K : PySem.W.Frag} {H : Hp} : ∀ {vs ws : List V} {ds es : List PyData}, DtAll K H vs ds → DtAll K H ws es → DtAll K H (vs ++ ws) (ds ++ es)
  | _, _, _, _, .nil, h => h
  | _, _, _, _, .cons h1 h2, h => .cons h1 (DtAll.append h2 h)
theorem DtAll.strs {K : PySem.W.Frag} {H : Hp} : ∀ (xs : List Str), DtAll K H (xs.map V.str) (xs.map PyData.str)
  | [] => .nil
  | x :: xs => .cons (.str x) (DtAll.strs xs)
section
variable {X : Cx} {pins : List (Addr × Obj)} {σ : L2.St} {H : Hp} {s : Shared}
/-- the entries of a tracked dict, key by key -/
theorem ents {kvs : List (Key × V)} {vs : List (Key × Value)} (r : KV kvs vs) : ∀ {es : List DictEntry}, Pairs (mixKind X.prog X.w) es vs →
    Vals (kvs.map (·.2)) (es.map (·.val)) ∧ ∃ as, ReadsAll s.heap (es.map (·.key)) (kvs.map fun p => keyD p.1) as ∧ as = [] := by
  unfold KV at r
  induction r with
  | nil =>
    intro es h
    cases h
    exact ⟨.nil, [], .nil, rfl⟩
  | @cons p q ps qs h t ih =>
    intro es hp
    cases hp with
    | @cons e _ es' _ hk hv hr =>
      obtain ⟨i1, as, i2, i3⟩ := ih hr
      obtain ⟨e1, e2⟩ := h
      refine ⟨.cons (by show RelV p.2 e.val; rw [hv]; exact e2) i1, ?_⟩
      subst i3
      have hk' : keyIs p.1 e.key = true := by rw [e1]; exact hk
      rcases keyIs_shape hk' with ⟨i, tk, a1, a2⟩ | ⟨x, tk, a1, a2⟩
      · refine ⟨[], ?_, rfl⟩
        show ReadsAll s.heap (e.key :: _) (keyD p.1 :: _) ([] ++ [])
        rw [a1, a2]
        exact .cons (.int i tk) i2
      · refine ⟨[], ?_, rfl⟩
        show ReadsAll s.heap (e.key :: _) (keyD p.1 :: _) ([] ++ [])
        rw [a1, a2]
        exact .cons (.str x tk) i2
theorem keys_nodict (kvs : List (Key × V)) : PyData.hasDictAll (kvs.map fun p => keyD p.1) = false := by
  induction kvs with
  | nil => rfl
  | cons p ps ih =>
    obtain ⟨k, v⟩ := p
    show (PyData.hasDict (keyD k) || PyData.hasDictAll (ps.map fun p => keyD p.1)) = false
    rw [ih]
    cases k <;> rfl
theorem sz_vals : ∀ es : List (PyData × PyData), sizeOf (es.map (·.2)) ≤ sizeOf es
  | [] => Nat.le_refl _
  | (k, v) :: r => by
    have := sz_vals r
    simp only [List.map_cons, List.cons.sizeOf_spec, Prod.mk.sizeOf_spec]
    omega
mutual
theorem Dt.shows (I : Inv X pins σ H s) : ∀ (d : PyData) (v : V) (u : Value), Dt X.K H v d → RelV v u → d.showable = true → d.shown.length ≤ sizeLine →
    ∃ as bs, Reads s.heap u d as ∧ ReadAtMost s.heap d.depth bs ∧ ReprK X.prog X.w bs s.heap d.depth u d.shown
  | .none, _, _, h, r, _, _ => by
    cases h
    cases r
    exact ⟨_, [], .none, (fun _ z => nomatch z), by simp only [PyData.shown]; exact .of_is ReprIs.none _ _ _⟩
  | .bool b, _, _, h, r, _, _ => by
    cases h
    cases r
    exact ⟨_, [], .bool b, (fun _ z => nomatch z), by simp only [PyData.shown]; exact .of_is (ReprIs.bool b) _ _ _⟩
  | .int i, _, _, h, r, hs, _ => by
    cases h
    obtain ⟨t, rfl⟩ := r
    exact ⟨_, [], .int i t, (fun _ z => nomatch z), by simp only [PyData.shown]; exact .of_is (ReprIs.int t (by simpa [PyData.showable] using hs)) _ _ _⟩
  | .str x, _, _, h, r, _, hz => by
    cases h
    obtain ⟨t, rfl⟩ := r
    exact ⟨_, [], .str x t, (fun _ z => nomatch z), by simp only [PyData.shown]; exact .of_is (ReprIs.str x t (by simpa only [PyData.shown] using hz)) _ _ _⟩
  | .list ds, _, _, h, r, hs, hz => by
    cases h with
    | @lst a _ _ hq ha =>
      cases r
      obtain ⟨its, rv, ⟨o, n, ho, hc, _, hd⟩, _⟩ := I.list hq
      have hz' : (listText (PyData.shownAll ds)).length ≤ sizeLine := by simpa only [PyData.shown] using hz
      obtain ⟨as, bs, rs, hb, hk⟩ := Dt.showsAll I ds _ its ha rv (by simpa [PyData.showable] using hs) (fun t ht => Nat.le_trans (listText_mem_le ht) hz')
      have rr : Reads s.heap (.ref a) (.list ds) (a :: as) := .list ho hc hd (by simpa using rs)
      have na : a ∉ bs := not_mem_of_deeper rr (by simp only [PyData.depth]; omega) hb
      refine ⟨_, a :: bs, rr, ReadAtMost.cons rr (by simp only [PyData.depth]; omega) hb, ?_⟩
      simp only [PyData.depth, PyData.shown]
      cases its with
      | nil =>
        cases rs
        simp only [PyData.shownAll, listText_nil]
        exact ReprK.listEmpty ho hc hd
      | cons y l => exact ReprK.list ho hc hd na (by simpa using hk.length_eq) (fun i z e => hk.item i z (by simpa using e))
  | .tuple ds, _, _, h, r, hs, hz => by
    cases h with
    | @tup a _ _ hq ha =>
      cases r
      obtain ⟨its, rv, ⟨o, ho, hc, n, hd⟩, _⟩ := I.tuple hq
      have hz' : (tupleText (PyData.shownAll ds)).length ≤ sizeLine := by simpa only [PyData.shown] using hz
      obtain ⟨as, bs, rs, hb, hk⟩ := Dt.showsAll I ds _ its ha rv (by simpa [PyData.showable] using hs) (fun t ht => Nat.le_trans (tupleText_mem_le ht) hz')
      have rr : Reads s.heap (.ref a) (.tuple ds) as := .tuple ho hc hd (by simpa using rs)
      have na : a ∉ bs := not_mem_of_deeper rr (by simp only [PyData.depth]; omega) hb
      refine ⟨_, a :: bs, rr, ReadAtMost.cons rr (by simp only [PyData.depth]; omega) hb, ?_⟩
      simp only [PyData.depth, PyData.shown]
      exact ReprK.tuple ho hc hd na (by simpa using hk)
  | .dict es, _, _, h, r, hs, hz => by
    cases h with
    | @dct a kvs _ hq hke ha =>
      cases r
      obtain ⟨_, hsys, vs, kv, o, en, ep, ho, hx, hd, _, hp, _⟩ := hq.ok I.hok
      have hz' : (dictText (PyData.shownKv es)).length ≤ sizeLine := by simpa only [PyData.shown] using hz
      obtain ⟨s1, s2⟩ := PyData.showableKv_split es (by simpa [PyData.showable] using hs)
      obtain ⟨rv, as1, r1, e1⟩ := ents (s := s) kv hp
      rw [hke] at r1
      obtain ⟨b1, hb1, k1⟩ := ReprAllK.of_readsAll (prog := X.prog) (w := X.w) r1 s1 (fun z => by rw [← hke, keys_nodict] at z; cases z)
        (fun t ht => let ⟨p, hp, hl⟩ := PyData.shownKv_key_le es t ht; Nat.le_trans hl (Nat.le_trans (dictText_mem_le hp) hz'))
      obtain ⟨as2, b2, r2, hb2, k2⟩ := Dt.showsAll I (es.map (·.2)) _ _ ha rv s2
        (fun t ht => let ⟨p, hp, hl⟩ := PyData.shownKv_val_le es t ht; Nat.le_trans hl (Nat.le_trans (dictText_mem_le hp) hz'))
      have rr : Reads s.heap (.ref a) (.dict es) (a :: as1 ++ as2) := .dict ho hx.1 hd r1 r2
      have hb : ReadAtMost s.heap (PyData.depthKv es) (b1 ++ b2) := (hb1.mono (PyData.depthAll_keys_le es)).append (hb2.mono (PyData.depthAll_vals_le es))
      have na : a ∉ b1 ++ b2 := not_mem_of_deeper rr (by simp only [PyData.depth]; omega) hb
      refine ⟨_, a :: (b1 ++ b2), rr, ReadAtMost.cons rr (by simp only [PyData.depth]; omega) hb, ?_⟩
      simp only [PyData.depth, PyData.shown, PyData.shownKv_eq]
      exact ReprK.dict ho hx.1 hd hsys na (ReprEntriesK.of_two en.toList _ _
        (k1.more_le (fun b z => List.mem_append_left _ z) (PyData.depthAll_keys_le es)) (k2.more_le (fun b z => List.mem_append_right _ z) (PyData.depthAll_vals_le es)))
    | @odd a wd xs ks kvs vvs _ hq hkd hkv hvv hke ha =>
      cases r
      obtain ⟨⟨o, en, ep, ho, hx, hd, hen, _⟩, hsys, _⟩ := odd_rd I.hok hq
      have hz' : (dictText (PyData.shownKv es)).length ≤ sizeLine := by simpa only [PyData.shown] using hz
      obtain ⟨s1, s2⟩ := PyData.showableKv_split es (by simpa [PyData.showable] using hs)
      have ek : en.toList.map (·.key) = xs.map (·.2.1) := by rw [hen, List.map_map]; rfl
      have ev : en.toList.map (·.val) = xs.map (·.2.2) := by rw [hen, List.map_map]; rfl
      have rv : Vals vvs (en.toList.map (·.val)) := by rw [ev]; exact hvv
      obtain ⟨as1, r1⟩ := readsAll_kd I hkd hkv
      rw [← ek, hke] at r1
      obtain ⟨b1, hb1, k1⟩ := ReprAllK.of_readsAll (prog := X.prog) (w := X.w) r1 s1 (fun z => by rw [← hke, kd_nodict] at z; cases z)
        (fun t ht => let ⟨p, hp, hl⟩ := PyData.shownKv_key_le es t ht; Nat.le_trans hl (Nat.le_trans (dictText_mem_le hp) hz'))
      obtain ⟨as2, b2, r2, hb2, k2⟩ := Dt.showsAll I (es.map (·.2)) _ _ ha rv s2
        (fun t ht => let ⟨p, hp, hl⟩ := PyData.shownKv_val_le es t ht; Nat.le_trans hl (Nat.le_trans (dictText_mem_le hp) hz'))
      have rr : Reads s.heap (.ref a) (.dict es) (a :: as1 ++ as2) := .dict ho hx.1 hd r1 r2
      have hb : ReadAtMost s.heap (PyData.depthKv es) (b1 ++ b2) := (hb1.mono (PyData.depthAll_keys_le es)).append (hb2.mono (PyData.depthAll_vals_le es))
      have na : a ∉ b1 ++ b2 := not_mem_of_deeper rr (by simp only [PyData.depth]; omega) hb
      refine ⟨_, a :: (b1 ++ b2), rr, ReadAtMost.cons rr (by simp only [PyData.depth]; omega) hb, ?_⟩
      simp only [PyData.depth, PyData.shown, PyData.shownKv_eq]
      exact ReprK.dict ho hx.1 hd hsys na (ReprEntriesK.of_two en.toList _ _
        (k1.more_le (fun b z => List.mem_append_left _ z) (PyData.depthAll_keys_le es)) (k2.more_le (fun b z => List.mem_append_right _ z) (PyData.depthAll_vals_le es)))
  termination_by d => sizeOf d
  decreasing_by
    all_goals first
      | decreasing_tactic
      | (have := sz_vals es; simp only [PyData.dict.sizeOf_spec]; omega)
theorem Dt.showsAll (I : Inv X pins σ H s) : ∀ (ds : List PyData) (vs : List V) (us : List Value), DtAll X.K H vs ds → Vals vs us → PyData.showableAll ds = true → (∀ t ∈ PyData.shownAll ds, t.length ≤ sizeLine) →
    ∃ as bs, ReadsAll s.heap us ds as ∧ ReadAtMost s.heap (PyData.depthAll ds) bs ∧ ReprAllK X.prog X.w bs s.heap (PyData.depthAll ds) us (PyData.shownAll ds)
  | [], _, _, h, r, _, _ => by
    cases h
    cases r
    exact ⟨_, [], .nil, (fun _ z => nomatch z), by simp only [PyData.shownAll]; exact .nil⟩
  | d :: ds, _, _, h, r, hs, hz => by
    cases h with
    | cons h1 h2 =>
      cases r with
      | cons r1 r2 =>
        have hs' : d.showable = true ∧ PyData.showableAll ds = true := by simpa [PyData.showableAll] using hs
        obtain ⟨a1, b1, q1, hb1, k1⟩ := Dt.shows I d _ _ h1 r1 hs'.1 (hz _ (by simp only [PyData.shownAll]; exact List.mem_cons_self ..))
        obtain ⟨a2, b2, q2, hb2, k2⟩ := Dt.showsAll I ds _ _ h2 r2 hs'.2 (fun t ht => hz t (by simp only [PyData.shownAll]; exact List.mem_cons_of_mem _ ht))
        refine ⟨_, b1 ++ b2, .cons q1 q2, ?_, ?_⟩
        · simp only [PyData.depthAll]
          exact (hb1.mono (Nat.le_max_left _ _)).append (hb2.mono (Nat.le_max_right _ _))
        · simp only [PyData.depthAll, PyData.shownAll]
          exact .cons ((k1.more fun b z => List.mem_append_left _ z).level_le (Nat.le_max_left _ _)) (k2.more_le (fun b z => List.mem_append_right _ z) (Nat.le_max_right _ _))
  termination_by ds => sizeOf ds
  decreasing_by all_goals decreasing_tactic
end
/-- repr(x), x data: its text -/
def rRepr (K : PySem.W.Frag) : List V → Hp → VK → Prop := fun xs H Q => ∃ x d, xs = [x] ∧ Dt K H x d ∧ d.showable = true ∧ d.depth ≤ 60 ∧ d.shown.length ≤ sizeLine ∧ (∃ a, x = .ref a) ∧ Q (.str d.shown) H
theorem call_reprD (gd : X.A.guards = some []) (hu : X.A.units + 64 < cLine) : CallR X (.builtin "repr") (rRepr X.K) := by
  intro pins s σ H xs us Q I r h
  obtain ⟨x, d, rfl, hd, sh, dp, sz, ⟨a, rfl⟩, q⟩ := h
  obtain ⟨u, rfl, ru⟩ : ∃ u, us = [u] ∧ RelV (.ref a) u := by
    cases r with
    | cons r1 r2 =>
      cases r2
      exact ⟨_, rfl, r1⟩
  cases ru
  have fin : ∀ h' t tk, (∀ b o, s.heap.get? b = some o → h'.get? b = some o) → EP X pins σ Q (.str d.shown t) { s with heap := h', toks := tk } :=
    fun h' t tk k => ⟨.str d.shown, H, I.kept (t' := tk) k, ⟨t, rfl⟩, q⟩
  cases hd with
  | @lst _ _ ds hq ha =>
    obtain ⟨its, rv, ⟨o, n, ho, hc, _, he⟩, _⟩ := I.list hq
    have hz' : (listText (PyData.shownAll ds)).length ≤ sizeLine := by simpa only [PyData.shown] using sz
    obtain ⟨as, bs, rs, hb, hk⟩ := Dt.showsAll I ds _ its ha rv (by simpa [PyData.showable] using sh) (fun t ht => Nat.le_trans (listText_mem_le ht) hz')
    have rr : Reads s.heap (.ref a) (.list ds) (a :: as) := .list ho hc he (by simpa using rs)
    have na : a ∉ bs := not_mem_of_deeper rr (by simp only [PyData.depth]; omega) hb
    have e1 : PyData.depthAll ds + 1 ≤ 60 := by simpa only [PyData.depth] using dp
    refine call_repr_slot (by omega) ⟨o, ho, hc⟩ F.slot_list_repr.toG ?_
    simp only [PyData.shown] at fin
    cases its with
    | nil =>
      cases rs
      simp only [PyData.shownAll, listText_nil] at fin
      exact call_list_repr_empty ⟨o, ho, hc⟩ ho he ⟨_, _, rfl, fin s.heap _ _ fun _ _ z => z⟩
    | cons y l =>
      exact call_list_reprK ho hc he na (by simpa using hk.length_eq) (fun i z e => hk.item i z (by simpa using e)) gd (fun b _ => Clear.nil b)
        (by show X.A.units + 1 + (PyData.depthAll ds + 1) < cLine; omega) (fun _ _ z => z) (fun h' t tk k => ⟨_, _, rfl, fin h' t tk k⟩) hz'
  | @tup _ _ ds hq ha =>
    obtain ⟨its, rv, ⟨o, ho, hc, n, he⟩, _⟩ := I.tuple hq
    have hz' : (tupleText (PyData.shownAll ds)).length ≤ sizeLine := by simpa only [PyData.shown] using sz
    obtain ⟨as, bs, rs, hb, hk⟩ := Dt.showsAll I ds _ its ha rv (by simpa [PyData.showable] using sh) (fun t ht => Nat.le_trans (tupleText_mem_le ht) hz')
    have rr : Reads s.heap (.ref a) (.tuple ds) as := .tuple ho hc he (by simpa using rs)
    have na : a ∉ bs := not_mem_of_deeper rr (by simp only [PyData.depth]; omega) hb
    have e1 : PyData.depthAll ds + 1 ≤ 60 := by simpa only [PyData.depth] using dp
    refine call_repr_slot (by omega) ⟨o, ho, hc⟩ F.slot_tuple_repr ?_
    simp only [PyData.shown] at fin
    exact call_tuple_reprK ho hc he na (by simpa using hk) gd (fun b _ => Clear.nil b)
      (by show X.A.units + 1 + (PyData.depthAll ds + 1) < cLine; omega) (fun _ _ z => z) (fun h' t tk k => ⟨_, _, rfl, fin h' t tk k⟩) hz'
  | @dct _ kvs es hq hke ha =>
    obtain ⟨_, hsys, vs, kv, o, en, ep, ho, hx, he, _, hp, _⟩ := hq.ok I.hok
    have hz' : (dictText (PyData.shownKv es)).length ≤ sizeLine := by simpa only [PyData.shown] using sz
    obtain ⟨s1, s2⟩ := PyData.showableKv_split es (by simpa [PyData.showable] using sh)
    obtain ⟨rv, as1, r1, e1⟩ := ents (s := s) kv hp
    rw [hke] at r1
    obtain ⟨b1, hb1, k1⟩ := ReprAllK.of_readsAll (prog := X.prog) (w := X.w) r1 s1 (fun z => by rw [← hke, keys_nodict] at z; cases z)
      (fun t ht => let ⟨p, hp, hl⟩ := PyData.shownKv_key_le es t ht; Nat.le_trans hl (Nat.le_trans (dictText_mem_le hp) hz'))
    obtain ⟨as2, b2, r2, hb2, k2⟩ := Dt.showsAll I (es.map (·.2)) _ _ ha rv s2
      (fun t ht => let ⟨p, hp, hl⟩ := PyData.shownKv_val_le es t ht; Nat.le_trans hl (Nat.le_trans (dictText_mem_le hp) hz'))
    have rr : Reads s.heap (.ref a) (.dict es) (a :: as1 ++ as2) := .dict ho hx.1 he r1 r2
    have hb : ReadAtMost s.heap (PyData.depthKv es) (b1 ++ b2) := (hb1.mono (PyData.depthAll_keys_le es)).append (hb2.mono (PyData.depthAll_vals_le es))
    have na : a ∉ b1 ++ b2 := not_mem_of_deeper rr (by simp only [PyData.depth]; omega) hb
    have e1 : PyData.depthKv es + 1 ≤ 60 := by simpa only [PyData.depth] using dp
    refine call_repr_slot (by omega) ⟨o, ho, hx.1⟩ F.slot_dict_repr ?_
    simp only [PyData.shown, PyData.shownKv_eq] at fin
    exact call_dict_reprK ho hx.1 he hsys na (ReprEntriesK.of_two en.toList _ _
      (k1.more_le (fun b z => List.mem_append_left _ z) (PyData.depthAll_keys_le es)) (k2.more_le (fun b z => List.mem_append_right _ z) (PyData.depthAll_vals_le es))) gd (fun b _ => Clear.nil b)
      (by show X.A.units + 1 + (PyData.depthKv es + 1) < cLine; omega) (fun _ _ z => z) (fun h' t tk k => ⟨_, _, rfl, fin h' t tk k⟩) (by rw [← PyData.shownKv_eq]; exact hz')
  | @odd _ wd xs ks kvs vvs es hq hkd hkv hvv hke ha =>
    obtain ⟨⟨o, en, ep, ho, hx, he, hen, _⟩, hsys, _⟩ := odd_rd I.hok hq
    have hz' : (dictText (PyData.shownKv es)).length ≤ sizeLine := by simpa only [PyData.shown] using sz
    obtain ⟨s1, s2⟩ := PyData.showableKv_split es (by simpa [PyData.showable] using sh)
    have ek : en.toList.map (·.key) = xs.map (·.2.1) := by rw [hen, List.map_map]; rfl
    have ev : en.toList.map (·.val) = xs.map (·.2.2) := by rw [hen, List.map_map]; rfl
    have rv : Vals vvs (en.toList.map (·.val)) := by rw [ev]; exact hvv
    obtain ⟨as1, r1⟩ := readsAll_kd I hkd hkv
    rw [← ek, hke] at r1
    obtain ⟨b1, hb1, k1⟩ := ReprAllK.of_readsAll (prog := X.prog) (w := X.w) r1 s1 (fun z => by rw [← hke, kd_nodict] at z; cases z)
      (fun t ht => let ⟨p, hp, hl⟩ := PyData.shownKv_key_le es t ht; Nat.le_trans hl (Nat.le_trans (dictText_mem_le hp) hz'))
    obtain ⟨as2, b2, r2, hb2, k2⟩ := Dt.showsAll I (es.map (·.2)) _ _ ha rv s2
      (fun t ht => let ⟨p, hp, hl⟩ := PyData.shownKv_val_le es t ht; Nat.le_trans hl (Nat.le_trans (dictText_mem_le hp) hz'))
    have rr : Reads s.heap (.ref a) (.dict es) (a :: as1 ++ as2) := .dict ho hx.1 he r1 r2
    have hb : ReadAtMost s.heap (PyData.depthKv es) (b1 ++ b2) := (hb1.mono (PyData.depthAll_keys_le es)).append (hb2.mono (PyData.depthAll_vals_le es))
    have na : a ∉ b1 ++ b2 := not_mem_of_deeper rr (by simp only [PyData.depth]; omega) hb
    have e1 : PyData.depthKv es + 1 ≤ 60 := by simpa only [PyData.depth] using dp
    refine call_repr_slot (by omega) ⟨o, ho, hx.1⟩ F.slot_dict_repr ?_
    simp only [PyData.shown, PyData.shownKv_eq] at fin
    exact call_dict_reprK ho hx.1 he hsys na (ReprEntriesK.of_two en.toList _ _
      (k1.more_le (fun b z => List.mem_append_left _ z) (PyData.depthAll_keys_le es)) (k2.more_le (fun b z => List.mem_append_right _ z) (PyData.depthAll_vals_le es))) gd (fun b _ => Clear.nil b)
      (by show X.A.units + 1 + (PyData.depthKv es + 1) < cLine; omega) (fun _ _ z => z) (fun h' t tk k => ⟨_, _, rfl, fin h' t tk k⟩) (by rw [← PyData.shownKv_eq]; exact hz')
end
end EG
set_option Elab.async false
set_option linter.all false
set_option maxRecDepth 100000
set_option maxHeartbeats 4000000
namespace EW
open PySem PySem.Spec PyProof.Rows L2 EG EM
inductive Dat where
  | non | bl (b : Bool) | int (i : Int) | str (x : Str)
  /-- a list, a dict: the truth says that it is new -/
  | lst (t : Bool) (ds : List Dat) | tup (ds : List Dat) | dct (t : Bool) (es : List (Key × Dat)) | ins (C : Addr) (fs : List (Str × Dat))
  /-- a dict with keys of mixed kinds, in a world -/
  | odd (w : World) (t : Bool) (es : List (Kd × Dat))
  /-- nothing is known -/
  | any
  /-- the reference a: what stands there is told elsewhere -/
  | adr (a : Addr)
mutual
/-- the value v is the datum, in the heap G; O: what is old -/
inductive Rp (K : PySem.W.Frag) (O G : Hp) : V → Dat → Prop
  | non : Rp K O G .non .non
  | bl (b : Bool) : Rp K O G (.bl b) (.bl b)
  | int (i : Int) : Rp K O G (.int i) (.int i)
  | str (x : Str) : Rp K O G (.str x) (.str x)
  | any (a : Addr) : Rp K O G (.ref a) .any
  | adr (a : Addr) : Rp K O G (.ref a) (.adr a)
  | lst {a : Addr} {xs : List V} {t : Bool} {ds : List Dat} : G a = some (.lst xs) → RpAll K O G xs ds → (t = true → O a = none) → Rp K O G (.ref a) (.lst t ds)
  | tup {a : Addr} {xs : List V} {ds : List Dat} : SqT K G a xs → RpAll K O G xs ds → Rp K O G (.ref a) (.tup ds)
  | dct {a : Addr} {o : Obj} {kvs : List (Key × V)} {t : Bool} {es : List (Key × Dat)} : G a = some (.frz o (.dK kvs)) → kvs.map (·.1) = es.map (·.1) → RpAll K O G (kvs.map (·.2)) (es.map (·.2)) → (t = true → O a = none) → Rp K O G (.ref a) (.dct t es)
  | ins {a C dx : Addr} {fs : List (Str × V)} {es : List (Str × Dat)} : G a = some (.ins C dx fs) → fs.map (·.1) = es.map (·.1) → RpAll K O G (fs.map (·.2)) (es.map (·.2)) → Rp K O G (.ref a) (.ins C es)
  | odd {a : Addr} {o : Obj} {w : World} {xs : List MX} {kvs vvs : List V} {t : Bool} {es : List (Kd × Dat)} : G a = some (.frz o (oddO w a xs)) → xs.map (·.1) = es.map (·.1.m) → Vals kvs (xs.map (·.2.1)) → Vals vvs (xs.map (·.2.2)) →
      KdAll K G kvs (es.map (·.1)) → RpAll K O G vvs (es.map (·.2)) → (t = true → O a = none) → Rp K O G (.ref a) (.odd w t es)
inductive RpAll (K : PySem.W.Frag) (O G : Hp) : List V → List Dat → Prop
  | nil : RpAll K O G [] []
  | cons {v : V} {vs : List V} {d : Dat} {ds : List Dat} : Rp K O G v d → RpAll K O G vs ds → RpAll K O G (v :: vs) (d :: ds)
end
section
variable {K : PySem.W.Frag} {O G G' : Hp}
theorem sq_t' (s : Same G G') {a : Addr} {xs : List V} (h : SqT K G a xs) : SqT K G' a xs := by
  rcases h with (h | ⟨o, h⟩) | h
  · exact .inl (.inl (s _ _ h))
  · exact .inl (.inr ⟨o, s _ _ h⟩)
  · exact .inr h
mutual
theorem Rp.mono (s : Same G G') : ∀ {v : V} {d : Dat}, Rp K O G v d → Rp K O G' v d
  | _, _, .non => .non
  | _, _, .bl b => .bl b
  | _, _, .int i => .int i
  | _, _, .str x => .str x
  | _, _, .any a => .any a
  | _, _, .adr a => .adr a
  | _, _, .lst h1 h2 h3 => .lst (s _ _ h1) (RpAll.mono s h2) h3
  | _, _, .tup h1 h2 => .tup (sq_t' s h1) (RpAll.mono s h2)
  | _, _, .dct h1 h2 h3 h4 => .dct (s _ _ h1) h2 (RpAll.mono s h3) h4
  | _, _, .ins h1 h2 h3 => .ins (s _ _ h1) h2 (RpAll.mono s h3)
  | _, _, .odd h1 h2 h3 h4 h5 h6 h7 => .odd (s _ _ h1) h2 h3 h4 (Paired.mapP h5 fun _ _ z => z.mono fun _ _ q => sq_t' s q) (RpAll.mono s h6) h7
theorem RpAll.mono (s : Same G G') : ∀ {vs : List V} {ds : List Dat}, RpAll K O G vs ds → RpAll K O G' vs ds
  | _, _, .nil => .nil
  | _, _, .cons h1 h2 => .cons (Rp.mono s h1) (RpAll.mono s h2)
end
theorem KdAll.same (s : Same G G') {vs : List V} {ks : List Kd} (h : KdAll K G vs ks) : KdAll K G' vs ks := Paired.mapP h fun _ _ z => z.mono fun _ _ q => sq_t' s q
mutual
/-- fewer things are old -/
theorem Rp.older {O' : Hp} (s : ∀ a, O a = none → O' a = none) : ∀ {v : V} {d : Dat}, Rp K O G v d → Rp K O' G v d
  | _, _, .non => .non
  | _, _, .bl b => .bl b
  | _, _, .int i => .int i
  | _, _, .str x => .str x
  | _, _, .any a => .any a
  | _, _, .adr a => .adr a
  | _, _, .lst h1 h2 h3 => .lst h1 (RpAll.older s h2) fun z => s _ (h3 z)
  | _, _, .tup h1 h2 => .tup h1 (RpAll.older s h2)
  | _, _, .dct h1 h2 h3 h4 => .dct h1 h2 (RpAll.older s h3) fun z => s _ (h4 z)
  | _, _, .ins h1 h2 h3 => .ins h1 h2 (RpAll.older s h3)
  | _, _, .odd h1 h2 h3 h4 h5 h6 h7 => .odd h1 h2 h3 h4 h5 (RpAll.older s h6) fun z => s _ (h7 z)
theorem RpAll.older {O' : Hp} (s : ∀ a, O a = none → O' a = none) : ∀ {vs : List V} {ds : List Dat}, RpAll K O G vs ds → RpAll K O' G vs ds
  | _, _, .nil => .nil
  | _, _, .cons h1 h2 => .cons (Rp.older s h1) (RpAll.older s h2)
end
theorem RpAll.len : ∀ {vs : List V} {ds : List Dat}, RpAll K O G vs ds → vs.length = ds.length
  | _, _, .nil => rfl
  | _, _, .cons _ h2 => congrArg (· + 1) (RpAll.len h2)
theorem RpAll.at' : ∀ {vs : List V} {ds : List Dat} {i : Nat} {d : Dat}, RpAll K O G vs ds → ds[i]? = some d → ∃ v, vs[i]? = some v ∧ Rp K O G v d
  | _, _, _, _, .nil, h => by simp at h
  | _, _, 0, _, .cons h1 _, h => by
    simp at h
    subst h
    exact ⟨_, rfl, h1⟩
  | _, _, i + 1, d, .cons _ h2, h => by
    obtain ⟨v, e1, e2⟩ := RpAll.at' (i := i) (d := d) h2 (by simpa using h)
    exact ⟨v, by simpa using e1, e2⟩
theorem RpAll.at : ∀ {vs : List V} {ds : List Dat} {i : Nat} {v : V}, RpAll K O G vs ds → vs[i]? = some v → ∃ d, ds[i]? = some d ∧ Rp K O G v d
  | _, _, _, _, .nil, h => by simp at h
  | _, _, 0, _, .cons h1 _, h => by
    simp at h
    subst h
    exact ⟨_, rfl, h1⟩
  | _, _, i + 1, v, .cons _ h2, h => by
    obtain ⟨d, e1, e2⟩ := RpAll.at (i := i) (v := v) h2 (by simpa using h)
    exact ⟨d, by simpa using e1, e2⟩
theorem RpAll.append : ∀ {vs ws : List V} {ds es : List Dat}, RpAll K O G vs ds → RpAll K O G ws es → RpAll K O G (vs ++ ws) (ds ++ es)
  | _, _, _, _, .nil, h => h
  | _, _, _, _, .cons h1 h2, h => .cons h1 (RpAll.append h2 h)
theorem RpAll.drop : ∀ {vs : List V} {ds : List Dat} (n : Nat), RpAll K O G vs ds → RpAll K O G (vs.drop n) (ds.drop n)
  | _, _, 0, r => r
  | _, _, _ + 1, .nil => .nil
  | _, _, n + 1, .cons _ t => RpAll.drop n t
theorem RpAll.take : ∀ {vs : List V} {ds : List Dat} (n : Nat), RpAll K O G vs ds → RpAll K O G (vs.take n) (ds.take n)
  | _, _, 0, _ => .nil
  | _, _, _ + 1, .nil => .nil
  | _, _, n + 1, .cons h t => .cons h (RpAll.take n t)
end
structure Bag (H : Hp) (b l : Addr) : Prop where
  at_ : ∃ (x y k : Int) (ns : List Int), H b = some (.lst [.int x, .int y, .int k, .ref l]) ∧ H l = some (.lst (ns.map V.int)) ∧ b ≠ l ∧ 0 ≤ x ∧ 0 ≤ y ∧ 0 ≤ k ∧ ns.length ≤ 63 ∧ ∀ n ∈ ns, 0 ≤ n
abbrev Bg := Option (Addr × Addr)
def NotB (B : Bg) (a : Addr) : Prop := ∀ b l, B = some (b, l) → a ≠ b
/-- G is what stays as it is -/
structure Wd (B : Bg) (O G H : Hp) : Prop where
  s : Same G H
  old : ∀ a, H a = none → O a = none
  bag : ∀ b l, B = some (b, l) → G b = none ∧ (∃ o, G l = some o) ∧ Bag H b l
structure Stp (B : Bg) (O G H G' H' : Hp) : Prop where
  g : Same G G'
  w : Wd B O G' H'
  keep : ∀ a o, NotB B a → H a = some o → H' a = some o
  new : ∀ a, G a = none → H a ≠ none → G' a = none
section
variable {B : Bg} {p : Addr} {O G H G1 H1 G2 H2 : Hp} {o : HO}
theorem Wd.refl (w : Wd B O G H) : Stp B O G H G H := ⟨Same.refl _, w, fun _ _ _ e => e, fun _ h _ => h⟩
theorem Bag.some {H : Hp} {b l : Addr} (h : Bag H b l) : H b ≠ none := by
  obtain ⟨x, y, k, ns, h1, _⟩ := h.at_
  rw [h1]
  exact Option.some_ne_none _
theorem Stp.trans (a : Stp B O G H G1 H1) (c : Stp B O G1 H1 G2 H2) : Stp B O G H G2 H2 := by
  refine ⟨a.g.trans c.g, c.w, fun x o n e => c.keep x o n (a.keep x o n e), fun x h1 h2 => c.new x (a.new x h1 h2) ?_⟩
  by_cases e : ∃ l, B = some (x, l)
  · obtain ⟨l, e⟩ := e
    exact (a.w.bag x l e).2.2.some
  · cases q : H x with
    | none => exact absurd q h2
    | some u =>
      rw [a.keep x u (fun b l hb z => e ⟨l, by rw [z]; exact hb⟩) q]
      exact Option.some_ne_none _
theorem same_new {H H1 : Hp} {p : Addr} {o : HO} (s : Same H H1) (hp : H1 p = none) : Same H (upd H1 p o) := fun b u e => by
  have e1 := s b u e
  rw [upd_ne (ne_of_none e1 hp)]
  exact e1
theorem same_upd {H H1 : Hp} {p : Addr} {o : HO} (s : Same H H1) (hp : H p = none) : Same H (upd H1 p o) := fun b u e => by
  rw [upd_ne (ne_of_none e hp)]
  exact s b u e
theorem Bag.same {H H1 : Hp} {b l : Addr} (B : Bag H b l) (s : Same H H1) : Bag H1 b l := by
  obtain ⟨x, y, k, ns, h1, h2, h3⟩ := B.at_
  exact ⟨⟨x, y, k, ns, s _ _ h1, s _ _ h2, h3⟩⟩
theorem none_of {H : Hp} {a p : Addr} {o : HO} (h : upd H p o a = none) : H a = none := by
  by_cases z : a = p
  · rw [z, upd_same] at h
    cases h
  · rw [upd_ne z] at h
    exact h
theorem Wd.notB (w : Wd B O G H) (hp : H p = none) : NotB B p := fun b l e z => by
  rw [z] at hp
  exact (w.bag b l e).2.2.some hp
/-- a new object that stays as it is -/
theorem Wd.ice (w : Wd B O G H) (hp : H p = none) : Stp B O G H (upd G p o) (upd H p o) := by
  have gp : G p = none := w.s.free hp
  refine ⟨same_new (Same.refl _) gp, ⟨fun a u e => ?_, fun a z => w.old a (none_of z), fun b l e => ?_⟩, fun a u _ e => same_new (Same.refl _) hp a u e, fun a h1 h2 => ?_⟩
  · by_cases z : a = p
    · rw [z, upd_same] at e ⊢
      exact e
    · rw [upd_ne z] at e ⊢
      exact w.s a u e
  · obtain ⟨h1, ⟨u, h2⟩, h3⟩ := w.bag b l e
    have np : b ≠ p := fun z => w.notB hp b l e z.symm
    exact ⟨by rw [upd_ne np]; exact h1, ⟨u, same_new (Same.refl _) gp _ _ h2⟩, h3.same (same_new (Same.refl _) hp)⟩
  · have z : a ≠ p := fun z => h2 (by rw [z]; exact hp)
    rw [upd_ne z]
    exact h1
/-- a new object that may change -/
theorem Wd.wet (w : Wd B O G H) (hp : H p = none) : Stp B O G H G (upd H p o) :=
  ⟨Same.refl _, ⟨same_new w.s hp, fun a z => w.old a (none_of z), fun b l e => let ⟨h1, h2, h3⟩ := w.bag b l e; ⟨h1, h2, h3.same (same_new (Same.refl _) hp)⟩⟩, fun a u _ e => same_new (Same.refl _) hp a u e, fun _ z _ => z⟩
/-- a change of what may change -/
theorem Wd.put (w : Wd B O G H) (hm : G p = none) (nm : NotB B p) : Wd B O G (upd H p o) := by
  refine ⟨same_upd w.s hm, fun a z => w.old a (none_of z), fun b l e => ?_⟩
  obtain ⟨h1, ⟨u, h2⟩, h3⟩ := w.bag b l e
  obtain ⟨x, y, k, ns, b1, b2, b3⟩ := h3.at_
  have nl : l ≠ p := ne_of_none h2 hm
  exact ⟨h1, ⟨u, h2⟩, ⟨⟨x, y, k, ns, by rw [upd_ne (nm b l e).symm]; exact b1, by rw [upd_ne nl]; exact b2, b3⟩⟩⟩
/-- what may change changes no more -/
theorem Wd.freeze (w : Wd B O G H) (hm : H p = some o) (nm : NotB B p) (gm : G p = none) : Wd B O (upd G p o) H := by
  refine ⟨fun a u e => ?_, w.old, fun b l e => ?_⟩
  · by_cases z : a = p
    · rw [z, upd_same] at e
      rw [z, hm]
      exact e
    · rw [upd_ne z] at e
      exact w.s a u e
  · obtain ⟨h1, ⟨u, h2⟩, h3⟩ := w.bag b l e
    exact ⟨by rw [upd_ne (nm b l e).symm]; exact h1, ⟨u, same_new (Same.refl _) gm _ _ h2⟩, h3⟩
theorem Stp.free (t : Stp B O G H G1 H1) (hp : H1 p = none) : H p = none := by
  cases e : H p with
  | none => rfl
  | some u => exact absurd (t.keep p u (t.w.notB hp) e) (by rw [hp]; exact fun z => nomatch z)
end
abbrev W (α : Type) : Type := (α → Prop) → Prop
namespace W
variable {α β : Type}
def ret (a : α) : W α := fun Q => Q a
def bind (m : W α) (k : α → W β) : W β := fun Q => m fun a => k a Q
def fail : W α := fun _ => False
def of : Option α → W α
  | some a => ret a
  | none => fail
def Mono (m : W α) : Prop := ∀ P Q : α → Prop, (∀ a, P a → Q a) → m P → m Q
theorem Mono.ret {a : α} : Mono (ret a) := fun _ _ h p => h a p
theorem Mono.fail : Mono (fail : W α) := fun _ _ _ p => p
theorem Mono.of : ∀ {o : Option α}, Mono (of o)
  | some _ => .ret
  | none => .fail
theorem Mono.bind {m : W α} {k : α → W β} (h1 : Mono m) (h2 : ∀ a, Mono (k a)) : Mono (bind m k) := fun P Q h p => h1 _ _ (fun a z => h2 a P Q h z) p
end W
inductive Ot where
  | dat (d : Dat) | lst (ts : List Ot) | dct (es : List (Key × Ot)) | ins (C : Addr) (fs : List (Str × Ot))
  /-- a tuple of own things; a thing at a that stands elsewhere -/
  | tup (ts : List Ot) | hole (a : Addr)
/-- at p stands a thing of the def's own -/
structure At (B : Bg) (O G H : Hp) (p : Addr) (o : HO) : Prop where
  old : O p = none
  g : G p = none
  nb : NotB B p
  h : H p = some o
mutual
/-- v is the tree; S: the places of its own things -/
inductive Ow (K : PySem.W.Frag) (B : Bg) (O G H : Hp) : V → Ot → List Addr → Prop
  | dat {v : V} {d : Dat} : Rp K O G v d → Ow K B O G H v (.dat d) []
  | lst {p : Addr} {vs : List V} {ts : List Ot} {S : List Addr} : At B O G H p (.lst vs) → OwAll K B O G H vs ts S → p ∉ S → Ow K B O G H (.ref p) (.lst ts) (p :: S)
  | dct {p : Addr} {kvs : List (Key × V)} {es : List (Key × Ot)} {S : List Addr} : At B O G H p (.dK kvs) → kvs.map (·.1) = es.map (·.1) → OwAll K B O G H (kvs.map (·.2)) (es.map (·.2)) S → p ∉ S → Ow K B O G H (.ref p) (.dct es) (p :: S)
  | ins {p C dx : Addr} {fs : List (Str × V)} {es : List (Str × Ot)} {S : List Addr} : At B O G H p (.ins C dx fs) → fs.map (·.1) = es.map (·.1) → OwAll K B O G H (fs.map (·.2)) (es.map (·.2)) S → p ∉ S → Ow K B O G H (.ref p) (.ins C es) (p :: S)
  | tup {p : Addr} {vs : List V} {ts : List Ot} {S : List Addr} : G p = some (.tup vs) → OwAll K B O G H vs ts S → Ow K B O G H (.ref p) (.tup ts) S
  | hole {p : Addr} : Ow K B O G H (.ref p) (.hole p) []
inductive OwAll (K : PySem.W.Frag) (B : Bg) (O G H : Hp) : List V → List Ot → List Addr → Prop
  | nil : OwAll K B O G H [] [] []
  | cons {v : V} {vs : List V} {t : Ot} {ts : List Ot} {S S' : List Addr} : Ow K B O G H v t S → OwAll K B O G H vs ts S' → (∀ p ∈ S, p ∉ S') → OwAll K B O G H (v :: vs) (t :: ts) (S ++ S')
end
section
variable {K : PySem.W.Frag} {B : Bg} {O G H G1 H1 : Hp}
theorem At.frame {p : Addr} {o : HO} (h : At B O G H p o) (z : H1 p = H p ∧ G1 p = none) : At B O G1 H1 p o := ⟨h.old, z.2, h.nb, by rw [z.1]; exact h.h⟩
mutual
theorem Ow.mem : ∀ {v : V} {t : Ot} {S : List Addr}, Ow K B O G H v t S → ∀ p ∈ S, ∃ o, At B O G H p o
  | _, _, _, .dat _, p, hp => absurd hp List.not_mem_nil
  | _, _, _, .lst a b _, p, hp => by
    rcases List.mem_cons.mp hp with rfl | hp
    · exact ⟨_, a⟩
    · exact OwAll.mem b p hp
  | _, _, _, .dct a _ b _, p, hp => by
    rcases List.mem_cons.mp hp with rfl | hp
    · exact ⟨_, a⟩
    · exact OwAll.mem b p hp
  | _, _, _, .ins a _ b _, p, hp => by
    rcases List.mem_cons.mp hp with rfl | hp
    · exact ⟨_, a⟩
    · exact OwAll.mem b p hp
  | _, _, _, .tup _ b, p, hp => OwAll.mem b p hp
  | _, _, _, .hole, p, hp => absurd hp List.not_mem_nil
theorem OwAll.mem : ∀ {vs : List V} {ts : List Ot} {S : List Addr}, OwAll K B O G H vs ts S → ∀ p ∈ S, ∃ o, At B O G H p o
  | _, _, _, .nil, p, hp => absurd hp List.not_mem_nil
  | _, _, _, .cons a b _, p, hp => by
    rcases List.mem_append.mp hp with hp | hp
    · exact Ow.mem a p hp
    · exact OwAll.mem b p hp
end
mutual
theorem Ow.frame (s : Same G G1) : ∀ {v : V} {t : Ot} {S : List Addr}, Ow K B O G H v t S → (∀ p ∈ S, H1 p = H p ∧ G1 p = none) → Ow K B O G1 H1 v t S
  | _, _, _, .dat r, _ => .dat (r.mono s)
  | _, _, _, .lst a b n, z => .lst (a.frame (z _ List.mem_cons_self)) (OwAll.frame s b fun p hp => z p (List.mem_cons_of_mem _ hp)) n
  | _, _, _, .dct a e b n, z => .dct (a.frame (z _ List.mem_cons_self)) e (OwAll.frame s b fun p hp => z p (List.mem_cons_of_mem _ hp)) n
  | _, _, _, .ins a e b n, z => .ins (a.frame (z _ List.mem_cons_self)) e (OwAll.frame s b fun p hp => z p (List.mem_cons_of_mem _ hp)) n
  | _, _, _, .tup a b, z => .tup (s _ _ a) (OwAll.frame s b z)
  | _, _, _, .hole, _ => .hole
theorem OwAll.frame (s : Same G G1) : ∀ {vs : List V} {ts : List Ot} {S : List Addr}, OwAll K B O G H vs ts S → (∀ p ∈ S, H1 p = H p ∧ G1 p = none) → OwAll K B O G1 H1 vs ts S
  | _, _, _, .nil, _ => .nil
  | _, _, _, .cons a b n, z => .cons (Ow.frame s a fun p hp => z p (List.mem_append_left _ hp)) (OwAll.frame s b fun p hp => z p (List.mem_append_right _ hp)) n
end
end
inductive Sl where
  | no | dat (d : Dat) | bag | own (d : Dat) | tr (a : Addr) (t : Ot) | any
  /-- a caught exception at a, its dict at d -/
  | exc (a : Addr) (d : Option Addr) (C : Addr) (fs : List (Str × Dat))
  /-- data whose lists and dicts are this slot's alone -/
  | reg (d : Dat)
  /-- no variable: dicts of the def's own, at these places, which data name by .adr -/
  | bun (bs : List (Addr × List (Key × Dat)))
abbrev Env' := List Sl
/-- as H at S, as G elsewhere -/
def cut (H : Hp) (S : List Addr) (G : Hp) : Hp := fun p => if p ∈ S then H p else G p
theorem cut_in {H G : Hp} {S : List Addr} {p : Addr} (h : p ∈ S) : cut H S G p = H p := by unfold cut; rw [if_pos h]
theorem cut_not {H G : Hp} {S : List Addr} {p : Addr} (h : p ∉ S) : cut H S G p = G p := by unfold cut; rw [if_neg h]
theorem cut_same {H G H1 G1 : Hp} {S : List Addr} (s : Same G G1) (z : ∀ p ∈ S, H1 p = H p) : Same (cut H S G) (cut H1 S G1) := fun p o e => by
  by_cases y : p ∈ S
  · rw [cut_in y] at e ⊢
    rw [z p y]
    exact e
  · rw [cut_not y] at e ⊢
    exact s p o e
/-- what is not in S is old -/
def nope (S : List Addr) : Hp := fun p => if p ∈ S then none else some (.lst [])
/-- dicts of the def's own, at these places -/
inductive BunOk (K : PySem.W.Frag) (B : Bg) (O G H : Hp) : List (Addr × List (Key × Dat)) → List Addr → Prop
  | nil : BunOk K B O G H [] []
  | cons {a : Addr} {kvs : List (Key × V)} {es : List (Key × Dat)} {bs : List (Addr × List (Key × Dat))} {S : List Addr} : At B O G H a (.dK kvs) → kvs.map (·.1) = es.map (·.1) → RpAll K O G (kvs.map (·.2)) (es.map (·.2)) → a ∉ S → BunOk K B O G H bs S → BunOk K B O G H ((a, es) :: bs) (a :: S)
/-- x is what the slot says; S: the places of what is own -/
inductive SlF (K : PySem.W.Frag) (B : Bg) (O G H : Hp) : Option V → Sl → List Addr → Prop
  | no : SlF K B O G H none .no []
  | dat {v : V} {d : Dat} : Rp K O G v d → SlF K B O G H (some v) (.dat d) []
  | bag {b l : Addr} : B = some (b, l) → SlF K B O G H (some (.ref b)) .bag []
  | ownL {p : Addr} {vs : List V} {ds : List Dat} : At B O G H p (.lst vs) → RpAll K O G vs ds → SlF K B O G H (some (.ref p)) (.own (.lst true ds)) [p]
  | ownD {p : Addr} {kvs : List (Key × V)} {es : List (Key × Dat)} : At B O G H p (.dK kvs) → kvs.map (·.1) = es.map (·.1) → RpAll K O G (kvs.map (·.2)) (es.map (·.2)) → SlF K B O G H (some (.ref p)) (.own (.dct true es)) [p]
  | ownO {p : Addr} {w : World} {xs : List MX} {kvs vvs : List V} {es : List (Kd × Dat)} : At B O G H p (oddO w p xs) → xs.map (·.1) = es.map (·.1.m) → Vals kvs (xs.map (·.2.1)) → Vals vvs (xs.map (·.2.2)) →
      KdAll K G kvs (es.map (·.1)) → RpAll K O G vvs (es.map (·.2)) → SlF K B O G H (some (.ref p)) (.own (.odd w true es)) [p]
  | tr {a : Addr} {t : Ot} {S : List Addr} : Ow K B O G H (.ref a) t S → SlF K B O G H (some (.ref a)) (.tr a t) S
  | any {x : Option V} : SlF K B O G H x .any []
  | exc0 {a C : Addr} : SlF K B O G H (some (.ref a)) (.exc a none C []) []
  | exc1 {a C d : Addr} {fvs : List (Str × V)} {fs : List (Str × Dat)} : G d = some (.xd fvs) → fvs.map (·.1) = fs.map (·.1) → RpAll K O G (fvs.map (·.2)) (fs.map (·.2)) → SlF K B O G H (some (.ref a)) (.exc a (some d) C fs) []
  | bun {x : Option V} {bs : List (Addr × List (Key × Dat))} {S : List Addr} : BunOk K B O G H bs S → SlF K B O G H x (.bun bs) S
  | reg {v : V} {d : Dat} {S : List Addr} : (∀ p ∈ S, ∃ o, At B O G H p o) → Rp K (nope S) (cut H S G) v d → SlF K B O G H (some v) (.reg d) S
structure EnvOk (K : PySem.W.Frag) (B : Bg) (O G H : Hp) (σ : L2.St) (E : Env') : Prop where
  len : σ.length = E.length
  ex : ∃ F : Nat → List Addr, (∀ (i : Nat) (x : Option V) (s : Sl), σ[i]? = some x → E[i]? = some s → SlF K B O G H x s (F i)) ∧ ∀ (i j : Nat) (p : Addr), i < σ.length → j < σ.length → p ∈ F i → p ∈ F j → i = j
section
variable {K : PySem.W.Frag} {B : Bg} {O G H G1 H1 : Hp} {σ : L2.St} {E : Env'} {p : Addr} {o : HO}
theorem BunOk.mem : ∀ {bs : List (Addr × List (Key × Dat))} {S : List Addr}, BunOk K B O G H bs S → ∀ p ∈ S, ∃ o, At B O G H p o
  | _, _, .nil, p, hp => absurd hp List.not_mem_nil
  | _, _, .cons a _ _ _ t, p, hp => by
    rcases List.mem_cons.mp hp with rfl | hp
    · exact ⟨_, a⟩
    · exact t.mem p hp
theorem BunOk.frame (sg : Same G G1) : ∀ {bs : List (Addr × List (Key × Dat))} {S : List Addr}, BunOk K B O G H bs S → (∀ p ∈ S, H1 p = H p ∧ G1 p = none) → BunOk K B O G1 H1 bs S
  | _, _, .nil, _ => .nil
  | _, _, .cons a e r n t, z => .cons (a.frame (z _ List.mem_cons_self)) e (r.mono sg) n (t.frame sg fun p hp => z p (List.mem_cons_of_mem _ hp))
theorem SlF.mem {x : Option V} {s : Sl} {S : List Addr} (h : SlF K B O G H x s S) : ∀ p ∈ S, ∃ o, At B O G H p o := by
  cases h with
  | ownL a _ => exact fun p hp => by rw [List.mem_singleton.mp hp]; exact ⟨_, a⟩
  | ownD a _ _ => exact fun p hp => by rw [List.mem_singleton.mp hp]; exact ⟨_, a⟩
  | ownO a _ _ _ _ _ => exact fun p hp => by rw [List.mem_singleton.mp hp]; exact ⟨_, a⟩
  | tr w => exact w.mem
  | reg a _ => exact a
  | bun b => exact b.mem
  | _ => exact fun p hp => absurd hp List.not_mem_nil
theorem SlF.frame {x : Option V} {s : Sl} {S : List Addr} (h : SlF K B O G H x s S) (sg : Same G G1) (z : ∀ p ∈ S, H1 p = H p ∧ G1 p = none) : SlF K B O G1 H1 x s S := by
  cases h with
  | no => exact .no
  | dat r => exact .dat (r.mono sg)
  | bag e => exact .bag e
  | any => exact .any
  | ownL a r => exact .ownL (a.frame (z _ List.mem_cons_self)) (r.mono sg)
  | ownD a e r => exact .ownD (a.frame (z _ List.mem_cons_self)) e (r.mono sg)
  | ownO a e1 e2 e3 e4 r => exact .ownO (a.frame (z _ List.mem_cons_self)) e1 e2 e3 (Paired.mapP e4 fun _ _ y => y.mono fun _ _ q => sq_t' sg q) (r.mono sg)
  | tr w => exact .tr (w.frame sg z)
  | exc0 => exact .exc0
  | exc1 a e r => exact .exc1 (sg _ _ a) e (r.mono sg)
  | bun b => exact .bun (b.frame sg z)
  | reg a r => exact .reg (fun p hp => let ⟨o, y⟩ := a p hp; ⟨o, y.frame (z p hp)⟩) (r.mono (cut_same sg fun p hp => (z p hp).1))
theorem SlF.step {x : Option V} {s : Sl} {S : List Addr} (h : SlF K B O G H x s S) (t : Stp B O G H G1 H1) : SlF K B O G1 H1 x s S :=
  h.frame t.g fun p hp => by
    obtain ⟨o, a⟩ := h.mem p hp
    exact ⟨by rw [t.keep _ _ a.nb a.h, a.h], t.new _ a.g (by rw [a.h]; exact Option.some_ne_none _)⟩
theorem EnvOk.step (h : EnvOk K B O G H σ E) (t : Stp B O G H G1 H1) : EnvOk K B O G1 H1 σ E := by
  obtain ⟨F, f1, f2⟩ := h.ex
  exact ⟨h.len, F, fun i x s e1 e2 => (f1 i x s e1 e2).step t, f2⟩
theorem EnvOk.get (h : EnvOk K B O G H σ E) {i : Nat} {s : Sl} (e : E[i]? = some s) : ∃ x S, σ[i]? = some x ∧ SlF K B O G H x s S := by
  obtain ⟨F, f1, f2⟩ := h.ex
  have hl : i < σ.length := by
    rw [h.len]
    exact (List.getElem?_eq_some_iff.mp e).1
  exact ⟨σ[i], F i, List.getElem?_eq_getElem hl, f1 i _ _ (List.getElem?_eq_getElem hl) e⟩
/-- one slot and its things change -/
theorem EnvOk.pull (h : EnvOk K B O G H σ E) {i : Nat} {s : Sl} (e : E[i]? = some s) : ∃ x S, σ[i]? = some x ∧ SlF K B O G H x s S ∧ ∀ (G' H' : Hp) (x' : Option V) (s' : Sl) (S' : List Addr), Same G G' →
    (∀ q, q ∉ S → NotB B q → H q ≠ none → O q = none → G q = none → H' q = H q ∧ G' q = none) → SlF K B O G' H' x' s' S' → (∀ p ∈ S', p ∈ S ∨ H p = none) → EnvOk K B O G' H' (σ.set i x') (E.set i s') := by
  obtain ⟨F, f1, f2⟩ := h.ex
  have hl : i < σ.length := by
    rw [h.len]
    exact (List.getElem?_eq_some_iff.mp e).1
  refine ⟨σ[i], F i, List.getElem?_eq_getElem hl, f1 i _ _ (List.getElem?_eq_getElem hl) e, fun G' H' x' s' S' sg fr ok sub => ⟨by rw [List.length_set, List.length_set]; exact h.len, fun j => if j = i then S' else F j, fun j y u e1 e2 => ?_, fun a b p la lb pa pb => ?_⟩⟩
  · by_cases z : i = j
    · subst z
      rw [List.getElem?_set_self hl] at e1
      rw [List.getElem?_set_self (by rw [← h.len]; exact hl)] at e2
      cases e1
      cases e2
      simp only [if_true]
      exact ok
    · rw [List.getElem?_set_ne z] at e1 e2
      have z' : ¬ j = i := fun w => z w.symm
      simp only [if_neg z']
      have okj := f1 j y u e1 e2
      refine okj.frame sg fun p hp => ?_
      obtain ⟨o, a⟩ := okj.mem p hp
      refine fr p (fun pi => ?_) a.nb (by rw [a.h]; exact Option.some_ne_none _) a.old a.g
      exact z (f2 i j p hl ((List.getElem?_eq_some_iff.mp e1).1) pi hp)
  · rw [List.length_set] at la lb
    have key : ∀ c, c < σ.length → c ≠ i → p ∈ F c → p ∈ S' → False := fun c lc nc pc ps => by
      rcases sub p ps with q | q
      · exact nc (f2 c i p lc hl pc q)
      · obtain ⟨o, a⟩ := (f1 c σ[c] (E[c]'(by rw [← h.len]; exact lc)) (List.getElem?_eq_getElem lc) (List.getElem?_eq_getElem _)).mem p pc
        rw [a.h] at q
        cases q
    by_cases za : a = i
    · by_cases zb : b = i
      · rw [za, zb]
      · simp only [if_pos za] at pa
        simp only [if_neg zb] at pb
        exact (key b lb zb pb pa).elim
    · by_cases zb : b = i
      · simp only [if_neg za] at pa
        simp only [if_pos zb] at pb
        exact (key a la za pa pb).elim
      · simp only [if_neg za] at pa
        simp only [if_neg zb] at pb
        exact f2 a b p la lb pa pb
/-- one more slot ahead -/
theorem EnvOk.cons (h : EnvOk K B O G H σ E) {x : Option V} {s : Sl} (hs : SlF K B O G H x s []) : EnvOk K B O G H (x :: σ) (s :: E) := by
  obtain ⟨F, f1, f2⟩ := h.ex
  refine ⟨by rw [List.length_cons, List.length_cons, h.len], fun i => match i with | 0 => [] | j + 1 => F j, fun i y u e1 e2 => ?_, fun i j p li lj pi pj => ?_⟩
  · cases i with
    | zero =>
      cases e1
      cases e2
      exact hs
    | succ j => exact f1 j y u (by simpa using e1) (by simpa using e2)
  · cases i with
    | zero => exact absurd pi List.not_mem_nil
    | succ i =>
      cases j with
      | zero => exact absurd pj List.not_mem_nil
      | succ j => exact congrArg (· + 1) (f2 i j p (by simpa using li) (by simpa using lj) pi pj)
theorem set_same {α : Type} {xs : List α} {i : Nat} {x : α} (h : xs[i]? = some x) : xs.set i x = xs := by
  obtain ⟨hl, rfl⟩ := List.getElem?_eq_some_iff.mp h
  exact List.set_getElem_self hl
/-- a slot gets what is no own thing -/
theorem EnvOk.set (h : EnvOk K B O G H σ E) {i : Nat} {x : Option V} {s : Sl} (hs : SlF K B O G H x s []) : EnvOk K B O G H (σ.set i x) (E.set i s) := by
  cases e : E[i]? with
  | none =>
    have hl : E.length ≤ i := List.getElem?_eq_none_iff.mp e
    rw [List.set_eq_of_length_le hl, List.set_eq_of_length_le (by rw [h.len]; exact hl)]
    exact h
  | some u =>
    obtain ⟨y, S, _, ok, k⟩ := h.pull e
    exact k G H x s [] (Same.refl _) (fun q _ _ _ _ g => ⟨rfl, g⟩) hs fun p hp => absurd hp List.not_mem_nil
/-- a slot gets what is new since H -/
theorem EnvOk.put (h : EnvOk K B O G H σ E) (t : Stp B O G H G1 H1) {i : Nat} {x : Option V} {s : Sl} {S : List Addr} (hs : SlF K B O G1 H1 x s S) (hn : ∀ p ∈ S, H p = none) : EnvOk K B O G1 H1 (σ.set i x) (E.set i s) := by
  cases e : E[i]? with
  | none =>
    have hl : E.length ≤ i := List.getElem?_eq_none_iff.mp e
    rw [List.set_eq_of_length_le hl, List.set_eq_of_length_le (by rw [h.len]; exact hl)]
    exact h.step t
  | some u =>
    obtain ⟨y, S0, _, ok, k⟩ := h.pull e
    refine k G1 H1 x s S t.g (fun q _ nb hq oq g => ⟨?_, t.new q g hq⟩) hs fun p hp => .inr (hn p hp)
    cases z : H q with
    | none => exact absurd z hq
    | some u => exact t.keep q u nb z
end
end EW
set_option Elab.async false
set_option linter.all false
set_option maxRecDepth 100000
set_option maxHeartbeats 4000000
namespace EW
open PySem PySem.Spec PyProof.Rows L2 EG EM
/-- what follows a datum -/
def Ck (K : PySem.W.Frag) (B : Bg) (O G H : Hp) (Q : VK) : Dat → Prop := fun d => ∀ v G' H', Stp B O G H G' H' → Rp K O G' v d → Q v H'
def Cks (K : PySem.W.Frag) (B : Bg) (O G H : Hp) (Q : List V → Hp → Prop) : List Dat → Prop := fun ds => ∀ vs G' H', Stp B O G H G' H' → RpAll K O G' vs ds → Q vs H'
def Cb (B : Bg) (O G H : Hp) (Q : Bool → Hp → Prop) : Bool → Prop := fun b => ∀ G' H', Stp B O G H G' H' → Q b H'
def tX (K : PySem.W.Frag) (f : Env' → W Dat) : TE := fun σ H Q => ∃ B O G E, Wd B O G H ∧ EnvOk K B O G H σ E ∧ f E (Ck K B O G H Q)
def tXs (K : PySem.W.Frag) (f : Env' → W (List Dat)) : TA := fun σ H Q => ∃ B O G E, Wd B O G H ∧ EnvOk K B O G H σ E ∧ f E (Cks K B O G H Q)
def tT (K : PySem.W.Frag) (f : Env' → W Bool) : TT := fun σ H Q => ∃ B O G E, Wd B O G H ∧ EnvOk K B O G H σ E ∧ f E (Cb B O G H Q)
structure PX (K : PySem.W.Frag) (X : Cx) (e : Expr) (f : Env' → W Dat) : Prop where
  pe : PE X e (tX K f)
  mono : ∀ E, W.Mono (f E)
structure PXs (K : PySem.W.Frag) (X : Cx) (es : List Expr) (f : Env' → W (List Dat)) : Prop where
  pa : PA X es (tXs K f)
  mono : ∀ E, W.Mono (f E)
structure PB (K : PySem.W.Frag) (X : Cx) (e : Expr) (f : Env' → W Bool) : Prop where
  pt : PT X e (tT K f)
  mono : ∀ E, W.Mono (f E)
structure PBW (K : PySem.W.Frag) (X : Cx) (e : Expr) (f : Env' → W Bool) : Prop where
  pw : PW X e (tT K f)
  mono : ∀ E, W.Mono (f E)
theorem imp {X : Cx} {e : Expr} {t t' : TE} (h : PE X e t) (hi : ∀ σ H Q, t' σ H Q → t σ H Q) : PE X e t' := ⟨fun pins s σ H Q I q => h.run pins s σ H Q I (hi σ H Q q)⟩
theorem impA {X : Cx} {e : List Expr} {t t' : TA} (h : PA X e t) (hi : ∀ σ H Q, t' σ H Q → t σ H Q) : PA X e t' := ⟨fun pos pins s σ H Q I q => h.run pos pins s σ H Q I (hi σ H Q q)⟩
theorem impT {X : Cx} {e : Expr} {t t' : TT} (h : PT X e t) (hi : ∀ σ H Q, t' σ H Q → t σ H Q) : PT X e t' := ⟨fun pins s σ H Q I q => h.run pins s σ H Q I (hi σ H Q q)⟩
theorem impW {X : Cx} {e : Expr} {t t' : TT} (h : PW X e t) (hi : ∀ σ H Q, t' σ H Q → t σ H Q) : PW X e t' := ⟨fun wh pins s σ H Q I q => h.run wh pins s σ H Q I (hi σ H Q q)⟩
theorem impS {X : Cx} {e : Stmt} {t t' : TS} (h : PS X e t) (hi : ∀ D σ H, t' D σ H → t D σ H) : PS X e t' := ⟨fun pins s σ H D I q => h.run pins s σ H D I (hi D σ H q)⟩
theorem impSs {X : Cx} {e : List Stmt} {t t' : TS} (h : PSs X e t) (hi : ∀ D σ H, t' D σ H → t D σ H) : PSs X e t' := ⟨fun pins s σ H D I q => h.run pins s σ H D I (hi D σ H q)⟩
theorem of_some {α : Type} {o : Option α} {P : α → Prop} (h : W.of o P) : ∃ a, o = some a ∧ P a := by
  cases o with
  | none => exact False.elim h
  | some a => exact ⟨a, rfl, h⟩
section
variable {K : PySem.W.Frag} {X : Cx} {B : Bg} {O G H G1 H1 : Hp} {Q : VK} {d : Dat}
theorem Ck.step (h : Ck K B O G H Q d) (t : Stp B O G H G1 H1) : Ck K B O G1 H1 Q d := fun v G' H' t' r => h v G' H' (t.trans t') r
theorem Ck.now (h : Ck K B O G H Q d) (w : Wd B O G H) {v : V} (r : Rp K O G v d) : Q v H := h v G H w.refl r
theorem px_const {e : Expr} {v : V} (h : PE X e (tC v)) (hd : ∀ O G, Rp K O G v d) : PX K X e (fun _ => W.ret d) :=
  ⟨imp h fun σ H Q ⟨B, O, G, E, w, eo, q⟩ => Ck.now q w (hd O G), fun _ => .ret⟩
theorem px_int {i j pos} : PX K X (.Constant (.int i) j pos) (fun _ => W.ret (.int i)) := px_const pe_int fun _ _ => .int _
theorem px_bl {b j pos} : PX K X (.Constant (.bool b) j pos) (fun _ => W.ret (.bl b)) := px_const pe_bl fun _ _ => .bl _
theorem px_non {j pos} : PX K X (.Constant .none j pos) (fun _ => W.ret .non) := px_const pe_non fun _ _ => .non
theorem px_str {x j pos} : PX K X (.Constant (.str x) j pos) (fun _ => W.ret (.str x)) := px_const pe_str fun _ _ => .str _
theorem px_gstr {x : Str} {z : Str} {tk : Tok} {pos : Pos} (hg : Gl X x) (hm : X.mg x = some (.str z tk)) (hd : (x == ("__debug__" : Str)) = false := by decide) : PX K X (.Name x pos) (fun _ => W.ret (.str z)) :=
  px_const (pe_glob (v := .str z) hg hm ⟨_, rfl⟩ hd) fun _ _ => .str _
def datAt (E : Env') (i : Nat) : Option Dat := match E[i]? with
  | some (.dat d) => some d
  | _ => none
theorem px_v {i : Nat} {e : Expr} (h : PE X e (tVar i)) : PX K X e (fun E => W.of (datAt E i)) := by
  refine ⟨imp h fun σ H Q ⟨B, O, G, E, w, eo, q⟩ => ?_, fun _ => .of⟩
  obtain ⟨d, e, q⟩ := of_some q
  unfold datAt at e
  cases z : E[i]? with
  | none =>
    rw [z] at e
    cases e
  | some s =>
    rw [z] at e
    cases s with
    | dat d' =>
      cases e
      obtain ⟨x, S, hx, ok⟩ := eo.get z
      cases ok with
      | dat r => exact ⟨_, hx, Ck.now q w r⟩
    | _ => cases e
theorem pxs_nil : PXs K X [] (fun _ => W.ret []) := ⟨impA pa_nil fun σ H Q ⟨B, O, G, E, w, eo, q⟩ => q [] G H w.refl .nil, fun _ => .ret⟩
theorem pxs_cons {e : Expr} {es : List Expr} {f : Env' → W Dat} {fs : Env' → W (List Dat)} (h : PX K X e f) (hs : PXs K X es fs) (hst : starEach (e :: es) X.env = (false, eval e X.env) :: starEach es X.env := by rfl) :
    PXs K X (e :: es) (fun E => (f E).bind fun d => (fs E).bind fun ds => W.ret (d :: ds)) := by
  refine ⟨impA (pa_cons h.pe hs.pa hst) fun σ H Q ⟨B, O, G, E, w, eo, q⟩ => ?_, fun E => (h.mono E).bind fun _ => (hs.mono E).bind fun _ => .ret⟩
  refine ⟨B, O, G, E, w, eo, h.mono E _ _ (fun d q1 v G1 H1 t1 r1 => ?_) q⟩
  refine ⟨B, O, G1, E, t1.w, eo.step t1, hs.mono E _ _ (fun ds q2 vs G2 H2 t2 r2 => ?_) q1⟩
  exact q2 (v :: vs) G2 H2 (t1.trans t2) (.cons (r1.mono t2.g) r2)
def mkL (ds : List Dat) : Option Dat := if ds.length ≤ sizeLine then some (.lst true ds) else none
def mkT (ds : List Dat) : Option Dat := if ds.length ≤ sizeLine then some (.tup ds) else none
theorem px_lst {es : List Expr} {pos : Pos} {fs : Env' → W (List Dat)} (h : PXs K X es fs) : PX K X (.List es pos) (fun E => (fs E).bind fun ds => W.of (mkL ds)) := by
  refine ⟨imp (pe_lst h.pa) fun σ H Q ⟨B, O, G, E, w, eo, q⟩ => ?_, fun E => (h.mono E).bind fun _ => .of⟩
  refine ⟨B, O, G, E, w, eo, h.mono E _ _ (fun ds q1 vs G1 H1 t1 r1 => ?_) q⟩
  obtain ⟨d, e, q1⟩ := of_some q1
  unfold mkL at e
  split at e
  · rename_i hl
    cases e
    refine ⟨by rw [r1.len]; exact hl, fun p hp => q1 _ (upd G1 p (.lst vs)) _ (t1.trans (t1.w.ice hp)) (.lst upd_same (r1.mono (t1.w.ice hp).g) fun _ => t1.w.old _ hp)⟩
  · cases e
theorem px_tup {es : List Expr} {x1} {pos : Pos} {fs : Env' → W (List Dat)} (h : PXs K X es fs) : PX K X (.Tuple es x1 pos) (fun E => (fs E).bind fun ds => W.of (mkT ds)) := by
  refine ⟨imp (pe_tup h.pa) fun σ H Q ⟨B, O, G, E, w, eo, q⟩ => ?_, fun E => (h.mono E).bind fun _ => .of⟩
  refine ⟨B, O, G, E, w, eo, h.mono E _ _ (fun ds q1 vs G1 H1 t1 r1 => ?_) q⟩
  obtain ⟨d, e, q1⟩ := of_some q1
  unfold mkT at e
  split at e
  · rename_i hl
    cases e
    refine ⟨by rw [r1.len]; exact hl, fun p hp => q1 _ (upd G1 p (.tup vs)) _ (t1.trans (t1.w.ice hp)) (.tup (SqT.of upd_same) (r1.mono (t1.w.ice hp).g))⟩
  · cases e
/-- a rule by data for a two-place operation -/
def rO (K : PySem.W.Frag) (op : Dat → Dat → Option Dat) : R2 := fun x y H Q => ∃ B O G d1 d2 d, Wd B O G H ∧ Rp K O G x d1 ∧ Rp K O G y d2 ∧ op d1 d2 = some d ∧ Ck K B O G H Q d
theorem tx2 {fa fb : Env' → W Dat} {R : V → V → Hp → Prop} {k : Dat → Dat → W Dat} {σ : L2.St} {E : Env'} {Cn : Dat → Prop} (ma : ∀ E, W.Mono (fa E)) (mb : ∀ E, W.Mono (fb E)) (w : Wd B O G H) (eo : EnvOk K B O G H σ E)
    (q : ((fa E).bind fun x => (fb E).bind fun y => k x y) Cn)
    (hk : ∀ d1 d2 v1 v2 G2 H2, Stp B O G H G2 H2 → Rp K O G2 v1 d1 → Rp K O G2 v2 d2 → k d1 d2 Cn → R v1 v2 H2) :
    tX K fa σ H fun x H1 => tX K fb σ H1 fun y H2 => R x y H2 := by
  refine ⟨B, O, G, E, w, eo, ma E _ _ (fun d q1 v G1 H1 t1 r1 => ?_) q⟩
  refine ⟨B, O, G1, E, t1.w, eo.step t1, mb E _ _ (fun ds q2 vs G2 H2 t2 r2 => ?_) q1⟩
  exact hk d ds v vs G2 H2 (t1.trans t2) (r1.mono t2.g) r2 q2
theorem px_op {op : Operator} {o : Dat → Dat → Option Dat} {a b : Expr} {pos : Pos} {fa fb : Env' → W Dat} (ho : OpR X (binaryOp op) (rO K o)) (ha : PX K X a fa) (hb : PX K X b fb) :
    PX K X (.BinOp a op b pos) (fun E => (fa E).bind fun x => (fb E).bind fun y => W.of (o x y)) := by
  refine ⟨imp (pe_op ho ha.pe hb.pe) fun σ H Q ⟨B, O, G, E, w, eo, q⟩ => ?_, fun E => (ha.mono E).bind fun _ => (hb.mono E).bind fun _ => .of⟩
  refine tx2 ha.mono hb.mono w eo q fun d1 d2 v1 v2 G2 H2 t r1 r2 q2 => ?_
  obtain ⟨d, e, q2⟩ := of_some q2
  exact ⟨B, O, G2, d1, d2, d, t.w, r1, r2, e, Ck.step q2 t⟩
theorem px_cmp {op : CmpOp} {o : Dat → Dat → Option Dat} {a b : Expr} {pos : Pos} {fa fb : Env' → W Dat} (ho : OpR X (compareOp op) (rO K o)) (ha : PX K X a fa) (hb : PX K X b fb) (hm : behindInMarks op b = false) :
    PX K X (.Compare a [op] [b] pos) (fun E => (fa E).bind fun x => (fb E).bind fun y => W.of (o x y)) := by
  refine ⟨imp (pe_cmpR ho ha.pe hb.pe hm) fun σ H Q ⟨B, O, G, E, w, eo, q⟩ => ?_, fun E => (ha.mono E).bind fun _ => (hb.mono E).bind fun _ => .of⟩
  refine tx2 ha.mono hb.mono w eo q fun d1 d2 v1 v2 G2 H2 t r1 r2 q2 => ?_
  obtain ⟨d, e, q2⟩ := of_some q2
  exact ⟨B, O, G2, d1, d2, d, t.w, r1, r2, e, Ck.step q2 t⟩
def toB : Dat → Option Bool
  | .bl b => some b
  | _ => none
theorem toB_some {d : Dat} {b : Bool} (h : toB d = some b) : d = .bl b := by
  cases d <;> first | (cases h; rfl) | cases h
theorem pb_cmp {op : CmpOp} {o : Dat → Dat → Option Dat} {a b : Expr} {pos : Pos} {fa fb : Env' → W Dat} (ho : OpR X (compareOp op) (rO K o)) (ha : PX K X a fa) (hb : PX K X b fb) (hm : behindInMarks op b = false) :
    PB K X (.Compare a [op] [b] pos) (fun E => (fa E).bind fun x => (fb E).bind fun y => W.of ((o x y).bind toB)) := by
  refine ⟨impT (pt_cmpR ho ha.pe hb.pe hm) fun σ H Q ⟨B, O, G, E, w, eo, q⟩ => ?_, fun E => (ha.mono E).bind fun _ => (hb.mono E).bind fun _ => .of⟩
  refine ⟨B, O, G, E, w, eo, ha.mono E _ _ (fun d1 q1 v1 G1 H1 t1 r1 => ?_) q⟩
  refine ⟨B, O, G1, E, t1.w, eo.step t1, hb.mono E _ _ (fun d2 q2 v2 G2 H2 t2 r2 => ?_) q1⟩
  obtain ⟨b, e, q2⟩ := of_some q2
  obtain ⟨d, e1, e2⟩ := Option.bind_eq_some_iff.mp e
  cases toB_some e2
  refine ⟨B, O, G2, d1, d2, _, t2.w, r1.mono t2.g, r2, e1, fun v G' H' t' r' => ?_⟩
  cases r'
  exact ⟨b, rfl, q2 G' H' ((t1.trans t2).trans t')⟩
theorem pb_val {e : Expr} {f : Env' → W Dat} (h : PX K X e f) (he : ∀ whole, isTrue e X.env whole = (do let v ← whole; standAt e.pos; holding [v] (truthy v)) := by intro _; rfl) :
    PB K X e (fun E => (f E).bind fun d => W.of (toB d)) := by
  refine ⟨impT (pt_val h.pe he) fun σ H Q ⟨B, O, G, E, w, eo, q⟩ => ?_, fun E => (h.mono E).bind fun _ => .of⟩
  refine ⟨B, O, G, E, w, eo, h.mono E _ _ (fun d1 q1 v1 G1 H1 t1 r1 => ?_) q⟩
  obtain ⟨b, e, q1⟩ := of_some q1
  cases toB_some e
  cases r1
  exact ⟨b, rfl, q1 G1 H1 t1⟩
theorem pb_w {e : Expr} {f : Env' → W Bool} (h : PBW K X e f) : PB K X e f := ⟨h.pw.pt, h.mono⟩
theorem pb_not {a : Expr} {pos : Pos} {f : Env' → W Bool} (h : PB K X a f) : PB K X (.UnaryOp .Not a pos) (fun E => (f E).bind fun b => W.ret (!b)) := by
  refine ⟨impT (pt_not h.pt) fun σ H Q ⟨B, O, G, E, w, eo, q⟩ => ?_, fun E => (h.mono E).bind fun _ => .ret⟩
  exact ⟨B, O, G, E, w, eo, h.mono E _ _ (fun b q1 G1 H1 t1 => q1 G1 H1 t1) q⟩
theorem pbw_or1 {a : Expr} {pos : Pos} {f : Env' → W Bool} (h : PB K X a f) : PBW K X (.BoolOp .Or [a] pos) f := ⟨pw_or1 h.pt, h.mono⟩
def cnd {α : Type} (b : Bool) (m n : W α) : W α := match b with
  | true => m
  | false => n
theorem cnd_mono {α : Type} {b : Bool} {m n : W α} (h1 : W.Mono m) (h2 : W.Mono n) : W.Mono (cnd b m n) := by
  cases b
  · exact h2
  · exact h1
theorem pbw_or {a b : Expr} {rest : List Expr} {pos : Pos} {f g : Env' → W Bool} (h : PB K X a f) (h2 : PBW K X (.BoolOp .Or (b :: rest) pos) g) : PBW K X (.BoolOp .Or (a :: b :: rest) pos) (fun E => (f E).bind fun c => cnd c (W.ret true) (g E)) := by
  refine ⟨impW (pw_or h.pt h2.pw) fun σ H Q ⟨B, O, G, E, w, eo, q⟩ => ?_, fun E => (h.mono E).bind fun _ => cnd_mono .ret (h2.mono E)⟩
  refine ⟨B, O, G, E, w, eo, h.mono E _ _ (fun c q1 G1 H1 t1 => ?_) q⟩
  cases c with
  | true => exact iteT (q1 G1 H1 t1)
  | false => exact iteF ⟨B, O, G1, E, t1.w, eo.step t1, h2.mono E _ _ (fun c q2 G2 H2 t2 => q2 G2 H2 (t1.trans t2)) q1⟩
theorem px_one {op : BoolOp} {a : Expr} {pos : Pos} {f : Env' → W Dat} (h : PX K X a f) : PX K X (.BoolOp op [a] pos) f := ⟨pe_one h.pe, h.mono⟩
theorem px_and {a b : Expr} {rest : List Expr} {pos : Pos} {f g : Env' → W Dat} (h : PX K X a f) (h2 : PX K X (.BoolOp .And (b :: rest) pos) g) : PX K X (.BoolOp .And (a :: b :: rest) pos) (fun E => (f E).bind fun d => (W.of (toB d)).bind fun c => cnd c (g E) (W.ret (.bl false))) := by
  refine ⟨imp (pe_and h.pe h2.pe) fun σ H Q ⟨B, O, G, E, w, eo, q⟩ => ?_, fun E => (h.mono E).bind fun _ => W.Mono.of.bind fun _ => cnd_mono (h2.mono E) .ret⟩
  refine ⟨B, O, G, E, w, eo, h.mono E _ _ (fun d q1 v G1 H1 t1 r1 => ?_) q⟩
  obtain ⟨c, e, q1⟩ := of_some q1
  cases toB_some e
  cases r1
  refine ⟨c, rfl, ?_⟩
  cases c with
  | false => exact iteF (q1 _ G1 H1 t1 (.bl _))
  | true => exact iteT ⟨B, O, G1, E, t1.w, eo.step t1, h2.mono E _ _ (fun c q2 => Ck.step q2 t1) q1⟩
theorem px_or {a b : Expr} {rest : List Expr} {pos : Pos} {f g : Env' → W Dat} (h : PX K X a f) (h2 : PX K X (.BoolOp .Or (b :: rest) pos) g) : PX K X (.BoolOp .Or (a :: b :: rest) pos) (fun E => (f E).bind fun d => (W.of (toB d)).bind fun c => cnd c (W.ret (.bl true)) (g E)) := by
  refine ⟨imp (pe_or h.pe h2.pe) fun σ H Q ⟨B, O, G, E, w, eo, q⟩ => ?_, fun E => (h.mono E).bind fun _ => W.Mono.of.bind fun _ => cnd_mono .ret (h2.mono E)⟩
  refine ⟨B, O, G, E, w, eo, h.mono E _ _ (fun d q1 v G1 H1 t1 r1 => ?_) q⟩
  obtain ⟨c, e, q1⟩ := of_some q1
  cases toB_some e
  cases r1
  refine ⟨c, rfl, ?_⟩
  cases c with
  | true => exact iteT (q1 _ G1 H1 t1 (.bl _))
  | false => exact iteF ⟨B, O, G1, E, t1.w, eo.step t1, h2.mono E _ _ (fun c q2 => Ck.step q2 t1) q1⟩
theorem px_not {a : Expr} {pos : Pos} {f : Env' → W Dat} (h : PX K X a f) : PX K X (.UnaryOp .Not a pos) (fun E => (f E).bind fun d => (W.of (toB d)).bind fun c => W.ret (.bl (!c))) := by
  refine ⟨imp (pe_not h.pe) fun σ H Q ⟨B, O, G, E, w, eo, q⟩ => ?_, fun E => (h.mono E).bind fun _ => W.Mono.of.bind fun _ => .ret⟩
  refine ⟨B, O, G, E, w, eo, h.mono E _ _ (fun d q1 v G1 H1 t1 r1 => ?_) q⟩
  obtain ⟨c, e, q1⟩ := of_some q1
  cases toB_some e
  cases r1
  exact ⟨c, rfl, q1 _ G1 H1 t1 (.bl _)⟩
theorem px_if {c a b : Expr} {pos : Pos} {fc : Env' → W Bool} {f g : Env' → W Dat} (hc : PB K X c fc) (h : PX K X a f) (h2 : PX K X b g) : PX K X (.IfExp c a b pos) (fun E => (fc E).bind fun c => cnd c (f E) (g E)) := by
  refine ⟨imp (pe_ifExp hc.pt h.pe h2.pe) fun σ H Q ⟨B, O, G, E, w, eo, q⟩ => ?_, fun E => (hc.mono E).bind fun _ => cnd_mono (h.mono E) (h2.mono E)⟩
  refine ⟨B, O, G, E, w, eo, hc.mono E _ _ (fun c q1 G1 H1 t1 => ?_) q⟩
  cases c with
  | true => exact iteT ⟨B, O, G1, E, t1.w, eo.step t1, h.mono E _ _ (fun c q2 => Ck.step q2 t1) q1⟩
  | false => exact iteF ⟨B, O, G1, E, t1.w, eo.step t1, h2.mono E _ _ (fun c q2 => Ck.step q2 t1) q1⟩
def rC (K : PySem.W.Frag) (op : List Dat → Option Dat) : List V → Hp → VK → Prop := fun xs H Q => ∃ B O G ds d, Wd B O G H ∧ RpAll K O G xs ds ∧ op ds = some d ∧ Ck K B O G H Q d
theorem px_callB {id : String} {x : Str} {p pos : Pos} {e : Expr} {es : List Expr} {op : List Dat → Option Dat} {fs : Env' → W (List Dat)} (hc : CallR X (.builtin id) (rC K op)) (hg : Gl X x) (hm : X.mg x = none) (hv : bootBuiltins x = some (.builtin id)) (ha : PXs K X (e :: es) fs) (hn : x ≠ "__name__" := by decide) (hdb : (x == ("__debug__" : Str)) = false := by decide)
    (he : starEach (e :: es) X.env = (false, eval e X.env) :: starEach es X.env := by rfl) (hpl : (backTo pos (starEach es X.env)).any (·.1) = false := by rfl) : PX K X (.Call (.Name x p) (e :: es) [] pos) (fun E => (fs E).bind fun ds => W.of (op ds)) := by
  refine ⟨imp (pe_callB hc hg hm hv ha.pa hn hdb he hpl) fun σ H Q ⟨B, O, G, E, w, eo, q⟩ => ?_, fun E => (ha.mono E).bind fun _ => .of⟩
  refine ⟨B, O, G, E, w, eo, ha.mono E _ _ (fun ds q1 vs G1 H1 t1 r1 => ?_) q⟩
  obtain ⟨d, e, q1⟩ := of_some q1
  exact ⟨B, O, G1, ds, d, t1.w, r1, e, Ck.step q1 t1⟩
theorem px_callTy {T : String} {x : Str} {p pos : Pos} {e : Expr} {es : List Expr} {op : List Dat → Option Dat} {fs : Env' → W (List Dat)} (hc : CallR X (.type T) (rC K op)) (hg : Gl X x) (hm : X.mg x = none) (hv : bootBuiltins x = some (.type T)) (ha : PXs K X (e :: es) fs) (hn : x ≠ "__name__" := by decide) (hdb : (x == ("__debug__" : Str)) = false := by decide)
    (he : starEach (e :: es) X.env = (false, eval e X.env) :: starEach es X.env := by rfl) (hpl : (backTo pos (starEach es X.env)).any (·.1) = false := by rfl) : PX K X (.Call (.Name x p) (e :: es) [] pos) (fun E => (fs E).bind fun ds => W.of (op ds)) := by
  refine ⟨imp (pe_callTy hc hg hm hv ha.pa hn hdb he hpl) fun σ H Q ⟨B, O, G, E, w, eo, q⟩ => ?_, fun E => (ha.mono E).bind fun _ => .of⟩
  refine ⟨B, O, G, E, w, eo, ha.mono E _ _ (fun ds q1 vs G1 H1 t1 r1 => ?_) q⟩
  obtain ⟨d, e, q1⟩ := of_some q1
  exact ⟨B, O, G1, ds, d, t1.w, r1, e, Ck.step q1 t1⟩
theorem px_ix {o : Dat → Dat → Option Dat} {a b : Expr} {pos : Pos} {fa fb : Env' → W Dat} (ho : IxR X (rO K o)) (ha : PX K X a fa) (hb : PX K X b fb) (hs : PlainIx b := by exact fun _ _ => rfl) :
    PX K X (.Subscript a b pos) (fun E => (fa E).bind fun x => (fb E).bind fun y => W.of (o x y)) := by
  refine ⟨imp (pe_ix ho ha.pe hb.pe hs) fun σ H Q ⟨B, O, G, E, w, eo, q⟩ => ?_, fun E => (ha.mono E).bind fun _ => (hb.mono E).bind fun _ => .of⟩
  refine tx2 ha.mono hb.mono w eo q fun d1 d2 v1 v2 G2 H2 t r1 r2 q2 => ?_
  obtain ⟨d, e, q2⟩ := of_some q2
  exact ⟨B, O, G2, d1, d2, d, t.w, r1, r2, e, Ck.step q2 t⟩
end
end EW
set_option Elab.async false
set_option linter.all false
set_option maxRecDepth 100000
set_option maxHeartbeats 4000000
namespace EW
open PySem PySem.Spec PyProof.Rows L2 EG EM
mutual
def Dat.py : Dat → PyData
  | .non => .none
  | .bl b => .bool b
  | .int i => .int i
  | .str x => .str x
  | .lst _ ds => .list (Dat.pys ds)
  | .tup ds => .tuple (Dat.pys ds)
  | .dct _ _ => .none
  | .ins _ _ => .none
  | .any => .none
  | .adr _ => .none
  | .odd _ _ _ => .none
def Dat.pys : List Dat → List PyData
  | [] => []
  | d :: ds => Dat.py d :: Dat.pys ds
end
mutual
/-- no dict, no instance -/
def Dat.plain : Dat → Bool
  | .lst _ ds => Dat.plains ds
  | .tup ds => Dat.plains ds
  | .dct _ _ => false
  | .ins _ _ => false
  | .any => false
  | .adr _ => false
  | .odd _ _ _ => false
  | _ => true
def Dat.plains : List Dat → Bool
  | [] => true
  | d :: ds => Dat.plain d && Dat.plains ds
end
section
variable {K : PySem.W.Frag} {O G H : Hp}
mutual
theorem Rp.dp (s : Same G H) : ∀ {v : V} {d : Dat}, Rp K O G v d → d.plain = true → Dp K H v d.py
  | _, _, .non, _ => .non
  | _, _, .bl b, _ => .bl b
  | _, _, .int i, _ => .int i
  | _, _, .str x, _ => .str x
  | _, _, .lst h1 h2 _, p => .lst (SqL.of (s _ _ h1)) (RpAll.dp s h2 p)
  | _, _, .tup h1 h2, p => .tup (sq_t s h1) (RpAll.dp s h2 p)
  | _, _, .dct _ _ _ _, p => nomatch p
  | _, _, .ins _ _ _, p => nomatch p
  | _, _, .any _, p => nomatch p
  | _, _, .adr _, p => nomatch p
  | _, _, .odd _ _ _ _ _ _ _, p => nomatch p
theorem RpAll.dp (s : Same G H) : ∀ {vs : List V} {ds : List Dat}, RpAll K O G vs ds → Dat.plains ds = true → DpAll K H vs (Dat.pys ds)
  | _, _, .nil, _ => .nil
  | _, _, .cons h1 h2, p => .cons (Rp.dp s h1 (Bool.and_eq_true_iff.mp p).1) (RpAll.dp s h2 (Bool.and_eq_true_iff.mp p).2)
end
end
def addD : Dat → Dat → Option Dat
  | .int i, .int j => some (.int (i + j))
  | .str x, .str y => if x.length + y.length ≤ sizeLine then some (.str (x ++ y)) else none
  | .lst _ xs, .lst _ ys => if xs.length + ys.length ≤ sizeLine then some (.lst true (xs ++ ys)) else none
  | .tup xs, .tup ys => if xs ≠ [] ∧ xs.length + ys.length ≤ sizeLine then some (.tup (xs ++ ys)) else none
  | _, _ => none
def mulD : Dat → Dat → Option Dat
  | .int i, .int j => if (-(2 ^ 64) < i ∧ i < 2 ^ 64) ∨ (-(2 ^ 64) < j ∧ j < 2 ^ 64) then some (.int (i * j)) else none
  | .lst _ xs, .int k => if -(2 ^ 63) ≤ k ∧ k < 2 ^ 63 ∧ xs.length * k.toNat ≤ sizeLine then some (.lst true (List.replicate k.toNat xs).flatten) else none
  | _, _ => none
section
variable {X : Cx}
theorem RpAll.rep {K : PySem.W.Frag} {O G : Hp} {vs : List V} {ds : List Dat} (h : RpAll K O G vs ds) : ∀ n, RpAll K O G (List.replicate n vs).flatten (List.replicate n ds).flatten
  | 0 => .nil
  | n + 1 => by
    rw [List.replicate_succ, List.replicate_succ, List.flatten_cons, List.flatten_cons]
    exact h.append (RpAll.rep h n)
theorem opw_mul : OpR X (binaryOp .Mult) (rO X.K mulD) := by
  intro pins s σ H x y v u Q I rx ry h
  obtain ⟨B, O, G, d1, d2, d, w, r1, r2, e, q⟩ := h
  cases r1 <;> cases r2 <;> try cases e
  · simp only [mulD] at e
    split at e
    · rename_i h0
      cases e
      exact op_mul pins s σ H _ _ v u Q I rx ry ⟨_, _, rfl, rfl, h0, Ck.now q w (.int _)⟩
    · cases e
  · rename_i a xs t ds h1 h2 h3 k
    simp only [mulD] at e
    split at e
    · rename_i h0
      cases e
      refine op_rep pins s σ H _ _ v u Q I rx ry ⟨_, _, _, rfl, rfl, w.s _ _ h1, h0.1, h0.2.1, by rw [h2.len]; exact h0.2.2, fun p hp => ?_⟩
      exact q _ _ _ (w.ice hp) (.lst upd_same ((h2.rep _).mono (w.ice (o := .lst (List.replicate k.toNat xs).flatten) hp).g) fun _ => w.old _ hp)
    · cases e
theorem RpAll.nil_iff {K : PySem.W.Frag} {O G : Hp} {vs : List V} {ds : List Dat} (h : RpAll K O G vs ds) : vs = [] ↔ ds = [] := by
  cases h <;> simp
theorem opw_add : OpR X (binaryOp .Add) (rO X.K addD) := by
  intro pins s σ H x y v u Q I rx ry h
  obtain ⟨B, O, G, d1, d2, d, w, r1, r2, e, q⟩ := h
  cases r1 <;> cases r2 <;> try cases e
  · exact op_add pins s σ H _ _ v u Q I rx ry ⟨_, _, rfl, rfl, Ck.now q w (.int _)⟩
  · simp only [addD] at e
    split at e
    · rename_i h0
      cases e
      exact op_add_str pins s σ H _ _ v u Q I rx ry ⟨_, _, rfl, rfl, h0, Ck.now q w (.str _)⟩
    · cases e
  · rename_i h1 h2 _ _ _ _ _ h3 h4 _
    simp only [addD] at e
    split at e
    · rename_i h0
      cases e
      refine op_cat pins s σ H _ _ v u Q I rx ry ⟨_, _, _, _, rfl, rfl, w.s _ _ h1, w.s _ _ h3, by rw [h2.len, h4.len]; exact h0, fun p hp => ?_⟩
      exact q _ _ _ (w.ice hp) (.lst upd_same ((h2.append h4).mono (w.ice hp).g) fun _ => w.old _ hp)
    · cases e
  · rename_i h1 h2 _ _ _ h3 h4
    simp only [addD] at e
    split at e
    · rename_i h0
      cases e
      refine op_catT pins s σ H _ _ v u Q I rx ry ⟨_, _, _, _, rfl, rfl, sq_t w.s h1, sq_t w.s h3, fun z => h0.1 (h2.nil_iff.mp z), by rw [h2.len, h4.len]; exact h0.2, fun z => ?_, fun z p hp => ?_⟩
      · have z' := h4.nil_iff.mp z
        rw [z', List.append_nil] at q
        exact Ck.now q w (.tup h1 h2)
      · exact q _ _ _ (w.ice hp) (.tup (SqT.of upd_same) ((h2.append h4).mono (w.ice hp).g))
    · cases e
def scalD : Dat → Dat → Bool
  | .non, .non => true | .non, .int _ => true | .int _, .non => true | .non, .bl _ => true | .bl _, .non => true | .non, .str _ => true | .str _, .non => true
  | .int _, .int _ => true | .bl _, .bl _ => true | .str _, .str _ => true
  | .int _, .str _ => true | .str _, .int _ => true | .bl _, .str _ => true | .str _, .bl _ => true
  | _, _ => false
def eqS : Dat → Dat → Bool
  | .non, .non => true
  | .int i, .int j => decide (i = j)
  | .bl i, .bl j => decide (i = j)
  | .str i, .str j => decide (i = j)
  | _, _ => false
theorem scal_of {K : PySem.W.Frag} {O G : Hp} {x y : V} {d1 d2 : Dat} (r1 : Rp K O G x d1) (r2 : Rp K O G y d2) (h : scalD d1 d2 = true) : scal x y = true ∧ decide (x = y) = eqS d1 d2 := by
  cases r1 <;> cases r2 <;> first | (refine ⟨rfl, ?_⟩; simp [eqS]; done) | (refine ⟨rfl, ?_⟩; rfl) | (cases h; done)
def deepOk (d : Dat) : Bool := d.plain && SeqAt.shaped d.py
def eqB (d e : Dat) : Option Bool := if scalD d e = true then some (eqS d e) else if deepOk d = true ∧ deepOk e = true then some (PyData.eqv d.py e.py) else none
def eqD (d e : Dat) : Option Dat := (eqB d e).map .bl
def neD (d e : Dat) : Option Dat := (eqB d e).map fun b => .bl (!b)
theorem opw_eq (hu : X.A.units + 64 < cLine) : OpR X (compareOp .Eq) (rO X.K eqD) := by
  intro pins s σ H x y v u Q I rx ry h
  obtain ⟨B, O, G, d1, d2, d, w, r1, r2, e, q⟩ := h
  unfold eqD eqB at e
  split at e
  · rename_i h0
    cases e
    obtain ⟨a1, a2⟩ := scal_of r1 r2 h0
    exact op_eq pins s σ H _ _ v u Q I rx ry ⟨a1, by rw [a2]; exact Ck.now q w (.bl _)⟩
  · split at e
    · rename_i h0
      cases e
      obtain ⟨a1, a2⟩ := Bool.and_eq_true_iff.mp h0.1
      obtain ⟨b1, b2⟩ := Bool.and_eq_true_iff.mp h0.2
      exact op_eqD hu pins s σ H _ _ v u Q I rx ry ⟨_, _, r1.dp w.s a1, r2.dp w.s b1, a2, b2, Ck.now q w (.bl _)⟩
    · cases e
theorem opw_ne (hu : X.A.units + 64 < cLine) : OpR X (compareOp .NotEq) (rO X.K neD) := by
  intro pins s σ H x y v u Q I rx ry h
  obtain ⟨B, O, G, d1, d2, d, w, r1, r2, e, q⟩ := h
  unfold neD eqB at e
  split at e
  · rename_i h0
    cases e
    obtain ⟨a1, a2⟩ := scal_of r1 r2 h0
    exact op_ne pins s σ H _ _ v u Q I rx ry ⟨a1, by rw [a2]; exact Ck.now q w (.bl _)⟩
  · split at e
    · rename_i h0
      cases e
      obtain ⟨a1, a2⟩ := Bool.and_eq_true_iff.mp h0.1
      obtain ⟨b1, b2⟩ := Bool.and_eq_true_iff.mp h0.2
      exact op_neD hu pins s σ H _ _ v u Q I rx ry ⟨_, _, r1.dp w.s a1, r2.dp w.s b1, a2, b2, Ck.now q w (.bl _)⟩
    · cases e
def ltD : Dat → Dat → Option Dat
  | .int i, .int j => some (.bl (decide (i < j)))
  | .str i, .str j => some (.bl (decide (i.cps.toList < j.cps.toList)))
  | _, _ => none
def leD : Dat → Dat → Option Dat
  | .int i, .int j => some (.bl (decide (i ≤ j)))
  | _, _ => none
def gtD : Dat → Dat → Option Dat
  | .int i, .int j => some (.bl (decide (j < i)))
  | _, _ => none
def geD : Dat → Dat → Option Dat
  | .int i, .int j => some (.bl (decide (j ≤ i)))
  | _, _ => none
theorem opw_lt : OpR X (compareOp .Lt) (rO X.K ltD) := by
  intro pins s σ H x y v u Q I rx ry h
  obtain ⟨B, O, G, d1, d2, d, w, r1, r2, e, q⟩ := h
  cases r1 <;> cases r2 <;> try cases e
  · exact op_lt pins s σ H _ _ v u Q I rx ry ⟨_, _, rfl, rfl, Ck.now q w (.bl _)⟩
  · exact op_lt_str pins s σ H _ _ v u Q I rx ry ⟨_, _, rfl, rfl, Ck.now q w (.bl _)⟩
theorem opw_le : OpR X (compareOp .LtE) (rO X.K leD) := by
  intro pins s σ H x y v u Q I rx ry h
  obtain ⟨B, O, G, d1, d2, d, w, r1, r2, e, q⟩ := h
  cases r1 <;> cases r2 <;> try cases e
  exact op_le pins s σ H _ _ v u Q I rx ry ⟨_, _, rfl, rfl, Ck.now q w (.bl _)⟩
def isND : Dat → Dat → Option Dat
  | .non, .non => some (.bl true)
  | _, .non => some (.bl false)
  | _, _ => none
def notND : Dat → Dat → Option Dat
  | .non, .non => some (.bl false)
  | _, .non => some (.bl true)
  | _, _ => none
def valD {κ : Type} [DecidableEq κ] (es : List (κ × Dat)) (k : κ) : Option Dat := (es.find? fun kv => decide (kv.1 = k)).map (·.2)
theorem val_of {K : PySem.W.Frag} {O G : Hp} {κ : Type} [DecidableEq κ] (k : κ) : ∀ {kvs : List (κ × V)} {es : List (κ × Dat)}, kvs.map (·.1) = es.map (·.1) → RpAll K O G (kvs.map (·.2)) (es.map (·.2)) →
    (valV kvs k = none ∧ valD es k = none) ∨ ∃ v d, valV kvs k = some v ∧ valD es k = some d ∧ Rp K O G v d
  | [], [], _, _ => .inl ⟨rfl, rfl⟩
  | [], e :: es, h, _ => by cases h
  | p :: kvs, [], h, _ => by cases h
  | p :: kvs, e :: es, h, r => by
    cases r with
    | cons r1 r2 =>
      injection h with h1 h2
      have h1' : p.1 = e.1 := h1
      by_cases z : p.1 = k
      · have z' : e.1 = k := by rw [← h1']; exact z
        exact .inr ⟨p.2, e.2, by simp [valV, z], by simp [valD, z'], r1⟩
      · have z' : ¬ e.1 = k := by rw [← h1']; exact z
        have a1 : valV (p :: kvs) k = valV kvs k := valV_neg z
        have a2 : valD (e :: es) k = valD es k := by simp [valD, z']
        rw [a1, a2]
        exact val_of k h2 r2
/-- a key -/
def keyD : Dat → Option Key
  | .int i => some (.inl i)
  | .str x => some (.inr x)
  | _ => none
theorem key_of {K : PySem.W.Frag} {O G : Hp} {v : V} {d : Dat} {k : Key} (r : Rp K O G v d) (h : keyD d = some k) : v = kV k := by
  cases r <;> cases h <;> rfl
theorem Wd.rd {B : Bg} {O G H : Hp} {a : Addr} {u : HO} (w : Wd B O G H) (h : Rd G a u) : Rd H a u := rd_mono w.s h
def eqF : Dat → Dat → Bool
  | .non, .non => true
  | .bl a, .bl b => a == b
  | .bl a, .int b => (if a then 1 else 0) == b
  | .int a, .bl b => a == (if b then 1 else 0)
  | .int a, .int b => a == b
  | .str a, .str b => a == b
  | _, _ => false
def flatD : Dat → Bool
  | .non => true
  | .bl _ => true
  | .int _ => true
  | .str _ => true
  | _ => false
theorem flat_of {K : PySem.W.Frag} {O G : Hp} {v : V} {d : Dat} (r : Rp K O G v d) : flatV v = flatD d := by
  cases r <;> rfl
theorem flats_of {K : PySem.W.Frag} {O G : Hp} : ∀ {vs : List V} {ds : List Dat}, RpAll K O G vs ds → vs.all flatV = ds.all flatD
  | _, _, .nil => rfl
  | _, _, .cons h t => by rw [List.all_cons, List.all_cons, flat_of h, flats_of t]
theorem eqF_of {K : PySem.W.Frag} {O G : Hp} {v u : V} {d e : Dat} (r : Rp K O G v d) (r' : Rp K O G u e) : eqV v u = eqF d e := by
  cases r <;> cases r' <;> rfl
theorem inF_of {K : PySem.W.Frag} {O G : Hp} {x : V} {d : Dat} (r : Rp K O G x d) : ∀ {vs : List V} {ds : List Dat}, RpAll K O G vs ds → inV x vs = ds.any fun y => eqF y d
  | _, _, .nil => rfl
  | _, _, .cons h t => by
    have ih := inF_of r t
    unfold inV at ih ⊢
    rw [List.any_cons, List.any_cons, eqF_of h r, ih]
def inB : Dat → Dat → Option Bool
  | d, .lst tg ds => if flatD d && ds.all flatD then some (ds.any fun y => eqF y d) else if deepOk d && deepOk (.lst tg ds) then some ((Dat.pys ds).any fun z => PyData.eqv z d.py) else none
  | d, .tup ds => if flatD d && ds.all flatD then some (ds.any fun y => eqF y d) else none
  | d, .dct _ es => (keyD d).map fun k => (valD es k).isSome
  | .str x, .str z => some (if x.cps.size = 1 then x.cps.toList.all fun c => decide (c ∈ z.cps.toList) else !(Builtin.Str.occurrences z x 0 z.length 1).isEmpty)
  | _, _ => none
def inD (d e : Dat) : Option Dat := (inB d e).map .bl
def ninD (d e : Dat) : Option Dat := (inB d e).map fun b => .bl (!b)
theorem one_sign {x : Str} (h : x.cps.size = 1) : ∃ c, x = ⟨#[c]⟩ := by
  obtain ⟨⟨cs⟩⟩ := x
  match cs, h with
  | [c], _ => exact ⟨c, rfl⟩
theorem opw_in (hu : X.A.units + 65 < cLine) : OpR X (compareOp .In) (rO X.K inD) := by
  intro pins s σ H x y v u Q I rx ry h
  obtain ⟨B, O, G, d1, d2, d, w, r1, r2, e0, q⟩ := h
  obtain ⟨b, e, rfl⟩ := Option.map_eq_some_iff.mp e0
  clear e0
  have fin : Q (.bl b) H := Ck.now q w (.bl _)
  cases r2 with
  | non => cases r1 <;> cases e
  | bl _ => cases r1 <;> cases e
  | int _ => cases r1 <;> cases e
  | ins _ _ _ => cases r1 <;> cases e
  | any _ => cases r1 <;> cases e
  | adr _ => cases r1 <;> cases e
  | odd => cases r1 <;> cases e
  | @lst a xs tg ds h1 h2 h2t =>
    have e' : (if flatD d1 && ds.all flatD then some (ds.any fun y => eqF y d1) else if deepOk d1 && deepOk (.lst tg ds) then some ((Dat.pys ds).any fun z => PyData.eqv z d1.py) else none) = some b := by
      cases d1 <;> exact e
    split at e'
    · rename_i h0
      cases e'
      obtain ⟨a1, a2⟩ := Bool.and_eq_true_iff.mp h0
      exact op_in_seq pins s σ H _ _ v u Q I rx ry ⟨_, _, rfl, .inl (SqL.of (w.s _ _ h1)), by rw [flat_of r1]; exact a1, by rw [flats_of h2]; exact a2, by rw [inF_of r1 h2]; exact fin⟩
    · split at e'
      · rename_i h0
        cases e'
        obtain ⟨a1, a2⟩ := Bool.and_eq_true_iff.mp h0
        obtain ⟨a1, a3⟩ := Bool.and_eq_true_iff.mp a1
        obtain ⟨a2, a4⟩ := Bool.and_eq_true_iff.mp a2
        exact op_inD hu pins s σ H _ _ v u Q I rx ry ⟨_, _, r1.dp w.s a1, (Rp.lst h1 h2 h2t : Rp X.K O G _ _).dp w.s a2, a3, a4, fin⟩
      · cases e'
  | @tup a xs ds h1 h2 =>
    have e' : (if flatD d1 && ds.all flatD then some (ds.any fun y => eqF y d1) else none) = some b := by
      cases d1 <;> exact e
    split at e'
    · rename_i h0
      cases e'
      obtain ⟨a1, a2⟩ := Bool.and_eq_true_iff.mp h0
      exact op_in_seq pins s σ H _ _ v u Q I rx ry ⟨_, _, rfl, .inr (sq_t w.s h1), by rw [flat_of r1]; exact a1, by rw [flats_of h2]; exact a2, by rw [inF_of r1 h2]; exact fin⟩
    · cases e'
  | @dct a od kvs tg es h1 h2 h3 h3t =>
    have e' : ((keyD d1).map fun k => (valD es k).isSome) = some b := by
      cases d1 <;> exact e
    obtain ⟨k, ek, rfl⟩ := Option.map_eq_some_iff.mp e'
    have ev := key_of r1 ek
    subst ev
    obtain rfl : u = Value.ref a := ry
    have g : DGet H a (kV k) (valV kvs k) := .inl ⟨kvs, k, w.rd (.inr ⟨od, h1⟩), rfl, rfl⟩
    refine d_in (by omega) I g rx fun s3 I3 => ⟨.bl (valV kvs k).isSome, H, I3, rfl, ?_⟩
    rcases val_of (K := X.K) (G := G) k h2 h3 with ⟨z1, z2⟩ | ⟨_, _, z1, z2, _⟩
    · rw [z1]
      rw [z2] at fin
      exact fin
    · rw [z1]
      rw [z2] at fin
      exact fin
  | str z =>
    cases r1 with
    | str x' =>
      cases e
      split at fin
      · rename_i h0
        obtain ⟨c, rfl⟩ := one_sign h0
        refine op_in_sign pins s σ H _ _ v u Q I rx ry ⟨c, z, rfl, rfl, ?_⟩
        simpa using fin
      · exact op_in_str pins s σ H _ _ v u Q I rx ry ⟨_, _, rfl, rfl, fin⟩
    | _ => cases e
theorem opw_nin (hu : X.A.units + 65 < cLine) : OpR X (compareOp .NotIn) (rO X.K ninD) := by
  intro pins s σ H x y v u Q I rx ry h
  obtain ⟨B, O, G, d1, d2, d, w, r1, r2, e0, q⟩ := h
  obtain ⟨b, e, rfl⟩ := Option.map_eq_some_iff.mp e0
  clear e0
  have fin : Q (.bl (!b)) H := Ck.now q w (.bl _)
  cases r2 with
  | non => cases r1 <;> cases e
  | bl _ => cases r1 <;> cases e
  | int _ => cases r1 <;> cases e
  | ins _ _ _ => cases r1 <;> cases e
  | any _ => cases r1 <;> cases e
  | adr _ => cases r1 <;> cases e
  | odd => cases r1 <;> cases e
  | @lst a xs tg ds h1 h2 h2t =>
    have e' : (if flatD d1 && ds.all flatD then some (ds.any fun y => eqF y d1) else if deepOk d1 && deepOk (.lst tg ds) then some ((Dat.pys ds).any fun z => PyData.eqv z d1.py) else none) = some b := by
      cases d1 <;> exact e
    split at e'
    · rename_i h0
      cases e'
      obtain ⟨a1, a2⟩ := Bool.and_eq_true_iff.mp h0
      exact op_notIn_seq pins s σ H _ _ v u Q I rx ry ⟨_, _, rfl, .inl (SqL.of (w.s _ _ h1)), by rw [flat_of r1]; exact a1, by rw [flats_of h2]; exact a2, by rw [inF_of r1 h2]; exact fin⟩
    · split at e'
      · rename_i h0
        cases e'
        obtain ⟨a1, a2⟩ := Bool.and_eq_true_iff.mp h0
        obtain ⟨a1, a3⟩ := Bool.and_eq_true_iff.mp a1
        obtain ⟨a2, a4⟩ := Bool.and_eq_true_iff.mp a2
        exact op_notInD hu pins s σ H _ _ v u Q I rx ry ⟨_, _, r1.dp w.s a1, (Rp.lst h1 h2 h2t : Rp X.K O G _ _).dp w.s a2, a3, a4, fin⟩
      · cases e'
  | @tup a xs ds h1 h2 =>
    have e' : (if flatD d1 && ds.all flatD then some (ds.any fun y => eqF y d1) else none) = some b := by
      cases d1 <;> exact e
    split at e'
    · rename_i h0
      cases e'
      obtain ⟨a1, a2⟩ := Bool.and_eq_true_iff.mp h0
      exact op_notIn_seq pins s σ H _ _ v u Q I rx ry ⟨_, _, rfl, .inr (sq_t w.s h1), by rw [flat_of r1]; exact a1, by rw [flats_of h2]; exact a2, by rw [inF_of r1 h2]; exact fin⟩
    · cases e'
  | @dct a od kvs tg es h1 h2 h3 h3t =>
    have e' : ((keyD d1).map fun k => (valD es k).isSome) = some b := by
      cases d1 <;> exact e
    obtain ⟨k, ek, rfl⟩ := Option.map_eq_some_iff.mp e'
    have ev := key_of r1 ek
    subst ev
    obtain rfl : u = Value.ref a := ry
    have g : DGet H a (kV k) (valV kvs k) := .inl ⟨kvs, k, w.rd (.inr ⟨od, h1⟩), rfl, rfl⟩
    refine d_notIn (by omega) I g rx fun s3 I3 => ⟨.bl (!(valV kvs k).isSome), H, I3, rfl, ?_⟩
    rcases val_of (K := X.K) (G := G) k h2 h3 with ⟨z1, z2⟩ | ⟨_, _, z1, z2, _⟩
    · rw [z1]
      rw [z2] at fin
      exact fin
    · rw [z1]
      rw [z2] at fin
      exact fin
  | str z =>
    cases r1 with
    | str x' =>
      cases e
      split at fin
      · rename_i h0
        obtain ⟨c, rfl⟩ := one_sign h0
        refine op_notIn_sign pins s σ H _ _ v u Q I rx ry ⟨c, z, rfl, rfl, ?_⟩
        simpa using fin
      · exact op_notIn_str pins s σ H _ _ v u Q I rx ry ⟨_, _, rfl, rfl, fin⟩
    | _ => cases e
def ixD : Dat → Dat → Option Dat
  | .lst _ ds, .int i => atI ds i
  | .tup ds, .int i => atI ds i
  | .str z, .int i => if z.length ≤ sizeLine then (atI z.cps.toList i).map fun c => .str ⟨#[c]⟩ else none
  | .dct _ es, d => (keyD d).bind fun k => valD es k
  | _, _ => none
theorem RpAll.atI {K : PySem.W.Frag} {O G : Hp} {vs : List V} {ds : List Dat} {i : Int} {d : Dat} (h : RpAll K O G vs ds) (e : L2.atI ds i = some d) : ∃ v, L2.atI vs i = some v ∧ Rp K O G v d := by
  unfold L2.atI at e ⊢
  rw [h.len]
  cases z : ixN ds.length i with
  | none =>
    rw [z] at e
    cases e
  | some j =>
    rw [z] at e
    exact h.at' e
theorem ixw : X.A.units + 1 < cLine → IxR X (rO X.K ixD) := by
  intro hu value slice pins s σ H x y v u Q I rx ry h hs
  obtain ⟨B, O, G, d1, d2, d, w, r1, r2, e, q⟩ := h
  cases r1 with
  | non => cases r2 <;> cases e
  | bl _ => cases r2 <;> cases e
  | int _ => cases r2 <;> cases e
  | ins _ _ _ => cases r2 <;> cases e
  | any _ => cases r2 <;> cases e
  | adr _ => cases r2 <;> cases e
  | odd => cases r2 <;> cases e
  | lst h1 h2 =>
    cases r2 with
    | int i =>
      obtain ⟨z, e1, e2⟩ := h2.atI e
      exact ix_list value slice pins s σ H _ _ v u Q I rx ry ⟨_, _, i, z, rfl, rfl, SqL.of (w.s _ _ h1), e1, Ck.now q w e2⟩ hs
    | _ => cases e
  | tup h1 h2 =>
    cases r2 with
    | int i =>
      obtain ⟨z, e1, e2⟩ := h2.atI e
      exact ix_tup value slice pins s σ H _ _ v u Q I rx ry ⟨_, _, i, z, rfl, rfl, sq_t w.s h1, e1, Ck.now q w e2⟩ hs
    | _ => cases e
  | str z =>
    cases r2 with
    | int i =>
      simp only [ixD] at e
      split at e
      · rename_i hz
        obtain ⟨c, e1, rfl⟩ := Option.map_eq_some_iff.mp e
        exact ix_str value slice pins s σ H _ _ v u Q I rx ry ⟨z, i, c, rfl, rfl, hz, e1, Ck.now q w (.str _)⟩ hs
      · cases e
    | _ => cases e
  | @dct a od kvs tg es h1 h2 h3 h3t =>
    have e' : ((keyD d2).bind fun k => valD es k) = some d := by
      cases d2 <;> exact e
    obtain ⟨k, ek, e'⟩ := Option.bind_eq_some_iff.mp e'
    have ev := key_of r2 ek
    subst ev
    obtain rfl : v = Value.ref a := rx
    rcases val_of (K := X.K) (G := G) k h2 h3 with ⟨z1, z2⟩ | ⟨z, d', z1, z2, z3⟩
    · rw [z2] at e'
      cases e'
    · rw [z2] at e'
      cases e'
      have g : DGet H a (kV k) (some z) := .inl ⟨kvs, k, w.rd (.inr ⟨od, h1⟩), rfl, z1.symm⟩
      exact tail_any (dict_typeIs I g) PySem.F.slot_dict_getitem.lookup (d_getItem hu I g ry fun w' s3 I3 rw' => ⟨z, H, I3, rw', Ck.now q w z3⟩) hs
def lenD : List Dat → Option Dat
  | [.lst _ ds] => some (.int ds.length)
  | [.tup ds] => some (.int ds.length)
  | [.str z] => if z.length ≤ sizeLine then some (.int z.length) else none
  | [.dct _ es] => some (.int es.length)
  | [.odd _ _ es] => some (.int es.length)
  | _ => none
theorem clw_len : CallR X (.builtin "len") (rC X.K lenD) := by
  intro pins s σ H xs us Q I r h
  obtain ⟨B, O, G, ds, d, w, rs, e, q⟩ := h
  cases rs with
  | nil => cases e
  | cons r1 rt =>
    cases rt with
    | cons _ _ => cases r1 <;> cases e
    | nil =>
      cases r1 with
      | lst h1 h2 =>
        cases e
        exact call_len_seq pins s σ H _ us Q I r ⟨_, _, rfl, .inl (SqL.of (w.s _ _ h1)), by rw [h2.len]; exact Ck.now q w (.int _)⟩
      | tup h1 h2 =>
        cases e
        exact call_len_seq pins s σ H _ us Q I r ⟨_, _, rfl, .inr (sq_t w.s h1), by rw [h2.len]; exact Ck.now q w (.int _)⟩
      | str z =>
        simp only [lenD] at e
        split at e
        · rename_i hz
          cases e
          exact call_len_str pins s σ H _ us Q I r ⟨_, rfl, hz, Ck.now q w (.int _)⟩
        · cases e
      | @dct a od kvs tg es h1 h2 h3 h3t =>
        cases e
        obtain ⟨u, rfl, ru⟩ := vals1 r
        cases ru
        refine d_len I (w.rd (.inr ⟨od, h1⟩)) fun t s' I' => ⟨.int kvs.length, H, I', ⟨t, rfl⟩, ?_⟩
        have hl := congrArg List.length h2
        rw [List.length_map, List.length_map] at hl
        rw [hl]
        exact Ck.now q w (.int _)
      | @odd a o wd xs kvs vvs tg es h1 h2 h3 h4 h5 h6 h7 =>
        cases e
        obtain ⟨u, rfl, ru⟩ := vals1 r
        cases ru
        refine EM.len_odd I (w.rd (.inr ⟨o, h1⟩)) fun t s' I' => ⟨.int xs.length, H, I', ⟨t, rfl⟩, ?_⟩
        have hl := congrArg List.length h2
        rw [List.length_map, List.length_map] at hl
        rw [hl]
        exact Ck.now q w (.int _)
      | _ => cases e
end
end EW
set_option Elab.async false
set_option linter.all false
set_option maxRecDepth 100000
set_option maxHeartbeats 4000000
namespace EW
open PySem PySem.Spec PyProof.Rows L2 EG EM
def blsD : List Dat → Option (List Bool)
  | [] => some []
  | .bl b :: r => (blsD r).map (b :: ·)
  | _ => none
def strsD : List Dat → Option (List Str)
  | [] => some []
  | .str b :: r => (strsD r).map (b :: ·)
  | _ => none
section
variable {K : PySem.W.Frag} {O G : Hp}
theorem bls_of : ∀ {vs : List V} {ds : List Dat} {bs : List Bool}, RpAll K O G vs ds → blsD ds = some bs → vs = bs.map V.bl
  | _, _, _, .nil, h => by cases h; rfl
  | _, _, bs, .cons r t, h => by
    cases r with
    | bl b =>
      obtain ⟨r, e, rfl⟩ := Option.map_eq_some_iff.mp h
      rw [bls_of t e]
      rfl
    | _ => cases h
theorem strs_of : ∀ {vs : List V} {ds : List Dat} {bs : List Str}, RpAll K O G vs ds → strsD ds = some bs → vs = bs.map V.str
  | _, _, _, .nil, h => by cases h; rfl
  | _, _, bs, .cons r t, h => by
    cases r with
    | str b =>
      obtain ⟨r, e, rfl⟩ := Option.map_eq_some_iff.mp h
      rw [strs_of t e]
      rfl
    | _ => cases h
theorem RpAll.strs : ∀ (xs : List Str), RpAll K O G (xs.map V.str) (xs.map Dat.str)
  | [] => .nil
  | x :: xs => .cons (.str x) (RpAll.strs xs)
theorem strsD_map : ∀ xs : List Str, strsD (xs.map Dat.str) = some xs
  | [] => rfl
  | x :: xs => by
    show (strsD (xs.map Dat.str)).map (x :: ·) = _
    rw [strsD_map xs]
    rfl
theorem blsD_map : ∀ xs : List Bool, blsD (xs.map Dat.bl) = some xs
  | [] => rfl
  | x :: xs => by
    show (blsD (xs.map Dat.bl)).map (x :: ·) = _
    rw [blsD_map xs]
    rfl
end
def allD : List Dat → Option Dat
  | [.lst _ ds] => (blsD ds).map fun bs => .bl (bs.all id)
  | _ => none
def listD : List Dat → Option Dat
  | [.lst _ ds] => some (.lst true ds)
  | [.tup ds] => some (.lst true ds)
  | _ => none
def tupleD : List Dat → Option Dat
  | [.lst _ ds] => some (.tup ds)
  | [.tup ds] => some (.tup ds)
  | _ => none
def boolI (b : Bool) : Int := if b = true then 1 else 0
def intD : List Dat → Option Dat
  | [.int i] => some (.int i)
  | [.bl b] => some (.int (boolI b))
  | _ => none
section
variable {X : Cx}
theorem one_inv {K : PySem.W.Frag} {O G : Hp} {vs : List V} {d : Dat} (h : RpAll K O G vs [d]) : ∃ v, vs = [v] ∧ Rp K O G v d := by
  cases h with
  | cons r t =>
    cases t
    exact ⟨_, rfl, r⟩
theorem clw_all (hc : X.calm = true) : CallR X (.builtin "all") (rC X.K allD) := by
  intro pins s σ H xs us Q I r h
  obtain ⟨B, O, G, ds, d, w, rs, e, q⟩ := h
  match ds, rs, e with
  | [.lst _ ds], rs, e =>
    obtain ⟨v, rfl, rv⟩ := one_inv rs
    cases rv with
    | lst h1 h2 =>
      obtain ⟨ss, es, rfl⟩ := Option.map_eq_some_iff.mp e
      have hv := bls_of h2 es
      subst hv
      exact cr_all hc pins s σ H _ us Q I r ⟨_, _, rfl, SqL.of (w.s _ _ h1), Ck.now q w (.bl _)⟩
theorem clw_list : CallR X (.type "list") (rC X.K listD) := by
  intro pins s σ H xs us Q I r h
  obtain ⟨B, O, G, ds, d, w, rs, e, q⟩ := h
  match ds, rs, e with
  | [.lst _ ds], rs, e =>
    obtain ⟨v, rfl, rv⟩ := one_inv rs
    cases e
    cases rv with
    | lst h1 h2 => exact call_list_of pins s σ H _ us Q I r ⟨_, _, rfl, .inl (SqL.of (w.s _ _ h1)), fun p hp => q _ _ _ (w.ice hp) (.lst upd_same (h2.mono (w.ice hp).g) fun _ => w.old _ hp)⟩
  | [.tup ds], rs, e =>
    obtain ⟨v, rfl, rv⟩ := one_inv rs
    cases e
    cases rv with
    | tup h1 h2 => exact call_list_of pins s σ H _ us Q I r ⟨_, _, rfl, .inr (sq_t w.s h1), fun p hp => q _ _ _ (w.ice hp) (.lst upd_same (h2.mono (w.ice hp).g) fun _ => w.old _ hp)⟩
theorem clw_tuple : CallR X (.type "tuple") (rC X.K tupleD) := by
  intro pins s σ H xs us Q I r h
  obtain ⟨B, O, G, ds, d, w, rs, e, q⟩ := h
  match ds, rs, e with
  | [.lst _ ds], rs, e =>
    obtain ⟨v, rfl, rv⟩ := one_inv rs
    cases e
    cases rv with
    | lst h1 h2 => exact call_tuple_of pins s σ H _ us Q I r ⟨_, _, rfl, .inl ⟨SqL.of (w.s _ _ h1), fun p hp => q _ _ _ (w.ice hp) (.tup (SqT.of upd_same) (h2.mono (w.ice hp).g))⟩⟩
  | [.tup ds], rs, e =>
    obtain ⟨v, rfl, rv⟩ := one_inv rs
    cases e
    cases rv with
    | tup h1 h2 => exact call_tuple_of pins s σ H _ us Q I r ⟨_, _, rfl, .inr ⟨sq_t w.s h1, Ck.now q w (.tup h1 h2)⟩⟩
theorem clw_int : CallR X (.type "int") (rC X.K intD) := by
  intro pins s σ H xs us Q I r h
  obtain ⟨B, O, G, ds, d, w, rs, e, q⟩ := h
  match ds, rs, e with
  | [.int i], rs, e =>
    obtain ⟨v, rfl, rv⟩ := one_inv rs
    cases e
    cases rv
    exact call_int1 pins s σ H _ us Q I r (.inl ⟨_, rfl, Ck.now q w (.int _)⟩)
  | [.bl b], rs, e =>
    obtain ⟨v, rfl, rv⟩ := one_inv rs
    cases e
    cases rv
    exact call_int1 pins s σ H _ us Q I r (.inr ⟨_, rfl, Ck.now q w (.int _)⟩)
def tyN : Dat → Option String
  | .non => some "NoneType"
  | .bl _ => some "bool"
  | .int _ => some "int"
  | .str _ => some "str"
  | .lst _ _ => some "list"
  | .tup _ => some "tuple"
  | .dct _ _ => some "dict"
  | .ins _ _ => none
  | .any => none
  | .adr _ => none
  | .odd _ _ _ => some "dict"
def isB (n T : String) : Bool := decide (n = T) || (decide (n = "bool") && decide (T = "int"))
def tyNames : List String := ["NoneType", "bool", "int", "str", "list", "tuple", "dict"]
theorem kit_all : ∀ n ∈ tyNames, ∀ T ∈ tyNames, kitB n T = some (isB n T) := by decide +kernel
theorem tyN_mem {d : Dat} {n : String} (h : tyN d = some n) : n ∈ tyNames := by
  cases d <;> cases h <;> decide
theorem tyx_of {K : PySem.W.Frag} {B : Bg} {O G H : Hp} {v : V} {d : Dat} {n : String} (w : Wd B O G H) (r : Rp K O G v d) (h : tyN d = some n) (no : ∀ w t es, d ≠ .odd w t es) : TyX K H v (.type n) := by
  cases r with
  | non => cases h; exact .base .non
  | bl _ => cases h; exact .base (.bl _)
  | int _ => cases h; exact .base (.int _)
  | str _ => cases h; exact .base (.str _)
  | lst h1 _ _ => cases h; exact .base (.lst (w.s _ _ h1))
  | tup h1 _ =>
    cases h
    rcases h1 with (h1 | ⟨o, h1⟩) | ⟨o, its, k, e1, e2, _⟩
    · exact .base (.tup (w.s _ _ h1))
    · exact .fTuple (w.s _ _ h1)
    · exact .kTuple e1 e2
  | dct h1 _ _ _ =>
    cases h
    exact .fDict (w.s _ _ h1)
  | ins _ _ _ => cases h
  | any _ => cases h
  | adr _ => cases h
  | odd => exact absurd rfl (no _ _ _)
inductive TyD (K : PySem.W.Frag) (H : Hp) : V → Value → Prop where
  | x {v : V} {t : Value} (h : TyX K H v t) : TyD K H v t
  | odd {a : Addr} {o : Obj} {w : World} {xs : List MX} (e : H a = some (.frz o (oddO w a xs))) : TyD K H (.ref a) (.type "dict")
theorem tyd_of {K : PySem.W.Frag} {B : Bg} {O G H : Hp} {v : V} {d : Dat} {n : String} (w : Wd B O G H) (r : Rp K O G v d) (h : tyN d = some n) : TyD K H v (.type n) := by
  cases r with
  | odd h1 => cases h; exact .odd (w.s _ _ h1)
  | non => exact .x (tyx_of w .non h fun _ _ _ z => nomatch z)
  | bl b => exact .x (tyx_of w (.bl b) h fun _ _ _ z => nomatch z)
  | int i => exact .x (tyx_of w (.int i) h fun _ _ _ z => nomatch z)
  | str i => exact .x (tyx_of w (.str i) h fun _ _ _ z => nomatch z)
  | lst h1 h2 h3 => exact .x (tyx_of w (.lst h1 h2 h3) h fun _ _ _ z => nomatch z)
  | tup h1 h2 => exact .x (tyx_of w (.tup h1 h2) h fun _ _ _ z => nomatch z)
  | dct h1 h2 h3 h4 => exact .x (tyx_of w (.dct h1 h2 h3 h4) h fun _ _ _ z => nomatch z)
  | ins _ _ _ => cases h
  | any _ => cases h
  | adr _ => cases h
section
variable {X : Cx} {pins : List (Addr × Obj)} {σ : L2.St} {H : Hp} {s : Shared}
theorem kit_ofD {x : V} {u t : Value} (I : L2.Inv X pins σ H s) (rx : RelV x u) (ty : TyD X.K H x t) : ∃ P : Heap → Prop, PySem.W.KitX X.K u t P ∧ P s.heap ∧ u ≠ .builtin "__main__.__loader__#opaque" := by
  cases ty with
  | x h => exact kit_of I rx h
  | @odd a o wd xs e =>
    cases rx
    obtain ⟨⟨o', _, _, h1, h2, _⟩, _⟩ := odd_rd I.hok (.inr ⟨o, e⟩)
    exact ⟨_, PySem.W.kitx_dict, ⟨o', h1, h2.1⟩, fun z => nomatch z⟩
theorem call_isiD : CallR X (.builtin "isinstance") (fun xs H Q => ∃ (x c : V) (t u : Value) (b : Bool), xs = [x, c] ∧ ClsV c u ∧ TyD X.K H x t ∧ PySem.W.kitOne X.K t u = some b ∧ Q (.bl b) H) := by
  intro pins s σ H xs us Q I r h
  obtain ⟨x, c, t, u, b, rfl, k, ty, e, q⟩ := h
  obtain ⟨u1, u2, rfl, r1, r2⟩ := vals2 r
  have e2 := k.eq r2
  subst e2
  obtain ⟨P, Z, p, hx⟩ := kit_ofD I r1 ty
  exact PySem.W.kia_one Z I.kIn p e hx fun tk => ⟨.bl b, H, I.tok tk, rfl, q⟩
theorem call_isiTD : CallR X (.builtin "isinstance") (fun xs H Q => ∃ (x : V) (tp : Addr) (cs : List V) (t : Value) (us : List Value) (b : Bool), xs = [x, .ref tp] ∧ H tp = some (.tup cs) ∧ Paired ClsV cs us ∧ TyD X.K H x t ∧ PySem.W.kitAny X.K t us = some b ∧ Q (.bl b) H) := by
  intro pins s σ H xs us Q I r h
  obtain ⟨x, tp, cs, t, ws, b, rfl, hT, k, ty, e, q⟩ := h
  obtain ⟨u1, u2, rfl, r1, r2⟩ := vals2 r
  cases (show u2 = Value.ref tp from r2)
  obtain ⟨P, Z, p, hx⟩ := kit_ofD I r1 ty
  obtain ⟨_, its, rv, o, h1, h2, n, h3⟩ := (show ObjOk X.prog X.w H s.heap tp (.tup cs) from I.hok tp _ hT)
  have e3 := ClsV.all k rv
  subst e3
  obtain ⟨oc, od, dt, sl⟩ := o
  simp only at h2 h3
  subst h2 h3
  exact PySem.W.kia_tup Z I.kIn p h1 e hx fun tk => ⟨.bl b, H, I.tok tk, rfl, q⟩
end
def isiD (T : String) (d : Dat) : Option Dat := (tyN d).map fun n => .bl (isB n T)
theorem px_isi {K : PySem.W.Frag} {T : String} {x : Str} {a c : Expr} {p pos : Pos} {f : Env' → W Dat} (hK : X.K = K) (hg : Gl X x) (hm : X.mg x = none) (hv : bootBuiltins x = some (.builtin "isinstance")) (ha : PX K X a f) (hT : PE X c (tC (.ty T))) (hk : T ∈ tyNames)
    (hn : x ≠ "__name__" := by decide) (hdb : (x == ("__debug__" : Str)) = false := by decide)
    (he : starEach [a, c] X.env = (false, eval a X.env) :: starEach [c] X.env := by rfl) (he2 : starEach [c] X.env = (false, eval c X.env) :: starEach [] X.env := by rfl) (hpl : (backTo pos (starEach [c] X.env)).any (·.1) = false := by rfl) :
    PX K X (.Call (.Name x p) [a, c] [] pos) (fun E => (f E).bind fun d => W.of (isiD T d)) := by
  subst hK
  refine ⟨imp (pe_callB call_isiD hg hm hv (pa_cons ha.pe (pa_cons hT pa_nil he2) he) hn hdb he hpl) fun σ H Q ⟨B, O, G, E, w, eo, q⟩ => ?_, fun E => (ha.mono E).bind fun _ => .of⟩
  refine ⟨B, O, G, E, w, eo, ha.mono E _ _ (fun d q1 v G1 H1 t1 r1 => ?_) q⟩
  obtain ⟨d', e, q1⟩ := of_some q1
  obtain ⟨n, en, rfl⟩ := Option.map_eq_some_iff.mp e
  exact ⟨v, .ty T, .type n, .type T, isB n T, rfl, .ty _, tyd_of t1.w r1 en, kit_ty (kit_all n (tyN_mem en) T hk), q1 _ G1 H1 t1 (.bl _)⟩
/-- isinstance(x, (T1, T2, T3, T4)) -/
theorem px_isi4 {K : PySem.W.Frag} {T1 T2 T3 T4 : String} {x : Str} {a c1 c2 c3 c4 : Expr} {x1} {p p' pos : Pos} {f : Env' → W Dat} (hK : X.K = K) (hg : Gl X x) (hm : X.mg x = none) (hv : bootBuiltins x = some (.builtin "isinstance")) (ha : PX K X a f) (hT1 : PE X c1 (tC (.ty T1))) (hT2 : PE X c2 (tC (.ty T2))) (hT3 : PE X c3 (tC (.ty T3))) (hT4 : PE X c4 (tC (.ty T4)))
    (hk1 : T1 ∈ tyNames) (hk2 : T2 ∈ tyNames) (hk3 : T3 ∈ tyNames) (hk4 : T4 ∈ tyNames)
    (hn : x ≠ "__name__" := by decide) (hdb : (x == ("__debug__" : Str)) = false := by decide)
    (he : starEach [a, .Tuple [c1, c2, c3, c4] x1 p'] X.env = (false, eval a X.env) :: starEach [.Tuple [c1, c2, c3, c4] x1 p'] X.env := by rfl) (he2 : starEach [.Tuple [c1, c2, c3, c4] x1 p'] X.env = (false, eval (.Tuple [c1, c2, c3, c4] x1 p') X.env) :: starEach [] X.env := by rfl)
    (e1 : starEach [c1, c2, c3, c4] X.env = (false, eval c1 X.env) :: starEach [c2, c3, c4] X.env := by rfl) (e2 : starEach [c2, c3, c4] X.env = (false, eval c2 X.env) :: starEach [c3, c4] X.env := by rfl) (e3 : starEach [c3, c4] X.env = (false, eval c3 X.env) :: starEach [c4] X.env := by rfl) (e4 : starEach [c4] X.env = (false, eval c4 X.env) :: starEach [] X.env := by rfl) (hpl : (backTo pos (starEach [.Tuple [c1, c2, c3, c4] x1 p'] X.env)).any (·.1) = false := by rfl) :
    PX K X (.Call (.Name x p) [a, .Tuple [c1, c2, c3, c4] x1 p'] [] pos) (fun E => (f E).bind fun d => W.of ((tyN d).map fun n => .bl (isB n T1 || (isB n T2 || (isB n T3 || isB n T4))))) := by
  subst hK
  refine ⟨imp (pe_callB call_isiTD hg hm hv (pa_cons ha.pe (pa_cons (pe_tup (pa_cons hT1 (pa_cons hT2 (pa_cons hT3 (pa_cons hT4 pa_nil e4) e3) e2) e1)) pa_nil he2) he) hn hdb he hpl) fun σ H Q ⟨B, O, G, E, w, eo, q⟩ => ?_, fun E => (ha.mono E).bind fun _ => .of⟩
  refine ⟨B, O, G, E, w, eo, ha.mono E _ _ (fun d q1 v G1 H1 t1 r1 => ?_) q⟩
  obtain ⟨d', e, q1⟩ := of_some q1
  obtain ⟨n, en, rfl⟩ := Option.map_eq_some_iff.mp e
  refine ⟨by show 4 ≤ sizeLine; decide, fun p hp => ?_⟩
  have t2 := t1.w.wet (o := .tup [.ty T1, .ty T2, .ty T3, .ty T4]) hp
  have t3 := t1.trans t2
  refine ⟨v, p, _, .type n, [.type T1, .type T2, .type T3, .type T4], _, rfl, upd_same, .cons (.ty _) (.cons (.ty _) (.cons (.ty _) (.cons (.ty _) .nil))), tyd_of t3.w r1 en, ?_, q1 _ G1 _ t3 (.bl _)⟩
  have step : ∀ {T : String} {cs : List Value} {r : Bool}, T ∈ tyNames → PySem.W.kitAny X.K (.type n) cs = some r → PySem.W.kitAny X.K (.type n) (.type T :: cs) = some (isB n T || r) := fun {T cs r} hT hr =>
    kitAny_cons (kit_ty (kit_all n (tyN_mem en) T hT)) (fun z => by rw [hr, z]; rfl) fun z => by rw [z]; rfl
  have h4 := step hk4 kitAny_nil
  rw [Bool.or_false] at h4
  exact step hk1 (step hk2 (step hk3 h4))
theorem pb_chain {K : PySem.W.Frag} {op op' : CmpOp} {o o' : Dat → Dat → Option Dat} {a b c : Expr} {pos : Pos} {fa fb fc : Env' → W Dat} (ho : OpR X (compareOp op) (rO K o)) (ho' : OpR X (compareOp op') (rO K o')) (ha : PX K X a fa) (hb : PX K X b fb) (hc : PX K X c fc)
    (hm : lastMarks [op, op'] [b, c] = false := by with_unfolding_all rfl) :
    PB K X (.Compare a [op, op'] [b, c] pos) (fun E => (fa E).bind fun x => (fb E).bind fun y => (W.of ((o x y).bind toB)).bind fun k => cnd k ((fc E).bind fun z => W.of ((o' y z).bind toB)) (W.ret false)) := by
  refine ⟨impT (pt_chain ho ho' ha.pe hb.pe hc.pe hm) fun σ H Q ⟨B, O, G, E, w, eo, q⟩ => ?_, fun E => (ha.mono E).bind fun _ => (hb.mono E).bind fun _ => W.Mono.of.bind fun _ => cnd_mono ((hc.mono E).bind fun _ => .of) .ret⟩
  refine ⟨B, O, G, E, w, eo, ha.mono E _ _ (fun d1 q1 v1 G1 H1 t1 r1 => ?_) q⟩
  refine ⟨B, O, G1, E, t1.w, eo.step t1, hb.mono E _ _ (fun d2 q2 v2 G2 H2 t2 r2 => ?_) q1⟩
  obtain ⟨k, e, q2⟩ := of_some q2
  obtain ⟨d, e1, e2⟩ := Option.bind_eq_some_iff.mp e
  cases toB_some e2
  have t12 := t1.trans t2
  refine ⟨B, O, G2, d1, d2, _, t2.w, r1.mono t2.g, r2, e1, fun v G3 H3 t3 r3 => ?_⟩
  cases r3
  refine ⟨k, rfl, ?_⟩
  cases k with
  | false => exact iteF ⟨false, rfl, q2 G3 H3 (t12.trans t3)⟩
  | true =>
    refine iteT ⟨B, O, G3, E, t3.w, eo.step (t12.trans t3), hc.mono E _ _ (fun d3 q3 v3 G4 H4 t4 r4 => ?_) q2⟩
    obtain ⟨k, e, q3⟩ := of_some q3
    obtain ⟨d, e1, e2⟩ := Option.bind_eq_some_iff.mp e
    cases toB_some e2
    refine ⟨B, O, G4, d2, d3, _, t4.w, (r2.mono t3.g).mono t4.g, r4, e1, fun v G5 H5 t5 r5 => ?_⟩
    cases r5
    exact ⟨k, rfl, q3 G5 H5 (((t12.trans t3).trans t4).trans t5)⟩
def tO (K : PySem.W.Frag) (f : Env' → W (Option Int)) : TO := fun σ H Q => ∃ B O G E, Wd B O G H ∧ EnvOk K B O G H σ E ∧ f E (fun o => ∀ G' H', Stp B O G H G' H' → Q o H')
structure PXo (K : PySem.W.Frag) (X : Cx) (e : Option Expr) (f : Env' → W (Option Int)) : Prop where
  po : PO X e (tO K f)
  mono : ∀ E, W.Mono (f E)
theorem impO {e : Option Expr} {t t' : TO} (h : PO X e t) (hi : ∀ σ H Q, t' σ H Q → t σ H Q) : PO X e t' := ⟨fun pins s σ H Q I q => h.run pins s σ H Q I (hi σ H Q q)⟩
def toI : Dat → Option Int
  | .int i => some i
  | _ => none
theorem toI_some {d : Dat} {b : Int} (h : toI d = some b) : d = .int b := by
  cases d <;> first | (cases h; rfl) | cases h
theorem pxo_none {K : PySem.W.Frag} : PXo K X none (fun _ => W.ret none) := ⟨impO po_none fun σ H Q ⟨B, O, G, E, w, eo, q⟩ => q G H w.refl, fun _ => .ret⟩
theorem pxo_some {K : PySem.W.Frag} {e : Expr} {f : Env' → W Dat} (h : PX K X e f) : PXo K X (some e) (fun E => (f E).bind fun d => W.of ((toI d).map some)) := by
  refine ⟨impO (po_some h.pe) fun σ H Q ⟨B, O, G, E, w, eo, q⟩ => ?_, fun E => (h.mono E).bind fun _ => .of⟩
  refine ⟨B, O, G, E, w, eo, h.mono E _ _ (fun d q1 v G1 H1 t1 r1 => ?_) q⟩
  obtain ⟨o, e0, q2⟩ := of_some q1
  obtain ⟨i, e, rfl⟩ := Option.map_eq_some_iff.mp e0
  clear e0 q1
  have ed := toI_some e
  subst ed
  cases r1
  exact ⟨i, rfl, q2 G1 H1 t1⟩
def cutL {α : Type} (xs : List α) (lo hi : Option Int) : List α := (xs.drop (HT.sIx xs.length 0 lo)).take (HT.sIx xs.length xs.length hi - HT.sIx xs.length 0 lo)
theorem RpAll.cut {K : PySem.W.Frag} {O G : Hp} {vs : List V} {ds : List Dat} (h : RpAll K O G vs ds) (lo hi : Option Int) : RpAll K O G (cutV vs lo hi) (cutL ds lo hi) := by
  unfold cutV cutL
  rw [h.len]
  exact (h.drop _).take _
def slD : Dat → Option Int → Option Int → Option Dat
  | .lst _ ds, lo, hi => some (.lst true (cutL ds lo hi))
  | .tup ds, lo, hi => if HT.sIx ds.length 0 lo = 0 ∧ HT.sIx ds.length ds.length hi = ds.length then none else some (.tup (cutL ds lo hi))
  | .str z, lo, hi => if z.length ≤ sizeLine then some (.str (cutS z lo hi)) else none
  | _, _, _ => none
def rS (K : PySem.W.Frag) (op : Dat → Option Int → Option Int → Option Dat) : V → Option Int → Option Int → Hp → VK → Prop := fun x lo hi H Q => ∃ B O G d1 d, Wd B O G H ∧ Rp K O G x d1 ∧ op d1 lo hi = some d ∧ Ck K B O G H Q d
theorem slw : SlR X (rS X.K slD) := by
  intro pins s σ H x v vl vu lo hi sl Q I rx hs pl pu h
  obtain ⟨B, O, G, d1, d, w, r1, e, q⟩ := h
  cases r1 with
  | lst h1 h2 =>
    cases e
    exact sl_list pins s σ H _ v vl vu lo hi sl Q I rx hs pl pu ⟨_, _, rfl, SqL.of (w.s _ _ h1), fun p hp => q _ _ _ (w.ice hp) (.lst upd_same ((h2.cut lo hi).mono (w.ice hp).g) fun _ => w.old _ hp)⟩
  | tup h1 h2 =>
    simp only [slD] at e
    split at e
    · cases e
    · rename_i h0
      cases e
      exact sl_tup pins s σ H _ v vl vu lo hi sl Q I rx hs pl pu ⟨_, _, rfl, sq_t w.s h1, by rw [h2.len]; exact h0, fun p hp => q _ _ _ (w.ice hp) (.tup (SqT.of upd_same) ((h2.cut lo hi).mono (w.ice hp).g))⟩
  | str z =>
    simp only [slD] at e
    split at e
    · rename_i h0
      cases e
      exact sl_str pins s σ H _ v vl vu lo hi sl Q I rx hs pl pu ⟨_, rfl, h0, Ck.now q w (.str _)⟩
    · cases e
  | _ => cases e
theorem px_sl {K : PySem.W.Frag} {o : Dat → Option Int → Option Int → Option Dat} {e : Expr} {lo hi : Option Expr} {p2 pos : Pos} {f : Env' → W Dat} {fl fh : Env' → W (Option Int)} (hr : SlR X (rS K o)) (he : PX K X e f) (hl : PXo K X lo fl) (hu : PXo K X hi fh) :
    PX K X (.Subscript e (.Slice lo hi none p2) pos) (fun E => (f E).bind fun d => (fl E).bind fun l => (fh E).bind fun u => W.of (o d l u)) := by
  refine ⟨imp (pe_slice hr he.pe hl.po hu.po) fun σ H Q ⟨B, O, G, E, w, eo, q⟩ => ?_, fun E => (he.mono E).bind fun _ => (hl.mono E).bind fun _ => (hu.mono E).bind fun _ => .of⟩
  refine ⟨B, O, G, E, w, eo, he.mono E _ _ (fun d q1 v G1 H1 t1 r1 => ?_) q⟩
  refine ⟨B, O, G1, E, t1.w, eo.step t1, hl.mono E _ _ (fun l q2 G2 H2 t2 => ?_) q1⟩
  refine ⟨B, O, G2, E, t2.w, eo.step (t1.trans t2), hu.mono E _ _ (fun u q3 G3 H3 t3 => ?_) q2⟩
  obtain ⟨d', e, q3⟩ := of_some q3
  exact ⟨B, O, G3, d, d', t3.w, (r1.mono t2.g).mono t3.g, e, Ck.step q3 ((t1.trans t2).trans t3)⟩
end
end EW
set_option Elab.async false
set_option linter.all false
set_option maxRecDepth 100000
set_option maxHeartbeats 4000000
namespace EW
open PySem PySem.Spec PyProof.Rows L2 EG EM
/-- J gives the data ds while what stands in G0 stands -/
def WkOk (K : PySem.W.Frag) (O : Hp) (J : It) (ds : List Dat) (G0 : Hp) : Prop := ∃ Gd Y, Walk J ds.length Gd Y ∧ (∀ H, Same G0 H → Gd H) ∧
  ∀ i H x H1 B G d, ds[i]? = some d → Same G0 G → Wd B O G H → Y i H x H1 → ∃ G1, Stp B O G H G1 H1 ∧ Rp K O G1 x d
def tI (K : PySem.W.Frag) (f : Env' → W (List Dat)) : TI := fun σ H R => ∃ B O G E, Wd B O G H ∧ EnvOk K B O G H σ E ∧ f E (fun ds => ∀ G' H' J, Stp B O G H G' H' → WkOk K O J ds G' → R J H')
structure PIW (K : PySem.W.Frag) (X : Cx) (tg e : Expr) (f : Env' → W (List Dat)) : Prop where
  pi : PI X tg e (tI K f)
  mono : ∀ E, W.Mono (f E)
  few : ∀ E (P : List Dat → Prop), f E P → f E fun ds => ds.length ≤ sizeLine ∧ P ds
theorem impI {X : Cx} {tg e : Expr} {t t' : TI} (h : PI X tg e t) (hi : ∀ σ H Q, t' σ H Q → t σ H Q) : PI X tg e t' := ⟨fun pins s σ H Q I q => h.run pins s σ H Q I (hi σ H Q q)⟩
def kD : Key → Dat
  | .inl i => .int i
  | .inr x => .str x
theorem Rp.key {K : PySem.W.Frag} {O G : Hp} : ∀ k : Key, Rp K O G (kV k) (kD k)
  | .inl i => .int i
  | .inr x => .str x
/-- what a plain walk gives -/
def itD : Dat → Option (List Dat)
  | .lst _ ds => some ds
  | .tup ds => some ds
  | .dct _ es => some (es.map fun p => kD p.1)
  | .str z => some (z.cps.toList.map fun c => .str ⟨#[c]⟩)
  | _ => none
section
variable {K : PySem.W.Frag} {X : Cx}
theorem wk_list {a : Addr} {xs : List V} {ds : List Dat} {O G0 : Hp} (h1 : G0 a = some (.lst xs)) (h2 : RpAll K O G0 xs ds) : WkOk K O (Itl K a) ds G0 := by
  refine ⟨_, _, by rw [← h2.len]; exact walk_list, fun H s => SqL.of (s _ _ h1), ?_⟩
  rintro i H x _ B G d hd s w ⟨rfl, hx⟩
  obtain ⟨v, e1, e2⟩ := h2.at' hd
  rw [e1] at hx
  cases hx
  exact ⟨G, w.refl, e2.mono s⟩
theorem wk_tup {a : Addr} {xs : List V} {ds : List Dat} {O G0 : Hp} (h1 : SqT K G0 a xs) (h2 : RpAll K O G0 xs ds) : WkOk K O (Itt K a) ds G0 := by
  refine ⟨_, _, by rw [← h2.len]; exact walk_tup, fun H s => sq_t s h1, ?_⟩
  rintro i H x _ B G d hd s w ⟨rfl, hx⟩
  obtain ⟨v, e1, e2⟩ := h2.at' hd
  rw [e1] at hx
  cases hx
  exact ⟨G, w.refl, e2.mono s⟩
theorem wk_str {z : Str} {O G0 : Hp} : WkOk K O (Its z) (z.cps.toList.map fun c => .str ⟨#[c]⟩) G0 := by
  refine ⟨_, _, by rw [List.length_map, Array.length_toList]; exact walk_str, fun H s => trivial, ?_⟩
  rintro i H x _ B G d hd s w ⟨rfl, c, hc, rfl⟩
  rw [List.getElem?_map] at hd
  have : z.cps.toList[i]? = some c := by simpa using hc
  rw [this] at hd
  cases hd
  exact ⟨G, w.refl, .str _⟩
theorem wk_keys {a : Addr} {o : Obj} {kvs : List (Key × V)} {es : List (Key × Dat)} {O G0 : Hp} (h1 : G0 a = some (.frz o (.dK kvs))) (h2 : kvs.map (·.1) = es.map (·.1)) : WkOk K O (Itk a o kvs) (es.map fun p => kD p.1) G0 := by
  have hl : kvs.length = (es.map fun p => kD p.1).length := by
    have := congrArg List.length h2
    simpa using this
  refine ⟨_, _, by rw [← hl]; exact walk_keys, fun H s => s _ _ h1, ?_⟩
  rintro i H x _ B G d hd s w ⟨rfl, k, v, hk, rfl⟩
  have e1 : (kvs.map (·.1))[i]? = some k := by rw [List.getElem?_map, hk]; rfl
  rw [h2, List.getElem?_map] at e1
  rw [List.getElem?_map] at hd
  cases z : es[i]? with
  | none =>
    rw [z] at hd
    cases hd
  | some p =>
    rw [z] at hd e1
    cases hd
    have : p.1 = k := Option.some.inj e1
    exact ⟨G, w.refl, by show Rp K O G (kV k) (kD p.1); rw [this]; exact .key k⟩
theorem wk_range {lo : Int} {n : Nat} {O G0 : Hp} : WkOk K O (Itr lo n) ((List.range n).map fun i : Nat => .int (lo + i)) G0 := by
  refine ⟨_, _, by rw [List.length_map, List.length_range]; exact walk_range, fun H s => trivial, ?_⟩
  rintro i H x _ B G d hd s w ⟨rfl, rfl⟩
  rw [List.getElem?_map] at hd
  by_cases h : i < n
  · rw [List.getElem?_range h] at hd
    cases hd
    exact ⟨G, w.refl, .int _⟩
  · rw [List.getElem?_eq_none (by rw [List.length_range]; omega)] at hd
    cases hd
/-- any list, tuple, dict or text -/
theorem pi_any {tg e : Expr} {te : TE} (he : PE X e te) : PI X tg e (fun σ H R => te σ H fun x H1 => (∃ a xs, x = .ref a ∧ SqL X.K H1 a xs ∧ R (Itl X.K a) H1) ∨ (∃ a xs, x = .ref a ∧ SqT X.K H1 a xs ∧ R (Itt X.K a) H1) ∨
    (∃ a o kvs, x = .ref a ∧ H1 a = some (.frz o (.dK kvs)) ∧ R (Itk a o kvs) H1) ∨ ∃ z, x = .str z ∧ R (Its z) H1) := by
  refine ⟨fun pins s σ H R I h => thn (he.run pins s σ H _ I h) fun v s1 ⟨x, H1, I1, r1, q1⟩ => ?_⟩
  rcases q1 with ⟨a, xs, rfl, hq, q⟩ | ⟨a, xs, rfl, hq, q⟩ | ⟨a, o, kvs, rfl, hd, q⟩ | ⟨z, rfl, q⟩
  · cases r1
    obtain ⟨its, rv, p, hz⟩ := I1.list hq
    exact wpAny_pyIter_list p.isList (pi_one (tk := s1.toks) I1 _ (turn_list a _) ⟨_, Heap.get?_push_size _ rfl, rfl, rfl⟩ q)
  · cases r1
    obtain ⟨its, rv, p, hz⟩ := I1.tuple hq
    exact wpAny_pyIter_tuple (show s1.heap.IsTuple a its.toArray from p) (pi_one (tk := s1.toks) I1 _ (turn_tuple a _) ⟨_, Heap.get?_push_size _ rfl, rfl, rfl⟩ q)
  · cases r1
    obtain ⟨hs, hgd, hx, es, ep, vs, hdt, hsz, kv, hm⟩ := I1.frzK hd
    refine iter_keys hs hgd hx hdt (pi_one (tk := s1.toks) I1 _ (turn_keys _ hdt) ⟨_, Heap.get?_push_size _ rfl, rfl, ?_⟩ q)
    rw [hsz] <;> rfl
  · obtain ⟨t, rfl⟩ := r1
    cases ha : z.cps.all (· < 128)
    · exact wpAny_pyIter_wide ha (pi_one (tk := s1.toks) I1 _ (turn_str _ z t "str_iterator" (.inr rfl)) ⟨_, Heap.get?_push_size _ rfl, rfl, rfl⟩ q)
    · exact wpAny_pyIter_ascii ha (pi_one (tk := s1.toks) I1 _ (turn_str _ z t "str_ascii_iterator" (.inl rfl)) ⟨_, Heap.get?_push_size _ rfl, rfl, rfl⟩ q)
/-- the items of a walk, no more than may be -/
def few {α : Type} (o : Option (List α)) : Option (List α) := o.bind fun ds => if ds.length ≤ sizeLine then some ds else none
theorem few_some {α : Type} {o : Option (List α)} {ds : List α} (h : few o = some ds) : o = some ds ∧ ds.length ≤ sizeLine := by
  obtain ⟨z, e1, e2⟩ := Option.bind_eq_some_iff.mp h
  split at e2
  · rename_i hl
    cases e2
    exact ⟨e1, hl⟩
  · cases e2
theorem few_ok {f : Env' → W Dat} {k : Dat → Option (List Dat)} (m : ∀ E, W.Mono (f E)) : ∀ E (P : List Dat → Prop), ((f E).bind fun d => W.of (few (k d))) P → ((f E).bind fun d => W.of (few (k d))) fun ds => ds.length ≤ sizeLine ∧ P ds := by
  intro E P h
  refine m E _ _ (fun d q => ?_) h
  obtain ⟨ds, e, q⟩ := of_some q
  show W.of (few (k d)) _
  rw [e]
  exact ⟨(few_some e).2, q⟩
theorem few_oks {f : Env' → W (List Dat)} {k : List Dat → Option (List Dat)} (m : ∀ E, W.Mono (f E)) : ∀ E (P : List Dat → Prop), ((f E).bind fun d => W.of (few (k d))) P → ((f E).bind fun d => W.of (few (k d))) fun ds => ds.length ≤ sizeLine ∧ P ds := by
  intro E P h
  refine m E _ _ (fun d q => ?_) h
  obtain ⟨ds, e, q⟩ := of_some q
  show W.of (few (k d)) _
  rw [e]
  exact ⟨(few_some e).2, q⟩
theorem piw_any {tg e : Expr} {f : Env' → W Dat} (hK : X.K = K) (h : PX K X e f) : PIW K X tg e (fun E => (f E).bind fun d => W.of (few (itD d))) := by
  subst hK
  refine ⟨impI (pi_any h.pe) fun σ H R ⟨B, O, G, E, w, eo, q⟩ => ?_, fun E => (h.mono E).bind fun _ => .of, few_ok h.mono⟩
  refine ⟨B, O, G, E, w, eo, h.mono E _ _ (fun d q1 v G1 H1 t1 r1 => ?_) q⟩
  obtain ⟨ds, e, q2⟩ := of_some q1
  obtain ⟨e, _⟩ := few_some e
  cases r1 with
  | lst h1 h2 =>
    cases e
    exact .inl ⟨_, _, rfl, SqL.of (t1.w.s _ _ h1), q2 G1 H1 _ t1 (wk_list h1 h2)⟩
  | tup h1 h2 =>
    cases e
    exact .inr (.inl ⟨_, _, rfl, sq_t t1.w.s h1, q2 G1 H1 _ t1 (wk_tup h1 h2)⟩)
  | dct h1 h2 h3 =>
    cases e
    exact .inr (.inr (.inl ⟨_, _, _, rfl, t1.w.s _ _ h1, q2 G1 H1 _ t1 (wk_keys h1 h2)⟩))
  | str z =>
    cases e
    exact .inr (.inr (.inr ⟨_, rfl, q2 G1 H1 _ t1 wk_str⟩))
  | _ => cases e
def valsD : Dat → Option (List Dat)
  | .dct _ es => some (es.map (·.2))
  | _ => none
def itemsD : Dat → Option (List Dat)
  | .dct _ es => some (es.map fun p => .tup [kD p.1, p.2])
  | _ => none
def rng1 : List Dat → Option (List Dat)
  | [.int j] => if -(2 ^ 62) ≤ j ∧ j < 2 ^ 62 then some ((List.range j.toNat).map fun i : Nat => .int (0 + i)) else none
  | _ => none
def enumD : List Dat → Option (List Dat)
  | [.lst _ ds] => some (ds.mapIdx fun i d => .tup [.int i, d])
  | _ => none
theorem piw_range1 {tg a : Expr} {p pos : Pos} {fs : Env' → W (List Dat)} (hg : Gl X "range") (hm : X.mg "range" = none) (h : PXs K X [a] fs) (hs : starEach [a] X.env = [(false, eval a X.env)] := by rfl) :
    PIW K X tg (.Call (.Name "range" p) [a] [] pos) (fun E => (fs E).bind fun ds => W.of (few (rng1 ds))) := by
  refine ⟨impI (pi_range1 hg hm h.pa hs) fun σ H R ⟨B, O, G, E, w, eo, q⟩ => ?_, fun E => (h.mono E).bind fun _ => .of, few_oks h.mono⟩
  refine ⟨B, O, G, E, w, eo, h.mono E _ _ (fun ds q1 vs G1 H1 t1 r1 => ?_) q⟩
  obtain ⟨out, e, q2⟩ := of_some q1
  obtain ⟨e, _⟩ := few_some e
  match ds, r1, e with
  | [.int j], r1, e =>
    obtain ⟨v, rfl, rv⟩ := one_inv r1
    cases rv
    simp only [rng1] at e
    split at e
    · rename_i hj
      cases e
      exact ⟨j, rfl, hj.1, hj.2, q2 G1 H1 _ t1 wk_range⟩
    · cases e
/-- a target that takes a datum; js: the slots it may write -/
structure PGW (K : PySem.W.Frag) (X : Cx) (tg : Expr) (js : List Nat) (t : TG) (g : Dat → Env' → Option Env') : Prop where
  pg : PG X tg t
  runs : ∀ B O G H σ E v d E' (Q : L2.St → Hp → Prop), Wd B O G H → Rp K O G v d → g d E = some E' →
    (∀ σ', σ'.length = σ.length → (∀ j, j ∉ js → σ'[j]? = σ[j]?) → (∀ G' H', Same G G' → EnvOk K B O G' H' σ E → EnvOk K B O G' H' σ' E') → Q σ' H) → t v σ H Q
theorem PGW.run {tg : Expr} {js : List Nat} {t : TG} {g : Dat → Env' → Option Env'} (h : PGW K X tg js t g) : ∀ B O G H σ E v d E' (Q : L2.St → Hp → Prop), Wd B O G H → EnvOk K B O G H σ E → Rp K O G v d → g d E = some E' →
    (∀ σ', σ'.length = σ.length → (∀ j, j ∉ js → σ'[j]? = σ[j]?) → EnvOk K B O G H σ' E' → Q σ' H) → t v σ H Q :=
  fun B O G H σ E v d E' Q w eo r e q => h.runs B O G H σ E v d E' Q w r e fun σ' l a k => q σ' l a (k G H (Same.refl _) eo)
def gN (i : Nat) : Dat → Env' → Option Env' := fun d E => some (E.set i (.dat d))
def gT2 (i j : Nat) : Dat → Env' → Option Env'
  | .tup [d, e], E => some ((E.set i (.dat d)).set j (.dat e))
  | _, _ => none
theorem pgw_name {i : Nat} {x : Str} {pos : Pos} (hN : X.N.Nodup) (hi : X.N[i]? = some x) (hx : L2.Loc X.env.scope x) (hf : X.fn x = true ∨ X.env.scope.names.lookup x = some .local := by first | exact .inl rfl | exact .inr rfl | assumption) :
    PGW K X (.Name x pos) [i] (gName i) (gN i) := by
  refine ⟨pg_name hN hi hx hf, fun B O G H σ E v d E' Q w r e q => ?_⟩
  cases e
  refine q _ (List.length_set ..) (fun j hj => List.getElem?_set_ne fun z => hj (by rw [z]; exact List.mem_singleton_self _)) fun G' H' sg eo => eo.set (.dat (r.mono sg))
def wipeE (E : Env') : List Nat → Env'
  | [] => E
  | v :: vs => (wipeE E vs).set v .no
theorem wipe_at (σ : L2.St) (j : Nat) : ∀ vs : List Nat, (wipe σ vs)[j]? = if j ∈ vs then σ[j]?.map (fun _ => none) else σ[j]?
  | [] => by simp [wipe]
  | v :: vs => by
    show ((wipe σ vs).set v none)[j]? = _
    rw [List.getElem?_set, wipe_length]
    by_cases z : v = j
    · subst z
      by_cases l : v < σ.length
      · simp [l]
      · simp [l]
    · rw [if_neg z, wipe_at σ j vs]
      have : (j ∈ v :: vs) ↔ j ∈ vs := by
        rw [List.mem_cons]
        exact ⟨fun h => h.resolve_left fun e => z e.symm, .inr⟩
      simp only [this]
theorem wipe_ext {σ σ2 : L2.St} {vs : List Nat} (hl : σ2.length = σ.length) (h : ∀ j, j ∉ vs → σ2[j]? = σ[j]?) : wipe σ2 vs = wipe σ vs := by
  refine List.ext_getElem? fun j => ?_
  rw [wipe_at, wipe_at]
  by_cases z : j ∈ vs
  · rw [if_pos z, if_pos z]
    by_cases l : j < σ.length
    · rw [List.getElem?_eq_getElem l, List.getElem?_eq_getElem (by rw [hl]; exact l)]
      rfl
    · rw [List.getElem?_eq_none (by omega), List.getElem?_eq_none (by omega)]
  · rw [if_neg z, if_neg z]
    exact h j z
theorem EnvOk.wipe {B : Bg} {O G H : Hp} {σ : L2.St} {E : Env'} (h : EnvOk K B O G H σ E) : ∀ vs : List Nat, EnvOk K B O G H (L2.wipe σ vs) (wipeE E vs)
  | [] => h
  | v :: vs => (EnvOk.wipe h vs).set .no
/-- a clause's tests -/
structure PBs (K : PySem.W.Frag) (X : Cx) (es : List Expr) (f : Env' → W Bool) : Prop where
  pts : PTs X es (tT K f)
  mono : ∀ E, W.Mono (f E)
theorem pbs_nil : PBs K X [] (fun _ => W.ret true) := by
  refine ⟨⟨fun pins s σ H Q I ⟨B, O, G, E, w, eo, q⟩ => pts_nil.run pins s σ H Q I (q G H w.refl)⟩, fun _ => .ret⟩
theorem pbs_one {c : Expr} {f : Env' → W Bool} (h : PB K X c f) : PBs K X [c] f := ⟨pts_one h.pt, h.mono⟩
/-- the turns: acc is what is made so far -/
def lcW (g : Dat → Env' → Option Env') (tt : Env' → W Bool) (te : Env' → W Dat) (E : Env') : List Dat → List Dat → W Dat
  | [], acc => W.ret (.lst true acc)
  | d :: ds, acc => (W.of (g d E)).bind fun E1 => (tt E1).bind fun b => cnd b ((te E1).bind fun y => lcW g tt te E ds (acc ++ [y])) (lcW g tt te E ds acc)
theorem lcW_mono {g : Dat → Env' → Option Env'} {tt : Env' → W Bool} {te : Env' → W Dat} {E : Env'} (h1 : ∀ E, W.Mono (tt E)) (h2 : ∀ E, W.Mono (te E)) : ∀ ds acc, W.Mono (lcW g tt te E ds acc)
  | [], _ => .ret
  | d :: ds, acc => W.Mono.of.bind fun E1 => (h1 E1).bind fun b => cnd_mono ((h2 E1).bind fun y => lcW_mono h1 h2 ds _) (lcW_mono h1 h2 ds _)
theorem lc_red {elt tg iter : Expr} {ifs : List Expr} {scope : Scope} {own : List (Str × Nat)} {fi : Env' → W (List Dat)} {js : List Nat} {tg' : TG} {g : Dat → Env' → Option Env'} {ft : Env' → W Bool} {fe : Env' → W Dat} (hi : PIW K X tg iter fi)
    (hg : ∀ (s : Shared) (H : Hp) (C : Addr) (cl : List (Str × Addr)) (fp : List Addr), PGW K (X.blk s H scope (compEnvC scope cl C X.env) fp) tg js tg' g)
    (ht : ∀ (s : Shared) (H : Hp) (C : Addr) (cl : List (Str × Addr)) (fp : List Addr), PBs K (X.blk s H scope (compEnvC scope cl C X.env) fp) ifs ft)
    (he : ∀ (s : Shared) (H : Hp) (C : Addr) (cl : List (Str × Addr)) (fp : List Addr), PX K (X.blk s H scope (compEnvC scope cl C X.env) fp) elt fe) (hjs : ∀ j ∈ js, j ∈ own.map (·.2)) :
    ∀ σ H Q, tX K (fun E => (fi E).bind fun ds => lcW g ft fe (wipeE E (own.map (·.2))) ds []) σ H Q → tLc (tI K fi) tg' (tT K ft) (tX K fe) (own.map (·.2)) σ H Q := by
  have hg2 := (hg X.s_0 X.H_0 X.env.locals [] []).run
  have mt : ∀ E, W.Mono (ft E) := fun E => (ht X.s_0 X.H_0 X.env.locals [] []).mono E
  have me : ∀ E, W.Mono (fe E) := fun E => (he X.s_0 X.H_0 X.env.locals [] []).mono E
  rintro σ H Q ⟨B, O, G, E, w, eo, q⟩
  refine ⟨B, O, G, E, w, eo, hi.mono E _ _ (fun ds q1 G1 H1 J t1 wk => ?_) (hi.few E _ q)⟩
  obtain ⟨hlen, q1⟩ := q1
  obtain ⟨Gd, Y, wlk, hGd, hY⟩ := wk
  intro D hD
  -- the invariant
  refine lc_it wlk (fun i H' => ∃ G' vs acc, Stp B O G1 H1 G' H' ∧ H1 D = none ∧ G' D = none ∧ NotB B D ∧ H' D = some (.lst vs) ∧ RpAll K O G' vs acc ∧ acc.length ≤ i ∧ Same G1 G' ∧ lcW g ft fe (wipeE E (own.map (·.2))) (ds.drop i) acc (Ck K B O G H Q)) ?_ ?_ ?_ ?_
  · have tw := t1.w.wet (o := .lst []) hD
    exact ⟨G1, [], [], tw, hD, t1.w.s.free hD, t1.w.notB hD, upd_same, .nil, Nat.le_refl _, Same.refl _, by simpa using q1⟩
  · rintro i H' _ ⟨G', vs, acc, st, _, _, _, _, _, _, sg, _⟩
    exact hGd H' (fun a o h => st.w.s _ _ (sg _ _ h))
  · rintro i x H' H2 hi' ⟨G', vs, acc, st, d0, d1, d2, d3, d4, d5, sg, qq⟩ y
    have hlt : i < ds.length := hi'
    obtain ⟨G2, st2, rx⟩ := hY i H' x H2 B G' ds[i] (List.getElem?_eq_getElem hlt) sg st.w y
    rw [List.drop_eq_getElem_cons hlt] at qq
    obtain ⟨E1, e1, qq⟩ := of_some qq
    have stA := st.trans st2
    have D3 : H2 D = some (.lst vs) := st2.keep _ _ d2 d3
    have g2 : G2 D = none := st2.new _ d1 (by rw [d3]; exact Option.some_ne_none _)
    refine hg2 B O G2 H2 _ (wipeE E (own.map (·.2))) x _ E1 _ st2.w ((eo.step (t1.trans stA)).wipe _) rx e1 fun σ' hl' hag eo1 => ⟨?_, ?_⟩
    · rw [wipe_ext (σ := L2.wipe σ (own.map (·.2))) hl' fun j hj => hag j fun z => hj (hjs j z)]
      refine wipe_ext (wipe_length _ _) fun j hj => ?_
      rw [wipe_at, if_neg hj]
    · refine ⟨B, O, G2, E1, st2.w, eo1, mt E1 _ _ (fun b qb G3 H3 st3 => ?_) qq⟩
      have stB := stA.trans st3
      have D4 : H3 D = some (.lst vs) := st3.keep _ _ d2 D3
      have g3 : G3 D = none := st3.new _ g2 (by rw [D3]; exact Option.some_ne_none _)
      cases b with
      | false =>
        exact iteF ⟨G3, vs, acc, stB, d0, g3, d2, D4, ((d4.mono st2.g).mono st3.g), by omega, fun a o h => st3.g _ _ (st2.g _ _ (sg _ _ h)), qb⟩
      | true =>
        refine iteT ⟨B, O, G3, E1, st3.w, eo1.step st3, me E1 _ _ (fun yd qy yv G4 H4 st4 ry => ?_) qb⟩
        have D5 : H4 D = some (.lst vs) := st4.keep _ _ d2 D4
        have g4 : G4 D = none := st4.new _ g3 (by rw [D4]; exact Option.some_ne_none _)
        have stC := stB.trans st4
        have stD : Stp B O G1 H1 G4 (upd H4 D (.lst (vs ++ [yv]))) := ⟨stC.g, stC.w.put g4 d2, fun a o n h => by
          rw [upd_ne (ne_of_none h d0)]
          exact stC.keep a o n h, stC.new⟩
        refine ⟨vs, D5, ?_, G4, vs ++ [yv], acc ++ [yd], stD, d0, g4, d2, upd_same, (((d4.mono st2.g).mono st3.g).mono st4.g).append (.cons ry .nil), ?_, fun a o h => st4.g _ _ (st3.g _ _ (st2.g _ _ (sg _ _ h))), qy⟩
        · rw [d4.len]
          omega
        · rw [List.length_append]
          show acc.length + 1 ≤ i + 1
          omega
  · rintro H' ⟨G', vs, acc, st, d0, d1, d2, d3, d4, d5, sg, qq⟩
    rw [List.drop_eq_nil_of_le (Nat.le_refl _)] at qq
    refine qq (.ref D) (upd G' D (.lst vs)) H' (t1.trans ⟨same_new st.g d1, st.w.freeze d3 d2 d1, st.keep, fun a h1 h2 => ?_⟩) (.lst upd_same (d4.mono (same_new (Same.refl _) d1)) fun _ => t1.w.old _ d0)
    have z : a ≠ D := fun z => h2 (by rw [z]; exact d0)
    rw [upd_ne z]
    exact st.new a h1 h2
theorem px_lc {elt tg iter : Expr} {ifs : List Expr} {scope : Scope} {own : List (Str × Nat)} {pos : Pos} {fi : Env' → W (List Dat)} {js : List Nat} {tg' : TG} {g : Dat → Env' → Option Env'} {ft : Env' → W Bool} {fe : Env' → W Dat} (hc : X.calm = true) (hN : X.N.Nodup) (hi : PIW K X tg iter fi) (ok : BlkOk X.N X.env.scope scope own)
    (hg : ∀ (s : Shared) (H : Hp) (C : Addr) (cl : List (Str × Addr)) (fp : List Addr), PGW K (X.blk s H scope (compEnvC scope cl C X.env) fp) tg js tg' g)
    (ht : ∀ (s : Shared) (H : Hp) (C : Addr) (cl : List (Str × Addr)) (fp : List Addr), PBs K (X.blk s H scope (compEnvC scope cl C X.env) fp) ifs ft)
    (he : ∀ (s : Shared) (H : Hp) (C : Addr) (cl : List (Str × Addr)) (fp : List Addr), PX K (X.blk s H scope (compEnvC scope cl C X.env) fp) elt fe) (hjs : ∀ j ∈ js, j ∈ own.map (·.2)) (hs : ∀ x, foldedSetIterable iter X.env x = pure x := by intro _; rfl) :
    PX K X (.ListComp elt [⟨tg, iter, ifs, 0⟩] scope pos) (fun E => (fi E).bind fun ds => lcW g ft fe (wipeE E (own.map (·.2))) ds []) := by
  have mt : ∀ E, W.Mono (ft E) := fun E => (ht X.s_0 X.H_0 X.env.locals [] []).mono E
  have me : ∀ E, W.Mono (fe E) := fun E => (he X.s_0 X.H_0 X.env.locals [] []).mono E
  exact ⟨imp (pe_lc hc hN hi.pi ok (fun a b c d e => (hg a b c d e).pg) (fun a b c d e => (ht a b c d e).pts) (fun a b c d e => (he a b c d e).pe) hs) (lc_red hi hg ht he hjs), fun E => (hi.mono E).bind fun ds => lcW_mono mt me ds []⟩
end
end EW
set_option Elab.async false
set_option linter.all false
set_option maxRecDepth 100000
set_option maxHeartbeats 4000000
namespace EW
open PySem PySem.Spec PyProof.Rows L2 EG EM
/-- what follows: the next statement, a return, a break, a continue -/
structure Kn where
  nx : Env' → Prop
  /-- the slots as they stand, and what is returned -/
  rt : Env' → Sl → Prop
  bk : Env' → Prop
  ct : Env' → Prop
  /-- an exception: its class, its fields -/
  ex : Addr → List (Str × Dat) → Env' → Prop
structure Kn.Le (k k' : Kn) : Prop where
  nx : ∀ E, k.nx E → k'.nx E
  rt : ∀ E s, k.rt E s → k'.rt E s
  bk : ∀ E, k.bk E → k'.bk E
  ct : ∀ E, k.ct E → k'.ct E
  ex : ∀ C fs E, k.ex C fs E → k'.ex C fs E
theorem Kn.Le.rfl {k : Kn} : k.Le k := ⟨fun _ h => h, fun _ _ h => h, fun _ h => h, fun _ h => h, fun _ _ _ h => h⟩
abbrev WS := Env' → Kn → Prop
def MonoS (F : WS) : Prop := ∀ E k k', k.Le k' → F E k → F E k'
/-- an exception's own dict -/
def XdOk (K : PySem.W.Frag) (B : Bg) (O G H : Hp) : Option Addr → List (Str × Dat) → Prop
  | none, fs => fs = []
  | some d, fs => ∃ fvs, G d = some (.xd fvs) ∧ fvs.map (·.1) = fs.map (·.1) ∧ RpAll K O G (fvs.map (·.2)) (fs.map (·.2))
/-- Gc: what stays, as it stands now; Wx: what is wished of exceptions -/
def kn (K : PySem.W.Frag) (Wx : WX) (B : Bg) (G0 O Gc : Hp) (D : Ends) : Kn where
  ex := fun C fs E' => ∀ d σ' G' H', Same Gc G' → Stp B O G0 O G' H' → EnvOk K B O G' H' σ' E' → XdOk K B O G' H' d fs → Wx (.ref C) d σ' H'
  nx := fun E' => ∀ σ' G' H', Same Gc G' → Stp B O G0 O G' H' → EnvOk K B O G' H' σ' E' → D.nx σ' H'
  rt := fun E' s => ∀ v σ' G' H', Same Gc G' → Stp B O G0 O G' H' → EnvOk K B O G' H' (some v :: σ') (s :: E') → D.rt v H'
  bk := fun E' => ∀ σ' G' H', Same Gc G' → Stp B O G0 O G' H' → EnvOk K B O G' H' σ' E' → D.bk σ' H'
  ct := fun E' => ∀ σ' G' H', Same Gc G' → Stp B O G0 O G' H' → EnvOk K B O G' H' σ' E' → D.ct σ' H'
def tS (K : PySem.W.Frag) (Wx : WX) (F : WS) : TS := fun D σ H => ∃ B G0 O G E, Stp B O G0 O G H ∧ EnvOk K B O G H σ E ∧ F E (kn K Wx B G0 O G D)
theorem kn_le {K : PySem.W.Frag} {Wx : WX} {B : Bg} {G0 O G G' : Hp} {D : Ends} (s : Same G G') : (kn K Wx B G0 O G D).Le (kn K Wx B G0 O G' D) :=
  ⟨fun E h σ G'' H'' z => h σ G'' H'' (s.trans z), fun E s' h v σ G'' H'' z => h v σ G'' H'' (s.trans z), fun E h σ G'' H'' z => h σ G'' H'' (s.trans z), fun E h σ G'' H'' z => h σ G'' H'' (s.trans z), fun C fs E h d σ G'' H'' z => h d σ G'' H'' (s.trans z)⟩
structure PQ (K : PySem.W.Frag) (X : Cx) (st : Stmt) (F : WS) : Prop where
  ps : ∀ Wx, L2N.Takes X Wx → PS X st (tS K Wx F)
  mono : MonoS F
structure PQs (K : PySem.W.Frag) (X : Cx) (st : List Stmt) (F : WS) : Prop where
  ps : ∀ Wx, L2N.Takes X Wx → PSs X st (tS K Wx F)
  mono : MonoS F
section
variable {K : PySem.W.Frag} {X : Cx}
def sNil : WS := fun E k => k.nx E
def sSeq (F G : WS) : WS := fun E k => F E { k with nx := fun E' => G E' k }
theorem pq_nil : PQs K X [] sNil := ⟨fun Wx tk => impSs pss_nil fun D σ H ⟨B, G0, O, G, E, t, eo, q⟩ => q σ G H (Same.refl _) t eo, fun E k k' l q => l.nx _ q⟩
theorem pq_cons {st : Stmt} {rest : List Stmt} {F1 F2 : WS} (h1 : PQ K X st F1) (h2 : PQs K X rest F2) : PQs K X (st :: rest) (sSeq F1 F2) := by
  refine ⟨fun Wx tk => impSs (pss_cons (h1.ps Wx tk) (h2.ps Wx tk)) fun D σ H ⟨B, G0, O, G, E, t, eo, q⟩ => ?_, fun E k k' l q => h1.mono E { k with nx := fun E' => F2 E' k } _ ⟨fun E' q' => h2.mono E' _ _ l q', l.rt, l.bk, l.ct, l.ex⟩ q⟩
  exact ⟨B, G0, O, G, E, t, eo, h1.mono E { kn K Wx B G0 O G D with nx := fun E' => F2 E' (kn K Wx B G0 O G D) } _ ⟨fun E' q' σ' G' H' sg t' eo' => ⟨B, G0, O, G', E', t', eo', h2.mono E' _ _ (kn_le sg) q'⟩, fun _ _ q => q, fun _ q => q, fun _ q => q, fun _ _ _ q => q⟩ q⟩
theorem pq_one {st : Stmt} {F : WS} (h : PQ K X st F) : PQs K X [st] F := ⟨fun Wx tk => pss_one (h.ps Wx tk), h.mono⟩
def sBreak : WS := fun E k => k.bk E
def sRet (f : Env' → W Dat) : WS := fun E k => f E fun d => k.rt E (.dat d)
theorem pq_ret {e : Expr} {pos : Pos} {f : Env' → W Dat} (h : PX K X e f) : PQ K X (.Return (some e) pos) (sRet f) := by
  refine ⟨fun Wx tk => impS (ps_ret h.pe) fun D σ H ⟨B, G0, O, G, E, t, eo, q⟩ => ?_, fun E k k' l q => h.mono E _ _ (fun d q => l.rt _ _ q) q⟩
  exact ⟨B, O, G, E, t.w, eo, h.mono E _ _ (fun d q1 v G' H' t' r => q1 v σ G' H' t'.g (t.trans t') ((eo.step t').cons (.dat r))) q⟩
def sRetN : WS := fun E k => k.rt E (.dat .non)
def sIf (c : Env' → W Bool) (F1 F2 : WS) : WS := fun E k => c E fun b => match b with
  | true => F1 E k
  | false => F2 E k
theorem pq_if {c : Expr} {a b : List Stmt} {pos : Pos} {f : Env' → W Bool} {F1 F2 : WS} (hc : PB K X c f) (h1 : PQs K X a F1) (h2 : PQs K X b F2) : PQ K X (.If c a b pos) (sIf f F1 F2) := by
  refine ⟨fun Wx tk => impS (ps_if hc.pt (h1.ps Wx tk) (h2.ps Wx tk)) fun D σ H ⟨B, G0, O, G, E, t, eo, q⟩ => ?_, fun E k k' l q => hc.mono E _ _ (fun b q => ?_) q⟩
  · refine ⟨B, O, G, E, t.w, eo, hc.mono E _ _ (fun b q1 G' H' t' => ?_) q⟩
    cases b with
    | true => exact iteT ⟨B, G0, O, G', E, t.trans t', eo.step t', h1.mono E _ _ (kn_le t'.g) q1⟩
    | false => exact iteF ⟨B, G0, O, G', E, t.trans t', eo.step t', h2.mono E _ _ (kn_le t'.g) q1⟩
  · cases b with
    | true => exact h1.mono E _ _ l q
    | false => exact h2.mono E _ _ l q
/-- a value for a slot; H the heap where its making began -/
def NwOk (K : PySem.W.Frag) (B : Bg) (O H G' H' : Hp) (v : V) (s : Sl) : Prop := ∃ S, SlF K B O G' H' (some v) s S ∧ ∀ p ∈ S, H p = none
theorem NwOk.dat {B : Bg} {O H G' H' : Hp} {v : V} {d : Dat} (r : Rp K O G' v d) : NwOk K B O H G' H' v (.dat d) := ⟨[], .dat r, fun p hp => absurd hp List.not_mem_nil⟩
theorem NwOk.step {B : Bg} {O H G H1 G1 H2 : Hp} {v : V} {s : Sl} (h : NwOk K B O H G H1 v s) (t : Stp B O G H1 G1 H2) : NwOk K B O H G1 H2 v s := by
  obtain ⟨S, a, b⟩ := h
  exact ⟨S, a.step t, b⟩
def tN (K : PySem.W.Frag) (f : Env' → W Sl) : TE := fun σ H Q => ∃ B O G E, Wd B O G H ∧ EnvOk K B O G H σ E ∧ f E (fun s => ∀ v G' H', Stp B O G H G' H' → NwOk K B O H G' H' v s → Q v H')
structure PN (K : PySem.W.Frag) (X : Cx) (e : Expr) (f : Env' → W Sl) : Prop where
  pe : PE X e (tN K f)
  mono : ∀ E, W.Mono (f E)
def nDat (f : Env' → W Dat) : Env' → W Sl := fun E => (f E).bind fun d => W.ret (.dat d)
theorem pn_dat {e : Expr} {f : Env' → W Dat} (h : PX K X e f) : PN K X e (nDat f) := by
  refine ⟨imp h.pe fun σ H Q ⟨B, O, G, E, w, eo, q⟩ => ⟨B, O, G, E, w, eo, h.mono E _ _ (fun d q1 v G' H' t r => q1 v G' H' t (.dat r)) q⟩, fun E => (h.mono E).bind fun _ => .ret⟩
def nLst (fs : Env' → W (List Dat)) : Env' → W Sl := fun E => (fs E).bind fun ds => (W.of (mkL ds)).bind fun d => W.ret (.own d)
theorem pn_lst {es : List Expr} {pos : Pos} {fs : Env' → W (List Dat)} (h : PXs K X es fs) : PN K X (.List es pos) (nLst fs) := by
  refine ⟨imp (pe_lst h.pa) fun σ H Q ⟨B, O, G, E, w, eo, q⟩ => ?_, fun E => (h.mono E).bind fun _ => W.Mono.of.bind fun _ => .ret⟩
  refine ⟨B, O, G, E, w, eo, h.mono E _ _ (fun ds q1 vs G1 H1 t1 r1 => ?_) q⟩
  obtain ⟨d, e, q1⟩ := of_some q1
  unfold mkL at e
  split at e
  · rename_i hl
    cases e
    exact ⟨by rw [r1.len]; exact hl, fun p hp => q1 _ G1 _ (t1.trans (t1.w.wet hp)) ⟨[p], .ownL ⟨t1.w.old _ hp, t1.w.s.free hp, t1.w.notB hp, upd_same⟩ r1, fun q hq => by rw [List.mem_singleton.mp hq]; exact t1.free hp⟩⟩
  · cases e
def nDict : Env' → W Sl := fun _ => W.ret (.own (.dct true []))
def sSet (i : Nat) (f : Env' → W Sl) : WS := fun E k => f E fun s => k.nx (E.set i s)
theorem pq_set {i : Nat} {x : Str} {e : Expr} {pos' pos : Pos} {f : Env' → W Sl} (hN : X.N.Nodup) (hi : X.N[i]? = some x) (hx : L2.Loc X.env.scope x) (h : PN K X e f) (hs : swapsWith e (some (.Name x pos')) pos.line X.env = pure false := by rfl) (hf : X.fn x = true ∨ X.env.scope.names.lookup x = some .local := by first | exact .inl rfl | exact .inr rfl | assumption) :
    PQ K X (.Assign [.Name x pos'] e pos) (sSet i f) := by
  refine ⟨fun Wx tk => impS (ps_set hN hi hx h.pe hs hf) fun D σ H ⟨B, G0, O, G, E, t, eo, q⟩ => ?_, fun E k k' l q => h.mono E _ _ (fun _ q => l.nx _ q) q⟩
  refine ⟨B, O, G, E, t.w, eo, h.mono E _ _ (fun s q1 v G' H' t' nw => ?_) q⟩
  obtain ⟨S, n1, n2⟩ := nw
  exact q1 _ G' H' t'.g (t.trans t') (eo.put t' n1 n2)
/-- x = [..], where the store is made within the comprehension -/
theorem pq_setLc {i : Nat} {x : Str} {e : Expr} {pos' pos : Pos} {f : Env' → W Dat} (h : ∃ t, PS X (.Assign [.Name x pos'] e pos) (tAsg t (gName i)) ∧ ∀ σ H Q, tX K f σ H Q → t σ H Q) (m : ∀ E, W.Mono (f E)) :
    PQ K X (.Assign [.Name x pos'] e pos) (sSet i (nDat f)) := by
  obtain ⟨t0, h1, h2⟩ := h
  refine ⟨fun Wx tk => impS h1 fun D σ H ⟨B, G0, O, G, E, t, eo, q⟩ => h2 _ _ _ ?_, fun E k k' l q => m E _ _ (fun _ q => l.nx _ q) q⟩
  refine ⟨B, O, G, E, t.w, eo, m E _ _ (fun s q1 v G' H' t' r => ?_) q⟩
  exact q1 _ G' H' t'.g (t.trans t') ((eo.step t').set (.dat r))
def sAsg (g : Dat → Env' → Option Env') (f : Env' → W Dat) : WS := fun E k => f E fun d => W.of (g d E) k.nx
def ownL (E : Env') (i : Nat) : Option (List Dat) := match E[i]? with
  | some (.own (.lst true ds)) => some ds
  | _ => none
def ownD (E : Env') (i : Nat) : Option (List (Key × Dat)) := match E[i]? with
  | some (.own (.dct true ds)) => some ds
  | _ => none
theorem ownL_some {E : Env'} {i : Nat} {ds : List Dat} (h : ownL E i = some ds) : E[i]? = some (.own (.lst true ds)) := by
  unfold ownL at h
  split at h
  · cases h
    assumption
  · cases h
/-- the thing in slot i is changed in place -/
theorem EnvOk.change {B : Bg} {O G H : Hp} {σ : L2.St} {E : Env'} {i : Nat} {p : Addr} {o : HO} {d d' : Dat} (h : EnvOk K B O G H σ E) (e1 : E[i]? = some (.own d)) (e2 : σ[i]? = some (some (.ref p))) (ok : SlF K B O G (upd H p o) (some (.ref p)) (.own d') [p]) :
    EnvOk K B O G (upd H p o) σ (E.set i (.own d')) := by
  obtain ⟨x, S, hx, sl, k⟩ := h.pull e1
  rw [e2] at hx
  cases hx
  have hS : S = [p] := by cases sl <;> rfl
  subst hS
  have := k G (upd H p o) (some (.ref p)) (.own d') [p] (Same.refl _) (fun q hq _ _ _ g => ⟨upd_ne fun z => hq (by rw [z]; exact List.mem_cons_self), g⟩) ok fun q hq => .inl hq
  rw [set_same e2] at this
  exact this
theorem Stp.put {B : Bg} {G0 O G H : Hp} {p : Addr} {o : HO} (t : Stp B O G0 O G H) (h0 : O p = none) (g : G p = none) (n : NotB B p) : Stp B O G0 O G (upd H p o) :=
  ⟨t.g, t.w.put g n, fun a u m e => by
    rw [upd_ne (ne_of_none e h0)]
    exact t.keep a u m e, t.new⟩
theorem own_at {B : Bg} {O G H : Hp} {σ : L2.St} {E : Env'} {i : Nat} {ds : List Dat} (h : EnvOk K B O G H σ E) (e : E[i]? = some (.own (.lst true ds))) :
    ∃ p vs, σ[i]? = some (some (.ref p)) ∧ O p = none ∧ G p = none ∧ NotB B p ∧ H p = some (.lst vs) ∧ RpAll K O G vs ds := by
  obtain ⟨x, S, hx, ok⟩ := h.get e
  cases ok with
  | ownL a a5 => exact ⟨_, _, hx, a.old, a.g, a.nb, a.h, a5⟩
def sApp (i : Nat) (f : Env' → W Dat) : WS := fun E k => W.of (ownL E i) fun ds => f E fun d => ds.length < sizeLine ∧ k.nx (E.set i (.own (.lst true (ds ++ [d]))))
theorem pq_append {i : Nat} {o e : Expr} {apos cpos pos : Pos} {f : Env' → W Dat} (hv : PE X o (tVar i)) (h : PX K X e f) (hK : X.K = K)
    (hbase : attributeBase o "append" X.env (eval o X.env) = eval o X.env := by rfl)
    (hfew : ((backTo cpos (starEach [e] X.env)).all (fun x => !x.1) && (backToKw cpos (keywordEach [] X.env)).all (fun x => x.1.isSome)
      && decide ([e].length + ([] : List Keyword).length + (if ([] : List Keyword).isEmpty then 0 else 1) < 30)) = true := by rfl)
    (hline : (apos.endLine == cpos.line) = true := by rfl) (hs : starEach [e] X.env = (false, eval e X.env) :: starEach [] X.env := by rfl) (hplain : (backTo cpos (starEach [] X.env)).any (·.1) = false := by rfl)
    (hsw : swapsWith (.Call (.Attribute o "append" apos) [e] [] cpos) none pos.line X.env = pure false := by rfl) :
    PQ K X (.Expr (.Call (.Attribute o "append" apos) [e] [] cpos) pos) (sApp i f) := by
  subst hK
  refine ⟨fun Wx tk => impS (ps_expr (pe_bm PySem.F.plainAttrs_list PySem.F.slot_list_append PySem.F.type_list_append mt_append hv (pa_cons h.pe pa_nil hs) hbase hfew hline hs hplain) hsw) fun D σ H ⟨B, G0, O, G, E, t, eo, q⟩ => ?_,
    fun E k k' l q => W.Mono.of _ _ (fun ds q => h.mono E _ _ (fun d q => ⟨q.1, l.nx _ q.2⟩) q) q⟩
  obtain ⟨ds, e1, q⟩ := of_some q
  have e1 := ownL_some e1
  obtain ⟨p, vs, s1, a1, a2, a3, a4, a5⟩ := own_at eo e1
  refine ⟨_, s1, .inl ⟨rfl, _, SqL.of a4⟩, B, O, G, E, t.w, eo, h.mono E _ _ (fun d q1 v G' H' t' r => ?_) q⟩
  have g' := t'.new p a2 (by rw [a4]; exact Option.some_ne_none _)
  have h' := t'.keep p _ a3 a4
  have tt := t.trans t'
  refine ⟨p, vs, v, rfl, rfl, h', by rw [a5.len]; exact q1.1, q1.2 σ G' _ t'.g (tt.put a1 g' a3) ((eo.step t').change e1 s1 (.ownL ⟨a1, g', a3, upd_same⟩ ((a5.mono t'.g).append (.cons r .nil))))⟩
def sExt (i : Nat) (f : Env' → W Dat) : WS := fun E k => W.of (ownL E i) fun ds => f E fun d => W.of (match d with | .lst _ xs => some xs | _ => none) fun xs => ds.length + xs.length ≤ sizeLine ∧ k.nx (E.set i (.own (.lst true (ds ++ xs))))
def putD {κ : Type} [DecidableEq κ] (es : List (κ × Dat)) (k : κ) (d : Dat) : List (κ × Dat) :=
  if (es.any fun kv => decide (kv.1 = k)) = true then es.map (fun kv => if kv.1 = k then (kv.1, d) else kv) else es ++ [(k, d)]
theorem put_of {O G : Hp} {k : Key} {v : V} {d : Dat} (r : Rp K O G v d) : ∀ {kvs : List (Key × V)} {es : List (Key × Dat)}, kvs.map (·.1) = es.map (·.1) → RpAll K O G (kvs.map (·.2)) (es.map (·.2)) →
    (putK kvs k v).map (·.1) = (putD es k d).map (·.1) ∧ RpAll K O G ((putK kvs k v).map (·.2)) ((putD es k d).map (·.2)) := by
  intro kvs es h1 h2
  have ha : (kvs.any fun kv => decide (kv.1 = k)) = (es.any fun kv => decide (kv.1 = k)) := by
    have e1 : (kvs.any fun kv => decide (kv.1 = k)) = (kvs.map (·.1)).any fun x => decide (x = k) := by rw [List.any_map]; rfl
    have e2 : (es.any fun kv => decide (kv.1 = k)) = (es.map (·.1)).any fun x => decide (x = k) := by rw [List.any_map]; rfl
    rw [e1, e2, h1]
  unfold putK putD
  rw [ha]
  split
  · rename_i hz
    refine ⟨?_, ?_⟩
    · have e1 : (kvs.map fun kv => if kv.1 = k then (kv.1, v) else kv).map (·.1) = kvs.map (·.1) := by
        rw [List.map_map]
        refine List.map_congr_left fun p _ => ?_
        show (if p.1 = k then (p.1, v) else p).1 = p.1
        split <;> rfl
      have e2 : (es.map fun kv => if kv.1 = k then (kv.1, d) else kv).map (·.1) = es.map (·.1) := by
        rw [List.map_map]
        refine List.map_congr_left fun p _ => ?_
        show (if p.1 = k then (p.1, d) else p).1 = p.1
        split <;> rfl
      rw [e1, e2, h1]
    · clear ha hz
      induction kvs generalizing es with
      | nil =>
        cases es with
        | nil => exact .nil
        | cons _ _ => cases h1
      | cons p kvs ih =>
        cases es with
        | nil => cases h1
        | cons q es =>
          injection h1 with z1 z2
          have z1' : p.1 = q.1 := z1
          cases h2 with
          | cons r1 r2 =>
            rw [List.map_cons, List.map_cons, List.map_cons, List.map_cons]
            refine .cons ?_ (ih z2 r2)
            show Rp K O G (if p.1 = k then (p.1, v) else p).2 (if q.1 = k then (q.1, d) else q).2
            rw [z1']
            split
            · exact r
            · exact r1
  · refine ⟨by rw [List.map_append, List.map_append, h1]; rfl, ?_⟩
    rw [List.map_append, List.map_append]
    exact h2.append (.cons r .nil)
def sPut (i : Nat) (fk f : Env' → W Dat) : WS := fun E k => W.of (ownD E i) fun es => f E fun d => fk E fun kd => W.of (keyD kd) fun key => es.length < sizeLine ∧ k.nx (E.set i (.own (.dct true (putD es key d))))
end
end EW
set_option Elab.async false
set_option linter.all false
set_option maxRecDepth 100000
set_option maxHeartbeats 4000000
namespace EW
open PySem PySem.Spec PyProof.Rows L2 EG EM
section
variable {K : PySem.W.Frag} {X : Cx}
def loopW (g : Dat → Env' → Option Env') (F : WS) : List Dat → WS
  | [], E, k => k.nx E
  | d :: ds, E, k => W.of (g d E) fun E1 => F E1 { k with nx := fun E' => loopW g F ds E' k, ct := fun E' => loopW g F ds E' k, bk := k.nx }
theorem loopW_mono {g : Dat → Env' → Option Env'} {F : WS} (m : MonoS F) : ∀ ds, MonoS (loopW g F ds)
  | [] => fun E k k' l q => l.nx _ q
  | d :: ds => fun E k k' l q => W.Mono.of _ _ (fun E1 q => by
      refine m E1 _ _ ?_ q
      exact ⟨fun E' q => loopW_mono m ds E' _ _ l q, l.rt, l.nx, fun E' q => loopW_mono m ds E' _ _ l q, l.ex⟩) q
def sFor (fi : Env' → W (List Dat)) (g : Dat → Env' → Option Env') (F : WS) : WS := fun E k => fi E fun ds => loopW g F ds E k
theorem pq_for {tg iter : Expr} {body : List Stmt} {pos : Pos} {fi : Env' → W (List Dat)} {js : List Nat} {t0 : TG} {g : Dat → Env' → Option Env'} {F : WS} (hp : PassesOwn (model X.prog X.w) X.A X.env X.xe) (hc : X.calm = true) (hi : PIW K X tg iter fi) (hg : PGW K X tg js t0 g) (hb : PQs K X body F)
    (hs : ∀ x, foldedSetIterable iter X.env x = pure x := by intro _; rfl) : PQ K X (.For tg iter body [] pos) (sFor fi g F) := by
  refine ⟨fun Wx tk => impS (ps_for hp hc hi.pi hg.pg (hb.ps Wx tk) hs) fun D σ H ⟨B, G0, O, G, E, t, eo, q⟩ => ?_, fun E k k' l q => hi.mono E _ _ (fun ds q => loopW_mono hb.mono ds E _ _ l q) q⟩
  refine ⟨B, O, G, E, t.w, eo, hi.mono E _ _ (fun ds q1 G1 H1 J t1 wk => ?_) q⟩
  obtain ⟨Gd, Y, wlk, hGd, hY⟩ := wk
  refine for_it wlk (fun i σ' H' => ∃ G' E', Stp B O G0 O G' H' ∧ EnvOk K B O G' H' σ' E' ∧ Same G1 G' ∧ loopW g F (ds.drop i) E' (kn K Wx B G0 O G D)) ?_ ?_ ?_ ?_
  · exact ⟨G1, E, t.trans t1, eo.step t1, Same.refl _, q1⟩
  · rintro i σ' H' _ ⟨G', E', st, _, sg, _⟩
    exact hGd H' fun a o h => st.w.s _ _ (sg _ _ h)
  · rintro i x σ' H' H2 hi' ⟨G', E', st, eo', sg, qq⟩ y
    have hlt : i < ds.length := hi'
    obtain ⟨G2, st2, rx⟩ := hY i H' x H2 B G' ds[i] (List.getElem?_eq_getElem hlt) sg st.w y
    rw [List.drop_eq_getElem_cons hlt] at qq
    obtain ⟨E1, e1, qq⟩ := of_some qq
    have sg2 : Same G1 G2 := sg.trans st2.g
    have sgg : Same G G2 := t1.g.trans sg2
    refine hg.run B O G2 H2 σ' E' x _ E1 _ st2.w (eo'.step st2) rx e1 fun σ2 _ _ eo2 => ⟨B, G0, O, G2, E1, st.trans st2, eo2, hb.mono E1 _ _ ⟨?_, ?_, ?_, ?_, ?_⟩ qq⟩
    · exact fun E3 q3 σ3 G3 H3 s3 st3 eo3 => ⟨G3, E3, st3, eo3, sg2.trans s3, q3⟩
    · exact fun E' s q3 v σ3 G3 H3 s3 st3 r3 => q3 v σ3 G3 H3 (sgg.trans s3) st3 r3
    · exact fun E3 q3 σ3 G3 H3 s3 st3 eo3 => q3 σ3 G3 H3 (sgg.trans s3) st3 eo3
    · exact fun E3 q3 σ3 G3 H3 s3 st3 eo3 => ⟨G3, E3, st3, eo3, sg2.trans s3, q3⟩
    · exact fun C fs E3 q3 d σ3 G3 H3 s3 st3 eo3 => q3 d σ3 G3 H3 (sgg.trans s3) st3 eo3
  · rintro σ' H' ⟨G', E', st, eo', sg, qq⟩
    rw [List.drop_eq_nil_of_le (Nat.le_refl _)] at qq
    exact qq σ' G' H' (t1.g.trans sg) st eo'
theorem pss_lock {sts : List Stmt} {t : TS} (h : PSs X sts t) : PSs X sts (fun D σ H => ∃ d u, H d = some u ∧ Mut (some u) ∧ ∀ od, t D σ (upd H d (.frz od u))) := by
  refine ⟨fun pins s σ H D I ⟨d, u, hd, mu, hw⟩ => ?_⟩
  obtain ⟨od, I1⟩ := I.lock hd mu
  exact h.run pins s σ _ D I1 (hw od)
theorem pss_or {sts : List Stmt} {t t' : TS} (h : PSs X sts t) (h' : PSs X sts t') : PSs X sts (fun D σ H => t D σ H ∨ t' D σ H) := by
  refine ⟨fun pins s σ H D I q => ?_⟩
  rcases q with q | q
  · exact h.run pins s σ H D I q
  · exact h'.run pins s σ H D I q
def ownAt (E : Env') (i : Nat) : Option Dat := match E[i]? with
  | some (.own d) => some d
  | _ => none
theorem ownAt_some {E : Env'} {i : Nat} {d : Dat} (h : ownAt E i = some d) : E[i]? = some (.own d) := by
  unfold ownAt at h
  split at h
  · cases h
    assumption
  · cases h
def sFrz (i : Nat) (F : WS) : WS := fun E k => W.of (ownAt E i) fun d => F (E.set i (.dat d)) k
/-- the thing at p is from now on what stays -/
theorem EnvOk.frz {B : Bg} {O G H H' : Hp} {σ : L2.St} {E : Env'} {i : Nat} {p : Addr} {o : HO} {d d' : Dat} (h : EnvOk K B O G H σ E) (e1 : E[i]? = some (.own d)) (e2 : σ[i]? = some (some (.ref p))) (gp : G p = none) (hH : ∀ q, q ≠ p → H' q = H q) (r : Rp K O (upd G p o) (.ref p) d') :
    EnvOk K B O (upd G p o) H' σ (E.set i (.dat d')) := by
  obtain ⟨x, S, hx, sl, k⟩ := h.pull e1
  rw [e2] at hx
  cases hx
  have hS : S = [p] := by cases sl <;> rfl
  subst hS
  have := k (upd G p o) H' (some (.ref p)) (.dat d') [] (same_new (Same.refl _) gp) (fun q hq _ _ _ g => by
    have ne : q ≠ p := fun z => hq (by rw [z]; exact List.mem_cons_self)
    exact ⟨hH q ne, by rw [upd_ne ne]; exact g⟩) (.dat r) fun q hq => absurd hq List.not_mem_nil
  rw [set_same e2] at this
  exact this
theorem Stp.frz {B : Bg} {G0 O G H : Hp} {p : Addr} {o : HO} (t : Stp B O G0 O G H) (h0 : O p = none) (g : G p = none) (n : NotB B p) (hp : H p = some o) : Stp B O G0 O (upd G p o) H :=
  ⟨same_new t.g g, t.w.freeze hp n g, t.keep, fun a h1 h2 => by
    have z : a ≠ p := fun z => h2 (by rw [z]; exact h0)
    rw [upd_ne z]
    exact t.new a h1 h2⟩
theorem pq_frz {i : Nat} {sts : List Stmt} {F : WS} (h : PQs K X sts F) : PQs K X sts (sFrz i F) := by
  refine ⟨fun Wx tk => impSs (pss_or (h.ps Wx tk) (pss_lock (h.ps Wx tk))) fun D σ H ⟨B, G0, O, G, E, t, eo, q⟩ => ?_, fun E k k' l q => W.Mono.of _ _ (fun d q => h.mono _ _ _ l q) q⟩
  obtain ⟨d, e, q⟩ := of_some q
  have e := ownAt_some e
  obtain ⟨x, S, hx, ok⟩ := eo.get e
  cases ok with
  | @ownL p vs ds a a5 =>
    obtain ⟨a1, a2, a3, a4⟩ := a
    refine .inl ⟨B, G0, O, upd G p (.lst vs), _, t.frz a1 a2 a3 a4, eo.frz e hx a2 (fun _ _ => rfl) (.lst upd_same (a5.mono (same_new (Same.refl _) a2)) fun _ => a1), h.mono _ _ _ (kn_le (same_new (Same.refl _) a2)) q⟩
  | @ownD p kvs es a a5 a6 =>
    obtain ⟨a1, a2, a3, a4⟩ := a
    refine .inr ⟨p, .dK kvs, a4, trivial, fun od => ?_⟩
    have t1 : Stp B O G0 O G (upd H p (.frz od (.dK kvs))) := t.put a1 a2 a3
    exact ⟨B, G0, O, upd G p (.frz od (.dK kvs)), _, t1.frz a1 a2 a3 upd_same, eo.frz e hx a2 (fun q nq => upd_ne nq) (.dct upd_same a5 (a6.mono (same_new (Same.refl _) a2)) fun _ => a1), h.mono _ _ _ (kn_le (same_new (Same.refl _) a2)) q⟩
  | @ownO p wd xs kvs vvs es a a5 a6 a7 a8 a9 =>
    obtain ⟨a1, a2, a3, a4⟩ := a
    refine .inr ⟨p, oddO wd p xs, a4, trivial, fun od => ?_⟩
    have t1 : Stp B O G0 O G (upd H p (.frz od (oddO wd p xs))) := t.put a1 a2 a3
    exact ⟨B, G0, O, upd G p (.frz od (oddO wd p xs)), _, t1.frz a1 a2 a3 upd_same, eo.frz e hx a2 (fun q nq => upd_ne nq) (.odd upd_same a5 a6 a7 (KdAll.same (same_new (Same.refl _) a2) a8) (a9.mono (same_new (Same.refl _) a2)) fun _ => a1), h.mono _ _ _ (kn_le (same_new (Same.refl _) a2)) q⟩
def sAug (i : Nat) (o : Dat → Dat → Option Dat) (f : Env' → W Dat) : WS := fun E k => W.of (datAt E i) fun x => f E fun y => W.of (o x y) fun d => k.nx (E.set i (.dat d))
inductive Ar where
  | dat (d : Dat) | bag
inductive ArOk (K : PySem.W.Frag) (B : Bg) (O G : Hp) : V → Ar → Prop
  | dat {v : V} {d : Dat} : Rp K O G v d → ArOk K B O G v (.dat d)
  | bag {b l : Addr} : B = some (b, l) → ArOk K B O G (.ref b) .bag
abbrev ArAll (K : PySem.W.Frag) (B : Bg) (O G : Hp) : List V → List Ar → Prop := Paired (ArOk K B O G)
theorem ArAll.mono {B : Bg} {O G G' : Hp} (s : Same G G') : ∀ {vs : List V} {as : List Ar}, ArAll K B O G vs as → ArAll K B O G' vs as
  | _, _, .nil => .nil
  | _, _, .cons h t => .cons (by cases h with | dat r => exact .dat (r.mono s) | bag e => exact .bag e) (ArAll.mono s t)
mutual
/-- nothing in it is new -/
def Dat.old : Dat → Dat
  | .lst _ ds => .lst false (Dat.olds ds)
  | .tup ds => .tup (Dat.olds ds)
  | .dct _ es => .dct false (Dat.oldk es)
  | .ins C fs => .ins C (Dat.oldf fs)
  | .odd w _ es => .odd w false (Dat.oldo es)
  | d => d
def Dat.oldo : List (Kd × Dat) → List (Kd × Dat)
  | [] => []
  | (k, d) :: ds => (k, Dat.old d) :: Dat.oldo ds
def Dat.olds : List Dat → List Dat
  | [] => []
  | d :: ds => Dat.old d :: Dat.olds ds
def Dat.oldk : List (Key × Dat) → List (Key × Dat)
  | [] => []
  | (k, d) :: ds => (k, Dat.old d) :: Dat.oldk ds
def Dat.oldf : List (Str × Dat) → List (Str × Dat)
  | [] => []
  | (k, d) :: ds => (k, Dat.old d) :: Dat.oldf ds
end
theorem olds_map : ∀ ds : List Dat, Dat.olds ds = ds.map Dat.old
  | [] => by simp [Dat.olds]
  | d :: ds => by simp [Dat.olds, olds_map ds]
theorem oldk_map : ∀ ds : List (Key × Dat), Dat.oldk ds = ds.map fun p => (p.1, p.2.old)
  | [] => by simp [Dat.oldk]
  | (k, d) :: ds => by simp [Dat.oldk, oldk_map ds]
theorem oldo_map : ∀ ds : List (Kd × Dat), Dat.oldo ds = ds.map fun p => (p.1, p.2.old)
  | [] => by simp [Dat.oldo]
  | (k, d) :: ds => by simp [Dat.oldo, oldo_map ds]
theorem oldf_map : ∀ ds : List (Str × Dat), Dat.oldf ds = ds.map fun p => (p.1, p.2.old)
  | [] => by simp [Dat.oldf]
  | (k, d) :: ds => by simp [Dat.oldf, oldf_map ds]
mutual
theorem Rp.toOld {O O' G : Hp} : ∀ {v : V} {d : Dat}, Rp K O G v d → Rp K O' G v d.old
  | _, _, .non => by simpa [Dat.old] using Rp.non
  | _, _, .bl b => by simpa [Dat.old] using Rp.bl b
  | _, _, .int i => by simpa [Dat.old] using Rp.int i
  | _, _, .str x => by simpa [Dat.old] using Rp.str x
  | _, _, .any a => by simpa [Dat.old] using Rp.any a
  | _, _, .adr a => by simpa [Dat.old] using Rp.adr a
  | _, _, .lst h1 h2 _ => by
    rw [Dat.old]
    exact .lst h1 (RpAll.toOld h2) fun z => nomatch z
  | _, _, .tup h1 h2 => by
    rw [Dat.old]
    exact .tup h1 (RpAll.toOld h2)
  | _, _, .dct h1 h2 h3 _ => by
    rw [Dat.old, oldk_map]
    refine .dct h1 (by rw [h2, List.map_map]; rfl) ?_ fun z => nomatch z
    have := RpAll.toOld (O' := O') h3
    rw [olds_map, List.map_map] at this
    rw [List.map_map]
    exact this
  | _, _, .ins h1 h2 h3 => by
    rw [Dat.old, oldf_map]
    refine .ins h1 (by rw [h2, List.map_map]; rfl) ?_
    have := RpAll.toOld (O' := O') h3
    rw [olds_map, List.map_map] at this
    rw [List.map_map]
    exact this
  | _, _, .odd h1 h2 h3 h4 h5 h6 _ => by
    rw [Dat.old, oldo_map]
    refine .odd h1 (by rw [h2, List.map_map]; rfl) h3 h4 (by rw [List.map_map]; exact h5) ?_ fun z => nomatch z
    have := RpAll.toOld (O' := O') h6
    rw [olds_map, List.map_map] at this
    rw [List.map_map]
    exact this
theorem RpAll.toOld {O O' G : Hp} : ∀ {vs : List V} {ds : List Dat}, RpAll K O G vs ds → RpAll K O' G vs (Dat.olds ds)
  | _, _, .nil => by simpa [Dat.olds] using RpAll.nil
  | _, _, .cons h t => by
    rw [Dat.olds]
    exact .cons (Rp.toOld h) (RpAll.toOld t)
end
def Ar.old : Ar → Ar
  | .dat d => .dat d.old
  | .bag => .bag
theorem ArAll.toOld {B : Bg} {O O' G : Hp} : ∀ {vs : List V} {as : List Ar}, ArAll K B O G vs as → ArAll K B O' G vs (as.map Ar.old)
  | _, _, .nil => .nil
  | _, _, .cons h t => .cons (by cases h with | dat r => exact .dat r.toOld | bag e => exact .bag e) (ArAll.toOld t)
/-- by some promise -/
def up {α : Type} (m : W α) : W α := fun Q => ∃ P : α → Prop, m P ∧ ∀ a, P a → Q a
theorem up_in {α : Type} {m : W α} {Q : α → Prop} (h : m Q) : up m Q := ⟨Q, h, fun _ q => q⟩
theorem up_mono {α : Type} {m : W α} : W.Mono (up m) := fun P Q h ⟨R, q, z⟩ => ⟨R, q, fun a r => h a (z a r)⟩
/-- the promise of a def by its program over data -/
def spW (K : PySem.W.Frag) (n : Nat) (p : List Ar → W Dat) : Sp := fun vs H Q _ => ∃ B G as, Wd B H G H ∧ ArAll K B H G vs as ∧ as.length = n ∧ up (p as) (Ck K B H G H Q)
def arS : Ar → Sl
  | .dat d => .dat d
  | .bag => .bag
def startE (m : Nat) (as : List Ar) : Env' := as.map arS ++ List.replicate (m - as.length) .no
/-- of what is returned, a datum -/
def onDat (Q : Dat → Prop) : Sl → Prop
  | .dat d => Q d
  | _ => False
def defW (m : Nat) (F : WS) : List Ar → W Dat := fun as Q => F (startE m as) ⟨fun _ => Q .non, fun _ s => onDat Q s, fun _ => False, fun _ => False, fun _ _ _ => False⟩
structure FnW (P : Program) (w : World) (K : PySem.W.Frag) (mg : Str → Option Value) (base : Heap) (k : Nat) (f : Addr) (fd : FuncData) (ps : List Str) (p : List Ar → W Dat) : Prop where
  fn : FnG P w K mg base CX0 k f fd ps (spW K ps.length p)
theorem FnW.up {P : Program} {w : World} {mg : Str → Option Value} {base : Heap} {j k : Nat} {f : Addr} {fd : FuncData} {ps : List Str} {p : List Ar → W Dat} (h : FnW P w K mg base j f fd ps p) (l : j ≤ k) : FnW P w K mg base k f fd ps p := ⟨h.fn.mono l⟩
theorem env_start {B : Bg} {G H : Hp} {N : List Str} {vs : List V} {as : List Ar} (h : ArAll K B H G vs as) : EnvOk K B H G H (L2.start N vs) (startE N.length as) := by
  have hl : vs.length = as.length := Paired.length h
  refine ⟨?_, fun _ => [], fun i x s e1 e2 => ?_, fun i j p _ _ e1 _ => absurd e1 List.not_mem_nil⟩
  · unfold L2.start startE
    rw [List.length_append, List.length_append, List.length_map, List.length_map, List.length_replicate, List.length_replicate, hl]
  · unfold L2.start at e1
    unfold startE at e2
    by_cases hi : i < vs.length
    · rw [List.getElem?_append_left (by rw [List.length_map]; exact hi), List.getElem?_map] at e1
      rw [List.getElem?_append_left (by rw [List.length_map, ← hl]; exact hi), List.getElem?_map] at e2
      have key : ∀ {vs : List V} {as : List Ar}, ArAll K B H G vs as → ∀ {i : Nat} {v : V} {a : Ar}, vs[i]? = some v → as[i]? = some a → ArOk K B H G v a := by
        intro vs as h
        induction h with
        | nil =>
          intro i v a h
          simp at h
        | cons r t ih =>
          intro i v a h1 h2
          cases i with
          | zero =>
            simp at h1 h2
            rw [← h1, ← h2]
            exact r
          | succ n => exact ih (by simpa using h1) (by simpa using h2)
      cases zv : vs[i]? with
      | none =>
        rw [zv] at e1
        cases e1
      | some v =>
        cases za : as[i]? with
        | none =>
          rw [za] at e2
          cases e2
        | some a =>
          rw [zv] at e1
          rw [za] at e2
          cases e1
          cases e2
          cases key h zv za with
          | dat r => exact .dat r
          | bag e => exact .bag e
    · rw [List.getElem?_append_right (by rw [List.length_map]; omega)] at e1
      rw [List.getElem?_append_right (by rw [List.length_map]; omega)] at e2
      rw [List.getElem?_replicate] at e1 e2
      split at e1
      · cases e1
        split at e2
        · cases e2
          exact .no
        · cases e2
      · cases e1
/-- no exception is wished for -/
theorem takes_no : L2N.Takes X (fun _ _ _ _ => False) := fun u s' ⟨_, _, _, _, _, _, _, _, _, _, _, _, _, _, _, _, z⟩ => z.elim
theorem fn_w {P : Program} {w : World} {mg : Str → Option Value} {base : Heap} {k : Nat} {f : Addr} {x qn : Str} {st : Stmt} {fd : FuncData} {N ps : List Str} {F : WS} (Fn : Fun K x qn st f fd) (S : FnScope N ps (defScope st))
    (hb : ∀ (cdv : Value) (A : Around) (out : List Env) (s : Shared) (H : Hp) (E : XK), A.guards = some [] → Room k (A.deeper (envOfC qn (defScope st) s.heap.objs.size f cdv)) → PQs K (cxOf CX0 P w K mg base N qn (defScope st) f cdv A out s H E).nox (defBody st) F) :
    FnW P w K mg base (k + 1) f fd ps (defW N.length F) := by
  refine ⟨okG Fn S (fun vs H Q E h => ?_) fun cdv A out s H vs Q E hg hr h => ?_⟩
  · obtain ⟨B, G, as, _, ha, hl, _⟩ := h
    exact (Paired.length ha).trans hl
  · obtain ⟨B, G, as, wd, ha, hl, P', q, hP⟩ := h
    have m := (hb cdv A out s H E hg hr).mono
    refine ⟨_, (hb cdv A out s H E hg hr).ps _ takes_no, B, G, H, G, _, wd.refl, env_start ha, m _ _ _ ⟨?_, ?_, ?_, ?_, ?_⟩ q⟩
    · exact fun E' q σ' G' H' sg t eo => hP _ q .non G' H' t .non
    · intro E' s q v σ' G' H' sg t eo
      cases s with
      | dat d =>
        obtain ⟨F', f1, _⟩ := eo.ex
        have := f1 0 (some v) (.dat d) rfl rfl
        generalize F' 0 = S0 at this
        cases this with
        | dat r => exact hP _ q v G' H' t r
      | _ => exact q.elim
    · exact fun _ z => z.elim
    · exact fun _ z => z.elim
    · exact fun _ _ _ z => z.elim
structure PXa (K : PySem.W.Frag) (X : Cx) (es : List Expr) (f : Env' → W (List Ar)) : Prop where
  run : ∃ t, PA X es t ∧ ∀ B O G H σ E (Q : List V → Hp → Prop), Wd B O G H → EnvOk K B O G H σ E → f E (fun as => ∀ vs G' H', Stp B O G H G' H' → ArAll K B O G' vs as → Q vs H') → t σ H Q
  mono : ∀ E, W.Mono (f E)
  len : ∀ E (P : List Ar → Prop), f E P → f E fun as => as.length = es.length ∧ P as
def aNil : Env' → W (List Ar) := fun _ => W.ret []
theorem pxa_nil : PXa K X [] aNil := ⟨⟨_, pa_nil, fun B O G H σ E Q w eo q => q [] G H w.refl .nil⟩, fun _ => .ret, fun E P h => ⟨rfl, h⟩⟩
def aDat (f : Env' → W Dat) (fs : Env' → W (List Ar)) : Env' → W (List Ar) := fun E => (f E).bind fun d => (fs E).bind fun as => W.ret (.dat d :: as)
theorem pxa_dat {e : Expr} {es : List Expr} {f : Env' → W Dat} {fs : Env' → W (List Ar)} (h : PX K X e f) (hs : PXa K X es fs) (hst : starEach (e :: es) X.env = (false, eval e X.env) :: starEach es X.env := by rfl) : PXa K X (e :: es) (aDat f fs) := by
  obtain ⟨t, h1, h2⟩ := hs.run
  refine ⟨⟨_, pa_cons h.pe h1 hst, fun B O G H σ E Q w eo q => ?_⟩, fun E => (h.mono E).bind fun _ => (hs.mono E).bind fun _ => .ret, fun E P q => h.mono E _ _ (fun d q1 => hs.mono E _ _ (fun as q2 => ⟨congrArg (· + 1) q2.1, q2.2⟩) (hs.len E _ q1)) q⟩
  refine ⟨B, O, G, E, w, eo, h.mono E _ _ (fun d q1 v G1 H1 t1 r1 => ?_) q⟩
  refine h2 B O G1 H1 σ E _ t1.w (eo.step t1) (hs.mono E _ _ (fun as q2 vs G2 H2 t2 r2 => ?_) q1)
  exact q2 (v :: vs) G2 H2 (t1.trans t2) (.cons (.dat (r1.mono t2.g)) r2)
def isBag (E : Env') (i : Nat) : Option Unit := match E[i]? with
  | some .bag => some ()
  | _ => none
def aBag (i : Nat) (fs : Env' → W (List Ar)) : Env' → W (List Ar) := fun E => (W.of (isBag E i)).bind fun _ => (fs E).bind fun as => W.ret (.bag :: as)
theorem pxa_bag {i : Nat} {e : Expr} {es : List Expr} {fs : Env' → W (List Ar)} (h : PE X e (tVar i)) (hs : PXa K X es fs) (hst : starEach (e :: es) X.env = (false, eval e X.env) :: starEach es X.env := by rfl) : PXa K X (e :: es) (aBag i fs) := by
  obtain ⟨t, h1, h2⟩ := hs.run
  refine ⟨⟨_, pa_cons h h1 hst, fun B O G H σ E Q w eo q => ?_⟩, fun E => W.Mono.of.bind fun _ => (hs.mono E).bind fun _ => .ret, fun E P q => W.Mono.of _ _ (fun d q1 => hs.mono E _ _ (fun as q2 => ⟨congrArg (· + 1) q2.1, q2.2⟩) (hs.len E _ q1)) q⟩
  obtain ⟨u, e1, q⟩ := of_some q
  unfold isBag at e1
  split at e1
  · rename_i hb
    obtain ⟨x, S, hx, ok⟩ := eo.get hb
    cases ok with
    | bag eb =>
      refine ⟨_, hx, h2 B O G H σ E _ w eo (hs.mono E _ _ (fun as q2 vs G2 H2 t2 r2 => ?_) q)⟩
      exact q2 _ G2 H2 t2 (.cons (.bag eb) r2)
  · cases e1
def wCall (p : List Ar → W Dat) (fs : Env' → W (List Ar)) : Env' → W Dat := fun E => (fs E).bind fun as => up (p (as.map Ar.old))
theorem px_call {k : Nat} {f : Addr} {fd : FuncData} {ps : List Str} {p : List Ar → W Dat} {x : Str} {pp pos : Pos} {e : Expr} {es : List Expr} {fs : Env' → W (List Ar)} (hK : X.K = K) (F : FnW X.prog X.w K X.mg X.base k f fd ps p) (gd : X.A.guards = some []) (hr : Room k X.A) (hg : Gl X x) (hm : X.mg x = some (.ref f))
    (hk : PySem.W.keepIn K (.ref f) = true) (hb : Binds K fd ps []) (hps : ps.length = (e :: es).length) (hx : Passes CX0 X fun _ _ _ => False) (ha : PXa K X (e :: es) fs)
    (hdb : (x == ("__debug__" : Str)) = false := by decide) (he : starEach (e :: es) X.env = (false, eval e X.env) :: starEach es X.env := by rfl)
    (hpl : (backTo pos (starEach es X.env)).any (·.1) = false := by rfl) : PX K X (.Call (.Name x pp) (e :: es) [] pos) (wCall p fs) := by
  subst hK
  obtain ⟨t, h1, h2⟩ := ha.run
  refine ⟨imp (pe_callG F.fn gd hr hg hm hk hb .nil hx h1 hdb he hpl) fun σ H Q ⟨B, O, G, E, w, eo, q⟩ => ?_, fun E => (ha.mono E).bind fun as => up_mono⟩
  refine h2 B O G H σ E _ w eo (ha.mono E _ _ (fun as q1 vs G1 H1 t1 r1 => ?_) (ha.len E _ q))
  obtain ⟨l1, q1⟩ := q1
  refine ⟨B, G1, as.map Ar.old, ⟨t1.w.s, fun _ z => z, t1.w.bag⟩, by rw [List.append_nil]; exact r1.toOld, by rw [List.length_map, hps]; exact l1, up_mono _ _ (fun d q2 v G' H' t' r' => ?_) q1⟩
  have t2 : Stp B O G1 H1 G' H' := ⟨t'.g, ⟨t'.w.s, fun a z => t1.w.old a (t'.free z), t'.w.bag⟩, t'.keep, t'.new⟩
  exact q2 v G' H' (t1.trans t2) (r'.older t1.w.old)
end
end EW
set_option Elab.async false
set_option linter.all false
set_option maxRecDepth 100000
set_option maxHeartbeats 4000000
namespace EW
open PySem PySem.Spec PyProof.Rows L2 EG EM
abbrev wC (d : Dat) : Env' → W Dat := fun _ => W.ret d
abbrev wV (i : Nat) : Env' → W Dat := fun E => W.of (datAt E i)
abbrev wNil : Env' → W (List Dat) := fun _ => W.ret []
abbrev wCons (f : Env' → W Dat) (fs : Env' → W (List Dat)) : Env' → W (List Dat) := fun E => (f E).bind fun d => (fs E).bind fun ds => W.ret (d :: ds)
abbrev wLst (fs : Env' → W (List Dat)) : Env' → W Dat := fun E => (fs E).bind fun ds => W.of (mkL ds)
abbrev wTup (fs : Env' → W (List Dat)) : Env' → W Dat := fun E => (fs E).bind fun ds => W.of (mkT ds)
abbrev wOp (o : Dat → Dat → Option Dat) (fa fb : Env' → W Dat) : Env' → W Dat := fun E => (fa E).bind fun x => (fb E).bind fun y => W.of (o x y)
abbrev bOp (o : Dat → Dat → Option Dat) (fa fb : Env' → W Dat) : Env' → W Bool := fun E => (fa E).bind fun x => (fb E).bind fun y => W.of ((o x y).bind toB)
abbrev bVal (f : Env' → W Dat) : Env' → W Bool := fun E => (f E).bind fun d => W.of (toB d)
abbrev bNot (f : Env' → W Bool) : Env' → W Bool := fun E => (f E).bind fun b => W.ret (!b)
abbrev bAnd (f g : Env' → W Bool) : Env' → W Bool := fun E => (f E).bind fun c => cnd c (g E) (W.ret false)
abbrev bOr (f g : Env' → W Bool) : Env' → W Bool := fun E => (f E).bind fun c => cnd c (W.ret true) (g E)
abbrev bYes : Env' → W Bool := fun _ => W.ret true
abbrev bChain (o o' : Dat → Dat → Option Dat) (fa fb fc : Env' → W Dat) : Env' → W Bool := fun E => (fa E).bind fun x => (fb E).bind fun y => (W.of ((o x y).bind toB)).bind fun k => cnd k ((fc E).bind fun z => W.of ((o' y z).bind toB)) (W.ret false)
abbrev wAnd (f g : Env' → W Dat) : Env' → W Dat := fun E => (f E).bind fun d => (W.of (toB d)).bind fun c => cnd c (g E) (W.ret (.bl false))
abbrev wOr (f g : Env' → W Dat) : Env' → W Dat := fun E => (f E).bind fun d => (W.of (toB d)).bind fun c => cnd c (W.ret (.bl true)) (g E)
abbrev wNot (f : Env' → W Dat) : Env' → W Dat := fun E => (f E).bind fun d => (W.of (toB d)).bind fun c => W.ret (.bl (!c))
abbrev wIf (c : Env' → W Bool) (f g : Env' → W Dat) : Env' → W Dat := fun E => (c E).bind fun c => cnd c (f E) (g E)
abbrev wB (op : List Dat → Option Dat) (fs : Env' → W (List Dat)) : Env' → W Dat := fun E => (fs E).bind fun ds => W.of (op ds)
abbrev wIsi (T : String) (f : Env' → W Dat) : Env' → W Dat := fun E => (f E).bind fun d => W.of (isiD T d)
abbrev wIsi2 (T U : String) (f : Env' → W Dat) : Env' → W Dat := fun E => (f E).bind fun d => W.of ((tyN d).map fun n => .bl (isB n T || isB n U))
abbrev oNone : Env' → W (Option Int) := fun _ => W.ret none
abbrev oSome (f : Env' → W Dat) : Env' → W (Option Int) := fun E => (f E).bind fun d => W.of ((toI d).map some)
abbrev wSl (f : Env' → W Dat) (fl fh : Env' → W (Option Int)) : Env' → W Dat := fun E => (f E).bind fun d => (fl E).bind fun l => (fh E).bind fun u => W.of (slD d l u)
abbrev iAny (f : Env' → W Dat) : Env' → W (List Dat) := fun E => (f E).bind fun d => W.of (few (itD d))
abbrev iVal (f : Env' → W Dat) : Env' → W (List Dat) := fun E => (f E).bind fun d => W.of (few (valsD d))
abbrev iItm (f : Env' → W Dat) : Env' → W (List Dat) := fun E => (f E).bind fun d => W.of (few (itemsD d))
abbrev iArg (k : List Dat → Option (List Dat)) (fs : Env' → W (List Dat)) : Env' → W (List Dat) := fun E => (fs E).bind fun ds => W.of (few (k ds))
abbrev wLc (fi : Env' → W (List Dat)) (g : Dat → Env' → Option Env') (ft : Env' → W Bool) (fe : Env' → W Dat) (vs : List Nat) : Env' → W Dat := fun E => (fi E).bind fun ds => lcW g ft fe (wipeE E vs) ds []
section
variable {K : PySem.W.Frag} {X : Cx}
def negD : Dat → Option Dat
  | .int i => some (.int (-i))
  | _ => none
abbrev wNeg (f : Env' → W Dat) : Env' → W Dat := fun E => (f E).bind fun d => W.of (negD d)
theorem px_neg {a : Expr} {pos : Pos} {f : Env' → W Dat} (h : PX K X a f) : PX K X (.UnaryOp .USub a pos) (wNeg f) := by
  refine ⟨imp (pe_un un_neg h.pe) fun σ H Q ⟨B, O, G, E, w, eo, q⟩ => ?_, fun E => (h.mono E).bind fun _ => .of⟩
  refine ⟨B, O, G, E, w, eo, h.mono E _ _ (fun d q1 v G1 H1 t1 r1 => ?_) q⟩
  obtain ⟨d', e, q1⟩ := of_some q1
  cases r1 <;> cases e
  exact ⟨_, rfl, q1 _ G1 H1 t1 (.int _)⟩
def rM (K : PySem.W.Frag) (op : Dat → List Dat → Option Dat) : V → List V → Hp → VK → Prop := fun x xs H Q => ∃ B O G d0 ds d, Wd B O G H ∧ Rp K O G x d0 ∧ RpAll K O G xs ds ∧ op d0 ds = some d ∧ Ck K B O G H Q d
/-- the receiver's type, for a method of T -/
def rcvOk (T : String) : Dat → Bool
  | .lst _ _ => decide (T = "list")
  | .str _ => decide (T = "str")
  | _ => false
theorem tyV_of {B : Bg} {O G H : Hp} {T : String} {v : V} {d : Dat} (w : Wd B O G H) (r : Rp K O G v d) (h : rcvOk T d = true) : tyV K T v H := by
  cases r with
  | lst h1 h2 _ => exact .inl ⟨of_decide_eq_true h, _, SqL.of (w.s _ _ h1)⟩
  | str z => exact (of_decide_eq_true (p := T = "str") h : T = "str")
  | _ => cases h
abbrev wM (T : String) (op : Dat → List Dat → Option Dat) (f : Env' → W Dat) (fs : Env' → W (List Dat)) : Env' → W Dat := fun E => (f E).bind fun d0 => cnd (rcvOk T d0) ((fs E).bind fun ds => W.of (op d0 ds)) W.fail
theorem px_m {T id : String} {name : Str} {o e : Expr} {es : List Expr} {apos cpos : Pos} {op : Dat → List Dat → Option Dat} {f : Env' → W Dat} {fs : Env' → W (List Dat)} (hK : X.K = K) (pa : PlainAttrs T) (slot : Slot T name id) (hty : typeOf (.builtin id) = pure (.type "method_descriptor")) (hm : MtR X id (rM K op)) (ho : PX K X o f) (ha : PXs K X (e :: es) fs)
    (hbase : attributeBase o name X.env (eval o X.env) = eval o X.env := by rfl)
    (hfew : ((backTo cpos (starEach (e :: es) X.env)).all (fun x => !x.1) && (backToKw cpos (keywordEach [] X.env)).all (fun x => x.1.isSome)
      && decide ((e :: es).length + ([] : List Keyword).length + (if ([] : List Keyword).isEmpty then 0 else 1) < 30)) = true := by rfl)
    (hline : (apos.endLine == cpos.line) = true := by rfl) (hs : starEach (e :: es) X.env = (false, eval e X.env) :: starEach es X.env := by rfl) (hplain : (backTo cpos (starEach es X.env)).any (·.1) = false := by rfl) :
    PX K X (.Call (.Attribute o name apos) (e :: es) [] cpos) (wM T op f fs) := by
  subst hK
  refine ⟨imp (pe_bm pa slot hty hm ho.pe ha.pa hbase hfew hline hs hplain) fun σ H Q ⟨B, O, G, E, w, eo, q⟩ => ?_, fun E => (ho.mono E).bind fun _ => cnd_mono ((ha.mono E).bind fun _ => .of) .fail⟩
  refine ⟨B, O, G, E, w, eo, ho.mono E _ _ (fun d q1 v G1 H1 t1 r1 => ?_) q⟩
  have q1 : cnd (rcvOk T d) ((fs E).bind fun ds => W.of (op d ds)) W.fail (Ck X.K B O G H Q) := q1
  cases z : rcvOk T d with
  | false =>
    rw [z] at q1
    exact q1.elim
  | true =>
    rw [z] at q1
    refine ⟨tyV_of t1.w r1 z, B, O, G1, E, t1.w, eo.step t1, ha.mono E _ _ (fun ds q2 vs G2 H2 t2 r2 => ?_) q1⟩
    obtain ⟨d', e, q2⟩ := of_some q2
    exact ⟨B, O, G2, d, ds, d', t2.w, r1.mono t2.g, r2, e, Ck.step q2 (t1.trans t2)⟩
end
theorem units65 {k : Nat} {A : Around} (r : Room k A) : A.units + 65 < cLine := by have := r.un; omega
/-- the builtins are as they were -/
structure Blt (mg : Str → Option Value) : Prop where
  len : mg "len" = none
  isinstance : mg "isinstance" = none
  str : mg "str" = none
  int : mg "int" = none
  bool : mg "bool" = none
  list : mg "list" = none
  tuple : mg "tuple" = none
  dict : mg "dict" = none
  set : mg "set" = none
  all : mg "all" = none
  any : mg "any" = none
  max : mg "max" = none
  min : mg "min" = none
  sum : mg "sum" = none
  sorted : mg "sorted" = none
  range : mg "range" = none
  enumerate : mg "enumerate" = none
  zip : mg "zip" = none
  repr : mg "repr" = none
  abs : mg "abs" = none
/-- a def as its callers need it -/
structure Fnc (P : Program) (w : World) (K : PySem.W.Frag) (mg : Str → Option Value) (base : Heap) (x : Str) (k : Nat) (ps : List Str) (p : List Ar → W Dat) (f : Addr) (fd : FuncData) : Prop where
  G : FnW P w K mg base k f fd ps p
  b : Binds K fd ps []
  m : mg x = some (.ref f)
  k : PySem.W.keepIn K (.ref f) = true
end EW
set_option Elab.async false
set_option linter.all false
set_option maxRecDepth 100000
set_option maxHeartbeats 4000000
namespace ES
open PySem PySem.Spec PyProof.Rows L2
def keyT (p : Int × Value) : Str := match p.2 with
  | .str x _ => x
  | _ => Str.empty
def GoodT (w : World) (p : Int × Value) : Prop := ∃ x t, p.2 = Value.str x t ∧ p.1 = hashStr w x
/-- the set of texts at a: S tells its members, n their number -/
def SetT (w : World) (h : Heap) (a : Addr) (S : Str → Bool) (n : Nat) : Prop := ∃ ob es ep tb, h.get? a = some ob ∧ ob.ExactSet ∧ ob.data = .set es ep tb ∧ (∀ p ∈ es.toList, GoodT w p) ∧
  (es.toList.map keyT).Nodup ∧ (∀ x, S x = true ↔ x ∈ es.toList.map keyT) ∧ es.size < scanBound ∧ tb.fits es.size = true ∧ es.size = n ∧ Ris tb.place.toList ∧ (w.params.followText "set-order" = true ∨ tb.led = true)
section
variable {P : Program} {w : World} {h h' : Heap} {a : Addr} {S : Str → Bool} {n : Nat}
theorem SetT.at (R : SetT w h a S n) (k : ∀ o, h.get? a = some o → h'.get? a = some o) : SetT w h' a S n := by
  obtain ⟨ob, es, ep, tb, ho, r⟩ := R
  exact ⟨ob, es, ep, tb, k ob ho, r⟩
end
end ES
set_option Elab.async false
set_option linter.all false
set_option maxRecDepth 100000
set_option maxHeartbeats 4000000
set_option Elab.async false
set_option linter.all false
set_option maxRecDepth 100000
set_option maxHeartbeats 4000000
set_option Elab.async false
set_option linter.all false
set_option maxRecDepth 100000
set_option maxHeartbeats 4000000
set_option Elab.async false
set_option linter.all false
set_option maxRecDepth 100000
set_option maxHeartbeats 4000000
set_option Elab.async false
set_option linter.all false
set_option maxRecDepth 100000
set_option maxHeartbeats 4000000
set_option Elab.async false
set_option linter.all false
set_option maxRecDepth 100000
set_option maxHeartbeats 4000000
namespace EW
open PySem PySem.Spec PyProof.Rows L2 EG EM
section
variable {K : PySem.W.Frag} {X : Cx}
/-- the first place of y -/
def idxF (y : Dat) : List Dat → Option Nat
  | [] => none
  | d :: ds => if eqF d y = true then some 0 else (idxF y ds).map (· + 1)
theorem idxF_some {y : Dat} : ∀ {ds : List Dat} {j : Nat}, idxF y ds = some j → (∃ d, ds[j]? = some d ∧ eqF d y = true) ∧ ∀ m d', m < j → ds[m]? = some d' → eqF d' y = false
  | [], _, h => by cases h
  | d :: ds, j, h => by
    unfold idxF at h
    split at h
    · rename_i e
      cases h
      exact ⟨⟨d, rfl, e⟩, fun m d' hm _ => absurd hm (Nat.not_lt_zero _)⟩
    · rename_i e
      obtain ⟨k, ek, rfl⟩ := Option.map_eq_some_iff.mp h
      obtain ⟨⟨d1, h1, h2⟩, h3⟩ := idxF_some ek
      refine ⟨⟨d1, by simpa using h1, h2⟩, fun m d' hm hd => ?_⟩
      cases m with
      | zero =>
        simp at hd
        subst hd
        simpa using e
      | succ m => exact h3 m d' (by omega) (by simpa using hd)
theorem takesF : Takes X (fun _ _ _ _ => False) := fun _ _ ⟨_, _, _, _, _, _, _, _, _, _, _, _, _, _, _, _, w⟩ => w.elim
def sindexD : Dat → List Dat → Option Dat
  | .str a, [.str b] => (Txt.index0 a b).map fun k => .int (k : Nat)
  | _, _ => none
theorem mtw_sindex (hc : X.calm = true) : MtR X "str.index" (rM X.K sindexD) := by
  intro pins s σ H x xs v us Q I rx rxs h
  obtain ⟨B, O, G, d0, ds, d, w, r0, rs, e, q⟩ := h
  match d0, ds, r0, rs, e with
  | .str a, [.str b], r0, rs, e =>
    obtain ⟨y, rfl, ry⟩ := one_inv rs
    cases ry
    cases r0
    obtain ⟨k, e1, rfl⟩ := Option.map_eq_some_iff.mp e
    exact mt_indexX hc takesF pins s σ H _ _ v us Q I rx rxs ⟨a, b, rfl, rfl, fun k' hk => by rw [e1] at hk; cases hk; exact Ck.now q w (.int _), fun hn => by rw [e1] at hn; cases hn⟩
def splitD : Dat → List Dat → Option Dat
  | .str a, [.str b] => if (b.length == 0) = false ∧ a.length + 2 ≤ sizeLine then some (.lst true ((Txt.split a b).map .str)) else none
  | _, _ => none
theorem mtw_split : MtR X "str.split" (rM X.K splitD) := by
  intro pins s σ H x xs v us Q I rx rxs h
  obtain ⟨B, O, G, d0, ds, d, w, r0, rs, e, q⟩ := h
  match d0, ds, r0, rs, e with
  | .str a, [.str b], r0, rs, e =>
    obtain ⟨y, rfl, ry⟩ := one_inv rs
    cases ry
    cases r0
    simp only [splitD] at e
    split at e
    · rename_i hz
      cases e
      exact mt_split pins s σ H _ _ v us Q I rx rxs ⟨a, b, rfl, rfl, hz.1, hz.2, fun p hp => q _ _ _ (w.ice hp) (.lst upd_same (.strs _) fun _ => w.old _ hp)⟩
    · cases e
def joinD : Dat → List Dat → Option Dat
  | .str a, [.lst _ ds] => (strsD ds).bind fun ys => if (ys.map (·.length)).sum + ys.length * a.length ≤ 16777216 then some (.str (Txt.join a ys)) else none
  | _, _ => none
theorem mtw_join : MtR X "str.join" (rM X.K joinD) := by
  intro pins s σ H x xs v us Q I rx rxs h
  obtain ⟨B, O, G, d0, ds, d, w, r0, rs, e, q⟩ := h
  match d0, ds, r0, rs, e with
  | .str a, [.lst _ ds], r0, rs, e =>
    obtain ⟨y, rfl, ry⟩ := one_inv rs
    cases r0
    obtain ⟨ys, e1, e⟩ := Option.bind_eq_some_iff.mp e
    cases ry with
    | lst h1 h2 _ =>
      have hv := strs_of h2 e1
      subst hv
      split at e
      · rename_i hz
        cases e
        exact mt_join pins s σ H _ _ v us Q I rx rxs ⟨a, _, ys, rfl, rfl, .inl (SqL.of (w.s _ _ h1)), hz, Ck.now q w (.str _)⟩
      · cases e
def startsD : Dat → List Dat → Option Dat
  | .str a, [.str b] => some (.bl (Txt.startswith a b))
  | _, _ => none
theorem mtw_starts : MtR X "str.startswith" (rM X.K startsD) := by
  intro pins s σ H x xs v us Q I rx rxs h
  obtain ⟨B, O, G, d0, ds, d, w, r0, rs, e, q⟩ := h
  match d0, ds, r0, rs, e with
  | .str a, [.str b], r0, rs, e =>
    obtain ⟨y, rfl, ry⟩ := one_inv rs
    cases ry
    cases r0
    cases e
    exact mt_startswith pins s σ H _ _ v us Q I rx rxs ⟨a, b, rfl, rfl, Ck.now q w (.bl _)⟩
def lensetD : Dat → Option Dat
  | .lst _ ds => (strsD ds).bind fun xs => if xs.length ≤ 60 ∧ xs.Nodup then some (.int xs.length) else none
  | _ => none
abbrev wLenSet (f : Env' → W Dat) : Env' → W Dat := fun E => (f E).bind fun d => W.of (lensetD d)
theorem ep_lock {pins : List (Addr × Obj)} {σ : L2.St} {u : Value} {s : Shared} {Q : VK} (h : EP X pins σ (fun v H' => ∃ d o, v = .ref d ∧ H' d = some o ∧ Mut (some o) ∧ ∀ od, Q v (upd H' d (.frz od o))) u s) : EP X pins σ Q u s := by
  obtain ⟨v, H', I, r, d, o, rfl, hd, mu, q⟩ := h
  obtain ⟨od, I1⟩ := I.lock hd mu
  exact ⟨_, _, I1, r, q od⟩
theorem pe_lockNew {e : Expr} {t : TE} (h : PE X e t) : PE X e (fun σ H Q => t σ H fun v H' => ∃ d o, v = .ref d ∧ H' d = some o ∧ Mut (some o) ∧ ∀ od, Q v (upd H' d (.frz od o))) :=
  ⟨fun pins s σ H Q I q => thn (h.run pins s σ H _ I q) fun u s' z => ep_lock z⟩
/-- a dict that was just made is from now on what stays -/
theorem dct_new {B : Bg} {O G H G1 H1 : Hp} {Q : VK} {p : Addr} {kvs : List (Key × V)} {es : List (Key × Dat)} (q : Ck K B O G H Q (.dct true es)) (t1 : Stp B O G H G1 H1) (hp : H1 p = none) (h1 : kvs.map (·.1) = es.map (·.1)) (h2 : RpAll K O G1 (kvs.map (·.2)) (es.map (·.2))) :
    ∃ d o, V.ref p = .ref d ∧ upd H1 p (.dK kvs) d = some o ∧ Mut (some o) ∧ ∀ od, Q (.ref p) (upd (upd H1 p (.dK kvs)) d (.frz od o)) := by
  refine ⟨p, .dK kvs, rfl, upd_same, trivial, fun od => ?_⟩
  rw [upd_upd]
  have t2 := t1.w.ice (o := .frz od (.dK kvs)) hp
  exact q _ _ _ (t1.trans t2) (.dct upd_same h1 (h2.mono t2.g) fun _ => t1.w.old _ hp)
abbrev wD0 : Env' → W Dat := fun _ => W.ret (.dct true [])
theorem px_d0 {pos : Pos} : PX K X (.Dict [] [] pos) wD0 := by
  refine ⟨imp (pe_lockNew pe_dnewK) fun σ H Q ⟨B, O, G, E, w, eo, q⟩ p hp => ?_, fun E => .ret⟩
  exact dct_new q w.refl hp rfl .nil
/-- merged one by one -/
def mergeD (es more : List (Key × Dat)) : List (Key × Dat) := more.foldl (fun acc kv => putD acc kv.1 kv.2) es
theorem merge_of {O G : Hp} : ∀ {more : List (Key × V)} {md : List (Key × Dat)} {kvs : List (Key × V)} {es : List (Key × Dat)}, more.map (·.1) = md.map (·.1) → RpAll K O G (more.map (·.2)) (md.map (·.2)) → kvs.map (·.1) = es.map (·.1) → RpAll K O G (kvs.map (·.2)) (es.map (·.2)) →
    (mergeK kvs more).map (·.1) = (mergeD es md).map (·.1) ∧ RpAll K O G ((mergeK kvs more).map (·.2)) ((mergeD es md).map (·.2))
  | [], [], _, _, _, _, h1, h2 => ⟨h1, h2⟩
  | [], _ :: _, _, _, h, _, _, _ => by cases h
  | _ :: _, [], _, _, h, _, _, _ => by cases h
  | p :: more, q :: md, kvs, es, h, r, h1, h2 => by
    injection h with a1 a2
    have a1' : p.1 = q.1 := a1
    cases r with
    | cons r1 r2 =>
      obtain ⟨b1, b2⟩ := put_of (k := p.1) r1 h1 h2
      have := merge_of (more := more) (md := md) (kvs := putK kvs p.1 p.2) (es := putD es p.1 q.2) a2 r2 b1 b2
      show (mergeK (putK kvs p.1 p.2) more).map (·.1) = (mergeD (putD es q.1 q.2) md).map (·.1) ∧ RpAll K O G ((mergeK (putK kvs p.1 p.2) more).map (·.2)) ((mergeD (putD es q.1 q.2) md).map (·.2))
      rw [← a1']
      exact this
def truD : Dat → Option Bool
  | .non => some false
  | .bl b => some b
  | .int i => some (i != 0)
  | .lst _ ds => some !ds.isEmpty
  | .tup ds => some !ds.isEmpty
  | _ => none
abbrev wOrT (f g : Env' → W Dat) : Env' → W Dat := fun E => (f E).bind fun d => (W.of (truD d)).bind fun k => cnd k (W.ret d) (g E)
end
end EW
set_option Elab.async false
set_option linter.all false
set_option maxRecDepth 100000
set_option maxHeartbeats 4000000
namespace EW
open PySem PySem.Spec PyProof.Rows L2 EG EM
section
variable {K : PySem.W.Frag} {X : Cx}
theorem pq_lc {i : Nat} {y : Str} {py : Pos} {elt tg iter : Expr} {ifs : List Expr} {scope : Scope} {own : List (Str × Nat)} {pos spos : Pos} {fi : Env' → W (List Dat)} {js : List Nat} {tg' : TG} {g : Dat → Env' → Option Env'} {ft : Env' → W Bool} {fe : Env' → W Dat} (hc : X.calm = true) (hN : X.N.Nodup) (hy : X.N[i]? = some y) (hyl : X.env.scope.names.lookup y = some .local)
    (hsw : swapsWith (.ListComp elt [⟨tg, iter, ifs, 0⟩] scope pos) (some (.Name y py)) spos.line X.env = pure true) (hi : PIW K X tg iter fi) (ok : BlkOk X.N X.env.scope scope own)
    (hg : ∀ (s : Shared) (H : Hp) (C : Addr) (cl : List (Str × Addr)) (fp : List Addr), PGW K (X.blk s H scope (compEnvC scope cl C X.env) fp) tg js tg' g)
    (ht : ∀ (s : Shared) (H : Hp) (C : Addr) (cl : List (Str × Addr)) (fp : List Addr), PBs K (X.blk s H scope (compEnvC scope cl C X.env) fp) ifs ft)
    (he : ∀ (s : Shared) (H : Hp) (C : Addr) (cl : List (Str × Addr)) (fp : List Addr), PX K (X.blk s H scope (compEnvC scope cl C X.env) fp) elt fe) (hjs : ∀ j ∈ js, j ∈ own.map (·.2)) (hs : ∀ x, foldedSetIterable iter X.env x = pure x := by intro _; rfl) :
    PQ K X (.Assign [.Name y py] (.ListComp elt [⟨tg, iter, ifs, 0⟩] scope pos) spos) (sSet i (nDat (wLc fi g ft fe (own.map (·.2))))) := by
  refine pq_setLc ⟨_, ps_setLc hc hN hy hyl hsw hi.pi ok (fun a b c d e => (hg a b c d e).pg) (fun a b c d e => (ht a b c d e).pts) (fun a b c d e => (he a b c d e).pe) hs, ?_⟩ (px_lc hc hN hi ok hg ht he hjs hs (pos := pos)).mono
  exact lc_red hi hg ht he hjs
def sPar (i j : Nat) (f g : Env' → W Sl) : WS := fun E k => f E fun s => g E fun s' => k.nx ((E.set i s).set j s')
theorem sPar_mono {i j : Nat} {f g : Env' → W Sl} (mf : ∀ E, W.Mono (f E)) (mg : ∀ E, W.Mono (g E)) : MonoS (sPar i j f g) := fun E k k' l q => mf E _ _ (fun s q => mg E _ _ (fun s' q => l.nx _ q) q) q
/-- two new things, one after the other, go to two slots -/
theorem par_env {B : Bg} {O G0 G H G1 H1 G2 H2 : Hp} {σ : L2.St} {E : Env'} {i j : Nat} {v u : V} {s s' : Sl} (hij : i ≠ j) (t : Stp B O G0 O G H) (eo : EnvOk K B O G H σ E) (t1 : Stp B O G H G1 H1) (n1 : NwOk K B O H G1 H1 v s) (t2 : Stp B O G1 H1 G2 H2) (n2 : NwOk K B O H1 G2 H2 u s') :
    EnvOk K B O G2 H2 ((σ.set i (some v)).set j (some u)) ((E.set i s).set j s') := by
  obtain ⟨S1, a1, b1⟩ := n1
  obtain ⟨S2, a2, b2⟩ := n2
  exact (eo.put t1 a1 b1).put t2 a2 b2
theorem pq_par {i j : Nat} {x y : Str} {a b : Expr} {px py pt pos : Pos} {kt k2 pt2} {f g : Env' → W Sl} (hc : X.calm = true) (hN : X.N.Nodup) (hi : X.N[i]? = some x) (hj : X.N[j]? = some y) (hij : i ≠ j)
    (hx : X.env.scope.names.lookup x = some .local) (hy : X.env.scope.names.lookup y = some .local) (ha : PN K X a f) (hb : PN K X b g)
    (hw : swappedStores [.Tuple [.Name x px, .Name y py] kt pt] (.Tuple [a, b] k2 pt2) X.env = pure (some [x, y]))
    (hs : swapsWithSole [.Tuple [.Name x px, .Name y py] kt pt] (.Tuple [a, b] k2 pt2) pos.line X.env = pure false := by rfl)
    (hst : starEach [a, b] X.env = (false, eval a X.env) :: starEach [b] X.env := by rfl) (hst2 : starEach [b] X.env = (false, eval b X.env) :: starEach [] X.env := by rfl) :
    PQ K X (.Assign [.Tuple [.Name x px, .Name y py] kt pt] (.Tuple [a, b] k2 pt2) pos) (sPar i j f g) := by
  refine ⟨fun Wx tk => impS (ps_par hc hN hi hj hij hx hy (pa_cons ha.pe (pa_cons hb.pe pa_nil hst2) hst) hw hs) fun D σ H ⟨B, G0, O, G, E, t, eo, q⟩ => ?_, sPar_mono ha.mono hb.mono⟩
  refine ⟨B, O, G, E, t.w, eo, ha.mono E _ _ (fun s q1 v G1 H1 t1 n1 => ?_) q⟩
  refine ⟨B, O, G1, E, t1.w, eo.step t1, hb.mono E _ _ (fun s' q2 u G2 H2 t2 n2 => ?_) q1⟩
  exact ⟨v, u, rfl, q2 _ G2 H2 (t1.g.trans t2.g) (t.trans (t1.trans t2)) (par_env hij t eo t1 n1 t2 n2)⟩
/-- .. where a name is a cell: by a tuple -/
theorem pq_parT {i j : Nat} {x y : Str} {a b : Expr} {px py pt pos : Pos} {kt k2 pt2} {f g : Env' → W Sl} (hK : X.K = K) (hc : X.calm = true) (hN : X.N.Nodup) (hi : X.N[i]? = some x) (hx : L2.Loc X.env.scope x) (hj : X.N[j]? = some y) (hy : L2.Loc X.env.scope y) (hij : i ≠ j) (ha : PN K X a f) (hb : PN K X b g)
    (hf : X.fn x = true ∨ X.env.scope.names.lookup x = some .local := by first | exact .inl rfl | exact .inr rfl | assumption) (hf2 : X.fn y = true ∨ X.env.scope.names.lookup y = some .local := by first | exact .inl rfl | exact .inr rfl | assumption)
    (hn : (assignEach [.Name x px, .Name y py] X.env).length = 2 := by rfl) (hst0 : (assignEach [.Name x px, .Name y py] X.env).findIdx? (·.1) = none := by rfl)
    (hs1 : (assignEach [.Name x px, .Name y py] X.env).map (·.2) = assign (.Name x px) X.env :: (assignEach [.Name y py] X.env).map (·.2) := by rfl) (hs2 : (assignEach [.Name y py] X.env).map (·.2) = assign (.Name y py) X.env :: (assignEach [] X.env).map (·.2) := by rfl)
    (hst : starEach [a, b] X.env = (false, eval a X.env) :: starEach [b] X.env := by rfl) (hst2 : starEach [b] X.env = (false, eval b X.env) :: starEach [] X.env := by rfl)
    (hs : swapsWithSole [.Tuple [.Name x px, .Name y py] kt pt] (.Tuple [a, b] k2 pt2) pos.line X.env = pure false := by rfl) (hw : swappedStores [.Tuple [.Name x px, .Name y py] kt pt] (.Tuple [a, b] k2 pt2) X.env = pure none := by rfl)
    (h1 : (assignEach [.Tuple [.Name x px, .Name y py] kt pt] X.env).map (·.2) = [assign (.Tuple [.Name x px, .Name y py] kt pt) X.env] := by rfl) :
    PQ K X (.Assign [.Tuple [.Name x px, .Name y py] kt pt] (.Tuple [a, b] k2 pt2) pos) (sPar i j f g) := by
  subst hK
  refine ⟨fun Wx tk => impS (ps_asg (pe_tup (pa_cons ha.pe (pa_cons hb.pe pa_nil hst2) hst)) (pg_tup hc (pgs_cons (pg_name hN hi hx hf) (pgs_cons (pg_name hN hj hy hf2) pgs_nil hs2) hs1) hn hst0) hs hw h1) fun D σ H ⟨B, G0, O, G, E, t, eo, q⟩ => ?_, sPar_mono ha.mono hb.mono⟩
  refine ⟨B, O, G, E, t.w, eo, ha.mono E _ _ (fun s q1 v G1 H1 t1 n1 => ?_) q⟩
  refine ⟨B, O, G1, E, t1.w, eo.step t1, hb.mono E _ _ (fun s' q2 u G2 H2 t2 n2 => ?_) q1⟩
  refine ⟨by show 2 ≤ sizeLine; decide, fun p hp => ⟨p, _, rfl, SqT.of upd_same, rfl, _, _, rfl, _, _, rfl, rfl, ?_⟩⟩
  have t3 := t2.w.wet (o := .tup [v, u]) hp
  exact q2 _ G2 _ ((t1.g.trans t2.g).trans t3.g) (t.trans ((t1.trans t2).trans t3)) ((par_env hij t eo t1 n1 t2 n2).step t3)
def neED : Dat → Dat → Option Dat
  | .dct _ es, .dct _ [] => some (.bl (!es.isEmpty))
  | d, e => neD d e
end
end EW
set_option Elab.async false
set_option linter.all false
set_option maxRecDepth 100000
set_option maxHeartbeats 4000000
namespace EW
open PySem PySem.Spec PyProof.Rows L2 EG EM
section
variable {K : PySem.W.Frag} {X : Cx}
/-- without p -/
def less (G : Hp) (p : Addr) : Hp := fun a => if a = p then none else G a
theorem less_ne {G : Hp} {p a : Addr} (h : a ≠ p) : less G p a = G a := by unfold less; rw [if_neg h]
theorem less_self {G : Hp} {p : Addr} : less G p p = none := by unfold less; rw [if_pos rfl]
theorem less_some {G : Hp} {p a : Addr} {o : HO} (h : less G p a = some o) : a ≠ p ∧ G a = some o := by
  by_cases z : a = p
  · rw [z, less_self] at h
    cases h
  · rw [less_ne z] at h
    exact ⟨z, h⟩
/-- a step that was made while p stood fast -/
theorem Stp.back {B : Bg} {O G H G1 H1 : Hp} {p : Addr} {o : HO} (t : Stp B O (upd G p o) H G1 H1) (gp : G p = none) (w : Wd B O G H) (np : NotB B p) : Stp B O G H (less G1 p) H1 := by
  refine ⟨fun a u e => ?_, ⟨fun a u e => t.w.s _ _ (less_some e).2, t.w.old, fun b l e => ?_⟩, t.keep, fun a h1 h2 => ?_⟩
  · have ne : a ≠ p := ne_of_none e gp
    rw [less_ne ne]
    exact t.g _ _ (by rw [upd_ne ne]; exact e)
  · obtain ⟨h1, ⟨u, h2⟩, h3⟩ := t.w.bag b l e
    have nb : b ≠ p := fun z => np b l e z.symm
    obtain ⟨_, ⟨u', g2⟩, _⟩ := w.bag b l e
    have nl : l ≠ p := ne_of_none g2 gp
    exact ⟨by rw [less_ne nb]; exact h1, ⟨u, by rw [less_ne nl]; exact h2⟩, h3⟩
  · by_cases z : a = p
    · rw [z]
      exact less_self
    · rw [less_ne z]
      exact t.new a (by rw [upd_ne z]; exact h1) h2
def flatO (d : Dat) : Option Dat := if flatD d = true then some d else none
abbrev wBor (i : Nat) (f : Env' → W Dat) : Env' → W Dat := fun E => (W.of (ownL E i)).bind fun ds => (f (E.set i (.dat (.lst true ds)))).bind fun r => W.of (flatO r)
abbrev bBor (i : Nat) (f : Env' → W Bool) : Env' → W Bool := fun E => (W.of (ownL E i)).bind fun ds => f (E.set i (.dat (.lst true ds)))
theorem pb_bor {i : Nat} {e : Expr} {f : Env' → W Bool} (h : PB K X e f) : PB K X e (bBor i f) := by
  refine ⟨impT h.pt fun σ H Q ⟨B, O, G, E, w, eo, q⟩ => ?_, fun E => W.Mono.of.bind fun _ => h.mono _⟩
  obtain ⟨ds, e1, q⟩ := of_some q
  have e1 := ownL_some e1
  obtain ⟨p, vs, s1, a1, a2, a3, a4, a5⟩ := own_at eo e1
  have w1 : Wd B O (upd G p (.lst vs)) H := w.freeze a4 a3 a2
  refine ⟨B, O, upd G p (.lst vs), _, w1, eo.frz e1 s1 a2 (fun _ _ => rfl) (.lst upd_same (a5.mono (same_new (Same.refl _) a2)) fun _ => a1), h.mono _ _ _ (fun b q1 G' H' t => ?_) q⟩
  exact q1 (less G' p) H' (t.back a2 w a3)
end
end EW
set_option Elab.async false
set_option linter.all false
set_option maxRecDepth 100000
set_option maxHeartbeats 4000000
namespace EW
open PySem PySem.Spec PyProof.Rows L2 EG EM
section
variable {α β : Type} {E : Env'} {f g fa fb fc : Env' → W Dat} {fs : Env' → W (List Dat)} {ft ft' : Env' → W Bool} {as : Env' → W (List Ar)} {Q : Dat → Prop} {Qs : List Dat → Prop} {Qb : Bool → Prop} {Qa : List Ar → Prop} {k : Kn} {F G : WS}
@[simp ↓] theorem ret_ap {a : α} {Q : α → Prop} : W.ret a Q = Q a := id rfl
@[simp ↓] theorem bind_ap {m : W α} {k : α → W β} {Q : β → Prop} : W.bind m k Q = m fun a => k a Q := id rfl
@[simp ↓] theorem of_some_ap {a : α} {Q : α → Prop} : W.of (some a) Q = Q a := id rfl
@[simp ↓] theorem of_none_ap {Q : α → Prop} : W.of (none : Option α) Q = False := id rfl
@[simp ↓] theorem fail_ap {Q : α → Prop} : (W.fail : W α) Q = False := id rfl
@[simp ↓] theorem cnd_t {m n : W α} : cnd true m n = m := id rfl
@[simp ↓] theorem cnd_f {m n : W α} : cnd false m n = n := id rfl
@[simp ↓] theorem sSeq_ap : sSeq F G E k = F E { k with nx := fun E' => G E' k } := id rfl
@[simp ↓] theorem sRet_ap : sRet f E k = f E fun d => k.rt E (.dat d) := id rfl
@[simp ↓] theorem sRetN_ap : sRetN E k = k.rt E (.dat .non) := id rfl
@[simp ↓] theorem sNil_ap : sNil E k = k.nx E := id rfl
@[simp ↓] theorem sIf_ap : sIf ft F G E k = ft E fun b => cond b (F E k) (G E k) := by
  unfold sIf
  congr 1
@[simp ↓] theorem cond_t {P Q : Prop} : cond true P Q = P := id rfl
@[simp ↓] theorem cond_f {P Q : Prop} : cond false P Q = Q := id rfl
@[simp ↓] theorem sSet_ap {i : Nat} {fn : Env' → W Sl} : sSet i fn E k = fn E fun s => k.nx (E.set i s) := id rfl
@[simp ↓] theorem sAsg_ap {gg : Dat → Env' → Option Env'} : sAsg gg f E k = f E fun d => W.of (gg d E) k.nx := id rfl
@[simp ↓] theorem sPar_ap {i j : Nat} {fn gn : Env' → W Sl} : sPar i j fn gn E k = fn E fun s => gn E fun s' => k.nx ((E.set i s).set j s') := id rfl
@[simp ↓] theorem nDat_ap {Q : Sl → Prop} : nDat f E Q = f E fun d => Q (.dat d) := id rfl
@[simp ↓] theorem nLst_ap {Q : Sl → Prop} : nLst fs E Q = fs E fun ds => W.of (mkL ds) fun d => Q (.own d) := id rfl
@[simp ↓] theorem nDict_ap {Q : Sl → Prop} : nDict E Q = Q (.own (.dct true [])) := id rfl
@[simp ↓] theorem sApp_ap {i : Nat} : sApp i f E k = W.of (ownL E i) fun ds => f E fun d => ds.length < sizeLine ∧ k.nx (E.set i (.own (.lst true (ds ++ [d])))) := id rfl
@[simp ↓] theorem sPut_ap {i : Nat} : sPut i fa f E k = W.of (ownD E i) fun es => f E fun d => fa E fun kd => W.of (keyD kd) fun key => es.length < sizeLine ∧ k.nx (E.set i (.own (.dct true (putD es key d)))) := id rfl
@[simp ↓] theorem sFrz_ap {i : Nat} : sFrz i F E k = W.of (ownAt E i) fun d => F (E.set i (.dat d)) k := id rfl
@[simp ↓] theorem sFor_ap {fi : Env' → W (List Dat)} {gg : Dat → Env' → Option Env'} : sFor fi gg F E k = fi E fun ds => loopW gg F ds E k := id rfl
@[simp ↓] theorem wC_ap {d : Dat} : wC d E Q = Q d := id rfl
@[simp ↓] theorem wV_ap {i : Nat} : wV i E Q = W.of (datAt E i) Q := id rfl
@[simp ↓] theorem wNil_ap : wNil E Qs = Qs [] := id rfl
@[simp ↓] theorem wCons_ap : wCons f fs E Qs = f E fun d => fs E fun ds => Qs (d :: ds) := id rfl
@[simp ↓] theorem wLst_ap : wLst fs E Q = fs E fun ds => W.of (mkL ds) Q := id rfl
@[simp ↓] theorem wTup_ap : wTup fs E Q = fs E fun ds => W.of (mkT ds) Q := id rfl
@[simp ↓] theorem wOp_ap {o : Dat → Dat → Option Dat} : wOp o fa fb E Q = fa E fun x => fb E fun y => W.of (o x y) Q := id rfl
@[simp ↓] theorem bOp_ap {o : Dat → Dat → Option Dat} : bOp o fa fb E Qb = fa E fun x => fb E fun y => W.of ((o x y).bind toB) Qb := id rfl
@[simp ↓] theorem bVal_ap : bVal f E Qb = f E fun d => W.of (toB d) Qb := id rfl
@[simp ↓] theorem bNot_ap : bNot ft E Qb = ft E fun b => Qb (!b) := id rfl
@[simp ↓] theorem bAnd_ap : bAnd ft ft' E Qb = ft E fun c => cnd c (ft' E) (W.ret false) Qb := id rfl
@[simp ↓] theorem bOr_ap : bOr ft ft' E Qb = ft E fun c => cnd c (W.ret true) (ft' E) Qb := id rfl
@[simp ↓] theorem bYes_ap : bYes E Qb = Qb true := id rfl
@[simp ↓] theorem bChain_ap {o o' : Dat → Dat → Option Dat} : bChain o o' fa fb fc E Qb = fa E fun x => fb E fun y => W.of ((o x y).bind toB) fun k => cnd k ((fc E).bind fun z => W.of ((o' y z).bind toB)) (W.ret false) Qb := id rfl
@[simp ↓] theorem wAnd_ap : wAnd f g E Q = f E fun d => W.of (toB d) fun c => cnd c (g E) (W.ret (.bl false)) Q := id rfl
@[simp ↓] theorem wOr_ap : wOr f g E Q = f E fun d => W.of (toB d) fun c => cnd c (W.ret (.bl true)) (g E) Q := id rfl
@[simp ↓] theorem wOrT_ap : wOrT f g E Q = f E fun d => W.of (truD d) fun c => cnd c (W.ret d) (g E) Q := id rfl
@[simp ↓] theorem wNot_ap : wNot f E Q = f E fun d => W.of (toB d) fun c => Q (.bl (!c)) := id rfl
@[simp ↓] theorem wNeg_ap : wNeg f E Q = f E fun d => W.of (negD d) Q := id rfl
@[simp ↓] theorem wIf_ap : wIf ft f g E Q = ft E fun c => cnd c (f E) (g E) Q := id rfl
@[simp ↓] theorem wB_ap {op : List Dat → Option Dat} : wB op fs E Q = fs E fun ds => W.of (op ds) Q := id rfl
@[simp ↓] theorem wIsi_ap {T : String} : wIsi T f E Q = f E fun d => W.of (isiD T d) Q := id rfl
@[simp ↓] theorem wIsi2_ap {T U : String} : wIsi2 T U f E Q = f E fun d => W.of ((tyN d).map fun n => .bl (isB n T || isB n U)) Q := id rfl
@[simp ↓] theorem oNone_ap {Q : Option Int → Prop} : oNone E Q = Q none := id rfl
@[simp ↓] theorem oSome_ap {Q : Option Int → Prop} : oSome f E Q = f E fun d => W.of ((toI d).map some) Q := id rfl
@[simp ↓] theorem wSl_ap {fl fh : Env' → W (Option Int)} : wSl f fl fh E Q = f E fun d => fl E fun l => fh E fun u => W.of (slD d l u) Q := id rfl
@[simp ↓] theorem iAny_ap : iAny f E Qs = f E fun d => W.of (few (itD d)) Qs := id rfl
@[simp ↓] theorem iVal_ap : iVal f E Qs = f E fun d => W.of (few (valsD d)) Qs := id rfl
@[simp ↓] theorem iItm_ap : iItm f E Qs = f E fun d => W.of (few (itemsD d)) Qs := id rfl
@[simp ↓] theorem iArg_ap {kk : List Dat → Option (List Dat)} : iArg kk fs E Qs = fs E fun ds => W.of (few (kk ds)) Qs := id rfl
@[simp ↓] theorem wLc_ap {fi : Env' → W (List Dat)} {gg : Dat → Env' → Option Env'} {vs : List Nat} : wLc fi gg ft f vs E Q = fi E fun ds => lcW gg ft f (wipeE E vs) ds [] Q := id rfl
@[simp ↓] theorem wM_ap {T : String} {op : Dat → List Dat → Option Dat} : wM T op f fs E Q = f E fun d0 => cnd (rcvOk T d0) ((fs E).bind fun ds => W.of (op d0 ds)) W.fail Q := id rfl
@[simp ↓] theorem wLenSet_ap : wLenSet f E Q = f E fun d => W.of (lensetD d) Q := id rfl
@[simp ↓] theorem wD0_ap : wD0 E Q = Q (.dct true []) := id rfl
@[simp ↓] theorem wBor_ap {i : Nat} : wBor i f E Q = W.of (ownL E i) fun ds => f (E.set i (.dat (.lst true ds))) fun r => W.of (flatO r) Q := id rfl
@[simp ↓] theorem bBor_ap {i : Nat} : bBor i ft E Qb = W.of (ownL E i) fun ds => ft (E.set i (.dat (.lst true ds))) Qb := id rfl
@[simp ↓] theorem aNil_ap : aNil E Qa = Qa [] := id rfl
@[simp ↓] theorem aDat_ap : aDat f as E Qa = f E fun d => as E fun r => Qa (.dat d :: r) := id rfl
@[simp ↓] theorem aBag_ap {i : Nat} : aBag i as E Qa = W.of (isBag E i) fun _ => as E fun r => Qa (.bag :: r) := id rfl
@[simp ↓] theorem wCall_ap {p : List Ar → W Dat} : wCall p as E Q = as E fun r => up (p (r.map Ar.old)) Q := id rfl
@[simp ↓] theorem defW_ap {m : Nat} {as : List Ar} : defW m F as Q = F (startE m as) ⟨fun _ => Q .non, fun _ s => onDat Q s, fun _ => False, fun _ => False, fun _ _ _ => False⟩ := id rfl
@[simp ↓] theorem onDat_ap {d : Dat} : onDat Q (.dat d) = Q d := id rfl
end
@[simp] theorem datAt_0 {d : Dat} {E : Env'} : datAt (.dat d :: E) 0 = some d := rfl
@[simp] theorem datAt_s {s : Sl} {E : Env'} {n : Nat} : datAt (s :: E) (n + 1) = datAt E n := rfl
@[simp] theorem ownAt_0 {d : Dat} {E : Env'} : ownAt (.own d :: E) 0 = some d := rfl
@[simp] theorem ownAt_s {s : Sl} {E : Env'} {n : Nat} : ownAt (s :: E) (n + 1) = ownAt E n := rfl
@[simp] theorem ownL_0 {d : List Dat} {E : Env'} : ownL (.own (.lst true d) :: E) 0 = some d := rfl
@[simp] theorem ownL_s {s : Sl} {E : Env'} {n : Nat} : ownL (s :: E) (n + 1) = ownL E n := rfl
@[simp] theorem ownD_0 {d : List (Key × Dat)} {E : Env'} : ownD (.own (.dct true d) :: E) 0 = some d := rfl
@[simp] theorem ownD_s {s : Sl} {E : Env'} {n : Nat} : ownD (s :: E) (n + 1) = ownD E n := rfl
@[simp] theorem isBag_0 {E : Env'} : isBag (.bag :: E) 0 = some () := rfl
@[simp] theorem isBag_s {s : Sl} {E : Env'} {n : Nat} : isBag (s :: E) (n + 1) = isBag E n := rfl
@[simp] theorem toB_bl {b : Bool} : toB (.bl b) = some b := rfl
@[simp] theorem toI_int {i : Int} : toI (.int i) = some i := rfl
@[simp] theorem keyD_str {x : Str} : keyD (.str x) = some (.inr x) := rfl
@[simp] theorem keyD_int {x : Int} : keyD (.int x) = some (.inl x) := rfl
@[simp] theorem arS_dat {d : Dat} : arS (.dat d) = .dat d := rfl
@[simp] theorem arS_bag : arS .bag = .bag := rfl
@[simp] theorem arO_dat {d : Dat} : Ar.old (.dat d) = .dat d.old := rfl
@[simp] theorem arO_bag : Ar.old .bag = .bag := rfl
@[simp] theorem old_str {x : Str} : (Dat.str x).old = .str x := by simp [Dat.old]
@[simp] theorem old_int {x : Int} : (Dat.int x).old = .int x := by simp [Dat.old]
@[simp] theorem old_bl {x : Bool} : (Dat.bl x).old = .bl x := by simp [Dat.old]
@[simp] theorem old_any : Dat.any.old = .any := by simp [Dat.old]
@[simp] theorem old_adr {a : Addr} : (Dat.adr a).old = .adr a := by simp [Dat.old]
@[simp] theorem old_non : Dat.non.old = .non := by simp [Dat.old]
@[simp] theorem old_lst {b : Bool} {ds : List Dat} : (Dat.lst b ds).old = .lst false (ds.map Dat.old) := by simp [Dat.old, olds_map]
@[simp] theorem old_tup {ds : List Dat} : (Dat.tup ds).old = .tup (ds.map Dat.old) := by simp [Dat.old, olds_map]
@[simp] theorem old_dct {b : Bool} {es : List (Key × Dat)} : (Dat.dct b es).old = .dct false (es.map fun p => (p.1, p.2.old)) := by simp [Dat.old, oldk_map]
@[simp] theorem old_strs {xs : List Str} : (xs.map Dat.str).map Dat.old = xs.map Dat.str := by
  rw [List.map_map]
  exact List.map_congr_left fun x _ => old_str
@[simp] theorem addD_int {i j : Int} : addD (.int i) (.int j) = some (.int (i + j)) := rfl
@[simp] theorem ltD_int {i j : Int} : ltD (.int i) (.int j) = some (.bl (decide (i < j))) := rfl
@[simp] theorem leD_int {i j : Int} : leD (.int i) (.int j) = some (.bl (decide (i ≤ j))) := rfl
@[simp] theorem gtD_int {i j : Int} : gtD (.int i) (.int j) = some (.bl (decide (j < i))) := rfl
@[simp] theorem geD_int {i j : Int} : geD (.int i) (.int j) = some (.bl (decide (j ≤ i))) := rfl
@[simp] theorem eqD_int {i j : Int} : eqD (.int i) (.int j) = some (.bl (decide (i = j))) := rfl
@[simp] theorem eqD_str {i j : Str} : eqD (.str i) (.str j) = some (.bl (decide (i = j))) := rfl
@[simp] theorem neED_int {i j : Int} : neED (.int i) (.int j) = some (.bl (!decide (i = j))) := rfl
@[simp] theorem neED_str {i j : Str} : neED (.str i) (.str j) = some (.bl (!decide (i = j))) := rfl
@[simp] theorem neED_dct {t t' : Bool} {es : List (Key × Dat)} : neED (.dct t es) (.dct t' []) = some (.bl (!es.isEmpty)) := rfl
@[simp] theorem ixD_lst {t : Bool} {ds : List Dat} {i : Int} : ixD (.lst t ds) (.int i) = atI ds i := rfl
@[simp] theorem ixD_tup {ds : List Dat} {i : Int} : ixD (.tup ds) (.int i) = atI ds i := rfl
@[simp] theorem ixD_dctS {t : Bool} {es : List (Key × Dat)} {x : Str} : ixD (.dct t es) (.str x) = valD es (.inr x) := rfl
@[simp] theorem itD_lst {t : Bool} {ds : List Dat} : itD (.lst t ds) = some ds := rfl
@[simp] theorem itD_tup {ds : List Dat} : itD (.tup ds) = some ds := rfl
@[simp] theorem itD_dct {t : Bool} {es : List (Key × Dat)} : itD (.dct t es) = some (es.map fun p => kD p.1) := rfl
@[simp] theorem itD_str {z : Str} : itD (.str z) = some (z.cps.toList.map fun c => .str ⟨#[c]⟩) := rfl
@[simp] theorem lenD_lst {t : Bool} {ds : List Dat} : lenD [.lst t ds] = some (.int ds.length) := rfl
@[simp] theorem lenD_tup {ds : List Dat} : lenD [.tup ds] = some (.int ds.length) := rfl
@[simp] theorem lenD_dct {t : Bool} {es : List (Key × Dat)} : lenD [.dct t es] = some (.int es.length) := rfl
@[simp] theorem intD_int {i : Int} : intD [.int i] = some (.int i) := rfl
@[simp] theorem intD_bl {b : Bool} : intD [.bl b] = some (.int (boolI b)) := rfl
@[simp] theorem rcv_lst {t : Bool} {ds : List Dat} : rcvOk "list" (.lst t ds) = true := rfl
@[simp] theorem rcv_str {x : Str} : rcvOk "str" (.str x) = true := rfl
@[simp] theorem slD_lst {t : Bool} {ds : List Dat} {lo hi : Option Int} : slD (.lst t ds) lo hi = some (.lst true (cutL ds lo hi)) := rfl
@[simp] theorem mkT_2 {a b : Dat} : mkT [a, b] = some (.tup [a, b]) := rfl
@[simp] theorem mkT_1 {a : Dat} : mkT [a] = some (.tup [a]) := rfl
@[simp] theorem mkT_3 {a b c : Dat} : mkT [a, b, c] = some (.tup [a, b, c]) := rfl
@[simp] theorem mkT_4 {a b c d : Dat} : mkT [a, b, c, d] = some (.tup [a, b, c, d]) := rfl
@[simp] theorem mkT_6 {a b c d e f : Dat} : mkT [a, b, c, d, e, f] = some (.tup [a, b, c, d, e, f]) := rfl
@[simp] theorem mkL_0 : mkL [] = some (.lst true []) := rfl
@[simp] theorem mkL_1 {a : Dat} : mkL [a] = some (.lst true [a]) := rfl
@[simp] theorem mkL_2 {a b : Dat} : mkL [a, b] = some (.lst true [a, b]) := rfl
@[simp] theorem mkL_3 {a b c : Dat} : mkL [a, b, c] = some (.lst true [a, b, c]) := rfl
@[simp] theorem mkL_4 {a b c d : Dat} : mkL [a, b, c, d] = some (.lst true [a, b, c, d]) := rfl
theorem few_of {α : Type} {ds : List α} (h : ds.length ≤ sizeLine) : few (some ds) = some ds := by
  unfold few
  simp [h]
theorem cutL_map {α β : Type} (f : α → β) (xs : List α) (lo hi : Option Int) : cutL (xs.map f) lo hi = (cutL xs lo hi).map f := by
  unfold cutL
  rw [List.map_take, List.map_drop, List.length_map]
theorem cutL_mem {α : Type} {xs : List α} {lo hi : Option Int} {x : α} (h : x ∈ cutL xs lo hi) : x ∈ xs := List.mem_of_mem_drop (List.mem_of_mem_take h)
theorem cutL_len {α : Type} (xs : List α) (lo hi : Option Int) : (cutL xs lo hi).length ≤ xs.length := by
  unfold cutL
  rw [List.length_take, List.length_drop]
  omega
theorem in_strs (x : Str) (xs : List Str) : ((xs.map Dat.str).any fun y => eqF y (.str x)) = decide (x ∈ xs) := by
  induction xs with
  | nil => rfl
  | cons y ys ih =>
    rw [List.map_cons, List.any_cons, ih]
    show ((y == x) || _) = _
    by_cases e : y = x
    · subst e
      simp
    · have e' : x ≠ y := fun z => e z.symm
      simp [e, e']
theorem flatD_strs (xs : List Str) : (xs.map Dat.str).all flatD = true := by
  rw [List.all_map]
  exact List.all_eq_true.mpr fun _ _ => rfl
@[simp] theorem inB_strs {t : Bool} {x : Str} {xs : List Str} : inB (.str x) (.lst t (xs.map .str)) = some (decide (x ∈ xs)) := by
  show (if flatD (.str x) && (xs.map Dat.str).all flatD then some ((xs.map Dat.str).any fun y => eqF y (.str x)) else _) = _
  rw [flatD_strs, in_strs]
  rfl
@[simp] theorem inD_strs {t : Bool} {x : Str} {xs : List Str} : inD (.str x) (.lst t (xs.map .str)) = some (.bl (decide (x ∈ xs))) := by
  unfold inD
  rw [inB_strs]
  rfl
@[simp] theorem ninD_strs {t : Bool} {x : Str} {xs : List Str} : ninD (.str x) (.lst t (xs.map .str)) = some (.bl (!decide (x ∈ xs))) := by
  unfold ninD
  rw [inB_strs]
  rfl
theorem lc_map {g : Dat → Env' → Option Env'} {te : Env' → W Dat} {E : Env'} {Q : Dat → Prop} (f : Dat → Dat) : ∀ (ds acc : List Dat), (∀ d ∈ ds, ∃ E1, g d E = some E1 ∧ ∀ P : Dat → Prop, P (f d) → te E1 P) → Q (.lst true (acc ++ ds.map f)) → lcW g bYes te E ds acc Q
  | [], acc, _, q => by simpa [lcW] using q
  | d :: ds, acc, h, q => by
    obtain ⟨E1, e, ht⟩ := h d List.mem_cons_self
    show (W.of (g d E)).bind (fun E1 => (bYes E1).bind fun b => cnd b ((te E1).bind fun y => lcW g bYes te E ds (acc ++ [y])) (lcW g bYes te E ds acc)) Q
    rw [e]
    refine ht _ ?_
    refine lc_map f ds (acc ++ [f d]) (fun d' hd => h d' (List.mem_cons_of_mem _ hd)) ?_
    simpa using q
/-- with a test -/
theorem lc_filter {g : Dat → Env' → Option Env'} {tt : Env' → W Bool} {te : Env' → W Dat} {E : Env'} {Q : Dat → Prop} (c : Dat → Bool) (f : Dat → Dat) : ∀ (ds acc : List Dat), (∀ d ∈ ds, ∃ E1, g d E = some E1 ∧ (∀ P : Bool → Prop, P (c d) → tt E1 P) ∧ (c d = true → ∀ P : Dat → Prop, P (f d) → te E1 P)) → Q (.lst true (acc ++ (ds.filter c).map f)) → lcW g tt te E ds acc Q
  | [], acc, _, q => by simpa [lcW] using q
  | d :: ds, acc, h, q => by
    obtain ⟨E1, e, h1, h2⟩ := h d List.mem_cons_self
    show (W.of (g d E)).bind (fun E1 => (tt E1).bind fun b => cnd b ((te E1).bind fun y => lcW g tt te E ds (acc ++ [y])) (lcW g tt te E ds acc)) Q
    rw [e]
    refine h1 _ ?_
    cases z : c d with
    | true =>
      refine h2 z _ ?_
      refine lc_filter c f ds (acc ++ [f d]) (fun d' hd => h d' (List.mem_cons_of_mem _ hd)) ?_
      simpa [z] using q
    | false =>
      refine lc_filter c f ds acc (fun d' hd => h d' (List.mem_cons_of_mem _ hd)) ?_
      simpa [z] using q
/-- by an invariant -/
theorem lc_by {g : Dat → Env' → Option Env'} {tt : Env' → W Bool} {te : Env' → W Dat} {E : Env'} {Q : Dat → Prop} (I : Nat → List Dat → Prop) : ∀ (ds acc : List Dat) (n : Nat), I n acc →
    (∀ i d acc (P : List Dat → Prop), ds[i]? = some d → I (n + i) acc → (∀ acc', I (n + i + 1) acc' → P acc') → ∃ E1, g d E = some E1 ∧ tt E1 fun b => cond b (te E1 fun y => P (acc ++ [y])) (P acc)) → (∀ acc, I (n + ds.length) acc → Q (.lst true acc)) → lcW g tt te E ds acc Q
  | [], acc, n, i0, _, q => q acc i0
  | d :: ds, acc, n, i0, h, q => by
    have go : ∀ acc, I (n + 1) acc → lcW g tt te E ds acc Q := fun acc ia => lc_by I ds acc (n + 1) ia (fun i d' acc' P hd ia' hP => by
      have := h (i + 1) d' acc' P (by simpa using hd) (by rw [show n + (i + 1) = n + 1 + i by omega]; exact ia') (fun a z => hP a (by rw [show n + 1 + i + 1 = n + (i + 1) + 1 by omega]; exact z))
      exact this) (fun acc' ia' => q acc' (by rw [List.length_cons, show n + (ds.length + 1) = n + 1 + ds.length by omega]; exact ia'))
    obtain ⟨E1, e, ht⟩ := h 0 d acc (fun a => lcW g tt te E ds a Q) rfl i0 fun a z => go a z
    show (W.of (g d E)).bind (fun E1 => (tt E1).bind fun b => cnd b ((te E1).bind fun y => lcW g tt te E ds (acc ++ [y])) (lcW g tt te E ds acc)) Q
    rw [e]
    have eq : (fun b => cond b (te E1 fun y => lcW g tt te E ds (acc ++ [y]) Q) (lcW g tt te E ds acc Q)) = fun b => cnd b ((te E1).bind fun y => lcW g tt te E ds (acc ++ [y])) (lcW g tt te E ds acc) Q := by
      funext b
      cases b <;> rfl
    rw [eq] at ht
    exact ht
/-- a loop by an invariant -/
theorem loop_by {g : Dat → Env' → Option Env'} {F : WS} {k : Kn} (I : Nat → Env' → Prop) : ∀ (ds : List Dat) (E : Env') (n : Nat), I n E →
    (∀ i d E (nx : Env' → Prop), ds[i]? = some d → I (n + i) E → (∀ E', I (n + i + 1) E' → nx E') → ∃ E1, g d E = some E1 ∧ F E1 { k with nx := nx, ct := nx, bk := k.nx }) → (∀ E, I (n + ds.length) E → k.nx E) → loopW g F ds E k
  | [], E, n, i0, _, q => q E i0
  | d :: ds, E, n, i0, h, q => by
    have go : ∀ E, I (n + 1) E → loopW g F ds E k := fun E ia => loop_by I ds E (n + 1) ia (fun i d' E' nx hd ia' hn => by
      have := h (i + 1) d' E' nx (by simpa using hd) (by rw [show n + (i + 1) = n + 1 + i by omega]; exact ia') (fun a z => hn a (by rw [show n + 1 + i + 1 = n + (i + 1) + 1 by omega]; exact z))
      exact this) (fun E' ia' => q E' (by rw [List.length_cons, show n + (ds.length + 1) = n + 1 + ds.length by omega]; exact ia'))
    obtain ⟨E1, e, ht⟩ := h 0 d E (fun E' => loopW g F ds E' k) rfl i0 fun a z => go a z
    show W.of (g d E) _
    rw [e]
    exact ht
theorem rng1_of {n : Int} (h : -(2 ^ 62) ≤ n ∧ n < 2 ^ 62) : rng1 [.int n] = some ((List.range n.toNat).map fun i : Nat => .int (0 + i)) := by
  simp only [rng1]
  rw [if_pos h]
end EW
set_option Elab.async false
set_option linter.all false
set_option maxRecDepth 100000
set_option maxHeartbeats 4000000
namespace EW
open PySem L2 TL
abbrev lets : Str := "abcdefghijklmnopqrstuvwxyz"
/-- a short plain text -/
def Sm (x : Str) : Prop := x.length ≤ 8 ∧ ∀ c ∈ x.cps.toList, c < 128
instance (x : Str) : Decidable (Sm x) := inferInstanceAs (Decidable (_ ∧ _))
abbrev wordsT : Str := "own not none some late now each done mark link tag row new self gone other"
def sgn (c : Nat) : Str := ⟨#[c]⟩
def nameB (x : Str) : Bool := (decide ((1 : Int) ≤ (x.length : Int)) && decide ((x.length : Int) ≤ 8)) && x.cps.toList.all fun c => decide (c ∈ lets.cps.toList)
/-- a name -/
def Nm (x : Str) : Prop := nameB x = true
instance (x : Str) : Decidable (Nm x) := inferInstanceAs (Decidable (_ = true))
theorem nm_of {x : Str} (h1 : 1 ≤ x.length) (h2 : x.length ≤ 8) (h : ∀ c ∈ x.cps.toList, c ∈ lets.cps.toList) : Nm x := by
  show ((decide ((1 : Int) ≤ (x.length : Int)) && decide ((x.length : Int) ≤ 8)) && x.cps.toList.all fun c => decide (c ∈ lets.cps.toList)) = true
  rw [decide_eq_true (by omega), decide_eq_true (by omega), Bool.true_and, Bool.true_and, List.all_eq_true]
  exact fun c hc => decide_eq_true (h c hc)
theorem lets_sm : ∀ c ∈ lets.cps.toList, c < 128 := by decide +kernel
theorem Nm.sm {x : Str} (h : Nm x) : Sm x := by
  have h' : ((decide ((1 : Int) ≤ (x.length : Int)) && decide ((x.length : Int) ≤ 8)) && x.cps.toList.all fun c => decide (c ∈ lets.cps.toList)) = true := h
  rw [Bool.and_eq_true, Bool.and_eq_true, decide_eq_true_eq, decide_eq_true_eq, List.all_eq_true] at h'
  exact ⟨by omega, fun c hc => lets_sm c (of_decide_eq_true (h'.2 c hc))⟩
theorem lets_ix : ∀ r : Int, 0 ≤ r → r < 26 → ∃ c ∈ lets.cps.toList, atI lets.cps.toList r = some c := by
  intro r h0 h1
  have hs : r.toNat < lets.cps.toList.length := by
    have : lets.cps.toList.length = 26 := by decide +kernel
    omega
  obtain ⟨k, rfl⟩ : ∃ k : Nat, r = (k : Int) := ⟨r.toNat, by omega⟩
  have hs' : k < lets.cps.toList.length := by omega
  exact ⟨lets.cps.toList[k], List.getElem_mem hs', atI_nat (by simp [List.getElem?_eq_getElem hs'])⟩
theorem lets_index : ∀ c ∈ lets.cps.toList, ∃ k, Txt.index0 lets (sgn c) = some k ∧ k < 26 := by
  have h : ∀ c ∈ lets.cps.toList, (match Txt.index0 lets (sgn c) with | some k => decide (k < 26) | none => false) = true := by decide +kernel
  intro c hc
  have q := h c hc
  cases e : Txt.index0 lets (sgn c) with
  | none =>
    rw [e] at q
    cases q
  | some k =>
    rw [e] at q
    exact ⟨k, rfl, of_decide_eq_true q⟩
def turned (k : Nat) : Str := cutS lets (some (k : Int)) none ++ cutS lets none (some (k : Int))
theorem turned_ok : ∀ k, k < 26 → (turned k).cps.toList.Nodup ∧ (turned k).cps.toList.length = 26 := by decide +kernel
theorem turned_sm : ∀ k, k < 26 → ∀ c ∈ (turned k).cps.toList, c ∈ lets.cps.toList := by decide +kernel
def wordsL : List Str := Txt.split wordsT " "
theorem words_ok : wordsL.length ≤ 16 ∧ ∀ x ∈ wordsL, Nm x := by decide +kernel
theorem joinL_len : ∀ ps : List (List Nat), (joinL [] ps).length = (ps.map List.length).sum
  | [] => rfl
  | [p] => by simp [joinL]
  | p :: q :: r => by
    show (p ++ ([] ++ joinL [] (q :: r))).length = _
    rw [List.nil_append, List.length_append, joinL_len (q :: r)]
    rfl
theorem tl_len (x : Str) : (tl x).length = x.length := by
  show x.cps.toList.length = x.cps.size
  exact Array.length_toList
theorem join_len (ys : List Str) : (Txt.join "" ys).length = (ys.map Str.length).sum := by
  rw [join_eq, ← tl_len, tl_join]
  show (joinL [] _).length = _
  rw [joinL_len, List.map_map]
  first | rfl | (congr 1; exact List.map_congr_left fun x _ => tl_len x)
theorem joinL_mem : ∀ {ps : List (List Nat)} {c : Nat}, c ∈ joinL [] ps → ∃ p ∈ ps, c ∈ p
  | [], c, h => absurd h List.not_mem_nil
  | [p], c, h => ⟨p, List.mem_cons_self, h⟩
  | p :: q :: r, c, h => by
    have h' : c ∈ p ++ ([] ++ joinL [] (q :: r)) := h
    rw [List.nil_append] at h'
    rcases List.mem_append.mp h' with h' | h'
    · exact ⟨p, List.mem_cons_self, h'⟩
    · obtain ⟨p', hp, hc⟩ := joinL_mem h'
      exact ⟨p', List.mem_cons_of_mem _ hp, hc⟩
theorem join_mem {ys : List Str} {c : Nat} (h : c ∈ (Txt.join "" ys).cps.toList) : ∃ y ∈ ys, c ∈ y.cps.toList := by
  have h' : c ∈ tl (Txt.join "" ys) := h
  rw [join_eq, tl_join] at h'
  obtain ⟨p, hp, hc⟩ := joinL_mem (show c ∈ joinL [] _ from h')
  obtain ⟨y, hy, rfl⟩ := List.mem_map.mp hp
  exact ⟨y, hy, hc⟩
theorem nodup_le {α : Type} [DecidableEq α] : ∀ {xs ys : List α}, xs.Nodup → (∀ x ∈ xs, x ∈ ys) → xs.length ≤ ys.length
  | [], _, _, _ => Nat.zero_le _
  | x :: xs, ys, nd, h => by
    obtain ⟨n1, n2⟩ := List.nodup_cons.mp nd
    have m := h x List.mem_cons_self
    have q := nodup_le (ys := ys.erase x) n2 fun y hy => (List.mem_erase_of_ne (fun e => n1 (by rw [← e]; exact hy))).mpr (h y (List.mem_cons_of_mem _ hy))
    have e := List.length_erase_of_mem m
    have z : 0 < ys.length := List.length_pos_of_mem m
    rw [List.length_cons]
    omega
theorem sgn_app_inj {c d : Nat} {r : Str} (h : sgn c ++ r = sgn d ++ r) : c = d := by
  have e : tl (sgn c ++ r) = tl (sgn d ++ r) := by rw [h]
  rw [tl_append, tl_append] at e
  have e2 := List.append_cancel_right e
  have e3 : [c] = [d] := e2
  injection e3
theorem fresh_one {zs : List Nat} {r : Str} {fs : List Str} (nd : zs.Nodup) (h : fs.length < zs.length) : ∃ c ∈ zs, (sgn c ++ r) ∉ fs := by
  refine Classical.byContradiction fun z => ?_
  have all : ∀ x ∈ zs.map (fun c => sgn c ++ r), x ∈ fs := by
    intro x hx
    obtain ⟨c, hc, rfl⟩ := List.mem_map.mp hx
    refine Classical.byContradiction fun y => z ⟨c, hc, y⟩
  have nd2 : (zs.map (fun c => sgn c ++ r)).Nodup := by
    refine List.pairwise_map.mpr (nd.imp fun hab e => hab (sgn_app_inj e))
  have q := nodup_le nd2 all
  rw [List.length_map] at q
  omega
end EW
set_option Elab.async false
set_option linter.all false
set_option maxRecDepth 100000
set_option maxHeartbeats 4000000
namespace EW
open PySem PySem.Spec PyProof.Rows L2 EG
def top (i : Nat) : Stmt := PySem.Challenge.pw_endchecks_k11_names_and_modes.main.body.getD i (.Pass ⟨0, 0, 0, 0⟩)
abbrev sBag : Stmt := top 13
abbrev sTake : Stmt := top 14
section
variable {X : Cx}
def rGetL (K : PySem.W.Frag) : V → V → Hp → VK → Prop := fun x y H Q => ∃ p xs i v, x = .ref p ∧ y = .int i ∧ SqL K H p xs ∧ 0 ≤ i ∧ i < 2 ^ 62 ∧ xs[i.toNat]? = some v ∧ Q v H
theorem get_list : PGet X (rGetL X.K) := by
  intro pins s σ H x y ov iv Q I rx ry h
  obtain ⟨p, xs, i, z, rfl, rfl, hq, h0, h1, he, q⟩ := h
  cases rx
  obtain ⟨t, rfl⟩ := ry
  obtain ⟨its, r, pl, hz⟩ := I.list hq
  obtain ⟨w, ew, rw'⟩ := r.get he
  exact wpAny_getItem_list pl.isList h0 (by omega) (by simpa using ew) ⟨z, H, I, rw', q⟩
end
theorem q31 : (0 : Int) < 2147483647 := by decide
theorem q9 : (0 : Int) < 1000000007 := by decide
theorem q8 : (0 : Int) < 998244353 := by decide
/-- all but b stands -/
def But (b : Addr) (H H' : Hp) : Prop := ∀ a o, a ≠ b → H a = some o → H' a = some o
theorem But.rfl {b : Addr} {H : Hp} : But b H H := fun _ _ _ e => e
theorem But.trans {b : Addr} {H1 H2 H3 : Hp} (h : But b H1 H2) (k : But b H2 H3) : But b H1 H3 := fun a o n e => k a o n (h a o n e)
theorem But.same {b : Addr} {H1 H2 : Hp} (h : Same H1 H2) : But b H1 H2 := fun a o _ e => h a o e
def spBag (K : PySem.W.Frag) : Sp := fun vs H Q _ => ∃ (a : Addr) (ns : List Int), vs = [.ref a] ∧ SqL K H a (ns.map V.int) ∧ ns.length ≤ 63 ∧
  ∀ H' b l, Same H H' → H b = none → H l = none → Bag H' b l → Q (.ref b) H'
def spTake : Sp := fun vs H Q _ => ∃ (b l : Addr) (m : Int), vs = [.ref b, .int m] ∧ 0 < m ∧ m < 1073741824 ∧ Bag H b l ∧
  ∀ (r : Int) H', 0 ≤ r → r < m → But b H H' → Bag H' b l → Q (.int r) H'
section
variable {P : Program} {w : World} {K : PySem.W.Frag} {mg : Str → Option Value} {base : Heap}
theorem scBag : FnScope ["_law_script", "_law_cell"] ["_law_script"] (defScope sBag) := ⟨rfl, rfl, rfl, by decide +kernel, rfl, by decide +kernel, by decide +kernel⟩
theorem ok_bag {f : Addr} {fd : FuncData} (F : Fun K "_law_bag" "_law_bag" sBag f fd) (nabs : mg "abs" = none) : FnOk P w K mg base CX0 1 f fd ["_law_script"] (spBag K) := by
  refine F.ok scBag (fun vs H Q E h => ?_) (fun cdv A outer s H vs Q E hr h => ?_)
  · obtain ⟨a, ns, rfl, _⟩ := h
    rfl
  · obtain ⟨a, ns, rfl, hS, hlen, k⟩ := h
    refine ⟨_, pss_one (ps_ret (pe_lst (pa_cons pe_int (pa_cons pe_int (pa_cons pe_int (pa_cons
      (pe_lc (own := [("_law_cell", 1)]) (g := gName 1) (tt := tYes) rfl scBag.nd (pi_list (pe_slice sl_list (pv 0) po_none (po_some pe_int)))
        (blkOk_by (N := ["_law_script", "_law_cell"]) (sc := defScope sBag) (by decide +kernel))
        (fun _ _ _ _ _ => pg_name (i := 1) scBag.nd rfl (Or.inl rfl)) (fun _ _ _ _ _ => pts_nil)
        (fun _ _ _ _ _ => pe_callB call_abs (by rfl) nabs (by decide +kernel) (pa_cons (pv 1) pa_nil))) pa_nil)))))), ?_⟩
    refine ⟨_, rfl, 63, rfl, a, _, rfl, hS, fun p hp => ?_⟩
    have s1 : Same H (upd H p (.lst (cutV (ns.map V.int) none (some 63)))) := fun b o e => by
      rw [upd_ne (ne_of_none e hp)]
      exact e
    obtain ⟨ms, hms, hml⟩ : ∃ ms : List Int, cutV (ns.map V.int) none (some 63) = ms.map V.int ∧ ms.length ≤ 63 := by
      refine ⟨((ns.drop (HT.sIx (ns.map V.int).length 0 none)).take (HT.sIx (ns.map V.int).length (ns.map V.int).length (some 63) - HT.sIx (ns.map V.int).length 0 none)), ?_, ?_⟩
      · unfold cutV
        rw [List.map_take, List.map_drop]
      · rw [List.length_take, List.length_drop]
        omega
    rw [hms] at s1 ⊢
    refine ⟨p, rfl, ⟨_, SqL.of upd_same⟩, fun D hD => lc_list (xs := ms.map V.int) (fun i H' => H D = none ∧ H p = none ∧ D ≠ p ∧ Same H H' ∧ H' p = some (.lst (ms.map V.int)) ∧ ∃ ks : List Int, H' D = some (.lst (ks.map V.int)) ∧ ks.length = i ∧ ∀ n ∈ ks, 0 ≤ n) ?_ ?_ ?_ ?_⟩
    · have nDp : D ≠ p := fun e => by
        rw [e, upd_same] at hD
        cases hD
      have hD0 : H D = none := by
        rw [upd_ne nDp] at hD
        exact hD
      refine ⟨hD0, hp, nDp, fun b o e => ?_, ?_, [], upd_same, rfl, fun n z => absurd z List.not_mem_nil⟩
      · rw [upd_ne (ne_of_none e hD0)]
        exact s1 _ _ e
      · rw [upd_ne nDp.symm, upd_same]
    · rintro i H' _ ⟨_, _, _, _, h5, _⟩
      exact SqL.of h5
    · rintro i x H' hx ⟨h1, h2, h3, h4, h5, ks, h6, h7, h8⟩
      obtain ⟨n, rfl⟩ : ∃ n, x = V.int n := by
        rw [List.getElem?_map] at hx
        cases e : ms[i]? with
        | none => rw [e] at hx; cases hx
        | some n => rw [e] at hx; exact ⟨n, (Option.some.inj hx).symm⟩
      refine ⟨rfl, ⟨_, rfl, n, rfl, ks.map V.int, h6, ?_, h1, h2, h3, fun b o e => ?_, ?_, ks ++ [if n < 0 then -n else n], ?_, ?_, ?_⟩⟩
      · have hi : i < ms.length := by
          have := (List.getElem?_eq_some_iff.mp hx).1
          rw [List.length_map] at this
          exact this
        rw [List.length_map, h7, sizeLine_eq]
        omega
      · rw [upd_ne (ne_of_none e h1)]
        exact h4 _ _ e
      · rw [upd_ne h3.symm]
        exact h5
      · rw [upd_same, List.map_append]
        rfl
      · rw [List.length_append, h7]
        rfl
      · intro z hz
        rcases List.mem_append.mp hz with hz | hz
        · exact h8 z hz
        · rw [List.mem_singleton.mp hz]
          split <;> omega
    · rintro H' ⟨h1, h2, h3, h4, h5, ks, h6, h7, h8⟩
      refine ⟨by show 4 ≤ sizeLine; decide, fun b hb => k _ b D (fun c o e => ?_) (h4.free hb) h1 ⟨⟨0, 1234567891, 0, ks, upd_same, ?_, ?_, ?_⟩⟩⟩
      · rw [upd_ne (ne_of_none (h4 _ _ e) hb)]
        exact h4 _ _ e
      · rw [upd_ne (ne_of_none h6 hb)]
        exact h6
      · exact (ne_of_none h6 hb).symm
      · refine ⟨by decide, by decide, by decide, ?_, h8⟩
        rw [h7, List.length_map]
        exact hml
theorem scTake : FnScope ["_law_bag_here", "_law_many", "_law_cell", "_law_mixed", "_law_drawn", "_law_early", "_law_second"] ["_law_bag_here", "_law_many"] (defScope sTake) := ⟨rfl, rfl, rfl, by decide +kernel, rfl, by decide +kernel, by decide +kernel⟩
theorem ok_take {f : Addr} {fd : FuncData} (F : Fun K "_law_take" "_law_take" sTake f fd) (nint : mg "int" = none) : FnOk P w K mg base CX0 1 f fd ["_law_bag_here", "_law_many"] spTake := by
  refine F.ok scTake (fun vs H Q E h => ?_) (fun cdv A outer s H vs Q E hr h => ?_)
  · obtain ⟨b, l, m, rfl, _⟩ := h
    rfl
  · obtain ⟨b, l, m, rfl, hm0, hm1, hB, k⟩ := h
    refine ⟨_, Evl.pss_cut (ps_if (pt_cmpR op_eq (pe_ix ix_list (pv 0) pe_int (fun _ _ => rfl)) pe_int (nomark _))
        (pss_cons (ps_set (i := 2) scTake.nd rfl (Or.inl rfl) (pe_ix ix_list (pe_op op_cat (pe_slice sl_list (pe_ix ix_list (pv 0) pe_int (fun _ _ => rfl)) (po_some (pe_ix ix_list (pv 0) pe_int (fun _ _ => rfl))) po_none) (pe_lst (pa_cons pe_int pa_nil))) pe_int (fun _ _ => rfl)))
        (pss_cons (ps_augS (pv 0) pe_int get_list pe_int ip_add set_list)
        (pss_cons (ps_asg (pe_op op_mul (pv 2) (pe_callTy call_int1 (by rfl) nint (by decide +kernel) (pa_cons (pe_cmpR op_ge (pv 2) (pe_op op_pow pe_int pe_int) (nomark _)) pa_nil))) (pg_sub (pv 0) pe_int set_list))
        (pss_cons (ps_set (i := 3) scTake.nd rfl (Or.inl rfl) (pe_op op_add (pe_op op_add (pe_op op_mul (pe_ix ix_list (pv 0) pe_int (fun _ _ => rfl)) pe_int) (pe_op op_mod (pe_callTy call_int1 (by rfl) nint (by decide +kernel) (pa_cons (pv 2) pa_nil)) pe_int)) (pe_op op_mul pe_int (pe_ix ix_list (pv 0) pe_int (fun _ _ => rfl)))))
        (pss_one (ps_asg (pe_op op_mod (pe_callTy call_int1 (by rfl) nint (by decide +kernel) (pa_cons (pv 3) pa_nil)) pe_int) (pg_sub (pv 0) pe_int set_list)))))))
        pss_nil)
      (pss_cons (ps_if (pt_cmpR op_gt (pe_ix ix_list (pv 0) pe_int (fun _ _ => rfl)) pe_int (nomark _))
        (pss_cons (ps_asg (pe_tup (pa_cons (pe_op op_mod (pe_callTy call_int1 (by rfl) nint (by decide +kernel) (pa_cons (pe_ix ix_list (pv 0) pe_int (fun _ _ => rfl)) pa_nil)) (pv 1)) (pa_cons (pe_op op_fdiv (pe_callTy call_int1 (by rfl) nint (by decide +kernel) (pa_cons (pe_ix ix_list (pv 0) pe_int (fun _ _ => rfl)) pa_nil)) (pv 1)) pa_nil)))
            (pg_tup (by rfl) (pgs_cons (pg_name (i := 4) scTake.nd rfl (Or.inl rfl)) (pgs_cons (pg_sub (pv 0) pe_int set_list) pgs_nil))))
        (pss_one (ps_ret (pv 4)))) pss_nil)
      (pss_cons (ps_set (i := 5) scTake.nd rfl (Or.inl rfl) (pe_op op_mod (pe_callTy call_int1 (by rfl) nint (by decide +kernel) (pa_cons (pe_op op_mul (pe_op op_add (pe_ix ix_list (pv 0) pe_int (fun _ _ => rfl)) pe_int) pe_int) pa_nil)) pe_int))
      (pss_cons (ps_set (i := 6) scTake.nd rfl (Or.inl rfl) (pe_op op_mod (pe_callTy call_int1 (by rfl) nint (by decide +kernel) (pa_cons (pe_op op_mul (pe_op op_mod (pe_callTy call_int1 (by rfl) nint (by decide +kernel) (pa_cons (pe_op op_mul (pv 5) (pv 5)) pa_nil)) pe_int) pe_int) pa_nil)) pe_int))
      (pss_one (ps_ret (pe_op op_mod (pe_callTy call_int1 (by rfl) nint (by decide +kernel) (pa_cons (pe_op op_fdiv (pv 6) pe_int) pa_nil)) (pv 1))))))), ?_⟩
    obtain ⟨x, y, c, ns, hb, hl, nbl, x0, y0, c0, h63, hns⟩ := hB.at_
    -- what follows the first if
    refine ⟨fun σ' H1 => ∃ (x1 y1 c1 : Int) (v2 v3 : Option V), σ' = [some (.ref b), some (.int m), v2, v3, none, none, none] ∧ H1 b = some (.lst [.int x1, .int y1, .int c1, .ref l]) ∧
      H1 l = some (.lst (ns.map V.int)) ∧ But b H H1 ∧ 0 ≤ x1 ∧ 0 ≤ y1 ∧ 0 ≤ c1, ?_, ?_⟩
    · refine ⟨_, rfl, b, _, 0, _, rfl, rfl, SqL.of hb, rfl, rfl, _, rfl, ?_⟩
      refine ite2 (fun _ => ?_) (fun _ => ⟨x, y, c, none, none, rfl, hb, hl, But.rfl, x0, y0, c0⟩)
      -- _law_cell = (bag[3][bag[2]:] + [0])[0]
      refine ⟨_, rfl, b, _, 3, _, rfl, rfl, SqL.of hb, rfl, _, rfl, b, _, 2, _, rfl, rfl, SqL.of hb, rfl, _, rfl, l, _, rfl, SqL.of hl, fun p hp => ?_⟩
      obtain ⟨ms, hms, hm63, hmn⟩ : ∃ ms : List Int, cutV (ns.map V.int) (some c) none = ms.map V.int ∧ ms.length ≤ 63 ∧ ∀ n ∈ ms, 0 ≤ n := by
        refine ⟨(ns.drop (HT.sIx (ns.map V.int).length 0 (some c))).take (HT.sIx (ns.map V.int).length (ns.map V.int).length none - HT.sIx (ns.map V.int).length 0 (some c)), ?_, ?_, ?_⟩
        · unfold cutV
          rw [List.map_take, List.map_drop]
        · rw [List.length_take, List.length_drop]
          omega
        · intro n hn
          exact hns n (List.mem_of_mem_drop (List.mem_of_mem_take hn))
      rw [hms]
      refine ⟨by show 1 ≤ sizeLine; decide, fun p2 hp2 => ?_⟩
      have n1 : p2 ≠ p := fun e => by
        rw [e, upd_same] at hp2
        cases hp2
      have hp20 : H p2 = none := by
        rw [upd_ne n1] at hp2
        exact hp2
      have nbp : b ≠ p := ne_of_none hb hp
      have nbp2 : b ≠ p2 := ne_of_none hb hp20
      have nlp : l ≠ p := ne_of_none hl hp
      have nlp2 : l ≠ p2 := ne_of_none hl hp20
      have u1 : upd (upd H p (.lst (ms.map V.int))) p2 (.lst [.int 0]) p = some (.lst (ms.map V.int)) := by rw [upd_ne n1.symm, upd_same]
      refine ⟨p, p2, _, _, rfl, rfl, u1, upd_same, ?_, fun p3 hp3 => ?_⟩
      · rw [List.length_map, sizeLine_eq]
        show ms.length + 1 ≤ _
        omega
      have n3 : p3 ≠ p := fun e => by rw [e, u1] at hp3; cases hp3
      have n4 : p3 ≠ p2 := fun e => by rw [e, upd_same] at hp3; cases hp3
      have hp30 : H p3 = none := by
        rw [upd_ne n4, upd_ne n3] at hp3
        exact hp3
      have nbp3 : b ≠ p3 := ne_of_none hb hp30
      have nlp3 : l ≠ p3 := ne_of_none hl hp30
      obtain ⟨z, rest, hz, z0⟩ : ∃ (z : Int) (rest : List V), ms.map V.int ++ [V.int 0] = V.int z :: rest ∧ 0 ≤ z := by
        cases ms with
        | nil => exact ⟨0, [], rfl, by decide⟩
        | cons q qs => exact ⟨q, qs.map V.int ++ [.int 0], rfl, hmn q List.mem_cons_self⟩
      rw [hz]
      refine ⟨p3, _, 0, _, rfl, rfl, SqL.of upd_same, atI_nat (j := 0) rfl, ?_⟩
      -- the heap from here on
      generalize hH4 : upd (upd (upd H p (.lst (ms.map V.int))) p2 (.lst [.int 0])) p3 (.lst (V.int z :: rest)) = H4
      have b4 : H4 b = some (.lst [.int x, .int y, .int c, .ref l]) := by
        rw [← hH4, upd_ne nbp3, upd_ne nbp2, upd_ne nbp]
        exact hb
      have l4 : H4 l = some (.lst (ns.map V.int)) := by
        rw [← hH4, upd_ne nlp3, upd_ne nlp2, upd_ne nlp]
        exact hl
      have s4 : But b H H4 := fun a o na e => by
        rw [← hH4, upd_ne (ne_of_none e hp30), upd_ne (ne_of_none e hp20), upd_ne (ne_of_none e hp)]
        exact e
      -- bag[2] += 1
      refine ⟨_, rfl, b, _, 2, _, rfl, rfl, SqL.of b4, by decide, by decide, rfl, c, 1, rfl, rfl, b, _, 2, 2, rfl, rfl, b4, rfl, ?_⟩
      -- bag[0] = cell * int(cell >= 10 ** 18)
      refine ⟨_, rfl, _, rfl, 10, 18, rfl, rfl, ⟨by decide, by decide, by decide⟩, z, _, rfl, rfl, Or.inr ⟨_, rfl, z, _, rfl, rfl, Or.inr ⟨?_, ?_⟩, _, rfl, b, _, 0, 0, rfl, rfl, upd_same, rfl, ?_⟩⟩
      · split <;> decide
      · split <;> decide
      have x10 : 0 ≤ z * (if decide ((10 : Int) ^ (18 : Int).toNat ≤ z) = true then 1 else 0) := by
        split
        · rw [Int.mul_one]
          exact z0
        · rw [Int.mul_zero]
          exact Int.le_refl 0
      rw [upd_upd]
      -- mixed = bag[1] * 48271 + int(cell) % 2147483647 + 7919 * bag[2]
      refine ⟨_, rfl, b, _, 1, _, rfl, rfl, SqL.of upd_same, rfl, y, 48271, rfl, rfl, Or.inr ⟨by decide, by decide⟩, _, rfl, Or.inl ⟨z, rfl, z, 2147483647, rfl, rfl, q31, _, _, rfl, rfl, _, rfl, b, _, 2, _, rfl, rfl, SqL.of upd_same, rfl, 7919, _, rfl, rfl, Or.inl ⟨by decide, by decide⟩, _, _, rfl, rfl, ?_⟩⟩
      -- bag[1] = int(mixed) % 2147483647
      refine ⟨_, rfl, Or.inl ⟨_, rfl, _, 2147483647, rfl, rfl, q31, _, rfl, b, _, 1, 1, rfl, rfl, upd_same, rfl, ?_⟩⟩
      rw [upd_upd]
      refine ⟨z * (if decide ((10 : Int) ^ (18 : Int).toNat ≤ z) = true then 1 else 0), (y * 48271 + z % 2147483647 + 7919 * (c + 1)) % 2147483647, c + 1, _, _, rfl, upd_same, ?_, fun a o na e => ?_, x10, Int.emod_nonneg _ (by decide), by omega⟩
      · rw [upd_ne nbl.symm]
        exact l4
      · rw [upd_ne na]
        exact s4 a o na e
    · rintro σ' H1 ⟨x1, y1, c1, v2, v3, rfl, hb1, hl1, hs1, x10, y10, c10⟩
      refine ⟨_, rfl, b, _, 0, _, rfl, rfl, SqL.of hb1, rfl, x1, 0, rfl, rfl, _, rfl, ?_⟩
      refine ite2 (fun _ => ?_) (fun _ => ?_)
      · -- drawn, bag[0] = int(bag[0]) % many, int(bag[0]) // many
        refine ⟨_, rfl, b, _, 0, _, rfl, rfl, SqL.of hb1, rfl, Or.inl ⟨x1, rfl, _, rfl, x1, m, rfl, rfl, hm0, _, rfl, b, _, 0, _, rfl, rfl, SqL.of hb1, rfl, Or.inl ⟨x1, rfl, _, rfl, x1, m, rfl, rfl, ⟨hm0, hm1⟩, ?_⟩⟩⟩
        refine ⟨by show 2 ≤ sizeLine; decide, fun t ht => ?_⟩
        have nbt : b ≠ t := ne_of_none hb1 ht
        refine ⟨t, _, rfl, SqT.of upd_same, rfl, _, _, rfl, _, _, rfl, _, rfl, b, _, 0, 0, rfl, rfl, by rw [upd_ne nbt]; exact hb1, rfl, rfl, _, rfl, ?_⟩
        refine k _ _ (Int.emod_nonneg _ (by omega)) (Int.emod_lt_of_pos _ hm0) (fun a o na e => ?_) ⟨⟨_, y1, c1, ns, upd_same, ?_, nbl, ?_, y10, c10, h63, hns⟩⟩
        · have e1 := hs1 a o na e
          rw [upd_ne na, upd_ne (ne_of_none e1 ht)]
          exact e1
        · rw [upd_ne nbl.symm, upd_ne (ne_of_none hl1 ht)]
          exact hl1
        · exact Int.ediv_nonneg x10 (by omega)
      · -- early, second
        refine ⟨_, rfl, b, _, 1, _, rfl, rfl, SqL.of hb1, rfl, y1, 1, rfl, rfl, _, 39373, rfl, rfl, Or.inr ⟨by decide, by decide⟩, Or.inl ⟨_, rfl, _, 1000000007, rfl, rfl, q9, ?_⟩⟩
        have e0 : 0 ≤ (y1 + 1) * 39373 % 1000000007 := Int.emod_nonneg _ (by decide)
        have e1 : (y1 + 1) * 39373 % 1000000007 < 1000000007 := Int.emod_lt_of_pos _ (by decide)
        refine ⟨_, rfl, _, rfl, _, _, rfl, rfl, Or.inl ⟨by omega, by omega⟩, Or.inl ⟨_, rfl, _, 998244353, rfl, rfl, q8, _, 30011, rfl, rfl, Or.inr ⟨by decide, by decide⟩, Or.inl ⟨_, rfl, _, 998244353, rfl, rfl, q8, ?_⟩⟩⟩
        refine ⟨_, rfl, _, 7, rfl, rfl, ⟨by decide, by decide⟩, Or.inl ⟨_, rfl, _, rfl, _, m, rfl, rfl, hm0, ?_⟩⟩
        exact k _ _ (Int.emod_nonneg _ (by omega)) (Int.emod_lt_of_pos _ hm0) hs1 ⟨⟨x1, y1, c1, ns, hb1, hl1, nbl, x10, y10, c10, h63, hns⟩⟩
end
def p_take : List Ar → W Dat := fun as Q => match as with
  | [.bag, .dat (.int m)] => 0 < m ∧ m < 1073741824 ∧ ∀ r : Int, 0 ≤ r → r < m → Q (.int r)
  | _ => False
theorem FnG.imp {P : Program} {w : World} {K : PySem.W.Frag} {mg : Str → Option Value} {base : Heap} {CX : CXT} {k : Nat} {f : Addr} {fd : FuncData} {ps : List Str} {sp sp' : Sp} (h : FnG P w K mg base CX k f fd ps sp) (i : ∀ vs H Q E, sp' vs H Q E → sp vs H Q E) : FnG P w K mg base CX k f fd ps sp' :=
  ⟨fun vs H Q E q => h.len vs H Q E (i vs H Q E q), fun A o s H ar us vs Q E g r e b v q => h.run A o s H ar us vs Q E g r e b v (i vs H Q E q)⟩
theorem w_take {P : Program} {w : World} {K : PySem.W.Frag} {mg : Str → Option Value} {base : Heap} {f : Addr} {fd : FuncData} (F : Fun K "_law_take" "_law_take" sTake f fd) (b : Blt mg) : FnW P w K mg base 1 f fd ["_law_bag_here", "_law_many"] p_take := by
  refine ⟨FnG.imp (FnG.of (ok_take F b.int)) fun vs H Q E h => ?_⟩
  obtain ⟨B, G, as, wd, ha, hl, P', q, hP⟩ := h
  match as, ha, q with
  | [.bag, .dat (.int m)], .cons a1 (.cons a2 .nil), q =>
    obtain ⟨m0, m1, q⟩ := q
    cases a1 with
    | @bag b l eb =>
      cases a2 with
      | dat r =>
        cases r
        obtain ⟨g1, ⟨o, g2⟩, bg⟩ := wd.bag b l eb
        refine ⟨b, l, m, rfl, m0, m1, bg, fun r H' r0 r1 but bg' => hP _ (q r r0 r1) _ G H' ⟨Same.refl _, ⟨fun a o e => but a o (ne_of_none e g1) (wd.s _ _ e), fun a z => ?_, fun b' l' e' => ?_⟩, fun a o n e => but a o (n b l eb) e, fun _ z _ => z⟩ (.int r)⟩
        · by_cases z' : a = b
          · rw [z'] at z
            exact absurd z bg'.some
          · cases e : H a with
            | none => rfl
            | some o => rw [but a o z' e] at z; cases z
        · rw [eb] at e'
          cases e'
          exact ⟨g1, ⟨o, g2⟩, bg'⟩
end EW
set_option Elab.async false
set_option linter.all false
set_option maxRecDepth 100000
set_option maxHeartbeats 4000000
namespace EW
open PySem PySem.Spec PyProof.Rows L2 EG EM
mutual
def Ot.toD : Ot → Dat
  | .dat d => d
  | .lst ts => .lst true (Ot.toDs ts)
  | .dct es => .dct true (Ot.toDk es)
  | .ins C fs => .ins C (Ot.toDf fs)
  | .tup ts => .tup (Ot.toDs ts)
  | .hole _ => .any
def Ot.toDs : List Ot → List Dat
  | [] => []
  | t :: ts => Ot.toD t :: Ot.toDs ts
def Ot.toDk : List (Key × Ot) → List (Key × Dat)
  | [] => []
  | (k, t) :: ts => (k, Ot.toD t) :: Ot.toDk ts
def Ot.toDf : List (Str × Ot) → List (Str × Dat)
  | [] => []
  | (k, t) :: ts => (k, Ot.toD t) :: Ot.toDf ts
end
theorem toDs_map : ∀ ts : List Ot, Ot.toDs ts = ts.map Ot.toD
  | [] => by simp [Ot.toDs]
  | t :: ts => by simp [Ot.toDs, toDs_map ts]
theorem toDk_map : ∀ ts : List (Key × Ot), Ot.toDk ts = ts.map fun p => (p.1, p.2.toD)
  | [] => by simp [Ot.toDk]
  | (k, t) :: ts => by simp [Ot.toDk, toDk_map ts]
theorem toDf_map : ∀ ts : List (Str × Ot), Ot.toDf ts = ts.map fun p => (p.1, p.2.toD)
  | [] => by simp [Ot.toDf]
  | (k, t) :: ts => by simp [Ot.toDf, toDf_map ts]
section
variable {X : Cx} {pins : List (Addr × Obj)} {σ : L2.St} {s : Shared} {K : PySem.W.Frag} {B : Bg} {O G H : Hp}
theorem sz_vals {κ : Type} [SizeOf κ] : ∀ es : List (κ × Ot), sizeOf (es.map (·.2)) ≤ sizeOf es
  | [] => Nat.le_refl _
  | (k, v) :: r => by
    have := sz_vals r
    simp only [List.map_cons, List.cons.sizeOf_spec, Prod.mk.sizeOf_spec]
    omega
/-- what a freezing gives: all but S as it was -/
structure Froz (X : Cx) (pins : List (Addr × Obj)) (σ : L2.St) (s : Shared) (B : Bg) (O G H G' H' : Hp) (S : List Addr) : Prop where
  inv : L2.Inv X pins σ H' s
  g : Same G G'
  w : Wd B O G' H'
  off : ∀ q, q ∉ S → H' q = H q ∧ G' q = G q
  dom : ∀ q, H' q = none ↔ H q = none
  on : ∀ q, H' q = H q ∨ ∃ od u, H q = some u ∧ Mut (some u) ∧ H' q = some (.frz od u)
mutual
theorem Ow.freeze : ∀ (t : Ot) {v : V} {S : List Addr} {G H : Hp}, Ow K B O G H v t S → L2.Inv X pins σ H s → Wd B O G H → ∃ G' H', Froz X pins σ s B O G H G' H' S ∧ Rp K O G' v t.toD
  | .dat d, _, _, G, H, .dat r, I, w => ⟨G, H, ⟨I, Same.refl _, w, fun _ _ => ⟨rfl, rfl⟩, fun _ => Iff.rfl, fun _ => .inl rfl⟩, by rw [Ot.toD]; exact r⟩
  | .hole p, _, _, G, H, .hole, I, w => ⟨G, H, ⟨I, Same.refl _, w, fun _ _ => ⟨rfl, rfl⟩, fun _ => Iff.rfl, fun _ => .inl rfl⟩, by rw [Ot.toD]; exact .any p⟩
  | .tup ts, _, _, G, H, .tup a b, I, w => by
    obtain ⟨G', H', f, r⟩ := OwAll.freeze ts b I w
    exact ⟨G', H', f, by rw [Ot.toD]; exact .tup (.inl (.inl (f.g _ _ a))) r⟩
  | .lst ts, _, _, G, H, @Ow.lst _ _ _ _ _ p vs _ S a b n, I, w => by
    obtain ⟨G', H', f, r⟩ := OwAll.freeze ts b I w
    obtain ⟨hp, gp⟩ := f.off p n
    have hp' : H' p = some (.lst vs) := by rw [hp]; exact a.h
    have gp' : G' p = none := by rw [gp]; exact a.g
    refine ⟨upd G' p (.lst vs), H', ⟨f.inv, f.g.trans (same_new (Same.refl _) gp'), f.w.freeze hp' a.nb gp', fun q hq => ?_, f.dom, f.on⟩, ?_⟩
    · have n1 : q ≠ p := fun z => hq (by rw [z]; exact List.mem_cons_self)
      obtain ⟨z1, z2⟩ := f.off q fun z => hq (List.mem_cons_of_mem _ z)
      exact ⟨z1, by rw [upd_ne n1]; exact z2⟩
    · rw [Ot.toD]
      exact .lst upd_same (r.mono (same_new (Same.refl _) gp')) fun _ => a.old
  | .dct es, _, _, G, H, @Ow.dct _ _ _ _ _ p kvs _ S a e b n, I, w => by
    obtain ⟨G', H', f, r⟩ := OwAll.freeze (es.map (·.2)) b I w
    obtain ⟨hp, gp⟩ := f.off p n
    have hp' : H' p = some (.dK kvs) := by rw [hp]; exact a.h
    have gp' : G' p = none := by rw [gp]; exact a.g
    obtain ⟨od, I2⟩ := f.inv.lock hp' trivial
    have w2 : Wd B O G' (upd H' p (.frz od (.dK kvs))) := f.w.put gp' a.nb
    refine ⟨upd G' p (.frz od (.dK kvs)), _, ⟨I2, f.g.trans (same_new (Same.refl _) gp'), w2.freeze upd_same a.nb gp', fun q hq => ?_, fun q => ?_, fun q => ?_⟩, ?_⟩
    · have n1 : q ≠ p := fun z => hq (by rw [z]; exact List.mem_cons_self)
      obtain ⟨z1, z2⟩ := f.off q fun z => hq (List.mem_cons_of_mem _ z)
      exact ⟨by rw [upd_ne n1]; exact z1, by rw [upd_ne n1]; exact z2⟩
    · rw [← f.dom q]
      by_cases n1 : q = p
      · rw [n1, upd_same, hp']
        exact ⟨(fun z => nomatch z), (fun z => nomatch z)⟩
      · rw [upd_ne n1]
    · by_cases n1 : q = p
      · rw [n1]
        exact .inr ⟨od, .dK kvs, a.h, trivial, upd_same⟩
      · rw [upd_ne n1]
        exact f.on q
    · rw [Ot.toD, toDk_map]
      refine .dct upd_same (by rw [e, List.map_map]; rfl) ?_ fun _ => a.old
      rw [toDs_map, List.map_map] at r
      rw [List.map_map]
      exact r.mono (same_new (Same.refl _) gp')
  | .ins C es, _, _, G, H, @Ow.ins _ _ _ _ _ p _ dx fs _ S a e b n, I, w => by
    obtain ⟨G', H', f, r⟩ := OwAll.freeze (es.map (·.2)) b I w
    obtain ⟨hp, gp⟩ := f.off p n
    have hp' : H' p = some (.ins C dx fs) := by rw [hp]; exact a.h
    have gp' : G' p = none := by rw [gp]; exact a.g
    refine ⟨upd G' p (.ins C dx fs), H', ⟨f.inv, f.g.trans (same_new (Same.refl _) gp'), f.w.freeze hp' a.nb gp', fun q hq => ?_, f.dom, f.on⟩, ?_⟩
    · have n1 : q ≠ p := fun z => hq (by rw [z]; exact List.mem_cons_self)
      obtain ⟨z1, z2⟩ := f.off q fun z => hq (List.mem_cons_of_mem _ z)
      exact ⟨z1, by rw [upd_ne n1]; exact z2⟩
    · rw [Ot.toD, toDf_map]
      refine .ins upd_same (by rw [e, List.map_map]; rfl) ?_
      rw [toDs_map, List.map_map] at r
      rw [List.map_map]
      exact r.mono (same_new (Same.refl _) gp')
termination_by t => sizeOf t
decreasing_by
  all_goals simp_wf
  all_goals first | omega | (have := sz_vals es; omega)
theorem OwAll.freeze : ∀ (ts : List Ot) {vs : List V} {S : List Addr} {G H : Hp}, OwAll K B O G H vs ts S → L2.Inv X pins σ H s → Wd B O G H → ∃ G' H', Froz X pins σ s B O G H G' H' S ∧ RpAll K O G' vs (Ot.toDs ts)
  | [], _, _, G, H, .nil, I, w => ⟨G, H, ⟨I, Same.refl _, w, fun _ _ => ⟨rfl, rfl⟩, fun _ => Iff.rfl, fun _ => .inl rfl⟩, by rw [Ot.toDs]; exact .nil⟩
  | t :: ts, _, _, G, H, @OwAll.cons _ _ _ _ _ v vs _ _ S S' a b n, I, w => by
    obtain ⟨G1, H1, f1, r1⟩ := Ow.freeze t a I w
    have b' : OwAll K B O G1 H1 vs ts S' := b.frame f1.g fun p hp => by
      obtain ⟨z1, z2⟩ := f1.off p fun z => n p z hp
      obtain ⟨o, ap⟩ := b.mem p hp
      exact ⟨z1, by rw [z2]; exact ap.g⟩
    obtain ⟨G2, H2, f2, r2⟩ := OwAll.freeze ts b' f1.inv f1.w
    refine ⟨G2, H2, ⟨f2.inv, f1.g.trans f2.g, f2.w, fun q hq => ?_, fun q => (f2.dom q).trans (f1.dom q), fun q => ?_⟩, ?_⟩
    · obtain ⟨z1, z2⟩ := f1.off q fun z => hq (List.mem_append_left _ z)
      obtain ⟨y1, y2⟩ := f2.off q fun z => hq (List.mem_append_right _ z)
      exact ⟨y1.trans z1, y2.trans z2⟩
    · rcases f1.on q with e1 | ⟨od, u, e1, m1, e2⟩
      · rcases f2.on q with e3 | ⟨od, u, e3, m3, e4⟩
        · exact .inl (e3.trans e1)
        · exact .inr ⟨od, u, e1.symm.trans e3, m3, e4⟩
      · rcases f2.on q with e3 | ⟨od', u', e3, m3, e4⟩
        · exact .inr ⟨od, u, e1, m1, e3.trans e2⟩
        · rw [e2] at e3
          cases e3
          exact m3.elim
    · rw [Ot.toDs]
      exact .cons (r1.mono f2.g) r2
termination_by ts => sizeOf ts
decreasing_by
  all_goals simp_wf
  all_goals omega
end
end
end EW
set_option Elab.async false
set_option linter.all false
set_option maxRecDepth 100000
set_option maxHeartbeats 4000000
namespace EW
open PySem PySem.Spec PyProof.Rows L2 EG EM
section
variable {K : PySem.W.Frag} {X : Cx}
def fldD (C : Addr) (f : Str) : Dat → Option Dat
  | .ins C' fs => if C' = C then fs.lookup f else none
  | _ => none
abbrev wFld (C : Addr) (f : Str) (fo : Env' → W Dat) : Env' → W Dat := fun E => (fo E).bind fun d => W.of (fldD C f d)
/-- an instance of C that has no attribute m -/
def insD (C : Addr) (m : Str) : Dat → Option Unit
  | .ins C' fs => if C' = C ∧ fs.lookup m = none then some () else none
  | _ => none
abbrev wMeth (C : Addr) (m : Str) (p : List Ar → W Dat) (fo : Env' → W Dat) (fs : Env' → W (List Ar)) : Env' → W Dat := fun E => (fo E).bind fun d => (W.of (insD C m d)).bind fun _ => (fs E).bind fun as => up (p (.dat d.old :: as.map Ar.old))
end
end EW
set_option Elab.async false
set_option linter.all false
set_option maxRecDepth 100000
set_option maxHeartbeats 4000000
namespace EW
open PySem PySem.Spec PyProof.Rows L2 EG EM
section
variable {K : PySem.W.Frag} {X : Cx}
/-- H without the places S -/
def out (H : Hp) (S : List Addr) : Hp := fun a => if a ∈ S then none else H a
theorem out_not {H : Hp} {S : List Addr} {a : Addr} (h : a ∉ S) : out H S a = H a := by unfold out; rw [if_neg h]
/-- the end of such a def -/
def finS (a : Addr) (Q : Sl × Ot → Prop) (E : Env') (s : Sl) : Prop := match (E[(0 : Nat)]? : Option Sl) with
  | some (.tr a' t') => a' = a ∧ Q (s, t')
  | _ => False
def defS (m : Nat) (F : WS) : Addr → Ot → List Ar → W (Sl × Ot) := fun a t as Q => F (.tr a t :: startE (m - 1) as) ⟨fun E => finS a Q E (.dat .non), finS a Q, fun _ => False, fun _ => False, fun _ _ _ => False⟩
def putO {κ : Type} [DecidableEq κ] (f : κ) (t : Ot) : List (κ × Ot) → List (κ × Ot)
  | [] => [(f, t)]
  | (g, x) :: r => if g = f then (g, t) :: r else (g, x) :: putO f t r
/-- what a slot's new thing is as a tree -/
def slOt : Sl → Option Ot
  | .dat d => some (.dat d)
  | .own (.lst true ds) => some (.lst (ds.map .dat))
  | .own (.dct true es) => some (.dct (es.map fun p => (p.1, .dat p.2)))
  | .tr _ t => some t
  | _ => none
theorem OwAll.dats {B : Bg} {O G H : Hp} : ∀ {vs : List V} {ds : List Dat}, RpAll K O G vs ds → OwAll K B O G H vs (ds.map .dat) []
  | _, _, .nil => .nil
  | _, _, .cons r t => .cons (S := []) (.dat r) (OwAll.dats t) fun p hp => absurd hp List.not_mem_nil
/-- the tree at a in slot i, an instance of C -/
def insAt (C : Addr) (E : Env') (i : Nat) : Option (Addr × List (Str × Ot)) := match (E[i]? : Option Sl) with
  | some (.tr a (.ins C' fs)) => if C' = C then some (a, fs) else none
  | _ => none
def sFldSet (i : Nat) (C : Addr) (f : Str) (fn : Env' → W Sl) : WS := fun E k => W.of (insAt C E i) fun r => fn E fun s => W.of (slOt s) fun t => r.2.length < 1000 ∧ k.nx (E.set i (.tr r.1 (.ins C (putO f t r.2))))
end
end EW
set_option Elab.async false
set_option linter.all false
set_option maxRecDepth 100000
set_option maxHeartbeats 4000000
namespace EW
open PySem PySem.Spec PyProof.Rows L2 EG EM
inductive Pth where
  | fld (C : Addr) (f : Str) | key (k : Key) | ix (n : Nat)
def valO {κ : Type} [DecidableEq κ] (es : List (κ × Ot)) (k : κ) : Option Ot := (es.find? fun kv => decide (kv.1 = k)).map (·.2)
def Ot.at : Ot → List Pth → Option Ot
  | t, [] => some t
  | .ins C' fs, .fld C f :: π => if C' = C then (valO fs f).bind fun t => t.at π else none
  | .dct es, .key k :: π => (valO es k).bind fun t => t.at π
  | .tup ts, .ix n :: π => (ts[n]?).bind fun t => t.at π
  | _, _ => none
def setO {κ : Type} [DecidableEq κ] (k : κ) (t : Ot) (es : List (κ × Ot)) : List (κ × Ot) := es.map fun kv => if kv.1 = k then (kv.1, t) else kv
def Ot.put : Ot → List Pth → Ot → Ot
  | _, [], u => u
  | .ins C' fs, .fld C f :: π, u => .ins C' (match valO fs f with | some t => setO f (t.put π u) fs | none => fs)
  | .dct es, .key k :: π, u => .dct (match valO es k with | some t => setO k (t.put π u) es | none => es)
  | .tup ts, .ix n :: π, u => .tup (match ts[n]? with | some t => ts.set n (t.put π u) | none => ts)
  | t, _, _ => t
/-- from v along the way to u -/
def PathV (B : Bg) (H : Hp) : V → List Pth → V → Prop
  | v, [], u => v = u
  | v, .fld C f :: π, u => ∃ a dx fs x, v = .ref a ∧ NotB B a ∧ H a = some (.ins C dx fs) ∧ fs.lookup f = some x ∧ PathV B H x π u
  | v, .key k :: π, u => ∃ a kvs x, v = .ref a ∧ NotB B a ∧ H a = some (.dK kvs) ∧ valV kvs k = some x ∧ PathV B H x π u
  | v, .ix n :: π, u => ∃ a xs x, v = .ref a ∧ NotB B a ∧ H a = some (.tup xs) ∧ xs[n]? = some x ∧ PathV B H x π u
theorem PathV.step {B : Bg} {O G H G' H' : Hp} (t : Stp B O G H G' H') : ∀ {π : List Pth} {v u : V}, PathV B H v π u → PathV B H' v π u
  | [], _, _, h => h
  | .fld C f :: π, _, _, ⟨a, dx, fs, x, e1, n, e2, e3, r⟩ => ⟨a, dx, fs, x, e1, n, t.keep _ _ n e2, e3, r.step t⟩
  | .key k :: π, _, _, ⟨a, kvs, x, e1, n, e2, e3, r⟩ => ⟨a, kvs, x, e1, n, t.keep _ _ n e2, e3, r.step t⟩
  | .ix m :: π, _, _, ⟨a, xs, x, e1, n, e2, e3, r⟩ => ⟨a, xs, x, e1, n, t.keep _ _ n e2, e3, r.step t⟩
section
variable {K : PySem.W.Frag} {B : Bg} {O G H : Hp}
/-- each dict's and instance's names are all different -/
def Ot.nd : Ot → List Pth → Prop
  | _, [] => True
  | .ins _ fs, .fld _ f :: π => (fs.map (·.1)).Nodup ∧ ∀ t, valO fs f = some t → t.nd π
  | .dct es, .key k :: π => (es.map (·.1)).Nodup ∧ ∀ t, valO es k = some t → t.nd π
  | .tup ts, .ix n :: π => ∀ t, ts[n]? = some t → t.nd π
  | _, _ => True
end
end EW
set_option Elab.async false
set_option linter.all false
set_option maxRecDepth 100000
set_option maxHeartbeats 4000000
namespace EW
open PySem PySem.Spec PyProof.Rows L2 EG EM
/-- something is asked -/
def W.req (P : Prop) : W Unit := fun Q => P ∧ Q ()
theorem W.Mono.req {P : Prop} : W.Mono (W.req P) := fun _ _ h q => ⟨q.1, h _ q.2⟩
/-- the tree in slot i has the way π, and what is there -/
def Way (E : Env') (i : Nat) (π : List Pth) (u : Ot) : Prop := ∃ a t, E[i]? = some (.tr a t) ∧ t.at π = some u ∧ t.nd π
section
variable {K : PySem.W.Frag} {X : Cx}
abbrev yFld (i : Nat) (C : Addr) (f : Str) (fp : Env' → W (List Pth)) : Env' → W (List Pth) := fun E => (fp E).bind fun π => (W.req (∃ u, Way E i (π ++ [.fld C f]) u)).bind fun _ => W.ret (π ++ [.fld C f])
abbrev yKey (i : Nat) (fp : Env' → W (List Pth)) (fk : Env' → W Dat) : Env' → W (List Pth) := fun E => (fp E).bind fun π => (fk E).bind fun d => (W.of (keyD d)).bind fun k => (W.req (∃ u, Way E i (π ++ [.key k]) u)).bind fun _ => W.ret (π ++ [.key k])
/-- in its place, or at the end -/
def putT {κ : Type} [DecidableEq κ] (es : List (κ × Ot)) (k : κ) (t : Ot) : List (κ × Ot) := if (es.any fun kv => decide (kv.1 = k)) = true then setO k t es else es ++ [(k, t)]
end
end EW
set_option Elab.async false
set_option linter.all false
set_option maxRecDepth 100000
set_option maxHeartbeats 4000000
namespace EW
open PySem PySem.Spec PyProof.Rows L2 EG EM
section
variable {K : PySem.W.Frag} {X : Cx}
/-- P[k] = e, P a way to an own dict -/
def sPPut (i : Nat) (fp : Env' → W (List Pth)) (fk : Env' → W Dat) (fn : Env' → W Sl) : WS := fun E k => fn E fun s => W.of (slOt s) fun t => fp E fun π => fk E fun kd => W.of (keyD kd) fun key =>
  ∃ a r es, E[i]? = some (.tr a r) ∧ r.at π = some (.dct es) ∧ r.nd π ∧ (es.map (·.1)).Nodup ∧ es.length < sizeLine ∧ k.nx (E.set i (.tr a (r.put π (.dct (putT es key t)))))
end
end EW
set_option Elab.async false
set_option linter.all false
set_option maxRecDepth 100000
set_option maxHeartbeats 4000000
namespace EW
open PySem PySem.Spec PyProof.Rows L2 EG EM
section
variable {K : PySem.W.Frag} {X : Cx}
mutual
theorem Ow.older {B : Bg} {O O' G H : Hp} (s : ∀ a, O a = none → O' a = none) : ∀ {v : V} {t : Ot} {S : List Addr}, Ow K B O G H v t S → Ow K B O' G H v t S
  | _, _, _, .dat r => .dat (r.older s)
  | _, _, _, .lst a b n => .lst ⟨s _ a.old, a.g, a.nb, a.h⟩ (OwAll.older s b) n
  | _, _, _, .dct a e b n => .dct ⟨s _ a.old, a.g, a.nb, a.h⟩ e (OwAll.older s b) n
  | _, _, _, .ins a e b n => .ins ⟨s _ a.old, a.g, a.nb, a.h⟩ e (OwAll.older s b) n
  | _, _, _, .tup a b => .tup a (OwAll.older s b)
  | _, _, _, .hole => .hole
theorem OwAll.older {B : Bg} {O O' G H : Hp} (s : ∀ a, O a = none → O' a = none) : ∀ {vs : List V} {ts : List Ot} {S : List Addr}, OwAll K B O G H vs ts S → OwAll K B O' G H vs ts S
  | _, _, _, .nil => .nil
  | _, _, _, .cons a b n => .cons (Ow.older s a) (OwAll.older s b) n
end
/-- a new instance: its __init__ does p -/
abbrev nMake (C : Addr) (p : Addr → Ot → List Ar → W (Sl × Ot)) (fs : Env' → W (List Ar)) : Env' → W Sl := fun E => (fs E).bind fun as => fun Q => ∀ x, up (p x (.ins C []) (as.map Ar.old)) fun r => r.1 = .dat .non ∧ Q (.tr x r.2)
def frzD : Sl → Option Dat
  | .dat d => some d
  | .own (.lst true ds) => some (.lst true ds)
  | .own (.dct true es) => some (.dct true es)
  | .tr _ t => some t.toD
  | _ => none
theorem slF_frz {pins : List (Addr × Obj)} {σ : L2.St} {s : Shared} {B : Bg} {O G H : Hp} {v : V} {sl : Sl} {d : Dat} {S : List Addr} (h : SlF K B O G H (some v) sl S) (e : frzD sl = some d) (I : L2.Inv X pins σ H s) (w : Wd B O G H) : ∃ G' H', Froz X pins σ s B O G H G' H' S ∧ Rp K O G' v d := by
  cases h with
  | dat r => cases e; exact ⟨G, H, ⟨I, Same.refl _, w, fun _ _ => ⟨rfl, rfl⟩, fun _ => Iff.rfl, fun _ => .inl rfl⟩, r⟩
  | @ownL p vs ds a r =>
    cases e
    obtain ⟨G', H', f1, f2⟩ := Ow.freeze (X := X) _ (Ow.lst a (.dats r) List.not_mem_nil) I w
    refine ⟨G', H', f1, ?_⟩
    rw [Ot.toD, toDs_map, List.map_map] at f2
    have : ds.map (Ot.toD ∘ Ot.dat) = ds := by
      rw [show (Ot.toD ∘ Ot.dat) = id from funext fun d => by simp [Ot.toD], List.map_id]
    rw [this] at f2
    exact f2
  | @ownD p kvs es a e' r =>
    cases e
    have ow : Ow K B O G H (.ref p) (.dct (es.map fun q => (q.1, .dat q.2))) [p] := .dct a (by rw [e', List.map_map]; rfl) (by
      have := OwAll.dats (B := B) (H := H) r
      rw [List.map_map] at this ⊢
      exact this) List.not_mem_nil
    obtain ⟨G', H', f1, f2⟩ := Ow.freeze (X := X) _ ow I w
    refine ⟨G', H', f1, ?_⟩
    rw [Ot.toD, toDk_map, List.map_map] at f2
    have : es.map ((fun p : Key × Ot => (p.1, p.2.toD)) ∘ fun q : Key × Dat => (q.1, Ot.dat q.2)) = es := by
      rw [show ((fun p : Key × Ot => (p.1, p.2.toD)) ∘ fun q : Key × Dat => (q.1, Ot.dat q.2)) = id from funext fun d => by simp [Ot.toD], List.map_id]
    rw [this] at f2
    exact f2
  | tr ow => cases e; exact Ow.freeze _ ow I w
  | _ => cases e
theorem pe_fz {e : Expr} {t : TE} (h : PE X e t) : PE X e (fun σ H Q => t σ H fun v H1 => ∀ pins s, L2.Inv X pins σ H1 s → ∃ H2, L2.Inv X pins σ H2 s ∧ Q v H2) :=
  ⟨fun pins s σ H Q I q => thn (h.run pins s σ H _ I q) fun u s1 ⟨v, H1, I1, r, q1⟩ => let ⟨H2, I2, q2⟩ := q1 pins s1 I1; ⟨v, H2, I2, r, q2⟩⟩
abbrev wFz (fn : Env' → W Sl) : Env' → W Dat := fun E => (fn E).bind fun s => W.of (frzD s)
theorem px_fz {e : Expr} {fn : Env' → W Sl} (h : PN K X e fn) : PX K X e (wFz fn) := by
  refine ⟨imp (pe_fz h.pe) fun σ H Q ⟨B, O, G, E, w, eo, q⟩ => ?_, fun E => (h.mono E).bind fun _ => .of⟩
  refine ⟨B, O, G, E, w, eo, h.mono E _ _ (fun s q1 v G1 H1 t1 nw pins s1 I1 => ?_) q⟩
  obtain ⟨d, e, q2⟩ := of_some q1
  obtain ⟨S, n1, n2⟩ := nw
  obtain ⟨G', H', f, r⟩ := slF_frz n1 e I1 t1.w
  refine ⟨H', f.inv, q2 v G' H' ⟨t1.g.trans f.g, f.w, fun a o n z => ?_, fun a z1 z2 => ?_⟩ r⟩
  · have na : a ∉ S := fun y => by rw [n2 a y] at z; cases z
    rw [(f.off a na).1]
    exact t1.keep a o n z
  · have na : a ∉ S := fun y => z2 (n2 a y)
    rw [(f.off a na).2]
    exact t1.new a z1 z2
end
end EW
set_option Elab.async false
set_option linter.all false
set_option maxRecDepth 100000
set_option maxHeartbeats 4000000
namespace EW
open PySem PySem.Spec PyProof.Rows L2 EG EM
section
variable {K : PySem.W.Frag} {X : Cx}
def dcW (g : Dat → Env' → Option Env') (tt : Env' → W Bool) (tk tv : Env' → W Dat) (E : Env') : List Dat → List (Key × Dat) → W Sl
  | [], acc => W.ret (.own (.dct true acc))
  | d :: ds, acc => (W.of (g d E)).bind fun E1 => (tt E1).bind fun b => cnd b ((tk E1).bind fun kd => (tv E1).bind fun z => (W.of (keyD kd)).bind fun k => dcW g tt tk tv E ds (putD acc k z)) (dcW g tt tk tv E ds acc)
end
end EW
set_option Elab.async false
set_option linter.all false
set_option maxRecDepth 100000
set_option maxHeartbeats 4000000
namespace EW
open PySem PySem.Spec PyProof.Rows L2 EG EM
section
variable {K : PySem.W.Frag} {X : Cx}
def lc2i (g : Dat → Env' → Option Env') (tt : Env' → W Bool) (te : Env' → W Dat) (E : Env') : List Dat → List Dat → (List Dat → W Dat) → W Dat
  | [], acc, k => k acc
  | d :: ds, acc, k => (W.of (g d E)).bind fun E1 => (tt E1).bind fun b => cnd b ((te E1).bind fun y => (W.req (acc.length < sizeLine)).bind fun _ => lc2i g tt te E ds (acc ++ [y]) k) (lc2i g tt te E ds acc k)
def lc2W (g : Dat → Env' → Option Env') (tt : Env' → W Bool) (fi : Env' → W (List Dat)) (vs1 : List Nat) (g1 : Dat → Env' → Option Env') (tt1 : Env' → W Bool) (te : Env' → W Dat) (E : Env') : List Dat → List Dat → W Dat
  | [], acc => W.ret (.lst true acc)
  | d :: ds, acc => (W.of (g d E)).bind fun E1 => (tt E1).bind fun b => cnd b ((fi E1).bind fun ds1 => lc2i g1 tt1 te (wipeE E1 vs1) ds1 acc (lc2W g tt fi vs1 g1 tt1 te E ds)) (lc2W g tt fi vs1 g1 tt1 te E ds acc)
abbrev wLc2 (fi : Env' → W (List Dat)) (g : Dat → Env' → Option Env') (ft : Env' → W Bool) (fi1 : Env' → W (List Dat)) (vs1 : List Nat) (g1 : Dat → Env' → Option Env') (ft1 : Env' → W Bool) (fe : Env' → W Dat) (vs : List Nat) : Env' → W Dat := fun E => (fi E).bind fun ds => lc2W g ft fi1 vs1 g1 ft1 fe (wipeE E vs) ds []
end
end EW
set_option Elab.async false
set_option linter.all false
set_option maxRecDepth 100000
set_option maxHeartbeats 4000000
namespace EW
open PySem PySem.Spec PyProof.Rows L2 EG EM
abbrev nDc (fi : Env' → W (List Dat)) (g : Dat → Env' → Option Env') (ft : Env' → W Bool) (fk fv : Env' → W Dat) (vs : List Nat) : Env' → W Sl := fun E => (fi E).bind fun ds => dcW g ft fk fv (wipeE E vs) ds []
/-- a program that promises nothing -/
def pNo : List Ar → W Dat := fun _ => W.fail
section
variable {P : Program} {w : World} {K : PySem.W.Frag} {mg : Str → Option Value} {base : Heap}
theorem fnw_no {k : Nat} {f : Addr} {fd : FuncData} {ps : List Str} : FnW P w K mg base k f fd ps pNo := by
  refine ⟨⟨fun vs H Q E h => ?_, fun A out s H ar us vs Q E _ _ _ _ _ h => ?_⟩⟩
  · obtain ⟨B, G, as, _, ha, hl, _⟩ := h
    exact (Paired.length ha).trans hl
  · obtain ⟨B, G, as, _, ha, hl, P', q, _⟩ := h
    exact (show False from q).elim
end
end EW
set_option Elab.async false
set_option linter.all false
set_option maxRecDepth 100000
set_option maxHeartbeats 4000000
namespace EW
open PySem PySem.Spec PyProof.Rows L2 EG EM
mutual
/-- all lists and dicts in it are new -/
def Dat.fresh : Dat → Bool
  | .lst t ds => t && Dat.freshs ds
  | .tup ds => Dat.freshs ds
  | .dct t es => t && Dat.freshk es
  | .ins _ _ => false
  | .odd _ _ _ => false
  | _ => true
def Dat.freshs : List Dat → Bool
  | [] => true
  | d :: ds => Dat.fresh d && Dat.freshs ds
def Dat.freshk : List (Key × Dat) → Bool
  | [] => true
  | (_, d) :: ds => Dat.fresh d && Dat.freshk ds
end
theorem freshk_map : ∀ es : List (Key × Dat), Dat.freshk es = Dat.freshs (es.map (·.2))
  | [] => by simp [Dat.freshk, Dat.freshs]
  | (k, d) :: es => by simp [Dat.freshk, Dat.freshs, freshk_map es]
/-- as H at S, as H' elsewhere -/
def bk (H : Hp) (S : List Addr) (H' : Hp) : Hp := fun p => if p ∈ S then H p else H' p
section
variable {K : PySem.W.Frag} {X : Cx}
theorem out_sq {G : Hp} {S : List Addr} {a : Addr} {xs : List V} (hG : ∀ p ∈ S, ∀ xs, G p ≠ some (.tup xs) ∧ ∀ o, G p ≠ some (.frz o (.tup xs))) (h : SqT K G a xs) : SqT K (out G S) a xs := by
  rcases h with (h | ⟨o, h⟩) | h
  · exact .inl (.inl (by rw [out_not fun z => (hG a z xs).1 h]; exact h))
  · exact .inl (.inr ⟨o, by rw [out_not fun z => (hG a z xs).2 o h]; exact h⟩)
  · exact .inr h
mutual
theorem Rp.off {O G : Hp} {S : List Addr} (hS : ∀ p ∈ S, O p ≠ none) (hG : ∀ p ∈ S, ∀ xs, G p ≠ some (.tup xs) ∧ ∀ o, G p ≠ some (.frz o (.tup xs))) : ∀ {v : V} {d : Dat}, Rp K O G v d → d.fresh = true → Rp K O (out G S) v d
  | _, _, .non, _ => .non
  | _, _, .bl b, _ => .bl b
  | _, _, .int i, _ => .int i
  | _, _, .str x, _ => .str x
  | _, _, .any a, _ => .any a
  | _, _, .adr a, _ => .adr a
  | _, _, .lst h1 h2 h3, f => by
    rw [Dat.fresh, Bool.and_eq_true] at f
    exact .lst (by rw [out_not fun z => hS _ z (h3 f.1)]; exact h1) (RpAll.off hS hG h2 f.2) h3
  | _, _, .tup h1 h2, f => by
    rw [Dat.fresh] at f
    exact .tup (out_sq hG h1) (RpAll.off hS hG h2 f)
  | _, _, .dct h1 h2 h3 h4, f => by
    rw [Dat.fresh, Bool.and_eq_true, freshk_map] at f
    exact .dct (by rw [out_not fun z => hS _ z (h4 f.1)]; exact h1) h2 (RpAll.off hS hG h3 f.2) h4
  | _, _, .ins _ _ _, f => by
    rw [Dat.fresh] at f
    cases f
  | _, _, .odd _ _ _ _ _ _ _, f => by
    rw [Dat.fresh] at f
    cases f
theorem RpAll.off {O G : Hp} {S : List Addr} (hS : ∀ p ∈ S, O p ≠ none) (hG : ∀ p ∈ S, ∀ xs, G p ≠ some (.tup xs) ∧ ∀ o, G p ≠ some (.frz o (.tup xs))) : ∀ {vs : List V} {ds : List Dat}, RpAll K O G vs ds → Dat.freshs ds = true → RpAll K O (out G S) vs ds
  | _, _, .nil, _ => .nil
  | _, _, .cons h t, f => by
    rw [Dat.freshs, Bool.and_eq_true] at f
    exact .cons (Rp.off hS hG h f.1) (RpAll.off hS hG t f.2)
end
def trAt (E : Env') (i : Nat) : Option (Addr × Ot) := match E[i]? with
  | some (.tr a t) => some (a, t)
  | _ => none
end
end EW
set_option Elab.async false
set_option linter.all false
set_option maxRecDepth 100000
set_option maxHeartbeats 4000000
namespace EX
open PySem PySem.Spec PyProof.Rows L2
end EX
set_option Elab.async false
set_option linter.all false
set_option maxRecDepth 100000
set_option maxHeartbeats 4000000
namespace EW
open PySem PySem.Spec PyProof.Rows L2 EG EM
section
variable {K : PySem.W.Frag} {X : Cx}
inductive Rs where
  | ok (d : Dat) | ex (C : Addr) (fs : List (Str × Dat))
def defY (m : Nat) (F : WS) : List Ar → W Rs := fun as Q => F (startE m as) ⟨fun _ => Q (.ok .non), fun _ s => onDat (fun d => Q (.ok d)) s, fun _ => False, fun _ => False, fun C fs _ => Q (.ex C fs)⟩
end
end EW
set_option Elab.async false
set_option linter.all false
set_option maxRecDepth 100000
set_option maxHeartbeats 4000000
namespace EW
open PySem PySem.Spec PyProof.Rows L2 EG EM
section
variable {K : PySem.W.Frag} {X : Cx}
abbrev yOk (f : Env' → W Dat) : Env' → W Rs := fun E => (f E).bind fun d => W.ret (.ok d)
theorem XdOk.older {B : Bg} {O O' G H : Hp} {d : Option Addr} {fs : List (Str × Dat)} (h : XdOk K B O G H d fs) (s : ∀ a, O a = none → O' a = none) : XdOk K B O' G H d fs := by
  cases d with
  | none => exact h
  | some d =>
    obtain ⟨fvs, h1, h2, h3⟩ := h
    exact ⟨fvs, h1, h2, h3.older s⟩
abbrev yCall (p : List Ar → W Rs) (fs : Env' → W (List Ar)) : Env' → W Rs := fun E => (fs E).bind fun as => up (p (as.map Ar.old))
def onRs (E : Env') (k : Kn) (g : Dat → Prop) : Rs → Prop
  | .ok d => g d
  | .ex C fs => k.ex C fs E
def sRetY (f : Env' → W Rs) : WS := fun E k => f E (onRs E k fun d => k.rt E (.dat d))
def sExprY (f : Env' → W Rs) : WS := fun E k => f E (onRs E k fun _ => k.nx E)
def sSetY (i : Nat) (f : Env' → W Rs) : WS := fun E k => f E (onRs E k fun d => k.nx (E.set i (.dat d)))
end
end EW
set_option Elab.async false
set_option linter.all false
set_option maxRecDepth 100000
set_option maxHeartbeats 4000000
namespace EW
open PySem PySem.Spec PyProof.Rows L2 EG EM
section
variable {K : PySem.W.Frag} {X : Cx}
/-- behind a suite: its name is gone -/
def offN (i : Nat) (k : Kn) : Kn := ⟨fun E => k.nx (E.set i .no), k.rt, fun E => k.bk (E.set i .no), fun E => k.ct (E.set i .no), fun _ _ _ => False⟩
def exTry (i : Nat) (hd : Addr → Option Addr → Addr → WS) (k : Kn) (C : Addr) (fs : List (Str × Dat)) (E : Env') : Option Bool → Prop
  | some true => ∀ a d, hd a d C (E.set i (.exc a d C fs)) (offN i k)
  | some false => k.ex C fs E
  | none => False
def sTry (i : Nat) (mch : Addr → Option Bool) (F1 : WS) (hd : Addr → Option Addr → Addr → WS) : WS := fun E k => F1 E { k with ex := fun C fs E' => exTry i hd k C fs E' (mch C) }
end
end EW
set_option Elab.async false
set_option linter.all false
set_option maxRecDepth 100000
set_option maxHeartbeats 4000000
namespace EW
open PySem PySem.Spec PyProof.Rows L2 EG EM
def excAt (E : Env') (i : Nat) (a : Addr) (d : Option Addr) (C : Addr) : Option (List (Str × Dat)) := match E[i]? with
  | some (.exc a' d' C' fs) => if a' = a ∧ d' = d ∧ C' = C then some fs else none
  | _ => none
section
variable {K : PySem.W.Frag} {X : Cx} {a C : Addr} {oe : Obj} {d : Option Addr} {i : Nat}
abbrev wExF (K : PySem.W.Frag) (i : Nat) (a : Addr) (d : Option Addr) (C : Addr) (n : Str) : Env' → W Dat := fun E => (W.req (XfC K C ∧ PySem.W.findIn K (.ref C) n = some none)).bind fun _ => (W.of (excAt E i a d C)).bind fun fs => W.of (fs.lookup n)
abbrev wExI (K : PySem.W.Frag) (i : Nat) (a : Addr) (d : Option Addr) (C : Addr) (cv : Value) : Env' → W Dat := fun E => (W.req (ExcC K C)).bind fun _ => (W.of (excAt E i a d C)).bind fun _ => (W.of (PySem.W.kitOne K (.ref C) cv)).bind fun b => W.ret (.bl b)
end
end EW
set_option Elab.async false
set_option linter.all false
set_option maxRecDepth 100000
set_option maxHeartbeats 4000000
set_option Elab.async false
set_option linter.all false
set_option maxRecDepth 100000
set_option maxHeartbeats 4000000
namespace EW
open PySem PySem.Spec PyProof.Rows L2 EG EM
inductive Rz where
  | ok (s : Sl) (t : Ot) | ex (C : Addr) (fs : List (Str × Dat)) (t : Ot)
section
variable {K : PySem.W.Frag}
def finX (a : Addr) (Q : Rz → Prop) (C : Addr) (fs : List (Str × Dat)) (E : Env') : Prop := match (E[(0 : Nat)]? : Option Sl) with
  | some (.tr a' t') => a' = a ∧ Q (.ex C fs t')
  | _ => False
def defZ (m : Nat) (F : WS) : Addr → Ot → List Ar → W Rz := fun a t as Q => F (.tr a t :: startE (m - 1) as) ⟨fun E => finS a (fun r => Q (.ok r.1 r.2)) E (.dat .non), finS a (fun r => Q (.ok r.1 r.2)), fun _ => False, fun _ => False, finX a Q⟩
theorem EnvOk.one {B : Bg} {O G H : Hp} {a : Addr} {t : Ot} {σ : L2.St} {E : Env'} (h : EnvOk K B O G H σ E) (e : E[(0 : Nat)]? = some (.tr a t)) : EnvOk K B O G H [some (.ref a)] [.tr a t] := by
  obtain ⟨x, S, hx, ok⟩ := h.get e
  cases ok with
  | tr ow =>
    refine ⟨rfl, fun _ => S, fun i y u e1 e2 => ?_, fun i j p li lj _ _ => ?_⟩
    · match i with
      | 0 =>
        cases e1
        cases e2
        exact .tr ow
      | n + 1 => simp at e1
    · have : i < 1 := li
      have : j < 1 := lj
      omega
end
end EW
set_option Elab.async false
set_option linter.all false
set_option maxRecDepth 100000
set_option maxHeartbeats 4000000
namespace EW
open PySem PySem.Spec PyProof.Rows L2 EG EM
mutual
def Ot.old : Ot → Ot
  | .dat d => .dat d.old
  | .lst ts => .lst (Ot.olds ts)
  | .dct es => .dct (Ot.oldk es)
  | .ins C fs => .ins C (Ot.oldf fs)
  | .tup ts => .tup (Ot.olds ts)
  | .hole a => .hole a
def Ot.olds : List Ot → List Ot
  | [] => []
  | t :: ts => Ot.old t :: Ot.olds ts
def Ot.oldk : List (Key × Ot) → List (Key × Ot)
  | [] => []
  | (k, t) :: ts => (k, Ot.old t) :: Ot.oldk ts
def Ot.oldf : List (Str × Ot) → List (Str × Ot)
  | [] => []
  | (k, t) :: ts => (k, Ot.old t) :: Ot.oldf ts
end
theorem otolds_map : ∀ ts : List Ot, Ot.olds ts = ts.map Ot.old
  | [] => by simp [Ot.olds]
  | t :: ts => by simp [Ot.olds, otolds_map ts]
theorem otoldk_map : ∀ ts : List (Key × Ot), Ot.oldk ts = ts.map fun p => (p.1, p.2.old)
  | [] => by simp [Ot.oldk]
  | (k, t) :: ts => by simp [Ot.oldk, otoldk_map ts]
theorem otoldf_map : ∀ ts : List (Str × Ot), Ot.oldf ts = ts.map fun p => (p.1, p.2.old)
  | [] => by simp [Ot.oldf]
  | (k, t) :: ts => by simp [Ot.oldf, otoldf_map ts]
section
variable {K : PySem.W.Frag} {B : Bg} {O O' G H : Hp}
mutual
theorem Ow.toOld : ∀ {v : V} {t : Ot} {S : List Addr}, Ow K B O G H v t S → (∀ p ∈ S, O' p = none) → Ow K B O' G H v t.old S
  | _, _, _, .dat r, _ => by
    rw [Ot.old]
    exact .dat r.toOld
  | _, _, _, .lst a b n, h => by
    rw [Ot.old]
    exact .lst ⟨h _ List.mem_cons_self, a.g, a.nb, a.h⟩ (OwAll.toOld b fun p hp => h p (List.mem_cons_of_mem _ hp)) n
  | _, _, _, .dct a e b n, h => by
    rw [Ot.old, otoldk_map]
    have b' := OwAll.toOld b fun p hp => h p (List.mem_cons_of_mem _ hp)
    rw [otolds_map, List.map_map] at b'
    exact .dct ⟨h _ List.mem_cons_self, a.g, a.nb, a.h⟩ (by rw [e, List.map_map]; rfl) (by rw [List.map_map]; exact b') n
  | _, _, _, .ins a e b n, h => by
    rw [Ot.old, otoldf_map]
    have b' := OwAll.toOld b fun p hp => h p (List.mem_cons_of_mem _ hp)
    rw [otolds_map, List.map_map] at b'
    exact .ins ⟨h _ List.mem_cons_self, a.g, a.nb, a.h⟩ (by rw [e, List.map_map]; rfl) (by rw [List.map_map]; exact b') n
  | _, _, _, .tup a b, h => by
    rw [Ot.old]
    exact .tup a (OwAll.toOld b h)
  | _, _, _, .hole, _ => by
    rw [Ot.old]
    exact .hole
theorem OwAll.toOld : ∀ {vs : List V} {ts : List Ot} {S : List Addr}, OwAll K B O G H vs ts S → (∀ p ∈ S, O' p = none) → OwAll K B O' G H vs (Ot.olds ts) S
  | _, _, _, .nil, _ => by
    rw [Ot.olds]
    exact .nil
  | _, _, _, .cons a b n, h => by
    rw [Ot.olds]
    exact .cons (Ow.toOld a fun p hp => h p (List.mem_append_left _ hp)) (OwAll.toOld b fun p hp => h p (List.mem_append_right _ hp)) n
end
end
end EW
set_option Elab.async false
set_option linter.all false
set_option maxRecDepth 100000
set_option maxHeartbeats 4000000
set_option Elab.async false
set_option linter.all false
set_option maxRecDepth 100000
set_option maxHeartbeats 4000000
set_option Elab.async false
set_option linter.all false
set_option maxRecDepth 100000
set_option maxHeartbeats 4000000
set_option Elab.async false
set_option linter.all false
set_option maxRecDepth 100000
set_option maxHeartbeats 4000000
namespace EW
open PySem PySem.Spec PyProof.Rows L2 EG EM
section
variable {K : PySem.W.Frag} {X : Cx}
abbrev wBorF (i : Nat) (f : Env' → W Dat) : Env' → W Dat := fun E => (W.of (trAt E i)).bind fun r => (f (E.set i (.dat r.2.toD))).bind fun d => W.of (flatO d)
abbrev bBorF (i : Nat) (f : Env' → W Bool) : Env' → W Bool := fun E => (W.of (trAt E i)).bind fun r => f (E.set i (.dat r.2.toD))
end
end EW
set_option Elab.async false
set_option linter.all false
set_option maxRecDepth 100000
set_option maxHeartbeats 4000000
namespace EW
open PySem PySem.Spec PyProof.Rows L2 EG EM
section
variable {K : PySem.W.Frag} {X : Cx}
/-- an instance of C -/
def insC (C : Addr) : Dat → Option Unit
  | .ins C' _ => if C' = C then some () else none
  | _ => none
abbrev wLenI (C : Addr) (p : List Ar → W Dat) (f : Env' → W Dat) : Env' → W Dat := fun E => (f E).bind fun d => (W.of (insC C d)).bind fun _ => fun Q => up (p [.dat d.old]) fun r => ∃ n : Int, r = .int n ∧ 0 ≤ n ∧ n < 2 ^ 63 ∧ Q (.int n)
abbrev wIxI (C : Addr) (p : List Ar → W Dat) (f fk : Env' → W Dat) : Env' → W Dat := fun E => (f E).bind fun d => (fk E).bind fun k => (W.of (insC C d)).bind fun _ => up (p [.dat d.old, .dat k.old])
def tyV : Dat → Value
  | .ins C _ => .ref C
  | d => .type ((tyN d).getD "")
def kitD (K : PySem.W.Frag) (T : Addr) : Dat → Option Bool
  | .any => none
  | .adr _ => none
  | .odd _ _ _ => none
  | d => PySem.W.kitOne K (tyV d) (.ref T)
structure IsiC (K : PySem.W.Frag) (C : Addr) : Prop where
  c : Cls K C
  ha : PySem.W.findIn K (.ref C) "__class__" = some (some (.builtin "object.__class__"))
  hn : PySem.W.specialIn K (.builtin "object.__class__") "__get__" = some (some (.builtin "getset_descriptor.__get__"))
  tk : PySem.W.takesIn K (.builtin "object.__class__") = some true
  mo : PySem.W.mroIn K C (.type "object") = some true
abbrev wIsiC (K : PySem.W.Frag) (T : Addr) (f : Env' → W Dat) : Env' → W Dat := fun E => (f E).bind fun d => (W.req (∀ C fs, d = .ins C fs → IsiC K C)).bind fun _ => (W.of (kitD K T d)).bind fun b => W.ret (.bl b)
end
end EW
set_option Elab.async false
set_option linter.all false
set_option maxRecDepth 100000
set_option maxHeartbeats 4000000
namespace EW
open PySem PySem.Spec PyProof.Rows L2 EG EM
inductive Zr where
  | ok (d : Dat) (E : Env') | ex (C : Addr) (fs : List (Str × Dat)) (E : Env')
/-- where it went well -/
def zOn (Q : Zr → Prop) (g : Dat → Env' → Prop) : Zr → Prop
  | .ok d E' => g d E'
  | .ex C fs E' => Q (.ex C fs E')
section
variable {K : PySem.W.Frag} {X : Cx}
abbrev zPx (f : Env' → W Dat) : Env' → W Zr := fun E => (f E).bind fun d => W.ret (.ok d E)
abbrev zCallS (i : Nat) (p : Addr → Ot → List Ar → W (Sl × Ot)) (fs : Env' → W (List Ar)) : Env' → W Zr := fun E => (W.of (trAt E i)).bind fun r => (fs E).bind fun as => fun Q => up (p r.1 r.2.old (as.map Ar.old)) fun z => ∃ d, z.1 = .dat d ∧ Q (.ok d (E.set i (.tr r.1 z.2)))
/-- of a def with an own tree that may raise -/
def zrOf (E : Env') (i : Nat) (a : Addr) (Q : Zr → Prop) : Rz → Prop
  | .ok s t => ∃ d, s = .dat d ∧ Q (.ok d (E.set i (.tr a t)))
  | .ex C fs t => Q (.ex C fs (E.set i (.tr a t)))
/-- the tree at a in slot i is an instance of C without an attribute m -/
def insTr (C : Addr) (m : Str) (E : Env') (i : Nat) : Option (Addr × Ot) := match (E[i]? : Option Sl) with
  | some (.tr a (.ins C' fs)) => if C' = C ∧ fs.lookup m = none then some (a, .ins C' fs) else none
  | _ => none
abbrev zMethZ (i : Nat) (C : Addr) (m : Str) (p : Addr → Ot → List Ar → W Rz) (fs : Env' → W (List Ar)) : Env' → W Zr := fun E => (W.of (insTr C m E i)).bind fun r => (fs E).bind fun as => fun Q => up (p r.1 r.2.old (as.map Ar.old)) (zrOf E i r.1 Q)
abbrev zOp (o : Dat → Dat → Option Dat) (fa : Env' → W Zr) (fb : Env' → W Dat) : Env' → W Zr := fun E Q => fa E (zOn Q fun d E' => fb E' fun d2 => W.of (o d d2) fun r => Q (.ok r E'))
inductive Zb where
  | ok (b : Bool) (E : Env') | ex (C : Addr) (fs : List (Str × Dat)) (E : Env')
def zbOn (Q : Zb → Prop) (g : Dat → Env' → Prop) : Zr → Prop
  | .ok d E' => g d E'
  | .ex C fs E' => Q (.ex C fs E')
abbrev zbOp (o : Dat → Dat → Option Dat) (fa : Env' → W Zr) (fb : Env' → W Dat) : Env' → W Zb := fun E Q => fa E (zbOn Q fun d E' => fb E' fun d2 => W.of ((o d d2).bind toB) fun r => Q (.ok r E'))
def zK (k : Kn) (g : Dat → Env' → Prop) : Zr → Prop
  | .ok d E' => g d E'
  | .ex C fs E' => k.ex C fs E'
def sExprZ (f : Env' → W Zr) : WS := fun E k => f E (zK k fun _ E' => k.nx E')
def sRetZ (f : Env' → W Zr) : WS := fun E k => f E (zK k fun d E' => k.rt E' (.dat d))
def sSetZ (i : Nat) (f : Env' → W Zr) : WS := fun E k => f E (zK k fun d E' => k.nx (E'.set i (.dat d)))
def sIfZ (c : Env' → W Zb) (F1 F2 : WS) : WS := fun E k => c E fun r => match r with
  | .ok true E' => F1 E' k
  | .ok false E' => F2 E' k
  | .ex C fs E' => k.ex C fs E'
def sSetI (i : Nat) (C : Addr) (p : Addr → Ot → List Ar → W Rz) (fk f : Env' → W Dat) : WS := fun E k => f E fun d => W.of (insAt C E i) fun r => fk E fun kd => up (p r.1 (Ot.ins C r.2).old [.dat kd.old, .dat d.old]) (zrOf E i r.1 (zK k fun _ E' => k.nx E'))
end
end EW
set_option Elab.async false
set_option linter.all false
set_option maxRecDepth 100000
set_option maxHeartbeats 4000000
namespace EW
open PySem PySem.Spec PyProof.Rows L2 EG EM
inductive Zs where
  | ok (ds : List Dat) (E : Env') | ex (C : Addr) (fs : List (Str × Dat)) (E : Env')
section
variable {K : PySem.W.Frag} {X : Cx}
abbrev zsNil : Env' → W Zs := fun E => W.ret (.ok [] E)
def zsOn (Q : Zs → Prop) (g : Dat → Env' → Prop) : Zr → Prop
  | .ok d E' => g d E'
  | .ex C fs E' => Q (.ex C fs E')
def zsCons (Q : Zs → Prop) (d : Dat) : Zs → Prop
  | .ok ds E' => Q (.ok (d :: ds) E')
  | .ex C fs E' => Q (.ex C fs E')
abbrev zsPut (f : Env' → W Zr) (fs : Env' → W Zs) : Env' → W Zs := fun E Q => f E (zsOn Q fun d E' => fs E' (zsCons Q d))
def zlOn (Q : Zr → Prop) (g : List Dat → Env' → Prop) : Zs → Prop
  | .ok ds E' => g ds E'
  | .ex C fs E' => Q (.ex C fs E')
abbrev zLst (fs : Env' → W Zs) : Env' → W Zr := fun E Q => fs E (zlOn Q fun ds E' => W.of (mkL ds) fun d => Q (.ok d E'))
def zsK (k : Kn) (g : List Dat → Env' → Prop) : Zs → Prop
  | .ok ds E' => g ds E'
  | .ex C fs E' => k.ex C fs E'
def sSetLZ (i : Nat) (fs : Env' → W Zs) : WS := fun E k => fs E (zsK k fun ds E' => W.of (mkL ds) fun d => k.nx (E'.set i (.own d)))
def sAppZ (i : Nat) (f : Env' → W Zr) : WS := fun E k => W.of (ownL E i) fun _ => f E (zK k fun d E' => W.of (ownL E' i) fun ds => ds.length < sizeLine ∧ k.nx (E'.set i (.own (.lst true (ds ++ [d])))))
def sExtZ (i : Nat) (f : Env' → W Zr) : WS := fun E k => W.of (ownL E i) fun _ => f E (zK k fun d E' => W.of (ownL E' i) fun ds => W.of (match d with | .lst _ xs => some xs | _ => none) fun xs => ds.length + xs.length ≤ sizeLine ∧ k.nx (E'.set i (.own (.lst true (ds ++ xs)))))
end
end EW
set_option Elab.async false
set_option linter.all false
set_option maxRecDepth 100000
set_option maxHeartbeats 4000000
namespace EW
open PySem PySem.Spec PyProof.Rows L2 EG EM
section
variable {K : PySem.W.Frag} {X : Cx}
theorem OwAll.step {B : Bg} {O G H G1 H1 : Hp} {vs : List V} {ts : List Ot} {S : List Addr} (h : OwAll K B O G H vs ts S) (t : Stp B O G H G1 H1) : OwAll K B O G1 H1 vs ts S :=
  h.frame t.g fun p hp => by
    obtain ⟨o, a⟩ := h.mem p hp
    exact ⟨by rw [t.keep _ _ a.nb a.h, a.h], t.new _ a.g (by rw [a.h]; exact Option.some_ne_none _)⟩
def dcE (g : Dat → Env' → Option Env') (tk : Env' → W Dat) (E : Env') : List Dat → List Key → W (List Key)
  | [], acc => W.ret acc
  | d :: ds, acc => (W.of (g d E)).bind fun E1 => (tk E1).bind fun kd => (W.of (keyD kd)).bind fun k => (W.req (k ∉ acc)).bind fun _ => dcE g tk E ds (acc ++ [k])
/-- each key with an empty own dict -/
def emps (ks : List Key) : List (Key × Ot) := ks.map fun k => (k, .dct [])
abbrev nDcE (fi : Env' → W (List Dat)) (g : Dat → Env' → Option Env') (fk : Env' → W Dat) (vs : List Nat) : Env' → W Sl := fun E => (fi E).bind fun ds => (dcE g fk (wipeE E vs) ds []).bind fun ks => fun Q => ∀ p, Q (.tr p (.dct (emps ks)))
end
end EW
set_option Elab.async false
set_option linter.all false
set_option maxRecDepth 100000
set_option maxHeartbeats 4000000
namespace EW
open PySem PySem.Spec PyProof.Rows L2 EG EM
def mergeK (kvs more : List (Key × V)) : List (Key × V) := more.foldl (fun a p => putK a p.1 p.2) kvs
theorem KV.merge : ∀ {more : List (Key × V)} {ws : List (Key × Value)} {kvs : List (Key × V)} {vs : List (Key × Value)}, KV more ws → KV kvs vs → KV (mergeK kvs more) (merged vs ws)
  | [], [], _, _, _, r => r
  | [], _ :: _, _, _, h, _ => nomatch h
  | _ :: _, [], _, _, h, _ => nomatch h
  | p :: more, q :: ws, kvs, vs, h, r => by
    cases h with
    | cons h t =>
      obtain ⟨e, rv⟩ := h
      have := KV.merge t (r.put p.1 rv)
      unfold mergeK merged at this ⊢
      rw [List.foldl_cons, List.foldl_cons, ← e]
      exact this
end EW
set_option Elab.async false
set_option linter.all false
set_option maxRecDepth 100000
set_option maxHeartbeats 4000000
namespace EW
open PySem PySem.Spec PyProof.Rows L2 EG EM
inductive Rn where
  | ok (s : Sl) | ex (C : Addr) (fs : List (Str × Dat))
section
variable {K : PySem.W.Frag} {X : Cx}
def defN (m : Nat) (F : WS) : List Ar → W Rn := fun as Q => F (startE m as) ⟨fun _ => Q (.ok (.dat .non)), fun _ s => Q (.ok s), fun _ => False, fun _ => False, fun C fs _ => Q (.ex C fs)⟩
def ownSl (E : Env') (i : Nat) : Option Sl := match E[i]? with
  | some (.own d) => some (.own d)
  | some (.tr a t) => some (.tr a t)
  | _ => none
def sRetO (i : Nat) : WS := fun E k => W.of (ownSl E i) fun s => k.rt (E.set i .any) s
theorem BunOk.older {B : Bg} {O H1 G' H' : Hp} (old : ∀ a, H1 a = none → O a = none) : ∀ {bs : List (Addr × List (Key × Dat))} {S : List Addr}, BunOk K B H1 G' H' bs S → BunOk K B O G' H' bs S
  | _, _, .nil => .nil
  | _, _, .cons a e r n t => .cons ⟨old _ a.old, a.g, a.nb, a.h⟩ e (r.older old) n (t.older old)
abbrev nyMeth (C : Addr) (m : Str) (p : List Ar → W Rn) (fo : Env' → W Dat) (fs : Env' → W (List Ar)) : Env' → W Rn := fun E => (fo E).bind fun d => (W.of (insD C m d)).bind fun _ => (fs E).bind fun as => up (p (.dat d.old :: as.map Ar.old))
def onRn (E : Env') (k : Kn) (g : Sl → Prop) : Rn → Prop
  | .ok s => g s
  | .ex C fs => k.ex C fs E
def sSetN (i : Nat) (f : Env' → W Rn) : WS := fun E k => f E (onRn E k fun s => k.nx (E.set i s))
def rnD : Rn → W Rs
  | .ok s => (W.of (frzD s)).bind fun d => W.ret (.ok d)
  | .ex C fs => W.ret (.ex C fs)
abbrev yFz (f : Env' → W Rn) : Env' → W Rs := fun E => (f E).bind rnD
def rsD (g : Dat → W Dat) : Rs → W Rs
  | .ok d => (g d).bind fun d => W.ret (.ok d)
  | .ex C fs => W.ret (.ex C fs)
def lenI (C : Addr) (p : List Ar → W Dat) (d : Dat) : W Dat := (W.of (insC C d)).bind fun _ => fun Q => up (p [.dat d.old]) fun r => ∃ n : Int, r = .int n ∧ 0 ≤ n ∧ n < 2 ^ 63 ∧ Q (.int n)
end
end EW
set_option Elab.async false
set_option linter.all false
set_option maxRecDepth 100000
set_option maxHeartbeats 4000000
namespace EW
open PySem PySem.Spec PyProof.Rows L2 EG EM
section
variable {K : PySem.W.Frag} {X : Cx}
inductive RpPs (K : PySem.W.Frag) (O G : Hp) : List (V × V) → List (Dat × Dat) → Prop
  | nil : RpPs K O G [] []
  | cons {v u : V} {d e : Dat} {vs : List (V × V)} {ds : List (Dat × Dat)} : Rp K O G v d → Rp K O G u e → RpPs K O G vs ds → RpPs K O G ((v, u) :: vs) ((d, e) :: ds)
structure PPW (K : PySem.W.Frag) (X : Cx) (pos : Pos) (keys : List (Option Expr)) (values : List Expr) (f : Env' → W (List (Dat × Dat))) : Prop where
  run : ∃ trs, PPs X pos keys values trs ∧ ∀ B O G H σ E (Q : List (V × V) → Hp → Prop), Wd B O G H → EnvOk K B O G H σ E → f E (fun ps => ∀ vs G' H', Stp B O G H G' H' → RpPs K O G' vs ps → Q vs H') → tPairs trs σ H Q
  mono : ∀ E, W.Mono (f E)
abbrev kNil : Env' → W (List (Dat × Dat)) := fun _ => W.ret []
theorem ppw_nil {pos : Pos} : PPW K X pos [] [] kNil := ⟨⟨_, pps_nil, fun B O G H σ E Q w eo q => q [] G H w.refl .nil⟩, fun _ => .ret⟩
abbrev kCons (fk fv : Env' → W Dat) (f : Env' → W (List (Dat × Dat))) : Env' → W (List (Dat × Dat)) := fun E => (fk E).bind fun k => (fv E).bind fun v => (f E).bind fun r => W.ret ((k, v) :: r)
theorem ppw_cons {pos : Pos} {ke ve : Expr} {ks : List (Option Expr)} {vs : List Expr} {fk fv : Env' → W Dat} {f : Env' → W (List (Dat × Dat))} (hk : PX K X ke fk) (hv : PX K X ve fv) (h : PPW K X pos ks vs f) : PPW K X pos (some ke :: ks) (ve :: vs) (kCons fk fv f) := by
  obtain ⟨trs, h1, h2⟩ := h.run
  refine ⟨⟨_, pps_cons hk.pe hv.pe h1, fun B O G H σ E Q w eo q => ?_⟩, fun E => (hk.mono E).bind fun _ => (hv.mono E).bind fun _ => (h.mono E).bind fun _ => .ret⟩
  refine ⟨B, O, G, E, w, eo, hk.mono E _ _ (fun d q1 v1 G1 H1 t1 r1 => ?_) q⟩
  refine ⟨B, O, G1, E, t1.w, eo.step t1, hv.mono E _ _ (fun e q2 v2 G2 H2 t2 r2 => ?_) q1⟩
  refine h2 B O G2 H2 σ E _ t2.w ((eo.step t1).step t2) (h.mono E _ _ (fun ps q3 vs3 G3 H3 t3 r3 => ?_) q2)
  exact q3 _ G3 H3 ((t1.trans t2).trans t3) (.cons ((r1.mono t2.g).mono t3.g) (r2.mono t3.g) r3)
def keyP : List (Dat × Dat) → Option (List (Key × Dat))
  | [] => some []
  | (k, v) :: r => (keyD k).bind fun k' => (keyP r).map ((k', v) :: ·)
theorem keyP_of {O G : Hp} : ∀ {vs : List (V × V)} {ps : List (Dat × Dat)} {us : List (Key × Dat)}, RpPs K O G vs ps → keyP ps = some us → ∃ kvs : List (Key × V), vs = kvs.map (fun kv => (kV kv.1, kv.2)) ∧ kvs.map (·.1) = us.map (·.1) ∧ RpAll K O G (kvs.map (·.2)) (us.map (·.2)) ∧ kvs.length = us.length
  | _, _, _, .nil, h => by cases h; exact ⟨[], rfl, rfl, .nil, rfl⟩
  | _, _, _, .cons r1 r2 r3, h => by
    obtain ⟨k', e1, h⟩ := Option.bind_eq_some_iff.mp h
    obtain ⟨us', e2, rfl⟩ := Option.map_eq_some_iff.mp h
    obtain ⟨kvs, a1, a2, a3, a4⟩ := keyP_of r3 e2
    have ev := key_of r1 e1
    subst ev
    exact ⟨(k', _) :: kvs, by rw [a1]; rfl, by rw [List.map_cons, List.map_cons, a2], .cons r2 a3, by rw [List.length_cons, List.length_cons, a4]⟩
abbrev nDisp (f : Env' → W (List (Dat × Dat))) : Env' → W Sl := fun E => (f E).bind fun ps => (W.of (keyP ps)).bind fun us => (W.req (us.length ≤ 15)).bind fun _ => W.ret (.own (.dct true (mergeD [] us)))
theorem pn_disp {pos : Pos} {keys : List (Option Expr)} {values : List Expr} {f : Env' → W (List (Dat × Dat))} (h : PPW K X pos keys values f) (hall : keys.all (·.isSome) = true := by rfl) (hl : keys.length = values.length := by rfl) (h0 : keys ≠ [] := by exact fun z => nomatch z) (h15 : keys.length ≤ 15 := by decide) :
    PN K X (.Dict keys values pos) (nDisp f) := by
  obtain ⟨trs, h1, h2⟩ := h.run
  refine ⟨imp (pe_disp h1 hall hl h0 h15) fun σ H Q ⟨B, O, G, E, w, eo, q⟩ p hp => ?_, fun E => (h.mono E).bind fun _ => W.Mono.of.bind fun _ => W.Mono.req.bind fun _ => .ret⟩
  have t0 := w.wet (o := .dK []) hp
  refine h2 B O G (upd H p (.dK [])) σ E _ t0.w (eo.step t0) (h.mono E _ _ (fun ps q1 vs G1 H1 t1 r1 => ?_) q)
  obtain ⟨us, e1, l15, q2⟩ := of_some q1
  obtain ⟨kvs, a1, a2, a3, a4⟩ := keyP_of r1 e1
  have gp : G p = none := w.s.free hp
  have nb : NotB B p := w.notB hp
  have g1 : G1 p = none := t1.new p gp (by rw [upd_same]; exact Option.some_ne_none _)
  have h1p : H1 p = some (.dK []) := t1.keep p _ nb upd_same
  obtain ⟨m1, m2⟩ := merge_of (kvs := []) (es := []) a2 a3 rfl .nil
  refine ⟨h1p, kvs, a1, by rw [a4]; exact l15, ?_⟩
  have t01 := t0.trans t1
  have tF : Stp B O G H G1 (upd H1 p (.dK (L2.mergeK [] kvs))) := ⟨t01.g, t01.w.put g1 nb, fun a u n e => by
    rw [upd_ne (ne_of_none e hp)]
    exact t01.keep a u n e, t01.new⟩
  exact q2 _ G1 _ tF ⟨[p], .ownD ⟨w.old _ hp, g1, nb, upd_same⟩ m1 m2, fun q hq => by rw [List.mem_singleton.mp hq]; exact hp⟩
def sPDel (i : Nat) (fp : Env' → W (List Pth)) (fk : Env' → W Dat) : WS := fun E k => fp E fun π => fk E fun kd => W.of (keyD kd) fun key =>
  ∃ a r es, E[i]? = some (.tr a r) ∧ r.at π = some (.dct es) ∧ r.nd π ∧ (es.map (·.1)).Nodup ∧ (valO es key).isSome = true ∧ k.nx (E.set i (.tr a (r.put π (.dct (es.filter fun kv => decide (kv.1 ≠ key))))))
end
end EW
set_option Elab.async false
set_option linter.all false
set_option maxRecDepth 100000
set_option maxHeartbeats 4000000
namespace EW
open PySem PySem.Spec PyProof.Rows L2 EG EM
section
variable {K : PySem.W.Frag} {X : Cx}
structure FunA (K : PySem.W.Frag) (x qn : Str) (st : Stmt) (f : Addr) (fd : FuncData) : Prop where
  ex : ∃ (oc : Value) (od : Option Addr) (dV kV doc pm : Value) (an : Option Addr) (cdv ct : Value) (osl : Array (Option Value)),
    fd = PySem.W.fnOf x qn (defArgs st) (defBody st) (defScope st) dV kV doc pm an cdv ct ∧ K.lookup f = some ⟨oc, od, .func fd, osl⟩ ∧ PySem.W.codeIn K cdv qn = true
theorem FunA.of {x qn : Str} {st : Stmt} {f : Addr} {fd : FuncData} (F : Fun K x qn st f fd) : FunA K x qn st f fd := by
  obtain ⟨oc, od, kV, doc, pm, an, cdv, ct, osl, h⟩ := F.ex
  exact ⟨oc, od, _, kV, doc, pm, an, cdv, ct, osl, h⟩
/-- a new instance, some arguments by default -/
abbrev nMakeD (C : Addr) (p : Addr → Ot → List Ar → W (Sl × Ot)) (fs : Env' → W (List Ar)) (dds : List Dat) : Env' → W Sl := fun E => (fs E).bind fun as => fun Q => ∀ x, up (p x (.ins C []) (as.map Ar.old ++ dds.map Ar.dat)) fun r => r.1 = .dat .non ∧ Q (.tr x r.2)
def eqKB (es fs : List (Key × Dat)) : Bool := (es.length == fs.length) && es.all fun p => match valD fs p.1 with
  | some u => PyData.eqv p.2.py u.py
  | none => false
def plainK (es : List (Key × Dat)) : Bool := es.all fun p => deepOk p.2
def eqKD : Dat → Dat → Option Dat
  | .dct _ es, .dct _ fs => if plainK es && plainK fs then some (.bl (eqKB es fs)) else none
  | d, e => eqD d e
def neKD : Dat → Dat → Option Dat
  | .dct _ es, .dct _ fs => if plainK es && plainK fs then some (.bl (!eqKB es fs)) else none
  | d, e => neD d e
theorem valD_mem {κ : Type} [DecidableEq κ] {es : List (κ × Dat)} {k : κ} {d : Dat} (h : valD es k = some d) : ∃ p ∈ es, p.2 = d := by
  unfold valD at h
  obtain ⟨p, hp, rfl⟩ := Option.map_eq_some_iff.mp h
  exact ⟨p, List.mem_of_find?_eq_some hp, rfl⟩
theorem hits_of {pins : List (Addr × Obj)} {σ : L2.St} {s : Shared} {O G H : Hp} (I : L2.Inv X pins σ H s) (sm : Same G H) (hu : X.A.units + 65 < cLine) {kb : List (Key × V)} {vb : List (Key × Value)} {fs : List (Key × Dat)} (rb : KV kb vb) (b1 : kb.map (·.1) = fs.map (·.1)) (b2 : RpAll X.K O G (kb.map (·.2)) (fs.map (·.2))) (pf : plainK fs = true) :
    ∀ {ka : List (Key × V)} {va : List (Key × Value)} {es : List (Key × Dat)}, KV ka va → ka.map (·.1) = es.map (·.1) → RpAll X.K O G (ka.map (·.2)) (es.map (·.2)) → plainK es = true →
    PySem.W.KeqHits X.A.in1 s vb va (es.all fun p => match valD fs p.1 with | some u => PyData.eqv p.2.py u.py | none => false)
  | [], va, es, ra, a1, a2, pe => by
    cases ra
    cases es with
    | nil => exact .nil
    | cons _ _ => cases a1
  | p :: ka, va, es, ra, a1, a2, pe => by
    cases es with
    | nil => cases a1
    | cons q es =>
      injection a1 with e1 e2
      cases ra with
      | @cons _ q' _ va' h t =>
        obtain ⟨h1, h2⟩ := h
        cases a2 with
        | cons r1 r2 =>
          have pe' : deepOk q.2 = true ∧ plainK es = true := by
            unfold plainK at pe
            rw [List.all_cons, Bool.and_eq_true] at pe
            exact pe
          have rest := hits_of I sm hu rb b1 b2 pf t e2 r2 pe'.2
          rw [List.all_cons]
          obtain ⟨qk, qv⟩ := q'
          have ek : q.1 = qk := (show p.1 = q.1 from e1).symm.trans h1
          have rv := rb.val qk
          cases hv : valD fs q.1 with
          | none =>
            have hn : valueAt vb qk = none := by
              have vn : valV kb qk = none := by
                rcases val_of q.1 b1 b2 with ⟨z1, _⟩ | ⟨_, _, _, z2, _⟩
                · rw [← ek]; exact z1
                · rw [hv] at z2; cases z2
              rw [vn] at rv
              cases y : valueAt vb qk with
              | none => rfl
              | some u => rw [y] at rv; exact absurd rv (by intro z; cases z)
            exact .miss hn
          | some u =>
            obtain ⟨v2, z1, z2⟩ : ∃ v2, valV kb q.1 = some v2 ∧ Rp X.K O G v2 u := by
              rcases val_of q.1 b1 b2 with ⟨_, z⟩ | ⟨v2, d2, z1, z2, z3⟩
              · rw [hv] at z; cases z
              · rw [hv] at z2; cases z2; exact ⟨v2, z1, z3⟩
            rw [ek] at z1
            rw [z1] at rv
            obtain ⟨y, hy, ry⟩ := rv.some_of
            obtain ⟨pm', hpm, epm⟩ := valD_mem hv
            have du : deepOk u = true := by
              rw [← epm]
              exact List.all_eq_true.mp pf pm' hpm
            have dq := pe'.1
            unfold deepOk at du dq
            rw [Bool.and_eq_true] at du dq
            obtain ⟨as, rA⟩ := Dp.reads I _ _ _ (r1.dp sm dq.1) h2
            obtain ⟨bs, rB⟩ := Dp.reads I _ _ _ (z2.dp sm du.1) ry
            exact .hit hy (PySem.W.keq_at rA rB dq.2 du.2 (by show X.A.units + 1 + 64 < cLine; omega)) rest
theorem opw_eqK (hu : X.A.units + 65 < cLine) : OpR X (compareOp .Eq) (rO X.K eqKD) := by
  intro pins s σ H x y v u Q I rx ry h
  obtain ⟨B, O, G, d1, d2, d, w, r1, r2, e, q⟩ := h
  by_cases z : ∃ t es t' fs, d1 = .dct t es ∧ d2 = .dct t' fs
  · obtain ⟨t, es, t', fs, rfl, rfl⟩ := z
    have e : (if plainK es && plainK fs then some (Dat.bl (eqKB es fs)) else none) = some d := e
    split at e
    · rename_i hp
      cases e
      rw [Bool.and_eq_true] at hp
      cases r1 with
      | @dct a o1 ka _ _ h1 h2 h3 _ =>
        cases r2 with
        | @dct b o2 kb _ _ k1 k2 k3 _ =>
          cases (show v = Value.ref a from rx)
          cases (show u = Value.ref b from ry)
          obtain ⟨_, ya, va, ra, da⟩ := dk_rd I.hok (.inr ⟨o1, w.s _ _ h1⟩)
          obtain ⟨_, yb, vb, rb, db⟩ := dk_rd I.hok (.inr ⟨o2, w.s _ _ k1⟩)
          have la : va.length = es.length := by rw [← ra.length]; simpa using congrArg List.length h2
          have lb : vb.length = fs.length := by rw [← rb.length]; simpa using congrArg List.length k2
          refine PySem.W.keq_eq (knd := mixKind X.prog X.w) ya yb da db (by omega) (fun _ => hits_of I w.s hu rb k2 k3 hp.2 ra h2 h3 hp.1) ?_
          rw [la, lb]
          exact ⟨.bl _, H, I, rfl, Ck.now q w (.bl _)⟩
    · cases e
  · have e' : eqD d1 d2 = some d := by
      unfold eqKD at e
      split at e
      · exact absurd ⟨_, _, _, _, rfl, rfl⟩ z
      · exact e
    exact opw_eq (by omega) pins s σ H x y v u Q I rx ry ⟨B, O, G, d1, d2, d, w, r1, r2, e', q⟩
theorem opw_neK (hu : X.A.units + 65 < cLine) : OpR X (compareOp .NotEq) (rO X.K neKD) := by
  intro pins s σ H x y v u Q I rx ry h
  obtain ⟨B, O, G, d1, d2, d, w, r1, r2, e, q⟩ := h
  by_cases z : ∃ t es t' fs, d1 = .dct t es ∧ d2 = .dct t' fs
  · obtain ⟨t, es, t', fs, rfl, rfl⟩ := z
    have e : (if plainK es && plainK fs then some (Dat.bl (!eqKB es fs)) else none) = some d := e
    split at e
    · rename_i hp
      cases e
      rw [Bool.and_eq_true] at hp
      cases r1 with
      | @dct a o1 ka _ _ h1 h2 h3 _ =>
        cases r2 with
        | @dct b o2 kb _ _ k1 k2 k3 _ =>
          cases (show v = Value.ref a from rx)
          cases (show u = Value.ref b from ry)
          obtain ⟨_, ya, va, ra, da⟩ := dk_rd I.hok (.inr ⟨o1, w.s _ _ h1⟩)
          obtain ⟨_, yb, vb, rb, db⟩ := dk_rd I.hok (.inr ⟨o2, w.s _ _ k1⟩)
          have la : va.length = es.length := by rw [← ra.length]; simpa using congrArg List.length h2
          have lb : vb.length = fs.length := by rw [← rb.length]; simpa using congrArg List.length k2
          refine PySem.W.keq_ne (knd := mixKind X.prog X.w) ya yb da db (by omega) (fun _ => hits_of I w.s hu rb k2 k3 hp.2 ra h2 h3 hp.1) ?_
          rw [la, lb]
          exact ⟨.bl _, H, I, rfl, Ck.now q w (.bl _)⟩
    · cases e
  · have e' : neD d1 d2 = some d := by
      unfold neKD at e
      split at e
      · exact absurd ⟨_, _, _, _, rfl, rfl⟩ z
      · exact e
    exact opw_ne (by omega) pins s σ H x y v u Q I rx ry ⟨B, O, G, d1, d2, d, w, r1, r2, e', q⟩
end
end EW
set_option Elab.async false
set_option linter.all false
set_option maxRecDepth 100000
set_option maxHeartbeats 4000000
set_option Elab.async false
set_option linter.all false
set_option Elab.async false
set_option linter.all false
set_option maxRecDepth 100000
set_option maxHeartbeats 4000000
namespace EW
open PySem PySem.Spec PyProof.Rows L2 EG
structure FfB (P : Program) (w : World) (K : PySem.W.Frag) (mg : Str → Option Value) (base : Heap) (f : Addr) (fd : FuncData) : Prop where
  G : FnOk P w K mg base CX0 1 f fd ["_law_script"] (spBag K)
  b : Binds K fd ["_law_script"] []
  m : mg "_law_bag" = some (.ref f)
  k : PySem.W.keepIn K (.ref f) = true
def spLaw (K : PySem.W.Frag) : Sp := fun vs H Q _ => ∃ (a : Addr) (ns : List Int), vs = [.ref a] ∧ SqL K H a (ns.map V.int) ∧ ns.length ≤ 63 ∧ ∀ H', Q (.bl true) H'
def tBag (K : PySem.W.Frag) : TS := fun D σ H => ∃ (a : Addr) (ns : List Int), σ[0]? = some (some (.ref a)) ∧ SqL K H a (ns.map V.int) ∧ ns.length ≤ 63 ∧
  ∀ H' b l, Same H H' → H b = none → H l = none → Bag H' b l → D.nx (σ.set 1 (some (.ref b))) H'
def lawE (m : Nat) : Env' := (.any :: List.replicate (m - 1) .no).set 1 .bag
def kTrue : Kn := ⟨fun _ => False, fun _ s => onDat (fun d => d = .bl true) s, fun _ => False, fun _ => False, fun _ _ _ => False⟩
section
variable {P : Program} {w : World} {K : PySem.W.Frag} {mg : Str → Option Value} {base : Heap}
theorem env_nos {B : Bg} {O G H : Hp} (n : Nat) : EnvOk K B O G H (List.replicate n none) (List.replicate n .no) := by
  refine ⟨by rw [List.length_replicate, List.length_replicate], fun _ => [], fun i x s e1 e2 => ?_, fun i j p _ _ e1 _ => absurd e1 List.not_mem_nil⟩
  rw [List.getElem?_replicate] at e1 e2
  by_cases z : i < n
  · rw [if_pos z] at e1 e2
    cases e1
    cases e2
    exact .no
  · rw [if_neg z] at e1
    cases e1
theorem fn_law {k : Nat} {f : Addr} {fd : FuncData} {st : Stmt} {N : List Str} {F : WS} (Fn : Fun K "law" "law" st f fd) (S : FnScope N ["_law_script"] (defScope st)) (hF : F (lawE N.length) kTrue)
    (hb : ∀ (cdv : Value) (A : Around) (out : List Env) (s : Shared) (H : Hp) (E : XK), A.guards = some [] → Room k (A.deeper (envOfC "law" (defScope st) s.heap.objs.size f cdv)) →
      ∃ st0 rest, defBody st = st0 :: rest ∧ PS (cxOf CX0 P w K mg base N "law" (defScope st) f cdv A out s H E).nox st0 (tBag K) ∧ PQs K (cxOf CX0 P w K mg base N "law" (defScope st) f cdv A out s H E).nox rest F) :
    FnG P w K mg base CX0 (k + 1) f fd ["_law_script"] (spLaw K) := by
  refine okG Fn S (fun vs H Q E h => ?_) fun cdv A out s H vs Q E hg hr h => ?_
  · obtain ⟨a, ns, rfl, _⟩ := h
    rfl
  · obtain ⟨a, ns, rfl, hS, hlen, hQ⟩ := h
    obtain ⟨st0, rest, e, h0, h1⟩ := hb cdv A out s H E hg hr
    rw [e]
    refine ⟨_, pss_cons h0 (h1.ps _ takes_no), a, ns, rfl, hS, hlen, fun H1 b l s1 nb nl bg => ?_⟩
    obtain ⟨x, y, c, ms, b1, b2, nbl, _⟩ := bg.at_
    have gl : Same (upd H l (.lst (ms.map V.int))) H1 := fun p u e => by
      by_cases z : p = l
      · rw [z, upd_same] at e
        rw [z, b2]
        exact e
      · rw [upd_ne z] at e
        exact s1 _ _ e
    have t : Stp (some (b, l)) H H H (upd H l (.lst (ms.map V.int))) H1 := by
      refine ⟨same_new (Same.refl _) nl, ⟨gl, fun p z => s1.free z, fun b' l' z => ?_⟩, fun p u _ e => s1 _ _ e, fun p z1 z2 => absurd z1 z2⟩
      cases z
      exact ⟨by rw [upd_ne nbl]; exact nb, ⟨_, upd_same⟩, bg⟩
    refine ⟨some (b, l), H, H, _, lawE N.length, t, ?_, h1.mono _ _ _ ⟨?_, ?_, ?_, ?_, ?_⟩ hF⟩
    · exact (EnvOk.cons (env_nos _) .any).set (.bag rfl)
    · exact fun _ z => z.elim
    · intro E' s q v σ' G' H' sg t eo
      cases s with
      | dat d =>
        obtain ⟨F', f1, _⟩ := eo.ex
        have := f1 0 (some v) (.dat d) rfl rfl
        generalize F' 0 = S0 at this
        have q : d = .bl true := q
        subst q
        cases this with
        | dat r =>
          cases r
          exact hQ H'
      | _ => exact q.elim
    · exact fun _ z => z.elim
    · exact fun _ z => z.elim
    · exact fun _ _ _ z => z.elim
end
end EW
set_option Elab.async false
set_option linter.all false
set_option maxRecDepth 100000
set_option maxHeartbeats 4000000
namespace EX
open PySem PySem.Spec PyProof.Rows L2
end EX
set_option Elab.async false
set_option linter.all false
set_option maxRecDepth 100000
set_option maxHeartbeats 4000000
namespace EW
open PySem PySem.Spec PyProof.Rows L2 EG
section
variable {K : PySem.W.Frag} {C D f : Addr}
def kitB (K : PySem.W.Frag) (D E : Addr) (b : Bool) : Bool := decide (PySem.W.kitOne K (.ref D) (.ref E) = some b)
end
end EW
set_option Elab.async false
set_option linter.all false
set_option maxRecDepth 100000
set_option maxHeartbeats 4000000
set_option Elab.async false
set_option linter.all false
set_option maxRecDepth 100000
set_option maxHeartbeats 4000000
namespace EW
open PySem PySem.Spec PyProof.Rows L2 EG EM
def _root_.EM.Kd.d : Kd → Dat
  | .int i => .int i
  | .bl b => .bl b
  | .str x => .str x
  | .non => .non
  | .uni => .tup []
theorem KdV.rp {K : PySem.W.Frag} {O G : Hp} : ∀ {v : V} {k : Kd}, KdV K G v k → Rp K O G v k.d
  | _, .int i, h => by cases h; exact .int i
  | _, .bl b, h => by cases h; exact .bl b
  | _, .str x, h => by cases h; exact .str x
  | _, .non, h => by cases h; exact .non
  | _, .uni, ⟨a, e, h⟩ => by cases e; exact .tup h .nil
theorem KdAll.rp {K : PySem.W.Frag} {O G : Hp} : ∀ {vs : List V} {es : List (Kd × Dat)}, KdAll K G vs (es.map (·.1)) → RpAll K O G vs (es.map fun p => p.1.d)
  | [], [], _ => .nil
  | _ :: _, _ :: _, .cons h t => .cons (KdV.rp h) (KdAll.rp t)
  | [], _ :: _, h => nomatch h
  | _ :: _, [], h => nomatch h
def listG : List Dat → Option Dat
  | [.dct _ es] => some (.lst true (es.map fun p => kD p.1))
  | [.odd _ _ es] => some (.lst true (es.map fun p => p.1.d))
  | ds => listD ds
section
variable {K : PySem.W.Frag} {X : Cx}
theorem keysRp {O G : Hp} : ∀ {kvs : List (Key × V)} {es : List (Key × Dat)}, kvs.map (·.1) = es.map (·.1) → RpAll K O G (kvs.map fun kv => kV kv.1) (es.map fun p => kD p.1)
  | [], [], _ => .nil
  | [], _ :: _, h => by cases h
  | _ :: _, [], h => by cases h
  | p :: kvs, q :: es, h => by
    injection h with h1 h2
    refine .cons ?_ (keysRp h2)
    show Rp K O G (kV p.1) (kD q.1)
    rw [show p.1 = q.1 from h1]
    exact .key _
theorem clw_listG (hc : X.calm = true) : CallR X (.type "list") (rC X.K listG) := by
  intro pins s σ H xs us Q I r h
  obtain ⟨B, O, G, ds, d, w, rs, e, q⟩ := h
  by_cases zo : ∃ w t es, ds = [.odd w t es]
  · obtain ⟨wd, t, es, rfl⟩ := zo
    obtain ⟨v, rfl, rv⟩ := one_inv rs
    have e : some (Dat.lst true (es.map fun p => p.1.d)) = some d := e
    cases e
    cases rv with
    | @odd a o1 _ xs1 kvs vvs _ _ h1 h2 h3 h4 h5 h6 _ =>
      rw [Vals.ref1 r]
      exact EM.list_odd hc I (.inr ⟨o1, w.s _ _ h1⟩) h3 fun p hp => q _ _ _ (w.ice hp) (.lst upd_same ((KdAll.rp h5).mono (w.ice hp).g) fun _ => w.old _ hp)
  by_cases z : ∃ t es, ds = [.dct t es]
  · obtain ⟨t, es, rfl⟩ := z
    obtain ⟨v, rfl, rv⟩ := one_inv rs
    have e : some (Dat.lst true (es.map fun p => kD p.1)) = some d := e
    cases e
    cases rv with
    | @dct a o1 ka _ _ h1 h2 h3 _ =>
      exact call_listD hc pins s σ H _ us Q I r ⟨_, _, rfl, .inr ⟨o1, w.s _ _ h1⟩, fun p hp => q _ _ _ (w.ice hp) (.lst upd_same ((keysRp h2).mono (w.ice hp).g) fun _ => w.old _ hp)⟩
  · have e' : listD ds = some d := by
      unfold listG at e
      split at e
      · exact absurd ⟨_, _, rfl⟩ z
      · exact absurd ⟨_, _, _, rfl⟩ zo
      · exact e
    exact clw_list pins s σ H xs us Q I r ⟨B, O, G, ds, d, w, rs, e', q⟩
end
end EW
set_option Elab.async false
set_option linter.all false
set_option maxRecDepth 100000
set_option maxHeartbeats 4000000
namespace EW
open PySem PySem.Spec PyProof.Rows L2 EG EM
open Sem (wp)
open AutoSeq1 (wpAny_loadPart')
section
variable {K : PySem.W.Frag} {X : Cx}
def enumG : List Dat → Option (List Dat)
  | [.tup ds] => some (ds.mapIdx fun i d => .tup [.int i, d])
  | ds => enumD ds
end
end EW
set_option Elab.async false
set_option linter.all false
set_option maxRecDepth 100000
set_option maxHeartbeats 4000000
namespace EW
open PySem PySem.Spec PyProof.Rows L2 EG EM
mutual
def Dat.pyd : Dat → PyData
  | .non => .none
  | .bl b => .bool b
  | .int i => .int i
  | .str x => .str x
  | .lst _ ds => .list (Dat.pyds ds)
  | .tup ds => .tuple (Dat.pyds ds)
  | .dct _ es => .dict (Dat.pydk es)
  | .ins _ _ => .none
  | .any => .none
  | .adr _ => .none
  | .odd _ _ es => .dict (Dat.pydo es)
def Dat.pydo : List (Kd × Dat) → List (PyData × PyData)
  | [] => []
  | (k, d) :: ds => (k.py, Dat.pyd d) :: Dat.pydo ds
def Dat.pyds : List Dat → List PyData
  | [] => []
  | d :: ds => Dat.pyd d :: Dat.pyds ds
def Dat.pydk : List (Key × Dat) → List (PyData × PyData)
  | [] => []
  | (k, d) :: ds => (EG.keyD k, Dat.pyd d) :: Dat.pydk ds
end
mutual
/-- no instance within -/
def Dat.noIns : Dat → Bool
  | .lst _ ds => Dat.noInss ds
  | .tup ds => Dat.noInss ds
  | .dct _ es => Dat.noInsk es
  | .ins _ _ => false
  | .any => false
  | .adr _ => false
  | .odd _ _ es => Dat.noInso es
  | _ => true
def Dat.noInso : List (Kd × Dat) → Bool
  | [] => true
  | (_, d) :: ds => Dat.noIns d && Dat.noInso ds
def Dat.noInss : List Dat → Bool
  | [] => true
  | d :: ds => Dat.noIns d && Dat.noInss ds
def Dat.noInsk : List (Key × Dat) → Bool
  | [] => true
  | (_, d) :: ds => Dat.noIns d && Dat.noInsk ds
end
theorem pydk_fst : ∀ es : List (Key × Dat), (Dat.pydk es).map (·.1) = es.map fun p => EG.keyD p.1
  | [] => by simp [Dat.pydk]
  | (k, d) :: es => by simp [Dat.pydk, pydk_fst es]
theorem pydk_snd : ∀ es : List (Key × Dat), (Dat.pydk es).map (·.2) = Dat.pyds (es.map (·.2))
  | [] => by simp [Dat.pydk, Dat.pyds]
  | (k, d) :: es => by simp [Dat.pydk, Dat.pyds, pydk_snd es]
theorem pydo_fst : ∀ es : List (Kd × Dat), (Dat.pydo es).map (·.1) = es.map fun p => p.1.py
  | [] => by simp [Dat.pydo]
  | (k, d) :: es => by simp [Dat.pydo, pydo_fst es]
theorem pydo_snd : ∀ es : List (Kd × Dat), (Dat.pydo es).map (·.2) = Dat.pyds (es.map (·.2))
  | [] => by simp [Dat.pydo, Dat.pyds]
  | (k, d) :: es => by simp [Dat.pydo, Dat.pyds, pydo_snd es]
theorem noInso_all : ∀ es : List (Kd × Dat), Dat.noInso es = Dat.noInss (es.map (·.2))
  | [] => by simp [Dat.noInso, Dat.noInss]
  | (k, d) :: es => by simp [Dat.noInso, Dat.noInss, noInso_all es]
theorem noInsk_all : ∀ es : List (Key × Dat), Dat.noInsk es = Dat.noInss (es.map (·.2))
  | [] => by simp [Dat.noInsk, Dat.noInss]
  | (k, d) :: es => by simp [Dat.noInsk, Dat.noInss, noInsk_all es]
section
variable {K : PySem.W.Frag} {O G H : Hp}
mutual
theorem Rp.dt (s : Same G H) : ∀ {v : V} {d : Dat}, Rp K O G v d → d.noIns = true → EG.Dt K H v d.pyd
  | _, _, .non, _ => by rw [Dat.pyd]; exact .non
  | _, _, .bl b, _ => by rw [Dat.pyd]; exact .bl b
  | _, _, .int i, _ => by rw [Dat.pyd]; exact .int i
  | _, _, .str x, _ => by rw [Dat.pyd]; exact .str x
  | _, _, .lst h1 h2 _, h => by
    rw [Dat.pyd]
    exact .lst (SqL.of (s _ _ h1)) (RpAll.dt s h2 (by simpa [Dat.noIns] using h))
  | _, _, .tup h1 h2, h => by
    rw [Dat.pyd]
    exact .tup (sq_t' s h1) (RpAll.dt s h2 (by simpa [Dat.noIns] using h))
  | _, _, @Rp.dct _ _ _ a o kvs t es h1 h2 h3 h4, h => by
    rw [Dat.pyd]
    have h5 := RpAll.dt s h3 (by rw [← noInsk_all]; simpa [Dat.noIns] using h)
    refine .dct (.inr ⟨o, s _ _ h1⟩) ?_ (by rw [pydk_snd]; exact h5)
    rw [pydk_fst]
    have := congrArg (List.map EG.keyD) h2
    rw [List.map_map, List.map_map] at this
    exact this
  | _, _, .ins _ _ _, h => by simp [Dat.noIns] at h
  | _, _, .any _, h => by simp [Dat.noIns] at h
  | _, _, .adr _, h => by simp [Dat.noIns] at h
  | _, _, @Rp.odd _ _ _ a o w xs kvs vvs t es h1 h2 h3 h4 h5 h6 h7, h => by
    rw [Dat.pyd]
    have h8 := RpAll.dt s h6 (by rw [← noInso_all]; simpa [Dat.noIns] using h)
    exact .odd (.inr ⟨o, s _ _ h1⟩) (KdAll.same s h5) h3 h4 (by rw [pydo_fst, List.map_map]; rfl) (by rw [pydo_snd]; exact h8)
theorem RpAll.dt (s : Same G H) : ∀ {vs : List V} {ds : List Dat}, RpAll K O G vs ds → Dat.noInss ds = true → EG.DtAll K H vs (Dat.pyds ds)
  | _, _, .nil, _ => by rw [Dat.pyds]; exact .nil
  | _, _, .cons h1 h2, h => by
    rw [Dat.pyds]
    rw [Dat.noInss, Bool.and_eq_true] at h
    exact .cons (Rp.dt s h1 h.1) (RpAll.dt s h2 h.2)
end
end
def reprD : List Dat → Option Dat
  | [d] => if d.noIns = true ∧ d.pyd.showable = true ∧ d.pyd.depth ≤ 60 ∧ d.pyd.shown.length ≤ sizeLine then some (.str d.pyd.shown) else none
  | _ => none
section
variable {X : Cx}
theorem clw_repr (gd : X.A.guards = some []) (hu : X.A.units + 64 < cLine) : CallR X (.builtin "repr") (rC X.K reprD) := by
  intro pins s σ H xs us Q I r h
  obtain ⟨B, O, G, ds, d, w, rs, e, q⟩ := h
  match ds, rs, e with
  | [d0], rs, e =>
    obtain ⟨v, rfl, rv⟩ := one_inv rs
    simp only [reprD] at e
    split at e
    · rename_i hc
      cases e
      obtain ⟨h1, h2, h3, h4⟩ := hc
      have hd := rv.dt w.s h1
      have fin : ∀ tk, EP X pins σ Q (.str d0.pyd.shown tk) { s with toks := s.toks + 1 } := fun tk => ⟨.str d0.pyd.shown, H, I.tok _, ⟨_, rfl⟩, Ck.now q w (.str _)⟩
      obtain ⟨u, rfl, ru⟩ := r.one
      cases rv with
      | non =>
        cases ru
        exact PySem.P.repr_of_none (fin _)
      | bl b =>
        cases ru
        refine PySem.P.repr_of_bool ?_
        have := fin s.toks
        rw [Dat.pyd] at this
        exact this
      | int i =>
        obtain ⟨t, rfl⟩ := ru
        have h2' : i.natAbs.log2 < 1920 := by simpa [Dat.pyd, PyData.showable] using h2
        refine PySem.P.repr_of_int h2' ?_
        have := fin s.toks
        rw [Dat.pyd] at this
        exact this
      | str x =>
        obtain ⟨t, rfl⟩ := ru
        have h4' : (reprText x).length ≤ sizeLine := by simpa [Dat.pyd, PyData.shown] using h4
        refine PySem.P.repr_of_str ?_ h4'
        have := fin s.toks
        rw [Dat.pyd] at this
        exact this
      | lst g1 g2 g3 => exact EG.call_reprD gd hu pins s σ H _ _ Q I r ⟨_, _, rfl, hd, h2, h3, h4, ⟨_, rfl⟩, Ck.now q w (.str _)⟩
      | tup g1 g2 => exact EG.call_reprD gd hu pins s σ H _ _ Q I r ⟨_, _, rfl, hd, h2, h3, h4, ⟨_, rfl⟩, Ck.now q w (.str _)⟩
      | dct g1 g2 g3 g4 => exact EG.call_reprD gd hu pins s σ H _ _ Q I r ⟨_, _, rfl, hd, h2, h3, h4, ⟨_, rfl⟩, Ck.now q w (.str _)⟩
      | ins _ _ _ => simp [Dat.noIns] at h1
      | any _ => simp [Dat.noIns] at h1
      | adr _ => simp [Dat.noIns] at h1
      | odd => exact EG.call_reprD gd hu pins s σ H _ _ Q I r ⟨_, _, rfl, hd, h2, h3, h4, ⟨_, rfl⟩, Ck.now q w (.str _)⟩
    · cases e
end
end EW
set_option Elab.async false
set_option linter.all false
set_option maxRecDepth 100000
set_option maxHeartbeats 4000000
namespace EW
open PySem PySem.Spec PyProof.Rows L2 EG EM
/-- t: a tuple, else a list -/
def SqX (K : PySem.W.Frag) (t : Bool) (H : Hp) (a : Addr) (xs : List V) : Prop := match t with
  | true => SqT K H a xs
  | false => SqL K H a xs
def IterX (t : Bool) (h : Heap) (i a : Addr) (k : Nat) : Prop := match t with
  | true => h.IsTupleIter i a k
  | false => h.IsListIter i a k
section
variable {prog : Program} {w : World} {A : Around} {K : PySem.W.Frag}
theorem IterX.keep {t : Bool} {h h' : Heap} {i a : Addr} {k : Nat} (x : IterX t h i a k) (kp : ∀ o, h.get? i = some o → h'.get? i = some o) : IterX t h' i a k := by
  cases t
  · exact (show h.IsListIter i a k from x).at kp
  · exact (show h.IsTupleIter i a k from x).at kp
end
section
variable {K : PySem.W.Frag} {X : Cx}
theorem SqX.mono {t : Bool} {G H : Hp} {a : Addr} {xs : List V} (s : Same G H) (h : SqX K t G a xs) : SqX K t H a xs := by
  cases t
  · have h : SqL K G a xs := h
    show SqL K H a xs
    rcases h with (h | ⟨o, h⟩) | h
    · exact .inl (.inl (s _ _ h))
    · exact .inl (.inr ⟨o, s _ _ h⟩)
    · exact .inr h
  · exact sq_t' s h
end
end EW
set_option Elab.async false
set_option linter.all false
set_option maxRecDepth 100000
set_option maxHeartbeats 4000000
namespace EW
open PySem PySem.Spec PyProof.Rows L2 EG EM
section
variable {K : PySem.W.Frag} {X : Cx}
def powD : Dat → Dat → Option Dat
  | .int i, .int j => if 0 ≤ j ∧ j ≤ 1000000 ∧ i.natAbs < 2 ^ 64 then some (.int (i ^ j.toNat)) else none
  | _, _ => none
theorem opw_pow : OpR X (binaryOp .Pow) (rO X.K powD) := by
  intro pins s σ H x y v u Q I rx ry h
  obtain ⟨B, O, G, d1, d2, d, w, r1, r2, e, q⟩ := h
  cases r1 <;> cases r2 <;> try cases e
  simp only [powD] at e
  split at e
  · rename_i h0
    cases e
    exact op_pow pins s σ H _ _ v u Q I rx ry ⟨_, _, rfl, rfl, h0, Ck.now q w (.int _)⟩
  · cases e
end
end EW
set_option Elab.async false
set_option linter.all false
set_option maxRecDepth 100000
set_option maxHeartbeats 4000000
set_option Elab.async false
set_option linter.all false
set_option maxRecDepth 100000
set_option maxHeartbeats 4000000
set_option Elab.async false
set_option linter.all false
set_option maxRecDepth 100000
set_option maxHeartbeats 4000000
namespace EW
open PySem PySem.Spec PyProof.Rows L2 EG EM
section
variable {K : PySem.W.Frag} {X : Cx}
theorem EnvOk.push {B : Bg} {O G H G' H' : Hp} {σ : L2.St} {E : Env'} (h : EnvOk K B O G H σ E) (t : Stp B O G H G' H') {v : V} {s : Sl} (n : NwOk K B O H G' H' v s) : EnvOk K B O G' H' (some v :: σ) (s :: E) := by
  obtain ⟨S, ok, d⟩ := n
  obtain ⟨F, f1, f2⟩ := h.ex
  have hn : ∀ j, j < σ.length → ∀ p ∈ F j, H p ≠ none := fun j hj p hp => by
    have lj : j < E.length := by rw [← h.len]; exact hj
    obtain ⟨o, z⟩ := (f1 j σ[j] E[j] (List.getElem?_eq_getElem hj) (List.getElem?_eq_getElem lj)).mem p hp
    rw [z.h]
    exact Option.some_ne_none _
  refine ⟨by rw [List.length_cons, List.length_cons, h.len], fun n => match n with | 0 => S | j + 1 => F j, fun n y u e1 e2 => ?_, fun n m p ln lm pn pm => ?_⟩
  · cases n with
    | zero =>
      cases e1
      cases e2
      exact ok
    | succ j => exact (f1 j y u (by simpa using e1) (by simpa using e2)).step t
  · cases n with
    | zero =>
      cases m with
      | zero => rfl
      | succ j => exact absurd (d p pn) (hn j (by simpa using lm) p pm)
    | succ j =>
      cases m with
      | zero => exact absurd (d p pm) (hn j (by simpa using ln) p pn)
      | succ j' => rw [f2 j j' p (by simpa using ln) (by simpa using lm) pn pm]
theorem OwAll.len {B : Bg} {O G H : Hp} : ∀ {vs : List V} {ts : List Ot} {S : List Addr}, OwAll K B O G H vs ts S → vs.length = ts.length
  | _, _, _, .nil => rfl
  | _, _, _, .cons _ b _ => congrArg (· + 1) (OwAll.len b)
end
end EW
set_option Elab.async false
set_option linter.all false
set_option maxRecDepth 100000
set_option maxHeartbeats 4000000
set_option Elab.async false
set_option linter.all false
set_option maxRecDepth 100000
set_option maxHeartbeats 4000000
set_option Elab.async false
set_option linter.all false
set_option maxRecDepth 100000
set_option maxHeartbeats 4000000
set_option Elab.async false
set_option linter.all false
set_option maxRecDepth 100000
set_option maxHeartbeats 4000000
set_option Elab.async false
set_option linter.all false
set_option maxRecDepth 100000
set_option maxHeartbeats 4000000
set_option Elab.async false
set_option linter.all false
set_option maxRecDepth 100000
set_option maxHeartbeats 4000000
set_option Elab.async false
set_option linter.all false
set_option maxRecDepth 100000
set_option maxHeartbeats 4000000
set_option Elab.async false
set_option linter.all false
set_option maxRecDepth 100000
set_option maxHeartbeats 4000000
set_option Elab.async false
set_option linter.all false
set_option maxRecDepth 100000
set_option maxHeartbeats 4000000
set_option Elab.async false
set_option linter.all false
set_option maxRecDepth 100000
set_option maxHeartbeats 4000000
set_option Elab.async false
set_option linter.all false
set_option maxRecDepth 100000
set_option maxHeartbeats 4000000
set_option Elab.async false
set_option linter.all false
set_option maxRecDepth 100000
set_option maxHeartbeats 4000000
namespace EW
open PySem PySem.Spec PyProof.Rows L2 EG EM
def notBD : Dat → Dat → Option Dat
  | .bl b, .bl c => some (.bl (!decide (b = c)))
  | d, e => notND d e
end EW
set_option Elab.async false
set_option linter.all false
set_option maxRecDepth 100000
set_option maxHeartbeats 4000000
namespace EW
open PySem PySem.Spec PyProof.Rows L2 EG EM
section
variable {K : PySem.W.Frag} {X : Cx}
abbrev wIsi4 (T1 T2 T3 T4 : String) (f : Env' → W Dat) : Env' → W Dat := fun E => (f E).bind fun d => W.of ((tyN d).map fun n => .bl (isB n T1 || (isB n T2 || (isB n T3 || isB n T4))))
def listN : List Dat → Option (List Dat)
  | [.lst _ ds] => some ds
  | [.tup ds] => some ds
  | _ => none
def rLN (K : PySem.W.Frag) : List V → Hp → VK → Prop := fun xs H Q => ∃ B O G ds out, Wd B O G H ∧ RpAll K O G xs ds ∧ listN ds = some out ∧ ∀ p vs', H p = none → RpAll K O G vs' out → Q (.ref p) (upd H p (.lst vs'))
theorem clw_listN : CallR X (.type "list") (rLN X.K) := by
  intro pins s σ H xs us Q I r h
  obtain ⟨B, O, G, ds, out, w, rs, e, q⟩ := h
  match ds, rs, e with
  | [.lst _ ds], rs, e =>
    obtain ⟨v, rfl, rv⟩ := one_inv rs
    cases e
    cases rv with
    | lst h1 h2 => exact call_list_of pins s σ H _ us Q I r ⟨_, _, rfl, .inl (SqL.of (w.s _ _ h1)), fun p hp => q p _ hp h2⟩
  | [.tup ds], rs, e =>
    obtain ⟨v, rfl, rv⟩ := one_inv rs
    cases e
    cases rv with
    | tup h1 h2 => exact call_list_of pins s σ H _ us Q I r ⟨_, _, rfl, .inr (sq_t w.s h1), fun p hp => q p _ hp h2⟩
def nListO (f : Env' → W (List Dat)) : Env' → W Sl := fun E => (f E).bind fun ds => (W.of (listN ds)).bind fun out => W.ret (.own (.lst true out))
theorem pn_listO {x : Str} {p pos : Pos} {e : Expr} {es : List Expr} {fs : Env' → W (List Dat)} (hK : X.K = K) (hg : Gl X x) (hm : X.mg x = none) (hv : bootBuiltins x = some (.type "list")) (ha : PXs K X (e :: es) fs) (hn : x ≠ "__name__" := by decide) (hdb : (x == ("__debug__" : Str)) = false := by decide)
    (he : starEach (e :: es) X.env = (false, eval e X.env) :: starEach es X.env := by rfl) (hpl : (backTo pos (starEach es X.env)).any (·.1) = false := by rfl) : PN K X (.Call (.Name x p) (e :: es) [] pos) (nListO fs) := by
  subst hK
  refine ⟨imp (pe_callTy clw_listN hg hm hv ha.pa hn hdb he hpl) fun σ H Q ⟨B, O, G, E, w, eo, q⟩ => ?_, fun E => (ha.mono E).bind fun _ => W.Mono.of.bind fun _ => .ret⟩
  refine ⟨B, O, G, E, w, eo, ha.mono E _ _ (fun ds q1 vs G1 H1 t1 r1 => ?_) q⟩
  obtain ⟨out, e, q2⟩ := of_some q1
  refine ⟨B, O, G1, ds, out, t1.w, r1, e, fun p vs' hp r' => ?_⟩
  have nb := t1.w.notB hp
  exact q2 (.ref p) G1 _ (t1.trans (t1.w.wet hp)) ⟨[p], .ownL ⟨t1.w.old p hp, t1.w.s.free hp, nb, upd_same⟩ r', fun y hy => by rw [List.mem_singleton.mp hy]; exact t1.free hp⟩
theorem RpAll.erase {O G : Hp} : ∀ {vs : List V} {ds : List Dat} (k : Nat), RpAll K O G vs ds → RpAll K O G (vs.eraseIdx k) (ds.eraseIdx k)
  | _, _, _, .nil => .nil
  | _, _, 0, .cons _ t => t
  | _, _, k + 1, .cons h t => .cons h (RpAll.erase k t)
theorem RpAll.set {O G : Hp} {v : V} {d : Dat} (r : Rp K O G v d) : ∀ {vs : List V} {ds : List Dat} (k : Nat), RpAll K O G vs ds → RpAll K O G (vs.set k v) (ds.set k d)
  | _, _, _, .nil => .nil
  | _, _, 0, .cons _ t => .cons r t
  | _, _, k + 1, .cons h t => .cons h (RpAll.set r k t)
/-- x.pop(i) as a statement -/
def popLD (ds : List Dat) : Dat → Option (List Dat)
  | .int i => if 0 ≤ i ∧ i < 2 ^ 62 ∧ i.toNat < ds.length then some (ds.eraseIdx i.toNat) else none
  | _ => none
def sPopL (i : Nat) (f : Env' → W Dat) : WS := fun E k => W.of (ownL E i) fun ds => f E fun d => W.of (popLD ds d) fun ds' => k.nx (E.set i (.own (.lst true ds')))
theorem pq_popL {i : Nat} {o e : Expr} {apos cpos pos : Pos} {f : Env' → W Dat} (hv : PE X o (tVar i)) (h : PX K X e f) (hK : X.K = K)
    (hbase : attributeBase o "pop" X.env (eval o X.env) = eval o X.env := by rfl)
    (hfew : ((backTo cpos (starEach [e] X.env)).all (fun x => !x.1) && (backToKw cpos (keywordEach [] X.env)).all (fun x => x.1.isSome)
      && decide ([e].length + ([] : List Keyword).length + (if ([] : List Keyword).isEmpty then 0 else 1) < 30)) = true := by rfl)
    (hline : (apos.endLine == cpos.line) = true := by rfl) (hs : starEach [e] X.env = (false, eval e X.env) :: starEach [] X.env := by rfl) (hplain : (backTo cpos (starEach [] X.env)).any (·.1) = false := by rfl)
    (hsw : swapsWith (.Call (.Attribute o "pop" apos) [e] [] cpos) none pos.line X.env = pure false := by rfl) :
    PQ K X (.Expr (.Call (.Attribute o "pop" apos) [e] [] cpos) pos) (sPopL i f) := by
  subst hK
  refine ⟨fun Wx tk => impS (ps_expr (pe_bm PySem.F.plainAttrs_list PySem.F.slot_list_pop PySem.F.type_list_pop mt_popAt hv (pa_cons h.pe pa_nil hs) hbase hfew hline hs hplain) hsw) fun D σ H ⟨B, G0, O, G, E, t, eo, q⟩ => ?_,
    fun E k k' l q => W.Mono.of _ _ (fun ds q => h.mono E _ _ (fun d q => W.Mono.of _ _ (fun _ q => l.nx _ q) q) q) q⟩
  obtain ⟨ds, e1, q⟩ := of_some q
  have e1 := ownL_some e1
  obtain ⟨p, vs, s1, a1, a2, a3, a4, a5⟩ := own_at eo e1
  refine ⟨_, s1, .inl ⟨rfl, _, SqL.of a4⟩, B, O, G, E, t.w, eo, h.mono E _ _ (fun d q1 v G' H' t' r => ?_) q⟩
  obtain ⟨ds', e2, q2⟩ := of_some q1
  have g' := t'.new p a2 (by rw [a4]; exact Option.some_ne_none _)
  have h' := t'.keep p _ a3 a4
  have tt := t.trans t'
  cases r <;> simp only [popLD] at e2 <;> try cases e2
  rename_i z
  split at e2
  · rename_i hz
    cases e2
    obtain ⟨z0, z1, z2⟩ := hz
    have hl : z.toNat < vs.length := by rw [a5.len]; exact z2
    refine ⟨p, vs, z, z.toNat, vs[z.toNat], rfl, rfl, h', by omega, by omega, ?_, List.getElem?_eq_getElem hl, q2 σ G' _ t'.g (tt.put a1 g' a3) ((eo.step t').change e1 s1 (.ownL ⟨a1, g', a3, upd_same⟩ ((a5.mono t'.g).erase _)))⟩
    exact seqIndex_of z0 (by omega)
  · cases e2
/-- x.insert(i, y) as a statement -/
def insLD (ds : List Dat) (y : Dat) : Dat → Option (List Dat)
  | .int i => if 0 ≤ i ∧ i < 2 ^ 62 ∧ ds.length < sizeLine then some (ds.take i.toNat ++ [y] ++ ds.drop i.toNat) else none
  | _ => none
def sInsL (i : Nat) (f g : Env' → W Dat) : WS := fun E k => W.of (ownL E i) fun ds => f E fun d => g E fun y => W.of (insLD ds y d) fun ds' => k.nx (E.set i (.own (.lst true ds')))
theorem pq_insL {i : Nat} {o e e' : Expr} {apos cpos pos : Pos} {f g : Env' → W Dat} (hv : PE X o (tVar i)) (h : PX K X e f) (hy : PX K X e' g) (hK : X.K = K)
    (hbase : attributeBase o "insert" X.env (eval o X.env) = eval o X.env := by rfl)
    (hfew : ((backTo cpos (starEach [e, e'] X.env)).all (fun x => !x.1) && (backToKw cpos (keywordEach [] X.env)).all (fun x => x.1.isSome)
      && decide ([e, e'].length + ([] : List Keyword).length + (if ([] : List Keyword).isEmpty then 0 else 1) < 30)) = true := by rfl)
    (hline : (apos.endLine == cpos.line) = true := by rfl) (hs : starEach [e, e'] X.env = (false, eval e X.env) :: starEach [e'] X.env := by rfl) (hs' : starEach [e'] X.env = (false, eval e' X.env) :: starEach [] X.env := by rfl) (hplain : (backTo cpos (starEach [e'] X.env)).any (·.1) = false := by rfl)
    (hsw : swapsWith (.Call (.Attribute o "insert" apos) [e, e'] [] cpos) none pos.line X.env = pure false := by rfl) :
    PQ K X (.Expr (.Call (.Attribute o "insert" apos) [e, e'] [] cpos) pos) (sInsL i f g) := by
  subst hK
  refine ⟨fun Wx tk => impS (ps_expr (pe_bm PySem.F.plainAttrs_list PySem.F.slot_list_insert PySem.F.type_list_insert mt_insert hv (pa_cons h.pe (pa_cons hy.pe pa_nil hs') hs) hbase hfew hline hs hplain) hsw) fun D σ H ⟨B, G0, O, G, E, t, eo, q⟩ => ?_,
    fun E k k' l q => W.Mono.of _ _ (fun ds q => h.mono E _ _ (fun d q => hy.mono E _ _ (fun y q => W.Mono.of _ _ (fun _ q => l.nx _ q) q) q) q) q⟩
  obtain ⟨ds, e1, q⟩ := of_some q
  have e1 := ownL_some e1
  obtain ⟨p, vs, s1, a1, a2, a3, a4, a5⟩ := own_at eo e1
  refine ⟨_, s1, .inl ⟨rfl, _, SqL.of a4⟩, B, O, G, E, t.w, eo, h.mono E _ _ (fun d q1 v G' H' t' r => ?_) q⟩
  refine ⟨B, O, G', E, t'.w, eo.step t', hy.mono E _ _ (fun y q2 v2 G2 H2 t2 r2 => ?_) q1⟩
  obtain ⟨ds', e2, q3⟩ := of_some q2
  have t12 := t'.trans t2
  have g' := t12.new p a2 (by rw [a4]; exact Option.some_ne_none _)
  have h' := t12.keep p _ a3 a4
  have tt := t.trans t12
  cases r <;> simp only [insLD] at e2 <;> try cases e2
  rename_i z
  split at e2
  · rename_i hz
    cases e2
    obtain ⟨z0, z1, z2⟩ := hz
    have a6 := a5.mono t12.g
    refine ⟨p, vs, z, v2, rfl, rfl, h', by rw [a5.len]; exact z2, z0, by omega, q3 σ G2 _ t12.g (tt.put a1 g' a3) ((eo.step t12).change e1 s1 (.ownL ⟨a1, g', a3, upd_same⟩ (((a6.take _).append (.cons r2 .nil)).append (a6.drop _))))⟩
  · cases e2
/-- x[i] = y -/
def setLD (ds : List Dat) (y : Dat) : Dat → Option (List Dat)
  | .int i => if 0 ≤ i ∧ i < 2 ^ 62 ∧ i.toNat < ds.length then some (ds.set i.toNat y) else none
  | _ => none
def sPutL (i : Nat) (fk f : Env' → W Dat) : WS := fun E k => W.of (ownL E i) fun ds => f E fun y => fk E fun d => W.of (setLD ds y d) fun ds' => k.nx (E.set i (.own (.lst true ds')))
theorem pq_putL {i : Nat} {o ke e : Expr} {pos' pos : Pos} {fk f : Env' → W Dat} (hv : PE X o (tVar i)) (hk : PX K X ke fk) (h : PX K X e f)
    (ha : ∀ v, assign (.Subscript o ke pos') X.env v = (do
      let ov ← holding [v] (eval o X.env)
      let iv ← holding [v, ov] (eval ke X.env)
      standAt pos'
      holding [v, ov, iv] (setItem ov iv v)
      release [v, ov, iv] []) := by intro _; rfl)
    (hs : swapsWithSole [.Subscript o ke pos'] e pos.line X.env = pure false := by rfl) (hw : swappedStores [.Subscript o ke pos'] e X.env = pure none := by rfl) :
    PQ K X (.Assign [.Subscript o ke pos'] e pos) (sPutL i fk f) := by
  refine ⟨fun Wx tk => impS (ps_asg h.pe (pg_sub hv hk.pe set_list ha) hs hw) fun D σ H ⟨B, G0, O, G, E, t, eo, q⟩ => ?_, fun E k k' l q => W.Mono.of _ _ (fun es q => h.mono E _ _ (fun d q => hk.mono E _ _ (fun kd q => W.Mono.of _ _ (fun _ q => l.nx _ q) q) q) q) q⟩
  obtain ⟨ds, e1, q⟩ := of_some q
  have e1 := ownL_some e1
  obtain ⟨p, vs, s1, a1, a2, a3, a4, a5⟩ := own_at eo e1
  refine ⟨B, O, G, E, t.w, eo, h.mono E _ _ (fun d q1 v G1 H1 t1 r1 => ⟨_, s1, B, O, G1, E, t1.w, eo.step t1, hk.mono E _ _ (fun kd q2 kv G2 H2 t2 r2 => ?_) q1⟩) q⟩
  obtain ⟨ds', e2, q3⟩ := of_some q2
  have t12 := t1.trans t2
  have g' := t12.new p a2 (by rw [a4]; exact Option.some_ne_none _)
  have h' := t12.keep p _ a3 a4
  have tt := t.trans t12
  cases r2 <;> simp only [setLD] at e2 <;> try cases e2
  rename_i z
  split at e2
  · rename_i hz
    cases e2
    obtain ⟨z0, z1, z2⟩ := hz
    have hl : z.toNat < vs.length := by rw [a5.len]; exact z2
    refine ⟨p, vs, z, z.toNat, rfl, rfl, h', ?_, q3 σ G2 _ t12.g (tt.put a1 g' a3) ((eo.step t12).change e1 s1 (.ownL ⟨a1, g', a3, upd_same⟩ ((a5.mono t12.g).set (r1.mono t2.g) _)))⟩
    unfold ixN
    rw [if_pos z0, if_pos (by omega)]
  · cases e2
/-- x[i], x an own list with data -/
abbrev wIxL (i : Nat) (fk : Env' → W Dat) : Env' → W Dat := fun E => (W.of (ownL E i)).bind fun ds => (fk E).bind fun kd => W.of (match kd with | .int z => L2.atI ds z | _ => none)
theorem px_ixL {i : Nat} {o ke : Expr} {pos : Pos} {fk : Env' → W Dat} (hv : PE X o (tVar i)) (hk : PX K X ke fk) (hK : X.K = K) (hs : PlainIx ke := by exact fun _ _ => rfl) : PX K X (.Subscript o ke pos) (wIxL i fk) := by
  subst hK
  refine ⟨imp (pe_ix ix_list hv hk.pe hs) fun σ H Q ⟨B, O, G, E, w, eo, q⟩ => ?_, fun E => W.Mono.of.bind fun _ => (hk.mono E).bind fun _ => .of⟩
  obtain ⟨ds, e, q⟩ := of_some q
  obtain ⟨p, vs, hx, a1, a2, a3, a4, a5⟩ := own_at eo (ownL_some e)
  refine ⟨_, hx, B, O, G, E, w, eo, hk.mono E _ _ (fun kd q1 v G1 H1 t1 r1 => ?_) q⟩
  obtain ⟨d, e1, q2⟩ := of_some q1
  cases r1 <;> try cases e1
  rename_i z
  have e1 : L2.atI ds z = some d := e1
  have h4 : H1 p = some (.lst vs) := t1.keep p _ a3 a4
  obtain ⟨u, hu, ru⟩ := (a5.mono t1.g).atI e1
  exact ⟨p, vs, z, u, rfl, rfl, SqL.of h4, hu, q2 u G1 H1 t1 ru⟩
end
end EW
set_option Elab.async false
set_option linter.all false
set_option maxRecDepth 100000
set_option maxHeartbeats 4000000
namespace EM
open PySem PySem.Spec PyProof.Rows L2
def keyM : Key → MK
  | .inl i => .int i
  | .inr x => .str x
def keyKd : Key → Kd
  | .inl i => .int i
  | .inr x => .str x
theorem keyKd_m (k : Key) : (keyKd k).m = keyM k := by cases k <;> rfl
theorem keyM_inj {a b : Key} (h : keyM a = keyM b) : a = b := by
  cases a <;> cases b <;> cases h <;> rfl
theorem kdV_key {K : PySem.W.Frag} {G : Hp} (k : Key) : KdV K G (kV k) (keyKd k) := by cases k <;> rfl
theorem ents_of {P : Program} {w : World} : ∀ {kvs : List (Key × V)} {vs : List (Key × Value)} {es : List DictEntry}, KV kvs vs → Pairs (mixKind P w) es vs → (∀ e ∈ es, ∃ k, (mixKind P w).is k e.key = true ∧ e.hash = (mixKind P w).hash k) →
    ∃ xs : List MX, es = xs.map (entM w) ∧ xs.map (·.1) = kvs.map (fun kv => keyM kv.1) ∧ Vals (kvs.map fun kv => kV kv.1) (xs.map (·.2.1)) ∧ Vals (kvs.map (·.2)) (xs.map (·.2.2))
  | [], _, es, .nil, hp, _ => by
    cases hp
    exact ⟨[], rfl, rfl, .nil, .nil⟩
  | p :: ps, _, es, .cons r t, hp, hk => by
    cases hp with
    | @cons e _ es' _ hk1 hv1 hr =>
      obtain ⟨xs, h1, h2, h3, h4⟩ := ents_of t hr fun e he => hk e (List.mem_cons_of_mem _ he)
      obtain ⟨e1, e2⟩ := r
      obtain ⟨k, hk2, hh⟩ := hk e List.mem_cons_self
      have hk1' : keyIs p.1 e.key = true := by rw [e1]; exact hk1
      have ek : k = p.1 := (mixKind P w).inj _ _ _ hk2 hk1'
      subst ek
      refine ⟨(keyM p.1, e.key, e.val) :: xs, ?_, ?_, .cons (keyIs_rel hk1') h3, .cons ?_ h4⟩
      · rw [List.map_cons, ← h1]
        congr 1
        obtain ⟨eh, ek, ev⟩ := e
        have : eh = hashM w (keyM p.1) := by
          have hh' : eh = keyH w p.1 := hh
          rw [hh']
          cases p.1 <;> rfl
        rw [this]
        rfl
      · rw [List.map_cons, List.map_cons, h2]
      · show RelV p.2 e.val
        rw [hv1]
        exact e2
section
variable {X : Cx} {pins : List (Addr × Obj)} {σ : L2.St} {H : Hp} {s : Shared} {a : Addr} {A : Around} {E : Value → Shared → Prop}
/-- a dict of ints and texts, described anew -/
theorem toOdd {kvs : List (Key × V)} (I : Inv X pins σ H s) (e : H a = some (.dK kvs)) :
    ∃ xs : List MX, Inv X pins σ (upd H a (oddO X.w a xs)) s ∧ xs.map (·.1) = (kvs.map fun kv => keyKd kv.1).map Kd.m ∧ Vals (kvs.map fun kv => kV kv.1) (xs.map (·.2.1)) ∧ Vals (kvs.map (·.2)) (xs.map (·.2.2)) := by
  obtain ⟨z, hd, vs, rel, o, es, ep, ho, hc, hdat, hk, hp, hn⟩ := dk_of I.hok e
  obtain ⟨xs, h1, h2, h3, h4⟩ := ents_of rel hp fun e he => hk e (Array.mem_toList_iff.mp he)
  have hl : xs.length = kvs.length := by
    have := congrArg List.length h2
    simpa using this
  refine ⟨xs, ?_, by rw [h2, List.map_map]; exact List.map_congr_left fun p _ => (keyKd_m _).symm, h3, h4⟩
  have dm : DM X.w s.heap a xs := by
    refine ⟨o, es, ep, ho, hc, hdat, h1, ?_⟩
    rw [h2]
    have e1 : kvs.map (fun kv => keyM kv.1) = (kvs.map (·.1)).map keyM := by rw [List.map_map]; rfl
    rw [e1, rel.keys]
    exact nodup_on hn fun _ _ _ _ q => keyM_inj q
  exact d_write (t' := s.toks) I (by rw [e]; exact True.intro) (Heap.SameBut.refl _ _) ⟨o, ho⟩ (odd_ok dm hd (by rw [hl]; exact z))
theorem copy_dK {kvs : List (Key × V)} {Q : Value → Shared → Prop} (I : Inv X pins σ H s) (e : Rd H a (.dK kvs))
    (h : ∀ p s' xs, H p = none → Inv X pins σ (upd H p (oddO X.w p xs)) s' → xs.map (·.1) = (kvs.map fun kv => keyKd kv.1).map Kd.m → Vals (kvs.map fun kv => kV kv.1) (xs.map (·.2.1)) → Vals (kvs.map (·.2)) (xs.map (·.2.2)) → Q (.ref p) s') :
    wpAny (model X.prog X.w) A (call (.type "dict") [.ref a]) Q E s :=
  d_copyOf I e fun p s' hp I' => by
    obtain ⟨xs, I2, h1, h2, h3⟩ := toOdd I' upd_same
    rw [upd_upd] at I2
    exact h p s' xs hp I2 h1 h2 h3
/-- what is known of an odd dict at a place -/
structure OdAt (X : Cx) (H : Hp) (a : Addr) (xs : List MX) (kvs : List V) (ks : List Kd) : Prop where
  m : xs.map (·.1) = ks.map Kd.m
  v : Vals kvs (xs.map (·.2.1))
  k : KdAll X.K H kvs ks
theorem odd_typeIs {w : World} {xs : List MX} (I : Inv X pins σ H s) (e : Rd H a (oddO w a xs)) : s.TypeIs (.ref a) "dict" := (odd_rd I.hok e).1.typeIs
theorem odd_noDict {w : World} {xs : List MX} (I : Inv X pins σ H s) (e : Rd H a (oddO w a xs)) : ∀ b, Value.ref a = .ref b → ∃ ob, s.heap.get? b = some ob ∧ ob.dict = none := fun b q => by
  cases q
  obtain ⟨⟨o, _, _, h1, h2, _⟩, _⟩ := odd_rd I.hok e
  exact ⟨o, h1, h2.2.1⟩
end
section
variable {X : Cx} {o i e value : Expr} {pos pos' tpos apos cpos : Pos} {td ty tv : TE}
def tOGet (X : Cx) (td ty : TE) : TE := fun σ H Q => td σ H fun x H1 => ty σ H1 fun y H2 => ∃ a xs kvs ks kd j x', x = .ref a ∧ Rd H2 a (oddO X.w a xs) ∧ OdAt X H2 a xs kvs ks ∧ KdV X.K H2 y kd ∧ atK (fun z : MX => z.1) xs kd.m = some j ∧ xs[j]? = some x' ∧ ∃ v, RelV v x'.2.2 ∧ Q v H2
theorem pe_oget (hu : X.A.units + 1 < cLine) (ho : PE X o td) (hi : PE X i ty) (hs : NoSl i) : PE X (.Subscript o i pos) (tOGet X td ty) := by
  refine ⟨fun pins s σ H Q I h => ?_⟩
  refine subD_of PySem.F.slot_dict_getitem.lookup hs (thn (ho.run pins s σ H _ I h) fun u s1 ⟨x, H1, I1, rx, q1⟩ => thn (hi.run pins s1 σ H1 _ I1 q1) fun iv s2 ⟨y, H2, I2, ry, a, xs, kvs, ks, kd, j, x', ex, e, od, kv, hj, hx, v, rv, q2⟩ => ?_)
  subst ex
  obtain rfl : u = Value.ref a := rx
  exact ⟨odd_typeIs I2 e, get_odd hu I2 e (isMs_kd I2 od.k od.v od.m) (isM_kd I2 kv ry) hj hx fun s3 I3 => ⟨v, H2, I3, rv, q2⟩⟩
def sOPut (X : Cx) (td ty tv : TE) : TS := fun D σ H => tv σ H fun v H1 => td σ H1 fun x H2 => ty σ H2 fun y H3 => ∃ a xs kvs ks kd, x = .ref a ∧ H3 a = some (oddO X.w a xs) ∧ OdAt X H3 a xs kvs ks ∧ KdV X.K H3 y kd ∧ xs.length < sizeLine ∧
  ∀ yu vu, RelV y yu → RelV v vu → D.nx σ (upd H3 a (oddO X.w a (putX xs kd.m yu vu)))
theorem ps_oput (hu : X.A.units + 1 < cLine) (ho : PE X o td) (hi : PE X i ty) (hv : PE X value tv) (hs : swapsWith value (some (.Subscript o i pos')) pos.line X.env = pure false) :
    PS X (.Assign [.Subscript o i pos'] value pos) (sOPut X td ty tv) := by
  refine ⟨fun pins s σ H D I h => ?_⟩
  refine wpAny_Assign_Subscript (thn (hv.run pins s σ H _ I h) fun r s1 ⟨v, H1, I1, rv, q1⟩ => thn (ho.run pins s1 σ H1 _ I1 q1) fun u s2 ⟨x, H2, I2, rx, q2⟩ => thn (hi.run pins s2 σ H2 _ I2 q2) fun iv s3 ⟨y, H3, I3, ry, a, xs, kvs, ks, kd, ex, e, od, kv, hz, q3⟩ => ?_) hs
  subst ex
  obtain rfl : u = Value.ref a := rx
  exact set_odd hu I3 e (isMs_kd I3 od.k od.v od.m) (isM_kd I3 kv ry) hz fun s4 I4 => ⟨σ, _, I4, q3 iv r ry rv⟩
def tOPop (X : Cx) (td ty : TE) : TE := fun σ H Q => td σ H fun x H1 => ∃ a w0 xs0, x = .ref a ∧ Rd H1 a (oddO w0 a xs0) ∧ ty σ H1 fun y H2 => ∃ xs kvs ks kd j x', H2 a = some (oddO X.w a xs) ∧ OdAt X H2 a xs kvs ks ∧ KdV X.K H2 y kd ∧ atK (fun z : MX => z.1) xs kd.m = some j ∧ xs[j]? = some x' ∧
  ∃ v, RelV v x'.2.2 ∧ Q v (upd H2 a (oddO X.w a (outX xs kd.m)))
theorem pe_opop (hu : X.A.units + 1 < cLine) (ho : PE X o td) (he : PE X e ty) (m : M1 X o "pop" apos e cpos) : PE X (.Call (.Attribute o "pop" apos) [e] [] cpos) (tOPop X td ty) := by
  refine ⟨fun pins s σ H Q I h => ?_⟩
  refine wpAny_Call_method m.base m.few m.line PySem.F.plainAttrs_dict PySem.F.slot_dict_pop PySem.F.type_dict_pop (thn (ho.run pins s σ H _ I h) fun u s1 ⟨x, H1, I1, rx, a, w0, xs0, ex, d, q1⟩ => ?_)
  subst ex
  obtain rfl : u = Value.ref a := rx
  refine ⟨odd_typeIs I1 d, odd_noDict I1 d, ?_⟩
  rw [m.trees]
  refine Calls.callWith_builtin rfl (Calls.evalArgs_plain (Calls.spliced_cons (thn (he.run pins s1 σ H1 _ I1 q1) fun iv s2 ⟨y, H2, I2, ry, xs, kvs, ks, kd, j, x', ea, od, kv, hj, hx, v, rv, q2⟩ => Calls.spliced_nil ?_)))
  exact pop_odd hu I2 ea (isMs_kd I2 od.k od.v od.m) (isM_kd I2 kv ry) hj hx fun s3 I3 => ⟨v, _, I3, rv, q2⟩
end
end EM
set_option Elab.async false
set_option linter.all false
set_option maxRecDepth 100000
set_option maxHeartbeats 4000000
namespace EW
open PySem PySem.Spec PyProof.Rows L2 EG EM
section
variable {K : PySem.W.Frag} {X : Cx}
abbrev OE := Kd × Dat
def OR (K : PySem.W.Frag) (O G : Hp) (x : MX) (e : OE) : Prop := x.1 = e.1.m ∧ ∃ kv vv, RelV kv x.2.1 ∧ RelV vv x.2.2 ∧ KdV K G kv e.1 ∧ Rp K O G vv e.2
theorem or_of {O G : Hp} : ∀ {xs : List MX} {kvs vvs : List V} {es : List OE}, xs.map (·.1) = es.map (·.1.m) → Vals kvs (xs.map (·.2.1)) → Vals vvs (xs.map (·.2.2)) → KdAll K G kvs (es.map (·.1)) → RpAll K O G vvs (es.map (·.2)) → Paired (OR K O G) xs es
  | [], _, _, [], _, _, _, _, _ => .nil
  | [], _, _, _ :: _, h, _, _, _, _ => by cases h
  | _ :: _, _, _, [], h, _, _, _, _ => by cases h
  | x :: xs, _, _, e :: es, h, .cons a1 a2, .cons b1 b2, .cons c1 c2, .cons d1 d2 => by
    rw [List.map_cons, List.map_cons] at h
    injection h with h1 h2
    exact .cons ⟨h1, _, _, a1, b1, c1, d1⟩ (or_of h2 a2 b2 c2 d2)
theorem of_or {O G : Hp} : ∀ {xs : List MX} {es : List OE}, Paired (OR K O G) xs es → ∃ kvs vvs, xs.map (·.1) = es.map (·.1.m) ∧ Vals kvs (xs.map (·.2.1)) ∧ Vals vvs (xs.map (·.2.2)) ∧ KdAll K G kvs (es.map (·.1)) ∧ RpAll K O G vvs (es.map (·.2))
  | _, _, .nil => ⟨[], [], rfl, .nil, .nil, .nil, .nil⟩
  | _, _, .cons ⟨h, kv, vv, a, b, c, d⟩ t => by
    obtain ⟨kvs, vvs, h1, h2, h3, h4, h5⟩ := of_or t
    exact ⟨kv :: kvs, vv :: vvs, by rw [List.map_cons, List.map_cons, h, h1], .cons a h2, .cons b h3, .cons c h4, .cons d h5⟩
theorem OR.mono {O G G' : Hp} (s : Same G G') {x : MX} {e : OE} (h : OR K O G x e) : OR K O G' x e := by
  obtain ⟨h, kv, vv, a, b, c, d⟩ := h
  exact ⟨h, kv, vv, a, b, c.mono fun _ _ q => sq_t' s q, d.mono s⟩
theorem Par.mono {O G G' : Hp} (s : Same G G') {xs : List MX} {es : List OE} (h : Paired (OR K O G) xs es) : Paired (OR K O G') xs es := Paired.mapP h fun _ _ z => z.mono s
abbrev putOE (es : List OE) (k : Kd) (d : Dat) : List OE := putM (fun p => p.1.m) es k.m (k, d) fun p => (p.1, d)
abbrev outOE (es : List OE) (k : Kd) : List OE := outM (fun p => p.1.m) es k.m
def getO (es : List OE) (k : Kd) : Option Dat := (atK (fun p : OE => p.1.m) es k.m).bind fun j => (es[j]?).map (·.2)
theorem or_key {O G : Hp} (x : MX) (e : OE) (h : OR K O G x e) : x.1 = e.1.m := h.1
theorem Par.putOE {O G : Hp} {xs : List MX} {es : List OE} (h : Paired (OR K O G) xs es) {kd : Kd} {y v : V} {yu vu : Value} {d : Dat} (ky : KdV K G y kd) (ry : RelV y yu) (rv : RelV v vu) (rp : Rp K O G v d) : Paired (OR K O G) (putX xs kd.m yu vu) (putOE es kd d) :=
  Par.put or_key h ⟨rfl, y, v, ry, rv, ky, rp⟩ fun a b ⟨h, kv, vv, a1, a2, a3, a4⟩ => ⟨h, kv, v, a1, rv, a3, rp⟩
theorem own_atO {B : Bg} {O G H : Hp} {σ : L2.St} {E : Env'} {i : Nat} {w : World} {es : List OE} (h : EnvOk K B O G H σ E) (e : E[i]? = some (.own (.odd w true es))) :
    ∃ p xs, σ[i]? = some (some (.ref p)) ∧ O p = none ∧ G p = none ∧ NotB B p ∧ H p = some (oddO w p xs) ∧ Paired (OR K O G) xs es := by
  obtain ⟨x, S, hx, ok⟩ := h.get e
  cases ok with
  | ownO a a1 a2 a3 a4 a5 => exact ⟨_, _, hx, a.old, a.g, a.nb, a.h, or_of a1 a2 a3 a4 a5⟩
theorem slO {B : Bg} {O G H : Hp} {p : Addr} {w : World} {xs : List MX} {es : List OE} (a : At B O G H p (oddO w p xs)) (h : Paired (OR K O G) xs es) : SlF K B O G H (some (.ref p)) (.own (.odd w true es)) [p] := by
  obtain ⟨kvs, vvs, h1, h2, h3, h4, h5⟩ := of_or h
  exact .ownO a h1 h2 h3 h4 h5
def kdOf : Dat → Option Kd
  | .int i => some (.int i)
  | .bl b => some (.bl b)
  | .str x => some (.str x)
  | .non => some .non
  | .tup [] => some .uni
  | _ => none
theorem kd_of {O G : Hp} {v : V} {d : Dat} {k : Kd} (r : Rp K O G v d) (h : kdOf d = some k) : KdV K G v k := by
  cases r with
  | @tup a xs ds h1 h2 =>
    cases ds with
    | nil =>
      cases h
      cases h2
      exact ⟨a, rfl, h1⟩
    | cons _ _ => cases h
  | non => cases h; rfl
  | bl b => cases h; rfl
  | int i => cases h; rfl
  | str x => cases h; rfl
  | _ => cases h
/-- the own dict in slot i -/
def oddAt (w : World) (E : Env') (i : Nat) : W (List OE) := fun Q => ∃ es, E[i]? = some (.own (.odd w true es)) ∧ Q es
theorem oddAt_mono {w : World} {E : Env'} {i : Nat} : W.Mono (oddAt w E i) := fun P Q h ⟨es, e, q⟩ => ⟨es, e, h _ q⟩
/-- dict(x) -/
def copyW (w : World) (ds : List Dat) : W (List OE) := fun Q => (∃ t es, ds = [.dct t es] ∧ Q (es.map fun p => (keyKd p.1, p.2))) ∨ ∃ t es, ds = [.odd w t es] ∧ okC (es.map (·.1.m)) = true ∧ Q es
theorem copyW_mono {w : World} {ds : List Dat} : W.Mono (copyW w ds) := fun P Q h q => q.elim (fun ⟨t, es, e, q⟩ => .inl ⟨t, es, e, h _ q⟩) fun ⟨t, es, e, z, q⟩ => .inr ⟨t, es, e, z, h _ q⟩
theorem copy_par {O G : Hp} : ∀ {xs : List MX} {kvs : List (Key × V)} {es : List (Key × Dat)}, kvs.map (·.1) = es.map (·.1) → RpAll K O G (kvs.map (·.2)) (es.map (·.2)) → xs.map (·.1) = (kvs.map fun kv => keyKd kv.1).map Kd.m → Vals (kvs.map fun kv => kV kv.1) (xs.map (·.2.1)) → Vals (kvs.map (·.2)) (xs.map (·.2.2)) →
    Paired (OR K O G) xs (es.map fun p => (keyKd p.1, p.2))
  | [], [], [], _, _, _, _, _ => .nil
  | [], _ :: _, _, _, _, h, _, _ => by cases h
  | _ :: _, [], _, _, _, h, _, _ => by cases h
  | _, [], _ :: _, h, _, _, _, _ => by cases h
  | _, _ :: _, [], h, _, _, _, _ => by cases h
  | x :: xs, q :: kvs, p :: es, h1, .cons r1 r2, h3, .cons a1 a2, .cons b1 b2 => by
    rw [List.map_cons, List.map_cons] at h1
    injection h1 with e1 e2
    rw [List.map_cons, List.map_cons, List.map_cons] at h3
    injection h3 with f1 f2
    exact .cons ⟨by rw [f1, e1], _, _, a1, b1, by show KdV K G (kV q.1) (keyKd p.1); rw [show q.1 = p.1 from e1]; exact kdV_key _, r1⟩ (copy_par e2 r2 f2 a2 b2)
def rCO (K : PySem.W.Frag) (w : World) : List V → Hp → VK → Prop := fun xs H Q => ∃ B O G ds, Wd B O G H ∧ RpAll K O G xs ds ∧ copyW w ds fun es => ∀ p ys, H p = none → Paired (OR K O G) ys es → Q (.ref p) (upd H p (oddO w p ys))
theorem clw_copyO (hu : X.A.units + 2 < cLine) : CallR X (.type "dict") (rCO X.K X.w) := by
  intro pins s σ H xs us Q I r h
  obtain ⟨B, O, G, ds, w, rs, q⟩ := h
  rcases q with ⟨t, es, rfl, q⟩ | ⟨t, es, rfl, hc, q⟩
  · obtain ⟨v, rfl, rv⟩ := one_inv rs
    obtain ⟨u, rfl, ru⟩ := vals1 r
    cases rv with
    | @dct a o kvs _ _ h1 h2 h3 _ =>
      cases ru
      exact copy_dK I (.inr ⟨o, w.s _ _ h1⟩) fun p s' ys hp I' e1 e2 e3 => ⟨.ref p, _, I', rfl, q p ys hp (copy_par h2 h3 e1 e2 e3)⟩
  · obtain ⟨v, rfl, rv⟩ := one_inv rs
    obtain ⟨u, rfl, ru⟩ := vals1 r
    cases rv with
    | @odd a o _ ys kvs vvs _ _ h1 h2 h3 h4 h5 h6 _ =>
      cases ru
      have hr : Rd H a (oddO X.w a ys) := .inr ⟨o, w.s _ _ h1⟩
      refine copy_odd hu I hr (isMs_kd I (KdAll.same w.s h5) h3 (by rw [h2, List.map_map]; rfl)) (by rw [h2]; exact hc) fun p s' hp I' => ⟨.ref p, _, I', rfl, q p ys hp (or_of h2 h3 h4 h5 h6)⟩
def nCopyO (w : World) (f : Env' → W (List Dat)) : Env' → W Sl := fun E => (f E).bind fun ds => (copyW w ds).bind fun es => W.ret (.own (.odd w true es))
theorem pn_copyO {w : World} {x : Str} {p pos : Pos} {e : Expr} {es : List Expr} {fs : Env' → W (List Dat)} (hK : X.K = K) (hw : X.w = w) (hu : X.A.units + 2 < cLine) (hg : Gl X x) (hm : X.mg x = none) (hv : bootBuiltins x = some (.type "dict")) (ha : PXs K X (e :: es) fs) (hn : x ≠ "__name__" := by decide) (hdb : (x == ("__debug__" : Str)) = false := by decide)
    (he : starEach (e :: es) X.env = (false, eval e X.env) :: starEach es X.env := by rfl) (hpl : (backTo pos (starEach es X.env)).any (·.1) = false := by rfl) : PN K X (.Call (.Name x p) (e :: es) [] pos) (nCopyO w fs) := by
  subst hK hw
  refine ⟨imp (pe_callTy (clw_copyO hu) hg hm hv ha.pa hn hdb he hpl) fun σ H Q ⟨B, O, G, E, w, eo, q⟩ => ?_, fun E => (ha.mono E).bind fun _ => copyW_mono.bind fun _ => .ret⟩
  refine ⟨B, O, G, E, w, eo, ha.mono E _ _ (fun ds q1 vs G1 H1 t1 r1 => ?_) q⟩
  refine ⟨B, O, G1, ds, t1.w, r1, copyW_mono _ _ (fun es q2 p ys hp h => ?_) q1⟩
  have nb := t1.w.notB hp
  exact q2 (.ref p) G1 _ (t1.trans (t1.w.wet hp)) ⟨[p], slO ⟨t1.w.old p hp, t1.w.s.free hp, nb, upd_same⟩ h, fun y hy => by rw [List.mem_singleton.mp hy]; exact t1.free hp⟩
/-- d[k] -/
abbrev wIxM (w : World) (i : Nat) (fk : Env' → W Dat) : Env' → W Dat := fun E => (oddAt w E i).bind fun es => (fk E).bind fun kd => W.of ((kdOf kd).bind fun k => getO es k)
theorem px_ixM {w : World} {i : Nat} {o ke : Expr} {pos : Pos} {fk : Env' → W Dat} (hK : X.K = K) (hw : X.w = w) (hu : X.A.units + 1 < cLine) (hv : PE X o (tVar i)) (hk : PX K X ke fk) (hs : NoSl ke := by exact fun _ _ => rfl) : PX K X (.Subscript o ke pos) (wIxM w i fk) := by
  subst hK hw
  refine ⟨imp (pe_oget hu hv hk.pe hs) fun σ H Q ⟨B, O, G, E, w, eo, q⟩ => ?_, fun E => oddAt_mono.bind fun _ => (hk.mono E).bind fun _ => .of⟩
  obtain ⟨es, e, q⟩ := q
  obtain ⟨p, xs, hx, a1, a2, a3, a4, a5⟩ := own_atO eo e
  refine ⟨_, hx, B, O, G, E, w, eo, hk.mono E _ _ (fun kd q1 v G1 H1 t1 r1 => ?_) q⟩
  obtain ⟨d, e1, q2⟩ := of_some q1
  obtain ⟨k, ek, ev⟩ := Option.bind_eq_some_iff.mp e1
  obtain ⟨j, hj, ed⟩ := Option.bind_eq_some_iff.mp ev
  obtain ⟨y, hy, rfl⟩ := Option.map_eq_some_iff.mp ed
  have h4 := t1.keep p _ a3 a4
  have a6 := Par.mono t1.g a5
  obtain ⟨kvs, vvs, h1, h2, h3, h5, h6⟩ := of_or a6
  obtain ⟨x', hx', _, kv, vv, b1, b2, b3, b4⟩ := Par.get a6 hy
  exact ⟨p, xs, kvs, es.map (·.1), k, j, x', rfl, .inl h4, ⟨by rw [h1, List.map_map]; rfl, h2, KdAll.same t1.w.s h5⟩, (kd_of r1 ek).mono fun _ _ q => sq_t' t1.w.s q, by rw [atK_par or_key a6]; exact hj, hx', vv, b2, q2 vv G1 H1 t1 b4⟩
/-- d[k] = e -/
def sPutM (w : World) (i : Nat) (fk f : Env' → W Dat) : WS := fun E k => (oddAt w E i) fun es => f E fun d => fk E fun kd => W.of (kdOf kd) fun key => es.length < sizeLine ∧ k.nx (E.set i (.own (.odd w true (putOE es key d))))
theorem pq_putM {w : World} {i : Nat} {o ke e : Expr} {pos' pos : Pos} {fk f : Env' → W Dat} (hK : X.K = K) (hw : X.w = w) (hu : X.A.units + 1 < cLine) (hv : PE X o (tVar i)) (hk : PX K X ke fk) (h : PX K X e f) (hs : swapsWith e (some (.Subscript o ke pos')) pos.line X.env = pure false := by rfl) :
    PQ K X (.Assign [.Subscript o ke pos'] e pos) (sPutM w i fk f) := by
  subst hK hw
  refine ⟨fun Wx tk => impS (ps_oput hu hv hk.pe h.pe hs) fun D σ H ⟨B, G0, O, G, E, t, eo, q⟩ => ?_, fun E k k' l q => oddAt_mono _ _ (fun es q => h.mono E _ _ (fun d q => hk.mono E _ _ (fun kd q => W.Mono.of _ _ (fun _ q => ⟨q.1, l.nx _ q.2⟩) q) q) q) q⟩
  obtain ⟨es, e1, q⟩ := q
  obtain ⟨p, xs, s1, a1, a2, a3, a4, a5⟩ := own_atO eo e1
  refine ⟨B, O, G, E, t.w, eo, h.mono E _ _ (fun d q1 v G1 H1 t1 r1 => ⟨_, s1, B, O, G1, E, t1.w, eo.step t1, hk.mono E _ _ (fun kd q2 kv G2 H2 t2 r2 => ?_) q1⟩) q⟩
  obtain ⟨key, ek, q3⟩ := of_some q2
  have t12 := t1.trans t2
  have g' := t12.new p a2 (by rw [a4]; exact Option.some_ne_none _)
  have h' := t12.keep p _ a3 a4
  have tt := t.trans t12
  have a6 := Par.mono t12.g a5
  obtain ⟨kvs, vvs, h1, h2, h3, h5, h6⟩ := of_or a6
  have hl : xs.length = es.length := by
    have := congrArg List.length h1
    simpa using this
  refine ⟨p, xs, kvs, es.map (·.1), key, rfl, h', ⟨by rw [h1, List.map_map]; rfl, h2, KdAll.same t12.w.s h5⟩, (kd_of r2 ek).mono fun _ _ q => sq_t' t12.w.s q, by rw [hl]; exact q3.1, fun yu vu ry rv => ?_⟩
  exact q3.2 σ G2 _ t12.g (tt.put a1 g' a3) ((eo.step t12).change e1 s1 (slO ⟨a1, g', a3, upd_same⟩ (Par.putOE a6 (kd_of r2 ek) ry rv (r1.mono t2.g))))
/-- d.pop(k) as a statement -/
def sPopM (w : World) (i : Nat) (fk : Env' → W Dat) : WS := fun E k => (oddAt w E i) fun es => fk E fun kd => W.of (kdOf kd) fun key => (getO es key).isSome = true ∧ k.nx (E.set i (.own (.odd w true (outOE es key))))
theorem pq_popM {w : World} {i : Nat} {o ke : Expr} {apos cpos pos : Pos} {fk : Env' → W Dat} (hK : X.K = K) (hw : X.w = w) (hu : X.A.units + 1 < cLine) (hv : PE X o (tVar i)) (hk : PX K X ke fk) (m : M1 X o "pop" apos ke cpos)
    (hsw : swapsWith (.Call (.Attribute o "pop" apos) [ke] [] cpos) none pos.line X.env = pure false := by rfl) :
    PQ K X (.Expr (.Call (.Attribute o "pop" apos) [ke] [] cpos) pos) (sPopM w i fk) := by
  subst hK hw
  refine ⟨fun Wx tk => impS (ps_expr (pe_opop hu hv hk.pe m) hsw) fun D σ H ⟨B, G0, O, G, E, t, eo, q⟩ => ?_, fun E k k' l q => oddAt_mono _ _ (fun es q => hk.mono E _ _ (fun kd q => W.Mono.of _ _ (fun _ q => ⟨q.1, l.nx _ q.2⟩) q) q) q⟩
  obtain ⟨es, e1, q⟩ := q
  obtain ⟨p, xs, s1, a1, a2, a3, a4, a5⟩ := own_atO eo e1
  refine ⟨_, s1, p, _, xs, rfl, .inl a4, B, O, G, E, t.w, eo, hk.mono E _ _ (fun kd q2 kv G2 H2 t2 r2 => ?_) q⟩
  obtain ⟨key, ek, q3⟩ := of_some q2
  have g' := t2.new p a2 (by rw [a4]; exact Option.some_ne_none _)
  have h' := t2.keep p _ a3 a4
  have tt := t.trans t2
  have a6 := Par.mono t2.g a5
  obtain ⟨kvs, vvs, h1, h2, h3, h5, h6⟩ := of_or a6
  obtain ⟨d, ed⟩ := Option.isSome_iff_exists.mp q3.1
  obtain ⟨j, hj, ed⟩ := Option.bind_eq_some_iff.mp ed
  obtain ⟨y, hy, rfl⟩ := Option.map_eq_some_iff.mp ed
  obtain ⟨x', hx', _, kv', vv, b1, b2, b3, b4⟩ := Par.get a6 hy
  exact ⟨xs, kvs, es.map (·.1), key, j, x', h', ⟨by rw [h1, List.map_map]; rfl, h2, KdAll.same t2.w.s h5⟩, (kd_of r2 ek).mono fun _ _ q => sq_t' t2.w.s q, by rw [atK_par or_key a6]; exact hj, hx', vv, b2,
    q3.2 σ G2 _ t2.g (tt.put a1 g' a3) ((eo.step t2).change e1 s1 (slO ⟨a1, g', a3, upd_same⟩ (Par.out or_key a6)))⟩
end
end EW
set_option Elab.async false
set_option linter.all false
set_option maxRecDepth 100000
set_option maxHeartbeats 4000000
namespace EW
open PySem PySem.Spec PyProof.Rows L2 EG EM
section
variable {K : PySem.W.Frag} {X : Cx}
def rTIndex (K : PySem.W.Frag) : V → List V → Hp → VK → Prop := fun x xs H Q => ∃ (a : Addr) (ys : List V) (y : V) (j : Nat) (z : V), x = V.ref a ∧ xs = [y] ∧ SqT K H a ys ∧ flatV y = true ∧ ys.all flatV = true ∧ ys[j]? = some z ∧ eqV z y = true ∧
  (∀ (m : Nat) (z' : V), m < j → ys[m]? = some z' → eqV z' y = false) ∧ Q (.int (j : Nat)) H
theorem mt_tindex : MtR X "tuple.index" (rTIndex X.K) := by
  intro pins s σ H x xs v us Q I rx rxs h
  obtain ⟨a, ys, y, j, z, rfl, rfl, hs, fy, fys, hz, hzj, hno, q⟩ := h
  cases rx
  cases rxs with
  | cons ry rt =>
    rename_i uy ut
    cases rt
    obtain ⟨its, rv, ⟨⟨cls, dd, data, sl⟩, ho, hc, n, hd⟩, hlen⟩ := I.tuple hs
    simp only at hc hd
    subst hc hd
    obtain ⟨u, hu, ru⟩ := rv.get hz
    obtain ⟨hjl, hje⟩ := List.getElem?_eq_some_iff.mp hu
    have hvl := rv.length
    have hj : j < its.toArray.size := by simpa using hjl
    have at_ : ∀ m (hm : m < its.toArray.size), ∃ z', ys[m]? = some z' ∧ eqU y its.toArray[m] = eqV z' y := fun m hm => by
      have hml : m < its.length := by simpa using hm
      have hmy : m < ys.length := by omega
      have hy' : ys[m]? = some ys[m] := List.getElem?_eq_getElem hmy
      obtain ⟨u2, hu2, ru2⟩ := rv.get hy'
      obtain ⟨_, hme⟩ := List.getElem?_eq_some_iff.mp hu2
      have e1 : its.toArray[m] = u2 := by simpa using hme
      refine ⟨ys[m], hy', ?_⟩
      rw [e1, eqU_of ru2 (flat_at fys hy')]
    refine call_meets PySem.F.slot_tuple_index ⟨_, ho, rfl⟩ PySem.F.entry_tuple_index (PySem.F.args_tuple_index_2 _ _)
      (SeqAt.tuple_index2_found a its.toArray n dd sl uy (fun m => match its.toArray[m]? with | some u => eqU y u | none => false) j hj (Nat.zero_le _) hj ?_ ?_) ⟨ho, fun m hm => ?_, ?_⟩
    · rw [Array.getElem?_eq_getElem hj]
      obtain ⟨z', h1, h2⟩ := at_ j hj
      rw [hz] at h1
      cases h1
      show eqU y its.toArray[j] = true
      rw [h2]
      exact hzj
    · intro m hm _ hmj
      rw [Array.getElem?_eq_getElem hm]
      obtain ⟨z', h1, h2⟩ := at_ m hm
      show eqU y its.toArray[m] = false
      rw [h2]
      exact hno m z' hmj h1
    · rw [Array.getElem?_eq_getElem hm]
      exact mem_eqAt ry fy rv fys _ (by simp)
    · exact ⟨.int (j : Nat), H, I.tok _, ⟨s.toks, rfl⟩, q⟩
def tindexD : Dat → List Dat → Option Dat
  | .tup ds, [y] => if flatD y && ds.all flatD then (idxF y ds).map fun j => .int (j : Nat) else none
  | _, _ => none
theorem mtw_tindex : MtR X "tuple.index" (rM X.K tindexD) := by
  intro pins s σ H x xs v us Q I rx rxs h
  obtain ⟨B, O, G, d0, ds, d, w, r0, rs, e, q⟩ := h
  match d0, ds, r0, rs, e with
  | .tup ds, [z], r0, rs, e =>
    obtain ⟨y, rfl, ry⟩ := one_inv rs
    simp only [tindexD] at e
    split at e
    · rename_i hf
      obtain ⟨f1, f2⟩ := Bool.and_eq_true_iff.mp hf
      obtain ⟨j, e1, rfl⟩ := Option.map_eq_some_iff.mp e
      obtain ⟨⟨d1, h1, h2⟩, h3⟩ := idxF_some e1
      cases r0 with
      | tup g1 g2 =>
        obtain ⟨v1, hv1, rv1⟩ := g2.at' h1
        refine mt_tindex pins s σ H _ _ v us Q I rx rxs ⟨_, _, y, j, v1, rfl, rfl, sq_t' w.s g1, by rw [flat_of ry]; exact f1, by rw [flats_of g2]; exact f2, hv1, by rw [eqF_of rv1 ry]; exact h2, fun m z' hm hz => ?_, Ck.now q w (.int _)⟩
        obtain ⟨d', hd', rd'⟩ := g2.at hz
        rw [eqF_of rd' ry]
        exact h3 m d' hm hd'
    · cases e
/-- a text, so many times -/
def repS (x : Str) (n : Nat) : Str := ⟨(List.replicate n x.cps).foldl (· ++ ·) #[]⟩
theorem fold_list {α : Type} (a : Array α) : ∀ (n : Nat) (b : Array α), ((List.replicate n a).foldl (· ++ ·) b).toList = b.toList ++ (List.replicate n a.toList).flatten
  | 0, b => by simp
  | n + 1, b => by
    rw [List.replicate_succ, List.foldl_cons, fold_list a n, List.replicate_succ, List.flatten_cons, Array.toList_append, List.append_assoc]
theorem repS_list (x : Str) (n : Nat) : (repS x n).cps.toList = (List.replicate n x.cps.toList).flatten := by
  show ((List.replicate n x.cps).foldl (· ++ ·) #[]).toList = _
  rw [fold_list]
  simp
theorem repS_len (x : Str) (n : Nat) : (repS x n).length = n * x.length := by
  show (repS x n).cps.size = n * x.cps.size
  rw [← Array.length_toList, repS_list, List.length_flatten, List.map_replicate, List.sum_replicate_nat, Array.length_toList]
theorem repS_mem {x : Str} {n c : Nat} (h : c ∈ (repS x n).cps.toList) : c ∈ x.cps.toList := by
  rw [repS_list] at h
  obtain ⟨l, hl, hc⟩ := List.mem_flatten.mp h
  rw [List.eq_of_mem_replicate hl] at hc
  exact hc
def mulSX : Dat → Dat → Option Dat
  | .str x, .int n => if 1 < n ∧ n ≤ 1000 ∧ 0 < x.length ∧ x.length ≤ 1000 then some (.str (repS x n.toNat)) else none
  | _, _ => none
theorem opw_mulSX : OpR X (binaryOp .Mult) (rO X.K mulSX) := by
  intro pins s σ H x y v u Q I rx ry h
  obtain ⟨B, O, G, d1, d2, d, w, r1, r2, e, q⟩ := h
  cases r1 <;> cases r2 <;> try cases e
  rename_i x n
  simp only [mulSX] at e
  split at e
  · rename_i h0
    cases e
    obtain ⟨n1, n2, x1, x2⟩ := h0
    obtain ⟨t, rfl⟩ := rx
    obtain ⟨t', rfl⟩ := ry
    have ez : (n == 1 || x.length == 0) = false := by
      rw [Bool.or_eq_false_iff, beq_eq_false_iff_ne, beq_eq_false_iff_ne]
      exact ⟨by omega, by omega⟩
    have big : (1000000 : Nat) ≤ sizeLine := by decide
    refine PySem.P.mul_str ?_ (fun _ _ => ?_) (fun _ _ => ?_) ?_
    · rw [decide_eq_false (by omega), decide_eq_false (by omega)]
      rfl
    · intro hh
      have h2 : ((2 : Int) ^ 63 - 1) / 1000 ≤ (2 ^ 63 - 1) / n := by
        rw [Int.le_ediv_iff_mul_le (by omega)]
        have : ((2 : Int) ^ 63 - 1) / 1000 * n ≤ ((2 : Int) ^ 63 - 1) / 1000 * 1000 := Int.mul_le_mul_of_nonneg_left n2 (by decide)
        have h3 : ((2 : Int) ^ 63 - 1) / 1000 * 1000 ≤ 2 ^ 63 - 1 := by decide
        omega
      have h4 : (1000 : Int) ≤ ((2 : Int) ^ 63 - 1) / 1000 := by decide
      omega
    · show decide (_ > sizeLine) = false
      refine decide_eq_false ?_
      have h5 : x.length * n.toNat ≤ 1000 * 1000 := Nat.mul_le_mul x2 (by omega)
      omega
    · rw [if_neg (by omega), if_neg (by rw [ez]; exact Bool.false_ne_true)]
      refine ⟨?_, .str (repS x n.toNat), H, I.tok _, ⟨_, rfl⟩, Ck.now q w (.str _)⟩
      show (repS x n.toNat).length ≤ sizeLine
      rw [repS_len]
      have h5 : n.toNat * x.length ≤ 1000 * 1000 := Nat.mul_le_mul (by omega) x2
      omega
  · cases e
/-- MODES -/
structure ModesAt (K : PySem.W.Frag) (mg : Str → Option Value) (a : Addr) : Prop where
  m : mg "MODES" = some (.ref a)
  k : ∃ t1 t2 t3 n sl, K.lookup a = some ⟨.type "tuple", none, .seq #[.str "each" t1, .str "now" t2, .str "late" t3] n, sl⟩
abbrev modesD : Dat := .tup [.str "each", .str "now", .str "late"]
theorem px_modes {mg : Str → Option Value} {a : Addr} {pos : Pos} (hg : Gl X "MODES") (hmg : X.mg = mg) (h : ModesAt K mg a) : PX K X (.Name "MODES" pos) (fun _ => W.ret modesD) :=
  px_const (pe_glob (v := .ref a) hg (by rw [hmg]; exact h.m) rfl (by decide)) fun O G => by
    obtain ⟨t1, t2, t3, n, sl, hk⟩ := h.k
    exact .tup (xs := [.str "each", .str "now", .str "late"]) (.inr ⟨_, _, n, hk, rfl, rfl, (show 3 ≤ sizeLine by decide), .cons ⟨t1, rfl⟩ (.cons ⟨t2, rfl⟩ (.cons ⟨t3, rfl⟩ .nil))⟩) (.cons (.str _) (.cons (.str _) (.cons (.str _) .nil)))
/-- MODES.index(e) -/
abbrev wMoIx (f : Env' → W Dat) : Env' → W Dat := fun E => (f E).bind fun d => W.of (tindexD modesD [d])
theorem px_moIx {mg : Str → Option Value} {a : Addr} {p apos cpos : Pos} {e : Expr} {f : Env' → W Dat} (hK : X.K = K) (hg : Gl X "MODES") (hmg : X.mg = mg) (h : ModesAt K mg a) (he : PX K X e f)
    (hbase : attributeBase (.Name "MODES" p) "index" X.env (eval (.Name "MODES" p) X.env) = eval (.Name "MODES" p) X.env := by rfl)
    (hfew : ((backTo cpos (starEach [e] X.env)).all (fun x => !x.1) && (backToKw cpos (keywordEach [] X.env)).all (fun x => x.1.isSome)
      && decide ([e].length + ([] : List Keyword).length + (if ([] : List Keyword).isEmpty then 0 else 1) < 30)) = true := by rfl)
    (hline : (apos.endLine == cpos.line) = true := by rfl) (hs : starEach [e] X.env = (false, eval e X.env) :: starEach [] X.env := by rfl) (hplain : (backTo cpos (starEach [] X.env)).any (·.1) = false := by rfl) :
    PX K X (.Call (.Attribute (.Name "MODES" p) "index" apos) [e] [] cpos) (wMoIx f) := by
  subst hK
  have hb : PE X (.Name "MODES" p) (tC (.ref a)) := pe_glob (v := .ref a) hg (by rw [hmg]; exact h.m) rfl (by decide)
  refine ⟨imp (pe_bm PySem.F.plainAttrs_tuple PySem.F.slot_tuple_index PySem.F.type_tuple_index mtw_tindex hb (pa_cons he.pe pa_nil hs) hbase hfew hline hs hplain) fun σ H Q ⟨B, O, G, E, w, eo, q⟩ => ?_, fun E => (he.mono E).bind fun _ => .of⟩
  obtain ⟨t1, t2, t3, n, sl, hk⟩ := h.k
  refine ⟨.inr (.inl ⟨rfl, _, hk, rfl, rfl⟩), B, O, G, E, w, eo, he.mono E _ _ (fun d q1 v G1 H1 s1 r1 => ?_) q⟩
  obtain ⟨d', e', q2⟩ := of_some q1
  exact ⟨B, O, G1, modesD, [d], d', s1.w, .tup (xs := [.str "each", .str "now", .str "late"]) (.inr ⟨_, _, n, hk, rfl, rfl, (show 3 ≤ sizeLine by decide), .cons ⟨t1, rfl⟩ (.cons ⟨t2, rfl⟩ (.cons ⟨t3, rfl⟩ .nil))⟩) (.cons (.str _) (.cons (.str _) (.cons (.str _) .nil))), .cons r1 .nil, e', Ck.step q2 s1⟩
end
theorem hu2_of {k : Nat} {A : Around} (r : Room k A) : A.units + 2 < cLine := by have := r.un; omega
end EW
set_option Elab.async false
set_option linter.all false
set_option maxRecDepth 100000
set_option maxHeartbeats 4000000
namespace EW
open PySem PySem.Spec PyProof.Rows L2 EG
section
variable {P : Program} {w : World} {K : PySem.W.Frag} {mg : Str → Option Value} {base : Heap}
abbrev s_is_integer : Stmt := top 3
abbrev n_is_integer : List Str := ["thing"]
def F_is_integer : WS := (sRet (wAnd (wIsi "int" (wV 0)) (wNot (wIsi "bool" (wV 0)))))
theorem sc_is_integer : FnScope n_is_integer ["thing"] (defScope s_is_integer) := ⟨rfl, rfl, rfl, by decide +kernel, rfl, by decide +kernel, by decide +kernel⟩
def p_is_integer : List Ar → W Dat := defW 1 (F_is_integer)
theorem w_is_integer {f : Addr} {fd : FuncData} (F : Fun K "is_integer" "is_integer" s_is_integer f fd) (b : Blt mg) : FnW P w K mg base 1 f fd ["thing"] (p_is_integer) :=
  fn_w (k := 0) (N := n_is_integer) (F := F_is_integer) F sc_is_integer fun cdv A out s H E hg hr =>
    (pq_one (pq_ret (px_and (px_isi rfl (by rfl) b.isinstance (by decide +kernel) (px_v (pv 0)) (pe_bltn (v := V.ty "int") (u := Value.type "int") rfl b.int (by decide +kernel) rfl) (by decide)) (px_one (px_not (px_isi rfl (by rfl) b.isinstance (by decide +kernel) (px_v (pv 0)) (pe_bltn (v := V.ty "bool") (u := Value.type "bool") rfl b.bool (by decide +kernel) rfl) (by decide)))))))
abbrev s_is_name : Stmt := top 4
abbrev n_is_name : List Str := ["thing", "sign"]
def F_is_name : WS := (sSeq (sIf (bOr (bNot (bVal (wIsi "str" (wV 0)))) (bNot (bChain leD leD (wC (.int 1)) (wB lenD (wCons (wV 0) wNil)) (wC (.int 8))))) (sRet (wC (.bl false))) sNil) (sRet (wB allD (wCons (wLc (iAny (wV 0)) (gN 1) bYes (wOp inD (wV 1) (wC (.str lets))) [1]) wNil))))
theorem sc_is_name : FnScope n_is_name ["thing"] (defScope s_is_name) := ⟨rfl, rfl, rfl, by decide +kernel, rfl, by decide +kernel, by decide +kernel⟩
def p_is_name : List Ar → W Dat := defW 2 (F_is_name)
theorem w_is_name {f : Addr} {fd : FuncData} (F : Fun K "is_name" "is_name" s_is_name f fd) (b : Blt mg) {tkL : Tok} (mL : mg "LETTERS" = some (.str lets tkL)) : FnW P w K mg base 1 f fd ["thing"] (p_is_name) :=
  fn_w (k := 0) (N := n_is_name) (F := F_is_name) F sc_is_name fun cdv A out s H E hg hr =>
    (pq_cons (pq_if (pb_w (pbw_or (pb_not (pb_val (px_isi rfl (by rfl) b.isinstance (by decide +kernel) (px_v (pv 0)) (pe_bltn (v := V.ty "str") (u := Value.type "str") rfl b.str (by decide +kernel) rfl) (by decide)))) (pbw_or1 (pb_not (pb_chain opw_le opw_le px_int (px_callB clw_len (by rfl) b.len PySem.boot_len (pxs_cons (px_v (pv 0)) pxs_nil)) px_int))))) (pq_one (pq_ret px_bl)) pq_nil) (pq_one (pq_ret (px_callB (clw_all rfl) (by rfl) b.all (by decide +kernel) (pxs_cons (px_lc (own := [("sign", 1)]) (js := [1]) (g := (gN 1)) (ft := bYes) (fe := (wOp inD (wV 1) (wC (.str lets)))) rfl sc_is_name.nd (piw_any rfl (px_v (pv 0))) (blkOk_by (N := n_is_name) (sc := defScope s_is_name) (by decide +kernel)) (fun _ _ _ _ _ => (pgw_name sc_is_name.nd rfl (by first | exact Or.inl rfl | exact Or.inr rfl))) (fun _ _ _ _ _ => pbs_nil) (fun _ _ _ _ _ => (px_cmp (opw_in (units65 hr)) (px_v (pv 1)) (px_gstr rfl mL) (by rfl))) (by decide)) pxs_nil)))))
abbrev s_is_new_id : Stmt := top 5
abbrev n_is_new_id : List Str := ["thing"]
def F_is_new_id : WS := (sRet (wAnd (wIsi "str" (wV 0)) (wAnd (wM "str" startsD (wV 0) (wCons (wC (.str "+")) wNil)) (wCall p_is_name (aDat (wSl (wV 0) (oSome (wC (.int 1))) oNone) aNil)))))
theorem sc_is_new_id : FnScope n_is_new_id ["thing"] (defScope s_is_new_id) := ⟨rfl, rfl, rfl, by decide +kernel, rfl, by decide +kernel, by decide +kernel⟩
def p_is_new_id : List Ar → W Dat := defW 1 (F_is_new_id)
theorem w_is_new_id {f : Addr} {fd : FuncData} (F : Fun K "is_new_id" "is_new_id" s_is_new_id f fd) (b : Blt mg) {f_h_is_name : Addr} {fd_h_is_name : FuncData} (h_is_name : Fnc P w K mg base "is_name" 1 ["thing"] p_is_name f_h_is_name fd_h_is_name) : FnW P w K mg base 2 f fd ["thing"] (p_is_new_id) :=
  fn_w (k := 1) (N := n_is_new_id) (F := F_is_new_id) F sc_is_new_id fun cdv A out s H E hg hr =>
    (pq_one (pq_ret (px_and (px_isi rfl (by rfl) b.isinstance (by decide +kernel) (px_v (pv 0)) (pe_bltn (v := V.ty "str") (u := Value.type "str") rfl b.str (by decide +kernel) rfl) (by decide)) (px_and (px_m rfl PySem.F.plainAttrs_str PySem.F.slot_str_startswith PySem.F.type_str_startswith mtw_starts (px_v (pv 0)) (pxs_cons px_str pxs_nil)) (px_one (px_call rfl h_is_name.G hg (hr.mono (by decide)) rfl h_is_name.m h_is_name.k h_is_name.b rfl pass0 (pxa_dat (px_sl slw (px_v (pv 0)) (pxo_some px_int) pxo_none) pxa_nil)))))))
abbrev s_is_id : Stmt := top 6
abbrev n_is_id : List Str := ["thing"]
def F_is_id : WS := (sRet (wOr (wCall p_is_name (aDat (wV 0) aNil)) (wCall p_is_new_id (aDat (wV 0) aNil))))
theorem sc_is_id : FnScope n_is_id ["thing"] (defScope s_is_id) := ⟨rfl, rfl, rfl, by decide +kernel, rfl, by decide +kernel, by decide +kernel⟩
def p_is_id : List Ar → W Dat := defW 1 (F_is_id)
theorem w_is_id {f : Addr} {fd : FuncData} (F : Fun K "is_id" "is_id" s_is_id f fd) {f_h_is_name : Addr} {fd_h_is_name : FuncData} (h_is_name : Fnc P w K mg base "is_name" 1 ["thing"] p_is_name f_h_is_name fd_h_is_name) {f_h_is_new_id : Addr} {fd_h_is_new_id : FuncData} (h_is_new_id : Fnc P w K mg base "is_new_id" 2 ["thing"] p_is_new_id f_h_is_new_id fd_h_is_new_id) : FnW P w K mg base 3 f fd ["thing"] (p_is_id) :=
  fn_w (k := 2) (N := n_is_id) (F := F_is_id) F sc_is_id fun cdv A out s H E hg hr =>
    (pq_one (pq_ret (px_or (px_call rfl h_is_name.G hg (hr.mono (by decide)) rfl h_is_name.m h_is_name.k h_is_name.b rfl pass0 (pxa_dat (px_v (pv 0)) pxa_nil)) (px_one (px_call rfl h_is_new_id.G hg (hr.mono (by decide)) rfl h_is_new_id.m h_is_new_id.k h_is_new_id.b rfl pass0 (pxa_dat (px_v (pv 0)) pxa_nil))))))
abbrev s_is_tag_name : Stmt := top 7
abbrev n_is_tag_name : List Str := ["thing", "parts"]
def F_is_tag_name : WS := (sSeq (sIf (bVal (wCall p_is_name (aDat (wV 0) aNil))) (sRet (wC (.bl true))) sNil) (sSeq (sIf (bOr (bNot (bVal (wIsi "str" (wV 0)))) (bNot (bVal (wM "str" startsD (wV 0) (wCons (wC (.str "+")) wNil))))) (sRet (wC (.bl false))) sNil) (sSeq (sSet 1 (nDat (wM "str" splitD (wSl (wV 0) (oSome (wC (.int 1))) oNone) (wCons (wC (.str ".")) wNil)))) (sRet (wAnd (wOp eqKD (wB lenD (wCons (wV 1) wNil)) (wC (.int 2))) (wAnd (wCall p_is_name (aDat (wOp ixD (wV 1) (wC (.int 0))) aNil)) (wCall p_is_name (aDat (wOp ixD (wV 1) (wC (.int 1))) aNil))))))))
theorem sc_is_tag_name : FnScope n_is_tag_name ["thing"] (defScope s_is_tag_name) := ⟨rfl, rfl, rfl, by decide +kernel, rfl, by decide +kernel, by decide +kernel⟩
def p_is_tag_name : List Ar → W Dat := defW 2 (F_is_tag_name)
theorem w_is_tag_name {f : Addr} {fd : FuncData} (F : Fun K "is_tag_name" "is_tag_name" s_is_tag_name f fd) (b : Blt mg) {f_h_is_name : Addr} {fd_h_is_name : FuncData} (h_is_name : Fnc P w K mg base "is_name" 1 ["thing"] p_is_name f_h_is_name fd_h_is_name) : FnW P w K mg base 2 f fd ["thing"] (p_is_tag_name) :=
  fn_w (k := 1) (N := n_is_tag_name) (F := F_is_tag_name) F sc_is_tag_name fun cdv A out s H E hg hr =>
    (pq_cons (pq_if (pb_val (px_call rfl h_is_name.G hg (hr.mono (by decide)) rfl h_is_name.m h_is_name.k h_is_name.b rfl pass0 (pxa_dat (px_v (pv 0)) pxa_nil))) (pq_one (pq_ret px_bl)) pq_nil) (pq_cons (pq_if (pb_w (pbw_or (pb_not (pb_val (px_isi rfl (by rfl) b.isinstance (by decide +kernel) (px_v (pv 0)) (pe_bltn (v := V.ty "str") (u := Value.type "str") rfl b.str (by decide +kernel) rfl) (by decide)))) (pbw_or1 (pb_not (pb_val (px_m rfl PySem.F.plainAttrs_str PySem.F.slot_str_startswith PySem.F.type_str_startswith mtw_starts (px_v (pv 0)) (pxs_cons px_str pxs_nil))))))) (pq_one (pq_ret px_bl)) pq_nil) (pq_cons (pq_set (i := 1) sc_is_tag_name.nd rfl (by first | exact Or.inl rfl | exact Or.inr rfl) (pn_dat (px_m rfl PySem.F.plainAttrs_str PySem.F.slot_str_split PySem.F.type_str_split mtw_split (px_sl slw (px_v (pv 0)) (pxo_some px_int) pxo_none) (pxs_cons px_str pxs_nil)))) (pq_one (pq_ret (px_and (px_cmp (opw_eqK (units65 hr)) (px_callB clw_len (by rfl) b.len PySem.boot_len (pxs_cons (px_v (pv 1)) pxs_nil)) px_int (nomark _)) (px_and (px_call rfl h_is_name.G hg (hr.mono (by decide)) rfl h_is_name.m h_is_name.k h_is_name.b rfl pass0 (pxa_dat (px_ix (ixw (hu_of hr)) (px_v (pv 1)) px_int) pxa_nil)) (px_one (px_call rfl h_is_name.G hg (hr.mono (by decide)) rfl h_is_name.m h_is_name.k h_is_name.b rfl pass0 (pxa_dat (px_ix (ixw (hu_of hr)) (px_v (pv 1)) px_int) pxa_nil))))))))))
abbrev s_new_id : Stmt := top 10
abbrev n_new_id : List Str := ["handle"]
def F_new_id : WS := (sRet (wOp addD (wC (.str "+")) (wV 0)))
theorem sc_new_id : FnScope n_new_id ["handle"] (defScope s_new_id) := ⟨rfl, rfl, rfl, by decide +kernel, rfl, by decide +kernel, by decide +kernel⟩
def p_new_id : List Ar → W Dat := defW 1 (F_new_id)
theorem w_new_id {f : Addr} {fd : FuncData} (F : Fun K "new_id" "new_id" s_new_id f fd) : FnW P w K mg base 1 f fd ["handle"] (p_new_id) :=
  fn_w (k := 0) (N := n_new_id) (F := F_new_id) F sc_new_id fun cdv A out s H E hg hr =>
    (pq_one (pq_ret (px_op opw_add px_str (px_v (pv 0)))))
abbrev s_own_name : Stmt := top 11
abbrev n_own_name : List Str := ["handle", "field"]
def F_own_name : WS := (sRet (wOp addD (wOp addD (wOp addD (wC (.str "+")) (wV 0)) (wC (.str "."))) (wV 1)))
theorem sc_own_name : FnScope n_own_name ["handle", "field"] (defScope s_own_name) := ⟨rfl, rfl, rfl, by decide +kernel, rfl, by decide +kernel, by decide +kernel⟩
def p_own_name : List Ar → W Dat := defW 2 (F_own_name)
theorem w_own_name {f : Addr} {fd : FuncData} (F : Fun K "own_name" "own_name" s_own_name f fd) : FnW P w K mg base 1 f fd ["handle", "field"] (p_own_name) :=
  fn_w (k := 0) (N := n_own_name) (F := F_own_name) F sc_own_name fun cdv A out s H E hg hr =>
    (pq_one (pq_ret (px_op opw_add (px_op opw_add (px_op opw_add px_str (px_v (pv 0))) px_str) (px_v (pv 1)))))
abbrev s_is_mode : Stmt := top 8
abbrev n_is_mode : List Str := ["thing"]
def F_is_mode : WS := (sRet (wAnd (wIsi "str" (wV 0)) (wOp inD (wV 0) (wC modesD))))
theorem sc_is_mode : FnScope n_is_mode ["thing"] (defScope s_is_mode) := ⟨rfl, rfl, rfl, by decide +kernel, rfl, by decide +kernel, by decide +kernel⟩
def p_is_mode : List Ar → W Dat := defW 1 (F_is_mode)
theorem w_is_mode {f : Addr} {fd : FuncData} (F : Fun K "is_mode" "is_mode" s_is_mode f fd) (b : Blt mg) {aM : Addr} (mM : ModesAt K mg aM) : FnW P w K mg base 1 f fd ["thing"] (p_is_mode) :=
  fn_w (k := 0) (N := n_is_mode) (F := F_is_mode) F sc_is_mode fun cdv A out s H E hg hr =>
    (pq_one (pq_ret (px_and (px_isi rfl (by rfl) b.isinstance (by decide +kernel) (px_v (pv 0)) (pe_bltn (v := V.ty "str") (u := Value.type "str") rfl b.str (by decide +kernel) rfl) (by decide)) (px_one (px_cmp (opw_in (units65 hr)) (px_v (pv 0)) (px_modes rfl rfl mM) (by rfl))))))
abbrev s_less : Stmt := top 9
abbrev n_less : List Str := ["one", "other"]
def F_less : WS := (sRet (wOp ltD (wMoIx (wV 0)) (wMoIx (wV 1))))
theorem sc_less : FnScope n_less ["one", "other"] (defScope s_less) := ⟨rfl, rfl, rfl, by decide +kernel, rfl, by decide +kernel, by decide +kernel⟩
def p_less : List Ar → W Dat := defW 2 (F_less)
theorem w_less {f : Addr} {fd : FuncData} (F : Fun K "less" "less" s_less f fd) {aM : Addr} (mM : ModesAt K mg aM) : FnW P w K mg base 1 f fd ["one", "other"] (p_less) :=
  fn_w (k := 0) (N := n_less) (F := F_less) F sc_less fun cdv A out s H E hg hr =>
    (pq_one (pq_ret (px_cmp opw_lt (px_moIx rfl rfl rfl mM (px_v (pv 0))) (px_moIx rfl rfl rfl mM (px_v (pv 1))) (nomark _))))
abbrev s_l_alike : Stmt := top 15
abbrev n_l_alike : List Str := ["_law_found", "_law_due"]
def F_l_alike : WS := (sRet (wAnd (wOp eqKD (wV 0) (wV 1)) (wOp eqKD (wB reprD (wCons (wV 0) wNil)) (wB reprD (wCons (wV 1) wNil)))))
theorem sc_l_alike : FnScope n_l_alike ["_law_found", "_law_due"] (defScope s_l_alike) := ⟨rfl, rfl, rfl, by decide +kernel, rfl, by decide +kernel, by decide +kernel⟩
def p_l_alike : List Ar → W Dat := defW 2 (F_l_alike)
theorem w_l_alike {f : Addr} {fd : FuncData} (F : Fun K "_law_alike" "_law_alike" s_l_alike f fd) (b : Blt mg) : FnW P w K mg base 1 f fd ["_law_found", "_law_due"] (p_l_alike) :=
  fn_w (k := 0) (N := n_l_alike) (F := F_l_alike) F sc_l_alike fun cdv A out s H E hg hr =>
    (pq_one (pq_ret (px_and (px_cmp (opw_eqK (units65 hr)) (px_v (pv 0)) (px_v (pv 1)) (nomark _)) (px_one (px_cmp (opw_eqK (units65 hr)) (px_callB (clw_repr hg (by have z := hr.units; exact z)) (by rfl) b.repr (by decide +kernel) (pxs_cons (px_v (pv 0)) pxs_nil)) (px_callB (clw_repr hg (by have z := hr.units; exact z)) (by rfl) b.repr (by decide +kernel) (pxs_cons (px_v (pv 1)) pxs_nil)) (nomark _))))))
abbrev s_l_names : Stmt := top 16
abbrev n_l_names : List Str := ["_law_bag_here", "_law_many", "_law_letters", "_law_found", "_law_words", "_law_k", "_law_signs", "_law_at", "_law_rest", "_law_some", "_law_turn", "_law_one"]
def F_l_names : WS := (sSeq (sPar 2 3 (nDat (wC (.str "abcdefghijklmnopqrstuvwxyz"))) (nLst wNil)) (sSeq (sSet 4 (nDat (wM "str" splitD (wC (.str "own not none some late now each done mark link tag row new self gone other")) (wCons (wC (.str " ")) wNil)))) (sSeq (sFor (iArg rng1 (wCons (wV 1) wNil)) (gN 5) (sSeq (sSet 6 (nDat (wLc (iArg rng1 (wCons (wOp ixD (wLst (wCons (wC (.int 1)) (wCons (wC (.int 2)) (wCons (wC (.int 8)) (wCons (wC (.int 4)) wNil))))) (wCall p_take (aBag 0 (aDat (wC (.int 4)) aNil)))) wNil)) (gN 10) bYes (wOp ixD (wV 2) (wCall p_take (aBag 0 (aDat (wC (.int 26)) aNil)))) [10]))) (sSeq (sPar 7 8 (nDat (wM "str" sindexD (wV 2) (wCons (wOp ixD (wV 6) (wC (.int 0))) wNil))) (nDat (wM "str" joinD (wC (.str "")) (wCons (wSl (wV 6) (oSome (wC (.int 1))) oNone) wNil)))) (sSeq (sSet 9 (nDat (wOp addD (wOp mulD (wSl (wV 4) (oSome (wV 7)) oNone) (wB intD (wCons (wOp eqKD (wCall p_take (aBag 0 (aDat (wC (.int 8)) aNil))) (wC (.int 0))) wNil))) (wLc (iAny (wOp addD (wSl (wV 2) (oSome (wV 7)) oNone) (wSl (wV 2) oNone (oSome (wV 7))))) (gN 11) bYes (wOp addD (wV 11) (wV 8)) [11])))) (sApp 3 (wOp ixD (wLc (iAny (wV 9)) (gN 11) (bBor 3 (bOp ninD (wV 11) (wV 3))) (wV 11) [11]) (wC (.int 0)))))))) (sFrz 3 (sRet (wV 3))))))
theorem sc_l_names : FnScope n_l_names ["_law_bag_here", "_law_many"] (defScope s_l_names) := ⟨rfl, rfl, rfl, by decide +kernel, rfl, by decide +kernel, by decide +kernel⟩
def p_l_names : List Ar → W Dat := defW 12 (F_l_names)
theorem w_l_names {f : Addr} {fd : FuncData} (F : Fun K "_law_names" "_law_names" s_l_names f fd) (b : Blt mg) {f_h_l_take : Addr} {fd_h_l_take : FuncData} (h_l_take : Fnc P w K mg base "_law_take" 1 ["_law_bag_here", "_law_many"] p_take f_h_l_take fd_h_l_take) : FnW P w K mg base 2 f fd ["_law_bag_here", "_law_many"] (p_l_names) :=
  fn_w (k := 1) (N := n_l_names) (F := F_l_names) F sc_l_names fun cdv A out s H E hg hr =>
    (pq_cons (pq_parT (i := 2) (j := 3) rfl rfl sc_l_names.nd rfl (by first | exact Or.inl rfl | exact Or.inr rfl) rfl (by first | exact Or.inl rfl | exact Or.inr rfl) (by decide) (pn_dat px_str) (pn_lst pxs_nil)) (pq_cons (pq_set (i := 4) sc_l_names.nd rfl (by first | exact Or.inl rfl | exact Or.inr rfl) (pn_dat (px_m rfl PySem.F.plainAttrs_str PySem.F.slot_str_split PySem.F.type_str_split mtw_split px_str (pxs_cons px_str pxs_nil)))) (pq_cons (pq_for PassesOwn.never rfl (piw_range1 (by rfl) b.range (pxs_cons (px_v (pv 1)) pxs_nil)) (pgw_name sc_l_names.nd rfl (by first | exact Or.inl rfl | exact Or.inr rfl)) (pq_cons (pq_lc (i := 6) (own := [("_law_turn", 10)]) (js := [10]) (g := (gN 10)) (ft := bYes) (fe := (wOp ixD (wV 2) (wCall p_take (aBag 0 (aDat (wC (.int 26)) aNil))))) rfl sc_l_names.nd rfl rfl (sw_true rfl rfl rfl (by decide +kernel)) (piw_range1 (by rfl) b.range (pxs_cons (px_ix (ixw (hu_of hr)) (px_lst (pxs_cons px_int (pxs_cons px_int (pxs_cons px_int (pxs_cons px_int pxs_nil))))) (px_call rfl h_l_take.G hg (hr.mono (by decide)) rfl h_l_take.m h_l_take.k h_l_take.b rfl pass0 (pxa_bag (pv 0) (pxa_dat px_int pxa_nil)))) pxs_nil)) (blkOk_by (N := n_l_names) (sc := defScope s_l_names) (by decide +kernel)) (fun _ _ _ _ _ => (pgw_name sc_l_names.nd rfl (by first | exact Or.inl rfl | exact Or.inr rfl))) (fun _ _ _ _ _ => pbs_nil) (fun _ _ _ _ _ => (px_ix (ixw (hu_of hr)) (px_v (pv 2)) (px_call rfl h_l_take.G hg (hr.mono (by decide)) rfl h_l_take.m h_l_take.k h_l_take.b rfl pass0 (pxa_bag (pv 0) (pxa_dat px_int pxa_nil))))) (by decide)) (pq_cons (pq_parT (i := 7) (j := 8) rfl rfl sc_l_names.nd rfl (by first | exact Or.inl rfl | exact Or.inr rfl) rfl (by first | exact Or.inl rfl | exact Or.inr rfl) (by decide) (pn_dat (px_m rfl PySem.F.plainAttrs_str PySem.F.slot_str_index PySem.F.type_str_index (mtw_sindex rfl) (px_v (pv 2)) (pxs_cons (px_ix (ixw (hu_of hr)) (px_v (pv 6)) px_int) pxs_nil))) (pn_dat (px_m rfl PySem.F.plainAttrs_str PySem.F.slot_str_join PySem.F.type_str_join mtw_join px_str (pxs_cons (px_sl slw (px_v (pv 6)) (pxo_some px_int) pxo_none) pxs_nil)))) (pq_cons (pq_set (i := 9) sc_l_names.nd rfl (by first | exact Or.inl rfl | exact Or.inr rfl) (pn_dat (px_op opw_add (px_op opw_mul (px_sl slw (px_v (pv 4)) (pxo_some (px_v (pv 7))) pxo_none) (px_callTy clw_int (by rfl) b.int (by decide +kernel) (pxs_cons (px_cmp (opw_eqK (units65 hr)) (px_call rfl h_l_take.G hg (hr.mono (by decide)) rfl h_l_take.m h_l_take.k h_l_take.b rfl pass0 (pxa_bag (pv 0) (pxa_dat px_int pxa_nil))) px_int (nomark _)) pxs_nil))) (px_lc (own := [("_law_one", 11)]) (js := [11]) (g := (gN 11)) (ft := bYes) (fe := (wOp addD (wV 11) (wV 8))) rfl sc_l_names.nd (piw_any rfl (px_op opw_add (px_sl slw (px_v (pv 2)) (pxo_some (px_v (pv 7))) pxo_none) (px_sl slw (px_v (pv 2)) pxo_none (pxo_some (px_v (pv 7)))))) (blkOk_by (N := n_l_names) (sc := defScope s_l_names) (by decide +kernel)) (fun _ _ _ _ _ => (pgw_name sc_l_names.nd rfl (by first | exact Or.inl rfl | exact Or.inr rfl))) (fun _ _ _ _ _ => pbs_nil) (fun _ _ _ _ _ => (px_op opw_add (px_v (pv 11)) (px_v (pv 8)))) (by decide))))) (pq_one (pq_append (pv 3) (px_ix (ixw (hu_of hr)) (px_lc (own := [("_law_one", 11)]) (js := [11]) (g := (gN 11)) (ft := (bBor 3 (bOp ninD (wV 11) (wV 3)))) (fe := (wV 11)) rfl sc_l_names.nd (piw_any rfl (px_v (pv 9))) (blkOk_by (N := n_l_names) (sc := defScope s_l_names) (by decide +kernel)) (fun _ _ _ _ _ => (pgw_name sc_l_names.nd rfl (by first | exact Or.inl rfl | exact Or.inr rfl))) (fun _ _ _ _ _ => (pbs_one (pb_bor (i := 3) (pb_cmp (opw_nin (units65 hr)) (px_v (pv 11)) (px_v (pv 3)) (by rfl))))) (fun _ _ _ _ _ => (px_v (pv 11))) (by decide)) px_int) rfl)))))) (pq_frz (i := 3) (pq_one (pq_ret (px_v (pv 3))))))))
abbrev s_l_odd : Stmt := top 17
abbrev n_l_odd : List Str := ["_law_bag_here", "_law_deep", "_law_k", "_law_some"]
def F_l_odd : WS := (sSeq (sSet 1 (nDat (wLst wNil))) (sSeq (sFor (iArg rng1 (wCons (wC (.int 5)) wNil)) (gN 2) (sSet 1 (nDat (wLst (wCons (wV 1) wNil))))) (sSeq (sSet 3 (nDat (wLst (wCons (wC .non) (wCons (wC (.bl true)) (wCons (wC (.bl false)) (wCons (wC (.int 0)) (wCons (wC (.int 1)) (wCons (wNeg (wC (.int 1))) (wCons (wOp powD (wC (.int 10)) (wC (.int 39))) (wCons (wC (.str "")) (wCons (wC (.str "a")) (wCons (wC (.str "ab c")) (wCons (wC (.str "+a")) (wCons (wC (.str "mark")) (wCons (wTup wNil) (wCons (wLst wNil) (wCons wD0 (wCons (wLst (wCons (wC (.int 0)) wNil)) (wCons (wTup (wCons (wC (.str "is")) wNil)) wNil)))))))))))))))))))) (sRet (wOp ixD (wOp addD (wV 3) (wLst (wCons (wV 1) (wCons (wFz (nDisp (kCons (wC (.int 0)) (wC .non) kNil))) (wCons (wTup (wCons (wC (.str "tag")) wNil)) (wCons (wTup (wCons (wC (.str "none")) (wCons (wC (.str "a")) wNil))) (wCons (wLst (wCons (wTup (wCons (wC (.str "not")) (wCons (wTup (wCons (wC (.str "none")) wNil)) wNil))) wNil)) wNil))))))) (wCall p_take (aBag 0 (aDat (wC (.int 22)) aNil))))))))
theorem sc_l_odd : FnScope n_l_odd ["_law_bag_here"] (defScope s_l_odd) := ⟨rfl, rfl, rfl, by decide +kernel, rfl, by decide +kernel, by decide +kernel⟩
def p_l_odd : List Ar → W Dat := defW 4 (F_l_odd)
theorem w_l_odd {f : Addr} {fd : FuncData} (F : Fun K "_law_odd" "_law_odd" s_l_odd f fd) (b : Blt mg) {f_h_l_take : Addr} {fd_h_l_take : FuncData} (h_l_take : Fnc P w K mg base "_law_take" 1 ["_law_bag_here", "_law_many"] p_take f_h_l_take fd_h_l_take) : FnW P w K mg base 2 f fd ["_law_bag_here"] (p_l_odd) :=
  fn_w (k := 1) (N := n_l_odd) (F := F_l_odd) F sc_l_odd fun cdv A out s H E hg hr =>
    (pq_cons (pq_set (i := 1) sc_l_odd.nd rfl (by first | exact Or.inl rfl | exact Or.inr rfl) (pn_dat (px_lst pxs_nil))) (pq_cons (pq_for PassesOwn.never rfl (piw_range1 (by rfl) b.range (pxs_cons px_int pxs_nil)) (pgw_name sc_l_odd.nd rfl (by first | exact Or.inl rfl | exact Or.inr rfl)) (pq_one (pq_set (i := 1) sc_l_odd.nd rfl (by first | exact Or.inl rfl | exact Or.inr rfl) (pn_dat (px_lst (pxs_cons (px_v (pv 1)) pxs_nil)))))) (pq_cons (pq_set (i := 3) sc_l_odd.nd rfl (by first | exact Or.inl rfl | exact Or.inr rfl) (pn_dat (px_lst (pxs_cons px_non (pxs_cons px_bl (pxs_cons px_bl (pxs_cons px_int (pxs_cons px_int (pxs_cons (px_neg px_int) (pxs_cons (px_op opw_pow px_int px_int) (pxs_cons px_str (pxs_cons px_str (pxs_cons px_str (pxs_cons px_str (pxs_cons px_str (pxs_cons (px_tup pxs_nil) (pxs_cons (px_lst pxs_nil) (pxs_cons px_d0 (pxs_cons (px_lst (pxs_cons px_int pxs_nil)) (pxs_cons (px_tup (pxs_cons px_str pxs_nil)) pxs_nil)))))))))))))))))))) (pq_one (pq_ret (px_ix (ixw (hu_of hr)) (px_op opw_add (px_v (pv 3)) (px_lst (pxs_cons (px_v (pv 1)) (pxs_cons (px_fz (pn_disp (ppw_cons px_int px_non ppw_nil))) (pxs_cons (px_tup (pxs_cons px_str pxs_nil)) (pxs_cons (px_tup (pxs_cons px_str (pxs_cons px_str pxs_nil))) (pxs_cons (px_lst (pxs_cons (px_tup (pxs_cons px_str (pxs_cons (px_tup (pxs_cons px_str pxs_nil)) pxs_nil))) pxs_nil)) pxs_nil))))))) (px_call rfl h_l_take.G hg (hr.mono (by decide)) rfl h_l_take.m h_l_take.k h_l_take.b rfl pass0 (pxa_bag (pv 0) (pxa_dat px_int pxa_nil)))))))))
abbrev s_l_spoilt : Stmt := top 18
abbrev n_l_spoilt : List Str := ["_law_bag_here", "_law_thing", "_law_kind", "_law_at", "_law_sign", "_law_found", "_law_key", "_law_odd_here", "_law_some"]
def F_l_spoilt (w : World) (q_l_spoilt : List Ar → W Dat) : WS := (sSeq (sSet 2 (nDat (wCall p_take (aBag 0 (aDat (wC (.int 7)) aNil))))) (sSeq (sIf (bOr (bNot (bVal (wIsi4 "list" "tuple" "dict" "str" (wV 1)))) (bOr (bOp eqKD (wB lenD (wCons (wV 1) wNil)) (wC (.int 0))) (bOp eqKD (wV 2) (wC (.int 0))))) (sRet (wCall p_l_odd (aBag 0 aNil))) sNil) (sSeq (sSet 3 (nDat (wCall p_take (aBag 0 (aDat (wB lenD (wCons (wV 1) wNil)) aNil))))) (sSeq (sIf (bVal (wIsi "str" (wV 1))) (sSeq (sSet 4 (nDat (wOp ixD (wC (.str "aZ+. 0\nz_")) (wCall p_take (aBag 0 (aDat (wC (.int 9)) aNil)))))) (sRet (wOp ixD (wLst (wCons (wOp addD (wOp addD (wSl (wV 1) oNone (oSome (wV 3))) (wV 4)) (wSl (wV 1) (oSome (wOp addD (wV 3) (wC (.int 1)))) oNone)) (wCons (wOp addD (wSl (wV 1) oNone (oSome (wV 3))) (wSl (wV 1) (oSome (wOp addD (wV 3) (wC (.int 1)))) oNone)) (wCons (wOp addD (wV 1) (wOp mulSX (wV 4) (wC (.int 8)))) wNil)))) (wCall p_take (aBag 0 (aDat (wC (.int 3)) aNil)))))) sNil) (sSeq (sIf (bVal (wIsi "dict" (wV 1))) (sSeq (sPar 5 6 (nCopyO w (wCons (wV 1) wNil)) (nDat (wOp ixD (wB listG (wCons (wV 1) wNil)) (wV 3)))) (sSeq (sIf (bOp eqKD (wV 2) (wC (.int 1))) (sPopM w 5 (wV 6)) (sIf (bOp eqKD (wV 2) (wC (.int 2))) (sSeq (sSet 7 (nDat (wLst (wCons (wC (.str "")) (wCons (wC (.str "b")) (wCons (wC (.str "b b")) (wCons (wC (.str "aB")) (wCons (wC (.str "a1")) (wCons (wC (.str "abcdefghi")) (wCons (wC (.int 1)) (wCons (wC .non) (wCons (wC (.bl true)) (wCons (wTup wNil) wNil))))))))))))) (sPutM w 5 (wOp ixD (wV 7) (wCall p_take (aBag 0 (aDat (wC (.int 10)) aNil)))) (wIxM w 5 (wV 6)))) (sPutM w 5 (wV 6) (wCall q_l_spoilt (aBag 0 (aDat (wIxM w 5 (wV 6)) aNil)))))) (sFrz 5 (sRet (wV 5))))) sNil) (sSeq (sSet 8 (nListO (wCons (wV 1) wNil))) (sSeq (sIf (bOp eqKD (wV 2) (wC (.int 1))) (sPopL 8 (wV 3)) (sIf (bOp eqKD (wV 2) (wC (.int 2))) (sInsL 8 (wV 3) (wIxL 8 (wV 3))) (sIf (bOp eqKD (wV 2) (wC (.int 3))) (sFrz 8 (sRet (wIf (bVal (wIsi "tuple" (wV 1))) (wV 8) (wB tupleD (wCons (wV 8) wNil))))) (sPutL 8 (wV 3) (wCall q_l_spoilt (aBag 0 (aDat (wIxL 8 (wV 3)) aNil))))))) (sFrz 8 (sRet (wIf (bVal (wIsi "list" (wV 1))) (wV 8) (wB tupleD (wCons (wV 8) wNil))))))))))))
theorem sc_l_spoilt : FnScope n_l_spoilt ["_law_bag_here", "_law_thing"] (defScope s_l_spoilt) := ⟨rfl, rfl, rfl, by decide +kernel, rfl, by decide +kernel, by decide +kernel⟩
theorem w1_l_spoilt {f : Addr} {fd : FuncData} (F : Fun K "_law_spoilt" "_law_spoilt" s_l_spoilt f fd) {j : Nat} (hj : 8 ≤ j) {q_l_spoilt : List Ar → W Dat} (b : Blt mg) {f_h_l_take : Addr} {fd_h_l_take : FuncData} (h_l_take : Fnc P w K mg base "_law_take" 1 ["_law_bag_here", "_law_many"] p_take f_h_l_take fd_h_l_take) {f_h_l_odd : Addr} {fd_h_l_odd : FuncData} (h_l_odd : Fnc P w K mg base "_law_odd" 2 ["_law_bag_here"] p_l_odd f_h_l_odd fd_h_l_odd) {f_h_l_spoilt : Addr} {fd_h_l_spoilt : FuncData} (h_l_spoilt : Fnc P w K mg base "_law_spoilt" j ["_law_bag_here", "_law_thing"] q_l_spoilt f_h_l_spoilt fd_h_l_spoilt) : FnW P w K mg base (j + 1) f fd ["_law_bag_here", "_law_thing"] (defW 9 (F_l_spoilt w q_l_spoilt)) :=
  fn_w (k := j) (N := n_l_spoilt) (F := F_l_spoilt w q_l_spoilt) F sc_l_spoilt fun cdv A out s H E hg hr =>
    (pq_cons (pq_set (i := 2) sc_l_spoilt.nd rfl (by first | exact Or.inl rfl | exact Or.inr rfl) (pn_dat (px_call rfl h_l_take.G hg (hr.mono (by omega)) rfl h_l_take.m h_l_take.k h_l_take.b rfl pass0 (pxa_bag (pv 0) (pxa_dat px_int pxa_nil))))) (pq_cons (pq_if (pb_w (pbw_or (pb_not (pb_val (px_isi4 rfl (by rfl) b.isinstance (by decide +kernel) (px_v (pv 1)) (pe_bltn (v := V.ty "list") (u := Value.type "list") rfl b.list (by decide +kernel) rfl) (pe_bltn (v := V.ty "tuple") (u := Value.type "tuple") rfl b.tuple (by decide +kernel) rfl) (pe_bltn (v := V.ty "dict") (u := Value.type "dict") rfl b.dict (by decide +kernel) rfl) (pe_bltn (v := V.ty "str") (u := Value.type "str") rfl b.str (by decide +kernel) rfl) (by decide) (by decide) (by decide) (by decide)))) (pbw_or (pb_cmp (opw_eqK (units65 hr)) (px_callB clw_len (by rfl) b.len PySem.boot_len (pxs_cons (px_v (pv 1)) pxs_nil)) px_int (nomark _)) (pbw_or1 (pb_cmp (opw_eqK (units65 hr)) (px_v (pv 2)) px_int (nomark _)))))) (pq_one (pq_ret (px_call rfl h_l_odd.G hg (hr.mono (by omega)) rfl h_l_odd.m h_l_odd.k h_l_odd.b rfl pass0 (pxa_bag (pv 0) pxa_nil)))) pq_nil) (pq_cons (pq_set (i := 3) sc_l_spoilt.nd rfl (by first | exact Or.inl rfl | exact Or.inr rfl) (pn_dat (px_call rfl h_l_take.G hg (hr.mono (by omega)) rfl h_l_take.m h_l_take.k h_l_take.b rfl pass0 (pxa_bag (pv 0) (pxa_dat (px_callB clw_len (by rfl) b.len PySem.boot_len (pxs_cons (px_v (pv 1)) pxs_nil)) pxa_nil))))) (pq_cons (pq_if (pb_val (px_isi rfl (by rfl) b.isinstance (by decide +kernel) (px_v (pv 1)) (pe_bltn (v := V.ty "str") (u := Value.type "str") rfl b.str (by decide +kernel) rfl) (by decide))) (pq_cons (pq_set (i := 4) sc_l_spoilt.nd rfl (by first | exact Or.inl rfl | exact Or.inr rfl) (pn_dat (px_ix (ixw (hu_of hr)) px_str (px_call rfl h_l_take.G hg (hr.mono (by omega)) rfl h_l_take.m h_l_take.k h_l_take.b rfl pass0 (pxa_bag (pv 0) (pxa_dat px_int pxa_nil)))))) (pq_one (pq_ret (px_ix (ixw (hu_of hr)) (px_lst (pxs_cons (px_op opw_add (px_op opw_add (px_sl slw (px_v (pv 1)) pxo_none (pxo_some (px_v (pv 3)))) (px_v (pv 4))) (px_sl slw (px_v (pv 1)) (pxo_some (px_op opw_add (px_v (pv 3)) px_int)) pxo_none)) (pxs_cons (px_op opw_add (px_sl slw (px_v (pv 1)) pxo_none (pxo_some (px_v (pv 3)))) (px_sl slw (px_v (pv 1)) (pxo_some (px_op opw_add (px_v (pv 3)) px_int)) pxo_none)) (pxs_cons (px_op opw_add (px_v (pv 1)) (px_op opw_mulSX (px_v (pv 4)) px_int)) pxs_nil)))) (px_call rfl h_l_take.G hg (hr.mono (by omega)) rfl h_l_take.m h_l_take.k h_l_take.b rfl pass0 (pxa_bag (pv 0) (pxa_dat px_int pxa_nil))))))) pq_nil) (pq_cons (pq_if (pb_val (px_isi rfl (by rfl) b.isinstance (by decide +kernel) (px_v (pv 1)) (pe_bltn (v := V.ty "dict") (u := Value.type "dict") rfl b.dict (by decide +kernel) rfl) (by decide))) (pq_cons (pq_par (i := 5) (j := 6) rfl sc_l_spoilt.nd rfl rfl (by decide) rfl rfl (pn_copyO rfl rfl (hu2_of hr) (by rfl) b.dict (by decide +kernel) (pxs_cons (px_v (pv 1)) pxs_nil)) (pn_dat (px_ix (ixw (hu_of hr)) (px_callTy (clw_listG rfl) (by rfl) b.list (by decide +kernel) (pxs_cons (px_v (pv 1)) pxs_nil)) (px_v (pv 3)))) (by rfl)) (pq_cons (pq_if (pb_cmp (opw_eqK (units65 hr)) (px_v (pv 2)) px_int (nomark _)) (pq_one (pq_popM rfl rfl (hu_of hr) (pv 5) (px_v (pv 6)) ⟨rfl, rfl, rfl, rfl⟩)) (pq_one (pq_if (pb_cmp (opw_eqK (units65 hr)) (px_v (pv 2)) px_int (nomark _)) (pq_cons (pq_set (i := 7) sc_l_spoilt.nd rfl (by first | exact Or.inl rfl | exact Or.inr rfl) (pn_dat (px_lst (pxs_cons px_str (pxs_cons px_str (pxs_cons px_str (pxs_cons px_str (pxs_cons px_str (pxs_cons px_str (pxs_cons px_int (pxs_cons px_non (pxs_cons px_bl (pxs_cons (px_tup pxs_nil) pxs_nil))))))))))))) (pq_one (pq_putM rfl rfl (hu_of hr) (pv 5) (px_ix (ixw (hu_of hr)) (px_v (pv 7)) (px_call rfl h_l_take.G hg (hr.mono (by omega)) rfl h_l_take.m h_l_take.k h_l_take.b rfl pass0 (pxa_bag (pv 0) (pxa_dat px_int pxa_nil)))) (px_ixM rfl rfl (hu_of hr) (pv 5) (px_v (pv 6)))))) (pq_one (pq_putM rfl rfl (hu_of hr) (pv 5) (px_v (pv 6)) (px_call rfl h_l_spoilt.G hg (hr.mono (by omega)) rfl h_l_spoilt.m h_l_spoilt.k h_l_spoilt.b rfl pass0 (pxa_bag (pv 0) (pxa_dat (px_ixM rfl rfl (hu_of hr) (pv 5) (px_v (pv 6))) pxa_nil)))))))) (pq_frz (i := 5) (pq_one (pq_ret (px_v (pv 5))))))) pq_nil) (pq_cons (pq_set (i := 8) sc_l_spoilt.nd rfl (by first | exact Or.inl rfl | exact Or.inr rfl) (pn_listO rfl (by rfl) b.list (by decide +kernel) (pxs_cons (px_v (pv 1)) pxs_nil))) (pq_cons (pq_if (pb_cmp (opw_eqK (units65 hr)) (px_v (pv 2)) px_int (nomark _)) (pq_one (pq_popL (pv 8) (px_v (pv 3)) rfl)) (pq_one (pq_if (pb_cmp (opw_eqK (units65 hr)) (px_v (pv 2)) px_int (nomark _)) (pq_one (pq_insL (pv 8) (px_v (pv 3)) (px_ixL (pv 8) (px_v (pv 3)) rfl) rfl)) (pq_one (pq_if (pb_cmp (opw_eqK (units65 hr)) (px_v (pv 2)) px_int (nomark _)) (pq_frz (i := 8) (pq_one (pq_ret (px_if (pb_val (px_isi rfl (by rfl) b.isinstance (by decide +kernel) (px_v (pv 1)) (pe_bltn (v := V.ty "tuple") (u := Value.type "tuple") rfl b.tuple (by decide +kernel) rfl) (by decide))) (px_v (pv 8)) (px_callTy clw_tuple (by rfl) b.tuple (by decide +kernel) (pxs_cons (px_v (pv 8)) pxs_nil)))))) (pq_one (pq_putL (pv 8) (px_v (pv 3)) (px_call rfl h_l_spoilt.G hg (hr.mono (by omega)) rfl h_l_spoilt.m h_l_spoilt.k h_l_spoilt.b rfl pass0 (pxa_bag (pv 0) (pxa_dat (px_ixL (pv 8) (px_v (pv 3)) rfl) pxa_nil)))))))))) (pq_frz (i := 8) (pq_one (pq_ret (px_if (pb_val (px_isi rfl (by rfl) b.isinstance (by decide +kernel) (px_v (pv 1)) (pe_bltn (v := V.ty "list") (u := Value.type "list") rfl b.list (by decide +kernel) rfl) (by decide))) (px_v (pv 8)) (px_callTy clw_tuple (by rfl) b.tuple (by decide +kernel) (pxs_cons (px_v (pv 8)) pxs_nil)))))))))))))
def p_l_spoilt (w : World) : Nat → List Ar → W Dat
  | 0 => pNo
  | n + 1 => defW 9 (F_l_spoilt w (p_l_spoilt w n))
theorem w_l_spoilt {f_l_spoilt : Addr} {fd_l_spoilt : FuncData} (F_l_spoilt' : Fun K "_law_spoilt" "_law_spoilt" s_l_spoilt f_l_spoilt fd_l_spoilt) (b_l_spoilt : Binds K fd_l_spoilt ["_law_bag_here", "_law_thing"] []) (m_l_spoilt : mg "_law_spoilt" = some (.ref f_l_spoilt)) (k_l_spoilt : PySem.W.keepIn K (.ref f_l_spoilt) = true) (b : Blt mg) {f_h_l_take : Addr} {fd_h_l_take : FuncData} (h_l_take : Fnc P w K mg base "_law_take" 1 ["_law_bag_here", "_law_many"] p_take f_h_l_take fd_h_l_take) {f_h_l_odd : Addr} {fd_h_l_odd : FuncData} (h_l_odd : Fnc P w K mg base "_law_odd" 2 ["_law_bag_here"] p_l_odd f_h_l_odd fd_h_l_odd) : ∀ n, FnW P w K mg base (8 + n) f_l_spoilt fd_l_spoilt ["_law_bag_here", "_law_thing"] (p_l_spoilt w n) := by
  intro n
  induction n with
  | zero => exact fnw_no
  | succ n ih =>
    exact w1_l_spoilt F_l_spoilt' (Nat.le_add_right _ _) (q_l_spoilt := (p_l_spoilt w n)) b h_l_take h_l_odd ⟨ih, b_l_spoilt, m_l_spoilt, k_l_spoilt⟩
abbrev s_l_is_name : Stmt := top 19
abbrev n_l_is_name : List Str := ["_law_thing", "_law_sign"]
def F_l_is_name : WS := (sSeq (sIf (bOr (bNot (bVal (wIsi "str" (wV 0)))) (bNot (bChain leD leD (wC (.int 1)) (wB lenD (wCons (wV 0) wNil)) (wC (.int 8))))) (sRet (wC (.bl false))) sNil) (sRet (wOp eqKD (wLc (iAny (wV 0)) (gN 1) (bOp ninD (wV 1) (wC (.str "abcdefghijklmnopqrstuvwxyz"))) (wV 1) [1]) (wLst wNil))))
theorem sc_l_is_name : FnScope n_l_is_name ["_law_thing"] (defScope s_l_is_name) := ⟨rfl, rfl, rfl, by decide +kernel, rfl, by decide +kernel, by decide +kernel⟩
def p_l_is_name : List Ar → W Dat := defW 2 (F_l_is_name)
theorem w_l_is_name {f : Addr} {fd : FuncData} (F : Fun K "_law_is_name" "_law_is_name" s_l_is_name f fd) (b : Blt mg) : FnW P w K mg base 1 f fd ["_law_thing"] (p_l_is_name) :=
  fn_w (k := 0) (N := n_l_is_name) (F := F_l_is_name) F sc_l_is_name fun cdv A out s H E hg hr =>
    (pq_cons (pq_if (pb_w (pbw_or (pb_not (pb_val (px_isi rfl (by rfl) b.isinstance (by decide +kernel) (px_v (pv 0)) (pe_bltn (v := V.ty "str") (u := Value.type "str") rfl b.str (by decide +kernel) rfl) (by decide)))) (pbw_or1 (pb_not (pb_chain opw_le opw_le px_int (px_callB clw_len (by rfl) b.len PySem.boot_len (pxs_cons (px_v (pv 0)) pxs_nil)) px_int))))) (pq_one (pq_ret px_bl)) pq_nil) (pq_one (pq_ret (px_cmp (opw_eqK (units65 hr)) (px_lc (own := [("_law_sign", 1)]) (js := [1]) (g := (gN 1)) (ft := (bOp ninD (wV 1) (wC (.str "abcdefghijklmnopqrstuvwxyz")))) (fe := (wV 1)) rfl sc_l_is_name.nd (piw_any rfl (px_v (pv 0))) (blkOk_by (N := n_l_is_name) (sc := defScope s_l_is_name) (by decide +kernel)) (fun _ _ _ _ _ => (pgw_name sc_l_is_name.nd rfl (by first | exact Or.inl rfl | exact Or.inr rfl))) (fun _ _ _ _ _ => (pbs_one (pb_cmp (opw_nin (units65 hr)) (px_v (pv 1)) px_str (by rfl)))) (fun _ _ _ _ _ => (px_v (pv 1))) (by decide)) (px_lst pxs_nil) (nomark _)))))
abbrev s_l_is_id : Stmt := top 20
abbrev n_l_is_id : List Str := ["_law_thing"]
def F_l_is_id : WS := (sRet (wOr (wCall p_l_is_name (aDat (wV 0) aNil)) (wAnd (wIsi "str" (wV 0)) (wAnd (wOp eqKD (wSl (wV 0) oNone (oSome (wC (.int 1)))) (wC (.str "+"))) (wCall p_l_is_name (aDat (wSl (wV 0) (oSome (wC (.int 1))) oNone) aNil))))))
theorem sc_l_is_id : FnScope n_l_is_id ["_law_thing"] (defScope s_l_is_id) := ⟨rfl, rfl, rfl, by decide +kernel, rfl, by decide +kernel, by decide +kernel⟩
def p_l_is_id : List Ar → W Dat := defW 1 (F_l_is_id)
theorem w_l_is_id {f : Addr} {fd : FuncData} (F : Fun K "_law_is_id" "_law_is_id" s_l_is_id f fd) (b : Blt mg) {f_h_l_is_name : Addr} {fd_h_l_is_name : FuncData} (h_l_is_name : Fnc P w K mg base "_law_is_name" 1 ["_law_thing"] p_l_is_name f_h_l_is_name fd_h_l_is_name) : FnW P w K mg base 2 f fd ["_law_thing"] (p_l_is_id) :=
  fn_w (k := 1) (N := n_l_is_id) (F := F_l_is_id) F sc_l_is_id fun cdv A out s H E hg hr =>
    (pq_one (pq_ret (px_or (px_call rfl h_l_is_name.G hg (hr.mono (by decide)) rfl h_l_is_name.m h_l_is_name.k h_l_is_name.b rfl pass0 (pxa_dat (px_v (pv 0)) pxa_nil)) (px_one (px_and (px_isi rfl (by rfl) b.isinstance (by decide +kernel) (px_v (pv 0)) (pe_bltn (v := V.ty "str") (u := Value.type "str") rfl b.str (by decide +kernel) rfl) (by decide)) (px_and (px_cmp (opw_eqK (units65 hr)) (px_sl slw (px_v (pv 0)) pxo_none (pxo_some px_int)) px_str (nomark _)) (px_one (px_call rfl h_l_is_name.G hg (hr.mono (by decide)) rfl h_l_is_name.m h_l_is_name.k h_l_is_name.b rfl pass0 (pxa_dat (px_sl slw (px_v (pv 0)) (pxo_some px_int) pxo_none) pxa_nil)))))))))
abbrev s_l_is_tag_name : Stmt := top 21
abbrev n_l_is_tag_name : List Str := ["_law_thing", "_law_parts"]
def F_l_is_tag_name : WS := (sSeq (sIf (bOr (bNot (bVal (wIsi "str" (wV 0)))) (bOp neKD (wSl (wV 0) oNone (oSome (wC (.int 1)))) (wC (.str "+")))) (sRet (wCall p_l_is_name (aDat (wV 0) aNil))) sNil) (sSeq (sSet 1 (nDat (wM "str" splitD (wSl (wV 0) (oSome (wC (.int 1))) oNone) (wCons (wC (.str ".")) wNil)))) (sRet (wAnd (wOp eqKD (wB lenD (wCons (wV 1) wNil)) (wC (.int 2))) (wAnd (wCall p_l_is_name (aDat (wOp ixD (wV 1) (wC (.int 0))) aNil)) (wCall p_l_is_name (aDat (wOp ixD (wV 1) (wC (.int 1))) aNil)))))))
theorem sc_l_is_tag_name : FnScope n_l_is_tag_name ["_law_thing"] (defScope s_l_is_tag_name) := ⟨rfl, rfl, rfl, by decide +kernel, rfl, by decide +kernel, by decide +kernel⟩
def p_l_is_tag_name : List Ar → W Dat := defW 2 (F_l_is_tag_name)
theorem w_l_is_tag_name {f : Addr} {fd : FuncData} (F : Fun K "_law_is_tag_name" "_law_is_tag_name" s_l_is_tag_name f fd) (b : Blt mg) {f_h_l_is_name : Addr} {fd_h_l_is_name : FuncData} (h_l_is_name : Fnc P w K mg base "_law_is_name" 1 ["_law_thing"] p_l_is_name f_h_l_is_name fd_h_l_is_name) : FnW P w K mg base 2 f fd ["_law_thing"] (p_l_is_tag_name) :=
  fn_w (k := 1) (N := n_l_is_tag_name) (F := F_l_is_tag_name) F sc_l_is_tag_name fun cdv A out s H E hg hr =>
    (pq_cons (pq_if (pb_w (pbw_or (pb_not (pb_val (px_isi rfl (by rfl) b.isinstance (by decide +kernel) (px_v (pv 0)) (pe_bltn (v := V.ty "str") (u := Value.type "str") rfl b.str (by decide +kernel) rfl) (by decide)))) (pbw_or1 (pb_cmp (opw_neK (units65 hr)) (px_sl slw (px_v (pv 0)) pxo_none (pxo_some px_int)) px_str (nomark _))))) (pq_one (pq_ret (px_call rfl h_l_is_name.G hg (hr.mono (by decide)) rfl h_l_is_name.m h_l_is_name.k h_l_is_name.b rfl pass0 (pxa_dat (px_v (pv 0)) pxa_nil)))) pq_nil) (pq_cons (pq_set (i := 1) sc_l_is_tag_name.nd rfl (by first | exact Or.inl rfl | exact Or.inr rfl) (pn_dat (px_m rfl PySem.F.plainAttrs_str PySem.F.slot_str_split PySem.F.type_str_split mtw_split (px_sl slw (px_v (pv 0)) (pxo_some px_int) pxo_none) (pxs_cons px_str pxs_nil)))) (pq_one (pq_ret (px_and (px_cmp (opw_eqK (units65 hr)) (px_callB clw_len (by rfl) b.len PySem.boot_len (pxs_cons (px_v (pv 1)) pxs_nil)) px_int (nomark _)) (px_and (px_call rfl h_l_is_name.G hg (hr.mono (by decide)) rfl h_l_is_name.m h_l_is_name.k h_l_is_name.b rfl pass0 (pxa_dat (px_ix (ixw (hu_of hr)) (px_v (pv 1)) px_int) pxa_nil)) (px_one (px_call rfl h_l_is_name.G hg (hr.mono (by decide)) rfl h_l_is_name.m h_l_is_name.k h_l_is_name.b rfl pass0 (pxa_dat (px_ix (ixw (hu_of hr)) (px_v (pv 1)) px_int) pxa_nil)))))))))
abbrev s_l_dues : Stmt := top 22
abbrev n_l_dues : List Str := ["_law_thing", "_law_is_new", "_law_whole", "_law_mode"]
def F_l_dues : WS := (sSeq (sSet 1 (nDat (wAnd (wIsi "str" (wV 0)) (wAnd (wOp eqKD (wSl (wV 0) oNone (oSome (wC (.int 1)))) (wC (.str "+"))) (wCall p_l_is_name (aDat (wSl (wV 0) (oSome (wC (.int 1))) oNone) aNil)))))) (sSeq (sSet 2 (nDat (wAnd (wIsi "int" (wV 0)) (wNot (wIsi "bool" (wV 0)))))) (sSeq (sSet 3 (nDat (wAnd (wIsi "str" (wV 0)) (wOp inD (wV 0) (wLst (wCons (wC (.str "each")) (wCons (wC (.str "now")) (wCons (wC (.str "late")) wNil)))))))) (sRet (wLst (wCons (wV 2) (wCons (wCall p_l_is_name (aDat (wV 0) aNil)) (wCons (wCall p_l_is_id (aDat (wV 0) aNil)) (wCons (wV 1) (wCons (wCall p_l_is_tag_name (aDat (wV 0) aNil)) (wCons (wV 3) wNil)))))))))))
theorem sc_l_dues : FnScope n_l_dues ["_law_thing"] (defScope s_l_dues) := ⟨rfl, rfl, rfl, by decide +kernel, rfl, by decide +kernel, by decide +kernel⟩
def p_l_dues : List Ar → W Dat := defW 4 (F_l_dues)
theorem w_l_dues {f : Addr} {fd : FuncData} (F : Fun K "_law_dues" "_law_dues" s_l_dues f fd) (b : Blt mg) {f_h_l_is_name : Addr} {fd_h_l_is_name : FuncData} (h_l_is_name : Fnc P w K mg base "_law_is_name" 1 ["_law_thing"] p_l_is_name f_h_l_is_name fd_h_l_is_name) {f_h_l_is_tag_name : Addr} {fd_h_l_is_tag_name : FuncData} (h_l_is_tag_name : Fnc P w K mg base "_law_is_tag_name" 2 ["_law_thing"] p_l_is_tag_name f_h_l_is_tag_name fd_h_l_is_tag_name) {f_h_l_is_id : Addr} {fd_h_l_is_id : FuncData} (h_l_is_id : Fnc P w K mg base "_law_is_id" 2 ["_law_thing"] p_l_is_id f_h_l_is_id fd_h_l_is_id) : FnW P w K mg base 3 f fd ["_law_thing"] (p_l_dues) :=
  fn_w (k := 2) (N := n_l_dues) (F := F_l_dues) F sc_l_dues fun cdv A out s H E hg hr =>
    (pq_cons (pq_set (i := 1) sc_l_dues.nd rfl (by first | exact Or.inl rfl | exact Or.inr rfl) (pn_dat (px_and (px_isi rfl (by rfl) b.isinstance (by decide +kernel) (px_v (pv 0)) (pe_bltn (v := V.ty "str") (u := Value.type "str") rfl b.str (by decide +kernel) rfl) (by decide)) (px_and (px_cmp (opw_eqK (units65 hr)) (px_sl slw (px_v (pv 0)) pxo_none (pxo_some px_int)) px_str (nomark _)) (px_one (px_call rfl h_l_is_name.G hg (hr.mono (by decide)) rfl h_l_is_name.m h_l_is_name.k h_l_is_name.b rfl pass0 (pxa_dat (px_sl slw (px_v (pv 0)) (pxo_some px_int) pxo_none) pxa_nil))))))) (pq_cons (pq_set (i := 2) sc_l_dues.nd rfl (by first | exact Or.inl rfl | exact Or.inr rfl) (pn_dat (px_and (px_isi rfl (by rfl) b.isinstance (by decide +kernel) (px_v (pv 0)) (pe_bltn (v := V.ty "int") (u := Value.type "int") rfl b.int (by decide +kernel) rfl) (by decide)) (px_one (px_not (px_isi rfl (by rfl) b.isinstance (by decide +kernel) (px_v (pv 0)) (pe_bltn (v := V.ty "bool") (u := Value.type "bool") rfl b.bool (by decide +kernel) rfl) (by decide))))))) (pq_cons (pq_set (i := 3) sc_l_dues.nd rfl (by first | exact Or.inl rfl | exact Or.inr rfl) (pn_dat (px_and (px_isi rfl (by rfl) b.isinstance (by decide +kernel) (px_v (pv 0)) (pe_bltn (v := V.ty "str") (u := Value.type "str") rfl b.str (by decide +kernel) rfl) (by decide)) (px_one (px_cmp (opw_in (units65 hr)) (px_v (pv 0)) (px_lst (pxs_cons px_str (pxs_cons px_str (pxs_cons px_str pxs_nil)))) (by rfl)))))) (pq_one (pq_ret (px_lst (pxs_cons (px_v (pv 2)) (pxs_cons (px_call rfl h_l_is_name.G hg (hr.mono (by decide)) rfl h_l_is_name.m h_l_is_name.k h_l_is_name.b rfl pass0 (pxa_dat (px_v (pv 0)) pxa_nil)) (pxs_cons (px_call rfl h_l_is_id.G hg (hr.mono (by decide)) rfl h_l_is_id.m h_l_is_id.k h_l_is_id.b rfl pass0 (pxa_dat (px_v (pv 0)) pxa_nil)) (pxs_cons (px_v (pv 1)) (pxs_cons (px_call rfl h_l_is_tag_name.G hg (hr.mono (by decide)) rfl h_l_is_tag_name.m h_l_is_tag_name.k h_l_is_tag_name.b rfl pass0 (pxa_dat (px_v (pv 0)) pxa_nil)) (pxs_cons (px_v (pv 3)) pxs_nil))))))))))))
end
end EW
set_option Elab.async false
set_option linter.all false
set_option maxRecDepth 100000
set_option maxHeartbeats 4000000
namespace EW
open PySem PySem.Spec PyProof.Rows L2 EG EM
section
variable {α β : Type} {E : Env'} {f g fa fb fc fo fk fv : Env' → W Dat} {fs : Env' → W (List Dat)} {fi fi1 : Env' → W (List Dat)} {ft ft' : Env' → W Bool} {as : Env' → W (List Ar)} {fn : Env' → W Sl} {fp : Env' → W (List Pth)}
  {Q : Dat → Prop} {Qs : List Dat → Prop} {Qb : Bool → Prop} {Qa : List Ar → Prop} {Ql : Sl → Prop} {Qp : List Pth → Prop} {k : Kn} {F G : WS} {C : Addr} {i : Nat}
@[simp ↓] theorem req_ap {P : Prop} {Q : Unit → Prop} : W.req P Q = (P ∧ Q ()) := id rfl
@[simp ↓] theorem wFld_ap {m : Str} : wFld C m fo E Q = fo E fun d => W.of (fldD C m d) Q := id rfl
@[simp ↓] theorem wMeth_ap {m : Str} {p : List Ar → W Dat} : wMeth C m p fo as E Q = fo E fun d => W.of (insD C m d) fun _ => as E fun r => up (p (.dat d.old :: r.map Ar.old)) Q := id rfl
@[simp ↓] theorem sFldSet_ap {m : Str} : sFldSet i C m fn E k = W.of (insAt C E i) fun r => fn E fun s => W.of (slOt s) fun t => r.2.length < 1000 ∧ k.nx (E.set i (.tr r.1 (.ins C (putO m t r.2)))) := id rfl
@[simp ↓] theorem yFld_ap {m : Str} : yFld i C m fp E Qp = fp E fun π => (∃ u, Way E i (π ++ [.fld C m]) u) ∧ Qp (π ++ [.fld C m]) := id rfl
@[simp ↓] theorem yKey_ap : yKey i fp fk E Qp = fp E fun π => fk E fun d => W.of (keyD d) fun k => (∃ u, Way E i (π ++ [.key k]) u) ∧ Qp (π ++ [.key k]) := id rfl
@[simp ↓] theorem sPPut_ap : sPPut i fp fk fn E k = fn E fun s => W.of (slOt s) fun t => fp E fun π => fk E fun kd => W.of (keyD kd) fun key =>
  ∃ a r es, E[i]? = some (.tr a r) ∧ r.at π = some (.dct es) ∧ r.nd π ∧ (es.map (·.1)).Nodup ∧ es.length < sizeLine ∧ k.nx (E.set i (.tr a (r.put π (.dct (putT es key t))))) := id rfl
@[simp ↓] theorem sPDel_ap : sPDel i fp fk E k = fp E fun π => fk E fun kd => W.of (keyD kd) fun key =>
  ∃ a r es, E[i]? = some (.tr a r) ∧ r.at π = some (.dct es) ∧ r.nd π ∧ (es.map (·.1)).Nodup ∧ (valO es key).isSome = true ∧ k.nx (E.set i (.tr a (r.put π (.dct (es.filter fun kv => decide (kv.1 ≠ key)))))) := id rfl
@[simp ↓] theorem nMake_ap {p : Addr → Ot → List Ar → W (Sl × Ot)} : nMake C p as E Ql = as E fun r => ∀ x, up (p x (.ins C []) (r.map Ar.old)) fun z => z.1 = .dat .non ∧ Ql (.tr x z.2) := id rfl
@[simp ↓] theorem nMakeD_ap {p : Addr → Ot → List Ar → W (Sl × Ot)} {dds : List Dat} : nMakeD C p as dds E Ql = as E fun r => ∀ x, up (p x (.ins C []) (r.map Ar.old ++ dds.map Ar.dat)) fun z => z.1 = .dat .non ∧ Ql (.tr x z.2) := id rfl
@[simp ↓] theorem wFz_ap : wFz fn E Q = fn E fun s => W.of (frzD s) Q := id rfl
@[simp ↓] theorem nDc_ap {gg : Dat → Env' → Option Env'} {vs : List Nat} : nDc fi gg ft fk fv vs E Ql = fi E fun ds => dcW gg ft fk fv (wipeE E vs) ds [] Ql := id rfl
@[simp ↓] theorem wLc2_ap {gg g1 : Dat → Env' → Option Env'} {vs vs1 : List Nat} : wLc2 fi gg ft fi1 vs1 g1 ft' f vs E Q = fi E fun ds => lc2W gg ft fi1 vs1 g1 ft' f (wipeE E vs) ds [] Q := id rfl
@[simp ↓] theorem wBorF_ap : wBorF i f E Q = W.of (trAt E i) fun r => f (E.set i (.dat r.2.toD)) fun d => W.of (flatO d) Q := id rfl
@[simp ↓] theorem bBorF_ap : bBorF i ft E Qb = W.of (trAt E i) fun r => ft (E.set i (.dat r.2.toD)) Qb := id rfl
@[simp ↓] theorem wLenI_ap {p : List Ar → W Dat} : wLenI C p f E Q = f E fun d => W.of (insC C d) fun _ => up (p [.dat d.old]) fun r => ∃ n : Int, r = .int n ∧ 0 ≤ n ∧ n < 2 ^ 63 ∧ Q (.int n) := id rfl
@[simp ↓] theorem wIxI_ap {p : List Ar → W Dat} : wIxI C p f fk E Q = f E fun d => fk E fun k => W.of (insC C d) fun _ => up (p [.dat d.old, .dat k.old]) Q := id rfl
@[simp ↓] theorem wIsiC_ap {K : PySem.W.Frag} {T : Addr} : wIsiC K T f E Q = f E fun d => (∀ C fs, d = .ins C fs → IsiC K C) ∧ W.of (kitD K T d) fun b => Q (.bl b) := id rfl
@[simp ↓] theorem wExF_ap {K : PySem.W.Frag} {a : Addr} {d : Option Addr} {n : Str} : wExF K i a d C n E Q = ((XfC K C ∧ PySem.W.findIn K (.ref C) n = some none) ∧ W.of (excAt E i a d C) fun fs => W.of (fs.lookup n) Q) := id rfl
@[simp ↓] theorem wExI_ap {K : PySem.W.Frag} {a : Addr} {d : Option Addr} {cv : Value} : wExI K i a d C cv E Q = (ExcC K C ∧ W.of (excAt E i a d C) fun _ => W.of (PySem.W.kitOne K (.ref C) cv) fun b => Q (.bl b)) := id rfl
@[simp ↓] theorem sBreak_ap : sBreak E k = k.bk E := id rfl
@[simp ↓] theorem sExt_ap : sExt i f E k = W.of (ownL E i) fun ds => f E fun d => W.of (match d with | .lst _ xs => some xs | _ => none) fun xs => ds.length + xs.length ≤ sizeLine ∧ k.nx (E.set i (.own (.lst true (ds ++ xs)))) := id rfl
@[simp ↓] theorem sAug_ap {o : Dat → Dat → Option Dat} : sAug i o f E k = W.of (datAt E i) fun x => f E fun y => W.of (o x y) fun d => k.nx (E.set i (.dat d)) := id rfl
@[simp ↓] theorem sTry_ap {mch : Addr → Option Bool} {hd : Addr → Option Addr → Addr → WS} : sTry i mch F hd E k = F E { k with ex := fun C fs E' => exTry i hd k C fs E' (mch C) } := id rfl
@[simp] theorem exTry_t {hd : Addr → Option Addr → Addr → WS} {fs : List (Str × Dat)} : exTry i hd k C fs E (some true) = ∀ a d, hd a d C (E.set i (.exc a d C fs)) (offN i k) := rfl
@[simp] theorem exTry_f {hd : Addr → Option Addr → Addr → WS} {fs : List (Str × Dat)} : exTry i hd k C fs E (some false) = k.ex C fs E := rfl
@[simp ↓] theorem zPx_ap {Qz : Zr → Prop} : zPx f E Qz = f E fun d => Qz (.ok d E) := id rfl
@[simp ↓] theorem zCallS_ap {p : Addr → Ot → List Ar → W (Sl × Ot)} {Qz : Zr → Prop} : zCallS i p as E Qz = W.of (trAt E i) fun r => as E fun r' => up (p r.1 r.2.old (r'.map Ar.old)) fun z => ∃ d, z.1 = .dat d ∧ Qz (.ok d (E.set i (.tr r.1 z.2))) := id rfl
@[simp ↓] theorem zMethZ_ap {m : Str} {p : Addr → Ot → List Ar → W Rz} {Qz : Zr → Prop} : zMethZ i C m p as E Qz = W.of (insTr C m E i) fun r => as E fun r' => up (p r.1 r.2.old (r'.map Ar.old)) (zrOf E i r.1 Qz) := id rfl
@[simp ↓] theorem zrOf_ok {a : Addr} {Qz : Zr → Prop} {s : Sl} {t : Ot} : zrOf E i a Qz (.ok s t) = ∃ d, s = .dat d ∧ Qz (.ok d (E.set i (.tr a t))) := id rfl
@[simp ↓] theorem zrOf_ex {a : Addr} {Qz : Zr → Prop} {fs : List (Str × Dat)} {t : Ot} : zrOf E i a Qz (.ex C fs t) = Qz (.ex C fs (E.set i (.tr a t))) := id rfl
@[simp ↓] theorem zOp_ap {o : Dat → Dat → Option Dat} {fz : Env' → W Zr} {Qz : Zr → Prop} : zOp o fz fb E Qz = fz E (zOn Qz fun d E' => fb E' fun d2 => W.of (o d d2) fun r => Qz (.ok r E')) := id rfl
@[simp ↓] theorem zOn_ok {Qz : Zr → Prop} {gg : Dat → Env' → Prop} {d : Dat} : zOn Qz gg (.ok d E) = gg d E := id rfl
@[simp ↓] theorem zOn_ex {Qz : Zr → Prop} {gg : Dat → Env' → Prop} {fs : List (Str × Dat)} : zOn Qz gg (.ex C fs E) = Qz (.ex C fs E) := id rfl
@[simp ↓] theorem zbOp_ap {o : Dat → Dat → Option Dat} {fz : Env' → W Zr} {Qz : Zb → Prop} : zbOp o fz fb E Qz = fz E (zbOn Qz fun d E' => fb E' fun d2 => W.of ((o d d2).bind toB) fun r => Qz (.ok r E')) := id rfl
@[simp ↓] theorem zbOn_ok {Qz : Zb → Prop} {gg : Dat → Env' → Prop} {d : Dat} : zbOn Qz gg (.ok d E) = gg d E := id rfl
@[simp ↓] theorem zbOn_ex {Qz : Zb → Prop} {gg : Dat → Env' → Prop} {fs : List (Str × Dat)} : zbOn Qz gg (.ex C fs E) = Qz (.ex C fs E) := id rfl
@[simp ↓] theorem zK_ok {gg : Dat → Env' → Prop} {d : Dat} : zK k gg (.ok d E) = gg d E := id rfl
@[simp ↓] theorem zK_ex {gg : Dat → Env' → Prop} {fs : List (Str × Dat)} : zK k gg (.ex C fs E) = k.ex C fs E := id rfl
@[simp ↓] theorem sExprZ_ap {fz : Env' → W Zr} : sExprZ fz E k = fz E (zK k fun _ E' => k.nx E') := id rfl
@[simp ↓] theorem sRetZ_ap {fz : Env' → W Zr} : sRetZ fz E k = fz E (zK k fun d E' => k.rt E' (.dat d)) := id rfl
@[simp ↓] theorem sSetZ_ap {fz : Env' → W Zr} : sSetZ i fz E k = fz E (zK k fun d E' => k.nx (E'.set i (.dat d))) := id rfl
/-- the two ways of an if by a test that changes trees -/
def ifZ (F G : WS) (k : Kn) : Zb → Prop
  | .ok true E' => F E' k
  | .ok false E' => G E' k
  | .ex C fs E' => k.ex C fs E'
@[simp ↓] theorem sIfZ_ap {fz : Env' → W Zb} : sIfZ fz F G E k = fz E (ifZ F G k) := by
  unfold sIfZ
  refine congrArg (fz E) (funext fun r => ?_)
  cases r with
  | ok b E' => cases b <;> rfl
  | ex _ _ _ => rfl
@[simp ↓] theorem ifZ_t : ifZ F G k (.ok true E) = F E k := id rfl
@[simp ↓] theorem ifZ_f : ifZ F G k (.ok false E) = G E k := id rfl
@[simp ↓] theorem ifZ_ex {fs : List (Str × Dat)} : ifZ F G k (.ex C fs E) = k.ex C fs E := id rfl
@[simp ↓] theorem sSetI_ap {p : Addr → Ot → List Ar → W Rz} : sSetI i C p fk f E k = f E fun d => W.of (insAt C E i) fun r => fk E fun kd => up (p r.1 (Ot.ins C r.2).old [.dat kd.old, .dat d.old]) (zrOf E i r.1 (zK k fun _ E' => k.nx E')) := id rfl
@[simp ↓] theorem zsNil_ap {Qz : Zs → Prop} : zsNil E Qz = Qz (.ok [] E) := id rfl
@[simp ↓] theorem zsPut_ap {fz : Env' → W Zr} {fzs : Env' → W Zs} {Qz : Zs → Prop} : zsPut fz fzs E Qz = fz E (zsOn Qz fun d E' => fzs E' (zsCons Qz d)) := id rfl
@[simp ↓] theorem zsOn_ok {Qz : Zs → Prop} {gg : Dat → Env' → Prop} {d : Dat} : zsOn Qz gg (.ok d E) = gg d E := id rfl
@[simp ↓] theorem zsOn_ex {Qz : Zs → Prop} {gg : Dat → Env' → Prop} {fs : List (Str × Dat)} : zsOn Qz gg (.ex C fs E) = Qz (.ex C fs E) := id rfl
@[simp ↓] theorem zsCons_ok {Qz : Zs → Prop} {d : Dat} {ds : List Dat} : zsCons Qz d (.ok ds E) = Qz (.ok (d :: ds) E) := id rfl
@[simp ↓] theorem zsCons_ex {Qz : Zs → Prop} {d : Dat} {fs : List (Str × Dat)} : zsCons Qz d (.ex C fs E) = Qz (.ex C fs E) := id rfl
@[simp ↓] theorem zLst_ap {fzs : Env' → W Zs} {Qz : Zr → Prop} : zLst fzs E Qz = fzs E (zlOn Qz fun ds E' => W.of (mkL ds) fun d => Qz (.ok d E')) := id rfl
@[simp ↓] theorem zlOn_ok {Qz : Zr → Prop} {gg : List Dat → Env' → Prop} {ds : List Dat} : zlOn Qz gg (.ok ds E) = gg ds E := id rfl
@[simp ↓] theorem zlOn_ex {Qz : Zr → Prop} {gg : List Dat → Env' → Prop} {fs : List (Str × Dat)} : zlOn Qz gg (.ex C fs E) = Qz (.ex C fs E) := id rfl
@[simp ↓] theorem zsK_ok {gg : List Dat → Env' → Prop} {ds : List Dat} : zsK k gg (.ok ds E) = gg ds E := id rfl
@[simp ↓] theorem zsK_ex {gg : List Dat → Env' → Prop} {fs : List (Str × Dat)} : zsK k gg (.ex C fs E) = k.ex C fs E := id rfl
@[simp ↓] theorem sSetLZ_ap {fzs : Env' → W Zs} : sSetLZ i fzs E k = fzs E (zsK k fun ds E' => W.of (mkL ds) fun d => k.nx (E'.set i (.own d))) := id rfl
@[simp ↓] theorem sAppZ_ap {fz : Env' → W Zr} : sAppZ i fz E k = W.of (ownL E i) fun _ => fz E (zK k fun d E' => W.of (ownL E' i) fun ds => ds.length < sizeLine ∧ k.nx (E'.set i (.own (.lst true (ds ++ [d]))))) := id rfl
@[simp ↓] theorem sExtZ_ap {fz : Env' → W Zr} : sExtZ i fz E k = W.of (ownL E i) fun _ => fz E (zK k fun d E' => W.of (ownL E' i) fun ds => W.of (match d with | .lst _ xs => some xs | _ => none) fun xs => ds.length + xs.length ≤ sizeLine ∧ k.nx (E'.set i (.own (.lst true (ds ++ xs))))) := id rfl
@[simp ↓] theorem sRetO_ap : sRetO i E k = W.of (ownSl E i) fun s => k.rt (E.set i .any) s := id rfl
@[simp ↓] theorem nyMeth_ap {m : Str} {p : List Ar → W Rn} {Qn : Rn → Prop} : nyMeth C m p fo as E Qn = fo E fun d => W.of (insD C m d) fun _ => as E fun r => up (p (.dat d.old :: r.map Ar.old)) Qn := id rfl
@[simp ↓] theorem onRn_ok {gg : Sl → Prop} {s : Sl} : onRn E k gg (.ok s) = gg s := id rfl
@[simp ↓] theorem onRn_ex {gg : Sl → Prop} {fs : List (Str × Dat)} : onRn E k gg (.ex C fs) = k.ex C fs E := id rfl
@[simp ↓] theorem onRs_ok {gg : Dat → Prop} {d : Dat} : onRs E k gg (.ok d) = gg d := id rfl
@[simp ↓] theorem onRs_ex {gg : Dat → Prop} {fs : List (Str × Dat)} : onRs E k gg (.ex C fs) = k.ex C fs E := id rfl
@[simp ↓] theorem sSetN_ap {fy : Env' → W Rn} : sSetN i fy E k = fy E (onRn E k fun s => k.nx (E.set i s)) := id rfl
@[simp ↓] theorem rnD_ok {s : Sl} {Qr : Rs → Prop} : rnD (.ok s) Qr = W.of (frzD s) fun d => Qr (.ok d) := id rfl
@[simp ↓] theorem rnD_ex {fs : List (Str × Dat)} {Qr : Rs → Prop} : rnD (.ex C fs) Qr = Qr (.ex C fs) := id rfl
@[simp ↓] theorem yFz_ap {fy : Env' → W Rn} {Qr : Rs → Prop} : yFz fy E Qr = fy E fun r => rnD r Qr := id rfl
@[simp ↓] theorem rsD_ok {gg : Dat → W Dat} {d : Dat} {Qr : Rs → Prop} : rsD gg (.ok d) Qr = gg d fun r => Qr (.ok r) := id rfl
@[simp ↓] theorem rsD_ex {gg : Dat → W Dat} {fs : List (Str × Dat)} {Qr : Rs → Prop} : rsD gg (.ex C fs) Qr = Qr (.ex C fs) := id rfl
@[simp ↓] theorem lenI_ap {p : List Ar → W Dat} {d : Dat} : lenI C p d Q = W.of (insC C d) fun _ => up (p [.dat d.old]) fun r => ∃ n : Int, r = .int n ∧ 0 ≤ n ∧ n < 2 ^ 63 ∧ Q (.int n) := id rfl
@[simp ↓] theorem sRetY_ap {fy : Env' → W Rs} : sRetY fy E k = fy E (onRs E k fun d => k.rt E (.dat d)) := id rfl
@[simp ↓] theorem sExprY_ap {fy : Env' → W Rs} : sExprY fy E k = fy E (onRs E k fun _ => k.nx E) := id rfl
@[simp ↓] theorem sSetY_ap {fy : Env' → W Rs} : sSetY i fy E k = fy E (onRs E k fun d => k.nx (E.set i (.dat d))) := id rfl
@[simp ↓] theorem yOk_ap {Qr : Rs → Prop} : yOk f E Qr = f E fun d => Qr (.ok d) := id rfl
@[simp ↓] theorem yCall_ap {p : List Ar → W Rs} {Qr : Rs → Prop} : yCall p as E Qr = as E fun r => up (p (r.map Ar.old)) Qr := id rfl
@[simp ↓] theorem kNil_ap {Qk : List (Dat × Dat) → Prop} : kNil E Qk = Qk [] := id rfl
@[simp ↓] theorem kCons_ap {fd : Env' → W (List (Dat × Dat))} {Qk : List (Dat × Dat) → Prop} : kCons fk fv fd E Qk = fk E fun kd => fv E fun v => fd E fun r => Qk ((kd, v) :: r) := id rfl
@[simp ↓] theorem nDisp_ap {fd : Env' → W (List (Dat × Dat))} : nDisp fd E Ql = fd E fun ps => W.of (keyP ps) fun us => us.length ≤ 15 ∧ Ql (.own (.dct true (mergeD [] us))) := id rfl
@[simp ↓] theorem nDcE_ap {gg : Dat → Env' → Option Env'} {vs : List Nat} : nDcE fi gg fk vs E Ql = fi E fun ds => dcE gg fk (wipeE E vs) ds [] fun ks => ∀ p, Ql (.tr p (.dct (emps ks))) := id rfl
@[simp ↓] theorem defS_ap {m : Nat} {a : Addr} {t : Ot} {rs : List Ar} {Qq : Sl × Ot → Prop} : defS m F a t rs Qq = F (.tr a t :: startE (m - 1) rs) ⟨fun E => finS a Qq E (.dat .non), finS a Qq, fun _ => False, fun _ => False, fun _ _ _ => False⟩ := id rfl
@[simp ↓] theorem defZ_ap {m : Nat} {a : Addr} {t : Ot} {rs : List Ar} {Qq : Rz → Prop} : defZ m F a t rs Qq = F (.tr a t :: startE (m - 1) rs) ⟨fun E => finS a (fun r => Qq (.ok r.1 r.2)) E (.dat .non), finS a (fun r => Qq (.ok r.1 r.2)), fun _ => False, fun _ => False, finX a Qq⟩ := id rfl
@[simp ↓] theorem defY_ap {m : Nat} {rs : List Ar} {Qq : Rs → Prop} : defY m F rs Qq = F (startE m rs) ⟨fun _ => Qq (.ok .non), fun _ s => onDat (fun d => Qq (.ok d)) s, fun _ => False, fun _ => False, fun C fs _ => Qq (.ex C fs)⟩ := id rfl
@[simp ↓] theorem defN_ap {m : Nat} {rs : List Ar} {Qq : Rn → Prop} : defN m F rs Qq = F (startE m rs) ⟨fun _ => Qq (.ok (.dat .non)), fun _ s => Qq (.ok s), fun _ => False, fun _ => False, fun C fs _ => Qq (.ex C fs)⟩ := id rfl
@[simp] theorem finS_tr {a a' : Addr} {t : Ot} {Qq : Sl × Ot → Prop} {s : Sl} : finS a Qq (.tr a' t :: E) s = (a' = a ∧ Qq (s, t)) := rfl
@[simp] theorem finX_tr {a a' : Addr} {t : Ot} {Qq : Rz → Prop} {fs : List (Str × Dat)} : finX a Qq C fs (.tr a' t :: E) = (a' = a ∧ Qq (.ex C fs t)) := rfl
end
@[simp] theorem trAt_0 {a : Addr} {t : Ot} {E : Env'} : trAt (.tr a t :: E) 0 = some (a, t) := rfl
@[simp] theorem trAt_s {s : Sl} {E : Env'} {n : Nat} : trAt (s :: E) (n + 1) = trAt E n := rfl
@[simp] theorem insAt_0 {C a : Addr} {fs : List (Str × Ot)} {E : Env'} : insAt C (.tr a (.ins C fs) :: E) 0 = some (a, fs) := by simp [insAt]
@[simp] theorem insAt_s {C : Addr} {s : Sl} {E : Env'} {n : Nat} : insAt C (s :: E) (n + 1) = insAt C E n := rfl
@[simp] theorem ownSl_0t {a : Addr} {t : Ot} {E : Env'} : ownSl (.tr a t :: E) 0 = some (.tr a t) := rfl
@[simp] theorem ownSl_0o {d : Dat} {E : Env'} : ownSl (.own d :: E) 0 = some (.own d) := rfl
@[simp] theorem ownSl_s {s : Sl} {E : Env'} {n : Nat} : ownSl (s :: E) (n + 1) = ownSl E n := rfl
@[simp] theorem insTr_s {C : Addr} {m : Str} {s : Sl} {E : Env'} {n : Nat} : insTr C m (s :: E) (n + 1) = insTr C m E n := rfl
@[simp] theorem insTr_0 {C a : Addr} {m : Str} {fs : List (Str × Ot)} {E : Env'} : insTr C m (.tr a (.ins C fs) :: E) 0 = if fs.lookup m = none then some (a, .ins C fs) else none := by by_cases h : fs.lookup m = none <;> simp [insTr, h]
@[simp] theorem excAt_s {s : Sl} {E : Env'} {n : Nat} {a : Addr} {d : Option Addr} {C : Addr} : excAt (s :: E) (n + 1) a d C = excAt E n a d C := rfl
@[simp] theorem excAt_0 {E : Env'} {a : Addr} {d : Option Addr} {C : Addr} {fs : List (Str × Dat)} : excAt (.exc a d C fs :: E) 0 a d C = some fs := by simp [excAt]
@[simp] theorem fldD_ins {C : Addr} {f : Str} {fs : List (Str × Dat)} : fldD C f (.ins C fs) = fs.lookup f := by simp [fldD]
@[simp] theorem insD_ins {C : Addr} {m : Str} {fs : List (Str × Dat)} : insD C m (.ins C fs) = if fs.lookup m = none then some () else none := by by_cases h : fs.lookup m = none <;> simp [insD, h]
@[simp] theorem insC_ins {C : Addr} {fs : List (Str × Dat)} : insC C (.ins C fs) = some () := by simp [insC]
@[simp] theorem slOt_dat {d : Dat} : slOt (.dat d) = some (.dat d) := rfl
@[simp] theorem slOt_tr {a : Addr} {t : Ot} : slOt (.tr a t) = some t := rfl
@[simp] theorem frzD_dat {d : Dat} : frzD (.dat d) = some d := rfl
@[simp] theorem frzD_tr {a : Addr} {t : Ot} : frzD (.tr a t) = some t.toD := rfl
@[simp] theorem frzD_ownD {es : List (Key × Dat)} : frzD (.own (.dct true es)) = some (.dct true es) := rfl
@[simp] theorem frzD_ownL {es : List Dat} : frzD (.own (.lst true es)) = some (.lst true es) := rfl
@[simp] theorem old_ins {C : Addr} {fs : List (Str × Dat)} : (Dat.ins C fs).old = .ins C (fs.map fun p => (p.1, p.2.old)) := by simp [Dat.old, oldf_map]
@[simp] theorem oto_dat {d : Dat} : (Ot.dat d).old = .dat d.old := by simp [Ot.old]
@[simp] theorem oto_lst {ts : List Ot} : (Ot.lst ts).old = .lst (ts.map Ot.old) := by simp [Ot.old, otolds_map]
@[simp] theorem oto_dct {ts : List (Key × Ot)} : (Ot.dct ts).old = .dct (ts.map fun p => (p.1, p.2.old)) := by simp [Ot.old, otoldk_map]
@[simp] theorem oto_ins {C : Addr} {ts : List (Str × Ot)} : (Ot.ins C ts).old = .ins C (ts.map fun p => (p.1, p.2.old)) := by simp [Ot.old, otoldf_map]
@[simp] theorem toD_dat {d : Dat} : (Ot.dat d).toD = d := by simp [Ot.toD]
@[simp] theorem toD_lst {ts : List Ot} : (Ot.lst ts).toD = .lst true (ts.map Ot.toD) := by simp [Ot.toD, toDs_map]
@[simp] theorem toD_dct {ts : List (Key × Ot)} : (Ot.dct ts).toD = .dct true (ts.map fun p => (p.1, p.2.toD)) := by simp [Ot.toD, toDk_map]
@[simp] theorem toD_ins {C : Addr} {ts : List (Str × Ot)} : (Ot.ins C ts).toD = .ins C (ts.map fun p => (p.1, p.2.toD)) := by simp [Ot.toD, toDf_map]
theorem loopW_cons {g : Dat → Env' → Option Env'} {F : WS} {d : Dat} {ds : List Dat} {E : Env'} {k : Kn} : loopW g F (d :: ds) E k = W.of (g d E) fun E1 => F E1 { k with nx := fun E' => loopW g F ds E' k, ct := fun E' => loopW g F ds E' k, bk := k.nx } := rfl
theorem loopW_nil {g : Dat → Env' → Option Env'} {F : WS} {E : Env'} {k : Kn} : loopW g F [] E k = k.nx E := rfl
@[simp] theorem gN_of {i : Nat} {d : Dat} {E : Env'} : gN i d E = some (E.set i (.dat d)) := rfl
@[simp] theorem gT2_of {i j : Nat} {d e : Dat} {E : Env'} : gT2 i j (.tup [d, e]) E = some ((E.set i (.dat d)).set j (.dat e)) := rfl
mutual
theorem dold2 : ∀ d : Dat, d.old.old = d.old
  | .non => by simp
  | .any => by simp
  | .adr _ => by simp
  | .odd _ _ es => by rw [Dat.old, Dat.old, doldo2 es]
  | .bl _ => by simp
  | .int _ => by simp
  | .str _ => by simp
  | .lst _ ds => by rw [Dat.old, Dat.old, dolds2 ds]
  | .tup ds => by rw [Dat.old, Dat.old, dolds2 ds]
  | .dct _ es => by rw [Dat.old, Dat.old, doldk2 es]
  | .ins _ fs => by rw [Dat.old, Dat.old, doldf2 fs]
theorem dolds2 : ∀ ds : List Dat, Dat.olds (Dat.olds ds) = Dat.olds ds
  | [] => by rw [Dat.olds, Dat.olds]
  | d :: ds => by rw [Dat.olds, Dat.olds, dold2 d, dolds2 ds]
theorem doldk2 : ∀ es : List (Key × Dat), Dat.oldk (Dat.oldk es) = Dat.oldk es
  | [] => by rw [Dat.oldk, Dat.oldk]
  | (k, d) :: es => by rw [Dat.oldk, Dat.oldk, dold2 d, doldk2 es]
theorem doldo2 : ∀ es : List (Kd × Dat), Dat.oldo (Dat.oldo es) = Dat.oldo es
  | [] => by rw [Dat.oldo, Dat.oldo]
  | (k, d) :: es => by rw [Dat.oldo, Dat.oldo, dold2 d, doldo2 es]
theorem doldf2 : ∀ es : List (Str × Dat), Dat.oldf (Dat.oldf es) = Dat.oldf es
  | [] => by rw [Dat.oldf, Dat.oldf]
  | (k, d) :: es => by rw [Dat.oldf, Dat.oldf, dold2 d, doldf2 es]
end
@[simp] theorem enumG_lst {t : Bool} {ds : List Dat} : enumG [.lst t ds] = some (ds.mapIdx fun i d => .tup [.int i, d]) := rfl
@[simp] theorem enumG_tup {ds : List Dat} : enumG [.tup ds] = some (ds.mapIdx fun i d => .tup [.int i, d]) := rfl
@[simp] theorem listG_lst {t : Bool} {ds : List Dat} : listG [.lst t ds] = some (.lst true ds) := rfl
@[simp] theorem listG_tup {ds : List Dat} : listG [.tup ds] = some (.lst true ds) := rfl
@[simp] theorem listG_dct {t : Bool} {es : List (Key × Dat)} : listG [.dct t es] = some (.lst true (es.map fun p => kD p.1)) := rfl
theorem lc_mapL {α : Type} {g : Dat → Env' → Option Env'} {te : Env' → W Dat} {E : Env'} {Q : Dat → Prop} (f h : α → Dat) : ∀ (xs : List α) (acc : List Dat), (∀ x ∈ xs, ∃ E1, g (f x) E = some E1 ∧ ∀ P : Dat → Prop, P (h x) → te E1 P) → Q (.lst true (acc ++ xs.map h)) → lcW g bYes te E (xs.map f) acc Q
  | [], acc, _, q => by simpa [lcW] using q
  | x :: xs, acc, hh, q => by
    obtain ⟨E1, e, ht⟩ := hh x List.mem_cons_self
    show (W.of (g (f x) E)).bind (fun E1 => (bYes E1).bind fun b => cnd b ((te E1).bind fun y => lcW g bYes te E (xs.map f) (acc ++ [y])) (lcW g bYes te E (xs.map f) acc)) Q
    rw [e]
    refine ht _ ?_
    refine lc_mapL f h xs (acc ++ [h x]) (fun y hy => hh y (List.mem_cons_of_mem _ hy)) ?_
    simpa using q
theorem lc_filterL {α : Type} {g : Dat → Env' → Option Env'} {tt : Env' → W Bool} {te : Env' → W Dat} {E : Env'} {Q : Dat → Prop} (c : α → Bool) (f h : α → Dat) : ∀ (xs : List α) (acc : List Dat), (∀ x ∈ xs, ∃ E1, g (f x) E = some E1 ∧ (∀ P : Bool → Prop, P (c x) → tt E1 P) ∧ (c x = true → ∀ P : Dat → Prop, P (h x) → te E1 P)) → Q (.lst true (acc ++ (xs.filter c).map h)) → lcW g tt te E (xs.map f) acc Q
  | [], acc, _, q => by simpa [lcW] using q
  | x :: xs, acc, hh, q => by
    obtain ⟨E1, e, h1, h2⟩ := hh x List.mem_cons_self
    show (W.of (g (f x) E)).bind (fun E1 => (tt E1).bind fun b => cnd b ((te E1).bind fun y => lcW g tt te E (xs.map f) (acc ++ [y])) (lcW g tt te E (xs.map f) acc)) Q
    rw [e]
    refine h1 _ ?_
    cases z : c x with
    | true =>
      refine h2 z _ ?_
      refine lc_filterL c f h xs (acc ++ [h x]) (fun d' hd => hh d' (List.mem_cons_of_mem _ hd)) ?_
      simpa [z] using q
    | false =>
      refine lc_filterL c f h xs acc (fun d' hd => hh d' (List.mem_cons_of_mem _ hd)) ?_
      simpa [z] using q
@[simp] theorem old_old_str {x : Str} : (Dat.str x).old.old = .str x := by simp
end EW
set_option Elab.async false
set_option linter.all false
set_option maxRecDepth 100000
set_option maxHeartbeats 4000000
namespace EW
open PySem PySem.Spec PyProof.Rows L2 EG TL
@[simp] theorem notB_str {x : Str} : notBD (.str x) .non = some (.bl true) := rfl
@[simp] theorem notB_non : notBD .non .non = some (.bl false) := rfl
@[simp] theorem eqKD_int {i j : Int} : eqKD (.int i) (.int j) = some (.bl (decide (i = j))) := rfl
@[simp] theorem eqKD_str {i j : Str} : eqKD (.str i) (.str j) = some (.bl (decide (i = j))) := rfl
@[simp] theorem neKD_int {i j : Int} : neKD (.int i) (.int j) = some (.bl (!decide (i = j))) := rfl
@[simp] theorem neKD_str {i j : Str} : neKD (.str i) (.str j) = some (.bl (!decide (i = j))) := rfl
@[simp] theorem eqKD_ns {j : Str} : eqKD .non (.str j) = some (.bl false) := rfl
@[simp] theorem neKD_ns {j : Str} : neKD .non (.str j) = some (.bl true) := rfl
@[simp] theorem isN_str {x : Str} : isND (.str x) .non = some (.bl false) := rfl
@[simp] theorem isN_non : isND .non .non = some (.bl true) := rfl
@[simp] theorem notN_str {x : Str} : notND (.str x) .non = some (.bl true) := rfl
@[simp] theorem notN_non : notND .non .non = some (.bl false) := rfl
@[simp] theorem isi_ss {x : Str} : isiD "str" (.str x) = some (.bl true) := rfl
@[simp] theorem isi_sn : isiD "str" .non = some (.bl false) := rfl
@[simp] theorem isi_dd {t : Bool} {es : List (Key × Dat)} : isiD "dict" (.dct t es) = some (.bl true) := rfl
theorem is_name_str {x : Str} {Q : Dat → Prop} (hx : x.length ≤ sizeLine) (q : Q (.bl (nameB x))) : p_is_name [.dat (.str x)] Q := by
  unfold p_is_name F_is_name
  simp [startE, isiD, tyN, isB, lenD, hx]
  cases c1 : decide (1 ≤ (x.length : Int)) with
  | false =>
    have e : nameB x = false := by
      unfold nameB
      rw [c1]
      rfl
    rw [e] at q
    simpa using q
  | true =>
    simp
    cases c2 : decide ((x.length : Int) ≤ 8) with
    | false =>
      have e : nameB x = false := by
        unfold nameB
        rw [c1, c2]
        rfl
      rw [e] at q
      have c2' := of_decide_eq_false c2
      rw [if_neg c2']
      exact q
    | true =>
      have e : nameB x = x.cps.toList.all fun c => decide (c ∈ lets.cps.toList) := by
        unfold nameB
        rw [c1, c2]
        rfl
      have c2' := of_decide_eq_true c2
      simp [c2']
      rw [few_of (by rw [List.length_map, Array.length_toList]; exact hx)]
      simp
      refine lc_map (fun d => match d with | .str z => .bl (z.cps.toList.all fun c => decide (c ∈ lets.cps.toList)) | _ => .non) _ [] (fun d hd => ?_) ?_
      · obtain ⟨c, hc, rfl⟩ := List.mem_map.mp hd
        refine ⟨_, rfl, fun P hP => ?_⟩
        simp [wipeE]
        simpa [inD, inB] using hP
      · rw [e] at q
        have : (blsD ((x.cps.toList.map fun c => Dat.str ⟨#[c]⟩).map (fun d => match d with | .str z => Dat.bl (z.cps.toList.all fun c => decide (c ∈ lets.cps.toList)) | _ => .non))) = some (x.cps.toList.map fun c => decide (c ∈ lets.cps.toList)) := by
          rw [List.map_map, ← blsD_map, List.map_map]
          congr 1
          refine List.map_congr_left fun c _ => ?_
          simp
        simp only [List.nil_append, allD]
        rw [this]
        simpa [List.all_map] using q
def rest1 (x : Str) : Str := cutS x (some 1) none
def newB (x : Str) : Bool := Txt.startswith x "+" && nameB (rest1 x)
def idB (x : Str) : Bool := nameB x || newB x
theorem rest1_len (x : Str) : (rest1 x).length ≤ x.length := by
  rw [← tl_len, ← tl_len]
  show (List.take _ (List.drop _ _)).length ≤ _
  rw [List.length_take, List.length_drop]
  have : (tl x).length = x.cps.toList.length := rfl
  omega
theorem is_new_id_str {x : Str} {Q : Dat → Prop} (hx : x.length ≤ sizeLine) (q : Q (.bl (newB x))) : p_is_new_id [.dat (.str x)] Q := by
  unfold p_is_new_id F_is_new_id
  simp [startE, startsD]
  unfold newB at q
  cases e : Txt.startswith x "+" with
  | false =>
    rw [e] at q
    exact q
  | true =>
    rw [e] at q
    simp [slD, hx]
    exact up_in (is_name_str (Nat.le_trans (rest1_len x) hx) q)
theorem is_id_str {x : Str} {Q : Dat → Prop} (hx : x.length ≤ sizeLine) (q : Q (.bl (idB x))) : p_is_id [.dat (.str x)] Q := by
  unfold p_is_id F_is_id
  simp [startE]
  refine up_in (is_name_str hx ?_)
  unfold idB at q
  simp
  cases e : nameB x with
  | true =>
    rw [e] at q
    exact q
  | false =>
    rw [e] at q
    simp
    exact up_in (is_new_id_str hx q)
theorem sub_len (x : Str) (i j : Nat) : (Builtin.Str.strSub x i j).length ≤ x.length := by
  show (x.cps.extract i j).size ≤ x.cps.size
  rw [Array.size_extract]
  omega
theorem parts_len (x y : Str) : ∀ p ∈ Txt.split x y, p.length ≤ x.length := by
  intro p hp
  unfold Txt.split at hp
  split at hp
  · rw [List.mem_singleton.mp hp]
    exact Nat.le_refl _
  · split at hp
    · rw [List.mem_singleton.mp hp]
      exact Nat.le_refl _
    · unfold Builtin.Str.partsBetween at hp
      simp only [List.mem_map] at hp
      obtain ⟨q, _, rfl⟩ := hp
      exact sub_len _ _ _
def tagP (x : Str) : Bool := match Txt.split (rest1 x) "." with
  | [a, b] => nameB a && nameB b
  | _ => false
def tagB (x : Str) : Bool := nameB x || (Txt.startswith x "+" && tagP x)
theorem is_tag_name_str {x : Str} {Q : Dat → Prop} (hx : x.length ≤ 1000000) (q : Q (.bl (tagB x))) : p_is_tag_name [.dat (.str x)] Q := by
  have hl : (1000000 : Nat) + 2 ≤ sizeLine := by decide
  have hx' : x.length ≤ sizeLine := by omega
  unfold p_is_tag_name F_is_tag_name
  simp [startE]
  refine up_in (is_name_str hx' ?_)
  unfold tagB at q
  cases e : nameB x with
  | true =>
    rw [e] at q
    simpa using q
  | false =>
    rw [e] at q
    simp [startsD]
    cases e1 : Txt.startswith x "+" with
    | false =>
      rw [e1] at q
      simpa using q
    | true =>
      rw [e1] at q
      have hr := rest1_len x
      have hsl : slD (.str x) (some 1) none = some (.str (rest1 x)) := by
        simp only [slD]
        rw [if_pos hx']
        rfl
      have hsp : splitD (.str (rest1 x)) [.str "."] = some (.lst true ((Txt.split (rest1 x) ".").map .str)) := by
        simp only [splitD]
        rw [if_pos ⟨by decide, by omega⟩]
      simp [hsl, hsp]
      have hp := parts_len (rest1 x) "."
      unfold tagP at q
      generalize Txt.split (rest1 x) "." = ps at q hp
      match ps, q, hp with
      | [a, b], q, hp =>
        have ha := hp a List.mem_cons_self
        have hb := hp b (List.mem_cons_of_mem _ List.mem_cons_self)
        have e0 : atI [Dat.str a, Dat.str b] 0 = some (.str a) := rfl
        have e1 : atI [Dat.str a, Dat.str b] 1 = some (.str b) := rfl
        simp [e0, e1]
        refine up_in (is_name_str (by omega) ?_)
        simp at q
        cases e2 : nameB a with
        | false =>
          rw [e2] at q
          simpa using q
        | true =>
          rw [e2] at q
          simp
          exact up_in (is_name_str (by omega) (by simpa using q))
      | [], q, _ => simpa using q
      | [a], q, _ => simpa using q
      | a :: b :: c :: r, q, _ =>
        have : ¬ ((r.length : Int) + 1 + 1 + 1 = 2) := by omega
        simp [this]
        exact q
end EW
set_option Elab.async false
set_option linter.all false
set_option maxRecDepth 100000
set_option maxHeartbeats 4000000
namespace EW
open PySem PySem.Spec PyProof.Rows L2 EG TL
theorem take_up {m : Int} {Q : Dat → Prop} (h0 : 0 < m) (h1 : m < 1073741824) (h : ∀ r : Int, 0 ≤ r → r < m → Q (.int r)) : up (p_take [.bag, .dat (.int m)]) Q := up_in ⟨h0, h1, h⟩
theorem words_split : splitD (.str wordsT) [.str " "] = some (.lst true (wordsL.map .str)) := by
  simp only [splitD]
  rw [if_pos (by decide +kernel)]
  rfl
theorem sum_one : ∀ zs : List Str, (∀ z ∈ zs, z.length = 1) → (zs.map Str.length).sum = zs.length := by
  intro zs hz
  induction zs with
  | nil => rfl
  | cons z zs ih =>
    rw [List.map_cons, List.sum_cons, hz z List.mem_cons_self, ih fun y hy => hz y (List.mem_cons_of_mem _ hy), List.length_cons]
    omega
theorem names_ok {m : Int} {Q : Dat → Prop} (m0 : 0 ≤ m) (m20 : m ≤ 20) (q : ∀ xs : List Str, (xs.length : Int) = m → xs.Nodup → (∀ x ∈ xs, Nm x) → Q (.lst true (xs.map .str))) : p_l_names [.bag, .dat (.int m)] Q := by
  unfold p_l_names F_l_names
  simp [startE]
  rw [words_split, rng1_of (by omega), few_of (by rw [List.length_map, List.length_range]; have : (20 : Nat) ≤ sizeLine := by decide
                                                  omega)]
  simp
  refine loop_by (fun n E => ∃ (s5 s6 s7 s8 s9 : Sl) (xs : List Str), E = [.bag, .dat (.int m), .dat (.str lets), .own (.lst true (xs.map .str)), .dat (.lst true (wordsL.map .str)), s5, s6, s7, s8, s9, .no, .no] ∧ xs.length = n ∧ xs.Nodup ∧ ∀ x ∈ xs, Nm x) _ _ 0 ⟨.no, .no, .no, .no, .no, [], rfl, rfl, List.nodup_nil, fun x hx => absurd hx List.not_mem_nil⟩ ?_ ?_
  · rintro i d E nx hd ⟨s5, s6, s7, s8, s9, xs, rfl, xl, xnd, xnm⟩ hnx
    refine ⟨_, rfl, ?_⟩
    simp
    refine take_up (by decide) (by decide) fun r r0 r1 => ?_
    obtain ⟨n, hn, hat⟩ : ∃ n : Int, (n = 1 ∨ n = 2 ∨ n = 8 ∨ n = 4) ∧ atI [Dat.int 1, Dat.int 2, Dat.int 8, Dat.int 4] r = some (.int n) := by
      obtain rfl | rfl | rfl | rfl : r = 0 ∨ r = 1 ∨ r = 2 ∨ r = 3 := by omega
      · exact ⟨1, Or.inl rfl, rfl⟩
      · exact ⟨2, Or.inr (Or.inl rfl), rfl⟩
      · exact ⟨8, Or.inr (Or.inr (Or.inl rfl)), rfl⟩
      · exact ⟨4, Or.inr (Or.inr (Or.inr rfl)), rfl⟩
    have h20 : (1000 : Nat) ≤ sizeLine := by decide
    rw [ixD_lst, hat, of_some_ap, rng1_of (by omega), few_of (by rw [List.length_map, List.length_range]; omega), of_some_ap]
    refine lc_by (fun j acc => ∃ cs : List Nat, acc = (cs.map sgn).map .str ∧ cs.length = j ∧ ∀ c ∈ cs, c ∈ lets.cps.toList) _ _ 0 ⟨[], rfl, rfl, fun c hc => absurd hc List.not_mem_nil⟩ ?_ ?_
    · rintro j d' acc P hd' ⟨cs, rfl, cl, ca⟩ hP
      refine ⟨_, rfl, ?_⟩
      simp [wipeE]
      refine take_up (by decide) (by decide) fun r r0 r1 => ?_
      obtain ⟨c, hc, hcat⟩ := lets_ix r r0 r1
      have : ixD (Dat.str lets) (Dat.int r) = some (.str (sgn c)) := by
        simp only [ixD]
        rw [if_pos (by decide +kernel), hcat]
        rfl
      rw [this, of_some_ap]
      refine hP _ ⟨cs ++ [c], by simp, by rw [List.length_append, cl]; rfl, fun z hz => ?_⟩
      rcases List.mem_append.mp hz with hz | hz
      · exact ca z hz
      · rw [List.mem_singleton.mp hz]
        exact hc
    rintro _ ⟨cs, rfl, cl, ca⟩
    rw [List.length_map, List.length_range, Nat.zero_add] at cl
    obtain ⟨c0, cs', rfl⟩ : ∃ c0 cs', cs = c0 :: cs' := by
      cases cs with
      | nil =>
        exfalso
        have : n.toNat = 0 := cl.symm
        omega
      | cons c r => exact ⟨c, r, rfl⟩
    obtain ⟨at', hix, hat26⟩ := lets_index c0 (ca c0 List.mem_cons_self)
    have e0 : ixD (.lst true (((c0 :: cs').map sgn).map .str)) (.int 0) = some (.str (sgn c0)) := by
      rw [ixD_lst]
      exact atI_nat (j := 0) rfl
    have e1 : sindexD (.str lets) [.str (sgn c0)] = some (.int at') := by
      simp only [sindexD]
      rw [hix]
      rfl
    rw [e0, of_some_ap, e1, of_some_ap, slD_lst, of_some_ap, cutL_map]
    have e2 : cutL ((c0 :: cs').map sgn) (some 1) none = cs'.map sgn := by
      unfold cutL
      have e1 : HT.sIx ((c0 :: cs').map sgn).length 0 (some 1) = 1 := by
        rw [show (1 : Int) = ((1 : Nat) : Int) from rfl, HT.sIx_nat, List.length_map, List.length_cons]
        omega
      rw [e1]
      show List.take _ (cs'.map sgn) = _
      refine List.take_of_length_le ?_
      show _ ≤ ((c0 :: cs').map sgn).length - 1
      rw [List.length_map, List.length_map, List.length_cons]
      omega
    rw [e2]
    have cl7 : cs'.length ≤ 7 := by
      rw [List.length_cons] at cl
      omega
    have sum7 : ((cs'.map sgn).map Str.length).sum = cs'.length := by
      rw [sum_one _ fun z hz => by obtain ⟨c, _, rfl⟩ := List.mem_map.mp hz; rfl, List.length_map]
    have e3 : joinD (.str "") [.lst true ((cs'.map sgn).map .str)] = some (.str (Txt.join "" (cs'.map sgn))) := by
      simp only [joinD, strsD_map, Option.bind_some]
      rw [if_pos]
      rw [sum7, List.length_map]
      show cs'.length + cs'.length * 0 ≤ _
      omega
    rw [e3, of_some_ap]
    have rlen : (Txt.join "" (cs'.map sgn)).length ≤ 7 := by
      rw [join_len, sum7]
      exact cl7
    have rsm : ∀ c ∈ (Txt.join "" (cs'.map sgn)).cps.toList, c ∈ lets.cps.toList := by
      intro c hc
      obtain ⟨y, hy, hcy⟩ := join_mem hc
      obtain ⟨c', hc', rfl⟩ := List.mem_map.mp hy
      rw [List.mem_singleton.mp (show c ∈ [c'] from hcy)]
      exact ca c' (List.mem_cons_of_mem _ hc')
    generalize Txt.join "" (cs'.map sgn) = rest at rlen rsm
    simp
    refine take_up (by decide) (by decide) fun r' r0' r1' => ?_
    rw [cutL_map]
    have ws16 : (cutL wordsL (some (at' : Int)) none).length ≤ 16 := Nat.le_trans (cutL_len _ _ _) words_ok.1
    have wsn : ∀ x ∈ cutL wordsL (some (at' : Int)) none, Nm x := fun x hx => words_ok.2 x (cutL_mem hx)
    generalize cutL wordsL (some (at' : Int)) none = ws at ws16 wsn
    obtain ⟨ws', hws, ws16', wsn'⟩ : ∃ ws' : List Str, mulD (.lst true (ws.map .str)) (.int (boolI (decide (r' = 0)))) = some (.lst true (ws'.map .str)) ∧ ws'.length ≤ 16 ∧ ∀ x ∈ ws', Nm x := by
      by_cases z : r' = 0
      · refine ⟨ws, ?_, ws16, wsn⟩
        subst z
        simp only [mulD, decide_true, boolI]
        rw [if_pos]
        · simp
        · refine ⟨by decide, by decide, ?_⟩
          rw [List.length_map]
          show ws.length * 1 ≤ _
          omega
      · refine ⟨[], ?_, by decide, fun x hx => absurd hx List.not_mem_nil⟩
        simp only [mulD, decide_eq_false z, boolI]
        rw [if_pos]
        · simp
        · exact ⟨by decide, by decide, by simp⟩
    simp
    rw [hws, of_some_ap]
    have e4 : slD (.str lets) (some (at' : Int)) none = some (.str (cutS lets (some (at' : Int)) none)) := by
      simp only [slD]
      rw [if_pos (by decide +kernel)]
    have e5 : slD (.str lets) none (some (at' : Int)) = some (.str (cutS lets none (some (at' : Int)))) := by
      simp only [slD]
      rw [if_pos (by decide +kernel)]
    have tlen : (turned at').cps.toList.length = 26 := (turned_ok at' hat26).2
    have e6 : addD (.str (cutS lets (some (at' : Int)) none)) (.str (cutS lets none (some (at' : Int)))) = some (.str (turned at')) := by
      simp only [addD]
      rw [if_pos]
      · rfl
      · have h2 : (turned at').length = (cutS lets (some (at' : Int)) none).length + (cutS lets none (some (at' : Int))).length := by
          rw [← tl_len, ← tl_len, ← tl_len]
          show (tl (_ ++ _)).length = _
          rw [tl_append, List.length_append]
        rw [← h2, ← tl_len]
        show (turned at').cps.toList.length ≤ _
        rw [tlen]
        omega
    rw [e4, of_some_ap, e5, of_some_ap, e6, of_some_ap, itD_str, few_of (by rw [List.length_map, tlen]; omega), of_some_ap]
    refine lc_map (fun d => match d with | .str z => .str (z ++ rest) | _ => .non) _ [] (fun d' hd' => ?_) ?_
    · obtain ⟨c, hc, rfl⟩ := List.mem_map.mp hd'
      refine ⟨_, rfl, fun P hP => ?_⟩
      simp [wipeE]
      have : addD (.str ⟨#[c]⟩) (.str rest) = some (.str (⟨#[c]⟩ ++ rest)) := by
        simp only [addD]
        rw [if_pos]
        show 1 + rest.length ≤ _
        omega
      rw [this]
      exact hP
    have e7 : ((turned at').cps.toList.map fun c => Dat.str ⟨#[c]⟩).map (fun d => match d with | .str z => Dat.str (z ++ rest) | _ => .non) = ((turned at').cps.toList.map fun c => sgn c ++ rest).map .str := by
      rw [List.map_map, List.map_map]
      exact List.map_congr_left fun c _ => rfl
    rw [List.nil_append, e7]
    have e8 : addD (.lst true (ws'.map .str)) (.lst true (((turned at').cps.toList.map fun c => sgn c ++ rest).map .str)) = some (.lst true ((ws' ++ (turned at').cps.toList.map fun c => sgn c ++ rest).map .str)) := by
      simp only [addD]
      rw [if_pos]
      · rw [List.map_append]
      · rw [List.length_map, List.length_map, List.length_map, tlen]
        omega
    have all_nm : ∀ x ∈ ws' ++ (turned at').cps.toList.map (fun c => sgn c ++ rest), Nm x := by
      intro x hx
      rcases List.mem_append.mp hx with hx | hx
      · exact wsn' x hx
      · obtain ⟨c, hc, rfl⟩ := List.mem_map.mp hx
        have hl : (sgn c ++ rest).length = 1 + rest.length := by
          rw [← tl_len, tl_append, List.length_append, tl_len]
          rfl
        refine nm_of (by omega) (by omega) fun z hz => ?_
        have hz' : z ∈ tl (sgn c ++ rest) := hz
        rw [tl_append] at hz'
        rcases List.mem_append.mp hz' with hz' | hz'
        · rw [List.mem_singleton.mp (show z ∈ [c] from hz')]
          exact turned_sm at' hat26 c hc
        · exact rsm z hz'
    obtain ⟨c1, hc1, hfresh⟩ := fresh_one (zs := (turned at').cps.toList) (r := rest) (fs := xs) (turned_ok at' hat26).1 (by rw [tlen, xl]; have := (List.getElem?_eq_some_iff.mp hd).1; rw [List.length_map, List.length_range] at this; omega)
    have hlen : (ws' ++ (turned at').cps.toList.map (fun c => sgn c ++ rest)).length ≤ 100 := by
      rw [List.length_append, List.length_map, tlen]
      omega
    rw [e8, of_some_ap, itD_lst, few_of (by rw [List.length_map]; omega), of_some_ap]
    have hin : (sgn c1 ++ rest) ∈ ws' ++ (turned at').cps.toList.map (fun c => sgn c ++ rest) := List.mem_append_right _ (List.mem_map.mpr ⟨c1, hc1, rfl⟩)
    generalize ws' ++ (turned at').cps.toList.map (fun c => sgn c ++ rest) = some' at all_nm hin hlen
    refine lc_filter (fun d => match d with | .str z => !decide (z ∈ xs) | _ => false) (fun d => d) _ [] (fun d' hd' => ?_) ?_
    · obtain ⟨z, hz, rfl⟩ := List.mem_map.mp hd'
      refine ⟨_, rfl, fun P hP => ?_, fun _ P hP => ?_⟩
      · simp [wipeE]
        simpa using hP
      · simpa [wipeE] using hP
    have e9 : ((some'.map Dat.str).filter fun d => match d with | .str z => !decide (z ∈ xs) | _ => false) = (some'.filter fun z => !decide (z ∈ xs)).map .str := by
      rw [List.filter_map]
      rfl
    rw [List.nil_append, List.map_id', e9]
    obtain ⟨y, ys, hy⟩ : ∃ y ys, (some'.filter fun z => !decide (z ∈ xs)) = y :: ys := by
      cases e : some'.filter fun z => !decide (z ∈ xs) with
      | nil =>
        exfalso
        have : (sgn c1 ++ rest) ∈ some'.filter fun z => !decide (z ∈ xs) := List.mem_filter.mpr ⟨hin, by simpa using hfresh⟩
        rw [e] at this
        exact List.not_mem_nil this
      | cons y ys => exact ⟨y, ys, rfl⟩
    have hym : y ∈ some'.filter fun z => !decide (z ∈ xs) := by
      rw [hy]
      exact List.mem_cons_self
    obtain ⟨hy1, hy2⟩ := List.mem_filter.mp hym
    have hy3 : y ∉ xs := by simpa using hy2
    rw [hy, ixD_lst, List.map_cons, show atI (Dat.str y :: ys.map Dat.str) 0 = some (Dat.str y) from atI_nat (j := 0) rfl, of_some_ap]
    refine ⟨by rw [xl]; have := (List.getElem?_eq_some_iff.mp hd).1; rw [List.length_map, List.length_range] at this; omega, hnx _ ⟨_, _, _, _, _, xs ++ [y], by rw [List.map_append]; rfl, by rw [List.length_append, xl]; rfl, ?_, ?_⟩⟩
    · rw [List.nodup_append]
      refine ⟨xnd, by simp, fun a ha b hb e => ?_⟩
      rw [List.mem_singleton.mp hb] at e
      rw [e] at ha
      exact hy3 ha
    · intro x hx
      rcases List.mem_append.mp hx with hx | hx
      · exact xnm x hx
      · rw [List.mem_singleton.mp hx]
        exact all_nm y hy1
  · rintro E ⟨s5, s6, s7, s8, s9, xs, rfl, xl, xnd, xnm⟩
    simp
    refine q xs ?_ xnd xnm
    rw [xl]
    simp
    omega
end EW
set_option Elab.async false
set_option linter.all false
set_option maxRecDepth 100000
set_option maxHeartbeats 4000000
namespace EW
open PySem PySem.Spec PyProof.Rows L2 EG TL EM
section
variable {E : Env'} {k : Kn} {Q : Dat → Prop} {Qs : Sl → Prop} {f fk fv : Env' → W Dat} {fs : Env' → W (List Dat)} {w : World} {i : Nat}
@[simp ↓] theorem wIsi4_ap {T1 T2 T3 T4 : String} : wIsi4 T1 T2 T3 T4 f E Q = f E fun d => W.of ((tyN d).map fun n => .bl (isB n T1 || (isB n T2 || (isB n T3 || isB n T4)))) Q := id rfl
@[simp ↓] theorem wMoIx_ap : wMoIx f E Q = f E fun d => W.of (tindexD modesD [d]) Q := id rfl
@[simp ↓] theorem wIxL_ap : wIxL i fk E Q = W.of (ownL E i) fun ds => fk E fun kd => W.of (match kd with | .int z => L2.atI ds z | _ => none) Q := id rfl
@[simp ↓] theorem wIxM_ap : wIxM w i fk E Q = oddAt w E i fun es => fk E fun kd => W.of ((kdOf kd).bind fun k => getO es k) Q := id rfl
@[simp ↓] theorem nListO_ap : nListO fs E Qs = fs E fun ds => W.of (listN ds) fun out => Qs (.own (.lst true out)) := id rfl
@[simp ↓] theorem nCopyO_ap : nCopyO w fs E Qs = fs E fun ds => copyW w ds fun es => Qs (.own (.odd w true es)) := id rfl
@[simp ↓] theorem sPopL_ap : sPopL i f E k = W.of (ownL E i) fun ds => f E fun d => W.of (popLD ds d) fun ds' => k.nx (E.set i (.own (.lst true ds'))) := id rfl
@[simp ↓] theorem sInsL_ap {g : Env' → W Dat} : sInsL i f g E k = W.of (ownL E i) fun ds => f E fun d => g E fun y => W.of (insLD ds y d) fun ds' => k.nx (E.set i (.own (.lst true ds'))) := id rfl
@[simp ↓] theorem sPutL_ap : sPutL i fk f E k = W.of (ownL E i) fun ds => f E fun y => fk E fun d => W.of (setLD ds y d) fun ds' => k.nx (E.set i (.own (.lst true ds'))) := id rfl
@[simp ↓] theorem sPutM_ap : sPutM w i fk f E k = (oddAt w E i) fun es => f E fun d => fk E fun kd => W.of (kdOf kd) fun key => es.length < sizeLine ∧ k.nx (E.set i (.own (.odd w true (putOE es key d)))) := id rfl
@[simp ↓] theorem sPopM_ap : sPopM w i fk E k = (oddAt w E i) fun es => fk E fun kd => W.of (kdOf kd) fun key => (getO es key).isSome = true ∧ k.nx (E.set i (.own (.odd w true (outOE es key)))) := id rfl
end
def DeepN (k : Nat) (d : Dat) : Prop := d.plain = true ∧ d.py.canLay0 = true ∧ d.py.depth ≤ k
theorem DeepN.ok {k : Nat} {d : Dat} (h : DeepN k d) (hk : k ≤ 64) : deepOk d = true := by
  obtain ⟨h1, h2, h3⟩ := h
  unfold deepOk SeqAt.shaped
  rw [h1, h2, decide_eq_true (Nat.le_trans h3 hk)]
  rfl
theorem deepN_all {k : Nat} : ∀ {ds : List Dat}, (∀ d ∈ ds, DeepN k d) → Dat.plains ds = true ∧ PyData.canLayAll0 (Dat.pys ds) = true ∧ PyData.depthAll (Dat.pys ds) ≤ k
  | [], _ => ⟨by simp [Dat.plains], by simp [Dat.pys, PyData.canLayAll0], by simp [Dat.pys, PyData.depthAll]⟩
  | d :: ds, h => by
    obtain ⟨h1, h2, h3⟩ := deepN_all fun e he => h e (List.mem_cons_of_mem _ he)
    obtain ⟨g1, g2, g3⟩ := h d List.mem_cons_self
    refine ⟨by simp [Dat.plains, h1, g1], by simp [Dat.pys, PyData.canLayAll0, h2, g2], ?_⟩
    rw [Dat.pys, PyData.depthAll]
    omega
theorem DeepN.lst {k : Nat} {t : Bool} {ds : List Dat} (h : ∀ d ∈ ds, DeepN k d) : DeepN (k + 1) (.lst t ds) := by
  obtain ⟨h1, h2, h3⟩ := deepN_all h
  exact ⟨by simpa [Dat.plain] using h1, by simpa [Dat.py, PyData.canLay0] using h2, by simpa [Dat.py, PyData.depth] using h3⟩
theorem DeepN.bl {k : Nat} {i : Bool} : DeepN k (.bl i) := ⟨by simp [Dat.plain], by simp [Dat.py, PyData.canLay0], by simp [Dat.py, PyData.depth]⟩
theorem deep_refl {d : Dat} (h : DeepN 60 d) (hl : ∃ t ds, d = .lst t ds) : eqKD d d = some (.bl true) := by
  obtain ⟨t, ds, rfl⟩ := hl
  have key : eqD (.lst t ds) (.lst t ds) = some (.bl true) := by
    unfold eqD eqB
    by_cases z : scalD (.lst t ds) (.lst t ds) = true
    · cases z
    · rw [if_neg z, if_pos ⟨h.ok (by decide), h.ok (by decide)⟩, SeqAt.eqv_refl _ h.2.1]
      rfl
  exact key
def bsum (ds : List Dat) : Nat := (ds.map fun d => d.pyd.bulk + 1).sum
theorem bulk_all : ∀ ds : List Dat, PyData.bulkAll (Dat.pyds ds) = bsum ds
  | [] => by simp [Dat.pyds, PyData.bulkAll, bsum]
  | d :: ds => by
    rw [Dat.pyds, PyData.bulkAll, bulk_all ds]
    unfold bsum
    rw [List.map_cons, List.sum_cons]
theorem dep_all {k : Nat} : ∀ {ds : List Dat}, (∀ d ∈ ds, d.pyd.depth ≤ k) ↔ PyData.depthAll (Dat.pyds ds) ≤ k
  | [] => by simp [Dat.pyds, PyData.depthAll]
  | d :: ds => by
    have h2 := dep_all (k := k) (ds := ds)
    rw [Dat.pyds, PyData.depthAll]
    constructor
    · intro h
      have h1 := h d List.mem_cons_self
      have := h2.mp fun e he => h e (List.mem_cons_of_mem _ he)
      omega
    · intro h e he
      rcases List.mem_cons.mp he with rfl | he
      · omega
      · exact h2.mpr (by omega) e he
theorem bsum_app (xs ys : List Dat) : bsum (xs ++ ys) = bsum xs + bsum ys := by
  unfold bsum
  rw [List.map_append, List.sum_append]
theorem bsum_set {ds : List Dat} {x d : Dat} : ∀ {i : Nat}, ds[i]? = some d → bsum (ds.set i x) + d.pyd.bulk = bsum ds + x.pyd.bulk := by
  induction ds with
  | nil => intro i h; simp at h
  | cons e ds ih =>
    intro i h
    cases i with
    | zero =>
      simp at h
      subst h
      simp [bsum]
      omega
    | succ i =>
      have := ih (i := i) (by simpa using h)
      simp [bsum] at this ⊢
      omega
theorem bsum_erase (ds : List Dat) : ∀ i : Nat, bsum (ds.eraseIdx i) ≤ bsum ds := by
  induction ds with
  | nil => intro i; simp
  | cons e ds ih =>
    intro i
    cases i with
    | zero => simp [bsum]
    | succ i =>
      have := ih i
      simp [bsum] at this ⊢
      omega
theorem bsum_mem {ds : List Dat} {d : Dat} (h : d ∈ ds) : d.pyd.bulk + 1 ≤ bsum ds := by
  induction ds with
  | nil => cases h
  | cons e ds ih =>
    rcases List.mem_cons.mp h with rfl | h
    · simp [bsum]
    · have := ih h
      simp [bsum] at this ⊢
      omega
theorem dep_lst {t : Bool} {ds : List Dat} : (Dat.lst t ds).pyd.depth = PyData.depthAll (Dat.pyds ds) + 1 := by rw [Dat.pyd, PyData.depth]
theorem dep_tup {ds : List Dat} : (Dat.tup ds).pyd.depth = PyData.depthAll (Dat.pyds ds) + 1 := by rw [Dat.pyd, PyData.depth]
theorem blk_lst {t : Bool} {ds : List Dat} : (Dat.lst t ds).pyd.bulk = bsum ds := by rw [Dat.pyd, PyData.bulk, bulk_all]
theorem blk_tup {ds : List Dat} : (Dat.tup ds).pyd.bulk = bsum ds := by rw [Dat.pyd, PyData.bulk, bulk_all]
def osum (es : List OE) : Nat := (es.map fun p => p.1.py.bulk + p.2.pyd.bulk + 2).sum
theorem bulk_odd : ∀ es : List OE, PyData.bulkKv (Dat.pydo es) = osum es
  | [] => by simp [Dat.pydo, PyData.bulkKv, osum]
  | (k, d) :: es => by
    rw [Dat.pydo, PyData.bulkKv, bulk_odd es]
    simp [osum]
theorem blk_odd {w : World} {t : Bool} {es : List OE} : (Dat.odd w t es).pyd.bulk = osum es := by rw [Dat.pyd, PyData.bulk, bulk_odd]
theorem kd_dep (k : Kd) : k.py.depth ≤ 1 := by cases k <;> simp [Kd.py, PyData.depth, PyData.depthAll]
theorem dep_odd {w : World} {t : Bool} {es : List OE} {k : Nat} (h : ∀ p ∈ es, p.2.pyd.depth ≤ k) (hk : 1 ≤ k) : (Dat.odd w t es).pyd.depth ≤ k + 1 := by
  rw [Dat.pyd, PyData.depth]
  have : PyData.depthKv (Dat.pydo es) ≤ k := by
    induction es with
    | nil => simp [Dat.pydo, PyData.depthKv]
    | cons p es ih =>
      obtain ⟨q, d⟩ := p
      have h1 := h _ List.mem_cons_self
      have h2 := ih fun e he => h e (List.mem_cons_of_mem _ he)
      have h3 := kd_dep q
      rw [Dat.pydo, PyData.depthKv]
      simp only at h1
      omega
  omega
theorem dep_odd' {w : World} {t : Bool} {es : List OE} {k : Nat} (h : (Dat.odd w t es).pyd.depth ≤ k + 1) : ∀ p ∈ es, p.2.pyd.depth ≤ k := by
  rw [Dat.pyd, PyData.depth] at h
  have h' : PyData.depthKv (Dat.pydo es) ≤ k := by omega
  clear h
  induction es with
  | nil => intro p hp; cases hp
  | cons p es ih =>
    obtain ⟨q, d⟩ := p
    rw [Dat.pydo, PyData.depthKv] at h'
    intro e he
    rcases List.mem_cons.mp he with rfl | he
    · show d.pyd.depth ≤ k
      omega
    · exact ih (by omega) e he
end EW
set_option Elab.async false
set_option linter.all false
set_option maxRecDepth 100000
set_option maxHeartbeats 4000000
namespace EW
open PySem PySem.Spec PyProof.Rows L2 EG TL EM
def oddKs : List Kd := [.str "", .str "b", .str "b b", .str "aB", .str "a1", .str "abcdefghi", .int 1, .non, .bl true, .uni]
def bigN : Int := 10 ^ 39
inductive G (w : World) (n : Nat) : Dat → Prop
  | non : G w n .non
  | bl (b : Bool) : G w n (.bl b)
  | int {i : Int} : (i = bigN ∨ (-1 ≤ i ∧ i ≤ 1)) → G w n (.int i)
  | str {x : Str} : x.length ≤ 40 + 10 * n → (∀ c ∈ x.cps.toList, c < 128) → G w n (.str x)
  | lst {t : Bool} {ds : List Dat} : (∀ d ∈ ds, G w n d) → G w n (.lst t ds)
  | tup {ds : List Dat} : (∀ d ∈ ds, G w n d) → G w n (.tup ds)
  | dct {t : Bool} {es : List (Key × Dat)} : (es.map (·.1) = [] ∨ es.map (·.1) = [.inl 0]) → (∀ p ∈ es, G w n p.2) → G w n (.dct t es)
  | odd {t : Bool} {es : List OE} : 1 ≤ n → (n = 1 → okC (es.map (·.1.m)) = true) → (∀ p ∈ es, p.1 = .int 0 ∨ p.1 ∈ oddKs) → es.length ≤ n + 1 → (∀ p ∈ es, G w n p.2) → G w n (.odd w t es)
theorem G.up {w : World} {n m : Nat} (hnm : n ≤ m) {d : Dat} (g : G w n d) : G w m d := by
  induction g with
  | non => exact .non
  | bl b => exact .bl b
  | int h => exact .int h
  | str h1 h2 => exact .str (by omega) h2
  | lst _ ih => exact .lst ih
  | tup _ ih => exact .tup ih
  | dct h _ ih => exact .dct h ih
  | odd h1 h2 h3 h4 _ ih => exact .odd (by omega) (fun e => h2 (by omega)) h3 (by omega) ih
theorem G.ni {w : World} {n : Nat} {d : Dat} (g : G w n d) : d.noIns = true := by
  have key : ∀ {ds : List Dat}, (∀ d ∈ ds, d.noIns = true) → Dat.noInss ds = true := fun {ds} h => by
    induction ds with
    | nil => simp [Dat.noInss]
    | cons d ds ih => simp [Dat.noInss, h d List.mem_cons_self, ih fun e he => h e (List.mem_cons_of_mem _ he)]
  induction g with
  | lst _ ih => simpa [Dat.noIns] using key ih
  | tup _ ih => simpa [Dat.noIns] using key ih
  | dct _ _ ih =>
    rw [Dat.noIns, noInsk_all]
    exact key fun d hd => by
      obtain ⟨p, hp, rfl⟩ := List.mem_map.mp hd
      exact ih p hp
  | odd _ _ _ _ _ ih =>
    rw [Dat.noIns, noInso_all]
    exact key fun d hd => by
      obtain ⟨p, hp, rfl⟩ := List.mem_map.mp hd
      exact ih p hp
  | _ => simp [Dat.noIns]
theorem int_ok {i : Int} (h : i = bigN ∨ (-1 ≤ i ∧ i ≤ 1)) : (PyData.int i).showable = true ∧ (PyData.int i).leavesShort 41 = true := by
  rcases h with rfl | ⟨h1, h2⟩
  · exact ⟨by decide +kernel, by decide +kernel⟩
  · obtain rfl | rfl | rfl : i = -1 ∨ i = 0 ∨ i = 1 := by omega
    all_goals exact ⟨by decide +kernel, by decide +kernel⟩
theorem kd_ok {k : Kd} (h : k = .int 0 ∨ k ∈ oddKs) : k.py.showable = true ∧ k.py.leavesShort 41 = true ∧ k.py.bulk ≤ 9 := by
  rcases h with rfl | h
  · exact ⟨by decide +kernel, by decide +kernel, by decide +kernel⟩
  · have : ∀ k ∈ oddKs, k.py.showable = true ∧ k.py.leavesShort 41 = true ∧ k.py.bulk ≤ 9 := by decide +kernel
    exact this k h
theorem G.show' {w : World} {n : Nat} {d : Dat} (g : G w n d) : d.pyd.showable = true ∧ d.pyd.leavesShort 41 = true := by
  have key : ∀ {ds : List Dat}, (∀ d ∈ ds, d.pyd.showable = true ∧ d.pyd.leavesShort 41 = true) → PyData.showableAll (Dat.pyds ds) = true ∧ PyData.leavesShortAll 41 (Dat.pyds ds) = true := fun {ds} h => by
    induction ds with
    | nil => simp [Dat.pyds, PyData.showableAll, PyData.leavesShortAll]
    | cons d ds ih => simp [Dat.pyds, PyData.showableAll, PyData.leavesShortAll, h d List.mem_cons_self, ih fun e he => h e (List.mem_cons_of_mem _ he)]
  induction g with
  | non => simp [Dat.pyd, PyData.showable, PyData.leavesShort]
  | bl b => simp [Dat.pyd, PyData.showable, PyData.leavesShort]
  | int h => rw [Dat.pyd]; exact int_ok h
  | str h1 h2 =>
    rw [Dat.pyd]
    refine ⟨by simp [PyData.showable], ?_⟩
    rw [PyData.leavesShort, List.all_eq_true]
    have e : (128 : Nat) ≤ 16 ^ 8 := by decide
    exact fun c hc => decide_eq_true (by have := h2 c hc; omega)
  | lst _ ih => simpa [Dat.pyd, PyData.showable, PyData.leavesShort] using key ih
  | tup _ ih => simpa [Dat.pyd, PyData.showable, PyData.leavesShort] using key ih
  | @dct t es h _ ih =>
    rw [Dat.pyd, PyData.showable, PyData.leavesShort]
    match es, h, ih with
    | [], _, _ => simp [Dat.pydk, PyData.showableKv, PyData.leavesShortKv]
    | [(k, d)], h, ih =>
      have hk : k = .inl 0 := by simpa using h
      subst hk
      have := ih _ List.mem_cons_self
      have e1 : (PyData.int 0).showable = true := by decide +kernel
      have e2 : (PyData.int 0).leavesShort 41 = true := by decide +kernel
      simp only at this
      simp [Dat.pydk, PyData.showableKv, PyData.leavesShortKv, EG.keyD, this, e1, e2]
    | _ :: _ :: _, h, _ => simp at h
  | @odd t es h1 h2 h3 h4 h5 ih =>
    rw [Dat.pyd, PyData.showable, PyData.leavesShort]
    clear h1 h2 h4 h5
    induction es with
    | nil => simp [Dat.pydo, PyData.showableKv, PyData.leavesShortKv]
    | cons p es ih2 =>
      obtain ⟨k, d⟩ := p
      have a1 := kd_ok (h3 _ List.mem_cons_self)
      have a2 := ih _ List.mem_cons_self
      obtain ⟨b1, b2⟩ := ih2 (fun q hq => h3 q (List.mem_cons_of_mem _ hq)) (fun q hq => ih q (List.mem_cons_of_mem _ hq))
      simp only at a1 a2
      simp [Dat.pydo, PyData.showableKv, PyData.leavesShortKv, a1, a2, b1, b2]
theorem G.rep {w : World} {n : Nat} {d : Dat} (g : G w n d) (hk : d.pyd.depth ≤ 60) (hb : d.pyd.bulk ≤ 10000) : reprD [d] = some (.str d.pyd.shown) := by
  obtain ⟨h1, h2⟩ := g.show'
  have l := PyData.shown_le_bulk 41 (by decide) d.pyd h2
  have l2 : d.pyd.shown.length ≤ sizeLine := by
    have e : (1000000 : Nat) ≤ sizeLine := by decide
    omega
  show (if d.noIns = true ∧ d.pyd.showable = true ∧ d.pyd.depth ≤ 60 ∧ d.pyd.shown.length ≤ sizeLine then some (Dat.str d.pyd.shown) else none) = _
  rw [if_pos ⟨g.ni, h1, hk, l2⟩]
theorem G.old {w : World} {n : Nat} {d : Dat} (g : G w n d) : G w n d.old ∧ d.old.pyd = d.pyd := by
  have key : ∀ {ds : List Dat}, (∀ d ∈ ds, G w n d.old ∧ d.old.pyd = d.pyd) → (∀ d ∈ ds.map Dat.old, G w n d) ∧ Dat.pyds (ds.map Dat.old) = Dat.pyds ds := fun {ds} h => by
    induction ds with
    | nil => exact ⟨fun d hd => absurd hd List.not_mem_nil, rfl⟩
    | cons d ds ih =>
      obtain ⟨i1, i2⟩ := ih fun e he => h e (List.mem_cons_of_mem _ he)
      obtain ⟨h1, h2⟩ := h d List.mem_cons_self
      refine ⟨fun e he => ?_, by rw [List.map_cons, Dat.pyds, Dat.pyds, h2, i2]⟩
      rcases List.mem_cons.mp he with rfl | he
      · exact h1
      · exact i1 e he
  induction g with
  | non => simp only [Dat.old]; exact ⟨.non, trivial⟩
  | bl b => simp only [Dat.old]; exact ⟨.bl b, trivial⟩
  | int h => simp only [Dat.old]; exact ⟨.int h, trivial⟩
  | str h1 h2 => simp only [Dat.old]; exact ⟨.str h1 h2, trivial⟩
  | lst _ ih =>
    obtain ⟨h1, h2⟩ := key ih
    simp only [Dat.old, olds_map]
    exact ⟨.lst h1, by rw [Dat.pyd, Dat.pyd, h2]⟩
  | tup _ ih =>
    obtain ⟨h1, h2⟩ := key ih
    simp only [Dat.old, olds_map]
    exact ⟨.tup h1, by rw [Dat.pyd, Dat.pyd, h2]⟩
  | @dct t es h h0 ih =>
    simp only [Dat.old, oldk_map]
    refine ⟨.dct (by rw [List.map_map]; exact h) (fun p hp => ?_), ?_⟩
    · obtain ⟨q, hq, rfl⟩ := List.mem_map.mp hp
      exact (ih q hq).1
    · rw [Dat.pyd, Dat.pyd]
      congr 1
      clear h h0
      induction es with
      | nil => rfl
      | cons p es ih2 =>
        obtain ⟨k, d⟩ := p
        have := (ih _ List.mem_cons_self).2
        simp only at this
        rw [List.map_cons, Dat.pydk, Dat.pydk, this, ih2 fun q hq => ih q (List.mem_cons_of_mem _ hq)]
  | @odd t es h1 h2 h3 h4 h5 ih =>
    simp only [Dat.old, oldo_map]
    refine ⟨.odd h1 (fun e => by rw [List.map_map]; exact h2 e) (fun p hp => ?_) (by rw [List.length_map]; exact h4) (fun p hp => ?_), ?_⟩
    · obtain ⟨q, hq, rfl⟩ := List.mem_map.mp hp
      exact h3 q hq
    · obtain ⟨q, hq, rfl⟩ := List.mem_map.mp hp
      exact (ih q hq).1
    · rw [Dat.pyd, Dat.pyd]
      congr 1
      clear h1 h2 h3 h4 h5
      induction es with
      | nil => rfl
      | cons p es ih2 =>
        obtain ⟨k, d⟩ := p
        have := (ih _ List.mem_cons_self).2
        simp only at this
        rw [List.map_cons, Dat.pydo, Dat.pydo, this, ih2 fun q hq => ih q (List.mem_cons_of_mem _ hq)]
end EW
set_option Elab.async false
set_option linter.all false
set_option maxRecDepth 100000
set_option maxHeartbeats 4000000
namespace EW
open PySem PySem.Spec PyProof.Rows L2 EG TL EM
def oddL : List Dat := [.non, .bl true, .bl false, .int 0, .int 1, .int (-1), .int bigN, .str "", .str "a", .str "ab c", .str "+a", .str "mark", .tup [], .lst true [], .dct true [], .lst true [.int 0], .tup [.str "is"],
  .lst true [.lst true [.lst true [.lst true [.lst true [.lst true []]]]]], .dct true [(.inl 0, .non)], .tup [.str "tag"], .tup [.str "none", .str "a"], .lst true [.tup [.str "not", .tup [.str "none"]]]]
theorem sm_G {w : World} {x : Str} (h : x.length ≤ 40 ∧ x.cps.toList.all (fun c => decide (c < 128)) = true) : G w 0 (.str x) := .str (by omega) fun c hc => of_decide_eq_true (List.all_eq_true.mp h.2 c hc)
theorem g_nil {w : World} {n : Nat} {t : Bool} : G w n (.lst t []) := .lst fun d hd => absurd hd List.not_mem_nil
theorem g_one {w : World} {n : Nat} {t : Bool} {d : Dat} (h : G w n d) : G w n (.lst t [d]) := .lst fun e he => by rw [List.mem_singleton.mp he]; exact h
theorem g_tone {w : World} {n : Nat} {d : Dat} (h : G w n d) : G w n (.tup [d]) := .tup fun e he => by rw [List.mem_singleton.mp he]; exact h
theorem g_ttwo {w : World} {n : Nat} {d e : Dat} (h : G w n d) (h' : G w n e) : G w n (.tup [d, e]) := .tup fun x hx => by
  rcases List.mem_cons.mp hx with rfl | hx
  · exact h
  · rw [List.mem_singleton.mp hx]; exact h'
theorem oddL_G {w : World} : ∀ d ∈ oddL, G w 0 d := by
  intro d hd
  simp only [oddL, List.mem_cons, List.mem_singleton, List.not_mem_nil, or_false] at hd
  rcases hd with rfl | rfl | rfl | rfl | rfl | rfl | rfl | rfl | rfl | rfl | rfl | rfl | rfl | rfl | rfl | rfl | rfl | rfl | rfl | rfl | rfl | rfl
  · exact .non
  · exact .bl _
  · exact .bl _
  · exact .int (.inr (by decide))
  · exact .int (.inr (by decide))
  · exact .int (.inr (by decide))
  · exact .int (.inl rfl)
  · exact sm_G (by decide +kernel)
  · exact sm_G (by decide +kernel)
  · exact sm_G (by decide +kernel)
  · exact sm_G (by decide +kernel)
  · exact sm_G (by decide +kernel)
  · exact .tup fun d hd => absurd hd List.not_mem_nil
  · exact g_nil
  · exact .dct (.inl rfl) fun p hp => absurd hp List.not_mem_nil
  · exact g_one (.int (.inr (by decide)))
  · exact g_tone (sm_G (by decide +kernel))
  · exact g_one (g_one (g_one (g_one (g_one g_nil))))
  · exact .dct (.inr rfl) fun p hp => by rw [List.mem_singleton.mp hp]; exact .non
  · exact g_tone (sm_G (by decide +kernel))
  · exact g_ttwo (sm_G (by decide +kernel)) (sm_G (by decide +kernel))
  · exact g_one (g_ttwo (sm_G (by decide +kernel)) (g_tone (sm_G (by decide +kernel))))
theorem oddL_sz : ∀ d ∈ oddL, d.pyd.depth ≤ 6 ∧ d.pyd.bulk ≤ 60 := by decide +kernel
theorem oddL_ix (r : Int) (r0 : 0 ≤ r) (r1 : r < 22) : ∃ d, L2.atI oddL r = some d ∧ d ∈ oddL := by
  obtain ⟨n, rfl⟩ : ∃ n : Nat, r = n := ⟨r.toNat, by omega⟩
  have hl : oddL.length = 22 := rfl
  have hr : n < oddL.length := by omega
  exact ⟨oddL[n], atI_nat (j := n) (List.getElem?_eq_getElem hr), List.getElem_mem hr⟩
theorem odd_ok' {w : World} {Q : Dat → Prop} (q : ∀ d, G w 0 d → d.pyd.depth ≤ 6 → d.pyd.bulk ≤ 60 → Q d) : p_l_odd [.bag] Q := by
  unfold p_l_odd F_l_odd
  simp [startE]
  rw [rng1_of (by omega), few_of (by rw [List.length_map, List.length_range]; decide)]
  have e5 : (List.range (Int.toNat 5)).map (fun i : Nat => Dat.int (0 + (i : Int))) = [.int 0, .int 1, .int 2, .int 3, .int 4] := rfl
  rw [e5, of_some_ap]
  simp [loopW_cons, loopW_nil]
  have n1 : negD (.int 1) = some (.int (-1)) := rfl
  have n2 : powD (.int 10) (.int 39) = some (.int bigN) := by
    simp only [powD]
    rw [if_pos (by decide)]
    rfl
  have n3 : mkT [] = some (.tup []) := rfl
  rw [n1, of_some_ap, n2, of_some_ap, n3, of_some_ap]
  have big : (1000 : Nat) ≤ sizeLine := by decide
  have m1 : ∀ xs : List Dat, xs.length ≤ 20 → mkL xs = some (.lst true xs) := fun xs h => by
    unfold mkL
    rw [if_pos (by omega)]
  rw [m1 _ (by decide), of_some_ap, show keyP [(Dat.int 0, Dat.non)] = some [(.inl 0, .non)] from rfl, of_some_ap]
  refine ⟨by decide, ?_⟩
  rw [m1 _ (by decide), of_some_ap]
  have ad : ∀ xs ys : List Dat, xs.length + ys.length ≤ 100 → addD (.lst true xs) (.lst true ys) = some (.lst true (xs ++ ys)) := fun xs ys h => by
    simp only [addD]
    rw [if_pos (by omega)]
  rw [ad _ _ (by decide), of_some_ap]
  refine take_up (by decide) (by decide) fun r r0 r1 => ?_
  obtain ⟨d, h1, h2⟩ := oddL_ix r r0 r1
  rw [ixD_lst]
  have h1' : L2.atI oddL r = some d := h1
  have : ∀ xs : List Dat, xs = oddL → W.of (L2.atI xs r) (fun d => Q d) := fun xs e => by
    rw [e, h1', of_some_ap]
    exact q d (oddL_G d h2) (oddL_sz d h2).1 (oddL_sz d h2).2
  exact this _ rfl
end EW
set_option Elab.async false
set_option linter.all false
set_option maxRecDepth 100000
set_option maxHeartbeats 4000000
namespace EW
open PySem PySem.Spec PyProof.Rows L2 EG TL EM
/-- what a call of _law_spoilt with turns to go promises -/
def Spo (w : World) (j : Nat) : Prop := ∀ (n : Nat) (d : Dat), n ≤ 1 → G w n d → d.pyd.depth ≤ j → d.pyd.bulk ≤ 10000 → ∀ Q : Dat → Prop, (∀ d', G w (n + 1) d' → d'.pyd.depth ≤ d.pyd.depth + 6 → d'.pyd.bulk ≤ 2 * d.pyd.bulk + 60 → Q d') → p_l_spoilt w (j + 1) [.bag, .dat d] Q
theorem len_bsum (ds : List Dat) : ds.length ≤ bsum ds := by
  induction ds with
  | nil => exact Nat.zero_le _
  | cons d ds ih =>
    unfold bsum at *
    rw [List.map_cons, List.sum_cons, List.length_cons]
    omega
theorem spo_flat {w : World} {j n : Nat} {d : Dat} {Q : Dat → Prop} (hd : d = .non ∨ (∃ b, d = .bl b) ∨ ∃ i, d = .int i) (q : ∀ d', G w (n + 1) d' → d'.pyd.depth ≤ d.pyd.depth + 6 → d'.pyd.bulk ≤ 2 * d.pyd.bulk + 60 → Q d') : p_l_spoilt w (j + 1) [.bag, .dat d] Q := by
  have fin : up (p_l_odd [.bag]) Q := up_in (odd_ok' (w := w) fun d g h1 h2 => q d (g.up (by omega)) (by omega) (by omega))
  rw [p_l_spoilt]
  unfold F_l_spoilt
  rcases hd with rfl | ⟨b, rfl⟩ | ⟨i, rfl⟩
  all_goals
    simp [startE, tyN, isB]
    exact take_up (by decide) (by decide) fun r r0 r1 => by simpa using fin
theorem spo_lst {w : World} {j n : Nat} {t : Bool} {ds : List Dat} (ih : ∀ j', j = j' + 1 → Spo w j') (hn : n ≤ 1) (g : G w n (Dat.lst t ds)) (hd : (Dat.lst t ds).pyd.depth ≤ j) (hb : (Dat.lst t ds).pyd.bulk ≤ 10000) {Q : Dat → Prop} (q : ∀ d', G w (n + 1) d' → d'.pyd.depth ≤ (Dat.lst t ds).pyd.depth + 6 → d'.pyd.bulk ≤ 2 * (Dat.lst t ds).pyd.bulk + 60 → Q d') : p_l_spoilt w (j + 1) [.bag, .dat (Dat.lst t ds)] Q := by
  have fin : up (p_l_odd [.bag]) Q := up_in (odd_ok' (w := w) fun d g h1 h2 => q d (g.up (by omega)) (by omega) (by omega))
  have ga : ∀ d ∈ ds, G w n d := by cases g; assumption
  rw [blk_lst] at hb
  simp only [blk_lst, dep_lst] at q
  rw [dep_lst] at hd
  have hda : ∀ d ∈ ds, d.pyd.depth ≤ PyData.depthAll (Dat.pyds ds) := dep_all.mpr (Nat.le_refl _)
  have big : (1000000 : Nat) ≤ sizeLine := by decide
  have hlen := len_bsum ds
  -- what is told is right
  have tell : ∀ xs : List Dat, (∀ d ∈ xs, G w (n + 1) d) → (∀ d ∈ xs, d.pyd.depth ≤ PyData.depthAll (Dat.pyds ds) + 6) → bsum xs ≤ 2 * bsum ds + 60 → (Q (.lst true xs) ∧ Q (.tup xs)) := fun xs h1 h2 h3 => by
    have := dep_all.mp h2
    exact ⟨q _ (.lst h1) (by rw [dep_lst]; omega) (by rw [blk_lst]; exact h3), q _ (.tup h1) (by rw [dep_tup]; omega) (by rw [blk_tup]; exact h3)⟩
  rw [p_l_spoilt]
  unfold F_l_spoilt
  simp [startE, tyN, isB, lenD]
  refine take_up (by decide) (by decide) fun r r0 r1 => ?_
  simp
  by_cases e0 : ds = []
  · simpa [e0] using fin
  by_cases er : r = 0
  · simpa [e0, er] using fin
  simp [e0, er]
  have l0 : 0 < ds.length := List.length_pos_iff.mpr e0
  refine take_up (by omega) (by omega) fun a a0 a1 => ?_
  obtain ⟨m, rfl⟩ : ∃ m : Nat, a = m := ⟨a.toNat, by omega⟩
  have hm : m < ds.length := by omega
  have hx : ds[m]? = some ds[m] := List.getElem?_eq_getElem hm
  have hmem : ds[m] ∈ ds := List.getElem_mem hm
  have hat : L2.atI ds (m : Int) = some ds[m] := atI_nat hx
  have hbm := bsum_mem hmem
  have i1 : isiD "str" (Dat.lst t ds) = some (.bl false) := rfl
  have i2 : isiD "dict" (Dat.lst t ds) = some (.bl false) := rfl
  have i3 : isiD "list" (Dat.lst t ds) = some (.bl true) := rfl
  have i4 : isiD "tuple" (Dat.lst t ds) = some (.bl false) := rfl
  have i5 : listN [(Dat.lst t ds)] = some ds := rfl
  have tp : ∀ xs : List Dat, tupleD [.lst true xs] = some (.tup xs) := fun _ => rfl
  simp [i1, i2, i3, i4, i5, hat]
  by_cases e1 : r = 1
  · have p1 : popLD ds (.int m) = some (ds.eraseIdx m) := by
      simp only [popLD]
      rw [if_pos ⟨by omega, by omega, by simpa using hm⟩]
      rfl
    have t1 := tell (ds.eraseIdx m) (fun d hd => (ga d (List.mem_of_mem_eraseIdx hd)).up (by omega)) (fun d hd => by have := hda d (List.mem_of_mem_eraseIdx hd); omega) (by have := bsum_erase ds m; omega)
    simp [e1, p1, tp]
    exact t1.1
  by_cases e2 : r = 2
  · have p1 : insLD ds ds[m] (.int m) = some (ds.take m ++ [ds[m]] ++ ds.drop m) := by
      simp only [insLD]
      rw [if_pos ⟨by omega, by omega, by omega⟩]
      rfl
    have mm : ∀ d ∈ ds.take m ++ [ds[m]] ++ ds.drop m, d ∈ ds := fun d hd => by
      rcases List.mem_append.mp hd with hd | hd
      · rcases List.mem_append.mp hd with hd | hd
        · exact List.mem_of_mem_take hd
        · rw [List.mem_singleton.mp hd]; exact hmem
      · exact List.mem_of_mem_drop hd
    have t1 := tell _ (fun d hd => (ga d (mm d hd)).up (by omega)) (fun d hd => by have := hda d (mm d hd); omega) (by
      have e := bsum_app (ds.take m) (ds.drop m)
      rw [List.take_append_drop] at e
      rw [bsum_app, bsum_app]
      have : bsum [ds[m]] = ds[m].pyd.bulk + 1 := by simp [bsum]
      omega)
    simp [e2, p1, tp]
    simpa using t1.1
  by_cases e3 : r = 3
  · have t1 := tell ds (fun d hd => (ga d hd).up (by omega)) (fun d hd => by have := hda d hd; omega) (by omega)
    simp [e3, tp]
    exact t1.2
  · simp [e1, e2, e3]
    have hj : ∃ j', j = j' + 1 := ⟨j - 1, by have := hda _ hmem; omega⟩
    obtain ⟨j', rfl⟩ := hj
    have go := (ga _ hmem).old
    have ho : ds[m].old.pyd = ds[m].pyd := go.2
    refine up_in (ih j' rfl n _ hn go.1 (by rw [ho]; have := hda _ hmem; omega) (by rw [ho]; omega) _ fun d' g' h1 h2 => ?_)
    rw [ho] at h1 h2
    have hdm := hda _ hmem
    have p1 : setLD ds d' (.int m) = some (ds.set m d') := by
      simp only [setLD]
      rw [if_pos ⟨by omega, by omega, by simpa using hm⟩]
      rfl
    have mm : ∀ d ∈ ds.set m d', d ∈ ds ∨ d = d' := fun d hd => List.mem_or_eq_of_mem_set hd
    have t1 := tell (ds.set m d') (fun d hd => (mm d hd).elim (fun z => (ga d z).up (by omega)) fun z => by rw [z]; exact g') (fun d hd => (mm d hd).elim (fun z => by have := hda d z; omega) fun z => by rw [z]; omega) (by
      have := bsum_set (x := d') hx
      omega)
    simp [p1, tp]
    exact t1.1
theorem spo_tup {w : World} {j n : Nat} {ds : List Dat} (ih : ∀ j', j = j' + 1 → Spo w j') (hn : n ≤ 1) (g : G w n (Dat.tup ds)) (hd : (Dat.tup ds).pyd.depth ≤ j) (hb : (Dat.tup ds).pyd.bulk ≤ 10000) {Q : Dat → Prop} (q : ∀ d', G w (n + 1) d' → d'.pyd.depth ≤ (Dat.tup ds).pyd.depth + 6 → d'.pyd.bulk ≤ 2 * (Dat.tup ds).pyd.bulk + 60 → Q d') : p_l_spoilt w (j + 1) [.bag, .dat (Dat.tup ds)] Q := by
  have fin : up (p_l_odd [.bag]) Q := up_in (odd_ok' (w := w) fun d g h1 h2 => q d (g.up (by omega)) (by omega) (by omega))
  have ga : ∀ d ∈ ds, G w n d := by cases g; assumption
  rw [blk_tup] at hb
  simp only [blk_tup, dep_tup] at q
  rw [dep_tup] at hd
  have hda : ∀ d ∈ ds, d.pyd.depth ≤ PyData.depthAll (Dat.pyds ds) := dep_all.mpr (Nat.le_refl _)
  have big : (1000000 : Nat) ≤ sizeLine := by decide
  have hlen := len_bsum ds
  -- what is told is right
  have tell : ∀ xs : List Dat, (∀ d ∈ xs, G w (n + 1) d) → (∀ d ∈ xs, d.pyd.depth ≤ PyData.depthAll (Dat.pyds ds) + 6) → bsum xs ≤ 2 * bsum ds + 60 → (Q (.tup xs) ∧ Q (.lst true xs)) := fun xs h1 h2 h3 => by
    have := dep_all.mp h2
    exact ⟨q _ (.tup h1) (by rw [dep_tup]; omega) (by rw [blk_tup]; exact h3), q _ (.lst h1) (by rw [dep_lst]; omega) (by rw [blk_lst]; exact h3)⟩
  rw [p_l_spoilt]
  unfold F_l_spoilt
  simp [startE, tyN, isB, lenD]
  refine take_up (by decide) (by decide) fun r r0 r1 => ?_
  simp
  by_cases e0 : ds = []
  · simpa [e0] using fin
  by_cases er : r = 0
  · simpa [e0, er] using fin
  simp [e0, er]
  have l0 : 0 < ds.length := List.length_pos_iff.mpr e0
  refine take_up (by omega) (by omega) fun a a0 a1 => ?_
  obtain ⟨m, rfl⟩ : ∃ m : Nat, a = m := ⟨a.toNat, by omega⟩
  have hm : m < ds.length := by omega
  have hx : ds[m]? = some ds[m] := List.getElem?_eq_getElem hm
  have hmem : ds[m] ∈ ds := List.getElem_mem hm
  have hat : L2.atI ds (m : Int) = some ds[m] := atI_nat hx
  have hbm := bsum_mem hmem
  have i1 : isiD "str" (Dat.tup ds) = some (.bl false) := rfl
  have i2 : isiD "dict" (Dat.tup ds) = some (.bl false) := rfl
  have i3 : isiD "list" (Dat.tup ds) = some (.bl false) := rfl
  have i4 : isiD "tuple" (Dat.tup ds) = some (.bl true) := rfl
  have i5 : listN [(Dat.tup ds)] = some ds := rfl
  have tp : ∀ xs : List Dat, tupleD [.lst true xs] = some (.tup xs) := fun _ => rfl
  simp [i1, i2, i3, i4, i5, hat]
  by_cases e1 : r = 1
  · have p1 : popLD ds (.int m) = some (ds.eraseIdx m) := by
      simp only [popLD]
      rw [if_pos ⟨by omega, by omega, by simpa using hm⟩]
      rfl
    have t1 := tell (ds.eraseIdx m) (fun d hd => (ga d (List.mem_of_mem_eraseIdx hd)).up (by omega)) (fun d hd => by have := hda d (List.mem_of_mem_eraseIdx hd); omega) (by have := bsum_erase ds m; omega)
    simp [e1, p1, tp]
    exact t1.1
  by_cases e2 : r = 2
  · have p1 : insLD ds ds[m] (.int m) = some (ds.take m ++ [ds[m]] ++ ds.drop m) := by
      simp only [insLD]
      rw [if_pos ⟨by omega, by omega, by omega⟩]
      rfl
    have mm : ∀ d ∈ ds.take m ++ [ds[m]] ++ ds.drop m, d ∈ ds := fun d hd => by
      rcases List.mem_append.mp hd with hd | hd
      · rcases List.mem_append.mp hd with hd | hd
        · exact List.mem_of_mem_take hd
        · rw [List.mem_singleton.mp hd]; exact hmem
      · exact List.mem_of_mem_drop hd
    have t1 := tell _ (fun d hd => (ga d (mm d hd)).up (by omega)) (fun d hd => by have := hda d (mm d hd); omega) (by
      have e := bsum_app (ds.take m) (ds.drop m)
      rw [List.take_append_drop] at e
      rw [bsum_app, bsum_app]
      have : bsum [ds[m]] = ds[m].pyd.bulk + 1 := by simp [bsum]
      omega)
    simp [e2, p1, tp]
    simpa using t1.1
  by_cases e3 : r = 3
  · have t1 := tell ds (fun d hd => (ga d hd).up (by omega)) (fun d hd => by have := hda d hd; omega) (by omega)
    simp [e3, tp]
    exact t1.2
  · simp [e1, e2, e3]
    have hj : ∃ j', j = j' + 1 := ⟨j - 1, by have := hda _ hmem; omega⟩
    obtain ⟨j', rfl⟩ := hj
    have go := (ga _ hmem).old
    have ho : ds[m].old.pyd = ds[m].pyd := go.2
    refine up_in (ih j' rfl n _ hn go.1 (by rw [ho]; have := hda _ hmem; omega) (by rw [ho]; omega) _ fun d' g' h1 h2 => ?_)
    rw [ho] at h1 h2
    have hdm := hda _ hmem
    have p1 : setLD ds d' (.int m) = some (ds.set m d') := by
      simp only [setLD]
      rw [if_pos ⟨by omega, by omega, by simpa using hm⟩]
      rfl
    have mm : ∀ d ∈ ds.set m d', d ∈ ds ∨ d = d' := fun d hd => List.mem_or_eq_of_mem_set hd
    have t1 := tell (ds.set m d') (fun d hd => (mm d hd).elim (fun z => (ga d z).up (by omega)) fun z => by rw [z]; exact g') (fun d hd => (mm d hd).elim (fun z => by have := hda d z; omega) fun z => by rw [z]; omega) (by
      have := bsum_set (x := d') hx
      omega)
    simp [p1, tp]
    exact t1.1
end EW
set_option Elab.async false
set_option linter.all false
set_option maxRecDepth 100000
set_option maxHeartbeats 4000000
namespace EW
open PySem PySem.Spec PyProof.Rows L2 EG TL EM
def signsS : Str := "aZ+. 0\nz_"
theorem signs_ix (b : Int) (b0 : 0 ≤ b) (b1 : b < 9) : ∃ c : Nat, c < 128 ∧ ixD (.str signsS) (.int b) = some (.str (sgn c)) := by
  obtain ⟨n, rfl⟩ : ∃ n : Nat, b = n := ⟨b.toNat, by omega⟩
  have hl : signsS.cps.toList.length = 9 := by decide +kernel
  have hr : n < signsS.cps.toList.length := by omega
  have hc : ∀ c ∈ signsS.cps.toList, c < 128 := by decide +kernel
  refine ⟨signsS.cps.toList[n], hc _ (List.getElem_mem hr), ?_⟩
  simp only [ixD]
  rw [if_pos (by decide +kernel), atI_nat (j := n) (List.getElem?_eq_getElem hr)]
  rfl
theorem cut_mem {z : Str} {lo hi : Option Int} {c : Nat} (h : c ∈ (cutS z lo hi).cps.toList) : c ∈ z.cps.toList := by
  unfold cutS at h
  simp only [List.toList_toArray] at h
  exact List.mem_of_mem_drop (List.mem_of_mem_take h)
theorem cut_lo (z : Str) {m : Nat} (h : m ≤ z.length) : (cutS z none (some (m : Int))).length ≤ m := by
  show (List.toArray _).size ≤ m
  rw [List.size_toArray, List.length_take, HT.sIx_nat]
  omega
theorem cut_hi (z : Str) (m : Nat) : (cutS z (some (m : Int)) none).length ≤ z.length - m := by
  show (List.toArray _).size ≤ _
  rw [List.size_toArray, List.length_take, List.length_drop, HT.sIx_nat]
  have : z.cps.toList.length = z.length := by rw [Array.length_toList]; rfl
  omega
theorem spo_str {w : World} {j n : Nat} {x : Str} (hn : n ≤ 1) (g : G w n (.str x)) {Q : Dat → Prop} (q : ∀ d', G w (n + 1) d' → d'.pyd.depth ≤ (Dat.str x).pyd.depth + 6 → d'.pyd.bulk ≤ 2 * (Dat.str x).pyd.bulk + 60 → Q d') : p_l_spoilt w (j + 1) [.bag, .dat (.str x)] Q := by
  have fin : up (p_l_odd [.bag]) Q := up_in (odd_ok' (w := w) fun d g h1 h2 => q d (g.up (by omega)) (by omega) (by omega))
  obtain ⟨g1, g2⟩ : x.length ≤ 40 + 10 * n ∧ ∀ c ∈ x.cps.toList, c < 128 := by cases g with | str h1 h2 => exact ⟨h1, h2⟩
  have big : (1000000 : Nat) ≤ sizeLine := by decide
  have hx : x.length ≤ sizeLine := by omega
  have bl : ∀ y : Str, (Dat.str y).pyd.bulk = y.length := fun y => by rw [Dat.pyd, PyData.bulk]; rfl
  have tell : ∀ y : Str, y.length ≤ x.length + 8 → (∀ c ∈ y.cps.toList, c < 128) → Q (.str y) := fun y h1 h2 =>
    q _ (.str (by omega) h2) (by rw [Dat.pyd, PyData.depth]; omega) (by rw [bl, bl]; omega)
  rw [p_l_spoilt]
  unfold F_l_spoilt
  simp [startE, tyN, isB, lenD, hx]
  refine take_up (by decide) (by decide) fun r r0 r1 => ?_
  by_cases e0 : x.length = 0
  · simpa [e0] using fin
  by_cases er : r = 0
  · simpa [e0, er] using fin
  simp [e0, er]
  refine take_up (by omega) (by omega) fun a a0 a1 => ?_
  obtain ⟨m, rfl⟩ : ∃ m : Nat, a = m := ⟨a.toNat, by omega⟩
  have hm : m < x.length := by omega
  refine take_up (by decide) (by decide) fun b b0 b1 => ?_
  obtain ⟨c, hc, hb⟩ := signs_ix b b0 b1
  have s1 : ∀ k : Nat, slD (.str x) none (some (k : Int)) = some (.str (cutS x none (some (k : Int)))) := fun k => by
    simp only [slD]
    rw [if_pos hx]
  have s2 : ∀ k : Nat, slD (.str x) (some (k : Int)) none = some (.str (cutS x (some (k : Int)) none)) := fun k => by
    simp only [slD]
    rw [if_pos hx]
  have ad : ∀ y z : Str, y.length + z.length ≤ 1000 → addD (.str y) (.str z) = some (.str (y ++ z)) := fun y z h => by
    simp only [addD]
    rw [if_pos (by omega)]
  have c1 := cut_lo x (m := m) (by omega)
  have c2 := cut_hi x (m + 1)
  have al : ∀ y z : Str, (y ++ z).length = y.length + z.length := strLen_append
  have am : ∀ (y z : Str) (c : Nat), c ∈ (y ++ z).cps.toList → c ∈ y.cps.toList ∨ c ∈ z.cps.toList := fun y z c h => by
    have : (y ++ z).cps.toList = y.cps.toList ++ z.cps.toList := by
      show (y.cps ++ z.cps).toList = _
      rw [Array.toList_append]
    rw [this] at h
    exact List.mem_append.mp h
  have sl : (sgn c).length = 1 := rfl
  have sm : ∀ d ∈ (sgn c).cps.toList, d < 128 := fun d hd => by
    have : d = c := by simpa [sgn] using hd
    omega
  have i1 : Option.map some (toI (.int (m : Int))) = some (some (m : Int)) := rfl
  have i2 : addD (.int (m : Int)) (.int 1) = some (.int ((m + 1 : Nat) : Int)) := rfl
  have i3 : Option.map some (toI (.int ((m + 1 : Nat) : Int))) = some (some ((m + 1 : Nat) : Int)) := rfl
  have hb' : ixD (Dat.str (Str.ofString "aZ+. 0\nz_")) (Dat.int b) = some (.str (sgn c)) := hb
  have hn8 : mulSX (.str (sgn c)) (.int 8) = some (.str (repS (sgn c) 8)) := by
    simp only [mulSX]
    rw [if_pos ⟨by decide, by decide, by rw [sl]; decide, by rw [sl]; decide⟩]
    rfl
  have rl : (repS (sgn c) 8).length = 8 := by rw [repS_len, sl]
  rw [hb', of_some_ap, i1, of_some_ap, s1, of_some_ap, ad _ _ (by omega), of_some_ap, i2, of_some_ap, i3, of_some_ap, s2, of_some_ap, ad _ _ (by rw [al]; omega), of_some_ap,
    of_some_ap, s1, of_some_ap, of_some_ap, i3, of_some_ap, s2, of_some_ap, ad _ _ (by omega), of_some_ap, hn8, of_some_ap, ad _ _ (by omega), of_some_ap]
  refine take_up (by decide) (by decide) fun r' r0' r1' => ?_
  rw [ixD_lst]
  have t1 := tell (cutS x none (some (m : Int)) ++ sgn c ++ cutS x (some ((m + 1 : Nat) : Int)) none) (by rw [al, al]; omega) fun d hd => by
    rcases am _ _ _ hd with hd | hd
    · rcases am _ _ _ hd with hd | hd
      · exact g2 d (cut_mem hd)
      · exact sm d hd
    · exact g2 d (cut_mem hd)
  have t2 := tell (cutS x none (some (m : Int)) ++ cutS x (some ((m + 1 : Nat) : Int)) none) (by rw [al]; omega) fun d hd => by
    rcases am _ _ _ hd with hd | hd
    · exact g2 d (cut_mem hd)
    · exact g2 d (cut_mem hd)
  have t3 := tell (x ++ repS (sgn c) 8) (by rw [al]; omega) fun d hd => by
    rcases am _ _ _ hd with hd | hd
    · exact g2 d hd
    · exact sm d (repS_mem hd)
  obtain rfl | rfl | rfl : r' = 0 ∨ r' = 1 ∨ r' = 2 := by omega
  · exact t1
  · exact t2
  · exact t3
end EW
set_option Elab.async false
set_option linter.all false
set_option maxRecDepth 100000
set_option maxHeartbeats 4000000
namespace EW
open PySem PySem.Spec PyProof.Rows L2 EG TL EM
theorem kdOf_d (k : Kd) : kdOf k.d = some k := by cases k <;> rfl
theorem osum_mem {es : List OE} {p : OE} (h : p ∈ es) : p.1.py.bulk + p.2.pyd.bulk + 2 ≤ osum es := by
  induction es with
  | nil => cases h
  | cons e es ih =>
    rcases List.mem_cons.mp h with rfl | h
    · simp [osum]
    · have := ih h
      simp [osum] at this ⊢
      omega
theorem len_osum (es : List OE) : es.length ≤ osum es := by
  induction es with
  | nil => exact Nat.zero_le _
  | cons d ds ih =>
    unfold osum at *
    rw [List.map_cons, List.sum_cons, List.length_cons]
    omega
theorem osum_app (xs ys : List OE) : osum (xs ++ ys) = osum xs + osum ys := by
  unfold osum
  rw [List.map_append, List.sum_append]
theorem osum_erase (ds : List OE) : ∀ i : Nat, osum (ds.eraseIdx i) ≤ osum ds := by
  induction ds with
  | nil => intro i; simp
  | cons e ds ih =>
    intro i
    cases i with
    | zero => simp [osum]
    | succ i =>
      have := ih i
      simp [osum] at this ⊢
      omega
theorem osum_modify {d : Dat} : ∀ {es : List OE} {i : Nat} {p : OE}, es[i]? = some p → osum (es.modify i fun q => (q.1, d)) + p.2.pyd.bulk = osum es + d.pyd.bulk := by
  intro es
  induction es with
  | nil => intro i p h; simp at h
  | cons e es ih =>
    intro i p h
    cases i with
    | zero =>
      simp at h
      subst h
      simp [osum]
      omega
    | succ i =>
      have := ih (i := i) (p := p) (by simpa using h)
      simp [osum] at this ⊢
      omega
theorem mem_modify {α : Type} {f : α → α} {x : α} : ∀ {es : List α} {i : Nat}, x ∈ es.modify i f → x ∈ es ∨ ∃ y, es[i]? = some y ∧ x = f y := by
  intro es
  induction es with
  | nil => intro i h; cases i <;> cases h
  | cons e es ih =>
    intro i h
    cases i with
    | zero =>
      simp only [List.modify_zero_cons, List.mem_cons] at h
      rcases h with rfl | h
      · exact .inr ⟨e, rfl, rfl⟩
      · exact .inl (List.mem_cons_of_mem _ h)
    | succ i =>
      simp only [List.modify_succ_cons, List.mem_cons] at h
      rcases h with rfl | h
      · exact .inl List.mem_cons_self
      · rcases ih h with h | ⟨y, h1, h2⟩
        · exact .inl (List.mem_cons_of_mem _ h)
        · exact .inr ⟨y, by simpa using h1, h2⟩
theorem atK_none' {es : List OE} {k : MK} (h : atK (fun p : OE => p.1.m) es k = none) : ∀ p ∈ es, p.1.m ≠ k := fun p hp e => by
  have := List.findIdx?_eq_none_iff.mp h p hp
  simp only [decide_eq_false_iff_not] at this
  exact this e
theorem getO_self {es : List OE} {p : OE} (h : p ∈ es) : ∃ j q, atK (fun p : OE => p.1.m) es p.1.m = some j ∧ es[j]? = some q ∧ q ∈ es ∧ getO es p.1 = some q.2 := by
  cases e : atK (fun p : OE => p.1.m) es p.1.m with
  | none => exact absurd rfl (atK_none' e p h)
  | some j =>
    obtain ⟨q, h1, h2⟩ := atK_of e
    exact ⟨j, q, rfl, h1, List.mem_of_getElem? h1, by unfold getO; rw [e, Option.bind_some, h1]; rfl⟩
theorem put_mem {es : List OE} {k : Kd} {d : Dat} {p : OE} (h : p ∈ putOE es k d) : p ∈ es ∨ (p.2 = d ∧ (p.1 = k ∨ ∃ q ∈ es, p.1 = q.1)) := by
  unfold putOE putM at h
  split at h
  · rcases mem_modify h with h | ⟨y, h1, rfl⟩
    · exact .inl h
    · exact .inr ⟨rfl, .inr ⟨y, List.mem_of_getElem? h1, rfl⟩⟩
  · rcases List.mem_append.mp h with h | h
    · exact .inl h
    · rw [List.mem_singleton.mp h]
      exact .inr ⟨rfl, .inl rfl⟩
theorem put_len {es : List OE} {k : Kd} {d : Dat} : (putOE es k d).length ≤ es.length + 1 := by
  unfold putOE putM
  split
  · rw [List.length_modify]; omega
  · rw [List.length_append]; exact Nat.le_refl _
theorem put_sum {es : List OE} {k : Kd} {d : Dat} : osum (putOE es k d) ≤ osum es + k.py.bulk + d.pyd.bulk + 2 := by
  unfold putOE putM
  split
  · rename_i j e
    obtain ⟨q, h1, _⟩ := atK_of e
    have := osum_modify (d := d) h1
    omega
  · rw [osum_app]
    simp [osum]
    omega
theorem put_sum' {es : List OE} {k : Kd} {d : Dat} {j : Nat} {q : OE} (e : atK (fun p : OE => p.1.m) es k.m = some j) (h : es[j]? = some q) : osum (putOE es k d) + q.2.pyd.bulk = osum es + d.pyd.bulk := by
  unfold putOE putM
  rw [e]
  exact osum_modify h
theorem put_len' {es : List OE} {k : Kd} {d : Dat} {j : Nat} (e : atK (fun p : OE => p.1.m) es k.m = some j) : (putOE es k d).length = es.length := by
  unfold putOE putM
  rw [e]
  exact List.length_modify ..
theorem out_mem {es : List OE} {k : Kd} {p : OE} (h : p ∈ outOE es k) : p ∈ es := by
  unfold outOE outM at h
  split at h
  · exact List.mem_of_mem_eraseIdx h
  · exact h
theorem out_len {es : List OE} {k : Kd} : (outOE es k).length ≤ es.length := by
  unfold outOE outM
  split
  · exact List.length_eraseIdx_le ..
  · exact Nat.le_refl _
theorem out_sum {es : List OE} {k : Kd} : osum (outOE es k) ≤ osum es := by
  unfold outOE outM
  split
  · exact osum_erase _ _
  · exact Nat.le_refl _
/-- at most one key that is not 0 -/
theorem okC_zero {es : List OE} {k : Kd} (hk : k = .int 0 ∨ k ∈ oddKs) (h : ∀ p ∈ es, p.1 = .int 0 ∨ p.1 = k) : okC (es.map fun p => p.1.m) = true := by
  unfold okC
  rw [Bool.or_eq_true]
  by_cases e : k = .uni
  · right
    rw [List.all_eq_true]
    intro m hm
    obtain ⟨p, hp, rfl⟩ := List.mem_map.mp hm
    rcases h p hp with h | h
    · rw [h]; rfl
    · rw [h, e]; rfl
  · left
    rw [List.all_eq_true]
    intro m hm
    obtain ⟨p, hp, rfl⟩ := List.mem_map.mp hm
    rcases h p hp with h | h
    · rw [h]; rfl
    · rw [h]
      refine decide_eq_true fun z => e ?_
      cases k <;> first | rfl | cases z
theorem keyD_py (k : Key) : EG.keyD k = (keyKd k).py := by cases k <;> rfl
theorem conv_pyd : ∀ es : List (Key × Dat), Dat.pydk es = Dat.pydo (es.map fun p => (keyKd p.1, p.2))
  | [] => by simp [Dat.pydk, Dat.pydo]
  | (k, d) :: es => by
    rw [Dat.pydk, List.map_cons, Dat.pydo, conv_pyd es, keyD_py]
theorem kD_d (k : Key) : kD k = (keyKd k).d := by cases k <;> rfl
end EW
set_option Elab.async false
set_option linter.all false
set_option maxRecDepth 100000
set_option maxHeartbeats 4000000
namespace EW
open PySem PySem.Spec PyProof.Rows L2 EG TL EM
theorem spo_dct {w : World} {j n : Nat} {t : Bool} {es0 : List (Key × Dat)} (ih : ∀ j', j = j' + 1 → Spo w j') (hn : n ≤ 1) (g : G w n (Dat.dct t es0)) (hd : (Dat.dct t es0).pyd.depth ≤ j) (hb : (Dat.dct t es0).pyd.bulk ≤ 10000) {Q : Dat → Prop} (q : ∀ d', G w (n + 1) d' → d'.pyd.depth ≤ (Dat.dct t es0).pyd.depth + 6 → d'.pyd.bulk ≤ 2 * (Dat.dct t es0).pyd.bulk + 60 → Q d') : p_l_spoilt w (j + 1) [.bag, .dat (Dat.dct t es0)] Q := by
  have fin : up (p_l_odd [.bag]) Q := up_in (odd_ok' (w := w) fun d g h1 h2 => q d (g.up (by omega)) (by omega) (by omega))
  obtain ⟨es, hes⟩ : ∃ es : List OE, es = es0.map fun p => (keyKd p.1, p.2) := ⟨_, rfl⟩
  have hks : ∀ p ∈ es, p.1 = .int 0 := fun p hp => by
    rw [hes] at hp
    obtain ⟨q, hq, rfl⟩ := List.mem_map.mp hp
    have h1 : es0.map (·.1) = [] ∨ es0.map (·.1) = [.inl 0] := by cases g; assumption
    have h2 : q.1 ∈ es0.map (·.1) := List.mem_map_of_mem hq
    rcases h1 with h1 | h1
    · rw [h1] at h2; cases h2
    · rw [h1] at h2
      show keyKd q.1 = _
      rw [List.mem_singleton.mp h2]
      rfl
  have hkk : ∀ p ∈ es, p.1 = .int 0 ∨ p.1 ∈ oddKs := fun p hp => .inl (hks p hp)
  have hz : n = 0 → ∀ p ∈ es, p.1 = .int 0 := fun _ => hks
  have hl : es.length ≤ n + 1 := by
    have h1 : es0.map (·.1) = [] ∨ es0.map (·.1) = [.inl 0] := by cases g; assumption
    have h2 : (es0.map (·.1)).length ≤ 1 := by rcases h1 with h1 | h1 <;> rw [h1] <;> simp
    rw [List.length_map] at h2
    rw [hes, List.length_map]
    omega
  have hg : ∀ p ∈ es, G w n p.2 := fun p hp => by
    rw [hes] at hp
    obtain ⟨q, hq, rfl⟩ := List.mem_map.mp hp
    have h1 : ∀ p ∈ es0, G w n p.2 := by cases g; assumption
    exact h1 q hq
  have hoc : okC (es.map fun p => p.1.m) = true := okC_zero (.inl rfl) fun p hp => .inl (hks p hp)
  have hpy : (Dat.dct t es0).pyd = (Dat.odd w t es).pyd := by rw [Dat.pyd, Dat.pyd, conv_pyd, hes]
  rw [hpy] at hd hb q
  have hle : es0.length = es.length := by rw [hes, List.length_map]
  rw [blk_odd] at hb
  simp only [blk_odd] at q
  obtain ⟨j', rfl⟩ : ∃ j', j = j' + 1 := ⟨j - 1, by
    have : 0 < (Dat.odd w t es).pyd.depth := by rw [Dat.pyd, PyData.depth]; omega
    omega⟩
  obtain ⟨m', hm'⟩ : ∃ m', (Dat.odd w t es).pyd.depth = m' + 1 := ⟨(Dat.odd w t es).pyd.depth - 1, by
    have : 0 < (Dat.odd w t es).pyd.depth := by rw [Dat.pyd, PyData.depth]; omega
    omega⟩
  have hda : ∀ p ∈ es, p.2.pyd.depth ≤ m' := dep_odd' (Nat.le_of_eq hm')
  rw [hm'] at hd q
  have big : (1000000 : Nat) ≤ sizeLine := by decide
  have hlen := len_osum es
  have tell : ∀ xs : List OE, (∀ p ∈ xs, p.1 = .int 0 ∨ p.1 ∈ oddKs) → (n = 0 → okC (xs.map fun p => p.1.m) = true) → xs.length ≤ n + 2 → (∀ p ∈ xs, G w (n + 1) p.2) → (∀ p ∈ xs, p.2.pyd.depth ≤ m' + 6) → osum xs ≤ 2 * osum es + 60 → Q (.odd w true xs) := fun xs h1 h2 h3 h4 h5 h6 =>
    q _ (.odd (by omega) (fun e => h2 (by omega)) h1 (by omega) h4) (by have := dep_odd (w := w) (t := true) h5 (by omega); omega) (by rw [blk_odd]; exact h6)
  rw [p_l_spoilt]
  unfold F_l_spoilt
  simp [startE, tyN, isB, lenD]
  refine take_up (by decide) (by decide) fun r r0 r1 => ?_
  simp
  by_cases e0 : es0 = []
  · simpa [e0] using fin
  by_cases er : r = 0
  · simpa [e0, er] using fin
  simp [e0, er]
  have l0 : 0 < es0.length := List.length_pos_iff.mpr e0
  refine take_up (by omega) (by omega) fun a a0 a1 => ?_
  obtain ⟨m, rfl⟩ : ∃ m : Nat, a = m := ⟨a.toNat, by omega⟩
  have hm : m < es.length := by omega
  have hmem : es[m] ∈ es := List.getElem_mem hm
  have i1 : isiD "str" (Dat.dct t es0) = some (.bl false) := rfl
  have i2 : isiD "dict" (Dat.dct t es0) = some (.bl true) := rfl
  have i6 : (es0.map fun p => kD p.1) = es.map fun p => p.1.d := by
    rw [hes, List.map_map]
    exact List.map_congr_left fun p _ => kD_d p.1
  have hat : L2.atI (es.map fun p => p.1.d) (m : Int) = some es[m].1.d := atI_nat (by rw [List.getElem?_map, List.getElem?_eq_getElem hm]; rfl)
  have i7 := kdOf_d es[m].1
  obtain ⟨jj, p, hj, hp, hpm, hget⟩ := getO_self hmem
  simp [i1, i2]
  refine .inl ⟨t, es0, rfl, ?_⟩
  rw [← hes]
  dsimp only
  rw [i6, hat, of_some_ap]
  have oa : ∀ (E : Env') (i : Nat) (Q' : List OE → Prop), E[i]? = some (.own (.odd w true es)) → Q' es → oddAt w E i Q' := fun E i Q' e h => ⟨es, e, h⟩
  by_cases e1 : r = 1
  · simp [e1]
    refine oa _ _ _ rfl ?_
    rw [i7, of_some_ap]
    refine ⟨by rw [hget]; rfl, ?_⟩
    refine tell _ (fun p hp => hkk p (out_mem hp)) (fun z => okC_zero (.inl rfl) fun p hp => .inl (hz z p (out_mem hp))) (by have := out_len (es := es) (k := es[m].1); omega) (fun p hp => (hg p (out_mem hp)).up (by omega)) (fun p hp => by have := hda p (out_mem hp); omega) ?_
    have := out_sum (es := es) (k := es[m].1)
    omega
  by_cases e2 : r = 2
  · simp [e2]
    have m1 : ∀ xs : List Dat, xs.length ≤ 20 → mkL xs = some (.lst true xs) := fun xs h => by
      unfold mkL
      rw [if_pos (by omega)]
    rw [show mkT [] = some (.tup []) from rfl, of_some_ap, m1 _ (by decide), of_some_ap]
    refine oa _ _ _ rfl (oa _ _ _ rfl ?_)
    rw [i7, Option.bind_some, hget, of_some_ap]
    refine take_up (by decide) (by decide) fun b b0 b1 => ?_
    have hks : ∃ k, k ∈ oddKs ∧ L2.atI (oddKs.map Kd.d) b = some k.d := by
      obtain ⟨c, rfl⟩ : ∃ c : Nat, b = c := ⟨b.toNat, by omega⟩
      have hc : c < oddKs.length := by show c < 10; omega
      exact ⟨oddKs[c], List.getElem_mem hc, atI_nat (by rw [List.getElem?_map, List.getElem?_eq_getElem hc]; rfl)⟩
    obtain ⟨k, hk, hkat⟩ := hks
    rw [ixD_lst]
    have go : ∀ xs : List Dat, xs = oddKs.map Kd.d → W.of (L2.atI xs b) fun kd => W.of (kdOf kd) fun key => es.length < sizeLine ∧ Q (Dat.odd w true (putOE es key p.2)) := fun xs e => by
      rw [e, hkat, of_some_ap, kdOf_d, of_some_ap]
      refine ⟨by omega, ?_⟩
      have hbp := osum_mem hpm
      refine tell _ (fun x hx => ?_) (fun z => okC_zero (k := k) (.inr hk) fun x hx => ?_) (by have := put_len (es := es) (k := k) (d := p.2); omega) (fun x hx => ?_) (fun x hx => ?_) ?_
      · rcases put_mem hx with h | ⟨_, h | ⟨y, hy, h⟩⟩
        · exact hkk x h
        · rw [h]; exact .inr hk
        · rw [h]; exact hkk y hy
      · rcases put_mem hx with h | ⟨_, h | ⟨y, hy, h⟩⟩
        · exact .inl (hz z x h)
        · exact .inr h
        · rw [h]; exact .inl (hz z y hy)
      · rcases put_mem hx with h | ⟨h, _⟩
        · exact (hg x h).up (by omega)
        · rw [h]; exact (hg p hpm).up (by omega)
      · rcases put_mem hx with h | ⟨h, _⟩
        · have := hda x h; omega
        · rw [h]; have := hda p hpm; omega
      · have h1 := put_sum (es := es) (k := k) (d := p.2)
        have h2 := (kd_ok (k := k) (.inr hk)).2.2
        omega
    exact go _ rfl
  · simp [e1, e2]
    refine oa _ _ _ rfl (oa _ _ _ rfl ?_)
    rw [i7, Option.bind_some, hget, of_some_ap]
    have go := (hg p hpm).old
    have ho : p.2.old.pyd = p.2.pyd := go.2
    have hbp := osum_mem hpm
    refine up_in (ih j' rfl n _ hn go.1 (by rw [ho]; have := hda p hpm; omega) (by rw [ho]; omega) _ fun d' g' h1 h2 => ?_)
    rw [ho] at h1 h2
    have hdm := hda p hpm
    rw [of_some_ap]
    refine ⟨by omega, ?_⟩
    refine tell _ (fun x hx => ?_) (fun z => okC_zero (.inl rfl) fun x hx => ?_) (by have := put_len' (d := d') hj; omega) (fun x hx => ?_) (fun x hx => ?_) ?_
    · rcases put_mem hx with h | ⟨_, h | ⟨y, hy, h⟩⟩
      · exact hkk x h
      · rw [h]; exact hkk _ hmem
      · rw [h]; exact hkk y hy
    · rcases put_mem hx with h | ⟨_, h | ⟨y, hy, h⟩⟩
      · exact .inl (hz z x h)
      · rw [h]; exact .inl (hz z _ hmem)
      · rw [h]; exact .inl (hz z y hy)
    · rcases put_mem hx with h | ⟨h, _⟩
      · exact (hg x h).up (by omega)
      · rw [h]; exact g'
    · rcases put_mem hx with h | ⟨h, _⟩
      · have := hda x h; omega
      · rw [h]; omega
    · have h3 := put_sum' (d := d') hj hp
      omega
theorem spo_odd {w : World} {j n : Nat} {t : Bool} {es : List OE} (ih : ∀ j', j = j' + 1 → Spo w j') (hn : n ≤ 1) (g : G w n (Dat.odd w t es)) (hd : (Dat.odd w t es).pyd.depth ≤ j) (hb : (Dat.odd w t es).pyd.bulk ≤ 10000) {Q : Dat → Prop} (q : ∀ d', G w (n + 1) d' → d'.pyd.depth ≤ (Dat.odd w t es).pyd.depth + 6 → d'.pyd.bulk ≤ 2 * (Dat.odd w t es).pyd.bulk + 60 → Q d') : p_l_spoilt w (j + 1) [.bag, .dat (Dat.odd w t es)] Q := by
  have fin : up (p_l_odd [.bag]) Q := up_in (odd_ok' (w := w) fun d g h1 h2 => q d (g.up (by omega)) (by omega) (by omega))
  have hkk : ∀ p ∈ es, p.1 = .int 0 ∨ p.1 ∈ oddKs := by cases g; assumption
  have h1n : 1 ≤ n := by cases g; assumption
  have hz : n = 0 → ∀ p ∈ es, p.1 = .int 0 := fun z => by omega
  have hl : es.length ≤ n + 1 := by cases g; assumption
  have hg : ∀ p ∈ es, G w n p.2 := by cases g; assumption
  have hoc : okC (es.map fun p => p.1.m) = true := by
    have : n = 1 → okC (es.map fun p => p.1.m) = true := by cases g; assumption
    exact this (by omega)
  rw [blk_odd] at hb
  simp only [blk_odd] at q
  obtain ⟨j', rfl⟩ : ∃ j', j = j' + 1 := ⟨j - 1, by
    have : 0 < (Dat.odd w t es).pyd.depth := by rw [Dat.pyd, PyData.depth]; omega
    omega⟩
  obtain ⟨m', hm'⟩ : ∃ m', (Dat.odd w t es).pyd.depth = m' + 1 := ⟨(Dat.odd w t es).pyd.depth - 1, by
    have : 0 < (Dat.odd w t es).pyd.depth := by rw [Dat.pyd, PyData.depth]; omega
    omega⟩
  have hda : ∀ p ∈ es, p.2.pyd.depth ≤ m' := dep_odd' (Nat.le_of_eq hm')
  rw [hm'] at hd q
  have big : (1000000 : Nat) ≤ sizeLine := by decide
  have hlen := len_osum es
  have tell : ∀ xs : List OE, (∀ p ∈ xs, p.1 = .int 0 ∨ p.1 ∈ oddKs) → (n = 0 → okC (xs.map fun p => p.1.m) = true) → xs.length ≤ n + 2 → (∀ p ∈ xs, G w (n + 1) p.2) → (∀ p ∈ xs, p.2.pyd.depth ≤ m' + 6) → osum xs ≤ 2 * osum es + 60 → Q (.odd w true xs) := fun xs h1 h2 h3 h4 h5 h6 =>
    q _ (.odd (by omega) (fun e => h2 (by omega)) h1 (by omega) h4) (by have := dep_odd (w := w) (t := true) h5 (by omega); omega) (by rw [blk_odd]; exact h6)
  rw [p_l_spoilt]
  unfold F_l_spoilt
  simp [startE, tyN, isB, lenD]
  refine take_up (by decide) (by decide) fun r r0 r1 => ?_
  simp
  by_cases e0 : es = []
  · simpa [e0] using fin
  by_cases er : r = 0
  · simpa [e0, er] using fin
  simp [e0, er]
  have l0 : 0 < es.length := List.length_pos_iff.mpr e0
  refine take_up (by omega) (by omega) fun a a0 a1 => ?_
  obtain ⟨m, rfl⟩ : ∃ m : Nat, a = m := ⟨a.toNat, by omega⟩
  have hm : m < es.length := by omega
  have hmem : es[m] ∈ es := List.getElem_mem hm
  have i1 : isiD "str" (Dat.odd w t es) = some (.bl false) := rfl
  have i2 : isiD "dict" (Dat.odd w t es) = some (.bl true) := rfl
  have i6 : listG [.odd w t es] = some (.lst true (es.map fun p => p.1.d)) := rfl
  have hat : L2.atI (es.map fun p => p.1.d) (m : Int) = some es[m].1.d := atI_nat (by rw [List.getElem?_map, List.getElem?_eq_getElem hm]; rfl)
  have i7 := kdOf_d es[m].1
  obtain ⟨jj, p, hj, hp, hpm, hget⟩ := getO_self hmem
  simp [i1, i2]
  refine .inr ⟨t, es, rfl, hoc, ?_⟩
  dsimp only
  rw [i6, of_some_ap, ixD_lst, hat, of_some_ap]
  have oa : ∀ (E : Env') (i : Nat) (Q' : List OE → Prop), E[i]? = some (.own (.odd w true es)) → Q' es → oddAt w E i Q' := fun E i Q' e h => ⟨es, e, h⟩
  by_cases e1 : r = 1
  · simp [e1]
    refine oa _ _ _ rfl ?_
    rw [i7, of_some_ap]
    refine ⟨by rw [hget]; rfl, ?_⟩
    refine tell _ (fun p hp => hkk p (out_mem hp)) (fun z => okC_zero (.inl rfl) fun p hp => .inl (hz z p (out_mem hp))) (by have := out_len (es := es) (k := es[m].1); omega) (fun p hp => (hg p (out_mem hp)).up (by omega)) (fun p hp => by have := hda p (out_mem hp); omega) ?_
    have := out_sum (es := es) (k := es[m].1)
    omega
  by_cases e2 : r = 2
  · simp [e2]
    have m1 : ∀ xs : List Dat, xs.length ≤ 20 → mkL xs = some (.lst true xs) := fun xs h => by
      unfold mkL
      rw [if_pos (by omega)]
    rw [show mkT [] = some (.tup []) from rfl, of_some_ap, m1 _ (by decide), of_some_ap]
    refine oa _ _ _ rfl (oa _ _ _ rfl ?_)
    rw [i7, Option.bind_some, hget, of_some_ap]
    refine take_up (by decide) (by decide) fun b b0 b1 => ?_
    have hks : ∃ k, k ∈ oddKs ∧ L2.atI (oddKs.map Kd.d) b = some k.d := by
      obtain ⟨c, rfl⟩ : ∃ c : Nat, b = c := ⟨b.toNat, by omega⟩
      have hc : c < oddKs.length := by show c < 10; omega
      exact ⟨oddKs[c], List.getElem_mem hc, atI_nat (by rw [List.getElem?_map, List.getElem?_eq_getElem hc]; rfl)⟩
    obtain ⟨k, hk, hkat⟩ := hks
    rw [ixD_lst]
    have go : ∀ xs : List Dat, xs = oddKs.map Kd.d → W.of (L2.atI xs b) fun kd => W.of (kdOf kd) fun key => es.length < sizeLine ∧ Q (Dat.odd w true (putOE es key p.2)) := fun xs e => by
      rw [e, hkat, of_some_ap, kdOf_d, of_some_ap]
      refine ⟨by omega, ?_⟩
      have hbp := osum_mem hpm
      refine tell _ (fun x hx => ?_) (fun z => okC_zero (k := k) (.inr hk) fun x hx => ?_) (by have := put_len (es := es) (k := k) (d := p.2); omega) (fun x hx => ?_) (fun x hx => ?_) ?_
      · rcases put_mem hx with h | ⟨_, h | ⟨y, hy, h⟩⟩
        · exact hkk x h
        · rw [h]; exact .inr hk
        · rw [h]; exact hkk y hy
      · rcases put_mem hx with h | ⟨_, h | ⟨y, hy, h⟩⟩
        · exact .inl (hz z x h)
        · exact .inr h
        · rw [h]; exact .inl (hz z y hy)
      · rcases put_mem hx with h | ⟨h, _⟩
        · exact (hg x h).up (by omega)
        · rw [h]; exact (hg p hpm).up (by omega)
      · rcases put_mem hx with h | ⟨h, _⟩
        · have := hda x h; omega
        · rw [h]; have := hda p hpm; omega
      · have h1 := put_sum (es := es) (k := k) (d := p.2)
        have h2 := (kd_ok (k := k) (.inr hk)).2.2
        omega
    exact go _ rfl
  · simp [e1, e2]
    refine oa _ _ _ rfl (oa _ _ _ rfl ?_)
    rw [i7, Option.bind_some, hget, of_some_ap]
    have go := (hg p hpm).old
    have ho : p.2.old.pyd = p.2.pyd := go.2
    have hbp := osum_mem hpm
    refine up_in (ih j' rfl n _ hn go.1 (by rw [ho]; have := hda p hpm; omega) (by rw [ho]; omega) _ fun d' g' h1 h2 => ?_)
    rw [ho] at h1 h2
    have hdm := hda p hpm
    rw [of_some_ap]
    refine ⟨by omega, ?_⟩
    refine tell _ (fun x hx => ?_) (fun z => okC_zero (.inl rfl) fun x hx => ?_) (by have := put_len' (d := d') hj; omega) (fun x hx => ?_) (fun x hx => ?_) ?_
    · rcases put_mem hx with h | ⟨_, h | ⟨y, hy, h⟩⟩
      · exact hkk x h
      · rw [h]; exact hkk _ hmem
      · rw [h]; exact hkk y hy
    · rcases put_mem hx with h | ⟨_, h | ⟨y, hy, h⟩⟩
      · exact .inl (hz z x h)
      · rw [h]; exact .inl (hz z _ hmem)
      · rw [h]; exact .inl (hz z y hy)
    · rcases put_mem hx with h | ⟨h, _⟩
      · exact (hg x h).up (by omega)
      · rw [h]; exact g'
    · rcases put_mem hx with h | ⟨h, _⟩
      · have := hda x h; omega
      · rw [h]; omega
    · have h3 := put_sum' (d := d') hj hp
      omega
theorem spo_all (w : World) : ∀ j, Spo w j := by
  intro j
  induction j with
  | zero =>
    intro n d hn g hd hb Q q
    have no : ∀ j', 0 = j' + 1 → Spo w j' := fun j' z => nomatch z
    cases g with
    | non => exact spo_flat (.inl rfl) q
    | bl b => exact spo_flat (.inr (.inl ⟨_, rfl⟩)) q
    | int h => exact spo_flat (.inr (.inr ⟨_, rfl⟩)) q
    | str h1 h2 => exact spo_str hn (.str h1 h2) q
    | lst h => exact spo_lst no hn (.lst h) hd hb q
    | tup h => exact spo_tup no hn (.tup h) hd hb q
    | dct h1 h2 => exact spo_dct no hn (.dct h1 h2) hd hb q
    | odd h1 h2 h3 h4 h5 => exact spo_odd no hn (.odd h1 h2 h3 h4 h5) hd hb q
  | succ j ih =>
    intro n d hn g hd hb Q q
    have no : ∀ j', j + 1 = j' + 1 → Spo w j' := fun j' z => by
      have : j = j' := by omega
      rw [← this]
      exact ih
    cases g with
    | non => exact spo_flat (.inl rfl) q
    | bl b => exact spo_flat (.inr (.inl ⟨_, rfl⟩)) q
    | int h => exact spo_flat (.inr (.inr ⟨_, rfl⟩)) q
    | str h1 h2 => exact spo_str hn (.str h1 h2) q
    | lst h => exact spo_lst no hn (.lst h) hd hb q
    | tup h => exact spo_tup no hn (.tup h) hd hb q
    | dct h1 h2 => exact spo_dct no hn (.dct h1 h2) hd hb q
    | odd h1 h2 h3 h4 h5 => exact spo_odd no hn (.odd h1 h2 h3 h4 h5) hd hb q
end EW
set_option Elab.async false
set_option linter.all false
set_option maxRecDepth 100000
set_option maxHeartbeats 4000000
namespace EW
open PySem PySem.Spec PyProof.Rows L2 EG TL EM
theorem eq_nilL {k : Nat} {a b : Bool} {ds : List Dat} (h : ∀ d ∈ ds, DeepN k d) (hk : k ≤ 60 := by decide) : eqKD (.lst a ds) (.lst b []) = some (.bl ds.isEmpty) := by
  show (eqB _ _).map Dat.bl = _
  unfold eqB
  rw [if_neg (by show ¬ (false = true); decide), if_pos ⟨(DeepN.lst h).ok (by omega), (DeepN.lst (k := 0) fun d hd => absurd hd List.not_mem_nil).ok (by decide)⟩]
  cases ds <;> simp [Dat.py, Dat.pys, PyData.eqv, PyData.eqvAll]
theorem DeepN.str {k : Nat} {x : Str} (h : PyData.strOk x = true) : DeepN k (.str x) := ⟨by simp [Dat.plain], by simp [Dat.py, PyData.canLay0, h], by simp [Dat.py, PyData.depth]⟩
/-- the first sign is a plus -/
def plusB (x : Str) : Bool := decide (x.cps.toList.head? = some 43)
theorem sw_plus (x : Str) : Txt.startswith x "+" = plusB x := by
  obtain ⟨⟨cs⟩⟩ := x
  cases cs with
  | nil => rfl
  | cons c cs =>
    unfold plusB Txt.startswith
    have e1 : (Array.mk (c :: cs)).extract 0 (0 + 1) = #[c] := by
      apply Array.ext'
      simp
    show (decide (0 + 1 ≤ cs.length + 1) && ((Array.mk (c :: cs)).extract 0 (0 + 1) == #[43])) = decide (some c = some 43)
    rw [e1, decide_eq_true (by omega), Bool.true_and]
    by_cases z : c = 43
    · subst z; rfl
    · rw [decide_eq_false (fun q => z (by injection q))]
      have : (#[c] == #[43]) = (c == 43) := by simp
      rw [this]
      exact beq_eq_false_iff_ne.mpr z
theorem cut_plus (x : Str) : decide (cutS x none (some 1) = "+") = plusB x := by
  obtain ⟨⟨cs⟩⟩ := x
  cases cs with
  | nil => rfl
  | cons c cs =>
    unfold plusB cutS
    have e1 : HT.sIx (Str.length ⟨⟨c :: cs⟩⟩) (Str.length ⟨⟨c :: cs⟩⟩) (some 1) = 1 := by
      rw [show (1 : Int) = ((1 : Nat) : Int) from rfl, HT.sIx_nat]
      show min 1 (cs.length + 1) = 1
      omega
    rw [e1]
    show decide ((⟨#[c]⟩ : Str) = ⟨#[43]⟩) = decide (some c = some 43)
    by_cases z : c = 43
    · subst z; rfl
    · rw [decide_eq_false (fun q => z (by injection q with q; injection q with q; injection q)), decide_eq_false (fun q => z (by injection q))]
theorem plus_no {x : Str} (h : plusB x = true) : nameB x = false := by
  cases e : nameB x with
  | false => rfl
  | true =>
    exfalso
    unfold nameB at e
    rw [Bool.and_eq_true] at e
    have := of_decide_eq_true h
    have hm : (43 : Nat) ∈ x.cps.toList := by
      cases hh : x.cps.toList with
      | nil => rw [hh] at this; cases this
      | cons c cs =>
        rw [hh] at this
        injection this with this
        rw [this]
        exact List.mem_cons_self
    have h2 := of_decide_eq_true (List.all_eq_true.mp e.2 43 hm)
    revert h2
    decide +kernel
def strsOk (x : Str) : Prop := x.length ≤ 1000 ∧ ∀ c ∈ x.cps.toList, c < 128
theorem is_name_no {d : Dat} (h : isiD "str" d = some (.bl false)) {Q : Dat → Prop} (q : Q (.bl false)) : p_is_name [.dat d] Q := by
  unfold p_is_name F_is_name
  simp [startE, h]
  exact q
theorem is_new_no {d : Dat} (h : isiD "str" d = some (.bl false)) {Q : Dat → Prop} (q : Q (.bl false)) : p_is_new_id [.dat d] Q := by
  unfold p_is_new_id F_is_new_id
  simp [startE, h]
  exact q
theorem is_id_no {d : Dat} (h : isiD "str" d = some (.bl false)) (h' : isiD "str" d.old = some (.bl false)) {Q : Dat → Prop} (q : Q (.bl false)) : p_is_id [.dat d] Q := by
  unfold p_is_id F_is_id
  simp [startE]
  refine up_in (is_name_no h' ?_)
  simp
  exact up_in (is_new_no h' q)
theorem is_tag_no {d : Dat} (h : isiD "str" d = some (.bl false)) (h' : isiD "str" d.old = some (.bl false)) {Q : Dat → Prop} (q : Q (.bl false)) : p_is_tag_name [.dat d] Q := by
  unfold p_is_tag_name F_is_tag_name
  simp [startE]
  refine up_in (is_name_no h' ?_)
  simp [h]
  exact q
theorem is_mode_no {d : Dat} (h : isiD "str" d = some (.bl false)) {Q : Dat → Prop} (q : Q (.bl false)) : p_is_mode [.dat d] Q := by
  unfold p_is_mode F_is_mode
  simp [startE, h]
  exact q
theorem l_name_no {d : Dat} (h : isiD "str" d = some (.bl false)) {Q : Dat → Prop} (q : Q (.bl false)) : p_l_is_name [.dat d] Q := by
  unfold p_l_is_name F_l_is_name
  simp [startE, h]
  exact q
theorem l_id_no {d : Dat} (h : isiD "str" d = some (.bl false)) (h' : isiD "str" d.old = some (.bl false)) {Q : Dat → Prop} (q : Q (.bl false)) : p_l_is_id [.dat d] Q := by
  unfold p_l_is_id F_l_is_id
  simp [startE]
  refine up_in (l_name_no h' ?_)
  simp [h]
  exact q
theorem l_tag_no {d : Dat} (h : isiD "str" d = some (.bl false)) (h' : isiD "str" d.old = some (.bl false)) {Q : Dat → Prop} (q : Q (.bl false)) : p_l_is_tag_name [.dat d] Q := by
  unfold p_l_is_tag_name F_l_is_tag_name
  simp [startE, h]
  exact up_in (l_name_no h' q)
def intB : Dat → Bool
  | .int _ => true
  | _ => false
theorem is_int_ok {d : Dat} (h : ∃ n, tyN d = some n ∧ n ∈ tyNames) {Q : Dat → Prop} (q : Q (.bl (intB d))) : p_is_integer [.dat d] Q := by
  unfold p_is_integer F_is_integer
  obtain ⟨n, e, hm⟩ := h
  cases d <;> cases e <;> simp [startE, isiD, tyN, isB] <;> exact q
end EW
set_option Elab.async false
set_option linter.all false
set_option maxRecDepth 100000
set_option maxHeartbeats 4000000
namespace EW
open PySem PySem.Spec PyProof.Rows L2 EG TL EM
theorem one_ok {c : Nat} (h : c < 128) : PyData.strOk ⟨#[c]⟩ = true := by
  unfold PyData.strOk
  simp
  omega
theorem lets_eq : (Str.ofString "abcdefghijklmnopqrstuvwxyz") = lets := rfl
theorem l_name_str {x : Str} {Q : Dat → Prop} (hx : strsOk x) (q : Q (.bl (nameB x))) : p_l_is_name [.dat (.str x)] Q := by
  have big : (1000000 : Nat) ≤ sizeLine := by decide
  have hl : x.length ≤ sizeLine := by have := hx.1; omega
  unfold p_l_is_name F_l_is_name
  simp [startE, isiD, tyN, isB, lenD, hl]
  cases c1 : decide (1 ≤ (x.length : Int)) with
  | false =>
    have e : nameB x = false := by
      unfold nameB
      rw [c1]
      rfl
    rw [e] at q
    simpa using q
  | true =>
    simp
    cases c2 : decide ((x.length : Int) ≤ 8) with
    | false =>
      have e : nameB x = false := by
        unfold nameB
        rw [c1, c2]
        rfl
      rw [e] at q
      have c2' := of_decide_eq_false c2
      rw [if_neg c2']
      exact q
    | true =>
      have e : nameB x = x.cps.toList.all fun c => decide (c ∈ lets.cps.toList) := by
        unfold nameB
        rw [c1, c2]
        rfl
      have c2' := of_decide_eq_true c2
      simp [c2']
      rw [few_of (by rw [List.length_map, Array.length_toList]; exact hl)]
      simp
      refine lc_filterL (fun c => !decide (c ∈ lets.cps.toList)) (fun c : Nat => Dat.str ⟨#[c]⟩) (fun c : Nat => Dat.str ⟨#[c]⟩) x.cps.toList [] (fun c hc => ⟨_, rfl, fun P hP => ?_, fun _ P hP => ?_⟩) ?_
      · simp [wipeE]
        rw [lets_eq]
        simpa [ninD, inB] using hP
      · simpa [wipeE] using hP
      · rw [List.nil_append, eq_nilL (k := 0) (fun d hd => by
          obtain ⟨c, hc, rfl⟩ := List.mem_map.mp hd
          exact .str (one_ok (hx.2 c (List.mem_filter.mp hc).1))), of_some_ap]
        rw [e] at q
        have e2 : ((x.cps.toList.filter fun c => !decide (c ∈ lets.cps.toList)).map fun c : Nat => Dat.str ⟨#[c]⟩).isEmpty = x.cps.toList.all fun c => decide (c ∈ lets.cps.toList) := by
          generalize x.cps.toList = cs
          induction cs with
          | nil => rfl
          | cons c cs ih =>
            rw [List.filter_cons, List.all_cons, ← ih]
            cases decide (c ∈ lets.cps.toList) <;> simp
        rw [e2]
        exact q
def sliceOk {x : Str} (hx : strsOk x) : strsOk (rest1 x) := ⟨Nat.le_trans (rest1_len x) hx.1, fun c hc => hx.2 c (cut_mem hc)⟩
theorem sl_lo {x : Str} (hx : strsOk x) : slD (.str x) none (some 1) = some (.str (cutS x none (some 1))) := by
  have big : (1000000 : Nat) ≤ sizeLine := by decide
  simp only [slD]
  rw [if_pos (by have := hx.1; omega)]
theorem sl_hi {x : Str} (hx : strsOk x) : slD (.str x) (some 1) none = some (.str (rest1 x)) := by
  have big : (1000000 : Nat) ≤ sizeLine := by decide
  simp only [slD]
  rw [if_pos (by have := hx.1; omega)]
  rfl
theorem newB_eq (x : Str) : newB x = (plusB x && nameB (rest1 x)) := by
  unfold newB
  rw [sw_plus]
theorem l_id_str {x : Str} {Q : Dat → Prop} (hx : strsOk x) (q : Q (.bl (idB x))) : p_l_is_id [.dat (.str x)] Q := by
  unfold p_l_is_id F_l_is_id
  simp [startE]
  refine up_in (l_name_str hx ?_)
  unfold idB at q
  rw [newB_eq] at q
  simp
  cases e : nameB x with
  | true =>
    rw [e] at q
    simpa using q
  | false =>
    rw [e] at q
    simp
    rw [sl_lo hx, of_some_ap, eqKD_str, cut_plus, of_some_ap]
    cases e1 : plusB x with
    | false =>
      rw [e1] at q
      simpa using q
    | true =>
      rw [e1] at q
      simp
      rw [sl_hi hx, of_some_ap]
      simp
      exact up_in (l_name_str (sliceOk hx) (by simpa using q))
theorem sub_mem {x : Str} {i j c : Nat} (h : c ∈ (Builtin.Str.strSub x i j).cps.toList) : c ∈ x.cps.toList := by
  have : (Builtin.Str.strSub x i j).cps.toList = (x.cps.extract i j).toList := rfl
  rw [this, Array.toList_extract] at h
  exact List.mem_of_mem_drop (List.mem_of_mem_take h)
theorem parts_mem (x y : Str) : ∀ p ∈ Txt.split x y, ∀ c ∈ p.cps.toList, c ∈ x.cps.toList := by
  intro p hp
  unfold Txt.split at hp
  split at hp
  · rw [List.mem_singleton.mp hp]
    exact fun c h => h
  · split at hp
    · rw [List.mem_singleton.mp hp]
      exact fun c h => h
    · unfold Builtin.Str.partsBetween at hp
      simp only [List.mem_map] at hp
      obtain ⟨q, _, rfl⟩ := hp
      exact fun c h => sub_mem h
theorem l_tag_str {x : Str} {Q : Dat → Prop} (hx : strsOk x) (q : Q (.bl (tagB x))) : p_l_is_tag_name [.dat (.str x)] Q := by
  have big : (1000000 : Nat) + 2 ≤ sizeLine := by decide
  unfold p_l_is_tag_name F_l_is_tag_name
  simp [startE, isiD, tyN, isB]
  rw [sl_lo hx, of_some_ap, neKD_str, cut_plus, Option.bind_some, toB_bl, of_some_ap]
  unfold tagB at q
  rw [sw_plus] at q
  cases e1 : plusB x with
  | false =>
    rw [e1] at q
    simp
    exact up_in (l_name_str hx (by simpa using q))
  | true =>
    rw [e1, plus_no e1] at q
    simp
    rw [sl_hi hx, of_some_ap]
    have hsp : splitD (.str (rest1 x)) [.str "."] = some (.lst true ((Txt.split (rest1 x) ".").map .str)) := by
      simp only [splitD]
      rw [if_pos ⟨by decide, by have := rest1_len x; have := hx.1; omega⟩]
    have hsp' : splitD (.str (rest1 x)) [.str (Str.ofString ".")] = some (.lst true ((Txt.split (rest1 x) ".").map .str)) := hsp
    simp [hsp']
    have hpl := parts_len (rest1 x) "."
    have hpm := parts_mem (rest1 x) "."
    have hr := sliceOk hx
    have hok : ∀ p ∈ Txt.split (rest1 x) ".", strsOk p := fun p hp => ⟨Nat.le_trans (hpl p hp) hr.1, fun c hc => hr.2 c (hpm p hp c hc)⟩
    unfold tagP at q
    clear hpl hpm hsp hsp'
    generalize Txt.split (rest1 x) "." = ps at q hok
    match ps, q, hok with
    | [a, b], q, hok =>
      have ha := hok a List.mem_cons_self
      have hb := hok b (List.mem_cons_of_mem _ List.mem_cons_self)
      have e0 : atI [Dat.str a, Dat.str b] 0 = some (.str a) := rfl
      have e1 : atI [Dat.str a, Dat.str b] 1 = some (.str b) := rfl
      simp [lenD, e0, e1]
      refine up_in (l_name_str ha ?_)
      simp at q
      cases e2 : nameB a with
      | false =>
        rw [e2] at q
        simpa using q
      | true =>
        rw [e2] at q
        simp
        exact up_in (l_name_str hb (by simpa using q))
    | [], q, _ => simpa [lenD] using q
    | [a], q, _ => simpa [lenD] using q
    | a :: b :: c :: r, q, _ =>
      have : ¬ ((r.length : Int) + 1 + 1 + 1 = 2) := by omega
      simp [lenD, this]
      simpa using q
def modeB (x : Str) : Bool := [Dat.str (Str.ofString "each"), .str (Str.ofString "now"), .str (Str.ofString "late")].any fun y => eqF y (.str x)
theorem mode_tup {x : Str} : inD (.str x) modesD = some (.bl (modeB x)) := rfl
theorem mode_lst {x : Str} {t : Bool} : inD (.str x) (.lst t [.str (Str.ofString "each"), .str (Str.ofString "now"), .str (Str.ofString "late")]) = some (.bl (modeB x)) := rfl
theorem is_mode_str {x : Str} {Q : Dat → Prop} (q : Q (.bl (modeB x))) : p_is_mode [.dat (.str x)] Q := by
  unfold p_is_mode F_is_mode
  simp [startE, mode_tup]
  exact q
def duesL : Dat → List Bool
  | .str x => [false, nameB x, idB x, newB x, tagB x, modeB x]
  | d => [intB d, false, false, false, false, false]
theorem G.ty {w : World} {n : Nat} {d : Dat} (g : G w n d) : ∃ m, tyN d = some m ∧ m ∈ tyNames := by
  cases g <;> exact ⟨_, rfl, by decide⟩
theorem G.cases_str {w : World} {n : Nat} {d : Dat} (hn : n ≤ 2) (g : G w n d) : (∃ x, d = .str x ∧ strsOk x) ∨ (isiD "str" d = some (.bl false) ∧ isiD "str" d.old = some (.bl false) ∧ duesL d = [intB d, false, false, false, false, false]) := by
  cases g with
  | str h1 h2 => exact .inl ⟨_, rfl, by omega, h2⟩
  | _ => right; refine ⟨rfl, ?_, rfl⟩; simp only [Dat.old]; rfl
theorem dues_ok {w : World} {n : Nat} {d : Dat} (hn : n ≤ 2) (g : G w n d) {Q : Dat → Prop} (q : Q (.lst true ((duesL d).map .bl))) : p_l_dues [.dat d] Q := by
  rcases g.cases_str hn with ⟨x, rfl, hx⟩ | ⟨h1, h2, h3⟩
  · unfold p_l_dues F_l_dues
    simp [startE, isiD, tyN, isB]
    rw [sl_lo hx, of_some_ap, eqKD_str, cut_plus, of_some_ap]
    have big : (1000000 : Nat) ≤ sizeLine := by decide
    have rest : (fun d : Dat => W.of (inD (Dat.str x) (Dat.lst true [Dat.str (Str.ofString "each"), Dat.str (Str.ofString "now"), Dat.str (Str.ofString "late")])) fun d_1 =>
        up (p_l_is_name [Ar.dat (Dat.str x)]) fun a => up (p_l_is_id [Ar.dat (Dat.str x)]) fun a_1 => up (p_l_is_tag_name [Ar.dat (Dat.str x)]) fun a_2 =>
          W.of (mkL [Dat.bl false, a, a_1, d, a_2, d_1]) fun d => Q d) (.bl (newB x)) := by
      dsimp only
      rw [mode_lst, of_some_ap]
      refine up_in (l_name_str hx (up_in (l_id_str hx (up_in (l_tag_str hx ?_)))))
      unfold mkL
      rw [if_pos (by show 6 ≤ sizeLine; omega), of_some_ap]
      exact q
    rw [toB_bl, of_some_ap]
    rw [newB_eq] at rest
    cases e1 : plusB x with
    | false =>
      rw [e1] at rest
      simpa using rest
    | true =>
      rw [e1] at rest
      simp only [Bool.true_and] at rest
      simp
      rw [sl_hi hx, of_some_ap]
      simp
      exact up_in (l_name_str (sliceOk hx) rest)
  · rw [h3] at q
    obtain ⟨m, e, hm⟩ := g.ty
    have big : (1000000 : Nat) ≤ sizeLine := by decide
    have hi : ∃ b1 b2, isiD "int" d = some (.bl b1) ∧ isiD "bool" d = some (.bl b2) ∧ intB d = (b1 && !b2) := by
      cases d <;> cases e <;> exact ⟨_, _, rfl, rfl, rfl⟩
    obtain ⟨b1, b2, i1, i2, i3⟩ := hi
    unfold p_l_dues F_l_dues
    simp [startE, h1, i1, i2]
    rw [i3] at q
    have key : ∀ b : Bool, Q (.lst true ([b, false, false, false, false, false].map .bl)) → up (p_l_is_name [Ar.dat d.old]) fun a => up (p_l_is_id [Ar.dat d.old]) fun a_1 => up (p_l_is_tag_name [Ar.dat d.old]) fun a_2 => W.of (mkL [Dat.bl b, a, a_1, .bl false, a_2, .bl false]) fun d => Q d := fun b q => by
      have h2' : isiD "str" d.old.old = some (.bl false) := by rw [dold2]; exact h2
      refine up_in (l_name_no h2 (up_in (l_id_no h2 h2' (up_in (l_tag_no h2 h2' ?_)))))
      unfold mkL
      rw [if_pos (by show 6 ≤ sizeLine; omega), of_some_ap]
      exact q
    cases b1 with
    | false => simpa using key false (by simpa using q)
    | true =>
      simp [i2]
      exact key (!b2) (by simpa using q)
/-- what the package's questions tell -/
theorem told_ok {w : World} {n : Nat} {d : Dat} (hn : n ≤ 2) (g : G w n d) {Q : Dat → Prop} (q : Q (.lst true ((duesL d).map .bl))) :
    up (p_is_integer [Ar.dat d]) fun a => up (p_is_name [Ar.dat d]) fun a_1 => up (p_is_id [Ar.dat d]) fun a_2 => up (p_is_new_id [Ar.dat d]) fun a_3 => up (p_is_tag_name [Ar.dat d]) fun a_4 => up (p_is_mode [Ar.dat d]) fun a_5 =>
      W.of (mkL [a, a_1, a_2, a_3, a_4, a_5]) Q := by
  have big : (1000000 : Nat) ≤ sizeLine := by decide
  have fin : ∀ a b c d e f : Dat, Q (.lst true [a, b, c, d, e, f]) → W.of (mkL [a, b, c, d, e, f]) Q := fun a b c d e f h => by
    unfold mkL
    rw [if_pos (by show 6 ≤ sizeLine; omega), of_some_ap]
    exact h
  refine up_in (is_int_ok g.ty ?_)
  rcases g.cases_str hn with ⟨x, rfl, hx⟩ | ⟨h1, h2, h3⟩
  · have hl : x.length ≤ sizeLine := by have := hx.1; omega
    exact up_in (is_name_str hl (up_in (is_id_str hl (up_in (is_new_id_str hl (up_in (is_tag_name_str (by have := hx.1; omega) (up_in (is_mode_str (fin _ _ _ _ _ _ q))))))))))
  · rw [h3] at q
    exact up_in (is_name_no h1 (up_in (is_id_no h1 h2 (up_in (is_new_no h1 (up_in (is_tag_no h1 h2 (up_in (is_mode_no h1 (fin _ _ _ _ _ _ q))))))))))
end EW
set_option Elab.async false
set_option linter.all false
set_option maxRecDepth 100000
set_option maxHeartbeats 4000000
namespace EW
open PySem PySem.Spec PyProof.Rows L2 EG
section
variable {P : Program} {w : World} {K : PySem.W.Frag} {mg : Str → Option Value} {base : Heap}
abbrev s_law : Stmt := top 23
abbrev n_law : List Str := ["_law_script", "_law_bag_here", "_law_turn", "_law_names_here", "_law_some", "_law_thing", "_law_bend", "_law_shown", "_law_told", "_law_again", "_law_modes", "_law_at", "_law_one", "_law_k"]
def F_law (w : World) : WS := (sSeq (sFor (iArg rng1 (wCons (wC (.int 30)) wNil)) (gN 2) (sSeq (sSet 3 (nDat (wCall p_l_names (aBag 1 (aDat (wC (.int 2)) aNil))))) (sSeq (sSet 4 (nDat (wLst (wCons (wOp ixD (wV 3) (wC (.int 0))) (wCons (wCall p_new_id (aDat (wOp ixD (wV 3) (wC (.int 0))) aNil)) (wCons (wCall p_own_name (aDat (wOp ixD (wV 3) (wC (.int 0))) (aDat (wOp ixD (wV 3) (wC (.int 1))) aNil))) (wCons (wC (.str "each")) (wCons (wC (.str "now")) (wCons (wC (.str "late")) (wCons (wCall p_l_odd (aBag 1 aNil)) wNil)))))))))) (sSeq (sSet 5 (nDat (wOp ixD (wV 4) (wCall p_take (aBag 1 (aDat (wC (.int 7)) aNil)))))) (sSeq (sFor (iArg rng1 (wCons (wOp ixD (wLst (wCons (wC (.int 0)) (wCons (wC (.int 1)) (wCons (wC (.int 1)) (wCons (wC (.int 2)) wNil))))) (wCall p_take (aBag 1 (aDat (wC (.int 4)) aNil)))) wNil)) (gN 6) (sSet 5 (nDat (wCall (p_l_spoilt w 16) (aBag 1 (aDat (wV 5) aNil)))))) (sSeq (sSet 7 (nDat (wB reprD (wCons (wV 5) wNil)))) (sSeq (sSet 8 (nDat (wLst (wCons (wCall p_is_integer (aDat (wV 5) aNil)) (wCons (wCall p_is_name (aDat (wV 5) aNil)) (wCons (wCall p_is_id (aDat (wV 5) aNil)) (wCons (wCall p_is_new_id (aDat (wV 5) aNil)) (wCons (wCall p_is_tag_name (aDat (wV 5) aNil)) (wCons (wCall p_is_mode (aDat (wV 5) aNil)) wNil))))))))) (sSeq (sSet 9 (nDat (wLst (wCons (wCall p_is_integer (aDat (wV 5) aNil)) (wCons (wCall p_is_name (aDat (wV 5) aNil)) (wCons (wCall p_is_id (aDat (wV 5) aNil)) (wCons (wCall p_is_new_id (aDat (wV 5) aNil)) (wCons (wCall p_is_tag_name (aDat (wV 5) aNil)) (wCons (wCall p_is_mode (aDat (wV 5) aNil)) wNil))))))))) (sSeq (sIf (bOr (bNot (bVal (wCall p_l_alike (aDat (wLst (wCons (wV 8) (wCons (wV 9) wNil))) (aDat (wLst (wCons (wCall p_l_dues (aDat (wV 5) aNil)) (wCons (wCall p_l_dues (aDat (wV 5) aNil)) wNil))) aNil))))) (bOp neKD (wB reprD (wCons (wV 5) wNil)) (wV 7))) (sRet (wC (.bl false))) sNil) (sIf (bOp neKD (wLst (wCons (wCall p_new_id (aDat (wOp ixD (wV 3) (wC (.int 0))) aNil)) (wCons (wCall p_own_name (aDat (wOp ixD (wV 3) (wC (.int 0))) (aDat (wOp ixD (wV 3) (wC (.int 1))) aNil))) wNil))) (wLst (wCons (wOp addD (wC (.str "+")) (wOp ixD (wV 3) (wC (.int 0)))) (wCons (wOp addD (wOp addD (wOp addD (wC (.str "+")) (wOp ixD (wV 3) (wC (.int 0)))) (wC (.str "."))) (wOp ixD (wV 3) (wC (.int 1)))) wNil)))) (sRet (wC (.bl false))) sNil)))))))))) (sSeq (sSet 10 (nDat (wLst (wCons (wC (.str "each")) (wCons (wC (.str "now")) (wCons (wC (.str "late")) wNil)))))) (sSeq (sFor (iArg rng1 (wCons (wC (.int 3)) wNil)) (gN 11) (sIf (bNot (bVal (wCall p_l_alike (aDat (wLc (iAny (wV 10)) (gN 12) bYes (wCall p_less (aDat (wOp ixD (wV 10) (wV 11)) (aDat (wV 12) aNil))) [12]) (aDat (wLc (iArg rng1 (wCons (wC (.int 3)) wNil)) (gN 13) bYes (wOp ltD (wV 11) (wV 13)) [13]) aNil))))) (sRet (wC (.bl false))) sNil)) (sRet (wC (.bl true))))))
theorem sc_law : FnScope n_law ["_law_script"] (defScope s_law) := ⟨rfl, rfl, rfl, by decide +kernel, rfl, by decide +kernel, by decide +kernel⟩
def p_law (w : World) : Prop := F_law w (lawE 14) kTrue
theorem w_law {f f_bag : Addr} {fd fd_bag : FuncData} (F : Fun K "law" "law" s_law f fd) (h_bag : FfB P w K mg base f_bag fd_bag) (b : Blt mg) {f_h_l_names : Addr} {fd_h_l_names : FuncData} (h_l_names : Fnc P w K mg base "_law_names" 2 ["_law_bag_here", "_law_many"] p_l_names f_h_l_names fd_h_l_names) {f_h_l_odd : Addr} {fd_h_l_odd : FuncData} (h_l_odd : Fnc P w K mg base "_law_odd" 2 ["_law_bag_here"] p_l_odd f_h_l_odd fd_h_l_odd) {f_h_own_name : Addr} {fd_h_own_name : FuncData} (h_own_name : Fnc P w K mg base "own_name" 1 ["handle", "field"] p_own_name f_h_own_name fd_h_own_name) {f_h_new_id : Addr} {fd_h_new_id : FuncData} (h_new_id : Fnc P w K mg base "new_id" 1 ["handle"] p_new_id f_h_new_id fd_h_new_id) {f_h_l_take : Addr} {fd_h_l_take : FuncData} (h_l_take : Fnc P w K mg base "_law_take" 1 ["_law_bag_here", "_law_many"] p_take f_h_l_take fd_h_l_take) {f_h_l_spoilt : Addr} {fd_h_l_spoilt : FuncData} (h_l_spoilt : Fnc P w K mg base "_law_spoilt" 24 ["_law_bag_here", "_law_thing"] (p_l_spoilt w 16) f_h_l_spoilt fd_h_l_spoilt) {f_h_is_mode : Addr} {fd_h_is_mode : FuncData} (h_is_mode : Fnc P w K mg base "is_mode" 1 ["thing"] p_is_mode f_h_is_mode fd_h_is_mode) {f_h_is_tag_name : Addr} {fd_h_is_tag_name : FuncData} (h_is_tag_name : Fnc P w K mg base "is_tag_name" 2 ["thing"] p_is_tag_name f_h_is_tag_name fd_h_is_tag_name) {f_h_is_new_id : Addr} {fd_h_is_new_id : FuncData} (h_is_new_id : Fnc P w K mg base "is_new_id" 2 ["thing"] p_is_new_id f_h_is_new_id fd_h_is_new_id) {f_h_is_id : Addr} {fd_h_is_id : FuncData} (h_is_id : Fnc P w K mg base "is_id" 3 ["thing"] p_is_id f_h_is_id fd_h_is_id) {f_h_is_name : Addr} {fd_h_is_name : FuncData} (h_is_name : Fnc P w K mg base "is_name" 1 ["thing"] p_is_name f_h_is_name fd_h_is_name) {f_h_is_integer : Addr} {fd_h_is_integer : FuncData} (h_is_integer : Fnc P w K mg base "is_integer" 1 ["thing"] p_is_integer f_h_is_integer fd_h_is_integer) {f_h_l_alike : Addr} {fd_h_l_alike : FuncData} (h_l_alike : Fnc P w K mg base "_law_alike" 1 ["_law_found", "_law_due"] p_l_alike f_h_l_alike fd_h_l_alike) {f_h_l_dues : Addr} {fd_h_l_dues : FuncData} (h_l_dues : Fnc P w K mg base "_law_dues" 3 ["_law_thing"] p_l_dues f_h_l_dues fd_h_l_dues) {f_h_less : Addr} {fd_h_less : FuncData} (h_less : Fnc P w K mg base "less" 1 ["one", "other"] p_less f_h_less fd_h_less) (hp : p_law w) : FnG P w K mg base CX0 25 f fd ["_law_script"] (spLaw K) :=
  fn_law (k := 24) (N := n_law) (F := F_law w) F sc_law hp fun cdv A out s H E hg hr => ⟨_, _, rfl, (impS (ps_set (i := 1) sc_law.nd rfl (Or.inl rfl) (pe_call h_bag.G (hr.mono (by decide)) rfl h_bag.m h_bag.k h_bag.b .nil pass0 (pa_cons (pv 0) pa_nil))) fun D σ H ⟨a, ns, h0, h1, h2, h3⟩ => ⟨_, h0, a, ns, rfl, h1, h2, h3⟩),
    (pq_cons (pq_for PassesOwn.never rfl (piw_range1 (by rfl) b.range (pxs_cons px_int pxs_nil)) (pgw_name sc_law.nd rfl (by first | exact Or.inl rfl | exact Or.inr rfl)) (pq_cons (pq_set (i := 3) sc_law.nd rfl (by first | exact Or.inl rfl | exact Or.inr rfl) (pn_dat (px_call rfl h_l_names.G hg (hr.mono (by decide)) rfl h_l_names.m h_l_names.k h_l_names.b rfl pass0 (pxa_bag (pv 1) (pxa_dat px_int pxa_nil))))) (pq_cons (pq_set (i := 4) sc_law.nd rfl (by first | exact Or.inl rfl | exact Or.inr rfl) (pn_dat (px_lst (pxs_cons (px_ix (ixw (hu_of hr)) (px_v (pv 3)) px_int) (pxs_cons (px_call rfl h_new_id.G hg (hr.mono (by decide)) rfl h_new_id.m h_new_id.k h_new_id.b rfl pass0 (pxa_dat (px_ix (ixw (hu_of hr)) (px_v (pv 3)) px_int) pxa_nil)) (pxs_cons (px_call rfl h_own_name.G hg (hr.mono (by decide)) rfl h_own_name.m h_own_name.k h_own_name.b rfl pass0 (pxa_dat (px_ix (ixw (hu_of hr)) (px_v (pv 3)) px_int) (pxa_dat (px_ix (ixw (hu_of hr)) (px_v (pv 3)) px_int) pxa_nil))) (pxs_cons px_str (pxs_cons px_str (pxs_cons px_str (pxs_cons (px_call rfl h_l_odd.G hg (hr.mono (by decide)) rfl h_l_odd.m h_l_odd.k h_l_odd.b rfl pass0 (pxa_bag (pv 1) pxa_nil)) pxs_nil)))))))))) (pq_cons (pq_set (i := 5) sc_law.nd rfl (by first | exact Or.inl rfl | exact Or.inr rfl) (pn_dat (px_ix (ixw (hu_of hr)) (px_v (pv 4)) (px_call rfl h_l_take.G hg (hr.mono (by decide)) rfl h_l_take.m h_l_take.k h_l_take.b rfl pass0 (pxa_bag (pv 1) (pxa_dat px_int pxa_nil)))))) (pq_cons (pq_for PassesOwn.never rfl (piw_range1 (by rfl) b.range (pxs_cons (px_ix (ixw (hu_of hr)) (px_lst (pxs_cons px_int (pxs_cons px_int (pxs_cons px_int (pxs_cons px_int pxs_nil))))) (px_call rfl h_l_take.G hg (hr.mono (by decide)) rfl h_l_take.m h_l_take.k h_l_take.b rfl pass0 (pxa_bag (pv 1) (pxa_dat px_int pxa_nil)))) pxs_nil)) (pgw_name sc_law.nd rfl (by first | exact Or.inl rfl | exact Or.inr rfl)) (pq_one (pq_set (i := 5) sc_law.nd rfl (by first | exact Or.inl rfl | exact Or.inr rfl) (pn_dat (px_call rfl h_l_spoilt.G hg (hr.mono (by decide)) rfl h_l_spoilt.m h_l_spoilt.k h_l_spoilt.b rfl pass0 (pxa_bag (pv 1) (pxa_dat (px_v (pv 5)) pxa_nil))))))) (pq_cons (pq_set (i := 7) sc_law.nd rfl (by first | exact Or.inl rfl | exact Or.inr rfl) (pn_dat (px_callB (clw_repr hg (by have z := hr.units; exact z)) (by rfl) b.repr (by decide +kernel) (pxs_cons (px_v (pv 5)) pxs_nil)))) (pq_cons (pq_set (i := 8) sc_law.nd rfl (by first | exact Or.inl rfl | exact Or.inr rfl) (pn_dat (px_lst (pxs_cons (px_call rfl h_is_integer.G hg (hr.mono (by decide)) rfl h_is_integer.m h_is_integer.k h_is_integer.b rfl pass0 (pxa_dat (px_v (pv 5)) pxa_nil)) (pxs_cons (px_call rfl h_is_name.G hg (hr.mono (by decide)) rfl h_is_name.m h_is_name.k h_is_name.b rfl pass0 (pxa_dat (px_v (pv 5)) pxa_nil)) (pxs_cons (px_call rfl h_is_id.G hg (hr.mono (by decide)) rfl h_is_id.m h_is_id.k h_is_id.b rfl pass0 (pxa_dat (px_v (pv 5)) pxa_nil)) (pxs_cons (px_call rfl h_is_new_id.G hg (hr.mono (by decide)) rfl h_is_new_id.m h_is_new_id.k h_is_new_id.b rfl pass0 (pxa_dat (px_v (pv 5)) pxa_nil)) (pxs_cons (px_call rfl h_is_tag_name.G hg (hr.mono (by decide)) rfl h_is_tag_name.m h_is_tag_name.k h_is_tag_name.b rfl pass0 (pxa_dat (px_v (pv 5)) pxa_nil)) (pxs_cons (px_call rfl h_is_mode.G hg (hr.mono (by decide)) rfl h_is_mode.m h_is_mode.k h_is_mode.b rfl pass0 (pxa_dat (px_v (pv 5)) pxa_nil)) pxs_nil))))))))) (pq_cons (pq_set (i := 9) sc_law.nd rfl (by first | exact Or.inl rfl | exact Or.inr rfl) (pn_dat (px_lst (pxs_cons (px_call rfl h_is_integer.G hg (hr.mono (by decide)) rfl h_is_integer.m h_is_integer.k h_is_integer.b rfl pass0 (pxa_dat (px_v (pv 5)) pxa_nil)) (pxs_cons (px_call rfl h_is_name.G hg (hr.mono (by decide)) rfl h_is_name.m h_is_name.k h_is_name.b rfl pass0 (pxa_dat (px_v (pv 5)) pxa_nil)) (pxs_cons (px_call rfl h_is_id.G hg (hr.mono (by decide)) rfl h_is_id.m h_is_id.k h_is_id.b rfl pass0 (pxa_dat (px_v (pv 5)) pxa_nil)) (pxs_cons (px_call rfl h_is_new_id.G hg (hr.mono (by decide)) rfl h_is_new_id.m h_is_new_id.k h_is_new_id.b rfl pass0 (pxa_dat (px_v (pv 5)) pxa_nil)) (pxs_cons (px_call rfl h_is_tag_name.G hg (hr.mono (by decide)) rfl h_is_tag_name.m h_is_tag_name.k h_is_tag_name.b rfl pass0 (pxa_dat (px_v (pv 5)) pxa_nil)) (pxs_cons (px_call rfl h_is_mode.G hg (hr.mono (by decide)) rfl h_is_mode.m h_is_mode.k h_is_mode.b rfl pass0 (pxa_dat (px_v (pv 5)) pxa_nil)) pxs_nil))))))))) (pq_cons (pq_if (pb_w (pbw_or (pb_not (pb_val (px_call rfl h_l_alike.G hg (hr.mono (by decide)) rfl h_l_alike.m h_l_alike.k h_l_alike.b rfl pass0 (pxa_dat (px_lst (pxs_cons (px_v (pv 8)) (pxs_cons (px_v (pv 9)) pxs_nil))) (pxa_dat (px_lst (pxs_cons (px_call rfl h_l_dues.G hg (hr.mono (by decide)) rfl h_l_dues.m h_l_dues.k h_l_dues.b rfl pass0 (pxa_dat (px_v (pv 5)) pxa_nil)) (pxs_cons (px_call rfl h_l_dues.G hg (hr.mono (by decide)) rfl h_l_dues.m h_l_dues.k h_l_dues.b rfl pass0 (pxa_dat (px_v (pv 5)) pxa_nil)) pxs_nil))) pxa_nil))))) (pbw_or1 (pb_cmp (opw_neK (units65 hr)) (px_callB (clw_repr hg (by have z := hr.units; exact z)) (by rfl) b.repr (by decide +kernel) (pxs_cons (px_v (pv 5)) pxs_nil)) (px_v (pv 7)) (nomark _))))) (pq_one (pq_ret px_bl)) pq_nil) (pq_one (pq_if (pb_cmp (opw_neK (units65 hr)) (px_lst (pxs_cons (px_call rfl h_new_id.G hg (hr.mono (by decide)) rfl h_new_id.m h_new_id.k h_new_id.b rfl pass0 (pxa_dat (px_ix (ixw (hu_of hr)) (px_v (pv 3)) px_int) pxa_nil)) (pxs_cons (px_call rfl h_own_name.G hg (hr.mono (by decide)) rfl h_own_name.m h_own_name.k h_own_name.b rfl pass0 (pxa_dat (px_ix (ixw (hu_of hr)) (px_v (pv 3)) px_int) (pxa_dat (px_ix (ixw (hu_of hr)) (px_v (pv 3)) px_int) pxa_nil))) pxs_nil))) (px_lst (pxs_cons (px_op opw_add px_str (px_ix (ixw (hu_of hr)) (px_v (pv 3)) px_int)) (pxs_cons (px_op opw_add (px_op opw_add (px_op opw_add px_str (px_ix (ixw (hu_of hr)) (px_v (pv 3)) px_int)) px_str) (px_ix (ixw (hu_of hr)) (px_v (pv 3)) px_int)) pxs_nil))) (nomark _)) (pq_one (pq_ret px_bl)) pq_nil))))))))))) (pq_cons (pq_set (i := 10) sc_law.nd rfl (by first | exact Or.inl rfl | exact Or.inr rfl) (pn_dat (px_lst (pxs_cons px_str (pxs_cons px_str (pxs_cons px_str pxs_nil)))))) (pq_cons (pq_for PassesOwn.never rfl (piw_range1 (by rfl) b.range (pxs_cons px_int pxs_nil)) (pgw_name sc_law.nd rfl (by first | exact Or.inl rfl | exact Or.inr rfl)) (pq_one (pq_if (pb_not (pb_val (px_call rfl h_l_alike.G hg (hr.mono (by decide)) rfl h_l_alike.m h_l_alike.k h_l_alike.b rfl pass0 (pxa_dat (px_lc (own := [("_law_one", 12)]) (js := [12]) (g := (gN 12)) (ft := bYes) (fe := (wCall p_less (aDat (wOp ixD (wV 10) (wV 11)) (aDat (wV 12) aNil)))) rfl sc_law.nd (piw_any rfl (px_v (pv 10))) (blkOk_by (N := n_law) (sc := defScope s_law) (by decide +kernel)) (fun _ _ _ _ _ => (pgw_name sc_law.nd rfl (by first | exact Or.inl rfl | exact Or.inr rfl))) (fun _ _ _ _ _ => pbs_nil) (fun _ _ _ _ _ => (px_call rfl h_less.G hg (hr.mono (by decide)) rfl h_less.m h_less.k h_less.b rfl pass0 (pxa_dat (px_ix (ixw (hu_of hr)) (px_v (pv 10)) (px_v (pv 11))) (pxa_dat (px_v (pv 12)) pxa_nil)))) (by decide)) (pxa_dat (px_lc (own := [("_law_k", 13)]) (js := [13]) (g := (gN 13)) (ft := bYes) (fe := (wOp ltD (wV 11) (wV 13))) rfl sc_law.nd (piw_range1 (by rfl) b.range (pxs_cons px_int pxs_nil)) (blkOk_by (N := n_law) (sc := defScope s_law) (by decide +kernel)) (fun _ _ _ _ _ => (pgw_name sc_law.nd rfl (by first | exact Or.inl rfl | exact Or.inr rfl))) (fun _ _ _ _ _ => pbs_nil) (fun _ _ _ _ _ => (px_cmp opw_lt (px_v (pv 11)) (px_v (pv 13)) (nomark _))) (by decide)) pxa_nil))))) (pq_one (pq_ret px_bl)) pq_nil))) (pq_one (pq_ret px_bl)))))⟩
end
end EW
set_option Elab.async false
set_option linter.all false
set_option maxRecDepth 100000
set_option maxHeartbeats 4000000
namespace EW
open PySem PySem.Spec PyProof.Rows L2 EG TL EM
theorem new_id_ok {x : Str} {Q : Dat → Prop} (h : x.length ≤ 100) (q : Q (.str ("+" ++ x))) : p_new_id [.dat (.str x)] Q := by
  have big : (1000000 : Nat) ≤ sizeLine := by decide
  unfold p_new_id F_new_id
  simp [startE]
  have e : addD (.str (Str.ofString "+")) (.str x) = some (.str ("+" ++ x)) := by
    simp only [addD]
    rw [if_pos (by show 1 + x.length ≤ sizeLine; omega)]
  rw [e, of_some_ap]
  exact q
theorem own_name_ok {x y : Str} {Q : Dat → Prop} (h : x.length ≤ 100) (h' : y.length ≤ 100) (q : Q (.str ("+" ++ x ++ "." ++ y))) : p_own_name [.dat (.str x), .dat (.str y)] Q := by
  have big : (1000000 : Nat) ≤ sizeLine := by decide
  have al : ∀ y z : Str, (y ++ z).length = y.length + z.length := strLen_append
  have l1 : (Str.ofString "+").length = 1 := rfl
  have l2 : (Str.ofString ".").length = 1 := rfl
  unfold p_own_name F_own_name
  simp [startE]
  have e : ∀ a b : Str, a.length + b.length ≤ 1000 → addD (.str a) (.str b) = some (.str (a ++ b)) := fun a b z => by
    simp only [addD]
    rw [if_pos (by omega)]
  rw [e _ _ (by omega), of_some_ap, e _ _ (by rw [al]; omega), of_some_ap, e _ _ (by rw [al, al]; omega), of_some_ap]
  exact q
theorem bools_deep {bs : List Bool} {t : Bool} {k : Nat} : DeepN (k + 1) (.lst t (bs.map .bl)) := .lst fun d hd => by
  obtain ⟨b, _, rfl⟩ := List.mem_map.mp hd
  exact .bl
theorem bools_old (bs : List Bool) : (Dat.lst true (bs.map .bl)).old = .lst false (bs.map .bl) := by
  simp [Dat.old, olds_map]
theorem bsum_bools : ∀ bs : List Bool, bsum (bs.map .bl) = bs.length
  | [] => rfl
  | b :: bs => by
    have := bsum_bools bs
    unfold bsum at this ⊢
    rw [List.map_cons, List.map_cons, List.sum_cons, List.length_cons, this]
    simp [Dat.pyd, PyData.bulk]
    omega
theorem alike_ok {w : World} {bs : List Bool} (h6 : bs.length ≤ 10) {Q : Dat → Prop} (q : Q (.bl true)) : p_l_alike [.dat (.lst false [.lst false (bs.map .bl), .lst false (bs.map .bl)]), .dat (.lst false [.lst false (bs.map .bl), .lst false (bs.map .bl)])] Q := by
  have e1 := deep_refl (d := .lst false [.lst false (bs.map .bl), .lst false (bs.map .bl)]) (DeepN.lst (k := 59) fun d hd => by
    have : d = .lst false (bs.map .bl) := by simpa using hd
    rw [this]
    exact bools_deep (k := 58)) ⟨_, _, rfl⟩
  have gb : G w 0 (.lst false (bs.map .bl)) := .lst fun d hd => by
    obtain ⟨b, _, rfl⟩ := List.mem_map.mp hd
    exact .bl b
  have gg : G w 0 (.lst false [.lst false (bs.map .bl), .lst false (bs.map .bl)]) := .lst fun d hd => by
    have : d = .lst false (bs.map .bl) := by simpa using hd
    rw [this]
    exact gb
  have d0 : (Dat.lst false (bs.map .bl)).pyd.depth ≤ 1 := by
    rw [dep_lst]
    have : PyData.depthAll (Dat.pyds (bs.map .bl)) ≤ 0 := dep_all.mp fun d hd => by
      obtain ⟨b, _, rfl⟩ := List.mem_map.mp hd
      simp [Dat.pyd, PyData.depth]
    omega
  have e2 := gg.rep (by
    rw [dep_lst]
    have := (dep_all (k := 1) (ds := [.lst false (bs.map .bl), .lst false (bs.map .bl)])).mp fun d hd => by
      have : d = .lst false (bs.map .bl) := by simpa using hd
      rw [this]
      exact d0
    omega) (by
    rw [blk_lst]
    unfold bsum
    simp only [List.map_cons, List.map_nil, List.sum_cons, List.sum_nil, blk_lst, bsum_bools]
    omega)
  unfold p_l_alike F_l_alike
  simp [startE]
  rw [e1, of_some_ap, toB_bl, of_some_ap]
  simp
  rw [e2, of_some_ap]
  simpa using q
theorem ne_refl {t : Bool} {ds : List Dat} (h : DeepN 60 (.lst t ds)) : neKD (.lst t ds) (.lst t ds) = some (.bl false) := by
  show (eqB _ _).map (fun b => Dat.bl (!b)) = _
  unfold eqB
  rw [if_neg (by show ¬ (false = true); decide), if_pos ⟨h.ok (by decide), h.ok (by decide)⟩, SeqAt.eqv_refl _ h.2.1]
  rfl
theorem alike_one {w : World} {bs : List Bool} (h6 : bs.length ≤ 10) {Q : Dat → Prop} (q : Q (.bl true)) : p_l_alike [.dat (.lst false (bs.map .bl)), .dat (.lst false (bs.map .bl))] Q := by
  have e1 := deep_refl (d := .lst false (bs.map .bl)) (bools_deep (k := 59)) ⟨_, _, rfl⟩
  have gb : G w 0 (.lst false (bs.map .bl)) := .lst fun d hd => by
    obtain ⟨b, _, rfl⟩ := List.mem_map.mp hd
    exact .bl b
  have e2 := gb.rep (by
    rw [dep_lst]
    have : PyData.depthAll (Dat.pyds (bs.map .bl)) ≤ 0 := dep_all.mp fun d hd => by
      obtain ⟨b, _, rfl⟩ := List.mem_map.mp hd
      simp [Dat.pyd, PyData.depth]
    omega) (by
    rw [blk_lst, bsum_bools]
    omega)
  unfold p_l_alike F_l_alike
  simp [startE]
  rw [e1, of_some_ap, toB_bl, of_some_ap]
  simp
  rw [e2, of_some_ap]
  simpa using q
def md : Nat → Str
  | 0 => Str.ofString "each"
  | 1 => Str.ofString "now"
  | _ => Str.ofString "late"
theorem less_ok {i j : Nat} (hi : i < 3) (hj : j < 3) {Q : Dat → Prop} (q : Q (.bl (decide (i < j)))) : p_less [.dat (.str (md i)), .dat (.str (md j))] Q := by
  have ix : ∀ i : Nat, i < 3 → tindexD modesD [.str (md i)] = some (.int (i : Int)) := fun i hi => by
    obtain rfl | rfl | rfl : i = 0 ∨ i = 1 ∨ i = 2 := by omega
    all_goals rfl
  unfold p_less F_less
  simp [startE]
  rw [ix i hi, of_some_ap, ix j hj, of_some_ap]
  have : ltD (.int (i : Int)) (.int (j : Int)) = some (.bl (decide (i < j))) := by
    show some (Dat.bl (decide ((i : Int) < j))) = _
    have : decide ((i : Int) < j) = decide (i < j) := by
      by_cases z : i < j
      · rw [decide_eq_true z, decide_eq_true (by omega)]
      · rw [decide_eq_false z, decide_eq_false (by omega)]
    rw [this]
  rw [this, of_some_ap]
  exact q
theorem dues_len (d : Dat) : (duesL d).length = 6 := by cases d <;> rfl
theorem law_ok (w : World) : p_law w := by
  have big : (1000000 : Nat) ≤ sizeLine := by decide
  unfold p_law F_law
  simp [lawE]
  rw [rng1_of (by omega), few_of (by rw [List.length_map, List.length_range]; decide)]
  simp
  refine loop_by (fun _ E => ∃ s2 s3 s4 s5 s6 s7 s8 s9, E = [.any, .bag, s2, s3, s4, s5, s6, s7, s8, s9, .no, .no, .no, .no]) _ _ 0 ⟨.no, .no, .no, .no, .no, .no, .no, .no, rfl⟩ ?_ ?_
  · rintro i d E nx hd ⟨s2, s3, s4, s5, s6, s7, s8, s9, rfl⟩ hnx
    refine ⟨_, rfl, ?_⟩
    simp
    refine up_in (names_ok (by decide) (by decide) fun xs hl hnd hnm => ?_)
    obtain ⟨a, b, rfl⟩ : ∃ a b, xs = [a, b] := by
      match xs, hl with
      | [a, b], _ => exact ⟨a, b, rfl⟩
      | [], h => simp at h
      | [a], h => simp at h
      | _ :: _ :: _ :: _, h => simp at h; omega
    have ha := hnm a List.mem_cons_self
    have hb := hnm b (List.mem_cons_of_mem _ List.mem_cons_self)
    have la : a.length ≤ 8 := ha.sm.1
    have lb : b.length ≤ 8 := hb.sm.1
    have i0 : atI [Dat.str a, Dat.str b] 0 = some (.str a) := rfl
    have i1 : atI [Dat.str a, Dat.str b] 1 = some (.str b) := rfl
    simp [i0, i1]
    refine up_in (new_id_ok (by omega) ?_)
    refine up_in (own_name_ok (by omega) (by omega) ?_)
    refine up_in (odd_ok' (w := w) fun d0 g0 k0 b0 => ?_)
    have hmk : ∀ ds : List Dat, ds.length ≤ 100 → mkL ds = some (.lst true ds) := fun ds h => by
      unfold mkL
      rw [if_pos (by omega)]
    rw [hmk _ (by show 7 ≤ 100; decide), of_some_ap]
    refine take_up (by decide) (by decide) fun r r0 r1 => ?_
    have al : ∀ y z : Str, (y ++ z).length = y.length + z.length := strLen_append
    have am : ∀ (y z : Str) (c : Nat), c ∈ (y ++ z).cps.toList → c ∈ y.cps.toList ∨ c ∈ z.cps.toList := fun y z c h => by
      have : (y ++ z).cps.toList = y.cps.toList ++ z.cps.toList := by
        show (y.cps ++ z.cps).toList = _
        rw [Array.toList_append]
      rw [this] at h
      exact List.mem_append.mp h
    have pl : ∀ c ∈ (Str.ofString "+").cps.toList, c < 128 := by decide +kernel
    have pd : ∀ c ∈ (Str.ofString ".").cps.toList, c < 128 := by decide +kernel
    have l1 : (Str.ofString "+").length = 1 := rfl
    have l2 : (Str.ofString ".").length = 1 := rfl
    have c1 : ∀ c ∈ (Str.ofString "+" ++ a).cps.toList, c < 128 := fun c hc => (am _ _ _ hc).elim (pl c) (ha.sm.2 c)
    have c2 : ∀ c ∈ (Str.ofString "+" ++ a ++ Str.ofString "." ++ b).cps.toList, c < 128 := fun c hc => (am _ _ _ hc).elim (fun h => (am _ _ _ h).elim (c1 c) (pd c)) (hb.sm.2 c)
    have bl : ∀ y : Str, (Dat.str y).pyd.bulk = y.length ∧ (Dat.str y).pyd.depth = 0 := fun y => ⟨by rw [Dat.pyd, PyData.bulk]; rfl, by rw [Dat.pyd, PyData.depth]⟩
    have st : ∀ y : Str, y.length ≤ 40 → (∀ c ∈ y.cps.toList, c < 128) → G w 0 (.str y) ∧ (Dat.str y).pyd.depth ≤ 6 ∧ (Dat.str y).pyd.bulk ≤ 60 := fun y h1 h2 => ⟨.str (by omega) h2, by rw [(bl y).2]; omega, by rw [(bl y).1]; omega⟩
    have pick : ∃ d1, atI [Dat.str a, Dat.str (Str.ofString "+" ++ a), Dat.str (Str.ofString "+" ++ a ++ Str.ofString "." ++ b), Dat.str (Str.ofString "each"), Dat.str (Str.ofString "now"), Dat.str (Str.ofString "late"), d0] r = some d1 ∧ G w 0 d1 ∧ d1.pyd.depth ≤ 6 ∧ d1.pyd.bulk ≤ 60 := by
      obtain rfl | rfl | rfl | rfl | rfl | rfl | rfl : r = 0 ∨ r = 1 ∨ r = 2 ∨ r = 3 ∨ r = 4 ∨ r = 5 ∨ r = 6 := by omega
      · exact ⟨_, rfl, st _ (by omega) ha.sm.2⟩
      · exact ⟨_, rfl, st _ (by rw [al]; omega) c1⟩
      · exact ⟨_, rfl, st _ (by rw [al, al, al]; omega) c2⟩
      · exact ⟨_, rfl, st _ (by decide +kernel) (by decide +kernel)⟩
      · exact ⟨_, rfl, st _ (by decide +kernel) (by decide +kernel)⟩
      · exact ⟨_, rfl, st _ (by decide +kernel) (by decide +kernel)⟩
      · exact ⟨_, rfl, g0, k0, b0⟩
    obtain ⟨d1, hd1, g1, k1, b1⟩ := pick
    rw [ixD_lst, hd1, of_some_ap]
    refine take_up (by decide) (by decide) fun r' r0' r1' => ?_
    obtain ⟨m, hm, hat⟩ : ∃ m : Nat, m ≤ 2 ∧ atI [Dat.int 0, Dat.int 1, Dat.int 1, Dat.int 2] r' = some (.int (m : Int)) := by
      obtain rfl | rfl | rfl | rfl : r' = 0 ∨ r' = 1 ∨ r' = 2 ∨ r' = 3 := by omega
      · exact ⟨0, by omega, rfl⟩
      · exact ⟨1, by omega, rfl⟩
      · exact ⟨1, by omega, rfl⟩
      · exact ⟨2, by omega, rfl⟩
    rw [ixD_lst, hat, of_some_ap, rng1_of (by omega), few_of (by rw [List.length_map, List.length_range]; omega), of_some_ap]
    refine loop_by (fun j E => j ≤ m ∧ ∃ s6' d', E = [Sl.any, Sl.bag, Sl.dat d, Sl.dat (Dat.lst true [Dat.str a, Dat.str b]), Sl.dat (Dat.lst true [Dat.str a, Dat.str (Str.ofString "+" ++ a), Dat.str (Str.ofString "+" ++ a ++ Str.ofString "." ++ b), Dat.str (Str.ofString "each"), Dat.str (Str.ofString "now"), Dat.str (Str.ofString "late"), d0]), Sl.dat d', s6', s7, s8, s9, Sl.no, Sl.no, Sl.no, Sl.no] ∧
      G w j d' ∧ d'.pyd.depth ≤ 6 + 6 * j ∧ d'.pyd.bulk ≤ (if j = 0 then 60 else if j = 1 then 180 else 420)) _ _ 0 ⟨Nat.zero_le _, s6, d1, rfl, g1, k1, b1⟩ ?_ ?_
    · rintro j e E nx2 he ⟨hj, s6', d', rfl, g', k', b'⟩ hnx2
      refine ⟨_, rfl, ?_⟩
      simp
      have hj' : j < m := by
        have := (List.getElem?_eq_some_iff.mp he).1
        rw [List.length_map, List.length_range] at this
        omega
      have go := g'.old
      have hjb : d'.pyd.bulk ≤ 180 := by
        rw [Nat.zero_add] at b'
        split at b'
        · omega
        · split at b' <;> omega
      rw [Nat.zero_add] at g' k' b' go
      refine up_in (spo_all w 15 j _ (by omega) go.1 (by rw [go.2]; omega) (by rw [go.2]; omega) _ fun d2 g2 k2 b2 => ?_)
      rw [go.2] at k2 b2
      refine hnx2 _ ⟨by omega, _, d2, rfl, by rw [Nat.zero_add]; exact g2, by omega, ?_⟩
      split at b'
      · rename_i z
        subst z
        simp
        omega
      · split at b'
        · rename_i z
          subst z
          simp
          omega
        · omega
    · rintro E ⟨hj, s6', d', rfl, g', k', b'⟩
      rw [List.length_map, List.length_range, Nat.zero_add, Int.toNat_natCast] at g' k' b'
      have b'' : d'.pyd.bulk ≤ 420 := by
        split at b'
        · omega
        · split at b' <;> omega
      have k'' : d'.pyd.depth ≤ 18 := by omega
      have go := g'.old
      simp
      rw [g'.rep (by omega) (by omega), of_some_ap]
      refine told_ok (by omega) go.1 (told_ok (by omega) go.1 ?_)
      refine up_in (dues_ok (by omega) go.1 (up_in (dues_ok (by omega) go.1 ?_)))
      rw [bools_old]
      refine up_in (alike_ok (w := w) (by rw [dues_len]; omega) ?_)
      rw [toB_bl, of_some_ap]
      simp
      rw [g'.rep (by omega) (by omega), of_some_ap]
      simp [i0, i1]
      refine up_in (new_id_ok (by omega) ?_)
      refine up_in (own_name_ok (by omega) (by omega) ?_)
      have pa : PyData.strOk a = true := by
        unfold PyData.strOk
        rw [← Array.all_toList, List.all_eq_true]
        exact fun c hc => decide_eq_true (by have := ha.sm.2 c hc; omega)
      have ok8 : ∀ y : Str, (∀ c ∈ y.cps.toList, c < 128) → PyData.strOk y = true := fun y h => by
        unfold PyData.strOk
        rw [← Array.all_toList, List.all_eq_true]
        exact fun c hc => decide_eq_true (by have := h c hc; omega)
      have ad : ∀ y z : Str, y.length + z.length ≤ 1000 → addD (.str y) (.str z) = some (.str (y ++ z)) := fun y z h => by
        simp only [addD]
        rw [if_pos (by omega)]
      rw [ad _ _ (by omega), of_some_ap, of_some_ap, ad _ _ (by rw [al]; omega), of_some_ap, ad _ _ (by rw [al, al]; omega), of_some_ap]
      rw [ne_refl (DeepN.lst (k := 59) fun e he => by
        rcases List.mem_cons.mp he with rfl | he
        · exact .str (ok8 _ c1)
        · rw [List.mem_singleton.mp he]; exact .str (ok8 _ c2)), Option.bind_some, toB_bl, of_some_ap]
      simp
      exact hnx _ ⟨_, _, _, _, _, _, _, _, rfl⟩
  · rintro E ⟨s2, s3, s4, s5, s6, s7, s8, s9, rfl⟩
    simp
    rw [rng1_of (by omega), few_of (by rw [List.length_map, List.length_range]; decide)]
    have e3 : (List.range (Int.toNat 3)).map (fun i : Nat => Dat.int (0 + (i : Int))) = [.int 0, .int 1, .int 2] := rfl
    rw [e3, of_some_ap]
    refine loop_by (fun _ E => ∃ s11 : Sl, E = [.any, .bag, s2, s3, s4, s5, s6, s7, s8, s9, Sl.dat (Dat.lst true [Dat.str (Str.ofString "each"), Dat.str (Str.ofString "now"), Dat.str (Str.ofString "late")]), s11, .no, .no]) _ _ 0 ⟨.no, rfl⟩ ?_ ?_
    · rintro i d E nx hd ⟨s11, rfl⟩ hnx
      refine ⟨_, rfl, ?_⟩
      have hd3 : ∃ k : Nat, k < 3 ∧ d = .int (k : Int) := by
        match i, hd with
        | 0, h => exact ⟨0, by omega, by simpa using h.symm⟩
        | 1, h => exact ⟨1, by omega, by simpa using h.symm⟩
        | 2, h => exact ⟨2, by omega, by simpa using h.symm⟩
        | n + 3, h => simp at h
      obtain ⟨k, hk, rfl⟩ := hd3
      simp
      rw [few_of (by show 3 ≤ sizeLine; omega), of_some_ap]
      refine lc_mapL (fun m : Nat => Dat.str (md m)) (fun m : Nat => Dat.bl (decide (k < m))) [0, 1, 2] [] (fun m hm => ⟨_, rfl, fun P hP => ?_⟩) ?_
      · have hm3 : m < 3 := by
          simp only [List.mem_cons, List.not_mem_nil, or_false] at hm
          omega
        have hat : atI [Dat.str (Str.ofString "each"), Dat.str (Str.ofString "now"), Dat.str (Str.ofString "late")] (k : Int) = some (.str (md k)) := by
          obtain rfl | rfl | rfl : k = 0 ∨ k = 1 ∨ k = 2 := by omega
          all_goals rfl
        simp [wipeE]
        rw [hat, of_some_ap]
        simp
        exact up_in (less_ok hk hm3 hP)
      · rw [rng1_of (by omega), few_of (by rw [List.length_map, List.length_range]; decide), e3, of_some_ap]
        refine lc_mapL (fun m : Nat => Dat.int (m : Int)) (fun m : Nat => Dat.bl (decide (k < m))) [0, 1, 2] [] (fun m hm => ⟨_, rfl, fun P hP => ?_⟩) ?_
        · simpa [wipeE] using hP
        · rw [List.nil_append]
          have eb : [0, 1, 2].map (fun m : Nat => Dat.bl (decide (k < m))) = ([decide (k < 0), decide (k < 1), decide (k < 2)]).map Dat.bl := rfl
          rw [eb, bools_old]
          refine up_in (alike_one (w := w) (by show 3 ≤ 10; decide) ?_)
          rw [toB_bl, of_some_ap]
          simp
          exact hnx _ ⟨_, rfl⟩
    · rintro E ⟨s11, rfl⟩
      exact rfl
end EW
set_option Elab.async false
set_option linter.all false
set_option maxRecDepth 100000
set_option maxHeartbeats 4000000
namespace EW
open PySem L2 EG EX
theorem all_mk {P : Program} {w : World} {K : PySem.W.Frag} {h : Heap} {mg : Str → Option Value} {fa : Addr} 
    {f_l_bag : Addr} {od_l_bag an_l_bag : Option Addr} {sl_l_bag : Array (Option Value)} {oc_l_bag kV_l_bag dc_l_bag pm_l_bag cd_l_bag ct_l_bag : Value}
    {f_l_take : Addr} {od_l_take an_l_take : Option Addr} {sl_l_take : Array (Option Value)} {oc_l_take kV_l_take dc_l_take pm_l_take cd_l_take ct_l_take : Value}
    {f_is_integer : Addr} {od_is_integer an_is_integer : Option Addr} {sl_is_integer : Array (Option Value)} {oc_is_integer kV_is_integer dc_is_integer pm_is_integer cd_is_integer ct_is_integer : Value}
    {f_is_name : Addr} {od_is_name an_is_name : Option Addr} {sl_is_name : Array (Option Value)} {oc_is_name kV_is_name dc_is_name pm_is_name cd_is_name ct_is_name : Value}
    {f_is_new_id : Addr} {od_is_new_id an_is_new_id : Option Addr} {sl_is_new_id : Array (Option Value)} {oc_is_new_id kV_is_new_id dc_is_new_id pm_is_new_id cd_is_new_id ct_is_new_id : Value}
    {f_is_id : Addr} {od_is_id an_is_id : Option Addr} {sl_is_id : Array (Option Value)} {oc_is_id kV_is_id dc_is_id pm_is_id cd_is_id ct_is_id : Value}
    {f_is_tag_name : Addr} {od_is_tag_name an_is_tag_name : Option Addr} {sl_is_tag_name : Array (Option Value)} {oc_is_tag_name kV_is_tag_name dc_is_tag_name pm_is_tag_name cd_is_tag_name ct_is_tag_name : Value}
    {f_new_id : Addr} {od_new_id an_new_id : Option Addr} {sl_new_id : Array (Option Value)} {oc_new_id kV_new_id dc_new_id pm_new_id cd_new_id ct_new_id : Value}
    {f_own_name : Addr} {od_own_name an_own_name : Option Addr} {sl_own_name : Array (Option Value)} {oc_own_name kV_own_name dc_own_name pm_own_name cd_own_name ct_own_name : Value}
    {f_is_mode : Addr} {od_is_mode an_is_mode : Option Addr} {sl_is_mode : Array (Option Value)} {oc_is_mode kV_is_mode dc_is_mode pm_is_mode cd_is_mode ct_is_mode : Value}
    {f_less : Addr} {od_less an_less : Option Addr} {sl_less : Array (Option Value)} {oc_less kV_less dc_less pm_less cd_less ct_less : Value}
    {f_l_alike : Addr} {od_l_alike an_l_alike : Option Addr} {sl_l_alike : Array (Option Value)} {oc_l_alike kV_l_alike dc_l_alike pm_l_alike cd_l_alike ct_l_alike : Value}
    {f_l_names : Addr} {od_l_names an_l_names : Option Addr} {sl_l_names : Array (Option Value)} {oc_l_names kV_l_names dc_l_names pm_l_names cd_l_names ct_l_names : Value}
    {f_l_odd : Addr} {od_l_odd an_l_odd : Option Addr} {sl_l_odd : Array (Option Value)} {oc_l_odd kV_l_odd dc_l_odd pm_l_odd cd_l_odd ct_l_odd : Value}
    {f_l_spoilt : Addr} {od_l_spoilt an_l_spoilt : Option Addr} {sl_l_spoilt : Array (Option Value)} {oc_l_spoilt kV_l_spoilt dc_l_spoilt pm_l_spoilt cd_l_spoilt ct_l_spoilt : Value}
    {f_l_is_name : Addr} {od_l_is_name an_l_is_name : Option Addr} {sl_l_is_name : Array (Option Value)} {oc_l_is_name kV_l_is_name dc_l_is_name pm_l_is_name cd_l_is_name ct_l_is_name : Value}
    {f_l_is_id : Addr} {od_l_is_id an_l_is_id : Option Addr} {sl_l_is_id : Array (Option Value)} {oc_l_is_id kV_l_is_id dc_l_is_id pm_l_is_id cd_l_is_id ct_l_is_id : Value}
    {f_l_is_tag_name : Addr} {od_l_is_tag_name an_l_is_tag_name : Option Addr} {sl_l_is_tag_name : Array (Option Value)} {oc_l_is_tag_name kV_l_is_tag_name dc_l_is_tag_name pm_l_is_tag_name cd_l_is_tag_name ct_l_is_tag_name : Value}
    {f_l_dues : Addr} {od_l_dues an_l_dues : Option Addr} {sl_l_dues : Array (Option Value)} {oc_l_dues kV_l_dues dc_l_dues pm_l_dues cd_l_dues ct_l_dues : Value}
    {f_law : Addr} {od_law an_law : Option Addr} {sl_law : Array (Option Value)} {oc_law kV_law dc_law pm_law cd_law ct_law : Value}
    {tk_mL : Tok}
    {a_mM : Addr} {t1_mM t2_mM t3_mM : Tok} {n_mM : Nat} {s_mM : Array (Option Value)}
    (X : K.In h) (G : h.Ns mainGlobals mg) (hfa : mg "law" = some (.ref fa))
    (n_l_bag : PySem.W.nsIn K mainGlobals "_law_bag" = some (some (.ref f_l_bag)))
    (l_l_bag : K.lookup f_l_bag = some ⟨oc_l_bag, od_l_bag, .func (PySem.W.fnOf "_law_bag" "_law_bag" (defArgs sBag) (defBody sBag) (defScope sBag) .none kV_l_bag dc_l_bag pm_l_bag an_l_bag cd_l_bag ct_l_bag), sl_l_bag⟩)
    (d_l_bag : PySem.W.codeIn K cd_l_bag "_law_bag" = true)
    (k_l_bag : PySem.W.keepIn K (.ref f_l_bag) = true)
    (n_l_take : PySem.W.nsIn K mainGlobals "_law_take" = some (some (.ref f_l_take)))
    (l_l_take : K.lookup f_l_take = some ⟨oc_l_take, od_l_take, .func (PySem.W.fnOf "_law_take" "_law_take" (defArgs sTake) (defBody sTake) (defScope sTake) .none kV_l_take dc_l_take pm_l_take an_l_take cd_l_take ct_l_take), sl_l_take⟩)
    (d_l_take : PySem.W.codeIn K cd_l_take "_law_take" = true)
    (k_l_take : PySem.W.keepIn K (.ref f_l_take) = true)
    (n_is_integer : PySem.W.nsIn K mainGlobals "is_integer" = some (some (.ref f_is_integer)))
    (l_is_integer : K.lookup f_is_integer = some ⟨oc_is_integer, od_is_integer, .func (PySem.W.fnOf "is_integer" "is_integer" (defArgs s_is_integer) (defBody s_is_integer) (defScope s_is_integer) .none kV_is_integer dc_is_integer pm_is_integer an_is_integer cd_is_integer ct_is_integer), sl_is_integer⟩)
    (d_is_integer : PySem.W.codeIn K cd_is_integer "is_integer" = true)
    (k_is_integer : PySem.W.keepIn K (.ref f_is_integer) = true)
    (n_is_name : PySem.W.nsIn K mainGlobals "is_name" = some (some (.ref f_is_name)))
    (l_is_name : K.lookup f_is_name = some ⟨oc_is_name, od_is_name, .func (PySem.W.fnOf "is_name" "is_name" (defArgs s_is_name) (defBody s_is_name) (defScope s_is_name) .none kV_is_name dc_is_name pm_is_name an_is_name cd_is_name ct_is_name), sl_is_name⟩)
    (d_is_name : PySem.W.codeIn K cd_is_name "is_name" = true)
    (k_is_name : PySem.W.keepIn K (.ref f_is_name) = true)
    (n_is_new_id : PySem.W.nsIn K mainGlobals "is_new_id" = some (some (.ref f_is_new_id)))
    (l_is_new_id : K.lookup f_is_new_id = some ⟨oc_is_new_id, od_is_new_id, .func (PySem.W.fnOf "is_new_id" "is_new_id" (defArgs s_is_new_id) (defBody s_is_new_id) (defScope s_is_new_id) .none kV_is_new_id dc_is_new_id pm_is_new_id an_is_new_id cd_is_new_id ct_is_new_id), sl_is_new_id⟩)
    (d_is_new_id : PySem.W.codeIn K cd_is_new_id "is_new_id" = true)
    (k_is_new_id : PySem.W.keepIn K (.ref f_is_new_id) = true)
    (n_is_id : PySem.W.nsIn K mainGlobals "is_id" = some (some (.ref f_is_id)))
    (l_is_id : K.lookup f_is_id = some ⟨oc_is_id, od_is_id, .func (PySem.W.fnOf "is_id" "is_id" (defArgs s_is_id) (defBody s_is_id) (defScope s_is_id) .none kV_is_id dc_is_id pm_is_id an_is_id cd_is_id ct_is_id), sl_is_id⟩)
    (d_is_id : PySem.W.codeIn K cd_is_id "is_id" = true)
    (k_is_id : PySem.W.keepIn K (.ref f_is_id) = true)
    (n_is_tag_name : PySem.W.nsIn K mainGlobals "is_tag_name" = some (some (.ref f_is_tag_name)))
    (l_is_tag_name : K.lookup f_is_tag_name = some ⟨oc_is_tag_name, od_is_tag_name, .func (PySem.W.fnOf "is_tag_name" "is_tag_name" (defArgs s_is_tag_name) (defBody s_is_tag_name) (defScope s_is_tag_name) .none kV_is_tag_name dc_is_tag_name pm_is_tag_name an_is_tag_name cd_is_tag_name ct_is_tag_name), sl_is_tag_name⟩)
    (d_is_tag_name : PySem.W.codeIn K cd_is_tag_name "is_tag_name" = true)
    (k_is_tag_name : PySem.W.keepIn K (.ref f_is_tag_name) = true)
    (n_new_id : PySem.W.nsIn K mainGlobals "new_id" = some (some (.ref f_new_id)))
    (l_new_id : K.lookup f_new_id = some ⟨oc_new_id, od_new_id, .func (PySem.W.fnOf "new_id" "new_id" (defArgs s_new_id) (defBody s_new_id) (defScope s_new_id) .none kV_new_id dc_new_id pm_new_id an_new_id cd_new_id ct_new_id), sl_new_id⟩)
    (d_new_id : PySem.W.codeIn K cd_new_id "new_id" = true)
    (k_new_id : PySem.W.keepIn K (.ref f_new_id) = true)
    (n_own_name : PySem.W.nsIn K mainGlobals "own_name" = some (some (.ref f_own_name)))
    (l_own_name : K.lookup f_own_name = some ⟨oc_own_name, od_own_name, .func (PySem.W.fnOf "own_name" "own_name" (defArgs s_own_name) (defBody s_own_name) (defScope s_own_name) .none kV_own_name dc_own_name pm_own_name an_own_name cd_own_name ct_own_name), sl_own_name⟩)
    (d_own_name : PySem.W.codeIn K cd_own_name "own_name" = true)
    (k_own_name : PySem.W.keepIn K (.ref f_own_name) = true)
    (n_is_mode : PySem.W.nsIn K mainGlobals "is_mode" = some (some (.ref f_is_mode)))
    (l_is_mode : K.lookup f_is_mode = some ⟨oc_is_mode, od_is_mode, .func (PySem.W.fnOf "is_mode" "is_mode" (defArgs s_is_mode) (defBody s_is_mode) (defScope s_is_mode) .none kV_is_mode dc_is_mode pm_is_mode an_is_mode cd_is_mode ct_is_mode), sl_is_mode⟩)
    (d_is_mode : PySem.W.codeIn K cd_is_mode "is_mode" = true)
    (k_is_mode : PySem.W.keepIn K (.ref f_is_mode) = true)
    (n_less : PySem.W.nsIn K mainGlobals "less" = some (some (.ref f_less)))
    (l_less : K.lookup f_less = some ⟨oc_less, od_less, .func (PySem.W.fnOf "less" "less" (defArgs s_less) (defBody s_less) (defScope s_less) .none kV_less dc_less pm_less an_less cd_less ct_less), sl_less⟩)
    (d_less : PySem.W.codeIn K cd_less "less" = true)
    (k_less : PySem.W.keepIn K (.ref f_less) = true)
    (n_l_alike : PySem.W.nsIn K mainGlobals "_law_alike" = some (some (.ref f_l_alike)))
    (l_l_alike : K.lookup f_l_alike = some ⟨oc_l_alike, od_l_alike, .func (PySem.W.fnOf "_law_alike" "_law_alike" (defArgs s_l_alike) (defBody s_l_alike) (defScope s_l_alike) .none kV_l_alike dc_l_alike pm_l_alike an_l_alike cd_l_alike ct_l_alike), sl_l_alike⟩)
    (d_l_alike : PySem.W.codeIn K cd_l_alike "_law_alike" = true)
    (k_l_alike : PySem.W.keepIn K (.ref f_l_alike) = true)
    (n_l_names : PySem.W.nsIn K mainGlobals "_law_names" = some (some (.ref f_l_names)))
    (l_l_names : K.lookup f_l_names = some ⟨oc_l_names, od_l_names, .func (PySem.W.fnOf "_law_names" "_law_names" (defArgs s_l_names) (defBody s_l_names) (defScope s_l_names) .none kV_l_names dc_l_names pm_l_names an_l_names cd_l_names ct_l_names), sl_l_names⟩)
    (d_l_names : PySem.W.codeIn K cd_l_names "_law_names" = true)
    (k_l_names : PySem.W.keepIn K (.ref f_l_names) = true)
    (n_l_odd : PySem.W.nsIn K mainGlobals "_law_odd" = some (some (.ref f_l_odd)))
    (l_l_odd : K.lookup f_l_odd = some ⟨oc_l_odd, od_l_odd, .func (PySem.W.fnOf "_law_odd" "_law_odd" (defArgs s_l_odd) (defBody s_l_odd) (defScope s_l_odd) .none kV_l_odd dc_l_odd pm_l_odd an_l_odd cd_l_odd ct_l_odd), sl_l_odd⟩)
    (d_l_odd : PySem.W.codeIn K cd_l_odd "_law_odd" = true)
    (k_l_odd : PySem.W.keepIn K (.ref f_l_odd) = true)
    (n_l_spoilt : PySem.W.nsIn K mainGlobals "_law_spoilt" = some (some (.ref f_l_spoilt)))
    (l_l_spoilt : K.lookup f_l_spoilt = some ⟨oc_l_spoilt, od_l_spoilt, .func (PySem.W.fnOf "_law_spoilt" "_law_spoilt" (defArgs s_l_spoilt) (defBody s_l_spoilt) (defScope s_l_spoilt) .none kV_l_spoilt dc_l_spoilt pm_l_spoilt an_l_spoilt cd_l_spoilt ct_l_spoilt), sl_l_spoilt⟩)
    (d_l_spoilt : PySem.W.codeIn K cd_l_spoilt "_law_spoilt" = true)
    (k_l_spoilt : PySem.W.keepIn K (.ref f_l_spoilt) = true)
    (n_l_is_name : PySem.W.nsIn K mainGlobals "_law_is_name" = some (some (.ref f_l_is_name)))
    (l_l_is_name : K.lookup f_l_is_name = some ⟨oc_l_is_name, od_l_is_name, .func (PySem.W.fnOf "_law_is_name" "_law_is_name" (defArgs s_l_is_name) (defBody s_l_is_name) (defScope s_l_is_name) .none kV_l_is_name dc_l_is_name pm_l_is_name an_l_is_name cd_l_is_name ct_l_is_name), sl_l_is_name⟩)
    (d_l_is_name : PySem.W.codeIn K cd_l_is_name "_law_is_name" = true)
    (k_l_is_name : PySem.W.keepIn K (.ref f_l_is_name) = true)
    (n_l_is_id : PySem.W.nsIn K mainGlobals "_law_is_id" = some (some (.ref f_l_is_id)))
    (l_l_is_id : K.lookup f_l_is_id = some ⟨oc_l_is_id, od_l_is_id, .func (PySem.W.fnOf "_law_is_id" "_law_is_id" (defArgs s_l_is_id) (defBody s_l_is_id) (defScope s_l_is_id) .none kV_l_is_id dc_l_is_id pm_l_is_id an_l_is_id cd_l_is_id ct_l_is_id), sl_l_is_id⟩)
    (d_l_is_id : PySem.W.codeIn K cd_l_is_id "_law_is_id" = true)
    (k_l_is_id : PySem.W.keepIn K (.ref f_l_is_id) = true)
    (n_l_is_tag_name : PySem.W.nsIn K mainGlobals "_law_is_tag_name" = some (some (.ref f_l_is_tag_name)))
    (l_l_is_tag_name : K.lookup f_l_is_tag_name = some ⟨oc_l_is_tag_name, od_l_is_tag_name, .func (PySem.W.fnOf "_law_is_tag_name" "_law_is_tag_name" (defArgs s_l_is_tag_name) (defBody s_l_is_tag_name) (defScope s_l_is_tag_name) .none kV_l_is_tag_name dc_l_is_tag_name pm_l_is_tag_name an_l_is_tag_name cd_l_is_tag_name ct_l_is_tag_name), sl_l_is_tag_name⟩)
    (d_l_is_tag_name : PySem.W.codeIn K cd_l_is_tag_name "_law_is_tag_name" = true)
    (k_l_is_tag_name : PySem.W.keepIn K (.ref f_l_is_tag_name) = true)
    (n_l_dues : PySem.W.nsIn K mainGlobals "_law_dues" = some (some (.ref f_l_dues)))
    (l_l_dues : K.lookup f_l_dues = some ⟨oc_l_dues, od_l_dues, .func (PySem.W.fnOf "_law_dues" "_law_dues" (defArgs s_l_dues) (defBody s_l_dues) (defScope s_l_dues) .none kV_l_dues dc_l_dues pm_l_dues an_l_dues cd_l_dues ct_l_dues), sl_l_dues⟩)
    (d_l_dues : PySem.W.codeIn K cd_l_dues "_law_dues" = true)
    (k_l_dues : PySem.W.keepIn K (.ref f_l_dues) = true)
    (n_law : PySem.W.nsIn K mainGlobals "law" = some (some (.ref f_law)))
    (l_law : K.lookup f_law = some ⟨oc_law, od_law, .func (PySem.W.fnOf "law" "law" (defArgs s_law) (defBody s_law) (defScope s_law) .none kV_law dc_law pm_law an_law cd_law ct_law), sl_law⟩)
    (d_law : PySem.W.codeIn K cd_law "law" = true)
    (k_law : PySem.W.keepIn K (.ref f_law) = true)
    (z_len : PySem.W.nsIn K mainGlobals "len" = some none)
    (z_isinstance : PySem.W.nsIn K mainGlobals "isinstance" = some none)
    (z_str : PySem.W.nsIn K mainGlobals "str" = some none)
    (z_int : PySem.W.nsIn K mainGlobals "int" = some none)
    (z_bool : PySem.W.nsIn K mainGlobals "bool" = some none)
    (z_list : PySem.W.nsIn K mainGlobals "list" = some none)
    (z_tuple : PySem.W.nsIn K mainGlobals "tuple" = some none)
    (z_dict : PySem.W.nsIn K mainGlobals "dict" = some none)
    (z_set : PySem.W.nsIn K mainGlobals "set" = some none)
    (z_all : PySem.W.nsIn K mainGlobals "all" = some none)
    (z_any : PySem.W.nsIn K mainGlobals "any" = some none)
    (z_max : PySem.W.nsIn K mainGlobals "max" = some none)
    (z_min : PySem.W.nsIn K mainGlobals "min" = some none)
    (z_sum : PySem.W.nsIn K mainGlobals "sum" = some none)
    (z_sorted : PySem.W.nsIn K mainGlobals "sorted" = some none)
    (z_range : PySem.W.nsIn K mainGlobals "range" = some none)
    (z_enumerate : PySem.W.nsIn K mainGlobals "enumerate" = some none)
    (z_zip : PySem.W.nsIn K mainGlobals "zip" = some none)
    (z_repr : PySem.W.nsIn K mainGlobals "repr" = some none)
    (z_abs : PySem.W.nsIn K mainGlobals "abs" = some none)
    (co_mL : PySem.W.nsIn K mainGlobals "LETTERS" = some (some (.str "abcdefghijklmnopqrstuvwxyz" tk_mL)))
    (co_mM : PySem.W.nsIn K mainGlobals "MODES" = some (some (.ref a_mM)))
    (lk_mM : K.lookup a_mM = some ⟨.type "tuple", none, .seq #[.str "each" t1_mM, .str "now" t2_mM, .str "late" t3_mM] n_mM, s_mM⟩) :
    ∃ fd : FuncData, (∀ (s : Shared) (v : Value), BindsTo s fd ⟨[v], []⟩ [("_law_script", v)]) ∧ ∀ base : Heap, K.In base → base.Ns mainGlobals mg → FnG P w K mg base CX0 25 fa fd ["_law_script"] (spLaw K) := by
  have e := hfa.symm.trans (PySem.W.mg_of X G n_law)
  cases e
  have F_l_bag := fun_mk (st := sBag) l_l_bag d_l_bag k_l_bag
  have b_l_bag := F_l_bag.binds (ps := ["_law_script"]) fun _ _ _ _ _ _ us hl => match us, hl with | [_], _ => rfl
  have m_l_bag : mg "_law_bag" = some (.ref f_l_bag) := PySem.W.mg_of X G n_l_bag
  have F_l_take := fun_mk (st := sTake) l_l_take d_l_take k_l_take
  have b_l_take := F_l_take.binds (ps := ["_law_bag_here", "_law_many"]) fun _ _ _ _ _ _ us hl => match us, hl with | [_, _], _ => rfl
  have m_l_take : mg "_law_take" = some (.ref f_l_take) := PySem.W.mg_of X G n_l_take
  have F_is_integer := fun_mk (st := s_is_integer) l_is_integer d_is_integer k_is_integer
  have b_is_integer := F_is_integer.binds (ps := ["thing"]) fun _ _ _ _ _ _ us hl => match us, hl with | [_], _ => rfl
  have m_is_integer : mg "is_integer" = some (.ref f_is_integer) := PySem.W.mg_of X G n_is_integer
  have F_is_name := fun_mk (st := s_is_name) l_is_name d_is_name k_is_name
  have b_is_name := F_is_name.binds (ps := ["thing"]) fun _ _ _ _ _ _ us hl => match us, hl with | [_], _ => rfl
  have m_is_name : mg "is_name" = some (.ref f_is_name) := PySem.W.mg_of X G n_is_name
  have F_is_new_id := fun_mk (st := s_is_new_id) l_is_new_id d_is_new_id k_is_new_id
  have b_is_new_id := F_is_new_id.binds (ps := ["thing"]) fun _ _ _ _ _ _ us hl => match us, hl with | [_], _ => rfl
  have m_is_new_id : mg "is_new_id" = some (.ref f_is_new_id) := PySem.W.mg_of X G n_is_new_id
  have F_is_id := fun_mk (st := s_is_id) l_is_id d_is_id k_is_id
  have b_is_id := F_is_id.binds (ps := ["thing"]) fun _ _ _ _ _ _ us hl => match us, hl with | [_], _ => rfl
  have m_is_id : mg "is_id" = some (.ref f_is_id) := PySem.W.mg_of X G n_is_id
  have F_is_tag_name := fun_mk (st := s_is_tag_name) l_is_tag_name d_is_tag_name k_is_tag_name
  have b_is_tag_name := F_is_tag_name.binds (ps := ["thing"]) fun _ _ _ _ _ _ us hl => match us, hl with | [_], _ => rfl
  have m_is_tag_name : mg "is_tag_name" = some (.ref f_is_tag_name) := PySem.W.mg_of X G n_is_tag_name
  have F_new_id := fun_mk (st := s_new_id) l_new_id d_new_id k_new_id
  have b_new_id := F_new_id.binds (ps := ["handle"]) fun _ _ _ _ _ _ us hl => match us, hl with | [_], _ => rfl
  have m_new_id : mg "new_id" = some (.ref f_new_id) := PySem.W.mg_of X G n_new_id
  have F_own_name := fun_mk (st := s_own_name) l_own_name d_own_name k_own_name
  have b_own_name := F_own_name.binds (ps := ["handle", "field"]) fun _ _ _ _ _ _ us hl => match us, hl with | [_, _], _ => rfl
  have m_own_name : mg "own_name" = some (.ref f_own_name) := PySem.W.mg_of X G n_own_name
  have F_is_mode := fun_mk (st := s_is_mode) l_is_mode d_is_mode k_is_mode
  have b_is_mode := F_is_mode.binds (ps := ["thing"]) fun _ _ _ _ _ _ us hl => match us, hl with | [_], _ => rfl
  have m_is_mode : mg "is_mode" = some (.ref f_is_mode) := PySem.W.mg_of X G n_is_mode
  have F_less := fun_mk (st := s_less) l_less d_less k_less
  have b_less := F_less.binds (ps := ["one", "other"]) fun _ _ _ _ _ _ us hl => match us, hl with | [_, _], _ => rfl
  have m_less : mg "less" = some (.ref f_less) := PySem.W.mg_of X G n_less
  have F_l_alike := fun_mk (st := s_l_alike) l_l_alike d_l_alike k_l_alike
  have b_l_alike := F_l_alike.binds (ps := ["_law_found", "_law_due"]) fun _ _ _ _ _ _ us hl => match us, hl with | [_, _], _ => rfl
  have m_l_alike : mg "_law_alike" = some (.ref f_l_alike) := PySem.W.mg_of X G n_l_alike
  have F_l_names := fun_mk (st := s_l_names) l_l_names d_l_names k_l_names
  have b_l_names := F_l_names.binds (ps := ["_law_bag_here", "_law_many"]) fun _ _ _ _ _ _ us hl => match us, hl with | [_, _], _ => rfl
  have m_l_names : mg "_law_names" = some (.ref f_l_names) := PySem.W.mg_of X G n_l_names
  have F_l_odd := fun_mk (st := s_l_odd) l_l_odd d_l_odd k_l_odd
  have b_l_odd := F_l_odd.binds (ps := ["_law_bag_here"]) fun _ _ _ _ _ _ us hl => match us, hl with | [_], _ => rfl
  have m_l_odd : mg "_law_odd" = some (.ref f_l_odd) := PySem.W.mg_of X G n_l_odd
  have F_l_spoilt := fun_mk (st := s_l_spoilt) l_l_spoilt d_l_spoilt k_l_spoilt
  have b_l_spoilt := F_l_spoilt.binds (ps := ["_law_bag_here", "_law_thing"]) fun _ _ _ _ _ _ us hl => match us, hl with | [_, _], _ => rfl
  have m_l_spoilt : mg "_law_spoilt" = some (.ref f_l_spoilt) := PySem.W.mg_of X G n_l_spoilt
  have F_l_is_name := fun_mk (st := s_l_is_name) l_l_is_name d_l_is_name k_l_is_name
  have b_l_is_name := F_l_is_name.binds (ps := ["_law_thing"]) fun _ _ _ _ _ _ us hl => match us, hl with | [_], _ => rfl
  have m_l_is_name : mg "_law_is_name" = some (.ref f_l_is_name) := PySem.W.mg_of X G n_l_is_name
  have F_l_is_id := fun_mk (st := s_l_is_id) l_l_is_id d_l_is_id k_l_is_id
  have b_l_is_id := F_l_is_id.binds (ps := ["_law_thing"]) fun _ _ _ _ _ _ us hl => match us, hl with | [_], _ => rfl
  have m_l_is_id : mg "_law_is_id" = some (.ref f_l_is_id) := PySem.W.mg_of X G n_l_is_id
  have F_l_is_tag_name := fun_mk (st := s_l_is_tag_name) l_l_is_tag_name d_l_is_tag_name k_l_is_tag_name
  have b_l_is_tag_name := F_l_is_tag_name.binds (ps := ["_law_thing"]) fun _ _ _ _ _ _ us hl => match us, hl with | [_], _ => rfl
  have m_l_is_tag_name : mg "_law_is_tag_name" = some (.ref f_l_is_tag_name) := PySem.W.mg_of X G n_l_is_tag_name
  have F_l_dues := fun_mk (st := s_l_dues) l_l_dues d_l_dues k_l_dues
  have b_l_dues := F_l_dues.binds (ps := ["_law_thing"]) fun _ _ _ _ _ _ us hl => match us, hl with | [_], _ => rfl
  have m_l_dues : mg "_law_dues" = some (.ref f_l_dues) := PySem.W.mg_of X G n_l_dues
  have F_law := fun_mk (st := s_law) l_law d_law k_law
  have b_law := F_law.binds (ps := ["_law_script"]) fun _ _ _ _ _ _ us hl => match us, hl with | [_], _ => rfl
  have y_len : mg "len" = none := PySem.W.mg_none_of X G z_len
  have y_isinstance : mg "isinstance" = none := PySem.W.mg_none_of X G z_isinstance
  have y_str : mg "str" = none := PySem.W.mg_none_of X G z_str
  have y_int : mg "int" = none := PySem.W.mg_none_of X G z_int
  have y_bool : mg "bool" = none := PySem.W.mg_none_of X G z_bool
  have y_list : mg "list" = none := PySem.W.mg_none_of X G z_list
  have y_tuple : mg "tuple" = none := PySem.W.mg_none_of X G z_tuple
  have y_dict : mg "dict" = none := PySem.W.mg_none_of X G z_dict
  have y_set : mg "set" = none := PySem.W.mg_none_of X G z_set
  have y_all : mg "all" = none := PySem.W.mg_none_of X G z_all
  have y_any : mg "any" = none := PySem.W.mg_none_of X G z_any
  have y_max : mg "max" = none := PySem.W.mg_none_of X G z_max
  have y_min : mg "min" = none := PySem.W.mg_none_of X G z_min
  have y_sum : mg "sum" = none := PySem.W.mg_none_of X G z_sum
  have y_sorted : mg "sorted" = none := PySem.W.mg_none_of X G z_sorted
  have y_range : mg "range" = none := PySem.W.mg_none_of X G z_range
  have y_enumerate : mg "enumerate" = none := PySem.W.mg_none_of X G z_enumerate
  have y_zip : mg "zip" = none := PySem.W.mg_none_of X G z_zip
  have y_repr : mg "repr" = none := PySem.W.mg_none_of X G z_repr
  have y_abs : mg "abs" = none := PySem.W.mg_none_of X G z_abs
  have b : Blt mg := ⟨y_len, y_isinstance, y_str, y_int, y_bool, y_list, y_tuple, y_dict, y_set, y_all, y_any, y_max, y_min, y_sum, y_sorted, y_range, y_enumerate, y_zip, y_repr, y_abs⟩
  have mL : mg "LETTERS" = some (.str "abcdefghijklmnopqrstuvwxyz" tk_mL) := PySem.W.mg_of X G co_mL
  have mM : ModesAt K mg a_mM := ⟨PySem.W.mg_of X G co_mM, _, _, _, _, _, lk_mM⟩
  refine ⟨PySem.W.fnOf "law" "law" (defArgs s_law) (defBody s_law) (defScope s_law) .none kV_law dc_law pm_law an_law cd_law ct_law, fun s v => .of_eq rfl, fun base _ _ => ?_⟩
  have h_bag : FfB P w K mg base f_l_bag _ := ⟨ok_bag F_l_bag y_abs, b_l_bag, m_l_bag, k_l_bag⟩
  have h_l_take : Fnc P w K mg base "_law_take" 1 ["_law_bag_here", "_law_many"] p_take f_l_take _ := ⟨w_take F_l_take b, b_l_take, m_l_take, k_l_take⟩
  have h_is_integer : Fnc P w K mg base "is_integer" 1 ["thing"] p_is_integer f_is_integer _ := ⟨w_is_integer (P := P) (w := w) (base := base) F_is_integer b, b_is_integer, m_is_integer, k_is_integer⟩
  have h_is_name : Fnc P w K mg base "is_name" 1 ["thing"] p_is_name f_is_name _ := ⟨w_is_name (P := P) (w := w) (base := base) F_is_name b mL, b_is_name, m_is_name, k_is_name⟩
  have h_is_new_id : Fnc P w K mg base "is_new_id" 2 ["thing"] p_is_new_id f_is_new_id _ := ⟨w_is_new_id (P := P) (w := w) (base := base) F_is_new_id b h_is_name, b_is_new_id, m_is_new_id, k_is_new_id⟩
  have h_is_id : Fnc P w K mg base "is_id" 3 ["thing"] p_is_id f_is_id _ := ⟨w_is_id (P := P) (w := w) (base := base) F_is_id h_is_name h_is_new_id, b_is_id, m_is_id, k_is_id⟩
  have h_is_tag_name : Fnc P w K mg base "is_tag_name" 2 ["thing"] p_is_tag_name f_is_tag_name _ := ⟨w_is_tag_name (P := P) (w := w) (base := base) F_is_tag_name b h_is_name, b_is_tag_name, m_is_tag_name, k_is_tag_name⟩
  have h_new_id : Fnc P w K mg base "new_id" 1 ["handle"] p_new_id f_new_id _ := ⟨w_new_id (P := P) (w := w) (base := base) F_new_id , b_new_id, m_new_id, k_new_id⟩
  have h_own_name : Fnc P w K mg base "own_name" 1 ["handle", "field"] p_own_name f_own_name _ := ⟨w_own_name (P := P) (w := w) (base := base) F_own_name , b_own_name, m_own_name, k_own_name⟩
  have h_is_mode : Fnc P w K mg base "is_mode" 1 ["thing"] p_is_mode f_is_mode _ := ⟨w_is_mode (P := P) (w := w) (base := base) F_is_mode b mM, b_is_mode, m_is_mode, k_is_mode⟩
  have h_less : Fnc P w K mg base "less" 1 ["one", "other"] p_less f_less _ := ⟨w_less (P := P) (w := w) (base := base) F_less mM, b_less, m_less, k_less⟩
  have h_l_alike : Fnc P w K mg base "_law_alike" 1 ["_law_found", "_law_due"] p_l_alike f_l_alike _ := ⟨w_l_alike (P := P) (w := w) (base := base) F_l_alike b, b_l_alike, m_l_alike, k_l_alike⟩
  have h_l_names : Fnc P w K mg base "_law_names" 2 ["_law_bag_here", "_law_many"] p_l_names f_l_names _ := ⟨w_l_names (P := P) (w := w) (base := base) F_l_names b h_l_take, b_l_names, m_l_names, k_l_names⟩
  have h_l_odd : Fnc P w K mg base "_law_odd" 2 ["_law_bag_here"] p_l_odd f_l_odd _ := ⟨w_l_odd (P := P) (w := w) (base := base) F_l_odd b h_l_take, b_l_odd, m_l_odd, k_l_odd⟩
  have w_l_spoilt := w_l_spoilt (P := P) (w := w) (base := base) F_l_spoilt b_l_spoilt m_l_spoilt k_l_spoilt b h_l_take h_l_odd 16
  have h_l_spoilt : Fnc P w K mg base "_law_spoilt" 24 ["_law_bag_here", "_law_thing"] (p_l_spoilt w 16) f_l_spoilt _ := ⟨w_l_spoilt, b_l_spoilt, m_l_spoilt, k_l_spoilt⟩
  have h_l_is_name : Fnc P w K mg base "_law_is_name" 1 ["_law_thing"] p_l_is_name f_l_is_name _ := ⟨w_l_is_name (P := P) (w := w) (base := base) F_l_is_name b, b_l_is_name, m_l_is_name, k_l_is_name⟩
  have h_l_is_id : Fnc P w K mg base "_law_is_id" 2 ["_law_thing"] p_l_is_id f_l_is_id _ := ⟨w_l_is_id (P := P) (w := w) (base := base) F_l_is_id b h_l_is_name, b_l_is_id, m_l_is_id, k_l_is_id⟩
  have h_l_is_tag_name : Fnc P w K mg base "_law_is_tag_name" 2 ["_law_thing"] p_l_is_tag_name f_l_is_tag_name _ := ⟨w_l_is_tag_name (P := P) (w := w) (base := base) F_l_is_tag_name b h_l_is_name, b_l_is_tag_name, m_l_is_tag_name, k_l_is_tag_name⟩
  have h_l_dues : Fnc P w K mg base "_law_dues" 3 ["_law_thing"] p_l_dues f_l_dues _ := ⟨w_l_dues (P := P) (w := w) (base := base) F_l_dues b h_l_is_name h_l_is_tag_name h_l_is_id, b_l_dues, m_l_dues, k_l_dues⟩
  exact w_law F_law h_bag b h_l_names h_l_odd h_own_name h_new_id h_l_take h_l_spoilt h_is_mode h_is_tag_name h_is_new_id h_is_id h_is_name h_is_integer h_l_alike h_l_dues h_less (law_ok w)
theorem walk {l : PySem.W.OpenLaw} {q : Program} {loose : List Str} {XP : (Str → Option Value) → Heap → Prop} {YP : World → Heap → Prop} {d : DefRec} {K : Params → PySem.W.Frag} (hn : l.most = some 63) (hdf : d.params.defaults = [])
    (hY : ∀ (w : World) (h : Heap), YP w h → (K w.params).In h)
    (F : ∀ (w : World) (mg : Str → Option Value) (fa : Addr) (h : Heap), (K w.params).In h → h.Ns mainGlobals mg → mg d.name = some (.ref fa) →
      ∃ fd : FuncData, (∀ (s : Shared) (u : Value), BindsTo s fd ⟨[u], []⟩ [("_law_script", u)]) ∧ ∀ base : Heap, (K w.params).In base → base.Ns mainGlobals mg → FnG l.prog w (K w.params) mg base CX0 25 fa fd ["_law_script"] (spLaw (K w.params))) :
    PySem.W.WalkO q loose XP YP l.row.toRowW d [] (fun f vs => PySem.call f vs) :=
  walk_ofG (n := 63) (k := 25) (x := "_law_script") (CX := fun _ => CX0) (sp := fun w => spLaw (K w.params)) hn (by decide) hdf ⟨rfl, by decide, by decide⟩ hY F (fun _ _ a ns hl _ hS => ⟨a, ns, rfl, hS, hl, fun _ => rfl⟩) fun _ _ _ _ _ z => z
end EW
set_option Elab.async false
set_option linter.all false
set_option maxRecDepth 100000
open PySem PySem.W PyProof.Rows in
set_option maxRecDepth 100000 in
set_option maxHeartbeats 0 in
theorem PySem.Challenge.cw_endchecks_k11_names_and_modes_holds : PySem.Challenge.rw_endchecks_k11_names_and_modes.Holds := by
  w_on; o_law; k_head; (case hw => w_witness2)
  k_fill
  refine EW.walk (l := PySem.Challenge.rw_endchecks_k11_names_and_modes) rfl rfl (fun w h Y => PySem.W.kIn_of Y) ?F
  case F =>
    intro w mg fa h KX G hmg
    refine' EW.all_mk KX G hmg ?n_l_bag ?l_l_bag ?d_l_bag ?k_l_bag ?n_l_take ?l_l_take ?d_l_take ?k_l_take ?n_is_integer ?l_is_integer ?d_is_integer ?k_is_integer ?n_is_name ?l_is_name ?d_is_name ?k_is_name ?n_is_new_id ?l_is_new_id ?d_is_new_id ?k_is_new_id ?n_is_id ?l_is_id ?d_is_id ?k_is_id ?n_is_tag_name ?l_is_tag_name ?d_is_tag_name ?k_is_tag_name ?n_new_id ?l_new_id ?d_new_id ?k_new_id ?n_own_name ?l_own_name ?d_own_name ?k_own_name ?n_is_mode ?l_is_mode ?d_is_mode ?k_is_mode ?n_less ?l_less ?d_less ?k_less ?n_l_alike ?l_l_alike ?d_l_alike ?k_l_alike ?n_l_names ?l_l_names ?d_l_names ?k_l_names ?n_l_odd ?l_l_odd ?d_l_odd ?k_l_odd ?n_l_spoilt ?l_l_spoilt ?d_l_spoilt ?k_l_spoilt ?n_l_is_name ?l_l_is_name ?d_l_is_name ?k_l_is_name ?n_l_is_id ?l_l_is_id ?d_l_is_id ?k_l_is_id ?n_l_is_tag_name ?l_l_is_tag_name ?d_l_is_tag_name ?k_l_is_tag_name ?n_l_dues ?l_l_dues ?d_l_dues ?k_l_dues ?n_law ?l_law ?d_law ?k_law ?z_len ?z_isinstance ?z_str ?z_int ?z_bool ?z_list ?z_tuple ?z_dict ?z_set ?z_all ?z_any ?z_max ?z_min ?z_sum ?z_sorted ?z_range ?z_enumerate ?z_zip ?z_repr ?z_abs ?co_mL ?co_mM ?lk_mM
    (case n_l_bag => k_is)
    (case l_l_bag => k_is)
    (case d_l_bag => k_is)
    (case k_l_bag => k_is)
    (case n_l_take => k_is)
    (case l_l_take => k_is)
    (case d_l_take => k_is)
    (case k_l_take => k_is)
    (case n_is_integer => k_is)
    (case l_is_integer => k_is)
    (case d_is_integer => k_is)
    (case k_is_integer => k_is)
    (case n_is_name => k_is)
    (case l_is_name => k_is)
    (case d_is_name => k_is)
    (case k_is_name => k_is)
    (case n_is_new_id => k_is)
    (case l_is_new_id => k_is)
    (case d_is_new_id => k_is)
    (case k_is_new_id => k_is)
    (case n_is_id => k_is)
    (case l_is_id => k_is)
    (case d_is_id => k_is)
    (case k_is_id => k_is)
    (case n_is_tag_name => k_is)
    (case l_is_tag_name => k_is)
    (case d_is_tag_name => k_is)
    (case k_is_tag_name => k_is)
    (case n_new_id => k_is)
    (case l_new_id => k_is)
    (case d_new_id => k_is)
    (case k_new_id => k_is)
    (case n_own_name => k_is)
    (case l_own_name => k_is)
    (case d_own_name => k_is)
    (case k_own_name => k_is)
    (case n_is_mode => k_is)
    (case l_is_mode => k_is)
    (case d_is_mode => k_is)
    (case k_is_mode => k_is)
    (case n_less => k_is)
    (case l_less => k_is)
    (case d_less => k_is)
    (case k_less => k_is)
    (case n_l_alike => k_is)
    (case l_l_alike => k_is)
    (case d_l_alike => k_is)
    (case k_l_alike => k_is)
    (case n_l_names => k_is)
    (case l_l_names => k_is)
    (case d_l_names => k_is)
    (case k_l_names => k_is)
    (case n_l_odd => k_is)
    (case l_l_odd => k_is)
    (case d_l_odd => k_is)
    (case k_l_odd => k_is)
    (case n_l_spoilt => k_is)
    (case l_l_spoilt => k_is)
    (case d_l_spoilt => k_is)
    (case k_l_spoilt => k_is)
    (case n_l_is_name => k_is)
    (case l_l_is_name => k_is)
    (case d_l_is_name => k_is)
    (case k_l_is_name => k_is)
    (case n_l_is_id => k_is)
    (case l_l_is_id => k_is)
    (case d_l_is_id => k_is)
    (case k_l_is_id => k_is)
    (case n_l_is_tag_name => k_is)
    (case l_l_is_tag_name => k_is)
    (case d_l_is_tag_name => k_is)
    (case k_l_is_tag_name => k_is)
    (case n_l_dues => k_is)
    (case l_l_dues => k_is)
    (case d_l_dues => k_is)
    (case k_l_dues => k_is)
    (case n_law => k_is)
    (case l_law => k_is)
    (case d_law => k_is)
    (case k_law => k_is)
    (case z_len => k_is)
    (case z_isinstance => k_is)
    (case z_str => k_is)
    (case z_int => k_is)
    (case z_bool => k_is)
    (case z_list => k_is)
    (case z_tuple => k_is)
    (case z_dict => k_is)
    (case z_set => k_is)
    (case z_all => k_is)
    (case z_any => k_is)
    (case z_max => k_is)
    (case z_min => k_is)
    (case z_sum => k_is)
    (case z_sorted => k_is)
    (case z_range => k_is)
    (case z_enumerate => k_is)
    (case z_zip => k_is)
    (case z_repr => k_is)
    (case z_abs => k_is)
    (case co_mL => k_is)
    (case co_mM => k_is)
    (case lk_mM => k_is)
#print axioms PySem.Challenge.cw_endchecks_k11_names_and_modes_holds
