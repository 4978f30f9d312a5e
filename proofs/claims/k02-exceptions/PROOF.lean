import PyProof.Rows.All
import Wide.All
import OpenK.AllK
import Wide.FinOn
import HandS.ForMost
import HandS.ForExc
import HandS.Defaults
import KE.KExcSuper
import KE.KSuper
import HandS.HeadHook1
import HandS.HeadHook2
import HandS.HeadHook3
import HandS.HeadHook4
import HandS.IsInst
import HandS.More
import HandS.ExcValue
import KE.KExcIs
import HandS.Head0
import HandS.Head1
import HandS.Head2
import PySem.Challenge.RW_meetcells_k02_exceptions_apart
import HandS.HeadEnd
import HandS.StrMore
import KE.GoesComp
import KE.GoesMore
import PyProof.RulesMatch
import HandS.DictComp
import HandS.Walk
import KE.SortData
import KE.DataCmp
import PyProof.Rows.SortWalk
import HandS.TupLen
import HandS.WordsDict
import KE.LtData
import HandS.MakeKwOnly
import KE.DataEq
import KE.DataFind
import HandS.Style
import KE.DataMinMax
import HandS.TupSets
import HandS.Hot
import HandS.HotCalls
import HandS.ExcCtx
import HandS.Words
set_option Elab.async false
set_option linter.all false
set_option maxRecDepth 100000
set_option maxHeartbeats 0
/-! McRepr: repr(x) of data at any depth, as a rule of the hand layer; a def's promise where no repr is under way around it (FnG). -/
namespace Mc
open PySem PySem.Spec PyProof.Rows L2

/-- a datum: what Dp tells, or an empty dict -/
inductive Dq (K : PySem.W.Frag) (H : Hp) : V → PyData → Prop
  | dp {v : V} {d : PyData} (h : Dp K H v d) : Dq K H v d
  | dic {a : Addr} (h : H a = some (.dK [])) : Dq K H (.ref a) (.dict [])

/-- it may be shown: its ints have few digits, its text fits, it is not deep -/
structure Shows (d : PyData) : Prop where
  sh : d.showable = true
  len : d.shown.length ≤ sizeLine
  dep : d.depth ≤ 60

/-- repr(x) -/
def rRepr (K : PySem.W.Frag) : List V → Hp → VK → Prop := fun xs H Q => ∃ (v : V) (d : PyData), xs = [v] ∧ Dq K H v d ∧ Shows d ∧ Q (.str d.shown) H

section
variable {X : Cx}
mutual
theorem noDict_dp {K : PySem.W.Frag} {H : Hp} : ∀ (d : PyData) (v : V), Dp K H v d → d.hasDict = false
  | .none, _, _ => by simp only [PyData.hasDict]
  | .bool _, _, _ => by simp only [PyData.hasDict]
  | .int _, _, _ => by simp only [PyData.hasDict]
  | .str _, _, _ => by simp only [PyData.hasDict]
  | .list ds, _, h => by
    cases h with
    | lst _ r => simp only [PyData.hasDict, noDict_all ds _ r]
  | .tuple ds, _, h => by
    cases h with
    | tup _ r => simp only [PyData.hasDict, noDict_all ds _ r]
  | .dict _, _, h => by cases h
theorem noDict_all {K : PySem.W.Frag} {H : Hp} : ∀ (ds : List PyData) (vs : List V), DpAll K H vs ds → PyData.hasDictAll ds = false
  | [], _, _ => by simp only [PyData.hasDictAll]
  | d :: ds, _, h => by
    cases h with
    | cons h1 h2 => simp only [PyData.hasDictAll, noDict_dp d _ h1, noDict_all ds _ h2, Bool.or_self]
end

theorem call_repr (hg : X.A.guards = some []) (hu : X.A.units + 64 < cLine) : CallR X (.builtin "repr") (rRepr X.K) := by
  intro pins s σ H xs us Q I r h
  obtain ⟨v, d, rfl, hd, hs, q⟩ := h
  obtain ⟨u, rfl, ru⟩ := vals1 r
  cases hd with
  | dp hd =>
    obtain ⟨as, R⟩ := Dp.reads I d v u hd ru
    have hnd := noDict_dp d v hd
    cases hd with
    | non =>
      cases ru
      refine PySem.P.repr_of_none ⟨.str _, H, I.tok _, ⟨_, rfl⟩, ?_⟩
      simpa only [PyData.shown] using q
    | bl b =>
      cases ru
      refine PySem.P.repr_of_bool ⟨.str _, H, I.tok _, ⟨_, rfl⟩, ?_⟩
      simpa only [PyData.shown] using q
    | int i =>
      obtain ⟨t, rfl⟩ := ru
      refine PySem.P.repr_of_int (by simpa [PyData.showable] using hs.sh) ⟨.str _, H, I.tok _, ⟨_, rfl⟩, ?_⟩
      simpa only [PyData.shown] using q
    | str x =>
      obtain ⟨t, rfl⟩ := ru
      refine PySem.P.repr_of_str ⟨.str _, H, I.tok _, ⟨_, rfl⟩, ?_⟩ (by simpa only [PyData.shown] using hs.len)
      simpa only [PyData.shown] using q
    | lst _ _ =>
      cases ru
      exact repr_of_reads' R hs.sh (PyData.noDict_hsm hnd) hg (by have := hs.dep; omega) (fun _ _ e => e) (fun h' w tk k => ⟨.str _, H, I.kept k, ⟨_, rfl⟩, q⟩) hs.len
    | tup _ _ =>
      cases ru
      exact repr_of_reads' R hs.sh (PyData.noDict_hsm hnd) hg (by have := hs.dep; omega) (fun _ _ e => e) (fun h' w tk k => ⟨.str _, H, I.kept k, ⟨_, rfl⟩, q⟩) hs.len
  | @dic a ha =>
    cases ru
    obtain ⟨_, hsm, vs, hkv, o, es, ep, ho, hx, hdat, _, hp, _⟩ := (show ObjOk X.prog X.w H s.heap a (.dK []) from I.hok a _ ha)
    cases hkv
    have hnil : es = #[] := by
      have z : es.toList.length = 0 := by
        have := hp.length
        simpa using this
      exact Array.eq_empty_of_size_eq_zero (by simpa using z)
    subst hnil
    have R : Reads s.heap (.ref a) (.dict []) ([a] ++ [] ++ []) := Reads.dict ho hx.1 hdat ReadsAll.nil ReadsAll.nil
    have hna : a ≠ sysModules := fun z => by
      rw [z] at hsm
      simp at hsm
    exact repr_of_reads' R hs.sh (fun _ z => by simp at z; exact hna z.symm) hg (by have := hs.dep; omega) (fun _ _ e => e) (fun h' w tk k => ⟨.str _, H, I.kept k, ⟨_, rfl⟩, q⟩) hs.len
end

/-! ### a def's promise, where no repr is under way around it -/
/-- the def at f keeps sp when called by position, in a state in which no list or tuple is being shown -/
def FnG (P : Program) (w : World) (K : PySem.W.Frag) (mg : Str → Option Value) (base : Heap) (C : CXT) (k : Nat) (f : Addr) (sp : Sp) : Prop :=
  ∀ (A : Around) (outer : List Env) (s : Shared) (H : Hp) (us : List Value) (vs : List V) (Q : VK) (E : XK), Room k A → A.guards = some [] →
    Env0 P w K mg base A outer s H → Vals vs us → sp vs H Q E → codeAny (model P w) A (.call (.ref f) ⟨us, []⟩) (CR C outer P w H s Q E) s
section
variable {P : Program} {w : World} {K : PySem.W.Frag} {mg : Str → Option Value} {base : Heap} {C : CXT} {j k : Nat} {f : Addr} {sp : Sp}
theorem FnG.up (F : FnG P w K mg base C j f sp) (h : j ≤ k) : FnG P w K mg base C k f sp :=
  fun A outer s H us vs Q E hr => F A outer s H us vs Q E (hr.mono h)
theorem fnG_of_ok {fd : FuncData} {ps : List Str} (F : FnOk P w K mg base C k f fd ps sp) (hb : Binds K fd ps []) : FnG P w K mg base C k f sp := by
  intro A outer s H us vs Q E hr _ e0 r hs
  have hl : us.length = ps.length := r.length ▸ F.len _ _ _ _ hs
  have KX : K.In s.heap := e0.mod.kin.keeps fun b o e => (e0.bs b o e).1
  have b := hb s us KX (by simpa using hl)
  rw [List.append_nil] at b
  exact F.run A outer s H ⟨us, []⟩ us vs Q E hr e0 b r hs
/-- a def by its body, told that nothing is being shown -/
theorem fnG_body {x qual : Str} {params : Arguments} {body : List Stmt} {scope : Scope} {dvs : List V} {kws : List (Str × V)} {fd : FuncData} {N ps : List Str}
    (F : FunD K x qual params body scope dvs kws f fd) (S : FnScope N ps scope) (hb : Binds K fd ps []) (len : ∀ vs H Q E, sp vs H Q E → vs.length = ps.length)
    (hbody : ∀ (cdv : Value) (A : Around) (outer : List Env) (s : Shared) (H : Hp) (vs : List V) (Q : VK) (E : XK),
      Room k (A.deeper (envOfC qual scope s.heap.objs.size f cdv)) → A.guards = some [] → sp vs H Q E →
      ∃ t, PSs (cxOf C P w K mg base N qual scope f cdv A outer s H E) body t ∧ t { nx := fun _ H' => Q .non H', rt := Q } (start N vs) H) :
    FnG P w K mg base C (k + 1) f sp := by
  obtain ⟨oc, od, dV, kV, doc, pm, an, cdv, ct, osl, rfl, lk, hcd, _, _⟩ := F.ex
  intro A outer s H us vs Q E hr hg e0 r hsp
  have hl := len _ _ _ _ hsp
  have stays : ∀ b o, base.get? b = some o → s.heap.get? b = some o := fun b o e => (e0.bs b o e).1
  have KX := e0.mod.kin.keeps stays
  have lim := e0.mod.nolimit.keeps stays
  have hul : us.length = ps.length := r.length ▸ hl
  have bind0 := hb s us KX (by simpa using hul)
  rw [List.append_nil] at bind0
  have kinds : ∀ y ∈ ps.zip us, scope.names.lookup y.1 = some .local ∨
      (scope.names.lookup y.1 = some .cell ∧ ((cellsFrom (s.heap.objs.size + 1) scope.names []).lookup y.1).isSome = true) := by
    intro y hy
    rcases S.par y.1 (List.of_mem_zip (a := y.1) (b := y.2) hy).1 with q | q
    · exact Or.inl q
    · exact Or.inr ⟨q, PySem.W.cellsFrom_some _ _ _ (Or.inl q)⟩
  refine codeAny_call_function hr.depth (KX _ _ lk) rfl S.co S.gen rfl (PySem.W.codeRec_of KX hcd) (bind0 _ _ _ _ ?_)
  refine wpAny_newFunctionEnv_cells S.kind kinds ?_
  rintro env rfl s1 ic
  refine ⟨lim.keeps ic.toInCall.keep, codeAny_func ?_⟩
  obtain ⟨t, ht, hq⟩ := hbody cdv A outer s H vs Q E (hr.deeper _) hg hsp
  have I := inv_start (CX := C) (N := N) (E := E) S hr.hd e0 hl r ic
  refine wpAny_mono (ht.run [] s1 (start N vs) H _ I hq) ?_ (fun _ _ z => z)
  intro fl s' hs
  cases fl with
  | ret u =>
    obtain ⟨v, σ', H', J, rv, q⟩ := hs
    exact ⟨v, H', J.os, J.bare, J.base, J.hok, rv, q⟩
  | next =>
    obtain ⟨σ', H', J, q⟩ := hs
    exact ⟨V.non, H', J.os, J.bare, J.base, J.hok, rfl, q⟩
  | brk =>
    obtain ⟨_, _, _, q⟩ := hs
    exact q.elim
  | cont =>
    obtain ⟨_, _, _, q⟩ := hs
    exact q.elim
end
section
variable {X : Cx} {C : CXT} {k : Nat} {f : Addr} {sp : Sp} {x : Str} {p pos : Pos} {e : Expr} {es : List Expr} {t : TA}
/-- f(e, ..) of such a def: what is raised is wished for at the caller's slots -/
theorem pe_callG {E : L2.St → XK} (F : FnG X.prog X.w X.K X.mg X.base C k f sp) (hr : Room k X.A) (hgd : X.A.guards = some []) (hg : Gl X x) (hm : X.mg x = some (.ref f))
    (hk : PySem.W.keepIn X.K (.ref f) = true) (hx : ∀ σ, PassesAt C X σ (E σ)) (ha : PA X (e :: es) t) (hdb : (x == ("__debug__" : Str)) = false := by decide)
    (he : starEach (e :: es) X.env = (false, eval e X.env) :: starEach es X.env := by rfl) (hpl : (backTo pos (starEach es X.env)).any (·.1) = false := by rfl) :
    PE X (.Call (.Name x p) (e :: es) [] pos) (tCallS sp E t) := by
  refine ⟨fun pins s σ H Q I h => ?_⟩
  refine wpAny_Call_Name_kw (ld_glob I hg hm ?_ hdb)
  refine PySem.W.callWith_K (h₀ := X.base) I.ok.mod.kin hk (thn (ha.run pos pins s σ H _ I h) ?_) he hpl
  rintro us s1 ⟨vs, H1, I1, r, q⟩
  refine ⟨I1.kIn, wpAny_call (codeAny_mono (F X.A X.stack s1 H1 us vs Q (E σ) hr hgd I1.env0 r q) ?_)⟩
  intro res s' hq
  cases res with
  | error er => exact hx σ pins H1 s1 er s' I1 hq
  | ok fl =>
    cases fl with
    | ret u => exact I1.after hq
    | next => exact hq.elim
    | brk => exact hq.elim
    | cont => exact hq.elim
end
end Mc
/-! McExc: the package's exceptions: MeetcellsError, whose __init__ says super().__init__(text) and self.value = value, and the classes directly under it. -/
namespace Mc
open PySem PySem.Spec PyProof.Rows L2 PySem.HandSPX

/-! ### the text of __init__, wherever it stands -/
def meA (p1 p2 : Pos) : Arguments := { posonlyargs := [], args := [{ arg := "self", annotation := none, pos := p1 }, { arg := "value", annotation := none, pos := p2 }], vararg := none, kwonlyargs := [], kw_defaults := [], kwarg := none, defaults := [] }
def meB (msg : Str) (j : Nat) (q0 q1 q2 q3 q4 q5 q6 q7 q8 q9 : Pos) : List Stmt :=
  [.Expr (.Call (.Attribute (.Call (.Name "super" q0) [] [] q1) "__init__" q2) [.Constant (.str msg) j q3] [] q4) q5,
   .Assign [.Attribute (.Name "self" q6) "value" q7] (.Name "value" q8) q9]
def meS : Scope := { kind := .function, names := [(PySem.Str.ofString "self", .local), (PySem.Str.ofString "value", .local), (PySem.Str.ofString "__class__", .free), (PySem.Str.ofString "super", .globalImplicit)], isGenerator := false, isCoroutine := false, more := [] }

/-- the call super().__init__(text) stands on one line -/
def OneLine (msg : Str) (j : Nat) (q0 q1 q2 q3 q4 : Pos) : Prop := ∀ env : Env, ∃ pl : Sem Bool,
  eval (.Call (.Attribute (.Call (.Name "super" q0) [] [] q1) "__init__" q2) [.Constant (.str msg) j q3] [] q4) env = (do
    let ov ← attributeBase (.Call (.Name "super" q0) [] [] q1) "__init__" env (eval (.Call (.Name "super" q0) [] [] q1) env)
    standAt q2.atName
    let (f, first) ← holding [ov] (getMethod ov "__init__" pl)
    callWith q4 f first (backTo q4 (starEach [.Constant (.str msg) j q3] env)) [])
/-- what the written part says of MeetcellsError's __init__, at fI; the class stands at D -/
structure MeInit (P : Program) (K : PySem.W.Frag) (D fI : Addr) : Prop where
  fn : ∃ (oc : Value) (od : Option Addr) (kV doc pm : Value) (an : Option Addr) (cda : Addr) (ct : Value) (cc : Addr) (osl : Array (Option Value)) (msg : Str) (j : Nat) (p1 p2 q0 q1 q2 q3 q4 q5 q6 q7 q8 q9 : Pos)
    (ccl : Value) (cdd : Option Addr) (vs : Array Value) (ccs : Array (Option Value)) (file : Str) (tf : Tok) (cl : Value) (cld : Option Addr) (csl : Array (Option Value)),
    K.lookup fI = some ⟨oc, od, .func (PySem.W.ksFn "__init__" "MeetcellsError.__init__" (meA p1 p2) (meB msg j q0 q1 q2 q3 q4 q5 q6 q7 q8 q9) meS .none kV doc pm an (.ref cda) ct cc), osl⟩ ∧
    PySem.W.codeIn K (.ref cda) "MeetcellsError.__init__" = true ∧ K.lookup cda = some ⟨ccl, cdd, .fields vs, ccs⟩ ∧ vs[2]? = some (.str file tf) ∧ ((P.main.file : Str) == file) = true ∧
    K.lookup cc = some ⟨cl, cld, .cell (some (.ref D)), csl⟩ ∧ OneLine msg j q0 q1 q2 q3 q4
  top : (P.main.scope.names.lookup ("super" : Str)).isSome = false
  clsD : ∃ cd, PySem.W.clsIn K D = some cd
  opq : PySem.W.nsIn K cStatics "thirdparty.any" = some none
  tI : PySem.W.typeIn K (.ref fI) = some (.type "function")

/-- .. of a class of the package, at C -/
structure MeCls (K : PySem.W.Frag) (D fI C : Addr) : Prop where
  cls : ∃ nm q N bs bm sn sub ab col dd k0 k1 k2 k3 k5, K.lookup C = some (excClassObj nm q C N bs bm true sn sub ab col dd k0 k1 k2 k3 k5 "ValueError.__new__") ∧ refsVE bm = true ∧
    ((Value.ref C :: bm).dropWhile (· != .ref D)).drop 1 = veTail ∧ (Value.ref C :: bm).contains (.ref D) = true
  sa : PySem.W.findIn K (.ref C) "__setattr__" = some (some (.builtin "object.__setattr__"))
  ga : PySem.W.findIn K (.ref C) "__getattribute__" = some (some (.builtin "BaseException.__getattribute__"))
  gg : PySem.W.findIn K (.ref C) "__getattr__" = some none
  noV : PySem.W.findIn K (.ref C) "value" = some none
  iC : PySem.W.findIn K (.ref C) "__init__" = some (some (.ref fI))
  kC : PySem.W.keepIn K (.ref C) = true
  exC : PySem.W.subIn K (.ref C) (.type "BaseException") = some true
  tyC : PySem.W.typeIn K (.ref C) = some (.type "type")
  hdC : PySem.W.hasDictIn K C = true

theorem along_ve (K : PySem.W.Frag) : PySem.W.alongIn K "__init__" veTail = some (some (.builtin "ValueError.__init__")) := by kernel_rfl

/-- what __init__ leaves of a fresh exception at x -/
structure InitEnd (h h' : Heap) (x C dx : Addr) (v : Value) : Prop where
  keep : ∀ b o, b ≠ x → h.get? b = some o → h'.get? b = some o
  obj : ∃ t1, h'.get? x = some { cls := .ref C, dict := some dx, data := .fields #[.ref t1, .none, .none, .none, .bool false, .none] }
  dbig : h.objs.size ≤ dx
  dne : dx ≠ x
  ns : h'.Ns1 dx (fun y => if y = "value" then some v else none)
/-- a made exception -/
structure MeMade (h h' : Heap) (e C d : Addr) (v : Value) : Prop where
  keep : ∀ b o, h.get? b = some o → h'.get? b = some o
  new : h.objs.size ≤ e
  obj : ∃ t1, h'.get? e = some { cls := .ref C, dict := some d, data := .fields #[.ref t1, .none, .none, .none, .bool false, .none] }
  dbig : h.objs.size ≤ d
  dne : d ≠ e
  ns : h'.Ns1 d (fun y => if y = "value" then some v else none)

section
open PySem.W PySem.Calls
variable {prog : Program} {w : World} {A : Around} {E : Value → Shared → Prop} {R : Result → Shared → Prop} {s : Shared} {K : Frag} {mg mb : Str → Option Value} {D fI C : Addr}

theorem cls_data (T : MeCls K D fI C) : ∃ cd, clsIn K C = some cd ∧ refsVE cd.mro = true ∧ cd.hasDict = true ∧ (cd.mro.dropWhile (· != .ref D)).drop 1 = veTail ∧ cd.mro.contains (.ref D) = true ∧ cd.mro.isEmpty = false := by
  obtain ⟨nm, q, N, bs, bm, sn, sub, ab, col, dd, k0, k1, k2, k3, k5, hC, hbm, hdrop, hmem⟩ := T.cls
  refine ⟨{ name := nm, bases := bs, mro := .ref C :: bm, ns := N, qualname := q, hasDict := true, slotNames := sn, subclasses := sub, abstract := ab, collection := col, hasDel := false }, ?_, hbm, rfl, hdrop, hmem, rfl⟩
  unfold clsIn
  rw [hC]
  all_goals rfl

/-- ValueError.__init__ bound to the fresh exception e, called -/
theorem call_mw {h : Heap} {g : Array GenState} {d : Drawn} {t : Nat} {os : OsState} {nm q : Str} {N : Addr} {bs bm : List Value} {hdct : Bool} {sn : List Str} {sub : List Value} {ab : Bool} {col : Option Bool} {dd : Option Addr} {k0 k1 k2 k3 k5 : Option Value}
    {u e t0 : Addr} {rest : List Value} {Q : Value → Shared → Prop}
    (hC : h.get? C = some (excClassObj nm q C N bs bm hdct sn sub ab col dd k0 k1 k2 k3 k5 "ValueError.__new__")) (he : h.get? e = some (excO C t0)) (hu : h.get? u = some (kxs_mw "ValueError.__init__" e))
    (hrest : rest.length ≤ sizeLine)
    (hq : ∀ h' t1, (∀ b o, b ≠ e → h.get? b = some o → h'.get? b = some o) → h'.get? e = some (excO C t1) → Q .none ⟨h', g, d, t, os⟩) :
    wpAny (model prog w) A (call (.ref u) rest) Q E ⟨h, g, d, t, os⟩ := by
  have FB := PySem.F.excBase_ValueError
  refine wpAny_call (codeAny_of_tree ?_)
  show wpAny _ A.in1 (callAny (.ref u) ⟨rest, []⟩) _ _ _
  simp only [callAny]
  refine wpAny_bind (wpAny_load hu ?_)
  simp only [kxs_mw, show (Value.type "method-wrapper" == Value.type "method" || Value.type "method-wrapper" == Value.type "builtin_function_or_method" || Value.type "method-wrapper" == Value.type "method-wrapper") = true by decide, if_true]
  refine W.KFB.if_so (by decide) ?_
  refine wpAny_bind (check_bound_init FB.toExcCallFacts hC he rfl ?_)
  refine wpAny_bind (wpAny_pure (wpAny_pure ⟨Code.quiet_builtin _ (by decide +kernel), codeAny_builtin FB.initEntry ?_⟩))
  rw [Around.under_plainId FB.init.plain _]
  wp_walk
  refine hq _ h.objs.size (fun b o hb ho => ?_) ?_
  · exact (Heap.get?_update_other _ _ (Ne.symm hb)).trans (Heap.get?_push_of_some _ ho)
  · refine (Heap.get?_update_self _ (Heap.get?_push_of_some _ he) rfl).trans ?_
    rfl

theorem me_init (T : MeInit prog K D fI) (TC : MeCls K D fI C) {x t0 : Addr} {v : Value} (X : K.In s.heap) (hns : s.heap.Ns mainGlobals mg) (hbn : s.heap.Ns builtinsNs mb)
    (hsup : mg "super" = none) (hbs : mb "super" = some (.type "super")) (hlim : s.heap.NoLimit) (hx : s.heap.get? x = some (excO C t0)) (hnx : K.lookup x = none) (hroom : A.depth < recursionLimit)
    (hq : ∀ h' tk dx, InitEnd s.heap h' x C dx v → R (.ok (.ret .none)) { s with heap := h', toks := tk }) :
    codeAny (model prog w) A (.call (.ref fI) ⟨[.ref x, v], []⟩) R s := by
  obtain ⟨oc, od, kV, doc, pm, an, cda, ct, cc, osl, msg, j, p1, p2, q0, q1, q2, q3, q4, q5, q6, q7, q8, q9, ccl, cdd, vs, ccs, file, tf, cl, cld, csl, ho, hcd, hcode, hvs, hfile, hcell, hone⟩ := T.fn
  obtain ⟨cdD, hD⟩ := T.clsD
  obtain ⟨cd, hcls, hmro, hhd, hdrop, hmemD, hnemp⟩ := cls_data TC
  obtain ⟨nm, q, N, bs, bm, sn, sub, ab, col, dd, k0, k1, k2, k3, k5, hC, hbm, _, _⟩ := TC.cls
  refine ks_codeAny_call_defAt (fd := ksFn "__init__" "MeetcellsError.__init__" (meA p1 p2) (meB msg j q0 q1 q2 q3 q4 q5 q6 q7 q8 q9) meS .none kV doc pm an (.ref cda) ct cc)
    (body := meB msg j q0 q1 q2 q3 q4 q5 q6 q7 q8 q9) (binds := [("self", .ref x), ("value", v)]) hroom (X _ _ ho) rfl hlim (codeRec_of X hcd) rfl (BindsTo.of_eq (by first | rfl | with_unfolding_all rfl)) (show ∀ x ∈ meS.names, x.2 ≠ .cell by decide) (show ∀ y ∈ [(("self" : Str), Value.ref x), ("value", v)], meS.names.lookup y.1 = some .local by simp [meS, List.lookup]; decide) ?_
  intro h1 hn1 kp1
  have X1 : K.In h1 := X.keeps kp1
  have hx1 := kp1 _ _ hx
  have hxL : x ≠ s.heap.objs.size := Nat.ne_of_lt (Heap.lt_size hx)
  obtain ⟨oD, hD1, hD2⟩ : ∃ oD, h1.get? D = some oD ∧ oD.data = .cls cdD := by
    unfold clsIn at hD
    split at hD
    · rename_i lk
      cases hD
      exact ⟨_, X1 _ _ lk, rfl⟩
    · cases hD
  have hCx : x ≠ C := by
    rintro rfl
    have z := X _ _ hC
    rw [hx] at z
    cases z
  -- super().__init__(text)
  obtain ⟨pl, hev⟩ := hone (callEnv (ksFn "__init__" "MeetcellsError.__init__" (meA p1 p2) (meB msg j q0 q1 q2 q3 q4 q5 q6 q7 q8 q9) meS .none kV doc pm an (.ref cda) ct cc) s.heap.objs.size fI)
  refine ks_wpAt_execs_cons (ks_wpAt_Expr_any (ks_wpAt_MethodCall (pl := pl) ?_ hev))
  refine ks_wpAt_super_base (f := fI) (cc := cda) rfl rfl (by decide) rfl (X1 _ _ ho) rfl rfl rfl (X1 _ _ hcode) rfl hvs hfile T.top ?_
  refine ks_loadName_global rfl rfl (loadGlobal_builtin (hns.keeps kp1) hsup (hbn.keeps kp1) hbs ⟨rfl, ?_⟩)
  refine wpAny_loadName_free rfl rfl rfl ⟨_, X1 _ _ hcell, rfl⟩ ?_
  refine wpAny_loadName_local rfl rfl hn1 (by first | rfl | with_unfolding_all rfl | kernel_rfl) ?_
  obtain ⟨hp0, g, dr, tk, os⟩ := s
  refine ks_wpAny_isType_cls hD1 hD2 ⟨rfl, ?_⟩
  refine ks_wpAny_call_super (C := C) hD1 hD2 hx1 rfl (fun c z => nomatch z) (looks_mroIn X1 (by unfold mroIn; rw [hcls, Option.bind_some, if_neg (by rw [hnemp]; decide), hmemD])) ?_
  intro h2 hso kp2
  have X2 : K.In h2 := X1.keeps kp2
  have hx2 := kp2 _ _ hx1
  have I2 : InstAt h2 x (excO C t0) C none := ⟨hx2, rfl, rfl, trivial⟩
  have hIs : Looks (model prog w) h2 (isInstance (.ref x) (.type "ValueError")) true := I2.type.andThen (looks_mroIn X2 (by
    unfold mroIn
    rw [hcls, Option.bind_some, if_neg (by rw [hnemp]; decide), refsVE_contains "ValueError" _ hmro]
    decide +kernel))
  refine kxs_getMethod kxs_ValueError hso (looks_opaque X2 T.opq) (l₀ := cd.mro) ((looks_clsIn X2 hcls).andThen .now) hdrop X2 (along_ve K) hIs hCx (by decide) ?_
  have hlt : ∀ {b o}, h2.get? b = some o → (h2.push (kxs_mw "ValueError.__init__" x)).get? b = some o := fun e => Heap.get?_push_of_some _ e
  have hmw : (h2.push (kxs_mw "ValueError.__init__" x)).get? h2.objs.size = some (kxs_mw "ValueError.__init__" x) := Heap.get?_push_at rfl rfl
  refine kxs_callWith (i := "ValueError.__init__") (x := x) rfl ?_
  refine evalArgs_plain (Calls.spliced_cons ?_)
  refine wpAny_Constant_str (k := j) (pos := q3) ?_
  refine Calls.spliced_nil ⟨hmw, ?_⟩
  refine call_mw (X2.keeps (fun _ _ e => hlt e) _ _ hC) (hlt hx2) hmw (by show 1 ≤ sizeLine; rw [sizeLine_eq]; omega) ?_
  intro h3 t1 kp3 hx3
  -- self.value = value
  have kp23 : ∀ b o, b ≠ x → h1.get? b = some o → h3.get? b = some o := fun b o hb e => kp3 b o hb (hlt (kp2 _ _ e))
  have X3 : K.In h3 := by
    intro b o e
    refine kp23 b o ?_ (X1 b o e)
    rintro rfl
    rw [hnx] at e
    cases e
  have hn3 : h3.Ns hp0.objs.size (fun y => List.lookup y [((("self" : Str), Value.ref x)), ("value", v)].reverse) := by
    obtain ⟨oL, es, ep, hL, r⟩ := hn1
    exact ⟨oL, es, ep, kp23 _ _ (Ne.symm hxL) hL, r⟩
  refine ks_wpAt_execs_cons (ks_wpAt_Assign_Attr ?_)
  refine wpAt_of_wpAny (wpAny_Name (wpAny_loadName_local (m := fun y => List.lookup y [((("self" : Str), Value.ref x)), ("value", v)].reverse) rfl rfl hn3 (v := v) (by first | rfl | with_unfolding_all rfl | kernel_rfl) ?_))
  refine wpAny_Name (wpAny_loadName_local rfl rfl hn3 (v := .ref x) (by first | rfl | with_unfolding_all rfl | kernel_rfl) ?_)
  refine set_plain X3 (C := C) (ox := excO C t1) (od := none) ⟨hx3, rfl, rfl, trivial⟩ TC.sa ?_
  refine exc_osa X3 hx3 hcls hmro hhd TC.noV ?_
  intro h4 tk4 dx kp4 dbig dne hx4 hns4
  refine wpAt_of_wpAny (wpAny_execs_nil ?_)
  have hsz : hp0.objs.size ≤ h3.objs.size := by
    obtain ⟨oL, es, ep, hL, r⟩ := hn3
    exact Nat.le_of_lt (Heap.lt_size hL)
  exact hq h4 tk4 dx ⟨fun b o hb e => kp4 b o hb (kp23 b o hb (kp1 b o e)), ⟨t1, hx4⟩, Nat.le_trans hsz dbig, dne, hns4⟩

/-- C(v), called -/
theorem me_made (T : MeInit prog K D fI) (TC : MeCls K D fI C) {v : Value} (X : K.In s.heap) (hns : s.heap.Ns mainGlobals mg) (hbn : s.heap.Ns builtinsNs mb)
    (hsup : mg "super" = none) (hbs : mb "super" = some (.type "super")) (hlim : s.heap.NoLimit) (hroom : A.depth + 1 < recursionLimit)
    (hq : ∀ h' tk e d, MeMade s.heap h' e C d v → R (.ok (.ret (.ref e))) { s with heap := h', toks := tk }) :
    codeAny (model prog w) A (.call (.ref C) ⟨[v], []⟩) R s := by
  obtain ⟨nm, q, N, bs, bm, sn, sub, ab, col, dd, k0, k1, k2, k3, k5, hC, hbm, _, _⟩ := TC.cls
  obtain ⟨hp, g, dr, tk, os⟩ := s
  have k : ∀ b o, hp.get? b = some o → ((hp.push (kdv_tup [v])).push (excO C hp.objs.size)).get? b = some o := fun b o e => Heap.get?_push_of_some _ (Heap.get?_push_of_some _ e)
  have hget : ((hp.push (kdv_tup [v])).push (excO C hp.objs.size)).get? (hp.objs.size + 1) = some (excO C hp.objs.size) := by heap_get
  have hnx : K.lookup (hp.objs.size + 1) = none := by
    cases e : K.lookup (hp.objs.size + 1) with
    | none => rfl
    | some o => exact absurd (Nat.lt_of_succ_lt (Heap.lt_size (X _ _ e))) (Nat.lt_irrefl _)
  refine call_own PySem.F.excBase_ValueError (fun Y => refsVE_contains Y bm hbm) (X _ _ hC) (looks_findIn X TC.iC) (fun self => bind_fn X self T.tI) (by show 1 ≤ sizeLine; rw [sizeLine_eq]; omega) ?_
  refine me_init (s := ⟨(hp.push (kdv_tup [v])).push (excO C hp.objs.size), g, dr, tk, os⟩) T TC (X.keeps k) (hns.keeps k) (hbn.keeps k) hsup hbs (hlim.keeps k) hget hnx ?_ ?_
  · show A.depth + 1 < recursionLimit
    exact hroom
  · rintro h' tk' dx ⟨kp, ob, dn, dne, hn⟩
    have z : hp.objs.size + 1 + 1 ≤ dx := by
      have q := dn
      rw [Heap.size_push, Heap.size_push] at q
      exact q
    refine ⟨rfl, hq h' tk' (hp.objs.size + 1) dx ⟨fun b o e => kp b o (Nat.ne_of_lt (Nat.lt_succ_of_lt (Heap.lt_size e))) (k b o e), Nat.le_succ _, ob, ?_, dne, hn⟩⟩
    show hp.objs.size ≤ dx
    omega
end

/-! ### the rules: C(e) raised; its field read in a suite -/
section
variable {X : Cx} {D fI C : Addr}
theorem relO_val {v : V} {v' : Value} (r : RelV v v') (f : Str) : RelO (List.lookup f [(("value" : Str), v)]) (if f = "value" then some v' else none) := by
  by_cases hw : f = "value"
  · subst hw
    rw [if_pos rfl, show List.lookup ("value" : Str) [(("value" : Str), v)] = some v by simp [List.lookup]]
    exact r
  · have q : (f == ("value" : Str)) = false := by simpa using hw
    rw [if_neg hw, show List.lookup f [(("value" : Str), v)] = none by simp [List.lookup, q]]
    trivial
/-- C(e) -/
def tMkMe (C : Addr) (ta : TA) : L2.St → Hp → XK → Prop := fun σ H Q => ta σ H fun vs H1 => ∃ v, vs = [v] ∧ ∀ d, H1 d = none → Q (.ref C) (some d) (upd H1 d (.xd [(("value" : Str), v)]))
theorem pmk_me {x : Str} {a : Expr} {ta : TA} {p pos : Pos} {k : Nat} (T : MeInit X.prog X.K D fI) (TC : MeCls X.K D fI C) (hsup : X.mg "super" = none) (gC : X.mg x = some (.ref C)) (hr : Room k X.A) (ha : PA X [a] ta)
    (hg : Gl X x := by rfl) (hdb : (x == ("__debug__" : Str)) = false := by decide)
    (he : starEach (a :: []) X.env = (false, eval a X.env) :: starEach [] X.env := by rfl) (hpl : (backTo pos (starEach [] X.env)).any (·.1) = false := by rfl) :
    PMk X (.Call (.Name x p) [a] [] pos) (tMkMe C ta) := by
  intro pins s σ H Q I h
  refine wpAny_Call_Name_kw (ld_glob I hg gC ?_ hdb)
  refine PySem.W.callWith_K (h₀ := X.base) I.ok.mod.kin TC.kC (thn (ha.run pos pins s σ H _ I h) ?_) he hpl
  rintro us s1 ⟨vs, H1, I1, r1, v, rfl, q1⟩
  refine ⟨I1.kIn, ?_⟩
  obtain ⟨u, rfl, rv⟩ := vals1 r1
  show wpAny _ _ (call (.ref C) [u]) _ _ _
  obtain ⟨mb, hb1, hb2⟩ := I1.ok.mod.blt
  have hlim := I1.nolimit
  have hns : s1.heap.Ns mainGlobals X.mg := I1.ok.mod.glob.keeps I1.bk
  have hbn : s1.heap.Ns builtinsNs mb := hb1.keeps I1.bk
  obtain ⟨hp, g, dr, tk, os⟩ := s1
  refine wpAny_call (me_made T TC I1.kIn hns hbn hsup ((hb2 _ (by decide)).trans (by decide +kernel)) hlim (by have := hr.dp; omega) ?_)
  intro h' tk' e d M
  obtain ⟨t1, hoe⟩ := M.obj
  obtain ⟨G, g1, g2⟩ := restrict h' fun b => decide (b ≠ e)
  have gk : ∀ b, b ≠ e → G.get? b = h'.get? b := fun b hb => g1 b (decide_eq_true hb)
  have ge : G.get? e = none := g2 e (by simp)
  have old : ∀ b o, hp.get? b = some o → G.get? b = some o := fun b o q => (gk b (Nat.ne_of_lt (Nat.lt_of_lt_of_le (Heap.lt_size q) M.new))).trans (M.keep b o q)
  have ob : ObjOk X.prog X.w (upd H1 d (.xd [(("value" : Str), v)])) G d (.xd [(("value" : Str), v)]) :=
    ⟨_, M.ns.at (fun o q => (gk d M.dne).trans q), fun f => relO_val rv f⟩
  have J : Inv X pins σ (upd H1 d (.xd [(("value" : Str), v)])) ⟨G, g, dr, tk', os⟩ := I1.laid (t' := tk') old M.dbig ob
  refine ⟨e, _, _, ⟨G, g, dr, tk', os⟩, _, .ref C, some d, rfl, J, fun b o q => ?_, ge, hoe, ⟨rfl, rfl⟩, rfl, rfl, ?_, rfl, I1.bare, raises_own TC.exC TC.tyC, q1 d (I1.hok.fresh M.dbig)⟩
  · have hb : b ≠ e := fun z => by
      have q' : G.get? b = some o := q
      rw [z, ge] at q'
      cases q'
    exact (gk b hb).symm.trans q
  · rw [upd_ne (Ne.symm M.dne)]
    exact I1.hok.fresh M.new
/-- raise C(e) -/
def tRaiseMe (C : Addr) (W : WX) (ta : TA) : TS := fun _ σ H => tMkMe C ta σ H fun cls d H' => W cls d σ H'
theorem ps_raiseMe {x : Str} {a : Expr} {ta : TA} {W : WX} {p pos pos2 : Pos} {k : Nat} (hc : X.calm = true) (T : MeInit X.prog X.K D fI) (TC : MeCls X.K D fI C) (hsup : X.mg "super" = none) (gC : X.mg x = some (.ref C)) (hr : Room k X.A) (tk : Takes X W)
    (ha : PA X [a] ta) (hg : Gl X x := by rfl) (hdb : (x == ("__debug__" : Str)) = false := by decide)
    (he : starEach (a :: []) X.env = (false, eval a X.env) :: starEach [] X.env := by rfl) (hpl : (backTo pos (starEach [] X.env)).any (·.1) = false := by rfl) :
    PS X (.Raise (some (.Call (.Name x p) [a] [] pos)) none pos2) (tRaiseMe C W ta) := ps_raise hc tk (pmk_me T TC hsup gC hr ha hg hdb he hpl)
/-- e.value, e the exception that the suite holds (at a; its class cls, its dict d) -/
def tValMe (C : Addr) (a : Addr) (cls : Value) (d : Option Addr) (te : TE) : TE := fun σ H Q => te σ H fun x H1 => x = .ref a ∧ cls = .ref C ∧ ∃ (dd : Addr) (v : V), d = some dd ∧ H1 dd = some (.xd [(("value" : Str), v)]) ∧ Q v H1
theorem pe_valMe {a : Addr} {oe : Obj} {cls : Value} {d : Option Addr} {pn : List (Addr × Obj)} {e : Expr} {te : TE} {pos : Pos} (TC : MeCls X.K D fI C) (hz : Zc cls d oe) (hf : ∃ vs, oe.data = .fields vs) (he : PE (X.suite a ((a, oe) :: pn)) e te)
    (hb : attributeBase e "value" X.env (eval e X.env) = eval e X.env := by rfl) :
    PE (X.suite a ((a, oe) :: pn)) (.Attribute e "value" pos) (tValMe C a cls d te) := by
  refine ⟨fun pins s σ H Q I h => ?_⟩
  refine attr_of hb (thn (he.run pins s σ H _ I h) ?_)
  rintro u s1 ⟨x, H1, I1, rx, ex, ec, dd, v, ed, ea, q⟩
  subst ex
  obtain rfl : u = Value.ref a := rx
  subst ec
  subst ed
  obtain ⟨ha, _⟩ := I1.pin (a, oe) (List.mem_append_left _ List.mem_cons_self)
  obtain ⟨vs, hd⟩ := hf
  obtain ⟨mA, hns, hr⟩ := (show ObjOk X.prog X.w H1 s1.heap dd (.xd [(("value" : Str), v)]) from I1.hok dd _ ea)
  obtain ⟨od, ho, hl⟩ := lookIn_ns hns
  have l : List.lookup ("value" : Str) [(("value" : Str), v)] = some v := by simp [List.lookup]
  obtain ⟨u, hu, ru⟩ := RelO.some_of (v := v) (o := mA "value") (by rw [← l]; exact hr "value")
  have J : PySem.W.InstAt s1.heap a oe C (some od) := ⟨ha, hz.1, by unfold PySem.W.notCls; rw [hd] <;> rfl, by rw [hz.2]; exact ho⟩
  exact exc_get I1.kIn J TC.ga TC.gg TC.exC (PySem.W.findObj_own TC.hdC TC.noV rfl (by rw [hl, hu])) (handed_of ru) ⟨v, H1, I1.tok _, ru, q⟩
end
end Mc
/-! McHead: what the top leaves, read by one Hook: facts, defs, tables by text keys, the exceptions. -/
namespace Mc
open PySem PySem.Spec PyProof.Rows L2 He PySem.HandSPX

/-! ### the exceptions' facts -/
abbrev meD (K : PySem.W.Frag) : Addr := ga K "MeetcellsError"
abbrev meI (K : PySem.W.Frag) : Addr := ma K (meD K) "__init__"
def clsB (K : PySem.W.Frag) (D C : Addr) : Bool := match K.lookup C with
  | some ⟨.type "type", _, .cls cd, sl⟩ => (match cd.mro, sl.toList with
    | .ref c :: bm, [_, _, _, _, some (.builtin n), _] => decide (c = C) && (decide (n = "ValueError.__new__") && (!cd.hasDel && (cd.hasDict && (refsVE bm &&
        (decide (((Value.ref C :: bm).dropWhile (· != .ref D)).drop 1 = veTail) && (Value.ref C :: bm).contains (.ref D))))))
    | _, _ => false)
  | _ => false
theorem clsB_ok {K : PySem.W.Frag} {D C : Addr} (h : clsB K D C = true) : ∃ nm q N bs bm sn sub ab col dd k0 k1 k2 k3 k5,
    K.lookup C = some (excClassObj nm q C N bs bm true sn sub ab col dd k0 k1 k2 k3 k5 "ValueError.__new__") ∧ refsVE bm = true ∧
    ((Value.ref C :: bm).dropWhile (· != .ref D)).drop 1 = veTail ∧ (Value.ref C :: bm).contains (.ref D) = true := by
  unfold clsB at h
  split at h
  · rename_i dd cd sl ho
    split at h
    · rename_i c bm k0 k1 k2 k3 n k5 hm hs
      obtain ⟨e1, h⟩ := ba h
      obtain ⟨e2, h⟩ := ba h
      obtain ⟨e3, h⟩ := ba h
      obtain ⟨e4, h⟩ := ba h
      obtain ⟨e5, h⟩ := ba h
      obtain ⟨e6, e7⟩ := ba h
      have r1 := of_decide_eq_true e1
      have r2 := of_decide_eq_true e2
      have r6 := of_decide_eq_true e6
      subst r1 r2
      obtain ⟨nm, bs, mro, ns, qn, hd, sn, sub, ab, col, del⟩ := cd
      dsimp only at hm e3 e4
      have hdel : del = false := by simpa using e3
      subst hm hdel e4
      have hsl : sl = #[k0, k1, k2, k3, some (.builtin "ValueError.__new__"), k5] := by
        obtain ⟨l⟩ := sl
        simp only at hs
        rw [hs]
      subst hsl
      exact ⟨nm, qn, ns, bs, bm, sn, sub, ab, col, dd, k0, k1, k2, k3, k5, ho, e5, r6, e7⟩
    · cases h
  · cases h
def meClsB (K : PySem.W.Frag) (x : Str) : Bool := clsB K (meD K) (ga K x) &&
  (eqO (PySem.W.findIn K (.ref (ga K x)) "__setattr__") (some (some (.builtin "object.__setattr__"))) &&
  (eqO (PySem.W.findIn K (.ref (ga K x)) "__getattribute__") (some (some (.builtin "BaseException.__getattribute__"))) &&
  (eqO (PySem.W.findIn K (.ref (ga K x)) "__getattr__") (some none) &&
  (eqO (PySem.W.findIn K (.ref (ga K x)) "value") (some none) &&
  (eqO (PySem.W.findIn K (.ref (ga K x)) "__init__") (some (some (.ref (meI K)))) &&
  (PySem.W.keepIn K (.ref (ga K x)) &&
  (decide (PySem.W.subIn K (.ref (ga K x)) (.type "BaseException") = some true) &&
  (decide (PySem.W.typeIn K (.ref (ga K x)) = some (.type "type")) && PySem.W.hasDictIn K (ga K x)))))))))
theorem meCls_ok {K : PySem.W.Frag} {x : Str} (h : meClsB K x = true) : MeCls K (meD K) (meI K) (ga K x) := by
  obtain ⟨e1, h⟩ := ba h
  obtain ⟨e2, h⟩ := ba h
  obtain ⟨e3, h⟩ := ba h
  obtain ⟨e4, h⟩ := ba h
  obtain ⟨e5, h⟩ := ba h
  obtain ⟨e6, h⟩ := ba h
  obtain ⟨e7, h⟩ := ba h
  obtain ⟨e8, h⟩ := ba h
  obtain ⟨e9, e10⟩ := ba h
  exact ⟨clsB_ok e1, eqO_ok e2, eqO_ok e3, eqO_ok e4, eqO_ok e5, eqO_ok e6, e7, of_decide_eq_true e8, of_decide_eq_true e9, e10⟩
/-- MeetcellsError.__init__, as it stands -/
abbrev InV : Type := Option (Str × Str × Arguments × FuncBody × Scope × Addr × List Str × Value × Addr)
def inObs (K : PySem.W.Frag) : InV := match K.lookup (meI K) with
  | some ⟨_, _, .func fd, _⟩ => some (fd.name, fd.qualname, fd.params, fd.body, fd.scope, fd.globals, fd.closure.map (·.1), fd.defaults, fd.builtins)
  | _ => none
def inVal (st : Stmt) : InV := some ("__init__", "MeetcellsError.__init__", defArgs st, .stmts (defBody st), defScope st, mainGlobals, ["__class__"], .none, builtinsNs)
def fileO (file : Str) : Option Obj → Bool
  | some ⟨_, _, .fields vs, _⟩ => (match (vs[2]? : Option Value) with
    | some (Value.str f _) => file == f
    | _ => false)
  | _ => false
def fileB (file : Str) (K : PySem.W.Frag) : Value → Bool
  | .ref c => fileO file (K.lookup c)
  | _ => false
theorem fileB_ok {file : Str} {K : PySem.W.Frag} {c : Addr} (h : fileB file K (.ref c) = true) :
    ∃ (ccl : Value) (cdd : Option Addr) (vs : Array Value) (ccs : Array (Option Value)) (f : Str) (tf : Tok), K.lookup c = some ⟨ccl, cdd, .fields vs, ccs⟩ ∧ vs[2]? = some (.str f tf) ∧ (file == f) = true := by
  have h1 : fileO file (K.lookup c) = true := h
  unfold fileO at h1
  split at h1
  · rename_i cl od vs sl q
    split at h1
    · rename_i f tf q2
      exact ⟨_, _, _, _, f, tf, q, q2, h1⟩
    · cases h1
  · cases h1
def cellO (D : Addr) : Option Obj → Bool
  | some ⟨_, _, .cell (some (.ref d)), _⟩ => decide (d = D)
  | _ => false
def cellB (K : PySem.W.Frag) : List (Str × Addr) → Bool
  | [(_, cc)] => cellO (meD K) (K.lookup cc)
  | _ => false
theorem cellB_ok {K : PySem.W.Frag} {l : List (Str × Addr)} (h : cellB K l = true) (hn : l.map (·.1) = [("__class__" : Str)]) :
    ∃ (cc : Addr) (cl : Value) (cld : Option Addr) (csl : Array (Option Value)), l = [(("__class__" : Str), cc)] ∧ K.lookup cc = some ⟨cl, cld, .cell (some (.ref (meD K))), csl⟩ := by
  match l, h, hn with
  | [(z, cc)], h, hn =>
    have ez : z = "__class__" := by simpa using hn
    have h1 : cellO (meD K) (K.lookup cc) = true := h
    unfold cellO at h1
    split at h1
    · rename_i cl cld d csl q
      have ed : d = meD K := of_decide_eq_true h1
      rw [ed] at q
      exact ⟨cc, _, _, _, by rw [ez], q⟩
    · cases h1
def fnB (file : Str) (K : PySem.W.Frag) (fd : FuncData) : Bool := PySem.W.codeIn K fd.code "MeetcellsError.__init__" && (fileB file K fd.code && cellB K fd.closure)
def inB (file : Str) (K : PySem.W.Frag) : Bool := eqO (PySem.W.nsIn K cStatics "thirdparty.any") (some none) && (decide (PySem.W.typeIn K (.ref (meI K)) = some (.type "function")) &&
  ((PySem.W.clsIn K (meD K)).isSome && (match K.lookup (meI K) with
    | some ⟨_, _, .func fd, _⟩ => fnB file K fd
    | _ => false)))
theorem meInit_ok {P : Program} {K : PySem.W.Frag} {st : Stmt} {msg : Str} {j : Nat} {p1 p2 q0 q1 q2 q3 q4 q5 q6 q7 q8 q9 : Pos} (e : inObs K = inVal st) (h : inB P.main.file K = true)
    (ea : defArgs st = meA p1 p2) (eb : defBody st = meB msg j q0 q1 q2 q3 q4 q5 q6 q7 q8 q9) (es : defScope st = meS) (hone : OneLine msg j q0 q1 q2 q3 q4)
    (htop : (P.main.scope.names.lookup ("super" : Str)).isSome = false) : MeInit P K (meD K) (meI K) := by
  obtain ⟨h1, h⟩ := ba h
  obtain ⟨h2, h⟩ := ba h
  obtain ⟨h3, h⟩ := ba h
  refine ⟨?_, htop, Option.isSome_iff_exists.mp h3, eqO_ok h1, of_decide_eq_true h2⟩
  unfold inObs at e
  cases q : K.lookup (meI K) with
  | none =>
    rw [q] at h
    cases h
  | some o =>
    obtain ⟨oc, od, dt, osl⟩ := o
    rw [q] at h e
    cases dt with
    | func fd =>
      obtain ⟨n1, n2, n3, n4, n5, n6, n7, n8, n9, n10, n11, n12, n13, n14, n15⟩ := fd
      have e2 : (some (n1, n2, n3, n4, n5, n6, n7.map (·.1), n8, n15) : InV) = inVal st := e
      unfold inVal at e2
      simp only [Option.some.injEq, Prod.mk.injEq] at e2
      obtain ⟨r1, r2, r3, r4, r5, r6, r7, r8, r9⟩ := e2
      rw [ea] at r3
      rw [eb] at r4
      rw [es] at r5
      subst r1 r2 r3 r4 r5 r6 r8 r9
      obtain ⟨c1, h'⟩ := ba (show (PySem.W.codeIn K n13 "MeetcellsError.__init__" && (fileB P.main.file K n13 && cellB K n7)) = true from h)
      obtain ⟨c2, c3⟩ := ba h'
      obtain ⟨cda, rfl⟩ := codeIn_ref c1
      obtain ⟨ccl, cdd, vs, ccs, f, tf, f1, f2, f3⟩ := fileB_ok c2
      obtain ⟨cc, cl, cld, csl, rfl, f4⟩ := cellB_ok c3 r7
      exact ⟨oc, od, n9, n10, n11, n12, cda, n14, cc, osl, msg, j, p1, p2, q0, q1, q2, q3, q4, q5, q6, q7, q8, q9, ccl, cdd, vs, ccs, f, tf, cl, cld, csl, rfl, c1, f1, f2, f3, f4, hone⟩
    | _ => cases h

/-! ### the Hook -/
abbrev AlM : Type := AlT × InV × Bool
def frM (n : Nat) (g : Addr → Option Obj) : PySem.W.Frag := frG g (cStatics :: asD g n)
def obsM (n : Nat) (fa : List Fa) (fn : List DefD) (ts : List Tab) (ex : PySem.W.Frag → Bool) (g : Addr → Option Obj) : AlM := (obsT fa fn ts (frM n g), inObs (frM n g), ex (frM n g))
def valM (fn : List DefD) (ts : List Tab) (st : Stmt) (w : World) : AlM := (valT fn ts w, inVal st, true)
structure SaysM (fa : List Fa) (fn : List DefD) (ts : List Tab) (st : Stmt) (ex : PySem.W.Frag → Bool) (w : World) (K : PySem.W.Frag) : Prop where
  t : SaysT fa fn ts w K
  i : inObs K = inVal st
  x : ex K = true
def hookM (n : Nat) (fa : List Fa) (fn : List DefD) (ts : List Tab) (st : Stmt) (ex : PySem.W.Frag → Bool) : PySem.W.Hook where
  α := AlM
  obs := fun s => obsM n fa fn ts ex s.heap.get?
  val := fun w => valM fn ts st w
  says := fun w h => ∃ K : PySem.W.Frag, K.In h ∧ SaysM fa fn ts st ex w K
  of := fun _ _ e => ⟨_, frG_in, ⟨congrArg (fun z : AlM => z.1) e, congrArg (fun z : AlM => z.2.1) e, congrArg (fun z : AlM => z.2.2) e⟩⟩
  keeps := fun _ _ _ ⟨K, hK, c⟩ k => ⟨K, PySem.W.Frag.In.keeps hK k, c⟩
theorem obsM_eq {n : Nat} {fa : List Fa} {fn : List DefD} {ts : List Tab} {st : Stmt} {ex : PySem.W.Frag → Bool} {g : Addr → Option Obj} {s : Shared} (h : ∀ a, g a = s.heap.get? a) :
    obsM n fa fn ts ex g = (hookM n fa fn ts st ex).obs s := by
  have e : g = s.heap.get? := funext h
  subst e
  rfl
end Mc
/-! McCore: calls of defs by promises that hide how their arguments bind; types of data. -/
namespace Mc
open PySem PySem.Spec PyProof.Rows L2

section
variable {X : Cx}
/-- nothing is raised by the callee -/
theorem pass_no (σ : L2.St) : PassesAt (L2.CX X.prog X.w) X σ E0 := fun pins H s e s' I h => passL pins σ H s e s' I h
end
section
variable {P : Program} {w : World} {K : PySem.W.Frag} {mg : Str → Option Value} {base : Heap} {C : CXT} {j k : Nat} {f : Addr} {sp : Sp}
theorem fnG_of_R (F : FnR P w K mg base C k f sp) : FnG P w K mg base C k f sp :=
  fun A outer s H us vs Q E hr _ e0 r hs => F A outer s H us vs Q E hr e0 r hs
theorem fnR_of_ok {fd : FuncData} {ps : List Str} (F : FnOk P w K mg base C k f fd ps sp) (hb : Binds K fd ps []) : FnR P w K mg base C k f sp :=
  (F.raw hb .nil).imp fun vs H Q E h => by rw [List.append_nil]; exact h
/-- a def by its body -/
theorem fnR_body {x qual : Str} {params : Arguments} {body : List Stmt} {scope : Scope} {dvs : List V} {kws : List (Str × V)} {fd : FuncData} {N ps : List Str}
    (F : FunD K x qual params body scope dvs kws f fd) (S : FnScope N ps scope) (hb : Binds K fd ps []) (len : ∀ vs H Q E, sp vs H Q E → vs.length = ps.length)
    (hbody : ∀ (cdv : Value) (A : Around) (outer : List Env) (s : Shared) (H : Hp) (vs : List V) (Q : VK) (E : XK),
      Room k (A.deeper (envOfC qual scope s.heap.objs.size f cdv)) → sp vs H Q E →
      ∃ t, PSs (cxOf C P w K mg base N qual scope f cdv A outer s H E) body t ∧ t { nx := fun _ H' => Q .non H', rt := Q } (start N vs) H) :
    FnR P w K mg base C (k + 1) f sp := fnR_of_ok (F.ok S len hbody) hb
end
section
variable {X : Cx} {C : CXT} {k : Nat} {f : Addr} {sp : Sp} {x : Str} {p pos : Pos} {e : Expr} {es : List Expr} {t : TA}
/-- f(e, ..): what is raised is wished for at the caller's slots -/
theorem pe_callR {E : L2.St → XK} (F : FnR X.prog X.w X.K X.mg X.base C k f sp) (hr : Room k X.A) (hg : Gl X x) (hm : X.mg x = some (.ref f))
    (hk : PySem.W.keepIn X.K (.ref f) = true) (hx : ∀ σ, PassesAt C X σ (E σ)) (ha : PA X (e :: es) t) (hdb : (x == ("__debug__" : Str)) = false := by decide)
    (he : starEach (e :: es) X.env = (false, eval e X.env) :: starEach es X.env := by rfl) (hpl : (backTo pos (starEach es X.env)).any (·.1) = false := by rfl) :
    PE X (.Call (.Name x p) (e :: es) [] pos) (tCallS sp E t) := by
  refine ⟨fun pins s σ H Q I h => ?_⟩
  refine wpAny_Call_Name_kw (ld_glob I hg hm ?_ hdb)
  refine PySem.W.callWith_K (h₀ := X.base) I.ok.mod.kin hk (thn (ha.run pos pins s σ H _ I h) ?_) he hpl
  rintro us s1 ⟨vs, H1, I1, r, q⟩
  refine ⟨I1.kIn, wpAny_call (codeAny_mono (F X.A X.stack s1 H1 us vs Q (E σ) hr I1.env0 r q) ?_)⟩
  intro res s' hq
  cases res with
  | error er => exact hx σ pins H1 s1 er s' I1 hq
  | ok fl =>
    cases fl with
    | ret u => exact I1.after hq
    | next => exact hq.elim
    | brk => exact hq.elim
    | cont => exact hq.elim
/-- f() -/
theorem pe_callR0 {E : L2.St → XK} (F : FnR X.prog X.w X.K X.mg X.base C k f sp) (hr : Room k X.A) (hg : Gl X x) (hm : X.mg x = some (.ref f))
    (hk : PySem.W.keepIn X.K (.ref f) = true) (hx : ∀ σ, PassesAt C X σ (E σ)) (hdb : (x == ("__debug__" : Str)) = false := by decide) :
    PE X (.Call (.Name x p) [] [] pos) (tCallS sp E tNil) := by
  refine ⟨fun pins s σ H Q I h => ?_⟩
  refine wpAny_Call_Name_kw (ld_glob I hg hm ?_ hdb)
  refine PySem.W.callWith_K0 I.kIn hk (wpAny_call (codeAny_mono (F X.A X.stack s H [] [] Q (E σ) hr I.env0 .nil h) ?_))
  intro res s' hq
  cases res with
  | error er => exact hx σ pins H s er s' I hq
  | ok fl =>
    cases fl with
    | ret u => exact I.after hq
    | next => exact hq.elim
    | brk => exact hq.elim
    | cont => exact hq.elim
end

/-! ### types of data -/
def tyName : PyData → String
  | .none => "NoneType"
  | .bool _ => "bool"
  | .int _ => "int"
  | .str _ => "str"
  | .list _ => "list"
  | .tuple _ => "tuple"
  | .dict _ => "dict"
theorem dq_ty {K : PySem.W.Frag} {H : Hp} {v : V} {d : PyData} (h : Dq K H v d) : TyX K H v (.type (tyName d)) := by
  cases h with
  | dp h =>
    cases h with
    | non => exact .base .non
    | bl b => exact .base (.bl b)
    | int i => exact .base (.int i)
    | str x => exact .base (.str x)
    | lst s _ =>
      rcases s with (s | ⟨o, s⟩) | ⟨o, its, n, lk, cl, _⟩
      · exact .base (.lst s)
      · exact .base (.frz s)
      · exact .kList lk cl
    | tup s _ =>
      rcases s with (s | ⟨o, s⟩) | ⟨o, its, n, lk, cl, _⟩
      · exact .base (.tup s)
      · exact .fTuple s
      · exact .kTuple lk cl
  | dic h => exact .base (.dK h)
/-- isinstance(x, T), x a datum, T a built-in type -/
def rIsd (K : PySem.W.Frag) : List V → Hp → VK → Prop := fun xs H Q => ∃ (x : V) (d : PyData) (n : String) (b : Bool), xs = [x, .ty n] ∧ Dq K H x d ∧ kitB (tyName d) n = some b ∧ Q (.bl b) H
theorem call_isd {X : Cx} : CallR X (.builtin "isinstance") (rIsd X.K) := by
  intro pins s σ H xs us Q I r h
  obtain ⟨x, d, n, b, rfl, hd, e, q⟩ := h
  exact call_isi pins s σ H _ us Q I r ⟨x, .ty n, .type (tyName d), .type n, b, rfl, .ty n, dq_ty hd, kit_ty e, q⟩
def isInt : PyData → Bool
  | .int _ => true
  | _ => false
def isStr : PyData → Bool
  | .str _ => true
  | _ => false
def isTup : PyData → Bool
  | .tuple _ => true
  | _ => false
def isBool : PyData → Bool
  | .bool _ => true
  | _ => false
def isSeq : PyData → Bool
  | .list _ => true
  | .tuple _ => true
  | _ => false
def isLst : PyData → Bool
  | .list _ => true
  | _ => false
theorem kit_int (d : PyData) : kitB (tyName d) "int" = some (isInt d || isBool d) := by cases d <;> simp only [tyName, isInt, isBool, isStr, isTup, isLst] <;> decide +kernel
theorem kit_bool (d : PyData) : kitB (tyName d) "bool" = some (isBool d) := by cases d <;> simp only [tyName, isInt, isBool, isStr, isTup, isLst] <;> decide +kernel
theorem kit_str (d : PyData) : kitB (tyName d) "str" = some (isStr d) := by cases d <;> simp only [tyName, isInt, isBool, isStr, isTup, isLst] <;> decide +kernel
theorem kit_tup (d : PyData) : kitB (tyName d) "tuple" = some (isTup d) := by cases d <;> simp only [tyName, isInt, isBool, isStr, isTup, isLst] <;> decide +kernel
theorem kit_lst (d : PyData) : kitB (tyName d) "list" = some (isLst d) := by cases d <;> simp only [tyName, isInt, isBool, isStr, isTup, isLst] <;> decide +kernel
end Mc
namespace Mc
open PySem PySem.Spec PyProof.Rows L2
section
variable {X : Cx}
/-- repr of a truth -/
theorem call_reprB : CallR X (.builtin "repr") (fun xs H Q => ∃ b, xs = [.bl b] ∧ Q (.str (if b then "True" else "False")) H) := by
  intro pins s σ H xs us Q I r h
  obtain ⟨b, rfl, q⟩ := h
  obtain ⟨u, rfl, ru⟩ := vals1 r
  cases ru
  exact PySem.P.repr_of_bool ⟨.str _, H, I.tok _, ⟨_, rfl⟩, q⟩
/-- a text a number of times -/
theorem op_rep_str : OpR X (binaryOp .Mult) (fun x y H Q => ∃ (a : Str) (n : Int), x = .str a ∧ y = .int n ∧ MulOk a n ∧ Q (.str (PySem.Txt.mul a n)) H) := by
  intro pins s σ H x y u v Q I rx ry h
  obtain ⟨a, n, rfl, rfl, hok, q⟩ := h
  obtain ⟨t, rfl⟩ := rx
  obtain ⟨t', rfl⟩ := ry
  exact SB.mul hok fun t' k => ⟨.str _, H, I.tok k, ⟨_, rfl⟩, q⟩
end
end Mc
namespace Mc
open PySem PySem.Spec PyProof.Rows L2
/-- a statement, then the rest, with what is told between them -/
def tMid (t u : TS) : TS := fun D σ H => ∃ Mid : L2.St → Hp → Prop, t { D with nx := Mid } σ H ∧ ∀ τ G, Mid τ G → u D τ G
theorem pss_mid {X : Cx} {st : Stmt} {rest : List Stmt} {t u : TS} (h1 : PS X st t) (h2 : PSs X rest u) : PSs X (st :: rest) (tMid t u) := by
  constructor
  rintro pins s σ H D I ⟨Mid, hm, hu⟩
  refine wpAny_execs_cons (thn (h1.run pins s σ H { D with nx := Mid } I hm) ?_)
  intro f s1 q
  cases f with
  | ret v => exact q
  | brk => exact q
  | cont => exact q
  | next =>
    obtain ⟨τ, G, J, q⟩ := q
    exact h2.run pins s1 τ G D J (hu τ G q)
end Mc
namespace Mc
open PySem PySem.Spec PyProof.Rows L2
/-! the built-in calls' relations, by name -/
def rLen (K : PySem.W.Frag) : List V → Hp → VK → Prop := fun xs H Q => ∃ x n, xs = [x] ∧ LenV K x H n ∧ Q (.int n) H
def rListOf (K : PySem.W.Frag) : List V → Hp → VK → Prop := fun xs H Q => ∃ p ys, xs = [.ref p] ∧ (SqL K H p ys ∨ SqT K H p ys) ∧ ∀ l, H l = none → Q (.ref l) (upd H l (.lst ys))
def rTupleOf (K : PySem.W.Frag) : List V → Hp → VK → Prop := fun xs H Q => ∃ p ys, xs = [.ref p] ∧ ((SqL K H p ys ∧ ∀ l, H l = none → Q (.ref l) (upd H l (.tup ys))) ∨ (SqT K H p ys ∧ Q (.ref p) H))
end Mc
/-! McExcV: C(e) as a value; its field read. -/
namespace Mc
open PySem PySem.Spec PyProof.Rows L2 PySem.HandSPX
/-- an exception of the package at e, not raised yet; its dict stands at d -/
def ExV (C d e : Addr) : HO := .ext fun h => ∃ (oe : Obj) (vs : Array Value), h.get? e = some oe ∧ Zc (.ref C) (some d) oe ∧ oe.data = .fields vs
section
variable {X : Cx} {D fI C : Addr}
def tExcV (C : Addr) (ta : TA) : TE := fun σ H Q => ta σ H fun vs H1 => ∃ v, vs = [v] ∧ ∀ d e, H1 d = none → H1 e = none → d ≠ e → Q (.ref e) (upd (upd H1 d (.xd [(("value" : Str), v)])) e (ExV C d e))
theorem pe_mkMe {x : Str} {a : Expr} {ta : TA} {p pos : Pos} {k : Nat} (T : MeInit X.prog X.K D fI) (TC : MeCls X.K D fI C) (hsup : X.mg "super" = none) (gC : X.mg x = some (.ref C)) (hr : Room k X.A) (ha : PA X [a] ta)
    (hg : Gl X x := by rfl) (hdb : (x == ("__debug__" : Str)) = false := by decide)
    (he : starEach (a :: []) X.env = (false, eval a X.env) :: starEach [] X.env := by rfl) (hpl : (backTo pos (starEach [] X.env)).any (·.1) = false := by rfl) :
    PE X (.Call (.Name x p) [a] [] pos) (tExcV C ta) := by
  refine ⟨fun pins s σ H Q I h => ?_⟩
  refine wpAny_Call_Name_kw (ld_glob I hg gC ?_ hdb)
  refine PySem.W.callWith_K (h₀ := X.base) I.ok.mod.kin TC.kC (thn (ha.run pos pins s σ H _ I h) ?_) he hpl
  rintro us s1 ⟨vs, H1, I1, r1, v, rfl, q1⟩
  refine ⟨I1.kIn, ?_⟩
  obtain ⟨u, rfl, rv⟩ := vals1 r1
  show wpAny _ _ (call (.ref C) [u]) _ _ _
  obtain ⟨mb, hb1, hb2⟩ := I1.ok.mod.blt
  have hlim := I1.nolimit
  have hns : s1.heap.Ns mainGlobals X.mg := I1.ok.mod.glob.keeps I1.bk
  have hbn : s1.heap.Ns builtinsNs mb := hb1.keeps I1.bk
  obtain ⟨hp, g, dr, tk, os⟩ := s1
  refine wpAny_call (me_made T TC I1.kIn hns hbn hsup ((hb2 _ (by decide)).trans (by decide +kernel)) hlim (by have := hr.dp; omega) ?_)
  intro h' tk' e d M
  obtain ⟨t1, hoe⟩ := M.obj
  obtain ⟨G, g1, g2⟩ := restrict h' fun b => decide (b ≠ e)
  have gk : ∀ b, b ≠ e → G.get? b = h'.get? b := fun b hb => g1 b (decide_eq_true hb)
  have ge : G.get? e = none := g2 e (by simp)
  have old : ∀ b o, hp.get? b = some o → G.get? b = some o := fun b o q => (gk b (Nat.ne_of_lt (Nat.lt_of_lt_of_le (Heap.lt_size q) M.new))).trans (M.keep b o q)
  have ob : ObjOk X.prog X.w (upd H1 d (.xd [(("value" : Str), v)])) G d (.xd [(("value" : Str), v)]) :=
    ⟨_, M.ns.at (fun o q => (gk d M.dne).trans q), fun f => relO_val rv f⟩
  have J : Inv X pins σ (upd H1 d (.xd [(("value" : Str), v)])) ⟨G, g, dr, tk', os⟩ := I1.laid (t' := tk') old M.dbig ob
  have hb : ∀ b o, G.get? b = some o → h'.get? b = some o := fun b o q => by
    have hb : b ≠ e := fun z => by
      rw [z, ge] at q
      cases q
    exact (gk b hb).symm.trans q
  have hd : H1 d = none := I1.hok.fresh M.dbig
  have hee : H1 e = none := I1.hok.fresh M.new
  have he : upd H1 d (.xd [(("value" : Str), v)]) e = none := by
    rw [upd_ne (Ne.symm M.dne)]
    exact hee
  have ob2 : ObjOk X.prog X.w (upd (upd H1 d (.xd [(("value" : Str), v)])) e (ExV C d e)) h' e (ExV C d e) :=
    ⟨⟨_, _, hoe, ⟨rfl, rfl⟩, rfl⟩, ⟨_, hoe⟩, fun _ _ ⟨o, vs, q, r⟩ k => ⟨o, vs, k o q, r⟩⟩
  exact ⟨.ref e, _, J.laidN (t' := tk') hb ge he ob2, rfl, q1 d e hd hee M.dne⟩
def tValV (C : Addr) (te : TE) : TE := fun σ H Q => te σ H fun x H1 => ∃ (e d : Addr) (v : V), x = .ref e ∧ H1 e = some (ExV C d e) ∧ H1 d = some (.xd [(("value" : Str), v)]) ∧ Q v H1
theorem pe_valV {e : Expr} {te : TE} {pos : Pos} (TC : MeCls X.K D fI C) (he : PE X e te) (hb : attributeBase e "value" X.env (eval e X.env) = eval e X.env := by rfl) : PE X (.Attribute e "value" pos) (tValV C te) := by
  refine ⟨fun pins s σ H Q I h => ?_⟩
  refine attr_of hb (thn (he.run pins s σ H _ I h) ?_)
  rintro u s1 ⟨x, H1, I1, rx, a, d, v, ex, ea, ed, q⟩
  subst ex
  obtain rfl : u = Value.ref a := rx
  obtain ⟨⟨oe, vs, ha, hz, hd⟩, _⟩ := (show ObjOk X.prog X.w H1 s1.heap a (ExV C d a) from I1.hok a _ ea)
  obtain ⟨mA, hns, hr⟩ := (show ObjOk X.prog X.w H1 s1.heap d (.xd [(("value" : Str), v)]) from I1.hok d _ ed)
  obtain ⟨od, ho, hl⟩ := lookIn_ns hns
  have l : List.lookup ("value" : Str) [(("value" : Str), v)] = some v := by simp [List.lookup]
  obtain ⟨u, hu, ru⟩ := RelO.some_of (v := v) (o := mA "value") (by rw [← l]; exact hr "value")
  have J : PySem.W.InstAt s1.heap a oe C (some od) := ⟨ha, hz.1, by unfold PySem.W.notCls; rw [hd] <;> rfl, by rw [hz.2]; exact ho⟩
  exact exc_get I1.kIn J TC.ga TC.gg TC.exC (PySem.W.findObj_own TC.hdC TC.noV rfl (by rw [hl, hu])) (handed_of ru) ⟨v, H1, I1.tok _, ru, q⟩
def tValVO (Ok : Addr → Prop) (te : TE) : TE := fun σ H Q => te σ H fun x H1 => ∃ (C e d : Addr) (v : V), x = .ref e ∧ Ok C ∧ H1 e = some (ExV C d e) ∧ H1 d = some (.xd [(("value" : Str), v)]) ∧ Q v H1
theorem pe_valVO {Ok : Addr → Prop} {e : Expr} {te : TE} {pos : Pos} (hO : ∀ C, Ok C → MeCls X.K D fI C) (he : PE X e te) (hb : attributeBase e "value" X.env (eval e X.env) = eval e X.env := by rfl) : PE X (.Attribute e "value" pos) (tValVO Ok te) := by
  refine ⟨fun pins s σ H Q I h => ?_⟩
  refine attr_of hb (thn (he.run pins s σ H _ I h) ?_)
  rintro u s1 ⟨x, H1, I1, rx, C, a, d, v, ex, oC, ea, ed, q⟩
  have TC := hO C oC
  subst ex
  obtain rfl : u = Value.ref a := rx
  obtain ⟨⟨oe, vs, ha, hz, hd⟩, _⟩ := (show ObjOk X.prog X.w H1 s1.heap a (ExV C d a) from I1.hok a _ ea)
  obtain ⟨mA, hns, hr⟩ := (show ObjOk X.prog X.w H1 s1.heap d (.xd [(("value" : Str), v)]) from I1.hok d _ ed)
  obtain ⟨od, ho, hl⟩ := lookIn_ns hns
  have l : List.lookup ("value" : Str) [(("value" : Str), v)] = some v := by simp [List.lookup]
  obtain ⟨u, hu, ru⟩ := RelO.some_of (v := v) (o := mA "value") (by rw [← l]; exact hr "value")
  have J : PySem.W.InstAt s1.heap a oe C (some od) := ⟨ha, hz.1, by unfold PySem.W.notCls; rw [hd] <;> rfl, by rw [hz.2]; exact ho⟩
  exact exc_get I1.kIn J TC.ga TC.gg TC.exC (PySem.W.findObj_own TC.hdC TC.noV rfl (by rw [hl, hu])) (handed_of ru) ⟨v, H1, I1.tok _, ru, q⟩
end
end Mc
/-! McExcIs: isinstance of an exception of the package: held as a value, or the one that a suite holds. -/
namespace Mc
open PySem PySem.Spec PyProof.Rows L2 PySem.HandSPX
/-- what isinstance asks of an exception's class -/
structure ExcIs (K : PySem.W.Frag) (C : Addr) : Prop where
  cl : PySem.W.findIn K (.ref C) "__class__" = some (some (.builtin "object.__class__"))
  get : PySem.W.specialIn K (.builtin "object.__class__") "__get__" = some (some (.builtin "getset_descriptor.__get__"))
  tk : PySem.W.takesIn K (.builtin "object.__class__") = some true
  mro : PySem.W.mroIn K C (.type "object") = some true
  cd : (PySem.W.clsIn K C).isSome = true
def excIsB (K : PySem.W.Frag) (C : Addr) : Bool := decide (PySem.W.findIn K (.ref C) "__class__" = some (some (.builtin "object.__class__"))) && (decide (PySem.W.specialIn K (.builtin "object.__class__") "__get__" = some (some (.builtin "getset_descriptor.__get__"))) &&
  (decide (PySem.W.takesIn K (.builtin "object.__class__") = some true) && (decide (PySem.W.mroIn K C (.type "object") = some true) && (PySem.W.clsIn K C).isSome)))
theorem excIs_ok {K : PySem.W.Frag} {C : Addr} (h : excIsB K C = true) : ExcIs K C := by
  obtain ⟨a, h⟩ := Bool.and_eq_true_iff.mp h
  obtain ⟨b, h⟩ := Bool.and_eq_true_iff.mp h
  obtain ⟨c, h⟩ := Bool.and_eq_true_iff.mp h
  obtain ⟨d, e⟩ := Bool.and_eq_true_iff.mp h
  exact ⟨of_decide_eq_true a, of_decide_eq_true b, of_decide_eq_true c, of_decide_eq_true d, e⟩
/-- each of the classes xs is itself, none of the other classes ys, and of the classes zs -/
def excTabB (K : PySem.W.Frag) (xs ys : List Str) (zs : List Value) : Bool := xs.all fun x => (ys.all fun y => decide (PySem.W.kitOne K (.ref (He.ga K x)) (.ref (He.ga K y)) = some (decide (x = y)))) && zs.all fun z => decide (PySem.W.kitOne K (.ref (He.ga K x)) z = some true)
theorem excTab_ok {K : PySem.W.Frag} {xs ys : List Str} {zs : List Value} (h : excTabB K xs ys zs = true) {x : Str} (hx : x ∈ xs) :
    (∀ y ∈ ys, PySem.W.kitOne K (.ref (He.ga K x)) (.ref (He.ga K y)) = some (decide (x = y))) ∧ ∀ z ∈ zs, PySem.W.kitOne K (.ref (He.ga K x)) z = some true := by
  obtain ⟨a, b⟩ := Bool.and_eq_true_iff.mp (List.all_eq_true.mp h x hx)
  exact ⟨fun y hy => of_decide_eq_true (List.all_eq_true.mp a y hy), fun z hz => of_decide_eq_true (List.all_eq_true.mp b z hz)⟩
section
variable {X : Cx} {D fI C : Addr}
theorem is_exc {pins : List (Addr × Obj)} {σ : L2.St} {H : Hp} {s : Shared} {e : Addr} {oe : Obj} {od : Option Obj} {c u2 u : Value} {b : Bool} {Q : VK} (TC : MeCls X.K D fI C) (EI : ExcIs X.K C) (I : Inv X pins σ H s) (J : PySem.W.InstAt s.heap e oe C od)
    (ne : (Value.ref e) ≠ .builtin "__main__.__loader__#opaque") (k : PySem.W.kitOne X.K (.ref C) u = some b) (q : Q (.bl b) H) : wpAny (model X.prog X.w) X.A (call (.builtin "isinstance") [.ref e, u]) (EP X pins σ Q) X.xe s :=
  PySem.W.kia_one (PySem.W.kitx_exc EI.cd TC.ga TC.gg TC.exC EI.cl EI.get EI.tk EI.mro) I.kIn J k ne fun tk => ⟨.bl b, H, I.tok tk, rfl, q⟩
/-- isinstance(x, c), x an exception held as a value, of one of the classes Cs -/
def rIsV (K : PySem.W.Frag) (Ok : Addr → Prop) : List V → Hp → VK → Prop := fun xs H Q => ∃ (e d C dd : Addr) (v c : V) (u : Value) (b : Bool), xs = [.ref e, c] ∧ ClsV c u ∧ Ok C ∧ H e = some (ExV C d e) ∧ H d = some (.xd [(("value" : Str), v)]) ∧ PySem.W.kitOne K (.ref C) u = some b ∧ Q (.bl b) H
theorem call_isV {Ok : Addr → Prop} (hO : ∀ C, Ok C → (MeCls X.K D fI C) ∧ ExcIs X.K C) : CallR X (.builtin "isinstance") (rIsV X.K Ok) := by
  intro pins s σ H xs us Q I r h
  obtain ⟨e, d, C, dd, v, c, u, b, rfl, k, oC, ee, ed, hk, q⟩ := h
  obtain ⟨u1, u2, rfl, r1, r2⟩ := vals2 r
  obtain rfl : u1 = Value.ref e := r1
  have e2 := k.eq r2
  subst e2
  obtain ⟨TC, EI⟩ := hO C oC
  obtain ⟨⟨oe, vs, ha, hz, hd⟩, _⟩ := (show ObjOk X.prog X.w H s.heap e (ExV C d e) from I.hok e _ ee)
  obtain ⟨mA, hns, hr⟩ := (show ObjOk X.prog X.w H s.heap d (.xd [(("value" : Str), v)]) from I.hok d _ ed)
  obtain ⟨od, ho, hl⟩ := lookIn_ns hns
  have J : PySem.W.InstAt s.heap e oe C (some od) := ⟨ha, hz.1, by unfold PySem.W.notCls; rw [hd] <;> rfl, by rw [hz.2]; exact ho⟩
  exact is_exc (c := u2) (u2 := u2) TC EI I J (fun z => nomatch z) hk q
end
end Mc
namespace Me
open PySem PySem.Spec PyProof.Rows L2
/-! ### the text by places -/
def top (i : Nat) : Stmt := PySem.Challenge.pw_meetcells_k02_exceptions_apart.main.body.getD i (.Pass ⟨0, 0, 0, 0⟩)
abbrev s__law_cell : Stmt := top 30
abbrev s__law_box : Stmt := top 31
abbrev s__law_take : Stmt := top 32
abbrev s__law_made : Stmt := top 33
abbrev s__law_first : Stmt := top 34
abbrev s__law_second : Stmt := top 35
abbrev s__law_third : Stmt := top 36
abbrev s__law_is : Stmt := top 37
abbrev s__law_values : Stmt := top 38
abbrev s__law_raised : Stmt := top 39
abbrev s_law : Stmt := top 40
abbrev s_me : Stmt := inClass (top 1) 0
/-! ### the defs as data -/
def d__law_cell : He.DefD := ⟨("_law_cell", none), "_law_cell", "_law_cell", defArgs s__law_cell, defBody s__law_cell, defScope s__law_cell, [], []⟩
def d__law_box : He.DefD := ⟨("_law_box", none), "_law_box", "_law_box", defArgs s__law_box, defBody s__law_box, defScope s__law_box, [], []⟩
def d__law_take : He.DefD := ⟨("_law_take", none), "_law_take", "_law_take", defArgs s__law_take, defBody s__law_take, defScope s__law_take, [], []⟩
def d__law_made : He.DefD := ⟨("_law_made", none), "_law_made", "_law_made", defArgs s__law_made, defBody s__law_made, defScope s__law_made, [], []⟩
def d__law_first : He.DefD := ⟨("_law_first", none), "_law_first", "_law_first", defArgs s__law_first, defBody s__law_first, defScope s__law_first, [], []⟩
def d__law_second : He.DefD := ⟨("_law_second", none), "_law_second", "_law_second", defArgs s__law_second, defBody s__law_second, defScope s__law_second, [], []⟩
def d__law_third : He.DefD := ⟨("_law_third", none), "_law_third", "_law_third", defArgs s__law_third, defBody s__law_third, defScope s__law_third, [], []⟩
def d__law_is : He.DefD := ⟨("_law_is", none), "_law_is", "_law_is", defArgs s__law_is, defBody s__law_is, defScope s__law_is, [], []⟩
def d__law_values : He.DefD := ⟨("_law_values", none), "_law_values", "_law_values", defArgs s__law_values, defBody s__law_values, defScope s__law_values, [], []⟩
def d__law_raised : He.DefD := ⟨("_law_raised", none), "_law_raised", "_law_raised", defArgs s__law_raised, defBody s__law_raised, defScope s__law_raised, [], []⟩
def d_law : He.DefD := ⟨("law", none), "law", "law", defArgs s_law, defBody s_law, defScope s_law, [], []⟩
def fn : List He.DefD := ([d__law_cell, d__law_box, d__law_take, d__law_made, d__law_first, d__law_second, d__law_third, d__law_is, d__law_values, d__law_raised, d_law] : List He.DefD)
def fa : List He.Fa := ([.glo "_law_cell", .glo "_law_box", .glo "_law_take", .glo "_law_made", .glo "_law_first", .glo "_law_second", .glo "_law_third", .glo "_law_is", .glo "_law_values", .glo "_law_raised", .glo "law", .glo "MeetcellsError", .glo "InvalidNumber", .glo "InvalidKind", .glo "InvalidKinds"] : List He.Fa) ++ ([.glo "InvalidWires", .glo "InvalidWord", .glo "InvalidEnd", .glo "InvalidPort", .glo "InvalidPair", .glo "InvalidPairs", .glo "InvalidOrder", .glo "InvalidNet", .glo "InvalidRows", .glo "InvalidName", .glo "InvalidDeed", .glo "InvalidDeeds", .glo "InvalidLine", .glo "InvalidMove", .glo "InvalidMoves"] : List He.Fa) ++ ([.glo "BadText", .glo "TooLarge", .glo "NotReduced", .glo "HasRing", .glo "UnlikeEnds", .glo "NotCopyable", .glo "NotEnded", .glo "UnknownName", .glo "NothingToUndo", .free "len", .free "range", .free "repr", .free "isinstance", .free "max", .free "min"] : List He.Fa) ++ ([.free "list", .free "super", .free "ValueError", .exm "MeetcellsError" "MeetcellsError" true, .exm "InvalidNumber" "MeetcellsError" true, .exm "InvalidNumber" "InvalidNumber" true, .exm "InvalidNumber" "InvalidPairs" false, .exm "InvalidKind" "MeetcellsError" true, .exm "InvalidKind" "InvalidKind" true, .exm "InvalidKinds" "MeetcellsError" true, .exm "InvalidKinds" "InvalidKinds" true, .exm "InvalidWires" "MeetcellsError" true, .exm "InvalidWires" "InvalidWires" true, .exm "InvalidWord" "MeetcellsError" true, .exm "InvalidWord" "InvalidWord" true] : List He.Fa) ++ ([.exm "InvalidEnd" "MeetcellsError" true, .exm "InvalidEnd" "InvalidEnd" true, .exm "InvalidPort" "MeetcellsError" true, .exm "InvalidPort" "InvalidPort" true, .exm "InvalidPair" "MeetcellsError" true, .exm "InvalidPair" "InvalidPair" true, .exm "InvalidPairs" "MeetcellsError" true, .exm "InvalidPairs" "InvalidPairs" true, .exm "InvalidOrder" "MeetcellsError" true, .exm "InvalidOrder" "InvalidOrder" true, .exm "InvalidNet" "MeetcellsError" true, .exm "InvalidNet" "InvalidNet" true, .exm "InvalidRows" "MeetcellsError" true, .exm "InvalidRows" "InvalidRows" true, .exm "InvalidName" "MeetcellsError" true] : List He.Fa) ++ ([.exm "InvalidName" "InvalidName" true, .exm "InvalidDeed" "MeetcellsError" true, .exm "InvalidDeed" "InvalidDeed" true, .exm "InvalidDeeds" "MeetcellsError" true, .exm "InvalidDeeds" "InvalidDeeds" true, .exm "InvalidLine" "MeetcellsError" true, .exm "InvalidLine" "InvalidLine" true, .exm "InvalidMove" "MeetcellsError" true, .exm "InvalidMove" "InvalidMove" true, .exm "InvalidMoves" "MeetcellsError" true, .exm "InvalidMoves" "InvalidMoves" true, .exm "BadText" "MeetcellsError" true, .exm "BadText" "BadText" true, .exm "TooLarge" "MeetcellsError" true, .exm "TooLarge" "TooLarge" true] : List He.Fa) ++ ([.exm "NotReduced" "MeetcellsError" true, .exm "NotReduced" "NotReduced" true, .exm "HasRing" "MeetcellsError" true, .exm "HasRing" "HasRing" true, .exm "UnlikeEnds" "MeetcellsError" true, .exm "UnlikeEnds" "UnlikeEnds" true, .exm "NotCopyable" "MeetcellsError" true, .exm "NotCopyable" "NotCopyable" true, .exm "NotEnded" "MeetcellsError" true, .exm "NotEnded" "NotEnded" true, .exm "UnknownName" "MeetcellsError" true, .exm "UnknownName" "UnknownName" true, .exm "NothingToUndo" "MeetcellsError" true, .exm "NothingToUndo" "NothingToUndo" true] : List He.Fa)
def tabs : List He.Tab := []
def ex (K : PySem.W.Frag) : Bool := Mc.inB (PySem.Challenge.pw_meetcells_k02_exceptions_apart.main.file) K && (Mc.meClsB K "MeetcellsError" && (Mc.meClsB K "InvalidNumber" && (Mc.meClsB K "InvalidKind" && (Mc.meClsB K "InvalidKinds" && (Mc.meClsB K "InvalidWires" && (Mc.meClsB K "InvalidWord" && (Mc.meClsB K "InvalidEnd" && (Mc.meClsB K "InvalidPort" && (Mc.meClsB K "InvalidPair" && (Mc.meClsB K "InvalidPairs" && (Mc.meClsB K "InvalidOrder" && (Mc.meClsB K "InvalidNet" && (Mc.meClsB K "InvalidRows" && (Mc.meClsB K "InvalidName" && (Mc.meClsB K "InvalidDeed" && (Mc.meClsB K "InvalidDeeds" && (Mc.meClsB K "InvalidLine" && (Mc.meClsB K "InvalidMove" && (Mc.meClsB K "InvalidMoves" && (Mc.meClsB K "BadText" && (Mc.meClsB K "TooLarge" && (Mc.meClsB K "NotReduced" && (Mc.meClsB K "HasRing" && (Mc.meClsB K "UnlikeEnds" && (Mc.meClsB K "NotCopyable" && (Mc.meClsB K "NotEnded" && (Mc.meClsB K "UnknownName" && (Mc.meClsB K "NothingToUndo" && (Mc.excTabB K ["MeetcellsError", "InvalidNumber", "InvalidKind", "InvalidKinds", "InvalidWires", "InvalidWord", "InvalidEnd", "InvalidPort", "InvalidPair", "InvalidPairs", "InvalidOrder", "InvalidNet", "InvalidRows", "InvalidName", "InvalidDeed", "InvalidDeeds", "InvalidLine", "InvalidMove", "InvalidMoves", "BadText", "TooLarge", "NotReduced", "HasRing", "UnlikeEnds", "NotCopyable", "NotEnded", "UnknownName", "NothingToUndo"] ["InvalidNumber", "InvalidKind", "InvalidKinds", "InvalidWires", "InvalidWord", "InvalidEnd", "InvalidPort", "InvalidPair", "InvalidPairs", "InvalidOrder", "InvalidNet", "InvalidRows", "InvalidName", "InvalidDeed", "InvalidDeeds", "InvalidLine", "InvalidMove", "InvalidMoves", "BadText", "TooLarge", "NotReduced", "HasRing", "UnlikeEnds", "NotCopyable", "NotEnded", "UnknownName", "NothingToUndo"] [.ref (He.ga K "MeetcellsError"), .type "ValueError"] && ((["MeetcellsError", "InvalidNumber", "InvalidKind", "InvalidKinds", "InvalidWires", "InvalidWord", "InvalidEnd", "InvalidPort", "InvalidPair", "InvalidPairs", "InvalidOrder", "InvalidNet", "InvalidRows", "InvalidName", "InvalidDeed", "InvalidDeeds", "InvalidLine", "InvalidMove", "InvalidMoves", "BadText", "TooLarge", "NotReduced", "HasRing", "UnlikeEnds", "NotCopyable", "NotEnded", "UnknownName", "NothingToUndo"] : List Str).all fun x => Mc.excIsB K (He.ga K x)))))))))))))))))))))))))))))))
abbrev R : PySem.W.OpenRow := PySem.W.OpenLaw.row PySem.Challenge.rw_meetcells_k02_exceptions_apart
abbrev hk : PySem.W.Hook := Mc.hookM 6 fa fn tabs s_me ex
def ob (s : PySem.W.SharedT) : Mc.AlM := Mc.obsM 6 fa fn tabs ex (HandSHeadRun.getT s)
theorem ob_eq (s : PySem.W.SharedT) : ob s = hk.obs s.abs := Mc.obsM_eq (HandSHeadRun.getT_eq s)
def loose : List PySem.Str := (["MeetcellsError", "InvalidNumber", "InvalidKind", "InvalidKinds", "InvalidWires", "InvalidWord", "InvalidEnd", "InvalidPort", "InvalidPair", "InvalidPairs", "InvalidOrder", "InvalidNet", "InvalidRows", "InvalidName", "InvalidDeed"] : List PySem.Str) ++ (["InvalidDeeds", "InvalidLine", "InvalidMove", "InvalidMoves", "BadText", "TooLarge", "NotReduced", "HasRing", "UnlikeEnds", "NotCopyable", "NotEnded", "UnknownName", "NothingToUndo", "_law_cell", "_law_box"] : List PySem.Str) ++ (["_law_take", "_law_made", "_law_first", "_law_second", "_law_third", "_law_is", "_law_values", "_law_raised"] : List PySem.Str)
theorem run_f (w : World) : HandSHeadRun.RunEq R (PySem.W.view R.prog [40]) hk ob 60000 loose (w.withFollow "special-get-raises" false) := by
  intro os
  kernel_rfl
theorem run_t (w : World) : HandSHeadRun.RunEq R (PySem.W.view R.prog [40]) hk ob 60000 loose (w.withFollow "special-get-raises" true) := by
  intro os
  kernel_rfl
theorem run (w : World) : HandSHeadRun.RunEq R (PySem.W.view R.prog [40]) hk ob 60000 loose w := PySem.W.byRow2 "special-get-raises" (P := fun w => HandSHeadRun.RunEq R (PySem.W.view R.prog [40]) hk ob 60000 loose w) run_f run_t w
abbrev N__law_cell : List Str := ["_law_script", "_law_k"]
theorem sc__law_cell : FnScope N__law_cell ["_law_script", "_law_k"] (defScope s__law_cell) := ⟨rfl, rfl, rfl, by decide +kernel, rfl, by decide +kernel, by decide +kernel⟩
abbrev N__law_box : List Str := ["_law_unit"]
theorem sc__law_box : FnScope N__law_box ["_law_unit"] (defScope s__law_box) := ⟨rfl, rfl, rfl, by decide +kernel, rfl, by decide +kernel, by decide +kernel⟩
abbrev N__law_take : List Str := ["_law_box_here", "_law_many", "_law_digit", "_law_number"]
theorem sc__law_take : FnScope N__law_take ["_law_box_here", "_law_many"] (defScope s__law_take) := ⟨rfl, rfl, rfl, by decide +kernel, rfl, by decide +kernel, by decide +kernel⟩
abbrev N__law_made : List Str := ["_law_number", "_law_value"]
theorem sc__law_made : FnScope N__law_made ["_law_number", "_law_value"] (defScope s__law_made) := ⟨rfl, rfl, rfl, by decide +kernel, rfl, by decide +kernel, by decide +kernel⟩
abbrev N__law_first : List Str := ["_law_number", "_law_value"]
theorem sc__law_first : FnScope N__law_first ["_law_number", "_law_value"] (defScope s__law_first) := ⟨rfl, rfl, rfl, by decide +kernel, rfl, by decide +kernel, by decide +kernel⟩
abbrev N__law_second : List Str := ["_law_number", "_law_value"]
theorem sc__law_second : FnScope N__law_second ["_law_number", "_law_value"] (defScope s__law_second) := ⟨rfl, rfl, rfl, by decide +kernel, rfl, by decide +kernel, by decide +kernel⟩
abbrev N__law_third : List Str := ["_law_number", "_law_value"]
theorem sc__law_third : FnScope N__law_third ["_law_number", "_law_value"] (defScope s__law_third) := ⟨rfl, rfl, rfl, by decide +kernel, rfl, by decide +kernel, by decide +kernel⟩
abbrev N__law_is : List Str := ["_law_error", "_law_found"]
theorem sc__law_is : FnScope N__law_is ["_law_error"] (defScope s__law_is) := ⟨rfl, rfl, rfl, by decide +kernel, rfl, by decide +kernel, by decide +kernel⟩
abbrev N__law_values : List Str := ["_law_box_here", "_law_text", "_law_k"]
theorem sc__law_values : FnScope N__law_values ["_law_box_here"] (defScope s__law_values) := ⟨rfl, rfl, rfl, by decide +kernel, rfl, by decide +kernel, by decide +kernel⟩
abbrev N__law_raised : List Str := ["_law_value", "e", "_law_k"]
theorem sc__law_raised : FnScope N__law_raised ["_law_value"] (defScope s__law_raised) := ⟨rfl, rfl, rfl, by decide +kernel, rfl, by decide +kernel, by decide +kernel⟩
abbrev N_law : List Str := ["_law_script", "_law_k", "_law_box_here", "_law_values_here", "_law_number", "_law_value", "_law_error", "_law_other"]
theorem sc_law : FnScope N_law ["_law_script"] (defScope s_law) := ⟨rfl, rfl, rfl, by decide +kernel, rfl, by decide +kernel, by decide +kernel⟩
structure Txt (P : Program) (w : World) (K : PySem.W.Frag) (mg : Str → Option Value) : Prop where
  m_len : mg "len" = none
  m_range : mg "range" = none
  m_repr : mg "repr" = none
  m_isinstance : mg "isinstance" = none
  m_max : mg "max" = none
  m_min : mg "min" = none
  m_list : mg "list" = none
  m_super : mg "super" = none
  m_ValueError : mg "ValueError" = none
  g__law_cell : mg "_law_cell" = some (.ref (He.ga K "_law_cell"))
  f__law_cell : ∃ fd, FunD K "_law_cell" "_law_cell" (defArgs s__law_cell) (defBody s__law_cell) (defScope s__law_cell) [] [] (He.ga K "_law_cell") fd
  k__law_cell : PySem.W.keepIn K (.ref (He.ga K "_law_cell")) = true
  g__law_box : mg "_law_box" = some (.ref (He.ga K "_law_box"))
  f__law_box : ∃ fd, FunD K "_law_box" "_law_box" (defArgs s__law_box) (defBody s__law_box) (defScope s__law_box) [] [] (He.ga K "_law_box") fd
  k__law_box : PySem.W.keepIn K (.ref (He.ga K "_law_box")) = true
  g__law_take : mg "_law_take" = some (.ref (He.ga K "_law_take"))
  f__law_take : ∃ fd, FunD K "_law_take" "_law_take" (defArgs s__law_take) (defBody s__law_take) (defScope s__law_take) [] [] (He.ga K "_law_take") fd
  k__law_take : PySem.W.keepIn K (.ref (He.ga K "_law_take")) = true
  g__law_made : mg "_law_made" = some (.ref (He.ga K "_law_made"))
  f__law_made : ∃ fd, FunD K "_law_made" "_law_made" (defArgs s__law_made) (defBody s__law_made) (defScope s__law_made) [] [] (He.ga K "_law_made") fd
  k__law_made : PySem.W.keepIn K (.ref (He.ga K "_law_made")) = true
  g__law_first : mg "_law_first" = some (.ref (He.ga K "_law_first"))
  f__law_first : ∃ fd, FunD K "_law_first" "_law_first" (defArgs s__law_first) (defBody s__law_first) (defScope s__law_first) [] [] (He.ga K "_law_first") fd
  k__law_first : PySem.W.keepIn K (.ref (He.ga K "_law_first")) = true
  g__law_second : mg "_law_second" = some (.ref (He.ga K "_law_second"))
  f__law_second : ∃ fd, FunD K "_law_second" "_law_second" (defArgs s__law_second) (defBody s__law_second) (defScope s__law_second) [] [] (He.ga K "_law_second") fd
  k__law_second : PySem.W.keepIn K (.ref (He.ga K "_law_second")) = true
  g__law_third : mg "_law_third" = some (.ref (He.ga K "_law_third"))
  f__law_third : ∃ fd, FunD K "_law_third" "_law_third" (defArgs s__law_third) (defBody s__law_third) (defScope s__law_third) [] [] (He.ga K "_law_third") fd
  k__law_third : PySem.W.keepIn K (.ref (He.ga K "_law_third")) = true
  g__law_is : mg "_law_is" = some (.ref (He.ga K "_law_is"))
  f__law_is : ∃ fd, FunD K "_law_is" "_law_is" (defArgs s__law_is) (defBody s__law_is) (defScope s__law_is) [] [] (He.ga K "_law_is") fd
  k__law_is : PySem.W.keepIn K (.ref (He.ga K "_law_is")) = true
  g__law_values : mg "_law_values" = some (.ref (He.ga K "_law_values"))
  f__law_values : ∃ fd, FunD K "_law_values" "_law_values" (defArgs s__law_values) (defBody s__law_values) (defScope s__law_values) [] [] (He.ga K "_law_values") fd
  k__law_values : PySem.W.keepIn K (.ref (He.ga K "_law_values")) = true
  g__law_raised : mg "_law_raised" = some (.ref (He.ga K "_law_raised"))
  f__law_raised : ∃ fd, FunD K "_law_raised" "_law_raised" (defArgs s__law_raised) (defBody s__law_raised) (defScope s__law_raised) [] [] (He.ga K "_law_raised") fd
  k__law_raised : PySem.W.keepIn K (.ref (He.ga K "_law_raised")) = true
  g_law : mg "law" = some (.ref (He.ga K "law"))
  f_law : ∃ fd, FunD K "law" "law" (defArgs s_law) (defBody s_law) (defScope s_law) [] [] (He.ga K "law") fd
  k_law : PySem.W.keepIn K (.ref (He.ga K "law")) = true
  g_MeetcellsError : mg "MeetcellsError" = some (.ref (He.ga K "MeetcellsError"))
  g_InvalidNumber : mg "InvalidNumber" = some (.ref (He.ga K "InvalidNumber"))
  g_InvalidKind : mg "InvalidKind" = some (.ref (He.ga K "InvalidKind"))
  g_InvalidKinds : mg "InvalidKinds" = some (.ref (He.ga K "InvalidKinds"))
  g_InvalidWires : mg "InvalidWires" = some (.ref (He.ga K "InvalidWires"))
  g_InvalidWord : mg "InvalidWord" = some (.ref (He.ga K "InvalidWord"))
  g_InvalidEnd : mg "InvalidEnd" = some (.ref (He.ga K "InvalidEnd"))
  g_InvalidPort : mg "InvalidPort" = some (.ref (He.ga K "InvalidPort"))
  g_InvalidPair : mg "InvalidPair" = some (.ref (He.ga K "InvalidPair"))
  g_InvalidPairs : mg "InvalidPairs" = some (.ref (He.ga K "InvalidPairs"))
  g_InvalidOrder : mg "InvalidOrder" = some (.ref (He.ga K "InvalidOrder"))
  g_InvalidNet : mg "InvalidNet" = some (.ref (He.ga K "InvalidNet"))
  g_InvalidRows : mg "InvalidRows" = some (.ref (He.ga K "InvalidRows"))
  g_InvalidName : mg "InvalidName" = some (.ref (He.ga K "InvalidName"))
  g_InvalidDeed : mg "InvalidDeed" = some (.ref (He.ga K "InvalidDeed"))
  g_InvalidDeeds : mg "InvalidDeeds" = some (.ref (He.ga K "InvalidDeeds"))
  g_InvalidLine : mg "InvalidLine" = some (.ref (He.ga K "InvalidLine"))
  g_InvalidMove : mg "InvalidMove" = some (.ref (He.ga K "InvalidMove"))
  g_InvalidMoves : mg "InvalidMoves" = some (.ref (He.ga K "InvalidMoves"))
  g_BadText : mg "BadText" = some (.ref (He.ga K "BadText"))
  g_TooLarge : mg "TooLarge" = some (.ref (He.ga K "TooLarge"))
  g_NotReduced : mg "NotReduced" = some (.ref (He.ga K "NotReduced"))
  g_HasRing : mg "HasRing" = some (.ref (He.ga K "HasRing"))
  g_UnlikeEnds : mg "UnlikeEnds" = some (.ref (He.ga K "UnlikeEnds"))
  g_NotCopyable : mg "NotCopyable" = some (.ref (He.ga K "NotCopyable"))
  g_NotEnded : mg "NotEnded" = some (.ref (He.ga K "NotEnded"))
  g_UnknownName : mg "UnknownName" = some (.ref (He.ga K "UnknownName"))
  g_NothingToUndo : mg "NothingToUndo" = some (.ref (He.ga K "NothingToUndo"))
  me : Mc.MeInit P K (Mc.meD K) (Mc.meI K)
  x_MeetcellsError : Mc.MeCls K (Mc.meD K) (Mc.meI K) (He.ga K "MeetcellsError")
  x_InvalidNumber : Mc.MeCls K (Mc.meD K) (Mc.meI K) (He.ga K "InvalidNumber")
  x_InvalidKind : Mc.MeCls K (Mc.meD K) (Mc.meI K) (He.ga K "InvalidKind")
  x_InvalidKinds : Mc.MeCls K (Mc.meD K) (Mc.meI K) (He.ga K "InvalidKinds")
  x_InvalidWires : Mc.MeCls K (Mc.meD K) (Mc.meI K) (He.ga K "InvalidWires")
  x_InvalidWord : Mc.MeCls K (Mc.meD K) (Mc.meI K) (He.ga K "InvalidWord")
  x_InvalidEnd : Mc.MeCls K (Mc.meD K) (Mc.meI K) (He.ga K "InvalidEnd")
  x_InvalidPort : Mc.MeCls K (Mc.meD K) (Mc.meI K) (He.ga K "InvalidPort")
  x_InvalidPair : Mc.MeCls K (Mc.meD K) (Mc.meI K) (He.ga K "InvalidPair")
  x_InvalidPairs : Mc.MeCls K (Mc.meD K) (Mc.meI K) (He.ga K "InvalidPairs")
  x_InvalidOrder : Mc.MeCls K (Mc.meD K) (Mc.meI K) (He.ga K "InvalidOrder")
  x_InvalidNet : Mc.MeCls K (Mc.meD K) (Mc.meI K) (He.ga K "InvalidNet")
  x_InvalidRows : Mc.MeCls K (Mc.meD K) (Mc.meI K) (He.ga K "InvalidRows")
  x_InvalidName : Mc.MeCls K (Mc.meD K) (Mc.meI K) (He.ga K "InvalidName")
  x_InvalidDeed : Mc.MeCls K (Mc.meD K) (Mc.meI K) (He.ga K "InvalidDeed")
  x_InvalidDeeds : Mc.MeCls K (Mc.meD K) (Mc.meI K) (He.ga K "InvalidDeeds")
  x_InvalidLine : Mc.MeCls K (Mc.meD K) (Mc.meI K) (He.ga K "InvalidLine")
  x_InvalidMove : Mc.MeCls K (Mc.meD K) (Mc.meI K) (He.ga K "InvalidMove")
  x_InvalidMoves : Mc.MeCls K (Mc.meD K) (Mc.meI K) (He.ga K "InvalidMoves")
  x_BadText : Mc.MeCls K (Mc.meD K) (Mc.meI K) (He.ga K "BadText")
  x_TooLarge : Mc.MeCls K (Mc.meD K) (Mc.meI K) (He.ga K "TooLarge")
  x_NotReduced : Mc.MeCls K (Mc.meD K) (Mc.meI K) (He.ga K "NotReduced")
  x_HasRing : Mc.MeCls K (Mc.meD K) (Mc.meI K) (He.ga K "HasRing")
  x_UnlikeEnds : Mc.MeCls K (Mc.meD K) (Mc.meI K) (He.ga K "UnlikeEnds")
  x_NotCopyable : Mc.MeCls K (Mc.meD K) (Mc.meI K) (He.ga K "NotCopyable")
  x_NotEnded : Mc.MeCls K (Mc.meD K) (Mc.meI K) (He.ga K "NotEnded")
  x_UnknownName : Mc.MeCls K (Mc.meD K) (Mc.meI K) (He.ga K "UnknownName")
  x_NothingToUndo : Mc.MeCls K (Mc.meD K) (Mc.meI K) (He.ga K "NothingToUndo")
  xt : ∀ x ∈ (["MeetcellsError", "InvalidNumber", "InvalidKind", "InvalidKinds", "InvalidWires", "InvalidWord", "InvalidEnd", "InvalidPort", "InvalidPair", "InvalidPairs", "InvalidOrder", "InvalidNet", "InvalidRows", "InvalidName", "InvalidDeed", "InvalidDeeds", "InvalidLine", "InvalidMove", "InvalidMoves", "BadText", "TooLarge", "NotReduced", "HasRing", "UnlikeEnds", "NotCopyable", "NotEnded", "UnknownName", "NothingToUndo"] : List Str), (∀ y ∈ (["InvalidNumber", "InvalidKind", "InvalidKinds", "InvalidWires", "InvalidWord", "InvalidEnd", "InvalidPort", "InvalidPair", "InvalidPairs", "InvalidOrder", "InvalidNet", "InvalidRows", "InvalidName", "InvalidDeed", "InvalidDeeds", "InvalidLine", "InvalidMove", "InvalidMoves", "BadText", "TooLarge", "NotReduced", "HasRing", "UnlikeEnds", "NotCopyable", "NotEnded", "UnknownName", "NothingToUndo"] : List Str), PySem.W.kitOne K (.ref (He.ga K x)) (.ref (He.ga K y)) = some (decide (x = y))) ∧ ∀ z ∈ ([.ref (He.ga K "MeetcellsError"), .type "ValueError"] : List Value), PySem.W.kitOne K (.ref (He.ga K x)) z = some true
  xi : ∀ x ∈ (["MeetcellsError", "InvalidNumber", "InvalidKind", "InvalidKinds", "InvalidWires", "InvalidWord", "InvalidEnd", "InvalidPort", "InvalidPair", "InvalidPairs", "InvalidOrder", "InvalidNet", "InvalidRows", "InvalidName", "InvalidDeed", "InvalidDeeds", "InvalidLine", "InvalidMove", "InvalidMoves", "BadText", "TooLarge", "NotReduced", "HasRing", "UnlikeEnds", "NotCopyable", "NotEnded", "UnknownName", "NothingToUndo"] : List Str), Mc.ExcIs K (He.ga K x)
  e_MeetcellsError_MeetcellsError : PySem.W.exmOne K (.ref (He.ga K "MeetcellsError")) (.ref (He.ga K "MeetcellsError")) = some true
  e_InvalidNumber_MeetcellsError : PySem.W.exmOne K (.ref (He.ga K "InvalidNumber")) (.ref (He.ga K "MeetcellsError")) = some true
  e_InvalidNumber_InvalidNumber : PySem.W.exmOne K (.ref (He.ga K "InvalidNumber")) (.ref (He.ga K "InvalidNumber")) = some true
  e_InvalidNumber_InvalidPairs : PySem.W.exmOne K (.ref (He.ga K "InvalidNumber")) (.ref (He.ga K "InvalidPairs")) = some false
  e_InvalidKind_MeetcellsError : PySem.W.exmOne K (.ref (He.ga K "InvalidKind")) (.ref (He.ga K "MeetcellsError")) = some true
  e_InvalidKind_InvalidKind : PySem.W.exmOne K (.ref (He.ga K "InvalidKind")) (.ref (He.ga K "InvalidKind")) = some true
  e_InvalidKinds_MeetcellsError : PySem.W.exmOne K (.ref (He.ga K "InvalidKinds")) (.ref (He.ga K "MeetcellsError")) = some true
  e_InvalidKinds_InvalidKinds : PySem.W.exmOne K (.ref (He.ga K "InvalidKinds")) (.ref (He.ga K "InvalidKinds")) = some true
  e_InvalidWires_MeetcellsError : PySem.W.exmOne K (.ref (He.ga K "InvalidWires")) (.ref (He.ga K "MeetcellsError")) = some true
  e_InvalidWires_InvalidWires : PySem.W.exmOne K (.ref (He.ga K "InvalidWires")) (.ref (He.ga K "InvalidWires")) = some true
  e_InvalidWord_MeetcellsError : PySem.W.exmOne K (.ref (He.ga K "InvalidWord")) (.ref (He.ga K "MeetcellsError")) = some true
  e_InvalidWord_InvalidWord : PySem.W.exmOne K (.ref (He.ga K "InvalidWord")) (.ref (He.ga K "InvalidWord")) = some true
  e_InvalidEnd_MeetcellsError : PySem.W.exmOne K (.ref (He.ga K "InvalidEnd")) (.ref (He.ga K "MeetcellsError")) = some true
  e_InvalidEnd_InvalidEnd : PySem.W.exmOne K (.ref (He.ga K "InvalidEnd")) (.ref (He.ga K "InvalidEnd")) = some true
  e_InvalidPort_MeetcellsError : PySem.W.exmOne K (.ref (He.ga K "InvalidPort")) (.ref (He.ga K "MeetcellsError")) = some true
  e_InvalidPort_InvalidPort : PySem.W.exmOne K (.ref (He.ga K "InvalidPort")) (.ref (He.ga K "InvalidPort")) = some true
  e_InvalidPair_MeetcellsError : PySem.W.exmOne K (.ref (He.ga K "InvalidPair")) (.ref (He.ga K "MeetcellsError")) = some true
  e_InvalidPair_InvalidPair : PySem.W.exmOne K (.ref (He.ga K "InvalidPair")) (.ref (He.ga K "InvalidPair")) = some true
  e_InvalidPairs_MeetcellsError : PySem.W.exmOne K (.ref (He.ga K "InvalidPairs")) (.ref (He.ga K "MeetcellsError")) = some true
  e_InvalidPairs_InvalidPairs : PySem.W.exmOne K (.ref (He.ga K "InvalidPairs")) (.ref (He.ga K "InvalidPairs")) = some true
  e_InvalidOrder_MeetcellsError : PySem.W.exmOne K (.ref (He.ga K "InvalidOrder")) (.ref (He.ga K "MeetcellsError")) = some true
  e_InvalidOrder_InvalidOrder : PySem.W.exmOne K (.ref (He.ga K "InvalidOrder")) (.ref (He.ga K "InvalidOrder")) = some true
  e_InvalidNet_MeetcellsError : PySem.W.exmOne K (.ref (He.ga K "InvalidNet")) (.ref (He.ga K "MeetcellsError")) = some true
  e_InvalidNet_InvalidNet : PySem.W.exmOne K (.ref (He.ga K "InvalidNet")) (.ref (He.ga K "InvalidNet")) = some true
  e_InvalidRows_MeetcellsError : PySem.W.exmOne K (.ref (He.ga K "InvalidRows")) (.ref (He.ga K "MeetcellsError")) = some true
  e_InvalidRows_InvalidRows : PySem.W.exmOne K (.ref (He.ga K "InvalidRows")) (.ref (He.ga K "InvalidRows")) = some true
  e_InvalidName_MeetcellsError : PySem.W.exmOne K (.ref (He.ga K "InvalidName")) (.ref (He.ga K "MeetcellsError")) = some true
  e_InvalidName_InvalidName : PySem.W.exmOne K (.ref (He.ga K "InvalidName")) (.ref (He.ga K "InvalidName")) = some true
  e_InvalidDeed_MeetcellsError : PySem.W.exmOne K (.ref (He.ga K "InvalidDeed")) (.ref (He.ga K "MeetcellsError")) = some true
  e_InvalidDeed_InvalidDeed : PySem.W.exmOne K (.ref (He.ga K "InvalidDeed")) (.ref (He.ga K "InvalidDeed")) = some true
  e_InvalidDeeds_MeetcellsError : PySem.W.exmOne K (.ref (He.ga K "InvalidDeeds")) (.ref (He.ga K "MeetcellsError")) = some true
  e_InvalidDeeds_InvalidDeeds : PySem.W.exmOne K (.ref (He.ga K "InvalidDeeds")) (.ref (He.ga K "InvalidDeeds")) = some true
  e_InvalidLine_MeetcellsError : PySem.W.exmOne K (.ref (He.ga K "InvalidLine")) (.ref (He.ga K "MeetcellsError")) = some true
  e_InvalidLine_InvalidLine : PySem.W.exmOne K (.ref (He.ga K "InvalidLine")) (.ref (He.ga K "InvalidLine")) = some true
  e_InvalidMove_MeetcellsError : PySem.W.exmOne K (.ref (He.ga K "InvalidMove")) (.ref (He.ga K "MeetcellsError")) = some true
  e_InvalidMove_InvalidMove : PySem.W.exmOne K (.ref (He.ga K "InvalidMove")) (.ref (He.ga K "InvalidMove")) = some true
  e_InvalidMoves_MeetcellsError : PySem.W.exmOne K (.ref (He.ga K "InvalidMoves")) (.ref (He.ga K "MeetcellsError")) = some true
  e_InvalidMoves_InvalidMoves : PySem.W.exmOne K (.ref (He.ga K "InvalidMoves")) (.ref (He.ga K "InvalidMoves")) = some true
  e_BadText_MeetcellsError : PySem.W.exmOne K (.ref (He.ga K "BadText")) (.ref (He.ga K "MeetcellsError")) = some true
  e_BadText_BadText : PySem.W.exmOne K (.ref (He.ga K "BadText")) (.ref (He.ga K "BadText")) = some true
  e_TooLarge_MeetcellsError : PySem.W.exmOne K (.ref (He.ga K "TooLarge")) (.ref (He.ga K "MeetcellsError")) = some true
  e_TooLarge_TooLarge : PySem.W.exmOne K (.ref (He.ga K "TooLarge")) (.ref (He.ga K "TooLarge")) = some true
  e_NotReduced_MeetcellsError : PySem.W.exmOne K (.ref (He.ga K "NotReduced")) (.ref (He.ga K "MeetcellsError")) = some true
  e_NotReduced_NotReduced : PySem.W.exmOne K (.ref (He.ga K "NotReduced")) (.ref (He.ga K "NotReduced")) = some true
  e_HasRing_MeetcellsError : PySem.W.exmOne K (.ref (He.ga K "HasRing")) (.ref (He.ga K "MeetcellsError")) = some true
  e_HasRing_HasRing : PySem.W.exmOne K (.ref (He.ga K "HasRing")) (.ref (He.ga K "HasRing")) = some true
  e_UnlikeEnds_MeetcellsError : PySem.W.exmOne K (.ref (He.ga K "UnlikeEnds")) (.ref (He.ga K "MeetcellsError")) = some true
  e_UnlikeEnds_UnlikeEnds : PySem.W.exmOne K (.ref (He.ga K "UnlikeEnds")) (.ref (He.ga K "UnlikeEnds")) = some true
  e_NotCopyable_MeetcellsError : PySem.W.exmOne K (.ref (He.ga K "NotCopyable")) (.ref (He.ga K "MeetcellsError")) = some true
  e_NotCopyable_NotCopyable : PySem.W.exmOne K (.ref (He.ga K "NotCopyable")) (.ref (He.ga K "NotCopyable")) = some true
  e_NotEnded_MeetcellsError : PySem.W.exmOne K (.ref (He.ga K "NotEnded")) (.ref (He.ga K "MeetcellsError")) = some true
  e_NotEnded_NotEnded : PySem.W.exmOne K (.ref (He.ga K "NotEnded")) (.ref (He.ga K "NotEnded")) = some true
  e_UnknownName_MeetcellsError : PySem.W.exmOne K (.ref (He.ga K "UnknownName")) (.ref (He.ga K "MeetcellsError")) = some true
  e_UnknownName_UnknownName : PySem.W.exmOne K (.ref (He.ga K "UnknownName")) (.ref (He.ga K "UnknownName")) = some true
  e_NothingToUndo_MeetcellsError : PySem.W.exmOne K (.ref (He.ga K "NothingToUndo")) (.ref (He.ga K "MeetcellsError")) = some true
  e_NothingToUndo_NothingToUndo : PySem.W.exmOne K (.ref (He.ga K "NothingToUndo")) (.ref (He.ga K "NothingToUndo")) = some true
theorem txt_mk {P : Program} {w : World} {K : PySem.W.Frag} {h : Heap} {mg : Str → Option Value} (hP : P = PySem.Challenge.pw_meetcells_k02_exceptions_apart) (X : K.In h) (G : h.Ns mainGlobals mg) (c : Mc.SaysM fa fn tabs s_me ex w K) : Txt P w K mg := by
  subst hP
  have m_len : mg "len" = none := He.free_ok X G (c.t.d.fact 39 rfl)
  have m_range : mg "range" = none := He.free_ok X G (c.t.d.fact 40 rfl)
  have m_repr : mg "repr" = none := He.free_ok X G (c.t.d.fact 41 rfl)
  have m_isinstance : mg "isinstance" = none := He.free_ok X G (c.t.d.fact 42 rfl)
  have m_max : mg "max" = none := He.free_ok X G (c.t.d.fact 43 rfl)
  have m_min : mg "min" = none := He.free_ok X G (c.t.d.fact 44 rfl)
  have m_list : mg "list" = none := He.free_ok X G (c.t.d.fact 45 rfl)
  have m_super : mg "super" = none := He.free_ok X G (c.t.d.fact 46 rfl)
  have m_ValueError : mg "ValueError" = none := He.free_ok X G (c.t.d.fact 47 rfl)
  have g__law_cell : mg "_law_cell" = some (.ref (He.ga K "_law_cell")) := He.glo_ok X G (c.t.d.fact 0 rfl)
  have f__law_cell : ∃ fd, FunD K "_law_cell" "_law_cell" (defArgs s__law_cell) (defBody s__law_cell) (defScope s__law_cell) [] [] (He.ga K "_law_cell") fd := c.t.d.def_ 0 (d := d__law_cell) rfl
  have k__law_cell : PySem.W.keepIn K (.ref (He.ga K "_law_cell")) = true := f__law_cell.choose_spec.kp
  have g__law_box : mg "_law_box" = some (.ref (He.ga K "_law_box")) := He.glo_ok X G (c.t.d.fact 1 rfl)
  have f__law_box : ∃ fd, FunD K "_law_box" "_law_box" (defArgs s__law_box) (defBody s__law_box) (defScope s__law_box) [] [] (He.ga K "_law_box") fd := c.t.d.def_ 1 (d := d__law_box) rfl
  have k__law_box : PySem.W.keepIn K (.ref (He.ga K "_law_box")) = true := f__law_box.choose_spec.kp
  have g__law_take : mg "_law_take" = some (.ref (He.ga K "_law_take")) := He.glo_ok X G (c.t.d.fact 2 rfl)
  have f__law_take : ∃ fd, FunD K "_law_take" "_law_take" (defArgs s__law_take) (defBody s__law_take) (defScope s__law_take) [] [] (He.ga K "_law_take") fd := c.t.d.def_ 2 (d := d__law_take) rfl
  have k__law_take : PySem.W.keepIn K (.ref (He.ga K "_law_take")) = true := f__law_take.choose_spec.kp
  have g__law_made : mg "_law_made" = some (.ref (He.ga K "_law_made")) := He.glo_ok X G (c.t.d.fact 3 rfl)
  have f__law_made : ∃ fd, FunD K "_law_made" "_law_made" (defArgs s__law_made) (defBody s__law_made) (defScope s__law_made) [] [] (He.ga K "_law_made") fd := c.t.d.def_ 3 (d := d__law_made) rfl
  have k__law_made : PySem.W.keepIn K (.ref (He.ga K "_law_made")) = true := f__law_made.choose_spec.kp
  have g__law_first : mg "_law_first" = some (.ref (He.ga K "_law_first")) := He.glo_ok X G (c.t.d.fact 4 rfl)
  have f__law_first : ∃ fd, FunD K "_law_first" "_law_first" (defArgs s__law_first) (defBody s__law_first) (defScope s__law_first) [] [] (He.ga K "_law_first") fd := c.t.d.def_ 4 (d := d__law_first) rfl
  have k__law_first : PySem.W.keepIn K (.ref (He.ga K "_law_first")) = true := f__law_first.choose_spec.kp
  have g__law_second : mg "_law_second" = some (.ref (He.ga K "_law_second")) := He.glo_ok X G (c.t.d.fact 5 rfl)
  have f__law_second : ∃ fd, FunD K "_law_second" "_law_second" (defArgs s__law_second) (defBody s__law_second) (defScope s__law_second) [] [] (He.ga K "_law_second") fd := c.t.d.def_ 5 (d := d__law_second) rfl
  have k__law_second : PySem.W.keepIn K (.ref (He.ga K "_law_second")) = true := f__law_second.choose_spec.kp
  have g__law_third : mg "_law_third" = some (.ref (He.ga K "_law_third")) := He.glo_ok X G (c.t.d.fact 6 rfl)
  have f__law_third : ∃ fd, FunD K "_law_third" "_law_third" (defArgs s__law_third) (defBody s__law_third) (defScope s__law_third) [] [] (He.ga K "_law_third") fd := c.t.d.def_ 6 (d := d__law_third) rfl
  have k__law_third : PySem.W.keepIn K (.ref (He.ga K "_law_third")) = true := f__law_third.choose_spec.kp
  have g__law_is : mg "_law_is" = some (.ref (He.ga K "_law_is")) := He.glo_ok X G (c.t.d.fact 7 rfl)
  have f__law_is : ∃ fd, FunD K "_law_is" "_law_is" (defArgs s__law_is) (defBody s__law_is) (defScope s__law_is) [] [] (He.ga K "_law_is") fd := c.t.d.def_ 7 (d := d__law_is) rfl
  have k__law_is : PySem.W.keepIn K (.ref (He.ga K "_law_is")) = true := f__law_is.choose_spec.kp
  have g__law_values : mg "_law_values" = some (.ref (He.ga K "_law_values")) := He.glo_ok X G (c.t.d.fact 8 rfl)
  have f__law_values : ∃ fd, FunD K "_law_values" "_law_values" (defArgs s__law_values) (defBody s__law_values) (defScope s__law_values) [] [] (He.ga K "_law_values") fd := c.t.d.def_ 8 (d := d__law_values) rfl
  have k__law_values : PySem.W.keepIn K (.ref (He.ga K "_law_values")) = true := f__law_values.choose_spec.kp
  have g__law_raised : mg "_law_raised" = some (.ref (He.ga K "_law_raised")) := He.glo_ok X G (c.t.d.fact 9 rfl)
  have f__law_raised : ∃ fd, FunD K "_law_raised" "_law_raised" (defArgs s__law_raised) (defBody s__law_raised) (defScope s__law_raised) [] [] (He.ga K "_law_raised") fd := c.t.d.def_ 9 (d := d__law_raised) rfl
  have k__law_raised : PySem.W.keepIn K (.ref (He.ga K "_law_raised")) = true := f__law_raised.choose_spec.kp
  have g_law : mg "law" = some (.ref (He.ga K "law")) := He.glo_ok X G (c.t.d.fact 10 rfl)
  have f_law : ∃ fd, FunD K "law" "law" (defArgs s_law) (defBody s_law) (defScope s_law) [] [] (He.ga K "law") fd := c.t.d.def_ 10 (d := d_law) rfl
  have k_law : PySem.W.keepIn K (.ref (He.ga K "law")) = true := f_law.choose_spec.kp
  have g_MeetcellsError : mg "MeetcellsError" = some (.ref (He.ga K "MeetcellsError")) := He.glo_ok X G (c.t.d.fact 11 rfl)
  have g_InvalidNumber : mg "InvalidNumber" = some (.ref (He.ga K "InvalidNumber")) := He.glo_ok X G (c.t.d.fact 12 rfl)
  have g_InvalidKind : mg "InvalidKind" = some (.ref (He.ga K "InvalidKind")) := He.glo_ok X G (c.t.d.fact 13 rfl)
  have g_InvalidKinds : mg "InvalidKinds" = some (.ref (He.ga K "InvalidKinds")) := He.glo_ok X G (c.t.d.fact 14 rfl)
  have g_InvalidWires : mg "InvalidWires" = some (.ref (He.ga K "InvalidWires")) := He.glo_ok X G (c.t.d.fact 15 rfl)
  have g_InvalidWord : mg "InvalidWord" = some (.ref (He.ga K "InvalidWord")) := He.glo_ok X G (c.t.d.fact 16 rfl)
  have g_InvalidEnd : mg "InvalidEnd" = some (.ref (He.ga K "InvalidEnd")) := He.glo_ok X G (c.t.d.fact 17 rfl)
  have g_InvalidPort : mg "InvalidPort" = some (.ref (He.ga K "InvalidPort")) := He.glo_ok X G (c.t.d.fact 18 rfl)
  have g_InvalidPair : mg "InvalidPair" = some (.ref (He.ga K "InvalidPair")) := He.glo_ok X G (c.t.d.fact 19 rfl)
  have g_InvalidPairs : mg "InvalidPairs" = some (.ref (He.ga K "InvalidPairs")) := He.glo_ok X G (c.t.d.fact 20 rfl)
  have g_InvalidOrder : mg "InvalidOrder" = some (.ref (He.ga K "InvalidOrder")) := He.glo_ok X G (c.t.d.fact 21 rfl)
  have g_InvalidNet : mg "InvalidNet" = some (.ref (He.ga K "InvalidNet")) := He.glo_ok X G (c.t.d.fact 22 rfl)
  have g_InvalidRows : mg "InvalidRows" = some (.ref (He.ga K "InvalidRows")) := He.glo_ok X G (c.t.d.fact 23 rfl)
  have g_InvalidName : mg "InvalidName" = some (.ref (He.ga K "InvalidName")) := He.glo_ok X G (c.t.d.fact 24 rfl)
  have g_InvalidDeed : mg "InvalidDeed" = some (.ref (He.ga K "InvalidDeed")) := He.glo_ok X G (c.t.d.fact 25 rfl)
  have g_InvalidDeeds : mg "InvalidDeeds" = some (.ref (He.ga K "InvalidDeeds")) := He.glo_ok X G (c.t.d.fact 26 rfl)
  have g_InvalidLine : mg "InvalidLine" = some (.ref (He.ga K "InvalidLine")) := He.glo_ok X G (c.t.d.fact 27 rfl)
  have g_InvalidMove : mg "InvalidMove" = some (.ref (He.ga K "InvalidMove")) := He.glo_ok X G (c.t.d.fact 28 rfl)
  have g_InvalidMoves : mg "InvalidMoves" = some (.ref (He.ga K "InvalidMoves")) := He.glo_ok X G (c.t.d.fact 29 rfl)
  have g_BadText : mg "BadText" = some (.ref (He.ga K "BadText")) := He.glo_ok X G (c.t.d.fact 30 rfl)
  have g_TooLarge : mg "TooLarge" = some (.ref (He.ga K "TooLarge")) := He.glo_ok X G (c.t.d.fact 31 rfl)
  have g_NotReduced : mg "NotReduced" = some (.ref (He.ga K "NotReduced")) := He.glo_ok X G (c.t.d.fact 32 rfl)
  have g_HasRing : mg "HasRing" = some (.ref (He.ga K "HasRing")) := He.glo_ok X G (c.t.d.fact 33 rfl)
  have g_UnlikeEnds : mg "UnlikeEnds" = some (.ref (He.ga K "UnlikeEnds")) := He.glo_ok X G (c.t.d.fact 34 rfl)
  have g_NotCopyable : mg "NotCopyable" = some (.ref (He.ga K "NotCopyable")) := He.glo_ok X G (c.t.d.fact 35 rfl)
  have g_NotEnded : mg "NotEnded" = some (.ref (He.ga K "NotEnded")) := He.glo_ok X G (c.t.d.fact 36 rfl)
  have g_UnknownName : mg "UnknownName" = some (.ref (He.ga K "UnknownName")) := He.glo_ok X G (c.t.d.fact 37 rfl)
  have g_NothingToUndo : mg "NothingToUndo" = some (.ref (He.ga K "NothingToUndo")) := He.glo_ok X G (c.t.d.fact 38 rfl)
  have hx := c.x
  obtain ⟨b_in, hx⟩ := He.ba hx
  obtain ⟨b_MeetcellsError, hx⟩ := He.ba hx
  obtain ⟨b_InvalidNumber, hx⟩ := He.ba hx
  obtain ⟨b_InvalidKind, hx⟩ := He.ba hx
  obtain ⟨b_InvalidKinds, hx⟩ := He.ba hx
  obtain ⟨b_InvalidWires, hx⟩ := He.ba hx
  obtain ⟨b_InvalidWord, hx⟩ := He.ba hx
  obtain ⟨b_InvalidEnd, hx⟩ := He.ba hx
  obtain ⟨b_InvalidPort, hx⟩ := He.ba hx
  obtain ⟨b_InvalidPair, hx⟩ := He.ba hx
  obtain ⟨b_InvalidPairs, hx⟩ := He.ba hx
  obtain ⟨b_InvalidOrder, hx⟩ := He.ba hx
  obtain ⟨b_InvalidNet, hx⟩ := He.ba hx
  obtain ⟨b_InvalidRows, hx⟩ := He.ba hx
  obtain ⟨b_InvalidName, hx⟩ := He.ba hx
  obtain ⟨b_InvalidDeed, hx⟩ := He.ba hx
  obtain ⟨b_InvalidDeeds, hx⟩ := He.ba hx
  obtain ⟨b_InvalidLine, hx⟩ := He.ba hx
  obtain ⟨b_InvalidMove, hx⟩ := He.ba hx
  obtain ⟨b_InvalidMoves, hx⟩ := He.ba hx
  obtain ⟨b_BadText, hx⟩ := He.ba hx
  obtain ⟨b_TooLarge, hx⟩ := He.ba hx
  obtain ⟨b_NotReduced, hx⟩ := He.ba hx
  obtain ⟨b_HasRing, hx⟩ := He.ba hx
  obtain ⟨b_UnlikeEnds, hx⟩ := He.ba hx
  obtain ⟨b_NotCopyable, hx⟩ := He.ba hx
  obtain ⟨b_NotEnded, hx⟩ := He.ba hx
  obtain ⟨b_UnknownName, hx⟩ := He.ba hx
  obtain ⟨b_NothingToUndo, hx⟩ := He.ba hx
  obtain ⟨b_xt, hx⟩ := He.ba hx
  have b_xi := hx
  have me : Mc.MeInit PySem.Challenge.pw_meetcells_k02_exceptions_apart K (Mc.meD K) (Mc.meI K) := Mc.meInit_ok (P := PySem.Challenge.pw_meetcells_k02_exceptions_apart) (st := s_me) c.i b_in rfl rfl rfl (fun env => ⟨_, rfl⟩) rfl
  have x_MeetcellsError : Mc.MeCls K (Mc.meD K) (Mc.meI K) (He.ga K "MeetcellsError") := Mc.meCls_ok b_MeetcellsError
  have x_InvalidNumber : Mc.MeCls K (Mc.meD K) (Mc.meI K) (He.ga K "InvalidNumber") := Mc.meCls_ok b_InvalidNumber
  have x_InvalidKind : Mc.MeCls K (Mc.meD K) (Mc.meI K) (He.ga K "InvalidKind") := Mc.meCls_ok b_InvalidKind
  have x_InvalidKinds : Mc.MeCls K (Mc.meD K) (Mc.meI K) (He.ga K "InvalidKinds") := Mc.meCls_ok b_InvalidKinds
  have x_InvalidWires : Mc.MeCls K (Mc.meD K) (Mc.meI K) (He.ga K "InvalidWires") := Mc.meCls_ok b_InvalidWires
  have x_InvalidWord : Mc.MeCls K (Mc.meD K) (Mc.meI K) (He.ga K "InvalidWord") := Mc.meCls_ok b_InvalidWord
  have x_InvalidEnd : Mc.MeCls K (Mc.meD K) (Mc.meI K) (He.ga K "InvalidEnd") := Mc.meCls_ok b_InvalidEnd
  have x_InvalidPort : Mc.MeCls K (Mc.meD K) (Mc.meI K) (He.ga K "InvalidPort") := Mc.meCls_ok b_InvalidPort
  have x_InvalidPair : Mc.MeCls K (Mc.meD K) (Mc.meI K) (He.ga K "InvalidPair") := Mc.meCls_ok b_InvalidPair
  have x_InvalidPairs : Mc.MeCls K (Mc.meD K) (Mc.meI K) (He.ga K "InvalidPairs") := Mc.meCls_ok b_InvalidPairs
  have x_InvalidOrder : Mc.MeCls K (Mc.meD K) (Mc.meI K) (He.ga K "InvalidOrder") := Mc.meCls_ok b_InvalidOrder
  have x_InvalidNet : Mc.MeCls K (Mc.meD K) (Mc.meI K) (He.ga K "InvalidNet") := Mc.meCls_ok b_InvalidNet
  have x_InvalidRows : Mc.MeCls K (Mc.meD K) (Mc.meI K) (He.ga K "InvalidRows") := Mc.meCls_ok b_InvalidRows
  have x_InvalidName : Mc.MeCls K (Mc.meD K) (Mc.meI K) (He.ga K "InvalidName") := Mc.meCls_ok b_InvalidName
  have x_InvalidDeed : Mc.MeCls K (Mc.meD K) (Mc.meI K) (He.ga K "InvalidDeed") := Mc.meCls_ok b_InvalidDeed
  have x_InvalidDeeds : Mc.MeCls K (Mc.meD K) (Mc.meI K) (He.ga K "InvalidDeeds") := Mc.meCls_ok b_InvalidDeeds
  have x_InvalidLine : Mc.MeCls K (Mc.meD K) (Mc.meI K) (He.ga K "InvalidLine") := Mc.meCls_ok b_InvalidLine
  have x_InvalidMove : Mc.MeCls K (Mc.meD K) (Mc.meI K) (He.ga K "InvalidMove") := Mc.meCls_ok b_InvalidMove
  have x_InvalidMoves : Mc.MeCls K (Mc.meD K) (Mc.meI K) (He.ga K "InvalidMoves") := Mc.meCls_ok b_InvalidMoves
  have x_BadText : Mc.MeCls K (Mc.meD K) (Mc.meI K) (He.ga K "BadText") := Mc.meCls_ok b_BadText
  have x_TooLarge : Mc.MeCls K (Mc.meD K) (Mc.meI K) (He.ga K "TooLarge") := Mc.meCls_ok b_TooLarge
  have x_NotReduced : Mc.MeCls K (Mc.meD K) (Mc.meI K) (He.ga K "NotReduced") := Mc.meCls_ok b_NotReduced
  have x_HasRing : Mc.MeCls K (Mc.meD K) (Mc.meI K) (He.ga K "HasRing") := Mc.meCls_ok b_HasRing
  have x_UnlikeEnds : Mc.MeCls K (Mc.meD K) (Mc.meI K) (He.ga K "UnlikeEnds") := Mc.meCls_ok b_UnlikeEnds
  have x_NotCopyable : Mc.MeCls K (Mc.meD K) (Mc.meI K) (He.ga K "NotCopyable") := Mc.meCls_ok b_NotCopyable
  have x_NotEnded : Mc.MeCls K (Mc.meD K) (Mc.meI K) (He.ga K "NotEnded") := Mc.meCls_ok b_NotEnded
  have x_UnknownName : Mc.MeCls K (Mc.meD K) (Mc.meI K) (He.ga K "UnknownName") := Mc.meCls_ok b_UnknownName
  have x_NothingToUndo : Mc.MeCls K (Mc.meD K) (Mc.meI K) (He.ga K "NothingToUndo") := Mc.meCls_ok b_NothingToUndo
  have xt : ∀ x ∈ (["MeetcellsError", "InvalidNumber", "InvalidKind", "InvalidKinds", "InvalidWires", "InvalidWord", "InvalidEnd", "InvalidPort", "InvalidPair", "InvalidPairs", "InvalidOrder", "InvalidNet", "InvalidRows", "InvalidName", "InvalidDeed", "InvalidDeeds", "InvalidLine", "InvalidMove", "InvalidMoves", "BadText", "TooLarge", "NotReduced", "HasRing", "UnlikeEnds", "NotCopyable", "NotEnded", "UnknownName", "NothingToUndo"] : List Str), (∀ y ∈ (["InvalidNumber", "InvalidKind", "InvalidKinds", "InvalidWires", "InvalidWord", "InvalidEnd", "InvalidPort", "InvalidPair", "InvalidPairs", "InvalidOrder", "InvalidNet", "InvalidRows", "InvalidName", "InvalidDeed", "InvalidDeeds", "InvalidLine", "InvalidMove", "InvalidMoves", "BadText", "TooLarge", "NotReduced", "HasRing", "UnlikeEnds", "NotCopyable", "NotEnded", "UnknownName", "NothingToUndo"] : List Str), PySem.W.kitOne K (.ref (He.ga K x)) (.ref (He.ga K y)) = some (decide (x = y))) ∧ ∀ z ∈ ([.ref (He.ga K "MeetcellsError"), .type "ValueError"] : List Value), PySem.W.kitOne K (.ref (He.ga K x)) z = some true := fun x hx => Mc.excTab_ok b_xt hx
  have xi : ∀ x ∈ (["MeetcellsError", "InvalidNumber", "InvalidKind", "InvalidKinds", "InvalidWires", "InvalidWord", "InvalidEnd", "InvalidPort", "InvalidPair", "InvalidPairs", "InvalidOrder", "InvalidNet", "InvalidRows", "InvalidName", "InvalidDeed", "InvalidDeeds", "InvalidLine", "InvalidMove", "InvalidMoves", "BadText", "TooLarge", "NotReduced", "HasRing", "UnlikeEnds", "NotCopyable", "NotEnded", "UnknownName", "NothingToUndo"] : List Str), Mc.ExcIs K (He.ga K x) := fun x hx => Mc.excIs_ok (List.all_eq_true.mp b_xi x hx)
  have e_MeetcellsError_MeetcellsError : PySem.W.exmOne K (.ref (He.ga K "MeetcellsError")) (.ref (He.ga K "MeetcellsError")) = some true := He.exm_ok (c.t.d.fact 48 rfl)
  have e_InvalidNumber_MeetcellsError : PySem.W.exmOne K (.ref (He.ga K "InvalidNumber")) (.ref (He.ga K "MeetcellsError")) = some true := He.exm_ok (c.t.d.fact 49 rfl)
  have e_InvalidNumber_InvalidNumber : PySem.W.exmOne K (.ref (He.ga K "InvalidNumber")) (.ref (He.ga K "InvalidNumber")) = some true := He.exm_ok (c.t.d.fact 50 rfl)
  have e_InvalidNumber_InvalidPairs : PySem.W.exmOne K (.ref (He.ga K "InvalidNumber")) (.ref (He.ga K "InvalidPairs")) = some false := He.exm_ok (c.t.d.fact 51 rfl)
  have e_InvalidKind_MeetcellsError : PySem.W.exmOne K (.ref (He.ga K "InvalidKind")) (.ref (He.ga K "MeetcellsError")) = some true := He.exm_ok (c.t.d.fact 52 rfl)
  have e_InvalidKind_InvalidKind : PySem.W.exmOne K (.ref (He.ga K "InvalidKind")) (.ref (He.ga K "InvalidKind")) = some true := He.exm_ok (c.t.d.fact 53 rfl)
  have e_InvalidKinds_MeetcellsError : PySem.W.exmOne K (.ref (He.ga K "InvalidKinds")) (.ref (He.ga K "MeetcellsError")) = some true := He.exm_ok (c.t.d.fact 54 rfl)
  have e_InvalidKinds_InvalidKinds : PySem.W.exmOne K (.ref (He.ga K "InvalidKinds")) (.ref (He.ga K "InvalidKinds")) = some true := He.exm_ok (c.t.d.fact 55 rfl)
  have e_InvalidWires_MeetcellsError : PySem.W.exmOne K (.ref (He.ga K "InvalidWires")) (.ref (He.ga K "MeetcellsError")) = some true := He.exm_ok (c.t.d.fact 56 rfl)
  have e_InvalidWires_InvalidWires : PySem.W.exmOne K (.ref (He.ga K "InvalidWires")) (.ref (He.ga K "InvalidWires")) = some true := He.exm_ok (c.t.d.fact 57 rfl)
  have e_InvalidWord_MeetcellsError : PySem.W.exmOne K (.ref (He.ga K "InvalidWord")) (.ref (He.ga K "MeetcellsError")) = some true := He.exm_ok (c.t.d.fact 58 rfl)
  have e_InvalidWord_InvalidWord : PySem.W.exmOne K (.ref (He.ga K "InvalidWord")) (.ref (He.ga K "InvalidWord")) = some true := He.exm_ok (c.t.d.fact 59 rfl)
  have e_InvalidEnd_MeetcellsError : PySem.W.exmOne K (.ref (He.ga K "InvalidEnd")) (.ref (He.ga K "MeetcellsError")) = some true := He.exm_ok (c.t.d.fact 60 rfl)
  have e_InvalidEnd_InvalidEnd : PySem.W.exmOne K (.ref (He.ga K "InvalidEnd")) (.ref (He.ga K "InvalidEnd")) = some true := He.exm_ok (c.t.d.fact 61 rfl)
  have e_InvalidPort_MeetcellsError : PySem.W.exmOne K (.ref (He.ga K "InvalidPort")) (.ref (He.ga K "MeetcellsError")) = some true := He.exm_ok (c.t.d.fact 62 rfl)
  have e_InvalidPort_InvalidPort : PySem.W.exmOne K (.ref (He.ga K "InvalidPort")) (.ref (He.ga K "InvalidPort")) = some true := He.exm_ok (c.t.d.fact 63 rfl)
  have e_InvalidPair_MeetcellsError : PySem.W.exmOne K (.ref (He.ga K "InvalidPair")) (.ref (He.ga K "MeetcellsError")) = some true := He.exm_ok (c.t.d.fact 64 rfl)
  have e_InvalidPair_InvalidPair : PySem.W.exmOne K (.ref (He.ga K "InvalidPair")) (.ref (He.ga K "InvalidPair")) = some true := He.exm_ok (c.t.d.fact 65 rfl)
  have e_InvalidPairs_MeetcellsError : PySem.W.exmOne K (.ref (He.ga K "InvalidPairs")) (.ref (He.ga K "MeetcellsError")) = some true := He.exm_ok (c.t.d.fact 66 rfl)
  have e_InvalidPairs_InvalidPairs : PySem.W.exmOne K (.ref (He.ga K "InvalidPairs")) (.ref (He.ga K "InvalidPairs")) = some true := He.exm_ok (c.t.d.fact 67 rfl)
  have e_InvalidOrder_MeetcellsError : PySem.W.exmOne K (.ref (He.ga K "InvalidOrder")) (.ref (He.ga K "MeetcellsError")) = some true := He.exm_ok (c.t.d.fact 68 rfl)
  have e_InvalidOrder_InvalidOrder : PySem.W.exmOne K (.ref (He.ga K "InvalidOrder")) (.ref (He.ga K "InvalidOrder")) = some true := He.exm_ok (c.t.d.fact 69 rfl)
  have e_InvalidNet_MeetcellsError : PySem.W.exmOne K (.ref (He.ga K "InvalidNet")) (.ref (He.ga K "MeetcellsError")) = some true := He.exm_ok (c.t.d.fact 70 rfl)
  have e_InvalidNet_InvalidNet : PySem.W.exmOne K (.ref (He.ga K "InvalidNet")) (.ref (He.ga K "InvalidNet")) = some true := He.exm_ok (c.t.d.fact 71 rfl)
  have e_InvalidRows_MeetcellsError : PySem.W.exmOne K (.ref (He.ga K "InvalidRows")) (.ref (He.ga K "MeetcellsError")) = some true := He.exm_ok (c.t.d.fact 72 rfl)
  have e_InvalidRows_InvalidRows : PySem.W.exmOne K (.ref (He.ga K "InvalidRows")) (.ref (He.ga K "InvalidRows")) = some true := He.exm_ok (c.t.d.fact 73 rfl)
  have e_InvalidName_MeetcellsError : PySem.W.exmOne K (.ref (He.ga K "InvalidName")) (.ref (He.ga K "MeetcellsError")) = some true := He.exm_ok (c.t.d.fact 74 rfl)
  have e_InvalidName_InvalidName : PySem.W.exmOne K (.ref (He.ga K "InvalidName")) (.ref (He.ga K "InvalidName")) = some true := He.exm_ok (c.t.d.fact 75 rfl)
  have e_InvalidDeed_MeetcellsError : PySem.W.exmOne K (.ref (He.ga K "InvalidDeed")) (.ref (He.ga K "MeetcellsError")) = some true := He.exm_ok (c.t.d.fact 76 rfl)
  have e_InvalidDeed_InvalidDeed : PySem.W.exmOne K (.ref (He.ga K "InvalidDeed")) (.ref (He.ga K "InvalidDeed")) = some true := He.exm_ok (c.t.d.fact 77 rfl)
  have e_InvalidDeeds_MeetcellsError : PySem.W.exmOne K (.ref (He.ga K "InvalidDeeds")) (.ref (He.ga K "MeetcellsError")) = some true := He.exm_ok (c.t.d.fact 78 rfl)
  have e_InvalidDeeds_InvalidDeeds : PySem.W.exmOne K (.ref (He.ga K "InvalidDeeds")) (.ref (He.ga K "InvalidDeeds")) = some true := He.exm_ok (c.t.d.fact 79 rfl)
  have e_InvalidLine_MeetcellsError : PySem.W.exmOne K (.ref (He.ga K "InvalidLine")) (.ref (He.ga K "MeetcellsError")) = some true := He.exm_ok (c.t.d.fact 80 rfl)
  have e_InvalidLine_InvalidLine : PySem.W.exmOne K (.ref (He.ga K "InvalidLine")) (.ref (He.ga K "InvalidLine")) = some true := He.exm_ok (c.t.d.fact 81 rfl)
  have e_InvalidMove_MeetcellsError : PySem.W.exmOne K (.ref (He.ga K "InvalidMove")) (.ref (He.ga K "MeetcellsError")) = some true := He.exm_ok (c.t.d.fact 82 rfl)
  have e_InvalidMove_InvalidMove : PySem.W.exmOne K (.ref (He.ga K "InvalidMove")) (.ref (He.ga K "InvalidMove")) = some true := He.exm_ok (c.t.d.fact 83 rfl)
  have e_InvalidMoves_MeetcellsError : PySem.W.exmOne K (.ref (He.ga K "InvalidMoves")) (.ref (He.ga K "MeetcellsError")) = some true := He.exm_ok (c.t.d.fact 84 rfl)
  have e_InvalidMoves_InvalidMoves : PySem.W.exmOne K (.ref (He.ga K "InvalidMoves")) (.ref (He.ga K "InvalidMoves")) = some true := He.exm_ok (c.t.d.fact 85 rfl)
  have e_BadText_MeetcellsError : PySem.W.exmOne K (.ref (He.ga K "BadText")) (.ref (He.ga K "MeetcellsError")) = some true := He.exm_ok (c.t.d.fact 86 rfl)
  have e_BadText_BadText : PySem.W.exmOne K (.ref (He.ga K "BadText")) (.ref (He.ga K "BadText")) = some true := He.exm_ok (c.t.d.fact 87 rfl)
  have e_TooLarge_MeetcellsError : PySem.W.exmOne K (.ref (He.ga K "TooLarge")) (.ref (He.ga K "MeetcellsError")) = some true := He.exm_ok (c.t.d.fact 88 rfl)
  have e_TooLarge_TooLarge : PySem.W.exmOne K (.ref (He.ga K "TooLarge")) (.ref (He.ga K "TooLarge")) = some true := He.exm_ok (c.t.d.fact 89 rfl)
  have e_NotReduced_MeetcellsError : PySem.W.exmOne K (.ref (He.ga K "NotReduced")) (.ref (He.ga K "MeetcellsError")) = some true := He.exm_ok (c.t.d.fact 90 rfl)
  have e_NotReduced_NotReduced : PySem.W.exmOne K (.ref (He.ga K "NotReduced")) (.ref (He.ga K "NotReduced")) = some true := He.exm_ok (c.t.d.fact 91 rfl)
  have e_HasRing_MeetcellsError : PySem.W.exmOne K (.ref (He.ga K "HasRing")) (.ref (He.ga K "MeetcellsError")) = some true := He.exm_ok (c.t.d.fact 92 rfl)
  have e_HasRing_HasRing : PySem.W.exmOne K (.ref (He.ga K "HasRing")) (.ref (He.ga K "HasRing")) = some true := He.exm_ok (c.t.d.fact 93 rfl)
  have e_UnlikeEnds_MeetcellsError : PySem.W.exmOne K (.ref (He.ga K "UnlikeEnds")) (.ref (He.ga K "MeetcellsError")) = some true := He.exm_ok (c.t.d.fact 94 rfl)
  have e_UnlikeEnds_UnlikeEnds : PySem.W.exmOne K (.ref (He.ga K "UnlikeEnds")) (.ref (He.ga K "UnlikeEnds")) = some true := He.exm_ok (c.t.d.fact 95 rfl)
  have e_NotCopyable_MeetcellsError : PySem.W.exmOne K (.ref (He.ga K "NotCopyable")) (.ref (He.ga K "MeetcellsError")) = some true := He.exm_ok (c.t.d.fact 96 rfl)
  have e_NotCopyable_NotCopyable : PySem.W.exmOne K (.ref (He.ga K "NotCopyable")) (.ref (He.ga K "NotCopyable")) = some true := He.exm_ok (c.t.d.fact 97 rfl)
  have e_NotEnded_MeetcellsError : PySem.W.exmOne K (.ref (He.ga K "NotEnded")) (.ref (He.ga K "MeetcellsError")) = some true := He.exm_ok (c.t.d.fact 98 rfl)
  have e_NotEnded_NotEnded : PySem.W.exmOne K (.ref (He.ga K "NotEnded")) (.ref (He.ga K "NotEnded")) = some true := He.exm_ok (c.t.d.fact 99 rfl)
  have e_UnknownName_MeetcellsError : PySem.W.exmOne K (.ref (He.ga K "UnknownName")) (.ref (He.ga K "MeetcellsError")) = some true := He.exm_ok (c.t.d.fact 100 rfl)
  have e_UnknownName_UnknownName : PySem.W.exmOne K (.ref (He.ga K "UnknownName")) (.ref (He.ga K "UnknownName")) = some true := He.exm_ok (c.t.d.fact 101 rfl)
  have e_NothingToUndo_MeetcellsError : PySem.W.exmOne K (.ref (He.ga K "NothingToUndo")) (.ref (He.ga K "MeetcellsError")) = some true := He.exm_ok (c.t.d.fact 102 rfl)
  have e_NothingToUndo_NothingToUndo : PySem.W.exmOne K (.ref (He.ga K "NothingToUndo")) (.ref (He.ga K "NothingToUndo")) = some true := He.exm_ok (c.t.d.fact 103 rfl)
  exact ⟨m_len, m_range, m_repr, m_isinstance, m_max, m_min, m_list, m_super, m_ValueError, g__law_cell, f__law_cell, k__law_cell, g__law_box, f__law_box, k__law_box, g__law_take, f__law_take, k__law_take, g__law_made, f__law_made, k__law_made, g__law_first, f__law_first, k__law_first, g__law_second, f__law_second, k__law_second, g__law_third, f__law_third, k__law_third, g__law_is, f__law_is, k__law_is, g__law_values, f__law_values, k__law_values, g__law_raised, f__law_raised, k__law_raised, g_law, f_law, k_law, g_MeetcellsError, g_InvalidNumber, g_InvalidKind, g_InvalidKinds, g_InvalidWires, g_InvalidWord, g_InvalidEnd, g_InvalidPort, g_InvalidPair, g_InvalidPairs, g_InvalidOrder, g_InvalidNet, g_InvalidRows, g_InvalidName, g_InvalidDeed, g_InvalidDeeds, g_InvalidLine, g_InvalidMove, g_InvalidMoves, g_BadText, g_TooLarge, g_NotReduced, g_HasRing, g_UnlikeEnds, g_NotCopyable, g_NotEnded, g_UnknownName, g_NothingToUndo, me, x_MeetcellsError, x_InvalidNumber, x_InvalidKind, x_InvalidKinds, x_InvalidWires, x_InvalidWord, x_InvalidEnd, x_InvalidPort, x_InvalidPair, x_InvalidPairs, x_InvalidOrder, x_InvalidNet, x_InvalidRows, x_InvalidName, x_InvalidDeed, x_InvalidDeeds, x_InvalidLine, x_InvalidMove, x_InvalidMoves, x_BadText, x_TooLarge, x_NotReduced, x_HasRing, x_UnlikeEnds, x_NotCopyable, x_NotEnded, x_UnknownName, x_NothingToUndo, xt, xi, e_MeetcellsError_MeetcellsError, e_InvalidNumber_MeetcellsError, e_InvalidNumber_InvalidNumber, e_InvalidNumber_InvalidPairs, e_InvalidKind_MeetcellsError, e_InvalidKind_InvalidKind, e_InvalidKinds_MeetcellsError, e_InvalidKinds_InvalidKinds, e_InvalidWires_MeetcellsError, e_InvalidWires_InvalidWires, e_InvalidWord_MeetcellsError, e_InvalidWord_InvalidWord, e_InvalidEnd_MeetcellsError, e_InvalidEnd_InvalidEnd, e_InvalidPort_MeetcellsError, e_InvalidPort_InvalidPort, e_InvalidPair_MeetcellsError, e_InvalidPair_InvalidPair, e_InvalidPairs_MeetcellsError, e_InvalidPairs_InvalidPairs, e_InvalidOrder_MeetcellsError, e_InvalidOrder_InvalidOrder, e_InvalidNet_MeetcellsError, e_InvalidNet_InvalidNet, e_InvalidRows_MeetcellsError, e_InvalidRows_InvalidRows, e_InvalidName_MeetcellsError, e_InvalidName_InvalidName, e_InvalidDeed_MeetcellsError, e_InvalidDeed_InvalidDeed, e_InvalidDeeds_MeetcellsError, e_InvalidDeeds_InvalidDeeds, e_InvalidLine_MeetcellsError, e_InvalidLine_InvalidLine, e_InvalidMove_MeetcellsError, e_InvalidMove_InvalidMove, e_InvalidMoves_MeetcellsError, e_InvalidMoves_InvalidMoves, e_BadText_MeetcellsError, e_BadText_BadText, e_TooLarge_MeetcellsError, e_TooLarge_TooLarge, e_NotReduced_MeetcellsError, e_NotReduced_NotReduced, e_HasRing_MeetcellsError, e_HasRing_HasRing, e_UnlikeEnds_MeetcellsError, e_UnlikeEnds_UnlikeEnds, e_NotCopyable_MeetcellsError, e_NotCopyable_NotCopyable, e_NotEnded_MeetcellsError, e_NotEnded_NotEnded, e_UnknownName_MeetcellsError, e_UnknownName_UnknownName, e_NothingToUndo_MeetcellsError, e_NothingToUndo_NothingToUndo⟩
end Me
/-! McEnd: a law's end, its def promised by FnG. -/
namespace Mc
open PySem PySem.Spec PyProof.Rows L2

/-- the script is tracked, locked, unless it is an object of the written part -/
theorem script_heap {P : Program} {w : World} {K : PySem.W.Frag} {h : Heap} {a : Addr} {vs : List Value} {ns : List Int} (KX : K.In h)
    (ha : h.get? a = some { cls := .type "list", data := .seq vs.toArray }) (hi : IntsAre vs ns) (hl : ns.length ≤ sizeLine) :
    ∃ H : Hp, Only H ∧ SqL K H a (ns.map V.int) ∧ HOk P w H h ∧ ∀ b u, H b = some u → b = a ∧ K.lookup a = none := by
  have rv := vals_ints hi
  have lv := hi.length
  cases hk : K.lookup a with
  | some o =>
    have e := KX a o hk
    rw [ha] at e
    cases e
    refine ⟨fun _ => none, fun _ => Or.inl rfl, Or.inr ⟨_, vs.toArray, _, hk, rfl, rfl, rfl, ?_, ?_⟩, (fun b u z => nomatch (show (none : Option HO) = some u from z)), (fun b u z => nomatch (show (none : Option HO) = some u from z))⟩
    · rw [List.size_toArray, lv]
      exact hl
    · simpa using rv
  | none =>
    have at_a : ∀ o : HO, upd (fun _ => none) a o a = some o := fun o => upd_same
    refine ⟨upd (fun _ => none) a (.frz { cls := .type "list", data := .seq vs.toArray } (.lst (ns.map V.int))), fun b => ?_, Or.inl (Or.inr ⟨_, upd_same⟩), fun b u z => ?_, fun b u z => ?_⟩
    · by_cases hb : b = a
      · subst hb
        exact Or.inr ⟨_, _, upd_same⟩
      · exact Or.inl (upd_ne hb)
    · by_cases hb : b = a
      · subst hb
        rw [upd_same] at z
        cases z
        exact ⟨ha, by rw [List.length_map]; exact hl, vs, _, rv, ha⟩
      · rw [upd_ne hb] at z
        cases z
    · by_cases hb : b = a
      · exact ⟨hb, rfl⟩
      · rw [upd_ne hb] at z
        cases z

theorem law_callG {P : Program} {w : World} {K : PySem.W.Frag} {mg mb : Str → Option Value} {C : CXT} {k : Nat} {fa a : Addr} {sp : Sp} {s : Shared} {vs : List Value} {ns : List Int}
    (KX : K.In s.heap) (hns : s.heap.Ns mainGlobals mg) (hb : s.heap.Ns builtinsNs mb) (hbb : ∀ x : Str, x ≠ "__name__" → mb x = bootBuiltins x) (hlim : s.heap.NoLimit)
    (hg : s.gens = #[]) (ha : s.heap.get? a = some { cls := .type "list", data := .seq vs.toArray }) (hi : IntsAre vs ns) (hl : ns.length ≤ sizeLine) (hr : Room k callerA)
    (F : ∀ base : Heap, K.In base → base.Ns mainGlobals mg → FnG P w K mg base C k fa sp)
    (hsp : ∀ H : Hp, Only H → SqL K H a (ns.map V.int) → sp [.ref a] H (fun v _ => v = .bl true) fun _ _ _ => False)
    (hC : ∀ H e s', C [] H s (fun _ _ _ => False) e s' → False) :
    codeAny (model P w) callerA (.call (.ref fa) ⟨[.ref a], []⟩) (fun r s' => r = .ok (.ret (.bool true)) ∧ OldK s.heap s'.heap ∧ s'.os = s.os ∧ AllBare s'.gens) s := by
  obtain ⟨H, hO, hS, hok, hA⟩ := script_heap (P := P) (w := w) KX ha hi hl
  have dictFree : ∀ {b : Addr} {o : Obj} {es : Array DictEntry} {ep : Nat}, s.heap.get? b = some o → o.data = .dict es ep → H b = none := by
    intro b o es ep e dd
    cases q : H b with
    | none => rfl
    | some u =>
      obtain ⟨rfl, _⟩ := hA b u q
      rw [ha] at e
      cases e
      cases dd
  have ns1 : ∀ {b : Addr} {m : Str → Option Value}, s.heap.Ns b m → (hidT s.heap H).Ns b m := by
    rintro b m ⟨o, es, ep, e, dd, r⟩
    exact ⟨o, es, ep, hidT_get e (dictFree e dd), dd, r⟩
  have kin : K.In (hidT s.heap H) := by
    intro b o e
    refine hidT_get (KX b o e) ?_
    cases q : H b with
    | none => rfl
    | some u =>
      obtain ⟨rfl, z⟩ := hA b u q
      rw [z] at e
      cases e
  obtain ⟨mc, l1, l2⟩ := hlim
  have md : L2.Mod K mg (hidT s.heap H) := ⟨kin, ns1 hns, ⟨mb, ns1 hb, hbb⟩, ⟨mc, ns1 l1, l2⟩⟩
  have e0 : Env0 P w K mg (hidT s.heap H) callerA [] s H :=
    ⟨rfl, md, fun b o e => of_hidT e, Nat.le_of_eq (hidT_size _ _), trivial, (fun b z => nomatch (show b ∈ ([] : List Addr) from z)), hok, AllBare.of_eq hg⟩
  refine codeAny_mono (F _ kin (ns1 hns) callerA [] s H [.ref a] [.ref a] _ _ hr rfl e0 (.cons rfl .nil) (hsp H hO hS)) ?_
  intro r s' h
  cases r with
  | error e => exact (hC H e s' h).elim
  | ok fl =>
    cases fl with
    | next => exact h.elim
    | brk => exact h.elim
    | cont => exact h.elim
    | ret u =>
      obtain ⟨v, H', os, bare, un, hok', rv, q⟩ := h
      have q' : v = .bl true := q
      subst q'
      have eu : u = Value.bool true := rv
      subst eu
      refine ⟨rfl, OldK.of_keep fun b o e => ?_, os, bare⟩
      cases q : H b with
      | none => exact un.keep b o e q (fun z => nomatch (show b ∈ ([] : List Addr) from z)) (fun z => nomatch (show b ∈ ([] : List Addr) from z))
      | some u =>
        rcases hO b with z | ⟨ob, xs, z⟩
        · rw [q] at z
          cases z
        · obtain ⟨e1, _⟩ := hok b _ z
          obtain ⟨e2, _⟩ := hok' b _ (un.frzs b ob _ z)
          rw [e] at e1
          cases e1
          exact e2

/-- a law's end over a head by facts -/
theorem walk_ofG {l : PySem.W.OpenLaw} {n k : Nat} {q : Program} {loose : List Str} {XP : (Str → Option Value) → Heap → Prop} {YP : World → Heap → Prop} {d : DefRec} {C : World → CXT}
    (hn : l.most = some n) (hn2 : n ≤ sizeLine) (hdf : d.params.defaults = []) (hr : Room k callerA)
    (F : ∀ (w : World) (mg : Str → Option Value) (fa : Addr) (h : Heap), YP w h → h.Ns mainGlobals mg → mg d.name = some (.ref fa) →
      ∃ (K : PySem.W.Frag) (sp : Sp), K.In h ∧
        (∀ (H : Hp) (a : Addr) (ns : List Int), ns.length ≤ n → Only H → SqL K H a (ns.map V.int) → sp [.ref a] H (fun v _ => v = .bl true) fun _ _ _ => False) ∧
        ∀ base : Heap, K.In base → base.Ns mainGlobals mg → FnG l.prog w K mg base (C w) k fa sp)
    (hC : ∀ (w : World) (H : Hp) (s : Shared) (e : Value) (s' : Shared), C w [] H s (fun _ _ _ => False) e s' → False) :
    PySem.W.WalkO q loose XP YP l.row.toRowW d [] (fun f vs => PySem.call f vs) := by
  refine Att.attach_call hn hdf ?_
  intro w s₀ s₁ mg mb fa o pm cd doc a vs ns G Y ho hd hcd hmg hobj hints hlen hg
  obtain ⟨K, sp, KX, hsp, hF⟩ := F w mg fa _ Y G.T.g hmg
  exact law_callG KX G.T.g G.T.b G.T.builtins G.T.nolimit hg hobj hints (Nat.le_trans hlen hn2) hr hF (fun H hO hS => hsp H a ns hlen hO hS) fun H e s' => hC w H s₁ e s'
end Mc
/-! McText: plain facts of texts. -/
namespace Mc
open PySem PySem.Spec PyProof.Rows L2

theorem takeWhile_all {α : Type} (g : α → Bool) : ∀ l : List α, l.all g = true → l.takeWhile g = l
  | [], _ => rfl
  | a :: l, h => by
    have h' : g a = true ∧ l.all g = true := by simpa using h
    rw [List.takeWhile_cons, h'.1]
    simp only [if_true]
    rw [takeWhile_all g l h'.2]
theorem takeWhile_lt {α : Type} (g : α → Bool) : ∀ l : List α, l.all g = false → (l.takeWhile g).length < l.length
  | [], h => by cases h
  | a :: l, h => by
    rw [List.takeWhile_cons]
    cases ha : g a with
    | false => simp
    | true =>
      have h' : l.all g = false := by simpa [ha] using h
      have := takeWhile_lt g l h'
      simp only [if_true, List.length_cons]
      omega
theorem drop_takeWhile {α : Type} (g : α → Bool) : ∀ l : List α, l.all g = false → (l.drop (l.takeWhile g).length).all g = false
  | [], h => by cases h
  | a :: l, h => by
    rw [List.takeWhile_cons]
    cases ha : g a with
    | false => simpa using h
    | true =>
      have h' : l.all g = false := by simpa [ha] using h
      have := drop_takeWhile g l h'
      simpa using this
theorem str_len (x : Str) : x.length = x.cps.toList.length := by
  show x.cps.size = _
  simp
theorem strSub_len (x : Str) (lo hi : Nat) (h : hi ≤ x.length) : (Builtin.Str.strSub x lo hi).length = hi - lo := by
  unfold Builtin.Str.strSub
  show (x.cps.extract lo hi).size = hi - lo
  rw [Array.size_extract]
  have : x.cps.size = x.length := rfl
  omega
/-- x.strip(y) is empty just if all signs of x are in y -/
theorem strip_nil (x y : Str) : (Txt.stripChars x y).length = 0 ↔ x.cps.toList.all y.cps.contains = true := by
  have hlen := str_len x
  unfold Txt.stripChars
  rw [PySem.W.stripBy_eq]
  show (Builtin.Str.strSub x (stripLo y.cps.contains true x) (stripHi y.cps.contains true x (stripLo y.cps.contains true x))).length = 0 ↔ _
  have hlo : stripLo y.cps.contains true x = (x.cps.toList.takeWhile y.cps.contains).length := rfl
  have hhi : stripHi y.cps.contains true x (stripLo y.cps.contains true x) = x.length - ((x.cps.toList.drop (stripLo y.cps.contains true x)).reverse.takeWhile y.cps.contains).length := rfl
  rw [strSub_len _ _ _ (by rw [hhi]; omega)]
  constructor
  · intro h
    cases ha : x.cps.toList.all y.cps.contains with
    | true => rfl
    | false =>
      exfalso
      have h1 := takeWhile_lt _ _ ha
      have h2 := drop_takeWhile _ _ ha
      have h3 : ((x.cps.toList.drop (stripLo y.cps.contains true x)).reverse).all y.cps.contains = false := by
        rw [List.all_reverse, hlo]
        exact h2
      have h4 := takeWhile_lt _ _ h3
      rw [List.length_reverse, List.length_drop] at h4
      rw [hhi] at h
      rw [← hlo] at h1
      omega
  · intro h
    have h1 := takeWhile_all _ _ h
    rw [hhi, hlo, h1]
    omega
theorem str_nil {x : Str} : x.length = 0 ↔ x = "" := by
  constructor
  · intro h
    obtain ⟨a⟩ := x
    have h' : a.size = 0 := h
    have e : a = #[] := Array.eq_empty_of_size_eq_zero h'
    subst e
    rfl
  · rintro rfl
    rfl
theorem all12 (x : Str) : x.cps.toList.all ("12" : Str).cps.contains = x.cps.toList.all fun c => c == 49 || c == 50 := by
  have e : (("12" : Str).cps.contains : Nat → Bool) = fun c => c == 49 || c == 50 := by
    funext c
    show (#[49, 50] : Array Nat).contains c = _
    simp
    rfl
  rw [e]
theorem strip12 (x : Str) : decide (V.str (Txt.stripChars x "12") = V.str "") = x.cps.toList.all fun c => c == 49 || c == 50 := by
  rw [← all12]
  cases h : x.cps.toList.all ("12" : Str).cps.contains with
  | true => exact decide_eq_true (congrArg V.str (str_nil.mp ((strip_nil x "12").mpr h)))
  | false =>
    refine decide_eq_false fun z => ?_
    have e := (strip_nil x "12").mp (str_nil.mpr (V.str.inj z))
    rw [h] at e
    cases e
/-- one-sign texts put together -/
theorem join_signs : ∀ cs : List Nat, Txt.join "" (cs.map fun c => (⟨#[c]⟩ : Str)) = (⟨cs.toArray⟩ : Str) := by
  intro cs
  rw [TL.join_eq]
  induction cs with
  | nil => rfl
  | cons c cs ih =>
    cases cs with
    | nil => rfl
    | cons d r =>
      have e : Str.join "" ((c :: d :: r).map fun c => (⟨#[c]⟩ : Str)) = (⟨#[c]⟩ : Str) ++ "" ++ Str.join "" ((d :: r).map fun c => (⟨#[c]⟩ : Str)) := rfl
      rw [e, ih]
      show (⟨(#[c] ++ #[]) ++ (d :: r).toArray⟩ : Str) = _
      simp
end Mc
/-! McData: small data, and expressions that make them. -/
namespace Mc
open PySem PySem.Spec PyProof.Rows L2

mutual
/-- no list of three items within -/
def noL3 : PyData → Bool
  | .list ds => ds.length != 3 && noL3All ds
  | .tuple ds => noL3All ds
  | .none | .bool _ | .int _ | .str _ | .dict _ => true
def noL3All : List PyData → Bool
  | [] => true
  | d :: ds => noL3 d && noL3All ds
end
/-- a datum whose text has at most n signs, at most k deep -/
structure Sm (n k : Nat) (d : PyData) : Prop where
  sh : d.showable = true
  ln : d.shown.length ≤ n
  dp : d.depth ≤ k
  nb : noL3 d = true
  st : ∀ x, d = .str x → x.length ≤ n ∧ ∀ c ∈ x.cps.toList, c < 1114112
theorem Sm.up {n k n' k' : Nat} {d : PyData} (h : Sm n k d) (hn : n ≤ n') (hk : k ≤ k') : Sm n' k' d := ⟨h.sh, Nat.le_trans h.ln hn, Nat.le_trans h.dp hk, h.nb, fun x e => ⟨Nat.le_trans (h.st x e).1 hn, (h.st x e).2⟩⟩
theorem Sm.shows {n k : Nat} {d : PyData} (h : Sm n k d) (hn : n ≤ 10000000) (hk : k ≤ 60) : Shows d :=
  ⟨h.sh, Nat.le_trans h.ln (Nat.le_trans hn (by decide)), Nat.le_trans h.dp hk⟩
theorem sm_none : Sm 5 0 .none := ⟨by simp only [PyData.showable], by simp only [PyData.shown]; decide, by simp only [PyData.depth, Nat.le_refl], by simp only [noL3], fun x e => nomatch e⟩
theorem sm_bool (b : Bool) : Sm 5 0 (.bool b) := ⟨by simp only [PyData.showable], by simp only [PyData.shown]; cases b <;> decide, by simp only [PyData.depth, Nat.le_refl], by simp only [noL3], fun x e => nomatch e⟩
theorem sm_int {i : Int} {k : Nat} (hk : 0 < k) (hk2 : k ≤ 500) (h : i.natAbs < 10 ^ k) : Sm (k + 1) 0 (.int i) := by
  refine ⟨?_, ?_, by simp only [PyData.depth, Nat.le_refl], by simp only [noL3], fun x e => nomatch e⟩
  · simp only [PyData.showable, decide_eq_true_eq]
    refine log2_small (Nat.lt_of_lt_of_le h ?_)
    calc 10 ^ k ≤ 10 ^ 500 := Nat.pow_le_pow_right (by decide) hk2
      _ ≤ 2 ^ 1920 := by decide +kernel
  · simp only [PyData.shown]
    rw [PySem.ofString_length]
    exact int_text_length_le10 hk h
theorem sm_str {x : Str} {m : Nat} (h : x.length ≤ m) (hc : ∀ c ∈ x.cps.toList, c < 1114112) : Sm (10 * m + 2) 0 (.str x) := by
  refine ⟨by simp only [PyData.showable], ?_, by simp only [PyData.depth, Nat.le_refl], by simp only [noL3], fun y e => ?_⟩
  · simp only [PyData.shown]
    exact Nat.le_trans (StrLaws.reprText_len x fun c h => Nat.lt_trans (hc c h) (by decide)) (by omega)
  · cases e
    exact ⟨by omega, hc⟩
theorem sm_all {n k : Nat} : ∀ {ds : List PyData}, (∀ d ∈ ds, Sm n k d) → PyData.showableAll ds = true ∧ ((PyData.shownAll ds).map (·.length)).sum ≤ n * ds.length ∧ PyData.depthAll ds ≤ k ∧ noL3All ds = true
  | [], _ => ⟨by simp only [PyData.showableAll], by simp [PyData.shownAll], by simp [PyData.depthAll], by simp only [noL3All]⟩
  | d :: ds, h => by
    have h1 := h d List.mem_cons_self
    obtain ⟨a, b, c, n3⟩ := sm_all (ds := ds) fun e he => h e (List.mem_cons_of_mem _ he)
    refine ⟨by simp only [PyData.showableAll, h1.sh, a, Bool.and_self], ?_, ?_, by simp only [noL3All, h1.nb, n3, Bool.and_self]⟩
    · simp only [PyData.shownAll, List.map_cons, List.sum_cons, List.length_cons]
      have := h1.ln
      rw [Nat.mul_succ]
      omega
    · simp only [PyData.depthAll]
      have := h1.dp
      omega
theorem sm_list {n k : Nat} {ds : List PyData} (h : ∀ d ∈ ds, Sm n k d) (h3 : ds.length ≠ 3) : Sm (n * ds.length + 2 * ds.length + 3) (k + 1) (.list ds) := by
  obtain ⟨a, b, c, n3⟩ := sm_all h
  refine ⟨by simpa only [PyData.showable] using a, ?_, by simp only [PyData.depth]; omega, by simp only [noL3, n3, Bool.and_true]; exact bne_iff_ne.mpr h3, fun x e => nomatch e⟩
  simp only [PyData.shown]
  have := listText_len_le (PyData.shownAll ds)
  rw [PyData.shownAll_length] at this
  omega
theorem sm_tuple {n k : Nat} {ds : List PyData} (h : ∀ d ∈ ds, Sm n k d) : Sm (n * ds.length + 2 * ds.length + 3) (k + 1) (.tuple ds) := by
  obtain ⟨a, b, c, n3⟩ := sm_all h
  refine ⟨by simpa only [PyData.showable] using a, ?_, by simp only [PyData.depth]; omega, by simpa only [noL3] using n3, fun x e => nomatch e⟩
  simp only [PyData.shown]
  have := tupleText_len_le (PyData.shownAll ds)
  rw [PyData.shownAll_length] at this
  omega
theorem sm_dict0 : Sm 5 1 (.dict []) := ⟨by simp only [PyData.showable, PyData.showableKv], by simp only [PyData.shown, PyData.shownKv]; decide +kernel, by simp [PyData.depth, PyData.depthKv], by simp only [noL3], fun x e => nomatch e⟩

/-! ### heaps that grow -/
def Ext (H H' : Hp) : Prop := ∀ c o, H c = some o → H' c = some o
theorem Ext.refl (H : Hp) : Ext H H := fun _ _ e => e
theorem Ext.trans {H H1 H2 : Hp} (a : Ext H H1) (b : Ext H1 H2) : Ext H H2 := fun c o e => b c o (a c o e)
theorem Ext.new {H : Hp} {p : Addr} {o : HO} (h : H p = none) : Ext H (upd H p o) := fun c u e => by
  rw [upd_ne (ne_of_none e h)]
  exact e
theorem Ext.fresh {H H' : Hp} {p : Addr} (e : Ext H H') (h : H' p = none) : H p = none := by
  cases q : H p with
  | none => rfl
  | some o =>
    rw [e p o q] at h
    cases h
theorem Ext.rd {H H' : Hp} {a : Addr} {u : HO} (e : Ext H H') (h : Rd H a u) : Rd H' a u := by
  rcases h with h | ⟨o, h⟩
  · exact .inl (e _ _ h)
  · exact .inr ⟨o, e _ _ h⟩
theorem Ext.sqL {K : PySem.W.Frag} {H H' : Hp} {a : Addr} {xs : List V} (e : Ext H H') (h : SqL K H a xs) : SqL K H' a xs := by
  rcases h with h | h
  · exact .inl (e.rd h)
  · exact .inr h
theorem Ext.sqT {K : PySem.W.Frag} {H H' : Hp} {a : Addr} {xs : List V} (e : Ext H H') (h : SqT K H a xs) : SqT K H' a xs := by
  rcases h with h | h
  · exact .inl (e.rd h)
  · exact .inr h
mutual
theorem dp_ext {K : PySem.W.Frag} {H H' : Hp} (e : Ext H H') : ∀ (d : PyData) (v : V), Dp K H v d → Dp K H' v d
  | .none, _, h => by cases h; exact .non
  | .bool _, _, h => by cases h; exact .bl _
  | .int _, _, h => by cases h; exact .int _
  | .str _, _, h => by cases h; exact .str _
  | .list ds, _, h => by
    cases h with
    | lst s r => exact .lst (e.sqL s) (dpAll_ext e ds _ r)
  | .tuple ds, _, h => by
    cases h with
    | tup s r => exact .tup (e.sqT s) (dpAll_ext e ds _ r)
  | .dict _, _, h => by cases h
theorem dpAll_ext {K : PySem.W.Frag} {H H' : Hp} (e : Ext H H') : ∀ (ds : List PyData) (vs : List V), DpAll K H vs ds → DpAll K H' vs ds
  | [], _, h => by cases h; exact .nil
  | d :: ds, _, h => by
    cases h with
    | cons h1 h2 => exact .cons (dp_ext e d _ h1) (dpAll_ext e ds _ h2)
end
theorem dq_ext {K : PySem.W.Frag} {H H' : Hp} (e : Ext H H') {d : PyData} {v : V} (h : Dq K H v d) : Dq K H' v d := by
  cases h with
  | dp h => exact .dp (dp_ext e d v h)
  | dic h => exact .dic (e _ _ h)

/-! ### another box: data without lists of three stay -/
mutual
theorem dp_box {K : PySem.W.Frag} {H H' : Hp} {b : Addr} {x y z : V} (hb : H b = some (.lst [x, y, z])) (hf : ∀ c, c ≠ b → H' c = H c) : ∀ (d : PyData) (v : V), noL3 d = true → Dp K H v d → Dp K H' v d
  | .none, _, _, h => by cases h; exact .non
  | .bool _, _, _, h => by cases h; exact .bl _
  | .int _, _, _, h => by cases h; exact .int _
  | .str _, _, _, h => by cases h; exact .str _
  | .list ds, _, n, h => by
    simp only [noL3, Bool.and_eq_true, bne_iff_ne, ne_eq] at n
    cases h with
    | @lst a xs _ s r =>
      refine .lst ?_ (dpAll_box hb hf ds _ n.2 r)
      rcases s with (s | ⟨o, s⟩) | s
      · refine .inl (.inl ((hf a ?_).trans s))
        rintro rfl
        rw [hb] at s
        cases s
        cases r with
        | cons _ r =>
          cases r with
          | cons _ r =>
            cases r with
            | cons _ r =>
              cases r
              exact n.1 rfl
      · refine .inl (.inr ⟨o, (hf a ?_).trans s⟩)
        rintro rfl
        rw [hb] at s
        cases s
      · exact .inr s
  | .tuple ds, _, n, h => by
    simp only [noL3] at n
    cases h with
    | @tup a xs _ s r =>
      refine .tup ?_ (dpAll_box hb hf ds _ n r)
      rcases s with (s | ⟨o, s⟩) | s
      · refine .inl (.inl ((hf a ?_).trans s))
        rintro rfl
        rw [hb] at s
        cases s
      · refine .inl (.inr ⟨o, (hf a ?_).trans s⟩)
        rintro rfl
        rw [hb] at s
        cases s
      · exact .inr s
  | .dict _, _, _, h => by cases h
theorem dpAll_box {K : PySem.W.Frag} {H H' : Hp} {b : Addr} {x y z : V} (hb : H b = some (.lst [x, y, z])) (hf : ∀ c, c ≠ b → H' c = H c) : ∀ (ds : List PyData) (vs : List V), noL3All ds = true → DpAll K H vs ds → DpAll K H' vs ds
  | [], _, _, h => by cases h; exact .nil
  | d :: ds, _, n, h => by
    simp only [noL3All, Bool.and_eq_true] at n
    cases h with
    | cons h1 h2 => exact .cons (dp_box hb hf d _ n.1 h1) (dpAll_box hb hf ds _ n.2 h2)
end
theorem dq_box {K : PySem.W.Frag} {H H' : Hp} {b : Addr} {x y z : V} (hb : H b = some (.lst [x, y, z])) (hf : ∀ c, c ≠ b → H' c = H c) {d : PyData} {v : V} (n : noL3 d = true) (h : Dq K H v d) : Dq K H' v d := by
  cases h with
  | dp h => exact .dp (dp_box hb hf d v n h)
  | @dic a h =>
    refine .dic ((hf a ?_).trans h)
    rintro rfl
    rw [hb] at h
    cases h

/-! ### good values -/
/-- a value that is a small datum without dicts -/
def GP (K : PySem.W.Frag) (H : Hp) (n k : Nat) (v : V) : Prop := ∃ d, Dp K H v d ∧ Sm n k d
theorem GP.ext {K : PySem.W.Frag} {H H' : Hp} {n k : Nat} {v : V} (h : GP K H n k v) (e : Ext H H') : GP K H' n k v := let ⟨d, h1, h2⟩ := h; ⟨d, dp_ext e d v h1, h2⟩
theorem GP.up {K : PySem.W.Frag} {H : Hp} {n k n' k' : Nat} {v : V} (h : GP K H n k v) (hn : n ≤ n') (hk : k ≤ k') : GP K H n' k' v := let ⟨d, h1, h2⟩ := h; ⟨d, h1, h2.up hn hk⟩
theorem gp_non {K : PySem.W.Frag} {H : Hp} : GP K H 5 0 .non := ⟨_, .non, sm_none⟩
theorem gp_bl {K : PySem.W.Frag} {H : Hp} (b : Bool) : GP K H 5 0 (.bl b) := ⟨_, .bl b, sm_bool b⟩
theorem gp_int {K : PySem.W.Frag} {H : Hp} {i : Int} {k : Nat} (hk : 0 < k) (hk2 : k ≤ 500) (h : i.natAbs < 10 ^ k) : GP K H (k + 1) 0 (.int i) := ⟨_, .int i, sm_int hk hk2 h⟩
theorem gp_str {K : PySem.W.Frag} {H : Hp} {x : Str} {m : Nat} (h : x.length ≤ m) (hc : ∀ c ∈ x.cps.toList, c < 1114112) : GP K H (10 * m + 2) 0 (.str x) := ⟨_, .str x, sm_str h hc⟩
theorem gp_all {K : PySem.W.Frag} {H : Hp} {n k : Nat} : ∀ {vs : List V}, (∀ v ∈ vs, GP K H n k v) → ∃ ds, DpAll K H vs ds ∧ (∀ d ∈ ds, Sm n k d) ∧ ds.length = vs.length
  | [], _ => ⟨[], .nil, (fun _ h => nomatch h), rfl⟩
  | v :: vs, h => by
    obtain ⟨d, h1, h2⟩ := h v List.mem_cons_self
    obtain ⟨ds, a, b, c⟩ := gp_all (vs := vs) fun u hu => h u (List.mem_cons_of_mem _ hu)
    refine ⟨d :: ds, .cons h1 a, fun e he => ?_, congrArg Nat.succ c⟩
    rcases List.mem_cons.mp he with rfl | he
    · exact h2
    · exact b e he
theorem gp_tup {K : PySem.W.Frag} {H : Hp} {n k m : Nat} {a : Addr} {vs : List V} (hs : SqT K H a vs) (h : ∀ v ∈ vs, GP K H n k v) (hm : vs.length ≤ m) : GP K H (n * m + 2 * m + 3) (k + 1) (.ref a) := by
  obtain ⟨ds, h1, h2, h3⟩ := gp_all h
  refine ⟨.tuple ds, .tup hs h1, (sm_tuple h2).up ?_ (Nat.le_refl _)⟩
  rw [h3]
  have := Nat.mul_le_mul_left n hm
  omega
theorem gp_lst {K : PySem.W.Frag} {H : Hp} {n k m : Nat} {a : Addr} {vs : List V} (hs : SqL K H a vs) (h : ∀ v ∈ vs, GP K H n k v) (hm : vs.length ≤ m) (h3' : vs.length ≠ 3) : GP K H (n * m + 2 * m + 3) (k + 1) (.ref a) := by
  obtain ⟨ds, h1, h2, h3⟩ := gp_all h
  refine ⟨.list ds, .lst hs h1, (sm_list h2 (by rw [h3]; exact h3')).up ?_ (Nat.le_refl _)⟩
  rw [h3]
  have := Nat.mul_le_mul_left n hm
  omega
/-- a value that is a small datum, or an empty dict -/
def GQ (K : PySem.W.Frag) (H : Hp) (n k : Nat) (v : V) : Prop := ∃ d, Dq K H v d ∧ Sm n k d
theorem GQ.ext {K : PySem.W.Frag} {H H' : Hp} {n k : Nat} {v : V} (h : GQ K H n k v) (e : Ext H H') : GQ K H' n k v := let ⟨d, h1, h2⟩ := h; ⟨d, dq_ext e h1, h2⟩
theorem GQ.box {K : PySem.W.Frag} {H H' : Hp} {n k : Nat} {v : V} {b : Addr} {x y z : V} (h : GQ K H n k v) (hb : H b = some (.lst [x, y, z])) (hf : ∀ c, c ≠ b → H' c = H c) : GQ K H' n k v := let ⟨d, h1, h2⟩ := h; ⟨d, dq_box hb hf h2.nb h1, h2⟩
theorem GP.q {K : PySem.W.Frag} {H : Hp} {n k n' k' : Nat} {v : V} (h : GP K H n k v) (hn : n ≤ n' := by decide) (hk : k ≤ k' := by decide) : GQ K H n' k' v := let ⟨d, h1, h2⟩ := h; ⟨d, .dp h1, h2.up hn hk⟩
theorem gq_dict {K : PySem.W.Frag} {H : Hp} {n k : Nat} {a : Addr} (h : H a = some (.dK [])) (hn : 5 ≤ n := by decide) (hk : 1 ≤ k := by decide) : GQ K H n k (.ref a) := ⟨_, .dic h, sm_dict0.up hn hk⟩

/-! ### expressions that make good values -/
section
variable {K : PySem.W.Frag} {σ : L2.St} {H : Hp} {n k m n' k' : Nat} {te : TE} {ta : TA} {v : V}
def GEP (K : PySem.W.Frag) (te : TE) (σ : L2.St) (H : Hp) (n k : Nat) : Prop := ∀ H1, Ext H H1 → ∀ Q : VK, (∀ v H2, Ext H1 H2 → GP K H2 n k v → Q v H2) → te σ H1 Q
def GAP (K : PySem.W.Frag) (ta : TA) (σ : L2.St) (H : Hp) (n k m : Nat) : Prop :=
  ∀ H1, Ext H H1 → ∀ Q : List V → Hp → Prop, (∀ vs H2, Ext H1 H2 → vs.length = m → (∀ v ∈ vs, GP K H2 n k v) → Q vs H2) → ta σ H1 Q
def GE (K : PySem.W.Frag) (te : TE) (σ : L2.St) (H : Hp) (n k : Nat) : Prop := ∀ H1, Ext H H1 → ∀ Q : VK, (∀ v H2, Ext H1 H2 → GQ K H2 n k v → Q v H2) → te σ H1 Q
def GA (K : PySem.W.Frag) (ta : TA) (σ : L2.St) (H : Hp) (n k m : Nat) : Prop :=
  ∀ H1, Ext H H1 → ∀ Q : List V → Hp → Prop, (∀ vs H2, Ext H1 H2 → vs.length = m → (∀ v ∈ vs, GQ K H2 n k v) → Q vs H2) → ta σ H1 Q
/-- an expression that is worth a scalar and leaves the heap -/
theorem gep_pure (h : ∀ H, GP K H n k v) (he : ∀ H1 (Q : VK), Q v H1 → te σ H1 Q) : GEP K te σ H n k := fun H1 _ Q q => he H1 Q (q v H1 (Ext.refl _) (h H1))
theorem gep_c (h : ∀ H, GP K H n k v) : GEP K (tC v) σ H n k := gep_pure h fun _ _ q => q
theorem gep_var {i : Nat} (hv : σ[i]? = some (some v)) (h : ∀ H, GP K H n k v) : GEP K (tVar i) σ H n k := gep_pure h fun _ _ q => ⟨v, hv, q⟩
theorem GEP.up (h : GEP K te σ H n k) (hn : n ≤ n') (hk : k ≤ k') : GEP K te σ H n' k' := fun H1 e Q q => h H1 e Q fun v H2 e2 g => q v H2 e2 (g.up hn hk)
theorem GEP.ge (h : GEP K te σ H n k) (hn : n ≤ n' := by decide) (hk : k ≤ k' := by decide) : GE K te σ H n' k' := fun H1 e Q q => h H1 e Q fun v H2 e2 g => q v H2 e2 (g.q hn hk)
theorem GEP.ext {H' : Hp} (h : GEP K te σ H n k) (e : Ext H H') : GEP K te σ H' n k := fun H1 e1 Q q => h H1 (e.trans e1) Q q
theorem GA.ext {H' : Hp} (h : GA K ta σ H n k m) (e : Ext H H') : GA K ta σ H' n k m := fun H1 e1 Q q => h H1 (e.trans e1) Q q
theorem gap_nil : GAP K tNil σ H n k 0 := fun H1 _ Q q => q [] H1 (Ext.refl _) rfl (fun _ h => nomatch h)
theorem gap_cons (h : GEP K te σ H n k) (hr : GAP K ta σ H n k m) : GAP K (tCons te ta) σ H n k (m + 1) := fun H1 e1 Q q =>
  h H1 e1 _ fun v H2 e2 g => hr H2 (e1.trans e2) _ fun vs H3 e3 l gs => q (v :: vs) H3 (e2.trans e3) (congrArg Nat.succ l) fun u hu => by
    rcases List.mem_cons.mp hu with rfl | hu
    · exact g.ext e3
    · exact gs u hu
theorem ga_nil : GA K tNil σ H n k 0 := fun H1 _ Q q => q [] H1 (Ext.refl _) rfl (fun _ h => nomatch h)
theorem ga_cons (h : GE K te σ H n k) (hr : GA K ta σ H n k m) : GA K (tCons te ta) σ H n k (m + 1) := fun H1 e1 Q q =>
  h H1 e1 _ fun v H2 e2 g => hr H2 (e1.trans e2) _ fun vs H3 e3 l gs => q (v :: vs) H3 (e2.trans e3) (congrArg Nat.succ l) fun u hu => by
    rcases List.mem_cons.mp hu with rfl | hu
    · exact g.ext e3
    · exact gs u hu
theorem gep_tup (h : GAP K ta σ H n k m) (hm : m ≤ 100000 := by decide) : GEP K (tTup ta) σ H (n * m + 2 * m + 3) (k + 1) := fun H1 e1 Q q =>
  h H1 e1 _ fun vs H2 e2 l gs => ⟨by rw [l]; exact Nat.le_trans hm (by decide), fun p hp => q _ _ (e2.trans (Ext.new hp)) (gp_tup (.inl (.inl upd_same)) (fun v hv => (gs v hv).ext (Ext.new hp)) (Nat.le_of_eq l))⟩
theorem gep_lst (h : GAP K ta σ H n k m) (hm : m ≤ 100000 := by decide) (h3 : m ≠ 3 := by decide) : GEP K (tLst ta) σ H (n * m + 2 * m + 3) (k + 1) := fun H1 e1 Q q =>
  h H1 e1 _ fun vs H2 e2 l gs => ⟨by rw [l]; exact Nat.le_trans hm (by decide), fun p hp => q _ _ (e2.trans (Ext.new hp)) (gp_lst (.inl (.inl upd_same)) (fun v hv => (gs v hv).ext (Ext.new hp)) (Nat.le_of_eq l) (by rw [l]; exact h3))⟩
theorem ge_dict (hn : 5 ≤ n := by decide) (hk : 1 ≤ k := by decide) : GE K tDNewK σ H n k := fun H1 e1 Q q => fun d hd => q _ _ (Ext.new hd) (gq_dict upd_same hn hk)
/-- a display -/
theorem lst_good {Q : VK} (h : GA K ta σ H n k m) (hm : m ≤ 100000) (q : ∀ p xs H2, H p = none → Ext H H2 → H2 p = some (.lst xs) → xs.length = m → (∀ v ∈ xs, GQ K H2 n k v) → Q (.ref p) H2) : tLst ta σ H Q :=
  h H (Ext.refl _) _ fun vs H2 e2 l gs => ⟨by rw [l]; exact Nat.le_trans hm (by decide), fun p hp => q p vs _ (e2.fresh hp) (e2.trans (Ext.new hp)) upd_same l fun v hv => (gs v hv).ext (Ext.new hp)⟩
/-- some + [..] -/
theorem cat_good {Q : VK} {i : Nat} {p : Addr} {xs : List V} (hσ : σ[i]? = some (some (.ref p))) (hp : H p = some (.lst xs)) (hx : ∀ v ∈ xs, GQ K H n k v) (hl : xs.length ≤ 10000) (hA : GA K ta σ H n k m) (hm : m ≤ 10000)
    (q : ∀ p' zs H', H p' = none → Ext H H' → H' p' = some (.lst zs) → zs.length = xs.length + m → (∀ v ∈ zs, GQ K H' n k v) → Q (.ref p') H') : tOp rCat (tVar i) (tLst ta) σ H Q :=
  ⟨_, hσ, lst_good hA (Nat.le_trans hm (by decide)) fun p2 ys H2 hn2 e2 hp2 l2 g2 => ⟨p, p2, xs, ys, rfl, rfl, e2 _ _ hp, hp2, Nat.le_trans (show xs.length + ys.length ≤ 100000 by omega) (by decide), fun p3 hp3 =>
    q p3 (xs ++ ys) _ (e2.fresh hp3) (e2.trans (Ext.new hp3)) upd_same (by rw [List.length_append, l2]) fun v hv => by
      rcases List.mem_append.mp hv with hv | hv
      · exact (hx v hv).ext (e2.trans (Ext.new hp3))
      · exact (g2 v hv).ext (Ext.new hp3)⟩⟩
end

/-! ### texts of plain signs -/
structure Tx (m : Nat) (x : Str) : Prop where
  len : x.length ≤ m
  sg : ∀ c ∈ x.cps.toList, c < 1114112
theorem Tx.up {m m' : Nat} {x : Str} (h : Tx m x) (hm : m ≤ m') : Tx m' x := ⟨Nat.le_trans h.len hm, h.sg⟩
theorem Tx.gp {K : PySem.W.Frag} {H : Hp} {m : Nat} {x : Str} (h : Tx m x) : GP K H (10 * m + 2) 0 (.str x) := gp_str h.len h.sg
theorem Tx.size {m : Nat} {x : Str} (h : Tx m x) (hm : m ≤ 1000000 := by decide) : x.length ≤ sizeLine := Nat.le_trans h.len (Nat.le_trans hm (by decide))
theorem Tx.size2 {m n : Nat} {x y : Str} (h : Tx m x) (h' : Tx n y) (hm : m + n ≤ 1000000 := by decide) : x.length + y.length ≤ sizeLine := Nat.le_trans (Nat.add_le_add h.len h'.len) (Nat.le_trans hm (by decide))
theorem tx_lit {x : Str} {m : Nat} (h : (decide (x.length ≤ m) && x.cps.toList.all fun c => decide (c < 1114112)) = true) : Tx m x := by
  rw [Bool.and_eq_true] at h
  exact ⟨of_decide_eq_true h.1, fun c hc => of_decide_eq_true (List.all_eq_true.mp h.2 c hc)⟩
theorem tx_app {x y : Str} {m n : Nat} (h : Tx m x) (h' : Tx n y) : Tx (m + n) (x ++ y) := by
  have e : (x ++ y).cps = x.cps ++ y.cps := rfl
  refine ⟨?_, fun c hc => ?_⟩
  · show (x ++ y).cps.size ≤ m + n
    rw [e, Array.size_append]
    have h1 : x.cps.size ≤ m := h.len
    have h2 : y.cps.size ≤ n := h'.len
    omega
  · rw [e, Array.toList_append] at hc
    rcases List.mem_append.mp hc with hc | hc
    · exact h.sg c hc
    · exact h'.sg c hc
theorem tx_cut {x : Str} {m : Nat} (h : Tx m x) (lo hi : Option Int) : Tx m (cutS x lo hi) := by
  refine ⟨Nat.le_trans (cutS_length x lo hi) h.len, fun c hc => h.sg c ?_⟩
  unfold cutS at hc
  exact List.mem_of_mem_drop (List.mem_of_mem_take hc)
theorem tx_sign {c : Nat} (h : c < 1114112) : Tx 1 (⟨#[c]⟩ : Str) := ⟨by show 1 ≤ 1; decide, fun d hd => by
  have : d = c := by simpa using hd
  rw [this]
  exact h⟩
theorem tx_signs {cs : List Nat} {m : Nat} (hl : cs.length ≤ m) (h : ∀ c ∈ cs, c < 1114112) : Tx m (⟨cs.toArray⟩ : Str) := ⟨by show cs.toArray.size ≤ m; simpa using hl, fun c hc => h c (by simpa using hc)⟩
theorem atI_mem {α : Type} {xs : List α} {i : Int} (h0 : 0 ≤ i) (h1 : i < xs.length) : ∃ c, atI xs i = some c ∧ c ∈ xs := by
  have hlt : i.toNat < xs.length := by omega
  refine ⟨xs[i.toNat], ?_, List.getElem_mem hlt⟩
  unfold atI ixN
  rw [if_pos h0, if_pos h1]
  show xs[i.toNat]? = _
  exact List.getElem?_eq_getElem hlt
theorem all_nil {α : Type} {P : α → Prop} : ∀ v ∈ ([] : List α), P v := fun _ h => nomatch h
theorem all_cons {α : Type} {P : α → Prop} {x : α} {xs : List α} (h : P x) (hr : ∀ v ∈ xs, P v) : ∀ v ∈ x :: xs, P v := fun v hv => by
  rcases List.mem_cons.mp hv with rfl | hv
  · exact h
  · exact hr v hv
end Mc
/-! McDcSelf: {y: True for y in l}, l a list of tuples of whole numbers and texts (the walk of a dict comprehension as in the guide's example of GoesComp). -/
namespace Mc
open PySem PySem.Spec PyProof.Rows L2
/-- the items of the list are tuples of these keys -/
abbrev KeysAt (H : Hp) : List V → List (List Key) → Prop := Paired fun v k => ∃ t, v = V.ref t ∧ H t = some (.tup (k.map kV))
def allT (ks : List (List Key)) : List (List Key × V) := ks.foldl (fun acc k => putK acc k (.bl true)) []
def tDcSelf (K : PySem.W.Frag) (te : TE) : TE := fun σ H Q => te σ H fun x H1 => ∃ (a : Addr) (xs : List V) (ks : List (List Key)), x = .ref a ∧ SqL K H1 a xs ∧ KeysAt H1 xs ks ∧ ∀ D, H1 D = none → Q (.ref D) (upd H1 D (.dT (allT ks)))
theorem allT_snoc (ks : List (List Key)) (k : List Key) : allT (ks ++ [k]) = putK (allT ks) k (.bl true) := by
  unfold allT
  rw [List.foldl_append]
  rfl
theorem allT_len (ks : List (List Key)) : (allT ks).length ≤ ks.length := by
  have h : ∀ (ks : List (List Key)) (acc : List (List Key × V)), (ks.foldl (fun acc k => putK acc k (.bl true)) acc).length ≤ acc.length + ks.length := by
    intro ks
    induction ks with
    | nil => intro acc; exact Nat.le_refl _
    | cons k ks ih =>
      intro acc
      have h1 := ih (putK acc k (.bl true))
      have h2 := length_putK acc k (.bl true)
      simp only [List.foldl_cons, List.length_cons]
      omega
  have := h ks []
  simpa [allT] using this
theorem keysAt_get {H : Hp} : ∀ {xs : List V} {ks : List (List Key)} {us : List Value}, KeysAt H xs ks → Vals xs us → ∀ (i : Nat) (u : Value), us[i]? = some u → ∃ (t : Addr) (k : List Key), u = Value.ref t ∧ ks[i]? = some k ∧ H t = some (.tup (k.map kV))
  | _, _, _, .nil, .nil, i, u, e => by simp at e
  | _, _, _, .cons ⟨t, e1, ht⟩ r, .cons rv rr, 0, u, e => by
    subst e1
    simp only [List.getElem?_cons_zero, Option.some.injEq] at e
    subst e
    exact ⟨t, _, rv, rfl, ht⟩
  | _, _, _, .cons _ r, .cons _ rr, i + 1, u, e => by
    obtain ⟨t, k, h1, h2, h3⟩ := keysAt_get r rr i u (by simpa using e)
    exact ⟨t, k, h1, by simpa using h2, h3⟩
theorem kt_is {P : Program} {w : World} {H : Hp} {h : Heap} (ok : HOk P w H h) : ∀ {kvs : List (List Key × V)} {ys : List (List Key × Addr × Value)}, KT H kvs ys → ∀ x ∈ ys, (tupleKind (mixKind P w)).is h x.1 x.2.1
  | _, _, .nil, x, hx => by simp at hx
  | _, _, .cons ⟨e, hb, _⟩ r, x, hx => by
    rcases List.mem_cons.mp hx with rfl | hx
    · rw [← e]
      exact key_of ok hb
    · exact kt_is ok r x hx
section
variable {X : Cx}
/-- what the comprehension owes where its list stands -/
theorem dcSelf_core {pins : List (Addr × Obj)} {σ : L2.St} {H1 : Hp} {s1 : Shared} {y : Str} {scope : Scope} {py pc pt : Pos} {kk : Nat} {a : Addr} {xs : List V} {ks : List (List Key)} {use : Option (Value → Sem Unit)} {Qf : Value → Shared → Prop}
    (hc : X.calm = true) (hu : X.A.units + 1 < cLine) (I1 : Inv X pins σ H1 s1) (hx : SqL X.K H1 a xs) (hk : KeysAt H1 xs ks) (hkind : scope.kind = .function) (hy : scope.names.lookup y = some .local) (hdb : (y == ("__debug__" : Str)) = false)
    (hR : ∀ (D C : Addr) (s' : Shared) (m : Str → Option Value), H1 D = none → Inv X pins σ (upd H1 D (.dT (allT ks))) s' → s'.heap.Ns C m → s1.heap.objs.size ≤ C → D ≠ C → upd H1 D (.dT (allT ks)) C = none →
      compEnds (model X.prog X.w) X.A X.xe use Qf (.ref D) (compEnvC scope (cloFrom X.env.cells scope.names []) C X.env) (.ok .next) s') :
    wpAny (model X.prog X.w) X.A (pyIter (.ref a)) (DcGoes (prog := X.prog) (w := X.w) X.A X.xe X.env scope (cloFrom X.env.cells scope.names []) (.Name y pt) [] (.Name y py) (.Constant (.bool true) kk pc) use Qf) X.xe s1 := by
  obtain ⟨its, rv, hl, hz⟩ := I1.list hx
  obtain ⟨hp, g, d, tk0, os⟩ := s1
  have hlt : a < hp.objs.size := by
    obtain ⟨o, ho, _⟩ := hl.isList
    exact Heap.lt_size ho
  have hh : X.A.handled = none := I1.ok.hd hc
  refine wpAny_pyIter_list hl.isList ?_
  refine ⟨_, _, _, _, _, _, rfl, .list (A := X.A) hh hp.objs.size a (Nat.ne_of_lt hlt) its.toArray, ?_, fun D C s3 hB hD0 => ?_⟩
  · exact ⟨⟨_, Heap.get?_push_size _ rfl, rfl, rfl⟩, hl.isList.at fun o e => Heap.get?_push_of_some _ e⟩
  obtain ⟨⟨h3, tk3, rfl⟩, old3, nD0, nC0, hDC, hnm⟩ := hB
  have szp : (hp.push { cls := .type "list_iterator", data := .fields #[.ref a, .int 0 0] }).objs.size = hp.objs.size + 1 := Heap.size_push ..
  have nD : (hp.objs.size + 1 : Nat) ≤ D := Nat.le_trans (Nat.le_of_eq szp.symm) nD0
  have nC : (hp.objs.size + 1 : Nat) ≤ C := Nat.le_trans (Nat.le_of_eq szp.symm) nC0
  have old : ∀ b o, hp.get? b = some o → h3.get? b = some o := fun b o e => old3 b o (Heap.get?_push_of_some _ e)
  have hyk : (compEnvC scope (cloFrom X.env.cells scope.names []) C X.env).kindOf y = some .local := lookup_relabel_local hy
  have hpl : ((compEnvC scope (cloFrom X.env.cells scope.names []) C X.env).scope.kind == .class || ((compEnvC scope (cloFrom X.env.cells scope.names []) C X.env).scope.kind == .module && (compEnvC scope (cloFrom X.env.cells scope.names []) C X.env).locals != (compEnvC scope (cloFrom X.env.cells scope.names []) C X.env).globals)) = false := by
    show (scope.kind == .class || (scope.kind == .module && _)) = false
    rw [hkind]
    rfl
  have ltC : ∀ b o, hp.get? b = some o → b ≠ C := fun b o e => Nat.ne_of_lt (Nat.lt_of_lt_of_le (Nat.lt_succ_of_lt (Heap.lt_size e)) nC)
  have ltD : ∀ b o, hp.get? b = some o → b ≠ D := fun b o e => Nat.ne_of_lt (Nat.lt_of_lt_of_le (Nat.lt_succ_of_lt (Heap.lt_size e)) nD)
  have neI : hp.objs.size ≠ C ∧ hp.objs.size ≠ D := ⟨Nat.ne_of_lt nC, Nat.ne_of_lt nD⟩
  have hlen : its.toArray.size = ks.length := by
    rw [List.size_toArray, ← rv.length]
    exact Paired.length hk
  refine ⟨fun i s' => ∃ h' tk m ys, s' = ⟨h', g, d, tk, os⟩ ∧ h'.Ns C m ∧ (∀ b o, hp.get? b = some o → h'.get? b = some o) ∧ h'.DictOfH (tupleKind (mixKind X.prog X.w)) D ys ∧ KT H1 (allT (ks.take i)) ys, ?_, ?_, ?_, ?_⟩
  · exact ⟨h3, tk3, _, [], rfl, hnm, old, ⟨_, #[], 0, hD0, ⟨rfl, rfl, rfl⟩, rfl, rfl, (fun _ z => by simp at z), List.nodup_nil⟩, .nil⟩
  · rintro i s' h' tk ⟨h4, tk4, m, ys, rfl, n4, k4, ⟨o, es, ep, e1, e2, e3, e4, _, e6⟩, rel⟩ kk' _
    have kold : ∀ b o, hp.get? b = some o → h'.get? b = some o := fun b o e => kk' b o (fun z => absurd (List.mem_singleton.mp z) (Nat.ne_of_lt (Heap.lt_size e))) (k4 b o e)
    exact ⟨h', tk, m, ys, rfl, n4.at' (fun o e => kk' _ o (fun z => absurd (List.mem_singleton.mp z).symm neI.1) e), kold, ⟨o, es, ep, kk' D o (fun z => absurd (List.mem_singleton.mp z).symm neI.2) e1, e2, e3, e4, kt_is (I1.hok.kept kold) rel, e6⟩, rel⟩
  · rintro i v s' hi hY st ⟨h4, tk4, m, ys, rfl, n4, k4, ⟨o, es, ep, e1, e2, e3, e4, _, e6⟩, rel⟩
    obtain ⟨t, k, rfl, hki, ht⟩ := keysAt_get hk rv i v (by simpa using hY)
    refine wpAny_assign_Name (wpAny_storeName_local hyk n4 (fun h5 n5 s5 => ?_) hpl)
    refine wpAny_tests_nil ?_
    show wpAny _ _ _ _ _ _
    rw [eval_Name _ _ _ hdb]
    refine wpAny_bind (wpAny_standAt (wpAny_loadName_local hkind hyk n5 (v := .ref t) (by simp) ?_))
    have k5 : ∀ b o, hp.get? b = some o → h5.get? b = some o := fun b o e => s5.extBut _ _ (ltC b o e) (k4 b o e)
    have ok5 := I1.hok.kept k5
    have hys : ys.length ≤ sizeLine := by
      rw [← Paired.length rel]
      have l1 := allT_len (ks.take i)
      rw [List.length_take] at l1
      have l2 : ks.length ≤ sizeLine := by
        rw [← hlen, List.size_toArray, ← rv.length]
        exact hz
      omega
    refine wpAny_Constant_bool ?_
    refine wpAny_dictSet_heap (knd := tupleKind (mixKind X.prog X.w)) (k := k) (show X.A.units < cLine by omega) (key_of ok5 ht) ⟨o, es, ep, s5.extBut _ _ hDC e1, e2, e3, e4, kt_is ok5 rel, e6⟩ (fun h6 dd6 sb6 => ?_) hys
    have k6 : ∀ b o, hp.get? b = some o → h6.get? b = some o := fun b o e => sb6.extBut _ _ (ltD b o e) (k5 b o e)
    have etk : ks.take (i + 1) = ks.take i ++ [k] := by
      rw [List.take_add_one, hki]
      rfl
    refine ⟨⟨h6, _, _, _, rfl, n5.extBut sb6.extBut hDC.symm, k6, dd6, ?_⟩, ?_⟩
    · rw [etk, allT_snoc]
      exact rel.put k ht rfl
    · exact ⟨st.1.at fun o e => sb6.extBut _ _ neI.2 (s5.extBut _ _ neI.1 e), hl.isList.at fun o e => k6 _ o e⟩
  · rintro s' ⟨h4, tk4, m, ys, rfl, n4, k4, ⟨o, es, ep, e1, e2, e3, e4, _, e6⟩, rel⟩
    have hDn : H1 D = none := I1.hok.fresh (Nat.le_of_succ_le nD)
    have hCn : H1 C = none := I1.hok.fresh (Nat.le_of_succ_le nC)
    rw [show ks.take its.toArray.size = ks by rw [hlen]; exact List.take_length] at rel
    refine hR D C ⟨h4, g, d, tk4, os⟩ m hDn (I1.laid (a := D) (o := .dT (allT ks)) (t' := tk4) (fun b o e => k4 b o e) (Nat.le_of_succ_le nD) ⟨?_, ?_, ys, rel.keeps (fun c zs ec => ?_), o, es, ep, e1, e2, e3, e4, e6⟩) n4 (Nat.le_of_succ_le nC) hDC (by rw [upd_ne hDC.symm]; exact hCn)
    · have l1 := allT_len ks
      have l2 : ks.length ≤ sizeLine := by
        rw [← hlen, List.size_toArray, ← rv.length]
        exact hz
      omega
    · have hb := I1.big
      exact beq_eq_false_iff_ne.mpr (Ne.symm (Nat.ne_of_lt (Nat.lt_of_lt_of_le (Nat.lt_succ_of_lt hb) nD)))
    · rw [upd_ne (ne_of_none ec hDn)]
      exact ec
theorem pe_dcSelf {y : Str} {iter : Expr} {te : TE} {scope : Scope} {py pc pt pos : Pos} {kk : Nat} (hc : X.calm = true) (hu : X.A.units + 1 < cLine) (he : PE X iter te) (hkind : scope.kind = .function) (hcell : ∀ z ∈ scope.names, z.2 ≠ .cell)
    (hfree : ∀ z ∈ scope.names, z.2 ≠ .free) (hnames : ∀ z ∈ scope.names, z.2 = .local → scope.names.lookup z.1 = some .local) (hy : scope.names.lookup y = some .local) (hdb : (y == ("__debug__" : Str)) = false := by decide)
    (hs : ∀ x, foldedSetIterable iter X.env x = pure x := by intro _; rfl) :
    PE X (.DictComp (.Name y py) (.Constant (.bool true) kk pc) [⟨.Name y pt, iter, [], 0⟩] scope pos) (tDcSelf X.K te) := by
  refine ⟨fun pins s σ H Q I h => ?_⟩
  refine DictComp_goes (closure_ok fun z hz e => absurd e (hfree z hz)) hcell hkind hnames (thn (he.run pins s σ H _ I h) ?_) hs
  rintro v s1 ⟨x, H1, I1, rx, a, xs, ks, rfl, hx, hk, q⟩
  cases rx
  refine dcSelf_core hc hu I1 hx hk hkind hy hdb fun D C s' m hDn J hn hC hDC hCn => ⟨m, hn, fun h' sb => ?_⟩
  obtain ⟨f0, f1, f2, f3, f4, f5⟩ := I1.fpOk hC hCn
  exact ⟨.ref D, _, J.turned (t' := s'.toks) (fun b o hb e => (sb.2 b hb).trans e) f0 f1 f3 f4 f5, rfl, q D hDn⟩
/-- x = {y: True for y in l}, x a local of the def -/
theorem ps_setDcSelf {i : Nat} {x y : Str} {iter : Expr} {te : TE} {scope : Scope} {px py pc pt pos spos : Pos} {kk : Nat} (hc : X.calm = true) (hN : X.N.Nodup) (hi : X.N[i]? = some x) (hxl : X.env.scope.names.lookup x = some .local)
    (hsw : swapsWith (.DictComp (.Name y py) (.Constant (.bool true) kk pc) [⟨.Name y pt, iter, [], 0⟩] scope pos) (some (.Name x px)) spos.line X.env = pure true)
    (hu : X.A.units + 1 < cLine) (he : PE X iter te) (hkind : scope.kind = .function) (hcell : ∀ z ∈ scope.names, z.2 ≠ .cell)
    (hfree : ∀ z ∈ scope.names, z.2 ≠ .free) (hnames : ∀ z ∈ scope.names, z.2 = .local → scope.names.lookup z.1 = some .local) (hy : scope.names.lookup y = some .local) (hdb : (y == ("__debug__" : Str)) = false := by decide)
    (hs : ∀ x, foldedSetIterable iter X.env x = pure x := by intro _; rfl) :
    PS X (.Assign [.Name x px] (.DictComp (.Name y py) (.Constant (.bool true) kk pc) [⟨.Name y pt, iter, [], 0⟩] scope pos) spos) (tAsg (tDcSelf X.K te) (gName i)) := by
  refine ⟨fun pins s σ H D0 I h => ?_⟩
  rw [exec_Assign_Name_used _ _ _ _ hsw, arm_evalThenUse_DictComp]
  refine wpAny_bind (wpAny_standAt (wpAny_bind (wpAny_bind ?_)))
  have h : tDcSelf X.K te σ H (fun v H1 => gName i v σ H1 D0.nx) := h
  refine thn (comprehension_at (use := some (assign (.Name x px) X.env)) (Q := fun _ s' => SP X pins D0 .next s') rfl hs (closure_ok fun z hz e => absurd e (hfree z hz)) hkind hnames
    (thn (he.run pins s σ H _ I h) ?_)) fun _ s' hq => wpAny_pure (wpAny_pure hq)
  rintro v s1 ⟨w0, H1, I1, rx, a, xs, ks, rfl, hx, hk, q⟩
  cases rx
  refine wpAny_mono (dcSelf_core (use := some (assign (.Name x px) X.env)) (Qf := fun _ s' => SP X pins D0 .next s') hc hu I1 hx hk hkind hy hdb ?_) (fun it s2 h2 => compBlock_dict hcell hkind h2) fun _ _ e => e
  intro D C s' m hDn J hn hC hDC hCn
  show wpAny _ _ (assign (.Name x px) X.env (.ref D)) _ _ _
  refine wpAny_assign_Name (store_ok2 (v := V.ref D) J hN hi (.inl hxl) rfl (fun s2 I2 ⟨b, sb, hb⟩ => ?_) (.inr hxl))
  obtain ⟨f0, f1, f2, f3, f4, f5⟩ := I1.fpOk hC hCn
  have hbC : C ≠ b := by
    rcases hb with z | z
    · rw [z]
      exact f1
    · exact fun e => f4 x b z e.symm
  exact ⟨m, hn.sameBut sb hbC, fun h3 sb3 => ⟨_, _, I2.turned (t' := s2.toks) (fun b o hb e => (sb3.2 b hb).trans e) f0 f1 f3 f4 f5, q D hDn⟩⟩
/-- x = {k: v for target in iter ..}, x a local of the def -/
theorem ps_setDc {i : Nat} {x : Str} {px : Pos} {kx vx tg iter : Expr} {ifs : List Expr} {scope : Scope} {own : List (Str × Nat)} {pos spos : Pos} {wi : TI} {g : TG} {tt : TT} {tk tv : TE} (hc : X.calm = true) (hN : X.N.Nodup) (hx : X.N[i]? = some x) (hxl : X.env.scope.names.lookup x = some .local)
    (hsw : swapsWith (.DictComp kx vx [⟨tg, iter, ifs, 0⟩] scope pos) (some (.Name x px)) spos.line X.env = pure true) (hi : PI X tg iter wi) (ok : BlkOk X.N X.env.scope scope own)
    (hg : ∀ (s : Shared) (H : Hp) (C : Addr) (cl : List (Str × Addr)) (fp : List Addr), PG (X.blk s H scope (compEnvC scope cl C X.env) fp) tg g)
    (ht : ∀ (s : Shared) (H : Hp) (C : Addr) (cl : List (Str × Addr)) (fp : List Addr), PTs (X.blk s H scope (compEnvC scope cl C X.env) fp) ifs tt)
    (hk : ∀ (s : Shared) (H : Hp) (C : Addr) (cl : List (Str × Addr)) (fp : List Addr), PE (X.blk s H scope (compEnvC scope cl C X.env) fp) kx tk)
    (he : ∀ (s : Shared) (H : Hp) (C : Addr) (cl : List (Str × Addr)) (fp : List Addr), PE (X.blk s H scope (compEnvC scope cl C X.env) fp) vx tv)
    (hs : ∀ v, foldedSetIterable iter X.env v = pure v := by intro _; rfl) :
    PS X (.Assign [.Name x px] (.DictComp kx vx [⟨tg, iter, ifs, 0⟩] scope pos) spos) (tAsg (tDc wi g tt tk tv (own.map (·.2))) (gName i)) := by
  refine ⟨fun pins s σ H D0 I h => ?_⟩
  rw [exec_Assign_Name_used _ _ _ _ hsw, arm_evalThenUse_DictComp]
  refine wpAny_bind (wpAny_standAt (wpAny_bind (wpAny_bind ?_)))
  have h : tDc wi g tt tk tv (own.map (·.2)) σ H (fun v H1 => gName i v σ H1 D0.nx) := h
  refine thn (dc_core (use := some (assign (.Name x px) X.env)) (Qf := fun _ s' => SP X pins D0 .next s') hc hN I hi ok hg ht hk he hs h ?_) fun _ s' hq => wpAny_pure (wpAny_pure hq)
  intro D C s' m H' J q hn ⟨f0, f1, f2, f3, f4, f5⟩
  show wpAny _ _ (assign (.Name x px) X.env (.ref D)) _ _ _
  refine wpAny_assign_Name (store_ok2 (v := V.ref D) J hN hx (.inl hxl) rfl (fun s2 I2 ⟨b, sb, hb⟩ => ?_) (.inr hxl))
  have hbC : C ≠ b := by
    rcases hb with z | z
    · rw [z]
      exact f1
    · exact fun e => f4 x b z e.symm
  exact ⟨m, hn.sameBut sb hbC, fun h3 sb3 => ⟨_, _, I2.turned (t' := s2.toks) (fun b o hb e => (sb3.2 b hb).trans e) f0 f1 f3 f4 f5, q⟩⟩
/-- the model stores ahead of the block's going: a dict comprehension on one line, its target a local -/
theorem sw_trueD {kx vx : Expr} {gs : List Comprehension} {scope : Scope} {pos py : Pos} {y : Str} {l : Nat} {env : Env} (hk : env.scope.kind = .function) (hy : env.scope.names.lookup y = some .local) (hl : (py.line == pos.line) = true)
    (ha : (scope.names.any fun (n, k) => n == y && (k == .local || k == .cell)) = false) : swapsWith (.DictComp kx vx gs scope pos) (some (.Name y py)) l env = pure true := by
  have hb : env.blockKind = .function := by
    unfold Env.blockKind
    rw [hk]
    rfl
  have ky : env.kindOf y = some .local := hy
  show (pure (env.blockKind == .function && env.kindOf y == some .local && py.line == pos.line && !(scope.names.any fun (n, k) => n == y && (k == .local || k == .cell))) : Sem Bool) = pure true
  rw [hb, ky, hl, ha]
  rfl
end
end Mc
/-! McGraph: nets without a program: cells, ports, the search, what it finds. -/
namespace Mc
open PySem PySem.Spec PyProof.Rows L2

abbrev Port : Type := Int × Int
/-- a kind's number of ports -/
def arS (x : Str) : Nat := if x = "eraser" then 1 else 3
def KindS (x : Str) : Prop := x = "red" ∨ x = "blue" ∨ x = "eraser"
/-- the kinds by cell, the number of ends, what lies across each port -/
structure Gr where
  kd : List Str
  ends : Nat
  ac : Port → Port
namespace Gr
variable (G : Gr)
def n : Nat := G.kd.length
def kind (c : Nat) : Str := G.kd.getD c ""
def ar (c : Nat) : Nat := arS (G.kind c)
/-- a port of the net -/
def port (p : Port) : Prop := (p.1 = -1 ∧ 0 ≤ p.2 ∧ p.2 < G.ends) ∨ (0 ≤ p.1 ∧ p.1 < G.n ∧ 0 ≤ p.2 ∧ p.2 < G.ar p.1.toNat)
structure Ok : Prop where
  kinds : ∀ x ∈ G.kd, KindS x
  small : G.n ≤ 1000
  few : G.ends ≤ 12
  there : ∀ p, G.port p → G.port (G.ac p)
  back : ∀ p, G.port p → G.ac (G.ac p) = p
  other : ∀ p, G.port p → G.ac p ≠ p
/-- the cells (or -1) across the ports of c -/
def nb (c : Nat) : List Int := (List.range (G.ar c)).map fun (k : Nat) => (G.ac ((c : Int), (k : Int))).1
end Gr

/-! ### the search -/
def addN (f : List Nat) (o : Int) : List Nat := if 0 ≤ o ∧ o.toNat ∉ f then f ++ [o.toNat] else f
def visit (l : List Int) (f : List Nat) : List Nat := l.foldl addN f
/-- what is found when p places have been looked at -/
def bfsN (nb : Nat → List Int) (first : List Nat) : Nat → List Nat
  | 0 => first
  | p + 1 => match (bfsN nb first p)[p]? with
    | none => bfsN nb first p
    | some c => visit (nb c) (bfsN nb first p)
section
variable {nb : Nat → List Int} {first : List Nat}
theorem addN_sub (f : List Nat) (o : Int) : ∃ r, addN f o = f ++ r := by
  unfold addN
  split
  · exact ⟨_, rfl⟩
  · exact ⟨[], (List.append_nil f).symm⟩
theorem visit_sub : ∀ (l : List Int) (f : List Nat), ∃ r, visit l f = f ++ r
  | [], f => ⟨[], (List.append_nil f).symm⟩
  | o :: l, f => by
    obtain ⟨r, e⟩ := addN_sub f o
    obtain ⟨r2, e2⟩ := visit_sub l (addN f o)
    refine ⟨r ++ r2, ?_⟩
    show visit l (addN f o) = _
    rw [e2, e, List.append_assoc]
theorem addN_nodup {f : List Nat} (h : f.Nodup) (o : Int) : (addN f o).Nodup := by
  unfold addN
  split
  · rename_i c
    refine List.nodup_append.mpr ⟨h, List.pairwise_singleton _ _, fun a ha b hb => ?_⟩
    rw [List.mem_singleton.mp hb]
    rintro rfl
    exact c.2 ha
  · exact h
theorem visit_nodup : ∀ (l : List Int) {f : List Nat}, f.Nodup → (visit l f).Nodup
  | [], f, h => h
  | o :: l, f, h => visit_nodup l (addN_nodup h o)
theorem addN_mem {f : List Nat} {o : Int} {c : Nat} (h : c ∈ addN f o) : c ∈ f ∨ (0 ≤ o ∧ c = o.toNat) := by
  unfold addN at h
  split at h
  · rename_i q
    rcases List.mem_append.mp h with h | h
    · exact .inl h
    · exact .inr ⟨q.1, List.mem_singleton.mp h⟩
  · exact .inl h
theorem visit_mem : ∀ {l : List Int} {f : List Nat} {c : Nat}, c ∈ visit l f → c ∈ f ∨ ∃ o ∈ l, 0 ≤ o ∧ c = o.toNat
  | [], f, c, h => .inl h
  | o :: l, f, c, h => by
    rcases visit_mem (l := l) (f := addN f o) h with h | ⟨u, hu, h⟩
    · rcases addN_mem h with h | h
      · exact .inl h
      · exact .inr ⟨o, List.mem_cons_self, h⟩
    · exact .inr ⟨u, List.mem_cons_of_mem _ hu, h⟩
theorem mem_visit : ∀ {l : List Int} {f : List Nat} {o : Int}, o ∈ l → 0 ≤ o → o.toNat ∈ visit l f
  | u :: l, f, o, h, h0 => by
    rcases List.mem_cons.mp h with rfl | h
    · obtain ⟨r, e⟩ := visit_sub l (addN f o)
      show o.toNat ∈ visit l (addN f o)
      rw [e]
      refine List.mem_append_left _ ?_
      unfold addN
      split
      · exact List.mem_append_right _ (List.mem_singleton.mpr rfl)
      · rename_i c
        exact Classical.not_not.mp fun z => c ⟨h0, z⟩
    · exact mem_visit (l := l) (f := addN f u) h h0
theorem bfsN_sub (p : Nat) : ∃ r, bfsN nb first (p + 1) = bfsN nb first p ++ r := by
  show ∃ r, (match (bfsN nb first p)[p]? with | none => bfsN nb first p | some c => visit (nb c) (bfsN nb first p)) = _
  cases (bfsN nb first p)[p]? with
  | none => exact ⟨[], (List.append_nil _).symm⟩
  | some c => exact visit_sub _ _
theorem bfsN_sub' {p q : Nat} (h : p ≤ q) : ∃ r, bfsN nb first q = bfsN nb first p ++ r := by
  induction q with
  | zero =>
    have : p = 0 := by omega
    subst this
    exact ⟨[], (List.append_nil _).symm⟩
  | succ q ih =>
    by_cases e : p = q + 1
    · subst e
      exact ⟨[], (List.append_nil _).symm⟩
    · obtain ⟨r, hr⟩ := ih (by omega)
      obtain ⟨r2, h2⟩ := bfsN_sub (nb := nb) (first := first) q
      exact ⟨r ++ r2, by rw [h2, hr, List.append_assoc]⟩
theorem bfsN_nodup (h : first.Nodup) : ∀ p, (bfsN nb first p).Nodup
  | 0 => h
  | p + 1 => by
    show (match (bfsN nb first p)[p]? with | none => bfsN nb first p | some c => visit (nb c) (bfsN nb first p)).Nodup
    cases (bfsN nb first p)[p]? with
    | none => exact bfsN_nodup h p
    | some c => exact visit_nodup _ (bfsN_nodup h p)
/-- a set of cells that holds the first ones and, with a cell, the cells across holds all that is found -/
theorem bfsN_within {S : Nat → Prop} (h0 : ∀ c ∈ first, S c) (hs : ∀ c, S c → ∀ o ∈ nb c, 0 ≤ o → S o.toNat) : ∀ p, ∀ c ∈ bfsN nb first p, S c
  | 0, c, hc => h0 c hc
  | p + 1, c, hc => by
    have ih := bfsN_within h0 hs p
    have hc : c ∈ (match (bfsN nb first p)[p]? with | none => bfsN nb first p | some c => visit (nb c) (bfsN nb first p)) := hc
    cases e : (bfsN nb first p)[p]? with
    | none =>
      rw [e] at hc
      exact ih c hc
    | some u =>
      rw [e] at hc
      have hu := ih u (List.mem_of_getElem? e)
      rcases visit_mem hc with hc | ⟨o, ho, h1, rfl⟩
      · exact ih c hc
      · exact hs u hu o ho h1
theorem bfsN_stop {p : Nat} (h : (bfsN nb first p).length ≤ p) : ∀ q, p ≤ q → bfsN nb first q = bfsN nb first p := by
  intro q hq
  induction q with
  | zero =>
    have : p = 0 := by omega
    subst this
    rfl
  | succ q ih =>
    by_cases e : p = q + 1
    · subst e
      rfl
    · have e1 := ih (by omega)
      show (match (bfsN nb first q)[q]? with | none => bfsN nb first q | some c => visit (nb c) (bfsN nb first q)) = _
      rw [e1, List.getElem?_eq_none (by omega)]
end
theorem len_of_sub {α : Type} [BEq α] [LawfulBEq α] : ∀ {l l2 : List α}, l.Nodup → (∀ c ∈ l, c ∈ l2) → l.length ≤ l2.length
  | [], _, _, _ => Nat.zero_le _
  | a :: l, l2, hn, h => by
    obtain ⟨h1, h2⟩ := List.pairwise_cons.mp hn
    have ha := h a List.mem_cons_self
    have ih := len_of_sub (l := l) (l2 := l2.erase a) h2 fun c hc => (List.mem_erase_of_ne (h1 c hc).symm).mpr (h c (List.mem_cons_of_mem _ hc))
    rw [List.length_erase_of_mem ha] at ih
    have := List.length_pos_of_mem ha
    rw [List.length_cons]
    omega
/-- distinct numbers below n are at most n -/
theorem nodup_len {l : List Nat} {n : Nat} (hn : l.Nodup) (h : ∀ c ∈ l, c < n) : l.length ≤ n := by
  have := len_of_sub hn (l2 := List.range n) fun c hc => List.mem_range.mpr (h c hc)
  rwa [List.length_range] at this
/-- behind the last place all that lies across is found -/
theorem bfsN_closed {nb : Nat → List Int} {first : List Nat} {N : Nat} (hl : (bfsN nb first N).length ≤ N) {c : Nat} (hc : c ∈ bfsN nb first N) {o : Int} (ho : o ∈ nb c) (h0 : 0 ≤ o) : o.toNat ∈ bfsN nb first N := by
  obtain ⟨p, hp⟩ := List.getElem?_of_mem hc
  have hpl : p < (bfsN nb first N).length := by
    rcases Nat.lt_or_ge p (bfsN nb first N).length with h | h
    · exact h
    · rw [List.getElem?_eq_none h] at hp
      cases hp
  -- the place p is looked at in the step from p to p + 1
  have key : ∀ q, p < (bfsN nb first q).length → (bfsN nb first q)[p]? = some c := by
    intro q hq
    rcases Nat.le_total q N with h | h
    · obtain ⟨r, e⟩ := bfsN_sub' (nb := nb) (first := first) h
      rw [e, List.getElem?_append_left hq] at hp
      exact hp
    · rw [bfsN_stop hl q h]
      exact hp
  by_cases hlen : p < (bfsN nb first p).length
  · have e1 : bfsN nb first (p + 1) = visit (nb c) (bfsN nb first p) := by
      show (match (bfsN nb first p)[p]? with | none => bfsN nb first p | some c => visit (nb c) (bfsN nb first p)) = _
      rw [key p hlen]
    have h1 : o.toNat ∈ bfsN nb first (p + 1) := by
      rw [e1]
      exact mem_visit ho h0
    obtain ⟨r, e⟩ := bfsN_sub' (nb := nb) (first := first) (show p + 1 ≤ N by omega)
    rw [e]
    exact List.mem_append_left _ h1
  · have e := bfsN_stop (nb := nb) (first := first) (p := p) (by omega) N (by omega)
    rw [e] at hpl
    exact absurd hpl hlen

/-! ### tuples stay, whatever else is written -/
def IsTup : HO → Prop
  | .tup _ => True
  | .frz _ (.tup _) => True
  | _ => False
def TExt (H H' : Hp) : Prop := ∀ c o, H c = some o → IsTup o → H' c = some o
theorem TExt.refl (H : Hp) : TExt H H := fun _ _ e _ => e
theorem TExt.trans {H H1 H2 : Hp} (a : TExt H H1) (b : TExt H1 H2) : TExt H H2 := fun c o e t => b c o (a c o e t) t
theorem Ext.t {H H' : Hp} (e : Ext H H') : TExt H H' := fun c o h _ => e c o h
theorem TExt.put {H : Hp} {a : Addr} {u o : HO} (h : H a = some u) (hu : ¬ IsTup u) : TExt H (upd H a o) := fun c v e t => by
  have : c ≠ a := by
    rintro rfl
    rw [h] at e
    cases e
    exact hu t
  rw [upd_ne this]
  exact e
theorem TExt.sqT {K : PySem.W.Frag} {H H' : Hp} {a : Addr} {xs : List V} (e : TExt H H') (h : SqT K H a xs) : SqT K H' a xs := by
  rcases h with (h | ⟨o, h⟩) | h
  · exact .inl (.inl (e _ _ h trivial))
  · exact .inl (.inr ⟨o, e _ _ h trivial⟩)
  · exact .inr h
mutual
/-- no list and no dict within -/
def tupOnly : PyData → Bool
  | .tuple ds => tupOnlyAll ds
  | .none | .bool _ | .int _ | .str _ => true
  | .list _ | .dict _ => false
def tupOnlyAll : List PyData → Bool
  | [] => true
  | d :: ds => tupOnly d && tupOnlyAll ds
end
mutual
theorem dp_text {K : PySem.W.Frag} {H H' : Hp} (e : TExt H H') : ∀ (d : PyData) (v : V), tupOnly d = true → Dp K H v d → Dp K H' v d
  | .none, _, _, h => by cases h; exact .non
  | .bool _, _, _, h => by cases h; exact .bl _
  | .int _, _, _, h => by cases h; exact .int _
  | .str _, _, _, h => by cases h; exact .str _
  | .list _, _, n, _ => by simp [tupOnly] at n
  | .dict _, _, n, _ => by simp [tupOnly] at n
  | .tuple ds, _, n, h => by
    simp only [tupOnly] at n
    cases h with
    | tup s r => exact .tup (e.sqT s) (dpAll_text e ds _ n r)
theorem dpAll_text {K : PySem.W.Frag} {H H' : Hp} (e : TExt H H') : ∀ (ds : List PyData) (vs : List V), tupOnlyAll ds = true → DpAll K H vs ds → DpAll K H' vs ds
  | [], _, _, h => by cases h; exact .nil
  | d :: ds, _, n, h => by
    simp only [tupOnlyAll, Bool.and_eq_true] at n
    cases h with
    | cons h1 h2 => exact .cons (dp_text e d _ n.1 h1) (dpAll_text e ds _ n.2 h2)
end
theorem tupOnlyAll_map {α : Type} (f : α → PyData) (h : ∀ a, tupOnly (f a) = true) : ∀ l : List α, tupOnlyAll (l.map f) = true
  | [] => by simp [tupOnlyAll]
  | a :: l => by simp [tupOnlyAll, h a, tupOnlyAll_map f h l]
theorem dpAll_append {K : PySem.W.Frag} {H : Hp} : ∀ {xs ys : List V} {ds es : List PyData}, DpAll K H xs ds → DpAll K H ys es → DpAll K H (xs ++ ys) (ds ++ es)
  | _, _, _, _, .nil, h => h
  | _, _, _, _, .cons a r, h => .cons a (dpAll_append r h)
theorem paired_append {α β : Type} {R : α → β → Prop} : ∀ {xs xs' : List α} {ys ys' : List β}, Paired R xs ys → Paired R xs' ys' → Paired R (xs ++ xs') (ys ++ ys')
  | _, _, _, _, .nil, h => h
  | _, _, _, _, .cons a r, h => .cons a (paired_append r h)
theorem paired_get {α β : Type} {R : α → β → Prop} : ∀ {xs : List α} {ys : List β}, Paired R xs ys → ∀ (i : Nat) (x : α), xs[i]? = some x → ∃ y, ys[i]? = some y ∧ R x y
  | _, _, .nil, i, x, e => by simp at e
  | _, _, .cons a r, 0, x, e => by
    simp only [List.getElem?_cons_zero, Option.some.injEq] at e
    subst e
    exact ⟨_, rfl, a⟩
  | _, _, .cons a r, i + 1, x, e => by
    simp only [List.getElem?_cons_succ] at e
    obtain ⟨y, h1, h2⟩ := paired_get r i x e
    exact ⟨y, by simpa using h1, h2⟩
/-- a dict comprehension over a walk -/
theorem dc_it {J : It} {n : Nat} {G : Hp → Prop} {Y : Nat → Hp → V → Hp → Prop} (w : Walk J n G Y) {g : TG} {tt : TT} {tk tv : TE} {vs : List Nat} {σ : L2.St} {H1 : Hp} {D : Addr} {Qd : Hp → Prop} (Pv : Nat → Hp → Prop) (h0 : Pv 0 (upd H1 D (.dK [])))
    (hG : ∀ i H, i ≤ n → Pv i H → G H)
    (hs : ∀ i x H H', i < n → Pv i H → Y i H x H' → g x (wipe σ vs) H' fun σ2 H2 => wipe σ2 vs = wipe σ vs ∧ tt σ2 H2 fun b H3 =>
      if b = true then tk σ2 H3 fun y H4 => tv σ2 H4 fun z H5 => ∃ kvs k, y = kV k ∧ H5 D = some (.dK kvs) ∧ kvs.length < sizeLine ∧ Pv (i + 1) (upd H5 D (.dK (putK kvs k z))) else Pv (i + 1) H3) (hd : ∀ H, Pv n H → Qd H) :
    ∃ W : Nat → Nat → Hp → Prop, (∃ m, W 0 m (upd H1 D (.dK []))) ∧ ∀ i m H, W i m H → (J.stop i H ∧ Qd H) ∨ (J.go i H ∧ ∃ Nx : Hp → Prop, (∀ H', Nx H' → ∃ m', m' < m ∧ W (i + 1) m' H') ∧
      ∀ x H', J.yld i H x H' → g x (wipe σ vs) H' fun σ2 H2 => wipe σ2 vs = wipe σ vs ∧ tt σ2 H2 fun b H3 =>
        if b = true then tk σ2 H3 fun y H4 => tv σ2 H4 fun z H5 => ∃ kvs k, y = kV k ∧ H5 D = some (.dK kvs) ∧ kvs.length < sizeLine ∧ Nx (upd H5 D (.dK (putK kvs k z))) else Nx H3) := by
  refine ⟨fun i m H => i ≤ n ∧ m + i = n ∧ Pv i H, ⟨n, Nat.zero_le _, rfl, h0⟩, ?_⟩
  rintro i m H ⟨hi, hm, pv⟩
  have hg := hG i H hi pv
  rcases Nat.lt_or_ge i n with lt | ge
  · exact .inr ⟨w.goes i H lt hg, Pv (i + 1), fun H' pv' => ⟨m - 1, by omega, by omega, by omega, pv'⟩, fun x H' yx => hs i x H H' lt pv (w.yields i H x H' lt hg yx)⟩
  · obtain rfl : i = n := by omega
    exact .inl ⟨w.stops H hg, hd H pv⟩
end Mc
/-! McSeq: comprehensions over walks, by what each turn makes; ports and wires in the heap. -/
namespace Mc
open PySem PySem.Spec PyProof.Rows L2
/-- a relation of values that looks at tuples alone -/
def TMono {α : Type} (R : Hp → V → α → Prop) : Prop := ∀ {H H' : Hp} {v : V} {a : α}, TExt H H' → R H v a → R H' v a
theorem TMono.paired {α : Type} {R : Hp → V → α → Prop} (m : TMono R) {H H' : Hp} {xs : List V} {l : List α} (e : TExt H H') (h : Paired (R H) xs l) : Paired (R H') xs l := L2.Paired.mapP h fun _ _ r => m e r
theorem keepH {H G' : Hp} {o : HO} {c : Addr} (e : Ext H G') (hc : H c = none) : Ext H (upd G' c o) := fun b u hb => by
  have : b ≠ c := fun z => by
    rw [z, hc] at hb
    cases hb
  rw [upd_ne this]
  exact e b u hb
theorem paired_snoc {α β : Type} {R : α → β → Prop} {xs : List α} {ys : List β} {x : α} {y : β} (h : Paired R xs ys) (r : R x y) : Paired R (xs ++ [x]) (ys ++ [y]) := paired_append h (.cons r .nil)
/-- a comprehension that makes new tuples alone; a turn may be passed over -/
theorem lc_ext {J : It} {n : Nat} {G : Hp → Prop} {Y : Nat → Hp → V → Hp → Prop} (w : Walk J n G Y) {α : Type} (R : Hp → V → α → Prop) (m : TMono R) (f : Nat → Option α) {g : TG} {tt : TT} {te : TE} {vs : List Nat} {σ : L2.St} {H1 : Hp} {D : Addr} {Qd : Hp → Prop}
    (hD : H1 D = none) (hn : n ≤ 1000000) (hG : ∀ H, Ext H1 H → G H)
    (hs : ∀ i x H H' (Qe : VK) (Qn : Hp → Prop), i < n → Ext H1 H → Y i H x H' → (∀ a, f i = some a → ∀ y H4, Ext H H4 → R H4 y a → Qe y H4) → (f i = none → ∀ H3, Ext H H3 → Qn H3) →
      g x (wipe σ vs) H' fun σ2 H2 => wipe σ2 vs = wipe σ vs ∧ tt σ2 H2 fun b H3 => if b = true then te σ2 H3 Qe else Qn H3)
    (hd : ∀ zs H, H D = some (.lst zs) → Paired (R H) zs ((List.range n).filterMap f) → Ext H1 H → Qd H) :
    ∃ W : Nat → Nat → Hp → Prop, (∃ m, W 0 m (upd H1 D (.lst []))) ∧ ∀ i m H, W i m H →
      (J.stop i H ∧ Qd H) ∨ (J.go i H ∧ ∃ Nx : Hp → Prop, (∀ H', Nx H' → ∃ m', m' < m ∧ W (i + 1) m' H') ∧ ∀ x H', J.yld i H x H' → g x (wipe σ vs) H' fun σ2 H2 => wipe σ2 vs = wipe σ vs ∧ tt σ2 H2 fun b H3 =>
        if b = true then te σ2 H3 fun y H4 => ∃ acc, H4 D = some (.lst acc) ∧ acc.length < sizeLine ∧ Nx (upd H4 D (.lst (acc ++ [y]))) else Nx H3) := by
  refine lc_it w (fun i H => ∃ zs, H D = some (.lst zs) ∧ Paired (R H) zs ((List.range i).filterMap f) ∧ Ext H1 H) ⟨[], upd_same, .nil, Ext.new hD⟩ (fun i H _ ⟨_, _, _, e⟩ => hG H e) ?_ ?_
  · rintro i x H H' hi ⟨zs, hz, hp, he⟩ hy
    have len : zs.length < sizeLine := by
      have h1 := Paired.length hp
      have h2 := List.length_filterMap_le f (List.range i)
      rw [List.length_range] at h2
      exact Nat.lt_of_lt_of_le (show zs.length < 1000001 by omega) (by decide)
    refine hs i x H H' _ _ hi he hy (fun a ha y H4 e4 r4 => ⟨zs, e4 _ _ hz, len, zs ++ [y], upd_same, ?_, keepH (he.trans e4) hD⟩) (fun hf H3 e3 => ⟨zs, e3 _ _ hz, ?_, he.trans e3⟩)
    · rw [List.range_succ, List.filterMap_append]
      have e : (List.filterMap f [i]) = [a] := by simp [ha]
      rw [e]
      have t : TExt H4 (upd H4 D (.lst (zs ++ [y]))) := TExt.put (e4 _ _ hz) fun z => z
      exact paired_snoc (m.paired (e4.t.trans t) hp) (m t r4)
    · rw [List.range_succ, List.filterMap_append]
      have e : (List.filterMap f [i]) = [] := by simp [hf]
      rw [e, List.append_nil]
      exact m.paired e3.t hp
  · rintro H ⟨zs, hz, hp, he⟩
    exact hd zs H hz hp he
theorem filterMap_some {α : Type} (f : Nat → α) (l : List Nat) : l.filterMap (fun i => some (f i)) = l.map f := by
  induction l with
  | nil => rfl
  | cons a l ih => simp
/-- .. no turn is passed over -/
theorem lc_all {J : It} {n : Nat} {G : Hp → Prop} {Y : Nat → Hp → V → Hp → Prop} (w : Walk J n G Y) {α : Type} (R : Hp → V → α → Prop) (m : TMono R) (f : Nat → α) {g : TG} {te : TE} {vs : List Nat} {σ : L2.St} {H1 : Hp} {D : Addr} {Qd : Hp → Prop}
    (hD : H1 D = none) (hn : n ≤ 1000000) (hG : ∀ H, Ext H1 H → G H)
    (hs : ∀ i x H H' (Qe : VK), i < n → Ext H1 H → Y i H x H' → (∀ y H4, Ext H H4 → R H4 y (f i) → Qe y H4) →
      g x (wipe σ vs) H' fun σ2 H2 => wipe σ2 vs = wipe σ vs ∧ te σ2 H2 Qe)
    (hd : ∀ zs H, H D = some (.lst zs) → Paired (R H) zs ((List.range n).map f) → Ext H1 H → Qd H) :
    ∃ W : Nat → Nat → Hp → Prop, (∃ m, W 0 m (upd H1 D (.lst []))) ∧ ∀ i m H, W i m H →
      (J.stop i H ∧ Qd H) ∨ (J.go i H ∧ ∃ Nx : Hp → Prop, (∀ H', Nx H' → ∃ m', m' < m ∧ W (i + 1) m' H') ∧ ∀ x H', J.yld i H x H' → g x (wipe σ vs) H' fun σ2 H2 => wipe σ2 vs = wipe σ vs ∧ tYes σ2 H2 fun b H3 =>
        if b = true then te σ2 H3 fun y H4 => ∃ acc, H4 D = some (.lst acc) ∧ acc.length < sizeLine ∧ Nx (upd H4 D (.lst (acc ++ [y]))) else Nx H3) := by
  refine lc_it w (fun i H => ∃ zs, H D = some (.lst zs) ∧ Paired (R H) zs ((List.range i).map f) ∧ Ext H1 H) ⟨[], upd_same, .nil, Ext.new hD⟩ (fun i H _ ⟨_, _, _, e⟩ => hG H e) ?_ ?_
  · rintro i x H H' hi ⟨zs, hz, hp, he⟩ hy
    have len : zs.length < sizeLine := by
      have h1 := Paired.length hp
      rw [List.length_map, List.length_range] at h1
      exact Nat.lt_of_lt_of_le (show zs.length < 1000001 by omega) (by decide)
    refine hs i x H H' _ hi he hy (fun y H4 e4 r4 => ⟨zs, e4 _ _ hz, len, zs ++ [y], upd_same, ?_, keepH (he.trans e4) hD⟩)
    rw [List.range_succ, List.map_append]
    have t : TExt H4 (upd H4 D (.lst (zs ++ [y]))) := TExt.put (e4 _ _ hz) fun z => z
    exact paired_snoc (m.paired (e4.t.trans t) hp) (m t r4)
  · rintro H ⟨zs, hz, hp, he⟩
    exact hd zs H hz hp he
/-! ### ports and wires -/
abbrev vI (c : Nat) : V := .int (c : Int)
abbrev kP (p : Port) : List Key := [.inl p.1, .inl p.2]
abbrev vP (p : Port) : List V := [.int p.1, .int p.2]
/-- v is a port -/
def PV (H : Hp) (v : V) (p : Port) : Prop := ∃ t, v = .ref t ∧ H t = some (.tup (vP p))
theorem pv_mono : TMono PV := fun e ⟨t, h1, h2⟩ => ⟨t, h1, e _ _ h2 trivial⟩
/-- v is a tuple of two ports -/
def WV (H : Hp) (v : V) (e : Port × Port) : Prop := ∃ t p r, v = V.ref t ∧ H t = some (.tup [.ref p, .ref r]) ∧ H p = some (.tup (vP e.1)) ∧ H r = some (.tup (vP e.2))
theorem wv_mono : TMono WV := fun e ⟨t, p, r, h1, h2, h3, h4⟩ => ⟨t, p, r, h1, e _ _ h2 trivial, e _ _ h3 trivial, e _ _ h4 trivial⟩
theorem pv_keys {H : Hp} : ∀ {xs : List V} {ps : List Port}, Paired (PV H) xs ps → KeysAt H xs (ps.map kP)
  | _, _, .nil => .nil
  | _, _, .cons ⟨t, h1, h2⟩ r => .cons ⟨t, h1, h2⟩ (pv_keys r)
/-- x is an int -/
def IV (_ : Hp) (v : V) (i : Int) : Prop := v = .int i
theorem iv_mono : TMono IV := fun _ h => h
def NV (_ : Hp) (v : V) (i : Nat) : Prop := v = vI i
theorem nv_mono : TMono NV := fun _ h => h
def SV (_ : Hp) (v : V) (x : Str) : Prop := v = .str x
theorem sv_mono : TMono SV := fun _ h => h
theorem paired_map {H : Hp} {α : Type} (g : α → V) : ∀ {xs : List V} {l : List α}, Paired (fun v a => v = g a) xs l → xs = l.map g
  | _, _, .nil => rfl
  | _, _, .cons h r => by rw [List.map_cons, ← paired_map (H := H) g r, h]
theorem paired_of_map {α β : Type} {R : α → β → Prop} (g : β → α) (h : ∀ b, R (g b) b) : ∀ l : List β, Paired R (l.map g) l
  | [] => .nil
  | b :: l => .cons (h b) (paired_of_map g h l)
theorem take_snoc {α : Type} {l : List α} {i : Nat} {c : α} (h : l[i]? = some c) : l.take (i + 1) = l.take i ++ [c] := by
  rw [List.take_succ, h]
  rfl
theorem rng0 {k : Nat} {x : V} (h : x = V.int (0 + (k : Int))) : x = vI k := by
  rw [h, Int.zero_add]
/-- a PySem size -/
theorem szl {m : Nat} (h : m < 1000000) : m < sizeLine := Nat.lt_of_lt_of_le h (by decide)
theorem sze {m : Nat} (h : m ≤ 1000000) : m ≤ sizeLine := Nat.le_trans h (by decide)
end Mc
/-! McRule: < and sorted of data of any depth, isinstance against a tuple of types, dict comprehensions with tuple keys. -/
namespace Mc
open PySem PySem.Spec PyProof.Rows L2
section
variable {X : Cx}
/-- x < y, data of any depth -/
def rLtD (K : PySem.W.Frag) : R2 := fun x y H Q => ∃ d e, Dp K H x d ∧ Dp K H y e ∧ PySem.W.alike d e = true ∧ d ≠ .none ∧ d.depth ≤ 60 ∧ Q (.bl (PySem.W.dataLt d e)) H
theorem op_ltD (hu : X.A.units + 64 < cLine) : OpR X (compareOp .Lt) (rLtD X.K) := by
  intro pins s σ H x y v u Q I rx ry h
  obtain ⟨d, e, hd, he, al, nn, dp, q⟩ := h
  obtain ⟨as, r1⟩ := Dp.reads I d x v hd rx
  obtain ⟨bs, r2⟩ := Dp.reads I e y u he ry
  exact PySem.W.lt_data r1 r2 al nn (by omega) ⟨.bl _, H, I, rfl, q⟩
/-- sorted(xs), the items data of any depth -/
def rSortedD (K : PySem.W.Frag) : List V → Hp → VK → Prop := fun vs H Q => ∃ (a : Addr) (xs : List V) (ds : List PyData), vs = [.ref a] ∧ SqL K H a xs ∧ DpAll K H xs ds ∧ PySem.W.AllAlike ds ∧ PySem.W.Sortable ds ∧ (∀ d ∈ ds, d.depth ≤ 60) ∧
  ∀ p, H p = none → Q (.ref p) (upd H p (.lst (((xs.zip ds).mergeSort (PySem.W.dataLe false Prod.snd)).map Prod.fst)))
theorem zip_snd {K : PySem.W.Frag} {H : Hp} : ∀ {xs : List V} {ds : List PyData}, DpAll K H xs ds → (xs.zip ds).map Prod.snd = ds
  | _, _, .nil => rfl
  | _, _, .cons _ r => congrArg (List.cons _) (zip_snd r)
theorem each_rel {K : PySem.W.Frag} {H : Hp} : ∀ {xs : List V} {ds : List PyData} {us : List Value}, DpAll K H xs ds → Vals xs us → PySem.W.EachIs (fun u (b : V × PyData) => RelV b.1 u) us (xs.zip ds)
  | _, _, _, .nil, .nil => .nil
  | _, _, _, .cons _ r, .cons h t => .cons h (each_rel r t)
theorem each_reads {pins : List (Addr × Obj)} {σ : L2.St} {H : Hp} {s : Shared} (I : Inv X pins σ H s) : ∀ {xs : List V} {ds : List PyData} {us : List Value}, DpAll X.K H xs ds → Vals xs us → PySem.W.EachIs (fun u (b : V × PyData) => ∃ as, Reads s.heap u b.2 as) us (xs.zip ds)
  | _, _, _, .nil, .nil => .nil
  | _, _, _, .cons d r, .cons h t => .cons (Dp.reads I _ _ _ d h) (each_reads I r t)
theorem vals_each : ∀ {us : List Value} {bs : List (V × PyData)}, PySem.W.EachIs (fun u (b : V × PyData) => RelV b.1 u) us bs → Vals (bs.map Prod.fst) us
  | _, _, .nil => .nil
  | _, _, .cons h t => .cons h (vals_each t)
theorem cr_sortedD (hu : X.A.units + 64 < cLine) : CallR X (.builtin "sorted") (rSortedD X.K) := by
  intro pins s σ H vs us Q I r h
  obtain ⟨a, xs, ds, rfl, hs, hd, hal, hk, hdp, q⟩ := h
  obtain ⟨its, rv, hl, hz⟩ := I.list hs
  obtain ⟨u, rfl, ru⟩ := vals1 r
  obtain rfl : u = Value.ref a := ru
  have en := zip_snd hd
  refine PySem.W.sorted_data (R := fun u (b : V × PyData) => RelV b.1 u) (enc := Prod.snd) (bs := xs.zip ds) hl.isList (each_rel hd rv) (each_reads I hd rv) (by rw [en]; exact hal) (by rw [en]; exact hk) ?_ (fun b hb => ?_) fun out ho ee => ?_
  · have h1 : (xs.zip ds).length ≤ xs.length := by
      rw [List.length_zip]
      omega
    omega
  · have hb2 : b.2 ∈ ds := by
      rw [← en]
      exact List.mem_map.mpr ⟨b, hb, rfl⟩
    have := hdp _ hb2
    omega
  · obtain ⟨n, hn⟩ := sortedAll_at s.heap its out.toArray
    refine ⟨.ref (s.heap.objs.size + 1), _, I.laid (a := s.heap.objs.size + 1) (o := .lst (((xs.zip ds).mergeSort (PySem.W.dataLe false Prod.snd)).map Prod.fst)) (t' := s.toks) (fun b o e => sortedAll_old e) (Nat.le_succ _) ⟨?_, out, n, vals_each ee, hn⟩, rfl, q _ (I.hok.fresh (Nat.le_succ _))⟩
    rw [List.length_map, List.length_mergeSort]
    have h1 : (xs.zip ds).length ≤ xs.length := by
      rw [List.length_zip]
      omega
    omega
/-- d[text], d a dict of the module -/
def rKd (K : PySem.W.Frag) (d : Addr) : R2 := fun x y H Q => ∃ (z : Str) (u0 : Value) (v0 : V), x = .ref d ∧ y = .str z ∧ PySem.W.nsIn K d z = some (some u0) ∧ RelV v0 u0 ∧ Q v0 H
theorem ix_kd {d : Addr} {es : Array DictEntry} {n : Nat} (D : KDict X.K X.w d es n) : IxR X (rKd X.K d) := by
  intro value slice pins s σ H x y v u Q I rx ry h hs
  obtain ⟨z, u0, v0, rfl, rfl, e, r, q⟩ := h
  have ev : v = Value.ref d := rx
  subst ev
  exact tail_any (kd_type D I) PySem.F.slot_dict_getitem.lookup (op_item_kd D pins s σ H (.ref d) (.str z) _ _ Q I rx ry ⟨z, u0, v0, rfl, rfl, e, r, q⟩) hs
/-- isinstance(x, (T, U)), x a datum -/
def rIsdT (K : PySem.W.Frag) : List V → Hp → VK → Prop := fun xs H Q => ∃ (x : V) (d : PyData) (tp : Addr) (m n : String) (b c : Bool), xs = [x, .ref tp] ∧ H tp = some (.tup [.ty m, .ty n]) ∧ Dq K H x d ∧ kitB (tyName d) m = some b ∧ kitB (tyName d) n = some c ∧ Q (.bl (b || c)) H
theorem call_isdT : CallR X (.builtin "isinstance") (rIsdT X.K) := by
  intro pins s σ H xs us Q I r h
  obtain ⟨x, d, tp, m, n, b, c, rfl, ht, hd, e1, e2, q⟩ := h
  refine call_isiT pins s σ H _ us Q I r ⟨x, tp, [.ty m, .ty n], .type (tyName d), [.type m, .type n], b || c, rfl, ht, .cons (.ty m) (.cons (.ty n) .nil), dq_ty hd, ?_, q⟩
  have k1 := kit_ty (K := X.K) e1
  have k2 := kit_ty (K := X.K) e2
  simp only [PySem.W.kitAny, k1, k2]
  cases b <;> cases c <;> rfl
end
end Mc
/-! McLinks: dicts by ports: from each port to a port; the ports that are due. -/
namespace Mc
open PySem PySem.Spec PyProof.Rows L2
theorem kP_inj {p q : Port} (h : kP p = kP q) : p = q := by
  have h1 : (Sum.inl p.1 : Key) = Sum.inl q.1 := by
    have := congrArg List.head? h
    simpa using this
  have h2 : [(Sum.inl p.2 : Key)] = [Sum.inl q.2] := List.tail_eq_of_cons_eq h
  have h3 : (Sum.inl p.2 : Key) = Sum.inl q.2 := by simpa using h2
  exact Prod.ext (Sum.inl.inj h1) (Sum.inl.inj h3)
/-- links as a dict's pairs -/
abbrev LinksAt (H : Hp) : List (List Key × V) → List (Port × Port) → Prop := Paired fun kv e => kv.1 = kP e.1 ∧ PV H kv.2 e.2
theorem links_ext {H H' : Hp} {kvs : List (List Key × V)} {es : List (Port × Port)} (h : LinksAt H kvs es) (e : TExt H H') : LinksAt H' kvs es := L2.Paired.mapP h fun _ _ ⟨a, b⟩ => ⟨a, pv_mono e b⟩
theorem links_keys {H : Hp} : ∀ {kvs : List (List Key × V)} {es : List (Port × Port)}, LinksAt H kvs es → kvs.map (·.1) = es.map fun e => kP e.1
  | _, _, .nil => rfl
  | _, _, .cons ⟨a, _⟩ r => by rw [List.map_cons, List.map_cons, links_keys r, a]
theorem valV_isSome {κ : Type} [DecidableEq κ] (kvs : List (κ × V)) (k : κ) : (valV kvs k).isSome = decide (k ∈ kvs.map (·.1)) := by
  cases h : valV kvs k with
  | none => exact (decide_eq_false (valV_not h)).symm
  | some v => exact (decide_eq_true (valV_in h)).symm
theorem links_some {H : Hp} {kvs : List (List Key × V)} {es : List (Port × Port)} (h : LinksAt H kvs es) (p : Port) : (valV kvs (kP p)).isSome = decide (p ∈ es.map Prod.fst) := by
  rw [valV_isSome, links_keys h]
  refine decide_eq_decide.mpr ⟨fun m => ?_, fun m => ?_⟩
  · obtain ⟨e, he, e2⟩ := List.mem_map.mp m
    exact List.mem_map.mpr ⟨e, he, kP_inj e2⟩
  · obtain ⟨e, he, rfl⟩ := List.mem_map.mp m
    exact List.mem_map.mpr ⟨e, he, rfl⟩
theorem links_none {H : Hp} {kvs : List (List Key × V)} {es : List (Port × Port)} (h : LinksAt H kvs es) {p : Port} (hp : p ∉ es.map Prod.fst) : valV kvs (kP p) = none := by
  have := links_some h p
  rw [decide_eq_false hp] at this
  exact Option.isNone_iff_eq_none.mp (by rw [← Option.not_isSome, this]; rfl)
theorem links_get {H : Hp} : ∀ {kvs : List (List Key × V)} {es : List (Port × Port)}, LinksAt H kvs es → (es.map Prod.fst).Nodup → ∀ e ∈ es, ∃ v, valV kvs (kP e.1) = some v ∧ PV H v e.2
  | _, _, .nil, _, e, he => absurd he List.not_mem_nil
  | kv :: kvs, e0 :: es, .cons ⟨a, b⟩ r, nd, e, he => by
    rw [List.map_cons, List.nodup_cons] at nd
    rcases List.mem_cons.mp he with rfl | he
    · exact ⟨kv.2, valV_pos a, b⟩
    · obtain ⟨v, h1, h2⟩ := links_get r nd.2 e he
      refine ⟨v, ?_, h2⟩
      rw [valV_neg]
      · exact h1
      · intro z
        rw [a] at z
        have := kP_inj z
        exact nd.1 (List.mem_map.mpr ⟨e, he, this.symm⟩)
theorem links_snoc {H : Hp} {kvs : List (List Key × V)} {es : List (Port × Port)} (h : LinksAt H kvs es) {p q : Port} {v : V} (hp : p ∉ es.map Prod.fst) (hv : PV H v q) : LinksAt H (putK kvs (kP p) v) (es ++ [(p, q)]) := by
  rw [putK_new _ (links_none h hp)]
  exact paired_snoc h ⟨rfl, hv⟩
theorem allT_mem (ks : List (List Key)) (k : List Key) : (valV (allT ks) k).isSome = true ↔ k ∈ ks := by
  have h : ∀ (ks : List (List Key)) (acc : List (List Key × V)), (valV (ks.foldl (fun acc k => putK acc k (.bl true)) acc) k).isSome = true ↔ k ∈ ks ∨ (valV acc k).isSome = true := by
    intro ks
    induction ks with
    | nil => intro acc; simp
    | cons k' ks ih =>
      intro acc
      rw [List.foldl_cons, ih, valV_put]
      by_cases e : k = k'
      · subst e; simp
      · simp [e]
  have := h ks []
  rw [allT, this]
  simp [valV_nil]
theorem allT_nodup {ks : List (List Key)} (hn : ks.Nodup) : (allT ks).length = ks.length := by
  have h : ∀ (ks : List (List Key)) (acc : List (List Key × V)), (ks).Nodup → (∀ k ∈ ks, valV acc k = none) → (ks.foldl (fun acc k => putK acc k (.bl true)) acc).length = acc.length + ks.length := by
    intro ks
    induction ks with
    | nil => intro acc _ _; rfl
    | cons k' ks ih =>
      intro acc hn ha
      rw [List.nodup_cons] at hn
      rw [List.foldl_cons, ih _ hn.2, putK_new _ (ha k' List.mem_cons_self), List.length_append, List.length_cons, List.length_cons]
      · simp only [List.length_nil]; omega
      · intro k hk
        rw [valV_put, if_neg, ha k (List.mem_cons_of_mem _ hk)]
        rintro rfl
        exact hn.1 hk
  have := h ks [] hn (fun _ _ => rfl)
  simpa [allT] using this
theorem allT_port (ps : List Port) (p : Port) : (valV (allT (ps.map kP)) (kP p)).isSome = decide (p ∈ ps) := by
  rw [Bool.eq_iff_iff, allT_mem, decide_eq_true_eq]
  refine ⟨fun m => ?_, fun m => List.mem_map.mpr ⟨p, m, rfl⟩⟩
  obtain ⟨e, he, e2⟩ := List.mem_map.mp m
  rw [← kP_inj e2]
  exact he
theorem allT_len_port {ps : List Port} (hn : ps.Nodup) : (allT (ps.map kP)).length = ps.length := by
  rw [allT_nodup, List.length_map]
  exact hn.map _ fun a b hab h => hab (kP_inj h)
end Mc
/-! McNet: the ports of a net, the links that its wires make. -/
namespace Mc
open PySem PySem.Spec PyProof.Rows L2
def cellPs (c : Nat) (x : Str) : List Port := (List.range (arS x)).map fun (k : Nat) => ((c : Int), (k : Int))
/-- all ports: the ends, then the cells' ports -/
def portsL (kd : List Str) (ends : Nat) : List Port := ((List.range ends).map fun (e : Nat) => ((-1 : Int), (e : Int))) ++ (kd.zipIdx.map fun q => cellPs q.2 q.1).flatten
theorem arS_le (x : Str) : arS x ≤ 3 := by
  unfold arS
  split <;> omega
theorem zipIdx_take_succ {α : Type} {l : List α} {i : Nat} {x : α} (h : l[i]? = some x) : (l.take (i + 1)).zipIdx = (l.take i).zipIdx ++ [(x, i)] := by
  have hi : i < l.length := (List.getElem?_eq_some_iff.mp h).1
  rw [take_snoc h, List.zipIdx_append]
  have e : (l.take i).length = i := by
    rw [List.length_take]
    omega
  rw [e]
  simp
theorem portsL_take {kd : List Str} {ends i : Nat} {x : Str} (h : kd[i]? = some x) : portsL (kd.take (i + 1)) ends = portsL (kd.take i) ends ++ cellPs i x := by
  unfold portsL
  rw [zipIdx_take_succ h, List.map_append, List.flatten_append, List.append_assoc]
  simp
theorem portsL_len (kd : List Str) (ends : Nat) : (portsL kd ends).length ≤ ends + 3 * kd.length := by
  have h : ∀ (l : List (Str × Nat)), ((l.map fun q => cellPs q.2 q.1).flatten).length ≤ 3 * l.length := by
    intro l
    induction l with
    | nil => simp
    | cons q l ih =>
      simp only [List.map_cons, List.flatten_cons, List.length_append, List.length_cons]
      have : (cellPs q.2 q.1).length ≤ 3 := by
        unfold cellPs
        rw [List.length_map, List.length_range]
        exact arS_le _
      omega
  have := h kd.zipIdx
  unfold portsL
  rw [List.length_append, List.length_map, List.length_range]
  rw [List.length_zipIdx] at this
  omega
theorem mem_cellPs {c : Nat} {x : Str} {p : Port} : p ∈ cellPs c x ↔ p.1 = (c : Int) ∧ 0 ≤ p.2 ∧ p.2 < arS x := by
  unfold cellPs
  constructor
  · intro h
    obtain ⟨k, hk, rfl⟩ := List.mem_map.mp h
    have := List.mem_range.mp hk
    exact ⟨rfl, Int.natCast_nonneg _, by show (k : Int) < _; omega⟩
  · rintro ⟨h1, h2, h3⟩
    refine List.mem_map.mpr ⟨p.2.toNat, List.mem_range.mpr (by omega), Prod.ext h1.symm ?_⟩
    show (p.2.toNat : Int) = p.2
    omega
/-- the ports of a net -/
def isPort (kd : List Str) (ends : Nat) (p : Port) : Prop := (p.1 = -1 ∧ 0 ≤ p.2 ∧ p.2 < ends) ∨ (0 ≤ p.1 ∧ p.1 < kd.length ∧ 0 ≤ p.2 ∧ p.2 < arS (kd.getD p.1.toNat ""))
theorem port_iff (G : Gr) (p : Port) : G.port p ↔ isPort G.kd G.ends p := Iff.rfl
theorem mem_portsL {kd : List Str} {ends : Nat} {p : Port} : p ∈ portsL kd ends ↔ isPort kd ends p := by
  unfold portsL isPort
  rw [List.mem_append]
  refine or_congr ⟨fun h => ?_, fun ⟨h1, h2, h3⟩ => ?_⟩ ⟨fun h => ?_, fun ⟨h1, h2, h3, h4⟩ => ?_⟩
  · obtain ⟨e, he, rfl⟩ := List.mem_map.mp h
    have := List.mem_range.mp he
    exact ⟨rfl, Int.natCast_nonneg _, by show (e : Int) < _; omega⟩
  · refine List.mem_map.mpr ⟨p.2.toNat, List.mem_range.mpr (by omega), Prod.ext h1.symm ?_⟩
    show (p.2.toNat : Int) = p.2
    omega
  · obtain ⟨l, hl, hp⟩ := List.mem_flatten.mp h
    obtain ⟨⟨x, c⟩, hq, rfl⟩ := List.mem_map.mp hl
    have hx := List.mk_mem_zipIdx_iff_getElem?.mp hq
    obtain ⟨a, b, c'⟩ := mem_cellPs.mp hp
    have hc : c < kd.length := (List.getElem?_eq_some_iff.mp hx).1
    rw [a, Int.toNat_natCast, List.getD_eq_getElem?_getD, hx]
    exact ⟨Int.natCast_nonneg _, by omega, b, c'⟩
  · have hc : p.1.toNat < kd.length := by omega
    refine List.mem_flatten.mpr ⟨cellPs p.1.toNat (kd.getD p.1.toNat ""), List.mem_map.mpr ⟨(kd.getD p.1.toNat "", p.1.toNat), List.mk_mem_zipIdx_iff_getElem?.mpr ?_, rfl⟩, mem_cellPs.mpr ⟨by omega, h3, h4⟩⟩
    rw [List.getD_eq_getElem?_getD, List.getElem?_eq_getElem hc]
    rfl
theorem portsL_nodup (kd : List Str) (ends : Nat) : (portsL kd ends).Nodup := by
  have cell_nodup : ∀ c x, (cellPs c x).Nodup := fun c x => by
    unfold cellPs
    refine (List.nodup_range).map _ fun a b hab h => hab ?_
    have := (Prod.mk.inj h).2
    omega
  have main : ∀ i, i ≤ kd.length → (portsL (kd.take i) ends).Nodup := by
    intro i
    induction i with
    | zero =>
      intro _
      have e : portsL (kd.take 0) ends = (List.range ends).map fun (e : Nat) => ((-1 : Int), (e : Int)) := by simp [portsL]
      rw [e]
      refine (List.nodup_range).map _ fun a b hab h => hab ?_
      have := (Prod.mk.inj h).2
      omega
    | succ i ih =>
      intro hi
      have hx : kd[i]? = some kd[i] := List.getElem?_eq_getElem (by omega)
      rw [portsL_take hx]
      refine List.nodup_append.mpr ⟨ih (by omega), cell_nodup _ _, fun a ha b hb => ?_⟩
      rintro rfl
      have h1 := mem_portsL.mp ha
      obtain ⟨h2, _⟩ := mem_cellPs.mp hb
      rcases h1 with ⟨h1, _⟩ | ⟨_, h1, _⟩
      · omega
      · rw [List.length_take] at h1
        omega
  have := main kd.length (Nat.le_refl _)
  rwa [List.take_length] at this
/-- the links that the wires make, in the order in which they are made -/
def linkF (due : List Port) : List (Port × Port) → List (Port × Port) → Option (List (Port × Port))
  | acc, [] => if acc.length = due.length then some acc else none
  | acc, (a, b) :: ws => if a ∈ acc.map Prod.fst ∨ b ∈ acc.map Prod.fst ∨ a ∉ due ∨ b ∉ due then none else linkF due (acc ++ [(a, b)] ++ [(b, a)]) ws
/-- the links of wires -/
def linksOf (ws : List (Port × Port)) : List (Port × Port) := (ws.map fun e => [e, (e.2, e.1)]).flatten
theorem linksOf_cons (a b : Port) (ws : List (Port × Port)) : linksOf ((a, b) :: ws) = (a, b) :: (b, a) :: linksOf ws := rfl
theorem linksOf_append (ws vs : List (Port × Port)) : linksOf (ws ++ vs) = linksOf ws ++ linksOf vs := by simp [linksOf]
theorem linkF_some {due : List Port} : ∀ {ws acc es : List (Port × Port)}, linkF due acc ws = some es → es = acc ++ linksOf ws ∧ es.length = due.length
  | [], acc, es, h => by
    unfold linkF at h
    split at h
    · cases h
      exact ⟨by simp [linksOf], by assumption⟩
    · cases h
  | (a, b) :: ws, acc, es, h => by
    unfold linkF at h
    split at h
    · cases h
    · obtain ⟨h1, h2⟩ := linkF_some h
      refine ⟨?_, h2⟩
      rw [h1, linksOf_cons]
      simp
theorem linkF_keys {due : List Port} : ∀ {ws acc es : List (Port × Port)}, linkF due acc ws = some es → (acc.map Prod.fst).Nodup → (∀ e ∈ ws, e.1 ≠ e.2) → (∀ p ∈ acc.map Prod.fst, p ∈ due) → (es.map Prod.fst).Nodup ∧ ∀ p ∈ es.map Prod.fst, p ∈ due
  | [], acc, es, h, hn, _, hd => by
    unfold linkF at h
    split at h
    · cases h
      exact ⟨hn, hd⟩
    · cases h
  | (a, b) :: ws, acc, es, h, hn, hne, hd => by
    unfold linkF at h
    split at h
    · cases h
    · rename_i c
      simp only [not_or, Classical.not_not] at c
      obtain ⟨c1, c2, c3, c4⟩ := c
      have hab : a ≠ b := hne (a, b) List.mem_cons_self
      refine linkF_keys h ?_ (fun e he => hne e (List.mem_cons_of_mem _ he)) ?_
      · rw [List.map_append, List.map_append]
        refine List.nodup_append.mpr ⟨List.nodup_append.mpr ⟨hn, List.pairwise_singleton _ _, ?_⟩, List.pairwise_singleton _ _, ?_⟩
        · intro x hx y hy
          have : y = a := by simpa using hy
          rintro rfl
          rw [this] at hx
          exact c1 hx
        · intro x hx y hy
          have : y = b := by simpa using hy
          rintro rfl
          subst this
          rcases List.mem_append.mp hx with hx | hx
          · exact c2 hx
          · have : x = a := by simpa using hx
            exact hab this.symm
      · intro p hp
        rw [List.map_append, List.map_append] at hp
        rcases List.mem_append.mp hp with hp | hp
        · rcases List.mem_append.mp hp with hp | hp
          · exact hd p hp
          · have : p = a := by simpa using hp
            rw [this]
            exact c3
        · have : p = b := by simpa using hp
          rw [this]
          exact c4
/-- the wires fit: each port that is due is on just one of them -/
structure Fits (due : List Port) (ws : List (Port × Port)) : Prop where
  perm : ((linksOf ws).map Prod.fst).Perm due
theorem linksOf_keys (ws : List (Port × Port)) : (linksOf ws).map Prod.fst = (ws.map fun e => [e.1, e.2]).flatten := by
  induction ws with
  | nil => rfl
  | cons e ws ih =>
    obtain ⟨a, b⟩ := e
    rw [linksOf_cons]
    simp [ih]
theorem linksOf_sym {ws : List (Port × Port)} {e : Port × Port} (h : e ∈ linksOf ws) : (e.2, e.1) ∈ linksOf ws := by
  unfold linksOf at h ⊢
  obtain ⟨l, hl, he⟩ := List.mem_flatten.mp h
  obtain ⟨u, hu, rfl⟩ := List.mem_map.mp hl
  refine List.mem_flatten.mpr ⟨_, List.mem_map.mpr ⟨u, hu, rfl⟩, ?_⟩
  rcases List.mem_cons.mp he with rfl | he
  · simp
  · have : e = (u.2, u.1) := by simpa using he
    subst this
    simp
theorem linksOf_ne {ws : List (Port × Port)} (h : ∀ e ∈ ws, e.1 ≠ e.2) {e : Port × Port} (he : e ∈ linksOf ws) : e.1 ≠ e.2 := by
  unfold linksOf at he
  obtain ⟨l, hl, he⟩ := List.mem_flatten.mp he
  obtain ⟨u, hu, rfl⟩ := List.mem_map.mp hl
  rcases List.mem_cons.mp he with rfl | he
  · exact h _ hu
  · have : e = (u.2, u.1) := by simpa using he
    subst this
    exact (h u hu).symm
theorem perm_of_len {α : Type} [BEq α] [LawfulBEq α] {l m : List α} (hl : l.Nodup) (hs : ∀ x ∈ l, x ∈ m) (hlen : m.length ≤ l.length) (hm : m.Nodup) : l.Perm m := by
  refine (List.perm_ext_iff_of_nodup hl hm).mpr fun x => ⟨hs x, fun hx => ?_⟩
  refine Classical.byContradiction fun hn => ?_
  have h1 : (x :: l).Nodup := List.nodup_cons.mpr ⟨hn, hl⟩
  have h2 : (x :: l).length ≤ m.length := len_of_sub h1 fun y hy => by
    rcases List.mem_cons.mp hy with rfl | hy
    · exact hx
    · exact hs y hy
  simp only [List.length_cons] at h2
  omega
theorem linkF_fits {due : List Port} {ws es : List (Port × Port)} (hd : due.Nodup) (hne : ∀ e ∈ ws, e.1 ≠ e.2) (h : linkF due [] ws = some es) : es = linksOf ws ∧ Fits due ws := by
  obtain ⟨h1, h2⟩ := linkF_some h
  obtain ⟨h3, h4⟩ := linkF_keys h List.nodup_nil hne (fun _ h => nomatch h)
  rw [List.nil_append] at h1
  subst h1
  exact ⟨rfl, ⟨perm_of_len h3 h4 (by rw [List.length_map, h2]; exact Nat.le_refl _) hd⟩⟩
theorem fits_linkF {due : List Port} : ∀ {ws acc : List (Port × Port)}, ((acc ++ linksOf ws).map Prod.fst).Perm due → due.Nodup → linkF due acc ws = some (acc ++ linksOf ws)
  | [], acc, h, hd => by
    unfold linkF
    rw [if_pos]
    · simp [linksOf]
    · have := h.length_eq
      simpa [linksOf] using this
  | (a, b) :: ws, acc, h, hd => by
    have hn := (h.nodup_iff).mpr hd
    rw [linksOf_cons] at h hn ⊢
    have e : acc ++ (a, b) :: (b, a) :: linksOf ws = (acc ++ [(a, b)] ++ [(b, a)]) ++ linksOf ws := by simp
    unfold linkF
    rw [if_neg, fits_linkF (by rw [← e]; exact h) hd, e]
    rw [List.map_append, List.nodup_append] at hn
    obtain ⟨n1, n2, n3⟩ := hn
    simp only [not_or, Classical.not_not]
    refine ⟨fun z => n3 a z a (by simp) rfl, fun z => n3 b z b (by simp) rfl, ?_, ?_⟩
    · exact h.mem_iff.mp (by simp)
    · exact h.mem_iff.mp (by simp)
/-- what lies across a port, by links -/
def acOf (es : List (Port × Port)) (p : Port) : Port := match es.find? (fun e => decide (e.1 = p)) with
  | some e => e.2
  | none => p
theorem acOf_mem {es : List (Port × Port)} (hn : (es.map Prod.fst).Nodup) {e : Port × Port} (he : e ∈ es) : acOf es e.1 = e.2 := by
  unfold acOf
  induction es with
  | nil => cases he
  | cons u es ih =>
    rw [List.map_cons, List.nodup_cons] at hn
    rcases List.mem_cons.mp he with rfl | he
    · simp
    · rw [List.find?_cons, decide_eq_false]
      · exact ih hn.2 he
      · intro z
        exact hn.1 (z ▸ List.mem_map.mpr ⟨e, he, rfl⟩)
def mkG (kd : List Str) (ends : Nat) (es : List (Port × Port)) : Gr := ⟨kd, ends, acOf es⟩
theorem mkG_ok {kd : List Str} {ends : Nat} {ws : List (Port × Port)} (hk : ∀ x ∈ kd, KindS x) (hl : kd.length ≤ 1000) (he : ends ≤ 12) (hne : ∀ e ∈ ws, e.1 ≠ e.2) (hf : Fits (portsL kd ends) ws) : (mkG kd ends (linksOf ws)).Ok := by
  have hn : ((linksOf ws).map Prod.fst).Nodup := (hf.perm.nodup_iff).mpr (portsL_nodup kd ends)
  have key : ∀ p, (mkG kd ends (linksOf ws)).port p → ∃ e ∈ linksOf ws, e.1 = p := fun p hp => by
    have h1 := mem_portsL.mpr ((port_iff _ p).mp hp)
    obtain ⟨e, h2, h3⟩ := List.mem_map.mp (hf.perm.mem_iff.mpr h1)
    exact ⟨e, h2, h3⟩
  have ac : ∀ e ∈ linksOf ws, (mkG kd ends (linksOf ws)).ac e.1 = e.2 := fun e h => acOf_mem hn h
  refine ⟨hk, hl, he, fun p hp => ?_, fun p hp => ?_, fun p hp => ?_⟩
  · obtain ⟨e, h1, rfl⟩ := key p hp
    rw [ac e h1]
    refine (port_iff _ _).mpr (mem_portsL.mp (hf.perm.mem_iff.mp (List.mem_map.mpr ⟨(e.2, e.1), linksOf_sym h1, rfl⟩)))
  · obtain ⟨e, h1, rfl⟩ := key p hp
    rw [ac e h1, ac (e.2, e.1) (linksOf_sym h1)]
  · obtain ⟨e, h1, rfl⟩ := key p hp
    rw [ac e h1]
    exact (linksOf_ne hne h1).symm
end Mc
/-! McCheck: what a kind, a word, a port, a wire is, of data; a for over a list or a tuple. -/
namespace Mc
open PySem PySem.Spec PyProof.Rows L2
def isColor : PyData → Bool
  | .str x => x == "red" || x == "blue"
  | _ => false
def isKind (d : PyData) : Bool := isColor d || match d with
  | .str x => x == "eraser"
  | _ => false
def isWord (d : PyData) (most : Int) : Bool := match d with
  | .str x => decide ((x.length : Int) ≤ most) && x.cps.toList.all fun c => c == 49 || c == 50
  | _ => false
def portOk (a b : Int) : Bool := decide (0 ≤ b) && (decide (a = -1) || (decide (0 ≤ a) && decide (b ≤ 2)))
def intOf : PyData → Option Int
  | .int i => some i
  | _ => none
def portTwo : Option Int → Option Int → Bool
  | some a, some b => portOk a b
  | _, _ => false
def portOf : List PyData → Bool
  | [a, b] => portTwo (intOf a) (intOf b)
  | _ => false
def isPortD : PyData → Bool
  | .tuple ds => portOf ds
  | _ => false
theorem portTwo_l (d1 d2 : PyData) (h : isInt d1 = false) : portTwo (intOf d1) (intOf d2) = false := by
  cases d1 <;> first | rfl | cases h
theorem portTwo_r (d1 d2 : PyData) (h : isInt d2 = false) : portTwo (intOf d1) (intOf d2) = false := by
  cases d2 <;> first | (cases d1 <;> rfl) | cases h
/-- a datum that is a port -/
theorem isPortD_ok {d : PyData} (h : isPortD d = true) : ∃ a b, d = .tuple [.int a, .int b] ∧ portOk a b = true := by
  cases d with
  | tuple ds =>
    match ds, h with
    | [x, y], h =>
      have h' : portTwo (intOf x) (intOf y) = true := h
      cases x <;> cases y <;> first | cases h' | exact ⟨_, _, rfl, h'⟩
  | _ => cases h
def wireOf : List PyData → Bool
  | [a, b] => isPortD a && (isPortD b && !PyData.eqv a b)
  | _ => false
def isWireD : PyData → Bool
  | .tuple ds => wireOf ds
  | _ => false
/-- the items of a list or a tuple -/
def itemsD : PyData → List PyData
  | .list l => l
  | .tuple l => l
  | _ => []
def isSeqD : PyData → Bool
  | .list _ => true
  | .tuple _ => true
  | _ => false
theorem kit_seq (d : PyData) : ∃ b c, kitB (tyName d) "list" = some b ∧ kitB (tyName d) "tuple" = some c ∧ (b || c) = isSeqD d := ⟨_, _, kit_lst d, kit_tup d, by cases d <;> rfl⟩
theorem dq_str {K : PySem.W.Frag} {H : Hp} {v : V} {x : Str} (h : Dq K H v (.str x)) : v = .str x := by
  cases h with
  | dp h => cases h; rfl
theorem dq_int {K : PySem.W.Frag} {H : Hp} {v : V} {i : Int} (h : Dq K H v (.int i)) : v = .int i := by
  cases h with
  | dp h => cases h; rfl
theorem dq_tup {K : PySem.W.Frag} {H : Hp} {v : V} {ds : List PyData} (h : Dq K H v (.tuple ds)) : ∃ a xs, v = .ref a ∧ SqT K H a xs ∧ DpAll K H xs ds := by
  cases h with
  | dp h =>
    cases h with
    | tup s r => exact ⟨_, _, rfl, s, r⟩
/-- a list or a tuple -/
def SqS (K : PySem.W.Frag) (H : Hp) (a : Addr) (xs : List V) : Prop := SqL K H a xs ∨ SqT K H a xs
theorem Ext.sqS {K : PySem.W.Frag} {H H' : Hp} {a : Addr} {xs : List V} (e : Ext H H') (h : SqS K H a xs) : SqS K H' a xs := h.elim (fun h => .inl (e.sqL h)) fun h => .inr (e.sqT h)
theorem dq_seq {K : PySem.W.Frag} {H : Hp} {v : V} {d : PyData} (h : Dq K H v d) (hd : isSeqD d = true) : ∃ a xs, v = .ref a ∧ SqS K H a xs ∧ DpAll K H xs (itemsD d) := by
  cases h with
  | dp h =>
    cases h with
    | lst s r => exact ⟨_, _, rfl, .inl s, r⟩
    | tup s r => exact ⟨_, _, rfl, .inr s, r⟩
    | _ => cases hd
  | dic _ => cases hd
theorem dpAll_len {K : PySem.W.Frag} {H : Hp} : ∀ {xs : List V} {ds : List PyData}, DpAll K H xs ds → xs.length = ds.length
  | _, _, .nil => rfl
  | _, _, .cons _ r => congrArg Nat.succ (dpAll_len r)
theorem dpAll_get {K : PySem.W.Frag} {H : Hp} : ∀ {xs : List V} {ds : List PyData}, DpAll K H xs ds → ∀ (i : Nat) (x : V), xs[i]? = some x → ∃ d, ds[i]? = some d ∧ Dp K H x d
  | _, _, .nil, i, x, e => by simp at e
  | _, _, .cons a r, 0, x, e => by
    simp only [List.getElem?_cons_zero, Option.some.injEq] at e
    subst e
    exact ⟨_, rfl, a⟩
  | _, _, .cons a r, i + 1, x, e => by
    simp only [List.getElem?_cons_succ] at e
    obtain ⟨y, h1, h2⟩ := dpAll_get r i x e
    exact ⟨y, by simpa using h1, h2⟩
theorem dpAll_two {K : PySem.W.Frag} {H : Hp} {xs : List V} {ds : List PyData} (h : DpAll K H xs ds) (h2 : xs.length = 2) : ∃ x y d1 d2, xs = [x, y] ∧ ds = [d1, d2] ∧ Dp K H x d1 ∧ Dp K H y d2 := by
  cases h with
  | nil => cases h2
  | cons hx h =>
    cases h with
    | nil => cases h2
    | cons hy h =>
      cases h with
      | nil => exact ⟨_, _, _, _, rfl, rfl, hx, hy⟩
      | cons _ _ => simp at h2
/-! ### a for over a list or a tuple -/
section
variable {X : Cx} {tg : Expr}
/-- whichever it is, a walk over its items, as long as what was tracked stays -/
def iSeq (K : PySem.W.Frag) (tl : TE) : TI := fun σ H R => tl σ H fun x H1 => ∃ a xs H0, x = .ref a ∧ SqS K H0 a xs ∧ Ext H0 H1 ∧ ∀ (J : It) (G : Hp → Prop), Walk J xs.length G (YAt xs) → (∀ H', Ext H0 H' → G H') → R J H1
theorem pi_seq {l : Expr} {tl : TE} (hl : PE X l tl) : PI X tg l (iSeq X.K tl) := by
  refine ⟨fun pins s σ H R I h => ?_⟩
  refine thn (hl.run pins s σ H _ I h) fun v s1 ⟨x, H1, I1, r1, q1⟩ => ?_
  obtain ⟨a, xs, H0, e, hq, e0, k⟩ := q1
  subst e
  cases r1
  rcases hq with hq | hq
  · have q := k _ _ walk_list fun H' e => e.sqL hq
    replace hq := e0.sqL hq
    obtain ⟨its, rv, p, hz⟩ := I1.list hq
    refine wpAny_pyIter_list p.isList ?_
    refine ⟨s1.heap.objs.size, [s1.heap.objs.size], _, _, H1, rfl, I1.kept (t' := s1.toks) fun b o e => Heap.get?_push_of_some _ e, turn_list a _, ⟨_, Heap.get?_push_size _ rfl, rfl, rfl⟩, fun b hb => ?_, q⟩
    have e : b = s1.heap.objs.size := by simpa using hb
    subst e
    exact I1.fpOk (Nat.le_refl _) (I1.hok.fresh (Nat.le_refl _))
  · have q := k _ _ walk_tup fun H' e => e.sqT hq
    replace hq := e0.sqT hq
    obtain ⟨its, rv, p, hz⟩ := I1.tuple hq
    refine wpAny_pyIter_tuple (show s1.heap.IsTuple a its.toArray from p) ?_
    refine ⟨s1.heap.objs.size, [s1.heap.objs.size], _, _, H1, rfl, I1.kept (t' := s1.toks) fun b o e => Heap.get?_push_of_some _ e, turn_tuple a _, ⟨_, Heap.get?_push_size _ rfl, rfl, rfl⟩, fun b hb => ?_, q⟩
    have e : b = s1.heap.objs.size := by simpa using hb
    subst e
    exact I1.fpOk (Nat.le_refl _) (I1.hok.fresh (Nat.le_refl _))
end
theorem len_seq {K : PySem.W.Frag} {H : Hp} {a : Addr} {xs : List V} (h : SqS K H a xs) : LenV K (.ref a) H xs.length := h.elim (fun h => .inl ⟨_, h, rfl⟩) fun h => .inr ⟨_, h, rfl⟩
end Mc
/-! McSort: sorted lists of data, by what the data say; ports and wires in order; heaps that change at some places. -/
namespace Mc
open PySem PySem.Spec PyProof.Rows L2
theorem zip_map {α β γ : Type} {R : α → β → Prop} (f : β → γ) : ∀ {xs : List α} {ys : List β}, Paired R xs ys → xs.zip (ys.map f) = (xs.zip ys).map fun q => (q.1, f q.2)
  | _, _, .nil => rfl
  | _, _, .cons _ r => congrArg (List.cons _) (zip_map f r)
theorem zip_all {α β : Type} {R : α → β → Prop} : ∀ {xs : List α} {ys : List β}, Paired R xs ys → ∀ q ∈ xs.zip ys, R q.1 q.2
  | _, _, .nil, q, h => by cases h
  | _, _, .cons a r, q, h => by
    rcases List.mem_cons.mp h with rfl | h
    · exact a
    · exact zip_all r q h
theorem zip_snd2 {α β : Type} {R : α → β → Prop} : ∀ {xs : List α} {ys : List β}, Paired R xs ys → (xs.zip ys).map Prod.snd = ys
  | _, _, .nil => rfl
  | _, _, .cons _ r => congrArg (List.cons _) (zip_snd2 r)
theorem paired_of {α β : Type} {R : α → β → Prop} : ∀ {l : List (α × β)}, (∀ q ∈ l, R q.1 q.2) → Paired R (l.map Prod.fst) (l.map Prod.snd)
  | [], _ => .nil
  | q :: l, h => .cons (h q List.mem_cons_self) (paired_of fun r hr => h r (List.mem_cons_of_mem _ hr))
/-- what sorted makes of values that are data by enc -/
theorem sorted_paired {α : Type} (enc : α → PyData) {R : V → α → Prop} {xs : List V} {os : List α} (h : Paired R xs os) :
    Paired R (((xs.zip (os.map enc)).mergeSort (PySem.W.dataLe false Prod.snd)).map Prod.fst) (os.mergeSort (PySem.W.dataLe false enc)) := by
  have e1 : (xs.zip (os.map enc)).mergeSort (PySem.W.dataLe false Prod.snd) = ((xs.zip os).mergeSort (PySem.W.dataLe false fun q : V × α => enc q.2)).map fun q => (q.1, enc q.2) := by
    rw [zip_map enc h]
    exact (List.map_mergeSort (f := fun q : V × α => (q.1, enc q.2)) (l := xs.zip os) (r := PySem.W.dataLe false fun q : V × α => enc q.2) (s := PySem.W.dataLe false Prod.snd) (fun a _ b _ => rfl)).symm
  have e2 : os.mergeSort (PySem.W.dataLe false enc) = ((xs.zip os).mergeSort (PySem.W.dataLe false fun q : V × α => enc q.2)).map Prod.snd := by
    have := List.map_mergeSort (f := Prod.snd) (l := xs.zip os) (r := PySem.W.dataLe false fun q : V × α => enc q.2) (s := PySem.W.dataLe false enc) (fun a _ b _ => rfl)
    rw [this, zip_snd2 h]
  rw [e1, e2, List.map_map]
  exact paired_of fun q hq => zip_all h q (List.mem_mergeSort.mp hq)
theorem dpAll_paired {α : Type} (enc : α → PyData) {K : PySem.W.Frag} {H : Hp} {R : V → α → Prop} (hR : ∀ v a, R v a → Dp K H v (enc a)) : ∀ {xs : List V} {os : List α}, Paired R xs os → DpAll K H xs (os.map enc)
  | _, _, .nil => .nil
  | _, _, .cons a r => .cons (hR _ _ a) (dpAll_paired enc hR r)
/-! ### ports and wires in order -/
def pLt (p q : Port) : Bool := decide (p.1 < q.1 ∨ (p.1 = q.1 ∧ p.2 < q.2))
def portD (p : Port) : PyData := .tuple [.int p.1, .int p.2]
def wireD (e : Port × Port) : PyData := .tuple [portD e.1, portD e.2]
def wLt (e f : Port × Port) : Bool := pLt e.1 f.1 || (decide (e.1 = f.1) && pLt e.2 f.2)
theorem pLt_iff {p q : Port} : pLt p q = true ↔ p.1 < q.1 ∨ (p.1 = q.1 ∧ p.2 < q.2) := by simp [pLt]
theorem pLt_false {p q : Port} : pLt p q = false ↔ ¬ (p.1 < q.1 ∨ (p.1 = q.1 ∧ p.2 < q.2)) := by
  unfold pLt
  exact decide_eq_false_iff_not
theorem port_ext {p q : Port} : p = q ↔ p.1 = q.1 ∧ p.2 = q.2 := ⟨fun h => by subst h; exact ⟨rfl, rfl⟩, fun ⟨a, b⟩ => Prod.ext a b⟩
theorem lexLt_port (p q : Port) : HT.lexLt [p.1, p.2] [q.1, q.2] = pLt p q := by
  rw [HT.lexLt_cons, HT.lexLt_cons, HT.lexLt_nil_nil, Bool.eq_iff_iff, pLt_iff]
  by_cases h1 : p.1 = q.1
  · rw [if_pos h1]
    by_cases h2 : p.2 = q.2
    · rw [if_pos h2]
      simp [h1, h2]
    · rw [if_neg h2, decide_eq_true_eq]
      omega
  · rw [if_neg h1, decide_eq_true_eq]
    omega
theorem eqv_port (p q : Port) : PyData.eqv (portD p) (portD q) = decide (p = q) := by
  have e : PyData.eqv (portD p) (portD q) = (decide (p.1 = q.1) && (decide (p.2 = q.2) && true)) := by
    unfold portD
    simp [PyData.eqv, PyData.eqvAll]
    rfl
  rw [e, Bool.eq_iff_iff]
  simp [port_ext]
theorem alike_port (p q : Port) : PySem.W.alike (portD p) (portD q) = true := by simp [portD, PySem.W.alike, PySem.W.alikeAll]
theorem dataLt_port (p q : Port) : PySem.W.dataLt (portD p) (portD q) = pLt p q := PySem.W.dataLt_ii _ _ _ _
theorem alike_wire (e f : Port × Port) : PySem.W.alike (wireD e) (wireD f) = true := by simp [wireD, PySem.W.alike, PySem.W.alikeAll, alike_port]
theorem dataLt_wire (e f : Port × Port) : PySem.W.dataLt (wireD e) (wireD f) = wLt e f := by
  unfold wireD
  rw [PySem.W.dataLt_pair (alike_port _ _) (alike_port _ _), eqv_port, eqv_port, dataLt_port, dataLt_port]
  unfold wLt
  rw [Bool.eq_iff_iff]
  by_cases h1 : e.1 = f.1
  · have n : pLt e.1 f.1 = false := by
      rw [pLt_false, h1]
      omega
    by_cases h2 : e.2 = f.2
    · have n2 : pLt e.2 f.2 = false := by
        rw [pLt_false, h2]
        omega
      simp [h1, h2, n, n2, pLt_false]
    · simp [h1, h2]
      have n : pLt f.1 f.1 = false := by
        rw [pLt_false]
        omega
      simp [n]
  · simp [h1]
theorem depth_wire (e : Port × Port) : (wireD e).depth ≤ 2 := by simp [wireD, portD, PyData.depth, PyData.depthAll]
theorem tup_wire (e : Port × Port) : tupOnly (wireD e) = true := by simp [wireD, portD, tupOnly, tupOnlyAll]
theorem wv_dp {K : PySem.W.Frag} {H : Hp} {v : V} {e : Port × Port} (h : WV H v e) : Dp K H v (wireD e) := by
  obtain ⟨t, p, r, rfl, h1, h2, h3⟩ := h
  exact .tup (.inl (.inl h1)) (.cons (.tup (.inl (.inl h2)) (.cons (.int _) (.cons (.int _) .nil))) (.cons (.tup (.inl (.inl h3)) (.cons (.int _) (.cons (.int _) .nil))) .nil))
theorem pv_dp {K : PySem.W.Frag} {H : Hp} {v : V} {p : Port} (h : PV H v p) : Dp K H v (portD p) := by
  obtain ⟨t, rfl, h1⟩ := h
  exact .tup (.inl (.inl h1)) (.cons (.int _) (.cons (.int _) .nil))
/-- wires, ascending -/
def wSort (l : List (Port × Port)) : List (Port × Port) := l.mergeSort (PySem.W.dataLe false wireD)
theorem wle_eq (e f : Port × Port) : PySem.W.dataLe false wireD e f = !wLt f e := by
  rw [PySem.W.dataLe_eq]
  show (!PySem.W.dataLt (wireD f) (wireD e)) = _
  rw [dataLt_wire]
theorem wLt_iff {e f : Port × Port} : wLt e f = true ↔ (e.1.1 < f.1.1 ∨ (e.1.1 = f.1.1 ∧ e.1.2 < f.1.2)) ∨ ((e.1.1 = f.1.1 ∧ e.1.2 = f.1.2) ∧ (e.2.1 < f.2.1 ∨ (e.2.1 = f.2.1 ∧ e.2.2 < f.2.2))) := by
  unfold wLt
  rw [Bool.or_eq_true, Bool.and_eq_true, pLt_iff, pLt_iff, decide_eq_true_eq, port_ext]
theorem wLt_false {e f : Port × Port} : wLt e f = false ↔ ¬ ((e.1.1 < f.1.1 ∨ (e.1.1 = f.1.1 ∧ e.1.2 < f.1.2)) ∨ ((e.1.1 = f.1.1 ∧ e.1.2 = f.1.2) ∧ (e.2.1 < f.2.1 ∨ (e.2.1 = f.2.1 ∧ e.2.2 < f.2.2)))) := by
  rw [← wLt_iff, Bool.not_eq_true]
theorem wSort_sorted (l : List (Port × Port)) : (wSort l).Pairwise fun e f => wLt f e = false := by
  have h := List.pairwise_mergeSort (le := PySem.W.dataLe false wireD) (fun a b c h1 h2 => by
    rw [wle_eq] at h1 h2 ⊢
    simp only [Bool.not_eq_true'] at h1 h2 ⊢
    rw [wLt_false] at h1 h2 ⊢
    omega) (fun a b => by
    rw [wle_eq, wle_eq]
    by_cases h : wLt b a = true
    · have : wLt a b = false := by
        rw [wLt_false]
        rw [wLt_iff] at h
        omega
      simp [this]
    · simp [h]) l
  refine h.imp fun {a b} hab => ?_
  rw [wle_eq] at hab
  simpa using hab
theorem wSort_perm (l : List (Port × Port)) : (wSort l).Perm l := List.mergeSort_perm l _
/-! ### heaps that change at some places -/
def XB (S : List Addr) (H G : Hp) : Prop := ∀ c o, c ∉ S → H c = some o → G c = some o
theorem XB.refl (S : List Addr) (H : Hp) : XB S H H := fun _ _ _ e => e
theorem XB.trans {S : List Addr} {H G F : Hp} (a : XB S H G) (b : XB S G F) : XB S H F := fun c o h e => b c o h (a c o h e)
theorem Ext.xb {H G : Hp} (e : Ext H G) (S : List Addr) : XB S H G := fun c o _ h => e c o h
theorem XB.put {S : List Addr} {H G : Hp} {a : Addr} {o : HO} (h : XB S H G) (ha : a ∈ S) : XB S H (upd G a o) := fun c u hc e => by
  have hne : c ≠ a := fun z => hc (z ▸ ha)
  rw [upd_ne hne]
  exact h c u hc e
theorem XB.new {S : List Addr} {H G : Hp} {p : Addr} {o : HO} (h : XB S H G) (hp : G p = none) : XB S H (upd G p o) := h.trans ((Ext.new hp).xb S)
theorem XB.text {S : List Addr} {H G : Hp} (h : XB S H G) (hS : ∀ a ∈ S, ∀ o, H a = some o → ¬ IsTup o) : TExt H G := fun c o e t => h c o (fun hc => hS c hc o e t) e
theorem XB.mono {S S' : List Addr} {H G : Hp} (h : XB S H G) (hs : ∀ a ∈ S, a ∈ S') : XB S' H G := fun c o hc e => h c o (fun z => hc (hs c z)) e
theorem XB.ext {S : List Addr} {H G : Hp} (h : XB S H G) (hS : ∀ a ∈ S, H a = none) : Ext H G := fun c o e => h c o (fun z => by rw [hS c z] at e; cases e) e
theorem XB.putN {S : List Addr} {H G : Hp} {a : Addr} {o : HO} (h : XB S H G) (ha : H a = none) : XB S H (upd G a o) := fun c u hc e => by
  have hne : c ≠ a := fun z => by rw [z, ha] at e; cases e
  rw [upd_ne hne]
  exact h c u hc e
theorem not_in1 {c a : Addr} (h : c ≠ a) : c ∉ [a] := fun z => h (List.mem_singleton.mp z)
theorem not_in2 {c a b : Addr} (h : c ≠ a) (h' : c ≠ b) : c ∉ [a, b] := fun z => by
  rcases List.mem_cons.mp z with z | z
  · exact h z
  · exact h' (List.mem_singleton.mp z)
end Mc
/-! McMake: C(e, .., k = v, ..) by a promise about the arguments alone; what is raised is wished for at the caller's slots. -/
namespace Mc
open PySem PySem.Spec PyProof.Rows L2
/-- n values, keywords ks: the class at cls makes what sp promises -/
structure MkR (P : Program) (w : World) (K : PySem.W.Frag) (mg : Str → Option Value) (base : Heap) (C : CXT) (k : Nat) (cls : Addr) (n : Nat) (ks : List Str) (sp : List V → List V → Hp → VK → XK → Prop) : Prop where
  ex : ∃ (f : Addr) (fd : FuncData) (ps : List Str) (g : List Value → List Value → List Value) (gV : List V → List V → List V) (sp0 : Sp), Mk K cls f ∧ FnOk P w K mg base C k f fd ps sp0 ∧ KBn K fd ps (n + 1) ks g gV ∧
    ∀ vs zs H Q E x dx, vs.length = n → zs.length = ks.length → sp vs zs H Q E → H x = none → H dx = none → dx ≠ x → sp0 (gV (.ref x :: vs) zs) (upd (upd H dx (.own x)) x (.ins cls dx [])) (fun v H2 => v = .non ∧ Q (.ref x) H2) E
def tMk (n m : Nat) (sp : List V → List V → Hp → VK → XK → Prop) (E : L2.St → XK) (t tk : TA) : TE := fun σ H Q => t σ H fun vs H1 => tk σ H1 fun zs H2 => vs.length = n ∧ zs.length = m ∧ sp vs zs H2 Q (E σ)
section
variable {X : Cx} {CX : CXT} {k n : Nat} {cls : Addr} {ks : List Str} {sp : List V → List V → Hp → VK → XK → Prop} {E : L2.St → XK} {x : Str} {p pos : Pos} {e : Expr} {es : List Expr} {kws : List Keyword} {t tk : TA}
theorem run_mkR {pins : List (Addr × Obj)} {σ : L2.St} {H : Hp} {s : Shared} {Q : VK} {us ws : List Value} {vs zs : List V} (M : MkR X.prog X.w X.K X.mg X.base CX k cls n ks sp) (hr : Room (k + 1) X.A) (hx : PassesAt CX X σ (E σ))
    (I : Inv X pins σ H s) (r : Vals vs us) (rz : Vals zs ws) (l1 : vs.length = n) (l2 : zs.length = ks.length) (h : sp vs zs H Q (E σ)) :
    wpAny (model X.prog X.w) X.A (call (.ref cls) us (ks.zip ws)) (EP X pins σ Q) X.xe s := by
  obtain ⟨f, fd, ps, g, gV, sp0, mk, F, hb, imp⟩ := M.ex
  have hq := imp vs zs H Q (E σ) (s.heap.objs.size + 1) s.heap.objs.size l1 l2 h (I.hok.fresh (Nat.le_succ _)) (I.hok.fresh (Nat.le_refl _)) (Nat.ne_of_lt (Nat.lt_succ_self _))
  have I2 := Inv.made (C := cls) I
  have r1 : Vals (V.ref (s.heap.objs.size + 1) :: vs) (Value.ref (s.heap.objs.size + 1) :: us) := .cons rfl r
  have r2 := hb.rel r1 rz
  have n1 : (Value.ref (s.heap.objs.size + 1) :: us).length = n + 1 := by
    rw [List.length_cons, ← r.length, l1]
  refine wpAny_call (make_map (f := f) I.kIn mk.makes mk.init (beq_iff_eq.mp mk.fn) (codeAny_mono (F.run _ X.stack _ _ ⟨Value.ref (s.heap.objs.size + 1) :: us, ks.zip ws⟩ (g (Value.ref (s.heap.objs.size + 1) :: us) ws) _ _ (E σ) (hr.make cls us (ks.zip ws))
    (I2.env0.make cls us (ks.zip ws)) (hb.to _ (Value.ref (s.heap.objs.size + 1) :: us) ws I2.kIn n1 (rz.length.symm.trans l2)) r2 hq) fun r s' hq' => ?_))
  cases r with
  | error e => exact hx pins _ _ e s' I2 hq'
  | ok fl =>
    cases fl with
    | ret u =>
      obtain ⟨v, H', I3, rv, ev, q3⟩ := I2.after hq'
      subst ev
      exact ⟨rv, ⟨V.ref (s.heap.objs.size + 1), H', I3, rfl, q3⟩⟩
    | next => exact False.elim hq'
    | brk => exact False.elim hq'
    | cont => exact False.elim hq'
/-- C(e, .., k = v, ..) -/
theorem pe_mkR (M : MkR X.prog X.w X.K X.mg X.base CX k cls n ks sp) (hr : Room (k + 1) X.A) (hg : Gl X x) (hm : X.mg x = some (.ref cls)) (hk : PySem.W.keepIn X.K (.ref cls) = true) (hx : ∀ σ, PassesAt CX X σ (E σ)) (ha : PA X (e :: es) t) (hkw : PK X kws tk)
    (hall : (backToKw pos (keywordEach kws X.env)).all (·.1.isSome) = true := by rfl) (hks : (backToKw pos (keywordEach kws X.env)).filterMap (·.1) = ks := by rfl) (hdb : (x == ("__debug__" : Str)) = false := by decide)
    (he : starEach (e :: es) X.env = (false, eval e X.env) :: starEach es X.env := by rfl) (hpl : ((backTo pos (starEach (e :: es) X.env)).any (·.1) || (backToKw pos (keywordEach kws X.env)).any (·.1.isNone)) = false := by rfl) :
    PE X (.Call (.Name x p) (e :: es) kws pos) (tMk n ks.length sp E t tk) := by
  refine ⟨fun pins s σ H Q I h => ?_⟩
  refine wpAny_Call_Name_kw (ld_glob I hg hm ?_ hdb)
  refine PySem.W.callWith_KW (h₀ := X.base) I.ok.mod.kin hk hall (thn (ha.run pos pins s σ H _ I h) fun us s1 ⟨vs, H1, I1, r, q⟩ => ?_) hpl he
  refine thn (hkw.run pos pins s1 σ H1 _ I1 q) fun ws s2 ⟨zs, H2, I2, rz, l1, l2, q2⟩ => ⟨I2.kIn, ?_⟩
  rw [hks]
  exact run_mkR M hr (hx σ) I2 r rz l1 l2 q2
/-- C(e, ..) -/
theorem pe_mkR0 (M : MkR X.prog X.w X.K X.mg X.base CX k cls n [] sp) (hr : Room (k + 1) X.A) (hg : Gl X x) (hm : X.mg x = some (.ref cls)) (hk : PySem.W.keepIn X.K (.ref cls) = true) (hx : ∀ σ, PassesAt CX X σ (E σ)) (ha : PA X (e :: es) t)
    (hdb : (x == ("__debug__" : Str)) = false := by decide) (he : starEach (e :: es) X.env = (false, eval e X.env) :: starEach es X.env := by rfl) (hpl : (backTo pos (starEach es X.env)).any (·.1) = false := by rfl) :
    PE X (.Call (.Name x p) (e :: es) [] pos) (tMk n 0 sp E t tNil) := by
  refine ⟨fun pins s σ H Q I h => ?_⟩
  refine wpAny_Call_Name_kw (ld_glob I hg hm ?_ hdb)
  refine PySem.W.callWith_K (h₀ := X.base) I.ok.mod.kin hk (thn (ha.run pos pins s σ H _ I h) fun us s1 ⟨vs, H1, I1, r, l1, l2, q⟩ => ⟨I1.kIn, ?_⟩) he hpl
  exact run_mkR (ks := []) (ws := []) (zs := []) M hr (hx σ) I1 r .nil l1 rfl q
end
end Mc
/-! McOwn: len(x), x[y], y in x, x.m(..) of an own class's instance, by the promise of its method. -/
namespace Mc
open PySem PySem.Spec PyProof.Rows L2
section
variable {X : Cx} {C : CXT} {k : Nat} {f cls : Addr} {sp : Sp} {E : L2.St → XK}
theorem inst_of {pins : List (Addr × Obj)} {σ : L2.St} {H : Hp} {s : Shared} {a dx : Addr} {fs : List (Str × V)} (I : Inv X pins σ H s) (h : H a = some (.ins cls dx fs)) : ∃ od, PySem.W.InstAt s.heap a (PySem.W.instObj cls dx) cls (some od) := by
  obtain ⟨mA, O, _⟩ := ins_get I.hok h
  obtain ⟨od, h1, _⟩ := O.look
  exact ⟨od, h1⟩
/-- len(x) -/
def rLenO (cls : Addr) (sp : Sp) : List V → Hp → VK → Prop := fun xs H Q => ∃ (a dx : Addr) (fs : List (Str × V)), xs = [.ref a] ∧ H a = some (.ins cls dx fs) ∧ sp [.ref a] H (fun v H' => ∃ n : Nat, v = .int (n : Int) ∧ n < 1000000 ∧ Q (.int (n : Int)) H') E0
theorem call_lenO (F : FnR X.prog X.w X.K X.mg X.base (L2.CX X.prog X.w) k f sp) (hr : Room (k + 1) X.A) (m : Meth X.K cls "__len__" f) : CallR X (.builtin "len") (rLenO cls sp) := by
  intro pins s σ H xs us Q I r h
  obtain ⟨a, dx, fs, rfl, ha, q⟩ := h
  obtain ⟨u, rfl, ru⟩ := vals1 r
  obtain rfl : u = Value.ref a := ru
  obtain ⟨od, J⟩ := inst_of I ha
  refine Calls.call_function_entry PySem.kind_len PySem.plain_len PySem.entry_len (PySem.args_len1 _) ?_
  unfold Builtin.«len»
  refine wpAny_bind (m := oneArg "len" _) (wpAny_pure ?_)
  refine wpAny_bind (m := callSpecial? (.ref a) (Str.ofString "__len__")) (PySem.W.special_fn I.kIn J m.at_ (beq_iff_eq.mp m.fn) (wpAny_mono (Q := EP X pins σ fun v H' => ∃ n : Nat, v = .int (n : Int) ∧ n < 1000000 ∧ Q (.int (n : Int)) H') (E := X.xe) ?_ (fun r s' hr => ?_) fun _ _ y => ?_))
  · refine wpAny_call (codeAny_mono (F X.A.in1 X.stack s H [.ref a] [.ref a] _ E0 hr.in1 I.env0.in1 (.cons rfl .nil) q) ?_)
    intro res s' hq
    cases res with
    | error er => exact pass_no (X := X) σ pins H s er s' I hq
    | ok fl =>
      cases fl with
      | ret u => exact I.after hq
      | next => exact hq.elim
      | brk => exact hq.elim
      | cont => exact hq.elim
  · obtain ⟨v, H', I', rv, n, rfl, hn, hq⟩ := hr
    obtain ⟨t, rfl⟩ := rv
    refine wpAny_bind (wpAny_holding (wpAny_pure ?_))
    refine wpAny_bind (wpAny_letGo ?_)
    show wpAny _ _ (if (n : Int) < 0 then _ else _) _ _ _
    rw [if_neg (by omega)]
    show wpAny _ _ (if (n : Int) ≥ 2 ^ 63 then _ else _) _ _ _
    rw [if_neg (by omega)]
    exact wpAny_bind (wpAny_mkInt (wpAny_pure ⟨_, rfl, ⟨.int (n : Int), H', I'.tok _, ⟨_, rfl⟩, hq⟩⟩))
  · exact y
end
section
variable {X : Cx} {C : CXT} {k : Nat} {f cls : Addr} {sp : Sp} {E : L2.St → XK} {a b : Expr} {pos : Pos} {ta tb : TE}
def tSubO (cls : Addr) (sp : Sp) (E : L2.St → XK) (ta tb : TE) : TE := fun σ H Q => ta σ H fun x H1 => tb σ H1 fun y H2 => ∃ (o dx : Addr) (fs : List (Str × V)), x = .ref o ∧ H2 o = some (.ins cls dx fs) ∧ sp [x, y] H2 Q (E σ)
/-- x[y] -/
theorem pe_subO (F : FnR X.prog X.w X.K X.mg X.base C k f sp) (hr : Room (k + 1) X.A) (m : Meth X.K cls "__getitem__" f) (hf : PySem.W.fnIn X.K f = true) (hx : ∀ σ, PassesAt C X σ (E σ)) (ha : PE X a ta) (hb : PE X b tb)
    (hsl : ∀ o i, subscripted b true o i = runValue (.builtin "lifetime.subscript" ⟨[o, i], []⟩) := by intro _ _; rfl) : PE X (.Subscript a b pos) (tSubO cls sp E ta tb) := by
  refine ⟨fun pins s σ H Q I h => ?_⟩
  refine Subscript_ (thn (ha.run pins s σ H _ I h) fun u s1 ⟨x, H1, I1, rx, q1⟩ => thn (hb.run pins s1 σ H1 _ I1 q1) fun iv s2 ⟨y, H2, I2, ry, o, dx, fs, ex, ho, q2⟩ => ?_)
  subst ex
  obtain rfl : u = Value.ref o := rx
  obtain ⟨od, J⟩ := inst_of I2 ho
  have KX := I2.kIn
  have hf' := hf
  unfold PySem.W.fnIn at hf'
  split at hf'
  · rename_i e
    unfold subscriptTail getitemInPython
    refine wpAny_bind (wpAny_bind (wpAny_bind (J.type.here ((PySem.W.looks_findIn KX m.at_).here ?_))))
    dsimp only
    refine wpAny_bind (wpAny_load (KX _ _ e) (wpAny_pure ?_))
    dsimp only
    rw [hsl]
    refine wpAny_bind (wpAny_runValue (codeAny_builtin PySem.W.entry_sub ?_))
    unfold Builtin.«lifetime.subscript»
    refine wpAny_bind (PySem.W.special_fn KX J m.at_ (beq_iff_eq.mp m.fn) (wpAny_mono (Q := EP X pins σ Q) (E := X.xe) ?_ (fun v s' z => ?_) fun _ _ z => z))
    · refine wpAny_call (codeAny_mono (F X.A.in1 X.stack s2 H2 [.ref o, iv] [.ref o, y] _ (E σ) hr.in1 I2.env0.in1 (.cons rfl (.cons ry .nil)) q2) ?_)
      intro res s' hq
      cases res with
      | error er => exact hx σ pins H2 s2 er s' I2 hq
      | ok fl =>
        cases fl with
        | ret u => exact I2.after hq
        | next => exact hq.elim
        | brk => exact hq.elim
        | cont => exact hq.elim
    · refine wpAny_pure ?_
      show wpAny (model X.prog X.w) X.A (letTemporaryGo a (.ref o) v >>= fun _ => pure v) _ X.xe s'
      exact wpAny_bind (wpAny_letTemporaryGo (wpAny_pure z))
  · cases hf'
/-- y in x: the answer is a truth -/
def tInO (cls : Addr) (sp : Sp) (neg : Bool) (ta tb : TE) : TE := fun σ H Q => ta σ H fun y H1 => tb σ H1 fun x H2 => ∃ (o dx : Addr) (fs : List (Str × V)), x = .ref o ∧ H2 o = some (.ins cls dx fs) ∧ sp [x, y] H2 (fun v H' => ∃ c, v = .bl c ∧ Q (.bl (xor neg c)) H') E0
end
section
variable {X : Cx} {C : CXT} {k : Nat} {f : Addr} {sp : Sp} {m : Str} {apos cpos : Pos} {o e : Expr} {es : List Expr} {to : TE} {t : TA} {E : L2.St → XK}
def tMeth (cls : Addr) (m : Str) (sp : Sp) (E : L2.St → XK) (to : TE) (t : TA) : TE := fun σ H Q => to σ H fun x H1 => ∃ (a dx : Addr) (fs : List (Str × V)), x = .ref a ∧ H1 a = some (.ins cls dx fs) ∧ fs.lookup m = none ∧ t σ H1 fun vs H2 => sp (x :: vs) H2 Q (E σ)
end
theorem fnIn_of {K : PySem.W.Frag} {x qual : Str} {params : Arguments} {body : List Stmt} {scope : Scope} {dvs : List V} {kws : List (Str × V)} {f : Addr} {fd : FuncData} (F : FunD K x qual params body scope dvs kws f fd) : PySem.W.fnIn K f = true := by
  obtain ⟨oc, od, dV, kV, doc, pm, an, cdv, ct, osl, rfl, lk, _⟩ := F.ex
  unfold PySem.W.fnIn
  rw [lk]
end Mc
/-! McPlain: ==, !=, in, not in, remove over data of any depth. -/
namespace Mc
open PySem PySem.Spec PyProof.Rows L2
mutual
theorem dp_plain {K : PySem.W.Frag} {H : Hp} : ∀ (d : PyData) (v : V), Dp K H v d → d.plain = true
  | .none, _, _ => rfl
  | .bool _, _, _ => rfl
  | .int _, _, _ => rfl
  | .str _, _, _ => rfl
  | .list ds, _, h => by
    cases h with
    | lst _ r => exact (by rw [PyData.plain]; exact dpAll_plain ds _ r)
  | .tuple ds, _, h => by
    cases h with
    | tup _ r => exact (by rw [PyData.plain]; exact dpAll_plain ds _ r)
  | .dict _, _, h => by cases h
theorem dpAll_plain {K : PySem.W.Frag} {H : Hp} : ∀ (ds : List PyData) (vs : List V), DpAll K H vs ds → PyData.plainAll ds = true
  | [], _, _ => rfl
  | d :: ds, _, h => by
    cases h with
    | cons h1 h2 => rw [PyData.plainAll, dp_plain d _ h1, dpAll_plain ds _ h2]; rfl
end
section
variable {X : Cx}
def rEqP (K : PySem.W.Frag) : R2 := fun x y H Q => ∃ d e, Dp K H x d ∧ Dp K H y e ∧ d.depth ≤ 60 ∧ Q (.bl (PyData.eqv d e)) H
def rNeP (K : PySem.W.Frag) : R2 := fun x y H Q => ∃ d e, Dp K H x d ∧ Dp K H y e ∧ d.depth ≤ 60 ∧ Q (.bl (!PyData.eqv d e)) H
theorem op_eqP (hu : X.A.units + 64 < cLine) : OpR X (compareOp .Eq) (rEqP X.K) := by
  intro pins s σ H x y v u Q I rx ry h
  obtain ⟨d, e, hd, he, dp, q⟩ := h
  obtain ⟨as, r1⟩ := Dp.reads I d x v hd rx
  obtain ⟨bs, r2⟩ := Dp.reads I e y u he ry
  exact SeqAt.eq_plain r1 r2 (dp_plain d x hd) (dp_plain e y he) (by omega) ⟨.bl _, H, I, rfl, q⟩
theorem op_neP (hu : X.A.units + 64 < cLine) : OpR X (compareOp .NotEq) (rNeP X.K) := by
  intro pins s σ H x y v u Q I rx ry h
  obtain ⟨d, e, hd, he, dp, q⟩ := h
  obtain ⟨as, r1⟩ := Dp.reads I d x v hd rx
  obtain ⟨bs, r2⟩ := Dp.reads I e y u he ry
  exact SeqAt.ne_plain r1 r2 (dp_plain d x hd) (dp_plain e y he) (by omega) ⟨.bl _, H, I, rfl, q⟩
/-- x in y, a list or a tuple -/
def rInP (K : PySem.W.Frag) (neg : Bool) : R2 := fun x y H Q => ∃ d e ds, Dp K H x d ∧ Dp K H y e ∧ (e = .list ds ∨ e = .tuple ds) ∧ d.depth ≤ 60 ∧ Q (.bl (xor neg (ds.any fun z => PyData.eqv z d))) H
theorem op_inP (hu : X.A.units + 64 < cLine) : OpR X (compareOp .In) (rInP X.K false) := by
  intro pins s σ H x y v u Q I rx ry h
  obtain ⟨d, e, ds, hd, he, hs, dp, q⟩ := h
  obtain ⟨as, r1⟩ := Dp.reads I d x v hd rx
  obtain ⟨bs, r2⟩ := Dp.reads I e y u he ry
  have pl := dp_plain e y he
  rw [Bool.false_xor] at q
  rcases hs with rfl | rfl
  · exact SeqAt.in_list_data r2 r1 (by rwa [PyData.plain] at pl) (dp_plain d x hd) (by omega) ⟨.bl _, H, I, rfl, q⟩
  · exact SeqAt.in_tuple_data r2 r1 (by rwa [PyData.plain] at pl) (dp_plain d x hd) (by omega) ⟨.bl _, H, I, rfl, q⟩
theorem op_notInP (hu : X.A.units + 64 < cLine) : OpR X (compareOp .NotIn) (rInP X.K true) := by
  intro pins s σ H x y v u Q I rx ry h
  obtain ⟨d, e, ds, hd, he, hs, dp, q⟩ := h
  obtain ⟨as, r1⟩ := Dp.reads I d x v hd rx
  obtain ⟨bs, r2⟩ := Dp.reads I e y u he ry
  have pl := dp_plain e y he
  rw [Bool.true_xor] at q
  rcases hs with rfl | rfl
  · exact SeqAt.notIn_list_data r2 r1 (by rwa [PyData.plain] at pl) (dp_plain d x hd) (by omega) ⟨.bl _, H, I, rfl, q⟩
  · exact SeqAt.notIn_tuple_data r2 r1 (by rwa [PyData.plain] at pl) (dp_plain d x hd) (by omega) ⟨.bl _, H, I, rfl, q⟩
/-- l.remove(y), y in it -/
def rRemD (K : PySem.W.Frag) : V → List V → Hp → VK → Prop := fun x vs H Q => ∃ (l : Addr) (xs : List V) (ds : List PyData) (y : V) (d : PyData) (j : Nat), x = .ref l ∧ vs = [y] ∧ H l = some (.lst xs) ∧ DpAll K H xs ds ∧ Dp K H y d ∧ d.depth ≤ 60 ∧
  SeqAt.dataPlace ds d = some j ∧ Q .non (upd H l (.lst (xs.eraseIdx j)))
theorem mt_removeD (hu : X.A.units + 64 < cLine) : MtM X "list.remove" (rRemD X.K) := by
  intro pins s σ H x vs v us Q I rx rv h
  obtain ⟨l, xs, ds, y, d, j, rfl, rfl, hH, hds, hd, dp, hj, q⟩ := h
  cases rx
  obtain ⟨u, rfl, ru⟩ := rv.one
  obtain ⟨as, r1⟩ := Dp.reads I d y u hd ru
  obtain ⟨bs, r2⟩ := Dp.reads I (.list ds) (.ref l) (.ref l) (.lst (SqL.of hH) hds) rfl
  have pl := dpAll_plain ds xs hds
  obtain ⟨z, its, n, r, hl, e⟩ := I.lstM hH
  cases r2 with
  | list h1 h2 h3 h4 =>
    rw [e] at h1
    cases h1
    cases h3
    refine SeqAt.remove_list_data (l := l) (vs := its.toArray) ⟨_, e, rfl, _, rfl⟩ h4 r1 pl (dp_plain d y hd) (by omega) hj (by rw [List.size_toArray]; omega) ?_
    refine ⟨.non, _, I.lset (its' := its.eraseIdx j) (t' := s.toks) hH e ?_ (r.eraseIdx j) ?_, rfl, q⟩
    · show its.toArray.eraseIdxIfInBounds j = (its.eraseIdx j).toArray
      rw [List.eraseIdxIfInBounds_toArray]
    · have := List.length_eraseIdx_le xs j
      omega
end
/-! ### ports in lists of ports -/
theorem eqv_ports (l : List Port) (p : Port) : ((l.map portD).any fun z => PyData.eqv z (portD p)) = decide (p ∈ l) := by
  induction l with
  | nil => rfl
  | cons a l ih =>
    rw [List.map_cons, List.any_cons, ih, eqv_port, Bool.eq_iff_iff]
    simp only [Bool.or_eq_true, decide_eq_true_eq, List.mem_cons]
    exact or_congr eq_comm Iff.rfl
theorem place_ports {l : List Port} {p : Port} (h : p ∈ l) : SeqAt.dataPlace (l.map portD) (portD p) = some (l.idxOf p) := by
  unfold SeqAt.dataPlace
  induction l with
  | nil => cases h
  | cons a l ih =>
    rw [List.map_cons, List.findIdx?_cons, eqv_port]
    by_cases e : a = p
    · rw [decide_eq_true e, if_pos rfl, e]
      simp
    · rw [decide_eq_false e, if_neg (by decide)]
      rcases List.mem_cons.mp h with z | h
      · exact absurd z.symm e
      · rw [ih h, List.idxOf_cons, beq_eq_false_iff_ne.mpr e]
        rfl
theorem eraseIdx_paired {α β : Type} {R : α → β → Prop} : ∀ {xs : List α} {ys : List β} (j : Nat), Paired R xs ys → Paired R (xs.eraseIdx j) (ys.eraseIdx j)
  | _, _, _, .nil => .nil
  | _, _, 0, .cons _ r => r
  | _, _, j + 1, .cons a r => .cons a (eraseIdx_paired j r)
theorem eqv_nil (ds : List PyData) : PyData.eqv (.list ds) (.list []) = decide (ds = []) := by
  cases ds with
  | nil => simp [PyData.eqv, PyData.eqvAll]
  | cons d ds => simp [PyData.eqv, PyData.eqvAll]
theorem depthAll_ports : ∀ l : List Port, PyData.depthAll (l.map portD) ≤ 1
  | [] => by simp [PyData.depthAll]
  | a :: l => by
    have := depthAll_ports l
    simp only [List.map_cons, PyData.depthAll, portD, PyData.depth]
    omega
theorem depth_ports (l : List Port) : (PyData.list (l.map portD)).depth ≤ 60 := by
  have := depthAll_ports l
  simp only [PyData.depth]
  omega
end Mc
/-! McTry: several except clauses, each with a name or without. -/
namespace Mc
open PySem PySem.Spec PyProof.Rows L2

/-- a clause's class, its name's slot (if it has one), its suite's reading -/
abbrev Clause : Type := Value × Option Nat × (Addr → Value → Option Addr → TS)
/-- behind a suite the clause's name is gone -/
def gone (i : Nat) (D : Ends) : Ends where
  nx := fun τ G => D.nx (τ.set i none) G
  rt := D.rt
  bk := fun τ G => D.bk (τ.set i none) G
  ct := fun τ G => D.ct (τ.set i none) G
def wMix (K : PySem.W.Frag) (Wout : WX) (D : Ends) : List Clause → WX
  | [] => Wout
  | (c, none, ts) :: r => fun cls d σ H => ∃ b, PySem.W.exmOne K cls c = some b ∧
      (b = true → ∀ a, H a = none → ts a cls d D σ H) ∧ (b = false → wMix K Wout D r cls d σ H)
  | (c, some i, ts) :: r => fun cls d σ H => ∃ b, PySem.W.exmOne K cls c = some b ∧
      (b = true → ∀ a, H a = none → ts a cls d (gone i D) (σ.set i (some (.ref a))) H) ∧ (b = false → wMix K Wout D r cls d σ H)
/-- a suite by its reading -/
def SuiteOk (X : Cx) (suite : List Stmt) (ts : Addr → Value → Option Addr → TS) : Prop :=
  ∀ (a : Addr) (oe : Obj) (cls : Value) (d : Option Addr) (pn : List (Addr × Obj)), Zc cls d oe → (∃ vs, oe.data = .fields vs) → PSs (X.suite a ((a, oe) :: pn)) suite (ts a cls d)
inductive HdsMix (X : Cx) : List ExceptHandler → List Clause → Prop
  | nil : HdsMix X [] []
  | bare {x : Str} {c : Value} {ts : Addr → Value → Option Addr → TS} {b0 : Stmt} {su : List Stmt} {np hp : Pos} {hds : List ExceptHandler} {l : List Clause}
      (hc : Names X x c) (hsu : SuiteOk X (b0 :: su) ts) (r : HdsMix X hds l) : HdsMix X (.ExceptHandler (some (.Name x np)) none (b0 :: su) hp :: hds) ((c, none, ts) :: l)
  | named {x n : Str} {i : Nat} {c : Value} {ts : Addr → Value → Option Addr → TS} {b0 : Stmt} {su : List Stmt} {np hp : Pos} {hds : List ExceptHandler} {l : List Clause}
      (hi : X.N[i]? = some n) (hl : X.env.kindOf n = some .local) (hc : Names X x c) (hsu : SuiteOk X (b0 :: su) ts) (r : HdsMix X hds l) :
      HdsMix X (.ExceptHandler (some (.Name x np)) (some n) (b0 :: su) hp :: hds) ((c, some i, ts) :: l)

section
variable {X : Cx} {body : List Stmt} {h₀ : ExceptHandler} {hds : List ExceptHandler} {l : List Clause} {pos : Pos} {tb : WX → TS} {Wout : WX}
theorem ps_try_mix (hs : X.stack = X.env :: X.outer) (hf : X.env.frame = some X.env.locals) (hN : X.N.Nodup) (tk : Takes X Wout)
    (hb : ∀ (W : WX) (pn : List (Addr × Obj)) (xe : Value → Shared → Prop), Takes (X.tr pn xe) W → PassesOwn (model X.prog X.w) X.A X.env xe → PSs (X.tr pn xe) body (tb W))
    (hh : HdsMix X (h₀ :: hds) l) : PS X (.Try body (h₀ :: hds) [] [] pos) (fun D σ H => tb (wMix X.K Wout D l) D σ H) := by
  constructor
  intro pins s σ H D I h
  have ok := I.ok
  have hfr : X.A.frames = some (X.env :: X.outer) := hs ▸ ok.frames
  refine wpAny_Try_except ?_
  refine wpAny_mono ((hb (wMix X.K Wout D l) (X.pn ++ pins) (fun e s₁ => wpAny (model X.prog X.w) X.A (noteFrame e X.env) (fun _ s₂ => wpAny (model X.prog X.w) X.A (setFlight e none)
    (fun _ s₃ => wpAny (model X.prog X.w) X.A (handleBy e X.env (h₀ :: hds)) (SP X pins D) X.xe s₃) X.xe s₂) X.xe s₁) ?caught PassesOwn.looking).run [] s σ H D (I.toTry _) h) ?done (fun e s1 he => he)
  case done =>
    intro f s1 hsp
    cases f with
    | ret u =>
      obtain ⟨v, σ', H', J', r, q⟩ := hsp
      exact ⟨v, σ', H', J'.ofTry ok, r, q⟩
    | next =>
      obtain ⟨σ', H', J', q⟩ := hsp
      refine wpAny_execs_nil ⟨σ', H', J'.ofTry ok, q⟩
    | brk =>
      obtain ⟨σ', H', J', q⟩ := hsp
      refine ⟨σ', H', J'.ofTry ok, q⟩
    | cont =>
      obtain ⟨σ', H', J', q⟩ := hsp
      refine ⟨σ', H', J'.ofTry ok, q⟩
  case caught =>
    rintro u s' ⟨a, B, sI, pins', σ', H', cls, d, rfl, J', nb, up, sky, na, os, ag, wish⟩
    have J : Inv X pins σ' H' sI := J'.ofTry ok
    show wpAny (model X.prog X.w) X.A (noteFrame (.ref a) X.env) _ _ _
    refine Sky.land Zc.steady hfr hf (hs ▸ sky) ?_
    intro h3 fl3 up3
    have J3 : Inv X pins σ' H' { s' with heap := h3 } := J.landed nb fl3.1 (up.trans up3) os ag
    obtain ⟨oe3, vs3, he3, hz3, hd3⟩ := fl3.there
    have nfr : a ∉ frs (X.env :: X.outer) := by
      intro hm
      obtain ⟨_, o', e', hnf⟩ := fl3.2.2.1.mem hm
      rw [he3] at e'
      cases e'
      exact hnf _ hd3
    have nL : a ≠ X.env.locals := fun z => nfr (List.mem_filterMap.mpr ⟨X.env, List.mem_cons_self, hf.trans (congrArg some z.symm)⟩)
    have nF : a ∉ X.fs := by
      intro hm
      obtain ⟨e, he, q⟩ := List.mem_filterMap.mp hm
      exact nfr (List.mem_filterMap.mpr ⟨e, List.mem_cons_of_mem _ he, q⟩)
    have S3 := J3.suite he3 hd3 na nL nF
    -- a clause's test
    have test : ∀ {x : Str} {c : Value} {np : Pos} {Q : Value → Shared → Prop} {E : Value → Shared → Prop}, Names X x c → Q c { s' with heap := h3 } →
        wpAny (model X.prog X.w) (X.A.mark (some (.ref a))) (eval (.Name x np) X.env) Q E { s' with heap := h3 } := by
      rintro x c np Q E ⟨hg, hdbg, hm | ⟨hm, hv, hnn⟩⟩ q
      · exact ld_glob (X := X.suite a ((a, oe3) :: (X.pn ++ pins))) S3 hg hm q hdbg
      · exact ld_blt (X := X.suite a ((a, oe3) :: (X.pn ++ pins))) S3 hg hm hv q hnn hdbg
    have LT : PySem.W.Looks (model X.prog X.w) h3 (typeOf (.ref a)) cls := by
      intro A Q E s k q
      refine wpAny_typeOf_ref (k _ _ he3) ?_
      rw [hz3.1]
      exact q
    have go : ∀ {hds' : List ExceptHandler} {l' : List Clause}, HdsMix X hds' l' → wMix X.K Wout D l' cls d σ' H' →
        wpAny (model X.prog X.w) X.A (handleBy (.ref a) X.env hds') (SP X pins D) X.xe { s' with heap := h3 } := by
      intro hds' l' hk
      induction hk with
      | nil =>
        intro w
        refine wpAny_handleBy_nil ?_
        obtain ⟨_, _, _, oe, vs, T, oT, ts', he, hz, hd, h1, hr⟩ := id fl3
        unfold PySem.passOn
        refine wpAny_bind (wpAny_field he hd h1 ?_)
        rw [if_neg (show ¬ ((Value.ref T == Value.none) = true) from by simp)]
        have last : wpAny (model X.prog X.w) X.A (setFlight (.ref a) X.env.frame) (fun _ s4 => wpAny (model X.prog X.w) X.A (throw (.ref a) : Sem Flow) (SP X pins D) X.xe s4) X.xe { s' with heap := h3 } := by
          rw [hf]
          refine HandSPX.setFlight_upZ fl3 ?_
          intro h4 hh4 up4
          refine wpAny_throw (tk _ _ ⟨a, B, sI, pins, σ', H', cls, d, rfl, J, nb, (up.trans up3).trans up4, ?_, na, os, ag, w⟩)
          exact Or.inr (Or.inr (hs ▸ hh4))
        first
          | exact wpAny_bind (wpAny_pure (wpAny_bind last))
          | exact wpAny_bind last
      | bare hc hsu r ih =>
        rintro ⟨b, hb1, hyes, hno⟩
        refine wpAny_handleBy_cons (codeAny_handlers_test ?_) (by intro q; cases q)
        refine test hc ((PySem.W.exm_one (M := model X.prog X.w) J3.kIn LT hb1).here ?_)
        cases b with
        | false => exact ih (hno rfl)
        | true =>
          refine codeAny_handlers_suite (HandSPX.lands_againZ fl3 ?_)
          intro h4 fl4 up4
          obtain ⟨oe4, vs4, he4, hz4, hd4⟩ := fl4.there
          have S4 := (J.landed (s' := { s' with heap := h4 }) nb fl4.1 ((up.trans up3).trans up4) os ag).suite he4 hd4 na nL nF
          refine wpAny_mono ((hsu a oe4 cls d (X.pn ++ pins) hz4 ⟨_, hd4⟩).run [] _ _ H' _ S4 (hyes rfl a na)) ?_ (fun _ _ z => z.elim)
          intro f s6 hsp
          cases f with
          | ret u =>
            obtain ⟨v6, σ6, H6, S6, r6, q6⟩ := hsp
            exact ⟨_, _, _, S6.unsuite ok, r6, q6⟩
          | next =>
            obtain ⟨σ6, H6, S6, q6⟩ := hsp
            exact ⟨_, _, S6.unsuite ok, q6⟩
          | brk =>
            obtain ⟨σ6, H6, S6, q6⟩ := hsp
            exact ⟨_, _, S6.unsuite ok, q6⟩
          | cont =>
            obtain ⟨σ6, H6, S6, q6⟩ := hsp
            exact ⟨_, _, S6.unsuite ok, q6⟩
      | @named x n i c ts b0 su np hp hds2 l2 hi hl hc hsu r ih =>
        rintro ⟨b, hb1, hyes, hno⟩
        refine wpAny_handleBy_cons (codeAny_handlers_test ?_) (by intro q; cases q)
        refine test hc ((PySem.W.exm_one (M := model X.prog X.w) J3.kIn LT hb1).here ?_)
        cases b with
        | false => exact ih (hno rfl)
        | true =>
          refine codeAny_handlers_suite_as (HandSPX.lands_againZ fl3 ?_)
          intro h4 fl4 up4
          obtain ⟨oe4, vs4, he4, hz4, hd4⟩ := fl4.there
          have S4 := (J.landed (s' := { s' with heap := h4 }) nb fl4.1 ((up.trans up3).trans up4) os ag).suite he4 hd4 na nL nF
          refine store_ok (X := X.suite a ((a, oe4) :: (X.pn ++ pins))) (v := .ref a) S4 hN hi (Or.inl hl) rfl ?_ (Or.inr hl)
          intro s5 S5
          refine wpAny_mono ((hsu a oe4 cls d (X.pn ++ pins) hz4 ⟨_, hd4⟩).run [] s5 _ H' _ S5 (hyes rfl a na)) ?_ (fun _ _ z => z.elim)
          intro f s6 hsp
          have fin : ∀ {σ6 : L2.St} {H6 : Hp} {Q : Shared → Prop}, Inv (X.suite a ((a, oe4) :: (X.pn ++ pins))) [] σ6 H6 s6 → (∀ s7, Inv X pins (σ6.set i none) H6 s7 → Q s7) →
              wpAny (model X.prog X.w) X.A (do bindName X.env n .none; unbindBehindTheSuite X.env n hp) (fun _ s7 => Q s7) X.xe s6 := fun S6 hq => gone_ok (S6.unsuite ok) hN hi hl hq
          cases f with
          | ret u =>
            obtain ⟨v6, σ6, H6, S6, r6, q6⟩ := hsp
            exact fin S6 fun s7 J7 => ⟨_, _, _, J7, r6, q6⟩
          | next =>
            obtain ⟨σ6, H6, S6, q6⟩ := hsp
            exact fin S6 fun s7 J7 => ⟨_, _, J7, q6⟩
          | brk =>
            obtain ⟨σ6, H6, S6, q6⟩ := hsp
            exact fin S6 fun s7 J7 => ⟨_, _, J7, q6⟩
          | cont =>
            obtain ⟨σ6, H6, S6, q6⟩ := hsp
            exact fin S6 fun s7 J7 => ⟨_, _, J7, q6⟩
    exact go hh wish
/-- .. with an else -/
theorem ps_try_mixE {orelse : List Stmt} {u : TS} (hs : X.stack = X.env :: X.outer) (hf : X.env.frame = some X.env.locals) (hN : X.N.Nodup) (tk : Takes X Wout)
    (hb : ∀ (W : WX) (pn : List (Addr × Obj)) (xe : Value → Shared → Prop), Takes (X.tr pn xe) W → PassesOwn (model X.prog X.w) X.A X.env xe → PSs (X.tr pn xe) body (tb W))
    (hh : HdsMix X (h₀ :: hds) l) (hu : PSs X orelse u) : PS X (.Try body (h₀ :: hds) orelse [] pos) (fun D σ H => tb (wMix X.K Wout D l) { D with nx := u D } σ H) := by
  constructor
  intro pins s σ H D I h
  have ok := I.ok
  have hfr : X.A.frames = some (X.env :: X.outer) := hs ▸ ok.frames
  refine wpAny_Try_except ?_
  refine wpAny_mono ((hb (wMix X.K Wout D l) (X.pn ++ pins) (fun e s₁ => wpAny (model X.prog X.w) X.A (noteFrame e X.env) (fun _ s₂ => wpAny (model X.prog X.w) X.A (setFlight e none)
    (fun _ s₃ => wpAny (model X.prog X.w) X.A (handleBy e X.env (h₀ :: hds)) (SP X pins D) X.xe s₃) X.xe s₂) X.xe s₁) ?caught PassesOwn.looking).run [] s σ H { D with nx := u D } (I.toTry _) h) ?done (fun e s1 he => he)
  case done =>
    intro f s1 hsp
    cases f with
    | ret u =>
      obtain ⟨v, σ', H', J', r, q⟩ := hsp
      exact ⟨v, σ', H', J'.ofTry ok, r, q⟩
    | next =>
      obtain ⟨σ', H', J', q⟩ := hsp
      exact hu.run pins s1 σ' H' D (J'.ofTry ok) q
    | brk =>
      obtain ⟨σ', H', J', q⟩ := hsp
      refine ⟨σ', H', J'.ofTry ok, q⟩
    | cont =>
      obtain ⟨σ', H', J', q⟩ := hsp
      refine ⟨σ', H', J'.ofTry ok, q⟩
  case caught =>
    rintro u s' ⟨a, B, sI, pins', σ', H', cls, d, rfl, J', nb, up, sky, na, os, ag, wish⟩
    have J : Inv X pins σ' H' sI := J'.ofTry ok
    show wpAny (model X.prog X.w) X.A (noteFrame (.ref a) X.env) _ _ _
    refine Sky.land Zc.steady hfr hf (hs ▸ sky) ?_
    intro h3 fl3 up3
    have J3 : Inv X pins σ' H' { s' with heap := h3 } := J.landed nb fl3.1 (up.trans up3) os ag
    obtain ⟨oe3, vs3, he3, hz3, hd3⟩ := fl3.there
    have nfr : a ∉ frs (X.env :: X.outer) := by
      intro hm
      obtain ⟨_, o', e', hnf⟩ := fl3.2.2.1.mem hm
      rw [he3] at e'
      cases e'
      exact hnf _ hd3
    have nL : a ≠ X.env.locals := fun z => nfr (List.mem_filterMap.mpr ⟨X.env, List.mem_cons_self, hf.trans (congrArg some z.symm)⟩)
    have nF : a ∉ X.fs := by
      intro hm
      obtain ⟨e, he, q⟩ := List.mem_filterMap.mp hm
      exact nfr (List.mem_filterMap.mpr ⟨e, List.mem_cons_of_mem _ he, q⟩)
    have S3 := J3.suite he3 hd3 na nL nF
    -- a clause's test
    have test : ∀ {x : Str} {c : Value} {np : Pos} {Q : Value → Shared → Prop} {E : Value → Shared → Prop}, Names X x c → Q c { s' with heap := h3 } →
        wpAny (model X.prog X.w) (X.A.mark (some (.ref a))) (eval (.Name x np) X.env) Q E { s' with heap := h3 } := by
      rintro x c np Q E ⟨hg, hdbg, hm | ⟨hm, hv, hnn⟩⟩ q
      · exact ld_glob (X := X.suite a ((a, oe3) :: (X.pn ++ pins))) S3 hg hm q hdbg
      · exact ld_blt (X := X.suite a ((a, oe3) :: (X.pn ++ pins))) S3 hg hm hv q hnn hdbg
    have LT : PySem.W.Looks (model X.prog X.w) h3 (typeOf (.ref a)) cls := by
      intro A Q E s k q
      refine wpAny_typeOf_ref (k _ _ he3) ?_
      rw [hz3.1]
      exact q
    have go : ∀ {hds' : List ExceptHandler} {l' : List Clause}, HdsMix X hds' l' → wMix X.K Wout D l' cls d σ' H' →
        wpAny (model X.prog X.w) X.A (handleBy (.ref a) X.env hds') (SP X pins D) X.xe { s' with heap := h3 } := by
      intro hds' l' hk
      induction hk with
      | nil =>
        intro w
        refine wpAny_handleBy_nil ?_
        obtain ⟨_, _, _, oe, vs, T, oT, ts', he, hz, hd, h1, hr⟩ := id fl3
        unfold PySem.passOn
        refine wpAny_bind (wpAny_field he hd h1 ?_)
        rw [if_neg (show ¬ ((Value.ref T == Value.none) = true) from by simp)]
        have last : wpAny (model X.prog X.w) X.A (setFlight (.ref a) X.env.frame) (fun _ s4 => wpAny (model X.prog X.w) X.A (throw (.ref a) : Sem Flow) (SP X pins D) X.xe s4) X.xe { s' with heap := h3 } := by
          rw [hf]
          refine HandSPX.setFlight_upZ fl3 ?_
          intro h4 hh4 up4
          refine wpAny_throw (tk _ _ ⟨a, B, sI, pins, σ', H', cls, d, rfl, J, nb, (up.trans up3).trans up4, ?_, na, os, ag, w⟩)
          exact Or.inr (Or.inr (hs ▸ hh4))
        first
          | exact wpAny_bind (wpAny_pure (wpAny_bind last))
          | exact wpAny_bind last
      | bare hc hsu r ih =>
        rintro ⟨b, hb1, hyes, hno⟩
        refine wpAny_handleBy_cons (codeAny_handlers_test ?_) (by intro q; cases q)
        refine test hc ((PySem.W.exm_one (M := model X.prog X.w) J3.kIn LT hb1).here ?_)
        cases b with
        | false => exact ih (hno rfl)
        | true =>
          refine codeAny_handlers_suite (HandSPX.lands_againZ fl3 ?_)
          intro h4 fl4 up4
          obtain ⟨oe4, vs4, he4, hz4, hd4⟩ := fl4.there
          have S4 := (J.landed (s' := { s' with heap := h4 }) nb fl4.1 ((up.trans up3).trans up4) os ag).suite he4 hd4 na nL nF
          refine wpAny_mono ((hsu a oe4 cls d (X.pn ++ pins) hz4 ⟨_, hd4⟩).run [] _ _ H' _ S4 (hyes rfl a na)) ?_ (fun _ _ z => z.elim)
          intro f s6 hsp
          cases f with
          | ret u =>
            obtain ⟨v6, σ6, H6, S6, r6, q6⟩ := hsp
            exact ⟨_, _, _, S6.unsuite ok, r6, q6⟩
          | next =>
            obtain ⟨σ6, H6, S6, q6⟩ := hsp
            exact ⟨_, _, S6.unsuite ok, q6⟩
          | brk =>
            obtain ⟨σ6, H6, S6, q6⟩ := hsp
            exact ⟨_, _, S6.unsuite ok, q6⟩
          | cont =>
            obtain ⟨σ6, H6, S6, q6⟩ := hsp
            exact ⟨_, _, S6.unsuite ok, q6⟩
      | @named x n i c ts b0 su np hp hds2 l2 hi hl hc hsu r ih =>
        rintro ⟨b, hb1, hyes, hno⟩
        refine wpAny_handleBy_cons (codeAny_handlers_test ?_) (by intro q; cases q)
        refine test hc ((PySem.W.exm_one (M := model X.prog X.w) J3.kIn LT hb1).here ?_)
        cases b with
        | false => exact ih (hno rfl)
        | true =>
          refine codeAny_handlers_suite_as (HandSPX.lands_againZ fl3 ?_)
          intro h4 fl4 up4
          obtain ⟨oe4, vs4, he4, hz4, hd4⟩ := fl4.there
          have S4 := (J.landed (s' := { s' with heap := h4 }) nb fl4.1 ((up.trans up3).trans up4) os ag).suite he4 hd4 na nL nF
          refine store_ok (X := X.suite a ((a, oe4) :: (X.pn ++ pins))) (v := .ref a) S4 hN hi (Or.inl hl) rfl ?_ (Or.inr hl)
          intro s5 S5
          refine wpAny_mono ((hsu a oe4 cls d (X.pn ++ pins) hz4 ⟨_, hd4⟩).run [] s5 _ H' _ S5 (hyes rfl a na)) ?_ (fun _ _ z => z.elim)
          intro f s6 hsp
          have fin : ∀ {σ6 : L2.St} {H6 : Hp} {Q : Shared → Prop}, Inv (X.suite a ((a, oe4) :: (X.pn ++ pins))) [] σ6 H6 s6 → (∀ s7, Inv X pins (σ6.set i none) H6 s7 → Q s7) →
              wpAny (model X.prog X.w) X.A (do bindName X.env n .none; unbindBehindTheSuite X.env n hp) (fun _ s7 => Q s7) X.xe s6 := fun S6 hq => gone_ok (S6.unsuite ok) hN hi hl hq
          cases f with
          | ret u =>
            obtain ⟨v6, σ6, H6, S6, r6, q6⟩ := hsp
            exact fin S6 fun s7 J7 => ⟨_, _, _, J7, r6, q6⟩
          | next =>
            obtain ⟨σ6, H6, S6, q6⟩ := hsp
            exact fin S6 fun s7 J7 => ⟨_, _, J7, q6⟩
          | brk =>
            obtain ⟨σ6, H6, S6, q6⟩ := hsp
            exact fin S6 fun s7 J7 => ⟨_, _, J7, q6⟩
          | cont =>
            obtain ⟨σ6, H6, S6, q6⟩ := hsp
            exact fin S6 fun s7 J7 => ⟨_, _, J7, q6⟩
    exact go hh wish
end
end Mc
namespace Me
open PySem PySem.Spec PyProof.Rows L2 Mc
variable {P : Program} {w : World} {K : PySem.W.Frag} {mg : Str → Option Value} {base : Heap}
/-! ### cells, boxes, draws -/
/-- a cell of the script, or a number by its place -/
def spCell (K : PySem.W.Frag) : Sp := fun vs H Q _ => ∃ (a : Addr) (ns : List Int) (k : Int), vs = [.ref a, .int k] ∧ SqL K H a (ns.map V.int) ∧ 0 ≤ k ∧ ∀ z, Q (.int z) H
theorem ok__law_cell (T : Txt P w K mg) : FnR P w K mg base (L2.CX P w) 1 (He.ga K "_law_cell") (spCell K) := by
  obtain ⟨fd, F⟩ := T.f__law_cell
  refine fnR_body F sc__law_cell (F.bindsN (fun _ _ _ _ _ _ us hl => match us, hl with | [_, _], _ => rfl)) ?_ ?_
  · rintro vs H Q E ⟨a, ns, k, rfl, _⟩
    rfl
  · rintro cdv A outer s H vs Q E hr ⟨a, ns, k, rfl, hs, hk, q⟩
    refine ⟨_, (PSs.nox (pss_one (ps_ret (pe_ifExp (pt_cmpR op_lt (pv 1) (pe_callB (call_len : CallR _ (.builtin "len") (Mc.rLen K)) (by rfl) T.m_len (by decide +kernel) (pa_cons (pv 0) pa_nil)) (nomark _)) (pe_ix (ix_list : IxR _ (rIxL K)) (pv 0) (pv 1) (fun _ _ => rfl)) (pe_op op_add (pe_op op_mul pe_int (pv 1)) pe_int))))), ?_⟩
    refine ⟨_, rfl, _, rfl, _, (ns.map V.int).length, rfl, .inl ⟨_, hs, rfl⟩, _, _, rfl, rfl, _, rfl, ?_⟩
    by_cases h : k < ((ns.map V.int).length : Int)
    · rw [decide_eq_true h]
      obtain ⟨z, hz⟩ : ∃ z, ns[k.toNat]? = some z := by
        rw [List.length_map] at h
        exact ⟨_, List.getElem?_eq_getElem (by omega)⟩
      refine iteT ⟨_, rfl, _, rfl, a, _, k, .int z, rfl, rfl, hs, ?_, q z⟩
      unfold atI ixN
      rw [if_pos hk, if_pos h]
      show (ns.map V.int)[k.toNat]? = _
      rw [List.getElem?_map, hz]
      rfl
    · rw [decide_eq_false h]
      exact iteF ⟨_, rfl, _, _, rfl, rfl, .inl ⟨by decide, by decide⟩, _, _, rfl, rfl, q _⟩
/-- a box: what is left of a large cell, the seed, the number of draws so far -/
structure BoxAt (H : Hp) (b : Addr) (n : Int) : Prop where
  ex : ∃ x0 x1 x2 : Int, H b = some (.lst [.int x0, .int x1, .int x2]) ∧ 0 ≤ x0 ∧ 0 ≤ x1 ∧ x1 < 2147483648 ∧ 0 ≤ x2 ∧ x2 ≤ n
def spBox : Sp := fun vs H Q _ => ∃ z : Int, vs = [.int z] ∧ ∀ p H', H p = none → BoxAt H' p 0 → (∀ c, c ≠ p → H' c = H c) → Q (.ref p) H'
theorem ok__law_box (T : Txt P w K mg) : FnR P w K mg base (L2.CX P w) 1 (He.ga K "_law_box") spBox := by
  obtain ⟨fd, F⟩ := T.f__law_box
  refine fnR_body F sc__law_box (F.bindsN (fun _ _ _ _ _ _ us hl => match us, hl with | [_], _ => rfl)) ?_ ?_
  · rintro vs H Q E ⟨z, rfl, _⟩
    rfl
  · rintro cdv A outer s H vs Q E hr ⟨z, rfl, q⟩
    refine ⟨_, (PSs.nox (pss_one (ps_ret (pe_lst (pa_cons (pe_callB (call_max2 rfl) (by rfl) T.m_max (by decide +kernel) (pa_cons pe_int (pa_cons (pe_op op_sub (pv 0) (pe_op op_pow pe_int pe_int)) pa_nil))) (pa_cons (pe_op op_mod (pv 0) pe_int) (pa_cons pe_int pa_nil))))))), ?_⟩
    refine ⟨_, rfl, _, _, rfl, rfl, ⟨by decide, by decide, by decide⟩, _, _, rfl, rfl, _, _, rfl, _, rfl, _, _, rfl, rfl, (by show (0 : Int) < _; decide), (by show 3 ≤ sizeLine; decide), fun p hp => ?_⟩
    refine q p _ hp ⟨_, _, _, upd_same, ?_, ?_, ?_, Int.le_refl _, Int.le_refl _⟩ (fun c hc => upd_ne hc)
    · split <;> omega
    · exact Int.emod_nonneg _ (by decide)
    · exact Int.lt_trans (Int.emod_lt_of_pos _ (by decide)) (by decide)
/-- one draw -/
def spTake : Sp := fun vs H Q _ => ∃ (b : Addr) (n many : Int), vs = [.ref b, .int many] ∧ BoxAt H b n ∧ n ≤ 1000000000 ∧ 0 < many ∧ many < 1073741824 ∧
  ∀ r H', 0 ≤ r → r < many → BoxAt H' b (n + 1) → (∀ c, c ≠ b → H' c = H c) → Q (.int r) H'
theorem ok__law_take (T : Txt P w K mg) : FnR P w K mg base (L2.CX P w) 1 (He.ga K "_law_take") spTake := by
  obtain ⟨fd, F⟩ := T.f__law_take
  refine fnR_body F sc__law_take (F.bindsN (fun _ _ _ _ _ _ us hl => match us, hl with | [_, _], _ => rfl)) ?_ ?_
  · rintro vs H Q E ⟨b, n, many, rfl, _⟩
    rfl
  · rintro cdv A outer s H vs Q E hr ⟨b, n, many, rfl, ⟨x0, x1, x2, hb, h0, h1, h1', h2, h2'⟩, hn, hm, hm', q⟩
    refine ⟨_, (PSs.nox (pss_cons (ps_if (pt_cmpR op_gt (pe_ix (ix_list : IxR _ (rIxL K)) (pv 0) pe_int (fun _ _ => rfl)) pe_int (nomark _)) (pss_cons (ps_set (i := 2) sc__law_take.nd rfl (Or.inl rfl) (pe_op op_mod (pe_ix (ix_list : IxR _ (rIxL K)) (pv 0) pe_int (fun _ _ => rfl)) (pv 1)))
      (pss_cons (ps_asg (pe_op op_fdiv (pe_ix (ix_list : IxR _ (rIxL K)) (pv 0) pe_int (fun _ _ => rfl)) (pv 1)) (pg_sub (pv 0) pe_int set_list))
      (pss_one (ps_ret (pv 2))))) pss_nil)
      (pss_cons (ps_asg (pe_op op_add (pe_ix (ix_list : IxR _ (rIxL K)) (pv 0) pe_int (fun _ _ => rfl)) pe_int) (pg_sub (pv 0) pe_int set_list))
      (pss_cons (ps_set (i := 3) sc__law_take.nd rfl (Or.inl rfl) (pe_op op_mod (pe_op op_pow (pe_op op_add (pe_op op_add (pe_ix (ix_list : IxR _ (rIxL K)) (pv 0) pe_int (fun _ _ => rfl)) (pe_op op_mul pe_int (pe_ix (ix_list : IxR _ (rIxL K)) (pv 0) pe_int (fun _ _ => rfl)))) pe_int) pe_int) pe_int))
      (pss_cons (ps_set (i := 3) sc__law_take.nd rfl (Or.inl rfl) (pe_op op_mod (pe_op op_pow (pe_op op_add (pv 3) (pe_op op_mul pe_int (pe_ix (ix_list : IxR _ (rIxL K)) (pv 0) pe_int (fun _ _ => rfl)))) pe_int) pe_int))
      (pss_one (ps_ret (pe_op op_mod (pe_op op_fdiv (pv 3) pe_int) (pv 1))))))))), ?_⟩
    have sq : ∀ {H' : Hp} {xs : List V}, H' b = some (.lst xs) → SqL K H' b xs := fun h => SqL.of h
    refine ⟨_, rfl, b, _, 0, _, rfl, rfl, sq hb, rfl, _, _, rfl, rfl, _, rfl, ?_⟩
    by_cases c : 0 < x0
    · rw [decide_eq_true c]
      refine iteT ⟨_, rfl, b, _, 0, _, rfl, rfl, sq hb, rfl, _, rfl, _, _, rfl, rfl, hm, ?_⟩
      refine ⟨_, rfl, b, _, 0, _, rfl, rfl, sq hb, rfl, _, rfl, _, _, rfl, rfl, ⟨hm, hm'⟩, _, rfl, b, _, 0, 0, rfl, rfl, hb, rfl, ?_⟩
      refine ⟨_, rfl, ?_⟩
      exact q _ _ (Int.emod_nonneg _ (by omega)) (Int.emod_lt_of_pos _ hm) ⟨_, _, _, upd_same, Int.ediv_nonneg h0 (by omega), h1, h1', h2, by omega⟩ (fun c hc => upd_ne hc)
    · rw [decide_eq_false c]
      refine iteF ?_
      refine ⟨_, rfl, b, _, 2, _, rfl, rfl, sq hb, rfl, _, _, rfl, rfl, _, rfl, b, _, 2, 2, rfl, rfl, hb, rfl, ?_⟩
      have hb' := @upd_same H b (.lst [.int x0, .int x1, .int (x2 + 1)])
      refine ⟨_, rfl, b, _, 1, _, rfl, rfl, sq hb', rfl, _, rfl, b, _, 2, _, rfl, rfl, sq hb', rfl, _, _, rfl, rfl, .inl ⟨by decide, by decide⟩, _, _, rfl, rfl, _, _, rfl, rfl, _, _, rfl, rfl, ⟨by decide, by decide, ?_⟩, _, _, rfl, rfl, (by show (0 : Int) < _; decide), ?_⟩
      · have : (0 : Int) ≤ x1 + 5226 * (x2 + 1) + 1006 ∧ x1 + 5226 * (x2 + 1) + 1006 < 2 ^ 63 := by omega
        omega
      generalize hk : (x1 + 5226 * (x2 + 1) + 1006) ^ (5 : Int).toNat % 2147483647 = m1
      have hm1 : 0 ≤ m1 ∧ m1 < 2147483647 := by
        rw [← hk]
        exact ⟨Int.emod_nonneg _ (by decide), Int.emod_lt_of_pos _ (by decide)⟩
      refine ⟨_, rfl, _, rfl, b, _, 2, _, rfl, rfl, sq hb', rfl, _, _, rfl, rfl, .inl ⟨by decide, by decide⟩, _, _, rfl, rfl, _, _, rfl, rfl, ⟨by decide, by decide, ?_⟩, _, _, rfl, rfl, (by show (0 : Int) < _; decide), ?_⟩
      · have : (0 : Int) ≤ m1 + 100455 * (x2 + 1) ∧ m1 + 100455 * (x2 + 1) < 2 ^ 63 := by omega
        omega
      refine ⟨_, rfl, _, _, rfl, rfl, ⟨by decide, by decide⟩, _, rfl, _, _, rfl, rfl, hm, ?_⟩
      exact q _ _ (Int.emod_nonneg _ (by omega)) (Int.emod_lt_of_pos _ hm) ⟨_, _, _, upd_same, h0, h1, h1', by omega, by omega⟩ (fun c hc => upd_ne hc)

theorem BoxAt.up {H : Hp} {b : Addr} {n m : Int} (h : BoxAt H b n) (hm : n ≤ m) : BoxAt H b m := by
  obtain ⟨x0, x1, x2, h1, h2, h3, h4, h5, h6⟩ := h.ex
  exact ⟨x0, x1, x2, h1, h2, h3, h4, h5, by omega⟩
theorem BoxAt.same {H H' : Hp} {b : Addr} {n : Int} (h : BoxAt H b n) (e : H' b = H b) : BoxAt H' b n := by
  obtain ⟨x0, x1, x2, h1, h⟩ := h.ex
  exact ⟨x0, x1, x2, e.trans h1, h⟩
theorem BoxAt.ext {H H' : Hp} {b : Addr} {n : Int} (h : BoxAt H b n) (e : Ext H H') : BoxAt H' b n := by
  obtain ⟨x0, x1, x2, h1, h⟩ := h.ex
  exact ⟨x0, x1, x2, e _ _ h1, h⟩
theorem BoxAt.some_ {H : Hp} {b : Addr} {n : Int} (h : BoxAt H b n) : ∃ x y z, H b = some (.lst [x, y, z]) := by
  obtain ⟨x0, x1, x2, h1, h⟩ := h.ex
  exact ⟨_, _, _, h1⟩
theorem BoxAt.ne {H : Hp} {b p : Addr} {n : Int} (h : BoxAt H b n) (hp : H p = none) : b ≠ p := by
  obtain ⟨x, y, z, e⟩ := h.some_
  exact ne_of_none e hp
theorem BoxAt.text {H H' : Hp} {b : Addr} {n : Int} (h : BoxAt H b n) (hx : XB [b] H H') : TExt H H' := hx.text fun a ha o e => by
  obtain ⟨x, y, z, e2⟩ := h.some_
  rw [List.mem_singleton.mp ha, e2] at e
  cases e
  exact fun z => z
/-- one draw, told by what stays -/
theorem xb_of {H H' : Hp} {b : Addr} (h : ∀ c, c ≠ b → H' c = H c) : XB [b] H H' := fun c o hc e => (h c (fun z => hc (by rw [z]; simp))).trans e
end Me
namespace Me
open PySem PySem.Spec PyProof.Rows L2 Mc
variable {P : Program} {w : World} {K : PySem.W.Frag} {mg : Str → Option Value} {base : Heap}
/-! ### the exceptions, made -/
def exNames : List Str := ["InvalidNumber", "InvalidKind", "InvalidKinds", "InvalidWires", "InvalidWord", "InvalidEnd", "InvalidPort", "InvalidPair", "InvalidPairs", "InvalidOrder", "InvalidNet", "InvalidRows", "InvalidName", "InvalidDeed", "InvalidDeeds", "InvalidLine", "BadText", "TooLarge", "NotReduced", "HasRing", "UnlikeEnds", "NotCopyable", "NotEnded", "UnknownName", "NothingToUndo", "InvalidMove", "InvalidMoves", "MeetcellsError"]
/-- a class of the package's exceptions -/
def ExcN (K : PySem.W.Frag) (C : Addr) : Prop := ∃ x ∈ exNames, C = He.ga K x
theorem exc_me (T : Txt P w K mg) : ∀ C, ExcN K C → Mc.MeCls K (Mc.meD K) (Mc.meI K) C := by
  rintro C ⟨x, hx, rfl⟩
  unfold exNames at hx
  simp only [List.mem_cons, List.not_mem_nil, or_false] at hx
  rcases hx with rfl | rfl | rfl | rfl | rfl | rfl | rfl | rfl | rfl | rfl | rfl | rfl | rfl | rfl | rfl | rfl | rfl | rfl | rfl | rfl | rfl | rfl | rfl | rfl | rfl | rfl | rfl | rfl
  · exact T.x_InvalidNumber
  · exact T.x_InvalidKind
  · exact T.x_InvalidKinds
  · exact T.x_InvalidWires
  · exact T.x_InvalidWord
  · exact T.x_InvalidEnd
  · exact T.x_InvalidPort
  · exact T.x_InvalidPair
  · exact T.x_InvalidPairs
  · exact T.x_InvalidOrder
  · exact T.x_InvalidNet
  · exact T.x_InvalidRows
  · exact T.x_InvalidName
  · exact T.x_InvalidDeed
  · exact T.x_InvalidDeeds
  · exact T.x_InvalidLine
  · exact T.x_BadText
  · exact T.x_TooLarge
  · exact T.x_NotReduced
  · exact T.x_HasRing
  · exact T.x_UnlikeEnds
  · exact T.x_NotCopyable
  · exact T.x_NotEnded
  · exact T.x_UnknownName
  · exact T.x_NothingToUndo
  · exact T.x_InvalidMove
  · exact T.x_InvalidMoves
  · exact T.x_MeetcellsError
theorem exc_ok (T : Txt P w K mg) : ∀ C, ExcN K C → Mc.MeCls K (Mc.meD K) (Mc.meI K) C ∧ Mc.ExcIs K C := fun C h => ⟨exc_me T C h, by
  obtain ⟨x, hx, rfl⟩ := h
  unfold exNames at hx
  simp only [List.mem_cons, List.not_mem_nil, or_false] at hx
  rcases hx with rfl | rfl | rfl | rfl | rfl | rfl | rfl | rfl | rfl | rfl | rfl | rfl | rfl | rfl | rfl | rfl | rfl | rfl | rfl | rfl | rfl | rfl | rfl | rfl | rfl | rfl | rfl | rfl
  · exact T.xi _ (by simp)
  · exact T.xi _ (by simp)
  · exact T.xi _ (by simp)
  · exact T.xi _ (by simp)
  · exact T.xi _ (by simp)
  · exact T.xi _ (by simp)
  · exact T.xi _ (by simp)
  · exact T.xi _ (by simp)
  · exact T.xi _ (by simp)
  · exact T.xi _ (by simp)
  · exact T.xi _ (by simp)
  · exact T.xi _ (by simp)
  · exact T.xi _ (by simp)
  · exact T.xi _ (by simp)
  · exact T.xi _ (by simp)
  · exact T.xi _ (by simp)
  · exact T.xi _ (by simp)
  · exact T.xi _ (by simp)
  · exact T.xi _ (by simp)
  · exact T.xi _ (by simp)
  · exact T.xi _ (by simp)
  · exact T.xi _ (by simp)
  · exact T.xi _ (by simp)
  · exact T.xi _ (by simp)
  · exact T.xi _ (by simp)
  · exact T.xi _ (by simp)
  · exact T.xi _ (by simp)
  · exact T.xi _ (by simp)⟩
def spMk (K : PySem.W.Frag) (l : List Str) : Sp := fun vs H Q _ => ∃ (n : Nat) (v : V), vs = [.int (n : Int), v] ∧ ∀ d e, H d = none → H e = none → d ≠ e → Q (.ref e) (upd (upd H d (.xd [(("value" : Str), v)])) e (ExV (He.ga K (l.getD n "MeetcellsError")) d e))
theorem ok__law_first (T : Txt P w K mg) : FnR P w K mg base (L2.CX P w) 2 (He.ga K "_law_first") (spMk K ["InvalidNumber", "InvalidKind", "InvalidKinds", "InvalidWires", "InvalidWord", "InvalidEnd", "InvalidPort", "InvalidPair", "InvalidPairs"]) := by
  obtain ⟨fd, F⟩ := T.f__law_first
  refine fnR_body F sc__law_first (F.bindsN (fun _ _ _ _ _ _ us hl => match us, hl with | [_, _], _ => rfl)) ?_ ?_
  · rintro vs H Q E ⟨n, v, rfl, _⟩
    rfl
  · rintro cdv A outer s H vs Q E hr ⟨n, v, rfl, q⟩
    refine ⟨_, (PSs.nox (pss_cons (ps_if (pt_cmpR op_eq (pv 0) pe_int (nomark _)) (pss_one (ps_ret (Mc.pe_mkMe T.me T.x_InvalidNumber T.m_super T.g_InvalidNumber (hr.mono (by decide) : Room 1 _) (by exact (pa_cons (pv 1) pa_nil))))) pss_nil)
      (pss_cons (ps_if (pt_cmpR op_eq (pv 0) pe_int (nomark _)) (pss_one (ps_ret (Mc.pe_mkMe T.me T.x_InvalidKind T.m_super T.g_InvalidKind (hr.mono (by decide) : Room 1 _) (by exact (pa_cons (pv 1) pa_nil))))) pss_nil)
      (pss_cons (ps_if (pt_cmpR op_eq (pv 0) pe_int (nomark _)) (pss_one (ps_ret (Mc.pe_mkMe T.me T.x_InvalidKinds T.m_super T.g_InvalidKinds (hr.mono (by decide) : Room 1 _) (by exact (pa_cons (pv 1) pa_nil))))) pss_nil)
      (pss_cons (ps_if (pt_cmpR op_eq (pv 0) pe_int (nomark _)) (pss_one (ps_ret (Mc.pe_mkMe T.me T.x_InvalidWires T.m_super T.g_InvalidWires (hr.mono (by decide) : Room 1 _) (by exact (pa_cons (pv 1) pa_nil))))) pss_nil)
      (pss_cons (ps_if (pt_cmpR op_eq (pv 0) pe_int (nomark _)) (pss_one (ps_ret (Mc.pe_mkMe T.me T.x_InvalidWord T.m_super T.g_InvalidWord (hr.mono (by decide) : Room 1 _) (by exact (pa_cons (pv 1) pa_nil))))) pss_nil)
      (pss_cons (ps_if (pt_cmpR op_eq (pv 0) pe_int (nomark _)) (pss_one (ps_ret (Mc.pe_mkMe T.me T.x_InvalidEnd T.m_super T.g_InvalidEnd (hr.mono (by decide) : Room 1 _) (by exact (pa_cons (pv 1) pa_nil))))) pss_nil)
      (pss_cons (ps_if (pt_cmpR op_eq (pv 0) pe_int (nomark _)) (pss_one (ps_ret (Mc.pe_mkMe T.me T.x_InvalidPort T.m_super T.g_InvalidPort (hr.mono (by decide) : Room 1 _) (by exact (pa_cons (pv 1) pa_nil))))) pss_nil)
      (pss_cons (ps_if (pt_cmpR op_eq (pv 0) pe_int (nomark _)) (pss_one (ps_ret (Mc.pe_mkMe T.me T.x_InvalidPair T.m_super T.g_InvalidPair (hr.mono (by decide) : Room 1 _) (by exact (pa_cons (pv 1) pa_nil))))) pss_nil)
      (pss_cons (ps_if (pt_cmpR op_eq (pv 0) pe_int (nomark _)) (pss_one (ps_ret (Mc.pe_mkMe T.me T.x_InvalidPairs T.m_super T.g_InvalidPairs (hr.mono (by decide) : Room 1 _) (by exact (pa_cons (pv 1) pa_nil))))) pss_nil)
      (pss_one (ps_ret (Mc.pe_mkMe T.me T.x_MeetcellsError T.m_super T.g_MeetcellsError (hr.mono (by decide) : Room 1 _) (by exact (pa_cons (pv 1) pa_nil))))))))))))))), ?_⟩
    refine ⟨_, rfl, rfl, _, rfl, ?_⟩
    by_cases c0 : n = 0
    · subst c0
      exact iteT ⟨_, rfl, v, rfl, fun d e h1 h2 h3 => q d e h1 h2 h3⟩
    rw [decide_eq_false (fun z => c0 (by have := V.int.inj z; omega))]
    refine iteF ?_
    refine ⟨_, rfl, rfl, _, rfl, ?_⟩
    by_cases c1 : n = 1
    · subst c1
      exact iteT ⟨_, rfl, v, rfl, fun d e h1 h2 h3 => q d e h1 h2 h3⟩
    rw [decide_eq_false (fun z => c1 (by have := V.int.inj z; omega))]
    refine iteF ?_
    refine ⟨_, rfl, rfl, _, rfl, ?_⟩
    by_cases c2 : n = 2
    · subst c2
      exact iteT ⟨_, rfl, v, rfl, fun d e h1 h2 h3 => q d e h1 h2 h3⟩
    rw [decide_eq_false (fun z => c2 (by have := V.int.inj z; omega))]
    refine iteF ?_
    refine ⟨_, rfl, rfl, _, rfl, ?_⟩
    by_cases c3 : n = 3
    · subst c3
      exact iteT ⟨_, rfl, v, rfl, fun d e h1 h2 h3 => q d e h1 h2 h3⟩
    rw [decide_eq_false (fun z => c3 (by have := V.int.inj z; omega))]
    refine iteF ?_
    refine ⟨_, rfl, rfl, _, rfl, ?_⟩
    by_cases c4 : n = 4
    · subst c4
      exact iteT ⟨_, rfl, v, rfl, fun d e h1 h2 h3 => q d e h1 h2 h3⟩
    rw [decide_eq_false (fun z => c4 (by have := V.int.inj z; omega))]
    refine iteF ?_
    refine ⟨_, rfl, rfl, _, rfl, ?_⟩
    by_cases c5 : n = 5
    · subst c5
      exact iteT ⟨_, rfl, v, rfl, fun d e h1 h2 h3 => q d e h1 h2 h3⟩
    rw [decide_eq_false (fun z => c5 (by have := V.int.inj z; omega))]
    refine iteF ?_
    refine ⟨_, rfl, rfl, _, rfl, ?_⟩
    by_cases c6 : n = 6
    · subst c6
      exact iteT ⟨_, rfl, v, rfl, fun d e h1 h2 h3 => q d e h1 h2 h3⟩
    rw [decide_eq_false (fun z => c6 (by have := V.int.inj z; omega))]
    refine iteF ?_
    refine ⟨_, rfl, rfl, _, rfl, ?_⟩
    by_cases c7 : n = 7
    · subst c7
      exact iteT ⟨_, rfl, v, rfl, fun d e h1 h2 h3 => q d e h1 h2 h3⟩
    rw [decide_eq_false (fun z => c7 (by have := V.int.inj z; omega))]
    refine iteF ?_
    refine ⟨_, rfl, rfl, _, rfl, ?_⟩
    by_cases c8 : n = 8
    · subst c8
      exact iteT ⟨_, rfl, v, rfl, fun d e h1 h2 h3 => q d e h1 h2 h3⟩
    rw [decide_eq_false (fun z => c8 (by have := V.int.inj z; omega))]
    refine iteF ?_
    refine ⟨_, rfl, v, rfl, fun d e h1 h2 h3 => ?_⟩
    have := q d e h1 h2 h3
    rwa [List.getD_eq_getElem?_getD, List.getElem?_eq_none (by show 9 ≤ n; omega)] at this
theorem ok__law_second (T : Txt P w K mg) : FnR P w K mg base (L2.CX P w) 2 (He.ga K "_law_second") (spMk K ["InvalidOrder", "InvalidNet", "InvalidRows", "InvalidName", "InvalidDeed", "InvalidDeeds", "InvalidLine", "BadText", "TooLarge"]) := by
  obtain ⟨fd, F⟩ := T.f__law_second
  refine fnR_body F sc__law_second (F.bindsN (fun _ _ _ _ _ _ us hl => match us, hl with | [_, _], _ => rfl)) ?_ ?_
  · rintro vs H Q E ⟨n, v, rfl, _⟩
    rfl
  · rintro cdv A outer s H vs Q E hr ⟨n, v, rfl, q⟩
    refine ⟨_, (PSs.nox (pss_cons (ps_if (pt_cmpR op_eq (pv 0) pe_int (nomark _)) (pss_one (ps_ret (Mc.pe_mkMe T.me T.x_InvalidOrder T.m_super T.g_InvalidOrder (hr.mono (by decide) : Room 1 _) (by exact (pa_cons (pv 1) pa_nil))))) pss_nil)
      (pss_cons (ps_if (pt_cmpR op_eq (pv 0) pe_int (nomark _)) (pss_one (ps_ret (Mc.pe_mkMe T.me T.x_InvalidNet T.m_super T.g_InvalidNet (hr.mono (by decide) : Room 1 _) (by exact (pa_cons (pv 1) pa_nil))))) pss_nil)
      (pss_cons (ps_if (pt_cmpR op_eq (pv 0) pe_int (nomark _)) (pss_one (ps_ret (Mc.pe_mkMe T.me T.x_InvalidRows T.m_super T.g_InvalidRows (hr.mono (by decide) : Room 1 _) (by exact (pa_cons (pv 1) pa_nil))))) pss_nil)
      (pss_cons (ps_if (pt_cmpR op_eq (pv 0) pe_int (nomark _)) (pss_one (ps_ret (Mc.pe_mkMe T.me T.x_InvalidName T.m_super T.g_InvalidName (hr.mono (by decide) : Room 1 _) (by exact (pa_cons (pv 1) pa_nil))))) pss_nil)
      (pss_cons (ps_if (pt_cmpR op_eq (pv 0) pe_int (nomark _)) (pss_one (ps_ret (Mc.pe_mkMe T.me T.x_InvalidDeed T.m_super T.g_InvalidDeed (hr.mono (by decide) : Room 1 _) (by exact (pa_cons (pv 1) pa_nil))))) pss_nil)
      (pss_cons (ps_if (pt_cmpR op_eq (pv 0) pe_int (nomark _)) (pss_one (ps_ret (Mc.pe_mkMe T.me T.x_InvalidDeeds T.m_super T.g_InvalidDeeds (hr.mono (by decide) : Room 1 _) (by exact (pa_cons (pv 1) pa_nil))))) pss_nil)
      (pss_cons (ps_if (pt_cmpR op_eq (pv 0) pe_int (nomark _)) (pss_one (ps_ret (Mc.pe_mkMe T.me T.x_InvalidLine T.m_super T.g_InvalidLine (hr.mono (by decide) : Room 1 _) (by exact (pa_cons (pv 1) pa_nil))))) pss_nil)
      (pss_cons (ps_if (pt_cmpR op_eq (pv 0) pe_int (nomark _)) (pss_one (ps_ret (Mc.pe_mkMe T.me T.x_BadText T.m_super T.g_BadText (hr.mono (by decide) : Room 1 _) (by exact (pa_cons (pv 1) pa_nil))))) pss_nil)
      (pss_cons (ps_if (pt_cmpR op_eq (pv 0) pe_int (nomark _)) (pss_one (ps_ret (Mc.pe_mkMe T.me T.x_TooLarge T.m_super T.g_TooLarge (hr.mono (by decide) : Room 1 _) (by exact (pa_cons (pv 1) pa_nil))))) pss_nil)
      (pss_one (ps_ret (Mc.pe_mkMe T.me T.x_MeetcellsError T.m_super T.g_MeetcellsError (hr.mono (by decide) : Room 1 _) (by exact (pa_cons (pv 1) pa_nil))))))))))))))), ?_⟩
    refine ⟨_, rfl, rfl, _, rfl, ?_⟩
    by_cases c0 : n = 0
    · subst c0
      exact iteT ⟨_, rfl, v, rfl, fun d e h1 h2 h3 => q d e h1 h2 h3⟩
    rw [decide_eq_false (fun z => c0 (by have := V.int.inj z; omega))]
    refine iteF ?_
    refine ⟨_, rfl, rfl, _, rfl, ?_⟩
    by_cases c1 : n = 1
    · subst c1
      exact iteT ⟨_, rfl, v, rfl, fun d e h1 h2 h3 => q d e h1 h2 h3⟩
    rw [decide_eq_false (fun z => c1 (by have := V.int.inj z; omega))]
    refine iteF ?_
    refine ⟨_, rfl, rfl, _, rfl, ?_⟩
    by_cases c2 : n = 2
    · subst c2
      exact iteT ⟨_, rfl, v, rfl, fun d e h1 h2 h3 => q d e h1 h2 h3⟩
    rw [decide_eq_false (fun z => c2 (by have := V.int.inj z; omega))]
    refine iteF ?_
    refine ⟨_, rfl, rfl, _, rfl, ?_⟩
    by_cases c3 : n = 3
    · subst c3
      exact iteT ⟨_, rfl, v, rfl, fun d e h1 h2 h3 => q d e h1 h2 h3⟩
    rw [decide_eq_false (fun z => c3 (by have := V.int.inj z; omega))]
    refine iteF ?_
    refine ⟨_, rfl, rfl, _, rfl, ?_⟩
    by_cases c4 : n = 4
    · subst c4
      exact iteT ⟨_, rfl, v, rfl, fun d e h1 h2 h3 => q d e h1 h2 h3⟩
    rw [decide_eq_false (fun z => c4 (by have := V.int.inj z; omega))]
    refine iteF ?_
    refine ⟨_, rfl, rfl, _, rfl, ?_⟩
    by_cases c5 : n = 5
    · subst c5
      exact iteT ⟨_, rfl, v, rfl, fun d e h1 h2 h3 => q d e h1 h2 h3⟩
    rw [decide_eq_false (fun z => c5 (by have := V.int.inj z; omega))]
    refine iteF ?_
    refine ⟨_, rfl, rfl, _, rfl, ?_⟩
    by_cases c6 : n = 6
    · subst c6
      exact iteT ⟨_, rfl, v, rfl, fun d e h1 h2 h3 => q d e h1 h2 h3⟩
    rw [decide_eq_false (fun z => c6 (by have := V.int.inj z; omega))]
    refine iteF ?_
    refine ⟨_, rfl, rfl, _, rfl, ?_⟩
    by_cases c7 : n = 7
    · subst c7
      exact iteT ⟨_, rfl, v, rfl, fun d e h1 h2 h3 => q d e h1 h2 h3⟩
    rw [decide_eq_false (fun z => c7 (by have := V.int.inj z; omega))]
    refine iteF ?_
    refine ⟨_, rfl, rfl, _, rfl, ?_⟩
    by_cases c8 : n = 8
    · subst c8
      exact iteT ⟨_, rfl, v, rfl, fun d e h1 h2 h3 => q d e h1 h2 h3⟩
    rw [decide_eq_false (fun z => c8 (by have := V.int.inj z; omega))]
    refine iteF ?_
    refine ⟨_, rfl, v, rfl, fun d e h1 h2 h3 => ?_⟩
    have := q d e h1 h2 h3
    rwa [List.getD_eq_getElem?_getD, List.getElem?_eq_none (by show 9 ≤ n; omega)] at this
theorem ok__law_third (T : Txt P w K mg) : FnR P w K mg base (L2.CX P w) 2 (He.ga K "_law_third") (spMk K ["NotReduced", "HasRing", "UnlikeEnds", "NotCopyable", "NotEnded", "UnknownName", "NothingToUndo", "InvalidMove", "InvalidMoves"]) := by
  obtain ⟨fd, F⟩ := T.f__law_third
  refine fnR_body F sc__law_third (F.bindsN (fun _ _ _ _ _ _ us hl => match us, hl with | [_, _], _ => rfl)) ?_ ?_
  · rintro vs H Q E ⟨n, v, rfl, _⟩
    rfl
  · rintro cdv A outer s H vs Q E hr ⟨n, v, rfl, q⟩
    refine ⟨_, (PSs.nox (pss_cons (ps_if (pt_cmpR op_eq (pv 0) pe_int (nomark _)) (pss_one (ps_ret (Mc.pe_mkMe T.me T.x_NotReduced T.m_super T.g_NotReduced (hr.mono (by decide) : Room 1 _) (by exact (pa_cons (pv 1) pa_nil))))) pss_nil)
      (pss_cons (ps_if (pt_cmpR op_eq (pv 0) pe_int (nomark _)) (pss_one (ps_ret (Mc.pe_mkMe T.me T.x_HasRing T.m_super T.g_HasRing (hr.mono (by decide) : Room 1 _) (by exact (pa_cons (pv 1) pa_nil))))) pss_nil)
      (pss_cons (ps_if (pt_cmpR op_eq (pv 0) pe_int (nomark _)) (pss_one (ps_ret (Mc.pe_mkMe T.me T.x_UnlikeEnds T.m_super T.g_UnlikeEnds (hr.mono (by decide) : Room 1 _) (by exact (pa_cons (pv 1) pa_nil))))) pss_nil)
      (pss_cons (ps_if (pt_cmpR op_eq (pv 0) pe_int (nomark _)) (pss_one (ps_ret (Mc.pe_mkMe T.me T.x_NotCopyable T.m_super T.g_NotCopyable (hr.mono (by decide) : Room 1 _) (by exact (pa_cons (pv 1) pa_nil))))) pss_nil)
      (pss_cons (ps_if (pt_cmpR op_eq (pv 0) pe_int (nomark _)) (pss_one (ps_ret (Mc.pe_mkMe T.me T.x_NotEnded T.m_super T.g_NotEnded (hr.mono (by decide) : Room 1 _) (by exact (pa_cons (pv 1) pa_nil))))) pss_nil)
      (pss_cons (ps_if (pt_cmpR op_eq (pv 0) pe_int (nomark _)) (pss_one (ps_ret (Mc.pe_mkMe T.me T.x_UnknownName T.m_super T.g_UnknownName (hr.mono (by decide) : Room 1 _) (by exact (pa_cons (pv 1) pa_nil))))) pss_nil)
      (pss_cons (ps_if (pt_cmpR op_eq (pv 0) pe_int (nomark _)) (pss_one (ps_ret (Mc.pe_mkMe T.me T.x_NothingToUndo T.m_super T.g_NothingToUndo (hr.mono (by decide) : Room 1 _) (by exact (pa_cons (pv 1) pa_nil))))) pss_nil)
      (pss_cons (ps_if (pt_cmpR op_eq (pv 0) pe_int (nomark _)) (pss_one (ps_ret (Mc.pe_mkMe T.me T.x_InvalidMove T.m_super T.g_InvalidMove (hr.mono (by decide) : Room 1 _) (by exact (pa_cons (pv 1) pa_nil))))) pss_nil)
      (pss_cons (ps_if (pt_cmpR op_eq (pv 0) pe_int (nomark _)) (pss_one (ps_ret (Mc.pe_mkMe T.me T.x_InvalidMoves T.m_super T.g_InvalidMoves (hr.mono (by decide) : Room 1 _) (by exact (pa_cons (pv 1) pa_nil))))) pss_nil)
      (pss_one (ps_ret (Mc.pe_mkMe T.me T.x_MeetcellsError T.m_super T.g_MeetcellsError (hr.mono (by decide) : Room 1 _) (by exact (pa_cons (pv 1) pa_nil))))))))))))))), ?_⟩
    refine ⟨_, rfl, rfl, _, rfl, ?_⟩
    by_cases c0 : n = 0
    · subst c0
      exact iteT ⟨_, rfl, v, rfl, fun d e h1 h2 h3 => q d e h1 h2 h3⟩
    rw [decide_eq_false (fun z => c0 (by have := V.int.inj z; omega))]
    refine iteF ?_
    refine ⟨_, rfl, rfl, _, rfl, ?_⟩
    by_cases c1 : n = 1
    · subst c1
      exact iteT ⟨_, rfl, v, rfl, fun d e h1 h2 h3 => q d e h1 h2 h3⟩
    rw [decide_eq_false (fun z => c1 (by have := V.int.inj z; omega))]
    refine iteF ?_
    refine ⟨_, rfl, rfl, _, rfl, ?_⟩
    by_cases c2 : n = 2
    · subst c2
      exact iteT ⟨_, rfl, v, rfl, fun d e h1 h2 h3 => q d e h1 h2 h3⟩
    rw [decide_eq_false (fun z => c2 (by have := V.int.inj z; omega))]
    refine iteF ?_
    refine ⟨_, rfl, rfl, _, rfl, ?_⟩
    by_cases c3 : n = 3
    · subst c3
      exact iteT ⟨_, rfl, v, rfl, fun d e h1 h2 h3 => q d e h1 h2 h3⟩
    rw [decide_eq_false (fun z => c3 (by have := V.int.inj z; omega))]
    refine iteF ?_
    refine ⟨_, rfl, rfl, _, rfl, ?_⟩
    by_cases c4 : n = 4
    · subst c4
      exact iteT ⟨_, rfl, v, rfl, fun d e h1 h2 h3 => q d e h1 h2 h3⟩
    rw [decide_eq_false (fun z => c4 (by have := V.int.inj z; omega))]
    refine iteF ?_
    refine ⟨_, rfl, rfl, _, rfl, ?_⟩
    by_cases c5 : n = 5
    · subst c5
      exact iteT ⟨_, rfl, v, rfl, fun d e h1 h2 h3 => q d e h1 h2 h3⟩
    rw [decide_eq_false (fun z => c5 (by have := V.int.inj z; omega))]
    refine iteF ?_
    refine ⟨_, rfl, rfl, _, rfl, ?_⟩
    by_cases c6 : n = 6
    · subst c6
      exact iteT ⟨_, rfl, v, rfl, fun d e h1 h2 h3 => q d e h1 h2 h3⟩
    rw [decide_eq_false (fun z => c6 (by have := V.int.inj z; omega))]
    refine iteF ?_
    refine ⟨_, rfl, rfl, _, rfl, ?_⟩
    by_cases c7 : n = 7
    · subst c7
      exact iteT ⟨_, rfl, v, rfl, fun d e h1 h2 h3 => q d e h1 h2 h3⟩
    rw [decide_eq_false (fun z => c7 (by have := V.int.inj z; omega))]
    refine iteF ?_
    refine ⟨_, rfl, rfl, _, rfl, ?_⟩
    by_cases c8 : n = 8
    · subst c8
      exact iteT ⟨_, rfl, v, rfl, fun d e h1 h2 h3 => q d e h1 h2 h3⟩
    rw [decide_eq_false (fun z => c8 (by have := V.int.inj z; omega))]
    refine iteF ?_
    refine ⟨_, rfl, v, rfl, fun d e h1 h2 h3 => ?_⟩
    have := q d e h1 h2 h3
    rwa [List.getD_eq_getElem?_getD, List.getElem?_eq_none (by show 9 ≤ n; omega)] at this
def exList : List Str := ["InvalidNumber", "InvalidKind", "InvalidKinds", "InvalidWires", "InvalidWord", "InvalidEnd", "InvalidPort", "InvalidPair", "InvalidPairs", "InvalidOrder", "InvalidNet", "InvalidRows", "InvalidName", "InvalidDeed", "InvalidDeeds", "InvalidLine", "BadText", "TooLarge", "NotReduced", "HasRing", "UnlikeEnds", "NotCopyable", "NotEnded", "UnknownName", "NothingToUndo", "InvalidMove", "InvalidMoves"]
theorem ok__law_made (T : Txt P w K mg) : FnR P w K mg base (L2.CX P w) 3 (He.ga K "_law_made") (spMk K exList) := by
  have G__law_first := ok__law_first (base := base) T
  have G__law_second := ok__law_second (base := base) T
  have G__law_third := ok__law_third (base := base) T
  obtain ⟨fd, F⟩ := T.f__law_made
  refine fnR_body F sc__law_made (F.bindsN (fun _ _ _ _ _ _ us hl => match us, hl with | [_, _], _ => rfl)) ?_ ?_
  · rintro vs H Q E ⟨n, v, rfl, _⟩
    rfl
  · rintro cdv A outer s H vs Q E hr ⟨n, v, rfl, q⟩
    refine ⟨_, (PSs.nox (pss_cons (ps_if (pt_cmpR op_lt (pv 0) pe_int (nomark _)) (pss_one (ps_ret (Mc.pe_callR G__law_first (hr.mono (by decide)) (by rfl) T.g__law_first T.k__law_first pass_no (pa_cons (pv 0) (pa_cons (pv 1) pa_nil))))) pss_nil)
      (pss_cons (ps_if (pt_cmpR op_lt (pv 0) pe_int (nomark _)) (pss_one (ps_ret (Mc.pe_callR G__law_second (hr.mono (by decide)) (by rfl) T.g__law_second T.k__law_second pass_no (pa_cons (pe_op op_sub (pv 0) pe_int) (pa_cons (pv 1) pa_nil))))) pss_nil)
      (pss_one (ps_ret (Mc.pe_callR G__law_third (hr.mono (by decide)) (by rfl) T.g__law_third T.k__law_third pass_no (pa_cons (pe_op op_sub (pv 0) pe_int) (pa_cons (pv 1) pa_nil)))))))), ?_⟩
    refine ⟨_, rfl, _, _, rfl, rfl, _, rfl, ?_⟩
    by_cases c : (n : Int) < 9
    · rw [decide_eq_true c]
      refine iteT ⟨_, rfl, _, rfl, n, v, rfl, fun d e h1 h2 h3 => ?_⟩
      have := q d e h1 h2 h3
      rcases (by omega : n = 0 ∨ n = 1 ∨ n = 2 ∨ n = 3 ∨ n = 4 ∨ n = 5 ∨ n = 6 ∨ n = 7 ∨ n = 8) with rfl | rfl | rfl | rfl | rfl | rfl | rfl | rfl | rfl <;> exact this
    rw [decide_eq_false c]
    refine iteF ⟨_, rfl, _, _, rfl, rfl, _, rfl, ?_⟩
    by_cases c2 : (n : Int) < 18
    · rw [decide_eq_true c2]
      refine iteT ⟨_, rfl, _, _, rfl, rfl, _, rfl, n - 9, v, by rw [show ((n - 9 : Nat) : Int) = (n : Int) - 9 by omega], fun d e h1 h2 h3 => ?_⟩
      have := q d e h1 h2 h3
      rcases (by omega : n = 9 ∨ n = 10 ∨ n = 11 ∨ n = 12 ∨ n = 13 ∨ n = 14 ∨ n = 15 ∨ n = 16 ∨ n = 17) with rfl | rfl | rfl | rfl | rfl | rfl | rfl | rfl | rfl <;> exact this
    rw [decide_eq_false c2]
    refine iteF ⟨_, rfl, _, _, rfl, rfl, _, rfl, n - 18, v, by rw [show ((n - 18 : Nat) : Int) = (n : Int) - 18 by omega], fun d e h1 h2 h3 => ?_⟩
    have := q d e h1 h2 h3
    by_cases c3 : n < 27
    · rcases (by omega : n = 18 ∨ n = 19 ∨ n = 20 ∨ n = 21 ∨ n = 22 ∨ n = 23 ∨ n = 24 ∨ n = 25 ∨ n = 26) with rfl | rfl | rfl | rfl | rfl | rfl | rfl | rfl | rfl <;> exact this
    · rw [List.getD_eq_getElem?_getD, List.getElem?_eq_none (by show 9 ≤ n - 18; omega)]
      rwa [List.getD_eq_getElem?_getD, List.getElem?_eq_none (by show 27 ≤ n; omega)] at this
def isL (x : Str) (l : List Str) : List V := l.map fun y => V.bl (decide (x = y))
def spIs (K : PySem.W.Frag) : Sp := fun vs H Q _ => ∃ (e d : Addr) (x : Str) (v : V), vs = [.ref e] ∧ x ∈ exNames ∧ H e = some (ExV (He.ga K x) d e) ∧ H d = some (.xd [(("value" : Str), v)]) ∧ ∀ L G, H L = none → G L = some (.lst (isL x exList)) → Ext H G → Q (.ref L) G
theorem ok__law_is (T : Txt P w K mg) : FnR P w K mg base (L2.CX P w) 1 (He.ga K "_law_is") (spIs K) := by
  obtain ⟨fd, F⟩ := T.f__law_is
  refine fnR_body F sc__law_is (F.bindsN (fun _ _ _ _ _ _ us hl => match us, hl with | [_], _ => rfl)) ?_ ?_
  · rintro vs H Q E ⟨e, d, x, v, rfl, _⟩
    rfl
  · rintro cdv A outer s H vs Q E hr ⟨e, d, x, v, rfl, hx, he, hd, fin⟩
    refine ⟨_, (PSs.nox (Mc.pss_mid (ps_set (i := 1) sc__law_is.nd rfl (Or.inl rfl) (pe_lst (pa_cons (pe_callB (Mc.call_isV (exc_ok T)) (by rfl) T.m_isinstance (by decide +kernel) (pa_cons (pv 0) (pa_cons (pe_glob (v := .ref (He.ga K "InvalidNumber")) (by rfl) T.g_InvalidNumber rfl) pa_nil))) (pa_cons (pe_callB (Mc.call_isV (exc_ok T)) (by rfl) T.m_isinstance (by decide +kernel) (pa_cons (pv 0) (pa_cons (pe_glob (v := .ref (He.ga K "InvalidKind")) (by rfl) T.g_InvalidKind rfl) pa_nil))) (pa_cons (pe_callB (Mc.call_isV (exc_ok T)) (by rfl) T.m_isinstance (by decide +kernel) (pa_cons (pv 0) (pa_cons (pe_glob (v := .ref (He.ga K "InvalidKinds")) (by rfl) T.g_InvalidKinds rfl) pa_nil))) (pa_cons (pe_callB (Mc.call_isV (exc_ok T)) (by rfl) T.m_isinstance (by decide +kernel) (pa_cons (pv 0) (pa_cons (pe_glob (v := .ref (He.ga K "InvalidWires")) (by rfl) T.g_InvalidWires rfl) pa_nil))) (pa_cons (pe_callB (Mc.call_isV (exc_ok T)) (by rfl) T.m_isinstance (by decide +kernel) (pa_cons (pv 0) (pa_cons (pe_glob (v := .ref (He.ga K "InvalidWord")) (by rfl) T.g_InvalidWord rfl) pa_nil))) (pa_cons (pe_callB (Mc.call_isV (exc_ok T)) (by rfl) T.m_isinstance (by decide +kernel) (pa_cons (pv 0) (pa_cons (pe_glob (v := .ref (He.ga K "InvalidEnd")) (by rfl) T.g_InvalidEnd rfl) pa_nil))) (pa_cons (pe_callB (Mc.call_isV (exc_ok T)) (by rfl) T.m_isinstance (by decide +kernel) (pa_cons (pv 0) (pa_cons (pe_glob (v := .ref (He.ga K "InvalidPort")) (by rfl) T.g_InvalidPort rfl) pa_nil))) (pa_cons (pe_callB (Mc.call_isV (exc_ok T)) (by rfl) T.m_isinstance (by decide +kernel) (pa_cons (pv 0) (pa_cons (pe_glob (v := .ref (He.ga K "InvalidPair")) (by rfl) T.g_InvalidPair rfl) pa_nil))) (pa_cons (pe_callB (Mc.call_isV (exc_ok T)) (by rfl) T.m_isinstance (by decide +kernel) (pa_cons (pv 0) (pa_cons (pe_glob (v := .ref (He.ga K "InvalidPairs")) (by rfl) T.g_InvalidPairs rfl) pa_nil))) pa_nil)))))))))))
      (Mc.pss_mid (ps_set (i := 1) sc__law_is.nd rfl (Or.inl rfl) (pe_op op_cat (pv 1) (pe_lst (pa_cons (pe_callB (Mc.call_isV (exc_ok T)) (by rfl) T.m_isinstance (by decide +kernel) (pa_cons (pv 0) (pa_cons (pe_glob (v := .ref (He.ga K "InvalidOrder")) (by rfl) T.g_InvalidOrder rfl) pa_nil))) (pa_cons (pe_callB (Mc.call_isV (exc_ok T)) (by rfl) T.m_isinstance (by decide +kernel) (pa_cons (pv 0) (pa_cons (pe_glob (v := .ref (He.ga K "InvalidNet")) (by rfl) T.g_InvalidNet rfl) pa_nil))) (pa_cons (pe_callB (Mc.call_isV (exc_ok T)) (by rfl) T.m_isinstance (by decide +kernel) (pa_cons (pv 0) (pa_cons (pe_glob (v := .ref (He.ga K "InvalidRows")) (by rfl) T.g_InvalidRows rfl) pa_nil))) (pa_cons (pe_callB (Mc.call_isV (exc_ok T)) (by rfl) T.m_isinstance (by decide +kernel) (pa_cons (pv 0) (pa_cons (pe_glob (v := .ref (He.ga K "InvalidName")) (by rfl) T.g_InvalidName rfl) pa_nil))) (pa_cons (pe_callB (Mc.call_isV (exc_ok T)) (by rfl) T.m_isinstance (by decide +kernel) (pa_cons (pv 0) (pa_cons (pe_glob (v := .ref (He.ga K "InvalidDeed")) (by rfl) T.g_InvalidDeed rfl) pa_nil))) (pa_cons (pe_callB (Mc.call_isV (exc_ok T)) (by rfl) T.m_isinstance (by decide +kernel) (pa_cons (pv 0) (pa_cons (pe_glob (v := .ref (He.ga K "InvalidDeeds")) (by rfl) T.g_InvalidDeeds rfl) pa_nil))) (pa_cons (pe_callB (Mc.call_isV (exc_ok T)) (by rfl) T.m_isinstance (by decide +kernel) (pa_cons (pv 0) (pa_cons (pe_glob (v := .ref (He.ga K "InvalidLine")) (by rfl) T.g_InvalidLine rfl) pa_nil))) (pa_cons (pe_callB (Mc.call_isV (exc_ok T)) (by rfl) T.m_isinstance (by decide +kernel) (pa_cons (pv 0) (pa_cons (pe_glob (v := .ref (He.ga K "BadText")) (by rfl) T.g_BadText rfl) pa_nil))) (pa_cons (pe_callB (Mc.call_isV (exc_ok T)) (by rfl) T.m_isinstance (by decide +kernel) (pa_cons (pv 0) (pa_cons (pe_glob (v := .ref (He.ga K "TooLarge")) (by rfl) T.g_TooLarge rfl) pa_nil))) pa_nil))))))))))))
      (pss_one (ps_ret (pe_op op_cat (pv 1) (pe_lst (pa_cons (pe_callB (Mc.call_isV (exc_ok T)) (by rfl) T.m_isinstance (by decide +kernel) (pa_cons (pv 0) (pa_cons (pe_glob (v := .ref (He.ga K "NotReduced")) (by rfl) T.g_NotReduced rfl) pa_nil))) (pa_cons (pe_callB (Mc.call_isV (exc_ok T)) (by rfl) T.m_isinstance (by decide +kernel) (pa_cons (pv 0) (pa_cons (pe_glob (v := .ref (He.ga K "HasRing")) (by rfl) T.g_HasRing rfl) pa_nil))) (pa_cons (pe_callB (Mc.call_isV (exc_ok T)) (by rfl) T.m_isinstance (by decide +kernel) (pa_cons (pv 0) (pa_cons (pe_glob (v := .ref (He.ga K "UnlikeEnds")) (by rfl) T.g_UnlikeEnds rfl) pa_nil))) (pa_cons (pe_callB (Mc.call_isV (exc_ok T)) (by rfl) T.m_isinstance (by decide +kernel) (pa_cons (pv 0) (pa_cons (pe_glob (v := .ref (He.ga K "NotCopyable")) (by rfl) T.g_NotCopyable rfl) pa_nil))) (pa_cons (pe_callB (Mc.call_isV (exc_ok T)) (by rfl) T.m_isinstance (by decide +kernel) (pa_cons (pv 0) (pa_cons (pe_glob (v := .ref (He.ga K "NotEnded")) (by rfl) T.g_NotEnded rfl) pa_nil))) (pa_cons (pe_callB (Mc.call_isV (exc_ok T)) (by rfl) T.m_isinstance (by decide +kernel) (pa_cons (pv 0) (pa_cons (pe_glob (v := .ref (He.ga K "UnknownName")) (by rfl) T.g_UnknownName rfl) pa_nil))) (pa_cons (pe_callB (Mc.call_isV (exc_ok T)) (by rfl) T.m_isinstance (by decide +kernel) (pa_cons (pv 0) (pa_cons (pe_glob (v := .ref (He.ga K "NothingToUndo")) (by rfl) T.g_NothingToUndo rfl) pa_nil))) (pa_cons (pe_callB (Mc.call_isV (exc_ok T)) (by rfl) T.m_isinstance (by decide +kernel) (pa_cons (pv 0) (pa_cons (pe_glob (v := .ref (He.ga K "InvalidMove")) (by rfl) T.g_InvalidMove rfl) pa_nil))) (pa_cons (pe_callB (Mc.call_isV (exc_ok T)) (by rfl) T.m_isinstance (by decide +kernel) (pa_cons (pv 0) (pa_cons (pe_glob (v := .ref (He.ga K "InvalidMoves")) (by rfl) T.g_InvalidMoves rfl) pa_nil))) pa_nil)))))))))))))))), ?_⟩
    have kt := (T.xt x (by
      have h := hx
      unfold exNames at h
      simp only [List.mem_cons, List.not_mem_nil, or_false] at h
      rcases h with rfl | rfl | rfl | rfl | rfl | rfl | rfl | rfl | rfl | rfl | rfl | rfl | rfl | rfl | rfl | rfl | rfl | rfl | rfl | rfl | rfl | rfl | rfl | rfl | rfl | rfl | rfl | rfl <;> simp)).1
    refine ⟨fun τ G => ∃ L, τ = [some (.ref e), some (.ref L)] ∧ H L = none ∧ G L = some (.lst (isL x (exList.take 9))) ∧ Ext H G, ?_, ?_⟩
    · exact ⟨_, rfl, e, d, _, d, v, _, _, decide (x = "InvalidNumber"), rfl, .own _, ⟨x, hx, rfl⟩,  he,  hd, kt "InvalidNumber" (by simp), _, rfl, e, d, _, d, v, _, _, decide (x = "InvalidKind"), rfl, .own _, ⟨x, hx, rfl⟩,  he,  hd, kt "InvalidKind" (by simp), _, rfl, e, d, _, d, v, _, _, decide (x = "InvalidKinds"), rfl, .own _, ⟨x, hx, rfl⟩,  he,  hd, kt "InvalidKinds" (by simp), _, rfl, e, d, _, d, v, _, _, decide (x = "InvalidWires"), rfl, .own _, ⟨x, hx, rfl⟩,  he,  hd, kt "InvalidWires" (by simp), _, rfl, e, d, _, d, v, _, _, decide (x = "InvalidWord"), rfl, .own _, ⟨x, hx, rfl⟩,  he,  hd, kt "InvalidWord" (by simp), _, rfl, e, d, _, d, v, _, _, decide (x = "InvalidEnd"), rfl, .own _, ⟨x, hx, rfl⟩,  he,  hd, kt "InvalidEnd" (by simp), _, rfl, e, d, _, d, v, _, _, decide (x = "InvalidPort"), rfl, .own _, ⟨x, hx, rfl⟩,  he,  hd, kt "InvalidPort" (by simp), _, rfl, e, d, _, d, v, _, _, decide (x = "InvalidPair"), rfl, .own _, ⟨x, hx, rfl⟩,  he,  hd, kt "InvalidPair" (by simp), _, rfl, e, d, _, d, v, _, _, decide (x = "InvalidPairs"), rfl, .own _, ⟨x, hx, rfl⟩,  he,  hd, kt "InvalidPairs" (by simp), (by show 9 ≤ sizeLine; decide), fun L hL => ⟨L, rfl, hL, upd_same, Ext.new hL⟩⟩
    rintro _ G1 ⟨L1, rfl, hL1, g1, E1⟩
    have he1 := E1 _ _ he
    have hd1 := E1 _ _ hd
    refine ⟨fun τ G => ∃ L, τ = [some (.ref e), some (.ref L)] ∧ G L = some (.lst (isL x (exList.take 18))) ∧ Ext H G, ?_, ?_⟩
    · refine ⟨_, rfl, _, rfl, e, d, _, d, v, _, _, decide (x = "InvalidOrder"), rfl, .own _, ⟨x, hx, rfl⟩, he1, hd1, kt "InvalidOrder" (by simp), _, rfl, e, d, _, d, v, _, _, decide (x = "InvalidNet"), rfl, .own _, ⟨x, hx, rfl⟩, he1, hd1, kt "InvalidNet" (by simp), _, rfl, e, d, _, d, v, _, _, decide (x = "InvalidRows"), rfl, .own _, ⟨x, hx, rfl⟩, he1, hd1, kt "InvalidRows" (by simp), _, rfl, e, d, _, d, v, _, _, decide (x = "InvalidName"), rfl, .own _, ⟨x, hx, rfl⟩, he1, hd1, kt "InvalidName" (by simp), _, rfl, e, d, _, d, v, _, _, decide (x = "InvalidDeed"), rfl, .own _, ⟨x, hx, rfl⟩, he1, hd1, kt "InvalidDeed" (by simp), _, rfl, e, d, _, d, v, _, _, decide (x = "InvalidDeeds"), rfl, .own _, ⟨x, hx, rfl⟩, he1, hd1, kt "InvalidDeeds" (by simp), _, rfl, e, d, _, d, v, _, _, decide (x = "InvalidLine"), rfl, .own _, ⟨x, hx, rfl⟩, he1, hd1, kt "InvalidLine" (by simp), _, rfl, e, d, _, d, v, _, _, decide (x = "BadText"), rfl, .own _, ⟨x, hx, rfl⟩, he1, hd1, kt "BadText" (by simp), _, rfl, e, d, _, d, v, _, _, decide (x = "TooLarge"), rfl, .own _, ⟨x, hx, rfl⟩, he1, hd1, kt "TooLarge" (by simp), (by show 9 ≤ sizeLine; decide), fun L hL => ?_⟩
      have E := Ext.new (o := .lst (isL x ((exList.drop 9).take 9))) hL
      refine ⟨L1, L, _, _, rfl, rfl, E _ _ g1, upd_same, (by show 9 + 9 ≤ sizeLine; decide), fun L2 hL2 => ⟨L2, rfl, upd_same, (E1.trans E).trans (Ext.new hL2)⟩⟩
    rintro _ G2 ⟨L2, rfl, g2, E2⟩
    have he2 := E2 _ _ he
    have hd2 := E2 _ _ hd
    refine ⟨_, rfl, _, rfl, e, d, _, d, v, _, _, decide (x = "NotReduced"), rfl, .own _, ⟨x, hx, rfl⟩, he2, hd2, kt "NotReduced" (by simp), _, rfl, e, d, _, d, v, _, _, decide (x = "HasRing"), rfl, .own _, ⟨x, hx, rfl⟩, he2, hd2, kt "HasRing" (by simp), _, rfl, e, d, _, d, v, _, _, decide (x = "UnlikeEnds"), rfl, .own _, ⟨x, hx, rfl⟩, he2, hd2, kt "UnlikeEnds" (by simp), _, rfl, e, d, _, d, v, _, _, decide (x = "NotCopyable"), rfl, .own _, ⟨x, hx, rfl⟩, he2, hd2, kt "NotCopyable" (by simp), _, rfl, e, d, _, d, v, _, _, decide (x = "NotEnded"), rfl, .own _, ⟨x, hx, rfl⟩, he2, hd2, kt "NotEnded" (by simp), _, rfl, e, d, _, d, v, _, _, decide (x = "UnknownName"), rfl, .own _, ⟨x, hx, rfl⟩, he2, hd2, kt "UnknownName" (by simp), _, rfl, e, d, _, d, v, _, _, decide (x = "NothingToUndo"), rfl, .own _, ⟨x, hx, rfl⟩, he2, hd2, kt "NothingToUndo" (by simp), _, rfl, e, d, _, d, v, _, _, decide (x = "InvalidMove"), rfl, .own _, ⟨x, hx, rfl⟩, he2, hd2, kt "InvalidMove" (by simp), _, rfl, e, d, _, d, v, _, _, decide (x = "InvalidMoves"), rfl, .own _, ⟨x, hx, rfl⟩, he2, hd2, kt "InvalidMoves" (by simp), (by show 9 ≤ sizeLine; decide), fun L hL => ?_⟩
    have E := Ext.new (o := .lst (isL x ((exList.drop 18).take 9))) hL
    refine ⟨L2, L, _, _, rfl, rfl, E _ _ g2, upd_same, (by show 18 + 9 ≤ sizeLine; decide), fun L3 hL3 => ?_⟩
    have E3 := E.trans (Ext.new (o := .lst (isL x exList)) hL3)
    refine fin L3 _ ((E2.trans E).fresh hL3) upd_same (E2.trans E3)
end Me
/-! McIn: y in x of an instance with its own __contains__; min of two ports; len(set(xs)) of ports. -/
namespace Mc
open PySem PySem.Spec PyProof.Rows L2
section
variable {X : Cx} {k : Nat} {f cls : Addr} {sp : Sp}
/-- y in x, x an instance that has its own `in`: the answer is a truth -/
def rInO (cls : Addr) (sp : Sp) : R2 := fun y x H Q => ∃ (o dx : Addr) (fs : List (Str × V)), x = .ref o ∧ H o = some (.ins cls dx fs) ∧ sp [.ref o, y] H (fun v H' => ∃ c, v = .bl c ∧ Q (.bl c) H') E0
theorem op_inO (F : FnR X.prog X.w X.K X.mg X.base (L2.CX X.prog X.w) k f sp) (hr : Room k X.A) (m : Meth X.K cls "__contains__" f) : OpR X (compareOp .In) (rInO cls sp) := by
  intro pins s σ H y x v u Q I ry rx h
  obtain ⟨o, dx, fs, rfl, ho, q⟩ := h
  obtain rfl : u = Value.ref o := rx
  obtain ⟨od, J⟩ := inst_of I ho
  obtain ⟨mm, hF⟩ := I.fr
  refine PySem.W.in_K hF I.ok.mod.kin J m.at_ m.fn ?_
  refine wpAny_call (codeAny_mono (F X.A X.stack s H [.ref o, v] [.ref o, y] _ E0 hr I.env0 (.cons rfl (.cons ry .nil)) q) ?_)
  intro res s' hq
  cases res with
  | error er => exact pass_no (X := X) σ pins H s er s' I hq
  | ok fl =>
    cases fl with
    | ret u =>
      obtain ⟨v, H', I', rv, c, rfl, h2⟩ := I.after hq
      obtain rfl : u = Value.bool c := rv
      exact wpAny_truthy_bool ⟨.bl c, H', I', rfl, h2⟩
    | next => exact hq.elim
    | brk => exact hq.elim
    | cont => exact hq.elim
end
section
variable {X : Cx}
/-- min([p, q]) of two ports: the first one, if both are alike -/
def rMinP (K : PySem.W.Frag) : List V → Hp → VK → Prop := fun vs H Q => ∃ (a : Addr) (x y : V) (p q : Port), vs = [V.ref a] ∧ SqL K H a [x, y] ∧ PV H x p ∧ PV H y q ∧ Q (if pLt q p = true then y else x) H
theorem cr_minP (hc : X.calm = true) (hu : X.A.units + 64 < cLine) : CallR X (.builtin "min") (rMinP X.K) := by
  intro pins s σ H vs us Q I r h
  obtain ⟨a, x, y, p, q, rfl, hs, hx, hy, hq⟩ := h
  obtain ⟨its, rv, hl, hz⟩ := I.list hs
  rw [Vals.ref1 r]
  obtain ⟨u1, u2, rfl, r1, r2⟩ : ∃ u1 u2, its = [u1, u2] ∧ RelV x u1 ∧ RelV y u2 := by
    cases rv with
    | cons r1 t =>
      cases t with
      | cons r2 t => cases t; exact ⟨_, _, rfl, r1, r2⟩
  obtain ⟨as, d1⟩ := Dp.reads I _ x u1 (pv_dp hx) r1
  obtain ⟨bs, d2⟩ := Dp.reads I _ y u2 (pv_dp hy) r2
  have hR : ReadsAll s.heap [u1, u2] [portD p, portD q] (as ++ (bs ++ [])) := .cons d1 (.cons d2 .nil)
  have al : PySem.W.AlikeAll [portD p, portD q] := by
    refine ⟨fun d hd e he => ?_, fun d hd => ?_⟩
    · have z : ∀ d ∈ [portD p, portD q], ∃ r, d = portD r := fun d hd => by
        rcases List.mem_cons.mp hd with rfl | hd
        · exact ⟨p, rfl⟩
        · exact ⟨q, List.mem_singleton.mp hd⟩
      obtain ⟨r, rfl⟩ := z d hd
      obtain ⟨t, rfl⟩ := z e he
      exact alike_port r t
    · rcases List.mem_cons.mp hd with rfl | hd
      · exact fun z => nomatch z
      · rw [List.mem_singleton.mp hd]
        exact fun z => nomatch z
  have dep : PyData.depthAll [portD p, portD q] ≤ 60 := by
    simp [PyData.depthAll, portD, PyData.depth]
  have hn : (#[u1, u2] : Array Value).size = 2 := rfl
  refine call_min_walkH (PySem.W.iter_listW (A := X.A.in1) (I.ok.hd hc) hl.isList fun s₂ e W st hfp hw hk => ?_)
  refine ⟨_, _, _, _, _, _, _, s.heap, _, rfl, W, st, hfp, by show 0 < 2; decide, hw, hk, PySem.W.cmpIn_lt (A := X.A.in1) hR al (by show X.A.units + 1 + _ < _; omega), fun v s' hP m => ?_⟩
  obtain ⟨h', tk, rfl, hk'⟩ := PySem.W.moved_old e rfl m
  refine ⟨if pLt q p = true then y else x, H, I.kept hk', ?_, hq⟩
  have hb : PySem.W.dataLt ([portD p, portD q].getD 1 .none) ([portD p, portD q].getD 0 .none) = pLt q p := dataLt_port q p
  have hP : (#[u1, u2] : Array Value)[argBest (fun i j => PySem.W.dataLt ([portD p, portD q].getD i .none) ([portD p, portD q].getD j .none)) 1]? = some v := hP
  by_cases c : pLt q p = true
  · rw [if_pos c]
    have e1 : argBest (fun i j => PySem.W.dataLt ([portD p, portD q].getD i .none) ([portD p, portD q].getD j .none)) 1 = 1 := by
      show (if PySem.W.dataLt ([portD p, portD q].getD 1 .none) ([portD p, portD q].getD 0 .none) = true then 1 else 0) = 1
      rw [hb, if_pos c]
    rw [e1] at hP
    rw [← Option.some.inj (show some u2 = some v from hP)]
    exact r2
  · rw [if_neg c]
    have e1 : argBest (fun i j => PySem.W.dataLt ([portD p, portD q].getD i .none) ([portD p, portD q].getD j .none)) 1 = 0 := by
      show (if PySem.W.dataLt ([portD p, portD q].getD 1 .none) ([portD p, portD q].getD 0 .none) = true then 1 else 0) = 0
      rw [hb, if_neg c]
    rw [e1] at hP
    rw [← Option.some.inj (show some u1 = some v from hP)]
    exact r1
/-- len(set(xs)), xs a list of ports -/
def tLenSetT (K : PySem.W.Frag) (ta : TE) : TE := fun σ H Q => ta σ H fun x H1 => ∃ (l : Addr) (xs : List V) (ps : List Port), x = V.ref l ∧ SqL K H1 l xs ∧ Paired (PV H1) xs ps ∧ ps.length < 64 ∧
  ∀ D : List Port, D.Nodup → (∀ p, p ∈ D ↔ p ∈ ps) → Q (.int (D.length : Int)) H1
theorem refs_of {H : Hp} : ∀ {xs : List V} {ps : List Port}, Paired (PV H) xs ps → ∃ ks : List (Addr × List Int), xs = ks.map (fun p => V.ref p.1) ∧ ks.map (·.2) = ps.map (fun p => [p.1, p.2]) ∧ ∀ k ∈ ks, H k.1 = some (.tup (k.2.map V.int))
  | _, _, .nil => ⟨[], rfl, rfl, fun _ h => nomatch h⟩
  | _, _, .cons (b := p) ⟨t, e, ht⟩ r => by
    subst e
    obtain ⟨ks, h1, h2, h3⟩ := refs_of r
    refine ⟨(t, [p.1, p.2]) :: ks, by rw [h1]; rfl, by rw [List.map_cons, List.map_cons, h2], fun k hk => ?_⟩
    rcases List.mem_cons.mp hk with rfl | hk
    · exact ht
    · exact h3 k hk
theorem pe_lenSetT {a : Expr} {ta : TE} {p p2 q pos : Pos} (hc : X.calm = true) (hu : X.A.units + 64 < cLine) (hg : Gl X "len") (hm : X.mg "len" = none) (hg2 : Gl X "set") (hm2 : X.mg "set" = none) (ha : PE X a ta)
    (na : starEach [a] X.env = (false, eval a X.env) :: starEach [] X.env := by rfl) : PE X (.Call (.Name "len" p) [.Call (.Name "set" p2) [a] [] q] [] pos) (tLenSetT X.K ta) := by
  refine ⟨fun pins s σ H Q I h => ?_⟩
  refine Call_ (ld_blt I hg hm PySem.boot_len ?_)
  refine PyProof.Rows.callWith_builtin1 (PyProof.Rows.args_cons ?_ rfl) rfl rfl
  refine Call_ (ld_blt I hg2 hm2 PyProof.Rows.boot_set ?_)
  refine PyProof.Rows.callWith_type1 (PyProof.Rows.args_cons (thn (ha.run pins s σ H _ I h) fun v s1 ⟨x, H1, I1, r1, q1⟩ => PyProof.Rows.args_nil ?_) na) na rfl
  obtain ⟨l, xs, ps, rfl, hq, hP, h1, q1⟩ := q1
  cases r1
  obtain ⟨its, rv, pl, hz⟩ := I1.list hq
  obtain ⟨ks, rfl, e2, hk⟩ := refs_of hP
  have kl : ks.length = ps.length := by
    have := congrArg List.length e2
    rwa [List.length_map, List.length_map] at this
  refine call_set_tups (P := X.prog) (w := X.w) ks (I1.ok.hd hc) pl.isList (by simpa using refs_of_vals rv) (fun p hp => I1.isT (.inl (.inl (hk p hp)))) (by omega) (by omega) fun h' tk L es ep t R g k => ?_
  refine PyProof.Rows.args_nil ?_
  have I2 : Inv X pins σ H1 { s1 with heap := h', toks := tk } := I1.kept k
  obtain ⟨o, ho, hex, hd⟩ := R.ob
  have inj : ∀ a b : List Int, a ∈ ps.map (fun p => [p.1, p.2]) → b ∈ ps.map (fun p => [p.1, p.2]) → ((a.getD 0 0, a.getD 1 0) : Port) = (b.getD 0 0, b.getD 1 0) → a = b := fun a b ha hb e => by
    obtain ⟨x, _, rfl⟩ := List.mem_map.mp ha
    obtain ⟨y, _, rfl⟩ := List.mem_map.mp hb
    have e : (x.1, x.2) = (y.1, y.2) := e
    have : x = y := e
    rw [this]
  have sub : ∀ z ∈ L, z.2 ∈ ps.map (fun p => [p.1, p.2]) := fun z hz => by
    rw [← e2]
    exact List.mem_map.mpr ⟨z, List.mem_of_mem_take (g.sub z hz), rfl⟩
  have q2 := q1 (L.map fun z => ((z.2.getD 0 0, z.2.getD 1 0) : Port)) (by
    have : (L.map (·.2)).Nodup := R.nd
    have h2 : (L.map fun z => ((z.2.getD 0 0, z.2.getD 1 0) : Port)) = (L.map (·.2)).map fun a => ((a.getD 0 0, a.getD 1 0) : Port) := by rw [List.map_map]; rfl
    rw [h2]
    refine List.Pairwise.map _ ?_ (List.Pairwise.imp_of_mem (fun {a b} ha hb hn => (⟨ha, hb, hn⟩ : a ∈ L.map (·.2) ∧ b ∈ L.map (·.2) ∧ a ≠ b)) this)
    rintro a b ⟨ha, hb, hn⟩ e
    obtain ⟨z1, m1, rfl⟩ := List.mem_map.mp ha
    obtain ⟨z2, m2, rfl⟩ := List.mem_map.mp hb
    exact hn (inj _ _ (sub z1 m1) (sub z2 m2) e)) fun p => by
    constructor
    · intro h
      obtain ⟨z, hz, e⟩ := List.mem_map.mp h
      obtain ⟨y, hy, ey⟩ := List.mem_map.mp (sub z hz)
      have : p = y := by rw [← e, ← ey]; rfl
      rwa [this]
    · intro h
      have hm : [p.1, p.2] ∈ ks.map (·.2) := by rw [e2]; exact List.mem_map.mpr ⟨p, h, rfl⟩
      obtain ⟨z, hz, ez⟩ := List.mem_map.mp hm
      have := g.all z (by rw [List.take_length]; exact hz)
      obtain ⟨z2, m2, e3⟩ := List.mem_map.mp this
      refine List.mem_map.mpr ⟨z2, m2, ?_⟩
      rw [show z2.2 = [p.1, p.2] from e3.trans ez]
      rfl
  rw [List.length_map] at q2
  have es_ := SetTR.size (s := { s1 with heap := h', toks := tk }) R
  exact call_len_set ho hex hd (SetTR.fits (s := { s1 with heap := h', toks := tk }) R) (by rw [es_]; have := R.few; omega) ⟨.int L.length, H1, I2.tok _, ⟨_, by rw [es_]⟩, q2⟩
end
end Mc
/-! McHot: within an except suite: a tuple taken apart; y in x by the promise of __contains__. -/
namespace Mc
open PySem PySem.Spec PyProof.Rows L2 L2H HotX
section
variable {prog : Program} {w : World} {A : Around} {E : Value → Shared → Prop} {s : Shared}
theorem next_tuple_end_hot {it t x1 : Addr} {i : Nat} {items} {Q : Option Value → Shared → Prop} (hot : HotAt A x1 s.heap)
    (hit : IsTupIter s.heap it t i) (ht : PyProof.Rows.IsTup s.heap t items) (hx : items[i]? = none)
    (hQ : ∀ h', Heap.ExtBut it s.heap h' → Q none { s with heap := h' }) : wpAny (model prog w) A (pyNext (.ref it)) Q E s := by
  obtain ⟨o, ho, hc, hd⟩ := id hit
  obtain ⟨ol, hol, _, nl, hdl⟩ := ht
  obtain ⟨hh, o1, vs1, h1, d1, c1⟩ := hot
  have hne : x1 ≠ it := by
    rintro rfl
    rw [ho] at h1
    cases h1
    rw [hd] at d1
    cases d1
    simp at c1
  unfold pyNext
  refine wpAny_bind (wpAny_attempt (wpAny_callSpecial?_slot (name := Str.ofString "__next__") hit.typeIs slot_tupleiter_next
    (wpAny_call_entry slot_tupleiter_next hit.typeIs entry_tupleiter_next ?_ (args_tupleiter_next _))))
  show wpAny _ _ (field (.ref it) 0 >>= _) _ _ s
  refine wpAny_bind (wpAny_field ho hd (x := .ref t) rfl ?_)
  show wpAny _ _ (if (Value.ref t == Value.none) = true then _ else _) _ _ s
  rw [if_neg (show ¬ ((Value.ref t == Value.none) = true) from Bool.false_ne_true)]
  show wpAny _ _ (field (.ref it) 1 >>= _) _ _ s
  refine wpAny_bind (wpAny_field ho hd (x := .int i 0) rfl ?_)
  show wpAny _ _ (seqItems? (.ref t) >>= _) _ _ s
  refine wpAny_bind (wpAny_seqItems hol hdl ?_)
  simp only [Int.toNat_natCast, hx]
  refine wpAny_bind (wpAny_rule (wpAny_bind (wpAny_setField ho hd (by simp) ?_)))
  show wpAny _ _ (newExc (.type "StopIteration") [] >>= _) _ _ _
  refine wpAny_bind ?_
  simp only [newExc, newTuple]
  refine wpAny_bind (wpAny_newObj_type ?_ (by size_fits))
  refine wpAny_bind (m := firstArgMember _ _) (wpAny_of_eq (a := Value.none) (by first | rfl | (simp only [firstArgMember]; rfl)) ?_)
  refine wpAny_newObj_type ?_ (by size_fits)
  have g1 : ∀ f, (s.heap.update it f).get? x1 = some o1 := fun f => by
    rw [Heap.get?_update_other _ _ (Ne.symm hne)]
    exact h1
  refine raiseNew_hot ⟨hh, o1, vs1, Heap.get?_push_of_some _ (Heap.get?_push_of_some _ (g1 _)), d1, c1⟩ (Nat.ne_of_lt (Heap.lt_size (Heap.get?_push_of_some _ (g1 _)))) (Heap.get?_push_size _ rfl) rfl (by first | (simp; done) | (simp; omega)) ?_
  refine wpAny_bind (wpAny_isInstance (T := "StopIteration") (b := true) ⟨_, Heap.get?_update_self _ (Heap.get?_push_size _ rfl) rfl, rfl⟩ isSubtype_stop ?_)
  refine wpAny_pure (hQ _ fun b o hb e => ?_)
  have e1 : ∀ f, (s.heap.update it f).get? b = some o := fun f => by
    rw [Heap.get?_update_other _ _ (Ne.symm hb)]
    exact e
  rw [Heap.get?_update_other _ _ (Nat.ne_of_gt (Heap.lt_size (Heap.get?_push_of_some _ (e1 _))))]
  exact Heap.get?_push_of_some _ (Heap.get?_push_of_some _ (e1 _))
theorem unpackItems_hot {t x1 : Addr} {items : Array Value} {Q : List Value → Shared → Prop} (hot : HotAt A x1 s.heap) (ht : PyProof.Rows.IsTup s.heap t items)
    (hQ : ∀ h', Heap.ExtBut s.heap.objs.size s.heap h' → Q items.toList { s with heap := h' }) : wpAny (model prog w) A (unpackItems (.ref t) items.size none) Q E s := by
  have hlt : t ≠ s.heap.objs.size := by obtain ⟨o, ho, _⟩ := ht; exact Nat.ne_of_lt (Heap.lt_size ho)
  unfold unpackItems
  refine wpAny_bind ?_
  · unfold notIterableAtAll
    refine wpAny_bind (wpAny_specialOf ht.typeIs slot_tuple_iter.lookup ?_)
    refine wpAny_pure ?_
    simp only [Bool.false_eq_true, if_false]
    refine wpAny_bind (wpAny_holding (iter_tuple ht ?_))
    refine wpAny_bind (wpAny_holding (draw_tuple hlt items.size 0 _ _ ⟨_, Heap.get?_push_size _ rfl, rfl, rfl⟩ (ht.push _) (by omega) fun h₁ hit₁ hs₁ => ?_))
    have hall : List.take items.size (List.drop 0 items.toList) = items.toList := by
      rw [List.drop_zero]; exact List.take_of_length_le (by simp)
    rw [hall]
    rw [if_neg (by simp)]
    have ht₁ : PyProof.Rows.IsTup h₁ t items := (ht.push _).extBut hs₁.extBut hlt
    obtain ⟨hh, o1, vs1, g1, d1, c1⟩ := hot
    have hot₁ : HotAt A x1 h₁ := ⟨hh, o1, vs1, hs₁.extBut x1 o1 (Nat.ne_of_lt (Heap.lt_size g1)) (Heap.get?_push_of_some _ g1), d1, c1⟩
    refine wpAny_bind (wpAny_holding (next_tuple_end_hot hot₁ hit₁ ht₁ (by simp) fun h₂ he₂ => ?_))
    simp only [Option.isSome_none, Bool.false_eq_true, if_false]
    refine wpAny_pure (hQ h₂ fun b o hb e => he₂ b o hb (hs₁.extBut b o hb (Heap.get?_push_of_some _ e)))
theorem unpack_hot {t x1 : Addr} {items : Array Value} {targets : List (Bool × (Value → Sem Unit))} {Q : Unit → Shared → Prop} (hot : HotAt A x1 s.heap) (ht : PyProof.Rows.IsTup s.heap t items)
    (hn : targets.length = items.size) (hstar : targets.findIdx? (·.1) = none)
    (h : ∀ h', Heap.ExtBut s.heap.objs.size s.heap h' → wpAny (model prog w) A (assignInOrder (targets.map (·.2)) items.toList) Q E { s with heap := h' }) :
    wpAny (model prog w) A (unpack (.ref t) targets) Q E s := by
  unfold unpack
  rw [hn, hstar]
  exact wpAny_bind (wpAny_holding (unpackItems_hot hot ht h))
end
section
variable {X : Cx} {pos : Pos}
theorem pg_tupH {es : List Expr} {k : Nat} {t : TGs} {n : Nat} (hc : HotC X) (h : PGs X es t)
    (hn : (assignEach es X.env).length = n := by rfl) (hst : (assignEach es X.env).findIdx? (·.1) = none := by rfl) : PG X (.Tuple es k pos) (gTup X.K n t) := by
  refine ⟨fun pins s σ H v u Q I r hw => ?_⟩
  obtain ⟨a, xs, e1, hq, hl, hw⟩ := hw
  subst e1
  cases r
  obtain ⟨its, rv, ht, hz⟩ := I.tuple hq
  obtain ⟨x1, hot⟩ := hc.at I
  rw [assign_Tuple]
  refine wpAny_bind (wpAny_standAt (unpack_hot hot ht (by simp [hn, ← hl, rv.length]) hst fun h' hx => ?_))
  have I1 : Inv X pins σ H { s with heap := h' } := I.kept (t' := s.toks) fun b o e => hx b o (Nat.ne_of_lt (Heap.lt_size e)) e
  exact h.run pins _ σ H xs _ Q I1 (by simpa using rv) hw
end
section
variable {X : Cx} {CX : CXT} {k : Nat} {f cls : Addr} {fd : FuncData} {ps : List Str} {sp : Sp}
theorem op_inOH (F : FnH X.prog X.w X.K X.mg X.base (L2.CX X.prog X.w) k f fd ps sp) (hr : RoomH k X.A) (hc : HotC X) (hb : Binds X.K fd ps []) (m : Meth X.K cls "__contains__" f) : OpR X (compareOp .In) (rInO cls sp) := by
  intro pins s σ H y x v u Q I ry rx h
  obtain ⟨o, dx, fs, rfl, ho, q⟩ := h
  obtain rfl : u = Value.ref o := rx
  obtain ⟨od, J⟩ := inst_of I ho
  obtain ⟨mm, hF⟩ := I.fr
  refine PySem.W.in_K hF I.ok.mod.kin J m.at_ m.fn ?_
  refine wpAny_mono (run_fnH (E := fun _ => E0) (us := [.ref o, v]) (vs := [.ref o, y]) F hr hc hb (fun pins H s er s' I hq => pass_no (X := X) σ pins H s er s' I hq) I (.cons rfl (.cons ry .nil)) q) (fun r s' hq => ?_) fun _ _ z => z
  obtain ⟨v, H', I', rv, c, rfl, h2⟩ := hq
  obtain rfl : r = Value.bool c := rv
  exact wpAny_truthy_bool ⟨.bl c, H', I', rfl, h2⟩
end
theorem roomH_suite {X : Cx} {a : Addr} {pn : List (Addr × Obj)} {k : Nat} (h : Room k X.A) : RoomH k (X.suite a pn).A := ⟨h.dp, h.un⟩
/-- the suite of a named clause -/
theorem hotC_suite {X : Cx} {a : Addr} {oe : Obj} {pn : List (Addr × Obj)} {cls : Value} {d : Option Addr} (hz : L2N.Zn cls d oe) (hf : ∃ vs, oe.data = .fields vs) : HotC (X.suite a ((a, oe) :: pn)) := by
  obtain ⟨vs, hd⟩ := hf
  exact ⟨(a, oe), ⟨rfl, vs, hd, hz.2.2 vs hd⟩, List.mem_cons_self ..⟩
end Mc
/-! McTryN: try with any clauses, the exception's context known to be None; C(e) raised so. -/
namespace Mc
open PySem PySem.Spec PyProof.Rows L2 PySem.HandSPX
theorem takes0N {X : Cx} : L2N.Takes X (fun _ _ _ _ => False) := fun _ _ x => by
  obtain ⟨_, _, _, _, _, _, _, _, _, _, _, _, _, _, _, _, w⟩ := x
  exact w.elim
/-- a suite by its reading -/
def SuiteOkN (X : Cx) (suite : List Stmt) (ts : Addr → Value → Option Addr → TS) : Prop :=
  ∀ (a : Addr) (oe : Obj) (cls : Value) (d : Option Addr) (pn : List (Addr × Obj)), L2N.Zn cls d oe → (∃ vs, oe.data = .fields vs) → PSs (X.suite a ((a, oe) :: pn)) suite (ts a cls d)
inductive HdsMixN (X : Cx) : List ExceptHandler → List Clause → Prop
  | nil : HdsMixN X [] []
  | bare {x : Str} {c : Value} {ts : Addr → Value → Option Addr → TS} {b0 : Stmt} {su : List Stmt} {np hp : Pos} {hds : List ExceptHandler} {l : List Clause}
      (hc : Names X x c) (hsu : SuiteOkN X (b0 :: su) ts) (r : HdsMixN X hds l) : HdsMixN X (.ExceptHandler (some (.Name x np)) none (b0 :: su) hp :: hds) ((c, none, ts) :: l)
  | named {x n : Str} {i : Nat} {c : Value} {ts : Addr → Value → Option Addr → TS} {b0 : Stmt} {su : List Stmt} {np hp : Pos} {hds : List ExceptHandler} {l : List Clause}
      (hi : X.N[i]? = some n) (hl : X.env.kindOf n = some .local) (hc : Names X x c) (hsu : SuiteOkN X (b0 :: su) ts) (r : HdsMixN X hds l) :
      HdsMixN X (.ExceptHandler (some (.Name x np)) (some n) (b0 :: su) hp :: hds) ((c, some i, ts) :: l)

section
variable {X : Cx} {body : List Stmt} {h₀ : ExceptHandler} {hds : List ExceptHandler} {l : List Clause} {pos : Pos} {tb : WX → TS} {Wout : WX}
theorem ps_try_mixN (hs : X.stack = X.env :: X.outer) (hf : X.env.frame = some X.env.locals) (hN : X.N.Nodup) (tk : L2N.Takes X Wout)
    (hb : ∀ (W : WX) (pn : List (Addr × Obj)) (xe : Value → Shared → Prop), L2N.Takes (X.tr pn xe) W → PassesOwn (model X.prog X.w) X.A X.env xe → PSs (X.tr pn xe) body (tb W))
    (hh : HdsMixN X (h₀ :: hds) l) : PS X (.Try body (h₀ :: hds) [] [] pos) (fun D σ H => tb (wMix X.K Wout D l) D σ H) := by
  constructor
  intro pins s σ H D I h
  have ok := I.ok
  have hfr : X.A.frames = some (X.env :: X.outer) := hs ▸ ok.frames
  refine wpAny_Try_except ?_
  refine wpAny_mono ((hb (wMix X.K Wout D l) (X.pn ++ pins) (fun e s₁ => wpAny (model X.prog X.w) X.A (noteFrame e X.env) (fun _ s₂ => wpAny (model X.prog X.w) X.A (setFlight e none)
    (fun _ s₃ => wpAny (model X.prog X.w) X.A (handleBy e X.env (h₀ :: hds)) (SP X pins D) X.xe s₃) X.xe s₂) X.xe s₁) ?caught PassesOwn.looking).run [] s σ H D (I.toTry _) h) ?done (fun e s1 he => he)
  case done =>
    intro f s1 hsp
    cases f with
    | ret u =>
      obtain ⟨v, σ', H', J', r, q⟩ := hsp
      exact ⟨v, σ', H', J'.ofTry ok, r, q⟩
    | next =>
      obtain ⟨σ', H', J', q⟩ := hsp
      refine wpAny_execs_nil ⟨σ', H', J'.ofTry ok, q⟩
    | brk =>
      obtain ⟨σ', H', J', q⟩ := hsp
      refine ⟨σ', H', J'.ofTry ok, q⟩
    | cont =>
      obtain ⟨σ', H', J', q⟩ := hsp
      refine ⟨σ', H', J'.ofTry ok, q⟩
  case caught =>
    rintro u s' ⟨a, B, sI, pins', σ', H', cls, d, rfl, J', nb, up, sky, na, os, ag, wish⟩
    have J : Inv X pins σ' H' sI := J'.ofTry ok
    show wpAny (model X.prog X.w) X.A (noteFrame (.ref a) X.env) _ _ _
    refine L2N.Sky.land L2N.Zn.steady hfr hf (hs ▸ sky) ?_
    intro h3 fl3 up3
    have J3 : Inv X pins σ' H' { s' with heap := h3 } := J.landed nb fl3.1 (up.trans up3) os ag
    obtain ⟨oe3, vs3, he3, hz3, hd3⟩ := fl3.there
    have nfr : a ∉ frs (X.env :: X.outer) := by
      intro hm
      obtain ⟨_, o', e', hnf⟩ := fl3.2.2.1.mem hm
      rw [he3] at e'
      cases e'
      exact hnf _ hd3
    have nL : a ≠ X.env.locals := fun z => nfr (List.mem_filterMap.mpr ⟨X.env, List.mem_cons_self, hf.trans (congrArg some z.symm)⟩)
    have nF : a ∉ X.fs := by
      intro hm
      obtain ⟨e, he, q⟩ := List.mem_filterMap.mp hm
      exact nfr (List.mem_filterMap.mpr ⟨e, List.mem_cons_of_mem _ he, q⟩)
    have S3 := J3.suite he3 hd3 na nL nF
    -- a clause's test
    have test : ∀ {x : Str} {c : Value} {np : Pos} {Q : Value → Shared → Prop} {E : Value → Shared → Prop}, Names X x c → Q c { s' with heap := h3 } →
        wpAny (model X.prog X.w) (X.A.mark (some (.ref a))) (eval (.Name x np) X.env) Q E { s' with heap := h3 } := by
      rintro x c np Q E ⟨hg, hdbg, hm | ⟨hm, hv, hnn⟩⟩ q
      · exact ld_glob (X := X.suite a ((a, oe3) :: (X.pn ++ pins))) S3 hg hm q hdbg
      · exact ld_blt (X := X.suite a ((a, oe3) :: (X.pn ++ pins))) S3 hg hm hv q hnn hdbg
    have LT : PySem.W.Looks (model X.prog X.w) h3 (typeOf (.ref a)) cls := by
      intro A Q E s k q
      refine wpAny_typeOf_ref (k _ _ he3) ?_
      rw [hz3.1]
      exact q
    have go : ∀ {hds' : List ExceptHandler} {l' : List Clause}, HdsMixN X hds' l' → wMix X.K Wout D l' cls d σ' H' →
        wpAny (model X.prog X.w) X.A (handleBy (.ref a) X.env hds') (SP X pins D) X.xe { s' with heap := h3 } := by
      intro hds' l' hk
      induction hk with
      | nil =>
        intro w
        refine wpAny_handleBy_nil ?_
        obtain ⟨_, _, _, oe, vs, T, oT, ts', he, hz, hd, h1, hr⟩ := id fl3
        unfold PySem.passOn
        refine wpAny_bind (wpAny_field he hd h1 ?_)
        rw [if_neg (show ¬ ((Value.ref T == Value.none) = true) from by simp)]
        have last : wpAny (model X.prog X.w) X.A (setFlight (.ref a) X.env.frame) (fun _ s4 => wpAny (model X.prog X.w) X.A (throw (.ref a) : Sem Flow) (SP X pins D) X.xe s4) X.xe { s' with heap := h3 } := by
          rw [hf]
          refine HandSPX.setFlight_upZ fl3 ?_
          intro h4 hh4 up4
          refine wpAny_throw (tk _ _ ⟨a, B, sI, pins, σ', H', cls, d, rfl, J, nb, (up.trans up3).trans up4, ?_, na, os, ag, w⟩)
          exact Or.inr (Or.inr (hs ▸ hh4))
        first
          | exact wpAny_bind (wpAny_pure (wpAny_bind last))
          | exact wpAny_bind last
      | bare hc hsu r ih =>
        rintro ⟨b, hb1, hyes, hno⟩
        refine wpAny_handleBy_cons (codeAny_handlers_test ?_) (by intro q; cases q)
        refine test hc ((PySem.W.exm_one (M := model X.prog X.w) J3.kIn LT hb1).here ?_)
        cases b with
        | false => exact ih (hno rfl)
        | true =>
          refine codeAny_handlers_suite (HandSPX.lands_againZ fl3 ?_)
          intro h4 fl4 up4
          obtain ⟨oe4, vs4, he4, hz4, hd4⟩ := fl4.there
          have S4 := (J.landed (s' := { s' with heap := h4 }) nb fl4.1 ((up.trans up3).trans up4) os ag).suite he4 hd4 na nL nF
          refine wpAny_mono ((hsu a oe4 cls d (X.pn ++ pins) hz4 ⟨_, hd4⟩).run [] _ _ H' _ S4 (hyes rfl a na)) ?_ (fun _ _ z => z.elim)
          intro f s6 hsp
          cases f with
          | ret u =>
            obtain ⟨v6, σ6, H6, S6, r6, q6⟩ := hsp
            exact ⟨_, _, _, S6.unsuite ok, r6, q6⟩
          | next =>
            obtain ⟨σ6, H6, S6, q6⟩ := hsp
            exact ⟨_, _, S6.unsuite ok, q6⟩
          | brk =>
            obtain ⟨σ6, H6, S6, q6⟩ := hsp
            exact ⟨_, _, S6.unsuite ok, q6⟩
          | cont =>
            obtain ⟨σ6, H6, S6, q6⟩ := hsp
            exact ⟨_, _, S6.unsuite ok, q6⟩
      | @named x n i c ts b0 su np hp hds2 l2 hi hl hc hsu r ih =>
        rintro ⟨b, hb1, hyes, hno⟩
        refine wpAny_handleBy_cons (codeAny_handlers_test ?_) (by intro q; cases q)
        refine test hc ((PySem.W.exm_one (M := model X.prog X.w) J3.kIn LT hb1).here ?_)
        cases b with
        | false => exact ih (hno rfl)
        | true =>
          refine codeAny_handlers_suite_as (HandSPX.lands_againZ fl3 ?_)
          intro h4 fl4 up4
          obtain ⟨oe4, vs4, he4, hz4, hd4⟩ := fl4.there
          have S4 := (J.landed (s' := { s' with heap := h4 }) nb fl4.1 ((up.trans up3).trans up4) os ag).suite he4 hd4 na nL nF
          refine store_ok (X := X.suite a ((a, oe4) :: (X.pn ++ pins))) (v := .ref a) S4 hN hi (Or.inl hl) rfl ?_ (Or.inr hl)
          intro s5 S5
          refine wpAny_mono ((hsu a oe4 cls d (X.pn ++ pins) hz4 ⟨_, hd4⟩).run [] s5 _ H' _ S5 (hyes rfl a na)) ?_ (fun _ _ z => z.elim)
          intro f s6 hsp
          have fin : ∀ {σ6 : L2.St} {H6 : Hp} {Q : Shared → Prop}, Inv (X.suite a ((a, oe4) :: (X.pn ++ pins))) [] σ6 H6 s6 → (∀ s7, Inv X pins (σ6.set i none) H6 s7 → Q s7) →
              wpAny (model X.prog X.w) X.A (do bindName X.env n .none; unbindBehindTheSuite X.env n hp) (fun _ s7 => Q s7) X.xe s6 := fun S6 hq => gone_ok (S6.unsuite ok) hN hi hl hq
          cases f with
          | ret u =>
            obtain ⟨v6, σ6, H6, S6, r6, q6⟩ := hsp
            exact fin S6 fun s7 J7 => ⟨_, _, _, J7, r6, q6⟩
          | next =>
            obtain ⟨σ6, H6, S6, q6⟩ := hsp
            exact fin S6 fun s7 J7 => ⟨_, _, J7, q6⟩
          | brk =>
            obtain ⟨σ6, H6, S6, q6⟩ := hsp
            exact fin S6 fun s7 J7 => ⟨_, _, J7, q6⟩
          | cont =>
            obtain ⟨σ6, H6, S6, q6⟩ := hsp
            exact fin S6 fun s7 J7 => ⟨_, _, J7, q6⟩
    exact go hh wish
end
section
variable {X : Cx} {D fI C : Addr}
theorem pmk_meN {x : Str} {a : Expr} {ta : TA} {p pos : Pos} {k : Nat} (T : MeInit X.prog X.K D fI) (TC : MeCls X.K D fI C) (hsup : X.mg "super" = none) (gC : X.mg x = some (.ref C)) (hr : Room k X.A) (ha : PA X [a] ta)
    (hg : Gl X x := by rfl) (hdb : (x == ("__debug__" : Str)) = false := by decide)
    (he : starEach (a :: []) X.env = (false, eval a X.env) :: starEach [] X.env := by rfl) (hpl : (backTo pos (starEach [] X.env)).any (·.1) = false := by rfl) :
    L2N.PMk X (.Call (.Name x p) [a] [] pos) (tMkMe C ta) := by
  intro pins s σ H Q I h
  refine wpAny_Call_Name_kw (ld_glob I hg gC ?_ hdb)
  refine PySem.W.callWith_K (h₀ := X.base) I.ok.mod.kin TC.kC (thn (ha.run pos pins s σ H _ I h) ?_) he hpl
  rintro us s1 ⟨vs, H1, I1, r1, v, rfl, q1⟩
  refine ⟨I1.kIn, ?_⟩
  obtain ⟨u, rfl, rv⟩ := vals1 r1
  show wpAny _ _ (call (.ref C) [u]) _ _ _
  obtain ⟨mb, hb1, hb2⟩ := I1.ok.mod.blt
  have hlim := I1.nolimit
  have hns : s1.heap.Ns mainGlobals X.mg := I1.ok.mod.glob.keeps I1.bk
  have hbn : s1.heap.Ns builtinsNs mb := hb1.keeps I1.bk
  obtain ⟨hp, g, dr, tk, os⟩ := s1
  refine wpAny_call (me_made T TC I1.kIn hns hbn hsup ((hb2 _ (by decide)).trans (by decide +kernel)) hlim (by have := hr.dp; omega) ?_)
  intro h' tk' e d M
  obtain ⟨t1, hoe⟩ := M.obj
  obtain ⟨G, g1, g2⟩ := restrict h' fun b => decide (b ≠ e)
  have gk : ∀ b, b ≠ e → G.get? b = h'.get? b := fun b hb => g1 b (decide_eq_true hb)
  have ge : G.get? e = none := g2 e (by simp)
  have old : ∀ b o, hp.get? b = some o → G.get? b = some o := fun b o q => (gk b (Nat.ne_of_lt (Nat.lt_of_lt_of_le (Heap.lt_size q) M.new))).trans (M.keep b o q)
  have ob : ObjOk X.prog X.w (upd H1 d (.xd [(("value" : Str), v)])) G d (.xd [(("value" : Str), v)]) :=
    ⟨_, M.ns.at (fun o q => (gk d M.dne).trans q), fun f => relO_val rv f⟩
  have J : Inv X pins σ (upd H1 d (.xd [(("value" : Str), v)])) ⟨G, g, dr, tk', os⟩ := I1.laid (t' := tk') old M.dbig ob
  refine ⟨e, _, _, ⟨G, g, dr, tk', os⟩, _, .ref C, some d, rfl, J, fun b o q => ?_, ge, hoe, ⟨rfl, rfl, fun vs e => by cases e; rfl⟩, rfl, rfl, ?_, rfl, I1.bare, raises_own TC.exC TC.tyC, q1 d (I1.hok.fresh M.dbig)⟩
  · have hb : b ≠ e := fun z => by
      have q' : G.get? b = some o := q
      rw [z, ge] at q'
      cases q'
    exact (gk b hb).symm.trans q
  · rw [upd_ne (Ne.symm M.dne)]
    exact I1.hok.fresh M.new
theorem ps_raiseMeN {x : Str} {a : Expr} {ta : TA} {W : WX} {p pos pos2 : Pos} {k : Nat} (hc : X.calm = true) (T : MeInit X.prog X.K D fI) (TC : MeCls X.K D fI C) (hsup : X.mg "super" = none) (gC : X.mg x = some (.ref C)) (hr : Room k X.A) (tk : L2N.Takes X W)
    (ha : PA X [a] ta) (hg : Gl X x := by rfl) (hdb : (x == ("__debug__" : Str)) = false := by decide)
    (he : starEach (a :: []) X.env = (false, eval a X.env) :: starEach [] X.env := by rfl) (hpl : (backTo pos (starEach [] X.env)).any (·.1) = false := by rfl) :
    PS X (.Raise (some (.Call (.Name x p) [a] [] pos)) none pos2) (tRaiseMe C W ta) := L2N.ps_raise hc tk (pmk_meN T TC hsup gC hr ha hg hdb he hpl)
end
end Mc
/-! McHot2: a def's promise within an except suite, by its body's derivation there. -/
namespace Mc
open PySem PySem.Spec PyProof.Rows L2 L2H HotX
theorem hu_ofH {A : Around} {k : Nat} (hr : RoomH k A) : A.units + 1 < cLine := by
  have := hr.un
  omega
section
variable {P : Program} {w : World} {K : PySem.W.Frag} {mg : Str → Option Value} {base : Heap} {x qual : Str} {params : Arguments} {body : List Stmt} {scope : Scope} {dvs : List V} {kws : List (Str × V)} {f : Addr} {fd : FuncData}
theorem fnH_body {CX : CXT} {N ps : List Str} {k : Nat} {sp : Sp} (F : FunD K x qual params body scope dvs kws f fd) (S : FnScope N ps scope) (len : ∀ vs H Q E, sp vs H Q E → vs.length = ps.length)
    (hbody : ∀ (cdv : Value) (A : Around) (outer : List Env) (s : Shared) (H : Hp) (vs : List V) (Q : VK) (E : XK) (p : Addr × Obj), RoomH k (A.deeper (envOfC qual scope s.heap.objs.size f cdv)) → HotC (cxH CX P w K mg base N qual scope f cdv A outer s H E p) → sp vs H Q E →
      ∃ t, PSs (cxH CX P w K mg base N qual scope f cdv A outer s H E p) body t ∧ t { nx := fun _ H' => Q .non H', rt := Q } (L2.start N vs) H) : FnH P w K mg base CX (k + 1) f fd ps sp := by
  obtain ⟨oc, od, dV, kV, doc, pm, an, cdv, ct, osl, rfl, lk, hcd, _, _⟩ := F.ex
  refine fn_ofH lk hcd S len fun A outer s H vs Q E p hot hr hsp => hbody cdv A outer s H vs Q E p hr ⟨p, ?_, List.mem_singleton.mpr rfl⟩ hsp
  exact ⟨hot.1, hot.2⟩
end
end Mc
/-! McHotP: a def that is called within an except suite and is told which exception is handled; a comprehension over range there. -/
namespace Mc
open PySem PySem.Spec PyProof.Rows L2 L2H HotX PySem.HandSPX
/-- a def's promise within an except suite; its spec sees the handled exception -/
structure FnP (P : Program) (w : World) (K : PySem.W.Frag) (mg : Str → Option Value) (base : Heap) (CX : CXT) (k : Nat) (f : Addr) (fd : FuncData) (ps : List Str) (sp : Addr → Value → Option Addr → Sp) : Prop where
  len : ∀ a c d vs H Q E, sp a c d vs H Q E → vs.length = ps.length
  run : ∀ (p : Addr × Obj) (c : Value) (d : Option Addr) (A : Around) (outer : List Env) (s : Shared) (H : Hp) (args : Args) (us : List Value) (vs : List V) (Q : VK) (E : XK), sp p.1 c d vs H Q E → Zc c d p.2 → (∃ vs, p.2.data = .fields vs) → Vals vs us → BindsTo s fd args (ps.zip us) →
    Env0 P w K mg base A outer s H → PinOk outer H s p → Hot1 A p → RoomH k A → codeAny (model P w) A (.call (.ref f) args) (CR CX outer P w H s Q E) s
theorem fnP_body {P : Program} {w : World} {K : PySem.W.Frag} {mg : Str → Option Value} {base : Heap} {x qual : Str} {params : Arguments} {body : List Stmt} {scope : Scope} {dvs : List V} {kws : List (Str × V)} {f : Addr} {fd : FuncData}
    {CX : CXT} {N ps : List Str} {k : Nat} {sp : Addr → Value → Option Addr → Sp} (F : FunD K x qual params body scope dvs kws f fd) (S : FnScope N ps scope) (len : ∀ a c d vs H Q E, sp a c d vs H Q E → vs.length = ps.length)
    (hbody : ∀ (cdv : Value) (A : Around) (outer : List Env) (s : Shared) (H : Hp) (vs : List V) (Q : VK) (E : XK) (p : Addr × Obj) (c : Value) (d : Option Addr), RoomH k (A.deeper (envOfC qual scope s.heap.objs.size f cdv)) → sp p.1 c d vs H Q E → Zc c d p.2 → (∃ vs, p.2.data = .fields vs) →
      ∃ t, PSs (cxH CX P w K mg base N qual scope f cdv A outer s H E p) body t ∧ t { nx := fun _ H' => Q .non H', rt := Q } (L2.start N vs) H) : FnP P w K mg base CX (k + 1) f fd ps sp := by
  obtain ⟨oc, od, dV, kV, doc, pm, an, cdv, ct, osl, rfl, lk, hcd, _, _⟩ := F.ex
  constructor
  · exact len
  intro p c d A outer s H args us vs Q E hsp hz hf r hb e0 hpin hot hr
  have old : ∀ b o, base.get? b = some o → s.heap.get? b = some o := fun b o e => (e0.bs b o e).1
  have lim := e0.mod.nolimit.keeps old
  have KX : K.In s.heap := e0.mod.kin.keeps old
  have par : ∀ y ∈ ps.zip us, scope.names.lookup y.1 = some .local ∨ (scope.names.lookup y.1 = some .cell ∧ ((cellsFrom (s.heap.objs.size + 1) scope.names []).lookup y.1).isSome = true) := by
    intro y hy
    obtain ⟨n, v⟩ := y
    rcases S.par n (List.of_mem_zip hy).1 with z | z
    · exact Or.inl z
    · exact Or.inr ⟨z, PySem.W.cellsFrom_some _ _ _ (Or.inl z)⟩
  apply codeAny_call_function hr.depth (KX _ _ lk) rfl S.co S.gen rfl (PySem.W.codeRec_of KX hcd)
  apply hb
  refine wpAny_newFunctionEnv_cells S.kind par ?_
  intro env he s1 started
  subst he
  constructor
  · exact lim.keeps started.toInCall.keep
  apply codeAny_func
  obtain ⟨t, ht, hq⟩ := hbody cdv A outer s H vs Q E p c d (hr.deeper _) hsp hz hf
  have I := inv_startH (CX := CX) (E := E) S hpin e0 (len _ _ _ _ _ _ _ hsp) r started
  refine wpAny_mono (ht.run [] s1 _ H _ I hq) ?_ (fun _ _ z => z)
  rintro (_ | _ | _ | u) s' hs
  · obtain ⟨_, H', J, q⟩ := hs
    exact ⟨.non, H', J.os, J.bare, J.base, J.hok, rfl, q⟩
  · obtain ⟨_, _, _, q⟩ := hs
    exact q.elim
  · obtain ⟨_, _, _, q⟩ := hs
    exact q.elim
  · obtain ⟨v, _, H', J, rv, q⟩ := hs
    exact ⟨v, H', J.os, J.bare, J.base, J.hok, rv, q⟩
section
variable {X : Cx} {CX : CXT} {k : Nat} {f : Addr} {fd : FuncData} {ps : List Str} {sp : Addr → Value → Option Addr → Sp} {E : L2.St → XK} {x : Str} {q pos : Pos} {e : Expr} {es : List Expr} {t : TA}
/-- such a def is called, with the handled exception -/
theorem pe_callP {p : Addr × Obj} {cls : Value} {d : Option Addr} (hz : Zc cls d p.2) (hf : ∃ vs, p.2.data = .fields vs) (F : FnP X.prog X.w X.K X.mg X.base CX k f fd ps sp) (hr : RoomH k X.A) (hot : Hot1 X.A p) (hp : p ∈ X.pn) (hg : Gl X x) (hm : X.mg x = some (.ref f)) (hk : PySem.W.keepIn X.K (.ref f) = true) (hb : Binds X.K fd ps []) (hx : ∀ σ, PassesAt CX X σ (E σ))
    (ha : PA X (e :: es) t) (hdb : (x == ("__debug__" : Str)) = false := by decide) (he : starEach (e :: es) X.env = (false, eval e X.env) :: starEach es X.env := by rfl) (hpl : (backTo pos (starEach es X.env)).any (·.1) = false := by rfl) :
    PE X (.Call (.Name x q) (e :: es) [] pos) (tCallS (sp p.1 cls d) E t) := by
  refine ⟨fun pins s σ H Q I h => wpAny_Call_Name_kw (ld_glob I hg hm ?_ hdb)⟩
  refine PySem.W.callWith_K (h₀ := X.base) I.ok.mod.kin hk (thn (ha.run pos pins s σ H _ I h) ?_) he hpl
  rintro us s1 ⟨vs, H1, I1, r, w⟩
  refine ⟨I1.kIn, ?_⟩
  have hl := F.len _ _ _ _ _ _ _ w
  have b := hb s1 us I1.kIn (by rw [List.append_nil, ← r.length, hl])
  rw [List.append_nil] at b
  obtain ⟨a1, a2, a3, a4, a5⟩ := I1.pin p (List.mem_append_left _ hp)
  have hpin : PinOk X.stack H1 s1 p := ⟨a1, a2, fun hm => by
    rcases List.mem_cons.mp (I1.stkSub p.1 hm) with z | z
    · exact a3 z
    · exact a4 z, a5⟩
  refine wpAny_call (codeAny_mono (F.run p cls d X.A X.stack s1 H1 ⟨us, []⟩ us vs Q (E σ) w hz hf r b I1.env0 hpin hot hr) ?_)
  rintro (er | (_ | _ | _ | u)) s' z
  · exact hx σ pins H1 s1 er s' I1 z
  · exact z.elim
  · exact z.elim
  · exact z.elim
  · exact I1.after z
/-- the suite's own exception -/
theorem hot1_suite {X : Cx} {a : Addr} {oe : Obj} {pn : List (Addr × Obj)} {cls : Value} {d : Option Addr} (hz : L2N.Zn cls d oe) (hf : ∃ vs, oe.data = .fields vs) : Hot1 (X.suite a ((a, oe) :: pn)).A (a, oe) := by
  obtain ⟨vs, hd⟩ := hf
  exact ⟨rfl, vs, hd, hz.2.2 vs hd⟩
/-- .. in a suite, with the suite's own -/
theorem pe_callPS {a : Addr} {oe : Obj} {pn : List (Addr × Obj)} {cls : Value} {d : Option Addr} (hz : L2N.Zn cls d oe) (hf : ∃ vs, oe.data = .fields vs) (F : FnP X.prog X.w X.K X.mg X.base CX k f fd ps sp) (hr : Room k X.A)
    (hg : Gl (X.suite a ((a, oe) :: pn)) x) (hm : X.mg x = some (.ref f)) (hk : PySem.W.keepIn X.K (.ref f) = true) (hb : Binds X.K fd ps []) (hx : ∀ σ, PassesAt CX (X.suite a ((a, oe) :: pn)) σ (E σ))
    (ha : PA (X.suite a ((a, oe) :: pn)) (e :: es) t) (hdb : (x == ("__debug__" : Str)) = false := by decide) (he : starEach (e :: es) X.env = (false, eval e X.env) :: starEach es X.env := by rfl) (hpl : (backTo pos (starEach es X.env)).any (·.1) = false := by rfl) :
    PE (X.suite a ((a, oe) :: pn)) (.Call (.Name x q) (e :: es) [] pos) (tCallS (sp a cls d) E t) :=
  pe_callP (X := X.suite a ((a, oe) :: pn)) (p := (a, oe)) hz.zc hf F (roomH_suite hr) (hot1_suite hz hf) (List.mem_cons_self ..) hg hm hk hb hx ha hdb he hpl
end
section
variable {X : Cx} {D fI : Addr}
/-- isinstance(x, c), x the handled exception -/
def rIsP (K : PySem.W.Frag) (Ok : Addr → Prop) (a : Addr) (cls : Value) (dd : Option Addr) : List V → Hp → VK → Prop := fun xs H Q => ∃ (d C : Addr) (v c : V) (u : Value) (b : Bool), xs = [.ref a, c] ∧ ClsV c u ∧ Ok C ∧ cls = .ref C ∧ dd = some d ∧ H d = some (.xd [(("value" : Str), v)]) ∧ PySem.W.kitOne K (.ref C) u = some b ∧ Q (.bl b) H
theorem call_isP {Ok : Addr → Prop} {p : Addr × Obj} {cls : Value} {dd : Option Addr} (hp : p ∈ X.pn) (hz : Zc cls dd p.2) (hf : ∃ vs, p.2.data = .fields vs) (hO : ∀ C, Ok C → (MeCls X.K D fI C) ∧ ExcIs X.K C) : CallR X (.builtin "isinstance") (rIsP X.K Ok p.1 cls dd) := by
  intro pins s σ H xs us Q I r h
  obtain ⟨d, C, v, c, u, b, rfl, k, oC, rfl, rfl, ed, hk, q⟩ := h
  obtain ⟨vs, hd⟩ := hf
  obtain ⟨u1, u2, rfl, r1, r2⟩ := vals2 r
  obtain rfl : u1 = Value.ref p.1 := r1
  have e2 := k.eq r2
  subst e2
  obtain ⟨TC, EI⟩ := hO C oC
  have ha := (I.pin p (List.mem_append_left _ hp)).1
  obtain ⟨mA, hns, hr⟩ := (show ObjOk X.prog X.w H s.heap d (.xd [(("value" : Str), v)]) from I.hok d _ ed)
  obtain ⟨od, ho, hl⟩ := lookIn_ns hns
  have J : PySem.W.InstAt s.heap p.1 p.2 C (some od) := ⟨ha, hz.1, by unfold PySem.W.notCls; rw [hd] <;> rfl, by rw [hz.2]; exact ho⟩
  exact is_exc (c := u2) (u2 := u2) TC EI I J (fun z => nomatch z) hk q
end

/-! ### a comprehension over range -/
/-- the block's context, the pins kept -/
abbrev hblk (X : Cx) (s : Shared) (H : Hp) (scope : Scope) (ce : Env) (fp : List Addr) : Cx := { X.blk s H scope ce fp with pn := X.pn }
theorem hblk_of {X : Cx} {pins : List (Addr × Obj)} {σ τ : L2.St} {H : Hp} {s s' : Shared} {scope : Scope} {ce : Env} {fp : List Addr} (I : Inv X pins σ H s) (kp : ∀ b o, s.heap.get? b = some o → s'.heap.get? b = some o) (cL : ce.locals = s.heap.objs.size)
    (J : Inv (X.blk s H scope ce fp) [] τ H s') : Inv (hblk X s H scope ce fp) [] τ H s' := by
  refine ⟨?_, J.os, J.bare, J.base, J.loc, J.cell, J.free, J.freeC, ?_, J.hok, J.len⟩
  · obtain ⟨a1, a2, a3, a4, a5, a6, a7, a8, a9, a10, a11, a12, a13, a14, a15, a16, a17, a18⟩ := J.ok
    exact ⟨a1, a2, a3, a4, a5, a6, a7, a8, a9, a10, a11, a12, a13, a14, a15, a16, a17, a18⟩
  · intro p hp
    have hp : p ∈ X.pn := by simpa using hp
    obtain ⟨b1, b2, b3, b4, b5⟩ := I.pin p (List.mem_append_left _ hp)
    refine ⟨kp _ _ b1, b2, ?_, ?_, b5⟩
    · show p.1 ≠ ce.locals
      rw [cL]
      exact Nat.ne_of_lt (Heap.lt_size b1)
    · intro z
      rcases List.mem_cons.mp (I.stkSub p.1 z) with z | z
      · exact b3 z
      · exact b4 z
section
variable {X : Cx}
theorem pe_lcH {elt tg iter : Expr} {scope : Scope} {own : List (Str × Nat)} {pos : Pos} {wi : TI} {g : TG} {te : TE} (hc : HotC X) (hN : X.N.Nodup) (hi : PIH X tg iter wi) (ok : BlkOk X.N X.env.scope scope own)
    (hg : ∀ (s : Shared) (H : Hp) (C : Addr) (cl : List (Str × Addr)) (fp : List Addr), PG (hblk X s H scope (compEnvC scope cl C X.env) fp) tg g)
    (he : ∀ (s : Shared) (H : Hp) (C : Addr) (cl : List (Str × Addr)) (fp : List Addr), PE (hblk X s H scope (compEnvC scope cl C X.env) fp) elt te) (hs : ∀ x, foldedSetIterable iter X.env x = pure x := by intro _; rfl) :
    PE X (.ListComp elt [⟨tg, iter, [], 0⟩] scope pos) (tLc wi g tYes te (own.map (·.2))) := by
  constructor
  intro pins s σ H Q I h
  rw [eval_ListComp]
  have cells : ∀ y ∈ scope.names, y.2 = .free → ∃ c, X.env.cells.lookup y.1 = some c := fun y hy e => I.ok.has _ (ok.free y hy e)
  refine wpAny_comprehension_free (use := none) rfl hs (closure_ok cells) ok.kind (fun y hy e => (ok.uniq y hy).trans (congrArg some e)) (thn (hi.run pins s σ H _ I h) fun xv s1 hx => thn hx ?_)
  rintro itv s2 ⟨it, fp, tn, J, H2, rfl, I2, T, t2, f2, body⟩
  refine wpAny_newObj_type (newEnv_comp ?_) (Nat.zero_le _)
  obtain ⟨W, ⟨m0, start⟩, turn⟩ := body s2.heap.objs.size (I2.hok.fresh (Nat.le_refl _))
  obtain ⟨D, hD⟩ : ∃ D, D = s2.heap.objs.size := ⟨_, rfl⟩
  rw [← hD] at start turn ⊢
  obtain ⟨s3, hs3⟩ : ∃ s3 : Shared, s3 = { s2 with heap := s2.heap.push { cls := .type "list", data := .seq ([] : List Value).toArray } } := ⟨_, rfl⟩
  have old3 : ∀ b o, s2.heap.get? b = some o → s3.heap.get? b = some o := fun b o e => by
    rw [hs3]
    exact Heap.get?_push_of_some _ e
  have size3 : s3.heap.objs.size = s2.heap.objs.size + 1 := by
    rw [hs3]
    exact Heap.size_push ..
  obtain ⟨H3, hH3⟩ : ∃ H3, H3 = upd H2 D (.lst []) := ⟨_, rfl⟩
  have I3 : Inv X pins σ H3 s3 := by
    rw [hs3, hH3]
    refine I2.laid (t' := s2.toks) (fun b o e => Heap.get?_push_of_some _ e) (Nat.le_of_eq hD.symm) ⟨Nat.zero_le _, [], 0, .nil, ?_⟩
    rw [hD]
    exact Heap.get?_push_size _ rfl
  rw [← hH3] at start
  have fpLt : ∀ b ∈ fp, b < s2.heap.objs.size := fun b hb => (T.obj _ _ t2 b hb).elim fun o e => Heap.lt_size e.1
  have f3 : ∀ b ∈ fp, FpOk X pins H3 b ∧ b < s3.heap.objs.size := by
    intro b hb
    have hlt := fpLt b hb
    obtain ⟨g0, g1⟩ := f2 b hb
    refine ⟨⟨?_, g1⟩, by rw [size3]; exact Nat.lt_succ_of_lt hlt⟩
    rw [hH3, upd_ne (by rw [hD]; exact Nat.ne_of_lt hlt)]
    exact g0
  have J4 := block_start I3 ok hN f3
  have PGr := hg s3 H3 s3.heap.objs.size (cellsFrom (s3.heap.objs.size + 1) scope.names (cloFrom X.env.cells scope.names [])) fp
  have PEl := he s3 H3 s3.heap.objs.size (cellsFrom (s3.heap.objs.size + 1) scope.names (cloFrom X.env.cells scope.names [])) fp
  obtain ⟨ce, hce⟩ : ∃ ce, ce = compEnvC scope (cellsFrom (s3.heap.objs.size + 1) scope.names (cloFrom X.env.cells scope.names [])) s3.heap.objs.size X.env := ⟨_, rfl⟩
  have cL : ce.locals = s3.heap.objs.size := hce ▸ rfl
  obtain ⟨s4, hs4⟩ : ∃ s4 : Shared, s4 = { s3 with heap := pushCells (s3.heap.push { cls := .type "dict", data := .dict #[] }) scope.names } := ⟨_, rfl⟩
  have old4 : ∀ b o, s3.heap.get? b = some o → s4.heap.get? b = some o := fun b o e => by
    rw [hs4]
    exact pushCells_keeps _ _ _ _ (Heap.get?_push_of_some _ e)
  rw [← hce, ← hs4] at J4
  rw [← hce] at PGr PEl
  have I4 : Inv (hblk X s3 H3 scope ce fp) [] (wipe σ (own.map (·.2))) H3 s4 := hblk_of I3 old4 cL J4
  have t4 : tn 0 s4.heap := T.keep _ _ _ t2 fun b hb o e => old4 b o (old3 b o e)
  have goal : codeAny (model X.prog X.w) X.A (.compStart (.ListComp elt [⟨tg, iter, [], 0⟩] scope pos) 0 (.ref it) (.ref D) ce) (compPost (model X.prog X.w) X.A X.xe none (EP X pins σ Q) (.ref D) s3.heap.objs.size) s4 := by
    have static : ∀ {G : Hp}, (∀ b ∈ fp, G b = none) → ∀ b ∈ fp, FpOk (hblk X s3 H3 scope ce fp) [] G b := by
      intro G hG b hb
      obtain ⟨u1, u2⟩ := I4.ok.exf b hb
      obtain ⟨_, _, _, _, _, u3⟩ := (f3 b hb).1
      refine ⟨hG b hb, u1, I4.ok.exfs b hb, Or.inl hb, u2, fun p hp => u3 p ?_⟩
      have hp : p ∈ X.pn := by simpa using hp
      exact List.mem_append_left _ hp
    have loop : codeAny (model X.prog X.w) X.A (.compLoop (.ListComp elt [⟨tg, iter, [], 0⟩] scope pos) 0 (.ref it) (.ref D) ce) (compPost (model X.prog X.w) X.A X.xe none (EP X pins σ Q) (.ref D) s3.heap.objs.size) s4 := by
      refine compLoop_any (fun n s' => ∃ i G, Inv (hblk X s3 H3 scope ce fp) [] (wipe σ (own.map (·.2))) G s' ∧ tn i s'.heap ∧ (∀ b ∈ fp, G b = none) ∧ W i n G) ?_ m0 ⟨0, H3, I4, t4, fun b hb => (f3 b hb).1.1, start⟩
      rintro n s5 ⟨i, G5, I5, t5, n5, w5⟩
      rcases turn i n G5 w5 with ⟨stop, done⟩ | ⟨go, Nx, nxt, step⟩
      · refine thnF (T.done (hblk X s3 H3 scope ce fp) rfl rfl rfl hc i [] s5 _ G5 (fun _ _ => False) I5 (static n5) t5 stop) ?_
        rintro r s6 ⟨rfl, I6⟩
        have nC : G5 s3.heap.objs.size = none := by
          rw [← cL]
          exact I6.free
        obtain ⟨m, ns, _⟩ := I6.loc
        have ns : s6.heap.Ns ce.locals m := ns
        rw [cL] at ns
        obtain ⟨z0, z1, z2, z3, z4, z5⟩ := I3.fpOk (Nat.le_refl _) nC
        have I7 : Inv X pins σ G5 s6 := I3.call' (ch := fp) I6.os I6.base I6.hok I6.bare fun b hb => by
          obtain ⟨_, y1, y2, y3, y4, y5⟩ := (f3 b hb).1
          exact ⟨y3, y1, y4, y5⟩
        refine ⟨m, ns, fun h2 sb => ⟨.ref D, G5, I7.turned (t' := s6.toks) (fun b o hb e => (sb.2 b hb).trans e) z0 z1 z3 z4 z5, rfl, done⟩⟩
      · refine thnF (T.item (hblk X s3 H3 scope ce fp) rfl rfl rfl hc i [] s5 _ G5 (fun _ _ => False) I5 (static n5) t5 go) ?_
        rintro r s6 ⟨u, rfl, h6⟩
        refine thnF h6 ?_
        rintro _ s7 ⟨y, G7, I7, r7, y7, t7, n7⟩
        have I7' := I7.pinned (static n7) (T.obj _ _ t7)
        refine thnF (PGr.run _ s7 _ G7 y u _ I7' r7 (step y G7 y7)) ?_
        rintro _ s8 ⟨σ8, G8, I8, wiped, q8⟩
        refine wpAny_tests_nil ?_
        rw [if_pos rfl]
        have q8 : te σ8 G8 fun y H4 => ∃ acc, H4 D = some (.lst acc) ∧ acc.length < sizeLine ∧ Nx (upd H4 D (.lst (acc ++ [y]))) := by
          have q8 := q8
          unfold tYes at q8
          simpa using q8
        refine thnF (PEl.run _ s8 σ8 G8 _ I8 q8) ?_
        rintro z s9 ⟨yv, G9, I9, r9, acc, hacc, hlen, nx⟩
        refine app_ok (X := hblk X s3 H3 scope ce fp) I9 hacc hlen r9 ?_
        intro s' I'
        obtain ⟨m', lt, w'⟩ := nxt _ nx
        have still : ∀ b ∈ fp, ∀ o, s7.heap.get? b = some o → s'.heap.get? b = some o ∧ upd G9 D (.lst (acc ++ [yv])) b = none := by
          intro b hb o e
          obtain ⟨k1, k2, _⟩ := I'.pin (b, o) (List.mem_append_right _ (List.mem_append_right _ (mem_pinsAt hb e)))
          exact ⟨k1, k2⟩
        refine ⟨m', lt, i + 1, _, (I'.unpinned (pins := [])).weak ?_ ?_, T.keep _ _ _ t7 fun b hb o e => (still b hb o e).1, ?_, w'⟩
        · rw [← wiped, wipe_length]
        · intro j v e
          rw [← wiped] at e
          exact (wipe_some e).1
        · intro b hb
          obtain ⟨o, e, _⟩ := T.obj _ _ t7 b hb
          exact (still b hb o e).2
    exact codeAny_compStart_list loop (T.self X.A 0 _ _ _ t4 loop)
  rw [hce, hs4, hs3] at goal
  exact goal
end
end Mc
namespace Me
open PySem PySem.Spec PyProof.Rows L2 Mc PySem.HandSPX
variable {P : Program} {w : World} {K : PySem.W.Frag} {mg : Str → Option Value} {base : Heap}
/-- `_law_is` of the exception that is handled -/
def spIsP (K : PySem.W.Frag) (a : Addr) (cls : Value) (dd : Option Addr) : Sp := fun vs H Q _ => ∃ (d : Addr) (x : Str) (v : V), vs = [.ref a] ∧ x ∈ exNames ∧ cls = .ref (He.ga K x) ∧ dd = some d ∧ H d = some (.xd [(("value" : Str), v)]) ∧ ∀ L G, H L = none → G L = some (.lst (isL x exList)) → Ext H G → Q (.ref L) G
theorem okP__law_is (T : Txt P w K mg) : ∃ fd ps, Binds K fd ps [] ∧ Mc.FnP P w K mg base (L2.CX P w) 1 (He.ga K "_law_is") fd ps (spIsP K) := by
  obtain ⟨fd, F⟩ := T.f__law_is
  refine ⟨fd, _, F.bindsN (fun _ _ _ _ _ _ us hl => match us, hl with | [_], _ => rfl), fnP_body F sc__law_is ?_ ?_⟩
  · rintro p _ _ vs H Q E ⟨d, x, v, rfl, _⟩
    rfl
  · rintro cdv A outer s H vs Q E p _ _ hr ⟨d, x, v, rfl, hx, rfl, rfl, hd, fin⟩ hz hf
    refine ⟨_, (Mc.pss_mid (ps_set (i := 1) sc__law_is.nd rfl (Or.inl rfl) (pe_lst (pa_cons (pe_callB (Mc.call_isP (p := p) (List.mem_singleton.mpr rfl) hz hf (exc_ok T)) (by rfl) T.m_isinstance (by decide +kernel) (pa_cons (pv 0) (pa_cons (pe_glob (v := .ref (He.ga K "InvalidNumber")) (by rfl) T.g_InvalidNumber rfl) pa_nil))) (pa_cons (pe_callB (Mc.call_isP (p := p) (List.mem_singleton.mpr rfl) hz hf (exc_ok T)) (by rfl) T.m_isinstance (by decide +kernel) (pa_cons (pv 0) (pa_cons (pe_glob (v := .ref (He.ga K "InvalidKind")) (by rfl) T.g_InvalidKind rfl) pa_nil))) (pa_cons (pe_callB (Mc.call_isP (p := p) (List.mem_singleton.mpr rfl) hz hf (exc_ok T)) (by rfl) T.m_isinstance (by decide +kernel) (pa_cons (pv 0) (pa_cons (pe_glob (v := .ref (He.ga K "InvalidKinds")) (by rfl) T.g_InvalidKinds rfl) pa_nil))) (pa_cons (pe_callB (Mc.call_isP (p := p) (List.mem_singleton.mpr rfl) hz hf (exc_ok T)) (by rfl) T.m_isinstance (by decide +kernel) (pa_cons (pv 0) (pa_cons (pe_glob (v := .ref (He.ga K "InvalidWires")) (by rfl) T.g_InvalidWires rfl) pa_nil))) (pa_cons (pe_callB (Mc.call_isP (p := p) (List.mem_singleton.mpr rfl) hz hf (exc_ok T)) (by rfl) T.m_isinstance (by decide +kernel) (pa_cons (pv 0) (pa_cons (pe_glob (v := .ref (He.ga K "InvalidWord")) (by rfl) T.g_InvalidWord rfl) pa_nil))) (pa_cons (pe_callB (Mc.call_isP (p := p) (List.mem_singleton.mpr rfl) hz hf (exc_ok T)) (by rfl) T.m_isinstance (by decide +kernel) (pa_cons (pv 0) (pa_cons (pe_glob (v := .ref (He.ga K "InvalidEnd")) (by rfl) T.g_InvalidEnd rfl) pa_nil))) (pa_cons (pe_callB (Mc.call_isP (p := p) (List.mem_singleton.mpr rfl) hz hf (exc_ok T)) (by rfl) T.m_isinstance (by decide +kernel) (pa_cons (pv 0) (pa_cons (pe_glob (v := .ref (He.ga K "InvalidPort")) (by rfl) T.g_InvalidPort rfl) pa_nil))) (pa_cons (pe_callB (Mc.call_isP (p := p) (List.mem_singleton.mpr rfl) hz hf (exc_ok T)) (by rfl) T.m_isinstance (by decide +kernel) (pa_cons (pv 0) (pa_cons (pe_glob (v := .ref (He.ga K "InvalidPair")) (by rfl) T.g_InvalidPair rfl) pa_nil))) (pa_cons (pe_callB (Mc.call_isP (p := p) (List.mem_singleton.mpr rfl) hz hf (exc_ok T)) (by rfl) T.m_isinstance (by decide +kernel) (pa_cons (pv 0) (pa_cons (pe_glob (v := .ref (He.ga K "InvalidPairs")) (by rfl) T.g_InvalidPairs rfl) pa_nil))) pa_nil)))))))))))
      (Mc.pss_mid (ps_set (i := 1) sc__law_is.nd rfl (Or.inl rfl) (pe_op op_cat (pv 1) (pe_lst (pa_cons (pe_callB (Mc.call_isP (p := p) (List.mem_singleton.mpr rfl) hz hf (exc_ok T)) (by rfl) T.m_isinstance (by decide +kernel) (pa_cons (pv 0) (pa_cons (pe_glob (v := .ref (He.ga K "InvalidOrder")) (by rfl) T.g_InvalidOrder rfl) pa_nil))) (pa_cons (pe_callB (Mc.call_isP (p := p) (List.mem_singleton.mpr rfl) hz hf (exc_ok T)) (by rfl) T.m_isinstance (by decide +kernel) (pa_cons (pv 0) (pa_cons (pe_glob (v := .ref (He.ga K "InvalidNet")) (by rfl) T.g_InvalidNet rfl) pa_nil))) (pa_cons (pe_callB (Mc.call_isP (p := p) (List.mem_singleton.mpr rfl) hz hf (exc_ok T)) (by rfl) T.m_isinstance (by decide +kernel) (pa_cons (pv 0) (pa_cons (pe_glob (v := .ref (He.ga K "InvalidRows")) (by rfl) T.g_InvalidRows rfl) pa_nil))) (pa_cons (pe_callB (Mc.call_isP (p := p) (List.mem_singleton.mpr rfl) hz hf (exc_ok T)) (by rfl) T.m_isinstance (by decide +kernel) (pa_cons (pv 0) (pa_cons (pe_glob (v := .ref (He.ga K "InvalidName")) (by rfl) T.g_InvalidName rfl) pa_nil))) (pa_cons (pe_callB (Mc.call_isP (p := p) (List.mem_singleton.mpr rfl) hz hf (exc_ok T)) (by rfl) T.m_isinstance (by decide +kernel) (pa_cons (pv 0) (pa_cons (pe_glob (v := .ref (He.ga K "InvalidDeed")) (by rfl) T.g_InvalidDeed rfl) pa_nil))) (pa_cons (pe_callB (Mc.call_isP (p := p) (List.mem_singleton.mpr rfl) hz hf (exc_ok T)) (by rfl) T.m_isinstance (by decide +kernel) (pa_cons (pv 0) (pa_cons (pe_glob (v := .ref (He.ga K "InvalidDeeds")) (by rfl) T.g_InvalidDeeds rfl) pa_nil))) (pa_cons (pe_callB (Mc.call_isP (p := p) (List.mem_singleton.mpr rfl) hz hf (exc_ok T)) (by rfl) T.m_isinstance (by decide +kernel) (pa_cons (pv 0) (pa_cons (pe_glob (v := .ref (He.ga K "InvalidLine")) (by rfl) T.g_InvalidLine rfl) pa_nil))) (pa_cons (pe_callB (Mc.call_isP (p := p) (List.mem_singleton.mpr rfl) hz hf (exc_ok T)) (by rfl) T.m_isinstance (by decide +kernel) (pa_cons (pv 0) (pa_cons (pe_glob (v := .ref (He.ga K "BadText")) (by rfl) T.g_BadText rfl) pa_nil))) (pa_cons (pe_callB (Mc.call_isP (p := p) (List.mem_singleton.mpr rfl) hz hf (exc_ok T)) (by rfl) T.m_isinstance (by decide +kernel) (pa_cons (pv 0) (pa_cons (pe_glob (v := .ref (He.ga K "TooLarge")) (by rfl) T.g_TooLarge rfl) pa_nil))) pa_nil))))))))))))
      (pss_one (ps_ret (pe_op op_cat (pv 1) (pe_lst (pa_cons (pe_callB (Mc.call_isP (p := p) (List.mem_singleton.mpr rfl) hz hf (exc_ok T)) (by rfl) T.m_isinstance (by decide +kernel) (pa_cons (pv 0) (pa_cons (pe_glob (v := .ref (He.ga K "NotReduced")) (by rfl) T.g_NotReduced rfl) pa_nil))) (pa_cons (pe_callB (Mc.call_isP (p := p) (List.mem_singleton.mpr rfl) hz hf (exc_ok T)) (by rfl) T.m_isinstance (by decide +kernel) (pa_cons (pv 0) (pa_cons (pe_glob (v := .ref (He.ga K "HasRing")) (by rfl) T.g_HasRing rfl) pa_nil))) (pa_cons (pe_callB (Mc.call_isP (p := p) (List.mem_singleton.mpr rfl) hz hf (exc_ok T)) (by rfl) T.m_isinstance (by decide +kernel) (pa_cons (pv 0) (pa_cons (pe_glob (v := .ref (He.ga K "UnlikeEnds")) (by rfl) T.g_UnlikeEnds rfl) pa_nil))) (pa_cons (pe_callB (Mc.call_isP (p := p) (List.mem_singleton.mpr rfl) hz hf (exc_ok T)) (by rfl) T.m_isinstance (by decide +kernel) (pa_cons (pv 0) (pa_cons (pe_glob (v := .ref (He.ga K "NotCopyable")) (by rfl) T.g_NotCopyable rfl) pa_nil))) (pa_cons (pe_callB (Mc.call_isP (p := p) (List.mem_singleton.mpr rfl) hz hf (exc_ok T)) (by rfl) T.m_isinstance (by decide +kernel) (pa_cons (pv 0) (pa_cons (pe_glob (v := .ref (He.ga K "NotEnded")) (by rfl) T.g_NotEnded rfl) pa_nil))) (pa_cons (pe_callB (Mc.call_isP (p := p) (List.mem_singleton.mpr rfl) hz hf (exc_ok T)) (by rfl) T.m_isinstance (by decide +kernel) (pa_cons (pv 0) (pa_cons (pe_glob (v := .ref (He.ga K "UnknownName")) (by rfl) T.g_UnknownName rfl) pa_nil))) (pa_cons (pe_callB (Mc.call_isP (p := p) (List.mem_singleton.mpr rfl) hz hf (exc_ok T)) (by rfl) T.m_isinstance (by decide +kernel) (pa_cons (pv 0) (pa_cons (pe_glob (v := .ref (He.ga K "NothingToUndo")) (by rfl) T.g_NothingToUndo rfl) pa_nil))) (pa_cons (pe_callB (Mc.call_isP (p := p) (List.mem_singleton.mpr rfl) hz hf (exc_ok T)) (by rfl) T.m_isinstance (by decide +kernel) (pa_cons (pv 0) (pa_cons (pe_glob (v := .ref (He.ga K "InvalidMove")) (by rfl) T.g_InvalidMove rfl) pa_nil))) (pa_cons (pe_callB (Mc.call_isP (p := p) (List.mem_singleton.mpr rfl) hz hf (exc_ok T)) (by rfl) T.m_isinstance (by decide +kernel) (pa_cons (pv 0) (pa_cons (pe_glob (v := .ref (He.ga K "InvalidMoves")) (by rfl) T.g_InvalidMoves rfl) pa_nil))) pa_nil))))))))))))))), ?_⟩
    have kt := (T.xt x (by
      have h := hx
      unfold exNames at h
      simp only [List.mem_cons, List.not_mem_nil, or_false] at h
      rcases h with rfl | rfl | rfl | rfl | rfl | rfl | rfl | rfl | rfl | rfl | rfl | rfl | rfl | rfl | rfl | rfl | rfl | rfl | rfl | rfl | rfl | rfl | rfl | rfl | rfl | rfl | rfl | rfl <;> simp)).1
    refine ⟨fun τ G => ∃ L, τ = [some (.ref p.1), some (.ref L)] ∧ H L = none ∧ G L = some (.lst (isL x (exList.take 9))) ∧ Ext H G, ?_, ?_⟩
    · exact ⟨_, rfl, d, _, v, _, _, decide (x = "InvalidNumber"), rfl, .own _, ⟨x, hx, rfl⟩, rfl, rfl, hd, kt "InvalidNumber" (by simp), _, rfl, d, _, v, _, _, decide (x = "InvalidKind"), rfl, .own _, ⟨x, hx, rfl⟩, rfl, rfl, hd, kt "InvalidKind" (by simp), _, rfl, d, _, v, _, _, decide (x = "InvalidKinds"), rfl, .own _, ⟨x, hx, rfl⟩, rfl, rfl, hd, kt "InvalidKinds" (by simp), _, rfl, d, _, v, _, _, decide (x = "InvalidWires"), rfl, .own _, ⟨x, hx, rfl⟩, rfl, rfl, hd, kt "InvalidWires" (by simp), _, rfl, d, _, v, _, _, decide (x = "InvalidWord"), rfl, .own _, ⟨x, hx, rfl⟩, rfl, rfl, hd, kt "InvalidWord" (by simp), _, rfl, d, _, v, _, _, decide (x = "InvalidEnd"), rfl, .own _, ⟨x, hx, rfl⟩, rfl, rfl, hd, kt "InvalidEnd" (by simp), _, rfl, d, _, v, _, _, decide (x = "InvalidPort"), rfl, .own _, ⟨x, hx, rfl⟩, rfl, rfl, hd, kt "InvalidPort" (by simp), _, rfl, d, _, v, _, _, decide (x = "InvalidPair"), rfl, .own _, ⟨x, hx, rfl⟩, rfl, rfl, hd, kt "InvalidPair" (by simp), _, rfl, d, _, v, _, _, decide (x = "InvalidPairs"), rfl, .own _, ⟨x, hx, rfl⟩, rfl, rfl, hd, kt "InvalidPairs" (by simp), (by show 9 ≤ sizeLine; decide), fun L hL => ⟨L, rfl, hL, upd_same, Ext.new hL⟩⟩
    rintro _ G1 ⟨L1, rfl, hL1, g1, E1⟩
    have hd1 := E1 _ _ hd
    refine ⟨fun τ G => ∃ L, τ = [some (.ref p.1), some (.ref L)] ∧ G L = some (.lst (isL x (exList.take 18))) ∧ Ext H G, ?_, ?_⟩
    · refine ⟨_, rfl, _, rfl, d, _, v, _, _, decide (x = "InvalidOrder"), rfl, .own _, ⟨x, hx, rfl⟩, rfl, rfl, hd1, kt "InvalidOrder" (by simp), _, rfl, d, _, v, _, _, decide (x = "InvalidNet"), rfl, .own _, ⟨x, hx, rfl⟩, rfl, rfl, hd1, kt "InvalidNet" (by simp), _, rfl, d, _, v, _, _, decide (x = "InvalidRows"), rfl, .own _, ⟨x, hx, rfl⟩, rfl, rfl, hd1, kt "InvalidRows" (by simp), _, rfl, d, _, v, _, _, decide (x = "InvalidName"), rfl, .own _, ⟨x, hx, rfl⟩, rfl, rfl, hd1, kt "InvalidName" (by simp), _, rfl, d, _, v, _, _, decide (x = "InvalidDeed"), rfl, .own _, ⟨x, hx, rfl⟩, rfl, rfl, hd1, kt "InvalidDeed" (by simp), _, rfl, d, _, v, _, _, decide (x = "InvalidDeeds"), rfl, .own _, ⟨x, hx, rfl⟩, rfl, rfl, hd1, kt "InvalidDeeds" (by simp), _, rfl, d, _, v, _, _, decide (x = "InvalidLine"), rfl, .own _, ⟨x, hx, rfl⟩, rfl, rfl, hd1, kt "InvalidLine" (by simp), _, rfl, d, _, v, _, _, decide (x = "BadText"), rfl, .own _, ⟨x, hx, rfl⟩, rfl, rfl, hd1, kt "BadText" (by simp), _, rfl, d, _, v, _, _, decide (x = "TooLarge"), rfl, .own _, ⟨x, hx, rfl⟩, rfl, rfl, hd1, kt "TooLarge" (by simp), (by show 9 ≤ sizeLine; decide), fun L hL => ?_⟩
      have E := Ext.new (o := .lst (isL x ((exList.drop 9).take 9))) hL
      refine ⟨L1, L, _, _, rfl, rfl, E _ _ g1, upd_same, (by show 9 + 9 ≤ sizeLine; decide), fun L2 hL2 => ⟨L2, rfl, upd_same, (E1.trans E).trans (Ext.new hL2)⟩⟩
    rintro _ G2 ⟨L2, rfl, g2, E2⟩
    have hd2 := E2 _ _ hd
    refine ⟨_, rfl, _, rfl, d, _, v, _, _, decide (x = "NotReduced"), rfl, .own _, ⟨x, hx, rfl⟩, rfl, rfl, hd2, kt "NotReduced" (by simp), _, rfl, d, _, v, _, _, decide (x = "HasRing"), rfl, .own _, ⟨x, hx, rfl⟩, rfl, rfl, hd2, kt "HasRing" (by simp), _, rfl, d, _, v, _, _, decide (x = "UnlikeEnds"), rfl, .own _, ⟨x, hx, rfl⟩, rfl, rfl, hd2, kt "UnlikeEnds" (by simp), _, rfl, d, _, v, _, _, decide (x = "NotCopyable"), rfl, .own _, ⟨x, hx, rfl⟩, rfl, rfl, hd2, kt "NotCopyable" (by simp), _, rfl, d, _, v, _, _, decide (x = "NotEnded"), rfl, .own _, ⟨x, hx, rfl⟩, rfl, rfl, hd2, kt "NotEnded" (by simp), _, rfl, d, _, v, _, _, decide (x = "UnknownName"), rfl, .own _, ⟨x, hx, rfl⟩, rfl, rfl, hd2, kt "UnknownName" (by simp), _, rfl, d, _, v, _, _, decide (x = "NothingToUndo"), rfl, .own _, ⟨x, hx, rfl⟩, rfl, rfl, hd2, kt "NothingToUndo" (by simp), _, rfl, d, _, v, _, _, decide (x = "InvalidMove"), rfl, .own _, ⟨x, hx, rfl⟩, rfl, rfl, hd2, kt "InvalidMove" (by simp), _, rfl, d, _, v, _, _, decide (x = "InvalidMoves"), rfl, .own _, ⟨x, hx, rfl⟩, rfl, rfl, hd2, kt "InvalidMoves" (by simp), (by show 9 ≤ sizeLine; decide), fun L hL => ?_⟩
    have E := Ext.new (o := .lst (isL x ((exList.drop 18).take 9))) hL
    refine ⟨L2, L, _, _, rfl, rfl, E _ _ g2, upd_same, (by show 18 + 9 ≤ sizeLine; decide), fun L3 hL3 => ?_⟩
    have E3 := E.trans (Ext.new (o := .lst (isL x exList)) hL3)
    refine fin L3 _ ((E2.trans E).fresh hL3) upd_same (E2.trans E3)
end Me
namespace Me
open PySem PySem.Spec PyProof.Rows L2 Mc PySem.HandSPX
variable {P : Program} {w : World} {K : PySem.W.Frag} {mg : Str → Option Value} {base : Heap}
theorem eqv_bools (l : List Bool) : PyData.eqv (.list (l.map PyData.bool)) (.list (l.map PyData.bool)) = true := by
  have h : ∀ l : List Bool, PyData.eqvAll (l.map PyData.bool) (l.map PyData.bool) = true := by
    intro l
    induction l with
    | nil => simp [PyData.eqvAll]
    | cons a l ih => rw [List.map_cons, PyData.eqvAll, ih]; simp [PyData.eqv]
  simp only [PyData.eqv, h]
theorem dpAll_bools {H : Hp} : ∀ l : List Bool, DpAll K H (l.map V.bl) (l.map PyData.bool)
  | [] => .nil
  | b :: l => .cons (.bl b) (dpAll_bools l)
theorem dp_bools {H : Hp} {L : Addr} {l : List Bool} (h : H L = some (.lst (l.map V.bl))) : Dp K H (.ref L) (.list (l.map PyData.bool)) := .lst (SqL.of h) (dpAll_bools l)
theorem depth_bools (l : List Bool) : (PyData.list (l.map PyData.bool)).depth ≤ 60 := by
  have h : ∀ l : List Bool, PyData.depthAll (l.map PyData.bool) ≤ 2 := by
    intro l
    induction l with
    | nil => simp [PyData.depthAll]
    | cons a l ih => rw [List.map_cons, PyData.depthAll]; simp [PyData.depth]; omega
  have := h l
  simp only [PyData.depth]
  omega
def BV (_ : Hp) (v : V) (b : Bool) : Prop := v = .bl b
theorem bv_mono : TMono BV := fun _ h => h
/-- the truths that are asked -/
def isB (n : Nat) : List Bool := (List.range 27).map fun i => decide (i = n)
theorem isL_of {n : Nat} (h : n < 28) : isL (exList.getD n "MeetcellsError") exList = (isB n).map V.bl := by
  have : ∀ n : Fin 28, isL (exList.getD n.1 "MeetcellsError") exList = (isB n.1).map V.bl := by decide
  exact this ⟨n, h⟩
def spRaised (K : PySem.W.Frag) : Sp := fun vs H Q _ => ∃ (v : V) (d : PyData), vs = [v] ∧ Dq K H v d ∧ Shows d ∧ ∀ G, Ext H G → Q (.bl true) G
theorem ok__law_raised (T : Txt P w K mg) : FnG P w K mg base (L2.CX P w) 4 (He.ga K "_law_raised") (spRaised K) := by
  obtain ⟨fd_i, ps_i, hb__law_is, P__law_is⟩ := okP__law_is (base := base) T
  have TC_MeetcellsError := T.x_InvalidNumber
  obtain ⟨fd, F⟩ := T.f__law_raised
  refine fnG_body F sc__law_raised (F.bindsN (fun _ _ _ _ _ _ us hl => match us, hl with | [_], _ => rfl)) ?_ ?_
  · rintro vs H Q E ⟨v, d, rfl, _⟩
    rfl
  · rintro cdv A outer s H vs Q E hr hgd ⟨v, d, rfl, hd, sh, q⟩
    refine ⟨_, (pss_one (Mc.ps_try_mixN rfl rfl sc__law_raised.nd Mc.takes0N (fun W pn xe tk po => (pss_one (Mc.ps_raiseMeN rfl T.me T.x_InvalidNumber T.m_super T.g_InvalidNumber (hr.mono (by decide) : Room 1 _) tk (by exact (pa_cons (pv 0) pa_nil))))) (Mc.HdsMixN.bare ⟨by rfl, by decide, Or.inl T.g_InvalidPairs⟩ (fun a oe cls d pn hz hf => (pss_one (ps_ret pe_bl))) (Mc.HdsMixN.named (i := 1) rfl rfl ⟨by rfl, by decide, Or.inl T.g_MeetcellsError⟩ (fun a oe cls d pn hz hf => (pss_one (ps_ret (pe_and (pe_cmpR op_eq (pe_callB ((Mc.call_repr hgd hr.units) : CallR _ (.builtin "repr") (Mc.rRepr K)) (by rfl) T.m_repr (by decide +kernel) (pa_cons (Mc.pe_valMe TC_MeetcellsError hz.zc hf (pv 1)) pa_nil)) (pe_callB ((Mc.call_repr hgd hr.units) : CallR _ (.builtin "repr") (Mc.rRepr K)) (by rfl) T.m_repr (by decide +kernel) (pa_cons (pv 0) pa_nil)) (nomark _)) (pe_one (pe_cmpR ((Mc.op_eqP hr.units) : OpR _ _ (Mc.rEqP K)) (Mc.pe_callPS hz hf P__law_is (hr.mono (by decide)) (by rfl) T.g__law_is T.k__law_is hb__law_is pass_no (pa_cons (pv 1) pa_nil)) (Mc.pe_lcH (own := [("_law_k", 2)]) (Mc.hotC_suite hz hf) sc__law_raised.nd (L2H.pi_range1H (by rfl) T.m_range (pa_cons pe_int pa_nil)) (blkOk_by (own := [("_law_k", 2)]) (N := N__law_raised) (sc := defScope s__law_raised) (by decide +kernel)) (fun _ _ _ _ _ => (pg_name (i := 2) sc__law_raised.nd rfl (Or.inl rfl))) (fun _ _ _ _ _ => (pe_cmpR op_eq (pv 2) pe_int (nomark _)))) (nomark _))))))) Mc.HdsMixN.nil)))), ?_⟩
    refine ⟨_, rfl, v, rfl, fun ee hee => ?_⟩
    refine ⟨false, T.e_InvalidNumber_InvalidPairs, (fun z => nomatch z), fun _ => ⟨true, T.e_InvalidNumber_MeetcellsError, fun _ a ha => ?_, (fun z => nomatch z)⟩⟩
    have E1 : Ext H (upd H ee (.xd [(("value" : Str), v)])) := Ext.new hee
    have hd1 := dq_ext E1 hd
    refine ⟨_, rfl, rfl, rfl, ee, v, rfl, upd_same, v, d, rfl, hd1, sh, _, rfl, v, d, rfl, hd1, sh, rfl, ?_⟩
    rw [decide_eq_true (rfl : V.str d.shown = V.str d.shown)]
    refine ⟨_, rfl, ?_⟩
    rw [if_pos rfl]
    refine ⟨_, rfl, ee, "InvalidNumber", v, rfl, by decide, rfl, rfl, upd_same, fun L G hL gL EL => ?_⟩
    refine ⟨_, rfl, by decide, by decide, fun D hD => ?_⟩
    refine lc_all walk_range BV bv_mono (fun i => decide (i = 0)) hD (by decide) (fun _ _ => trivial) ?_ ?_
    · rintro i x G1 G2 Qe hi e1 ⟨rfl, rfl⟩ fin
      refine ⟨rfl, _, rfl, ?_⟩
      refine ⟨rfl, ?_⟩
      refine fin _ _ (Ext.refl _) ?_
      have e : (V.int (0 + (i : Int)) = V.int 0) ↔ i = 0 := ⟨fun z => by have := V.int.inj z; omega, fun z => by rw [z]; rfl⟩
      show V.bl _ = V.bl _
      exact congrArg V.bl (decide_eq_decide.mpr e)
    · intro zs G1 gD hz e1
      obtain rfl := paired_map (H := G1) V.bl hz
      have gL := e1 _ _ gL
      rw [show isL "InvalidNumber" exList = (isB 0).map V.bl from isL_of (n := 0) (by decide)] at gL
      refine ⟨_, _, dp_bools gL, dp_bools gD, depth_bools _, ?_⟩
      have e := eqv_bools (isB 0)
      unfold isB at e
      rw [show Int.toNat 27 = 27 from rfl, show isB 0 = (List.range 27).map (fun i => decide (i = 0)) from rfl, e]
      exact q G1 ((E1.trans EL).trans e1)
end Me
namespace Me
open PySem PySem.Spec PyProof.Rows L2 Mc
variable {P : Program} {w : World} {K : PySem.W.Frag} {mg : Str → Option Value} {base : Heap}
/-! ### the values that the exceptions hold -/
/-- all but the box are kept -/
def KeptB (H G : Hp) (b : Addr) : Prop := ∀ c o, c ≠ b → H c = some o → G c = some o
theorem KeptB.fresh {H G : Hp} {b p : Addr} (h : KeptB H G b) (hp : G p = none) (hne : p ≠ b) : H p = none := by
  cases e : H p with
  | none => rfl
  | some o =>
    rw [h p o hne e] at hp
    cases hp
theorem KeptB.new {H G : Hp} {b p : Addr} {o : HO} (h : KeptB H G b) (hp : G p = none) : KeptB H (upd G p o) b := fun c u hc e => by
  have e1 := h c u hc e
  rw [upd_ne (ne_of_none e1 hp)]
  exact e1
theorem KeptB.box {H G G' : Hp} {b : Addr} (h : KeptB H G b) (hf : ∀ c, c ≠ b → G' c = G c) : KeptB H G' b := fun c u hc e => (hf c hc).trans (h c u hc e)
theorem BoxAt.keep {H G : Hp} {b : Addr} {n m : Int} (h : BoxAt H b n) (e : G b = H b) (hm : n ≤ m) : BoxAt G b m := by
  obtain ⟨x0, x1, x2, h1, h2, h3, h4, h5, h6⟩ := h.ex
  exact ⟨x0, x1, x2, e.trans h1, h2, h3, h4, h5, by omega⟩
theorem BoxAt.at_ {H : Hp} {b : Addr} {n : Int} (h : BoxAt H b n) : ∃ xs, H b = some (.lst xs) := by
  obtain ⟨x0, x1, x2, h1, h⟩ := h.ex
  exact ⟨_, h1⟩
def signs (cs : List Nat) : Str := ⟨cs.toArray⟩
structure VS (G : Hp) (LV a5 a6 a7 a8 a9 : Addr) (t : Str) (i : Int) (l5 l8 : List Nat) : Prop where
  lv : G LV = some (.lst [.non, .bl true, .bl false, .int i, .str t, .ref a5, .ref a6, .ref a7, .ref a8, .int (10 ^ 29)])
  v5 : G a5 = some (.lst (.str t :: l5.map vI))
  v6 : G a6 = some (.tup [.str t, .non])
  v7 : G a7 = some (.dK [])
  v8 : G a8 = some (.lst (.ref a9 :: l8.map vI))
  v9 : G a9 = some (.lst [])
/-- a text of few signs -/
def Few (t : Str) : Prop := t.length ≤ 5 ∧ ∀ c ∈ t.cps.toList, c < 1114112
def spVals : Sp := fun vs H Q _ => ∃ (b : Addr) (n : Int), vs = [.ref b] ∧ BoxAt H b n ∧ n ≤ 800000000 ∧ ∀ (LV a5 a6 a7 a8 a9 : Addr) (t : Str) (i : Int) (G : Hp), Few t → i.natAbs < 1000 →
  (∀ x ∈ [LV, a5, a6, a7, a8, a9], H x = none) → VS G LV a5 a6 a7 a8 a9 t i [] [] → BoxAt G b (n + 10) → KeptB H G b → Q (.ref LV) G
theorem ok__law_values (T : Txt P w K mg) : FnR P w K mg base (L2.CX P w) 2 (He.ga K "_law_values") spVals := by
  have G__law_take := ok__law_take (base := base) T
  obtain ⟨fd, F⟩ := T.f__law_values
  refine fnR_body F sc__law_values (F.bindsN (fun _ _ _ _ _ _ us hl => match us, hl with | [_], _ => rfl)) ?_ ?_
  · rintro vs H Q E ⟨b, n, rfl, _⟩
    rfl
  · rintro cdv A outer s H vs Q E hr ⟨b, n, rfl, hB, hn, q⟩
    refine ⟨_, (PSs.nox (Mc.pss_mid (ps_set (i := 1) sc__law_values.nd rfl (Or.inl rfl) (pe_join pe_str (pe_lc (own := [("_law_k", 2)]) rfl sc__law_values.nd (pi_range1 (by rfl) T.m_range (pa_cons (Mc.pe_callR G__law_take (hr.mono (by decide)) (by rfl) T.g__law_take T.k__law_take pass_no (pa_cons (pv 0) (pa_cons pe_int pa_nil))) pa_nil)) (blkOk_by (own := [("_law_k", 2)]) (N := N__law_values) (sc := defScope s__law_values) (by decide +kernel)) (fun _ _ _ _ _ => (pg_name (i := 2) sc__law_values.nd rfl (Or.inl rfl))) (fun _ _ _ _ _ => pts_nil) (fun _ _ _ _ _ => (pe_ix ix_str pe_str (Mc.pe_callR G__law_take (hr.mono (by decide)) (by rfl) T.g__law_take T.k__law_take pass_no (pa_cons (pv 0) (pa_cons pe_int pa_nil))) (fun _ _ => rfl))))))
      (pss_one (ps_ret (pe_lst (pa_cons pe_non (pa_cons pe_bl (pa_cons pe_bl (pa_cons (pe_op op_sub (Mc.pe_callR G__law_take (hr.mono (by decide)) (by rfl) T.g__law_take T.k__law_take pass_no (pa_cons (pv 0) (pa_cons pe_int pa_nil))) pe_int) (pa_cons (pv 1) (pa_cons (pe_lst (pa_cons (pv 1) pa_nil)) (pa_cons (pe_tup (pa_cons (pv 1) (pa_cons pe_non pa_nil))) (pa_cons pe_dnewK (pa_cons (pe_lst (pa_cons (pe_lst pa_nil) pa_nil)) (pa_cons (pe_op op_pow pe_int pe_int) pa_nil))))))))))))))), ?_⟩
    refine ⟨fun τ G => ∃ (t : Str) (y : Option V), τ = [some (.ref b), some (.str t), y] ∧ Few t ∧ BoxAt G b (n + 7) ∧ KeptB H G b, ?_, ?_⟩
    · refine ⟨⟨_, rfl⟩, _, rfl, b, n, 6, rfl, hB, by omega, by omega, by omega, fun r H1 hr0 hr1 hB1 hf1 => ⟨r, rfl, by omega, by omega, fun D hD => ?_⟩⟩
      have nDb : D ≠ b := fun z => by
        obtain ⟨xs, e⟩ := hB1.at_
        rw [← z, hD] at e
        cases e
      have K1 : KeptB H H1 b := fun c o hc e => (hf1 c hc).trans e
      refine lc_range (lo := 0) (n := r.toNat) (fun i G => ∃ cs : List Nat, cs.length = i ∧ (∀ c ∈ cs, c < 1114112) ∧ G D = some (.lst (cs.map fun c => V.str ⟨#[c]⟩)) ∧ BoxAt G b (n + 1 + i) ∧ KeptB H G b) ?_ ?_ ?_
      · refine ⟨[], rfl, (fun c hc => nomatch hc), upd_same, hB1.keep (upd_ne nDb.symm) (by omega), K1.new hD⟩
      · rintro i G hi ⟨cs, hl, hcs, gD, gB, gK⟩
        refine ⟨rfl, _, rfl, b, _, 6, rfl, gB, by omega, by omega, by omega, fun z G2 hz0 hz1 hB2 hf2 => ?_⟩
        obtain ⟨c, hc, hcm⟩ := atI_mem (xs := ("ab12 ~" : Str).cps.toList) hz0 (by show z < ((6 : Nat) : Int); exact hz1)
        have hc4 : c < 1114112 := (show ∀ c ∈ ("ab12 ~" : Str).cps.toList, c < 1114112 by decide) c hcm
        refine ⟨"ab12 ~", z, c, rfl, rfl, by decide, hc, _, (hf2 D nDb).trans gD, ?_, cs ++ [c], ?_, ?_, ?_, ?_, ?_⟩
        · rw [List.length_map]
          exact Nat.lt_of_lt_of_le (show cs.length < 100000 by omega) (by decide)
        · rw [List.length_append, hl]
          rfl
        · intro x hx
          rcases List.mem_append.mp hx with hx | hx
          · exact hcs x hx
          · rw [List.mem_singleton.mp hx]
            exact hc4
        · rw [List.map_append]
          exact upd_same
        · refine hB2.keep (upd_ne nDb.symm) ?_
          push_cast
          omega
        · intro c o hcb e
          have e2 := (hf2 c hcb).trans (gK c o hcb e)
          rw [upd_ne (fun z => by
            rw [z, K1.fresh hD nDb] at e
            cases e)]
          exact e2
      · rintro G ⟨cs, hl, hcs, gD, gB, gK⟩
        have hmap : (cs.map fun c => V.str ⟨#[c]⟩) = (cs.map fun c => (⟨#[c]⟩ : Str)).map V.str := by
          rw [List.map_map]
          rfl
        rw [hmap] at gD
        have hsum : ∀ l : List Nat, ((l.map fun c => (⟨#[c]⟩ : Str)).map (·.length)).sum = l.length := by
          intro l
          induction l with
          | nil => rfl
          | cons a l ih =>
            rw [List.map_cons, List.map_cons, List.sum_cons, ih, List.length_cons]
            exact Nat.add_comm 1 l.length
        refine ⟨"", D, cs.map fun c => (⟨#[c]⟩ : Str), rfl, rfl, .inl (SqL.of gD), ?_, ?_⟩
        · have h0 : ("" : Str).length = 0 := rfl
          rw [hsum, h0, hl]
          omega
        · rw [join_signs]
          exact ⟨signs cs, _, rfl, ⟨by show cs.toArray.size ≤ 5; rw [List.size_toArray]; omega, fun c hc => hcs c (by simpa [signs] using hc)⟩, gB.keep rfl (by omega), gK⟩
    rintro _ G ⟨t, y, rfl, hft, hB2, hK2⟩
    refine ⟨_, rfl, b, _, 1000, rfl, hB2, by omega, by omega, by omega, fun r G1 hr0 hr1 hB3 hf3 => ⟨_, _, rfl, rfl, ?_⟩⟩
    have K3 := hK2.box hf3
    have nb : ∀ {G : Hp} {x : Addr} {k : Int}, BoxAt G b k → G x = none → x ≠ b := fun hB e z => by
      obtain ⟨xs, e1⟩ := hB.at_
      rw [← z, e] at e1
      cases e1
    refine ⟨_, rfl, _, rfl, (by show 1 ≤ sizeLine; decide), fun a5 h5 => ?_⟩
    have n5 := nb hB3 h5
    have B5 := hB3.keep (G := upd G1 a5 (.lst [.str t])) (upd_ne n5.symm) (Int.le_refl _)
    have K5 := K3.new (o := .lst [.str t]) h5
    have X5 : Ext G1 (upd G1 a5 (.lst [.str t])) := Ext.new h5
    refine ⟨_, rfl, (by show 2 ≤ sizeLine; decide), fun a6 h6 => ?_⟩
    have n6 := nb B5 h6
    have B6 := B5.keep (G := upd _ a6 (.tup [.str t, .non])) (upd_ne n6.symm) (Int.le_refl _)
    have K6 := K5.new (o := .tup [.str t, .non]) h6
    have X6 := X5.trans (Ext.new (o := .tup [.str t, .non]) h6)
    refine fun a7 h7 => ?_
    have n7 := nb B6 h7
    have B7 := B6.keep (G := upd _ a7 (.dK [])) (upd_ne n7.symm) (Int.le_refl _)
    have K7 := K6.new (o := .dK []) h7
    have X7 := X6.trans (Ext.new (o := .dK []) h7)
    refine ⟨(by show 0 ≤ sizeLine; decide), fun a9 h9 => ?_⟩
    have n9 := nb B7 h9
    have B9 := B7.keep (G := upd _ a9 (.lst [])) (upd_ne n9.symm) (Int.le_refl _)
    have K9 := K7.new (o := .lst []) h9
    have X9 := X7.trans (Ext.new (o := .lst []) h9)
    refine ⟨(by show 1 ≤ sizeLine; decide), fun a8 h8 => ?_⟩
    have n8 := nb B9 h8
    have B8 := B9.keep (G := upd _ a8 (.lst [.ref a9])) (upd_ne n8.symm) (Int.le_refl _)
    have K8 := K9.new (o := .lst [.ref a9]) h8
    have X8 := X9.trans (Ext.new (o := .lst [.ref a9]) h8)
    refine ⟨_, _, rfl, rfl, ⟨by decide, by decide, by decide⟩, (by show 10 ≤ sizeLine; decide), fun LV hLV => ?_⟩
    have nL := nb B8 hLV
    have e8 := Ext.new (o := .lst [.ref a9]) h8
    have e9 := (Ext.new (o := .lst []) h9).trans e8
    have e7 := (Ext.new (o := .dK []) h7).trans e9
    have e6 := (Ext.new (o := .tup [.str t, .non]) h6).trans e7
    refine q LV a5 a6 a7 a8 a9 t (r - 500) _ hft (by omega) ?_ ?_ (B8.keep (upd_ne nL.symm) (by omega)) (K8.new hLV)
    · intro x hx
      simp only [List.mem_cons, List.not_mem_nil, or_false] at hx
      rcases hx with rfl | rfl | rfl | rfl | rfl | rfl
      · exact K8.fresh hLV nL
      · exact K3.fresh h5 n5
      · exact K5.fresh h6 n6
      · exact K6.fresh h7 n7
      · exact K9.fresh h8 n8
      · exact K7.fresh h9 n9
    · have EL : ∀ {o : HO}, Ext _ (upd _ LV o) := fun {o} => Ext.new (o := o) hLV
      refine ⟨upd_same, EL _ _ (e6 _ _ upd_same), EL _ _ (e7 _ _ upd_same), EL _ _ (e9 _ _ upd_same), EL _ _ upd_same, EL _ _ (e8 _ _ upd_same)⟩
end Me
namespace Me
open PySem PySem.Spec PyProof.Rows L2 Mc
variable {P : Program} {w : World} {K : PySem.W.Frag} {mg : Str → Option Value} {base : Heap}
/-! ### the values as data -/
section
variable {G G' : Hp} {LV a5 a6 a7 a8 a9 b : Addr} {t : Str} {i : Int} {l5 l8 : List Nat} {n m : Int}
theorem VS.ext (v : VS G LV a5 a6 a7 a8 a9 t i l5 l8) (e : Ext G G') : VS G' LV a5 a6 a7 a8 a9 t i l5 l8 := ⟨e _ _ v.lv, e _ _ v.v5, e _ _ v.v6, e _ _ v.v7, e _ _ v.v8, e _ _ v.v9⟩
theorem VS.nb (v : VS G LV a5 a6 a7 a8 a9 t i l5 l8) (hB : BoxAt G b n) : ∀ x ∈ [LV, a5, a6, a7, a8, a9], x ≠ b := by
  obtain ⟨x0, x1, x2, e, _⟩ := hB.ex
  intro x hx z
  subst z
  simp only [List.mem_cons, List.not_mem_nil, or_false] at hx
  rcases hx with rfl | rfl | rfl | rfl | rfl | rfl
  · have := v.lv
    rw [e] at this
    cases this
  · have := v.v5
    rw [e] at this
    cases this
  · have := v.v6
    rw [e] at this
    cases this
  · have := v.v7
    rw [e] at this
    cases this
  · have := v.v8
    rw [e] at this
    cases this
  · have := v.v9
    rw [e] at this
    cases this
theorem VS.box (v : VS G LV a5 a6 a7 a8 a9 t i l5 l8) (hB : BoxAt G b n) (hf : ∀ c, c ≠ b → G' c = G c) : VS G' LV a5 a6 a7 a8 a9 t i l5 l8 := by
  have h := v.nb hB
  exact ⟨(hf _ (h LV (by simp))).trans v.lv, (hf _ (h a5 (by simp))).trans v.v5, (hf _ (h a6 (by simp))).trans v.v6, (hf _ (h a7 (by simp))).trans v.v7, (hf _ (h a8 (by simp))).trans v.v8, (hf _ (h a9 (by simp))).trans v.v9⟩
theorem VS.put5 (v : VS G LV a5 a6 a7 a8 a9 t i l5 l8) (j : Nat) : VS (upd G a5 (.lst ((.str t :: l5.map vI) ++ [vI j]))) LV a5 a6 a7 a8 a9 t i (l5 ++ [j]) l8 := by
  have ne : ∀ {x : Addr} {o : HO}, G x = some o → o ≠ .lst (.str t :: l5.map vI) → x ≠ a5 := fun e ho z => by
    rw [z, v.v5] at e
    exact ho (Option.some.inj e).symm
  refine ⟨?_, ?_, ?_, ?_, ?_, ?_⟩
  · rw [upd_ne (ne v.lv fun z => nomatch z)]
    exact v.lv
  · rw [upd_same, List.map_append]
    rfl
  · rw [upd_ne (ne v.v6 fun z => nomatch z)]
    exact v.v6
  · rw [upd_ne (ne v.v7 fun z => nomatch z)]
    exact v.v7
  · rw [upd_ne (ne v.v8 fun z => nomatch z)]
    exact v.v8
  · rw [upd_ne (ne v.v9 fun z => nomatch z)]
    exact v.v9
theorem VS.put8 (v : VS G LV a5 a6 a7 a8 a9 t i l5 l8) (j : Nat) : VS (upd G a8 (.lst ((.ref a9 :: l8.map vI) ++ [vI j]))) LV a5 a6 a7 a8 a9 t i l5 (l8 ++ [j]) := by
  have ne : ∀ {x : Addr} {o : HO}, G x = some o → o ≠ .lst (.ref a9 :: l8.map vI) → x ≠ a8 := fun e ho z => by
    rw [z, v.v8] at e
    exact ho (Option.some.inj e).symm
  refine ⟨?_, ?_, ?_, ?_, ?_, ?_⟩
  · rw [upd_ne (ne v.lv fun z => nomatch z)]
    exact v.lv
  · rw [upd_ne (ne v.v5 fun z => nomatch z)]
    exact v.v5
  · rw [upd_ne (ne v.v6 fun z => nomatch z)]
    exact v.v6
  · rw [upd_ne (ne v.v7 fun z => nomatch z)]
    exact v.v7
  · rw [upd_same, List.map_append]
    rfl
  · rw [upd_ne (ne v.v9 fun z => nomatch z)]
    exact v.v9
end
theorem shows_lst {n k : Nat} {ds : List PyData} (h : ∀ d ∈ ds, Sm n k d) (hn : n * ds.length + 2 * ds.length + 3 ≤ 10000000) (hk : k + 1 ≤ 60) : Shows (.list ds) := by
  obtain ⟨a, b, c, n3⟩ := sm_all h
  refine ⟨by simpa only [PyData.showable] using a, ?_, by simp only [PyData.depth]; omega⟩
  simp only [PyData.shown]
  have := listText_len_le (PyData.shownAll ds)
  rw [PyData.shownAll_length] at this
  have hz : (10000000 : Nat) ≤ sizeLine := by decide
  omega
def dI (n : Nat) : PyData := .int (n : Int)
theorem dp_ints {G : Hp} : ∀ l : List Nat, DpAll K G (l.map vI) (l.map dI)
  | [] => .nil
  | n :: l => .cons (.int _) (dp_ints l)
/-- the values that stand in the list, and what they are -/
def vals (t : Str) (i : Int) (a5 a6 a7 a8 : Addr) : List V := [.non, .bl true, .bl false, .int i, .str t, .ref a5, .ref a6, .ref a7, .ref a8, .int (10 ^ 29)]
def dats (t : Str) (i : Int) (l5 l8 : List Nat) : List PyData := [.none, .bool true, .bool false, .int i, .str t, .list (.str t :: l5.map dI), .tuple [.str t, .none], .dict [], .list (.list [] :: l8.map dI), .int (10 ^ 29)]
def SmallL (l : List Nat) : Prop := l.length ≤ 100 ∧ ∀ x ∈ l, x < 100
theorem SmallL.ints {l : List Nat} (h : SmallL l) : ∀ d ∈ l.map dI, Sm 52 1 d := by
  intro d hd
  obtain ⟨x, hx, rfl⟩ := List.mem_map.mp hd
  have := h.2 x hx
  exact (sm_int (k := 3) (by decide) (by decide) (by show x < _; omega)).up (by decide) (by decide)
theorem vs_dq {G : Hp} {LV a5 a6 a7 a8 a9 : Addr} {t : Str} {i : Int} {l5 l8 : List Nat} (v : VS G LV a5 a6 a7 a8 a9 t i l5 l8) (ht : Few t) (hi : i.natAbs < 1000) (h5 : SmallL l5) (h8 : SmallL l8) :
    Paired (fun x d => Dq K G x d ∧ Shows d) (vals t i a5 a6 a7 a8) (dats t i l5 l8) := by
  have st : Sm 52 0 (.str t) := sm_str (m := 5) ht.1 ht.2
  refine .cons ⟨.dp .non, sm_none.shows (by decide) (by decide)⟩ (.cons ⟨.dp (.bl _), (sm_bool _).shows (by decide) (by decide)⟩ (.cons ⟨.dp (.bl _), (sm_bool _).shows (by decide) (by decide)⟩ (.cons ⟨.dp (.int _), (sm_int (k := 3) (by decide) (by decide) (by omega)).shows (by decide) (by decide)⟩ (.cons ⟨.dp (.str _), st.shows (by decide) (by decide)⟩ (.cons ⟨.dp (.lst (SqL.of v.v5) (.cons (.str _) (dp_ints _))), ?_⟩ (.cons ⟨.dp (.tup (SqT.of v.v6) (.cons (.str _) (.cons .non .nil))), ?_⟩ (.cons ⟨.dic v.v7, sm_dict0.shows (by decide) (by decide)⟩ (.cons ⟨.dp (.lst (SqL.of v.v8) (.cons (.lst (SqL.of v.v9) .nil) (dp_ints _))), ?_⟩ (.cons ⟨.dp (.int _), ?_⟩ .nil)))))))))
  · refine shows_lst (n := 52) (k := 1) (fun d hd => ?_) ?_ (by decide)
    · rcases List.mem_cons.mp hd with rfl | hd
      · exact st.up (by decide) (by decide)
      · exact h5.ints d hd
    · rw [List.length_cons, List.length_map]
      have := h5.1
      omega
  · refine (sm_tuple (n := 52) (k := 0) (fun d hd => ?_)).shows (by show 52 * 2 + 2 * 2 + 3 ≤ _; decide) (by decide)
    simp only [List.mem_cons, List.not_mem_nil, or_false] at hd
    rcases hd with rfl | rfl
    · exact st
    · exact sm_none.up (by decide) (by decide)
  · refine shows_lst (n := 52) (k := 1) (fun d hd => ?_) ?_ (by decide)
    · rcases List.mem_cons.mp hd with rfl | hd
      · exact (sm_list (n := 0) (k := 0) (ds := []) (fun d hd => nomatch hd) (by decide)).up (by decide) (by decide)
      · exact h8.ints d hd
    · rw [List.length_cons, List.length_map]
      have := h8.1
      omega
  · exact (sm_int (k := 30) (by decide) (by decide) (by decide)).shows (by decide) (by decide)
theorem vs_get {G : Hp} {LV a5 a6 a7 a8 a9 : Addr} {t : Str} {i : Int} {l5 l8 : List Nat} (v : VS G LV a5 a6 a7 a8 a9 t i l5 l8) (ht : Few t) (hi : i.natAbs < 1000) (h5 : SmallL l5) (h8 : SmallL l8) {z : Nat} {x : V} (hx : (vals t i a5 a6 a7 a8)[z]? = some x) :
    ∃ d, (dats t i l5 l8)[z]? = some d ∧ Dq K G x d ∧ Shows d := Mc.paired_get (vs_dq v ht hi h5 h8) _ _ hx
end Me
namespace Me
open PySem PySem.Spec PyProof.Rows L2 Mc
variable {P : Program} {w : World} {K : PySem.W.Frag} {mg : Str → Option Value} {base : Heap}
theorem ex_mem {j : Nat} : exList.getD j "MeetcellsError" ∈ exNames := by
  by_cases h : j < 28
  · have : ∀ j : Fin 28, exList.getD j.1 "MeetcellsError" ∈ exNames := by decide
    exact this ⟨j, h⟩
  · rw [List.getD_eq_getElem?_getD, List.getElem?_eq_none (by show 27 ≤ j; omega)]
    decide
theorem depth_boolsX (l : List Bool) : (PyData.list (l.map PyData.bool)).depth ≤ 60 := depth_bools l
theorem xbox {H G G' : Hp} {b : Addr} (e : Ext H G) (hb : H b = none) (hf : ∀ c, c ≠ b → G' c = G c) : Ext H G' := fun c o h => (hf c (ne_of_none h hb)).trans (e c o h)
theorem keptx {H G G' : Hp} {b : Addr} (e : Ext H G) (hb : H b = none) (k : KeptB G G' b) : Ext H G' := fun c o h => k c o (ne_of_none h hb) (e c o h)
def spLaw (K : PySem.W.Frag) : Sp := fun vs H Q _ => ∃ (a : Addr) (ns : List Int), vs = [.ref a] ∧ SqL K H a (ns.map V.int) ∧ ∀ H', Q (.bl true) H'
theorem ok_law (T : Txt P w K mg) : FnG P w K mg base (L2.CX P w) 8 (He.ga K "law") (spLaw K) := by
  have G__law_cell := fnG_of_R (ok__law_cell (base := base) T)
  have G__law_box := fnG_of_R (ok__law_box (base := base) T)
  have G__law_take := fnG_of_R (ok__law_take (base := base) T)
  have G__law_values := fnG_of_R (ok__law_values (base := base) T)
  have G__law_made := fnG_of_R (ok__law_made (base := base) T)
  have G__law_is := fnG_of_R (ok__law_is (base := base) T)
  have G__law_raised := ok__law_raised (base := base) T
  obtain ⟨fd, F⟩ := T.f_law
  refine fnG_body F sc_law (F.bindsN (fun _ _ _ _ _ _ us hl => match us, hl with | [_], _ => rfl)) ?_ ?_
  · rintro vs H Q E ⟨a, ns, rfl, _⟩
    rfl
  · rintro cdv A outer s H vs Q E hr hgd ⟨a, ns, rfl, hs, q⟩
    refine ⟨_, (Mc.pss_mid (ps_for (passes_of rfl) rfl (pi_range1 (by rfl) T.m_range (pa_cons (pe_callB (call_max2 rfl) (by rfl) T.m_max (by decide +kernel) (pa_cons pe_int (pa_cons (pe_callB (call_min2 rfl) (by rfl) T.m_min (by decide +kernel) (pa_cons pe_int (pa_cons (pe_callB (call_len : CallR _ (.builtin "len") (Mc.rLen K)) (by rfl) T.m_len (by decide +kernel) (pa_cons (pv 0) pa_nil)) pa_nil))) pa_nil))) pa_nil)) (pg_name (i := 1) sc_law.nd rfl (Or.inl rfl))
      (Mc.pss_mid (ps_set (i := 2) sc_law.nd rfl (Or.inl rfl) (Mc.pe_callG G__law_box (hr.mono (by decide)) hgd (by rfl) T.g__law_box T.k__law_box pass_no (pa_cons (Mc.pe_callG G__law_cell (hr.mono (by decide)) hgd (by rfl) T.g__law_cell T.k__law_cell pass_no (pa_cons (pv 0) (pa_cons (pv 1) pa_nil))) pa_nil)))
      (Mc.pss_mid (ps_set (i := 3) sc_law.nd rfl (Or.inl rfl) (Mc.pe_callG G__law_values (hr.mono (by decide)) hgd (by rfl) T.g__law_values T.k__law_values pass_no (pa_cons (pv 2) pa_nil)))
      (Mc.pss_mid (ps_for (passes_of rfl) rfl (pi_range1 (by rfl) T.m_range (pa_cons pe_int pa_nil)) (pg_name (i := 4) sc_law.nd rfl (Or.inr rfl))
      (Mc.pss_mid (ps_set (i := 5) sc_law.nd rfl (Or.inl rfl) (pe_ix (ix_list : IxR _ (rIxL K)) (pv 3) (Mc.pe_callG G__law_take (hr.mono (by decide)) hgd (by rfl) T.g__law_take T.k__law_take pass_no (pa_cons (pv 2) (pa_cons pe_int pa_nil))) (fun _ _ => rfl)))
      (Mc.pss_mid (ps_set (i := 6) sc_law.nd rfl (Or.inl rfl) (Mc.pe_callG G__law_made (hr.mono (by decide)) hgd (by rfl) T.g__law_made T.k__law_made pass_no (pa_cons (pv 4) (pa_cons (pv 5) pa_nil))))
      (Mc.pss_mid (ps_if (PW.pt (pw_or (pt_not (pt_val (pe_callB (Mc.call_isV (exc_ok T)) (by rfl) T.m_isinstance (by decide +kernel) (pa_cons (pv 6) (pa_cons (pe_glob (v := .ref (He.ga K "MeetcellsError")) (by rfl) T.g_MeetcellsError rfl) pa_nil))))) (pw_or1 (pt_not (pt_val (pe_callB (Mc.call_isV (exc_ok T)) (by rfl) T.m_isinstance (by decide +kernel) (pa_cons (pv 6) (pa_cons (pe_bltn (v := .ty "ValueError") (by rfl) T.m_ValueError (by decide +kernel) rfl) pa_nil)))))))) (pss_one (ps_ret pe_bl)) pss_nil)
      (Mc.pss_mid (ps_if (pt_val (pe_callB (Mc.call_isd : CallR _ (.builtin "isinstance") (Mc.rIsd K)) (by rfl) T.m_isinstance (by decide +kernel) (pa_cons (pv 5) (pa_cons (pe_bltn (v := .ty "list") (by rfl) T.m_list (by decide +kernel) rfl) pa_nil)))) (pss_one (ps_expr (pe_bm PySem.F.plainAttrs_list PySem.F.slot_list_append PySem.F.type_list_append mt_append (pv 5) (pa_cons (pv 4) pa_nil) : PE _ _ (tBM K _ _ _ _)))) pss_nil)
      (Mc.pss_mid (ps_if (pt_cmpR op_ne (pe_callB ((Mc.call_repr hgd hr.units) : CallR _ (.builtin "repr") (Mc.rRepr K)) (by rfl) T.m_repr (by decide +kernel) (pa_cons (Mc.pe_valVO (exc_me T) (pv 6)) pa_nil)) (pe_callB ((Mc.call_repr hgd hr.units) : CallR _ (.builtin "repr") (Mc.rRepr K)) (by rfl) T.m_repr (by decide +kernel) (pa_cons (pv 5) pa_nil)) (nomark _)) (pss_one (ps_ret pe_bl)) pss_nil)
      (pss_one (ps_if (pt_cmpR ((Mc.op_neP hr.units) : OpR _ _ (Mc.rNeP K)) (Mc.pe_callG G__law_is (hr.mono (by decide)) hgd (by rfl) T.g__law_is T.k__law_is pass_no (pa_cons (pv 6) pa_nil)) (pe_lc (own := [("_law_other", 7)]) rfl sc_law.nd (pi_range1 (by rfl) T.m_range (pa_cons pe_int pa_nil)) (blkOk_by (own := [("_law_other", 7)]) (N := N_law) (sc := defScope s_law) (by decide +kernel)) (fun _ _ _ _ _ => (pg_name (i := 7) sc_law.nd rfl (Or.inl rfl))) (fun _ _ _ _ _ => pts_nil) (fun _ _ _ _ _ => (pe_cmpR op_eq (pv 7) (pv 4) (nomark _)))) (nomark _)) (pss_one (ps_ret pe_bl)) pss_nil))))))))
      (pss_one (ps_if (pt_not (pt_val (Mc.pe_callG G__law_raised (hr.mono (by decide)) hgd (by rfl) T.g__law_raised T.k__law_raised pass_no (pa_cons (pe_ix (ix_list : IxR _ (rIxL K)) (pv 3) (Mc.pe_callG G__law_take (hr.mono (by decide)) hgd (by rfl) T.g__law_take T.k__law_take pass_no (pa_cons (pv 2) (pa_cons pe_int pa_nil))) (fun _ _ => rfl)) pa_nil)))) (pss_one (ps_ret pe_bl)) pss_nil))))))
      (pss_one (ps_ret pe_bl))), ?_⟩
    refine ⟨fun _ _ => True, ?_, fun τ G _ => q G⟩
    refine ⟨_, rfl, _, (ns.map V.int).length, rfl, .inl ⟨_, hs, rfl⟩, _, _, rfl, _, _, rfl, _, rfl, ?_, ?_, ?_⟩
    · split <;> omega
    · split
      · split <;> omega
      · omega
    refine for_it walk_range (fun i σ G => ∃ y1 y2 y3 y4 y5 y6 y7 : Option V, σ = [some (.ref a), y1, y2, y3, y4, y5, y6, y7] ∧ Ext H G) ⟨_, _, _, _, _, _, _, rfl, Ext.refl _⟩ (fun _ _ _ _ _ => trivial) ?_ (fun _ _ _ => trivial)
    rintro k0 z0 σ G0' G0 hi ⟨y1, y2, y3, y4, y5, y6, y7, rfl, hE0⟩ ⟨rfl, hz0⟩
    obtain rfl := rng0 hz0
    -- the box
    refine ⟨fun τ G => ∃ b : Addr, τ = [some (.ref a), some (vI k0), some (.ref b), y3, y4, y5, y6, y7] ∧ BoxAt G b 0 ∧ H b = none ∧ Ext H G, ?_, ?_⟩
    · refine ⟨_, rfl, _, rfl, a, ns, _, rfl, hE0.sqL hs, Int.natCast_nonneg _, fun z => ⟨z, rfl, fun b G1 hb hB hf => ⟨b, rfl, hB, hE0.fresh hb, fun c o e => ?_⟩⟩⟩
      have e1 := hE0 c o e
      rw [hf c (ne_of_none e1 hb)]
      exact e1
    rintro _ G1 ⟨b, rfl, hB1, hb, hE1⟩
    -- the values
    refine ⟨fun τ G => ∃ (LV a5 a6 a7 a8 a9 : Addr) (t : Str) (i : Int), τ = [some (.ref a), some (vI k0), some (.ref b), some (.ref LV), y4, y5, y6, y7] ∧ Few t ∧ i.natAbs < 1000 ∧ VS G LV a5 a6 a7 a8 a9 t i [] [] ∧ (∀ x ∈ [LV, a5, a6, a7, a8, a9], H x = none) ∧ BoxAt G b 10 ∧ Ext H G, ?_, ?_⟩
    · exact ⟨_, rfl, b, 0, rfl, hB1, by omega, fun LV a5 a6 a7 a8 a9 t i G ht hi hfr hv hB hK => ⟨LV, a5, a6, a7, a8, a9, t, i, rfl, ht, hi, hv, fun x hx => hE1.fresh (hfr x hx), hB, keptx hE1 hb hK⟩⟩
    rintro _ G2 ⟨LV, a5, a6, a7, a8, a9, t, i, rfl, ht, hi2, hv2, hfr, hB2, hE2⟩
    -- the numbers
    refine ⟨fun τ G => ∃ (y4 y5 y6 y7 : Option V) (l5 l8 : List Nat), τ = [some (.ref a), some (vI k0), some (.ref b), some (.ref LV), y4, y5, y6, y7] ∧ SmallL l5 ∧ SmallL l8 ∧ VS G LV a5 a6 a7 a8 a9 t i l5 l8 ∧ BoxAt G b 40 ∧ Ext H G, ?_, ?_⟩
    · refine ⟨_, rfl, by decide, by decide, for_it walk_range (fun j σ G => ∃ (y4 y5 y6 y7 : Option V) (l5 l8 : List Nat), σ = [some (.ref a), some (vI k0), some (.ref b), some (.ref LV), y4, y5, y6, y7] ∧ l5.length ≤ j ∧ l8.length ≤ j ∧ (∀ x ∈ l5, x < 100) ∧ (∀ x ∈ l8, x < 100) ∧ VS G LV a5 a6 a7 a8 a9 t i l5 l8 ∧ BoxAt G b (10 + (j : Int)) ∧ Ext H G) ⟨_, _, _, _, [], [], rfl, by simp, by simp, by simp, by simp, hv2, hB2.keep rfl (by omega), hE2⟩ (fun _ _ _ _ _ => trivial) ?_ ?_⟩
      · rintro j zj σ Gj' Gj hj ⟨y4, y5, y6, y7, l5, l8, rfl, hl5, hl8, hs5, hs8, hv, hB, hE⟩ ⟨rfl, hzj⟩
        obtain rfl := rng0 hzj
        have hj : j < 28 := hj
        have S5 : SmallL l5 := ⟨by omega, hs5⟩
        have S8 : SmallL l8 := ⟨by omega, hs8⟩
        -- the value
        refine ⟨fun τ G => ∃ (z : Nat) (x : V), τ = [some (.ref a), some (vI k0), some (.ref b), some (.ref LV), some (vI j), some x, y6, y7] ∧ z < 10 ∧ (vals t i a5 a6 a7 a8)[z]? = some x ∧ VS G LV a5 a6 a7 a8 a9 t i l5 l8 ∧ BoxAt G b (11 + (j : Int)) ∧ Ext H G, ?_, ?_⟩
        · refine ⟨_, rfl, _, rfl, b, _, 10, rfl, hB, by omega, by omega, by omega, fun r G3 hr0 hr1 hB3 hf3 => ?_⟩
          have v3 := hv.box hB hf3
          rcases (show r = 0 ∨ r = 1 ∨ r = 2 ∨ r = 3 ∨ r = 4 ∨ r = 5 ∨ r = 6 ∨ r = 7 ∨ r = 8 ∨ r = 9 by omega) with rfl | rfl | rfl | rfl | rfl | rfl | rfl | rfl | rfl | rfl
          · exact ⟨LV, _, 0, _, rfl, rfl, SqL.of v3.lv, rfl, 0, _, rfl, by omega, rfl, v3, hB3.keep rfl (by omega), xbox hE hb hf3⟩
          · exact ⟨LV, _, 1, _, rfl, rfl, SqL.of v3.lv, rfl, 1, _, rfl, by omega, rfl, v3, hB3.keep rfl (by omega), xbox hE hb hf3⟩
          · exact ⟨LV, _, 2, _, rfl, rfl, SqL.of v3.lv, rfl, 2, _, rfl, by omega, rfl, v3, hB3.keep rfl (by omega), xbox hE hb hf3⟩
          · exact ⟨LV, _, 3, _, rfl, rfl, SqL.of v3.lv, rfl, 3, _, rfl, by omega, rfl, v3, hB3.keep rfl (by omega), xbox hE hb hf3⟩
          · exact ⟨LV, _, 4, _, rfl, rfl, SqL.of v3.lv, rfl, 4, _, rfl, by omega, rfl, v3, hB3.keep rfl (by omega), xbox hE hb hf3⟩
          · exact ⟨LV, _, 5, _, rfl, rfl, SqL.of v3.lv, rfl, 5, _, rfl, by omega, rfl, v3, hB3.keep rfl (by omega), xbox hE hb hf3⟩
          · exact ⟨LV, _, 6, _, rfl, rfl, SqL.of v3.lv, rfl, 6, _, rfl, by omega, rfl, v3, hB3.keep rfl (by omega), xbox hE hb hf3⟩
          · exact ⟨LV, _, 7, _, rfl, rfl, SqL.of v3.lv, rfl, 7, _, rfl, by omega, rfl, v3, hB3.keep rfl (by omega), xbox hE hb hf3⟩
          · exact ⟨LV, _, 8, _, rfl, rfl, SqL.of v3.lv, rfl, 8, _, rfl, by omega, rfl, v3, hB3.keep rfl (by omega), xbox hE hb hf3⟩
          · exact ⟨LV, _, 9, _, rfl, rfl, SqL.of v3.lv, rfl, 9, _, rfl, by omega, rfl, v3, hB3.keep rfl (by omega), xbox hE hb hf3⟩
        rintro _ G3 ⟨z, x, rfl, hz, hx, hv3, hB3, hE3⟩
        -- the exception
        refine ⟨fun τ G => ∃ d e : Addr, τ = [some (.ref a), some (vI k0), some (.ref b), some (.ref LV), some (vI j), some x, some (.ref e), y7] ∧ G d = some (.xd [(("value" : Str), x)]) ∧ G e = some (ExV (He.ga K (exList.getD j "MeetcellsError")) d e) ∧ VS G LV a5 a6 a7 a8 a9 t i l5 l8 ∧ BoxAt G b (11 + (j : Int)) ∧ Ext H G, ?_, ?_⟩
        · refine ⟨_, rfl, _, rfl, j, x, rfl, fun d e h1 h2 h3 => ?_⟩
          have E1 : Ext G3 (upd G3 d (.xd [(("value" : Str), x)])) := Ext.new h1
          have h2' : upd G3 d (.xd [(("value" : Str), x)]) e = none := by
            rw [upd_ne (Ne.symm h3)]
            exact h2
          have E2 := Ext.new (o := ExV (He.ga K (exList.getD j "MeetcellsError")) d e) h2'
          have EE := E1.trans E2
          exact ⟨d, e, rfl, E2 _ _ upd_same, upd_same, hv3.ext EE, hB3.ext EE, hE3.trans EE⟩
        rintro _ G4 ⟨d, e, rfl, gd4, ge4, hv4, hB4, hE4⟩
        have kt := T.xt (exList.getD j "MeetcellsError") (by
          have h := ex_mem (j := j)
          unfold exNames at h
          simp only [List.mem_cons, List.not_mem_nil, or_false] at h
          rcases h with h | h | h | h | h | h | h | h | h | h | h | h | h | h | h | h | h | h | h | h | h | h | h | h | h | h | h | h <;> rw [h] <;> simp)
        have oC : ExcN K (He.ga K (exList.getD j "MeetcellsError")) := ⟨_, ex_mem, rfl⟩
        -- of both classes
        refine ⟨fun τ G => τ = [some (.ref a), some (vI k0), some (.ref b), some (.ref LV), some (vI j), some x, some (.ref e), y7] ∧ G = G4, ?_, ?_⟩
        · refine ⟨_, rfl, e, d, _, d, x, _, _, true, rfl, .own _, oC, ge4, gd4, kt.2 _ (by simp), true, rfl, ?_⟩
          refine iteF ⟨_, rfl, e, d, _, d, x, _, _, true, rfl, .ty _, oC, ge4, gd4, kt.2 _ (by simp), true, rfl, ?_⟩
          exact iteF ⟨rfl, rfl⟩
        rintro _ G5 ⟨rfl, rfl⟩
        -- a list is changed
        refine ⟨fun τ G => ∃ l5' l8' : List Nat, τ = [some (.ref a), some (vI k0), some (.ref b), some (.ref LV), some (vI j), some x, some (.ref e), y7] ∧ l5'.length ≤ j + 1 ∧ l8'.length ≤ j + 1 ∧ (∀ x ∈ l5', x < 100) ∧ (∀ x ∈ l8', x < 100) ∧ G d = some (.xd [(("value" : Str), x)]) ∧ G e = some (ExV (He.ga K (exList.getD j "MeetcellsError")) d e) ∧ VS G LV a5 a6 a7 a8 a9 t i l5' l8' ∧ BoxAt G b (11 + (j : Int)) ∧ Ext H G, ?_, ?_⟩
        · obtain ⟨dd, hdd, hdq, hsh⟩ := vs_get (K := K) hv4 ht hi2 S5 S8 hx
          rcases (show z = 0 ∨ z = 1 ∨ z = 2 ∨ z = 3 ∨ z = 4 ∨ z = 5 ∨ z = 6 ∨ z = 7 ∨ z = 8 ∨ z = 9 by omega) with rfl | rfl | rfl | rfl | rfl | rfl | rfl | rfl | rfl | rfl
          · obtain rfl := Option.some.inj hx
            obtain rfl := Option.some.inj hdd
            exact ⟨_, rfl, _, _, "list", false, rfl, hdq, rfl, false, rfl, iteF ⟨l5, l8, rfl, by omega, by omega, hs5, hs8, gd4, ge4, hv4, hB4, hE4⟩⟩
          · obtain rfl := Option.some.inj hx
            obtain rfl := Option.some.inj hdd
            exact ⟨_, rfl, _, _, "list", false, rfl, hdq, rfl, false, rfl, iteF ⟨l5, l8, rfl, by omega, by omega, hs5, hs8, gd4, ge4, hv4, hB4, hE4⟩⟩
          · obtain rfl := Option.some.inj hx
            obtain rfl := Option.some.inj hdd
            exact ⟨_, rfl, _, _, "list", false, rfl, hdq, rfl, false, rfl, iteF ⟨l5, l8, rfl, by omega, by omega, hs5, hs8, gd4, ge4, hv4, hB4, hE4⟩⟩
          · obtain rfl := Option.some.inj hx
            obtain rfl := Option.some.inj hdd
            exact ⟨_, rfl, _, _, "list", false, rfl, hdq, rfl, false, rfl, iteF ⟨l5, l8, rfl, by omega, by omega, hs5, hs8, gd4, ge4, hv4, hB4, hE4⟩⟩
          · obtain rfl := Option.some.inj hx
            obtain rfl := Option.some.inj hdd
            exact ⟨_, rfl, _, _, "list", false, rfl, hdq, rfl, false, rfl, iteF ⟨l5, l8, rfl, by omega, by omega, hs5, hs8, gd4, ge4, hv4, hB4, hE4⟩⟩
          · obtain rfl := Option.some.inj hx
            obtain rfl := Option.some.inj hdd
            refine ⟨_, rfl, _, _, "list", true, rfl, hdq, rfl, true, rfl, iteT ⟨_, rfl, .inl ⟨rfl, _, SqL.of hv4.v5⟩, _, rfl, a5, _, vI j, rfl, rfl, hv4.v5, ?_, ?_⟩⟩
            · rw [List.length_cons, List.length_map]
              exact Nat.lt_of_lt_of_le (show l5.length + 1 < 1000 by omega) (by decide)
            have nd : d ≠ a5 := fun z => by
              rw [z, hv4.v5] at gd4
              cases gd4
            have ne : e ≠ a5 := fun z => by
              rw [z, hv4.v5] at ge4
              cases ge4
            have nb : a5 ≠ b := hv4.nb hB4 a5 (by simp)
            exact ⟨l5 ++ [j], l8, rfl, (by rw [List.length_append]; show _ + 1 ≤ _; omega), (by omega), (fun x hx => by rcases List.mem_append.mp hx with hx | hx; exact hs5 x hx; rw [List.mem_singleton.mp hx]; omega), hs8, (upd_ne nd).trans gd4, (upd_ne ne).trans ge4, hv4.put5 j, hB4.keep (upd_ne nb.symm) (Int.le_refl _), keepH hE4 (hfr a5 (by simp))⟩
          · obtain rfl := Option.some.inj hx
            obtain rfl := Option.some.inj hdd
            exact ⟨_, rfl, _, _, "list", false, rfl, hdq, rfl, false, rfl, iteF ⟨l5, l8, rfl, by omega, by omega, hs5, hs8, gd4, ge4, hv4, hB4, hE4⟩⟩
          · obtain rfl := Option.some.inj hx
            obtain rfl := Option.some.inj hdd
            exact ⟨_, rfl, _, _, "list", false, rfl, hdq, rfl, false, rfl, iteF ⟨l5, l8, rfl, by omega, by omega, hs5, hs8, gd4, ge4, hv4, hB4, hE4⟩⟩
          · obtain rfl := Option.some.inj hx
            obtain rfl := Option.some.inj hdd
            refine ⟨_, rfl, _, _, "list", true, rfl, hdq, rfl, true, rfl, iteT ⟨_, rfl, .inl ⟨rfl, _, SqL.of hv4.v8⟩, _, rfl, a8, _, vI j, rfl, rfl, hv4.v8, ?_, ?_⟩⟩
            · rw [List.length_cons, List.length_map]
              exact Nat.lt_of_lt_of_le (show l8.length + 1 < 1000 by omega) (by decide)
            have nd : d ≠ a8 := fun z => by
              rw [z, hv4.v8] at gd4
              cases gd4
            have ne : e ≠ a8 := fun z => by
              rw [z, hv4.v8] at ge4
              cases ge4
            have nb : a8 ≠ b := hv4.nb hB4 a8 (by simp)
            exact ⟨l5, l8 ++ [j], rfl, (by omega), (by rw [List.length_append]; show _ + 1 ≤ _; omega), hs5, (fun x hx => by rcases List.mem_append.mp hx with hx | hx; exact hs8 x hx; rw [List.mem_singleton.mp hx]; omega), (upd_ne nd).trans gd4, (upd_ne ne).trans ge4, hv4.put8 j, hB4.keep (upd_ne nb.symm) (Int.le_refl _), keepH hE4 (hfr a8 (by simp))⟩
          · obtain rfl := Option.some.inj hx
            obtain rfl := Option.some.inj hdd
            exact ⟨_, rfl, _, _, "list", false, rfl, hdq, rfl, false, rfl, iteF ⟨l5, l8, rfl, by omega, by omega, hs5, hs8, gd4, ge4, hv4, hB4, hE4⟩⟩
        rintro _ G6 ⟨l5', l8', rfl, hm5, hm8, ht5, ht8, gd6, ge6, hv6, hB6, hE6⟩
        have S5' : SmallL l5' := ⟨by omega, ht5⟩
        have S8' : SmallL l8' := ⟨by omega, ht8⟩
        -- the very value
        refine ⟨fun τ G => τ = [some (.ref a), some (vI k0), some (.ref b), some (.ref LV), some (vI j), some x, some (.ref e), y7] ∧ G = G6, ?_, ?_⟩
        · obtain ⟨dd, hdd, hdq, hsh⟩ := vs_get (K := K) hv6 ht hi2 S5' S8' hx
          refine ⟨_, rfl, _, e, d, x, rfl, oC, ge6, gd6, x, dd, rfl, hdq, hsh, _, rfl, x, dd, rfl, hdq, hsh, rfl, ?_⟩
          rw [decide_eq_true (rfl : V.str dd.shown = V.str dd.shown)]
          exact ⟨_, rfl, iteF ⟨rfl, rfl⟩⟩
        rintro _ G7 ⟨rfl, rfl⟩
        -- the classes
        refine ⟨_, rfl, e, d, _, x, rfl, ex_mem, ge6, gd6, fun L G8 hL gL EL => ?_⟩
        rw [isL_of (n := j) hj] at gL
        refine ⟨_, rfl, by decide, by decide, fun D hD => ?_⟩
        refine lc_all walk_range BV bv_mono (fun i => decide (i = j)) hD (by decide) (fun _ _ => trivial) ?_ ?_
        · rintro i x G1 G2 Qe hi e1 ⟨rfl, rfl⟩ fin
          refine ⟨rfl, _, rfl, _, rfl, rfl, ?_⟩
          refine fin _ _ (Ext.refl _) ?_
          have e : (V.int (0 + (i : Int)) = vI j) ↔ i = j := ⟨fun z => by have := V.int.inj z; omega, fun z => by rw [z, Int.zero_add]⟩
          show V.bl _ = V.bl _
          exact congrArg V.bl (decide_eq_decide.mpr e)
        · intro zs G9 gD hz e9
          obtain rfl := paired_map (H := G9) V.bl hz
          have gL9 := e9 _ _ gL
          have EE := EL.trans e9
          refine ⟨_, _, dp_bools gL9, dp_bools gD, depth_bools _, ?_⟩
          have e := eqv_bools (isB j)
          unfold isB at e
          rw [show Int.toNat 27 = 27 from rfl, show isB j = (List.range 27).map (fun i => decide (i = j)) from rfl, e]
          refine ⟨_, rfl, ?_⟩
          exact iteF ⟨_, _, _, _, l5', l8', rfl, hm5, hm8, ht5, ht8, hv6.ext EE, (hB6.ext EE).keep rfl (by omega), hE6.trans EE⟩
      · rintro σ G ⟨y4, y5, y6, y7, l5, l8, rfl, hl5, hl8, hs5, hs8, hv, hB, hE⟩
        exact ⟨y4, y5, y6, y7, l5, l8, rfl, ⟨Nat.le_trans hl5 (by decide), hs5⟩, ⟨Nat.le_trans hl8 (by decide), hs8⟩, hv, hB.keep rfl (by decide), hE⟩
    rintro _ G3 ⟨y4, y5, y6, y7, l5, l8, rfl, S5, S8, hv3, hB3, hE3⟩
    refine ⟨_, rfl, _, rfl, b, _, 10, rfl, hB3, by omega, by omega, by omega, fun r G4 hr0 hr1 hB4 hf4 => ?_⟩
    have v4 := hv3.box hB3 hf4
    have hE4 := xbox hE3 hb hf4
    have fin : ∀ (z : Nat) (x : V), (vals t i a5 a6 a7 a8)[z]? = some x → ∃ dd, Dq K G4 x dd ∧ Shows dd := fun z x hx => by
      obtain ⟨dd, _, h1, h2⟩ := vs_get (K := K) v4 ht hi2 S5 S8 hx
      exact ⟨dd, h1, h2⟩
    rcases (show r = 0 ∨ r = 1 ∨ r = 2 ∨ r = 3 ∨ r = 4 ∨ r = 5 ∨ r = 6 ∨ r = 7 ∨ r = 8 ∨ r = 9 by omega) with rfl | rfl | rfl | rfl | rfl | rfl | rfl | rfl | rfl | rfl
    · obtain ⟨dd, h1, h2⟩ := fin 0 _ rfl
      exact ⟨LV, _, 0, _, rfl, rfl, SqL.of v4.lv, rfl, _, dd, rfl, h1, h2, fun G5 E5 => ⟨true, rfl, iteF ⟨_, _, _, _, _, _, _, rfl, hE4.trans E5⟩⟩⟩
    · obtain ⟨dd, h1, h2⟩ := fin 1 _ rfl
      exact ⟨LV, _, 1, _, rfl, rfl, SqL.of v4.lv, rfl, _, dd, rfl, h1, h2, fun G5 E5 => ⟨true, rfl, iteF ⟨_, _, _, _, _, _, _, rfl, hE4.trans E5⟩⟩⟩
    · obtain ⟨dd, h1, h2⟩ := fin 2 _ rfl
      exact ⟨LV, _, 2, _, rfl, rfl, SqL.of v4.lv, rfl, _, dd, rfl, h1, h2, fun G5 E5 => ⟨true, rfl, iteF ⟨_, _, _, _, _, _, _, rfl, hE4.trans E5⟩⟩⟩
    · obtain ⟨dd, h1, h2⟩ := fin 3 _ rfl
      exact ⟨LV, _, 3, _, rfl, rfl, SqL.of v4.lv, rfl, _, dd, rfl, h1, h2, fun G5 E5 => ⟨true, rfl, iteF ⟨_, _, _, _, _, _, _, rfl, hE4.trans E5⟩⟩⟩
    · obtain ⟨dd, h1, h2⟩ := fin 4 _ rfl
      exact ⟨LV, _, 4, _, rfl, rfl, SqL.of v4.lv, rfl, _, dd, rfl, h1, h2, fun G5 E5 => ⟨true, rfl, iteF ⟨_, _, _, _, _, _, _, rfl, hE4.trans E5⟩⟩⟩
    · obtain ⟨dd, h1, h2⟩ := fin 5 _ rfl
      exact ⟨LV, _, 5, _, rfl, rfl, SqL.of v4.lv, rfl, _, dd, rfl, h1, h2, fun G5 E5 => ⟨true, rfl, iteF ⟨_, _, _, _, _, _, _, rfl, hE4.trans E5⟩⟩⟩
    · obtain ⟨dd, h1, h2⟩ := fin 6 _ rfl
      exact ⟨LV, _, 6, _, rfl, rfl, SqL.of v4.lv, rfl, _, dd, rfl, h1, h2, fun G5 E5 => ⟨true, rfl, iteF ⟨_, _, _, _, _, _, _, rfl, hE4.trans E5⟩⟩⟩
    · obtain ⟨dd, h1, h2⟩ := fin 7 _ rfl
      exact ⟨LV, _, 7, _, rfl, rfl, SqL.of v4.lv, rfl, _, dd, rfl, h1, h2, fun G5 E5 => ⟨true, rfl, iteF ⟨_, _, _, _, _, _, _, rfl, hE4.trans E5⟩⟩⟩
    · obtain ⟨dd, h1, h2⟩ := fin 8 _ rfl
      exact ⟨LV, _, 8, _, rfl, rfl, SqL.of v4.lv, rfl, _, dd, rfl, h1, h2, fun G5 E5 => ⟨true, rfl, iteF ⟨_, _, _, _, _, _, _, rfl, hE4.trans E5⟩⟩⟩
    · obtain ⟨dd, h1, h2⟩ := fin 9 _ rfl
      exact ⟨LV, _, 9, _, rfl, rfl, SqL.of v4.lv, rfl, _, dd, rfl, h1, h2, fun G5 E5 => ⟨true, rfl, iteF ⟨_, _, _, _, _, _, _, rfl, hE4.trans E5⟩⟩⟩
end Me
open PySem PySem.W PySem.Calls PyProof.Rows
theorem PySem.Challenge.cw_meetcells_k02_exceptions_apart_holds : PySem.Challenge.rw_meetcells_k02_exceptions_apart.Holds := by
  w_on; o_law
  refine HandSHeadRun.head_any (r := OpenLaw.row PySem.Challenge.rw_meetcells_k02_exceptions_apart) (q := view (OpenLaw.row PySem.Challenge.rw_meetcells_k02_exceptions_apart).prog [40]) (H := Me.hk) (ob := Me.ob) (M := 60000) (loose := Me.loose) (d := HandSHeadRun.topDef (OpenLaw.row PySem.Challenge.rw_meetcells_k02_exceptions_apart).prog 40) (kwd := []) Me.ob_eq
    (by kernel_rfl) (fun s => by kernel_rfl) Me.run (by kernel_rfl) (by kernel_rfl) (by kernel_rfl) (by rfl) (by first | assumption | decide +kernel) (by decide +kernel) ⟨rfl, rfl, rfl, rfl, rfl, by decide +kernel⟩ ?hw ?hc
  case hw => w_witness2
  case hc =>
    refine Mc.walk_ofG (l := PySem.Challenge.rw_meetcells_k02_exceptions_apart) (n := 63) (k := 8) (C := fun w => L2.CX PySem.Challenge.pw_meetcells_k02_exceptions_apart w) rfl (by decide) (by kernel_rfl) ⟨rfl, by decide, by decide⟩ ?F (fun _ _ _ _ _ z => z.elim fun _ z => z.elim fun _ z => z.elim fun _ z => z.elim fun _ z => z.elim fun _ z => z.2.2.2.2.2.2.2)
    intro w mg fa h Y G hmg0
    obtain ⟨K, KX, c⟩ := Y
    have hmg : mg ("law" : PySem.Str) = some (.ref fa) := by
      have e : (HandSHeadRun.topDef (OpenLaw.row PySem.Challenge.rw_meetcells_k02_exceptions_apart).prog 40).name = ("law" : PySem.Str) := by kernel_rfl
      rw [← e]
      exact hmg0
    have T := Me.txt_mk (P := PySem.Challenge.pw_meetcells_k02_exceptions_apart) (w := w) rfl KX G c
    have e := hmg.symm.trans T.g_law
    cases e
    exact ⟨K, Me.spLaw K, KX, fun H a ns hl _ hS => ⟨a, ns, rfl, hS, fun _ => rfl⟩, fun base _ _ => Me.ok_law T⟩
