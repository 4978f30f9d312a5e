import PyProof.Rows.All
import Wide.All
import OpenK.AllK
import Wide.FinOn
import HandS.ForMost
import HandS.ForExc
import HandS.Defaults
import KE.KExcSuper
import KE.KSuper
import HandS.HeadHook1
import HandS.HeadHook2
import HandS.HeadHook3
import HandS.HeadHook4
import HandS.Head0
import HandS.Head1
import HandS.Head2
import PySem.Challenge.RW_meetcells_k30_rings_of_nets
import HandS.HeadEnd
import HandS.StrMore
import HandS.IsInst
import HandS.More
import KE.SortData
import KE.DataCmp
import PyProof.Rows.SortWalk
import HandS.DictComp
import KE.GoesComp
import KE.GoesMore
import PyProof.RulesMatch
import HandS.Walk
import HandS.TupLen
import HandS.WordsDict
import KE.GoesEnum
import KE.LtData
import HandS.MakeKwOnly
import KE.DataEq
import KE.DataFind
import HandS.Style
import HandS.Conv
import HandS.TupLe
import HandS.Flow
set_option Elab.async false
set_option linter.all false
set_option maxRecDepth 100000
set_option maxHeartbeats 0
/-! McRepr: repr(x) of data at any depth, as a rule of the hand layer; a def's promise where no repr is under way around it (FnG). -/
namespace Mc
open PySem PySem.Spec PyProof.Rows L2

/-- a datum: what Dp tells, or an empty dict -/
inductive Dq (K : PySem.W.Frag) (H : Hp) : V → PyData → Prop
  | dp {v : V} {d : PyData} (h : Dp K H v d) : Dq K H v d
  | dic {a : Addr} (h : H a = some (.dK [])) : Dq K H (.ref a) (.dict [])

/-- it may be shown: its ints have few digits, its text fits, it is not deep -/
structure Shows (d : PyData) : Prop where
  sh : d.showable = true
  len : d.shown.length ≤ sizeLine
  dep : d.depth ≤ 60

/-- repr(x) -/
def rRepr (K : PySem.W.Frag) : List V → Hp → VK → Prop := fun xs H Q => ∃ (v : V) (d : PyData), xs = [v] ∧ Dq K H v d ∧ Shows d ∧ Q (.str d.shown) H

section
variable {X : Cx}
mutual
theorem noDict_dp {K : PySem.W.Frag} {H : Hp} : ∀ (d : PyData) (v : V), Dp K H v d → d.hasDict = false
  | .none, _, _ => by simp only [PyData.hasDict]
  | .bool _, _, _ => by simp only [PyData.hasDict]
  | .int _, _, _ => by simp only [PyData.hasDict]
  | .str _, _, _ => by simp only [PyData.hasDict]
  | .list ds, _, h => by
    cases h with
    | lst _ r => simp only [PyData.hasDict, noDict_all ds _ r]
  | .tuple ds, _, h => by
    cases h with
    | tup _ r => simp only [PyData.hasDict, noDict_all ds _ r]
  | .dict _, _, h => by cases h
theorem noDict_all {K : PySem.W.Frag} {H : Hp} : ∀ (ds : List PyData) (vs : List V), DpAll K H vs ds → PyData.hasDictAll ds = false
  | [], _, _ => by simp only [PyData.hasDictAll]
  | d :: ds, _, h => by
    cases h with
    | cons h1 h2 => simp only [PyData.hasDictAll, noDict_dp d _ h1, noDict_all ds _ h2, Bool.or_self]
end

theorem call_repr (hg : X.A.guards = some []) (hu : X.A.units + 64 < cLine) : CallR X (.builtin "repr") (rRepr X.K) := by
  intro pins s σ H xs us Q I r h
  obtain ⟨v, d, rfl, hd, hs, q⟩ := h
  obtain ⟨u, rfl, ru⟩ := vals1 r
  cases hd with
  | dp hd =>
    obtain ⟨as, R⟩ := Dp.reads I d v u hd ru
    have hnd := noDict_dp d v hd
    cases hd with
    | non =>
      cases ru
      refine PySem.P.repr_of_none ⟨.str _, H, I.tok _, ⟨_, rfl⟩, ?_⟩
      simpa only [PyData.shown] using q
    | bl b =>
      cases ru
      refine PySem.P.repr_of_bool ⟨.str _, H, I.tok _, ⟨_, rfl⟩, ?_⟩
      simpa only [PyData.shown] using q
    | int i =>
      obtain ⟨t, rfl⟩ := ru
      refine PySem.P.repr_of_int (by simpa [PyData.showable] using hs.sh) ⟨.str _, H, I.tok _, ⟨_, rfl⟩, ?_⟩
      simpa only [PyData.shown] using q
    | str x =>
      obtain ⟨t, rfl⟩ := ru
      refine PySem.P.repr_of_str ⟨.str _, H, I.tok _, ⟨_, rfl⟩, ?_⟩ (by simpa only [PyData.shown] using hs.len)
      simpa only [PyData.shown] using q
    | lst _ _ =>
      cases ru
      exact repr_of_reads' R hs.sh (PyData.noDict_hsm hnd) hg (by have := hs.dep; omega) (fun _ _ e => e) (fun h' w tk k => ⟨.str _, H, I.kept k, ⟨_, rfl⟩, q⟩) hs.len
    | tup _ _ =>
      cases ru
      exact repr_of_reads' R hs.sh (PyData.noDict_hsm hnd) hg (by have := hs.dep; omega) (fun _ _ e => e) (fun h' w tk k => ⟨.str _, H, I.kept k, ⟨_, rfl⟩, q⟩) hs.len
  | @dic a ha =>
    cases ru
    obtain ⟨_, hsm, vs, hkv, o, es, ep, ho, hx, hdat, _, hp, _⟩ := (show ObjOk X.prog X.w H s.heap a (.dK []) from I.hok a _ ha)
    cases hkv
    have hnil : es = #[] := by
      have z : es.toList.length = 0 := by
        have := hp.length
        simpa using this
      exact Array.eq_empty_of_size_eq_zero (by simpa using z)
    subst hnil
    have R : Reads s.heap (.ref a) (.dict []) ([a] ++ [] ++ []) := Reads.dict ho hx.1 hdat ReadsAll.nil ReadsAll.nil
    have hna : a ≠ sysModules := fun z => by
      rw [z] at hsm
      simp at hsm
    exact repr_of_reads' R hs.sh (fun _ z => by simp at z; exact hna z.symm) hg (by have := hs.dep; omega) (fun _ _ e => e) (fun h' w tk k => ⟨.str _, H, I.kept k, ⟨_, rfl⟩, q⟩) hs.len
end

/-! ### a def's promise, where no repr is under way around it -/
/-- the def at f keeps sp when called by position, in a state in which no list or tuple is being shown -/
def FnG (P : Program) (w : World) (K : PySem.W.Frag) (mg : Str → Option Value) (base : Heap) (C : CXT) (k : Nat) (f : Addr) (sp : Sp) : Prop :=
  ∀ (A : Around) (outer : List Env) (s : Shared) (H : Hp) (us : List Value) (vs : List V) (Q : VK) (E : XK), Room k A → A.guards = some [] →
    Env0 P w K mg base A outer s H → Vals vs us → sp vs H Q E → codeAny (model P w) A (.call (.ref f) ⟨us, []⟩) (CR C outer P w H s Q E) s
section
variable {P : Program} {w : World} {K : PySem.W.Frag} {mg : Str → Option Value} {base : Heap} {C : CXT} {j k : Nat} {f : Addr} {sp : Sp}
theorem FnG.up (F : FnG P w K mg base C j f sp) (h : j ≤ k) : FnG P w K mg base C k f sp :=
  fun A outer s H us vs Q E hr => F A outer s H us vs Q E (hr.mono h)
theorem fnG_of_ok {fd : FuncData} {ps : List Str} (F : FnOk P w K mg base C k f fd ps sp) (hb : Binds K fd ps []) : FnG P w K mg base C k f sp := by
  intro A outer s H us vs Q E hr _ e0 r hs
  have hl : us.length = ps.length := r.length ▸ F.len _ _ _ _ hs
  have KX : K.In s.heap := e0.mod.kin.keeps fun b o e => (e0.bs b o e).1
  have b := hb s us KX (by simpa using hl)
  rw [List.append_nil] at b
  exact F.run A outer s H ⟨us, []⟩ us vs Q E hr e0 b r hs
/-- a def by its body, told that nothing is being shown -/
theorem fnG_body {x qual : Str} {params : Arguments} {body : List Stmt} {scope : Scope} {dvs : List V} {kws : List (Str × V)} {fd : FuncData} {N ps : List Str}
    (F : FunD K x qual params body scope dvs kws f fd) (S : FnScope N ps scope) (hb : Binds K fd ps []) (len : ∀ vs H Q E, sp vs H Q E → vs.length = ps.length)
    (hbody : ∀ (cdv : Value) (A : Around) (outer : List Env) (s : Shared) (H : Hp) (vs : List V) (Q : VK) (E : XK),
      Room k (A.deeper (envOfC qual scope s.heap.objs.size f cdv)) → A.guards = some [] → sp vs H Q E →
      ∃ t, PSs (cxOf C P w K mg base N qual scope f cdv A outer s H E) body t ∧ t { nx := fun _ H' => Q .non H', rt := Q } (start N vs) H) :
    FnG P w K mg base C (k + 1) f sp := by
  obtain ⟨oc, od, dV, kV, doc, pm, an, cdv, ct, osl, rfl, lk, hcd, _, _⟩ := F.ex
  intro A outer s H us vs Q E hr hg e0 r hsp
  have hl := len _ _ _ _ hsp
  have stays : ∀ b o, base.get? b = some o → s.heap.get? b = some o := fun b o e => (e0.bs b o e).1
  have KX := e0.mod.kin.keeps stays
  have lim := e0.mod.nolimit.keeps stays
  have hul : us.length = ps.length := r.length ▸ hl
  have bind0 := hb s us KX (by simpa using hul)
  rw [List.append_nil] at bind0
  have kinds : ∀ y ∈ ps.zip us, scope.names.lookup y.1 = some .local ∨
      (scope.names.lookup y.1 = some .cell ∧ ((cellsFrom (s.heap.objs.size + 1) scope.names []).lookup y.1).isSome = true) := by
    intro y hy
    rcases S.par y.1 (List.of_mem_zip (a := y.1) (b := y.2) hy).1 with q | q
    · exact Or.inl q
    · exact Or.inr ⟨q, PySem.W.cellsFrom_some _ _ _ (Or.inl q)⟩
  refine codeAny_call_function hr.depth (KX _ _ lk) rfl S.co S.gen rfl (PySem.W.codeRec_of KX hcd) (bind0 _ _ _ _ ?_)
  refine wpAny_newFunctionEnv_cells S.kind kinds ?_
  rintro env rfl s1 ic
  refine ⟨lim.keeps ic.toInCall.keep, codeAny_func ?_⟩
  obtain ⟨t, ht, hq⟩ := hbody cdv A outer s H vs Q E (hr.deeper _) hg hsp
  have I := inv_start (CX := C) (N := N) (E := E) S hr.hd e0 hl r ic
  refine wpAny_mono (ht.run [] s1 (start N vs) H _ I hq) ?_ (fun _ _ z => z)
  intro fl s' hs
  cases fl with
  | ret u =>
    obtain ⟨v, σ', H', J, rv, q⟩ := hs
    exact ⟨v, H', J.os, J.bare, J.base, J.hok, rv, q⟩
  | next =>
    obtain ⟨σ', H', J, q⟩ := hs
    exact ⟨V.non, H', J.os, J.bare, J.base, J.hok, rfl, q⟩
  | brk =>
    obtain ⟨_, _, _, q⟩ := hs
    exact q.elim
  | cont =>
    obtain ⟨_, _, _, q⟩ := hs
    exact q.elim
end
section
variable {X : Cx} {C : CXT} {k : Nat} {f : Addr} {sp : Sp} {x : Str} {p pos : Pos} {e : Expr} {es : List Expr} {t : TA}
/-- f(e, ..) of such a def: what is raised is wished for at the caller's slots -/
theorem pe_callG {E : L2.St → XK} (F : FnG X.prog X.w X.K X.mg X.base C k f sp) (hr : Room k X.A) (hgd : X.A.guards = some []) (hg : Gl X x) (hm : X.mg x = some (.ref f))
    (hk : PySem.W.keepIn X.K (.ref f) = true) (hx : ∀ σ, PassesAt C X σ (E σ)) (ha : PA X (e :: es) t) (hdb : (x == ("__debug__" : Str)) = false := by decide)
    (he : starEach (e :: es) X.env = (false, eval e X.env) :: starEach es X.env := by rfl) (hpl : (backTo pos (starEach es X.env)).any (·.1) = false := by rfl) :
    PE X (.Call (.Name x p) (e :: es) [] pos) (tCallS sp E t) := by
  refine ⟨fun pins s σ H Q I h => ?_⟩
  refine wpAny_Call_Name_kw (ld_glob I hg hm ?_ hdb)
  refine PySem.W.callWith_K (h₀ := X.base) I.ok.mod.kin hk (thn (ha.run pos pins s σ H _ I h) ?_) he hpl
  rintro us s1 ⟨vs, H1, I1, r, q⟩
  refine ⟨I1.kIn, wpAny_call (codeAny_mono (F X.A X.stack s1 H1 us vs Q (E σ) hr hgd I1.env0 r q) ?_)⟩
  intro res s' hq
  cases res with
  | error er => exact hx σ pins H1 s1 er s' I1 hq
  | ok fl =>
    cases fl with
    | ret u => exact I1.after hq
    | next => exact hq.elim
    | brk => exact hq.elim
    | cont => exact hq.elim
end
end Mc
/-! McExc: the package's exceptions: MeetcellsError, whose __init__ says super().__init__(text) and self.value = value, and the classes directly under it. -/
namespace Mc
open PySem PySem.Spec PyProof.Rows L2 PySem.HandSPX

/-! ### the text of __init__, wherever it stands -/
def meA (p1 p2 : Pos) : Arguments := { posonlyargs := [], args := [{ arg := "self", annotation := none, pos := p1 }, { arg := "value", annotation := none, pos := p2 }], vararg := none, kwonlyargs := [], kw_defaults := [], kwarg := none, defaults := [] }
def meB (msg : Str) (j : Nat) (q0 q1 q2 q3 q4 q5 q6 q7 q8 q9 : Pos) : List Stmt :=
  [.Expr (.Call (.Attribute (.Call (.Name "super" q0) [] [] q1) "__init__" q2) [.Constant (.str msg) j q3] [] q4) q5,
   .Assign [.Attribute (.Name "self" q6) "value" q7] (.Name "value" q8) q9]
def meS : Scope := { kind := .function, names := [(PySem.Str.ofString "self", .local), (PySem.Str.ofString "value", .local), (PySem.Str.ofString "__class__", .free), (PySem.Str.ofString "super", .globalImplicit)], isGenerator := false, isCoroutine := false, more := [] }

/-- the call super().__init__(text) stands on one line -/
def OneLine (msg : Str) (j : Nat) (q0 q1 q2 q3 q4 : Pos) : Prop := ∀ env : Env, ∃ pl : Sem Bool,
  eval (.Call (.Attribute (.Call (.Name "super" q0) [] [] q1) "__init__" q2) [.Constant (.str msg) j q3] [] q4) env = (do
    let ov ← attributeBase (.Call (.Name "super" q0) [] [] q1) "__init__" env (eval (.Call (.Name "super" q0) [] [] q1) env)
    standAt q2.atName
    let (f, first) ← holding [ov] (getMethod ov "__init__" pl)
    callWith q4 f first (backTo q4 (starEach [.Constant (.str msg) j q3] env)) [])
/-- what the written part says of MeetcellsError's __init__, at fI; the class stands at D -/
structure MeInit (P : Program) (K : PySem.W.Frag) (D fI : Addr) : Prop where
  fn : ∃ (oc : Value) (od : Option Addr) (kV doc pm : Value) (an : Option Addr) (cda : Addr) (ct : Value) (cc : Addr) (osl : Array (Option Value)) (msg : Str) (j : Nat) (p1 p2 q0 q1 q2 q3 q4 q5 q6 q7 q8 q9 : Pos)
    (ccl : Value) (cdd : Option Addr) (vs : Array Value) (ccs : Array (Option Value)) (file : Str) (tf : Tok) (cl : Value) (cld : Option Addr) (csl : Array (Option Value)),
    K.lookup fI = some ⟨oc, od, .func (PySem.W.ksFn "__init__" "MeetcellsError.__init__" (meA p1 p2) (meB msg j q0 q1 q2 q3 q4 q5 q6 q7 q8 q9) meS .none kV doc pm an (.ref cda) ct cc), osl⟩ ∧
    PySem.W.codeIn K (.ref cda) "MeetcellsError.__init__" = true ∧ K.lookup cda = some ⟨ccl, cdd, .fields vs, ccs⟩ ∧ vs[2]? = some (.str file tf) ∧ ((P.main.file : Str) == file) = true ∧
    K.lookup cc = some ⟨cl, cld, .cell (some (.ref D)), csl⟩ ∧ OneLine msg j q0 q1 q2 q3 q4
  top : (P.main.scope.names.lookup ("super" : Str)).isSome = false
  clsD : ∃ cd, PySem.W.clsIn K D = some cd
  opq : PySem.W.nsIn K cStatics "thirdparty.any" = some none
  tI : PySem.W.typeIn K (.ref fI) = some (.type "function")

/-- .. of a class of the package, at C -/
structure MeCls (K : PySem.W.Frag) (D fI C : Addr) : Prop where
  cls : ∃ nm q N bs bm sn sub ab col dd k0 k1 k2 k3 k5, K.lookup C = some (excClassObj nm q C N bs bm true sn sub ab col dd k0 k1 k2 k3 k5 "ValueError.__new__") ∧ refsVE bm = true ∧
    ((Value.ref C :: bm).dropWhile (· != .ref D)).drop 1 = veTail ∧ (Value.ref C :: bm).contains (.ref D) = true
  sa : PySem.W.findIn K (.ref C) "__setattr__" = some (some (.builtin "object.__setattr__"))
  ga : PySem.W.findIn K (.ref C) "__getattribute__" = some (some (.builtin "BaseException.__getattribute__"))
  gg : PySem.W.findIn K (.ref C) "__getattr__" = some none
  noV : PySem.W.findIn K (.ref C) "value" = some none
  iC : PySem.W.findIn K (.ref C) "__init__" = some (some (.ref fI))
  kC : PySem.W.keepIn K (.ref C) = true
  exC : PySem.W.subIn K (.ref C) (.type "BaseException") = some true
  tyC : PySem.W.typeIn K (.ref C) = some (.type "type")
  hdC : PySem.W.hasDictIn K C = true

theorem along_ve (K : PySem.W.Frag) : PySem.W.alongIn K "__init__" veTail = some (some (.builtin "ValueError.__init__")) := by kernel_rfl

/-- what __init__ leaves of a fresh exception at x -/
structure InitEnd (h h' : Heap) (x C dx : Addr) (v : Value) : Prop where
  keep : ∀ b o, b ≠ x → h.get? b = some o → h'.get? b = some o
  obj : ∃ t1, h'.get? x = some { cls := .ref C, dict := some dx, data := .fields #[.ref t1, .none, .none, .none, .bool false, .none] }
  dbig : h.objs.size ≤ dx
  dne : dx ≠ x
  ns : h'.Ns1 dx (fun y => if y = "value" then some v else none)
/-- a made exception -/
structure MeMade (h h' : Heap) (e C d : Addr) (v : Value) : Prop where
  keep : ∀ b o, h.get? b = some o → h'.get? b = some o
  new : h.objs.size ≤ e
  obj : ∃ t1, h'.get? e = some { cls := .ref C, dict := some d, data := .fields #[.ref t1, .none, .none, .none, .bool false, .none] }
  dbig : h.objs.size ≤ d
  dne : d ≠ e
  ns : h'.Ns1 d (fun y => if y = "value" then some v else none)

section
open PySem.W PySem.Calls
variable {prog : Program} {w : World} {A : Around} {E : Value → Shared → Prop} {R : Result → Shared → Prop} {s : Shared} {K : Frag} {mg mb : Str → Option Value} {D fI C : Addr}

theorem cls_data (T : MeCls K D fI C) : ∃ cd, clsIn K C = some cd ∧ refsVE cd.mro = true ∧ cd.hasDict = true ∧ (cd.mro.dropWhile (· != .ref D)).drop 1 = veTail ∧ cd.mro.contains (.ref D) = true ∧ cd.mro.isEmpty = false := by
  obtain ⟨nm, q, N, bs, bm, sn, sub, ab, col, dd, k0, k1, k2, k3, k5, hC, hbm, hdrop, hmem⟩ := T.cls
  refine ⟨{ name := nm, bases := bs, mro := .ref C :: bm, ns := N, qualname := q, hasDict := true, slotNames := sn, subclasses := sub, abstract := ab, collection := col, hasDel := false }, ?_, hbm, rfl, hdrop, hmem, rfl⟩
  unfold clsIn
  rw [hC]
  all_goals rfl

/-- ValueError.__init__ bound to the fresh exception e, called -/
theorem call_mw {h : Heap} {g : Array GenState} {d : Drawn} {t : Nat} {os : OsState} {nm q : Str} {N : Addr} {bs bm : List Value} {hdct : Bool} {sn : List Str} {sub : List Value} {ab : Bool} {col : Option Bool} {dd : Option Addr} {k0 k1 k2 k3 k5 : Option Value}
    {u e t0 : Addr} {rest : List Value} {Q : Value → Shared → Prop}
    (hC : h.get? C = some (excClassObj nm q C N bs bm hdct sn sub ab col dd k0 k1 k2 k3 k5 "ValueError.__new__")) (he : h.get? e = some (excO C t0)) (hu : h.get? u = some (kxs_mw "ValueError.__init__" e))
    (hrest : rest.length ≤ sizeLine)
    (hq : ∀ h' t1, (∀ b o, b ≠ e → h.get? b = some o → h'.get? b = some o) → h'.get? e = some (excO C t1) → Q .none ⟨h', g, d, t, os⟩) :
    wpAny (model prog w) A (call (.ref u) rest) Q E ⟨h, g, d, t, os⟩ := by
  have FB := PySem.F.excBase_ValueError
  refine wpAny_call (codeAny_of_tree ?_)
  show wpAny _ A.in1 (callAny (.ref u) ⟨rest, []⟩) _ _ _
  simp only [callAny]
  refine wpAny_bind (wpAny_load hu ?_)
  simp only [kxs_mw, show (Value.type "method-wrapper" == Value.type "method" || Value.type "method-wrapper" == Value.type "builtin_function_or_method" || Value.type "method-wrapper" == Value.type "method-wrapper") = true by decide, if_true]
  refine W.KFB.if_so (by decide) ?_
  refine wpAny_bind (check_bound_init FB.toExcCallFacts hC he rfl ?_)
  refine wpAny_bind (wpAny_pure (wpAny_pure ⟨Code.quiet_builtin _ (by decide +kernel), codeAny_builtin FB.initEntry ?_⟩))
  rw [Around.under_plainId FB.init.plain _]
  wp_walk
  refine hq _ h.objs.size (fun b o hb ho => ?_) ?_
  · exact (Heap.get?_update_other _ _ (Ne.symm hb)).trans (Heap.get?_push_of_some _ ho)
  · refine (Heap.get?_update_self _ (Heap.get?_push_of_some _ he) rfl).trans ?_
    rfl

theorem me_init (T : MeInit prog K D fI) (TC : MeCls K D fI C) {x t0 : Addr} {v : Value} (X : K.In s.heap) (hns : s.heap.Ns mainGlobals mg) (hbn : s.heap.Ns builtinsNs mb)
    (hsup : mg "super" = none) (hbs : mb "super" = some (.type "super")) (hlim : s.heap.NoLimit) (hx : s.heap.get? x = some (excO C t0)) (hnx : K.lookup x = none) (hroom : A.depth < recursionLimit)
    (hq : ∀ h' tk dx, InitEnd s.heap h' x C dx v → R (.ok (.ret .none)) { s with heap := h', toks := tk }) :
    codeAny (model prog w) A (.call (.ref fI) ⟨[.ref x, v], []⟩) R s := by
  obtain ⟨oc, od, kV, doc, pm, an, cda, ct, cc, osl, msg, j, p1, p2, q0, q1, q2, q3, q4, q5, q6, q7, q8, q9, ccl, cdd, vs, ccs, file, tf, cl, cld, csl, ho, hcd, hcode, hvs, hfile, hcell, hone⟩ := T.fn
  obtain ⟨cdD, hD⟩ := T.clsD
  obtain ⟨cd, hcls, hmro, hhd, hdrop, hmemD, hnemp⟩ := cls_data TC
  obtain ⟨nm, q, N, bs, bm, sn, sub, ab, col, dd, k0, k1, k2, k3, k5, hC, hbm, _, _⟩ := TC.cls
  refine ks_codeAny_call_defAt (fd := ksFn "__init__" "MeetcellsError.__init__" (meA p1 p2) (meB msg j q0 q1 q2 q3 q4 q5 q6 q7 q8 q9) meS .none kV doc pm an (.ref cda) ct cc)
    (body := meB msg j q0 q1 q2 q3 q4 q5 q6 q7 q8 q9) (binds := [("self", .ref x), ("value", v)]) hroom (X _ _ ho) rfl hlim (codeRec_of X hcd) rfl (BindsTo.of_eq (by first | rfl | with_unfolding_all rfl)) (show ∀ x ∈ meS.names, x.2 ≠ .cell by decide) (show ∀ y ∈ [(("self" : Str), Value.ref x), ("value", v)], meS.names.lookup y.1 = some .local by simp [meS, List.lookup]; decide) ?_
  intro h1 hn1 kp1
  have X1 : K.In h1 := X.keeps kp1
  have hx1 := kp1 _ _ hx
  have hxL : x ≠ s.heap.objs.size := Nat.ne_of_lt (Heap.lt_size hx)
  obtain ⟨oD, hD1, hD2⟩ : ∃ oD, h1.get? D = some oD ∧ oD.data = .cls cdD := by
    unfold clsIn at hD
    split at hD
    · rename_i lk
      cases hD
      exact ⟨_, X1 _ _ lk, rfl⟩
    · cases hD
  have hCx : x ≠ C := by
    rintro rfl
    have z := X _ _ hC
    rw [hx] at z
    cases z
  -- super().__init__(text)
  obtain ⟨pl, hev⟩ := hone (callEnv (ksFn "__init__" "MeetcellsError.__init__" (meA p1 p2) (meB msg j q0 q1 q2 q3 q4 q5 q6 q7 q8 q9) meS .none kV doc pm an (.ref cda) ct cc) s.heap.objs.size fI)
  refine ks_wpAt_execs_cons (ks_wpAt_Expr_any (ks_wpAt_MethodCall (pl := pl) ?_ hev))
  refine ks_wpAt_super_base (f := fI) (cc := cda) rfl rfl (by decide) rfl (X1 _ _ ho) rfl rfl rfl (X1 _ _ hcode) rfl hvs hfile T.top ?_
  refine ks_loadName_global rfl rfl (loadGlobal_builtin (hns.keeps kp1) hsup (hbn.keeps kp1) hbs ⟨rfl, ?_⟩)
  refine wpAny_loadName_free rfl rfl rfl ⟨_, X1 _ _ hcell, rfl⟩ ?_
  refine wpAny_loadName_local rfl rfl hn1 (by first | rfl | with_unfolding_all rfl | kernel_rfl) ?_
  obtain ⟨hp0, g, dr, tk, os⟩ := s
  refine ks_wpAny_isType_cls hD1 hD2 ⟨rfl, ?_⟩
  refine ks_wpAny_call_super (C := C) hD1 hD2 hx1 rfl (fun c z => nomatch z) (looks_mroIn X1 (by unfold mroIn; rw [hcls, Option.bind_some, if_neg (by rw [hnemp]; decide), hmemD])) ?_
  intro h2 hso kp2
  have X2 : K.In h2 := X1.keeps kp2
  have hx2 := kp2 _ _ hx1
  have I2 : InstAt h2 x (excO C t0) C none := ⟨hx2, rfl, rfl, trivial⟩
  have hIs : Looks (model prog w) h2 (isInstance (.ref x) (.type "ValueError")) true := I2.type.andThen (looks_mroIn X2 (by
    unfold mroIn
    rw [hcls, Option.bind_some, if_neg (by rw [hnemp]; decide), refsVE_contains "ValueError" _ hmro]
    decide +kernel))
  refine kxs_getMethod kxs_ValueError hso (looks_opaque X2 T.opq) (l₀ := cd.mro) ((looks_clsIn X2 hcls).andThen .now) hdrop X2 (along_ve K) hIs hCx (by decide) ?_
  have hlt : ∀ {b o}, h2.get? b = some o → (h2.push (kxs_mw "ValueError.__init__" x)).get? b = some o := fun e => Heap.get?_push_of_some _ e
  have hmw : (h2.push (kxs_mw "ValueError.__init__" x)).get? h2.objs.size = some (kxs_mw "ValueError.__init__" x) := Heap.get?_push_at rfl rfl
  refine kxs_callWith (i := "ValueError.__init__") (x := x) rfl ?_
  refine evalArgs_plain (Calls.spliced_cons ?_)
  refine wpAny_Constant_str (k := j) (pos := q3) ?_
  refine Calls.spliced_nil ⟨hmw, ?_⟩
  refine call_mw (X2.keeps (fun _ _ e => hlt e) _ _ hC) (hlt hx2) hmw (by show 1 ≤ sizeLine; rw [sizeLine_eq]; omega) ?_
  intro h3 t1 kp3 hx3
  -- self.value = value
  have kp23 : ∀ b o, b ≠ x → h1.get? b = some o → h3.get? b = some o := fun b o hb e => kp3 b o hb (hlt (kp2 _ _ e))
  have X3 : K.In h3 := by
    intro b o e
    refine kp23 b o ?_ (X1 b o e)
    rintro rfl
    rw [hnx] at e
    cases e
  have hn3 : h3.Ns hp0.objs.size (fun y => List.lookup y [((("self" : Str), Value.ref x)), ("value", v)].reverse) := by
    obtain ⟨oL, es, ep, hL, r⟩ := hn1
    exact ⟨oL, es, ep, kp23 _ _ (Ne.symm hxL) hL, r⟩
  refine ks_wpAt_execs_cons (ks_wpAt_Assign_Attr ?_)
  refine wpAt_of_wpAny (wpAny_Name (wpAny_loadName_local (m := fun y => List.lookup y [((("self" : Str), Value.ref x)), ("value", v)].reverse) rfl rfl hn3 (v := v) (by first | rfl | with_unfolding_all rfl | kernel_rfl) ?_))
  refine wpAny_Name (wpAny_loadName_local rfl rfl hn3 (v := .ref x) (by first | rfl | with_unfolding_all rfl | kernel_rfl) ?_)
  refine set_plain X3 (C := C) (ox := excO C t1) (od := none) ⟨hx3, rfl, rfl, trivial⟩ TC.sa ?_
  refine exc_osa X3 hx3 hcls hmro hhd TC.noV ?_
  intro h4 tk4 dx kp4 dbig dne hx4 hns4
  refine wpAt_of_wpAny (wpAny_execs_nil ?_)
  have hsz : hp0.objs.size ≤ h3.objs.size := by
    obtain ⟨oL, es, ep, hL, r⟩ := hn3
    exact Nat.le_of_lt (Heap.lt_size hL)
  exact hq h4 tk4 dx ⟨fun b o hb e => kp4 b o hb (kp23 b o hb (kp1 b o e)), ⟨t1, hx4⟩, Nat.le_trans hsz dbig, dne, hns4⟩

/-- C(v), called -/
theorem me_made (T : MeInit prog K D fI) (TC : MeCls K D fI C) {v : Value} (X : K.In s.heap) (hns : s.heap.Ns mainGlobals mg) (hbn : s.heap.Ns builtinsNs mb)
    (hsup : mg "super" = none) (hbs : mb "super" = some (.type "super")) (hlim : s.heap.NoLimit) (hroom : A.depth + 1 < recursionLimit)
    (hq : ∀ h' tk e d, MeMade s.heap h' e C d v → R (.ok (.ret (.ref e))) { s with heap := h', toks := tk }) :
    codeAny (model prog w) A (.call (.ref C) ⟨[v], []⟩) R s := by
  obtain ⟨nm, q, N, bs, bm, sn, sub, ab, col, dd, k0, k1, k2, k3, k5, hC, hbm, _, _⟩ := TC.cls
  obtain ⟨hp, g, dr, tk, os⟩ := s
  have k : ∀ b o, hp.get? b = some o → ((hp.push (kdv_tup [v])).push (excO C hp.objs.size)).get? b = some o := fun b o e => Heap.get?_push_of_some _ (Heap.get?_push_of_some _ e)
  have hget : ((hp.push (kdv_tup [v])).push (excO C hp.objs.size)).get? (hp.objs.size + 1) = some (excO C hp.objs.size) := by heap_get
  have hnx : K.lookup (hp.objs.size + 1) = none := by
    cases e : K.lookup (hp.objs.size + 1) with
    | none => rfl
    | some o => exact absurd (Nat.lt_of_succ_lt (Heap.lt_size (X _ _ e))) (Nat.lt_irrefl _)
  refine call_own PySem.F.excBase_ValueError (fun Y => refsVE_contains Y bm hbm) (X _ _ hC) (looks_findIn X TC.iC) (fun self => bind_fn X self T.tI) (by show 1 ≤ sizeLine; rw [sizeLine_eq]; omega) ?_
  refine me_init (s := ⟨(hp.push (kdv_tup [v])).push (excO C hp.objs.size), g, dr, tk, os⟩) T TC (X.keeps k) (hns.keeps k) (hbn.keeps k) hsup hbs (hlim.keeps k) hget hnx ?_ ?_
  · show A.depth + 1 < recursionLimit
    exact hroom
  · rintro h' tk' dx ⟨kp, ob, dn, dne, hn⟩
    have z : hp.objs.size + 1 + 1 ≤ dx := by
      have q := dn
      rw [Heap.size_push, Heap.size_push] at q
      exact q
    refine ⟨rfl, hq h' tk' (hp.objs.size + 1) dx ⟨fun b o e => kp b o (Nat.ne_of_lt (Nat.lt_succ_of_lt (Heap.lt_size e))) (k b o e), Nat.le_succ _, ob, ?_, dne, hn⟩⟩
    show hp.objs.size ≤ dx
    omega
end

/-! ### the rules: C(e) raised; its field read in a suite -/
section
variable {X : Cx} {D fI C : Addr}
theorem relO_val {v : V} {v' : Value} (r : RelV v v') (f : Str) : RelO (List.lookup f [(("value" : Str), v)]) (if f = "value" then some v' else none) := by
  by_cases hw : f = "value"
  · subst hw
    rw [if_pos rfl, show List.lookup ("value" : Str) [(("value" : Str), v)] = some v by simp [List.lookup]]
    exact r
  · have q : (f == ("value" : Str)) = false := by simpa using hw
    rw [if_neg hw, show List.lookup f [(("value" : Str), v)] = none by simp [List.lookup, q]]
    trivial
/-- C(e) -/
def tMkMe (C : Addr) (ta : TA) : L2.St → Hp → XK → Prop := fun σ H Q => ta σ H fun vs H1 => ∃ v, vs = [v] ∧ ∀ d, H1 d = none → Q (.ref C) (some d) (upd H1 d (.xd [(("value" : Str), v)]))
theorem pmk_me {x : Str} {a : Expr} {ta : TA} {p pos : Pos} {k : Nat} (T : MeInit X.prog X.K D fI) (TC : MeCls X.K D fI C) (hsup : X.mg "super" = none) (gC : X.mg x = some (.ref C)) (hr : Room k X.A) (ha : PA X [a] ta)
    (hg : Gl X x := by rfl) (hdb : (x == ("__debug__" : Str)) = false := by decide)
    (he : starEach (a :: []) X.env = (false, eval a X.env) :: starEach [] X.env := by rfl) (hpl : (backTo pos (starEach [] X.env)).any (·.1) = false := by rfl) :
    PMk X (.Call (.Name x p) [a] [] pos) (tMkMe C ta) := by
  intro pins s σ H Q I h
  refine wpAny_Call_Name_kw (ld_glob I hg gC ?_ hdb)
  refine PySem.W.callWith_K (h₀ := X.base) I.ok.mod.kin TC.kC (thn (ha.run pos pins s σ H _ I h) ?_) he hpl
  rintro us s1 ⟨vs, H1, I1, r1, v, rfl, q1⟩
  refine ⟨I1.kIn, ?_⟩
  obtain ⟨u, rfl, rv⟩ := vals1 r1
  show wpAny _ _ (call (.ref C) [u]) _ _ _
  obtain ⟨mb, hb1, hb2⟩ := I1.ok.mod.blt
  have hlim := I1.nolimit
  have hns : s1.heap.Ns mainGlobals X.mg := I1.ok.mod.glob.keeps I1.bk
  have hbn : s1.heap.Ns builtinsNs mb := hb1.keeps I1.bk
  obtain ⟨hp, g, dr, tk, os⟩ := s1
  refine wpAny_call (me_made T TC I1.kIn hns hbn hsup ((hb2 _ (by decide)).trans (by decide +kernel)) hlim (by have := hr.dp; omega) ?_)
  intro h' tk' e d M
  obtain ⟨t1, hoe⟩ := M.obj
  obtain ⟨G, g1, g2⟩ := restrict h' fun b => decide (b ≠ e)
  have gk : ∀ b, b ≠ e → G.get? b = h'.get? b := fun b hb => g1 b (decide_eq_true hb)
  have ge : G.get? e = none := g2 e (by simp)
  have old : ∀ b o, hp.get? b = some o → G.get? b = some o := fun b o q => (gk b (Nat.ne_of_lt (Nat.lt_of_lt_of_le (Heap.lt_size q) M.new))).trans (M.keep b o q)
  have ob : ObjOk X.prog X.w (upd H1 d (.xd [(("value" : Str), v)])) G d (.xd [(("value" : Str), v)]) :=
    ⟨_, M.ns.at (fun o q => (gk d M.dne).trans q), fun f => relO_val rv f⟩
  have J : Inv X pins σ (upd H1 d (.xd [(("value" : Str), v)])) ⟨G, g, dr, tk', os⟩ := I1.laid (t' := tk') old M.dbig ob
  refine ⟨e, _, _, ⟨G, g, dr, tk', os⟩, _, .ref C, some d, rfl, J, fun b o q => ?_, ge, hoe, ⟨rfl, rfl⟩, rfl, rfl, ?_, rfl, I1.bare, raises_own TC.exC TC.tyC, q1 d (I1.hok.fresh M.dbig)⟩
  · have hb : b ≠ e := fun z => by
      have q' : G.get? b = some o := q
      rw [z, ge] at q'
      cases q'
    exact (gk b hb).symm.trans q
  · rw [upd_ne (Ne.symm M.dne)]
    exact I1.hok.fresh M.new
/-- raise C(e) -/
def tRaiseMe (C : Addr) (W : WX) (ta : TA) : TS := fun _ σ H => tMkMe C ta σ H fun cls d H' => W cls d σ H'
theorem ps_raiseMe {x : Str} {a : Expr} {ta : TA} {W : WX} {p pos pos2 : Pos} {k : Nat} (hc : X.calm = true) (T : MeInit X.prog X.K D fI) (TC : MeCls X.K D fI C) (hsup : X.mg "super" = none) (gC : X.mg x = some (.ref C)) (hr : Room k X.A) (tk : Takes X W)
    (ha : PA X [a] ta) (hg : Gl X x := by rfl) (hdb : (x == ("__debug__" : Str)) = false := by decide)
    (he : starEach (a :: []) X.env = (false, eval a X.env) :: starEach [] X.env := by rfl) (hpl : (backTo pos (starEach [] X.env)).any (·.1) = false := by rfl) :
    PS X (.Raise (some (.Call (.Name x p) [a] [] pos)) none pos2) (tRaiseMe C W ta) := ps_raise hc tk (pmk_me T TC hsup gC hr ha hg hdb he hpl)
/-- e.value, e the exception that the suite holds (at a; its class cls, its dict d) -/
def tValMe (C : Addr) (a : Addr) (cls : Value) (d : Option Addr) (te : TE) : TE := fun σ H Q => te σ H fun x H1 => x = .ref a ∧ cls = .ref C ∧ ∃ (dd : Addr) (v : V), d = some dd ∧ H1 dd = some (.xd [(("value" : Str), v)]) ∧ Q v H1
theorem pe_valMe {a : Addr} {oe : Obj} {cls : Value} {d : Option Addr} {pn : List (Addr × Obj)} {e : Expr} {te : TE} {pos : Pos} (TC : MeCls X.K D fI C) (hz : Zc cls d oe) (hf : ∃ vs, oe.data = .fields vs) (he : PE (X.suite a ((a, oe) :: pn)) e te)
    (hb : attributeBase e "value" X.env (eval e X.env) = eval e X.env := by rfl) :
    PE (X.suite a ((a, oe) :: pn)) (.Attribute e "value" pos) (tValMe C a cls d te) := by
  refine ⟨fun pins s σ H Q I h => ?_⟩
  refine attr_of hb (thn (he.run pins s σ H _ I h) ?_)
  rintro u s1 ⟨x, H1, I1, rx, ex, ec, dd, v, ed, ea, q⟩
  subst ex
  obtain rfl : u = Value.ref a := rx
  subst ec
  subst ed
  obtain ⟨ha, _⟩ := I1.pin (a, oe) (List.mem_append_left _ List.mem_cons_self)
  obtain ⟨vs, hd⟩ := hf
  obtain ⟨mA, hns, hr⟩ := (show ObjOk X.prog X.w H1 s1.heap dd (.xd [(("value" : Str), v)]) from I1.hok dd _ ea)
  obtain ⟨od, ho, hl⟩ := lookIn_ns hns
  have l : List.lookup ("value" : Str) [(("value" : Str), v)] = some v := by simp [List.lookup]
  obtain ⟨u, hu, ru⟩ := RelO.some_of (v := v) (o := mA "value") (by rw [← l]; exact hr "value")
  have J : PySem.W.InstAt s1.heap a oe C (some od) := ⟨ha, hz.1, by unfold PySem.W.notCls; rw [hd] <;> rfl, by rw [hz.2]; exact ho⟩
  exact exc_get I1.kIn J TC.ga TC.gg TC.exC (PySem.W.findObj_own TC.hdC TC.noV rfl (by rw [hl, hu])) (handed_of ru) ⟨v, H1, I1.tok _, ru, q⟩
end
end Mc
/-! McHead: what the top leaves, read by one Hook: facts, defs, tables by text keys, the exceptions. -/
namespace Mc
open PySem PySem.Spec PyProof.Rows L2 He PySem.HandSPX

/-! ### the exceptions' facts -/
abbrev meD (K : PySem.W.Frag) : Addr := ga K "MeetcellsError"
abbrev meI (K : PySem.W.Frag) : Addr := ma K (meD K) "__init__"
def clsB (K : PySem.W.Frag) (D C : Addr) : Bool := match K.lookup C with
  | some ⟨.type "type", _, .cls cd, sl⟩ => (match cd.mro, sl.toList with
    | .ref c :: bm, [_, _, _, _, some (.builtin n), _] => decide (c = C) && (decide (n = "ValueError.__new__") && (!cd.hasDel && (cd.hasDict && (refsVE bm &&
        (decide (((Value.ref C :: bm).dropWhile (· != .ref D)).drop 1 = veTail) && (Value.ref C :: bm).contains (.ref D))))))
    | _, _ => false)
  | _ => false
theorem clsB_ok {K : PySem.W.Frag} {D C : Addr} (h : clsB K D C = true) : ∃ nm q N bs bm sn sub ab col dd k0 k1 k2 k3 k5,
    K.lookup C = some (excClassObj nm q C N bs bm true sn sub ab col dd k0 k1 k2 k3 k5 "ValueError.__new__") ∧ refsVE bm = true ∧
    ((Value.ref C :: bm).dropWhile (· != .ref D)).drop 1 = veTail ∧ (Value.ref C :: bm).contains (.ref D) = true := by
  unfold clsB at h
  split at h
  · rename_i dd cd sl ho
    split at h
    · rename_i c bm k0 k1 k2 k3 n k5 hm hs
      obtain ⟨e1, h⟩ := ba h
      obtain ⟨e2, h⟩ := ba h
      obtain ⟨e3, h⟩ := ba h
      obtain ⟨e4, h⟩ := ba h
      obtain ⟨e5, h⟩ := ba h
      obtain ⟨e6, e7⟩ := ba h
      have r1 := of_decide_eq_true e1
      have r2 := of_decide_eq_true e2
      have r6 := of_decide_eq_true e6
      subst r1 r2
      obtain ⟨nm, bs, mro, ns, qn, hd, sn, sub, ab, col, del⟩ := cd
      dsimp only at hm e3 e4
      have hdel : del = false := by simpa using e3
      subst hm hdel e4
      have hsl : sl = #[k0, k1, k2, k3, some (.builtin "ValueError.__new__"), k5] := by
        obtain ⟨l⟩ := sl
        simp only at hs
        rw [hs]
      subst hsl
      exact ⟨nm, qn, ns, bs, bm, sn, sub, ab, col, dd, k0, k1, k2, k3, k5, ho, e5, r6, e7⟩
    · cases h
  · cases h
def meClsB (K : PySem.W.Frag) (x : Str) : Bool := clsB K (meD K) (ga K x) &&
  (eqO (PySem.W.findIn K (.ref (ga K x)) "__setattr__") (some (some (.builtin "object.__setattr__"))) &&
  (eqO (PySem.W.findIn K (.ref (ga K x)) "__getattribute__") (some (some (.builtin "BaseException.__getattribute__"))) &&
  (eqO (PySem.W.findIn K (.ref (ga K x)) "__getattr__") (some none) &&
  (eqO (PySem.W.findIn K (.ref (ga K x)) "value") (some none) &&
  (eqO (PySem.W.findIn K (.ref (ga K x)) "__init__") (some (some (.ref (meI K)))) &&
  (PySem.W.keepIn K (.ref (ga K x)) &&
  (decide (PySem.W.subIn K (.ref (ga K x)) (.type "BaseException") = some true) &&
  (decide (PySem.W.typeIn K (.ref (ga K x)) = some (.type "type")) && PySem.W.hasDictIn K (ga K x)))))))))
theorem meCls_ok {K : PySem.W.Frag} {x : Str} (h : meClsB K x = true) : MeCls K (meD K) (meI K) (ga K x) := by
  obtain ⟨e1, h⟩ := ba h
  obtain ⟨e2, h⟩ := ba h
  obtain ⟨e3, h⟩ := ba h
  obtain ⟨e4, h⟩ := ba h
  obtain ⟨e5, h⟩ := ba h
  obtain ⟨e6, h⟩ := ba h
  obtain ⟨e7, h⟩ := ba h
  obtain ⟨e8, h⟩ := ba h
  obtain ⟨e9, e10⟩ := ba h
  exact ⟨clsB_ok e1, eqO_ok e2, eqO_ok e3, eqO_ok e4, eqO_ok e5, eqO_ok e6, e7, of_decide_eq_true e8, of_decide_eq_true e9, e10⟩
/-- MeetcellsError.__init__, as it stands -/
abbrev InV : Type := Option (Str × Str × Arguments × FuncBody × Scope × Addr × List Str × Value × Addr)
def inObs (K : PySem.W.Frag) : InV := match K.lookup (meI K) with
  | some ⟨_, _, .func fd, _⟩ => some (fd.name, fd.qualname, fd.params, fd.body, fd.scope, fd.globals, fd.closure.map (·.1), fd.defaults, fd.builtins)
  | _ => none
def inVal (st : Stmt) : InV := some ("__init__", "MeetcellsError.__init__", defArgs st, .stmts (defBody st), defScope st, mainGlobals, ["__class__"], .none, builtinsNs)
def fileO (file : Str) : Option Obj → Bool
  | some ⟨_, _, .fields vs, _⟩ => (match (vs[2]? : Option Value) with
    | some (Value.str f _) => file == f
    | _ => false)
  | _ => false
def fileB (file : Str) (K : PySem.W.Frag) : Value → Bool
  | .ref c => fileO file (K.lookup c)
  | _ => false
theorem fileB_ok {file : Str} {K : PySem.W.Frag} {c : Addr} (h : fileB file K (.ref c) = true) :
    ∃ (ccl : Value) (cdd : Option Addr) (vs : Array Value) (ccs : Array (Option Value)) (f : Str) (tf : Tok), K.lookup c = some ⟨ccl, cdd, .fields vs, ccs⟩ ∧ vs[2]? = some (.str f tf) ∧ (file == f) = true := by
  have h1 : fileO file (K.lookup c) = true := h
  unfold fileO at h1
  split at h1
  · rename_i cl od vs sl q
    split at h1
    · rename_i f tf q2
      exact ⟨_, _, _, _, f, tf, q, q2, h1⟩
    · cases h1
  · cases h1
def cellO (D : Addr) : Option Obj → Bool
  | some ⟨_, _, .cell (some (.ref d)), _⟩ => decide (d = D)
  | _ => false
def cellB (K : PySem.W.Frag) : List (Str × Addr) → Bool
  | [(_, cc)] => cellO (meD K) (K.lookup cc)
  | _ => false
theorem cellB_ok {K : PySem.W.Frag} {l : List (Str × Addr)} (h : cellB K l = true) (hn : l.map (·.1) = [("__class__" : Str)]) :
    ∃ (cc : Addr) (cl : Value) (cld : Option Addr) (csl : Array (Option Value)), l = [(("__class__" : Str), cc)] ∧ K.lookup cc = some ⟨cl, cld, .cell (some (.ref (meD K))), csl⟩ := by
  match l, h, hn with
  | [(z, cc)], h, hn =>
    have ez : z = "__class__" := by simpa using hn
    have h1 : cellO (meD K) (K.lookup cc) = true := h
    unfold cellO at h1
    split at h1
    · rename_i cl cld d csl q
      have ed : d = meD K := of_decide_eq_true h1
      rw [ed] at q
      exact ⟨cc, _, _, _, by rw [ez], q⟩
    · cases h1
def fnB (file : Str) (K : PySem.W.Frag) (fd : FuncData) : Bool := PySem.W.codeIn K fd.code "MeetcellsError.__init__" && (fileB file K fd.code && cellB K fd.closure)
def inB (file : Str) (K : PySem.W.Frag) : Bool := eqO (PySem.W.nsIn K cStatics "thirdparty.any") (some none) && (decide (PySem.W.typeIn K (.ref (meI K)) = some (.type "function")) &&
  ((PySem.W.clsIn K (meD K)).isSome && (match K.lookup (meI K) with
    | some ⟨_, _, .func fd, _⟩ => fnB file K fd
    | _ => false)))
theorem meInit_ok {P : Program} {K : PySem.W.Frag} {st : Stmt} {msg : Str} {j : Nat} {p1 p2 q0 q1 q2 q3 q4 q5 q6 q7 q8 q9 : Pos} (e : inObs K = inVal st) (h : inB P.main.file K = true)
    (ea : defArgs st = meA p1 p2) (eb : defBody st = meB msg j q0 q1 q2 q3 q4 q5 q6 q7 q8 q9) (es : defScope st = meS) (hone : OneLine msg j q0 q1 q2 q3 q4)
    (htop : (P.main.scope.names.lookup ("super" : Str)).isSome = false) : MeInit P K (meD K) (meI K) := by
  obtain ⟨h1, h⟩ := ba h
  obtain ⟨h2, h⟩ := ba h
  obtain ⟨h3, h⟩ := ba h
  refine ⟨?_, htop, Option.isSome_iff_exists.mp h3, eqO_ok h1, of_decide_eq_true h2⟩
  unfold inObs at e
  cases q : K.lookup (meI K) with
  | none =>
    rw [q] at h
    cases h
  | some o =>
    obtain ⟨oc, od, dt, osl⟩ := o
    rw [q] at h e
    cases dt with
    | func fd =>
      obtain ⟨n1, n2, n3, n4, n5, n6, n7, n8, n9, n10, n11, n12, n13, n14, n15⟩ := fd
      have e2 : (some (n1, n2, n3, n4, n5, n6, n7.map (·.1), n8, n15) : InV) = inVal st := e
      unfold inVal at e2
      simp only [Option.some.injEq, Prod.mk.injEq] at e2
      obtain ⟨r1, r2, r3, r4, r5, r6, r7, r8, r9⟩ := e2
      rw [ea] at r3
      rw [eb] at r4
      rw [es] at r5
      subst r1 r2 r3 r4 r5 r6 r8 r9
      obtain ⟨c1, h'⟩ := ba (show (PySem.W.codeIn K n13 "MeetcellsError.__init__" && (fileB P.main.file K n13 && cellB K n7)) = true from h)
      obtain ⟨c2, c3⟩ := ba h'
      obtain ⟨cda, rfl⟩ := codeIn_ref c1
      obtain ⟨ccl, cdd, vs, ccs, f, tf, f1, f2, f3⟩ := fileB_ok c2
      obtain ⟨cc, cl, cld, csl, rfl, f4⟩ := cellB_ok c3 r7
      exact ⟨oc, od, n9, n10, n11, n12, cda, n14, cc, osl, msg, j, p1, p2, q0, q1, q2, q3, q4, q5, q6, q7, q8, q9, ccl, cdd, vs, ccs, f, tf, cl, cld, csl, rfl, c1, f1, f2, f3, f4, hone⟩
    | _ => cases h

/-! ### the Hook -/
abbrev AlM : Type := AlT × InV × Bool
def frM (n : Nat) (g : Addr → Option Obj) : PySem.W.Frag := frG g (cStatics :: asD g n)
def obsM (n : Nat) (fa : List Fa) (fn : List DefD) (ts : List Tab) (ex : PySem.W.Frag → Bool) (g : Addr → Option Obj) : AlM := (obsT fa fn ts (frM n g), inObs (frM n g), ex (frM n g))
def valM (fn : List DefD) (ts : List Tab) (st : Stmt) (w : World) : AlM := (valT fn ts w, inVal st, true)
structure SaysM (fa : List Fa) (fn : List DefD) (ts : List Tab) (st : Stmt) (ex : PySem.W.Frag → Bool) (w : World) (K : PySem.W.Frag) : Prop where
  t : SaysT fa fn ts w K
  i : inObs K = inVal st
  x : ex K = true
def hookM (n : Nat) (fa : List Fa) (fn : List DefD) (ts : List Tab) (st : Stmt) (ex : PySem.W.Frag → Bool) : PySem.W.Hook where
  α := AlM
  obs := fun s => obsM n fa fn ts ex s.heap.get?
  val := fun w => valM fn ts st w
  says := fun w h => ∃ K : PySem.W.Frag, K.In h ∧ SaysM fa fn ts st ex w K
  of := fun _ _ e => ⟨_, frG_in, ⟨congrArg (fun z : AlM => z.1) e, congrArg (fun z : AlM => z.2.1) e, congrArg (fun z : AlM => z.2.2) e⟩⟩
  keeps := fun _ _ _ ⟨K, hK, c⟩ k => ⟨K, PySem.W.Frag.In.keeps hK k, c⟩
theorem obsM_eq {n : Nat} {fa : List Fa} {fn : List DefD} {ts : List Tab} {st : Stmt} {ex : PySem.W.Frag → Bool} {g : Addr → Option Obj} {s : Shared} (h : ∀ a, g a = s.heap.get? a) :
    obsM n fa fn ts ex g = (hookM n fa fn ts st ex).obs s := by
  have e : g = s.heap.get? := funext h
  subst e
  rfl
end Mc
namespace Me
open PySem PySem.Spec PyProof.Rows L2
/-! ### the text by places -/
def top (i : Nat) : Stmt := PySem.Challenge.pw_meetcells_k30_rings_of_nets.main.body.getD i (.Pass ⟨0, 0, 0, 0⟩)
abbrev s__wall : Stmt := top 0
abbrev s_search : Stmt := top 12
abbrev s_rows_from : Stmt := top 13
abbrev s_least_part : Stmt := top 14
abbrev s_normal_order : Stmt := top 15
abbrev s_is_integer : Stmt := top 18
abbrev s_is_color : Stmt := top 19
abbrev s_is_kind : Stmt := top 20
abbrev s_is_port : Stmt := top 21
abbrev s_check_kinds : Stmt := top 25
abbrev s_is_wire : Stmt := top 26
abbrev s_check_wires : Stmt := top 27
abbrev s_check_counts : Stmt := top 28
abbrev s_all_ports : Stmt := top 29
abbrev s_linked : Stmt := top 30
abbrev s_is_pair : Stmt := top 31
abbrev s_renumbered : Stmt := top 32
abbrev s_moved : Stmt := top 34
abbrev s_check_pairs : Stmt := top 35
abbrev s_active_pairs : Stmt := top 37
abbrev s_is_reduced : Stmt := top 39
abbrev s_led_on : Stmt := top 40
abbrev s_rings : Stmt := top 41
abbrev s__law_cell : Stmt := top 43
abbrev s__law_box : Stmt := top 44
abbrev s__law_take : Stmt := top 45
abbrev s__law_ports : Stmt := top 46
abbrev s__law_net : Stmt := top 47
abbrev s__law_across : Stmt := top 48
abbrev s__law_reduced : Stmt := top 49
abbrev s__law_due : Stmt := top 50
abbrev s_law : Stmt := top 51
abbrev s_Net___init__ : Stmt := inClass (top 33) 0
abbrev s_Net___len__ : Stmt := inClass (top 33) 1
abbrev s_Net___eq__ : Stmt := inClass (top 33) 2
abbrev s_Net___contains__ : Stmt := inClass (top 33) 3
abbrev s_Net___getitem__ : Stmt := inClass (top 33) 4
abbrev s_Net___iter__ : Stmt := inClass (top 33) 5
abbrev s_Net___add__ : Stmt := inClass (top 33) 6
abbrev s_Net_parts : Stmt := inClass (top 33) 7
abbrev s_Net_beyond : Stmt := inClass (top 33) 8
abbrev s_Net_joined : Stmt := inClass (top 33) 9
abbrev s_Net_plugged : Stmt := inClass (top 33) 10
abbrev s_Net_reordered : Stmt := inClass (top 33) 11
abbrev s_me : Stmt := inClass (top 2) 0
/-! ### the defs as data -/
def d__wall : He.DefD := ⟨("_wall", none), "_wall", "_wall", defArgs s__wall, defBody s__wall, defScope s__wall, [], []⟩
def d_search : He.DefD := ⟨("search", none), "search", "search", defArgs s_search, defBody s_search, defScope s_search, [], []⟩
def d_rows_from : He.DefD := ⟨("rows_from", none), "rows_from", "rows_from", defArgs s_rows_from, defBody s_rows_from, defScope s_rows_from, [], []⟩
def d_least_part : He.DefD := ⟨("least_part", none), "least_part", "least_part", defArgs s_least_part, defBody s_least_part, defScope s_least_part, [], []⟩
def d_normal_order : He.DefD := ⟨("normal_order", none), "normal_order", "normal_order", defArgs s_normal_order, defBody s_normal_order, defScope s_normal_order, [], []⟩
def d_is_integer : He.DefD := ⟨("is_integer", none), "is_integer", "is_integer", defArgs s_is_integer, defBody s_is_integer, defScope s_is_integer, [], []⟩
def d_is_color : He.DefD := ⟨("is_color", none), "is_color", "is_color", defArgs s_is_color, defBody s_is_color, defScope s_is_color, [], []⟩
def d_is_kind : He.DefD := ⟨("is_kind", none), "is_kind", "is_kind", defArgs s_is_kind, defBody s_is_kind, defScope s_is_kind, [], []⟩
def d_is_port : He.DefD := ⟨("is_port", none), "is_port", "is_port", defArgs s_is_port, defBody s_is_port, defScope s_is_port, [], []⟩
def d_check_kinds : He.DefD := ⟨("check_kinds", none), "check_kinds", "check_kinds", defArgs s_check_kinds, defBody s_check_kinds, defScope s_check_kinds, [], []⟩
def d_is_wire : He.DefD := ⟨("is_wire", none), "is_wire", "is_wire", defArgs s_is_wire, defBody s_is_wire, defScope s_is_wire, [], []⟩
def d_check_wires : He.DefD := ⟨("check_wires", none), "check_wires", "check_wires", defArgs s_check_wires, defBody s_check_wires, defScope s_check_wires, [], []⟩
def d_check_counts : He.DefD := ⟨("check_counts", none), "check_counts", "check_counts", defArgs s_check_counts, defBody s_check_counts, defScope s_check_counts, [], []⟩
def d_all_ports : He.DefD := ⟨("all_ports", none), "all_ports", "all_ports", defArgs s_all_ports, defBody s_all_ports, defScope s_all_ports, [], []⟩
def d_linked : He.DefD := ⟨("linked", none), "linked", "linked", defArgs s_linked, defBody s_linked, defScope s_linked, [], []⟩
def d_is_pair : He.DefD := ⟨("is_pair", none), "is_pair", "is_pair", defArgs s_is_pair, defBody s_is_pair, defScope s_is_pair, [], []⟩
def d_renumbered : He.DefD := ⟨("renumbered", none), "renumbered", "renumbered", defArgs s_renumbered, defBody s_renumbered, defScope s_renumbered, [], []⟩
def d_moved : He.DefD := ⟨("moved", none), "moved", "moved", defArgs s_moved, defBody s_moved, defScope s_moved, [], []⟩
def d_check_pairs : He.DefD := ⟨("check_pairs", none), "check_pairs", "check_pairs", defArgs s_check_pairs, defBody s_check_pairs, defScope s_check_pairs, [], []⟩
def d_active_pairs : He.DefD := ⟨("active_pairs", none), "active_pairs", "active_pairs", defArgs s_active_pairs, defBody s_active_pairs, defScope s_active_pairs, [], []⟩
def d_is_reduced : He.DefD := ⟨("is_reduced", none), "is_reduced", "is_reduced", defArgs s_is_reduced, defBody s_is_reduced, defScope s_is_reduced, [], []⟩
def d_led_on : He.DefD := ⟨("led_on", none), "led_on", "led_on", defArgs s_led_on, defBody s_led_on, defScope s_led_on, [], []⟩
def d_rings : He.DefD := ⟨("rings", none), "rings", "rings", defArgs s_rings, defBody s_rings, defScope s_rings, [], []⟩
def d__law_cell : He.DefD := ⟨("_law_cell", none), "_law_cell", "_law_cell", defArgs s__law_cell, defBody s__law_cell, defScope s__law_cell, [], []⟩
def d__law_box : He.DefD := ⟨("_law_box", none), "_law_box", "_law_box", defArgs s__law_box, defBody s__law_box, defScope s__law_box, [], []⟩
def d__law_take : He.DefD := ⟨("_law_take", none), "_law_take", "_law_take", defArgs s__law_take, defBody s__law_take, defScope s__law_take, [], []⟩
def d__law_ports : He.DefD := ⟨("_law_ports", none), "_law_ports", "_law_ports", defArgs s__law_ports, defBody s__law_ports, defScope s__law_ports, [], []⟩
def d__law_net : He.DefD := ⟨("_law_net", none), "_law_net", "_law_net", defArgs s__law_net, defBody s__law_net, defScope s__law_net, [], []⟩
def d__law_across : He.DefD := ⟨("_law_across", none), "_law_across", "_law_across", defArgs s__law_across, defBody s__law_across, defScope s__law_across, [], []⟩
def d__law_reduced : He.DefD := ⟨("_law_reduced", none), "_law_reduced", "_law_reduced", defArgs s__law_reduced, defBody s__law_reduced, defScope s__law_reduced, [], []⟩
def d__law_due : He.DefD := ⟨("_law_due", none), "_law_due", "_law_due", defArgs s__law_due, defBody s__law_due, defScope s__law_due, [], []⟩
def d_law : He.DefD := ⟨("law", none), "law", "law", defArgs s_law, defBody s_law, defScope s_law, [], []⟩
def d_Net___init__ : He.DefD := ⟨("Net", some "__init__"), "__init__", "Net.__init__", defArgs s_Net___init__, defBody s_Net___init__, defScope s_Net___init__, [], [("ends", .int (0)), ("loops", .int (0))]⟩
def d_Net___len__ : He.DefD := ⟨("Net", some "__len__"), "__len__", "Net.__len__", defArgs s_Net___len__, defBody s_Net___len__, defScope s_Net___len__, [], []⟩
def d_Net___eq__ : He.DefD := ⟨("Net", some "__eq__"), "__eq__", "Net.__eq__", defArgs s_Net___eq__, defBody s_Net___eq__, defScope s_Net___eq__, [], []⟩
def d_Net___contains__ : He.DefD := ⟨("Net", some "__contains__"), "__contains__", "Net.__contains__", defArgs s_Net___contains__, defBody s_Net___contains__, defScope s_Net___contains__, [], []⟩
def d_Net___getitem__ : He.DefD := ⟨("Net", some "__getitem__"), "__getitem__", "Net.__getitem__", defArgs s_Net___getitem__, defBody s_Net___getitem__, defScope s_Net___getitem__, [], []⟩
def d_Net___iter__ : He.DefD := ⟨("Net", some "__iter__"), "__iter__", "Net.__iter__", defArgs s_Net___iter__, defBody s_Net___iter__, defScope s_Net___iter__, [], []⟩
def d_Net___add__ : He.DefD := ⟨("Net", some "__add__"), "__add__", "Net.__add__", defArgs s_Net___add__, defBody s_Net___add__, defScope s_Net___add__, [], []⟩
def d_Net_parts : He.DefD := ⟨("Net", some "parts"), "parts", "Net.parts", defArgs s_Net_parts, defBody s_Net_parts, defScope s_Net_parts, [], []⟩
def d_Net_beyond : He.DefD := ⟨("Net", some "beyond"), "beyond", "Net.beyond", defArgs s_Net_beyond, defBody s_Net_beyond, defScope s_Net_beyond, [], []⟩
def d_Net_joined : He.DefD := ⟨("Net", some "joined"), "joined", "Net.joined", defArgs s_Net_joined, defBody s_Net_joined, defScope s_Net_joined, [], []⟩
def d_Net_plugged : He.DefD := ⟨("Net", some "plugged"), "plugged", "Net.plugged", defArgs s_Net_plugged, defBody s_Net_plugged, defScope s_Net_plugged, [], []⟩
def d_Net_reordered : He.DefD := ⟨("Net", some "reordered"), "reordered", "Net.reordered", defArgs s_Net_reordered, defBody s_Net_reordered, defScope s_Net_reordered, [], []⟩
def fn : List He.DefD := ([d__wall, d_search, d_rows_from, d_least_part, d_normal_order, d_is_integer, d_is_color, d_is_kind, d_is_port, d_check_kinds, d_is_wire, d_check_wires, d_check_counts, d_all_ports, d_linked] : List He.DefD) ++ ([d_is_pair, d_renumbered, d_moved, d_check_pairs, d_active_pairs, d_is_reduced, d_led_on, d_rings, d__law_cell, d__law_box, d__law_take, d__law_ports, d__law_net, d__law_across, d__law_reduced] : List He.DefD) ++ ([d__law_due, d_law, d_Net___init__, d_Net___len__, d_Net___eq__, d_Net___contains__, d_Net___getitem__, d_Net___iter__, d_Net___add__, d_Net_parts, d_Net_beyond, d_Net_joined, d_Net_plugged, d_Net_reordered] : List He.DefD)
def fa : List He.Fa := ([.glo "_wall", .glo "search", .glo "rows_from", .glo "least_part", .glo "normal_order", .glo "is_integer", .glo "is_color", .glo "is_kind", .glo "is_port", .glo "check_kinds", .glo "is_wire", .glo "check_wires", .glo "check_counts", .glo "all_ports", .glo "linked"] : List He.Fa) ++ ([.glo "is_pair", .glo "renumbered", .glo "moved", .glo "check_pairs", .glo "active_pairs", .glo "is_reduced", .glo "led_on", .glo "rings", .glo "_law_cell", .glo "_law_box", .glo "_law_take", .glo "_law_ports", .glo "_law_net", .glo "_law_across", .glo "_law_reduced"] : List He.Fa) ++ ([.glo "_law_due", .glo "law", .glo "MeetcellsError", .glo "InvalidNumber", .glo "InvalidKinds", .glo "InvalidWires", .glo "InvalidPort", .glo "InvalidPairs", .glo "InvalidNet", .glo "TooLarge", .glo "Net", .glo "COLORS", .glo "PORTS", .free "len", .free "range"] : List He.Fa) ++ ([.free "repr", .free "isinstance", .free "max", .free "min", .free "int", .free "str", .free "tuple", .free "list", .free "sorted", .free "enumerate", .free "super", .free "bool", .free "set", .int "MOST_CELLS" 1000, .int "MOST_ENDS" 12] : List He.Fa) ++ ([.cls "Net", .mkr "Net", .noat "Net" "kinds", .noat "Net" "links", .noat "Net" "wires", .noat "Net" "ends", .noat "Net" "loops", .meth "Net" "__len__", .meth "Net" "__eq__", .meth "Net" "__contains__", .meth "Net" "__getitem__", .meth "Net" "__iter__", .meth "Net" "__add__", .meth "Net" "parts", .meth "Net" "beyond"] : List He.Fa) ++ ([.meth "Net" "joined", .meth "Net" "plugged", .meth "Net" "reordered", .exm "MeetcellsError" "MeetcellsError" true, .exm "InvalidNumber" "MeetcellsError" true, .exm "InvalidNumber" "InvalidNumber" true, .exm "InvalidKinds" "MeetcellsError" true, .exm "InvalidKinds" "InvalidKinds" true, .exm "InvalidWires" "MeetcellsError" true, .exm "InvalidWires" "InvalidWires" true, .exm "InvalidPort" "MeetcellsError" true, .exm "InvalidPort" "InvalidPort" true, .exm "InvalidPairs" "MeetcellsError" true, .exm "InvalidPairs" "InvalidPairs" true, .exm "InvalidNet" "MeetcellsError" true] : List He.Fa) ++ ([.exm "InvalidNet" "InvalidNet" true, .exm "TooLarge" "MeetcellsError" true, .exm "TooLarge" "TooLarge" true] : List He.Fa)
def tabs : List He.Tab := [((fun K => He.ga K "PORTS"), ["red", "blue", "eraser"])]
def ex (K : PySem.W.Frag) : Bool := Mc.inB (PySem.Challenge.pw_meetcells_k30_rings_of_nets.main.file) K && (Mc.meClsB K "MeetcellsError" && (Mc.meClsB K "InvalidNumber" && (Mc.meClsB K "InvalidKinds" && (Mc.meClsB K "InvalidWires" && (Mc.meClsB K "InvalidPort" && (Mc.meClsB K "InvalidPairs" && (Mc.meClsB K "InvalidNet" && (Mc.meClsB K "TooLarge" && (He.tupB K "COLORS" [.str "red", .str "blue"] && (He.valsB K (He.ga K "PORTS") [("red", .int (3)), ("blue", .int (3)), ("eraser", .int (1))]))))))))))
abbrev R : PySem.W.OpenRow := PySem.W.OpenLaw.row PySem.Challenge.rw_meetcells_k30_rings_of_nets
abbrev hk : PySem.W.Hook := Mc.hookM 6 fa fn tabs s_me ex
def ob (s : PySem.W.SharedT) : Mc.AlM := Mc.obsM 6 fa fn tabs ex (HandSHeadRun.getT s)
theorem ob_eq (s : PySem.W.SharedT) : ob s = hk.obs s.abs := Mc.obsM_eq (HandSHeadRun.getT_eq s)
def loose : List PySem.Str := (["_wall", "MeetcellsError", "InvalidNumber", "InvalidKinds", "InvalidWires", "InvalidPort", "InvalidPairs", "InvalidNet", "TooLarge", "PORTS", "search", "rows_from", "least_part", "normal_order", "COLORS"] : List PySem.Str) ++ (["is_integer", "is_color", "is_kind", "is_port", "MOST_CELLS", "MOST_ENDS", "check_kinds", "is_wire", "check_wires", "check_counts", "all_ports", "linked", "is_pair", "renumbered", "Net"] : List PySem.Str) ++ (["moved", "check_pairs", "active_pairs", "is_reduced", "led_on", "rings", "_law_cell", "_law_box", "_law_take", "_law_ports", "_law_net", "_law_across", "_law_reduced", "_law_due"] : List PySem.Str)
theorem run_f (w : World) : HandSHeadRun.RunEq R (PySem.W.view R.prog [51]) hk ob 60000 loose (w.withFollow "special-get-raises" false) := by
  intro os
  kernel_rfl
theorem run_t (w : World) : HandSHeadRun.RunEq R (PySem.W.view R.prog [51]) hk ob 60000 loose (w.withFollow "special-get-raises" true) := by
  intro os
  kernel_rfl
theorem run (w : World) : HandSHeadRun.RunEq R (PySem.W.view R.prog [51]) hk ob 60000 loose w := PySem.W.byRow2 "special-get-raises" (P := fun w => HandSHeadRun.RunEq R (PySem.W.view R.prog [51]) hk ob 60000 loose w) run_f run_t w
abbrev N_search : List Str := ["first", "kinds", "across", "found", "known", "cell", "place", "number", "other"]
theorem sc_search : FnScope N_search ["first", "kinds", "across"] (defScope s_search) := ⟨rfl, rfl, rfl, by decide +kernel, rfl, by decide +kernel, by decide +kernel⟩
abbrev N_rows_from : List Str := ["cells", "kinds", "across", "place", "rows", "cell", "ports", "at", "number", "other"]
theorem sc_rows_from : FnScope N_rows_from ["cells", "kinds", "across"] (defScope s_rows_from) := ⟨rfl, rfl, rfl, by decide +kernel, rfl, by decide +kernel, by decide +kernel⟩
abbrev N_least_part : List Str := ["cells", "kinds", "across", "best", "order", "start", "listed", "rows"]
theorem sc_least_part : FnScope N_least_part ["cells", "kinds", "across"] (defScope s_least_part) := ⟨rfl, rfl, rfl, by decide +kernel, rfl, by decide +kernel, by decide +kernel⟩
abbrev N_normal_order : List Str := ["kinds", "across", "ends", "first", "end", "cell", "found", "known", "parts", "cells", "other", "rows", "order"]
theorem sc_normal_order : FnScope N_normal_order ["kinds", "across", "ends"] (defScope s_normal_order) := ⟨rfl, rfl, rfl, by decide +kernel, rfl, by decide +kernel, by decide +kernel⟩
abbrev N_is_integer : List Str := ["value"]
theorem sc_is_integer : FnScope N_is_integer ["value"] (defScope s_is_integer) := ⟨rfl, rfl, rfl, by decide +kernel, rfl, by decide +kernel, by decide +kernel⟩
abbrev N_is_color : List Str := ["value"]
theorem sc_is_color : FnScope N_is_color ["value"] (defScope s_is_color) := ⟨rfl, rfl, rfl, by decide +kernel, rfl, by decide +kernel, by decide +kernel⟩
abbrev N_is_kind : List Str := ["value"]
theorem sc_is_kind : FnScope N_is_kind ["value"] (defScope s_is_kind) := ⟨rfl, rfl, rfl, by decide +kernel, rfl, by decide +kernel, by decide +kernel⟩
abbrev N_is_port : List Str := ["value", "cell", "number"]
theorem sc_is_port : FnScope N_is_port ["value"] (defScope s_is_port) := ⟨rfl, rfl, rfl, by decide +kernel, rfl, by decide +kernel, by decide +kernel⟩
abbrev N_check_kinds : List Str := ["kinds", "kind"]
theorem sc_check_kinds : FnScope N_check_kinds ["kinds"] (defScope s_check_kinds) := ⟨rfl, rfl, rfl, by decide +kernel, rfl, by decide +kernel, by decide +kernel⟩
abbrev N_is_wire : List Str := ["value"]
theorem sc_is_wire : FnScope N_is_wire ["value"] (defScope s_is_wire) := ⟨rfl, rfl, rfl, by decide +kernel, rfl, by decide +kernel, by decide +kernel⟩
abbrev N_check_wires : List Str := ["wires", "value"]
theorem sc_check_wires : FnScope N_check_wires ["wires"] (defScope s_check_wires) := ⟨rfl, rfl, rfl, by decide +kernel, rfl, by decide +kernel, by decide +kernel⟩
abbrev N_check_counts : List Str := ["ends", "loops"]
theorem sc_check_counts : FnScope N_check_counts ["ends", "loops"] (defScope s_check_counts) := ⟨rfl, rfl, rfl, by decide +kernel, rfl, by decide +kernel, by decide +kernel⟩
abbrev N_all_ports : List Str := ["kinds", "ends", "ports", "cell", "kind", "end", "number"]
theorem sc_all_ports : FnScope N_all_ports ["kinds", "ends"] (defScope s_all_ports) := ⟨rfl, rfl, rfl, by decide +kernel, rfl, by decide +kernel, by decide +kernel⟩
abbrev N_linked : List Str := ["kinds", "wires", "ends", "due", "across", "one", "other", "port"]
theorem sc_linked : FnScope N_linked ["kinds", "wires", "ends"] (defScope s_linked) := ⟨rfl, rfl, rfl, by decide +kernel, rfl, by decide +kernel, by decide +kernel⟩
abbrev N_is_pair : List Str := ["value", "one", "other", "first", "second"]
theorem sc_is_pair : FnScope N_is_pair ["value", "one", "other"] (defScope s_is_pair) := ⟨rfl, rfl, rfl, by decide +kernel, rfl, by decide +kernel, by decide +kernel⟩
abbrev N_renumbered : List Str := ["across", "ends", "left", "place", "wires", "port", "other", "end", "at"]
theorem sc_renumbered : FnScope N_renumbered ["across", "ends"] (defScope s_renumbered) := ⟨rfl, rfl, rfl, by decide +kernel, rfl, by decide +kernel, by decide +kernel⟩
abbrev N_moved : List Str := ["port", "cells", "ends", "cell", "number"]
theorem sc_moved : FnScope N_moved ["port", "cells", "ends"] (defScope s_moved) := ⟨rfl, rfl, rfl, by decide +kernel, rfl, by decide +kernel, by decide +kernel⟩
abbrev N_check_pairs : List Str := ["pairs", "one", "other", "pair"]
theorem sc_check_pairs : FnScope N_check_pairs ["pairs", "one", "other"] (defScope s_check_pairs) := ⟨rfl, rfl, rfl, by decide +kernel, rfl, by decide +kernel, by decide +kernel⟩
abbrev N_active_pairs : List Str := ["net", "pairs", "one", "other"]
theorem sc_active_pairs : FnScope N_active_pairs ["net"] (defScope s_active_pairs) := ⟨rfl, rfl, rfl, by decide +kernel, rfl, by decide +kernel, by decide +kernel⟩
abbrev N_is_reduced : List Str := ["net"]
theorem sc_is_reduced : FnScope N_is_reduced ["net"] (defScope s_is_reduced) := ⟨rfl, rfl, rfl, by decide +kernel, rfl, by decide +kernel, by decide +kernel⟩
abbrev N_led_on : List Str := ["net", "cell", "other", "number"]
theorem sc_led_on : FnScope N_led_on ["net", "cell"] (defScope s_led_on) := ⟨rfl, rfl, rfl, by decide +kernel, rfl, by decide +kernel, by decide +kernel⟩
abbrev N_rings : List Str := ["net", "found", "known", "start", "path", "cell", "ring", "at"]
theorem sc_rings : FnScope N_rings ["net"] (defScope s_rings) := ⟨rfl, rfl, rfl, by decide +kernel, rfl, by decide +kernel, by decide +kernel⟩
abbrev N__law_cell : List Str := ["_law_script", "_law_k"]
theorem sc__law_cell : FnScope N__law_cell ["_law_script", "_law_k"] (defScope s__law_cell) := ⟨rfl, rfl, rfl, by decide +kernel, rfl, by decide +kernel, by decide +kernel⟩
abbrev N__law_box : List Str := ["_law_unit"]
theorem sc__law_box : FnScope N__law_box ["_law_unit"] (defScope s__law_box) := ⟨rfl, rfl, rfl, by decide +kernel, rfl, by decide +kernel, by decide +kernel⟩
abbrev N__law_take : List Str := ["_law_box_here", "_law_many", "_law_digit", "_law_number"]
theorem sc__law_take : FnScope N__law_take ["_law_box_here", "_law_many"] (defScope s__law_take) := ⟨rfl, rfl, rfl, by decide +kernel, rfl, by decide +kernel, by decide +kernel⟩
abbrev N__law_ports : List Str := ["_law_kinds", "_law_tips", "_law_found", "_law_k", "_law_end", "_law_number"]
theorem sc__law_ports : FnScope N__law_ports ["_law_kinds", "_law_tips"] (defScope s__law_ports) := ⟨rfl, rfl, rfl, by decide +kernel, rfl, by decide +kernel, by decide +kernel⟩
abbrev N__law_net : List Str := ["_law_box_here", "_law_most", "_law_tips", "_law_menu", "_law_kinds", "_law_left", "_law_wires", "_law_heads", "_law_turn", "_law_one", "_law_other", "_law_k"]
theorem sc__law_net : FnScope N__law_net ["_law_box_here", "_law_most", "_law_tips"] (defScope s__law_net) := ⟨rfl, rfl, rfl, by decide +kernel, rfl, by decide +kernel, by decide +kernel⟩
abbrev N__law_across : List Str := ["_law_wires", "_law_found", "_law_one", "_law_other"]
theorem sc__law_across : FnScope N__law_across ["_law_wires"] (defScope s__law_across) := ⟨rfl, rfl, rfl, by decide +kernel, rfl, by decide +kernel, by decide +kernel⟩
abbrev N__law_reduced : List Str := ["_law_box_here", "_law_most", "_law_tips", "_law_rounds", "_law_kinds", "_law_wires", "_law_left", "_law_turn", "_law_many", "_law_here", "_law_numbers", "_law_j", "_law_spot", "_law_end"]
theorem sc__law_reduced : FnScope N__law_reduced ["_law_box_here", "_law_most", "_law_tips", "_law_rounds"] (defScope s__law_reduced) := ⟨rfl, rfl, rfl, by decide +kernel, rfl, by decide +kernel, by decide +kernel⟩
abbrev N__law_due : List Str := ["_law_net_here", "_law_across_here", "_law_found", "_law_unit", "_law_seen", "_law_one", "_law_port"]
theorem sc__law_due : FnScope N__law_due ["_law_net_here"] (defScope s__law_due) := ⟨rfl, rfl, rfl, by decide +kernel, rfl, by decide +kernel, by decide +kernel⟩
abbrev N_law : List Str := ["_law_script", "_law_k", "_law_box_here", "_law_tips", "_law_many", "_law_kinds", "_law_wires", "_law_net_here", "_law_other", "_law_mixed", "_law_heads", "_law_turn", "_law_a", "_law_b"]
theorem sc_law : FnScope N_law ["_law_script"] (defScope s_law) := ⟨rfl, rfl, rfl, by decide +kernel, rfl, by decide +kernel, by decide +kernel⟩
abbrev N_Net___init__ : List Str := ["self", "kinds", "wires", "ends", "loops", "across", "named", "order", "place", "at", "cell", "links", "number", "other", "kind", "port"]
theorem sc_Net___init__ : FnScope N_Net___init__ ["self", "kinds", "wires", "ends", "loops"] (defScope s_Net___init__) := ⟨rfl, rfl, rfl, by decide +kernel, rfl, by decide +kernel, by decide +kernel⟩
abbrev N_Net___len__ : List Str := ["self"]
theorem sc_Net___len__ : FnScope N_Net___len__ ["self"] (defScope s_Net___len__) := ⟨rfl, rfl, rfl, by decide +kernel, rfl, by decide +kernel, by decide +kernel⟩
abbrev N_Net___eq__ : List Str := ["self", "other"]
theorem sc_Net___eq__ : FnScope N_Net___eq__ ["self", "other"] (defScope s_Net___eq__) := ⟨rfl, rfl, rfl, by decide +kernel, rfl, by decide +kernel, by decide +kernel⟩
abbrev N_Net___contains__ : List Str := ["self", "port"]
theorem sc_Net___contains__ : FnScope N_Net___contains__ ["self", "port"] (defScope s_Net___contains__) := ⟨rfl, rfl, rfl, by decide +kernel, rfl, by decide +kernel, by decide +kernel⟩
abbrev N_Net___getitem__ : List Str := ["self", "port"]
theorem sc_Net___getitem__ : FnScope N_Net___getitem__ ["self", "port"] (defScope s_Net___getitem__) := ⟨rfl, rfl, rfl, by decide +kernel, rfl, by decide +kernel, by decide +kernel⟩
abbrev N_Net___iter__ : List Str := ["self"]
theorem sc_Net___iter__ : FnScope N_Net___iter__ ["self"] (defScope s_Net___iter__) := ⟨rfl, rfl, rfl, by decide +kernel, rfl, by decide +kernel, by decide +kernel⟩
abbrev N_Net___add__ : List Str := ["self", "other", "cells", "ends", "wires", "one", "two"]
theorem sc_Net___add__ : FnScope N_Net___add__ ["self", "other"] (defScope s_Net___add__) := ⟨rfl, rfl, rfl, by decide +kernel, rfl, by decide +kernel, by decide +kernel⟩
abbrev N_Net_parts : List Str := ["self", "kinds", "known", "many", "port", "cells", "cell", "number", "kind"]
theorem sc_Net_parts : FnScope N_Net_parts ["self"] (defScope s_Net_parts) := ⟨rfl, rfl, rfl, by decide +kernel, rfl, by decide +kernel, by decide +kernel⟩
abbrev N_Net_beyond : List Str := ["self", "port", "kinds", "cell"]
theorem sc_Net_beyond : FnScope N_Net_beyond ["self", "port", "kinds"] (defScope s_Net_beyond) := ⟨rfl, rfl, rfl, by decide +kernel, rfl, by decide +kernel, by decide +kernel⟩
abbrev N_Net_joined : List Str := ["self", "pairs", "used", "across", "loops", "one", "other", "first", "second", "wires", "ends", "pair", "end", "port"]
theorem sc_Net_joined : FnScope N_Net_joined ["self", "pairs"] (defScope s_Net_joined) := ⟨rfl, rfl, rfl, by decide +kernel, rfl, by decide +kernel, by decide +kernel⟩
abbrev N_Net_plugged : List Str := ["self", "other", "pairs"]
theorem sc_Net_plugged : FnScope N_Net_plugged ["self", "other", "pairs"] (defScope s_Net_plugged) := ⟨rfl, rfl, rfl, by decide +kernel, rfl, by decide +kernel, by decide +kernel⟩
abbrev N_Net_reordered : List Str := ["self", "order"]
theorem sc_Net_reordered : FnScope N_Net_reordered ["self", "order"] (defScope s_Net_reordered) := ⟨rfl, rfl, rfl, by decide +kernel, rfl, by decide +kernel, by decide +kernel⟩
structure Txt (P : Program) (w : World) (K : PySem.W.Frag) (mg : Str → Option Value) : Prop where
  m_len : mg "len" = none
  m_range : mg "range" = none
  m_repr : mg "repr" = none
  m_isinstance : mg "isinstance" = none
  m_max : mg "max" = none
  m_min : mg "min" = none
  m_int : mg "int" = none
  m_str : mg "str" = none
  m_tuple : mg "tuple" = none
  m_list : mg "list" = none
  m_sorted : mg "sorted" = none
  m_enumerate : mg "enumerate" = none
  m_super : mg "super" = none
  m_bool : mg "bool" = none
  m_set : mg "set" = none
  g__wall : mg "_wall" = some (.ref (He.ga K "_wall"))
  f__wall : ∃ fd, FunD K "_wall" "_wall" (defArgs s__wall) (defBody s__wall) (defScope s__wall) [] [] (He.ga K "_wall") fd
  k__wall : PySem.W.keepIn K (.ref (He.ga K "_wall")) = true
  g_search : mg "search" = some (.ref (He.ga K "search"))
  f_search : ∃ fd, FunD K "search" "search" (defArgs s_search) (defBody s_search) (defScope s_search) [] [] (He.ga K "search") fd
  k_search : PySem.W.keepIn K (.ref (He.ga K "search")) = true
  g_rows_from : mg "rows_from" = some (.ref (He.ga K "rows_from"))
  f_rows_from : ∃ fd, FunD K "rows_from" "rows_from" (defArgs s_rows_from) (defBody s_rows_from) (defScope s_rows_from) [] [] (He.ga K "rows_from") fd
  k_rows_from : PySem.W.keepIn K (.ref (He.ga K "rows_from")) = true
  g_least_part : mg "least_part" = some (.ref (He.ga K "least_part"))
  f_least_part : ∃ fd, FunD K "least_part" "least_part" (defArgs s_least_part) (defBody s_least_part) (defScope s_least_part) [] [] (He.ga K "least_part") fd
  k_least_part : PySem.W.keepIn K (.ref (He.ga K "least_part")) = true
  g_normal_order : mg "normal_order" = some (.ref (He.ga K "normal_order"))
  f_normal_order : ∃ fd, FunD K "normal_order" "normal_order" (defArgs s_normal_order) (defBody s_normal_order) (defScope s_normal_order) [] [] (He.ga K "normal_order") fd
  k_normal_order : PySem.W.keepIn K (.ref (He.ga K "normal_order")) = true
  g_is_integer : mg "is_integer" = some (.ref (He.ga K "is_integer"))
  f_is_integer : ∃ fd, FunD K "is_integer" "is_integer" (defArgs s_is_integer) (defBody s_is_integer) (defScope s_is_integer) [] [] (He.ga K "is_integer") fd
  k_is_integer : PySem.W.keepIn K (.ref (He.ga K "is_integer")) = true
  g_is_color : mg "is_color" = some (.ref (He.ga K "is_color"))
  f_is_color : ∃ fd, FunD K "is_color" "is_color" (defArgs s_is_color) (defBody s_is_color) (defScope s_is_color) [] [] (He.ga K "is_color") fd
  k_is_color : PySem.W.keepIn K (.ref (He.ga K "is_color")) = true
  g_is_kind : mg "is_kind" = some (.ref (He.ga K "is_kind"))
  f_is_kind : ∃ fd, FunD K "is_kind" "is_kind" (defArgs s_is_kind) (defBody s_is_kind) (defScope s_is_kind) [] [] (He.ga K "is_kind") fd
  k_is_kind : PySem.W.keepIn K (.ref (He.ga K "is_kind")) = true
  g_is_port : mg "is_port" = some (.ref (He.ga K "is_port"))
  f_is_port : ∃ fd, FunD K "is_port" "is_port" (defArgs s_is_port) (defBody s_is_port) (defScope s_is_port) [] [] (He.ga K "is_port") fd
  k_is_port : PySem.W.keepIn K (.ref (He.ga K "is_port")) = true
  g_check_kinds : mg "check_kinds" = some (.ref (He.ga K "check_kinds"))
  f_check_kinds : ∃ fd, FunD K "check_kinds" "check_kinds" (defArgs s_check_kinds) (defBody s_check_kinds) (defScope s_check_kinds) [] [] (He.ga K "check_kinds") fd
  k_check_kinds : PySem.W.keepIn K (.ref (He.ga K "check_kinds")) = true
  g_is_wire : mg "is_wire" = some (.ref (He.ga K "is_wire"))
  f_is_wire : ∃ fd, FunD K "is_wire" "is_wire" (defArgs s_is_wire) (defBody s_is_wire) (defScope s_is_wire) [] [] (He.ga K "is_wire") fd
  k_is_wire : PySem.W.keepIn K (.ref (He.ga K "is_wire")) = true
  g_check_wires : mg "check_wires" = some (.ref (He.ga K "check_wires"))
  f_check_wires : ∃ fd, FunD K "check_wires" "check_wires" (defArgs s_check_wires) (defBody s_check_wires) (defScope s_check_wires) [] [] (He.ga K "check_wires") fd
  k_check_wires : PySem.W.keepIn K (.ref (He.ga K "check_wires")) = true
  g_check_counts : mg "check_counts" = some (.ref (He.ga K "check_counts"))
  f_check_counts : ∃ fd, FunD K "check_counts" "check_counts" (defArgs s_check_counts) (defBody s_check_counts) (defScope s_check_counts) [] [] (He.ga K "check_counts") fd
  k_check_counts : PySem.W.keepIn K (.ref (He.ga K "check_counts")) = true
  g_all_ports : mg "all_ports" = some (.ref (He.ga K "all_ports"))
  f_all_ports : ∃ fd, FunD K "all_ports" "all_ports" (defArgs s_all_ports) (defBody s_all_ports) (defScope s_all_ports) [] [] (He.ga K "all_ports") fd
  k_all_ports : PySem.W.keepIn K (.ref (He.ga K "all_ports")) = true
  g_linked : mg "linked" = some (.ref (He.ga K "linked"))
  f_linked : ∃ fd, FunD K "linked" "linked" (defArgs s_linked) (defBody s_linked) (defScope s_linked) [] [] (He.ga K "linked") fd
  k_linked : PySem.W.keepIn K (.ref (He.ga K "linked")) = true
  g_is_pair : mg "is_pair" = some (.ref (He.ga K "is_pair"))
  f_is_pair : ∃ fd, FunD K "is_pair" "is_pair" (defArgs s_is_pair) (defBody s_is_pair) (defScope s_is_pair) [] [] (He.ga K "is_pair") fd
  k_is_pair : PySem.W.keepIn K (.ref (He.ga K "is_pair")) = true
  g_renumbered : mg "renumbered" = some (.ref (He.ga K "renumbered"))
  f_renumbered : ∃ fd, FunD K "renumbered" "renumbered" (defArgs s_renumbered) (defBody s_renumbered) (defScope s_renumbered) [] [] (He.ga K "renumbered") fd
  k_renumbered : PySem.W.keepIn K (.ref (He.ga K "renumbered")) = true
  g_moved : mg "moved" = some (.ref (He.ga K "moved"))
  f_moved : ∃ fd, FunD K "moved" "moved" (defArgs s_moved) (defBody s_moved) (defScope s_moved) [] [] (He.ga K "moved") fd
  k_moved : PySem.W.keepIn K (.ref (He.ga K "moved")) = true
  g_check_pairs : mg "check_pairs" = some (.ref (He.ga K "check_pairs"))
  f_check_pairs : ∃ fd, FunD K "check_pairs" "check_pairs" (defArgs s_check_pairs) (defBody s_check_pairs) (defScope s_check_pairs) [] [] (He.ga K "check_pairs") fd
  k_check_pairs : PySem.W.keepIn K (.ref (He.ga K "check_pairs")) = true
  g_active_pairs : mg "active_pairs" = some (.ref (He.ga K "active_pairs"))
  f_active_pairs : ∃ fd, FunD K "active_pairs" "active_pairs" (defArgs s_active_pairs) (defBody s_active_pairs) (defScope s_active_pairs) [] [] (He.ga K "active_pairs") fd
  k_active_pairs : PySem.W.keepIn K (.ref (He.ga K "active_pairs")) = true
  g_is_reduced : mg "is_reduced" = some (.ref (He.ga K "is_reduced"))
  f_is_reduced : ∃ fd, FunD K "is_reduced" "is_reduced" (defArgs s_is_reduced) (defBody s_is_reduced) (defScope s_is_reduced) [] [] (He.ga K "is_reduced") fd
  k_is_reduced : PySem.W.keepIn K (.ref (He.ga K "is_reduced")) = true
  g_led_on : mg "led_on" = some (.ref (He.ga K "led_on"))
  f_led_on : ∃ fd, FunD K "led_on" "led_on" (defArgs s_led_on) (defBody s_led_on) (defScope s_led_on) [] [] (He.ga K "led_on") fd
  k_led_on : PySem.W.keepIn K (.ref (He.ga K "led_on")) = true
  g_rings : mg "rings" = some (.ref (He.ga K "rings"))
  f_rings : ∃ fd, FunD K "rings" "rings" (defArgs s_rings) (defBody s_rings) (defScope s_rings) [] [] (He.ga K "rings") fd
  k_rings : PySem.W.keepIn K (.ref (He.ga K "rings")) = true
  g__law_cell : mg "_law_cell" = some (.ref (He.ga K "_law_cell"))
  f__law_cell : ∃ fd, FunD K "_law_cell" "_law_cell" (defArgs s__law_cell) (defBody s__law_cell) (defScope s__law_cell) [] [] (He.ga K "_law_cell") fd
  k__law_cell : PySem.W.keepIn K (.ref (He.ga K "_law_cell")) = true
  g__law_box : mg "_law_box" = some (.ref (He.ga K "_law_box"))
  f__law_box : ∃ fd, FunD K "_law_box" "_law_box" (defArgs s__law_box) (defBody s__law_box) (defScope s__law_box) [] [] (He.ga K "_law_box") fd
  k__law_box : PySem.W.keepIn K (.ref (He.ga K "_law_box")) = true
  g__law_take : mg "_law_take" = some (.ref (He.ga K "_law_take"))
  f__law_take : ∃ fd, FunD K "_law_take" "_law_take" (defArgs s__law_take) (defBody s__law_take) (defScope s__law_take) [] [] (He.ga K "_law_take") fd
  k__law_take : PySem.W.keepIn K (.ref (He.ga K "_law_take")) = true
  g__law_ports : mg "_law_ports" = some (.ref (He.ga K "_law_ports"))
  f__law_ports : ∃ fd, FunD K "_law_ports" "_law_ports" (defArgs s__law_ports) (defBody s__law_ports) (defScope s__law_ports) [] [] (He.ga K "_law_ports") fd
  k__law_ports : PySem.W.keepIn K (.ref (He.ga K "_law_ports")) = true
  g__law_net : mg "_law_net" = some (.ref (He.ga K "_law_net"))
  f__law_net : ∃ fd, FunD K "_law_net" "_law_net" (defArgs s__law_net) (defBody s__law_net) (defScope s__law_net) [] [] (He.ga K "_law_net") fd
  k__law_net : PySem.W.keepIn K (.ref (He.ga K "_law_net")) = true
  g__law_across : mg "_law_across" = some (.ref (He.ga K "_law_across"))
  f__law_across : ∃ fd, FunD K "_law_across" "_law_across" (defArgs s__law_across) (defBody s__law_across) (defScope s__law_across) [] [] (He.ga K "_law_across") fd
  k__law_across : PySem.W.keepIn K (.ref (He.ga K "_law_across")) = true
  g__law_reduced : mg "_law_reduced" = some (.ref (He.ga K "_law_reduced"))
  f__law_reduced : ∃ fd, FunD K "_law_reduced" "_law_reduced" (defArgs s__law_reduced) (defBody s__law_reduced) (defScope s__law_reduced) [] [] (He.ga K "_law_reduced") fd
  k__law_reduced : PySem.W.keepIn K (.ref (He.ga K "_law_reduced")) = true
  g__law_due : mg "_law_due" = some (.ref (He.ga K "_law_due"))
  f__law_due : ∃ fd, FunD K "_law_due" "_law_due" (defArgs s__law_due) (defBody s__law_due) (defScope s__law_due) [] [] (He.ga K "_law_due") fd
  k__law_due : PySem.W.keepIn K (.ref (He.ga K "_law_due")) = true
  g_law : mg "law" = some (.ref (He.ga K "law"))
  f_law : ∃ fd, FunD K "law" "law" (defArgs s_law) (defBody s_law) (defScope s_law) [] [] (He.ga K "law") fd
  k_law : PySem.W.keepIn K (.ref (He.ga K "law")) = true
  g_MeetcellsError : mg "MeetcellsError" = some (.ref (He.ga K "MeetcellsError"))
  g_InvalidNumber : mg "InvalidNumber" = some (.ref (He.ga K "InvalidNumber"))
  g_InvalidKinds : mg "InvalidKinds" = some (.ref (He.ga K "InvalidKinds"))
  g_InvalidWires : mg "InvalidWires" = some (.ref (He.ga K "InvalidWires"))
  g_InvalidPort : mg "InvalidPort" = some (.ref (He.ga K "InvalidPort"))
  g_InvalidPairs : mg "InvalidPairs" = some (.ref (He.ga K "InvalidPairs"))
  g_InvalidNet : mg "InvalidNet" = some (.ref (He.ga K "InvalidNet"))
  g_TooLarge : mg "TooLarge" = some (.ref (He.ga K "TooLarge"))
  g_Net : mg "Net" = some (.ref (He.ga K "Net"))
  cl_Net : Cls K (He.ga K "Net")
  mk_Net : Mk K (He.ga K "Net") (He.ma K (He.ga K "Net") "__init__")
  n_Net_kinds : NoAttr K (He.ga K "Net") "kinds"
  n_Net_links : NoAttr K (He.ga K "Net") "links"
  n_Net_wires : NoAttr K (He.ga K "Net") "wires"
  n_Net_ends : NoAttr K (He.ga K "Net") "ends"
  n_Net_loops : NoAttr K (He.ga K "Net") "loops"
  f_Net___init__ : ∃ fd, FunD K "__init__" "Net.__init__" (defArgs s_Net___init__) (defBody s_Net___init__) (defScope s_Net___init__) [] [("ends", .int (0)), ("loops", .int (0))] (He.ma K (He.ga K "Net") "__init__") fd
  me_Net___len__ : Meth K (He.ga K "Net") "__len__" (He.ma K (He.ga K "Net") "__len__")
  f_Net___len__ : ∃ fd, FunD K "__len__" "Net.__len__" (defArgs s_Net___len__) (defBody s_Net___len__) (defScope s_Net___len__) [] [] (He.ma K (He.ga K "Net") "__len__") fd
  me_Net___eq__ : Meth K (He.ga K "Net") "__eq__" (He.ma K (He.ga K "Net") "__eq__")
  f_Net___eq__ : ∃ fd, FunD K "__eq__" "Net.__eq__" (defArgs s_Net___eq__) (defBody s_Net___eq__) (defScope s_Net___eq__) [] [] (He.ma K (He.ga K "Net") "__eq__") fd
  me_Net___contains__ : Meth K (He.ga K "Net") "__contains__" (He.ma K (He.ga K "Net") "__contains__")
  f_Net___contains__ : ∃ fd, FunD K "__contains__" "Net.__contains__" (defArgs s_Net___contains__) (defBody s_Net___contains__) (defScope s_Net___contains__) [] [] (He.ma K (He.ga K "Net") "__contains__") fd
  me_Net___getitem__ : Meth K (He.ga K "Net") "__getitem__" (He.ma K (He.ga K "Net") "__getitem__")
  f_Net___getitem__ : ∃ fd, FunD K "__getitem__" "Net.__getitem__" (defArgs s_Net___getitem__) (defBody s_Net___getitem__) (defScope s_Net___getitem__) [] [] (He.ma K (He.ga K "Net") "__getitem__") fd
  me_Net___iter__ : Meth K (He.ga K "Net") "__iter__" (He.ma K (He.ga K "Net") "__iter__")
  f_Net___iter__ : ∃ fd, FunD K "__iter__" "Net.__iter__" (defArgs s_Net___iter__) (defBody s_Net___iter__) (defScope s_Net___iter__) [] [] (He.ma K (He.ga K "Net") "__iter__") fd
  me_Net___add__ : Meth K (He.ga K "Net") "__add__" (He.ma K (He.ga K "Net") "__add__")
  f_Net___add__ : ∃ fd, FunD K "__add__" "Net.__add__" (defArgs s_Net___add__) (defBody s_Net___add__) (defScope s_Net___add__) [] [] (He.ma K (He.ga K "Net") "__add__") fd
  me_Net_parts : Meth K (He.ga K "Net") "parts" (He.ma K (He.ga K "Net") "parts")
  f_Net_parts : ∃ fd, FunD K "parts" "Net.parts" (defArgs s_Net_parts) (defBody s_Net_parts) (defScope s_Net_parts) [] [] (He.ma K (He.ga K "Net") "parts") fd
  me_Net_beyond : Meth K (He.ga K "Net") "beyond" (He.ma K (He.ga K "Net") "beyond")
  f_Net_beyond : ∃ fd, FunD K "beyond" "Net.beyond" (defArgs s_Net_beyond) (defBody s_Net_beyond) (defScope s_Net_beyond) [] [] (He.ma K (He.ga K "Net") "beyond") fd
  me_Net_joined : Meth K (He.ga K "Net") "joined" (He.ma K (He.ga K "Net") "joined")
  f_Net_joined : ∃ fd, FunD K "joined" "Net.joined" (defArgs s_Net_joined) (defBody s_Net_joined) (defScope s_Net_joined) [] [] (He.ma K (He.ga K "Net") "joined") fd
  me_Net_plugged : Meth K (He.ga K "Net") "plugged" (He.ma K (He.ga K "Net") "plugged")
  f_Net_plugged : ∃ fd, FunD K "plugged" "Net.plugged" (defArgs s_Net_plugged) (defBody s_Net_plugged) (defScope s_Net_plugged) [] [] (He.ma K (He.ga K "Net") "plugged") fd
  me_Net_reordered : Meth K (He.ga K "Net") "reordered" (He.ma K (He.ga K "Net") "reordered")
  f_Net_reordered : ∃ fd, FunD K "reordered" "Net.reordered" (defArgs s_Net_reordered) (defBody s_Net_reordered) (defScope s_Net_reordered) [] [] (He.ma K (He.ga K "Net") "reordered") fd
  i_MOST_CELLS : ∃ t, mg "MOST_CELLS" = some (.int 1000 t)
  i_MOST_ENDS : ∃ t, mg "MOST_ENDS" = some (.int 12 t)
  g_COLORS : mg "COLORS" = some (.ref (He.ga K "COLORS"))
  t_COLORS : ∀ H, SqT K H (He.ga K "COLORS") [.str "red", .str "blue"]
  g_PORTS : mg "PORTS" = some (.ref (He.ga K "PORTS"))
  kd_PORTS : ∃ es n, KDict K w (He.ga K "PORTS") es n
  kv_PORTS : ∀ q ∈ ([("red", .int (3)), ("blue", .int (3)), ("eraser", .int (1))] : List (Str × He.Dv)), ∃ u, PySem.W.nsIn K (He.ga K "PORTS") q.1 = some (some u) ∧ RelV (q.2.v K) u
  me : Mc.MeInit P K (Mc.meD K) (Mc.meI K)
  x_MeetcellsError : Mc.MeCls K (Mc.meD K) (Mc.meI K) (He.ga K "MeetcellsError")
  x_InvalidNumber : Mc.MeCls K (Mc.meD K) (Mc.meI K) (He.ga K "InvalidNumber")
  x_InvalidKinds : Mc.MeCls K (Mc.meD K) (Mc.meI K) (He.ga K "InvalidKinds")
  x_InvalidWires : Mc.MeCls K (Mc.meD K) (Mc.meI K) (He.ga K "InvalidWires")
  x_InvalidPort : Mc.MeCls K (Mc.meD K) (Mc.meI K) (He.ga K "InvalidPort")
  x_InvalidPairs : Mc.MeCls K (Mc.meD K) (Mc.meI K) (He.ga K "InvalidPairs")
  x_InvalidNet : Mc.MeCls K (Mc.meD K) (Mc.meI K) (He.ga K "InvalidNet")
  x_TooLarge : Mc.MeCls K (Mc.meD K) (Mc.meI K) (He.ga K "TooLarge")
  e_MeetcellsError_MeetcellsError : PySem.W.exmOne K (.ref (He.ga K "MeetcellsError")) (.ref (He.ga K "MeetcellsError")) = some true
  e_InvalidNumber_MeetcellsError : PySem.W.exmOne K (.ref (He.ga K "InvalidNumber")) (.ref (He.ga K "MeetcellsError")) = some true
  e_InvalidNumber_InvalidNumber : PySem.W.exmOne K (.ref (He.ga K "InvalidNumber")) (.ref (He.ga K "InvalidNumber")) = some true
  e_InvalidKinds_MeetcellsError : PySem.W.exmOne K (.ref (He.ga K "InvalidKinds")) (.ref (He.ga K "MeetcellsError")) = some true
  e_InvalidKinds_InvalidKinds : PySem.W.exmOne K (.ref (He.ga K "InvalidKinds")) (.ref (He.ga K "InvalidKinds")) = some true
  e_InvalidWires_MeetcellsError : PySem.W.exmOne K (.ref (He.ga K "InvalidWires")) (.ref (He.ga K "MeetcellsError")) = some true
  e_InvalidWires_InvalidWires : PySem.W.exmOne K (.ref (He.ga K "InvalidWires")) (.ref (He.ga K "InvalidWires")) = some true
  e_InvalidPort_MeetcellsError : PySem.W.exmOne K (.ref (He.ga K "InvalidPort")) (.ref (He.ga K "MeetcellsError")) = some true
  e_InvalidPort_InvalidPort : PySem.W.exmOne K (.ref (He.ga K "InvalidPort")) (.ref (He.ga K "InvalidPort")) = some true
  e_InvalidPairs_MeetcellsError : PySem.W.exmOne K (.ref (He.ga K "InvalidPairs")) (.ref (He.ga K "MeetcellsError")) = some true
  e_InvalidPairs_InvalidPairs : PySem.W.exmOne K (.ref (He.ga K "InvalidPairs")) (.ref (He.ga K "InvalidPairs")) = some true
  e_InvalidNet_MeetcellsError : PySem.W.exmOne K (.ref (He.ga K "InvalidNet")) (.ref (He.ga K "MeetcellsError")) = some true
  e_InvalidNet_InvalidNet : PySem.W.exmOne K (.ref (He.ga K "InvalidNet")) (.ref (He.ga K "InvalidNet")) = some true
  e_TooLarge_MeetcellsError : PySem.W.exmOne K (.ref (He.ga K "TooLarge")) (.ref (He.ga K "MeetcellsError")) = some true
  e_TooLarge_TooLarge : PySem.W.exmOne K (.ref (He.ga K "TooLarge")) (.ref (He.ga K "TooLarge")) = some true
theorem txt_mk {P : Program} {w : World} {K : PySem.W.Frag} {h : Heap} {mg : Str → Option Value} (hP : P = PySem.Challenge.pw_meetcells_k30_rings_of_nets) (X : K.In h) (G : h.Ns mainGlobals mg) (c : Mc.SaysM fa fn tabs s_me ex w K) : Txt P w K mg := by
  subst hP
  have m_len : mg "len" = none := He.free_ok X G (c.t.d.fact 43 rfl)
  have m_range : mg "range" = none := He.free_ok X G (c.t.d.fact 44 rfl)
  have m_repr : mg "repr" = none := He.free_ok X G (c.t.d.fact 45 rfl)
  have m_isinstance : mg "isinstance" = none := He.free_ok X G (c.t.d.fact 46 rfl)
  have m_max : mg "max" = none := He.free_ok X G (c.t.d.fact 47 rfl)
  have m_min : mg "min" = none := He.free_ok X G (c.t.d.fact 48 rfl)
  have m_int : mg "int" = none := He.free_ok X G (c.t.d.fact 49 rfl)
  have m_str : mg "str" = none := He.free_ok X G (c.t.d.fact 50 rfl)
  have m_tuple : mg "tuple" = none := He.free_ok X G (c.t.d.fact 51 rfl)
  have m_list : mg "list" = none := He.free_ok X G (c.t.d.fact 52 rfl)
  have m_sorted : mg "sorted" = none := He.free_ok X G (c.t.d.fact 53 rfl)
  have m_enumerate : mg "enumerate" = none := He.free_ok X G (c.t.d.fact 54 rfl)
  have m_super : mg "super" = none := He.free_ok X G (c.t.d.fact 55 rfl)
  have m_bool : mg "bool" = none := He.free_ok X G (c.t.d.fact 56 rfl)
  have m_set : mg "set" = none := He.free_ok X G (c.t.d.fact 57 rfl)
  have g__wall : mg "_wall" = some (.ref (He.ga K "_wall")) := He.glo_ok X G (c.t.d.fact 0 rfl)
  have f__wall : ∃ fd, FunD K "_wall" "_wall" (defArgs s__wall) (defBody s__wall) (defScope s__wall) [] [] (He.ga K "_wall") fd := c.t.d.def_ 0 (d := d__wall) rfl
  have k__wall : PySem.W.keepIn K (.ref (He.ga K "_wall")) = true := f__wall.choose_spec.kp
  have g_search : mg "search" = some (.ref (He.ga K "search")) := He.glo_ok X G (c.t.d.fact 1 rfl)
  have f_search : ∃ fd, FunD K "search" "search" (defArgs s_search) (defBody s_search) (defScope s_search) [] [] (He.ga K "search") fd := c.t.d.def_ 1 (d := d_search) rfl
  have k_search : PySem.W.keepIn K (.ref (He.ga K "search")) = true := f_search.choose_spec.kp
  have g_rows_from : mg "rows_from" = some (.ref (He.ga K "rows_from")) := He.glo_ok X G (c.t.d.fact 2 rfl)
  have f_rows_from : ∃ fd, FunD K "rows_from" "rows_from" (defArgs s_rows_from) (defBody s_rows_from) (defScope s_rows_from) [] [] (He.ga K "rows_from") fd := c.t.d.def_ 2 (d := d_rows_from) rfl
  have k_rows_from : PySem.W.keepIn K (.ref (He.ga K "rows_from")) = true := f_rows_from.choose_spec.kp
  have g_least_part : mg "least_part" = some (.ref (He.ga K "least_part")) := He.glo_ok X G (c.t.d.fact 3 rfl)
  have f_least_part : ∃ fd, FunD K "least_part" "least_part" (defArgs s_least_part) (defBody s_least_part) (defScope s_least_part) [] [] (He.ga K "least_part") fd := c.t.d.def_ 3 (d := d_least_part) rfl
  have k_least_part : PySem.W.keepIn K (.ref (He.ga K "least_part")) = true := f_least_part.choose_spec.kp
  have g_normal_order : mg "normal_order" = some (.ref (He.ga K "normal_order")) := He.glo_ok X G (c.t.d.fact 4 rfl)
  have f_normal_order : ∃ fd, FunD K "normal_order" "normal_order" (defArgs s_normal_order) (defBody s_normal_order) (defScope s_normal_order) [] [] (He.ga K "normal_order") fd := c.t.d.def_ 4 (d := d_normal_order) rfl
  have k_normal_order : PySem.W.keepIn K (.ref (He.ga K "normal_order")) = true := f_normal_order.choose_spec.kp
  have g_is_integer : mg "is_integer" = some (.ref (He.ga K "is_integer")) := He.glo_ok X G (c.t.d.fact 5 rfl)
  have f_is_integer : ∃ fd, FunD K "is_integer" "is_integer" (defArgs s_is_integer) (defBody s_is_integer) (defScope s_is_integer) [] [] (He.ga K "is_integer") fd := c.t.d.def_ 5 (d := d_is_integer) rfl
  have k_is_integer : PySem.W.keepIn K (.ref (He.ga K "is_integer")) = true := f_is_integer.choose_spec.kp
  have g_is_color : mg "is_color" = some (.ref (He.ga K "is_color")) := He.glo_ok X G (c.t.d.fact 6 rfl)
  have f_is_color : ∃ fd, FunD K "is_color" "is_color" (defArgs s_is_color) (defBody s_is_color) (defScope s_is_color) [] [] (He.ga K "is_color") fd := c.t.d.def_ 6 (d := d_is_color) rfl
  have k_is_color : PySem.W.keepIn K (.ref (He.ga K "is_color")) = true := f_is_color.choose_spec.kp
  have g_is_kind : mg "is_kind" = some (.ref (He.ga K "is_kind")) := He.glo_ok X G (c.t.d.fact 7 rfl)
  have f_is_kind : ∃ fd, FunD K "is_kind" "is_kind" (defArgs s_is_kind) (defBody s_is_kind) (defScope s_is_kind) [] [] (He.ga K "is_kind") fd := c.t.d.def_ 7 (d := d_is_kind) rfl
  have k_is_kind : PySem.W.keepIn K (.ref (He.ga K "is_kind")) = true := f_is_kind.choose_spec.kp
  have g_is_port : mg "is_port" = some (.ref (He.ga K "is_port")) := He.glo_ok X G (c.t.d.fact 8 rfl)
  have f_is_port : ∃ fd, FunD K "is_port" "is_port" (defArgs s_is_port) (defBody s_is_port) (defScope s_is_port) [] [] (He.ga K "is_port") fd := c.t.d.def_ 8 (d := d_is_port) rfl
  have k_is_port : PySem.W.keepIn K (.ref (He.ga K "is_port")) = true := f_is_port.choose_spec.kp
  have g_check_kinds : mg "check_kinds" = some (.ref (He.ga K "check_kinds")) := He.glo_ok X G (c.t.d.fact 9 rfl)
  have f_check_kinds : ∃ fd, FunD K "check_kinds" "check_kinds" (defArgs s_check_kinds) (defBody s_check_kinds) (defScope s_check_kinds) [] [] (He.ga K "check_kinds") fd := c.t.d.def_ 9 (d := d_check_kinds) rfl
  have k_check_kinds : PySem.W.keepIn K (.ref (He.ga K "check_kinds")) = true := f_check_kinds.choose_spec.kp
  have g_is_wire : mg "is_wire" = some (.ref (He.ga K "is_wire")) := He.glo_ok X G (c.t.d.fact 10 rfl)
  have f_is_wire : ∃ fd, FunD K "is_wire" "is_wire" (defArgs s_is_wire) (defBody s_is_wire) (defScope s_is_wire) [] [] (He.ga K "is_wire") fd := c.t.d.def_ 10 (d := d_is_wire) rfl
  have k_is_wire : PySem.W.keepIn K (.ref (He.ga K "is_wire")) = true := f_is_wire.choose_spec.kp
  have g_check_wires : mg "check_wires" = some (.ref (He.ga K "check_wires")) := He.glo_ok X G (c.t.d.fact 11 rfl)
  have f_check_wires : ∃ fd, FunD K "check_wires" "check_wires" (defArgs s_check_wires) (defBody s_check_wires) (defScope s_check_wires) [] [] (He.ga K "check_wires") fd := c.t.d.def_ 11 (d := d_check_wires) rfl
  have k_check_wires : PySem.W.keepIn K (.ref (He.ga K "check_wires")) = true := f_check_wires.choose_spec.kp
  have g_check_counts : mg "check_counts" = some (.ref (He.ga K "check_counts")) := He.glo_ok X G (c.t.d.fact 12 rfl)
  have f_check_counts : ∃ fd, FunD K "check_counts" "check_counts" (defArgs s_check_counts) (defBody s_check_counts) (defScope s_check_counts) [] [] (He.ga K "check_counts") fd := c.t.d.def_ 12 (d := d_check_counts) rfl
  have k_check_counts : PySem.W.keepIn K (.ref (He.ga K "check_counts")) = true := f_check_counts.choose_spec.kp
  have g_all_ports : mg "all_ports" = some (.ref (He.ga K "all_ports")) := He.glo_ok X G (c.t.d.fact 13 rfl)
  have f_all_ports : ∃ fd, FunD K "all_ports" "all_ports" (defArgs s_all_ports) (defBody s_all_ports) (defScope s_all_ports) [] [] (He.ga K "all_ports") fd := c.t.d.def_ 13 (d := d_all_ports) rfl
  have k_all_ports : PySem.W.keepIn K (.ref (He.ga K "all_ports")) = true := f_all_ports.choose_spec.kp
  have g_linked : mg "linked" = some (.ref (He.ga K "linked")) := He.glo_ok X G (c.t.d.fact 14 rfl)
  have f_linked : ∃ fd, FunD K "linked" "linked" (defArgs s_linked) (defBody s_linked) (defScope s_linked) [] [] (He.ga K "linked") fd := c.t.d.def_ 14 (d := d_linked) rfl
  have k_linked : PySem.W.keepIn K (.ref (He.ga K "linked")) = true := f_linked.choose_spec.kp
  have g_is_pair : mg "is_pair" = some (.ref (He.ga K "is_pair")) := He.glo_ok X G (c.t.d.fact 15 rfl)
  have f_is_pair : ∃ fd, FunD K "is_pair" "is_pair" (defArgs s_is_pair) (defBody s_is_pair) (defScope s_is_pair) [] [] (He.ga K "is_pair") fd := c.t.d.def_ 15 (d := d_is_pair) rfl
  have k_is_pair : PySem.W.keepIn K (.ref (He.ga K "is_pair")) = true := f_is_pair.choose_spec.kp
  have g_renumbered : mg "renumbered" = some (.ref (He.ga K "renumbered")) := He.glo_ok X G (c.t.d.fact 16 rfl)
  have f_renumbered : ∃ fd, FunD K "renumbered" "renumbered" (defArgs s_renumbered) (defBody s_renumbered) (defScope s_renumbered) [] [] (He.ga K "renumbered") fd := c.t.d.def_ 16 (d := d_renumbered) rfl
  have k_renumbered : PySem.W.keepIn K (.ref (He.ga K "renumbered")) = true := f_renumbered.choose_spec.kp
  have g_moved : mg "moved" = some (.ref (He.ga K "moved")) := He.glo_ok X G (c.t.d.fact 17 rfl)
  have f_moved : ∃ fd, FunD K "moved" "moved" (defArgs s_moved) (defBody s_moved) (defScope s_moved) [] [] (He.ga K "moved") fd := c.t.d.def_ 17 (d := d_moved) rfl
  have k_moved : PySem.W.keepIn K (.ref (He.ga K "moved")) = true := f_moved.choose_spec.kp
  have g_check_pairs : mg "check_pairs" = some (.ref (He.ga K "check_pairs")) := He.glo_ok X G (c.t.d.fact 18 rfl)
  have f_check_pairs : ∃ fd, FunD K "check_pairs" "check_pairs" (defArgs s_check_pairs) (defBody s_check_pairs) (defScope s_check_pairs) [] [] (He.ga K "check_pairs") fd := c.t.d.def_ 18 (d := d_check_pairs) rfl
  have k_check_pairs : PySem.W.keepIn K (.ref (He.ga K "check_pairs")) = true := f_check_pairs.choose_spec.kp
  have g_active_pairs : mg "active_pairs" = some (.ref (He.ga K "active_pairs")) := He.glo_ok X G (c.t.d.fact 19 rfl)
  have f_active_pairs : ∃ fd, FunD K "active_pairs" "active_pairs" (defArgs s_active_pairs) (defBody s_active_pairs) (defScope s_active_pairs) [] [] (He.ga K "active_pairs") fd := c.t.d.def_ 19 (d := d_active_pairs) rfl
  have k_active_pairs : PySem.W.keepIn K (.ref (He.ga K "active_pairs")) = true := f_active_pairs.choose_spec.kp
  have g_is_reduced : mg "is_reduced" = some (.ref (He.ga K "is_reduced")) := He.glo_ok X G (c.t.d.fact 20 rfl)
  have f_is_reduced : ∃ fd, FunD K "is_reduced" "is_reduced" (defArgs s_is_reduced) (defBody s_is_reduced) (defScope s_is_reduced) [] [] (He.ga K "is_reduced") fd := c.t.d.def_ 20 (d := d_is_reduced) rfl
  have k_is_reduced : PySem.W.keepIn K (.ref (He.ga K "is_reduced")) = true := f_is_reduced.choose_spec.kp
  have g_led_on : mg "led_on" = some (.ref (He.ga K "led_on")) := He.glo_ok X G (c.t.d.fact 21 rfl)
  have f_led_on : ∃ fd, FunD K "led_on" "led_on" (defArgs s_led_on) (defBody s_led_on) (defScope s_led_on) [] [] (He.ga K "led_on") fd := c.t.d.def_ 21 (d := d_led_on) rfl
  have k_led_on : PySem.W.keepIn K (.ref (He.ga K "led_on")) = true := f_led_on.choose_spec.kp
  have g_rings : mg "rings" = some (.ref (He.ga K "rings")) := He.glo_ok X G (c.t.d.fact 22 rfl)
  have f_rings : ∃ fd, FunD K "rings" "rings" (defArgs s_rings) (defBody s_rings) (defScope s_rings) [] [] (He.ga K "rings") fd := c.t.d.def_ 22 (d := d_rings) rfl
  have k_rings : PySem.W.keepIn K (.ref (He.ga K "rings")) = true := f_rings.choose_spec.kp
  have g__law_cell : mg "_law_cell" = some (.ref (He.ga K "_law_cell")) := He.glo_ok X G (c.t.d.fact 23 rfl)
  have f__law_cell : ∃ fd, FunD K "_law_cell" "_law_cell" (defArgs s__law_cell) (defBody s__law_cell) (defScope s__law_cell) [] [] (He.ga K "_law_cell") fd := c.t.d.def_ 23 (d := d__law_cell) rfl
  have k__law_cell : PySem.W.keepIn K (.ref (He.ga K "_law_cell")) = true := f__law_cell.choose_spec.kp
  have g__law_box : mg "_law_box" = some (.ref (He.ga K "_law_box")) := He.glo_ok X G (c.t.d.fact 24 rfl)
  have f__law_box : ∃ fd, FunD K "_law_box" "_law_box" (defArgs s__law_box) (defBody s__law_box) (defScope s__law_box) [] [] (He.ga K "_law_box") fd := c.t.d.def_ 24 (d := d__law_box) rfl
  have k__law_box : PySem.W.keepIn K (.ref (He.ga K "_law_box")) = true := f__law_box.choose_spec.kp
  have g__law_take : mg "_law_take" = some (.ref (He.ga K "_law_take")) := He.glo_ok X G (c.t.d.fact 25 rfl)
  have f__law_take : ∃ fd, FunD K "_law_take" "_law_take" (defArgs s__law_take) (defBody s__law_take) (defScope s__law_take) [] [] (He.ga K "_law_take") fd := c.t.d.def_ 25 (d := d__law_take) rfl
  have k__law_take : PySem.W.keepIn K (.ref (He.ga K "_law_take")) = true := f__law_take.choose_spec.kp
  have g__law_ports : mg "_law_ports" = some (.ref (He.ga K "_law_ports")) := He.glo_ok X G (c.t.d.fact 26 rfl)
  have f__law_ports : ∃ fd, FunD K "_law_ports" "_law_ports" (defArgs s__law_ports) (defBody s__law_ports) (defScope s__law_ports) [] [] (He.ga K "_law_ports") fd := c.t.d.def_ 26 (d := d__law_ports) rfl
  have k__law_ports : PySem.W.keepIn K (.ref (He.ga K "_law_ports")) = true := f__law_ports.choose_spec.kp
  have g__law_net : mg "_law_net" = some (.ref (He.ga K "_law_net")) := He.glo_ok X G (c.t.d.fact 27 rfl)
  have f__law_net : ∃ fd, FunD K "_law_net" "_law_net" (defArgs s__law_net) (defBody s__law_net) (defScope s__law_net) [] [] (He.ga K "_law_net") fd := c.t.d.def_ 27 (d := d__law_net) rfl
  have k__law_net : PySem.W.keepIn K (.ref (He.ga K "_law_net")) = true := f__law_net.choose_spec.kp
  have g__law_across : mg "_law_across" = some (.ref (He.ga K "_law_across")) := He.glo_ok X G (c.t.d.fact 28 rfl)
  have f__law_across : ∃ fd, FunD K "_law_across" "_law_across" (defArgs s__law_across) (defBody s__law_across) (defScope s__law_across) [] [] (He.ga K "_law_across") fd := c.t.d.def_ 28 (d := d__law_across) rfl
  have k__law_across : PySem.W.keepIn K (.ref (He.ga K "_law_across")) = true := f__law_across.choose_spec.kp
  have g__law_reduced : mg "_law_reduced" = some (.ref (He.ga K "_law_reduced")) := He.glo_ok X G (c.t.d.fact 29 rfl)
  have f__law_reduced : ∃ fd, FunD K "_law_reduced" "_law_reduced" (defArgs s__law_reduced) (defBody s__law_reduced) (defScope s__law_reduced) [] [] (He.ga K "_law_reduced") fd := c.t.d.def_ 29 (d := d__law_reduced) rfl
  have k__law_reduced : PySem.W.keepIn K (.ref (He.ga K "_law_reduced")) = true := f__law_reduced.choose_spec.kp
  have g__law_due : mg "_law_due" = some (.ref (He.ga K "_law_due")) := He.glo_ok X G (c.t.d.fact 30 rfl)
  have f__law_due : ∃ fd, FunD K "_law_due" "_law_due" (defArgs s__law_due) (defBody s__law_due) (defScope s__law_due) [] [] (He.ga K "_law_due") fd := c.t.d.def_ 30 (d := d__law_due) rfl
  have k__law_due : PySem.W.keepIn K (.ref (He.ga K "_law_due")) = true := f__law_due.choose_spec.kp
  have g_law : mg "law" = some (.ref (He.ga K "law")) := He.glo_ok X G (c.t.d.fact 31 rfl)
  have f_law : ∃ fd, FunD K "law" "law" (defArgs s_law) (defBody s_law) (defScope s_law) [] [] (He.ga K "law") fd := c.t.d.def_ 31 (d := d_law) rfl
  have k_law : PySem.W.keepIn K (.ref (He.ga K "law")) = true := f_law.choose_spec.kp
  have g_MeetcellsError : mg "MeetcellsError" = some (.ref (He.ga K "MeetcellsError")) := He.glo_ok X G (c.t.d.fact 32 rfl)
  have g_InvalidNumber : mg "InvalidNumber" = some (.ref (He.ga K "InvalidNumber")) := He.glo_ok X G (c.t.d.fact 33 rfl)
  have g_InvalidKinds : mg "InvalidKinds" = some (.ref (He.ga K "InvalidKinds")) := He.glo_ok X G (c.t.d.fact 34 rfl)
  have g_InvalidWires : mg "InvalidWires" = some (.ref (He.ga K "InvalidWires")) := He.glo_ok X G (c.t.d.fact 35 rfl)
  have g_InvalidPort : mg "InvalidPort" = some (.ref (He.ga K "InvalidPort")) := He.glo_ok X G (c.t.d.fact 36 rfl)
  have g_InvalidPairs : mg "InvalidPairs" = some (.ref (He.ga K "InvalidPairs")) := He.glo_ok X G (c.t.d.fact 37 rfl)
  have g_InvalidNet : mg "InvalidNet" = some (.ref (He.ga K "InvalidNet")) := He.glo_ok X G (c.t.d.fact 38 rfl)
  have g_TooLarge : mg "TooLarge" = some (.ref (He.ga K "TooLarge")) := He.glo_ok X G (c.t.d.fact 39 rfl)
  have g_Net : mg "Net" = some (.ref (He.ga K "Net")) := He.glo_ok X G (c.t.d.fact 40 rfl)
  have cl_Net : Cls K (He.ga K "Net") := He.cls_ok (c.t.d.fact 60 rfl)
  have mk_Net : Mk K (He.ga K "Net") (He.ma K (He.ga K "Net") "__init__") := He.mkr_ok (c.t.d.fact 61 rfl)
  have n_Net_kinds : NoAttr K (He.ga K "Net") "kinds" := He.noat_ok (c.t.d.fact 62 rfl)
  have n_Net_links : NoAttr K (He.ga K "Net") "links" := He.noat_ok (c.t.d.fact 63 rfl)
  have n_Net_wires : NoAttr K (He.ga K "Net") "wires" := He.noat_ok (c.t.d.fact 64 rfl)
  have n_Net_ends : NoAttr K (He.ga K "Net") "ends" := He.noat_ok (c.t.d.fact 65 rfl)
  have n_Net_loops : NoAttr K (He.ga K "Net") "loops" := He.noat_ok (c.t.d.fact 66 rfl)
  have f_Net___init__ : ∃ fd, FunD K "__init__" "Net.__init__" (defArgs s_Net___init__) (defBody s_Net___init__) (defScope s_Net___init__) [] [("ends", .int (0)), ("loops", .int (0))] (He.ma K (He.ga K "Net") "__init__") fd := c.t.d.def_ 32 (d := d_Net___init__) rfl
  have me_Net___len__ : Meth K (He.ga K "Net") "__len__" (He.ma K (He.ga K "Net") "__len__") := He.meth_ok (c.t.d.fact 67 rfl)
  have f_Net___len__ : ∃ fd, FunD K "__len__" "Net.__len__" (defArgs s_Net___len__) (defBody s_Net___len__) (defScope s_Net___len__) [] [] (He.ma K (He.ga K "Net") "__len__") fd := c.t.d.def_ 33 (d := d_Net___len__) rfl
  have me_Net___eq__ : Meth K (He.ga K "Net") "__eq__" (He.ma K (He.ga K "Net") "__eq__") := He.meth_ok (c.t.d.fact 68 rfl)
  have f_Net___eq__ : ∃ fd, FunD K "__eq__" "Net.__eq__" (defArgs s_Net___eq__) (defBody s_Net___eq__) (defScope s_Net___eq__) [] [] (He.ma K (He.ga K "Net") "__eq__") fd := c.t.d.def_ 34 (d := d_Net___eq__) rfl
  have me_Net___contains__ : Meth K (He.ga K "Net") "__contains__" (He.ma K (He.ga K "Net") "__contains__") := He.meth_ok (c.t.d.fact 69 rfl)
  have f_Net___contains__ : ∃ fd, FunD K "__contains__" "Net.__contains__" (defArgs s_Net___contains__) (defBody s_Net___contains__) (defScope s_Net___contains__) [] [] (He.ma K (He.ga K "Net") "__contains__") fd := c.t.d.def_ 35 (d := d_Net___contains__) rfl
  have me_Net___getitem__ : Meth K (He.ga K "Net") "__getitem__" (He.ma K (He.ga K "Net") "__getitem__") := He.meth_ok (c.t.d.fact 70 rfl)
  have f_Net___getitem__ : ∃ fd, FunD K "__getitem__" "Net.__getitem__" (defArgs s_Net___getitem__) (defBody s_Net___getitem__) (defScope s_Net___getitem__) [] [] (He.ma K (He.ga K "Net") "__getitem__") fd := c.t.d.def_ 36 (d := d_Net___getitem__) rfl
  have me_Net___iter__ : Meth K (He.ga K "Net") "__iter__" (He.ma K (He.ga K "Net") "__iter__") := He.meth_ok (c.t.d.fact 71 rfl)
  have f_Net___iter__ : ∃ fd, FunD K "__iter__" "Net.__iter__" (defArgs s_Net___iter__) (defBody s_Net___iter__) (defScope s_Net___iter__) [] [] (He.ma K (He.ga K "Net") "__iter__") fd := c.t.d.def_ 37 (d := d_Net___iter__) rfl
  have me_Net___add__ : Meth K (He.ga K "Net") "__add__" (He.ma K (He.ga K "Net") "__add__") := He.meth_ok (c.t.d.fact 72 rfl)
  have f_Net___add__ : ∃ fd, FunD K "__add__" "Net.__add__" (defArgs s_Net___add__) (defBody s_Net___add__) (defScope s_Net___add__) [] [] (He.ma K (He.ga K "Net") "__add__") fd := c.t.d.def_ 38 (d := d_Net___add__) rfl
  have me_Net_parts : Meth K (He.ga K "Net") "parts" (He.ma K (He.ga K "Net") "parts") := He.meth_ok (c.t.d.fact 73 rfl)
  have f_Net_parts : ∃ fd, FunD K "parts" "Net.parts" (defArgs s_Net_parts) (defBody s_Net_parts) (defScope s_Net_parts) [] [] (He.ma K (He.ga K "Net") "parts") fd := c.t.d.def_ 39 (d := d_Net_parts) rfl
  have me_Net_beyond : Meth K (He.ga K "Net") "beyond" (He.ma K (He.ga K "Net") "beyond") := He.meth_ok (c.t.d.fact 74 rfl)
  have f_Net_beyond : ∃ fd, FunD K "beyond" "Net.beyond" (defArgs s_Net_beyond) (defBody s_Net_beyond) (defScope s_Net_beyond) [] [] (He.ma K (He.ga K "Net") "beyond") fd := c.t.d.def_ 40 (d := d_Net_beyond) rfl
  have me_Net_joined : Meth K (He.ga K "Net") "joined" (He.ma K (He.ga K "Net") "joined") := He.meth_ok (c.t.d.fact 75 rfl)
  have f_Net_joined : ∃ fd, FunD K "joined" "Net.joined" (defArgs s_Net_joined) (defBody s_Net_joined) (defScope s_Net_joined) [] [] (He.ma K (He.ga K "Net") "joined") fd := c.t.d.def_ 41 (d := d_Net_joined) rfl
  have me_Net_plugged : Meth K (He.ga K "Net") "plugged" (He.ma K (He.ga K "Net") "plugged") := He.meth_ok (c.t.d.fact 76 rfl)
  have f_Net_plugged : ∃ fd, FunD K "plugged" "Net.plugged" (defArgs s_Net_plugged) (defBody s_Net_plugged) (defScope s_Net_plugged) [] [] (He.ma K (He.ga K "Net") "plugged") fd := c.t.d.def_ 42 (d := d_Net_plugged) rfl
  have me_Net_reordered : Meth K (He.ga K "Net") "reordered" (He.ma K (He.ga K "Net") "reordered") := He.meth_ok (c.t.d.fact 77 rfl)
  have f_Net_reordered : ∃ fd, FunD K "reordered" "Net.reordered" (defArgs s_Net_reordered) (defBody s_Net_reordered) (defScope s_Net_reordered) [] [] (He.ma K (He.ga K "Net") "reordered") fd := c.t.d.def_ 43 (d := d_Net_reordered) rfl
  have i_MOST_CELLS : ∃ t, mg "MOST_CELLS" = some (.int 1000 t) := He.int_ok X G (c.t.d.fact 58 rfl)
  have i_MOST_ENDS : ∃ t, mg "MOST_ENDS" = some (.int 12 t) := He.int_ok X G (c.t.d.fact 59 rfl)
  have hx := c.x
  obtain ⟨b_in, hx⟩ := He.ba hx
  obtain ⟨b_MeetcellsError, hx⟩ := He.ba hx
  obtain ⟨b_InvalidNumber, hx⟩ := He.ba hx
  obtain ⟨b_InvalidKinds, hx⟩ := He.ba hx
  obtain ⟨b_InvalidWires, hx⟩ := He.ba hx
  obtain ⟨b_InvalidPort, hx⟩ := He.ba hx
  obtain ⟨b_InvalidPairs, hx⟩ := He.ba hx
  obtain ⟨b_InvalidNet, hx⟩ := He.ba hx
  obtain ⟨b_TooLarge, hx⟩ := He.ba hx
  obtain ⟨b_COLORS, hx⟩ := He.ba hx
  have b_PORTS := hx
  have g_COLORS : mg "COLORS" = some (.ref (He.ga K "COLORS")) := He.glo_ok X G (c.t.d.fact 41 rfl)
  have t_COLORS : ∀ H, SqT K H (He.ga K "COLORS") [.str "red", .str "blue"] := fun H => He.tupB_ok b_COLORS H
  have g_PORTS : mg "PORTS" = some (.ref (He.ga K "PORTS")) := He.glo_ok X G (c.t.d.fact 42 rfl)
  have kd_PORTS : ∃ es n, KDict K w (He.ga K "PORTS") es n := c.t.tab 0 rfl
  have kv_PORTS : ∀ q ∈ ([("red", .int (3)), ("blue", .int (3)), ("eraser", .int (1))] : List (Str × He.Dv)), ∃ u, PySem.W.nsIn K (He.ga K "PORTS") q.1 = some (some u) ∧ RelV (q.2.v K) u := fun q hq => He.valsB_ok b_PORTS hq
  have me : Mc.MeInit PySem.Challenge.pw_meetcells_k30_rings_of_nets K (Mc.meD K) (Mc.meI K) := Mc.meInit_ok (P := PySem.Challenge.pw_meetcells_k30_rings_of_nets) (st := s_me) c.i b_in rfl rfl rfl (fun env => ⟨_, rfl⟩) rfl
  have x_MeetcellsError : Mc.MeCls K (Mc.meD K) (Mc.meI K) (He.ga K "MeetcellsError") := Mc.meCls_ok b_MeetcellsError
  have x_InvalidNumber : Mc.MeCls K (Mc.meD K) (Mc.meI K) (He.ga K "InvalidNumber") := Mc.meCls_ok b_InvalidNumber
  have x_InvalidKinds : Mc.MeCls K (Mc.meD K) (Mc.meI K) (He.ga K "InvalidKinds") := Mc.meCls_ok b_InvalidKinds
  have x_InvalidWires : Mc.MeCls K (Mc.meD K) (Mc.meI K) (He.ga K "InvalidWires") := Mc.meCls_ok b_InvalidWires
  have x_InvalidPort : Mc.MeCls K (Mc.meD K) (Mc.meI K) (He.ga K "InvalidPort") := Mc.meCls_ok b_InvalidPort
  have x_InvalidPairs : Mc.MeCls K (Mc.meD K) (Mc.meI K) (He.ga K "InvalidPairs") := Mc.meCls_ok b_InvalidPairs
  have x_InvalidNet : Mc.MeCls K (Mc.meD K) (Mc.meI K) (He.ga K "InvalidNet") := Mc.meCls_ok b_InvalidNet
  have x_TooLarge : Mc.MeCls K (Mc.meD K) (Mc.meI K) (He.ga K "TooLarge") := Mc.meCls_ok b_TooLarge
  have e_MeetcellsError_MeetcellsError : PySem.W.exmOne K (.ref (He.ga K "MeetcellsError")) (.ref (He.ga K "MeetcellsError")) = some true := He.exm_ok (c.t.d.fact 78 rfl)
  have e_InvalidNumber_MeetcellsError : PySem.W.exmOne K (.ref (He.ga K "InvalidNumber")) (.ref (He.ga K "MeetcellsError")) = some true := He.exm_ok (c.t.d.fact 79 rfl)
  have e_InvalidNumber_InvalidNumber : PySem.W.exmOne K (.ref (He.ga K "InvalidNumber")) (.ref (He.ga K "InvalidNumber")) = some true := He.exm_ok (c.t.d.fact 80 rfl)
  have e_InvalidKinds_MeetcellsError : PySem.W.exmOne K (.ref (He.ga K "InvalidKinds")) (.ref (He.ga K "MeetcellsError")) = some true := He.exm_ok (c.t.d.fact 81 rfl)
  have e_InvalidKinds_InvalidKinds : PySem.W.exmOne K (.ref (He.ga K "InvalidKinds")) (.ref (He.ga K "InvalidKinds")) = some true := He.exm_ok (c.t.d.fact 82 rfl)
  have e_InvalidWires_MeetcellsError : PySem.W.exmOne K (.ref (He.ga K "InvalidWires")) (.ref (He.ga K "MeetcellsError")) = some true := He.exm_ok (c.t.d.fact 83 rfl)
  have e_InvalidWires_InvalidWires : PySem.W.exmOne K (.ref (He.ga K "InvalidWires")) (.ref (He.ga K "InvalidWires")) = some true := He.exm_ok (c.t.d.fact 84 rfl)
  have e_InvalidPort_MeetcellsError : PySem.W.exmOne K (.ref (He.ga K "InvalidPort")) (.ref (He.ga K "MeetcellsError")) = some true := He.exm_ok (c.t.d.fact 85 rfl)
  have e_InvalidPort_InvalidPort : PySem.W.exmOne K (.ref (He.ga K "InvalidPort")) (.ref (He.ga K "InvalidPort")) = some true := He.exm_ok (c.t.d.fact 86 rfl)
  have e_InvalidPairs_MeetcellsError : PySem.W.exmOne K (.ref (He.ga K "InvalidPairs")) (.ref (He.ga K "MeetcellsError")) = some true := He.exm_ok (c.t.d.fact 87 rfl)
  have e_InvalidPairs_InvalidPairs : PySem.W.exmOne K (.ref (He.ga K "InvalidPairs")) (.ref (He.ga K "InvalidPairs")) = some true := He.exm_ok (c.t.d.fact 88 rfl)
  have e_InvalidNet_MeetcellsError : PySem.W.exmOne K (.ref (He.ga K "InvalidNet")) (.ref (He.ga K "MeetcellsError")) = some true := He.exm_ok (c.t.d.fact 89 rfl)
  have e_InvalidNet_InvalidNet : PySem.W.exmOne K (.ref (He.ga K "InvalidNet")) (.ref (He.ga K "InvalidNet")) = some true := He.exm_ok (c.t.d.fact 90 rfl)
  have e_TooLarge_MeetcellsError : PySem.W.exmOne K (.ref (He.ga K "TooLarge")) (.ref (He.ga K "MeetcellsError")) = some true := He.exm_ok (c.t.d.fact 91 rfl)
  have e_TooLarge_TooLarge : PySem.W.exmOne K (.ref (He.ga K "TooLarge")) (.ref (He.ga K "TooLarge")) = some true := He.exm_ok (c.t.d.fact 92 rfl)
  exact ⟨m_len, m_range, m_repr, m_isinstance, m_max, m_min, m_int, m_str, m_tuple, m_list, m_sorted, m_enumerate, m_super, m_bool, m_set, g__wall, f__wall, k__wall, g_search, f_search, k_search, g_rows_from, f_rows_from, k_rows_from, g_least_part, f_least_part, k_least_part, g_normal_order, f_normal_order, k_normal_order, g_is_integer, f_is_integer, k_is_integer, g_is_color, f_is_color, k_is_color, g_is_kind, f_is_kind, k_is_kind, g_is_port, f_is_port, k_is_port, g_check_kinds, f_check_kinds, k_check_kinds, g_is_wire, f_is_wire, k_is_wire, g_check_wires, f_check_wires, k_check_wires, g_check_counts, f_check_counts, k_check_counts, g_all_ports, f_all_ports, k_all_ports, g_linked, f_linked, k_linked, g_is_pair, f_is_pair, k_is_pair, g_renumbered, f_renumbered, k_renumbered, g_moved, f_moved, k_moved, g_check_pairs, f_check_pairs, k_check_pairs, g_active_pairs, f_active_pairs, k_active_pairs, g_is_reduced, f_is_reduced, k_is_reduced, g_led_on, f_led_on, k_led_on, g_rings, f_rings, k_rings, g__law_cell, f__law_cell, k__law_cell, g__law_box, f__law_box, k__law_box, g__law_take, f__law_take, k__law_take, g__law_ports, f__law_ports, k__law_ports, g__law_net, f__law_net, k__law_net, g__law_across, f__law_across, k__law_across, g__law_reduced, f__law_reduced, k__law_reduced, g__law_due, f__law_due, k__law_due, g_law, f_law, k_law, g_MeetcellsError, g_InvalidNumber, g_InvalidKinds, g_InvalidWires, g_InvalidPort, g_InvalidPairs, g_InvalidNet, g_TooLarge, g_Net, cl_Net, mk_Net, n_Net_kinds, n_Net_links, n_Net_wires, n_Net_ends, n_Net_loops, f_Net___init__, me_Net___len__, f_Net___len__, me_Net___eq__, f_Net___eq__, me_Net___contains__, f_Net___contains__, me_Net___getitem__, f_Net___getitem__, me_Net___iter__, f_Net___iter__, me_Net___add__, f_Net___add__, me_Net_parts, f_Net_parts, me_Net_beyond, f_Net_beyond, me_Net_joined, f_Net_joined, me_Net_plugged, f_Net_plugged, me_Net_reordered, f_Net_reordered, i_MOST_CELLS, i_MOST_ENDS, g_COLORS, t_COLORS, g_PORTS, kd_PORTS, kv_PORTS, me, x_MeetcellsError, x_InvalidNumber, x_InvalidKinds, x_InvalidWires, x_InvalidPort, x_InvalidPairs, x_InvalidNet, x_TooLarge, e_MeetcellsError_MeetcellsError, e_InvalidNumber_MeetcellsError, e_InvalidNumber_InvalidNumber, e_InvalidKinds_MeetcellsError, e_InvalidKinds_InvalidKinds, e_InvalidWires_MeetcellsError, e_InvalidWires_InvalidWires, e_InvalidPort_MeetcellsError, e_InvalidPort_InvalidPort, e_InvalidPairs_MeetcellsError, e_InvalidPairs_InvalidPairs, e_InvalidNet_MeetcellsError, e_InvalidNet_InvalidNet, e_TooLarge_MeetcellsError, e_TooLarge_TooLarge⟩
end Me
/-! McEnd: a law's end, its def promised by FnG. -/
namespace Mc
open PySem PySem.Spec PyProof.Rows L2

/-- the script is tracked, locked, unless it is an object of the written part -/
theorem script_heap {P : Program} {w : World} {K : PySem.W.Frag} {h : Heap} {a : Addr} {vs : List Value} {ns : List Int} (KX : K.In h)
    (ha : h.get? a = some { cls := .type "list", data := .seq vs.toArray }) (hi : IntsAre vs ns) (hl : ns.length ≤ sizeLine) :
    ∃ H : Hp, Only H ∧ SqL K H a (ns.map V.int) ∧ HOk P w H h ∧ ∀ b u, H b = some u → b = a ∧ K.lookup a = none := by
  have rv := vals_ints hi
  have lv := hi.length
  cases hk : K.lookup a with
  | some o =>
    have e := KX a o hk
    rw [ha] at e
    cases e
    refine ⟨fun _ => none, fun _ => Or.inl rfl, Or.inr ⟨_, vs.toArray, _, hk, rfl, rfl, rfl, ?_, ?_⟩, (fun b u z => nomatch (show (none : Option HO) = some u from z)), (fun b u z => nomatch (show (none : Option HO) = some u from z))⟩
    · rw [List.size_toArray, lv]
      exact hl
    · simpa using rv
  | none =>
    have at_a : ∀ o : HO, upd (fun _ => none) a o a = some o := fun o => upd_same
    refine ⟨upd (fun _ => none) a (.frz { cls := .type "list", data := .seq vs.toArray } (.lst (ns.map V.int))), fun b => ?_, Or.inl (Or.inr ⟨_, upd_same⟩), fun b u z => ?_, fun b u z => ?_⟩
    · by_cases hb : b = a
      · subst hb
        exact Or.inr ⟨_, _, upd_same⟩
      · exact Or.inl (upd_ne hb)
    · by_cases hb : b = a
      · subst hb
        rw [upd_same] at z
        cases z
        exact ⟨ha, by rw [List.length_map]; exact hl, vs, _, rv, ha⟩
      · rw [upd_ne hb] at z
        cases z
    · by_cases hb : b = a
      · exact ⟨hb, rfl⟩
      · rw [upd_ne hb] at z
        cases z

theorem law_callG {P : Program} {w : World} {K : PySem.W.Frag} {mg mb : Str → Option Value} {C : CXT} {k : Nat} {fa a : Addr} {sp : Sp} {s : Shared} {vs : List Value} {ns : List Int}
    (KX : K.In s.heap) (hns : s.heap.Ns mainGlobals mg) (hb : s.heap.Ns builtinsNs mb) (hbb : ∀ x : Str, x ≠ "__name__" → mb x = bootBuiltins x) (hlim : s.heap.NoLimit)
    (hg : s.gens = #[]) (ha : s.heap.get? a = some { cls := .type "list", data := .seq vs.toArray }) (hi : IntsAre vs ns) (hl : ns.length ≤ sizeLine) (hr : Room k callerA)
    (F : ∀ base : Heap, K.In base → base.Ns mainGlobals mg → FnG P w K mg base C k fa sp)
    (hsp : ∀ H : Hp, Only H → SqL K H a (ns.map V.int) → sp [.ref a] H (fun v _ => v = .bl true) fun _ _ _ => False)
    (hC : ∀ H e s', C [] H s (fun _ _ _ => False) e s' → False) :
    codeAny (model P w) callerA (.call (.ref fa) ⟨[.ref a], []⟩) (fun r s' => r = .ok (.ret (.bool true)) ∧ OldK s.heap s'.heap ∧ s'.os = s.os ∧ AllBare s'.gens) s := by
  obtain ⟨H, hO, hS, hok, hA⟩ := script_heap (P := P) (w := w) KX ha hi hl
  have dictFree : ∀ {b : Addr} {o : Obj} {es : Array DictEntry} {ep : Nat}, s.heap.get? b = some o → o.data = .dict es ep → H b = none := by
    intro b o es ep e dd
    cases q : H b with
    | none => rfl
    | some u =>
      obtain ⟨rfl, _⟩ := hA b u q
      rw [ha] at e
      cases e
      cases dd
  have ns1 : ∀ {b : Addr} {m : Str → Option Value}, s.heap.Ns b m → (hidT s.heap H).Ns b m := by
    rintro b m ⟨o, es, ep, e, dd, r⟩
    exact ⟨o, es, ep, hidT_get e (dictFree e dd), dd, r⟩
  have kin : K.In (hidT s.heap H) := by
    intro b o e
    refine hidT_get (KX b o e) ?_
    cases q : H b with
    | none => rfl
    | some u =>
      obtain ⟨rfl, z⟩ := hA b u q
      rw [z] at e
      cases e
  obtain ⟨mc, l1, l2⟩ := hlim
  have md : L2.Mod K mg (hidT s.heap H) := ⟨kin, ns1 hns, ⟨mb, ns1 hb, hbb⟩, ⟨mc, ns1 l1, l2⟩⟩
  have e0 : Env0 P w K mg (hidT s.heap H) callerA [] s H :=
    ⟨rfl, md, fun b o e => of_hidT e, Nat.le_of_eq (hidT_size _ _), trivial, (fun b z => nomatch (show b ∈ ([] : List Addr) from z)), hok, AllBare.of_eq hg⟩
  refine codeAny_mono (F _ kin (ns1 hns) callerA [] s H [.ref a] [.ref a] _ _ hr rfl e0 (.cons rfl .nil) (hsp H hO hS)) ?_
  intro r s' h
  cases r with
  | error e => exact (hC H e s' h).elim
  | ok fl =>
    cases fl with
    | next => exact h.elim
    | brk => exact h.elim
    | cont => exact h.elim
    | ret u =>
      obtain ⟨v, H', os, bare, un, hok', rv, q⟩ := h
      have q' : v = .bl true := q
      subst q'
      have eu : u = Value.bool true := rv
      subst eu
      refine ⟨rfl, OldK.of_keep fun b o e => ?_, os, bare⟩
      cases q : H b with
      | none => exact un.keep b o e q (fun z => nomatch (show b ∈ ([] : List Addr) from z)) (fun z => nomatch (show b ∈ ([] : List Addr) from z))
      | some u =>
        rcases hO b with z | ⟨ob, xs, z⟩
        · rw [q] at z
          cases z
        · obtain ⟨e1, _⟩ := hok b _ z
          obtain ⟨e2, _⟩ := hok' b _ (un.frzs b ob _ z)
          rw [e] at e1
          cases e1
          exact e2

/-- a law's end over a head by facts -/
theorem walk_ofG {l : PySem.W.OpenLaw} {n k : Nat} {q : Program} {loose : List Str} {XP : (Str → Option Value) → Heap → Prop} {YP : World → Heap → Prop} {d : DefRec} {C : World → CXT}
    (hn : l.most = some n) (hn2 : n ≤ sizeLine) (hdf : d.params.defaults = []) (hr : Room k callerA)
    (F : ∀ (w : World) (mg : Str → Option Value) (fa : Addr) (h : Heap), YP w h → h.Ns mainGlobals mg → mg d.name = some (.ref fa) →
      ∃ (K : PySem.W.Frag) (sp : Sp), K.In h ∧
        (∀ (H : Hp) (a : Addr) (ns : List Int), ns.length ≤ n → Only H → SqL K H a (ns.map V.int) → sp [.ref a] H (fun v _ => v = .bl true) fun _ _ _ => False) ∧
        ∀ base : Heap, K.In base → base.Ns mainGlobals mg → FnG l.prog w K mg base (C w) k fa sp)
    (hC : ∀ (w : World) (H : Hp) (s : Shared) (e : Value) (s' : Shared), C w [] H s (fun _ _ _ => False) e s' → False) :
    PySem.W.WalkO q loose XP YP l.row.toRowW d [] (fun f vs => PySem.call f vs) := by
  refine Att.attach_call hn hdf ?_
  intro w s₀ s₁ mg mb fa o pm cd doc a vs ns G Y ho hd hcd hmg hobj hints hlen hg
  obtain ⟨K, sp, KX, hsp, hF⟩ := F w mg fa _ Y G.T.g hmg
  exact law_callG KX G.T.g G.T.b G.T.builtins G.T.nolimit hg hobj hints (Nat.le_trans hlen hn2) hr hF (fun H hO hS => hsp H a ns hlen hO hS) fun H e s' => hC w H s₁ e s'
end Mc
/-! McTry: several except clauses, each with a name or without. -/
namespace Mc
open PySem PySem.Spec PyProof.Rows L2

/-- a clause's class, its name's slot (if it has one), its suite's reading -/
abbrev Clause : Type := Value × Option Nat × (Addr → Value → Option Addr → TS)
/-- behind a suite the clause's name is gone -/
def gone (i : Nat) (D : Ends) : Ends where
  nx := fun τ G => D.nx (τ.set i none) G
  rt := D.rt
  bk := fun τ G => D.bk (τ.set i none) G
  ct := fun τ G => D.ct (τ.set i none) G
def wMix (K : PySem.W.Frag) (Wout : WX) (D : Ends) : List Clause → WX
  | [] => Wout
  | (c, none, ts) :: r => fun cls d σ H => ∃ b, PySem.W.exmOne K cls c = some b ∧
      (b = true → ∀ a, H a = none → ts a cls d D σ H) ∧ (b = false → wMix K Wout D r cls d σ H)
  | (c, some i, ts) :: r => fun cls d σ H => ∃ b, PySem.W.exmOne K cls c = some b ∧
      (b = true → ∀ a, H a = none → ts a cls d (gone i D) (σ.set i (some (.ref a))) H) ∧ (b = false → wMix K Wout D r cls d σ H)
/-- a suite by its reading -/
def SuiteOk (X : Cx) (suite : List Stmt) (ts : Addr → Value → Option Addr → TS) : Prop :=
  ∀ (a : Addr) (oe : Obj) (cls : Value) (d : Option Addr) (pn : List (Addr × Obj)), Zc cls d oe → (∃ vs, oe.data = .fields vs) → PSs (X.suite a ((a, oe) :: pn)) suite (ts a cls d)
inductive HdsMix (X : Cx) : List ExceptHandler → List Clause → Prop
  | nil : HdsMix X [] []
  | bare {x : Str} {c : Value} {ts : Addr → Value → Option Addr → TS} {b0 : Stmt} {su : List Stmt} {np hp : Pos} {hds : List ExceptHandler} {l : List Clause}
      (hc : Names X x c) (hsu : SuiteOk X (b0 :: su) ts) (r : HdsMix X hds l) : HdsMix X (.ExceptHandler (some (.Name x np)) none (b0 :: su) hp :: hds) ((c, none, ts) :: l)
  | named {x n : Str} {i : Nat} {c : Value} {ts : Addr → Value → Option Addr → TS} {b0 : Stmt} {su : List Stmt} {np hp : Pos} {hds : List ExceptHandler} {l : List Clause}
      (hi : X.N[i]? = some n) (hl : X.env.kindOf n = some .local) (hc : Names X x c) (hsu : SuiteOk X (b0 :: su) ts) (r : HdsMix X hds l) :
      HdsMix X (.ExceptHandler (some (.Name x np)) (some n) (b0 :: su) hp :: hds) ((c, some i, ts) :: l)

section
variable {X : Cx} {body : List Stmt} {h₀ : ExceptHandler} {hds : List ExceptHandler} {l : List Clause} {pos : Pos} {tb : WX → TS} {Wout : WX}
theorem ps_try_mix (hs : X.stack = X.env :: X.outer) (hf : X.env.frame = some X.env.locals) (hN : X.N.Nodup) (tk : Takes X Wout)
    (hb : ∀ (W : WX) (pn : List (Addr × Obj)) (xe : Value → Shared → Prop), Takes (X.tr pn xe) W → PassesOwn (model X.prog X.w) X.A X.env xe → PSs (X.tr pn xe) body (tb W))
    (hh : HdsMix X (h₀ :: hds) l) : PS X (.Try body (h₀ :: hds) [] [] pos) (fun D σ H => tb (wMix X.K Wout D l) D σ H) := by
  constructor
  intro pins s σ H D I h
  have ok := I.ok
  have hfr : X.A.frames = some (X.env :: X.outer) := hs ▸ ok.frames
  refine wpAny_Try_except ?_
  refine wpAny_mono ((hb (wMix X.K Wout D l) (X.pn ++ pins) (fun e s₁ => wpAny (model X.prog X.w) X.A (noteFrame e X.env) (fun _ s₂ => wpAny (model X.prog X.w) X.A (setFlight e none)
    (fun _ s₃ => wpAny (model X.prog X.w) X.A (handleBy e X.env (h₀ :: hds)) (SP X pins D) X.xe s₃) X.xe s₂) X.xe s₁) ?caught PassesOwn.looking).run [] s σ H D (I.toTry _) h) ?done (fun e s1 he => he)
  case done =>
    intro f s1 hsp
    cases f with
    | ret u =>
      obtain ⟨v, σ', H', J', r, q⟩ := hsp
      exact ⟨v, σ', H', J'.ofTry ok, r, q⟩
    | next =>
      obtain ⟨σ', H', J', q⟩ := hsp
      refine wpAny_execs_nil ⟨σ', H', J'.ofTry ok, q⟩
    | brk =>
      obtain ⟨σ', H', J', q⟩ := hsp
      refine ⟨σ', H', J'.ofTry ok, q⟩
    | cont =>
      obtain ⟨σ', H', J', q⟩ := hsp
      refine ⟨σ', H', J'.ofTry ok, q⟩
  case caught =>
    rintro u s' ⟨a, B, sI, pins', σ', H', cls, d, rfl, J', nb, up, sky, na, os, ag, wish⟩
    have J : Inv X pins σ' H' sI := J'.ofTry ok
    show wpAny (model X.prog X.w) X.A (noteFrame (.ref a) X.env) _ _ _
    refine Sky.land Zc.steady hfr hf (hs ▸ sky) ?_
    intro h3 fl3 up3
    have J3 : Inv X pins σ' H' { s' with heap := h3 } := J.landed nb fl3.1 (up.trans up3) os ag
    obtain ⟨oe3, vs3, he3, hz3, hd3⟩ := fl3.there
    have nfr : a ∉ frs (X.env :: X.outer) := by
      intro hm
      obtain ⟨_, o', e', hnf⟩ := fl3.2.2.1.mem hm
      rw [he3] at e'
      cases e'
      exact hnf _ hd3
    have nL : a ≠ X.env.locals := fun z => nfr (List.mem_filterMap.mpr ⟨X.env, List.mem_cons_self, hf.trans (congrArg some z.symm)⟩)
    have nF : a ∉ X.fs := by
      intro hm
      obtain ⟨e, he, q⟩ := List.mem_filterMap.mp hm
      exact nfr (List.mem_filterMap.mpr ⟨e, List.mem_cons_of_mem _ he, q⟩)
    have S3 := J3.suite he3 hd3 na nL nF
    -- a clause's test
    have test : ∀ {x : Str} {c : Value} {np : Pos} {Q : Value → Shared → Prop} {E : Value → Shared → Prop}, Names X x c → Q c { s' with heap := h3 } →
        wpAny (model X.prog X.w) (X.A.mark (some (.ref a))) (eval (.Name x np) X.env) Q E { s' with heap := h3 } := by
      rintro x c np Q E ⟨hg, hdbg, hm | ⟨hm, hv, hnn⟩⟩ q
      · exact ld_glob (X := X.suite a ((a, oe3) :: (X.pn ++ pins))) S3 hg hm q hdbg
      · exact ld_blt (X := X.suite a ((a, oe3) :: (X.pn ++ pins))) S3 hg hm hv q hnn hdbg
    have LT : PySem.W.Looks (model X.prog X.w) h3 (typeOf (.ref a)) cls := by
      intro A Q E s k q
      refine wpAny_typeOf_ref (k _ _ he3) ?_
      rw [hz3.1]
      exact q
    have go : ∀ {hds' : List ExceptHandler} {l' : List Clause}, HdsMix X hds' l' → wMix X.K Wout D l' cls d σ' H' →
        wpAny (model X.prog X.w) X.A (handleBy (.ref a) X.env hds') (SP X pins D) X.xe { s' with heap := h3 } := by
      intro hds' l' hk
      induction hk with
      | nil =>
        intro w
        refine wpAny_handleBy_nil ?_
        obtain ⟨_, _, _, oe, vs, T, oT, ts', he, hz, hd, h1, hr⟩ := id fl3
        unfold PySem.passOn
        refine wpAny_bind (wpAny_field he hd h1 ?_)
        rw [if_neg (show ¬ ((Value.ref T == Value.none) = true) from by simp)]
        have last : wpAny (model X.prog X.w) X.A (setFlight (.ref a) X.env.frame) (fun _ s4 => wpAny (model X.prog X.w) X.A (throw (.ref a) : Sem Flow) (SP X pins D) X.xe s4) X.xe { s' with heap := h3 } := by
          rw [hf]
          refine HandSPX.setFlight_upZ fl3 ?_
          intro h4 hh4 up4
          refine wpAny_throw (tk _ _ ⟨a, B, sI, pins, σ', H', cls, d, rfl, J, nb, (up.trans up3).trans up4, ?_, na, os, ag, w⟩)
          exact Or.inr (Or.inr (hs ▸ hh4))
        first
          | exact wpAny_bind (wpAny_pure (wpAny_bind last))
          | exact wpAny_bind last
      | bare hc hsu r ih =>
        rintro ⟨b, hb1, hyes, hno⟩
        refine wpAny_handleBy_cons (codeAny_handlers_test ?_) (by intro q; cases q)
        refine test hc ((PySem.W.exm_one (M := model X.prog X.w) J3.kIn LT hb1).here ?_)
        cases b with
        | false => exact ih (hno rfl)
        | true =>
          refine codeAny_handlers_suite (HandSPX.lands_againZ fl3 ?_)
          intro h4 fl4 up4
          obtain ⟨oe4, vs4, he4, hz4, hd4⟩ := fl4.there
          have S4 := (J.landed (s' := { s' with heap := h4 }) nb fl4.1 ((up.trans up3).trans up4) os ag).suite he4 hd4 na nL nF
          refine wpAny_mono ((hsu a oe4 cls d (X.pn ++ pins) hz4 ⟨_, hd4⟩).run [] _ _ H' _ S4 (hyes rfl a na)) ?_ (fun _ _ z => z.elim)
          intro f s6 hsp
          cases f with
          | ret u =>
            obtain ⟨v6, σ6, H6, S6, r6, q6⟩ := hsp
            exact ⟨_, _, _, S6.unsuite ok, r6, q6⟩
          | next =>
            obtain ⟨σ6, H6, S6, q6⟩ := hsp
            exact ⟨_, _, S6.unsuite ok, q6⟩
          | brk =>
            obtain ⟨σ6, H6, S6, q6⟩ := hsp
            exact ⟨_, _, S6.unsuite ok, q6⟩
          | cont =>
            obtain ⟨σ6, H6, S6, q6⟩ := hsp
            exact ⟨_, _, S6.unsuite ok, q6⟩
      | @named x n i c ts b0 su np hp hds2 l2 hi hl hc hsu r ih =>
        rintro ⟨b, hb1, hyes, hno⟩
        refine wpAny_handleBy_cons (codeAny_handlers_test ?_) (by intro q; cases q)
        refine test hc ((PySem.W.exm_one (M := model X.prog X.w) J3.kIn LT hb1).here ?_)
        cases b with
        | false => exact ih (hno rfl)
        | true =>
          refine codeAny_handlers_suite_as (HandSPX.lands_againZ fl3 ?_)
          intro h4 fl4 up4
          obtain ⟨oe4, vs4, he4, hz4, hd4⟩ := fl4.there
          have S4 := (J.landed (s' := { s' with heap := h4 }) nb fl4.1 ((up.trans up3).trans up4) os ag).suite he4 hd4 na nL nF
          refine store_ok (X := X.suite a ((a, oe4) :: (X.pn ++ pins))) (v := .ref a) S4 hN hi (Or.inl hl) rfl ?_ (Or.inr hl)
          intro s5 S5
          refine wpAny_mono ((hsu a oe4 cls d (X.pn ++ pins) hz4 ⟨_, hd4⟩).run [] s5 _ H' _ S5 (hyes rfl a na)) ?_ (fun _ _ z => z.elim)
          intro f s6 hsp
          have fin : ∀ {σ6 : L2.St} {H6 : Hp} {Q : Shared → Prop}, Inv (X.suite a ((a, oe4) :: (X.pn ++ pins))) [] σ6 H6 s6 → (∀ s7, Inv X pins (σ6.set i none) H6 s7 → Q s7) →
              wpAny (model X.prog X.w) X.A (do bindName X.env n .none; unbindBehindTheSuite X.env n hp) (fun _ s7 => Q s7) X.xe s6 := fun S6 hq => gone_ok (S6.unsuite ok) hN hi hl hq
          cases f with
          | ret u =>
            obtain ⟨v6, σ6, H6, S6, r6, q6⟩ := hsp
            exact fin S6 fun s7 J7 => ⟨_, _, _, J7, r6, q6⟩
          | next =>
            obtain ⟨σ6, H6, S6, q6⟩ := hsp
            exact fin S6 fun s7 J7 => ⟨_, _, J7, q6⟩
          | brk =>
            obtain ⟨σ6, H6, S6, q6⟩ := hsp
            exact fin S6 fun s7 J7 => ⟨_, _, J7, q6⟩
          | cont =>
            obtain ⟨σ6, H6, S6, q6⟩ := hsp
            exact fin S6 fun s7 J7 => ⟨_, _, J7, q6⟩
    exact go hh wish
/-- .. with an else -/
theorem ps_try_mixE {orelse : List Stmt} {u : TS} (hs : X.stack = X.env :: X.outer) (hf : X.env.frame = some X.env.locals) (hN : X.N.Nodup) (tk : Takes X Wout)
    (hb : ∀ (W : WX) (pn : List (Addr × Obj)) (xe : Value → Shared → Prop), Takes (X.tr pn xe) W → PassesOwn (model X.prog X.w) X.A X.env xe → PSs (X.tr pn xe) body (tb W))
    (hh : HdsMix X (h₀ :: hds) l) (hu : PSs X orelse u) : PS X (.Try body (h₀ :: hds) orelse [] pos) (fun D σ H => tb (wMix X.K Wout D l) { D with nx := u D } σ H) := by
  constructor
  intro pins s σ H D I h
  have ok := I.ok
  have hfr : X.A.frames = some (X.env :: X.outer) := hs ▸ ok.frames
  refine wpAny_Try_except ?_
  refine wpAny_mono ((hb (wMix X.K Wout D l) (X.pn ++ pins) (fun e s₁ => wpAny (model X.prog X.w) X.A (noteFrame e X.env) (fun _ s₂ => wpAny (model X.prog X.w) X.A (setFlight e none)
    (fun _ s₃ => wpAny (model X.prog X.w) X.A (handleBy e X.env (h₀ :: hds)) (SP X pins D) X.xe s₃) X.xe s₂) X.xe s₁) ?caught PassesOwn.looking).run [] s σ H { D with nx := u D } (I.toTry _) h) ?done (fun e s1 he => he)
  case done =>
    intro f s1 hsp
    cases f with
    | ret u =>
      obtain ⟨v, σ', H', J', r, q⟩ := hsp
      exact ⟨v, σ', H', J'.ofTry ok, r, q⟩
    | next =>
      obtain ⟨σ', H', J', q⟩ := hsp
      exact hu.run pins s1 σ' H' D (J'.ofTry ok) q
    | brk =>
      obtain ⟨σ', H', J', q⟩ := hsp
      refine ⟨σ', H', J'.ofTry ok, q⟩
    | cont =>
      obtain ⟨σ', H', J', q⟩ := hsp
      refine ⟨σ', H', J'.ofTry ok, q⟩
  case caught =>
    rintro u s' ⟨a, B, sI, pins', σ', H', cls, d, rfl, J', nb, up, sky, na, os, ag, wish⟩
    have J : Inv X pins σ' H' sI := J'.ofTry ok
    show wpAny (model X.prog X.w) X.A (noteFrame (.ref a) X.env) _ _ _
    refine Sky.land Zc.steady hfr hf (hs ▸ sky) ?_
    intro h3 fl3 up3
    have J3 : Inv X pins σ' H' { s' with heap := h3 } := J.landed nb fl3.1 (up.trans up3) os ag
    obtain ⟨oe3, vs3, he3, hz3, hd3⟩ := fl3.there
    have nfr : a ∉ frs (X.env :: X.outer) := by
      intro hm
      obtain ⟨_, o', e', hnf⟩ := fl3.2.2.1.mem hm
      rw [he3] at e'
      cases e'
      exact hnf _ hd3
    have nL : a ≠ X.env.locals := fun z => nfr (List.mem_filterMap.mpr ⟨X.env, List.mem_cons_self, hf.trans (congrArg some z.symm)⟩)
    have nF : a ∉ X.fs := by
      intro hm
      obtain ⟨e, he, q⟩ := List.mem_filterMap.mp hm
      exact nfr (List.mem_filterMap.mpr ⟨e, List.mem_cons_of_mem _ he, q⟩)
    have S3 := J3.suite he3 hd3 na nL nF
    -- a clause's test
    have test : ∀ {x : Str} {c : Value} {np : Pos} {Q : Value → Shared → Prop} {E : Value → Shared → Prop}, Names X x c → Q c { s' with heap := h3 } →
        wpAny (model X.prog X.w) (X.A.mark (some (.ref a))) (eval (.Name x np) X.env) Q E { s' with heap := h3 } := by
      rintro x c np Q E ⟨hg, hdbg, hm | ⟨hm, hv, hnn⟩⟩ q
      · exact ld_glob (X := X.suite a ((a, oe3) :: (X.pn ++ pins))) S3 hg hm q hdbg
      · exact ld_blt (X := X.suite a ((a, oe3) :: (X.pn ++ pins))) S3 hg hm hv q hnn hdbg
    have LT : PySem.W.Looks (model X.prog X.w) h3 (typeOf (.ref a)) cls := by
      intro A Q E s k q
      refine wpAny_typeOf_ref (k _ _ he3) ?_
      rw [hz3.1]
      exact q
    have go : ∀ {hds' : List ExceptHandler} {l' : List Clause}, HdsMix X hds' l' → wMix X.K Wout D l' cls d σ' H' →
        wpAny (model X.prog X.w) X.A (handleBy (.ref a) X.env hds') (SP X pins D) X.xe { s' with heap := h3 } := by
      intro hds' l' hk
      induction hk with
      | nil =>
        intro w
        refine wpAny_handleBy_nil ?_
        obtain ⟨_, _, _, oe, vs, T, oT, ts', he, hz, hd, h1, hr⟩ := id fl3
        unfold PySem.passOn
        refine wpAny_bind (wpAny_field he hd h1 ?_)
        rw [if_neg (show ¬ ((Value.ref T == Value.none) = true) from by simp)]
        have last : wpAny (model X.prog X.w) X.A (setFlight (.ref a) X.env.frame) (fun _ s4 => wpAny (model X.prog X.w) X.A (throw (.ref a) : Sem Flow) (SP X pins D) X.xe s4) X.xe { s' with heap := h3 } := by
          rw [hf]
          refine HandSPX.setFlight_upZ fl3 ?_
          intro h4 hh4 up4
          refine wpAny_throw (tk _ _ ⟨a, B, sI, pins, σ', H', cls, d, rfl, J, nb, (up.trans up3).trans up4, ?_, na, os, ag, w⟩)
          exact Or.inr (Or.inr (hs ▸ hh4))
        first
          | exact wpAny_bind (wpAny_pure (wpAny_bind last))
          | exact wpAny_bind last
      | bare hc hsu r ih =>
        rintro ⟨b, hb1, hyes, hno⟩
        refine wpAny_handleBy_cons (codeAny_handlers_test ?_) (by intro q; cases q)
        refine test hc ((PySem.W.exm_one (M := model X.prog X.w) J3.kIn LT hb1).here ?_)
        cases b with
        | false => exact ih (hno rfl)
        | true =>
          refine codeAny_handlers_suite (HandSPX.lands_againZ fl3 ?_)
          intro h4 fl4 up4
          obtain ⟨oe4, vs4, he4, hz4, hd4⟩ := fl4.there
          have S4 := (J.landed (s' := { s' with heap := h4 }) nb fl4.1 ((up.trans up3).trans up4) os ag).suite he4 hd4 na nL nF
          refine wpAny_mono ((hsu a oe4 cls d (X.pn ++ pins) hz4 ⟨_, hd4⟩).run [] _ _ H' _ S4 (hyes rfl a na)) ?_ (fun _ _ z => z.elim)
          intro f s6 hsp
          cases f with
          | ret u =>
            obtain ⟨v6, σ6, H6, S6, r6, q6⟩ := hsp
            exact ⟨_, _, _, S6.unsuite ok, r6, q6⟩
          | next =>
            obtain ⟨σ6, H6, S6, q6⟩ := hsp
            exact ⟨_, _, S6.unsuite ok, q6⟩
          | brk =>
            obtain ⟨σ6, H6, S6, q6⟩ := hsp
            exact ⟨_, _, S6.unsuite ok, q6⟩
          | cont =>
            obtain ⟨σ6, H6, S6, q6⟩ := hsp
            exact ⟨_, _, S6.unsuite ok, q6⟩
      | @named x n i c ts b0 su np hp hds2 l2 hi hl hc hsu r ih =>
        rintro ⟨b, hb1, hyes, hno⟩
        refine wpAny_handleBy_cons (codeAny_handlers_test ?_) (by intro q; cases q)
        refine test hc ((PySem.W.exm_one (M := model X.prog X.w) J3.kIn LT hb1).here ?_)
        cases b with
        | false => exact ih (hno rfl)
        | true =>
          refine codeAny_handlers_suite_as (HandSPX.lands_againZ fl3 ?_)
          intro h4 fl4 up4
          obtain ⟨oe4, vs4, he4, hz4, hd4⟩ := fl4.there
          have S4 := (J.landed (s' := { s' with heap := h4 }) nb fl4.1 ((up.trans up3).trans up4) os ag).suite he4 hd4 na nL nF
          refine store_ok (X := X.suite a ((a, oe4) :: (X.pn ++ pins))) (v := .ref a) S4 hN hi (Or.inl hl) rfl ?_ (Or.inr hl)
          intro s5 S5
          refine wpAny_mono ((hsu a oe4 cls d (X.pn ++ pins) hz4 ⟨_, hd4⟩).run [] s5 _ H' _ S5 (hyes rfl a na)) ?_ (fun _ _ z => z.elim)
          intro f s6 hsp
          have fin : ∀ {σ6 : L2.St} {H6 : Hp} {Q : Shared → Prop}, Inv (X.suite a ((a, oe4) :: (X.pn ++ pins))) [] σ6 H6 s6 → (∀ s7, Inv X pins (σ6.set i none) H6 s7 → Q s7) →
              wpAny (model X.prog X.w) X.A (do bindName X.env n .none; unbindBehindTheSuite X.env n hp) (fun _ s7 => Q s7) X.xe s6 := fun S6 hq => gone_ok (S6.unsuite ok) hN hi hl hq
          cases f with
          | ret u =>
            obtain ⟨v6, σ6, H6, S6, r6, q6⟩ := hsp
            exact fin S6 fun s7 J7 => ⟨_, _, _, J7, r6, q6⟩
          | next =>
            obtain ⟨σ6, H6, S6, q6⟩ := hsp
            exact fin S6 fun s7 J7 => ⟨_, _, J7, q6⟩
          | brk =>
            obtain ⟨σ6, H6, S6, q6⟩ := hsp
            exact fin S6 fun s7 J7 => ⟨_, _, J7, q6⟩
          | cont =>
            obtain ⟨σ6, H6, S6, q6⟩ := hsp
            exact fin S6 fun s7 J7 => ⟨_, _, J7, q6⟩
    exact go hh wish
end
end Mc
/-! McText: plain facts of texts. -/
namespace Mc
open PySem PySem.Spec PyProof.Rows L2

theorem takeWhile_all {α : Type} (g : α → Bool) : ∀ l : List α, l.all g = true → l.takeWhile g = l
  | [], _ => rfl
  | a :: l, h => by
    have h' : g a = true ∧ l.all g = true := by simpa using h
    rw [List.takeWhile_cons, h'.1]
    simp only [if_true]
    rw [takeWhile_all g l h'.2]
theorem takeWhile_lt {α : Type} (g : α → Bool) : ∀ l : List α, l.all g = false → (l.takeWhile g).length < l.length
  | [], h => by cases h
  | a :: l, h => by
    rw [List.takeWhile_cons]
    cases ha : g a with
    | false => simp
    | true =>
      have h' : l.all g = false := by simpa [ha] using h
      have := takeWhile_lt g l h'
      simp only [if_true, List.length_cons]
      omega
theorem drop_takeWhile {α : Type} (g : α → Bool) : ∀ l : List α, l.all g = false → (l.drop (l.takeWhile g).length).all g = false
  | [], h => by cases h
  | a :: l, h => by
    rw [List.takeWhile_cons]
    cases ha : g a with
    | false => simpa using h
    | true =>
      have h' : l.all g = false := by simpa [ha] using h
      have := drop_takeWhile g l h'
      simpa using this
theorem str_len (x : Str) : x.length = x.cps.toList.length := by
  show x.cps.size = _
  simp
theorem strSub_len (x : Str) (lo hi : Nat) (h : hi ≤ x.length) : (Builtin.Str.strSub x lo hi).length = hi - lo := by
  unfold Builtin.Str.strSub
  show (x.cps.extract lo hi).size = hi - lo
  rw [Array.size_extract]
  have : x.cps.size = x.length := rfl
  omega
/-- x.strip(y) is empty just if all signs of x are in y -/
theorem strip_nil (x y : Str) : (Txt.stripChars x y).length = 0 ↔ x.cps.toList.all y.cps.contains = true := by
  have hlen := str_len x
  unfold Txt.stripChars
  rw [PySem.W.stripBy_eq]
  show (Builtin.Str.strSub x (stripLo y.cps.contains true x) (stripHi y.cps.contains true x (stripLo y.cps.contains true x))).length = 0 ↔ _
  have hlo : stripLo y.cps.contains true x = (x.cps.toList.takeWhile y.cps.contains).length := rfl
  have hhi : stripHi y.cps.contains true x (stripLo y.cps.contains true x) = x.length - ((x.cps.toList.drop (stripLo y.cps.contains true x)).reverse.takeWhile y.cps.contains).length := rfl
  rw [strSub_len _ _ _ (by rw [hhi]; omega)]
  constructor
  · intro h
    cases ha : x.cps.toList.all y.cps.contains with
    | true => rfl
    | false =>
      exfalso
      have h1 := takeWhile_lt _ _ ha
      have h2 := drop_takeWhile _ _ ha
      have h3 : ((x.cps.toList.drop (stripLo y.cps.contains true x)).reverse).all y.cps.contains = false := by
        rw [List.all_reverse, hlo]
        exact h2
      have h4 := takeWhile_lt _ _ h3
      rw [List.length_reverse, List.length_drop] at h4
      rw [hhi] at h
      rw [← hlo] at h1
      omega
  · intro h
    have h1 := takeWhile_all _ _ h
    rw [hhi, hlo, h1]
    omega
theorem str_nil {x : Str} : x.length = 0 ↔ x = "" := by
  constructor
  · intro h
    obtain ⟨a⟩ := x
    have h' : a.size = 0 := h
    have e : a = #[] := Array.eq_empty_of_size_eq_zero h'
    subst e
    rfl
  · rintro rfl
    rfl
theorem all12 (x : Str) : x.cps.toList.all ("12" : Str).cps.contains = x.cps.toList.all fun c => c == 49 || c == 50 := by
  have e : (("12" : Str).cps.contains : Nat → Bool) = fun c => c == 49 || c == 50 := by
    funext c
    show (#[49, 50] : Array Nat).contains c = _
    simp
    rfl
  rw [e]
theorem strip12 (x : Str) : decide (V.str (Txt.stripChars x "12") = V.str "") = x.cps.toList.all fun c => c == 49 || c == 50 := by
  rw [← all12]
  cases h : x.cps.toList.all ("12" : Str).cps.contains with
  | true => exact decide_eq_true (congrArg V.str (str_nil.mp ((strip_nil x "12").mpr h)))
  | false =>
    refine decide_eq_false fun z => ?_
    have e := (strip_nil x "12").mp (str_nil.mpr (V.str.inj z))
    rw [h] at e
    cases e
/-- one-sign texts put together -/
theorem join_signs : ∀ cs : List Nat, Txt.join "" (cs.map fun c => (⟨#[c]⟩ : Str)) = (⟨cs.toArray⟩ : Str) := by
  intro cs
  rw [TL.join_eq]
  induction cs with
  | nil => rfl
  | cons c cs ih =>
    cases cs with
    | nil => rfl
    | cons d r =>
      have e : Str.join "" ((c :: d :: r).map fun c => (⟨#[c]⟩ : Str)) = (⟨#[c]⟩ : Str) ++ "" ++ Str.join "" ((d :: r).map fun c => (⟨#[c]⟩ : Str)) := rfl
      rw [e, ih]
      show (⟨(#[c] ++ #[]) ++ (d :: r).toArray⟩ : Str) = _
      simp
end Mc
/-! McCore: calls of defs by promises that hide how their arguments bind; types of data. -/
namespace Mc
open PySem PySem.Spec PyProof.Rows L2

section
variable {X : Cx}
/-- nothing is raised by the callee -/
theorem pass_no (σ : L2.St) : PassesAt (L2.CX X.prog X.w) X σ E0 := fun pins H s e s' I h => passL pins σ H s e s' I h
end
section
variable {P : Program} {w : World} {K : PySem.W.Frag} {mg : Str → Option Value} {base : Heap} {C : CXT} {j k : Nat} {f : Addr} {sp : Sp}
theorem fnG_of_R (F : FnR P w K mg base C k f sp) : FnG P w K mg base C k f sp :=
  fun A outer s H us vs Q E hr _ e0 r hs => F A outer s H us vs Q E hr e0 r hs
theorem fnR_of_ok {fd : FuncData} {ps : List Str} (F : FnOk P w K mg base C k f fd ps sp) (hb : Binds K fd ps []) : FnR P w K mg base C k f sp :=
  (F.raw hb .nil).imp fun vs H Q E h => by rw [List.append_nil]; exact h
/-- a def by its body -/
theorem fnR_body {x qual : Str} {params : Arguments} {body : List Stmt} {scope : Scope} {dvs : List V} {kws : List (Str × V)} {fd : FuncData} {N ps : List Str}
    (F : FunD K x qual params body scope dvs kws f fd) (S : FnScope N ps scope) (hb : Binds K fd ps []) (len : ∀ vs H Q E, sp vs H Q E → vs.length = ps.length)
    (hbody : ∀ (cdv : Value) (A : Around) (outer : List Env) (s : Shared) (H : Hp) (vs : List V) (Q : VK) (E : XK),
      Room k (A.deeper (envOfC qual scope s.heap.objs.size f cdv)) → sp vs H Q E →
      ∃ t, PSs (cxOf C P w K mg base N qual scope f cdv A outer s H E) body t ∧ t { nx := fun _ H' => Q .non H', rt := Q } (start N vs) H) :
    FnR P w K mg base C (k + 1) f sp := fnR_of_ok (F.ok S len hbody) hb
end
section
variable {X : Cx} {C : CXT} {k : Nat} {f : Addr} {sp : Sp} {x : Str} {p pos : Pos} {e : Expr} {es : List Expr} {t : TA}
/-- f(e, ..): what is raised is wished for at the caller's slots -/
theorem pe_callR {E : L2.St → XK} (F : FnR X.prog X.w X.K X.mg X.base C k f sp) (hr : Room k X.A) (hg : Gl X x) (hm : X.mg x = some (.ref f))
    (hk : PySem.W.keepIn X.K (.ref f) = true) (hx : ∀ σ, PassesAt C X σ (E σ)) (ha : PA X (e :: es) t) (hdb : (x == ("__debug__" : Str)) = false := by decide)
    (he : starEach (e :: es) X.env = (false, eval e X.env) :: starEach es X.env := by rfl) (hpl : (backTo pos (starEach es X.env)).any (·.1) = false := by rfl) :
    PE X (.Call (.Name x p) (e :: es) [] pos) (tCallS sp E t) := by
  refine ⟨fun pins s σ H Q I h => ?_⟩
  refine wpAny_Call_Name_kw (ld_glob I hg hm ?_ hdb)
  refine PySem.W.callWith_K (h₀ := X.base) I.ok.mod.kin hk (thn (ha.run pos pins s σ H _ I h) ?_) he hpl
  rintro us s1 ⟨vs, H1, I1, r, q⟩
  refine ⟨I1.kIn, wpAny_call (codeAny_mono (F X.A X.stack s1 H1 us vs Q (E σ) hr I1.env0 r q) ?_)⟩
  intro res s' hq
  cases res with
  | error er => exact hx σ pins H1 s1 er s' I1 hq
  | ok fl =>
    cases fl with
    | ret u => exact I1.after hq
    | next => exact hq.elim
    | brk => exact hq.elim
    | cont => exact hq.elim
/-- f() -/
theorem pe_callR0 {E : L2.St → XK} (F : FnR X.prog X.w X.K X.mg X.base C k f sp) (hr : Room k X.A) (hg : Gl X x) (hm : X.mg x = some (.ref f))
    (hk : PySem.W.keepIn X.K (.ref f) = true) (hx : ∀ σ, PassesAt C X σ (E σ)) (hdb : (x == ("__debug__" : Str)) = false := by decide) :
    PE X (.Call (.Name x p) [] [] pos) (tCallS sp E tNil) := by
  refine ⟨fun pins s σ H Q I h => ?_⟩
  refine wpAny_Call_Name_kw (ld_glob I hg hm ?_ hdb)
  refine PySem.W.callWith_K0 I.kIn hk (wpAny_call (codeAny_mono (F X.A X.stack s H [] [] Q (E σ) hr I.env0 .nil h) ?_))
  intro res s' hq
  cases res with
  | error er => exact hx σ pins H s er s' I hq
  | ok fl =>
    cases fl with
    | ret u => exact I.after hq
    | next => exact hq.elim
    | brk => exact hq.elim
    | cont => exact hq.elim
end

/-! ### types of data -/
def tyName : PyData → String
  | .none => "NoneType"
  | .bool _ => "bool"
  | .int _ => "int"
  | .str _ => "str"
  | .list _ => "list"
  | .tuple _ => "tuple"
  | .dict _ => "dict"
theorem dq_ty {K : PySem.W.Frag} {H : Hp} {v : V} {d : PyData} (h : Dq K H v d) : TyX K H v (.type (tyName d)) := by
  cases h with
  | dp h =>
    cases h with
    | non => exact .base .non
    | bl b => exact .base (.bl b)
    | int i => exact .base (.int i)
    | str x => exact .base (.str x)
    | lst s _ =>
      rcases s with (s | ⟨o, s⟩) | ⟨o, its, n, lk, cl, _⟩
      · exact .base (.lst s)
      · exact .base (.frz s)
      · exact .kList lk cl
    | tup s _ =>
      rcases s with (s | ⟨o, s⟩) | ⟨o, its, n, lk, cl, _⟩
      · exact .base (.tup s)
      · exact .fTuple s
      · exact .kTuple lk cl
  | dic h => exact .base (.dK h)
/-- isinstance(x, T), x a datum, T a built-in type -/
def rIsd (K : PySem.W.Frag) : List V → Hp → VK → Prop := fun xs H Q => ∃ (x : V) (d : PyData) (n : String) (b : Bool), xs = [x, .ty n] ∧ Dq K H x d ∧ kitB (tyName d) n = some b ∧ Q (.bl b) H
theorem call_isd {X : Cx} : CallR X (.builtin "isinstance") (rIsd X.K) := by
  intro pins s σ H xs us Q I r h
  obtain ⟨x, d, n, b, rfl, hd, e, q⟩ := h
  exact call_isi pins s σ H _ us Q I r ⟨x, .ty n, .type (tyName d), .type n, b, rfl, .ty n, dq_ty hd, kit_ty e, q⟩
def isInt : PyData → Bool
  | .int _ => true
  | _ => false
def isStr : PyData → Bool
  | .str _ => true
  | _ => false
def isTup : PyData → Bool
  | .tuple _ => true
  | _ => false
def isBool : PyData → Bool
  | .bool _ => true
  | _ => false
def isSeq : PyData → Bool
  | .list _ => true
  | .tuple _ => true
  | _ => false
def isLst : PyData → Bool
  | .list _ => true
  | _ => false
theorem kit_int (d : PyData) : kitB (tyName d) "int" = some (isInt d || isBool d) := by cases d <;> simp only [tyName, isInt, isBool, isStr, isTup, isLst] <;> decide +kernel
theorem kit_bool (d : PyData) : kitB (tyName d) "bool" = some (isBool d) := by cases d <;> simp only [tyName, isInt, isBool, isStr, isTup, isLst] <;> decide +kernel
theorem kit_str (d : PyData) : kitB (tyName d) "str" = some (isStr d) := by cases d <;> simp only [tyName, isInt, isBool, isStr, isTup, isLst] <;> decide +kernel
theorem kit_tup (d : PyData) : kitB (tyName d) "tuple" = some (isTup d) := by cases d <;> simp only [tyName, isInt, isBool, isStr, isTup, isLst] <;> decide +kernel
theorem kit_lst (d : PyData) : kitB (tyName d) "list" = some (isLst d) := by cases d <;> simp only [tyName, isInt, isBool, isStr, isTup, isLst] <;> decide +kernel
end Mc
namespace Mc
open PySem PySem.Spec PyProof.Rows L2
section
variable {X : Cx}
/-- repr of a truth -/
theorem call_reprB : CallR X (.builtin "repr") (fun xs H Q => ∃ b, xs = [.bl b] ∧ Q (.str (if b then "True" else "False")) H) := by
  intro pins s σ H xs us Q I r h
  obtain ⟨b, rfl, q⟩ := h
  obtain ⟨u, rfl, ru⟩ := vals1 r
  cases ru
  exact PySem.P.repr_of_bool ⟨.str _, H, I.tok _, ⟨_, rfl⟩, q⟩
/-- a text a number of times -/
theorem op_rep_str : OpR X (binaryOp .Mult) (fun x y H Q => ∃ (a : Str) (n : Int), x = .str a ∧ y = .int n ∧ MulOk a n ∧ Q (.str (PySem.Txt.mul a n)) H) := by
  intro pins s σ H x y u v Q I rx ry h
  obtain ⟨a, n, rfl, rfl, hok, q⟩ := h
  obtain ⟨t, rfl⟩ := rx
  obtain ⟨t', rfl⟩ := ry
  exact SB.mul hok fun t' k => ⟨.str _, H, I.tok k, ⟨_, rfl⟩, q⟩
end
end Mc
namespace Mc
open PySem PySem.Spec PyProof.Rows L2
/-- a statement, then the rest, with what is told between them -/
def tMid (t u : TS) : TS := fun D σ H => ∃ Mid : L2.St → Hp → Prop, t { D with nx := Mid } σ H ∧ ∀ τ G, Mid τ G → u D τ G
theorem pss_mid {X : Cx} {st : Stmt} {rest : List Stmt} {t u : TS} (h1 : PS X st t) (h2 : PSs X rest u) : PSs X (st :: rest) (tMid t u) := by
  constructor
  rintro pins s σ H D I ⟨Mid, hm, hu⟩
  refine wpAny_execs_cons (thn (h1.run pins s σ H { D with nx := Mid } I hm) ?_)
  intro f s1 q
  cases f with
  | ret v => exact q
  | brk => exact q
  | cont => exact q
  | next =>
    obtain ⟨τ, G, J, q⟩ := q
    exact h2.run pins s1 τ G D J (hu τ G q)
end Mc
namespace Mc
open PySem PySem.Spec PyProof.Rows L2
/-! the built-in calls' relations, by name -/
def rLen (K : PySem.W.Frag) : List V → Hp → VK → Prop := fun xs H Q => ∃ x n, xs = [x] ∧ LenV K x H n ∧ Q (.int n) H
def rListOf (K : PySem.W.Frag) : List V → Hp → VK → Prop := fun xs H Q => ∃ p ys, xs = [.ref p] ∧ (SqL K H p ys ∨ SqT K H p ys) ∧ ∀ l, H l = none → Q (.ref l) (upd H l (.lst ys))
def rTupleOf (K : PySem.W.Frag) : List V → Hp → VK → Prop := fun xs H Q => ∃ p ys, xs = [.ref p] ∧ ((SqL K H p ys ∧ ∀ l, H l = none → Q (.ref l) (upd H l (.tup ys))) ∨ (SqT K H p ys ∧ Q (.ref p) H))
end Mc
/-! McData: small data, and expressions that make them. -/
namespace Mc
open PySem PySem.Spec PyProof.Rows L2

mutual
/-- no list of three items within -/
def noL3 : PyData → Bool
  | .list ds => ds.length != 3 && noL3All ds
  | .tuple ds => noL3All ds
  | .none | .bool _ | .int _ | .str _ | .dict _ => true
def noL3All : List PyData → Bool
  | [] => true
  | d :: ds => noL3 d && noL3All ds
end
/-- a datum whose text has at most n signs, at most k deep -/
structure Sm (n k : Nat) (d : PyData) : Prop where
  sh : d.showable = true
  ln : d.shown.length ≤ n
  dp : d.depth ≤ k
  nb : noL3 d = true
  st : ∀ x, d = .str x → x.length ≤ n ∧ ∀ c ∈ x.cps.toList, c < 1114112
theorem Sm.up {n k n' k' : Nat} {d : PyData} (h : Sm n k d) (hn : n ≤ n') (hk : k ≤ k') : Sm n' k' d := ⟨h.sh, Nat.le_trans h.ln hn, Nat.le_trans h.dp hk, h.nb, fun x e => ⟨Nat.le_trans (h.st x e).1 hn, (h.st x e).2⟩⟩
theorem Sm.shows {n k : Nat} {d : PyData} (h : Sm n k d) (hn : n ≤ 10000000) (hk : k ≤ 60) : Shows d :=
  ⟨h.sh, Nat.le_trans h.ln (Nat.le_trans hn (by decide)), Nat.le_trans h.dp hk⟩
theorem sm_none : Sm 5 0 .none := ⟨by simp only [PyData.showable], by simp only [PyData.shown]; decide, by simp only [PyData.depth, Nat.le_refl], by simp only [noL3], fun x e => nomatch e⟩
theorem sm_bool (b : Bool) : Sm 5 0 (.bool b) := ⟨by simp only [PyData.showable], by simp only [PyData.shown]; cases b <;> decide, by simp only [PyData.depth, Nat.le_refl], by simp only [noL3], fun x e => nomatch e⟩
theorem sm_int {i : Int} {k : Nat} (hk : 0 < k) (hk2 : k ≤ 500) (h : i.natAbs < 10 ^ k) : Sm (k + 1) 0 (.int i) := by
  refine ⟨?_, ?_, by simp only [PyData.depth, Nat.le_refl], by simp only [noL3], fun x e => nomatch e⟩
  · simp only [PyData.showable, decide_eq_true_eq]
    refine log2_small (Nat.lt_of_lt_of_le h ?_)
    calc 10 ^ k ≤ 10 ^ 500 := Nat.pow_le_pow_right (by decide) hk2
      _ ≤ 2 ^ 1920 := by decide +kernel
  · simp only [PyData.shown]
    rw [PySem.ofString_length]
    exact int_text_length_le10 hk h
theorem sm_str {x : Str} {m : Nat} (h : x.length ≤ m) (hc : ∀ c ∈ x.cps.toList, c < 1114112) : Sm (10 * m + 2) 0 (.str x) := by
  refine ⟨by simp only [PyData.showable], ?_, by simp only [PyData.depth, Nat.le_refl], by simp only [noL3], fun y e => ?_⟩
  · simp only [PyData.shown]
    exact Nat.le_trans (StrLaws.reprText_len x fun c h => Nat.lt_trans (hc c h) (by decide)) (by omega)
  · cases e
    exact ⟨by omega, hc⟩
theorem sm_all {n k : Nat} : ∀ {ds : List PyData}, (∀ d ∈ ds, Sm n k d) → PyData.showableAll ds = true ∧ ((PyData.shownAll ds).map (·.length)).sum ≤ n * ds.length ∧ PyData.depthAll ds ≤ k ∧ noL3All ds = true
  | [], _ => ⟨by simp only [PyData.showableAll], by simp [PyData.shownAll], by simp [PyData.depthAll], by simp only [noL3All]⟩
  | d :: ds, h => by
    have h1 := h d List.mem_cons_self
    obtain ⟨a, b, c, n3⟩ := sm_all (ds := ds) fun e he => h e (List.mem_cons_of_mem _ he)
    refine ⟨by simp only [PyData.showableAll, h1.sh, a, Bool.and_self], ?_, ?_, by simp only [noL3All, h1.nb, n3, Bool.and_self]⟩
    · simp only [PyData.shownAll, List.map_cons, List.sum_cons, List.length_cons]
      have := h1.ln
      rw [Nat.mul_succ]
      omega
    · simp only [PyData.depthAll]
      have := h1.dp
      omega
theorem sm_list {n k : Nat} {ds : List PyData} (h : ∀ d ∈ ds, Sm n k d) (h3 : ds.length ≠ 3) : Sm (n * ds.length + 2 * ds.length + 3) (k + 1) (.list ds) := by
  obtain ⟨a, b, c, n3⟩ := sm_all h
  refine ⟨by simpa only [PyData.showable] using a, ?_, by simp only [PyData.depth]; omega, by simp only [noL3, n3, Bool.and_true]; exact bne_iff_ne.mpr h3, fun x e => nomatch e⟩
  simp only [PyData.shown]
  have := listText_len_le (PyData.shownAll ds)
  rw [PyData.shownAll_length] at this
  omega
theorem sm_tuple {n k : Nat} {ds : List PyData} (h : ∀ d ∈ ds, Sm n k d) : Sm (n * ds.length + 2 * ds.length + 3) (k + 1) (.tuple ds) := by
  obtain ⟨a, b, c, n3⟩ := sm_all h
  refine ⟨by simpa only [PyData.showable] using a, ?_, by simp only [PyData.depth]; omega, by simpa only [noL3] using n3, fun x e => nomatch e⟩
  simp only [PyData.shown]
  have := tupleText_len_le (PyData.shownAll ds)
  rw [PyData.shownAll_length] at this
  omega
theorem sm_dict0 : Sm 5 1 (.dict []) := ⟨by simp only [PyData.showable, PyData.showableKv], by simp only [PyData.shown, PyData.shownKv]; decide +kernel, by simp [PyData.depth, PyData.depthKv], by simp only [noL3], fun x e => nomatch e⟩

/-! ### heaps that grow -/
def Ext (H H' : Hp) : Prop := ∀ c o, H c = some o → H' c = some o
theorem Ext.refl (H : Hp) : Ext H H := fun _ _ e => e
theorem Ext.trans {H H1 H2 : Hp} (a : Ext H H1) (b : Ext H1 H2) : Ext H H2 := fun c o e => b c o (a c o e)
theorem Ext.new {H : Hp} {p : Addr} {o : HO} (h : H p = none) : Ext H (upd H p o) := fun c u e => by
  rw [upd_ne (ne_of_none e h)]
  exact e
theorem Ext.fresh {H H' : Hp} {p : Addr} (e : Ext H H') (h : H' p = none) : H p = none := by
  cases q : H p with
  | none => rfl
  | some o =>
    rw [e p o q] at h
    cases h
theorem Ext.rd {H H' : Hp} {a : Addr} {u : HO} (e : Ext H H') (h : Rd H a u) : Rd H' a u := by
  rcases h with h | ⟨o, h⟩
  · exact .inl (e _ _ h)
  · exact .inr ⟨o, e _ _ h⟩
theorem Ext.sqL {K : PySem.W.Frag} {H H' : Hp} {a : Addr} {xs : List V} (e : Ext H H') (h : SqL K H a xs) : SqL K H' a xs := by
  rcases h with h | h
  · exact .inl (e.rd h)
  · exact .inr h
theorem Ext.sqT {K : PySem.W.Frag} {H H' : Hp} {a : Addr} {xs : List V} (e : Ext H H') (h : SqT K H a xs) : SqT K H' a xs := by
  rcases h with h | h
  · exact .inl (e.rd h)
  · exact .inr h
mutual
theorem dp_ext {K : PySem.W.Frag} {H H' : Hp} (e : Ext H H') : ∀ (d : PyData) (v : V), Dp K H v d → Dp K H' v d
  | .none, _, h => by cases h; exact .non
  | .bool _, _, h => by cases h; exact .bl _
  | .int _, _, h => by cases h; exact .int _
  | .str _, _, h => by cases h; exact .str _
  | .list ds, _, h => by
    cases h with
    | lst s r => exact .lst (e.sqL s) (dpAll_ext e ds _ r)
  | .tuple ds, _, h => by
    cases h with
    | tup s r => exact .tup (e.sqT s) (dpAll_ext e ds _ r)
  | .dict _, _, h => by cases h
theorem dpAll_ext {K : PySem.W.Frag} {H H' : Hp} (e : Ext H H') : ∀ (ds : List PyData) (vs : List V), DpAll K H vs ds → DpAll K H' vs ds
  | [], _, h => by cases h; exact .nil
  | d :: ds, _, h => by
    cases h with
    | cons h1 h2 => exact .cons (dp_ext e d _ h1) (dpAll_ext e ds _ h2)
end
theorem dq_ext {K : PySem.W.Frag} {H H' : Hp} (e : Ext H H') {d : PyData} {v : V} (h : Dq K H v d) : Dq K H' v d := by
  cases h with
  | dp h => exact .dp (dp_ext e d v h)
  | dic h => exact .dic (e _ _ h)

/-! ### another box: data without lists of three stay -/
mutual
theorem dp_box {K : PySem.W.Frag} {H H' : Hp} {b : Addr} {x y z : V} (hb : H b = some (.lst [x, y, z])) (hf : ∀ c, c ≠ b → H' c = H c) : ∀ (d : PyData) (v : V), noL3 d = true → Dp K H v d → Dp K H' v d
  | .none, _, _, h => by cases h; exact .non
  | .bool _, _, _, h => by cases h; exact .bl _
  | .int _, _, _, h => by cases h; exact .int _
  | .str _, _, _, h => by cases h; exact .str _
  | .list ds, _, n, h => by
    simp only [noL3, Bool.and_eq_true, bne_iff_ne, ne_eq] at n
    cases h with
    | @lst a xs _ s r =>
      refine .lst ?_ (dpAll_box hb hf ds _ n.2 r)
      rcases s with (s | ⟨o, s⟩) | s
      · refine .inl (.inl ((hf a ?_).trans s))
        rintro rfl
        rw [hb] at s
        cases s
        cases r with
        | cons _ r =>
          cases r with
          | cons _ r =>
            cases r with
            | cons _ r =>
              cases r
              exact n.1 rfl
      · refine .inl (.inr ⟨o, (hf a ?_).trans s⟩)
        rintro rfl
        rw [hb] at s
        cases s
      · exact .inr s
  | .tuple ds, _, n, h => by
    simp only [noL3] at n
    cases h with
    | @tup a xs _ s r =>
      refine .tup ?_ (dpAll_box hb hf ds _ n r)
      rcases s with (s | ⟨o, s⟩) | s
      · refine .inl (.inl ((hf a ?_).trans s))
        rintro rfl
        rw [hb] at s
        cases s
      · refine .inl (.inr ⟨o, (hf a ?_).trans s⟩)
        rintro rfl
        rw [hb] at s
        cases s
      · exact .inr s
  | .dict _, _, _, h => by cases h
theorem dpAll_box {K : PySem.W.Frag} {H H' : Hp} {b : Addr} {x y z : V} (hb : H b = some (.lst [x, y, z])) (hf : ∀ c, c ≠ b → H' c = H c) : ∀ (ds : List PyData) (vs : List V), noL3All ds = true → DpAll K H vs ds → DpAll K H' vs ds
  | [], _, _, h => by cases h; exact .nil
  | d :: ds, _, n, h => by
    simp only [noL3All, Bool.and_eq_true] at n
    cases h with
    | cons h1 h2 => exact .cons (dp_box hb hf d _ n.1 h1) (dpAll_box hb hf ds _ n.2 h2)
end
theorem dq_box {K : PySem.W.Frag} {H H' : Hp} {b : Addr} {x y z : V} (hb : H b = some (.lst [x, y, z])) (hf : ∀ c, c ≠ b → H' c = H c) {d : PyData} {v : V} (n : noL3 d = true) (h : Dq K H v d) : Dq K H' v d := by
  cases h with
  | dp h => exact .dp (dp_box hb hf d v n h)
  | @dic a h =>
    refine .dic ((hf a ?_).trans h)
    rintro rfl
    rw [hb] at h
    cases h

/-! ### good values -/
/-- a value that is a small datum without dicts -/
def GP (K : PySem.W.Frag) (H : Hp) (n k : Nat) (v : V) : Prop := ∃ d, Dp K H v d ∧ Sm n k d
theorem GP.ext {K : PySem.W.Frag} {H H' : Hp} {n k : Nat} {v : V} (h : GP K H n k v) (e : Ext H H') : GP K H' n k v := let ⟨d, h1, h2⟩ := h; ⟨d, dp_ext e d v h1, h2⟩
theorem GP.up {K : PySem.W.Frag} {H : Hp} {n k n' k' : Nat} {v : V} (h : GP K H n k v) (hn : n ≤ n') (hk : k ≤ k') : GP K H n' k' v := let ⟨d, h1, h2⟩ := h; ⟨d, h1, h2.up hn hk⟩
theorem gp_non {K : PySem.W.Frag} {H : Hp} : GP K H 5 0 .non := ⟨_, .non, sm_none⟩
theorem gp_bl {K : PySem.W.Frag} {H : Hp} (b : Bool) : GP K H 5 0 (.bl b) := ⟨_, .bl b, sm_bool b⟩
theorem gp_int {K : PySem.W.Frag} {H : Hp} {i : Int} {k : Nat} (hk : 0 < k) (hk2 : k ≤ 500) (h : i.natAbs < 10 ^ k) : GP K H (k + 1) 0 (.int i) := ⟨_, .int i, sm_int hk hk2 h⟩
theorem gp_str {K : PySem.W.Frag} {H : Hp} {x : Str} {m : Nat} (h : x.length ≤ m) (hc : ∀ c ∈ x.cps.toList, c < 1114112) : GP K H (10 * m + 2) 0 (.str x) := ⟨_, .str x, sm_str h hc⟩
theorem gp_all {K : PySem.W.Frag} {H : Hp} {n k : Nat} : ∀ {vs : List V}, (∀ v ∈ vs, GP K H n k v) → ∃ ds, DpAll K H vs ds ∧ (∀ d ∈ ds, Sm n k d) ∧ ds.length = vs.length
  | [], _ => ⟨[], .nil, (fun _ h => nomatch h), rfl⟩
  | v :: vs, h => by
    obtain ⟨d, h1, h2⟩ := h v List.mem_cons_self
    obtain ⟨ds, a, b, c⟩ := gp_all (vs := vs) fun u hu => h u (List.mem_cons_of_mem _ hu)
    refine ⟨d :: ds, .cons h1 a, fun e he => ?_, congrArg Nat.succ c⟩
    rcases List.mem_cons.mp he with rfl | he
    · exact h2
    · exact b e he
theorem gp_tup {K : PySem.W.Frag} {H : Hp} {n k m : Nat} {a : Addr} {vs : List V} (hs : SqT K H a vs) (h : ∀ v ∈ vs, GP K H n k v) (hm : vs.length ≤ m) : GP K H (n * m + 2 * m + 3) (k + 1) (.ref a) := by
  obtain ⟨ds, h1, h2, h3⟩ := gp_all h
  refine ⟨.tuple ds, .tup hs h1, (sm_tuple h2).up ?_ (Nat.le_refl _)⟩
  rw [h3]
  have := Nat.mul_le_mul_left n hm
  omega
theorem gp_lst {K : PySem.W.Frag} {H : Hp} {n k m : Nat} {a : Addr} {vs : List V} (hs : SqL K H a vs) (h : ∀ v ∈ vs, GP K H n k v) (hm : vs.length ≤ m) (h3' : vs.length ≠ 3) : GP K H (n * m + 2 * m + 3) (k + 1) (.ref a) := by
  obtain ⟨ds, h1, h2, h3⟩ := gp_all h
  refine ⟨.list ds, .lst hs h1, (sm_list h2 (by rw [h3]; exact h3')).up ?_ (Nat.le_refl _)⟩
  rw [h3]
  have := Nat.mul_le_mul_left n hm
  omega
/-- a value that is a small datum, or an empty dict -/
def GQ (K : PySem.W.Frag) (H : Hp) (n k : Nat) (v : V) : Prop := ∃ d, Dq K H v d ∧ Sm n k d
theorem GQ.ext {K : PySem.W.Frag} {H H' : Hp} {n k : Nat} {v : V} (h : GQ K H n k v) (e : Ext H H') : GQ K H' n k v := let ⟨d, h1, h2⟩ := h; ⟨d, dq_ext e h1, h2⟩
theorem GQ.box {K : PySem.W.Frag} {H H' : Hp} {n k : Nat} {v : V} {b : Addr} {x y z : V} (h : GQ K H n k v) (hb : H b = some (.lst [x, y, z])) (hf : ∀ c, c ≠ b → H' c = H c) : GQ K H' n k v := let ⟨d, h1, h2⟩ := h; ⟨d, dq_box hb hf h2.nb h1, h2⟩
theorem GP.q {K : PySem.W.Frag} {H : Hp} {n k n' k' : Nat} {v : V} (h : GP K H n k v) (hn : n ≤ n' := by decide) (hk : k ≤ k' := by decide) : GQ K H n' k' v := let ⟨d, h1, h2⟩ := h; ⟨d, .dp h1, h2.up hn hk⟩
theorem gq_dict {K : PySem.W.Frag} {H : Hp} {n k : Nat} {a : Addr} (h : H a = some (.dK [])) (hn : 5 ≤ n := by decide) (hk : 1 ≤ k := by decide) : GQ K H n k (.ref a) := ⟨_, .dic h, sm_dict0.up hn hk⟩

/-! ### expressions that make good values -/
section
variable {K : PySem.W.Frag} {σ : L2.St} {H : Hp} {n k m n' k' : Nat} {te : TE} {ta : TA} {v : V}
def GEP (K : PySem.W.Frag) (te : TE) (σ : L2.St) (H : Hp) (n k : Nat) : Prop := ∀ H1, Ext H H1 → ∀ Q : VK, (∀ v H2, Ext H1 H2 → GP K H2 n k v → Q v H2) → te σ H1 Q
def GAP (K : PySem.W.Frag) (ta : TA) (σ : L2.St) (H : Hp) (n k m : Nat) : Prop :=
  ∀ H1, Ext H H1 → ∀ Q : List V → Hp → Prop, (∀ vs H2, Ext H1 H2 → vs.length = m → (∀ v ∈ vs, GP K H2 n k v) → Q vs H2) → ta σ H1 Q
def GE (K : PySem.W.Frag) (te : TE) (σ : L2.St) (H : Hp) (n k : Nat) : Prop := ∀ H1, Ext H H1 → ∀ Q : VK, (∀ v H2, Ext H1 H2 → GQ K H2 n k v → Q v H2) → te σ H1 Q
def GA (K : PySem.W.Frag) (ta : TA) (σ : L2.St) (H : Hp) (n k m : Nat) : Prop :=
  ∀ H1, Ext H H1 → ∀ Q : List V → Hp → Prop, (∀ vs H2, Ext H1 H2 → vs.length = m → (∀ v ∈ vs, GQ K H2 n k v) → Q vs H2) → ta σ H1 Q
/-- an expression that is worth a scalar and leaves the heap -/
theorem gep_pure (h : ∀ H, GP K H n k v) (he : ∀ H1 (Q : VK), Q v H1 → te σ H1 Q) : GEP K te σ H n k := fun H1 _ Q q => he H1 Q (q v H1 (Ext.refl _) (h H1))
theorem gep_c (h : ∀ H, GP K H n k v) : GEP K (tC v) σ H n k := gep_pure h fun _ _ q => q
theorem gep_var {i : Nat} (hv : σ[i]? = some (some v)) (h : ∀ H, GP K H n k v) : GEP K (tVar i) σ H n k := gep_pure h fun _ _ q => ⟨v, hv, q⟩
theorem GEP.up (h : GEP K te σ H n k) (hn : n ≤ n') (hk : k ≤ k') : GEP K te σ H n' k' := fun H1 e Q q => h H1 e Q fun v H2 e2 g => q v H2 e2 (g.up hn hk)
theorem GEP.ge (h : GEP K te σ H n k) (hn : n ≤ n' := by decide) (hk : k ≤ k' := by decide) : GE K te σ H n' k' := fun H1 e Q q => h H1 e Q fun v H2 e2 g => q v H2 e2 (g.q hn hk)
theorem GEP.ext {H' : Hp} (h : GEP K te σ H n k) (e : Ext H H') : GEP K te σ H' n k := fun H1 e1 Q q => h H1 (e.trans e1) Q q
theorem GA.ext {H' : Hp} (h : GA K ta σ H n k m) (e : Ext H H') : GA K ta σ H' n k m := fun H1 e1 Q q => h H1 (e.trans e1) Q q
theorem gap_nil : GAP K tNil σ H n k 0 := fun H1 _ Q q => q [] H1 (Ext.refl _) rfl (fun _ h => nomatch h)
theorem gap_cons (h : GEP K te σ H n k) (hr : GAP K ta σ H n k m) : GAP K (tCons te ta) σ H n k (m + 1) := fun H1 e1 Q q =>
  h H1 e1 _ fun v H2 e2 g => hr H2 (e1.trans e2) _ fun vs H3 e3 l gs => q (v :: vs) H3 (e2.trans e3) (congrArg Nat.succ l) fun u hu => by
    rcases List.mem_cons.mp hu with rfl | hu
    · exact g.ext e3
    · exact gs u hu
theorem ga_nil : GA K tNil σ H n k 0 := fun H1 _ Q q => q [] H1 (Ext.refl _) rfl (fun _ h => nomatch h)
theorem ga_cons (h : GE K te σ H n k) (hr : GA K ta σ H n k m) : GA K (tCons te ta) σ H n k (m + 1) := fun H1 e1 Q q =>
  h H1 e1 _ fun v H2 e2 g => hr H2 (e1.trans e2) _ fun vs H3 e3 l gs => q (v :: vs) H3 (e2.trans e3) (congrArg Nat.succ l) fun u hu => by
    rcases List.mem_cons.mp hu with rfl | hu
    · exact g.ext e3
    · exact gs u hu
theorem gep_tup (h : GAP K ta σ H n k m) (hm : m ≤ 100000 := by decide) : GEP K (tTup ta) σ H (n * m + 2 * m + 3) (k + 1) := fun H1 e1 Q q =>
  h H1 e1 _ fun vs H2 e2 l gs => ⟨by rw [l]; exact Nat.le_trans hm (by decide), fun p hp => q _ _ (e2.trans (Ext.new hp)) (gp_tup (.inl (.inl upd_same)) (fun v hv => (gs v hv).ext (Ext.new hp)) (Nat.le_of_eq l))⟩
theorem gep_lst (h : GAP K ta σ H n k m) (hm : m ≤ 100000 := by decide) (h3 : m ≠ 3 := by decide) : GEP K (tLst ta) σ H (n * m + 2 * m + 3) (k + 1) := fun H1 e1 Q q =>
  h H1 e1 _ fun vs H2 e2 l gs => ⟨by rw [l]; exact Nat.le_trans hm (by decide), fun p hp => q _ _ (e2.trans (Ext.new hp)) (gp_lst (.inl (.inl upd_same)) (fun v hv => (gs v hv).ext (Ext.new hp)) (Nat.le_of_eq l) (by rw [l]; exact h3))⟩
theorem ge_dict (hn : 5 ≤ n := by decide) (hk : 1 ≤ k := by decide) : GE K tDNewK σ H n k := fun H1 e1 Q q => fun d hd => q _ _ (Ext.new hd) (gq_dict upd_same hn hk)
/-- a display -/
theorem lst_good {Q : VK} (h : GA K ta σ H n k m) (hm : m ≤ 100000) (q : ∀ p xs H2, H p = none → Ext H H2 → H2 p = some (.lst xs) → xs.length = m → (∀ v ∈ xs, GQ K H2 n k v) → Q (.ref p) H2) : tLst ta σ H Q :=
  h H (Ext.refl _) _ fun vs H2 e2 l gs => ⟨by rw [l]; exact Nat.le_trans hm (by decide), fun p hp => q p vs _ (e2.fresh hp) (e2.trans (Ext.new hp)) upd_same l fun v hv => (gs v hv).ext (Ext.new hp)⟩
/-- some + [..] -/
theorem cat_good {Q : VK} {i : Nat} {p : Addr} {xs : List V} (hσ : σ[i]? = some (some (.ref p))) (hp : H p = some (.lst xs)) (hx : ∀ v ∈ xs, GQ K H n k v) (hl : xs.length ≤ 10000) (hA : GA K ta σ H n k m) (hm : m ≤ 10000)
    (q : ∀ p' zs H', H p' = none → Ext H H' → H' p' = some (.lst zs) → zs.length = xs.length + m → (∀ v ∈ zs, GQ K H' n k v) → Q (.ref p') H') : tOp rCat (tVar i) (tLst ta) σ H Q :=
  ⟨_, hσ, lst_good hA (Nat.le_trans hm (by decide)) fun p2 ys H2 hn2 e2 hp2 l2 g2 => ⟨p, p2, xs, ys, rfl, rfl, e2 _ _ hp, hp2, Nat.le_trans (show xs.length + ys.length ≤ 100000 by omega) (by decide), fun p3 hp3 =>
    q p3 (xs ++ ys) _ (e2.fresh hp3) (e2.trans (Ext.new hp3)) upd_same (by rw [List.length_append, l2]) fun v hv => by
      rcases List.mem_append.mp hv with hv | hv
      · exact (hx v hv).ext (e2.trans (Ext.new hp3))
      · exact (g2 v hv).ext (Ext.new hp3)⟩⟩
end

/-! ### texts of plain signs -/
structure Tx (m : Nat) (x : Str) : Prop where
  len : x.length ≤ m
  sg : ∀ c ∈ x.cps.toList, c < 1114112
theorem Tx.up {m m' : Nat} {x : Str} (h : Tx m x) (hm : m ≤ m') : Tx m' x := ⟨Nat.le_trans h.len hm, h.sg⟩
theorem Tx.gp {K : PySem.W.Frag} {H : Hp} {m : Nat} {x : Str} (h : Tx m x) : GP K H (10 * m + 2) 0 (.str x) := gp_str h.len h.sg
theorem Tx.size {m : Nat} {x : Str} (h : Tx m x) (hm : m ≤ 1000000 := by decide) : x.length ≤ sizeLine := Nat.le_trans h.len (Nat.le_trans hm (by decide))
theorem Tx.size2 {m n : Nat} {x y : Str} (h : Tx m x) (h' : Tx n y) (hm : m + n ≤ 1000000 := by decide) : x.length + y.length ≤ sizeLine := Nat.le_trans (Nat.add_le_add h.len h'.len) (Nat.le_trans hm (by decide))
theorem tx_lit {x : Str} {m : Nat} (h : (decide (x.length ≤ m) && x.cps.toList.all fun c => decide (c < 1114112)) = true) : Tx m x := by
  rw [Bool.and_eq_true] at h
  exact ⟨of_decide_eq_true h.1, fun c hc => of_decide_eq_true (List.all_eq_true.mp h.2 c hc)⟩
theorem tx_app {x y : Str} {m n : Nat} (h : Tx m x) (h' : Tx n y) : Tx (m + n) (x ++ y) := by
  have e : (x ++ y).cps = x.cps ++ y.cps := rfl
  refine ⟨?_, fun c hc => ?_⟩
  · show (x ++ y).cps.size ≤ m + n
    rw [e, Array.size_append]
    have h1 : x.cps.size ≤ m := h.len
    have h2 : y.cps.size ≤ n := h'.len
    omega
  · rw [e, Array.toList_append] at hc
    rcases List.mem_append.mp hc with hc | hc
    · exact h.sg c hc
    · exact h'.sg c hc
theorem tx_cut {x : Str} {m : Nat} (h : Tx m x) (lo hi : Option Int) : Tx m (cutS x lo hi) := by
  refine ⟨Nat.le_trans (cutS_length x lo hi) h.len, fun c hc => h.sg c ?_⟩
  unfold cutS at hc
  exact List.mem_of_mem_drop (List.mem_of_mem_take hc)
theorem tx_sign {c : Nat} (h : c < 1114112) : Tx 1 (⟨#[c]⟩ : Str) := ⟨by show 1 ≤ 1; decide, fun d hd => by
  have : d = c := by simpa using hd
  rw [this]
  exact h⟩
theorem tx_signs {cs : List Nat} {m : Nat} (hl : cs.length ≤ m) (h : ∀ c ∈ cs, c < 1114112) : Tx m (⟨cs.toArray⟩ : Str) := ⟨by show cs.toArray.size ≤ m; simpa using hl, fun c hc => h c (by simpa using hc)⟩
theorem atI_mem {α : Type} {xs : List α} {i : Int} (h0 : 0 ≤ i) (h1 : i < xs.length) : ∃ c, atI xs i = some c ∧ c ∈ xs := by
  have hlt : i.toNat < xs.length := by omega
  refine ⟨xs[i.toNat], ?_, List.getElem_mem hlt⟩
  unfold atI ixN
  rw [if_pos h0, if_pos h1]
  show xs[i.toNat]? = _
  exact List.getElem?_eq_getElem hlt
theorem all_nil {α : Type} {P : α → Prop} : ∀ v ∈ ([] : List α), P v := fun _ h => nomatch h
theorem all_cons {α : Type} {P : α → Prop} {x : α} {xs : List α} (h : P x) (hr : ∀ v ∈ xs, P v) : ∀ v ∈ x :: xs, P v := fun v hv => by
  rcases List.mem_cons.mp hv with rfl | hv
  · exact h
  · exact hr v hv
end Mc
/-! McRule: < and sorted of data of any depth, isinstance against a tuple of types, dict comprehensions with tuple keys. -/
namespace Mc
open PySem PySem.Spec PyProof.Rows L2
section
variable {X : Cx}
/-- x < y, data of any depth -/
def rLtD (K : PySem.W.Frag) : R2 := fun x y H Q => ∃ d e, Dp K H x d ∧ Dp K H y e ∧ PySem.W.alike d e = true ∧ d ≠ .none ∧ d.depth ≤ 60 ∧ Q (.bl (PySem.W.dataLt d e)) H
theorem op_ltD (hu : X.A.units + 64 < cLine) : OpR X (compareOp .Lt) (rLtD X.K) := by
  intro pins s σ H x y v u Q I rx ry h
  obtain ⟨d, e, hd, he, al, nn, dp, q⟩ := h
  obtain ⟨as, r1⟩ := Dp.reads I d x v hd rx
  obtain ⟨bs, r2⟩ := Dp.reads I e y u he ry
  exact PySem.W.lt_data r1 r2 al nn (by omega) ⟨.bl _, H, I, rfl, q⟩
/-- sorted(xs), the items data of any depth -/
def rSortedD (K : PySem.W.Frag) : List V → Hp → VK → Prop := fun vs H Q => ∃ (a : Addr) (xs : List V) (ds : List PyData), vs = [.ref a] ∧ SqL K H a xs ∧ DpAll K H xs ds ∧ PySem.W.AllAlike ds ∧ PySem.W.Sortable ds ∧ (∀ d ∈ ds, d.depth ≤ 60) ∧
  ∀ p, H p = none → Q (.ref p) (upd H p (.lst (((xs.zip ds).mergeSort (PySem.W.dataLe false Prod.snd)).map Prod.fst)))
theorem zip_snd {K : PySem.W.Frag} {H : Hp} : ∀ {xs : List V} {ds : List PyData}, DpAll K H xs ds → (xs.zip ds).map Prod.snd = ds
  | _, _, .nil => rfl
  | _, _, .cons _ r => congrArg (List.cons _) (zip_snd r)
theorem each_rel {K : PySem.W.Frag} {H : Hp} : ∀ {xs : List V} {ds : List PyData} {us : List Value}, DpAll K H xs ds → Vals xs us → PySem.W.EachIs (fun u (b : V × PyData) => RelV b.1 u) us (xs.zip ds)
  | _, _, _, .nil, .nil => .nil
  | _, _, _, .cons _ r, .cons h t => .cons h (each_rel r t)
theorem each_reads {pins : List (Addr × Obj)} {σ : L2.St} {H : Hp} {s : Shared} (I : Inv X pins σ H s) : ∀ {xs : List V} {ds : List PyData} {us : List Value}, DpAll X.K H xs ds → Vals xs us → PySem.W.EachIs (fun u (b : V × PyData) => ∃ as, Reads s.heap u b.2 as) us (xs.zip ds)
  | _, _, _, .nil, .nil => .nil
  | _, _, _, .cons d r, .cons h t => .cons (Dp.reads I _ _ _ d h) (each_reads I r t)
theorem vals_each : ∀ {us : List Value} {bs : List (V × PyData)}, PySem.W.EachIs (fun u (b : V × PyData) => RelV b.1 u) us bs → Vals (bs.map Prod.fst) us
  | _, _, .nil => .nil
  | _, _, .cons h t => .cons h (vals_each t)
theorem cr_sortedD (hu : X.A.units + 64 < cLine) : CallR X (.builtin "sorted") (rSortedD X.K) := by
  intro pins s σ H vs us Q I r h
  obtain ⟨a, xs, ds, rfl, hs, hd, hal, hk, hdp, q⟩ := h
  obtain ⟨its, rv, hl, hz⟩ := I.list hs
  obtain ⟨u, rfl, ru⟩ := vals1 r
  obtain rfl : u = Value.ref a := ru
  have en := zip_snd hd
  refine PySem.W.sorted_data (R := fun u (b : V × PyData) => RelV b.1 u) (enc := Prod.snd) (bs := xs.zip ds) hl.isList (each_rel hd rv) (each_reads I hd rv) (by rw [en]; exact hal) (by rw [en]; exact hk) ?_ (fun b hb => ?_) fun out ho ee => ?_
  · have h1 : (xs.zip ds).length ≤ xs.length := by
      rw [List.length_zip]
      omega
    omega
  · have hb2 : b.2 ∈ ds := by
      rw [← en]
      exact List.mem_map.mpr ⟨b, hb, rfl⟩
    have := hdp _ hb2
    omega
  · obtain ⟨n, hn⟩ := sortedAll_at s.heap its out.toArray
    refine ⟨.ref (s.heap.objs.size + 1), _, I.laid (a := s.heap.objs.size + 1) (o := .lst (((xs.zip ds).mergeSort (PySem.W.dataLe false Prod.snd)).map Prod.fst)) (t' := s.toks) (fun b o e => sortedAll_old e) (Nat.le_succ _) ⟨?_, out, n, vals_each ee, hn⟩, rfl, q _ (I.hok.fresh (Nat.le_succ _))⟩
    rw [List.length_map, List.length_mergeSort]
    have h1 : (xs.zip ds).length ≤ xs.length := by
      rw [List.length_zip]
      omega
    omega
/-- d[text], d a dict of the module -/
def rKd (K : PySem.W.Frag) (d : Addr) : R2 := fun x y H Q => ∃ (z : Str) (u0 : Value) (v0 : V), x = .ref d ∧ y = .str z ∧ PySem.W.nsIn K d z = some (some u0) ∧ RelV v0 u0 ∧ Q v0 H
theorem ix_kd {d : Addr} {es : Array DictEntry} {n : Nat} (D : KDict X.K X.w d es n) : IxR X (rKd X.K d) := by
  intro value slice pins s σ H x y v u Q I rx ry h hs
  obtain ⟨z, u0, v0, rfl, rfl, e, r, q⟩ := h
  have ev : v = Value.ref d := rx
  subst ev
  exact tail_any (kd_type D I) PySem.F.slot_dict_getitem.lookup (op_item_kd D pins s σ H (.ref d) (.str z) _ _ Q I rx ry ⟨z, u0, v0, rfl, rfl, e, r, q⟩) hs
/-- isinstance(x, (T, U)), x a datum -/
def rIsdT (K : PySem.W.Frag) : List V → Hp → VK → Prop := fun xs H Q => ∃ (x : V) (d : PyData) (tp : Addr) (m n : String) (b c : Bool), xs = [x, .ref tp] ∧ H tp = some (.tup [.ty m, .ty n]) ∧ Dq K H x d ∧ kitB (tyName d) m = some b ∧ kitB (tyName d) n = some c ∧ Q (.bl (b || c)) H
theorem call_isdT : CallR X (.builtin "isinstance") (rIsdT X.K) := by
  intro pins s σ H xs us Q I r h
  obtain ⟨x, d, tp, m, n, b, c, rfl, ht, hd, e1, e2, q⟩ := h
  refine call_isiT pins s σ H _ us Q I r ⟨x, tp, [.ty m, .ty n], .type (tyName d), [.type m, .type n], b || c, rfl, ht, .cons (.ty m) (.cons (.ty n) .nil), dq_ty hd, ?_, q⟩
  have k1 := kit_ty (K := X.K) e1
  have k2 := kit_ty (K := X.K) e2
  simp only [PySem.W.kitAny, k1, k2]
  cases b <;> cases c <;> rfl
end
end Mc
/-! McDcSelf: {y: True for y in l}, l a list of tuples of whole numbers and texts (the walk of a dict comprehension as in the guide's example of GoesComp). -/
namespace Mc
open PySem PySem.Spec PyProof.Rows L2
/-- the items of the list are tuples of these keys -/
abbrev KeysAt (H : Hp) : List V → List (List Key) → Prop := Paired fun v k => ∃ t, v = V.ref t ∧ H t = some (.tup (k.map kV))
def allT (ks : List (List Key)) : List (List Key × V) := ks.foldl (fun acc k => putK acc k (.bl true)) []
def tDcSelf (K : PySem.W.Frag) (te : TE) : TE := fun σ H Q => te σ H fun x H1 => ∃ (a : Addr) (xs : List V) (ks : List (List Key)), x = .ref a ∧ SqL K H1 a xs ∧ KeysAt H1 xs ks ∧ ∀ D, H1 D = none → Q (.ref D) (upd H1 D (.dT (allT ks)))
theorem allT_snoc (ks : List (List Key)) (k : List Key) : allT (ks ++ [k]) = putK (allT ks) k (.bl true) := by
  unfold allT
  rw [List.foldl_append]
  rfl
theorem allT_len (ks : List (List Key)) : (allT ks).length ≤ ks.length := by
  have h : ∀ (ks : List (List Key)) (acc : List (List Key × V)), (ks.foldl (fun acc k => putK acc k (.bl true)) acc).length ≤ acc.length + ks.length := by
    intro ks
    induction ks with
    | nil => intro acc; exact Nat.le_refl _
    | cons k ks ih =>
      intro acc
      have h1 := ih (putK acc k (.bl true))
      have h2 := length_putK acc k (.bl true)
      simp only [List.foldl_cons, List.length_cons]
      omega
  have := h ks []
  simpa [allT] using this
theorem keysAt_get {H : Hp} : ∀ {xs : List V} {ks : List (List Key)} {us : List Value}, KeysAt H xs ks → Vals xs us → ∀ (i : Nat) (u : Value), us[i]? = some u → ∃ (t : Addr) (k : List Key), u = Value.ref t ∧ ks[i]? = some k ∧ H t = some (.tup (k.map kV))
  | _, _, _, .nil, .nil, i, u, e => by simp at e
  | _, _, _, .cons ⟨t, e1, ht⟩ r, .cons rv rr, 0, u, e => by
    subst e1
    simp only [List.getElem?_cons_zero, Option.some.injEq] at e
    subst e
    exact ⟨t, _, rv, rfl, ht⟩
  | _, _, _, .cons _ r, .cons _ rr, i + 1, u, e => by
    obtain ⟨t, k, h1, h2, h3⟩ := keysAt_get r rr i u (by simpa using e)
    exact ⟨t, k, h1, by simpa using h2, h3⟩
theorem kt_is {P : Program} {w : World} {H : Hp} {h : Heap} (ok : HOk P w H h) : ∀ {kvs : List (List Key × V)} {ys : List (List Key × Addr × Value)}, KT H kvs ys → ∀ x ∈ ys, (tupleKind (mixKind P w)).is h x.1 x.2.1
  | _, _, .nil, x, hx => by simp at hx
  | _, _, .cons ⟨e, hb, _⟩ r, x, hx => by
    rcases List.mem_cons.mp hx with rfl | hx
    · rw [← e]
      exact key_of ok hb
    · exact kt_is ok r x hx
section
variable {X : Cx}
/-- what the comprehension owes where its list stands -/
theorem dcSelf_core {pins : List (Addr × Obj)} {σ : L2.St} {H1 : Hp} {s1 : Shared} {y : Str} {scope : Scope} {py pc pt : Pos} {kk : Nat} {a : Addr} {xs : List V} {ks : List (List Key)} {use : Option (Value → Sem Unit)} {Qf : Value → Shared → Prop}
    (hc : X.calm = true) (hu : X.A.units + 1 < cLine) (I1 : Inv X pins σ H1 s1) (hx : SqL X.K H1 a xs) (hk : KeysAt H1 xs ks) (hkind : scope.kind = .function) (hy : scope.names.lookup y = some .local) (hdb : (y == ("__debug__" : Str)) = false)
    (hR : ∀ (D C : Addr) (s' : Shared) (m : Str → Option Value), H1 D = none → Inv X pins σ (upd H1 D (.dT (allT ks))) s' → s'.heap.Ns C m → s1.heap.objs.size ≤ C → D ≠ C → upd H1 D (.dT (allT ks)) C = none →
      compEnds (model X.prog X.w) X.A X.xe use Qf (.ref D) (compEnvC scope (cloFrom X.env.cells scope.names []) C X.env) (.ok .next) s') :
    wpAny (model X.prog X.w) X.A (pyIter (.ref a)) (DcGoes (prog := X.prog) (w := X.w) X.A X.xe X.env scope (cloFrom X.env.cells scope.names []) (.Name y pt) [] (.Name y py) (.Constant (.bool true) kk pc) use Qf) X.xe s1 := by
  obtain ⟨its, rv, hl, hz⟩ := I1.list hx
  obtain ⟨hp, g, d, tk0, os⟩ := s1
  have hlt : a < hp.objs.size := by
    obtain ⟨o, ho, _⟩ := hl.isList
    exact Heap.lt_size ho
  have hh : X.A.handled = none := I1.ok.hd hc
  refine wpAny_pyIter_list hl.isList ?_
  refine ⟨_, _, _, _, _, _, rfl, .list (A := X.A) hh hp.objs.size a (Nat.ne_of_lt hlt) its.toArray, ?_, fun D C s3 hB hD0 => ?_⟩
  · exact ⟨⟨_, Heap.get?_push_size _ rfl, rfl, rfl⟩, hl.isList.at fun o e => Heap.get?_push_of_some _ e⟩
  obtain ⟨⟨h3, tk3, rfl⟩, old3, nD0, nC0, hDC, hnm⟩ := hB
  have szp : (hp.push { cls := .type "list_iterator", data := .fields #[.ref a, .int 0 0] }).objs.size = hp.objs.size + 1 := Heap.size_push ..
  have nD : (hp.objs.size + 1 : Nat) ≤ D := Nat.le_trans (Nat.le_of_eq szp.symm) nD0
  have nC : (hp.objs.size + 1 : Nat) ≤ C := Nat.le_trans (Nat.le_of_eq szp.symm) nC0
  have old : ∀ b o, hp.get? b = some o → h3.get? b = some o := fun b o e => old3 b o (Heap.get?_push_of_some _ e)
  have hyk : (compEnvC scope (cloFrom X.env.cells scope.names []) C X.env).kindOf y = some .local := lookup_relabel_local hy
  have hpl : ((compEnvC scope (cloFrom X.env.cells scope.names []) C X.env).scope.kind == .class || ((compEnvC scope (cloFrom X.env.cells scope.names []) C X.env).scope.kind == .module && (compEnvC scope (cloFrom X.env.cells scope.names []) C X.env).locals != (compEnvC scope (cloFrom X.env.cells scope.names []) C X.env).globals)) = false := by
    show (scope.kind == .class || (scope.kind == .module && _)) = false
    rw [hkind]
    rfl
  have ltC : ∀ b o, hp.get? b = some o → b ≠ C := fun b o e => Nat.ne_of_lt (Nat.lt_of_lt_of_le (Nat.lt_succ_of_lt (Heap.lt_size e)) nC)
  have ltD : ∀ b o, hp.get? b = some o → b ≠ D := fun b o e => Nat.ne_of_lt (Nat.lt_of_lt_of_le (Nat.lt_succ_of_lt (Heap.lt_size e)) nD)
  have neI : hp.objs.size ≠ C ∧ hp.objs.size ≠ D := ⟨Nat.ne_of_lt nC, Nat.ne_of_lt nD⟩
  have hlen : its.toArray.size = ks.length := by
    rw [List.size_toArray, ← rv.length]
    exact Paired.length hk
  refine ⟨fun i s' => ∃ h' tk m ys, s' = ⟨h', g, d, tk, os⟩ ∧ h'.Ns C m ∧ (∀ b o, hp.get? b = some o → h'.get? b = some o) ∧ h'.DictOfH (tupleKind (mixKind X.prog X.w)) D ys ∧ KT H1 (allT (ks.take i)) ys, ?_, ?_, ?_, ?_⟩
  · exact ⟨h3, tk3, _, [], rfl, hnm, old, ⟨_, #[], 0, hD0, ⟨rfl, rfl, rfl⟩, rfl, rfl, (fun _ z => by simp at z), List.nodup_nil⟩, .nil⟩
  · rintro i s' h' tk ⟨h4, tk4, m, ys, rfl, n4, k4, ⟨o, es, ep, e1, e2, e3, e4, _, e6⟩, rel⟩ kk' _
    have kold : ∀ b o, hp.get? b = some o → h'.get? b = some o := fun b o e => kk' b o (fun z => absurd (List.mem_singleton.mp z) (Nat.ne_of_lt (Heap.lt_size e))) (k4 b o e)
    exact ⟨h', tk, m, ys, rfl, n4.at' (fun o e => kk' _ o (fun z => absurd (List.mem_singleton.mp z).symm neI.1) e), kold, ⟨o, es, ep, kk' D o (fun z => absurd (List.mem_singleton.mp z).symm neI.2) e1, e2, e3, e4, kt_is (I1.hok.kept kold) rel, e6⟩, rel⟩
  · rintro i v s' hi hY st ⟨h4, tk4, m, ys, rfl, n4, k4, ⟨o, es, ep, e1, e2, e3, e4, _, e6⟩, rel⟩
    obtain ⟨t, k, rfl, hki, ht⟩ := keysAt_get hk rv i v (by simpa using hY)
    refine wpAny_assign_Name (wpAny_storeName_local hyk n4 (fun h5 n5 s5 => ?_) hpl)
    refine wpAny_tests_nil ?_
    show wpAny _ _ _ _ _ _
    rw [eval_Name _ _ _ hdb]
    refine wpAny_bind (wpAny_standAt (wpAny_loadName_local hkind hyk n5 (v := .ref t) (by simp) ?_))
    have k5 : ∀ b o, hp.get? b = some o → h5.get? b = some o := fun b o e => s5.extBut _ _ (ltC b o e) (k4 b o e)
    have ok5 := I1.hok.kept k5
    have hys : ys.length ≤ sizeLine := by
      rw [← Paired.length rel]
      have l1 := allT_len (ks.take i)
      rw [List.length_take] at l1
      have l2 : ks.length ≤ sizeLine := by
        rw [← hlen, List.size_toArray, ← rv.length]
        exact hz
      omega
    refine wpAny_Constant_bool ?_
    refine wpAny_dictSet_heap (knd := tupleKind (mixKind X.prog X.w)) (k := k) (show X.A.units < cLine by omega) (key_of ok5 ht) ⟨o, es, ep, s5.extBut _ _ hDC e1, e2, e3, e4, kt_is ok5 rel, e6⟩ (fun h6 dd6 sb6 => ?_) hys
    have k6 : ∀ b o, hp.get? b = some o → h6.get? b = some o := fun b o e => sb6.extBut _ _ (ltD b o e) (k5 b o e)
    have etk : ks.take (i + 1) = ks.take i ++ [k] := by
      rw [List.take_add_one, hki]
      rfl
    refine ⟨⟨h6, _, _, _, rfl, n5.extBut sb6.extBut hDC.symm, k6, dd6, ?_⟩, ?_⟩
    · rw [etk, allT_snoc]
      exact rel.put k ht rfl
    · exact ⟨st.1.at fun o e => sb6.extBut _ _ neI.2 (s5.extBut _ _ neI.1 e), hl.isList.at fun o e => k6 _ o e⟩
  · rintro s' ⟨h4, tk4, m, ys, rfl, n4, k4, ⟨o, es, ep, e1, e2, e3, e4, _, e6⟩, rel⟩
    have hDn : H1 D = none := I1.hok.fresh (Nat.le_of_succ_le nD)
    have hCn : H1 C = none := I1.hok.fresh (Nat.le_of_succ_le nC)
    rw [show ks.take its.toArray.size = ks by rw [hlen]; exact List.take_length] at rel
    refine hR D C ⟨h4, g, d, tk4, os⟩ m hDn (I1.laid (a := D) (o := .dT (allT ks)) (t' := tk4) (fun b o e => k4 b o e) (Nat.le_of_succ_le nD) ⟨?_, ?_, ys, rel.keeps (fun c zs ec => ?_), o, es, ep, e1, e2, e3, e4, e6⟩) n4 (Nat.le_of_succ_le nC) hDC (by rw [upd_ne hDC.symm]; exact hCn)
    · have l1 := allT_len ks
      have l2 : ks.length ≤ sizeLine := by
        rw [← hlen, List.size_toArray, ← rv.length]
        exact hz
      omega
    · have hb := I1.big
      exact beq_eq_false_iff_ne.mpr (Ne.symm (Nat.ne_of_lt (Nat.lt_of_lt_of_le (Nat.lt_succ_of_lt hb) nD)))
    · rw [upd_ne (ne_of_none ec hDn)]
      exact ec
theorem pe_dcSelf {y : Str} {iter : Expr} {te : TE} {scope : Scope} {py pc pt pos : Pos} {kk : Nat} (hc : X.calm = true) (hu : X.A.units + 1 < cLine) (he : PE X iter te) (hkind : scope.kind = .function) (hcell : ∀ z ∈ scope.names, z.2 ≠ .cell)
    (hfree : ∀ z ∈ scope.names, z.2 ≠ .free) (hnames : ∀ z ∈ scope.names, z.2 = .local → scope.names.lookup z.1 = some .local) (hy : scope.names.lookup y = some .local) (hdb : (y == ("__debug__" : Str)) = false := by decide)
    (hs : ∀ x, foldedSetIterable iter X.env x = pure x := by intro _; rfl) :
    PE X (.DictComp (.Name y py) (.Constant (.bool true) kk pc) [⟨.Name y pt, iter, [], 0⟩] scope pos) (tDcSelf X.K te) := by
  refine ⟨fun pins s σ H Q I h => ?_⟩
  refine DictComp_goes (closure_ok fun z hz e => absurd e (hfree z hz)) hcell hkind hnames (thn (he.run pins s σ H _ I h) ?_) hs
  rintro v s1 ⟨x, H1, I1, rx, a, xs, ks, rfl, hx, hk, q⟩
  cases rx
  refine dcSelf_core hc hu I1 hx hk hkind hy hdb fun D C s' m hDn J hn hC hDC hCn => ⟨m, hn, fun h' sb => ?_⟩
  obtain ⟨f0, f1, f2, f3, f4, f5⟩ := I1.fpOk hC hCn
  exact ⟨.ref D, _, J.turned (t' := s'.toks) (fun b o hb e => (sb.2 b hb).trans e) f0 f1 f3 f4 f5, rfl, q D hDn⟩
/-- x = {y: True for y in l}, x a local of the def -/
theorem ps_setDcSelf {i : Nat} {x y : Str} {iter : Expr} {te : TE} {scope : Scope} {px py pc pt pos spos : Pos} {kk : Nat} (hc : X.calm = true) (hN : X.N.Nodup) (hi : X.N[i]? = some x) (hxl : X.env.scope.names.lookup x = some .local)
    (hsw : swapsWith (.DictComp (.Name y py) (.Constant (.bool true) kk pc) [⟨.Name y pt, iter, [], 0⟩] scope pos) (some (.Name x px)) spos.line X.env = pure true)
    (hu : X.A.units + 1 < cLine) (he : PE X iter te) (hkind : scope.kind = .function) (hcell : ∀ z ∈ scope.names, z.2 ≠ .cell)
    (hfree : ∀ z ∈ scope.names, z.2 ≠ .free) (hnames : ∀ z ∈ scope.names, z.2 = .local → scope.names.lookup z.1 = some .local) (hy : scope.names.lookup y = some .local) (hdb : (y == ("__debug__" : Str)) = false := by decide)
    (hs : ∀ x, foldedSetIterable iter X.env x = pure x := by intro _; rfl) :
    PS X (.Assign [.Name x px] (.DictComp (.Name y py) (.Constant (.bool true) kk pc) [⟨.Name y pt, iter, [], 0⟩] scope pos) spos) (tAsg (tDcSelf X.K te) (gName i)) := by
  refine ⟨fun pins s σ H D0 I h => ?_⟩
  rw [exec_Assign_Name_used _ _ _ _ hsw, arm_evalThenUse_DictComp]
  refine wpAny_bind (wpAny_standAt (wpAny_bind (wpAny_bind ?_)))
  have h : tDcSelf X.K te σ H (fun v H1 => gName i v σ H1 D0.nx) := h
  refine thn (comprehension_at (use := some (assign (.Name x px) X.env)) (Q := fun _ s' => SP X pins D0 .next s') rfl hs (closure_ok fun z hz e => absurd e (hfree z hz)) hkind hnames
    (thn (he.run pins s σ H _ I h) ?_)) fun _ s' hq => wpAny_pure (wpAny_pure hq)
  rintro v s1 ⟨w0, H1, I1, rx, a, xs, ks, rfl, hx, hk, q⟩
  cases rx
  refine wpAny_mono (dcSelf_core (use := some (assign (.Name x px) X.env)) (Qf := fun _ s' => SP X pins D0 .next s') hc hu I1 hx hk hkind hy hdb ?_) (fun it s2 h2 => compBlock_dict hcell hkind h2) fun _ _ e => e
  intro D C s' m hDn J hn hC hDC hCn
  show wpAny _ _ (assign (.Name x px) X.env (.ref D)) _ _ _
  refine wpAny_assign_Name (store_ok2 (v := V.ref D) J hN hi (.inl hxl) rfl (fun s2 I2 ⟨b, sb, hb⟩ => ?_) (.inr hxl))
  obtain ⟨f0, f1, f2, f3, f4, f5⟩ := I1.fpOk hC hCn
  have hbC : C ≠ b := by
    rcases hb with z | z
    · rw [z]
      exact f1
    · exact fun e => f4 x b z e.symm
  exact ⟨m, hn.sameBut sb hbC, fun h3 sb3 => ⟨_, _, I2.turned (t' := s2.toks) (fun b o hb e => (sb3.2 b hb).trans e) f0 f1 f3 f4 f5, q D hDn⟩⟩
/-- x = {k: v for target in iter ..}, x a local of the def -/
theorem ps_setDc {i : Nat} {x : Str} {px : Pos} {kx vx tg iter : Expr} {ifs : List Expr} {scope : Scope} {own : List (Str × Nat)} {pos spos : Pos} {wi : TI} {g : TG} {tt : TT} {tk tv : TE} (hc : X.calm = true) (hN : X.N.Nodup) (hx : X.N[i]? = some x) (hxl : X.env.scope.names.lookup x = some .local)
    (hsw : swapsWith (.DictComp kx vx [⟨tg, iter, ifs, 0⟩] scope pos) (some (.Name x px)) spos.line X.env = pure true) (hi : PI X tg iter wi) (ok : BlkOk X.N X.env.scope scope own)
    (hg : ∀ (s : Shared) (H : Hp) (C : Addr) (cl : List (Str × Addr)) (fp : List Addr), PG (X.blk s H scope (compEnvC scope cl C X.env) fp) tg g)
    (ht : ∀ (s : Shared) (H : Hp) (C : Addr) (cl : List (Str × Addr)) (fp : List Addr), PTs (X.blk s H scope (compEnvC scope cl C X.env) fp) ifs tt)
    (hk : ∀ (s : Shared) (H : Hp) (C : Addr) (cl : List (Str × Addr)) (fp : List Addr), PE (X.blk s H scope (compEnvC scope cl C X.env) fp) kx tk)
    (he : ∀ (s : Shared) (H : Hp) (C : Addr) (cl : List (Str × Addr)) (fp : List Addr), PE (X.blk s H scope (compEnvC scope cl C X.env) fp) vx tv)
    (hs : ∀ v, foldedSetIterable iter X.env v = pure v := by intro _; rfl) :
    PS X (.Assign [.Name x px] (.DictComp kx vx [⟨tg, iter, ifs, 0⟩] scope pos) spos) (tAsg (tDc wi g tt tk tv (own.map (·.2))) (gName i)) := by
  refine ⟨fun pins s σ H D0 I h => ?_⟩
  rw [exec_Assign_Name_used _ _ _ _ hsw, arm_evalThenUse_DictComp]
  refine wpAny_bind (wpAny_standAt (wpAny_bind (wpAny_bind ?_)))
  have h : tDc wi g tt tk tv (own.map (·.2)) σ H (fun v H1 => gName i v σ H1 D0.nx) := h
  refine thn (dc_core (use := some (assign (.Name x px) X.env)) (Qf := fun _ s' => SP X pins D0 .next s') hc hN I hi ok hg ht hk he hs h ?_) fun _ s' hq => wpAny_pure (wpAny_pure hq)
  intro D C s' m H' J q hn ⟨f0, f1, f2, f3, f4, f5⟩
  show wpAny _ _ (assign (.Name x px) X.env (.ref D)) _ _ _
  refine wpAny_assign_Name (store_ok2 (v := V.ref D) J hN hx (.inl hxl) rfl (fun s2 I2 ⟨b, sb, hb⟩ => ?_) (.inr hxl))
  have hbC : C ≠ b := by
    rcases hb with z | z
    · rw [z]
      exact f1
    · exact fun e => f4 x b z e.symm
  exact ⟨m, hn.sameBut sb hbC, fun h3 sb3 => ⟨_, _, I2.turned (t' := s2.toks) (fun b o hb e => (sb3.2 b hb).trans e) f0 f1 f3 f4 f5, q⟩⟩
/-- the model stores ahead of the block's going: a dict comprehension on one line, its target a local -/
theorem sw_trueD {kx vx : Expr} {gs : List Comprehension} {scope : Scope} {pos py : Pos} {y : Str} {l : Nat} {env : Env} (hk : env.scope.kind = .function) (hy : env.scope.names.lookup y = some .local) (hl : (py.line == pos.line) = true)
    (ha : (scope.names.any fun (n, k) => n == y && (k == .local || k == .cell)) = false) : swapsWith (.DictComp kx vx gs scope pos) (some (.Name y py)) l env = pure true := by
  have hb : env.blockKind = .function := by
    unfold Env.blockKind
    rw [hk]
    rfl
  have ky : env.kindOf y = some .local := hy
  show (pure (env.blockKind == .function && env.kindOf y == some .local && py.line == pos.line && !(scope.names.any fun (n, k) => n == y && (k == .local || k == .cell))) : Sem Bool) = pure true
  rw [hb, ky, hl, ha]
  rfl
end
end Mc
/-! McGraph: nets without a program: cells, ports, the search, what it finds. -/
namespace Mc
open PySem PySem.Spec PyProof.Rows L2

abbrev Port : Type := Int × Int
/-- a kind's number of ports -/
def arS (x : Str) : Nat := if x = "eraser" then 1 else 3
def KindS (x : Str) : Prop := x = "red" ∨ x = "blue" ∨ x = "eraser"
/-- the kinds by cell, the number of ends, what lies across each port -/
structure Gr where
  kd : List Str
  ends : Nat
  ac : Port → Port
namespace Gr
variable (G : Gr)
def n : Nat := G.kd.length
def kind (c : Nat) : Str := G.kd.getD c ""
def ar (c : Nat) : Nat := arS (G.kind c)
/-- a port of the net -/
def port (p : Port) : Prop := (p.1 = -1 ∧ 0 ≤ p.2 ∧ p.2 < G.ends) ∨ (0 ≤ p.1 ∧ p.1 < G.n ∧ 0 ≤ p.2 ∧ p.2 < G.ar p.1.toNat)
structure Ok : Prop where
  kinds : ∀ x ∈ G.kd, KindS x
  small : G.n ≤ 1000
  few : G.ends ≤ 12
  there : ∀ p, G.port p → G.port (G.ac p)
  back : ∀ p, G.port p → G.ac (G.ac p) = p
  other : ∀ p, G.port p → G.ac p ≠ p
/-- the cells (or -1) across the ports of c -/
def nb (c : Nat) : List Int := (List.range (G.ar c)).map fun (k : Nat) => (G.ac ((c : Int), (k : Int))).1
end Gr

/-! ### the search -/
def addN (f : List Nat) (o : Int) : List Nat := if 0 ≤ o ∧ o.toNat ∉ f then f ++ [o.toNat] else f
def visit (l : List Int) (f : List Nat) : List Nat := l.foldl addN f
/-- what is found when p places have been looked at -/
def bfsN (nb : Nat → List Int) (first : List Nat) : Nat → List Nat
  | 0 => first
  | p + 1 => match (bfsN nb first p)[p]? with
    | none => bfsN nb first p
    | some c => visit (nb c) (bfsN nb first p)
section
variable {nb : Nat → List Int} {first : List Nat}
theorem addN_sub (f : List Nat) (o : Int) : ∃ r, addN f o = f ++ r := by
  unfold addN
  split
  · exact ⟨_, rfl⟩
  · exact ⟨[], (List.append_nil f).symm⟩
theorem visit_sub : ∀ (l : List Int) (f : List Nat), ∃ r, visit l f = f ++ r
  | [], f => ⟨[], (List.append_nil f).symm⟩
  | o :: l, f => by
    obtain ⟨r, e⟩ := addN_sub f o
    obtain ⟨r2, e2⟩ := visit_sub l (addN f o)
    refine ⟨r ++ r2, ?_⟩
    show visit l (addN f o) = _
    rw [e2, e, List.append_assoc]
theorem addN_nodup {f : List Nat} (h : f.Nodup) (o : Int) : (addN f o).Nodup := by
  unfold addN
  split
  · rename_i c
    refine List.nodup_append.mpr ⟨h, List.pairwise_singleton _ _, fun a ha b hb => ?_⟩
    rw [List.mem_singleton.mp hb]
    rintro rfl
    exact c.2 ha
  · exact h
theorem visit_nodup : ∀ (l : List Int) {f : List Nat}, f.Nodup → (visit l f).Nodup
  | [], f, h => h
  | o :: l, f, h => visit_nodup l (addN_nodup h o)
theorem addN_mem {f : List Nat} {o : Int} {c : Nat} (h : c ∈ addN f o) : c ∈ f ∨ (0 ≤ o ∧ c = o.toNat) := by
  unfold addN at h
  split at h
  · rename_i q
    rcases List.mem_append.mp h with h | h
    · exact .inl h
    · exact .inr ⟨q.1, List.mem_singleton.mp h⟩
  · exact .inl h
theorem visit_mem : ∀ {l : List Int} {f : List Nat} {c : Nat}, c ∈ visit l f → c ∈ f ∨ ∃ o ∈ l, 0 ≤ o ∧ c = o.toNat
  | [], f, c, h => .inl h
  | o :: l, f, c, h => by
    rcases visit_mem (l := l) (f := addN f o) h with h | ⟨u, hu, h⟩
    · rcases addN_mem h with h | h
      · exact .inl h
      · exact .inr ⟨o, List.mem_cons_self, h⟩
    · exact .inr ⟨u, List.mem_cons_of_mem _ hu, h⟩
theorem mem_visit : ∀ {l : List Int} {f : List Nat} {o : Int}, o ∈ l → 0 ≤ o → o.toNat ∈ visit l f
  | u :: l, f, o, h, h0 => by
    rcases List.mem_cons.mp h with rfl | h
    · obtain ⟨r, e⟩ := visit_sub l (addN f o)
      show o.toNat ∈ visit l (addN f o)
      rw [e]
      refine List.mem_append_left _ ?_
      unfold addN
      split
      · exact List.mem_append_right _ (List.mem_singleton.mpr rfl)
      · rename_i c
        exact Classical.not_not.mp fun z => c ⟨h0, z⟩
    · exact mem_visit (l := l) (f := addN f u) h h0
theorem bfsN_sub (p : Nat) : ∃ r, bfsN nb first (p + 1) = bfsN nb first p ++ r := by
  show ∃ r, (match (bfsN nb first p)[p]? with | none => bfsN nb first p | some c => visit (nb c) (bfsN nb first p)) = _
  cases (bfsN nb first p)[p]? with
  | none => exact ⟨[], (List.append_nil _).symm⟩
  | some c => exact visit_sub _ _
theorem bfsN_sub' {p q : Nat} (h : p ≤ q) : ∃ r, bfsN nb first q = bfsN nb first p ++ r := by
  induction q with
  | zero =>
    have : p = 0 := by omega
    subst this
    exact ⟨[], (List.append_nil _).symm⟩
  | succ q ih =>
    by_cases e : p = q + 1
    · subst e
      exact ⟨[], (List.append_nil _).symm⟩
    · obtain ⟨r, hr⟩ := ih (by omega)
      obtain ⟨r2, h2⟩ := bfsN_sub (nb := nb) (first := first) q
      exact ⟨r ++ r2, by rw [h2, hr, List.append_assoc]⟩
theorem bfsN_nodup (h : first.Nodup) : ∀ p, (bfsN nb first p).Nodup
  | 0 => h
  | p + 1 => by
    show (match (bfsN nb first p)[p]? with | none => bfsN nb first p | some c => visit (nb c) (bfsN nb first p)).Nodup
    cases (bfsN nb first p)[p]? with
    | none => exact bfsN_nodup h p
    | some c => exact visit_nodup _ (bfsN_nodup h p)
/-- a set of cells that holds the first ones and, with a cell, the cells across holds all that is found -/
theorem bfsN_within {S : Nat → Prop} (h0 : ∀ c ∈ first, S c) (hs : ∀ c, S c → ∀ o ∈ nb c, 0 ≤ o → S o.toNat) : ∀ p, ∀ c ∈ bfsN nb first p, S c
  | 0, c, hc => h0 c hc
  | p + 1, c, hc => by
    have ih := bfsN_within h0 hs p
    have hc : c ∈ (match (bfsN nb first p)[p]? with | none => bfsN nb first p | some c => visit (nb c) (bfsN nb first p)) := hc
    cases e : (bfsN nb first p)[p]? with
    | none =>
      rw [e] at hc
      exact ih c hc
    | some u =>
      rw [e] at hc
      have hu := ih u (List.mem_of_getElem? e)
      rcases visit_mem hc with hc | ⟨o, ho, h1, rfl⟩
      · exact ih c hc
      · exact hs u hu o ho h1
theorem bfsN_stop {p : Nat} (h : (bfsN nb first p).length ≤ p) : ∀ q, p ≤ q → bfsN nb first q = bfsN nb first p := by
  intro q hq
  induction q with
  | zero =>
    have : p = 0 := by omega
    subst this
    rfl
  | succ q ih =>
    by_cases e : p = q + 1
    · subst e
      rfl
    · have e1 := ih (by omega)
      show (match (bfsN nb first q)[q]? with | none => bfsN nb first q | some c => visit (nb c) (bfsN nb first q)) = _
      rw [e1, List.getElem?_eq_none (by omega)]
end
theorem len_of_sub {α : Type} [BEq α] [LawfulBEq α] : ∀ {l l2 : List α}, l.Nodup → (∀ c ∈ l, c ∈ l2) → l.length ≤ l2.length
  | [], _, _, _ => Nat.zero_le _
  | a :: l, l2, hn, h => by
    obtain ⟨h1, h2⟩ := List.pairwise_cons.mp hn
    have ha := h a List.mem_cons_self
    have ih := len_of_sub (l := l) (l2 := l2.erase a) h2 fun c hc => (List.mem_erase_of_ne (h1 c hc).symm).mpr (h c (List.mem_cons_of_mem _ hc))
    rw [List.length_erase_of_mem ha] at ih
    have := List.length_pos_of_mem ha
    rw [List.length_cons]
    omega
/-- distinct numbers below n are at most n -/
theorem nodup_len {l : List Nat} {n : Nat} (hn : l.Nodup) (h : ∀ c ∈ l, c < n) : l.length ≤ n := by
  have := len_of_sub hn (l2 := List.range n) fun c hc => List.mem_range.mpr (h c hc)
  rwa [List.length_range] at this
/-- behind the last place all that lies across is found -/
theorem bfsN_closed {nb : Nat → List Int} {first : List Nat} {N : Nat} (hl : (bfsN nb first N).length ≤ N) {c : Nat} (hc : c ∈ bfsN nb first N) {o : Int} (ho : o ∈ nb c) (h0 : 0 ≤ o) : o.toNat ∈ bfsN nb first N := by
  obtain ⟨p, hp⟩ := List.getElem?_of_mem hc
  have hpl : p < (bfsN nb first N).length := by
    rcases Nat.lt_or_ge p (bfsN nb first N).length with h | h
    · exact h
    · rw [List.getElem?_eq_none h] at hp
      cases hp
  -- the place p is looked at in the step from p to p + 1
  have key : ∀ q, p < (bfsN nb first q).length → (bfsN nb first q)[p]? = some c := by
    intro q hq
    rcases Nat.le_total q N with h | h
    · obtain ⟨r, e⟩ := bfsN_sub' (nb := nb) (first := first) h
      rw [e, List.getElem?_append_left hq] at hp
      exact hp
    · rw [bfsN_stop hl q h]
      exact hp
  by_cases hlen : p < (bfsN nb first p).length
  · have e1 : bfsN nb first (p + 1) = visit (nb c) (bfsN nb first p) := by
      show (match (bfsN nb first p)[p]? with | none => bfsN nb first p | some c => visit (nb c) (bfsN nb first p)) = _
      rw [key p hlen]
    have h1 : o.toNat ∈ bfsN nb first (p + 1) := by
      rw [e1]
      exact mem_visit ho h0
    obtain ⟨r, e⟩ := bfsN_sub' (nb := nb) (first := first) (show p + 1 ≤ N by omega)
    rw [e]
    exact List.mem_append_left _ h1
  · have e := bfsN_stop (nb := nb) (first := first) (p := p) (by omega) N (by omega)
    rw [e] at hpl
    exact absurd hpl hlen

/-! ### tuples stay, whatever else is written -/
def IsTup : HO → Prop
  | .tup _ => True
  | .frz _ (.tup _) => True
  | _ => False
def TExt (H H' : Hp) : Prop := ∀ c o, H c = some o → IsTup o → H' c = some o
theorem TExt.refl (H : Hp) : TExt H H := fun _ _ e _ => e
theorem TExt.trans {H H1 H2 : Hp} (a : TExt H H1) (b : TExt H1 H2) : TExt H H2 := fun c o e t => b c o (a c o e t) t
theorem Ext.t {H H' : Hp} (e : Ext H H') : TExt H H' := fun c o h _ => e c o h
theorem TExt.put {H : Hp} {a : Addr} {u o : HO} (h : H a = some u) (hu : ¬ IsTup u) : TExt H (upd H a o) := fun c v e t => by
  have : c ≠ a := by
    rintro rfl
    rw [h] at e
    cases e
    exact hu t
  rw [upd_ne this]
  exact e
theorem TExt.sqT {K : PySem.W.Frag} {H H' : Hp} {a : Addr} {xs : List V} (e : TExt H H') (h : SqT K H a xs) : SqT K H' a xs := by
  rcases h with (h | ⟨o, h⟩) | h
  · exact .inl (.inl (e _ _ h trivial))
  · exact .inl (.inr ⟨o, e _ _ h trivial⟩)
  · exact .inr h
mutual
/-- no list and no dict within -/
def tupOnly : PyData → Bool
  | .tuple ds => tupOnlyAll ds
  | .none | .bool _ | .int _ | .str _ => true
  | .list _ | .dict _ => false
def tupOnlyAll : List PyData → Bool
  | [] => true
  | d :: ds => tupOnly d && tupOnlyAll ds
end
mutual
theorem dp_text {K : PySem.W.Frag} {H H' : Hp} (e : TExt H H') : ∀ (d : PyData) (v : V), tupOnly d = true → Dp K H v d → Dp K H' v d
  | .none, _, _, h => by cases h; exact .non
  | .bool _, _, _, h => by cases h; exact .bl _
  | .int _, _, _, h => by cases h; exact .int _
  | .str _, _, _, h => by cases h; exact .str _
  | .list _, _, n, _ => by simp [tupOnly] at n
  | .dict _, _, n, _ => by simp [tupOnly] at n
  | .tuple ds, _, n, h => by
    simp only [tupOnly] at n
    cases h with
    | tup s r => exact .tup (e.sqT s) (dpAll_text e ds _ n r)
theorem dpAll_text {K : PySem.W.Frag} {H H' : Hp} (e : TExt H H') : ∀ (ds : List PyData) (vs : List V), tupOnlyAll ds = true → DpAll K H vs ds → DpAll K H' vs ds
  | [], _, _, h => by cases h; exact .nil
  | d :: ds, _, n, h => by
    simp only [tupOnlyAll, Bool.and_eq_true] at n
    cases h with
    | cons h1 h2 => exact .cons (dp_text e d _ n.1 h1) (dpAll_text e ds _ n.2 h2)
end
theorem tupOnlyAll_map {α : Type} (f : α → PyData) (h : ∀ a, tupOnly (f a) = true) : ∀ l : List α, tupOnlyAll (l.map f) = true
  | [] => by simp [tupOnlyAll]
  | a :: l => by simp [tupOnlyAll, h a, tupOnlyAll_map f h l]
theorem dpAll_append {K : PySem.W.Frag} {H : Hp} : ∀ {xs ys : List V} {ds es : List PyData}, DpAll K H xs ds → DpAll K H ys es → DpAll K H (xs ++ ys) (ds ++ es)
  | _, _, _, _, .nil, h => h
  | _, _, _, _, .cons a r, h => .cons a (dpAll_append r h)
theorem paired_append {α β : Type} {R : α → β → Prop} : ∀ {xs xs' : List α} {ys ys' : List β}, Paired R xs ys → Paired R xs' ys' → Paired R (xs ++ xs') (ys ++ ys')
  | _, _, _, _, .nil, h => h
  | _, _, _, _, .cons a r, h => .cons a (paired_append r h)
theorem paired_get {α β : Type} {R : α → β → Prop} : ∀ {xs : List α} {ys : List β}, Paired R xs ys → ∀ (i : Nat) (x : α), xs[i]? = some x → ∃ y, ys[i]? = some y ∧ R x y
  | _, _, .nil, i, x, e => by simp at e
  | _, _, .cons a r, 0, x, e => by
    simp only [List.getElem?_cons_zero, Option.some.injEq] at e
    subst e
    exact ⟨_, rfl, a⟩
  | _, _, .cons a r, i + 1, x, e => by
    simp only [List.getElem?_cons_succ] at e
    obtain ⟨y, h1, h2⟩ := paired_get r i x e
    exact ⟨y, by simpa using h1, h2⟩
/-- a dict comprehension over a walk -/
theorem dc_it {J : It} {n : Nat} {G : Hp → Prop} {Y : Nat → Hp → V → Hp → Prop} (w : Walk J n G Y) {g : TG} {tt : TT} {tk tv : TE} {vs : List Nat} {σ : L2.St} {H1 : Hp} {D : Addr} {Qd : Hp → Prop} (Pv : Nat → Hp → Prop) (h0 : Pv 0 (upd H1 D (.dK [])))
    (hG : ∀ i H, i ≤ n → Pv i H → G H)
    (hs : ∀ i x H H', i < n → Pv i H → Y i H x H' → g x (wipe σ vs) H' fun σ2 H2 => wipe σ2 vs = wipe σ vs ∧ tt σ2 H2 fun b H3 =>
      if b = true then tk σ2 H3 fun y H4 => tv σ2 H4 fun z H5 => ∃ kvs k, y = kV k ∧ H5 D = some (.dK kvs) ∧ kvs.length < sizeLine ∧ Pv (i + 1) (upd H5 D (.dK (putK kvs k z))) else Pv (i + 1) H3) (hd : ∀ H, Pv n H → Qd H) :
    ∃ W : Nat → Nat → Hp → Prop, (∃ m, W 0 m (upd H1 D (.dK []))) ∧ ∀ i m H, W i m H → (J.stop i H ∧ Qd H) ∨ (J.go i H ∧ ∃ Nx : Hp → Prop, (∀ H', Nx H' → ∃ m', m' < m ∧ W (i + 1) m' H') ∧
      ∀ x H', J.yld i H x H' → g x (wipe σ vs) H' fun σ2 H2 => wipe σ2 vs = wipe σ vs ∧ tt σ2 H2 fun b H3 =>
        if b = true then tk σ2 H3 fun y H4 => tv σ2 H4 fun z H5 => ∃ kvs k, y = kV k ∧ H5 D = some (.dK kvs) ∧ kvs.length < sizeLine ∧ Nx (upd H5 D (.dK (putK kvs k z))) else Nx H3) := by
  refine ⟨fun i m H => i ≤ n ∧ m + i = n ∧ Pv i H, ⟨n, Nat.zero_le _, rfl, h0⟩, ?_⟩
  rintro i m H ⟨hi, hm, pv⟩
  have hg := hG i H hi pv
  rcases Nat.lt_or_ge i n with lt | ge
  · exact .inr ⟨w.goes i H lt hg, Pv (i + 1), fun H' pv' => ⟨m - 1, by omega, by omega, by omega, pv'⟩, fun x H' yx => hs i x H H' lt pv (w.yields i H x H' lt hg yx)⟩
  · obtain rfl : i = n := by omega
    exact .inl ⟨w.stops H hg, hd H pv⟩
end Mc
/-! McSeq: comprehensions over walks, by what each turn makes; ports and wires in the heap. -/
namespace Mc
open PySem PySem.Spec PyProof.Rows L2
/-- a relation of values that looks at tuples alone -/
def TMono {α : Type} (R : Hp → V → α → Prop) : Prop := ∀ {H H' : Hp} {v : V} {a : α}, TExt H H' → R H v a → R H' v a
theorem TMono.paired {α : Type} {R : Hp → V → α → Prop} (m : TMono R) {H H' : Hp} {xs : List V} {l : List α} (e : TExt H H') (h : Paired (R H) xs l) : Paired (R H') xs l := L2.Paired.mapP h fun _ _ r => m e r
theorem keepH {H G' : Hp} {o : HO} {c : Addr} (e : Ext H G') (hc : H c = none) : Ext H (upd G' c o) := fun b u hb => by
  have : b ≠ c := fun z => by
    rw [z, hc] at hb
    cases hb
  rw [upd_ne this]
  exact e b u hb
theorem paired_snoc {α β : Type} {R : α → β → Prop} {xs : List α} {ys : List β} {x : α} {y : β} (h : Paired R xs ys) (r : R x y) : Paired R (xs ++ [x]) (ys ++ [y]) := paired_append h (.cons r .nil)
/-- a comprehension that makes new tuples alone; a turn may be passed over -/
theorem lc_ext {J : It} {n : Nat} {G : Hp → Prop} {Y : Nat → Hp → V → Hp → Prop} (w : Walk J n G Y) {α : Type} (R : Hp → V → α → Prop) (m : TMono R) (f : Nat → Option α) {g : TG} {tt : TT} {te : TE} {vs : List Nat} {σ : L2.St} {H1 : Hp} {D : Addr} {Qd : Hp → Prop}
    (hD : H1 D = none) (hn : n ≤ 1000000) (hG : ∀ H, Ext H1 H → G H)
    (hs : ∀ i x H H' (Qe : VK) (Qn : Hp → Prop), i < n → Ext H1 H → Y i H x H' → (∀ a, f i = some a → ∀ y H4, Ext H H4 → R H4 y a → Qe y H4) → (f i = none → ∀ H3, Ext H H3 → Qn H3) →
      g x (wipe σ vs) H' fun σ2 H2 => wipe σ2 vs = wipe σ vs ∧ tt σ2 H2 fun b H3 => if b = true then te σ2 H3 Qe else Qn H3)
    (hd : ∀ zs H, H D = some (.lst zs) → Paired (R H) zs ((List.range n).filterMap f) → Ext H1 H → Qd H) :
    ∃ W : Nat → Nat → Hp → Prop, (∃ m, W 0 m (upd H1 D (.lst []))) ∧ ∀ i m H, W i m H →
      (J.stop i H ∧ Qd H) ∨ (J.go i H ∧ ∃ Nx : Hp → Prop, (∀ H', Nx H' → ∃ m', m' < m ∧ W (i + 1) m' H') ∧ ∀ x H', J.yld i H x H' → g x (wipe σ vs) H' fun σ2 H2 => wipe σ2 vs = wipe σ vs ∧ tt σ2 H2 fun b H3 =>
        if b = true then te σ2 H3 fun y H4 => ∃ acc, H4 D = some (.lst acc) ∧ acc.length < sizeLine ∧ Nx (upd H4 D (.lst (acc ++ [y]))) else Nx H3) := by
  refine lc_it w (fun i H => ∃ zs, H D = some (.lst zs) ∧ Paired (R H) zs ((List.range i).filterMap f) ∧ Ext H1 H) ⟨[], upd_same, .nil, Ext.new hD⟩ (fun i H _ ⟨_, _, _, e⟩ => hG H e) ?_ ?_
  · rintro i x H H' hi ⟨zs, hz, hp, he⟩ hy
    have len : zs.length < sizeLine := by
      have h1 := Paired.length hp
      have h2 := List.length_filterMap_le f (List.range i)
      rw [List.length_range] at h2
      exact Nat.lt_of_lt_of_le (show zs.length < 1000001 by omega) (by decide)
    refine hs i x H H' _ _ hi he hy (fun a ha y H4 e4 r4 => ⟨zs, e4 _ _ hz, len, zs ++ [y], upd_same, ?_, keepH (he.trans e4) hD⟩) (fun hf H3 e3 => ⟨zs, e3 _ _ hz, ?_, he.trans e3⟩)
    · rw [List.range_succ, List.filterMap_append]
      have e : (List.filterMap f [i]) = [a] := by simp [ha]
      rw [e]
      have t : TExt H4 (upd H4 D (.lst (zs ++ [y]))) := TExt.put (e4 _ _ hz) fun z => z
      exact paired_snoc (m.paired (e4.t.trans t) hp) (m t r4)
    · rw [List.range_succ, List.filterMap_append]
      have e : (List.filterMap f [i]) = [] := by simp [hf]
      rw [e, List.append_nil]
      exact m.paired e3.t hp
  · rintro H ⟨zs, hz, hp, he⟩
    exact hd zs H hz hp he
theorem filterMap_some {α : Type} (f : Nat → α) (l : List Nat) : l.filterMap (fun i => some (f i)) = l.map f := by
  induction l with
  | nil => rfl
  | cons a l ih => simp
/-- .. no turn is passed over -/
theorem lc_all {J : It} {n : Nat} {G : Hp → Prop} {Y : Nat → Hp → V → Hp → Prop} (w : Walk J n G Y) {α : Type} (R : Hp → V → α → Prop) (m : TMono R) (f : Nat → α) {g : TG} {te : TE} {vs : List Nat} {σ : L2.St} {H1 : Hp} {D : Addr} {Qd : Hp → Prop}
    (hD : H1 D = none) (hn : n ≤ 1000000) (hG : ∀ H, Ext H1 H → G H)
    (hs : ∀ i x H H' (Qe : VK), i < n → Ext H1 H → Y i H x H' → (∀ y H4, Ext H H4 → R H4 y (f i) → Qe y H4) →
      g x (wipe σ vs) H' fun σ2 H2 => wipe σ2 vs = wipe σ vs ∧ te σ2 H2 Qe)
    (hd : ∀ zs H, H D = some (.lst zs) → Paired (R H) zs ((List.range n).map f) → Ext H1 H → Qd H) :
    ∃ W : Nat → Nat → Hp → Prop, (∃ m, W 0 m (upd H1 D (.lst []))) ∧ ∀ i m H, W i m H →
      (J.stop i H ∧ Qd H) ∨ (J.go i H ∧ ∃ Nx : Hp → Prop, (∀ H', Nx H' → ∃ m', m' < m ∧ W (i + 1) m' H') ∧ ∀ x H', J.yld i H x H' → g x (wipe σ vs) H' fun σ2 H2 => wipe σ2 vs = wipe σ vs ∧ tYes σ2 H2 fun b H3 =>
        if b = true then te σ2 H3 fun y H4 => ∃ acc, H4 D = some (.lst acc) ∧ acc.length < sizeLine ∧ Nx (upd H4 D (.lst (acc ++ [y]))) else Nx H3) := by
  refine lc_it w (fun i H => ∃ zs, H D = some (.lst zs) ∧ Paired (R H) zs ((List.range i).map f) ∧ Ext H1 H) ⟨[], upd_same, .nil, Ext.new hD⟩ (fun i H _ ⟨_, _, _, e⟩ => hG H e) ?_ ?_
  · rintro i x H H' hi ⟨zs, hz, hp, he⟩ hy
    have len : zs.length < sizeLine := by
      have h1 := Paired.length hp
      rw [List.length_map, List.length_range] at h1
      exact Nat.lt_of_lt_of_le (show zs.length < 1000001 by omega) (by decide)
    refine hs i x H H' _ hi he hy (fun y H4 e4 r4 => ⟨zs, e4 _ _ hz, len, zs ++ [y], upd_same, ?_, keepH (he.trans e4) hD⟩)
    rw [List.range_succ, List.map_append]
    have t : TExt H4 (upd H4 D (.lst (zs ++ [y]))) := TExt.put (e4 _ _ hz) fun z => z
    exact paired_snoc (m.paired (e4.t.trans t) hp) (m t r4)
  · rintro H ⟨zs, hz, hp, he⟩
    exact hd zs H hz hp he
/-! ### ports and wires -/
abbrev vI (c : Nat) : V := .int (c : Int)
abbrev kP (p : Port) : List Key := [.inl p.1, .inl p.2]
abbrev vP (p : Port) : List V := [.int p.1, .int p.2]
/-- v is a port -/
def PV (H : Hp) (v : V) (p : Port) : Prop := ∃ t, v = .ref t ∧ H t = some (.tup (vP p))
theorem pv_mono : TMono PV := fun e ⟨t, h1, h2⟩ => ⟨t, h1, e _ _ h2 trivial⟩
/-- v is a tuple of two ports -/
def WV (H : Hp) (v : V) (e : Port × Port) : Prop := ∃ t p r, v = V.ref t ∧ H t = some (.tup [.ref p, .ref r]) ∧ H p = some (.tup (vP e.1)) ∧ H r = some (.tup (vP e.2))
theorem wv_mono : TMono WV := fun e ⟨t, p, r, h1, h2, h3, h4⟩ => ⟨t, p, r, h1, e _ _ h2 trivial, e _ _ h3 trivial, e _ _ h4 trivial⟩
theorem pv_keys {H : Hp} : ∀ {xs : List V} {ps : List Port}, Paired (PV H) xs ps → KeysAt H xs (ps.map kP)
  | _, _, .nil => .nil
  | _, _, .cons ⟨t, h1, h2⟩ r => .cons ⟨t, h1, h2⟩ (pv_keys r)
/-- x is an int -/
def IV (_ : Hp) (v : V) (i : Int) : Prop := v = .int i
theorem iv_mono : TMono IV := fun _ h => h
def NV (_ : Hp) (v : V) (i : Nat) : Prop := v = vI i
theorem nv_mono : TMono NV := fun _ h => h
def SV (_ : Hp) (v : V) (x : Str) : Prop := v = .str x
theorem sv_mono : TMono SV := fun _ h => h
theorem paired_map {H : Hp} {α : Type} (g : α → V) : ∀ {xs : List V} {l : List α}, Paired (fun v a => v = g a) xs l → xs = l.map g
  | _, _, .nil => rfl
  | _, _, .cons h r => by rw [List.map_cons, ← paired_map (H := H) g r, h]
theorem paired_of_map {α β : Type} {R : α → β → Prop} (g : β → α) (h : ∀ b, R (g b) b) : ∀ l : List β, Paired R (l.map g) l
  | [] => .nil
  | b :: l => .cons (h b) (paired_of_map g h l)
theorem take_snoc {α : Type} {l : List α} {i : Nat} {c : α} (h : l[i]? = some c) : l.take (i + 1) = l.take i ++ [c] := by
  rw [List.take_succ, h]
  rfl
theorem rng0 {k : Nat} {x : V} (h : x = V.int (0 + (k : Int))) : x = vI k := by
  rw [h, Int.zero_add]
/-- a PySem size -/
theorem szl {m : Nat} (h : m < 1000000) : m < sizeLine := Nat.lt_of_lt_of_le h (by decide)
theorem sze {m : Nat} (h : m ≤ 1000000) : m ≤ sizeLine := Nat.le_trans h (by decide)
end Mc
/-! McLinks: dicts by ports: from each port to a port; the ports that are due. -/
namespace Mc
open PySem PySem.Spec PyProof.Rows L2
theorem kP_inj {p q : Port} (h : kP p = kP q) : p = q := by
  have h1 : (Sum.inl p.1 : Key) = Sum.inl q.1 := by
    have := congrArg List.head? h
    simpa using this
  have h2 : [(Sum.inl p.2 : Key)] = [Sum.inl q.2] := List.tail_eq_of_cons_eq h
  have h3 : (Sum.inl p.2 : Key) = Sum.inl q.2 := by simpa using h2
  exact Prod.ext (Sum.inl.inj h1) (Sum.inl.inj h3)
/-- links as a dict's pairs -/
abbrev LinksAt (H : Hp) : List (List Key × V) → List (Port × Port) → Prop := Paired fun kv e => kv.1 = kP e.1 ∧ PV H kv.2 e.2
theorem links_ext {H H' : Hp} {kvs : List (List Key × V)} {es : List (Port × Port)} (h : LinksAt H kvs es) (e : TExt H H') : LinksAt H' kvs es := L2.Paired.mapP h fun _ _ ⟨a, b⟩ => ⟨a, pv_mono e b⟩
theorem links_keys {H : Hp} : ∀ {kvs : List (List Key × V)} {es : List (Port × Port)}, LinksAt H kvs es → kvs.map (·.1) = es.map fun e => kP e.1
  | _, _, .nil => rfl
  | _, _, .cons ⟨a, _⟩ r => by rw [List.map_cons, List.map_cons, links_keys r, a]
theorem valV_isSome {κ : Type} [DecidableEq κ] (kvs : List (κ × V)) (k : κ) : (valV kvs k).isSome = decide (k ∈ kvs.map (·.1)) := by
  cases h : valV kvs k with
  | none => exact (decide_eq_false (valV_not h)).symm
  | some v => exact (decide_eq_true (valV_in h)).symm
theorem links_some {H : Hp} {kvs : List (List Key × V)} {es : List (Port × Port)} (h : LinksAt H kvs es) (p : Port) : (valV kvs (kP p)).isSome = decide (p ∈ es.map Prod.fst) := by
  rw [valV_isSome, links_keys h]
  refine decide_eq_decide.mpr ⟨fun m => ?_, fun m => ?_⟩
  · obtain ⟨e, he, e2⟩ := List.mem_map.mp m
    exact List.mem_map.mpr ⟨e, he, kP_inj e2⟩
  · obtain ⟨e, he, rfl⟩ := List.mem_map.mp m
    exact List.mem_map.mpr ⟨e, he, rfl⟩
theorem links_none {H : Hp} {kvs : List (List Key × V)} {es : List (Port × Port)} (h : LinksAt H kvs es) {p : Port} (hp : p ∉ es.map Prod.fst) : valV kvs (kP p) = none := by
  have := links_some h p
  rw [decide_eq_false hp] at this
  exact Option.isNone_iff_eq_none.mp (by rw [← Option.not_isSome, this]; rfl)
theorem links_get {H : Hp} : ∀ {kvs : List (List Key × V)} {es : List (Port × Port)}, LinksAt H kvs es → (es.map Prod.fst).Nodup → ∀ e ∈ es, ∃ v, valV kvs (kP e.1) = some v ∧ PV H v e.2
  | _, _, .nil, _, e, he => absurd he List.not_mem_nil
  | kv :: kvs, e0 :: es, .cons ⟨a, b⟩ r, nd, e, he => by
    rw [List.map_cons, List.nodup_cons] at nd
    rcases List.mem_cons.mp he with rfl | he
    · exact ⟨kv.2, valV_pos a, b⟩
    · obtain ⟨v, h1, h2⟩ := links_get r nd.2 e he
      refine ⟨v, ?_, h2⟩
      rw [valV_neg]
      · exact h1
      · intro z
        rw [a] at z
        have := kP_inj z
        exact nd.1 (List.mem_map.mpr ⟨e, he, this.symm⟩)
theorem links_snoc {H : Hp} {kvs : List (List Key × V)} {es : List (Port × Port)} (h : LinksAt H kvs es) {p q : Port} {v : V} (hp : p ∉ es.map Prod.fst) (hv : PV H v q) : LinksAt H (putK kvs (kP p) v) (es ++ [(p, q)]) := by
  rw [putK_new _ (links_none h hp)]
  exact paired_snoc h ⟨rfl, hv⟩
theorem allT_mem (ks : List (List Key)) (k : List Key) : (valV (allT ks) k).isSome = true ↔ k ∈ ks := by
  have h : ∀ (ks : List (List Key)) (acc : List (List Key × V)), (valV (ks.foldl (fun acc k => putK acc k (.bl true)) acc) k).isSome = true ↔ k ∈ ks ∨ (valV acc k).isSome = true := by
    intro ks
    induction ks with
    | nil => intro acc; simp
    | cons k' ks ih =>
      intro acc
      rw [List.foldl_cons, ih, valV_put]
      by_cases e : k = k'
      · subst e; simp
      · simp [e]
  have := h ks []
  rw [allT, this]
  simp [valV_nil]
theorem allT_nodup {ks : List (List Key)} (hn : ks.Nodup) : (allT ks).length = ks.length := by
  have h : ∀ (ks : List (List Key)) (acc : List (List Key × V)), (ks).Nodup → (∀ k ∈ ks, valV acc k = none) → (ks.foldl (fun acc k => putK acc k (.bl true)) acc).length = acc.length + ks.length := by
    intro ks
    induction ks with
    | nil => intro acc _ _; rfl
    | cons k' ks ih =>
      intro acc hn ha
      rw [List.nodup_cons] at hn
      rw [List.foldl_cons, ih _ hn.2, putK_new _ (ha k' List.mem_cons_self), List.length_append, List.length_cons, List.length_cons]
      · simp only [List.length_nil]; omega
      · intro k hk
        rw [valV_put, if_neg, ha k (List.mem_cons_of_mem _ hk)]
        rintro rfl
        exact hn.1 hk
  have := h ks [] hn (fun _ _ => rfl)
  simpa [allT] using this
theorem allT_port (ps : List Port) (p : Port) : (valV (allT (ps.map kP)) (kP p)).isSome = decide (p ∈ ps) := by
  rw [Bool.eq_iff_iff, allT_mem, decide_eq_true_eq]
  refine ⟨fun m => ?_, fun m => List.mem_map.mpr ⟨p, m, rfl⟩⟩
  obtain ⟨e, he, e2⟩ := List.mem_map.mp m
  rw [← kP_inj e2]
  exact he
theorem allT_len_port {ps : List Port} (hn : ps.Nodup) : (allT (ps.map kP)).length = ps.length := by
  rw [allT_nodup, List.length_map]
  exact hn.map _ fun a b hab h => hab (kP_inj h)
end Mc
/-! McNet: the ports of a net, the links that its wires make. -/
namespace Mc
open PySem PySem.Spec PyProof.Rows L2
def cellPs (c : Nat) (x : Str) : List Port := (List.range (arS x)).map fun (k : Nat) => ((c : Int), (k : Int))
/-- all ports: the ends, then the cells' ports -/
def portsL (kd : List Str) (ends : Nat) : List Port := ((List.range ends).map fun (e : Nat) => ((-1 : Int), (e : Int))) ++ (kd.zipIdx.map fun q => cellPs q.2 q.1).flatten
theorem arS_le (x : Str) : arS x ≤ 3 := by
  unfold arS
  split <;> omega
theorem zipIdx_take_succ {α : Type} {l : List α} {i : Nat} {x : α} (h : l[i]? = some x) : (l.take (i + 1)).zipIdx = (l.take i).zipIdx ++ [(x, i)] := by
  have hi : i < l.length := (List.getElem?_eq_some_iff.mp h).1
  rw [take_snoc h, List.zipIdx_append]
  have e : (l.take i).length = i := by
    rw [List.length_take]
    omega
  rw [e]
  simp
theorem portsL_take {kd : List Str} {ends i : Nat} {x : Str} (h : kd[i]? = some x) : portsL (kd.take (i + 1)) ends = portsL (kd.take i) ends ++ cellPs i x := by
  unfold portsL
  rw [zipIdx_take_succ h, List.map_append, List.flatten_append, List.append_assoc]
  simp
theorem portsL_len (kd : List Str) (ends : Nat) : (portsL kd ends).length ≤ ends + 3 * kd.length := by
  have h : ∀ (l : List (Str × Nat)), ((l.map fun q => cellPs q.2 q.1).flatten).length ≤ 3 * l.length := by
    intro l
    induction l with
    | nil => simp
    | cons q l ih =>
      simp only [List.map_cons, List.flatten_cons, List.length_append, List.length_cons]
      have : (cellPs q.2 q.1).length ≤ 3 := by
        unfold cellPs
        rw [List.length_map, List.length_range]
        exact arS_le _
      omega
  have := h kd.zipIdx
  unfold portsL
  rw [List.length_append, List.length_map, List.length_range]
  rw [List.length_zipIdx] at this
  omega
theorem mem_cellPs {c : Nat} {x : Str} {p : Port} : p ∈ cellPs c x ↔ p.1 = (c : Int) ∧ 0 ≤ p.2 ∧ p.2 < arS x := by
  unfold cellPs
  constructor
  · intro h
    obtain ⟨k, hk, rfl⟩ := List.mem_map.mp h
    have := List.mem_range.mp hk
    exact ⟨rfl, Int.natCast_nonneg _, by show (k : Int) < _; omega⟩
  · rintro ⟨h1, h2, h3⟩
    refine List.mem_map.mpr ⟨p.2.toNat, List.mem_range.mpr (by omega), Prod.ext h1.symm ?_⟩
    show (p.2.toNat : Int) = p.2
    omega
/-- the ports of a net -/
def isPort (kd : List Str) (ends : Nat) (p : Port) : Prop := (p.1 = -1 ∧ 0 ≤ p.2 ∧ p.2 < ends) ∨ (0 ≤ p.1 ∧ p.1 < kd.length ∧ 0 ≤ p.2 ∧ p.2 < arS (kd.getD p.1.toNat ""))
theorem port_iff (G : Gr) (p : Port) : G.port p ↔ isPort G.kd G.ends p := Iff.rfl
theorem mem_portsL {kd : List Str} {ends : Nat} {p : Port} : p ∈ portsL kd ends ↔ isPort kd ends p := by
  unfold portsL isPort
  rw [List.mem_append]
  refine or_congr ⟨fun h => ?_, fun ⟨h1, h2, h3⟩ => ?_⟩ ⟨fun h => ?_, fun ⟨h1, h2, h3, h4⟩ => ?_⟩
  · obtain ⟨e, he, rfl⟩ := List.mem_map.mp h
    have := List.mem_range.mp he
    exact ⟨rfl, Int.natCast_nonneg _, by show (e : Int) < _; omega⟩
  · refine List.mem_map.mpr ⟨p.2.toNat, List.mem_range.mpr (by omega), Prod.ext h1.symm ?_⟩
    show (p.2.toNat : Int) = p.2
    omega
  · obtain ⟨l, hl, hp⟩ := List.mem_flatten.mp h
    obtain ⟨⟨x, c⟩, hq, rfl⟩ := List.mem_map.mp hl
    have hx := List.mk_mem_zipIdx_iff_getElem?.mp hq
    obtain ⟨a, b, c'⟩ := mem_cellPs.mp hp
    have hc : c < kd.length := (List.getElem?_eq_some_iff.mp hx).1
    rw [a, Int.toNat_natCast, List.getD_eq_getElem?_getD, hx]
    exact ⟨Int.natCast_nonneg _, by omega, b, c'⟩
  · have hc : p.1.toNat < kd.length := by omega
    refine List.mem_flatten.mpr ⟨cellPs p.1.toNat (kd.getD p.1.toNat ""), List.mem_map.mpr ⟨(kd.getD p.1.toNat "", p.1.toNat), List.mk_mem_zipIdx_iff_getElem?.mpr ?_, rfl⟩, mem_cellPs.mpr ⟨by omega, h3, h4⟩⟩
    rw [List.getD_eq_getElem?_getD, List.getElem?_eq_getElem hc]
    rfl
theorem portsL_nodup (kd : List Str) (ends : Nat) : (portsL kd ends).Nodup := by
  have cell_nodup : ∀ c x, (cellPs c x).Nodup := fun c x => by
    unfold cellPs
    refine (List.nodup_range).map _ fun a b hab h => hab ?_
    have := (Prod.mk.inj h).2
    omega
  have main : ∀ i, i ≤ kd.length → (portsL (kd.take i) ends).Nodup := by
    intro i
    induction i with
    | zero =>
      intro _
      have e : portsL (kd.take 0) ends = (List.range ends).map fun (e : Nat) => ((-1 : Int), (e : Int)) := by simp [portsL]
      rw [e]
      refine (List.nodup_range).map _ fun a b hab h => hab ?_
      have := (Prod.mk.inj h).2
      omega
    | succ i ih =>
      intro hi
      have hx : kd[i]? = some kd[i] := List.getElem?_eq_getElem (by omega)
      rw [portsL_take hx]
      refine List.nodup_append.mpr ⟨ih (by omega), cell_nodup _ _, fun a ha b hb => ?_⟩
      rintro rfl
      have h1 := mem_portsL.mp ha
      obtain ⟨h2, _⟩ := mem_cellPs.mp hb
      rcases h1 with ⟨h1, _⟩ | ⟨_, h1, _⟩
      · omega
      · rw [List.length_take] at h1
        omega
  have := main kd.length (Nat.le_refl _)
  rwa [List.take_length] at this
/-- the links that the wires make, in the order in which they are made -/
def linkF (due : List Port) : List (Port × Port) → List (Port × Port) → Option (List (Port × Port))
  | acc, [] => if acc.length = due.length then some acc else none
  | acc, (a, b) :: ws => if a ∈ acc.map Prod.fst ∨ b ∈ acc.map Prod.fst ∨ a ∉ due ∨ b ∉ due then none else linkF due (acc ++ [(a, b)] ++ [(b, a)]) ws
/-- the links of wires -/
def linksOf (ws : List (Port × Port)) : List (Port × Port) := (ws.map fun e => [e, (e.2, e.1)]).flatten
theorem linksOf_cons (a b : Port) (ws : List (Port × Port)) : linksOf ((a, b) :: ws) = (a, b) :: (b, a) :: linksOf ws := rfl
theorem linksOf_append (ws vs : List (Port × Port)) : linksOf (ws ++ vs) = linksOf ws ++ linksOf vs := by simp [linksOf]
theorem linkF_some {due : List Port} : ∀ {ws acc es : List (Port × Port)}, linkF due acc ws = some es → es = acc ++ linksOf ws ∧ es.length = due.length
  | [], acc, es, h => by
    unfold linkF at h
    split at h
    · cases h
      exact ⟨by simp [linksOf], by assumption⟩
    · cases h
  | (a, b) :: ws, acc, es, h => by
    unfold linkF at h
    split at h
    · cases h
    · obtain ⟨h1, h2⟩ := linkF_some h
      refine ⟨?_, h2⟩
      rw [h1, linksOf_cons]
      simp
theorem linkF_keys {due : List Port} : ∀ {ws acc es : List (Port × Port)}, linkF due acc ws = some es → (acc.map Prod.fst).Nodup → (∀ e ∈ ws, e.1 ≠ e.2) → (∀ p ∈ acc.map Prod.fst, p ∈ due) → (es.map Prod.fst).Nodup ∧ ∀ p ∈ es.map Prod.fst, p ∈ due
  | [], acc, es, h, hn, _, hd => by
    unfold linkF at h
    split at h
    · cases h
      exact ⟨hn, hd⟩
    · cases h
  | (a, b) :: ws, acc, es, h, hn, hne, hd => by
    unfold linkF at h
    split at h
    · cases h
    · rename_i c
      simp only [not_or, Classical.not_not] at c
      obtain ⟨c1, c2, c3, c4⟩ := c
      have hab : a ≠ b := hne (a, b) List.mem_cons_self
      refine linkF_keys h ?_ (fun e he => hne e (List.mem_cons_of_mem _ he)) ?_
      · rw [List.map_append, List.map_append]
        refine List.nodup_append.mpr ⟨List.nodup_append.mpr ⟨hn, List.pairwise_singleton _ _, ?_⟩, List.pairwise_singleton _ _, ?_⟩
        · intro x hx y hy
          have : y = a := by simpa using hy
          rintro rfl
          rw [this] at hx
          exact c1 hx
        · intro x hx y hy
          have : y = b := by simpa using hy
          rintro rfl
          subst this
          rcases List.mem_append.mp hx with hx | hx
          · exact c2 hx
          · have : x = a := by simpa using hx
            exact hab this.symm
      · intro p hp
        rw [List.map_append, List.map_append] at hp
        rcases List.mem_append.mp hp with hp | hp
        · rcases List.mem_append.mp hp with hp | hp
          · exact hd p hp
          · have : p = a := by simpa using hp
            rw [this]
            exact c3
        · have : p = b := by simpa using hp
          rw [this]
          exact c4
/-- the wires fit: each port that is due is on just one of them -/
structure Fits (due : List Port) (ws : List (Port × Port)) : Prop where
  perm : ((linksOf ws).map Prod.fst).Perm due
theorem linksOf_keys (ws : List (Port × Port)) : (linksOf ws).map Prod.fst = (ws.map fun e => [e.1, e.2]).flatten := by
  induction ws with
  | nil => rfl
  | cons e ws ih =>
    obtain ⟨a, b⟩ := e
    rw [linksOf_cons]
    simp [ih]
theorem linksOf_sym {ws : List (Port × Port)} {e : Port × Port} (h : e ∈ linksOf ws) : (e.2, e.1) ∈ linksOf ws := by
  unfold linksOf at h ⊢
  obtain ⟨l, hl, he⟩ := List.mem_flatten.mp h
  obtain ⟨u, hu, rfl⟩ := List.mem_map.mp hl
  refine List.mem_flatten.mpr ⟨_, List.mem_map.mpr ⟨u, hu, rfl⟩, ?_⟩
  rcases List.mem_cons.mp he with rfl | he
  · simp
  · have : e = (u.2, u.1) := by simpa using he
    subst this
    simp
theorem linksOf_ne {ws : List (Port × Port)} (h : ∀ e ∈ ws, e.1 ≠ e.2) {e : Port × Port} (he : e ∈ linksOf ws) : e.1 ≠ e.2 := by
  unfold linksOf at he
  obtain ⟨l, hl, he⟩ := List.mem_flatten.mp he
  obtain ⟨u, hu, rfl⟩ := List.mem_map.mp hl
  rcases List.mem_cons.mp he with rfl | he
  · exact h _ hu
  · have : e = (u.2, u.1) := by simpa using he
    subst this
    exact (h u hu).symm
theorem perm_of_len {α : Type} [BEq α] [LawfulBEq α] {l m : List α} (hl : l.Nodup) (hs : ∀ x ∈ l, x ∈ m) (hlen : m.length ≤ l.length) (hm : m.Nodup) : l.Perm m := by
  refine (List.perm_ext_iff_of_nodup hl hm).mpr fun x => ⟨hs x, fun hx => ?_⟩
  refine Classical.byContradiction fun hn => ?_
  have h1 : (x :: l).Nodup := List.nodup_cons.mpr ⟨hn, hl⟩
  have h2 : (x :: l).length ≤ m.length := len_of_sub h1 fun y hy => by
    rcases List.mem_cons.mp hy with rfl | hy
    · exact hx
    · exact hs y hy
  simp only [List.length_cons] at h2
  omega
theorem linkF_fits {due : List Port} {ws es : List (Port × Port)} (hd : due.Nodup) (hne : ∀ e ∈ ws, e.1 ≠ e.2) (h : linkF due [] ws = some es) : es = linksOf ws ∧ Fits due ws := by
  obtain ⟨h1, h2⟩ := linkF_some h
  obtain ⟨h3, h4⟩ := linkF_keys h List.nodup_nil hne (fun _ h => nomatch h)
  rw [List.nil_append] at h1
  subst h1
  exact ⟨rfl, ⟨perm_of_len h3 h4 (by rw [List.length_map, h2]; exact Nat.le_refl _) hd⟩⟩
theorem fits_linkF {due : List Port} : ∀ {ws acc : List (Port × Port)}, ((acc ++ linksOf ws).map Prod.fst).Perm due → due.Nodup → linkF due acc ws = some (acc ++ linksOf ws)
  | [], acc, h, hd => by
    unfold linkF
    rw [if_pos]
    · simp [linksOf]
    · have := h.length_eq
      simpa [linksOf] using this
  | (a, b) :: ws, acc, h, hd => by
    have hn := (h.nodup_iff).mpr hd
    rw [linksOf_cons] at h hn ⊢
    have e : acc ++ (a, b) :: (b, a) :: linksOf ws = (acc ++ [(a, b)] ++ [(b, a)]) ++ linksOf ws := by simp
    unfold linkF
    rw [if_neg, fits_linkF (by rw [← e]; exact h) hd, e]
    rw [List.map_append, List.nodup_append] at hn
    obtain ⟨n1, n2, n3⟩ := hn
    simp only [not_or, Classical.not_not]
    refine ⟨fun z => n3 a z a (by simp) rfl, fun z => n3 b z b (by simp) rfl, ?_, ?_⟩
    · exact h.mem_iff.mp (by simp)
    · exact h.mem_iff.mp (by simp)
/-- what lies across a port, by links -/
def acOf (es : List (Port × Port)) (p : Port) : Port := match es.find? (fun e => decide (e.1 = p)) with
  | some e => e.2
  | none => p
theorem acOf_mem {es : List (Port × Port)} (hn : (es.map Prod.fst).Nodup) {e : Port × Port} (he : e ∈ es) : acOf es e.1 = e.2 := by
  unfold acOf
  induction es with
  | nil => cases he
  | cons u es ih =>
    rw [List.map_cons, List.nodup_cons] at hn
    rcases List.mem_cons.mp he with rfl | he
    · simp
    · rw [List.find?_cons, decide_eq_false]
      · exact ih hn.2 he
      · intro z
        exact hn.1 (z ▸ List.mem_map.mpr ⟨e, he, rfl⟩)
def mkG (kd : List Str) (ends : Nat) (es : List (Port × Port)) : Gr := ⟨kd, ends, acOf es⟩
theorem mkG_ok {kd : List Str} {ends : Nat} {ws : List (Port × Port)} (hk : ∀ x ∈ kd, KindS x) (hl : kd.length ≤ 1000) (he : ends ≤ 12) (hne : ∀ e ∈ ws, e.1 ≠ e.2) (hf : Fits (portsL kd ends) ws) : (mkG kd ends (linksOf ws)).Ok := by
  have hn : ((linksOf ws).map Prod.fst).Nodup := (hf.perm.nodup_iff).mpr (portsL_nodup kd ends)
  have key : ∀ p, (mkG kd ends (linksOf ws)).port p → ∃ e ∈ linksOf ws, e.1 = p := fun p hp => by
    have h1 := mem_portsL.mpr ((port_iff _ p).mp hp)
    obtain ⟨e, h2, h3⟩ := List.mem_map.mp (hf.perm.mem_iff.mpr h1)
    exact ⟨e, h2, h3⟩
  have ac : ∀ e ∈ linksOf ws, (mkG kd ends (linksOf ws)).ac e.1 = e.2 := fun e h => acOf_mem hn h
  refine ⟨hk, hl, he, fun p hp => ?_, fun p hp => ?_, fun p hp => ?_⟩
  · obtain ⟨e, h1, rfl⟩ := key p hp
    rw [ac e h1]
    refine (port_iff _ _).mpr (mem_portsL.mp (hf.perm.mem_iff.mp (List.mem_map.mpr ⟨(e.2, e.1), linksOf_sym h1, rfl⟩)))
  · obtain ⟨e, h1, rfl⟩ := key p hp
    rw [ac e h1, ac (e.2, e.1) (linksOf_sym h1)]
  · obtain ⟨e, h1, rfl⟩ := key p hp
    rw [ac e h1]
    exact (linksOf_ne hne h1).symm
end Mc
/-! McCheck: what a kind, a word, a port, a wire is, of data; a for over a list or a tuple. -/
namespace Mc
open PySem PySem.Spec PyProof.Rows L2
def isColor : PyData → Bool
  | .str x => x == "red" || x == "blue"
  | _ => false
def isKind (d : PyData) : Bool := isColor d || match d with
  | .str x => x == "eraser"
  | _ => false
def isWord (d : PyData) (most : Int) : Bool := match d with
  | .str x => decide ((x.length : Int) ≤ most) && x.cps.toList.all fun c => c == 49 || c == 50
  | _ => false
def portOk (a b : Int) : Bool := decide (0 ≤ b) && (decide (a = -1) || (decide (0 ≤ a) && decide (b ≤ 2)))
def intOf : PyData → Option Int
  | .int i => some i
  | _ => none
def portTwo : Option Int → Option Int → Bool
  | some a, some b => portOk a b
  | _, _ => false
def portOf : List PyData → Bool
  | [a, b] => portTwo (intOf a) (intOf b)
  | _ => false
def isPortD : PyData → Bool
  | .tuple ds => portOf ds
  | _ => false
theorem portTwo_l (d1 d2 : PyData) (h : isInt d1 = false) : portTwo (intOf d1) (intOf d2) = false := by
  cases d1 <;> first | rfl | cases h
theorem portTwo_r (d1 d2 : PyData) (h : isInt d2 = false) : portTwo (intOf d1) (intOf d2) = false := by
  cases d2 <;> first | (cases d1 <;> rfl) | cases h
/-- a datum that is a port -/
theorem isPortD_ok {d : PyData} (h : isPortD d = true) : ∃ a b, d = .tuple [.int a, .int b] ∧ portOk a b = true := by
  cases d with
  | tuple ds =>
    match ds, h with
    | [x, y], h =>
      have h' : portTwo (intOf x) (intOf y) = true := h
      cases x <;> cases y <;> first | cases h' | exact ⟨_, _, rfl, h'⟩
  | _ => cases h
def wireOf : List PyData → Bool
  | [a, b] => isPortD a && (isPortD b && !PyData.eqv a b)
  | _ => false
def isWireD : PyData → Bool
  | .tuple ds => wireOf ds
  | _ => false
/-- the items of a list or a tuple -/
def itemsD : PyData → List PyData
  | .list l => l
  | .tuple l => l
  | _ => []
def isSeqD : PyData → Bool
  | .list _ => true
  | .tuple _ => true
  | _ => false
theorem kit_seq (d : PyData) : ∃ b c, kitB (tyName d) "list" = some b ∧ kitB (tyName d) "tuple" = some c ∧ (b || c) = isSeqD d := ⟨_, _, kit_lst d, kit_tup d, by cases d <;> rfl⟩
theorem dq_str {K : PySem.W.Frag} {H : Hp} {v : V} {x : Str} (h : Dq K H v (.str x)) : v = .str x := by
  cases h with
  | dp h => cases h; rfl
theorem dq_int {K : PySem.W.Frag} {H : Hp} {v : V} {i : Int} (h : Dq K H v (.int i)) : v = .int i := by
  cases h with
  | dp h => cases h; rfl
theorem dq_tup {K : PySem.W.Frag} {H : Hp} {v : V} {ds : List PyData} (h : Dq K H v (.tuple ds)) : ∃ a xs, v = .ref a ∧ SqT K H a xs ∧ DpAll K H xs ds := by
  cases h with
  | dp h =>
    cases h with
    | tup s r => exact ⟨_, _, rfl, s, r⟩
/-- a list or a tuple -/
def SqS (K : PySem.W.Frag) (H : Hp) (a : Addr) (xs : List V) : Prop := SqL K H a xs ∨ SqT K H a xs
theorem Ext.sqS {K : PySem.W.Frag} {H H' : Hp} {a : Addr} {xs : List V} (e : Ext H H') (h : SqS K H a xs) : SqS K H' a xs := h.elim (fun h => .inl (e.sqL h)) fun h => .inr (e.sqT h)
theorem dq_seq {K : PySem.W.Frag} {H : Hp} {v : V} {d : PyData} (h : Dq K H v d) (hd : isSeqD d = true) : ∃ a xs, v = .ref a ∧ SqS K H a xs ∧ DpAll K H xs (itemsD d) := by
  cases h with
  | dp h =>
    cases h with
    | lst s r => exact ⟨_, _, rfl, .inl s, r⟩
    | tup s r => exact ⟨_, _, rfl, .inr s, r⟩
    | _ => cases hd
  | dic _ => cases hd
theorem dpAll_len {K : PySem.W.Frag} {H : Hp} : ∀ {xs : List V} {ds : List PyData}, DpAll K H xs ds → xs.length = ds.length
  | _, _, .nil => rfl
  | _, _, .cons _ r => congrArg Nat.succ (dpAll_len r)
theorem dpAll_get {K : PySem.W.Frag} {H : Hp} : ∀ {xs : List V} {ds : List PyData}, DpAll K H xs ds → ∀ (i : Nat) (x : V), xs[i]? = some x → ∃ d, ds[i]? = some d ∧ Dp K H x d
  | _, _, .nil, i, x, e => by simp at e
  | _, _, .cons a r, 0, x, e => by
    simp only [List.getElem?_cons_zero, Option.some.injEq] at e
    subst e
    exact ⟨_, rfl, a⟩
  | _, _, .cons a r, i + 1, x, e => by
    simp only [List.getElem?_cons_succ] at e
    obtain ⟨y, h1, h2⟩ := dpAll_get r i x e
    exact ⟨y, by simpa using h1, h2⟩
theorem dpAll_two {K : PySem.W.Frag} {H : Hp} {xs : List V} {ds : List PyData} (h : DpAll K H xs ds) (h2 : xs.length = 2) : ∃ x y d1 d2, xs = [x, y] ∧ ds = [d1, d2] ∧ Dp K H x d1 ∧ Dp K H y d2 := by
  cases h with
  | nil => cases h2
  | cons hx h =>
    cases h with
    | nil => cases h2
    | cons hy h =>
      cases h with
      | nil => exact ⟨_, _, _, _, rfl, rfl, hx, hy⟩
      | cons _ _ => simp at h2
/-! ### a for over a list or a tuple -/
section
variable {X : Cx} {tg : Expr}
/-- whichever it is, a walk over its items, as long as what was tracked stays -/
def iSeq (K : PySem.W.Frag) (tl : TE) : TI := fun σ H R => tl σ H fun x H1 => ∃ a xs H0, x = .ref a ∧ SqS K H0 a xs ∧ Ext H0 H1 ∧ ∀ (J : It) (G : Hp → Prop), Walk J xs.length G (YAt xs) → (∀ H', Ext H0 H' → G H') → R J H1
theorem pi_seq {l : Expr} {tl : TE} (hl : PE X l tl) : PI X tg l (iSeq X.K tl) := by
  refine ⟨fun pins s σ H R I h => ?_⟩
  refine thn (hl.run pins s σ H _ I h) fun v s1 ⟨x, H1, I1, r1, q1⟩ => ?_
  obtain ⟨a, xs, H0, e, hq, e0, k⟩ := q1
  subst e
  cases r1
  rcases hq with hq | hq
  · have q := k _ _ walk_list fun H' e => e.sqL hq
    replace hq := e0.sqL hq
    obtain ⟨its, rv, p, hz⟩ := I1.list hq
    refine wpAny_pyIter_list p.isList ?_
    refine ⟨s1.heap.objs.size, [s1.heap.objs.size], _, _, H1, rfl, I1.kept (t' := s1.toks) fun b o e => Heap.get?_push_of_some _ e, turn_list a _, ⟨_, Heap.get?_push_size _ rfl, rfl, rfl⟩, fun b hb => ?_, q⟩
    have e : b = s1.heap.objs.size := by simpa using hb
    subst e
    exact I1.fpOk (Nat.le_refl _) (I1.hok.fresh (Nat.le_refl _))
  · have q := k _ _ walk_tup fun H' e => e.sqT hq
    replace hq := e0.sqT hq
    obtain ⟨its, rv, p, hz⟩ := I1.tuple hq
    refine wpAny_pyIter_tuple (show s1.heap.IsTuple a its.toArray from p) ?_
    refine ⟨s1.heap.objs.size, [s1.heap.objs.size], _, _, H1, rfl, I1.kept (t' := s1.toks) fun b o e => Heap.get?_push_of_some _ e, turn_tuple a _, ⟨_, Heap.get?_push_size _ rfl, rfl, rfl⟩, fun b hb => ?_, q⟩
    have e : b = s1.heap.objs.size := by simpa using hb
    subst e
    exact I1.fpOk (Nat.le_refl _) (I1.hok.fresh (Nat.le_refl _))
end
theorem len_seq {K : PySem.W.Frag} {H : Hp} {a : Addr} {xs : List V} (h : SqS K H a xs) : LenV K (.ref a) H xs.length := h.elim (fun h => .inl ⟨_, h, rfl⟩) fun h => .inr ⟨_, h, rfl⟩
end Mc
/-! McEnum: enumerate over a list or a tuple; an item of a list or a tuple. -/
namespace Mc
open PySem PySem.Spec PyProof.Rows L2
theorem meets_enum1 {v : Value} {o : Obj} {Hh : Heap → Prop} (B : Begins v o Hh) :
    Meets (Builtin.«enumerate.__new__» ⟨[.type "enumerate", v], []⟩) (fun _ R s => Hh s.heap ∧ R (.ok (.ret (.ref (s.heap.push o).objs.size)))
      { s with heap := (s.heap.push o).push { cls := .type "enumerate", data := .fields #[.none, .bool false, .ref s.heap.objs.size, rawInt 0, .none, .none] } }) := by
  refine .of_wp fun prog w A R s hh => ?_
  obtain ⟨hp, g, d, tk, os⟩ := s
  obtain ⟨h0, fin⟩ := hh
  have hsub := sub_enumerate
  have it1 : ∀ {B' : Around} {E : Value → Shared → Prop} {Q : Value → Shared → Prop}, Q (.ref hp.objs.size) ⟨hp.push o, g, d, tk, os⟩ → wpAny (model prog w) B' (pyIter v) Q E ⟨hp, g, d, tk, os⟩ := fun q =>
    B.iter prog w _ _ ⟨hp, g, d, tk, os⟩ _ h0 q
  wp_walk using it1
  refine wpAny_stack_any fun st => ?_
  refine wpAny_pure ?_
  split
  · rename_i c0 _ _ _ _ _
    cases (c0 == Value.type "enumerate") <;> (wp_walk using it1; exact ⟨_, rfl, fin⟩)
  · wp_walk using it1
    exact ⟨_, rfl, fin⟩
section
variable {prog : Program} {w : World} {A : Around} {E : Value → Shared → Prop} {s : Shared}
/-- enumerate(v): two new objects -/
theorem enum1_begins {v : Value} {o : Obj} {Hh : Heap → Prop} {Q : Value → Shared → Prop} (B : Begins v o Hh) (h0 : Hh s.heap)
    (h : ∀ h', IsEnum h' (s.heap.objs.size + 1) s.heap.objs.size 0 .none → h'.get? s.heap.objs.size = some o → h'.objs.size = s.heap.objs.size + 2 → (∀ b u, s.heap.get? b = some u → h'.get? b = some u) → Q (.ref (s.heap.objs.size + 1)) { s with heap := h' }) :
    wpAny (model prog w) A (call (.type "enumerate") [v]) Q E s := by
  refine callType_new F.called_enumerate (by decide) (F.typeCall_enumerate_1 _) (F.newCall_enumerate_1 _) (fun ob => F.args_object_init_2 ob _) F.entry_enumerate_new (meets_enum1 B) ⟨h0, ?_⟩
  have hz : (s.heap.push o).objs.size = s.heap.objs.size + 1 := Heap.size_push ..
  show _ ∧ _
  rw [hz]
  generalize hob : ({ cls := .type "enumerate", data := .fields #[.none, .bool false, .ref s.heap.objs.size, rawInt 0, .none, .none] } : Obj) = ob
  have he : ((s.heap.push o).push ob).get? (s.heap.objs.size + 1) = some ob := by
    have := Heap.get?_push_size (s.heap.push o) (o := ob) (by subst hob; rfl)
    rw [hz] at this
    exact this
  subst hob
  exact ⟨⟨_, he, rfl⟩, h _ he (Heap.get?_push_of_some _ (Heap.get?_push_size _ B.free)) (by rw [Heap.size_push, hz]) fun b u x => Heap.get?_push_of_some _ (Heap.get?_push_of_some _ x)⟩
end
/-- the tuple at a, its items in new pairs -/
def Itet (K : PySem.W.Frag) (a : Addr) : It where
  go := fun i H => ∃ (xs : List V) (x : V), SqT K H a xs ∧ xs[i]? = some x
  yld := fun i H v H' => ∃ T x, v = .ref T ∧ H T = none ∧ H' = upd H T (.tup [.int (i : Nat), x]) ∧ ∀ xs, SqT K H a xs → xs[i]? = some x
  stop := fun i H => ∃ xs : List V, SqT K H a xs ∧ xs.length ≤ i
theorem turn_enumT {P : Program} {w : World} {K : PySem.W.Frag} {elts : List Expr} {kk : Nat} {tpos : Pos} (a e it : Addr) (hae : a ≠ e) (hai : a ≠ it) :
    Turn P w K (.Tuple elts kk tpos) (Itet K a) [e, it] e (fun i h => (∃ old, IsEnum h e it ((i : Nat) : Int) old) ∧ h.IsTupleIter it a i ∧ e ≠ it) where
  mem := by simp
  obj := fun i h st b hb => by
    obtain ⟨⟨old, he⟩, ⟨o, ho, hc, hd⟩, _⟩ := st
    rcases (show b = e ∨ b = it by simpa using hb) with rfl | rfl
    · exact ⟨_, he, fun v q => nomatch q⟩
    · refine ⟨o, ho, fun v q => ?_⟩
      rw [hd] at q
      cases q
  keep := fun i h h' st k => by
    obtain ⟨⟨old, he⟩, hi, hne⟩ := st
    exact ⟨⟨old, k e (by simp) _ he⟩, hi.at fun o q => k it (by simp) o q, hne⟩
  item := by
    intro X hP hw hK hc i pins s σ H E I hf st hg
    subst hP hw hK
    obtain ⟨⟨old, he⟩, hit, hne⟩ := st
    obtain ⟨xs, x, hq, hx⟩ := hg
    obtain ⟨its, rv, p, hz⟩ := I.tuple hq
    obtain ⟨u, hu, ru⟩ := rv.get hx
    have hel : e < s.heap.objs.size := Heap.lt_size he
    have hil : it < s.heap.objs.size := by
      obtain ⟨_, q, _⟩ := hit
      exact Heap.lt_size q
    have isz : i < its.toArray.size := by
      have := (List.getElem?_eq_some_iff.mp hu).1
      simpa using this
    have D := Draws.tuple (prog := X.prog) (w := X.w) (A := X.A.in1) (I.ok.hd hc) it a hai its.toArray
    refine wpAny_pyNext_enum_itemD D he ⟨hit, p⟩ isz hne (by simp [hne, Ne.symm hae]) fun x' h' tk hx' ho hst' hT hsz hk => ?_
    have exu : x' = u := by
      have h1 : its.toArray[i]? = some x' := hx'
      rw [List.getElem?_toArray] at h1
      rw [hu] at h1
      exact (Option.some.inj h1).symm
    subst exu
    refine ⟨_, rfl, wpAny_letOwnedTupleGo_enum (s := { s with heap := h', toks := tk + 1 }) ho fun h'' he' sb => ?_⟩
    have hT2 : h''.get? s.heap.objs.size = some { cls := .type "tuple", data := .seq #[.int i tk, x'] } := (sb.2 _ (Nat.ne_of_gt hel)).trans hT
    have nw : ObjOk X.prog X.w (upd H s.heap.objs.size (.tup [.int (i : Nat), x])) h'' s.heap.objs.size (.tup [.int (i : Nat), x]) :=
      ⟨by show 2 ≤ sizeLine; decide, [.int i tk, x'], .cons ⟨_, rfl⟩ (.cons ru .nil), ⟨_, hT2, rfl, _, rfl⟩⟩
    have I1 : Inv X pins σ (upd H s.heap.objs.size (.tup [.int (i : Nat), x])) { s with heap := h'', toks := tk + 1 } :=
      I.turnedNew (ch := [e, it]) (fun b ob hb q => (sb.2 b (fun z => hb (by simp [z]))).trans (hk b ob (fun z => hb (by simp [z])) (fun z => hb (by simp [z])) q)) hf (Nat.le_refl _) nw
    refine ⟨.ref s.heap.objs.size, _, I1, rfl, ⟨_, x, rfl, I.hok.fresh (Nat.le_refl _), rfl, fun ys hy => ?_⟩, ⟨⟨x', ?_⟩, hst'.1.at fun o q => (sb.2 it (Ne.symm hne)).trans q, hne⟩, fun b hb => ?_⟩
    · rw [I.tuple_inj hy hq]
      exact hx
    · rw [show ((i + 1 : Nat) : Int) = (i : Int) + 1 by omega]
      exact he'
    · have hlt : b < s.heap.objs.size := by
        rcases (show b = e ∨ b = it by simpa using hb) with rfl | rfl
        · exact hel
        · exact hil
      rw [upd_ne (Nat.ne_of_lt hlt)]
      exact (hf b hb).1
  done := by
    intro X hP hw hK hc i pins s σ H E I hf st hg
    subst hP hw hK
    obtain ⟨⟨old, he⟩, hit, hne⟩ := st
    obtain ⟨xs, hq, hx⟩ := hg
    obtain ⟨its, rv, p, hz⟩ := I.tuple hq
    obtain ⟨f0, f1, f2, f3, f4, f5⟩ := hf it (by simp)
    have hl := rv.length
    have hT : s.TypeIs (.ref e) "enumerate" := ⟨_, he, rfl⟩
    unfold pyNext
    refine wpAny_bind (wpAny_attempt (wpAny_callSpecial?_slot (name := Str.ofString "__next__") hT F.slot_enumerate_next (wpAny_call_entry F.slot_enumerate_next hT F.entry_enumerate_next ?_ (F.args_enumerate_next_1 _))))
    show wpAny _ _ (field (.ref e) 2 >>= _) _ _ _
    refine wpAny_bind (wpAny_field he rfl (x := .ref it) rfl ?_)
    refine wpAny_bind (wpAny_nextOf_tuple_end (I.ok.hd hc) hit p (by simp; omega) fun h' z he' hx' => ?_)
    obtain ⟨o, ho, hcl⟩ := hx'
    refine wpAny_bind (wpAny_isInstance (T := "StopIteration") (b := true) ⟨o, ho, hcl⟩ isSubtype_stop ?_)
    exact wpAny_pure ⟨rfl, I.turned (t' := s.toks) (fun b u hb q => he' b u hb q) f0 f1 f3 f4 f5⟩
  self := fun A i s Q E st h => by
    obtain ⟨⟨_, he⟩, _⟩ := st
    exact wpAny_pyIter_enum he h
theorem walk_enumT {K : PySem.W.Frag} {a : Addr} {xs : List V} : Walk (Itet K a) xs.length (fun H => SqT K H a xs) (YPair (fun i => some (.int (i : Nat))) (fun i => xs[i]?)) := by
  refine ⟨fun i _ hi q => ⟨xs, xs[i], q, by simp [hi]⟩, fun _ q => ⟨xs, q, Nat.le_refl _⟩, fun i H v H' _ q y => ?_⟩
  obtain ⟨T, x, h1, h2, h3, h4⟩ := y
  exact ⟨T, .int (i : Nat), x, h1, h2, h3, rfl, h4 xs q⟩
/-- for .. in enumerate(x), x a list or a tuple that only grows the heap around it -/
def iEnumS (K : PySem.W.Frag) (ta : TA) : TI := fun σ H R => ta σ H fun vs H1 => ∃ a xs H0, vs = [.ref a] ∧ SqS K H0 a xs ∧ Ext H0 H1 ∧
  ∀ (J : It) (G : Hp → Prop), Walk J xs.length G (YPair (fun i => some (.int (i : Nat))) (fun i => xs[i]?)) → (∀ H', Ext H0 H' → G H') → R J H1
theorem pi_enumS {X : Cx} {e : Expr} {ta : TA} {p pos tpos : Pos} {elts : List Expr} {kk : Nat} (hg : Gl X "enumerate") (hm : X.mg "enumerate" = none) (ha : PA X [e] ta) (hs : starEach [e] X.env = [(false, eval e X.env)] := by rfl) :
    PI X (.Tuple elts kk tpos) (.Call (.Name "enumerate" p) [e] [] pos) (iEnumS X.K ta) := by
  constructor
  intro pins s σ H R I h
  refine Call_ (ld_blt I hg hm boot_enumerate (PyProof.Rows.callWith_type1 (thn (ha.run pos pins s σ H _ I h) ?_) hs rfl))
  rintro us s1 ⟨vs, H1, I1, r1, a, xs, H0, rfl, hq, hx0, q⟩
  obtain ⟨u, rfl, ru⟩ := vals1 r1
  obtain rfl : u = Value.ref a := ru
  have fp : ∀ b ∈ [s1.heap.objs.size + 1, s1.heap.objs.size], s1.heap.objs.size ≤ b := fun b hb => by
    rcases (show b = s1.heap.objs.size + 1 ∨ b = s1.heap.objs.size by simpa using hb) with rfl | rfl
    · exact Nat.le_succ _
    · exact Nat.le_refl _
  rcases hq with hq | hq
  · have hq1 := hx0.sqL hq
    obtain ⟨its, rv, pl, hz⟩ := I1.list hq1
    refine call_enumerate_list pl.isList fun h' he hit hsz hk => wpAny_pyIter_enum he ?_
    exact ⟨s1.heap.objs.size + 1, [s1.heap.objs.size + 1, s1.heap.objs.size], _, _, H1, rfl, I1.kept (t' := s1.toks) hk, turn_enum a (s1.heap.objs.size + 1) s1.heap.objs.size, ⟨⟨.none, he⟩, hit, Nat.succ_ne_self _⟩, fun b hb => I1.fpOk (fp b hb) (I1.hok.fresh (fp b hb)), q _ _ walk_enum fun H' e' => e'.sqL hq⟩
  · have hq1 := hx0.sqT hq
    obtain ⟨its, rv, pt, hz⟩ := I1.tuple hq1
    have hlt : a < s1.heap.objs.size := by
      obtain ⟨o, ho, _⟩ := pt
      exact Heap.lt_size ho
    refine enum1_begins (begins_tuple a its.toArray) pt fun h' he hit hsz hk => wpAny_pyIter_enum he ?_
    exact ⟨s1.heap.objs.size + 1, [s1.heap.objs.size + 1, s1.heap.objs.size], _, _, H1, rfl, I1.kept (t' := s1.toks) hk, turn_enumT a (s1.heap.objs.size + 1) s1.heap.objs.size (Nat.ne_of_lt (Nat.lt_succ_of_lt hlt)) (Nat.ne_of_lt hlt), ⟨⟨.none, he⟩, ⟨_, hit, rfl, rfl⟩, Nat.succ_ne_self _⟩, fun b hb => I1.fpOk (fp b hb) (I1.hok.fresh (fp b hb)), q _ _ walk_enumT fun H' e' => e'.sqT hq⟩
/-- x[i], x a list or a tuple -/
def rIxS (K : PySem.W.Frag) : R2 := fun x y H Q => ∃ (p : Addr) (xs : List V) (i : Int) (z : V), x = .ref p ∧ y = .int i ∧ SqS K H p xs ∧ atI xs i = some z ∧ Q z H
theorem ix_seq {X : Cx} : IxR X (rIxS X.K) := by
  intro va sl pins s σ H x y u v Q I rx ry h
  obtain ⟨p, xs, i, z, rfl, rfl, hs, ha, q⟩ := h
  rcases hs with hs | hs
  · exact ix_list va sl pins s σ H _ _ u v Q I rx ry ⟨p, xs, i, z, rfl, rfl, hs, ha, q⟩
  · exact ix_tup va sl pins s σ H _ _ u v Q I rx ry ⟨p, xs, i, z, rfl, rfl, hs, ha, q⟩
end Mc
/-! McSort: sorted lists of data, by what the data say; ports and wires in order; heaps that change at some places. -/
namespace Mc
open PySem PySem.Spec PyProof.Rows L2
theorem zip_map {α β γ : Type} {R : α → β → Prop} (f : β → γ) : ∀ {xs : List α} {ys : List β}, Paired R xs ys → xs.zip (ys.map f) = (xs.zip ys).map fun q => (q.1, f q.2)
  | _, _, .nil => rfl
  | _, _, .cons _ r => congrArg (List.cons _) (zip_map f r)
theorem zip_all {α β : Type} {R : α → β → Prop} : ∀ {xs : List α} {ys : List β}, Paired R xs ys → ∀ q ∈ xs.zip ys, R q.1 q.2
  | _, _, .nil, q, h => by cases h
  | _, _, .cons a r, q, h => by
    rcases List.mem_cons.mp h with rfl | h
    · exact a
    · exact zip_all r q h
theorem zip_snd2 {α β : Type} {R : α → β → Prop} : ∀ {xs : List α} {ys : List β}, Paired R xs ys → (xs.zip ys).map Prod.snd = ys
  | _, _, .nil => rfl
  | _, _, .cons _ r => congrArg (List.cons _) (zip_snd2 r)
theorem paired_of {α β : Type} {R : α → β → Prop} : ∀ {l : List (α × β)}, (∀ q ∈ l, R q.1 q.2) → Paired R (l.map Prod.fst) (l.map Prod.snd)
  | [], _ => .nil
  | q :: l, h => .cons (h q List.mem_cons_self) (paired_of fun r hr => h r (List.mem_cons_of_mem _ hr))
/-- what sorted makes of values that are data by enc -/
theorem sorted_paired {α : Type} (enc : α → PyData) {R : V → α → Prop} {xs : List V} {os : List α} (h : Paired R xs os) :
    Paired R (((xs.zip (os.map enc)).mergeSort (PySem.W.dataLe false Prod.snd)).map Prod.fst) (os.mergeSort (PySem.W.dataLe false enc)) := by
  have e1 : (xs.zip (os.map enc)).mergeSort (PySem.W.dataLe false Prod.snd) = ((xs.zip os).mergeSort (PySem.W.dataLe false fun q : V × α => enc q.2)).map fun q => (q.1, enc q.2) := by
    rw [zip_map enc h]
    exact (List.map_mergeSort (f := fun q : V × α => (q.1, enc q.2)) (l := xs.zip os) (r := PySem.W.dataLe false fun q : V × α => enc q.2) (s := PySem.W.dataLe false Prod.snd) (fun a _ b _ => rfl)).symm
  have e2 : os.mergeSort (PySem.W.dataLe false enc) = ((xs.zip os).mergeSort (PySem.W.dataLe false fun q : V × α => enc q.2)).map Prod.snd := by
    have := List.map_mergeSort (f := Prod.snd) (l := xs.zip os) (r := PySem.W.dataLe false fun q : V × α => enc q.2) (s := PySem.W.dataLe false enc) (fun a _ b _ => rfl)
    rw [this, zip_snd2 h]
  rw [e1, e2, List.map_map]
  exact paired_of fun q hq => zip_all h q (List.mem_mergeSort.mp hq)
theorem dpAll_paired {α : Type} (enc : α → PyData) {K : PySem.W.Frag} {H : Hp} {R : V → α → Prop} (hR : ∀ v a, R v a → Dp K H v (enc a)) : ∀ {xs : List V} {os : List α}, Paired R xs os → DpAll K H xs (os.map enc)
  | _, _, .nil => .nil
  | _, _, .cons a r => .cons (hR _ _ a) (dpAll_paired enc hR r)
/-! ### ports and wires in order -/
def pLt (p q : Port) : Bool := decide (p.1 < q.1 ∨ (p.1 = q.1 ∧ p.2 < q.2))
def portD (p : Port) : PyData := .tuple [.int p.1, .int p.2]
def wireD (e : Port × Port) : PyData := .tuple [portD e.1, portD e.2]
def wLt (e f : Port × Port) : Bool := pLt e.1 f.1 || (decide (e.1 = f.1) && pLt e.2 f.2)
theorem pLt_iff {p q : Port} : pLt p q = true ↔ p.1 < q.1 ∨ (p.1 = q.1 ∧ p.2 < q.2) := by simp [pLt]
theorem pLt_false {p q : Port} : pLt p q = false ↔ ¬ (p.1 < q.1 ∨ (p.1 = q.1 ∧ p.2 < q.2)) := by
  unfold pLt
  exact decide_eq_false_iff_not
theorem port_ext {p q : Port} : p = q ↔ p.1 = q.1 ∧ p.2 = q.2 := ⟨fun h => by subst h; exact ⟨rfl, rfl⟩, fun ⟨a, b⟩ => Prod.ext a b⟩
theorem lexLt_port (p q : Port) : HT.lexLt [p.1, p.2] [q.1, q.2] = pLt p q := by
  rw [HT.lexLt_cons, HT.lexLt_cons, HT.lexLt_nil_nil, Bool.eq_iff_iff, pLt_iff]
  by_cases h1 : p.1 = q.1
  · rw [if_pos h1]
    by_cases h2 : p.2 = q.2
    · rw [if_pos h2]
      simp [h1, h2]
    · rw [if_neg h2, decide_eq_true_eq]
      omega
  · rw [if_neg h1, decide_eq_true_eq]
    omega
theorem eqv_port (p q : Port) : PyData.eqv (portD p) (portD q) = decide (p = q) := by
  have e : PyData.eqv (portD p) (portD q) = (decide (p.1 = q.1) && (decide (p.2 = q.2) && true)) := by
    unfold portD
    simp [PyData.eqv, PyData.eqvAll]
    rfl
  rw [e, Bool.eq_iff_iff]
  simp [port_ext]
theorem alike_port (p q : Port) : PySem.W.alike (portD p) (portD q) = true := by simp [portD, PySem.W.alike, PySem.W.alikeAll]
theorem dataLt_port (p q : Port) : PySem.W.dataLt (portD p) (portD q) = pLt p q := PySem.W.dataLt_ii _ _ _ _
theorem alike_wire (e f : Port × Port) : PySem.W.alike (wireD e) (wireD f) = true := by simp [wireD, PySem.W.alike, PySem.W.alikeAll, alike_port]
theorem dataLt_wire (e f : Port × Port) : PySem.W.dataLt (wireD e) (wireD f) = wLt e f := by
  unfold wireD
  rw [PySem.W.dataLt_pair (alike_port _ _) (alike_port _ _), eqv_port, eqv_port, dataLt_port, dataLt_port]
  unfold wLt
  rw [Bool.eq_iff_iff]
  by_cases h1 : e.1 = f.1
  · have n : pLt e.1 f.1 = false := by
      rw [pLt_false, h1]
      omega
    by_cases h2 : e.2 = f.2
    · have n2 : pLt e.2 f.2 = false := by
        rw [pLt_false, h2]
        omega
      simp [h1, h2, n, n2, pLt_false]
    · simp [h1, h2]
      have n : pLt f.1 f.1 = false := by
        rw [pLt_false]
        omega
      simp [n]
  · simp [h1]
theorem depth_wire (e : Port × Port) : (wireD e).depth ≤ 2 := by simp [wireD, portD, PyData.depth, PyData.depthAll]
theorem tup_wire (e : Port × Port) : tupOnly (wireD e) = true := by simp [wireD, portD, tupOnly, tupOnlyAll]
theorem wv_dp {K : PySem.W.Frag} {H : Hp} {v : V} {e : Port × Port} (h : WV H v e) : Dp K H v (wireD e) := by
  obtain ⟨t, p, r, rfl, h1, h2, h3⟩ := h
  exact .tup (.inl (.inl h1)) (.cons (.tup (.inl (.inl h2)) (.cons (.int _) (.cons (.int _) .nil))) (.cons (.tup (.inl (.inl h3)) (.cons (.int _) (.cons (.int _) .nil))) .nil))
theorem pv_dp {K : PySem.W.Frag} {H : Hp} {v : V} {p : Port} (h : PV H v p) : Dp K H v (portD p) := by
  obtain ⟨t, rfl, h1⟩ := h
  exact .tup (.inl (.inl h1)) (.cons (.int _) (.cons (.int _) .nil))
/-- wires, ascending -/
def wSort (l : List (Port × Port)) : List (Port × Port) := l.mergeSort (PySem.W.dataLe false wireD)
theorem wle_eq (e f : Port × Port) : PySem.W.dataLe false wireD e f = !wLt f e := by
  rw [PySem.W.dataLe_eq]
  show (!PySem.W.dataLt (wireD f) (wireD e)) = _
  rw [dataLt_wire]
theorem wLt_iff {e f : Port × Port} : wLt e f = true ↔ (e.1.1 < f.1.1 ∨ (e.1.1 = f.1.1 ∧ e.1.2 < f.1.2)) ∨ ((e.1.1 = f.1.1 ∧ e.1.2 = f.1.2) ∧ (e.2.1 < f.2.1 ∨ (e.2.1 = f.2.1 ∧ e.2.2 < f.2.2))) := by
  unfold wLt
  rw [Bool.or_eq_true, Bool.and_eq_true, pLt_iff, pLt_iff, decide_eq_true_eq, port_ext]
theorem wLt_false {e f : Port × Port} : wLt e f = false ↔ ¬ ((e.1.1 < f.1.1 ∨ (e.1.1 = f.1.1 ∧ e.1.2 < f.1.2)) ∨ ((e.1.1 = f.1.1 ∧ e.1.2 = f.1.2) ∧ (e.2.1 < f.2.1 ∨ (e.2.1 = f.2.1 ∧ e.2.2 < f.2.2)))) := by
  rw [← wLt_iff, Bool.not_eq_true]
theorem wSort_sorted (l : List (Port × Port)) : (wSort l).Pairwise fun e f => wLt f e = false := by
  have h := List.pairwise_mergeSort (le := PySem.W.dataLe false wireD) (fun a b c h1 h2 => by
    rw [wle_eq] at h1 h2 ⊢
    simp only [Bool.not_eq_true'] at h1 h2 ⊢
    rw [wLt_false] at h1 h2 ⊢
    omega) (fun a b => by
    rw [wle_eq, wle_eq]
    by_cases h : wLt b a = true
    · have : wLt a b = false := by
        rw [wLt_false]
        rw [wLt_iff] at h
        omega
      simp [this]
    · simp [h]) l
  refine h.imp fun {a b} hab => ?_
  rw [wle_eq] at hab
  simpa using hab
theorem wSort_perm (l : List (Port × Port)) : (wSort l).Perm l := List.mergeSort_perm l _
/-! ### heaps that change at some places -/
def XB (S : List Addr) (H G : Hp) : Prop := ∀ c o, c ∉ S → H c = some o → G c = some o
theorem XB.refl (S : List Addr) (H : Hp) : XB S H H := fun _ _ _ e => e
theorem XB.trans {S : List Addr} {H G F : Hp} (a : XB S H G) (b : XB S G F) : XB S H F := fun c o h e => b c o h (a c o h e)
theorem Ext.xb {H G : Hp} (e : Ext H G) (S : List Addr) : XB S H G := fun c o _ h => e c o h
theorem XB.put {S : List Addr} {H G : Hp} {a : Addr} {o : HO} (h : XB S H G) (ha : a ∈ S) : XB S H (upd G a o) := fun c u hc e => by
  have hne : c ≠ a := fun z => hc (z ▸ ha)
  rw [upd_ne hne]
  exact h c u hc e
theorem XB.new {S : List Addr} {H G : Hp} {p : Addr} {o : HO} (h : XB S H G) (hp : G p = none) : XB S H (upd G p o) := h.trans ((Ext.new hp).xb S)
theorem XB.text {S : List Addr} {H G : Hp} (h : XB S H G) (hS : ∀ a ∈ S, ∀ o, H a = some o → ¬ IsTup o) : TExt H G := fun c o e t => h c o (fun hc => hS c hc o e t) e
theorem XB.mono {S S' : List Addr} {H G : Hp} (h : XB S H G) (hs : ∀ a ∈ S, a ∈ S') : XB S' H G := fun c o hc e => h c o (fun z => hc (hs c z)) e
theorem XB.ext {S : List Addr} {H G : Hp} (h : XB S H G) (hS : ∀ a ∈ S, H a = none) : Ext H G := fun c o e => h c o (fun z => by rw [hS c z] at e; cases e) e
theorem XB.putN {S : List Addr} {H G : Hp} {a : Addr} {o : HO} (h : XB S H G) (ha : H a = none) : XB S H (upd G a o) := fun c u hc e => by
  have hne : c ≠ a := fun z => by rw [z, ha] at e; cases e
  rw [upd_ne hne]
  exact h c u hc e
theorem not_in1 {c a : Addr} (h : c ≠ a) : c ∉ [a] := fun z => h (List.mem_singleton.mp z)
theorem not_in2 {c a b : Addr} (h : c ≠ a) (h' : c ≠ b) : c ∉ [a, b] := fun z => by
  rcases List.mem_cons.mp z with z | z
  · exact h z
  · exact h' (List.mem_singleton.mp z)
end Mc
/-! McMake: C(e, .., k = v, ..) by a promise about the arguments alone; what is raised is wished for at the caller's slots. -/
namespace Mc
open PySem PySem.Spec PyProof.Rows L2
/-- n values, keywords ks: the class at cls makes what sp promises -/
structure MkR (P : Program) (w : World) (K : PySem.W.Frag) (mg : Str → Option Value) (base : Heap) (C : CXT) (k : Nat) (cls : Addr) (n : Nat) (ks : List Str) (sp : List V → List V → Hp → VK → XK → Prop) : Prop where
  ex : ∃ (f : Addr) (fd : FuncData) (ps : List Str) (g : List Value → List Value → List Value) (gV : List V → List V → List V) (sp0 : Sp), Mk K cls f ∧ FnOk P w K mg base C k f fd ps sp0 ∧ KBn K fd ps (n + 1) ks g gV ∧
    ∀ vs zs H Q E x dx, vs.length = n → zs.length = ks.length → sp vs zs H Q E → H x = none → H dx = none → dx ≠ x → sp0 (gV (.ref x :: vs) zs) (upd (upd H dx (.own x)) x (.ins cls dx [])) (fun v H2 => v = .non ∧ Q (.ref x) H2) E
def tMk (n m : Nat) (sp : List V → List V → Hp → VK → XK → Prop) (E : L2.St → XK) (t tk : TA) : TE := fun σ H Q => t σ H fun vs H1 => tk σ H1 fun zs H2 => vs.length = n ∧ zs.length = m ∧ sp vs zs H2 Q (E σ)
section
variable {X : Cx} {CX : CXT} {k n : Nat} {cls : Addr} {ks : List Str} {sp : List V → List V → Hp → VK → XK → Prop} {E : L2.St → XK} {x : Str} {p pos : Pos} {e : Expr} {es : List Expr} {kws : List Keyword} {t tk : TA}
theorem run_mkR {pins : List (Addr × Obj)} {σ : L2.St} {H : Hp} {s : Shared} {Q : VK} {us ws : List Value} {vs zs : List V} (M : MkR X.prog X.w X.K X.mg X.base CX k cls n ks sp) (hr : Room (k + 1) X.A) (hx : PassesAt CX X σ (E σ))
    (I : Inv X pins σ H s) (r : Vals vs us) (rz : Vals zs ws) (l1 : vs.length = n) (l2 : zs.length = ks.length) (h : sp vs zs H Q (E σ)) :
    wpAny (model X.prog X.w) X.A (call (.ref cls) us (ks.zip ws)) (EP X pins σ Q) X.xe s := by
  obtain ⟨f, fd, ps, g, gV, sp0, mk, F, hb, imp⟩ := M.ex
  have hq := imp vs zs H Q (E σ) (s.heap.objs.size + 1) s.heap.objs.size l1 l2 h (I.hok.fresh (Nat.le_succ _)) (I.hok.fresh (Nat.le_refl _)) (Nat.ne_of_lt (Nat.lt_succ_self _))
  have I2 := Inv.made (C := cls) I
  have r1 : Vals (V.ref (s.heap.objs.size + 1) :: vs) (Value.ref (s.heap.objs.size + 1) :: us) := .cons rfl r
  have r2 := hb.rel r1 rz
  have n1 : (Value.ref (s.heap.objs.size + 1) :: us).length = n + 1 := by
    rw [List.length_cons, ← r.length, l1]
  refine wpAny_call (make_map (f := f) I.kIn mk.makes mk.init (beq_iff_eq.mp mk.fn) (codeAny_mono (F.run _ X.stack _ _ ⟨Value.ref (s.heap.objs.size + 1) :: us, ks.zip ws⟩ (g (Value.ref (s.heap.objs.size + 1) :: us) ws) _ _ (E σ) (hr.make cls us (ks.zip ws))
    (I2.env0.make cls us (ks.zip ws)) (hb.to _ (Value.ref (s.heap.objs.size + 1) :: us) ws I2.kIn n1 (rz.length.symm.trans l2)) r2 hq) fun r s' hq' => ?_))
  cases r with
  | error e => exact hx pins _ _ e s' I2 hq'
  | ok fl =>
    cases fl with
    | ret u =>
      obtain ⟨v, H', I3, rv, ev, q3⟩ := I2.after hq'
      subst ev
      exact ⟨rv, ⟨V.ref (s.heap.objs.size + 1), H', I3, rfl, q3⟩⟩
    | next => exact False.elim hq'
    | brk => exact False.elim hq'
    | cont => exact False.elim hq'
/-- C(e, .., k = v, ..) -/
theorem pe_mkR (M : MkR X.prog X.w X.K X.mg X.base CX k cls n ks sp) (hr : Room (k + 1) X.A) (hg : Gl X x) (hm : X.mg x = some (.ref cls)) (hk : PySem.W.keepIn X.K (.ref cls) = true) (hx : ∀ σ, PassesAt CX X σ (E σ)) (ha : PA X (e :: es) t) (hkw : PK X kws tk)
    (hall : (backToKw pos (keywordEach kws X.env)).all (·.1.isSome) = true := by rfl) (hks : (backToKw pos (keywordEach kws X.env)).filterMap (·.1) = ks := by rfl) (hdb : (x == ("__debug__" : Str)) = false := by decide)
    (he : starEach (e :: es) X.env = (false, eval e X.env) :: starEach es X.env := by rfl) (hpl : ((backTo pos (starEach (e :: es) X.env)).any (·.1) || (backToKw pos (keywordEach kws X.env)).any (·.1.isNone)) = false := by rfl) :
    PE X (.Call (.Name x p) (e :: es) kws pos) (tMk n ks.length sp E t tk) := by
  refine ⟨fun pins s σ H Q I h => ?_⟩
  refine wpAny_Call_Name_kw (ld_glob I hg hm ?_ hdb)
  refine PySem.W.callWith_KW (h₀ := X.base) I.ok.mod.kin hk hall (thn (ha.run pos pins s σ H _ I h) fun us s1 ⟨vs, H1, I1, r, q⟩ => ?_) hpl he
  refine thn (hkw.run pos pins s1 σ H1 _ I1 q) fun ws s2 ⟨zs, H2, I2, rz, l1, l2, q2⟩ => ⟨I2.kIn, ?_⟩
  rw [hks]
  exact run_mkR M hr (hx σ) I2 r rz l1 l2 q2
/-- C(e, ..) -/
theorem pe_mkR0 (M : MkR X.prog X.w X.K X.mg X.base CX k cls n [] sp) (hr : Room (k + 1) X.A) (hg : Gl X x) (hm : X.mg x = some (.ref cls)) (hk : PySem.W.keepIn X.K (.ref cls) = true) (hx : ∀ σ, PassesAt CX X σ (E σ)) (ha : PA X (e :: es) t)
    (hdb : (x == ("__debug__" : Str)) = false := by decide) (he : starEach (e :: es) X.env = (false, eval e X.env) :: starEach es X.env := by rfl) (hpl : (backTo pos (starEach es X.env)).any (·.1) = false := by rfl) :
    PE X (.Call (.Name x p) (e :: es) [] pos) (tMk n 0 sp E t tNil) := by
  refine ⟨fun pins s σ H Q I h => ?_⟩
  refine wpAny_Call_Name_kw (ld_glob I hg hm ?_ hdb)
  refine PySem.W.callWith_K (h₀ := X.base) I.ok.mod.kin hk (thn (ha.run pos pins s σ H _ I h) fun us s1 ⟨vs, H1, I1, r, l1, l2, q⟩ => ⟨I1.kIn, ?_⟩) he hpl
  exact run_mkR (ks := []) (ws := []) (zs := []) M hr (hx σ) I1 r .nil l1 rfl q
end
end Mc
/-! McOwn: len(x), x[y], y in x, x.m(..) of an own class's instance, by the promise of its method. -/
namespace Mc
open PySem PySem.Spec PyProof.Rows L2
section
variable {X : Cx} {C : CXT} {k : Nat} {f cls : Addr} {sp : Sp} {E : L2.St → XK}
theorem inst_of {pins : List (Addr × Obj)} {σ : L2.St} {H : Hp} {s : Shared} {a dx : Addr} {fs : List (Str × V)} (I : Inv X pins σ H s) (h : H a = some (.ins cls dx fs)) : ∃ od, PySem.W.InstAt s.heap a (PySem.W.instObj cls dx) cls (some od) := by
  obtain ⟨mA, O, _⟩ := ins_get I.hok h
  obtain ⟨od, h1, _⟩ := O.look
  exact ⟨od, h1⟩
/-- len(x) -/
def rLenO (cls : Addr) (sp : Sp) : List V → Hp → VK → Prop := fun xs H Q => ∃ (a dx : Addr) (fs : List (Str × V)), xs = [.ref a] ∧ H a = some (.ins cls dx fs) ∧ sp [.ref a] H (fun v H' => ∃ n : Nat, v = .int (n : Int) ∧ n < 1000000 ∧ Q (.int (n : Int)) H') E0
theorem call_lenO (F : FnR X.prog X.w X.K X.mg X.base (L2.CX X.prog X.w) k f sp) (hr : Room (k + 1) X.A) (m : Meth X.K cls "__len__" f) : CallR X (.builtin "len") (rLenO cls sp) := by
  intro pins s σ H xs us Q I r h
  obtain ⟨a, dx, fs, rfl, ha, q⟩ := h
  obtain ⟨u, rfl, ru⟩ := vals1 r
  obtain rfl : u = Value.ref a := ru
  obtain ⟨od, J⟩ := inst_of I ha
  refine Calls.call_function_entry PySem.kind_len PySem.plain_len PySem.entry_len (PySem.args_len1 _) ?_
  unfold Builtin.«len»
  refine wpAny_bind (m := oneArg "len" _) (wpAny_pure ?_)
  refine wpAny_bind (m := callSpecial? (.ref a) (Str.ofString "__len__")) (PySem.W.special_fn I.kIn J m.at_ (beq_iff_eq.mp m.fn) (wpAny_mono (Q := EP X pins σ fun v H' => ∃ n : Nat, v = .int (n : Int) ∧ n < 1000000 ∧ Q (.int (n : Int)) H') (E := X.xe) ?_ (fun r s' hr => ?_) fun _ _ y => ?_))
  · refine wpAny_call (codeAny_mono (F X.A.in1 X.stack s H [.ref a] [.ref a] _ E0 hr.in1 I.env0.in1 (.cons rfl .nil) q) ?_)
    intro res s' hq
    cases res with
    | error er => exact pass_no (X := X) σ pins H s er s' I hq
    | ok fl =>
      cases fl with
      | ret u => exact I.after hq
      | next => exact hq.elim
      | brk => exact hq.elim
      | cont => exact hq.elim
  · obtain ⟨v, H', I', rv, n, rfl, hn, hq⟩ := hr
    obtain ⟨t, rfl⟩ := rv
    refine wpAny_bind (wpAny_holding (wpAny_pure ?_))
    refine wpAny_bind (wpAny_letGo ?_)
    show wpAny _ _ (if (n : Int) < 0 then _ else _) _ _ _
    rw [if_neg (by omega)]
    show wpAny _ _ (if (n : Int) ≥ 2 ^ 63 then _ else _) _ _ _
    rw [if_neg (by omega)]
    exact wpAny_bind (wpAny_mkInt (wpAny_pure ⟨_, rfl, ⟨.int (n : Int), H', I'.tok _, ⟨_, rfl⟩, hq⟩⟩))
  · exact y
end
section
variable {X : Cx} {C : CXT} {k : Nat} {f cls : Addr} {sp : Sp} {E : L2.St → XK} {a b : Expr} {pos : Pos} {ta tb : TE}
def tSubO (cls : Addr) (sp : Sp) (E : L2.St → XK) (ta tb : TE) : TE := fun σ H Q => ta σ H fun x H1 => tb σ H1 fun y H2 => ∃ (o dx : Addr) (fs : List (Str × V)), x = .ref o ∧ H2 o = some (.ins cls dx fs) ∧ sp [x, y] H2 Q (E σ)
/-- x[y] -/
theorem pe_subO (F : FnR X.prog X.w X.K X.mg X.base C k f sp) (hr : Room (k + 1) X.A) (m : Meth X.K cls "__getitem__" f) (hf : PySem.W.fnIn X.K f = true) (hx : ∀ σ, PassesAt C X σ (E σ)) (ha : PE X a ta) (hb : PE X b tb)
    (hsl : ∀ o i, subscripted b true o i = runValue (.builtin "lifetime.subscript" ⟨[o, i], []⟩) := by intro _ _; rfl) : PE X (.Subscript a b pos) (tSubO cls sp E ta tb) := by
  refine ⟨fun pins s σ H Q I h => ?_⟩
  refine Subscript_ (thn (ha.run pins s σ H _ I h) fun u s1 ⟨x, H1, I1, rx, q1⟩ => thn (hb.run pins s1 σ H1 _ I1 q1) fun iv s2 ⟨y, H2, I2, ry, o, dx, fs, ex, ho, q2⟩ => ?_)
  subst ex
  obtain rfl : u = Value.ref o := rx
  obtain ⟨od, J⟩ := inst_of I2 ho
  have KX := I2.kIn
  have hf' := hf
  unfold PySem.W.fnIn at hf'
  split at hf'
  · rename_i e
    unfold subscriptTail getitemInPython
    refine wpAny_bind (wpAny_bind (wpAny_bind (J.type.here ((PySem.W.looks_findIn KX m.at_).here ?_))))
    dsimp only
    refine wpAny_bind (wpAny_load (KX _ _ e) (wpAny_pure ?_))
    dsimp only
    rw [hsl]
    refine wpAny_bind (wpAny_runValue (codeAny_builtin PySem.W.entry_sub ?_))
    unfold Builtin.«lifetime.subscript»
    refine wpAny_bind (PySem.W.special_fn KX J m.at_ (beq_iff_eq.mp m.fn) (wpAny_mono (Q := EP X pins σ Q) (E := X.xe) ?_ (fun v s' z => ?_) fun _ _ z => z))
    · refine wpAny_call (codeAny_mono (F X.A.in1 X.stack s2 H2 [.ref o, iv] [.ref o, y] _ (E σ) hr.in1 I2.env0.in1 (.cons rfl (.cons ry .nil)) q2) ?_)
      intro res s' hq
      cases res with
      | error er => exact hx σ pins H2 s2 er s' I2 hq
      | ok fl =>
        cases fl with
        | ret u => exact I2.after hq
        | next => exact hq.elim
        | brk => exact hq.elim
        | cont => exact hq.elim
    · refine wpAny_pure ?_
      show wpAny (model X.prog X.w) X.A (letTemporaryGo a (.ref o) v >>= fun _ => pure v) _ X.xe s'
      exact wpAny_bind (wpAny_letTemporaryGo (wpAny_pure z))
  · cases hf'
/-- y in x: the answer is a truth -/
def tInO (cls : Addr) (sp : Sp) (neg : Bool) (ta tb : TE) : TE := fun σ H Q => ta σ H fun y H1 => tb σ H1 fun x H2 => ∃ (o dx : Addr) (fs : List (Str × V)), x = .ref o ∧ H2 o = some (.ins cls dx fs) ∧ sp [x, y] H2 (fun v H' => ∃ c, v = .bl c ∧ Q (.bl (xor neg c)) H') E0
end
section
variable {X : Cx} {C : CXT} {k : Nat} {f : Addr} {sp : Sp} {m : Str} {apos cpos : Pos} {o e : Expr} {es : List Expr} {to : TE} {t : TA} {E : L2.St → XK}
def tMeth (cls : Addr) (m : Str) (sp : Sp) (E : L2.St → XK) (to : TE) (t : TA) : TE := fun σ H Q => to σ H fun x H1 => ∃ (a dx : Addr) (fs : List (Str × V)), x = .ref a ∧ H1 a = some (.ins cls dx fs) ∧ fs.lookup m = none ∧ t σ H1 fun vs H2 => sp (x :: vs) H2 Q (E σ)
end
theorem fnIn_of {K : PySem.W.Frag} {x qual : Str} {params : Arguments} {body : List Stmt} {scope : Scope} {dvs : List V} {kws : List (Str × V)} {f : Addr} {fd : FuncData} (F : FunD K x qual params body scope dvs kws f fd) : PySem.W.fnIn K f = true := by
  obtain ⟨oc, od, dV, kV, doc, pm, an, cdv, ct, osl, rfl, lk, _⟩ := F.ex
  unfold PySem.W.fnIn
  rw [lk]
end Mc
/-! McPlain: ==, !=, in, not in, remove over data of any depth. -/
namespace Mc
open PySem PySem.Spec PyProof.Rows L2
mutual
theorem dp_plain {K : PySem.W.Frag} {H : Hp} : ∀ (d : PyData) (v : V), Dp K H v d → d.plain = true
  | .none, _, _ => rfl
  | .bool _, _, _ => rfl
  | .int _, _, _ => rfl
  | .str _, _, _ => rfl
  | .list ds, _, h => by
    cases h with
    | lst _ r => exact (by rw [PyData.plain]; exact dpAll_plain ds _ r)
  | .tuple ds, _, h => by
    cases h with
    | tup _ r => exact (by rw [PyData.plain]; exact dpAll_plain ds _ r)
  | .dict _, _, h => by cases h
theorem dpAll_plain {K : PySem.W.Frag} {H : Hp} : ∀ (ds : List PyData) (vs : List V), DpAll K H vs ds → PyData.plainAll ds = true
  | [], _, _ => rfl
  | d :: ds, _, h => by
    cases h with
    | cons h1 h2 => rw [PyData.plainAll, dp_plain d _ h1, dpAll_plain ds _ h2]; rfl
end
section
variable {X : Cx}
def rEqP (K : PySem.W.Frag) : R2 := fun x y H Q => ∃ d e, Dp K H x d ∧ Dp K H y e ∧ d.depth ≤ 60 ∧ Q (.bl (PyData.eqv d e)) H
def rNeP (K : PySem.W.Frag) : R2 := fun x y H Q => ∃ d e, Dp K H x d ∧ Dp K H y e ∧ d.depth ≤ 60 ∧ Q (.bl (!PyData.eqv d e)) H
theorem op_eqP (hu : X.A.units + 64 < cLine) : OpR X (compareOp .Eq) (rEqP X.K) := by
  intro pins s σ H x y v u Q I rx ry h
  obtain ⟨d, e, hd, he, dp, q⟩ := h
  obtain ⟨as, r1⟩ := Dp.reads I d x v hd rx
  obtain ⟨bs, r2⟩ := Dp.reads I e y u he ry
  exact SeqAt.eq_plain r1 r2 (dp_plain d x hd) (dp_plain e y he) (by omega) ⟨.bl _, H, I, rfl, q⟩
theorem op_neP (hu : X.A.units + 64 < cLine) : OpR X (compareOp .NotEq) (rNeP X.K) := by
  intro pins s σ H x y v u Q I rx ry h
  obtain ⟨d, e, hd, he, dp, q⟩ := h
  obtain ⟨as, r1⟩ := Dp.reads I d x v hd rx
  obtain ⟨bs, r2⟩ := Dp.reads I e y u he ry
  exact SeqAt.ne_plain r1 r2 (dp_plain d x hd) (dp_plain e y he) (by omega) ⟨.bl _, H, I, rfl, q⟩
/-- x in y, a list or a tuple -/
def rInP (K : PySem.W.Frag) (neg : Bool) : R2 := fun x y H Q => ∃ d e ds, Dp K H x d ∧ Dp K H y e ∧ (e = .list ds ∨ e = .tuple ds) ∧ d.depth ≤ 60 ∧ Q (.bl (xor neg (ds.any fun z => PyData.eqv z d))) H
theorem op_inP (hu : X.A.units + 64 < cLine) : OpR X (compareOp .In) (rInP X.K false) := by
  intro pins s σ H x y v u Q I rx ry h
  obtain ⟨d, e, ds, hd, he, hs, dp, q⟩ := h
  obtain ⟨as, r1⟩ := Dp.reads I d x v hd rx
  obtain ⟨bs, r2⟩ := Dp.reads I e y u he ry
  have pl := dp_plain e y he
  rw [Bool.false_xor] at q
  rcases hs with rfl | rfl
  · exact SeqAt.in_list_data r2 r1 (by rwa [PyData.plain] at pl) (dp_plain d x hd) (by omega) ⟨.bl _, H, I, rfl, q⟩
  · exact SeqAt.in_tuple_data r2 r1 (by rwa [PyData.plain] at pl) (dp_plain d x hd) (by omega) ⟨.bl _, H, I, rfl, q⟩
theorem op_notInP (hu : X.A.units + 64 < cLine) : OpR X (compareOp .NotIn) (rInP X.K true) := by
  intro pins s σ H x y v u Q I rx ry h
  obtain ⟨d, e, ds, hd, he, hs, dp, q⟩ := h
  obtain ⟨as, r1⟩ := Dp.reads I d x v hd rx
  obtain ⟨bs, r2⟩ := Dp.reads I e y u he ry
  have pl := dp_plain e y he
  rw [Bool.true_xor] at q
  rcases hs with rfl | rfl
  · exact SeqAt.notIn_list_data r2 r1 (by rwa [PyData.plain] at pl) (dp_plain d x hd) (by omega) ⟨.bl _, H, I, rfl, q⟩
  · exact SeqAt.notIn_tuple_data r2 r1 (by rwa [PyData.plain] at pl) (dp_plain d x hd) (by omega) ⟨.bl _, H, I, rfl, q⟩
/-- l.remove(y), y in it -/
def rRemD (K : PySem.W.Frag) : V → List V → Hp → VK → Prop := fun x vs H Q => ∃ (l : Addr) (xs : List V) (ds : List PyData) (y : V) (d : PyData) (j : Nat), x = .ref l ∧ vs = [y] ∧ H l = some (.lst xs) ∧ DpAll K H xs ds ∧ Dp K H y d ∧ d.depth ≤ 60 ∧
  SeqAt.dataPlace ds d = some j ∧ Q .non (upd H l (.lst (xs.eraseIdx j)))
theorem mt_removeD (hu : X.A.units + 64 < cLine) : MtM X "list.remove" (rRemD X.K) := by
  intro pins s σ H x vs v us Q I rx rv h
  obtain ⟨l, xs, ds, y, d, j, rfl, rfl, hH, hds, hd, dp, hj, q⟩ := h
  cases rx
  obtain ⟨u, rfl, ru⟩ := rv.one
  obtain ⟨as, r1⟩ := Dp.reads I d y u hd ru
  obtain ⟨bs, r2⟩ := Dp.reads I (.list ds) (.ref l) (.ref l) (.lst (SqL.of hH) hds) rfl
  have pl := dpAll_plain ds xs hds
  obtain ⟨z, its, n, r, hl, e⟩ := I.lstM hH
  cases r2 with
  | list h1 h2 h3 h4 =>
    rw [e] at h1
    cases h1
    cases h3
    refine SeqAt.remove_list_data (l := l) (vs := its.toArray) ⟨_, e, rfl, _, rfl⟩ h4 r1 pl (dp_plain d y hd) (by omega) hj (by rw [List.size_toArray]; omega) ?_
    refine ⟨.non, _, I.lset (its' := its.eraseIdx j) (t' := s.toks) hH e ?_ (r.eraseIdx j) ?_, rfl, q⟩
    · show its.toArray.eraseIdxIfInBounds j = (its.eraseIdx j).toArray
      rw [List.eraseIdxIfInBounds_toArray]
    · have := List.length_eraseIdx_le xs j
      omega
end
/-! ### ports in lists of ports -/
theorem eqv_ports (l : List Port) (p : Port) : ((l.map portD).any fun z => PyData.eqv z (portD p)) = decide (p ∈ l) := by
  induction l with
  | nil => rfl
  | cons a l ih =>
    rw [List.map_cons, List.any_cons, ih, eqv_port, Bool.eq_iff_iff]
    simp only [Bool.or_eq_true, decide_eq_true_eq, List.mem_cons]
    exact or_congr eq_comm Iff.rfl
theorem place_ports {l : List Port} {p : Port} (h : p ∈ l) : SeqAt.dataPlace (l.map portD) (portD p) = some (l.idxOf p) := by
  unfold SeqAt.dataPlace
  induction l with
  | nil => cases h
  | cons a l ih =>
    rw [List.map_cons, List.findIdx?_cons, eqv_port]
    by_cases e : a = p
    · rw [decide_eq_true e, if_pos rfl, e]
      simp
    · rw [decide_eq_false e, if_neg (by decide)]
      rcases List.mem_cons.mp h with z | h
      · exact absurd z.symm e
      · rw [ih h, List.idxOf_cons, beq_eq_false_iff_ne.mpr e]
        rfl
theorem eraseIdx_paired {α β : Type} {R : α → β → Prop} : ∀ {xs : List α} {ys : List β} (j : Nat), Paired R xs ys → Paired R (xs.eraseIdx j) (ys.eraseIdx j)
  | _, _, _, .nil => .nil
  | _, _, 0, .cons _ r => r
  | _, _, j + 1, .cons a r => .cons a (eraseIdx_paired j r)
theorem eqv_nil (ds : List PyData) : PyData.eqv (.list ds) (.list []) = decide (ds = []) := by
  cases ds with
  | nil => simp [PyData.eqv, PyData.eqvAll]
  | cons d ds => simp [PyData.eqv, PyData.eqvAll]
theorem depthAll_ports : ∀ l : List Port, PyData.depthAll (l.map portD) ≤ 1
  | [] => by simp [PyData.depthAll]
  | a :: l => by
    have := depthAll_ports l
    simp only [List.map_cons, PyData.depthAll, portD, PyData.depth]
    omega
theorem depth_ports (l : List Port) : (PyData.list (l.map portD)).depth ≤ 60 := by
  have := depthAll_ports l
  simp only [PyData.depth]
  omega
end Mc
/-! McEval: expressions that are worth a given datum, wherever the heap grows. -/
namespace Mc
open PySem PySem.Spec PyProof.Rows L2
section
variable {K : PySem.W.Frag} {σ : L2.St} {H : Hp} {te : TE} {ta : TA} {d : PyData} {ds : List PyData}
def EP (K : PySem.W.Frag) (te : TE) (σ : L2.St) (H : Hp) (d : PyData) : Prop := ∀ H1, Ext H H1 → ∀ Q : VK, (∀ v H2, Ext H1 H2 → Dp K H2 v d → Q v H2) → te σ H1 Q
def EPs (K : PySem.W.Frag) (ta : TA) (σ : L2.St) (H : Hp) (ds : List PyData) : Prop := ∀ H1, Ext H H1 → ∀ Q : List V → Hp → Prop, (∀ vs H2, Ext H1 H2 → DpAll K H2 vs ds → Q vs H2) → ta σ H1 Q
def EQ (K : PySem.W.Frag) (te : TE) (σ : L2.St) (H : Hp) (d : PyData) : Prop := ∀ H1, Ext H H1 → ∀ Q : VK, (∀ v H2, Ext H1 H2 → Dq K H2 v d → Q v H2) → te σ H1 Q
def EQs (K : PySem.W.Frag) (ta : TA) (σ : L2.St) (H : Hp) (ds : List PyData) : Prop := ∀ H1, Ext H H1 → ∀ Q : List V → Hp → Prop, (∀ vs H2, Ext H1 H2 → Paired (Dq K H2) vs ds → Q vs H2) → ta σ H1 Q
theorem EP.ext {H' : Hp} (h : EP K te σ H d) (e : Ext H H') : EP K te σ H' d := fun H1 e1 Q q => h H1 (e.trans e1) Q q
theorem EQs.ext {H' : Hp} (h : EQs K ta σ H ds) (e : Ext H H') : EQs K ta σ H' ds := fun H1 e1 Q q => h H1 (e.trans e1) Q q
theorem EP.q (h : EP K te σ H d) : EQ K te σ H d := fun H1 e1 Q q => h H1 e1 Q fun v H2 e2 p => q v H2 e2 (.dp p)
theorem ep_non : EP K (tC .non) σ H .none := fun H1 _ Q q => q _ _ (Ext.refl _) .non
theorem ep_bl (b : Bool) : EP K (tC (.bl b)) σ H (.bool b) := fun H1 _ Q q => q _ _ (Ext.refl _) (.bl b)
theorem ep_int (i : Int) : EP K (tC (.int i)) σ H (.int i) := fun H1 _ Q q => q _ _ (Ext.refl _) (.int i)
theorem ep_str (x : Str) : EP K (tC (.str x)) σ H (.str x) := fun H1 _ Q q => q _ _ (Ext.refl _) (.str x)
theorem ep_neg {i : Int} : EP K (tUn (rU fun i => .int (-i)) (tC (.int i))) σ H (.int (-i)) := fun H1 _ Q q => ⟨i, rfl, q _ _ (Ext.refl _) (.int _)⟩
theorem ep_var {i : Nat} {v : V} (hv : σ[i]? = some (some v)) (hd : Dp K H v d) : EP K (tVar i) σ H d := fun H1 e Q q => ⟨v, hv, q _ _ (Ext.refl _) (dp_ext e _ _ hd)⟩
theorem ep_vint {i : Nat} {z : Int} (hv : σ[i]? = some (some (.int z))) : EP K (tVar i) σ H (.int z) := ep_var hv (.int z)
theorem ep_vstr {i : Nat} {z : Str} (hv : σ[i]? = some (some (.str z))) : EP K (tVar i) σ H (.str z) := ep_var hv (.str z)
theorem eps_nil : EPs K tNil σ H [] := fun H1 _ Q q => q [] H1 (Ext.refl _) .nil
theorem eps_cons (h : EP K te σ H d) (hr : EPs K ta σ H ds) : EPs K (tCons te ta) σ H (d :: ds) := fun H1 e1 Q q =>
  h H1 e1 _ fun v H2 e2 g => hr H2 (e1.trans e2) _ fun vs H3 e3 gs => q (v :: vs) H3 (e2.trans e3) (.cons (dp_ext e3 _ _ g) gs)
theorem eqs_nil : EQs K tNil σ H [] := fun H1 _ Q q => q [] H1 (Ext.refl _) .nil
theorem eqs_cons (h : EQ K te σ H d) (hr : EQs K ta σ H ds) : EQs K (tCons te ta) σ H (d :: ds) := fun H1 e1 Q q =>
  h H1 e1 _ fun v H2 e2 g => hr H2 (e1.trans e2) _ fun vs H3 e3 gs => q (v :: vs) H3 (e2.trans e3) (.cons (dq_ext e3 g) gs)
theorem dpA_length {H : Hp} : ∀ {xs : List V} {ds : List PyData}, DpAll K H xs ds → xs.length = ds.length
  | _, _, .nil => rfl
  | _, _, .cons _ r => congrArg Nat.succ (dpA_length r)
theorem ep_tup (h : EPs K ta σ H ds) (hm : ds.length ≤ 100000 := by simp) : EP K (tTup ta) σ H (.tuple ds) := fun H1 e1 Q q =>
  h H1 e1 _ fun vs H2 e2 gs => ⟨by rw [dpA_length gs]; exact Nat.le_trans hm (by decide), fun p hp => q _ _ (e2.trans (Ext.new hp)) (.tup (.inl (.inl upd_same)) (dpAll_ext (Ext.new hp) _ _ gs))⟩
theorem ep_lst (h : EPs K ta σ H ds) (hm : ds.length ≤ 100000 := by simp) : EP K (tLst ta) σ H (.list ds) := fun H1 e1 Q q =>
  h H1 e1 _ fun vs H2 e2 gs => ⟨by rw [dpA_length gs]; exact Nat.le_trans hm (by decide), fun p hp => q _ _ (e2.trans (Ext.new hp)) (.lst (.inl (.inl upd_same)) (dpAll_ext (Ext.new hp) _ _ gs))⟩
theorem eq_dict : EQ K tDNewK σ H (.dict []) := fun H1 _ Q q => fun d hd => q _ _ (Ext.new hd) (.dic upd_same)
/-- str(i) of a small number -/
theorem ep_strInt {i : Int} (h : EP K te σ H (.int i)) (hi : i.natAbs.log2 < 1920) : EP K (tCB (fun xs H Q => ∃ i : Int, xs = [V.int i] ∧ i.natAbs.log2 < 1920 ∧ Q (V.str (Str.ofString (toString i))) H) (tCons te tNil)) σ H (.str (Str.ofString (toString i))) := fun H1 e1 Q q =>
  h H1 e1 _ fun v H2 e2 g => by
    cases g
    exact ⟨i, rfl, hi, q _ _ e2 (.str _)⟩
theorem ep_eqP {tb : TE} {e : PyData} (h : EP K te σ H d) (h2 : EP K tb σ H e) (hd : d.depth ≤ 60) : EP K (tOp (rEqP K) te tb) σ H (.bool (PyData.eqv d e)) := fun H1 e1 Q q =>
  h H1 e1 _ fun v H2 e2 g => h2 H2 (e1.trans e2) _ fun u H3 e3 g2 => ⟨d, e, dp_ext e3 _ _ g, g2, hd, q _ _ (e2.trans e3) (.bl _)⟩
theorem ep_eqP1 {i : Int} (h : EP K te σ H (.int i)) : EP K (tOp (rEqP K) te te) σ H (.bool true) := by
  have e : PyData.eqv (.int i) (.int i) = true := by simp [PyData.eqv]
  have := ep_eqP h h (by simp [PyData.depth])
  rwa [e] at this
/-- a display of data -/
theorem lst_q {Q : VK} (h : EQs K ta σ H ds) (hm : ds.length ≤ 100000) (q : ∀ p xs H2, H p = none → Ext H H2 → H2 p = some (.lst xs) → Paired (Dq K H2) xs ds → Q (.ref p) H2) : tLst ta σ H Q :=
  h H (Ext.refl _) _ fun vs H2 e2 gs => ⟨by rw [Paired.length gs]; exact Nat.le_trans hm (by decide), fun p hp => q p vs _ (e2.fresh hp) (e2.trans (Ext.new hp)) upd_same (L2.Paired.mapP gs fun _ _ g => dq_ext (Ext.new hp) g)⟩
theorem dqs_ext {H' : Hp} {xs : List V} (e : Ext H H') (h : Paired (Dq K H) xs ds) : Paired (Dq K H') xs ds := L2.Paired.mapP h fun _ _ g => dq_ext e g
/-- some + [..] -/
theorem cat_q {Q : VK} {i : Nat} {p : Addr} {xs : List V} {es : List PyData} (hσ : σ[i]? = some (some (.ref p))) (hp : H p = some (.lst xs)) (hx : Paired (Dq K H) xs es) (hl : es.length ≤ 10000) (hA : EQs K ta σ H ds) (hm : ds.length ≤ 10000)
    (q : ∀ p' zs H', H p' = none → Ext H H' → H' p' = some (.lst zs) → Paired (Dq K H') zs (es ++ ds) → Q (.ref p') H') : tOp rCat (tVar i) (tLst ta) σ H Q :=
  ⟨_, hσ, lst_q hA (by omega) fun p2 ys H2 hn2 e2 hp2 g2 => ⟨p, p2, xs, ys, rfl, rfl, e2 _ _ hp, hp2, by have h1 := Paired.length hx; have h2 := Paired.length g2; exact Nat.le_trans (show xs.length + ys.length ≤ 100000 by omega) (by decide), fun p3 hp3 =>
    q p3 (xs ++ ys) _ (e2.fresh hp3) (e2.trans (Ext.new hp3)) upd_same (paired_append (dqs_ext (e2.trans (Ext.new hp3)) hx) (dqs_ext (Ext.new hp3) g2))⟩⟩
end
/-! ### the statements that use such displays -/
section
variable {K : PySem.W.Frag} {σ : L2.St} {H : Hp} {ta : TA} {ds es : List PyData} {g : TG} {tb : TS} {D : Ends}
theorem for_lst_q (h : EQs K ta σ H ds) (hm : ds.length ≤ 100000) (q : ∀ p xs H2, H p = none → Ext H H2 → H2 p = some (.lst xs) → Paired (Dq K H2) xs ds → tFor (iList K (tC (.ref p))) g tb D σ H2) : tFor (iList K (tLst ta)) g tb D σ H := by
  unfold tFor iList
  exact lst_q h hm q
theorem for_cat_q {i : Nat} {p : Addr} {xs : List V} (hσ : σ[i]? = some (some (.ref p))) (hp : H p = some (.lst xs)) (hx : Paired (Dq K H) xs es) (hl : es.length ≤ 10000) (hA : EQs K ta σ H ds) (hm : ds.length ≤ 10000)
    (q : ∀ p' zs H', H p' = none → Ext H H' → H' p' = some (.lst zs) → Paired (Dq K H') zs (es ++ ds) → tFor (iList K (tC (.ref p'))) g tb D σ H') : tFor (iList K (tOp rCat (tVar i) (tLst ta))) g tb D σ H := by
  unfold tFor iList
  exact cat_q hσ hp hx hl hA hm q
theorem asg_lst_q (h : EQs K ta σ H ds) (hm : ds.length ≤ 100000) (q : ∀ p xs H2, H p = none → Ext H H2 → H2 p = some (.lst xs) → Paired (Dq K H2) xs ds → g (.ref p) σ H2 D.nx) : tAsg (tLst ta) g D σ H := by
  unfold tAsg
  exact lst_q h hm q
theorem asg_cat_q {i : Nat} {p : Addr} {xs : List V} (hσ : σ[i]? = some (some (.ref p))) (hp : H p = some (.lst xs)) (hx : Paired (Dq K H) xs es) (hl : es.length ≤ 10000) (hA : EQs K ta σ H ds) (hm : ds.length ≤ 10000)
    (q : ∀ p' zs H', H p' = none → Ext H H' → H' p' = some (.lst zs) → Paired (Dq K H') zs (es ++ ds) → g (.ref p') σ H' D.nx) : tAsg (tOp rCat (tVar i) (tLst ta)) g D σ H := by
  unfold tAsg
  exact cat_q hσ hp hx hl hA hm q
end
/-! ### data that may be shown -/
theorem ofString_lt (s : String) : ∀ c ∈ (Str.ofString s).cps.toList, c < 1114112 := by
  rw [Str.ofString_eq_toList]
  intro c hc
  have hc' : c ∈ s.toList.map Char.toNat := by simpa using hc
  obtain ⟨ch, _, rfl⟩ := List.mem_map.mp hc'
  have := ch.valid
  show ch.val.toNat < 1114112
  rcases this with h | ⟨_, h⟩
  · have h2 : ch.val.toNat < 55296 := h
    omega
  · have h2 : ch.val.toNat < 1114112 := h
    exact h2
theorem sm_strInt {i : Int} {k : Nat} (hk : 0 < k) (h : i.natAbs < 10 ^ k) : Sm (10 * (k + 1) + 2) 0 (.str (Str.ofString (toString i))) :=
  sm_str (by rw [PySem.ofString_length]; exact int_text_length_le10 hk h) (ofString_lt _)
theorem log2_small9 {i : Int} (h : i.natAbs < 10 ^ 9) : i.natAbs.log2 < 1920 := log2_small (Nat.lt_of_lt_of_le h (by decide +kernel))
theorem shows_port {p : Port} (h1 : p.1.natAbs < 10 ^ 9) (h2 : p.2.natAbs < 10 ^ 9) : Sm 27 1 (portD p) :=
  (sm_tuple (n := 10) (k := 0) (all_cons (sm_int (k := 9) (by decide) (by decide) h1) (all_cons (sm_int (k := 9) (by decide) (by decide) h2) all_nil))).up (by show 10 * 2 + 2 * 2 + 3 ≤ 27; decide) (by decide)
end Mc
/-! McTrack: data all of whose tuples and lists are tracked; expressions worth such data. -/
namespace Mc
open PySem PySem.Spec PyProof.Rows L2
mutual
inductive Dt (H : Hp) : V → PyData → Prop
  | non : Dt H .non .none
  | bl (b : Bool) : Dt H (.bl b) (.bool b)
  | int (i : Int) : Dt H (.int i) (.int i)
  | str (x : Str) : Dt H (.str x) (.str x)
  | lst {a : Addr} {xs : List V} {ds : List PyData} (h : H a = some (.lst xs)) (r : DtAll H xs ds) : Dt H (.ref a) (.list ds)
  | tup {a : Addr} {xs : List V} {ds : List PyData} (h : H a = some (.tup xs)) (r : DtAll H xs ds) : Dt H (.ref a) (.tuple ds)
  | dic {a : Addr} (h : H a = some (.dK [])) : Dt H (.ref a) (.dict [])
inductive DtAll (H : Hp) : List V → List PyData → Prop
  | nil : DtAll H [] []
  | cons {v : V} {d : PyData} {vs : List V} {ds : List PyData} (h : Dt H v d) (r : DtAll H vs ds) : DtAll H (v :: vs) (d :: ds)
end
mutual
/-- no dict within -/
def noDic : PyData → Bool
  | .list ds => noDicAll ds
  | .tuple ds => noDicAll ds
  | .dict _ => false
  | .none | .bool _ | .int _ | .str _ => true
def noDicAll : List PyData → Bool
  | [] => true
  | d :: ds => noDic d && noDicAll ds
end
mutual
theorem Dt.ext {H H' : Hp} (e : Ext H H') : ∀ {v : V} {d : PyData}, Dt H v d → Dt H' v d
  | _, _, .non => .non
  | _, _, .bl b => .bl b
  | _, _, .int i => .int i
  | _, _, .str x => .str x
  | _, _, .lst h r => .lst (e _ _ h) (DtAll.ext e r)
  | _, _, .tup h r => .tup (e _ _ h) (DtAll.ext e r)
  | _, _, .dic h => .dic (e _ _ h)
theorem DtAll.ext {H H' : Hp} (e : Ext H H') : ∀ {vs : List V} {ds : List PyData}, DtAll H vs ds → DtAll H' vs ds
  | _, _, .nil => .nil
  | _, _, .cons h r => .cons (Dt.ext e h) (DtAll.ext e r)
end
mutual
theorem Dt.dp {K : PySem.W.Frag} {H : Hp} : ∀ {v : V} {d : PyData}, Dt H v d → noDic d = true → Dp K H v d
  | _, _, .non, _ => .non
  | _, _, .bl b, _ => .bl b
  | _, _, .int i, _ => .int i
  | _, _, .str x, _ => .str x
  | _, _, .lst h r, n => .lst (SqL.of h) (DtAll.dp r (by simpa only [noDic] using n))
  | _, _, .tup h r, n => .tup (.inl (.inl h)) (DtAll.dp r (by simpa only [noDic] using n))
  | _, _, .dic h, n => by simp [noDic] at n
theorem DtAll.dp {K : PySem.W.Frag} {H : Hp} : ∀ {vs : List V} {ds : List PyData}, DtAll H vs ds → noDicAll ds = true → DpAll K H vs ds
  | _, _, .nil, _ => .nil
  | _, _, .cons h r, n => by
    simp only [noDicAll, Bool.and_eq_true] at n
    exact .cons (h.dp n.1) (r.dp n.2)
end
/-- a datum at the top of which a dict may stand -/
def topDic (d : PyData) : Prop := noDic d = true ∨ d = .dict []
theorem Dt.dq {K : PySem.W.Frag} {H : Hp} {v : V} {d : PyData} (h : Dt H v d) (n : topDic d) : Dq K H v d := by
  rcases n with n | rfl
  · exact .dp (h.dp n)
  · cases h with
    | dic h => exact .dic h
theorem DtAll.length {H : Hp} : ∀ {vs : List V} {ds : List PyData}, DtAll H vs ds → vs.length = ds.length
  | _, _, .nil => rfl
  | _, _, .cons _ r => congrArg Nat.succ r.length
theorem DtAll.get {H : Hp} : ∀ {xs : List V} {ds : List PyData}, DtAll H xs ds → ∀ (i : Nat) (x : V), xs[i]? = some x → ∃ d, ds[i]? = some d ∧ Dt H x d
  | _, _, .nil, i, x, e => by simp at e
  | _, _, .cons a r, 0, x, e => by
    simp only [List.getElem?_cons_zero, Option.some.injEq] at e
    subst e
    exact ⟨_, rfl, a⟩
  | _, _, .cons a r, i + 1, x, e => by
    simp only [List.getElem?_cons_succ] at e
    obtain ⟨y, h1, h2⟩ := r.get i x e
    exact ⟨y, by simpa using h1, h2⟩
theorem DtAll.append {H : Hp} : ∀ {xs ys : List V} {ds es : List PyData}, DtAll H xs ds → DtAll H ys es → DtAll H (xs ++ ys) (ds ++ es)
  | _, _, _, _, .nil, h => h
  | _, _, _, _, .cons a r, h => .cons a (r.append h)
theorem DtAll.take {H : Hp} : ∀ {xs : List V} {ds : List PyData} (n : Nat), DtAll H xs ds → DtAll H (xs.take n) (ds.take n)
  | _, _, _, .nil => by simp; exact .nil
  | _, _, 0, .cons a r => by simp; exact .nil
  | _, _, n + 1, .cons a r => .cons a (r.take n)
theorem DtAll.drop {H : Hp} : ∀ {xs : List V} {ds : List PyData} (n : Nat), DtAll H xs ds → DtAll H (xs.drop n) (ds.drop n)
  | _, _, _, .nil => by simp; exact .nil
  | _, _, 0, .cons a r => .cons a r
  | _, _, n + 1, .cons a r => r.drop n
theorem noDicAll_iff : ∀ {ds : List PyData}, noDicAll ds = true ↔ ∀ d ∈ ds, noDic d = true
  | [] => by simp [noDicAll]
  | d :: ds => by simp [noDicAll, noDicAll_iff (ds := ds)]
theorem dt_strs {H : Hp} : ∀ l : List Str, DtAll H (l.map V.str) (l.map PyData.str)
  | [] => .nil
  | x :: l => .cons (.str x) (dt_strs l)
theorem dt_port {H : Hp} {v : V} {p : Port} (h : PV H v p) : Dt H v (portD p) := by
  obtain ⟨t, rfl, h⟩ := h
  exact .tup h (.cons (.int _) (.cons (.int _) .nil))
theorem pv_dt {H : Hp} {v : V} {p : Port} (h : Dt H v (portD p)) : PV H v p := by
  unfold portD at h
  cases h with
  | tup h r =>
    cases r with
    | cons a r =>
      cases a
      cases r with
      | cons a r =>
        cases a
        cases r
        exact ⟨_, rfl, h⟩
theorem dt_wire {H : Hp} {v : V} {e : Port × Port} (h : WV H v e) : Dt H v (wireD e) := by
  obtain ⟨t, p, r, rfl, h1, h2, h3⟩ := h
  exact .tup h1 (.cons (dt_port ⟨p, rfl, h2⟩) (.cons (dt_port ⟨r, rfl, h3⟩) .nil))
theorem wv_dt {H : Hp} {v : V} {e : Port × Port} (h : Dt H v (wireD e)) : WV H v e := by
  unfold wireD at h
  cases h with
  | tup h r =>
    cases r with
    | cons a r =>
      cases r with
      | cons b r =>
        cases r
        obtain ⟨p, rfl, hp⟩ := pv_dt a
        obtain ⟨q, rfl, hq⟩ := pv_dt b
        exact ⟨_, p, q, rfl, h, hp, hq⟩
theorem dt_paired {H : Hp} {α : Type} (f : α → PyData) {R : V → α → Prop} (hR : ∀ v a, R v a → Dt H v (f a)) : ∀ {xs : List V} {l : List α}, Paired R xs l → DtAll H xs (l.map f)
  | _, _, .nil => .nil
  | _, _, .cons a r => .cons (hR _ _ a) (dt_paired f hR r)
theorem paired_dt {H : Hp} {α : Type} (f : α → PyData) {R : V → α → Prop} (hR : ∀ v a, Dt H v (f a) → R v a) : ∀ {xs : List V} {l : List α}, DtAll H xs (l.map f) → Paired R xs l
  | _, [], h => by cases h; exact .nil
  | _, a :: l, h => by
    cases h with
    | cons h r => exact .cons (hR _ _ h) (paired_dt f hR r)
/-- data that are wires -/
theorem wires_of : ∀ {ds : List PyData}, ds.all isWireD = true → ∃ ws : List (Port × Port), ds = ws.map wireD ∧ ∀ e ∈ ws, e.1 ≠ e.2
  | [], _ => ⟨[], rfl, (fun _ h => nomatch h)⟩
  | d :: ds, h => by
    rw [List.all_cons, Bool.and_eq_true] at h
    obtain ⟨ws, rfl, hw⟩ := wires_of h.2
    have h1 := h.1
    cases d with
    | tuple l =>
      match l, h1 with
      | [x, y], h1 =>
        have h2 : (isPortD x && (isPortD y && !PyData.eqv x y)) = true := h1
        simp only [Bool.and_eq_true, Bool.not_eq_true'] at h2
        obtain ⟨a, b, rfl, _⟩ := isPortD_ok h2.1
        obtain ⟨c, e, rfl, _⟩ := isPortD_ok h2.2.1
        have h3 : PyData.eqv (portD (a, b)) (portD (c, e)) = false := h2.2.2
        rw [eqv_port] at h3
        refine ⟨((a, b), (c, e)) :: ws, rfl, fun u hu => ?_⟩
        rcases List.mem_cons.mp hu with rfl | hu
        · exact of_decide_eq_false h3
        · exact hw u hu
    | _ => cases h1
theorem kinds_of : ∀ {ds : List PyData}, ds.all isKind = true → ∃ kd : List Str, ds = kd.map PyData.str ∧ ∀ x ∈ kd, KindS x
  | [], _ => ⟨[], rfl, (fun _ h => nomatch h)⟩
  | d :: ds, h => by
    rw [List.all_cons, Bool.and_eq_true] at h
    obtain ⟨kd, rfl, hk⟩ := kinds_of h.2
    have h1 := h.1
    cases d with
    | str x =>
      refine ⟨x :: kd, rfl, fun u hu => ?_⟩
      rcases List.mem_cons.mp hu with rfl | hu
      · have h2 : ((u == "red" || u == "blue") || u == "eraser") = true := h1
        simp only [Bool.or_eq_true, beq_iff_eq] at h2
        rcases h2 with (h2 | h2) | h2
        · exact .inl h2
        · exact .inr (.inl h2)
        · exact .inr (.inr h2)
      · exact hk u hu
    | _ => cases h1
/-! ### expressions worth such data -/
section
variable {σ : L2.St} {H : Hp} {te : TE} {ta : TA} {d : PyData} {ds : List PyData}
def TP (te : TE) (σ : L2.St) (H : Hp) (d : PyData) : Prop := ∀ H1, Ext H H1 → ∀ Q : VK, (∀ v H2, Ext H1 H2 → Dt H2 v d → Q v H2) → te σ H1 Q
def TPs (ta : TA) (σ : L2.St) (H : Hp) (ds : List PyData) : Prop := ∀ H1, Ext H H1 → ∀ Q : List V → Hp → Prop, (∀ vs H2, Ext H1 H2 → DtAll H2 vs ds → Q vs H2) → ta σ H1 Q
theorem TP.ext {H' : Hp} (h : TP te σ H d) (e : Ext H H') : TP te σ H' d := fun H1 e1 Q q => h H1 (e.trans e1) Q q
theorem TPs.ext {H' : Hp} (h : TPs ta σ H ds) (e : Ext H H') : TPs ta σ H' ds := fun H1 e1 Q q => h H1 (e.trans e1) Q q
theorem tp_non : TP (tC .non) σ H .none := fun H1 _ Q q => q _ _ (Ext.refl _) .non
theorem tp_bl (b : Bool) : TP (tC (.bl b)) σ H (.bool b) := fun H1 _ Q q => q _ _ (Ext.refl _) (.bl b)
theorem tp_int (i : Int) : TP (tC (.int i)) σ H (.int i) := fun H1 _ Q q => q _ _ (Ext.refl _) (.int i)
theorem tp_str (x : Str) : TP (tC (.str x)) σ H (.str x) := fun H1 _ Q q => q _ _ (Ext.refl _) (.str x)
theorem tp_neg {i : Int} : TP (tUn (rU fun i => .int (-i)) (tC (.int i))) σ H (.int (-i)) := fun H1 _ Q q => ⟨i, rfl, q _ _ (Ext.refl _) (.int _)⟩
theorem tp_var {i : Nat} {v : V} (hv : σ[i]? = some (some v)) (hd : Dt H v d) : TP (tVar i) σ H d := fun H1 e Q q => ⟨v, hv, q _ _ (Ext.refl _) (hd.ext e)⟩
theorem tp_vint {i : Nat} {z : Int} (hv : σ[i]? = some (some (.int z))) : TP (tVar i) σ H (.int z) := tp_var hv (.int z)
theorem tp_vstr {i : Nat} {z : Str} (hv : σ[i]? = some (some (.str z))) : TP (tVar i) σ H (.str z) := tp_var hv (.str z)
theorem tps_nil : TPs tNil σ H [] := fun H1 _ Q q => q [] H1 (Ext.refl _) .nil
theorem tps_cons (h : TP te σ H d) (hr : TPs ta σ H ds) : TPs (tCons te ta) σ H (d :: ds) := fun H1 e1 Q q =>
  h H1 e1 _ fun v H2 e2 g => hr H2 (e1.trans e2) _ fun vs H3 e3 gs => q (v :: vs) H3 (e2.trans e3) (.cons (g.ext e3) gs)
theorem tp_tup (h : TPs ta σ H ds) (hm : ds.length ≤ 100000 := by simp) : TP (tTup ta) σ H (.tuple ds) := fun H1 e1 Q q =>
  h H1 e1 _ fun vs H2 e2 gs => ⟨by rw [gs.length]; exact Nat.le_trans hm (by decide), fun p hp => q _ _ (e2.trans (Ext.new hp)) (.tup upd_same (gs.ext (Ext.new hp)))⟩
theorem tp_lst (h : TPs ta σ H ds) (hm : ds.length ≤ 100000 := by simp) : TP (tLst ta) σ H (.list ds) := fun H1 e1 Q q =>
  h H1 e1 _ fun vs H2 e2 gs => ⟨by rw [gs.length]; exact Nat.le_trans hm (by decide), fun p hp => q _ _ (e2.trans (Ext.new hp)) (.lst upd_same (gs.ext (Ext.new hp)))⟩
theorem tp_dict : TP tDNewK σ H (.dict []) := fun H1 _ Q q => fun d hd => q _ _ (Ext.new hd) (.dic upd_same)
theorem tp_neg' {i : Int} (h : TP te σ H (.int i)) : TP (tUn (rU fun i => .int (-i)) te) σ H (.int (-i)) := fun H1 e1 Q q => h H1 e1 _ fun v H2 e2 g => by
  cases g
  exact ⟨i, rfl, q _ _ e2 (.int _)⟩
theorem tp_add {i j : Int} {tb : TE} (h : TP te σ H (.int i)) (h2 : TP tb σ H (.int j)) : TP (tOp (rI0 fun i j => V.int (i + j)) te tb) σ H (.int (i + j)) := fun H1 e1 Q q => h H1 e1 _ fun v H2 e2 g => h2 H2 (e1.trans e2) _ fun u H3 e3 g2 => by
  cases g
  cases g2
  exact ⟨i, j, rfl, rfl, q _ _ (e2.trans e3) (.int _)⟩
theorem tp_sub {i j : Int} {tb : TE} (h : TP te σ H (.int i)) (h2 : TP tb σ H (.int j)) : TP (tOp (rI0 fun i j => V.int (i - j)) te tb) σ H (.int (i - j)) := fun H1 e1 Q q => h H1 e1 _ fun v H2 e2 g => h2 H2 (e1.trans e2) _ fun u H3 e3 g2 => by
  cases g
  cases g2
  exact ⟨i, j, rfl, rfl, q _ _ (e2.trans e3) (.int _)⟩
/-- t[i], t a tuple -/
theorem tp_ixT {K : PySem.W.Frag} {i : Int} {tb : TE} (h : TP te σ H (.tuple ds)) (h2 : TP tb σ H (.int i)) (h0 : 0 ≤ i) (hi : i < ds.length) (he : ds[i.toNat]? = some d) : TP (tOp (rIxT K) te tb) σ H d := fun H1 e1 Q q => h H1 e1 _ fun v H2 e2 g => h2 H2 (e1.trans e2) _ fun u H3 e3 g2 => by
  cases g2
  cases g.ext e3 with
  | @tup a xs _ hx r =>
    have hl := r.length
    have hlt : i.toNat < xs.length := by omega
    obtain ⟨d', h1, h2⟩ := r.get i.toNat xs[i.toNat] (List.getElem?_eq_getElem hlt)
    rw [he] at h1
    cases h1
    refine ⟨a, xs, i, xs[i.toNat], rfl, rfl, .inl (.inl hx), ?_, q _ _ (e2.trans e3) h2⟩
    unfold atI ixN
    rw [if_pos h0, if_pos (by omega)]
    exact List.getElem?_eq_getElem hlt
/-- l[i], l a list -/
theorem tp_ixL {K : PySem.W.Frag} {i : Int} {tb : TE} (h : TP te σ H (.list ds)) (h2 : TP tb σ H (.int i)) (h0 : 0 ≤ i) (hi : i < ds.length) (he : ds[i.toNat]? = some d) : TP (tOp (rIxL K) te tb) σ H d := fun H1 e1 Q q => h H1 e1 _ fun v H2 e2 g => h2 H2 (e1.trans e2) _ fun u H3 e3 g2 => by
  cases g2
  cases g.ext e3 with
  | @lst a xs _ hx r =>
    have hl := r.length
    have hlt : i.toNat < xs.length := by omega
    obtain ⟨d', h1, h2⟩ := r.get i.toNat xs[i.toNat] (List.getElem?_eq_getElem hlt)
    rw [he] at h1
    cases h1
    refine ⟨a, xs, i, xs[i.toNat], rfl, rfl, SqL.of hx, ?_, q _ _ (e2.trans e3) h2⟩
    unfold atI ixN
    rw [if_pos h0, if_pos (by omega)]
    exact List.getElem?_eq_getElem hlt
/-- l + m -/
theorem tp_cat {tb : TE} {es : List PyData} (h : TP te σ H (.list ds)) (h2 : TP tb σ H (.list es)) (hl : ds.length + es.length ≤ 1000000) : TP (tOp rCat te tb) σ H (.list (ds ++ es)) := fun H1 e1 Q q => h H1 e1 _ fun v H2 e2 g => h2 H2 (e1.trans e2) _ fun u H3 e3 g2 => by
  cases g.ext e3 with
  | @lst a xs _ hx r =>
    cases g2 with
    | @lst b ys _ hy r2 =>
      exact ⟨a, b, xs, ys, rfl, rfl, hx, hy, by rw [r.length, r2.length]; exact sze hl, fun p hp => q _ _ ((e2.trans e3).trans (Ext.new hp)) (.lst upd_same ((r.append r2).ext (Ext.new hp)))⟩
/-- an expression's datum, in hand -/
theorem TP.use (h : TP te σ H d) {Q : VK} (q : ∀ v H2, Ext H H2 → Dt H2 v d → Q v H2) : te σ H Q := h H (Ext.refl _) Q q
end
/-! ### data that survive another box -/
mutual
theorem dt_box {H H' : Hp} {b : Addr} {x y z : V} (hb : H b = some (.lst [x, y, z])) (hf : XB [b] H H') : ∀ (d : PyData) (v : V), noL3 d = true → Dt H v d → Dt H' v d
  | .none, _, _, h => by cases h; exact .non
  | .bool _, _, _, h => by cases h; exact .bl _
  | .int _, _, _, h => by cases h; exact .int _
  | .str _, _, _, h => by cases h; exact .str _
  | .list ds, _, n, h => by
    simp only [noL3, Bool.and_eq_true, bne_iff_ne, ne_eq] at n
    cases h with
    | @lst a xs _ s r =>
      refine .lst (hf a _ (not_in1 ?_) s) (dtAll_box hb hf ds _ n.2 r)
      rintro rfl
      rw [hb] at s
      cases s
      have := r.length
      exact n.1 this.symm
  | .tuple ds, _, n, h => by
    simp only [noL3] at n
    cases h with
    | @tup a xs _ s r =>
      refine .tup (hf a _ (not_in1 ?_) s) (dtAll_box hb hf ds _ n r)
      rintro rfl
      rw [hb] at s
      cases s
  | .dict _, _, _, h => by
    cases h with
    | @dic a h =>
      refine .dic (hf a _ (not_in1 ?_) h)
      rintro rfl
      rw [hb] at h
      cases h
theorem dtAll_box {H H' : Hp} {b : Addr} {x y z : V} (hb : H b = some (.lst [x, y, z])) (hf : XB [b] H H') : ∀ (ds : List PyData) (vs : List V), noL3All ds = true → DtAll H vs ds → DtAll H' vs ds
  | [], _, _, h => by cases h; exact .nil
  | d :: ds, _, n, h => by
    simp only [noL3All, Bool.and_eq_true] at n
    cases h with
    | cons h1 h2 => exact .cons (dt_box hb hf d _ n.1 h1) (dtAll_box hb hf ds _ n.2 h2)
end
end Mc
/-! McPar: a, b, c = x, y, z with plain local names. -/
namespace Mc
open PySem PySem.Spec PyProof.Rows L2
section
variable {X : Cx} {pos : Pos}
def tPar3 (i j k : Nat) (ta : TA) : TS := fun D σ H => ta σ H fun vs H1 => ∃ u v w, vs = [u, v, w] ∧ D.nx (((σ.set i (some u)).set j (some v)).set k (some w)) H1
theorem ps_par3 {i j k : Nat} {x y z : Str} {a b c : Expr} {ta : TA} {px py pz pt : Pos} {kt k2 pt2} (hc : X.calm = true) (hN : X.N.Nodup) (hi : X.N[i]? = some x) (hj : X.N[j]? = some y) (hk : X.N[k]? = some z) (hij : i ≠ j) (hik : i ≠ k) (hjk : j ≠ k)
    (hx : X.env.scope.names.lookup x = some .local) (hy : X.env.scope.names.lookup y = some .local) (hz : X.env.scope.names.lookup z = some .local) (ha : PA X [a, b, c] ta)
    (hw : swappedStores [.Tuple [.Name x px, .Name y py, .Name z pz] kt pt] (.Tuple [a, b, c] k2 pt2) X.env = pure (some [x, y, z]))
    (hs : swapsWithSole [.Tuple [.Name x px, .Name y py, .Name z pz] kt pt] (.Tuple [a, b, c] k2 pt2) pos.line X.env = pure false := by rfl) :
    PS X (.Assign [.Tuple [.Name x px, .Name y py, .Name z pz] kt pt] (.Tuple [a, b, c] k2 pt2) pos) (tPar3 i j k ta) := by
  refine ⟨fun pins s σ H D I h => ?_⟩
  rw [exec_Assign_arm]
  refine wpAny_bind (wpAny_standAt ?_)
  rw [hs]
  refine wpAny_bind (wpAny_pure ?_)
  rw [if_neg (by decide)]
  refine wpAny_bind (Tuple_ (thn (ha.run _ pins s σ H _ I h) fun us s1 ⟨vs, H1, I1, r1, q1⟩ => ?_))
  obtain ⟨u, v, w, e1, q1⟩ := q1
  subst e1
  obtain ⟨u1, u2, u3, rfl, ru, rv, rw'⟩ : ∃ u1 u2 u3, us = [u1, u2, u3] ∧ RelV u u1 ∧ RelV v u2 ∧ RelV w u3 := by
    cases r1 with
    | cons p q =>
      cases q with
      | cons p' q' =>
        cases q' with
        | cons p2 q2 =>
          cases q2
          exact ⟨_, _, _, rfl, p, p', p2⟩
  refine wpAny_newObj_type ?_ (by show 3 ≤ sizeLine; decide)
  have I2 : Inv X pins σ H1 { s1 with heap := s1.heap.push { cls := .type "tuple", data := .seq [u1, u2, u3].toArray } } := I1.kept (t' := s1.toks) fun b o e => Heap.get?_push_of_some _ e
  rw [hw]
  refine wpAny_bind (wpAny_pure ?_)
  show wpAny (model X.prog X.w) X.A (do rule "assign.swapped-stores"; let items ← unpackItems (.ref s1.heap.objs.size) 3 none; assignInOrder [fun v => bindName X.env z v, fun v => bindName X.env y v, fun v => bindName X.env x v] items.reverse; pure Flow.next) _ _ _
  refine wpAny_bind (wpAny_rule (wpAny_bind (unpackItems_tuple (items := #[u1, u2, u3]) (I.ok.hd hc) (IsTup.new s1.heap _) fun h' hx' => ?_)))
  have I3 := I2.kept (h' := h') (t' := s1.toks) fun b o e => hx' b o (Nat.ne_of_lt (Heap.lt_size e)) e
  show wpAny _ _ (assignInOrder [fun v => bindName X.env z v, fun v => bindName X.env y v, fun v => bindName X.env x v] [u3, u2, u1] >>= fun _ => pure Flow.next) _ _ _
  refine wpAny_bind (assignInOrder_cons (wpAny_bindName (store_ok I3 hN hk (.inl hz) rw' (fun s2 I4 => ?_) (.inr hz))))
  refine assignInOrder_cons (wpAny_bindName (store_ok I4 hN hj (.inl hy) rv (fun s3 I5 => ?_) (.inr hy)))
  refine assignInOrder_cons (wpAny_bindName (store_ok I5 hN hi (.inl hx) ru (fun s4 I6 => assignInOrder_nil (wpAny_pure ?_)) (.inr hx)))
  rw [List.set_comm _ _ (Ne.symm hjk), List.set_comm _ _ (Ne.symm hik), List.set_comm _ _ (Ne.symm hij)] at I6
  exact ⟨_, H1, I6, q1⟩
end
end Mc
namespace Me
open PySem PySem.Spec PyProof.Rows L2 Mc
variable {P : Program} {w : World} {K : PySem.W.Frag} {mg : Str → Option Value} {base : Heap}
/-- the kinds by cell, as a dict -/
def kdK (G : Gr) : List (Key × V) := (List.range G.n).map fun (i : Nat) => ((.inl (i : Int) : Key), V.str (G.kind i))
/-- a net in the heap: the kinds' dict, the dict of what lies across -/
structure NetAt (H : Hp) (kA aA : Addr) (G : Gr) : Prop where
  kd : Rd H kA (.dK (kdK G))
  ax : ∃ kvs, Rd H aA (.dT kvs) ∧ ∀ p, G.port p → ∃ t, valV kvs (kP p) = some (.ref t) ∧ H t = some (.tup (vP (G.ac p)))
theorem NetAt.ext {H H' : Hp} {kA aA : Addr} {G : Gr} (h : NetAt H kA aA G) (e : Ext H H') : NetAt H' kA aA G := by
  obtain ⟨kvs, h1, h2⟩ := h.ax
  refine ⟨e.rd h.kd, kvs, e.rd h1, fun p hp => ?_⟩
  obtain ⟨t, a, b⟩ := h2 p hp
  exact ⟨t, a, e _ _ b⟩
theorem valV_range {n : Nat} (f : Nat → V) {c : Nat} (hc : c < n) : valV ((List.range n).map fun (i : Nat) => ((.inl (i : Int) : Key), f i)) (.inl (c : Int)) = some (f c) := by
  have hm : ((.inl (c : Int) : Key), f c) ∈ (List.range n).map fun (i : Nat) => ((.inl (i : Int) : Key), f i) := List.mem_map.mpr ⟨c, List.mem_range.mpr hc, rfl⟩
  refine val_nodup ?_ _ hm
  rw [List.map_map]
  refine (List.nodup_range (n := n)).map _ fun a b hab h => hab ?_
  have h2 : (Sum.inl (a : Int) : Key) = Sum.inl (b : Int) := h
  have := Sum.inl.inj h2
  omega
theorem kd_get {G : Gr} {c : Nat} (hc : c < G.n) : valV (kdK G) (.inl (c : Int)) = some (.str (G.kind c)) := valV_range (fun i => .str (G.kind i)) hc
theorem kind_mem {G : Gr} {c : Nat} (hc : c < G.n) : G.kind c ∈ G.kd := by
  unfold Gr.kind
  unfold Gr.n at hc
  rw [List.getD_eq_getElem?_getD, List.getElem?_eq_getElem hc]
  exact List.getElem_mem hc
theorem ports_val (T : Txt P w K mg) {x : Str} (hx : KindS x) : ∃ u, PySem.W.nsIn K (He.ga K "PORTS") x = some (some u) ∧ RelV (.int (arS x : Int)) u := by
  rcases hx with rfl | rfl | rfl
  · exact T.kv_PORTS ("red", .int 3) (by simp)
  · exact T.kv_PORTS ("blue", .int 3) (by simp)
  · exact T.kv_PORTS ("eraser", .int 1) (by simp)
/-- the cells known, as a dict -/
def knK (f : List Nat) : List (Key × V) := f.map fun (c : Nat) => ((.inl (c : Int) : Key), V.bl true)
theorem kn_some (f : List Nat) (o : Int) : (valV (knK f) (.inl o)).isSome = decide (∃ c ∈ f, (c : Int) = o) := by
  rw [← valV_any, Bool.eq_iff_iff, List.any_eq_true, decide_eq_true_eq]
  constructor
  · rintro ⟨q, hq, e⟩
    obtain ⟨c, hc, rfl⟩ := List.mem_map.mp hq
    have e2 : (Sum.inl (c : Int) : Key) = Sum.inl o := of_decide_eq_true e
    exact ⟨c, hc, Sum.inl.inj e2⟩
  · rintro ⟨c, hc, rfl⟩
    exact ⟨_, List.mem_map.mpr ⟨c, hc, rfl⟩, decide_eq_true rfl⟩
theorem kn_put {f : List Nat} {c : Nat} (h : c ∉ f) : putK (knK f) (.inl (c : Int)) (.bl true) = knK (f ++ [c]) := by
  have e : valV (knK f) (.inl (c : Int)) = none := by
    have h1 := kn_some f c
    rw [decide_eq_false (by rintro ⟨d, hd, e⟩; have : d = c := by omega
                            subst this; exact h hd)] at h1
    exact Option.isNone_iff_eq_none.mp (by rw [← Option.not_isSome, h1]; rfl)
  rw [putK_new _ e]
  unfold knK
  rw [List.map_append]
  rfl
theorem kn_len (f : List Nat) : (knK f).length = f.length := List.length_map _
theorem nb_lt {G : Gr} (ok : G.Ok) {c : Nat} (hc : c < G.n) {o : Int} (ho : o ∈ G.nb c) (h0 : 0 ≤ o) : o.toNat < G.n := by
  obtain ⟨k, hk, rfl⟩ := List.mem_map.mp ho
  have hp : G.port ((c : Int), (k : Int)) := .inr ⟨Int.natCast_nonneg _, by show (c : Int) < G.n; omega, Int.natCast_nonneg _, by show (k : Int) < (G.ar (c : Int).toNat : Int); rw [Int.toNat_natCast]; have := List.mem_range.mp hk; omega⟩
  rcases ok.there _ hp with ⟨h1, _⟩ | ⟨_, h2, _⟩
  · rw [h1] at h0
    exact absurd h0 (by decide)
  · omega
def spSearch (K : PySem.W.Frag) : Sp := fun vs H Q _ => ∃ (G : Gr) (f kA aA : Addr) (first : List Nat), vs = [.ref f, .ref kA, .ref aA] ∧ G.Ok ∧ SqL K H f (first.map vI) ∧ NetAt H kA aA G ∧ first.Nodup ∧ (∀ c ∈ first, c < G.n) ∧
  ∀ p H', H p = none → H' p = some (.lst ((bfsN G.nb first G.n).map vI)) → Ext H H' → Q (.ref p) H'
theorem ok_search (T : Txt P w K mg) : FnR P w K mg base (L2.CX P w) 1 (He.ga K "search") (spSearch K) := by
  obtain ⟨fd, F⟩ := T.f_search
  refine fnR_body F sc_search (F.bindsN (fun _ _ _ _ _ _ us hl => match us, hl with | [_, _, _], _ => rfl)) ?_ ?_
  · rintro vs H Q E ⟨G, f, kA, aA, first, rfl, _⟩
    rfl
  · rintro cdv A outer s H vs Q E hr ⟨G, f, kA, aA, first, rfl, ok, hf, hN, hnd, hlt, q⟩
    refine ⟨_, (PSs.nox (Mc.pss_mid (ps_setLc (i := 3) (own := [("cell", 5)]) rfl sc_search.nd rfl rfl (sw_true rfl rfl rfl (by decide +kernel)) (pi_list (pv 0) : PI _ _ _ (iList K _)) (blkOk_by (own := [("cell", 5)]) (N := N_search) (sc := defScope s_search) (by decide +kernel)) (fun _ _ _ _ _ => (pg_name (i := 5) sc_search.nd rfl (Or.inl rfl))) (fun _ _ _ _ _ => pts_nil) (fun _ _ _ _ _ => (pv 5)))
      (Mc.pss_mid (ps_set (i := 4) sc_search.nd rfl (Or.inl rfl) pe_dnewK)
      (Mc.pss_mid (ps_for PassesOwn.never rfl (pi_list (pv 3) : PI _ _ _ (iList K _)) (pg_name (i := 5) sc_search.nd rfl (Or.inl rfl))
      (pss_one (ps_dput (hu_of hr) (pv 4) (pv 5) pe_bl rfl)))
      (Mc.pss_mid (ps_set (i := 6) sc_search.nd rfl (Or.inl rfl) pe_int)
      (Mc.pss_mid (ps_while PassesOwn.never (pt_cmpR op_lt (pv 6) (pe_callB (call_len : CallR _ (.builtin "len") (Mc.rLen K)) (by rfl) T.m_len (by decide +kernel) (pa_cons (pv 3) pa_nil)) (nomark _))
      (Mc.pss_mid (ps_set (i := 5) sc_search.nd rfl (Or.inl rfl) (pe_ix (ix_list : IxR _ (rIxL K)) (pv 3) (pv 6) (fun _ _ => rfl)))
      (Mc.pss_mid (ps_for PassesOwn.never rfl (pi_range1 (by rfl) T.m_range (pa_cons (pe_ix (Mc.ix_kd T.kd_PORTS.choose_spec.choose_spec : IxR _ (Mc.rKd K (He.ga K "PORTS"))) (pe_glob (v := .ref (He.ga K "PORTS")) (by rfl) T.g_PORTS rfl) (pe_dget (hu_of hr) (pv 1) (pv 5) (fun _ _ => rfl)) (fun _ _ => rfl)) pa_nil)) (pg_name (i := 7) sc_search.nd rfl (Or.inl rfl))
      (Mc.pss_mid (ps_set (i := 8) sc_search.nd rfl (Or.inl rfl) (pe_ix (ix_tup : IxR _ (rIxT K)) (pe_dget (hu_of hr) (pv 2) (pe_tup (pa_cons (pv 5) (pa_cons (pv 7) pa_nil))) (fun _ _ => rfl)) pe_int (fun _ _ => rfl)))
      (pss_one (ps_if (PW.pt (pw_and (pt_cmpR op_ge (pv 8) pe_int (nomark _)) (pw_and1 (pt_cmp (pc_dnotin (hu_of hr) (pv 8) (pv 4)))))) (pss_cons (ps_dput (hu_of hr) (pv 4) (pv 8) pe_bl rfl)
      (pss_one (ps_expr (pe_bm PySem.F.plainAttrs_list PySem.F.slot_list_append PySem.F.type_list_append mt_append (pv 3) (pa_cons (pv 8) pa_nil) : PE _ _ (tBM K _ _ _ _))))) pss_nil))))
      (pss_one (ps_aug (i := 6) sc_search.nd rfl (Or.inl rfl) pe_int ip_add)))))
      (pss_one (ps_ret (pv 3))))))))), ?_⟩
    have sz : ∀ m : Nat, m ≤ 100000 → m ≤ sizeLine := fun m h => Nat.le_trans h (by decide)
    have bl : ∀ p, ∀ c ∈ bfsN G.nb first p, c < G.n := fun p => bfsN_within hlt (fun c hc o ho h0 => nb_lt ok hc ho h0) p
    have bn : ∀ p, (bfsN G.nb first p).Nodup := fun p => bfsN_nodup hnd p
    have bz : ∀ p, (bfsN G.nb first p).length ≤ G.n := fun p => nodup_len (bn p) (bl p)
    have hn := ok.small
    -- found
    refine ⟨fun τ G' => ∃ F, τ = [some (.ref f), some (.ref kA), some (.ref aA), some (.ref F), none, none, none, none, none] ∧ H F = none ∧ G' F = some (.lst (first.map vI)) ∧ Ext H G', ?_, ?_⟩
    · refine ⟨_, rfl, f, rfl, ⟨_, hf⟩, fun F hF => lc_it (walk_list (xs := first.map vI)) (fun i G' => G' F = some (.lst ((first.map vI).take i)) ∧ Ext H G') ⟨upd_same, Ext.new hF⟩ (fun i G' _ h => h.2.sqL hf) ?_ ?_⟩
      · rintro i x G1 G2 hi ⟨h1, h2⟩ ⟨rfl, hx⟩
        refine ⟨rfl, ?_⟩
        refine ⟨_, rfl, _, h1, ?_, ?_, ?_⟩
        · rw [List.length_take]
          have := bz 0
          have : first.length ≤ G.n := this
          rw [List.length_map] at hi ⊢
          exact sz _ (by omega)
        · rw [upd_same, List.take_succ, hx]
          rfl
        · intro b o hb
          have e2 : b ≠ F := fun z => by
            rw [z, hF] at hb
            cases hb
          rw [upd_ne e2]
          exact h2 b o hb
      · rintro G1 ⟨h1, h2⟩
        rw [List.take_length] at h1
        exact ⟨F, rfl, hF, h1, h2⟩
    rintro _ G1 ⟨F, rfl, hF, h1, hE1⟩
    -- known
    refine ⟨fun τ G' => ∃ D, τ = [some (.ref f), some (.ref kA), some (.ref aA), some (.ref F), some (.ref D), none, none, none, none] ∧ H D = none ∧ D ≠ F ∧ G' F = some (.lst (first.map vI)) ∧ G' D = some (.dK (knK [])) ∧ Ext H G', ?_, ?_⟩
    · intro D hD
      have hne : F ≠ D := ne_of_none h1 hD
      exact ⟨D, rfl, hE1.fresh hD, hne.symm, (upd_ne hne).trans h1, upd_same, hE1.trans (Ext.new hD)⟩
    rintro _ G2 ⟨D, rfl, hD, hDF, h2, h2d, hE2⟩
    -- what is upheld
    have keep : ∀ {G' : Hp} {o : HO} {c : Addr}, Ext H G' → H c = none → Ext H (upd G' c o) := fun {G' o c} e hc b u hb => by
      have : b ≠ c := fun z => by
        rw [z, hc] at hb
        cases hb
      rw [upd_ne this]
      exact e b u hb
    refine ⟨fun τ G' => ∃ y, τ = [some (.ref f), some (.ref kA), some (.ref aA), some (.ref F), some (.ref D), y, none, none, none] ∧ G' F = some (.lst (first.map vI)) ∧ G' D = some (.dK (knK first)) ∧ Ext H G', ?_, ?_⟩
    · refine ⟨_, rfl, F, rfl, ⟨_, SqL.of h2⟩, for_it (walk_list (xs := first.map vI)) (fun i σ G' => ∃ y, σ = [some (.ref f), some (.ref kA), some (.ref aA), some (.ref F), some (.ref D), y, none, none, none] ∧ G' F = some (.lst (first.map vI)) ∧ G' D = some (.dK (knK (first.take i))) ∧ Ext H G')
        ⟨_, rfl, h2, h2d, hE2⟩ (fun i σ G' _ ⟨y, _, h, _⟩ => SqL.of h) ?_ ?_⟩
      · rintro i x σ G3 G4 hi ⟨y, rfl, h3, h3d, hE3⟩ ⟨rfl, hx⟩
        rw [List.getElem?_map] at hx
        obtain ⟨c, hc, rfl⟩ : ∃ c, first[i]? = some c ∧ x = vI c := by
          cases e : first[i]? with
          | none =>
            rw [e] at hx
            cases hx
          | some c =>
            rw [e] at hx
            exact ⟨c, rfl, (Option.some.inj hx).symm⟩
        have et : first.take (i + 1) = first.take i ++ [c] := by
          rw [List.take_succ, hc]
          rfl
        have hnot : c ∉ first.take i := by
          intro hm
          have hn2 := hnd
          rw [← List.take_append_drop (i + 1) first, et] at hn2
          have := (List.nodup_append.mp (List.nodup_append.mp hn2).1).2.2 c hm c (List.mem_singleton.mpr rfl)
          exact this rfl
        refine ⟨_, rfl, _, rfl, D, _, rfl, .inl ⟨_, .inl (c : Int), h3d, rfl, ?_, rfl⟩, ?_⟩
        · rw [kn_len, List.length_take]
          have : first.length ≤ G.n := bz 0
          exact Nat.lt_of_lt_of_le (show min i first.length < 100000 by omega) (by decide)
        · refine ⟨_, rfl, (upd_ne hDF.symm).trans h3, ?_, keep hE3 hD⟩
          rw [upd_same, et, kn_put hnot]
      · rintro σ G3 ⟨y, rfl, h3, h3d, hE3⟩
        rw [List.length_map, List.take_length] at h3d
        exact ⟨y, rfl, h3, h3d, hE3⟩
    rintro _ G3 ⟨y, rfl, h3, h3d, hE3⟩
    refine ⟨fun τ G' => τ = [some (.ref f), some (.ref kA), some (.ref aA), some (.ref F), some (.ref D), y, some (.int 0), none, none] ∧ G' = G3, ⟨rfl, rfl⟩, ?_⟩
    rintro _ _ ⟨rfl, rfl⟩
    refine ⟨fun τ G' => ∃ y5 y6 y7 y8, τ = [some (.ref f), some (.ref kA), some (.ref aA), some (.ref F), some (.ref D), y5, y6, y7, y8] ∧ G' F = some (.lst ((bfsN G.nb first G.n).map vI)) ∧ Ext H G', ?_, ?_⟩
    · refine ⟨fun m σ G' => ∃ (p : Nat) (y5 y7 y8 : Option V), σ = [some (.ref f), some (.ref kA), some (.ref aA), some (.ref F), some (.ref D), y5, some (vI p), y7, y8] ∧ m = G.n + 1 - p ∧ p ≤ (bfsN G.nb first p).length ∧
        G' F = some (.lst ((bfsN G.nb first p).map vI)) ∧ G' D = some (.dK (knK (bfsN G.nb first p))) ∧ Ext H G', ⟨G.n + 1, 0, y, none, none, rfl, rfl, Nat.zero_le _, h3, h3d, hE3⟩, ?_⟩
      rintro m σ G4 ⟨p, y5, y7, y8, rfl, rfl, hp, h4, h4d, hE4⟩
      have hz := bz p
      refine ⟨_, rfl, _, rfl, _, (bfsN G.nb first p).length, rfl, .inl ⟨_, SqL.of h4, (by rw [List.length_map])⟩, _, _, rfl, rfl, _, rfl, ?_⟩
      by_cases hlt2 : p < (bfsN G.nb first p).length
      · rw [decide_eq_true (show (p : Int) < ((bfsN G.nb first p).length : Int) by omega)]
        obtain ⟨c, hc⟩ : ∃ c, (bfsN G.nb first p)[p]? = some c := ⟨_, List.getElem?_eq_getElem hlt2⟩
        have hcn : c < G.n := bl p c (List.mem_of_getElem? hc)
        have estep : bfsN G.nb first (p + 1) = visit (G.nb c) (bfsN G.nb first p) := by
          show (match (bfsN G.nb first p)[p]? with | none => bfsN G.nb first p | some c => visit (G.nb c) (bfsN G.nb first p)) = _
          rw [hc]
        refine iteT ⟨fun σ' G' => ∃ (y5 y7 y8 : Option V), σ' = [some (.ref f), some (.ref kA), some (.ref aA), some (.ref F), some (.ref D), y5, some (.int ((p : Int) + 1)), y7, y8] ∧ G' F = some (.lst ((bfsN G.nb first (p + 1)).map vI)) ∧ G' D = some (.dK (knK (bfsN G.nb first (p + 1)))) ∧ Ext H G', ?_, ?_⟩
        · rintro σ' G' ⟨y5, y7, y8, rfl, a1, a2, a3⟩
          refine ⟨G.n + 1 - (p + 1), by omega, p + 1, y5, y7, y8, rfl, rfl, ?_, a1, a2, a3⟩
          obtain ⟨r, e⟩ := bfsN_sub (nb := G.nb) (first := first) p
          rw [e, List.length_append]
          omega
        -- cell
        refine ⟨fun τ G' => τ = [some (.ref f), some (.ref kA), some (.ref aA), some (.ref F), some (.ref D), some (vI c), some (vI p), y7, y8] ∧ G' = G4, ?_, ?_⟩
        · refine ⟨_, rfl, _, rfl, F, _, (p : Int), vI c, rfl, rfl, SqL.of h4, ?_, rfl, rfl⟩
          unfold atI ixN
          rw [if_pos (Int.natCast_nonneg _), if_pos (by rw [List.length_map]; omega)]
          show ((bfsN G.nb first p).map vI)[(p : Int).toNat]? = _
          rw [Int.toNat_natCast, List.getElem?_map, hc]
          rfl
        rintro _ _ ⟨rfl, rfl⟩
        have nbl : (G.nb c).length = G.ar c := by
          unfold Gr.nb
          rw [List.length_map, List.length_range]
        -- its ports
        refine ⟨fun τ G' => ∃ y7 y8, τ = [some (.ref f), some (.ref kA), some (.ref aA), some (.ref F), some (.ref D), some (vI c), some (vI p), y7, y8] ∧ G' F = some (.lst ((bfsN G.nb first (p + 1)).map vI)) ∧ G' D = some (.dK (knK (bfsN G.nb first (p + 1)))) ∧ Ext H G', ?_, ?_⟩
        · obtain ⟨u0, e0, r0⟩ := ports_val T (ok.kinds _ (kind_mem hcn))
          have ar3 : G.ar c ≤ 3 := by
            unfold Gr.ar arS
            split <;> omega
          refine ⟨_, rfl, _, rfl, kA, _, rfl, .inl ⟨kdK G, .inl (c : Int), (hN.ext hE4).kd, rfl, (kd_get hcn).symm⟩, G.kind c, u0, .int (G.ar c : Int), rfl, rfl, e0, r0, _, rfl, by omega, by omega, ?_⟩
          refine for_it walk_range (fun k σ G' => ∃ y7 y8, σ = [some (.ref f), some (.ref kA), some (.ref aA), some (.ref F), some (.ref D), some (vI c), some (vI p), y7, y8] ∧ G' F = some (.lst ((visit ((G.nb c).take k) (bfsN G.nb first p)).map vI)) ∧ G' D = some (.dK (knK (visit ((G.nb c).take k) (bfsN G.nb first p)))) ∧ Ext H G')
            ⟨y7, y8, rfl, h4, h4d, hE4⟩ (fun _ _ _ _ _ => trivial) ?_ ?_
          · rintro k x σ G5 G6 hk ⟨y7, y8, rfl, h5, h5d, hE5⟩ ⟨rfl, hx⟩
            obtain rfl : x = vI k := by
              rw [hx]
              show V.int (0 + (k : Int)) = V.int (k : Int)
              rw [Int.zero_add]
            have hk2 : k < G.ar c := by rwa [Int.toNat_natCast] at hk
            have hport : G.port ((c : Int), (k : Int)) := .inr ⟨Int.natCast_nonneg _, by show (c : Int) < G.n; omega, Int.natCast_nonneg _, by show (k : Int) < (G.ar (c : Int).toNat : Int); rw [Int.toNat_natCast]; omega⟩
            obtain ⟨kvs, hax, hv⟩ := (hN.ext hE5).ax
            obtain ⟨u, hu1, hu2⟩ := hv _ hport
            have hnbk : (G.nb c)[k]? = some (G.ac ((c : Int), (k : Int))).1 := by
              unfold Gr.nb
              rw [List.getElem?_map, List.getElem?_range hk2]
              rfl
            generalize ho : (G.ac ((c : Int), (k : Int))).1 = o at hnbk
            have enext : visit ((G.nb c).take (k + 1)) (bfsN G.nb first p) = addN (visit ((G.nb c).take k) (bfsN G.nb first p)) o := by
              rw [List.take_succ, hnbk]
              unfold visit
              rw [List.foldl_append]
              rfl
            rw [enext]
            have ofn : 0 ≤ o → o.toNat < G.n := fun h0 => nb_lt ok hcn (List.mem_of_getElem? hnbk) h0
            have gl : ∀ c' ∈ visit ((G.nb c).take k) (bfsN G.nb first p), c' < G.n := fun c' h' => by
              rcases visit_mem h' with h' | ⟨o', h1', h2', rfl⟩
              · exact bl p c' h'
              · exact nb_lt ok hcn (List.mem_of_mem_take h1') h2'
            have gn : (visit ((G.nb c).take k) (bfsN G.nb first p)).Nodup := visit_nodup _ (bn p)
            have gz := nodup_len gn gl
            generalize visit ((G.nb c).take k) (bfsN G.nb first p) = g at h5 h5d gl gn gz ⊢
            -- other
            refine ⟨fun τ G' => τ = [some (.ref f), some (.ref kA), some (.ref aA), some (.ref F), some (.ref D), some (vI c), some (vI p), some (vI k), some (.int o)] ∧ G' F = some (.lst (g.map vI)) ∧ G' D = some (.dK (knK g)) ∧ Ext H G', ?_, ?_⟩
            · refine ⟨_, rfl, _, rfl, _, rfl, (by show 2 ≤ sizeLine; decide), fun t ht => ⟨aA, .ref u, rfl, .inr ⟨kvs, kP ((c : Int), (k : Int)), t, (Ext.new ht).rd hax, rfl, upd_same, hu1.symm⟩, u, _, 0, .int o, rfl, rfl, .inl (.inl (Ext.new ht _ _ hu2)), ?_, rfl, Ext.new ht _ _ h5, Ext.new ht _ _ h5d, hE5.trans (Ext.new ht)⟩⟩
              rw [← ho]
              rfl
            rintro _ G7 ⟨rfl, h7, h7d, hE7⟩
            refine ⟨_, rfl, _, _, rfl, rfl, _, rfl, ?_⟩
            by_cases h0 : 0 ≤ o
            · rw [decide_eq_true h0]
              refine iteT ⟨_, rfl, _, rfl, D, _, rfl, .inl ⟨knK g, .inl o, .inl h7d, rfl, rfl⟩, _, rfl, ?_⟩
              rw [kn_some]
              by_cases hm : o.toNat ∈ g
              · rw [decide_eq_true ⟨o.toNat, hm, by omega⟩]
                refine iteF ⟨_, _, rfl, ?_⟩
                unfold addN
                rw [if_neg fun z => z.2 hm]
                exact ⟨h7, h7d, hE7⟩
              · have hne : ¬ ∃ c' ∈ g, (c' : Int) = o := by
                  rintro ⟨c', h1', h2'⟩
                  have : o.toNat = c' := by omega
                  rw [this] at hm
                  exact hm h1'
                rw [decide_eq_false hne]
                have eo : (o.toNat : Int) = o := by omega
                refine iteT ⟨_, rfl, _, rfl, D, _, rfl, .inl ⟨knK g, .inl o, h7d, rfl, ?_, rfl⟩, ?_⟩
                · rw [kn_len]
                  exact Nat.lt_of_lt_of_le (show g.length < 100000 by omega) (by decide)
                have e2 : putK (knK g) (.inl o) (.bl true) = knK (g ++ [o.toNat]) := by
                  have := kn_put hm
                  rwa [eo] at this
                rw [e2]
                have h8 : (upd G7 D (.dK (knK (g ++ [o.toNat])))) F = some (.lst (g.map vI)) := (upd_ne hDF.symm).trans h7
                refine ⟨_, rfl, .inl ⟨rfl, _, SqL.of h8⟩, _, rfl, F, _, _, rfl, rfl, h8, ?_, _, _, rfl, ?_⟩
                · rw [List.length_map]
                  exact Nat.lt_of_lt_of_le (show g.length < 100000 by omega) (by decide)
                unfold addN
                rw [if_pos ⟨h0, hm⟩]
                refine ⟨?_, (upd_ne hDF).trans upd_same, keep (keep hE7 hD) hF⟩
                rw [upd_same, List.map_append]
                show some (HO.lst (g.map vI ++ [V.int o])) = some (HO.lst (g.map vI ++ [V.int (o.toNat : Int)]))
                rw [eo]
            · rw [decide_eq_false h0]
              refine iteF (iteF ⟨_, _, rfl, ?_⟩)
              unfold addN
              rw [if_neg fun z => h0 z.1]
              exact ⟨h7, h7d, hE7⟩
          · rintro σ G5 ⟨y7, y8, rfl, h5, h5d, hE5⟩
            rw [Int.toNat_natCast, ← nbl, List.take_length, ← estep] at h5 h5d
            exact ⟨y7, y8, rfl, h5, h5d, hE5⟩
        rintro _ G5 ⟨y7, y8, rfl, h5, h5d, hE5⟩
        exact ⟨_, rfl, _, _, rfl, rfl, _, _, _, rfl, h5, h5d, hE5⟩
      · rw [decide_eq_false (show ¬ (p : Int) < ((bfsN G.nb first p).length : Int) by omega)]
        refine iteF ⟨_, _, _, _, rfl, ?_, hE4⟩
        rw [bfsN_stop (nb := G.nb) (first := first) (p := p) (by omega) G.n (by omega)]
        exact h4
    rintro _ G4 ⟨y5, y6, y7, y8, rfl, h4, hE4⟩
    exact ⟨_, rfl, q F G4 hF h4 hE4⟩
end Me
namespace Me
open PySem PySem.Spec PyProof.Rows L2 Mc
variable {P : Program} {w : World} {K : PySem.W.Frag} {mg : Str → Option Value} {base : Heap}
/-- the place of a cell among some -/
def idx (cells : List Nat) (o : Int) : Nat := cells.idxOf o.toNat
def rowD (G : Gr) (cells : List Nat) (c : Nat) : PyData := .tuple [.str (G.kind c), .tuple ((List.range (G.ar c)).map fun (k : Nat) => .tuple [.int (idx cells (G.ac ((c : Int), (k : Int))).1 : Int), .int (G.ac ((c : Int), (k : Int))).2])]
def rowsD (G : Gr) (cells : List Nat) : PyData := .list (cells.map (rowD G cells))
/-- cells whose ports lead to cells of theirs -/
def Shut (G : Gr) (cells : List Nat) : Prop := ∀ c ∈ cells, ∀ o ∈ G.nb c, 0 ≤ o ∧ o.toNat ∈ cells
/-- the places by cell, as a dict -/
def plK (cells : List Nat) : List (Key × V) := cells.zipIdx.map fun q => ((.inl (q.1 : Int) : Key), V.int (q.2 : Int))
theorem plK_len (cells : List Nat) : (plK cells).length = cells.length := by
  unfold plK
  rw [List.length_map, List.length_zipIdx]
theorem plK_keys (cells : List Nat) : (plK cells).map (·.1) = cells.map fun (c : Nat) => (.inl (c : Int) : Key) := by
  unfold plK
  rw [List.map_map]
  have h : ((fun x : Key × V => x.1) ∘ fun q : Nat × Nat => ((.inl (q.1 : Int) : Key), V.int (q.2 : Int))) = (fun (c : Nat) => (.inl (c : Int) : Key)) ∘ Prod.fst := rfl
  rw [h, ← List.map_map, List.zipIdx_map_fst]
theorem plK_get {cells : List Nat} (hn : cells.Nodup) {c i : Nat} (h : cells[i]? = some c) : valV (plK cells) (.inl (c : Int)) = some (.int (i : Int)) := by
  have hm : ((.inl (c : Int) : Key), V.int (i : Int)) ∈ plK cells := List.mem_map.mpr ⟨(c, i), List.mk_mem_zipIdx_iff_getElem?.mpr h, rfl⟩
  refine val_nodup ?_ _ hm
  rw [plK_keys]
  refine hn.map _ fun a b hab h2 => hab ?_
  have h3 : (Sum.inl (a : Int) : Key) = Sum.inl (b : Int) := h2
  have := Sum.inl.inj h3
  omega
theorem plK_not {cells : List Nat} {c : Nat} (h : c ∉ cells) : valV (plK cells) (.inl (c : Int)) = none := by
  cases e : valV (plK cells) (.inl (c : Int)) with
  | none => rfl
  | some v =>
    have := valV_in e
    rw [plK_keys] at this
    obtain ⟨d, hd, e2⟩ := List.mem_map.mp this
    have h3 : (Sum.inl (d : Int) : Key) = Sum.inl (c : Int) := e2
    have h4 := Sum.inl.inj h3
    have : d = c := by omega
    subst this
    exact absurd hd h
theorem plK_snoc {l : List Nat} {c : Nat} (h : c ∉ l) : putK (plK l) (.inl (c : Int)) (.int (l.length : Int)) = plK (l ++ [c]) := by
  rw [putK_new _ (plK_not h)]
  unfold plK
  rw [List.zipIdx_append, List.map_append]
  simp
theorem idx_get {cells : List Nat} {o : Int} (h : o.toNat ∈ cells) : cells[idx cells o]? = some o.toNat := by
  unfold idx
  rw [List.getElem?_eq_getElem (List.idxOf_lt_length_of_mem h)]
  exact congrArg some (List.getElem_idxOf _)
theorem row_tup (G : Gr) (cells : List Nat) (c : Nat) : tupOnly (rowD G cells c) = true := by
  unfold rowD
  simp only [tupOnly, tupOnlyAll, Bool.true_and, Bool.and_true]
  exact tupOnlyAll_map _ (fun k => by simp [tupOnly, tupOnlyAll]) _
theorem not_take {l : List Nat} (hn : l.Nodup) {i c : Nat} (h : l[i]? = some c) : c ∉ l.take i := by
  intro hm
  have hn2 := hn
  rw [← List.take_append_drop (i + 1) l, take_snoc h] at hn2
  exact (List.nodup_append.mp (List.nodup_append.mp hn2).1).2.2 c hm c (List.mem_singleton.mpr rfl) rfl
theorem map_get {cells : List Nat} {i : Nat} {x : V} (hx : (cells.map vI)[i]? = some x) : ∃ c, cells[i]? = some c ∧ x = vI c := by
  rw [List.getElem?_map] at hx
  cases e : cells[i]? with
  | none =>
    rw [e] at hx
    cases hx
  | some c =>
    rw [e] at hx
    exact ⟨c, rfl, (Option.some.inj hx).symm⟩
theorem dpAll_length {H : Hp} : ∀ {xs : List V} {ds : List PyData}, DpAll K H xs ds → xs.length = ds.length
  | _, _, .nil => rfl
  | _, _, .cons _ r => congrArg Nat.succ (dpAll_length r)
def spRows (K : PySem.W.Frag) : Sp := fun vs H Q _ => ∃ (G : Gr) (f kA aA : Addr) (cells : List Nat), vs = [.ref f, .ref kA, .ref aA] ∧ G.Ok ∧ SqL K H f (cells.map vI) ∧ NetAt H kA aA G ∧ cells.Nodup ∧ (∀ c ∈ cells, c < G.n) ∧ Shut G cells ∧
  ∀ p ys H', H p = none → H' p = some (.lst ys) → DpAll K H' ys (cells.map (rowD G cells)) → Ext H H' → Q (.ref p) H'
theorem ok_rows_from (T : Txt P w K mg) : FnR P w K mg base (L2.CX P w) 1 (He.ga K "rows_from") (spRows K) := by
  obtain ⟨fd, F⟩ := T.f_rows_from
  refine fnR_body F sc_rows_from (F.bindsN (fun _ _ _ _ _ _ us hl => match us, hl with | [_, _, _], _ => rfl)) ?_ ?_
  · rintro vs H Q E ⟨G, f, kA, aA, cells, rfl, _⟩
    rfl
  · rintro cdv A outer s H vs Q E hr ⟨G, f, kA, aA, cells, rfl, ok, hf, hN, hnd, hlt, hsh, q⟩
    refine ⟨_, (PSs.nox (Mc.pss_mid (ps_set (i := 3) sc_rows_from.nd rfl (Or.inr rfl) (pe_dc (own := [("at", 7), ("cell", 5)]) rfl sc_rows_from.nd (pi_enum (by rfl) T.m_enumerate (pa_cons (pv 0) pa_nil) : PI _ _ _ (iEnum K _)) (blkOk_by (own := [("at", 7), ("cell", 5)]) (N := N_rows_from) (sc := defScope s_rows_from) (by decide +kernel)) (fun _ _ _ _ _ => (pg_tup (by rfl) (pgs_cons (pg_name (i := 7) sc_rows_from.nd rfl (Or.inl rfl)) (pgs_cons (pg_name (i := 5) sc_rows_from.nd rfl (Or.inl rfl)) pgs_nil)) : PG _ _ (gTup K 2 (gCons (gName 7) (gCons (gName 5) gNil))))) (fun _ _ _ _ _ => pts_nil) (fun _ _ _ _ _ => (pv 5)) (fun _ _ _ _ _ => (pv 7))))
      (Mc.pss_mid (ps_set (i := 4) sc_rows_from.nd rfl (Or.inl rfl) (pe_lst pa_nil))
      (Mc.pss_mid (ps_for PassesOwn.never rfl (pi_list (pv 0) : PI _ _ _ (iList K _)) (pg_name (i := 5) sc_rows_from.nd rfl (Or.inr rfl))
      (Mc.pss_mid (ps_setLc (i := 6) (own := [("number", 8)]) rfl sc_rows_from.nd rfl rfl (sw_true rfl rfl rfl (by decide +kernel)) (pi_range1 (by rfl) T.m_range (pa_cons (pe_ix (Mc.ix_kd T.kd_PORTS.choose_spec.choose_spec : IxR _ (Mc.rKd K (He.ga K "PORTS"))) (pe_glob (v := .ref (He.ga K "PORTS")) (by rfl) T.g_PORTS rfl) (pe_dget (hu_of hr) (pv 1) (pv 5) (fun _ _ => rfl)) (fun _ _ => rfl)) pa_nil)) (blkOk_by (own := [("number", 8)]) (N := N_rows_from) (sc := defScope s_rows_from) (by decide +kernel)) (fun _ _ _ _ _ => (pg_name (i := 8) sc_rows_from.nd rfl (Or.inl rfl))) (fun _ _ _ _ _ => pts_nil) (fun _ _ _ _ _ => (pe_dget (hu_of hr) (pv 2) (pe_tup (pa_cons (pv 5) (pa_cons (pv 8) pa_nil))) (fun _ _ => rfl))))
      (pss_one (ps_expr (pe_bm PySem.F.plainAttrs_list PySem.F.slot_list_append PySem.F.type_list_append mt_append (pv 4) (pa_cons (pe_tup (pa_cons (pe_dget (hu_of hr) (pv 1) (pv 5) (fun _ _ => rfl)) (pa_cons (pe_callTy (call_tuple_of : CallR _ (.type "tuple") (Mc.rTupleOf K)) (by rfl) T.m_tuple (by decide +kernel) (pa_cons (pe_lc (own := [("other", 9), ("number", 8)]) rfl sc_rows_from.nd (pi_list (pv 6) : PI _ _ _ (iList K _)) (blkOk_by (own := [("other", 9), ("number", 8)]) (N := N_rows_from) (sc := defScope s_rows_from) (by decide +kernel)) (fun _ _ _ _ _ => (pg_tup (by rfl) (pgs_cons (pg_name (i := 9) sc_rows_from.nd rfl (Or.inl rfl)) (pgs_cons (pg_name (i := 8) sc_rows_from.nd rfl (Or.inl rfl)) pgs_nil)) : PG _ _ (gTup K 2 (gCons (gName 9) (gCons (gName 8) gNil))))) (fun _ _ _ _ _ => pts_nil) (fun _ _ _ _ _ => (pe_tup (pa_cons (pe_dget (hu_of hr) (pv 3) (pv 9) (fun _ _ => rfl)) (pa_cons (pv 8) pa_nil))))) pa_nil)) pa_nil))) pa_nil) : PE _ _ (tBM K _ _ _ _))))))
      (pss_one (ps_ret (pv 4))))))), ?_⟩
    have hn := ok.small
    have hz := nodup_len hnd hlt
    have sz : ∀ m : Nat, m < 100000 → m < sizeLine := fun m h => Nat.lt_of_lt_of_le h (by decide)
    -- place
    refine ⟨fun τ G' => ∃ PL, τ = [some (.ref f), some (.ref kA), some (.ref aA), some (.ref PL), none, none, none, none, none, none] ∧ H PL = none ∧ G' PL = some (.dK (plK cells)) ∧ Ext H G', ?_, ?_⟩
    · refine ⟨_, rfl, f, _, rfl, hf, fun PL hPL => dc_it walk_enum (fun i G' => G' PL = some (.dK (plK (cells.take i))) ∧ Ext H G') ⟨upd_same, Ext.new hPL⟩ (fun i G' _ h => h.2.sqL hf) ?_ ?_⟩
      · rintro i x G1 G2 hi ⟨h1, h2⟩ ⟨t, a, b, rfl, ht, rfl, ha, hb⟩
        obtain ⟨c, hc, rfl⟩ := map_get hb
        obtain rfl := Option.some.inj ha
        have hPt : PL ≠ t := ne_of_none h1 ht
        refine ⟨t, _, rfl, .inl (.inl upd_same), rfl, _, _, rfl, _, _, rfl, rfl, rfl, ?_⟩
        refine ⟨_, rfl, _, rfl, plK (cells.take i), .inl (c : Int), rfl, (upd_ne hPt).trans h1, ?_, ?_, ?_⟩
        · rw [plK_len, List.length_take]
          exact sz _ (by omega)
        · rw [upd_same, take_snoc hc]
          have hl : (cells.take i).length = i := by
            rw [List.length_take]
            rw [List.length_map] at hi
            omega
          have := plK_snoc (not_take hnd hc)
          rw [hl] at this
          rw [this]
        · exact keepH (h2.trans (Ext.new ht)) hPL
      · rintro G1 ⟨h1, h2⟩
        rw [List.length_map, List.take_length] at h1
        exact ⟨PL, rfl, hPL, h1, h2⟩
    rintro _ G1 ⟨PL, rfl, hPL, h1, hE1⟩
    -- rows
    refine ⟨fun τ G' => ∃ R, τ = [some (.ref f), some (.ref kA), some (.ref aA), some (.ref PL), some (.ref R), none, none, none, none, none] ∧ H R = none ∧ PL ≠ R ∧ G' PL = some (.dK (plK cells)) ∧ G' R = some (.lst []) ∧ Ext H G', ?_, ?_⟩
    · refine ⟨(by show 0 ≤ sizeLine; decide), fun R hR => ⟨R, rfl, hE1.fresh hR, ne_of_none h1 hR, (upd_ne (ne_of_none h1 hR)).trans h1, upd_same, hE1.trans (Ext.new hR)⟩⟩
    rintro _ G2 ⟨R, rfl, hR, hPR, h2p, h2, hE2⟩
    refine ⟨fun τ G' => ∃ y5 y6 ys, τ = [some (.ref f), some (.ref kA), some (.ref aA), some (.ref PL), some (.ref R), y5, y6, none, none, none] ∧ G' R = some (.lst ys) ∧ DpAll K G' ys (cells.map (rowD G cells)) ∧ Ext H G', ?_, ?_⟩
    · refine ⟨_, rfl, f, rfl, ⟨_, hE2.sqL hf⟩, for_it (walk_list (xs := cells.map vI)) (fun i σ G' => ∃ y5 y6 ys, σ = [some (.ref f), some (.ref kA), some (.ref aA), some (.ref PL), some (.ref R), y5, y6, none, none, none] ∧ G' PL = some (.dK (plK cells)) ∧ G' R = some (.lst ys) ∧
          DpAll K G' ys ((cells.take i).map (rowD G cells)) ∧ Ext H G') ⟨_, _, [], rfl, h2p, h2, .nil, hE2⟩ (fun i σ G' _ ⟨_, _, _, _, _, _, _, h⟩ => h.sqL hf) ?_ ?_⟩
      · rintro i x σ G3 G4 hi ⟨y5, y6, ys, rfl, h4p, h4, hall, hE4⟩ ⟨rfl, hx⟩
        obtain ⟨c, hc, rfl⟩ := map_get hx
        have hcm : c ∈ cells := List.mem_of_getElem? hc
        have hcn := hlt c hcm
        obtain ⟨u0, e0, r0⟩ := ports_val T (ok.kinds _ (kind_mem hcn))
        have ar3 : G.ar c ≤ 3 := by
          unfold Gr.ar arS
          split <;> omega
        -- ports
        refine ⟨fun τ G' => ∃ (PO : Addr) (zs : List V), τ = [some (.ref f), some (.ref kA), some (.ref aA), some (.ref PL), some (.ref R), some (vI c), some (.ref PO), none, none, none] ∧ G' PO = some (.lst zs) ∧
          Paired (fun v (k : Nat) => ∃ u, v = V.ref u ∧ G' u = some (.tup (vP (G.ac ((c : Int), (k : Int)))))) zs (List.range (G.ar c)) ∧ G' PL = some (.dK (plK cells)) ∧ G' R = some (.lst ys) ∧ TExt G4 G' ∧ Ext H G', ?_, ?_⟩
        · refine ⟨_, rfl, _, rfl, kA, _, rfl, .inl ⟨kdK G, .inl (c : Int), (hN.ext hE4).kd, rfl, (kd_get hcn).symm⟩, G.kind c, u0, .int (G.ar c : Int), rfl, rfl, e0, r0, _, rfl, by omega, by omega, fun PO hPO => ?_⟩
          have hPP : PL ≠ PO := ne_of_none h4p hPO
          have hRP : R ≠ PO := ne_of_none h4 hPO
          have hPOH := hE4.fresh hPO
          refine lc_it walk_range (fun k G' => ∃ zs, G' PO = some (.lst zs) ∧ Paired (fun v (k : Nat) => ∃ u, v = V.ref u ∧ G' u = some (.tup (vP (G.ac ((c : Int), (k : Int)))))) zs (List.range k) ∧ G' PL = some (.dK (plK cells)) ∧ G' R = some (.lst ys) ∧ TExt G4 G' ∧ Ext H G')
            ⟨[], upd_same, .nil, (upd_ne hPP).trans h4p, (upd_ne hRP).trans h4, (Ext.new hPO).t, hE4.trans (Ext.new hPO)⟩ (fun _ _ _ _ => trivial) ?_ ?_
          · rintro k x G5 G6 hk ⟨zs, h6, hz6, h6p, h6r, hT6, hE6⟩ ⟨rfl, hx6⟩
            obtain rfl : x = vI k := by
              rw [hx6]
              show V.int (0 + (k : Int)) = V.int (k : Int)
              rw [Int.zero_add]
            have hk2 : k < G.ar c := by rwa [Int.toNat_natCast] at hk
            have hport : G.port ((c : Int), (k : Int)) := .inr ⟨Int.natCast_nonneg _, by show (c : Int) < G.n; omega, Int.natCast_nonneg _, by show (k : Int) < (G.ar (c : Int).toNat : Int); rw [Int.toNat_natCast]; omega⟩
            obtain ⟨kvs, hax, hv⟩ := (hN.ext hE6).ax
            obtain ⟨u, hu1, hu2⟩ := hv _ hport
            have hzl : zs.length = k := by
              have := Paired.length hz6
              rwa [List.length_range] at this
            refine ⟨rfl, ?_⟩
            refine ⟨_, rfl, _, rfl, _, rfl, (by show 2 ≤ sizeLine; decide), fun t ht => ⟨aA, .ref u, rfl, .inr ⟨kvs, kP ((c : Int), (k : Int)), t, (Ext.new ht).rd hax, rfl, upd_same, hu1.symm⟩, zs, Ext.new ht _ _ h6, ?_, zs ++ [.ref u], upd_same, ?_, ?_, ?_, ?_, ?_⟩⟩
            · exact sz _ (by omega)
            · rw [List.range_succ]
              have hT : TExt G6 (upd (upd G6 t (.tup [vI c, vI k])) PO (.lst (zs ++ [.ref u]))) := (Ext.new ht).t.trans (TExt.put (Ext.new ht _ _ h6) (fun z => z))
              refine paired_append (L2.Paired.mapP hz6 fun v k' ⟨u', e1, e2⟩ => ⟨u', e1, hT _ _ e2 trivial⟩) (.cons ⟨u, rfl, hT _ _ hu2 trivial⟩ .nil)
            · exact (upd_ne hPP).trans (Ext.new ht _ _ h6p)
            · exact (upd_ne hRP).trans (Ext.new ht _ _ h6r)
            · exact hT6.trans ((Ext.new ht).t.trans (TExt.put (Ext.new ht _ _ h6) (fun z => z)))
            · exact keepH (hE6.trans (Ext.new ht)) hPOH
          · rintro G5 ⟨zs, h5, hz5, h5p, h5r, hT5, hE5⟩
            rw [Int.toNat_natCast] at hz5
            exact ⟨PO, zs, rfl, h5, hz5, h5p, h5r, hT5, hE5⟩
        rintro _ G5 ⟨PO, zs, rfl, h5, hz5, h5p, h5r, hT5, hE5⟩
        have hzl : zs.length = G.ar c := by
          have := Paired.length hz5
          rwa [List.length_range] at this
        -- the row
        refine ⟨_, rfl, .inl ⟨rfl, _, SqL.of h5r⟩, _, rfl, _, rfl, kA, _, rfl, .inl ⟨kdK G, .inl (c : Int), (hN.ext hE5).kd, rfl, (kd_get hcn).symm⟩, _, rfl, PO, rfl, ⟨_, SqL.of h5⟩, fun L hL => ?_⟩
        have hPL2 : PL ≠ L := ne_of_none h5p hL
        have hRL : R ≠ L := ne_of_none h5r hL
        have hPOL : PO ≠ L := ne_of_none h5 hL
        have hLH := hE5.fresh hL
        refine lc_it (walk_list (xs := zs)) (fun k G' => ∃ ws, G' L = some (.lst ws) ∧ DpAll K G' ws ((List.range k).map fun (k : Nat) => PyData.tuple [.int (idx cells (G.ac ((c : Int), (k : Int))).1 : Int), .int (G.ac ((c : Int), (k : Int))).2]) ∧ G' PO = some (.lst zs) ∧ G' PL = some (.dK (plK cells)) ∧ G' R = some (.lst ys) ∧ TExt G5 G' ∧ Ext H G')
          ⟨[], upd_same, .nil, (upd_ne hPOL).trans h5, (upd_ne hPL2).trans h5p, (upd_ne hRL).trans h5r, (Ext.new hL).t, hE5.trans (Ext.new hL)⟩ (fun _ G' _ ⟨_, _, _, h, _⟩ => SqL.of h) ?_ ?_
        · rintro k x G6 G7 hk ⟨ws, h7, hall7, h7o, h7p, h7r, hT7, hE7⟩ ⟨rfl, hx7⟩
          obtain ⟨k', hk', u, rfl, hu⟩ := paired_get hz5 k x hx7
          have hkk : k' = k := by
            rw [hzl] at hk
            rw [List.getElem?_range hk] at hk'
            exact (Option.some.inj hk').symm
          subst hkk
          have hwl : ws.length = k' := by
            have := dpAll_length hall7
            rwa [List.length_map, List.length_range] at this
          have ho := hsh c hcm (G.ac ((c : Int), (k' : Int))).1 (List.mem_map.mpr ⟨k', by rw [hzl] at hk; exact List.mem_range.mpr hk, rfl⟩)
          have hpv : valV (plK cells) (.inl (G.ac ((c : Int), (k' : Int))).1) = some (.int (idx cells (G.ac ((c : Int), (k' : Int))).1 : Int)) := by
            have := plK_get hnd (idx_get ho.2)
            rwa [Int.toNat_of_nonneg ho.1] at this
          refine ⟨u, _, rfl, .inl (.inl (hT7 _ _ hu trivial)), rfl, _, _, rfl, _, _, rfl, rfl, rfl, ?_⟩
          refine ⟨_, rfl, _, rfl, PL, _, rfl, .inl ⟨plK cells, .inl (G.ac ((c : Int), (k' : Int))).1, .inl h7p, rfl, hpv.symm⟩, _, rfl, (by show 2 ≤ sizeLine; decide), fun t ht => ⟨ws, Ext.new ht _ _ h7, ?_, ws ++ [.ref t], upd_same, ?_, ?_, ?_, ?_, ?_, ?_⟩⟩
          · exact sz _ (by omega)
          · rw [List.range_succ, List.map_append]
            have hT : TExt G7 (upd (upd G7 t (.tup [.int (idx cells (G.ac ((c : Int), (k' : Int))).1 : Int), .int (G.ac ((c : Int), (k' : Int))).2])) L (.lst (ws ++ [.ref t]))) := (Ext.new ht).t.trans (TExt.put (Ext.new ht _ _ h7) (fun z => z))
            have htL : t ≠ L := (ne_of_none h7 ht).symm
            refine dpAll_append (dpAll_text hT _ _ (tupOnlyAll_map _ (fun k => by simp [tupOnly, tupOnlyAll]) _) hall7) (.cons (.tup (.inl (.inl ((upd_ne htL).trans upd_same))) (.cons (.int _) (.cons (.int _) .nil))) .nil)
          · exact (upd_ne hPOL).trans (Ext.new ht _ _ h7o)
          · exact (upd_ne hPL2).trans (Ext.new ht _ _ h7p)
          · exact (upd_ne hRL).trans (Ext.new ht _ _ h7r)
          · exact hT7.trans ((Ext.new ht).t.trans (TExt.put (Ext.new ht _ _ h7) (fun z => z)))
          · exact keepH (hE7.trans (Ext.new ht)) hLH
        · rintro G6 ⟨ws, h6, hall6, h6o, h6p, h6r, hT6, hE6⟩
          rw [hzl] at hall6
          refine ⟨L, ws, rfl, .inl ⟨SqL.of h6, fun t2 ht2 => ⟨(by show 2 ≤ sizeLine; decide), fun t1 ht1 => ?_⟩⟩⟩
          have h6r' := Ext.new (o := .tup [.str (G.kind c), .ref t2]) ht1 _ _ (Ext.new (o := .tup ws) ht2 _ _ h6r)
          have hyl : ys.length ≤ G.n := by
            have := dpAll_length hall
            rw [List.length_map, List.length_take] at this
            omega
          refine ⟨R, ys, _, rfl, rfl, h6r', sz _ (by omega), ?_⟩
          have hE8 := (hE6.trans (Ext.new (o := .tup ws) ht2)).trans (Ext.new (o := .tup [.str (G.kind c), .ref t2]) ht1)
          have hT8 : TExt G6 (upd (upd (upd G6 t2 (.tup ws)) t1 (.tup [.str (G.kind c), .ref t2])) R (.lst (ys ++ [.ref t1]))) := ((Ext.new ht2).trans (Ext.new ht1)).t.trans (TExt.put h6r' (fun z => z))
          have n1 : t1 ≠ R := (ne_of_none (Ext.new (o := .tup ws) ht2 _ _ h6r) ht1).symm
          have n2 : t2 ≠ R := (ne_of_none h6r ht2).symm
          have n12 : t2 ≠ t1 := ne_of_none (upd_same (H := G6) (o := .tup ws)) ht1
          refine ⟨_, _, ys ++ [.ref t1], rfl, (upd_ne hPR).trans (Ext.new ht1 _ _ (Ext.new ht2 _ _ h6p)), upd_same, ?_, keepH hE8 hR⟩
          rw [take_snoc hc, List.map_append]
          refine dpAll_append (dpAll_text ((hT5.trans hT6).trans hT8) _ _ (tupOnlyAll_map _ (row_tup G cells) _) hall) (.cons ?_ .nil)
          refine .tup (.inl (.inl ((upd_ne n1).trans upd_same))) (.cons (.str _) (.cons (.tup (.inl (.inl ((upd_ne n2).trans ((upd_ne n12).trans upd_same)))) ?_) .nil))
          exact dpAll_text hT8 _ _ (tupOnlyAll_map _ (fun k => by simp [tupOnly, tupOnlyAll]) _) hall6
      · rintro σ G3 ⟨y5, y6, ys, rfl, h3p, h3, hall, hE3⟩
        rw [List.length_map, List.take_length] at hall
        exact ⟨y5, y6, ys, rfl, h3, hall, hE3⟩
    rintro _ G3 ⟨y5, y6, ys, rfl, h3, hall, hE3⟩
    exact ⟨_, rfl, q R ys G3 hR h3 hall hE3⟩
end Me
namespace Me
open PySem PySem.Spec PyProof.Rows L2 Mc
variable {P : Program} {w : World} {K : PySem.W.Frag} {mg : Str → Option Value} {base : Heap}
/-! ### the order of rows -/
theorem alikeAll_of : ∀ {l l' : List PyData}, (∀ d ∈ l, ∀ e ∈ l', PySem.W.alike d e = true) → PySem.W.alikeAll l l' = true
  | [], _, _ => by simp [PySem.W.alikeAll]
  | _ :: _, [], _ => by simp [PySem.W.alikeAll]
  | d :: l, e :: l', h => by
    rw [PySem.W.alikeAll, h d List.mem_cons_self e List.mem_cons_self, alikeAll_of fun a ha b hb => h a (List.mem_cons_of_mem _ ha) b (List.mem_cons_of_mem _ hb)]
    rfl
theorem depthAll_le {k : Nat} : ∀ {l : List PyData}, (∀ d ∈ l, d.depth ≤ k) → PyData.depthAll l ≤ k
  | [], _ => by simp [PyData.depthAll]
  | d :: l, h => by
    simp only [PyData.depthAll]
    have h1 := h d List.mem_cons_self
    have h2 := depthAll_le fun e he => h e (List.mem_cons_of_mem _ he)
    omega
theorem alike_row (G : Gr) (l l' : List Nat) (c c' : Nat) : PySem.W.alike (rowD G l c) (rowD G l' c') = true := by
  unfold rowD
  simp only [PySem.W.alike, PySem.W.alikeAll, Bool.true_and, Bool.and_true]
  refine alikeAll_of fun d hd e he => ?_
  obtain ⟨k, _, rfl⟩ := List.mem_map.mp hd
  obtain ⟨k', _, rfl⟩ := List.mem_map.mp he
  simp [PySem.W.alike, PySem.W.alikeAll]
theorem alike_rows (G : Gr) (l l' : List Nat) : PySem.W.alike (rowsD G l) (rowsD G l') = true := by
  unfold rowsD
  simp only [PySem.W.alike]
  refine alikeAll_of fun d hd e he => ?_
  obtain ⟨c, _, rfl⟩ := List.mem_map.mp hd
  obtain ⟨c', _, rfl⟩ := List.mem_map.mp he
  exact alike_row G l l' c c'
theorem depth_rows (G : Gr) (l : List Nat) : (rowsD G l).depth ≤ 4 := by
  unfold rowsD
  simp only [PyData.depth]
  have : PyData.depthAll (l.map (rowD G l)) ≤ 3 := depthAll_le fun d hd => by
    obtain ⟨c, _, rfl⟩ := List.mem_map.mp hd
    unfold rowD
    simp only [PyData.depth, PyData.depthAll]
    have : PyData.depthAll ((List.range (G.ar c)).map fun (k : Nat) => PyData.tuple [.int (idx l (G.ac ((c : Int), (k : Int))).1 : Int), .int (G.ac ((c : Int), (k : Int))).2]) ≤ 1 := depthAll_le fun d hd => by
      obtain ⟨k, _, rfl⟩ := List.mem_map.mp hd
      simp [PyData.depth, PyData.depthAll]
    omega
  omega
/-- the search from one cell -/
abbrev srch (G : Gr) (c : Nat) : List Nat := bfsN G.nb [c] G.n
def better (G : Gr) (b : Option (List Nat)) (c : Nat) : Option (List Nat) := match b with
  | none => some (srch G c)
  | some o => if PySem.W.dataLt (rowsD G (srch G c)) (rowsD G o) = true then some (srch G c) else some o
/-- the search whose rows are least, the first of such -/
def leastL (G : Gr) (cells : List Nat) : Option (List Nat) := cells.foldl (better G) none
theorem leastL_snoc (G : Gr) (l : List Nat) (c : Nat) : leastL G (l ++ [c]) = better G (leastL G l) c := by
  unfold leastL
  rw [List.foldl_append]
  rfl
theorem srch_sub {G : Gr} {cells : List Nat} (hsh : Shut G cells) {c : Nat} (hc : c ∈ cells) : ∀ d ∈ srch G c, d ∈ cells :=
  bfsN_within (S := fun d => d ∈ cells) (fun d hd => by rw [List.mem_singleton.mp hd]; exact hc) (fun d hd o ho _ => (hsh d hd o ho).2) G.n
theorem srch_nodup (G : Gr) (c : Nat) : (srch G c).Nodup := bfsN_nodup (List.pairwise_singleton _ _) G.n
theorem srch_lt {G : Gr} (ok : G.Ok) {c : Nat} (hc : c < G.n) : ∀ d ∈ srch G c, d < G.n :=
  bfsN_within (S := fun d => d < G.n) (fun d hd => by rw [List.mem_singleton.mp hd]; exact hc) (fun d hd o ho h0 => nb_lt ok hd ho h0) G.n
theorem srch_closed {G : Gr} (ok : G.Ok) {c : Nat} (hc : c < G.n) {d : Nat} (hd : d ∈ srch G c) {o : Int} (ho : o ∈ G.nb d) (h0 : 0 ≤ o) : o.toNat ∈ srch G c :=
  bfsN_closed (nodup_len (srch_nodup G c) (srch_lt ok hc)) hd ho h0
theorem srch_self (G : Gr) (c : Nat) : c ∈ srch G c := by
  obtain ⟨r, e⟩ := bfsN_sub' (nb := G.nb) (first := [c]) (Nat.zero_le G.n)
  show c ∈ bfsN G.nb [c] G.n
  rw [e]
  exact List.mem_append_left _ (List.mem_singleton.mpr rfl)
theorem srch_shut {G : Gr} (ok : G.Ok) {cells : List Nat} (hsh : Shut G cells) (hlt : ∀ c ∈ cells, c < G.n) {c : Nat} (hc : c ∈ cells) : Shut G (srch G c) := fun d hd o ho =>
  ⟨(hsh d (srch_sub hsh hc d hd) o ho).1, srch_closed ok (hlt c hc) hd ho (hsh d (srch_sub hsh hc d hd) o ho).1⟩
/-- what best and order hold -/
def BestAt (K : PySem.W.Frag) (G : Gr) (H0 H : Hp) (b o : V) : Option (List Nat) → Prop
  | none => b = .non
  | some l => ∃ ba oa ys, b = .ref ba ∧ o = .ref oa ∧ H0 ba = none ∧ H0 oa = none ∧ H ba = some (.lst ys) ∧ DpAll K H ys (l.map (rowD G l)) ∧ H oa = some (.lst (l.map vI))
theorem BestAt.ext {G : Gr} {H0 H H' : Hp} {b o : V} {x : Option (List Nat)} (h : BestAt K G H0 H b o x) (e : Ext H H') : BestAt K G H0 H' b o x := by
  cases x with
  | none => exact h
  | some l =>
    obtain ⟨ba, oa, ys, h1, h2, f1, f2, h3, h4, h5⟩ := h
    exact ⟨ba, oa, ys, h1, h2, f1, f2, e _ _ h3, dpAll_ext e _ _ h4, e _ _ h5⟩
def spLeast (K : PySem.W.Frag) : Sp := fun vs H Q _ => ∃ (G : Gr) (f kA aA : Addr) (cells : List Nat), vs = [.ref f, .ref kA, .ref aA] ∧ G.Ok ∧ SqL K H f (cells.map vI) ∧ NetAt H kA aA G ∧ cells.Nodup ∧ (∀ c ∈ cells, c < G.n) ∧ Shut G cells ∧
  ∀ p b o H', H p = none → H' p = some (.tup [b, o]) → BestAt K G H H' b o (leastL G cells) → Ext H H' → Q (.ref p) H'
theorem ok_least_part (T : Txt P w K mg) : FnR P w K mg base (L2.CX P w) 2 (He.ga K "least_part") (spLeast K) := by
  have G_search := ok_search (base := base) T
  have G_rows_from := ok_rows_from (base := base) T
  obtain ⟨fd, F⟩ := T.f_least_part
  refine fnR_body F sc_least_part (F.bindsN (fun _ _ _ _ _ _ us hl => match us, hl with | [_, _, _], _ => rfl)) ?_ ?_
  · rintro vs H Q E ⟨G, f, kA, aA, cells, rfl, _⟩
    rfl
  · rintro cdv A outer s H vs Q E hr ⟨G, f, kA, aA, cells, rfl, ok, hf, hN, hnd, hlt, hsh, q⟩
    refine ⟨_, (PSs.nox (Mc.pss_mid (ps_par (i := 3) (j := 4) (by rfl) sc_least_part.nd rfl rfl (by decide) rfl rfl (pa_cons pe_non (pa_cons (pe_lst pa_nil) pa_nil)) (by rfl))
      (Mc.pss_mid (ps_for PassesOwn.never rfl (pi_list (pv 0) : PI _ _ _ (iList K _)) (pg_name (i := 5) sc_least_part.nd rfl (Or.inl rfl))
      (Mc.pss_mid (ps_set (i := 6) sc_least_part.nd rfl (Or.inl rfl) (Mc.pe_callR G_search (hr.mono (by decide)) (by rfl) T.g_search T.k_search pass_no (pa_cons (pe_lst (pa_cons (pv 5) pa_nil)) (pa_cons (pv 1) (pa_cons (pv 2) pa_nil)))))
      (Mc.pss_mid (ps_set (i := 7) sc_least_part.nd rfl (Or.inl rfl) (Mc.pe_callR G_rows_from (hr.mono (by decide)) (by rfl) T.g_rows_from T.k_rows_from pass_no (pa_cons (pv 6) (pa_cons (pv 1) (pa_cons (pv 2) pa_nil)))))
      (pss_one (ps_if (PW.pt (pw_or (pt_cmpR op_isN (pv 3) pe_non (nomark _)) (pw_or1 (pt_cmpR ((Mc.op_ltD hr.units) : OpR _ _ (Mc.rLtD K)) (pv 7) (pv 3) (nomark _))))) (pss_one (ps_par (i := 3) (j := 4) (by rfl) sc_least_part.nd rfl rfl (by decide) rfl rfl (pa_cons (pv 7) (pa_cons (pv 6) pa_nil)) (by rfl))) pss_nil)))))
      (pss_one (ps_ret (pe_tup (pa_cons (pv 3) (pa_cons (pv 4) pa_nil)))))))), ?_⟩
    refine ⟨fun τ G' => ∃ oa, τ = [some (.ref f), some (.ref kA), some (.ref aA), some .non, some (.ref oa), none, none, none] ∧ Ext H G', ?_, ?_⟩
    · exact ⟨(by show 0 ≤ sizeLine; decide), fun oa ho => ⟨_, _, rfl, oa, rfl, Ext.new ho⟩⟩
    rintro _ G1 ⟨oa, rfl, hE1⟩
    refine ⟨fun τ G' => ∃ b o y5 y6 y7, τ = [some (.ref f), some (.ref kA), some (.ref aA), some b, some o, y5, y6, y7] ∧ BestAt K G H G' b o (leastL G cells) ∧ Ext H G', ?_, ?_⟩
    · refine ⟨_, rfl, f, rfl, ⟨_, hE1.sqL hf⟩, for_it (walk_list (xs := cells.map vI)) (fun i σ G' => ∃ b o y5 y6 y7, σ = [some (.ref f), some (.ref kA), some (.ref aA), some b, some o, y5, y6, y7] ∧ BestAt K G H G' b o (leastL G (cells.take i)) ∧ Ext H G')
        ⟨_, _, _, _, _, rfl, rfl, hE1⟩ (fun i σ G' _ ⟨_, _, _, _, _, _, _, h⟩ => h.sqL hf) ?_ ?_⟩
      · rintro i x σ G2 G3 hi ⟨b, o, y5, y6, y7, rfl, hb, hE3⟩ ⟨rfl, hx⟩
        obtain ⟨c, hc, rfl⟩ := map_get hx
        have hcm : c ∈ cells := List.mem_of_getElem? hc
        have hcn := hlt c hcm
        -- listed
        refine ⟨fun τ G' => ∃ la, τ = [some (.ref f), some (.ref kA), some (.ref aA), some b, some o, some (vI c), some (.ref la), y7] ∧ H la = none ∧ G' la = some (.lst ((srch G c).map vI)) ∧ Ext G3 G', ?_, ?_⟩
        · refine ⟨_, rfl, (by show 1 ≤ sizeLine; decide), fun p hp => ⟨_, rfl, _, rfl, G, p, kA, aA, [c], rfl, ok, SqL.of upd_same, hN.ext (hE3.trans (Ext.new hp)), List.pairwise_singleton _ _, (fun d hd => by rw [List.mem_singleton.mp hd]; exact hcn), fun la G' hla hl hE => ⟨la, rfl, (hE3.trans (Ext.new hp)).fresh hla, hl, (Ext.new hp).trans hE⟩⟩⟩
        rintro _ G4 ⟨la, rfl, hlaH, hla, hE4⟩
        -- rows
        refine ⟨fun τ G' => ∃ ra rs, τ = [some (.ref f), some (.ref kA), some (.ref aA), some b, some o, some (vI c), some (.ref la), some (.ref ra)] ∧ G' la = some (.lst ((srch G c).map vI)) ∧ H ra = none ∧ G' ra = some (.lst rs) ∧ DpAll K G' rs ((srch G c).map (rowD G (srch G c))) ∧ Ext G3 G', ?_, ?_⟩
        · exact ⟨_, rfl, _, rfl, _, rfl, G, la, kA, aA, srch G c, rfl, ok, SqL.of hla, hN.ext (hE3.trans hE4), srch_nodup G c, srch_lt ok hcn, srch_shut ok hsh hlt hcm, fun ra rs G' hra hr hr2 hE => ⟨ra, rs, rfl, hE _ _ hla, (hE3.trans hE4).fresh hra, hr, hr2, hE4.trans hE⟩⟩
        rintro _ G5 ⟨ra, rs, rfl, hla5, hraH, hra, hrs, hE5⟩
        have new : BestAt K G H G5 (.ref ra) (.ref la) (some (srch G c)) := ⟨ra, la, rs, rfl, rfl, hraH, hlaH, hra, hrs, hla5⟩
        have hb5 := hb.ext hE5
        rw [take_snoc hc, leastL_snoc]
        generalize leastL G (cells.take i) = bst at hb5 ⊢
        refine ⟨_, rfl, rfl, _, rfl, ?_⟩
        cases bst with
        | none =>
          have hbn : b = .non := hb5
          subst hbn
          rw [decide_eq_true rfl]
          exact iteT (iteT ⟨_, rfl, _, rfl, _, _, rfl, _, _, _, _, _, rfl, new, hE3.trans hE5⟩)
        | some l =>
          have hb6 := hb5
          obtain ⟨ba, oa, bs, rfl, rfl, _, _, hba, hbs, hoa⟩ := hb5
          rw [decide_eq_false (fun z => nomatch z)]
          refine iteF ⟨_, rfl, _, rfl, rowsD G (srch G c), rowsD G l, .lst (SqL.of hra) hrs, .lst (SqL.of hba) hbs, alike_rows G _ _, (fun z => nomatch z), Nat.le_trans (depth_rows G _) (by decide), _, rfl, ?_⟩
          cases e : PySem.W.dataLt (rowsD G (srch G c)) (rowsD G l) with
          | true =>
            have eb : better G (some l) c = some (srch G c) := if_pos e
            rw [eb]
            exact iteT ⟨_, rfl, _, rfl, _, _, rfl, _, _, _, _, _, rfl, new, hE3.trans hE5⟩
          | false =>
            have eb : better G (some l) c = some l := if_neg (by rw [e]; exact Bool.false_ne_true)
            rw [eb]
            exact iteF ⟨_, _, _, _, _, rfl, hb6, hE3.trans hE5⟩
      · rintro σ G2 ⟨b, o, y5, y6, y7, rfl, hb, hE⟩
        rw [List.length_map, List.take_length] at hb
        exact ⟨b, o, y5, y6, y7, rfl, hb, hE⟩
    rintro _ G2 ⟨b, o, y5, y6, y7, rfl, hb, hE⟩
    exact ⟨_, rfl, _, rfl, (by show 2 ≤ sizeLine; decide), fun p hp => q p b o _ (hE.fresh hp) upd_same (hb.ext (Ext.new hp)) (hE.trans (Ext.new hp))⟩
end Me
namespace Me
open PySem PySem.Spec PyProof.Rows L2 Mc
variable {P : Program} {w : World} {K : PySem.W.Frag} {mg : Str → Option Value} {base : Heap}
/-! ### the normal order -/
/-- what lies across the ends -/
def tips (G : Gr) : List Int := (List.range G.ends).map fun (e : Nat) => (G.ac (-1, (e : Int))).1
def firstL (G : Gr) : List Nat := visit (tips G) []
def found0 (G : Gr) : List Nat := bfsN G.nb (firstL G) G.n
def stepP (G : Gr) (st : List Nat × List (List Nat)) (c : Nat) : List Nat × List (List Nat) := if c ∈ st.1 then st else (st.1 ++ srch G c, st.2 ++ [(leastL G (srch G c)).getD []])
def partsF (G : Gr) (n : Nat) : List Nat × List (List Nat) := (List.range n).foldl (stepP G) (found0 G, [])
def partD (G : Gr) (o : List Nat) : PyData := .tuple [rowsD G o, .list (o.map fun (c : Nat) => .int (c : Int))]
def normF (G : Gr) : List Nat := found0 G ++ ((partsF G G.n).2.mergeSort (PySem.W.dataLe false (partD G))).flatten
theorem nb_mem {G : Gr} {c : Nat} {o : Int} (h : o ∈ G.nb c) : ∃ k, k < G.ar c ∧ o = (G.ac ((c : Int), (k : Int))).1 := by
  obtain ⟨k, hk, rfl⟩ := List.mem_map.mp h
  exact ⟨k, List.mem_range.mp hk, rfl⟩
theorem cell_port {G : Gr} {c k : Nat} (hc : c < G.n) (hk : k < G.ar c) : G.port ((c : Int), (k : Int)) :=
  .inr ⟨Int.natCast_nonneg _, by show (c : Int) < G.n; omega, Int.natCast_nonneg _, by show (k : Int) < (G.ar (c : Int).toNat : Int); rw [Int.toNat_natCast]; omega⟩
theorem end_port {G : Gr} {e : Nat} (he : e < G.ends) : G.port (-1, (e : Int)) := .inl ⟨rfl, Int.natCast_nonneg _, by show (e : Int) < G.ends; omega⟩
theorem mem_nb {G : Gr} {p : Port} (hp : G.port p) (h0 : 0 ≤ p.1) : (G.ac p).1 ∈ G.nb p.1.toNat := by
  rcases hp with ⟨h1, _⟩ | ⟨h1, h2, h3, h4⟩
  · rw [h1] at h0
    exact absurd h0 (by decide)
  · refine List.mem_map.mpr ⟨p.2.toNat, List.mem_range.mpr (by omega), ?_⟩
    have e : ((p.1.toNat : Int), (p.2.toNat : Int)) = p := by
      rw [Int.toNat_of_nonneg h1, Int.toNat_of_nonneg h3]
    rw [e]
theorem nb_sym {G : Gr} (ok : G.Ok) {c : Nat} (hc : c < G.n) {o : Int} (ho : o ∈ G.nb c) (h0 : 0 ≤ o) : (c : Int) ∈ G.nb o.toNat := by
  obtain ⟨k, hk, rfl⟩ := nb_mem ho
  have hp := cell_port hc hk
  have := mem_nb (ok.there _ hp) h0
  rw [ok.back _ hp] at this
  exact this
theorem firstL_nodup (G : Gr) : (firstL G).Nodup := visit_nodup _ .nil
theorem firstL_mem {G : Gr} {c : Nat} (h : c ∈ firstL G) : ∃ e, e < G.ends ∧ (c : Int) = (G.ac (-1, (e : Int))).1 := by
  rcases visit_mem h with h | ⟨o, ho, h0, rfl⟩
  · cases h
  · obtain ⟨e, he, rfl⟩ := List.mem_map.mp ho
    exact ⟨e, List.mem_range.mp he, by omega⟩
theorem mem_firstL {G : Gr} {e : Nat} (he : e < G.ends) (h0 : 0 ≤ (G.ac (-1, (e : Int))).1) : (G.ac (-1, (e : Int))).1.toNat ∈ firstL G := mem_visit (List.mem_map.mpr ⟨e, List.mem_range.mpr he, rfl⟩) h0
theorem firstL_lt {G : Gr} (ok : G.Ok) : ∀ c ∈ firstL G, c < G.n := fun c h => by
  obtain ⟨e, he, hc⟩ := firstL_mem h
  rcases ok.there _ (end_port he) with ⟨h1, _⟩ | ⟨_, h2, _⟩
  · rw [h1] at hc
    omega
  · rw [← hc] at h2
    omega
theorem found0_nodup (G : Gr) : (found0 G).Nodup := bfsN_nodup (firstL_nodup G) _
theorem found0_lt {G : Gr} (ok : G.Ok) : ∀ c ∈ found0 G, c < G.n := bfsN_within (S := fun c => c < G.n) (firstL_lt ok) (fun c hc o ho h0 => nb_lt ok hc ho h0) _
/-- cells that hold, with a cell, the cells across -/
def Closed (G : Gr) (kn : List Nat) : Prop := ∀ c ∈ kn, ∀ o ∈ G.nb c, 0 ≤ o → o.toNat ∈ kn
theorem found0_closed {G : Gr} (ok : G.Ok) : Closed G (found0 G) := fun c hc o ho h0 => bfsN_closed (nodup_len (found0_nodup G) (found0_lt ok)) hc ho h0
theorem firstL_sub (G : Gr) : ∀ c ∈ firstL G, c ∈ found0 G := fun c hc => by
  obtain ⟨r, e⟩ := bfsN_sub' (nb := G.nb) (first := firstL G) (Nat.zero_le G.n)
  show c ∈ bfsN G.nb (firstL G) G.n
  rw [e]
  exact List.mem_append_left _ hc
theorem srch_apart {G : Gr} (ok : G.Ok) {kn : List Nat} (hcl : Closed G kn) {c : Nat} (hc : c < G.n) (hn : c ∉ kn) : ∀ d ∈ srch G c, d ∉ kn := by
  have h := bfsN_within (nb := G.nb) (first := [c]) (S := fun d => d < G.n ∧ d ∉ kn) (fun d hd => by rw [List.mem_singleton.mp hd]; exact ⟨hc, hn⟩) (fun d hd o ho h0 => ⟨nb_lt ok hd.1 ho h0, fun hm => hd.2 ?_⟩) G.n
  · exact fun d hd => (h d hd).2
  · have := hcl _ hm _ (nb_sym ok hd.1 ho h0) (Int.natCast_nonneg _)
    rwa [Int.toNat_natCast] at this
/-- away from the ends all ports lead to cells -/
theorem srch_Shut {G : Gr} (ok : G.Ok) {kn : List Nat} (hcl : Closed G kn) (hf : ∀ c ∈ firstL G, c ∈ kn) {c : Nat} (hc : c < G.n) (hn : c ∉ kn) : Shut G (srch G c) := fun d hd o ho => by
  have hdn := srch_lt ok hc d hd
  have h0 : 0 ≤ o := by
    obtain ⟨k, hk, rfl⟩ := nb_mem ho
    have hp := cell_port hdn hk
    rcases ok.there _ hp with ⟨h1, h2, h3⟩ | ⟨h1, _⟩
    · exfalso
      refine srch_apart ok hcl hc hn d hd (hf d ?_)
      have e : G.ac ((d : Int), (k : Int)) = (-1, (((G.ac ((d : Int), (k : Int))).2.toNat : Nat) : Int)) := by
        rw [Int.toNat_of_nonneg h2, ← h1]
      have hb := ok.back _ hp
      rw [e] at hb
      have := mem_firstL (G := G) (e := (G.ac ((d : Int), (k : Int))).2.toNat) (by omega) (by rw [hb]; exact Int.natCast_nonneg _)
      rw [hb] at this
      rwa [Int.toNat_natCast] at this
    · exact h1
  exact ⟨h0, srch_closed ok hc hd ho h0⟩
theorem srch_le {G : Gr} (ok : G.Ok) {c d : Nat} (hc : c < G.n) (hd : d ∈ srch G c) : ∀ x ∈ srch G d, x ∈ srch G c :=
  bfsN_within (S := fun x => x ∈ srch G c) (fun x hx => by rw [List.mem_singleton.mp hx]; exact hd) (fun x hx o ho h0 => srch_closed ok hc hx ho h0) G.n
theorem srch_back {G : Gr} (ok : G.Ok) {c d : Nat} (hc : c < G.n) (hd : d ∈ srch G c) : c ∈ srch G d := by
  have h := bfsN_within (nb := G.nb) (first := [c]) (S := fun x => x < G.n ∧ c ∈ srch G x) (fun x hx => by rw [List.mem_singleton.mp hx]; exact ⟨hc, srch_self G c⟩) (fun x hx o ho h0 => ?_) G.n
  · exact (h d hd).2
  · have hy := nb_lt ok hx.1 ho h0
    refine ⟨hy, ?_⟩
    have h1 : x ∈ srch G o.toNat := by
      have := srch_closed ok hy (srch_self G o.toNat) (nb_sym ok hx.1 ho h0) (Int.natCast_nonneg _)
      rwa [Int.toNat_natCast] at this
    exact srch_le ok hy h1 c hx.2
theorem srch_perm {G : Gr} (ok : G.Ok) {c d : Nat} (hc : c < G.n) (hd : d ∈ srch G c) : (srch G d).Perm (srch G c) :=
  (List.perm_ext_iff_of_nodup (srch_nodup G d) (srch_nodup G c)).mpr fun x => ⟨srch_le ok hc hd x, srch_le ok (srch_lt ok hc d hd) (srch_back ok hc hd) x⟩
theorem leastL_some {G : Gr} : ∀ (cells : List Nat) (b : Option (List Nat)), (b = none → cells ≠ []) → ∃ l, cells.foldl (better G) b = some l
  | [], none, h => absurd rfl (h rfl)
  | [], some l, _ => ⟨l, rfl⟩
  | c :: cells, b, _ => by
    obtain ⟨l, hl⟩ : ∃ l, better G b c = some l := by
      cases b with
      | none => exact ⟨_, rfl⟩
      | some o =>
        show ∃ l, (if PySem.W.dataLt (rowsD G (srch G c)) (rowsD G o) = true then some (srch G c) else some o) = some l
        split <;> exact ⟨_, rfl⟩
    show ∃ l, cells.foldl (better G) (better G b c) = some l
    rw [hl]
    exact leastL_some cells (some l) fun z => nomatch z
theorem leastL_srch {G : Gr} : ∀ (cells : List Nat) (b : Option (List Nat)) (S : Nat → Prop), (∀ c ∈ cells, S c) → (∀ l, b = some l → ∃ d, S d ∧ l = srch G d) → ∀ l, cells.foldl (better G) b = some l → ∃ d, S d ∧ l = srch G d
  | [], b, S, _, hb, l, h => hb l h
  | c :: cells, b, S, hS, hb, l, h => by
    refine leastL_srch cells (better G b c) S (fun d hd => hS d (List.mem_cons_of_mem _ hd)) (fun l' h' => ?_) l h
    cases b with
    | none => exact ⟨c, hS c List.mem_cons_self, (Option.some.inj h').symm⟩
    | some o =>
      have h' : (if PySem.W.dataLt (rowsD G (srch G c)) (rowsD G o) = true then some (srch G c) else some o) = some l' := h'
      split at h'
      · exact ⟨c, hS c List.mem_cons_self, (Option.some.inj h').symm⟩
      · exact hb l' h'
/-- what stands when i cells have been asked -/
structure PInv (G : Gr) (i : Nat) (st : List Nat × List (List Nat)) : Prop where
  nd : st.1.Nodup
  lt : ∀ c ∈ st.1, c < G.n
  cl : Closed G st.1
  f0 : ∀ c ∈ found0 G, c ∈ st.1
  upto : ∀ c, c < i → c ∈ st.1
  pm : st.1.Perm (found0 G ++ st.2.flatten)
theorem partsF_succ (G : Gr) (i : Nat) : partsF G (i + 1) = stepP G (partsF G i) i := by
  unfold partsF
  rw [List.range_succ, List.foldl_append]
  rfl
theorem least_perm {G : Gr} (ok : G.Ok) {c : Nat} (hc : c < G.n) : ∃ l, leastL G (srch G c) = some l ∧ l.Perm (srch G c) := by
  obtain ⟨l, hl⟩ := leastL_some (G := G) (srch G c) none fun _ z => by
    have := srch_self G c
    rw [z] at this
    cases this
  obtain ⟨d, hd, rfl⟩ := leastL_srch (srch G c) none (fun d => d ∈ srch G c) (fun d hd => hd) (fun l z => nomatch z) l hl
  exact ⟨_, hl, srch_perm ok hc hd⟩
theorem partsF_inv {G : Gr} (ok : G.Ok) : ∀ i, i ≤ G.n → PInv G i (partsF G i)
  | 0, _ => ⟨found0_nodup G, found0_lt ok, found0_closed ok, fun _ h => h, fun c h => absurd h (Nat.not_lt_zero c), by
    show (found0 G).Perm (found0 G ++ [])
    rw [List.append_nil]⟩
  | i + 1, hi => by
    have I := partsF_inv ok i (by omega)
    rw [partsF_succ]
    generalize partsF G i = st at I
    unfold stepP
    by_cases hm : i ∈ st.1
    · rw [if_pos hm]
      refine ⟨I.nd, I.lt, I.cl, I.f0, fun c hc => ?_, I.pm⟩
      by_cases e : c = i
      · rw [e]
        exact hm
      · exact I.upto c (by omega)
    · rw [if_neg hm]
      have hin : i < G.n := by omega
      have hap := srch_apart ok I.cl hin hm
      obtain ⟨l, hl, hp⟩ := least_perm ok hin
      refine ⟨List.nodup_append.mpr ⟨I.nd, srch_nodup G i, fun a ha b hb => ?_⟩, fun c hc => ?_, fun c hc o ho h0 => ?_, fun c hc => List.mem_append_left _ (I.f0 c hc), fun c hc => ?_, ?_⟩
      · rintro rfl
        exact hap a hb ha
      · rcases List.mem_append.mp hc with hc | hc
        · exact I.lt c hc
        · exact srch_lt ok hin c hc
      · rcases List.mem_append.mp hc with hc | hc
        · exact List.mem_append_left _ (I.cl c hc o ho h0)
        · exact List.mem_append_right _ (srch_closed ok hin hc ho h0)
      · by_cases e : c = i
        · rw [e]
          exact List.mem_append_right _ (srch_self G i)
        · exact List.mem_append_left _ (I.upto c (by omega))
      · show (st.1 ++ srch G i).Perm (found0 G ++ (st.2 ++ [(leastL G (srch G i)).getD []]).flatten)
        rw [hl, List.flatten_append, ← List.append_assoc]
        refine I.pm.append ?_
        show (srch G i).Perm ([l].flatten)
        simpa using hp.symm
theorem partsF_len (G : Gr) : ∀ i, (partsF G i).2.length ≤ i
  | 0 => Nat.le_refl _
  | i + 1 => by
    have ih := partsF_len G i
    rw [partsF_succ]
    unfold stepP
    split
    · omega
    · rw [List.length_append]
      show (partsF G i).2.length + 1 ≤ i + 1
      omega
theorem normF_perm {G : Gr} (ok : G.Ok) : (normF G).Perm (List.range G.n) := by
  have I := partsF_inv ok G.n (Nat.le_refl _)
  have h1 : (normF G).Perm (partsF G G.n).1 := by
    refine List.Perm.trans ?_ I.pm.symm
    exact List.Perm.append_left _ (List.Perm.flatten (List.mergeSort_perm _ _))
  refine h1.trans ((List.perm_ext_iff_of_nodup I.nd List.nodup_range).mpr fun c => ⟨fun h => List.mem_range.mpr (I.lt c h), fun h => I.upto c (List.mem_range.mp h)⟩)
/-- a part: a tuple of its rows and its order -/
def PartAt (K : PySem.W.Frag) (G : Gr) (S : List Addr) (H : Hp) (x : V) (o : List Nat) : Prop :=
  ∃ t ra oa ys, x = V.ref t ∧ H t = some (.tup [.ref ra, .ref oa]) ∧ ra ∉ S ∧ oa ∉ S ∧ H ra = some (.lst ys) ∧ DpAll K H ys (o.map (rowD G o)) ∧ H oa = some (.lst (o.map vI))
theorem PartAt.keep {G : Gr} {S : List Addr} {H H' : Hp} {x : V} {o : List Nat} (h : PartAt K G S H x o) (ht : TExt H H') (hl : ∀ c l, H c = some (.lst l) → c ∉ S → H' c = some (.lst l)) : PartAt K G S H' x o := by
  obtain ⟨t, ra, oa, ys, h1, h2, h3, h4, h5, h6, h7⟩ := h
  exact ⟨t, ra, oa, ys, h1, ht _ _ h2 trivial, h3, h4, hl _ _ h5 h3, dpAll_text ht _ _ (tupOnlyAll_map _ (row_tup G o) _) h6, hl _ _ h7 h4⟩
theorem dpAll_ints {H : Hp} : ∀ (o : List Nat), DpAll K H (o.map vI) (o.map fun (c : Nat) => PyData.int (c : Int))
  | [] => .nil
  | _ :: o => .cons (.int _) (dpAll_ints o)
theorem PartAt.dp {G : Gr} {S : List Addr} {H : Hp} {x : V} {o : List Nat} (h : PartAt K G S H x o) : Dp K H x (partD G o) := by
  obtain ⟨t, ra, oa, ys, rfl, h2, h3, h4, h5, h6, h7⟩ := h
  exact .tup (.inl (.inl h2)) (.cons (.lst (SqL.of h5) h6) (.cons (.lst (SqL.of h7) (dpAll_ints o)) .nil))
theorem parts_dp {G : Gr} {S : List Addr} {H : Hp} : ∀ {xs : List V} {os : List (List Nat)}, Paired (PartAt K G S H) xs os → DpAll K H xs (os.map (partD G))
  | _, _, .nil => .nil
  | _, _, .cons a r => .cons a.dp (parts_dp r)
theorem alike_part (G : Gr) (o o' : List Nat) : PySem.W.alike (partD G o) (partD G o') = true := by
  unfold partD
  simp only [PySem.W.alike, PySem.W.alikeAll, alike_rows, Bool.true_and, Bool.and_true]
  refine alikeAll_of fun d hd e he => ?_
  obtain ⟨c, _, rfl⟩ := List.mem_map.mp hd
  obtain ⟨c', _, rfl⟩ := List.mem_map.mp he
  simp [PySem.W.alike]
theorem depth_part (G : Gr) (o : List Nat) : (partD G o).depth ≤ 5 := by
  unfold partD
  simp only [PyData.depth, PyData.depthAll]
  have h1 := depth_rows G o
  have h2 : PyData.depthAll (o.map fun (c : Nat) => PyData.int (c : Int)) ≤ 0 := depthAll_le fun d hd => by
    obtain ⟨c, _, rfl⟩ := List.mem_map.mp hd
    simp [PyData.depth]
  omega
theorem zip_map {α β γ : Type} {R : α → β → Prop} (f : β → γ) : ∀ {xs : List α} {ys : List β}, Paired R xs ys → xs.zip (ys.map f) = (xs.zip ys).map fun q => (q.1, f q.2)
  | _, _, .nil => rfl
  | _, _, .cons _ r => congrArg (List.cons _) (zip_map f r)
theorem zip_all {α β : Type} {R : α → β → Prop} : ∀ {xs : List α} {ys : List β}, Paired R xs ys → ∀ q ∈ xs.zip ys, R q.1 q.2
  | _, _, .nil, q, h => by cases h
  | _, _, .cons a r, q, h => by
    rcases List.mem_cons.mp h with rfl | h
    · exact a
    · exact zip_all r q h
theorem zip_snd2 {α β : Type} {R : α → β → Prop} : ∀ {xs : List α} {ys : List β}, Paired R xs ys → (xs.zip ys).map Prod.snd = ys
  | _, _, .nil => rfl
  | _, _, .cons _ r => congrArg (List.cons _) (zip_snd2 r)
theorem paired_of {α β : Type} {R : α → β → Prop} : ∀ {l : List (α × β)}, (∀ q ∈ l, R q.1 q.2) → Paired R (l.map Prod.fst) (l.map Prod.snd)
  | [], _ => .nil
  | q :: l, h => .cons (h q List.mem_cons_self) (paired_of fun r hr => h r (List.mem_cons_of_mem _ hr))
/-- the sorted parts: the sorted orders -/
theorem parts_sorted {G : Gr} {R : V → List Nat → Prop} {xs : List V} {os : List (List Nat)} (h : Paired R xs os) :
    Paired R (((xs.zip (os.map (partD G))).mergeSort (PySem.W.dataLe false Prod.snd)).map Prod.fst) (os.mergeSort (PySem.W.dataLe false (partD G))) := by
  have e1 : (xs.zip (os.map (partD G))).mergeSort (PySem.W.dataLe false Prod.snd) = ((xs.zip os).mergeSort (PySem.W.dataLe false fun q : V × List Nat => partD G q.2)).map fun q => (q.1, partD G q.2) := by
    rw [zip_map (partD G) h]
    exact (List.map_mergeSort (f := fun q : V × List Nat => (q.1, partD G q.2)) (l := xs.zip os) (r := PySem.W.dataLe false fun q : V × List Nat => partD G q.2) (s := PySem.W.dataLe false Prod.snd) (fun a _ b _ => rfl)).symm
  have e2 : os.mergeSort (PySem.W.dataLe false (partD G)) = ((xs.zip os).mergeSort (PySem.W.dataLe false fun q : V × List Nat => partD G q.2)).map Prod.snd := by
    have := List.map_mergeSort (f := Prod.snd) (l := xs.zip os) (r := PySem.W.dataLe false fun q : V × List Nat => partD G q.2) (s := PySem.W.dataLe false (partD G)) (fun a _ b _ => rfl)
    rw [this, zip_snd2 h]
  rw [e1, e2, List.map_map]
  exact paired_of fun q hq => zip_all h q (List.mem_mergeSort.mp hq)
theorem NetAt.lock {H : Hp} {kA aA : Addr} {G : Gr} (h : NetAt H kA aA G) (hk : H kA = some (.dK (kdK G))) (od : Obj) : NetAt (upd H kA (.frz od (.dK (kdK G)))) kA aA G := by
  obtain ⟨kvs, h1, h2⟩ := h.ax
  have hne : aA ≠ kA := by
    rintro rfl
    rcases h1 with h1 | ⟨o, h1⟩
    · rw [hk] at h1
      cases h1
    · rw [hk] at h1
      cases h1
  refine ⟨.inr ⟨od, upd_same⟩, kvs, ?_, fun p hp => ?_⟩
  · rcases h1 with h1 | ⟨o, h1⟩
    · exact .inl ((upd_ne hne).trans h1)
    · exact .inr ⟨o, (upd_ne hne).trans h1⟩
  · obtain ⟨t, a, b⟩ := h2 p hp
    refine ⟨t, a, (upd_ne ?_).trans b⟩
    rintro rfl
    rw [hk] at b
    cases b
theorem in_cells (g : List Nat) (o : Int) : inV (.int o) (g.map vI) = decide (∃ c ∈ g, (c : Int) = o) := by
  unfold inV
  rw [Bool.eq_iff_iff, List.any_eq_true, decide_eq_true_eq]
  constructor
  · rintro ⟨x, hx, e⟩
    obtain ⟨c, hc, rfl⟩ := List.mem_map.mp hx
    refine ⟨c, hc, ?_⟩
    simpa [eqV] using e
  · rintro ⟨c, hc, rfl⟩
    exact ⟨_, List.mem_map.mpr ⟨c, hc, rfl⟩, by simp [eqV]⟩
def spNormal (K : PySem.W.Frag) : Sp := fun vs H Q _ => ∃ (G : Gr) (kA aA : Addr), vs = [.ref kA, .ref aA, .int (G.ends : Int)] ∧ G.Ok ∧ H kA = some (.dK (kdK G)) ∧ NetAt H kA aA G ∧
  ∀ p H', H p = none → H' p = some (.lst ((normF G).map vI)) → Ext H H' → Q (.ref p) H'
theorem ok_normal_order (T : Txt P w K mg) : FnR P w K mg base (L2.CX P w) 3 (He.ga K "normal_order") (spNormal K) := by
  have G_search := ok_search (base := base) T
  have G_least_part := ok_least_part (base := base) T
  obtain ⟨fd, F⟩ := T.f_normal_order
  refine fnR_body F sc_normal_order (F.bindsN (fun _ _ _ _ _ _ us hl => match us, hl with | [_, _, _], _ => rfl)) ?_ ?_
  · rintro vs H Q E ⟨G, kA, aA, rfl, _⟩
    rfl
  · rintro cdv A outer s H vs Q E hr ⟨G, kA, aA, rfl, ok, hkA, hN, q⟩
    refine ⟨_, (PSs.nox (Mc.pss_mid (ps_set (i := 3) sc_normal_order.nd rfl (Or.inl rfl) (pe_lst pa_nil))
      (Mc.pss_mid (ps_for PassesOwn.never rfl (pi_range1 (by rfl) T.m_range (pa_cons (pv 2) pa_nil)) (pg_name (i := 4) sc_normal_order.nd rfl (Or.inl rfl))
      (Mc.pss_mid (ps_set (i := 5) sc_normal_order.nd rfl (Or.inl rfl) (pe_ix (ix_tup : IxR _ (rIxT K)) (pe_dget (hu_of hr) (pv 1) (pe_tup (pa_cons (pe_un un_neg pe_int) (pa_cons (pv 4) pa_nil))) (fun _ _ => rfl)) pe_int (fun _ _ => rfl)))
      (pss_one (ps_if (PW.pt (pw_and (pt_cmpR op_ge (pv 5) pe_int (nomark _)) (pw_and1 (pt_cmpR (op_notIn_seq : OpR _ _ (rIn K true)) (pv 5) (pv 3) (by rfl))))) (pss_one (ps_expr (pe_bm PySem.F.plainAttrs_list PySem.F.slot_list_append PySem.F.type_list_append mt_append (pv 3) (pa_cons (pv 5) pa_nil) : PE _ _ (tBM K _ _ _ _)))) pss_nil))))
      (Mc.pss_mid (ps_setLc (i := 6) (own := [("cell", 5)]) rfl sc_normal_order.nd rfl rfl (sw_true rfl rfl rfl (by decide +kernel)) (pi_list (Mc.pe_callR G_search (hr.mono (by decide)) (by rfl) T.g_search T.k_search pass_no (pa_cons (pv 3) (pa_cons (pv 0) (pa_cons (pv 1) pa_nil)))) : PI _ _ _ (iList K _)) (blkOk_by (own := [("cell", 5)]) (N := N_normal_order) (sc := defScope s_normal_order) (by decide +kernel)) (fun _ _ _ _ _ => (pg_name (i := 5) sc_normal_order.nd rfl (Or.inl rfl))) (fun _ _ _ _ _ => pts_nil) (fun _ _ _ _ _ => (pv 5)))
      (Mc.pss_mid (ps_set (i := 7) sc_normal_order.nd rfl (Or.inl rfl) pe_dnewK)
      (Mc.pss_mid (ps_for PassesOwn.never rfl (pi_list (pv 6) : PI _ _ _ (iList K _)) (pg_name (i := 5) sc_normal_order.nd rfl (Or.inl rfl))
      (pss_one (ps_dput (hu_of hr) (pv 7) (pv 5) pe_bl rfl)))
      (Mc.pss_mid (ps_set (i := 8) sc_normal_order.nd rfl (Or.inl rfl) (pe_lst pa_nil))
      (Mc.pss_mid (ps_lock (ps_for PassesOwn.never rfl (pi_keys (pv 0)) (pg_name (i := 5) sc_normal_order.nd rfl (Or.inl rfl))
      (pss_one (ps_if (pt_cmp (pc_dnotin (hu_of hr) (pv 5) (pv 7))) (Mc.pss_mid (ps_set (i := 9) sc_normal_order.nd rfl (Or.inl rfl) (Mc.pe_callR G_search (hr.mono (by decide)) (by rfl) T.g_search T.k_search pass_no (pa_cons (pe_lst (pa_cons (pv 5) pa_nil)) (pa_cons (pv 0) (pa_cons (pv 1) pa_nil)))))
      (Mc.pss_mid (ps_for PassesOwn.never rfl (pi_list (pv 9) : PI _ _ _ (iList K _)) (pg_name (i := 10) sc_normal_order.nd rfl (Or.inl rfl))
      (pss_one (ps_dput (hu_of hr) (pv 7) (pv 10) pe_bl rfl)))
      (pss_one (ps_expr (pe_bm PySem.F.plainAttrs_list PySem.F.slot_list_append PySem.F.type_list_append mt_append (pv 8) (pa_cons (Mc.pe_callR G_least_part (hr.mono (by decide)) (by rfl) T.g_least_part T.k_least_part pass_no (pa_cons (pv 9) (pa_cons (pv 0) (pa_cons (pv 1) pa_nil)))) pa_nil) : PE _ _ (tBM K _ _ _ _)))))) pss_nil))))
      (Mc.pss_mid (ps_for PassesOwn.never rfl (pi_list (pe_callB ((Mc.cr_sortedD hr.units) : CallR _ (.builtin "sorted") (Mc.rSortedD K)) (by rfl) T.m_sorted (by decide +kernel) (pa_cons (pv 8) pa_nil)) : PI _ _ _ (iList K _)) (pg_tup (by rfl) (pgs_cons (pg_name (i := 11) sc_normal_order.nd rfl (Or.inl rfl)) (pgs_cons (pg_name (i := 12) sc_normal_order.nd rfl (Or.inl rfl)) pgs_nil)) : PG _ _ (gTup K 2 (gCons (gName 11) (gCons (gName 12) gNil))))
      (pss_one (ps_expr (pe_bm PySem.F.plainAttrs_list PySem.F.slot_list_extend PySem.F.type_list_extend mt_extend (pv 6) (pa_cons (pv 12) pa_nil) : PE _ _ (tBM K _ _ _ _)))))
      (pss_one (ps_ret (pv 6)))))))))))), ?_⟩
    have hn := ok.small
    have he := ok.few
    have szl : ∀ m : Nat, m < 100000 → m < sizeLine := fun m h => Nat.lt_of_lt_of_le h (by decide)
    have tl : (tips G).length = G.ends := by
      unfold tips
      rw [List.length_map, List.length_range]
    -- first
    refine ⟨fun τ G' => ∃ FI, τ = [some (.ref kA), some (.ref aA), some (.int (G.ends : Int)), some (.ref FI), none, none, none, none, none, none, none, none, none] ∧ H FI = none ∧ G' FI = some (.lst []) ∧ Ext H G', ?_, ?_⟩
    · exact ⟨(by show 0 ≤ sizeLine; decide), fun FI hFI => ⟨FI, rfl, hFI, upd_same, Ext.new hFI⟩⟩
    rintro _ G1 ⟨FI, rfl, hFI, h1, hE1⟩
    refine ⟨fun τ G' => ∃ y4 y5, τ = [some (.ref kA), some (.ref aA), some (.int (G.ends : Int)), some (.ref FI), y4, y5, none, none, none, none, none, none, none] ∧ G' FI = some (.lst ((firstL G).map vI)) ∧ Ext H G', ?_, ?_⟩
    · refine ⟨_, rfl, _, rfl, by omega, by omega, for_it walk_range (fun k σ G' => ∃ y4 y5, σ = [some (.ref kA), some (.ref aA), some (.int (G.ends : Int)), some (.ref FI), y4, y5, none, none, none, none, none, none, none] ∧ G' FI = some (.lst ((visit ((tips G).take k) []).map vI)) ∧ Ext H G')
        ⟨_, _, rfl, h1, hE1⟩ (fun _ _ _ _ _ => trivial) ?_ ?_⟩
      · rintro k x σ G2 G3 hk ⟨y4, y5, rfl, h3, hE3⟩ ⟨rfl, hx⟩
        obtain rfl : x = vI k := by
          rw [hx]
          show V.int (0 + (k : Int)) = V.int (k : Int)
          rw [Int.zero_add]
        have hk2 : k < G.ends := by rwa [Int.toNat_natCast] at hk
        have hport := end_port (G := G) hk2
        obtain ⟨kvs, hax, hv⟩ := (hN.ext hE3).ax
        obtain ⟨u, hu1, hu2⟩ := hv _ hport
        have htk : (tips G)[k]? = some (G.ac (-1, (k : Int))).1 := by
          unfold tips
          rw [List.getElem?_map, List.getElem?_range hk2]
          rfl
        have hot : (G.ac (-1, (k : Int))).1 ∈ tips G := List.mem_of_getElem? htk
        generalize ho : (G.ac (-1, (k : Int))).1 = o at htk hot
        have enext : visit ((tips G).take (k + 1)) [] = addN (visit ((tips G).take k) []) o := by
          rw [take_snoc htk]
          unfold visit
          rw [List.foldl_append]
          rfl
        rw [enext]
        have gl : ∀ c' ∈ visit ((tips G).take k) [], c' ∈ firstL G := fun c' h' => by
          rcases visit_mem h' with h' | ⟨o', h1', h2', rfl⟩
          · cases h'
          · exact mem_visit (List.mem_of_mem_take h1') h2'
        have gn : (visit ((tips G).take k) []).Nodup := visit_nodup _ .nil
        have gz := nodup_len gn fun c hc => firstL_lt ok c (gl c hc)
        generalize visit ((tips G).take k) [] = g at h3 gl gn gz ⊢
        refine ⟨fun τ G' => τ = [some (.ref kA), some (.ref aA), some (.int (G.ends : Int)), some (.ref FI), some (vI k), some (.int o), none, none, none, none, none, none, none] ∧ G' FI = some (.lst (g.map vI)) ∧ Ext H G', ?_, ?_⟩
        · refine ⟨_, rfl, 1, rfl, _, rfl, (by show 2 ≤ sizeLine; decide), fun t ht => ⟨aA, .ref u, rfl, .inr ⟨kvs, kP (-1, (k : Int)), t, (Ext.new ht).rd hax, rfl, upd_same, hu1.symm⟩, u, _, 0, .int o, rfl, rfl, .inl (.inl (Ext.new ht _ _ hu2)), ?_, rfl, Ext.new ht _ _ h3, hE3.trans (Ext.new ht)⟩⟩
          rw [← ho]
          rfl
        rintro _ G4 ⟨rfl, h4, hE4⟩
        refine ⟨_, rfl, _, _, rfl, rfl, _, rfl, ?_⟩
        by_cases h0 : 0 ≤ o
        · rw [decide_eq_true h0]
          refine iteT ⟨_, rfl, _, rfl, FI, _, rfl, .inl (SqL.of h4), rfl, ?_, _, rfl, ?_⟩
          · exact List.all_eq_true.mpr fun x hx => by
              obtain ⟨c, _, rfl⟩ := List.mem_map.mp hx
              rfl
          rw [if_pos rfl, in_cells]
          by_cases hm : o.toNat ∈ g
          · rw [decide_eq_true ⟨o.toNat, hm, by omega⟩]
            refine iteF ⟨_, _, rfl, ?_⟩
            unfold addN
            rw [if_neg fun z => z.2 hm]
            exact ⟨h4, hE4⟩
          · have hne : ¬ ∃ c' ∈ g, (c' : Int) = o := by
              rintro ⟨c', h1', h2'⟩
              have : o.toNat = c' := by omega
              rw [this] at hm
              exact hm h1'
            rw [decide_eq_false hne]
            have eo : (o.toNat : Int) = o := by omega
            refine iteT ⟨_, rfl, .inl ⟨rfl, _, SqL.of h4⟩, _, rfl, FI, _, _, rfl, rfl, h4, ?_, _, _, rfl, ?_⟩
            · rw [List.length_map]
              exact szl _ (by omega)
            unfold addN
            rw [if_pos ⟨h0, hm⟩]
            refine ⟨?_, keepH hE4 hFI⟩
            rw [upd_same, List.map_append]
            show some (HO.lst (g.map vI ++ [V.int o])) = some (HO.lst (g.map vI ++ [V.int (o.toNat : Int)]))
            rw [eo]
        · rw [decide_eq_false h0]
          refine iteF (iteF ⟨_, _, rfl, ?_⟩)
          unfold addN
          rw [if_neg fun z => h0 z.1]
          exact ⟨h4, hE4⟩
      · rintro σ G2 ⟨y4, y5, rfl, h2, hE2⟩
        rw [Int.toNat_natCast, ← tl, List.take_length] at h2
        exact ⟨y4, y5, rfl, h2, hE2⟩
    rintro _ G2 ⟨y4, y5, rfl, h2, hE2⟩
    -- found
    have fz : (found0 G).length ≤ G.n := nodup_len (found0_nodup G) (found0_lt ok)
    refine ⟨fun τ G' => ∃ FA, τ = [some (.ref kA), some (.ref aA), some (.int (G.ends : Int)), some (.ref FI), y4, y5, some (.ref FA), none, none, none, none, none, none] ∧ H FA = none ∧ G' FA = some (.lst ((found0 G).map vI)) ∧ Ext H G', ?_, ?_⟩
    · refine ⟨_, rfl, _, rfl, _, rfl, G, FI, kA, aA, firstL G, rfl, ok, SqL.of h2, hN.ext hE2, firstL_nodup G, firstL_lt ok, fun SA G3 hSA h3 hE3 => ⟨SA, rfl, ⟨_, SqL.of h3⟩, fun FA hFA => ?_⟩⟩
      have hE3' := hE2.trans hE3
      have hSF : SA ≠ FA := ne_of_none h3 hFA
      refine lc_it (walk_list (xs := (found0 G).map vI)) (fun i G' => G' SA = some (.lst ((found0 G).map vI)) ∧ G' FA = some (.lst (((found0 G).map vI).take i)) ∧ Ext H G') ⟨(upd_ne hSF).trans h3, upd_same, hE3'.trans (Ext.new hFA)⟩ (fun i G' _ h => SqL.of h.1) ?_ ?_
      · rintro i x G4 G5 hi ⟨a1, a2, a3⟩ ⟨rfl, hx⟩
        refine ⟨rfl, ?_⟩
        refine ⟨_, rfl, _, a2, ?_, (upd_ne hSF).trans a1, ?_, keepH a3 (hE3'.fresh hFA)⟩
        · rw [List.length_take, List.length_map]
          exact szl _ (by omega)
        · rw [upd_same, take_snoc hx]
      · rintro G4 ⟨a1, a2, a3⟩
        rw [List.take_length] at a2
        exact ⟨FA, rfl, hE3'.fresh hFA, a2, a3⟩
    rintro _ G3 ⟨FA, rfl, hFA, h3, hE3⟩
    -- known
    refine ⟨fun τ G' => ∃ KA, τ = [some (.ref kA), some (.ref aA), some (.int (G.ends : Int)), some (.ref FI), y4, y5, some (.ref FA), some (.ref KA), none, none, none, none, none] ∧ H KA = none ∧ FA ≠ KA ∧ G' FA = some (.lst ((found0 G).map vI)) ∧ G' KA = some (.dK (knK [])) ∧ Ext H G', ?_, ?_⟩
    · intro KA hKA
      have hne : FA ≠ KA := ne_of_none h3 hKA
      exact ⟨KA, rfl, hE3.fresh hKA, hne, (upd_ne hne).trans h3, upd_same, hE3.trans (Ext.new hKA)⟩
    rintro _ G4 ⟨KA, rfl, hKA, hFK, h4, h4k, hE4⟩
    refine ⟨fun τ G' => ∃ y5, τ = [some (.ref kA), some (.ref aA), some (.int (G.ends : Int)), some (.ref FI), y4, y5, some (.ref FA), some (.ref KA), none, none, none, none, none] ∧ G' FA = some (.lst ((found0 G).map vI)) ∧ G' KA = some (.dK (knK (found0 G))) ∧ Ext H G', ?_, ?_⟩
    · refine ⟨_, rfl, FA, rfl, ⟨_, SqL.of h4⟩, for_it (walk_list (xs := (found0 G).map vI)) (fun i σ G' => ∃ y5, σ = [some (.ref kA), some (.ref aA), some (.int (G.ends : Int)), some (.ref FI), y4, y5, some (.ref FA), some (.ref KA), none, none, none, none, none] ∧ G' FA = some (.lst ((found0 G).map vI)) ∧ G' KA = some (.dK (knK ((found0 G).take i))) ∧ Ext H G')
        ⟨_, rfl, h4, h4k, hE4⟩ (fun i σ G' _ ⟨_, _, h, _⟩ => SqL.of h) ?_ ?_⟩
      · rintro i x σ G5 G6 hi ⟨y5, rfl, h6, h6k, hE6⟩ ⟨rfl, hx⟩
        obtain ⟨c, hc, rfl⟩ := map_get hx
        refine ⟨_, rfl, _, rfl, KA, _, rfl, .inl ⟨_, .inl (c : Int), h6k, rfl, ?_, rfl⟩, _, rfl, (upd_ne hFK).trans h6, ?_, keepH hE6 hKA⟩
        · rw [kn_len, List.length_take]
          exact szl _ (by omega)
        · rw [upd_same, take_snoc hc, kn_put (not_take (found0_nodup G) hc)]
      · rintro σ G5 ⟨y5, rfl, h5, h5k, hE5⟩
        rw [List.length_map, List.take_length] at h5k
        exact ⟨y5, rfl, h5, h5k, hE5⟩
    rintro _ G5 ⟨y5, rfl, h5, h5k, hE5⟩
    -- parts
    refine ⟨fun τ G' => ∃ PA, τ = [some (.ref kA), some (.ref aA), some (.int (G.ends : Int)), some (.ref FI), y4, y5, some (.ref FA), some (.ref KA), some (.ref PA), none, none, none, none] ∧ H PA = none ∧ FA ≠ PA ∧ KA ≠ PA ∧ G' FA = some (.lst ((found0 G).map vI)) ∧ G' KA = some (.dK (knK (found0 G))) ∧ G' PA = some (.lst []) ∧ Ext H G', ?_, ?_⟩
    · refine ⟨(by show 0 ≤ sizeLine; decide), fun PA hPA => ?_⟩
      have n1 : FA ≠ PA := ne_of_none h5 hPA
      have n2 : KA ≠ PA := ne_of_none h5k hPA
      exact ⟨PA, rfl, hE5.fresh hPA, n1, n2, (upd_ne n1).trans h5, (upd_ne n2).trans h5k, upd_same, hE5.trans (Ext.new hPA)⟩
    rintro _ G6 ⟨PA, rfl, hPA, hFP, hKP, h6, h6k, h6p, hE6⟩
    have nF : FA ≠ kA := fun z => by
      rw [z, hkA] at hFA
      cases hFA
    have nK : KA ≠ kA := fun z => by
      rw [z, hkA] at hKA
      cases hKA
    have nP : PA ≠ kA := fun z => by
      rw [z, hkA] at hPA
      cases hPA
    -- the parts
    refine ⟨fun τ G' => ∃ y5 y9 y10 xs, τ = [some (.ref kA), some (.ref aA), some (.int (G.ends : Int)), some (.ref FI), y4, y5, some (.ref FA), some (.ref KA), some (.ref PA), y9, y10, none, none] ∧ G' FA = some (.lst ((found0 G).map vI)) ∧ G' PA = some (.lst xs) ∧
      Paired (PartAt K G [FA, KA, PA] G') xs (partsF G G.n).2 ∧ Ext H G', ?_, ?_⟩
    · refine ⟨kA, .dK (kdK G), hE6 _ _ hkA, trivial, fun od => ?_⟩
      have hNz := hN.lock hkA od
      have hEz : Ext (upd H kA (.frz od (.dK (kdK G)))) (upd G6 kA (.frz od (.dK (kdK G)))) := fun c u hc => by
        by_cases e : c = kA
        · rw [e, upd_same] at hc ⊢
          exact hc
        · rw [upd_ne e] at hc ⊢
          exact hE6 c u hc
      have zF : upd H kA (.frz od (.dK (kdK G))) FA = none := (upd_ne nF).trans hFA
      have zK : upd H kA (.frz od (.dK (kdK G))) KA = none := (upd_ne nK).trans hKA
      have zP : upd H kA (.frz od (.dK (kdK G))) PA = none := (upd_ne nP).trans hPA
      have kl : (kdK G).length = G.n := by
        unfold kdK
        rw [List.length_map, List.length_range]
      generalize hHz : upd H kA (.frz od (.dK (kdK G))) = Hz at hNz hEz zF zK zP
      refine ⟨_, rfl, kA, od, rfl, .inl ⟨kdK G, upd_same, for_it walk_keys (fun i σ G' => ∃ y5 y9 y10 xs, σ = [some (.ref kA), some (.ref aA), some (.int (G.ends : Int)), some (.ref FI), y4, y5, some (.ref FA), some (.ref KA), some (.ref PA), y9, y10, none, none] ∧
        G' kA = some (.frz od (.dK (kdK G))) ∧ G' FA = some (.lst ((found0 G).map vI)) ∧ G' KA = some (.dK (knK (partsF G i).1)) ∧ G' PA = some (.lst xs) ∧ Paired (PartAt K G [FA, KA, PA] G') xs (partsF G i).2 ∧ Ext Hz G')
        ⟨_, _, _, [], rfl, upd_same, (upd_ne nF).trans h6, (upd_ne nK).trans h6k, (upd_ne nP).trans h6p, .nil, hEz⟩ (fun i σ G' _ ⟨_, _, _, _, _, h, _⟩ => h) ?_ ?_⟩⟩
      · rintro i x σ G7 G8 hi ⟨y5, y9, y10, xs, rfl, h8z, h8, h8k, h8p, hpt, hE8⟩ ⟨rfl, k, v, hkv, rfl⟩
        rw [kl] at hi
        obtain rfl : k = .inl (i : Int) := by
          unfold kdK at hkv
          rw [List.getElem?_map, List.getElem?_range hi] at hkv
          exact (congrArg Prod.fst (Option.some.inj hkv)).symm
        have PI := partsF_inv ok i (Nat.le_of_lt hi)
        have plen := partsF_len G i
        rw [partsF_succ]
        generalize partsF G i = st at h8k hpt PI plen ⊢
        refine ⟨_, rfl, _, rfl, KA, _, rfl, .inl ⟨knK st.1, .inl (i : Int), .inl h8k, rfl, rfl⟩, _, rfl, ?_⟩
        rw [kn_some]
        by_cases hm : i ∈ st.1
        · rw [decide_eq_true ⟨i, hm, rfl⟩]
          refine iteF ?_
          unfold stepP
          rw [if_pos hm]
          exact ⟨_, _, _, xs, rfl, h8z, h8, h8k, h8p, hpt, hE8⟩
        · have hne : ¬ ∃ c' ∈ st.1, (c' : Int) = (i : Int) := by
            rintro ⟨c', h1', h2'⟩
            have : c' = i := by omega
            rw [this] at h1'
            exact hm h1'
          rw [decide_eq_false hne]
          have hap := srch_apart ok PI.cl hi hm
          obtain ⟨l, hl, hlp⟩ := least_perm ok hi
          have est : stepP G st i = (st.1 ++ srch G i, st.2 ++ [l]) := by
            unfold stepP
            rw [if_neg hm, hl]
            rfl
          rw [est]
          -- cells
          refine iteT ⟨fun τ G' => ∃ CA, τ = [some (.ref kA), some (.ref aA), some (.int (G.ends : Int)), some (.ref FI), y4, some (vI i), some (.ref FA), some (.ref KA), some (.ref PA), some (.ref CA), y10, none, none] ∧ G8 CA = none ∧ G' CA = some (.lst ((srch G i).map vI)) ∧ Ext G8 G', ?_, ?_⟩
          · exact ⟨_, rfl, (by show 1 ≤ sizeLine; decide), fun p hp => ⟨_, rfl, _, rfl, G, p, kA, aA, [i], rfl, ok, SqL.of upd_same, hNz.ext (hE8.trans (Ext.new hp)), List.pairwise_singleton _ _, (fun d hd => by rw [List.mem_singleton.mp hd]; exact hi), fun CA G' hCA hc hE => ⟨CA, rfl, (Ext.new hp).fresh hCA, hc, (Ext.new hp).trans hE⟩⟩⟩
          rintro _ G9 ⟨CA, rfl, hCA, h9, hE9⟩
          have hCK : CA ≠ KA := (ne_of_none h8k hCA).symm
          have sl := nodup_len (srch_nodup G i) (srch_lt ok hi)
          have kl2 := nodup_len PI.nd PI.lt
          -- known
          refine ⟨fun τ G' => ∃ y10, τ = [some (.ref kA), some (.ref aA), some (.int (G.ends : Int)), some (.ref FI), y4, some (vI i), some (.ref FA), some (.ref KA), some (.ref PA), some (.ref CA), y10, none, none] ∧ G' KA = some (.dK (knK (st.1 ++ srch G i))) ∧ ∀ b, b ≠ KA → G' b = G9 b, ?_, ?_⟩
          · refine ⟨_, rfl, CA, rfl, ⟨_, SqL.of h9⟩, for_it (walk_list (xs := (srch G i).map vI)) (fun j σ G' => ∃ y10, σ = [some (.ref kA), some (.ref aA), some (.int (G.ends : Int)), some (.ref FI), y4, some (vI i), some (.ref FA), some (.ref KA), some (.ref PA), some (.ref CA), y10, none, none] ∧ G' KA = some (.dK (knK (st.1 ++ (srch G i).take j))) ∧ ∀ b, b ≠ KA → G' b = G9 b)
              ⟨_, rfl, ?_, fun _ _ => rfl⟩ (fun j σ G' _ ⟨_, _, _, h⟩ => SqL.of ((h CA hCK).trans h9)) ?_ ?_⟩
            · rw [List.take_zero, List.append_nil]
              exact hE9 _ _ h8k
            · rintro j x σ G10 G11 hj ⟨y10, rfl, hk11, hb11⟩ ⟨rfl, hx⟩
              obtain ⟨c, hc, rfl⟩ := map_get hx
              have hcm : c ∈ srch G i := List.mem_of_getElem? hc
              refine ⟨_, rfl, _, rfl, KA, _, rfl, .inl ⟨_, .inl (c : Int), hk11, rfl, ?_, rfl⟩, _, rfl, ?_, fun b hb => (upd_ne hb).trans (hb11 b hb)⟩
              · rw [kn_len, List.length_append, List.length_take]
                exact szl _ (by omega)
              · rw [upd_same, take_snoc hc, ← List.append_assoc, kn_put]
                intro hmm
                rcases List.mem_append.mp hmm with hmm | hmm
                · exact hap c hcm hmm
                · exact not_take (srch_nodup G i) hc hmm
            · rintro σ G10 ⟨y10, rfl, hk10, hb10⟩
              rw [List.length_map, List.take_length] at hk10
              exact ⟨y10, rfl, hk10, hb10⟩
          rintro _ G10 ⟨y10, rfl, hk10, hb10⟩
          have hEz10 : Ext Hz G10 := fun c u hc => by
            have hcK : c ≠ KA := fun z => by
              rw [z, zK] at hc
              cases hc
            exact (hb10 c hcK).trans (hE9 c u (hE8 c u hc))
          have g10 : ∀ {c u}, G8 c = some u → c ≠ KA → G10 c = some u := fun {c u} h hc => (hb10 c hc).trans (hE9 c u h)
          have h10p : G10 PA = some (.lst xs) := g10 h8p (Ne.symm hKP)
          have h10f := g10 h8 hFK
          -- the part
          refine ⟨_, rfl, .inl ⟨rfl, _, SqL.of h10p⟩, _, rfl, _, rfl, _, rfl, G, CA, kA, aA, srch G i, rfl, ok, SqL.of ((hb10 CA hCK).trans h9), hNz.ext hEz10, srch_nodup G i, srch_lt ok hi, srch_Shut ok PI.cl (fun c hc => PI.f0 c (firstL_sub G c hc)) hi hm, fun p b o G11 hp htup hbest hE11 => ?_⟩
          rw [hl] at hbest
          obtain ⟨ba, oa, ys, rfl, rfl, f1, f2, g1, g2, g3⟩ := hbest
          have hpl : xs.length = st.2.length := Paired.length hpt
          have h11p := hE11 _ _ h10p
          refine ⟨PA, xs, _, rfl, rfl, h11p, szl _ (by omega), ?_⟩
          have hpP : p ≠ PA := (ne_of_none h10p hp).symm
          have notS : ∀ {a}, G10 a = none → a ∉ [FA, KA, PA] := fun {a} ha hS => by
            simp only [List.mem_cons, List.not_mem_nil, or_false] at hS
            rcases hS with rfl | rfl | rfl
            · rw [h10f] at ha
              cases ha
            · rw [hk10] at ha
              cases ha
            · rw [h10p] at ha
              cases ha
          have nPS : ∀ {a : Addr}, a ∉ [FA, KA, PA] → a ≠ PA := fun {a} ha z => ha (by rw [z]; simp)
          have T1 : TExt G8 G10 := fun c u hc ht => by
            refine g10 hc ?_
            rintro rfl
            rw [h8k] at hc
            cases hc
            exact ht
          have T2 : TExt G11 (upd G11 PA (.lst (xs ++ [.ref p]))) := TExt.put h11p fun z => z
          refine ⟨_, _, _, xs ++ [.ref p], rfl, (upd_ne (Ne.symm nP)).trans (hE11 _ _ (g10 h8z (Ne.symm nK))), (upd_ne hFP).trans (hE11 _ _ h10f), (upd_ne hKP).trans (hE11 _ _ hk10), upd_same, ?_, keepH (hEz10.trans hE11) zP⟩
          refine paired_append (L2.Paired.mapP hpt fun x o h => h.keep ((T1.trans hE11.t).trans T2) fun c l hc hcS => ?_) (.cons ⟨p, ba, oa, ys, rfl, (upd_ne hpP).trans htup, notS f1, notS f2, (upd_ne (nPS (notS f1))).trans g1, ?_, (upd_ne (nPS (notS f2))).trans g3⟩ .nil)
          · rw [upd_ne (nPS hcS)]
            refine hE11 _ _ (g10 hc ?_)
            rintro rfl
            exact hcS (by simp)
          · exact dpAll_text T2 _ _ (tupOnlyAll_map _ (row_tup G l) _) g2
      · rintro σ G7 ⟨y5, y9, y10, xs, rfl, h7z, h7, h7k, h7p, hpt, hE7⟩
        rw [kl] at hpt
        refine ⟨h7z, y5, y9, y10, xs, rfl, (upd_ne nF).trans h7, (upd_ne nP).trans h7p, ?_, fun c u hc => ?_⟩
        · refine L2.Paired.mapP hpt fun x o h => h.keep (TExt.put h7z fun z => z) fun c l hc _ => ?_
          rw [upd_ne ?_]
          · exact hc
          · rintro rfl
            rw [h7z] at hc
            cases hc
        · by_cases e : c = kA
          · rw [e, upd_same]
            rw [e, hkA] at hc
            exact hc
          · rw [upd_ne e]
            refine hE7 c u ?_
            rw [← hHz, upd_ne e]
            exact hc
    rintro _ G7 ⟨y5, y9, y10, xs, rfl, h7, h7p, hpt, hE7⟩
    have I := partsF_inv ok G.n (Nat.le_refl _)
    have np : (normF G).length = G.n := by
      have := (normF_perm ok).length_eq
      rwa [List.length_range] at this
    refine ⟨fun τ G' => ∃ y5 y11 y12, τ = [some (.ref kA), some (.ref aA), some (.int (G.ends : Int)), some (.ref FI), y4, y5, some (.ref FA), some (.ref KA), some (.ref PA), y9, y10, y11, y12] ∧ G' FA = some (.lst ((normF G).map vI)) ∧ Ext H G', ?_, ?_⟩
    · refine ⟨_, rfl, PA, xs, (partsF G G.n).2.map (partD G), rfl, SqL.of h7p, parts_dp hpt, PySem.W.AllAlike.of (alike_part G), PySem.W.Sortable.tuples (fun o => ⟨_, _, rfl⟩), (fun d hd => by obtain ⟨o, _, rfl⟩ := List.mem_map.mp hd; exact Nat.le_trans (depth_part G o) (by decide)), fun SA hSA => ⟨SA, rfl, ⟨_, SqL.of upd_same⟩, ?_⟩⟩
      have hsp := parts_sorted (G := G) hpt
      have hnf : normF G = found0 G ++ ((partsF G G.n).2.mergeSort (PySem.W.dataLe false (partD G))).flatten := rfl
      generalize (partsF G G.n).2.mergeSort (PySem.W.dataLe false (partD G)) = os at hsp hnf
      generalize ((xs.zip ((partsF G G.n).2.map (partD G))).mergeSort (PySem.W.dataLe false Prod.snd)).map Prod.fst = ys at hsp ⊢
      have hFS : FA ≠ SA := ne_of_none h7 hSA
      refine for_it (walk_list (xs := ys)) (fun i σ G' => ∃ y5 y11 y12, σ = [some (.ref kA), some (.ref aA), some (.int (G.ends : Int)), some (.ref FI), y4, y5, some (.ref FA), some (.ref KA), some (.ref PA), y9, y10, y11, y12] ∧ G' SA = some (.lst ys) ∧ G' FA = some (.lst ((found0 G ++ (os.take i).flatten).map vI)) ∧ Paired (PartAt K G [FA, KA, PA] G') ys os ∧ Ext H G')
        ⟨_, _, _, rfl, upd_same, ?_, ?_, hE7.trans (Ext.new hSA)⟩ (fun i σ G' _ ⟨_, _, _, _, h, _⟩ => SqL.of h) ?_ ?_
      · rw [upd_ne hFS, h7]
        simp
      · exact L2.Paired.mapP hsp fun x o h => h.keep (Ext.new hSA).t fun c l hc _ => Ext.new hSA _ _ hc
      · rintro i x σ G8 G9 hi ⟨y5, y11, y12, rfl, h9s, h9, hp9, hE9⟩ ⟨rfl, hx⟩
        obtain ⟨o, ho, t, ra, oa, zs, rfl, b1, b2, b3, b4, b5, b6⟩ := paired_get hp9 i x hx
        have hoF : oa ≠ FA := fun z => b3 (by rw [z]; exact List.mem_cons_self)
        have htk : os.take (i + 1) = os.take i ++ [o] := take_snoc ho
        have hle : (found0 G ++ (os.take i).flatten).length + o.length ≤ G.n := by
          have e : os = os.take (i + 1) ++ os.drop (i + 1) := (List.take_append_drop _ _).symm
          have := np
          rw [hnf, e, htk] at this
          simp only [List.flatten_append, List.length_append, List.flatten_cons, List.flatten_nil, List.length_nil] at this ⊢
          omega
        refine ⟨t, _, rfl, .inl (.inl b1), rfl, _, _, rfl, _, _, rfl, rfl, ?_⟩
        refine ⟨_, rfl, .inl ⟨rfl, _, SqL.of h9⟩, _, rfl, FA, oa, _, _, rfl, rfl, h9, b6, ?_, _, _, _, rfl, ?_, ?_, ?_, keepH hE9 hFA⟩
        · rw [List.length_map, List.length_map]
          exact Nat.le_of_lt (szl _ (by omega))
        · rw [upd_ne (Ne.symm hFS)]
          exact h9s
        · rw [upd_same, htk, List.flatten_append, ← List.append_assoc, List.map_append (l₁ := found0 G ++ (os.take i).flatten)]
          simp
        · exact L2.Paired.mapP hp9 fun x o h => h.keep (TExt.put h9 fun z => z) fun c l hc hcS => by
            rw [upd_ne (fun z => hcS (by rw [z]; exact List.mem_cons_self))]
            exact hc
      · rintro σ G8 ⟨y5, y11, y12, rfl, _, h8, _, hE8⟩
        have hl : ys.length = os.length := Paired.length hsp
        rw [hl, List.take_length, ← hnf] at h8
        exact ⟨y5, y11, y12, rfl, h8, hE8⟩
    rintro _ G8 ⟨y5, y11, y12, rfl, h8, hE8⟩
    exact ⟨_, rfl, q FA G8 hFA h8 hE8⟩
end Me
namespace Me
open PySem PySem.Spec PyProof.Rows L2 Mc
variable {P : Program} {w : World} {K : PySem.W.Frag} {mg : Str → Option Value} {base : Heap}
/-! ### what is an integer, a color, a kind, a port, a wire -/
def spB (K : PySem.W.Frag) (f : PyData → Bool) : Sp := fun vs H Q _ => ∃ (v : V) (d : PyData), vs = [v] ∧ Dq K H v d ∧ Q (.bl (f d)) H
theorem ok_is_integer (T : Txt P w K mg) : FnR P w K mg base (L2.CX P w) 1 (He.ga K "is_integer") (spB K isInt) := by
  obtain ⟨fd, F⟩ := T.f_is_integer
  refine fnR_body F sc_is_integer (F.bindsN (fun _ _ _ _ _ _ us hl => match us, hl with | [_], _ => rfl)) ?_ ?_
  · rintro vs H Q E ⟨v, d, rfl, _⟩
    rfl
  · rintro cdv A outer s H vs Q E hr ⟨v, d, rfl, hd, k⟩
    refine ⟨_, (PSs.nox (pss_one (ps_ret (pe_and (pe_callB (Mc.call_isd : CallR _ (.builtin "isinstance") (Mc.rIsd K)) (by rfl) T.m_isinstance (by decide +kernel) (pa_cons (pv 0) (pa_cons (pe_bltn (v := .ty "int") (by rfl) T.m_int (by decide +kernel) rfl) pa_nil))) (pe_one (pe_not (pe_callB (Mc.call_isd : CallR _ (.builtin "isinstance") (Mc.rIsd K)) (by rfl) T.m_isinstance (by decide +kernel) (pa_cons (pv 0) (pa_cons (pe_bltn (v := .ty "bool") (by rfl) T.m_bool (by decide +kernel) rfl) pa_nil))))))))), ?_⟩
    refine ⟨_, rfl, v, d, "int", _, rfl, hd, kit_int d, _, rfl, ?_⟩
    cases d with
    | int i => exact iteT ⟨_, rfl, v, _, "bool", _, rfl, hd, kit_bool _, _, rfl, k⟩
    | bool b => exact iteT ⟨_, rfl, v, _, "bool", _, rfl, hd, kit_bool _, _, rfl, k⟩
    | _ => exact iteF k
theorem in_colors (x : Str) : inV (.str x) [.str "red", .str "blue"] = isColor (.str x) := by
  show ((("red" : Str) == x) || ((("blue" : Str) == x) || false)) = (x == "red" || x == "blue")
  rw [Bool.or_false, show (("red" : Str) == x) = (x == "red") from Bool.beq_comm, show (("blue" : Str) == x) = (x == "blue") from Bool.beq_comm]
theorem ok_is_color (T : Txt P w K mg) : FnR P w K mg base (L2.CX P w) 1 (He.ga K "is_color") (spB K isColor) := by
  obtain ⟨fd, F⟩ := T.f_is_color
  refine fnR_body F sc_is_color (F.bindsN (fun _ _ _ _ _ _ us hl => match us, hl with | [_], _ => rfl)) ?_ ?_
  · rintro vs H Q E ⟨v, d, rfl, _⟩
    rfl
  · rintro cdv A outer s H vs Q E hr ⟨v, d, rfl, hd, k⟩
    refine ⟨_, (PSs.nox (pss_one (ps_ret (pe_and (pe_callB (Mc.call_isd : CallR _ (.builtin "isinstance") (Mc.rIsd K)) (by rfl) T.m_isinstance (by decide +kernel) (pa_cons (pv 0) (pa_cons (pe_bltn (v := .ty "str") (by rfl) T.m_str (by decide +kernel) rfl) pa_nil))) (pe_one (pe_cmpR (op_in_seq : OpR _ _ (rIn K false)) (pv 0) (pe_glob (v := .ref (He.ga K "COLORS")) (by rfl) T.g_COLORS rfl) (by rfl))))))), ?_⟩
    refine ⟨_, rfl, v, d, "str", _, rfl, hd, kit_str d, _, rfl, ?_⟩
    cases d with
    | str x =>
      obtain rfl := dq_str hd
      refine iteT ⟨_, rfl, _, _, rfl, .inr (T.t_COLORS H), rfl, rfl, ?_⟩
      rw [← in_colors] at k
      exact k
    | _ => exact iteF k
theorem ok_is_kind (T : Txt P w K mg) : FnR P w K mg base (L2.CX P w) 2 (He.ga K "is_kind") (spB K isKind) := by
  have G_is_color := ok_is_color (base := base) T
  obtain ⟨fd, F⟩ := T.f_is_kind
  refine fnR_body F sc_is_kind (F.bindsN (fun _ _ _ _ _ _ us hl => match us, hl with | [_], _ => rfl)) ?_ ?_
  · rintro vs H Q E ⟨v, d, rfl, _⟩
    rfl
  · rintro cdv A outer s H vs Q E hr ⟨v, d, rfl, hd, k⟩
    refine ⟨_, (PSs.nox (pss_one (ps_ret (pe_or (Mc.pe_callR G_is_color (hr.mono (by decide)) (by rfl) T.g_is_color T.k_is_color pass_no (pa_cons (pv 0) pa_nil)) (pe_one (pe_and (pe_callB (Mc.call_isd : CallR _ (.builtin "isinstance") (Mc.rIsd K)) (by rfl) T.m_isinstance (by decide +kernel) (pa_cons (pv 0) (pa_cons (pe_bltn (v := .ty "str") (by rfl) T.m_str (by decide +kernel) rfl) pa_nil))) (pe_one (pe_cmpR op_eq (pv 0) pe_str (nomark _))))))))), ?_⟩
    refine ⟨_, rfl, v, d, rfl, hd, _, rfl, ?_⟩
    cases e : isColor d with
    | true =>
      refine iteT ?_
      unfold isKind at k
      rw [e] at k
      exact k
    | false =>
      refine iteF ⟨_, rfl, v, d, "str", _, rfl, hd, kit_str d, _, rfl, ?_⟩
      unfold isKind at k
      rw [e] at k
      cases d with
      | str x =>
        obtain rfl := dq_str hd
        refine iteT ⟨_, rfl, rfl, ?_⟩
        have e2 : decide (V.str x = V.str "eraser") = (x == "eraser") := by
          by_cases h : x = "eraser"
          · subst h; simp
          · have h2 : ¬ V.str x = V.str "eraser" := fun z => h (V.str.inj z)
            rw [decide_eq_false h2]
            simp [h]
        rw [e2]
        exact k
      | _ => exact iteF k

theorem ok_is_port (T : Txt P w K mg) : FnR P w K mg base (L2.CX P w) 2 (He.ga K "is_port") (spB K isPortD) := by
  have G_is_integer := ok_is_integer (base := base) T
  obtain ⟨fd, F⟩ := T.f_is_port
  refine fnR_body F sc_is_port (F.bindsN (fun _ _ _ _ _ _ us hl => match us, hl with | [_], _ => rfl)) ?_ ?_
  · rintro vs H Q E ⟨v, d, rfl, _⟩
    rfl
  · rintro cdv A outer s H vs Q E hr ⟨v, d, rfl, hd, k⟩
    refine ⟨_, (PSs.nox (pss_cons (ps_if (PW.pt (pw_or (pt_not (pt_val (pe_callB (Mc.call_isd : CallR _ (.builtin "isinstance") (Mc.rIsd K)) (by rfl) T.m_isinstance (by decide +kernel) (pa_cons (pv 0) (pa_cons (pe_bltn (v := .ty "tuple") (by rfl) T.m_tuple (by decide +kernel) rfl) pa_nil))))) (pw_or1 (pt_cmpR op_ne (pe_callB (call_len : CallR _ (.builtin "len") (Mc.rLen K)) (by rfl) T.m_len (by decide +kernel) (pa_cons (pv 0) pa_nil)) pe_int (nomark _))))) (pss_one (ps_ret pe_bl)) pss_nil)
      (pss_cons (ps_asg (pv 0) (pg_tup (by rfl) (pgs_cons (pg_name (i := 1) sc_is_port.nd rfl (Or.inl rfl)) (pgs_cons (pg_name (i := 2) sc_is_port.nd rfl (Or.inl rfl)) pgs_nil)) : PG _ _ (gTup K 2 (gCons (gName 1) (gCons (gName 2) gNil)))))
      (pss_cons (ps_if (PW.pt (pw_or (pt_not (pt_val (Mc.pe_callR G_is_integer (hr.mono (by decide)) (by rfl) T.g_is_integer T.k_is_integer pass_no (pa_cons (pv 1) pa_nil)))) (pw_or1 (pt_not (pt_val (Mc.pe_callR G_is_integer (hr.mono (by decide)) (by rfl) T.g_is_integer T.k_is_integer pass_no (pa_cons (pv 2) pa_nil))))))) (pss_one (ps_ret pe_bl)) pss_nil)
      (pss_one (ps_ret (pe_and (pe_cmpR op_ge (pv 2) pe_int (nomark _)) (pe_one (pe_or (pe_cmpR op_eq (pv 1) (pe_un un_neg pe_int) (nomark _)) (pe_one (pe_and (pe_cmpR op_ge (pv 1) pe_int (nomark _)) (pe_one (pe_cmpR op_le (pv 2) pe_int (nomark _)))))))))))))), ?_⟩
    refine ⟨_, rfl, v, d, "tuple", _, rfl, hd, kit_tup d, _, rfl, ?_⟩
    cases d with
    | tuple ds =>
      obtain ⟨a, xs, rfl, hs, hall⟩ := dq_tup hd
      refine iteF ⟨_, rfl, _, xs.length, rfl, .inr ⟨_, hs, rfl⟩, rfl, _, rfl, ?_⟩
      by_cases h2 : xs.length = 2
      · refine iteNS (by rw [h2]; rfl) ?_
        obtain ⟨x, y, d1, d2, rfl, rfl, hx, hy⟩ := dpAll_two hall h2
        · refine ⟨_, rfl, a, _, rfl, hs, rfl, _, _, rfl, _, _, rfl, rfl, ?_⟩
          refine ⟨_, rfl, x, d1, rfl, .dp hx, _, rfl, ?_⟩
          cases e1 : isInt d1 with
          | false =>
            refine iteT (iteT ?_)
            have e : isPortD (.tuple [d1, d2]) = false := portTwo_l d1 d2 e1
            rw [e] at k
            exact k
          | true =>
            refine iteF ⟨_, rfl, y, d2, rfl, .dp hy, _, rfl, ?_⟩
            cases e2 : isInt d2 with
            | false =>
              refine iteT ?_
              have e : isPortD (.tuple [d1, d2]) = false := portTwo_r d1 d2 e2
              rw [e] at k
              exact k
            | true =>
              cases d1 with
              | int i =>
                cases d2 with
                | int j =>
                  cases hx
                  cases hy
                  refine iteF ⟨_, rfl, _, _, rfl, rfl, _, rfl, ?_⟩
                  have e : isPortD (.tuple [.int i, .int j]) = portOk i j := rfl
                  rw [e] at k
                  unfold portOk at k
                  cases c1 : decide ((0 : Int) ≤ j) with
                  | false =>
                    rw [c1] at k
                    exact iteF k
                  | true =>
                    rw [c1] at k
                    refine iteT ⟨_, rfl, _, rfl, rfl, _, rfl, ?_⟩
                    have c2e : decide (V.int i = V.int (-1)) = decide (i = -1) := by
                      by_cases h : i = -1
                      · subst h; rfl
                      · rw [decide_eq_false h, decide_eq_false fun z => h (V.int.inj z)]
                    rw [c2e]
                    cases c2 : decide (i = -1) with
                    | true =>
                      rw [c2] at k
                      exact iteT k
                    | false =>
                      rw [c2] at k
                      refine iteF ⟨_, rfl, _, _, rfl, rfl, _, rfl, ?_⟩
                      cases c3 : decide ((0 : Int) ≤ i) with
                      | false =>
                        rw [c3] at k
                        exact iteF k
                      | true =>
                        rw [c3] at k
                        exact iteT ⟨_, rfl, _, _, rfl, rfl, k⟩
                | _ => cases e2
              | _ => cases e1
      · have e : decide (V.int (xs.length : Int) = V.int 2) = false := decide_eq_false fun z => h2 (by have := V.int.inj z; omega)
        rw [e]
        refine iteT ?_
        have e3 : isPortD (.tuple ds) = false := by
          have hl := dpAll_len hall
          match ds, hl with
          | [], _ => rfl
          | [_], _ => rfl
          | [_, _], hl => exact absurd hl.symm (fun z => h2 z.symm)
          | _ :: _ :: _ :: _, _ => rfl
        rw [e3] at k
        exact k
    | _ => exact iteT (iteT k)

theorem depth_port (a b : Int) : PyData.depth (.tuple [.int a, .int b]) ≤ 60 := by simp [PyData.depth, PyData.depthAll]
theorem ok_is_wire (T : Txt P w K mg) : FnR P w K mg base (L2.CX P w) 3 (He.ga K "is_wire") (spB K isWireD) := by
  have G_is_port := ok_is_port (base := base) T
  obtain ⟨fd, F⟩ := T.f_is_wire
  refine fnR_body F sc_is_wire (F.bindsN (fun _ _ _ _ _ _ us hl => match us, hl with | [_], _ => rfl)) ?_ ?_
  · rintro vs H Q E ⟨v, d, rfl, _⟩
    rfl
  · rintro cdv A outer s H vs Q E hr ⟨v, d, rfl, hd, k⟩
    refine ⟨_, (PSs.nox (Mc.pss_mid (ps_if (PW.pt (pw_or (pt_not (pt_val (pe_callB (Mc.call_isd : CallR _ (.builtin "isinstance") (Mc.rIsd K)) (by rfl) T.m_isinstance (by decide +kernel) (pa_cons (pv 0) (pa_cons (pe_bltn (v := .ty "tuple") (by rfl) T.m_tuple (by decide +kernel) rfl) pa_nil))))) (pw_or1 (pt_cmpR op_ne (pe_callB (call_len : CallR _ (.builtin "len") (Mc.rLen K)) (by rfl) T.m_len (by decide +kernel) (pa_cons (pv 0) pa_nil)) pe_int (nomark _))))) (pss_one (ps_ret pe_bl)) pss_nil)
      (pss_one (ps_ret (pe_and (Mc.pe_callR G_is_port (hr.mono (by decide)) (by rfl) T.g_is_port T.k_is_port pass_no (pa_cons (pe_ix (ix_tup : IxR _ (rIxT K)) (pv 0) pe_int (fun _ _ => rfl)) pa_nil)) (pe_and (Mc.pe_callR G_is_port (hr.mono (by decide)) (by rfl) T.g_is_port T.k_is_port pass_no (pa_cons (pe_ix (ix_tup : IxR _ (rIxT K)) (pv 0) pe_int (fun _ _ => rfl)) pa_nil)) (pe_one (pe_cmpR ((Mc.op_neP hr.units) : OpR _ _ (Mc.rNeP K)) (pe_ix (ix_tup : IxR _ (rIxT K)) (pv 0) pe_int (fun _ _ => rfl)) (pe_ix (ix_tup : IxR _ (rIxT K)) (pv 0) pe_int (fun _ _ => rfl)) (nomark _))))))))), ?_⟩
    refine ⟨fun τ G => τ = [some v] ∧ G = H ∧ ∃ x y d1 d2 a, v = .ref a ∧ SqT K H a [x, y] ∧ d = .tuple [d1, d2] ∧ Dp K H x d1 ∧ Dp K H y d2, ?_, ?_⟩
    · refine ⟨_, rfl, v, d, "tuple", _, rfl, hd, kit_tup d, _, rfl, ?_⟩
      cases d with
      | tuple ds =>
        obtain ⟨a, xs, rfl, hs, hall⟩ := dq_tup hd
        refine iteF ⟨_, rfl, _, xs.length, rfl, .inr ⟨_, hs, rfl⟩, rfl, _, rfl, ?_⟩
        by_cases h2 : xs.length = 2
        · refine iteNS (by rw [h2]; rfl) ?_
          obtain ⟨x, y, d1, d2, rfl, rfl, hx, hy⟩ := dpAll_two hall h2
          exact ⟨rfl, rfl, x, y, d1, d2, a, rfl, hs, rfl, hx, hy⟩
        · have e : decide (V.int (xs.length : Int) = V.int 2) = false := decide_eq_false fun z => h2 (by have := V.int.inj z; omega)
          rw [e]
          refine iteT ?_
          have e3 : isWireD (.tuple ds) = false := by
            have hl := dpAll_len hall
            match ds, hl with
            | [], _ => rfl
            | [_], _ => rfl
            | [_, _], hl => exact absurd hl.symm (fun z => h2 z.symm)
            | _ :: _ :: _ :: _, _ => rfl
          rw [e3] at k
          exact k
      | _ => exact iteT (iteT k)
    rintro _ H ⟨rfl, rfl, x, y, d1, d2, a, rfl, hs, rfl, hx, hy⟩
    have k' : Q (.bl (isPortD d1 && (isPortD d2 && !PyData.eqv d1 d2))) H := k
    refine ⟨_, rfl, a, _, 0, x, rfl, rfl, hs, rfl, x, d1, rfl, .dp hx, _, rfl, ?_⟩
    cases e1 : isPortD d1 with
    | false =>
      rw [e1] at k'
      exact iteF k'
    | true =>
      rw [e1] at k'
      refine iteT ⟨_, rfl, a, _, 1, y, rfl, rfl, hs, rfl, y, d2, rfl, .dp hy, _, rfl, ?_⟩
      cases e2 : isPortD d2 with
      | false =>
        rw [e2] at k'
        exact iteF k'
      | true =>
        rw [e2] at k'
        obtain ⟨p1, p2, rfl, _⟩ := isPortD_ok e1
        obtain ⟨r1, r2, rfl, _⟩ := isPortD_ok e2
        exact iteT ⟨_, rfl, a, _, 0, x, rfl, rfl, hs, rfl, _, rfl, a, _, 1, y, rfl, rfl, hs, rfl, _, _, hx, hy, depth_port _ _, k'⟩
/-- x(v) is raised, the heap grown -/
def Rz (K : PySem.W.Frag) (H : Hp) (E : XK) (x : Str) (v : V) : Prop := ∀ H' e, Ext H H' → H' e = none → E (.ref (He.ga K x)) (some e) (upd H' e (.xd [(("value" : Str), v)]))
theorem Rz.ext {H H1 : Hp} {E : XK} {x : Str} {v : V} (h : Rz K H E x v) (e : Ext H H1) : Rz K H1 E x v := fun H' a e' ha => h H' a (e.trans e') ha
def spCheckKinds (K : PySem.W.Frag) : Sp := fun vs H Q E => ∃ (v : V) (d : PyData), vs = [v] ∧ Dq K H v d ∧ (isSeqD d = false → Rz K H E "InvalidKinds" v) ∧ (isSeqD d = true → 1000 < (itemsD d).length → Rz K H E "TooLarge" (.int ((itemsD d).length : Int))) ∧
  (isSeqD d = true → (itemsD d).length ≤ 1000 → (itemsD d).all isKind = false → Rz K H E "InvalidKinds" v) ∧ (isSeqD d = true → (itemsD d).length ≤ 1000 → (itemsD d).all isKind = true → ∀ H', Ext H H' → Q .non H')
theorem all_take_succ {α : Type} {f : α → Bool} {l : List α} {i : Nat} {x : α} (h : l[i]? = some x) : (l.take (i + 1)).all f = ((l.take i).all f && f x) := by
  rw [take_snoc h, List.all_append]
  simp
theorem all_get {α : Type} {f : α → Bool} {l : List α} {i : Nat} {x : α} (h : l[i]? = some x) (hx : f x = false) : l.all f = false := by
  rw [Bool.eq_false_iff]
  intro z
  rw [List.all_eq_true.mp z x (List.mem_of_getElem? h)] at hx
  cases hx
theorem ok_check_kinds (T : Txt P w K mg) : FnR P w K mg base (L2.CX P w) 3 (He.ga K "check_kinds") (spCheckKinds K) := by
  have G_is_kind := ok_is_kind (base := base) T
  obtain ⟨fd, F⟩ := T.f_check_kinds
  refine fnR_body F sc_check_kinds (F.bindsN (fun _ _ _ _ _ _ us hl => match us, hl with | [_], _ => rfl)) ?_ ?_
  · rintro vs H Q E ⟨v, d, rfl, _⟩
    rfl
  · rintro cdv A outer s H vs Q E hr ⟨v, d, rfl, hd, k1, k2, k3, k4⟩
    refine ⟨_, (Mc.pss_mid (ps_if (pt_not (pt_val (pe_callB (Mc.call_isdT : CallR _ (.builtin "isinstance") (Mc.rIsdT K)) (by rfl) T.m_isinstance (by decide +kernel) (pa_cons (pv 0) (pa_cons (pe_tup (pa_cons (pe_bltn (v := .ty "list") (by rfl) T.m_list (by decide +kernel) rfl) (pa_cons (pe_bltn (v := .ty "tuple") (by rfl) T.m_tuple (by decide +kernel) rfl) pa_nil))) pa_nil))))) (pss_one (Mc.ps_raiseMe rfl T.me T.x_InvalidKinds T.m_super T.g_InvalidKinds (hr.mono (by decide) : Room 1 _) (takes_of rfl rfl rfl rfl) (by exact (pa_cons (pv 0) pa_nil)))) pss_nil)
      (Mc.pss_mid (ps_if (pt_cmpR op_gt (pe_callB (call_len : CallR _ (.builtin "len") (Mc.rLen K)) (by rfl) T.m_len (by decide +kernel) (pa_cons (pv 0) pa_nil)) (pe_glob (v := .int 1000) (by rfl) T.i_MOST_CELLS.choose_spec ⟨_, rfl⟩) (nomark _)) (pss_one (Mc.ps_raiseMe rfl T.me T.x_TooLarge T.m_super T.g_TooLarge (hr.mono (by decide) : Room 1 _) (takes_of rfl rfl rfl rfl) (by exact (pa_cons (pe_callB (call_len : CallR _ (.builtin "len") (Mc.rLen K)) (by rfl) T.m_len (by decide +kernel) (pa_cons (pv 0) pa_nil)) pa_nil)))) pss_nil)
      (pss_one (ps_for (passes_of rfl) rfl (Mc.pi_seq (pv 0) : PI _ _ _ (Mc.iSeq K _)) (pg_name (i := 1) sc_check_kinds.nd rfl (Or.inl rfl))
      (pss_one (ps_if (pt_not (pt_val (Mc.pe_callR G_is_kind (hr.mono (by decide)) (by rfl) T.g_is_kind T.k_is_kind pass_no (pa_cons (pv 1) pa_nil)))) (pss_one (Mc.ps_raiseMe rfl T.me T.x_InvalidKinds T.m_super T.g_InvalidKinds (hr.mono (by decide) : Room 1 _) (takes_of rfl rfl rfl rfl) (by exact (pa_cons (pv 0) pa_nil)))) pss_nil)))))), ?_⟩
    refine ⟨fun τ G => τ = [some v, none] ∧ Ext H G ∧ isSeqD d = true, ?_, ?_⟩
    · refine ⟨_, rfl, (by show 2 ≤ sizeLine; decide), fun tp htp => ⟨v, d, tp, "list", "tuple", _, _, rfl, upd_same, dq_ext (Ext.new htp) hd, kit_lst d, kit_tup d, _, rfl, ?_⟩⟩
      have e : (isLst d || isTup d) = isSeqD d := by cases d <;> rfl
      rw [e]
      cases c : isSeqD d with
      | false => exact iteT ⟨_, rfl, _, rfl, fun q hq => k1 c _ q (Ext.new htp) hq⟩
      | true => exact iteF ⟨rfl, Ext.new htp, rfl⟩
    rintro _ G1 ⟨rfl, hE1, c1⟩
    obtain ⟨a, xs, rfl, hs, hall⟩ := dq_seq hd c1
    have hl := dpAll_len hall
    refine ⟨fun τ G => τ = [some (.ref a), none] ∧ G = G1 ∧ (itemsD d).length ≤ 1000, ?_, ?_⟩
    · refine ⟨_, rfl, _, xs.length, rfl, len_seq (hE1.sqS hs), _, _, rfl, rfl, _, rfl, ?_⟩
      by_cases c : 1000 < (itemsD d).length
      · rw [decide_eq_true (by omega)]
        refine iteT ⟨_, rfl, _, xs.length, rfl, len_seq (hE1.sqS hs), _, rfl, fun q hq => ?_⟩
        rw [hl]
        exact k2 c1 c _ q hE1 hq
      · rw [decide_eq_false (by omega)]
        exact iteF ⟨rfl, rfl, by omega⟩
    rintro _ G1 ⟨rfl, rfl, c2⟩
    refine ⟨_, rfl, a, xs, H, rfl, hs, hE1, fun J G w hG => for_it w (fun i σ G' => ∃ y, σ = [some (.ref a), y] ∧ G' = G1 ∧ ((itemsD d).take i).all isKind = true) ⟨_, rfl, rfl, rfl⟩ (fun i σ G' _ ⟨_, _, e, _⟩ => hG _ (e ▸ hE1)) ?_ ?_⟩
    · rintro i x σ G2 G3 hi ⟨y, rfl, rfl, hall2⟩ ⟨rfl, hx⟩
      obtain ⟨dx, hdx, hp⟩ := dpAll_get hall i x hx
      refine ⟨_, rfl, x, dx, rfl, .dp (dp_ext hE1 _ _ hp), _, rfl, ?_⟩
      cases c : isKind dx with
      | false => exact iteT ⟨_, rfl, _, rfl, fun q hq => k3 c1 c2 (all_get hdx c) _ q hE1 hq⟩
      | true =>
        refine iteF ⟨_, rfl, rfl, ?_⟩
        rw [all_take_succ hdx, hall2, c]
        rfl
    · rintro σ G2 ⟨y, rfl, rfl, hall2⟩
      rw [hl, List.take_length] at hall2
      exact k4 c1 c2 hall2 _ hE1
def spCheckWires (K : PySem.W.Frag) : Sp := fun vs H Q E => ∃ (v : V) (d : PyData), vs = [v] ∧ Dq K H v d ∧ (isSeqD d = false → Rz K H E "InvalidWires" v) ∧
  (isSeqD d = true → (itemsD d).all isWireD = false → Rz K H E "InvalidWires" v) ∧ (isSeqD d = true → (itemsD d).all isWireD = true → ∀ H', Ext H H' → Q .non H')
theorem ok_check_wires (T : Txt P w K mg) : FnR P w K mg base (L2.CX P w) 4 (He.ga K "check_wires") (spCheckWires K) := by
  have G_is_wire := ok_is_wire (base := base) T
  obtain ⟨fd, F⟩ := T.f_check_wires
  refine fnR_body F sc_check_wires (F.bindsN (fun _ _ _ _ _ _ us hl => match us, hl with | [_], _ => rfl)) ?_ ?_
  · rintro vs H Q E ⟨v, d, rfl, _⟩
    rfl
  · rintro cdv A outer s H vs Q E hr ⟨v, d, rfl, hd, k1, k3, k4⟩
    refine ⟨_, (Mc.pss_mid (ps_if (pt_not (pt_val (pe_callB (Mc.call_isdT : CallR _ (.builtin "isinstance") (Mc.rIsdT K)) (by rfl) T.m_isinstance (by decide +kernel) (pa_cons (pv 0) (pa_cons (pe_tup (pa_cons (pe_bltn (v := .ty "list") (by rfl) T.m_list (by decide +kernel) rfl) (pa_cons (pe_bltn (v := .ty "tuple") (by rfl) T.m_tuple (by decide +kernel) rfl) pa_nil))) pa_nil))))) (pss_one (Mc.ps_raiseMe rfl T.me T.x_InvalidWires T.m_super T.g_InvalidWires (hr.mono (by decide) : Room 1 _) (takes_of rfl rfl rfl rfl) (by exact (pa_cons (pv 0) pa_nil)))) pss_nil)
      (pss_one (ps_for (passes_of rfl) rfl (Mc.pi_seq (pv 0) : PI _ _ _ (Mc.iSeq K _)) (pg_name (i := 1) sc_check_wires.nd rfl (Or.inl rfl))
      (pss_one (ps_if (pt_not (pt_val (Mc.pe_callR G_is_wire (hr.mono (by decide)) (by rfl) T.g_is_wire T.k_is_wire pass_no (pa_cons (pv 1) pa_nil)))) (pss_one (Mc.ps_raiseMe rfl T.me T.x_InvalidWires T.m_super T.g_InvalidWires (hr.mono (by decide) : Room 1 _) (takes_of rfl rfl rfl rfl) (by exact (pa_cons (pv 0) pa_nil)))) pss_nil))))), ?_⟩
    refine ⟨fun τ G => τ = [some v, none] ∧ Ext H G ∧ isSeqD d = true, ?_, ?_⟩
    · refine ⟨_, rfl, (by show 2 ≤ sizeLine; decide), fun tp htp => ⟨v, d, tp, "list", "tuple", _, _, rfl, upd_same, dq_ext (Ext.new htp) hd, kit_lst d, kit_tup d, _, rfl, ?_⟩⟩
      have e : (isLst d || isTup d) = isSeqD d := by cases d <;> rfl
      rw [e]
      cases c : isSeqD d with
      | false => exact iteT ⟨_, rfl, _, rfl, fun q hq => k1 c _ q (Ext.new htp) hq⟩
      | true => exact iteF ⟨rfl, Ext.new htp, rfl⟩
    rintro _ G1 ⟨rfl, hE1, c1⟩
    obtain ⟨a, xs, rfl, hs, hall⟩ := dq_seq hd c1
    have hl := dpAll_len hall
    refine ⟨_, rfl, a, xs, H, rfl, hs, hE1, fun J G w hG => for_it w (fun i σ G' => ∃ y, σ = [some (.ref a), y] ∧ G' = G1 ∧ ((itemsD d).take i).all isWireD = true) ⟨_, rfl, rfl, rfl⟩ (fun i σ G' _ ⟨_, _, e, _⟩ => hG _ (e ▸ hE1)) ?_ ?_⟩
    · rintro i x σ G2 G3 hi ⟨y, rfl, rfl, hall2⟩ ⟨rfl, hx⟩
      obtain ⟨dx, hdx, hp⟩ := dpAll_get hall i x hx
      refine ⟨_, rfl, x, dx, rfl, .dp (dp_ext hE1 _ _ hp), _, rfl, ?_⟩
      cases c : isWireD dx with
      | false => exact iteT ⟨_, rfl, _, rfl, fun q hq => k3 c1 (all_get hdx c) _ q hE1 hq⟩
      | true =>
        refine iteF ⟨_, rfl, rfl, ?_⟩
        rw [all_take_succ hdx, hall2, c]
        rfl
    · rintro σ G2 ⟨y, rfl, rfl, hall2⟩
      rw [hl, List.take_length] at hall2
      exact k4 c1 hall2 _ hE1
/-- a number of ends, of loops -/
def endsOk : PyData → Bool
  | .int i => decide (0 ≤ i) && decide (i ≤ 12)
  | _ => false
def loopsOk : PyData → Bool
  | .int i => decide (0 ≤ i)
  | _ => false
def spCheckCounts (K : PySem.W.Frag) : Sp := fun vs H Q E => ∃ (v u : V) (d e : PyData), vs = [v, u] ∧ Dq K H v d ∧ Dq K H u e ∧ (endsOk d = false → Rz K H E "InvalidNumber" v) ∧ (endsOk d = true → loopsOk e = false → Rz K H E "InvalidNumber" u) ∧
  (endsOk d = true → loopsOk e = true → Q .non H)
theorem ok_check_counts (T : Txt P w K mg) : FnR P w K mg base (L2.CX P w) 3 (He.ga K "check_counts") (spCheckCounts K) := by
  have G_is_integer := ok_is_integer (base := base) T
  obtain ⟨fd, F⟩ := T.f_check_counts
  refine fnR_body F sc_check_counts (F.bindsN (fun _ _ _ _ _ _ us hl => match us, hl with | [_, _], _ => rfl)) ?_ ?_
  · rintro vs H Q E ⟨v, u, d, e, rfl, _⟩
    rfl
  · rintro cdv A outer s H vs Q E hr ⟨v, u, d, e, rfl, hd, he, k1, k2, k3⟩
    refine ⟨_, (Mc.pss_mid (ps_if (PW.pt (pw_or (pt_not (pt_val (Mc.pe_callR G_is_integer (hr.mono (by decide)) (by rfl) T.g_is_integer T.k_is_integer pass_no (pa_cons (pv 0) pa_nil)))) (pw_or1 (pt_not (pt_chain op_le op_le pe_int (pv 0) (pe_glob (v := .int 12) (by rfl) T.i_MOST_ENDS.choose_spec ⟨_, rfl⟩)))))) (pss_one (Mc.ps_raiseMe rfl T.me T.x_InvalidNumber T.m_super T.g_InvalidNumber (hr.mono (by decide) : Room 1 _) (takes_of rfl rfl rfl rfl) (by exact (pa_cons (pv 0) pa_nil)))) pss_nil)
      (pss_one (ps_if (PW.pt (pw_or (pt_not (pt_val (Mc.pe_callR G_is_integer (hr.mono (by decide)) (by rfl) T.g_is_integer T.k_is_integer pass_no (pa_cons (pv 1) pa_nil)))) (pw_or1 (pt_cmpR op_lt (pv 1) pe_int (nomark _))))) (pss_one (Mc.ps_raiseMe rfl T.me T.x_InvalidNumber T.m_super T.g_InvalidNumber (hr.mono (by decide) : Room 1 _) (takes_of rfl rfl rfl rfl) (by exact (pa_cons (pv 1) pa_nil)))) pss_nil))), ?_⟩
    refine ⟨fun τ G => τ = [some v, some u] ∧ G = H ∧ endsOk d = true, ?_, ?_⟩
    · refine ⟨_, rfl, v, d, rfl, hd, _, rfl, ?_⟩
      cases d with
      | int i =>
        obtain rfl := dq_int hd
        refine iteF ⟨_, rfl, _, _, rfl, rfl, _, rfl, ?_⟩
        by_cases c : 0 ≤ i
        · rw [decide_eq_true c]
          refine iteT ⟨_, _, rfl, rfl, _, rfl, ?_⟩
          by_cases c2 : i ≤ 12
          · rw [decide_eq_true c2]
            refine iteF ⟨rfl, rfl, ?_⟩
            show (decide (0 ≤ i) && decide (i ≤ 12)) = true
            rw [decide_eq_true c, decide_eq_true c2]
            rfl
          · rw [decide_eq_false c2]
            refine iteT ⟨_, rfl, _, rfl, fun q hq => k1 ?_ _ q (Ext.refl _) hq⟩
            show (decide (0 ≤ i) && decide (i ≤ 12)) = false
            rw [decide_eq_false c2, Bool.and_false]
        · rw [decide_eq_false c]
          refine iteF ⟨_, rfl, iteT ⟨_, rfl, _, rfl, fun q hq => k1 ?_ _ q (Ext.refl _) hq⟩⟩
          show (decide (0 ≤ i) && decide (i ≤ 12)) = false
          rw [decide_eq_false c]
          rfl
      | _ => exact iteT (iteT ⟨_, rfl, _, rfl, fun q hq => k1 rfl _ q (Ext.refl _) hq⟩)
    rintro _ _ ⟨rfl, rfl, c1⟩
    refine ⟨_, rfl, u, e, rfl, he, _, rfl, ?_⟩
    cases e with
    | int i =>
      obtain rfl := dq_int he
      refine iteF ⟨_, rfl, _, _, rfl, rfl, _, rfl, ?_⟩
      by_cases c : i < 0
      · rw [decide_eq_true c]
        exact iteT ⟨_, rfl, _, rfl, fun q hq => k2 c1 (decide_eq_false (by omega)) _ q (Ext.refl _) hq⟩
      · rw [decide_eq_false c]
        exact iteF (k3 c1 (decide_eq_true (by omega)))
    | _ => exact iteT (iteT ⟨_, rfl, _, rfl, fun q hq => k2 c1 rfl _ q (Ext.refl _) hq⟩)
end Me
namespace Me
open PySem PySem.Spec PyProof.Rows L2 Mc
variable {P : Program} {w : World} {K : PySem.W.Frag} {mg : Str → Option Value} {base : Heap}
/-! ### ports -/
theorem strs_get {kd : List Str} {i : Nat} {x : V} (hx : (kd.map V.str)[i]? = some x) : ∃ c, kd[i]? = some c ∧ x = .str c := by
  rw [List.getElem?_map] at hx
  cases e : kd[i]? with
  | none =>
    rw [e] at hx
    cases hx
  | some c =>
    rw [e] at hx
    exact ⟨c, rfl, (Option.some.inj hx).symm⟩
def spPorts (K : PySem.W.Frag) : Sp := fun vs H Q _ => ∃ (ka : Addr) (kd : List Str) (ends : Nat), vs = [.ref ka, .int (ends : Int)] ∧ SqS K H ka (kd.map V.str) ∧ (∀ x ∈ kd, KindS x) ∧ ends ≤ 12 ∧ kd.length ≤ 1000 ∧
  ∀ p xs H', H p = none → H' p = some (.lst xs) → Paired (PV H') xs (portsL kd ends) → Ext H H' → Q (.ref p) H'
theorem ok_all_ports (T : Txt P w K mg) : FnR P w K mg base (L2.CX P w) 1 (He.ga K "all_ports") (spPorts K) := by
  obtain ⟨fd, F⟩ := T.f_all_ports
  refine fnR_body F sc_all_ports (F.bindsN (fun _ _ _ _ _ _ us hl => match us, hl with | [_, _], _ => rfl)) ?_ ?_
  · rintro vs H Q E ⟨ka, kd, ends, rfl, _⟩
    rfl
  · rintro cdv A outer s H vs Q E hr ⟨ka, kd, ends, rfl, hk, hkd, he, hl, q⟩
    refine ⟨_, (PSs.nox (Mc.pss_mid (ps_setLc (i := 2) (own := [("end", 5)]) rfl sc_all_ports.nd rfl rfl (sw_true rfl rfl rfl (by decide +kernel)) (pi_range1 (by rfl) T.m_range (pa_cons (pv 1) pa_nil)) (blkOk_by (own := [("end", 5)]) (N := N_all_ports) (sc := defScope s_all_ports) (by decide +kernel)) (fun _ _ _ _ _ => (pg_name (i := 5) sc_all_ports.nd rfl (Or.inl rfl))) (fun _ _ _ _ _ => pts_nil) (fun _ _ _ _ _ => (pe_tup (pa_cons (pe_un un_neg pe_int) (pa_cons (pv 5) pa_nil)))))
      (Mc.pss_mid (ps_for PassesOwn.never rfl (Mc.pi_enumS (by rfl) T.m_enumerate (pa_cons (pv 0) pa_nil) : PI _ _ _ (Mc.iEnumS K _)) (pg_tup (by rfl) (pgs_cons (pg_name (i := 3) sc_all_ports.nd rfl (Or.inr rfl)) (pgs_cons (pg_name (i := 4) sc_all_ports.nd rfl (Or.inl rfl)) pgs_nil)) : PG _ _ (gTup K 2 (gCons (gName 3) (gCons (gName 4) gNil))))
      (pss_one (ps_set (i := 2) sc_all_ports.nd rfl (Or.inl rfl) (pe_op op_cat (pv 2) (pe_lc (own := [("number", 6)]) rfl sc_all_ports.nd (pi_range1 (by rfl) T.m_range (pa_cons (pe_ix (Mc.ix_kd T.kd_PORTS.choose_spec.choose_spec : IxR _ (Mc.rKd K (He.ga K "PORTS"))) (pe_glob (v := .ref (He.ga K "PORTS")) (by rfl) T.g_PORTS rfl) (pv 4) (fun _ _ => rfl)) pa_nil)) (blkOk_by (own := [("number", 6)]) (N := N_all_ports) (sc := defScope s_all_ports) (by decide +kernel)) (fun _ _ _ _ _ => (pg_name (i := 6) sc_all_ports.nd rfl (Or.inl rfl))) (fun _ _ _ _ _ => pts_nil) (fun _ _ _ _ _ => (pe_tup (pa_cons (pv 3) (pa_cons (pv 6) pa_nil)))))))))
      (pss_one (ps_ret (pv 2)))))), ?_⟩
    -- the ends
    refine ⟨fun τ G => ∃ p xs, τ = [some (.ref ka), some (.int (ends : Int)), some (.ref p), none, none, none, none] ∧ H p = none ∧ G p = some (.lst xs) ∧ Paired (PV G) xs (portsL (kd.take 0) ends) ∧ Ext H G, ?_, ?_⟩
    · refine ⟨_, rfl, _, rfl, by omega, by omega, fun p hp => lc_all walk_range PV pv_mono (fun (k : Nat) => ((-1 : Int), (k : Int))) hp (by omega) (fun _ _ => trivial) ?_ ?_⟩
      · rintro i x G G' Qe hi hE ⟨rfl, hx⟩ q'
        obtain rfl := rng0 hx
        exact ⟨rfl, _, rfl, _, rfl, (by show 2 ≤ sizeLine; decide), fun t ht => q' _ _ (Ext.new ht) ⟨t, rfl, upd_same⟩⟩
      · rintro zs G hz hP hE
        rw [Int.toNat_natCast] at hP
        refine ⟨p, zs, rfl, hp, hz, ?_, hE⟩
        simpa [portsL] using hP
    rintro _ G1 ⟨p, xs, rfl, hp, h1, hP1, hE1⟩
    -- the cells
    refine ⟨fun τ G => ∃ p xs y3 y4, τ = [some (.ref ka), some (.int (ends : Int)), some (.ref p), y3, y4, none, none] ∧ H p = none ∧ G p = some (.lst xs) ∧ Paired (PV G) xs (portsL kd ends) ∧ Ext H G, ?_, ?_⟩
    · refine ⟨_, rfl, ka, _, H, rfl, hk, hE1, fun J G' w hG => for_it w (fun i σ G => ∃ p xs y3 y4, σ = [some (.ref ka), some (.int (ends : Int)), some (.ref p), y3, y4, none, none] ∧ H p = none ∧ G p = some (.lst xs) ∧ Paired (PV G) xs (portsL (kd.take i) ends) ∧ Ext H G)
        ⟨p, xs, _, _, rfl, hp, h1, hP1, hE1⟩ (fun i σ G _ ⟨_, _, _, _, _, _, _, _, h⟩ => hG _ h) ?_ ?_⟩
      · rintro i x σ G2 G3 hi ⟨p, xs, y3, y4, rfl, hp, h2, hP2, hE2⟩ ⟨t, a, b, rfl, ht, rfl, ha, hb⟩
        obtain ⟨c, hc, rfl⟩ := strs_get hb
        obtain rfl := Option.some.inj ha
        obtain ⟨u0, e0, r0⟩ := ports_val T (hkd _ (List.mem_of_getElem? hc))
        have hE3 := hE2.trans (Ext.new (o := .tup [.int (i : Nat), .str c]) ht)
        have a3 := arS_le c
        refine ⟨t, _, rfl, .inl (.inl upd_same), rfl, _, _, rfl, _, _, rfl, rfl, ?_⟩
        refine ⟨_, rfl, _, rfl, c, u0, .int (arS c : Int), rfl, rfl, e0, r0, _, rfl, by omega, by omega, fun D hD => ?_⟩
        refine lc_all walk_range PV pv_mono (fun (k : Nat) => ((i : Int), (k : Int))) hD (by omega) (fun _ _ => trivial) ?_ ?_
        · rintro j x G G' Qe hj hE ⟨rfl, hx⟩ q'
          obtain rfl := rng0 hx
          exact ⟨rfl, _, rfl, _, rfl, (by show 2 ≤ sizeLine; decide), fun t ht => q' _ _ (Ext.new ht) ⟨t, rfl, upd_same⟩⟩
        · rintro zs G hz hP hE
          rw [Int.toNat_natCast] at hP
          have h4 := hE _ _ (Ext.new (o := .tup [.int (i : Nat), .str c]) ht _ _ h2)
          have hl1 := Paired.length hP2
          have hl2 := Paired.length hP
          have hl3 := portsL_len (kd.take i) ends
          rw [List.length_take] at hl3
          rw [List.length_map, List.length_range] at hl2
          refine ⟨p, D, xs, zs, rfl, rfl, h4, hz, sze (by omega), fun p2 hp2 => ⟨p2, xs ++ zs, _, _, rfl, hE3.fresh (hE.fresh hp2), upd_same, ?_, (hE3.trans hE).trans (Ext.new hp2)⟩⟩
          rw [portsL_take hc]
          exact paired_append (pv_mono.paired (((Ext.new ht).trans hE).trans (Ext.new hp2)).t hP2) (pv_mono.paired (Ext.new hp2).t hP)
      · rintro σ G2 ⟨p, xs, y3, y4, rfl, hp, h2, hP2, hE2⟩
        rw [List.length_map, List.take_length] at hP2
        exact ⟨p, xs, y3, y4, rfl, hp, h2, hP2, hE2⟩
    rintro _ G2 ⟨p, xs, y3, y4, rfl, hp, h2, hP2, hE2⟩
    exact ⟨_, rfl, q p xs G2 hp h2 hP2 hE2⟩
abbrev WiresAt (H : Hp) : List V → List (Port × Port) → Prop := Paired (WV H)
def spLinked (K : PySem.W.Frag) : Sp := fun vs H Q _ => ∃ (ka wa : Addr) (kd : List Str) (ends : Nat) (xs : List V) (ws : List (Port × Port)), vs = [.ref ka, .ref wa, .int (ends : Int)] ∧ SqS K H ka (kd.map V.str) ∧ (∀ x ∈ kd, KindS x) ∧ ends ≤ 12 ∧ kd.length ≤ 1000 ∧
  SqS K H wa xs ∧ WiresAt H xs ws ∧ (∀ e ∈ ws, e.1 ≠ e.2) ∧
  (linkF (portsL kd ends) [] ws = none → ∀ H', Ext H H' → Q .non H') ∧ (∀ es, linkF (portsL kd ends) [] ws = some es → ∀ p kvs H', H p = none → H' p = some (.dT kvs) → LinksAt H' kvs es → Ext H H' → Q (.ref p) H')
theorem ok_linked (T : Txt P w K mg) : FnR P w K mg base (L2.CX P w) 2 (He.ga K "linked") (spLinked K) := by
  have G_all_ports := ok_all_ports (base := base) T
  obtain ⟨fd, F⟩ := T.f_linked
  refine fnR_body F sc_linked (F.bindsN (fun _ _ _ _ _ _ us hl => match us, hl with | [_, _, _], _ => rfl)) ?_ ?_
  · rintro vs H Q E ⟨ka, wa, kd, ends, xs, ws, rfl, _⟩
    rfl
  · rintro cdv A outer s H vs Q E hr ⟨ka, wa, kd, ends, xs, ws, rfl, hk, hkd, he, hl, hw, hws, hne, q1, q2⟩
    refine ⟨_, (PSs.nox (Mc.pss_mid (Mc.ps_setDcSelf (i := 3) rfl sc_linked.nd rfl rfl (Mc.sw_trueD rfl rfl rfl (by decide +kernel)) (hu_of hr) (Mc.pe_callR G_all_ports (hr.mono (by decide)) (by rfl) T.g_all_ports T.k_all_ports pass_no (pa_cons (pv 0) (pa_cons (pv 2) pa_nil))) rfl (by decide +kernel) (by decide +kernel) (by decide +kernel) (by decide +kernel))
      (Mc.pss_mid (ps_set (i := 4) sc_linked.nd rfl (Or.inl rfl) pe_dnewT)
      (Mc.pss_mid (ps_for PassesOwn.never rfl (Mc.pi_seq (pv 1) : PI _ _ _ (Mc.iSeq K _)) (pg_tup (by rfl) (pgs_cons (pg_name (i := 5) sc_linked.nd rfl (Or.inl rfl)) (pgs_cons (pg_name (i := 6) sc_linked.nd rfl (Or.inl rfl)) pgs_nil)) : PG _ _ (gTup K 2 (gCons (gName 5) (gCons (gName 6) gNil))))
      (Mc.pss_mid (ps_if (PW.pt (pw_or (pt_cmp (pc_din (hu_of hr) (pv 5) (pv 4))) (pw_or (pt_cmp (pc_din (hu_of hr) (pv 6) (pv 4))) (pw_or (pt_cmp (pc_dnotin (hu_of hr) (pv 5) (pv 3))) (pw_or1 (pt_cmp (pc_dnotin (hu_of hr) (pv 6) (pv 3)))))))) (pss_one (ps_ret pe_non)) pss_nil)
      (Mc.pss_mid (ps_dput (hu_of hr) (pv 4) (pv 5) (pv 6) rfl)
      (pss_one (ps_dput (hu_of hr) (pv 4) (pv 6) (pv 5) rfl)))))
      (pss_one (ps_ret (pe_ifExp (pt_cmpR op_eq (pe_callB call_len_dT (by rfl) T.m_len (by decide +kernel) (pa_cons (pv 4) pa_nil)) (pe_callB call_len_dT (by rfl) T.m_len (by decide +kernel) (pa_cons (pv 3) pa_nil)) (nomark _)) (pv 4) pe_non))))))), ?_⟩
    have dn := portsL_nodup kd ends
    have dl := portsL_len kd ends
    generalize hdue : portsL kd ends = due at q1 q2 dn dl
    -- due
    refine ⟨fun τ G => ∃ d, τ = [some (.ref ka), some (.ref wa), some (.int (ends : Int)), some (.ref d), none, none, none, none] ∧ H d = none ∧ G d = some (.dT (allT (due.map kP))) ∧ Ext H G, ?_, ?_⟩
    · refine ⟨_, rfl, _, rfl, ka, kd, ends, rfl, hk, hkd, he, hl, fun p xs' H' hp h1 hP hE => ⟨p, xs', _, rfl, SqL.of h1, pv_keys (by rw [hdue] at hP; exact hP), fun d hd => ⟨d, rfl, hE.fresh hd, upd_same, hE.trans (Ext.new hd)⟩⟩⟩
    rintro _ G1 ⟨d, rfl, hd, h1, hE1⟩
    -- across
    refine ⟨fun τ G => ∃ a, τ = [some (.ref ka), some (.ref wa), some (.int (ends : Int)), some (.ref d), some (.ref a), none, none, none] ∧ d ≠ a ∧ H a = none ∧ G d = some (.dT (allT (due.map kP))) ∧ G a = some (.dT []) ∧ Ext H G, ?_, ?_⟩
    · exact fun a ha => ⟨a, rfl, ne_of_none h1 ha, hE1.fresh ha, (upd_ne (ne_of_none h1 ha)).trans h1, upd_same, hE1.trans (Ext.new ha)⟩
    rintro _ G2 ⟨a, rfl, hda, ha, h2d, h2, hE2⟩
    -- the wires
    refine ⟨fun τ G => ∃ y5 y6 kvs acc, τ = [some (.ref ka), some (.ref wa), some (.int (ends : Int)), some (.ref d), some (.ref a), y5, y6, none] ∧ G d = some (.dT (allT (due.map kP))) ∧ G a = some (.dT kvs) ∧ LinksAt G kvs acc ∧ linkF due [] ws = linkF due acc [] ∧ Ext H G, ?_, ?_⟩
    · refine ⟨_, rfl, wa, xs, H, rfl, hw, hE2, fun J G' w hG => for_it w (fun i σ G => ∃ y5 y6 kvs acc, σ = [some (.ref ka), some (.ref wa), some (.int (ends : Int)), some (.ref d), some (.ref a), y5, y6, none] ∧ G d = some (.dT (allT (due.map kP))) ∧ G a = some (.dT kvs) ∧ LinksAt G kvs acc ∧
          (acc.map Prod.fst).Nodup ∧ (∀ p ∈ acc.map Prod.fst, p ∈ due) ∧ linkF due [] ws = linkF due acc (ws.drop i) ∧ Ext H G)
        ⟨_, _, [], [], rfl, h2d, h2, .nil, List.nodup_nil, (fun _ h => nomatch h), rfl, hE2⟩ (fun i σ G _ ⟨_, _, _, _, _, _, _, _, _, _, _, h⟩ => hG _ h) ?_ ?_⟩
      · rintro i x σ G3 G4 hi ⟨y5, y6, kvs, acc, rfl, h4d, h4, hL, hnd, hsub, hlf, hE4⟩ ⟨rfl, hx⟩
        obtain ⟨⟨p, r⟩, hpr, t, pa, ra, rfl, ht, hp, hr'⟩ := paired_get hws i x hx
        have hdr : ws.drop i = (p, r) :: ws.drop (i + 1) := by
          have hi2 : i < ws.length := (List.getElem?_eq_some_iff.mp hpr).1
          rw [List.drop_eq_getElem_cons hi2]
          have := (List.getElem?_eq_some_iff.mp hpr).2
          rw [this]
        have hlen : acc.length ≤ due.length := by
          have := len_of_sub hnd hsub
          rwa [List.length_map] at this
        have hkl : kvs.length = acc.length := Paired.length hL
        have hpr2 : p ≠ r := hne (p, r) (List.mem_of_getElem? hpr)
        rw [hdr] at hlf
        refine ⟨t, _, rfl, .inl (.inl (hE4 _ _ ht)), rfl, _, _, rfl, _, _, rfl, rfl, ?_⟩
        -- the test
        have gA : ∀ {b : Addr} {u : Port}, G4 b = some (.tup (vP u)) → DGet G4 a (.ref b) (valV kvs (kP u)) := fun {b u} h => .inr ⟨kvs, kP u, b, .inl h4, rfl, h, rfl⟩
        have gD : ∀ {b : Addr} {u : Port}, G4 b = some (.tup (vP u)) → DGet G4 d (.ref b) (valV (allT (due.map kP)) (kP u)) := fun {b u} h => .inr ⟨_, kP u, b, .inl h4d, rfl, h, rfl⟩
        have hp4 := hE4 _ _ hp
        have hr4 := hE4 _ _ hr'
        have no : (p ∈ acc.map Prod.fst ∨ r ∈ acc.map Prod.fst ∨ p ∉ due ∨ r ∉ due) → Q .non G4 := fun z => q1 (by rw [hlf]; unfold linkF; rw [if_pos z]) G4 hE4
        refine ⟨fun τ G => τ = [some (.ref ka), some (.ref wa), some (.int (ends : Int)), some (.ref d), some (.ref a), some (.ref pa), some (.ref ra), none] ∧ G = G4 ∧ p ∉ acc.map Prod.fst ∧ r ∉ acc.map Prod.fst ∧ p ∈ due ∧ r ∈ due, ?_, ?_⟩
        · refine ⟨_, rfl, _, rfl, a, _, rfl, gA hp4, _, rfl, ?_⟩
          rw [links_some hL]
          by_cases c1 : p ∈ acc.map Prod.fst
          · rw [decide_eq_true c1]
            exact iteT (iteT (no (.inl c1)))
          rw [decide_eq_false c1]
          refine iteF ⟨_, rfl, _, rfl, a, _, rfl, gA hr4, _, rfl, ?_⟩
          rw [links_some hL]
          by_cases c2 : r ∈ acc.map Prod.fst
          · rw [decide_eq_true c2]
            exact iteT (iteT (no (.inr (.inl c2))))
          rw [decide_eq_false c2]
          refine iteF ⟨_, rfl, _, rfl, d, _, rfl, gD hp4, _, rfl, ?_⟩
          rw [allT_port]
          by_cases c3 : p ∉ due
          · rw [decide_eq_false c3]
            exact iteT (iteT (no (.inr (.inr (.inl c3)))))
          replace c3 := Classical.not_not.mp c3
          rw [decide_eq_true c3]
          refine iteF ⟨_, rfl, _, rfl, d, _, rfl, gD hr4, _, rfl, ?_⟩
          rw [allT_port]
          by_cases c4 : r ∉ due
          · rw [decide_eq_false c4]
            exact iteT (no (.inr (.inr (.inr c4))))
          replace c4 := Classical.not_not.mp c4
          rw [decide_eq_true c4]
          exact iteF ⟨rfl, rfl, c1, c2, c3, c4⟩
        rintro _ G4 ⟨rfl, rfl, c1, c2, c3, c4⟩
        have hlf2 : linkF due [] ws = linkF due (acc ++ [(p, r)] ++ [(r, p)]) (ws.drop (i + 1)) := by
          rw [hlf]
          conv => lhs; unfold linkF
          rw [if_neg]
          simp only [not_or, Classical.not_not]
          exact ⟨c1, c2, c3, c4⟩
        have m1 : (acc ++ [(p, r)]).map Prod.fst = acc.map Prod.fst ++ [p] := by simp
        have n1 : ((acc ++ [(p, r)]).map Prod.fst).Nodup := by
          rw [m1]
          refine List.nodup_append.mpr ⟨hnd, List.pairwise_singleton _ _, fun u hu v hv => ?_⟩
          rw [List.mem_singleton.mp hv]
          rintro rfl
          exact c1 hu
        have c5 : r ∉ (acc ++ [(p, r)]).map Prod.fst := by
          rw [m1]
          intro z
          rcases List.mem_append.mp z with z | z
          · exact c2 z
          · exact hpr2 (List.mem_singleton.mp z).symm
        have s1 : ∀ u ∈ (acc ++ [(p, r)]).map Prod.fst, u ∈ due := fun u hu => by
          rw [m1] at hu
          rcases List.mem_append.mp hu with hu | hu
          · exact hsub u hu
          · rw [List.mem_singleton.mp hu]
            exact c3
        -- across[one]
        refine ⟨fun τ G => ∃ kvs2, τ = [some (.ref ka), some (.ref wa), some (.int (ends : Int)), some (.ref d), some (.ref a), some (.ref pa), some (.ref ra), none] ∧ G d = some (.dT (allT (due.map kP))) ∧ G a = some (.dT kvs2) ∧ LinksAt G kvs2 (acc ++ [(p, r)]) ∧ kvs2.length = acc.length + 1 ∧ Ext H G, ?_, ?_⟩
        · refine ⟨_, rfl, _, rfl, _, rfl, a, _, rfl, .inr ⟨kvs, kP p, pa, h4, rfl, hp4, szl (by omega), rfl⟩, ?_⟩
          have t : TExt G4 (upd G4 a (.dT (putK kvs (kP p) (.ref ra)))) := TExt.put h4 fun z => z
          have L := links_snoc (links_ext hL t) c1 (⟨ra, rfl, t _ _ hr4 trivial⟩ : PV _ (.ref ra) r)
          exact ⟨_, rfl, (upd_ne hda).trans h4d, upd_same, L, by rw [Paired.length L]; simp, keepH hE4 ha⟩
        rintro _ G5 ⟨kvs2, rfl, h5d, h5, hL5, hl5, hE5⟩
        refine ⟨_, rfl, _, rfl, _, rfl, a, _, rfl, .inr ⟨kvs2, kP r, ra, h5, rfl, hE5 _ _ hr', szl (by omega), rfl⟩, ?_⟩
        have t : TExt G5 (upd G5 a (.dT (putK kvs2 (kP r) (.ref pa)))) := TExt.put h5 fun z => z
        have L := links_snoc (links_ext hL5 t) c5 (⟨pa, rfl, t _ _ (hE5 _ _ hp) trivial⟩ : PV _ (.ref pa) p)
        refine ⟨_, _, _, _, rfl, (upd_ne hda).trans h5d, upd_same, L, ?_, ?_, hlf2, keepH hE5 ha⟩
        · rw [List.map_append]
          refine List.nodup_append.mpr ⟨n1, List.pairwise_singleton _ _, fun u hu v hv => ?_⟩
          have : v = r := by simpa using hv
          rw [this]
          rintro rfl
          exact c5 hu
        · intro u hu
          rw [List.map_append] at hu
          rcases List.mem_append.mp hu with hu | hu
          · exact s1 u hu
          · have : u = r := by simpa using hu
            rw [this]
            exact c4
      · rintro σ G3 ⟨y5, y6, kvs, acc, rfl, h3d, h3, hL, hnd, hsub, hlf, hE3⟩
        refine ⟨y5, y6, kvs, acc, rfl, h3d, h3, hL, ?_, hE3⟩
        have e : xs.length = ws.length := Paired.length hws
        rw [hlf, e, List.drop_length]
    rintro _ G3 ⟨y5, y6, kvs, acc, rfl, h3d, h3, hL, hlf, hE3⟩
    have hkl : kvs.length = acc.length := Paired.length hL
    refine ⟨_, rfl, a, _, rfl, h3, _, rfl, d, _, rfl, h3d, rfl, _, rfl, ?_⟩
    have hal : (allT (due.map kP)).length = due.length := allT_len_port dn
    have hlf2 : linkF due [] ws = if acc.length = due.length then some acc else none := by
      rw [hlf]
      rfl
    by_cases c : acc.length = due.length
    · rw [decide_eq_true (show V.int (kvs.length : Int) = V.int ((allT (due.map kP)).length : Int) by rw [hkl, hal, c])]
      rw [if_pos c] at hlf2
      exact iteT ⟨_, rfl, q2 acc hlf2 a kvs G3 ha h3 hL hE3⟩
    · rw [decide_eq_false (fun z => c (by have := V.int.inj z; rw [hkl, hal] at this; omega))]
      rw [if_neg c] at hlf2
      exact iteF (q1 hlf2 G3 hE3)
end Me
namespace Me
open PySem PySem.Spec PyProof.Rows L2 Mc
variable {P : Program} {w : World} {K : PySem.W.Frag} {mg : Str → Option Value} {base : Heap}
/-! ### the net that is made -/
/-- the new number of a cell -/
def plc (o : List Nat) (c : Int) : Int := if c < 0 then c else (o.idxOf c.toNat : Int)
def ren (o : List Nat) (p : Port) : Port := (plc o p.1, p.2)
def renE (o : List Nat) (e : Port × Port) : Port × Port := (ren o e.1, ren o e.2)
/-- a net's data: kinds, links in the order in which they are held, wires, ends, loops -/
structure NetD where
  kd : List Str
  es : List (Port × Port)
  ws : List (Port × Port)
  ends : Nat
  loops : Int
def mkN (kd : List Str) (ends : Nat) (loops : Int) (es : List (Port × Port)) : NetD :=
  ⟨(normF (mkG kd ends es)).map (mkG kd ends es).kind, es.map (renE (normF (mkG kd ends es))), wSort ((es.map (renE (normF (mkG kd ends es)))).filter fun e => pLt e.1 e.2), ends, loops⟩
/-- a net stands at x -/
def NetV (K : PySem.W.Frag) (H : Hp) (x : Addr) (N : NetD) : Prop := ∃ (dx kt lk wt : Addr) (kvs : List (List Key × V)) (xs : List V),
  H x = some (.ins (He.ga K "Net") dx [("kinds", .ref kt), ("links", .ref lk), ("wires", .ref wt), ("ends", .int (N.ends : Int)), ("loops", .int N.loops)]) ∧
  H kt = some (.tup (N.kd.map V.str)) ∧ H lk = some (.dT kvs) ∧ LinksAt H kvs N.es ∧ H wt = some (.tup xs) ∧ Paired (WV H) xs N.ws
theorem NetV.ext {H H' : Hp} {x : Addr} {N : NetD} (h : NetV K H x N) (e : Ext H H') : NetV K H' x N := by
  obtain ⟨dx, kt, lk, wt, kvs, xs, h1, h2, h3, h4, h5, h6⟩ := h
  exact ⟨dx, kt, lk, wt, kvs, xs, e _ _ h1, e _ _ h2, e _ _ h3, links_ext h4 e.t, e _ _ h5, wv_mono.paired e.t h6⟩
theorem place_get {o : List Nat} {n : Nat} (hp : o.Perm (List.range n)) {c : Int} (hc : c = -1 ∨ (0 ≤ c ∧ c < n)) : valV (((.inl (-1 : Int) : Key), V.int (-1)) :: plK o) (.inl c) = some (.int (plc o c)) := by
  rcases hc with rfl | ⟨h0, h1⟩
  · exact valV_pos rfl
  · rw [valV_neg (fun z => by have := Sum.inl.inj z; omega)]
    have hm : c.toNat ∈ o := hp.mem_iff.mpr (List.mem_range.mpr (by omega))
    have hn : o.Nodup := hp.nodup_iff.mpr List.nodup_range
    have := plK_get hn (idx_get (o := c) hm)
    rw [Int.toNat_of_nonneg h0] at this
    rw [this]
    unfold plc idx
    rw [if_neg (by omega)]
theorem plc_inj {o : List Nat} {n : Nat} (hp : o.Perm (List.range n)) {c d : Int} (hc : c = -1 ∨ (0 ≤ c ∧ c < n)) (hd : d = -1 ∨ (0 ≤ d ∧ d < n)) (h : plc o c = plc o d) : c = d := by
  unfold plc at h
  rcases hc with rfl | ⟨c0, c1⟩
  · rw [if_pos (by decide)] at h
    rcases hd with rfl | ⟨d0, d1⟩
    · rfl
    · rw [if_neg (by omega)] at h
      omega
  · rw [if_neg (show ¬ c < 0 by omega)] at h
    rcases hd with rfl | ⟨d0, d1⟩
    · rw [if_pos (by decide)] at h
      omega
    · rw [if_neg (show ¬ d < 0 by omega)] at h
      have hm : c.toNat ∈ o := hp.mem_iff.mpr (List.mem_range.mpr (by omega))
      have hm2 : d.toNat ∈ o := hp.mem_iff.mpr (List.mem_range.mpr (by omega))
      have e1 := idx_get (o := c) hm
      have e2 := idx_get (o := d) hm2
      unfold idx at e1 e2
      have h' : o.idxOf c.toNat = o.idxOf d.toNat := by omega
      rw [h'] at e1
      rw [e1] at e2
      have := Option.some.inj e2
      omega
theorem port_cell {kd : List Str} {ends : Nat} {p : Port} (h : isPort kd ends p) : p.1 = -1 ∨ (0 ≤ p.1 ∧ p.1 < kd.length) := by
  rcases h with ⟨h, _⟩ | ⟨h0, h1, _⟩
  · exact .inl h
  · exact .inr ⟨h0, h1⟩
theorem ren_inj {o : List Nat} {kd : List Str} {ends : Nat} (hp : o.Perm (List.range kd.length)) {p q : Port} (h1 : isPort kd ends p) (h2 : isPort kd ends q) (h : ren o p = ren o q) : p = q := by
  have e1 := congrArg Prod.fst h
  have e2 : (ren o p).2 = (ren o q).2 := congrArg Prod.snd h
  exact Prod.ext (plc_inj hp (port_cell h1) (port_cell h2) e1) e2
theorem map_nodup_on {α β : Type} {f : α → β} : ∀ {l : List α}, l.Nodup → (∀ a ∈ l, ∀ b ∈ l, f a = f b → a = b) → (l.map f).Nodup
  | [], _, _ => List.nodup_nil
  | a :: l, hn, hi => by
    rw [List.nodup_cons] at hn
    rw [List.map_cons, List.nodup_cons]
    refine ⟨fun z => ?_, map_nodup_on hn.2 fun x hx y hy => hi x (List.mem_cons_of_mem _ hx) y (List.mem_cons_of_mem _ hy)⟩
    obtain ⟨b, hb, e⟩ := List.mem_map.mp z
    have := hi b (List.mem_cons_of_mem _ hb) a List.mem_cons_self e
    subst this
    exact hn.1 hb
theorem renE_nodup {o : List Nat} {kd : List Str} {ends : Nat} (hp : o.Perm (List.range kd.length)) {es : List (Port × Port)} (hn : (es.map Prod.fst).Nodup) (hs : ∀ p ∈ es.map Prod.fst, isPort kd ends p) : ((es.map (renE o)).map Prod.fst).Nodup := by
  have e : (es.map (renE o)).map Prod.fst = (es.map Prod.fst).map (ren o) := by
    rw [List.map_map, List.map_map]
    rfl
  rw [e]
  exact map_nodup_on hn fun a ha b hb h => ren_inj hp (hs a ha) (hs b hb) h
def pick {α : Type} (f : α → Bool) (l : List α) (i : Nat) : Option α := (l[i]?).bind fun e => if f e = true then some e else none
theorem filterMap_filter {α : Type} (f : α → Bool) (l : List α) : (List.range l.length).filterMap (pick f l) = l.filter f := by
  have main : ∀ i, i ≤ l.length → (List.range i).filterMap (pick f l) = (l.take i).filter f := by
    intro i
    induction i with
    | zero => intro _; rfl
    | succ i ih =>
      intro hi
      have hx : l[i]? = some l[i] := List.getElem?_eq_getElem (by omega)
      rw [List.range_succ, List.filterMap_append, ih (by omega), take_snoc hx, List.filter_append]
      congr 1
      simp only [List.filterMap_cons, List.filterMap_nil, pick, hx, Option.bind_some, List.filter_cons, List.filter_nil]
      cases f l[i] <;> rfl
  rw [main l.length (Nat.le_refl _), List.take_length]
theorem kdK_snoc {kd : List Str} {ends : Nat} {es : List (Port × Port)} {i : Nat} {x : Str} (h : kd[i]? = some x) :
    putK ((List.range i).map fun (j : Nat) => ((.inl (j : Int) : Key), V.str ((mkG kd ends es).kind j))) (.inl (i : Int)) (.str x) = (List.range (i + 1)).map fun (j : Nat) => ((.inl (j : Int) : Key), V.str ((mkG kd ends es).kind j)) := by
  rw [putK_new, List.range_succ, List.map_append]
  · have : (mkG kd ends es).kind i = x := by
      unfold Gr.kind
      show kd.getD i "" = x
      rw [List.getD_eq_getElem?_getD, h]
      rfl
    simp [this]
  · cases e : valV ((List.range i).map fun (j : Nat) => ((.inl (j : Int) : Key), V.str ((mkG kd ends es).kind j))) (.inl (i : Int)) with
    | none => rfl
    | some v =>
      have := valV_in e
      rw [List.map_map] at this
      obtain ⟨j, hj, e2⟩ := List.mem_map.mp this
      have e3 : (Sum.inl (j : Int) : Key) = Sum.inl (i : Int) := e2
      have := Sum.inl.inj e3
      have := List.mem_range.mp hj
      omega
theorem pl_snoc {l : List Nat} {c : Nat} (h : c ∉ l) : putK (((.inl (-1 : Int) : Key), V.int (-1)) :: plK l) (.inl (c : Int)) (.int (l.length : Int)) = ((.inl (-1 : Int) : Key), V.int (-1)) :: plK (l ++ [c]) := by
  rw [putK_new]
  · rw [← plK_snoc h, putK_new _ (plK_not h)]
    rfl
  · rw [valV_neg (fun z => by have := Sum.inl.inj z; omega)]
    exact plK_not h
/-- what a net's arguments stand for -/
def NetArgs (K : PySem.W.Frag) (H : Hp) (v1 v2 v3 v4 : V) (kd : List Str) (ws : List (Port × Port)) (ends : Nat) (loops : Int) : Prop := ∃ (ka wa : Addr) (xs : List V), v1 = .ref ka ∧ SqS K H ka (kd.map V.str) ∧ (∀ x ∈ kd, KindS x) ∧ kd.length ≤ 1000 ∧
  v2 = .ref wa ∧ SqS K H wa xs ∧ WiresAt H xs ws ∧ (∀ e ∈ ws, e.1 ≠ e.2) ∧ v3 = .int (ends : Int) ∧ ends ≤ 12 ∧ v4 = .int loops
def spInit (K : PySem.W.Frag) : Sp := fun vs H Q E => ∃ (x dx : Addr) (v1 v2 v3 v4 : V) (d1 d2 d3 d4 : PyData), vs = [.ref x, v1, v2, v3, v4] ∧ H x = some (.ins (He.ga K "Net") dx []) ∧ Dq K H v1 d1 ∧ Dq K H v2 d2 ∧ Dq K H v3 d3 ∧ Dq K H v4 d4 ∧
  (isSeqD d1 = false → Rz K H E "InvalidKinds" v1) ∧ (isSeqD d1 = true → 1000 < (itemsD d1).length → Rz K H E "TooLarge" (.int ((itemsD d1).length : Int))) ∧ (isSeqD d1 = true → (itemsD d1).length ≤ 1000 → (itemsD d1).all isKind = false → Rz K H E "InvalidKinds" v1) ∧
  (isSeqD d1 = true → (itemsD d1).length ≤ 1000 → (itemsD d1).all isKind = true → (isSeqD d2 = false → Rz K H E "InvalidWires" v2) ∧ (isSeqD d2 = true → (itemsD d2).all isWireD = false → Rz K H E "InvalidWires" v2) ∧
    (isSeqD d2 = true → (itemsD d2).all isWireD = true → (endsOk d3 = false → Rz K H E "InvalidNumber" v3) ∧ (endsOk d3 = true → loopsOk d4 = false → Rz K H E "InvalidNumber" v4) ∧
      (endsOk d3 = true → loopsOk d4 = true → ∃ (kd : List Str) (ws : List (Port × Port)) (ends : Nat) (loops : Int), NetArgs K H v1 v2 v3 v4 kd ws ends loops ∧ (linkF (portsL kd ends) [] ws = none → Rz K H E "InvalidWires" v2) ∧
        ∀ es, linkF (portsL kd ends) [] ws = some es → ∀ H', NetV K H' x (mkN kd ends loops es) → XB [x] H H' → Q .non H')))
theorem fo_init {f : Addr} {fd : FuncData} {dvs : List V} {kws : List (Str × V)} (T : Txt P w K mg) (F : FunD K "__init__" "Net.__init__" (defArgs s_Net___init__) (defBody s_Net___init__) (defScope s_Net___init__) dvs kws f fd) :
    FnOk P w K mg base (L2.CX P w) 5 f fd ["self", "kinds", "wires", "ends", "loops"] (spInit K) := by
  have G_check_kinds := ok_check_kinds (base := base) T
  have G_check_wires := ok_check_wires (base := base) T
  have G_check_counts := ok_check_counts (base := base) T
  have G_linked := ok_linked (base := base) T
  have G_normal_order := ok_normal_order (base := base) T
  refine F.ok sc_Net___init__ ?_ ?_
  · rintro vs H Q E ⟨x, dx, v1, v2, v3, v4, d1, d2, d3, d4, rfl, _⟩
    rfl
  · rintro cdv A outer s H vs Q E hr ⟨x, dx, v1, v2, v3, v4, d1, d2, d3, d4, rfl, hx, hd1, hd2, hd3, hd4, k1, k2, k3, k4⟩
    refine ⟨_, (Mc.pss_mid (ps_expr (Mc.pe_callR G_check_kinds (hr.mono (by decide)) (by rfl) T.g_check_kinds T.k_check_kinds (fun σ => passAt (takes_of rfl rfl rfl rfl) σ) (pa_cons (pv 1) pa_nil)))
      (Mc.pss_mid (ps_expr (Mc.pe_callR G_check_wires (hr.mono (by decide)) (by rfl) T.g_check_wires T.k_check_wires (fun σ => passAt (takes_of rfl rfl rfl rfl) σ) (pa_cons (pv 2) pa_nil)))
      (Mc.pss_mid (ps_expr (Mc.pe_callR G_check_counts (hr.mono (by decide)) (by rfl) T.g_check_counts T.k_check_counts (fun σ => passAt (takes_of rfl rfl rfl rfl) σ) (pa_cons (pv 3) (pa_cons (pv 4) pa_nil))))
      (Mc.pss_mid (ps_set (i := 5) sc_Net___init__.nd rfl (Or.inl rfl) (Mc.pe_callR G_linked (hr.mono (by decide)) (by rfl) T.g_linked T.k_linked pass_no (pa_cons (pv 1) (pa_cons (pv 2) (pa_cons (pv 3) pa_nil)))))
      (Mc.pss_mid (ps_if (pt_cmpR op_isN (pv 5) pe_non (nomark _)) (pss_one (Mc.ps_raiseMe rfl T.me T.x_InvalidWires T.m_super T.g_InvalidWires (hr.mono (by decide) : Room 1 _) (takes_of rfl rfl rfl rfl) (by exact (pa_cons (pv 2) pa_nil)))) pss_nil)
      (Mc.pss_mid (Mc.ps_setDc (i := 6) (own := [("cell", 10), ("kind", 14)]) rfl sc_Net___init__.nd rfl rfl (Mc.sw_trueD rfl rfl rfl (by decide +kernel)) (Mc.pi_enumS (by rfl) T.m_enumerate (pa_cons (pv 1) pa_nil) : PI _ _ _ (Mc.iEnumS K _)) (blkOk_by (own := [("cell", 10), ("kind", 14)]) (N := N_Net___init__) (sc := defScope s_Net___init__) (by decide +kernel)) (fun _ _ _ _ _ => (pg_tup (by rfl) (pgs_cons (pg_name (i := 10) sc_Net___init__.nd rfl (Or.inl rfl)) (pgs_cons (pg_name (i := 14) sc_Net___init__.nd rfl (Or.inl rfl)) pgs_nil)) : PG _ _ (gTup K 2 (gCons (gName 10) (gCons (gName 14) gNil))))) (fun _ _ _ _ _ => pts_nil) (fun _ _ _ _ _ => (pv 10)) (fun _ _ _ _ _ => (pv 14)))
      (Mc.pss_mid (ps_set (i := 7) sc_Net___init__.nd rfl (Or.inl rfl) (Mc.pe_callR G_normal_order (hr.mono (by decide)) (by rfl) T.g_normal_order T.k_normal_order pass_no (pa_cons (pv 6) (pa_cons (pv 5) (pa_cons (pv 3) pa_nil)))))
      (Mc.pss_mid (ps_set (i := 8) sc_Net___init__.nd rfl (Or.inl rfl) (pe_disp (pps_cons (pe_un un_neg pe_int) (pe_un un_neg pe_int) pps_nil) (by rfl) (by rfl) (fun z => by cases z) (by decide)))
      (Mc.pss_mid (ps_for (passes_of rfl) rfl (pi_enum (by rfl) T.m_enumerate (pa_cons (pv 7) pa_nil) : PI _ _ _ (iEnum K _)) (pg_tup (by rfl) (pgs_cons (pg_name (i := 9) sc_Net___init__.nd rfl (Or.inl rfl)) (pgs_cons (pg_name (i := 10) sc_Net___init__.nd rfl (Or.inl rfl)) pgs_nil)) : PG _ _ (gTup K 2 (gCons (gName 9) (gCons (gName 10) gNil))))
      (pss_one (ps_dput (hu_of hr) (pv 8) (pv 10) (pv 9) rfl)))
      (Mc.pss_mid (ps_fld (pv 0) (pe_callTy (call_tuple_of : CallR _ (.type "tuple") (Mc.rTupleOf K)) (by rfl) T.m_tuple (by decide +kernel) (pa_cons (pe_lc (own := [("cell", 10)]) rfl sc_Net___init__.nd (pi_list (pv 7) : PI _ _ _ (iList K _)) (blkOk_by (own := [("cell", 10)]) (N := N_Net___init__) (sc := defScope s_Net___init__) (by decide +kernel)) (fun _ _ _ _ _ => (pg_name (i := 10) sc_Net___init__.nd rfl (Or.inl rfl))) (fun _ _ _ _ _ => pts_nil) (fun _ _ _ _ _ => (pe_ix (Mc.ix_seq : IxR _ (Mc.rIxS K)) (pv 1) (pv 10) (fun _ _ => rfl)))) pa_nil)) rfl)
      (Mc.pss_mid (ps_set (i := 11) sc_Net___init__.nd rfl (Or.inr rfl) pe_dnewT)
      (Mc.pss_mid (ps_lock (ps_for (passes_of rfl) rfl (pi_keys (pv 5)) (pg_tup (by rfl) (pgs_cons (pg_name (i := 10) sc_Net___init__.nd rfl (Or.inl rfl)) (pgs_cons (pg_name (i := 12) sc_Net___init__.nd rfl (Or.inl rfl)) pgs_nil)) : PG _ _ (gTup K 2 (gCons (gName 10) (gCons (gName 12) gNil))))
      (Mc.pss_mid (ps_set (i := 13) sc_Net___init__.nd rfl (Or.inl rfl) (pe_dget (hu_of hr) (pv 5) (pe_tup (pa_cons (pv 10) (pa_cons (pv 12) pa_nil))) (fun _ _ => rfl)))
      (pss_one (ps_dput (hu_of hr) (pv 11) (pe_tup (pa_cons (pe_dget (hu_of hr) (pv 8) (pv 10) (fun _ _ => rfl)) (pa_cons (pv 12) pa_nil))) (pe_tup (pa_cons (pe_dget (hu_of hr) (pv 8) (pe_ix (ix_tup : IxR _ (rIxT K)) (pv 13) pe_int (fun _ _ => rfl)) (fun _ _ => rfl)) (pa_cons (pe_ix (ix_tup : IxR _ (rIxT K)) (pv 13) pe_int (fun _ _ => rfl)) pa_nil))) rfl)))))
      (Mc.pss_mid (ps_fld (pv 0) (pv 11) rfl)
      (Mc.pss_mid (ps_fld (pv 0) (pe_callTy (call_tuple_of : CallR _ (.type "tuple") (Mc.rTupleOf K)) (by rfl) T.m_tuple (by decide +kernel) (pa_cons (pe_callB ((Mc.cr_sortedD hr.units) : CallR _ (.builtin "sorted") (Mc.rSortedD K)) (by rfl) T.m_sorted (by decide +kernel) (pa_cons (pe_lock (pe_lc (own := [("port", 15)]) rfl sc_Net___init__.nd (pi_keys (pv 11)) (blkOk_by (own := [("port", 15)]) (N := N_Net___init__) (sc := defScope s_Net___init__) (by decide +kernel)) (fun _ _ _ _ _ => (pg_name (i := 15) sc_Net___init__.nd rfl (Or.inl rfl))) (fun _ _ _ _ _ => (pts_one (pt_cmpR ((op_ltT hr.units0) : OpR _ _ (rLtT K)) (pv 15) (pe_dget (hu_of hr) (pv 11) (pv 15) (fun _ _ => rfl)) (nomark _)))) (fun _ _ _ _ _ => (pe_tup (pa_cons (pv 15) (pa_cons (pe_dget (hu_of hr) (pv 11) (pv 15) (fun _ _ => rfl)) pa_nil)))))) pa_nil)) pa_nil)) rfl)
      (Mc.pss_mid (ps_fld (pv 0) (pv 3) rfl)
      (pss_one (ps_fld (pv 0) (pv 4) rfl))))))))))))))))), ?_⟩
    -- the checks
    refine ⟨fun τ G => τ = [some (.ref x), some v1, some v2, some v3, some v4, none, none, none, none, none, none, none, none, none, none, none] ∧ Ext H G ∧ isSeqD d1 = true ∧ (itemsD d1).length ≤ 1000 ∧ (itemsD d1).all isKind = true, ⟨_, rfl, v1, d1, rfl, hd1, k1, k2, k3, fun c1 c2 c3 H' e => ⟨rfl, e, c1, c2, c3⟩⟩, ?_⟩
    rintro _ G1 ⟨rfl, hE1, c1, c2, c3⟩
    obtain ⟨k5, k6, k7⟩ := k4 c1 c2 c3
    refine ⟨fun τ G => τ = [some (.ref x), some v1, some v2, some v3, some v4, none, none, none, none, none, none, none, none, none, none, none] ∧ Ext H G ∧ isSeqD d2 = true ∧ (itemsD d2).all isWireD = true, ⟨_, rfl, v2, d2, rfl, dq_ext hE1 hd2, fun z => (k5 z).ext hE1, fun z z2 => (k6 z z2).ext hE1, fun c1 c2 H' e => ⟨rfl, hE1.trans e, c1, c2⟩⟩, ?_⟩
    rintro _ G2 ⟨rfl, hE2, c4, c5⟩
    obtain ⟨k8, k9, k10⟩ := k7 c4 c5
    refine ⟨fun τ G => τ = [some (.ref x), some v1, some v2, some v3, some v4, none, none, none, none, none, none, none, none, none, none, none] ∧ G = G2 ∧ endsOk d3 = true ∧ loopsOk d4 = true, ⟨_, rfl, _, rfl, v3, v4, d3, d4, rfl, dq_ext hE2 hd3, dq_ext hE2 hd4, fun z => (k8 z).ext hE2, fun z z2 => (k9 z z2).ext hE2, fun c1 c2 => ⟨rfl, rfl, c1, c2⟩⟩, ?_⟩
    rintro _ G2 ⟨rfl, rfl, c6, c7⟩
    obtain ⟨kd, ws, ends, loops, ⟨ka, wa, xs, rfl, hka, hkd, hkl, rfl, hwa, hws, hne, rfl, hen, rfl⟩, q1, q2⟩ := k10 c6 c7
    -- across
    refine ⟨fun τ G => ∃ v5, τ = [some (.ref x), some (.ref ka), some (.ref wa), some (.int (ends : Int)), some (.int loops), some v5, none, none, none, none, none, none, none, none, none, none] ∧ Ext H G ∧ ((linkF (portsL kd ends) [] ws = none ∧ v5 = .non) ∨ ∃ es a kvs, linkF (portsL kd ends) [] ws = some es ∧ v5 = .ref a ∧ H a = none ∧ G a = some (.dT kvs) ∧ LinksAt G kvs es), ?_, ?_⟩
    · exact ⟨_, rfl, _, rfl, _, rfl, ka, wa, kd, ends, xs, ws, rfl, hE2.sqS hka, hkd, hen, hkl, hE2.sqS hwa, wv_mono.paired hE2.t hws, hne, fun z H' e => ⟨_, rfl, hE2.trans e, .inl ⟨z, rfl⟩⟩, fun es z p kvs H' hp h1 h2 e => ⟨_, rfl, hE2.trans e, .inr ⟨es, p, kvs, z, rfl, hE2.fresh hp, h1, h2⟩⟩⟩
    rintro _ G3 ⟨v5, rfl, hE3, h3⟩
    refine ⟨fun τ G => ∃ es a kvs, τ = [some (.ref x), some (.ref ka), some (.ref wa), some (.int (ends : Int)), some (.int loops), some (.ref a), none, none, none, none, none, none, none, none, none, none] ∧ G = G3 ∧ linkF (portsL kd ends) [] ws = some es ∧ H a = none ∧ G a = some (.dT kvs) ∧ LinksAt G kvs es, ?_, ?_⟩
    · rcases h3 with ⟨z, rfl⟩ | ⟨es, a, kvs, z, rfl, h3a, h3b, h3c⟩
      · exact ⟨_, rfl, rfl, _, rfl, iteT ⟨_, rfl, _, rfl, fun q hq => q1 z _ q hE3 hq⟩⟩
      · exact ⟨_, rfl, rfl, _, rfl, iteF ⟨es, a, kvs, rfl, rfl, z, h3a, h3b, h3c⟩⟩
    rintro _ G3 ⟨es, a, kvs, rfl, rfl, hlf, hHa, h3a, hL⟩
    have q3 := q2 es hlf
    obtain ⟨rfl, fit⟩ := linkF_fits (portsL_nodup kd ends) hne hlf
    have ok := mkG_ok hkd hkl hen hne fit
    have hnd : ((linksOf ws).map Prod.fst).Nodup := (fit.perm.nodup_iff).mpr (portsL_nodup kd ends)
    have hkeys : ∀ p ∈ (linksOf ws).map Prod.fst, isPort kd ends p := fun p hp => mem_portsL.mp (fit.perm.mem_iff.mp hp)
    have hlen : (linksOf ws).length ≤ 3100 := by
      have h1 := fit.perm.length_eq
      have h2 := portsL_len kd ends
      rw [List.length_map] at h1
      omega
    have hvals : ∀ e ∈ linksOf ws, isPort kd ends e.2 := fun e he => hkeys _ (List.mem_map.mpr ⟨(e.2, e.1), linksOf_sym he, rfl⟩)
    have hac : ∀ e ∈ linksOf ws, (mkG kd ends (linksOf ws)).ac e.1 = e.2 := fun e h => acOf_mem hnd h
    have hmk : mkN kd ends loops (linksOf ws) = ⟨(normF (mkG kd ends (linksOf ws))).map (mkG kd ends (linksOf ws)).kind, (linksOf ws).map (renE (normF (mkG kd ends (linksOf ws)))), wSort (((linksOf ws).map (renE (normF (mkG kd ends (linksOf ws))))).filter fun e => pLt e.1 e.2), ends, loops⟩ := rfl
    rw [hmk] at q3
    clear q2 hmk
    generalize hG : mkG kd ends (linksOf ws) = Gr at ok hac q3
    have hGk : Gr.kd = kd := by rw [← hG]; rfl
    have hGe : Gr.ends = ends := by rw [← hG]; rfl
    have hGn : Gr.n = kd.length := by unfold Mc.Gr.n; rw [hGk]
    have hperm : (normF Gr).Perm (List.range kd.length) := by rw [← hGn]; exact normF_perm ok
    have fitp := fit.perm
    generalize hes : linksOf ws = es at hL hnd hkeys hlen hvals hac q3 fitp
    -- named
    refine ⟨fun τ G => ∃ nm, τ = [some (.ref x), some (.ref ka), some (.ref wa), some (.int (ends : Int)), some (.int loops), some (.ref a), some (.ref nm), none, none, none, none, none, none, none, none, none] ∧ H nm = none ∧ G nm = some (.dK (kdK Gr)) ∧ G a = some (.dT kvs) ∧ LinksAt G kvs es ∧ Ext H G, ?_, ?_⟩
    · refine ⟨_, rfl, ka, _, H, rfl, hka, hE3, fun J Gw w hGw D hD => dc_it w (fun i G' => G' D = some (.dK ((List.range i).map fun (j : Nat) => ((.inl (j : Int) : Key), V.str (Gr.kind j)))) ∧ Ext G3 G') ⟨upd_same, Ext.new hD⟩ (fun i G' _ h => hGw _ (hE3.trans h.2)) ?_ ?_⟩
      · rintro i z G4 G5 hi ⟨h4, e4⟩ ⟨t, u, b, rfl, ht, rfl, hu, hb⟩
        obtain ⟨c, hc, rfl⟩ := strs_get hb
        obtain rfl := Option.some.inj hu
        rw [List.length_map] at hi
        have hDt : D ≠ t := ne_of_none h4 ht
        refine ⟨t, _, rfl, .inl (.inl upd_same), rfl, _, _, rfl, _, _, rfl, rfl, rfl, ?_⟩
        refine ⟨_, rfl, _, rfl, _, .inl (i : Int), rfl, (upd_ne hDt).trans h4, ?_, ?_, keepH (e4.trans (Ext.new ht)) hD⟩
        · rw [List.length_map, List.length_range]
          exact szl (by omega)
        · rw [upd_same, ← hG, hes, kdK_snoc hc]
      · rintro G4 ⟨h4, e4⟩
        refine ⟨D, rfl, hE3.fresh hD, ?_, e4 _ _ h3a, links_ext hL e4.t, hE3.trans e4⟩
        rw [h4, List.length_map]
        unfold kdK
        rw [hGn]
    rintro _ G4 ⟨nm, rfl, hHn, h4n, h4a, hL4, hE4⟩
    have hNet : NetAt G4 nm a Gr := by
      refine ⟨.inl h4n, kvs, .inl h4a, fun p hp => ?_⟩
      have hpm : p ∈ es.map Prod.fst := fitp.mem_iff.mpr (mem_portsL.mpr (by rw [← hGk, ← hGe]; exact (port_iff Gr p).mp hp))
      obtain ⟨e, he, rfl⟩ := List.mem_map.mp hpm
      obtain ⟨v, hv1, t, rfl, hv2⟩ := links_get hL4 hnd e he
      rw [hac e he]
      exact ⟨t, hv1, hv2⟩
    -- order
    refine ⟨fun τ G => ∃ oa, τ = [some (.ref x), some (.ref ka), some (.ref wa), some (.int (ends : Int)), some (.int loops), some (.ref a), some (.ref nm), some (.ref oa), none, none, none, none, none, none, none, none] ∧ H oa = none ∧ G oa = some (.lst ((normF Gr).map vI)) ∧ G a = some (.dT kvs) ∧ LinksAt G kvs es ∧ Ext H G, ?_, ?_⟩
    · refine ⟨_, rfl, _, rfl, _, rfl, Gr, nm, a, by rw [hGe], ok, h4n, hNet, fun p G' hp h1 e => ⟨p, rfl, hE4.fresh hp, h1, e _ _ h4a, links_ext hL4 e.t, hE4.trans e⟩⟩
    rintro _ G5 ⟨oa, rfl, hHo, h5o, h5a, hL5, hE5⟩
    generalize normF Gr = ord at hperm h5o q3
    have hordn : ord.Nodup := hperm.nodup_iff.mpr List.nodup_range
    have hordl : ord.length = kd.length := by rw [hperm.length_eq, List.length_range]
    -- place
    refine ⟨fun τ G => ∃ pl, τ = [some (.ref x), some (.ref ka), some (.ref wa), some (.int (ends : Int)), some (.int loops), some (.ref a), some (.ref nm), some (.ref oa), some (.ref pl), none, none, none, none, none, none, none] ∧ G5 pl = none ∧ G pl = some (.dK [((.inl (-1 : Int) : Key), V.int (-1))]) ∧ Ext G5 G, ?_, ?_⟩
    · exact fun p hp => ⟨_, rfl, _, rfl, upd_same, [((.inl (-1 : Int) : Key), V.int (-1))], rfl, by decide, p, rfl, hp, upd_same, keepH (Ext.new hp) hp⟩
    rintro _ G6 ⟨pl, rfl, hpl, h6p, hE6⟩
    refine ⟨fun τ G => ∃ pl y9 y10, τ = [some (.ref x), some (.ref ka), some (.ref wa), some (.int (ends : Int)), some (.int loops), some (.ref a), some (.ref nm), some (.ref oa), some (.ref pl), y9, y10, none, none, none, none, none] ∧ G pl = some (.dK (((.inl (-1 : Int) : Key), V.int (-1)) :: plK ord)) ∧ Ext G5 G, ?_, ?_⟩
    · refine ⟨_, rfl, oa, _, rfl, SqL.of (hE6 _ _ h5o), for_it walk_enum (fun i σ G => ∃ y9 y10, σ = [some (.ref x), some (.ref ka), some (.ref wa), some (.int (ends : Int)), some (.int loops), some (.ref a), some (.ref nm), some (.ref oa), some (.ref pl), y9, y10, none, none, none, none, none] ∧ G pl = some (.dK (((.inl (-1 : Int) : Key), V.int (-1)) :: plK (ord.take i))) ∧ Ext G5 G)
        ⟨_, _, rfl, h6p, hE6⟩ (fun i σ G _ ⟨_, _, _, _, h⟩ => SqL.of (h _ _ h5o)) ?_ ?_⟩
      · rintro i z σ G7 G8 hi ⟨y9, y10, rfl, h7, e7⟩ ⟨t, u, b, rfl, ht, rfl, hu, hb⟩
        obtain ⟨c, hc, rfl⟩ := map_get hb
        obtain rfl := Option.some.inj hu
        rw [List.length_map] at hi
        have hpt : pl ≠ t := ne_of_none h7 ht
        refine ⟨t, _, rfl, .inl (.inl upd_same), rfl, _, _, rfl, _, _, rfl, rfl, ?_⟩
        refine ⟨_, rfl, _, rfl, _, rfl, pl, _, rfl, .inl ⟨_, .inl (c : Int), (upd_ne hpt).trans h7, rfl, ?_, rfl⟩, _, _, rfl, ?_, keepH (e7.trans (Ext.new ht)) hpl⟩
        · rw [List.length_cons, plK_len, List.length_take]
          exact szl (by omega)
        · have hl : (ord.take i).length = i := by
            rw [List.length_take]
            omega
          have := pl_snoc (not_take hordn hc)
          rw [hl] at this
          rw [upd_same, this, take_snoc hc]
      · rintro σ G7 ⟨y9, y10, rfl, h7, e7⟩
        rw [List.length_map, List.take_length] at h7
        exact ⟨pl, y9, y10, rfl, h7, e7⟩
    clear hpl h6p hE6
    rintro _ G7 ⟨pl, y9, y10, rfl, h7p, hE7⟩
    have place : ∀ p, isPort kd ends p → valV (((.inl (-1 : Int) : Key), V.int (-1)) :: plK ord) (.inl p.1) = some (.int (ren ord p).1) := fun p hp => place_get hperm (port_cell hp)
    have hE57 := hE5.trans hE7
    have h7x := hE57 _ _ hx
    have hxa : a ≠ x := fun z => by rw [z, hx] at hHa; cases hHa
    have hxo : oa ≠ x := fun z => by rw [z, hx] at hHo; cases hHo
    have hxp : pl ≠ x := fun z => by rw [z, h7x] at h7p; cases h7p
    -- kinds
    refine ⟨fun τ G => ∃ kt, τ = [some (.ref x), some (.ref ka), some (.ref wa), some (.int (ends : Int)), some (.int loops), some (.ref a), some (.ref nm), some (.ref oa), some (.ref pl), y9, y10, none, none, none, none, none] ∧ G x = some (.ins (He.ga K "Net") dx [("kinds", .ref kt)]) ∧ G7 kt = none ∧ G kt = some (.tup ((ord.map Gr.kind).map V.str)) ∧ XB [x] G7 G, ?_, ?_⟩
    · refine ⟨_, rfl, oa, rfl, ⟨_, SqL.of (hE7 _ _ h5o)⟩, fun D hD => ?_⟩
      refine lc_all (walk_list (xs := ord.map vI)) SV sv_mono (fun i => Gr.kind (ord.getD i 0)) hD (by rw [List.length_map]; omega) (fun G e => SqL.of (e _ _ (hE7 _ _ h5o))) ?_ ?_
      · rintro i z G G' Qe hi e ⟨rfl, hz⟩ q'
        obtain ⟨c, hc, rfl⟩ := map_get hz
        have hcn : c < kd.length := List.mem_range.mp (hperm.mem_iff.mp (List.mem_of_getElem? hc))
        refine ⟨rfl, _, rfl, _, rfl, ka, _, (c : Int), .str (Gr.kind c), rfl, rfl, (hE57.trans e).sqS hka, ?_, q' _ _ (Ext.refl _) ?_⟩
        · unfold atI ixN
          rw [if_pos (Int.natCast_nonneg _), if_pos (by rw [List.length_map]; omega)]
          show (kd.map V.str)[(c : Int).toNat]? = _
          rw [Int.toNat_natCast, List.getElem?_map, List.getElem?_eq_getElem hcn]
          unfold Mc.Gr.kind
          rw [hGk, List.getD_eq_getElem?_getD, List.getElem?_eq_getElem hcn]
          rfl
        · show V.str (Gr.kind c) = V.str (Gr.kind (ord.getD i 0))
          rw [List.getD_eq_getElem?_getD, hc]
          rfl
      · rintro zs G hz hP e
        have hzs : zs = (ord.map Gr.kind).map V.str := by
          have h1 := paired_map (H := G) (fun s : Str => V.str s) hP
          rw [h1, List.length_map]
          have h2 : (List.range ord.length).map (fun i => Gr.kind (ord.getD i 0)) = ord.map Gr.kind := by
            apply List.ext_getElem
            · simp
            · intro i h1 h2
              simp at h1 ⊢
              simp [List.getElem?_eq_getElem h1]
          rw [h2]
        subst hzs
        refine ⟨D, _, rfl, .inl ⟨SqL.of hz, fun kt hkt => ⟨_, rfl, x, _, dx, [], rfl, ?_, T.cl_Net, T.n_Net_kinds, by decide, kt, rfl, upd_same, e.fresh hkt, ?_, ?_⟩⟩⟩
        · exact Ext.new hkt _ _ (e _ _ h7x)
        · have hne : kt ≠ x := fun z => by rw [z, e _ _ h7x] at hkt; cases hkt
          rw [upd_ne hne, upd_same]
        · exact (((e.xb [x]).new hkt)).put (by simp)
    rintro _ G8 ⟨kt, rfl, h8x, hkt7, h8k, hX8⟩
    have g8 : ∀ {c u}, G7 c = some u → c ≠ x → G8 c = some u := fun {c u} h hc => hX8 c u (not_in1 hc) h
    have T8 : TExt G7 G8 := hX8.text fun b hb o e => by
      rw [List.mem_singleton.mp hb, h7x] at e
      cases e
      exact fun z => z
    -- links
    refine ⟨fun τ G => ∃ L, τ = [some (.ref x), some (.ref ka), some (.ref wa), some (.int (ends : Int)), some (.int loops), some (.ref a), some (.ref nm), some (.ref oa), some (.ref pl), y9, y10, some (.ref L), none, none, none, none] ∧ G8 L = none ∧ G L = some (.dT []) ∧ Ext G8 G, ?_, ?_⟩
    · exact fun L hL' => ⟨L, rfl, hL', upd_same, Ext.new hL'⟩
    rintro _ G9 ⟨L, rfl, hL9, h9L, hE9⟩
    have h9a : G9 a = some (.dT kvs) := hE9 _ _ (g8 (hE7 _ _ h5a) hxa)
    have hLa : a ≠ L := ne_of_none (g8 (hE7 _ _ h5a) hxa) hL9
    have hLp : pl ≠ L := ne_of_none (g8 h7p hxp) hL9
    have hLx : x ≠ L := ne_of_none h8x hL9
    have hLk : kt ≠ L := ne_of_none h8k hL9
    have hap : a ≠ pl := fun z => by rw [z, hE9 _ _ (g8 h7p hxp)] at h9a; cases h9a
    have hak : a ≠ kt := fun z => by rw [z, hE9 _ _ h8k] at h9a; cases h9a
    have h9p : G9 pl = some (.dK (((.inl (-1 : Int) : Key), V.int (-1)) :: plK ord)) := hE9 _ _ (g8 h7p hxp)
    have hL9' : LinksAt G9 kvs es := links_ext hL5 ((hE7.t.trans T8).trans hE9.t)
    have hkl2 : kvs.length = es.length := Paired.length hL9'
    refine ⟨fun τ G => ∃ y10 y12 y13 kv2, τ = [some (.ref x), some (.ref ka), some (.ref wa), some (.int (ends : Int)), some (.int loops), some (.ref a), some (.ref nm), some (.ref oa), some (.ref pl), y9, y10, some (.ref L), y12, y13, none, none] ∧ G L = some (.dT kv2) ∧ LinksAt G kv2 (es.map (renE ord)) ∧ XB [a, L] G9 G ∧ G a = some (.dT kvs), ?_, ?_⟩
    · refine ⟨a, .dT kvs, h9a, trivial, fun od => ⟨_, rfl, a, od, rfl, .inr ⟨kvs, upd_same, for_it walk_keysT (fun i σ G => ∃ y10 y12 y13 kv2, σ = [some (.ref x), some (.ref ka), some (.ref wa), some (.int (ends : Int)), some (.int loops), some (.ref a), some (.ref nm), some (.ref oa), some (.ref pl), y9, y10, some (.ref L), y12, y13, none, none] ∧ G a = some (.frz od (.dT kvs)) ∧ G L = some (.dT kv2) ∧ LinksAt G kv2 ((es.map (renE ord)).take i) ∧ XB [a, L] G9 G)
        ⟨_, _, _, [], rfl, upd_same, (upd_ne hLa.symm).trans h9L, .nil, (XB.refl _ _).put (by simp)⟩ (fun i σ G _ ⟨_, _, _, _, _, h, _⟩ => h) ?_ ?_⟩⟩⟩
      · rintro i z σ G10 G11 hi ⟨y10, y12, y13, kv2, rfl, hfa, hfL, hLi, hX⟩ ⟨rfl, k, v, qa, hkv, rfl, hqa⟩
        obtain ⟨e, he, hke, t, rfl, hv⟩ := paired_get hL9' i (k, v) hkv
        obtain rfl : k = kP e.1 := hke
        have hem : e ∈ es := List.mem_of_getElem? he
        have hT : TExt G9 G11 := hX.text fun b hb o hbo => by
          rcases List.mem_cons.mp hb with rfl | hb
          · rw [h9a] at hbo
            cases hbo
            exact fun z => z
          · rw [List.mem_singleton.mp hb, h9L] at hbo
            cases hbo
            exact fun z => z
        have hv11 := hT _ _ hv trivial
        obtain ⟨v', hv1, t', rfl, hv2⟩ := links_get hL9' hnd e hem
        have hp11 : G11 pl = some (.dK (((.inl (-1 : Int) : Key), V.int (-1)) :: plK ord)) := hX _ _ (not_in2 hap.symm hLp) h9p
        refine ⟨qa, _, rfl, .inl (.inl hqa), rfl, _, _, rfl, _, _, rfl, rfl, ?_⟩
        refine ⟨fun τ G => τ = [some (.ref x), some (.ref ka), some (.ref wa), some (.int (ends : Int)), some (.int loops), some (.ref a), some (.ref nm), some (.ref oa), some (.ref pl), y9, some (.int e.1.1), some (.ref L), some (.int e.1.2), some (.ref t'), none, none] ∧ Ext G11 G, ?_, ?_⟩
        · exact ⟨_, rfl, _, rfl, _, rfl, (by show 2 ≤ sizeLine; decide), fun t1 ht1 => ⟨a, .ref t', rfl, .inr ⟨kvs, kP e.1, t1, (Ext.new ht1).rd (.inr ⟨od, hfa⟩), rfl, upd_same, hv1.symm⟩, rfl, Ext.new ht1⟩⟩
        rintro _ G12 ⟨rfl, hE12⟩
        have ht' : SqT K G12 t' (vP e.2) := .inl (.inl (hE12 _ _ (hT _ _ hv2 trivial)))
        have hp12 : Rd G12 pl (.dK (((.inl (-1 : Int) : Key), V.int (-1)) :: plK ord)) := .inl (hE12 _ _ hp11)
        have lhs := hvals e hem
        have khs := hkeys e.1 (List.mem_map.mpr ⟨e, hem, rfl⟩)
        have hkl3 : kv2.length = i := by
          have := Paired.length hLi
          rw [List.length_take, List.length_map] at this
          omega
        refine ⟨_, rfl, _, rfl, t', _, 0, .int e.2.1, rfl, rfl, ht', rfl, pl, _, rfl, .inl ⟨_, .inl e.2.1, hp12, rfl, (place _ lhs).symm⟩, _, rfl, t', _, 1, .int e.2.2, rfl, rfl, ht', rfl, (by show 2 ≤ sizeLine; decide), fun t2 ht2 => ?_⟩
        refine ⟨_, rfl, _, rfl, _, rfl, pl, _, rfl, .inl ⟨_, .inl e.1.1, (Ext.new ht2).rd hp12, rfl, (place _ khs).symm⟩, _, rfl, (by show 2 ≤ sizeLine; decide), fun t3 ht3 => ?_⟩
        have hE14 : Ext G11 (upd (upd G12 t2 (.tup [.int (ren ord e.2).1, .int e.2.2])) t3 (.tup [.int (ren ord e.1).1, .int e.1.2])) := (hE12.trans (Ext.new ht2)).trans (Ext.new ht3)
        have hL14 := hE14 _ _ hfL
        refine ⟨L, _, rfl, .inr ⟨kv2, kP (ren ord e.1), t3, hL14, rfl, upd_same, szl (by omega), rfl⟩, ?_⟩
        have h23 : t2 ≠ t3 := ne_of_none (upd_same (H := G12) (o := .tup [.int (ren ord e.2).1, .int e.2.2])) ht3
        have hTL : TExt (upd (upd G12 t2 (.tup [.int (ren ord e.2).1, .int e.2.2])) t3 (.tup [.int (ren ord e.1).1, .int e.1.2])) (upd (upd (upd G12 t2 (.tup [.int (ren ord e.2).1, .int e.2.2])) t3 (.tup [.int (ren ord e.1).1, .int e.1.2])) L (.dT (putK kv2 (kP (ren ord e.1)) (.ref t2)))) := TExt.put hL14 fun z => z
        refine ⟨_, _, _, _, rfl, (upd_ne hLa).trans (hE14 _ _ hfa), upd_same, ?_, ?_⟩
        · have hget : (es.map (renE ord))[i]? = some (renE ord e) := by rw [List.getElem?_map, he]; rfl
          rw [take_snoc hget]
          refine links_snoc (links_ext hLi (hE14.t.trans hTL)) ?_ (⟨t2, rfl, hTL _ _ ((upd_ne h23).trans upd_same) trivial⟩ : PV _ (.ref t2) (ren ord e.2))
          have hnd2 := renE_nodup hperm hnd hkeys
          intro hm
          have h3 : (((es.map (renE ord)).take (i + 1)).map Prod.fst).Nodup := by
            rw [List.map_take]
            exact hnd2.sublist (List.take_sublist _ _)
          rw [take_snoc hget, List.map_append, List.nodup_append] at h3
          exact h3.2.2 _ hm _ (by simp [renE]) rfl
        · refine (XB.put ?_ (by simp))
          exact hX.trans (hE14.xb _)
      · rintro σ G10 ⟨y10, y12, y13, kv2, rfl, hfa, hfL, hLi, hX⟩
        rw [hkl2, List.take_of_length_le (by rw [List.length_map]; exact Nat.le_refl _)] at hLi
        refine ⟨hfa, y10, y12, y13, kv2, rfl, (upd_ne hLa.symm).trans hfL, links_ext hLi (TExt.put hfa fun z => z), hX.put (by simp), upd_same⟩
    rintro _ G10 ⟨y10, y12, y13, kv2, rfl, h10L, hL10, hX10, h10a⟩
    have h10x : G10 x = some (.ins (He.ga K "Net") dx [("kinds", .ref kt)]) := hX10 _ _ (not_in2 hxa.symm hLx) (hE9 _ _ h8x)
    have h10k : G10 kt = some (.tup ((ord.map Gr.kind).map V.str)) := hX10 _ _ (not_in2 hak.symm hLk) (hE9 _ _ h8k)
    have hxk : kt ≠ x := fun z => by rw [z, h10x] at h10k; cases h10k
    -- self.links
    refine ⟨fun τ G => τ = [some (.ref x), some (.ref ka), some (.ref wa), some (.int (ends : Int)), some (.int loops), some (.ref a), some (.ref nm), some (.ref oa), some (.ref pl), y9, y10, some (.ref L), y12, y13, none, none] ∧ G x = some (.ins (He.ga K "Net") dx [("kinds", .ref kt), ("links", .ref L)]) ∧ G kt = some (.tup ((ord.map Gr.kind).map V.str)) ∧ G L = some (.dT kv2) ∧ LinksAt G kv2 (es.map (renE ord)) ∧ XB [x] G10 G, ?_, ?_⟩
    · exact ⟨_, rfl, _, rfl, x, _, dx, _, rfl, h10x, T.cl_Net, T.n_Net_links, by show 1 < 1000; decide, rfl, upd_same, (upd_ne hxk).trans h10k, (upd_ne hLx.symm).trans h10L, links_ext hL10 (TExt.put h10x fun z => z), (XB.refl _ _).put (by simp)⟩
    rintro _ G11 ⟨rfl, h11x, h11k, h11L, hL11, hX11⟩
    have hnd2 := renE_nodup hperm hnd hkeys
    generalize hes2 : es.map (renE ord) = es2 at hL11 hnd2 q3
    have hl2 : es2.length ≤ 3100 := by rw [← hes2, List.length_map]; exact hlen
    have hkl4 : kv2.length = es2.length := Paired.length hL11
    -- self.wires
    refine ⟨fun τ G => ∃ wt xs, τ = [some (.ref x), some (.ref ka), some (.ref wa), some (.int (ends : Int)), some (.int loops), some (.ref a), some (.ref nm), some (.ref oa), some (.ref pl), y9, y10, some (.ref L), y12, y13, none, none] ∧ G x = some (.ins (He.ga K "Net") dx [("kinds", .ref kt), ("links", .ref L), ("wires", .ref wt)]) ∧ G kt = some (.tup ((ord.map Gr.kind).map V.str)) ∧ G L = some (.dT kv2) ∧ LinksAt G kv2 es2 ∧
      G wt = some (.tup xs) ∧ Paired (WV G) xs (wSort (es2.filter fun e => pLt e.1 e.2)) ∧ XB [x] G11 G, ?_, ?_⟩
    · refine ⟨L, .dT kv2, h11L, trivial, fun od => ⟨_, rfl, L, od, rfl, .inr ⟨kv2, upd_same, fun D hD => ?_⟩⟩⟩
      have hDL : D ≠ L := fun z => by rw [z, upd_same] at hD; cases hD
      have h11D : G11 D = none := by rw [upd_ne hDL] at hD; exact hD
      have TL : TExt G11 (upd G11 L (.frz od (.dT kv2))) := TExt.put h11L fun z => z
      refine lc_ext walk_keysT WV wv_mono (pick (fun e : Port × Port => pLt e.1 e.2) es2) hD (by omega) (fun G e => e _ _ upd_same) ?_ ?_
      · rintro i z G0 G Qe Qn hi hE ⟨rfl, k, v, qa, hkv, rfl, hqa⟩ q1' q2'
        obtain ⟨e, he, hke, t, rfl, hv⟩ := paired_get hL11 i (k, v) hkv
        obtain rfl : k = kP e.1 := hke
        obtain ⟨v', hv1, t', rfl, hv2⟩ := links_get hL11 hnd2 e (List.mem_of_getElem? he)
        have hv3 := (TL.trans hE.t) _ _ hv2 trivial
        have rdL : Rd G L (.dT kv2) := .inr ⟨od, hE _ _ upd_same⟩
        have hget : DGet G L (.ref qa) (some (.ref t')) := .inr ⟨kv2, kP e.1, qa, rdL, rfl, hqa, hv1.symm⟩
        refine ⟨rfl, ?_⟩
        refine ⟨_, rfl, _, rfl, _, rfl, L, _, rfl, hget, qa, t', [e.1.1, e.1.2], [e.2.1, e.2.2], rfl, rfl, .inl (.inl hqa), .inl (.inl hv3), _, rfl, ?_⟩
        rw [lexLt_port]
        simp only [pick, he, Option.bind_some] at q1' q2'
        by_cases c : pLt e.1 e.2 = true
        · rw [if_pos c]
          rw [if_pos c] at q1'
          exact ⟨_, rfl, _, rfl, _, rfl, L, _, rfl, hget, (by show 2 ≤ sizeLine; decide), fun t4 ht4 => q1' e rfl _ _ (Ext.new ht4) ⟨t4, qa, t', rfl, upd_same, Ext.new ht4 _ _ hqa, Ext.new ht4 _ _ hv3⟩⟩
        · rw [if_neg c]
          rw [if_neg c] at q2'
          exact q2' rfl _ (Ext.refl _)
      · rintro zs G hz hP hE
        rw [hkl4, filterMap_filter (fun e : Port × Port => pLt e.1 e.2)] at hP
        refine ⟨hE _ _ upd_same, ?_⟩
        have TU : TExt G (upd G L (.dT kv2)) := TExt.put (hE _ _ upd_same) fun z => z
        have hP2 := wv_mono.paired TU hP
        have hX12 : XB [] G11 (upd G L (.dT kv2)) := fun c o _ hc => by
          by_cases e : c = L
          · rw [e, upd_same]
            rw [e, h11L] at hc
            exact hc
          · rw [upd_ne e]
            refine hE _ _ ?_
            rw [upd_ne e]
            exact hc
        have hE12 : Ext G11 (upd G L (.dT kv2)) := hX12.ext (fun _ h => nomatch h)
        refine ⟨D, zs, (es2.filter fun e => pLt e.1 e.2).map wireD, rfl, SqL.of ((upd_ne hDL).trans hz), dpAll_paired wireD (fun v a h => wv_dp h) hP2, PySem.W.AllAlike.of alike_wire, PySem.W.Sortable.tuples (fun e => ⟨_, _, rfl⟩), (fun d hd => by obtain ⟨e, _, rfl⟩ := List.mem_map.mp hd; exact Nat.le_trans (depth_wire e) (by decide)), fun SA hSA => ?_⟩
        have hsp := sorted_paired wireD hP2
        generalize ((zs.zip ((es2.filter fun e => pLt e.1 e.2).map wireD)).mergeSort (PySem.W.dataLe false Prod.snd)).map Prod.fst = ys at hsp ⊢
        refine ⟨SA, ys, rfl, .inl ⟨SqL.of upd_same, fun wt hwt => ?_⟩⟩
        have hE13 := (hE12.trans (Ext.new (o := .lst ys) hSA)).trans (Ext.new (o := .tup ys) hwt)
        have hwx : wt ≠ x := fun z => by rw [z, Ext.new hSA _ _ (hE12 _ _ h11x)] at hwt; cases hwt
        have hTx : TExt (upd (upd (upd G L (.dT kv2)) SA (.lst ys)) wt (.tup ys)) (upd (upd (upd (upd G L (.dT kv2)) SA (.lst ys)) wt (.tup ys)) x (.ins (He.ga K "Net") dx [("kinds", .ref kt), ("links", .ref L), ("wires", .ref wt)])) := TExt.put (hE13 _ _ h11x) fun z => z
        refine ⟨_, rfl, x, _, dx, _, rfl, hE13 _ _ h11x, T.cl_Net, T.n_Net_wires, by show 2 < 1000; decide, wt, ys, rfl, upd_same, (upd_ne hxk).trans (hE13 _ _ h11k), (upd_ne hLx.symm).trans (hE13 _ _ h11L), links_ext hL11 (hE13.t.trans hTx), (upd_ne hwx).trans upd_same, ?_, (hE13.xb _).put (by simp)⟩
        exact wv_mono.paired (((Ext.new hSA).trans (Ext.new hwt)).t.trans hTx) hsp
    rintro _ G12 ⟨wt, ys, rfl, h12x, h12k, h12L, hL12, h12w, hP12, hX12⟩
    have hxw : wt ≠ x := fun z => by rw [z, h12x] at h12w; cases h12w
    -- self.ends
    refine ⟨fun τ G => τ = [some (.ref x), some (.ref ka), some (.ref wa), some (.int (ends : Int)), some (.int loops), some (.ref a), some (.ref nm), some (.ref oa), some (.ref pl), y9, y10, some (.ref L), y12, y13, none, none] ∧ G = upd G12 x (.ins (He.ga K "Net") dx [("kinds", .ref kt), ("links", .ref L), ("wires", .ref wt), ("ends", .int (ends : Int))]), ?_, ?_⟩
    · exact ⟨_, rfl, _, rfl, x, _, dx, _, rfl, h12x, T.cl_Net, T.n_Net_ends, by show 3 < 1000; decide, rfl, rfl⟩
    rintro _ G13 ⟨rfl, rfl⟩
    refine ⟨_, rfl, _, rfl, x, _, dx, _, rfl, upd_same, T.cl_Net, T.n_Net_loops, by show 4 < 1000; decide, ?_⟩
    have hT : TExt G12 (upd (upd G12 x (.ins (He.ga K "Net") dx [("kinds", .ref kt), ("links", .ref L), ("wires", .ref wt), ("ends", .int (ends : Int))])) x (.ins (He.ga K "Net") dx [("kinds", .ref kt), ("links", .ref L), ("wires", .ref wt), ("ends", .int (ends : Int)), ("loops", .int loops)])) :=
      (TExt.put h12x fun z => z).trans (TExt.put upd_same fun z => z)
    refine q3 _ ⟨dx, kt, L, wt, kv2, ys, upd_same, ?_, ?_, links_ext hL12 hT, ?_, wv_mono.paired hT hP12⟩ ?_
    · rw [upd_ne hxk, upd_ne hxk]
      exact h12k
    · rw [upd_ne hLx.symm, upd_ne hLx.symm]
      exact h12L
    · rw [upd_ne hxw, upd_ne hxw]
      exact h12w
    · refine (XB.put (XB.put ?_ (by simp)) (by simp))
      have x1 : XB [x] H G8 := (hE57.xb _).trans hX8
      have x2 : XB [x] H G10 := fun c o hc e => by
        have e8 := x1 c o hc e
        refine hX10 c o (not_in2 (fun z => ?_) (fun z => ?_)) (hE9 c o e8)
        · rw [z, hHa] at e
          cases e
        · rw [z, hL9] at e8
          cases e8
      exact (x2.trans hX11).trans hX12
end Me
namespace Me
open PySem PySem.Spec PyProof.Rows L2 Mc
variable {P : Program} {w : World} {K : PySem.W.Frag} {mg : Str → Option Value} {base : Heap}
theorem NetArgs.ext {H H' : Hp} {v1 v2 v3 v4 : V} {kd : List Str} {ws : List (Port × Port)} {ends : Nat} {loops : Int} (h : NetArgs K H v1 v2 v3 v4 kd ws ends loops) (e : Ext H H') : NetArgs K H' v1 v2 v3 v4 kd ws ends loops := by
  obtain ⟨ka, wa, xs, h1, h2, h3, h4, h5, h6, h7, h8, h9, h10, h11⟩ := h
  exact ⟨ka, wa, xs, h1, e.sqS h2, h3, h4, h5, e.sqS h6, wv_mono.paired e.t h7, h8, h9, h10, h11⟩
/-- what Net(v1, v2, ends = v3, loops = v4) does -/
def spMake (K : PySem.W.Frag) (v1 v2 v3 v4 : V) (H : Hp) (Q : VK) (E : XK) : Prop := ∃ (d1 d2 d3 d4 : PyData), Dq K H v1 d1 ∧ Dq K H v2 d2 ∧ Dq K H v3 d3 ∧ Dq K H v4 d4 ∧
  (isSeqD d1 = false → Rz K H E "InvalidKinds" v1) ∧ (isSeqD d1 = true → 1000 < (itemsD d1).length → Rz K H E "TooLarge" (.int ((itemsD d1).length : Int))) ∧ (isSeqD d1 = true → (itemsD d1).length ≤ 1000 → (itemsD d1).all isKind = false → Rz K H E "InvalidKinds" v1) ∧
  (isSeqD d1 = true → (itemsD d1).length ≤ 1000 → (itemsD d1).all isKind = true → (isSeqD d2 = false → Rz K H E "InvalidWires" v2) ∧ (isSeqD d2 = true → (itemsD d2).all isWireD = false → Rz K H E "InvalidWires" v2) ∧
    (isSeqD d2 = true → (itemsD d2).all isWireD = true → (endsOk d3 = false → Rz K H E "InvalidNumber" v3) ∧ (endsOk d3 = true → loopsOk d4 = false → Rz K H E "InvalidNumber" v4) ∧
      (endsOk d3 = true → loopsOk d4 = true → ∃ (kd : List Str) (ws : List (Port × Port)) (ends : Nat) (loops : Int), NetArgs K H v1 v2 v3 v4 kd ws ends loops ∧ (linkF (portsL kd ends) [] ws = none → Rz K H E "InvalidWires" v2) ∧
        ∀ es, linkF (portsL kd ends) [] ws = some es → ∀ x H', H x = none → NetV K H' x (mkN kd ends loops es) → Ext H H' → Q (.ref x) H')))
theorem make_init {v1 v2 v3 v4 : V} {H : Hp} {Q : VK} {E : XK} {x dx : Addr} (h : spMake K v1 v2 v3 v4 H Q E) (hx : H x = none) (hd : H dx = none) (hne : dx ≠ x) :
    spInit K [.ref x, v1, v2, v3, v4] (upd (upd H dx (.own x)) x (.ins (He.ga K "Net") dx [])) (fun v H2 => v = .non ∧ Q (.ref x) H2) E := by
  obtain ⟨d1, d2, d3, d4, h1, h2, h3, h4, k1, k2, k3, k4⟩ := h
  have e : Ext H (upd (upd H dx (.own x)) x (.ins (He.ga K "Net") dx [])) := keepH (Ext.new hd) hx
  refine ⟨x, dx, v1, v2, v3, v4, d1, d2, d3, d4, rfl, upd_same, dq_ext e h1, dq_ext e h2, dq_ext e h3, dq_ext e h4, fun z => (k1 z).ext e, fun z z2 => (k2 z z2).ext e, fun a b c => (k3 a b c).ext e, fun a b c => ?_⟩
  obtain ⟨k5, k6, k7⟩ := k4 a b c
  refine ⟨fun z => (k5 z).ext e, fun z z2 => (k6 z z2).ext e, fun a b => ?_⟩
  obtain ⟨k8, k9, k10⟩ := k7 a b
  refine ⟨fun z => (k8 z).ext e, fun z z2 => (k9 z z2).ext e, fun a b => ?_⟩
  obtain ⟨kd, ws, ends, loops, na, q1, q2⟩ := k10 a b
  refine ⟨kd, ws, ends, loops, na.ext e, fun z => (q1 z).ext e, fun es hes H' hN hX => ⟨rfl, q2 es hes x H' hx hN ?_⟩⟩
  exact fun c o hc => hX c o (not_in1 (ne_of_none hc hx)) (e c o hc)
def spMkE (K : PySem.W.Frag) : List V → List V → Hp → VK → XK → Prop := fun vs zs H Q E => ∃ v1 v2 v3, vs = [v1, v2] ∧ zs = [v3] ∧ spMake K v1 v2 v3 (.int 0) H Q E
def spMkEL (K : PySem.W.Frag) : List V → List V → Hp → VK → XK → Prop := fun vs zs H Q E => ∃ v1 v2 v3 v4, vs = [v1, v2] ∧ zs = [v3, v4] ∧ spMake K v1 v2 v3 v4 H Q E
def spMk0 (K : PySem.W.Frag) : List V → List V → Hp → VK → XK → Prop := fun vs zs H Q E => ∃ v1 v2, vs = [v1, v2] ∧ spMake K v1 v2 (.int 0) (.int 0) H Q E
theorem vals_app3 {vs mz zs : List V} {us mv ws : List Value} (a : Vals vs us) (b : Vals mz mv) (c : Vals zs ws) : Vals (vs ++ zs ++ mz) (us ++ ws ++ mv) := (a.append c).append b
theorem mk_e (T : Txt P w K mg) : MkR P w K mg base (L2.CX P w) 5 (He.ga K "Net") 2 ["ends"] (spMkE K) := by
  obtain ⟨fd, F⟩ := T.f_Net___init__
  obtain ⟨mv, hb⟩ := F.kbinds0 (ps := ["self", "kinds", "wires", "ends", "loops"]) 3 ["ends"] [(("loops" : Str), V.int 0)] (fun us mv ws => us ++ ws ++ mv) (by simp) (fun q hq => by simp at hq; simp [hq]) vals_app3
    (fun D doc pm an cdv ct us mv ws h1 h2 h3 => match us, mv, ws, h1, h2, h3 with | [_, _, _], [_], [_], _, _, _ => ⟨_, _, _, _, _, _, rfl, rfl, rfl⟩)
  refine ⟨_, fd, _, _, _, spInit K, T.mk_Net, fo_init T F, hb, ?_⟩
  rintro vs zs H Q E x dx l1 l2 ⟨v1, v2, v3, rfl, rfl, h⟩ hx hd hne
  exact make_init h hx hd hne
theorem mk_el (T : Txt P w K mg) : MkR P w K mg base (L2.CX P w) 5 (He.ga K "Net") 2 ["ends", "loops"] (spMkEL K) := by
  obtain ⟨fd, F⟩ := T.f_Net___init__
  obtain ⟨mv, hb⟩ := F.kbinds0 (ps := ["self", "kinds", "wires", "ends", "loops"]) 3 ["ends", "loops"] [] (fun us mv ws => us ++ ws ++ mv) (by simp) (fun q hq => by simp at hq) vals_app3
    (fun D doc pm an cdv ct us mv ws h1 h2 h3 => match us, mv, ws, h1, h2, h3 with | [_, _, _], [], [_, _], _, _, _ => rfl)
  refine ⟨_, fd, _, _, _, spInit K, T.mk_Net, fo_init T F, hb, ?_⟩
  rintro vs zs H Q E x dx l1 l2 ⟨v1, v2, v3, v4, rfl, rfl, h⟩ hx hd hne
  exact make_init h hx hd hne
theorem mk_0 (T : Txt P w K mg) : MkR P w K mg base (L2.CX P w) 5 (He.ga K "Net") 2 [] (spMk0 K) := by
  obtain ⟨fd, F⟩ := T.f_Net___init__
  obtain ⟨mv, hb⟩ := F.kbinds0 (ps := ["self", "kinds", "wires", "ends", "loops"]) 3 [] [(("ends" : Str), V.int 0), (("loops" : Str), V.int 0)] (fun us mv ws => us ++ ws ++ mv) (by simp) (fun q hq => by simpa using hq) vals_app3
    (fun D doc pm an cdv ct us mv ws h1 h2 h3 => match us, mv, ws, h1, h2, h3 with | [_, _, _], [_, _], [], _, _, _ => ⟨_, _, _, _, _, _, rfl, rfl, ⟨_, _, _, _, _, _, rfl, rfl, rfl⟩⟩)
  refine ⟨_, fd, _, _, _, spInit K, T.mk_Net, fo_init T F, hb, ?_⟩
  rintro vs zs H Q E x dx l1 l2 ⟨v1, v2, rfl, h⟩ hx hd hne
  have : zs = [] := List.length_eq_zero_iff.mp l2
  subst this
  exact make_init h hx hd hne
/-! ### a good net -/
theorem kind_isKind {x : Str} (h : KindS x) : isKind (.str x) = true := by
  rcases h with rfl | rfl | rfl <;> decide +kernel
theorem dpAll_strs {H : Hp} : ∀ l : List Str, DpAll K H (l.map V.str) (l.map PyData.str)
  | [] => .nil
  | x :: l => .cons (.str x) (dpAll_strs l)
theorem port_portOk {kd : List Str} {ends : Nat} {p : Port} (h : isPort kd ends p) : portOk p.1 p.2 = true := by
  unfold portOk
  rcases h with ⟨h1, h2, _⟩ | ⟨h1, _, h2, h3⟩
  · simp [h1, h2]
  · have := arS_le (kd.getD p.1.toNat "")
    have h4 : p.2 ≤ 2 := by omega
    simp [h1, h2, h4]
theorem wire_isWire {kd : List Str} {ends : Nat} {e : Port × Port} (h1 : isPort kd ends e.1) (h2 : isPort kd ends e.2) (h : e.1 ≠ e.2) : isWireD (wireD e) = true := by
  show (isPortD (portD e.1) && (isPortD (portD e.2) && !PyData.eqv (portD e.1) (portD e.2))) = true
  have a : isPortD (portD e.1) = true := port_portOk h1
  have b : isPortD (portD e.2) = true := port_portOk h2
  rw [a, b, eqv_port, decide_eq_false h]
  rfl
/-- good arguments make a net -/
theorem make_ok {v1 v2 v3 v4 : V} {H : Hp} {Q : VK} {E : XK} {kd : List Str} {ws : List (Port × Port)} {ends : Nat} {loops : Int} (na : NetArgs K H v1 v2 v3 v4 kd ws ends loops) (h0 : 0 ≤ loops) (fit : Fits (portsL kd ends) ws)
    (q : ∀ x H', H x = none → NetV K H' x (mkN kd ends loops (linksOf ws)) → Ext H H' → Q (.ref x) H') : spMake K v1 v2 v3 v4 H Q E := by
  have na' := na
  obtain ⟨ka, wa, xs, rfl, hka, hkd, hkl, rfl, hwa, hws, hne, rfl, hen, rfl⟩ := na'
  have ports : ∀ e ∈ ws, isPort kd ends e.1 ∧ isPort kd ends e.2 := fun e he => by
    have m1 : e ∈ linksOf ws := by
      unfold linksOf
      exact List.mem_flatten.mpr ⟨_, List.mem_map.mpr ⟨e, he, rfl⟩, by simp⟩
    exact ⟨mem_portsL.mp (fit.perm.mem_iff.mp (List.mem_map.mpr ⟨e, m1, rfl⟩)), mem_portsL.mp (fit.perm.mem_iff.mp (List.mem_map.mpr ⟨(e.2, e.1), linksOf_sym m1, rfl⟩))⟩
  have c3 : (kd.map PyData.str).all isKind = true := by
    rw [List.all_eq_true]
    intro d hd
    obtain ⟨x, hx, rfl⟩ := List.mem_map.mp hd
    exact kind_isKind (hkd x hx)
  have c5 : (ws.map wireD).all isWireD = true := by
    rw [List.all_eq_true]
    intro d hd
    obtain ⟨e, he, rfl⟩ := List.mem_map.mp hd
    exact wire_isWire (ports e he).1 (ports e he).2 (hne e he)
  have hdp := dpAll_paired (K := K) wireD (fun v a h => wv_dp (K := K) h) hws
  obtain ⟨d2, hd2, s2, i2⟩ : ∃ d2, Dq K H (.ref wa) d2 ∧ isSeqD d2 = true ∧ itemsD d2 = ws.map wireD := by
    rcases hwa with h | h
    · exact ⟨.list (ws.map wireD), .dp (.lst h hdp), rfl, rfl⟩
    · exact ⟨.tuple (ws.map wireD), .dp (.tup h hdp), rfl, rfl⟩
  obtain ⟨d1, hd1, s1, i1⟩ : ∃ d1, Dq K H (.ref ka) d1 ∧ isSeqD d1 = true ∧ itemsD d1 = kd.map PyData.str := by
    rcases hka with h | h
    · exact ⟨.list (kd.map PyData.str), .dp (.lst h (dpAll_strs kd)), rfl, rfl⟩
    · exact ⟨.tuple (kd.map PyData.str), .dp (.tup h (dpAll_strs kd)), rfl, rfl⟩
  have l1 : (itemsD d1).length = kd.length := by
    rw [i1]
    exact List.length_map _
  refine ⟨d1, d2, .int (ends : Int), .int loops, hd1, hd2, .dp (.int _), .dp (.int _), fun z => (by rw [s1] at z; cases z), fun _ z => absurd z (by rw [l1]; omega), fun _ _ z => ?_, fun _ _ _ => ?_⟩
  · rw [i1, c3] at z
    cases z
  refine ⟨fun z => (by rw [s2] at z; cases z), fun _ z => (by rw [i2, c5] at z; cases z), fun _ _ => ⟨fun z => ?_, fun _ z => ?_, fun _ _ => ⟨kd, ws, ends, loops, na, fun z => ?_, fun es hes x H' hx hN e => ?_⟩⟩⟩
  · have : endsOk (.int (ends : Int)) = true := by
      show (decide ((0 : Int) ≤ ends) && decide ((ends : Int) ≤ 12)) = true
      rw [decide_eq_true (Int.natCast_nonneg _), decide_eq_true (by omega)]
      rfl
    rw [this] at z
    cases z
  · have : loopsOk (.int loops) = true := decide_eq_true h0
    rw [this] at z
    cases z
  · have := fits_linkF (ws := ws) (acc := []) (by simpa using fit.perm) (portsL_nodup kd ends)
    rw [this] at z
    cases z
  · obtain ⟨rfl, _⟩ := linkF_fits (portsL_nodup kd ends) hne hes
    exact q x H' hx hN e
end Me
namespace Me
open PySem PySem.Spec PyProof.Rows L2 Mc
variable {P : Program} {w : World} {K : PySem.W.Frag} {mg : Str → Option Value} {base : Heap}
/-- what holds of the data of every net -/
structure NetOk (N : NetD) : Prop where
  kinds : ∀ x ∈ N.kd, KindS x
  small : N.kd.length ≤ 1000
  few : N.ends ≤ 12
  perm : (N.es.map Prod.fst).Perm (portsL N.kd N.ends)
  sym : ∀ e ∈ N.es, (e.2, e.1) ∈ N.es
  ne : ∀ e ∈ N.es, e.1 ≠ e.2
  ws : N.ws = wSort (N.es.filter fun e => pLt e.1 e.2)
namespace NetOk
variable {N : NetD} (ok : NetOk N)
include ok
theorem nodup : (N.es.map Prod.fst).Nodup := ok.perm.nodup_iff.mpr (portsL_nodup _ _)
theorem port {e : Port × Port} (h : e ∈ N.es) : isPort N.kd N.ends e.1 := mem_portsL.mp (ok.perm.mem_iff.mp (List.mem_map.mpr ⟨e, h, rfl⟩))
theorem port2 {e : Port × Port} (h : e ∈ N.es) : isPort N.kd N.ends e.2 := ok.port (ok.sym e h)
theorem link {p : Port} (h : isPort N.kd N.ends p) : ∃ q, (p, q) ∈ N.es := by
  obtain ⟨e, he, rfl⟩ := List.mem_map.mp (ok.perm.mem_iff.mpr (mem_portsL.mpr h))
  exact ⟨e.2, he⟩
theorem uniq {p q r : Port} (h1 : (p, q) ∈ N.es) (h2 : (p, r) ∈ N.es) : q = r := by
  have a := acOf_mem ok.nodup h1
  have b := acOf_mem ok.nodup h2
  exact a.symm.trans b
theorem mem_ws {e : Port × Port} : e ∈ N.ws ↔ e ∈ N.es ∧ pLt e.1 e.2 = true := by
  rw [ok.ws, (wSort_perm _).mem_iff, List.mem_filter]
theorem elen : N.es.length ≤ 3100 := by
  have h1 := ok.perm.length_eq
  have h2 := portsL_len N.kd N.ends
  have := ok.small
  have := ok.few
  rw [List.length_map] at h1
  omega
theorem wlen : N.ws.length ≤ 3100 := by
  have h1 := ok.elen
  rw [ok.ws, (wSort_perm _).length_eq]
  exact Nat.le_trans (List.length_filter_le _ _) h1
end NetOk
theorem idx_of {o : List Nat} (hn : o.Nodup) {i c : Nat} (h : o[i]? = some c) : o.idxOf c = i := by
  have hi : i < o.length := (List.getElem?_eq_some_iff.mp h).1
  have e : o[i] = c := (List.getElem?_eq_some_iff.mp h).2
  rw [← e]
  exact List.Nodup.idxOf_getElem hn i hi
/-- the kinds by new numbers -/
theorem kd_new {G : Gr} {o : List Nat} {c : Nat} (hm : c ∈ o) : (o.map G.kind).getD (o.idxOf c) "" = G.kind c := by
  have hlt := List.idxOf_lt_length_of_mem hm
  rw [List.getD_eq_getElem?_getD, List.getElem?_map, List.getElem?_eq_getElem hlt, List.getElem_idxOf hlt]
  rfl
theorem ren_port {G : Gr} {o : List Nat} (hp : o.Perm (List.range G.n)) {p : Port} (h : isPort G.kd G.ends p) : isPort (o.map G.kind) G.ends (ren o p) := by
  rcases h with ⟨h1, h2, h3⟩ | ⟨h1, h2, h3, h4⟩
  · refine .inl ⟨?_, h2, h3⟩
    show plc o p.1 = -1
    unfold plc
    rw [if_pos (by omega), h1]
  · have hm : p.1.toNat ∈ o := hp.mem_iff.mpr (List.mem_range.mpr (by show p.1.toNat < G.kd.length; omega))
    have hlt := List.idxOf_lt_length_of_mem hm
    have e : (ren o p).1 = (o.idxOf p.1.toNat : Int) := by
      show plc o p.1 = _
      unfold plc
      rw [if_neg (by omega)]
    refine .inr ⟨by omega, ?_, h3, ?_⟩
    · rw [e, List.length_map]
      omega
    · rw [e, Int.toNat_natCast, kd_new hm]
      exact h4
theorem ren_onto {G : Gr} {o : List Nat} (hp : o.Perm (List.range G.n)) {q : Port} (h : isPort (o.map G.kind) G.ends q) : ∃ p, isPort G.kd G.ends p ∧ ren o p = q := by
  have hn : o.Nodup := hp.nodup_iff.mpr List.nodup_range
  rcases h with ⟨h1, h2, h3⟩ | ⟨h1, h2, h3, h4⟩
  · refine ⟨q, .inl ⟨h1, h2, h3⟩, Prod.ext ?_ rfl⟩
    show plc o q.1 = q.1
    unfold plc
    rw [if_pos (by omega)]
  · rw [List.length_map] at h2
    have hlt : q.1.toNat < o.length := by omega
    have hc : o[q.1.toNat]? = some o[q.1.toNat] := List.getElem?_eq_getElem hlt
    have hcn : o[q.1.toNat] < G.n := List.mem_range.mp (hp.mem_iff.mp (List.getElem_mem hlt))
    rw [List.getD_eq_getElem?_getD, List.getElem?_map, hc] at h4
    refine ⟨((o[q.1.toNat] : Nat), q.2), .inr ⟨Int.natCast_nonneg _, by show ((o[q.1.toNat] : Nat) : Int) < (G.kd.length : Int); unfold Gr.n at hcn; omega, h3, ?_⟩, Prod.ext ?_ rfl⟩
    · show q.2 < (arS (G.kd.getD (((o[q.1.toNat] : Nat) : Int)).toNat "") : Int)
      rw [Int.toNat_natCast]
      exact h4
    · show plc o ((o[q.1.toNat] : Nat) : Int) = q.1
      unfold plc
      rw [if_neg (by omega), Int.toNat_natCast, idx_of hn hc]
      omega
theorem mkN_ok {kd : List Str} {ends : Nat} {loops : Int} {ws : List (Port × Port)} (hk : ∀ x ∈ kd, KindS x) (hl : kd.length ≤ 1000) (he : ends ≤ 12) (hne : ∀ e ∈ ws, e.1 ≠ e.2) (hf : Fits (portsL kd ends) ws) : NetOk (mkN kd ends loops (linksOf ws)) := by
  have ok := mkG_ok hk hl he hne hf
  have hp := normF_perm ok
  have hgk : (mkG kd ends (linksOf ws)).kd = kd := rfl
  have hge : (mkG kd ends (linksOf ws)).ends = ends := rfl
  have hnd : ((linksOf ws).map Prod.fst).Nodup := (hf.perm.nodup_iff).mpr (portsL_nodup kd ends)
  have hkeys : ∀ p ∈ (linksOf ws).map Prod.fst, isPort kd ends p := fun p hp => mem_portsL.mp (hf.perm.mem_iff.mp hp)
  have hp2 : (normF (mkG kd ends (linksOf ws))).Perm (List.range kd.length) := hp
  unfold mkN
  generalize normF (mkG kd ends (linksOf ws)) = o at hp hp2 ⊢
  have hlen : o.length = kd.length := by rw [hp2.length_eq, List.length_range]
  refine ⟨fun x hx => ?_, ?_, he, ?_, fun e hx => ?_, fun e hx => ?_, rfl⟩
  · obtain ⟨c, hc, rfl⟩ := List.mem_map.mp hx
    exact ok.kinds _ (kind_mem (List.mem_range.mp (hp.mem_iff.mp hc)))
  · show (o.map _).length ≤ 1000
    rw [List.length_map]
    omega
  · refine (List.perm_ext_iff_of_nodup (renE_nodup hp2 hnd hkeys) (portsL_nodup _ _)).mpr fun q => ⟨fun hq => ?_, fun hq => ?_⟩
    · obtain ⟨e, h1, rfl⟩ := List.mem_map.mp hq
      obtain ⟨e0, h2, rfl⟩ := List.mem_map.mp h1
      exact mem_portsL.mpr (ren_port (G := mkG kd ends (linksOf ws)) hp (hkeys _ (List.mem_map.mpr ⟨e0, h2, rfl⟩)))
    · obtain ⟨p, h1, rfl⟩ := ren_onto (G := mkG kd ends (linksOf ws)) hp (mem_portsL.mp hq)
      obtain ⟨e, h2, rfl⟩ := List.mem_map.mp (hf.perm.mem_iff.mpr (mem_portsL.mpr h1))
      exact List.mem_map.mpr ⟨renE o e, List.mem_map.mpr ⟨e, h2, rfl⟩, rfl⟩
  · obtain ⟨e0, h2, rfl⟩ := List.mem_map.mp hx
    exact List.mem_map.mpr ⟨(e0.2, e0.1), linksOf_sym h2, rfl⟩
  · obtain ⟨e0, h2, rfl⟩ := List.mem_map.mp hx
    intro z
    exact linksOf_ne hne h2 (ren_inj hp2 (hkeys _ (List.mem_map.mpr ⟨e0, h2, rfl⟩)) (hkeys _ (List.mem_map.mpr ⟨(e0.2, e0.1), linksOf_sym h2, rfl⟩)) z)
/-! ### counting over wires -/
/-- a property of the two ports that does not ask which comes first: as many of the new wires have it -/
theorem ws_count {kd : List Str} {ends : Nat} {loops : Int} {ws : List (Port × Port)} (hk : ∀ x ∈ kd, KindS x) (hl : kd.length ≤ 1000) (he : ends ≤ 12) (hne : ∀ e ∈ ws, e.1 ≠ e.2) (hf : Fits (portsL kd ends) ws) (f : Port × Port → Bool)
    (hs : ∀ e, f (e.2, e.1) = f e) (hr : ∀ o e, f (renE o e) = f e) : ((mkN kd ends loops (linksOf ws)).ws.filter f).length = (ws.filter f).length := by
  have ok := mkG_ok hk hl he hne hf
  have hp2 : (normF (mkG kd ends (linksOf ws))).Perm (List.range kd.length) := normF_perm ok
  have hkeys : ∀ p ∈ (linksOf ws).map Prod.fst, isPort kd ends p := fun p hp => mem_portsL.mp (hf.perm.mem_iff.mp hp)
  unfold mkN
  generalize normF (mkG kd ends (linksOf ws)) = o at hp2 ⊢
  show ((wSort (((linksOf ws).map (renE o)).filter fun e => pLt e.1 e.2)).filter f).length = _
  rw [((wSort_perm _).filter f).length_eq]
  have key : ∀ (l : List (Port × Port)), (∀ e ∈ l, e ∈ ws) → ((((linksOf l).map (renE o)).filter fun e => pLt e.1 e.2).filter f).length = (l.filter f).length := by
    intro l
    induction l with
    | nil => intro _; rfl
    | cons e l ih =>
      intro hl
      obtain ⟨a, b⟩ := e
      rw [linksOf_cons, List.map_cons, List.map_cons, List.filter_cons, List.filter_cons, List.filter_cons (x := (a, b))]
      have hm : (a, b) ∈ linksOf ws := by
        unfold linksOf
        exact List.mem_flatten.mpr ⟨_, List.mem_map.mpr ⟨(a, b), hl _ List.mem_cons_self, rfl⟩, by simp⟩
      have ha := hkeys a (List.mem_map.mpr ⟨(a, b), hm, rfl⟩)
      have hb := hkeys b (List.mem_map.mpr ⟨(b, a), linksOf_sym hm, rfl⟩)
      have hne2 : ren o a ≠ ren o b := fun z => hne (a, b) (hl _ List.mem_cons_self) (ren_inj hp2 ha hb z)
      have ih' := ih fun e he => hl e (List.mem_cons_of_mem _ he)
      have f1 : f (renE o (a, b)) = f (a, b) := hr o (a, b)
      have f2 : f (renE o (b, a)) = f (a, b) := (hr o (b, a)).trans (hs (a, b))
      by_cases c : pLt (ren o a) (ren o b) = true
      · have c2 : pLt (ren o b) (ren o a) = false := by
          rw [pLt_false]
          rw [pLt_iff] at c
          omega
        rw [if_pos (show pLt (renE o (a, b)).1 (renE o (a, b)).2 = true from c), if_neg (show ¬ pLt (renE o (b, a)).1 (renE o (b, a)).2 = true by rw [show pLt (renE o (b, a)).1 (renE o (b, a)).2 = false from c2]; exact Bool.false_ne_true)]
        rw [List.filter_cons, f1]
        split
        · rw [List.length_cons, List.length_cons, ih']
        · exact ih'
      · have c2 : pLt (ren o b) (ren o a) = true := by
          rw [pLt_iff]
          rw [Bool.not_eq_true, pLt_false] at c
          rw [Ne, port_ext] at hne2
          omega
        rw [if_neg (show ¬ pLt (renE o (a, b)).1 (renE o (a, b)).2 = true from c), if_pos (show pLt (renE o (b, a)).1 (renE o (b, a)).2 = true from c2)]
        rw [List.filter_cons, f2]
        split
        · rw [List.length_cons, List.length_cons, ih']
        · exact ih'
  exact key ws fun _ h => h
end Me
namespace Me
open PySem PySem.Spec PyProof.Rows L2 Mc
variable {P : Program} {w : World} {K : PySem.W.Frag} {mg : Str → Option Value} {base : Heap}
/-- len(net) -/
def spLen (K : PySem.W.Frag) : Sp := fun vs H Q _ => ∃ (x : Addr) (N : NetD), vs = [.ref x] ∧ NetV K H x N ∧ NetOk N ∧ Q (.int (N.kd.length : Int)) H
theorem ok_len (T : Txt P w K mg) : FnR P w K mg base (L2.CX P w) 1 (He.ma K (He.ga K "Net") "__len__") (spLen K) := by
  obtain ⟨fd, F⟩ := T.f_Net___len__
  refine fnR_body F sc_Net___len__ (F.bindsN (fun _ _ _ _ _ _ us hl => match us, hl with | [_], _ => rfl)) ?_ ?_
  · rintro vs H Q E ⟨x, N, rfl, _⟩
    rfl
  · rintro cdv A outer s H vs Q E hr ⟨x, N, rfl, ⟨dx, kt, lk, wt, kvs, xs, h1, h2, h3, h4, h5, h6⟩, ok, q⟩
    refine ⟨_, (PSs.nox (pss_one (ps_ret (pe_callB (call_len : CallR _ (.builtin "len") (Mc.rLen K)) (by rfl) T.m_len (by decide +kernel) (pa_cons (pe_fld (pv 0) rfl : PE _ _ (tFld K _ _)) pa_nil))))), ?_⟩
    refine ⟨_, rfl, x, _, dx, _, _, rfl, h1, T.cl_Net, T.n_Net_kinds, rfl, _, N.kd.length, rfl, .inr ⟨_, .inl (.inl h2), by rw [List.length_map]⟩, q⟩
def spGet (K : PySem.W.Frag) : Sp := fun vs H Q E => ∃ (x : Addr) (N : NetD) (v : V) (d : PyData), vs = [.ref x, v] ∧ NetV K H x N ∧ NetOk N ∧ Dq K H v d ∧ (∀ ds, d = .tuple ds → ∃ t xs, v = .ref t ∧ H t = some (.tup xs) ∧ DpAll K H xs ds) ∧
  (∀ p r u, d = portD p → (p, r) ∈ N.es → PV H u r → Q u H) ∧ ((∀ p r, d = portD p → (p, r) ∉ N.es) → Rz K H E "InvalidPort" v)
theorem port_inj {p q : Port} (h : portD p = portD q) : p = q := by
  unfold portD at h
  have h1 := PyData.tuple.inj h
  have h2 := List.cons.inj h1
  have h3 := List.cons.inj h2.2
  exact Prod.ext (PyData.int.inj h2.1) (PyData.int.inj h3.1)
theorem dq_port {H : Hp} {v : V} {p : Port} (htop : ∃ t xs, v = .ref t ∧ H t = some (.tup xs) ∧ DpAll K H xs [.int p.1, .int p.2]) : PV H v p := by
  obtain ⟨t, xs, rfl, ht, hall⟩ := htop
  cases hall with
  | cons a hall =>
    cases a
    cases hall with
    | cons a hall =>
      cases a
      cases hall
      exact ⟨t, rfl, ht⟩
theorem ok_getitem (T : Txt P w K mg) : FnR P w K mg base (L2.CX P w) 3 (He.ma K (He.ga K "Net") "__getitem__") (spGet K) := by
  have G_is_port := ok_is_port (base := base) T
  obtain ⟨fd, F⟩ := T.f_Net___getitem__
  refine fnR_body F sc_Net___getitem__ (F.bindsN (fun _ _ _ _ _ _ us hl => match us, hl with | [_, _], _ => rfl)) ?_ ?_
  · rintro vs H Q E ⟨x, N, v, d, rfl, _⟩
    rfl
  · rintro cdv A outer s H vs Q E hr ⟨x, N, v, d, rfl, ⟨dx, kt, lk, wt, kvs, xs, h1, h2, h3, h4, h5, h6⟩, ok, hd, htop, q1, q2⟩
    refine ⟨_, (Mc.pss_mid (ps_if (PW.pt (pw_or (pt_not (pt_val (Mc.pe_callR G_is_port (hr.mono (by decide)) (by rfl) T.g_is_port T.k_is_port pass_no (pa_cons (pv 1) pa_nil)))) (pw_or1 (pt_cmp (pc_dnotin (hu_of hr) (pv 1) (pe_fld (pv 0) rfl : PE _ _ (tFld K _ _))))))) (pss_one (Mc.ps_raiseMe rfl T.me T.x_InvalidPort T.m_super T.g_InvalidPort (hr.mono (by decide) : Room 1 _) (takes_of rfl rfl rfl rfl) (by exact (pa_cons (pv 1) pa_nil)))) pss_nil)
      (pss_one (ps_ret (pe_dget (hu_of hr) (pe_fld (pv 0) rfl : PE _ _ (tFld K _ _)) (pv 1) (fun _ _ => rfl))))), ?_⟩
    refine ⟨fun τ G => τ = [some (.ref x), some v] ∧ G = H ∧ ∃ p, d = portD p ∧ p ∈ N.es.map Prod.fst, ?_, ?_⟩
    · refine ⟨_, rfl, v, d, rfl, hd, _, rfl, ?_⟩
      cases c : isPortD d with
      | false =>
        refine iteT (iteT ⟨_, rfl, _, rfl, fun q hq => q2 ?_ _ q (Ext.refl _) hq⟩)
        rintro p r rfl hm
        rw [show isPortD (portD p) = true from port_portOk (ok.port hm)] at c
        cases c
      | true =>
        obtain ⟨a, b, rfl, _⟩ := isPortD_ok c
        have hp : PV H v (a, b) := dq_port (htop _ rfl)
        obtain ⟨t, rfl, ht⟩ := hp
        refine iteF ⟨_, rfl, _, rfl, x, _, dx, _, _, rfl, h1, T.cl_Net, T.n_Net_links, rfl, lk, _, rfl, .inr ⟨kvs, kP (a, b), t, .inl h3, rfl, ht, rfl⟩, _, rfl, ?_⟩
        rw [links_some h4]
        by_cases m : (a, b) ∈ N.es.map Prod.fst
        · rw [decide_eq_true m]
          exact iteF ⟨rfl, rfl, (a, b), rfl, m⟩
        · rw [decide_eq_false m]
          refine iteT ⟨_, rfl, _, rfl, fun q hq => q2 ?_ _ q (Ext.refl _) hq⟩
          intro p r e hm
          have := port_inj (p := (a, b)) e
          subst this
          exact m (List.mem_map.mpr ⟨_, hm, rfl⟩)
    rintro _ G ⟨rfl, rfl, p, rfl, hm⟩
    obtain ⟨e, he, rfl⟩ := List.mem_map.mp hm
    obtain ⟨t, rfl, ht⟩ := dq_port (htop _ rfl)
    obtain ⟨u, hu, hp⟩ := links_get h4 ok.nodup e he
    exact ⟨_, rfl, x, _, dx, _, _, rfl, h1, T.cl_Net, T.n_Net_links, rfl, _, rfl, lk, u, rfl, .inr ⟨kvs, kP e.1, t, .inl h3, rfl, ht, hu.symm⟩, q1 e.1 e.2 u rfl he hp⟩
end Me
namespace Me
open PySem PySem.Spec PyProof.Rows L2 Mc
variable {P : Program} {w : World} {K : PySem.W.Frag} {mg : Str → Option Value} {base : Heap}
/-! ### the active pairs -/
def actB (e : Port × Port) : Bool := decide (0 ≤ e.1.1) && (decide (e.1.2 = 0) && decide (e.2.2 = 0))
def actF (e : Port × Port) : Option Port := if actB e = true then some (e.1.1, e.2.1) else none
def actL (ws : List (Port × Port)) : List Port := ws.filterMap actF
def spAct (K : PySem.W.Frag) : Sp := fun vs H Q _ => ∃ (x : Addr) (N : NetD), vs = [.ref x] ∧ NetV K H x N ∧ NetOk N ∧ ∀ t xs H', H t = none → H' t = some (.tup xs) → Paired (PV H') xs (actL N.ws) → Ext H H' → Q (.ref t) H'
theorem dec_int0 (i : Int) : decide (V.int i = V.int 0) = decide (i = 0) := by
  by_cases h : i = 0
  · subst h; rfl
  · rw [decide_eq_false h, decide_eq_false fun z => h (V.int.inj z)]
theorem ok_active_pairs (T : Txt P w K mg) : FnR P w K mg base (L2.CX P w) 1 (He.ga K "active_pairs") (spAct K) := by
  obtain ⟨fd, F⟩ := T.f_active_pairs
  refine fnR_body F sc_active_pairs (F.bindsN (fun _ _ _ _ _ _ us hl => match us, hl with | [_], _ => rfl)) ?_ ?_
  · rintro vs H Q E ⟨x, N, rfl, _⟩
    rfl
  · rintro cdv A outer s H vs Q E hr ⟨x, N, rfl, ⟨dx, kt, lk, wt, kvs, xs, h1, h2, h3, h4, h5, h6⟩, ok, q⟩
    refine ⟨_, (PSs.nox (Mc.pss_mid (ps_set (i := 1) sc_active_pairs.nd rfl (Or.inl rfl) (pe_lst pa_nil))
      (Mc.pss_mid (ps_for PassesOwn.never rfl (pi_tup (pe_fld (pv 0) rfl : PE _ _ (tFld K _ _)) : PI _ _ _ (iTup K _)) (pg_tup (by rfl) (pgs_cons (pg_name (i := 2) sc_active_pairs.nd rfl (Or.inl rfl)) (pgs_cons (pg_name (i := 3) sc_active_pairs.nd rfl (Or.inl rfl)) pgs_nil)) : PG _ _ (gTup K 2 (gCons (gName 2) (gCons (gName 3) gNil))))
      (pss_one (ps_if (PW.pt (pw_and (pt_cmpR op_ge (pe_ix (ix_tup : IxR _ (rIxT K)) (pv 2) pe_int (fun _ _ => rfl)) pe_int (nomark _)) (pw_and (pt_cmpR op_eq (pe_ix (ix_tup : IxR _ (rIxT K)) (pv 2) pe_int (fun _ _ => rfl)) pe_int (nomark _)) (pw_and1 (pt_cmpR op_eq (pe_ix (ix_tup : IxR _ (rIxT K)) (pv 3) pe_int (fun _ _ => rfl)) pe_int (nomark _)))))) (pss_one (ps_expr (pe_bm PySem.F.plainAttrs_list PySem.F.slot_list_append PySem.F.type_list_append mt_append (pv 1) (pa_cons (pe_tup (pa_cons (pe_ix (ix_tup : IxR _ (rIxT K)) (pv 2) pe_int (fun _ _ => rfl)) (pa_cons (pe_ix (ix_tup : IxR _ (rIxT K)) (pv 3) pe_int (fun _ _ => rfl)) pa_nil))) pa_nil) : PE _ _ (tBM K _ _ _ _)))) pss_nil)))
      (pss_one (ps_ret (pe_callTy (call_tuple_of : CallR _ (.type "tuple") (Mc.rTupleOf K)) (by rfl) T.m_tuple (by decide +kernel) (pa_cons (pv 1) pa_nil))))))), ?_⟩
    have wl := ok.wlen
    have xl : xs.length = N.ws.length := Paired.length h6
    refine ⟨fun τ G => ∃ L, τ = [some (.ref x), some (.ref L), none, none] ∧ H L = none ∧ G L = some (.lst []) ∧ Ext H G, ⟨by show 0 ≤ sizeLine; decide, fun L hL => ⟨L, rfl, hL, upd_same, Ext.new hL⟩⟩, ?_⟩
    rintro _ G1 ⟨L, rfl, hL, hG1, hE1⟩
    refine ⟨fun τ G => ∃ y2 y3 ys, τ = [some (.ref x), some (.ref L), y2, y3] ∧ G L = some (.lst ys) ∧ Paired (PV G) ys (actL N.ws) ∧ Ext H G, ?_, ?_⟩
    · refine ⟨_, rfl, x, _, dx, _, _, rfl, hE1 _ _ h1, T.cl_Net, T.n_Net_wires, rfl, wt, rfl, ⟨_, .inl (.inl (hE1 _ _ h5))⟩, for_it (walk_tup (xs := xs)) (fun i σ G => ∃ y2 y3 ys, σ = [some (.ref x), some (.ref L), y2, y3] ∧ G L = some (.lst ys) ∧ Paired (PV G) ys (actL (N.ws.take i)) ∧ Ext H G)
        ⟨_, _, [], rfl, hG1, .nil, hE1⟩ (fun i σ G _ ⟨_, _, _, _, _, _, h⟩ => .inl (.inl (h _ _ h5))) ?_ ?_⟩
      · rintro i z σ G2 G3 hi ⟨y2, y3, ys, rfl, hl, hP, hE⟩ ⟨rfl, hz⟩
        obtain ⟨e, he, t, pa, ra, rfl, ht, hp, hr'⟩ := paired_get h6 i z hz
        have hp3 : SqT K G3 pa (vP e.1) := .inl (.inl (hE _ _ hp))
        have hr3 : SqT K G3 ra (vP e.2) := .inl (.inl (hE _ _ hr'))
        have yl : ys.length ≤ N.ws.length := by
          have h1 := Paired.length hP
          have h2 := List.length_filterMap_le actF (N.ws.take i)
          rw [List.length_take] at h2
          unfold actL at h1
          omega
        have step : actL (N.ws.take (i + 1)) = actL (N.ws.take i) ++ (actF e).toList := by
          unfold actL
          rw [take_snoc he, List.filterMap_append]
          cases h : actF e <;> simp [h]
        refine ⟨t, _, rfl, .inl (.inl (hE _ _ ht)), rfl, _, _, rfl, _, _, rfl, rfl, ?_⟩
        have no : actB e = false → ∃ y2 y3 ys, [some (.ref x), some (.ref L), some (V.ref pa), some (V.ref ra)] = [some (.ref x), some (.ref L), y2, y3] ∧ G3 L = some (.lst ys) ∧ Paired (PV G3) ys (actL (N.ws.take (i + 1))) ∧ Ext H G3 := fun c => by
          refine ⟨_, _, ys, rfl, hl, ?_, hE⟩
          rw [step]
          unfold actF
          rw [c]
          simpa using hP
        refine ⟨_, rfl, pa, _, 0, _, rfl, rfl, hp3, rfl, _, _, rfl, rfl, _, rfl, ?_⟩
        by_cases c1 : 0 ≤ e.1.1
        · rw [decide_eq_true c1]
          refine iteT ⟨_, rfl, pa, _, 1, _, rfl, rfl, hp3, rfl, rfl, _, rfl, ?_⟩
          rw [dec_int0]
          by_cases c2 : e.1.2 = 0
          · rw [decide_eq_true c2]
            refine iteT ⟨_, rfl, ra, _, 1, _, rfl, rfl, hr3, rfl, rfl, _, rfl, ?_⟩
            rw [dec_int0]
            by_cases c3 : e.2.2 = 0
            · rw [decide_eq_true c3]
              have cb : actB e = true := by
                unfold actB
                rw [decide_eq_true c1, decide_eq_true c2, decide_eq_true c3]
                rfl
              refine iteT ⟨_, rfl, .inl ⟨rfl, _, SqL.of hl⟩, _, rfl, pa, _, 0, _, rfl, rfl, hp3, rfl, _, rfl, ra, _, 0, _, rfl, rfl, hr3, rfl, (by show 2 ≤ sizeLine; decide), fun t2 ht2 => ⟨L, ys, _, rfl, rfl, Ext.new ht2 _ _ hl, szl (by omega), ?_⟩⟩
              have hTL : TExt (upd G3 t2 (.tup [.int e.1.1, .int e.2.1])) (upd (upd G3 t2 (.tup [.int e.1.1, .int e.2.1])) L (.lst (ys ++ [.ref t2]))) := TExt.put (Ext.new ht2 _ _ hl) fun z => z
              refine ⟨_, _, ys ++ [.ref t2], rfl, upd_same, ?_, keepH (hE.trans (Ext.new ht2)) hL⟩
              rw [step]
              unfold actF
              rw [if_pos cb]
              exact paired_snoc (pv_mono.paired ((Ext.new ht2).t.trans hTL) hP) (pv_mono hTL ⟨t2, rfl, upd_same⟩)
            · rw [decide_eq_false c3]
              exact iteF (no (by unfold actB; rw [decide_eq_false c3, Bool.and_false, Bool.and_false]))
          · rw [decide_eq_false c2]
            exact iteF (iteF (no (by unfold actB; rw [decide_eq_false c2, Bool.false_and, Bool.and_false])))
        · rw [decide_eq_false c1]
          exact iteF (iteF (no (by unfold actB; rw [decide_eq_false c1, Bool.false_and])))
      · rintro σ G2 ⟨y2, y3, ys, rfl, hl, hP, hE⟩
        rw [xl, List.take_length] at hP
        exact ⟨y2, y3, ys, rfl, hl, hP, hE⟩
    rintro _ G2 ⟨y2, y3, ys, rfl, hl, hP, hE⟩
    exact ⟨_, rfl, L, ys, rfl, .inl ⟨SqL.of hl, fun t ht => q t ys _ (hE.fresh ht) upd_same (pv_mono.paired (Ext.new ht).t hP) (hE.trans (Ext.new ht))⟩⟩
end Me
namespace Me
open PySem PySem.Spec PyProof.Rows L2 Mc
variable {P : Program} {w : World} {K : PySem.W.Frag} {mg : Str → Option Value} {base : Heap}
/-! ### cells, boxes, draws -/
/-- a cell of the script, or a number by its place -/
def spCell (K : PySem.W.Frag) : Sp := fun vs H Q _ => ∃ (a : Addr) (ns : List Int) (k : Int), vs = [.ref a, .int k] ∧ SqL K H a (ns.map V.int) ∧ 0 ≤ k ∧ ∀ z, Q (.int z) H
theorem ok__law_cell (T : Txt P w K mg) : FnR P w K mg base (L2.CX P w) 1 (He.ga K "_law_cell") (spCell K) := by
  obtain ⟨fd, F⟩ := T.f__law_cell
  refine fnR_body F sc__law_cell (F.bindsN (fun _ _ _ _ _ _ us hl => match us, hl with | [_, _], _ => rfl)) ?_ ?_
  · rintro vs H Q E ⟨a, ns, k, rfl, _⟩
    rfl
  · rintro cdv A outer s H vs Q E hr ⟨a, ns, k, rfl, hs, hk, q⟩
    refine ⟨_, (PSs.nox (pss_one (ps_ret (pe_ifExp (pt_cmpR op_lt (pv 1) (pe_callB (call_len : CallR _ (.builtin "len") (Mc.rLen K)) (by rfl) T.m_len (by decide +kernel) (pa_cons (pv 0) pa_nil)) (nomark _)) (pe_ix (ix_list : IxR _ (rIxL K)) (pv 0) (pv 1) (fun _ _ => rfl)) (pe_op op_add (pe_op op_mul pe_int (pv 1)) pe_int))))), ?_⟩
    refine ⟨_, rfl, _, rfl, _, (ns.map V.int).length, rfl, .inl ⟨_, hs, rfl⟩, _, _, rfl, rfl, _, rfl, ?_⟩
    by_cases h : k < ((ns.map V.int).length : Int)
    · rw [decide_eq_true h]
      obtain ⟨z, hz⟩ : ∃ z, ns[k.toNat]? = some z := by
        rw [List.length_map] at h
        exact ⟨_, List.getElem?_eq_getElem (by omega)⟩
      refine iteT ⟨_, rfl, _, rfl, a, _, k, .int z, rfl, rfl, hs, ?_, q z⟩
      unfold atI ixN
      rw [if_pos hk, if_pos h]
      show (ns.map V.int)[k.toNat]? = _
      rw [List.getElem?_map, hz]
      rfl
    · rw [decide_eq_false h]
      exact iteF ⟨_, rfl, _, _, rfl, rfl, .inl ⟨by decide, by decide⟩, _, _, rfl, rfl, q _⟩
/-- a box: what is left of a large cell, the seed, the number of draws so far -/
structure BoxAt (H : Hp) (b : Addr) (n : Int) : Prop where
  ex : ∃ x0 x1 x2 : Int, H b = some (.lst [.int x0, .int x1, .int x2]) ∧ 0 ≤ x0 ∧ 0 ≤ x1 ∧ x1 < 2147483648 ∧ 0 ≤ x2 ∧ x2 ≤ n
def spBox : Sp := fun vs H Q _ => ∃ z : Int, vs = [.int z] ∧ ∀ p H', H p = none → BoxAt H' p 0 → (∀ c, c ≠ p → H' c = H c) → Q (.ref p) H'
theorem ok__law_box (T : Txt P w K mg) : FnR P w K mg base (L2.CX P w) 1 (He.ga K "_law_box") spBox := by
  obtain ⟨fd, F⟩ := T.f__law_box
  refine fnR_body F sc__law_box (F.bindsN (fun _ _ _ _ _ _ us hl => match us, hl with | [_], _ => rfl)) ?_ ?_
  · rintro vs H Q E ⟨z, rfl, _⟩
    rfl
  · rintro cdv A outer s H vs Q E hr ⟨z, rfl, q⟩
    refine ⟨_, (PSs.nox (pss_one (ps_ret (pe_lst (pa_cons (pe_callB (call_max2 rfl) (by rfl) T.m_max (by decide +kernel) (pa_cons pe_int (pa_cons (pe_op op_sub (pv 0) (pe_op op_pow pe_int pe_int)) pa_nil))) (pa_cons (pe_op op_mod (pv 0) pe_int) (pa_cons pe_int pa_nil))))))), ?_⟩
    refine ⟨_, rfl, _, _, rfl, rfl, ⟨by decide, by decide, by decide⟩, _, _, rfl, rfl, _, _, rfl, _, rfl, _, _, rfl, rfl, (by show (0 : Int) < _; decide), (by show 3 ≤ sizeLine; decide), fun p hp => ?_⟩
    refine q p _ hp ⟨_, _, _, upd_same, ?_, ?_, ?_, Int.le_refl _, Int.le_refl _⟩ (fun c hc => upd_ne hc)
    · split <;> omega
    · exact Int.emod_nonneg _ (by decide)
    · exact Int.lt_trans (Int.emod_lt_of_pos _ (by decide)) (by decide)
/-- one draw -/
def spTake : Sp := fun vs H Q _ => ∃ (b : Addr) (n many : Int), vs = [.ref b, .int many] ∧ BoxAt H b n ∧ n ≤ 1000000000 ∧ 0 < many ∧ many < 1073741824 ∧
  ∀ r H', 0 ≤ r → r < many → BoxAt H' b (n + 1) → (∀ c, c ≠ b → H' c = H c) → Q (.int r) H'
theorem ok__law_take (T : Txt P w K mg) : FnR P w K mg base (L2.CX P w) 1 (He.ga K "_law_take") spTake := by
  obtain ⟨fd, F⟩ := T.f__law_take
  refine fnR_body F sc__law_take (F.bindsN (fun _ _ _ _ _ _ us hl => match us, hl with | [_, _], _ => rfl)) ?_ ?_
  · rintro vs H Q E ⟨b, n, many, rfl, _⟩
    rfl
  · rintro cdv A outer s H vs Q E hr ⟨b, n, many, rfl, ⟨x0, x1, x2, hb, h0, h1, h1', h2, h2'⟩, hn, hm, hm', q⟩
    refine ⟨_, (PSs.nox (pss_cons (ps_if (pt_cmpR op_gt (pe_ix (ix_list : IxR _ (rIxL K)) (pv 0) pe_int (fun _ _ => rfl)) pe_int (nomark _)) (pss_cons (ps_set (i := 2) sc__law_take.nd rfl (Or.inl rfl) (pe_op op_mod (pe_ix (ix_list : IxR _ (rIxL K)) (pv 0) pe_int (fun _ _ => rfl)) (pv 1)))
      (pss_cons (ps_asg (pe_op op_fdiv (pe_ix (ix_list : IxR _ (rIxL K)) (pv 0) pe_int (fun _ _ => rfl)) (pv 1)) (pg_sub (pv 0) pe_int set_list))
      (pss_one (ps_ret (pv 2))))) pss_nil)
      (pss_cons (ps_asg (pe_op op_add (pe_ix (ix_list : IxR _ (rIxL K)) (pv 0) pe_int (fun _ _ => rfl)) pe_int) (pg_sub (pv 0) pe_int set_list))
      (pss_cons (ps_set (i := 3) sc__law_take.nd rfl (Or.inl rfl) (pe_op op_mod (pe_op op_pow (pe_op op_add (pe_op op_add (pe_ix (ix_list : IxR _ (rIxL K)) (pv 0) pe_int (fun _ _ => rfl)) (pe_op op_mul pe_int (pe_ix (ix_list : IxR _ (rIxL K)) (pv 0) pe_int (fun _ _ => rfl)))) pe_int) pe_int) pe_int))
      (pss_cons (ps_set (i := 3) sc__law_take.nd rfl (Or.inl rfl) (pe_op op_mod (pe_op op_pow (pe_op op_add (pv 3) (pe_op op_mul pe_int (pe_ix (ix_list : IxR _ (rIxL K)) (pv 0) pe_int (fun _ _ => rfl)))) pe_int) pe_int))
      (pss_one (ps_ret (pe_op op_mod (pe_op op_fdiv (pv 3) pe_int) (pv 1))))))))), ?_⟩
    have sq : ∀ {H' : Hp} {xs : List V}, H' b = some (.lst xs) → SqL K H' b xs := fun h => SqL.of h
    refine ⟨_, rfl, b, _, 0, _, rfl, rfl, sq hb, rfl, _, _, rfl, rfl, _, rfl, ?_⟩
    by_cases c : 0 < x0
    · rw [decide_eq_true c]
      refine iteT ⟨_, rfl, b, _, 0, _, rfl, rfl, sq hb, rfl, _, rfl, _, _, rfl, rfl, hm, ?_⟩
      refine ⟨_, rfl, b, _, 0, _, rfl, rfl, sq hb, rfl, _, rfl, _, _, rfl, rfl, ⟨hm, hm'⟩, _, rfl, b, _, 0, 0, rfl, rfl, hb, rfl, ?_⟩
      refine ⟨_, rfl, ?_⟩
      exact q _ _ (Int.emod_nonneg _ (by omega)) (Int.emod_lt_of_pos _ hm) ⟨_, _, _, upd_same, Int.ediv_nonneg h0 (by omega), h1, h1', h2, by omega⟩ (fun c hc => upd_ne hc)
    · rw [decide_eq_false c]
      refine iteF ?_
      refine ⟨_, rfl, b, _, 2, _, rfl, rfl, sq hb, rfl, _, _, rfl, rfl, _, rfl, b, _, 2, 2, rfl, rfl, hb, rfl, ?_⟩
      have hb' := @upd_same H b (.lst [.int x0, .int x1, .int (x2 + 1)])
      refine ⟨_, rfl, b, _, 1, _, rfl, rfl, sq hb', rfl, _, rfl, b, _, 2, _, rfl, rfl, sq hb', rfl, _, _, rfl, rfl, .inl ⟨by decide, by decide⟩, _, _, rfl, rfl, _, _, rfl, rfl, _, _, rfl, rfl, ⟨by decide, by decide, ?_⟩, _, _, rfl, rfl, (by show (0 : Int) < _; decide), ?_⟩
      · have : (0 : Int) ≤ x1 + 8390 * (x2 + 1) + 2490 ∧ x1 + 8390 * (x2 + 1) + 2490 < 2 ^ 63 := by omega
        omega
      generalize hk : (x1 + 8390 * (x2 + 1) + 2490) ^ (5 : Int).toNat % 2147483647 = m1
      have hm1 : 0 ≤ m1 ∧ m1 < 2147483647 := by
        rw [← hk]
        exact ⟨Int.emod_nonneg _ (by decide), Int.emod_lt_of_pos _ (by decide)⟩
      refine ⟨_, rfl, _, rfl, b, _, 2, _, rfl, rfl, sq hb', rfl, _, _, rfl, rfl, .inl ⟨by decide, by decide⟩, _, _, rfl, rfl, _, _, rfl, rfl, ⟨by decide, by decide, ?_⟩, _, _, rfl, rfl, (by show (0 : Int) < _; decide), ?_⟩
      · have : (0 : Int) ≤ m1 + 106783 * (x2 + 1) ∧ m1 + 106783 * (x2 + 1) < 2 ^ 63 := by omega
        omega
      refine ⟨_, rfl, _, _, rfl, rfl, ⟨by decide, by decide⟩, _, rfl, _, _, rfl, rfl, hm, ?_⟩
      exact q _ _ (Int.emod_nonneg _ (by omega)) (Int.emod_lt_of_pos _ hm) ⟨_, _, _, upd_same, h0, h1, h1', by omega, by omega⟩ (fun c hc => upd_ne hc)

theorem BoxAt.up {H : Hp} {b : Addr} {n m : Int} (h : BoxAt H b n) (hm : n ≤ m) : BoxAt H b m := by
  obtain ⟨x0, x1, x2, h1, h2, h3, h4, h5, h6⟩ := h.ex
  exact ⟨x0, x1, x2, h1, h2, h3, h4, h5, by omega⟩
theorem BoxAt.same {H H' : Hp} {b : Addr} {n : Int} (h : BoxAt H b n) (e : H' b = H b) : BoxAt H' b n := by
  obtain ⟨x0, x1, x2, h1, h⟩ := h.ex
  exact ⟨x0, x1, x2, e.trans h1, h⟩
theorem BoxAt.ext {H H' : Hp} {b : Addr} {n : Int} (h : BoxAt H b n) (e : Ext H H') : BoxAt H' b n := by
  obtain ⟨x0, x1, x2, h1, h⟩ := h.ex
  exact ⟨x0, x1, x2, e _ _ h1, h⟩
theorem BoxAt.some_ {H : Hp} {b : Addr} {n : Int} (h : BoxAt H b n) : ∃ x y z, H b = some (.lst [x, y, z]) := by
  obtain ⟨x0, x1, x2, h1, h⟩ := h.ex
  exact ⟨_, _, _, h1⟩
theorem BoxAt.ne {H : Hp} {b p : Addr} {n : Int} (h : BoxAt H b n) (hp : H p = none) : b ≠ p := by
  obtain ⟨x, y, z, e⟩ := h.some_
  exact ne_of_none e hp
theorem BoxAt.text {H H' : Hp} {b : Addr} {n : Int} (h : BoxAt H b n) (hx : XB [b] H H') : TExt H H' := hx.text fun a ha o e => by
  obtain ⟨x, y, z, e2⟩ := h.some_
  rw [List.mem_singleton.mp ha, e2] at e
  cases e
  exact fun z => z
/-- one draw, told by what stays -/
theorem xb_of {H H' : Hp} {b : Addr} (h : ∀ c, c ≠ b → H' c = H c) : XB [b] H H' := fun c o hc e => (h c (fun z => hc (by rw [z]; simp))).trans e
end Me
namespace Me
open PySem PySem.Spec PyProof.Rows L2 Mc
variable {P : Program} {w : World} {K : PySem.W.Frag} {mg : Str → Option Value} {base : Heap}
theorem ar_pick (c : Str) : atI [V.int 3, V.int 1] (if decide (V.str c = V.str "eraser") = true then 1 else 0) = some (.int (arS c : Int)) := by
  unfold arS
  by_cases h : c = "eraser"
  · subst h
    rw [if_pos (decide_eq_true rfl), if_pos rfl]
    rfl
  · rw [if_neg (by rw [decide_eq_true_eq]; exact fun z => h (V.str.inj z)), if_neg h]
    rfl
def spPortsL (K : PySem.W.Frag) : Sp := fun vs H Q _ => ∃ (ka : Addr) (kd : List Str) (ends : Nat), vs = [.ref ka, .int (ends : Int)] ∧ SqL K H ka (kd.map V.str) ∧ (∀ x ∈ kd, KindS x) ∧ ends ≤ 12 ∧ kd.length ≤ 1000 ∧
  ∀ p xs H', H p = none → H' p = some (.lst xs) → Paired (PV H') xs (portsL kd ends) → Ext H H' → Q (.ref p) H'
theorem ok__law_ports (T : Txt P w K mg) : FnR P w K mg base (L2.CX P w) 1 (He.ga K "_law_ports") (spPortsL K) := by
  obtain ⟨fd, F⟩ := T.f__law_ports
  refine fnR_body F sc__law_ports (F.bindsN (fun _ _ _ _ _ _ us hl => match us, hl with | [_, _], _ => rfl)) ?_ ?_
  · rintro vs H Q E ⟨ka, kd, ends, rfl, _⟩
    rfl
  · rintro cdv A outer s H vs Q E hr ⟨ka, kd, ends, rfl, hk, hkd, he, hl, q⟩
    refine ⟨_, (PSs.nox (Mc.pss_mid (ps_setLc (i := 2) (own := [("_law_end", 4)]) rfl sc__law_ports.nd rfl rfl (sw_true rfl rfl rfl (by decide +kernel)) (pi_range1 (by rfl) T.m_range (pa_cons (pv 1) pa_nil)) (blkOk_by (own := [("_law_end", 4)]) (N := N__law_ports) (sc := defScope s__law_ports) (by decide +kernel)) (fun _ _ _ _ _ => (pg_name (i := 4) sc__law_ports.nd rfl (Or.inl rfl))) (fun _ _ _ _ _ => pts_nil) (fun _ _ _ _ _ => (pe_tup (pa_cons (pe_un un_neg pe_int) (pa_cons (pv 4) pa_nil)))))
      (Mc.pss_mid (ps_for PassesOwn.never rfl (pi_range1 (by rfl) T.m_range (pa_cons (pe_callB (call_len : CallR _ (.builtin "len") (Mc.rLen K)) (by rfl) T.m_len (by decide +kernel) (pa_cons (pv 0) pa_nil)) pa_nil)) (pg_name (i := 3) sc__law_ports.nd rfl (Or.inr rfl))
      (pss_one (ps_set (i := 2) sc__law_ports.nd rfl (Or.inl rfl) (pe_op op_cat (pv 2) (pe_lc (own := [("_law_number", 5)]) rfl sc__law_ports.nd (pi_range1 (by rfl) T.m_range (pa_cons (pe_ix (ix_list : IxR _ (rIxL K)) (pe_lst (pa_cons pe_int (pa_cons pe_int pa_nil))) (pe_callTy call_int1 (by rfl) T.m_int (by decide +kernel) (pa_cons (pe_cmpR op_eq (pe_ix (ix_list : IxR _ (rIxL K)) (pv 0) (pv 3) (fun _ _ => rfl)) pe_str (nomark _)) pa_nil)) (fun _ _ => rfl)) pa_nil)) (blkOk_by (own := [("_law_number", 5)]) (N := N__law_ports) (sc := defScope s__law_ports) (by decide +kernel)) (fun _ _ _ _ _ => (pg_name (i := 5) sc__law_ports.nd rfl (Or.inl rfl))) (fun _ _ _ _ _ => pts_nil) (fun _ _ _ _ _ => (pe_tup (pa_cons (pv 3) (pa_cons (pv 5) pa_nil)))))))))
      (pss_one (ps_ret (pv 2)))))), ?_⟩
    refine ⟨fun τ G => ∃ p xs, τ = [some (.ref ka), some (.int (ends : Int)), some (.ref p), none, none, none] ∧ H p = none ∧ G p = some (.lst xs) ∧ Paired (PV G) xs (portsL (kd.take 0) ends) ∧ Ext H G, ?_, ?_⟩
    · refine ⟨_, rfl, _, rfl, by omega, by omega, fun p hp => lc_all walk_range PV pv_mono (fun (k : Nat) => ((-1 : Int), (k : Int))) hp (by omega) (fun _ _ => trivial) ?_ ?_⟩
      · rintro i x G G' Qe hi hE ⟨rfl, hx⟩ q'
        obtain rfl := rng0 hx
        exact ⟨rfl, _, rfl, _, rfl, (by show 2 ≤ sizeLine; decide), fun t ht => q' _ _ (Ext.new ht) ⟨t, rfl, upd_same⟩⟩
      · rintro zs G hz hP hE
        rw [Int.toNat_natCast] at hP
        refine ⟨p, zs, rfl, hp, hz, ?_, hE⟩
        simpa [portsL] using hP
    rintro _ G1 ⟨p, xs, rfl, hp, h1, hP1, hE1⟩
    refine ⟨fun τ G => ∃ p xs y3, τ = [some (.ref ka), some (.int (ends : Int)), some (.ref p), y3, none, none] ∧ H p = none ∧ G p = some (.lst xs) ∧ Paired (PV G) xs (portsL kd ends) ∧ Ext H G, ?_, ?_⟩
    · refine ⟨_, rfl, _, kd.length, rfl, .inl ⟨_, hE1.sqL hk, by rw [List.length_map]⟩, _, rfl, by omega, by omega, for_it walk_range (fun i σ G => ∃ p xs y3, σ = [some (.ref ka), some (.int (ends : Int)), some (.ref p), y3, none, none] ∧ H p = none ∧ G p = some (.lst xs) ∧ Paired (PV G) xs (portsL (kd.take i) ends) ∧ Ext H G)
        ⟨p, xs, _, rfl, hp, h1, hP1, hE1⟩ (fun _ _ _ _ _ => trivial) ?_ ?_⟩
      · rintro i x σ G2 G3 hi ⟨p, xs, y3, rfl, hp, h2, hP2, hE2⟩ ⟨rfl, hx⟩
        obtain rfl := rng0 hx
        rw [Int.toNat_natCast] at hi
        have hc : kd[i]? = some kd[i] := List.getElem?_eq_getElem hi
        generalize kd[i] = c at hc
        have a3 := arS_le c
        refine ⟨_, rfl, (by show 2 ≤ sizeLine; decide), fun l hl' => ?_⟩
        have hE3 := hE2.trans (Ext.new (o := .lst [.int 3, .int 1]) hl')
        refine ⟨_, rfl, _, rfl, ka, _, (i : Int), .str c, rfl, rfl, hE3.sqL hk, ?_, rfl, .inr ⟨_, rfl, l, _, _, _, rfl, rfl, SqL.of upd_same, ar_pick c, _, rfl, by omega, by omega, fun D hD => ?_⟩⟩
        · unfold atI ixN
          rw [if_pos (Int.natCast_nonneg _), if_pos (by rw [List.length_map]; omega)]
          show (kd.map V.str)[(i : Int).toNat]? = _
          rw [Int.toNat_natCast, List.getElem?_map, hc]
          rfl
        refine lc_all walk_range PV pv_mono (fun (k : Nat) => ((i : Int), (k : Int))) hD (by omega) (fun _ _ => trivial) ?_ ?_
        · rintro j x G G' Qe hj hE ⟨rfl, hx⟩ q'
          obtain rfl := rng0 hx
          exact ⟨rfl, _, rfl, _, rfl, (by show 2 ≤ sizeLine; decide), fun t ht => q' _ _ (Ext.new ht) ⟨t, rfl, upd_same⟩⟩
        · rintro zs G hz hP hE
          rw [Int.toNat_natCast] at hP
          have h4 := hE _ _ (Ext.new (o := .lst [.int 3, .int 1]) hl' _ _ h2)
          have hl1 := Paired.length hP2
          have hl2 := Paired.length hP
          have hl3 := portsL_len (kd.take i) ends
          rw [List.length_take] at hl3
          rw [List.length_map, List.length_range] at hl2
          refine ⟨p, D, xs, zs, rfl, rfl, h4, hz, sze (by omega), fun p2 hp2 => ⟨p2, xs ++ zs, _, rfl, hE3.fresh (hE.fresh hp2), upd_same, ?_, (hE3.trans hE).trans (Ext.new hp2)⟩⟩
          rw [portsL_take hc]
          exact paired_append (pv_mono.paired (((Ext.new hl').trans hE).trans (Ext.new hp2)).t hP2) (pv_mono.paired (Ext.new hp2).t hP)
      · rintro σ G2 ⟨p, xs, y3, rfl, hp, h2, hP2, hE2⟩
        rw [Int.toNat_natCast, List.take_length] at hP2
        exact ⟨p, xs, y3, rfl, hp, h2, hP2, hE2⟩
    rintro _ G2 ⟨p, xs, y3, rfl, hp, h2, hP2, hE2⟩
    exact ⟨_, rfl, q p xs G2 hp h2 hP2 hE2⟩
/-! ### drawing from lists -/
theorem perm_eraseIdx {α : Type} : ∀ {l : List α} {k : Nat} {y : α}, l[k]? = some y → l.Perm (y :: l.eraseIdx k)
  | [], _, _, h => by simp at h
  | a :: l, 0, y, h => by
    simp only [List.getElem?_cons_zero, Option.some.injEq] at h
    subst h
    exact .refl _
  | a :: l, k + 1, y, h => by
    simp only [List.getElem?_cons_succ] at h
    exact ((perm_eraseIdx h).cons a).trans (.swap y a _)
theorem erase_idxOf {l : List Port} {p : Port} (h : p ∈ l) : l.Perm (p :: l.eraseIdx (l.idxOf p)) := perm_eraseIdx (by
  rw [List.getElem?_eq_getElem (List.idxOf_lt_length_of_mem h), List.getElem_idxOf])
theorem paired_get2 {α β : Type} {R : α → β → Prop} {xs : List α} {ys : List β} (h : Paired R xs ys) {k : Nat} {x : α} (hx : xs[k]? = some x) : ∃ y, ys[k]? = some y ∧ R x y := paired_get h k x hx
/-- y = L.pop(take(box, len(L))) -/
theorem pop_take {D : Ends} {σ : L2.St} {G : Hp} {i j : Nat} {b L : Addr} {n : Int} {xs : List V} (h0 : σ[0]? = some (some (.ref b))) (hi : σ[i]? = some (some (.ref L))) (hL : G L = some (.lst xs)) (hb : BoxAt G b n) (hn : n ≤ 900000000) (hLb : L ≠ b)
    (h1 : 0 < xs.length) (h2 : xs.length ≤ 100000)
    (q : ∀ k y G', k < xs.length → xs[k]? = some y → BoxAt G' b (n + 1) → G' L = some (.lst (xs.eraseIdx k)) → (∀ c, c ≠ b → c ≠ L → G' c = G c) → D.nx (σ.set j (some y)) G') :
    tAsg (tBM K "list" rPopAt (tVar i) (tCons (tCallS spTake (fun _ => E0) (tCons (tVar 0) (tCons (tCB (Mc.rLen K) (tCons (tVar i) tNil)) tNil))) tNil)) (gName j) D σ G := by
  refine ⟨_, hi, .inl ⟨rfl, _, SqL.of hL⟩, _, h0, _, hi, _, xs.length, rfl, .inl ⟨_, SqL.of hL, rfl⟩, b, n, _, rfl, hb, by omega, by omega, by omega, fun r G1 hr0 hr1 hB1 hf1 => ?_⟩
  have hk : r.toNat < xs.length := by omega
  refine ⟨L, xs, r, r.toNat, xs[r.toNat], rfl, rfl, (hf1 L hLb).trans hL, by omega, by omega, ?_, List.getElem?_eq_getElem hk, q r.toNat _ _ hk (List.getElem?_eq_getElem hk) (hB1.same (upd_ne hLb.symm)) upd_same fun c hc hc2 => (upd_ne hc2).trans (hf1 c hc)⟩
  have e : (if r < 0 then r + (xs.length : Int) else r) = r := if_neg (by omega)
  have e2 : (decide (0 ≤ r) && decide (r < (xs.length : Int))) = true := by rw [decide_eq_true hr0, decide_eq_true (by omega)]; rfl
  show (if (decide (0 ≤ (if r < 0 then r + (xs.length : Int) else r)) && decide ((if r < 0 then r + (xs.length : Int) else r) < (xs.length : Int))) = true then some (if r < 0 then r + (xs.length : Int) else r).toNat else none) = some r.toNat
  rw [e, if_pos e2]
theorem linksOf_snoc (ws : List (Port × Port)) (a b : Port) : (linksOf (ws ++ [(a, b)])).map Prod.fst = (linksOf ws).map Prod.fst ++ [a, b] := by
  rw [linksOf_append, List.map_append]
  rfl
/-- wires laid so far, ports left -/
structure Laid (kd : List Str) (tips : Nat) (ws : List (Port × Port)) (lp : List Port) : Prop where
  perm : ((linksOf ws).map Prod.fst ++ lp).Perm (portsL kd tips)
theorem Laid.nodup {kd : List Str} {tips : Nat} {ws : List (Port × Port)} {lp : List Port} (h : Laid kd tips ws lp) : lp.Nodup := by
  have := h.perm.nodup_iff.mpr (portsL_nodup kd tips)
  exact (List.nodup_append.mp this).2.1
theorem Laid.snoc {kd : List Str} {tips : Nat} {ws : List (Port × Port)} {lp lq : List Port} {a b : Port} (h : Laid kd tips ws lp) (hp : lp.Perm (a :: b :: lq)) : Laid kd tips (ws ++ [(a, b)]) lq := by
  refine ⟨?_⟩
  rw [linksOf_snoc, List.append_assoc]
  exact (List.Perm.append_left _ hp.symm).trans h.perm
theorem Laid.len {kd : List Str} {tips : Nat} {ws : List (Port × Port)} {lp : List Port} (h : Laid kd tips ws lp) : 2 * ws.length + lp.length = (portsL kd tips).length := by
  have h1 := h.perm.length_eq
  rw [List.length_append, List.length_map] at h1
  have h2 : ∀ ws : List (Port × Port), (linksOf ws).length = 2 * ws.length := by
    intro ws
    induction ws with
    | nil => rfl
    | cons e ws ih =>
      obtain ⟨a, b⟩ := e
      rw [linksOf_cons, List.length_cons, List.length_cons, List.length_cons, ih]
      omega
  rw [h2] at h1
  exact h1
theorem Laid.fits {kd : List Str} {tips : Nat} {ws : List (Port × Port)} (h : Laid kd tips ws []) : Fits (portsL kd tips) ws := ⟨by have := h.perm; rwa [List.append_nil] at this⟩
theorem fits_ne {kd : List Str} {tips : Nat} {ws : List (Port × Port)} (h : Fits (portsL kd tips) ws) : ∀ e ∈ ws, e.1 ≠ e.2 := by
  have hn := h.perm.nodup_iff.mpr (portsL_nodup kd tips)
  rw [linksOf_keys] at hn
  intro e he
  have h1 : ∀ ws : List (Port × Port), ((ws.map fun e => [e.1, e.2]).flatten).Nodup → ∀ e ∈ ws, e.1 ≠ e.2 := by
    intro ws
    induction ws with
    | nil => intro _ e he; cases he
    | cons u ws ih =>
      intro hn e he
      rw [List.map_cons, List.flatten_cons, List.nodup_append] at hn
      rcases List.mem_cons.mp he with rfl | he
      · have := hn.1
        rw [List.nodup_cons] at this
        intro z
        exact this.1 (by rw [z]; simp)
      · exact ih hn.2.1 e he
  exact h1 ws hn e he
def spLawNet (K : PySem.W.Frag) : Sp := fun vs H Q _ => ∃ (b : Addr) (n most : Int) (tips : Nat), vs = [.ref b, .int most, .int (tips : Int)] ∧ BoxAt H b n ∧ n ≤ 800000000 ∧ 0 ≤ most ∧ most ≤ 900 ∧ tips ≤ 12 ∧
  ∀ t ka wa kd xs ws H', H t = none → H ka = none → H wa = none → H' t = some (.tup [.ref ka, .ref wa]) → H' ka = some (.lst (kd.map V.str)) → H' wa = some (.lst xs) → Paired (WV H') xs ws → (∀ x ∈ kd, KindS x) → (kd.length : Int) ≤ most + 1 →
    Fits (portsL kd tips) ws → BoxAt H' b (n + 20000) → XB [b] H H' → Q (.ref t) H'
theorem menu_kind {c : V} (h : c ∈ [V.str "red", V.str "blue", V.str "red", V.str "blue", V.str "eraser"]) : ∃ x, c = .str x ∧ KindS x := by
  simp only [List.mem_cons, List.not_mem_nil, or_false] at h
  rcases h with rfl | rfl | rfl | rfl | rfl
  · exact ⟨_, rfl, .inl rfl⟩
  · exact ⟨_, rfl, .inr (.inl rfl)⟩
  · exact ⟨_, rfl, .inl rfl⟩
  · exact ⟨_, rfl, .inr (.inl rfl)⟩
  · exact ⟨_, rfl, .inr (.inr rfl)⟩
theorem portsL_er (kd : List Str) (tips : Nat) : (portsL (kd ++ [("eraser" : Str)]) tips).length = (portsL kd tips).length + 1 := by
  have h : (kd ++ [("eraser" : Str)])[kd.length]? = some "eraser" := by simp
  have e := portsL_take (ends := tips) h
  rw [List.take_of_length_le (by simp), List.take_left] at e
  rw [e, List.length_append]
  unfold cellPs
  rw [List.length_map, List.length_range]
  rfl
theorem heads_sub (kd : List Str) (tips : Nat) : ∀ p ∈ (List.range kd.length).map fun (k : Nat) => ((k : Int), (0 : Int)), p ∈ portsL kd tips := fun p hp => by
  obtain ⟨k, hk, rfl⟩ := List.mem_map.mp hp
  refine mem_portsL.mpr (.inr ⟨Int.natCast_nonneg _, by have := List.mem_range.mp hk; show (k : Int) < (kd.length : Int); omega, Int.le_refl _, ?_⟩)
  show (0 : Int) < (arS (kd.getD ((k : Int)).toNat "") : Int)
  unfold arS
  split <;> omega
theorem dp_ports {H : Hp} {xs : List V} {ps : List Port} (h : Paired (PV H) xs ps) : DpAll K H xs (ps.map portD) := dpAll_paired portD (fun _ _ h => pv_dp h) h
theorem ok__law_net (T : Txt P w K mg) : FnR P w K mg base (L2.CX P w) 2 (He.ga K "_law_net") (spLawNet K) := by
  have G__law_ports := ok__law_ports (base := base) T
  have G__law_take := ok__law_take (base := base) T
  obtain ⟨fd, F⟩ := T.f__law_net
  refine fnR_body F sc__law_net (F.bindsN (fun _ _ _ _ _ _ us hl => match us, hl with | [_, _, _], _ => rfl)) ?_ ?_
  · rintro vs H Q E ⟨b, n, most, tips, rfl, _⟩
    rfl
  · rintro cdv A outer s H vs Q E hr ⟨b, n, most, tips, rfl, hB, hn, hm0, hm1, ht, q⟩
    refine ⟨_, (PSs.nox (Mc.pss_mid (ps_set (i := 3) sc__law_net.nd rfl (Or.inr rfl) (pe_lst (pa_cons pe_str (pa_cons pe_str (pa_cons pe_str (pa_cons pe_str (pa_cons pe_str pa_nil)))))))
      (Mc.pss_mid (ps_setLc (i := 4) (own := [("_law_k", 11)]) rfl sc__law_net.nd rfl rfl (sw_true rfl rfl rfl (by decide +kernel)) (pi_range1 (by rfl) T.m_range (pa_cons (Mc.pe_callR G__law_take (hr.mono (by decide)) (by rfl) T.g__law_take T.k__law_take pass_no (pa_cons (pv 0) (pa_cons (pe_op op_add (pv 1) pe_int) pa_nil))) pa_nil)) (blkOk_by (own := [("_law_k", 11)]) (N := N__law_net) (sc := defScope s__law_net) (by decide +kernel)) (fun _ _ _ _ _ => (pg_name (i := 11) sc__law_net.nd rfl (Or.inl rfl))) (fun _ _ _ _ _ => pts_nil) (fun _ _ _ _ _ => (pe_ix (ix_list : IxR _ (rIxL K)) (pv 3) (Mc.pe_callR G__law_take (hr.mono (by decide)) (by rfl) T.g__law_take T.k__law_take pass_no (pa_cons (pv 0) (pa_cons pe_int pa_nil))) (fun _ _ => rfl))))
      (Mc.pss_mid (ps_if (pt_cmpR op_eq (pe_op op_mod (pe_callB (call_len : CallR _ (.builtin "len") (Mc.rLen K)) (by rfl) T.m_len (by decide +kernel) (pa_cons (Mc.pe_callR G__law_ports (hr.mono (by decide)) (by rfl) T.g__law_ports T.k__law_ports pass_no (pa_cons (pv 4) (pa_cons (pv 2) pa_nil))) pa_nil)) pe_int) pe_int (nomark _)) (pss_one (ps_expr (pe_bm PySem.F.plainAttrs_list PySem.F.slot_list_append PySem.F.type_list_append mt_append (pv 4) (pa_cons pe_str pa_nil) : PE _ _ (tBM K _ _ _ _)))) pss_nil)
      (Mc.pss_mid (ps_par (i := 5) (j := 6) (by rfl) sc__law_net.nd rfl rfl (by decide) rfl rfl (pa_cons (Mc.pe_callR G__law_ports (hr.mono (by decide)) (by rfl) T.g__law_ports T.k__law_ports pass_no (pa_cons (pv 4) (pa_cons (pv 2) pa_nil))) (pa_cons (pe_lst pa_nil) pa_nil)) (by rfl))
      (Mc.pss_mid (ps_setLc (i := 7) (own := [("_law_k", 11)]) rfl sc__law_net.nd rfl rfl (sw_true rfl rfl rfl (by decide +kernel)) (pi_range1 (by rfl) T.m_range (pa_cons (pe_callB (call_len : CallR _ (.builtin "len") (Mc.rLen K)) (by rfl) T.m_len (by decide +kernel) (pa_cons (pv 4) pa_nil)) pa_nil)) (blkOk_by (own := [("_law_k", 11)]) (N := N__law_net) (sc := defScope s__law_net) (by decide +kernel)) (fun _ _ _ _ _ => (pg_name (i := 11) sc__law_net.nd rfl (Or.inl rfl))) (fun _ _ _ _ _ => pts_nil) (fun _ _ _ _ _ => (pe_tup (pa_cons (pv 11) (pa_cons pe_int pa_nil)))))
      (Mc.pss_mid (ps_for PassesOwn.never rfl (pi_range1 (by rfl) T.m_range (pa_cons (Mc.pe_callR G__law_take (hr.mono (by decide)) (by rfl) T.g__law_take T.k__law_take pass_no (pa_cons (pv 0) (pa_cons (pe_op op_add (pe_op op_fdiv (pe_callB (call_len : CallR _ (.builtin "len") (Mc.rLen K)) (by rfl) T.m_len (by decide +kernel) (pa_cons (pv 7) pa_nil)) pe_int) pe_int) pa_nil))) pa_nil)) (pg_name (i := 8) sc__law_net.nd rfl (Or.inl rfl))
      (Mc.pss_mid (ps_set (i := 9) sc__law_net.nd rfl (Or.inl rfl) (pe_bm PySem.F.plainAttrs_list PySem.F.slot_list_pop PySem.F.type_list_pop mt_popAt (pv 7) (pa_cons (Mc.pe_callR G__law_take (hr.mono (by decide)) (by rfl) T.g__law_take T.k__law_take pass_no (pa_cons (pv 0) (pa_cons (pe_callB (call_len : CallR _ (.builtin "len") (Mc.rLen K)) (by rfl) T.m_len (by decide +kernel) (pa_cons (pv 7) pa_nil)) pa_nil))) pa_nil) : PE _ _ (tBM K _ _ _ _)))
      (Mc.pss_mid (ps_set (i := 10) sc__law_net.nd rfl (Or.inl rfl) (pe_bm PySem.F.plainAttrs_list PySem.F.slot_list_pop PySem.F.type_list_pop mt_popAt (pv 7) (pa_cons (Mc.pe_callR G__law_take (hr.mono (by decide)) (by rfl) T.g__law_take T.k__law_take pass_no (pa_cons (pv 0) (pa_cons (pe_callB (call_len : CallR _ (.builtin "len") (Mc.rLen K)) (by rfl) T.m_len (by decide +kernel) (pa_cons (pv 7) pa_nil)) pa_nil))) pa_nil) : PE _ _ (tBM K _ _ _ _)))
      (Mc.pss_mid (ps_expr (pe_bm PySem.F.plainAttrs_list PySem.F.slot_list_append PySem.F.type_list_append mt_append (pv 6) (pa_cons (pe_tup (pa_cons (pv 9) (pa_cons (pv 10) pa_nil))) pa_nil) : PE _ _ (tBM K _ _ _ _)))
      (Mc.pss_mid (ps_expr (pe_bm PySem.F.plainAttrs_list PySem.F.slot_list_remove PySem.F.type_list_remove (Mc.mt_removeD hr.units : MtM _ "list.remove" (Mc.rRemD K)) (pv 5) (pa_cons (pv 9) pa_nil) : PE _ _ (tBM K _ _ _ _)))
      (pss_one (ps_expr (pe_bm PySem.F.plainAttrs_list PySem.F.slot_list_remove PySem.F.type_list_remove (Mc.mt_removeD hr.units : MtM _ "list.remove" (Mc.rRemD K)) (pv 5) (pa_cons (pv 10) pa_nil) : PE _ _ (tBM K _ _ _ _)))))))))
      (Mc.pss_mid (ps_while PassesOwn.never (pt_cmpR ((Mc.op_neP hr.units) : OpR _ _ (Mc.rNeP K)) (pv 5) (pe_lst pa_nil) (nomark _))
      (Mc.pss_mid (ps_set (i := 9) sc__law_net.nd rfl (Or.inl rfl) (pe_bm PySem.F.plainAttrs_list PySem.F.slot_list_pop PySem.F.type_list_pop mt_popAt (pv 5) (pa_cons (Mc.pe_callR G__law_take (hr.mono (by decide)) (by rfl) T.g__law_take T.k__law_take pass_no (pa_cons (pv 0) (pa_cons (pe_callB (call_len : CallR _ (.builtin "len") (Mc.rLen K)) (by rfl) T.m_len (by decide +kernel) (pa_cons (pv 5) pa_nil)) pa_nil))) pa_nil) : PE _ _ (tBM K _ _ _ _)))
      (Mc.pss_mid (ps_set (i := 10) sc__law_net.nd rfl (Or.inl rfl) (pe_bm PySem.F.plainAttrs_list PySem.F.slot_list_pop PySem.F.type_list_pop mt_popAt (pv 5) (pa_cons (Mc.pe_callR G__law_take (hr.mono (by decide)) (by rfl) T.g__law_take T.k__law_take pass_no (pa_cons (pv 0) (pa_cons (pe_callB (call_len : CallR _ (.builtin "len") (Mc.rLen K)) (by rfl) T.m_len (by decide +kernel) (pa_cons (pv 5) pa_nil)) pa_nil))) pa_nil) : PE _ _ (tBM K _ _ _ _)))
      (pss_one (ps_expr (pe_bm PySem.F.plainAttrs_list PySem.F.slot_list_append PySem.F.type_list_append mt_append (pv 6) (pa_cons (pe_tup (pa_cons (pv 9) (pa_cons (pv 10) pa_nil))) pa_nil) : PE _ _ (tBM K _ _ _ _)))))))
      (pss_one (ps_ret (pe_tup (pa_cons (pv 4) (pa_cons (pv 6) pa_nil))))))))))))), ?_⟩
    have new : ∀ {p : Addr}, H p = none → p ≠ b := fun {p} hp => (hB.ne hp).symm
    -- menu
    refine ⟨fun τ G => ∃ (M : Addr), τ = [some (.ref b), some (.int most), some (.int (tips : Int)), some (.ref M), none, none, none, none, none, none, none, none] ∧ H M = none ∧ G M = some (.lst [V.str "red", V.str "blue", V.str "red", V.str "blue", V.str "eraser"]) ∧ BoxAt G b n ∧ Ext H G, ⟨by show 5 ≤ sizeLine; decide, fun M hM => ⟨M, rfl, hM, upd_same, hB.ext (Ext.new hM), Ext.new hM⟩⟩, ?_⟩
    rintro _ G1 ⟨M, rfl, hM, h1m, hB1, hE1⟩
    -- kinds
    refine ⟨fun τ G => ∃ (D : Addr) (kd : List Str), τ = [some (.ref b), some (.int most), some (.int (tips : Int)), some (.ref M), some (.ref D), none, none, none, none, none, none, none] ∧ H D = none ∧ G D = some (.lst (kd.map V.str)) ∧ (kd.length : Int) ≤ most ∧ (∀ x ∈ kd, KindS x) ∧ BoxAt G b (n + 1 + most) ∧ XB [b] H G, ?_, ?_⟩
    · refine ⟨_, rfl, _, rfl, _, _, rfl, rfl, b, n, most + 1, rfl, hB1, by omega, by omega, by omega, fun r G2 hr0 hr1 hB2 hf2 => ⟨r, rfl, by omega, by omega, fun D hD => ?_⟩⟩
      have hX2 : XB [b] H G2 := (hE1.xb _).trans (xb_of hf2)
      have hDH : H D = none := by
        cases e : H D with
        | none => rfl
        | some o =>
          by_cases z : D = b
          · rw [z] at hD
            obtain ⟨_, _, _, e2⟩ := hB2.some_
            rw [e2] at hD
            cases hD
          · rw [hX2 D o (not_in1 z) e] at hD
            cases hD
      have h2m : G2 M = some (.lst [V.str "red", V.str "blue", V.str "red", V.str "blue", V.str "eraser"]) := (hf2 M (new hM)).trans h1m
      have hMD : M ≠ D := ne_of_none h2m hD
      refine lc_it walk_range (fun i G => ∃ kd : List Str, kd.length = i ∧ (∀ x ∈ kd, KindS x) ∧ G D = some (.lst (kd.map V.str)) ∧ G M = some (.lst [V.str "red", V.str "blue", V.str "red", V.str "blue", V.str "eraser"]) ∧ BoxAt G b (n + 1 + i) ∧ XB [b] H G) ⟨[], rfl, (fun _ h => nomatch h), upd_same, (upd_ne hMD).trans h2m, (hB2.same (upd_ne (new hDH).symm)).up (by omega), hX2.putN hDH⟩ (fun _ _ _ _ => trivial) ?_ ?_
      · rintro i z G3 G4 hi ⟨kd, hl, hk, h4d, h4m, hB4, hX4⟩ ⟨rfl, _⟩
        refine ⟨rfl, ?_⟩
        refine ⟨_, rfl, _, rfl, b, _, 5, rfl, hB4, by omega, by omega, by omega, fun z5 G5 hz0 hz1 hB5 hf5 => ?_⟩
        obtain ⟨c, hc, hcm⟩ := atI_mem (xs := [V.str "red", V.str "blue", V.str "red", V.str "blue", V.str "eraser"]) hz0 hz1
        obtain ⟨x, rfl, hx⟩ := menu_kind hcm
        refine ⟨M, _, z5, .str x, rfl, rfl, SqL.of ((hf5 M (new hM)).trans h4m), hc, _, (hf5 D (new hDH)).trans h4d, ?_, kd ++ [x], ?_, ?_, ?_, ?_, ?_, ?_⟩
        · rw [List.length_map]
          exact szl (by omega)
        · rw [List.length_append, hl]
          rfl
        · intro y hy
          rcases List.mem_append.mp hy with hy | hy
          · exact hk y hy
          · rw [List.mem_singleton.mp hy]
            exact hx
        · rw [List.map_append]
          exact upd_same
        · exact (upd_ne hMD).trans ((hf5 M (new hM)).trans h4m)
        · refine (hB5.same (upd_ne (new hDH).symm)).up ?_
          push_cast
          omega
        · exact (hX4.trans (xb_of hf5)).putN hDH
      · rintro G3 ⟨kd, hl, hk, h3d, h3m, hB3, hX3⟩
        exact ⟨D, kd, rfl, hDH, h3d, by omega, hk, hB3.up (by omega), hX3⟩
    rintro _ G2 ⟨D, kd, rfl, hD, h2d, hkl, hkk, hB2, hX2⟩
    -- an eraser more
    refine ⟨fun τ G => ∃ (kd : List Str), τ = [some (.ref b), some (.int most), some (.int (tips : Int)), some (.ref M), some (.ref D), none, none, none, none, none, none, none] ∧ G D = some (.lst (kd.map V.str)) ∧ (kd.length : Int) ≤ most + 1 ∧ (∀ x ∈ kd, KindS x) ∧ (portsL kd tips).length % 2 = 0 ∧ BoxAt G b (n + 1 + most) ∧ XB [b] H G, ?_, ?_⟩
    · refine ⟨_, rfl, _, rfl, D, kd, tips, rfl, SqL.of h2d, hkk, ht, by omega, fun p xs G3 hp h3 hP hE3 => ⟨_, xs.length, rfl, .inl ⟨_, SqL.of h3, rfl⟩, _, _, rfl, rfl, (by show (0 : Int) < 2; decide), rfl, _, rfl, ?_⟩⟩
      have hxl : xs.length = (portsL kd tips).length := Paired.length hP
      have h3d := hE3 _ _ h2d
      by_cases c : (portsL kd tips).length % 2 = 1
      · rw [decide_eq_true (show V.int ((xs.length : Int) % 2) = V.int 1 by rw [hxl]; congr 1; omega)]
        refine iteT ⟨_, rfl, .inl ⟨rfl, _, SqL.of h3d⟩, D, _, _, rfl, rfl, h3d, szl (by rw [List.length_map]; omega), kd ++ [("eraser" : Str)], rfl, ?_, ?_, ?_, ?_, ?_, ?_⟩
        · rw [List.map_append]
          exact upd_same
        · rw [List.length_append]
          show ((kd.length + 1 : Nat) : Int) ≤ most + 1
          omega
        · intro y hy
          rcases List.mem_append.mp hy with hy | hy
          · exact hkk y hy
          · rw [List.mem_singleton.mp hy]
            exact .inr (.inr rfl)
        · rw [portsL_er]
          omega
        · exact (hB2.ext hE3).same (upd_ne (new hD).symm)
        · exact (hX2.trans (hE3.xb _)).putN hD
      · rw [decide_eq_false (show ¬ V.int ((xs.length : Int) % 2) = V.int 1 from fun z => c (by have := V.int.inj z; omega))]
        exact iteF ⟨kd, rfl, h3d, by omega, hkk, by omega, hB2.ext hE3, hX2.trans (hE3.xb _)⟩
    clear h2d hkl hkk hB2 hX2
    rintro _ G3 ⟨kd, rfl, h3d, hkl, hkk, hpar, hB3, hX3⟩
    have pl := portsL_len kd tips
    -- left, wires
    refine ⟨fun τ G => ∃ (Lf : Addr) (W : Addr) (xs : List V), τ = [some (.ref b), some (.int most), some (.int (tips : Int)), some (.ref M), some (.ref D), some (.ref Lf), some (.ref W), none, none, none, none, none] ∧ H Lf = none ∧ H W = none ∧ D ≠ Lf ∧ D ≠ W ∧ Lf ≠ W ∧ G D = some (.lst (kd.map V.str)) ∧ G Lf = some (.lst xs) ∧ Paired (PV G) xs (portsL kd tips) ∧ G W = some (.lst []) ∧ BoxAt G b (n + 1 + most) ∧ XB [b] H G, ?_, ?_⟩
    · refine ⟨_, rfl, _, rfl, D, kd, tips, rfl, SqL.of h3d, hkk, ht, by omega, fun p xs G4 hp h4 hP hE4 => ⟨by show 0 ≤ sizeLine; decide, fun W hW => ⟨_, _, rfl, p, W, xs, rfl, ?_, ?_, ?_, ?_, ?_, ?_, ?_, ?_, upd_same, ?_, ?_⟩⟩⟩
      · cases e : H p with
        | none => rfl
        | some o =>
          have hpb : p ≠ b := fun z => by obtain ⟨_, _, _, e2⟩ := hB3.some_; rw [z, e2] at hp; cases hp
          rw [hX3 p o (not_in1 hpb) e] at hp
          cases hp
      · cases e : H W with
        | none => rfl
        | some o =>
          have hWb : W ≠ b := fun z => by obtain ⟨_, _, _, e2⟩ := (hB3.ext hE4).some_; rw [z, e2] at hW; cases hW
          rw [hE4 _ _ (hX3 W o (not_in1 hWb) e)] at hW
          cases hW
      · exact ne_of_none h3d hp
      · exact ne_of_none (hE4 _ _ h3d) hW
      · exact ne_of_none h4 hW
      · exact Ext.new hW _ _ (hE4 _ _ h3d)
      · exact Ext.new hW _ _ h4
      · exact pv_mono.paired (Ext.new hW).t hP
      · exact (hB3.ext hE4).ext (Ext.new hW)
      · exact (hX3.trans (hE4.xb _)).new hW
    rintro _ G4 ⟨Lf, W, xs, rfl, hLf, hW, hDL, hDW, hLW, h4d, h4l, hP4, h4w, hB4, hX4⟩
    -- heads
    refine ⟨fun τ G => ∃ (Hd : Addr) (hs : List V), τ = [some (.ref b), some (.int most), some (.int (tips : Int)), some (.ref M), some (.ref D), some (.ref Lf), some (.ref W), some (.ref Hd), none, none, none, none] ∧ H Hd = none ∧ D ≠ Hd ∧ Lf ≠ Hd ∧ W ≠ Hd ∧ G Hd = some (.lst hs) ∧ Paired (PV G) hs ((List.range kd.length).map fun (k : Nat) => ((k : Int), (0 : Int))) ∧ Ext G4 G, ?_, ?_⟩
    · refine ⟨_, rfl, _, kd.length, rfl, .inl ⟨_, SqL.of h4d, by rw [List.length_map]⟩, _, rfl, by omega, by omega, fun Hd hHd => lc_all walk_range PV pv_mono (fun (k : Nat) => ((k : Int), (0 : Int))) hHd (by omega) (fun _ _ => trivial) ?_ ?_⟩
      · rintro i x G G' Qe hi hE ⟨rfl, hx⟩ q'
        obtain rfl := rng0 hx
        exact ⟨rfl, _, rfl, (by show 2 ≤ sizeLine; decide), fun t ht => q' _ _ (Ext.new ht) ⟨t, rfl, upd_same⟩⟩
      · rintro zs G hz hP hE
        rw [Int.toNat_natCast] at hP
        refine ⟨Hd, zs, rfl, ?_, ne_of_none h4d hHd, ne_of_none h4l hHd, ne_of_none h4w hHd, hz, hP, hE⟩
        cases e : H Hd with
        | none => rfl
        | some o =>
          have hb : Hd ≠ b := (hB4.ne hHd).symm
          rw [hX4 Hd o (not_in1 hb) e] at hHd
          cases hHd
    rintro _ G5 ⟨Hd, hs, rfl, hHd, hDH, hLH, hWH, h5h, hP5h, hE5⟩
    have hsn : ((List.range kd.length).map fun (k : Nat) => ((k : Int), (0 : Int))).Nodup := (List.nodup_range).map _ fun a b hab h => hab (by have := (Prod.mk.inj h).1; omega)
    have hhl : hs.length = kd.length := by
      have := Paired.length hP5h
      rwa [List.length_map, List.length_range] at this
    -- some heads
    refine ⟨fun τ G => ∃ (y8 : Option V) (y9 : Option V) (y10 : Option V) (xs : List V) (ws : List V) (lp : List Port) (wsd : List (Port × Port)), τ = [some (.ref b), some (.int most), some (.int (tips : Int)), some (.ref M), some (.ref D), some (.ref Lf), some (.ref W), some (.ref Hd), y8, y9, y10, none] ∧ G D = some (.lst (kd.map V.str)) ∧ G Lf = some (.lst xs) ∧ Paired (PV G) xs lp ∧ G W = some (.lst ws) ∧ Paired (WV G) ws wsd ∧ Laid kd tips wsd lp ∧ BoxAt G b (n + 8000) ∧ XB [b] H G, ?_, ?_⟩
    · have hB5 := hB4.ext hE5
      refine ⟨_, rfl, _, rfl, _, hs.length, rfl, .inl ⟨_, SqL.of h5h, rfl⟩, _, _, rfl, rfl, ⟨by decide, by decide⟩, _, _, rfl, rfl, b, _, _, rfl, hB5, by omega, ?_, ?_, fun r G6 hr0 hr1 hB6 hf6 => ⟨r, rfl, by omega, by omega, ?_⟩⟩
      · have : (0 : Int) ≤ (hs.length : Int) / 2 := Int.ediv_nonneg (by omega) (by decide)
        omega
      · have : (hs.length : Int) / 2 ≤ hs.length := Int.ediv_le_self _ (by omega)
        omega
      have hrl : 2 * r ≤ (kd.length : Int) := by
        have h1 : r ≤ (hs.length : Int) / 2 := by omega
        have h2 : (hs.length : Int) / 2 * 2 ≤ hs.length := Int.ediv_mul_le _ (by decide)
        omega
      have T6 : TExt G5 G6 := hB5.text (xb_of hf6)
      refine for_it walk_range (fun i σ G => ∃ (y8 : Option V) (y9 : Option V) (y10 : Option V) (hs : List V) (xs : List V) (ws : List V) (hp : List Port) (lp : List Port) (wsd : List (Port × Port)), σ = [some (.ref b), some (.int most), some (.int (tips : Int)), some (.ref M), some (.ref D), some (.ref Lf), some (.ref W), some (.ref Hd), y8, y9, y10, none] ∧ G D = some (.lst (kd.map V.str)) ∧ G Hd = some (.lst hs) ∧ Paired (PV G) hs hp ∧ hp.Nodup ∧ hp.length + 2 * i = kd.length ∧ (∀ p ∈ hp, p ∈ lp) ∧ G Lf = some (.lst xs) ∧ Paired (PV G) xs lp ∧ G W = some (.lst ws) ∧ Paired (WV G) ws wsd ∧ Laid kd tips wsd lp ∧ BoxAt G b (n + 2 + most + 2 * i) ∧ XB [b] H G)
        ⟨_, _, _, hs, xs, [], _, portsL kd tips, [], rfl, (hf6 D (new hD)).trans (hE5 _ _ h4d), (hf6 Hd (new hHd)).trans h5h, pv_mono.paired T6 hP5h, hsn, by simp, heads_sub kd tips, (hf6 Lf (new hLf)).trans (hE5 _ _ h4l), pv_mono.paired (hE5.t.trans T6) hP4, (hf6 W (new hW)).trans (hE5 _ _ h4w), .nil, ⟨.refl _⟩, hB6.up (by omega), (hX4.trans (hE5.xb _)).trans (xb_of hf6)⟩ (fun _ _ _ _ _ => trivial) ?_ ?_
      · rintro i z σ G7 G8 hi ⟨y8, y9, y10, hs, xs, ws, hp, lp, wsd, rfl, h8d, h8h, hP8h, hnd, hlen, hsub, h8l, hP8l, h8w, hP8w, laid, hB8, hX8⟩ ⟨rfl, hz⟩
        have hhl2 : hs.length = hp.length := Paired.length hP8h
        have hi2 : (i : Int) < r := by omega
        have hi3 : i < 1000 := by omega
        -- one
        refine ⟨fun τ G => ∃ (one : V) (p : Port) (hs2 : List V) (hp2 : List Port), τ = [some (.ref b), some (.int most), some (.int (tips : Int)), some (.ref M), some (.ref D), some (.ref Lf), some (.ref W), some (.ref Hd), some z, some one, y10, none] ∧ PV G one p ∧ hp.Perm (p :: hp2) ∧ G D = some (.lst (kd.map V.str)) ∧ G Hd = some (.lst hs2) ∧ Paired (PV G) hs2 hp2 ∧ G Lf = some (.lst xs) ∧ Paired (PV G) xs lp ∧ G W = some (.lst ws) ∧ Paired (WV G) ws wsd ∧ BoxAt G b (n + 3 + most + 2 * i) ∧ XB [b] H G, ?_, ?_⟩
        · refine pop_take (b := b) (L := Hd) rfl rfl h8h hB8 (by omega) (new hHd) (by omega) (by omega) fun k y G9 hk hy hB9 h9 hf9 => ?_
          obtain ⟨p, hpk, hpv⟩ := paired_get2 hP8h hy
          have T9 : TExt G8 G9 := (XB.text (S := [b, Hd]) (fun c o hc e => (hf9 c (fun z => hc (by rw [z]; simp)) (fun z => hc (by rw [z]; simp))).trans e) fun a ha o e => by
            rcases List.mem_cons.mp ha with rfl | ha
            · obtain ⟨_, _, _, e2⟩ := hB8.some_
              rw [e2] at e
              cases e
              exact fun z => z
            · rw [List.mem_singleton.mp ha, h8h] at e
              cases e
              exact fun z => z)
          refine ⟨y, p, _, hp.eraseIdx k, rfl, pv_mono T9 hpv, perm_eraseIdx hpk, (hf9 D (new hD) hDH).trans h8d, h9, pv_mono.paired T9 (eraseIdx_paired k hP8h), (hf9 Lf (new hLf) hLH).trans h8l, pv_mono.paired T9 hP8l, (hf9 W (new hW) hWH).trans h8w, wv_mono.paired T9 hP8w, hB9.up (by omega), fun c o hc e => ?_⟩
          have hcb : c ≠ b := fun z => hc (by rw [z]; simp)
          have hcH : c ≠ Hd := fun z => by rw [z, hHd] at e; cases e
          exact (hf9 c hcb hcH).trans (hX8 c o hc e)
        rintro _ G9 ⟨one, p, hs2, hp2, rfl, hpv, hpp, h9d, h9h, hP9h, h9l, hP9l, h9w, hP9w, hB9, hX9⟩
        have hl2 : hs2.length = hp2.length := Paired.length hP9h
        have hl3 : hp.length = hp2.length + 1 := hpp.length_eq
        have hl4 : kd.length ≤ 1000 := by omega
        -- other
        refine ⟨fun τ G => ∃ (other : V) (r : Port) (hs3 : List V) (hp3 : List Port), τ = [some (.ref b), some (.int most), some (.int (tips : Int)), some (.ref M), some (.ref D), some (.ref Lf), some (.ref W), some (.ref Hd), some z, some one, some other, none] ∧ PV G one p ∧ PV G other r ∧ hp2.Perm (r :: hp3) ∧ G D = some (.lst (kd.map V.str)) ∧ G Hd = some (.lst hs3) ∧ Paired (PV G) hs3 hp3 ∧ G Lf = some (.lst xs) ∧ Paired (PV G) xs lp ∧ G W = some (.lst ws) ∧ Paired (WV G) ws wsd ∧ BoxAt G b (n + 4 + most + 2 * i) ∧ XB [b] H G, ?_, ?_⟩
        · refine pop_take (b := b) (L := Hd) rfl rfl h9h hB9 (by omega) (new hHd) (by omega) (by omega) fun k y G10 hk hy hB10 h10 hf10 => ?_
          obtain ⟨r', hpk, hpv2⟩ := paired_get2 hP9h hy
          have T10 : TExt G9 G10 := (XB.text (S := [b, Hd]) (fun c o hc e => (hf10 c (fun z => hc (by rw [z]; simp)) (fun z => hc (by rw [z]; simp))).trans e) fun a ha o e => by
            rcases List.mem_cons.mp ha with rfl | ha
            · obtain ⟨_, _, _, e2⟩ := hB9.some_
              rw [e2] at e
              cases e
              exact fun z => z
            · rw [List.mem_singleton.mp ha, h9h] at e
              cases e
              exact fun z => z)
          refine ⟨y, r', _, hp2.eraseIdx k, rfl, pv_mono T10 hpv, pv_mono T10 hpv2, perm_eraseIdx hpk, (hf10 D (new hD) hDH).trans h9d, h10, pv_mono.paired T10 (eraseIdx_paired k hP9h), (hf10 Lf (new hLf) hLH).trans h9l, pv_mono.paired T10 hP9l, (hf10 W (new hW) hWH).trans h9w, wv_mono.paired T10 hP9w, hB10.up (by omega), fun c o hc e => ?_⟩
          have hcb : c ≠ b := fun z => hc (by rw [z]; simp)
          have hcH : c ≠ Hd := fun z => by rw [z, hHd] at e; cases e
          exact (hf10 c hcb hcH).trans (hX9 c o hc e)
        rintro _ G10 ⟨other, r', hs3, hp3, rfl, hpv1, hpv2, hpp2, h10d, h10h, hP10h, h10l, hP10l, h10w, hP10w, hB10, hX10⟩
        have hwl : ws.length = wsd.length := Paired.length hP10w
        have laidl := laid.len
        -- the wire
        refine ⟨fun τ G => ∃ (ws2 : List V), τ = [some (.ref b), some (.int most), some (.int (tips : Int)), some (.ref M), some (.ref D), some (.ref Lf), some (.ref W), some (.ref Hd), some z, some one, some other, none] ∧ PV G one p ∧ PV G other r' ∧ G D = some (.lst (kd.map V.str)) ∧ G Hd = some (.lst hs3) ∧ Paired (PV G) hs3 hp3 ∧ G Lf = some (.lst xs) ∧ Paired (PV G) xs lp ∧ G W = some (.lst ws2) ∧ Paired (WV G) ws2 (wsd ++ [(p, r')]) ∧ BoxAt G b (n + 4 + most + 2 * i) ∧ XB [b] H G, ?_, ?_⟩
        · obtain ⟨pa, rfl, hpa⟩ := hpv1
          obtain ⟨ra, rfl, hra⟩ := hpv2
          refine ⟨_, rfl, .inl ⟨rfl, _, SqL.of h10w⟩, _, rfl, _, rfl, (by show 2 ≤ sizeLine; decide), fun t ht => ⟨W, ws, _, rfl, rfl, Ext.new ht _ _ h10w, szl (by omega), ?_⟩⟩
          have TW : TExt (upd G10 t (.tup [.ref pa, .ref ra])) (upd (upd G10 t (.tup [.ref pa, .ref ra])) W (.lst (ws ++ [.ref t]))) := TExt.put (Ext.new ht _ _ h10w) fun z => z
          have TT := (Ext.new (o := .tup [.ref pa, .ref ra]) ht).t.trans TW
          exact ⟨ws ++ [.ref t], rfl, ⟨pa, rfl, TT _ _ hpa trivial⟩, ⟨ra, rfl, TT _ _ hra trivial⟩, (upd_ne hDW).trans (Ext.new ht _ _ h10d), (upd_ne hWH.symm).trans (Ext.new ht _ _ h10h), pv_mono.paired TT hP10h, (upd_ne hLW).trans (Ext.new ht _ _ h10l), pv_mono.paired TT hP10l, upd_same,
            paired_snoc (wv_mono.paired TT hP10w) ⟨t, pa, ra, rfl, TW _ _ upd_same trivial, TT _ _ hpa trivial, TT _ _ hra trivial⟩, (hB10.ext (Ext.new ht)).same (upd_ne (new hW).symm), (hX10.new ht).putN hW⟩
        rintro _ G11 ⟨ws2, rfl, hpv1, hpv2, h11d, h11h, hP11h, h11l, hP11l, h11w, hP11w, hB11, hX11⟩
        have hpm : p ∈ hp := hpp.mem_iff.mpr List.mem_cons_self
        have hpn : (p :: r' :: hp3).Nodup := (hpp.trans (hpp2.cons p)).nodup_iff.mp hnd
        have hr2 : r' ∈ hp := hpp.mem_iff.mpr (List.mem_cons_of_mem _ (hpp2.mem_iff.mpr List.mem_cons_self))
        have hplp : p ∈ lp := hsub p hpm
        have e1 := erase_idxOf hplp
        have hrl2 : r' ∈ lp.eraseIdx (lp.idxOf p) := by
          rcases List.mem_cons.mp (e1.mem_iff.mp (hsub r' hr2)) with z | z
          · rw [List.nodup_cons] at hpn
            exact absurd (by rw [z]; simp) hpn.1
          · exact z
        have e2 := erase_idxOf hrl2
        have elp : lp.Perm (p :: r' :: (lp.eraseIdx (lp.idxOf p)).eraseIdx ((lp.eraseIdx (lp.idxOf p)).idxOf r')) := e1.trans (e2.cons p)
        -- left.remove(one)
        refine ⟨fun τ G => τ = [some (.ref b), some (.int most), some (.int (tips : Int)), some (.ref M), some (.ref D), some (.ref Lf), some (.ref W), some (.ref Hd), some z, some one, some other, none] ∧ PV G other r' ∧ G D = some (.lst (kd.map V.str)) ∧ G Hd = some (.lst hs3) ∧ Paired (PV G) hs3 hp3 ∧ G Lf = some (.lst (xs.eraseIdx (lp.idxOf p))) ∧ Paired (PV G) (xs.eraseIdx (lp.idxOf p)) (lp.eraseIdx (lp.idxOf p)) ∧ G W = some (.lst ws2) ∧ Paired (WV G) ws2 (wsd ++ [(p, r')]) ∧ BoxAt G b (n + 4 + most + 2 * i) ∧ XB [b] H G, ?_, ?_⟩
        · have TL : TExt G11 (upd G11 Lf (.lst (xs.eraseIdx (lp.idxOf p)))) := TExt.put h11l fun z => z
          exact ⟨_, rfl, .inl ⟨rfl, _, SqL.of h11l⟩, _, rfl, Lf, xs, lp.map portD, one, portD p, lp.idxOf p, rfl, rfl, h11l, dp_ports hP11l, pv_dp hpv1, depth_port _ _, place_ports hplp, rfl, pv_mono TL hpv2, (upd_ne hDL).trans h11d, (upd_ne hLH.symm).trans h11h, pv_mono.paired TL hP11h, upd_same, pv_mono.paired TL (eraseIdx_paired _ hP11l), (upd_ne hLW.symm).trans h11w, wv_mono.paired TL hP11w, hB11.same (upd_ne (new hLf).symm), hX11.putN hLf⟩
        rintro _ G12 ⟨rfl, hpv2, h12d, h12h, hP12h, h12l, hP12l, h12w, hP12w, hB12, hX12⟩
        have TL : TExt G12 (upd G12 Lf (.lst ((xs.eraseIdx (lp.idxOf p)).eraseIdx ((lp.eraseIdx (lp.idxOf p)).idxOf r')))) := TExt.put h12l fun z => z
        refine ⟨_, rfl, .inl ⟨rfl, _, SqL.of h12l⟩, _, rfl, Lf, _, (lp.eraseIdx (lp.idxOf p)).map portD, other, portD r', _, rfl, rfl, h12l, dp_ports hP12l, pv_dp hpv2, depth_port _ _, place_ports hrl2, ?_⟩
        refine ⟨_, _, _, hs3, _, ws2, hp3, _, _, rfl, (upd_ne hDL).trans h12d, (upd_ne hLH.symm).trans h12h, pv_mono.paired TL hP12h, ?_, ?_, ?_, upd_same, pv_mono.paired TL (eraseIdx_paired _ hP12l), (upd_ne hLW.symm).trans h12w, wv_mono.paired TL hP12w, laid.snoc elp, (hB12.same (upd_ne (new hLf).symm)).up (by push_cast; omega), hX12.putN hLf⟩
        · rw [List.nodup_cons, List.nodup_cons] at hpn
          exact hpn.2.2
        · have := hpp2.length_eq
          rw [List.length_cons] at this
          omega
        · intro u hu
          have hup : u ∈ hp := hpp.mem_iff.mpr (List.mem_cons_of_mem _ (hpp2.mem_iff.mpr (List.mem_cons_of_mem _ hu)))
          rw [List.nodup_cons, List.nodup_cons] at hpn
          rcases List.mem_cons.mp (elp.mem_iff.mp (hsub u hup)) with z | z
          · exact absurd (by rw [← z]; exact List.mem_cons_of_mem _ hu) hpn.1
          · rcases List.mem_cons.mp z with z | z
            · exact absurd (by rw [← z]; exact hu) hpn.2.1
            · exact z
      · rintro σ G7 ⟨y8, y9, y10, hs, xs, ws, hp, lp, wsd, rfl, h8d, h8h, hP8h, hnd, hlen, hsub, h8l, hP8l, h8w, hP8w, laid, hB8, hX8⟩
        exact ⟨y8, y9, y10, xs, ws, lp, wsd, rfl, h8d, h8l, hP8l, h8w, hP8w, laid, hB8.up (by omega), hX8⟩
    clear h5h hP5h hE5 h4d h4l hP4 h4w hB4 hX4
    rintro _ G6 ⟨y8, y9, y10, xs, ws, lp, wsd, rfl, h6d, h6l, hP6l, h6w, hP6w, laid, hB6, hX6⟩
    -- the others
    refine ⟨fun τ G => ∃ (y9 : Option V) (y10 : Option V) (ws : List V) (wsd : List (Port × Port)), τ = [some (.ref b), some (.int most), some (.int (tips : Int)), some (.ref M), some (.ref D), some (.ref Lf), some (.ref W), some (.ref Hd), y8, y9, y10, none] ∧ G D = some (.lst (kd.map V.str)) ∧ G W = some (.lst ws) ∧ Paired (WV G) ws wsd ∧ Laid kd tips wsd [] ∧ BoxAt G b (n + 20000) ∧ XB [b] H G, ?_, ?_⟩
    · refine ⟨fun m σ G => ∃ (y9 : Option V) (y10 : Option V) (xs : List V) (ws : List V) (lp : List Port) (wsd : List (Port × Port)), σ = [some (.ref b), some (.int most), some (.int (tips : Int)), some (.ref M), some (.ref D), some (.ref Lf), some (.ref W), some (.ref Hd), y8, y9, y10, none] ∧ m = lp.length ∧ G D = some (.lst (kd.map V.str)) ∧ G Lf = some (.lst xs) ∧ Paired (PV G) xs lp ∧ G W = some (.lst ws) ∧ Paired (WV G) ws wsd ∧ Laid kd tips wsd lp ∧ BoxAt G b (n + 20000 - lp.length) ∧ XB [b] H G, ⟨_, _, _, xs, ws, lp, wsd, rfl, rfl, h6d, h6l, hP6l, h6w, hP6w, laid, hB6.up (by have := laid.len; omega), hX6⟩, ?_⟩
      rintro m σ G7 ⟨y9, y10, xs, ws, lp, wsd, rfl, rfl, h7d, h7l, hP7l, h7w, hP7w, laid, hB7, hX7⟩
      have hxl : xs.length = lp.length := Paired.length hP7l
      have laidl := laid.len
      refine ⟨_, rfl, (by show 0 ≤ sizeLine; decide), fun e he => ⟨.list (lp.map portD), .list [], .lst (SqL.of (Ext.new he _ _ h7l)) (dp_ports (pv_mono.paired (Ext.new he).t hP7l)), .lst (SqL.of upd_same) .nil, ?_, _, rfl, ?_⟩⟩
      · exact depth_ports lp
      rw [eqv_nil]
      have hE8 : Ext G7 (upd G7 e (.lst [])) := Ext.new he
      by_cases c : lp = []
      · subst c
        rw [List.map_nil, decide_eq_true rfl]
        exact iteF ⟨y9, y10, ws, wsd, rfl, hE8 _ _ h7d, hE8 _ _ h7w, wv_mono.paired hE8.t hP7w, laid, (hB7.ext hE8).up (by simp), hX7.trans (hE8.xb _)⟩
      have hpos : 0 < lp.length := List.length_pos_iff.mpr c
      rw [decide_eq_false (by intro z; exact c (List.map_eq_nil_iff.mp z))]
      refine iteT ⟨fun σ' G' => ∃ (y9 : Option V) (y10 : Option V) (xs : List V) (ws : List V) (lp2 : List Port) (wsd : List (Port × Port)), σ' = [some (.ref b), some (.int most), some (.int (tips : Int)), some (.ref M), some (.ref D), some (.ref Lf), some (.ref W), some (.ref Hd), y8, y9, y10, none] ∧ lp2.length + 2 = lp.length ∧ G' D = some (.lst (kd.map V.str)) ∧ G' Lf = some (.lst xs) ∧ Paired (PV G') xs lp2 ∧ G' W = some (.lst ws) ∧ Paired (WV G') ws wsd ∧ Laid kd tips wsd lp2 ∧ BoxAt G' b (n + 20000 - lp2.length) ∧ XB [b] H G', ?_, ?_⟩
      · rintro σ' G' ⟨y9, y10, xs, ws, lp2, wsd, rfl, hl, r⟩
        exact ⟨lp2.length, by omega, y9, y10, xs, ws, lp2, wsd, rfl, rfl, r⟩
      generalize upd G7 e (.lst []) = G8 at hE8 ⊢
      have h8d := hE8 _ _ h7d
      have h8l := hE8 _ _ h7l
      have h8w := hE8 _ _ h7w
      have hP8l := pv_mono.paired hE8.t hP7l
      have hP8w := wv_mono.paired hE8.t hP7w
      have hB8 := hB7.ext hE8
      have hX8 := hX7.trans (hE8.xb _)
      -- one
      refine ⟨fun τ G => ∃ (one : V) (p : Port) (xs2 : List V) (lp2 : List Port), τ = [some (.ref b), some (.int most), some (.int (tips : Int)), some (.ref M), some (.ref D), some (.ref Lf), some (.ref W), some (.ref Hd), y8, some one, y10, none] ∧ PV G one p ∧ lp.Perm (p :: lp2) ∧ G D = some (.lst (kd.map V.str)) ∧ G Lf = some (.lst xs2) ∧ Paired (PV G) xs2 lp2 ∧ G W = some (.lst ws) ∧ Paired (WV G) ws wsd ∧ BoxAt G b (n + 20000 - lp.length + 1) ∧ XB [b] H G, ?_, ?_⟩
      · refine pop_take (b := b) (L := Lf) rfl rfl h8l hB8 (by omega) (new hLf) (by omega) (by omega) fun k y G9 hk hy hB9 h9 hf9 => ?_
        obtain ⟨p, hpk, hpv⟩ := paired_get2 hP8l hy
        have T9 : TExt G8 G9 := (XB.text (S := [b, Lf]) (fun c o hc e => (hf9 c (fun z => hc (by rw [z]; simp)) (fun z => hc (by rw [z]; simp))).trans e) fun a ha o e => by
          rcases List.mem_cons.mp ha with rfl | ha
          · obtain ⟨_, _, _, e2⟩ := hB8.some_
            rw [e2] at e
            cases e
            exact fun z => z
          · rw [List.mem_singleton.mp ha, h8l] at e
            cases e
            exact fun z => z)
        refine ⟨y, p, _, lp.eraseIdx k, rfl, pv_mono T9 hpv, perm_eraseIdx hpk, (hf9 D (new hD) hDL).trans h8d, h9, pv_mono.paired T9 (eraseIdx_paired k hP8l), (hf9 W (new hW) hLW.symm).trans h8w, wv_mono.paired T9 hP8w, hB9, fun c o hc e => ?_⟩
        have hcb : c ≠ b := fun z => hc (by rw [z]; simp)
        have hcH : c ≠ Lf := fun z => by rw [z, hLf] at e; cases e
        exact (hf9 c hcb hcH).trans (hX8 c o hc e)
      rintro _ G9 ⟨one, p, xs2, lp2, rfl, hpv, hpp, h9d, h9l, hP9l, h9w, hP9w, hB9, hX9⟩
      have hl2 : xs2.length = lp2.length := Paired.length hP9l
      have hl3 : lp.length = lp2.length + 1 := hpp.length_eq
      -- other
      refine ⟨fun τ G => ∃ (other : V) (r : Port) (xs3 : List V) (lp3 : List Port), τ = [some (.ref b), some (.int most), some (.int (tips : Int)), some (.ref M), some (.ref D), some (.ref Lf), some (.ref W), some (.ref Hd), y8, some one, some other, none] ∧ PV G one p ∧ PV G other r ∧ lp2.Perm (r :: lp3) ∧ G D = some (.lst (kd.map V.str)) ∧ G Lf = some (.lst xs3) ∧ Paired (PV G) xs3 lp3 ∧ G W = some (.lst ws) ∧ Paired (WV G) ws wsd ∧ BoxAt G b (n + 20000 - lp.length + 2) ∧ XB [b] H G, ?_, ?_⟩
      · refine pop_take (b := b) (L := Lf) rfl rfl h9l hB9 (by omega) (new hLf) (by omega) (by omega) fun k y G10 hk hy hB10 h10 hf10 => ?_
        obtain ⟨r', hpk, hpv2⟩ := paired_get2 hP9l hy
        have T10 : TExt G9 G10 := (XB.text (S := [b, Lf]) (fun c o hc e => (hf10 c (fun z => hc (by rw [z]; simp)) (fun z => hc (by rw [z]; simp))).trans e) fun a ha o e => by
          rcases List.mem_cons.mp ha with rfl | ha
          · obtain ⟨_, _, _, e2⟩ := hB9.some_
            rw [e2] at e
            cases e
            exact fun z => z
          · rw [List.mem_singleton.mp ha, h9l] at e
            cases e
            exact fun z => z)
        refine ⟨y, r', _, lp2.eraseIdx k, rfl, pv_mono T10 hpv, pv_mono T10 hpv2, perm_eraseIdx hpk, (hf10 D (new hD) hDL).trans h9d, h10, pv_mono.paired T10 (eraseIdx_paired k hP9l), (hf10 W (new hW) hLW.symm).trans h9w, wv_mono.paired T10 hP9w, hB10.up (by omega), fun c o hc e => ?_⟩
        have hcb : c ≠ b := fun z => hc (by rw [z]; simp)
        have hcH : c ≠ Lf := fun z => by rw [z, hLf] at e; cases e
        exact (hf10 c hcb hcH).trans (hX9 c o hc e)
      rintro _ G10 ⟨other, r', xs3, lp3, rfl, hpv1, hpv2, hpp2, h10d, h10l, hP10l, h10w, hP10w, hB10, hX10⟩
      have hl4 : lp2.length = lp3.length + 1 := hpp2.length_eq
      have hwl : ws.length = wsd.length := Paired.length hP10w
      obtain ⟨pa, rfl, hpa⟩ := hpv1
      obtain ⟨ra, rfl, hra⟩ := hpv2
      refine ⟨_, rfl, .inl ⟨rfl, _, SqL.of h10w⟩, _, rfl, _, rfl, (by show 2 ≤ sizeLine; decide), fun t ht => ⟨W, ws, _, rfl, rfl, Ext.new ht _ _ h10w, szl (by omega), ?_⟩⟩
      have TW : TExt (upd G10 t (.tup [.ref pa, .ref ra])) (upd (upd G10 t (.tup [.ref pa, .ref ra])) W (.lst (ws ++ [.ref t]))) := TExt.put (Ext.new ht _ _ h10w) fun z => z
      have TT := (Ext.new (o := .tup [.ref pa, .ref ra]) ht).t.trans TW
      exact ⟨_, _, xs3, ws ++ [.ref t], lp3, _, rfl, by omega, (upd_ne hDW).trans (Ext.new ht _ _ h10d), (upd_ne hLW).trans (Ext.new ht _ _ h10l), pv_mono.paired TT hP10l, upd_same,
        paired_snoc (wv_mono.paired TT hP10w) ⟨t, pa, ra, rfl, TW _ _ upd_same trivial, TT _ _ hpa trivial, TT _ _ hra trivial⟩, laid.snoc (hpp.trans (hpp2.cons p)), ((hB10.ext (Ext.new ht)).same (upd_ne (new hW).symm)).up (by omega), (hX10.new ht).putN hW⟩
    rintro _ G7 ⟨y9, y10, ws, wsd, rfl, h7d, h7w, hP7w, laid, hB7, hX7⟩
    refine ⟨_, rfl, _, rfl, (by show 2 ≤ sizeLine; decide), fun t ht' => ?_⟩
    have hE := Ext.new (o := .tup [.ref D, .ref W]) ht'
    refine q t D W kd ws wsd _ ?_ hD hW upd_same (hE _ _ h7d) (hE _ _ h7w) (wv_mono.paired hE.t hP7w) hkk hkl laid.fits (hB7.ext hE) (hX7.trans (hE.xb _))
    cases e : H t with
    | none => rfl
    | some o =>
      rw [hX7 t o (not_in1 (hB7.ne ht').symm) e] at ht'
      cases ht'
end Me
namespace Me
open PySem PySem.Spec PyProof.Rows L2 Mc
/-! ### rows of two nets, compared -/
theorem alike_row2 (G G' : Gr) (l l' : List Nat) (c c' : Nat) : PySem.W.alike (rowD G l c) (rowD G' l' c') = true := by
  unfold rowD
  simp only [PySem.W.alike, PySem.W.alikeAll, Bool.true_and, Bool.and_true]
  refine alikeAll_of fun d hd e he => ?_
  obtain ⟨k, _, rfl⟩ := List.mem_map.mp hd
  obtain ⟨k', _, rfl⟩ := List.mem_map.mp he
  simp [PySem.W.alike, PySem.W.alikeAll]
theorem alike_rows2 (G G' : Gr) (l l' : List Nat) : PySem.W.alike (rowsD G l) (rowsD G' l') = true := by
  unfold rowsD
  simp only [PySem.W.alike]
  refine alikeAll_of fun d hd e he => ?_
  obtain ⟨c, _, rfl⟩ := List.mem_map.mp hd
  obtain ⟨c', _, rfl⟩ := List.mem_map.mp he
  exact alike_row2 G G' l l' c c'
mutual
theorem alike_eq : ∀ (x y : PyData), PySem.W.alike x y = true → PyData.eqv x y = true → x = y
  | .none, y, h, e => by cases y <;> simp [PySem.W.alike] at h; rfl
  | .bool a, y, h, e => by
    cases y with
    | bool b =>
      simp only [PyData.eqv] at e
      cases a <;> cases b <;> simp_all
    | _ => simp [PySem.W.alike] at h
  | .int a, y, h, e => by
    cases y with
    | int b =>
      simp only [PyData.eqv] at e
      simp_all
    | _ => simp [PySem.W.alike] at h
  | .str a, y, h, e => by
    cases y with
    | str b =>
      simp only [PyData.eqv] at e
      simp_all
    | _ => simp [PySem.W.alike] at h
  | .list xs, y, h, e => by
    cases y with
    | list ys =>
      simp only [PySem.W.alike] at h
      simp only [PyData.eqv] at e
      rw [alikeAll_eq xs ys h e]
    | _ => simp [PySem.W.alike] at h
  | .tuple xs, y, h, e => by
    cases y with
    | tuple ys =>
      simp only [PySem.W.alike] at h
      simp only [PyData.eqv] at e
      rw [alikeAll_eq xs ys h e]
    | _ => simp [PySem.W.alike] at h
  | .dict _, y, h, e => by cases y <;> simp [PySem.W.alike] at h
theorem alikeAll_eq : ∀ (xs ys : List PyData), PySem.W.alikeAll xs ys = true → PyData.eqvAll xs ys = true → xs = ys
  | [], [], _, _ => rfl
  | [], _ :: _, _, e => by simp [PyData.eqvAll] at e
  | _ :: _, [], _, e => by simp [PyData.eqvAll] at e
  | x :: xs, y :: ys, h, e => by
    obtain ⟨h1, h2⟩ := PySem.W.alike_all_cons h
    rw [PySem.W.eqv_all_cons, Bool.and_eq_true] at e
    rw [alike_eq x y h1 e.1, alikeAll_eq xs ys h2 e.2]
end
/-- equal signs, equal data -/
theorem toks_inj {x y : PyData} (h : PySem.W.alike x y = true) (e : PySem.W.keyToks x = PySem.W.keyToks y) : x = y := by
  refine alike_eq x y h ?_
  cases c : PyData.eqv x y with
  | true => rfl
  | false =>
    have h2 := (PySem.W.toks_eqv x y h).2 c [] [.inl 0]
    rw [e, PySem.W.lex_pre, lex_irrefl] at h2
    exact absurd h2 (by decide)
theorem rows_total {G G' : Gr} {l l' : List Nat} (h1 : PySem.W.dataLt (rowsD G l) (rowsD G' l') = false) (h2 : PySem.W.dataLt (rowsD G' l') (rowsD G l) = false) : rowsD G l = rowsD G' l' :=
  toks_inj (alike_rows2 G G' l l') (lex_total _ _ h1 h2)
theorem lt_trans2 {x y z : PyData} (h1 : PySem.W.dataLt x y = true) (h2 : PySem.W.dataLt y z = true) : PySem.W.dataLt x z = true := lex_trans _ _ _ h1 h2
/-- of two parts in order, the rows are in order -/
theorem part_rows {G : Gr} {l l' : List Nat} (h : PySem.W.dataLe false (partD G) l l' = true) : PySem.W.dataLt (rowsD G l') (rowsD G l) = false := by
  rw [PySem.W.dataLe_eq] at h
  have h' : PySem.W.dataLt (partD G l') (partD G l) = false := by
    have : (!PySem.W.dataLt (partD G l') (partD G l)) = true := h
    simpa using this
  cases c : PySem.W.dataLt (rowsD G l') (rowsD G l) with
  | false => rfl
  | true =>
    exfalso
    have ne : PyData.eqv (rowsD G l') (rowsD G l) = false := by
      cases e : PyData.eqv (rowsD G l') (rowsD G l) with
      | false => rfl
      | true =>
        have := (PySem.W.toks_eqv _ _ (alike_rows G l' l)).1 e
        unfold PySem.W.dataLt at c
        rw [this, lex_irrefl] at c
        exact absurd c (by decide)
    have h2 : PySem.W.dataLt (partD G l') (partD G l) = PySem.W.dataLt (rowsD G l') (rowsD G l) := by
      unfold partD
      rw [PySem.W.dataLt_tuple]
      exact PySem.W.dataLt_all_no (alike_rows G l' l) ne
    rw [h2, c] at h'
    exact absurd h' (by decide)
/-! ### renumbered nets -/
def mvC (f : Nat → Nat) (o : Int) : Int := if o < 0 then o else (f o.toNat : Int)
def mvP (f : Nat → Nat) (p : Port) : Port := (mvC f p.1, p.2)
structure GIso (G G' : Gr) (f : Nat → Nat) : Prop where
  n : G'.n = G.n
  ends : G'.ends = G.ends
  lt : ∀ c, c < G.n → f c < G.n
  inj : ∀ c d, c < G.n → d < G.n → f c = f d → c = d
  kind : ∀ c, c < G.n → G'.kind (f c) = G.kind c
  ac : ∀ p, G.port p → G'.ac (mvP f p) = mvP f (G.ac p)
theorem mvC_nat (f : Nat → Nat) (c : Nat) : mvC f (c : Int) = (f c : Int) := by
  unfold mvC
  rw [if_neg (by omega), Int.toNat_natCast]
theorem mvC_neg {f : Nat → Nat} {o : Int} (h : o < 0) : mvC f o = o := if_pos h
theorem mvC_pos {f : Nat → Nat} {o : Int} (h : 0 ≤ o) : mvC f o = (f o.toNat : Int) := if_neg (by omega)
section
variable {f : Nat → Nat} {n : Nat}
theorem addN_map (hi : ∀ c d, c < n → d < n → f c = f d → c = d) {g : List Nat} {o : Int} (hg : ∀ c ∈ g, c < n) (ho : 0 ≤ o → o.toNat < n) : addN (g.map f) (mvC f o) = (addN g o).map f := by
  unfold addN
  by_cases c : 0 ≤ o
  · rw [mvC_pos c, Int.toNat_natCast]
    have hm : f o.toNat ∈ g.map f ↔ o.toNat ∈ g := by
      constructor
      · intro h
        obtain ⟨d, hd, e⟩ := List.mem_map.mp h
        rw [← hi d _ (hg d hd) (ho c) e]
        exact hd
      · exact fun h => List.mem_map.mpr ⟨_, h, rfl⟩
    by_cases c2 : o.toNat ∈ g
    · rw [if_neg (fun z => z.2 (hm.mpr c2)), if_neg (fun z => z.2 c2)]
    · rw [if_pos ⟨by omega, fun z => c2 (hm.mp z)⟩, if_pos ⟨c, c2⟩, List.map_append]
      rfl
  · rw [mvC_neg (by omega), if_neg (fun z => c z.1), if_neg (fun z => c z.1)]
theorem visit_map (hi : ∀ c d, c < n → d < n → f c = f d → c = d) : ∀ {l : List Int} {g : List Nat}, (∀ c ∈ g, c < n) → (∀ o ∈ l, 0 ≤ o → o.toNat < n) → visit (l.map (mvC f)) (g.map f) = (visit l g).map f
  | [], g, _, _ => rfl
  | o :: l, g, hg, hl => by
    show visit (l.map (mvC f)) (addN (g.map f) (mvC f o)) = (visit l (addN g o)).map f
    rw [addN_map hi hg (hl o List.mem_cons_self)]
    refine visit_map hi (fun c hc => ?_) fun u hu => hl u (List.mem_cons_of_mem _ hu)
    rcases addN_mem hc with h | ⟨h0, rfl⟩
    · exact hg c h
    · exact hl o List.mem_cons_self h0
end
section
variable {G G' : Gr} {f : Nat → Nat}
theorem GIso.ar (I : GIso G G' f) {c : Nat} (hc : c < G.n) : G'.ar (f c) = G.ar c := by
  unfold Gr.ar
  rw [I.kind c hc]
theorem GIso.nb (I : GIso G G' f) {c : Nat} (hc : c < G.n) : G'.nb (f c) = (G.nb c).map (mvC f) := by
  unfold Gr.nb
  rw [I.ar hc, List.map_map]
  refine List.map_congr_left fun k hk => ?_
  have := I.ac ((c : Int), (k : Int)) (cell_port hc (List.mem_range.mp hk))
  have e : mvP f ((c : Int), (k : Int)) = ((f c : Int), (k : Int)) := Prod.ext (mvC_nat f c) rfl
  rw [e] at this
  show (G'.ac ((f c : Int), (k : Int))).1 = mvC f (G.ac ((c : Int), (k : Int))).1
  rw [this]
  rfl
theorem GIso.bfs (I : GIso G G' f) (ok : G.Ok) {first : List Nat} (hf : ∀ c ∈ first, c < G.n) : ∀ p, bfsN G'.nb (first.map f) p = (bfsN G.nb first p).map f
  | 0 => rfl
  | p + 1 => by
    have ih := I.bfs ok hf p
    have hlt : ∀ c ∈ bfsN G.nb first p, c < G.n := bfsN_within (S := fun c => c < G.n) hf (fun c hc o ho h0 => nb_lt ok hc ho h0) p
    show (match (bfsN G'.nb (first.map f) p)[p]? with | none => bfsN G'.nb (first.map f) p | some c => visit (G'.nb c) (bfsN G'.nb (first.map f) p)) = (match (bfsN G.nb first p)[p]? with | none => bfsN G.nb first p | some c => visit (G.nb c) (bfsN G.nb first p)).map f
    rw [ih, List.getElem?_map]
    cases e : (bfsN G.nb first p)[p]? with
    | none => rfl
    | some c =>
      have hc := hlt c (List.mem_of_getElem? e)
      show visit (G'.nb (f c)) ((bfsN G.nb first p).map f) = _
      rw [I.nb hc]
      exact visit_map I.inj hlt fun o ho h0 => nb_lt ok hc ho h0
theorem GIso.srch (I : GIso G G' f) (ok : G.Ok) {c : Nat} (hc : c < G.n) : Me.srch G' (f c) = (Me.srch G c).map f := by
  show bfsN G'.nb [f c] G'.n = _
  rw [I.n]
  exact I.bfs ok (first := [c]) (fun d hd => by rw [List.mem_singleton.mp hd]; exact hc) G.n
theorem GIso.firstL (I : GIso G G' f) (ok : G.Ok) : Me.firstL G' = (Me.firstL G).map f := by
  have e : tips G' = (tips G).map (mvC f) := by
    unfold tips
    rw [I.ends, List.map_map]
    refine List.map_congr_left fun k hk => ?_
    have := I.ac (-1, (k : Int)) (end_port (List.mem_range.mp hk))
    have e : mvP f (-1, (k : Int)) = (-1, (k : Int)) := Prod.ext (show mvC f (-1) = -1 from mvC_neg (by decide)) rfl
    rw [e] at this
    show (G'.ac (-1, (k : Int))).1 = mvC f (G.ac (-1, (k : Int))).1
    rw [this]
    rfl
  unfold Me.firstL
  rw [e]
  refine visit_map (g := []) I.inj (fun _ h => nomatch h) fun o ho h0 => ?_
  obtain ⟨k, hk, rfl⟩ := List.mem_map.mp ho
  rcases ok.there _ (end_port (List.mem_range.mp hk)) with h | h
  · omega
  · have := h.2.1
    omega
theorem GIso.found0 (I : GIso G G' f) (ok : G.Ok) : Me.found0 G' = (Me.found0 G).map f := by
  unfold Me.found0
  rw [I.firstL ok, I.n]
  exact I.bfs ok (firstL_lt ok) G.n
theorem idxOf_map (hi : ∀ c d, c < G.n → d < G.n → f c = f d → c = d) : ∀ {l : List Nat} {c : Nat}, (∀ d ∈ l, d < G.n) → c < G.n → (l.map f).idxOf (f c) = l.idxOf c
  | [], c, _, _ => rfl
  | d :: l, c, hl, hc => by
    rw [List.map_cons, List.idxOf_cons, List.idxOf_cons]
    by_cases e : d = c
    · subst e
      simp
    · have e2 : f d ≠ f c := fun z => e (hi d c (hl d List.mem_cons_self) hc z)
      rw [show (f d == f c) = false from beq_eq_false_iff_ne.mpr e2, show (d == c) = false from beq_eq_false_iff_ne.mpr e, idxOf_map hi (fun u hu => hl u (List.mem_cons_of_mem _ hu)) hc]
theorem GIso.rows (I : GIso G G' f) (ok : G.Ok) {l : List Nat} (hl : ∀ c ∈ l, c < G.n) (hs : Shut G l) : rowsD G' (l.map f) = rowsD G l := by
  unfold rowsD
  rw [List.map_map]
  congr 1
  refine List.map_congr_left fun c hc => ?_
  have hcn := hl c hc
  show rowD G' (l.map f) (f c) = rowD G l c
  unfold rowD
  rw [I.kind c hcn, I.ar hcn]
  congr 3
  congr 1
  refine List.map_congr_left fun k hk => ?_
  have hk' := List.mem_range.mp hk
  have := I.ac ((c : Int), (k : Int)) (cell_port hcn hk')
  have e : mvP f ((c : Int), (k : Int)) = ((f c : Int), (k : Int)) := Prod.ext (mvC_nat f c) rfl
  rw [e] at this
  rw [this]
  obtain ⟨h0, hm⟩ := hs c hc (G.ac ((c : Int), (k : Int))).1 (List.mem_map.mpr ⟨k, hk, rfl⟩)
  have e2 : idx (l.map f) (mvP f (G.ac ((c : Int), (k : Int)))).1 = idx l (G.ac ((c : Int), (k : Int))).1 := by
    show (l.map f).idxOf (mvC f (G.ac ((c : Int), (k : Int))).1).toNat = _
    rw [mvC_pos h0, Int.toNat_natCast]
    exact idxOf_map I.inj hl (hl _ hm)
  rw [e2]
  rfl
end
/-! ### the least rows -/
theorem better_min {G : Gr} : ∀ (cells : List Nat) (b : Option (List Nat)) (l : List Nat), cells.foldl (better G) b = some l →
    (∀ o, b = some o → PySem.W.dataLt (rowsD G o) (rowsD G l) = false) ∧ ∀ e ∈ cells, PySem.W.dataLt (rowsD G (srch G e)) (rowsD G l) = false
  | [], b, l, h => by
    have h : b = some l := h
    refine ⟨fun o ho => ?_, fun _ z => nomatch z⟩
    rw [h] at ho
    cases ho
    exact lex_irrefl _
  | c :: cells, b, l, h => by
    obtain ⟨h1, h2⟩ := better_min cells (better G b c) l h
    have key : PySem.W.dataLt (rowsD G (srch G c)) (rowsD G l) = false ∧ ∀ o, b = some o → PySem.W.dataLt (rowsD G o) (rowsD G l) = false := by
      cases b with
      | none => exact ⟨h1 _ rfl, fun _ z => nomatch z⟩
      | some o =>
        unfold better at h1
        by_cases c1 : PySem.W.dataLt (rowsD G (srch G c)) (rowsD G o) = true
        · have h1' := h1 (srch G c) (if_pos c1)
          refine ⟨h1', fun o' e => ?_⟩
          cases e
          cases z : PySem.W.dataLt (rowsD G o) (rowsD G l) with
          | false => rfl
          | true =>
            rw [lt_trans2 c1 z] at h1'
            exact absurd h1' (by decide)
        · have h1' := h1 o (if_neg c1)
          refine ⟨?_, fun o' e => by cases e; exact h1'⟩
          cases z : PySem.W.dataLt (rowsD G (srch G c)) (rowsD G l) with
          | false => rfl
          | true =>
            rcases lex_negTrans _ (PySem.W.keyToks (rowsD G o)) _ z with y | y
            · exact absurd y c1
            · have y' : PySem.W.dataLt (rowsD G o) (rowsD G l) = true := y
              rw [h1'] at y'
              exact absurd y' (by decide)
    refine ⟨key.2, fun e he => ?_⟩
    rcases List.mem_cons.mp he with rfl | he
    · exact key.1
    · exact h2 e he
theorem least_is {G : Gr} {cells l : List Nat} (h : leastL G cells = some l) : ∃ d ∈ cells, l = srch G d := by
  obtain ⟨d, h1, h2⟩ := leastL_srch cells none (fun d => d ∈ cells) (fun d hd => hd) (fun l z => nomatch z) l h
  exact ⟨d, h1, h2⟩
end Me
namespace Me
open PySem PySem.Spec PyProof.Rows L2 Mc
section
variable {G G' : Gr} {f : Nat → Nat}
theorem GIso.least (I : GIso G G' f) (ok : G.Ok) (ok' : G'.Ok) {c : Nat} (hc : c < G.n) {c' : Nat} (hc' : c' ∈ Me.srch G' (f c)) {l l' : List Nat} (hl : leastL G (Me.srch G c) = some l) (hl' : leastL G' (Me.srch G' c') = some l') (hs : Shut G (Me.srch G c)) :
    rowsD G' l' = rowsD G l ∧ l'.Perm (l.map f) := by
  have hfc : f c < G'.n := by
    rw [I.n]
    exact I.lt c hc
  have hlt := srch_lt ok hc
  have e0 := I.srch ok hc
  have pm := srch_perm ok' hfc hc'
  rw [e0] at pm
  have m1 := (better_min _ _ _ hl).2
  have m2 := (better_min _ _ _ hl').2
  obtain ⟨d, hd, rfl⟩ := least_is hl
  obtain ⟨d', hd', rfl⟩ := least_is hl'
  obtain ⟨e, he, rfl⟩ := List.mem_map.mp (pm.mem_iff.mp hd')
  have hen := hlt e he
  have hdn := hlt d hd
  have fd : f d ∈ Me.srch G' c' := pm.mem_iff.mpr (List.mem_map.mpr ⟨d, hd, rfl⟩)
  have r1 : rowsD G' (Me.srch G' (f e)) = rowsD G (Me.srch G e) := by
    rw [I.srch ok hen]
    exact I.rows ok (srch_lt ok hen) (srch_shut ok hs hlt he)
  have r2 : rowsD G' (Me.srch G' (f d)) = rowsD G (Me.srch G d) := by
    rw [I.srch ok hdn]
    exact I.rows ok (srch_lt ok hdn) (srch_shut ok hs hlt hd)
  have k1 := m1 e he
  have k2 := m2 (f d) fd
  rw [r2] at k2
  rw [← r1] at k1
  refine ⟨(rows_total k2 k1).symm, ?_⟩
  rw [I.srch ok hen]
  exact ((srch_perm ok hc he).trans (srch_perm ok hc hd).symm).map f
abbrev parts (G : Gr) : List (List Nat) := (partsF G G.n).2
theorem parts_is (ok : G.Ok) : ∀ i, i ≤ G.n → ∀ l ∈ (partsF G i).2, ∃ c, c < G.n ∧ c ∉ Me.found0 G ∧ leastL G (Me.srch G c) = some l ∧ Shut G (Me.srch G c)
  | 0, _, l, h => nomatch h
  | i + 1, hi, l, h => by
    have I := partsF_inv ok i (by omega)
    rw [partsF_succ] at h
    unfold stepP at h
    by_cases c : i ∈ (partsF G i).1
    · rw [if_pos c] at h
      exact parts_is ok i (by omega) l h
    · rw [if_neg c] at h
      rcases List.mem_append.mp h with h | h
      · exact parts_is ok i (by omega) l h
      · obtain ⟨l', e1, e2⟩ := least_perm ok (show i < G.n by omega)
        have h := List.mem_singleton.mp h
        rw [e1] at h
        have h : l = l' := h
        subst h
        exact ⟨i, by omega, fun z => c (I.f0 i z), e1, srch_Shut ok I.cl (fun c hc => I.f0 c (firstL_sub G c hc)) (by omega) c⟩
theorem parts_nodup (ok : G.Ok) : (Me.found0 G ++ (parts G).flatten).Nodup := by
  have I := partsF_inv ok G.n (Nat.le_refl _)
  exact I.pm.nodup_iff.mp I.nd
theorem parts_all (ok : G.Ok) {c : Nat} (hc : c < G.n) (hn : c ∉ Me.found0 G) : ∃ l ∈ parts G, c ∈ l := by
  have I := partsF_inv ok G.n (Nat.le_refl _)
  rcases List.mem_append.mp (I.pm.mem_iff.mp (I.upto c hc)) with h | h
  · exact absurd h hn
  · obtain ⟨l, h1, h2⟩ := List.mem_flatten.mp h
    exact ⟨l, h1, h2⟩
theorem flat_disj : ∀ {L : List (List Nat)}, L.flatten.Nodup → ∀ {a b : List Nat} {c : Nat}, a ∈ L → b ∈ L → c ∈ a → c ∈ b → a = b
  | [], _, _, _, _, h, _, _, _ => nomatch h
  | x :: L, hn, a, b, c, ha, hb, hca, hcb => by
    rw [List.flatten_cons, List.nodup_append] at hn
    obtain ⟨_, h2, h3⟩ := hn
    rcases List.mem_cons.mp ha with rfl | ha
    · rcases List.mem_cons.mp hb with rfl | hb
      · rfl
      · exact absurd rfl (h3 c hca c (List.mem_flatten.mpr ⟨b, hb, hcb⟩))
    · rcases List.mem_cons.mp hb with hbx | hb
      · exact absurd rfl (h3 c (hbx ▸ hcb) c (List.mem_flatten.mpr ⟨a, ha, hca⟩))
      · exact flat_disj h2 ha hb hca hcb
theorem flat_nodup : ∀ {L : List (List Nat)}, L.flatten.Nodup → (∀ a ∈ L, a ≠ []) → L.Nodup
  | [], _, _ => List.nodup_nil
  | x :: L, hn, hne => by
    rw [List.flatten_cons, List.nodup_append] at hn
    obtain ⟨_, h2, h3⟩ := hn
    refine List.nodup_cons.mpr ⟨fun hx => ?_, flat_nodup h2 fun a ha => hne a (List.mem_cons_of_mem _ ha)⟩
    have := hne x List.mem_cons_self
    cases x with
    | nil => exact this rfl
    | cons c r => exact absurd rfl (h3 c List.mem_cons_self c (List.mem_flatten.mpr ⟨_, hx, List.mem_cons_self⟩))
/-- facts of a part -/
theorem part_facts (ok : G.Ok) {l : List Nat} (h : l ∈ parts G) : (∃ d, d ∈ l) ∧ (∀ d ∈ l, d < G.n ∧ d ∉ Me.found0 G) ∧ Shut G l := by
  obtain ⟨c, h1, h2, h3, h4⟩ := parts_is ok G.n (Nat.le_refl _) l h
  obtain ⟨d, hd, rfl⟩ := least_is h3
  have hlt := srch_lt ok h1
  have pm := srch_perm ok h1 hd
  refine ⟨⟨d, srch_self G d⟩, fun e he => ⟨hlt e (pm.mem_iff.mp he), srch_apart ok (found0_closed ok) h1 h2 e (pm.mem_iff.mp he)⟩, srch_shut ok h4 hlt hd⟩
theorem GIso.onto (I : GIso G G' f) {x : Nat} (hx : x < G.n) : ∃ c, c < G.n ∧ f c = x := by
  have hn : ((List.range G.n).map f).Nodup := map_nodup_on List.nodup_range fun a ha b hb e => I.inj a b (List.mem_range.mp ha) (List.mem_range.mp hb) e
  have pm := perm_of_len hn (m := List.range G.n) (fun y hy => by
    obtain ⟨c, hc, rfl⟩ := List.mem_map.mp hy
    exact List.mem_range.mpr (I.lt c (List.mem_range.mp hc))) (by rw [List.length_map]; exact Nat.le_refl _) List.nodup_range
  obtain ⟨c, hc, e⟩ := List.mem_map.mp (pm.mem_iff.mpr (List.mem_range.mpr hx))
  exact ⟨c, List.mem_range.mp hc, e⟩
theorem GIso.not0 (I : GIso G G' f) (ok : G.Ok) {c : Nat} (hc : c < G.n) : f c ∈ Me.found0 G' ↔ c ∈ Me.found0 G := by
  rw [I.found0 ok]
  constructor
  · intro h
    obtain ⟨d, hd, e⟩ := List.mem_map.mp h
    rw [← I.inj d c (found0_lt ok d hd) hc e]
    exact hd
  · exact fun h => List.mem_map.mpr ⟨c, h, rfl⟩
/-- a part and its image -/
def PR (G G' : Gr) (f : Nat → Nat) (l l' : List Nat) : Prop := rowsD G' l' = rowsD G l ∧ l'.Perm (l.map f)
theorem GIso.part (I : GIso G G' f) (ok : G.Ok) (ok' : G'.Ok) {l : List Nat} (hl : l ∈ parts G) : ∃ l' ∈ parts G', PR G G' f l l' := by
  obtain ⟨c, h1, h2, h3, h4⟩ := parts_is ok G.n (Nat.le_refl _) l hl
  have hfc : f c < G'.n := by
    rw [I.n]
    exact I.lt c h1
  obtain ⟨l', hl', hm⟩ := parts_all ok' hfc (fun z => h2 ((I.not0 ok h1).mp z))
  obtain ⟨c', g1, g2, g3, g4⟩ := parts_is ok' G'.n (Nat.le_refl _) l' hl'
  obtain ⟨d', hd', e⟩ := least_is g3
  have hm2 : f c ∈ Me.srch G' c' := (srch_perm ok' g1 hd').mem_iff.mp (e ▸ hm)
  exact ⟨l', hl', I.least ok ok' h1 (srch_back ok' g1 hm2) h3 g3 h4⟩
end
/-- two lists that match by a relation -/
theorem perm_match {α β γ : Type} [DecidableEq β] (k : α → γ) (k' : β → γ) (R : α → β → Prop) : ∀ {A : List α} {B : List β}, A.Nodup → B.Nodup → (∀ a ∈ A, ∃ b ∈ B, R a b) → (∀ b ∈ B, ∃ a ∈ A, R a b) →
    (∀ a b b', a ∈ A → b ∈ B → b' ∈ B → R a b → R a b' → b = b') → (∀ a a' b, a ∈ A → a' ∈ A → b ∈ B → R a b → R a' b → a = a') → (∀ a b, R a b → k a = k' b) → (A.map k).Perm (B.map k')
  | [], B, _, _, _, hs, _, _, _ => by
    cases B with
    | nil => exact .refl _
    | cons b B =>
      obtain ⟨a, ha, _⟩ := hs b List.mem_cons_self
      cases ha
  | a :: A, B, hA, hB, ht, hs, hf, hi, hk => by
    obtain ⟨hA1, hA2⟩ := List.nodup_cons.mp hA
    obtain ⟨b, hb, hr⟩ := ht a List.mem_cons_self
    have hp := List.perm_cons_erase hb
    have ih := perm_match k k' R (A := A) (B := B.erase b) hA2 (hB.erase b) (fun x hx => ?_) (fun y hy => ?_) (fun x y y' hx hy hy' => hf x y y' (List.mem_cons_of_mem _ hx) (List.mem_of_mem_erase hy) (List.mem_of_mem_erase hy'))
      (fun x x' y hx hx' hy => hi x x' y (List.mem_cons_of_mem _ hx) (List.mem_cons_of_mem _ hx') (List.mem_of_mem_erase hy)) hk
    · refine List.Perm.trans ?_ (hp.map k').symm
      rw [List.map_cons, List.map_cons, hk a b hr]
      exact ih.cons _
    · obtain ⟨y, hy, hxy⟩ := ht x (List.mem_cons_of_mem _ hx)
      refine ⟨y, (List.mem_erase_of_ne fun z => ?_).mpr hy, hxy⟩
      subst z
      have := hi a x y List.mem_cons_self (List.mem_cons_of_mem _ hx) hy hr hxy
      subst this
      exact hA1 hx
    · obtain ⟨h1, h2⟩ := (List.Nodup.mem_erase_iff hB).mp hy
      obtain ⟨x, hx, hxy⟩ := hs y h2
      rcases List.mem_cons.mp hx with rfl | hx
      · exact absurd (hf x y b List.mem_cons_self h2 hb hxy hr) h1
      · exact ⟨x, hx, hxy⟩
/-- sorted lists of the same things are the same -/
theorem sorted_same {α : Type} (lt : α → α → Bool) (tot : ∀ a b, lt a b = false → lt b a = false → a = b) : ∀ {l m : List α}, l.Perm m → l.Pairwise (fun a b => lt b a = false) → m.Pairwise (fun a b => lt b a = false) → l = m
  | [], m, h, _, _ => (List.Perm.nil_eq h)
  | a :: l, [], h, _, _ => absurd h.length_eq (by simp)
  | a :: l, b :: m, h, h1, h2 => by
    obtain ⟨a1, a2⟩ := List.pairwise_cons.mp h1
    obtain ⟨b1, b2⟩ := List.pairwise_cons.mp h2
    have e : a = b := by
      rcases List.mem_cons.mp (h.mem_iff.mp List.mem_cons_self) with e | ha
      · exact e
      · rcases List.mem_cons.mp (h.mem_iff.mpr List.mem_cons_self) with e | hb
        · exact e.symm
        · exact tot a b (b1 a ha) (a1 b hb)
    subst e
    rw [sorted_same lt tot (List.Perm.cons_inv h) a2 b2]
theorem paired_of_map {α β γ : Type} {f : α → γ} {g : β → γ} : ∀ {l : List α} {m : List β}, l.map f = m.map g → Paired (fun a b => f a = g b) l m
  | [], [], _ => .nil
  | [], _ :: _, h => by simp at h
  | _ :: _, [], h => by simp at h
  | a :: l, b :: m, h => by
    rw [List.map_cons, List.map_cons, List.cons.injEq] at h
    exact .cons h.1 (paired_of_map h.2)
section
variable {G G' : Gr} {f : Nat → Nat}
abbrev sparts (G : Gr) : List (List Nat) := (parts G).mergeSort (PySem.W.dataLe false (partD G))
theorem part_ne (ok : G.Ok) : ∀ a ∈ parts G, a ≠ [] := fun a ha z => by
  obtain ⟨⟨d, hd⟩, _⟩ := part_facts ok ha
  rw [z] at hd
  cases hd
theorem parts_nd (ok : G.Ok) : (parts G).flatten.Nodup := (List.nodup_append.mp (parts_nodup ok)).2.1
theorem GIso.perm (I : GIso G G' f) (ok : G.Ok) (ok' : G'.Ok) : ((parts G).map fun l => PySem.W.keyToks (rowsD G l)).Perm ((parts G').map fun l => PySem.W.keyToks (rowsD G' l)) := by
  have shr : ∀ {a b b' : List Nat}, a ∈ parts G → b ∈ parts G' → b' ∈ parts G' → PR G G' f a b → PR G G' f a b' → b = b' := fun {a b b'} ha hb hb' h h' => by
    obtain ⟨⟨d, hd⟩, _⟩ := part_facts ok ha
    exact flat_disj (parts_nd ok') hb hb' (h.2.mem_iff.mpr (List.mem_map.mpr ⟨d, hd, rfl⟩)) (h'.2.mem_iff.mpr (List.mem_map.mpr ⟨d, hd, rfl⟩))
  refine perm_match _ _ (PR G G' f) (flat_nodup (parts_nd ok) (part_ne ok)) (flat_nodup (parts_nd ok') (part_ne ok')) (fun a ha => I.part ok ok' ha) (fun b hb => ?_) (fun a b b' ha hb hb' => shr ha hb hb') (fun a a' b ha ha' hb h h' => ?_) fun a b h => by
    show PySem.W.keyToks _ = PySem.W.keyToks _
    rw [h.1]
  · obtain ⟨⟨x, hx⟩, hx2, _⟩ := part_facts ok' hb
    have hxn := (hx2 x hx).1
    rw [I.n] at hxn
    obtain ⟨c, hc, rfl⟩ := I.onto hxn
    obtain ⟨a, ha, hca⟩ := parts_all ok hc fun z => (hx2 _ hx).2 ((I.not0 ok hc).mpr z)
    obtain ⟨b', hb', h⟩ := I.part ok ok' ha
    have : b' = b := flat_disj (parts_nd ok') hb' hb (h.2.mem_iff.mpr (List.mem_map.mpr ⟨c, hca, rfl⟩)) hx
    subst this
    exact ⟨a, ha, h⟩
  · obtain ⟨⟨d, hd⟩, hd2, _⟩ := part_facts ok ha
    have : f d ∈ a'.map f := h'.2.mem_iff.mp (h.2.mem_iff.mpr (List.mem_map.mpr ⟨d, hd, rfl⟩))
    obtain ⟨d', hd', e⟩ := List.mem_map.mp this
    have := I.inj d' d ((part_facts ok ha').2.1 d' hd').1 (hd2 d hd).1 e
    subst this
    exact flat_disj (parts_nd ok) ha ha' hd hd'
theorem sparts_sorted (G : Gr) : ((sparts G).map fun l => PySem.W.keyToks (rowsD G l)).Pairwise fun a b => PyProof.Rows.lexLt itemOrd b a = false := by
  have h := List.pairwise_mergeSort (le := PySem.W.dataLe false (partD G)) (fun a b c h1 h2 => ?_) (fun a b => ?_) (parts G)
  · rw [List.pairwise_map]
    exact h.imp fun {a b} h => part_rows h
  · rw [PySem.W.dataLe_eq] at h1 h2 ⊢
    have h1' : PySem.W.dataLt (partD G b) (partD G a) = false := by
      have : (!PySem.W.dataLt (partD G b) (partD G a)) = true := h1
      simpa using this
    have h2' : PySem.W.dataLt (partD G c) (partD G b) = false := by
      have : (!PySem.W.dataLt (partD G c) (partD G b)) = true := h2
      simpa using this
    show (!PySem.W.dataLt (partD G c) (partD G a)) = true
    cases z : PySem.W.dataLt (partD G c) (partD G a) with
    | false => rfl
    | true =>
      rcases lex_negTrans _ (PySem.W.keyToks (partD G b)) _ z with y | y
      · have y' : PySem.W.dataLt (partD G c) (partD G b) = true := y
        rw [h2'] at y'
        exact absurd y' (by decide)
      · have y' : PySem.W.dataLt (partD G b) (partD G a) = true := y
        rw [h1'] at y'
        exact absurd y' (by decide)
  · rw [PySem.W.dataLe_eq]
    show ((!PySem.W.dataLt (partD G b) (partD G a)) || !PySem.W.dataLt (partD G a) (partD G b)) = true
    cases z : PySem.W.dataLt (partD G b) (partD G a) with
    | false => rfl
    | true =>
      cases y : PySem.W.dataLt (partD G a) (partD G b) with
      | false => rfl
      | true =>
        have := lt_trans2 z y
        unfold PySem.W.dataLt at this
        rw [lex_irrefl] at this
        exact absurd this (by decide)
/-- the parts, in their order, have the same rows -/
theorem GIso.sparts (I : GIso G G' f) (ok : G.Ok) (ok' : G'.Ok) : Paired (fun l l' => rowsD G l = rowsD G' l') (sparts G) (Me.sparts G') := by
  have h := sorted_same (PyProof.Rows.lexLt itemOrd) (fun a b => lex_total a b) (((List.mergeSort_perm (parts G) (PySem.W.dataLe false (partD G))).map _).trans ((I.perm ok ok').trans ((List.mergeSort_perm (parts G') (PySem.W.dataLe false (partD G'))).map _).symm)) (sparts_sorted G) (sparts_sorted G')
  refine L2.Paired.mapP (paired_of_map h) fun l l' e => toks_inj (alike_rows2 G G' l l') e
end
end Me
namespace Me
open PySem PySem.Spec PyProof.Rows L2 Mc
/-! ### two nets that are alike, cell by cell, in two orders -/
def NbR (Z : List (Nat × Nat)) (q q' : Port) : Prop := q.2 = q'.2 ∧ ((q.1 = -1 ∧ q'.1 = -1) ∨ (0 ≤ q.1 ∧ 0 ≤ q'.1 ∧ (q.1.toNat, q'.1.toNat) ∈ Z))
structure ZI (G G' : Gr) (o o' : List Nat) : Prop where
  ends : G'.ends = G.ends
  p : o.Perm (List.range G.n)
  p' : o'.Perm (List.range G'.n)
  len : o.length = o'.length
  kind : ∀ q ∈ o.zip o', G.kind q.1 = G'.kind q.2
  ac : ∀ q ∈ o.zip o', ∀ k, k < G.ar q.1 → NbR (o.zip o') (G.ac ((q.1 : Int), (k : Int))) (G'.ac ((q.2 : Int), (k : Int)))
  ace : ∀ e, e < G.ends → NbR (o.zip o') (G.ac (-1, (e : Int))) (G'.ac (-1, (e : Int)))
theorem zip_swap : ∀ {o o' : List Nat} {q : Nat × Nat}, q ∈ o'.zip o ↔ (q.2, q.1) ∈ o.zip o'
  | [], o', q => by simp
  | a :: o, [], q => by simp
  | a :: o, b :: o', q => by
    rw [List.zip_cons_cons, List.zip_cons_cons, List.mem_cons, List.mem_cons, zip_swap (o := o) (o' := o')]
    constructor
    · rintro (h | h)
      · left
        rw [h]
      · exact .inr h
    · rintro (h | h)
      · left
        have h1 := (Prod.mk.inj h).1
        have h2 := (Prod.mk.inj h).2
        exact Prod.ext h2 h1
      · exact .inr h
theorem NbR.swap {o o' : List Nat} {q q' : Port} (h : NbR (o.zip o') q q') : NbR (o'.zip o) q' q := by
  obtain ⟨h1, h2⟩ := h
  refine ⟨h1.symm, ?_⟩
  rcases h2 with ⟨a, b⟩ | ⟨a, b, c⟩
  · exact .inl ⟨b, a⟩
  · exact .inr ⟨b, a, zip_swap.mpr c⟩
theorem ZI.symm {G G' : Gr} {o o' : List Nat} (h : ZI G G' o o') : ZI G' G o' o := by
  refine ⟨h.ends.symm, h.p', h.p, h.len.symm, fun q hq => (h.kind _ (zip_swap.mp hq)).symm, fun q hq k hk => (h.ac _ (zip_swap.mp hq) k ?_).swap, fun e he => (h.ace e (by rw [← h.ends]; exact he)).swap⟩
  have := h.kind _ (zip_swap.mp hq)
  unfold Gr.ar at hk ⊢
  rw [this]
  exact hk
section
variable {G G' : Gr} {o o' : List Nat}
theorem zip_at {q : Nat × Nat} (h : q ∈ o.zip o') : ∃ i : Nat, o[i]? = some q.1 ∧ o'[i]? = some q.2 := by
  obtain ⟨i, hi⟩ := List.getElem?_of_mem h
  refine ⟨i, ?_⟩
  rw [List.getElem?_zip_eq_some] at hi
  exact hi
theorem at_zip {i c c' : Nat} (h : o[i]? = some c) (h' : o'[i]? = some c') : (c, c') ∈ o.zip o' := List.mem_of_getElem? (List.getElem?_zip_eq_some.mpr ⟨h, h'⟩)
theorem ZI.nd (h : ZI G G' o o') : o.Nodup := h.p.nodup_iff.mpr List.nodup_range
theorem ZI.idx (h : ZI G G' o o') {q : Nat × Nat} (hq : q ∈ o.zip o') : o.idxOf q.1 = o'.idxOf q.2 := by
  obtain ⟨i, h1, h2⟩ := zip_at hq
  rw [idx_of h.nd h1, idx_of h.symm.nd h2]
theorem ZI.ren (h : ZI G G' o o') {q q' : Port} (hq : NbR (o.zip o') q q') : Me.ren o q = Me.ren o' q' := by
  obtain ⟨h1, h2⟩ := hq
  refine Prod.ext ?_ h1
  show plc o q.1 = plc o' q'.1
  rcases h2 with ⟨a, b⟩ | ⟨a, b, c⟩
  · rw [a, b]
    rfl
  · unfold plc
    rw [if_neg (by omega), if_neg (by omega), h.idx c]
theorem ZI.kinds (h : ZI G G' o o') : o.map G.kind = o'.map G'.kind := by
  refine List.ext_getElem? fun i => ?_
  rw [List.getElem?_map, List.getElem?_map]
  cases e : o[i]? with
  | none =>
    rw [List.getElem?_eq_none_iff] at e
    rw [List.getElem?_eq_none (by rw [← h.len]; exact e)]
    rfl
  | some c =>
    have hi : i < o'.length := by
      rw [← h.len]
      exact (List.getElem?_eq_some_iff.mp e).1
    have e' : o'[i]? = some o'[i] := List.getElem?_eq_getElem hi
    rw [e']
    show some (G.kind c) = some (G'.kind o'[i])
    rw [h.kind _ (at_zip e e')]
/-- each port has a partner -/
theorem ZI.port (h : ZI G G' o o') {p : Port} (hp : G.port p) : ∃ p', G'.port p' ∧ Me.ren o p = Me.ren o' p' ∧ Me.ren o (G.ac p) = Me.ren o' (G'.ac p') := by
  rcases hp with ⟨h1, h2, h3⟩ | ⟨h1, h2, h3, h4⟩
  · have e : p = (-1, ((p.2.toNat : Nat) : Int)) := Prod.ext h1 (by show p.2 = ((p.2.toNat : Nat) : Int); omega)
    have hk : p.2.toNat < G.ends := by omega
    refine ⟨p, .inl ⟨h1, h2, by rw [h.ends]; exact h3⟩, ?_, ?_⟩
    · rw [e]
      rfl
    · have := h.ren (h.ace _ hk)
      rw [← e] at this
      exact this
  · have hm : p.1.toNat ∈ o := h.p.mem_iff.mpr (List.mem_range.mpr (by omega))
    obtain ⟨i, hi⟩ := List.getElem?_of_mem hm
    have hi' : i < o'.length := by
      rw [← h.len]
      exact (List.getElem?_eq_some_iff.mp hi).1
    have e' : o'[i]? = some o'[i] := List.getElem?_eq_getElem hi'
    generalize o'[i] = c' at e'
    have hz := at_zip hi e'
    have hk : p.2.toNat < G.ar p.1.toNat := by omega
    have e : p = (((p.1.toNat : Nat) : Int), ((p.2.toNat : Nat) : Int)) := Prod.ext (by show p.1 = ((p.1.toNat : Nat) : Int); omega) (by show p.2 = ((p.2.toNat : Nat) : Int); omega)
    have hc' : c' < G'.n := List.mem_range.mp (h.p'.mem_iff.mp (List.mem_of_getElem? e'))
    have har : G'.ar c' = G.ar p.1.toNat := by
      unfold Gr.ar
      rw [h.kind _ hz]
    refine ⟨((c' : Int), ((p.2.toNat : Nat) : Int)), cell_port hc' (by rw [har]; exact hk), ?_, ?_⟩
    · refine h.ren ⟨by show p.2 = ((p.2.toNat : Nat) : Int); omega, .inr ⟨h1, Int.natCast_nonneg _, ?_⟩⟩
      show (p.1.toNat, ((c' : Nat) : Int).toNat) ∈ _
      rw [Int.toNat_natCast]
      exact hz
    · have := h.ren (h.ac _ hz _ hk)
      show Me.ren o (G.ac p) = _
      rw [e]
      exact this
end
theorem zip_flat : ∀ {S S' : List (List Nat)} {R : List Nat → List Nat → Prop}, Paired R S S' → (∀ l l', R l l' → l.length = l'.length) → ∀ {q : Nat × Nat}, q ∈ S.flatten.zip S'.flatten ↔ ∃ t ∈ S.zip S', q ∈ t.1.zip t.2
  | _, _, R, .nil, _, q => by simp
  | _, _, R, .cons (a := l) (b := l') (l₁ := S) (l₂ := S') a r, hl, q => by
    rw [List.flatten_cons, List.flatten_cons, List.zip_append (hl _ _ a), List.mem_append, zip_flat r hl, List.zip_cons_cons]
    constructor
    · rintro (h | ⟨t, ht, h⟩)
      · exact ⟨_, List.mem_cons_self, h⟩
      · exact ⟨t, List.mem_cons_of_mem _ ht, h⟩
    · rintro ⟨t, ht, h⟩
      rcases List.mem_cons.mp ht with rfl | ht
      · exact .inl h
      · exact .inr ⟨t, ht, h⟩
theorem paired_zip {α β : Type} {R : α → β → Prop} : ∀ {xs : List α} {ys : List β}, Paired R xs ys → ∀ q ∈ xs.zip ys, R q.1 q.2 ∧ q.1 ∈ xs ∧ q.2 ∈ ys
  | _, _, .nil, q, h => by simp at h
  | _, _, .cons a r, q, h => by
    rw [List.zip_cons_cons] at h
    rcases List.mem_cons.mp h with rfl | h
    · exact ⟨a, List.mem_cons_self, List.mem_cons_self⟩
    · obtain ⟨h1, h2, h3⟩ := paired_zip r q h
      exact ⟨h1, List.mem_cons_of_mem _ h2, List.mem_cons_of_mem _ h3⟩
theorem rows_len {G G' : Gr} {l l' : List Nat} (h : rowsD G l = rowsD G' l') : l.length = l'.length := by
  unfold rowsD at h
  have := congrArg List.length (PyData.list.inj h)
  simpa using this
/-- equal rows: what they say of each place -/
theorem rows_at {G G' : Gr} {l l' : List Nat} (h : rowsD G l = rowsD G' l') {q : Nat × Nat} (hq : q ∈ l.zip l') :
    G.kind q.1 = G'.kind q.2 ∧ ∀ k, k < G.ar q.1 → idx l (G.ac ((q.1 : Int), (k : Int))).1 = idx l' (G'.ac ((q.2 : Int), (k : Int))).1 ∧ (G.ac ((q.1 : Int), (k : Int))).2 = (G'.ac ((q.2 : Int), (k : Int))).2 := by
  obtain ⟨i, h1, h2⟩ := zip_at hq
  unfold rowsD at h
  have hr := PyData.list.inj h
  have e := congrArg (fun m : List PyData => m[i]?) hr
  simp only [List.getElem?_map, h1, h2, Option.map_some, Option.some.injEq] at e
  unfold rowD at e
  have e2 := PyData.tuple.inj e
  rw [List.cons.injEq, List.cons.injEq] at e2
  obtain ⟨k1, k2, _⟩ := e2
  have kk := PyData.str.inj k1
  refine ⟨kk, fun k hk => ?_⟩
  have k3 := PyData.tuple.inj k2
  have har : G'.ar q.2 = G.ar q.1 := by
    unfold Gr.ar
    rw [kk]
  rw [har] at k3
  have e3 := congrArg (fun m : List PyData => m[k]?) k3
  simp only [List.getElem?_map, List.getElem?_range hk, Option.map_some, Option.some.injEq] at e3
  have e4 := PyData.tuple.inj e3
  rw [List.cons.injEq, List.cons.injEq] at e4
  obtain ⟨a, b, _⟩ := e4
  have a' := PyData.int.inj a
  exact ⟨by omega, PyData.int.inj b⟩
/-- orders that go on by parts of the same rows -/
theorem GIso.zi_of {G G' : Gr} {f : Nat → Nat} (I : GIso G G' f) (ok : G.Ok) {S S' : List (List Nat)} (hp : Paired (fun l l' => rowsD G l = rowsD G' l') S S') (s1 : ∀ l ∈ S, Shut G l) (s2 : ∀ l ∈ S', Shut G' l)
    (pm : (Me.found0 G ++ S.flatten).Perm (List.range G.n)) (pm' : (Me.found0 G' ++ S'.flatten).Perm (List.range G'.n)) : ZI G G' (Me.found0 G ++ S.flatten) (Me.found0 G' ++ S'.flatten) := by
  have hl : ∀ l l', rowsD G l = rowsD G' l' → l.length = l'.length := fun l l' h => rows_len h
  have l0 : (Me.found0 G).length = (Me.found0 G').length := by
    rw [I.found0 ok, List.length_map]
  have hz : ∀ q, q ∈ (Me.found0 G ++ S.flatten).zip (Me.found0 G' ++ S'.flatten) ↔ q ∈ (Me.found0 G).zip (Me.found0 G') ∨ ∃ t ∈ S.zip S', q ∈ t.1.zip t.2 := fun q => by
    rw [List.zip_append l0, List.mem_append, zip_flat hp hl]
  have z0 : ∀ c, c ∈ Me.found0 G → (c, f c) ∈ (Me.found0 G).zip (Me.found0 G') := fun c hc => by
    rw [I.found0 ok]
    obtain ⟨i, hi⟩ := List.getElem?_of_mem hc
    exact at_zip hi (by rw [List.getElem?_map, hi]; rfl)
  have z0' : ∀ q ∈ (Me.found0 G).zip (Me.found0 G'), q.1 ∈ Me.found0 G ∧ q.2 = f q.1 := fun q hq => by
    rw [I.found0 ok] at hq
    obtain ⟨i, h1, h2⟩ := zip_at hq
    rw [List.getElem?_map, h1] at h2
    exact ⟨List.mem_of_getElem? h1, (Option.some.inj h2).symm⟩
  have sh : ∀ t ∈ S.zip S', rowsD G t.1 = rowsD G' t.2 ∧ Shut G t.1 ∧ Shut G' t.2 := fun t ht => by
    obtain ⟨h1, h2, h3⟩ := paired_zip hp t ht
    exact ⟨h1, s1 _ h2, s2 _ h3⟩
  refine ⟨I.ends, pm, pm', ?_, ?_, ?_, ?_⟩
  · rw [pm.length_eq, pm'.length_eq, I.n]
  · intro q hq
    rcases (hz q).mp hq with h | ⟨t, ht, h⟩
    · obtain ⟨h1, h2⟩ := z0' q h
      rw [h2, I.kind _ (found0_lt ok _ h1)]
    · exact (rows_at (sh t ht).1 h).1
  · intro q hq k hk
    rcases (hz q).mp hq with h | ⟨t, ht, h⟩
    · obtain ⟨h1, h2⟩ := z0' q h
      have hn := found0_lt ok _ h1
      have hpt := cell_port hn hk
      have e := I.ac _ hpt
      have e2 : mvP f ((q.1 : Int), (k : Int)) = ((q.2 : Int), (k : Int)) := by
        rw [h2]
        exact Prod.ext (mvC_nat f q.1) rfl
      rw [e2] at e
      rw [e]
      refine ⟨rfl, ?_⟩
      show _ ∨ (_ ∧ 0 ≤ mvC f _ ∧ (_, (mvC f _).toNat) ∈ _)
      rcases ok.there _ hpt with ⟨a, _⟩ | ⟨a, _⟩
      · left
        refine ⟨a, ?_⟩
        show mvC f _ = -1
        rw [a]
        exact mvC_neg (by decide)
      · right
        rw [mvC_pos a, Int.toNat_natCast]
        refine ⟨a, Int.natCast_nonneg _, (hz _).mpr (.inl (z0 _ ?_))⟩
        exact found0_closed ok _ h1 _ (List.mem_map.mpr ⟨k, List.mem_range.mpr hk, rfl⟩) a
    · obtain ⟨h1, h2, h3⟩ := sh t ht
      obtain ⟨_, r2⟩ := rows_at h1 h
      obtain ⟨r3, r4⟩ := r2 k hk
      have s1 := h2
      have s2 := h3
      obtain ⟨i, e1, e2⟩ := zip_at h
      have har : G'.ar q.2 = G.ar q.1 := by
        unfold Gr.ar
        rw [(rows_at h1 h).1]
      obtain ⟨p1, p2⟩ := s1 q.1 (List.mem_of_getElem? e1) _ (List.mem_map.mpr ⟨k, List.mem_range.mpr hk, rfl⟩)
      obtain ⟨p3, p4⟩ := s2 q.2 (List.mem_of_getElem? e2) _ (List.mem_map.mpr ⟨k, List.mem_range.mpr (by rw [har]; exact hk), rfl⟩)
      refine ⟨r4, .inr ⟨p1, p3, (hz _).mpr (.inr ⟨t, ht, ?_⟩)⟩⟩
      have g1 := idx_get p2
      have g2 := idx_get p4
      rw [← r3] at g2
      exact at_zip g1 g2
  · intro e he
    have hpt := end_port he
    have ea := I.ac _ hpt
    have e2 : mvP f (-1, (e : Int)) = (-1, (e : Int)) := Prod.ext (show mvC f (-1) = -1 from mvC_neg (by decide)) rfl
    rw [e2] at ea
    rw [ea]
    refine ⟨rfl, ?_⟩
    show _ ∨ (_ ∧ 0 ≤ mvC f _ ∧ (_, (mvC f _).toNat) ∈ _)
    rcases ok.there _ hpt with ⟨a, _⟩ | ⟨a, _⟩
    · left
      refine ⟨a, ?_⟩
      show mvC f _ = -1
      rw [a]
      exact mvC_neg (by decide)
    · right
      rw [mvC_pos a, Int.toNat_natCast]
      exact ⟨a, Int.natCast_nonneg _, (hz _).mpr (.inl (z0 _ (firstL_sub G _ (mem_firstL he a))))⟩
/-- the two normal orders -/
theorem GIso.zi {G G' : Gr} {f : Nat → Nat} (I : GIso G G' f) (ok : G.Ok) (ok' : G'.Ok) : ZI G G' (normF G) (normF G') :=
  I.zi_of ok (I.sparts ok ok') (fun l hl => (part_facts ok ((List.mergeSort_perm _ _).mem_iff.mp hl)).2.2) (fun l hl => (part_facts ok' ((List.mergeSort_perm _ _).mem_iff.mp hl)).2.2) (normF_perm ok) (normF_perm ok')
/-! ### the wires in two orders -/
theorem wLt_total {e f : Port × Port} (h1 : wLt e f = false) (h2 : wLt f e = false) : e = f := by
  unfold wLt at h1 h2
  rw [Bool.or_eq_false_iff, Bool.and_eq_false_iff] at h1 h2
  obtain ⟨a1, a2⟩ := h1
  obtain ⟨b1, b2⟩ := h2
  have p1 := pLt_false.mp a1
  have p2 := pLt_false.mp b1
  have e1 : e.1 = f.1 := port_ext.mpr (by omega)
  have q1 : pLt e.2 f.2 = false := by
    rcases a2 with z | z
    · rw [decide_eq_true e1] at z
      exact absurd z (by decide)
    · exact z
  have q2 : pLt f.2 e.2 = false := by
    rcases b2 with z | z
    · rw [decide_eq_true e1.symm] at z
      exact absurd z (by decide)
    · exact z
  have r1 := pLt_false.mp q1
  have r2 := pLt_false.mp q2
  exact Prod.ext e1 (port_ext.mpr (by omega))
theorem wSort_same {l m : List (Port × Port)} (h : l.Perm m) : wSort l = wSort m :=
  sorted_same wLt (fun _ _ => wLt_total) ((wSort_perm l).trans (h.trans (wSort_perm m).symm)) (wSort_sorted l) (wSort_sorted m)
structure WOk (kd : List Str) (ends : Nat) (ws : List (Port × Port)) : Prop where
  kinds : ∀ x ∈ kd, KindS x
  small : kd.length ≤ 1000
  few : ends ≤ 12
  ne : ∀ e ∈ ws, e.1 ≠ e.2
  fits : Fits (portsL kd ends) ws
theorem WOk.g {kd : List Str} {ends : Nat} {ws : List (Port × Port)} (h : WOk kd ends ws) : (mkG kd ends (linksOf ws)).Ok := mkG_ok h.kinds h.small h.few h.ne h.fits
theorem WOk.nd {kd : List Str} {ends : Nat} {ws : List (Port × Port)} (h : WOk kd ends ws) : ((linksOf ws).map Prod.fst).Nodup := (h.fits.perm.nodup_iff).mpr (portsL_nodup kd ends)
theorem WOk.mem {kd : List Str} {ends : Nat} {ws : List (Port × Port)} (h : WOk kd ends ws) {e : Port × Port} : e ∈ linksOf ws ↔ (mkG kd ends (linksOf ws)).port e.1 ∧ e.2 = (mkG kd ends (linksOf ws)).ac e.1 := by
  constructor
  · intro he
    exact ⟨mem_portsL.mp (h.fits.perm.mem_iff.mp (List.mem_map.mpr ⟨e, he, rfl⟩)), (acOf_mem h.nd he).symm⟩
  · rintro ⟨h1, h2⟩
    obtain ⟨u, hu, e1⟩ := List.mem_map.mp (h.fits.perm.mem_iff.mpr (mem_portsL.mpr h1))
    have := acOf_mem h.nd hu
    rw [e1] at this
    have e2 : e = u := Prod.ext e1.symm (h2.trans this)
    rw [e2]
    exact hu
theorem ZI.links {kd kd' : List Str} {ends : Nat} {ws ws' : List (Port × Port)} (h : WOk kd ends ws) (h' : WOk kd' ends ws') {o o' : List Nat} (z : ZI (mkG kd ends (linksOf ws)) (mkG kd' ends (linksOf ws')) o o') :
    ((linksOf ws).map (renE o)).Perm ((linksOf ws').map (renE o')) := by
  have nd : ∀ {kd : List Str} {ws : List (Port × Port)} {o : List Nat}, WOk kd ends ws → o.Perm (List.range kd.length) → ((linksOf ws).map (renE o)).Nodup := fun {kd ws o} h hp =>
    List.Pairwise.of_map Prod.fst (fun a b h z => h (by rw [z])) (renE_nodup (kd := kd) (ends := ends) hp h.nd fun p hp => by
      obtain ⟨e, he, rfl⟩ := List.mem_map.mp hp
      exact (h.mem.mp he).1)
  have sub : ∀ {kd kd' : List Str} {ws ws' : List (Port × Port)} {o o' : List Nat}, WOk kd ends ws → WOk kd' ends ws' → ZI (mkG kd ends (linksOf ws)) (mkG kd' ends (linksOf ws')) o o' → ∀ e, e ∈ (linksOf ws).map (renE o) → e ∈ (linksOf ws').map (renE o') := fun {kd kd' ws ws' o o'} h h' z e he => by
    obtain ⟨u, hu, rfl⟩ := List.mem_map.mp he
    obtain ⟨hp, hq⟩ := h.mem.mp hu
    obtain ⟨p', a, b, c⟩ := z.port hp
    refine List.mem_map.mpr ⟨(p', (mkG kd' ends (linksOf ws')).ac p'), h'.mem.mpr ⟨a, rfl⟩, ?_⟩
    unfold renE
    rw [hq]
    exact Prod.ext b.symm c.symm
  exact (List.perm_ext_iff_of_nodup (nd h z.p) (nd h' z.p')).mpr fun e => ⟨sub h h' z e, sub h' h z.symm e⟩
/-- THE NORMAL FORM: nets that differ in their numbers alone come to the same kinds and wires -/
theorem canon {kd kd' : List Str} {ends : Nat} {loops loops' : Int} {ws ws' : List (Port × Port)} {f : Nat → Nat} (h : WOk kd ends ws) (h' : WOk kd' ends ws') (I : GIso (mkG kd ends (linksOf ws)) (mkG kd' ends (linksOf ws')) f) :
    (mkN kd ends loops (linksOf ws)).kd = (mkN kd' ends loops' (linksOf ws')).kd ∧ (mkN kd ends loops (linksOf ws)).ws = (mkN kd' ends loops' (linksOf ws')).ws := by
  have z := I.zi h.g h'.g
  exact ⟨z.kinds, wSort_same ((z.links h h').filter _)⟩
end Me
namespace Me
open PySem PySem.Spec PyProof.Rows L2 Mc
variable {P : Program} {w : World} {K : PySem.W.Frag} {mg : Str → Option Value} {base : Heap}
/-! ### the law's dict of what lies across -/
theorem links_tt {H : Hp} {a t : Addr} {xs : List V} {kvs : List (List Key × V)} (h1 : H a = some (.dT kvs)) (h2 : H t = some (.tup xs)) : t ≠ a := fun z => by rw [z, h1] at h2; cases h2
theorem putK_le1 {κ : Type} [DecidableEq κ] (c : List (κ × V)) (k : κ) (x : V) : (putK c k x).length ≤ c.length + 1 := by
  unfold putK
  split <;> simp
def spAcross (K : PySem.W.Frag) : Sp := fun vs H Q _ => ∃ (wa : Addr) (xs : List V) (ws : List (Port × Port)), vs = [.ref wa] ∧ SqS K H wa xs ∧ Paired (WV H) xs ws ∧ ((linksOf ws).map Prod.fst).Nodup ∧ ws.length ≤ 3000 ∧
  ∀ a kvs H', H a = none → H' a = some (.dT kvs) → LinksAt H' kvs (linksOf ws) → Ext H H' → Q (.ref a) H'
theorem ok__law_across (T : Txt P w K mg) : FnR P w K mg base (L2.CX P w) 1 (He.ga K "_law_across") (spAcross K) := by
  obtain ⟨fd, F⟩ := T.f__law_across
  refine fnR_body F sc__law_across (F.bindsN (fun _ _ _ _ _ _ us hl => match us, hl with | [_], _ => rfl)) ?_ ?_
  · rintro vs H Q E ⟨wa, xs, ws, rfl, _⟩
    rfl
  · rintro cdv A outer s H vs Q E hr ⟨wa, xs, ws, rfl, hw, hP, hnd, hwl, q⟩
    refine ⟨_, (PSs.nox (Mc.pss_mid (ps_set (i := 1) sc__law_across.nd rfl (Or.inl rfl) pe_dnewT)
      (Mc.pss_mid (ps_for PassesOwn.never rfl (Mc.pi_seq (pv 0) : PI _ _ _ (Mc.iSeq K _)) (pg_tup (by rfl) (pgs_cons (pg_name (i := 2) sc__law_across.nd rfl (Or.inl rfl)) (pgs_cons (pg_name (i := 3) sc__law_across.nd rfl (Or.inl rfl)) pgs_nil)) : PG _ _ (gTup K 2 (gCons (gName 2) (gCons (gName 3) gNil))))
      (pss_cons (ps_dput (hu_of hr) (pv 1) (pv 2) (pv 3) rfl)
      (pss_one (ps_dput (hu_of hr) (pv 1) (pv 3) (pv 2) rfl))))
      (pss_one (ps_ret (pv 1)))))), ?_⟩
    have xl : xs.length = ws.length := Paired.length hP
    refine ⟨fun τ G => ∃ a, τ = [some (.ref wa), some (.ref a), none, none] ∧ H a = none ∧ G a = some (.dT []) ∧ Ext H G, fun a ha => ⟨a, rfl, ha, upd_same, Ext.new ha⟩, ?_⟩
    rintro _ G1 ⟨a, rfl, ha, h1a, hE1⟩
    refine ⟨fun τ G => ∃ y2 y3 ks, τ = [some (.ref wa), some (.ref a), y2, y3] ∧ G a = some (.dT ks) ∧ LinksAt G ks (linksOf ws) ∧ Ext H G, ?_, ?_⟩
    · refine ⟨_, rfl, wa, xs, H, rfl, hw, hE1, fun J G' w hG => for_it w (fun i σ G => ∃ y2 y3 ks, σ = [some (.ref wa), some (.ref a), y2, y3] ∧ G a = some (.dT ks) ∧ LinksAt G ks (linksOf (ws.take i)) ∧ Ext H G)
        ⟨_, _, [], rfl, h1a, .nil, hE1⟩ (fun i σ G _ ⟨_, _, _, _, _, _, h⟩ => hG _ h) ?_ ?_⟩
      · rintro i z σ G2 G3 hi ⟨y2, y3, ks, rfl, hl, hL, hE⟩ ⟨rfl, hz⟩
        obtain ⟨e, he, t, pa, ra, rfl, ht, hp, hr'⟩ := paired_get hP i z hz
        have hp3 := hE _ _ hp
        have hr3 := hE _ _ hr'
        have step : linksOf (ws.take (i + 1)) = linksOf (ws.take i) ++ [e] ++ [(e.2, e.1)] := by
          rw [take_snoc he, linksOf_append]
          show _ ++ [e, (e.2, e.1)] = _
          rw [List.append_assoc]
          rfl
        have hsub : ((linksOf (ws.take (i + 1))).map Prod.fst).Nodup := by
          rw [← List.take_append_drop (i + 1) ws, linksOf_append, List.map_append] at hnd
          exact (List.nodup_append.mp hnd).1
        rw [step, List.map_append, List.map_append, List.nodup_append, List.nodup_append] at hsub
        have n1 : e.1 ∉ (linksOf (ws.take i)).map Prod.fst := fun z => hsub.1.2.2 _ z _ (by simp) rfl
        have n2 : e.2 ∉ (linksOf (ws.take i) ++ [e]).map Prod.fst := fun z => by
          rw [List.map_append] at z
          exact hsub.2.2 _ z _ (by simp) rfl
        have hkl : ks.length ≤ 6000 := by
          have h1 := Paired.length hL
          have h3 : ∀ l : List (Port × Port), (linksOf l).length = 2 * l.length := fun l => by
            induction l with
            | nil => rfl
            | cons u l ih =>
              rw [show u = (u.1, u.2) from rfl, linksOf_cons, List.length_cons, List.length_cons, ih, List.length_cons]
              omega
          rw [h3, List.length_take] at h1
          omega
        refine ⟨t, _, rfl, .inl (.inl (hE _ _ ht)), rfl, _, _, rfl, _, _, rfl, rfl, ?_⟩
        have npa := links_tt hl hp3
        have nra := links_tt hl hr3
        have T1 : TExt G3 (upd G3 a (.dT (putK ks (kP e.1) (.ref ra)))) := TExt.put hl fun z => z
        have L1 := links_snoc hL n1 (v := .ref ra) (q := e.2) ⟨ra, rfl, hr3⟩
        have hk1 : (putK ks (kP e.1) (.ref ra)).length ≤ 6001 := by
          have := putK_le1 ks (kP e.1) (.ref ra)
          omega
        refine ⟨_, rfl, _, rfl, _, rfl, a, _, rfl, .inr ⟨ks, kP e.1, pa, hl, rfl, hp3, szl (by omega), rfl⟩, ?_⟩
        have T2 : TExt (upd G3 a (.dT (putK ks (kP e.1) (.ref ra)))) (upd (upd G3 a (.dT (putK ks (kP e.1) (.ref ra)))) a (.dT (putK (putK ks (kP e.1) (.ref ra)) (kP e.2) (.ref pa)))) := TExt.put upd_same fun z => z
        refine ⟨_, rfl, _, rfl, _, rfl, a, _, rfl, .inr ⟨_, kP e.2, ra, upd_same, rfl, (upd_ne nra).trans hr3, szl (by omega), rfl⟩, ?_⟩
        refine ⟨_, _, _, rfl, upd_same, ?_, keepH (keepH hE ha) ha⟩
        rw [step]
        exact links_ext (links_snoc (links_ext L1 T1) n2 (v := .ref pa) (q := e.1) ⟨pa, rfl, (upd_ne npa).trans hp3⟩) T2
      · rintro σ G2 ⟨y2, y3, ks, rfl, hl, hL, hE⟩
        rw [xl, List.take_length] at hL
        exact ⟨y2, y3, ks, rfl, hl, hL, hE⟩
    rintro _ G2 ⟨y2, y3, ks, rfl, hl, hL, hE⟩
    exact ⟨_, rfl, q a ks G2 ha hl hL hE⟩
/-! ### the law's search -/
/-- a net as the law holds it: a list of kinds, a dict of what lies across -/
structure LNet (K : PySem.W.Frag) (H : Hp) (kA aA : Addr) (G : Gr) : Prop where
  kd : SqL K H kA (G.kd.map V.str)
  ax : ∃ kvs, Rd H aA (.dT kvs) ∧ ∀ p, G.port p → ∃ t, valV kvs (kP p) = some (.ref t) ∧ H t = some (.tup (vP (G.ac p)))
theorem LNet.ext {H H' : Hp} {kA aA : Addr} {G : Gr} (h : LNet K H kA aA G) (e : Ext H H') : LNet K H' kA aA G := by
  obtain ⟨kvs, h1, h2⟩ := h.ax
  refine ⟨e.sqL h.kd, kvs, e.rd h1, fun p hp => ?_⟩
  obtain ⟨t, a, b⟩ := h2 p hp
  exact ⟨t, a, e _ _ b⟩
theorem LNet.of {H : Hp} {kA aA : Addr} {kd : List Str} {ends : Nat} {ws : List (Port × Port)} {kvs : List (List Key × V)} (h : WOk kd ends ws) (hk : SqL K H kA (kd.map V.str)) (ha : H aA = some (.dT kvs)) (hL : LinksAt H kvs (linksOf ws)) : LNet K H kA aA (mkG kd ends (linksOf ws)) := by
  refine ⟨hk, kvs, .inl ha, fun p hp => ?_⟩
  have he : (p, (mkG kd ends (linksOf ws)).ac p) ∈ linksOf ws := h.mem.mpr ⟨hp, rfl⟩
  obtain ⟨v, hv1, t, rfl, hv2⟩ := links_get hL h.nd _ he
  exact ⟨t, hv1, hv2⟩
theorem kd_at {G : Gr} {c : Nat} (hc : c < G.n) : atI (G.kd.map V.str) (c : Int) = some (.str (G.kind c)) := by
  unfold atI ixN
  unfold Gr.n at hc
  rw [if_pos (Int.natCast_nonneg _), if_pos (by rw [List.length_map]; omega)]
  show (G.kd.map V.str)[(c : Int).toNat]? = _
  rw [Int.toNat_natCast, List.getElem?_map, List.getElem?_eq_getElem hc]
  unfold Gr.kind
  rw [List.getD_eq_getElem?_getD, List.getElem?_eq_getElem hc]
  rfl
theorem atI_vI {l : List Nat} {i c : Nat} (h : l[i]? = some c) : atI (l.map vI) (i : Int) = some (vI c) := by
  have hi : i < l.length := (List.getElem?_eq_some_iff.mp h).1
  unfold atI ixN
  rw [if_pos (Int.natCast_nonneg _), if_pos (by rw [List.length_map]; omega)]
  show (l.map vI)[(i : Int).toNat]? = _
  rw [Int.toNat_natCast, List.getElem?_map, h]
  rfl
theorem flat_vI : ∀ l : List Nat, (l.map vI).all flatV = true
  | [] => rfl
  | c :: l => by
    rw [List.map_cons, List.all_cons, flat_vI l]
    rfl
def spLSearch (K : PySem.W.Frag) : Sp := fun vs H Q _ => ∃ (G : Gr) (f kA aA : Addr) (first : List Nat), vs = [.ref f, .ref kA, .ref aA] ∧ G.Ok ∧ SqL K H f (first.map vI) ∧ LNet K H kA aA G ∧ first.Nodup ∧ (∀ c ∈ first, c < G.n) ∧
  ∀ p H', H p = none → H' p = some (.lst ((bfsN G.nb first G.n).map vI)) → Ext H H' → Q (.ref p) H'
end Me
namespace Me
open PySem PySem.Spec PyProof.Rows L2 Mc
variable {P : Program} {w : World} {K : PySem.W.Frag} {mg : Str → Option Value} {base : Heap}
/-! ### nets shuffled, plainly -/
def ShE (f : Nat → Nat) (e' e : Port × Port) : Prop := e' = (mvP f e.1, mvP f e.2) ∨ e' = (mvP f e.2, mvP f e.1)
theorem sh_links {f : Nat → Nat} : ∀ {ws' ws : List (Port × Port)}, Paired (ShE f) ws' ws → (linksOf ws').Perm ((linksOf ws).map fun e => (mvP f e.1, mvP f e.2))
  | _, _, .nil => .refl _
  | _, _, .cons (a := e') (b := e) (l₁ := ws') (l₂ := ws) h r => by
    have ih := sh_links r
    have e2 : (linksOf (e :: ws)).map (fun e => (mvP f e.1, mvP f e.2)) = (mvP f e.1, mvP f e.2) :: (mvP f e.2, mvP f e.1) :: (linksOf ws).map fun e => (mvP f e.1, mvP f e.2) := rfl
    rw [e2]
    rcases h with rfl | rfl
    · exact (ih.cons _).cons _
    · exact ((ih.cons _).cons _).trans (.swap _ _ _)
theorem links_perm {ws ws1 : List (Port × Port)} (h : ws1.Perm ws) : (linksOf ws1).Perm (linksOf ws) := by
  unfold linksOf
  exact (h.map _).flatten
theorem getD_lt {P : List Nat} {n : Nat} (hP : P.Perm (List.range n)) {c : Nat} (hc : c < n) : P.getD c 0 < n := by
  have hl : P.length = n := by
    have := hP.length_eq
    rwa [List.length_range] at this
  rw [List.getD_eq_getElem?_getD, List.getElem?_eq_getElem (by omega)]
  exact List.mem_range.mp (hP.mem_iff.mp (List.getElem_mem _))
theorem getD_inj {P : List Nat} {n : Nat} (hP : P.Perm (List.range n)) {c d : Nat} (hc : c < n) (hd : d < n) (h : P.getD c 0 = P.getD d 0) : c = d := by
  have hl : P.length = n := by
    have := hP.length_eq
    rwa [List.length_range] at this
  have nd : P.Nodup := hP.nodup_iff.mpr List.nodup_range
  rw [List.getD_eq_getElem?_getD, List.getD_eq_getElem?_getD, List.getElem?_eq_getElem (by omega), List.getElem?_eq_getElem (by omega)] at h
  exact (List.getElem_inj nd).mp h
theorem mvP_inj {f : Nat → Nat} {n : Nat} (hi : ∀ c d, c < n → d < n → f c = f d → c = d) {p q : Port} (hp : p.1 = -1 ∨ (0 ≤ p.1 ∧ p.1 < n)) (hq : q.1 = -1 ∨ (0 ≤ q.1 ∧ q.1 < n)) (h : mvP f p = mvP f q) : p = q := by
  have h1 : mvC f p.1 = mvC f q.1 := congrArg Prod.fst h
  have h2 : (mvP f p).2 = (mvP f q).2 := congrArg Prod.snd h
  have h2 : p.2 = q.2 := h2
  have m1 : mvC f (-1) = -1 := mvC_neg (by decide)
  refine Prod.ext ?_ h2
  rcases hp with a | ⟨a, a'⟩
  · rcases hq with b | ⟨b, b'⟩
    · rw [a, b]
    · rw [a, m1, mvC_pos b] at h1
      omega
  · rcases hq with b | ⟨b, b'⟩
    · rw [b, m1, mvC_pos a] at h1
      omega
    · rw [mvC_pos a, mvC_pos b] at h1
      have := hi p.1.toNat q.1.toNat (by omega) (by omega) (by omega)
      omega
/-- a net whose cells got other numbers, whose wires stand in another order, turned about or not -/
theorem shuf_ok {kd kd' : List Str} {ends : Nat} {ws ws1 ws' : List (Port × Port)} {P : List Nat} (h : WOk kd ends ws) (hP : P.Perm (List.range kd.length)) (hl : kd'.length = kd.length) (hk : ∀ c, c < kd.length → kd'[P.getD c 0]? = kd[c]?) (h1 : ws1.Perm ws) (h2 : Paired (ShE fun c => P.getD c 0) ws' ws1) :
    WOk kd' ends ws' ∧ GIso (mkG kd ends (linksOf ws)) (mkG kd' ends (linksOf ws')) fun c => P.getD c 0 := by
  have flt : ∀ c, c < kd.length → P.getD c 0 < kd.length := fun c hc => getD_lt hP hc
  have finj : ∀ c d, c < kd.length → d < kd.length → P.getD c 0 = P.getD d 0 → c = d := fun c d hc hd e => getD_inj hP hc hd e
  have onto : ∀ x, x < kd.length → ∃ c, c < kd.length ∧ P.getD c 0 = x := fun x hx => by
    obtain ⟨i, hi⟩ := List.getElem?_of_mem (hP.mem_iff.mpr (List.mem_range.mpr hx))
    have hil := (List.getElem?_eq_some_iff.mp hi).1
    have := hP.length_eq
    rw [List.length_range] at this
    exact ⟨i, by omega, by rw [List.getD_eq_getElem?_getD, hi]; rfl⟩
  have kk : ∀ c, c < kd.length → kd'.getD (P.getD c 0) "" = kd.getD c "" := fun c hc => by
    rw [List.getD_eq_getElem?_getD (l := kd'), List.getD_eq_getElem?_getD (l := kd), hk c hc]
  have hperm : (linksOf ws').Perm ((linksOf ws).map fun e => (mvP (fun c => P.getD c 0) e.1, mvP (fun c => P.getD c 0) e.2)) := (sh_links h2).trans ((links_perm h1).map _)
  generalize hf : (fun c => P.getD c 0) = f at hperm
  have flt' : ∀ c, c < kd.length → f c < kd.length := by subst hf; exact flt
  have finj' : ∀ c d, c < kd.length → d < kd.length → f c = f d → c = d := by subst hf; exact finj
  have onto' : ∀ x, x < kd.length → ∃ c, c < kd.length ∧ f c = x := by subst hf; exact onto
  have kk' : ∀ c, c < kd.length → kd'.getD (f c) "" = kd.getD c "" := by subst hf; exact kk
  have cl : ∀ p, isPort kd ends p → p.1 = -1 ∨ (0 ≤ p.1 ∧ p.1 < (kd.length : Int)) := fun p hp => port_cell hp
  have mport : ∀ p, isPort kd ends p → isPort kd' ends (mvP f p) := fun p hp => by
    rcases hp with ⟨a, b, c⟩ | ⟨a, b, c, d⟩
    · left
      refine ⟨?_, b, c⟩
      show mvC f p.1 = -1
      rw [a]
      exact mvC_neg (by decide)
    · right
      have hlt := flt' p.1.toNat (by omega)
      have e : (mvP f p).1 = (f p.1.toNat : Int) := mvC_pos a
      rw [e]
      refine ⟨Int.natCast_nonneg _, by rw [hl]; omega, c, ?_⟩
      rw [Int.toNat_natCast, kk' _ (by omega)]
      exact d
  have mono : ∀ q, isPort kd' ends q → ∃ p, isPort kd ends p ∧ mvP f p = q := fun q hq => by
    rcases hq with ⟨a, b, c⟩ | ⟨a, b, c, d⟩
    · refine ⟨q, .inl ⟨a, b, c⟩, Prod.ext ?_ rfl⟩
      show mvC f q.1 = q.1
      exact mvC_neg (by omega)
    · obtain ⟨x, hx, e⟩ := onto' q.1.toNat (by omega)
      refine ⟨((x : Int), q.2), .inr ⟨Int.natCast_nonneg _, by show (x : Int) < _; omega, c, ?_⟩, Prod.ext ?_ rfl⟩
      · show q.2 < (arS (kd.getD (x : Int).toNat "") : Int)
        rw [Int.toNat_natCast, ← kk' x hx, e]
        exact d
      · show mvC f (x : Int) = q.1
        rw [mvC_nat, e]
        omega
  have keys : ((linksOf ws').map Prod.fst).Perm (portsL kd' ends) := by
    refine (hperm.map Prod.fst).trans ?_
    rw [List.map_map]
    have e1 : ((linksOf ws).map (Prod.fst ∘ fun e => (mvP f e.1, mvP f e.2))) = ((linksOf ws).map Prod.fst).map (mvP f) := by rw [List.map_map]; rfl
    rw [e1]
    refine (h.fits.perm.map (mvP f)).trans ?_
    refine (List.perm_ext_iff_of_nodup (map_nodup_on (portsL_nodup kd ends) fun a ha b hb e => mvP_inj finj' (cl a (mem_portsL.mp ha)) (cl b (mem_portsL.mp hb)) e) (portsL_nodup kd' ends)).mpr fun q => ?_
    rw [List.mem_map, mem_portsL]
    constructor
    · rintro ⟨p, hp, rfl⟩
      exact mport p (mem_portsL.mp hp)
    · intro hq
      obtain ⟨p, hp, e⟩ := mono q hq
      exact ⟨p, mem_portsL.mpr hp, e⟩
  have wok : WOk kd' ends ws' := by
    refine ⟨fun x hx => ?_, by rw [hl]; exact h.small, h.few, fits_ne ⟨keys⟩, ⟨keys⟩⟩
    obtain ⟨i, hi⟩ := List.getElem?_of_mem hx
    have hil := (List.getElem?_eq_some_iff.mp hi).1
    obtain ⟨c, hc, e⟩ := onto' i (by omega)
    have := kk' c hc
    rw [e, List.getD_eq_getElem?_getD, hi, List.getD_eq_getElem?_getD, List.getElem?_eq_getElem hc] at this
    have : x = kd[c] := this
    rw [this]
    exact h.kinds _ (List.getElem_mem hc)
  refine ⟨wok, hl, rfl, flt', finj', kk', fun p hp => ?_⟩
  have he : (p, (mkG kd ends (linksOf ws)).ac p) ∈ linksOf ws := h.mem.mpr ⟨hp, rfl⟩
  have hm : (mvP f p, mvP f ((mkG kd ends (linksOf ws)).ac p)) ∈ linksOf ws' := hperm.mem_iff.mpr (List.mem_map.mpr ⟨_, he, rfl⟩)
  exact ((wok.mem.mp hm).2).symm
/-! ### drawn orders -/
theorem paired_perm {α β : Type} {R : α → β → Prop} {zs xs : List α} (h : zs.Perm xs) : ∀ {ys : List β}, Paired R xs ys → ∃ ys1, ys1.Perm ys ∧ Paired R zs ys1 := by
  induction h with
  | nil => intro ys hp; cases hp; exact ⟨[], .refl _, .nil⟩
  | cons x _ ih =>
    intro ys hp
    cases hp with
    | cons a r =>
      obtain ⟨y1, p1, q1⟩ := ih r
      exact ⟨_ :: y1, p1.cons _, .cons a q1⟩
  | swap x y l =>
    intro ys hp
    cases hp with
    | cons a r =>
      cases r with
      | cons b r => exact ⟨_ :: _ :: _, .swap _ _ _, .cons b (.cons a r)⟩
  | trans _ _ ih1 ih2 =>
    intro ys hp
    obtain ⟨y2, p2, q2⟩ := ih2 hp
    obtain ⟨y1, p1, q1⟩ := ih1 q2
    exact ⟨y1, p1.trans p2, q1⟩
end Me
namespace Me
open PySem PySem.Spec PyProof.Rows L2 Mc
/-! ### a normal net made again -/
theorem pick_sh {o : List Nat} {f : Nat → Nat} {kd : List Str} {ends : Nat} (hp : o.Perm (List.range kd.length)) (hf : ∀ p, isPort kd ends p → mvP f p = ren o p) :
    ∀ {ws : List (Port × Port)}, (∀ e ∈ ws, isPort kd ends e.1 ∧ isPort kd ends e.2 ∧ e.1 ≠ e.2) → Paired (ShE f) (((linksOf ws).map (renE o)).filter fun e => pLt e.1 e.2) ws
  | [], _ => .nil
  | (a, b) :: ws, h => by
    obtain ⟨ha, hb, hne⟩ := h (a, b) List.mem_cons_self
    have ih := pick_sh hp hf fun e he => h e (List.mem_cons_of_mem _ he)
    have hne2 : ren o a ≠ ren o b := fun z => hne (ren_inj hp ha hb z)
    rw [linksOf_cons, List.map_cons, List.map_cons, List.filter_cons, List.filter_cons]
    by_cases c : pLt (ren o a) (ren o b) = true
    · have c2 : pLt (ren o b) (ren o a) = false := by
        rw [pLt_false]
        rw [pLt_iff] at c
        omega
      rw [if_pos (show pLt (renE o (a, b)).1 (renE o (a, b)).2 = true from c), if_neg (show ¬ pLt (renE o (b, a)).1 (renE o (b, a)).2 = true by rw [show pLt (renE o (b, a)).1 (renE o (b, a)).2 = false from c2]; exact Bool.false_ne_true)]
      refine .cons (.inl ?_) ih
      show (ren o a, ren o b) = (mvP f a, mvP f b)
      rw [hf a ha, hf b hb]
    · have c2 : pLt (ren o b) (ren o a) = true := by
        rw [pLt_iff]
        rw [Bool.not_eq_true, pLt_false] at c
        rw [Ne, port_ext] at hne2
        omega
      rw [if_neg (show ¬ pLt (renE o (a, b)).1 (renE o (a, b)).2 = true from c), if_pos (show pLt (renE o (b, a)).1 (renE o (b, a)).2 = true from c2)]
      refine .cons (.inr ?_) ih
      show (ren o b, ren o a) = (mvP f b, mvP f a)
      rw [hf a ha, hf b hb]
theorem norm_again {kd : List Str} {ends : Nat} {loops : Int} {ws : List (Port × Port)} (h : WOk kd ends ws) :
    WOk (mkN kd ends loops (linksOf ws)).kd ends (mkN kd ends loops (linksOf ws)).ws ∧ ∃ f, GIso (mkG kd ends (linksOf ws)) (mkG (mkN kd ends loops (linksOf ws)).kd ends (linksOf (mkN kd ends loops (linksOf ws)).ws)) f := by
  have hp2 : (normF (mkG kd ends (linksOf ws))).Perm (List.range kd.length) := normF_perm h.g
  unfold mkN
  generalize normF (mkG kd ends (linksOf ws)) = o at hp2 ⊢
  have hon : o.Nodup := hp2.nodup_iff.mpr List.nodup_range
  have hol : o.length = kd.length := by rw [hp2.length_eq, List.length_range]
  have hget : ∀ c, c < kd.length → ((List.range kd.length).map fun c => o.idxOf c).getD c 0 = o.idxOf c := fun c hc => by
    rw [List.getD_eq_getElem?_getD, List.getElem?_map, List.getElem?_range hc]
    rfl
  have mo : ∀ c, c < kd.length → c ∈ o := fun c hc => hp2.mem_iff.mpr (List.mem_range.mpr hc)
  have hP : ((List.range kd.length).map fun c => o.idxOf c).Perm (List.range kd.length) := by
    refine (List.perm_ext_iff_of_nodup (map_nodup_on List.nodup_range fun a ha b hb e => ?_) List.nodup_range).mpr fun q => ⟨fun hq => ?_, fun hq => ?_⟩
    · have e : o.idxOf a = o.idxOf b := e
      have h1 := List.getElem_idxOf (List.idxOf_lt_length_of_mem (mo a (List.mem_range.mp ha)))
      have h2 := List.getElem_idxOf (List.idxOf_lt_length_of_mem (mo b (List.mem_range.mp hb)))
      rw [← h1, ← h2]
      congr 1
    · obtain ⟨c, hc, rfl⟩ := List.mem_map.mp hq
      refine List.mem_range.mpr ?_
      have := List.idxOf_lt_length_of_mem (mo c (List.mem_range.mp hc))
      omega
    · have hq := List.mem_range.mp hq
      have hql : q < o.length := by omega
      exact List.mem_map.mpr ⟨o[q], hp2.mem_iff.mp (List.getElem_mem hql), idx_of hon (List.getElem?_eq_getElem hql)⟩
  have hports : ∀ e ∈ ws, isPort kd ends e.1 ∧ isPort kd ends e.2 ∧ e.1 ≠ e.2 := fun e he => by
    have m1 : e ∈ linksOf ws := by
      unfold linksOf
      exact List.mem_flatten.mpr ⟨_, List.mem_map.mpr ⟨e, he, rfl⟩, by simp⟩
    exact ⟨(h.mem.mp m1).1, (h.mem.mp (linksOf_sym m1)).1, h.ne e he⟩
  have hmv : ∀ f : Nat → Nat, (∀ c, c < kd.length → f c = o.idxOf c) → ∀ p, isPort kd ends p → mvP f p = ren o p := fun f hf p hp => by
    have e : mvC f p.1 = plc o p.1 := by
      rcases port_cell hp with z | ⟨z, z2⟩
      · rw [mvC_neg (by omega)]
        unfold plc
        rw [if_pos (by omega)]
      · rw [mvC_pos z]
        unfold plc
        rw [if_neg (by omega), hf _ (by omega)]
    exact Prod.ext e rfl
  obtain ⟨ws1, hw1, hsh⟩ := paired_perm (wSort_perm (((linksOf ws).map (renE o)).filter fun e => pLt e.1 e.2)) (pick_sh hp2 (hmv (fun c => ((List.range kd.length).map fun c => o.idxOf c).getD c 0) hget) hports)
  obtain ⟨a, b⟩ := shuf_ok (kd' := o.map (mkG kd ends (linksOf ws)).kind) h hP (by rw [List.length_map, hol]) (fun c hc => by
    rw [hget c hc, List.getElem?_map, List.getElem?_eq_getElem (List.idxOf_lt_length_of_mem (mo c hc)), List.getElem_idxOf (List.idxOf_lt_length_of_mem (mo c hc)), List.getElem?_eq_getElem hc]
    show some (kd.getD c "") = _
    rw [List.getD_eq_getElem?_getD, List.getElem?_eq_getElem hc]
    rfl) hw1 hsh
  exact ⟨a, _, b⟩
end Me
namespace Me
open PySem PySem.Spec PyProof.Rows L2 Mc
variable {P : Program} {w : World} {K : PySem.W.Frag} {mg : Str → Option Value} {base : Heap}
theorem perm_vI {zs : List V} {l : List Nat} (h : zs.Perm (l.map vI)) : ∃ z : List Nat, zs = z.map vI ∧ z.Perm l := by
  refine ⟨zs.map (fun v => match v with | .int i => i.toNat | _ => 0), ?_, ?_⟩
  · rw [List.map_map]
    conv => lhs; rw [← List.map_id zs]
    refine List.map_congr_left fun v hv => ?_
    obtain ⟨c, hc, rfl⟩ := List.mem_map.mp (h.mem_iff.mp hv)
    show vI c = vI ((c : Int).toNat)
    rw [Int.toNat_natCast]
  · have := h.map (fun v => match v with | .int i => i.toNat | _ => 0)
    rw [List.map_map] at this
    refine this.trans (.of_eq ?_)
    conv => rhs; rw [← List.map_id l]
    refine List.map_congr_left fun c _ => ?_
    show ((c : Int).toNat) = c
    exact Int.toNat_natCast c
theorem rgV_vI (n : Nat) : rgV 0 (n : Int) = (List.range n).map vI := by
  unfold rgV
  rw [Int.sub_zero, Int.toNat_natCast]
  refine List.map_congr_left fun c _ => ?_
  show V.int (0 + (c : Int)) = V.int (c : Int)
  rw [Int.zero_add]
theorem links_len (l : List (Port × Port)) : (linksOf l).length = 2 * l.length := by
  induction l with
  | nil => rfl
  | cons u l ih =>
    rw [show u = (u.1, u.2) from rfl, linksOf_cons, List.length_cons, List.length_cons, ih, List.length_cons]
    omega
theorem WOk.len {kd : List Str} {ends : Nat} {ws : List (Port × Port)} (h : WOk kd ends ws) : ws.length ≤ 1506 := by
  have h1 := h.fits.perm.length_eq
  rw [List.length_map, links_len] at h1
  have h2 := portsL_len kd ends
  have h3 := h.small
  have h4 := h.few
  omega
theorem xb_fresh {H G : Hp} {b p : Addr} {n : Int} (hB : BoxAt G b n) (hX : XB [b] H G) (hp : G p = none) : H p = none := by
  cases e : H p with
  | none => rfl
  | some o =>
    rw [hX p o (not_in1 (hB.ne hp).symm) e] at hp
    cases hp
theorem kinds_box {H : Hp} {b ka : Addr} {n : Int} {kd : List Str} (hB : BoxAt H b n) (h : H ka = some (.lst (kd.map V.str))) : ka ≠ b := fun z => by
  obtain ⟨x, y, t, e, _⟩ := hB.ex
  rw [z, e] at h
  have h := HO.lst.inj (Option.some.inj h)
  cases kd with
  | nil => cases h
  | cons c r => exact nomatch (List.cons.inj h).1
theorem wires_box {H : Hp} {b wa : Addr} {n : Int} {xs : List V} {ws : List (Port × Port)} (hB : BoxAt H b n) (h : H wa = some (.lst xs)) (hP : Paired (WV H) xs ws) : wa ≠ b := fun z => by
  obtain ⟨x, y, t, e, _⟩ := hB.ex
  rw [z, e] at h
  have h := HO.lst.inj (Option.some.inj h)
  rw [← h] at hP
  cases hP with
  | cons a r =>
    obtain ⟨_, _, _, z, _⟩ := a
    cases z
theorem wires_kinds {H : Hp} {ka wa : Addr} {xs : List V} {kd : List Str} {ws : List (Port × Port)} (h : H ka = some (.lst (kd.map V.str))) (hw : H wa = some (.lst xs)) (hP : Paired (WV H) xs ws) (h0 : ka = wa) : kd = [] := by
  rw [h0, hw] at h
  have h := HO.lst.inj (Option.some.inj h)
  cases kd with
  | nil => rfl
  | cons c r =>
    rw [h] at hP
    cases hP with
    | cons a r =>
      obtain ⟨_, _, _, z, _⟩ := a
      cases z
theorem atI_nat {α : Type} {l : List α} {i : Nat} {c : α} (h : l[i]? = some c) : atI l (i : Int) = some c := by
  have hl := (List.getElem?_eq_some_iff.mp h).1
  unfold atI ixN
  rw [if_pos (Int.natCast_nonneg _), if_pos (by omega)]
  show l[(i : Int).toNat]? = _
  rw [Int.toNat_natCast, h]
theorem ixN_nat {n i : Nat} (h : i < n) : ixN n (i : Int) = some i := by
  unfold ixN
  rw [if_pos (Int.natCast_nonneg _), if_pos (by omega), Int.toNat_natCast]
theorem vP_mv_pos {f : Nat → Nat} {p : Port} (h : 0 ≤ p.1) : vP (mvP f p) = [vI (f p.1.toNat), .int p.2] := by
  rw [show mvP f p = ((f p.1.toNat : Int), p.2) from Prod.ext (mvC_pos h) rfl]
theorem vP_mv_neg {f : Nat → Nat} {p : Port} (h : p.1 < 0) : vP (mvP f p) = vP p := by
  rw [show mvP f p = p from Prod.ext (mvC_neg h) rfl]
end Me
namespace Me
open PySem PySem.Spec PyProof.Rows L2 Mc
variable {P : Program} {w : World} {K : PySem.W.Frag} {mg : Str → Option Value} {base : Heap}
theorem WOk.net {kd : List Str} {ends : Nat} {ws : List (Port × Port)} (h : WOk kd ends ws) (loops : Int) : NetOk (mkN kd ends loops (linksOf ws)) := mkN_ok h.kinds h.small h.few h.ne h.fits
/-! ### what a law holds: a net as two lists, a net, a box -/
theorem ext_xb {H G G' : Hp} {b : Addr} (h : Ext H G) (hb : H b = none) (e : XB [b] G G') : Ext H G' := fun c o hc => e c o (not_in1 (ne_of_none hc hb)) (h c o hc)
def LN (G : Hp) (ka wa : Addr) (kd : List Str) (ends : Nat) (ws : List (Port × Port)) : Prop := ∃ xs, G ka = some (.lst (kd.map V.str)) ∧ G wa = some (.lst xs) ∧ Paired (WV G) xs ws ∧ WOk kd ends ws
theorem LN.ext {G G' : Hp} {ka wa : Addr} {kd : List Str} {ends : Nat} {ws : List (Port × Port)} (h : LN G ka wa kd ends ws) (e : Ext G G') : LN G' ka wa kd ends ws := by
  obtain ⟨xs, h1, h2, h3, h4⟩ := h
  exact ⟨xs, e _ _ h1, e _ _ h2, wv_mono.paired e.t h3, h4⟩
theorem LN.xb {G G' : Hp} {b ka wa : Addr} {n : Int} {kd : List Str} {ends : Nat} {ws : List (Port × Port)} (h : LN G ka wa kd ends ws) (hB : BoxAt G b n) (e : XB [b] G G') : LN G' ka wa kd ends ws := by
  obtain ⟨xs, h1, h2, h3, h4⟩ := h
  exact ⟨xs, e _ _ (not_in1 (kinds_box hB h1)) h1, e _ _ (not_in1 (wires_box hB h2 h3)) h2, wv_mono.paired (hB.text e) h3, h4⟩
theorem box_at {H : Hp} {b c : Addr} {n : Int} {o : HO} (hb : BoxAt H b n) (h : H c = some o) (ho : ∀ l, o ≠ .lst l) : c ≠ b := fun z => by
  obtain ⟨_, _, _, e, _⟩ := hb.ex
  rw [z, e] at h
  exact ho _ (Option.some.inj h).symm
theorem NetV.xb {H H' : Hp} {b x : Addr} {n : Int} {N : NetD} (h : NetV K H x N) (hb : BoxAt H b n) (e : XB [b] H H') : NetV K H' x N := by
  obtain ⟨dx, kt, lk, wt, kvs, xs, h1, h2, h3, h4, h5, h6⟩ := h
  have up : ∀ {c : Addr} {o : HO}, H c = some o → (∀ l, o ≠ .lst l) → H' c = some o := fun {c o} hc ho => e _ _ (not_in1 (box_at hb hc ho)) hc
  exact ⟨dx, kt, lk, wt, kvs, xs, up h1 (fun _ z => nomatch z), up h2 (fun _ z => nomatch z), up h3 (fun _ z => nomatch z), links_ext h4 (hb.text e), up h5 (fun _ z => nomatch z), wv_mono.paired (hb.text e) h6⟩
/-- the law's form of a net stands at t -/
def DueAt (G : Hp) (t : Addr) (kd : List Str) (es : List (Port × Port)) : Prop := ∃ (k r : Addr) (ys : List V), G t = some (.tup [.ref k, .ref r]) ∧ G k = some (.lst (kd.map V.str)) ∧ G r = some (.lst ys) ∧ Paired (WV G) ys es
theorem DueAt.ext {G G' : Hp} {t : Addr} {kd : List Str} {es : List (Port × Port)} (h : DueAt G t kd es) (e : Ext G G') : DueAt G' t kd es := by
  obtain ⟨k, r, ys, h1, h2, h3, h4⟩ := h
  exact ⟨k, r, ys, e _ _ h1, e _ _ h2, e _ _ h3, wv_mono.paired e.t h4⟩
theorem DueAt.xb {G G' : Hp} {b t : Addr} {n : Int} {kd : List Str} {es : List (Port × Port)} (h : DueAt G t kd es) (hB : BoxAt G b n) (e : XB [b] G G') : DueAt G' t kd es := by
  obtain ⟨k, r, ys, h1, h2, h3, h4⟩ := h
  exact ⟨k, r, ys, e _ _ (not_in1 (box_at hB h1 fun _ z => nomatch z)) h1, e _ _ (not_in1 (kinds_box hB h2)) h2, e _ _ (not_in1 (wires_box hB h3 h4)) h3, wv_mono.paired (hB.text e) h4⟩
end Me
namespace Me
open PySem PySem.Spec PyProof.Rows L2 Mc
/-! ### cycles of a partial function -/
section
def it (led : Nat → Option Nat) : Nat → Nat → Option Nat
  | 0, c => some c
  | t + 1, c => (it led t c).bind led
/-- c comes again -/
def OnC (led : Nat → Option Nat) (c : Nat) : Prop := ∃ t, 0 < t ∧ it led t c = some c
/-- each leads to the next one, the last one to the first -/
structure Cyc (led : Nat → Option Nat) (l : List Nat) : Prop where
  pos : 0 < l.length
  nd : l.Nodup
  step : ∀ i, i < l.length → led (l.getD i 0) = some (l.getD ((i + 1) % l.length) 0)
structure Ring (led : Nat → Option Nat) (l : List Nat) : Prop where
  cyc : Cyc led l
  least : ∀ c ∈ l, l.getD 0 0 ≤ c
variable {led : Nat → Option Nat} {l m : List Nat}
theorem it_add (a : Nat) : ∀ (b c : Nat), it led (a + b) c = (it led a c).bind (it led b)
  | 0, c => by cases h : it led a c <;> simp [it, h]
  | b + 1, c => by
    show (it led (a + b) c).bind led = _
    rw [it_add a b c]
    cases it led a c <;> rfl
theorem it_mul {t c : Nat} (h : it led t c = some c) : ∀ k, it led (k * t) c = some c
  | 0 => by rw [Nat.zero_mul]; rfl
  | k + 1 => by
    rw [Nat.succ_mul, it_add, it_mul h k]
    exact h
theorem getD_mem {l : List Nat} {i : Nat} (h : i < l.length) : l.getD i 0 ∈ l := by
  rw [List.getD_eq_getElem?_getD, List.getElem?_eq_getElem h]
  exact List.getElem_mem h
theorem mem_getD {l : List Nat} {c : Nat} (h : c ∈ l) : ∃ i, i < l.length ∧ l.getD i 0 = c := by
  obtain ⟨i, hi, e⟩ := List.mem_iff_getElem.mp h
  exact ⟨i, hi, by rw [List.getD_eq_getElem?_getD, List.getElem?_eq_getElem hi]; exact e⟩
theorem getD_nd {l : List Nat} (nd : l.Nodup) {i j : Nat} (hi : i < l.length) (hj : j < l.length) (h : l.getD i 0 = l.getD j 0) : i = j := by
  rw [List.getD_eq_getElem?_getD, List.getD_eq_getElem?_getD, List.getElem?_eq_getElem hi, List.getElem?_eq_getElem hj] at h
  exact (List.getElem_inj nd).mp h
theorem ext_getD {l m : List Nat} (hl : l.length = m.length) (h : ∀ i, i < l.length → l.getD i 0 = m.getD i 0) : l = m := by
  refine List.ext_getElem hl fun i h1 h2 => ?_
  have := h i h1
  rw [List.getD_eq_getElem?_getD, List.getD_eq_getElem?_getD, List.getElem?_eq_getElem h1, List.getElem?_eq_getElem h2] at this
  exact this
theorem Cyc.it (h : Cyc led l) {i : Nat} (hi : i < l.length) : ∀ t, Me.it led t (l.getD i 0) = some (l.getD ((i + t) % l.length) 0)
  | 0 => by
    show some _ = _
    rw [Nat.add_zero, Nat.mod_eq_of_lt hi]
  | t + 1 => by
    show (Me.it led t (l.getD i 0)).bind led = _
    rw [h.it hi t]
    show led _ = _
    rw [h.step _ (Nat.mod_lt _ h.pos), Nat.mod_add_mod]
    rfl
theorem Cyc.on (h : Cyc led l) {c : Nat} (hc : c ∈ l) : OnC led c := by
  obtain ⟨i, hi, rfl⟩ := mem_getD hc
  refine ⟨l.length, h.pos, ?_⟩
  rw [h.it hi, Nat.add_mod_right, Nat.mod_eq_of_lt hi]
theorem Cyc.sub (h : Cyc led l) (h' : Cyc led m) {c : Nat} (hc : c ∈ l) (hc' : c ∈ m) : ∀ d ∈ l, d ∈ m := fun d hd => by
  obtain ⟨i, hi, e⟩ := mem_getD hc
  obtain ⟨i', hi', e'⟩ := mem_getD hc'
  obtain ⟨j, hj, rfl⟩ := mem_getD hd
  have h1 := h.it hi (j + (l.length - i))
  rw [show i + (j + (l.length - i)) = j + l.length by omega, Nat.add_mod_right, Nat.mod_eq_of_lt hj, e] at h1
  have h2 := h'.it hi' (j + (l.length - i))
  rw [e', h1] at h2
  rw [Option.some.inj h2]
  exact getD_mem (Nat.mod_lt _ h'.pos)
theorem Ring.uniq (h : Ring led l) (h' : Ring led m) {c : Nat} (hc : c ∈ l) (hc' : c ∈ m) : l = m := by
  have s1 := h.cyc.sub h'.cyc hc hc'
  have s2 := h'.cyc.sub h.cyc hc' hc
  have e0 : l.getD 0 0 = m.getD 0 0 := by
    have a := h.least _ (s2 _ (getD_mem h'.cyc.pos))
    have b := h'.least _ (s1 _ (getD_mem h.cyc.pos))
    omega
  have el : l.length = m.length := ((List.perm_ext_iff_of_nodup h.cyc.nd h'.cyc.nd).mpr fun d => ⟨s1 d, s2 d⟩).length_eq
  refine ext_getD el fun i hi => ?_
  have a := h.cyc.it h.cyc.pos i
  have b := h'.cyc.it h'.cyc.pos i
  rw [e0, b] at a
  rw [Nat.zero_add, Nat.mod_eq_of_lt hi, Nat.mod_eq_of_lt (by omega)] at a
  exact (Option.some.inj a).symm
theorem rings_perm {A B : List (List Nat)} (ha : ∀ l ∈ A, Ring led l) (hb : ∀ l ∈ B, Ring led l) (na : A.Nodup) (nb : B.Nodup) (ab : ∀ c, (∃ l ∈ A, c ∈ l) ↔ ∃ l ∈ B, c ∈ l) : A.Perm B := by
  have sub : ∀ {A B : List (List Nat)}, (∀ l ∈ A, Ring led l) → (∀ l ∈ B, Ring led l) → (∀ c, (∃ l ∈ A, c ∈ l) → ∃ l ∈ B, c ∈ l) → ∀ l, l ∈ A → l ∈ B := fun {A B} ha hb ab l hl => by
    have hc := getD_mem (ha l hl).cyc.pos
    obtain ⟨m, hm, hcm⟩ := ab _ ⟨l, hl, hc⟩
    rw [(ha l hl).uniq (hb m hm) hc hcm]
    exact hm
  exact (List.perm_ext_iff_of_nodup na nb).mpr fun l => ⟨sub ha hb (fun c => (ab c).mp) l, sub hb ha (fun c => (ab c).mpr) l⟩
structure Cycs (led : Nat → Option Nat) (L : List (List Nat)) : Prop where
  cyc : ∀ l ∈ L, Cyc led l
  nd : L.flatten.Nodup
theorem cycs_len : ∀ {L M : List (List Nat)}, Cycs led L → Cycs led M → (∀ c, c ∈ L.flatten ↔ c ∈ M.flatten) → L.length = M.length
  | [], M, _, hM, h => by
    cases M with
    | nil => rfl
    | cons m M =>
      have hc := getD_mem (hM.cyc m List.mem_cons_self).pos
      exact nomatch (h _).mpr (List.mem_flatten.mpr ⟨m, List.mem_cons_self, hc⟩)
  | l :: L, M, hL, hM, h => by
    have cl := hL.cyc l List.mem_cons_self
    have hc := getD_mem cl.pos
    obtain ⟨m, hm, hcm⟩ := List.mem_flatten.mp ((h _).mp (List.mem_flatten.mpr ⟨l, List.mem_cons_self, hc⟩))
    have cm := hM.cyc m hm
    have pm := List.perm_cons_erase hm
    have nd2 : (m ++ (M.erase m).flatten).Nodup := (pm.flatten.nodup_iff).mp hM.nd
    have nd1 : (l ++ L.flatten).Nodup := hL.nd
    have d1 := (List.nodup_append.mp nd1).2.2
    have d2 := (List.nodup_append.mp nd2).2.2
    have me : ∀ c, c ∈ M.flatten ↔ c ∈ m ∨ c ∈ (M.erase m).flatten := fun c => by
      rw [pm.flatten.mem_iff, List.flatten_cons, List.mem_append]
    have ih := cycs_len (L := L) (M := M.erase m) ⟨fun x hx => hL.cyc x (List.mem_cons_of_mem _ hx), (List.nodup_append.mp nd1).2.1⟩ ⟨fun x hx => hM.cyc x (List.mem_of_mem_erase hx), (List.nodup_append.mp nd2).2.1⟩ fun c => by
      have hcc := h c
      rw [List.flatten_cons, List.mem_append, me] at hcc
      constructor
      · intro x
        rcases hcc.mp (.inr x) with y | y
        · exact absurd rfl (d1 c (cm.sub cl hcm hc c y) c x)
        · exact y
      · intro x
        rcases hcc.mpr (.inr x) with y | y
        · exact absurd rfl (d2 c (cl.sub cm hc hcm c y) c x)
        · exact y
    rw [List.length_cons, ih, pm.length_eq, List.length_cons]
theorem rot_getD {k i : Nat} (hk : k < l.length) (hi : i < l.length) : (l.drop k ++ l.take k).getD i 0 = l.getD ((i + k) % l.length) 0 := by
  rw [List.getD_eq_getElem?_getD, List.getD_eq_getElem?_getD]
  by_cases h : i < l.length - k
  · rw [List.getElem?_append_left (by rw [List.length_drop]; exact h), List.getElem?_drop, Nat.mod_eq_of_lt (by omega), Nat.add_comm]
  · rw [List.getElem?_append_right (by rw [List.length_drop]; omega), List.length_drop, List.getElem?_take_of_lt (by omega), show (i + k) % l.length = i - (l.length - k) by
      rw [Nat.mod_eq_sub_mod (by omega), Nat.mod_eq_of_lt (by omega)]
      omega]
theorem rot_perm (l : List Nat) (k : Nat) : (l.drop k ++ l.take k).Perm l := by
  have := List.perm_append_comm (l₁ := l.drop k) (l₂ := l.take k)
  rwa [List.take_append_drop] at this
theorem Cyc.rot (h : Cyc led l) {k : Nat} (hk : k < l.length) : Cyc led (l.drop k ++ l.take k) := by
  have e := (rot_perm l k).length_eq
  refine ⟨by rw [e]; exact h.pos, (rot_perm l k).nodup_iff.mpr h.nd, fun i hi => ?_⟩
  rw [e] at hi ⊢
  rw [rot_getD hk hi, rot_getD hk (Nat.mod_lt _ h.pos), h.step _ (Nat.mod_lt _ h.pos), Nat.mod_add_mod, Nat.mod_add_mod, show i + k + 1 = i + 1 + k by omega]
theorem Cyc.ring (h : Cyc led l) {k : Nat} (hk : k < l.length) (hm : ∀ c ∈ l, l.getD k 0 ≤ c) : Ring led (l.drop k ++ l.take k) := by
  refine ⟨h.rot hk, fun c hc => ?_⟩
  rw [rot_getD hk h.pos, Nat.zero_add, Nat.mod_eq_of_lt hk]
  exact hm c ((rot_perm l k).mem_iff.mp hc)
/-! ### a path -/
/-- from s on, to what comes behind it -/
structure Path (led : Nat → Option Nat) (s : Nat) (p : List Nat) (c : Option Nat) : Prop where
  nd : p.Nodup
  at_ : ∀ i, i < p.length → led (p.getD i 0) = if i + 1 < p.length then some (p.getD (i + 1) 0) else c
  zero : p = [] → c = some s
  head : 0 < p.length → p.getD 0 0 = s
theorem Path.nil (s : Nat) : Path led s [] (some s) := ⟨List.nodup_nil, fun i h => absurd h (Nat.not_lt_zero i), fun _ => rfl, fun h => absurd h (Nat.not_lt_zero 0)⟩
theorem getD_snoc {l : List Nat} {x i : Nat} : (l ++ [x]).getD i 0 = if i < l.length then l.getD i 0 else if i = l.length then x else 0 := by
  rw [List.getD_eq_getElem?_getD, List.getD_eq_getElem?_getD]
  split
  · next h => rw [List.getElem?_append_left h]
  · next h =>
    rw [List.getElem?_append_right (by omega)]
    split
    · next e => rw [e, Nat.sub_self]; rfl
    · next e =>
      rw [List.getElem?_eq_none (by rw [List.length_singleton]; omega)]
      rfl
theorem Path.snoc {s c : Nat} {p : List Nat} (h : Path led s p (some c)) (hc : c ∉ p) : Path led s (p ++ [c]) (led c) := by
  refine ⟨List.nodup_append.mpr ⟨h.nd, List.pairwise_singleton _ _, fun a ha b hb e => hc (by rw [← List.mem_singleton.mp hb, ← e]; exact ha)⟩, fun i hi => ?_, fun z => ?_, fun _ => ?_⟩
  · rw [List.length_append, List.length_singleton] at hi ⊢
    rw [getD_snoc, getD_snoc]
    by_cases h1 : i < p.length
    · rw [if_pos h1, if_pos (by omega), h.at_ i h1]
      by_cases h2 : i + 1 < p.length
      · rw [if_pos h2, if_pos h2]
      · rw [if_neg h2, if_neg h2, if_pos (by omega)]
    · rw [if_neg h1, if_pos (by omega), if_neg (by omega)]
  · cases p <;> cases z
  · rw [getD_snoc]
    by_cases h1 : 0 < p.length
    · rw [if_pos h1]
      exact h.head h1
    · have hp : p = [] := List.length_eq_zero_iff.mp (by omega)
      rw [if_neg h1, if_pos (by omega)]
      exact Option.some.inj (h.zero hp)
theorem Path.it {s : Nat} {p : List Nat} {c : Option Nat} (h : Path led s p c) {i : Nat} (hi : i < p.length) : ∀ t, i + t < p.length → Me.it led t (p.getD i 0) = some (p.getD (i + t) 0)
  | 0, _ => rfl
  | t + 1, ht => by
    show (Me.it led t (p.getD i 0)).bind led = _
    rw [h.it hi t (by omega)]
    show led _ = _
    rw [h.at_ _ (by omega), if_pos (by omega)]
    rfl
theorem Path.out {s : Nat} {p : List Nat} {c : Option Nat} (h : Path led s p c) {i : Nat} (hi : i < p.length) : Me.it led (p.length - i) (p.getD i 0) = c := by
  have e : p.length - i = (p.length - 1 - i) + 1 := by omega
  rw [e]
  show (Me.it led (p.length - 1 - i) (p.getD i 0)).bind led = c
  rw [h.it hi _ (by omega)]
  show led _ = c
  rw [h.at_ _ (by omega), if_neg (by omega)]
/-- what does not lead out -/
def Stays (led : Nat → Option Nat) (S : Nat → Prop) : Prop := ∀ x y, S x → led x = some y → S y
theorem closed_it {S : Nat → Prop} (hS : Stays led S) : ∀ (t : Nat) {x y : Nat}, S x → it led t x = some y → S y
  | 0, x, y, h, e => by
    rw [← Option.some.inj e]
    exact h
  | t + 1, x, y, h, e => by
    cases z : it led t x with
    | none =>
      rw [show it led (t + 1) x = (it led t x).bind led from rfl, z] at e
      cases e
    | some w =>
      rw [show it led (t + 1) x = (it led t x).bind led from rfl, z] at e
      exact hS w y (closed_it hS t h z) e
theorem on_back {S : Nat → Prop} (hS : Stays led S) {x y a : Nat} (ho : OnC led x) (h : it led a x = some y) (hy : S y) : S x := by
  obtain ⟨t, ht, e⟩ := ho
  have e2 := it_mul e (a + 1)
  have e3 : (a + 1) * t = a + ((a + 1) * t - a) := by
    have : a + 1 ≤ (a + 1) * t := Nat.le_mul_of_pos_right _ ht
    omega
  rw [e3, it_add, h] at e2
  exact closed_it hS _ hy e2
theorem on_none {x a : Nat} (ho : OnC led x) (h : it led a x = none) : False := by
  obtain ⟨t, ht, e⟩ := ho
  have e2 := it_mul e (a + 1)
  have e3 : (a + 1) * t = a + ((a + 1) * t - a) := by
    have : a + 1 ≤ (a + 1) * t := Nat.le_mul_of_pos_right _ ht
    omega
  rw [e3, it_add, h] at e2
  cases e2
theorem Cyc.closed (h : Cyc led l) : Stays led (fun x => x ∈ l) := fun x y hx e => by
  obtain ⟨i, hi, rfl⟩ := mem_getD hx
  rw [h.step i hi] at e
  rw [← Option.some.inj e]
  exact getD_mem (Nat.mod_lt _ h.pos)
/-- the path comes again to its own cell -/
theorem Path.cyc {s j : Nat} {p : List Nat} (h : Path led s p (some (p.getD j 0))) (hj : j < p.length) : Cyc led (p.drop j) := by
  have gd : ∀ i, (p.drop j).getD i 0 = p.getD (j + i) 0 := fun i => by
    rw [List.getD_eq_getElem?_getD, List.getD_eq_getElem?_getD, List.getElem?_drop]
  refine ⟨by rw [List.length_drop]; omega, h.nd.sublist (List.drop_sublist _ _), fun i hi => ?_⟩
  rw [List.length_drop] at hi ⊢
  rw [gd, gd, h.at_ _ (by omega)]
  by_cases c : i + 1 < p.length - j
  · rw [if_pos (by omega), Nat.mod_eq_of_lt c]
    rfl
  · rw [if_neg (by omega), show i + 1 = p.length - j by omega, Nat.mod_self]
    rfl
theorem Path.cyc_on {s j : Nat} {p : List Nat} (h : Path led s p (some (p.getD j 0))) (hj : j < p.length) {x : Nat} (hx : x ∈ p) (ho : OnC led x) : x ∈ p.drop j := by
  obtain ⟨i, hi, rfl⟩ := mem_getD hx
  have mj : p.getD j 0 ∈ p.drop j := by
    have := (h.cyc hj).pos
    have e : (p.drop j).getD 0 0 = p.getD j 0 := by rw [List.getD_eq_getElem?_getD, List.getD_eq_getElem?_getD, List.getElem?_drop, Nat.add_zero]
    rw [← e]
    exact getD_mem this
  exact on_back (h.cyc hj).closed ho (h.out hi) mj
theorem Path.closed {s : Nat} {p : List Nat} {c : Option Nat} {Kn : Nat → Prop} (h : Path led s p c) (hk : Stays led Kn) (hc : ∀ d, c = some d → d ∈ p ∨ Kn d) : Stays led (fun x => Kn x ∨ x ∈ p) := fun x y hx e => by
  rcases hx with hx | hx
  · exact .inl (hk x y hx e)
  · obtain ⟨i, hi, rfl⟩ := mem_getD hx
    rw [h.at_ i hi] at e
    split at e
    · next z =>
      rw [← Option.some.inj e]
      exact .inr (getD_mem z)
    · exact (hc y e).symm
theorem Path.none_on {s : Nat} {p : List Nat} {c : Option Nat} {Kn : Nat → Prop} (h : Path led s p c) (hk : Stays led Kn) (hp : ∀ x ∈ p, ¬ Kn x) (hc : ∀ d, c = some d → Kn d) {x : Nat} (hx : x ∈ p) : ¬ OnC led x := fun ho => by
  obtain ⟨i, hi, rfl⟩ := mem_getD hx
  have out := h.out hi
  cases z : c with
  | none => exact on_none ho (out.trans z)
  | some d => exact hp _ (getD_mem hi) (on_back hk ho (out.trans z) (hc d z))
end
/-! ### lists of numbers as data, sorted -/
def ringD (l : List Nat) : PyData := .tuple (l.map fun (c : Nat) => PyData.int (c : Int))
theorem alike_ring (l m : List Nat) : PySem.W.alike (ringD l) (ringD m) = true := by
  show PySem.W.alikeAll _ _ = true
  refine alikeAll_of fun d hd e he => ?_
  obtain ⟨x, _, rfl⟩ := List.mem_map.mp hd
  obtain ⟨y, _, rfl⟩ := List.mem_map.mp he
  rfl
theorem ringD_inj {l m : List Nat} (h : ringD l = ringD m) : l = m := by
  have h := PyData.tuple.inj h
  have := congrArg (List.map fun d => match d with | PyData.int i => i.toNat | _ => 0) h
  rw [List.map_map, List.map_map] at this
  have e : ((fun d => match d with | PyData.int i => i.toNat | _ => 0) ∘ fun (c : Nat) => PyData.int (c : Int)) = id := by
    funext c
    show ((c : Int)).toNat = c
    exact Int.toNat_natCast c
  rwa [e, List.map_id, List.map_id] at this
theorem le_sorted {α : Type} (enc : α → PyData) (l : List α) : (l.mergeSort (PySem.W.dataLe false enc)).Pairwise fun a b => PySem.W.dataLt (enc b) (enc a) = false := by
  have h := List.pairwise_mergeSort (le := PySem.W.dataLe false enc) (fun a b c h1 h2 => ?_) (fun a b => ?_) l
  · refine h.imp fun {a b} h => ?_
    rw [PySem.W.dataLe_eq] at h
    have : (!PySem.W.dataLt (enc b) (enc a)) = true := h
    simpa using this
  · rw [PySem.W.dataLe_eq] at h1 h2 ⊢
    have h1' : PySem.W.dataLt (enc b) (enc a) = false := by
      have : (!PySem.W.dataLt (enc b) (enc a)) = true := h1
      simpa using this
    have h2' : PySem.W.dataLt (enc c) (enc b) = false := by
      have : (!PySem.W.dataLt (enc c) (enc b)) = true := h2
      simpa using this
    show (!PySem.W.dataLt (enc c) (enc a)) = true
    cases z : PySem.W.dataLt (enc c) (enc a) with
    | false => rfl
    | true =>
      rcases lex_negTrans _ (PySem.W.keyToks (enc b)) _ z with y | y
      · have y' : PySem.W.dataLt (enc c) (enc b) = true := y
        rw [h2'] at y'
        exact absurd y' (by decide)
      · have y' : PySem.W.dataLt (enc b) (enc a) = true := y
        rw [h1'] at y'
        exact absurd y' (by decide)
  · rw [PySem.W.dataLe_eq]
    show ((!PySem.W.dataLt (enc b) (enc a)) || !PySem.W.dataLt (enc a) (enc b)) = true
    cases z : PySem.W.dataLt (enc b) (enc a) with
    | false => rfl
    | true =>
      cases y : PySem.W.dataLt (enc a) (enc b) with
      | false => rfl
      | true =>
        have := lt_trans2 z y
        unfold PySem.W.dataLt at this
        rw [lex_irrefl] at this
        exact absurd this (by decide)
/-- what is sorted, whatever the order ahead -/
theorem sort_same {α : Type} (enc : α → PyData) (al : ∀ a b, PySem.W.alike (enc a) (enc b) = true) (inj : ∀ a b, enc a = enc b → a = b) {l m : List α} (h : l.Perm m) : l.mergeSort (PySem.W.dataLe false enc) = m.mergeSort (PySem.W.dataLe false enc) :=
  sorted_same (fun a b => PySem.W.dataLt (enc a) (enc b)) (fun a b h1 h2 => inj a b (toks_inj (al a b) (lex_total _ _ h1 h2)))
    ((List.mergeSort_perm l (PySem.W.dataLe false enc)).trans (h.trans (List.mergeSort_perm m (PySem.W.dataLe false enc)).symm)) (le_sorted enc l) (le_sorted enc m)
end Me
namespace Me
open PySem PySem.Spec PyProof.Rows L2 Mc
variable {P : Program} {w : World} {K : PySem.W.Frag} {mg : Str → Option Value} {base : Heap}
/-! ### where the principal port of a cell leads -/
def ledP (q : Port) : Option Nat := if 0 ≤ q.1 ∧ 0 < q.2 then some q.1.toNat else none
def ledN (N : NetD) (c : Nat) : Option Nat := ledP (acOf N.es ((c : Int), 0))
def optV : Option Nat → V
  | some c => vI c
  | none => .non
theorem hd_port (kd : List Str) (ends : Nat) {c : Nat} (h : c < kd.length) : isPort kd ends ((c : Int), 0) := mem_portsL.mp (heads_sub kd ends _ (List.mem_map.mpr ⟨c, List.mem_range.mpr h, rfl⟩))
theorem es_ac {N : NetD} (ok : NetOk N) {p : Port} (h : isPort N.kd N.ends p) : (p, acOf N.es p) ∈ N.es := by
  obtain ⟨q, hq⟩ := ok.link h
  rw [show acOf N.es p = q from acOf_mem ok.nodup hq]
  exact hq
theorem led_lt {N : NetD} (ok : NetOk N) {c d : Nat} (hc : c < N.kd.length) (h : ledN N c = some d) : d < N.kd.length := by
  have hp := ok.port2 (es_ac ok (hd_port N.kd N.ends hc))
  unfold ledN ledP at h
  split at h
  · next z =>
    have := Option.some.inj h
    rcases port_cell hp with y | y
    · have y : (acOf N.es ((c : Int), 0)).1 = -1 := y
      omega
    · have y : (acOf N.es ((c : Int), 0)).1 < _ := y.2
      omega
  · cases h
def spLed (K : PySem.W.Frag) : Sp := fun vs H Q _ => ∃ (x : Addr) (N : NetD) (c : Nat), vs = [.ref x, vI c] ∧ NetV K H x N ∧ NetOk N ∧ c < N.kd.length ∧ ∀ H', Ext H H' → Q (optV (ledN N c)) H'
theorem ok_led_on (T : Txt P w K mg) : FnR P w K mg base (L2.CX P w) 6 (He.ga K "led_on") (spLed K) := by
  have G_Net___getitem__ := ok_getitem (base := base) T
  obtain ⟨fd, F⟩ := T.f_led_on
  refine fnR_body F sc_led_on (F.bindsN (fun _ _ _ _ _ _ us hl => match us, hl with | [_, _], _ => rfl)) ?_ ?_
  · rintro vs H Q E ⟨x, N, c, rfl, _⟩
    rfl
  · rintro cdv A outer s H vs Q E hr ⟨x, N, c, rfl, hN, ok, hc, q⟩
    refine ⟨_, (PSs.nox (Mc.pss_mid (ps_asg (Mc.pe_subO G_Net___getitem__ (hr.mono (by decide)) T.me_Net___getitem__ (fnIn_of T.f_Net___getitem__.choose_spec) pass_no (pv 0) (pe_tup (pa_cons (pv 1) (pa_cons pe_int pa_nil)))) (pg_tup (by rfl) (pgs_cons (pg_name (i := 2) sc_led_on.nd rfl (Or.inl rfl)) (pgs_cons (pg_name (i := 3) sc_led_on.nd rfl (Or.inl rfl)) pgs_nil)) : PG _ _ (gTup K 2 (gCons (gName 2) (gCons (gName 3) gNil)))))
      (pss_one (ps_ret (pe_ifExp (PW.pt (pw_and (pt_cmpR op_ge (pv 2) pe_int (nomark _)) (pw_and1 (pt_cmpR op_gt (pv 3) pe_int (nomark _))))) (pv 2) pe_non))))), ?_⟩
    have hp := hd_port N.kd N.ends hc
    have hes := es_ac ok hp
    have h1 := hN
    obtain ⟨dx, _, _, _, _, _, h1, _⟩ := h1
    refine ⟨fun τ G => τ = [some (.ref x), some (vI c), some (.int (acOf N.es ((c : Int), 0)).1), some (.int (acOf N.es ((c : Int), 0)).2)] ∧ Ext H G, ?_, ?_⟩
    · refine ⟨_, rfl, _, rfl, (by show 2 ≤ sizeLine; decide), fun t ht => ⟨x, dx, _, rfl, Ext.new ht _ _ h1, x, N, _, portD ((c : Int), 0), rfl, hN.ext (Ext.new ht), ok, .dp (pv_dp (p := ((c : Int), 0)) ⟨t, rfl, upd_same⟩), (fun ds e => ⟨t, _, rfl, upd_same, by cases e; exact .cons (.int _) (.cons (.int _) .nil)⟩), ?_, ?_⟩⟩
      · rintro p r u e hm ⟨t', rfl, ht'⟩
        obtain rfl := port_inj e
        obtain rfl := ok.uniq hm hes
        exact ⟨t', _, rfl, .inl (.inl ht'), rfl, _, _, rfl, _, _, rfl, rfl, rfl, Ext.new ht⟩
      · intro z
        exact absurd hes (z _ _ rfl)
    rintro _ G ⟨rfl, hE⟩
    have qq : ∀ v, v = optV (ledN N c) → Q v G := fun v e => by
      rw [e]
      exact q G hE
    unfold ledN ledP at qq
    refine ⟨_, rfl, _, _, rfl, rfl, _, rfl, ?_⟩
    by_cases c1 : 0 ≤ (acOf N.es ((c : Int), 0)).1
    · rw [decide_eq_true c1]
      refine iteT ⟨_, rfl, _, _, rfl, rfl, _, rfl, ?_⟩
      by_cases c2 : 0 < (acOf N.es ((c : Int), 0)).2
      · rw [decide_eq_true c2]
        refine iteT ⟨_, rfl, qq _ ?_⟩
        rw [if_pos ⟨c1, c2⟩]
        show V.int _ = V.int (((acOf N.es ((c : Int), 0)).1.toNat : Nat) : Int)
        rw [Int.toNat_of_nonneg c1]
      · rw [decide_eq_false c2]
        refine iteF (qq _ ?_)
        rw [if_neg (fun z => c2 z.2)]
        rfl
    · rw [decide_eq_false c1]
      refine iteF (iteF (qq _ ?_))
      rw [if_neg (fun z => c1 z.1)]
      rfl
def spIsRed (K : PySem.W.Frag) : Sp := fun vs H Q _ => ∃ (x : Addr) (N : NetD), vs = [.ref x] ∧ NetV K H x N ∧ NetOk N ∧ ∀ H', Ext H H' → Q (.bl (decide (actL N.ws = []))) H'
theorem ok_is_reduced (T : Txt P w K mg) : FnR P w K mg base (L2.CX P w) 2 (He.ga K "is_reduced") (spIsRed K) := by
  have G_active_pairs := ok_active_pairs (base := base) T
  obtain ⟨fd, F⟩ := T.f_is_reduced
  refine fnR_body F sc_is_reduced (F.bindsN (fun _ _ _ _ _ _ us hl => match us, hl with | [_], _ => rfl)) ?_ ?_
  · rintro vs H Q E ⟨x, N, rfl, _⟩
    rfl
  · rintro cdv A outer s H vs Q E hr ⟨x, N, rfl, hN, ok, q⟩
    refine ⟨_, (PSs.nox (pss_one (ps_ret (pe_notT (Mc.pe_callR G_active_pairs (hr.mono (by decide)) (by rfl) T.g_active_pairs T.k_active_pairs pass_no (pa_cons (pv 0) pa_nil)))))), ?_⟩
    refine ⟨_, rfl, x, N, rfl, hN, ok, fun t xs G ht h1 hP hE => ⟨!xs.isEmpty, .inr (.inl ⟨xs, .inl (.inl h1), rfl⟩), ?_⟩⟩
    have e : (!(!xs.isEmpty)) = decide (actL N.ws = []) := by
      generalize actL N.ws = l at hP
      cases hP <;> rfl
    rw [e]
    exact q G hE
/-! ### the rings -/
/-- the cells known, each with the start of its path -/
def knS (l : List (Nat × Nat)) : List (Key × V) := l.map fun q => ((.inl (q.1 : Int) : Key), vI q.2)
theorem knS_val {l : List (Nat × Nat)} (nd : (l.map Prod.fst).Nodup) {c s : Nat} (h : (c, s) ∈ l) : valV (knS l) (.inl (c : Int)) = some (vI s) := by
  refine val_nodup ?_ _ (List.mem_map.mpr ⟨_, h, rfl⟩)
  show ((l.map fun q => ((.inl (q.1 : Int) : Key), vI q.2)).map (·.1)).Nodup
  have e : (l.map fun q => ((.inl (q.1 : Int) : Key), vI q.2)).map (·.1) = (l.map Prod.fst).map fun (c : Nat) => (.inl (c : Int) : Key) := by
    rw [List.map_map, List.map_map]
    rfl
  rw [e]
  refine nd.map _ fun a b hab z => hab ?_
  have z : (Sum.inl (a : Int) : Key) = Sum.inl (b : Int) := z
  have := Sum.inl.inj z
  omega
theorem knS_some (l : List (Nat × Nat)) (c : Nat) : (valV (knS l) (.inl (c : Int))).isSome = decide (c ∈ l.map Prod.fst) := by
  rw [← valV_any, Bool.eq_iff_iff, List.any_eq_true, decide_eq_true_eq]
  constructor
  · rintro ⟨q, hq, e⟩
    obtain ⟨u, hu, rfl⟩ := List.mem_map.mp hq
    have e2 : (Sum.inl (u.1 : Int) : Key) = Sum.inl (c : Int) := of_decide_eq_true e
    have := Sum.inl.inj e2
    exact List.mem_map.mpr ⟨u, hu, by omega⟩
  · intro h
    obtain ⟨u, hu, rfl⟩ := List.mem_map.mp h
    exact ⟨_, List.mem_map.mpr ⟨u, hu, rfl⟩, decide_eq_true rfl⟩
theorem knS_put {l : List (Nat × Nat)} {c s : Nat} (h : c ∉ l.map Prod.fst) : putK (knS l) (.inl (c : Int)) (vI s) = knS (l ++ [(c, s)]) := by
  have e : valV (knS l) (.inl (c : Int)) = none := by
    have h1 := knS_some l c
    rw [decide_eq_false h] at h1
    exact Option.isNone_iff_eq_none.mp (by rw [← Option.not_isSome, h1]; rfl)
  rw [putK_new _ e]
  unfold knS
  rw [List.map_append]
  rfl
/-- v is a tuple of these numbers -/
def RV (H : Hp) (v : V) (l : List Nat) : Prop := ∃ t, v = .ref t ∧ H t = some (.tup (l.map vI))
theorem rv_mono : TMono RV := fun e ⟨t, h1, h2⟩ => ⟨t, h1, e _ _ h2 trivial⟩
theorem dp_nums {H : Hp} : ∀ l : List Nat, DpAll K H (l.map vI) (l.map fun (c : Nat) => PyData.int (c : Int))
  | [] => .nil
  | c :: r => .cons (.int _) (dp_nums r)
theorem rv_dp {H : Hp} {v : V} {l : List Nat} (h : RV H v l) : Dp K H v (ringD l) := by
  obtain ⟨t, rfl, ht⟩ := h
  exact .tup (.inl (.inl ht)) (dp_nums l)
/-- the rings of a net, as they are told -/
structure RingsOf (N : NetD) (L : List (List Nat)) : Prop where
  ring : ∀ l ∈ L, Ring (ledN N) l
  nd : L.flatten.Nodup
  all : ∀ c, c < N.kd.length → (OnC (ledN N) c ↔ ∃ l ∈ L, c ∈ l)
  lt : ∀ l ∈ L, ∀ c ∈ l, c < N.kd.length
/-- the rings, found up to a start -/
structure RSt (N : NetD) (s : Nat) (kn : List (Nat × Nat)) (fs : List (List Nat)) : Prop where
  nd : (kn.map Prod.fst).Nodup
  lt : ∀ q ∈ kn, q.1 < N.kd.length ∧ q.2 < s
  cl : Stays (ledN N) (fun x => x ∈ kn.map Prod.fst)
  all : ∀ c, c < s → c ∈ kn.map Prod.fst
  ring : ∀ l ∈ fs, Ring (ledN N) l
  ndf : fs.flatten.Nodup
  inn : ∀ l ∈ fs, ∀ c ∈ l, c ∈ kn.map Prod.fst
  on : ∀ c ∈ kn.map Prod.fst, OnC (ledN N) c → ∃ l ∈ fs, c ∈ l
theorem RSt.start (N : NetD) : RSt N 0 [] [] :=
  ⟨List.nodup_nil, fun q h => (nomatch h), fun x y h => (nomatch h), fun c h => absurd h (Nat.not_lt_zero c), fun l h => (nomatch h), List.nodup_nil, fun l h => (nomatch h), fun c h => (nomatch h)⟩
theorem keys_app (kn : List (Nat × Nat)) (p : List Nat) (s : Nat) : (kn ++ p.map fun c => (c, s)).map Prod.fst = kn.map Prod.fst ++ p := by
  rw [List.map_append, List.map_map]
  congr 1
  exact List.map_id' _
theorem RSt.grow {N : NetD} {s : Nat} {kn : List (Nat × Nat)} {fs fs' : List (List Nat)} {p : List Nat} {c : Option Nat} (h : RSt N s kn fs) (hp : Path (ledN N) s p c) (fr : ∀ x ∈ p, x < N.kd.length ∧ x ∉ kn.map Prod.fst) (hc : ∀ d, c = some d → d ∈ kn.map Prod.fst ++ p)
    (ring : ∀ l ∈ fs', Ring (ledN N) l) (ndf : fs'.flatten.Nodup) (inn : ∀ l ∈ fs', ∀ c ∈ l, c ∈ kn.map Prod.fst ++ p) (sub : ∀ l ∈ fs, l ∈ fs') (on : ∀ x ∈ p, OnC (ledN N) x → ∃ l ∈ fs', x ∈ l) :
    RSt N (s + 1) (kn ++ p.map fun c => (c, s)) fs' := by
  have ek := keys_app kn p s
  have hs : s ∈ kn.map Prod.fst ++ p := by
    by_cases e : p = []
    · exact hc s (hp.zero e)
    · have h0 : 0 < p.length := List.length_pos_iff.mpr e
      refine List.mem_append.mpr (.inr ?_)
      rw [← hp.head h0]
      exact getD_mem h0
  refine ⟨?_, fun q hq => ?_, ?_, fun d hd => ?_, ring, ndf, fun l hl d hd => ?_, fun d hd ho => ?_⟩
  · rw [ek]
    exact List.nodup_append.mpr ⟨h.nd, hp.nd, fun a ha b hb e => (fr b hb).2 (e ▸ ha)⟩
  · rcases List.mem_append.mp hq with hq | hq
    · exact ⟨(h.lt q hq).1, Nat.lt_succ_of_lt (h.lt q hq).2⟩
    · obtain ⟨x, hx, rfl⟩ := List.mem_map.mp hq
      exact ⟨(fr x hx).1, Nat.lt_succ_self s⟩
  · rw [ek]
    have := hp.closed h.cl (fun d e => (List.mem_append.mp (hc d e)).symm)
    intro x y hx e
    exact List.mem_append.mpr (this x y (List.mem_append.mp hx) e)
  · rw [ek]
    rcases Nat.lt_succ_iff_lt_or_eq.mp hd with z | rfl
    · exact List.mem_append.mpr (.inl (h.all d z))
    · exact hs
  · rw [ek]
    exact inn l hl d hd
  · rw [ek] at hd
    rcases List.mem_append.mp hd with hd | hd
    · obtain ⟨l, hl, hdl⟩ := h.on d hd ho
      exact ⟨l, sub l hl, hdl⟩
    · exact on d hd ho
theorem RSt.skip {N : NetD} {s : Nat} {kn : List (Nat × Nat)} {fs : List (List Nat)} {p : List Nat} {c : Option Nat} (h : RSt N s kn fs) (hp : Path (ledN N) s p c) (fr : ∀ x ∈ p, x < N.kd.length ∧ x ∉ kn.map Prod.fst) (hc : ∀ d, c = some d → d ∈ kn.map Prod.fst) :
    RSt N (s + 1) (kn ++ p.map fun c => (c, s)) fs :=
  h.grow hp fr (fun d e => List.mem_append.mpr (.inl (hc d e))) h.ring h.ndf (fun l hl c hc => List.mem_append.mpr (.inl (h.inn l hl c hc))) (fun _ h => h) fun x hx ho => absurd ho (hp.none_on h.cl (fun y hy => (fr y hy).2) hc hx)
theorem RSt.found {N : NetD} {s j : Nat} {kn : List (Nat × Nat)} {fs : List (List Nat)} {p r : List Nat} (h : RSt N s kn fs) (hp : Path (ledN N) s p (some (p.getD j 0))) (hj : j < p.length) (fr : ∀ x ∈ p, x < N.kd.length ∧ x ∉ kn.map Prod.fst) (hr : Ring (ledN N) r) (pr : r.Perm (p.drop j)) :
    RSt N (s + 1) (kn ++ p.map fun c => (c, s)) (fs ++ [r]) := by
  have rp : ∀ c ∈ r, c ∈ p := fun c hc => List.mem_of_mem_drop (pr.mem_iff.mp hc)
  refine h.grow hp fr (fun d e => List.mem_append.mpr (.inr (by rw [← Option.some.inj e]; exact getD_mem hj))) (fun l hl => ?_) ?_ (fun l hl c hc => ?_) (fun l hl => List.mem_append.mpr (.inl hl)) fun x hx ho => ⟨r, List.mem_append.mpr (.inr (List.mem_singleton.mpr rfl)), pr.mem_iff.mpr (hp.cyc_on hj hx ho)⟩
  · rcases List.mem_append.mp hl with hl | hl
    · exact h.ring l hl
    · rw [List.mem_singleton.mp hl]
      exact hr
  · rw [List.flatten_append, show [r].flatten = r by simp]
    refine List.nodup_append.mpr ⟨h.ndf, hr.cyc.nd, fun a ha b hb e => ?_⟩
    obtain ⟨l, hl, hal⟩ := List.mem_flatten.mp ha
    exact (fr b (rp b hb)).2 (e ▸ h.inn l hl a hal)
  · rcases List.mem_append.mp hl with hl | hl
    · exact List.mem_append.mpr (.inl (h.inn l hl c hc))
    · rw [List.mem_singleton.mp hl] at hc
      exact List.mem_append.mpr (.inr (rp c hc))
theorem RSt.stop {N : NetD} {kn : List (Nat × Nat)} {fs : List (List Nat)} (h : RSt N N.kd.length kn fs) : RingsOf N fs :=
  ⟨h.ring, h.ndf, fun c hc => ⟨fun ho => h.on c (h.all c hc) ho, fun ⟨l, hl, hcl⟩ => (h.ring l hl).cyc.on hcl⟩, fun l hl c hc => by
    obtain ⟨q, hq, rfl⟩ := List.mem_map.mp (h.inn l hl c hc)
    exact (h.lt q hq).1⟩
theorem cut_drop {xs : List V} {j : Nat} (h : j ≤ xs.length) : cutV xs (some (j : Int)) none = xs.drop j := by
  unfold cutV
  rw [HT.sIx_nat, HT.sIx_none, Nat.min_eq_left h]
  exact List.take_of_length_le (by rw [List.length_drop]; omega)
theorem cut_take {xs : List V} {j : Nat} (h : j ≤ xs.length) : cutV xs none (some (j : Int)) = xs.take j := by
  unfold cutV
  rw [HT.sIx_nat, HT.sIx_none, Nat.min_eq_left h]
  rfl
theorem idx_nat {l : List Nat} {c : Nat} (hm : c ∈ l) : (l.map vI)[l.idxOf c]? = some (vI c) ∧ eqV (vI c) (vI c) = true ∧ ∀ (m : Nat) (z' : V), m < l.idxOf c → (l.map vI)[m]? = some z' → eqV z' (vI c) = false := by
  have hl := List.idxOf_lt_length_of_mem hm
  refine ⟨by rw [List.getElem?_map, List.getElem?_eq_getElem hl, List.getElem_idxOf]; rfl, ?_, fun m z' hlt hz => ?_⟩
  · show ((c : Int) == (c : Int)) = true
    exact beq_self_eq_true _
  · rw [List.getElem?_map] at hz
    obtain ⟨d, hd, rfl⟩ := Option.map_eq_some_iff.mp hz
    show ((d : Int) == (c : Int)) = false
    refine beq_eq_false_iff_ne.mpr fun z => ?_
    have hdc : d = c := by omega
    obtain ⟨hml, e⟩ := List.getElem?_eq_some_iff.mp hd
    have := List.not_of_lt_findIdx (p := fun x => x == c) (xs := l) hlt
    rw [e, hdc] at this
    simp at this
theorem paired_len_le {α β : Type} {R : α → β → Prop} {xs : List α} {ys : List β} (h : Paired R xs ys) {n : Nat} (hy : ys.length ≤ n) : xs.length ≤ n := by
  rw [Paired.length h]
  exact hy
theorem flat_len {L : List (List Nat)} (h : ∀ l ∈ L, 0 < l.length) : L.length ≤ L.flatten.length := by
  induction L with
  | nil => simp
  | cons l L ih =>
    have h1 := h l List.mem_cons_self
    have h2 := ih fun x hx => h x (List.mem_cons_of_mem _ hx)
    rw [List.length_cons, List.flatten_cons, List.length_append]
    omega
theorem RSt.few {N : NetD} {s : Nat} {kn : List (Nat × Nat)} {fs : List (List Nat)} (h : RSt N s kn fs) : fs.length ≤ N.kd.length := by
  have h1 := flat_len fun l hl => (h.ring l hl).cyc.pos
  have h2 := nodup_len (n := N.kd.length) h.ndf fun c hc => by
    obtain ⟨l, hl, hcl⟩ := List.mem_flatten.mp hc
    obtain ⟨q, hq, rfl⟩ := List.mem_map.mp (h.inn l hl c hcl)
    exact (h.lt q hq).1
  omega
theorem RSt.knl {N : NetD} {s : Nat} {kn : List (Nat × Nat)} {fs : List (List Nat)} (h : RSt N s kn fs) : kn.length ≤ N.kd.length := by
  have h2 := nodup_len (n := N.kd.length) h.nd fun c hc => by
    obtain ⟨q, hq, rfl⟩ := List.mem_map.mp hc
    exact (h.lt q hq).1
  rwa [List.length_map] at h2
def spRings (K : PySem.W.Frag) : Sp := fun vs H Q _ => ∃ (x : Addr) (N : NetD), vs = [.ref x] ∧ NetV K H x N ∧ NetOk N ∧
  ∀ (t : Addr) (us : List V) (L : List (List Nat)) H', H' t = some (.tup us) → Paired (RV H') us (L.mergeSort (PySem.W.dataLe false ringD)) → RingsOf N L → L.length ≤ N.kd.length → Ext H H' → Q (.ref t) H'
theorem ok_rings (T : Txt P w K mg) : FnR P w K mg base (L2.CX P w) 7 (He.ga K "rings") (spRings K) := by
  have G_led_on := ok_led_on (base := base) T
  have G_Net___len__ := ok_len (base := base) T
  obtain ⟨fd, F⟩ := T.f_rings
  refine fnR_body F sc_rings (F.bindsN (fun _ _ _ _ _ _ us hl => match us, hl with | [_], _ => rfl)) ?_ ?_
  · rintro vs H Q E ⟨x, N, rfl, _⟩
    rfl
  · rintro cdv A outer s H vs Q E hr ⟨x, N, rfl, hN, ok, q⟩
    refine ⟨_, (PSs.nox (Mc.pss_mid (ps_set (i := 1) sc_rings.nd rfl (Or.inl rfl) (pe_lst pa_nil))
      (Mc.pss_mid (ps_set (i := 2) sc_rings.nd rfl (Or.inl rfl) pe_dnewK)
      (Mc.pss_mid (ps_for PassesOwn.never rfl (pi_range1 (by rfl) T.m_range (pa_cons (pe_callB (Mc.call_lenO G_Net___len__ (hr.mono (by decide)) T.me_Net___len__ : CallR _ (.builtin "len") (Mc.rLenO _ _)) (by rfl) T.m_len (by decide +kernel) (pa_cons (pv 0) pa_nil)) pa_nil)) (pg_name (i := 3) sc_rings.nd rfl (Or.inl rfl))
      (Mc.pss_mid (ps_set (i := 4) sc_rings.nd rfl (Or.inl rfl) (pe_lst pa_nil))
      (Mc.pss_mid (ps_set (i := 5) sc_rings.nd rfl (Or.inl rfl) (pv 3))
      (Mc.pss_mid (ps_while PassesOwn.never (PW.pt (pw_and (pt_cmpR op_notN (pv 5) pe_non (nomark _)) (pw_and1 (pt_cmp (pc_dnotin (hu_of hr) (pv 5) (pv 2))))))
      (Mc.pss_mid (ps_dput (hu_of hr) (pv 2) (pv 5) (pv 3) rfl)
      (Mc.pss_mid (ps_expr (pe_bm PySem.F.plainAttrs_list PySem.F.slot_list_append PySem.F.type_list_append mt_append (pv 4) (pa_cons (pv 5) pa_nil) : PE _ _ (tBM K _ _ _ _)))
      (pss_one (ps_set (i := 5) sc_rings.nd rfl (Or.inl rfl) (Mc.pe_callR G_led_on (hr.mono (by decide)) (by rfl) T.g_led_on T.k_led_on pass_no (pa_cons (pv 0) (pa_cons (pv 5) pa_nil))))))))
      (pss_one (ps_if (PW.pt (pw_and (pt_cmpR op_notN (pv 5) pe_non (nomark _)) (pw_and1 (pt_cmpR op_eq (pe_dget (hu_of hr) (pv 2) (pv 5) (fun _ _ => rfl)) (pv 3) (nomark _))))) (Mc.pss_mid (ps_set (i := 6) sc_rings.nd rfl (Or.inl rfl) (pe_slice (sl_list : SlR _ (rSlL K)) (pv 4) (po_some (pe_bm PySem.F.plainAttrs_list PySem.F.slot_list_index PySem.F.type_list_index (mt_index : MtR _ "list.index" (rIndex K)) (pv 4) (pa_cons (pv 5) pa_nil) : PE _ _ (tBM K _ _ _ _))) po_none))
      (Mc.pss_mid (ps_set (i := 7) sc_rings.nd rfl (Or.inl rfl) (pe_bm PySem.F.plainAttrs_list PySem.F.slot_list_index PySem.F.type_list_index (mt_index : MtR _ "list.index" (rIndex K)) (pv 6) (pa_cons (pe_callB ((cr_min rfl) : CallR _ (.builtin "min") (rMin K)) (by rfl) T.m_min (by decide +kernel) (pa_cons (pv 6) pa_nil)) pa_nil) : PE _ _ (tBM K _ _ _ _)))
      (pss_one (ps_expr (pe_bm PySem.F.plainAttrs_list PySem.F.slot_list_append PySem.F.type_list_append mt_append (pv 1) (pa_cons (pe_callTy (call_tuple_of : CallR _ (.type "tuple") (Mc.rTupleOf K)) (by rfl) T.m_tuple (by decide +kernel) (pa_cons (pe_op op_cat (pe_slice (sl_list : SlR _ (rSlL K)) (pv 6) (po_some (pv 7)) po_none) (pe_slice (sl_list : SlR _ (rSlL K)) (pv 6) po_none (po_some (pv 7)))) pa_nil)) pa_nil) : PE _ _ (tBM K _ _ _ _)))))) pss_nil))))))
      (pss_one (ps_ret (pe_callTy (call_tuple_of : CallR _ (.type "tuple") (Mc.rTupleOf K)) (by rfl) T.m_tuple (by decide +kernel) (pa_cons (pe_callB ((Mc.cr_sortedD hr.units) : CallR _ (.builtin "sorted") (Mc.rSortedD K)) (by rfl) T.m_sorted (by decide +kernel) (pa_cons (pv 1) pa_nil)) pa_nil)))))))), ?_⟩
    have hn := ok.small
    have hN0 := hN
    obtain ⟨dx, _, _, _, _, _, h1, _⟩ := hN0
    refine ⟨fun τ G => ∃ F, τ = [some (.ref x), some (.ref F), none, none, none, none, none, none] ∧ H F = none ∧ G F = some (.lst []) ∧ Ext H G, ⟨by show 0 ≤ sizeLine; decide, fun F hF => ⟨F, rfl, hF, upd_same, Ext.new hF⟩⟩, ?_⟩
    rintro _ G1 ⟨F, rfl, hF, g1, hE1⟩
    refine ⟨fun τ G => ∃ D, τ = [some (.ref x), some (.ref F), some (.ref D), none, none, none, none, none] ∧ H D = none ∧ F ≠ D ∧ G F = some (.lst []) ∧ G D = some (.dK (knS [])) ∧ Ext H G, fun D hD => ⟨D, rfl, hE1.fresh hD, ne_of_none g1 hD, Ext.new hD _ _ g1, upd_same, hE1.trans (Ext.new hD)⟩, ?_⟩
    rintro _ G2 ⟨D, rfl, hD, hFD, g2, g3, hE2⟩
    -- the starts
    refine ⟨fun τ G => ∃ (y3 y4 y5 y6 y7 : Option V) (kn : List (Nat × Nat)) (fs : List (List Nat)) (us : List V), τ = [some (.ref x), some (.ref F), some (.ref D), y3, y4, y5, y6, y7] ∧ RSt N N.kd.length kn fs ∧ G F = some (.lst us) ∧ Paired (RV G) us fs ∧ Ext H G, ?_, ?_⟩
    · refine ⟨_, rfl, x, dx, _, rfl, hE2 _ _ h1, x, N, rfl, hN.ext hE2, ok, N.kd.length, rfl, by omega, _, rfl, by omega, by omega, for_it walk_range (fun i σ G => ∃ (y3 y4 y5 y6 y7 : Option V) (kn : List (Nat × Nat)) (fs : List (List Nat)) (us : List V), σ = [some (.ref x), some (.ref F), some (.ref D), y3, y4, y5, y6, y7] ∧ RSt N i kn fs ∧ G F = some (.lst us) ∧ Paired (RV G) us fs ∧ G D = some (.dK (knS kn)) ∧ Ext H G)
        ⟨_, _, _, _, _, [], [], [], rfl, RSt.start N, g2, .nil, g3, hE2⟩ (fun _ _ _ _ _ => trivial) ?_ ?_⟩
      · rintro i z σ G3 G4 hi ⟨y3, y4, y5, y6, y7, kn, fs, us, rfl, hR, gF, hPF, gD, hE⟩ ⟨rfl, hz⟩
        obtain rfl := rng0 hz
        rw [Int.toNat_natCast] at hi
        have few := hR.few
        have knl := hR.knl
        -- path
        refine ⟨fun τ G => ∃ P, τ = [some (.ref x), some (.ref F), some (.ref D), some (vI i), some (.ref P), y5, y6, y7] ∧ H P = none ∧ F ≠ P ∧ D ≠ P ∧ G P = some (.lst []) ∧ Ext G4 G, ⟨by show 0 ≤ sizeLine; decide, fun P hP => ⟨P, rfl, hE.fresh hP, ne_of_none gF hP, ne_of_none gD hP, upd_same, Ext.new hP⟩⟩, ?_⟩
        rintro _ G5 ⟨P, rfl, hP, hFP, hDP, g5, hE5⟩
        have g5F := hE5 _ _ gF
        have g5D := hE5 _ _ gD
        have hPF5 := rv_mono.paired hE5.t hPF
        have hE05 := hE.trans hE5
        clear gF gD hPF hE hE5
        -- cell
        refine ⟨fun τ G => τ = [some (.ref x), some (.ref F), some (.ref D), some (vI i), some (.ref P), some (vI i), y6, y7] ∧ G5 = G, ⟨_, rfl, rfl, rfl⟩, ?_⟩
        rintro _ _ ⟨rfl, rfl⟩
        -- the way
        refine ⟨fun τ G => ∃ (p : List Nat) (c : Option Nat), τ = [some (.ref x), some (.ref F), some (.ref D), some (vI i), some (.ref P), some (optV c), y6, y7] ∧ Path (ledN N) i p c ∧ (∀ x ∈ p, x < N.kd.length ∧ x ∉ kn.map Prod.fst) ∧ (∀ d, c = some d → d ∈ kn.map Prod.fst ++ p) ∧ G P = some (.lst (p.map vI)) ∧ G D = some (.dK (knS (kn ++ p.map fun c => (c, i)))) ∧ G F = some (.lst us) ∧ Paired (RV G) us fs ∧ Ext H G, ?_, ?_⟩
        · refine ⟨fun m σ G => ∃ (p : List Nat) (c : Option Nat), σ = [some (.ref x), some (.ref F), some (.ref D), some (vI i), some (.ref P), some (optV c), y6, y7] ∧ m = N.kd.length + 1 - p.length ∧ Path (ledN N) i p c ∧ (∀ x ∈ p, x < N.kd.length ∧ x ∉ kn.map Prod.fst) ∧ (∀ d, c = some d → d < N.kd.length) ∧ G P = some (.lst (p.map vI)) ∧ G D = some (.dK (knS (kn ++ p.map fun c => (c, i)))) ∧ G F = some (.lst us) ∧ Paired (RV G) us fs ∧ Ext H G,
            ⟨_, [], some i, rfl, rfl, Path.nil i, (fun _ h => nomatch h), (fun d e => by rw [← Option.some.inj e]; exact hi), g5, by rw [List.map_nil, List.append_nil]; exact g5D, g5F, hPF5, hE05⟩, ?_⟩
          rintro m σ G6 ⟨p, c, rfl, rfl, hp, fr, hc, g6P, g6D, g6F, hP6, hE6⟩
          have plen := nodup_len hp.nd fun y hy => (fr y hy).1
          refine ⟨_, rfl, rfl, _, rfl, ?_⟩
          cases c with
          | none =>
            rw [decide_eq_true (show optV none = V.non from rfl)]
            exact iteF (iteF ⟨p, none, rfl, hp, fr, (fun d e => nomatch e), g6P, g6D, g6F, hP6, hE6⟩)
          | some d =>
            rw [decide_eq_false (show ¬ optV (some d) = V.non from fun z => nomatch z)]
            have hdn := hc d rfl
            refine iteT ⟨_, rfl, _, rfl, D, _, rfl, .inl ⟨_, .inl (d : Int), .inl g6D, rfl, rfl⟩, _, rfl, ?_⟩
            rw [knS_some, keys_app]
            by_cases hm : d ∈ kn.map Prod.fst ++ p
            · rw [decide_eq_true hm]
              exact iteF ⟨p, some d, rfl, hp, fr, (fun e he => by rw [← Option.some.inj he]; exact hm), g6P, g6D, g6F, hP6, hE6⟩
            · rw [decide_eq_false hm]
              have hdk : d ∉ kn.map Prod.fst := fun z => hm (List.mem_append.mpr (.inl z))
              have hdp : d ∉ p := fun z => hm (List.mem_append.mpr (.inr z))
              have plt : p.length < N.kd.length := by
                have := nodup_len (n := N.kd.length) (l := p ++ [d]) (List.nodup_append.mpr ⟨hp.nd, List.pairwise_singleton _ _, fun a ha b hb e => hdp (by rw [← List.mem_singleton.mp hb, ← e]; exact ha)⟩) fun y hy => by
                  rcases List.mem_append.mp hy with hy | hy
                  · exact (fr y hy).1
                  · rw [List.mem_singleton.mp hy]
                    exact hdn
                rw [List.length_append, List.length_singleton] at this
                omega
              refine iteT ⟨fun σ' G => ∃ c', σ' = [some (.ref x), some (.ref F), some (.ref D), some (vI i), some (.ref P), some (optV c'), y6, y7] ∧ Path (ledN N) i (p ++ [d]) c' ∧ (∀ e, c' = some e → e < N.kd.length) ∧ G P = some (.lst ((p ++ [d]).map vI)) ∧ G D = some (.dK (knS (kn ++ (p ++ [d]).map fun c => (c, i)))) ∧ G F = some (.lst us) ∧ Paired (RV G) us fs ∧ Ext H G, ?_, ?_⟩
              · rintro σ' G7 ⟨c', rfl, a1, a2, a3, a4, a5, a6, a7⟩
                refine ⟨N.kd.length + 1 - (p.length + 1), by omega, p ++ [d], c', rfl, by rw [List.length_append, List.length_singleton], a1, fun y hy => ?_, a2, a3, a4, a5, a6, a7⟩
                rcases List.mem_append.mp hy with hy | hy
                · exact fr y hy
                · rw [List.mem_singleton.mp hy]
                  exact ⟨hdn, hdk⟩
              -- known[cell] = start
              refine ⟨fun τ G => τ = [some (.ref x), some (.ref F), some (.ref D), some (vI i), some (.ref P), some (vI d), y6, y7] ∧ G P = some (.lst (p.map vI)) ∧ G D = some (.dK (knS (kn ++ (p ++ [d]).map fun c => (c, i)))) ∧ G F = some (.lst us) ∧ Paired (RV G) us fs ∧ Ext H G, ?_, ?_⟩
              · refine ⟨_, rfl, _, rfl, _, rfl, D, _, rfl, .inl ⟨_, .inl (d : Int), g6D, rfl, ?_, rfl⟩, rfl, (upd_ne hDP.symm).trans g6P, ?_, (upd_ne hFD).trans g6F, rv_mono.paired (TExt.put g6D fun z => z) hP6, keepH hE6 hD⟩
                · unfold knS
                  rw [List.length_map, List.length_append, List.length_map]
                  exact szl (by omega)
                · rw [upd_same, knS_put (by rw [keys_app]; exact hm), List.map_append, List.append_assoc]
                  rfl
              rintro _ G7 ⟨rfl, g7P, g7D, g7F, hP7, hE7⟩
              -- path.append(cell)
              refine ⟨fun τ G => τ = [some (.ref x), some (.ref F), some (.ref D), some (vI i), some (.ref P), some (vI d), y6, y7] ∧ G P = some (.lst ((p ++ [d]).map vI)) ∧ G D = some (.dK (knS (kn ++ (p ++ [d]).map fun c => (c, i)))) ∧ G F = some (.lst us) ∧ Paired (RV G) us fs ∧ Ext H G, ?_, ?_⟩
              · refine ⟨_, rfl, .inl ⟨rfl, _, SqL.of g7P⟩, _, rfl, P, p.map vI, vI d, rfl, rfl, g7P, by rw [List.length_map]; exact szl (by omega), rfl, ?_, (upd_ne hDP).trans g7D, (upd_ne hFP).trans g7F, rv_mono.paired (TExt.put g7P fun z => z) hP7, keepH hE7 hP⟩
                rw [List.map_append]
                exact upd_same
              rintro _ G8 ⟨rfl, g8P, g8D, g8F, hP8, hE8⟩
              exact ⟨_, rfl, _, rfl, x, N, d, rfl, hN.ext hE8, ok, hdn, fun G9 hE9 => ⟨ledN N d, rfl, hp.snoc hdp, fun e he => led_lt ok hdn he, hE9 _ _ g8P, hE9 _ _ g8D, hE9 _ _ g8F, rv_mono.paired hE9.t hP8, hE8.trans hE9⟩⟩
        rintro _ G6 ⟨p, c, rfl, hp, fr, hc, g6P, g6D, g6F, hP6, hE6⟩
        have plen := nodup_len hp.nd fun y hy => (fr y hy).1
        have ul : us.length = fs.length := Paired.length hP6
        -- what is found
        have skip : (∀ d, c = some d → d ∈ kn.map Prod.fst) → ∃ (y3 y4 y5 y6' y7' : Option V) (kn' : List (Nat × Nat)) (fs' : List (List Nat)) (us' : List V), [some (.ref x), some (.ref F), some (.ref D), some (vI i), some (.ref P), some (optV c), y6, y7] = [some (.ref x), some (.ref F), some (.ref D), y3, y4, y5, y6', y7'] ∧ RSt N (i + 1) kn' fs' ∧ G6 F = some (.lst us') ∧ Paired (RV G6) us' fs' ∧ G6 D = some (.dK (knS kn')) ∧ Ext H G6 :=
          fun hk => ⟨_, _, _, _, _, _, _, _, rfl, hR.skip hp fr hk, g6F, hP6, g6D, hE6⟩
        refine ⟨_, rfl, rfl, _, rfl, ?_⟩
        cases c with
        | none =>
          rw [decide_eq_true (show optV none = V.non from rfl)]
          exact iteF (iteF (skip fun d e => nomatch e))
        | some d =>
          rw [decide_eq_false (show ¬ optV (some d) = V.non from fun z => nomatch z)]
          have ndk : ((kn ++ p.map fun c => (c, i)).map Prod.fst).Nodup := by
            rw [keys_app]
            exact List.nodup_append.mpr ⟨hR.nd, hp.nd, fun a ha b hb e => (fr b hb).2 (e ▸ ha)⟩
          by_cases hdp : d ∈ p
          · have gv : valV (knS (kn ++ p.map fun c => (c, i))) (.inl (d : Int)) = some (vI i) := knS_val ndk (List.mem_append.mpr (.inr (List.mem_map.mpr ⟨d, hdp, rfl⟩)))
            refine iteT ⟨_, rfl, _, rfl, D, vI i, rfl, .inl ⟨_, .inl (d : Int), .inl g6D, rfl, gv.symm⟩, _, rfl, rfl, _, rfl, ?_⟩
            rw [decide_eq_true (show vI i = vI i from rfl)]
            refine iteT ?_
            obtain ⟨i1, i2, i3⟩ := idx_nat hdp
            have hj := List.idxOf_lt_length_of_mem hdp
            have ej : p.getD (p.idxOf d) 0 = d := by
              rw [List.getD_eq_getElem?_getD, List.getElem?_eq_getElem hj, List.getElem_idxOf]
              rfl
            have hp' := hp
            rw [← ej] at hp'
            have cy := hp'.cyc hj
            generalize hjj : p.idxOf d = j at i1 i3 hj ej hp' cy
            -- ring
            refine ⟨fun τ G => ∃ R, τ = [some (.ref x), some (.ref F), some (.ref D), some (vI i), some (.ref P), some (vI d), some (.ref R), y7] ∧ G R = some (.lst ((p.drop j).map vI)) ∧ Ext G6 G, ?_, ?_⟩
            · refine ⟨_, rfl, _, rfl, .inl ⟨rfl, _, SqL.of g6P⟩, _, rfl, P, _, _, j, _, rfl, rfl, SqL.of g6P, rfl, flat_vI p, i1, i2, i3, _, rfl, P, _, rfl, SqL.of g6P, fun R hR' => ⟨R, rfl, ?_, Ext.new hR'⟩⟩
              rw [upd_same, cut_drop (by rw [List.length_map]; omega), List.map_drop]
            rintro _ G7 ⟨R, rfl, g7, hE7⟩
            generalize hrr : p.drop j = r at g7 cy
            have rl : r.length ≤ p.length := by rw [← hrr, List.length_drop]; omega
            -- at
            refine ⟨fun τ G => ∃ k : Nat, τ = [some (.ref x), some (.ref F), some (.ref D), some (vI i), some (.ref P), some (vI d), some (.ref R), some (vI k)] ∧ k < r.length ∧ (∀ c ∈ r, r.getD k 0 ≤ c) ∧ G7 = G, ?_, ?_⟩
            · refine ⟨_, rfl, .inl ⟨rfl, _, SqL.of g7⟩, _, rfl, R, r.map (fun (c : Nat) => (c : Int)), rfl, SqL.of (by rw [List.map_map]; exact g7), by rw [List.length_map]; exact cy.pos, fun m hm hmin => ?_⟩
              obtain ⟨c, hc, rfl⟩ := List.mem_map.mp hm
              obtain ⟨k1, k2, k3⟩ := idx_nat hc
              refine ⟨R, _, _, r.idxOf c, _, rfl, rfl, SqL.of g7, rfl, flat_vI r, k1, k2, k3, _, rfl, List.idxOf_lt_length_of_mem hc, fun e he => ?_, rfl⟩
              have := hmin (e : Int) (List.mem_map.mpr ⟨e, he, rfl⟩)
              rw [List.getD_eq_getElem?_getD, List.getElem?_eq_getElem (List.idxOf_lt_length_of_mem hc), List.getElem_idxOf]
              show c ≤ e
              omega
            rintro _ _ ⟨k, rfl, hk, hmin, rfl⟩
            refine ⟨_, rfl, .inl ⟨rfl, _, SqL.of (hE7 _ _ g6F)⟩, _, rfl, _, rfl, _, rfl, R, _, rfl, SqL.of g7, fun p1 hp1 => ⟨_, rfl, _, rfl, _, rfl, R, _, rfl, SqL.of (Ext.new hp1 _ _ g7), fun p2 hp2 => ?_⟩⟩
            rw [cut_drop (by rw [List.length_map]; omega), cut_take (by rw [List.length_map]; omega)] at *
            have q1 := Ext.new (o := .lst ((r.map vI).drop k)) hp1
            have q2 := Ext.new (o := .lst ((r.map vI).take k)) hp2
            refine ⟨p1, p2, _, _, rfl, rfl, q2 _ _ upd_same, upd_same, ?_, fun p3 hp3 => ?_⟩
            · rw [List.length_drop, List.length_take, List.length_map]
              exact sze (by omega)
            have q3 := Ext.new (o := .lst ((r.map vI).drop k ++ (r.map vI).take k)) hp3
            refine ⟨p3, _, rfl, .inl ⟨SqL.of upd_same, fun t ht => ?_⟩⟩
            have q4 := Ext.new (o := .tup ((r.map vI).drop k ++ (r.map vI).take k)) ht
            have qq := ((q1.trans q2).trans q3).trans q4
            have qq7 := hE7.trans qq
            refine ⟨F, us, .ref t, rfl, rfl, qq7 _ _ g6F, szl (by omega), ?_⟩
            have TF := TExt.put (o := .lst (us ++ [.ref t])) (qq7 _ _ g6F) fun z => z
            refine ⟨_, _, _, _, _, _, fs ++ [r.drop k ++ r.take k], us ++ [.ref t], rfl, hR.found hp' hj fr (cy.ring hk hmin) (by rw [hrr]; exact rot_perm r k), upd_same, paired_snoc (rv_mono.paired (qq7.t.trans TF) hP6) ⟨t, rfl, ?_⟩, (upd_ne hFD.symm).trans (qq7 _ _ g6D), keepH (hE6.trans qq7) hF⟩
            rw [List.map_append, List.map_drop, List.map_take]
            exact TF _ _ upd_same trivial
          · have hdk : d ∈ kn.map Prod.fst := (List.mem_append.mp (hc d rfl)).resolve_right hdp
            obtain ⟨u, hu, rfl⟩ := List.mem_map.mp hdk
            have gv : valV (knS (kn ++ p.map fun c => (c, i))) (.inl (u.1 : Int)) = some (vI u.2) := knS_val ndk (List.mem_append.mpr (.inl hu))
            refine iteT ⟨_, rfl, _, rfl, D, vI u.2, rfl, .inl ⟨_, .inl (u.1 : Int), .inl g6D, rfl, gv.symm⟩, _, rfl, rfl, _, rfl, ?_⟩
            rw [decide_eq_false (show ¬ vI u.2 = vI i from fun z => by have := V.int.inj z; have := (hR.lt u hu).2; omega)]
            exact iteF (skip fun d e => by rw [← Option.some.inj e]; exact hdk)
      · rintro σ G3 ⟨y3, y4, y5, y6, y7, kn, fs, us, rfl, hR, gF, hPF, gD, hE⟩
        rw [Int.toNat_natCast] at hR
        exact ⟨y3, y4, y5, y6, y7, kn, fs, us, rfl, hR, gF, hPF, hE⟩
    rintro _ G3 ⟨y3, y4, y5, y6, y7, kn, fs, us, rfl, hR, gF, hPF, hE⟩
    have few := hR.few
    refine ⟨_, rfl, F, us, fs.map ringD, rfl, SqL.of gF, dpAll_paired ringD (fun _ _ h => rv_dp h) hPF, PySem.W.AllAlike.of alike_ring, .inl fun d hd => ?_, fun d hd => ?_, fun S hS => ?_⟩
    · obtain ⟨l, hl, rfl⟩ := List.mem_map.mp hd
      have := (hR.ring l hl).cyc.pos
      cases l with
      | nil => exact absurd this (Nat.not_lt_zero 0)
      | cons c l => exact ⟨_, _, rfl⟩
    · obtain ⟨l, hl, rfl⟩ := List.mem_map.mp hd
      have h1 := depthAll_le (k := 0) (l := l.map fun (c : Nat) => PyData.int (c : Int)) fun d hd => by obtain ⟨x, _, rfl⟩ := List.mem_map.mp hd; exact Nat.le_refl _
      simp only [ringD, PyData.depth]
      omega
    have hsp := sorted_paired ringD hPF
    generalize ((us.zip (fs.map ringD)).mergeSort (PySem.W.dataLe false Prod.snd)).map Prod.fst = zs at hsp ⊢
    have E1 := Ext.new (o := .lst zs) hS
    refine ⟨S, zs, rfl, .inl ⟨SqL.of upd_same, fun t ht => ?_⟩⟩
    have E2 := Ext.new (o := .tup zs) ht
    exact q t zs fs _ upd_same (rv_mono.paired (E1.trans E2).t hsp) hR.stop few ((hE.trans E1).trans E2)
end Me
namespace Me
open PySem PySem.Spec PyProof.Rows L2 Mc
/-! ### reduced nets as a law builds them, plainly -/
def ColS (x : Str) : Prop := x = "red" ∨ x = "blue"
theorem ColS.kind {x : Str} (h : ColS x) : KindS x := h.elim .inl fun h => .inr (.inl h)
theorem ColS.ar {x : Str} (h : ColS x) : arS x = 3 := by rcases h with rfl | rfl <;> rfl
/-- where principal ports lead: to ends, to auxiliary ports of earlier cells or of the next one on a ring -/
structure Red (kd : List Str) (ws : List (Port × Port)) (RR : List (List Nat)) : Prop where
  head : ∀ c, c < kd.length → ∃ q, (((c : Int), 0), q) ∈ linksOf ws ∧ (q.1 < 0 ∨ 0 < q.2) ∧ (c ∈ RR.flatten ∨ q.1 < (c : Int))
  ring : ∀ l ∈ RR, 0 < l.length ∧ ∀ i, i < l.length → ∃ k : Int, 0 < k ∧ (((l.getD i 0 : Nat) : Int), 0, ((l.getD ((i + 1) % l.length) 0 : Nat) : Int), k) ∈ (linksOf ws).map fun e => (e.1.1, e.1.2, e.2.1, e.2.2)
  nd : RR.flatten.Nodup
  lt : ∀ c ∈ RR.flatten, c < kd.length
theorem links_mono {ws vs : List (Port × Port)} {e : Port × Port} (h : e ∈ linksOf ws) : e ∈ linksOf (ws ++ vs) := by
  rw [linksOf_append]
  exact List.mem_append.mpr (.inl h)
theorem links_in {ws : List (Port × Port)} {e : Port × Port} (h : e ∈ ws) : e ∈ linksOf ws := by
  unfold linksOf
  exact List.mem_flatten.mpr ⟨_, List.mem_map.mpr ⟨e, h, rfl⟩, by simp⟩
structure BSt (tips : Nat) (kd : List Str) (ws : List (Port × Port)) (lp : List Port) (RR : List (List Nat)) : Prop where
  laid : Laid kd tips ws lp
  kinds : ∀ x ∈ kd, KindS x
  red : Red kd ws RR
  free : ∀ p ∈ lp, p.1 < 0 ∨ 0 < p.2
theorem portsL_cons (kd : List Str) (tips : Nat) (x : Str) : portsL (kd ++ [x]) tips = portsL kd tips ++ cellPs kd.length x := by
  have h : (kd ++ [x])[kd.length]? = some x := by simp
  have e := portsL_take (ends := tips) h
  rw [List.take_of_length_le (by simp), List.take_left] at e
  exact e
theorem cellPs_3 {x : Str} (h : arS x = 3) (c : Nat) : cellPs c x = [((c : Int), 0), ((c : Int), 1), ((c : Int), 2)] := by
  unfold cellPs
  rw [h]
  rfl
theorem cellPs_1 (c : Nat) : cellPs c "eraser" = [((c : Int), 0)] := rfl
theorem BSt.start (tips : Nat) : BSt tips [] [] ((List.range tips).map fun (k : Nat) => ((-1 : Int), (k : Int))) [] := by
  refine ⟨⟨?_⟩, fun x h => (nomatch h), ⟨fun c h => absurd h (Nat.not_lt_zero c), fun l h => (nomatch h), List.nodup_nil, fun c h => (nomatch h)⟩, fun p hp => ?_⟩
  · show ((List.range tips).map _).Perm (portsL [] tips)
    unfold portsL
    simp
  · obtain ⟨k, _, rfl⟩ := List.mem_map.mp hp
    exact .inl (by show (-1 : Int) < 0; decide)
theorem BSt.port {tips : Nat} {kd : List Str} {ws : List (Port × Port)} {lp : List Port} {RR : List (List Nat)} (h : BSt tips kd ws lp RR) {p : Port} (hp : p ∈ lp) : isPort kd tips p :=
  mem_portsL.mp (h.laid.perm.mem_iff.mp (List.mem_append.mpr (.inr hp)))
theorem Red.mono {kd kd' : List Str} {ws vs : List (Port × Port)} {RR : List (List Nat)} (h : Red kd ws RR) (hk : ∀ c, c < (kd ++ kd').length → ¬ c < kd.length → ∃ q, (((c : Int), 0), q) ∈ linksOf (ws ++ vs) ∧ (q.1 < 0 ∨ 0 < q.2) ∧ (c ∈ RR.flatten ∨ q.1 < (c : Int))) : Red (kd ++ kd') (ws ++ vs) RR := by
  refine ⟨fun c hc => ?_, fun l hl => ⟨(h.ring l hl).1, fun i hi => ?_⟩, h.nd, fun c hc => ?_⟩
  · by_cases z : c < kd.length
    · obtain ⟨q, a, b⟩ := h.head c z
      exact ⟨q, links_mono a, b⟩
    · exact hk c hc z
  · obtain ⟨k, k0, hm⟩ := (h.ring l hl).2 i hi
    obtain ⟨e, he, e2⟩ := List.mem_map.mp hm
    exact ⟨k, k0, List.mem_map.mpr ⟨e, links_mono he, e2⟩⟩
  · have := h.lt c hc
    rw [List.length_append]
    omega
/-- a tree's cell -/
theorem BSt.tree {tips : Nat} {kd : List Str} {ws : List (Port × Port)} {lp lq : List Port} {RR : List (List Nat)} {p : Port} {x : Str} (h : BSt tips kd ws lp RR) (hp : lp.Perm (p :: lq)) (hx : ColS x) :
    BSt tips (kd ++ [x]) (ws ++ [(p, ((kd.length : Int), 0))]) (lq ++ [((kd.length : Int), 1), ((kd.length : Int), 2)]) RR := by
  have hpm : p ∈ lp := hp.mem_iff.mpr List.mem_cons_self
  have pp := h.port hpm
  refine ⟨⟨?_⟩, fun y hy => ?_, h.red.mono fun c hc hn => ?_, fun q hq => ?_⟩
  · rw [portsL_cons, cellPs_3 hx.ar, linksOf_append, List.map_append]
    show ((linksOf ws).map Prod.fst ++ [p, ((kd.length : Int), 0)] ++ (lq ++ [((kd.length : Int), 1), ((kd.length : Int), 2)])).Perm _
    refine List.Perm.trans ?_ (h.laid.perm.append_right _)
    refine List.Perm.trans ?_ ((hp.append_left _).append_right _).symm
    rw [List.append_assoc, List.append_assoc]
    refine List.Perm.append_left _ ?_
    show (p :: ((kd.length : Int), 0) :: (lq ++ [((kd.length : Int), 1), ((kd.length : Int), 2)])).Perm (p :: (lq ++ [((kd.length : Int), 0), ((kd.length : Int), 1), ((kd.length : Int), 2)]))
    exact .cons _ List.perm_middle.symm
  · rcases List.mem_append.mp hy with hy | hy
    · exact h.kinds y hy
    · rw [List.mem_singleton.mp hy]
      exact hx.kind
  · rw [List.length_append, List.length_singleton] at hc
    obtain rfl : c = kd.length := by omega
    refine ⟨p, linksOf_sym (links_in (List.mem_append.mpr (.inr (List.mem_singleton.mpr rfl)))), h.free p hpm, .inr ?_⟩
    rcases port_cell pp with z | z <;> omega
  · rcases List.mem_append.mp hq with hq | hq
    · exact h.free q (hp.mem_iff.mpr (List.mem_cons_of_mem _ hq))
    · rcases List.mem_cons.mp hq with rfl | hq
      · exact .inr (by show (0 : Int) < 1; decide)
      · rw [List.mem_singleton.mp hq]
        exact .inr (by show (0 : Int) < 2; decide)
/-- an eraser -/
theorem BSt.eraser {tips : Nat} {kd : List Str} {ws : List (Port × Port)} {lp lq : List Port} {RR : List (List Nat)} {p : Port} (h : BSt tips kd ws lp RR) (hp : lp.Perm (p :: lq)) :
    BSt tips (kd ++ [("eraser" : Str)]) (ws ++ [(p, ((kd.length : Int), 0))]) lq RR := by
  have hpm : p ∈ lp := hp.mem_iff.mpr List.mem_cons_self
  have pp := h.port hpm
  refine ⟨⟨?_⟩, fun y hy => ?_, h.red.mono fun c hc hn => ?_, fun q hq => h.free q (hp.mem_iff.mpr (List.mem_cons_of_mem _ hq))⟩
  · rw [portsL_cons, cellPs_1, linksOf_append, List.map_append]
    show ((linksOf ws).map Prod.fst ++ [p, ((kd.length : Int), 0)] ++ lq).Perm _
    refine List.Perm.trans ?_ (h.laid.perm.append_right _)
    refine List.Perm.trans ?_ ((hp.append_left _).append_right _).symm
    rw [List.append_assoc, List.append_assoc]
    refine List.Perm.append_left _ ?_
    show (p :: ((kd.length : Int), 0) :: lq).Perm (p :: (lq ++ [((kd.length : Int), 0)]))
    exact .cons _ (List.perm_append_comm (l₁ := [((kd.length : Int), (0 : Int))]))
  · rcases List.mem_append.mp hy with hy | hy
    · exact h.kinds y hy
    · rw [List.mem_singleton.mp hy]
      exact .inr (.inr rfl)
  · rw [List.length_append, List.length_singleton] at hc
    obtain rfl : c = kd.length := by omega
    refine ⟨p, linksOf_sym (links_in (List.mem_append.mpr (.inr (List.mem_singleton.mpr rfl)))), h.free p hpm, .inr ?_⟩
    rcases port_cell pp with z | z <;> omega
/-- two places joined -/
theorem BSt.pair {tips : Nat} {kd : List Str} {ws : List (Port × Port)} {lp lq : List Port} {RR : List (List Nat)} {p q : Port} (h : BSt tips kd ws lp RR) (hp : lp.Perm (p :: q :: lq)) : BSt tips kd (ws ++ [(p, q)]) lq RR := by
  have := h.red.mono (kd' := []) (vs := [(p, q)]) fun c hc hn => absurd (by rwa [List.append_nil] at hc) hn
  rw [List.append_nil] at this
  exact ⟨h.laid.snoc hp, h.kinds, this, fun r hr => h.free r (hp.mem_iff.mpr (List.mem_cons_of_mem _ (List.mem_cons_of_mem _ hr)))⟩
theorem BSt.stop {tips : Nat} {kd : List Str} {ws : List (Port × Port)} {RR : List (List Nat)} (h : BSt tips kd ws [] RR) (hs : kd.length ≤ 1000) (ht : tips ≤ 12) : WOk kd tips ws ∧ Red kd ws RR :=
  ⟨⟨h.kinds, hs, ht, fits_ne h.laid.fits, h.laid.fits⟩, h.red⟩
/-! ### a ring -/
def ringW (h M : Nat) (ns : List Int) (j : Nat) : Port × Port := (((h : Int) + (j : Int), 0), ((h : Int) + ((j : Int) + 1) % (M : Int), ns.getD ((j + 1) % M) 0))
def ringL (h : Nat) (ns : List Int) (j : Nat) : Port := ((h : Int) + (j : Int), 3 - ns.getD j 0)
theorem ring_ports (h : Nat) {ns : List Int} {M : Nat} (hM : M = 1 ∨ M = 2 ∨ M = 3) (hl : ns.length = M) (hn : ∀ x ∈ ns, x = 1 ∨ x = 2) :
    ((linksOf ((List.range M).map (ringW h M ns))).map Prod.fst ++ (List.range M).map (ringL h ns)).Perm ((List.range M).map fun (j : Nat) => [(((h + j : Nat) : Int), (0 : Int)), (((h + j : Nat) : Int), 1), (((h + j : Nat) : Int), 2)]).flatten := by
  have three : ∀ (c n : Int), (n = 1 ∨ n = 2) → ∀ r s : List Port, r.Perm s → ([(c, 0), (c, n), (c, 3 - n)] ++ r).Perm ([(c, (0 : Int)), (c, 1), (c, 2)] ++ s) := fun c n hn r s hp => by
    rcases hn with rfl | rfl
    · exact hp.append_left _
    · exact .cons _ ((List.Perm.swap _ _ _).trans (hp.append_left [(c, (1 : Int)), (c, 2)]))
  rcases hM with rfl | rfl | rfl
  · match ns, hl, hn with
    | [a], _, hn =>
      have ha := hn a (by simp)
      have := three (h : Int) a ha [] [] .nil
      simpa [linksOf, ringW, ringL] using this
  · match ns, hl, hn with
    | [a, b], _, hn =>
      have ha := hn a (by simp)
      have hb := hn b (by simp)
      have t := three (h : Int) a ha _ _ (three ((h : Int) + 1) b hb [] [] .nil)
      have g : ([((h : Int), (0 : Int)), ((h : Int) + 1, b), ((h : Int) + 1, 0), ((h : Int), a), ((h : Int), 3 - a), ((h : Int) + 1, 3 - b)] : List Port).Perm [((h : Int), 0), ((h : Int), a), ((h : Int), 3 - a), ((h : Int) + 1, 0), ((h : Int) + 1, b), ((h : Int) + 1, 3 - b)] :=
        List.Perm.map (fun i : Nat => ([((h : Int), (0 : Int)), ((h : Int), a), ((h : Int), 3 - a), ((h : Int) + 1, 0), ((h : Int) + 1, b), ((h : Int) + 1, 3 - b)] : List Port).getD i (0, 0)) (by decide : [0, 4, 3, 1, 2, 5].Perm [0, 1, 2, 3, 4, 5])
      have r := g.trans t
      simpa [linksOf, ringW, ringL, List.range_succ] using r
  · match ns, hl, hn with
    | [a, b, c], _, hn =>
      have ha := hn a (by simp)
      have hb := hn b (by simp)
      have hc := hn c (by simp)
      have t := three (h : Int) a ha _ _ (three ((h : Int) + 1) b hb _ _ (three ((h : Int) + 2) c hc [] [] .nil))
      have g : ([((h : Int), (0 : Int)), ((h : Int) + 1, b), ((h : Int) + 1, 0), ((h : Int) + 2, c), ((h : Int) + 2, 0), ((h : Int), a), ((h : Int), 3 - a), ((h : Int) + 1, 3 - b), ((h : Int) + 2, 3 - c)] : List Port).Perm
          [((h : Int), 0), ((h : Int), a), ((h : Int), 3 - a), ((h : Int) + 1, 0), ((h : Int) + 1, b), ((h : Int) + 1, 3 - b), ((h : Int) + 2, 0), ((h : Int) + 2, c), ((h : Int) + 2, 3 - c)] :=
        List.Perm.map (fun i : Nat => ([((h : Int), (0 : Int)), ((h : Int), a), ((h : Int), 3 - a), ((h : Int) + 1, 0), ((h : Int) + 1, b), ((h : Int) + 1, 3 - b), ((h : Int) + 2, 0), ((h : Int) + 2, c), ((h : Int) + 2, 3 - c)] : List Port).getD i (0, 0)) (by decide : [0, 4, 3, 7, 6, 1, 2, 5, 8].Perm [0, 1, 2, 3, 4, 5, 6, 7, 8])
      have r := g.trans t
      simpa [linksOf, ringW, ringL, List.range_succ] using r
theorem portsL_cols (tips : Nat) : ∀ (cs : List Str) (kd : List Str), (∀ x ∈ cs, ColS x) → portsL (kd ++ cs) tips = portsL kd tips ++ ((List.range cs.length).map fun (j : Nat) => [(((kd.length + j : Nat) : Int), (0 : Int)), (((kd.length + j : Nat) : Int), 1), (((kd.length + j : Nat) : Int), 2)]).flatten
  | [], kd, _ => by simp
  | x :: cs, kd, h => by
    have ih := portsL_cols tips cs (kd ++ [x]) fun y hy => h y (List.mem_cons_of_mem _ hy)
    rw [show kd ++ x :: cs = (kd ++ [x]) ++ cs by simp, ih, portsL_cons, cellPs_3 (h x List.mem_cons_self).ar, List.length_cons, List.range_succ_eq_map, List.map_cons, List.map_map, List.flatten_cons, List.append_assoc]
    congr 2
    congr 1
    refine List.map_congr_left fun j _ => ?_
    rw [List.length_append, List.length_singleton]
    show _ = [(((kd.length + (j + 1) : Nat) : Int), (0 : Int)), (((kd.length + (j + 1) : Nat) : Int), 1), (((kd.length + (j + 1) : Nat) : Int), 2)]
    rw [show kd.length + 1 + j = kd.length + (j + 1) by omega]
theorem BSt.ring {tips : Nat} {kd cs : List Str} {ws : List (Port × Port)} {lp : List Port} {RR : List (List Nat)} {ns : List Int} {M : Nat} (h : BSt tips kd ws lp RR) (hM : M = 1 ∨ M = 2 ∨ M = 3) (hcl : cs.length = M) (hcs : ∀ x ∈ cs, ColS x) (hl : ns.length = M) (hn : ∀ x ∈ ns, x = 1 ∨ x = 2) :
    BSt tips (kd ++ cs) (ws ++ (List.range M).map (ringW kd.length M ns)) (lp ++ (List.range M).map (ringL kd.length ns)) (RR ++ [(List.range M).map (kd.length + ·)]) := by
  have M0 : 0 < M := by omega
  have nv : ∀ i, i < M → ns.getD i 0 = 1 ∨ ns.getD i 0 = 2 := fun i hi => by
    rw [List.getD_eq_getElem?_getD, List.getElem?_eq_getElem (by omega)]
    exact hn _ (List.getElem_mem (by omega))
  have wj : ∀ j, j < M → ringW kd.length M ns j ∈ linksOf (ws ++ (List.range M).map (ringW kd.length M ns)) := fun j hj => links_in (List.mem_append.mpr (.inr (List.mem_map.mpr ⟨j, List.mem_range.mpr hj, rfl⟩)))
  have fl : (RR ++ [(List.range M).map (kd.length + ·)]).flatten = RR.flatten ++ (List.range M).map (kd.length + ·) := by simp
  have gl : ∀ i, i < M → ((List.range M).map (kd.length + ·)).getD i 0 = kd.length + i := fun i hi => by
    rw [List.getD_eq_getElem?_getD, List.getElem?_map, List.getElem?_range hi]
    rfl
  refine ⟨⟨?_⟩, fun y hy => ?_, ⟨fun c hc => ?_, fun l hl2 => ?_, ?_, fun c hc => ?_⟩, fun q hq => ?_⟩
  · rw [portsL_cols tips cs kd hcs, hcl, linksOf_append, List.map_append]
    refine List.Perm.trans ?_ (h.laid.perm.append (ring_ports kd.length hM hl hn))
    generalize (linksOf ws).map Prod.fst = A
    generalize (linksOf ((List.range M).map (ringW kd.length M ns))).map Prod.fst = B
    generalize (List.range M).map (ringL kd.length ns) = C
    rw [List.append_assoc, List.append_assoc]
    refine List.Perm.append_left _ ?_
    rw [← List.append_assoc, ← List.append_assoc]
    exact List.Perm.append_right _ List.perm_append_comm
  · rcases List.mem_append.mp hy with hy | hy
    · exact h.kinds y hy
    · exact (hcs y hy).kind
  · by_cases z : c < kd.length
    · obtain ⟨q, a, b, d⟩ := h.red.head c z
      refine ⟨q, links_mono a, b, d.imp (fun d => ?_) fun d => d⟩
      rw [fl]
      exact List.mem_append.mpr (.inl d)
    · rw [List.length_append, hcl] at hc
      have hj : c - kd.length < M := by omega
      have e := wj _ hj
      have e1 : ringW kd.length M ns (c - kd.length) = (((c : Int), 0), (ringW kd.length M ns (c - kd.length)).2) := by
        refine Prod.ext (Prod.ext ?_ rfl) rfl
        show (kd.length : Int) + ((c - kd.length : Nat) : Int) = (c : Int)
        omega
      rw [e1] at e
      refine ⟨_, e, .inr ?_, .inl ?_⟩
      · show 0 < ns.getD ((c - kd.length + 1) % M) 0
        rcases nv ((c - kd.length + 1) % M) (Nat.mod_lt _ M0) with y | y <;> (rw [y]; decide)
      · rw [fl]
        exact List.mem_append.mpr (.inr (List.mem_map.mpr ⟨c - kd.length, List.mem_range.mpr hj, by omega⟩))
  · rcases List.mem_append.mp hl2 with hl2 | hl2
    · refine ⟨(h.red.ring l hl2).1, fun i hi => ?_⟩
      obtain ⟨k, k0, hm⟩ := (h.red.ring l hl2).2 i hi
      obtain ⟨e, he, e2⟩ := List.mem_map.mp hm
      exact ⟨k, k0, List.mem_map.mpr ⟨e, links_mono he, e2⟩⟩
    · obtain rfl := List.mem_singleton.mp hl2
      rw [List.length_map, List.length_range]
      refine ⟨M0, fun i hi => ⟨ns.getD ((i + 1) % M) 0, ?_, List.mem_map.mpr ⟨_, wj i hi, ?_⟩⟩⟩
      · rcases nv _ (Nat.mod_lt (i + 1) M0) with y | y <;> omega
      · rw [gl i hi, gl _ (Nat.mod_lt _ M0)]
        show ((kd.length : Int) + (i : Int), (0 : Int), (kd.length : Int) + ((i : Int) + 1) % (M : Int), ns.getD ((i + 1) % M) 0) = _
        push_cast
        rfl
  · rw [fl]
    refine List.nodup_append.mpr ⟨h.red.nd, List.nodup_range.map _ fun a b hab z => hab (by omega), fun a ha b hb e => ?_⟩
    obtain ⟨j, _, rfl⟩ := List.mem_map.mp hb
    have := h.red.lt a ha
    omega
  · rw [fl] at hc
    rw [List.length_append, hcl]
    rcases List.mem_append.mp hc with hc | hc
    · have := h.red.lt c hc
      omega
    · obtain ⟨j, hj, rfl⟩ := List.mem_map.mp hc
      have := List.mem_range.mp hj
      omega
  · rcases List.mem_append.mp hq with hq | hq
    · exact h.free q hq
    · obtain ⟨j, hj, rfl⟩ := List.mem_map.mp hq
      refine .inr ?_
      show 0 < 3 - ns.getD j 0
      rcases nv j (List.mem_range.mp hj) with y | y <;> omega
end Me
namespace Me
open PySem PySem.Spec PyProof.Rows L2 Mc
variable {P : Program} {w : World} {K : PySem.W.Frag} {mg : Str → Option Value} {base : Heap}
theorem pop_takeE {Q : VK} {σ : L2.St} {G : Hp} {i : Nat} {b L : Addr} {n : Int} {xs : List V} (h0 : σ[0]? = some (some (.ref b))) (hi : σ[i]? = some (some (.ref L))) (hL : G L = some (.lst xs)) (hb : BoxAt G b n) (hn : n ≤ 900000000) (hLb : L ≠ b)
    (h1 : 0 < xs.length) (h2 : xs.length ≤ 100000)
    (q : ∀ k y G', k < xs.length → xs[k]? = some y → BoxAt G' b (n + 1) → G' L = some (.lst (xs.eraseIdx k)) → (∀ c, c ≠ b → c ≠ L → G' c = G c) → Q y G') :
    tBM K "list" rPopAt (tVar i) (tCons (tCallS spTake (fun _ => E0) (tCons (tVar 0) (tCons (tCB (Mc.rLen K) (tCons (tVar i) tNil)) tNil))) tNil) σ G Q := by
  refine ⟨_, hi, .inl ⟨rfl, _, SqL.of hL⟩, _, h0, _, hi, _, xs.length, rfl, .inl ⟨_, SqL.of hL, rfl⟩, b, n, _, rfl, hb, by omega, by omega, by omega, fun r G1 hr0 hr1 hB1 hf1 => ?_⟩
  have hk : r.toNat < xs.length := by omega
  refine ⟨L, xs, r, r.toNat, xs[r.toNat], rfl, rfl, (hf1 L hLb).trans hL, by omega, by omega, ?_, List.getElem?_eq_getElem hk, q r.toNat _ _ hk (List.getElem?_eq_getElem hk) (hB1.same (upd_ne hLb.symm)) upd_same fun c hc hc2 => (upd_ne hc2).trans (hf1 c hc)⟩
  have e : (if r < 0 then r + (xs.length : Int) else r) = r := if_neg (by omega)
  have e2 : (decide (0 ≤ r) && decide (r < (xs.length : Int))) = true := by rw [decide_eq_true hr0, decide_eq_true (by omega)]; rfl
  show (if (decide (0 ≤ (if r < 0 then r + (xs.length : Int) else r)) && decide ((if r < 0 then r + (xs.length : Int) else r) < (xs.length : Int))) = true then some (if r < 0 then r + (xs.length : Int) else r).toNat else none) = some r.toNat
  rw [e, if_pos e2]
end Me
namespace Me
open PySem PySem.Spec PyProof.Rows L2 Mc
variable {P : Program} {w : World} {K : PySem.W.Frag} {mg : Str → Option Value} {base : Heap}
/-! ### reduced nets as a law builds them -/
structure RdA (H : Hp) (b KA WA LA : Addr) : Prop where
  k : H KA = none
  w : H WA = none
  l : H LA = none
  kw : KA ≠ WA
  kl : KA ≠ LA
  wl : WA ≠ LA
structure RdV (H : Hp) (b KA WA LA : Addr) (m : Int) (kd : List Str) (ws : List (Port × Port)) (lp : List Port) (G : Hp) : Prop where
  ex : ∃ xs ls, G WA = some (.lst xs) ∧ Paired (WV G) xs ws ∧ G LA = some (.lst ls) ∧ Paired (PV G) ls lp
  kd : G KA = some (.lst (kd.map V.str))
  box : BoxAt G b m
  xb : XB [b] H G
section
variable {H G G' : Hp} {b KA WA LA : Addr} {m : Int} {kd : List Str} {ws : List (Port × Port)} {lp : List Port}
theorem RdV.up {m' : Int} (h : RdV H b KA WA LA m kd ws lp G) (e : m ≤ m') : RdV H b KA WA LA m' kd ws lp G := ⟨h.ex, h.kd, h.box.up e, h.xb⟩
theorem RdV.ext (h : RdV H b KA WA LA m kd ws lp G) (e : Ext G G') : RdV H b KA WA LA m kd ws lp G' := by
  obtain ⟨xs, ls, a1, a2, a3, a4⟩ := h.ex
  exact ⟨⟨xs, ls, e _ _ a1, wv_mono.paired e.t a2, e _ _ a3, pv_mono.paired e.t a4⟩, e _ _ h.kd, h.box.ext e, h.xb.trans (e.xb _)⟩
theorem RdV.take {m' : Int} (h : RdV H b KA WA LA m kd ws lp G) (hb : ∀ {p : Addr}, H p = none → p ≠ b) (A : RdA H b KA WA LA) (e : ∀ c, c ≠ b → G' c = G c) (hB : BoxAt G' b m') : RdV H b KA WA LA m' kd ws lp G' := by
  obtain ⟨xs, ls, a1, a2, a3, a4⟩ := h.ex
  have T := h.box.text (xb_of e)
  exact ⟨⟨xs, ls, (e _ (hb A.w)).trans a1, wv_mono.paired T a2, (e _ (hb A.l)).trans a3, pv_mono.paired T a4⟩, (e _ (hb A.k)).trans h.kd, hB, h.xb.trans (xb_of e)⟩
theorem RdV.kind {x : Str} (h : RdV H b KA WA LA m kd ws lp G) (hb : ∀ {p : Addr}, H p = none → p ≠ b) (A : RdA H b KA WA LA) : RdV H b KA WA LA m (kd ++ [x]) ws lp (upd G KA (.lst (kd.map V.str ++ [.str x]))) := by
  obtain ⟨xs, ls, a1, a2, a3, a4⟩ := h.ex
  have T := TExt.put (o := .lst (kd.map V.str ++ [.str x])) h.kd fun z => z
  refine ⟨⟨xs, ls, (upd_ne A.kw.symm).trans a1, wv_mono.paired T a2, (upd_ne A.kl.symm).trans a3, pv_mono.paired T a4⟩, ?_, h.box.same (upd_ne (hb A.k).symm), h.xb.putN A.k⟩
  rw [List.map_append]
  exact upd_same
theorem RdV.wire {xs : List V} {v : V} {e : Port × Port} (h : RdV H b KA WA LA m kd ws lp G) (hb : ∀ {p : Addr}, H p = none → p ≠ b) (A : RdA H b KA WA LA) (hx : G WA = some (.lst xs)) (hv : WV G v e) : RdV H b KA WA LA m kd (ws ++ [e]) lp (upd G WA (.lst (xs ++ [v]))) := by
  obtain ⟨xs', ls, a1, a2, a3, a4⟩ := h.ex
  rw [hx] at a1
  cases a1
  have T := TExt.put (o := .lst (xs ++ [v])) hx fun z => z
  exact ⟨⟨xs ++ [v], ls, upd_same, paired_snoc (wv_mono.paired T a2) (wv_mono T hv), (upd_ne A.wl.symm).trans a3, pv_mono.paired T a4⟩, (upd_ne A.kw).trans h.kd, h.box.same (upd_ne (hb A.w).symm), h.xb.putN A.w⟩
theorem RdV.left {ls : List V} {v : V} {p : Port} (h : RdV H b KA WA LA m kd ws lp G) (hb : ∀ {p : Addr}, H p = none → p ≠ b) (A : RdA H b KA WA LA) (hx : G LA = some (.lst ls)) (hv : PV G v p) : RdV H b KA WA LA m kd ws (lp ++ [p]) (upd G LA (.lst (ls ++ [v]))) := by
  obtain ⟨xs, ls', a1, a2, a3, a4⟩ := h.ex
  rw [hx] at a3
  cases a3
  have T := TExt.put (o := .lst (ls ++ [v])) hx fun z => z
  exact ⟨⟨xs, ls ++ [v], (upd_ne A.wl).trans a1, wv_mono.paired T a2, upd_same, paired_snoc (pv_mono.paired T a4) (pv_mono T hv)⟩, (upd_ne A.kl).trans h.kd, h.box.same (upd_ne (hb A.l).symm), h.xb.putN A.l⟩
/-- a place is drawn -/
theorem RdV.pop {ls : List V} {k : Nat} {y : V} {m' : Int} (h : RdV H b KA WA LA m kd ws lp G) (hb : ∀ {p : Addr}, H p = none → p ≠ b) (A : RdA H b KA WA LA) (hx : G LA = some (.lst ls)) (hy : ls[k]? = some y) (hB : BoxAt G' b m') (hl : G' LA = some (.lst (ls.eraseIdx k))) (hf : ∀ c, c ≠ b → c ≠ LA → G' c = G c) :
    ∃ p, PV G' y p ∧ lp.Perm (p :: lp.eraseIdx k) ∧ RdV H b KA WA LA m' kd ws (lp.eraseIdx k) G' := by
  obtain ⟨xs, ls', a1, a2, a3, a4⟩ := h.ex
  rw [hx] at a3
  cases a3
  obtain ⟨p, hp, hpv⟩ := paired_get2 a4 hy
  have T : TExt G G' := (XB.text (S := [b, LA]) (fun c o hc hco => (hf c (fun z => hc (by rw [z]; simp)) (fun z => hc (by rw [z]; simp))).trans hco) fun a ha o hao => by
    rcases List.mem_cons.mp ha with rfl | ha
    · obtain ⟨_, _, _, e2⟩ := h.box.some_
      rw [e2] at hao
      cases hao
      exact fun z => z
    · rw [List.mem_singleton.mp ha, hx] at hao
      cases hao
      exact fun z => z)
  exact ⟨p, pv_mono T hpv, perm_eraseIdx hp, ⟨xs, ls.eraseIdx k, (hf _ (hb A.w) A.wl).trans a1, wv_mono.paired T a2, hl, pv_mono.paired T (eraseIdx_paired k a4)⟩, (hf _ (hb A.k) A.kl).trans h.kd, hB, fun c o hc hco => (hf c (fun z => hc (by rw [z]; simp)) (ne_of_none hco A.l)).trans (h.xb c o hc hco)⟩
end
def spLawRed (K : PySem.W.Frag) : Sp := fun vs H Q _ => ∃ (b : Addr) (n most : Int) (tips rounds : Nat), vs = [.ref b, .int most, .int (tips : Int), .int (rounds : Int)] ∧ BoxAt H b n ∧ n ≤ 800000000 ∧ 0 ≤ most ∧ most ≤ 20 ∧ tips ≤ 12 ∧ rounds ≤ 5 ∧
  ∀ t ka wa kd xs ws RR H', H t = none → H ka = none → H wa = none → H' t = some (.tup [.ref ka, .ref wa]) → H' ka = some (.lst (kd.map V.str)) → H' wa = some (.lst xs) → Paired (WV H') xs ws → WOk kd tips ws → kd.length ≤ 100 → Red kd ws RR → RR.length = rounds → BoxAt H' b (n + 1000) → XB [b] H H' → Q (.ref t) H'
theorem col_pick {r : Int} (h0 : 0 ≤ r) (h1 : r < 2) : ∃ x, ColS x ∧ atI [V.str "red", V.str "blue"] r = some (.str x) := by
  have h2 : r = 0 ∨ r = 1 := by omega
  rcases h2 with rfl | rfl
  · exact ⟨"red", .inl rfl, rfl⟩
  · exact ⟨"blue", .inr rfl, rfl⟩
theorem atI_getD {ns : List Int} {i : Nat} (h : i < ns.length) : atI (ns.map V.int) (i : Int) = some (.int (ns.getD i 0)) := atI_nat (by
  rw [List.getElem?_map, List.getD_eq_getElem?_getD, List.getElem?_eq_getElem h]
  rfl)
theorem ok__law_reduced (T : Txt P w K mg) : FnR P w K mg base (L2.CX P w) 2 (He.ga K "_law_reduced") (spLawRed K) := by
  have G__law_take := ok__law_take (base := base) T
  obtain ⟨fd, F⟩ := T.f__law_reduced
  refine fnR_body F sc__law_reduced (F.bindsN (fun _ _ _ _ _ _ us hl => match us, hl with | [_, _, _, _], _ => rfl)) ?_ ?_
  · rintro vs H Q E ⟨b, n, most, tips, rounds, rfl, _⟩
    rfl
  · rintro cdv A outer s H vs Q E hr ⟨b, n, most, tips, rounds, rfl, hB, hn, hm0, hm1, ht, hro, q⟩
    refine ⟨_, (PSs.nox (Mc.pss_mid (Mc.ps_par3 (i := 4) (j := 5) (k := 6) (by rfl) sc__law_reduced.nd rfl rfl rfl (by decide) (by decide) (by decide) rfl rfl rfl (pa_cons (pe_lst pa_nil) (pa_cons (pe_lst pa_nil) (pa_cons (pe_lc (own := [("_law_end", 13)]) rfl sc__law_reduced.nd (pi_range1 (by rfl) T.m_range (pa_cons (pv 2) pa_nil)) (blkOk_by (own := [("_law_end", 13)]) (N := N__law_reduced) (sc := defScope s__law_reduced) (by decide +kernel)) (fun _ _ _ _ _ => (pg_name (i := 13) sc__law_reduced.nd rfl (Or.inl rfl))) (fun _ _ _ _ _ => pts_nil) (fun _ _ _ _ _ => (pe_tup (pa_cons (pe_un un_neg pe_int) (pa_cons (pv 13) pa_nil))))) pa_nil))) (by rfl))
      (Mc.pss_mid (ps_for PassesOwn.never rfl (pi_range1 (by rfl) T.m_range (pa_cons (pv 3) pa_nil)) (pg_name (i := 7) sc__law_reduced.nd rfl (Or.inl rfl))
      (Mc.pss_mid (ps_par (i := 8) (j := 9) (by rfl) sc__law_reduced.nd rfl rfl (by decide) rfl rfl (pa_cons (pe_op op_add pe_int (Mc.pe_callR G__law_take (hr.mono (by decide)) (by rfl) T.g__law_take T.k__law_take pass_no (pa_cons (pv 0) (pa_cons pe_int pa_nil)))) (pa_cons (pe_callB (call_len : CallR _ (.builtin "len") (Mc.rLen K)) (by rfl) T.m_len (by decide +kernel) (pa_cons (pv 4) pa_nil)) pa_nil)) (by rfl))
      (Mc.pss_mid (ps_setLc (i := 10) (own := [("_law_j", 11)]) rfl sc__law_reduced.nd rfl rfl (sw_true rfl rfl rfl (by decide +kernel)) (pi_range1 (by rfl) T.m_range (pa_cons (pv 8) pa_nil)) (blkOk_by (own := [("_law_j", 11)]) (N := N__law_reduced) (sc := defScope s__law_reduced) (by decide +kernel)) (fun _ _ _ _ _ => (pg_name (i := 11) sc__law_reduced.nd rfl (Or.inl rfl))) (fun _ _ _ _ _ => pts_nil) (fun _ _ _ _ _ => (pe_op op_add pe_int (Mc.pe_callR G__law_take (hr.mono (by decide)) (by rfl) T.g__law_take T.k__law_take pass_no (pa_cons (pv 0) (pa_cons pe_int pa_nil))))))
      (pss_one (ps_for PassesOwn.never rfl (pi_range1 (by rfl) T.m_range (pa_cons (pv 8) pa_nil)) (pg_name (i := 11) sc__law_reduced.nd rfl (Or.inl rfl))
      (Mc.pss_mid (ps_expr (pe_bm PySem.F.plainAttrs_list PySem.F.slot_list_append PySem.F.type_list_append mt_append (pv 4) (pa_cons (pe_ix (ix_list : IxR _ (rIxL K)) (pe_lst (pa_cons pe_str (pa_cons pe_str pa_nil))) (Mc.pe_callR G__law_take (hr.mono (by decide)) (by rfl) T.g__law_take T.k__law_take pass_no (pa_cons (pv 0) (pa_cons pe_int pa_nil))) (fun _ _ => rfl)) pa_nil) : PE _ _ (tBM K _ _ _ _)))
      (Mc.pss_mid (ps_expr (pe_bm PySem.F.plainAttrs_list PySem.F.slot_list_append PySem.F.type_list_append mt_append (pv 5) (pa_cons (pe_tup (pa_cons (pe_tup (pa_cons (pe_op op_add (pv 9) (pv 11)) (pa_cons pe_int pa_nil))) (pa_cons (pe_tup (pa_cons (pe_op op_add (pv 9) (pe_op op_mod (pe_op op_add (pv 11) pe_int) (pv 8))) (pa_cons (pe_ix (ix_list : IxR _ (rIxL K)) (pv 10) (pe_op op_mod (pe_op op_add (pv 11) pe_int) (pv 8)) (fun _ _ => rfl)) pa_nil))) pa_nil))) pa_nil) : PE _ _ (tBM K _ _ _ _)))
      (pss_one (ps_expr (pe_bm PySem.F.plainAttrs_list PySem.F.slot_list_append PySem.F.type_list_append mt_append (pv 6) (pa_cons (pe_tup (pa_cons (pe_op op_add (pv 9) (pv 11)) (pa_cons (pe_op op_sub pe_int (pe_ix (ix_list : IxR _ (rIxL K)) (pv 10) (pv 11) (fun _ _ => rfl))) pa_nil))) pa_nil) : PE _ _ (tBM K _ _ _ _)))))))))))
      (Mc.pss_mid (ps_for PassesOwn.never rfl (pi_range1 (by rfl) T.m_range (pa_cons (Mc.pe_callR G__law_take (hr.mono (by decide)) (by rfl) T.g__law_take T.k__law_take pass_no (pa_cons (pv 0) (pa_cons (pe_op op_add (pv 1) pe_int) pa_nil))) pa_nil)) (pg_name (i := 7) sc__law_reduced.nd rfl (Or.inl rfl))
      (pss_one (ps_if (pt_cmpR ((Mc.op_neP hr.units) : OpR _ _ (Mc.rNeP K)) (pv 6) (pe_lst pa_nil) (nomark _)) (Mc.pss_mid (ps_set (i := 9) sc__law_reduced.nd rfl (Or.inl rfl) (pe_callB (call_len : CallR _ (.builtin "len") (Mc.rLen K)) (by rfl) T.m_len (by decide +kernel) (pa_cons (pv 4) pa_nil)))
      (Mc.pss_mid (ps_expr (pe_bm PySem.F.plainAttrs_list PySem.F.slot_list_append PySem.F.type_list_append mt_append (pv 4) (pa_cons (pe_ix (ix_list : IxR _ (rIxL K)) (pe_lst (pa_cons pe_str (pa_cons pe_str pa_nil))) (Mc.pe_callR G__law_take (hr.mono (by decide)) (by rfl) T.g__law_take T.k__law_take pass_no (pa_cons (pv 0) (pa_cons pe_int pa_nil))) (fun _ _ => rfl)) pa_nil) : PE _ _ (tBM K _ _ _ _)))
      (Mc.pss_mid (ps_expr (pe_bm PySem.F.plainAttrs_list PySem.F.slot_list_append PySem.F.type_list_append mt_append (pv 5) (pa_cons (pe_tup (pa_cons (pe_bm PySem.F.plainAttrs_list PySem.F.slot_list_pop PySem.F.type_list_pop mt_popAt (pv 6) (pa_cons (Mc.pe_callR G__law_take (hr.mono (by decide)) (by rfl) T.g__law_take T.k__law_take pass_no (pa_cons (pv 0) (pa_cons (pe_callB (call_len : CallR _ (.builtin "len") (Mc.rLen K)) (by rfl) T.m_len (by decide +kernel) (pa_cons (pv 6) pa_nil)) pa_nil))) pa_nil) : PE _ _ (tBM K _ _ _ _)) (pa_cons (pe_tup (pa_cons (pv 9) (pa_cons pe_int pa_nil))) pa_nil))) pa_nil) : PE _ _ (tBM K _ _ _ _)))
      (pss_one (ps_set (i := 6) sc__law_reduced.nd rfl (Or.inl rfl) (pe_op op_cat (pv 6) (pe_lst (pa_cons (pe_tup (pa_cons (pv 9) (pa_cons pe_int pa_nil))) (pa_cons (pe_tup (pa_cons (pv 9) (pa_cons pe_int pa_nil))) pa_nil))))))))) pss_nil)))
      (Mc.pss_mid (ps_while PassesOwn.never (pt_cmpR ((Mc.op_neP hr.units) : OpR _ _ (Mc.rNeP K)) (pv 6) (pe_lst pa_nil) (nomark _))
      (Mc.pss_mid (ps_set (i := 12) sc__law_reduced.nd rfl (Or.inl rfl) (pe_bm PySem.F.plainAttrs_list PySem.F.slot_list_pop PySem.F.type_list_pop mt_popAt (pv 6) (pa_cons (Mc.pe_callR G__law_take (hr.mono (by decide)) (by rfl) T.g__law_take T.k__law_take pass_no (pa_cons (pv 0) (pa_cons (pe_callB (call_len : CallR _ (.builtin "len") (Mc.rLen K)) (by rfl) T.m_len (by decide +kernel) (pa_cons (pv 6) pa_nil)) pa_nil))) pa_nil) : PE _ _ (tBM K _ _ _ _)))
      (pss_one (ps_if (PW.pt (pw_or (pt_cmpR ((Mc.op_eqP hr.units) : OpR _ _ (Mc.rEqP K)) (pv 6) (pe_lst pa_nil) (nomark _)) (pw_or1 (pt_cmpR op_eq (Mc.pe_callR G__law_take (hr.mono (by decide)) (by rfl) T.g__law_take T.k__law_take pass_no (pa_cons (pv 0) (pa_cons pe_int pa_nil))) pe_int (nomark _))))) (Mc.pss_mid (ps_expr (pe_bm PySem.F.plainAttrs_list PySem.F.slot_list_append PySem.F.type_list_append mt_append (pv 4) (pa_cons pe_str pa_nil) : PE _ _ (tBM K _ _ _ _)))
      (pss_one (ps_expr (pe_bm PySem.F.plainAttrs_list PySem.F.slot_list_append PySem.F.type_list_append mt_append (pv 5) (pa_cons (pe_tup (pa_cons (pv 12) (pa_cons (pe_tup (pa_cons (pe_op op_sub (pe_callB (call_len : CallR _ (.builtin "len") (Mc.rLen K)) (by rfl) T.m_len (by decide +kernel) (pa_cons (pv 4) pa_nil)) pe_int) (pa_cons pe_int pa_nil))) pa_nil))) pa_nil) : PE _ _ (tBM K _ _ _ _))))) (pss_one (ps_expr (pe_bm PySem.F.plainAttrs_list PySem.F.slot_list_append PySem.F.type_list_append mt_append (pv 5) (pa_cons (pe_tup (pa_cons (pv 12) (pa_cons (pe_bm PySem.F.plainAttrs_list PySem.F.slot_list_pop PySem.F.type_list_pop mt_popAt (pv 6) (pa_cons (Mc.pe_callR G__law_take (hr.mono (by decide)) (by rfl) T.g__law_take T.k__law_take pass_no (pa_cons (pv 0) (pa_cons (pe_callB (call_len : CallR _ (.builtin "len") (Mc.rLen K)) (by rfl) T.m_len (by decide +kernel) (pa_cons (pv 6) pa_nil)) pa_nil))) pa_nil) : PE _ _ (tBM K _ _ _ _)) pa_nil))) pa_nil) : PE _ _ (tBM K _ _ _ _))))))))
      (pss_one (ps_ret (pe_tup (pa_cons (pv 4) (pa_cons (pv 5) pa_nil)))))))))), ?_⟩
    have new : ∀ {p : Addr}, H p = none → p ≠ b := fun {p} hp => (hB.ne hp).symm
    -- the lists
    refine ⟨fun τ G => ∃ KA WA LA, τ = [some (.ref b), some (.int most), some (.int (tips : Int)), some (.int (rounds : Int)), some (.ref KA), some (.ref WA), some (.ref LA), none, none, none, none, none, none, none] ∧ RdA H b KA WA LA ∧ RdV H b KA WA LA n [] [] ((List.range tips).map fun (k : Nat) => ((-1 : Int), (k : Int))) G, ?_, ?_⟩
    · refine ⟨(by show 0 ≤ sizeLine; decide), fun KA hKA => ⟨(by show 0 ≤ sizeLine; decide), fun WA hWA => ⟨_, rfl, _, rfl, by omega, by omega, fun LA hLA => lc_all walk_range PV pv_mono (fun (k : Nat) => ((-1 : Int), (k : Int))) hLA (by omega) (fun _ _ => trivial) ?_ ?_⟩⟩⟩
      · rintro i x G G' Qe hi hE ⟨rfl, hx⟩ q'
        obtain rfl := rng0 hx
        exact ⟨rfl, _, rfl, _, rfl, (by show 2 ≤ sizeLine; decide), fun t ht => q' _ _ (Ext.new ht) ⟨t, rfl, upd_same⟩⟩
      · rintro zs G hz hP hE
        rw [Int.toNat_natCast] at hP
        have E1 := Ext.new (o := .lst []) hKA
        have E2 := Ext.new (o := .lst []) hWA
        have EE := (E1.trans E2).trans hE
        exact ⟨_, _, _, rfl, KA, WA, LA, rfl, ⟨hKA, E1.fresh hWA, (E1.trans E2).fresh hLA, ne_of_none upd_same hWA, ne_of_none (E2 _ _ upd_same) hLA, ne_of_none upd_same hLA⟩, ⟨[], zs, hE _ _ upd_same, .nil, hz, hP⟩, hE _ _ (E2 _ _ upd_same), hB.ext EE, EE.xb _⟩
    rintro _ G1 ⟨KA, WA, LA, rfl, hA, hV1⟩
    -- the rings
    refine ⟨fun τ G => ∃ (y7 y8 y9 y10 y11 : Option V) (kd : List Str) (ws : List (Port × Port)) (lp : List Port) (RR : List (List Nat)), τ = [some (.ref b), some (.int most), some (.int (tips : Int)), some (.int (rounds : Int)), some (.ref KA), some (.ref WA), some (.ref LA), y7, y8, y9, y10, y11, none, none] ∧ BSt tips kd ws lp RR ∧ RR.length = rounds ∧ kd.length ≤ 3 * rounds ∧ lp.length ≤ tips + 3 * rounds ∧ RdV H b KA WA LA (n + 100) kd ws lp G, ?_, ?_⟩
    · refine ⟨_, rfl, _, rfl, by omega, by omega, for_it walk_range (fun i σ G => ∃ (y7 y8 y9 y10 y11 : Option V) (kd : List Str) (ws : List (Port × Port)) (lp : List Port) (RR : List (List Nat)), σ = [some (.ref b), some (.int most), some (.int (tips : Int)), some (.int (rounds : Int)), some (.ref KA), some (.ref WA), some (.ref LA), y7, y8, y9, y10, y11, none, none] ∧ BSt tips kd ws lp RR ∧ RR.length = i ∧ kd.length ≤ 3 * i ∧ lp.length ≤ tips + 3 * i ∧ RdV H b KA WA LA (n + 10 * (i : Int)) kd ws lp G)
        ⟨_, _, _, _, _, [], [], _, [], rfl, BSt.start tips, rfl, by simp, by simp, hV1.up (by omega)⟩ (fun _ _ _ _ _ => trivial) ?_ ?_⟩
      · rintro i z σ G2 G3 hi ⟨y7, y8, y9, y10, y11, kd, ws, lp, RR, rfl, hS, hRl, hkl, hll, hV⟩ ⟨rfl, hz⟩
        obtain rfl := rng0 hz
        rw [Int.toNat_natCast] at hi
        have hwl : ws.length ≤ 1600 := by
          have h1 := hS.laid.len
          have h2 := portsL_len kd tips
          omega
        -- many, here
        refine ⟨fun τ G => ∃ M : Nat, τ = [some (.ref b), some (.int most), some (.int (tips : Int)), some (.int (rounds : Int)), some (.ref KA), some (.ref WA), some (.ref LA), some (vI i), some (vI M), some (vI kd.length), y10, y11, none, none] ∧ (M = 1 ∨ M = 2 ∨ M = 3) ∧ RdV H b KA WA LA (n + 10 * (i : Int) + 1) kd ws lp G, ?_, ?_⟩
        · refine ⟨_, rfl, b, _, 3, rfl, hV.box, by omega, by decide, by decide, fun r G4 hr0 hr1 hB4 hf4 => ⟨_, _, rfl, rfl, _, rfl, _, kd.length, rfl, .inl ⟨_, SqL.of ((hf4 _ (new hA.k)).trans hV.kd), by rw [List.length_map]⟩, _, _, rfl, (1 + r).toNat, ?_, by omega, hV.take new hA hf4 hB4⟩⟩
          have e : V.int (1 + r) = vI (1 + r).toNat := by
            show V.int (1 + r) = V.int (((1 + r).toNat : Nat) : Int)
            rw [Int.toNat_of_nonneg (by omega)]
          rw [← e]
          rfl
        rintro _ G4 ⟨M, rfl, hM, hV4⟩
        have M0 : 0 < M := by omega
        have M3 : M ≤ 3 := by omega
        -- numbers
        refine ⟨fun τ G => ∃ (NB : Addr) (ns : List Int), τ = [some (.ref b), some (.int most), some (.int (tips : Int)), some (.int (rounds : Int)), some (.ref KA), some (.ref WA), some (.ref LA), some (vI i), some (vI M), some (vI kd.length), some (.ref NB), y11, none, none] ∧ H NB = none ∧ KA ≠ NB ∧ WA ≠ NB ∧ LA ≠ NB ∧ ns.length = M ∧ (∀ x ∈ ns, x = 1 ∨ x = 2) ∧ G NB = some (.lst (ns.map V.int)) ∧ RdV H b KA WA LA (n + 10 * (i : Int) + 4) kd ws lp G, ?_, ?_⟩
        · refine ⟨_, rfl, _, rfl, by omega, by omega, fun NB hNB => ?_⟩
          have hNH : H NB = none := xb_fresh hV4.box hV4.xb hNB
          have e1 : KA ≠ NB := ne_of_none hV4.kd hNB
          obtain ⟨xs, ls, a1, _, a3, _⟩ := hV4.ex
          have e2 : WA ≠ NB := ne_of_none a1 hNB
          have e3 : LA ≠ NB := ne_of_none a3 hNB
          refine lc_it walk_range (fun k G => ∃ ns : List Int, ns.length = k ∧ (∀ x ∈ ns, x = 1 ∨ x = 2) ∧ G NB = some (.lst (ns.map V.int)) ∧ RdV H b KA WA LA (n + 10 * (i : Int) + 1 + (k : Int)) kd ws lp G) ⟨[], rfl, (fun _ h => nomatch h), upd_same, (hV4.ext (Ext.new hNB)).up (by omega)⟩ (fun _ _ _ _ => trivial) ?_ ?_
          · rintro k x G5 G6 hk ⟨ns, hl, hns, gN, hV6⟩ ⟨rfl, hx⟩
            rw [Int.toNat_natCast] at hk
            refine ⟨rfl, ?_⟩
            refine ⟨_, rfl, b, _, 2, rfl, hV6.box, by omega, by decide, by decide, fun r G7 hr0 hr1 hB7 hf7 => ⟨_, _, rfl, rfl, _, (hf7 _ (new hNH)).trans gN, ?_, ns ++ [1 + r], ?_, ?_, ?_, ?_⟩⟩
            · rw [List.length_map]
              exact szl (by omega)
            · rw [List.length_append, hl]
              rfl
            · intro y hy
              rcases List.mem_append.mp hy with hy | hy
              · exact hns y hy
              · rw [List.mem_singleton.mp hy]
                omega
            · rw [List.map_append]
              exact upd_same
            · have hV7 := hV6.take new hA hf7 hB7
              obtain ⟨xs, ls, b1, b2, b3, b4⟩ := hV7.ex
              have TN := TExt.put (o := .lst (ns.map V.int ++ [.int (1 + r)])) ((hf7 _ (new hNH)).trans gN) fun z => z
              exact ⟨⟨xs, ls, (upd_ne e2).trans b1, wv_mono.paired TN b2, (upd_ne e3).trans b3, pv_mono.paired TN b4⟩, (upd_ne e1).trans hV7.kd, (hV7.box.same (upd_ne (new hNH).symm)).up (by push_cast; omega), hV7.xb.putN hNH⟩
          · rintro G5 ⟨ns, hl, hns, gN, hV5⟩
            rw [Int.toNat_natCast] at hl hV5
            exact ⟨NB, ns, rfl, hNH, e1, e2, e3, hl, hns, gN, hV5.up (by omega)⟩
        rintro _ G5 ⟨NB, ns, rfl, hNB, e1, e2, e3, hnl, hns, g5N, hV5⟩
        -- the cells of the ring
        refine ⟨_, rfl, _, rfl, by omega, by omega, for_it walk_range (fun j σ G => ∃ (y11 : Option V) (cs : List Str), σ = [some (.ref b), some (.int most), some (.int (tips : Int)), some (.int (rounds : Int)), some (.ref KA), some (.ref WA), some (.ref LA), some (vI i), some (vI M), some (vI kd.length), some (.ref NB), y11, none, none] ∧ cs.length = j ∧ (∀ x ∈ cs, ColS x) ∧ G NB = some (.lst (ns.map V.int)) ∧ RdV H b KA WA LA (n + 10 * (i : Int) + 4 + (j : Int)) (kd ++ cs) (ws ++ (List.range j).map (ringW kd.length M ns)) (lp ++ (List.range j).map (ringL kd.length ns)) G)
          ⟨_, [], rfl, rfl, (fun _ h => nomatch h), g5N, by simpa using hV5⟩ (fun _ _ _ _ _ => trivial) ?_ ?_⟩
        · rintro j z σ G6 G7 hj ⟨y11, cs, rfl, hcl, hcs, g7N, hV7⟩ ⟨rfl, hz⟩
          obtain rfl := rng0 hz
          rw [Int.toNat_natCast] at hj
          -- kind
          refine ⟨fun τ G => ∃ x : Str, τ = [some (.ref b), some (.int most), some (.int (tips : Int)), some (.int (rounds : Int)), some (.ref KA), some (.ref WA), some (.ref LA), some (vI i), some (vI M), some (vI kd.length), some (.ref NB), some (vI j), none, none] ∧ ColS x ∧ G NB = some (.lst (ns.map V.int)) ∧ RdV H b KA WA LA (n + 10 * (i : Int) + 5 + (j : Int)) (kd ++ (cs ++ [x])) (ws ++ (List.range j).map (ringW kd.length M ns)) (lp ++ (List.range j).map (ringL kd.length ns)) G, ?_, ?_⟩
          · refine ⟨_, rfl, .inl ⟨rfl, _, SqL.of hV7.kd⟩, (by show 2 ≤ sizeLine; decide), fun L hL => ?_⟩
            have EL := Ext.new (o := .lst [.str "red", .str "blue"]) hL
            have hV8 := hV7.ext EL
            refine ⟨_, rfl, b, _, 2, rfl, hV8.box, by omega, by decide, by decide, fun r G9 hr0 hr1 hB9 hf9 => ?_⟩
            obtain ⟨x, hx, hat⟩ := col_pick hr0 hr1
            have hLb : L ≠ b := (hV7.box.ne hL).symm
            have hV9 := hV8.take new hA hf9 hB9
            refine ⟨L, _, r, .str x, rfl, rfl, SqL.of ((hf9 L hLb).trans upd_same), hat, KA, _, .str x, rfl, rfl, hV9.kd, by rw [List.length_map, List.length_append]; exact szl (by omega), x, rfl, hx, ?_, ?_⟩
            · exact (upd_ne e1.symm).trans ((hf9 _ (new hNB)).trans (EL _ _ g7N))
            · rw [← List.append_assoc]
              exact (hV9.kind new hA).up (by omega)
          rintro _ G8 ⟨x, rfl, hx, g8N, hV8⟩
          have hmod : ((j : Int) + 1) % (M : Int) = (((j + 1) % M : Nat) : Int) := by push_cast; rfl
          have hml : (j + 1) % M < ns.length := by rw [hnl]; exact Nat.mod_lt _ M0
          -- wire
          refine ⟨fun τ G => τ = [some (.ref b), some (.int most), some (.int (tips : Int)), some (.int (rounds : Int)), some (.ref KA), some (.ref WA), some (.ref LA), some (vI i), some (vI M), some (vI kd.length), some (.ref NB), some (vI j), none, none] ∧ G NB = some (.lst (ns.map V.int)) ∧ RdV H b KA WA LA (n + 10 * (i : Int) + 5 + (j : Int)) (kd ++ (cs ++ [x])) (ws ++ (List.range (j + 1)).map (ringW kd.length M ns)) (lp ++ (List.range j).map (ringL kd.length ns)) G, ?_, ?_⟩
          · obtain ⟨xs, ls, a1, a2, a3, a4⟩ := hV8.ex
            have xsl : xs.length ≤ 100000 := by
              have h1 := Paired.length a2
              rw [List.length_append, List.length_map, List.length_range] at h1
              omega
            refine ⟨_, rfl, .inl ⟨rfl, _, SqL.of a1⟩, _, rfl, _, rfl, _, _, rfl, rfl, (by show 2 ≤ sizeLine; decide), fun ta hta => ?_⟩
            have E1 := Ext.new (o := .tup [.int ((kd.length : Int) + (j : Int)), .int 0]) hta
            refine ⟨_, rfl, _, rfl, _, _, rfl, rfl, _, rfl, _, _, rfl, rfl, (by show (0 : Int) < (M : Int); omega), _, _, rfl, rfl, _, rfl, _, rfl, _, _, rfl, rfl, _, rfl, _, _, rfl, rfl, (by show (0 : Int) < (M : Int); omega), NB, _, ((j : Int) + 1) % (M : Int), .int (ns.getD ((j + 1) % M) 0), rfl, rfl, SqL.of (E1 _ _ g8N), by rw [hmod]; exact atI_getD hml, (by show 2 ≤ sizeLine; decide), fun tb htb => ?_⟩
            have E2 := Ext.new (o := .tup [.int ((kd.length : Int) + ((j : Int) + 1) % (M : Int)), .int (ns.getD ((j + 1) % M) 0)]) htb
            refine ⟨(by show 2 ≤ sizeLine; decide), fun tc htc => ?_⟩
            have E3 := Ext.new (o := .tup [.ref ta, .ref tb]) htc
            have E13 := (E1.trans E2).trans E3
            refine ⟨WA, xs, .ref tc, rfl, rfl, E13 _ _ a1, szl (by omega), rfl, (upd_ne e2.symm).trans (E13 _ _ g8N), ?_⟩
            have hw := (hV8.ext E13).wire new hA (E13 _ _ a1) (v := .ref tc) (e := ringW kd.length M ns j) ⟨tc, ta, tb, rfl, upd_same, E3 _ _ (E2 _ _ upd_same), E3 _ _ upd_same⟩
            rw [show ws ++ (List.range (j + 1)).map (ringW kd.length M ns) = (ws ++ (List.range j).map (ringW kd.length M ns)) ++ [ringW kd.length M ns j] by rw [List.range_succ, List.map_append, List.append_assoc]; rfl]
            exact hw
          rintro _ G9 ⟨rfl, g9N, hV9⟩
          -- left
          obtain ⟨xs9, ls9, c1, c2, c3, c4⟩ := hV9.ex
          have lsl9 : ls9.length ≤ 100000 := by
            have h1 := Paired.length c4
            rw [List.length_append, List.length_map, List.length_range] at h1
            omega
          refine ⟨_, rfl, .inl ⟨rfl, _, SqL.of c3⟩, _, rfl, _, rfl, _, _, rfl, rfl, _, rfl, _, rfl, NB, _, (j : Int), .int (ns.getD j 0), rfl, rfl, SqL.of g9N, atI_getD (by omega), _, _, rfl, rfl, (by show 2 ≤ sizeLine; decide), fun ta hta => ?_⟩
          have E1 := Ext.new (o := .tup [.int ((kd.length : Int) + (j : Int)), .int (3 - ns.getD j 0)]) hta
          refine ⟨LA, ls9, .ref ta, rfl, rfl, E1 _ _ c3, szl (by omega), _, cs ++ [x], rfl, by rw [List.length_append, hcl]; rfl, fun y hy => ?_, (upd_ne e3.symm).trans (E1 _ _ g9N), ?_⟩
          · rcases List.mem_append.mp hy with hy | hy
            · exact hcs y hy
            · rw [List.mem_singleton.mp hy]
              exact hx
          · have hw := (hV9.ext E1).left new hA (E1 _ _ c3) (v := .ref ta) (p := ringL kd.length ns j) ⟨ta, rfl, upd_same⟩
            rw [show lp ++ (List.range (j + 1)).map (ringL kd.length ns) = (lp ++ (List.range j).map (ringL kd.length ns)) ++ [ringL kd.length ns j] by rw [List.range_succ, List.map_append, List.append_assoc]; rfl]
            exact hw.up (by push_cast; omega)
        · rintro σ G6 ⟨y11, cs, rfl, hcl, hcs, _, hV6⟩
          rw [Int.toNat_natCast] at hcl hV6
          refine ⟨_, _, _, _, y11, kd ++ cs, _, _, RR ++ [(List.range M).map (kd.length + ·)], rfl, hS.ring hM hcl hcs hnl hns, by rw [List.length_append, hRl]; rfl, by rw [List.length_append, hcl]; omega, by rw [List.length_append, List.length_map, List.length_range]; omega, hV6.up (by push_cast; omega)⟩
      · rintro σ G2 ⟨y7, y8, y9, y10, y11, kd, ws, lp, RR, rfl, hS, hRl, hkl, hll, hV⟩
        rw [Int.toNat_natCast] at hRl hkl hll hV
        exact ⟨y7, y8, y9, y10, y11, kd, ws, lp, RR, rfl, hS, hRl, hkl, hll, hV.up (by omega)⟩
    rintro _ G2 ⟨y7, y8, y9, y10, y11, kd, ws, lp, RR, rfl, hS, hRl, hkl, hll, hV2⟩
    -- the trees
    refine ⟨fun τ G => ∃ (LA : Addr) (y7 y9 : Option V) (kd : List Str) (ws : List (Port × Port)) (lp : List Port), τ = [some (.ref b), some (.int most), some (.int (tips : Int)), some (.int (rounds : Int)), some (.ref KA), some (.ref WA), some (.ref LA), y7, y8, y9, y10, y11, none, none] ∧ RdA H b KA WA LA ∧ BSt tips kd ws lp RR ∧ kd.length ≤ 35 ∧ lp.length ≤ 47 ∧ RdV H b KA WA LA (n + 200) kd ws lp G, ?_, ?_⟩
    · refine ⟨_, rfl, _, rfl, _, _, rfl, rfl, b, _, most + 1, rfl, hV2.box, by omega, by omega, by omega, fun r0 G3 hr0 hr1 hB3 hf3 => ⟨_, rfl, by omega, by omega, for_it walk_range (fun i σ G => ∃ (LA : Addr) (y7 y9 : Option V) (kd : List Str) (ws : List (Port × Port)) (lp : List Port), σ = [some (.ref b), some (.int most), some (.int (tips : Int)), some (.int (rounds : Int)), some (.ref KA), some (.ref WA), some (.ref LA), y7, y8, y9, y10, y11, none, none] ∧ RdA H b KA WA LA ∧ BSt tips kd ws lp RR ∧ kd.length ≤ 15 + i ∧ lp.length ≤ 27 + i ∧ RdV H b KA WA LA (n + 101 + 3 * (i : Int)) kd ws lp G)
        ⟨LA, _, _, kd, ws, lp, rfl, hA, hS, by omega, by omega, (hV2.take new hA hf3 hB3).up (by omega)⟩ (fun _ _ _ _ _ => trivial) ?_ ?_⟩⟩
      · clear hS hkl hll hV2 hA
        rintro i z σ G4 G5 hi ⟨LA, y7, y9, kd, ws, lp, rfl, hA, hS, hkl, hll, hV⟩ ⟨rfl, hz⟩
        obtain ⟨xs, ls, a1, a2, a3, a4⟩ := hV.ex
        have lsl : ls.length = lp.length := Paired.length a4
        have xsl : xs.length ≤ 1600 := by
          have h0 := Paired.length a2
          have h1 := hS.laid.len
          have h2 := portsL_len kd tips
          omega
        have hi2 : i ≤ 20 := by omega
        refine ⟨_, rfl, (by show 0 ≤ sizeLine; decide), fun L0 hL0 => ⟨.list (lp.map portD), .list [], .lst (SqL.of (Ext.new hL0 _ _ a3)) (dp_ports (pv_mono.paired (Ext.new hL0).t a4)), .lst (SqL.of upd_same) .nil, depth_ports lp, _, rfl, ?_⟩⟩
        have E0 := Ext.new (o := .lst []) hL0
        have hV0 := hV.ext E0
        rw [eqv_nil]
        by_cases c1 : lp.map portD = []
        · rw [decide_eq_true c1]
          exact iteF ⟨LA, _, _, kd, ws, lp, rfl, hA, hS, by omega, by omega, hV0.up (by push_cast; omega)⟩
        rw [decide_eq_false c1]
        refine iteT ?_
        have lp0 : 0 < lp.length := List.length_pos_iff.mpr fun z => c1 (by rw [z]; rfl)
        -- here
        refine ⟨fun τ G => τ = [some (.ref b), some (.int most), some (.int (tips : Int)), some (.int (rounds : Int)), some (.ref KA), some (.ref WA), some (.ref LA), some z, y8, some (vI kd.length), y10, y11, none, none] ∧ RdV H b KA WA LA (n + 101 + 3 * (i : Int)) kd ws lp G, ?_, ?_⟩
        · exact ⟨_, rfl, _, kd.length, rfl, .inl ⟨_, SqL.of hV0.kd, by rw [List.length_map]⟩, rfl, hV0⟩
        rintro _ G6 ⟨rfl, hV6⟩
        -- kind
        refine ⟨fun τ G => ∃ x : Str, τ = [some (.ref b), some (.int most), some (.int (tips : Int)), some (.int (rounds : Int)), some (.ref KA), some (.ref WA), some (.ref LA), some z, y8, some (vI kd.length), y10, y11, none, none] ∧ ColS x ∧ RdV H b KA WA LA (n + 101 + 3 * (i : Int) + 1) (kd ++ [x]) ws lp G, ?_, ?_⟩
        · refine ⟨_, rfl, .inl ⟨rfl, _, SqL.of hV6.kd⟩, (by show 2 ≤ sizeLine; decide), fun L hL => ?_⟩
          have EL := Ext.new (o := .lst [.str "red", .str "blue"]) hL
          have hV7 := hV6.ext EL
          refine ⟨_, rfl, b, _, 2, rfl, hV7.box, by omega, by decide, by decide, fun r G8 hq0 hq1 hB8 hf8 => ?_⟩
          obtain ⟨x, hx, hat⟩ := col_pick hq0 hq1
          have hLb : L ≠ b := (hV6.box.ne hL).symm
          have hV8 := hV7.take new hA hf8 hB8
          exact ⟨L, _, r, .str x, rfl, rfl, SqL.of ((hf8 L hLb).trans upd_same), hat, KA, _, .str x, rfl, rfl, hV8.kd, by rw [List.length_map]; exact szl (by omega), x, rfl, hx, hV8.kind new hA⟩
        rintro _ G7 ⟨x, rfl, hx, hV7⟩
        clear a1 a2 a3 a4 lsl hV hV0 hV6 xsl
        obtain ⟨xs, ls, a1, a2, a3, a4⟩ := hV7.ex
        have lsl : ls.length = lp.length := Paired.length a4
        have xsl : xs.length ≤ 1600 := by
          have h0 := Paired.length a2
          have h1 := hS.laid.len
          have h2 := portsL_len kd tips
          omega
        -- wire
        refine ⟨fun τ G => ∃ (p : Port) (k : Nat), τ = [some (.ref b), some (.int most), some (.int (tips : Int)), some (.int (rounds : Int)), some (.ref KA), some (.ref WA), some (.ref LA), some z, y8, some (vI kd.length), y10, y11, none, none] ∧ lp.Perm (p :: lp.eraseIdx k) ∧ RdV H b KA WA LA (n + 101 + 3 * (i : Int) + 2) (kd ++ [x]) (ws ++ [(p, ((kd.length : Int), 0))]) (lp.eraseIdx k) G, ?_, ?_⟩
        · refine ⟨_, rfl, .inl ⟨rfl, _, SqL.of a1⟩, pop_takeE (b := b) (L := LA) rfl rfl a3 hV7.box (by omega) (new hA.l) (by omega) (by omega) fun k y G8 hk hy hB8 h8 hf8 => ?_⟩
          obtain ⟨p, ⟨t, rfl, ht'⟩, hpm, hV8⟩ := hV7.pop new hA a3 hy hB8 h8 hf8
          refine ⟨_, rfl, (by show 2 ≤ sizeLine; decide), fun ta hta => ?_⟩
          have E1 := Ext.new (o := .tup [.int (kd.length : Int), .int 0]) hta
          refine ⟨(by show 2 ≤ sizeLine; decide), fun tc htc => ?_⟩
          have E2 := Ext.new (o := .tup [.ref t, .ref ta]) htc
          have EE := E1.trans E2
          have gW : G8 WA = some (.lst xs) := (hf8 _ (new hA.w) hA.wl).trans a1
          refine ⟨WA, xs, .ref tc, rfl, rfl, EE _ _ gW, szl (by omega), p, k, rfl, hpm, ?_⟩
          exact ((hV8.ext EE).wire new hA (EE _ _ gW) (v := .ref tc) (e := (p, ((kd.length : Int), 0))) ⟨tc, t, ta, rfl, upd_same, EE _ _ ht', E2 _ _ upd_same⟩).up (by omega)
        rintro _ G8 ⟨p, k, rfl, hpm, hV8⟩
        -- left
        obtain ⟨xs8, ls8, c1', c2, c3, c4⟩ := hV8.ex
        have ls8l : ls8.length = (lp.eraseIdx k).length := Paired.length c4
        have lel := hpm.length_eq
        rw [List.length_cons] at lel
        refine ⟨_, rfl, _, rfl, (by show 2 ≤ sizeLine; decide), fun ta hta => ?_⟩
        have E1 := Ext.new (o := .tup [.int (kd.length : Int), .int 1]) hta
        refine ⟨_, rfl, (by show 2 ≤ sizeLine; decide), fun tb htb => ?_⟩
        have E2 := Ext.new (o := .tup [.int (kd.length : Int), .int 2]) htb
        refine ⟨(by show 2 ≤ sizeLine; decide), fun L hL => ?_⟩
        have E3 := Ext.new (o := .lst [.ref ta, .ref tb]) hL
        have E13 := (E1.trans E2).trans E3
        refine ⟨LA, L, ls8, [.ref ta, .ref tb], rfl, rfl, E13 _ _ c3, upd_same, sze (by rw [List.length_cons, List.length_cons, List.length_nil]; omega), fun L2 hL2 => ?_⟩
        have E4 := Ext.new (o := .lst (ls8 ++ [.ref ta, .ref tb])) hL2
        have E14 := E13.trans E4
        have hV9 := hV8.ext E14
        have hL2H : H L2 = none := xb_fresh (hV8.ext E13).box (hV8.ext E13).xb hL2
        refine ⟨L2, _, _, kd ++ [x], ws ++ [(p, ((kd.length : Int), 0))], lp.eraseIdx k ++ [((kd.length : Int), 1), ((kd.length : Int), 2)], rfl, ⟨hA.k, hA.w, hL2H, hA.kw, ne_of_none ((hV8.ext E13).kd) hL2, ne_of_none (E13 _ _ c1') hL2⟩, hS.tree hpm hx, by rw [List.length_append, List.length_singleton]; omega, by rw [List.length_append, List.length_cons, List.length_singleton]; omega, ⟨⟨xs8, ls8 ++ [.ref ta, .ref tb], E14 _ _ c1', wv_mono.paired E14.t c2, upd_same, paired_append (pv_mono.paired E14.t c4) (.cons ⟨ta, rfl, ?_⟩ (.cons ⟨tb, rfl, ?_⟩ .nil))⟩, hV9.kd, hV9.box.up (by push_cast; omega), hV9.xb⟩⟩
        · exact E4 _ _ (E3 _ _ (E2 _ _ upd_same))
        · exact E4 _ _ (E3 _ _ upd_same)
      · rintro σ G3' ⟨LA, y7, y9, kd, ws, lp, rfl, hA, hS, hkl, hll, hV⟩
        exact ⟨LA, y7, y9, kd, ws, lp, rfl, hA, hS, by omega, by omega, hV.up (by omega)⟩
    clear hS hkl hll hV2 hA
    rintro _ G3 ⟨LA, y7, y9, kd, ws, lp, rfl, hA, hS, hkl, hll, hV3⟩
    -- what is left
    refine ⟨fun τ G => ∃ (y12 : Option V) (kd : List Str) (ws : List (Port × Port)), τ = [some (.ref b), some (.int most), some (.int (tips : Int)), some (.int (rounds : Int)), some (.ref KA), some (.ref WA), some (.ref LA), y7, y8, y9, y10, y11, y12, none] ∧ BSt tips kd ws [] RR ∧ kd.length ≤ 82 ∧ RdV H b KA WA LA (n + 400) kd ws [] G, ?_, ?_⟩
    · refine ⟨fun m σ G => ∃ (y12 : Option V) (kd : List Str) (ws : List (Port × Port)) (lp : List Port), σ = [some (.ref b), some (.int most), some (.int (tips : Int)), some (.int (rounds : Int)), some (.ref KA), some (.ref WA), some (.ref LA), y7, y8, y9, y10, y11, y12, none] ∧ m = lp.length ∧ BSt tips kd ws lp RR ∧ kd.length + lp.length ≤ 82 ∧ lp.length ≤ 47 ∧ RdV H b KA WA LA (n + 400 - 3 * (lp.length : Int)) kd ws lp G,
        ⟨_, none, kd, ws, lp, rfl, rfl, hS, by omega, hll, hV3.up (by omega)⟩, ?_⟩
      clear hS hkl hll hV3
      rintro m σ G4 ⟨y12, kd, ws, lp, rfl, rfl, hS, hkl, hll, hV⟩
      obtain ⟨xs, ls, a1, a2, a3, a4⟩ := hV.ex
      have lsl : ls.length = lp.length := Paired.length a4
      refine ⟨_, rfl, (by show 0 ≤ sizeLine; decide), fun L0 hL0 => ⟨.list (lp.map portD), .list [], .lst (SqL.of (Ext.new hL0 _ _ a3)) (dp_ports (pv_mono.paired (Ext.new hL0).t a4)), .lst (SqL.of upd_same) .nil, depth_ports lp, _, rfl, ?_⟩⟩
      have E0 := Ext.new (o := .lst []) hL0
      have hV0 := hV.ext E0
      rw [eqv_nil]
      by_cases c1 : lp.map portD = []
      · rw [decide_eq_true c1]
        have z : lp = [] := List.map_eq_nil_iff.mp c1
        subst z
        refine iteF ⟨y12, kd, ws, rfl, hS, by omega, hV0.up (by show n + 400 - 3 * ((0 : Nat) : Int) ≤ _; omega)⟩
      rw [decide_eq_false c1]
      have lp0 : 0 < lp.length := List.length_pos_iff.mpr fun z => c1 (by rw [z]; rfl)
      have g0L := E0 _ _ a3
      have g0W := E0 _ _ a1
      have xsl : xs.length ≤ 1600 := by
        have h0 := Paired.length a2
        have h1 := hS.laid.len
        have h2 := portsL_len kd tips
        omega
      refine iteT ⟨fun σ' G => ∃ (y12 : Option V) (kd' : List Str) (ws' : List (Port × Port)) (lp' : List Port), σ' = [some (.ref b), some (.int most), some (.int (tips : Int)), some (.int (rounds : Int)), some (.ref KA), some (.ref WA), some (.ref LA), y7, y8, y9, y10, y11, y12, none] ∧ lp'.length < lp.length ∧ BSt tips kd' ws' lp' RR ∧ kd'.length + lp'.length ≤ 82 ∧ lp'.length ≤ 47 ∧ RdV H b KA WA LA (n + 400 - 3 * (lp'.length : Int)) kd' ws' lp' G, ?_, ?_⟩
      · rintro σ' G' ⟨y12, kd', ws', lp', rfl, hlt, r1, r2, r3, r4⟩
        exact ⟨lp'.length, hlt, y12, kd', ws', lp', rfl, rfl, r1, r2, r3, r4⟩
      -- spot
      refine ⟨fun τ G => ∃ (t : Addr) (p : Port) (k : Nat), τ = [some (.ref b), some (.int most), some (.int (tips : Int)), some (.int (rounds : Int)), some (.ref KA), some (.ref WA), some (.ref LA), y7, y8, y9, y10, y11, some (.ref t), none] ∧ G t = some (.tup (vP p)) ∧ lp.Perm (p :: lp.eraseIdx k) ∧ G WA = some (.lst xs) ∧ RdV H b KA WA LA (n + 400 - 3 * (lp.length : Int) + 1) kd ws (lp.eraseIdx k) G, ?_, ?_⟩
      · refine pop_take (b := b) (L := LA) rfl rfl g0L hV0.box (by omega) (new hA.l) (by omega) (by omega) fun k y G5 hk hy hB5 h5 hf5 => ?_
        obtain ⟨p, ⟨t, rfl, ht'⟩, hpm, hV5⟩ := hV0.pop new hA g0L hy hB5 h5 hf5
        exact ⟨t, p, k, rfl, ht', hpm, (hf5 _ (new hA.w) hA.wl).trans g0W, hV5⟩
      clear hV hV0 a1 a2 a3 a4 g0L g0W lsl
      rintro _ G5 ⟨t, p, k, rfl, g5t, hpm, g5W, hV5⟩
      generalize hlq : lp.eraseIdx k = lq at hpm hV5
      have lql := hpm.length_eq
      rw [List.length_cons] at lql
      obtain ⟨xs', ls, a1, a2, a3, a4⟩ := hV5.ex
      have lsl : ls.length = lq.length := Paired.length a4
      refine ⟨_, rfl, (by show 0 ≤ sizeLine; decide), fun L1 hL1 => ⟨.list (lq.map portD), .list [], .lst (SqL.of (Ext.new hL1 _ _ a3)) (dp_ports (pv_mono.paired (Ext.new hL1).t a4)), .lst (SqL.of upd_same) .nil, depth_ports lq, _, rfl, ?_⟩⟩
      have E1 := Ext.new (o := .lst []) hL1
      have hV6 := hV5.ext E1
      have g6t := E1 _ _ g5t
      have g6W := E1 _ _ g5W
      rw [eqv_nil]
      by_cases c2 : lq.map portD = []
      · rw [decide_eq_true c2]
        refine iteT (iteT ?_)
        refine ⟨fun τ G' => τ = [some (.ref b), some (.int most), some (.int (tips : Int)), some (.int (rounds : Int)), some (.ref KA), some (.ref WA), some (.ref LA), y7, y8, y9, y10, y11, some (.ref t), none] ∧ G' t = some (.tup (vP p)) ∧ G' WA = some (.lst xs) ∧ RdV H b KA WA LA (n + 400 - 3 * (lp.length : Int) + 2) (kd ++ [("eraser" : Str)]) ws lq G', ?_, ?_⟩
        · exact ⟨_, rfl, .inl ⟨rfl, _, SqL.of (hV6).kd⟩, KA, _, .str "eraser", rfl, rfl, (hV6).kd, by rw [List.length_map]; exact szl (by omega), rfl, (upd_ne fun z => by have h := g6t; rw [z, (hV6).kd] at h; cases h).trans g6t, (upd_ne hA.kw.symm).trans g6W, ((hV6).kind new hA).up (by omega)⟩
        rintro _ G8 ⟨rfl, g8t, g8W, hV8⟩
        refine ⟨_, rfl, .inl ⟨rfl, _, SqL.of g8W⟩, _, rfl, _, rfl, _, kd.length + 1, rfl, .inl ⟨_, SqL.of hV8.kd, by rw [List.length_map, List.length_append]; rfl⟩, _, _, rfl, rfl, (by show 2 ≤ sizeLine; decide), fun ta hta => ⟨(by show 2 ≤ sizeLine; decide), fun tc htc => ?_⟩⟩
        have E8 := Ext.new (o := .tup [.int (((kd.length + 1 : Nat) : Int) - 1), .int 0]) hta
        have E9 := Ext.new (o := .tup [.ref t, .ref ta]) htc
        have E89 := E8.trans E9
        refine ⟨WA, xs, .ref tc, rfl, rfl, E89 _ _ g8W, szl (by omega), _, kd ++ [("eraser" : Str)], ws ++ [(p, ((kd.length : Int), 0))], lq, rfl, by omega, hS.eraser hpm, by rw [List.length_append, List.length_singleton]; omega, by omega, ((hV8.ext E89).wire new hA (E89 _ _ g8W) (v := .ref tc) (e := (p, ((kd.length : Int), 0))) ⟨tc, t, ta, rfl, upd_same, E89 _ _ g8t, ?_⟩).up (by omega)⟩
        have e : (((kd.length + 1 : Nat) : Int) - 1) = (kd.length : Int) := by omega
        exact (E9 _ _ upd_same).trans (by show some (HO.tup [V.int (((kd.length + 1 : Nat) : Int) - 1), .int 0]) = _; rw [e])

      · rw [decide_eq_false c2]
        have lq0 : 0 < lq.length := List.length_pos_iff.mpr fun z => c2 (by rw [z]; rfl)
        refine iteF ⟨_, rfl, b, _, 5, rfl, hV6.box, by omega, by decide, by decide, fun r G7 hr0 hr1 hB7 hf7 => ⟨rfl, _, rfl, ?_⟩⟩
        have hV7 := hV6.take new hA hf7 hB7
        have g7t : G7 t = some (.tup (vP p)) := (hf7 t (box_at hV6.box g6t fun _ z => nomatch z)).trans g6t
        have g7W : G7 WA = some (.lst xs) := (hf7 _ (new hA.w)).trans g6W
        by_cases c3 : V.int r = V.int 0
        · rw [decide_eq_true c3]
          refine iteT ?_
          refine ⟨fun τ G' => τ = [some (.ref b), some (.int most), some (.int (tips : Int)), some (.int (rounds : Int)), some (.ref KA), some (.ref WA), some (.ref LA), y7, y8, y9, y10, y11, some (.ref t), none] ∧ G' t = some (.tup (vP p)) ∧ G' WA = some (.lst xs) ∧ RdV H b KA WA LA (n + 400 - 3 * (lp.length : Int) + 2) (kd ++ [("eraser" : Str)]) ws lq G', ?_, ?_⟩
          · exact ⟨_, rfl, .inl ⟨rfl, _, SqL.of (hV7).kd⟩, KA, _, .str "eraser", rfl, rfl, (hV7).kd, by rw [List.length_map]; exact szl (by omega), rfl, (upd_ne fun z => by have h := g7t; rw [z, (hV7).kd] at h; cases h).trans g7t, (upd_ne hA.kw.symm).trans g7W, ((hV7).kind new hA).up (by omega)⟩
          rintro _ G8 ⟨rfl, g8t, g8W, hV8⟩
          refine ⟨_, rfl, .inl ⟨rfl, _, SqL.of g8W⟩, _, rfl, _, rfl, _, kd.length + 1, rfl, .inl ⟨_, SqL.of hV8.kd, by rw [List.length_map, List.length_append]; rfl⟩, _, _, rfl, rfl, (by show 2 ≤ sizeLine; decide), fun ta hta => ⟨(by show 2 ≤ sizeLine; decide), fun tc htc => ?_⟩⟩
          have E8 := Ext.new (o := .tup [.int (((kd.length + 1 : Nat) : Int) - 1), .int 0]) hta
          have E9 := Ext.new (o := .tup [.ref t, .ref ta]) htc
          have E89 := E8.trans E9
          refine ⟨WA, xs, .ref tc, rfl, rfl, E89 _ _ g8W, szl (by omega), _, kd ++ [("eraser" : Str)], ws ++ [(p, ((kd.length : Int), 0))], lq, rfl, by omega, hS.eraser hpm, by rw [List.length_append, List.length_singleton]; omega, by omega, ((hV8.ext E89).wire new hA (E89 _ _ g8W) (v := .ref tc) (e := (p, ((kd.length : Int), 0))) ⟨tc, t, ta, rfl, upd_same, E89 _ _ g8t, ?_⟩).up (by omega)⟩
          have e : (((kd.length + 1 : Nat) : Int) - 1) = (kd.length : Int) := by omega
          exact (E9 _ _ upd_same).trans (by show some (HO.tup [V.int (((kd.length + 1 : Nat) : Int) - 1), .int 0]) = _; rw [e])

        · rw [decide_eq_false c3]
          refine iteF ?_
          have g7L : G7 LA = some (.lst ls) := (hf7 _ (new hA.l)).trans (E1 _ _ a3)
          refine ⟨_, rfl, .inl ⟨rfl, _, SqL.of g7W⟩, _, rfl, pop_takeE (b := b) (L := LA) rfl rfl g7L hV7.box (by omega) (new hA.l) (by omega) (by omega) fun k2 y G8 hk hy hB8 h8 hf8 => ?_⟩
          obtain ⟨p2, ⟨t2, rfl, ht2⟩, hpm2, hV8⟩ := hV7.pop new hA g7L hy hB8 h8 hf8
          have l2 := hpm2.length_eq
          rw [List.length_cons] at l2
          have tb : t ≠ b := box_at hV7.box g7t fun _ z => nomatch z
          have tl : t ≠ LA := fun z => by rw [z, g7L] at g7t; cases g7t
          have g8t : G8 t = some (.tup (vP p)) := (hf8 t tb tl).trans g7t
          have g8W : G8 WA = some (.lst xs) := (hf8 _ (new hA.w) hA.wl).trans g7W
          refine ⟨(by show 2 ≤ sizeLine; decide), fun tc htc => ?_⟩
          have E9 := Ext.new (o := .tup [.ref t, .ref t2]) htc
          exact ⟨WA, xs, .ref tc, rfl, rfl, E9 _ _ g8W, szl (by omega), _, kd, ws ++ [(p, p2)], lq.eraseIdx k2, rfl, by omega, hS.pair (hpm.trans (.cons _ hpm2)), by omega, by omega, ((hV8.ext E9).wire new hA (E9 _ _ g8W) (v := .ref tc) (e := (p, p2)) ⟨tc, t, t2, rfl, upd_same, E9 _ _ g8t, E9 _ _ ht2⟩).up (by omega)⟩
    rintro _ G4 ⟨y12, kd, ws, rfl, hS, hkl, hV4⟩
    obtain ⟨hW, hR⟩ := hS.stop (by omega) ht
    obtain ⟨xs, ls, a1, a2, a3, a4⟩ := hV4.ex
    refine ⟨_, rfl, _, rfl, (by show 2 ≤ sizeLine; decide), fun t ht' => ?_⟩
    have E := Ext.new (o := .tup [.ref KA, .ref WA]) ht'
    exact q t KA WA kd xs ws RR _ (xb_fresh hV4.box hV4.xb ht') hA.k hA.w upd_same (E _ _ hV4.kd) (E _ _ a1) (wv_mono.paired E.t a2) hW (by omega) hR hRl ((hV4.box.ext E).up (by omega)) (hV4.xb.trans (E.xb _))
end Me
namespace Me
open PySem PySem.Spec PyProof.Rows L2 Mc
variable {P : Program} {w : World} {K : PySem.W.Frag} {mg : Str → Option Value} {base : Heap}
/-- in a net's wires the one port comes before the other -/
theorem act_ord {N : NetD} (ok : NetOk N) {e : Port × Port} (he : e ∈ N.ws) : 0 ≤ e.1.2 ∧ 0 ≤ e.2.2 ∧ (0 ≤ e.1.1 → 0 ≤ e.2.1 ∧ e.1.1 ≤ e.2.1) := by
  obtain ⟨h1, h2⟩ := ok.mem_ws.mp he
  have p1 := ok.port h1
  have p2 := ok.port2 h1
  rw [pLt_iff] at h2
  refine ⟨?_, ?_, fun h => ?_⟩
  · rcases p1 with ⟨_, h, _⟩ | ⟨_, _, h, _⟩ <;> exact h
  · rcases p2 with ⟨_, h, _⟩ | ⟨_, _, h, _⟩ <;> exact h
  · omega
/-- heads on both sides -/
def hdB (e : Port × Port) : Bool := decide (0 ≤ e.1.1) && (decide (0 ≤ e.2.1) && decide (e.1.2 + e.2.2 = 0))
theorem hdB_swap (e : Port × Port) : hdB (e.2, e.1) = hdB e := by
  rw [Bool.eq_iff_iff]
  unfold hdB
  simp only [Bool.and_eq_true, decide_eq_true_eq]
  omega
theorem plc_nonneg (o : List Nat) (c : Int) : 0 ≤ plc o c ↔ 0 ≤ c := by
  unfold plc
  split <;> omega
theorem hdB_ren (o : List Nat) (e : Port × Port) : hdB (renE o e) = hdB e := by
  rw [Bool.eq_iff_iff]
  unfold hdB
  simp only [Bool.and_eq_true, decide_eq_true_eq]
  show (0 ≤ plc o e.1.1 ∧ 0 ≤ plc o e.2.1 ∧ e.1.2 + e.2.2 = 0) ↔ _
  rw [plc_nonneg, plc_nonneg]
theorem act_hd {N : NetD} (ok : NetOk N) {e : Port × Port} (he : e ∈ N.ws) : actB e = hdB e := by
  obtain ⟨o1, o2, o3⟩ := act_ord ok he
  rw [Bool.eq_iff_iff]
  unfold actB hdB
  simp only [Bool.and_eq_true, decide_eq_true_eq]
  constructor
  · rintro ⟨a, b, c⟩
    exact ⟨a, (o3 a).1, by omega⟩
  · rintro ⟨a, b, c⟩
    exact ⟨a, by omega, by omega⟩
theorem actL_len {N : NetD} (ok : NetOk N) : (actL N.ws).length = (N.ws.filter hdB).length := by
  have h : ∀ l : List (Port × Port), (∀ e ∈ l, e ∈ N.ws) → (l.filterMap actF).length = (l.filter hdB).length := by
    intro l
    induction l with
    | nil => intro _; rfl
    | cons e l ih =>
      intro hl
      have ih := ih fun u hu => hl u (List.mem_cons_of_mem _ hu)
      have e1 := act_hd ok (hl e List.mem_cons_self)
      rw [List.filterMap_cons, List.filter_cons, ← e1]
      unfold actF
      cases actB e with
      | true => simp only [if_true, List.length_cons]; exact congrArg Nat.succ ih
      | false => simp only [Bool.false_eq_true, if_false]; exact ih
  exact h N.ws fun _ h => h
end Me
namespace Me
open PySem PySem.Spec PyProof.Rows L2 Mc
variable {P : Program} {w : World} {K : PySem.W.Frag} {mg : Str → Option Value} {base : Heap}
/-! ### cycles, from a cell that comes again -/
theorem on_cyc {led : Nat → Option Nat} {c : Nat} (h : OnC led c) : ∃ l, Cyc led l ∧ c ∈ l := by
  obtain ⟨t, ⟨ht, e⟩, hmin⟩ : ∃ t, (0 < t ∧ it led t c = some c) ∧ ∀ s, s < t → ¬ (0 < s ∧ it led s c = some c) := by
    obtain ⟨t, h⟩ := h
    induction t using Nat.strongRecOn with
    | _ t ih =>
      by_cases z : ∃ s, s < t ∧ (0 < s ∧ it led s c = some c)
      · obtain ⟨s, hs, h2⟩ := z
        exact ih s hs h2
      · exact ⟨t, h, fun s hs h2 => z ⟨s, hs, h2⟩⟩
  have some_ : ∀ i, i ≤ t → ∃ d, it led i c = some d := fun i hi => by
    cases z : it led i c with
    | some d => exact ⟨d, rfl⟩
    | none =>
      rw [show t = i + (t - i) by omega, it_add, z] at e
      cases e
  have gd : ∀ i, i < t → ((List.range t).map fun i => (it led i c).getD 0).getD i 0 = (it led i c).getD 0 := fun i hi => by
    rw [List.getD_eq_getElem?_getD, List.getElem?_map, List.getElem?_range hi]
    rfl
  have inj : ∀ i j, i < j → j < t → it led i c ≠ it led j c := fun i j hij hj z => by
    have h1 : it led (i + (t - j)) c = some c := by
      rw [it_add, z, ← it_add, show j + (t - j) = t by omega]
      exact e
    exact hmin (i + (t - j)) (by omega) ⟨by omega, h1⟩
  refine ⟨(List.range t).map fun i => (it led i c).getD 0, ⟨by rw [List.length_map, List.length_range]; exact ht, ?_, fun i hi => ?_⟩, ?_⟩
  · refine map_nodup_on List.nodup_range fun i hi j hj z => ?_
    have hi := List.mem_range.mp hi
    have hj := List.mem_range.mp hj
    obtain ⟨a, ha⟩ := some_ i (by omega)
    obtain ⟨b, hb⟩ := some_ j (by omega)
    rw [ha, hb] at z
    have z : a = b := z
    rcases Nat.lt_trichotomy i j with y | y | y
    · exact absurd (by rw [ha, hb, z]) (inj i j y hj)
    · exact y
    · exact absurd (by rw [ha, hb, z]) (inj j i y hi)
  · rw [List.length_map, List.length_range] at hi ⊢
    rw [gd i hi, gd _ (Nat.mod_lt _ ht)]
    obtain ⟨a, ha⟩ := some_ i (by omega)
    obtain ⟨b, hb⟩ := some_ (i + 1) (by omega)
    have hb' := hb
    rw [show it led (i + 1) c = (it led i c).bind led from rfl, ha] at hb'
    have hb' : led a = some b := hb'
    rw [ha]
    show led a = _
    rw [hb']
    by_cases z : i + 1 < t
    · rw [Nat.mod_eq_of_lt z, hb]
      rfl
    · have z : i + 1 = t := by omega
      rw [z, Nat.mod_self]
      rw [z, e] at hb
      exact hb.symm
  · exact List.mem_map.mpr ⟨0, List.mem_range.mpr ht, rfl⟩
theorem min_at {l : List Nat} (h : 0 < l.length) : ∃ k, k < l.length ∧ ∀ c ∈ l, l.getD k 0 ≤ c := by
  have : ∃ m ∈ l, ∀ c ∈ l, m ≤ c := by
    induction l with
    | nil => exact absurd h (Nat.not_lt_zero 0)
    | cons a l ih =>
      by_cases z : 0 < l.length
      · obtain ⟨m, hm, hmin⟩ := ih z
        by_cases y : a ≤ m
        · refine ⟨a, List.mem_cons_self, fun c hc => ?_⟩
          rcases List.mem_cons.mp hc with rfl | hc
          · exact Nat.le_refl _
          · exact Nat.le_trans y (hmin c hc)
        · refine ⟨m, List.mem_cons_of_mem _ hm, fun c hc => ?_⟩
          rcases List.mem_cons.mp hc with rfl | hc
          · omega
          · exact hmin c hc
      · have : l = [] := List.length_eq_zero_iff.mp (by omega)
        subst this
        refine ⟨a, List.mem_cons_self, fun c hc => ?_⟩
        rw [List.mem_singleton.mp hc]
        exact Nat.le_refl _
  obtain ⟨m, hm, hmin⟩ := this
  obtain ⟨k, hk, rfl⟩ := mem_getD hm
  exact ⟨k, hk, hmin⟩
theorem on_ring {led : Nat → Option Nat} {c : Nat} (h : OnC led c) : ∃ l, Ring led l ∧ c ∈ l := by
  obtain ⟨l, hl, hc⟩ := on_cyc h
  obtain ⟨k, hk, hm⟩ := min_at hl.pos
  exact ⟨_, hl.ring hk hm, (rot_perm l k).mem_iff.mpr hc⟩
/-! ### the law's rings -/
structure DSt (N : NetD) (u : Nat) (fs : List (List Nat)) : Prop where
  ring : ∀ l ∈ fs, Ring (ledN N) l ∧ l.getD 0 0 < u ∧ ∀ c ∈ l, c < N.kd.length
  all : ∀ l, Ring (ledN N) l → l.getD 0 0 < u → l ∈ fs
  nd : fs.flatten.Nodup
theorem DSt.start (N : NetD) : DSt N 0 [] := ⟨fun l h => (nomatch h), fun l _ h => absurd h (Nat.not_lt_zero _), List.nodup_nil⟩
theorem DSt.add {N : NetD} {u : Nat} {fs : List (List Nat)} {p : List Nat} (h : DSt N u fs) (hp : Ring (ledN N) p) (h0 : p.getD 0 0 = u) (lt : ∀ c ∈ p, c < N.kd.length) : DSt N (u + 1) (fs ++ [p]) := by
  refine ⟨fun l hl => ?_, fun l hl hu => ?_, ?_⟩
  · rcases List.mem_append.mp hl with hl | hl
    · obtain ⟨a, b, c⟩ := h.ring l hl
      exact ⟨a, by omega, c⟩
    · rw [List.mem_singleton.mp hl]
      exact ⟨hp, by omega, lt⟩
  · by_cases z : l.getD 0 0 < u
    · exact List.mem_append.mpr (.inl (h.all l hl z))
    · have e : l.getD 0 0 = p.getD 0 0 := by omega
      have := hl.uniq hp (getD_mem hl.cyc.pos) (by rw [e]; exact getD_mem hp.cyc.pos)
      exact List.mem_append.mpr (.inr (List.mem_singleton.mpr this))
  · rw [List.flatten_append, show [p].flatten = p by simp]
    refine List.nodup_append.mpr ⟨h.nd, hp.cyc.nd, fun a ha b hb e => ?_⟩
    obtain ⟨l, hl, hal⟩ := List.mem_flatten.mp ha
    obtain ⟨r1, r2, _⟩ := h.ring l hl
    have := r1.uniq hp hal (by rw [e]; exact hb)
    rw [this] at r2
    omega
theorem DSt.skip {N : NetD} {u : Nat} {fs : List (List Nat)} (h : DSt N u fs) (no : ∀ l, Ring (ledN N) l → l.getD 0 0 ≠ u) : DSt N (u + 1) fs :=
  ⟨fun l hl => by obtain ⟨a, b, c⟩ := h.ring l hl; exact ⟨a, by omega, c⟩, fun l hl hu => h.all l hl (by have := no l hl; omega), h.nd⟩
theorem DSt.stop {N : NetD} {fs : List (List Nat)} (ok : NetOk N) (h : DSt N N.kd.length fs) : RingsOf N fs := by
  refine ⟨fun l hl => (h.ring l hl).1, h.nd, fun c hc => ⟨fun ho => ?_, fun ⟨l, hl, hcl⟩ => (h.ring l hl).1.cyc.on hcl⟩, fun l hl => (h.ring l hl).2.2⟩
  obtain ⟨l, hl, hcl⟩ := on_ring ho
  refine ⟨l, h.all l hl ?_, hcl⟩
  obtain ⟨i, hi, e⟩ := mem_getD hcl
  have st : Stays (ledN N) (fun x => x < N.kd.length) := fun x y hx e => led_lt ok hx e
  have h1 := hl.cyc.it hi (l.length - i)
  rw [show i + (l.length - i) = l.length by omega, Nat.mod_self, e] at h1
  exact closed_it st _ hc h1
theorem DSt.few {N : NetD} {u : Nat} {fs : List (List Nat)} (h : DSt N u fs) : fs.length ≤ N.kd.length := by
  have h1 := flat_len fun l hl => (h.ring l hl).1.cyc.pos
  have h2 := nodup_len (n := N.kd.length) h.nd fun c hc => by
    obtain ⟨l, hl, hcl⟩ := List.mem_flatten.mp hc
    exact (h.ring l hl).2.2 c hcl
  omega
/-- the path from u back to u is the ring from u, if there is one -/
theorem path_ring {led : Nat → Option Nat} {u : Nat} {p : List Nat} {c : Option Nat} (h : Path led u p c) (h0 : 0 < p.length) (hc : ∀ d, c = some d → d ∈ p) {l : List Nat} (hl : Ring led l) (hu : l.getD 0 0 = u) : c = some u ∧ ∀ x ∈ p, u ≤ x := by
  have hul : u ∈ l := by rw [← hu]; exact getD_mem hl.cyc.pos
  have ho : OnC led u := hl.cyc.on hul
  have hh := h.head h0
  have out := h.out h0
  rw [hh] at out
  cases z : c with
  | none => exact (on_none ho (out.trans z)).elim
  | some d =>
    obtain ⟨j, hj, e⟩ := mem_getD (hc d z)
    rw [z, ← e] at h
    have hd : u ∈ p.drop j := h.cyc_on hj (by rw [← hh]; exact getD_mem h0) ho
    have j0 : j = 0 := by
      obtain ⟨i, hi, e2⟩ := mem_getD hd
      rw [List.length_drop] at hi
      rw [List.getD_eq_getElem?_getD, List.getElem?_drop, ← List.getD_eq_getElem?_getD, ← hh] at e2
      have := getD_nd h.nd (by omega) h0 e2
      omega
    subst j0
    have cy := h.cyc hj
    rw [List.drop_zero] at cy
    have du : d = u := by rw [← e, hh]
    rw [du]
    refine ⟨rfl, fun x hx => ?_⟩
    rw [← hu]
    exact hl.least x (cy.sub hl.cyc (by rw [← hh]; exact getD_mem h0) hul x hx)
theorem ring_path {led : Nat → Option Nat} {u : Nat} {p : List Nat} (h : Path led u p (some u)) (h0 : 0 < p.length) (hm : ∀ x ∈ p, u ≤ x) : Ring led p := by
  have hh := h.head h0
  have h' := h
  rw [← hh] at h'
  have cy := h'.cyc h0
  rw [List.drop_zero] at cy
  exact ⟨cy, fun x hx => by rw [hh]; exact hm x hx⟩
def encO : Option Nat → Int
  | some c => (c : Int)
  | none => -1
theorem raw_ac {N : NetD} (ok : NetOk N) (W : WOk N.kd N.ends N.ws) {p : Port} (h : isPort N.kd N.ends p) : (p, acOf N.es p) ∈ linksOf N.ws := by
  have h1 : (p, (mkG N.kd N.ends (linksOf N.ws)).ac p) ∈ linksOf N.ws := W.mem.mpr ⟨h, rfl⟩
  have h2 : (p, (mkG N.kd N.ends (linksOf N.ws)).ac p) ∈ N.es := by
    generalize (mkG N.kd N.ends (linksOf N.ws)).ac p = r at h1 ⊢
    unfold linksOf at h1
    obtain ⟨l, hl, he⟩ := List.mem_flatten.mp h1
    obtain ⟨u, hu, rfl⟩ := List.mem_map.mp hl
    have h3 := (ok.mem_ws.mp hu).1
    rcases List.mem_cons.mp he with e | he
    · rw [e]
      exact h3
    · rw [List.mem_singleton.mp he]
      exact ok.sym _ h3
  rw [acOf_mem ok.nodup h2]
  exact h1
def spDue (K : PySem.W.Frag) : Sp := fun vs H Q _ => ∃ (x : Addr) (N : NetD), vs = [.ref x] ∧ NetV K H x N ∧ NetOk N ∧ WOk N.kd N.ends N.ws ∧
  ∀ (t : Addr) (us : List V) (L : List (List Nat)) H', H' t = some (.tup us) → Paired (RV H') us (L.mergeSort (PySem.W.dataLe false ringD)) → RingsOf N L → L.length ≤ N.kd.length → Ext H H' → Q (.ref t) H'
theorem ok__law_due (T : Txt P w K mg) : FnR P w K mg base (L2.CX P w) 3 (He.ga K "_law_due") (spDue K) := by
  have G__law_across := ok__law_across (base := base) T
  obtain ⟨fd, F⟩ := T.f__law_due
  refine fnR_body F sc__law_due (F.bindsN (fun _ _ _ _ _ _ us hl => match us, hl with | [_], _ => rfl)) ?_ ?_
  · rintro vs H Q E ⟨x, N, rfl, _⟩
    rfl
  · rintro cdv A outer s H vs Q E hr ⟨x, N, rfl, hN, ok, W, q⟩
    refine ⟨_, (PSs.nox (Mc.pss_mid (ps_par (i := 1) (j := 2) (by rfl) sc__law_due.nd rfl rfl (by decide) rfl rfl (pa_cons (Mc.pe_callR G__law_across (hr.mono (by decide)) (by rfl) T.g__law_across T.k__law_across pass_no (pa_cons (pe_fld (pv 0) rfl : PE _ _ (tFld K _ _)) pa_nil)) (pa_cons (pe_lst pa_nil) pa_nil)) (by rfl))
      (Mc.pss_mid (ps_for PassesOwn.never rfl (pi_range1 (by rfl) T.m_range (pa_cons (pe_callB (call_len : CallR _ (.builtin "len") (Mc.rLen K)) (by rfl) T.m_len (by decide +kernel) (pa_cons (pe_fld (pv 0) rfl : PE _ _ (tFld K _ _)) pa_nil)) pa_nil)) (pg_name (i := 3) sc__law_due.nd rfl (Or.inl rfl))
      (Mc.pss_mid (ps_par (i := 4) (j := 5) (by rfl) sc__law_due.nd rfl rfl (by decide) rfl rfl (pa_cons (pe_lst pa_nil) (pa_cons (pv 3) pa_nil)) (by rfl))
      (Mc.pss_mid (ps_while PassesOwn.never (PW.pt (pw_and (pt_cmpR op_ge (pv 5) pe_int (nomark _)) (pw_and1 (pt_cmpR (op_notIn_seq : OpR _ _ (rIn K true)) (pv 5) (pv 4) (by rfl)))))
      (Mc.pss_mid (ps_expr (pe_bm PySem.F.plainAttrs_list PySem.F.slot_list_append PySem.F.type_list_append mt_append (pv 4) (pa_cons (pv 5) pa_nil) : PE _ _ (tBM K _ _ _ _)))
      (Mc.pss_mid (ps_set (i := 6) sc__law_due.nd rfl (Or.inl rfl) (pe_dget (hu_of hr) (pv 1) (pe_tup (pa_cons (pv 5) (pa_cons pe_int pa_nil))) (fun _ _ => rfl)))
      (pss_one (ps_set (i := 5) sc__law_due.nd rfl (Or.inl rfl) (pe_ix (ix_list : IxR _ (rIxL K)) (pe_lst (pa_cons (pe_un un_neg pe_int) (pa_cons (pe_ix (ix_tup : IxR _ (rIxT K)) (pv 6) pe_int (fun _ _ => rfl)) pa_nil))) (pe_callTy call_int1 (by rfl) T.m_int (by decide +kernel) (pa_cons (pe_and (pe_cmpR op_ge (pe_ix (ix_tup : IxR _ (rIxT K)) (pv 6) pe_int (fun _ _ => rfl)) pe_int (nomark _)) (pe_one (pe_cmpR op_gt (pe_ix (ix_tup : IxR _ (rIxT K)) (pv 6) pe_int (fun _ _ => rfl)) pe_int (nomark _)))) pa_nil)) (fun _ _ => rfl)))))))
      (pss_one (ps_if (PW.pt (pw_and (pt_cmpR op_eq (pv 5) (pv 3) (nomark _)) (pw_and1 (pt_cmpR op_eq (pe_callB ((cr_min rfl) : CallR _ (.builtin "min") (rMin K)) (by rfl) T.m_min (by decide +kernel) (pa_cons (pv 4) pa_nil)) (pv 3) (nomark _))))) (pss_one (ps_expr (pe_bm PySem.F.plainAttrs_list PySem.F.slot_list_append PySem.F.type_list_append mt_append (pv 2) (pa_cons (pe_callTy (call_tuple_of : CallR _ (.type "tuple") (Mc.rTupleOf K)) (by rfl) T.m_tuple (by decide +kernel) (pa_cons (pv 4) pa_nil)) pa_nil) : PE _ _ (tBM K _ _ _ _)))) pss_nil)))))
      (pss_one (ps_ret (pe_callTy (call_tuple_of : CallR _ (.type "tuple") (Mc.rTupleOf K)) (by rfl) T.m_tuple (by decide +kernel) (pa_cons (pe_callB ((Mc.cr_sortedD hr.units) : CallR _ (.builtin "sorted") (Mc.rSortedD K)) (by rfl) T.m_sorted (by decide +kernel) (pa_cons (pv 2) pa_nil)) pa_nil))))))), ?_⟩
    have hn := ok.small
    have hN0 := hN
    obtain ⟨dx, kt, lk, wt, kvs0, xs, h1, h2, h3, h4, h5, h6⟩ := hN0
    have wl := W.len
    refine ⟨fun τ G => ∃ (X F : Addr) (kvs : List (List Key × V)), τ = [some (.ref x), some (.ref X), some (.ref F), none, none, none, none] ∧ H F = none ∧ G X = some (.dT kvs) ∧ LinksAt G kvs (linksOf N.ws) ∧ X ≠ F ∧ G F = some (.lst []) ∧ Ext H G, ?_, ?_⟩
    · refine ⟨_, rfl, x, _, dx, _, _, rfl, h1, T.cl_Net, T.n_Net_wires, rfl, wt, xs, N.ws, rfl, .inr (.inl (.inl h5)), h6, W.nd, by omega, fun X kvs G hX g1 hL hE => ⟨(by show 0 ≤ sizeLine; decide), fun F hF => ⟨_, _, rfl, X, F, kvs, rfl, hE.fresh hF, Ext.new hF _ _ g1, links_ext hL (Ext.new hF).t, ne_of_none g1 hF, upd_same, hE.trans (Ext.new hF)⟩⟩⟩
    rintro _ G1 ⟨X, F, kvs, rfl, hF, g1X, hL1, hXF, g1F, hE1⟩
    have ndl := W.nd
    -- the cells
    refine ⟨fun τ G => ∃ (y3 y4 y5 y6 : Option V) (fs : List (List Nat)) (us : List V), τ = [some (.ref x), some (.ref X), some (.ref F), y3, y4, y5, y6] ∧ DSt N N.kd.length fs ∧ G F = some (.lst us) ∧ Paired (RV G) us fs ∧ Ext H G, ?_, ?_⟩
    · refine ⟨_, rfl, x, _, dx, _, _, rfl, hE1 _ _ h1, T.cl_Net, T.n_Net_kinds, rfl, _, N.kd.length, rfl, .inr ⟨_, .inl (.inl (hE1 _ _ h2)), by rw [List.length_map]⟩, _, rfl, by omega, by omega, for_it walk_range (fun i σ G => ∃ (y3 y4 y5 y6 : Option V) (fs : List (List Nat)) (us : List V), σ = [some (.ref x), some (.ref X), some (.ref F), y3, y4, y5, y6] ∧ DSt N i fs ∧ G F = some (.lst us) ∧ Paired (RV G) us fs ∧ G X = some (.dT kvs) ∧ LinksAt G kvs (linksOf N.ws) ∧ Ext H G)
        ⟨_, _, _, _, [], [], rfl, DSt.start N, g1F, .nil, g1X, hL1, hE1⟩ (fun _ _ _ _ _ => trivial) ?_ ?_⟩
      · rintro i z σ G3 G4 hi ⟨y3, y4, y5, y6, fs, us, rfl, hD, gF, hPF, gX, hL, hE⟩ ⟨rfl, hz⟩
        obtain rfl := rng0 hz
        rw [Int.toNat_natCast] at hi
        have few := hD.few
        -- seen
        refine ⟨fun τ G => ∃ S, τ = [some (.ref x), some (.ref X), some (.ref F), some (vI i), some (.ref S), some (vI i), y6] ∧ H S = none ∧ F ≠ S ∧ X ≠ S ∧ G S = some (.lst []) ∧ Ext G4 G, ?_, ?_⟩
        · exact ⟨(by show 0 ≤ sizeLine; decide), fun S hS => ⟨_, rfl, _, _, rfl, S, rfl, hE.fresh hS, ne_of_none gF hS, ne_of_none gX hS, upd_same, Ext.new hS⟩⟩
        rintro _ G5 ⟨S, rfl, hS, hFS, hXS, g5, hE5⟩
        have g5F := hE5 _ _ gF
        have g5X := hE5 _ _ gX
        have hL5 := links_ext hL hE5.t
        have hPF5 := rv_mono.paired hE5.t hPF
        have hE05 := hE.trans hE5
        clear gF gX hPF hE hE5 hL
        -- the way
        refine ⟨fun τ G => ∃ (p : List Nat) (c : Option Nat) (y6 : Option V), τ = [some (.ref x), some (.ref X), some (.ref F), some (vI i), some (.ref S), some (.int (encO c)), y6] ∧ Path (ledN N) i p c ∧ 0 < p.length ∧ (∀ x ∈ p, x < N.kd.length) ∧ (∀ d, c = some d → d ∈ p) ∧ G S = some (.lst (p.map vI)) ∧ G F = some (.lst us) ∧ Paired (RV G) us fs ∧ G X = some (.dT kvs) ∧ LinksAt G kvs (linksOf N.ws) ∧ Ext H G, ?_, ?_⟩
        · refine ⟨fun m σ G => ∃ (p : List Nat) (c : Option Nat) (y6 : Option V), σ = [some (.ref x), some (.ref X), some (.ref F), some (vI i), some (.ref S), some (.int (encO c)), y6] ∧ m = N.kd.length + 1 - p.length ∧ Path (ledN N) i p c ∧ (∀ x ∈ p, x < N.kd.length) ∧ (∀ d, c = some d → d < N.kd.length) ∧ G S = some (.lst (p.map vI)) ∧ G F = some (.lst us) ∧ Paired (RV G) us fs ∧ G X = some (.dT kvs) ∧ LinksAt G kvs (linksOf N.ws) ∧ Ext H G,
            ⟨_, [], some i, y6, rfl, rfl, Path.nil i, (fun _ h => nomatch h), (fun d e => by rw [← Option.some.inj e]; exact hi), g5, g5F, hPF5, g5X, hL5, hE05⟩, ?_⟩
          rintro m σ G6 ⟨p, c, y6, rfl, rfl, hp, fr, hc, g6S, g6F, hP6, g6X, hL6, hE6⟩
          have plen := nodup_len hp.nd fr
          refine ⟨_, rfl, _, _, rfl, rfl, _, rfl, ?_⟩
          cases c with
          | none =>
            rw [decide_eq_false (show ¬ (0 : Int) ≤ encO none by decide)]
            refine iteF (iteF ⟨p, none, _, rfl, hp, ?_, fr, (fun d e => nomatch e), g6S, g6F, hP6, g6X, hL6, hE6⟩)
            refine List.length_pos_iff.mpr fun z => ?_
            exact nomatch hp.zero z
          | some d =>
            rw [decide_eq_true (show (0 : Int) ≤ encO (some d) from Int.natCast_nonneg _)]
            have hdn := hc d rfl
            refine iteT ⟨_, rfl, _, rfl, S, _, rfl, .inl (SqL.of g6S), rfl, flat_vI p, _, rfl, ?_⟩
            show if (!inV (.int (d : Int)) (p.map vI)) = true then _ else _
            rw [in_cells]
            by_cases hdp : d ∈ p
            · rw [decide_eq_true ⟨d, hdp, rfl⟩]
              refine iteF ⟨p, some d, _, rfl, hp, List.length_pos_of_mem hdp, fr, (fun e he => by rw [← Option.some.inj he]; exact hdp), g6S, g6F, hP6, g6X, hL6, hE6⟩
            rw [decide_eq_false (by rintro ⟨e, he, z⟩; exact hdp (by rw [show d = e by omega]; exact he))]
            have plt : p.length < N.kd.length := by
              have := nodup_len (n := N.kd.length) (l := p ++ [d]) (List.nodup_append.mpr ⟨hp.nd, List.pairwise_singleton _ _, fun a ha b hb e => hdp (by rw [← List.mem_singleton.mp hb, ← e]; exact ha)⟩) fun y hy => by
                rcases List.mem_append.mp hy with hy | hy
                · exact fr y hy
                · rw [List.mem_singleton.mp hy]
                  exact hdn
              rw [List.length_append, List.length_singleton] at this
              omega
            refine iteT ⟨fun σ' G => ∃ c' y6, σ' = [some (.ref x), some (.ref X), some (.ref F), some (vI i), some (.ref S), some (.int (encO c')), y6] ∧ Path (ledN N) i (p ++ [d]) c' ∧ (∀ e, c' = some e → e < N.kd.length) ∧ G S = some (.lst ((p ++ [d]).map vI)) ∧ G F = some (.lst us) ∧ Paired (RV G) us fs ∧ G X = some (.dT kvs) ∧ LinksAt G kvs (linksOf N.ws) ∧ Ext H G, ?_, ?_⟩
            · rintro σ' G7 ⟨c', y6, rfl, a1, a2, a3, a4, a5, a6, a7, a8⟩
              refine ⟨N.kd.length + 1 - (p.length + 1), by omega, p ++ [d], c', y6, rfl, by rw [List.length_append, List.length_singleton], a1, fun y hy => ?_, a2, a3, a4, a5, a6, a7, a8⟩
              rcases List.mem_append.mp hy with hy | hy
              · exact fr y hy
              · rw [List.mem_singleton.mp hy]
                exact hdn
            refine ⟨fun τ G => τ = [some (.ref x), some (.ref X), some (.ref F), some (vI i), some (.ref S), some (vI d), y6] ∧ G S = some (.lst ((p ++ [d]).map vI)) ∧ G F = some (.lst us) ∧ Paired (RV G) us fs ∧ G X = some (.dT kvs) ∧ LinksAt G kvs (linksOf N.ws) ∧ Ext H G, ?_, ?_⟩
            · have TS := TExt.put (o := .lst (p.map vI ++ [vI d])) g6S fun z => z
              refine ⟨_, rfl, .inl ⟨rfl, _, SqL.of g6S⟩, _, rfl, S, p.map vI, vI d, rfl, rfl, g6S, by rw [List.length_map]; exact szl (by omega), rfl, ?_, (upd_ne hFS).trans g6F, rv_mono.paired TS hP6, (upd_ne hXS).trans g6X, links_ext hL6 TS, keepH hE6 hS⟩
              rw [List.map_append]
              exact upd_same
            rintro _ G7 ⟨rfl, g7S, g7F, hP7, g7X, hL7, hE7⟩
            -- port
            have hpd := hd_port N.kd N.ends hdn
            obtain ⟨v, hv1, t', rfl, hv2⟩ := links_get hL7 ndl _ (raw_ac ok W hpd)
            generalize hac : acOf N.es ((d : Int), 0) = r at hv2
            refine ⟨fun τ G => τ = [some (.ref x), some (.ref X), some (.ref F), some (vI i), some (.ref S), some (vI d), some (.ref t')] ∧ Ext G7 G, ?_, ?_⟩
            · exact ⟨_, rfl, _, rfl, (by show 2 ≤ sizeLine; decide), fun t ht => ⟨X, .ref t', rfl, .inr ⟨kvs, kP ((d : Int), 0), t, .inl (Ext.new ht _ _ g7X), rfl, upd_same, hv1.symm⟩, rfl, Ext.new ht⟩⟩
            rintro _ G8 ⟨rfl, hE8⟩
            have fin : ∀ {G : Hp} {z : Int}, Ext G8 G → z = encO (ledN N d) → ∃ c' y6, [some (.ref x), some (.ref X), some (.ref F), some (vI i), some (.ref S), some (.int z), some (.ref t')] = [some (.ref x), some (.ref X), some (.ref F), some (vI i), some (.ref S), some (.int (encO c')), y6] ∧ Path (ledN N) i (p ++ [d]) c' ∧ (∀ e, c' = some e → e < N.kd.length) ∧ G S = some (.lst ((p ++ [d]).map vI)) ∧ G F = some (.lst us) ∧ Paired (RV G) us fs ∧ G X = some (.dT kvs) ∧ LinksAt G kvs (linksOf N.ws) ∧ Ext H G := fun {G z} e hz => by
              have ee := hE8.trans e
              exact ⟨ledN N d, _, by rw [hz], hp.snoc hdp, fun e he => led_lt ok hdn he, ee _ _ g7S, ee _ _ g7F, rv_mono.paired ee.t hP7, ee _ _ g7X, links_ext hL7 ee.t, hE7.trans ee⟩
            have led : ledN N d = ledP r := by unfold ledN; rw [hac]
            have h8t := hE8 _ _ hv2
            refine ⟨_, rfl, _, rfl, t', _, 0, .int r.1, rfl, rfl, .inl (.inl h8t), rfl, (by show 2 ≤ sizeLine; decide), fun L hL' => ?_⟩
            have EL := Ext.new (o := .lst [.int (-1), .int r.1]) hL'
            have h9t := EL _ _ h8t
            refine ⟨_, rfl, t', _, 0, .int r.1, rfl, rfl, .inl (.inl h9t), rfl, _, _, rfl, rfl, _, rfl, ?_⟩
            by_cases c1 : 0 ≤ r.1
            · rw [decide_eq_true c1]
              refine iteT ⟨_, rfl, t', _, 1, .int r.2, rfl, rfl, .inl (.inl h9t), rfl, _, _, rfl, rfl, ?_⟩
              refine Or.inr ⟨decide (0 < r.2), rfl, ?_⟩
              by_cases c2 : 0 < r.2
              · rw [decide_eq_true c2]
                refine ⟨L, _, 1, .int r.1, rfl, rfl, SqL.of upd_same, rfl, fin EL ?_⟩
                rw [led]
                unfold ledP
                rw [if_pos ⟨c1, c2⟩]
                exact (Int.toNat_of_nonneg c1).symm
              · rw [decide_eq_false c2]
                refine ⟨L, _, 0, .int (-1), rfl, rfl, SqL.of upd_same, rfl, fin EL ?_⟩
                rw [led]
                unfold ledP
                rw [if_neg fun z => c2 z.2]
                rfl
            · rw [decide_eq_false c1]
              refine iteF (Or.inr ⟨false, rfl, L, _, 0, .int (-1), rfl, rfl, SqL.of upd_same, rfl, fin EL ?_⟩)
              rw [led]
              unfold ledP
              rw [if_neg fun z => c1 z.1]
              rfl
        rintro _ G6 ⟨p, c, y6, rfl, hp, p0, fr, hc, g6S, g6F, hP6, g6X, hL6, hE6⟩
        have plen := nodup_len hp.nd fr
        have ul : us.length = fs.length := Paired.length hP6
        have hh := hp.head p0
        have skip : (∀ l, Ring (ledN N) l → l.getD 0 0 ≠ i) → ∃ (y3 y4 y5 y6' : Option V) (fs' : List (List Nat)) (us' : List V), [some (.ref x), some (.ref X), some (.ref F), some (vI i), some (.ref S), some (.int (encO c)), y6] = [some (.ref x), some (.ref X), some (.ref F), y3, y4, y5, y6'] ∧ DSt N (i + 1) fs' ∧ G6 F = some (.lst us') ∧ Paired (RV G6) us' fs' ∧ G6 X = some (.dT kvs) ∧ LinksAt G6 kvs (linksOf N.ws) ∧ Ext H G6 :=
          fun hk => ⟨_, _, _, _, fs, us, rfl, hD.skip hk, g6F, hP6, g6X, hL6, hE6⟩
        refine ⟨_, rfl, _, rfl, rfl, _, rfl, ?_⟩
        by_cases c1 : c = some i
        · subst c1
          rw [decide_eq_true (show V.int (encO (some i)) = vI i from rfl)]
          refine iteT ⟨_, rfl, S, p.map (fun (c : Nat) => (c : Int)), rfl, SqL.of (by rw [List.map_map]; exact g6S), by rw [List.length_map]; exact p0, fun m hm hmin => ⟨_, rfl, rfl, _, rfl, ?_⟩⟩
          obtain ⟨e, he, rfl⟩ := List.mem_map.mp hm
          by_cases c2 : e = i
          · subst c2
            rw [decide_eq_true (show V.int (e : Int) = vI e from rfl)]
            have hr := ring_path hp p0 fun y hy => by
              have := hmin (y : Int) (List.mem_map.mpr ⟨y, hy, rfl⟩)
              omega
            refine iteT ⟨_, rfl, .inl ⟨rfl, _, SqL.of g6F⟩, _, rfl, S, _, rfl, .inl ⟨SqL.of g6S, fun t ht => ?_⟩⟩
            have q4 := Ext.new (o := .tup (p.map vI)) ht
            refine ⟨F, us, .ref t, rfl, rfl, q4 _ _ g6F, szl (by omega), ?_⟩
            have TF := TExt.put (o := .lst (us ++ [.ref t])) (q4 _ _ g6F) fun z => z
            exact ⟨_, _, _, _, fs ++ [p], us ++ [.ref t], rfl, hD.add hr hh fr, upd_same, paired_snoc (rv_mono.paired (q4.t.trans TF) hP6) ⟨t, rfl, TF _ _ upd_same trivial⟩, (upd_ne hXF).trans (q4 _ _ g6X), links_ext hL6 (q4.t.trans TF), keepH (hE6.trans q4) hF⟩
          · rw [decide_eq_false (show ¬ V.int (e : Int) = vI i from fun z => c2 (by have := V.int.inj z; omega))]
            refine iteF (skip fun l hl hu => c2 ?_)
            have h1 := (path_ring hp p0 hc hl hu).2 e he
            have h2 := hmin (i : Int) (List.mem_map.mpr ⟨i, by rw [← hh]; exact getD_mem p0, rfl⟩)
            omega
        · have ne : ¬ V.int (encO c) = vI i := fun z => by
            cases c with
            | none =>
              have h : (-1 : Int) = (i : Int) := V.int.inj z
              omega
            | some d =>
              have h : (d : Int) = (i : Int) := V.int.inj z
              exact c1 (by rw [show d = i by omega])
          rw [decide_eq_false ne]
          exact iteF (iteF (skip fun l hl hu => c1 (path_ring hp p0 hc hl hu).1))
      · rintro σ G3 ⟨y3, y4, y5, y6, fs, us, rfl, hD, gF, hPF, _, _, hE⟩
        rw [Int.toNat_natCast] at hD
        exact ⟨y3, y4, y5, y6, fs, us, rfl, hD, gF, hPF, hE⟩
    rintro _ G3 ⟨y3, y4, y5, y6, fs, us, rfl, hD, gF, hPF, hE⟩
    have few := hD.few
    refine ⟨_, rfl, F, us, fs.map ringD, rfl, SqL.of gF, dpAll_paired ringD (fun _ _ h => rv_dp h) hPF, PySem.W.AllAlike.of alike_ring, .inl fun d hd => ?_, fun d hd => ?_, fun S hS => ?_⟩
    · obtain ⟨l, hl, rfl⟩ := List.mem_map.mp hd
      have := (hD.ring l hl).1.cyc.pos
      cases l with
      | nil => exact absurd this (Nat.not_lt_zero 0)
      | cons c l => exact ⟨_, _, rfl⟩
    · obtain ⟨l, hl, rfl⟩ := List.mem_map.mp hd
      have h1 := depthAll_le (k := 0) (l := l.map fun (c : Nat) => PyData.int (c : Int)) fun d hd => by obtain ⟨x, _, rfl⟩ := List.mem_map.mp hd; exact Nat.le_refl _
      simp only [ringD, PyData.depth]
      omega
    have hsp := sorted_paired ringD hPF
    generalize ((us.zip (fs.map ringD)).mergeSort (PySem.W.dataLe false Prod.snd)).map Prod.fst = zs at hsp ⊢
    have E1 := Ext.new (o := .lst zs) hS
    refine ⟨S, zs, rfl, .inl ⟨SqL.of upd_same, fun t ht => ?_⟩⟩
    have E2 := Ext.new (o := .tup zs) ht
    exact q t zs fs _ upd_same (rv_mono.paired (E1.trans E2).t hsp) (hD.stop ok) few ((hE.trans E1).trans E2)
end Me
namespace Me
open PySem PySem.Spec PyProof.Rows L2 Mc
variable {P : Program} {w : World} {K : PySem.W.Frag} {mg : Str → Option Value} {base : Heap}
/-! ### how many rings -/
theorem mv_head {f : Nat → Nat} (c : Nat) : mvP f ((c : Int), 0) = ((f c : Int), 0) := Prod.ext (mvC_nat f c) rfl
def ledR (ws : List (Port × Port)) (c : Nat) : Option Nat := ledP (acOf (linksOf ws) ((c : Int), 0))
theorem ledP_mv (f : Nat → Nat) (q : Port) : ledP (mvP f q) = (ledP q).map f := by
  unfold ledP
  by_cases c : 0 ≤ q.1 ∧ 0 < q.2
  · have e : (mvP f q).1 = (f q.1.toNat : Int) := mvC_pos c.1
    rw [if_pos c, if_pos ⟨by rw [e]; exact Int.natCast_nonneg _, c.2⟩, e, Int.toNat_natCast]
    rfl
  · rw [if_neg c, if_neg fun z => c ⟨?_, z.2⟩]
    · rfl
    · by_cases h : 0 ≤ q.1
      · exact h
      · have e : (mvP f q).1 = q.1 := mvC_neg (by omega)
        rw [e] at z
        exact z.1
theorem raw_acOf {N : NetD} (ok : NetOk N) (W : WOk N.kd N.ends N.ws) {p : Port} (h : isPort N.kd N.ends p) : acOf (linksOf N.ws) p = acOf N.es p := acOf_mem W.nd (raw_ac ok W h)
theorem led_iso {kd : List Str} {tips : Nat} {loops : Int} {ws : List (Port × Port)} (h : WOk kd tips ws) {f : Nat → Nat} (W : WOk (mkN kd tips loops (linksOf ws)).kd tips (mkN kd tips loops (linksOf ws)).ws) (I : GIso (mkG kd tips (linksOf ws)) (mkG (mkN kd tips loops (linksOf ws)).kd tips (linksOf (mkN kd tips loops (linksOf ws)).ws)) f) {c : Nat} (hc : c < kd.length) :
    ledN (mkN kd tips loops (linksOf ws)) (f c) = (ledR ws c).map f := by
  have hp := hd_port kd tips hc
  have h1 := I.ac ((c : Int), 0) hp
  rw [mv_head] at h1
  have h1 : acOf (linksOf (mkN kd tips loops (linksOf ws)).ws) ((f c : Int), 0) = mvP f (acOf (linksOf ws) ((c : Int), 0)) := h1
  have hf : f c < (mkN kd tips loops (linksOf ws)).kd.length := by
    have a := I.lt c hc
    have b : (mkN kd tips loops (linksOf ws)).kd.length = kd.length := I.n
    have a : f c < kd.length := a
    omega
  rw [raw_acOf (h.net loops) W (hd_port _ _ hf)] at h1
  unfold ledN ledR
  rw [h1, ledP_mv]
theorem red_step {kd : List Str} {tips : Nat} {ws : List (Port × Port)} {RR : List (List Nat)} (h : WOk kd tips ws) (R : Red kd ws RR) : ∀ l ∈ RR, Cyc (ledR ws) l := fun l hl => by
  refine ⟨(R.ring l hl).1, ?_, fun i hi => ?_⟩
  · have := R.nd
    exact (List.pairwise_flatten.mp this).1 l hl
  · obtain ⟨k, k0, hm⟩ := (R.ring l hl).2 i hi
    obtain ⟨e, he, e2⟩ := List.mem_map.mp hm
    have e3 : e = ((((l.getD i 0 : Nat) : Int), 0), (((l.getD ((i + 1) % l.length) 0 : Nat) : Int), k)) := by
      have a := (Prod.mk.inj e2).1
      have b := (Prod.mk.inj (Prod.mk.inj e2).2).1
      have c := (Prod.mk.inj (Prod.mk.inj (Prod.mk.inj e2).2).2).1
      have d := (Prod.mk.inj (Prod.mk.inj (Prod.mk.inj e2).2).2).2
      exact Prod.ext (Prod.ext a b) (Prod.ext c d)
    have := acOf_mem h.nd he
    rw [e3] at this
    unfold ledR
    rw [this]
    unfold ledP
    rw [if_pos ⟨Int.natCast_nonneg _, k0⟩]
    show some ((((l.getD ((i + 1) % l.length) 0 : Nat) : Int)).toNat) = _
    rw [Int.toNat_natCast]
theorem red_lt {kd : List Str} {tips : Nat} {ws : List (Port × Port)} (h : WOk kd tips ws) {c d : Nat} (hc : c < kd.length) (e : ledR ws c = some d) : d < kd.length := by
  have hm := (h.mem (e := (((c : Int), 0), (mkG kd tips (linksOf ws)).ac ((c : Int), 0)))).mpr ⟨hd_port kd tips hc, rfl⟩
  have hp := (h.mem.mp (linksOf_sym hm)).1
  have hp : isPort kd tips (acOf (linksOf ws) ((c : Int), 0)) := hp
  unfold ledR ledP at e
  split at e
  · next z =>
    have := Option.some.inj e
    rcases port_cell hp with y | y
    · omega
    · omega
  · cases e
theorem red_head {kd : List Str} {tips : Nat} {ws : List (Port × Port)} {RR : List (List Nat)} (h : WOk kd tips ws) (R : Red kd ws RR) {c : Nat} (hc : c < kd.length) : (acOf (linksOf ws) ((c : Int), 0)).1 < 0 ∨ 0 < (acOf (linksOf ws) ((c : Int), 0)).2 := by
  obtain ⟨q, hq, h1, _⟩ := R.head c hc
  rw [acOf_mem h.nd hq]
  exact h1
/-- what comes again lies on a ring that was built -/
theorem red_on {kd : List Str} {tips : Nat} {ws : List (Port × Port)} {RR : List (List Nat)} (h : WOk kd tips ws) (R : Red kd ws RR) {c : Nat} (hc : c < kd.length) (ho : OnC (ledR ws) c) : c ∈ RR.flatten := by
  refine Classical.byContradiction fun hn => ?_
  have next : ∀ x d, x < kd.length → x ∉ RR.flatten → ledR ws x = some d → d < x := fun x d hx hxn e => by
    obtain ⟨q, hq, h1, h2⟩ := R.head x hx
    unfold ledR at e
    rw [acOf_mem h.nd hq] at e
    unfold ledP at e
    split at e
    · next z =>
      have := Option.some.inj e
      rcases h2 with h2 | h2
      · exact absurd h2 hxn
      · have z : 0 ≤ q.1 ∧ 0 < q.2 := z
        have : q.1.toNat = d := this
        omega
    · cases e
  have st : Stays (ledR ws) (fun x => x ∈ RR.flatten ∨ x < c) := fun x y hx e => by
    by_cases z : x ∈ RR.flatten
    · obtain ⟨l, hl, hxl⟩ := List.mem_flatten.mp z
      exact .inl (List.mem_flatten.mpr ⟨l, hl, (red_step h R l hl).closed x y hxl e⟩)
    · have hx := hx.resolve_left z
      have := next x y (by omega) z e
      exact .inr (by omega)
  obtain ⟨t, ht, e⟩ := ho
  rw [show t = 1 + (t - 1) by omega, it_add] at e
  cases z : ledR ws c with
  | none =>
    have e1 : it (ledR ws) 1 c = none := z
    rw [e1] at e
    cases e
  | some d =>
    have e1 : it (ledR ws) 1 c = some d := z
    rw [e1] at e
    have hd := next c d hc hn z
    rcases closed_it st _ (.inr hd) e with y | y
    · exact hn y
    · omega
theorem rings_len {kd : List Str} {tips : Nat} {loops : Int} {ws : List (Port × Port)} {RR L : List (List Nat)} (h : WOk kd tips ws) (R : Red kd ws RR) (hL : RingsOf (mkN kd tips loops (linksOf ws)) L) : L.length = RR.length := by
  obtain ⟨W, f, I⟩ := norm_again (loops := loops) h
  have nl : (mkN kd tips loops (linksOf ws)).kd.length = kd.length := I.n
  have iso : ∀ c, c < kd.length → ledN (mkN kd tips loops (linksOf ws)) (f c) = (ledR ws c).map f := fun c hc => led_iso h W I hc
  have iti : ∀ t c, c < kd.length → it (ledN (mkN kd tips loops (linksOf ws))) t (f c) = (it (ledR ws) t c).map f ∧ ∀ d, it (ledR ws) t c = some d → d < kd.length := by
    intro t
    induction t with
    | zero => exact fun c hc => ⟨rfl, fun d e => by rw [← Option.some.inj e]; exact hc⟩
    | succ t ih =>
      intro c hc
      obtain ⟨h1, h2⟩ := ih c hc
      show (it _ t (f c)).bind _ = ((it _ t c).bind _).map f ∧ ∀ d, (it (ledR ws) t c).bind (ledR ws) = some d → d < kd.length
      rw [h1]
      cases z : it (ledR ws) t c with
      | none => exact ⟨rfl, fun d e => nomatch e⟩
      | some d =>
        have hd := h2 d z
        exact ⟨iso d hd, fun e he => red_lt h hd he⟩
  have inj : ∀ c d, c < kd.length → d < kd.length → f c = f d → c = d := I.inj
  have rl : ∀ l ∈ RR, ∀ c ∈ l, c < kd.length := fun l hl c hc => R.lt c (List.mem_flatten.mpr ⟨l, hl, hc⟩)
  have gm : ∀ (l : List Nat) i, i < l.length → (l.map f).getD i 0 = f (l.getD i 0) := fun l i hi => by
    rw [List.getD_eq_getElem?_getD, List.getD_eq_getElem?_getD, List.getElem?_map, List.getElem?_eq_getElem hi]
    rfl
  have CM : Cycs (ledN (mkN kd tips loops (linksOf ws))) (RR.map (List.map f)) := by
    refine ⟨fun m hm => ?_, ?_⟩
    · obtain ⟨l, hl, rfl⟩ := List.mem_map.mp hm
      have cl := red_step h R l hl
      refine ⟨by rw [List.length_map]; exact cl.pos, map_nodup_on cl.nd fun a ha b hb e => inj a b (rl l hl a ha) (rl l hl b hb) e, fun i hi => ?_⟩
      rw [List.length_map] at hi ⊢
      rw [gm l i hi, gm l _ (Nat.mod_lt _ cl.pos), iso _ (rl l hl _ (getD_mem hi)), cl.step i hi]
      rfl
    · rw [← List.map_flatten]
      exact map_nodup_on R.nd fun a ha b hb e => inj a b (R.lt a ha) (R.lt b hb) e
  have CL : Cycs (ledN (mkN kd tips loops (linksOf ws))) L := ⟨fun l hl => (hL.ring l hl).cyc, hL.nd⟩
  have := cycs_len CL CM fun c => by
    constructor
    · intro hc
      obtain ⟨l, hl, hcl⟩ := List.mem_flatten.mp hc
      have hcn := hL.lt l hl c hcl
      obtain ⟨t, ht, e⟩ := (hL.ring l hl).cyc.on hcl
      obtain ⟨c0, h0, rfl⟩ := I.onto (x := c) (by show c < kd.length; omega)
      have h0 : c0 < kd.length := h0
      obtain ⟨i1, i2⟩ := iti t c0 h0
      rw [i1] at e
      obtain ⟨d, hd, he⟩ := Option.map_eq_some_iff.mp e
      have := inj d c0 (i2 d hd) h0 he
      subst this
      have := red_on h R h0 ⟨t, ht, hd⟩
      rw [← List.map_flatten]
      exact List.mem_map.mpr ⟨_, this, rfl⟩
    · intro hc
      obtain ⟨m, hm, hcm⟩ := List.mem_flatten.mp hc
      have ho := (CM.cyc m hm).on hcm
      obtain ⟨l, hl, rfl⟩ := List.mem_map.mp hm
      obtain ⟨c0, h0, rfl⟩ := List.mem_map.mp hcm
      have := I.lt c0 (rl l hl c0 h0)
      have : f c0 < kd.length := this
      obtain ⟨l2, hl2, h2⟩ := (hL.all (f c0) (by omega)).mp ho
      exact List.mem_flatten.mpr ⟨l2, hl2, h2⟩
  rw [this, List.length_map]
theorem red_free {kd : List Str} {tips : Nat} {ws : List (Port × Port)} {RR : List (List Nat)} (h : WOk kd tips ws) (R : Red kd ws RR) : ws.filter hdB = [] := by
  refine List.filter_eq_nil_iff.mpr fun e he c => ?_
  unfold hdB at c
  simp only [Bool.and_eq_true, decide_eq_true_eq] at c
  obtain ⟨c1, c2, c3⟩ := c
  have m1 := links_in he
  have p1 := (h.mem.mp m1).1
  have p2 := (h.mem.mp (linksOf_sym m1)).1
  have p1 : isPort kd tips e.1 := p1
  have p2 : isPort kd tips e.2 := p2
  have n1 : 0 ≤ e.1.2 ∧ e.1.1 < (kd.length : Int) := by rcases p1 with ⟨z, _⟩ | ⟨_, z, y, _⟩ <;> omega
  have n2 : 0 ≤ e.2.2 := by rcases p2 with ⟨_, z, _⟩ | ⟨_, _, z, _⟩ <;> exact z
  have hr := red_head h R (c := e.1.1.toNat) (by omega)
  have e1 : (((e.1.1.toNat : Nat) : Int), (0 : Int)) = e.1 := Prod.ext (Int.toNat_of_nonneg c1) (by show (0 : Int) = e.1.2; omega)
  rw [e1, acOf_mem h.nd m1] at hr
  omega
theorem red_act {kd : List Str} {tips : Nat} {loops : Int} {ws : List (Port × Port)} {RR : List (List Nat)} (h : WOk kd tips ws) (R : Red kd ws RR) : actL (mkN kd tips loops (linksOf ws)).ws = [] := by
  have h1 := actL_len (h.net loops)
  rw [ws_count h.kinds h.small h.few h.ne h.fits hdB hdB_swap hdB_ren, red_free h R] at h1
  exact List.length_eq_zero_iff.mp h1
theorem shows_rings {L : List (List Nat)} {n : Nat} (hn : n ≤ 800) (h1 : L.length ≤ n) (h2 : ∀ l ∈ L, l.length ≤ n ∧ ∀ c ∈ l, c < n) : Shows (.tuple (L.map ringD)) := by
  have hs : ∀ d ∈ L.map ringD, Sm 12100 1 d := fun d hd => by
    obtain ⟨l, hl, rfl⟩ := List.mem_map.mp hd
    have := (sm_tuple (n := 5) (k := 0) (ds := l.map fun (c : Nat) => PyData.int (c : Int)) fun d hd => by
      obtain ⟨c, hc, rfl⟩ := List.mem_map.mp hd
      exact sm_int (k := 4) (by decide) (by decide) (by have := (h2 l hl).2 c hc; show (c : Int).natAbs < 10000; omega)).up (n' := 12100) (k' := 1) (by rw [List.length_map]; have := (h2 l hl).1; omega) (by decide)
    exact this
  refine (sm_tuple (n := 12100) (k := 1) hs).shows ?_ (by decide)
  rw [List.length_map]
  omega
end Me
namespace Me
open PySem PySem.Spec PyProof.Rows L2 Mc
variable {P : Program} {w : World} {K : PySem.W.Frag} {mg : Str → Option Value} {base : Heap}
/-- both make the same list of rings -/
theorem rings_same {N : NetD} {A B : List (List Nat)} (a : RingsOf N A) (b : RingsOf N B) : A.mergeSort (PySem.W.dataLe false ringD) = B.mergeSort (PySem.W.dataLe false ringD) := by
  have nd : ∀ {L : List (List Nat)}, RingsOf N L → L.Nodup := fun {L} h => by
    have h1 := List.pairwise_flatten.mp h.nd
    refine h1.2.imp_of_mem fun {x y} hx hy hxy e => ?_
    have hc := getD_mem (h.ring x hx).cyc.pos
    exact hxy _ hc _ (e ▸ hc) rfl
  have mem : ∀ {L : List (List Nat)}, RingsOf N L → ∀ c, (∃ l ∈ L, c ∈ l) ↔ (c < N.kd.length ∧ OnC (ledN N) c) := fun {L} h c =>
    ⟨fun ⟨l, hl, hc⟩ => ⟨h.lt l hl c hc, (h.ring l hl).cyc.on hc⟩, fun ⟨h1, h2⟩ => (h.all c h1).mp h2⟩
  exact sort_same ringD alike_ring (fun _ _ => ringD_inj) (rings_perm a.ring b.ring (nd a) (nd b) fun c => (mem a c).trans (mem b c).symm)
theorem rings_shows {N : NetD} {L : List (List Nat)} (h : RingsOf N L) (hl : L.length ≤ N.kd.length) (hn : N.kd.length ≤ 800) : Shows (.tuple ((L.mergeSort (PySem.W.dataLe false ringD)).map ringD)) := by
  refine shows_rings (n := N.kd.length) hn (by rw [List.length_mergeSort]; exact hl) fun l hm => ?_
  have hm := List.mem_mergeSort.mp hm
  exact ⟨nodup_len (h.ring l hm).cyc.nd (h.lt l hm), h.lt l hm⟩
theorem dp_rings {H : Hp} {us : List V} {L : List (List Nat)} (h : Paired (RV H) us L) : DpAll K H us (L.map ringD) := dpAll_paired ringD (fun _ _ h => rv_dp h) h
def spLaw (K : PySem.W.Frag) : Sp := fun vs H Q _ => ∃ (a : Addr) (ns : List Int), vs = [.ref a] ∧ SqL K H a (ns.map V.int) ∧ ∀ H', Q (.bl true) H'
theorem ok_law (T : Txt P w K mg) : FnG P w K mg base (L2.CX P w) 9 (He.ga K "law") (spLaw K) := by
  have G__law_cell := fnG_of_R (ok__law_cell (base := base) T)
  have G__law_box := fnG_of_R (ok__law_box (base := base) T)
  have G__law_take := fnG_of_R (ok__law_take (base := base) T)
  have G__law_net := fnG_of_R (ok__law_net (base := base) T)
  have G__law_reduced := fnG_of_R (ok__law_reduced (base := base) T)
  have G__law_due := fnG_of_R (ok__law_due (base := base) T)
  have G_rings := fnG_of_R (ok_rings (base := base) T)
  have G_is_reduced := fnG_of_R (ok_is_reduced (base := base) T)
  have MK_Net_ends := mk_e (base := base) T
  obtain ⟨fd, F⟩ := T.f_law
  refine fnG_body F sc_law (F.bindsN (fun _ _ _ _ _ _ us hl => match us, hl with | [_], _ => rfl)) ?_ ?_
  · rintro vs H Q E ⟨a, ns, rfl, _⟩
    rfl
  · rintro cdv A outer s H vs Q E hr hgd ⟨a, ns, rfl, hs, q⟩
    refine ⟨_, (Mc.pss_mid (ps_for (passes_of rfl) rfl (pi_range1 (by rfl) T.m_range (pa_cons (pe_callB (call_max2 rfl) (by rfl) T.m_max (by decide +kernel) (pa_cons pe_int (pa_cons (pe_callB (call_min2 rfl) (by rfl) T.m_min (by decide +kernel) (pa_cons pe_int (pa_cons (pe_callB (call_len : CallR _ (.builtin "len") (Mc.rLen K)) (by rfl) T.m_len (by decide +kernel) (pa_cons (pv 0) pa_nil)) pa_nil))) pa_nil))) pa_nil)) (pg_name (i := 1) sc_law.nd rfl (Or.inl rfl))
      (Mc.pss_mid (ps_set (i := 2) sc_law.nd rfl (Or.inl rfl) (Mc.pe_callG G__law_box (hr.mono (by decide)) hgd (by rfl) T.g__law_box T.k__law_box pass_no (pa_cons (Mc.pe_callG G__law_cell (hr.mono (by decide)) hgd (by rfl) T.g__law_cell T.k__law_cell pass_no (pa_cons (pv 0) (pa_cons (pv 1) pa_nil))) pa_nil)))
      (Mc.pss_mid (ps_par (i := 3) (j := 4) (by rfl) sc_law.nd rfl rfl (by decide) rfl rfl (pa_cons (Mc.pe_callG G__law_take (hr.mono (by decide)) hgd (by rfl) T.g__law_take T.k__law_take pass_no (pa_cons (pv 2) (pa_cons pe_int pa_nil))) (pa_cons (Mc.pe_callG G__law_take (hr.mono (by decide)) hgd (by rfl) T.g__law_take T.k__law_take pass_no (pa_cons (pv 2) (pa_cons pe_int pa_nil))) pa_nil)) (by rfl))
      (Mc.pss_mid (ps_asg (Mc.pe_callG G__law_reduced (hr.mono (by decide)) hgd (by rfl) T.g__law_reduced T.k__law_reduced pass_no (pa_cons (pv 2) (pa_cons pe_int (pa_cons (pv 3) (pa_cons (pv 4) pa_nil))))) (pg_tup (by rfl) (pgs_cons (pg_name (i := 5) sc_law.nd rfl (Or.inl rfl)) (pgs_cons (pg_name (i := 6) sc_law.nd rfl (Or.inl rfl)) pgs_nil)) : PG _ _ (gTup K 2 (gCons (gName 5) (gCons (gName 6) gNil)))))
      (Mc.pss_mid (ps_set (i := 7) sc_law.nd rfl (Or.inl rfl) (Mc.pe_mkR MK_Net_ends (hr.mono (by decide)) (by rfl) T.g_Net T.mk_Net.kp pass_no (pa_cons (pv 5) (pa_cons (pv 6) pa_nil)) (pk_cons (pv 3) pk_nil)))
      (Mc.pss_mid (ps_if (PW.pt (pw_or (pt_cmpR op_ne (pe_callB (call_len : CallR _ (.builtin "len") (Mc.rLen K)) (by rfl) T.m_len (by decide +kernel) (pa_cons (Mc.pe_callG G_rings (hr.mono (by decide)) hgd (by rfl) T.g_rings T.k_rings pass_no (pa_cons (pv 7) pa_nil)) pa_nil)) (pv 4) (nomark _)) (pw_or1 (pt_cmpR op_isnot_bl (Mc.pe_callG G_is_reduced (hr.mono (by decide)) hgd (by rfl) T.g_is_reduced T.k_is_reduced pass_no (pa_cons (pv 7) pa_nil)) pe_bl (nomark _))))) (pss_one (ps_ret pe_bl)) pss_nil)
      (Mc.pss_mid (ps_set (i := 8) sc_law.nd rfl (Or.inl rfl) (Mc.pe_callG G__law_net (hr.mono (by decide)) hgd (by rfl) T.g__law_net T.k__law_net pass_no (pa_cons (pv 2) (pa_cons pe_int (pa_cons (pv 3) pa_nil)))))
      (Mc.pss_mid (ps_set (i := 9) sc_law.nd rfl (Or.inl rfl) (Mc.pe_mkR MK_Net_ends (hr.mono (by decide)) (by rfl) T.g_Net T.mk_Net.kp pass_no (pa_cons (pe_ix (ix_tup : IxR _ (rIxT K)) (pv 8) pe_int (fun _ _ => rfl)) (pa_cons (pe_ix (ix_tup : IxR _ (rIxT K)) (pv 8) pe_int (fun _ _ => rfl)) pa_nil)) (pk_cons (pv 3) pk_nil)))
      (Mc.pss_mid (ps_setLc (i := 10) (own := [("_law_a", 12), ("_law_b", 13)]) rfl sc_law.nd rfl rfl (sw_true rfl rfl rfl (by decide +kernel)) (pi_list (pe_ix (ix_tup : IxR _ (rIxT K)) (pv 8) pe_int (fun _ _ => rfl)) : PI _ _ _ (iList K _)) (blkOk_by (own := [("_law_a", 12), ("_law_b", 13)]) (N := N_law) (sc := defScope s_law) (by decide +kernel)) (fun _ _ _ _ _ => (pg_tup (by rfl) (pgs_cons (pg_name (i := 12) sc_law.nd rfl (Or.inl rfl)) (pgs_cons (pg_name (i := 13) sc_law.nd rfl (Or.inl rfl)) pgs_nil)) : PG _ _ (gTup K 2 (gCons (gName 12) (gCons (gName 13) gNil))))) (fun _ _ _ _ _ => (pts_one (PW.pt (pw_and (pt_cmpR op_ge (pe_ix (ix_tup : IxR _ (rIxT K)) (pv 12) pe_int (fun _ _ => rfl)) pe_int (nomark _)) (pw_and (pt_cmpR op_ge (pe_ix (ix_tup : IxR _ (rIxT K)) (pv 13) pe_int (fun _ _ => rfl)) pe_int (nomark _)) (pw_and1 (pt_cmpR op_eq (pe_op op_add (pe_ix (ix_tup : IxR _ (rIxT K)) (pv 12) pe_int (fun _ _ => rfl)) (pe_ix (ix_tup : IxR _ (rIxT K)) (pv 13) pe_int (fun _ _ => rfl))) pe_int (nomark _)))))))) (fun _ _ _ _ _ => pe_int))
      (pss_one (ps_for (passes_of rfl) rfl (pi_range1 (by rfl) T.m_range (pa_cons pe_int pa_nil)) (pg_name (i := 11) sc_law.nd rfl (Or.inl rfl))
      (Mc.pss_mid (ps_if (PW.pt (pw_or (pt_cmpR op_ne (pe_callB ((Mc.call_repr hgd hr.units) : CallR _ (.builtin "repr") (Mc.rRepr K)) (by rfl) T.m_repr (by decide +kernel) (pa_cons (Mc.pe_callG G_rings (hr.mono (by decide)) hgd (by rfl) T.g_rings T.k_rings pass_no (pa_cons (pv 7) pa_nil)) pa_nil)) (pe_callB ((Mc.call_repr hgd hr.units) : CallR _ (.builtin "repr") (Mc.rRepr K)) (by rfl) T.m_repr (by decide +kernel) (pa_cons (Mc.pe_callG G__law_due (hr.mono (by decide)) hgd (by rfl) T.g__law_due T.k__law_due pass_no (pa_cons (pv 7) pa_nil)) pa_nil)) (nomark _)) (pw_or1 (pt_cmpR op_ne (pe_callB ((Mc.call_repr hgd hr.units) : CallR _ (.builtin "repr") (Mc.rRepr K)) (by rfl) T.m_repr (by decide +kernel) (pa_cons (Mc.pe_callG G_rings (hr.mono (by decide)) hgd (by rfl) T.g_rings T.k_rings pass_no (pa_cons (pv 9) pa_nil)) pa_nil)) (pe_callB ((Mc.call_repr hgd hr.units) : CallR _ (.builtin "repr") (Mc.rRepr K)) (by rfl) T.m_repr (by decide +kernel) (pa_cons (Mc.pe_callG G__law_due (hr.mono (by decide)) hgd (by rfl) T.g__law_due T.k__law_due pass_no (pa_cons (pv 9) pa_nil)) pa_nil)) (nomark _))))) (pss_one (ps_ret pe_bl)) pss_nil)
      (pss_one (ps_if (pt_cmpR op_ne (pe_callB (Mc.call_reprB : CallR _ (.builtin "repr") _) (by rfl) T.m_repr (by decide +kernel) (pa_cons (Mc.pe_callG G_is_reduced (hr.mono (by decide)) hgd (by rfl) T.g_is_reduced T.k_is_reduced pass_no (pa_cons (pv 9) pa_nil)) pa_nil)) (pe_callB (Mc.call_reprB : CallR _ (.builtin "repr") _) (by rfl) T.m_repr (by decide +kernel) (pa_cons (pe_cmpR ((Mc.op_eqP hr.units) : OpR _ _ (Mc.rEqP K)) (pv 10) (pe_lst pa_nil) (nomark _)) pa_nil)) (nomark _)) (pss_one (ps_ret pe_bl)) pss_nil))))))))))))))
      (pss_one (ps_ret pe_bl))), ?_⟩
    have ml : ((ns.map V.int).length : Int) ≥ 0 := Int.natCast_nonneg _
    refine ⟨fun _ _ => True, ?_, fun τ G _ => q G⟩
    refine ⟨_, rfl, _, (ns.map V.int).length, rfl, .inl ⟨_, hs, rfl⟩, _, _, rfl, _, _, rfl, _, rfl, ?_, ?_, ?_⟩
    · split <;> omega
    · split
      · split <;> omega
      · omega
    refine for_it walk_range (fun i σ G => ∃ y1 y2 y3 y4 y5 y6 y7 y8 y9 y10 y11 : Option V, σ = [some (.ref a), y1, y2, y3, y4, y5, y6, y7, y8, y9, y10, y11, none, none] ∧ Ext H G) ⟨_, _, _, _, _, _, _, _, _, _, _, rfl, Ext.refl _⟩ (fun _ _ _ _ _ => trivial) ?_ (fun _ _ _ => trivial)
    rintro k0 z0 σ G0' G0 hi ⟨y1, y2, y3, y4, y5, y6, y7, y8, y9, y10, y11, rfl, hE0⟩ ⟨rfl, hz0⟩
    obtain rfl := rng0 hz0
    -- the box
    refine ⟨fun τ G => ∃ b : Addr, τ = [some (.ref a), some (vI k0), some (.ref b), y3, y4, y5, y6, y7, y8, y9, y10, y11, none, none] ∧ BoxAt G b 0 ∧ H b = none ∧ Ext H G, ?_, ?_⟩
    · refine ⟨_, rfl, _, rfl, a, ns, _, rfl, hE0.sqL hs, Int.natCast_nonneg _, fun z => ⟨z, rfl, fun b G1 hb hB hf => ⟨b, rfl, hB, hE0.fresh hb, fun c o e => ?_⟩⟩⟩
      have e1 := hE0 c o e
      rw [hf c (ne_of_none e1 hb)]
      exact e1
    rintro _ G1 ⟨b, rfl, hB1, hb, hE1⟩
    have vi : ∀ {r : Int}, 0 ≤ r → V.int r = vI r.toNat := fun {r} h => by
      show V.int r = V.int (r.toNat : Int)
      rw [Int.toNat_of_nonneg h]
    -- tips, many
    refine ⟨fun τ G => ∃ (tips many : Nat), τ = [some (.ref a), some (vI k0), some (.ref b), some (vI tips), some (vI many), y5, y6, y7, y8, y9, y10, y11, none, none] ∧ tips ≤ 12 ∧ many ≤ 5 ∧ BoxAt G b 2 ∧ Ext H G, ?_, ?_⟩
    · refine ⟨_, rfl, b, 0, 5, rfl, hB1, by omega, by omega, by omega, fun r G2 hr0 hr1 hB2 hf2 => ⟨_, rfl, b, 1, 4, rfl, hB2, by omega, by omega, by omega, fun r2 G3 hs0 hs1 hB3 hf3 => ⟨_, _, rfl, r.toNat, r2.toNat, by rw [← vi hr0, ← vi hs0]; rfl, by omega, by omega, hB3, ext_xb (ext_xb hE1 hb (xb_of hf2)) hb (xb_of hf3)⟩⟩⟩
    rintro _ G2 ⟨tips, many, rfl, htp, hmy, hB2, hE2⟩
    -- a reduced net
    refine ⟨fun τ G => ∃ (ka wa : Addr) (kd : List Str) (ws : List (Port × Port)) (RR : List (List Nat)), τ = [some (.ref a), some (vI k0), some (.ref b), some (vI tips), some (vI many), some (.ref ka), some (.ref wa), y7, y8, y9, y10, y11, none, none] ∧ LN G ka wa kd tips ws ∧ kd.length ≤ 100 ∧ Red kd ws RR ∧ RR.length = many ∧ BoxAt G b 1002 ∧ Ext H G, ?_, ?_⟩
    · refine ⟨_, rfl, _, rfl, _, rfl, b, 2, 6, tips, many, rfl, hB2, by omega, by decide, by decide, htp, hmy, fun t ka wa kd xs ws RR G3 ht' hka hwa h1 h2 h3 hP hW hkl hR hRl hB3 hX3 => ?_⟩
      exact ⟨t, _, rfl, .inl (.inl h1), rfl, _, _, rfl, _, _, rfl, rfl, ka, wa, kd, ws, RR, rfl, ⟨xs, h2, h3, hP, hW⟩, hkl, hR, hRl, hB3.up (by omega), ext_xb hE2 hb hX3⟩
    rintro _ G3 ⟨ka, wa, kd, ws, RR, rfl, ⟨xs, n1, n2, n3, n4⟩, hkl, hR, hRl, hB3, hE3⟩
    -- the net
    refine ⟨fun τ G => ∃ x : Addr, τ = [some (.ref a), some (vI k0), some (.ref b), some (vI tips), some (vI many), some (.ref ka), some (.ref wa), some (.ref x), y8, y9, y10, y11, none, none] ∧ NetV K G x (mkN kd tips 0 (linksOf ws)) ∧ Ext G3 G, ?_, ?_⟩
    · exact ⟨_, rfl, _, rfl, _, rfl, rfl, rfl, _, _, _, rfl, rfl, make_ok ⟨ka, wa, xs, rfl, .inl (SqL.of n1), n4.kinds, n4.small, rfl, .inl (SqL.of n2), n3, n4.ne, rfl, n4.few, rfl⟩ (by decide) n4.fits fun x G4 hx hN hE => ⟨x, rfl, hN, hE⟩⟩
    rintro _ G4 ⟨x, rfl, hN4, hE4⟩
    have okN := n4.net 0
    have WN : WOk (mkN kd tips 0 (linksOf ws)).kd (mkN kd tips 0 (linksOf ws)).ends (mkN kd tips 0 (linksOf ws)).ws := (norm_again n4).1
    have nlN : (mkN kd tips 0 (linksOf ws)).kd.length ≤ 800 := by
      obtain ⟨_, f, I⟩ := norm_again (loops := 0) n4
      have : (mkN kd tips 0 (linksOf ws)).kd.length = kd.length := I.n
      omega
    have actN := red_act (loops := 0) n4 hR
    have lenN : ∀ L, RingsOf (mkN kd tips 0 (linksOf ws)) L → L.length = many := fun L hL => (rings_len n4 hR hL).trans hRl
    generalize mkN kd tips 0 (linksOf ws) = N at hN4 okN WN nlN actN lenN
    have hE4' := hE3.trans hE4
    have hB4 := hB3.ext hE4
    -- its rings
    refine ⟨fun τ G => τ = [some (.ref a), some (vI k0), some (.ref b), some (vI tips), some (vI many), some (.ref ka), some (.ref wa), some (.ref x), y8, y9, y10, y11, none, none] ∧ Ext G4 G, ?_, ?_⟩
    · refine ⟨_, rfl, x, N, rfl, hN4, okN, fun t us L G5 h1 hP hL hl hE5 => ⟨_, us.length, rfl, .inr ⟨_, .inl (.inl h1), rfl⟩, _, rfl, rfl, _, rfl, ?_⟩⟩
      have ul : us.length = many := by
        rw [Paired.length hP, List.length_mergeSort]
        exact lenN L hL
      rw [decide_eq_true (show V.int (us.length : Int) = vI many by rw [ul])]
      refine iteF ⟨_, rfl, x, N, rfl, hN4.ext hE5, okN, fun G6 hE6 => ⟨_, _, rfl, rfl, _, rfl, ?_⟩⟩
      rw [decide_eq_true (show decide (actL N.ws = []) = true from decide_eq_true actN)]
      exact iteF ⟨rfl, hE5.trans hE6⟩
    rintro _ G5 ⟨rfl, hE5⟩
    -- another net
    refine ⟨fun τ G => ∃ (t2 ka2 wa2 : Addr) (kd2 : List Str) (ws2 : List (Port × Port)), τ = [some (.ref a), some (vI k0), some (.ref b), some (vI tips), some (vI many), some (.ref ka), some (.ref wa), some (.ref x), some (.ref t2), y9, y10, y11, none, none] ∧ G t2 = some (.tup [.ref ka2, .ref wa2]) ∧ LN G ka2 wa2 kd2 tips ws2 ∧ kd2.length ≤ 9 ∧ NetV K G x N ∧ Ext H G, ?_, ?_⟩
    · refine ⟨_, rfl, _, rfl, b, 1002, 8, tips, rfl, hB4.ext hE5, by omega, by omega, by omega, htp, fun t ka2 wa2 kd2 xs2 ws2 G6 ht' hka hwa h6t h6k h6w hP hk hl hf hB6 hX6 => ?_⟩
      exact ⟨t, ka2, wa2, kd2, ws2, rfl, h6t, ⟨xs2, h6k, h6w, hP, hk, by omega, htp, fits_ne hf, hf⟩, by omega, (hN4.ext hE5).xb (hB4.ext hE5) hX6, ext_xb (hE4'.trans hE5) hb hX6⟩
    clear hB2 hB3 hB4 hB1 hE4' hE4 hE3 hE5 hN4 n1 n2 n3
    rintro _ G6 ⟨t2, ka2, wa2, kd2, ws2, rfl, h6t, ⟨xs2, m1, m2, m3, m4⟩, hkl2, hN6, hE6⟩
    -- the mixed net
    refine ⟨fun τ G => ∃ x2 : Addr, τ = [some (.ref a), some (vI k0), some (.ref b), some (vI tips), some (vI many), some (.ref ka), some (.ref wa), some (.ref x), some (.ref t2), some (.ref x2), y10, y11, none, none] ∧ NetV K G x2 (mkN kd2 tips 0 (linksOf ws2)) ∧ Ext G6 G, ?_, ?_⟩
    · exact ⟨_, rfl, t2, _, 0, .ref ka2, rfl, rfl, .inl (.inl h6t), rfl, _, rfl, t2, _, 1, .ref wa2, rfl, rfl, .inl (.inl h6t), rfl, _, rfl, rfl, rfl, _, _, _, rfl, rfl, make_ok ⟨ka2, wa2, xs2, rfl, .inl (SqL.of m1), m4.kinds, m4.small, rfl, .inl (SqL.of m2), m3, m4.ne, rfl, m4.few, rfl⟩ (by decide) m4.fits fun x G4 hx hN hE => ⟨x, rfl, hN, hE⟩⟩
    rintro _ G7 ⟨x2, rfl, hM7, hE7⟩
    have okM := m4.net 0
    have WM : WOk (mkN kd2 tips 0 (linksOf ws2)).kd (mkN kd2 tips 0 (linksOf ws2)).ends (mkN kd2 tips 0 (linksOf ws2)).ws := (norm_again m4).1
    have nlM : (mkN kd2 tips 0 (linksOf ws2)).kd.length ≤ 800 := by
      obtain ⟨_, f, I⟩ := norm_again (loops := 0) m4
      have : (mkN kd2 tips 0 (linksOf ws2)).kd.length = kd2.length := I.n
      omega
    have cnt := ws_count (loops := 0) m4.kinds m4.small m4.few m4.ne m4.fits hdB hdB_swap hdB_ren
    rw [← actL_len okM] at cnt
    generalize mkN kd2 tips 0 (linksOf ws2) = M at hM7 okM WM nlM cnt
    have m27 := hE7 _ _ m2
    have m37 := wv_mono.paired hE7.t m3
    have h7t := hE7 _ _ h6t
    -- heads
    refine ⟨fun τ G => ∃ (hd : Addr) (hs : List V), τ = [some (.ref a), some (vI k0), some (.ref b), some (vI tips), some (vI many), some (.ref ka), some (.ref wa), some (.ref x), some (.ref t2), some (.ref x2), some (.ref hd), y11, none, none] ∧ G hd = some (.lst hs) ∧ hs = hs.map (fun _ => V.int 1) ∧ hs.length = (actL M.ws).length ∧ Ext G7 G, ?_, ?_⟩
    · have wl := m4.len
      refine ⟨_, rfl, t2, _, 1, .ref wa2, rfl, rfl, .inl (.inl h7t), rfl, wa2, rfl, ⟨_, SqL.of m27⟩, fun D hD => lc_ext (walk_list (xs := xs2)) (fun _ v (_ : Port × Port) => v = V.int 1) (fun _ h => h) (pick hdB ws2) hD (by rw [Paired.length m37]; omega) (fun G e => SqL.of (e _ _ m27)) ?_ ?_⟩
      · rintro i z G5' G5 Qe Qn hi' hE ⟨rfl, hz⟩ q1 q2
        obtain ⟨e, he, t, pa, ra, rfl, ht', hp, hr'⟩ := paired_get m37 i z hz
        have hp5 : SqT K G5 pa (vP e.1) := .inl (.inl (hE _ _ hp))
        have hr5 : SqT K G5 ra (vP e.2) := .inl (.inl (hE _ _ hr'))
        simp only [pick, he, Option.bind_some] at q1 q2
        refine ⟨t, _, rfl, .inl (.inl (hE _ _ ht')), rfl, _, _, rfl, _, _, rfl, rfl, rfl, ?_⟩
        have no : hdB e = false → Qn G5 := fun c => q2 (by rw [c]; rfl) _ (Ext.refl _)
        refine ⟨_, rfl, pa, _, 0, _, rfl, rfl, hp5, rfl, _, _, rfl, rfl, _, rfl, ?_⟩
        by_cases c1 : 0 ≤ e.1.1
        · rw [decide_eq_true c1]
          refine iteT ⟨_, rfl, ra, _, 0, _, rfl, rfl, hr5, rfl, _, _, rfl, rfl, _, rfl, ?_⟩
          by_cases c2 : 0 ≤ e.2.1
          · rw [decide_eq_true c2]
            refine iteT ⟨_, rfl, pa, _, 1, _, rfl, rfl, hp5, rfl, _, rfl, ra, _, 1, _, rfl, rfl, hr5, rfl, _, _, rfl, rfl, rfl, _, rfl, ?_⟩
            rw [dec_int0]
            by_cases c3 : e.1.2 + e.2.2 = 0
            · rw [decide_eq_true c3]
              have c : hdB e = true := by unfold hdB; rw [decide_eq_true c1, decide_eq_true c2, decide_eq_true c3]; rfl
              exact iteT (q1 e (if_pos c) _ _ (Ext.refl _) rfl)
            · rw [decide_eq_false c3]
              exact iteF (no (by unfold hdB; rw [decide_eq_false c3, Bool.and_false, Bool.and_false]))
          · rw [decide_eq_false c2]
            exact iteF (iteF (no (by unfold hdB; rw [decide_eq_false c2, Bool.false_and, Bool.and_false])))
        · rw [decide_eq_false c1]
          exact iteF (iteF (no (by unfold hdB; rw [decide_eq_false c1, Bool.false_and])))
      · rintro zs G5 hz hP hE
        rw [Paired.length m37, filterMap_filter hdB ws2] at hP
        refine ⟨D, zs, rfl, hz, ?_, ?_, hE⟩
        · clear hz
          generalize ws2.filter hdB = l at hP
          induction hP with
          | nil => rfl
          | cons a _ ih => rw [List.map_cons, ← ih, a]
        · rw [cnt]
          exact Paired.length hP
    rintro _ G8 ⟨hd, hs', rfl, g8, h1s, hsl, hE8⟩
    have hE78 := hE7.trans hE8
    have hN8 := hN6.ext hE78
    have hM8 := hM7.ext hE8
    have hE08 := hE6.trans hE78
    -- twice
    refine ⟨_, rfl, by decide, by decide, for_it walk_range (fun i σ G => ∃ y11 : Option V, σ = [some (.ref a), some (vI k0), some (.ref b), some (vI tips), some (vI many), some (.ref ka), some (.ref wa), some (.ref x), some (.ref t2), some (.ref x2), some (.ref hd), y11, none, none] ∧ Ext G8 G) ⟨_, rfl, Ext.refl _⟩ (fun _ _ _ _ _ => trivial) ?_ ?_⟩
    · rintro i z σ G9' G9 hi' ⟨y11, rfl, hE9⟩ ⟨rfl, hz⟩
      have hN9 := hN8.ext hE9
      have hM9 := hM8.ext hE9
      refine ⟨fun τ G => τ = [some (.ref a), some (vI k0), some (.ref b), some (vI tips), some (vI many), some (.ref ka), some (.ref wa), some (.ref x), some (.ref t2), some (.ref x2), some (.ref hd), some z, none, none] ∧ Ext G9 G, ?_, ?_⟩
      · refine ⟨_, rfl, x, N, rfl, hN9, okN, fun u1 us1 L1 G10 h1 hP1 hL1 hl1 hE10 => ⟨_, .tuple ((L1.mergeSort (PySem.W.dataLe false ringD)).map ringD), rfl, .dp (.tup (.inl (.inl h1)) (dp_rings hP1)), rings_shows hL1 hl1 nlN, ?_⟩⟩
        refine ⟨_, rfl, x, N, rfl, hN9.ext hE10, okN, WN, fun u2 us2 L2 G11 h2 hP2 hL2 hl2 hE11 => ⟨_, .tuple ((L2.mergeSort (PySem.W.dataLe false ringD)).map ringD), rfl, .dp (.tup (.inl (.inl h2)) (dp_rings hP2)), rings_shows hL2 hl2 nlN, rfl, _, rfl, ?_⟩⟩
        rw [rings_same hL1 hL2]
        refine iteNS rfl ?_
        refine ⟨_, rfl, x2, M, rfl, (hM9.ext hE10).ext hE11, okM, fun u3 us3 L3 G12 h3 hP3 hL3 hl3 hE12 => ⟨_, .tuple ((L3.mergeSort (PySem.W.dataLe false ringD)).map ringD), rfl, .dp (.tup (.inl (.inl h3)) (dp_rings hP3)), rings_shows hL3 hl3 nlM, ?_⟩⟩
        refine ⟨_, rfl, x2, M, rfl, ((hM9.ext hE10).ext hE11).ext hE12, okM, WM, fun u4 us4 L4 G13 h4 hP4 hL4 hl4 hE13 => ⟨_, .tuple ((L4.mergeSort (PySem.W.dataLe false ringD)).map ringD), rfl, .dp (.tup (.inl (.inl h4)) (dp_rings hP4)), rings_shows hL4 hl4 nlM, rfl, _, rfl, ?_⟩⟩
        rw [rings_same hL3 hL4]
        exact iteNS rfl ⟨rfl, ((hE10.trans hE11).trans hE12).trans hE13⟩
      rintro _ G10 ⟨rfl, hE10⟩
      refine ⟨_, rfl, x2, M, rfl, hM9.ext hE10, okM, fun G11 hE11 => ⟨_, rfl, ?_⟩⟩
      have g11 := hE11 _ _ (hE10 _ _ (hE9 _ _ g8))
      refine ⟨_, rfl, (by show 0 ≤ sizeLine; decide), fun L0 hL0 => ⟨.list (hs'.map fun _ => PyData.int 1), .list [], .lst (SqL.of (Ext.new hL0 _ _ g11)) ?_, .lst (SqL.of upd_same) .nil, ?_, _, rfl, ?_⟩⟩
      · rw [h1s]
        have : ∀ l : List V, DpAll K (upd G11 L0 (.lst [])) (l.map fun _ => V.int 1) ((l.map fun _ => V.int 1).map fun _ => PyData.int 1) := fun l => by
          induction l with
          | nil => exact .nil
          | cons v l ih => exact .cons (.int 1) ih
        exact this hs'
      · have h1 := depthAll_le (k := 0) (l := hs'.map fun _ => PyData.int 1) fun d hd => by obtain ⟨x, _, rfl⟩ := List.mem_map.mp hd; exact Nat.le_refl _
        simp only [PyData.depth]
        omega
      rw [eqv_nil]
      have e : decide (hs'.map (fun _ => PyData.int 1) = []) = decide (actL M.ws = []) := by
        refine decide_eq_decide.mpr ?_
        rw [List.map_eq_nil_iff, ← List.length_eq_zero_iff, hsl, List.length_eq_zero_iff]
      rw [e]
      refine ⟨rfl, _, rfl, iteNS rfl ⟨_, rfl, ?_⟩⟩
      exact ((hE9.trans hE10).trans hE11).trans (Ext.new hL0)
    · rintro σ G9 ⟨y11, rfl, hE9⟩
      exact ⟨_, _, _, _, _, _, _, _, _, _, _, rfl, hE08.trans hE9⟩
end Me
open PySem PySem.W PySem.Calls PyProof.Rows
theorem PySem.Challenge.cw_meetcells_k30_rings_of_nets_holds : PySem.Challenge.rw_meetcells_k30_rings_of_nets.Holds := by
  w_on; o_law
  refine HandSHeadRun.head_any (r := OpenLaw.row PySem.Challenge.rw_meetcells_k30_rings_of_nets) (q := view (OpenLaw.row PySem.Challenge.rw_meetcells_k30_rings_of_nets).prog [51]) (H := Me.hk) (ob := Me.ob) (M := 60000) (loose := Me.loose) (d := HandSHeadRun.topDef (OpenLaw.row PySem.Challenge.rw_meetcells_k30_rings_of_nets).prog 51) (kwd := []) Me.ob_eq
    (by kernel_rfl) (fun s => by kernel_rfl) Me.run (by kernel_rfl) (by kernel_rfl) (by kernel_rfl) (by rfl) (by first | assumption | decide +kernel) (by decide +kernel) ⟨rfl, rfl, rfl, rfl, rfl, by decide +kernel⟩ ?hw ?hc
  case hw => w_witness2
  case hc =>
    refine Mc.walk_ofG (l := PySem.Challenge.rw_meetcells_k30_rings_of_nets) (n := 63) (k := 9) (C := fun w => L2.CX PySem.Challenge.pw_meetcells_k30_rings_of_nets w) rfl (by decide) (by kernel_rfl) ⟨rfl, by decide, by decide⟩ ?F (fun _ _ _ _ _ z => z.elim fun _ z => z.elim fun _ z => z.elim fun _ z => z.elim fun _ z => z.elim fun _ z => z.2.2.2.2.2.2.2)
    intro w mg fa h Y G hmg0
    obtain ⟨K, KX, c⟩ := Y
    have hmg : mg ("law" : PySem.Str) = some (.ref fa) := by
      have e : (HandSHeadRun.topDef (OpenLaw.row PySem.Challenge.rw_meetcells_k30_rings_of_nets).prog 51).name = ("law" : PySem.Str) := by kernel_rfl
      rw [← e]
      exact hmg0
    have T := Me.txt_mk (P := PySem.Challenge.pw_meetcells_k30_rings_of_nets) (w := w) rfl KX G c
    have e := hmg.symm.trans T.g_law
    cases e
    exact ⟨K, Me.spLaw K, KX, fun H a ns hl _ hS => ⟨a, ns, rfl, hS, fun _ => rfl⟩, fun base _ _ => Me.ok_law T⟩
