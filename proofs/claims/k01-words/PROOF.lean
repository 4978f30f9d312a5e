import PyProof.Rows.All
import Wide.All
import OpenK.AllK
import Wide.FinOn
import HandS.ForMost
import HandS.ForExc
import HandS.Defaults
import HandS.HeadEnd
import KE.KExcSuper
import KE.KSuper
import HandS.HeadHook1
import HandS.HeadHook2
import HandS.HeadHook3
import HandS.HeadHook4
import HandS.StrMore
import HandS.IsInst
import HandS.More
import HandS.Head0
import HandS.Head1
import HandS.Head2
import PySem.Challenge.RW_meetcells_k01_words_kinds_and_ports
import HandS.Style
import HandS.Walk
set_option Elab.async false
set_option linter.all false
set_option maxRecDepth 100000
set_option maxHeartbeats 0
/-! McRepr: repr(x) of data at any depth, as a rule of the hand layer; a def's promise where no repr is under way around it (FnG). -/
namespace Mc
open PySem PySem.Spec PyProof.Rows L2

/-- a datum: what Dp tells, or an empty dict -/
inductive Dq (K : PySem.W.Frag) (H : Hp) : V → PyData → Prop
  | dp {v : V} {d : PyData} (h : Dp K H v d) : Dq K H v d
  | dic {a : Addr} (h : H a = some (.dK [])) : Dq K H (.ref a) (.dict [])

/-- it may be shown: its ints have few digits, its text fits, it is not deep -/
structure Shows (d : PyData) : Prop where
  sh : d.showable = true
  len : d.shown.length ≤ sizeLine
  dep : d.depth ≤ 60

/-- repr(x) -/
def rRepr (K : PySem.W.Frag) : List V → Hp → VK → Prop := fun xs H Q => ∃ (v : V) (d : PyData), xs = [v] ∧ Dq K H v d ∧ Shows d ∧ Q (.str d.shown) H

section
variable {X : Cx}
mutual
theorem noDict_dp {K : PySem.W.Frag} {H : Hp} : ∀ (d : PyData) (v : V), Dp K H v d → d.hasDict = false
  | .none, _, _ => by simp only [PyData.hasDict]
  | .bool _, _, _ => by simp only [PyData.hasDict]
  | .int _, _, _ => by simp only [PyData.hasDict]
  | .str _, _, _ => by simp only [PyData.hasDict]
  | .list ds, _, h => by
    cases h with
    | lst _ r => simp only [PyData.hasDict, noDict_all ds _ r]
  | .tuple ds, _, h => by
    cases h with
    | tup _ r => simp only [PyData.hasDict, noDict_all ds _ r]
  | .dict _, _, h => by cases h
theorem noDict_all {K : PySem.W.Frag} {H : Hp} : ∀ (ds : List PyData) (vs : List V), DpAll K H vs ds → PyData.hasDictAll ds = false
  | [], _, _ => by simp only [PyData.hasDictAll]
  | d :: ds, _, h => by
    cases h with
    | cons h1 h2 => simp only [PyData.hasDictAll, noDict_dp d _ h1, noDict_all ds _ h2, Bool.or_self]
end

theorem call_repr (hg : X.A.guards = some []) (hu : X.A.units + 64 < cLine) : CallR X (.builtin "repr") (rRepr X.K) := by
  intro pins s σ H xs us Q I r h
  obtain ⟨v, d, rfl, hd, hs, q⟩ := h
  obtain ⟨u, rfl, ru⟩ := vals1 r
  cases hd with
  | dp hd =>
    obtain ⟨as, R⟩ := Dp.reads I d v u hd ru
    have hnd := noDict_dp d v hd
    cases hd with
    | non =>
      cases ru
      refine PySem.P.repr_of_none ⟨.str _, H, I.tok _, ⟨_, rfl⟩, ?_⟩
      simpa only [PyData.shown] using q
    | bl b =>
      cases ru
      refine PySem.P.repr_of_bool ⟨.str _, H, I.tok _, ⟨_, rfl⟩, ?_⟩
      simpa only [PyData.shown] using q
    | int i =>
      obtain ⟨t, rfl⟩ := ru
      refine PySem.P.repr_of_int (by simpa [PyData.showable] using hs.sh) ⟨.str _, H, I.tok _, ⟨_, rfl⟩, ?_⟩
      simpa only [PyData.shown] using q
    | str x =>
      obtain ⟨t, rfl⟩ := ru
      refine PySem.P.repr_of_str ⟨.str _, H, I.tok _, ⟨_, rfl⟩, ?_⟩ (by simpa only [PyData.shown] using hs.len)
      simpa only [PyData.shown] using q
    | lst _ _ =>
      cases ru
      exact repr_of_reads' R hs.sh (PyData.noDict_hsm hnd) hg (by have := hs.dep; omega) (fun _ _ e => e) (fun h' w tk k => ⟨.str _, H, I.kept k, ⟨_, rfl⟩, q⟩) hs.len
    | tup _ _ =>
      cases ru
      exact repr_of_reads' R hs.sh (PyData.noDict_hsm hnd) hg (by have := hs.dep; omega) (fun _ _ e => e) (fun h' w tk k => ⟨.str _, H, I.kept k, ⟨_, rfl⟩, q⟩) hs.len
  | @dic a ha =>
    cases ru
    obtain ⟨_, hsm, vs, hkv, o, es, ep, ho, hx, hdat, _, hp, _⟩ := (show ObjOk X.prog X.w H s.heap a (.dK []) from I.hok a _ ha)
    cases hkv
    have hnil : es = #[] := by
      have z : es.toList.length = 0 := by
        have := hp.length
        simpa using this
      exact Array.eq_empty_of_size_eq_zero (by simpa using z)
    subst hnil
    have R : Reads s.heap (.ref a) (.dict []) ([a] ++ [] ++ []) := Reads.dict ho hx.1 hdat ReadsAll.nil ReadsAll.nil
    have hna : a ≠ sysModules := fun z => by
      rw [z] at hsm
      simp at hsm
    exact repr_of_reads' R hs.sh (fun _ z => by simp at z; exact hna z.symm) hg (by have := hs.dep; omega) (fun _ _ e => e) (fun h' w tk k => ⟨.str _, H, I.kept k, ⟨_, rfl⟩, q⟩) hs.len
end

/-! ### a def's promise, where no repr is under way around it -/
/-- the def at f keeps sp when called by position, in a state in which no list or tuple is being shown -/
def FnG (P : Program) (w : World) (K : PySem.W.Frag) (mg : Str → Option Value) (base : Heap) (C : CXT) (k : Nat) (f : Addr) (sp : Sp) : Prop :=
  ∀ (A : Around) (outer : List Env) (s : Shared) (H : Hp) (us : List Value) (vs : List V) (Q : VK) (E : XK), Room k A → A.guards = some [] →
    Env0 P w K mg base A outer s H → Vals vs us → sp vs H Q E → codeAny (model P w) A (.call (.ref f) ⟨us, []⟩) (CR C outer P w H s Q E) s
section
variable {P : Program} {w : World} {K : PySem.W.Frag} {mg : Str → Option Value} {base : Heap} {C : CXT} {j k : Nat} {f : Addr} {sp : Sp}
theorem FnG.up (F : FnG P w K mg base C j f sp) (h : j ≤ k) : FnG P w K mg base C k f sp :=
  fun A outer s H us vs Q E hr => F A outer s H us vs Q E (hr.mono h)
theorem fnG_of_ok {fd : FuncData} {ps : List Str} (F : FnOk P w K mg base C k f fd ps sp) (hb : Binds K fd ps []) : FnG P w K mg base C k f sp := by
  intro A outer s H us vs Q E hr _ e0 r hs
  have hl : us.length = ps.length := r.length ▸ F.len _ _ _ _ hs
  have KX : K.In s.heap := e0.mod.kin.keeps fun b o e => (e0.bs b o e).1
  have b := hb s us KX (by simpa using hl)
  rw [List.append_nil] at b
  exact F.run A outer s H ⟨us, []⟩ us vs Q E hr e0 b r hs
/-- a def by its body, told that nothing is being shown -/
theorem fnG_body {x qual : Str} {params : Arguments} {body : List Stmt} {scope : Scope} {dvs : List V} {kws : List (Str × V)} {fd : FuncData} {N ps : List Str}
    (F : FunD K x qual params body scope dvs kws f fd) (S : FnScope N ps scope) (hb : Binds K fd ps []) (len : ∀ vs H Q E, sp vs H Q E → vs.length = ps.length)
    (hbody : ∀ (cdv : Value) (A : Around) (outer : List Env) (s : Shared) (H : Hp) (vs : List V) (Q : VK) (E : XK),
      Room k (A.deeper (envOfC qual scope s.heap.objs.size f cdv)) → A.guards = some [] → sp vs H Q E →
      ∃ t, PSs (cxOf C P w K mg base N qual scope f cdv A outer s H E) body t ∧ t { nx := fun _ H' => Q .non H', rt := Q } (start N vs) H) :
    FnG P w K mg base C (k + 1) f sp := by
  obtain ⟨oc, od, dV, kV, doc, pm, an, cdv, ct, osl, rfl, lk, hcd, _, _⟩ := F.ex
  intro A outer s H us vs Q E hr hg e0 r hsp
  have hl := len _ _ _ _ hsp
  have stays : ∀ b o, base.get? b = some o → s.heap.get? b = some o := fun b o e => (e0.bs b o e).1
  have KX := e0.mod.kin.keeps stays
  have lim := e0.mod.nolimit.keeps stays
  have hul : us.length = ps.length := r.length ▸ hl
  have bind0 := hb s us KX (by simpa using hul)
  rw [List.append_nil] at bind0
  have kinds : ∀ y ∈ ps.zip us, scope.names.lookup y.1 = some .local ∨
      (scope.names.lookup y.1 = some .cell ∧ ((cellsFrom (s.heap.objs.size + 1) scope.names []).lookup y.1).isSome = true) := by
    intro y hy
    rcases S.par y.1 (List.of_mem_zip (a := y.1) (b := y.2) hy).1 with q | q
    · exact Or.inl q
    · exact Or.inr ⟨q, PySem.W.cellsFrom_some _ _ _ (Or.inl q)⟩
  refine codeAny_call_function hr.depth (KX _ _ lk) rfl S.co S.gen rfl (PySem.W.codeRec_of KX hcd) (bind0 _ _ _ _ ?_)
  refine wpAny_newFunctionEnv_cells S.kind kinds ?_
  rintro env rfl s1 ic
  refine ⟨lim.keeps ic.toInCall.keep, codeAny_func ?_⟩
  obtain ⟨t, ht, hq⟩ := hbody cdv A outer s H vs Q E (hr.deeper _) hg hsp
  have I := inv_start (CX := C) (N := N) (E := E) S hr.hd e0 hl r ic
  refine wpAny_mono (ht.run [] s1 (start N vs) H _ I hq) ?_ (fun _ _ z => z)
  intro fl s' hs
  cases fl with
  | ret u =>
    obtain ⟨v, σ', H', J, rv, q⟩ := hs
    exact ⟨v, H', J.os, J.bare, J.base, J.hok, rv, q⟩
  | next =>
    obtain ⟨σ', H', J, q⟩ := hs
    exact ⟨V.non, H', J.os, J.bare, J.base, J.hok, rfl, q⟩
  | brk =>
    obtain ⟨_, _, _, q⟩ := hs
    exact q.elim
  | cont =>
    obtain ⟨_, _, _, q⟩ := hs
    exact q.elim
end
section
variable {X : Cx} {C : CXT} {k : Nat} {f : Addr} {sp : Sp} {x : Str} {p pos : Pos} {e : Expr} {es : List Expr} {t : TA}
/-- f(e, ..) of such a def: what is raised is wished for at the caller's slots -/
theorem pe_callG {E : L2.St → XK} (F : FnG X.prog X.w X.K X.mg X.base C k f sp) (hr : Room k X.A) (hgd : X.A.guards = some []) (hg : Gl X x) (hm : X.mg x = some (.ref f))
    (hk : PySem.W.keepIn X.K (.ref f) = true) (hx : ∀ σ, PassesAt C X σ (E σ)) (ha : PA X (e :: es) t) (hdb : (x == ("__debug__" : Str)) = false := by decide)
    (he : starEach (e :: es) X.env = (false, eval e X.env) :: starEach es X.env := by rfl) (hpl : (backTo pos (starEach es X.env)).any (·.1) = false := by rfl) :
    PE X (.Call (.Name x p) (e :: es) [] pos) (tCallS sp E t) := by
  refine ⟨fun pins s σ H Q I h => ?_⟩
  refine wpAny_Call_Name_kw (ld_glob I hg hm ?_ hdb)
  refine PySem.W.callWith_K (h₀ := X.base) I.ok.mod.kin hk (thn (ha.run pos pins s σ H _ I h) ?_) he hpl
  rintro us s1 ⟨vs, H1, I1, r, q⟩
  refine ⟨I1.kIn, wpAny_call (codeAny_mono (F X.A X.stack s1 H1 us vs Q (E σ) hr hgd I1.env0 r q) ?_)⟩
  intro res s' hq
  cases res with
  | error er => exact hx σ pins H1 s1 er s' I1 hq
  | ok fl =>
    cases fl with
    | ret u => exact I1.after hq
    | next => exact hq.elim
    | brk => exact hq.elim
    | cont => exact hq.elim
end
end Mc
/-! McEnd: a law's end, its def promised by FnG. -/
namespace Mc
open PySem PySem.Spec PyProof.Rows L2

/-- the script is tracked, locked, unless it is an object of the written part -/
theorem script_heap {P : Program} {w : World} {K : PySem.W.Frag} {h : Heap} {a : Addr} {vs : List Value} {ns : List Int} (KX : K.In h)
    (ha : h.get? a = some { cls := .type "list", data := .seq vs.toArray }) (hi : IntsAre vs ns) (hl : ns.length ≤ sizeLine) :
    ∃ H : Hp, Only H ∧ SqL K H a (ns.map V.int) ∧ HOk P w H h ∧ ∀ b u, H b = some u → b = a ∧ K.lookup a = none := by
  have rv := vals_ints hi
  have lv := hi.length
  cases hk : K.lookup a with
  | some o =>
    have e := KX a o hk
    rw [ha] at e
    cases e
    refine ⟨fun _ => none, fun _ => Or.inl rfl, Or.inr ⟨_, vs.toArray, _, hk, rfl, rfl, rfl, ?_, ?_⟩, (fun b u z => nomatch (show (none : Option HO) = some u from z)), (fun b u z => nomatch (show (none : Option HO) = some u from z))⟩
    · rw [List.size_toArray, lv]
      exact hl
    · simpa using rv
  | none =>
    have at_a : ∀ o : HO, upd (fun _ => none) a o a = some o := fun o => upd_same
    refine ⟨upd (fun _ => none) a (.frz { cls := .type "list", data := .seq vs.toArray } (.lst (ns.map V.int))), fun b => ?_, Or.inl (Or.inr ⟨_, upd_same⟩), fun b u z => ?_, fun b u z => ?_⟩
    · by_cases hb : b = a
      · subst hb
        exact Or.inr ⟨_, _, upd_same⟩
      · exact Or.inl (upd_ne hb)
    · by_cases hb : b = a
      · subst hb
        rw [upd_same] at z
        cases z
        exact ⟨ha, by rw [List.length_map]; exact hl, vs, _, rv, ha⟩
      · rw [upd_ne hb] at z
        cases z
    · by_cases hb : b = a
      · exact ⟨hb, rfl⟩
      · rw [upd_ne hb] at z
        cases z

theorem law_callG {P : Program} {w : World} {K : PySem.W.Frag} {mg mb : Str → Option Value} {C : CXT} {k : Nat} {fa a : Addr} {sp : Sp} {s : Shared} {vs : List Value} {ns : List Int}
    (KX : K.In s.heap) (hns : s.heap.Ns mainGlobals mg) (hb : s.heap.Ns builtinsNs mb) (hbb : ∀ x : Str, x ≠ "__name__" → mb x = bootBuiltins x) (hlim : s.heap.NoLimit)
    (hg : s.gens = #[]) (ha : s.heap.get? a = some { cls := .type "list", data := .seq vs.toArray }) (hi : IntsAre vs ns) (hl : ns.length ≤ sizeLine) (hr : Room k callerA)
    (F : ∀ base : Heap, K.In base → base.Ns mainGlobals mg → FnG P w K mg base C k fa sp)
    (hsp : ∀ H : Hp, Only H → SqL K H a (ns.map V.int) → sp [.ref a] H (fun v _ => v = .bl true) fun _ _ _ => False)
    (hC : ∀ H e s', C [] H s (fun _ _ _ => False) e s' → False) :
    codeAny (model P w) callerA (.call (.ref fa) ⟨[.ref a], []⟩) (fun r s' => r = .ok (.ret (.bool true)) ∧ OldK s.heap s'.heap ∧ s'.os = s.os ∧ AllBare s'.gens) s := by
  obtain ⟨H, hO, hS, hok, hA⟩ := script_heap (P := P) (w := w) KX ha hi hl
  have dictFree : ∀ {b : Addr} {o : Obj} {es : Array DictEntry} {ep : Nat}, s.heap.get? b = some o → o.data = .dict es ep → H b = none := by
    intro b o es ep e dd
    cases q : H b with
    | none => rfl
    | some u =>
      obtain ⟨rfl, _⟩ := hA b u q
      rw [ha] at e
      cases e
      cases dd
  have ns1 : ∀ {b : Addr} {m : Str → Option Value}, s.heap.Ns b m → (hidT s.heap H).Ns b m := by
    rintro b m ⟨o, es, ep, e, dd, r⟩
    exact ⟨o, es, ep, hidT_get e (dictFree e dd), dd, r⟩
  have kin : K.In (hidT s.heap H) := by
    intro b o e
    refine hidT_get (KX b o e) ?_
    cases q : H b with
    | none => rfl
    | some u =>
      obtain ⟨rfl, z⟩ := hA b u q
      rw [z] at e
      cases e
  obtain ⟨mc, l1, l2⟩ := hlim
  have md : L2.Mod K mg (hidT s.heap H) := ⟨kin, ns1 hns, ⟨mb, ns1 hb, hbb⟩, ⟨mc, ns1 l1, l2⟩⟩
  have e0 : Env0 P w K mg (hidT s.heap H) callerA [] s H :=
    ⟨rfl, md, fun b o e => of_hidT e, Nat.le_of_eq (hidT_size _ _), trivial, (fun b z => nomatch (show b ∈ ([] : List Addr) from z)), hok, AllBare.of_eq hg⟩
  refine codeAny_mono (F _ kin (ns1 hns) callerA [] s H [.ref a] [.ref a] _ _ hr rfl e0 (.cons rfl .nil) (hsp H hO hS)) ?_
  intro r s' h
  cases r with
  | error e => exact (hC H e s' h).elim
  | ok fl =>
    cases fl with
    | next => exact h.elim
    | brk => exact h.elim
    | cont => exact h.elim
    | ret u =>
      obtain ⟨v, H', os, bare, un, hok', rv, q⟩ := h
      have q' : v = .bl true := q
      subst q'
      have eu : u = Value.bool true := rv
      subst eu
      refine ⟨rfl, OldK.of_keep fun b o e => ?_, os, bare⟩
      cases q : H b with
      | none => exact un.keep b o e q (fun z => nomatch (show b ∈ ([] : List Addr) from z)) (fun z => nomatch (show b ∈ ([] : List Addr) from z))
      | some u =>
        rcases hO b with z | ⟨ob, xs, z⟩
        · rw [q] at z
          cases z
        · obtain ⟨e1, _⟩ := hok b _ z
          obtain ⟨e2, _⟩ := hok' b _ (un.frzs b ob _ z)
          rw [e] at e1
          cases e1
          exact e2

/-- a law's end over a head by facts -/
theorem walk_ofG {l : PySem.W.OpenLaw} {n k : Nat} {q : Program} {loose : List Str} {XP : (Str → Option Value) → Heap → Prop} {YP : World → Heap → Prop} {d : DefRec} {C : World → CXT}
    (hn : l.most = some n) (hn2 : n ≤ sizeLine) (hdf : d.params.defaults = []) (hr : Room k callerA)
    (F : ∀ (w : World) (mg : Str → Option Value) (fa : Addr) (h : Heap), YP w h → h.Ns mainGlobals mg → mg d.name = some (.ref fa) →
      ∃ (K : PySem.W.Frag) (sp : Sp), K.In h ∧
        (∀ (H : Hp) (a : Addr) (ns : List Int), ns.length ≤ n → Only H → SqL K H a (ns.map V.int) → sp [.ref a] H (fun v _ => v = .bl true) fun _ _ _ => False) ∧
        ∀ base : Heap, K.In base → base.Ns mainGlobals mg → FnG l.prog w K mg base (C w) k fa sp)
    (hC : ∀ (w : World) (H : Hp) (s : Shared) (e : Value) (s' : Shared), C w [] H s (fun _ _ _ => False) e s' → False) :
    PySem.W.WalkO q loose XP YP l.row.toRowW d [] (fun f vs => PySem.call f vs) := by
  refine Att.attach_call hn hdf ?_
  intro w s₀ s₁ mg mb fa o pm cd doc a vs ns G Y ho hd hcd hmg hobj hints hlen hg
  obtain ⟨K, sp, KX, hsp, hF⟩ := F w mg fa _ Y G.T.g hmg
  exact law_callG KX G.T.g G.T.b G.T.builtins G.T.nolimit hg hobj hints (Nat.le_trans hlen hn2) hr hF (fun H hO hS => hsp H a ns hlen hO hS) fun H e s' => hC w H s₁ e s'
end Mc
/-! McExc: the package's exceptions: MeetcellsError, whose __init__ says super().__init__(text) and self.value = value, and the classes directly under it. -/
namespace Mc
open PySem PySem.Spec PyProof.Rows L2 PySem.HandSPX

/-! ### the text of __init__, wherever it stands -/
def meA (p1 p2 : Pos) : Arguments := { posonlyargs := [], args := [{ arg := "self", annotation := none, pos := p1 }, { arg := "value", annotation := none, pos := p2 }], vararg := none, kwonlyargs := [], kw_defaults := [], kwarg := none, defaults := [] }
def meB (msg : Str) (j : Nat) (q0 q1 q2 q3 q4 q5 q6 q7 q8 q9 : Pos) : List Stmt :=
  [.Expr (.Call (.Attribute (.Call (.Name "super" q0) [] [] q1) "__init__" q2) [.Constant (.str msg) j q3] [] q4) q5,
   .Assign [.Attribute (.Name "self" q6) "value" q7] (.Name "value" q8) q9]
def meS : Scope := { kind := .function, names := [(PySem.Str.ofString "self", .local), (PySem.Str.ofString "value", .local), (PySem.Str.ofString "__class__", .free), (PySem.Str.ofString "super", .globalImplicit)], isGenerator := false, isCoroutine := false, more := [] }

/-- the call super().__init__(text) stands on one line -/
def OneLine (msg : Str) (j : Nat) (q0 q1 q2 q3 q4 : Pos) : Prop := ∀ env : Env, ∃ pl : Sem Bool,
  eval (.Call (.Attribute (.Call (.Name "super" q0) [] [] q1) "__init__" q2) [.Constant (.str msg) j q3] [] q4) env = (do
    let ov ← attributeBase (.Call (.Name "super" q0) [] [] q1) "__init__" env (eval (.Call (.Name "super" q0) [] [] q1) env)
    standAt q2.atName
    let (f, first) ← holding [ov] (getMethod ov "__init__" pl)
    callWith q4 f first (backTo q4 (starEach [.Constant (.str msg) j q3] env)) [])
/-- what the written part says of MeetcellsError's __init__, at fI; the class stands at D -/
structure MeInit (P : Program) (K : PySem.W.Frag) (D fI : Addr) : Prop where
  fn : ∃ (oc : Value) (od : Option Addr) (kV doc pm : Value) (an : Option Addr) (cda : Addr) (ct : Value) (cc : Addr) (osl : Array (Option Value)) (msg : Str) (j : Nat) (p1 p2 q0 q1 q2 q3 q4 q5 q6 q7 q8 q9 : Pos)
    (ccl : Value) (cdd : Option Addr) (vs : Array Value) (ccs : Array (Option Value)) (file : Str) (tf : Tok) (cl : Value) (cld : Option Addr) (csl : Array (Option Value)),
    K.lookup fI = some ⟨oc, od, .func (PySem.W.ksFn "__init__" "MeetcellsError.__init__" (meA p1 p2) (meB msg j q0 q1 q2 q3 q4 q5 q6 q7 q8 q9) meS .none kV doc pm an (.ref cda) ct cc), osl⟩ ∧
    PySem.W.codeIn K (.ref cda) "MeetcellsError.__init__" = true ∧ K.lookup cda = some ⟨ccl, cdd, .fields vs, ccs⟩ ∧ vs[2]? = some (.str file tf) ∧ ((P.main.file : Str) == file) = true ∧
    K.lookup cc = some ⟨cl, cld, .cell (some (.ref D)), csl⟩ ∧ OneLine msg j q0 q1 q2 q3 q4
  top : (P.main.scope.names.lookup ("super" : Str)).isSome = false
  clsD : ∃ cd, PySem.W.clsIn K D = some cd
  opq : PySem.W.nsIn K cStatics "thirdparty.any" = some none
  tI : PySem.W.typeIn K (.ref fI) = some (.type "function")

/-- .. of a class of the package, at C -/
structure MeCls (K : PySem.W.Frag) (D fI C : Addr) : Prop where
  cls : ∃ nm q N bs bm sn sub ab col dd k0 k1 k2 k3 k5, K.lookup C = some (excClassObj nm q C N bs bm true sn sub ab col dd k0 k1 k2 k3 k5 "ValueError.__new__") ∧ refsVE bm = true ∧
    ((Value.ref C :: bm).dropWhile (· != .ref D)).drop 1 = veTail ∧ (Value.ref C :: bm).contains (.ref D) = true
  sa : PySem.W.findIn K (.ref C) "__setattr__" = some (some (.builtin "object.__setattr__"))
  ga : PySem.W.findIn K (.ref C) "__getattribute__" = some (some (.builtin "BaseException.__getattribute__"))
  gg : PySem.W.findIn K (.ref C) "__getattr__" = some none
  noV : PySem.W.findIn K (.ref C) "value" = some none
  iC : PySem.W.findIn K (.ref C) "__init__" = some (some (.ref fI))
  kC : PySem.W.keepIn K (.ref C) = true
  exC : PySem.W.subIn K (.ref C) (.type "BaseException") = some true
  tyC : PySem.W.typeIn K (.ref C) = some (.type "type")
  hdC : PySem.W.hasDictIn K C = true

theorem along_ve (K : PySem.W.Frag) : PySem.W.alongIn K "__init__" veTail = some (some (.builtin "ValueError.__init__")) := by kernel_rfl

/-- what __init__ leaves of a fresh exception at x -/
structure InitEnd (h h' : Heap) (x C dx : Addr) (v : Value) : Prop where
  keep : ∀ b o, b ≠ x → h.get? b = some o → h'.get? b = some o
  obj : ∃ t1, h'.get? x = some { cls := .ref C, dict := some dx, data := .fields #[.ref t1, .none, .none, .none, .bool false, .none] }
  dbig : h.objs.size ≤ dx
  dne : dx ≠ x
  ns : h'.Ns1 dx (fun y => if y = "value" then some v else none)
/-- a made exception -/
structure MeMade (h h' : Heap) (e C d : Addr) (v : Value) : Prop where
  keep : ∀ b o, h.get? b = some o → h'.get? b = some o
  new : h.objs.size ≤ e
  obj : ∃ t1, h'.get? e = some { cls := .ref C, dict := some d, data := .fields #[.ref t1, .none, .none, .none, .bool false, .none] }
  dbig : h.objs.size ≤ d
  dne : d ≠ e
  ns : h'.Ns1 d (fun y => if y = "value" then some v else none)

section
open PySem.W PySem.Calls
variable {prog : Program} {w : World} {A : Around} {E : Value → Shared → Prop} {R : Result → Shared → Prop} {s : Shared} {K : Frag} {mg mb : Str → Option Value} {D fI C : Addr}

theorem cls_data (T : MeCls K D fI C) : ∃ cd, clsIn K C = some cd ∧ refsVE cd.mro = true ∧ cd.hasDict = true ∧ (cd.mro.dropWhile (· != .ref D)).drop 1 = veTail ∧ cd.mro.contains (.ref D) = true ∧ cd.mro.isEmpty = false := by
  obtain ⟨nm, q, N, bs, bm, sn, sub, ab, col, dd, k0, k1, k2, k3, k5, hC, hbm, hdrop, hmem⟩ := T.cls
  refine ⟨{ name := nm, bases := bs, mro := .ref C :: bm, ns := N, qualname := q, hasDict := true, slotNames := sn, subclasses := sub, abstract := ab, collection := col, hasDel := false }, ?_, hbm, rfl, hdrop, hmem, rfl⟩
  unfold clsIn
  rw [hC]
  all_goals rfl

/-- ValueError.__init__ bound to the fresh exception e, called -/
theorem call_mw {h : Heap} {g : Array GenState} {d : Drawn} {t : Nat} {os : OsState} {nm q : Str} {N : Addr} {bs bm : List Value} {hdct : Bool} {sn : List Str} {sub : List Value} {ab : Bool} {col : Option Bool} {dd : Option Addr} {k0 k1 k2 k3 k5 : Option Value}
    {u e t0 : Addr} {rest : List Value} {Q : Value → Shared → Prop}
    (hC : h.get? C = some (excClassObj nm q C N bs bm hdct sn sub ab col dd k0 k1 k2 k3 k5 "ValueError.__new__")) (he : h.get? e = some (excO C t0)) (hu : h.get? u = some (kxs_mw "ValueError.__init__" e))
    (hrest : rest.length ≤ sizeLine)
    (hq : ∀ h' t1, (∀ b o, b ≠ e → h.get? b = some o → h'.get? b = some o) → h'.get? e = some (excO C t1) → Q .none ⟨h', g, d, t, os⟩) :
    wpAny (model prog w) A (call (.ref u) rest) Q E ⟨h, g, d, t, os⟩ := by
  have FB := PySem.F.excBase_ValueError
  refine wpAny_call (codeAny_of_tree ?_)
  show wpAny _ A.in1 (callAny (.ref u) ⟨rest, []⟩) _ _ _
  simp only [callAny]
  refine wpAny_bind (wpAny_load hu ?_)
  simp only [kxs_mw, show (Value.type "method-wrapper" == Value.type "method" || Value.type "method-wrapper" == Value.type "builtin_function_or_method" || Value.type "method-wrapper" == Value.type "method-wrapper") = true by decide, if_true]
  refine W.KFB.if_so (by decide) ?_
  refine wpAny_bind (check_bound_init FB.toExcCallFacts hC he rfl ?_)
  refine wpAny_bind (wpAny_pure (wpAny_pure ⟨Code.quiet_builtin _ (by decide +kernel), codeAny_builtin FB.initEntry ?_⟩))
  rw [Around.under_plainId FB.init.plain _]
  wp_walk
  refine hq _ h.objs.size (fun b o hb ho => ?_) ?_
  · exact (Heap.get?_update_other _ _ (Ne.symm hb)).trans (Heap.get?_push_of_some _ ho)
  · refine (Heap.get?_update_self _ (Heap.get?_push_of_some _ he) rfl).trans ?_
    rfl

theorem me_init (T : MeInit prog K D fI) (TC : MeCls K D fI C) {x t0 : Addr} {v : Value} (X : K.In s.heap) (hns : s.heap.Ns mainGlobals mg) (hbn : s.heap.Ns builtinsNs mb)
    (hsup : mg "super" = none) (hbs : mb "super" = some (.type "super")) (hlim : s.heap.NoLimit) (hx : s.heap.get? x = some (excO C t0)) (hnx : K.lookup x = none) (hroom : A.depth < recursionLimit)
    (hq : ∀ h' tk dx, InitEnd s.heap h' x C dx v → R (.ok (.ret .none)) { s with heap := h', toks := tk }) :
    codeAny (model prog w) A (.call (.ref fI) ⟨[.ref x, v], []⟩) R s := by
  obtain ⟨oc, od, kV, doc, pm, an, cda, ct, cc, osl, msg, j, p1, p2, q0, q1, q2, q3, q4, q5, q6, q7, q8, q9, ccl, cdd, vs, ccs, file, tf, cl, cld, csl, ho, hcd, hcode, hvs, hfile, hcell, hone⟩ := T.fn
  obtain ⟨cdD, hD⟩ := T.clsD
  obtain ⟨cd, hcls, hmro, hhd, hdrop, hmemD, hnemp⟩ := cls_data TC
  obtain ⟨nm, q, N, bs, bm, sn, sub, ab, col, dd, k0, k1, k2, k3, k5, hC, hbm, _, _⟩ := TC.cls
  refine ks_codeAny_call_defAt (fd := ksFn "__init__" "MeetcellsError.__init__" (meA p1 p2) (meB msg j q0 q1 q2 q3 q4 q5 q6 q7 q8 q9) meS .none kV doc pm an (.ref cda) ct cc)
    (body := meB msg j q0 q1 q2 q3 q4 q5 q6 q7 q8 q9) (binds := [("self", .ref x), ("value", v)]) hroom (X _ _ ho) rfl hlim (codeRec_of X hcd) rfl (BindsTo.of_eq (by first | rfl | with_unfolding_all rfl)) (show ∀ x ∈ meS.names, x.2 ≠ .cell by decide) (show ∀ y ∈ [(("self" : Str), Value.ref x), ("value", v)], meS.names.lookup y.1 = some .local by simp [meS, List.lookup]; decide) ?_
  intro h1 hn1 kp1
  have X1 : K.In h1 := X.keeps kp1
  have hx1 := kp1 _ _ hx
  have hxL : x ≠ s.heap.objs.size := Nat.ne_of_lt (Heap.lt_size hx)
  obtain ⟨oD, hD1, hD2⟩ : ∃ oD, h1.get? D = some oD ∧ oD.data = .cls cdD := by
    unfold clsIn at hD
    split at hD
    · rename_i lk
      cases hD
      exact ⟨_, X1 _ _ lk, rfl⟩
    · cases hD
  have hCx : x ≠ C := by
    rintro rfl
    have z := X _ _ hC
    rw [hx] at z
    cases z
  -- super().__init__(text)
  obtain ⟨pl, hev⟩ := hone (callEnv (ksFn "__init__" "MeetcellsError.__init__" (meA p1 p2) (meB msg j q0 q1 q2 q3 q4 q5 q6 q7 q8 q9) meS .none kV doc pm an (.ref cda) ct cc) s.heap.objs.size fI)
  refine ks_wpAt_execs_cons (ks_wpAt_Expr_any (ks_wpAt_MethodCall (pl := pl) ?_ hev))
  refine ks_wpAt_super_base (f := fI) (cc := cda) rfl rfl (by decide) rfl (X1 _ _ ho) rfl rfl rfl (X1 _ _ hcode) rfl hvs hfile T.top ?_
  refine ks_loadName_global rfl rfl (loadGlobal_builtin (hns.keeps kp1) hsup (hbn.keeps kp1) hbs ⟨rfl, ?_⟩)
  refine wpAny_loadName_free rfl rfl rfl ⟨_, X1 _ _ hcell, rfl⟩ ?_
  refine wpAny_loadName_local rfl rfl hn1 (by first | rfl | with_unfolding_all rfl | kernel_rfl) ?_
  obtain ⟨hp0, g, dr, tk, os⟩ := s
  refine ks_wpAny_isType_cls hD1 hD2 ⟨rfl, ?_⟩
  refine ks_wpAny_call_super (C := C) hD1 hD2 hx1 rfl (fun c z => nomatch z) (looks_mroIn X1 (by unfold mroIn; rw [hcls, Option.bind_some, if_neg (by rw [hnemp]; decide), hmemD])) ?_
  intro h2 hso kp2
  have X2 : K.In h2 := X1.keeps kp2
  have hx2 := kp2 _ _ hx1
  have I2 : InstAt h2 x (excO C t0) C none := ⟨hx2, rfl, rfl, trivial⟩
  have hIs : Looks (model prog w) h2 (isInstance (.ref x) (.type "ValueError")) true := I2.type.andThen (looks_mroIn X2 (by
    unfold mroIn
    rw [hcls, Option.bind_some, if_neg (by rw [hnemp]; decide), refsVE_contains "ValueError" _ hmro]
    decide +kernel))
  refine kxs_getMethod kxs_ValueError hso (looks_opaque X2 T.opq) (l₀ := cd.mro) ((looks_clsIn X2 hcls).andThen .now) hdrop X2 (along_ve K) hIs hCx (by decide) ?_
  have hlt : ∀ {b o}, h2.get? b = some o → (h2.push (kxs_mw "ValueError.__init__" x)).get? b = some o := fun e => Heap.get?_push_of_some _ e
  have hmw : (h2.push (kxs_mw "ValueError.__init__" x)).get? h2.objs.size = some (kxs_mw "ValueError.__init__" x) := Heap.get?_push_at rfl rfl
  refine kxs_callWith (i := "ValueError.__init__") (x := x) rfl ?_
  refine evalArgs_plain (Calls.spliced_cons ?_)
  refine wpAny_Constant_str (k := j) (pos := q3) ?_
  refine Calls.spliced_nil ⟨hmw, ?_⟩
  refine call_mw (X2.keeps (fun _ _ e => hlt e) _ _ hC) (hlt hx2) hmw (by show 1 ≤ sizeLine; rw [sizeLine_eq]; omega) ?_
  intro h3 t1 kp3 hx3
  -- self.value = value
  have kp23 : ∀ b o, b ≠ x → h1.get? b = some o → h3.get? b = some o := fun b o hb e => kp3 b o hb (hlt (kp2 _ _ e))
  have X3 : K.In h3 := by
    intro b o e
    refine kp23 b o ?_ (X1 b o e)
    rintro rfl
    rw [hnx] at e
    cases e
  have hn3 : h3.Ns hp0.objs.size (fun y => List.lookup y [((("self" : Str), Value.ref x)), ("value", v)].reverse) := by
    obtain ⟨oL, es, ep, hL, r⟩ := hn1
    exact ⟨oL, es, ep, kp23 _ _ (Ne.symm hxL) hL, r⟩
  refine ks_wpAt_execs_cons (ks_wpAt_Assign_Attr ?_)
  refine wpAt_of_wpAny (wpAny_Name (wpAny_loadName_local (m := fun y => List.lookup y [((("self" : Str), Value.ref x)), ("value", v)].reverse) rfl rfl hn3 (v := v) (by first | rfl | with_unfolding_all rfl | kernel_rfl) ?_))
  refine wpAny_Name (wpAny_loadName_local rfl rfl hn3 (v := .ref x) (by first | rfl | with_unfolding_all rfl | kernel_rfl) ?_)
  refine set_plain X3 (C := C) (ox := excO C t1) (od := none) ⟨hx3, rfl, rfl, trivial⟩ TC.sa ?_
  refine exc_osa X3 hx3 hcls hmro hhd TC.noV ?_
  intro h4 tk4 dx kp4 dbig dne hx4 hns4
  refine wpAt_of_wpAny (wpAny_execs_nil ?_)
  have hsz : hp0.objs.size ≤ h3.objs.size := by
    obtain ⟨oL, es, ep, hL, r⟩ := hn3
    exact Nat.le_of_lt (Heap.lt_size hL)
  exact hq h4 tk4 dx ⟨fun b o hb e => kp4 b o hb (kp23 b o hb (kp1 b o e)), ⟨t1, hx4⟩, Nat.le_trans hsz dbig, dne, hns4⟩

/-- C(v), called -/
theorem me_made (T : MeInit prog K D fI) (TC : MeCls K D fI C) {v : Value} (X : K.In s.heap) (hns : s.heap.Ns mainGlobals mg) (hbn : s.heap.Ns builtinsNs mb)
    (hsup : mg "super" = none) (hbs : mb "super" = some (.type "super")) (hlim : s.heap.NoLimit) (hroom : A.depth + 1 < recursionLimit)
    (hq : ∀ h' tk e d, MeMade s.heap h' e C d v → R (.ok (.ret (.ref e))) { s with heap := h', toks := tk }) :
    codeAny (model prog w) A (.call (.ref C) ⟨[v], []⟩) R s := by
  obtain ⟨nm, q, N, bs, bm, sn, sub, ab, col, dd, k0, k1, k2, k3, k5, hC, hbm, _, _⟩ := TC.cls
  obtain ⟨hp, g, dr, tk, os⟩ := s
  have k : ∀ b o, hp.get? b = some o → ((hp.push (kdv_tup [v])).push (excO C hp.objs.size)).get? b = some o := fun b o e => Heap.get?_push_of_some _ (Heap.get?_push_of_some _ e)
  have hget : ((hp.push (kdv_tup [v])).push (excO C hp.objs.size)).get? (hp.objs.size + 1) = some (excO C hp.objs.size) := by heap_get
  have hnx : K.lookup (hp.objs.size + 1) = none := by
    cases e : K.lookup (hp.objs.size + 1) with
    | none => rfl
    | some o => exact absurd (Nat.lt_of_succ_lt (Heap.lt_size (X _ _ e))) (Nat.lt_irrefl _)
  refine call_own PySem.F.excBase_ValueError (fun Y => refsVE_contains Y bm hbm) (X _ _ hC) (looks_findIn X TC.iC) (fun self => bind_fn X self T.tI) (by show 1 ≤ sizeLine; rw [sizeLine_eq]; omega) ?_
  refine me_init (s := ⟨(hp.push (kdv_tup [v])).push (excO C hp.objs.size), g, dr, tk, os⟩) T TC (X.keeps k) (hns.keeps k) (hbn.keeps k) hsup hbs (hlim.keeps k) hget hnx ?_ ?_
  · show A.depth + 1 < recursionLimit
    exact hroom
  · rintro h' tk' dx ⟨kp, ob, dn, dne, hn⟩
    have z : hp.objs.size + 1 + 1 ≤ dx := by
      have q := dn
      rw [Heap.size_push, Heap.size_push] at q
      exact q
    refine ⟨rfl, hq h' tk' (hp.objs.size + 1) dx ⟨fun b o e => kp b o (Nat.ne_of_lt (Nat.lt_succ_of_lt (Heap.lt_size e))) (k b o e), Nat.le_succ _, ob, ?_, dne, hn⟩⟩
    show hp.objs.size ≤ dx
    omega
end

/-! ### the rules: C(e) raised; its field read in a suite -/
section
variable {X : Cx} {D fI C : Addr}
theorem relO_val {v : V} {v' : Value} (r : RelV v v') (f : Str) : RelO (List.lookup f [(("value" : Str), v)]) (if f = "value" then some v' else none) := by
  by_cases hw : f = "value"
  · subst hw
    rw [if_pos rfl, show List.lookup ("value" : Str) [(("value" : Str), v)] = some v by simp [List.lookup]]
    exact r
  · have q : (f == ("value" : Str)) = false := by simpa using hw
    rw [if_neg hw, show List.lookup f [(("value" : Str), v)] = none by simp [List.lookup, q]]
    trivial
/-- C(e) -/
def tMkMe (C : Addr) (ta : TA) : L2.St → Hp → XK → Prop := fun σ H Q => ta σ H fun vs H1 => ∃ v, vs = [v] ∧ ∀ d, H1 d = none → Q (.ref C) (some d) (upd H1 d (.xd [(("value" : Str), v)]))
theorem pmk_me {x : Str} {a : Expr} {ta : TA} {p pos : Pos} {k : Nat} (T : MeInit X.prog X.K D fI) (TC : MeCls X.K D fI C) (hsup : X.mg "super" = none) (gC : X.mg x = some (.ref C)) (hr : Room k X.A) (ha : PA X [a] ta)
    (hg : Gl X x := by rfl) (hdb : (x == ("__debug__" : Str)) = false := by decide)
    (he : starEach (a :: []) X.env = (false, eval a X.env) :: starEach [] X.env := by rfl) (hpl : (backTo pos (starEach [] X.env)).any (·.1) = false := by rfl) :
    PMk X (.Call (.Name x p) [a] [] pos) (tMkMe C ta) := by
  intro pins s σ H Q I h
  refine wpAny_Call_Name_kw (ld_glob I hg gC ?_ hdb)
  refine PySem.W.callWith_K (h₀ := X.base) I.ok.mod.kin TC.kC (thn (ha.run pos pins s σ H _ I h) ?_) he hpl
  rintro us s1 ⟨vs, H1, I1, r1, v, rfl, q1⟩
  refine ⟨I1.kIn, ?_⟩
  obtain ⟨u, rfl, rv⟩ := vals1 r1
  show wpAny _ _ (call (.ref C) [u]) _ _ _
  obtain ⟨mb, hb1, hb2⟩ := I1.ok.mod.blt
  have hlim := I1.nolimit
  have hns : s1.heap.Ns mainGlobals X.mg := I1.ok.mod.glob.keeps I1.bk
  have hbn : s1.heap.Ns builtinsNs mb := hb1.keeps I1.bk
  obtain ⟨hp, g, dr, tk, os⟩ := s1
  refine wpAny_call (me_made T TC I1.kIn hns hbn hsup ((hb2 _ (by decide)).trans (by decide +kernel)) hlim (by have := hr.dp; omega) ?_)
  intro h' tk' e d M
  obtain ⟨t1, hoe⟩ := M.obj
  obtain ⟨G, g1, g2⟩ := restrict h' fun b => decide (b ≠ e)
  have gk : ∀ b, b ≠ e → G.get? b = h'.get? b := fun b hb => g1 b (decide_eq_true hb)
  have ge : G.get? e = none := g2 e (by simp)
  have old : ∀ b o, hp.get? b = some o → G.get? b = some o := fun b o q => (gk b (Nat.ne_of_lt (Nat.lt_of_lt_of_le (Heap.lt_size q) M.new))).trans (M.keep b o q)
  have ob : ObjOk X.prog X.w (upd H1 d (.xd [(("value" : Str), v)])) G d (.xd [(("value" : Str), v)]) :=
    ⟨_, M.ns.at (fun o q => (gk d M.dne).trans q), fun f => relO_val rv f⟩
  have J : Inv X pins σ (upd H1 d (.xd [(("value" : Str), v)])) ⟨G, g, dr, tk', os⟩ := I1.laid (t' := tk') old M.dbig ob
  refine ⟨e, _, _, ⟨G, g, dr, tk', os⟩, _, .ref C, some d, rfl, J, fun b o q => ?_, ge, hoe, ⟨rfl, rfl⟩, rfl, rfl, ?_, rfl, I1.bare, raises_own TC.exC TC.tyC, q1 d (I1.hok.fresh M.dbig)⟩
  · have hb : b ≠ e := fun z => by
      have q' : G.get? b = some o := q
      rw [z, ge] at q'
      cases q'
    exact (gk b hb).symm.trans q
  · rw [upd_ne (Ne.symm M.dne)]
    exact I1.hok.fresh M.new
/-- raise C(e) -/
def tRaiseMe (C : Addr) (W : WX) (ta : TA) : TS := fun _ σ H => tMkMe C ta σ H fun cls d H' => W cls d σ H'
theorem ps_raiseMe {x : Str} {a : Expr} {ta : TA} {W : WX} {p pos pos2 : Pos} {k : Nat} (hc : X.calm = true) (T : MeInit X.prog X.K D fI) (TC : MeCls X.K D fI C) (hsup : X.mg "super" = none) (gC : X.mg x = some (.ref C)) (hr : Room k X.A) (tk : Takes X W)
    (ha : PA X [a] ta) (hg : Gl X x := by rfl) (hdb : (x == ("__debug__" : Str)) = false := by decide)
    (he : starEach (a :: []) X.env = (false, eval a X.env) :: starEach [] X.env := by rfl) (hpl : (backTo pos (starEach [] X.env)).any (·.1) = false := by rfl) :
    PS X (.Raise (some (.Call (.Name x p) [a] [] pos)) none pos2) (tRaiseMe C W ta) := ps_raise hc tk (pmk_me T TC hsup gC hr ha hg hdb he hpl)
/-- e.value, e the exception that the suite holds (at a; its class cls, its dict d) -/
def tValMe (C : Addr) (a : Addr) (cls : Value) (d : Option Addr) (te : TE) : TE := fun σ H Q => te σ H fun x H1 => x = .ref a ∧ cls = .ref C ∧ ∃ (dd : Addr) (v : V), d = some dd ∧ H1 dd = some (.xd [(("value" : Str), v)]) ∧ Q v H1
theorem pe_valMe {a : Addr} {oe : Obj} {cls : Value} {d : Option Addr} {pn : List (Addr × Obj)} {e : Expr} {te : TE} {pos : Pos} (TC : MeCls X.K D fI C) (hz : Zc cls d oe) (hf : ∃ vs, oe.data = .fields vs) (he : PE (X.suite a ((a, oe) :: pn)) e te)
    (hb : attributeBase e "value" X.env (eval e X.env) = eval e X.env := by rfl) :
    PE (X.suite a ((a, oe) :: pn)) (.Attribute e "value" pos) (tValMe C a cls d te) := by
  refine ⟨fun pins s σ H Q I h => ?_⟩
  refine attr_of hb (thn (he.run pins s σ H _ I h) ?_)
  rintro u s1 ⟨x, H1, I1, rx, ex, ec, dd, v, ed, ea, q⟩
  subst ex
  obtain rfl : u = Value.ref a := rx
  subst ec
  subst ed
  obtain ⟨ha, _⟩ := I1.pin (a, oe) (List.mem_append_left _ List.mem_cons_self)
  obtain ⟨vs, hd⟩ := hf
  obtain ⟨mA, hns, hr⟩ := (show ObjOk X.prog X.w H1 s1.heap dd (.xd [(("value" : Str), v)]) from I1.hok dd _ ea)
  obtain ⟨od, ho, hl⟩ := lookIn_ns hns
  have l : List.lookup ("value" : Str) [(("value" : Str), v)] = some v := by simp [List.lookup]
  obtain ⟨u, hu, ru⟩ := RelO.some_of (v := v) (o := mA "value") (by rw [← l]; exact hr "value")
  have J : PySem.W.InstAt s1.heap a oe C (some od) := ⟨ha, hz.1, by unfold PySem.W.notCls; rw [hd] <;> rfl, by rw [hz.2]; exact ho⟩
  exact exc_get I1.kIn J TC.ga TC.gg TC.exC (PySem.W.findObj_own TC.hdC TC.noV rfl (by rw [hl, hu])) (handed_of ru) ⟨v, H1, I1.tok _, ru, q⟩
end
end Mc
/-! McTry: several except clauses, each with a name or without. -/
namespace Mc
open PySem PySem.Spec PyProof.Rows L2

/-- a clause's class, its name's slot (if it has one), its suite's reading -/
abbrev Clause : Type := Value × Option Nat × (Addr → Value → Option Addr → TS)
/-- behind a suite the clause's name is gone -/
def gone (i : Nat) (D : Ends) : Ends where
  nx := fun τ G => D.nx (τ.set i none) G
  rt := D.rt
  bk := fun τ G => D.bk (τ.set i none) G
  ct := fun τ G => D.ct (τ.set i none) G
def wMix (K : PySem.W.Frag) (Wout : WX) (D : Ends) : List Clause → WX
  | [] => Wout
  | (c, none, ts) :: r => fun cls d σ H => ∃ b, PySem.W.exmOne K cls c = some b ∧
      (b = true → ∀ a, H a = none → ts a cls d D σ H) ∧ (b = false → wMix K Wout D r cls d σ H)
  | (c, some i, ts) :: r => fun cls d σ H => ∃ b, PySem.W.exmOne K cls c = some b ∧
      (b = true → ∀ a, H a = none → ts a cls d (gone i D) (σ.set i (some (.ref a))) H) ∧ (b = false → wMix K Wout D r cls d σ H)
/-- a suite by its reading -/
def SuiteOk (X : Cx) (suite : List Stmt) (ts : Addr → Value → Option Addr → TS) : Prop :=
  ∀ (a : Addr) (oe : Obj) (cls : Value) (d : Option Addr) (pn : List (Addr × Obj)), Zc cls d oe → (∃ vs, oe.data = .fields vs) → PSs (X.suite a ((a, oe) :: pn)) suite (ts a cls d)
inductive HdsMix (X : Cx) : List ExceptHandler → List Clause → Prop
  | nil : HdsMix X [] []
  | bare {x : Str} {c : Value} {ts : Addr → Value → Option Addr → TS} {b0 : Stmt} {su : List Stmt} {np hp : Pos} {hds : List ExceptHandler} {l : List Clause}
      (hc : Names X x c) (hsu : SuiteOk X (b0 :: su) ts) (r : HdsMix X hds l) : HdsMix X (.ExceptHandler (some (.Name x np)) none (b0 :: su) hp :: hds) ((c, none, ts) :: l)
  | named {x n : Str} {i : Nat} {c : Value} {ts : Addr → Value → Option Addr → TS} {b0 : Stmt} {su : List Stmt} {np hp : Pos} {hds : List ExceptHandler} {l : List Clause}
      (hi : X.N[i]? = some n) (hl : X.env.kindOf n = some .local) (hc : Names X x c) (hsu : SuiteOk X (b0 :: su) ts) (r : HdsMix X hds l) :
      HdsMix X (.ExceptHandler (some (.Name x np)) (some n) (b0 :: su) hp :: hds) ((c, some i, ts) :: l)

section
variable {X : Cx} {body : List Stmt} {h₀ : ExceptHandler} {hds : List ExceptHandler} {l : List Clause} {pos : Pos} {tb : WX → TS} {Wout : WX}
theorem ps_try_mix (hs : X.stack = X.env :: X.outer) (hf : X.env.frame = some X.env.locals) (hN : X.N.Nodup) (tk : Takes X Wout)
    (hb : ∀ (W : WX) (pn : List (Addr × Obj)) (xe : Value → Shared → Prop), Takes (X.tr pn xe) W → PassesOwn (model X.prog X.w) X.A X.env xe → PSs (X.tr pn xe) body (tb W))
    (hh : HdsMix X (h₀ :: hds) l) : PS X (.Try body (h₀ :: hds) [] [] pos) (fun D σ H => tb (wMix X.K Wout D l) D σ H) := by
  constructor
  intro pins s σ H D I h
  have ok := I.ok
  have hfr : X.A.frames = some (X.env :: X.outer) := hs ▸ ok.frames
  refine wpAny_Try_except ?_
  refine wpAny_mono ((hb (wMix X.K Wout D l) (X.pn ++ pins) (fun e s₁ => wpAny (model X.prog X.w) X.A (noteFrame e X.env) (fun _ s₂ => wpAny (model X.prog X.w) X.A (setFlight e none)
    (fun _ s₃ => wpAny (model X.prog X.w) X.A (handleBy e X.env (h₀ :: hds)) (SP X pins D) X.xe s₃) X.xe s₂) X.xe s₁) ?caught PassesOwn.looking).run [] s σ H D (I.toTry _) h) ?done (fun e s1 he => he)
  case done =>
    intro f s1 hsp
    cases f with
    | ret u =>
      obtain ⟨v, σ', H', J', r, q⟩ := hsp
      exact ⟨v, σ', H', J'.ofTry ok, r, q⟩
    | next =>
      obtain ⟨σ', H', J', q⟩ := hsp
      refine wpAny_execs_nil ⟨σ', H', J'.ofTry ok, q⟩
    | brk =>
      obtain ⟨σ', H', J', q⟩ := hsp
      refine ⟨σ', H', J'.ofTry ok, q⟩
    | cont =>
      obtain ⟨σ', H', J', q⟩ := hsp
      refine ⟨σ', H', J'.ofTry ok, q⟩
  case caught =>
    rintro u s' ⟨a, B, sI, pins', σ', H', cls, d, rfl, J', nb, up, sky, na, os, ag, wish⟩
    have J : Inv X pins σ' H' sI := J'.ofTry ok
    show wpAny (model X.prog X.w) X.A (noteFrame (.ref a) X.env) _ _ _
    refine Sky.land Zc.steady hfr hf (hs ▸ sky) ?_
    intro h3 fl3 up3
    have J3 : Inv X pins σ' H' { s' with heap := h3 } := J.landed nb fl3.1 (up.trans up3) os ag
    obtain ⟨oe3, vs3, he3, hz3, hd3⟩ := fl3.there
    have nfr : a ∉ frs (X.env :: X.outer) := by
      intro hm
      obtain ⟨_, o', e', hnf⟩ := fl3.2.2.1.mem hm
      rw [he3] at e'
      cases e'
      exact hnf _ hd3
    have nL : a ≠ X.env.locals := fun z => nfr (List.mem_filterMap.mpr ⟨X.env, List.mem_cons_self, hf.trans (congrArg some z.symm)⟩)
    have nF : a ∉ X.fs := by
      intro hm
      obtain ⟨e, he, q⟩ := List.mem_filterMap.mp hm
      exact nfr (List.mem_filterMap.mpr ⟨e, List.mem_cons_of_mem _ he, q⟩)
    have S3 := J3.suite he3 hd3 na nL nF
    -- a clause's test
    have test : ∀ {x : Str} {c : Value} {np : Pos} {Q : Value → Shared → Prop} {E : Value → Shared → Prop}, Names X x c → Q c { s' with heap := h3 } →
        wpAny (model X.prog X.w) (X.A.mark (some (.ref a))) (eval (.Name x np) X.env) Q E { s' with heap := h3 } := by
      rintro x c np Q E ⟨hg, hdbg, hm | ⟨hm, hv, hnn⟩⟩ q
      · exact ld_glob (X := X.suite a ((a, oe3) :: (X.pn ++ pins))) S3 hg hm q hdbg
      · exact ld_blt (X := X.suite a ((a, oe3) :: (X.pn ++ pins))) S3 hg hm hv q hnn hdbg
    have LT : PySem.W.Looks (model X.prog X.w) h3 (typeOf (.ref a)) cls := by
      intro A Q E s k q
      refine wpAny_typeOf_ref (k _ _ he3) ?_
      rw [hz3.1]
      exact q
    have go : ∀ {hds' : List ExceptHandler} {l' : List Clause}, HdsMix X hds' l' → wMix X.K Wout D l' cls d σ' H' →
        wpAny (model X.prog X.w) X.A (handleBy (.ref a) X.env hds') (SP X pins D) X.xe { s' with heap := h3 } := by
      intro hds' l' hk
      induction hk with
      | nil =>
        intro w
        refine wpAny_handleBy_nil ?_
        obtain ⟨_, _, _, oe, vs, T, oT, ts', he, hz, hd, h1, hr⟩ := id fl3
        unfold PySem.passOn
        refine wpAny_bind (wpAny_field he hd h1 ?_)
        rw [if_neg (show ¬ ((Value.ref T == Value.none) = true) from by simp)]
        have last : wpAny (model X.prog X.w) X.A (setFlight (.ref a) X.env.frame) (fun _ s4 => wpAny (model X.prog X.w) X.A (throw (.ref a) : Sem Flow) (SP X pins D) X.xe s4) X.xe { s' with heap := h3 } := by
          rw [hf]
          refine HandSPX.setFlight_upZ fl3 ?_
          intro h4 hh4 up4
          refine wpAny_throw (tk _ _ ⟨a, B, sI, pins, σ', H', cls, d, rfl, J, nb, (up.trans up3).trans up4, ?_, na, os, ag, w⟩)
          exact Or.inr (Or.inr (hs ▸ hh4))
        first
          | exact wpAny_bind (wpAny_pure (wpAny_bind last))
          | exact wpAny_bind last
      | bare hc hsu r ih =>
        rintro ⟨b, hb1, hyes, hno⟩
        refine wpAny_handleBy_cons (codeAny_handlers_test ?_) (by intro q; cases q)
        refine test hc ((PySem.W.exm_one (M := model X.prog X.w) J3.kIn LT hb1).here ?_)
        cases b with
        | false => exact ih (hno rfl)
        | true =>
          refine codeAny_handlers_suite (HandSPX.lands_againZ fl3 ?_)
          intro h4 fl4 up4
          obtain ⟨oe4, vs4, he4, hz4, hd4⟩ := fl4.there
          have S4 := (J.landed (s' := { s' with heap := h4 }) nb fl4.1 ((up.trans up3).trans up4) os ag).suite he4 hd4 na nL nF
          refine wpAny_mono ((hsu a oe4 cls d (X.pn ++ pins) hz4 ⟨_, hd4⟩).run [] _ _ H' _ S4 (hyes rfl a na)) ?_ (fun _ _ z => z.elim)
          intro f s6 hsp
          cases f with
          | ret u =>
            obtain ⟨v6, σ6, H6, S6, r6, q6⟩ := hsp
            exact ⟨_, _, _, S6.unsuite ok, r6, q6⟩
          | next =>
            obtain ⟨σ6, H6, S6, q6⟩ := hsp
            exact ⟨_, _, S6.unsuite ok, q6⟩
          | brk =>
            obtain ⟨σ6, H6, S6, q6⟩ := hsp
            exact ⟨_, _, S6.unsuite ok, q6⟩
          | cont =>
            obtain ⟨σ6, H6, S6, q6⟩ := hsp
            exact ⟨_, _, S6.unsuite ok, q6⟩
      | @named x n i c ts b0 su np hp hds2 l2 hi hl hc hsu r ih =>
        rintro ⟨b, hb1, hyes, hno⟩
        refine wpAny_handleBy_cons (codeAny_handlers_test ?_) (by intro q; cases q)
        refine test hc ((PySem.W.exm_one (M := model X.prog X.w) J3.kIn LT hb1).here ?_)
        cases b with
        | false => exact ih (hno rfl)
        | true =>
          refine codeAny_handlers_suite_as (HandSPX.lands_againZ fl3 ?_)
          intro h4 fl4 up4
          obtain ⟨oe4, vs4, he4, hz4, hd4⟩ := fl4.there
          have S4 := (J.landed (s' := { s' with heap := h4 }) nb fl4.1 ((up.trans up3).trans up4) os ag).suite he4 hd4 na nL nF
          refine store_ok (X := X.suite a ((a, oe4) :: (X.pn ++ pins))) (v := .ref a) S4 hN hi (Or.inl hl) rfl ?_ (Or.inr hl)
          intro s5 S5
          refine wpAny_mono ((hsu a oe4 cls d (X.pn ++ pins) hz4 ⟨_, hd4⟩).run [] s5 _ H' _ S5 (hyes rfl a na)) ?_ (fun _ _ z => z.elim)
          intro f s6 hsp
          have fin : ∀ {σ6 : L2.St} {H6 : Hp} {Q : Shared → Prop}, Inv (X.suite a ((a, oe4) :: (X.pn ++ pins))) [] σ6 H6 s6 → (∀ s7, Inv X pins (σ6.set i none) H6 s7 → Q s7) →
              wpAny (model X.prog X.w) X.A (do bindName X.env n .none; unbindBehindTheSuite X.env n hp) (fun _ s7 => Q s7) X.xe s6 := fun S6 hq => gone_ok (S6.unsuite ok) hN hi hl hq
          cases f with
          | ret u =>
            obtain ⟨v6, σ6, H6, S6, r6, q6⟩ := hsp
            exact fin S6 fun s7 J7 => ⟨_, _, _, J7, r6, q6⟩
          | next =>
            obtain ⟨σ6, H6, S6, q6⟩ := hsp
            exact fin S6 fun s7 J7 => ⟨_, _, J7, q6⟩
          | brk =>
            obtain ⟨σ6, H6, S6, q6⟩ := hsp
            exact fin S6 fun s7 J7 => ⟨_, _, J7, q6⟩
          | cont =>
            obtain ⟨σ6, H6, S6, q6⟩ := hsp
            exact fin S6 fun s7 J7 => ⟨_, _, J7, q6⟩
    exact go hh wish
end
end Mc
/-! McHead: what the top leaves, read by one Hook: facts, defs, tables by text keys, the exceptions. -/
namespace Mc
open PySem PySem.Spec PyProof.Rows L2 He PySem.HandSPX

/-! ### the exceptions' facts -/
abbrev meD (K : PySem.W.Frag) : Addr := ga K "MeetcellsError"
abbrev meI (K : PySem.W.Frag) : Addr := ma K (meD K) "__init__"
def clsB (K : PySem.W.Frag) (D C : Addr) : Bool := match K.lookup C with
  | some ⟨.type "type", _, .cls cd, sl⟩ => (match cd.mro, sl.toList with
    | .ref c :: bm, [_, _, _, _, some (.builtin n), _] => decide (c = C) && (decide (n = "ValueError.__new__") && (!cd.hasDel && (cd.hasDict && (refsVE bm &&
        (decide (((Value.ref C :: bm).dropWhile (· != .ref D)).drop 1 = veTail) && (Value.ref C :: bm).contains (.ref D))))))
    | _, _ => false)
  | _ => false
theorem clsB_ok {K : PySem.W.Frag} {D C : Addr} (h : clsB K D C = true) : ∃ nm q N bs bm sn sub ab col dd k0 k1 k2 k3 k5,
    K.lookup C = some (excClassObj nm q C N bs bm true sn sub ab col dd k0 k1 k2 k3 k5 "ValueError.__new__") ∧ refsVE bm = true ∧
    ((Value.ref C :: bm).dropWhile (· != .ref D)).drop 1 = veTail ∧ (Value.ref C :: bm).contains (.ref D) = true := by
  unfold clsB at h
  split at h
  · rename_i dd cd sl ho
    split at h
    · rename_i c bm k0 k1 k2 k3 n k5 hm hs
      obtain ⟨e1, h⟩ := ba h
      obtain ⟨e2, h⟩ := ba h
      obtain ⟨e3, h⟩ := ba h
      obtain ⟨e4, h⟩ := ba h
      obtain ⟨e5, h⟩ := ba h
      obtain ⟨e6, e7⟩ := ba h
      have r1 := of_decide_eq_true e1
      have r2 := of_decide_eq_true e2
      have r6 := of_decide_eq_true e6
      subst r1 r2
      obtain ⟨nm, bs, mro, ns, qn, hd, sn, sub, ab, col, del⟩ := cd
      dsimp only at hm e3 e4
      have hdel : del = false := by simpa using e3
      subst hm hdel e4
      have hsl : sl = #[k0, k1, k2, k3, some (.builtin "ValueError.__new__"), k5] := by
        obtain ⟨l⟩ := sl
        simp only at hs
        rw [hs]
      subst hsl
      exact ⟨nm, qn, ns, bs, bm, sn, sub, ab, col, dd, k0, k1, k2, k3, k5, ho, e5, r6, e7⟩
    · cases h
  · cases h
def meClsB (K : PySem.W.Frag) (x : Str) : Bool := clsB K (meD K) (ga K x) &&
  (eqO (PySem.W.findIn K (.ref (ga K x)) "__setattr__") (some (some (.builtin "object.__setattr__"))) &&
  (eqO (PySem.W.findIn K (.ref (ga K x)) "__getattribute__") (some (some (.builtin "BaseException.__getattribute__"))) &&
  (eqO (PySem.W.findIn K (.ref (ga K x)) "__getattr__") (some none) &&
  (eqO (PySem.W.findIn K (.ref (ga K x)) "value") (some none) &&
  (eqO (PySem.W.findIn K (.ref (ga K x)) "__init__") (some (some (.ref (meI K)))) &&
  (PySem.W.keepIn K (.ref (ga K x)) &&
  (decide (PySem.W.subIn K (.ref (ga K x)) (.type "BaseException") = some true) &&
  (decide (PySem.W.typeIn K (.ref (ga K x)) = some (.type "type")) && PySem.W.hasDictIn K (ga K x)))))))))
theorem meCls_ok {K : PySem.W.Frag} {x : Str} (h : meClsB K x = true) : MeCls K (meD K) (meI K) (ga K x) := by
  obtain ⟨e1, h⟩ := ba h
  obtain ⟨e2, h⟩ := ba h
  obtain ⟨e3, h⟩ := ba h
  obtain ⟨e4, h⟩ := ba h
  obtain ⟨e5, h⟩ := ba h
  obtain ⟨e6, h⟩ := ba h
  obtain ⟨e7, h⟩ := ba h
  obtain ⟨e8, h⟩ := ba h
  obtain ⟨e9, e10⟩ := ba h
  exact ⟨clsB_ok e1, eqO_ok e2, eqO_ok e3, eqO_ok e4, eqO_ok e5, eqO_ok e6, e7, of_decide_eq_true e8, of_decide_eq_true e9, e10⟩
/-- MeetcellsError.__init__, as it stands -/
abbrev InV : Type := Option (Str × Str × Arguments × FuncBody × Scope × Addr × List Str × Value × Addr)
def inObs (K : PySem.W.Frag) : InV := match K.lookup (meI K) with
  | some ⟨_, _, .func fd, _⟩ => some (fd.name, fd.qualname, fd.params, fd.body, fd.scope, fd.globals, fd.closure.map (·.1), fd.defaults, fd.builtins)
  | _ => none
def inVal (st : Stmt) : InV := some ("__init__", "MeetcellsError.__init__", defArgs st, .stmts (defBody st), defScope st, mainGlobals, ["__class__"], .none, builtinsNs)
def fileO (file : Str) : Option Obj → Bool
  | some ⟨_, _, .fields vs, _⟩ => (match (vs[2]? : Option Value) with
    | some (Value.str f _) => file == f
    | _ => false)
  | _ => false
def fileB (file : Str) (K : PySem.W.Frag) : Value → Bool
  | .ref c => fileO file (K.lookup c)
  | _ => false
theorem fileB_ok {file : Str} {K : PySem.W.Frag} {c : Addr} (h : fileB file K (.ref c) = true) :
    ∃ (ccl : Value) (cdd : Option Addr) (vs : Array Value) (ccs : Array (Option Value)) (f : Str) (tf : Tok), K.lookup c = some ⟨ccl, cdd, .fields vs, ccs⟩ ∧ vs[2]? = some (.str f tf) ∧ (file == f) = true := by
  have h1 : fileO file (K.lookup c) = true := h
  unfold fileO at h1
  split at h1
  · rename_i cl od vs sl q
    split at h1
    · rename_i f tf q2
      exact ⟨_, _, _, _, f, tf, q, q2, h1⟩
    · cases h1
  · cases h1
def cellO (D : Addr) : Option Obj → Bool
  | some ⟨_, _, .cell (some (.ref d)), _⟩ => decide (d = D)
  | _ => false
def cellB (K : PySem.W.Frag) : List (Str × Addr) → Bool
  | [(_, cc)] => cellO (meD K) (K.lookup cc)
  | _ => false
theorem cellB_ok {K : PySem.W.Frag} {l : List (Str × Addr)} (h : cellB K l = true) (hn : l.map (·.1) = [("__class__" : Str)]) :
    ∃ (cc : Addr) (cl : Value) (cld : Option Addr) (csl : Array (Option Value)), l = [(("__class__" : Str), cc)] ∧ K.lookup cc = some ⟨cl, cld, .cell (some (.ref (meD K))), csl⟩ := by
  match l, h, hn with
  | [(z, cc)], h, hn =>
    have ez : z = "__class__" := by simpa using hn
    have h1 : cellO (meD K) (K.lookup cc) = true := h
    unfold cellO at h1
    split at h1
    · rename_i cl cld d csl q
      have ed : d = meD K := of_decide_eq_true h1
      rw [ed] at q
      exact ⟨cc, _, _, _, by rw [ez], q⟩
    · cases h1
def fnB (file : Str) (K : PySem.W.Frag) (fd : FuncData) : Bool := PySem.W.codeIn K fd.code "MeetcellsError.__init__" && (fileB file K fd.code && cellB K fd.closure)
def inB (file : Str) (K : PySem.W.Frag) : Bool := eqO (PySem.W.nsIn K cStatics "thirdparty.any") (some none) && (decide (PySem.W.typeIn K (.ref (meI K)) = some (.type "function")) &&
  ((PySem.W.clsIn K (meD K)).isSome && (match K.lookup (meI K) with
    | some ⟨_, _, .func fd, _⟩ => fnB file K fd
    | _ => false)))
theorem meInit_ok {P : Program} {K : PySem.W.Frag} {st : Stmt} {msg : Str} {j : Nat} {p1 p2 q0 q1 q2 q3 q4 q5 q6 q7 q8 q9 : Pos} (e : inObs K = inVal st) (h : inB P.main.file K = true)
    (ea : defArgs st = meA p1 p2) (eb : defBody st = meB msg j q0 q1 q2 q3 q4 q5 q6 q7 q8 q9) (es : defScope st = meS) (hone : OneLine msg j q0 q1 q2 q3 q4)
    (htop : (P.main.scope.names.lookup ("super" : Str)).isSome = false) : MeInit P K (meD K) (meI K) := by
  obtain ⟨h1, h⟩ := ba h
  obtain ⟨h2, h⟩ := ba h
  obtain ⟨h3, h⟩ := ba h
  refine ⟨?_, htop, Option.isSome_iff_exists.mp h3, eqO_ok h1, of_decide_eq_true h2⟩
  unfold inObs at e
  cases q : K.lookup (meI K) with
  | none =>
    rw [q] at h
    cases h
  | some o =>
    obtain ⟨oc, od, dt, osl⟩ := o
    rw [q] at h e
    cases dt with
    | func fd =>
      obtain ⟨n1, n2, n3, n4, n5, n6, n7, n8, n9, n10, n11, n12, n13, n14, n15⟩ := fd
      have e2 : (some (n1, n2, n3, n4, n5, n6, n7.map (·.1), n8, n15) : InV) = inVal st := e
      unfold inVal at e2
      simp only [Option.some.injEq, Prod.mk.injEq] at e2
      obtain ⟨r1, r2, r3, r4, r5, r6, r7, r8, r9⟩ := e2
      rw [ea] at r3
      rw [eb] at r4
      rw [es] at r5
      subst r1 r2 r3 r4 r5 r6 r8 r9
      obtain ⟨c1, h'⟩ := ba (show (PySem.W.codeIn K n13 "MeetcellsError.__init__" && (fileB P.main.file K n13 && cellB K n7)) = true from h)
      obtain ⟨c2, c3⟩ := ba h'
      obtain ⟨cda, rfl⟩ := codeIn_ref c1
      obtain ⟨ccl, cdd, vs, ccs, f, tf, f1, f2, f3⟩ := fileB_ok c2
      obtain ⟨cc, cl, cld, csl, rfl, f4⟩ := cellB_ok c3 r7
      exact ⟨oc, od, n9, n10, n11, n12, cda, n14, cc, osl, msg, j, p1, p2, q0, q1, q2, q3, q4, q5, q6, q7, q8, q9, ccl, cdd, vs, ccs, f, tf, cl, cld, csl, rfl, c1, f1, f2, f3, f4, hone⟩
    | _ => cases h

/-! ### the Hook -/
abbrev AlM : Type := AlT × InV × Bool
def frM (n : Nat) (g : Addr → Option Obj) : PySem.W.Frag := frG g (cStatics :: asD g n)
def obsM (n : Nat) (fa : List Fa) (fn : List DefD) (ts : List Tab) (ex : PySem.W.Frag → Bool) (g : Addr → Option Obj) : AlM := (obsT fa fn ts (frM n g), inObs (frM n g), ex (frM n g))
def valM (fn : List DefD) (ts : List Tab) (st : Stmt) (w : World) : AlM := (valT fn ts w, inVal st, true)
structure SaysM (fa : List Fa) (fn : List DefD) (ts : List Tab) (st : Stmt) (ex : PySem.W.Frag → Bool) (w : World) (K : PySem.W.Frag) : Prop where
  t : SaysT fa fn ts w K
  i : inObs K = inVal st
  x : ex K = true
def hookM (n : Nat) (fa : List Fa) (fn : List DefD) (ts : List Tab) (st : Stmt) (ex : PySem.W.Frag → Bool) : PySem.W.Hook where
  α := AlM
  obs := fun s => obsM n fa fn ts ex s.heap.get?
  val := fun w => valM fn ts st w
  says := fun w h => ∃ K : PySem.W.Frag, K.In h ∧ SaysM fa fn ts st ex w K
  of := fun _ _ e => ⟨_, frG_in, ⟨congrArg (fun z : AlM => z.1) e, congrArg (fun z : AlM => z.2.1) e, congrArg (fun z : AlM => z.2.2) e⟩⟩
  keeps := fun _ _ _ ⟨K, hK, c⟩ k => ⟨K, PySem.W.Frag.In.keeps hK k, c⟩
theorem obsM_eq {n : Nat} {fa : List Fa} {fn : List DefD} {ts : List Tab} {st : Stmt} {ex : PySem.W.Frag → Bool} {g : Addr → Option Obj} {s : Shared} (h : ∀ a, g a = s.heap.get? a) :
    obsM n fa fn ts ex g = (hookM n fa fn ts st ex).obs s := by
  have e : g = s.heap.get? := funext h
  subst e
  rfl
end Mc
/-! McText: plain facts of texts. -/
namespace Mc
open PySem PySem.Spec PyProof.Rows L2

theorem takeWhile_all {α : Type} (g : α → Bool) : ∀ l : List α, l.all g = true → l.takeWhile g = l
  | [], _ => rfl
  | a :: l, h => by
    have h' : g a = true ∧ l.all g = true := by simpa using h
    rw [List.takeWhile_cons, h'.1]
    simp only [if_true]
    rw [takeWhile_all g l h'.2]
theorem takeWhile_lt {α : Type} (g : α → Bool) : ∀ l : List α, l.all g = false → (l.takeWhile g).length < l.length
  | [], h => by cases h
  | a :: l, h => by
    rw [List.takeWhile_cons]
    cases ha : g a with
    | false => simp
    | true =>
      have h' : l.all g = false := by simpa [ha] using h
      have := takeWhile_lt g l h'
      simp only [if_true, List.length_cons]
      omega
theorem drop_takeWhile {α : Type} (g : α → Bool) : ∀ l : List α, l.all g = false → (l.drop (l.takeWhile g).length).all g = false
  | [], h => by cases h
  | a :: l, h => by
    rw [List.takeWhile_cons]
    cases ha : g a with
    | false => simpa using h
    | true =>
      have h' : l.all g = false := by simpa [ha] using h
      have := drop_takeWhile g l h'
      simpa using this
theorem str_len (x : Str) : x.length = x.cps.toList.length := by
  show x.cps.size = _
  simp
theorem strSub_len (x : Str) (lo hi : Nat) (h : hi ≤ x.length) : (Builtin.Str.strSub x lo hi).length = hi - lo := by
  unfold Builtin.Str.strSub
  show (x.cps.extract lo hi).size = hi - lo
  rw [Array.size_extract]
  have : x.cps.size = x.length := rfl
  omega
/-- x.strip(y) is empty just if all signs of x are in y -/
theorem strip_nil (x y : Str) : (Txt.stripChars x y).length = 0 ↔ x.cps.toList.all y.cps.contains = true := by
  have hlen := str_len x
  unfold Txt.stripChars
  rw [PySem.W.stripBy_eq]
  show (Builtin.Str.strSub x (stripLo y.cps.contains true x) (stripHi y.cps.contains true x (stripLo y.cps.contains true x))).length = 0 ↔ _
  have hlo : stripLo y.cps.contains true x = (x.cps.toList.takeWhile y.cps.contains).length := rfl
  have hhi : stripHi y.cps.contains true x (stripLo y.cps.contains true x) = x.length - ((x.cps.toList.drop (stripLo y.cps.contains true x)).reverse.takeWhile y.cps.contains).length := rfl
  rw [strSub_len _ _ _ (by rw [hhi]; omega)]
  constructor
  · intro h
    cases ha : x.cps.toList.all y.cps.contains with
    | true => rfl
    | false =>
      exfalso
      have h1 := takeWhile_lt _ _ ha
      have h2 := drop_takeWhile _ _ ha
      have h3 : ((x.cps.toList.drop (stripLo y.cps.contains true x)).reverse).all y.cps.contains = false := by
        rw [List.all_reverse, hlo]
        exact h2
      have h4 := takeWhile_lt _ _ h3
      rw [List.length_reverse, List.length_drop] at h4
      rw [hhi] at h
      rw [← hlo] at h1
      omega
  · intro h
    have h1 := takeWhile_all _ _ h
    rw [hhi, hlo, h1]
    omega
theorem str_nil {x : Str} : x.length = 0 ↔ x = "" := by
  constructor
  · intro h
    obtain ⟨a⟩ := x
    have h' : a.size = 0 := h
    have e : a = #[] := Array.eq_empty_of_size_eq_zero h'
    subst e
    rfl
  · rintro rfl
    rfl
theorem all12 (x : Str) : x.cps.toList.all ("12" : Str).cps.contains = x.cps.toList.all fun c => c == 49 || c == 50 := by
  have e : (("12" : Str).cps.contains : Nat → Bool) = fun c => c == 49 || c == 50 := by
    funext c
    show (#[49, 50] : Array Nat).contains c = _
    simp
    rfl
  rw [e]
theorem strip12 (x : Str) : decide (V.str (Txt.stripChars x "12") = V.str "") = x.cps.toList.all fun c => c == 49 || c == 50 := by
  rw [← all12]
  cases h : x.cps.toList.all ("12" : Str).cps.contains with
  | true => exact decide_eq_true (congrArg V.str (str_nil.mp ((strip_nil x "12").mpr h)))
  | false =>
    refine decide_eq_false fun z => ?_
    have e := (strip_nil x "12").mp (str_nil.mpr (V.str.inj z))
    rw [h] at e
    cases e
/-- one-sign texts put together -/
theorem join_signs : ∀ cs : List Nat, Txt.join "" (cs.map fun c => (⟨#[c]⟩ : Str)) = (⟨cs.toArray⟩ : Str) := by
  intro cs
  rw [TL.join_eq]
  induction cs with
  | nil => rfl
  | cons c cs ih =>
    cases cs with
    | nil => rfl
    | cons d r =>
      have e : Str.join "" ((c :: d :: r).map fun c => (⟨#[c]⟩ : Str)) = (⟨#[c]⟩ : Str) ++ "" ++ Str.join "" ((d :: r).map fun c => (⟨#[c]⟩ : Str)) := rfl
      rw [e, ih]
      show (⟨(#[c] ++ #[]) ++ (d :: r).toArray⟩ : Str) = _
      simp
end Mc
/-! McCore: calls of defs by promises that hide how their arguments bind; types of data. -/
namespace Mc
open PySem PySem.Spec PyProof.Rows L2

section
variable {X : Cx}
/-- nothing is raised by the callee -/
theorem pass_no (σ : L2.St) : PassesAt (L2.CX X.prog X.w) X σ E0 := fun pins H s e s' I h => passL pins σ H s e s' I h
end
section
variable {P : Program} {w : World} {K : PySem.W.Frag} {mg : Str → Option Value} {base : Heap} {C : CXT} {j k : Nat} {f : Addr} {sp : Sp}
theorem fnG_of_R (F : FnR P w K mg base C k f sp) : FnG P w K mg base C k f sp :=
  fun A outer s H us vs Q E hr _ e0 r hs => F A outer s H us vs Q E hr e0 r hs
theorem fnR_of_ok {fd : FuncData} {ps : List Str} (F : FnOk P w K mg base C k f fd ps sp) (hb : Binds K fd ps []) : FnR P w K mg base C k f sp :=
  (F.raw hb .nil).imp fun vs H Q E h => by rw [List.append_nil]; exact h
/-- a def by its body -/
theorem fnR_body {x qual : Str} {params : Arguments} {body : List Stmt} {scope : Scope} {dvs : List V} {kws : List (Str × V)} {fd : FuncData} {N ps : List Str}
    (F : FunD K x qual params body scope dvs kws f fd) (S : FnScope N ps scope) (hb : Binds K fd ps []) (len : ∀ vs H Q E, sp vs H Q E → vs.length = ps.length)
    (hbody : ∀ (cdv : Value) (A : Around) (outer : List Env) (s : Shared) (H : Hp) (vs : List V) (Q : VK) (E : XK),
      Room k (A.deeper (envOfC qual scope s.heap.objs.size f cdv)) → sp vs H Q E →
      ∃ t, PSs (cxOf C P w K mg base N qual scope f cdv A outer s H E) body t ∧ t { nx := fun _ H' => Q .non H', rt := Q } (start N vs) H) :
    FnR P w K mg base C (k + 1) f sp := fnR_of_ok (F.ok S len hbody) hb
end
section
variable {X : Cx} {C : CXT} {k : Nat} {f : Addr} {sp : Sp} {x : Str} {p pos : Pos} {e : Expr} {es : List Expr} {t : TA}
/-- f(e, ..): what is raised is wished for at the caller's slots -/
theorem pe_callR {E : L2.St → XK} (F : FnR X.prog X.w X.K X.mg X.base C k f sp) (hr : Room k X.A) (hg : Gl X x) (hm : X.mg x = some (.ref f))
    (hk : PySem.W.keepIn X.K (.ref f) = true) (hx : ∀ σ, PassesAt C X σ (E σ)) (ha : PA X (e :: es) t) (hdb : (x == ("__debug__" : Str)) = false := by decide)
    (he : starEach (e :: es) X.env = (false, eval e X.env) :: starEach es X.env := by rfl) (hpl : (backTo pos (starEach es X.env)).any (·.1) = false := by rfl) :
    PE X (.Call (.Name x p) (e :: es) [] pos) (tCallS sp E t) := by
  refine ⟨fun pins s σ H Q I h => ?_⟩
  refine wpAny_Call_Name_kw (ld_glob I hg hm ?_ hdb)
  refine PySem.W.callWith_K (h₀ := X.base) I.ok.mod.kin hk (thn (ha.run pos pins s σ H _ I h) ?_) he hpl
  rintro us s1 ⟨vs, H1, I1, r, q⟩
  refine ⟨I1.kIn, wpAny_call (codeAny_mono (F X.A X.stack s1 H1 us vs Q (E σ) hr I1.env0 r q) ?_)⟩
  intro res s' hq
  cases res with
  | error er => exact hx σ pins H1 s1 er s' I1 hq
  | ok fl =>
    cases fl with
    | ret u => exact I1.after hq
    | next => exact hq.elim
    | brk => exact hq.elim
    | cont => exact hq.elim
/-- f() -/
theorem pe_callR0 {E : L2.St → XK} (F : FnR X.prog X.w X.K X.mg X.base C k f sp) (hr : Room k X.A) (hg : Gl X x) (hm : X.mg x = some (.ref f))
    (hk : PySem.W.keepIn X.K (.ref f) = true) (hx : ∀ σ, PassesAt C X σ (E σ)) (hdb : (x == ("__debug__" : Str)) = false := by decide) :
    PE X (.Call (.Name x p) [] [] pos) (tCallS sp E tNil) := by
  refine ⟨fun pins s σ H Q I h => ?_⟩
  refine wpAny_Call_Name_kw (ld_glob I hg hm ?_ hdb)
  refine PySem.W.callWith_K0 I.kIn hk (wpAny_call (codeAny_mono (F X.A X.stack s H [] [] Q (E σ) hr I.env0 .nil h) ?_))
  intro res s' hq
  cases res with
  | error er => exact hx σ pins H s er s' I hq
  | ok fl =>
    cases fl with
    | ret u => exact I.after hq
    | next => exact hq.elim
    | brk => exact hq.elim
    | cont => exact hq.elim
end

/-! ### types of data -/
def tyName : PyData → String
  | .none => "NoneType"
  | .bool _ => "bool"
  | .int _ => "int"
  | .str _ => "str"
  | .list _ => "list"
  | .tuple _ => "tuple"
  | .dict _ => "dict"
theorem dq_ty {K : PySem.W.Frag} {H : Hp} {v : V} {d : PyData} (h : Dq K H v d) : TyX K H v (.type (tyName d)) := by
  cases h with
  | dp h =>
    cases h with
    | non => exact .base .non
    | bl b => exact .base (.bl b)
    | int i => exact .base (.int i)
    | str x => exact .base (.str x)
    | lst s _ =>
      rcases s with (s | ⟨o, s⟩) | ⟨o, its, n, lk, cl, _⟩
      · exact .base (.lst s)
      · exact .base (.frz s)
      · exact .kList lk cl
    | tup s _ =>
      rcases s with (s | ⟨o, s⟩) | ⟨o, its, n, lk, cl, _⟩
      · exact .base (.tup s)
      · exact .fTuple s
      · exact .kTuple lk cl
  | dic h => exact .base (.dK h)
/-- isinstance(x, T), x a datum, T a built-in type -/
def rIsd (K : PySem.W.Frag) : List V → Hp → VK → Prop := fun xs H Q => ∃ (x : V) (d : PyData) (n : String) (b : Bool), xs = [x, .ty n] ∧ Dq K H x d ∧ kitB (tyName d) n = some b ∧ Q (.bl b) H
theorem call_isd {X : Cx} : CallR X (.builtin "isinstance") (rIsd X.K) := by
  intro pins s σ H xs us Q I r h
  obtain ⟨x, d, n, b, rfl, hd, e, q⟩ := h
  exact call_isi pins s σ H _ us Q I r ⟨x, .ty n, .type (tyName d), .type n, b, rfl, .ty n, dq_ty hd, kit_ty e, q⟩
def isInt : PyData → Bool
  | .int _ => true
  | _ => false
def isStr : PyData → Bool
  | .str _ => true
  | _ => false
def isTup : PyData → Bool
  | .tuple _ => true
  | _ => false
def isBool : PyData → Bool
  | .bool _ => true
  | _ => false
def isSeq : PyData → Bool
  | .list _ => true
  | .tuple _ => true
  | _ => false
def isLst : PyData → Bool
  | .list _ => true
  | _ => false
theorem kit_int (d : PyData) : kitB (tyName d) "int" = some (isInt d || isBool d) := by cases d <;> simp only [tyName, isInt, isBool, isStr, isTup, isLst] <;> decide +kernel
theorem kit_bool (d : PyData) : kitB (tyName d) "bool" = some (isBool d) := by cases d <;> simp only [tyName, isInt, isBool, isStr, isTup, isLst] <;> decide +kernel
theorem kit_str (d : PyData) : kitB (tyName d) "str" = some (isStr d) := by cases d <;> simp only [tyName, isInt, isBool, isStr, isTup, isLst] <;> decide +kernel
theorem kit_tup (d : PyData) : kitB (tyName d) "tuple" = some (isTup d) := by cases d <;> simp only [tyName, isInt, isBool, isStr, isTup, isLst] <;> decide +kernel
theorem kit_lst (d : PyData) : kitB (tyName d) "list" = some (isLst d) := by cases d <;> simp only [tyName, isInt, isBool, isStr, isTup, isLst] <;> decide +kernel
end Mc
namespace Mc
open PySem PySem.Spec PyProof.Rows L2
section
variable {X : Cx}
/-- repr of a truth -/
theorem call_reprB : CallR X (.builtin "repr") (fun xs H Q => ∃ b, xs = [.bl b] ∧ Q (.str (if b then "True" else "False")) H) := by
  intro pins s σ H xs us Q I r h
  obtain ⟨b, rfl, q⟩ := h
  obtain ⟨u, rfl, ru⟩ := vals1 r
  cases ru
  exact PySem.P.repr_of_bool ⟨.str _, H, I.tok _, ⟨_, rfl⟩, q⟩
/-- a text a number of times -/
theorem op_rep_str : OpR X (binaryOp .Mult) (fun x y H Q => ∃ (a : Str) (n : Int), x = .str a ∧ y = .int n ∧ MulOk a n ∧ Q (.str (PySem.Txt.mul a n)) H) := by
  intro pins s σ H x y u v Q I rx ry h
  obtain ⟨a, n, rfl, rfl, hok, q⟩ := h
  obtain ⟨t, rfl⟩ := rx
  obtain ⟨t', rfl⟩ := ry
  exact SB.mul hok fun t' k => ⟨.str _, H, I.tok k, ⟨_, rfl⟩, q⟩
end
end Mc
namespace Mc
open PySem PySem.Spec PyProof.Rows L2
/-- a statement, then the rest, with what is told between them -/
def tMid (t u : TS) : TS := fun D σ H => ∃ Mid : L2.St → Hp → Prop, t { D with nx := Mid } σ H ∧ ∀ τ G, Mid τ G → u D τ G
theorem pss_mid {X : Cx} {st : Stmt} {rest : List Stmt} {t u : TS} (h1 : PS X st t) (h2 : PSs X rest u) : PSs X (st :: rest) (tMid t u) := by
  constructor
  rintro pins s σ H D I ⟨Mid, hm, hu⟩
  refine wpAny_execs_cons (thn (h1.run pins s σ H { D with nx := Mid } I hm) ?_)
  intro f s1 q
  cases f with
  | ret v => exact q
  | brk => exact q
  | cont => exact q
  | next =>
    obtain ⟨τ, G, J, q⟩ := q
    exact h2.run pins s1 τ G D J (hu τ G q)
end Mc
namespace Mc
open PySem PySem.Spec PyProof.Rows L2
/-! the built-in calls' relations, by name -/
def rLen (K : PySem.W.Frag) : List V → Hp → VK → Prop := fun xs H Q => ∃ x n, xs = [x] ∧ LenV K x H n ∧ Q (.int n) H
def rListOf (K : PySem.W.Frag) : List V → Hp → VK → Prop := fun xs H Q => ∃ p ys, xs = [.ref p] ∧ (SqL K H p ys ∨ SqT K H p ys) ∧ ∀ l, H l = none → Q (.ref l) (upd H l (.lst ys))
def rTupleOf (K : PySem.W.Frag) : List V → Hp → VK → Prop := fun xs H Q => ∃ p ys, xs = [.ref p] ∧ ((SqL K H p ys ∧ ∀ l, H l = none → Q (.ref l) (upd H l (.tup ys))) ∨ (SqT K H p ys ∧ Q (.ref p) H))
end Mc
/-! McData: small data, and expressions that make them. -/
namespace Mc
open PySem PySem.Spec PyProof.Rows L2

mutual
/-- no list of three items within -/
def noL3 : PyData → Bool
  | .list ds => ds.length != 3 && noL3All ds
  | .tuple ds => noL3All ds
  | .none | .bool _ | .int _ | .str _ | .dict _ => true
def noL3All : List PyData → Bool
  | [] => true
  | d :: ds => noL3 d && noL3All ds
end
/-- a datum whose text has at most n signs, at most k deep -/
structure Sm (n k : Nat) (d : PyData) : Prop where
  sh : d.showable = true
  ln : d.shown.length ≤ n
  dp : d.depth ≤ k
  nb : noL3 d = true
  st : ∀ x, d = .str x → x.length ≤ n ∧ ∀ c ∈ x.cps.toList, c < 1114112
theorem Sm.up {n k n' k' : Nat} {d : PyData} (h : Sm n k d) (hn : n ≤ n') (hk : k ≤ k') : Sm n' k' d := ⟨h.sh, Nat.le_trans h.ln hn, Nat.le_trans h.dp hk, h.nb, fun x e => ⟨Nat.le_trans (h.st x e).1 hn, (h.st x e).2⟩⟩
theorem Sm.shows {n k : Nat} {d : PyData} (h : Sm n k d) (hn : n ≤ 10000000) (hk : k ≤ 60) : Shows d :=
  ⟨h.sh, Nat.le_trans h.ln (Nat.le_trans hn (by decide)), Nat.le_trans h.dp hk⟩
theorem sm_none : Sm 5 0 .none := ⟨by simp only [PyData.showable], by simp only [PyData.shown]; decide, by simp only [PyData.depth, Nat.le_refl], by simp only [noL3], fun x e => nomatch e⟩
theorem sm_bool (b : Bool) : Sm 5 0 (.bool b) := ⟨by simp only [PyData.showable], by simp only [PyData.shown]; cases b <;> decide, by simp only [PyData.depth, Nat.le_refl], by simp only [noL3], fun x e => nomatch e⟩
theorem sm_int {i : Int} {k : Nat} (hk : 0 < k) (hk2 : k ≤ 500) (h : i.natAbs < 10 ^ k) : Sm (k + 1) 0 (.int i) := by
  refine ⟨?_, ?_, by simp only [PyData.depth, Nat.le_refl], by simp only [noL3], fun x e => nomatch e⟩
  · simp only [PyData.showable, decide_eq_true_eq]
    refine log2_small (Nat.lt_of_lt_of_le h ?_)
    calc 10 ^ k ≤ 10 ^ 500 := Nat.pow_le_pow_right (by decide) hk2
      _ ≤ 2 ^ 1920 := by decide +kernel
  · simp only [PyData.shown]
    rw [PySem.ofString_length]
    exact int_text_length_le10 hk h
theorem sm_str {x : Str} {m : Nat} (h : x.length ≤ m) (hc : ∀ c ∈ x.cps.toList, c < 1114112) : Sm (10 * m + 2) 0 (.str x) := by
  refine ⟨by simp only [PyData.showable], ?_, by simp only [PyData.depth, Nat.le_refl], by simp only [noL3], fun y e => ?_⟩
  · simp only [PyData.shown]
    exact Nat.le_trans (StrLaws.reprText_len x fun c h => Nat.lt_trans (hc c h) (by decide)) (by omega)
  · cases e
    exact ⟨by omega, hc⟩
theorem sm_all {n k : Nat} : ∀ {ds : List PyData}, (∀ d ∈ ds, Sm n k d) → PyData.showableAll ds = true ∧ ((PyData.shownAll ds).map (·.length)).sum ≤ n * ds.length ∧ PyData.depthAll ds ≤ k ∧ noL3All ds = true
  | [], _ => ⟨by simp only [PyData.showableAll], by simp [PyData.shownAll], by simp [PyData.depthAll], by simp only [noL3All]⟩
  | d :: ds, h => by
    have h1 := h d List.mem_cons_self
    obtain ⟨a, b, c, n3⟩ := sm_all (ds := ds) fun e he => h e (List.mem_cons_of_mem _ he)
    refine ⟨by simp only [PyData.showableAll, h1.sh, a, Bool.and_self], ?_, ?_, by simp only [noL3All, h1.nb, n3, Bool.and_self]⟩
    · simp only [PyData.shownAll, List.map_cons, List.sum_cons, List.length_cons]
      have := h1.ln
      rw [Nat.mul_succ]
      omega
    · simp only [PyData.depthAll]
      have := h1.dp
      omega
theorem sm_list {n k : Nat} {ds : List PyData} (h : ∀ d ∈ ds, Sm n k d) (h3 : ds.length ≠ 3) : Sm (n * ds.length + 2 * ds.length + 3) (k + 1) (.list ds) := by
  obtain ⟨a, b, c, n3⟩ := sm_all h
  refine ⟨by simpa only [PyData.showable] using a, ?_, by simp only [PyData.depth]; omega, by simp only [noL3, n3, Bool.and_true]; exact bne_iff_ne.mpr h3, fun x e => nomatch e⟩
  simp only [PyData.shown]
  have := listText_len_le (PyData.shownAll ds)
  rw [PyData.shownAll_length] at this
  omega
theorem sm_tuple {n k : Nat} {ds : List PyData} (h : ∀ d ∈ ds, Sm n k d) : Sm (n * ds.length + 2 * ds.length + 3) (k + 1) (.tuple ds) := by
  obtain ⟨a, b, c, n3⟩ := sm_all h
  refine ⟨by simpa only [PyData.showable] using a, ?_, by simp only [PyData.depth]; omega, by simpa only [noL3] using n3, fun x e => nomatch e⟩
  simp only [PyData.shown]
  have := tupleText_len_le (PyData.shownAll ds)
  rw [PyData.shownAll_length] at this
  omega
theorem sm_dict0 : Sm 5 1 (.dict []) := ⟨by simp only [PyData.showable, PyData.showableKv], by simp only [PyData.shown, PyData.shownKv]; decide +kernel, by simp [PyData.depth, PyData.depthKv], by simp only [noL3], fun x e => nomatch e⟩

/-! ### heaps that grow -/
def Ext (H H' : Hp) : Prop := ∀ c o, H c = some o → H' c = some o
theorem Ext.refl (H : Hp) : Ext H H := fun _ _ e => e
theorem Ext.trans {H H1 H2 : Hp} (a : Ext H H1) (b : Ext H1 H2) : Ext H H2 := fun c o e => b c o (a c o e)
theorem Ext.new {H : Hp} {p : Addr} {o : HO} (h : H p = none) : Ext H (upd H p o) := fun c u e => by
  rw [upd_ne (ne_of_none e h)]
  exact e
theorem Ext.fresh {H H' : Hp} {p : Addr} (e : Ext H H') (h : H' p = none) : H p = none := by
  cases q : H p with
  | none => rfl
  | some o =>
    rw [e p o q] at h
    cases h
theorem Ext.rd {H H' : Hp} {a : Addr} {u : HO} (e : Ext H H') (h : Rd H a u) : Rd H' a u := by
  rcases h with h | ⟨o, h⟩
  · exact .inl (e _ _ h)
  · exact .inr ⟨o, e _ _ h⟩
theorem Ext.sqL {K : PySem.W.Frag} {H H' : Hp} {a : Addr} {xs : List V} (e : Ext H H') (h : SqL K H a xs) : SqL K H' a xs := by
  rcases h with h | h
  · exact .inl (e.rd h)
  · exact .inr h
theorem Ext.sqT {K : PySem.W.Frag} {H H' : Hp} {a : Addr} {xs : List V} (e : Ext H H') (h : SqT K H a xs) : SqT K H' a xs := by
  rcases h with h | h
  · exact .inl (e.rd h)
  · exact .inr h
mutual
theorem dp_ext {K : PySem.W.Frag} {H H' : Hp} (e : Ext H H') : ∀ (d : PyData) (v : V), Dp K H v d → Dp K H' v d
  | .none, _, h => by cases h; exact .non
  | .bool _, _, h => by cases h; exact .bl _
  | .int _, _, h => by cases h; exact .int _
  | .str _, _, h => by cases h; exact .str _
  | .list ds, _, h => by
    cases h with
    | lst s r => exact .lst (e.sqL s) (dpAll_ext e ds _ r)
  | .tuple ds, _, h => by
    cases h with
    | tup s r => exact .tup (e.sqT s) (dpAll_ext e ds _ r)
  | .dict _, _, h => by cases h
theorem dpAll_ext {K : PySem.W.Frag} {H H' : Hp} (e : Ext H H') : ∀ (ds : List PyData) (vs : List V), DpAll K H vs ds → DpAll K H' vs ds
  | [], _, h => by cases h; exact .nil
  | d :: ds, _, h => by
    cases h with
    | cons h1 h2 => exact .cons (dp_ext e d _ h1) (dpAll_ext e ds _ h2)
end
theorem dq_ext {K : PySem.W.Frag} {H H' : Hp} (e : Ext H H') {d : PyData} {v : V} (h : Dq K H v d) : Dq K H' v d := by
  cases h with
  | dp h => exact .dp (dp_ext e d v h)
  | dic h => exact .dic (e _ _ h)

/-! ### another box: data without lists of three stay -/
mutual
theorem dp_box {K : PySem.W.Frag} {H H' : Hp} {b : Addr} {x y z : V} (hb : H b = some (.lst [x, y, z])) (hf : ∀ c, c ≠ b → H' c = H c) : ∀ (d : PyData) (v : V), noL3 d = true → Dp K H v d → Dp K H' v d
  | .none, _, _, h => by cases h; exact .non
  | .bool _, _, _, h => by cases h; exact .bl _
  | .int _, _, _, h => by cases h; exact .int _
  | .str _, _, _, h => by cases h; exact .str _
  | .list ds, _, n, h => by
    simp only [noL3, Bool.and_eq_true, bne_iff_ne, ne_eq] at n
    cases h with
    | @lst a xs _ s r =>
      refine .lst ?_ (dpAll_box hb hf ds _ n.2 r)
      rcases s with (s | ⟨o, s⟩) | s
      · refine .inl (.inl ((hf a ?_).trans s))
        rintro rfl
        rw [hb] at s
        cases s
        cases r with
        | cons _ r =>
          cases r with
          | cons _ r =>
            cases r with
            | cons _ r =>
              cases r
              exact n.1 rfl
      · refine .inl (.inr ⟨o, (hf a ?_).trans s⟩)
        rintro rfl
        rw [hb] at s
        cases s
      · exact .inr s
  | .tuple ds, _, n, h => by
    simp only [noL3] at n
    cases h with
    | @tup a xs _ s r =>
      refine .tup ?_ (dpAll_box hb hf ds _ n r)
      rcases s with (s | ⟨o, s⟩) | s
      · refine .inl (.inl ((hf a ?_).trans s))
        rintro rfl
        rw [hb] at s
        cases s
      · refine .inl (.inr ⟨o, (hf a ?_).trans s⟩)
        rintro rfl
        rw [hb] at s
        cases s
      · exact .inr s
  | .dict _, _, _, h => by cases h
theorem dpAll_box {K : PySem.W.Frag} {H H' : Hp} {b : Addr} {x y z : V} (hb : H b = some (.lst [x, y, z])) (hf : ∀ c, c ≠ b → H' c = H c) : ∀ (ds : List PyData) (vs : List V), noL3All ds = true → DpAll K H vs ds → DpAll K H' vs ds
  | [], _, _, h => by cases h; exact .nil
  | d :: ds, _, n, h => by
    simp only [noL3All, Bool.and_eq_true] at n
    cases h with
    | cons h1 h2 => exact .cons (dp_box hb hf d _ n.1 h1) (dpAll_box hb hf ds _ n.2 h2)
end
theorem dq_box {K : PySem.W.Frag} {H H' : Hp} {b : Addr} {x y z : V} (hb : H b = some (.lst [x, y, z])) (hf : ∀ c, c ≠ b → H' c = H c) {d : PyData} {v : V} (n : noL3 d = true) (h : Dq K H v d) : Dq K H' v d := by
  cases h with
  | dp h => exact .dp (dp_box hb hf d v n h)
  | @dic a h =>
    refine .dic ((hf a ?_).trans h)
    rintro rfl
    rw [hb] at h
    cases h

/-! ### good values -/
/-- a value that is a small datum without dicts -/
def GP (K : PySem.W.Frag) (H : Hp) (n k : Nat) (v : V) : Prop := ∃ d, Dp K H v d ∧ Sm n k d
theorem GP.ext {K : PySem.W.Frag} {H H' : Hp} {n k : Nat} {v : V} (h : GP K H n k v) (e : Ext H H') : GP K H' n k v := let ⟨d, h1, h2⟩ := h; ⟨d, dp_ext e d v h1, h2⟩
theorem GP.up {K : PySem.W.Frag} {H : Hp} {n k n' k' : Nat} {v : V} (h : GP K H n k v) (hn : n ≤ n') (hk : k ≤ k') : GP K H n' k' v := let ⟨d, h1, h2⟩ := h; ⟨d, h1, h2.up hn hk⟩
theorem gp_non {K : PySem.W.Frag} {H : Hp} : GP K H 5 0 .non := ⟨_, .non, sm_none⟩
theorem gp_bl {K : PySem.W.Frag} {H : Hp} (b : Bool) : GP K H 5 0 (.bl b) := ⟨_, .bl b, sm_bool b⟩
theorem gp_int {K : PySem.W.Frag} {H : Hp} {i : Int} {k : Nat} (hk : 0 < k) (hk2 : k ≤ 500) (h : i.natAbs < 10 ^ k) : GP K H (k + 1) 0 (.int i) := ⟨_, .int i, sm_int hk hk2 h⟩
theorem gp_str {K : PySem.W.Frag} {H : Hp} {x : Str} {m : Nat} (h : x.length ≤ m) (hc : ∀ c ∈ x.cps.toList, c < 1114112) : GP K H (10 * m + 2) 0 (.str x) := ⟨_, .str x, sm_str h hc⟩
theorem gp_all {K : PySem.W.Frag} {H : Hp} {n k : Nat} : ∀ {vs : List V}, (∀ v ∈ vs, GP K H n k v) → ∃ ds, DpAll K H vs ds ∧ (∀ d ∈ ds, Sm n k d) ∧ ds.length = vs.length
  | [], _ => ⟨[], .nil, (fun _ h => nomatch h), rfl⟩
  | v :: vs, h => by
    obtain ⟨d, h1, h2⟩ := h v List.mem_cons_self
    obtain ⟨ds, a, b, c⟩ := gp_all (vs := vs) fun u hu => h u (List.mem_cons_of_mem _ hu)
    refine ⟨d :: ds, .cons h1 a, fun e he => ?_, congrArg Nat.succ c⟩
    rcases List.mem_cons.mp he with rfl | he
    · exact h2
    · exact b e he
theorem gp_tup {K : PySem.W.Frag} {H : Hp} {n k m : Nat} {a : Addr} {vs : List V} (hs : SqT K H a vs) (h : ∀ v ∈ vs, GP K H n k v) (hm : vs.length ≤ m) : GP K H (n * m + 2 * m + 3) (k + 1) (.ref a) := by
  obtain ⟨ds, h1, h2, h3⟩ := gp_all h
  refine ⟨.tuple ds, .tup hs h1, (sm_tuple h2).up ?_ (Nat.le_refl _)⟩
  rw [h3]
  have := Nat.mul_le_mul_left n hm
  omega
theorem gp_lst {K : PySem.W.Frag} {H : Hp} {n k m : Nat} {a : Addr} {vs : List V} (hs : SqL K H a vs) (h : ∀ v ∈ vs, GP K H n k v) (hm : vs.length ≤ m) (h3' : vs.length ≠ 3) : GP K H (n * m + 2 * m + 3) (k + 1) (.ref a) := by
  obtain ⟨ds, h1, h2, h3⟩ := gp_all h
  refine ⟨.list ds, .lst hs h1, (sm_list h2 (by rw [h3]; exact h3')).up ?_ (Nat.le_refl _)⟩
  rw [h3]
  have := Nat.mul_le_mul_left n hm
  omega
/-- a value that is a small datum, or an empty dict -/
def GQ (K : PySem.W.Frag) (H : Hp) (n k : Nat) (v : V) : Prop := ∃ d, Dq K H v d ∧ Sm n k d
theorem GQ.ext {K : PySem.W.Frag} {H H' : Hp} {n k : Nat} {v : V} (h : GQ K H n k v) (e : Ext H H') : GQ K H' n k v := let ⟨d, h1, h2⟩ := h; ⟨d, dq_ext e h1, h2⟩
theorem GQ.box {K : PySem.W.Frag} {H H' : Hp} {n k : Nat} {v : V} {b : Addr} {x y z : V} (h : GQ K H n k v) (hb : H b = some (.lst [x, y, z])) (hf : ∀ c, c ≠ b → H' c = H c) : GQ K H' n k v := let ⟨d, h1, h2⟩ := h; ⟨d, dq_box hb hf h2.nb h1, h2⟩
theorem GP.q {K : PySem.W.Frag} {H : Hp} {n k n' k' : Nat} {v : V} (h : GP K H n k v) (hn : n ≤ n' := by decide) (hk : k ≤ k' := by decide) : GQ K H n' k' v := let ⟨d, h1, h2⟩ := h; ⟨d, .dp h1, h2.up hn hk⟩
theorem gq_dict {K : PySem.W.Frag} {H : Hp} {n k : Nat} {a : Addr} (h : H a = some (.dK [])) (hn : 5 ≤ n := by decide) (hk : 1 ≤ k := by decide) : GQ K H n k (.ref a) := ⟨_, .dic h, sm_dict0.up hn hk⟩

/-! ### expressions that make good values -/
section
variable {K : PySem.W.Frag} {σ : L2.St} {H : Hp} {n k m n' k' : Nat} {te : TE} {ta : TA} {v : V}
def GEP (K : PySem.W.Frag) (te : TE) (σ : L2.St) (H : Hp) (n k : Nat) : Prop := ∀ H1, Ext H H1 → ∀ Q : VK, (∀ v H2, Ext H1 H2 → GP K H2 n k v → Q v H2) → te σ H1 Q
def GAP (K : PySem.W.Frag) (ta : TA) (σ : L2.St) (H : Hp) (n k m : Nat) : Prop :=
  ∀ H1, Ext H H1 → ∀ Q : List V → Hp → Prop, (∀ vs H2, Ext H1 H2 → vs.length = m → (∀ v ∈ vs, GP K H2 n k v) → Q vs H2) → ta σ H1 Q
def GE (K : PySem.W.Frag) (te : TE) (σ : L2.St) (H : Hp) (n k : Nat) : Prop := ∀ H1, Ext H H1 → ∀ Q : VK, (∀ v H2, Ext H1 H2 → GQ K H2 n k v → Q v H2) → te σ H1 Q
def GA (K : PySem.W.Frag) (ta : TA) (σ : L2.St) (H : Hp) (n k m : Nat) : Prop :=
  ∀ H1, Ext H H1 → ∀ Q : List V → Hp → Prop, (∀ vs H2, Ext H1 H2 → vs.length = m → (∀ v ∈ vs, GQ K H2 n k v) → Q vs H2) → ta σ H1 Q
/-- an expression that is worth a scalar and leaves the heap -/
theorem gep_pure (h : ∀ H, GP K H n k v) (he : ∀ H1 (Q : VK), Q v H1 → te σ H1 Q) : GEP K te σ H n k := fun H1 _ Q q => he H1 Q (q v H1 (Ext.refl _) (h H1))
theorem gep_c (h : ∀ H, GP K H n k v) : GEP K (tC v) σ H n k := gep_pure h fun _ _ q => q
theorem gep_var {i : Nat} (hv : σ[i]? = some (some v)) (h : ∀ H, GP K H n k v) : GEP K (tVar i) σ H n k := gep_pure h fun _ _ q => ⟨v, hv, q⟩
theorem GEP.up (h : GEP K te σ H n k) (hn : n ≤ n') (hk : k ≤ k') : GEP K te σ H n' k' := fun H1 e Q q => h H1 e Q fun v H2 e2 g => q v H2 e2 (g.up hn hk)
theorem GEP.ge (h : GEP K te σ H n k) (hn : n ≤ n' := by decide) (hk : k ≤ k' := by decide) : GE K te σ H n' k' := fun H1 e Q q => h H1 e Q fun v H2 e2 g => q v H2 e2 (g.q hn hk)
theorem GEP.ext {H' : Hp} (h : GEP K te σ H n k) (e : Ext H H') : GEP K te σ H' n k := fun H1 e1 Q q => h H1 (e.trans e1) Q q
theorem GA.ext {H' : Hp} (h : GA K ta σ H n k m) (e : Ext H H') : GA K ta σ H' n k m := fun H1 e1 Q q => h H1 (e.trans e1) Q q
theorem gap_nil : GAP K tNil σ H n k 0 := fun H1 _ Q q => q [] H1 (Ext.refl _) rfl (fun _ h => nomatch h)
theorem gap_cons (h : GEP K te σ H n k) (hr : GAP K ta σ H n k m) : GAP K (tCons te ta) σ H n k (m + 1) := fun H1 e1 Q q =>
  h H1 e1 _ fun v H2 e2 g => hr H2 (e1.trans e2) _ fun vs H3 e3 l gs => q (v :: vs) H3 (e2.trans e3) (congrArg Nat.succ l) fun u hu => by
    rcases List.mem_cons.mp hu with rfl | hu
    · exact g.ext e3
    · exact gs u hu
theorem ga_nil : GA K tNil σ H n k 0 := fun H1 _ Q q => q [] H1 (Ext.refl _) rfl (fun _ h => nomatch h)
theorem ga_cons (h : GE K te σ H n k) (hr : GA K ta σ H n k m) : GA K (tCons te ta) σ H n k (m + 1) := fun H1 e1 Q q =>
  h H1 e1 _ fun v H2 e2 g => hr H2 (e1.trans e2) _ fun vs H3 e3 l gs => q (v :: vs) H3 (e2.trans e3) (congrArg Nat.succ l) fun u hu => by
    rcases List.mem_cons.mp hu with rfl | hu
    · exact g.ext e3
    · exact gs u hu
theorem gep_tup (h : GAP K ta σ H n k m) (hm : m ≤ 100000 := by decide) : GEP K (tTup ta) σ H (n * m + 2 * m + 3) (k + 1) := fun H1 e1 Q q =>
  h H1 e1 _ fun vs H2 e2 l gs => ⟨by rw [l]; exact Nat.le_trans hm (by decide), fun p hp => q _ _ (e2.trans (Ext.new hp)) (gp_tup (.inl (.inl upd_same)) (fun v hv => (gs v hv).ext (Ext.new hp)) (Nat.le_of_eq l))⟩
theorem gep_lst (h : GAP K ta σ H n k m) (hm : m ≤ 100000 := by decide) (h3 : m ≠ 3 := by decide) : GEP K (tLst ta) σ H (n * m + 2 * m + 3) (k + 1) := fun H1 e1 Q q =>
  h H1 e1 _ fun vs H2 e2 l gs => ⟨by rw [l]; exact Nat.le_trans hm (by decide), fun p hp => q _ _ (e2.trans (Ext.new hp)) (gp_lst (.inl (.inl upd_same)) (fun v hv => (gs v hv).ext (Ext.new hp)) (Nat.le_of_eq l) (by rw [l]; exact h3))⟩
theorem ge_dict (hn : 5 ≤ n := by decide) (hk : 1 ≤ k := by decide) : GE K tDNewK σ H n k := fun H1 e1 Q q => fun d hd => q _ _ (Ext.new hd) (gq_dict upd_same hn hk)
/-- a display -/
theorem lst_good {Q : VK} (h : GA K ta σ H n k m) (hm : m ≤ 100000) (q : ∀ p xs H2, H p = none → Ext H H2 → H2 p = some (.lst xs) → xs.length = m → (∀ v ∈ xs, GQ K H2 n k v) → Q (.ref p) H2) : tLst ta σ H Q :=
  h H (Ext.refl _) _ fun vs H2 e2 l gs => ⟨by rw [l]; exact Nat.le_trans hm (by decide), fun p hp => q p vs _ (e2.fresh hp) (e2.trans (Ext.new hp)) upd_same l fun v hv => (gs v hv).ext (Ext.new hp)⟩
/-- some + [..] -/
theorem cat_good {Q : VK} {i : Nat} {p : Addr} {xs : List V} (hσ : σ[i]? = some (some (.ref p))) (hp : H p = some (.lst xs)) (hx : ∀ v ∈ xs, GQ K H n k v) (hl : xs.length ≤ 10000) (hA : GA K ta σ H n k m) (hm : m ≤ 10000)
    (q : ∀ p' zs H', H p' = none → Ext H H' → H' p' = some (.lst zs) → zs.length = xs.length + m → (∀ v ∈ zs, GQ K H' n k v) → Q (.ref p') H') : tOp rCat (tVar i) (tLst ta) σ H Q :=
  ⟨_, hσ, lst_good hA (Nat.le_trans hm (by decide)) fun p2 ys H2 hn2 e2 hp2 l2 g2 => ⟨p, p2, xs, ys, rfl, rfl, e2 _ _ hp, hp2, Nat.le_trans (show xs.length + ys.length ≤ 100000 by omega) (by decide), fun p3 hp3 =>
    q p3 (xs ++ ys) _ (e2.fresh hp3) (e2.trans (Ext.new hp3)) upd_same (by rw [List.length_append, l2]) fun v hv => by
      rcases List.mem_append.mp hv with hv | hv
      · exact (hx v hv).ext (e2.trans (Ext.new hp3))
      · exact (g2 v hv).ext (Ext.new hp3)⟩⟩
end

/-! ### texts of plain signs -/
structure Tx (m : Nat) (x : Str) : Prop where
  len : x.length ≤ m
  sg : ∀ c ∈ x.cps.toList, c < 1114112
theorem Tx.up {m m' : Nat} {x : Str} (h : Tx m x) (hm : m ≤ m') : Tx m' x := ⟨Nat.le_trans h.len hm, h.sg⟩
theorem Tx.gp {K : PySem.W.Frag} {H : Hp} {m : Nat} {x : Str} (h : Tx m x) : GP K H (10 * m + 2) 0 (.str x) := gp_str h.len h.sg
theorem Tx.size {m : Nat} {x : Str} (h : Tx m x) (hm : m ≤ 1000000 := by decide) : x.length ≤ sizeLine := Nat.le_trans h.len (Nat.le_trans hm (by decide))
theorem Tx.size2 {m n : Nat} {x y : Str} (h : Tx m x) (h' : Tx n y) (hm : m + n ≤ 1000000 := by decide) : x.length + y.length ≤ sizeLine := Nat.le_trans (Nat.add_le_add h.len h'.len) (Nat.le_trans hm (by decide))
theorem tx_lit {x : Str} {m : Nat} (h : (decide (x.length ≤ m) && x.cps.toList.all fun c => decide (c < 1114112)) = true) : Tx m x := by
  rw [Bool.and_eq_true] at h
  exact ⟨of_decide_eq_true h.1, fun c hc => of_decide_eq_true (List.all_eq_true.mp h.2 c hc)⟩
theorem tx_app {x y : Str} {m n : Nat} (h : Tx m x) (h' : Tx n y) : Tx (m + n) (x ++ y) := by
  have e : (x ++ y).cps = x.cps ++ y.cps := rfl
  refine ⟨?_, fun c hc => ?_⟩
  · show (x ++ y).cps.size ≤ m + n
    rw [e, Array.size_append]
    have h1 : x.cps.size ≤ m := h.len
    have h2 : y.cps.size ≤ n := h'.len
    omega
  · rw [e, Array.toList_append] at hc
    rcases List.mem_append.mp hc with hc | hc
    · exact h.sg c hc
    · exact h'.sg c hc
theorem tx_cut {x : Str} {m : Nat} (h : Tx m x) (lo hi : Option Int) : Tx m (cutS x lo hi) := by
  refine ⟨Nat.le_trans (cutS_length x lo hi) h.len, fun c hc => h.sg c ?_⟩
  unfold cutS at hc
  exact List.mem_of_mem_drop (List.mem_of_mem_take hc)
theorem tx_sign {c : Nat} (h : c < 1114112) : Tx 1 (⟨#[c]⟩ : Str) := ⟨by show 1 ≤ 1; decide, fun d hd => by
  have : d = c := by simpa using hd
  rw [this]
  exact h⟩
theorem tx_signs {cs : List Nat} {m : Nat} (hl : cs.length ≤ m) (h : ∀ c ∈ cs, c < 1114112) : Tx m (⟨cs.toArray⟩ : Str) := ⟨by show cs.toArray.size ≤ m; simpa using hl, fun c hc => h c (by simpa using hc)⟩
theorem atI_mem {α : Type} {xs : List α} {i : Int} (h0 : 0 ≤ i) (h1 : i < xs.length) : ∃ c, atI xs i = some c ∧ c ∈ xs := by
  have hlt : i.toNat < xs.length := by omega
  refine ⟨xs[i.toNat], ?_, List.getElem_mem hlt⟩
  unfold atI ixN
  rw [if_pos h0, if_pos h1]
  show xs[i.toNat]? = _
  exact List.getElem?_eq_getElem hlt
theorem all_nil {α : Type} {P : α → Prop} : ∀ v ∈ ([] : List α), P v := fun _ h => nomatch h
theorem all_cons {α : Type} {P : α → Prop} {x : α} {xs : List α} (h : P x) (hr : ∀ v ∈ xs, P v) : ∀ v ∈ x :: xs, P v := fun v hv => by
  rcases List.mem_cons.mp hv with rfl | hv
  · exact h
  · exact hr v hv
end Mc
namespace Me
open PySem PySem.Spec PyProof.Rows L2
/-! ### the text by places -/
def top (i : Nat) : Stmt := PySem.Challenge.pw_meetcells_k01_words_kinds_and_ports.main.body.getD i (.Pass ⟨0, 0, 0, 0⟩)
abbrev s_is_integer : Stmt := top 5
abbrev s_is_color : Stmt := top 6
abbrev s_is_kind : Stmt := top 7
abbrev s_is_word : Stmt := top 8
abbrev s_is_port : Stmt := top 9
abbrev s_other_color : Stmt := top 10
abbrev s_word_key : Stmt := top 11
abbrev s__law_cell : Stmt := top 13
abbrev s__law_box : Stmt := top 14
abbrev s__law_take : Stmt := top 15
abbrev s__law_word : Stmt := top 16
abbrev s__law_values : Stmt := top 17
abbrev s__law_integer : Stmt := top 18
abbrev s__law_kinds_right : Stmt := top 19
abbrev s__law_word_right : Stmt := top 20
abbrev s__law_port_due : Stmt := top 21
abbrev s_law : Stmt := top 22
abbrev s_me : Stmt := inClass (top 1) 0
/-! ### the defs as data -/
def d_is_integer : He.DefD := ⟨("is_integer", none), "is_integer", "is_integer", defArgs s_is_integer, defBody s_is_integer, defScope s_is_integer, [], []⟩
def d_is_color : He.DefD := ⟨("is_color", none), "is_color", "is_color", defArgs s_is_color, defBody s_is_color, defScope s_is_color, [], []⟩
def d_is_kind : He.DefD := ⟨("is_kind", none), "is_kind", "is_kind", defArgs s_is_kind, defBody s_is_kind, defScope s_is_kind, [], []⟩
def d_is_word : He.DefD := ⟨("is_word", none), "is_word", "is_word", defArgs s_is_word, defBody s_is_word, defScope s_is_word, [.int (40)], []⟩
def d_is_port : He.DefD := ⟨("is_port", none), "is_port", "is_port", defArgs s_is_port, defBody s_is_port, defScope s_is_port, [], []⟩
def d_other_color : He.DefD := ⟨("other_color", none), "other_color", "other_color", defArgs s_other_color, defBody s_other_color, defScope s_other_color, [], []⟩
def d_word_key : He.DefD := ⟨("word_key", none), "word_key", "word_key", defArgs s_word_key, defBody s_word_key, defScope s_word_key, [], []⟩
def d__law_cell : He.DefD := ⟨("_law_cell", none), "_law_cell", "_law_cell", defArgs s__law_cell, defBody s__law_cell, defScope s__law_cell, [], []⟩
def d__law_box : He.DefD := ⟨("_law_box", none), "_law_box", "_law_box", defArgs s__law_box, defBody s__law_box, defScope s__law_box, [], []⟩
def d__law_take : He.DefD := ⟨("_law_take", none), "_law_take", "_law_take", defArgs s__law_take, defBody s__law_take, defScope s__law_take, [], []⟩
def d__law_word : He.DefD := ⟨("_law_word", none), "_law_word", "_law_word", defArgs s__law_word, defBody s__law_word, defScope s__law_word, [], []⟩
def d__law_values : He.DefD := ⟨("_law_values", none), "_law_values", "_law_values", defArgs s__law_values, defBody s__law_values, defScope s__law_values, [], []⟩
def d__law_integer : He.DefD := ⟨("_law_integer", none), "_law_integer", "_law_integer", defArgs s__law_integer, defBody s__law_integer, defScope s__law_integer, [], []⟩
def d__law_kinds_right : He.DefD := ⟨("_law_kinds_right", none), "_law_kinds_right", "_law_kinds_right", defArgs s__law_kinds_right, defBody s__law_kinds_right, defScope s__law_kinds_right, [], []⟩
def d__law_word_right : He.DefD := ⟨("_law_word_right", none), "_law_word_right", "_law_word_right", defArgs s__law_word_right, defBody s__law_word_right, defScope s__law_word_right, [], []⟩
def d__law_port_due : He.DefD := ⟨("_law_port_due", none), "_law_port_due", "_law_port_due", defArgs s__law_port_due, defBody s__law_port_due, defScope s__law_port_due, [], []⟩
def d_law : He.DefD := ⟨("law", none), "law", "law", defArgs s_law, defBody s_law, defScope s_law, [], []⟩
def fn : List He.DefD := ([d_is_integer, d_is_color, d_is_kind, d_is_word, d_is_port, d_other_color, d_word_key, d__law_cell, d__law_box, d__law_take, d__law_word, d__law_values, d__law_integer, d__law_kinds_right, d__law_word_right] : List He.DefD) ++ ([d__law_port_due, d_law] : List He.DefD)
def fa : List He.Fa := ([.glo "is_integer", .glo "is_color", .glo "is_kind", .glo "is_word", .glo "is_port", .glo "other_color", .glo "word_key", .glo "_law_cell", .glo "_law_box", .glo "_law_take", .glo "_law_word", .glo "_law_values", .glo "_law_integer", .glo "_law_kinds_right", .glo "_law_word_right"] : List He.Fa) ++ ([.glo "_law_port_due", .glo "law", .glo "MeetcellsError", .glo "InvalidKind", .glo "COLORS", .free "len", .free "range", .free "repr", .free "isinstance", .free "max", .free "min", .free "int", .free "str", .free "tuple", .free "super"] : List He.Fa) ++ ([.free "bool", .exm "MeetcellsError" "MeetcellsError" true, .exm "InvalidKind" "MeetcellsError" true, .exm "InvalidKind" "InvalidKind" true] : List He.Fa)
def tabs : List He.Tab := []
def ex (K : PySem.W.Frag) : Bool := Mc.inB (PySem.Challenge.pw_meetcells_k01_words_kinds_and_ports.main.file) K && (Mc.meClsB K "MeetcellsError" && (Mc.meClsB K "InvalidKind" && (He.tupB K "COLORS" [.str "red", .str "blue"])))
abbrev R : PySem.W.OpenRow := PySem.W.OpenLaw.row PySem.Challenge.rw_meetcells_k01_words_kinds_and_ports
abbrev hk : PySem.W.Hook := Mc.hookM 6 fa fn tabs s_me ex
def ob (s : PySem.W.SharedT) : Mc.AlM := Mc.obsM 6 fa fn tabs ex (HandSHeadRun.getT s)
theorem ob_eq (s : PySem.W.SharedT) : ob s = hk.obs s.abs := Mc.obsM_eq (HandSHeadRun.getT_eq s)
def loose : List PySem.Str := (["MeetcellsError", "InvalidKind", "COLORS", "is_integer", "is_color", "is_kind", "is_word", "is_port", "other_color", "word_key", "_law_cell", "_law_box", "_law_take", "_law_word", "_law_values"] : List PySem.Str) ++ (["_law_integer", "_law_kinds_right", "_law_word_right", "_law_port_due"] : List PySem.Str)
theorem run (w : World) : HandSHeadRun.RunEq R (PySem.W.view R.prog [22]) hk ob 4000 loose w := by
  intro os
  kernel_rfl
abbrev N_is_integer : List Str := ["value"]
theorem sc_is_integer : FnScope N_is_integer ["value"] (defScope s_is_integer) := ⟨rfl, rfl, rfl, by decide +kernel, rfl, by decide +kernel, by decide +kernel⟩
abbrev N_is_color : List Str := ["value"]
theorem sc_is_color : FnScope N_is_color ["value"] (defScope s_is_color) := ⟨rfl, rfl, rfl, by decide +kernel, rfl, by decide +kernel, by decide +kernel⟩
abbrev N_is_kind : List Str := ["value"]
theorem sc_is_kind : FnScope N_is_kind ["value"] (defScope s_is_kind) := ⟨rfl, rfl, rfl, by decide +kernel, rfl, by decide +kernel, by decide +kernel⟩
abbrev N_is_word : List Str := ["value", "most"]
theorem sc_is_word : FnScope N_is_word ["value", "most"] (defScope s_is_word) := ⟨rfl, rfl, rfl, by decide +kernel, rfl, by decide +kernel, by decide +kernel⟩
abbrev N_is_port : List Str := ["value", "cell", "number"]
theorem sc_is_port : FnScope N_is_port ["value"] (defScope s_is_port) := ⟨rfl, rfl, rfl, by decide +kernel, rfl, by decide +kernel, by decide +kernel⟩
abbrev N_other_color : List Str := ["color"]
theorem sc_other_color : FnScope N_other_color ["color"] (defScope s_other_color) := ⟨rfl, rfl, rfl, by decide +kernel, rfl, by decide +kernel, by decide +kernel⟩
abbrev N_word_key : List Str := ["red", "blue"]
theorem sc_word_key : FnScope N_word_key ["red", "blue"] (defScope s_word_key) := ⟨rfl, rfl, rfl, by decide +kernel, rfl, by decide +kernel, by decide +kernel⟩
abbrev N__law_cell : List Str := ["_law_script", "_law_k"]
theorem sc__law_cell : FnScope N__law_cell ["_law_script", "_law_k"] (defScope s__law_cell) := ⟨rfl, rfl, rfl, by decide +kernel, rfl, by decide +kernel, by decide +kernel⟩
abbrev N__law_box : List Str := ["_law_unit"]
theorem sc__law_box : FnScope N__law_box ["_law_unit"] (defScope s__law_box) := ⟨rfl, rfl, rfl, by decide +kernel, rfl, by decide +kernel, by decide +kernel⟩
abbrev N__law_take : List Str := ["_law_box_here", "_law_many", "_law_digit", "_law_number"]
theorem sc__law_take : FnScope N__law_take ["_law_box_here", "_law_many"] (defScope s__law_take) := ⟨rfl, rfl, rfl, by decide +kernel, rfl, by decide +kernel, by decide +kernel⟩
abbrev N__law_word : List Str := ["_law_box_here", "_law_most", "_law_k"]
theorem sc__law_word : FnScope N__law_word ["_law_box_here", "_law_most"] (defScope s__law_word) := ⟨rfl, rfl, rfl, by decide +kernel, rfl, by decide +kernel, by decide +kernel⟩
abbrev N__law_values : List Str := ["_law_box_here", "_law_word_here", "_law_at", "_law_odd", "_law_spoilt", "_law_one", "_law_two", "_law_color", "_law_some"]
theorem sc__law_values : FnScope N__law_values ["_law_box_here"] (defScope s__law_values) := ⟨rfl, rfl, rfl, by decide +kernel, rfl, by decide +kernel, by decide +kernel⟩
abbrev N__law_integer : List Str := ["_law_value"]
theorem sc__law_integer : FnScope N__law_integer ["_law_value"] (defScope s__law_integer) := ⟨rfl, rfl, rfl, by decide +kernel, rfl, by decide +kernel, by decide +kernel⟩
abbrev N__law_kinds_right : List Str := ["_law_value", "_law_color", "_law_kind", "_law_told", "e"]
theorem sc__law_kinds_right : FnScope N__law_kinds_right ["_law_value"] (defScope s__law_kinds_right) := ⟨rfl, rfl, rfl, by decide +kernel, rfl, by decide +kernel, by decide +kernel⟩
abbrev N__law_word_right : List Str := ["_law_value", "_law_most", "_law_due", "_law_sign"]
theorem sc__law_word_right : FnScope N__law_word_right ["_law_value", "_law_most"] (defScope s__law_word_right) := ⟨rfl, rfl, rfl, by decide +kernel, rfl, by decide +kernel, by decide +kernel⟩
abbrev N__law_port_due : List Str := ["_law_value"]
theorem sc__law_port_due : FnScope N__law_port_due ["_law_value"] (defScope s__law_port_due) := ⟨rfl, rfl, rfl, by decide +kernel, rfl, by decide +kernel, by decide +kernel⟩
abbrev N_law : List Str := ["_law_script", "_law_k", "_law_box_here", "_law_values_here", "_law_most", "_law_value", "_law_red", "_law_blue"]
theorem sc_law : FnScope N_law ["_law_script"] (defScope s_law) := ⟨rfl, rfl, rfl, by decide +kernel, rfl, by decide +kernel, by decide +kernel⟩
structure Txt (P : Program) (w : World) (K : PySem.W.Frag) (mg : Str → Option Value) : Prop where
  m_len : mg "len" = none
  m_range : mg "range" = none
  m_repr : mg "repr" = none
  m_isinstance : mg "isinstance" = none
  m_max : mg "max" = none
  m_min : mg "min" = none
  m_int : mg "int" = none
  m_str : mg "str" = none
  m_tuple : mg "tuple" = none
  m_super : mg "super" = none
  m_bool : mg "bool" = none
  g_is_integer : mg "is_integer" = some (.ref (He.ga K "is_integer"))
  f_is_integer : ∃ fd, FunD K "is_integer" "is_integer" (defArgs s_is_integer) (defBody s_is_integer) (defScope s_is_integer) [] [] (He.ga K "is_integer") fd
  k_is_integer : PySem.W.keepIn K (.ref (He.ga K "is_integer")) = true
  g_is_color : mg "is_color" = some (.ref (He.ga K "is_color"))
  f_is_color : ∃ fd, FunD K "is_color" "is_color" (defArgs s_is_color) (defBody s_is_color) (defScope s_is_color) [] [] (He.ga K "is_color") fd
  k_is_color : PySem.W.keepIn K (.ref (He.ga K "is_color")) = true
  g_is_kind : mg "is_kind" = some (.ref (He.ga K "is_kind"))
  f_is_kind : ∃ fd, FunD K "is_kind" "is_kind" (defArgs s_is_kind) (defBody s_is_kind) (defScope s_is_kind) [] [] (He.ga K "is_kind") fd
  k_is_kind : PySem.W.keepIn K (.ref (He.ga K "is_kind")) = true
  g_is_word : mg "is_word" = some (.ref (He.ga K "is_word"))
  f_is_word : ∃ fd, FunD K "is_word" "is_word" (defArgs s_is_word) (defBody s_is_word) (defScope s_is_word) [.int (40)] [] (He.ga K "is_word") fd
  k_is_word : PySem.W.keepIn K (.ref (He.ga K "is_word")) = true
  g_is_port : mg "is_port" = some (.ref (He.ga K "is_port"))
  f_is_port : ∃ fd, FunD K "is_port" "is_port" (defArgs s_is_port) (defBody s_is_port) (defScope s_is_port) [] [] (He.ga K "is_port") fd
  k_is_port : PySem.W.keepIn K (.ref (He.ga K "is_port")) = true
  g_other_color : mg "other_color" = some (.ref (He.ga K "other_color"))
  f_other_color : ∃ fd, FunD K "other_color" "other_color" (defArgs s_other_color) (defBody s_other_color) (defScope s_other_color) [] [] (He.ga K "other_color") fd
  k_other_color : PySem.W.keepIn K (.ref (He.ga K "other_color")) = true
  g_word_key : mg "word_key" = some (.ref (He.ga K "word_key"))
  f_word_key : ∃ fd, FunD K "word_key" "word_key" (defArgs s_word_key) (defBody s_word_key) (defScope s_word_key) [] [] (He.ga K "word_key") fd
  k_word_key : PySem.W.keepIn K (.ref (He.ga K "word_key")) = true
  g__law_cell : mg "_law_cell" = some (.ref (He.ga K "_law_cell"))
  f__law_cell : ∃ fd, FunD K "_law_cell" "_law_cell" (defArgs s__law_cell) (defBody s__law_cell) (defScope s__law_cell) [] [] (He.ga K "_law_cell") fd
  k__law_cell : PySem.W.keepIn K (.ref (He.ga K "_law_cell")) = true
  g__law_box : mg "_law_box" = some (.ref (He.ga K "_law_box"))
  f__law_box : ∃ fd, FunD K "_law_box" "_law_box" (defArgs s__law_box) (defBody s__law_box) (defScope s__law_box) [] [] (He.ga K "_law_box") fd
  k__law_box : PySem.W.keepIn K (.ref (He.ga K "_law_box")) = true
  g__law_take : mg "_law_take" = some (.ref (He.ga K "_law_take"))
  f__law_take : ∃ fd, FunD K "_law_take" "_law_take" (defArgs s__law_take) (defBody s__law_take) (defScope s__law_take) [] [] (He.ga K "_law_take") fd
  k__law_take : PySem.W.keepIn K (.ref (He.ga K "_law_take")) = true
  g__law_word : mg "_law_word" = some (.ref (He.ga K "_law_word"))
  f__law_word : ∃ fd, FunD K "_law_word" "_law_word" (defArgs s__law_word) (defBody s__law_word) (defScope s__law_word) [] [] (He.ga K "_law_word") fd
  k__law_word : PySem.W.keepIn K (.ref (He.ga K "_law_word")) = true
  g__law_values : mg "_law_values" = some (.ref (He.ga K "_law_values"))
  f__law_values : ∃ fd, FunD K "_law_values" "_law_values" (defArgs s__law_values) (defBody s__law_values) (defScope s__law_values) [] [] (He.ga K "_law_values") fd
  k__law_values : PySem.W.keepIn K (.ref (He.ga K "_law_values")) = true
  g__law_integer : mg "_law_integer" = some (.ref (He.ga K "_law_integer"))
  f__law_integer : ∃ fd, FunD K "_law_integer" "_law_integer" (defArgs s__law_integer) (defBody s__law_integer) (defScope s__law_integer) [] [] (He.ga K "_law_integer") fd
  k__law_integer : PySem.W.keepIn K (.ref (He.ga K "_law_integer")) = true
  g__law_kinds_right : mg "_law_kinds_right" = some (.ref (He.ga K "_law_kinds_right"))
  f__law_kinds_right : ∃ fd, FunD K "_law_kinds_right" "_law_kinds_right" (defArgs s__law_kinds_right) (defBody s__law_kinds_right) (defScope s__law_kinds_right) [] [] (He.ga K "_law_kinds_right") fd
  k__law_kinds_right : PySem.W.keepIn K (.ref (He.ga K "_law_kinds_right")) = true
  g__law_word_right : mg "_law_word_right" = some (.ref (He.ga K "_law_word_right"))
  f__law_word_right : ∃ fd, FunD K "_law_word_right" "_law_word_right" (defArgs s__law_word_right) (defBody s__law_word_right) (defScope s__law_word_right) [] [] (He.ga K "_law_word_right") fd
  k__law_word_right : PySem.W.keepIn K (.ref (He.ga K "_law_word_right")) = true
  g__law_port_due : mg "_law_port_due" = some (.ref (He.ga K "_law_port_due"))
  f__law_port_due : ∃ fd, FunD K "_law_port_due" "_law_port_due" (defArgs s__law_port_due) (defBody s__law_port_due) (defScope s__law_port_due) [] [] (He.ga K "_law_port_due") fd
  k__law_port_due : PySem.W.keepIn K (.ref (He.ga K "_law_port_due")) = true
  g_law : mg "law" = some (.ref (He.ga K "law"))
  f_law : ∃ fd, FunD K "law" "law" (defArgs s_law) (defBody s_law) (defScope s_law) [] [] (He.ga K "law") fd
  k_law : PySem.W.keepIn K (.ref (He.ga K "law")) = true
  g_MeetcellsError : mg "MeetcellsError" = some (.ref (He.ga K "MeetcellsError"))
  g_InvalidKind : mg "InvalidKind" = some (.ref (He.ga K "InvalidKind"))
  g_COLORS : mg "COLORS" = some (.ref (He.ga K "COLORS"))
  t_COLORS : ∀ H, SqT K H (He.ga K "COLORS") [.str "red", .str "blue"]
  me : Mc.MeInit P K (Mc.meD K) (Mc.meI K)
  x_MeetcellsError : Mc.MeCls K (Mc.meD K) (Mc.meI K) (He.ga K "MeetcellsError")
  x_InvalidKind : Mc.MeCls K (Mc.meD K) (Mc.meI K) (He.ga K "InvalidKind")
  e_MeetcellsError_MeetcellsError : PySem.W.exmOne K (.ref (He.ga K "MeetcellsError")) (.ref (He.ga K "MeetcellsError")) = some true
  e_InvalidKind_MeetcellsError : PySem.W.exmOne K (.ref (He.ga K "InvalidKind")) (.ref (He.ga K "MeetcellsError")) = some true
  e_InvalidKind_InvalidKind : PySem.W.exmOne K (.ref (He.ga K "InvalidKind")) (.ref (He.ga K "InvalidKind")) = some true
theorem txt_mk {P : Program} {w : World} {K : PySem.W.Frag} {h : Heap} {mg : Str → Option Value} (hP : P = PySem.Challenge.pw_meetcells_k01_words_kinds_and_ports) (X : K.In h) (G : h.Ns mainGlobals mg) (c : Mc.SaysM fa fn tabs s_me ex w K) : Txt P w K mg := by
  subst hP
  have m_len : mg "len" = none := He.free_ok X G (c.t.d.fact 20 rfl)
  have m_range : mg "range" = none := He.free_ok X G (c.t.d.fact 21 rfl)
  have m_repr : mg "repr" = none := He.free_ok X G (c.t.d.fact 22 rfl)
  have m_isinstance : mg "isinstance" = none := He.free_ok X G (c.t.d.fact 23 rfl)
  have m_max : mg "max" = none := He.free_ok X G (c.t.d.fact 24 rfl)
  have m_min : mg "min" = none := He.free_ok X G (c.t.d.fact 25 rfl)
  have m_int : mg "int" = none := He.free_ok X G (c.t.d.fact 26 rfl)
  have m_str : mg "str" = none := He.free_ok X G (c.t.d.fact 27 rfl)
  have m_tuple : mg "tuple" = none := He.free_ok X G (c.t.d.fact 28 rfl)
  have m_super : mg "super" = none := He.free_ok X G (c.t.d.fact 29 rfl)
  have m_bool : mg "bool" = none := He.free_ok X G (c.t.d.fact 30 rfl)
  have g_is_integer : mg "is_integer" = some (.ref (He.ga K "is_integer")) := He.glo_ok X G (c.t.d.fact 0 rfl)
  have f_is_integer : ∃ fd, FunD K "is_integer" "is_integer" (defArgs s_is_integer) (defBody s_is_integer) (defScope s_is_integer) [] [] (He.ga K "is_integer") fd := c.t.d.def_ 0 (d := d_is_integer) rfl
  have k_is_integer : PySem.W.keepIn K (.ref (He.ga K "is_integer")) = true := f_is_integer.choose_spec.kp
  have g_is_color : mg "is_color" = some (.ref (He.ga K "is_color")) := He.glo_ok X G (c.t.d.fact 1 rfl)
  have f_is_color : ∃ fd, FunD K "is_color" "is_color" (defArgs s_is_color) (defBody s_is_color) (defScope s_is_color) [] [] (He.ga K "is_color") fd := c.t.d.def_ 1 (d := d_is_color) rfl
  have k_is_color : PySem.W.keepIn K (.ref (He.ga K "is_color")) = true := f_is_color.choose_spec.kp
  have g_is_kind : mg "is_kind" = some (.ref (He.ga K "is_kind")) := He.glo_ok X G (c.t.d.fact 2 rfl)
  have f_is_kind : ∃ fd, FunD K "is_kind" "is_kind" (defArgs s_is_kind) (defBody s_is_kind) (defScope s_is_kind) [] [] (He.ga K "is_kind") fd := c.t.d.def_ 2 (d := d_is_kind) rfl
  have k_is_kind : PySem.W.keepIn K (.ref (He.ga K "is_kind")) = true := f_is_kind.choose_spec.kp
  have g_is_word : mg "is_word" = some (.ref (He.ga K "is_word")) := He.glo_ok X G (c.t.d.fact 3 rfl)
  have f_is_word : ∃ fd, FunD K "is_word" "is_word" (defArgs s_is_word) (defBody s_is_word) (defScope s_is_word) [.int (40)] [] (He.ga K "is_word") fd := c.t.d.def_ 3 (d := d_is_word) rfl
  have k_is_word : PySem.W.keepIn K (.ref (He.ga K "is_word")) = true := f_is_word.choose_spec.kp
  have g_is_port : mg "is_port" = some (.ref (He.ga K "is_port")) := He.glo_ok X G (c.t.d.fact 4 rfl)
  have f_is_port : ∃ fd, FunD K "is_port" "is_port" (defArgs s_is_port) (defBody s_is_port) (defScope s_is_port) [] [] (He.ga K "is_port") fd := c.t.d.def_ 4 (d := d_is_port) rfl
  have k_is_port : PySem.W.keepIn K (.ref (He.ga K "is_port")) = true := f_is_port.choose_spec.kp
  have g_other_color : mg "other_color" = some (.ref (He.ga K "other_color")) := He.glo_ok X G (c.t.d.fact 5 rfl)
  have f_other_color : ∃ fd, FunD K "other_color" "other_color" (defArgs s_other_color) (defBody s_other_color) (defScope s_other_color) [] [] (He.ga K "other_color") fd := c.t.d.def_ 5 (d := d_other_color) rfl
  have k_other_color : PySem.W.keepIn K (.ref (He.ga K "other_color")) = true := f_other_color.choose_spec.kp
  have g_word_key : mg "word_key" = some (.ref (He.ga K "word_key")) := He.glo_ok X G (c.t.d.fact 6 rfl)
  have f_word_key : ∃ fd, FunD K "word_key" "word_key" (defArgs s_word_key) (defBody s_word_key) (defScope s_word_key) [] [] (He.ga K "word_key") fd := c.t.d.def_ 6 (d := d_word_key) rfl
  have k_word_key : PySem.W.keepIn K (.ref (He.ga K "word_key")) = true := f_word_key.choose_spec.kp
  have g__law_cell : mg "_law_cell" = some (.ref (He.ga K "_law_cell")) := He.glo_ok X G (c.t.d.fact 7 rfl)
  have f__law_cell : ∃ fd, FunD K "_law_cell" "_law_cell" (defArgs s__law_cell) (defBody s__law_cell) (defScope s__law_cell) [] [] (He.ga K "_law_cell") fd := c.t.d.def_ 7 (d := d__law_cell) rfl
  have k__law_cell : PySem.W.keepIn K (.ref (He.ga K "_law_cell")) = true := f__law_cell.choose_spec.kp
  have g__law_box : mg "_law_box" = some (.ref (He.ga K "_law_box")) := He.glo_ok X G (c.t.d.fact 8 rfl)
  have f__law_box : ∃ fd, FunD K "_law_box" "_law_box" (defArgs s__law_box) (defBody s__law_box) (defScope s__law_box) [] [] (He.ga K "_law_box") fd := c.t.d.def_ 8 (d := d__law_box) rfl
  have k__law_box : PySem.W.keepIn K (.ref (He.ga K "_law_box")) = true := f__law_box.choose_spec.kp
  have g__law_take : mg "_law_take" = some (.ref (He.ga K "_law_take")) := He.glo_ok X G (c.t.d.fact 9 rfl)
  have f__law_take : ∃ fd, FunD K "_law_take" "_law_take" (defArgs s__law_take) (defBody s__law_take) (defScope s__law_take) [] [] (He.ga K "_law_take") fd := c.t.d.def_ 9 (d := d__law_take) rfl
  have k__law_take : PySem.W.keepIn K (.ref (He.ga K "_law_take")) = true := f__law_take.choose_spec.kp
  have g__law_word : mg "_law_word" = some (.ref (He.ga K "_law_word")) := He.glo_ok X G (c.t.d.fact 10 rfl)
  have f__law_word : ∃ fd, FunD K "_law_word" "_law_word" (defArgs s__law_word) (defBody s__law_word) (defScope s__law_word) [] [] (He.ga K "_law_word") fd := c.t.d.def_ 10 (d := d__law_word) rfl
  have k__law_word : PySem.W.keepIn K (.ref (He.ga K "_law_word")) = true := f__law_word.choose_spec.kp
  have g__law_values : mg "_law_values" = some (.ref (He.ga K "_law_values")) := He.glo_ok X G (c.t.d.fact 11 rfl)
  have f__law_values : ∃ fd, FunD K "_law_values" "_law_values" (defArgs s__law_values) (defBody s__law_values) (defScope s__law_values) [] [] (He.ga K "_law_values") fd := c.t.d.def_ 11 (d := d__law_values) rfl
  have k__law_values : PySem.W.keepIn K (.ref (He.ga K "_law_values")) = true := f__law_values.choose_spec.kp
  have g__law_integer : mg "_law_integer" = some (.ref (He.ga K "_law_integer")) := He.glo_ok X G (c.t.d.fact 12 rfl)
  have f__law_integer : ∃ fd, FunD K "_law_integer" "_law_integer" (defArgs s__law_integer) (defBody s__law_integer) (defScope s__law_integer) [] [] (He.ga K "_law_integer") fd := c.t.d.def_ 12 (d := d__law_integer) rfl
  have k__law_integer : PySem.W.keepIn K (.ref (He.ga K "_law_integer")) = true := f__law_integer.choose_spec.kp
  have g__law_kinds_right : mg "_law_kinds_right" = some (.ref (He.ga K "_law_kinds_right")) := He.glo_ok X G (c.t.d.fact 13 rfl)
  have f__law_kinds_right : ∃ fd, FunD K "_law_kinds_right" "_law_kinds_right" (defArgs s__law_kinds_right) (defBody s__law_kinds_right) (defScope s__law_kinds_right) [] [] (He.ga K "_law_kinds_right") fd := c.t.d.def_ 13 (d := d__law_kinds_right) rfl
  have k__law_kinds_right : PySem.W.keepIn K (.ref (He.ga K "_law_kinds_right")) = true := f__law_kinds_right.choose_spec.kp
  have g__law_word_right : mg "_law_word_right" = some (.ref (He.ga K "_law_word_right")) := He.glo_ok X G (c.t.d.fact 14 rfl)
  have f__law_word_right : ∃ fd, FunD K "_law_word_right" "_law_word_right" (defArgs s__law_word_right) (defBody s__law_word_right) (defScope s__law_word_right) [] [] (He.ga K "_law_word_right") fd := c.t.d.def_ 14 (d := d__law_word_right) rfl
  have k__law_word_right : PySem.W.keepIn K (.ref (He.ga K "_law_word_right")) = true := f__law_word_right.choose_spec.kp
  have g__law_port_due : mg "_law_port_due" = some (.ref (He.ga K "_law_port_due")) := He.glo_ok X G (c.t.d.fact 15 rfl)
  have f__law_port_due : ∃ fd, FunD K "_law_port_due" "_law_port_due" (defArgs s__law_port_due) (defBody s__law_port_due) (defScope s__law_port_due) [] [] (He.ga K "_law_port_due") fd := c.t.d.def_ 15 (d := d__law_port_due) rfl
  have k__law_port_due : PySem.W.keepIn K (.ref (He.ga K "_law_port_due")) = true := f__law_port_due.choose_spec.kp
  have g_law : mg "law" = some (.ref (He.ga K "law")) := He.glo_ok X G (c.t.d.fact 16 rfl)
  have f_law : ∃ fd, FunD K "law" "law" (defArgs s_law) (defBody s_law) (defScope s_law) [] [] (He.ga K "law") fd := c.t.d.def_ 16 (d := d_law) rfl
  have k_law : PySem.W.keepIn K (.ref (He.ga K "law")) = true := f_law.choose_spec.kp
  have g_MeetcellsError : mg "MeetcellsError" = some (.ref (He.ga K "MeetcellsError")) := He.glo_ok X G (c.t.d.fact 17 rfl)
  have g_InvalidKind : mg "InvalidKind" = some (.ref (He.ga K "InvalidKind")) := He.glo_ok X G (c.t.d.fact 18 rfl)
  have hx := c.x
  obtain ⟨b_in, hx⟩ := He.ba hx
  obtain ⟨b_MeetcellsError, hx⟩ := He.ba hx
  obtain ⟨b_InvalidKind, hx⟩ := He.ba hx
  have b_COLORS := hx
  have g_COLORS : mg "COLORS" = some (.ref (He.ga K "COLORS")) := He.glo_ok X G (c.t.d.fact 19 rfl)
  have t_COLORS : ∀ H, SqT K H (He.ga K "COLORS") [.str "red", .str "blue"] := fun H => He.tupB_ok b_COLORS H
  have me : Mc.MeInit PySem.Challenge.pw_meetcells_k01_words_kinds_and_ports K (Mc.meD K) (Mc.meI K) := Mc.meInit_ok (P := PySem.Challenge.pw_meetcells_k01_words_kinds_and_ports) (st := s_me) c.i b_in rfl rfl rfl (fun env => ⟨_, rfl⟩) rfl
  have x_MeetcellsError : Mc.MeCls K (Mc.meD K) (Mc.meI K) (He.ga K "MeetcellsError") := Mc.meCls_ok b_MeetcellsError
  have x_InvalidKind : Mc.MeCls K (Mc.meD K) (Mc.meI K) (He.ga K "InvalidKind") := Mc.meCls_ok b_InvalidKind
  have e_MeetcellsError_MeetcellsError : PySem.W.exmOne K (.ref (He.ga K "MeetcellsError")) (.ref (He.ga K "MeetcellsError")) = some true := He.exm_ok (c.t.d.fact 31 rfl)
  have e_InvalidKind_MeetcellsError : PySem.W.exmOne K (.ref (He.ga K "InvalidKind")) (.ref (He.ga K "MeetcellsError")) = some true := He.exm_ok (c.t.d.fact 32 rfl)
  have e_InvalidKind_InvalidKind : PySem.W.exmOne K (.ref (He.ga K "InvalidKind")) (.ref (He.ga K "InvalidKind")) = some true := He.exm_ok (c.t.d.fact 33 rfl)
  exact ⟨m_len, m_range, m_repr, m_isinstance, m_max, m_min, m_int, m_str, m_tuple, m_super, m_bool, g_is_integer, f_is_integer, k_is_integer, g_is_color, f_is_color, k_is_color, g_is_kind, f_is_kind, k_is_kind, g_is_word, f_is_word, k_is_word, g_is_port, f_is_port, k_is_port, g_other_color, f_other_color, k_other_color, g_word_key, f_word_key, k_word_key, g__law_cell, f__law_cell, k__law_cell, g__law_box, f__law_box, k__law_box, g__law_take, f__law_take, k__law_take, g__law_word, f__law_word, k__law_word, g__law_values, f__law_values, k__law_values, g__law_integer, f__law_integer, k__law_integer, g__law_kinds_right, f__law_kinds_right, k__law_kinds_right, g__law_word_right, f__law_word_right, k__law_word_right, g__law_port_due, f__law_port_due, k__law_port_due, g_law, f_law, k_law, g_MeetcellsError, g_InvalidKind, g_COLORS, t_COLORS, me, x_MeetcellsError, x_InvalidKind, e_MeetcellsError_MeetcellsError, e_InvalidKind_MeetcellsError, e_InvalidKind_InvalidKind⟩
end Me
namespace Me
open PySem PySem.Spec PyProof.Rows L2 Mc
local macro_rules | `(tactic| walk_at "rd") => `(tactic| repeat (first | refine ⟨_, rfl, ?_⟩ | refine ⟨_, _, rfl, rfl, ?_⟩ | refine ⟨rfl, ?_⟩))
variable {P : Program} {w : World} {K : PySem.W.Frag} {mg : Str → Option Value} {base : Heap}

/-! ### the five questions -/
def isColor : PyData → Bool
  | .str x => x == "red" || x == "blue"
  | _ => false
def isKind (d : PyData) : Bool := isColor d || match d with
  | .str x => x == "eraser"
  | _ => false
def isWord (d : PyData) (most : Int) : Bool := match d with
  | .str x => decide ((x.length : Int) ≤ most) && x.cps.toList.all fun c => c == 49 || c == 50
  | _ => false
def portOk (a b : Int) : Bool := decide (0 ≤ b) && (decide (a = -1) || (decide (0 ≤ a) && decide (b ≤ 2)))
def intOf : PyData → Option Int
  | .int i => some i
  | _ => none
def portTwo : Option Int → Option Int → Bool
  | some a, some b => portOk a b
  | _, _ => false
def portOf : List PyData → Bool
  | [a, b] => portTwo (intOf a) (intOf b)
  | _ => false
def isPort : PyData → Bool
  | .tuple ds => portOf ds
  | _ => false
theorem portTwo_l (d1 d2 : PyData) (h : isInt d1 = false) : portTwo (intOf d1) (intOf d2) = false := by
  cases d1 <;> first | rfl | cases h
theorem portTwo_r (d1 d2 : PyData) (h : isInt d2 = false) : portTwo (intOf d1) (intOf d2) = false := by
  cases d2 <;> first | (cases d1 <;> rfl) | cases h
def spB (K : PySem.W.Frag) (f : PyData → Bool) : Sp := fun vs H Q _ => ∃ (v : V) (d : PyData), vs = [v] ∧ Dq K H v d ∧ Q (.bl (f d)) H
theorem dq_str {H : Hp} {v : V} {x : Str} (h : Dq K H v (.str x)) : v = .str x := by
  cases h with
  | dp h => cases h; rfl
theorem dq_tup {H : Hp} {v : V} {ds : List PyData} (h : Dq K H v (.tuple ds)) : ∃ a xs, v = .ref a ∧ SqT K H a xs ∧ DpAll K H xs ds := by
  cases h with
  | dp h =>
    cases h with
    | tup s r => exact ⟨_, _, rfl, s, r⟩
theorem dpAll_len {H : Hp} : ∀ {xs : List V} {ds : List PyData}, DpAll K H xs ds → xs.length = ds.length
  | _, _, .nil => rfl
  | _, _, .cons _ r => congrArg Nat.succ (dpAll_len r)
theorem dpAll_two {H : Hp} {xs : List V} {ds : List PyData} (h : DpAll K H xs ds) (h2 : xs.length = 2) : ∃ x y d1 d2, xs = [x, y] ∧ ds = [d1, d2] ∧ Dp K H x d1 ∧ Dp K H y d2 := by
  cases h with
  | nil => cases h2
  | cons hx h =>
    cases h with
    | nil => cases h2
    | cons hy h =>
      cases h with
      | nil => exact ⟨_, _, _, _, rfl, rfl, hx, hy⟩
      | cons _ _ => simp at h2
theorem ok_is_integer (T : Txt P w K mg) : FnR P w K mg base (L2.CX P w) 1 (He.ga K "is_integer") (spB K isInt) := by
  obtain ⟨fd, F⟩ := T.f_is_integer
  refine fnR_body F sc_is_integer (F.bindsN (fun _ _ _ _ _ _ us hl => match us, hl with | [_], _ => rfl)) ?_ ?_
  · rintro vs H Q E ⟨v, d, rfl, _⟩
    rfl
  · rintro cdv A outer s H vs Q E hr ⟨v, d, rfl, hd, k⟩
    refine ⟨_, (PSs.nox (pss_one (ps_ret (pe_and (pe_callB (Mc.call_isd : CallR _ (.builtin "isinstance") (Mc.rIsd K)) (by rfl) T.m_isinstance (by decide +kernel) (pa_cons (pv 0) (pa_cons (pe_bltn (v := .ty "int") (by rfl) T.m_int (by decide +kernel) rfl) pa_nil))) (pe_one (pe_not (pe_callB (Mc.call_isd : CallR _ (.builtin "isinstance") (Mc.rIsd K)) (by rfl) T.m_isinstance (by decide +kernel) (pa_cons (pv 0) (pa_cons (pe_bltn (v := .ty "bool") (by rfl) T.m_bool (by decide +kernel) rfl) pa_nil))))))))), ?_⟩
    refine ⟨_, rfl, v, d, "int", _, rfl, hd, kit_int d, _, rfl, ?_⟩
    cases d with
    | int i => exact iteT ⟨_, rfl, v, _, "bool", _, rfl, hd, kit_bool _, _, rfl, k⟩
    | bool b => exact iteT ⟨_, rfl, v, _, "bool", _, rfl, hd, kit_bool _, _, rfl, k⟩
    | _ => exact iteF k
theorem in_colors (x : Str) : inV (.str x) [.str "red", .str "blue"] = isColor (.str x) := by
  show ((("red" : Str) == x) || ((("blue" : Str) == x) || false)) = (x == "red" || x == "blue")
  rw [Bool.or_false, show (("red" : Str) == x) = (x == "red") from Bool.beq_comm, show (("blue" : Str) == x) = (x == "blue") from Bool.beq_comm]
theorem ok_is_color (T : Txt P w K mg) : FnR P w K mg base (L2.CX P w) 1 (He.ga K "is_color") (spB K isColor) := by
  obtain ⟨fd, F⟩ := T.f_is_color
  refine fnR_body F sc_is_color (F.bindsN (fun _ _ _ _ _ _ us hl => match us, hl with | [_], _ => rfl)) ?_ ?_
  · rintro vs H Q E ⟨v, d, rfl, _⟩
    rfl
  · rintro cdv A outer s H vs Q E hr ⟨v, d, rfl, hd, k⟩
    refine ⟨_, (PSs.nox (pss_one (ps_ret (pe_and (pe_callB (Mc.call_isd : CallR _ (.builtin "isinstance") (Mc.rIsd K)) (by rfl) T.m_isinstance (by decide +kernel) (pa_cons (pv 0) (pa_cons (pe_bltn (v := .ty "str") (by rfl) T.m_str (by decide +kernel) rfl) pa_nil))) (pe_one (pe_cmpR (op_in_seq : OpR _ _ (rIn K false)) (pv 0) (pe_glob (v := .ref (He.ga K "COLORS")) (by rfl) T.g_COLORS rfl) (by rfl))))))), ?_⟩
    refine ⟨_, rfl, v, d, "str", _, rfl, hd, kit_str d, _, rfl, ?_⟩
    cases d with
    | str x =>
      obtain rfl := dq_str hd
      refine iteT ⟨_, rfl, _, _, rfl, .inr (T.t_COLORS H), rfl, rfl, ?_⟩
      rw [← in_colors] at k
      exact k
    | _ => exact iteF k
theorem ok_is_kind (T : Txt P w K mg) : FnR P w K mg base (L2.CX P w) 2 (He.ga K "is_kind") (spB K isKind) := by
  have G_is_color := ok_is_color (base := base) T
  obtain ⟨fd, F⟩ := T.f_is_kind
  refine fnR_body F sc_is_kind (F.bindsN (fun _ _ _ _ _ _ us hl => match us, hl with | [_], _ => rfl)) ?_ ?_
  · rintro vs H Q E ⟨v, d, rfl, _⟩
    rfl
  · rintro cdv A outer s H vs Q E hr ⟨v, d, rfl, hd, k⟩
    refine ⟨_, (PSs.nox (pss_one (ps_ret (pe_or (Mc.pe_callR G_is_color (hr.mono (by decide)) (by rfl) T.g_is_color T.k_is_color pass_no (pa_cons (pv 0) pa_nil)) (pe_one (pe_and (pe_callB (Mc.call_isd : CallR _ (.builtin "isinstance") (Mc.rIsd K)) (by rfl) T.m_isinstance (by decide +kernel) (pa_cons (pv 0) (pa_cons (pe_bltn (v := .ty "str") (by rfl) T.m_str (by decide +kernel) rfl) pa_nil))) (pe_one (pe_cmpR op_eq (pv 0) pe_str (nomark _))))))))), ?_⟩
    refine ⟨_, rfl, v, d, rfl, hd, _, rfl, ?_⟩
    cases e : isColor d with
    | true =>
      refine iteT ?_
      unfold isKind at k
      rw [e] at k
      exact k
    | false =>
      refine iteF ⟨_, rfl, v, d, "str", _, rfl, hd, kit_str d, _, rfl, ?_⟩
      unfold isKind at k
      rw [e] at k
      cases d with
      | str x =>
        obtain rfl := dq_str hd
        refine iteT ⟨_, rfl, rfl, ?_⟩
        have e2 : decide (V.str x = V.str "eraser") = (x == "eraser") := by
          by_cases h : x = "eraser"
          · subst h; simp
          · have h2 : ¬ V.str x = V.str "eraser" := fun z => h (V.str.inj z)
            rw [decide_eq_false h2]
            simp [h]
        rw [e2]
        exact k
      | _ => exact iteF k

/-- is_word(value, most), both arguments -/
def spWord (K : PySem.W.Frag) : Sp := fun vs H Q _ => ∃ (v : V) (d : PyData) (m : Int), vs = [v, .int m] ∧ Dq K H v d ∧ (∀ x, d = .str x → x.length ≤ sizeLine) ∧ Q (.bl (isWord d m)) H
theorem fo_is_word {f : Addr} {fd : FuncData} {dvs : List V} (T : Txt P w K mg) (F : FunD K "is_word" "is_word" (defArgs s_is_word) (defBody s_is_word) (defScope s_is_word) dvs [] f fd) :
    FnOk P w K mg base (L2.CX P w) 1 f fd ["value", "most"] (spWord K) := by
  refine F.ok sc_is_word ?_ ?_
  · rintro vs H Q E ⟨v, d, m, rfl, _⟩
    rfl
  · rintro cdv A outer s H vs Q E hr ⟨v, d, m, rfl, hd, hz, k⟩
    refine ⟨_, (PSs.nox (pss_one (ps_ret (pe_and (pe_callB (Mc.call_isd : CallR _ (.builtin "isinstance") (Mc.rIsd K)) (by rfl) T.m_isinstance (by decide +kernel) (pa_cons (pv 0) (pa_cons (pe_bltn (v := .ty "str") (by rfl) T.m_str (by decide +kernel) rfl) pa_nil))) (pe_and (pe_cmpR op_le (pe_callB (call_len : CallR _ (.builtin "len") (Mc.rLen K)) (by rfl) T.m_len (by decide +kernel) (pa_cons (pv 0) pa_nil)) (pv 1) (nomark _)) (pe_one (pe_cmpR op_eq (pe_bm PySem.F.plainAttrs_str PySem.F.slot_str_strip PySem.F.type_str_strip mt_stripChars (pv 0) (pa_cons pe_str pa_nil)) pe_str (nomark _)))))))), ?_⟩
    refine ⟨_, rfl, v, d, "str", _, rfl, hd, kit_str d, _, rfl, ?_⟩
    cases d with
    | str x =>
      obtain rfl := dq_str hd
      have hx := hz x rfl
      refine iteT ⟨_, rfl, _, x.length, rfl, ⟨hx, rfl⟩, _, rfl, _, _, rfl, rfl, _, rfl, ?_⟩
      cases e : decide ((x.length : Int) ≤ m) with
      | false =>
        refine iteF ?_
        have e2 : isWord (.str x) m = false := by
          show (decide ((x.length : Int) ≤ m) && _) = false
          rw [e]
          rfl
        rw [e2] at k
        exact k
      | true =>
        refine iteT ⟨_, rfl, rfl, x, "12", rfl, rfl, hx, rfl, ?_⟩
        have e2 : isWord (.str x) m = decide (V.str (Txt.stripChars x "12") = V.str "") := by
          show (decide ((x.length : Int) ≤ m) && _) = _
          rw [e, strip12]
          rfl
        rw [e2] at k
        exact k
    | _ => exact iteF k
theorem ok_is_word (T : Txt P w K mg) : FnR P w K mg base (L2.CX P w) 1 (He.ga K "is_word") (spWord K) := by
  obtain ⟨fd, F⟩ := T.f_is_word
  obtain ⟨ds, hv, hb⟩ := F.binds1 (ps := ["value", "most"]) 2 1 (by simp) rfl (fun _ _ _ _ _ _ _ us its h1 h2 => match us, its, h1, h2 with | [_, _], [_], _, _ => ⟨_, rfl, rfl⟩)
  have e : ds = [] := by
    cases hv
    rfl
  subst e
  exact fnR_of_ok (fo_is_word T F) hb
/-- is_word(value) -/
def spWord40 (K : PySem.W.Frag) : Sp := fun vs H Q _ => ∃ (v : V) (d : PyData), vs = [v] ∧ Dq K H v d ∧ (∀ x, d = .str x → x.length ≤ sizeLine) ∧ Q (.bl (isWord d 40)) H
theorem ok_is_word40 (T : Txt P w K mg) : FnR P w K mg base (L2.CX P w) 1 (He.ga K "is_word") (spWord40 K) := by
  obtain ⟨fd, F⟩ := T.f_is_word
  obtain ⟨ds, hv, hb⟩ := F.binds1 (ps := ["value", "most"]) 1 0 (by simp) rfl (fun _ _ _ _ _ _ _ us its h1 h2 => match us, its, h1, h2 with | [_], [_], _, _ => ⟨_, rfl, rfl⟩)
  refine ((fo_is_word T F).raw hb hv).imp ?_
  rintro vs H Q E ⟨v, d, rfl, hd, hz, k⟩
  exact ⟨v, d, 40, rfl, hd, hz, k⟩
theorem ok_is_port (T : Txt P w K mg) : FnR P w K mg base (L2.CX P w) 2 (He.ga K "is_port") (spB K isPort) := by
  have G_is_integer := ok_is_integer (base := base) T
  obtain ⟨fd, F⟩ := T.f_is_port
  refine fnR_body F sc_is_port (F.bindsN (fun _ _ _ _ _ _ us hl => match us, hl with | [_], _ => rfl)) ?_ ?_
  · rintro vs H Q E ⟨v, d, rfl, _⟩
    rfl
  · rintro cdv A outer s H vs Q E hr ⟨v, d, rfl, hd, k⟩
    refine ⟨_, (PSs.nox (pss_cons (ps_if (PW.pt (pw_or (pt_not (pt_val (pe_callB (Mc.call_isd : CallR _ (.builtin "isinstance") (Mc.rIsd K)) (by rfl) T.m_isinstance (by decide +kernel) (pa_cons (pv 0) (pa_cons (pe_bltn (v := .ty "tuple") (by rfl) T.m_tuple (by decide +kernel) rfl) pa_nil))))) (pw_or1 (pt_cmpR op_ne (pe_callB (call_len : CallR _ (.builtin "len") (Mc.rLen K)) (by rfl) T.m_len (by decide +kernel) (pa_cons (pv 0) pa_nil)) pe_int (nomark _))))) (pss_one (ps_ret pe_bl)) pss_nil)
      (pss_cons (ps_asg (pv 0) (pg_tup (by rfl) (pgs_cons (pg_name (i := 1) sc_is_port.nd rfl (Or.inl rfl)) (pgs_cons (pg_name (i := 2) sc_is_port.nd rfl (Or.inl rfl)) pgs_nil))))
      (pss_cons (ps_if (PW.pt (pw_or (pt_not (pt_val (Mc.pe_callR G_is_integer (hr.mono (by decide)) (by rfl) T.g_is_integer T.k_is_integer pass_no (pa_cons (pv 1) pa_nil)))) (pw_or1 (pt_not (pt_val (Mc.pe_callR G_is_integer (hr.mono (by decide)) (by rfl) T.g_is_integer T.k_is_integer pass_no (pa_cons (pv 2) pa_nil))))))) (pss_one (ps_ret pe_bl)) pss_nil)
      (pss_one (ps_ret (pe_and (pe_cmpR op_ge (pv 2) pe_int (nomark _)) (pe_one (pe_or (pe_cmpR op_eq (pv 1) (pe_un un_neg pe_int) (nomark _)) (pe_one (pe_and (pe_cmpR op_ge (pv 1) pe_int (nomark _)) (pe_one (pe_cmpR op_le (pv 2) pe_int (nomark _)))))))))))))), ?_⟩
    refine ⟨_, rfl, v, d, "tuple", _, rfl, hd, kit_tup d, _, rfl, ?_⟩
    cases d with
    | tuple ds =>
      obtain ⟨a, xs, rfl, hs, hall⟩ := dq_tup hd
      refine iteF ⟨_, rfl, _, xs.length, rfl, .inr ⟨_, hs, rfl⟩, rfl, _, rfl, ?_⟩
      by_cases h2 : xs.length = 2
      · refine iteNS (by rw [h2]; rfl) ?_
        obtain ⟨x, y, d1, d2, rfl, rfl, hx, hy⟩ := dpAll_two hall h2
        · refine ⟨_, rfl, a, _, rfl, hs, rfl, _, _, rfl, _, _, rfl, rfl, ?_⟩
          refine ⟨_, rfl, x, d1, rfl, .dp hx, _, rfl, ?_⟩
          cases e1 : isInt d1 with
          | false =>
            refine iteT (iteT ?_)
            have e : isPort (.tuple [d1, d2]) = false := portTwo_l d1 d2 e1
            rw [e] at k
            exact k
          | true =>
            refine iteF ⟨_, rfl, y, d2, rfl, .dp hy, _, rfl, ?_⟩
            cases e2 : isInt d2 with
            | false =>
              refine iteT ?_
              have e : isPort (.tuple [d1, d2]) = false := portTwo_r d1 d2 e2
              rw [e] at k
              exact k
            | true =>
              cases d1 with
              | int i =>
                cases d2 with
                | int j =>
                  cases hx
                  cases hy
                  refine iteF ⟨_, rfl, _, _, rfl, rfl, _, rfl, ?_⟩
                  have e : isPort (.tuple [.int i, .int j]) = portOk i j := rfl
                  rw [e] at k
                  unfold portOk at k
                  cases c1 : decide ((0 : Int) ≤ j) with
                  | false =>
                    rw [c1] at k
                    exact iteF k
                  | true =>
                    rw [c1] at k
                    refine iteT ⟨_, rfl, _, rfl, rfl, _, rfl, ?_⟩
                    have c2e : decide (V.int i = V.int (-1)) = decide (i = -1) := by
                      by_cases h : i = -1
                      · subst h; rfl
                      · rw [decide_eq_false h, decide_eq_false fun z => h (V.int.inj z)]
                    rw [c2e]
                    cases c2 : decide (i = -1) with
                    | true =>
                      rw [c2] at k
                      exact iteT k
                    | false =>
                      rw [c2] at k
                      refine iteF ⟨_, rfl, _, _, rfl, rfl, _, rfl, ?_⟩
                      cases c3 : decide ((0 : Int) ≤ i) with
                      | false =>
                        rw [c3] at k
                        exact iteF k
                      | true =>
                        rw [c3] at k
                        exact iteT ⟨_, rfl, _, _, rfl, rfl, k⟩
                | _ => cases e2
              | _ => cases e1
      · have e : decide (V.int (xs.length : Int) = V.int 2) = false := decide_eq_false fun z => h2 (by have := V.int.inj z; omega)
        rw [e]
        refine iteT ?_
        have e3 : isPort (.tuple ds) = false := by
          have hl := dpAll_len hall
          match ds, hl with
          | [], _ => rfl
          | [_], _ => rfl
          | [_, _], hl => exact absurd hl.symm (fun z => h2 z.symm)
          | _ :: _ :: _ :: _, _ => rfl
        rw [e3] at k
        exact k
    | _ => exact iteT (iteT k)
/-- other_color(color): the other one, or InvalidKind of the very value -/
def other (x : Str) : Str := if x = "red" then "blue" else "red"
def spOther (K : PySem.W.Frag) : Sp := fun vs H Q E => ∃ (v : V) (d : PyData), vs = [v] ∧ Dq K H v d ∧
  (∀ x, d = .str x → isColor d = true → Q (.str (other x)) H) ∧
  (isColor d = false → ∀ e, H e = none → E (.ref (He.ga K "InvalidKind")) (some e) (upd H e (.xd [(("value" : Str), v)])))
theorem ok_other_color (T : Txt P w K mg) : FnR P w K mg base (L2.CX P w) 3 (He.ga K "other_color") (spOther K) := by
  have G_is_color := ok_is_color (base := base) T
  obtain ⟨fd, F⟩ := T.f_other_color
  refine fnR_body F sc_other_color (F.bindsN (fun _ _ _ _ _ _ us hl => match us, hl with | [_], _ => rfl)) ?_ ?_
  · rintro vs H Q E ⟨v, d, rfl, _⟩
    rfl
  · rintro cdv A outer s H vs Q E hr ⟨v, d, rfl, hd, k1, k2⟩
    refine ⟨_, (pss_cons (ps_if (pt_not (pt_val (Mc.pe_callR G_is_color (hr.mono (by decide)) (by rfl) T.g_is_color T.k_is_color pass_no (pa_cons (pv 0) pa_nil)))) (pss_one (Mc.ps_raiseMe rfl T.me T.x_InvalidKind T.m_super T.g_InvalidKind (hr.mono (by decide) : Room 1 _) (takes_of rfl rfl rfl rfl) (by exact (pa_cons (pv 0) pa_nil)))) pss_nil)
      (pss_one (ps_ret (pe_ifExp (pt_cmpR op_eq (pv 0) pe_str (nomark _)) pe_str pe_str)))), ?_⟩
    refine ⟨_, rfl, v, d, rfl, hd, _, rfl, ?_⟩
    cases e : isColor d with
    | false => exact iteT ⟨_, rfl, _, rfl, fun q hq => k2 e q hq⟩
    | true =>
      cases d with
      | str x =>
        obtain rfl := dq_str hd
        have k := k1 x rfl e
        refine iteF ⟨_, rfl, rfl, _, rfl, ?_⟩
        unfold other at k
        rw [dec_str]
        by_cases h : x = "red"
        · rw [if_pos h] at k
          subst h
          exact iteT k
        · rw [if_neg h] at k
          have e2 : (x == ("red" : Str)) = false := by simpa using h
          rw [e2]
          exact iteF k
      | _ => cases e
/-- word_key(red, blue): a new tuple -/
def spKey : Sp := fun vs H Q _ => ∃ (r b : Str), vs = [.str r, .str b] ∧ r.length ≤ sizeLine ∧ b.length ≤ sizeLine ∧
  ∀ p, H p = none → Q (.ref p) (upd H p (.tup [.int ((r.length : Int) + b.length), .str r, .str b]))
theorem ok_word_key (T : Txt P w K mg) : FnR P w K mg base (L2.CX P w) 1 (He.ga K "word_key") spKey := by
  obtain ⟨fd, F⟩ := T.f_word_key
  refine fnR_body F sc_word_key (F.bindsN (fun _ _ _ _ _ _ us hl => match us, hl with | [_, _], _ => rfl)) ?_ ?_
  · rintro vs H Q E ⟨r, b, rfl, _⟩
    rfl
  · rintro cdv A outer s H vs Q E hr ⟨r, b, rfl, hr1, hb1, k⟩
    refine ⟨_, (PSs.nox (pss_one (ps_ret (pe_tup (pa_cons (pe_op op_add (pe_callB (call_len : CallR _ (.builtin "len") (Mc.rLen K)) (by rfl) T.m_len (by decide +kernel) (pa_cons (pv 0) pa_nil)) (pe_callB (call_len : CallR _ (.builtin "len") (Mc.rLen K)) (by rfl) T.m_len (by decide +kernel) (pa_cons (pv 1) pa_nil))) (pa_cons (pv 0) (pa_cons (pv 1) pa_nil))))))), ?_⟩
    exact ⟨_, rfl, _, r.length, rfl, ⟨hr1, rfl⟩, _, rfl, _, b.length, rfl, ⟨hb1, rfl⟩, _, _, rfl, rfl, _, rfl, _, rfl, (by show 3 ≤ sizeLine; decide), k⟩
end Me
namespace Me
open PySem PySem.Spec PyProof.Rows L2 Mc
variable {P : Program} {w : World} {K : PySem.W.Frag} {mg : Str → Option Value} {base : Heap}

/-! ### cells, boxes, draws -/
/-- a cell of the script, or a number by its place -/
def spCell (K : PySem.W.Frag) : Sp := fun vs H Q _ => ∃ (a : Addr) (ns : List Int) (k : Int), vs = [.ref a, .int k] ∧ SqL K H a (ns.map V.int) ∧ 0 ≤ k ∧ ∀ z, Q (.int z) H
theorem ok__law_cell (T : Txt P w K mg) : FnR P w K mg base (L2.CX P w) 1 (He.ga K "_law_cell") (spCell K) := by
  obtain ⟨fd, F⟩ := T.f__law_cell
  refine fnR_body F sc__law_cell (F.bindsN (fun _ _ _ _ _ _ us hl => match us, hl with | [_, _], _ => rfl)) ?_ ?_
  · rintro vs H Q E ⟨a, ns, k, rfl, _⟩
    rfl
  · rintro cdv A outer s H vs Q E hr ⟨a, ns, k, rfl, hs, hk, q⟩
    refine ⟨_, (PSs.nox (pss_one (ps_ret (pe_ifExp (pt_cmpR op_lt (pv 1) (pe_callB (call_len : CallR _ (.builtin "len") (Mc.rLen K)) (by rfl) T.m_len (by decide +kernel) (pa_cons (pv 0) pa_nil)) (nomark _)) (pe_ix (ix_list : IxR _ (rIxL K)) (pv 0) (pv 1) (fun _ _ => rfl)) (pe_op op_add (pe_op op_mul pe_int (pv 1)) pe_int))))), ?_⟩
    refine ⟨_, rfl, _, rfl, _, (ns.map V.int).length, rfl, .inl ⟨_, hs, rfl⟩, _, _, rfl, rfl, _, rfl, ?_⟩
    by_cases h : k < ((ns.map V.int).length : Int)
    · rw [decide_eq_true h]
      obtain ⟨z, hz⟩ : ∃ z, ns[k.toNat]? = some z := by
        rw [List.length_map] at h
        exact ⟨_, List.getElem?_eq_getElem (by omega)⟩
      refine iteT ⟨_, rfl, _, rfl, a, _, k, .int z, rfl, rfl, hs, ?_, q z⟩
      unfold atI ixN
      rw [if_pos hk, if_pos h]
      show (ns.map V.int)[k.toNat]? = _
      rw [List.getElem?_map, hz]
      rfl
    · rw [decide_eq_false h]
      exact iteF ⟨_, rfl, _, _, rfl, rfl, .inl ⟨by decide, by decide⟩, _, _, rfl, rfl, q _⟩
/-- a box: what is left of a large cell, the seed, the number of draws so far -/
structure BoxAt (H : Hp) (b : Addr) (n : Int) : Prop where
  ex : ∃ x0 x1 x2 : Int, H b = some (.lst [.int x0, .int x1, .int x2]) ∧ 0 ≤ x0 ∧ 0 ≤ x1 ∧ x1 < 2147483648 ∧ 0 ≤ x2 ∧ x2 ≤ n
def spBox : Sp := fun vs H Q _ => ∃ z : Int, vs = [.int z] ∧ ∀ p H', H p = none → BoxAt H' p 0 → (∀ c, c ≠ p → H' c = H c) → Q (.ref p) H'
theorem ok__law_box (T : Txt P w K mg) : FnR P w K mg base (L2.CX P w) 1 (He.ga K "_law_box") spBox := by
  obtain ⟨fd, F⟩ := T.f__law_box
  refine fnR_body F sc__law_box (F.bindsN (fun _ _ _ _ _ _ us hl => match us, hl with | [_], _ => rfl)) ?_ ?_
  · rintro vs H Q E ⟨z, rfl, _⟩
    rfl
  · rintro cdv A outer s H vs Q E hr ⟨z, rfl, q⟩
    refine ⟨_, (PSs.nox (pss_one (ps_ret (pe_lst (pa_cons (pe_callB (call_max2 rfl) (by rfl) T.m_max (by decide +kernel) (pa_cons pe_int (pa_cons (pe_op op_sub (pv 0) (pe_op op_pow pe_int pe_int)) pa_nil))) (pa_cons (pe_op op_mod (pv 0) pe_int) (pa_cons pe_int pa_nil))))))), ?_⟩
    refine ⟨_, rfl, _, _, rfl, rfl, ⟨by decide, by decide, by decide⟩, _, _, rfl, rfl, _, _, rfl, _, rfl, _, _, rfl, rfl, (by show (0 : Int) < _; decide), (by show 3 ≤ sizeLine; decide), fun p hp => ?_⟩
    refine q p _ hp ⟨_, _, _, upd_same, ?_, ?_, ?_, Int.le_refl _, Int.le_refl _⟩ (fun c hc => upd_ne hc)
    · split <;> omega
    · exact Int.emod_nonneg _ (by decide)
    · exact Int.lt_trans (Int.emod_lt_of_pos _ (by decide)) (by decide)
/-- one draw -/
def spTake : Sp := fun vs H Q _ => ∃ (b : Addr) (n many : Int), vs = [.ref b, .int many] ∧ BoxAt H b n ∧ n ≤ 1000000000 ∧ 0 < many ∧ many < 1073741824 ∧
  ∀ r H', 0 ≤ r → r < many → BoxAt H' b (n + 1) → (∀ c, c ≠ b → H' c = H c) → Q (.int r) H'
theorem ok__law_take (T : Txt P w K mg) : FnR P w K mg base (L2.CX P w) 1 (He.ga K "_law_take") spTake := by
  obtain ⟨fd, F⟩ := T.f__law_take
  refine fnR_body F sc__law_take (F.bindsN (fun _ _ _ _ _ _ us hl => match us, hl with | [_, _], _ => rfl)) ?_ ?_
  · rintro vs H Q E ⟨b, n, many, rfl, _⟩
    rfl
  · rintro cdv A outer s H vs Q E hr ⟨b, n, many, rfl, ⟨x0, x1, x2, hb, h0, h1, h1', h2, h2'⟩, hn, hm, hm', q⟩
    refine ⟨_, (PSs.nox (pss_cons (ps_if (pt_cmpR op_gt (pe_ix (ix_list : IxR _ (rIxL K)) (pv 0) pe_int (fun _ _ => rfl)) pe_int (nomark _)) (pss_cons (ps_set (i := 2) sc__law_take.nd rfl (Or.inl rfl) (pe_op op_mod (pe_ix (ix_list : IxR _ (rIxL K)) (pv 0) pe_int (fun _ _ => rfl)) (pv 1)))
      (pss_cons (ps_asg (pe_op op_fdiv (pe_ix (ix_list : IxR _ (rIxL K)) (pv 0) pe_int (fun _ _ => rfl)) (pv 1)) (pg_sub (pv 0) pe_int set_list))
      (pss_one (ps_ret (pv 2))))) pss_nil)
      (pss_cons (ps_asg (pe_op op_add (pe_ix (ix_list : IxR _ (rIxL K)) (pv 0) pe_int (fun _ _ => rfl)) pe_int) (pg_sub (pv 0) pe_int set_list))
      (pss_cons (ps_set (i := 3) sc__law_take.nd rfl (Or.inl rfl) (pe_op op_mod (pe_op op_pow (pe_op op_add (pe_op op_add (pe_ix (ix_list : IxR _ (rIxL K)) (pv 0) pe_int (fun _ _ => rfl)) (pe_op op_mul pe_int (pe_ix (ix_list : IxR _ (rIxL K)) (pv 0) pe_int (fun _ _ => rfl)))) pe_int) pe_int) pe_int))
      (pss_cons (ps_set (i := 3) sc__law_take.nd rfl (Or.inl rfl) (pe_op op_mod (pe_op op_pow (pe_op op_add (pv 3) (pe_op op_mul pe_int (pe_ix (ix_list : IxR _ (rIxL K)) (pv 0) pe_int (fun _ _ => rfl)))) pe_int) pe_int))
      (pss_one (ps_ret (pe_op op_mod (pe_op op_fdiv (pv 3) pe_int) (pv 1))))))))), ?_⟩
    have sq : ∀ {H' : Hp} {xs : List V}, H' b = some (.lst xs) → SqL K H' b xs := fun h => SqL.of h
    refine ⟨_, rfl, b, _, 0, _, rfl, rfl, sq hb, rfl, _, _, rfl, rfl, _, rfl, ?_⟩
    by_cases c : 0 < x0
    · rw [decide_eq_true c]
      refine iteT ⟨_, rfl, b, _, 0, _, rfl, rfl, sq hb, rfl, _, rfl, _, _, rfl, rfl, hm, ?_⟩
      refine ⟨_, rfl, b, _, 0, _, rfl, rfl, sq hb, rfl, _, rfl, _, _, rfl, rfl, ⟨hm, hm'⟩, _, rfl, b, _, 0, 0, rfl, rfl, hb, rfl, ?_⟩
      refine ⟨_, rfl, ?_⟩
      exact q _ _ (Int.emod_nonneg _ (by omega)) (Int.emod_lt_of_pos _ hm) ⟨_, _, _, upd_same, Int.ediv_nonneg h0 (by omega), h1, h1', h2, by omega⟩ (fun c hc => upd_ne hc)
    · rw [decide_eq_false c]
      refine iteF ?_
      refine ⟨_, rfl, b, _, 2, _, rfl, rfl, sq hb, rfl, _, _, rfl, rfl, _, rfl, b, _, 2, 2, rfl, rfl, hb, rfl, ?_⟩
      have hb' := @upd_same H b (.lst [.int x0, .int x1, .int (x2 + 1)])
      refine ⟨_, rfl, b, _, 1, _, rfl, rfl, sq hb', rfl, _, rfl, b, _, 2, _, rfl, rfl, sq hb', rfl, _, _, rfl, rfl, .inl ⟨by decide, by decide⟩, _, _, rfl, rfl, _, _, rfl, rfl, _, _, rfl, rfl, ⟨by decide, by decide, ?_⟩, _, _, rfl, rfl, (by show (0 : Int) < _; decide), ?_⟩
      · have : (0 : Int) ≤ x1 + 5113 * (x2 + 1) + 953 ∧ x1 + 5113 * (x2 + 1) + 953 < 2 ^ 63 := by omega
        omega
      generalize hk : (x1 + 5113 * (x2 + 1) + 953) ^ (5 : Int).toNat % 2147483647 = m1
      have hm1 : 0 ≤ m1 ∧ m1 < 2147483647 := by
        rw [← hk]
        exact ⟨Int.emod_nonneg _ (by decide), Int.emod_lt_of_pos _ (by decide)⟩
      refine ⟨_, rfl, _, rfl, b, _, 2, _, rfl, rfl, sq hb', rfl, _, _, rfl, rfl, .inl ⟨by decide, by decide⟩, _, _, rfl, rfl, _, _, rfl, rfl, ⟨by decide, by decide, ?_⟩, _, _, rfl, rfl, (by show (0 : Int) < _; decide), ?_⟩
      · have : (0 : Int) ≤ m1 + 100229 * (x2 + 1) ∧ m1 + 100229 * (x2 + 1) < 2 ^ 63 := by omega
        omega
      refine ⟨_, rfl, _, _, rfl, rfl, ⟨by decide, by decide⟩, _, rfl, _, _, rfl, rfl, hm, ?_⟩
      exact q _ _ (Int.emod_nonneg _ (by omega)) (Int.emod_lt_of_pos _ hm) ⟨_, _, _, upd_same, h0, h1, h1', by omega, by omega⟩ (fun c hc => upd_ne hc)
/-- what was tracked stays, but b -/
def Kept (H H' : Hp) (b : Addr) : Prop := ∀ c o, H c = some o → c ≠ b → H' c = some o
theorem Kept.trans {H H1 H2 : Hp} {b : Addr} (h : Kept H H1 b) (h' : Kept H1 H2 b) : Kept H H2 b := fun c o e hc => h' c o (h c o e hc) hc
theorem Kept.of {H H' : Hp} {b : Addr} (h : ∀ c, c ≠ b → H' c = H c) : Kept H H' b := fun c o e hc => (h c hc).trans e
theorem BoxAt.up {H : Hp} {b : Addr} {n m : Int} (h : BoxAt H b n) (hm : n ≤ m) : BoxAt H b m := by
  obtain ⟨x0, x1, x2, h1, h2, h3, h4, h5, h6⟩ := h.ex
  exact ⟨x0, x1, x2, h1, h2, h3, h4, h5, by omega⟩
theorem BoxAt.same {H H' : Hp} {b : Addr} {n : Int} (h : BoxAt H b n) (e : H' b = H b) : BoxAt H' b n := by
  obtain ⟨x0, x1, x2, h1, h⟩ := h.ex
  exact ⟨x0, x1, x2, e.trans h1, h⟩
theorem BoxAt.some_ {H : Hp} {b : Addr} {n : Int} (h : BoxAt H b n) : ∃ xs, H b = some (.lst xs) := by
  obtain ⟨x0, x1, x2, h1, h⟩ := h.ex
  exact ⟨_, h1⟩
def word (cs : List Nat) : Str := ⟨cs.toArray⟩
/-- a word of at most so many signs 1 and 2 -/
def spWordL : Sp := fun vs H Q _ => ∃ (b : Addr) (n most : Int), vs = [.ref b, .int most] ∧ BoxAt H b n ∧ n ≤ 900000000 ∧ 0 ≤ most ∧ most ≤ 1000 ∧
  ∀ (cs : List Nat) H', (cs.length : Int) ≤ most → (∀ c ∈ cs, c = 49 ∨ c = 50) → BoxAt H' b (n + most + 1) → Kept H H' b → Q (.str (word cs)) H'
theorem ok__law_word (T : Txt P w K mg) : FnR P w K mg base (L2.CX P w) 2 (He.ga K "_law_word") spWordL := by
  have G__law_take := ok__law_take (base := base) T
  obtain ⟨fd, F⟩ := T.f__law_word
  refine fnR_body F sc__law_word (F.bindsN (fun _ _ _ _ _ _ us hl => match us, hl with | [_, _], _ => rfl)) ?_ ?_
  · rintro vs H Q E ⟨b, n, most, rfl, _⟩
    rfl
  · rintro cdv A outer s H vs Q E hr ⟨b, n, most, rfl, hB, hn, hm, hm', q⟩
    refine ⟨_, (PSs.nox (pss_one (ps_ret (pe_join pe_str (pe_lc (own := [("_law_k", 2)]) rfl sc__law_word.nd (pi_range1 (by rfl) T.m_range (pa_cons (Mc.pe_callR G__law_take (hr.mono (by decide)) (by rfl) T.g__law_take T.k__law_take pass_no (pa_cons (pv 0) (pa_cons (pe_op op_add (pv 1) pe_int) pa_nil))) pa_nil)) (blkOk_by (own := [("_law_k", 2)]) (N := N__law_word) (sc := defScope s__law_word) (by decide +kernel)) (fun _ _ _ _ _ => (pg_name (i := 2) sc__law_word.nd rfl (Or.inl rfl))) (fun _ _ _ _ _ => pts_nil) (fun _ _ _ _ _ => (pe_ix ix_str pe_str (Mc.pe_callR G__law_take (hr.mono (by decide)) (by rfl) T.g__law_take T.k__law_take pass_no (pa_cons (pv 0) (pa_cons pe_int pa_nil))) (fun _ _ => rfl)))))))), ?_⟩
    refine ⟨⟨_, rfl⟩, _, rfl, _, rfl, _, _, rfl, rfl, b, n, most + 1, rfl, hB, by omega, by omega, by omega, fun r H1 hr0 hr1 hB1 hf1 => ?_⟩
    refine ⟨r, rfl, by omega, by omega, fun D hD => lc_range (lo := 0) (n := r.toNat) (fun i H' => ∃ cs : List Nat, cs.length = i ∧ (∀ c ∈ cs, c = 49 ∨ c = 50) ∧ H' D = some (.lst (cs.map fun c => V.str ⟨#[c]⟩)) ∧ BoxAt H' b (n + 1 + i) ∧ Kept H H' b) ?_ ?_ ?_⟩
    · have hne : b ≠ D := by
        obtain ⟨xs, e⟩ := hB1.some_
        exact ne_of_none e hD
      refine ⟨[], rfl, (fun c hc => nomatch hc), upd_same, (hB1.same (upd_ne hne)).up (by omega), fun c o e hc => ?_⟩
      have e1 : H1 c = some o := (hf1 c hc).trans e
      rw [upd_ne (ne_of_none e1 hD)]
      exact e1
    · rintro i H' hi ⟨cs, hl, hcs, hDl, hB', hK⟩
      refine ⟨rfl, ?_⟩
      refine ⟨_, rfl, b, _, 2, rfl, hB', by omega, by omega, by omega, fun z H2 hz0 hz1 hB2 hf2 => ?_⟩
      have hne : D ≠ b := by
        rintro rfl
        obtain ⟨x0, x1, x2, e, _⟩ := hB'.ex
        rw [hDl] at e
        have e' := Option.some.inj e
        injection e' with e2
        match cs, e2 with
        | [], e2 => cases e2
        | c :: cs, e2 => cases e2
      have hz : z = 0 ∨ z = 1 := by omega
      refine ⟨"12", z, (49 + z.toNat), rfl, rfl, by decide, ?_, _, (hf2 D hne).trans hDl, ?_, cs ++ [49 + z.toNat], ?_, ?_, ?_, ?_, ?_⟩
      · rcases hz with rfl | rfl <;> rfl
      · rw [List.length_map]
        exact Nat.lt_of_lt_of_le (show cs.length < 100000 by omega) (by decide)
      · rw [List.length_append, hl]
        rfl
      · intro c hc
        rcases List.mem_append.mp hc with hc | hc
        · exact hcs c hc
        · rw [List.mem_singleton.mp hc]
          rcases hz with rfl | rfl
          · exact Or.inl rfl
          · exact Or.inr rfl
      · rw [List.map_append]
        exact upd_same
      · refine (hB2.same (upd_ne hne.symm)).up ?_
        push_cast
        omega
      · intro c o e hc
        have e1 := hK c o e hc
        have e2 : H2 c = some o := (hf2 c hc).trans e1
        rw [upd_ne ?_]
        · exact e2
        · rintro rfl
          have hn0 : H c = none := by
            cases e3 : H c with
            | none => rfl
            | some o3 =>
              have e4 : H1 c = some o3 := (hf1 c hc).trans e3
              rw [hD] at e4
              cases e4
          rw [hn0] at e
          cases e
    · rintro H' ⟨cs, hl, hcs, hDl, hB', hK⟩
      have hmap : (cs.map fun c => V.str ⟨#[c]⟩) = (cs.map fun c => (⟨#[c]⟩ : Str)).map V.str := by
        rw [List.map_map]
        rfl
      rw [hmap] at hDl
      refine ⟨"", D, cs.map fun c => (⟨#[c]⟩ : Str), rfl, rfl, .inl (SqL.of hDl), ?_, ?_⟩
      · have hsum : ∀ l : List Nat, ((l.map fun c => (⟨#[c]⟩ : Str)).map (·.length)).sum = l.length := by
          intro l
          induction l with
          | nil => rfl
          | cons a l ih =>
            show (1 : Nat) + ((l.map fun c => (⟨#[c]⟩ : Str)).map (·.length)).sum = l.length + 1
            rw [ih]
            omega
        have h0 : ("" : Str).length = 0 := rfl
        rw [hsum, h0, hl]
        omega
      · rw [join_signs]
        refine q cs H' (by omega) hcs (hB'.up (by omega)) hK
end Me
namespace Me
open PySem PySem.Spec PyProof.Rows L2 Mc
variable {P : Program} {w : World} {K : PySem.W.Frag} {mg : Str → Option Value} {base : Heap}
theorem BoxAt.ext {H H' : Hp} {b : Addr} {n : Int} (h : BoxAt H b n) (e : Ext H H') : BoxAt H' b n := by
  obtain ⟨x0, x1, x2, h1, h⟩ := h.ex
  exact ⟨x0, x1, x2, e _ _ h1, h⟩
theorem Kept.fresh {H H' : Hp} {b p : Addr} (h : Kept H H' b) (hp : H' p = none) (hne : p ≠ b) : H p = none := by
  cases e : H p with
  | none => rfl
  | some o =>
    rw [h p o e hne] at hp
    cases hp
theorem Kept.ext {H H' : Hp} {b : Addr} (e : Ext H H') : Kept H H' b := fun c o h _ => e c o h
/-- the values: a new list of small data -/
def spValues (K : PySem.W.Frag) : Sp := fun vs H Q _ => ∃ (b : Addr) (n : Int), vs = [.ref b] ∧ BoxAt H b n ∧ n ≤ 800000000 ∧
  ∀ p xs H', H p = none → H' p = some (.lst xs) → xs.length ≤ 100 → (∀ v ∈ xs, GQ K H' 100000 10 v) → BoxAt H' b (n + 100) → Kept H H' b → Q (.ref p) H'
theorem ok__law_values (T : Txt P w K mg) : FnR P w K mg base (L2.CX P w) 3 (He.ga K "_law_values") (spValues K) := by
  have G__law_take := ok__law_take (base := base) T
  have G__law_word := ok__law_word (base := base) T
  obtain ⟨fd, F⟩ := T.f__law_values
  refine fnR_body F sc__law_values (F.bindsN (fun _ _ _ _ _ _ us hl => match us, hl with | [_], _ => rfl)) ?_ ?_
  · rintro vs H Q E ⟨b, n, rfl, _⟩
    rfl
  · rintro cdv A outer s H vs Q E hr ⟨b, n, rfl, hB, hn, q⟩
    refine ⟨_, (PSs.nox (pss_cons (ps_par (i := 1) (j := 2) (by rfl) sc__law_values.nd rfl rfl (by decide) rfl rfl (pa_cons (Mc.pe_callR G__law_word (hr.mono (by decide)) (by rfl) T.g__law_word T.k__law_word pass_no (pa_cons (pv 0) (pa_cons pe_int pa_nil))) (pa_cons (Mc.pe_callR G__law_take (hr.mono (by decide)) (by rfl) T.g__law_take T.k__law_take pass_no (pa_cons (pv 0) (pa_cons pe_int pa_nil))) pa_nil)) (by rfl))
      (pss_cons (ps_set (i := 3) sc__law_values.nd rfl (Or.inl rfl) (pe_ix ix_str pe_str (Mc.pe_callR G__law_take (hr.mono (by decide)) (by rfl) T.g__law_take T.k__law_take pass_no (pa_cons (pv 0) (pa_cons pe_int pa_nil))) (fun _ _ => rfl)))
      (pss_cons (ps_set (i := 4) sc__law_values.nd rfl (Or.inl rfl) (pe_op op_add_str (pe_op op_add_str (pe_slice sl_str (pv 1) po_none (po_some (pv 2))) (pv 3)) (pe_slice sl_str (pv 1) (po_some (pv 2)) po_none)))
      (pss_cons (ps_par (i := 5) (j := 6) (by rfl) sc__law_values.nd rfl rfl (by decide) rfl rfl (pa_cons (pe_op op_sub (Mc.pe_callR G__law_take (hr.mono (by decide)) (by rfl) T.g__law_take T.k__law_take pass_no (pa_cons (pv 0) (pa_cons pe_int pa_nil))) pe_int) (pa_cons (pe_op op_sub (Mc.pe_callR G__law_take (hr.mono (by decide)) (by rfl) T.g__law_take T.k__law_take pass_no (pa_cons (pv 0) (pa_cons pe_int pa_nil))) pe_int) pa_nil)) (by rfl))
      (pss_cons (ps_set (i := 7) sc__law_values.nd rfl (Or.inl rfl) (pe_ix (ix_list : IxR _ (rIxL K)) (pe_lst (pa_cons pe_str (pa_cons pe_str (pa_cons pe_str pa_nil)))) (Mc.pe_callR G__law_take (hr.mono (by decide)) (by rfl) T.g__law_take T.k__law_take pass_no (pa_cons (pv 0) (pa_cons pe_int pa_nil))) (fun _ _ => rfl)))
      (Mc.pss_mid (ps_set (i := 8) sc__law_values.nd rfl (Or.inl rfl) (pe_lst (pa_cons pe_non (pa_cons pe_bl (pa_cons pe_bl (pa_cons pe_int (pa_cons (pe_un un_neg pe_int) (pa_cons (pv 5) (pa_cons (pe_op op_sub (pe_op op_pow pe_int pe_int) (Mc.pe_callR G__law_take (hr.mono (by decide)) (by rfl) T.g__law_take T.k__law_take pass_no (pa_cons (pv 0) (pa_cons pe_int pa_nil)))) (pa_cons pe_str (pa_cons (pv 1) (pa_cons (pv 4) (pa_cons (pv 7) (pa_cons (pe_op op_add_str (pv 7) (pv 3)) pa_nil))))))))))))))
      (pss_cons (ps_set (i := 8) sc__law_values.nd rfl (Or.inl rfl) (pe_op op_cat (pv 8) (pe_lst (pa_cons (pe_slice sl_str (pv 7) po_none (po_some (Mc.pe_callR G__law_take (hr.mono (by decide)) (by rfl) T.g__law_take T.k__law_take pass_no (pa_cons (pv 0) (pa_cons pe_int pa_nil))))) (pa_cons (pe_lst (pa_cons (pv 7) pa_nil)) (pa_cons (pe_tup (pa_cons (pv 7) pa_nil)) (pa_cons (pe_lst pa_nil) (pa_cons pe_dnewK (pa_cons (pe_tup (pa_cons (pv 5) (pa_cons (pv 6) pa_nil))) (pa_cons (pe_lst (pa_cons (pv 5) (pa_cons (pv 6) pa_nil))) (pa_cons (pe_tup (pa_cons (pv 5) pa_nil)) (pa_cons (pe_tup (pa_cons (pv 5) (pa_cons (pv 6) (pa_cons pe_int pa_nil)))) pa_nil))))))))))))
      (pss_cons (ps_set (i := 8) sc__law_values.nd rfl (Or.inl rfl) (pe_op op_cat (pv 8) (pe_lst (pa_cons (pe_tup (pa_cons pe_bl (pa_cons (pv 6) pa_nil))) (pa_cons (pe_tup (pa_cons (pv 5) (pa_cons pe_bl pa_nil))) (pa_cons (pe_tup (pa_cons (pv 5) (pa_cons pe_non pa_nil))) (pa_cons (pe_tup (pa_cons (pe_callTy call_str_int (by rfl) T.m_str (by decide +kernel) (pa_cons (pv 5) pa_nil)) (pa_cons (pv 6) pa_nil))) (pa_cons (pe_tup (pa_cons (pe_un un_neg pe_int) (pa_cons (pe_op op_add (pv 6) pe_int) pa_nil))) (pa_cons (pe_tup (pa_cons (pe_tup (pa_cons (pv 5) (pa_cons (pv 6) pa_nil))) pa_nil)) pa_nil)))))))))
      (pss_cons (ps_set (i := 8) sc__law_values.nd rfl (Or.inl rfl) (pe_op op_cat (pv 8) (pe_lst (pa_cons (pe_tup (pa_cons pe_int (pa_cons pe_int pa_nil))) (pa_cons (pe_tup (pa_cons (pe_op op_pow pe_int pe_int) (pa_cons pe_int pa_nil))) (pa_cons (pe_tup (pa_cons (pe_un un_neg pe_int) (pa_cons (pe_op op_pow pe_int pe_int) pa_nil))) (pa_cons (pe_tup (pa_cons pe_int (pa_cons pe_int pa_nil))) pa_nil)))))))
      (pss_cons (ps_set (i := 8) sc__law_values.nd rfl (Or.inl rfl) (pe_op op_cat (pv 8) (pe_lst (pa_cons (pe_upper (pv 7)) (pa_cons (pe_op Mc.op_rep_str pe_str pe_int) (pa_cons (pe_op op_add_str (pe_op Mc.op_rep_str pe_str pe_int) pe_str) (pa_cons (pe_op Mc.op_rep_str pe_str pe_int) (pa_cons (pe_op Mc.op_rep_str pe_str pe_int) pa_nil))))))))
      (pss_one (ps_ret (pv 8)))))))))))))), ?_⟩
    -- the word, the place, the odd sign
    refine ⟨_, rfl, b, n, 60, rfl, hB, by omega, by omega, by omega, fun cs H1 hl hcs hB1 hK1 => ⟨_, rfl, b, _, 61, rfl, hB1, by omega, by omega, by omega, fun at_ H2 ha0 ha1 hB2 hf2 => ⟨_, _, rfl, ?_⟩⟩⟩
    have xw : Tx 60 (word cs) := tx_signs (by omega) fun c hc => by rcases hcs c hc with rfl | rfl <;> decide
    refine ⟨_, rfl, b, _, 8, rfl, hB2, by omega, by omega, by omega, fun z H3 hz0 hz1 hB3 hf3 => ?_⟩
    obtain ⟨c, hc, hcm⟩ := atI_mem (xs := ("03a-. \nI" : Str).cps.toList) hz0 (by show z < ((8 : Nat) : Int); exact hz1)
    have xo : Tx 1 (⟨#[c]⟩ : Str) := tx_sign ((tx_lit (m := 8) (x := "03a-. \nI") (by decide)).sg c hcm)
    refine ⟨"03a-. \nI", z, c, rfl, rfl, by decide, hc, ?_⟩
    -- spoilt
    refine ⟨_, rfl, _, rfl, _, rfl, _, rfl, xw.size, _, rfl, _, _, rfl, rfl, ?_, _, rfl, _, rfl, _, rfl, _, rfl, xw.size, _, _, rfl, rfl, ?_, ?_⟩
    · exact (tx_cut xw _ _).size2 xo
    · exact (tx_app (tx_cut xw _ _) xo).size2 (tx_cut xw _ _)
    have xs_ : Tx 121 (cutS (word cs) none (some at_) ++ (⟨#[c]⟩ : Str) ++ cutS (word cs) (some at_) none) := tx_app (tx_app (tx_cut xw _ _) xo) (tx_cut xw _ _)
    generalize cutS (word cs) none (some at_) ++ (⟨#[c]⟩ : Str) ++ cutS (word cs) (some at_) none = spoilt at xs_ ⊢
    generalize word cs = wd at xw ⊢
    -- one, two
    refine ⟨_, rfl, b, _, 9, rfl, hB3, by omega, by omega, by omega, fun z1 H4 h10 h11 hB4 hf4 => ⟨_, _, rfl, rfl, _, rfl, b, _, 9, rfl, hB4, by omega, by omega, by omega, fun z2 H5 h20 h21 hB5 hf5 => ⟨_, _, rfl, rfl, _, _, rfl, ?_⟩⟩⟩
    -- color
    refine ⟨by decide, fun pc hpc => ?_⟩
    have hneb : b ≠ pc := by
      obtain ⟨l, e⟩ := hB5.some_
      exact ne_of_none e hpc
    refine ⟨_, rfl, b, _, 3, rfl, hB5.same (upd_ne hneb), by omega, by omega, by omega, fun z3 H6 h30 h31 hB6 hf6 => ?_⟩
    obtain ⟨col, hcol, hcolm⟩ := atI_mem (xs := [V.str "red", V.str "blue", V.str "eraser"]) h30 (by show z3 < ((3 : Nat) : Int); exact h31)
    obtain ⟨cx, rfl, xc, xu⟩ : ∃ cx : Str, col = .str cx ∧ Tx 6 cx ∧ Tx 100 (Txt.upper cx) := by
      simp only [List.mem_cons, List.not_mem_nil, or_false] at hcolm
      rcases hcolm with rfl | rfl | rfl
      · exact ⟨_, rfl, tx_lit (by decide), tx_lit (by decide +kernel)⟩
      · exact ⟨_, rfl, tx_lit (by decide), tx_lit (by decide +kernel)⟩
      · exact ⟨_, rfl, tx_lit (by decide), tx_lit (by decide +kernel)⟩
    refine ⟨pc, _, z3, _, rfl, rfl, SqL.of ((hf6 pc (Ne.symm hneb)).trans upd_same), hcol, ?_⟩
    -- the first display
    refine ⟨fun τ G => ∃ (x1 x2 x3 x4 : V) (i1 i2 : Int) (cx : Str) (p1 : Addr) (L1 : List V), τ = [some (.ref b), some x1, some x2, some x3, some x4, some (.int i1), some (.int i2), some (.str cx), some (.ref p1)] ∧ (-3 ≤ i1 ∧ i1 ≤ 5) ∧ i2.natAbs < 100 ∧ Tx 6 cx ∧ Tx 100 (Txt.upper cx) ∧
      G p1 = some (.lst L1) ∧ L1.length = 12 ∧ (∀ v ∈ L1, ∀ H, GQ K H 100000 10 v) ∧ BoxAt G b (n + 70) ∧ Kept H G b ∧ H p1 = none, ?_, ?_⟩
    · refine ⟨_, rfl, _, rfl, _, _, rfl, rfl, ⟨by decide, by decide, by decide⟩, _, rfl, b, _, 9, rfl, hB6, by omega, by omega, by omega, fun z4 H7 h40 h41 hB7 hf7 => ?_⟩
      refine ⟨_, _, rfl, rfl, _, rfl, _, rfl, _, rfl, _, rfl, _, rfl, _, _, rfl, rfl, xc.size2 xo, (by show 12 ≤ sizeLine; decide), fun p1 hp1 => ?_⟩
      have xco : Tx 7 (cx ++ (⟨#[c]⟩ : Str)) := tx_app xc xo
      have g1 : ∀ H, GP K H 2000 0 (.int (z1 - 3)) := fun H => (gp_int (k := 3) (by decide) (by decide) (by omega)).up (by decide) (by decide)
      have g2 : ∀ H, GP K H 2000 0 (.int (z2 - 3)) := fun H => (gp_int (k := 3) (by decide) (by decide) (by omega)).up (by decide) (by decide)
      have gc : ∀ H, GP K H 2000 0 (.str cx) := fun H => xc.gp.up (by decide) (by decide)
      have gbig : ∀ H, GP K H 2000 0 (.int (10 ^ (29 : Int).toNat)) := fun H => (gp_int (k := 30) (by decide) (by decide) (by decide)).up (by decide) (by decide)
      have gsmall : ∀ (i : Int), i.natAbs < 1000 → ∀ H, GP K H 2000 0 (.int i) := fun i hi H => (gp_int (k := 3) (by decide) (by decide) hi).up (by decide) (by decide)
      have gnon : ∀ H, GP K H 2000 0 .non := fun H => gp_non.up (by decide) (by decide)
      have gbl : ∀ t H, GP K H 2000 0 (.bl t) := fun t H => (gp_bl t).up (by decide) (by decide)
      have l1 : ∀ v ∈ [V.non, V.bl true, V.bl false, V.int 0, V.int (-1), V.int (z1 - 3), V.int (10 ^ (29 : Int).toNat - z4), V.str "", V.str wd, V.str spoilt, V.str cx, V.str (cx ++ (⟨#[c]⟩ : Str))], ∀ H, GQ K H 100000 10 v :=
        all_cons (fun H => (gnon H).q) (all_cons (fun H => (gbl _ H).q) (all_cons (fun H => (gbl _ H).q) (all_cons (fun H => (gsmall 0 (by decide) H).q) (all_cons (fun H => (gsmall (-1) (by decide) H).q) (all_cons (fun H => (g1 H).q)
          (all_cons (fun H => (gp_int (k := 30) (by decide) (by decide) (by
              have e : (10 : Int) ^ (29 : Int).toNat = 100000000000000000000000000000 := by decide
              have e2 : (10 : Nat) ^ 30 = 1000000000000000000000000000000 := by decide
              rw [e, e2]
              omega)).q)
          (all_cons (fun H => (tx_lit (x := "") (m := 1) (by decide)).gp.q) (all_cons (fun H => xw.gp.q) (all_cons (fun H => xs_.gp.q) (all_cons (fun H => (gc H).q) (all_cons (fun H => xco.gp.q) all_nil)))))))))))
      have hK7 : Kept H H7 b := ((((((hK1.trans (Kept.of hf2)).trans (Kept.of hf3)).trans (Kept.of hf4)).trans (Kept.of hf5)).trans (Kept.ext (Ext.new hpc))).trans (Kept.of hf6)).trans (Kept.of hf7)
      have hneb1 : p1 ≠ b := by
        obtain ⟨l, e⟩ := hB7.some_
        exact (ne_of_none e hp1).symm
      exact ⟨_, _, _, _, _, _, cx, p1, _, rfl, by omega, by omega, xc, xu, upd_same, rfl, l1, (hB7.ext (Ext.new hp1)).up (by omega), hK7.trans (Kept.ext (Ext.new hp1)), hK7.fresh hp1 hneb1⟩
    rintro τ G ⟨x1, x2, x3, x4, i1, i2, cx, p1, L1, rfl, ⟨hi1a, hi1b⟩, hi2, xc, xu, hp1, hl1, g1l, hB7, hK, hn1⟩
    have hi1 : i1.natAbs < 100 := by omega
    have g1 : ∀ H, GP K H 2000 0 (.int i1) := fun H => (gp_int (k := 3) (by decide) (by decide) (by omega)).up (by decide) (by decide)
    have g2 : ∀ H, GP K H 2000 0 (.int i2) := fun H => (gp_int (k := 3) (by decide) (by decide) (by omega)).up (by decide) (by decide)
    have gc : ∀ H, GP K H 2000 0 (.str cx) := fun H => xc.gp.up (by decide) (by decide)
    have gbig : ∀ H, GP K H 2000 0 (.int (10 ^ (29 : Int).toNat)) := fun H => (gp_int (k := 30) (by decide) (by decide) (by decide)).up (by decide) (by decide)
    have gsmall : ∀ (i : Int), i.natAbs < 1000 → ∀ H, GP K H 2000 0 (.int i) := fun i hi H => (gp_int (k := 3) (by decide) (by decide) hi).up (by decide) (by decide)
    have gnon : ∀ H, GP K H 2000 0 .non := fun H => gp_non.up (by decide) (by decide)
    have gbl : ∀ t H, GP K H 2000 0 (.bl t) := fun t H => (gp_bl t).up (by decide) (by decide)
    have t2 : ∀ {te : TE} {σ : L2.St} {H : Hp} {n k : Nat}, GEP K te σ H n k → n ≤ 100000 → k ≤ 10 → GE K te σ H 100000 10 := fun h hn hk => h.ge hn hk
    have hneb1 : b ≠ p1 := by
      rintro rfl
      obtain ⟨l, e⟩ := hB.some_
      rw [hn1] at e
      cases e
    -- the second display
    refine ⟨_, rfl, _, rfl, _, rfl, b, _, 6, rfl, hB7, by omega, by omega, by omega, fun z5 H9 h50 h51 hB9 hf9 => ⟨_, rfl, _, rfl, xc.size, ?_⟩⟩
    have hp19 : H9 p1 = some (.lst L1) := (hf9 p1 (Ne.symm hneb1)).trans hp1
    refine (ga_cons (t2 (gep_lst (gap_cons (gep_var rfl gc) gap_nil)) (by decide) (by decide)) (ga_cons (t2 (gep_tup (gap_cons (gep_var rfl gc) gap_nil)) (by decide) (by decide)) (ga_cons (t2 (gep_lst (n := 0) (k := 0) gap_nil) (by decide) (by decide)) (ga_cons ge_dict
      (ga_cons (t2 (gep_tup (gap_cons (gep_var rfl g1) (gap_cons (gep_var rfl g2) gap_nil))) (by decide) (by decide)) (ga_cons (t2 (gep_lst (gap_cons (gep_var rfl g1) (gap_cons (gep_var rfl g2) gap_nil))) (by decide) (by decide))
      (ga_cons (t2 (gep_tup (gap_cons (gep_var rfl g1) gap_nil)) (by decide) (by decide)) (ga_cons (t2 (gep_tup (gap_cons (gep_var rfl g1) (gap_cons (gep_var rfl g2) (gap_cons (gep_c (gsmall 0 (by decide))) gap_nil)))) (by decide) (by decide)) ga_nil)))))))) H9 (Ext.refl _) _ ?_
    intro vs2 H10 e10 l10 g10
    refine ⟨?_, fun p2 hp2 => ⟨p1, p2, L1, _, rfl, rfl, ?_, upd_same, ?_, fun p3 hp3 => ?_⟩⟩
    · show vs2.length + 1 ≤ sizeLine
      rw [l10]
      decide
    · exact (Ext.new hp2) _ _ (e10 _ _ hp19)
    · show L1.length + (vs2.length + 1) ≤ sizeLine
      rw [l10, hl1]
      decide
    have e11 : Ext H9 (upd (upd H10 p2 (.lst (V.str (cutS cx none (some z5)) :: vs2))) p3 (.lst (L1 ++ V.str (cutS cx none (some z5)) :: vs2))) := (e10.trans (Ext.new hp2)).trans (Ext.new hp3)
    have g11 : ∀ v ∈ L1 ++ V.str (cutS cx none (some z5)) :: vs2, GQ K (upd (upd H10 p2 (.lst (V.str (cutS cx none (some z5)) :: vs2))) p3 (.lst (L1 ++ V.str (cutS cx none (some z5)) :: vs2))) 100000 10 v := by
      intro v hv
      rcases List.mem_append.mp hv with hv | hv
      · exact g1l v hv _
      · rcases List.mem_cons.mp hv with rfl | hv
        · exact (tx_cut xc _ _).gp.q
        · exact (g10 v hv).ext ((Ext.new hp2).trans (Ext.new hp3))
    have hl11 : (L1 ++ V.str (cutS cx none (some z5)) :: vs2).length = 21 := by
      rw [List.length_append, List.length_cons, l10, hl1]
    -- the third
    refine cat_good (K := K) (n := 100000) (k := 10) rfl upd_same g11 (by rw [hl11]; decide) (ga_cons (t2 (gep_tup (gap_cons (gep_c (gbl true)) (gap_cons (gep_var rfl g2) gap_nil))) (by decide) (by decide))
      (ga_cons (t2 (gep_tup (gap_cons (gep_var rfl g1) (gap_cons (gep_c (gbl false)) gap_nil))) (by decide) (by decide))
      (ga_cons (t2 (gep_tup (gap_cons (gep_var rfl g1) (gap_cons (gep_c gnon) gap_nil))) (by decide) (by decide))
      (ga_cons (t2 (gep_tup (gap_cons (gep_pure (n := 2000) (k := 0) (v := .str (Str.ofString (toString i1))) (fun H => ?_) (fun H1 Q q => ⟨_, rfl, i1, rfl, log2_small (Nat.lt_trans hi1 (by decide)), q⟩)) (gap_cons (gep_var rfl g2) gap_nil))) (by decide) (by decide))
      (ga_cons (t2 (gep_tup (gap_cons (gep_pure (v := .int (-1)) (gsmall (-1) (by decide)) (fun H1 Q q => ⟨_, rfl, q⟩)) (gap_cons (gep_pure (v := .int (i2 + 40)) (gsmall (i2 + 40) (by omega)) (fun H1 Q q => ⟨_, rfl, _, _, rfl, rfl, q⟩)) gap_nil))) (by decide) (by decide))
      (ga_cons (t2 (gep_tup (gap_cons (gep_tup (gap_cons (gep_var rfl g1) (gap_cons (gep_var rfl g2) gap_nil))) gap_nil)) (by decide) (by decide)) ga_nil)))))) (by decide) ?_
    · have hc : i1 = -3 ∨ i1 = -2 ∨ i1 = -1 ∨ i1 = 0 ∨ i1 = 1 ∨ i1 = 2 ∨ i1 = 3 ∨ i1 = 4 ∨ i1 = 5 := by omega
      have hx : Tx 2 (Str.ofString (toString i1)) := by rcases hc with rfl | rfl | rfl | rfl | rfl | rfl | rfl | rfl | rfl <;> exact tx_lit (by decide +kernel)
      exact hx.gp.up (by decide) (by decide)
    intro p4 L4 H12 hp4n e12 hp4 hl4 g12
    rw [hl11] at hl4
    -- the fourth
    refine cat_good (K := K) (n := 100000) (k := 10) rfl hp4 g12 (by rw [hl4]; decide) (ga_cons (t2 (gep_tup (gap_cons (gep_c (gsmall 6 (by decide))) (gap_cons (gep_c (gsmall 0 (by decide))) gap_nil))) (by decide) (by decide))
      (ga_cons (t2 (gep_tup (gap_cons (gep_pure gbig (fun H1 Q q => ⟨_, _, rfl, rfl, ⟨by decide, by decide, by decide⟩, q⟩)) (gap_cons (gep_c (gsmall 2 (by decide))) gap_nil))) (by decide) (by decide))
      (ga_cons (t2 (gep_tup (gap_cons (gep_pure (v := .int (-1)) (gsmall (-1) (by decide)) (fun H1 Q q => ⟨_, rfl, q⟩)) (gap_cons (gep_pure gbig (fun H1 Q q => ⟨_, _, rfl, rfl, ⟨by decide, by decide, by decide⟩, q⟩)) gap_nil))) (by decide) (by decide))
      (ga_cons (t2 (gep_tup (gap_cons (gep_c (gsmall 12 (by decide))) (gap_cons (gep_c (gsmall 3 (by decide))) gap_nil))) (by decide) (by decide)) ga_nil)))) (by decide) ?_
    intro p5 L5 H13 hp5n e13 hp5 hl5 g13
    rw [hl4] at hl5
    have gtx : ∀ {x : Str} {m : Nat}, Tx m x → m ≤ 199 → ∀ H, GP K H 2000 0 (.str x) := fun hx hm H => hx.gp.up (by omega) (by decide)
    -- the fifth
    refine cat_good (K := K) (n := 100000) (k := 10) rfl hp5 g13 (by rw [hl5]; decide) (ga_cons (t2 (gep_pure (gtx xu (by decide)) (fun H1 Q q => ⟨_, rfl, ⟨_, rfl⟩, cx, rfl, rfl, Nat.le_trans xc.len (by decide), q⟩)) (by decide) (by decide))
      (ga_cons (t2 (gep_pure (v := .str (PySem.Txt.mul "12" 20)) (gtx (m := 40) (tx_lit (by decide +kernel)) (by decide)) ?_) (by decide) (by decide))
      (ga_cons (t2 (gep_pure (v := .str (PySem.Txt.mul "12" 20 ++ "1")) (gtx (m := 41) (tx_lit (by decide +kernel)) (by decide)) ?_) (by decide) (by decide))
      (ga_cons (t2 (gep_pure (v := .str (PySem.Txt.mul "2" 60)) (gtx (m := 60) (tx_lit (by decide +kernel)) (by decide)) ?_) (by decide) (by decide))
      (ga_cons (t2 (gep_pure (v := .str (PySem.Txt.mul "1" 61)) (gtx (m := 61) (tx_lit (by decide +kernel)) (by decide)) ?_) (by decide) (by decide)) ga_nil))))) (by decide) ?_
    · exact fun H1 Q q => ⟨_, _, rfl, rfl, (by unfold MulOk; decide), q⟩
    · exact fun H1 Q q => ⟨_, _, rfl, rfl, (by unfold MulOk; decide), _, _, rfl, rfl, (by decide +kernel), q⟩
    · exact fun H1 Q q => ⟨_, _, rfl, rfl, (by unfold MulOk; decide), q⟩
    · exact fun H1 Q q => ⟨_, _, rfl, rfl, (by unfold MulOk; decide), q⟩
    intro p6 L6 H14 hp6n e14 hp6 hl6 g14
    rw [hl5] at hl6
    have e0 : Ext H9 H14 := ((e11.trans e12).trans e13).trans e14
    have hK14 : Kept H H14 b := (hK.trans (Kept.of hf9)).trans (Kept.ext e0)
    refine ⟨_, rfl, q p6 L6 H14 ?_ hp6 (by rw [hl6]; decide) g14 ((hB9.ext e0).up (by omega)) hK14⟩
    have hK13 : Kept H H13 b := (hK.trans (Kept.of hf9)).trans (Kept.ext ((e11.trans e12).trans e13))
    refine hK13.fresh hp6n ?_
    obtain ⟨l, e⟩ := (hB9.ext ((e11.trans e12).trans e13)).some_
    exact (ne_of_none e hp6n).symm
end Me
namespace Me
open PySem PySem.Spec PyProof.Rows L2 Mc
variable {P : Program} {w : World} {K : PySem.W.Frag} {mg : Str → Option Value} {base : Heap}
theorem dec_int' {i j : Int} : decide (V.int i = V.int j) = decide (i = j) := by
  by_cases h : i = j
  · subst h
    rw [decide_eq_true rfl, decide_eq_true rfl]
  · rw [decide_eq_false h, decide_eq_false fun z => h (V.int.inj z)]
theorem ok__law_integer (T : Txt P w K mg) : FnR P w K mg base (L2.CX P w) 1 (He.ga K "_law_integer") (spB K isInt) := by
  obtain ⟨fd, F⟩ := T.f__law_integer
  refine fnR_body F sc__law_integer (F.bindsN (fun _ _ _ _ _ _ us hl => match us, hl with | [_], _ => rfl)) ?_ ?_
  · rintro vs H Q E ⟨v, d, rfl, _⟩
    rfl
  · rintro cdv A outer s H vs Q E hr ⟨v, d, rfl, hd, k⟩
    refine ⟨_, (PSs.nox (pss_one (ps_ret (pe_and (pe_callB (Mc.call_isd : CallR _ (.builtin "isinstance") (Mc.rIsd K)) (by rfl) T.m_isinstance (by decide +kernel) (pa_cons (pv 0) (pa_cons (pe_bltn (v := .ty "int") (by rfl) T.m_int (by decide +kernel) rfl) pa_nil))) (pe_one (pe_not (pe_callB (Mc.call_isd : CallR _ (.builtin "isinstance") (Mc.rIsd K)) (by rfl) T.m_isinstance (by decide +kernel) (pa_cons (pv 0) (pa_cons (pe_bltn (v := .ty "bool") (by rfl) T.m_bool (by decide +kernel) rfl) pa_nil))))))))), ?_⟩
    refine ⟨_, rfl, v, d, "int", _, rfl, hd, kit_int d, _, rfl, ?_⟩
    cases d with
    | int i => exact iteT ⟨_, rfl, v, _, "bool", _, rfl, hd, kit_bool _, _, rfl, k⟩
    | bool b => exact iteT ⟨_, rfl, v, _, "bool", _, rfl, hd, kit_bool _, _, rfl, k⟩
    | _ => exact iteF k
theorem port_else {ds : List PyData} {n : Nat} (hl : n = ds.length) (h2 : ¬ n = 2) : isPort (.tuple ds) = false := by
  subst hl
  match ds, h2 with
  | [], _ => rfl
  | [_], _ => rfl
  | [_, _], h2 => exact absurd rfl h2
  | _ :: _ :: _ :: _, _ => rfl
theorem ok__law_port_due (T : Txt P w K mg) : FnR P w K mg base (L2.CX P w) 2 (He.ga K "_law_port_due") (spB K isPort) := by
  have G__law_integer := ok__law_integer (base := base) T
  obtain ⟨fd, F⟩ := T.f__law_port_due
  refine fnR_body F sc__law_port_due (F.bindsN (fun _ _ _ _ _ _ us hl => match us, hl with | [_], _ => rfl)) ?_ ?_
  · rintro vs H Q E ⟨v, d, rfl, _⟩
    rfl
  · rintro cdv A outer s H vs Q E hr ⟨v, d, rfl, hd, k⟩
    refine ⟨_, (PSs.nox (pss_cons (ps_if (PW.pt (pw_or (pt_not (pt_val (pe_callB (Mc.call_isd : CallR _ (.builtin "isinstance") (Mc.rIsd K)) (by rfl) T.m_isinstance (by decide +kernel) (pa_cons (pv 0) (pa_cons (pe_bltn (v := .ty "tuple") (by rfl) T.m_tuple (by decide +kernel) rfl) pa_nil))))) (pw_or1 (pt_cmpR op_ne (pe_callB (call_len : CallR _ (.builtin "len") (Mc.rLen K)) (by rfl) T.m_len (by decide +kernel) (pa_cons (pv 0) pa_nil)) pe_int (nomark _))))) (pss_one (ps_ret pe_bl)) pss_nil)
      (pss_cons (ps_if (PW.pt (pw_or (pt_not (pt_val (Mc.pe_callR G__law_integer (hr.mono (by decide)) (by rfl) T.g__law_integer T.k__law_integer pass_no (pa_cons (pe_ix (ix_tup : IxR _ (rIxT K)) (pv 0) pe_int (fun _ _ => rfl)) pa_nil)))) (pw_or1 (pt_not (pt_val (Mc.pe_callR G__law_integer (hr.mono (by decide)) (by rfl) T.g__law_integer T.k__law_integer pass_no (pa_cons (pe_ix (ix_tup : IxR _ (rIxT K)) (pv 0) pe_int (fun _ _ => rfl)) pa_nil))))))) (pss_one (ps_ret pe_bl)) pss_nil)
      (pss_one (ps_ret (pe_and (pe_cmpR op_ge (pe_ix (ix_tup : IxR _ (rIxT K)) (pv 0) pe_int (fun _ _ => rfl)) pe_int (nomark _)) (pe_one (pe_or (pe_cmpR op_eq (pe_ix (ix_tup : IxR _ (rIxT K)) (pv 0) pe_int (fun _ _ => rfl)) (pe_un un_neg pe_int) (nomark _)) (pe_one (pe_and (pe_cmpR op_ge (pe_ix (ix_tup : IxR _ (rIxT K)) (pv 0) pe_int (fun _ _ => rfl)) pe_int (nomark _)) (pe_one (pe_cmpR op_le (pe_ix (ix_tup : IxR _ (rIxT K)) (pv 0) pe_int (fun _ _ => rfl)) pe_int (nomark _))))))))))))), ?_⟩
    refine ⟨_, rfl, v, d, "tuple", _, rfl, hd, kit_tup d, _, rfl, ?_⟩
    cases d with
    | tuple ds =>
      obtain ⟨a, xs, rfl, hs, hall⟩ := dq_tup hd
      refine iteF ⟨_, rfl, _, xs.length, rfl, .inr ⟨_, hs, rfl⟩, rfl, _, rfl, ?_⟩
      by_cases h2 : xs.length = 2
      · refine iteNS (by rw [h2]; rfl) ?_
        obtain ⟨x, y, d1, d2, rfl, rfl, hx, hy⟩ := dpAll_two hall h2
        refine ⟨_, rfl, a, _, 0, x, rfl, rfl, hs, rfl, x, d1, rfl, .dp hx, _, rfl, ?_⟩
        cases e1 : isInt d1 with
        | false =>
          refine iteT (iteT ?_)
          have e : isPort (.tuple [d1, d2]) = false := portTwo_l d1 d2 e1
          rw [e] at k
          exact k
        | true =>
          refine iteF ⟨_, rfl, a, _, 1, y, rfl, rfl, hs, rfl, y, d2, rfl, .dp hy, _, rfl, ?_⟩
          cases e2 : isInt d2 with
          | false =>
            refine iteT ?_
            have e : isPort (.tuple [d1, d2]) = false := portTwo_r d1 d2 e2
            rw [e] at k
            exact k
          | true =>
            cases d1 with
            | int i =>
              cases d2 with
              | int j =>
                cases hx
                cases hy
                refine iteF ⟨_, rfl, a, _, 1, _, rfl, rfl, hs, rfl, _, _, rfl, rfl, _, rfl, ?_⟩
                have e : isPort (.tuple [.int i, .int j]) = portOk i j := rfl
                rw [e] at k
                unfold portOk at k
                cases c1 : decide ((0 : Int) ≤ j) with
                | false =>
                  rw [c1] at k
                  exact iteF k
                | true =>
                  rw [c1] at k
                  refine iteT ⟨_, rfl, a, _, 0, _, rfl, rfl, hs, rfl, _, rfl, rfl, _, rfl, ?_⟩
                  rw [dec_int']
                  cases c2 : decide (i = -1) with
                  | true =>
                    rw [c2] at k
                    exact iteT k
                  | false =>
                    rw [c2] at k
                    refine iteF ⟨_, rfl, a, _, 0, _, rfl, rfl, hs, rfl, _, _, rfl, rfl, _, rfl, ?_⟩
                    cases c3 : decide ((0 : Int) ≤ i) with
                    | false =>
                      rw [c3] at k
                      exact iteF k
                    | true =>
                      rw [c3] at k
                      exact iteT ⟨_, rfl, a, _, 1, _, rfl, rfl, hs, rfl, _, _, rfl, rfl, k⟩
              | _ => cases e2
            | _ => cases e1
      · have e : decide (V.int (xs.length : Int) = V.int 2) = false := decide_eq_false fun z => h2 (by have := V.int.inj z; omega)
        rw [e]
        refine iteT ?_
        rw [port_else (dpAll_len hall) h2] at k
        exact k
    | _ => exact iteT (iteT k)
def due1 : PyData → Int → Bool
  | .str x, m => decide ((x.length : Int) ≤ m)
  | _, _ => false
def off12 (c : Nat) : Bool := !(c == 49 || c == 50)
theorem all_off : ∀ (cs : List Nat), (cs.all fun c => c == 49 || c == 50) = decide (cs.filter off12 = [])
  | [] => rfl
  | c :: cs => by
    have ih := all_off cs
    cases h : (c == 49 || c == 50) with
    | true =>
      have ho : off12 c = false := by
        unfold off12
        rw [h]
        rfl
      rw [List.all_cons, h, Bool.true_and, ih, List.filter_cons_of_neg (by rw [ho]; decide)]
    | false =>
      have ho : off12 c = true := by
        unfold off12
        rw [h]
        rfl
      rw [List.all_cons, h, Bool.false_and, List.filter_cons_of_pos ho]
      exact (decide_eq_false (fun z => nomatch z)).symm
theorem in_12 (c : Nat) : inV (V.str ⟨#[c]⟩) [V.str "1", V.str "2"] = (c == 49 || c == 50) := by
  have h : ∀ k : Nat, ((⟨#[k]⟩ : Str) == ⟨#[c]⟩) = (c == k) := fun k => by
    rw [Bool.eq_iff_iff, beq_iff_eq, beq_iff_eq]
    constructor
    · intro e
      have e2 := congrArg (fun z : Str => z.cps.toList) e
      have e3 : [k] = [c] := e2
      exact (List.cons.inj e3).1.symm
    · rintro rfl
      rfl
  show (((⟨#[49]⟩ : Str) == ⟨#[c]⟩) || (((⟨#[50]⟩ : Str) == ⟨#[c]⟩) || false)) = _
  rw [h, h, Bool.or_false]
theorem dpAll_signs {H : Hp} : ∀ fs : List Nat, DpAll K H (fs.map fun c => V.str ⟨#[c]⟩) (fs.map fun c => PyData.str ⟨#[c]⟩)
  | [] => .nil
  | _ :: fs => .cons (.str _) (dpAll_signs fs)
theorem shaped_signs (fs : List Nat) (h : ∀ c ∈ fs, c < 1114112) : SeqAt.shaped (.list (fs.map fun c => PyData.str ⟨#[c]⟩)) = true := by
  have h1 : ∀ fs : List Nat, (∀ c ∈ fs, c < 1114112) → PyData.canLayAll0 (fs.map fun c => PyData.str ⟨#[c]⟩) = true := by
    intro fs
    induction fs with
    | nil => intro _; simp only [List.map_nil, PyData.canLayAll0]
    | cons c fs ih =>
      intro h
      have hc := h c List.mem_cons_self
      have h2 := ih fun d hd => h d (List.mem_cons_of_mem _ hd)
      simp only [List.map_cons, PyData.canLayAll0, PyData.canLay0, h2, Bool.and_true]
      simp [PyData.strOk, hc]
  have h2 : ∀ fs : List Nat, PyData.depthAll (fs.map fun c => PyData.str ⟨#[c]⟩) = 0 := by
    intro fs
    induction fs with
    | nil => simp only [List.map_nil, PyData.depthAll]
    | cons c fs ih => simp only [List.map_cons, PyData.depthAll, PyData.depth, ih, Nat.max_self]
  simp only [SeqAt.shaped, PyData.canLay0, PyData.depth, h1 fs h, h2 fs]
  decide
theorem eqv_signs (fs : List Nat) : PyData.eqv (.list (fs.map fun c => PyData.str ⟨#[c]⟩)) (.list []) = decide (fs = []) := by
  cases fs with
  | nil => simp [PyData.eqv, PyData.eqvAll]
  | cons c fs => simp [PyData.eqv, PyData.eqvAll]
def rReprB : List V → Hp → VK → Prop := fun xs H Q => ∃ b, xs = [.bl b] ∧ Q (.str (if b then "True" else "False")) H
/-- the law's own word question agrees -/
def spWR (K : PySem.W.Frag) : Sp := fun vs H Q _ => ∃ (v : V) (m : Int), vs = [v, .int m] ∧ GQ K H 100000 10 v ∧ ∀ H', Ext H H' → Q (.bl true) H'
theorem ok__law_word_right (T : Txt P w K mg) : FnR P w K mg base (L2.CX P w) 2 (He.ga K "_law_word_right") (spWR K) := by
  have G_is_word := ok_is_word (base := base) T
  have G_is_word40 := ok_is_word40 (base := base) T
  obtain ⟨fd, F⟩ := T.f__law_word_right
  refine fnR_body F sc__law_word_right (F.bindsN (fun _ _ _ _ _ _ us hl => match us, hl with | [_, _], _ => rfl)) ?_ ?_
  · rintro vs H Q E ⟨v, m, rfl, _⟩
    rfl
  · rintro cdv A outer s H vs Q E hr ⟨v, m, rfl, ⟨d, hd, sd⟩, k⟩
    refine ⟨_, (PSs.nox (Mc.pss_mid (ps_set (i := 2) sc__law_word_right.nd rfl (Or.inl rfl) (pe_and (pe_callB (Mc.call_isd : CallR _ (.builtin "isinstance") (Mc.rIsd K)) (by rfl) T.m_isinstance (by decide +kernel) (pa_cons (pv 0) (pa_cons (pe_bltn (v := .ty "str") (by rfl) T.m_str (by decide +kernel) rfl) pa_nil))) (pe_one (pe_cmpR op_le (pe_callB (call_len : CallR _ (.builtin "len") (Mc.rLen K)) (by rfl) T.m_len (by decide +kernel) (pa_cons (pv 0) pa_nil)) (pv 1) (nomark _)))))
      (Mc.pss_mid (ps_if (pt_val (pv 2)) (pss_one (ps_set (i := 2) sc__law_word_right.nd rfl (Or.inl rfl) (pe_cmpR ((op_eqD hr.units) : OpR _ _ (rEqD K)) (pe_lc (own := [("_law_sign", 3)]) rfl sc__law_word_right.nd (pi_str (pv 0)) (blkOk_by (own := [("_law_sign", 3)]) (N := N__law_word_right) (sc := defScope s__law_word_right) (by decide +kernel)) (fun _ _ _ _ _ => (pg_name (i := 3) sc__law_word_right.nd rfl (Or.inl rfl))) (fun _ _ _ _ _ => (pts_one (pt_cmpR (op_notIn_seq : OpR _ _ (rIn K true)) (pv 3) (pe_lst (pa_cons pe_str (pa_cons pe_str pa_nil))) (by rfl)))) (fun _ _ _ _ _ => (pv 3))) (pe_lst pa_nil) (nomark _)))) pss_nil)
      (pss_cons (ps_if (PW.pt (pw_and (pt_cmpR op_eq (pv 1) pe_int (nomark _)) (pw_and1 (pt_cmpR op_ne (pe_callB (Mc.call_reprB : CallR _ (.builtin "repr") _) (by rfl) T.m_repr (by decide +kernel) (pa_cons (Mc.pe_callR G_is_word40 (hr.mono (by decide)) (by rfl) T.g_is_word T.k_is_word pass_no (pa_cons (pv 0) pa_nil)) pa_nil)) (pe_callB (Mc.call_reprB : CallR _ (.builtin "repr") _) (by rfl) T.m_repr (by decide +kernel) (pa_cons (pv 2) pa_nil)) (nomark _))))) (pss_one (ps_ret pe_bl)) pss_nil)
      (pss_one (ps_ret (pe_cmpR op_eq (pe_callB (Mc.call_reprB : CallR _ (.builtin "repr") _) (by rfl) T.m_repr (by decide +kernel) (pa_cons (Mc.pe_callR G_is_word (hr.mono (by decide)) (by rfl) T.g_is_word T.k_is_word pass_no (pa_cons (pv 0) (pa_cons (pv 1) pa_nil))) pa_nil)) (pe_callB (Mc.call_reprB : CallR _ (.builtin "repr") _) (by rfl) T.m_repr (by decide +kernel) (pa_cons (pv 2) pa_nil)) (nomark _)))))))), ?_⟩
    have hz : ∀ x, d = .str x → x.length ≤ sizeLine := fun x e => Nat.le_trans (sd.st x e).1 (by decide)
    refine ⟨fun τ G => τ = [some v, some (.int m), some (.bl (due1 d m)), none] ∧ H = G, ?_, ?_⟩
    · refine ⟨_, rfl, v, d, "str", _, rfl, hd, kit_str d, _, rfl, ?_⟩
      cases d with
      | str x =>
        obtain rfl := dq_str hd
        exact iteT ⟨_, rfl, _, x.length, rfl, ⟨hz x rfl, rfl⟩, _, rfl, _, _, rfl, rfl, rfl, rfl⟩
      | _ => exact iteF ⟨rfl, rfl⟩
    rintro _ _ ⟨rfl, rfl⟩
    refine ⟨fun τ G => τ = [some v, some (.int m), some (.bl (isWord d m)), none] ∧ Ext H G, ?_, ?_⟩
    · refine ⟨_, rfl, _, rfl, ?_⟩
      cases e : due1 d m with
      | false =>
        refine iteF ⟨?_, Ext.refl _⟩
        have e2 : isWord d m = false := by
          cases d with
          | str x =>
            have e : decide ((x.length : Int) ≤ m) = false := e
            show (decide ((x.length : Int) ≤ m) && _) = false
            rw [e]
            rfl
          | _ => rfl
        rw [e2]
      | true =>
        cases d with
        | str x =>
          obtain rfl := dq_str hd
          have e : decide ((x.length : Int) ≤ m) = true := e
          have e2 : isWord (.str x) m = decide (x.cps.toList.filter off12 = []) := by
            show (decide ((x.length : Int) ≤ m) && _) = _
            rw [e]
            exact all_off x.cps.toList
          refine iteT ⟨_, rfl, x, rfl, fun D hD => lc_it (walk_str (z := x)) (fun i H' => H' D = some (.lst (((x.cps.toList.take i).filter off12).map fun c => V.str ⟨#[c]⟩)) ∧ Ext H H') ?_ (fun _ _ _ _ => trivial) ?_ ?_⟩
          · exact ⟨upd_same, Ext.new hD⟩
          · rintro i v H1 H2 hi ⟨hl, hE⟩ ⟨rfl, c, hc, rfl⟩
            refine ⟨rfl, ?_⟩
            refine ⟨_, rfl, (by show 2 ≤ sizeLine; decide), fun p hp => ⟨p, _, rfl, .inl (SqL.of upd_same), rfl, rfl, _, rfl, ?_⟩⟩
            have ht : x.cps.toList.take (i + 1) = x.cps.toList.take i ++ [c] := by
              rw [List.take_succ, Array.getElem?_toList, hc]
              rfl
            have hDp : D ≠ p := ne_of_none hl hp
            rw [if_pos rfl, in_12, ht, List.filter_append]
            cases ho : off12 c with
            | false =>
              have ho2 : (!(c == 49 || c == 50)) = false := ho
              rw [ho2]
              refine iteF ⟨?_, hE.trans (Ext.new hp)⟩
              rw [upd_ne hDp, hl, List.filter_cons_of_neg (by rw [ho]; decide), List.filter_nil, List.append_nil]
            | true =>
              have ho2 : (!(c == 49 || c == 50)) = true := ho
              rw [ho2]
              refine iteT ⟨_, rfl, _, (upd_ne hDp).trans hl, ?_, ?_, ?_⟩
              · rw [List.length_map]
                refine Nat.lt_of_le_of_lt (List.length_filter_le _ _) ?_
                rw [List.length_take]
                refine Nat.lt_of_le_of_lt (Nat.min_le_left _ _) (Nat.lt_of_lt_of_le hi (hz x rfl))
              · rw [List.filter_cons_of_pos ho, List.filter_nil, List.map_append]
                exact upd_same
              · intro b o hb
                have e1 : H2 b = some o := hE b o hb
                have e2 : b ≠ D := fun z => by
                  rw [z, hD] at hb
                  cases hb
                rw [upd_ne e2, upd_ne (ne_of_none e1 hp)]
                exact e1
          · rintro H1 ⟨hl, hE⟩
            have hfull : x.cps.toList.take x.cps.size = x.cps.toList := List.take_of_length_le (by rw [Array.length_toList]; exact Nat.le_refl _)
            rw [hfull] at hl
            refine ⟨(by show 0 ≤ sizeLine; decide), fun p hp => ?_⟩
            have hDp : D ≠ p := ne_of_none hl hp
            have hcs : ∀ c ∈ x.cps.toList.filter off12, c < 1114112 := fun c hc => (sd.st x rfl).2 c (List.mem_filter.mp hc).1
            rw [e2]
            generalize x.cps.toList.filter off12 = fs at hl hcs
            refine ⟨.list (fs.map fun c => .str ⟨#[c]⟩), .list [], .lst (SqL.of ((upd_ne hDp).trans hl)) (dpAll_signs fs), .lst (SqL.of upd_same) .nil, shaped_signs fs hcs, by decide +kernel, ?_⟩
            refine ⟨?_, hE.trans (Ext.new hp)⟩
            rw [eqv_signs]
            rfl
        | _ => cases e
    rintro _ G ⟨rfl, hE⟩
    refine ⟨_, rfl, rfl, _, rfl, ?_⟩
    have hd2 := dq_ext hE hd
    have fin : (tRet (tOp rEq (tCB rReprB (tCons (tCallS (spWord K) (fun σ => E0) (tCons (tVar 0) (tCons (tVar 1) tNil))) tNil)) (tCB rReprB (tCons (tVar 2) tNil)))) { nx := fun x H' => Q V.non H', rt := Q } [some v, some (V.int m), some (V.bl (isWord d m)), none] G := by
      refine ⟨_, rfl, _, rfl, v, d, m, rfl, hd2, hz, _, rfl, _, rfl, _, rfl, rfl, ?_⟩
      rw [decide_eq_true rfl]
      exact k G hE
    by_cases h40 : m = 40
    · subst h40
      rw [decide_eq_true rfl]
      refine iteT ⟨_, rfl, v, d, rfl, hd2, hz, _, rfl, _, rfl, _, rfl, rfl, _, rfl, ?_⟩
      exact iteNS rfl fin
    · rw [decide_eq_false fun z => h40 (V.int.inj z)]
      exact iteF (iteF fin)
/-- the law's own colour questions agree -/
def spKR (K : PySem.W.Frag) : Sp := fun vs H Q _ => ∃ (v : V), vs = [v] ∧ GQ K H 100000 10 v ∧ ∀ H', Ext H H' → Q (.bl true) H'
theorem ok__law_kinds_right (T : Txt P w K mg) : FnG P w K mg base (L2.CX P w) 4 (He.ga K "_law_kinds_right") (spKR K) := by
  have G_is_color := fnG_of_R (ok_is_color (base := base) T)
  have G_is_kind := fnG_of_R (ok_is_kind (base := base) T)
  have G_other_color := fnG_of_R (ok_other_color (base := base) T)
  have TC_InvalidKind := T.x_InvalidKind
  obtain ⟨fd, F⟩ := T.f__law_kinds_right
  refine fnG_body F sc__law_kinds_right (F.bindsN (fun _ _ _ _ _ _ us hl => match us, hl with | [_], _ => rfl)) ?_ ?_
  · rintro vs H Q E ⟨v, rfl, _⟩
    rfl
  · rintro cdv A outer s H vs Q E hr hgd ⟨v, rfl, ⟨d, hd, sd⟩, k⟩
    refine ⟨_, (Mc.pss_mid (ps_set (i := 1) sc__law_kinds_right.nd rfl (Or.inl rfl) (pe_and (pe_callB (Mc.call_isd : CallR _ (.builtin "isinstance") (Mc.rIsd K)) (by rfl) T.m_isinstance (by decide +kernel) (pa_cons (pv 0) (pa_cons (pe_bltn (v := .ty "str") (by rfl) T.m_str (by decide +kernel) rfl) pa_nil))) (pe_one (pe_cmpR (op_in_seq : OpR _ _ (rIn K false)) (pv 0) (pe_lst (pa_cons pe_str (pa_cons pe_str pa_nil))) (by rfl)))))
      (Mc.pss_mid (ps_set (i := 2) sc__law_kinds_right.nd rfl (Or.inl rfl) (pe_or (pv 1) (pe_one (pe_and (pe_callB (Mc.call_isd : CallR _ (.builtin "isinstance") (Mc.rIsd K)) (by rfl) T.m_isinstance (by decide +kernel) (pa_cons (pv 0) (pa_cons (pe_bltn (v := .ty "str") (by rfl) T.m_str (by decide +kernel) rfl) pa_nil))) (pe_one (pe_cmpR op_eq (pv 0) pe_str (nomark _)))))))
      (Mc.pss_mid (ps_if (PW.pt (pw_or (pt_cmpR op_ne (pe_callB (Mc.call_reprB : CallR _ (.builtin "repr") _) (by rfl) T.m_repr (by decide +kernel) (pa_cons (Mc.pe_callG G_is_color (hr.mono (by decide)) hgd (by rfl) T.g_is_color T.k_is_color pass_no (pa_cons (pv 0) pa_nil)) pa_nil)) (pe_callB (Mc.call_reprB : CallR _ (.builtin "repr") _) (by rfl) T.m_repr (by decide +kernel) (pa_cons (pv 1) pa_nil)) (nomark _)) (pw_or1 (pt_cmpR op_ne (pe_callB (Mc.call_reprB : CallR _ (.builtin "repr") _) (by rfl) T.m_repr (by decide +kernel) (pa_cons (Mc.pe_callG G_is_kind (hr.mono (by decide)) hgd (by rfl) T.g_is_kind T.k_is_kind pass_no (pa_cons (pv 0) pa_nil)) pa_nil)) (pe_callB (Mc.call_reprB : CallR _ (.builtin "repr") _) (by rfl) T.m_repr (by decide +kernel) (pa_cons (pv 2) pa_nil)) (nomark _))))) (pss_one (ps_ret pe_bl)) pss_nil)
      (pss_cons (Mc.ps_try_mix rfl rfl sc__law_kinds_right.nd takes0 (fun W pn xe tk po => (pss_cons (ps_set (i := 3) sc__law_kinds_right.nd rfl (Or.inl rfl) (Mc.pe_callG G_other_color (hr.mono (by decide)) hgd (by rfl) T.g_other_color T.k_other_color (fun σ => passAt tk σ) (pa_cons (pv 0) pa_nil)))
      (pss_one (ps_if (pt_val (pv 1)) (pss_one (ps_ret (pe_and (pe_callB (Mc.call_isd : CallR _ (.builtin "isinstance") (Mc.rIsd K)) (by rfl) T.m_isinstance (by decide +kernel) (pa_cons (pv 3) (pa_cons (pe_bltn (v := .ty "str") (by rfl) T.m_str (by decide +kernel) rfl) pa_nil))) (pe_one (pe_cmpR op_eq (pv 3) (pe_ix (ix_list : IxR _ (rIxL K)) (pe_lst (pa_cons pe_str (pa_cons pe_str pa_nil))) (pe_callTy call_int1 (by rfl) T.m_int (by decide +kernel) (pa_cons (pe_cmpR op_eq (pv 0) pe_str (nomark _)) pa_nil)) (fun _ _ => rfl)) (nomark _)))))) pss_nil)))) (Mc.HdsMix.named (i := 4) rfl rfl ⟨by rfl, by decide, Or.inl T.g_InvalidKind⟩ (fun a oe cls d pn hz hf => (pss_one (ps_ret (pe_and (pe_not (pv 1)) (pe_one (pe_cmpR op_eq (pe_callB ((Mc.call_repr hgd hr.units) : CallR _ (.builtin "repr") (Mc.rRepr K)) (by rfl) T.m_repr (by decide +kernel) (pa_cons (Mc.pe_valMe TC_InvalidKind hz hf (pv 4)) pa_nil)) (pe_callB ((Mc.call_repr hgd hr.units) : CallR _ (.builtin "repr") (Mc.rRepr K)) (by rfl) T.m_repr (by decide +kernel) (pa_cons (pv 0) pa_nil)) (nomark _))))))) (Mc.HdsMix.bare ⟨by rfl, by decide, Or.inl T.g_MeetcellsError⟩ (fun a oe cls d pn hz hf => (pss_one (ps_ret pe_bl))) Mc.HdsMix.nil)))
      (pss_one (ps_ret pe_bl)))))), ?_⟩
    have sh : Shows d := sd.shows (by decide) (by decide)
    refine ⟨fun τ G => τ = [some v, some (.bl (isColor d)), none, none, none] ∧ Ext H G, ?_, ?_⟩
    · refine ⟨_, rfl, v, d, "str", _, rfl, hd, kit_str d, _, rfl, ?_⟩
      cases d with
      | str x =>
        obtain rfl := dq_str hd
        refine iteT ⟨_, rfl, (by show 2 ≤ sizeLine; decide), fun p hp => ⟨p, _, rfl, .inl (SqL.of upd_same), rfl, rfl, ?_, Ext.new hp⟩⟩
        rw [if_neg Bool.false_ne_true, in_colors]
        rfl
      | _ => exact iteF ⟨rfl, Ext.refl _⟩
    rintro _ G ⟨rfl, hE⟩
    have hd2 := dq_ext hE hd
    refine ⟨fun τ G => τ = [some v, some (.bl (isColor d)), some (.bl (isKind d)), none, none] ∧ Ext H G, ?_, ?_⟩
    · refine ⟨_, rfl, _, rfl, ?_⟩
      unfold isKind
      cases e : isColor d with
      | true => exact iteT ⟨rfl, hE⟩
      | false =>
        refine iteF ⟨_, rfl, v, d, "str", _, rfl, hd2, kit_str d, _, rfl, ?_⟩
        cases d with
        | str x =>
          obtain rfl := dq_str hd
          refine iteT ⟨_, rfl, rfl, ?_, hE⟩
          rw [dec_str]
          rfl
        | _ => exact iteF ⟨rfl, hE⟩
    rintro _ G ⟨rfl, hE⟩
    have hd2 := dq_ext hE hd
    refine ⟨fun τ G => τ = [some v, some (.bl (isColor d)), some (.bl (isKind d)), none, none] ∧ Ext H G, ?_, ?_⟩
    · exact ⟨_, rfl, v, d, rfl, hd2, _, rfl, _, rfl, _, rfl, rfl, _, rfl, iteNS rfl ⟨_, rfl, v, d, rfl, hd2, _, rfl, _, rfl, _, rfl, rfl, _, rfl, iteNS rfl ⟨rfl, hE⟩⟩⟩
    rintro _ G ⟨rfl, hE⟩
    have hd2 := dq_ext hE hd
    refine ⟨_, rfl, v, d, rfl, hd2, fun x e hc => ?_, fun hc ee hee => ?_⟩
    · subst e
      obtain rfl := dq_str hd
      refine ⟨_, rfl, _, rfl, ?_⟩
      rw [hc]
      refine iteT ⟨_, rfl, _, .str (other x), "str", _, rfl, .dp (.str _), kit_str _, _, rfl, iteT ⟨_, rfl, (by show 2 ≤ sizeLine; decide), fun p hp => ⟨_, rfl, rfl, .inr ⟨_, rfl, ?_⟩⟩⟩⟩
      have hx : x = "red" ∨ x = "blue" := by
        have hc : (x == "red" || x == "blue") = true := hc
        rcases Bool.or_eq_true_iff.mp hc with h | h
        · exact .inl (eq_of_beq h)
        · exact .inr (eq_of_beq h)
      rcases hx with rfl | rfl
      · refine ⟨p, _, 0, .str "blue", rfl, rfl, SqL.of upd_same, rfl, rfl, ?_⟩
        exact k _ (hE.trans (Ext.new hp))
      · refine ⟨p, _, 1, .str "red", rfl, rfl, SqL.of upd_same, rfl, rfl, ?_⟩
        exact k _ (hE.trans (Ext.new hp))
    · refine ⟨true, T.e_InvalidKind_InvalidKind, fun _ a ha => ?_, fun z => nomatch z⟩
      have hE2 := hE.trans (Ext.new (o := .xd [(("value" : Str), v)]) hee)
      have hd3 := dq_ext hE2 hd
      rw [hc]
      refine ⟨_, rfl, _, rfl, _, rfl, iteT ⟨_, rfl, rfl, rfl, ee, v, rfl, upd_same, v, d, rfl, hd3, sh, _, rfl, v, d, rfl, hd3, sh, rfl, ?_⟩⟩
      rw [decide_eq_true rfl]
      exact k _ hE2
end Me
namespace Me
open PySem PySem.Spec PyProof.Rows L2 Mc
variable {P : Program} {w : World} {K : PySem.W.Frag} {mg : Str → Option Value} {base : Heap}
def spLaw (K : PySem.W.Frag) : Sp := fun vs H Q _ => ∃ (a : Addr) (ns : List Int), vs = [.ref a] ∧ SqL K H a (ns.map V.int) ∧ ∀ H', Q (.bl true) H'
theorem ok_law (T : Txt P w K mg) : FnG P w K mg base (L2.CX P w) 5 (He.ga K "law") (spLaw K) := by
  have G__law_cell := fnG_of_R (ok__law_cell (base := base) T)
  have G__law_box := fnG_of_R (ok__law_box (base := base) T)
  have G__law_values := fnG_of_R (ok__law_values (base := base) T)
  have G__law_take := fnG_of_R (ok__law_take (base := base) T)
  have G__law_word := fnG_of_R (ok__law_word (base := base) T)
  have G__law_kinds_right := ok__law_kinds_right (base := base) T
  have G__law_word_right := fnG_of_R (ok__law_word_right (base := base) T)
  have G__law_integer := fnG_of_R (ok__law_integer (base := base) T)
  have G__law_port_due := fnG_of_R (ok__law_port_due (base := base) T)
  have G_is_integer := fnG_of_R (ok_is_integer (base := base) T)
  have G_is_port := fnG_of_R (ok_is_port (base := base) T)
  have G_word_key := fnG_of_R (ok_word_key (base := base) T)
  obtain ⟨fd, F⟩ := T.f_law
  refine fnG_body F sc_law (F.bindsN (fun _ _ _ _ _ _ us hl => match us, hl with | [_], _ => rfl)) ?_ ?_
  · rintro vs H Q E ⟨a, ns, rfl, _⟩
    rfl
  · rintro cdv A outer s H vs Q E hr hgd ⟨a, ns, rfl, hs, q⟩
    refine ⟨_, (Mc.pss_mid (ps_for (passes_of rfl) rfl (pi_range1 (by rfl) T.m_range (pa_cons (pe_callB (call_max2 rfl) (by rfl) T.m_max (by decide +kernel) (pa_cons pe_int (pa_cons (pe_callB (call_min2 rfl) (by rfl) T.m_min (by decide +kernel) (pa_cons pe_int (pa_cons (pe_callB (call_len : CallR _ (.builtin "len") (Mc.rLen K)) (by rfl) T.m_len (by decide +kernel) (pa_cons (pv 0) pa_nil)) pa_nil))) pa_nil))) pa_nil)) (pg_name (i := 1) sc_law.nd rfl (Or.inl rfl))
      (Mc.pss_mid (ps_set (i := 2) sc_law.nd rfl (Or.inl rfl) (Mc.pe_callG G__law_box (hr.mono (by decide)) hgd (by rfl) T.g__law_box T.k__law_box pass_no (pa_cons (Mc.pe_callG G__law_cell (hr.mono (by decide)) hgd (by rfl) T.g__law_cell T.k__law_cell pass_no (pa_cons (pv 0) (pa_cons (pv 1) pa_nil))) pa_nil)))
      (Mc.pss_mid (ps_set (i := 3) sc_law.nd rfl (Or.inl rfl) (Mc.pe_callG G__law_values (hr.mono (by decide)) hgd (by rfl) T.g__law_values T.k__law_values pass_no (pa_cons (pv 2) pa_nil)))
      (Mc.pss_mid (ps_set (i := 4) sc_law.nd rfl (Or.inl rfl) (pe_ix (ix_list : IxR _ (rIxL K)) (pe_lst (pa_cons pe_int (pa_cons pe_int (pa_cons pe_int (pa_cons pe_int (pa_cons pe_int (pa_cons pe_int pa_nil))))))) (Mc.pe_callG G__law_take (hr.mono (by decide)) hgd (by rfl) T.g__law_take T.k__law_take pass_no (pa_cons (pv 2) (pa_cons pe_int pa_nil))) (fun _ _ => rfl)))
      (Mc.pss_mid (ps_for (passes_of rfl) rfl (pi_list (pe_op op_cat (pv 3) (pe_revL (pv 3) : PE _ _ (tRevL K _))) : PI _ _ _ (iList K _)) (pg_name (i := 5) sc_law.nd rfl (Or.inl rfl))
      (Mc.pss_mid (ps_if (PW.pt (pw_or (pt_not (pt_val (Mc.pe_callG G__law_kinds_right (hr.mono (by decide)) hgd (by rfl) T.g__law_kinds_right T.k__law_kinds_right pass_no (pa_cons (pv 5) pa_nil)))) (pw_or1 (pt_not (pt_val (Mc.pe_callG G__law_word_right (hr.mono (by decide)) hgd (by rfl) T.g__law_word_right T.k__law_word_right pass_no (pa_cons (pv 5) (pa_cons (pv 4) pa_nil)))))))) (pss_one (ps_ret pe_bl)) pss_nil)
      (Mc.pss_mid (ps_if (pt_cmpR op_ne (pe_callB (Mc.call_reprB : CallR _ (.builtin "repr") _) (by rfl) T.m_repr (by decide +kernel) (pa_cons (Mc.pe_callG G_is_integer (hr.mono (by decide)) hgd (by rfl) T.g_is_integer T.k_is_integer pass_no (pa_cons (pv 5) pa_nil)) pa_nil)) (pe_callB (Mc.call_reprB : CallR _ (.builtin "repr") _) (by rfl) T.m_repr (by decide +kernel) (pa_cons (Mc.pe_callG G__law_integer (hr.mono (by decide)) hgd (by rfl) T.g__law_integer T.k__law_integer pass_no (pa_cons (pv 5) pa_nil)) pa_nil)) (nomark _)) (pss_one (ps_ret pe_bl)) pss_nil)
      (pss_one (ps_if (pt_cmpR op_ne (pe_callB (Mc.call_reprB : CallR _ (.builtin "repr") _) (by rfl) T.m_repr (by decide +kernel) (pa_cons (Mc.pe_callG G_is_port (hr.mono (by decide)) hgd (by rfl) T.g_is_port T.k_is_port pass_no (pa_cons (pv 5) pa_nil)) pa_nil)) (pe_callB (Mc.call_reprB : CallR _ (.builtin "repr") _) (by rfl) T.m_repr (by decide +kernel) (pa_cons (Mc.pe_callG G__law_port_due (hr.mono (by decide)) hgd (by rfl) T.g__law_port_due T.k__law_port_due pass_no (pa_cons (pv 5) pa_nil)) pa_nil)) (nomark _)) (pss_one (ps_ret pe_bl)) pss_nil)))))
      (Mc.pss_mid (ps_par (i := 6) (j := 7) (by rfl) sc_law.nd rfl rfl (by decide) rfl rfl (pa_cons (Mc.pe_callG G__law_word (hr.mono (by decide)) hgd (by rfl) T.g__law_word T.k__law_word pass_no (pa_cons (pv 2) (pa_cons pe_int pa_nil))) (pa_cons (Mc.pe_callG G__law_word (hr.mono (by decide)) hgd (by rfl) T.g__law_word T.k__law_word pass_no (pa_cons (pv 2) (pa_cons pe_int pa_nil))) pa_nil)) (by rfl))
      (pss_one (ps_if (pt_cmpR op_ne (pe_callB ((Mc.call_repr hgd hr.units) : CallR _ (.builtin "repr") (Mc.rRepr K)) (by rfl) T.m_repr (by decide +kernel) (pa_cons (Mc.pe_callG G_word_key (hr.mono (by decide)) hgd (by rfl) T.g_word_key T.k_word_key pass_no (pa_cons (pv 6) (pa_cons (pv 7) pa_nil))) pa_nil)) (pe_callB ((Mc.call_repr hgd hr.units) : CallR _ (.builtin "repr") (Mc.rRepr K)) (by rfl) T.m_repr (by decide +kernel) (pa_cons (pe_tup (pa_cons (pe_op op_add (pe_callB (call_len : CallR _ (.builtin "len") (Mc.rLen K)) (by rfl) T.m_len (by decide +kernel) (pa_cons (pv 6) pa_nil)) (pe_callB (call_len : CallR _ (.builtin "len") (Mc.rLen K)) (by rfl) T.m_len (by decide +kernel) (pa_cons (pv 7) pa_nil))) (pa_cons (pv 6) (pa_cons (pv 7) pa_nil)))) pa_nil)) (nomark _)) (pss_one (ps_ret pe_bl)) pss_nil))))))))
      (pss_one (ps_ret pe_bl))), ?_⟩
    have ml : ((ns.map V.int).length : Int) ≥ 0 := Int.natCast_nonneg _
    refine ⟨fun _ _ => True, ?_, fun τ G _ => q G⟩
    refine ⟨_, rfl, _, (ns.map V.int).length, rfl, .inl ⟨_, hs, rfl⟩, _, _, rfl, _, _, rfl, _, rfl, ?_, ?_, ?_⟩
    · split <;> omega
    · split
      · split <;> omega
      · omega
    refine for_it walk_range (fun i σ G => ∃ y1 y2 y3 y4 y5 y6 y7 : Option V, σ = [some (.ref a), y1, y2, y3, y4, y5, y6, y7] ∧ Ext H G) ⟨_, _, _, _, _, _, _, rfl, Ext.refl _⟩ (fun _ _ _ _ _ => trivial) ?_ (fun _ _ _ => trivial)
    rintro i x σ G0 G hi ⟨y1, y2, y3, y4, y5, y6, y7, rfl, hE⟩ ⟨rfl, rfl⟩
    -- the box
    refine ⟨fun τ G => ∃ (z : Int) (b : Addr), τ = [some (.ref a), some (.int z), some (.ref b), y3, y4, y5, y6, y7] ∧ BoxAt G b 0 ∧ H b = none ∧ Ext H G, ?_, ?_⟩
    · refine ⟨_, rfl, _, rfl, a, ns, _, rfl, hE.sqL hs, by omega, fun z => ⟨z, rfl, fun b G1 hb hB hf => ⟨_, b, rfl, hB, hE.fresh hb, fun c o e => ?_⟩⟩⟩
      have e1 := hE c o e
      rw [hf c (ne_of_none e1 hb)]
      exact e1
    rintro _ G1 ⟨z, b, rfl, hB, hbn, hE1⟩
    -- the values
    refine ⟨fun τ G => ∃ (p : Addr) (xs : List V), τ = [some (.ref a), some (.int z), some (.ref b), some (.ref p), y4, y5, y6, y7] ∧ BoxAt G b 100 ∧ G p = some (.lst xs) ∧ xs.length ≤ 100 ∧ (∀ v ∈ xs, GQ K G 100000 10 v) ∧ p ≠ b ∧ Ext H G, ?_, ?_⟩
    · refine ⟨_, rfl, b, 0, rfl, hB, by omega, fun p xs G2 hp hpx hl hg hB2 hK => ⟨p, xs, rfl, hB2.up (by omega), hpx, hl, hg, ?_, fun c o e => hK c o (hE1 c o e) ?_⟩⟩
      · rintro rfl
        obtain ⟨l, e⟩ := hB.some_
        rw [hp] at e
        cases e
      · rintro rfl
        rw [hbn] at e
        cases e
    rintro _ G2 ⟨p, xs, rfl, hB2, hpx, hl, hg, hpb, hE2⟩
    -- how many signs at most
    refine ⟨fun τ G => ∃ (m : Int), τ = [some (.ref a), some (.int z), some (.ref b), some (.ref p), some (.int m), y5, y6, y7] ∧ BoxAt G b 101 ∧ G p = some (.lst xs) ∧ (∀ v ∈ xs, GQ K G 100000 10 v) ∧ Ext H G, ?_, ?_⟩
    · refine ⟨(by show 6 ≤ sizeLine; decide), fun pm hpm => ?_⟩
      have hbm : b ≠ pm := by
        obtain ⟨l, e⟩ := hB2.some_
        exact ne_of_none e hpm
      have hBm : ∀ o, BoxAt (upd G2 pm o) b 100 := fun o => hB2.same (upd_ne hbm)
      refine ⟨_, rfl, b, 100, 6, rfl, hBm _, by omega, by omega, by omega, fun z4 G3 h0 h1 hB3 hf => ?_⟩
      obtain ⟨m, hm, hmm⟩ := atI_mem (xs := [V.int 40, V.int 40, V.int 0, V.int 60, V.int 61, V.int 100]) h0 (by show z4 < ((6 : Nat) : Int); exact h1)
      obtain ⟨mi, rfl⟩ : ∃ i, m = .int i := by
        simp only [List.mem_cons, List.not_mem_nil, or_false] at hmm
        rcases hmm with rfl | rfl | rfl | rfl | rfl | rfl <;> exact ⟨_, rfl⟩
      have hEm : Ext H G3 := fun c o e => by
        have hc : c ≠ b := by
          rintro rfl
          rw [hbn] at e
          cases e
        exact (hf c hc).trans (Ext.new hpm c o (hE2 c o e))
      refine ⟨pm, _, z4, _, rfl, rfl, SqL.of ((hf pm hbm.symm).trans upd_same), hm, mi, rfl, hB3, (hf p hpb).trans (Ext.new hpm _ _ hpx), fun v hv => ?_, hEm⟩
      obtain ⟨x0, x1, x2, e, _⟩ := (hBm _).ex
      exact ((hg v hv).ext (Ext.new hpm)).box e hf
    rintro _ G3 ⟨m, rfl, hB3, hpx3, hg3, hE3⟩
    -- all values, there and back
    refine ⟨fun τ G => ∃ y5, τ = [some (.ref a), some (.int z), some (.ref b), some (.ref p), some (.int m), y5, y6, y7] ∧ BoxAt G b 101 ∧ Ext H G, ?_, ?_⟩
    · refine ⟨_, rfl, _, rfl, p, xs, rfl, SqL.of hpx3, fun p2 hp2 => ⟨p, p2, xs, xs.reverse, rfl, rfl, Ext.new hp2 _ _ hpx3, upd_same, ?_, fun p3 hp3 => ⟨p3, rfl, ⟨_, SqL.of upd_same⟩, ?_⟩⟩⟩
      · rw [List.length_reverse]
        exact Nat.le_trans (show xs.length + xs.length ≤ 200 by omega) (by decide)
      have e4 : Ext G3 (upd (upd G3 p2 (.lst xs.reverse)) p3 (.lst (xs ++ xs.reverse))) := (Ext.new hp2).trans (Ext.new hp3)
      refine for_it (walk_list (xs := xs ++ xs.reverse)) (fun i σ G => ∃ y5, σ = [some (.ref a), some (.int z), some (.ref b), some (.ref p), some (.int m), y5, y6, y7] ∧ Ext (upd (upd G3 p2 (.lst xs.reverse)) p3 (.lst (xs ++ xs.reverse))) G)
        ⟨_, rfl, Ext.refl _⟩ (fun i σ G _ ⟨y5, _, e⟩ => e.sqL (SqL.of upd_same)) ?_ ?_
      · rintro j v σ G4 G5 hj ⟨y5, rfl, he⟩ ⟨rfl, hv⟩
        have hvm : v ∈ xs := by
          rcases List.mem_append.mp (List.mem_of_getElem? hv) with h | h
          · exact h
          · exact List.mem_reverse.mp h
        have gv : GQ K G5 100000 10 v := (hg3 v hvm).ext (e4.trans he)
        refine ⟨fun τ G => τ = [some (.ref a), some (.int z), some (.ref b), some (.ref p), some (.int m), some v, y6, y7] ∧ Ext G5 G, ?_, ?_⟩
        · exact ⟨_, rfl, v, rfl, gv, fun G6 e6 => ⟨_, rfl, iteF ⟨_, rfl, _, rfl, v, m, rfl, gv.ext e6, fun G7 e7 => ⟨_, rfl, iteF ⟨rfl, e6.trans e7⟩⟩⟩⟩⟩
        rintro _ G6 ⟨rfl, e6⟩
        obtain ⟨d, hd, sd⟩ := gv.ext e6
        refine ⟨fun τ G => τ = [some (.ref a), some (.int z), some (.ref b), some (.ref p), some (.int m), some v, y6, y7] ∧ G = G6, ?_, ?_⟩
        · exact ⟨_, rfl, v, d, rfl, hd, _, rfl, _, rfl, v, d, rfl, hd, _, rfl, rfl, _, rfl, iteNS rfl ⟨rfl, rfl⟩⟩
        rintro _ _ ⟨rfl, rfl⟩
        exact ⟨_, rfl, v, d, rfl, hd, _, rfl, _, rfl, v, d, rfl, hd, _, rfl, rfl, _, rfl, iteNS rfl ⟨_, rfl, he.trans e6⟩⟩
      · rintro σ G ⟨y5, rfl, he⟩
        exact ⟨y5, rfl, hB3.ext (e4.trans he), hE3.trans (e4.trans he)⟩
    rintro _ G8 ⟨y5, rfl, hB8, hE8⟩
    -- two words
    refine ⟨fun τ G => ∃ cs1 cs2 : List Nat, τ = [some (.ref a), some (.int z), some (.ref b), some (.ref p), some (.int m), y5, some (.str (word cs1)), some (.str (word cs2))] ∧ cs1.length ≤ 80 ∧ cs2.length ≤ 80 ∧ (∀ c ∈ cs1, c = 49 ∨ c = 50) ∧ (∀ c ∈ cs2, c = 49 ∨ c = 50) ∧ Ext H G, ?_, ?_⟩
    · refine ⟨_, rfl, b, 101, 80, rfl, hB8, by omega, by omega, by omega, fun cs1 G9 hl1 hc1 hB9 hK9 => ⟨_, rfl, b, _, 80, rfl, hB9, by omega, by omega, by omega, fun cs2 G10 hl2 hc2 hB10 hK10 => ⟨_, _, rfl, cs1, cs2, rfl, by omega, by omega, hc1, hc2, fun c o e => ?_⟩⟩⟩
      have hc : c ≠ b := by
        rintro rfl
        rw [hbn] at e
        cases e
      exact hK10 c o (hK9 c o (hE8 c o e) hc) hc
    rintro _ G10 ⟨cs1, cs2, rfl, hl1, hl2, hc1, hc2, hE10⟩
    have x1 : Tx 80 (word cs1) := tx_signs hl1 fun c hc => by rcases hc1 c hc with rfl | rfl <;> decide
    have x2 : Tx 80 (word cs2) := tx_signs hl2 fun c hc => by rcases hc2 c hc with rfl | rfl <;> decide
    generalize word cs1 = r1 at x1 ⊢
    generalize word cs2 = r2 at x2 ⊢
    have hn1 := x1.len
    have hn2 := x2.len
    have sh : Shows (.tuple [.int ((r1.length : Int) + r2.length), .str r1, .str r2]) := by
      have h1 : Sm 4 0 (.int ((r1.length : Int) + r2.length)) := sm_int (k := 3) (by decide) (by decide) (by omega)
      have h2 := sm_str x1.len x1.sg
      have h3 := sm_str x2.len x2.sg
      refine (sm_tuple (n := 1000) (k := 0) (all_cons (h1.up (by decide) (by decide)) (all_cons (h2.up (by decide) (by decide)) (all_cons (h3.up (by decide) (by decide)) all_nil)))).shows (by show 1000 * 3 + 2 * 3 + 3 ≤ 10000000; decide) (by decide)
    have hall : ∀ H : Hp, DpAll K H [.int ((r1.length : Int) + r2.length), .str r1, .str r2] [.int ((r1.length : Int) + r2.length), .str r1, .str r2] := fun H => .cons (.int _) (.cons (.str _) (.cons (.str _) .nil))
    refine ⟨_, rfl, _, rfl, r1, r2, rfl, x1.size, x2.size, fun p1 hp1 => ⟨_, _, rfl, .dp (.tup (.inl (.inl upd_same)) (hall _)), sh, ?_⟩⟩
    refine ⟨_, rfl, _, r1.length, rfl, ⟨x1.size, rfl⟩, _, rfl, _, r2.length, rfl, ⟨x2.size, rfl⟩, _, _, rfl, rfl, _, rfl, _, rfl, (by show 3 ≤ sizeLine; decide), fun p2 hp2 => ⟨_, _, rfl, .dp (.tup (.inl (.inl upd_same)) (hall _)), sh, rfl, _, rfl, ?_⟩⟩
    exact iteNS rfl ⟨_, _, _, _, _, _, _, rfl, (hE10.trans (Ext.new hp1)).trans (Ext.new hp2)⟩
end Me
open PySem PySem.W PySem.Calls PyProof.Rows
theorem PySem.Challenge.cw_meetcells_k01_words_kinds_and_ports_holds : PySem.Challenge.rw_meetcells_k01_words_kinds_and_ports.Holds := by
  w_on; o_law
  refine HandSHeadRun.head_any (r := OpenLaw.row PySem.Challenge.rw_meetcells_k01_words_kinds_and_ports) (q := view (OpenLaw.row PySem.Challenge.rw_meetcells_k01_words_kinds_and_ports).prog [22]) (H := Me.hk) (ob := Me.ob) (M := 4000) (loose := Me.loose) (d := HandSHeadRun.topDef (OpenLaw.row PySem.Challenge.rw_meetcells_k01_words_kinds_and_ports).prog 22) (kwd := []) Me.ob_eq
    (by kernel_rfl) (fun s => by kernel_rfl) Me.run (by kernel_rfl) (by kernel_rfl) (by kernel_rfl) (by rfl) (by first | assumption | decide +kernel) (by decide +kernel) ⟨rfl, rfl, rfl, rfl, rfl, by decide +kernel⟩ ?hw ?hc
  case hw => w_witness2
  case hc =>
    refine Mc.walk_ofG (l := PySem.Challenge.rw_meetcells_k01_words_kinds_and_ports) (n := 63) (k := 5) (C := fun w => L2.CX PySem.Challenge.pw_meetcells_k01_words_kinds_and_ports w) rfl (by decide) (by kernel_rfl) ⟨rfl, by decide, by decide⟩ ?F (fun _ _ _ _ _ z => z.elim fun _ z => z.elim fun _ z => z.elim fun _ z => z.elim fun _ z => z.elim fun _ z => z.2.2.2.2.2.2.2)
    intro w mg fa h Y G hmg0
    obtain ⟨K, KX, c⟩ := Y
    have hmg : mg ("law" : PySem.Str) = some (.ref fa) := by
      have e : (HandSHeadRun.topDef (OpenLaw.row PySem.Challenge.rw_meetcells_k01_words_kinds_and_ports).prog 22).name = ("law" : PySem.Str) := by kernel_rfl
      rw [← e]
      exact hmg0
    have T := Me.txt_mk (P := PySem.Challenge.pw_meetcells_k01_words_kinds_and_ports) (w := w) rfl KX G c
    have e := hmg.symm.trans T.g_law
    cases e
    exact ⟨K, Me.spLaw K, KX, fun H a ns hl _ hS => ⟨a, ns, rfl, hS, fun _ => rfl⟩, fun base _ _ => Me.ok_law T⟩
